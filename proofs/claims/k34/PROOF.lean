import PyProof.Rows.All
import Wide.All
import OpenK.AllK
import Wide.FinOn
import KE.KStateDown
import Lean
import HandS.ForMost
import HandS.ForExc
import HandS.Wide
import HandS.WideBits
import HandS.Text
import HandS.Defaults
import HandS.TupAny
import HandS.NoneIn
import HandS.EndBits
import HandS.HeadEnd
import HandS.Head0
import HandS.Head1
import HandS.Head2
import HandS.HeadHook1
import HandS.HeadHook2
import HandS.DeepEq
import HandS.More
import HandS.DictComp
import HandS.IsInst
import HandS.ExcOwn
import HandS.ExcIs
import HandS.CallLocal
import HandS.HotCalls
import HandS.ExcCtx
import KE.SortData
import KE.DataFind
import HandS.Conv
import HandS.Deep
import HandS.SetFor
import HandS.Strs
import HandS.Zip
import HandS.TupMul
import HandS.SetKeys
import KE.GoesNew
import HandS.Hot
import KE.KIndexOf
import PySem.Challenge.RW_loopcube_k34_heights_and_weights

/-! ## VRep -/
set_option Elab.async false
set_option linter.all false
set_option maxHeartbeats 0
set_option maxRecDepth 100000
namespace VV
open PySem PySem.Spec PyProof.Rows L2

/-- keys of dicts -/
inductive Ky where
  | k (x : Key) | t (xs : List Key)
  deriving DecidableEq

/-- the module's names, the written part -/
structure Mg where
  mg : Str → Option Value
  K : PySem.W.Frag
abbrev _root_.L2.Cx.vm (X : Cx) : Mg := ⟨X.mg, X.K⟩
/-- the script's list -/
def ScrAt (K : PySem.W.Frag) (H : Hp) (a : Addr) (xs : List V) : Prop := (∃ o, H a = some (.frz o (.lst xs))) ∨
    ∃ (o : Obj) (its : Array Value) (n : Nat), K.lookup a = some o ∧ o.cls = .type "list" ∧ o.dict = none ∧ o.data = .seq its n ∧ its.size ≤ sizeLine ∧ Vals xs its.toList
theorem ScrAt.sq {K : PySem.W.Frag} {H : Hp} {a : Addr} {xs : List V} (h : ScrAt K H a xs) : SqL K H a xs := h.imp .inr id
/-- a value as a tree -/
inductive D where
  | non | bl (b : Bool) | int (i : Int) | str (s : Str)
  | tup (l : List D) | lst (l : List D)
  /-- the script: a list that is known to the object -/
  | scr (l : List D)
  | dic (tk : Bool) (ks : List Ky) (vs : List D)
  | obj (c : Str) (ns : List Str) (fs : List D)
  | fn (x : Str)
  /-- a tuple of whole numbers that is known to the object, without a dict of its own -/
  | kti (l : List Int)

/-- what stands at a may still be read as before -/
def _root_.L2.HO.bare : HO → Prop
  | .frz _ _ => False
  | _ => True
def Kp (H H' : Hp) (a : Addr) : Prop := (∀ u : HO, u.bare → Rd H a u → Rd H' a u) ∧ ∀ vs, H a = some (.lst vs) → H' a = some (.lst vs)
/-- tuples and the script stay -/
def KpT (H H' : Hp) : Prop := (∀ a xs, H a = some (.tup xs) → H' a = some (.tup xs)) ∧ (∀ a o vs, H a = some (.frz o (.lst vs)) → H' a = some (.frz o (.lst vs))) ∧ ∀ a o vs, H a = some (.frz o (.tup vs)) → H' a = some (.frz o (.tup vs))
/-- the dict at a has these keys and values; tk: its keys are tuples -/
def RdD (H : Hp) (a : Addr) (tk : Bool) (ks : List Ky) (vs : List V) : Prop :=
  (ks.length = vs.length ∧ ks.Nodup) ∧ match tk with
  | false => ∃ kl : List Key, ks = kl.map Ky.k ∧ Rd H a (.dK (kl.zip vs))
  | true => ∃ kl : List (List Key), ks = kl.map Ky.t ∧ Rd H a (.dT (kl.zip vs))

mutual
def Rep (mg : Mg) (H : Hp) : D → V → List Addr → Prop
  | .non, v, fp => v = .non ∧ fp = []
  | .bl b, v, fp => v = .bl b ∧ fp = []
  | .int i, v, fp => v = .int i ∧ fp = []
  | .str s, v, fp => v = .str s ∧ fp = []
  | .fn x, v, fp => (∃ a, v = .ref a ∧ mg.mg x = some (.ref a)) ∧ fp = []
  | .kti l, v, fp => (∃ a o, v = .ref a ∧ H a = some (.frz o (.tup (l.map V.int))) ∧ o.dict = none) ∧ fp = []
  | .tup ds, v, fp => ∃ a vs, v = .ref a ∧ H a = some (.tup vs) ∧ RepL mg H ds vs fp
  | .lst ds, v, fp => ∃ a vs f, v = .ref a ∧ H a = some (.lst vs) ∧ RepL mg H ds vs f ∧ fp = a :: f
  | .scr ds, v, fp => ∃ a vs, v = .ref a ∧ ScrAt mg.K H a vs ∧ RepL mg H ds vs [] ∧ fp = []
  | .dic tk ks ds, v, fp => ∃ a vs f, v = .ref a ∧ RdD H a tk ks vs ∧ RepL mg H ds vs f ∧ fp = a :: f
  | .obj c ns ds, v, fp => ∃ a C dx vs f, v = .ref a ∧ mg.mg c = some (.ref C) ∧ ns.length = vs.length ∧ Rd H a (.ins C dx (ns.zip vs)) ∧ RepL mg H ds vs f ∧ fp = a :: f
def RepL (mg : Mg) (H : Hp) : List D → List V → List Addr → Prop
  | [], vs, fp => vs = [] ∧ fp = []
  | d :: ds, vs, fp => ∃ v r f1 f2, vs = v :: r ∧ Rep mg H d v f1 ∧ RepL mg H ds r f2 ∧ fp = f1 ++ f2
end

section
variable {mg : Mg} {H H' : Hp}

theorem RepL.length : ∀ {ds : List D} {vs : List V} {fp : List Addr}, RepL mg H ds vs fp → vs.length = ds.length
  | [], _, _, h => by simp only [RepL] at h; rw [h.1]; rfl
  | d :: ds, _, _, h => by
    simp only [RepL] at h
    obtain ⟨v, r, f1, f2, rfl, _, h2, _⟩ := h
    simp [RepL.length h2]

theorem RdD.keep {a : Addr} {tk : Bool} {ks : List Ky} {vs : List V} (h : RdD H a tk ks vs) (k : ∀ u : HO, u.bare → Rd H a u → Rd H' a u) : RdD H' a tk ks vs := by
  obtain ⟨h1, h2⟩ := h
  refine ⟨h1, ?_⟩
  cases tk with
  | false => obtain ⟨kl, e, r⟩ := h2; exact ⟨kl, e, k _ trivial r⟩
  | true => obtain ⟨kl, e, r⟩ := h2; exact ⟨kl, e, k _ trivial r⟩

mutual
theorem Rep.keep : ∀ {d : D} {v : V} {fp : List Addr}, Rep mg H d v fp → (∀ a, a ∈ fp → Kp H H' a) → KpT H H' → Rep mg H' d v fp
  | .non, _, _, h, _, _ => by simp only [Rep] at h ⊢; exact h
  | .bl _, _, _, h, _, _ => by simp only [Rep] at h ⊢; exact h
  | .int _, _, _, h, _, _ => by simp only [Rep] at h ⊢; exact h
  | .str _, _, _, h, _, _ => by simp only [Rep] at h ⊢; exact h
  | .fn _, _, _, h, _, _ => by simp only [Rep] at h ⊢; exact h
  | .kti _, _, _, h, _, kt => by
    simp only [Rep] at h ⊢
    obtain ⟨⟨a, o, e, r, d⟩, z⟩ := h
    exact ⟨⟨a, o, e, kt.2.2 a o _ r, d⟩, z⟩
  | .tup ds, _, _, h, k, kt => by
    simp only [Rep] at h ⊢
    obtain ⟨a, vs, rfl, r, h2⟩ := h
    exact ⟨a, vs, rfl, kt.1 a vs r, RepL.keep h2 k kt⟩
  | .lst ds, _, _, h, k, kt => by
    simp only [Rep] at h ⊢
    obtain ⟨a, vs, f, rfl, r, h2, rfl⟩ := h
    exact ⟨a, vs, f, rfl, (k a List.mem_cons_self).2 _ r, RepL.keep h2 (fun b hb => k b (List.mem_cons_of_mem _ hb)) kt, rfl⟩
  | .scr ds, _, _, h, k, kt => by
    simp only [Rep] at h ⊢
    obtain ⟨a, vs, rfl, r, h2, rfl⟩ := h
    exact ⟨a, vs, rfl, r.imp (fun ⟨o, r⟩ => ⟨o, kt.2.1 a o vs r⟩) id, RepL.keep h2 (fun b hb => nomatch hb) kt, rfl⟩
  | .dic tk ks ds, _, _, h, k, kt => by
    simp only [Rep] at h ⊢
    obtain ⟨a, vs, f, rfl, r, h2, rfl⟩ := h
    exact ⟨a, vs, f, rfl, r.keep (k a List.mem_cons_self).1, RepL.keep h2 (fun b hb => k b (List.mem_cons_of_mem _ hb)) kt, rfl⟩
  | .obj c ns ds, _, _, h, k, kt => by
    simp only [Rep] at h ⊢
    obtain ⟨a, C, dx, vs, f, rfl, hc, hl, r, h2, rfl⟩ := h
    exact ⟨a, C, dx, vs, f, rfl, hc, hl, (k a List.mem_cons_self).1 _ trivial r, RepL.keep h2 (fun b hb => k b (List.mem_cons_of_mem _ hb)) kt, rfl⟩
theorem RepL.keep : ∀ {ds : List D} {vs : List V} {fp : List Addr}, RepL mg H ds vs fp → (∀ a, a ∈ fp → Kp H H' a) → KpT H H' → RepL mg H' ds vs fp
  | [], _, _, h, _, _ => by simp only [RepL] at h ⊢; exact h
  | d :: ds, _, _, h, k, kt => by
    simp only [RepL] at h ⊢
    obtain ⟨v, r, f1, f2, rfl, h1, h2, rfl⟩ := h
    exact ⟨v, r, f1, f2, rfl, Rep.keep h1 (fun b hb => k b (List.mem_append_left _ hb)) kt, RepL.keep h2 (fun b hb => k b (List.mem_append_right _ hb)) kt, rfl⟩
end

/-- nodes are tracked, and what may be written -/
def MutO : Option HO → Prop
  | some (.frz _ u) => Mut (some u)
  | o => Mut o
theorem MutO.isSome {o : Option HO} (h : MutO o) : o ≠ none := by
  rintro rfl
  exact h

mutual
theorem Rep.there : ∀ {d : D} {v : V} {fp : List Addr}, Rep mg H d v fp → ∀ a ∈ fp, H a ≠ none
  | .non, _, _, h, a, ha => by simp only [Rep] at h; rw [h.2] at ha; cases ha
  | .bl _, _, _, h, a, ha => by simp only [Rep] at h; rw [h.2] at ha; cases ha
  | .int _, _, _, h, a, ha => by simp only [Rep] at h; rw [h.2] at ha; cases ha
  | .str _, _, _, h, a, ha => by simp only [Rep] at h; rw [h.2] at ha; cases ha
  | .fn _, _, _, h, a, ha => by simp only [Rep] at h; rw [h.2] at ha; cases ha
  | .kti _, _, _, h, a, ha => by simp only [Rep] at h; rw [h.2] at ha; cases ha
  | .tup ds, _, _, h, a, ha => by
    simp only [Rep] at h
    obtain ⟨_, vs, rfl, r, h2⟩ := h
    exact RepL.there h2 a ha
  | .lst ds, _, _, h, a, ha => by
    simp only [Rep] at h
    obtain ⟨b, vs, f, rfl, r, h2, rfl⟩ := h
    rcases List.mem_cons.mp ha with rfl | ha
    · rw [r]; simp
    · exact RepL.there h2 a ha
  | .scr ds, _, _, h, a, ha => by
    simp only [Rep] at h
    obtain ⟨b, vs, rfl, r, h2, rfl⟩ := h
    cases ha
  | .dic tk ks ds, _, _, h, a, ha => by
    simp only [Rep] at h
    obtain ⟨b, vs, f, rfl, ⟨_, r⟩, h2, rfl⟩ := h
    rcases List.mem_cons.mp ha with rfl | ha
    · cases tk with
      | false => obtain ⟨_, _, r | ⟨o, r⟩⟩ := r <;> rw [r] <;> simp
      | true => obtain ⟨_, _, r | ⟨o, r⟩⟩ := r <;> rw [r] <;> simp
    · exact RepL.there h2 a ha
  | .obj c ns ds, _, _, h, a, ha => by
    simp only [Rep] at h
    obtain ⟨b, C, dx, vs, f, rfl, _, _, r, h2, rfl⟩ := h
    rcases List.mem_cons.mp ha with rfl | ha
    · rcases r with r | ⟨o, r⟩ <;> rw [r] <;> simp
    · exact RepL.there h2 a ha
theorem RepL.there : ∀ {ds : List D} {vs : List V} {fp : List Addr}, RepL mg H ds vs fp → ∀ a ∈ fp, H a ≠ none
  | [], _, _, h, a, ha => by simp only [RepL] at h; rw [h.2] at ha; cases ha
  | d :: ds, _, _, h, a, ha => by
    simp only [RepL] at h
    obtain ⟨v, r, f1, f2, rfl, h1, h2, rfl⟩ := h
    rcases List.mem_append.mp ha with ha | ha
    · exact Rep.there h1 a ha
    · exact RepL.there h2 a ha
end

/-- all that stands stands as before -/
def Ext (H H' : Hp) : Prop := ∀ a o, H a = some o → H' a = some o
theorem Ext.refl : Ext H H := fun _ _ h => h
theorem Ext.trans {H1 : Hp} (a : Ext H H1) (b : Ext H1 H') : Ext H H' := fun c o h => b c o (a c o h)
theorem Ext.rd (e : Ext H H') {a : Addr} {u : HO} (r : Rd H a u) : Rd H' a u := by
  rcases r with r | ⟨o, r⟩
  · exact .inl (e a u r)
  · exact .inr ⟨o, e a _ r⟩
theorem Ext.nope (e : Ext H H') {a : Addr} (h : H' a = none) : H a = none := by
  cases q : H a with
  | none => rfl
  | some o => rw [e a o q] at h; cases h
theorem Ext.put {a : Addr} {o : HO} (h : H a = none) : Ext H (upd H a o) := fun b u e => by
  rw [upd_ne (ne_of_none e h)]; exact e
theorem Ext.kp (e : Ext H H') (a : Addr) : Kp H H' a := ⟨fun _ _ r => e.rd r, fun _ r => e a _ r⟩
theorem Ext.kpT (e : Ext H H') : KpT H H' := ⟨fun a xs r => e a _ r, fun a o vs r => e a _ r, fun a o vs r => e a _ r⟩
theorem Rep.ext {d : D} {v : V} {fp : List Addr} (h : Rep mg H d v fp) (e : Ext H H') : Rep mg H' d v fp := h.keep (fun a _ => e.kp a) e.kpT
theorem RepL.ext {d : List D} {v : List V} {fp : List Addr} (h : RepL mg H d v fp) (e : Ext H H') : RepL mg H' d v fp := h.keep (fun a _ => e.kp a) e.kpT

theorem RepL.get : ∀ {ds : List D} {vs : List V} {fp : List Addr} {i : Nat} {d : D}, RepL mg H ds vs fp → ds[i]? = some d → ∃ v f1 f f2, vs[i]? = some v ∧ Rep mg H d v f ∧ fp = f1 ++ f ++ f2
  | [], _, _, _, _, _, e => by simp at e
  | x :: ds, _, _, 0, d, h, e => by
    simp only [RepL] at h
    obtain ⟨v, r, f1, f2, rfl, h1, h2, rfl⟩ := h
    simp at e; subst e
    exact ⟨v, [], f1, f2, rfl, h1, rfl⟩
  | x :: ds, _, _, i + 1, d, h, e => by
    simp only [RepL] at h
    obtain ⟨v, r, f1, f2, rfl, h1, h2, rfl⟩ := h
    obtain ⟨w, g1, g, g2, e1, e2, rfl⟩ := RepL.get (i := i) (d := d) h2 (by simpa using e)
    exact ⟨w, f1 ++ g1, g, g2, by simpa using e1, e2, by simp [List.append_assoc]⟩

theorem RepL.append : ∀ {ds es : List D} {vs us : List V} {f g : List Addr}, RepL mg H ds vs f → RepL mg H es us g → RepL mg H (ds ++ es) (vs ++ us) (f ++ g)
  | [], _, _, _, _, _, h, h' => by
    simp only [RepL] at h
    obtain ⟨rfl, rfl⟩ := h
    exact h'
  | d :: ds, es, _, us, _, g, h, h' => by
    simp only [RepL] at h
    obtain ⟨v, r, f1, f2, rfl, h1, h2, rfl⟩ := h
    simp only [List.cons_append, RepL]
    exact ⟨v, r ++ us, f1, f2 ++ g, rfl, h1, RepL.append h2 h', by simp [List.append_assoc]⟩
theorem RepL.one {d : D} {v : V} {f : List Addr} (h : Rep mg H d v f) : RepL mg H [d] [v] f := by
  simp only [RepL]
  exact ⟨v, [], f, [], rfl, h, ⟨rfl, rfl⟩, by simp⟩

end
end VV

/-! ## VExp -/
namespace VV
open PySem PySem.Spec PyProof.Rows L2

/-- kinds of slots -/
inductive Kd where
  | dead | flat | lab (rt : Option Nat) (L : List Nat) (nd : Bool)
  /-- the exception that is handled, at a, of the class c -/
  | exc (a : Addr) (c : Str)
  deriving DecidableEq
/-- where a result's root comes from -/
inductive Rt where
  | new | old (n : Nat) | unk
  deriving DecidableEq
/-- kinds of results -/
inductive Md where
  | flat | al (fr : Bool) (rt : Rt) (L : List Nat) (nd : Bool)
  deriving DecidableEq

/-- what stands outside (the nodes of the arguments), what is locked for good while a loop walks it -/
structure Fm where
  out : Addr → Prop
  frz : Addr → Prop
def lk (LL : List Nat) (n : Nat) : Prop := n = 0 ∨ n ∈ LL
structure Loc (P : Fm) (LL : List Nat) (g : Addr → Nat) (H : Hp) : Prop where
  at_ : ∀ a, g a ≠ 0 → ∃ o, H a = some o ∧ (Mut (some o) ∨ P.frz a)
  out : ∀ a, P.out a → H a ≠ none
  fz : ∀ a, P.frz a → (∃ o u, H a = some (.frz o u)) ∧ lk LL (g a)

theorem Loc.fzn {P : Fm} {LL : List Nat} {g : Addr → Nat} {H : Hp} (l : Loc P LL g H) {a : Addr} (h : P.frz a) : H a ≠ none := by
  obtain ⟨⟨o, u, q⟩, _⟩ := l.fz a h
  rw [q]; simp

def Old (P : Fm) (g : Addr → Nat) (L : List Nat) (a : Addr) : Prop := g a ∈ L ∧ (g a = 0 → P.out a)
theorem Old.there {P : Fm} {LL : List Nat} {g : Addr → Nat} {H : Hp} {L : List Nat} {a : Addr} (l : Loc P LL g H) (o : Old P g L a) : H a ≠ none := by
  by_cases h : g a = 0
  · exact l.out a (o.2 h)
  · obtain ⟨u, e, _⟩ := l.at_ a h
    rw [e]; simp

/-- made since -/
def New (H H' : Hp) (a : Addr) : Prop := H a = none ∧ Mut (H' a)
/-- no node twice; the root not below itself -/
def Nd (nd kn : Bool) (v : V) (fp : List Addr) : Prop := (nd = true → fp.Nodup) ∧ (kn = true → ∀ a f, v = .ref a → fp = a :: f → a ∉ f)
theorem Nd.of {nd kn : Bool} {v : V} {fp : List Addr} (h : fp.Nodup) : Nd nd kn v fp := ⟨fun _ => h, fun _ a f _ e => by subst e; exact (List.nodup_cons.mp h).1⟩
theorem Nd.cons {nd kn : Bool} {p : Addr} {fp : List Addr} (h : p ∉ fp) (n : nd = true → fp.Nodup) : Nd nd kn (.ref p) (p :: fp) :=
  ⟨fun x => List.nodup_cons.mpr ⟨h, n x⟩, fun _ a f e1 e2 => by cases e2; exact h⟩
theorem Nd.unk {nd : Bool} {v : V} {fp : List Addr} (n : nd = true → fp.Nodup) : Nd nd false v fp := ⟨n, fun z => nomatch z⟩
def Rt.known : Rt → Bool
  | .unk => false
  | _ => true
def CellOk (mg : Mg) (P : Fm) (g : Addr → Nat) (H : Hp) : Kd → D → Option V → Prop
  | .dead, _, _ => True
  | .exc a c, d, ov => d = .str c ∧ ov = some (.ref a)
  | .flat, d, ov => ∃ v, ov = some v ∧ Rep mg H d v []
  | .lab rt L nd, d, ov => ∃ v fp, ov = some v ∧ Rep mg H d v fp ∧ (∀ a ∈ fp, (v = .ref a ∧ ∃ n, rt = some n ∧ Old P g [n] a) ∨ ((v ≠ .ref a ∨ rt = none) ∧ Old P g L a)) ∧ Nd nd rt.isSome v fp

def Cells (mg : Mg) (P : Fm) (g : Addr → Nat) (H : Hp) : List Kd → List D → List (Option V) → Prop
  | [], [], [] => True
  | k :: Γ, d :: ρ, v :: σ => CellOk mg P g H k d v ∧ Cells mg P g H Γ ρ σ
  | _, _, _ => False

structure Sta (mg : Mg) (P : Fm) (LL : List Nat) (Γ : List Kd) (g : Addr → Nat) (ρ : List D) (σ : L2.St) (H : Hp) : Prop where
  loc : Loc P LL g H
  cells : Cells mg P g H Γ ρ σ

/-- the nodes of a result -/
def Nds (P : Fm) (g : Addr → Nat) (H H' : Hp) (fr : Bool) (rt : Rt) (L : List Nat) (nd : Bool) (v : V) (fp : List Addr) : Prop :=
  (∀ a ∈ fp, (v = .ref a ∧ match rt with | .new => New H H' a | .old n => Old P g [n] a | .unk => False) ∨ ((v ≠ .ref a ∨ rt = .unk) ∧ ((fr = true ∧ New H H' a) ∨ Old P g L a))) ∧ Nd nd rt.known v fp
/-- a result -/
def Val (mg : Mg) (P : Fm) (g : Addr → Nat) (H H' : Hp) : Md → D → V → Prop
  | .flat, d, v => Rep mg H' d v []
  | .al fr rt L nd, d, v => ∃ fp, Rep mg H' d v fp ∧ Nds P g H H' fr rt L nd v fp
/-- several -/
def Fps (P : Fm) (g : Addr → Nat) (H H' : Hp) : Md → List Addr → Prop
  | .flat, fp => fp = []
  | .al fr _ L nd, fp => (∀ a ∈ fp, (fr = true ∧ New H H' a) ∨ Old P g L a) ∧ (nd = true → fp.Nodup)
def ValL (mg : Mg) (P : Fm) (g : Addr → Nat) (H H' : Hp) (m : Md) (ds : List D) (vs : List V) : Prop := ∃ fp, RepL mg H' ds vs fp ∧ Fps P g H H' m fp

section
variable {mg : Mg} {P : Fm} {LL : List Nat} {Γ : List Kd} {g : Addr → Nat} {ρ : List D} {σ : L2.St} {H H' H1 : Hp}

theorem mut_of {o : Option HO} {o' : Option HO} (h : Mut o) (e : ∀ u, o = some u → o' = some u) : Mut o' := by
  cases o with
  | none => exact h.elim
  | some u => rw [e u rfl]; exact h

theorem Loc.ext (l : Loc P LL g H) (e : Ext H H') : Loc P LL g H' := ⟨fun a h => let ⟨o, q, m⟩ := l.at_ a h; ⟨o, e a o q, m⟩, fun a h z => l.out a h (e.nope z), fun a h => ⟨let ⟨⟨o, u, q⟩, _⟩ := l.fz a h; ⟨o, u, e a _ q⟩, (l.fz a h).2⟩⟩
theorem CellOk.ext {k : Kd} {d : D} {v : Option V} (c : CellOk mg P g H k d v) (e : Ext H H') : CellOk mg P g H' k d v := by
  cases k with
  | dead => trivial
  | exc _ _ => exact c
  | flat => obtain ⟨v, rfl, r⟩ := c; exact ⟨v, rfl, r.ext e⟩
  | lab rt L nd => obtain ⟨v, fp, rfl, r, q⟩ := c; exact ⟨v, fp, rfl, r.ext e, q⟩
theorem New.ext {a : Addr} (n : New H H1 a) (e : Ext H1 H') : New H H' a := ⟨n.1, mut_of n.2 (e a)⟩
theorem New.back {a : Addr} (n : New H1 H' a) (e : Ext H H1) : New H H' a := ⟨e.nope n.1, n.2⟩
theorem Cells.ext (e : Ext H H') : ∀ {Γ : List Kd} {ρ : List D} {σ : L2.St}, Cells mg P g H Γ ρ σ → Cells mg P g H' Γ ρ σ
  | [], [], [], _ => trivial
  | _ :: _, _ :: _, _ :: _, h => ⟨h.1.ext e, Cells.ext e h.2⟩
  | [], _ :: _, _, h => h.elim
  | [], [], _ :: _, h => h.elim
  | _ :: _, [], _, h => h.elim
  | _ :: _, _ :: _, [], h => h.elim
theorem Sta.ext (s : Sta mg P LL Γ g ρ σ H) (e : Ext H H') : Sta mg P LL Γ g ρ σ H' := ⟨s.loc.ext e, s.cells.ext e⟩

theorem Cells.get : ∀ {Γ : List Kd} {ρ : List D} {σ : L2.St} {i : Nat} {k : Kd}, Cells mg P g H Γ ρ σ → Γ[i]? = some k → ∃ d ov, ρ[i]? = some d ∧ σ[i]? = some ov ∧ CellOk mg P g H k d ov
  | [], _, _, _, _, _, e => by simp at e
  | k :: Γ, d :: ρ, v :: σ, 0, k', h, e => by simp at e; subst e; exact ⟨d, v, rfl, rfl, h.1⟩
  | k :: Γ, d :: ρ, v :: σ, i + 1, k', h, e => by
    obtain ⟨d', ov, h1, h2, h3⟩ := Cells.get (i := i) (k := k') h.2 (by simpa using e)
    exact ⟨d', ov, by simpa using h1, by simpa using h2, h3⟩
  | _ :: _, [], _, _, _, h, _ => h.elim
  | _ :: _, _ :: _, [], _, _, h, _ => h.elim

theorem Nds.ext {fr : Bool} {rt : Rt} {L : List Nat} {nd : Bool} {v : V} {fp : List Addr} (h : Nds P g H H1 fr rt L nd v fp) (e : Ext H1 H') : Nds P g H H' fr rt L nd v fp := by
  refine ⟨fun a ha => ?_, h.2⟩
  rcases h.1 a ha with ⟨x, y⟩ | ⟨z, ⟨x, n⟩ | o⟩
  · refine .inl ⟨x, ?_⟩
    cases rt with
    | new => exact New.ext y e
    | old n => exact y
    | unk => exact y
  · exact .inr ⟨z, .inl ⟨x, n.ext e⟩⟩
  · exact .inr ⟨z, .inr o⟩
theorem Nds.back {fr : Bool} {rt : Rt} {L : List Nat} {nd : Bool} {v : V} {fp : List Addr} (h : Nds P g H1 H' fr rt L nd v fp) (e : Ext H H1) : Nds P g H H' fr rt L nd v fp := by
  refine ⟨fun a ha => ?_, h.2⟩
  rcases h.1 a ha with ⟨x, y⟩ | ⟨z, ⟨x, n⟩ | o⟩
  · refine .inl ⟨x, ?_⟩
    cases rt with
    | new => exact New.back y e
    | old n => exact y
    | unk => exact y
  · exact .inr ⟨z, .inl ⟨x, n.back e⟩⟩
  · exact .inr ⟨z, .inr o⟩
theorem Val.ext {m : Md} {d : D} {v : V} (h : Val mg P g H H1 m d v) (e : Ext H1 H') : Val mg P g H H' m d v := by
  cases m with
  | flat => exact Rep.ext h e
  | al fr rt L nd =>
    obtain ⟨fp, r, q⟩ := h
    exact ⟨fp, r.ext e, q.ext e⟩
theorem Fps.ext {m : Md} {fp : List Addr} (h : Fps P g H H1 m fp) (e : Ext H1 H') : Fps P g H H' m fp := by
  cases m with
  | flat => exact h
  | al fr rt L nd => exact ⟨fun a ha => (h.1 a ha).imp (fun ⟨x, n⟩ => ⟨x, n.ext e⟩) id, h.2⟩
theorem Fps.back {m : Md} {fp : List Addr} (h : Fps P g H1 H' m fp) (e : Ext H H1) : Fps P g H H' m fp := by
  cases m with
  | flat => exact h
  | al fr rt L nd => exact ⟨fun a ha => (h.1 a ha).imp (fun ⟨x, n⟩ => ⟨x, n.back e⟩) id, h.2⟩
theorem ValL.ext {m : Md} {d : List D} {v : List V} (h : ValL mg P g H H1 m d v) (e : Ext H1 H') : ValL mg P g H H' m d v := let ⟨fp, r, q⟩ := h; ⟨fp, r.ext e, q.ext e⟩
/-- seen from an earlier heap -/
theorem Val.back {m : Md} {d : D} {v : V} (h : Val mg P g H1 H' m d v) (e : Ext H H1) : Val mg P g H H' m d v := by
  cases m with
  | flat => exact h
  | al fr rt L nd => obtain ⟨fp, r, q⟩ := h; exact ⟨fp, r, q.back e⟩
theorem ValL.back {m : Md} {d : List D} {v : List V} (h : ValL mg P g H1 H' m d v) (e : Ext H H1) : ValL mg P g H H' m d v := let ⟨fp, r, q⟩ := h; ⟨fp, r, q.back e⟩
end

/-! ### expressions -/
abbrev Ev := List D → Option D
def EX (X : Cx) (LL : List Nat) (Γ : List Kd) (e : Expr) (sem : Ev) (m : Md) : Prop :=
  ∃ t, PE X e t ∧ ∀ P g ρ σ H d Q, Sta X.vm P LL Γ g ρ σ H → sem ρ = some d → (∀ v H', Ext H H' → Val X.vm P g H H' m d v → Q v H') → t σ H Q
def EA (X : Cx) (LL : List Nat) (Γ : List Kd) (es : List Expr) (sem : List D → Option (List D)) (m : Md) : Prop :=
  (∀ ρ ds, sem ρ = some ds → ds.length = es.length) ∧ ∃ t, PA X es t ∧ ∀ P g ρ σ H ds Q, Sta X.vm P LL Γ g ρ σ H → sem ρ = some ds → (∀ vs H', Ext H H' → ValL X.vm P g H H' m ds vs → Q vs H') → t σ H Q
def ET (X : Cx) (LL : List Nat) (Γ : List Kd) (e : Expr) (sem : List D → Option Bool) : Prop :=
  ∃ t, PT X e t ∧ ∀ P g ρ σ H b Q, Sta X.vm P LL Γ g ρ σ H → sem ρ = some b → (∀ H', Ext H H' → Q b H') → t σ H Q
def EW (X : Cx) (LL : List Nat) (Γ : List Kd) (e : Expr) (sem : List D → Option Bool) : Prop :=
  ∃ t, PW X e t ∧ ∀ P g ρ σ H b Q, Sta X.vm P LL Γ g ρ σ H → sem ρ = some b → (∀ H', Ext H H' → Q b H') → t σ H Q

/-- a slot that may be read as a tree -/
def Kd.use : Kd → Bool
  | .dead => false
  | .exc _ _ => false
  | _ => true
def Kd.md : Kd → Md
  | .dead => .flat
  | .exc _ _ => .flat
  | .flat => .flat
  | .lab rt L nd => .al false (match rt with | some n => .old n | none => .unk) L nd
def disj (a b : List Nat) : Bool := a.all fun x => !b.contains x
/-- the root's place said as any node's -/
def Md.unroot : Md → Md
  | .flat => .flat
  | .al _ .new L nd => .al true .unk L nd
  | .al fr (.old n) L nd => .al fr .unk (n :: L) nd
  | .al fr .unk L nd => .al fr .unk L nd
def Md.join1 : Md → Md → Md
  | .flat, .flat => .flat
  | .al fr rt L nd, .flat => .al fr .unk L nd
  | .flat, .al fr rt L nd => .al fr .unk L nd
  | .al fr _ L nd, .al fr' _ L' nd' => .al (fr || fr') .unk (L ++ L') (nd && nd' && disj L L')
def Md.join (m m' : Md) : Md := m.unroot.join1 m'

def eVar (i : Nat) : Ev := fun ρ => ρ[i]?
def eC (d : D) : Ev := fun _ => some d
def aNil : List D → Option (List D) := fun _ => some []
def aCons (e : Ev) (r : List D → Option (List D)) : List D → Option (List D) := fun ρ => do
  let d ← e ρ
  let ds ← r ρ
  some (d :: ds)
/-- an operation on values of arguments -/
def eP (f : List D → Option D) (a : List D → Option (List D)) : Ev := fun ρ => do f (← a ρ)
def eTup (a : List D → Option (List D)) : Ev := fun ρ => do let ds ← a ρ; some (.tup ds)
def eLst (a : List D → Option (List D)) : Ev := fun ρ => do let ds ← a ρ; some (.lst ds)

theorem bind_some {α β : Type} {x : Option α} {f : α → Option β} {b : β} (h : (x >>= f) = some b) : ∃ a, x = some a ∧ f a = some b := by
  cases x with
  | none => cases h
  | some a => exact ⟨a, rfl, h⟩

section
variable {X : Cx} {LL : List Nat} {Γ : List Kd} {pos : Pos}

theorem ex_var {x : Str} {k : Kd} (i : Nat) (hk : Γ[i]? = some k) (hd : k.use = true) (hN : X.N[i]? = some x) (hv : Vis X.env.scope x) (hdb : (x == ("__debug__" : Str)) = false := by decide)
    (hcd : (x == ("__classdict__" : Str)) = false := by decide) : EX X LL Γ (.Name x pos) (eVar i) k.md := by
  refine ⟨tVar i, pe_var hN hv hdb hcd, fun P g ρ σ H d Q s hs q => ?_⟩
  obtain ⟨d', ov, h1, h2, h3⟩ := s.cells.get hk
  have e : d' = d := Option.some.inj (h1.symm.trans hs)
  subst e
  cases k with
  | dead => cases hd
  | exc _ _ => cases hd
  | flat =>
    obtain ⟨v, rfl, r⟩ := h3
    exact ⟨v, h2, q v H Ext.refl r⟩
  | lab rt L nd =>
    obtain ⟨v, fp, rfl, r, o, n⟩ := h3
    refine ⟨v, h2, q v H Ext.refl ⟨fp, r, fun a ha => ?_, by cases rt <;> exact n⟩⟩
    rcases o a ha with ⟨e, k, rfl, o'⟩ | ⟨z, o'⟩
    · exact .inl ⟨e, o'⟩
    · refine .inr ⟨?_, .inr o'⟩
      rcases z with z | rfl
      · exact .inl z
      · exact .inr rfl

theorem val_flat {mg : Mg} {P : Fm} {g : Addr → Nat} {H H' : Hp} {d : D} {v : V} (r : Rep mg H' d v []) : Val mg P g H H' .flat d v := r
theorem rep_int {mg : Mg} {H : Hp} {i : Int} : Rep mg H (.int i) (.int i) [] := by simp [Rep]
theorem rep_str {mg : Mg} {H : Hp} {i : Str} : Rep mg H (.str i) (.str i) [] := by simp [Rep]
theorem rep_bl {mg : Mg} {H : Hp} {i : Bool} : Rep mg H (.bl i) (.bl i) [] := by simp [Rep]
theorem rep_non {mg : Mg} {H : Hp} : Rep mg H .non .non [] := by simp [Rep]

theorem ex_int {i : Int} {j} : EX X LL Γ (.Constant (.int i) j pos) (eC (.int i)) .flat :=
  ⟨_, pe_int, fun P g ρ σ H d Q s hs q => by cases hs; exact q _ _ Ext.refl (val_flat rep_int)⟩
theorem ex_bl {b : Bool} {j} : EX X LL Γ (.Constant (.bool b) j pos) (eC (.bl b)) .flat :=
  ⟨_, pe_bl, fun P g ρ σ H d Q s hs q => by cases hs; exact q _ _ Ext.refl (val_flat rep_bl)⟩
theorem ex_non {j} : EX X LL Γ (.Constant .none j pos) (eC .non) .flat :=
  ⟨_, pe_non, fun P g ρ σ H d Q s hs q => by cases hs; exact q _ _ Ext.refl (val_flat rep_non)⟩
theorem ex_str {x : Str} {j} : EX X LL Γ (.Constant (.str x) j pos) (eC (.str x)) .flat :=
  ⟨_, pe_str, fun P g ρ σ H d Q s hs q => by cases hs; exact q _ _ Ext.refl (val_flat rep_str)⟩

theorem mem_join {L L' : List Nat} {x : Nat} : x ∈ L ++ L' ↔ x ∈ L ∨ x ∈ L' := List.mem_append
theorem disj_ok {L L' : List Nat} {x : Nat} (h : disj L L' = true) (a : x ∈ L) : x ∉ L' := by
  unfold disj at h
  have := List.all_eq_true.mp h x a
  simpa using this

theorem Nds.unroot {P : Fm} {g : Addr → Nat} {H H' : Hp} {fr : Bool} {rt : Rt} {L : List Nat} {nd : Bool} {v : V} {fp : List Addr} (h : Nds P g H H' fr rt L nd v fp) : Fps P g H H' (Md.al fr rt L nd).unroot fp := by
  obtain ⟨o, n, _⟩ := h
  cases rt with
  | new =>
    refine ⟨fun a ha => ?_, n⟩
    rcases o a ha with ⟨_, x⟩ | ⟨_, ⟨_, x⟩ | x⟩
    · exact .inl ⟨rfl, x⟩
    · exact .inl ⟨rfl, x⟩
    · exact .inr x
  | old k =>
    refine ⟨fun a ha => ?_, n⟩
    rcases o a ha with ⟨_, x⟩ | ⟨_, x | x⟩
    · exact .inr ⟨by rw [List.mem_singleton.mp x.1]; exact List.mem_cons_self, x.2⟩
    · exact .inl x
    · exact .inr ⟨List.mem_cons_of_mem _ x.1, x.2⟩
  | unk =>
    refine ⟨fun a ha => ?_, n⟩
    rcases o a ha with ⟨_, x⟩ | ⟨_, x⟩
    · exact x.elim
    · exact x
theorem Val.unroot {mg : Mg} {P : Fm} {g : Addr → Nat} {H H' : Hp} {m : Md} {d : D} {v : V} (h : Val mg P g H H' m d v) : ∃ fp, Rep mg H' d v fp ∧ Fps P g H H' m.unroot fp := by
  cases m with
  | flat => exact ⟨[], h, rfl⟩
  | al fr rt L nd => obtain ⟨fp, r, o⟩ := h; exact ⟨fp, r, o.unroot⟩
theorem fps_join {P : Fm} {LL : List Nat} {g : Addr → Nat} {H H1 H2 : Hp} {m m' : Md} {f f' : List Addr} (l : Loc P LL g H) (e1 : Ext H H1) (e2 : Ext H1 H2) (h : Fps P g H H1 m f) (th : ∀ a ∈ f, H1 a ≠ none)
    (h' : Fps P g H1 H2 m' f') : Fps P g H H2 (m.join1 m') (f ++ f') := by
  have k := h.ext e2
  have k' := h'.back e1
  cases m with
  | flat =>
    obtain rfl : f = [] := h
    cases m' with
    | flat => exact k'
    | al fr rt L nd => exact k'
  | al fr rt L nd =>
    cases m' with
    | flat =>
      obtain rfl : f' = [] := h'
      rw [List.append_nil]
      exact k
    | al fr' rt' L' nd' =>
      refine ⟨fun a ha => ?_, fun hn => ?_⟩
      · rcases List.mem_append.mp ha with ha | ha
        · exact (k.1 a ha).imp (fun ⟨x, y⟩ => ⟨by rw [x]; rfl, y⟩) fun o => ⟨List.mem_append_left _ o.1, o.2⟩
        · exact (k'.1 a ha).imp (fun ⟨x, y⟩ => ⟨by rw [x]; cases fr <;> rfl, y⟩) fun o => ⟨List.mem_append_right _ o.1, o.2⟩
      · simp only [Bool.and_eq_true] at hn
        obtain ⟨⟨n1, n2⟩, dj⟩ := hn
        refine List.nodup_append.mpr ⟨h.2 n1, h'.2 n2, ?_⟩
        intro a ha b hb hab
        subst hab
        rcases h'.1 a hb with ⟨_, z, _⟩ | o'
        · exact th a ha z
        · rcases h.1 a ha with ⟨_, z, _⟩ | o
          · exact o'.there l z
          · exact disj_ok dj o.1 o'.1
theorem valL_cons {mg : Mg} {P : Fm} {LL : List Nat} {g : Addr → Nat} {H H1 H2 : Hp} {m m' : Md} {d : D} {ds : List D} {v : V} {vs : List V} (l : Loc P LL g H)
    (e1 : Ext H H1) (e2 : Ext H1 H2) (h : Val mg P g H H1 m d v) (h' : ValL mg P g H1 H2 m' ds vs) : ValL mg P g H H2 (m.join m') (d :: ds) (v :: vs) := by
  obtain ⟨f, r, o⟩ := h.unroot
  obtain ⟨f', r', o'⟩ := h'
  refine ⟨f ++ f', ?_, fps_join l e1 e2 o (fun a ha => r.there a ha) o'⟩
  simp only [RepL]
  exact ⟨v, vs, f, f', rfl, r.ext e2, r', rfl⟩
theorem valL_nil {mg : Mg} {P : Fm} {g : Addr → Nat} {H H' : Hp} : ValL mg P g H H' .flat [] [] := ⟨[], by simp [RepL], rfl⟩

theorem ea_nil : EA X LL Γ [] aNil .flat := ⟨fun ρ ds h => by cases h; rfl, _, pa_nil, fun P g ρ σ H ds Q s hs q => by
  cases hs
  exact q [] H Ext.refl valL_nil⟩
theorem ea_cons {e : Expr} {es : List Expr} {se : Ev} {sr : List D → Option (List D)} {m m' : Md} (h : EX X LL Γ e se m) (h' : EA X LL Γ es sr m')
    (hs : starEach (e :: es) X.env = (false, eval e X.env) :: starEach es X.env := by rfl) : EA X LL Γ (e :: es) (aCons se sr) (m.join m') := by
  obtain ⟨t, ht, k⟩ := h
  obtain ⟨hl, u, hu, k'⟩ := h'
  refine ⟨fun ρ ds e => by
    obtain ⟨d, e1, e⟩ := bind_some e
    obtain ⟨dr, e2, e⟩ := bind_some e
    cases e
    simp [hl ρ dr e2], _, pa_cons ht hu hs, fun P g ρ σ H ds Q s e q => ?_⟩
  obtain ⟨d, e1, e⟩ := bind_some e
  obtain ⟨dr, e2, e⟩ := bind_some e
  cases e
  refine k P g ρ σ H d _ s e1 fun v H1 x1 v1 => ?_
  refine k' P g ρ σ H1 dr _ (s.ext x1) e2 fun vs H2 x2 v2 => ?_
  exact q (v :: vs) H2 (x1.trans x2) (valL_cons s.loc x1 x2 v1 v2)

def Md.tup : Md → Md
  | .flat => .flat
  | .al fr _ L nd => .al fr .unk L nd
def Md.lst : Md → Md
  | .flat => .al false .new [] true
  | .al fr _ L nd => .al fr .new L nd

theorem val_tup {mg : Mg} {P : Fm} {g : Addr → Nat} {H H1 : Hp} {m : Md} {ds : List D} {vs : List V} {p : Addr} (h : ValL mg P g H H1 m ds vs) (hp : H1 p = none) :
    Val mg P g H (upd H1 p (.tup vs)) m.tup (.tup ds) (.ref p) := by
  have x : Ext H1 (upd H1 p (.tup vs)) := Ext.put hp
  obtain ⟨fp, r, q⟩ := h
  have rr : Rep mg (upd H1 p (.tup vs)) (.tup ds) (.ref p) fp := by
    simp only [Rep]
    exact ⟨p, vs, rfl, upd_same, r.ext x⟩
  have q := q.ext x
  cases m with
  | flat =>
    obtain rfl : fp = [] := q
    exact rr
  | al fr rt L nd => exact ⟨fp, rr, fun a ha => .inr ⟨.inr rfl, q.1 a ha⟩, .unk q.2⟩
theorem val_lst {mg : Mg} {P : Fm} {g : Addr → Nat} {H H1 : Hp} {m : Md} {ds : List D} {vs : List V} {p : Addr} (h : ValL mg P g H H1 m ds vs) (e : Ext H H1) (hp : H1 p = none) :
    Val mg P g H (upd H1 p (.lst vs)) m.lst (.lst ds) (.ref p) := by
  have x : Ext H1 (upd H1 p (.lst vs)) := Ext.put hp
  have mu : New H (upd H1 p (.lst vs)) p := ⟨e.nope hp, by rw [upd_same]; trivial⟩
  obtain ⟨fp, r, q⟩ := h
  have rr : Rep mg (upd H1 p (.lst vs)) (.lst ds) (.ref p) (p :: fp) := by
    simp only [Rep]
    exact ⟨p, vs, fp, rfl, upd_same, r.ext x, rfl⟩
  have hn : p ∉ fp := fun hm => r.there p hm hp
  have q := q.ext x
  cases m with
  | flat =>
    obtain rfl : fp = [] := q
    refine ⟨[p], rr, fun a ha => ?_, .of (by simp)⟩
    rw [List.mem_singleton.mp ha]
    exact .inl ⟨rfl, mu⟩
  | al fr rt L nd =>
    refine ⟨p :: fp, rr, fun a ha => ?_, .cons hn q.2⟩
    rcases List.mem_cons.mp ha with rfl | ha
    · exact .inl ⟨rfl, mu⟩
    · exact .inr ⟨.inl fun e => by cases e; exact hn ha, q.1 a ha⟩

theorem ValL.length {mg : Mg} {P : Fm} {g : Addr → Nat} {H H1 : Hp} {m : Md} {ds : List D} {vs : List V} (h : ValL mg P g H H1 m ds vs) : vs.length = ds.length := let ⟨_, r, _⟩ := h; r.length

theorem ex_tup {es : List Expr} {k} {sem : List D → Option (List D)} {m : Md} (h : EA X LL Γ es sem m) (hl : es.length ≤ 1000 := by decide) : EX X LL Γ (.Tuple es k pos) (eTup sem) m.tup := by
  obtain ⟨hz, t, ht, kk⟩ := h
  refine ⟨_, pe_tup ht, fun P g ρ σ H d Q s e q => ?_⟩
  obtain ⟨ds, e1, e⟩ := bind_some e
  cases e
  refine kk P g ρ σ H ds _ s e1 fun vs H1 x1 v1 => ⟨?_, fun p hp => ?_⟩
  · rw [v1.length, hz _ _ e1]; exact Nat.le_of_lt (small1000 hl)
  · exact q _ _ (x1.trans (Ext.put hp)) (val_tup v1 hp)
theorem ex_lst {es : List Expr} {sem : List D → Option (List D)} {m : Md} (h : EA X LL Γ es sem m) (hl : es.length ≤ 1000 := by decide) : EX X LL Γ (.List es pos) (eLst sem) m.lst := by
  obtain ⟨hz, t, ht, kk⟩ := h
  refine ⟨_, pe_lst ht, fun P g ρ σ H d Q s e q => ?_⟩
  obtain ⟨ds, e1, e⟩ := bind_some e
  cases e
  refine kk P g ρ σ H ds _ s e1 fun vs H1 x1 v1 => ⟨?_, fun p hp => ?_⟩
  · rw [v1.length, hz _ _ e1]; exact Nat.le_of_lt (small1000 hl)
  · exact q _ _ (x1.trans (Ext.put hp)) (val_lst v1 x1 hp)
end
end VV

/-! ## VOps -/
namespace VV
open PySem PySem.Spec PyProof.Rows L2

/-- an operation by values keeps to a function of trees -/
def CP (X : Cx) (r : List V → Hp → VK → Prop) (f : List D → Option D) (md : Md → Md) : Prop :=
  ∀ P LL g H H1 m ds vs d Q, Loc P LL g H → Ext H H1 → ValL X.vm P g H H1 m ds vs → f ds = some d → (∀ v H', Ext H1 H' → Val X.vm P g H H' (md m) d v → Q v H') → r vs H1 Q
def r1 (r : V → Hp → VK → Prop) : List V → Hp → VK → Prop := fun vs H Q => ∃ a, vs = [a] ∧ r a H Q
def r2 (r : R2) : List V → Hp → VK → Prop := fun vs H Q => ∃ a b, vs = [a, b] ∧ r a b H Q
abbrev toFlat : Md → Md := fun _ => .flat

section
variable {X : Cx} {LL : List Nat} {Γ : List Kd} {pos : Pos}

/-- two arguments in a row -/
theorem two {a b : Expr} {sa sb : Ev} {ma mb : Md} (ha : EX X LL Γ a sa ma) (hb : EX X LL Γ b sb mb) :
    ∃ ta tb, PE X a ta ∧ PE X b tb ∧ ∀ P g ρ σ H ds (Q : V → V → Hp → Prop), Sta X.vm P LL Γ g ρ σ H → aCons sa (aCons sb aNil) ρ = some ds →
      (∀ d e v w H', ds = [d, e] → Ext H H' → Val X.vm P g H H' ma d v → Val X.vm P g H H' mb e w → ValL X.vm P g H H' (ma.join (mb.join .flat)) ds [v, w] → Q v w H') → ta σ H fun v H1 => tb σ H1 fun w H2 => Q v w H2 := by
  obtain ⟨ta, pa, ka⟩ := ha
  obtain ⟨tb, pb, kb⟩ := hb
  refine ⟨ta, tb, pa, pb, fun P g ρ σ H ds Q s e q => ?_⟩
  obtain ⟨d, e1, e⟩ := bind_some e
  obtain ⟨dr, e2, e⟩ := bind_some e
  cases e
  obtain ⟨d2, e3, e2⟩ := bind_some e2
  cases e2
  refine ka P g ρ σ H d _ s e1 fun v H1 x1 v1 => ?_
  refine kb P g ρ σ H1 d2 _ (s.ext x1) e3 fun w H2 x2 v2 => ?_
  refine q d d2 v w H2 rfl (x1.trans x2) (v1.ext x2) (v2.back x1) (valL_cons s.loc x1 x2 v1 ?_)
  exact valL_cons (s.loc.ext x1) x2 Ext.refl v2 valL_nil

theorem ex_bin {a b : Expr} {sa sb : Ev} {ma mb : Md} {op : Operator} {r : R2} {f : List D → Option D} {md : Md → Md} (ho : OpR X (binaryOp op) r) (hc : CP X (r2 r) f md) (ha : EX X LL Γ a sa ma) (hb : EX X LL Γ b sb mb) :
    EX X LL Γ (.BinOp a op b pos) (eP f (aCons sa (aCons sb aNil))) (md (ma.join (mb.join .flat))) := by
  obtain ⟨ta, tb, pa, pb, k⟩ := two ha hb
  refine ⟨_, pe_op ho pa pb, fun P g ρ σ H d Q s e q => ?_⟩
  obtain ⟨ds, e1, e⟩ := bind_some e
  refine k P g ρ σ H ds _ s e1 fun d1 d2 v w H' _ x va vb vl => ?_
  obtain ⟨_, _, e3, z⟩ := hc P LL g H H' _ ds _ d Q s.loc x vl e fun v2 H2 x2 w2 => q v2 H2 (x.trans x2) w2
  cases e3
  exact z
theorem ex_un {a : Expr} {sa : Ev} {ma : Md} {op : UnaryOp} {r : V → Hp → VK → Prop} {f : List D → Option D} {md : Md → Md} (ho : UnR X (unaryOp op) r) (hc : CP X (r1 r) f md) (ha : EX X LL Γ a sa ma) :
    EX X LL Γ (.UnaryOp op a pos) (eP f (aCons sa aNil)) (md (ma.join .flat)) := by
  obtain ⟨ta, pa, k⟩ := ha
  refine ⟨_, pe_un ho pa, fun P g ρ σ H d Q s e q => ?_⟩
  obtain ⟨ds, e1, e⟩ := bind_some e
  obtain ⟨d1, e2, e1⟩ := bind_some e1
  cases e1
  refine k P g ρ σ H d1 _ s e2 fun v H1 x1 v1 => ?_
  have vl := valL_cons s.loc x1 Ext.refl v1 valL_nil
  obtain ⟨_, e3, z⟩ := hc P LL g H H1 _ _ _ d Q s.loc x1 vl e fun v2 H2 x2 w2 => q v2 H2 (x1.trans x2) w2
  cases e3
  exact z
theorem ex_cmp {a b : Expr} {sa sb : Ev} {ma mb : Md} {op : CmpOp} {r : R2} {f : List D → Option D} {md : Md → Md} (ho : OpR X (compareOp op) r) (hc : CP X (r2 r) f md) (ha : EX X LL Γ a sa ma) (hb : EX X LL Γ b sb mb)
    (hm : behindInMarks op b = false) : EX X LL Γ (.Compare a [op] [b] pos) (eP f (aCons sa (aCons sb aNil))) (md (ma.join (mb.join .flat))) := by
  obtain ⟨ta, tb, pa, pb, k⟩ := two ha hb
  refine ⟨_, pe_cmpR ho pa pb hm, fun P g ρ σ H d Q s e q => ?_⟩
  obtain ⟨ds, e1, e⟩ := bind_some e
  refine k P g ρ σ H ds _ s e1 fun d1 d2 v w H' _ x va vb vl => ?_
  obtain ⟨_, _, e3, z⟩ := hc P LL g H H' _ ds _ d Q s.loc x vl e fun v2 H2 x2 w2 => q v2 H2 (x.trans x2) w2
  cases e3
  exact z
/-- a test by a value -/
def tOf (s : Ev) : List D → Option Bool := fun ρ => do match (← s ρ) with | .bl b => some b | _ => none
theorem et_cmp {a b : Expr} {sa sb : Ev} {ma mb : Md} {op : CmpOp} {r : R2} {f : List D → Option D} {md : Md → Md} (ho : OpR X (compareOp op) r) (hc : CP X (r2 r) f md) (ha : EX X LL Γ a sa ma) (hb : EX X LL Γ b sb mb)
    (hm : behindInMarks op b = false) (hf : ∀ m, md m = .flat := by intro _; rfl) : ET X LL Γ (.Compare a [op] [b] pos) (tOf (eP f (aCons sa (aCons sb aNil)))) := by
  obtain ⟨ta, tb, pa, pb, k⟩ := two ha hb
  refine ⟨_, pt_cmpR ho pa pb hm, fun P g ρ σ H c Q s e q => ?_⟩
  obtain ⟨d, e0, e⟩ := bind_some e
  obtain ⟨ds, e1, e0⟩ := bind_some e0
  refine k P g ρ σ H ds _ s e1 fun d1 d2 v w H' _ x va vb vl => ?_
  obtain ⟨_, _, e3, z⟩ := hc P LL g H H' _ ds _ d (fun x H' => ∃ k, x = .bl k ∧ Q k H') s.loc x vl e0 fun v2 H2 x2 w2 => by
    rw [hf] at w2
    cases d with
    | bl b' =>
      cases e
      have w2 : Rep _ _ _ _ _ := w2
      simp only [Rep] at w2
      exact ⟨_, w2.1, q H2 (x.trans x2)⟩
    | _ => cases e
  cases e3
  exact z
theorem et_val {a : Expr} {sa : Ev} (ha : EX X LL Γ a sa .flat) (he : ∀ whole, isTrue a X.env whole = (do let v ← whole; standAt a.pos; holding [v] (truthy v)) := by intro _; rfl) : ET X LL Γ a (tOf sa) := by
  obtain ⟨t, p, k⟩ := ha
  refine ⟨_, pt_val p he, fun P g ρ σ H b Q s e q => ?_⟩
  obtain ⟨d, e0, e⟩ := bind_some e
  refine k P g ρ σ H d _ s e0 fun v H' x vl => ?_
  cases d with
  | bl b' =>
    cases e
    have w2 : Rep _ _ _ _ _ := vl
    simp only [Rep] at w2
    exact ⟨_, w2.1, q H' x⟩
  | _ => cases e
theorem et_w {a : Expr} {s : List D → Option Bool} (h : EW X LL Γ a s) : ET X LL Γ a s := let ⟨t, p, k⟩ := h; ⟨t, p.pt, k⟩
def wAnd (a b : List D → Option Bool) : List D → Option Bool := fun ρ => do if (← a ρ) then b ρ else some false
def wOr (a b : List D → Option Bool) : List D → Option Bool := fun ρ => do if (← a ρ) then some true else b ρ
def wNot (a : List D → Option Bool) : List D → Option Bool := fun ρ => do some (!(← a ρ))
theorem ew_and1 {a : Expr} {s : List D → Option Bool} (h : ET X LL Γ a s) : EW X LL Γ (.BoolOp .And [a] pos) s := let ⟨t, p, k⟩ := h; ⟨t, pw_and1 p, k⟩
theorem ew_or1 {a : Expr} {s : List D → Option Bool} (h : ET X LL Γ a s) : EW X LL Γ (.BoolOp .Or [a] pos) s := let ⟨t, p, k⟩ := h; ⟨t, pw_or1 p, k⟩
theorem ew_and {a b : Expr} {rest : List Expr} {s u : List D → Option Bool} (h : ET X LL Γ a s) (h' : EW X LL Γ (.BoolOp .And (b :: rest) pos) u) : EW X LL Γ (.BoolOp .And (a :: b :: rest) pos) (wAnd s u) := by
  obtain ⟨t, p, k⟩ := h
  obtain ⟨t', p', k'⟩ := h'
  refine ⟨_, pw_and p p', fun P g ρ σ H c Q st e q => ?_⟩
  obtain ⟨d, e0, e⟩ := bind_some e
  refine k P g ρ σ H d _ st e0 fun H' x => ?_
  cases d with
  | true => exact iteT (k' P g ρ σ H' c Q (st.ext x) (by simpa using e) fun H2 x2 => q H2 (x.trans x2))
  | false => exact iteF (by cases (by simpa using e : false = c); exact q H' x)
theorem ew_or {a b : Expr} {rest : List Expr} {s u : List D → Option Bool} (h : ET X LL Γ a s) (h' : EW X LL Γ (.BoolOp .Or (b :: rest) pos) u) : EW X LL Γ (.BoolOp .Or (a :: b :: rest) pos) (wOr s u) := by
  obtain ⟨t, p, k⟩ := h
  obtain ⟨t', p', k'⟩ := h'
  refine ⟨_, pw_or p p', fun P g ρ σ H c Q st e q => ?_⟩
  obtain ⟨d, e0, e⟩ := bind_some e
  refine k P g ρ σ H d _ st e0 fun H' x => ?_
  cases d with
  | false => exact iteF (k' P g ρ σ H' c Q (st.ext x) (by simpa using e) fun H2 x2 => q H2 (x.trans x2))
  | true => exact iteT (by cases (by simpa using e : true = c); exact q H' x)
theorem et_not {a : Expr} {s : List D → Option Bool} (h : ET X LL Γ a s) : ET X LL Γ (.UnaryOp .Not a pos) (wNot s) := by
  obtain ⟨t, p, k⟩ := h
  refine ⟨_, pt_not p, fun P g ρ σ H c Q st e q => ?_⟩
  obtain ⟨d, e0, e⟩ := bind_some e
  refine k P g ρ σ H d _ st e0 fun H' x => ?_
  cases e
  exact q H' x
def eIf (c : List D → Option Bool) (a b : Ev) : Ev := fun ρ => do if (← c ρ) then a ρ else b ρ
theorem ex_if {c a b : Expr} {sc : List D → Option Bool} {sa sb : Ev} {m : Md} (hc : ET X LL Γ c sc) (ha : EX X LL Γ a sa m) (hb : EX X LL Γ b sb m) : EX X LL Γ (.IfExp c a b pos) (eIf sc sa sb) m := by
  obtain ⟨t, p, k⟩ := hc
  obtain ⟨ta, pa, ka⟩ := ha
  obtain ⟨tb, pb, kb⟩ := hb
  refine ⟨_, pe_ifExp p pa pb, fun P g ρ σ H d Q st e q => ?_⟩
  obtain ⟨c', e0, e⟩ := bind_some e
  refine k P g ρ σ H c' _ st e0 fun H' x => ?_
  cases c' with
  | true => exact iteT (ka P g ρ σ H' d Q (st.ext x) (by simpa using e) fun v H2 x2 w => q v H2 (x.trans x2) (w.back x))
  | false => exact iteF (kb P g ρ σ H' d Q (st.ext x) (by simpa using e) fun v H2 x2 w => q v H2 (x.trans x2) (w.back x))
/-- bools as values -/
def eB (s : List D → Option Bool) : Ev := fun ρ => do some (.bl (← s ρ))

/-- calls of built-ins -/
theorem ex_callB {x : Str} {id : String} {p : Pos} {e : Expr} {es : List Expr} {r : List V → Hp → VK → Prop} {f : List D → Option D} {md : Md → Md} {sem : List D → Option (List D)} {m : Md} (hr : CallR X (.builtin id) r) (hc : CP X r f md)
    (hg : Gl X x) (hm : X.mg x = none) (hv : bootBuiltins x = some (.builtin id)) (ha : EA X LL Γ (e :: es) sem m) (hn : x ≠ "__name__" := by decide) (hdb : (x == ("__debug__" : Str)) = false := by decide)
    (he : starEach (e :: es) X.env = (false, eval e X.env) :: starEach es X.env := by rfl) (hpl : (backTo pos (starEach es X.env)).any (·.1) = false := by rfl) : EX X LL Γ (.Call (.Name x p) (e :: es) [] pos) (eP f sem) (md m) := by
  obtain ⟨_, t, pt, k⟩ := ha
  refine ⟨_, pe_callB hr hg hm hv pt hn hdb he hpl, fun P g ρ σ H d Q s e q => ?_⟩
  obtain ⟨ds, e1, e⟩ := bind_some e
  exact k P g ρ σ H ds _ s e1 fun vs H' x vl => hc P LL g H H' _ ds vs d Q s.loc x vl e fun v2 H2 x2 w2 => q v2 H2 (x.trans x2) w2
theorem ex_callTy {x : Str} {T : String} {p : Pos} {e : Expr} {es : List Expr} {r : List V → Hp → VK → Prop} {f : List D → Option D} {md : Md → Md} {sem : List D → Option (List D)} {m : Md} (hr : CallR X (.type T) r) (hc : CP X r f md)
    (hg : Gl X x) (hm : X.mg x = none) (hv : bootBuiltins x = some (.type T)) (ha : EA X LL Γ (e :: es) sem m) (hn : x ≠ "__name__" := by decide) (hdb : (x == ("__debug__" : Str)) = false := by decide)
    (he : starEach (e :: es) X.env = (false, eval e X.env) :: starEach es X.env := by rfl) (hpl : (backTo pos (starEach es X.env)).any (·.1) = false := by rfl) : EX X LL Γ (.Call (.Name x p) (e :: es) [] pos) (eP f sem) (md m) := by
  obtain ⟨_, t, pt, k⟩ := ha
  refine ⟨_, pe_callTy hr hg hm hv pt hn hdb he hpl, fun P g ρ σ H d Q s e q => ?_⟩
  obtain ⟨ds, e1, e⟩ := bind_some e
  exact k P g ρ σ H ds _ s e1 fun vs H' x vl => hc P LL g H H' _ ds vs d Q s.loc x vl e fun v2 H2 x2 w2 => q v2 H2 (x.trans x2) w2
end
end VV

/-! ## VPrim -/
namespace VV
open PySem PySem.Spec PyProof.Rows L2

theorem ValL.rep {mg : Mg} {P : Fm} {g : Addr → Nat} {H H' : Hp} {m : Md} {ds : List D} {vs : List V} (h : ValL mg P g H H' m ds vs) : ∃ fp, RepL mg H' ds vs fp := let ⟨fp, r, _⟩ := h; ⟨fp, r⟩
theorem repL1 {mg : Mg} {H : Hp} {d : D} {vs : List V} {fp : List Addr} (h : RepL mg H [d] vs fp) : ∃ v, vs = [v] ∧ Rep mg H d v fp := by
  simp only [RepL] at h
  obtain ⟨v, r, f1, f2, rfl, h1, ⟨rfl, rfl⟩, rfl⟩ := h
  exact ⟨v, rfl, by simpa using h1⟩
theorem repL2 {mg : Mg} {H : Hp} {d e : D} {vs : List V} {fp : List Addr} (h : RepL mg H [d, e] vs fp) : ∃ v w f1 f2, vs = [v, w] ∧ Rep mg H d v f1 ∧ Rep mg H e w f2 ∧ fp = f1 ++ f2 := by
  simp only [RepL] at h
  obtain ⟨v, r, f1, f2, rfl, h1, ⟨w, r', g1, g2, rfl, h2, ⟨rfl, rfl⟩, rfl⟩, rfl⟩ := h
  exact ⟨v, w, f1, g1, rfl, h1, by simpa using h2, by simp⟩
theorem rInt {mg : Mg} {H : Hp} {i : Int} {v : V} {fp : List Addr} (h : Rep mg H (.int i) v fp) : v = .int i := by simp only [Rep] at h; exact h.1
theorem rStr {mg : Mg} {H : Hp} {i : Str} {v : V} {fp : List Addr} (h : Rep mg H (.str i) v fp) : v = .str i := by simp only [Rep] at h; exact h.1
theorem rBl {mg : Mg} {H : Hp} {i : Bool} {v : V} {fp : List Addr} (h : Rep mg H (.bl i) v fp) : v = .bl i := by simp only [Rep] at h; exact h.1
theorem rNon {mg : Mg} {H : Hp} {v : V} {fp : List Addr} (h : Rep mg H .non v fp) : v = .non := by simp only [Rep] at h; exact h.1

/-! ### ints -/
def dII (C : Int → Int → Prop) [DecidableRel C] (f : Int → Int → Int) : List D → Option D
  | [.int a, .int b] => if C a b then some (.int (f a b)) else none
  | _ => none
def dI2 (f : Int → Int → Int) : List D → Option D
  | [.int a, .int b] => some (.int (f a b))
  | _ => none
def dB2 (f : Int → Int → Bool) : List D → Option D
  | [.int a, .int b] => some (.bl (f a b))
  | _ => none
def dI1 (f : Int → Int) : List D → Option D
  | [.int a] => some (.int (f a))
  | _ => none
theorem dII_inv {C : Int → Int → Prop} [DecidableRel C] {f : Int → Int → Int} {ds : List D} {d : D} (h : dII C f ds = some d) : ∃ a b, ds = [.int a, .int b] ∧ C a b ∧ d = .int (f a b) := by
  unfold dII at h
  split at h
  · split at h
    · cases h; exact ⟨_, _, rfl, by assumption, rfl⟩
    · cases h
  · cases h
theorem dI2_inv {f : Int → Int → Int} {ds : List D} {d : D} (h : dI2 f ds = some d) : ∃ a b, ds = [.int a, .int b] ∧ d = .int (f a b) := by
  unfold dI2 at h
  split at h
  · cases h; exact ⟨_, _, rfl, rfl⟩
  · cases h
theorem dB2_inv {f : Int → Int → Bool} {ds : List D} {d : D} (h : dB2 f ds = some d) : ∃ a b, ds = [.int a, .int b] ∧ d = .bl (f a b) := by
  unfold dB2 at h
  split at h
  · cases h; exact ⟨_, _, rfl, rfl⟩
  · cases h
theorem dI1_inv {f : Int → Int} {ds : List D} {d : D} (h : dI1 f ds = some d) : ∃ a, ds = [.int a] ∧ d = .int (f a) := by
  unfold dI1 at h
  split at h
  · cases h; exact ⟨_, rfl, rfl⟩
  · cases h
section
variable {X : Cx}
theorem cp_ii {C : Int → Int → Prop} [DecidableRel C] {f : Int → Int → Int} : CP X (r2 (rI C fun i j => .int (f i j))) (dII C f) toFlat := by
  intro P LL g H H1 m ds vs d Q l x vl e q
  obtain ⟨a, b, rfl, hc, rfl⟩ := dII_inv e
  obtain ⟨fp, r⟩ := vl.rep
  obtain ⟨v, w, f1, f2, rfl, h1, h2, _⟩ := repL2 r
  exact ⟨v, w, rfl, a, b, rInt h1, rInt h2, hc, q _ H1 Ext.refl (val_flat rep_int)⟩
theorem cp_i2 {f : Int → Int → Int} : CP X (r2 (rI0 fun i j => .int (f i j))) (dI2 f) toFlat := by
  intro P LL g H H1 m ds vs d Q l x vl e q
  obtain ⟨a, b, rfl, rfl⟩ := dI2_inv e
  obtain ⟨fp, r⟩ := vl.rep
  obtain ⟨v, w, f1, f2, rfl, h1, h2, _⟩ := repL2 r
  exact ⟨v, w, rfl, a, b, rInt h1, rInt h2, q _ H1 Ext.refl (val_flat rep_int)⟩
theorem cp_b2 {f : Int → Int → Bool} : CP X (r2 (rI0 fun i j => .bl (f i j))) (dB2 f) toFlat := by
  intro P LL g H H1 m ds vs d Q l x vl e q
  obtain ⟨a, b, rfl, rfl⟩ := dB2_inv e
  obtain ⟨fp, r⟩ := vl.rep
  obtain ⟨v, w, f1, f2, rfl, h1, h2, _⟩ := repL2 r
  exact ⟨v, w, rfl, a, b, rInt h1, rInt h2, q _ H1 Ext.refl (val_flat rep_bl)⟩
theorem cp_u {f : Int → Int} : CP X (r1 (rU fun i => .int (f i))) (dI1 f) toFlat := by
  intro P LL g H H1 m ds vs d Q l x vl e q
  obtain ⟨a, rfl, rfl⟩ := dI1_inv e
  obtain ⟨fp, r⟩ := vl.rep
  obtain ⟨v, rfl, h1⟩ := repL1 r
  exact ⟨v, rfl, a, rInt h1, q _ H1 Ext.refl (val_flat rep_int)⟩
end
instance : DecidableRel CDivW := fun _ _ => inferInstanceAs (Decidable (_ ∧ _))
instance : DecidableRel CMulX := fun i j => decidable_of_iff (Builtin.Int.intBits i + Builtin.Int.intBits j ≤ 134217728) (by unfold CMulX; omega)
instance : DecidableRel CPow := fun _ _ => inferInstanceAs (Decidable (_ ∧ _ ∧ _))
def CPos (_ j : Int) : Prop := 0 < j
instance : DecidableRel CPos := fun _ j => inferInstanceAs (Decidable (0 < j))
abbrev dAdd := dI2 fun i j => i + j
abbrev dSub := dI2 fun i j => i - j
abbrev dMul := dII CMulX fun i j => i * j
abbrev dDiv := dII CDivW fun i j => i / j
abbrev dMod := dII CPos fun i j => i % j
abbrev dPow := dII CPow fun i j => i ^ j.toNat
abbrev dNeg := dI1 fun i => -i
abbrev dLt := dB2 fun i j => decide (i < j)
abbrev dLe := dB2 fun i j => decide (i ≤ j)
abbrev dGt := dB2 fun i j => decide (j < i)
abbrev dGe := dB2 fun i j => decide (j ≤ i)
section
variable {X : Cx} {LL : List Nat} {Γ : List Kd} {pos : Pos} {a b : Expr} {sa sb : Ev} {ma mb : Md}
theorem ex_add (ha : EX X LL Γ a sa ma) (hb : EX X LL Γ b sb mb) : EX X LL Γ (.BinOp a .Add b pos) (eP dAdd (aCons sa (aCons sb aNil))) .flat := ex_bin op_add cp_i2 ha hb
theorem ex_sub (ha : EX X LL Γ a sa ma) (hb : EX X LL Γ b sb mb) : EX X LL Γ (.BinOp a .Sub b pos) (eP dSub (aCons sa (aCons sb aNil))) .flat := ex_bin op_sub cp_i2 ha hb
theorem ex_mul (ha : EX X LL Γ a sa ma) (hb : EX X LL Γ b sb mb) : EX X LL Γ (.BinOp a .Mult b pos) (eP dMul (aCons sa (aCons sb aNil))) .flat := ex_bin op_mulX cp_ii ha hb
theorem ex_div (ha : EX X LL Γ a sa ma) (hb : EX X LL Γ b sb mb) : EX X LL Γ (.BinOp a .FloorDiv b pos) (eP dDiv (aCons sa (aCons sb aNil))) .flat := ex_bin op_fdivW cp_ii ha hb
theorem ex_mod (ha : EX X LL Γ a sa ma) (hb : EX X LL Γ b sb mb) : EX X LL Γ (.BinOp a .Mod b pos) (eP dMod (aCons sa (aCons sb aNil))) .flat := ex_bin (op_mod (X := X)) (cp_ii (C := CPos)) ha hb
theorem ex_pow (ha : EX X LL Γ a sa ma) (hb : EX X LL Γ b sb mb) : EX X LL Γ (.BinOp a .Pow b pos) (eP dPow (aCons sa (aCons sb aNil))) .flat := ex_bin op_pow cp_ii ha hb
theorem ex_neg (ha : EX X LL Γ a sa ma) : EX X LL Γ (.UnaryOp .USub a pos) (eP dNeg (aCons sa aNil)) .flat := ex_un un_neg cp_u ha
theorem et_lt (ha : EX X LL Γ a sa ma) (hb : EX X LL Γ b sb mb) : ET X LL Γ (.Compare a [.Lt] [b] pos) (tOf (eP dLt (aCons sa (aCons sb aNil)))) := et_cmp op_lt cp_b2 ha hb (nomark _)
theorem et_le (ha : EX X LL Γ a sa ma) (hb : EX X LL Γ b sb mb) : ET X LL Γ (.Compare a [.LtE] [b] pos) (tOf (eP dLe (aCons sa (aCons sb aNil)))) := et_cmp op_le cp_b2 ha hb (nomark _)
theorem et_gt (ha : EX X LL Γ a sa ma) (hb : EX X LL Γ b sb mb) : ET X LL Γ (.Compare a [.Gt] [b] pos) (tOf (eP dGt (aCons sa (aCons sb aNil)))) := et_cmp op_gt cp_b2 ha hb (nomark _)
theorem et_ge (ha : EX X LL Γ a sa ma) (hb : EX X LL Γ b sb mb) : ET X LL Γ (.Compare a [.GtE] [b] pos) (tOf (eP dGe (aCons sa (aCons sb aNil)))) := et_cmp op_ge cp_b2 ha hb (nomark _)
theorem ex_lt (ha : EX X LL Γ a sa ma) (hb : EX X LL Γ b sb mb) : EX X LL Γ (.Compare a [.Lt] [b] pos) (eP dLt (aCons sa (aCons sb aNil))) .flat := ex_cmp op_lt cp_b2 ha hb (nomark _)
theorem ex_le (ha : EX X LL Γ a sa ma) (hb : EX X LL Γ b sb mb) : EX X LL Γ (.Compare a [.LtE] [b] pos) (eP dLe (aCons sa (aCons sb aNil))) .flat := ex_cmp op_le cp_b2 ha hb (nomark _)
theorem ex_gt (ha : EX X LL Γ a sa ma) (hb : EX X LL Γ b sb mb) : EX X LL Γ (.Compare a [.Gt] [b] pos) (eP dGt (aCons sa (aCons sb aNil))) .flat := ex_cmp op_gt cp_b2 ha hb (nomark _)
theorem ex_ge (ha : EX X LL Γ a sa ma) (hb : EX X LL Γ b sb mb) : EX X LL Γ (.Compare a [.GtE] [b] pos) (eP dGe (aCons sa (aCons sb aNil))) .flat := ex_cmp op_ge cp_b2 ha hb (nomark _)
end
end VV

/-! ## VSeq -/
namespace VV
open PySem PySem.Spec PyProof.Rows L2

mutual
def D.isFlat : D → Bool
  | .tup l => D.isFlatL l
  | .lst _ => false
  | .dic _ _ _ => false
  | .obj _ _ _ => false
  | _ => true
def D.isFlatL : List D → Bool
  | [] => true
  | d :: r => d.isFlat && D.isFlatL r
end
mutual
theorem Rep.flat {mg : Mg} {H : Hp} : ∀ {d : D} {v : V} {fp : List Addr}, Rep mg H d v fp → d.isFlat = true → fp = []
  | .non, _, _, h, _ => by simp only [Rep] at h; exact h.2
  | .bl _, _, _, h, _ => by simp only [Rep] at h; exact h.2
  | .int _, _, _, h, _ => by simp only [Rep] at h; exact h.2
  | .str _, _, _, h, _ => by simp only [Rep] at h; exact h.2
  | .fn _, _, _, h, _ => by simp only [Rep] at h; exact h.2
  | .kti _, _, _, h, _ => by simp only [Rep] at h; exact h.2
  | .tup l, _, _, h, f => by
    simp only [Rep] at h
    obtain ⟨a, vs, rfl, _, h2⟩ := h
    exact RepL.flat h2 (by simpa only [D.isFlat] using f)
  | .lst _, _, _, _, f => by simp [D.isFlat] at f
  | .scr _, _, _, h, _ => by simp only [Rep] at h; obtain ⟨_, _, _, _, _, e⟩ := h; exact e
  | .dic _ _ _, _, _, _, f => by simp [D.isFlat] at f
  | .obj _ _ _, _, _, _, f => by simp [D.isFlat] at f
theorem RepL.flat {mg : Mg} {H : Hp} : ∀ {ds : List D} {vs : List V} {fp : List Addr}, RepL mg H ds vs fp → D.isFlatL ds = true → fp = []
  | [], _, _, h, _ => by simp only [RepL] at h; exact h.2
  | d :: ds, _, _, h, f => by
    simp only [RepL] at h
    obtain ⟨v, r, f1, f2, rfl, h1, h2, rfl⟩ := h
    simp only [D.isFlatL, Bool.and_eq_true] at f
    rw [Rep.flat h1 f.1, RepL.flat h2 f.2]
    rfl
end
theorem isFlatL_all (l : List D) : D.isFlatL l = l.all D.isFlat := by
  induction l with
  | nil => rfl
  | cons d r ih => simp only [D.isFlatL, List.all_cons, ih]

/-! ### what is known of a result by a look at its tree -/
def eChk (p : D → Bool) (s : Ev) : Ev := fun ρ => (s ρ).filter p
def D.isLst : D → Bool
  | .lst _ => true
  | _ => false
def D.isTup : D → Bool
  | .tup _ => true
  | _ => false
def D.isStr : D → Bool
  | .str _ => true
  | _ => false
def D.kidsFlat : D → Bool
  | .lst l => D.isFlatL l
  | .dic _ _ l => D.isFlatL l
  | _ => false
section
variable {X : Cx} {LL : List Nat} {Γ : List Kd} {pos : Pos} {e : Expr} {s : Ev}
theorem ex_flat {m : Md} (h : EX X LL Γ e s m) : EX X LL Γ e (eChk D.isFlat s) .flat := by
  obtain ⟨t, p, k⟩ := h
  refine ⟨t, p, fun P g ρ σ H d Q st hs q => ?_⟩
  obtain ⟨h1, h2⟩ := Option.filter_eq_some_iff.mp hs
  refine k P g ρ σ H d Q st h1 fun v H' x w => q v H' x ?_
  cases m with
  | flat => exact w
  | al fr rt L nd =>
    obtain ⟨fp, r, _⟩ := w
    rw [r.flat h2] at r
    exact r
def Md.isNew : Md → Bool
  | .al _ .new _ _ => true
  | _ => false
theorem ex_kids {m : Md} (h : EX X LL Γ e s m) (hm : m.isNew = true := by rfl) : EX X LL Γ e (eChk D.kidsFlat s) (.al false .new [] true) := by
  obtain ⟨fr, L, nd, rfl⟩ : ∃ fr L nd, m = .al fr .new L nd := by
    cases m with
    | flat => cases hm
    | al fr rt L nd =>
      cases rt with
      | new => exact ⟨fr, L, nd, rfl⟩
      | old n => cases hm
      | unk => cases hm
  obtain ⟨t, p, k⟩ := h
  refine ⟨t, p, fun P g ρ σ H d Q st hs q => ?_⟩
  obtain ⟨h1, h2⟩ := Option.filter_eq_some_iff.mp hs
  refine k P g ρ σ H d Q st h1 fun v H' x w => q v H' x ?_
  obtain ⟨fp, r, o⟩ := w
  have key : ∀ a, v = .ref a → fp = [a] → Val X.vm P g H H' (.al false .new [] true) d v := by
    intro a e1 e2
    subst e1; subst e2
    refine ⟨[a], r, fun b hb => ?_, .of (by simp)⟩
    obtain rfl := List.mem_singleton.mp hb
    rcases o.1 b hb with z | ⟨z | z, _⟩
    · exact .inl z
    · exact absurd rfl z
    · cases z
  cases d with
  | lst l =>
    have r0 := r
    simp only [Rep] at r0
    obtain ⟨a, vs, f, rfl, _, r2, rfl⟩ := r0
    exact key a rfl (by rw [r2.flat h2])
  | dic tk ks l =>
    have r0 := r
    simp only [Rep] at r0
    obtain ⟨a, vs, f, rfl, _, r2, rfl⟩ := r0
    exact key a rfl (by rw [r2.flat h2])
  | _ => cases h2
end

/-! ### len, items -/
def dLen : List D → Option D
  | [.lst l] => some (.int l.length)
  | [.scr l] => some (.int l.length)
  | [.tup l] => some (.int l.length)
  | [.str s] => if s.length ≤ sizeLine then some (.int s.length) else none
  | _ => none
def dIdx : List D → Option D
  | [.lst l, .int i] => atI l i
  | [.scr l, .int i] => atI l i
  | [.tup l, .int i] => atI l i
  | [.str s, .int i] => if s.length ≤ sizeLine then (atI s.cps.toList i).map fun c => .str ⟨#[c]⟩ else none
  | _ => none
def Md.child : Md → Md
  | .flat => .flat
  | .al fr rt L nd => if nd then .al fr .unk L true else (Md.al fr rt L nd).unroot
section
variable {X : Cx}
theorem cp_len : CP X (fun xs H Q => ∃ x n, xs = [x] ∧ LenV X.K x H n ∧ Q (.int n) H) dLen toFlat := by
  intro P LL g H H1 m ds vs d Q l x vl e q
  obtain ⟨fp, r⟩ := vl.rep
  unfold dLen at e
  split at e
  · cases e
    obtain ⟨v, rfl, h⟩ := repL1 r
    simp only [Rep] at h
    obtain ⟨a, vs, f, rfl, ha, h2, rfl⟩ := h
    exact ⟨_, _, rfl, .inl ⟨vs, SqL.of ha, rfl⟩, by rw [h2.length]; exact q _ H1 Ext.refl (val_flat rep_int)⟩
  · cases e
    obtain ⟨v, rfl, h⟩ := repL1 r
    simp only [Rep] at h
    obtain ⟨a, vs, rfl, ha, h2, rfl⟩ := h
    exact ⟨_, _, rfl, .inl ⟨vs, ha.sq, rfl⟩, by rw [h2.length]; exact q _ H1 Ext.refl (val_flat rep_int)⟩
  · cases e
    obtain ⟨v, rfl, h⟩ := repL1 r
    simp only [Rep] at h
    obtain ⟨a, vs, rfl, ha, h2⟩ := h
    exact ⟨_, _, rfl, .inr ⟨vs, .inl (.inl ha), rfl⟩, by rw [h2.length]; exact q _ H1 Ext.refl (val_flat rep_int)⟩
  · split at e
    · cases e
      obtain ⟨v, rfl, h⟩ := repL1 r
      obtain rfl := rStr h
      exact ⟨_, _, rfl, ⟨by assumption, rfl⟩, q _ H1 Ext.refl (val_flat rep_int)⟩
    · cases e
  · cases e
theorem ixN_lt {n : Nat} {i : Int} {j : Nat} (h : ixN n i = some j) : j < n := (ixN_seq h).2.1
theorem val_child {mg : Mg} {P : Fm} {g : Addr → Nat} {H H1 : Hp} {m : Md} {d0 : D} {v0 : V} {d : D} {v : V} (h : Val mg P g H H1 m d0 v0)
    (he : ∀ fp, Rep mg H1 d0 v0 fp → ∃ f1 f f2, Rep mg H1 d v f ∧ ((∃ a, v0 = .ref a ∧ fp = a :: (f1 ++ f ++ f2)) ∨ (fp = f1 ++ f ++ f2 ∧ ∀ a, v0 = .ref a → a ∉ fp))) : Val mg P g H H1 m.child d v := by
  cases m with
  | flat =>
    obtain ⟨f1, f, f2, r, ⟨a, _, e⟩ | ⟨e, _⟩⟩ := he [] h
    · cases e
    · have : f = [] := by
        have := congrArg List.length e
        simp at this
        exact List.eq_nil_of_length_eq_zero (by omega)
      subst this
      exact r
  | al fr rt L nd =>
    obtain ⟨fp, r, o⟩ := h
    obtain ⟨f1, f, f2, rf, hh⟩ := he fp r
    have hs : ∀ a ∈ f, a ∈ fp := fun a ha => by
      rcases hh with ⟨b, _, rfl⟩ | ⟨rfl, _⟩
      · exact List.mem_cons_of_mem _ (List.mem_append_left _ (List.mem_append_right _ ha))
      · exact List.mem_append_left _ (List.mem_append_right _ ha)
    have hn : nd = true → f.Nodup := fun h => by
      have n := o.2.1 h
      rcases hh with ⟨b, _, rfl⟩ | ⟨rfl, _⟩
      · have n := (List.nodup_cons.mp n).2
        exact (List.nodup_append.mp (List.nodup_append.mp n).1).2.1
      · exact (List.nodup_append.mp (List.nodup_append.mp n).1).2.1
    cases nd with
    | true =>
      refine ⟨f, rf, fun a ha => ?_, .unk fun h => hn rfl⟩
      rcases o.1 a (hs a ha) with ⟨e, y⟩ | ⟨_, y⟩
      · exfalso
        rcases hh with ⟨b, e2, rfl⟩ | ⟨_, z⟩
        · rw [e2] at e; cases e
          exact (List.nodup_cons.mp (o.2.1 rfl)).1 (List.mem_append_left _ (List.mem_append_right _ ha))
        · exact z a e (hs a ha)
      · exact .inr ⟨.inr rfl, y⟩
    | false =>
      have q := o.unroot
      show Val mg P g H H1 (Md.al fr rt L false).unroot d v
      cases rt <;> exact ⟨f, rf, fun a ha => .inr ⟨.inr rfl, q.1 a (hs a ha)⟩, .unk fun h => nomatch h⟩
theorem rd_tup {H : Hp} {a : Addr} {xs : List V} (r : Rd H a (.tup xs)) {u : HO} (q : Rd H a u) (h : ∀ o, u ≠ .frz o (.tup xs)) (h' : ∀ ys, u ≠ .tup ys) (h2 : ∀ o w, u ≠ .frz o w) : False := by
  rcases r with r | ⟨o, r⟩ <;> rcases q with q | ⟨o', q⟩ <;> rw [r] at q <;> cases q
  · exact h' _ rfl
  · exact h2 _ _ rfl
  · exact h' _ rfl
mutual
/-- the footprint does not have tuples -/
theorem Rep.notup {mg : Mg} {H : Hp} : ∀ {d : D} {v : V} {fp : List Addr}, Rep mg H d v fp → ∀ {a : Addr} {xs : List V}, Rd H a (.tup xs) → a ∉ fp
  | .non, _, _, h, _, _, _ => by simp only [Rep] at h; rw [h.2]; simp
  | .bl _, _, _, h, _, _, _ => by simp only [Rep] at h; rw [h.2]; simp
  | .int _, _, _, h, _, _, _ => by simp only [Rep] at h; rw [h.2]; simp
  | .str _, _, _, h, _, _, _ => by simp only [Rep] at h; rw [h.2]; simp
  | .fn _, _, _, h, _, _, _ => by simp only [Rep] at h; rw [h.2]; simp
  | .kti _, _, _, h, _, _, _ => by simp only [Rep] at h; rw [h.2]; simp
  | .tup ds, _, _, h, _, _, r => by
    simp only [Rep] at h
    obtain ⟨_, vs, rfl, _, h2⟩ := h
    exact RepL.notup h2 r
  | .lst ds, _, _, h, _, _, r => by
    simp only [Rep] at h
    obtain ⟨b, vs, f, rfl, e, h2, rfl⟩ := h
    intro hm
    rcases List.mem_cons.mp hm with rfl | hm
    · exact rd_tup r (.inl e) (fun _ z => nomatch z) (fun _ z => nomatch z) (fun _ _ z => nomatch z)
    · exact RepL.notup h2 r hm
  | .scr ds, _, _, h, a, _, r => by
    simp only [Rep] at h
    obtain ⟨b, vs, rfl, e, h2, rfl⟩ := h
    simp
  | .dic tk ks ds, _, _, h, _, _, r => by
    simp only [Rep] at h
    obtain ⟨b, vs, f, rfl, ⟨_, e⟩, h2, rfl⟩ := h
    intro hm
    rcases List.mem_cons.mp hm with rfl | hm
    · cases tk <;> obtain ⟨_, _, e⟩ := e
      · exact rd_tup r e (fun _ z => nomatch z) (fun _ z => nomatch z) (fun _ _ z => nomatch z)
      · exact rd_tup r e (fun _ z => nomatch z) (fun _ z => nomatch z) (fun _ _ z => nomatch z)
    · exact RepL.notup h2 r hm
  | .obj c ns ds, _, _, h, _, _, r => by
    simp only [Rep] at h
    obtain ⟨b, C, dx, vs, f, rfl, _, _, e, h2, rfl⟩ := h
    intro hm
    rcases List.mem_cons.mp hm with rfl | hm
    · exact rd_tup r e (fun _ z => nomatch z) (fun _ z => nomatch z) (fun _ _ z => nomatch z)
    · exact RepL.notup h2 r hm
theorem RepL.notup {mg : Mg} {H : Hp} : ∀ {ds : List D} {vs : List V} {fp : List Addr}, RepL mg H ds vs fp → ∀ {a : Addr} {xs : List V}, Rd H a (.tup xs) → a ∉ fp
  | [], _, _, h, _, _, _ => by simp only [RepL] at h; rw [h.2]; simp
  | d :: ds, _, _, h, _, _, r => by
    simp only [RepL] at h
    obtain ⟨v, r', f1, f2, rfl, h1, h2, rfl⟩ := h
    intro hm
    rcases List.mem_append.mp hm with hm | hm
    · exact Rep.notup h1 r hm
    · exact RepL.notup h2 r hm
end
theorem dIdx_child {mg : Mg} {P : Fm} {g : Addr → Nat} {H H1 : Hp} {K : PySem.W.Frag} {m : Md} {d0 d : D} {i : Int} {v0 : V} {Q : VK} (hK : mg.K = K) (h : Val mg P g H H1 m d0 v0) (e : dIdx [d0, .int i] = some d)
    (q : ∀ v, Val mg P g H H1 m.child d v → Q v H1) : rIx K v0 (.int i) H1 Q := by
  have get : ∀ (l : List D) (us : List V) (f : List Addr), atI l i = some d → RepL mg H1 l us f → ∃ z g1 g2 g3, atI us i = some z ∧ Rep mg H1 d z g2 ∧ f = g1 ++ g2 ++ g3 := fun l us f e r => by
    unfold atI at e
    obtain ⟨j, e1, e2⟩ := bind_some e
    obtain ⟨z, g1, g2, g3, e3, rz, rfl⟩ := r.get e2
    exact ⟨z, g1, g2, g3, by unfold atI; rw [r.length, e1]; exact e3, rz, rfl⟩
  have some_fp : ∃ fp, Rep mg H1 d0 v0 fp := let ⟨fp, r, _⟩ := h.unroot; ⟨fp, r⟩
  obtain ⟨fp0, r0⟩ := some_fp
  cases d0 with
  | lst l =>
    have e : atI l i = some d := e
    simp only [Rep] at r0
    obtain ⟨a, us, f, rfl, ha, h3, rfl⟩ := r0
    obtain ⟨z, g1, g2, g3, e3, rz, rfl⟩ := get l us _ e h3
    refine .inl ⟨a, us, _, z, rfl, rfl, SqL.of ha, e3, q _ (val_child h fun fp r => ?_)⟩
    simp only [Rep] at r
    obtain ⟨b, us', f', eb, hb, h3', rfl⟩ := r
    cases eb
    rw [ha] at hb; cases hb
    obtain ⟨z', k1, k2, k3, e3', rz', rfl⟩ := get l us _ e h3'
    rw [e3] at e3'; cases e3'
    exact ⟨k1, k2, k3, rz', .inl ⟨a, rfl, rfl⟩⟩
  | scr l =>
    have e : atI l i = some d := e
    simp only [Rep] at r0
    obtain ⟨a, us, rfl, ha, h3, rfl⟩ := r0
    obtain ⟨z, g1, g2, g3, e3, rz, e4⟩ := get l us _ e h3
    have e5 : g2 = [] := by
      have := congrArg List.length e4
      simp at this
      exact List.eq_nil_of_length_eq_zero (by omega)
    subst e5
    refine .inl ⟨a, us, _, z, rfl, rfl, hK ▸ ha.sq, e3, q _ (val_child h fun fp r => ?_)⟩
    simp only [Rep] at r
    obtain ⟨b, us', eb, hb, h3', rfl⟩ := r
    exact ⟨[], [], [], rz, .inr ⟨rfl, fun a' ea => nofun⟩⟩
  | tup l =>
    have e : atI l i = some d := e
    simp only [Rep] at r0
    obtain ⟨a, us, rfl, ha, h3⟩ := r0
    obtain ⟨z, g1, g2, g3, e3, rz, rfl⟩ := get l us _ e h3
    refine .inr (.inl ⟨a, us, _, z, rfl, rfl, .inl (.inl ha), e3, q _ (val_child h fun fp r => ?_)⟩)
    have r1 := r
    simp only [Rep] at r
    obtain ⟨b, us', eb, hb, h3'⟩ := r
    cases eb
    have eus : us' = us := by
      rw [ha] at hb; cases hb; rfl
    subst eus
    obtain ⟨z', k1, k2, k3, e3', rz', rfl⟩ := get l us' _ e h3'
    rw [e3] at e3'; cases e3'
    exact ⟨k1, k2, k3, rz', .inr ⟨rfl, fun a' ea => by cases ea; exact r1.notup (.inl ha)⟩⟩
  | str s =>
    unfold dIdx at e
    simp only at e
    split at e
    · obtain ⟨c, e1, rfl⟩ := Option.map_eq_some_iff.mp e
      obtain rfl := rStr r0
      refine .inr (.inr ⟨_, _, c, rfl, rfl, by assumption, e1, q _ (val_child h fun fp r => ?_)⟩)
      simp only [Rep] at r
      exact ⟨[], [], [], rep_str, .inr ⟨r.2, fun a' ea => nomatch ea⟩⟩
    · cases e
  | _ => cases e
end
section
variable {X : Cx} {LL : List Nat} {Γ : List Kd} {pos : Pos} {a b : Expr} {sa sb : Ev} {ma mb : Md}
theorem dIdx_int {d0 x d : D} (e : dIdx [d0, x] = some d) : ∃ i, x = .int i := by
  unfold dIdx at e
  split at e <;> first | (rename_i h; cases h; exact ⟨_, rfl⟩) | cases e
theorem ex_idx (ha : EX X LL Γ a sa ma) (hb : EX X LL Γ b sb mb) (hs : PlainIx b := by exact fun _ _ => rfl) : EX X LL Γ (.Subscript a b pos) (eP dIdx (aCons sa (aCons sb aNil))) ma.child := by
  obtain ⟨ta, tb, pa, pb, k⟩ := two ha hb
  refine ⟨_, pe_ix ix_seq pa pb hs, fun P g ρ σ H d Q s e q => ?_⟩
  obtain ⟨ds, e1, e⟩ := bind_some e
  refine k P g ρ σ H ds _ s e1 fun d1 d2 v w H' eds x va vb vl => ?_
  subst eds
  obtain ⟨i, rfl⟩ := dIdx_int e
  obtain ⟨fp, rw', _⟩ := vb.unroot
  obtain rfl := rInt rw'
  exact dIdx_child rfl va e fun v2 w2 => q v2 H' x w2
/-- the item is flat -/
theorem ex_idxF (ha : EX X LL Γ a sa ma) (hb : EX X LL Γ b sb mb) (hs : PlainIx b := by exact fun _ _ => rfl) : EX X LL Γ (.Subscript a b pos) (eChk D.isFlat (eP dIdx (aCons sa (aCons sb aNil)))) .flat := ex_flat (ex_idx ha hb hs)
end
end VV

/-! ## VEq -/
namespace VV
open PySem PySem.Spec PyProof.Rows L2
mutual
def D.toP : D → PyData
  | .non => .none
  | .bl b => .bool b
  | .int i => .int i
  | .str s => .str s
  | .tup l => .tuple (D.toPL l)
  | .lst l => .list (D.toPL l)
  | .scr l => .list (D.toPL l)
  | _ => .dict []
def D.toPL : List D → List PyData
  | [] => []
  | d :: r => d.toP :: D.toPL r
end
mutual
theorem Rep.dp {mg : Mg} {H : Hp} : ∀ {d : D} {v : V} {fp : List Addr}, Rep mg H d v fp → d.toP.canLay0 = true → Dp mg.K H v d.toP
  | .non, _, _, h, _ => by simp only [Rep] at h; rw [h.1]; exact .non
  | .bl b, _, _, h, _ => by simp only [Rep] at h; rw [h.1]; exact .bl b
  | .int i, _, _, h, _ => by simp only [Rep] at h; rw [h.1]; exact .int i
  | .str s, _, _, h, _ => by simp only [Rep] at h; rw [h.1]; exact .str s
  | .tup l, _, _, h, c => by
    simp only [Rep] at h
    obtain ⟨a, vs, rfl, r, h2⟩ := h
    simp only [D.toP, PyData.canLay0] at c ⊢
    exact .tup (.inl (.inl r)) (RepL.dp h2 c)
  | .lst l, _, _, h, c => by
    simp only [Rep] at h
    obtain ⟨a, vs, f, rfl, r, h2, _⟩ := h
    simp only [D.toP, PyData.canLay0] at c ⊢
    exact .lst (SqL.of r) (RepL.dp h2 c)
  | .scr l, _, _, h, c => by
    simp only [Rep] at h
    obtain ⟨a, vs, rfl, r, h2, _⟩ := h
    simp only [D.toP, PyData.canLay0] at c ⊢
    exact .lst r.sq (RepL.dp h2 c)
  | .dic _ _ _, _, _, _, c => by simp [D.toP, PyData.canLay0] at c
  | .obj _ _ _, _, _, _, c => by simp [D.toP, PyData.canLay0] at c
  | .fn _, _, _, _, c => by simp [D.toP, PyData.canLay0] at c
  | .kti _, _, _, _, c => by simp [D.toP, PyData.canLay0] at c
theorem RepL.dp {mg : Mg} {H : Hp} : ∀ {ds : List D} {vs : List V} {fp : List Addr}, RepL mg H ds vs fp → PyData.canLayAll0 (D.toPL ds) = true → DpAll mg.K H vs (D.toPL ds)
  | [], _, _, h, _ => by simp only [RepL] at h; rw [h.1]; exact .nil
  | d :: ds, _, _, h, c => by
    simp only [RepL] at h
    obtain ⟨v, r, f1, f2, rfl, h1, h2, _⟩ := h
    simp only [D.toPL, PyData.canLayAll0, Bool.and_eq_true] at c ⊢
    exact .cons (Rep.dp h1 c.1) (RepL.dp h2 c.2)
end
def D.eqv (a b : D) : Bool := PyData.eqv a.toP b.toP
def D.shd (a : D) : Bool := SeqAt.shaped a.toP
def dEq : List D → Option D
  | [a, b] => if a.shd && b.shd then some (.bl (a.eqv b)) else none
  | _ => none
def dNe : List D → Option D
  | [a, b] => if a.shd && b.shd then some (.bl (!a.eqv b)) else none
  | _ => none
section
variable {X : Cx}
theorem cp_eq : CP X (r2 (rEqD X.K)) dEq toFlat := by
  intro P LL g H H1 m ds vs d Q l x vl e q
  obtain ⟨fp, r⟩ := vl.rep
  unfold dEq at e
  split at e
  · split at e
    · cases e
      rename_i h
      rw [Bool.and_eq_true] at h
      obtain ⟨v, w, f1, f2, rfl, h1, h2, _⟩ := repL2 r
      exact ⟨v, w, rfl, _, _, h1.dp (SeqAt.canLay_of_shaped h.1), h2.dp (SeqAt.canLay_of_shaped h.2), h.1, h.2, q _ H1 Ext.refl (val_flat rep_bl)⟩
    · cases e
  · cases e
theorem cp_ne : CP X (r2 (rNeD X.K)) dNe toFlat := by
  intro P LL g H H1 m ds vs d Q l x vl e q
  obtain ⟨fp, r⟩ := vl.rep
  unfold dNe at e
  split at e
  · split at e
    · cases e
      rename_i h
      rw [Bool.and_eq_true] at h
      obtain ⟨v, w, f1, f2, rfl, h1, h2, _⟩ := repL2 r
      exact ⟨v, w, rfl, _, _, h1.dp (SeqAt.canLay_of_shaped h.1), h2.dp (SeqAt.canLay_of_shaped h.2), h.1, h.2, q _ H1 Ext.refl (val_flat rep_bl)⟩
    · cases e
  · cases e
def D.isNon : D → Bool
  | .non => true
  | _ => false
def dIsN : List D → Option D
  | [d, .non] => some (.bl d.isNon)
  | _ => none
def dNotN : List D → Option D
  | [d, .non] => some (.bl (!d.isNon))
  | _ => none
theorem rep_non_iff {mg : Mg} {H : Hp} {d : D} {v : V} {fp : List Addr} (h : Rep mg H d v fp) : decide (v = .non) = d.isNon := by
  cases d <;> simp only [Rep] at h
  case non => rw [h.1]; rfl
  case kti => obtain ⟨⟨_, _, rfl, _⟩, _⟩ := h; simp [D.isNon]
  case bl => rw [h.1]; rfl
  case int => rw [h.1]; rfl
  case str => rw [h.1]; rfl
  case fn => obtain ⟨⟨a, rfl, _⟩, _⟩ := h; rfl
  case tup => obtain ⟨a, _, rfl, _⟩ := h; rfl
  case lst => obtain ⟨a, _, _, rfl, _⟩ := h; rfl
  case scr => obtain ⟨a, _, rfl, _⟩ := h; rfl
  case dic => obtain ⟨a, _, _, rfl, _⟩ := h; rfl
  case obj => obtain ⟨a, _, _, _, _, rfl, _⟩ := h; rfl
theorem cp_isN : CP X (r2 (fun x y H Q => y = .non ∧ Q (.bl (decide (x = .non))) H)) dIsN toFlat := by
  intro P LL g H H1 m ds vs d Q l x vl e q
  obtain ⟨fp, r⟩ := vl.rep
  unfold dIsN at e
  split at e
  · obtain ⟨v, w, f1, f2, rfl, h1, h2, _⟩ := repL2 r
    refine ⟨v, w, rfl, rNon h2, ?_⟩
    rw [rep_non_iff h1]
    cases e
    exact q _ H1 Ext.refl (val_flat rep_bl)
  · cases e
theorem cp_notN : CP X (r2 (fun x y H Q => y = .non ∧ Q (.bl (!decide (x = .non))) H)) dNotN toFlat := by
  intro P LL g H H1 m ds vs d Q l x vl e q
  obtain ⟨fp, r⟩ := vl.rep
  unfold dNotN at e
  split at e
  · obtain ⟨v, w, f1, f2, rfl, h1, h2, _⟩ := repL2 r
    refine ⟨v, w, rfl, rNon h2, ?_⟩
    rw [rep_non_iff h1]
    cases e
    exact q _ H1 Ext.refl (val_flat rep_bl)
  · cases e
end
section
variable {X : Cx} {LL : List Nat} {Γ : List Kd} {pos : Pos} {a b : Expr} {sa sb : Ev} {ma mb : Md}
theorem ex_eq (hu : X.A.units + 64 < cLine) (ha : EX X LL Γ a sa ma) (hb : EX X LL Γ b sb mb) : EX X LL Γ (.Compare a [.Eq] [b] pos) (eP dEq (aCons sa (aCons sb aNil))) .flat := ex_cmp (op_eqD hu) cp_eq ha hb (nomark _)
theorem ex_ne (hu : X.A.units + 64 < cLine) (ha : EX X LL Γ a sa ma) (hb : EX X LL Γ b sb mb) : EX X LL Γ (.Compare a [.NotEq] [b] pos) (eP dNe (aCons sa (aCons sb aNil))) .flat := ex_cmp (op_neD hu) cp_ne ha hb (nomark _)
theorem et_eq (hu : X.A.units + 64 < cLine) (ha : EX X LL Γ a sa ma) (hb : EX X LL Γ b sb mb) : ET X LL Γ (.Compare a [.Eq] [b] pos) (tOf (eP dEq (aCons sa (aCons sb aNil)))) := et_cmp (op_eqD hu) cp_eq ha hb (nomark _)
theorem et_ne (hu : X.A.units + 64 < cLine) (ha : EX X LL Γ a sa ma) (hb : EX X LL Γ b sb mb) : ET X LL Γ (.Compare a [.NotEq] [b] pos) (tOf (eP dNe (aCons sa (aCons sb aNil)))) := et_cmp (op_neD hu) cp_ne ha hb (nomark _)
theorem et_isN (ha : EX X LL Γ a sa ma) (hb : EX X LL Γ b sb mb) : ET X LL Γ (.Compare a [.Is] [b] pos) (tOf (eP dIsN (aCons sa (aCons sb aNil)))) := et_cmp op_isN cp_isN ha hb (nomark _)
theorem et_notN (ha : EX X LL Γ a sa ma) (hb : EX X LL Γ b sb mb) : ET X LL Γ (.Compare a [.IsNot] [b] pos) (tOf (eP dNotN (aCons sa (aCons sb aNil)))) := et_cmp op_notN cp_notN ha hb (nomark _)
end
end VV

/-! ## VStmt -/
namespace VV
open PySem PySem.Spec PyProof.Rows L2

inductive Out where
  | nx (ρ : List D) | ct (ρ : List D) | rt (d : D) | ex (c : Str) (ρ : List D)
/-- what a def hands back -/
inductive Rm where
  | flat | fresh | out
  deriving DecidableEq
inductive Res where
  | ret (d : D) | exn (c : Str)

structure Step (LL : List Nat) (g : Addr → Nat) (H : Hp) (g' : Addr → Nat) (H' : Hp) : Prop where
  kp : ∀ a, lk LL (g a) → ∀ u, H a = some u → H' a = some u
  lk : ∀ a, H a ≠ none → lk LL (g a) → g' a = g a
  th : ∀ a, H a ≠ none → H' a ≠ none
theorem Step.refl {LL : List Nat} {g : Addr → Nat} {H : Hp} : Step LL g H g H := ⟨fun _ _ _ h => h, fun _ _ _ => rfl, fun _ h => h⟩
theorem Step.trans {LL : List Nat} {g g1 g2 : Addr → Nat} {H H1 H2 : Hp} (a : Step LL g H g1 H1) (b : Step LL g1 H1 g2 H2) : Step LL g H g2 H2 where
  kp c h u e := b.kp c (by rw [a.lk c (by rw [e]; simp) h]; exact h) u (a.kp c h u e)
  lk c e h := (b.lk c (a.th c e) (by rw [a.lk c e h]; exact h)).trans (a.lk c e h)
  th c e := b.th c (a.th c e)
theorem Step.ext {LL : List Nat} {g : Addr → Nat} {H H' : Hp} (e : Ext H H') : Step LL g H g H' := ⟨fun a _ u h => e a u h, fun _ _ _ => rfl, fun a h z => h (e.nope z)⟩

def RV (mg : Mg) (P : Fm) (g : Addr → Nat) (H : Hp) : Rm → D → V → Prop
  | .flat, d, v => Rep mg H d v []
  | .fresh, d, v => ∃ fp, Rep mg H d v fp ∧ fp.Nodup ∧ ∀ a ∈ fp, g a ≠ 0
  | .out, d, v => ∃ fp, Rep mg H d v fp ∧ ∀ a ∈ fp, g a ≠ 0 ∨ P.out a

/-- what is fixed through a def's body: the locked labels, what it returns, what stands at a continue and at an exception -/
structure Sc where
  LL : List Nat
  R : Rm
  Γc : List Kd
  Γx : List Kd

def WantS (X : Cx) (W : L2.WX) (sc : Sc) (P : Fm) (Γ' : List Kd) (g : Addr → Nat) (H : Hp) (D : Ends) : Out → Prop
  | .nx ρ' => ∀ g' σ' H', Step sc.LL g H g' H' → Sta X.vm P sc.LL Γ' g' ρ' σ' H' → D.nx σ' H'
  | .ct ρ' => ∀ g' σ' H', Step sc.LL g H g' H' → Sta X.vm P sc.LL sc.Γc g' ρ' σ' H' → D.ct σ' H'
  | .rt d => ∀ v g' H', Step sc.LL g H g' H' → Loc P sc.LL g' H' → RV X.vm P g' H' sc.R d v → D.rt v H'
  | .ex c ρ' => ∀ C g' σ' H', X.mg c = some (.ref C) → Step sc.LL g H g' H' → Sta X.vm P sc.LL sc.Γx g' ρ' σ' H' → W (.ref C) none σ' H'

abbrev Sv := List D → Option Out
def SX (X : Cx) (W : L2.WX) (sc : Sc) (Γ : List Kd) (st : Stmt) (sem : Sv) (Γ' : List Kd) : Prop :=
  ∃ t, PS X st t ∧ ∀ P g ρ σ H o D, Sta X.vm P sc.LL Γ g ρ σ H → sem ρ = some o → WantS X W sc P Γ' g H D o → t D σ H
def SS (X : Cx) (W : L2.WX) (sc : Sc) (Γ : List Kd) (st : List Stmt) (sem : Sv) (Γ' : List Kd) : Prop :=
  ∃ t, PSs X st t ∧ ∀ P g ρ σ H o D, Sta X.vm P sc.LL Γ g ρ σ H → sem ρ = some o → WantS X W sc P Γ' g H D o → t D σ H

def sNil : Sv := fun ρ => some (.nx ρ)
def sSeq (a b : Sv) : Sv := fun ρ => match a ρ with
  | some (.nx ρ') => b ρ'
  | o => o
def sPass : Sv := fun ρ => some (.nx ρ)
def sCont : Sv := fun ρ => some (.ct ρ)
def sRet (e : Ev) : Sv := fun ρ => do some (.rt (← e ρ))
def sSet (i : Nat) (e : Ev) : Sv := fun ρ => do some (.nx (ρ.set i (← e ρ)))
def sIf (c : List D → Option Bool) (a b : Sv) : Sv := fun ρ => do if (← c ρ) then a ρ else b ρ
def sNever : Sv := fun _ => none

theorem WantS.from {X : Cx} {W : L2.WX} {sc : Sc} {P : Fm} {Γ' : List Kd} {g g1 : Addr → Nat} {H H1 : Hp} {D : Ends} {o : Out} (h : WantS X W sc P Γ' g H D o) (s : Step sc.LL g H g1 H1) : WantS X W sc P Γ' g1 H1 D o := by
  cases o with
  | nx ρ' => exact fun g' σ' H' s' st => h g' σ' H' (s.trans s') st
  | ct ρ' => exact fun g' σ' H' s' st => h g' σ' H' (s.trans s') st
  | rt d => exact fun v g' H' s' l r => h v g' H' (s.trans s') l r
  | ex c ρ' => exact fun C g' σ' H' m s' st => h C g' σ' H' m (s.trans s') st

section
variable {X : Cx} {W : L2.WX} {sc : Sc} {Γ Γ' Γ1 : List Kd} {pos : Pos}
theorem ss_nil : SS X W sc Γ [] sNil Γ := ⟨_, pss_nil, fun P g ρ σ H o D s e w => by cases e; exact w g σ H .refl s⟩
theorem ss_cons {st : Stmt} {rest : List Stmt} {a b : Sv} (h : SX X W sc Γ st a Γ1) (h' : SS X W sc Γ1 rest b Γ') : SS X W sc Γ (st :: rest) (sSeq a b) Γ' := by
  obtain ⟨t, p, k⟩ := h
  obtain ⟨u, p', k'⟩ := h'
  refine ⟨_, pss_cons p p', fun P g ρ σ H o D s e w => ?_⟩
  unfold sSeq at e
  cases ea : a ρ with
  | none => rw [ea] at e; cases e
  | some o1 =>
    rw [ea] at e
    cases o1 with
    | nx ρ' => exact k P g ρ σ H _ { D with nx := u D } s ea fun g' σ' H' s' st => k' P g' ρ' σ' H' o D st e (w.from s')
    | ct ρ' => cases e; exact k P g ρ σ H _ { D with nx := u D } s ea w
    | rt d => cases e; exact k P g ρ σ H _ { D with nx := u D } s ea w
    | ex c ρ' => cases e; exact k P g ρ σ H _ { D with nx := u D } s ea w
theorem ss_one {st : Stmt} {a : Sv} (h : SX X W sc Γ st a Γ') : SS X W sc Γ [st] a Γ' := by
  obtain ⟨t, p, k⟩ := h
  exact ⟨_, pss_one p, k⟩
theorem sx_pass : SX X W sc Γ (.Pass pos) sPass Γ := ⟨_, ps_pass, fun P g ρ σ H o D s e w => by cases e; exact w g σ H .refl s⟩
theorem sx_cont (h : sc.Γc = Γ) : SX X W sc Γ (.Continue pos) sCont Γ' := ⟨_, ps_continue, fun P g ρ σ H o D s e w => by cases e; exact w g σ H .refl (by rw [h]; exact s)⟩
theorem sx_never {st : Stmt} : SX X W sc Γ st sNever Γ' := ⟨_, ps_never, fun P g ρ σ H o D s e w => by cases e⟩
theorem sx_doc {x j pos'} : SX X W sc Γ (.Expr (.Constant (.str x) j pos) pos') sPass Γ := ⟨_, ps_doc, fun P g ρ σ H o D s e w => by cases e; exact w g σ H .refl s⟩

/-! ### labels for what is new -/
open Classical in
noncomputable def relab (g : Addr → Nat) (H H' : Hp) (v : V) (n m : Nat) : Addr → Nat := fun a => if New H H' a then (if v = .ref a then n else m) else g a
theorem relab_new {g : Addr → Nat} {H H' : Hp} {v : V} {n m : Nat} {a : Addr} (h : New H H' a) : relab g H H' v n m a = if v = .ref a then n else m := by
  unfold relab; rw [if_pos h]
theorem relab_old {g : Addr → Nat} {H H' : Hp} {v : V} {n m : Nat} {a : Addr} (h : H a ≠ none) : relab g H H' v n m a = g a := by
  unfold relab; rw [if_neg fun z => h z.1]
section
variable {mg : Mg} {P : Fm} {LL : List Nat} {g : Addr → Nat} {ρ : List D} {σ : L2.St} {H H' : Hp} {v : V} {n m : Nat}
theorem Old.relab {L : List Nat} {a : Addr} (o : Old P g L a) (l : Loc P LL g H) : Old P (relab g H H' v n m) L a := by
  unfold Old
  rw [relab_old (o.there l)]
  exact o
theorem Loc.relab (l : Loc P LL g H) (e : Ext H H') : Loc P LL (relab g H H' v n m) H' := by
  refine ⟨fun a h => ?_, (l.ext e).out, fun a h => ?_⟩
  rotate_left
  · have := l.fz a h
    obtain ⟨⟨o, u, q⟩, this2⟩ := this
    exact ⟨⟨o, u, e a _ q⟩, by rw [relab_old (by rw [q]; simp)]; exact this2⟩
  by_cases hn : New H H' a
  · obtain ⟨h1, h2⟩ := hn
    cases q : H' a with
    | none => rw [q] at h2; exact h2.elim
    | some o => rw [q] at h2; exact ⟨o, rfl, .inl h2⟩
  · by_cases h0 : H a = none
    · unfold VV.relab at h
      rw [if_neg hn] at h
      obtain ⟨o, e1, _⟩ := l.at_ a h
      rw [h0] at e1; cases e1
    · rw [relab_old h0] at h
      exact (l.ext e).at_ a h
theorem CellOk.relab {k : Kd} {d : D} {ov : Option V} (c : CellOk mg P g H k d ov) (l : Loc P LL g H) (e : Ext H H') : CellOk mg P (relab g H H' v n m) H' k d ov := by
  cases k with
  | dead => trivial
  | exc _ _ => exact c
  | flat => obtain ⟨v, rfl, r⟩ := c; exact ⟨v, rfl, r.ext e⟩
  | lab rt L nd =>
    obtain ⟨w, fp, rfl, r, o, z⟩ := c
    refine ⟨w, fp, rfl, r.ext e, fun a ha => ?_, z⟩
    rcases o a ha with ⟨x, k, y, o'⟩ | ⟨x, o'⟩
    · exact .inl ⟨x, k, y, o'.relab l⟩
    · exact .inr ⟨x, o'.relab l⟩
theorem Cells.relab (l : Loc P LL g H) (e : Ext H H') : ∀ {Γ : List Kd} {ρ : List D} {σ : L2.St}, Cells mg P g H Γ ρ σ → Cells mg P (relab g H H' v n m) H' Γ ρ σ
  | [], [], [], _ => trivial
  | _ :: _, _ :: _, _ :: _, h => ⟨h.1.relab l e, Cells.relab l e h.2⟩
  | [], _ :: _, _, h => h.elim
  | [], [], _ :: _, h => h.elim
  | _ :: _, [], _, h => h.elim
  | _ :: _, _ :: _, [], h => h.elim
theorem Sta.relab {Γ : List Kd} (s : Sta mg P LL Γ g ρ σ H) (e : Ext H H') : Sta mg P LL Γ (relab g H H' v n m) ρ σ H' := ⟨s.loc.relab e, s.cells.relab s.loc e⟩
theorem Step.relab (e : Ext H H') : Step LL g H (relab g H H' v n m) H' := ⟨fun a _ u h => e a u h, fun a h x => relab_old h, fun a h z => h (e.nope z)⟩
end
/-- the kind of a slot that holds a result -/
def Md.kind (n m : Nat) : Md → Kd
  | .flat => .flat
  | .al fr rt L nd => .lab (match rt with | .new => some n | .old k => some k | .unk => none) (if fr then (match rt with | .unk => n :: m :: L | _ => m :: L) else L) nd
theorem Val.cell {mg : Mg} {P : Fm} {LL : List Nat} {g : Addr → Nat} {H H' : Hp} {m : Md} {d : D} {v : V} {n k : Nat} (h : Val mg P g H H' m d v) (l : Loc P LL g H) (h1 : n ≠ 0) (h2 : k ≠ 0) :
    CellOk mg P (relab g H H' v n k) H' (m.kind n k) d (some v) := by
  cases m with
  | flat => exact ⟨v, rfl, h⟩
  | al fr rt L nd =>
    obtain ⟨fp, r, o, z⟩ := h
    refine ⟨v, fp, rfl, r, fun a ha => ?_, by cases rt <;> exact z⟩
    have newOld : ∀ {K : List Nat}, New H H' a → (v = .ref a → n ∈ K) → (v ≠ .ref a → k ∈ K) → Old P (relab g H H' v n k) K a := fun {K} hn a1 a2 => by
      unfold Old
      rw [relab_new hn]
      split
      · rename_i e; exact ⟨a1 e, fun z => absurd z h1⟩
      · rename_i e; exact ⟨a2 e, fun z => absurd z h2⟩
    rcases o a ha with ⟨e, y⟩ | ⟨e, ⟨f, y⟩ | y⟩
    · cases rt with
      | new => exact .inl ⟨e, n, rfl, newOld y (fun _ => List.mem_cons_self) fun z => absurd e z⟩
      | old q => exact .inl ⟨e, q, rfl, Old.relab y l⟩
      | unk => exact y.elim
    · subst f
      refine .inr ⟨?_, ?_⟩
      · rcases e with e | rfl
        · exact .inl e
        · exact .inr rfl
      · cases rt with
        | new => exact newOld y (fun z => by rcases e with e | e; exact absurd z e; cases e) fun _ => List.mem_cons_self
        | old q => exact newOld y (fun z => by rcases e with e | e; exact absurd z e; cases e) fun _ => List.mem_cons_self
        | unk => exact newOld y (fun _ => List.mem_cons_self) fun _ => List.mem_cons_of_mem _ List.mem_cons_self
    · refine .inr ⟨?_, ?_⟩
      · rcases e with e | rfl
        · exact .inl e
        · exact .inr rfl
      · have y' : Old P (relab g H H' v n k) L a := Old.relab y l
        refine ⟨?_, y'.2⟩
        cases fr with
        | false => exact y'.1
        | true =>
          cases rt with
          | new => exact List.mem_cons_of_mem _ y'.1
          | old q => exact List.mem_cons_of_mem _ y'.1
          | unk => exact List.mem_cons_of_mem _ (List.mem_cons_of_mem _ y'.1)
theorem Cells.set {mg : Mg} {P : Fm} {g : Addr → Nat} {H : Hp} {k : Kd} {d : D} {v : V} : ∀ {Γ : List Kd} {ρ : List D} {σ : L2.St} (i : Nat), Cells mg P g H Γ ρ σ → CellOk mg P g H k d (some v) → Cells mg P g H (Γ.set i k) (ρ.set i d) (σ.set i (some v))
  | [], [], [], _, _, _ => trivial
  | _ :: _, _ :: _, _ :: _, 0, h, c => ⟨c, h.2⟩
  | _ :: _, _ :: _, _ :: _, i + 1, h, c => ⟨h.1, Cells.set i h.2 c⟩
  | [], _ :: _, _, _, h, _ => h.elim
  | [], [], _ :: _, _, h, _ => h.elim
  | _ :: _, [], _, _, h, _ => h.elim
  | _ :: _, _ :: _, [], _, h, _ => h.elim

theorem sx_set {i : Nat} {x : Str} {e : Expr} {se : Ev} {m : Md} {pos' : Pos} (n k : Nat) (hN : X.N.Nodup) (hi : X.N[i]? = some x) (hx : L2.Loc X.env.scope x) (he : EX X sc.LL Γ e se m)
    (hs : swapsWith e (some (.Name x pos')) pos.line X.env = pure false := by rfl) (hf : X.fn x = true ∨ X.env.scope.names.lookup x = some .local := by first | exact .inl rfl | exact .inr rfl | assumption)
    (h1 : n ≠ 0 := by decide) (h2 : k ≠ 0 := by decide) : SX X W sc Γ (.Assign [.Name x pos'] e pos) (sSet i se) (Γ.set i (m.kind n k)) := by
  obtain ⟨t, p, kk⟩ := he
  refine ⟨_, ps_set hN hi hx p hs hf, fun P g ρ σ H o D s e w => ?_⟩
  obtain ⟨d, e1, e⟩ := bind_some e
  cases e
  refine kk P g ρ σ H d _ s e1 fun v H' x vl => ?_
  exact w (relab g H H' v n k) _ H' (.relab x) ⟨s.loc.relab x, Cells.set i (s.cells.relab s.loc x) (vl.cell s.loc h1 h2)⟩

theorem wipe_get (σ : L2.St) (j : Nat) : ∀ vs : List Nat, (wipe σ vs)[j]? = if j ∈ vs then σ[j]?.map (fun _ => none) else σ[j]?
  | [] => by simp [wipe]
  | v :: vs => by
    unfold wipe
    rw [List.getElem?_set, wipe_length, wipe_get σ j vs]
    by_cases e : v = j
    · subst e
      simp only [if_true, List.mem_cons_self]
      by_cases h : v < σ.length
      · simp [h]
      · simp [h]
    · rw [if_neg e]
      have : (j ∈ v :: vs) ↔ j ∈ vs := by simp [Ne.symm e]
      simp only [this]
theorem wipe_set {σ : L2.St} {i : Nat} {x : Option V} {vs : List Nat} (h : i ∈ vs) : wipe (σ.set i x) vs = wipe σ vs := by
  apply List.ext_getElem?
  intro j
  rw [wipe_get, wipe_get, List.getElem?_set]
  by_cases e : i = j
  · subst e
    rw [if_pos h, if_pos h, if_pos rfl]
    by_cases hl : i < σ.length
    · simp [hl]
    · simp [hl]
  · rw [if_neg e]
def Wp (S : List Nat) (σ σ' : L2.St) : Prop := ∀ vs : List Nat, (∀ i ∈ S, i ∈ vs) → wipe σ' vs = wipe σ vs
/-! ### targets -/
abbrev Tv := D → List D → Option (List D)
def EG (X : Cx) (Γ : List Kd) (tg : Expr) (k : Kd) (sem : Tv) (Γ' : List Kd) (S : List Nat) : Prop :=
  ∃ t, PG X tg t ∧ ∀ P LL g ρ σ H d v ρ' (Q : L2.St → Hp → Prop), Sta X.vm P LL Γ g ρ σ H → CellOk X.vm P g H k d (some v) → sem d ρ = some ρ' → (∀ σ', Sta X.vm P LL Γ' g ρ' σ' H → Wp S σ σ' → Q σ' H) → t v σ H Q
def EGs (X : Cx) (Γ : List Kd) (tgs : List Expr) (k : Kd) (sem : List D → List D → Option (List D)) (Γ' : List Kd) (S : List Nat) : Prop :=
  (∀ ds ρ ρ', sem ds ρ = some ρ' → ds.length = tgs.length) ∧ ∃ t, PGs X tgs t ∧ ∀ P LL g ρ σ H (ds : List D) (vs : List V) ρ' (Q : L2.St → Hp → Prop), Sta X.vm P LL Γ g ρ σ H → (∀ (i : Nat) (d : D) (v : V), ds[i]? = some d → vs[i]? = some v → CellOk X.vm P g H k d (some v)) → vs.length = ds.length → sem ds ρ = some ρ' →
    (∀ σ', Sta X.vm P LL Γ' g ρ' σ' H → Wp S σ σ' → Q σ' H) → t vs σ H Q
def gN (i : Nat) : Tv := fun d ρ => some (ρ.set i d)
def gF (t : Tv) : Tv := fun d ρ => if d.isFlat then t d ρ else none
def gT (ts : List D → List D → Option (List D)) : Tv := fun d ρ => match d with
  | .tup l => ts l ρ
  | _ => none
def gsNil : List D → List D → Option (List D) := fun ds ρ => match ds with
  | [] => some ρ
  | _ => none
def gsCons (t : Tv) (ts : List D → List D → Option (List D)) : List D → List D → Option (List D) := fun ds ρ => match ds with
  | d :: r => do ts r (← t d ρ)
  | [] => none
theorem eg_name {i : Nat} {x : Str} {k : Kd} (hN : X.N.Nodup) (hi : X.N[i]? = some x) (hx : L2.Loc X.env.scope x) (hf : X.fn x = true ∨ X.env.scope.names.lookup x = some .local := by first | exact .inl rfl | exact .inr rfl | assumption) : EG X Γ (.Name x pos) k (gN i) (Γ.set i k) [i] :=
  ⟨_, pg_name hN hi hx hf, fun P LL g ρ σ H d v ρ' Q s c e q => by cases e; exact q _ ⟨s.loc, Cells.set i s.cells c⟩ fun vs h => wipe_set (h i List.mem_cons_self)⟩
theorem eg_flat {tg : Expr} {k : Kd} {t : Tv} {S : List Nat} (h : EG X Γ tg .flat t Γ' S) (hk : k.use = true := by decide) : EG X Γ tg k (gF t) Γ' S := by
  obtain ⟨u, p, kk⟩ := h
  refine ⟨u, p, fun P LL g ρ σ H d v ρ' Q s c e q => ?_⟩
  unfold gF at e
  split at e
  · rename_i hfl
    refine kk P LL g ρ σ H d v ρ' Q s ?_ e q
    cases k with
    | dead => cases hk
    | exc _ _ => cases hk
    | flat => exact c
    | lab rt L nd =>
      obtain ⟨w, fp, ew, r, _⟩ := c
      cases ew
      rw [r.flat hfl] at r
      exact ⟨v, rfl, r⟩
  · cases e
def Kd.tupChild : Kd → Kd
  | .lab _ L nd => .lab none L nd
  | k => k
theorem rd_tup_inj {H : Hp} {a : Addr} {xs ys : List V} (r : Rd H a (.tup xs)) (q : Rd H a (.tup ys)) : xs = ys := by
  rcases r with r | ⟨o, r⟩ <;> rcases q with q | ⟨o', q⟩ <;> rw [r] at q <;> cases q <;> rfl
theorem cell_tup {mg : Mg} {P : Fm} {g : Addr → Nat} {H : Hp} {k : Kd} {ds : List D} {v : V} (c : CellOk mg P g H k (.tup ds) (some v)) (hk : k.use = true) :
    ∃ a vs, v = .ref a ∧ H a = some (.tup vs) ∧ vs.length = ds.length ∧ ∀ (i : Nat) (d : D) (w : V), ds[i]? = some d → vs[i]? = some w → CellOk mg P g H k.tupChild d (some w) := by
  cases k with
  | dead => cases hk
  | exc _ _ => cases hk
  | flat =>
    obtain ⟨v', e, r⟩ := c
    cases e
    simp only [Rep] at r
    obtain ⟨a, vs, rfl, r1, r2⟩ := r
    refine ⟨a, vs, rfl, r1, r2.length, fun i d w e1 e2 => ?_⟩
    obtain ⟨w', f1, f, f2, e3, r3, e4⟩ := r2.get e1
    rw [e2] at e3; cases e3
    have : f = [] := by
      have := congrArg List.length e4
      simp at this
      exact List.eq_nil_of_length_eq_zero (by omega)
    subst this
    exact ⟨w, rfl, r3⟩
  | lab rt L nd =>
    obtain ⟨v', fp, e, r, o, z⟩ := c
    cases e
    have r0 := r
    simp only [Rep] at r
    obtain ⟨a, vs, rfl, r1, r2⟩ := r
    refine ⟨a, vs, rfl, r1, r2.length, fun i d w e1 e2 => ?_⟩
    obtain ⟨w', f1, f, f2, e3, r3, rfl⟩ := r2.get e1
    rw [e2] at e3; cases e3
    refine ⟨w, f, rfl, r3, fun b hb => ?_, .unk fun hn => ?_⟩
    · rcases o b (List.mem_append_left _ (List.mem_append_right _ hb)) with ⟨x, _⟩ | ⟨_, x⟩
      · cases x
        exact absurd (List.mem_append_left _ (List.mem_append_right _ hb)) (r0.notup (.inl r1))
      · exact .inr ⟨.inr rfl, x⟩
    · exact (List.nodup_append.mp (List.nodup_append.mp (z.1 hn)).1).2.1
theorem egs_nil {k : Kd} : EGs X Γ [] k gsNil Γ [] := by
  refine ⟨fun ds ρ ρ' e => ?_, _, pgs_nil, fun P LL g ρ σ H ds vs ρ' Q s c hl e q => ?_⟩
  · cases ds with
    | nil => rfl
    | cons => cases e
  · cases ds with
    | nil => cases e; exact ⟨List.eq_nil_of_length_eq_zero hl, q σ s fun _ _ => rfl⟩
    | cons => cases e
theorem egs_cons {tg : Expr} {tgs : List Expr} {k : Kd} {t : Tv} {ts : List D → List D → Option (List D)} {S S' : List Nat} (h : EG X Γ tg k t Γ1 S) (h' : EGs X Γ1 tgs k ts Γ' S')
    (hs : (assignEach (tg :: tgs) X.env).map (·.2) = assign tg X.env :: (assignEach tgs X.env).map (·.2) := by rfl) : EGs X Γ (tg :: tgs) k (gsCons t ts) Γ' (S ++ S') := by
  obtain ⟨u, p, kk⟩ := h
  obtain ⟨hl, u', p', kk'⟩ := h'
  refine ⟨fun ds ρ ρ' e => ?_, _, pgs_cons p p' hs, fun P LL g ρ σ H ds vs ρ' Q s c hlen e q => ?_⟩
  · cases ds with
    | nil => cases e
    | cons d r =>
      obtain ⟨ρ1, e1, e2⟩ := bind_some e
      simp [hl r ρ1 ρ' e2]
  · cases ds with
    | nil => cases e
    | cons d r =>
      obtain ⟨ρ1, e1, e2⟩ := bind_some e
      cases vs with
      | nil => cases hlen
      | cons v vr =>
        refine ⟨v, vr, rfl, kk P LL g ρ σ H d v ρ1 _ s (c 0 d v rfl rfl) e1 fun σ' s' w1 => ?_⟩
        exact kk' P LL g ρ1 σ' H r vr ρ' Q s' (fun i d' v' h1 h2 => c (i + 1) d' v' (by simpa using h1) (by simpa using h2)) (by simpa using hlen) e2 fun σ2 s2 w2 => q σ2 s2 fun vs hv =>
          (w2 vs fun i hi => hv i (List.mem_append_right _ hi)).trans (w1 vs fun i hi => hv i (List.mem_append_left _ hi))
theorem eg_tup {es : List Expr} {c : Nat} {k : Kd} {ts : List D → List D → Option (List D)} {S : List Nat} (hc : X.calm = true) (h : EGs X Γ es k.tupChild ts Γ' S) (hk : k.use = true := by decide)
    (hst : (assignEach es X.env).findIdx? (·.1) = none := by rfl) (hn : (assignEach es X.env).length = es.length := by rfl) : EG X Γ (.Tuple es c pos) k (gT ts) Γ' S := by
  obtain ⟨hl, u, p, kk⟩ := h
  refine ⟨_, pg_tup hc p hn hst, fun P LL g ρ σ H d v ρ' Q s cc e q => ?_⟩
  cases d with
  | tup ds =>
    obtain ⟨a, vs, rfl, r, hlen, hcells⟩ := cell_tup cc hk
    exact ⟨a, vs, rfl, .inl (.inl r), by rw [hlen, hl ds ρ ρ' e], kk P LL g ρ σ H ds vs ρ' Q s hcells hlen e q⟩
  | _ => cases e
def sAsg (t : Tv) (e : Ev) : Sv := fun ρ => do some (.nx (← t (← e ρ) ρ))
theorem sx_asg {tg e : Expr} {se : Ev} {t : Tv} {m : Md} {S : List Nat} (n k : Nat) (he : EX X sc.LL Γ e se m) (hg : EG X Γ tg (m.kind n k) t Γ' S) (hs : swapsWithSole [tg] e pos.line X.env = pure false := by rfl) (hw : swappedStores [tg] e X.env = pure none := by rfl)
    (ha : (assignEach [tg] X.env).map (·.2) = [assign tg X.env] := by rfl) (h1 : n ≠ 0 := by decide) (h2 : k ≠ 0 := by decide) : SX X W sc Γ (.Assign [tg] e pos) (sAsg t se) Γ' := by
  obtain ⟨u, p, kk⟩ := he
  obtain ⟨u', p', kk'⟩ := hg
  refine ⟨_, ps_asg p p' hs hw ha, fun P g ρ σ H o D s e w => ?_⟩
  obtain ⟨d, e1, e⟩ := bind_some e
  obtain ⟨ρ', e2, e⟩ := bind_some e
  cases e
  refine kk P g ρ σ H d _ s e1 fun v H' x vl => ?_
  exact kk' P sc.LL (relab g H H' v n k) ρ σ H' d v ρ' D.nx (s.relab x) (vl.cell s.loc h1 h2) e2 fun σ' s' _ => w _ σ' H' (.relab x) s'
theorem sx_if {c : Expr} {a b : List Stmt} {s : List D → Option Bool} {sa sb : Sv} (hc : ET X sc.LL Γ c s) (ha : SS X W sc Γ a sa Γ') (hb : SS X W sc Γ b sb Γ') : SX X W sc Γ (.If c a b pos) (sIf s sa sb) Γ' := by
  obtain ⟨t, p, k⟩ := hc
  obtain ⟨ta, pa, ka⟩ := ha
  obtain ⟨tb, pb, kb⟩ := hb
  refine ⟨_, ps_if p pa pb, fun P g ρ σ H o D st e w => ?_⟩
  obtain ⟨c', e0, e⟩ := bind_some e
  refine k P g ρ σ H c' _ st e0 fun H' x => ?_
  cases c' with
  | true => exact iteT (ka P g ρ σ H' o D (st.ext x) (by simpa using e) (w.from (.ext x)))
  | false => exact iteF (kb P g ρ σ H' o D (st.ext x) (by simpa using e) (w.from (.ext x)))
/-- a result that may be handed back -/
def Md.ret : Md → Rm → Bool
  | .flat, _ => true
  | .al _ _ _ _, .flat => false
  | .al fr rt L nd, .fresh => nd && !L.contains 0 && (match rt with | .old 0 => false | _ => true)
  | .al _ _ _ _, .out => true
theorem sx_ret {e : Expr} {se : Ev} {m : Md} (he : EX X sc.LL Γ e se m) (hr : m.ret sc.R = true := by rfl) : SX X W sc Γ (.Return (some e) pos) (sRet se) Γ' := by
  obtain ⟨t, p, kk⟩ := he
  refine ⟨_, ps_ret p, fun P g ρ σ H o D s e w => ?_⟩
  obtain ⟨d, e1, e⟩ := bind_some e
  cases e
  refine kk P g ρ σ H d _ s e1 fun v H' x vl => ?_
  refine w v (relab g H H' v 1 1) H' (.relab x) (s.loc.relab x) ?_
  have c := vl.cell (n := 1) (k := 1) s.loc (by decide) (by decide)
  cases m with
  | flat =>
    have r : Rep X.vm H' d v [] := vl
    cases hR : sc.R with
    | flat => exact r
    | fresh => exact ⟨[], r, by simp, fun a ha => nomatch ha⟩
    | out => exact ⟨[], r, fun a ha => nomatch ha⟩
  | al fr rt L nd =>
    obtain ⟨fp, r, o, z⟩ := vl
    have lab : ∀ a ∈ fp, New H H' a ∨ (Old P g L a) ∨ (∃ n, rt = .old n ∧ Old P g [n] a) := fun a ha => by
      rcases o a ha with ⟨e, y⟩ | ⟨_, ⟨_, y⟩ | y⟩
      · cases rt with
        | new => exact .inl y
        | old n => exact .inr (.inr ⟨n, rfl, y⟩)
        | unk => exact y.elim
      · exact .inl y
      · exact .inr (.inl y)
    cases hR : sc.R with
    | flat => rw [hR] at hr; cases hr
    | fresh =>
      rw [hR] at hr
      simp only [Md.ret, Bool.and_eq_true] at hr
      obtain ⟨⟨h1, h2⟩, h3⟩ := hr
      refine ⟨fp, r, z.1 h1, fun a ha => ?_⟩
      rcases lab a ha with y | y | ⟨n, rfl, y⟩
      · rw [relab_new y]; split <;> decide
      · rw [relab_old (y.there s.loc)]
        intro e0
        have := y.1
        rw [e0] at this
        simp [this] at h2
      · rw [relab_old (y.there s.loc)]
        intro e0
        have := y.1
        rw [e0] at this
        rw [← List.mem_singleton.mp this] at h3
        cases h3
    | out =>
      refine ⟨fp, r, fun a ha => ?_⟩
      rcases lab a ha with y | y | ⟨n, rfl, y⟩
      · rw [relab_new y]; exact .inl (by split <;> decide)
      · rw [relab_old (y.there s.loc)]
        by_cases e0 : g a = 0
        · exact .inr (y.2 e0)
        · exact .inl e0
      · rw [relab_old (y.there s.loc)]
        by_cases e0 : g a = 0
        · exact .inr (y.2 e0)
        · exact .inl e0
def sRetN : Sv := fun _ => some (.rt .non)
theorem sx_retN : SX X W sc Γ (.Return none pos) sRetN Γ' := by
  refine ⟨_, ps_retN, fun P g ρ σ H o D s e w => ?_⟩
  cases e
  refine w .non g H .refl s.loc ?_
  have r : Rep X.vm H .non .non [] := rep_non
  cases hR : sc.R with
  | flat => exact r
  | fresh => exact ⟨[], r, by simp, fun a ha => nomatch ha⟩
  | out => exact ⟨[], r, fun a ha => nomatch ha⟩
end
end VV

/-! ## VFun -/
namespace VV
open PySem PySem.Spec PyProof.Rows L2

/-! ### fewer things known -/
def reL (m : List (Nat × Nat)) (n : Nat) : Nat := (m.lookup n).getD n
def Kd.le (m : List (Nat × Nat)) : Kd → Kd → Bool
  | _, .dead => true
  | .flat, .flat => true
  | .flat, .lab _ _ _ => true
  | .lab rt L nd, .lab rt' L' nd' => (match rt' with
      | some n => (match rt with | some k => reL m k == n | none => false) && L.all fun x => L'.contains (reL m x)
      | none => (match rt with | some k => L'.contains (reL m k) | none => true) && L.all fun x => L'.contains (reL m x)) && (!nd' || nd)
  | _, _ => false
def kdsLe (m : List (Nat × Nat)) : List Kd → List Kd → Bool
  | [], [] => true
  | k :: r, k' :: r' => k.le m k' && kdsLe m r r'
  | _, _ => false
def mapOk (LL : List Nat) (m : List (Nat × Nat)) : Bool := m.all fun p => p.1 != 0 && p.2 != 0 && !LL.contains p.1
section
variable {mg : Mg} {P : Fm} {LL : List Nat} {g : Addr → Nat} {ρ : List D} {σ : L2.St} {H : Hp} {m : List (Nat × Nat)}
theorem lookup_mem {α β : Type} [BEq α] [LawfulBEq α] {l : List (α × β)} {a : α} {b : β} (h : l.lookup a = some b) : (a, b) ∈ l := by
  induction l with
  | nil => cases h
  | cons p r ih =>
    obtain ⟨x, y⟩ := p
    rw [List.lookup_cons] at h
    split at h
    · rename_i e
      cases h
      rw [eq_of_beq e]
      exact List.mem_cons_self
    · exact List.mem_cons_of_mem _ (ih h)
theorem reL_ok (h : mapOk LL m = true) (n : Nat) : (reL m n = 0 ↔ n = 0) ∧ (n ∈ LL → reL m n = n) := by
  unfold reL
  cases e : m.lookup n with
  | none => simp
  | some k =>
    have := List.all_eq_true.mp h _ (lookup_mem e)
    simp only [Bool.and_eq_true, bne_iff_ne, ne_eq, Bool.not_eq_true'] at this
    obtain ⟨⟨h1, h2⟩, h3⟩ := this
    simp only [Option.getD_some]
    refine ⟨⟨fun z => absurd z h2, fun z => absurd z h1⟩, fun hm => ?_⟩
    simp at h3
    exact absurd hm h3
theorem Old.re {L L' : List Nat} {a : Addr} (h : mapOk LL m = true) (o : Old P g L a) (hs : L.all (fun x => L'.contains (reL m x)) = true) : Old P (fun a => reL m (g a)) L' a := by
  refine ⟨?_, fun e => o.2 ((reL_ok h _).1.mp e)⟩
  have := List.all_eq_true.mp hs _ o.1
  simpa using this
theorem CellOk.re {k k' : Kd} {d : D} {ov : Option V} (h : mapOk LL m = true) (hk : k.le m k' = true) (c : CellOk mg P g H k d ov) : CellOk mg P (fun a => reL m (g a)) H k' d ov := by
  cases k' with
  | dead => trivial
  | flat =>
    cases k with
    | flat => exact c
    | dead => cases hk
    | exc => cases hk
    | lab => cases hk
  | exc a c => cases k <;> cases hk
  | lab rt' L' nd' =>
    cases k with
    | dead => cases hk
    | exc => cases hk
    | flat =>
      obtain ⟨v, rfl, r⟩ := c
      exact ⟨v, [], rfl, r, (fun a ha => by cases ha), .of List.nodup_nil⟩
    | lab rt L nd =>
      obtain ⟨v, fp, rfl, r, o, z⟩ := c
      simp only [Kd.le, Bool.and_eq_true] at hk
      obtain ⟨hk, hn⟩ := hk
      refine ⟨v, fp, rfl, r, fun a ha => ?_, fun e => z.1 (by subst e; simpa using hn), fun e => z.2 ?_⟩
      rotate_left
      · cases rt' with
        | none => cases e
        | some n =>
          cases rt with
          | none => simp at hk
          | some k => rfl
      cases rt' with
      | some n =>
        cases rt with
        | none => simp at hk
        | some k =>
          simp only [Bool.and_eq_true] at hk
          rcases o a ha with ⟨x, q, e, y⟩ | ⟨x, y⟩
          · cases e
            refine .inl ⟨x, n, rfl, Old.re h y ?_⟩
            simp [eq_of_beq hk.1]
          · refine .inr ⟨?_, Old.re h y hk.2⟩
            rcases x with x | x
            · exact .inl x
            · cases x
      | none =>
        simp only [Bool.and_eq_true] at hk
        rcases o a ha with ⟨x, q, e, y⟩ | ⟨x, y⟩
        · subst e
          refine .inr ⟨.inr rfl, Old.re h y ?_⟩
          have h1 := hk.1
          simp only at h1
          simpa using h1
        · exact .inr ⟨.inr rfl, Old.re h y hk.2⟩
theorem Cells.re (h : mapOk LL m = true) : ∀ {Γ Γ' : List Kd} {ρ : List D} {σ : L2.St}, kdsLe m Γ Γ' = true → Cells mg P g H Γ ρ σ → Cells mg P (fun a => reL m (g a)) H Γ' ρ σ
  | [], [], [], [], _, _ => trivial
  | k :: Γ, k' :: Γ', d :: ρ, v :: σ, hk, c => by
    simp only [kdsLe, Bool.and_eq_true] at hk
    exact ⟨c.1.re h hk.1, Cells.re h hk.2 c.2⟩
  | [], _ :: _, _, _, hk, _ => by cases hk
  | _ :: _, [], _, _, hk, _ => by cases hk
  | [], _, _ :: _, _, _, c => c.elim
  | [], _, [], _ :: _, _, c => c.elim
  | _ :: _, _, [], _, _, c => c.elim
  | _ :: _, _, _ :: _, [], _, c => c.elim
theorem Sta.re {Γ Γ' : List Kd} (h : mapOk LL m = true) (hk : kdsLe m Γ Γ' = true) (s : Sta mg P LL Γ g ρ σ H) : Sta mg P LL Γ' (fun a => reL m (g a)) ρ σ H := by
  refine ⟨⟨fun a ha => ?_, s.loc.out, fun a ha => ?_⟩, s.cells.re h hk⟩
  · exact s.loc.at_ a fun z => ha ((reL_ok h _).1.mpr z)
  · have := s.loc.fz a ha
    refine ⟨this.1, ?_⟩
    rcases this.2 with x | x
    · exact .inl ((reL_ok h _).1.mpr x)
    · right
      show reL m (g a) ∈ LL
      rw [(reL_ok h _).2 x]
      exact x
theorem Step.re (h : mapOk LL m = true) : Step LL g H (fun a => reL m (g a)) H := by
  refine ⟨fun a _ u e => e, fun a _ x => ?_, fun a e => e⟩
  rcases x with x | x
  · show reL m (g a) = g a
    rw [x]
    exact (reL_ok h _).1.mpr rfl
  · exact (reL_ok h _).2 x
end
section
variable {X : Cx} {W : L2.WX} {sc : Sc} {Γ Γ' Γ1 : List Kd} {pos : Pos}
theorem ss_conv {sts : List Stmt} {s : Sv} (m : List (Nat × Nat)) (h : SS X W sc Γ sts s Γ1) (hm : mapOk sc.LL m = true) (hk : kdsLe m Γ1 Γ' = true) : SS X W sc Γ sts s Γ' := by
  obtain ⟨t, p, k⟩ := h
  refine ⟨t, p, fun P g ρ σ H o D st e w => k P g ρ σ H o D st e ?_⟩
  cases o with
  | nx ρ' => exact fun g' σ' H' s' st' => w _ σ' H' (s'.trans (.re hm)) (st'.re hm hk)
  | ct ρ' => exact w
  | rt d => exact w
  | ex c ρ' => exact w
/-- known less ahead -/
theorem ss_pre {sts : List Stmt} {s : Sv} (m : List (Nat × Nat)) (h : SS X W sc Γ1 sts s Γ') (hm : mapOk sc.LL m = true) (hk : kdsLe m Γ Γ1 = true) : SS X W sc Γ sts s Γ' := by
  obtain ⟨t, p, k⟩ := h
  exact ⟨t, p, fun P g ρ σ H o D st e w => k P _ ρ σ H o D (st.re hm hk) e (w.from (.re hm))⟩
end

/-! ### defs -/
def RF (mg : Mg) (H H' : Hp) (fp : List Addr) : Rm → D → V → Prop
  | .flat, d, v => Rep mg H' d v []
  | .fresh, d, v => ∃ f, Rep mg H' d v f ∧ f.Nodup ∧ ∀ a ∈ f, New H H' a
  | .out, d, v => ∃ f, Rep mg H' d v f ∧ ∀ a ∈ f, New H H' a ∨ a ∈ fp
def sp0 (mg : Mg) (sem : List D → Option Res) (n : Nat) (R : Rm) : Sp := fun vs H Q _ => vs.length = n ∧ ∃ ds fp d, RepL mg H ds vs fp ∧ sem ds = some (.ret d) ∧ ∀ v H', Ext H H' → RF mg H H' fp R d v → Q v H'
def pkOk : List Kd → List D → Bool
  | [], [] => true
  | .flat :: r, d :: ds => d.isFlat && pkOk r ds
  | .lab none [0] false :: r, _ :: ds => pkOk r ds
  | _, _ => false
def fnSem (n : Nat) (pk : List Kd) (s : Sv) : List D → Option Res := fun ds => if pkOk pk ds then
    match s (ds ++ List.replicate (n - ds.length) .non) with
    | some (.nx _) => some (.ret .non)
    | some (.rt d) => some (.ret d)
    | some (.ex c _) => some (.exn c)
    | _ => none
  else none
theorem cells_start {mg : Mg} {H : Hp} {F : List Addr} : ∀ {pk : List Kd} {ds : List D} {vs : List V} {fp : List Addr} (j : Nat), pkOk pk ds = true → RepL mg H ds vs fp → (∀ a ∈ fp, a ∈ F) →
    Cells mg ⟨fun a => a ∈ F, fun _ => False⟩ (fun _ => 0) H (pk ++ List.replicate j .dead) (ds ++ List.replicate j .non) (vs.map some ++ List.replicate j none)
  | [], [], _, _, j, _, h, _ => by
    simp only [RepL] at h
    obtain ⟨rfl, _⟩ := h
    induction j with
    | zero => trivial
    | succ j ih => exact ⟨trivial, ih⟩
  | .flat :: pk, d :: ds, _, _, j, e, h, hf => by
    simp only [RepL] at h
    obtain ⟨v, r, f1, f2, rfl, h1, h2, rfl⟩ := h
    simp only [pkOk, Bool.and_eq_true] at e
    refine ⟨⟨v, rfl, ?_⟩, cells_start j e.2 h2 fun a ha => hf a (List.mem_append_right _ ha)⟩
    rw [h1.flat e.1] at h1
    exact h1
  | .lab none [0] false :: pk, d :: ds, _, _, j, e, h, hf => by
    simp only [RepL] at h
    obtain ⟨v, r, f1, f2, rfl, h1, h2, rfl⟩ := h
    simp only [pkOk] at e
    refine ⟨⟨v, f1, rfl, h1, fun a ha => .inr ⟨.inr rfl, List.mem_singleton.mpr rfl, fun _ => hf a (List.mem_append_left _ ha)⟩, .unk fun z => nomatch z⟩, cells_start j e h2 fun a ha => hf a (List.mem_append_right _ ha)⟩
  | [], _ :: _, _, _, _, e, _, _ => by cases e
  | k :: _, [], _, _, _, e, _, _ => by unfold pkOk at e; split at e <;> simp_all
  | .dead :: _, _ :: _, _, _, _, e, _, _ => by cases e
  | .exc _ _ :: _, _ :: _, _, _, _, e, _, _ => by cases e
  | .lab none [] _ :: _, _ :: _, _, _, _, e, _, _ => by cases e
  | .lab none [0] true :: _, _ :: _, _, _, _, e, _, _ => by cases e
  | .lab none [k+1] _ :: _, _ :: _, _, _, _, e, _, _ => by cases e
  | .lab none (_ :: _ :: _) _ :: _, _ :: _, _, _, _, e, _, _ => by unfold pkOk at e; split at e <;> simp_all
  | .lab (some _) _ _ :: _, _ :: _, _, _, _, e, _, _ => by cases e
theorem pkOk_len : ∀ {pk : List Kd} {ds : List D}, pkOk pk ds = true → ds.length = pk.length
  | [], ds, e => by cases ds <;> simp_all [pkOk]
  | k :: pk, ds, e => by
    unfold pkOk at e
    split at e
    · simp_all
    · rename_i h; cases h; simp only [Bool.and_eq_true] at e; simp [pkOk_len e.2]
    · rename_i h; cases h; simp [pkOk_len e]
    · cases e
theorem loc_start {H : Hp} {fp : List Addr} (h : ∀ a ∈ fp, H a ≠ none) : Loc ⟨fun a => a ∈ fp, fun _ => False⟩ [] (fun _ => 0) H := ⟨fun a z => absurd rfl z, h, fun a z => z.elim⟩
theorem step_ext {H H' : Hp} {g' : Addr → Nat} (s : Step [] (fun _ => 0) H g' H') : Ext H H' := fun a u e => s.kp a (.inl rfl) u e
theorem step_new {P : Fm} {H H' : Hp} {g' : Addr → Nat} (s : Step [] (fun _ => 0) H g' H') (l : Loc P [] g' H') (hf : ∀ a, ¬ P.frz a) {a : Addr} (h : g' a ≠ 0) : New H H' a := by
  refine ⟨?_, ?_⟩
  · cases q : H a with
    | none => rfl
    | some o => exact absurd (s.lk a (by rw [q]; simp) (.inl rfl)) h
  · obtain ⟨o, e, m | m⟩ := l.at_ a h
    · rw [e]; exact m
    · exact absurd m (hf a)
theorem rf_of {mg : Mg} {H H' : Hp} {g' : Addr → Nat} {fp : List Addr} {R : Rm} {d : D} {v : V} (s : Step [] (fun _ => 0) H g' H') (l : Loc ⟨fun a => a ∈ fp, fun _ => False⟩ [] g' H') (r : RV mg ⟨fun a => a ∈ fp, fun _ => False⟩ g' H' R d v) : RF mg H H' fp R d v := by
  cases R with
  | flat => exact r
  | fresh => obtain ⟨f, r1, n, q⟩ := r; exact ⟨f, r1, n, fun a ha => step_new s l (fun _ z => z) (q a ha)⟩
  | out => obtain ⟨f, r1, q⟩ := r; exact ⟨f, r1, fun a ha => (q a ha).imp (step_new s l (fun _ z => z)) id⟩
section
variable {P : Program} {w : World} {K : PySem.W.Frag} {mg : Str → Option Value} {base : Heap} {x qual : Str} {params : Arguments} {body : List Stmt} {scope : Scope} {f : Addr} {fd : FuncData}
/-- a def that lets nothing out -/
theorem fn_ok0 {N ps : List Str} {k : Nat} {sc : Sc} {Γ' : List Kd} {s : Sv} (F : FunD K x qual params body scope [] [] f fd) (S : FnScope N ps scope) (pk : List Kd) (hp : pk.length = ps.length) (hN : ps.length ≤ N.length) (hL : sc.LL = [])
    (hb : ∀ (cdv : Value) (A : Around) (outer : List Env) (s0 : Shared) (H : Hp) (E : XK), Room k (A.deeper (envOfC qual scope s0.heap.objs.size f cdv)) →
      SS (cxOf CX0 P w K mg base N qual scope f cdv A outer s0 H E).nox (fun _ _ _ _ => False) sc (pk ++ List.replicate (N.length - pk.length) .dead) body s Γ') :
    FnOk P w K mg base CX0 (k + 1) f fd ps (sp0 ⟨mg, K⟩ (fnSem N.length pk s) ps.length sc.R) := by
  refine F.ok S (fun vs H Q E h => h.1) (fun cdv A outer s0 H vs Q E hr h => ?_)
  obtain ⟨hl, ds, fp, d, r, e, q⟩ := h
  obtain ⟨t, p, kk⟩ := hb cdv A outer s0 H E hr
  refine ⟨t, p.nox, ?_⟩
  unfold fnSem at e
  split at e
  · rename_i hpk
    have hlen := pkOk_len hpk
    have hvd := r.length
    have st : Sta ⟨mg, K⟩ ⟨fun a => a ∈ fp, fun _ => False⟩ sc.LL (pk ++ List.replicate (N.length - pk.length) .dead) (fun _ => 0) (ds ++ List.replicate (N.length - ds.length) .non) (L2.start N vs) H := by
      rw [hL]
      refine ⟨loc_start r.there, ?_⟩
      unfold L2.start
      rw [hvd, hlen]
      exact cells_start _ hpk r fun a ha => ha
    cases o : s (ds ++ List.replicate (N.length - ds.length) .non) with
    | none => rw [o] at e; cases e
    | some o' =>
      rw [o] at e
      refine kk ⟨fun a => a ∈ fp, fun _ => False⟩ (fun _ => 0) _ _ H o' _ st o ?_
      cases o' with
      | nx ρ' =>
        cases e
        intro g' σ' H' s' st'
        rw [hL] at s'
        refine q .non H' (step_ext s') ?_
        have r : Rep ⟨mg, K⟩ H' .non .non [] := rep_non
        cases sc.R with
        | flat => exact r
        | fresh => exact ⟨[], r, by simp, fun a ha => nomatch ha⟩
        | out => exact ⟨[], r, fun a ha => nomatch ha⟩
      | ct ρ' => cases e
      | rt d' =>
        cases e
        intro v g' H' s' l' rv
        rw [hL] at s' l'
        exact q v H' (step_ext s') (rf_of s' l' rv)
      | ex c ρ' => cases e
  · cases e
end

/-! ### calls -/
def eCall (f : List D → Option Res) (a : List D → Option (List D)) : Ev := fun ρ => do
  let ds ← a ρ
  match f ds with
  | some (.ret d) => some d
  | _ => none
def Rm.md : Rm → Md → Md
  | .flat, _ => .flat
  | .fresh, _ => .al true .new [] true
  | .out, .flat => .al true .unk [] false
  | .out, .al _ _ L _ => .al true .unk L false
theorem rf_val {mg : Mg} {P : Fm} {g : Addr → Nat} {H H1 H2 : Hp} {m : Md} {fp : List Addr} {R : Rm} {d : D} {v : V} (e : Ext H H1) (e' : Ext H1 H2) (o : Fps P g H H1 m fp) (r : RF mg H1 H2 fp R d v) : Val mg P g H H2 (R.md m) d v := by
  cases R with
  | flat => exact r
  | fresh =>
    obtain ⟨f, r1, n, q⟩ := r
    refine ⟨f, r1, fun a ha => ?_, .of n⟩
    by_cases hv : v = .ref a
    · exact .inl ⟨hv, (q a ha).back e⟩
    · exact .inr ⟨.inl hv, .inl ⟨rfl, (q a ha).back e⟩⟩
  | out =>
    obtain ⟨f, r1, q⟩ := r
    cases m with
    | flat =>
      obtain rfl : fp = [] := o
      refine ⟨f, r1, fun a ha => ?_, .unk fun z => nomatch z⟩
      rcases q a ha with y | y
      · exact .inr ⟨.inr rfl, .inl ⟨rfl, y.back e⟩⟩
      · cases y
    | al fr rt L nd =>
      refine ⟨f, r1, fun a ha => ?_, .unk fun z => nomatch z⟩
      rcases q a ha with y | y
      · exact .inr ⟨.inr rfl, .inl ⟨rfl, y.back e⟩⟩
      · rcases o.1 a y with ⟨_, z⟩ | z
        · exact .inr ⟨.inr rfl, .inl ⟨rfl, z.ext e'⟩⟩
        · exact .inr ⟨.inr rfl, .inr z⟩
section
variable {X : Cx} {LL : List Nat} {Γ : List Kd} {pos p : Pos} {k : Nat} {f : Addr} {fd : FuncData} {ps : List Str} {sem : List D → Option Res} {R : Rm} {x : Str}
theorem ex_call {e : Expr} {es : List Expr} {a : List D → Option (List D)} {m : Md} {n : Nat} (F : FnOk X.prog X.w X.K X.mg X.base CX0 k f fd ps (sp0 X.vm sem n R)) (hr : Room k X.A) (hg : Gl X x) (hm : X.mg x = some (.ref f)) (hk : PySem.W.keepIn X.K (.ref f) = true) (hb : Binds X.K fd ps [])
    (ha : EA X LL Γ (e :: es) a m) (hn : (e :: es).length = n := by rfl) (hdb : (x == ("__debug__" : Str)) = false := by decide) (he : starEach (e :: es) X.env = (false, eval e X.env) :: starEach es X.env := by rfl) (hpl : (backTo pos (starEach es X.env)).any (·.1) = false := by rfl) :
    EX X LL Γ (.Call (.Name x p) (e :: es) [] pos) (eCall sem a) (R.md m) := by
  obtain ⟨hl, t, pt, kk⟩ := ha
  refine ⟨_, pe_call F hr hg hm hk hb .nil pass0 pt hdb he hpl, fun P g ρ σ H d Q s e0 q => ?_⟩
  obtain ⟨ds, e1, e2⟩ := bind_some e0
  refine kk P g ρ σ H ds _ s e1 fun vs H1 x1 vl => ?_
  obtain ⟨fp, r, o⟩ := vl
  have hlen : (vs ++ []).length = n := by rw [List.append_nil, r.length, hl ρ ds e1]; exact hn
  refine ⟨hlen, ds, fp, d, by rw [List.append_nil]; exact r, ?_, fun v H2 x2 rf => q v H2 (x1.trans x2) (rf_val x1 x2 o rf)⟩
  split at e2
  · cases e2; assumption
  · cases e2
theorem ex_call0 {n : Nat} (F : FnOk X.prog X.w X.K X.mg X.base CX0 k f fd ps (sp0 X.vm sem n R)) (hr : Room k X.A) (hg : Gl X x) (hm : X.mg x = some (.ref f)) (hk : PySem.W.keepIn X.K (.ref f) = true) (hb : Binds X.K fd ps [])
    (hn : n = 0 := by rfl) (hdb : (x == ("__debug__" : Str)) = false := by decide) : EX X LL Γ (.Call (.Name x p) [] [] pos) (eCall sem aNil) (R.md .flat) := by
  refine ⟨_, pe_call0 F hr hg hm hk hb .nil pass0 hdb, fun P g ρ σ H d Q s e0 q => ?_⟩
  obtain ⟨ds, e1, e2⟩ := bind_some e0
  cases e1
  refine ⟨hn.symm, [], [], d, by simp [RepL], ?_, fun v H2 x2 rf => q v H2 x2 (rf_val Ext.refl x2 (m := .flat) rfl rf)⟩
  split at e2
  · cases e2; assumption
  · cases e2
end
end VV

/-! ## VLoop -/
namespace VV
open PySem PySem.Spec PyProof.Rows L2

theorem PE_imp {X : Cx} {e : Expr} {t t' : TE} (p : PE X e t) (h : ∀ σ H Q, t' σ H Q → t σ H Q) : PE X e t' := ⟨fun pins s σ H Q I q => p.run pins s σ H Q I (h σ H Q q)⟩
theorem PTs_imp {X : Cx} {e : List Expr} {t t' : TT} (p : PTs X e t) (h : ∀ σ H Q, t' σ H Q → t σ H Q) : PTs X e t' := ⟨fun pins s σ H Q I q => p.run pins s σ H Q I (h σ H Q q)⟩
theorem PG_imp {X : Cx} {e : Expr} {t t' : TG} (p : PG X e t) (h : ∀ v σ H Q, t' v σ H Q → t v σ H Q) : PG X e t' := ⟨fun pins s σ H v u Q I r q => p.run pins s σ H v u Q I r (h v σ H Q q)⟩
def canT (mg : Mg) (LL : List Nat) (Γ : List Kd) (sem : Ev) (m : Md) : TE := fun σ H Q => ∃ P g ρ d, Sta mg P LL Γ g ρ σ H ∧ sem ρ = some d ∧ ∀ v H', Ext H H' → Val mg P g H H' m d v → Q v H'
def canB (mg : Mg) (LL : List Nat) (Γ : List Kd) (sem : List D → Option Bool) : TT := fun σ H Q => ∃ P g ρ d, Sta mg P LL Γ g ρ σ H ∧ sem ρ = some d ∧ ∀ H', Ext H H' → Q d H'
def canG (mg : Mg) (Γ : List Kd) (k : Kd) (sem : Tv) (Γ' : List Kd) (S : List Nat) : TG := fun v σ H Q => ∃ P LL g ρ d ρ', Sta mg P LL Γ g ρ σ H ∧ CellOk mg P g H k d (some v) ∧ sem d ρ = some ρ' ∧ ∀ σ', Sta mg P LL Γ' g ρ' σ' H → Wp S σ σ' → Q σ' H
theorem ex_can {X : Cx} {LL : List Nat} {Γ : List Kd} {e : Expr} {sem : Ev} {m : Md} (h : EX X LL Γ e sem m) : PE X e (canT X.vm LL Γ sem m) := by
  obtain ⟨t, p, k⟩ := h
  exact PE_imp p fun σ H Q ⟨P, g, ρ, d, s, e, q⟩ => k P g ρ σ H d Q s e q
/-- a list of tests (of a comprehension) -/
def ETs (X : Cx) (LL : List Nat) (Γ : List Kd) (e : List Expr) (sem : List D → Option Bool) : Prop :=
  ∃ t, PTs X e t ∧ ∀ P g ρ σ H b Q, Sta X.vm P LL Γ g ρ σ H → sem ρ = some b → (∀ H', Ext H H' → Q b H') → t σ H Q
def cYes : List D → Option Bool := fun _ => some true
theorem ets_nil {X : Cx} {LL : List Nat} {Γ : List Kd} : ETs X LL Γ [] cYes := ⟨_, pts_nil, fun P g ρ σ H b Q s e q => by cases e; exact q H Ext.refl⟩
theorem ets_one {X : Cx} {LL : List Nat} {Γ : List Kd} {e : Expr} {s : List D → Option Bool} (h : ET X LL Γ e s) : ETs X LL Γ [e] s := let ⟨t, p, k⟩ := h; ⟨t, pts_one p, k⟩
theorem ets_can {X : Cx} {LL : List Nat} {Γ : List Kd} {e : List Expr} {sem : List D → Option Bool} (h : ETs X LL Γ e sem) : PTs X e (canB X.vm LL Γ sem) := by
  obtain ⟨t, p, k⟩ := h
  exact PTs_imp p fun σ H Q ⟨P, g, ρ, d, s, e, q⟩ => k P g ρ σ H d Q s e q
theorem eg_can {X : Cx} {Γ Γ' : List Kd} {e : Expr} {k : Kd} {sem : Tv} {S : List Nat} (h : EG X Γ e k sem Γ' S) : PG X e (canG X.vm Γ k sem Γ' S) := by
  obtain ⟨t, p, kk⟩ := h
  exact PG_imp p fun v σ H Q ⟨P, LL, g, ρ, d, ρ', s, c, e, q⟩ => kk P LL g ρ σ H d v ρ' Q s c e q

/-! ### what is walked -/
def Kept (H H' : Hp) (fp : List Addr) : Prop := (∀ a ∈ fp, ∀ u, H a = some u → H' a = some u) ∧ KpT H H'
theorem Ext.kept {H H' : Hp} (e : Ext H H') (fp : List Addr) : Kept H H' fp := ⟨fun a _ u h => e a u h, e.kpT⟩
theorem Kept.rep {mg : Mg} {H H' : Hp} {F f : List Addr} {d : D} {v : V} (k : Kept H H' F) (h : Rep mg H d v f) (s : ∀ a ∈ f, a ∈ F) : Rep mg H' d v f :=
  h.keep (fun a ha => ⟨fun u _ r => by rcases r with r | ⟨o, r⟩; exact .inl (k.1 a (s a ha) u r); exact .inr ⟨o, k.1 a (s a ha) _ r⟩, fun vs r => k.1 a (s a ha) _ r⟩) k.2
theorem Kept.repL {mg : Mg} {H H' : Hp} {F f : List Addr} {d : List D} {v : List V} (k : Kept H H' F) (h : RepL mg H d v f) (s : ∀ a ∈ f, a ∈ F) : RepL mg H' d v f :=
  h.keep (fun a ha => ⟨fun u _ r => by rcases r with r | ⟨o, r⟩; exact .inl (k.1 a (s a ha) u r); exact .inr ⟨o, k.1 a (s a ha) _ r⟩, fun vs r => k.1 a (s a ha) _ r⟩) k.2
def Iter (mg : Mg) (P : Fm) (g : Addr → Nat) (H H' : Hp) (J : It) (labs : List Nat) (me : Md) (ds : List D) : Prop :=
  ∃ fpI : List Addr, (∀ a ∈ fpI, New H H' a ∨ Old P g labs a) ∧ ∀ H2, Kept H' H2 fpI →
    (∀ (i : Nat) (d : D), ds[i]? = some d → J.go i H2 ∧ ∀ x H3, J.yld i H2 x H3 → Ext H2 H3 ∧ ∃ f, Rep mg H3 d x f ∧ Fps P g H H' me f ∧ ∀ a ∈ f, a ∈ fpI) ∧ J.stop ds.length H2
def EI (X : Cx) (LL : List Nat) (Γ : List Kd) (tg it : Expr) (sem : List D → Option (List D)) (labs : List Nat) (me : Md) : Prop :=
  ∃ wi, PI X tg it wi ∧ ∀ P g ρ σ H ds R, Sta X.vm P LL Γ g ρ σ H → sem ρ = some ds → (∀ J H', Ext H H' → ds.length ≤ sizeLine → Iter X.vm P g H H' J labs me ds → R J H') → wi σ H R
def Sized (K : PySem.W.Frag) (H : Hp) : Prop := (∀ a xs, SqL K H a xs → xs.length ≤ sizeLine) ∧ ∀ a xs, SqT K H a xs → xs.length ≤ sizeLine
theorem pi_sized {X : Cx} {tg it : Expr} {wi : TI} (h : PI X tg it wi) : PI X tg it (fun σ H R => wi σ H fun J H1 => Sized X.K H1 → R J H1) := by
  refine ⟨fun pins s σ H R I hw => thn (h.run pins s σ H _ I hw) fun v s1 h1 => thn h1 fun u s2 ⟨it', fp, tn, J, H', e, I', T, t0, f, r⟩ => ?_⟩
  refine ⟨it', fp, tn, J, H', e, I', T, t0, f, r ⟨fun a xs q => ?_, fun a xs q => ?_⟩⟩
  · obtain ⟨_, _, _, z⟩ := I'.list q; exact z
  · obtain ⟨_, _, _, z⟩ := I'.tuple q; exact z
def Md.labs : Md → List Nat
  | .flat => []
  | .al _ rt L _ => (match rt with | .old n => n :: L | _ => L)
theorem Val.labs {mg : Mg} {P : Fm} {g : Addr → Nat} {H H' : Hp} {m : Md} {d : D} {v : V} (h : Val mg P g H H' m d v) : ∃ fp, Rep mg H' d v fp ∧ Fps P g H H' m.unroot fp ∧ (∀ a ∈ fp, New H H' a ∨ Old P g m.labs a) ∧
    ∀ f : List Addr, (∃ f1 f2, (∃ a, v = .ref a ∧ fp = a :: (f1 ++ f ++ f2)) ∨ (fp = f1 ++ f ++ f2 ∧ ∀ a, v = .ref a → a ∉ fp)) → Fps P g H H' m.child f := by
  cases m with
  | flat =>
    refine ⟨[], h, rfl, (fun a ha => nomatch ha), fun f ⟨f1, f2, e⟩ => ?_⟩
    rcases e with ⟨a, _, e⟩ | ⟨e, _⟩
    · cases e
    · have := congrArg List.length e
      simp at this
      exact List.eq_nil_of_length_eq_zero (by omega)
  | al fr rt L nd =>
    obtain ⟨fp, r, o⟩ := h
    refine ⟨fp, r, o.unroot, fun a ha => ?_, fun f ⟨f1, f2, e⟩ => ?_⟩
    · rcases o.1 a ha with ⟨_, y⟩ | ⟨_, ⟨_, y⟩ | y⟩
      · cases rt with
        | new => exact .inl y
        | old n => exact .inr ⟨by rw [List.mem_singleton.mp y.1]; exact List.mem_cons_self, y.2⟩
        | unk => exact y.elim
      · exact .inl y
      · refine .inr ⟨?_, y.2⟩
        cases rt with
        | new => exact y.1
        | old n => exact List.mem_cons_of_mem _ y.1
        | unk => exact y.1
    · have hs : ∀ a ∈ f, a ∈ fp := fun a ha => by
        rcases e with ⟨b, _, rfl⟩ | ⟨rfl, _⟩
        · exact List.mem_cons_of_mem _ (List.mem_append_left _ (List.mem_append_right _ ha))
        · exact List.mem_append_left _ (List.mem_append_right _ ha)
      cases nd with
      | true =>
        refine ⟨fun a ha => ?_, fun _ => ?_⟩
        · rcases o.1 a (hs a ha) with ⟨e2, y⟩ | ⟨_, y⟩
          · exfalso
            rcases e with ⟨b, e3, rfl⟩ | ⟨_, z⟩
            · rw [e3] at e2; cases e2
              exact (List.nodup_cons.mp (o.2.1 rfl)).1 (List.mem_append_left _ (List.mem_append_right _ ha))
            · exact z a e2 (hs a ha)
          · exact y
        · have n := o.2.1 rfl
          rcases e with ⟨b, _, rfl⟩ | ⟨rfl, _⟩
          · have n := (List.nodup_cons.mp n).2
            exact (List.nodup_append.mp (List.nodup_append.mp n).1).2.1
          · exact (List.nodup_append.mp (List.nodup_append.mp n).1).2.1
      | false =>
        have q := o.unroot
        show Fps P g H H' (Md.al fr rt L false).unroot f
        cases rt <;> exact ⟨fun a ha => q.1 a (hs a ha), fun h => nomatch h⟩
section
variable {X : Cx} {LL : List Nat} {Γ : List Kd} {pos p : Pos} {tg e : Expr} {se : Ev} {m : Md}
def iLst (s : Ev) : List D → Option (List D) := fun ρ => do match (← s ρ) with
  | .lst l => some l
  | .scr l => some l
  | _ => none
def iTupl (s : Ev) : List D → Option (List D) := fun ρ => do match (← s ρ) with
  | .tup l => some l
  | _ => none
theorem RepL.parts {mg : Mg} {H : Hp} {ds : List D} {vs : List V} {fp : List Addr} (h : RepL mg H ds vs fp) {i : Nat} {d : D} (e : ds[i]? = some d) : ∃ v f, vs[i]? = some v ∧ Rep mg H d v f ∧ ∃ f1 f2, fp = f1 ++ f ++ f2 := by
  obtain ⟨v, f1, f, f2, e1, r, e2⟩ := h.get e
  exact ⟨v, f, e1, r, f1, f2, e2⟩
theorem ei_list (he : EX X LL Γ e se m) : EI X LL Γ tg e (iLst se) m.labs m.child := by
  obtain ⟨t, pt, k⟩ := he
  refine ⟨_, pi_sized (pi_list pt), fun P g ρ σ H ds R s e0 q => ?_⟩
  obtain ⟨d, e1, e0⟩ := bind_some e0
  refine k P g ρ σ H d _ s e1 fun v H1 x1 w => ?_
  obtain ⟨fp, r, o, lb, ch⟩ := w.labs
  cases d with
  | lst l =>
    cases e0
    have r0 := r
    simp only [Rep] at r0
    obtain ⟨a, vs, f, rfl, ha, h2, rfl⟩ := r0
    refine ⟨a, rfl, ⟨vs, SqL.of ha⟩, fun sz => q _ H1 x1 (by rw [← h2.length]; exact sz.1 a vs (SqL.of ha)) ⟨a :: f, lb, fun H2 kp => ⟨fun i d hi => ?_, ?_⟩⟩⟩
    · obtain ⟨u, fi, e3, ri, f1, f2, rfl⟩ := h2.parts hi
      have ha2 : H2 a = some (.lst vs) := kp.1 a List.mem_cons_self _ ha
      refine ⟨⟨vs, u, SqL.of ha2, e3⟩, fun x H3 y => ?_⟩
      obtain ⟨rfl, y⟩ := y
      have := y vs (SqL.of ha2)
      rw [e3] at this; cases this
      have sub : ∀ b ∈ fi, b ∈ a :: (f1 ++ fi ++ f2) := fun b hb => List.mem_cons_of_mem _ (List.mem_append_left _ (List.mem_append_right _ hb))
      exact ⟨Ext.refl, fi, kp.rep ri sub, ch fi ⟨f1, f2, .inl ⟨a, rfl, rfl⟩⟩, sub⟩
    · exact ⟨vs, SqL.of (kp.1 a List.mem_cons_self _ ha), by rw [h2.length]; exact Nat.le_refl _⟩
  | scr l =>
    cases e0
    have r0 := r
    simp only [Rep] at r0
    obtain ⟨a, vs, rfl, ha, h2, rfl⟩ := r0
    refine ⟨a, rfl, ⟨vs, ha.sq⟩, fun sz => q _ H1 x1 (by rw [← h2.length]; exact sz.1 a vs ha.sq) ⟨[], lb, fun H2 kp => ⟨fun i d hi => ?_, ?_⟩⟩⟩
    · obtain ⟨u, fi, e3, ri, f1, f2, e4⟩ := h2.parts hi
      have e5 : fi = [] ∧ f1 = [] ∧ f2 = [] := by
        have := congrArg List.length e4
        simp at this
        exact ⟨List.eq_nil_of_length_eq_zero (by omega), List.eq_nil_of_length_eq_zero (by omega), List.eq_nil_of_length_eq_zero (by omega)⟩
      obtain ⟨rfl, rfl, rfl⟩ := e5
      have ha2 : ScrAt X.K H2 a vs := ha.imp (fun ⟨o, r⟩ => ⟨o, kp.2.2.1 a o vs r⟩) id
      refine ⟨⟨vs, u, ha2.sq, e3⟩, fun x H3 y => ?_⟩
      obtain ⟨rfl, y⟩ := y
      have := y vs ha2.sq
      rw [e3] at this; cases this
      exact ⟨Ext.refl, [], kp.rep ri (fun b hb => nomatch hb), ch [] ⟨[], [], .inr ⟨rfl, fun b eb => nofun⟩⟩, fun b hb => nomatch hb⟩
    · have ha2 : ScrAt X.K H2 a vs := ha.imp (fun ⟨o, r⟩ => ⟨o, kp.2.2.1 a o vs r⟩) id
      exact ⟨vs, ha2.sq, by rw [h2.length]; exact Nat.le_refl _⟩
  | _ => cases e0
theorem ei_tup (he : EX X LL Γ e se m) : EI X LL Γ tg e (iTupl se) m.labs m.child := by
  obtain ⟨t, pt, k⟩ := he
  refine ⟨_, pi_sized (pi_tup pt), fun P g ρ σ H ds R s e0 q => ?_⟩
  obtain ⟨d, e1, e0⟩ := bind_some e0
  refine k P g ρ σ H d _ s e1 fun v H1 x1 w => ?_
  obtain ⟨fp, r, o, lb, ch⟩ := w.labs
  cases d with
  | tup l =>
    cases e0
    have r0 := r
    simp only [Rep] at r0
    obtain ⟨a, vs, rfl, ha, h2⟩ := r0
    refine ⟨a, rfl, ⟨vs, .inl (.inl ha)⟩, fun sz => q _ H1 x1 (by rw [← h2.length]; exact sz.2 a vs (.inl (.inl ha))) ⟨fp, lb, fun H2 kp => ⟨fun i d hi => ?_, ?_⟩⟩⟩
    · obtain ⟨u, fi, e3, ri, f1, f2, rfl⟩ := h2.parts hi
      have ha2 := kp.2.1 a vs ha
      refine ⟨⟨vs, u, .inl (.inl ha2), e3⟩, fun x H3 y => ?_⟩
      obtain ⟨rfl, y⟩ := y
      have := y vs (.inl (.inl ha2))
      rw [e3] at this; cases this
      have sub : ∀ b ∈ fi, b ∈ f1 ++ fi ++ f2 := fun b hb => List.mem_append_left _ (List.mem_append_right _ hb)
      exact ⟨Ext.refl, fi, kp.rep ri sub, ch fi ⟨f1, f2, .inr ⟨rfl, fun b eb => by cases eb; exact r.notup (.inl ha)⟩⟩, sub⟩
    · exact ⟨vs, .inl (.inl (kp.2.1 a vs ha)), by rw [h2.length]; exact Nat.le_refl _⟩
  | _ => cases e0
/-- lo, lo + 1, .. -/
def rngD (lo : Int) (n : Nat) : List D := (List.range n).map fun i : Nat => .int (lo + i)
theorem rngD_get {lo : Int} {n i : Nat} {d : D} (h : (rngD lo n)[i]? = some d) : i < n ∧ d = .int (lo + i) := by
  unfold rngD at h
  rw [List.getElem?_map] at h
  by_cases hi : i < n
  · rw [List.getElem?_range hi] at h
    cases h
    exact ⟨hi, rfl⟩
  · rw [List.getElem?_eq_none (by simpa using hi)] at h
    cases h
theorem iter_rngD {mg : Mg} {P : Fm} {g : Addr → Nat} {H H' : Hp} {lo : Int} {n : Nat} : Iter mg P g H H' (Itr lo n) [] .flat (rngD lo n) := by
  refine ⟨[], (fun a ha => nomatch ha), fun H2 kp => ⟨fun i d hi => ?_, ?_⟩⟩
  · obtain ⟨h1, rfl⟩ := rngD_get hi
    refine ⟨h1, fun x H3 y => ?_⟩
    obtain ⟨rfl, rfl⟩ := y
    exact ⟨Ext.refl, [], rep_int, rfl, fun a ha => nomatch ha⟩
  · show n ≤ (rngD lo n).length
    unfold rngD
    simp
def iRng (a : List D → Option (List D)) : List D → Option (List D) := fun ρ => do match (← a ρ) with
  | [.int j] => if j ≤ 10000000 ∧ -10000000 ≤ j then some (rngD 0 j.toNat) else none
  | [.int i, .int j] => if j ≤ 10000000 ∧ -10000000 ≤ i ∧ i ≤ 10000000 ∧ -10000000 ≤ j ∧ j - i ≤ 10000000 then some (rngD i (j - i).toNat) else none
  | _ => none
theorem ei_range1 {a : Expr} {sa : List D → Option (List D)} (hg : Gl X "range") (hm : X.mg "range" = none) (ha : EA X LL Γ [a] sa m) (hs : starEach [a] X.env = [(false, eval a X.env)] := by rfl) : EI X LL Γ tg (.Call (.Name "range" p) [a] [] pos) (iRng sa) [] .flat := by
  obtain ⟨hl, t, pt, k⟩ := ha
  refine ⟨_, pi_range1 hg hm pt hs, fun P g ρ σ H ds R s e0 q => ?_⟩
  obtain ⟨d, e1, e0⟩ := bind_some e0
  have hlen := hl ρ d e1
  refine k P g ρ σ H d _ s e1 fun vs H1 x1 w => ?_
  obtain ⟨fp, r⟩ := w.rep
  split at e0
  · split at e0
    · cases e0
      obtain ⟨v, rfl, h⟩ := repL1 r
      obtain rfl := rInt h
      rename_i j hj
      refine ⟨j, rfl, by omega, by omega, ?_⟩
      exact q _ H1 x1 (by unfold rngD; simp; rw [sizeLine_eq]; omega) iter_rngD
    · cases e0
  · simp at hlen
  · cases e0
theorem ei_range2 {a b : Expr} {sa : List D → Option (List D)} (hg : Gl X "range") (hm : X.mg "range" = none) (ha : EA X LL Γ [a, b] sa m) (hs : starEach [a, b] X.env = [(false, eval a X.env), (false, eval b X.env)] := by rfl) (hs2 : starEach [b] X.env = [(false, eval b X.env)] := by rfl) : EI X LL Γ tg (.Call (.Name "range" p) [a, b] [] pos) (iRng sa) [] .flat := by
  obtain ⟨hl, t, pt, k⟩ := ha
  refine ⟨_, pi_range2 hg hm pt hs hs2, fun P g ρ σ H ds R s e0 q => ?_⟩
  obtain ⟨d, e1, e0⟩ := bind_some e0
  have hlen := hl ρ d e1
  refine k P g ρ σ H d _ s e1 fun vs H1 x1 w => ?_
  obtain ⟨fp, r⟩ := w.rep
  split at e0
  · simp at hlen
  · split at e0
    · cases e0
      rename_i i j hj
      obtain ⟨v, v2, _, _, rfl, h, h', _⟩ := repL2 r
      obtain rfl := rInt h
      obtain rfl := rInt h'
      refine ⟨i, j, rfl, ⟨by omega, by omega, by omega, by omega⟩, ?_⟩
      exact q _ H1 x1 (by unfold rngD; simp; rw [sizeLine_eq]; omega) iter_rngD
    · cases e0
  · cases e0
end
end VV

/-! ## VLoop2 -/
namespace VV
open PySem PySem.Spec PyProof.Rows L2

/-! ### for -/
def forL (t : Tv) (b : Sv) : List D → List D → Option Out
  | [], ρ => some (.nx ρ)
  | x :: xs, ρ => match t x ρ with
    | none => none
    | some ρ1 => match b ρ1 with
      | some (.nx ρ2) => forL t b xs ρ2
      | some (.ct ρ2) => forL t b xs ρ2
      | o => o
def sFor (it : List D → Option (List D)) (t : Tv) (b : Sv) : Sv := fun ρ => do forL t b (← it ρ) ρ
/-- the kind of a loop's name -/
def Md.kindI (n : Nat) : Md → Kd
  | .flat => .flat
  | .al fr _ L nd => .lab none (if fr then n :: L else L) nd
theorem fps_cell {mg : Mg} {P : Fm} {LL : List Nat} {g g' : Addr → Nat} {H H1 H' : Hp} {me : Md} {f : List Addr} {d : D} {v : V} {n : Nat} (l : Loc P LL g H) (r : Rep mg H' d v f) (o : Fps P g H H1 me f) (hn : n ≠ 0)
    (hg : ∀ a ∈ f, g' a = relab g H H1 .non n n a) : CellOk mg P g' H' (me.kindI n) d (some v) := by
  cases me with
  | flat =>
    obtain rfl : f = [] := o
    exact ⟨v, rfl, r⟩
  | al fr rt L nd =>
    refine ⟨v, f, rfl, r, fun a ha => .inr ⟨.inr rfl, ?_⟩, .unk o.2⟩
    unfold Old
    rw [hg a ha]
    rcases o.1 a ha with ⟨hfr, y⟩ | y
    · rw [relab_new y]
      subst hfr
      refine ⟨?_, fun z => ?_⟩
      · show _ ∈ n :: L
        split <;> exact List.mem_cons_self
      · split at z <;> exact absurd z hn
    · have := Old.relab (H' := H1) (v := .non) (n := n) (m := n) y l
      refine ⟨?_, this.2⟩
      cases fr with
      | false => exact this.1
      | true => exact List.mem_cons_of_mem _ this.1
theorem Step.sub {LL LL' : List Nat} {g g' : Addr → Nat} {H H' : Hp} (s : Step LL' g H g' H') (h : ∀ n ∈ LL, n ∈ LL') : Step LL g H g' H' :=
  ⟨fun a x u e => s.kp a (x.imp id (h _)) u e, fun a e x => s.lk a e (x.imp id (h _)), s.th⟩
theorem Loc.up {P : Fm} {LL LL' : List Nat} {g : Addr → Nat} {H : Hp} (l : Loc P LL g H) (h : ∀ n ∈ LL, n ∈ LL') : Loc P LL' g H := ⟨l.at_, l.out, fun a x => ⟨(l.fz a x).1, (l.fz a x).2.imp id (h _)⟩⟩
/-- back to fewer locks: what was locked for good before is still so -/
theorem Loc.down {P : Fm} {LL LL' : List Nat} {g g' : Addr → Nat} {H H' : Hp} (l' : Loc P LL' g' H') (l : Loc P LL g H) (s : Step LL g H g' H') : Loc P LL g' H' :=
  ⟨l'.at_, l'.out, fun a x => ⟨(l'.fz a x).1, by rw [s.lk a (l.fzn x) (l.fz a x).2]; exact (l.fz a x).2⟩⟩
theorem Step.tups {P : Fm} {LL : List Nat} {g g' : Addr → Nat} {H H' : Hp} (s : Step LL g H g' H') (l : Loc P LL g H) {u : HO} (hu : ¬ Mut (some u)) (a : Addr) (e : H a = some u) : H' a = some u := by
  have key : VV.lk LL (g a) := by
    by_cases h : g a = 0
    · exact .inl h
    · obtain ⟨o, e', m | m⟩ := l.at_ a h
      · rw [e] at e'; cases e'; exact absurd m hu
      · exact (l.fz a m).2
  exact s.kp a key _ e
theorem Step.kpT {P : Fm} {LL : List Nat} {g g' : Addr → Nat} {H H' : Hp} (s : Step LL g H g' H') (l : Loc P LL g H) : KpT H H' := by
  refine ⟨fun a xs r => ?_, fun a o vs r => s.tups l (show ¬ Mut (some (HO.frz o (.lst vs))) from fun z => z) a r, fun a o vs r => s.tups l (show ¬ Mut (some (HO.frz o (.tup vs))) from fun z => z) a r⟩
  exact s.tups l (show ¬ Mut (some (HO.tup xs)) from fun z => z) a r
theorem wantS_sub {X : Cx} {W : L2.WX} {sc sc' : Sc} {P : Fm} {Γ' : List Kd} {g g0 : Addr → Nat} {H H0 : Hp} {D D' : Ends} {o : Out} (hL : ∀ n ∈ sc.LL, n ∈ sc'.LL) (hR : sc'.R = sc.R) (hx : sc'.Γx = sc.Γx) (hD : D'.rt = D.rt) (l : Loc P sc.LL g0 H0) (s0 : Step sc.LL g0 H0 g H)
    (w : WantS X W sc P Γ' g0 H0 D o) (ho : (∃ d, o = .rt d) ∨ ∃ c ρ, o = .ex c ρ) (Γ1 : List Kd) : WantS X W sc' P Γ1 g H D' o := by
  rcases ho with ⟨d, rfl⟩ | ⟨c, ρ, rfl⟩
  · intro v g' H' s l' r
    rw [hD]
    have st := s0.trans (s.sub hL)
    exact w v g' H' st (l'.down l st) (by rw [← hR]; exact r)
  · intro C g' σ' H' m s st
    have stt := s0.trans (s.sub hL)
    exact w C g' σ' H' m stt ⟨st.loc.down l stt, by rw [← hx]; exact st.cells⟩
section
variable {X : Cx} {W : L2.WX} {sc : Sc} {Γ Γ1 : List Kd} {pos : Pos}
theorem for_run {t : Tv} {sb : Sv} {labs : List Nat} {me : Md} {S : List Nat} {n : Nat} {tgt : TG} {tb : TS} {wi : TI}
    (kg : ∀ P LL g ρ σ H d v ρ' (Q : L2.St → Hp → Prop), Sta X.vm P LL Γ g ρ σ H → CellOk X.vm P g H (me.kindI n) d (some v) → t d ρ = some ρ' → (∀ σ', Sta X.vm P LL Γ1 g ρ' σ' H → Wp S σ σ' → Q σ' H) → tgt v σ H Q)
    (kb : ∀ P g ρ σ H o D, Sta X.vm P (n :: (labs ++ sc.LL)) Γ1 g ρ σ H → sb ρ = some o → WantS X W { sc with LL := n :: (labs ++ sc.LL), Γc := Γ } P Γ g H D o → tb D σ H)
    (hn : n ≠ 0) {P : Fm} {g : Addr → Nat} {ρ : List D} {σ : L2.St} {H : Hp} {ds : List D} {o : Out} {De : Ends} (s : Sta X.vm P sc.LL Γ g ρ σ H)
    (ki : ∀ R : It → Hp → Prop, (∀ J H', Ext H H' → Iter X.vm P g H H' J labs me ds → R J H') → wi σ H R) (e : forL t sb ds ρ = some o) (w : WantS X W sc P Γ g H De o) : tFor wi tgt tb De σ H := by
  refine ki _ fun J H1 x1 it => ?_
  obtain ⟨fpI, lb, walk⟩ := it
  -- what is new is labelled n, and locked
  have s1 : Sta X.vm P sc.LL Γ (relab g H H1 .non n n) ρ σ H1 := s.relab x1
  have st1 : Step sc.LL g H (relab g H H1 .non n n) H1 := .relab x1
  have subL : ∀ k ∈ sc.LL, k ∈ n :: (labs ++ sc.LL) := fun k hk => List.mem_cons_of_mem _ (List.mem_append_right _ hk)
  have lkI : ∀ a ∈ fpI, lk (n :: (labs ++ sc.LL)) (relab g H H1 .non n n a) := fun a ha => by
    rcases lb a ha with y | y
    · rw [relab_new y]; right; split <;> exact List.mem_cons_self
    · rw [relab_old (y.there s.loc)]; right
      exact List.mem_cons_of_mem _ (List.mem_append_left _ y.1)
  generalize hg1 : relab g H H1 .non n n = g1 at s1 st1 lkI
  -- the turn's state: what is left of the items
  refine ⟨fun i m σ' H' => m = ds.length - i ∧ i ≤ ds.length ∧ ∃ ρ' g', forL t sb (ds.drop i) ρ' = some o ∧ Sta X.vm P (n :: (labs ++ sc.LL)) Γ g' ρ' σ' H' ∧ Step (n :: (labs ++ sc.LL)) g1 H1 g' H',
    ⟨ds.length, rfl, Nat.zero_le _, ρ, g1, by rw [List.drop_zero]; exact e, ⟨s1.loc.up subL, s1.cells⟩, .refl⟩, ?_⟩
  rintro i m σ2 H2 ⟨rfl, hil, ρ2, g2, e2, s2, st2⟩
  have kept : Kept H1 H2 fpI := ⟨fun a ha u r => st2.kp a (lkI a ha) u r, st2.kpT (s1.loc.up subL)⟩
  obtain ⟨wk, wstop⟩ := walk H2 kept
  have back : ∀ {ρ3 : List D} {σ3 : L2.St} {g3 : Addr → Nat} {H3 : Hp}, Step (n :: (labs ++ sc.LL)) g1 H1 g3 H3 → Sta X.vm P (n :: (labs ++ sc.LL)) Γ g3 ρ3 σ3 H3 → Step sc.LL g H g3 H3 ∧ Sta X.vm P sc.LL Γ g3 ρ3 σ3 H3 := fun st3 s3 =>
    have h := st1.trans (st3.sub subL)
    ⟨h, s3.loc.down s.loc h, s3.cells⟩
  by_cases hi' : i < ds.length
  · refine .inr ?_
    obtain ⟨go, yl⟩ := wk i ds[i] (List.getElem?_eq_getElem hi')
    rw [List.drop_eq_getElem_cons hi'] at e2
    unfold forL at e2
    cases et : t ds[i] ρ2 with
    | none => rw [et] at e2; cases e2
    | some ρ3 =>
      rw [et] at e2
      dsimp only at e2
      refine ⟨go, fun σ' H' => ∃ m', m' < ds.length - i ∧ (m' = ds.length - (i + 1) ∧ i + 1 ≤ ds.length ∧ ∃ ρ' g', forL t sb (ds.drop (i + 1)) ρ' = some o ∧ Sta X.vm P (n :: (labs ++ sc.LL)) Γ g' ρ' σ' H' ∧ Step (n :: (labs ++ sc.LL)) g1 H1 g' H'), fun σ' H' h => h, fun x H3 y => ?_⟩
      obtain ⟨x3, f, r, of, sub⟩ := yl x H3 y
      have s3 := s2.ext x3
      have cell : CellOk X.vm P g2 H3 (me.kindI n) ds[i] (some x) := fps_cell s.loc r of hn fun a ha => by
        rw [hg1]
        obtain ⟨u, hu⟩ : ∃ u, H1 a = some u := by
          rcases lb a (sub a ha) with y | y
          · cases q : H1 a with
            | none => have := y.2; rw [q] at this; exact this.elim
            | some u => exact ⟨u, rfl⟩
          · cases q : H1 a with
            | none => exact absurd (x1.nope q) (y.there s.loc)
            | some u => exact ⟨u, rfl⟩
        exact st2.lk a (by rw [hu]; simp) (lkI a (sub a ha))
      refine kg P _ g2 ρ2 σ2 H3 ds[i] x ρ3 _ s3 cell et fun σ4 s4 _ => ?_
      have st3 : Step (n :: (labs ++ sc.LL)) g1 H1 g2 H3 := st2.trans (.ext x3)
      have again : ∀ {ρ5 : List D} {σ5 : L2.St} {g5 : Addr → Nat} {H5 : Hp}, forL t sb (ds.drop (i + 1)) ρ5 = some o → Step (n :: (labs ++ sc.LL)) g2 H3 g5 H5 → Sta X.vm P (n :: (labs ++ sc.LL)) Γ g5 ρ5 σ5 H5 →
          ∃ m', m' < ds.length - i ∧ (m' = ds.length - (i + 1) ∧ i + 1 ≤ ds.length ∧ ∃ ρ' g', forL t sb (ds.drop (i + 1)) ρ' = some o ∧ Sta X.vm P (n :: (labs ++ sc.LL)) Γ g' ρ' σ5 H5 ∧ Step (n :: (labs ++ sc.LL)) g1 H1 g' H5) := fun {ρ5 σ5 g5 H5} e5 st5 s5 =>
        ⟨_, by omega, rfl, hi', ρ5, g5, e5, s5, st3.trans st5⟩
      cases eb : sb ρ3 with
      | none => rw [eb] at e2; cases e2
      | some o3 =>
        rw [eb] at e2
        refine kb P g2 ρ3 σ4 H3 o3 _ s4 eb ?_
        cases o3 with
        | nx ρ5 => exact fun g5 σ5 H5 st5 s5 => again e2 st5 s5
        | ct ρ5 => exact fun g5 σ5 H5 st5 s5 => again e2 st5 s5
        | rt d =>
          cases e2
          exact wantS_sub (D := De) (sc := sc) (sc' := { sc with LL := n :: (labs ++ sc.LL), Γc := Γ }) subL rfl rfl rfl s.loc (st1.trans (st3.sub subL)) w (.inl ⟨d, rfl⟩) Γ
        | ex c ρ5 =>
          cases e2
          exact wantS_sub (D := De) (sc := sc) (sc' := { sc with LL := n :: (labs ++ sc.LL), Γc := Γ }) subL rfl rfl rfl s.loc (st1.trans (st3.sub subL)) w (.inr ⟨c, ρ5, rfl⟩) Γ
  · have : i = ds.length := by omega
    subst this
    refine .inl ⟨wstop, ?_⟩
    rw [List.drop_length] at e2
    cases e2
    obtain ⟨h1, h2⟩ := back st2 s2
    exact w g2 σ2 H2 h1 h2
theorem sx_for {iter tg : Expr} {body : List Stmt} {si : List D → Option (List D)} {t : Tv} {sb : Sv} {labs : List Nat} {me : Md} {S : List Nat} (n : Nat) (hc : X.calm = true) (hp : PassesOwn (model X.prog X.w) X.A X.env X.xe)
    (hi : EI X sc.LL Γ tg iter si labs me) (hg : EG X Γ tg (me.kindI n) t Γ1 S) (hb : SS X W { sc with LL := n :: (labs ++ sc.LL), Γc := Γ } Γ1 body sb Γ)
    (hs : ∀ x, foldedSetIterable iter X.env x = pure x := by intro _; rfl) (hn : n ≠ 0 := by decide) : SX X W sc Γ (.For tg iter body [] pos) (sFor si t sb) Γ := by
  obtain ⟨wi, pi, ki⟩ := hi
  obtain ⟨tgt, pg, kg⟩ := hg
  obtain ⟨tb, pb, kb⟩ := hb
  refine ⟨_, ps_for hp hc pi pg pb hs, fun P g ρ σ H o De s e w => ?_⟩
  obtain ⟨ds, e1, e⟩ := bind_some e
  exact for_run kg kb hn s (fun R q => ki P g ρ σ H ds R s e1 fun J H' x _ it => q J H' x it) e w
end
end VV

/-! ## VComp -/
namespace VV
open PySem PySem.Spec PyProof.Rows L2

/-! ### while -/
def whileL (c : List D → Option Bool) (b : Sv) : Nat → List D → Option Out
  | 0, _ => none
  | k + 1, ρ => match c ρ with
    | none => none
    | some false => some (.nx ρ)
    | some true => match b ρ with
      | some (.nx ρ2) => whileL c b k ρ2
      | some (.ct ρ2) => whileL c b k ρ2
      | o => o
def fuel : Nat := 1000000000
def sWhile (c : List D → Option Bool) (b : Sv) : Sv := fun ρ => whileL c b fuel ρ
theorem whileL_mono {c : List D → Option Bool} {b : Sv} {o : Out} : ∀ {n : Nat} {ρ : List D}, whileL c b n ρ = some o → ∀ {m : Nat}, n ≤ m → whileL c b m ρ = some o
  | 0, _, h, _, _ => by cases h
  | n + 1, ρ, h, 0, hm => by omega
  | n + 1, ρ, h, m + 1, hm => by
    unfold whileL at h ⊢
    cases hc : c ρ with
    | none => rw [hc] at h; cases h
    | some k =>
      rw [hc] at h
      cases k with
      | false => exact h
      | true =>
        dsimp only at h ⊢
        cases hb : b ρ with
        | none => rw [hb] at h; cases h
        | some o' =>
          rw [hb] at h
          cases o' with
          | nx ρ2 => exact whileL_mono h (by omega)
          | ct ρ2 => exact whileL_mono h (by omega)
          | rt d => exact h
          | ex c' ρ2 => exact h
section
variable {X : Cx} {W : L2.WX} {sc : Sc} {Γ Γ1 : List Kd} {pos : Pos}
theorem sx_while {c : Expr} {body : List Stmt} {s : List D → Option Bool} {sb : Sv} (hp : PassesOwn (model X.prog X.w) X.A X.env X.xe) (hc : ET X sc.LL Γ c s) (hb : SS X W { sc with Γc := Γ } Γ body sb Γ) : SX X W sc Γ (.While c body [] pos) (sWhile s sb) Γ := by
  obtain ⟨tc, pc, kc⟩ := hc
  obtain ⟨tb, pb, kb⟩ := hb
  refine ⟨_, ps_while hp pc pb, fun P g ρ σ H o De st e w => ?_⟩
  refine ⟨fun m σ' H' => ∃ ρ' g', whileL s sb m ρ' = some o ∧ Sta X.vm P sc.LL Γ g' ρ' σ' H' ∧ Step sc.LL g H g' H', ⟨fuel, ρ, g, e, st, .refl⟩, ?_⟩
  rintro m σ2 H2 ⟨ρ2, g2, e2, s2, st2⟩
  cases m with
  | zero => cases e2
  | succ k =>
    unfold whileL at e2
    cases h : s ρ2 with
    | none => rw [h] at e2; cases e2
    | some b =>
      rw [h] at e2
      refine kc P g2 ρ2 σ2 H2 b _ s2 h fun H3 x3 => ?_
      cases b with
      | false =>
        cases e2
        exact iteF (w g2 σ2 H3 (st2.trans (.ext x3)) (s2.ext x3))
      | true =>
        dsimp only at e2
        refine iteT ⟨fun σ' H' => ∃ m', m' < k + 1 ∧ ∃ ρ' g', whileL s sb m' ρ' = some o ∧ Sta X.vm P sc.LL Γ g' ρ' σ' H' ∧ Step sc.LL g H g' H', fun σ' H' h => h, ?_⟩
        cases eb : sb ρ2 with
        | none => rw [eb] at e2; cases e2
        | some o3 =>
          rw [eb] at e2
          refine kb P g2 ρ2 σ2 H3 o3 _ (s2.ext x3) eb ?_
          have st3 : Step sc.LL g H g2 H3 := st2.trans (.ext x3)
          cases o3 with
          | nx ρ5 => exact fun g5 σ5 H5 st5 s5 => ⟨k, Nat.lt_succ_self k, ρ5, g5, e2, s5, st3.trans st5⟩
          | ct ρ5 => exact fun g5 σ5 H5 st5 s5 => ⟨k, Nat.lt_succ_self k, ρ5, g5, e2, s5, st3.trans st5⟩
          | rt d => cases e2; exact fun v g' H' s' l r => w v g' H' (st3.trans s') l r
          | ex c' ρ5 => cases e2; exact fun C g' σ' H' m s' st' => w C g' σ' H' m (st3.trans s') st'
end

/-! ### list comprehensions -/
def lcL (t : Tv) (c : List D → Option Bool) (e : Ev) (ρ : List D) : List D → Option (List D)
  | [] => some []
  | x :: xs => do
    let ρ1 ← t x ρ
    let b ← c ρ1
    if b then do
      let y ← e ρ1
      let r ← lcL t c e ρ xs
      some (y :: r)
    else lcL t c e ρ xs
def eLc (it : List D → Option (List D)) (t : Tv) (c : List D → Option Bool) (e : Ev) : Ev := fun ρ => do
  let xs ← it ρ
  let ys ← lcL t c e ρ xs
  some (.lst ys)
def wipeK (Γ : List Kd) : List Nat → List Kd
  | [] => Γ
  | v :: vs => (wipeK Γ vs).set v .dead
theorem Cells.kill {mg : Mg} {P : Fm} {g : Addr → Nat} {H : Hp} {ov : Option V} : ∀ {Γ : List Kd} {ρ : List D} {σ : L2.St} (i : Nat), Cells mg P g H Γ ρ σ → Cells mg P g H (Γ.set i .dead) ρ (σ.set i ov)
  | [], [], [], _, _ => trivial
  | _ :: _, _ :: _, _ :: _, 0, h => ⟨trivial, h.2⟩
  | _ :: _, _ :: _, _ :: _, i + 1, h => ⟨h.1, Cells.kill i h.2⟩
  | [], _ :: _, _, _, h => h.elim
  | [], [], _ :: _, _, h => h.elim
  | _ :: _, [], _, _, h => h.elim
  | _ :: _, _ :: _, [], _, h => h.elim
theorem Cells.wipe {mg : Mg} {P : Fm} {g : Addr → Nat} {H : Hp} {Γ : List Kd} {ρ : List D} {σ : L2.St} (h : Cells mg P g H Γ ρ σ) : ∀ vs : List Nat, Cells mg P g H (wipeK Γ vs) ρ (wipe σ vs)
  | [] => h
  | v :: vs => Cells.kill v (Cells.wipe h vs)
def Md.lc : Md → Md
  | .flat => .al false .new [] true
  | .al _ .new [] nd => .al true .new [] nd
  | .al _ rt L _ => .al true .new (match rt with | .old n => n :: L | _ => L) false
theorem lcL_cons {t : Tv} {c : List D → Option Bool} {e : Ev} {ρ : List D} {x : D} {xs ys : List D} (h : lcL t c e ρ (x :: xs) = some ys) : ∃ ρ1 b, t x ρ = some ρ1 ∧ c ρ1 = some b ∧ ((b = true ∧ ∃ y r, e ρ1 = some y ∧ lcL t c e ρ xs = some r ∧ ys = y :: r) ∨ (b = false ∧ lcL t c e ρ xs = some ys)) := by
  unfold lcL at h
  obtain ⟨ρ1, h1, h⟩ := bind_some h
  obtain ⟨b, h2, h⟩ := bind_some h
  refine ⟨ρ1, b, h1, h2, ?_⟩
  cases b with
  | true =>
    simp only [if_true] at h
    obtain ⟨y, h3, h⟩ := bind_some h
    obtain ⟨r, h4, h⟩ := bind_some h
    cases h
    exact .inl ⟨rfl, y, r, h3, h4, rfl⟩
  | false => exact .inr ⟨rfl, by simpa using h⟩
/-- the nodes of what is made so far, seen from H -/
def AccOk (P : Fm) (g : Addr → Nat) (H H' : Hp) : Md → List Addr → Prop
  | .flat, f => f = []
  | .al _ .new [] nd, f => (∀ a ∈ f, New H H' a) ∧ (nd = true → f.Nodup)
  | .al _ rt L _, f => ∀ a ∈ f, New H H' a ∨ Old P g (match rt with | .old n => n :: L | _ => L) a
theorem AccOk.ext {P : Fm} {g : Addr → Nat} {H H1 H2 : Hp} {m : Md} {f : List Addr} (h : AccOk P g H H1 m f) (e : ∀ a ∈ f, ∀ u, H1 a = some u → H2 a = some u) : AccOk P g H H2 m f := by
  have ne : ∀ a ∈ f, New H H1 a → New H H2 a := fun a ha n => ⟨n.1, mut_of n.2 (e a ha)⟩
  cases m with
  | flat => exact h
  | al fr rt L nd =>
    cases rt with
    | new =>
      cases L with
      | nil => exact ⟨fun a ha => ne a ha (h.1 a ha), h.2⟩
      | cons x r => exact fun a ha => (h a ha).imp (ne a ha) id
    | old n => exact fun a ha => (h a ha).imp (ne a ha) id
    | unk => exact fun a ha => (h a ha).imp (ne a ha) id
theorem AccOk.nil {P : Fm} {g : Addr → Nat} {H H1 : Hp} {m : Md} : AccOk P g H H1 m [] := by
  cases m with
  | flat => rfl
  | al fr rt L nd =>
    cases rt with
    | new =>
      cases L with
      | nil => exact ⟨(fun a ha => nomatch ha), fun _ => List.nodup_nil⟩
      | cons x r => exact fun a ha => nomatch ha
    | old n => exact fun a ha => nomatch ha
    | unk => exact fun a ha => nomatch ha
/-- one more: its value was told from H1, where all of f stood -/
theorem AccOk.add {mg : Mg} {P : Fm} {LL : List Nat} {g g' : Addr → Nat} {H H1 H2 : Hp} {m : Md} {f : List Addr} {d : D} {v : V} (h : AccOk P g H H2 m f) (th : ∀ a ∈ f, H1 a ≠ none) (e : Ext H H1) (e2 : Ext H1 H2) (w : Val mg P g' H1 H2 m d v)
    (l : Loc P LL g H) (hg : ∀ a, H a ≠ none → g' a = g a) (hn : ∀ a L, H a = none → Old P g' L a → New H H2 a) : ∃ f', Rep mg H2 d v f' ∧ AccOk P g H H2 m (f ++ f') ∧ ∀ a ∈ f', New H1 H2 a ∨ ∃ L, Old P g' L a := by
  have old : ∀ {L : List Nat} {a : Addr}, Old P g' L a → New H H2 a ∨ Old P g L a := fun {L a} o => by
    by_cases h0 : H a = none
    · exact .inl (hn a L h0 o)
    · right
      unfold Old at o ⊢
      rw [hg a h0] at o
      exact o
  cases m with
  | flat =>
    obtain rfl : f = [] := h
    exact ⟨[], w, rfl, (fun a ha => nomatch ha)⟩
  | al fr rt L nd =>
    obtain ⟨f', r, o, z⟩ := w
    have last : ∀ a ∈ f', New H1 H2 a ∨ ∃ L, Old P g' L a := fun a ha => by
      rcases o a ha with ⟨_, y⟩ | ⟨_, ⟨_, y⟩ | y⟩
      · cases rt with
        | new => exact .inl y
        | old n => exact .inr ⟨_, y⟩
        | unk => exact y.elim
      · exact .inl y
      · exact .inr ⟨_, y⟩
    suffices hh : AccOk P g H H2 (.al fr rt L nd) (f ++ f') from ⟨f', r, hh, last⟩
    cases rt with
    | new =>
      cases L with
      | nil =>
        have nw : ∀ a ∈ f', New H1 H2 a := fun a ha => by
          rcases o a ha with ⟨_, y⟩ | ⟨_, ⟨_, y⟩ | y⟩
          · exact y
          · exact y
          · cases y.1
        refine ⟨fun a ha => ?_, fun hnd => List.nodup_append.mpr ⟨h.2 hnd, z.1 hnd, ?_⟩⟩
        · rcases List.mem_append.mp ha with ha | ha
          · exact h.1 a ha
          · exact (nw a ha).back e
        · intro a ha b hb hab
          subst hab
          exact th a ha (nw a hb).1
      | cons x rL =>
        intro a ha
        rcases List.mem_append.mp ha with ha | ha
        · exact h a ha
        · rcases o a ha with ⟨_, y⟩ | ⟨_, ⟨_, y⟩ | y⟩
          · exact .inl (New.back y e)
          · exact .inl (y.back e)
          · exact old y
    | old n =>
      intro a ha
      rcases List.mem_append.mp ha with ha | ha
      · exact h a ha
      · rcases o a ha with ⟨_, y⟩ | ⟨_, ⟨_, y⟩ | y⟩
        · refine old ⟨?_, y.2⟩
          rw [List.mem_singleton.mp y.1]
          exact List.mem_cons_self
        · exact .inl (y.back e)
        · exact old ⟨List.mem_cons_of_mem _ y.1, y.2⟩
    | unk =>
      intro a ha
      rcases List.mem_append.mp ha with ha | ha
      · exact h a ha
      · rcases o a ha with ⟨_, y⟩ | ⟨_, ⟨_, y⟩ | y⟩
        · exact y.elim
        · exact .inl (y.back e)
        · exact old y
theorem AccOk.val {mg : Mg} {P : Fm} {g : Addr → Nat} {H H2 : Hp} {m : Md} {f : List Addr} {ds : List D} {vs : List V} {p : Addr} (h : AccOk P g H H2 m f) (r : RepL mg H2 ds vs f) (hp : H2 p = some (.lst vs)) (hn : H p = none) (hf : p ∉ f) : Val mg P g H H2 m.lc (.lst ds) (.ref p) := by
  have nw : New H H2 p := ⟨hn, by rw [hp]; trivial⟩
  have rr : Rep mg H2 (.lst ds) (.ref p) (p :: f) := by
    simp only [Rep]
    exact ⟨p, vs, f, rfl, hp, r, rfl⟩
  have gen : ∀ (L : List Nat), (∀ a ∈ f, New H H2 a ∨ Old P g L a) → ∀ nd : Bool, (nd = true → f.Nodup) → Val mg P g H H2 (.al true .new L nd) (.lst ds) (.ref p) := fun L hh nd hnd => by
    refine ⟨p :: f, rr, fun a ha => ?_, .cons hf hnd⟩
    rcases List.mem_cons.mp ha with rfl | ha
    · exact .inl ⟨rfl, nw⟩
    · exact .inr ⟨.inl fun e => by cases e; exact hf ha, (hh a ha).imp (fun y => ⟨rfl, y⟩) id⟩
  cases m with
  | flat =>
    obtain rfl : f = [] := h
    refine ⟨[p], rr, fun a ha => ?_, .of (by simp)⟩
    rw [List.mem_singleton.mp ha]
    exact .inl ⟨rfl, nw⟩
  | al fr rt L nd =>
    cases rt with
    | new =>
      cases L with
      | nil => exact gen [] (fun a ha => .inl (h.1 a ha)) nd h.2
      | cons x r => exact gen _ h false fun z => nomatch z
    | old n => exact gen _ h false fun z => nomatch z
    | unk => exact gen _ h false fun z => nomatch z

theorem RepL.updL {mg : Mg} {H : Hp} {a : Addr} {o : HO} {us : List V} {ds : List D} {vs : List V} {f : List Addr} (h : RepL mg H ds vs f) (hn : a ∉ f) (ha : H a = some (.lst us)) : RepL mg (upd H a o) ds vs f := by
  refine h.keep (fun b hb => ?_) ⟨fun b xs r => ?_, fun b o vs r => ?_, fun b o vs r => ?_⟩
  · have : b ≠ a := fun z => hn (by rw [← z]; exact hb)
    exact ⟨fun u _ r => by unfold Rd at r ⊢; rw [upd_ne this]; exact r, fun vs r => by rw [upd_ne this]; exact r⟩
  · have : b ≠ a := fun z => by
      rw [z, ha] at r
      cases r
    rw [upd_ne this]
    exact r
  · have : b ≠ a := fun z => by rw [z, ha] at r; cases r
    rw [upd_ne this]
    exact r
  · have : b ≠ a := fun z => by rw [z, ha] at r; cases r
    rw [upd_ne this]
    exact r
section
variable {X : Cx} {W : L2.WX} {LL : List Nat} {Γ Γ1 : List Kd} {pos : Pos}
/-- the reading of a comprehension -/
theorem lc_read {mg : Mg} {wi : TI} {own : List (Str × Nat)} {si : List D → Option (List D)} {t : Tv} {c : List D → Option Bool} {se : Ev} {labs : List Nat} {me m2 : Md} {S : List Nat} {n : Nat} (hn : n ≠ 0) (hS : ∀ i ∈ S, i ∈ own.map (·.2))
    {P : Fm} {g : Addr → Nat} {ρ : List D} {σ : L2.St} {H : Hp} {d : D} {Q : VK} (s : Sta mg P LL Γ g ρ σ H) (e : eLc si t c se ρ = some d)
    (ki : ∀ ds (R : It → Hp → Prop), si ρ = some ds → (∀ J H', Ext H H' → ds.length ≤ sizeLine → Iter mg P g H H' J labs me ds → R J H') → wi σ H R)
    (q : ∀ v H', Ext H H' → Val mg P g H H' m2.lc d v → Q v H') :
    tLc wi (canG mg (wipeK Γ (own.map (·.2))) (me.kindI n) t Γ1 S) (canB mg LL Γ1 c) (canT mg LL Γ1 se m2) (own.map (·.2)) σ H Q := by
  obtain ⟨ds, e1, e⟩ := bind_some e
  obtain ⟨ys, e2, e⟩ := bind_some e
  cases e
  refine ki ds _ e1 fun J H1 x1 hz it => ?_
  obtain ⟨fpI, lb, walk⟩ := it
  intro Dp hD
  have s1 : Sta mg P LL Γ (relab g H H1 .non n n) ρ σ H1 := s.relab x1
  have hg1 : ∀ a, H a ≠ none → relab g H H1 .non n n a = g a := fun a h => relab_old h
  generalize eg1 : relab g H H1 .non n n = g1 at s1 hg1
  refine ⟨fun i m Hc => m = ds.length - i ∧ i ≤ ds.length ∧ ∃ done rest vs f, ys = done ++ rest ∧ lcL t c se ρ (ds.drop i) = some rest ∧ Hc Dp = some (.lst vs) ∧ vs.length ≤ i ∧ RepL mg Hc done vs f ∧ Dp ∉ f ∧ AccOk P g H Hc m2 f ∧ Ext H1 Hc,
    ⟨ds.length, rfl, Nat.zero_le _, [], ys, [], [], rfl, e2, upd_same, Nat.le_refl _, by simp [RepL], by simp, .nil, Ext.put hD⟩, ?_⟩
  rintro i m Hc ⟨rfl, hil, done, rest, vs, f, rfl, e3, hDc, hlen, rl, nD, acc, xc⟩
  obtain ⟨wk, wstop⟩ := walk Hc (xc.kept _)
  by_cases hi' : i < ds.length
  · refine .inr ?_
    obtain ⟨go, yl⟩ := wk i ds[i] (List.getElem?_eq_getElem hi')
    rw [List.drop_eq_getElem_cons hi'] at e3
    obtain ⟨ρ1, b, et, ec, hb⟩ := lcL_cons e3
    refine ⟨go, fun H' => ∃ m', m' < ds.length - i ∧ (m' = ds.length - (i + 1) ∧ i + 1 ≤ ds.length ∧ ∃ done' rest' vs f, done ++ rest = done' ++ rest' ∧ lcL t c se ρ (ds.drop (i + 1)) = some rest' ∧ H' Dp = some (.lst vs) ∧ vs.length ≤ i + 1 ∧ RepL mg H' done' vs f ∧ Dp ∉ f ∧ AccOk P g H H' m2 f ∧ Ext H1 H'), fun H' h => h, fun x H3 y => ?_⟩
    obtain ⟨x3, fx, r, of, sub⟩ := yl x H3 y
    have x13 : Ext H1 H3 := xc.trans x3
    have s3 : Sta mg P LL (wipeK Γ (own.map (·.2))) g1 ρ (wipe σ (own.map (·.2))) H3 := ⟨s1.loc.ext x13, Cells.wipe (s1.ext x13).cells _⟩
    refine ⟨P, LL, g1, ρ, ds[i], ρ1, s3, fps_cell s.loc r of hn (fun a ha => by rw [eg1]), et, fun σ4 s4 w4 => ⟨?_, ?_⟩⟩
    · rw [w4 _ hS]
      -- wiping twice
      apply List.ext_getElem?
      intro j
      rw [wipe_get, wipe_get]
      split
      · cases σ[j]? <;> rfl
      · rfl
    refine ⟨P, g1, ρ1, b, s4, ec, fun H4 x4 => ?_⟩
    have x34 : Ext Hc H4 := x3.trans x4
    rcases hb with ⟨rfl, y', r', ey, er, rfl⟩ | ⟨rfl, er⟩
    · refine iteT ⟨P, g1, ρ1, y', s4.ext x4, ey, fun v5 H5 x5 w5 => ?_⟩
      have x35 : Ext Hc H5 := x34.trans x5
      have hD5 : H5 Dp = some (.lst vs) := x35 _ _ hDc
      have x05 : Ext H H4 := x1.trans (xc.trans x34)
      obtain ⟨f', rf', acc', last⟩ := AccOk.add (mg := mg) (LL := LL) (acc.ext fun a ha u h => x35 a u h) (fun a ha z => rl.there a ha (x34.nope z)) x05 x5 w5 s.loc hg1 fun a L h0 o => by
        refine ⟨h0, ?_⟩
        by_cases hz0 : g1 a = 0
        · exact absurd h0 (s.loc.out a (o.2 hz0))
        · obtain ⟨u, eu, mu | fu⟩ := s1.loc.at_ a hz0
          · have := (xc.trans (x34.trans x5)) a u eu
            rw [this]; exact mu
          · exact absurd h0 (s.loc.fzn fu)
      have hDf' : Dp ∉ f' := fun hm => by
        rcases last Dp hm with y | ⟨L, y⟩
        · have := y.1
          rw [x34 _ _ hDc] at this
          cases this
        · exact y.there s1.loc hD
      have nDf : Dp ∉ f ++ f' := fun hm => (List.mem_append.mp hm).elim nD hDf'
      refine ⟨vs, hD5, Nat.lt_of_le_of_lt hlen (Nat.lt_of_lt_of_le hi' hz), _, by omega, rfl, hi', done ++ [y'], r', vs ++ [v5], f ++ f', by simp, er, upd_same, by simp; omega, ?_, nDf, ?_, ?_⟩
      · exact ((rl.ext x35).append (.one rf')).updL nDf hD5
      · exact acc'.ext fun a ha u h => by rw [upd_ne (fun z => nDf (by rw [← z]; exact ha))]; exact h
      · intro a u h
        rw [upd_ne (ne_of_none h hD)]
        exact x35 a u (xc a u h)
    · refine iteF ⟨_, by omega, rfl, hi', done, rest, vs, f, rfl, er, x34 _ _ hDc, Nat.le_succ_of_le hlen, rl.ext x34, nD, acc.ext fun a ha u h => x34 a u h, xc.trans x34⟩
  · have : i = ds.length := by omega
    subst this
    refine .inl ⟨wstop, ?_⟩
    rw [List.drop_length] at e3
    cases e3
    have w := acc.val rl hDc (x1.nope hD) nD
    rw [← List.append_nil done] at w
    exact q _ Hc (x1.trans xc) w
theorem ex_lc {elt tg iter : Expr} {ifs : List Expr} {scope : Scope} {own : List (Str × Nat)} {si : List D → Option (List D)} {t : Tv} {c : List D → Option Bool} {se : Ev} {labs : List Nat} {me m2 : Md} {S : List Nat} (n : Nat)
    (hc : X.calm = true) (hN : X.N.Nodup) (hi : EI X LL Γ tg iter si labs me) (ok : BlkOk X.N X.env.scope scope own)
    (hg : ∀ (s : Shared) (H : Hp) (C : Addr) (cl : List (Str × Addr)) (fp : List Addr), EG (X.blk s H scope (compEnvC scope cl C X.env) fp) (wipeK Γ (own.map (·.2))) tg (me.kindI n) t Γ1 S)
    (ht : ∀ (s : Shared) (H : Hp) (C : Addr) (cl : List (Str × Addr)) (fp : List Addr), ETs (X.blk s H scope (compEnvC scope cl C X.env) fp) LL Γ1 ifs c)
    (he : ∀ (s : Shared) (H : Hp) (C : Addr) (cl : List (Str × Addr)) (fp : List Addr), EX (X.blk s H scope (compEnvC scope cl C X.env) fp) LL Γ1 elt se m2)
    (hS : ∀ i ∈ S, i ∈ own.map (·.2) := by decide) (hs : ∀ x, foldedSetIterable iter X.env x = pure x := by intro _; rfl) (hn : n ≠ 0 := by decide) :
    EX X LL Γ (.ListComp elt [⟨tg, iter, ifs, 0⟩] scope pos) (eLc si t c se) m2.lc := by
  obtain ⟨wi, pi, ki⟩ := hi
  refine ⟨_, pe_lc (g := canG X.vm (wipeK Γ (own.map (·.2))) (me.kindI n) t Γ1 S) (tt := canB X.vm LL Γ1 c) (te := canT X.vm LL Γ1 se m2) hc hN pi ok (fun s H C cl fp => eg_can (hg s H C cl fp)) (fun s H C cl fp => ets_can (ht s H C cl fp)) (fun s H C cl fp => ex_can (he s H C cl fp)) hs, fun P g ρ σ H d Q s e q => ?_⟩
  exact lc_read hn hS s e (fun ds R h => ki P g ρ σ H ds R s h) q
theorem sx_setLc {i : Nat} {y : Str} {py : Pos} {spos : Pos} {sc : Sc} {elt tg iter : Expr} {ifs : List Expr} {scope : Scope} {own : List (Str × Nat)} {si : List D → Option (List D)} {t : Tv} {c : List D → Option Bool} {se : Ev} {labs : List Nat} {me m2 : Md} {S : List Nat} (n n' k' : Nat)
    (hc : X.calm = true) (hN : X.N.Nodup) (hy : X.N[i]? = some y) (hyl : X.env.scope.names.lookup y = some .local)
    (hsw : swapsWith (.ListComp elt [⟨tg, iter, ifs, 0⟩] scope pos) (some (.Name y py)) spos.line X.env = pure true) (hi : EI X sc.LL Γ tg iter si labs me) (ok : BlkOk X.N X.env.scope scope own)
    (hg : ∀ (s : Shared) (H : Hp) (C : Addr) (cl : List (Str × Addr)) (fp : List Addr), EG (X.blk s H scope (compEnvC scope cl C X.env) fp) (wipeK Γ (own.map (·.2))) tg (me.kindI n) t Γ1 S)
    (ht : ∀ (s : Shared) (H : Hp) (C : Addr) (cl : List (Str × Addr)) (fp : List Addr), ETs (X.blk s H scope (compEnvC scope cl C X.env) fp) sc.LL Γ1 ifs c)
    (he : ∀ (s : Shared) (H : Hp) (C : Addr) (cl : List (Str × Addr)) (fp : List Addr), EX (X.blk s H scope (compEnvC scope cl C X.env) fp) sc.LL Γ1 elt se m2)
    (hS : ∀ i ∈ S, i ∈ own.map (·.2) := by decide) (hs : ∀ x, foldedSetIterable iter X.env x = pure x := by intro _; rfl) (hn : n ≠ 0 := by decide) (h1 : n' ≠ 0 := by decide) (h2 : k' ≠ 0 := by decide) :
    SX X W sc Γ (.Assign [.Name y py] (.ListComp elt [⟨tg, iter, ifs, 0⟩] scope pos) spos) (sSet i (eLc si t c se)) (Γ.set i (m2.lc.kind n' k')) := by
  obtain ⟨wi, pi, ki⟩ := hi
  refine ⟨_, ps_setLc (g := canG X.vm (wipeK Γ (own.map (·.2))) (me.kindI n) t Γ1 S) (tt := canB X.vm sc.LL Γ1 c) (te := canT X.vm sc.LL Γ1 se m2) hc hN hy hyl hsw pi ok (fun s H C cl fp => eg_can (hg s H C cl fp)) (fun s H C cl fp => ets_can (ht s H C cl fp)) (fun s H C cl fp => ex_can (he s H C cl fp)) hs, fun P g ρ σ H o De s e w => ?_⟩
  obtain ⟨d, e1, e⟩ := bind_some e
  cases e
  refine lc_read hn hS s e1 (fun ds R h => ki P g ρ σ H ds R s h) fun v H' x vl => ?_
  exact w (relab g H H' v n' k') _ H' (.relab x) ⟨s.loc.relab x, Cells.set i (s.cells.relab s.loc x) (vl.cell s.loc h1 h2)⟩
end
end VV

/-! ## VList -/
namespace VV
open PySem PySem.Spec PyProof.Rows L2

/-! ### parts of lists -/
section
variable {mg : Mg} {H : Hp}
theorem RepL.splitAt : ∀ {ds : List D} {vs : List V} {f : List Addr} (n : Nat), RepL mg H ds vs f → ∃ f1 f2, f = f1 ++ f2 ∧ RepL mg H (ds.take n) (vs.take n) f1 ∧ RepL mg H (ds.drop n) (vs.drop n) f2
  | ds, vs, f, 0, h => ⟨[], f, rfl, by simp [RepL], by simpa using h⟩
  | [], _, _, n + 1, h => by
    simp only [RepL] at h
    obtain ⟨rfl, rfl⟩ := h
    exact ⟨[], [], rfl, by simp [RepL], by simp [RepL]⟩
  | d :: ds, _, _, n + 1, h => by
    simp only [RepL] at h
    obtain ⟨v, r, f1, f2, rfl, h1, h2, rfl⟩ := h
    obtain ⟨g1, g2, rfl, a, b⟩ := RepL.splitAt n h2
    refine ⟨f1 ++ g1, g2, by simp, ?_, by simpa using b⟩
    simp only [List.take_succ_cons, RepL]
    exact ⟨v, _, f1, g1, rfl, h1, a, rfl⟩
def cutG {α : Type} (xs : List α) (lo hi : Option Int) : List α := (xs.drop (HT.sIx xs.length 0 lo)).take (HT.sIx xs.length xs.length hi - HT.sIx xs.length 0 lo)
theorem RepL.cut {ds : List D} {vs : List V} {f : List Addr} (lo hi : Option Int) (h : RepL mg H ds vs f) : ∃ f1 f' f2, f = f1 ++ f' ++ f2 ∧ RepL mg H (cutG ds lo hi) (cutV vs lo hi) f' := by
  unfold cutG cutV
  rw [h.length]
  obtain ⟨f1, g, rfl, _, b⟩ := h.splitAt (HT.sIx ds.length 0 lo)
  obtain ⟨g1, g2, rfl, c, _⟩ := b.splitAt (HT.sIx ds.length ds.length hi - HT.sIx ds.length 0 lo)
  exact ⟨f1, g1, g2, by simp, c⟩
theorem RepL.flats : ∀ {ds : List D} {vs : List V} {f : List Addr}, RepL mg H ds vs f → D.isFlatL ds = true → RepL mg H ds vs [] := fun h e => by
  have := h.flat e
  subst this
  exact h
theorem RepL.rep {ds : List D} {vs : List V} (h : RepL mg H ds vs []) : ∀ k : Nat, RepL mg H (List.replicate k ds).flatten (List.replicate k vs).flatten []
  | 0 => by simp [RepL]
  | k + 1 => by
    rw [List.replicate_succ, List.replicate_succ, List.flatten_cons, List.flatten_cons]
    exact h.append (RepL.rep h k)
end
/-- what a list or tuple has -/
theorem seq_of {mg : Mg} {P : Fm} {g : Addr → Nat} {H H1 : Hp} {m : Md} {l : List D} {v : V} (h : Val mg P g H H1 m (.lst l) v) : ∃ a vs, v = .ref a ∧ H1 a = some (.lst vs) ∧ vs.length = l.length ∧ (∀ lo hi, ValL mg P g H H1 m.child (cutG l lo hi) (cutV vs lo hi)) ∧ ValL mg P g H H1 m.child l vs := by
  obtain ⟨fp, r, o, lb, ch⟩ := h.labs
  simp only [Rep] at r
  obtain ⟨a, vs, f, rfl, ha, h2, rfl⟩ := r
  refine ⟨a, vs, rfl, ha, h2.length, fun lo hi => ?_, ?_⟩
  · obtain ⟨f1, f', f2, rfl, r'⟩ := h2.cut lo hi
    exact ⟨f', r', ch f' ⟨f1, f2, .inl ⟨a, rfl, rfl⟩⟩⟩
  · exact ⟨f, h2, ch f ⟨[], [], .inl ⟨a, rfl, by simp⟩⟩⟩
theorem seq_ofT {mg : Mg} {P : Fm} {g : Addr → Nat} {H H1 : Hp} {m : Md} {l : List D} {v : V} (h : Val mg P g H H1 m (.tup l) v) : ∃ a vs, v = .ref a ∧ H1 a = some (.tup vs) ∧ vs.length = l.length ∧ (∀ lo hi, ValL mg P g H H1 m.child (cutG l lo hi) (cutV vs lo hi)) ∧ ValL mg P g H H1 m.child l vs := by
  obtain ⟨fp, r, o, lb, ch⟩ := h.labs
  have r0 := r
  simp only [Rep] at r
  obtain ⟨a, vs, rfl, ha, h2⟩ := r
  have nt : ∀ b, V.ref a = .ref b → b ∉ fp := fun b e => by cases e; exact r0.notup (.inl ha)
  refine ⟨a, vs, rfl, ha, h2.length, fun lo hi => ?_, ?_⟩
  · obtain ⟨f1, f', f2, rfl, r'⟩ := h2.cut lo hi
    exact ⟨f', r', ch f' ⟨f1, f2, .inr ⟨rfl, nt⟩⟩⟩
  · exact ⟨fp, h2, ch fp ⟨[], [], .inr ⟨by simp, nt⟩⟩⟩
theorem seq_ofS {mg : Mg} {P : Fm} {g : Addr → Nat} {H H1 : Hp} {m : Md} {l : List D} {v : V} (h : Val mg P g H H1 m (.scr l) v) : ∃ a vs, v = .ref a ∧ ScrAt mg.K H1 a vs ∧ vs.length = l.length ∧ RepL mg H1 l vs [] := by
  obtain ⟨fp, r, _⟩ := h.labs
  simp only [Rep] at r
  obtain ⟨a, vs, rfl, ha, h2, _⟩ := r
  exact ⟨a, vs, rfl, ha, h2.length, h2⟩

/-! ### slices -/
def EO (X : Cx) (LL : List Nat) (Γ : List Kd) (e : Option Expr) (sem : List D → Option (Option Int)) : Prop :=
  ∃ t, PO X e t ∧ ∀ P g ρ σ H r Q, Sta X.vm P LL Γ g ρ σ H → sem ρ = some r → (∀ H', Ext H H' → Q r H') → t σ H Q
def oNone : List D → Option (Option Int) := fun _ => some none
def oSome (s : Ev) : List D → Option (Option Int) := fun ρ => do match (← s ρ) with
  | .int i => some (some i)
  | _ => none
def dSl : D → Option Int → Option Int → Option D
  | .lst l, lo, hi => some (.lst (cutG l lo hi))
  | .scr l, lo, hi => some (.lst (cutG l lo hi))
  | .tup l, lo, hi => some (.tup (cutG l lo hi))
  | .str z, lo, hi => if z.length ≤ sizeLine then some (.str (cutS z lo hi)) else none
  | _, _, _ => none
def eSl (s : Ev) (lo hi : List D → Option (Option Int)) : Ev := fun ρ => do
  let d ← s ρ
  let l ← lo ρ
  let h ← hi ρ
  dSl d l h
section
variable {X : Cx} {LL : List Nat} {Γ : List Kd} {pos p2 : Pos} {e : Expr} {se : Ev} {m : Md} {lo hi : Option Expr} {sl sh : List D → Option (Option Int)}
theorem eo_none : EO X LL Γ none oNone := ⟨_, po_none, fun P g ρ σ H r Q s e q => by cases e; exact q H Ext.refl⟩
theorem eo_some (h : EX X LL Γ e se m) : EO X LL Γ (some e) (oSome se) := by
  obtain ⟨t, p, k⟩ := h
  refine ⟨_, po_some p, fun P g ρ σ H r Q s e q => ?_⟩
  obtain ⟨d, e1, e⟩ := bind_some e
  refine k P g ρ σ H d _ s e1 fun v H' x w => ?_
  obtain ⟨fp, rr, _⟩ := w.labs
  split at e
  · cases e
    obtain rfl := rInt rr
    exact ⟨_, rfl, q H' x⟩
  · cases e
theorem slice_parts (he : EX X LL Γ e se m) (hl : EO X LL Γ lo sl) (hh : EO X LL Γ hi sh) : ∃ te tl th, PE X e te ∧ PO X lo tl ∧ PO X hi th ∧ ∀ (P : Fm) g ρ σ H (Q : V → Option Int → Option Int → Hp → Prop) d l h, Sta X.vm P LL Γ g ρ σ H → se ρ = some d → sl ρ = some l → sh ρ = some h →
    (∀ v H', Ext H H' → Val X.vm P g H H' m d v → Q v l h H') → te σ H fun x H1 => tl σ H1 fun l H2 => th σ H2 fun u H3 => Q x l u H3 := by
  obtain ⟨te, pe, ke⟩ := he
  obtain ⟨tl, pl, kl⟩ := hl
  obtain ⟨th, ph, kh⟩ := hh
  refine ⟨te, tl, th, pe, pl, ph, fun P g ρ σ H Q d l h s e1 e2 e3 q => ?_⟩
  refine ke P g ρ σ H d _ s e1 fun v H1 x1 w => ?_
  refine kl P g ρ σ H1 l _ (s.ext x1) e2 fun H2 x2 => ?_
  refine kh P g ρ σ H2 h _ (s.ext (x1.trans x2)) e3 fun H3 x3 => ?_
  exact q v H3 (x1.trans (x2.trans x3)) (w.ext (x2.trans x3))
/-- of a list -/
theorem ex_slL (he : EX X LL Γ e se m) (hl : EO X LL Γ lo sl) (hh : EO X LL Γ hi sh) : EX X LL Γ (.Subscript e (.Slice lo hi none p2) pos) (eSl (eChk D.isLst se) sl sh) m.child.lst := by
  obtain ⟨te, tl, th, pe, pl, ph, k⟩ := slice_parts he hl hh
  refine ⟨_, pe_slice sl_list pe pl ph, fun P g ρ σ H d Q s e q => ?_⟩
  obtain ⟨d0, e1, e⟩ := bind_some e
  obtain ⟨l, e2, e⟩ := bind_some e
  obtain ⟨h, e3, e⟩ := bind_some e
  obtain ⟨e1, hc⟩ := Option.filter_eq_some_iff.mp e1
  refine k P g ρ σ H (fun x l u H3 => rSlL X.K x l u H3 Q) d0 l h s e1 e2 e3 fun v H' x w => ?_
  cases d0 with
  | lst ds =>
    cases e
    obtain ⟨a, vs, rfl, ha, _, cut, _⟩ := seq_of w
    exact ⟨a, vs, rfl, SqL.of ha, fun p hp => q _ _ (x.trans (Ext.put hp)) (val_lst (cut l h) x hp)⟩
  | _ => cases hc
/-- a tuple that stands already -/
theorem val_tup_at {mg : Mg} {P : Fm} {g : Addr → Nat} {H H1 : Hp} {m : Md} {ds : List D} {vs : List V} {p : Addr} (h : ValL mg P g H H1 m ds vs) (hp : H1 p = some (.tup vs)) : Val mg P g H H1 m.tup (.tup ds) (.ref p) := by
  obtain ⟨fp, r, q⟩ := h
  have rr : Rep mg H1 (.tup ds) (.ref p) fp := by
    simp only [Rep]
    exact ⟨p, vs, rfl, hp, r⟩
  cases m with
  | flat =>
    obtain rfl : fp = [] := q
    exact rr
  | al fr rt L nd => exact ⟨fp, rr, fun a ha => .inr ⟨.inr rfl, q.1 a ha⟩, .unk q.2⟩
theorem cutG_whole {α : Type} {l : List α} {lo hi : Option Int} (h : HT.sIx l.length 0 lo = 0 ∧ HT.sIx l.length l.length hi = l.length) : cutG l lo hi = l := by
  unfold cutG
  rw [h.1, h.2]
  simp
theorem ex_slT (he : EX X LL Γ e se m) (hl : EO X LL Γ lo sl) (hh : EO X LL Γ hi sh) : EX X LL Γ (.Subscript e (.Slice lo hi none p2) pos) (eSl (eChk D.isTup se) sl sh) m.child.tup := by
  obtain ⟨te, tl, th, pe, pl, ph, k⟩ := slice_parts he hl hh
  refine ⟨_, pe_slice sl_tupA pe pl ph, fun P g ρ σ H d Q s e q => ?_⟩
  obtain ⟨d0, e1, e⟩ := bind_some e
  obtain ⟨l, e2, e⟩ := bind_some e
  obtain ⟨h, e3, e⟩ := bind_some e
  obtain ⟨e1, hc⟩ := Option.filter_eq_some_iff.mp e1
  refine k P g ρ σ H (fun x l u H3 => rSlA X.K x l u H3 Q) d0 l h s e1 e2 e3 fun v H' x w => ?_
  cases d0 with
  | tup ds =>
    cases e
    obtain ⟨a, vs, rfl, ha, hlen, cut, whole⟩ := seq_ofT w
    refine ⟨a, vs, rfl, .inl (.inl ha), fun hw => ?_, fun hw p hp => q _ _ (x.trans (Ext.put hp)) (val_tup (cut l h) hp)⟩
    rw [hlen] at hw
    rw [cutG_whole hw] at q
    exact q _ _ x (val_tup_at whole ha)
  | _ => cases hc
/-- of a text -/
theorem ex_slS (he : EX X LL Γ e se m) (hl : EO X LL Γ lo sl) (hh : EO X LL Γ hi sh) : EX X LL Γ (.Subscript e (.Slice lo hi none p2) pos) (eSl (eChk D.isStr se) sl sh) .flat := by
  obtain ⟨te, tl, th, pe, pl, ph, k⟩ := slice_parts he hl hh
  refine ⟨_, pe_slice sl_str pe pl ph, fun P g ρ σ H d Q s e q => ?_⟩
  obtain ⟨d0, e1, e⟩ := bind_some e
  obtain ⟨l, e2, e⟩ := bind_some e
  obtain ⟨h, e3, e⟩ := bind_some e
  obtain ⟨e1, hc⟩ := Option.filter_eq_some_iff.mp e1
  refine k P g ρ σ H (fun x l u H3 => rSlS x l u H3 Q) d0 l h s e1 e2 e3 fun v H' x w => ?_
  cases d0 with
  | str z =>
    unfold dSl at e
    dsimp only at e
    split at e
    · cases e
      obtain ⟨fp, rr, _⟩ := w.labs
      obtain rfl := rStr rr
      exact ⟨z, rfl, by assumption, q _ H' x (val_flat rep_str)⟩
    · cases e
  | _ => cases hc
end

/-! ### [x] * n, a + b, list(a), tuple(a) -/
def dRep : List D → Option D
  | [.lst l, .int k] => if D.isFlatL l ∧ -1000000 ≤ k ∧ k ≤ 1000000 ∧ l.length * k.toNat ≤ 1000000 then some (.lst (List.replicate k.toNat l).flatten) else none
  | _ => none
def dCatF : List D → Option D
  | [.lst l, .lst r] => if D.isFlatL l ∧ D.isFlatL r ∧ l.length + r.length ≤ 1000000 then some (.lst (l ++ r)) else none
  | _ => none
def dCat : List D → Option D
  | [.lst l, .lst r] => if l.length + r.length ≤ 1000000 then some (.lst (l ++ r)) else none
  | _ => none
theorem line_of {n : Nat} (h : n ≤ 1000000) : n ≤ sizeLine := by rw [sizeLine_eq]; omega
section
variable {X : Cx} {LL : List Nat} {Γ : List Kd} {pos p : Pos} {a b : Expr} {sa sb : Ev} {ma mb : Md}
theorem ex_rep (ha : EX X LL Γ a sa ma) (hb : EX X LL Γ b sb mb) : EX X LL Γ (.BinOp a .Mult b pos) (eP dRep (aCons sa (aCons sb aNil))) (.al false .new [] true) := by
  obtain ⟨ta, tb, pa, pb, k⟩ := two ha hb
  refine ⟨_, pe_op op_rep pa pb, fun P g ρ σ H d Q s e q => ?_⟩
  obtain ⟨ds, e1, e⟩ := bind_some e
  refine k P g ρ σ H ds _ s e1 fun d1 d2 v w H' eds x va vb vl => ?_
  subst eds
  unfold dRep at e
  split at e
  · split at e
    · rename_i l n eq hc
      cases eq
      cases e
      obtain ⟨fp, rr, _⟩ := vb.labs
      obtain rfl := rInt rr
      obtain ⟨c, vs, rfl, hv, hlen, _, fl, rl, _⟩ := seq_of va
      have r0 := rl.flats hc.1
      refine ⟨c, n, vs, rfl, rfl, hv, by omega, by omega, ?_, fun p hp => ?_⟩
      · rw [hlen]; exact line_of hc.2.2.2
      · exact q _ _ (x.trans (Ext.put hp)) (val_lst (m := .flat) ⟨[], r0.rep _, rfl⟩ x hp)
    · cases e
  · cases e
theorem ex_catF (ha : EX X LL Γ a sa ma) (hb : EX X LL Γ b sb mb) : EX X LL Γ (.BinOp a .Add b pos) (eP dCatF (aCons sa (aCons sb aNil))) (.al false .new [] true) := by
  obtain ⟨ta, tb, pa, pb, k⟩ := two ha hb
  refine ⟨_, pe_op op_cat pa pb, fun P g ρ σ H d Q s e q => ?_⟩
  obtain ⟨ds, e1, e⟩ := bind_some e
  refine k P g ρ σ H ds _ s e1 fun d1 d2 v w H' eds x va vb vl => ?_
  subst eds
  unfold dCatF at e
  split at e
  · split at e
    · rename_i l r eq hc
      cases eq
      cases e
      obtain ⟨c, vs, rfl, hv, hlen, _, fl, rl, _⟩ := seq_of va
      obtain ⟨c', vs', rfl, hv', hlen', _, fl', rl', _⟩ := seq_of vb
      refine ⟨c, c', vs, vs', rfl, rfl, hv, hv', ?_, fun p hp => ?_⟩
      · rw [hlen, hlen']; exact line_of hc.2.2
      · exact q _ _ (x.trans (Ext.put hp)) (val_lst (m := .flat) ⟨[], (rl.flats hc.1).append (rl'.flats hc.2.1), rfl⟩ x hp)
    · cases e
  · cases e
def Md.cat : Md → Md → Md
  | .flat, .flat => .al false .new [] true
  | .al fr _ L _, .flat => .al fr .new L false
  | .flat, .al fr _ L _ => .al fr .new L false
  | .al fr _ L _, .al fr' _ L' _ => .al (fr || fr') .new (L ++ L') false
theorem ex_cat (ha : EX X LL Γ a sa ma) (hb : EX X LL Γ b sb mb) : EX X LL Γ (.BinOp a .Add b pos) (eP dCat (aCons sa (aCons sb aNil))) (ma.child.cat mb.child) := by
  obtain ⟨ta, tb, pa, pb, k⟩ := two ha hb
  refine ⟨_, pe_op op_cat pa pb, fun P g ρ σ H d Q s e q => ?_⟩
  obtain ⟨ds, e1, e⟩ := bind_some e
  refine k P g ρ σ H ds _ s e1 fun d1 d2 v w H' eds x va vb vl => ?_
  subst eds
  unfold dCat at e
  split at e
  · split at e
    · rename_i l r eq hc
      cases eq
      cases e
      obtain ⟨c, vs, rfl, hv, hlen, _, fl, rl, o1⟩ := seq_of va
      obtain ⟨c', vs', rfl, hv', hlen', _, fl', rl', o2⟩ := seq_of vb
      refine ⟨c, c', vs, vs', rfl, rfl, hv, hv', ?_, fun p hp => ?_⟩
      · rw [hlen, hlen']; exact line_of hc
      · have rr := rl.append rl'
        generalize ma.child = m1 at o1 q ⊢
        generalize mb.child = m2 at o2 q ⊢
        cases m1 with
        | flat =>
          obtain rfl : fl = [] := o1
          cases m2 with
          | flat =>
            obtain rfl : fl' = [] := o2
            exact q _ _ (x.trans (Ext.put hp)) (val_lst (m := .flat) ⟨[], rr, rfl⟩ x hp)
          | al fr rt L nd => exact q _ _ (x.trans (Ext.put hp)) (val_lst (m := .al fr .unk L false) ⟨_, rr, o2.1, fun z => nomatch z⟩ x hp)
        | al fr rt L nd =>
          cases m2 with
          | flat =>
            obtain rfl : fl' = [] := o2
            rw [List.append_nil] at rr
            exact q _ _ (x.trans (Ext.put hp)) (val_lst (m := .al fr .unk L false) ⟨_, rr, o1.1, fun z => nomatch z⟩ x hp)
          | al fr' rt' L' nd' =>
            refine q _ _ (x.trans (Ext.put hp)) (val_lst (m := .al (fr || fr') .unk (L ++ L') false) ⟨_, rr, fun a ha => ?_, fun z => nomatch z⟩ x hp)
            rcases List.mem_append.mp ha with ha | ha
            · exact (o1.1 a ha).imp (fun ⟨x, y⟩ => ⟨by rw [x]; rfl, y⟩) fun o => ⟨List.mem_append_left _ o.1, o.2⟩
            · exact (o2.1 a ha).imp (fun ⟨x, y⟩ => ⟨by rw [x]; cases fr <;> rfl, y⟩) fun o => ⟨List.mem_append_right _ o.1, o.2⟩
    · cases e
  · cases e
/-- list(e) -/
def dList : List D → Option D
  | [.lst l] => some (.lst l)
  | [.tup l] => some (.lst l)
  | _ => none
/-- calls of one argument by its own value -/
theorem one_arg {sem : Ev} {m : Md} {t : TE} {P : Fm} {g : Addr → Nat} {ρ : List D} {σ : L2.St} {H : Hp} {ds : List D} {Q : List V → Hp → Prop}
    (k : ∀ P g ρ σ H d Q, Sta X.vm P LL Γ g ρ σ H → sem ρ = some d → (∀ v H', Ext H H' → Val X.vm P g H H' m d v → Q v H') → t σ H Q)
    (s : Sta X.vm P LL Γ g ρ σ H) (e1 : aCons sem aNil ρ = some ds) (q : ∀ d v H', ds = [d] → Ext H H' → Val X.vm P g H H' m d v → Q [v] H') : tCons t tNil σ H Q := by
  obtain ⟨d, e2, e1⟩ := bind_some e1
  obtain ⟨r, e3, e1⟩ := bind_some e1
  cases e3
  cases e1
  exact k P g ρ σ H d _ s e2 fun v H' x w => q d v H' rfl x w
theorem ex_list {x : Str} (hg : Gl X x) (hm : X.mg x = none) (hv : bootBuiltins x = some (.type "list")) (ha : EX X LL Γ a sa ma) (hn : x ≠ "__name__" := by decide) (hdb : (x == ("__debug__" : Str)) = false := by decide)
    (he : starEach [a] X.env = (false, eval a X.env) :: starEach [] X.env := by rfl) : EX X LL Γ (.Call (.Name x p) [a] [] pos) (eP dList (aCons sa aNil)) ma.child.lst := by
  obtain ⟨t, pt, k⟩ := ha
  refine ⟨_, pe_callTy call_list_of hg hm hv (pa_cons pt pa_nil he) hn hdb he, fun P g ρ σ H d Q s e q => ?_⟩
  obtain ⟨ds, e1, e⟩ := bind_some e
  refine one_arg k s e1 fun d0 v H1 eds x1 w => ?_
  subst eds
  cases d0 with
  | lst l =>
    cases e
    obtain ⟨c, vs, rfl, hv, _, _, vl⟩ := seq_of w
    exact ⟨c, vs, rfl, .inl (SqL.of hv), fun p hp => q _ _ (x1.trans (Ext.put hp)) (val_lst vl x1 hp)⟩
  | tup l =>
    cases e
    obtain ⟨c, vs, rfl, hv, _, _, vl⟩ := seq_ofT w
    exact ⟨c, vs, rfl, .inr (.inl (.inl hv)), fun p hp => q _ _ (x1.trans (Ext.put hp)) (val_lst vl x1 hp)⟩
  | _ => cases e
/-- tuple(e) -/
def dTuple : List D → Option D
  | [.lst l] => some (.tup l)
  | [.tup l] => some (.tup l)
  | _ => none
theorem ex_tuple {x : Str} (hg : Gl X x) (hm : X.mg x = none) (hv : bootBuiltins x = some (.type "tuple")) (ha : EX X LL Γ a sa ma) (hn : x ≠ "__name__" := by decide) (hdb : (x == ("__debug__" : Str)) = false := by decide)
    (he : starEach [a] X.env = (false, eval a X.env) :: starEach [] X.env := by rfl) : EX X LL Γ (.Call (.Name x p) [a] [] pos) (eP dTuple (aCons sa aNil)) ma.child.tup := by
  obtain ⟨t, pt, k⟩ := ha
  refine ⟨_, pe_callTy call_tuple_of hg hm hv (pa_cons pt pa_nil he) hn hdb he, fun P g ρ σ H d Q s e q => ?_⟩
  obtain ⟨ds, e1, e⟩ := bind_some e
  refine one_arg k s e1 fun d0 v H1 eds x1 w => ?_
  subst eds
  cases d0 with
  | lst l =>
    cases e
    obtain ⟨c, vs, rfl, hv, _, _, vl⟩ := seq_of w
    exact ⟨c, vs, rfl, .inl ⟨SqL.of hv, fun p hp => q _ _ (x1.trans (Ext.put hp)) (val_tup vl hp)⟩⟩
  | tup l =>
    cases e
    obtain ⟨c, vs, rfl, hv, _, _, fp, r, o⟩ := seq_ofT w
    refine ⟨c, vs, rfl, .inr ⟨.inl (.inl hv), q _ _ x1 ?_⟩⟩
    have rr : Rep X.vm H1 (.tup l) (.ref c) fp := by
      simp only [Rep]
      exact ⟨c, vs, rfl, hv, r⟩
    generalize ma.child = m1 at o ⊢
    cases m1 with
    | flat =>
      obtain rfl : fp = [] := o
      exact rr
    | al fr rt L nd => exact ⟨fp, rr, fun a ha => .inr ⟨.inr rfl, o.1 a ha⟩, .unk o.2⟩
  | _ => cases e
end

/-! ### numbers from numbers, bools, lists -/
def dIntC : List D → Option D
  | [.int i] => some (.int i)
  | [.bl b] => some (.int (if b then 1 else 0))
  | _ => none
def dAbs : List D → Option D
  | [.int i] => some (.int (if i < 0 then -i else i))
  | _ => none
def dMax2 : List D → Option D
  | [.int i, .int j] => some (.int (if j > i then j else i))
  | _ => none
def dMin2 : List D → Option D
  | [.int i, .int j] => some (.int (if j < i then j else i))
  | _ => none
def intsOf : List D → Option (List Int)
  | [] => some []
  | .int i :: r => (intsOf r).map (i :: ·)
  | _ :: _ => none
def boolsOf : List D → Option (List Bool)
  | [] => some []
  | .bl i :: r => (boolsOf r).map (i :: ·)
  | _ :: _ => none
theorem intsOf_rep {mg : Mg} {H : Hp} : ∀ {l : List D} {ns : List Int} {vs : List V} {f : List Addr}, intsOf l = some ns → RepL mg H l vs f → vs = ns.map V.int
  | [], _, _, _, e, h => by simp only [RepL] at h; cases e; rw [h.1]; rfl
  | d :: r, _, _, _, e, h => by
    simp only [RepL] at h
    obtain ⟨v, vr, f1, f2, rfl, h1, h2, _⟩ := h
    unfold intsOf at e
    split at e
    · rename_i eq; cases eq
    · rename_i eq
      cases eq
      obtain ⟨ns, e1, rfl⟩ := Option.map_eq_some_iff.mp e
      rw [rInt h1, intsOf_rep e1 h2]; rfl
    · cases e
theorem boolsOf_rep {mg : Mg} {H : Hp} : ∀ {l : List D} {ns : List Bool} {vs : List V} {f : List Addr}, boolsOf l = some ns → RepL mg H l vs f → vs = ns.map V.bl
  | [], _, _, _, e, h => by simp only [RepL] at h; cases e; rw [h.1]; rfl
  | d :: r, _, _, _, e, h => by
    simp only [RepL] at h
    obtain ⟨v, vr, f1, f2, rfl, h1, h2, _⟩ := h
    unfold boolsOf at e
    split at e
    · rename_i eq; cases eq
    · rename_i eq
      cases eq
      obtain ⟨ns, e1, rfl⟩ := Option.map_eq_some_iff.mp e
      rw [rBl h1, boolsOf_rep e1 h2]; rfl
    · cases e
def itemsOf : D → Option (List D)
  | .lst l => some l
  | .scr l => some l
  | _ => none
def dSum : List D → Option D
  | [d] => do some (.int (← intsOf (← itemsOf d)).sum)
  | _ => none
def dMaxL : List D → Option D
  | [d] => do some (.int (← (← intsOf (← itemsOf d)).max?))
  | _ => none
def dMinL : List D → Option D
  | [d] => do some (.int (← (← intsOf (← itemsOf d)).min?))
  | _ => none
def dAny : List D → Option D
  | [d] => do some (.bl ((← boolsOf (← itemsOf d)).any id))
  | _ => none
def dAll : List D → Option D
  | [d] => do some (.bl ((← boolsOf (← itemsOf d)).all id))
  | _ => none
section
variable {X : Cx}
theorem items_sq {mg : Mg} {H : Hp} {d : D} {l : List D} {v : V} {f : List Addr} (e : itemsOf d = some l) (h : Rep mg H d v f) : ∃ a vs f', v = .ref a ∧ SqL mg.K H a vs ∧ RepL mg H l vs f' := by
  cases d with
  | lst l' =>
    cases e
    simp only [Rep] at h
    obtain ⟨a, vs, f', rfl, ha, h2, _⟩ := h
    exact ⟨a, vs, f', rfl, SqL.of ha, h2⟩
  | scr l' =>
    cases e
    simp only [Rep] at h
    obtain ⟨a, vs, rfl, ha, h2, _⟩ := h
    exact ⟨a, vs, [], rfl, ha.sq, h2⟩
  | _ => cases e
theorem cp_int1 : CP X (fun xs H Q => (∃ i, xs = [.int i] ∧ Q (.int i) H) ∨ ∃ k, xs = [.bl k] ∧ Q (.int (if k then 1 else 0)) H) dIntC toFlat := by
  intro P LL g H H1 m ds vs d Q l x vl e q
  obtain ⟨fp, r⟩ := vl.rep
  unfold dIntC at e
  split at e
  · cases e
    obtain ⟨v, rfl, h⟩ := repL1 r
    exact .inl ⟨_, by rw [rInt h], q _ H1 Ext.refl (val_flat rep_int)⟩
  · cases e
    obtain ⟨v, rfl, h⟩ := repL1 r
    exact .inr ⟨_, by rw [rBl h], q _ H1 Ext.refl (val_flat rep_int)⟩
  · cases e
theorem cp_abs : CP X (fun xs H Q => ∃ i, xs = [.int i] ∧ Q (.int (if i < 0 then -i else i)) H) dAbs toFlat := by
  intro P LL g H H1 m ds vs d Q l x vl e q
  obtain ⟨fp, r⟩ := vl.rep
  unfold dAbs at e
  split at e
  · cases e
    obtain ⟨v, rfl, h⟩ := repL1 r
    exact ⟨_, by rw [rInt h], q _ H1 Ext.refl (val_flat rep_int)⟩
  · cases e
theorem cp_max2 : CP X (fun xs H Q => ∃ i j, xs = [.int i, .int j] ∧ Q (.int (if j > i then j else i)) H) dMax2 toFlat := by
  intro P LL g H H1 m ds vs d Q l x vl e q
  obtain ⟨fp, r⟩ := vl.rep
  unfold dMax2 at e
  split at e
  · cases e
    obtain ⟨v, w, _, _, rfl, h, h2, _⟩ := repL2 r
    exact ⟨_, _, by rw [rInt h, rInt h2], q _ H1 Ext.refl (val_flat rep_int)⟩
  · cases e
theorem cp_min2 : CP X (fun xs H Q => ∃ i j, xs = [.int i, .int j] ∧ Q (.int (if j < i then j else i)) H) dMin2 toFlat := by
  intro P LL g H H1 m ds vs d Q l x vl e q
  obtain ⟨fp, r⟩ := vl.rep
  unfold dMin2 at e
  split at e
  · cases e
    obtain ⟨v, w, _, _, rfl, h, h2, _⟩ := repL2 r
    exact ⟨_, _, by rw [rInt h, rInt h2], q _ H1 Ext.refl (val_flat rep_int)⟩
  · cases e
theorem cp_sum : CP X (rSum X.K) dSum toFlat := by
  intro P LL g H H1 m ds vs d Q l x vl e q
  obtain ⟨fp, r⟩ := vl.rep
  unfold dSum at e
  split at e
  · obtain ⟨its, e2, e⟩ := bind_some e
    obtain ⟨ns, e1, e⟩ := bind_some e
    cases e
    obtain ⟨v, rfl, h⟩ := repL1 r
    obtain ⟨a, us, f', rfl, sq, rl⟩ := items_sq e2 h
    rw [intsOf_rep e1 rl] at sq
    exact ⟨a, ns, rfl, sq, q _ H1 Ext.refl (val_flat rep_int)⟩
  · cases e
theorem cp_maxL : CP X (rMax X.K) dMaxL toFlat := by
  intro P LL g H H1 m ds vs d Q l x vl e q
  obtain ⟨fp, r⟩ := vl.rep
  unfold dMaxL at e
  split at e
  · obtain ⟨its, e3, e⟩ := bind_some e
    obtain ⟨ns, e2, e⟩ := bind_some e
    obtain ⟨k, e1, e⟩ := bind_some e
    cases e
    obtain ⟨v, rfl, h⟩ := repL1 r
    obtain ⟨a, us, f', rfl, sq, rl⟩ := items_sq e3 h
    rw [intsOf_rep e2 rl] at sq
    obtain ⟨hm, hk⟩ := List.max?_eq_some_iff.mp e1
    refine ⟨a, ns, rfl, sq, List.length_pos_of_mem hm, fun k' hm' hk' => ?_⟩
    have : k' = k := Int.le_antisymm (hk k' hm') (hk' k hm)
    rw [this]
    exact q _ H1 Ext.refl (val_flat rep_int)
  · cases e
theorem cp_minL : CP X (rMin X.K) dMinL toFlat := by
  intro P LL g H H1 m ds vs d Q l x vl e q
  obtain ⟨fp, r⟩ := vl.rep
  unfold dMinL at e
  split at e
  · obtain ⟨its, e3, e⟩ := bind_some e
    obtain ⟨ns, e2, e⟩ := bind_some e
    obtain ⟨k, e1, e⟩ := bind_some e
    cases e
    obtain ⟨v, rfl, h⟩ := repL1 r
    obtain ⟨a, us, f', rfl, sq, rl⟩ := items_sq e3 h
    rw [intsOf_rep e2 rl] at sq
    obtain ⟨hm, hk⟩ := List.min?_eq_some_iff.mp e1
    refine ⟨a, ns, rfl, sq, List.length_pos_of_mem hm, fun k' hm' hk' => ?_⟩
    have : k' = k := Int.le_antisymm (hk' k hm) (hk k' hm')
    rw [this]
    exact q _ H1 Ext.refl (val_flat rep_int)
  · cases e
theorem cp_any : CP X (rAny X.K) dAny toFlat := by
  intro P LL g H H1 m ds vs d Q l x vl e q
  obtain ⟨fp, r⟩ := vl.rep
  unfold dAny at e
  split at e
  · obtain ⟨its, e2, e⟩ := bind_some e
    obtain ⟨ns, e1, e⟩ := bind_some e
    cases e
    obtain ⟨v, rfl, h⟩ := repL1 r
    obtain ⟨a, us, f', rfl, sq, rl⟩ := items_sq e2 h
    rw [boolsOf_rep e1 rl] at sq
    exact ⟨a, ns, rfl, sq, q _ H1 Ext.refl (val_flat rep_bl)⟩
  · cases e
theorem cp_all : CP X (rAll X.K) dAll toFlat := by
  intro P LL g H H1 m ds vs d Q l x vl e q
  obtain ⟨fp, r⟩ := vl.rep
  unfold dAll at e
  split at e
  · obtain ⟨its, e2, e⟩ := bind_some e
    obtain ⟨ns, e1, e⟩ := bind_some e
    cases e
    obtain ⟨v, rfl, h⟩ := repL1 r
    obtain ⟨a, us, f', rfl, sq, rl⟩ := items_sq e2 h
    rw [boolsOf_rep e1 rl] at sq
    exact ⟨a, ns, rfl, sq, q _ H1 Ext.refl (val_flat rep_bl)⟩
  · cases e
end
end VV

/-! ## VMut -/
namespace VV
open PySem PySem.Spec PyProof.Rows L2

/-! ### zip, enumerate -/
def Md.pair : Md → Md → Md
  | .flat, .flat => .flat
  | .al fr _ L _, .flat => .al fr .unk L false
  | .flat, .al fr _ L _ => .al fr .unk L false
  | .al fr _ L _, .al fr' _ L' _ => .al (fr || fr') .unk (L ++ L') false
theorem fps_pair {P : Fm} {g : Addr → Nat} {H H1 : Hp} {m m' : Md} {f f' : List Addr} (h : Fps P g H H1 m f) (h' : Fps P g H H1 m' f') : Fps P g H H1 (m.pair m') (f ++ f') := by
  cases m with
  | flat =>
    obtain rfl : f = [] := h
    cases m' with
    | flat => exact h'
    | al fr rt L nd => exact ⟨h'.1, fun z => nomatch z⟩
  | al fr rt L nd =>
    cases m' with
    | flat =>
      obtain rfl : f' = [] := h'
      rw [List.append_nil]
      exact ⟨h.1, fun z => nomatch z⟩
    | al fr' rt' L' nd' =>
      refine ⟨fun a ha => ?_, fun z => nomatch z⟩
      rcases List.mem_append.mp ha with ha | ha
      · exact (h.1 a ha).imp (fun ⟨x, y⟩ => ⟨by rw [x]; rfl, y⟩) fun o => ⟨List.mem_append_left _ o.1, o.2⟩
      · exact (h'.1 a ha).imp (fun ⟨x, y⟩ => ⟨by rw [x]; cases fr <;> rfl, y⟩) fun o => ⟨List.mem_append_right _ o.1, o.2⟩
def iZipL (a : List D → Option (List D)) : List D → Option (List D) := fun ρ => do match (← a ρ) with
  | [.lst l, .lst r] => some ((l.zip r).map fun p => .tup [p.1, p.2])
  | _ => none
def iEnumL (s : Ev) : List D → Option (List D) := fun ρ => do match (← s ρ) with
  | .lst l => some (l.mapIdx fun i d => .tup [.int i, d])
  | _ => none
/-- a list's nodes, and each item's -/
theorem lst_nodes {mg : Mg} {P : Fm} {g : Addr → Nat} {H H1 : Hp} {m : Md} {l : List D} {v : V} (h : Val mg P g H H1 m (.lst l) v) : ∃ (a : Addr) (vs : List V) (fp : List Addr), v = .ref a ∧ H1 a = some (.lst vs) ∧ vs.length = l.length ∧ (∀ b ∈ fp, New H H1 b ∨ Old P g m.labs b) ∧ a ∈ fp ∧
    ∀ (i : Nat) (d : D), l[i]? = some d → ∃ x f, vs[i]? = some x ∧ Rep mg H1 d x f ∧ Fps P g H H1 m.child f ∧ ∀ b ∈ f, b ∈ fp := by
  obtain ⟨fp, r, o, lb, ch⟩ := h.labs
  simp only [Rep] at r
  obtain ⟨a, vs, f, rfl, ha, h2, rfl⟩ := r
  refine ⟨a, vs, _, rfl, ha, h2.length, lb, List.mem_cons_self, fun i d e => ?_⟩
  obtain ⟨x, fi, e1, ri, f1, f2, rfl⟩ := h2.parts e
  exact ⟨x, fi, e1, ri, ch fi ⟨f1, f2, .inl ⟨a, rfl, rfl⟩⟩, fun b hb => List.mem_cons_of_mem _ (List.mem_append_left _ (List.mem_append_right _ hb))⟩
section
variable {X : Cx} {LL : List Nat} {Γ : List Kd} {pos p tpos : Pos} {a b : Expr} {sa sb : Ev} {ma mb : Md} {elts : List Expr} {kk : Nat}
theorem ei_zip (hg : Gl X "zip") (hm : X.mg "zip" = none) (ha : EX X LL Γ a sa ma) (hb : EX X LL Γ b sb mb)
    (hs : starEach [a, b] X.env = (false, eval a X.env) :: starEach [b] X.env := by rfl) (hpl : (backTo pos (starEach [b] X.env)).any (·.1) = false := by rfl) (hs2 : starEach [b] X.env = (false, eval b X.env) :: starEach [] X.env := by rfl) :
    EI X LL Γ (.Tuple elts kk tpos) (.Call (.Name "zip" p) [a, b] [] pos) (iZipL (aCons sa (aCons sb aNil))) (ma.labs ++ mb.labs) (ma.child.pair mb.child) := by
  obtain ⟨ta, tb, pa, pb, k⟩ := two ha hb
  refine ⟨_, pi_sized (pi_zip hg hm (pa_cons pa (pa_cons pb pa_nil hs2) hs) hs hpl), fun P g ρ σ H ds R s e q => ?_⟩
  obtain ⟨ds0, e1, e⟩ := bind_some e
  refine k P g ρ σ H ds0 _ s e1 fun d1 d2 v w H' eds x va vb vl => ?_
  subst eds
  split at e
  · rename_i l r eq
    cases eq
    cases e
    obtain ⟨a1, vs1, f1, rfl, h1, n1, lb1, m1, it1⟩ := lst_nodes va
    obtain ⟨a2, vs2, f2, rfl, h2, n2, lb2, m2, it2⟩ := lst_nodes vb
    refine ⟨a1, a2, vs1, vs2, rfl, SqL.of h1, SqL.of h2, fun sz => q _ H' x ?_ ⟨f1 ++ f2, fun c hc => ?_, fun H2 kp => ⟨fun i d hi => ?_, ?_⟩⟩⟩
    · rw [List.length_map, List.length_zip, ← n1]
      exact Nat.le_trans (Nat.min_le_left _ _) (sz.1 a1 vs1 (SqL.of h1))
    · rcases List.mem_append.mp hc with hc | hc
      · exact (lb1 c hc).imp id fun o => ⟨List.mem_append_left _ o.1, o.2⟩
      · exact (lb2 c hc).imp id fun o => ⟨List.mem_append_right _ o.1, o.2⟩
    · rw [List.getElem?_map] at hi
      obtain ⟨pr, e3, rfl⟩ := Option.map_eq_some_iff.mp hi
      obtain ⟨e4, e5⟩ := List.getElem?_zip_eq_some.mp e3
      obtain ⟨y1, g1, z1, r1, o1, s1⟩ := it1 i _ e4
      obtain ⟨y2, g2, z2, r2, o2, s2⟩ := it2 i _ e5
      have b1 : H2 a1 = some (.lst vs1) := kp.1 a1 (List.mem_append_left _ m1) _ h1
      have b2 : H2 a2 = some (.lst vs2) := kp.1 a2 (List.mem_append_right _ m2) _ h2
      refine ⟨⟨vs1, vs2, y1, y2, SqL.of b1, SqL.of b2, z1, z2⟩, fun xv H3 yl => ?_⟩
      obtain ⟨T, u1, u2, rfl, hT, rfl, q1, q2⟩ := yl
      have := q1 vs1 (SqL.of b1)
      rw [z1] at this; cases this
      have := q2 vs2 (SqL.of b2)
      rw [z2] at this; cases this
      have ex : Ext H2 (upd H2 T (.tup [y1, y2])) := Ext.put hT
      refine ⟨ex, g1 ++ g2, ?_, fps_pair o1 o2, fun c hc => ?_⟩
      · simp only [Rep, RepL]
        refine ⟨T, [y1, y2], rfl, upd_same, y1, [y2], g1, g2, rfl, ?_, ⟨y2, [], g2, [], rfl, ?_, ⟨rfl, rfl⟩, by simp⟩, rfl⟩
        · exact Rep.ext (kp.rep r1 fun c hc => List.mem_append_left _ (s1 c hc)) ex
        · exact Rep.ext (kp.rep r2 fun c hc => List.mem_append_right _ (s2 c hc)) ex
      · rcases List.mem_append.mp hc with hc | hc
        · exact List.mem_append_left _ (s1 c hc)
        · exact List.mem_append_right _ (s2 c hc)
    · refine ⟨vs1, vs2, SqL.of (kp.1 a1 (List.mem_append_left _ m1) _ h1), SqL.of (kp.1 a2 (List.mem_append_right _ m2) _ h2), ?_⟩
      rw [List.length_map, List.length_zip, n1, n2]
      omega
  · cases e
theorem ei_enum (hg : Gl X "enumerate") (hm : X.mg "enumerate" = none) (ha : EX X LL Γ a sa ma) (hs : starEach [a] X.env = [(false, eval a X.env)] := by rfl) :
    EI X LL Γ (.Tuple elts kk tpos) (.Call (.Name "enumerate" p) [a] [] pos) (iEnumL sa) ma.labs ma.child := by
  obtain ⟨t, pt, k⟩ := ha
  refine ⟨_, pi_sized (pi_enum hg hm (pa_cons pt pa_nil hs) hs), fun P g ρ σ H ds R s e q => ?_⟩
  obtain ⟨d0, e1, e⟩ := bind_some e
  refine k P g ρ σ H d0 _ s e1 fun v H' x va => ?_
  cases d0 with
  | lst l =>
    cases e
    obtain ⟨a1, vs1, f1, rfl, h1, n1, lb1, m1, it1⟩ := lst_nodes va
    refine ⟨a1, vs1, rfl, SqL.of h1, fun sz => q _ H' x ?_ ⟨f1, lb1, fun H2 kp => ⟨fun i d hi => ?_, ?_⟩⟩⟩
    · rw [List.length_mapIdx, ← n1]
      exact sz.1 a1 vs1 (SqL.of h1)
    · rw [List.getElem?_mapIdx] at hi
      obtain ⟨d', e4, rfl⟩ := Option.map_eq_some_iff.mp hi
      obtain ⟨y1, g1, z1, r1, o1, s1⟩ := it1 i _ e4
      have b1 : H2 a1 = some (.lst vs1) := kp.1 a1 m1 _ h1
      refine ⟨⟨vs1, y1, SqL.of b1, z1⟩, fun xv H3 yl => ?_⟩
      obtain ⟨T, u1, rfl, hT, rfl, q1⟩ := yl
      have := q1 vs1 (SqL.of b1)
      rw [z1] at this; cases this
      have ex : Ext H2 (upd H2 T (.tup [.int (i : Nat), y1])) := Ext.put hT
      refine ⟨ex, g1, ?_, o1, s1⟩
      simp only [Rep, RepL]
      exact ⟨T, _, rfl, upd_same, .int i, [y1], [], g1, rfl, ⟨rfl, rfl⟩, ⟨y1, [], g1, [], rfl, Rep.ext (kp.rep r1 s1) ex, ⟨rfl, rfl⟩, by simp⟩, rfl⟩
    · refine ⟨vs1, SqL.of (kp.1 a1 m1 _ h1), ?_⟩
      rw [List.length_mapIdx, n1]
      exact Nat.le_refl _
  | _ => cases e
end

/-! ### a, b = a list -/
def gL (ts : List D → List D → Option (List D)) : Tv := fun d ρ => match d with
  | .lst l => ts l ρ
  | _ => none
def Kd.lstChild : Kd → Kd
  | .lab rt L nd => .lab none (match rt with | some n => n :: L | none => L) nd
  | k => k
theorem cell_lst {mg : Mg} {P : Fm} {g : Addr → Nat} {H : Hp} {k : Kd} {ds : List D} {v : V} (c : CellOk mg P g H k (.lst ds) (some v)) (hk : k.use = true) :
    ∃ a vs, v = .ref a ∧ H a = some (.lst vs) ∧ vs.length = ds.length ∧ ∀ (i : Nat) (d : D) (w : V), ds[i]? = some d → vs[i]? = some w → CellOk mg P g H k.lstChild d (some w) := by
  cases k with
  | dead => cases hk
  | exc _ _ => cases hk
  | flat =>
    obtain ⟨v', e, r⟩ := c
    simp only [Rep] at r
    obtain ⟨_, _, _, _, _, _, e⟩ := r
    cases e
  | lab rt L nd =>
    obtain ⟨v', fp, e, r, o, z⟩ := c
    cases e
    simp only [Rep] at r
    obtain ⟨a, vs, f, rfl, r1, r2, rfl⟩ := r
    refine ⟨a, vs, rfl, r1, r2.length, fun i d w e1 e2 => ?_⟩
    obtain ⟨w', f1, fi, f2, e3, r3, rfl⟩ := r2.get e1
    rw [e2] at e3; cases e3
    refine ⟨w, fi, rfl, r3, fun b hb => ?_, .unk fun hn => ?_⟩
    · refine .inr ⟨.inr rfl, ?_⟩
      rcases o b (List.mem_cons_of_mem _ (List.mem_append_left _ (List.mem_append_right _ hb))) with ⟨_, n, rfl, x⟩ | ⟨_, x⟩
      · exact ⟨by rw [List.mem_singleton.mp x.1]; exact List.mem_cons_self, x.2⟩
      · refine ⟨?_, x.2⟩
        cases rt with
        | none => exact x.1
        | some n => exact List.mem_cons_of_mem _ x.1
    · have n := (List.nodup_cons.mp (z.1 hn)).2
      exact (List.nodup_append.mp (List.nodup_append.mp n).1).2.1
section
variable {X : Cx} {Γ Γ' : List Kd} {pos : Pos}
theorem eg_lst {es : List Expr} {c : Nat} {k : Kd} {ts : List D → List D → Option (List D)} {S : List Nat} (hc : X.calm = true) (h : EGs X Γ es k.lstChild ts Γ' S) (hk : k.use = true := by decide)
    (hst : (assignEach es X.env).findIdx? (·.1) = none := by rfl) (hn : (assignEach es X.env).length = es.length := by rfl) : EG X Γ (.Tuple es c pos) k (gL ts) Γ' S := by
  obtain ⟨hl, u, p, kk⟩ := h
  refine ⟨_, pg_unl hc p hn hst, fun P LL g ρ σ H d v ρ' Q s cc e q => ?_⟩
  cases d with
  | lst ds =>
    obtain ⟨a, vs, rfl, r, hlen, hcells⟩ := cell_lst cc hk
    exact ⟨a, vs, rfl, SqL.of r, by rw [hlen, hl ds ρ ρ' e], kk P LL g ρ σ H ds vs ρ' Q s hcells hlen e q⟩
  | _ => cases e
end

/-! ### one object is changed -/
def Kd.has (n : Nat) : Kd → Bool
  | .lab rt L _ => L.contains n || (rt == some n)
  | _ => false
def killK (n : Nat) (Γ : List Kd) : List Kd := Γ.map fun k => if k.has n then .dead else k
section
variable {mg : Mg} {P : Fm} {LL : List Nat} {Γ : List Kd} {g : Addr → Nat} {ρ : List D} {σ : L2.St} {H : Hp}
theorem rep_upd {H : Hp} {a : Addr} {o o' : HO} {d : D} {v : V} {f : List Addr} (h : Rep mg H d v f) (hn : a ∉ f) (ha : H a = some o) (mu : Mut (some o)) : Rep mg (upd H a o') d v f := by
  refine h.keep (fun b hb => ?_) ⟨fun b xs r => ?_, fun b o2 vs r => ?_, fun b o2 vs r => ?_⟩
  · have : b ≠ a := fun z => hn (by rw [← z]; exact hb)
    exact ⟨fun u _ r => by unfold Rd at r ⊢; rw [upd_ne this]; exact r, fun vs r => by rw [upd_ne this]; exact r⟩
  · have : b ≠ a := fun z => by
      rw [z, ha] at r
      cases r
      exact mu
    rw [upd_ne this]
    exact r
  · have : b ≠ a := fun z => by
      rw [z, ha] at r
      cases r
      exact mu
    rw [upd_ne this]
    exact r
  · have : b ≠ a := fun z => by
      rw [z, ha] at r
      cases r
      exact mu
    rw [upd_ne this]
    exact r
theorem repL_upd {H : Hp} {a : Addr} {o o' : HO} {d : List D} {v : List V} {f : List Addr} (h : RepL mg H d v f) (hn : a ∉ f) (ha : H a = some o) (mu : Mut (some o)) : RepL mg (upd H a o') d v f := by
  refine h.keep (fun b hb => ?_) ⟨fun b xs r => ?_, fun b o2 vs r => ?_, fun b o2 vs r => ?_⟩
  · have : b ≠ a := fun z => hn (by rw [← z]; exact hb)
    exact ⟨fun u _ r => by unfold Rd at r ⊢; rw [upd_ne this]; exact r, fun vs r => by rw [upd_ne this]; exact r⟩
  · have : b ≠ a := fun z => by
      rw [z, ha] at r
      cases r
      exact mu
    rw [upd_ne this]
    exact r
  · have : b ≠ a := fun z => by
      rw [z, ha] at r
      cases r
      exact mu
    rw [upd_ne this]
    exact r
  · have : b ≠ a := fun z => by
      rw [z, ha] at r
      cases r
      exact mu
    rw [upd_ne this]
    exact r
theorem CellOk.upd {k : Kd} {d : D} {ov : Option V} {a : Addr} {o o' : HO} {n : Nat} (c : CellOk mg P g H k d ov) (ha : H a = some o) (mu : Mut (some o)) (hg : g a = n) : CellOk mg P g (upd H a o') (if k.has n then .dead else k) d ov := by
  split
  · trivial
  · rename_i hh
    cases k with
    | dead => trivial
    | exc _ _ => exact c
    | flat => obtain ⟨v, rfl, r⟩ := c; exact ⟨v, rfl, rep_upd r (by simp) ha mu⟩
    | lab rt L nd =>
      obtain ⟨v, fp, rfl, r, q, z⟩ := c
      refine ⟨v, fp, rfl, rep_upd r (fun hm => ?_) ha mu, q, z⟩
      apply hh
      rcases q a hm with ⟨_, m, rfl, y⟩ | ⟨_, y⟩
      · have := List.mem_singleton.mp y.1
        simp [Kd.has, ← this, hg]
      · have := y.1
        rw [hg] at this
        simp [Kd.has, this]
theorem Cells.upd {a : Addr} {o o' : HO} {n : Nat} (ha : H a = some o) (mu : Mut (some o)) (hg : g a = n) : ∀ {Γ : List Kd} {ρ : List D} {σ : L2.St}, Cells mg P g H Γ ρ σ → Cells mg P g (upd H a o') (killK n Γ) ρ σ
  | [], [], [], _ => trivial
  | _ :: _, _ :: _, _ :: _, h => ⟨h.1.upd ha mu hg, Cells.upd ha mu hg h.2⟩
  | [], _ :: _, _, h => h.elim
  | [], [], _ :: _, h => h.elim
  | _ :: _, [], _, h => h.elim
  | _ :: _, _ :: _, [], h => h.elim
theorem Cells.put {k : Kd} {d : D} {v : V} : ∀ {Γ : List Kd} {ρ : List D} {σ : L2.St} (i : Nat), Cells mg P g H Γ ρ σ → CellOk mg P g H k d (some v) → σ[i]? = some (some v) → Cells mg P g H (Γ.set i k) (ρ.set i d) σ
  | [], [], [], _, _, _, _ => trivial
  | _ :: _, _ :: _, _ :: _, 0, h, c, e => ⟨by cases (by simpa using e : _ = some v); exact c, h.2⟩
  | _ :: _, _ :: _, _ :: _, i + 1, h, c, e => ⟨h.1, Cells.put i h.2 c (by simpa using e)⟩
  | [], _ :: _, _, _, h, _, _ => h.elim
  | [], [], _ :: _, _, h, _, _ => h.elim
  | _ :: _, [], _, _, h, _, _ => h.elim
  | _ :: _, _ :: _, [], _, h, _, _ => h.elim
/-- the object at a (label n) becomes o', the slot i tells it anew -/
theorem Sta.put {a : Addr} {o o' : HO} {n i : Nat} {k : Kd} {d : D} {v : V} (s : Sta mg P LL Γ g ρ σ H) (ha : H a = some o) (mu : Mut (some o)) (mu' : Mut (some o')) (hg : g a = n) (hn : n ≠ 0) (hL : n ∉ LL) (hv : σ[i]? = some (some v)) (c : CellOk mg P g (upd H a o') k d (some v)) :
    Sta mg P LL ((killK n Γ).set i k) g (ρ.set i d) σ (upd H a o') ∧ Step LL g H g (upd H a o') := by
  have nl : ∀ b, VV.lk LL (g b) → b ≠ a := fun b h e => by
    subst e
    rw [hg] at h
    exact h.elim hn hL
  refine ⟨⟨⟨fun b hb => ?_, fun b hb => ?_, fun b hb => ?_⟩, Cells.put i (s.cells.upd ha mu hg) c hv⟩, ⟨fun b hb u e => ?_, fun b _ _ => rfl, fun b hb => ?_⟩⟩
  · by_cases e : b = a
    · subst e; exact ⟨o', upd_same, .inl mu'⟩
    · rw [upd_ne e]; exact s.loc.at_ b hb
  · by_cases e : b = a
    · subst e; rw [upd_same]; simp
    · rw [upd_ne e]; exact s.loc.out b hb
  · refine ⟨?_, (s.loc.fz b hb).2⟩
    rw [upd_ne (nl b (s.loc.fz b hb).2)]
    exact (s.loc.fz b hb).1
  · rw [upd_ne (nl b hb)]; exact e
  · by_cases e : b = a
    · subst e; rw [upd_same]; simp
    · rw [upd_ne e]; exact hb
end

/-! ### append -/
def dPush : D → D → Option D
  | .lst l, d => if l.length < 1000000 then some (.lst (l ++ [d])) else none
  | _, _ => none
/-- the list in the slot i, changed by a function of it and a value -/
def sMut (f : D → D → Option D) (i : Nat) (e : Ev) : Sv := fun ρ => do
  let y ← e ρ
  let x ← ρ[i]?
  let z ← f x y
  some (.nx (ρ.set i z))
/-- the kind of a list that has got one more -/
def Md.pushL (c : Nat) : Md → List Nat
  | .flat => []
  | .al fr r L' _ => (match r with | .new => [c] | .old n => [n] | .unk => []) ++ ((if fr then [c] else []) ++ L')
def Md.isNd : Md → Bool
  | .flat => true
  | .al _ _ _ nd => nd
def Kd.push (c : Nat) (k : Kd) (m : Md) : Kd := match k with
  | .lab rt L nd => .lab rt (L ++ m.pushL c) (nd && m.isNd && disj L m.labs)
  | k => k
/-- the nodes of a value, its new ones labelled c -/
theorem Val.pushed {mg : Mg} {P : Fm} {LL : List Nat} {g : Addr → Nat} {H H' : Hp} {m : Md} {d : D} {y : V} {c : Nat} (h : Val mg P g H H' m d y) (l : Loc P LL g H) (hc : c ≠ 0) :
    ∃ f, Rep mg H' d y f ∧ (∀ b ∈ f, Old P (relab g H H' .non c c) (m.pushL c) b) ∧ (m.isNd = true → f.Nodup) ∧ ∀ b ∈ f, New H H' b ∨ Old P g m.labs b := by
  obtain ⟨f, r, o, lb, _⟩ := h.labs
  refine ⟨f, r, fun b hb => ?_, fun hn => ?_, lb⟩
  · cases m with
    | flat =>
      obtain rfl : f = [] := o
      cases hb
    | al fr rt L nd =>
      obtain ⟨f0, r0, o0, _⟩ := h
      have nw : New H H' b → (c ∈ (Md.al fr rt L nd).pushL c) → Old P (relab g H H' .non c c) ((Md.al fr rt L nd).pushL c) b := fun n hm => by
        unfold Old
        rw [relab_new n]
        simp only [if_neg (show V.non ≠ V.ref b from fun z => nomatch z)]
        exact ⟨hm, fun z => absurd z hc⟩
      have old : ∀ {K : List Nat}, Old P g K b → (∀ k ∈ K, k ∈ (Md.al fr rt L nd).pushL c) → Old P (relab g H H' .non c c) ((Md.al fr rt L nd).pushL c) b := fun {K} y hK => by
        have y' := Old.relab (H' := H') (v := .non) (n := c) (m := c) y l
        exact ⟨hK _ y'.1, y'.2⟩
      cases rt with
      | new =>
        rcases o.1 b hb with y | y
        · exact nw y.2 (List.mem_append_left _ List.mem_cons_self)
        · exact old y fun k hk => List.mem_append_right _ (List.mem_append_right _ hk)
      | old n =>
        rcases o.1 b hb with ⟨hf, y⟩ | y
        · subst hf
          exact nw y (List.mem_append_right _ (List.mem_append_left _ List.mem_cons_self))
        · refine old y fun k hk => ?_
          rcases List.mem_cons.mp hk with e | e
          · rw [e]; exact List.mem_append_left _ List.mem_cons_self
          · exact List.mem_append_right _ (List.mem_append_right _ e)
      | unk =>
        rcases o.1 b hb with ⟨hf, y⟩ | y
        · subst hf
          exact nw y (List.mem_append_right _ (List.mem_append_left _ List.mem_cons_self))
        · exact old y fun k hk => List.mem_append_right _ (List.mem_append_right _ hk)
  · cases m with
    | flat =>
      obtain rfl : f = [] := o
      exact List.nodup_nil
    | al fr rt L nd => cases rt <;> exact o.2 hn
section
variable {X : Cx} {W : L2.WX} {sc : Sc} {Γ : List Kd} {pos : Pos}
theorem sx_append {i : Nat} {x : Str} {px ap cp : Pos} {e : Expr} {se : Ev} {m : Md} {n : Nat} {L : List Nat} {nd : Bool} (c : Nat) (hk : Γ[i]? = some (.lab (some n) L nd)) (hN : X.N[i]? = some x) (hv : Vis X.env.scope x) (he : EX X sc.LL Γ e se m)
    (hn : n ≠ 0 := by decide) (hL : n ∉ sc.LL := by decide) (hm : n ∉ m.labs := by decide) (hc : c ≠ 0 := by decide) (hdb : (x == ("__debug__" : Str)) = false := by decide) (hcd : (x == ("__classdict__" : Str)) = false := by decide)
    (hbase : attributeBase (.Name x px) "append" X.env (eval (.Name x px) X.env) = eval (.Name x px) X.env := by rfl)
    (hfew : ((backTo cp (starEach [e] X.env)).all (fun x => !x.1) && (backToKw cp (keywordEach [] X.env)).all (fun x => x.1.isSome)
      && decide ([e].length + ([] : List Keyword).length + (if ([] : List Keyword).isEmpty then 0 else 1) < 30)) = true := by rfl)
    (hline : (ap.endLine == cp.line) = true := by rfl) (hs : starEach [e] X.env = (false, eval e X.env) :: starEach [] X.env := by rfl) (hplain : (backTo cp (starEach [] X.env)).any (·.1) = false := by rfl)
    (hsw : swapsWith (.Call (.Attribute (.Name x px) "append" ap) [e] [] cp) none pos.line X.env = pure false := by rfl) :
    SX X W sc Γ (.Expr (.Call (.Attribute (.Name x px) "append" ap) [e] [] cp) pos) (sMut dPush i se) ((killK n Γ).set i (Kd.push c (.lab (some n) L nd) m)) := by
  obtain ⟨t, pt, kk⟩ := he
  refine ⟨_, ps_expr (pe_bm PySem.F.plainAttrs_list PySem.F.slot_list_append PySem.F.type_list_append mt_append (pe_var hN hv hdb hcd) (pa_cons pt pa_nil hs) hbase hfew hline hs hplain) hsw, fun P g ρ σ H o De s e w => ?_⟩
  obtain ⟨d, e1, e⟩ := bind_some e
  obtain ⟨l, e2, e⟩ := bind_some e
  obtain ⟨z, e3, e⟩ := bind_some e
  cases e
  obtain ⟨l', ov, h1, h2, h3⟩ := s.cells.get hk
  rw [e2] at h1; cases h1
  cases l with
  | lst ds =>
    unfold dPush at e3
    dsimp only at e3
    split at e3
    · rename_i hlen
      cases e3
      obtain ⟨v, fp, rfl, r, q, z⟩ := h3
      simp only [Rep] at r
      obtain ⟨a, vs, f, rfl, ha, rl, rfl⟩ := r
      have hga : g a = n := by
        rcases q a List.mem_cons_self with ⟨_, k, ek, y⟩ | ⟨y, _⟩
        · cases ek; exact List.mem_singleton.mp y.1
        · rcases y with y | y
          · exact absurd rfl y
          · cases y
      have haf : a ∉ f := z.2 rfl a f rfl rfl
      refine ⟨.ref a, h2, .inl ⟨rfl, _, .inl (.inl ha)⟩, ?_⟩
      refine kk P g ρ σ H d _ s e1 fun y H2 x2 wv => ?_
      obtain ⟨fy, ry, oy, ndy, lby⟩ := wv.pushed (c := c) s.loc hc
      have ha2 : H2 a = some (.lst vs) := x2 a _ ha
      have hay : a ∉ fy := fun hm' => by
        rcases lby a hm' with y | y
        · have := y.1; rw [ha] at this; cases this
        · have := y.1; rw [hga] at this; exact hm this
      have st2 : Sta X.vm P sc.LL Γ (relab g H H2 .non c c) ρ σ H2 := s.relab x2
      have hg2 : relab g H H2 .non c c a = n := by rw [relab_old (by rw [ha]; simp)]; exact hga
      refine ⟨a, vs, y, rfl, rfl, ha2, ?_, ?_⟩
      · rw [rl.length, sizeLine_eq]; omega
      have oldf : ∀ b ∈ f, Old P g L b := fun b hb => by
        rcases q b (List.mem_cons_of_mem _ hb) with ⟨e, _⟩ | ⟨_, y⟩
        · cases e; exact absurd hb haf
        · exact y
      have cell : CellOk X.vm P (relab g H H2 .non c c) (upd H2 a (.lst (vs ++ [y]))) (Kd.push c (.lab (some n) L nd) m) (.lst (ds ++ [d])) (some (.ref a)) := by
        refine ⟨.ref a, a :: (f ++ fy), rfl, ?_, fun b hb => ?_, fun hn' => ?_, fun _ b g' e1 e2 => ?_⟩
        · simp only [Rep]
          exact ⟨a, vs ++ [y], f ++ fy, rfl, upd_same, (repL_upd (rl.ext x2) haf ha2 trivial).append (.one (rep_upd ry hay ha2 trivial)), rfl⟩
        · rcases List.mem_cons.mp hb with rfl | hb
          · exact .inl ⟨rfl, n, rfl, by rw [hg2]; exact List.mem_singleton.mpr rfl, fun z => by rw [hg2] at z; exact absurd z hn⟩
          · rcases List.mem_append.mp hb with hb | hb
            · have y' := Old.relab (H' := H2) (v := .non) (n := c) (m := c) (oldf b hb) s.loc
              exact .inr ⟨.inl fun e => by cases e; exact haf hb, List.mem_append_left _ y'.1, y'.2⟩
            · have y' := oy b hb
              exact .inr ⟨.inl fun e => by cases e; exact hay hb, List.mem_append_right _ y'.1, y'.2⟩
        · simp only [Bool.and_eq_true] at hn'
          obtain ⟨⟨n1, n2⟩, dj⟩ := hn'
          refine List.nodup_cons.mpr ⟨fun hm => (List.mem_append.mp hm).elim haf hay, List.nodup_append.mpr ⟨(List.nodup_cons.mp (z.1 n1)).2, ndy n2, fun b hb b' hb' e => ?_⟩⟩
          subst e
          rcases lby b hb' with y | y
          · exact (oldf b hb).there s.loc y.1
          · exact disj_ok dj (oldf b hb).1 y.1
        · cases e2
          exact fun hm => (List.mem_append.mp hm).elim haf hay
      obtain ⟨s3, st3⟩ := st2.put (o' := .lst (vs ++ [y])) ha2 trivial trivial hg2 hn hL h2 cell
      exact w _ σ _ ((Step.relab x2).trans st3) s3
    · cases e3
  | _ => cases e3
end
end VV

/-! ## VBool -/
namespace VV
open PySem PySem.Spec PyProof.Rows L2
def vAnd (a b : Ev) : Ev := fun ρ => match a ρ with
  | some (.bl true) => b ρ
  | some (.bl false) => some (.bl false)
  | _ => none
def vOr (a b : Ev) : Ev := fun ρ => match a ρ with
  | some (.bl false) => b ρ
  | some (.bl true) => some (.bl true)
  | _ => none
def vNot (a : Ev) : Ev := fun ρ => match a ρ with
  | some (.bl b) => some (.bl (!b))
  | _ => none
section
variable {X : Cx} {W : L2.WX} {sc : Sc} {LL : List Nat} {Γ Γ1 Γ' : List Kd} {pos : Pos} {a b c : Expr} {sa sb s2 : Ev} {ma mb mc : Md} {rest : List Expr}
theorem ex_one {op} (ha : EX X LL Γ a sa ma) : EX X LL Γ (.BoolOp op [a] pos) sa ma := let ⟨t, p, k⟩ := ha; ⟨t, pe_one p, k⟩
theorem ex_and (ha : EX X LL Γ a sa .flat) (hb : EX X LL Γ (.BoolOp .And (b :: rest) pos) sb .flat) : EX X LL Γ (.BoolOp .And (a :: b :: rest) pos) (vAnd sa sb) .flat := by
  obtain ⟨t, p, k⟩ := ha
  obtain ⟨t', p', k'⟩ := hb
  refine ⟨_, pe_and p p', fun P g ρ σ H d Q s e q => ?_⟩
  unfold vAnd at e
  split at e
  · rename_i h
    refine k P g ρ σ H _ _ s h fun v H1 x1 w => ⟨true, rBl (show Rep X.vm H1 (.bl true) v [] from w), ?_⟩
    exact iteT (k' P g ρ σ H1 d Q (s.ext x1) e fun v2 H2 x2 w2 => q v2 H2 (x1.trans x2) w2)
  · rename_i h
    cases e
    refine k P g ρ σ H _ _ s h fun v H1 x1 w => ⟨false, rBl (show Rep X.vm H1 (.bl false) v [] from w), ?_⟩
    exact iteF (q _ H1 x1 (val_flat rep_bl))
  · cases e
theorem ex_or (ha : EX X LL Γ a sa .flat) (hb : EX X LL Γ (.BoolOp .Or (b :: rest) pos) sb .flat) : EX X LL Γ (.BoolOp .Or (a :: b :: rest) pos) (vOr sa sb) .flat := by
  obtain ⟨t, p, k⟩ := ha
  obtain ⟨t', p', k'⟩ := hb
  refine ⟨_, pe_or p p', fun P g ρ σ H d Q s e q => ?_⟩
  unfold vOr at e
  split at e
  · rename_i h
    refine k P g ρ σ H _ _ s h fun v H1 x1 w => ⟨false, rBl (show Rep X.vm H1 (.bl false) v [] from w), ?_⟩
    exact iteF (k' P g ρ σ H1 d Q (s.ext x1) e fun v2 H2 x2 w2 => q v2 H2 (x1.trans x2) w2)
  · rename_i h
    cases e
    refine k P g ρ σ H _ _ s h fun v H1 x1 w => ⟨true, rBl (show Rep X.vm H1 (.bl true) v [] from w), ?_⟩
    exact iteT (q _ H1 x1 (val_flat rep_bl))
  · cases e
theorem ex_not (ha : EX X LL Γ a sa .flat) : EX X LL Γ (.UnaryOp .Not a pos) (vNot sa) .flat := by
  obtain ⟨t, p, k⟩ := ha
  refine ⟨_, pe_not p, fun P g ρ σ H d Q s e q => ?_⟩
  unfold vNot at e
  split at e
  · rename_i b h
    cases e
    refine k P g ρ σ H _ _ s h fun v H1 x1 w => ⟨b, rBl (show Rep X.vm H1 (.bl b) v [] from w), q _ H1 x1 (val_flat rep_bl)⟩
  · cases e
/-- known less ahead of a statement -/
theorem sx_pre {st : Stmt} {s : Sv} (m : List (Nat × Nat)) (h : SX X W sc Γ1 st s Γ') (hm : mapOk sc.LL m = true) (hk : kdsLe m Γ Γ1 = true) : SX X W sc Γ st s Γ' := by
  obtain ⟨t, p, k⟩ := h
  exact ⟨t, p, fun P g ρ σ H o D st e w => k P _ ρ σ H o D (st.re hm hk) e (w.from (.re hm))⟩
/-- a OP b OP' c, ints -/
def dCh (f g : Int → Int → Bool) : List D → Option D
  | [.int a, .int b, .int c] => some (.bl (f a b && g b c))
  | _ => none
theorem chain_read {f h : Int → Int → Bool} (ha : EX X LL Γ a sa ma) (hb : EX X LL Γ b sb mb) (hc : EX X LL Γ c s2 mc) :
    ∃ ta tb tc, PE X a ta ∧ PE X b tb ∧ PE X c tc ∧ ∀ P g ρ σ H d (Q : V → Hp → Prop), Sta X.vm P LL Γ g ρ σ H → eP (dCh f h) (aCons sa (aCons sb (aCons s2 aNil))) ρ = some d →
      (∀ H' k, Ext H H' → d = .bl k → Q (.bl k) H') → tChain (rI0 fun i j => .bl (f i j)) (rI0 fun i j => .bl (h i j)) ta tb tc σ H Q := by
  obtain ⟨ta, pa, ka⟩ := ha
  obtain ⟨tb, pb, kb⟩ := hb
  obtain ⟨tc, pc, kc⟩ := hc
  refine ⟨ta, tb, tc, pa, pb, pc, fun P g ρ σ H d Q s e q => ?_⟩
  obtain ⟨ds, e1, e⟩ := bind_some e
  obtain ⟨x, ex, e1⟩ := bind_some e1
  obtain ⟨r, er, e1⟩ := bind_some e1
  obtain ⟨y, ey, er⟩ := bind_some er
  obtain ⟨r2, er2, er⟩ := bind_some er
  obtain ⟨z, ez, er2⟩ := bind_some er2
  obtain ⟨r3, er3, er2⟩ := bind_some er2
  cases er3; cases er2; cases er; cases e1
  unfold dCh at e
  split at e
  · rename_i i j k eq
    cases eq
    cases e
    refine ka P g ρ σ H _ _ s ex fun v H1 x1 w1 => ?_
    refine kb P g ρ σ H1 _ _ (s.ext x1) ey fun v2 H2 x2 w2 => ?_
    obtain ⟨_, r1, _⟩ := w1.labs
    obtain ⟨_, r2, _⟩ := w2.labs
    obtain rfl := rInt r1
    obtain rfl := rInt r2
    refine ⟨i, j, rfl, rfl, f i j, rfl, ?_⟩
    cases hf : f i j with
    | false =>
      rw [hf] at q
      exact iteF (q H2 _ (x1.trans x2) rfl)
    | true =>
      rw [hf] at q
      refine iteT (kc P g ρ σ H2 _ _ (s.ext (x1.trans x2)) ez fun v3 H3 x3 w3 => ?_)
      obtain ⟨_, r3, _⟩ := w3.labs
      obtain rfl := rInt r3
      exact ⟨j, k, rfl, rfl, q H3 _ (x1.trans (x2.trans x3)) rfl⟩
  · cases e
theorem ex_chain {op op' : CmpOp} {f h : Int → Int → Bool} (ho : OpR X (compareOp op) (rI0 fun i j => .bl (f i j))) (ho' : OpR X (compareOp op') (rI0 fun i j => .bl (h i j))) (ha : EX X LL Γ a sa ma) (hb : EX X LL Γ b sb mb) (hc : EX X LL Γ c s2 mc) (hm : lastMarks [op, op'] [b, c] = false) :
    EX X LL Γ (.Compare a [op, op'] [b, c] pos) (eP (dCh f h) (aCons sa (aCons sb (aCons s2 aNil)))) .flat := by
  obtain ⟨ta, tb, tc, pa, pb, pc, k⟩ := chain_read (f := f) (h := h) ha hb hc
  exact ⟨_, pe_chain ho ho' pa pb pc hm, fun P g ρ σ H d Q s e q => k P g ρ σ H d Q s e fun H' b x eb => by subst eb; exact q _ H' x (val_flat rep_bl)⟩
theorem et_chain {op op' : CmpOp} {f h : Int → Int → Bool} (ho : OpR X (compareOp op) (rI0 fun i j => .bl (f i j))) (ho' : OpR X (compareOp op') (rI0 fun i j => .bl (h i j))) (ha : EX X LL Γ a sa ma) (hb : EX X LL Γ b sb mb) (hc : EX X LL Γ c s2 mc) (hm : lastMarks [op, op'] [b, c] = false) :
    ET X LL Γ (.Compare a [op, op'] [b, c] pos) (tOf (eP (dCh f h) (aCons sa (aCons sb (aCons s2 aNil))))) := by
  obtain ⟨ta, tb, tc, pa, pb, pc, k⟩ := chain_read (f := f) (h := h) ha hb hc
  refine ⟨_, pt_chain ho ho' pa pb pc hm, fun P g ρ σ H b Q s e q => ?_⟩
  obtain ⟨d, e0, e⟩ := bind_some e
  refine k P g ρ σ H d _ s e0 fun H' b' x eb => ?_
  subst eb
  cases e
  exact ⟨_, rfl, q H' x⟩
theorem ex_lele (ha : EX X LL Γ a sa ma) (hb : EX X LL Γ b sb mb) (hc : EX X LL Γ c s2 mc) (hm : lastMarks [.LtE, .LtE] [b, c] = false := by with_unfolding_all rfl) : EX X LL Γ (.Compare a [.LtE, .LtE] [b, c] pos) (eP (dCh (fun i j => decide (i ≤ j)) fun i j => decide (i ≤ j)) (aCons sa (aCons sb (aCons s2 aNil)))) .flat := ex_chain op_le op_le ha hb hc hm
theorem ex_lelt (ha : EX X LL Γ a sa ma) (hb : EX X LL Γ b sb mb) (hc : EX X LL Γ c s2 mc) (hm : lastMarks [.LtE, .Lt] [b, c] = false := by with_unfolding_all rfl) : EX X LL Γ (.Compare a [.LtE, .Lt] [b, c] pos) (eP (dCh (fun i j => decide (i ≤ j)) fun i j => decide (i < j)) (aCons sa (aCons sb (aCons s2 aNil)))) .flat := ex_chain op_le op_lt ha hb hc hm
theorem et_lele (ha : EX X LL Γ a sa ma) (hb : EX X LL Γ b sb mb) (hc : EX X LL Γ c s2 mc) (hm : lastMarks [.LtE, .LtE] [b, c] = false := by with_unfolding_all rfl) : ET X LL Γ (.Compare a [.LtE, .LtE] [b, c] pos) (tOf (eP (dCh (fun i j => decide (i ≤ j)) fun i j => decide (i ≤ j)) (aCons sa (aCons sb (aCons s2 aNil))))) := et_chain op_le op_le ha hb hc hm
theorem et_lelt (ha : EX X LL Γ a sa ma) (hb : EX X LL Γ b sb mb) (hc : EX X LL Γ c s2 mc) (hm : lastMarks [.LtE, .Lt] [b, c] = false := by with_unfolding_all rfl) : ET X LL Γ (.Compare a [.LtE, .Lt] [b, c] pos) (tOf (eP (dCh (fun i j => decide (i ≤ j)) fun i j => decide (i < j)) (aCons sa (aCons sb (aCons s2 aNil))))) := et_chain op_le op_lt ha hb hc hm
end
end VV

/-! ## VLaw -/
namespace VV
open PySem PySem.Spec PyProof.Rows L2

/-- a def that may be called by its name -/
def Cal (P : Program) (w : World) (K : PySem.W.Frag) (mg : Str → Option Value) (base : Heap) (x : Str) (k : Nat) (ps : List Str) (sem : List D → Option Res) (R : Rm) : Prop :=
  ∃ f fd, FnOk P w K mg base CX0 k f fd ps (sp0 ⟨mg, K⟩ sem ps.length R) ∧ mg x = some (.ref f) ∧ PySem.W.keepIn K (.ref f) = true ∧ Binds K fd ps []
section
variable {X : Cx} {LL : List Nat} {Γ : List Kd} {pos p : Pos} {k : Nat} {ps : List Str} {sem : List D → Option Res} {R : Rm} {x : Str}
theorem ex_calls_flat {e : Expr} {es : List Expr} {a : List D → Option (List D)} {m : Md} (c : Cal X.prog X.w X.K X.mg X.base x k ps sem .flat) (hr : Room k X.A) (hg : Gl X x) (ha : EA X LL Γ (e :: es) a m) (hn : (e :: es).length = ps.length := by rfl)
    (hdb : (x == ("__debug__" : Str)) = false := by decide) (he : starEach (e :: es) X.env = (false, eval e X.env) :: starEach es X.env := by rfl) (hpl : (backTo pos (starEach es X.env)).any (·.1) = false := by rfl) :
    EX X LL Γ (.Call (.Name x p) (e :: es) [] pos) (eCall sem a) .flat := by
  obtain ⟨f, fd, F, hm, hk, hb⟩ := c
  exact ex_call F hr hg hm hk hb ha hn hdb he hpl
theorem ex_calls0_flat (c : Cal X.prog X.w X.K X.mg X.base x k ps sem .flat) (hr : Room k X.A) (hg : Gl X x) (hn : ps.length = 0 := by rfl) (hdb : (x == ("__debug__" : Str)) = false := by decide) : EX X LL Γ (.Call (.Name x p) [] [] pos) (eCall sem aNil) .flat := by
  obtain ⟨f, fd, F, hm, hk, hb⟩ := c
  exact ex_call0 F hr hg hm hk hb hn hdb
theorem ex_calls_fresh {e : Expr} {es : List Expr} {a : List D → Option (List D)} {m : Md} (c : Cal X.prog X.w X.K X.mg X.base x k ps sem .fresh) (hr : Room k X.A) (hg : Gl X x) (ha : EA X LL Γ (e :: es) a m) (hn : (e :: es).length = ps.length := by rfl)
    (hdb : (x == ("__debug__" : Str)) = false := by decide) (he : starEach (e :: es) X.env = (false, eval e X.env) :: starEach es X.env := by rfl) (hpl : (backTo pos (starEach es X.env)).any (·.1) = false := by rfl) :
    EX X LL Γ (.Call (.Name x p) (e :: es) [] pos) (eCall sem a) (.al true .new [] true) := by
  obtain ⟨f, fd, F, hm, hk, hb⟩ := c
  exact ex_call F hr hg hm hk hb ha hn hdb he hpl
theorem ex_calls0_fresh (c : Cal X.prog X.w X.K X.mg X.base x k ps sem .fresh) (hr : Room k X.A) (hg : Gl X x) (hn : ps.length = 0 := by rfl) (hdb : (x == ("__debug__" : Str)) = false := by decide) : EX X LL Γ (.Call (.Name x p) [] [] pos) (eCall sem aNil) (.al true .new [] true) := by
  obtain ⟨f, fd, F, hm, hk, hb⟩ := c
  exact ex_call0 F hr hg hm hk hb hn hdb
theorem ex_calls_out {e : Expr} {es : List Expr} {a : List D → Option (List D)} {m : Md} (c : Cal X.prog X.w X.K X.mg X.base x k ps sem .out) (hr : Room k X.A) (hg : Gl X x) (ha : EA X LL Γ (e :: es) a m) (hn : (e :: es).length = ps.length := by rfl)
    (hdb : (x == ("__debug__" : Str)) = false := by decide) (he : starEach (e :: es) X.env = (false, eval e X.env) :: starEach es X.env := by rfl) (hpl : (backTo pos (starEach es X.env)).any (·.1) = false := by rfl) :
    EX X LL Γ (.Call (.Name x p) (e :: es) [] pos) (eCall sem a) (Rm.md .out m) := by
  obtain ⟨f, fd, F, hm, hk, hb⟩ := c
  exact ex_call F hr hg hm hk hb ha hn hdb he hpl
theorem ex_calls0_out (c : Cal X.prog X.w X.K X.mg X.base x k ps sem .out) (hr : Room k X.A) (hg : Gl X x) (hn : ps.length = 0 := by rfl) (hdb : (x == ("__debug__" : Str)) = false := by decide) : EX X LL Γ (.Call (.Name x p) [] [] pos) (eCall sem aNil) (Rm.md .out .flat) := by
  obtain ⟨f, fd, F, hm, hk, hb⟩ := c
  exact ex_call0 F hr hg hm hk hb hn hdb
end
theorem scr_rep {mg : Mg} {H : Hp} {a : Addr} {ns : List Int} (h : SqL mg.K H a (ns.map V.int)) (o : Only H) : RepL mg H [.scr (ns.map D.int)] [.ref a] [] := by
  have key : ∀ ns : List Int, RepL mg H (ns.map D.int) (ns.map V.int) [] := fun ns => by
    induction ns with
    | nil => simp [RepL]
    | cons n r ih => simp only [List.map_cons, RepL]; exact ⟨_, _, [], [], rfl, rep_int, ih, rfl⟩
  simp only [RepL, Rep]
  refine ⟨_, _, [], [], rfl, ⟨a, _, rfl, ?_, key ns, rfl⟩, ⟨rfl, rfl⟩, rfl⟩
  rcases h with (h | h) | h
  · rcases o a with z | ⟨_, _, z⟩ <;> rw [h] at z <;> cases z
  · exact .inl h
  · exact .inr h
theorem rf_bl {mg : Mg} {H H' : Hp} {fp : List Addr} {R : Rm} {b : Bool} {v : V} (r : RF mg H H' fp R (.bl b) v) : v = .bl b := by
  cases R with
  | flat => exact rBl (show Rep mg H' (.bl b) v [] from r)
  | fresh => obtain ⟨_, r, _⟩ := r; exact rBl r
  | out => obtain ⟨_, r, _⟩ := r; exact rBl r
/-- the end: a law whose tree is True at every script -/
theorem walk_V {l : PySem.W.OpenLaw} {n k : Nat} {q : Program} {loose : List Str} {XP : (Str → Option Value) → Heap → Prop} {YP : World → Heap → Prop} {d : DefRec} {x : Str} {sem : List D → Option Res} {R : Rm}
    (hn : l.most = some n) (hn2 : n ≤ sizeLine) (hdf : d.params.defaults = []) (hr : Room k callerA)
    (hs : ∀ ns : List Int, ns.length ≤ n → (∀ z ∈ ns, Builtin.Int.intBits z ≤ 1048576) → sem [.scr (ns.map D.int)] = some (.ret (.bl true)))
    (F : ∀ (w : World) (mg : Str → Option Value) (fa : Addr) (h : Heap), YP w h → h.Ns mainGlobals mg → mg d.name = some (.ref fa) →
      ∃ (K : PySem.W.Frag) (fd : FuncData), K.In h ∧ (∀ (s : Shared) (u : Value), BindsTo s fd ⟨[u], []⟩ [(x, u)]) ∧
        ∀ base : Heap, K.In base → base.Ns mainGlobals mg → FnOk l.prog w K mg base CX0 k fa fd [x] (sp0 ⟨mg, K⟩ sem 1 R)) :
    PySem.W.WalkO q loose XP YP l.row.toRowW d [] (fun f vs => PySem.call f vs) := by
  refine Att.attach_callB hn hdf fun w s₀ s₁ mg mb fa o pm cd doc a vs ns G Y ho hd hcd hmg hobj hints hlen hbits hg => ?_
  obtain ⟨K, fd, KX, hb, hF⟩ := F w mg fa _ Y G.T.g hmg
  refine law_call KX G.T.g G.T.b G.T.builtins G.T.nolimit hg hobj hints (Nat.le_trans hlen hn2) hr hF hb (fun H hO hS => ?_) fun H e s' h => h
  exact ⟨rfl, _, [], _, scr_rep (mg := ⟨mg, K⟩) hS hO, hs ns hlen hbits, fun v H' _ r => rf_bl r⟩
end VV

/-! ## VDict -/
namespace VV
open PySem PySem.Spec PyProof.Rows L2

/-! ### keys -/
def keyD : L2.Key → D
  | .inl i => .int i
  | .inr s => .str s
def D.ky1 : D → Option L2.Key
  | .int i => some (.inl i)
  | .str s => some (.inr s)
  | _ => none
def D.kyL : List D → Option (List L2.Key)
  | [] => some []
  | d :: r => match d.ky1, D.kyL r with
    | some k, some ks => some (k :: ks)
    | _, _ => none
def D.ky (tk : Bool) (d : D) : Option Ky := match tk with
  | false => d.ky1.map Ky.k
  | true => match d with
    | .tup l => (D.kyL l).map Ky.t
    | _ => none
def Ky.d : Ky → D
  | .k x => keyD x
  | .t l => .tup (l.map keyD)
section
variable {mg : Mg} {H : Hp}
theorem rep_keyD {k : L2.Key} : Rep mg H (keyD k) (kV k) [] := by
  cases k <;> simp [keyD, kV, Rep]
theorem rep_ky1 {d : D} {v : V} {fp : List Addr} {k : L2.Key} (h : Rep mg H d v fp) (e : d.ky1 = some k) : v = kV k := by
  cases d <;> simp only [D.ky1] at e <;> cases e
  · exact rInt h
  · exact rStr h
theorem rep_kyL : ∀ {l : List D} {vs : List V} {fp : List Addr} {ks : List L2.Key}, RepL mg H l vs fp → D.kyL l = some ks → vs = ks.map kV
  | [], _, _, _, h, e => by
    simp only [RepL] at h
    cases e
    exact h.1
  | d :: r, _, _, _, h, e => by
    simp only [RepL] at h
    obtain ⟨v, vs, f1, f2, rfl, h1, h2, _⟩ := h
    simp only [D.kyL] at e
    split at e
    · rename_i k ks e1 e2
      cases e
      rw [rep_ky1 h1 e1, rep_kyL h2 e2]
      rfl
    · cases e
theorem repL_keys {l : List L2.Key} : RepL mg H (l.map keyD) (l.map kV) [] := by
  induction l with
  | nil => simp [RepL]
  | cons k r ih =>
    simp only [List.map_cons, RepL]
    exact ⟨_, _, [], [], rfl, rep_keyD, ih, rfl⟩
end

/-! ### tables of keys and values -/
def lkD {α : Type} (ks : List Ky) (ds : List α) (k : Ky) : Option α := ((ks.zip ds).find? fun p => decide (p.1 = k)).map (·.2)
def putKs (ks : List Ky) (k : Ky) : List Ky := if k ∈ ks then ks else ks ++ [k]
def putDs {α : Type} (ks : List Ky) (ds : List α) (k : Ky) (d : α) : List α := if k ∈ ks then (ks.zip ds).map (fun p => if p.1 = k then d else p.2) else ds ++ [d]
def delKs (ks : List Ky) (k : Ky) : List Ky := ks.filter fun x => decide (x ≠ k)
def delDs {α : Type} (ks : List Ky) (ds : List α) (k : Ky) : List α := ((ks.zip ds).filter fun p => decide (p.1 ≠ k)).map (·.2)
section
variable {mg : Mg} {H : Hp} {κ : Type} [DecidableEq κ] {em : κ → Ky}
theorem lk_some (hi : ∀ a b, em a = em b → a = b) {x : κ} : ∀ {kl : List κ} {ds : List D} {vs : List V} {f : List Addr} {d : D}, RepL mg H ds vs f → lkD (kl.map em) ds (em x) = some d →
    ∃ v g1 g g2, valV (kl.zip vs) x = some v ∧ Rep mg H d v g ∧ f = g1 ++ g ++ g2
  | [], _, _, _, _, _, e => by simp [lkD] at e
  | k :: kl, [], _, _, _, _, e => by simp [lkD] at e
  | k :: kl, d0 :: ds, _, _, d, h, e => by
    simp only [RepL] at h
    obtain ⟨v, r, f1, f2, rfl, h1, h2, rfl⟩ := h
    simp only [List.map_cons, List.zip_cons_cons, lkD, List.find?_cons] at e
    by_cases hk : k = x
    · subst hk
      simp at e
      subst e
      exact ⟨v, [], f1, f2, valV_pos rfl, h1, rfl⟩
    · have : ¬ em k = em x := fun z => hk (hi _ _ z)
      simp only [this, decide_false] at e
      obtain ⟨w, g1, g, g2, e1, e2, rfl⟩ := lk_some hi h2 e
      exact ⟨w, f1 ++ g1, g, g2, (valV_neg (by exact hk)).trans e1, e2, by simp [List.append_assoc]⟩
theorem lk_none (hi : ∀ a b, em a = em b → a = b) {x : κ} : ∀ {kl : List κ} {ds : List D} {vs : List V} {f : List Addr}, RepL mg H ds vs f → lkD (kl.map em) ds (em x) = none → valV (kl.zip vs) x = none
  | [], _, _, _, _, _ => by simp [valV]
  | k :: kl, [], _, _, h, _ => by
    simp only [RepL] at h
    obtain ⟨rfl, _⟩ := h
    simp [valV]
  | k :: kl, d0 :: ds, _, _, h, e => by
    simp only [RepL] at h
    obtain ⟨v, r, f1, f2, rfl, h1, h2, rfl⟩ := h
    simp only [List.map_cons, List.zip_cons_cons, lkD, List.find?_cons] at e
    by_cases hk : k = x
    · subst hk
      simp at e
    · have : ¬ em k = em x := fun z => hk (hi _ _ z)
      simp only [this, decide_false] at e
      exact (valV_neg (by exact hk)).trans (lk_none hi h2 e)
theorem any_mem {x : κ} : ∀ {kl : List κ} {vs : List V}, kl.length = vs.length → ((kl.zip vs).any fun kv => decide (kv.1 = x)) = decide (x ∈ kl)
  | [], [], _ => by simp
  | k :: kl, v :: vs, h => by
    simp only [List.zip_cons_cons, List.any_cons, any_mem (kl := kl) (vs := vs) (by simpa using h)]
    by_cases e : k = x
    · simp [e]
    · simp [e, Ne.symm e]
  | [], _ :: _, h => by simp at h
  | _ :: _, [], h => by simp at h
theorem mem_em (hi : ∀ a b, em a = em b → a = b) {x : κ} {kl : List κ} : em x ∈ kl.map em ↔ x ∈ kl := by
  constructor
  · intro h
    obtain ⟨y, h1, h2⟩ := List.mem_map.mp h
    rw [← hi _ _ h2]; exact h1
  · exact fun h => List.mem_map.mpr ⟨x, h, rfl⟩
/-- the pairs behind a store -/
theorem put_zip (hi : ∀ a b, em a = em b → a = b) {x : κ} {v : V} {kl : List κ} {vs : List V} (hl : kl.length = vs.length) :
    ∃ kl2 : List κ, putKs (kl.map em) (em x) = kl2.map em ∧ putK (kl.zip vs) x v = kl2.zip (putDs (kl.map em) vs (em x) v) ∧ kl2.length = (putDs (kl.map em) vs (em x) v).length := by
  unfold putKs putDs putK
  rw [any_mem hl]
  by_cases h : x ∈ kl
  · refine ⟨kl, by rw [if_pos ((mem_em hi).mpr h)], ?_, ?_⟩
    · rw [if_pos (by simpa using h), if_pos ((mem_em hi).mpr h)]
      clear h
      induction kl generalizing vs with
      | nil => simp
      | cons k kl ih =>
        cases vs with
        | nil => simp
        | cons u vs =>
          have ih := ih (vs := vs) (by simpa using hl)
          simp only [List.map_cons, List.zip_cons_cons, List.map_cons]
          by_cases e : k = x
          · subst e; simp only [if_true]; rw [ih]
          · have : ¬ em k = em x := fun z => e (hi _ _ z)
            simp only [e, this, if_false]; rw [ih]
    · rw [if_pos ((mem_em hi).mpr h)]; simp [hl]
  · refine ⟨kl ++ [x], ?_, ?_, ?_⟩
    · rw [if_neg fun z => h ((mem_em hi).mp z)]; simp
    · rw [if_neg (by simpa using h), if_neg fun z => h ((mem_em hi).mp z), List.zip_append hl]; rfl
    · rw [if_neg fun z => h ((mem_em hi).mp z)]; simp [hl]
theorem del_zip (hi : ∀ a b, em a = em b → a = b) {x : κ} : ∀ {kl : List κ} {vs : List V}, kl.length = vs.length →
    ∃ kl2 : List κ, delKs (kl.map em) (em x) = kl2.map em ∧ dropK (kl.zip vs) x = kl2.zip (delDs (kl.map em) vs (em x)) ∧ kl2.length = (delDs (kl.map em) vs (em x)).length
  | [], [], _ => ⟨[], by simp [delKs, delDs, dropK]⟩
  | k :: kl, v :: vs, h => by
    obtain ⟨kl2, h1, h2, h3⟩ := del_zip (x := x) hi (kl := kl) (vs := vs) (by simpa using h)
    unfold delKs at h1 ⊢
    unfold delDs at h2 h3 ⊢
    unfold dropK at h2 ⊢
    by_cases e : k = x
    · subst e
      exact ⟨kl2, by simpa using h1, by simpa using h2, by simpa using h3⟩
    · have e2 : ¬ em k = em x := fun z => e (hi _ _ z)
      refine ⟨k :: kl2, ?_, ?_, ?_⟩
      · simp only [List.map_cons, List.filter_cons, e2, ne_eq, not_false_eq_true, decide_true, if_true]
        rw [h1]
      · simp only [List.map_cons, List.zip_cons_cons, List.filter_cons, e2, e, ne_eq, not_false_eq_true, decide_true, if_true]
        rw [h2]
      · simp only [List.map_cons, List.zip_cons_cons, List.filter_cons, e2, e, ne_eq, not_false_eq_true, decide_true, if_true, List.length_cons]
        rw [h3]
  | [], _ :: _, h => by simp at h
  | _ :: _, [], h => by simp at h
end
theorem ky_k_inj (a b : L2.Key) (e : Ky.k a = Ky.k b) : a = b := by cases e; rfl
theorem ky_t_inj (a b : List L2.Key) (e : Ky.t a = Ky.t b) : a = b := by cases e; rfl

/-! ### reading -/
def dGet : List D → Option D
  | [.dic tk ks ds, x] => (x.ky tk).bind (lkD ks ds)
  | _ => none
def dLenD : List D → Option D
  | [.dic _ ks _] => some (.int ks.length)
  | _ => none
section
variable {mg : Mg} {H : Hp} {a : Addr} {tk : Bool} {ks : List Ky} {ds : List D} {vs : List V} {f : List Addr} {x d : D} {y : V} {fy : List Addr} {k : Ky}
theorem dget_some (r : RdD H a tk ks vs) (rl : RepL mg H ds vs f) (ry : Rep mg H x y fy) (ek : x.ky tk = some k) (e : lkD ks ds k = some d) : ∃ v g1 g g2, DGet H a y (some v) ∧ Rep mg H d v g ∧ f = g1 ++ g ++ g2 := by
  obtain ⟨hl, r⟩ := r
  cases tk with
  | false =>
    obtain ⟨kl, rfl, r⟩ := r
    simp only [D.ky, Option.map_eq_some_iff] at ek
    obtain ⟨k1, e1, rfl⟩ := ek
    obtain ⟨v, g1, g, g2, e2, e3, e4⟩ := lk_some ky_k_inj rl e
    exact ⟨v, g1, g, g2, .inl ⟨_, k1, r, rep_ky1 ry e1, e2.symm⟩, e3, e4⟩
  | true =>
    obtain ⟨kl, rfl, r⟩ := r
    cases x with
    | tup l =>
      simp only [D.ky, Option.map_eq_some_iff] at ek
      obtain ⟨k1, e1, rfl⟩ := ek
      obtain ⟨v, g1, g, g2, e2, e3, e4⟩ := lk_some ky_t_inj rl e
      simp only [Rep] at ry
      obtain ⟨b, us, rfl, hb, rb⟩ := ry
      rw [rep_kyL rb e1] at hb
      exact ⟨v, g1, g, g2, .inr ⟨_, k1, b, r, rfl, hb, e2.symm⟩, e3, e4⟩
    | _ => cases ek
theorem dget_none (r : RdD H a tk ks vs) (rl : RepL mg H ds vs f) (ry : Rep mg H x y fy) (ek : x.ky tk = some k) (e : lkD ks ds k = none) : DGet H a y none := by
  obtain ⟨hl, r⟩ := r
  cases tk with
  | false =>
    obtain ⟨kl, rfl, r⟩ := r
    simp only [D.ky, Option.map_eq_some_iff] at ek
    obtain ⟨k1, e1, rfl⟩ := ek
    exact .inl ⟨_, k1, r, rep_ky1 ry e1, (lk_none ky_k_inj rl e).symm⟩
  | true =>
    obtain ⟨kl, rfl, r⟩ := r
    cases x with
    | tup l =>
      simp only [D.ky, Option.map_eq_some_iff] at ek
      obtain ⟨k1, e1, rfl⟩ := ek
      simp only [Rep] at ry
      obtain ⟨b, us, rfl, hb, rb⟩ := ry
      rw [rep_kyL rb e1] at hb
      exact .inr ⟨_, k1, b, r, rfl, hb, (lk_none ky_t_inj rl e).symm⟩
    | _ => cases ek
theorem RdD.isD (r : RdD H a tk ks vs) : IsD H a := by
  obtain ⟨_, r⟩ := r
  cases tk with
  | false => obtain ⟨_, _, r⟩ := r; exact .inl ⟨_, r⟩
  | true => obtain ⟨_, _, r⟩ := r; exact .inr ⟨_, r⟩
end
section
variable {X : Cx} {LL : List Nat} {Γ : List Kd} {pos : Pos} {a b c : Expr} {sa sb s2 : Ev} {ma mb mc : Md}
theorem ex_dget (hu : X.A.units + 1 < cLine) (ha : EX X LL Γ a sa ma) (hb : EX X LL Γ b sb mb) (hs : NoSl b := by exact fun _ _ => rfl) : EX X LL Γ (.Subscript a b pos) (eP dGet (aCons sa (aCons sb aNil))) ma.child := by
  obtain ⟨ta, pa, ka⟩ := ha
  obtain ⟨tb, pb, kb⟩ := hb
  refine ⟨_, pe_dget hu pa pb hs, fun P g ρ σ H d Q s e q => ?_⟩
  obtain ⟨ds, e1, e⟩ := bind_some e
  obtain ⟨d1, ea, e1⟩ := bind_some e1
  obtain ⟨r1, er, e1⟩ := bind_some e1
  obtain ⟨d2, eb, er⟩ := bind_some er
  obtain ⟨r2, er2, er⟩ := bind_some er
  cases er2; cases er; cases e1
  refine ka P g ρ σ H d1 _ s ea fun v H1 x1 w1 => ?_
  refine kb P g ρ σ H1 d2 _ (s.ext x1) eb fun y H2 x2 w2 => ?_
  unfold dGet at e
  split at e
  · rename_i tk ks l x eq
    cases eq
    obtain ⟨k, ek, e⟩ := bind_some e
    obtain ⟨fp, r, o, lb, ch⟩ := (w1.ext x2).labs
    simp only [Rep] at r
    obtain ⟨a1, vs, f, rfl, rd, rl, rfl⟩ := r
    obtain ⟨fy, ry, _⟩ := w2.labs
    obtain ⟨v2, g1, g2, g3, dg, rv, rfl⟩ := dget_some rd rl ry ek e
    refine ⟨a1, v2, rfl, dg, q v2 H2 (x1.trans x2) ?_⟩
    have cf := ch g2 ⟨g1, g3, .inl ⟨a1, rfl, rfl⟩⟩
    cases hm : ma.child with
    | flat =>
      rw [hm] at cf
      obtain rfl : g2 = [] := cf
      exact rv
    | al fr rt L nd =>
      rw [hm] at cf
      have hrt : rt = .unk := by
        unfold Md.child Md.unroot at hm
        cases ma with
        | flat => cases hm
        | al fr' rt' L' nd' =>
          cases nd' <;> cases rt' <;> simp at hm <;> exact hm.2.1.symm
      subst hrt
      exact ⟨g2, rv, fun b hb => .inr ⟨.inr rfl, cf.1 b hb⟩, .unk cf.2⟩
  · cases e
end
end VV

/-! ## VDict2 -/
namespace VV
open PySem PySem.Spec PyProof.Rows L2

/-! ### one of two -/
theorem fps_none {P : Fm} {g : Addr → Nat} {H H' : Hp} {m : Md} : Fps P g H H' m [] := by
  cases m with
  | flat => exact rfl
  | al fr rt L nd => exact ⟨fun a ha => (nomatch ha), fun _ => List.nodup_nil⟩
def Md.either (m m' : Md) : Md := (m.unroot.join1 m'.unroot).tup
theorem val_of_fps {mg : Mg} {P : Fm} {g : Addr → Nat} {H H' : Hp} {m : Md} {d : D} {v : V} {f : List Addr} (r : Rep mg H' d v f) (o : Fps P g H H' m f) : Val mg P g H H' m.tup d v := by
  cases m with
  | flat =>
    obtain rfl : f = [] := o
    exact r
  | al fr rt L nd => exact ⟨f, r, fun b hb => .inr ⟨.inr rfl, o.1 b hb⟩, .unk o.2⟩
theorem val_left {mg : Mg} {P : Fm} {LL : List Nat} {g : Addr → Nat} {H H' : Hp} {m m' : Md} {d : D} {v : V} (l : Loc P LL g H) (h : Val mg P g H H' m d v) : Val mg P g H H' (m.either m') d v := by
  obtain ⟨f, r, o⟩ := h.unroot
  have hz : Rep mg H' d v f → ∀ a ∈ f, H' a ≠ none := fun r a ha => r.there a ha
  unfold Md.either
  refine val_of_fps r ?_
  have := fps_join (m := m.unroot) (m' := m'.unroot) (f := f) (f' := []) (l := l) (e1 := Ext.refl) (e2 := Ext.refl) (H := H) (H1 := H) (H2 := H) (P := P) (g := g)
  cases hm : m.unroot with
  | flat =>
    rw [hm] at o
    obtain rfl : f = [] := o
    exact fps_none
  | al fr rt L nd =>
    rw [hm] at o
    cases hm' : m'.unroot with
    | flat => exact o
    | al fr' rt' L' nd' =>
      refine ⟨fun a ha => (o.1 a ha).imp (fun ⟨x, y⟩ => ⟨by rw [x]; rfl, y⟩) fun y => ⟨List.mem_append_left _ y.1, y.2⟩, fun hn => o.2 ?_⟩
      simp only [Bool.and_eq_true] at hn
      exact hn.1.1
theorem val_right {mg : Mg} {P : Fm} {g : Addr → Nat} {H H' : Hp} {m m' : Md} {d : D} {v : V} (h : Val mg P g H H' m' d v) : Val mg P g H H' (m.either m') d v := by
  obtain ⟨f, r, o⟩ := h.unroot
  unfold Md.either
  refine val_of_fps r ?_
  cases hm : m.unroot with
  | flat =>
    cases hm' : m'.unroot with
    | flat => rw [hm'] at o; exact o
    | al fr' rt' L' nd' => rw [hm'] at o; exact o
  | al fr rt L nd =>
    cases hm' : m'.unroot with
    | flat =>
      rw [hm'] at o
      obtain rfl : f = [] := o
      exact fps_none
    | al fr' rt' L' nd' =>
      rw [hm'] at o
      refine ⟨fun a ha => (o.1 a ha).imp (fun ⟨x, y⟩ => ⟨by rw [x]; cases fr <;> rfl, y⟩) fun y => ⟨List.mem_append_right _ y.1, y.2⟩, fun hn => o.2 ?_⟩
      simp only [Bool.and_eq_true] at hn
      exact hn.1.2
/-- what a dict holds -/
theorem dic_child {mg : Mg} {P : Fm} {g : Addr → Nat} {H H1 : Hp} {m : Md} {tk : Bool} {ks : List Ky} {l : List D} {v : V} (h : Val mg P g H H1 m (.dic tk ks l) v) :
    ∃ a vs f, v = .ref a ∧ RdD H1 a tk ks vs ∧ RepL mg H1 l vs f ∧ ∀ g1 g2 g3 d u, f = g1 ++ g2 ++ g3 → Rep mg H1 d u g2 → Val mg P g H H1 m.child d u := by
  obtain ⟨fp, r, o, lb, ch⟩ := h.labs
  simp only [Rep] at r
  obtain ⟨a1, vs, f, rfl, rd, rl, rfl⟩ := r
  refine ⟨a1, vs, f, rfl, rd, rl, fun g1 g2 g3 d u e rv => ?_⟩
  subst e
  have cf := ch g2 ⟨g1, g3, .inl ⟨a1, rfl, rfl⟩⟩
  cases hm : m.child with
  | flat =>
    rw [hm] at cf
    obtain rfl : g2 = [] := cf
    exact rv
  | al fr rt L nd =>
    rw [hm] at cf
    have hrt : rt = .unk := by
      unfold Md.child Md.unroot at hm
      cases m with
      | flat => cases hm
      | al fr' rt' L' nd' =>
        cases nd' <;> cases rt' <;> simp at hm <;> exact hm.2.1.symm
    subst hrt
    exact ⟨g2, rv, fun b hb => .inr ⟨.inr rfl, cf.1 b hb⟩, .unk cf.2⟩

/-! ### get, in -/
def dGet2 : List D → Option D
  | [.dic tk ks ds, x, z] => (x.ky tk).map fun k => (lkD ks ds k).getD z
  | _ => none
def dIn : List D → Option D
  | [x, .dic tk ks ds] => (x.ky tk).map fun k => .bl (lkD ks ds k).isSome
  | _ => none
def dNotIn : List D → Option D
  | [x, .dic tk ks ds] => (x.ky tk).map fun k => .bl (!(lkD ks ds k).isSome)
  | _ => none
section
variable {X : Cx} {LL : List Nat} {Γ : List Kd} {pos apos cpos : Pos} {a b c : Expr} {sa sb s2 : Ev} {ma mb mc : Md}
theorem ex_dget2 (hu : X.A.units + 1 < cLine) (ha : EX X LL Γ a sa ma) (hb : EX X LL Γ b sb mb) (hc : EX X LL Γ c s2 mc)
    (h1 : attributeBase a "get" X.env (eval a X.env) = eval a X.env := by rfl)
    (h2 : ((backTo cpos (starEach [b, c] X.env)).all (fun x => !x.1) && (backToKw cpos (keywordEach [] X.env)).all (fun x => x.1.isSome)
      && decide (([b, c] : List Expr).length + ([] : List Keyword).length + (if ([] : List Keyword).isEmpty then 0 else 1) < 30)) = true := by rfl)
    (h3 : (apos.endLine == cpos.line) = true := by rfl) (h4 : backTo cpos (starEach [b, c] X.env) = [(false, eval b X.env), (false, eval c X.env)] := by rfl) :
    EX X LL Γ (.Call (.Attribute a "get" apos) [b, c] [] cpos) (eP dGet2 (aCons sa (aCons sb (aCons s2 aNil)))) (ma.child.either mc) := by
  obtain ⟨ta, pa, ka⟩ := ha
  obtain ⟨tb, pb, kb⟩ := hb
  obtain ⟨tc, pc, kc⟩ := hc
  refine ⟨_, pe_dget2 hu pa pb pc ⟨h1, h2, h3, h4⟩, fun P g ρ σ H d Q s e q => ?_⟩
  obtain ⟨ds, e1, e⟩ := bind_some e
  obtain ⟨d1, ea, e1⟩ := bind_some e1
  obtain ⟨r1, er, e1⟩ := bind_some e1
  obtain ⟨d2, eb, er⟩ := bind_some er
  obtain ⟨r2, er2, er⟩ := bind_some er
  obtain ⟨d3, ec, er2⟩ := bind_some er2
  obtain ⟨r3, er3, er2⟩ := bind_some er2
  cases er3; cases er2; cases er; cases e1
  refine ka P g ρ σ H d1 _ s ea fun v H1 x1 w1 => ?_
  unfold dGet2 at e
  split at e
  · rename_i tk ks l x z eq
    cases eq
    simp only [Option.map_eq_some_iff] at e
    obtain ⟨k, ek, rfl⟩ := e
    obtain ⟨a1, vs, f, rfl, rd, rl, _⟩ := dic_child w1
    refine ⟨a1, rfl, rd.isD, ?_⟩
    refine kb P g ρ σ H1 _ _ (s.ext x1) eb fun y H2 x2 w2 => ?_
    refine kc P g ρ σ H2 _ _ (s.ext (x1.trans x2)) ec fun y3 H3 x3 w3 => ?_
    obtain ⟨a2, vs2, f2, e2, rd2, rl2, ch⟩ := dic_child (w1.ext (x2.trans x3))
    cases e2
    obtain ⟨fy, ry, _⟩ := (w2.ext x3).labs
    have xx := x1.trans (x2.trans x3)
    cases hk : lkD ks l k with
    | none =>
      rw [hk] at q
      exact ⟨none, dget_none rd2 rl2 ry ek hk, q y3 H3 xx (val_right (w3.back (x1.trans x2)))⟩
    | some d' =>
      rw [hk] at q
      obtain ⟨v2, g1, g2, g3, dg, rv, e4⟩ := dget_some rd2 rl2 ry ek hk
      exact ⟨some v2, dg, q v2 H3 xx (val_left s.loc (ch g1 g2 g3 _ _ e4 rv))⟩
  · cases e
theorem din_core (ha : EX X LL Γ a sa ma) (hb : EX X LL Γ b sb mb) : ∃ ta tb, PE X a ta ∧ PE X b tb ∧ ∀ P g ρ σ H tk ks l x k (Q : Bool → Hp → Prop), Sta X.vm P LL Γ g ρ σ H → sa ρ = some x → sb ρ = some (.dic tk ks l) → x.ky tk = some k →
    (∀ H2, Ext H H2 → Q (lkD ks l k).isSome H2) → ta σ H fun y H1 => tb σ H1 fun z H2 => ∃ a o, z = .ref a ∧ DGet H2 a y o ∧ Q o.isSome H2 := by
  obtain ⟨ta, pa, ka⟩ := ha
  obtain ⟨tb, pb, kb⟩ := hb
  refine ⟨ta, tb, pa, pb, fun P g ρ σ H tk ks l x k Q s ea eb ek q => ?_⟩
  refine ka P g ρ σ H _ _ s ea fun y H1 x1 w1 => ?_
  refine kb P g ρ σ H1 _ _ (s.ext x1) eb fun v H2 x2 w2 => ?_
  obtain ⟨a2, vs2, f2, rfl, rd2, rl2, _⟩ := dic_child w2
  obtain ⟨fy, ry, _⟩ := (w1.ext x2).labs
  have q := q H2 (x1.trans x2)
  cases hk : lkD ks l k with
  | none =>
    rw [hk] at q
    exact ⟨a2, none, rfl, dget_none rd2 rl2 ry ek hk, q⟩
  | some d' =>
    rw [hk] at q
    obtain ⟨v2, g1, g2, g3, dg, rv, _⟩ := dget_some rd2 rl2 ry ek hk
    exact ⟨a2, some v2, rfl, dg, q⟩
theorem din_inv {ρ : List D} {d : D} (e : eP dIn (aCons sa (aCons sb aNil)) ρ = some d) : ∃ tk ks l x k, sa ρ = some x ∧ sb ρ = some (.dic tk ks l) ∧ x.ky tk = some k ∧ d = .bl (lkD ks l k).isSome := by
  obtain ⟨ds, e1, e⟩ := bind_some e
  obtain ⟨d1, ea, e1⟩ := bind_some e1
  obtain ⟨r1, er, e1⟩ := bind_some e1
  obtain ⟨d2, eb, er⟩ := bind_some er
  obtain ⟨r2, er2, er⟩ := bind_some er
  cases er2; cases er; cases e1
  unfold dIn at e
  split at e
  · rename_i x tk ks l eq
    cases eq
    simp only [Option.map_eq_some_iff] at e
    obtain ⟨k, ek, rfl⟩ := e
    exact ⟨tk, ks, l, _, k, ea, eb, ek, rfl⟩
  · cases e
theorem dnin_inv {ρ : List D} {d : D} (e : eP dNotIn (aCons sa (aCons sb aNil)) ρ = some d) : ∃ tk ks l x k, sa ρ = some x ∧ sb ρ = some (.dic tk ks l) ∧ x.ky tk = some k ∧ d = .bl (!(lkD ks l k).isSome) := by
  obtain ⟨ds, e1, e⟩ := bind_some e
  obtain ⟨d1, ea, e1⟩ := bind_some e1
  obtain ⟨r1, er, e1⟩ := bind_some e1
  obtain ⟨d2, eb, er⟩ := bind_some er
  obtain ⟨r2, er2, er⟩ := bind_some er
  cases er2; cases er; cases e1
  unfold dNotIn at e
  split at e
  · rename_i x tk ks l eq
    cases eq
    simp only [Option.map_eq_some_iff] at e
    obtain ⟨k, ek, rfl⟩ := e
    exact ⟨tk, ks, l, _, k, ea, eb, ek, rfl⟩
  · cases e
theorem ex_din (hu : X.A.units + 1 < cLine) (ha : EX X LL Γ a sa ma) (hb : EX X LL Γ b sb mb) (hm : behindInMarks .In b = false := by rfl) : EX X LL Γ (.Compare a [.In] [b] pos) (eP dIn (aCons sa (aCons sb aNil))) .flat := by
  obtain ⟨ta, tb, pa, pb, k⟩ := din_core ha hb
  refine ⟨_, pe_cmp (pc_din hu pa pb) hm, fun P g ρ σ H d Q s e q => ?_⟩
  obtain ⟨tk, ks, l, x, kk, ea, eb, ek, rfl⟩ := din_inv e
  exact k P g ρ σ H tk ks l x kk (fun b H2 => Q (.bl b) H2) s ea eb ek fun H2 x2 => q _ H2 x2 (val_flat rep_bl)
theorem ex_dnotin (hu : X.A.units + 1 < cLine) (ha : EX X LL Γ a sa ma) (hb : EX X LL Γ b sb mb) (hm : behindInMarks .NotIn b = false := by rfl) : EX X LL Γ (.Compare a [.NotIn] [b] pos) (eP dNotIn (aCons sa (aCons sb aNil))) .flat := by
  obtain ⟨ta, tb, pa, pb, k⟩ := din_core ha hb
  refine ⟨_, pe_cmp (pc_dnotin hu pa pb) hm, fun P g ρ σ H d Q s e q => ?_⟩
  obtain ⟨tk, ks, l, x, kk, ea, eb, ek, rfl⟩ := dnin_inv e
  exact k P g ρ σ H tk ks l x kk (fun b H2 => Q (.bl !b) H2) s ea eb ek fun H2 x2 => q _ H2 x2 (val_flat rep_bl)
theorem et_din (hu : X.A.units + 1 < cLine) (ha : EX X LL Γ a sa ma) (hb : EX X LL Γ b sb mb) (hm : behindInMarks .In b = false := by rfl) : ET X LL Γ (.Compare a [.In] [b] pos) (tOf (eP dIn (aCons sa (aCons sb aNil)))) := by
  obtain ⟨ta, tb, pa, pb, k⟩ := din_core ha hb
  refine ⟨_, pt_cmp (pc_din hu pa pb) hm, fun P g ρ σ H b Q s e q => ?_⟩
  obtain ⟨d, e0, e⟩ := bind_some e
  obtain ⟨tk, ks, l, x, kk, ea, eb, ek, rfl⟩ := din_inv e0
  cases e
  exact k P g ρ σ H tk ks l x kk (fun b H2 => ∃ b', V.bl b = .bl b' ∧ Q b' H2) s ea eb ek fun H2 x2 => ⟨_, rfl, q H2 x2⟩
theorem et_dnotin (hu : X.A.units + 1 < cLine) (ha : EX X LL Γ a sa ma) (hb : EX X LL Γ b sb mb) (hm : behindInMarks .NotIn b = false := by rfl) : ET X LL Γ (.Compare a [.NotIn] [b] pos) (tOf (eP dNotIn (aCons sa (aCons sb aNil)))) := by
  obtain ⟨ta, tb, pa, pb, k⟩ := din_core ha hb
  refine ⟨_, pt_cmp (pc_dnotin hu pa pb) hm, fun P g ρ σ H b Q s e q => ?_⟩
  obtain ⟨d, e0, e⟩ := bind_some e
  obtain ⟨tk, ks, l, x, kk, ea, eb, ek, rfl⟩ := dnin_inv e0
  cases e
  exact k P g ρ σ H tk ks l x kk (fun b H2 => ∃ b', V.bl (!b) = .bl b' ∧ Q b' H2) s ea eb ek fun H2 x2 => ⟨_, rfl, q H2 x2⟩
end
end VV

/-! ## VDict3 -/
namespace VV
open PySem PySem.Spec PyProof.Rows L2

/-! ### what stands after a store, a removal -/
section
variable {mg : Mg} {H : Hp}
theorem zip_id {α : Type} {k : Ky} {d : α} : ∀ {ks : List Ky} {ds : List α}, ks.length = ds.length → k ∉ ks → (ks.zip ds).map (fun p => if p.1 = k then d else p.2) = ds
  | [], [], _, _ => rfl
  | k0 :: ks, d0 :: ds, hl, h => by
    simp only [List.zip_cons_cons, List.map_cons]
    rw [zip_id (by simpa using hl) fun z => h (List.mem_cons_of_mem _ z), if_neg fun z => h (by rw [← z]; exact List.mem_cons_self)]
  | [], _ :: _, hl, _ => by simp at hl
  | _ :: _, [], hl, _ => by simp at hl
theorem repL_repl {k : Ky} {d : D} {y : V} {fy : List Addr} (ry : Rep mg H d y fy) : ∀ {ks : List Ky} {ds : List D} {vs : List V} {f : List Addr}, ks.length = vs.length → ks.Nodup → k ∈ ks → RepL mg H ds vs f →
    ∃ f', RepL mg H ((ks.zip ds).map fun p => if p.1 = k then d else p.2) ((ks.zip vs).map fun p => if p.1 = k then y else p.2) f' ∧ (∀ b ∈ f', b ∈ f ∨ b ∈ fy) ∧ (f.Nodup → fy.Nodup → (∀ b ∈ f, b ∉ fy) → f'.Nodup)
  | [], _, _, _, _, _, hm, _ => nomatch hm
  | k0 :: ks, [], _, _, hl, _, _, h => by
    simp only [RepL] at h
    obtain ⟨rfl, _⟩ := h
    simp at hl
  | k0 :: ks, d0 :: ds, _, _, hl, hn, hm, h => by
    simp only [RepL] at h
    obtain ⟨v, r, f1, f2, rfl, h1, h2, rfl⟩ := h
    have hl2 : ks.length = r.length := by simpa using hl
    obtain ⟨hn1, hn2⟩ := List.nodup_cons.mp hn
    simp only [List.zip_cons_cons, List.map_cons]
    by_cases e : k0 = k
    · subst e
      rw [zip_id (by rw [hl2, h2.length]) hn1, zip_id hl2 hn1, if_pos rfl, if_pos rfl]
      refine ⟨fy ++ f2, ?_, fun b hb => ?_, fun n1 n2 dj => ?_⟩
      · simp only [RepL]; exact ⟨y, r, fy, f2, rfl, ry, h2, rfl⟩
      · exact (List.mem_append.mp hb).elim .inr fun z => .inl (List.mem_append_right _ z)
      · exact List.nodup_append.mpr ⟨n2, (List.nodup_append.mp n1).2.1, fun a ha b hb e => dj b (List.mem_append_right _ hb) (e ▸ ha)⟩
    · rw [if_neg e, if_neg e]
      have hm2 : k ∈ ks := (List.mem_cons.mp hm).elim (fun z => absurd z.symm e) id
      obtain ⟨f', g1, g2, g3⟩ := repL_repl ry hl2 hn2 hm2 h2
      refine ⟨f1 ++ f', ?_, fun b hb => ?_, fun n1 n2 dj => ?_⟩
      · simp only [RepL]; exact ⟨v, _, f1, f', rfl, h1, g1, rfl⟩
      · rcases List.mem_append.mp hb with z | z
        · exact .inl (List.mem_append_left _ z)
        · exact (g2 b z).imp (fun q => List.mem_append_right _ q) id
      · obtain ⟨a1, a2, a3⟩ := List.nodup_append.mp n1
        refine List.nodup_append.mpr ⟨a1, g3 a2 n2 fun b hb => dj b (List.mem_append_right _ hb), fun a ha b hb e => ?_⟩
        rcases g2 b hb with q | q
        · exact a3 a ha b q e
        · exact dj a (List.mem_append_left _ ha) (e ▸ q)
theorem repL_put {k : Ky} {d : D} {y : V} {fy : List Addr} {ks : List Ky} {ds : List D} {vs : List V} {f : List Addr} (ry : Rep mg H d y fy) (hl : ks.length = vs.length) (hn : ks.Nodup) (h : RepL mg H ds vs f) :
    ∃ f', RepL mg H (putDs ks ds k d) (putDs ks vs k y) f' ∧ (∀ b ∈ f', b ∈ f ∨ b ∈ fy) ∧ (f.Nodup → fy.Nodup → (∀ b ∈ f, b ∉ fy) → f'.Nodup) := by
  unfold putDs
  by_cases hm : k ∈ ks
  · rw [if_pos hm, if_pos hm]
    exact repL_repl ry hl hn hm h
  · rw [if_neg hm, if_neg hm]
    refine ⟨f ++ fy, h.append (.one ry), fun b hb => List.mem_append.mp hb, fun n1 n2 dj => List.nodup_append.mpr ⟨n1, n2, fun a ha b hb e => dj a ha (e ▸ hb)⟩⟩
theorem repL_del {k : Ky} : ∀ {ks : List Ky} {ds : List D} {vs : List V} {f : List Addr}, RepL mg H ds vs f → ∃ f', RepL mg H (delDs ks ds k) (delDs ks vs k) f' ∧ (∀ b ∈ f', b ∈ f) ∧ (f.Nodup → f'.Nodup)
  | [], ds, vs, f, h => ⟨[], by simp [delDs, RepL], (fun b hb => by cases hb), fun _ => List.nodup_nil⟩
  | k0 :: ks, [], _, _, h => by
    simp only [RepL] at h
    obtain ⟨rfl, rfl⟩ := h
    exact ⟨[], by simp [delDs, RepL], (fun b hb => by cases hb), fun _ => List.nodup_nil⟩
  | k0 :: ks, d0 :: ds, _, _, h => by
    simp only [RepL] at h
    obtain ⟨v, r, f1, f2, rfl, h1, h2, rfl⟩ := h
    obtain ⟨f', g1, g2, g3⟩ := repL_del (k := k) (ks := ks) h2
    unfold delDs at g1 ⊢
    by_cases e : k0 = k
    · refine ⟨f', ?_, fun b hb => List.mem_append_right _ (g2 b hb), fun n => g3 (List.nodup_append.mp n).2.1⟩
      simpa [e] using g1
    · refine ⟨f1 ++ f', ?_, fun b hb => ?_, fun n => ?_⟩
      · simp only [List.zip_cons_cons, List.filter_cons, e, ne_eq, not_false_eq_true, decide_true, if_true, List.map_cons, RepL]
        exact ⟨v, _, f1, f', rfl, h1, g1, rfl⟩
      · rcases List.mem_append.mp hb with z | z
        · exact List.mem_append_left _ z
        · exact List.mem_append_right _ (g2 b z)
      · obtain ⟨a1, a2, a3⟩ := List.nodup_append.mp n
        exact List.nodup_append.mpr ⟨a1, g3 a2, fun a ha b hb => a3 a ha b (g2 b hb)⟩
theorem putKs_nodup {ks : List Ky} {k : Ky} (h : ks.Nodup) : (putKs ks k).Nodup := by
  unfold putKs
  split
  · exact h
  · rename_i hm
    exact List.nodup_append.mpr ⟨h, by simp, fun a ha b hb e => hm (by rw [← List.mem_singleton.mp hb, ← e]; exact ha)⟩
/-- the heap behind a store -/
theorem rdD_put {a : Addr} {tk : Bool} {ks : List Ky} {vs : List V} {x : D} {y v : V} {fy : List Addr} {k : Ky} {o : HO} (r : RdD H a tk ks vs) (ry : Rep mg H x y fy) (ek : x.ky tk = some k) (hz : ks.length < sizeLine) (ho : H a = some o) (mu : Mut (some o)) :
    ∃ o', DPut H a y v (upd H a o') ∧ Mut (some o') ∧ RdD (upd H a o') a tk (putKs ks k) (putDs ks vs k v) := by
  obtain ⟨⟨hl, hn⟩, r⟩ := r
  have ex : ∀ {u : HO}, Rd H a u → u = o := fun {u} r => by
    rcases r with r | ⟨w, r⟩
    · rw [ho] at r; cases r; rfl
    · rw [ho] at r; cases r; exact mu.elim
  cases tk with
  | false =>
    obtain ⟨kl, rfl, r⟩ := r
    simp only [D.ky, Option.map_eq_some_iff] at ek
    obtain ⟨k1, e1, rfl⟩ := ek
    obtain rfl := ex r
    have hl2 : kl.length = vs.length := by simpa using hl
    obtain ⟨kl2, p1, p2, p3⟩ := put_zip (x := k1) (v := v) ky_k_inj hl2
    refine ⟨.dK (putK (kl.zip vs) k1 v), .inl ⟨_, k1, ho, rep_ky1 ry e1, ?_, rfl⟩, trivial, ⟨?_, putKs_nodup hn⟩, kl2, p1, .inl ?_⟩
    · rw [List.length_zip, hl2, Nat.min_self, ← hl2]; simpa using hz
    · rw [p1]; simpa using p3
    · rw [upd_same, p2]
  | true =>
    obtain ⟨kl, rfl, r⟩ := r
    cases x with
    | tup l =>
      simp only [D.ky, Option.map_eq_some_iff] at ek
      obtain ⟨k1, e1, rfl⟩ := ek
      obtain rfl := ex r
      simp only [Rep] at ry
      obtain ⟨b, us, rfl, hb, rb⟩ := ry
      rw [rep_kyL rb e1] at hb
      have hl2 : kl.length = vs.length := by simpa using hl
      obtain ⟨kl2, p1, p2, p3⟩ := put_zip (x := k1) (v := v) ky_t_inj hl2
      refine ⟨.dT (putK (kl.zip vs) k1 v), .inr ⟨_, k1, b, ho, rfl, hb, ?_, rfl⟩, trivial, ⟨?_, putKs_nodup hn⟩, kl2, p1, .inl ?_⟩
      · rw [List.length_zip, hl2, Nat.min_self, ← hl2]; simpa using hz
      · rw [p1]; simpa using p3
      · rw [upd_same, p2]
    | _ => cases ek
end

/-! ### d[k] = v -/
def dPut : D → D → D → Option D
  | .dic tk ks ds, x, v => (x.ky tk).bind fun k => if ks.length < 1000000 then some (.dic tk (putKs ks k) (putDs ks ds k v)) else none
  | _, _, _ => none
/-- the thing in the slot i gets v at x -/
def sPut (f : D → D → D → Option D) (i : Nat) (ex ev : Ev) : Sv := fun ρ => do
  let v ← ev ρ
  let x ← ex ρ
  let d ← ρ[i]?
  let z ← f d x v
  some (.nx (ρ.set i z))
theorem root_lab {P : Fm} {g : Addr → Nat} {n : Nat} {L : List Nat} {a : Addr} {f : List Addr} (q : ∀ b ∈ a :: f, (V.ref a = .ref b ∧ ∃ k, some n = some k ∧ Old P g [k] b) ∨ ((V.ref a ≠ .ref b ∨ some n = none) ∧ Old P g L b)) : g a = n := by
  rcases q a List.mem_cons_self with ⟨_, k, ek, y⟩ | ⟨y, _⟩
  · cases ek; exact List.mem_singleton.mp y.1
  · rcases y with y | y
    · exact absurd rfl y
    · cases y
section
variable {X : Cx} {W : L2.WX} {sc : Sc} {Γ : List Kd} {pos : Pos}
theorem sx_dput {i : Nat} {x : Str} {px pos' : Pos} {e j : Expr} {se sj : Ev} {m mj : Md} {n : Nat} {L : List Nat} {nd : Bool} (c : Nat) (hu : X.A.units + 1 < cLine) (hk : Γ[i]? = some (.lab (some n) L nd)) (hN : X.N[i]? = some x) (hv : Vis X.env.scope x)
    (he : EX X sc.LL Γ e se m) (hj : EX X sc.LL Γ j sj mj)
    (hn : n ≠ 0 := by decide) (hL : n ∉ sc.LL := by decide) (hm : n ∉ m.labs := by decide) (hc : c ≠ 0 := by decide) (hdb : (x == ("__debug__" : Str)) = false := by decide) (hcd : (x == ("__classdict__" : Str)) = false := by decide)
    (hs : swapsWith e (some (.Subscript (.Name x px) j pos')) pos.line X.env = pure false := by rfl) :
    SX X W sc Γ (.Assign [.Subscript (.Name x px) j pos'] e pos) (sPut dPut i sj se) ((killK n Γ).set i (Kd.push c (.lab (some n) L nd) m)) := by
  obtain ⟨t, pt, kk⟩ := he
  obtain ⟨tj, pj, kj⟩ := hj
  refine ⟨_, ps_dput hu (pe_var hN hv hdb hcd) pj pt hs, fun P g ρ σ H o De s e w => ?_⟩
  obtain ⟨d, e1, e⟩ := bind_some e
  obtain ⟨xk, e2, e⟩ := bind_some e
  obtain ⟨dd, e3, e⟩ := bind_some e
  obtain ⟨z, e4, e⟩ := bind_some e
  cases e
  obtain ⟨l', ov, h1, h2, h3⟩ := s.cells.get hk
  rw [e3] at h1; cases h1
  cases dd with
  | dic tk ks ds =>
    unfold dPut at e4
    obtain ⟨k, ek, e4⟩ := bind_some e4
    split at e4
    · rename_i hlen
      cases e4
      obtain ⟨v, fp, rfl, r, q, z⟩ := h3
      simp only [Rep] at r
      obtain ⟨a, vs, f, rfl, rd, rl, rfl⟩ := r
      have hga : g a = n := root_lab q
      have haf : a ∉ f := z.2 rfl a f rfl rfl
      refine kk P g ρ σ H d _ s e1 fun y H2 x2 wv => ?_
      refine ⟨.ref a, h2, ?_⟩
      refine kj P g ρ σ H2 xk _ (s.ext x2) e2 fun yk H3 x3 wk => ?_
      obtain ⟨fk, rk, _⟩ := wk.labs
      have x23 := x2.trans x3
      obtain ⟨o0, ho0, hmu⟩ := s.loc.at_ a (by rw [hga]; exact hn)
      have hmu : Mut (some o0) := by
        rcases hmu with hmu | hfz
        · exact hmu
        · have := (s.loc.fz a hfz).2
          rw [hga] at this
          exact (this.elim hn hL).elim
      have ho3 : H3 a = some o0 := x23 a _ ho0
      obtain ⟨fy, ry, oy, ndy, lby⟩ := (wv.ext x3).pushed (c := c) s.loc hc
      have hay : a ∉ fy := fun hm' => by
        rcases lby a hm' with y | y
        · have := y.1; rw [ho0] at this; cases this
        · have := y.1; rw [hga] at this; exact hm this
      have st2 : Sta X.vm P sc.LL Γ (relab g H H3 .non c c) ρ σ H3 := s.relab x23
      have hg2 : relab g H H3 .non c c a = n := by rw [relab_old (by rw [ho0]; simp)]; exact hga
      have rd3 : RdD H3 a tk ks vs := rd.keep fun u _ r => x23.rd r
      have rl3 := rl.ext x23
      obtain ⟨o', dp, mu', rd'⟩ := rdD_put (v := y) rd3 rk ek (by rw [sizeLine_eq]; omega) ho3 hmu
      refine ⟨a, _, rfl, dp, ?_⟩
      obtain ⟨f', g1, g2, g3⟩ := repL_put (k := k) ry rd3.1.1 rd3.1.2 rl3
      have haf' : a ∉ f' := fun hm => (g2 a hm).elim haf hay
      have oldf : ∀ b ∈ f, Old P g L b := fun b hb => by
        rcases q b (List.mem_cons_of_mem _ hb) with ⟨e, _⟩ | ⟨_, y⟩
        · cases e; exact absurd hb haf
        · exact y
      have cell : CellOk X.vm P (relab g H H3 .non c c) (upd H3 a o') (Kd.push c (.lab (some n) L nd) m) (.dic tk (putKs ks k) (putDs ks ds k d)) (some (.ref a)) := by
        refine ⟨.ref a, a :: f', rfl, ?_, fun b hb => ?_, fun hn' => ?_, fun _ b g' e1 e2 => ?_⟩
        · simp only [Rep]
          exact ⟨a, _, f', rfl, rd', repL_upd g1 haf' ho3 hmu, rfl⟩
        · rcases List.mem_cons.mp hb with rfl | hb
          · exact .inl ⟨rfl, n, rfl, by rw [hg2]; exact List.mem_singleton.mpr rfl, fun z => by rw [hg2] at z; exact absurd z hn⟩
          · rcases g2 b hb with hb' | hb'
            · have y' := Old.relab (H' := H3) (v := .non) (n := c) (m := c) (oldf b hb') s.loc
              exact .inr ⟨.inl fun e => by cases e; exact haf hb', List.mem_append_left _ y'.1, y'.2⟩
            · have y' := oy b hb'
              exact .inr ⟨.inl fun e => by cases e; exact hay hb', List.mem_append_right _ y'.1, y'.2⟩
        · simp only [Bool.and_eq_true] at hn'
          obtain ⟨⟨n1, n2⟩, dj⟩ := hn'
          refine List.nodup_cons.mpr ⟨haf', g3 (List.nodup_cons.mp (z.1 n1)).2 (ndy n2) fun b hb hb' => ?_⟩
          rcases lby b hb' with y | y
          · exact (oldf b hb).there s.loc y.1
          · exact disj_ok dj (oldf b hb).1 y.1
        · cases e2
          exact haf'
      obtain ⟨s3, st3⟩ := st2.put (o' := o') ho3 hmu mu' hg2 hn hL h2 cell
      exact w _ σ _ ((Step.relab x23).trans st3) s3
    · cases e4
  | _ => cases e4
end

/-! ### d.pop(k), a statement -/
def dPop : D → D → Option D
  | .dic false ks ds, x => (x.ky false).bind fun k => if (lkD ks ds k).isSome then some (.dic false (delKs ks k) (delDs ks ds k)) else none
  | _, _ => none
section
variable {X : Cx} {W : L2.WX} {sc : Sc} {Γ : List Kd} {pos : Pos}
theorem sx_dpop {i : Nat} {x : Str} {px ap cp : Pos} {j : Expr} {sj : Ev} {mj : Md} {n : Nat} {L : List Nat} {nd : Bool} (hk : Γ[i]? = some (.lab (some n) L nd)) (hN : X.N[i]? = some x) (hv : Vis X.env.scope x)
    (hj : EX X sc.LL Γ j sj mj)
    (hn : n ≠ 0 := by decide) (hL : n ∉ sc.LL := by decide) (hdb : (x == ("__debug__" : Str)) = false := by decide) (hcd : (x == ("__classdict__" : Str)) = false := by decide)
    (m1 : attributeBase (.Name x px) "pop" X.env (eval (.Name x px) X.env) = eval (.Name x px) X.env := by rfl)
    (m2 : ((backTo cp (starEach [j] X.env)).all (fun x => !x.1) && (backToKw cp (keywordEach [] X.env)).all (fun x => x.1.isSome)
      && decide (([j] : List Expr).length + ([] : List Keyword).length + (if ([] : List Keyword).isEmpty then 0 else 1) < 30)) = true := by rfl)
    (m3 : (ap.endLine == cp.line) = true := by rfl) (m4 : backTo cp (starEach [j] X.env) = [(false, eval j X.env)] := by rfl)
    (hsw : swapsWith (.Call (.Attribute (.Name x px) "pop" ap) [j] [] cp) none pos.line X.env = pure false := by rfl) :
    SX X W sc Γ (.Expr (.Call (.Attribute (.Name x px) "pop" ap) [j] [] cp) pos) (sMut dPop i sj) ((killK n Γ).set i (.lab (some n) L nd)) := by
  obtain ⟨tj, pj, kj⟩ := hj
  refine ⟨_, ps_expr (pe_dpop1 (pe_var hN hv hdb hcd) pj ⟨m1, m2, m3, m4⟩) hsw, fun P g ρ σ H o De s e w => ?_⟩
  obtain ⟨xk, e2, e⟩ := bind_some e
  obtain ⟨dd, e3, e⟩ := bind_some e
  obtain ⟨z, e4, e⟩ := bind_some e
  cases e
  obtain ⟨l', ov, h1, h2, h3⟩ := s.cells.get hk
  rw [e3] at h1; cases h1
  unfold dPop at e4
  split at e4
  · rename_i dd' xx ks ds
    obtain ⟨k, ek, e4⟩ := bind_some e4
    split at e4
    · rename_i hsome
      cases e4
      obtain ⟨v, fp, rfl, r, q, z⟩ := h3
      simp only [Rep] at r
      obtain ⟨a, vs, f, rfl, rd, rl, rfl⟩ := r
      have hga : g a = n := root_lab q
      have haf : a ∉ f := z.2 rfl a f rfl rfl
      refine ⟨.ref a, h2, a, rfl, rd.isD, ?_⟩
      refine kj P g ρ σ H _ _ s e2 fun yk H3 x3 wk => ?_
      obtain ⟨fk, rk, _⟩ := wk.labs
      obtain ⟨o0, ho0, hmu⟩ := s.loc.at_ a (by rw [hga]; exact hn)
      have hmu : Mut (some o0) := by
        rcases hmu with hmu | hfz
        · exact hmu
        · have := (s.loc.fz a hfz).2
          rw [hga] at this
          exact (this.elim hn hL).elim
      have ho3 : H3 a = some o0 := x3 a _ ho0
      have rd3 : RdD H3 a false ks vs := rd.keep fun u _ r => x3.rd r
      have rl3 := rl.ext x3
      obtain ⟨⟨hl, hnd⟩, kl, rfl, rk3⟩ := rd3
      simp only [D.ky, Option.map_eq_some_iff] at ek
      obtain ⟨k1, ek1, rfl⟩ := ek
      have ho : H3 a = some (.dK (kl.zip vs)) := by
        rcases rk3 with r | ⟨u, r⟩
        · exact r
        · rw [ho3] at r; cases r; exact hmu.elim
      obtain ⟨d', hd'⟩ := Option.isSome_iff_exists.mp hsome
      obtain ⟨v0, _, _, _, ev0, _, _⟩ := lk_some ky_k_inj rl3 hd'
      have hl2 : kl.length = vs.length := by simpa using hl
      obtain ⟨kl2, p1, p2, p3⟩ := del_zip (x := k1) ky_k_inj hl2
      refine ⟨_, k1, v0, ho, rep_ky1 rk ek1, ev0, ?_⟩
      obtain ⟨f', g1, g2, g3⟩ := repL_del (k := Ky.k k1) (ks := kl.map Ky.k) rl3
      have haf' : a ∉ f' := fun hm => haf (g2 a hm)
      have cell : CellOk X.vm P g (upd H3 a (.dK (dropK (kl.zip vs) k1))) (.lab (some n) L nd) (.dic false (delKs (kl.map Ky.k) (Ky.k k1)) (delDs (kl.map Ky.k) ds (Ky.k k1))) (some (.ref a)) := by
        refine ⟨.ref a, a :: f', rfl, ?_, fun b hb => ?_, fun hn' => ?_, fun _ b g' e1 e2 => ?_⟩
        · simp only [Rep]
          refine ⟨a, _, f', rfl, ⟨⟨by rw [p1]; simpa using p3, ?_⟩, kl2, p1, .inl ?_⟩, repL_upd g1 haf' ho trivial, rfl⟩
          · exact List.Nodup.sublist List.filter_sublist hnd
          · rw [upd_same, p2]
        · rcases List.mem_cons.mp hb with rfl | hb
          · exact q b List.mem_cons_self
          · exact q b (List.mem_cons_of_mem _ (g2 b hb))
        · exact List.nodup_cons.mpr ⟨haf', g3 (List.nodup_cons.mp (z.1 hn')).2⟩
        · cases e2
          exact haf'
      obtain ⟨s3, st3⟩ := (s.ext x3).put (o' := .dK (dropK (kl.zip vs) k1)) ho trivial trivial hga hn hL h2 cell
      exact w _ σ _ ((Step.ext x3).trans st3) s3
    · cases e4
  · cases e4
end
end VV

/-! ## VDict4 -/
namespace VV
open PySem PySem.Spec PyProof.Rows L2

/-! ### a dict is locked while its keys are walked -/
def IsDK (u : HO) : Prop := (∃ kvs, u = .dK kvs) ∨ ∃ kvs, u = .dT kvs
section
variable {mg : Mg} {P : Fm} {LL : List Nat} {g : Addr → Nat} {H : Hp} {a : Addr} {u : HO} {od : Obj}
theorem IsDK.mut (h : IsDK u) : Mut (some u) := by rcases h with ⟨_, rfl⟩ | ⟨_, rfl⟩ <;> trivial
theorem kp_lock (ha : H a = some u) (hu : IsDK u) (b : Addr) : Kp H (upd H a (.frz od u)) b := by
  refine ⟨fun w _ r => ?_, fun vs r => ?_⟩
  · by_cases e : b = a
    · subst e
      rcases r with r | ⟨o, r⟩
      · rw [ha] at r; cases r
        exact .inr ⟨od, upd_same⟩
      · rw [ha] at r; cases r
        rcases hu with ⟨_, z⟩ | ⟨_, z⟩ <;> cases z
    · unfold Rd at r ⊢
      rw [upd_ne e]; exact r
  · have : b ≠ a := fun e => by subst e; rw [ha] at r; cases r; rcases hu with ⟨_, z⟩ | ⟨_, z⟩ <;> cases z
    rw [upd_ne this]; exact r
theorem kpT_lock {u' : HO} (ha : H a = some u) (hu : ∀ xs, u ≠ .tup xs) (hu2 : ∀ o vs, u ≠ .frz o (.lst vs) ∧ u ≠ .frz o (.tup vs)) : KpT H (upd H a u') := by
  refine ⟨fun b xs r => ?_, fun b o vs r => ?_, fun b o vs r => ?_⟩
  · have : b ≠ a := fun e => by subst e; rw [ha] at r; cases r; exact hu _ rfl
    rw [upd_ne this]; exact r
  · have : b ≠ a := fun e => by subst e; rw [ha] at r; cases r; exact (hu2 _ _).1 rfl
    rw [upd_ne this]; exact r
  · have : b ≠ a := fun e => by subst e; rw [ha] at r; cases r; exact (hu2 _ _).2 rfl
    rw [upd_ne this]; exact r
theorem kp_free (ha : H a = some (.frz od u)) (hu : IsDK u) (b : Addr) : Kp H (upd H a u) b := by
  refine ⟨fun w hw r => ?_, fun vs r => ?_⟩
  · by_cases e : b = a
    · subst e
      rcases r with r | ⟨o, r⟩
      · rw [ha] at r; cases r
        exact hw.elim
      · rw [ha] at r; cases r
        exact .inl upd_same
    · unfold Rd at r ⊢
      rw [upd_ne e]; exact r
  · have : b ≠ a := fun e => by subst e; rw [ha] at r; cases r
    rw [upd_ne this]; exact r
theorem CellOk.all {P' : Fm} {H' : Hp} {k : Kd} {d : D} {v : Option V} (c : CellOk mg P g H k d v) (hP : P'.out = P.out) (kp : ∀ b, Kp H H' b) (kt : KpT H H') : CellOk mg P' g H' k d v := by
  cases k with
  | dead => trivial
  | exc _ _ => exact c
  | flat => obtain ⟨v, rfl, r⟩ := c; exact ⟨v, rfl, r.keep (fun b _ => kp b) kt⟩
  | lab rt L nd =>
    obtain ⟨v, fp, rfl, r, q⟩ := c
    refine ⟨v, fp, rfl, r.keep (fun b _ => kp b) kt, ?_⟩
    unfold Old at q ⊢
    rw [hP]; exact q
theorem Cells.all {P' : Fm} {H' : Hp} (hP : P'.out = P.out) (kp : ∀ b, Kp H H' b) (kt : KpT H H') : ∀ {Γ : List Kd} {ρ : List D} {σ : L2.St}, Cells mg P g H Γ ρ σ → Cells mg P' g H' Γ ρ σ
  | [], [], [], _ => trivial
  | _ :: _, _ :: _, _ :: _, h => ⟨h.1.all hP kp kt, Cells.all hP kp kt h.2⟩
  | [], _ :: _, _, h => h.elim
  | [], [], _ :: _, h => h.elim
  | _ :: _, [], _, h => h.elim
  | _ :: _, _ :: _, [], h => h.elim
theorem RV.all {P' : Fm} {H' : Hp} {R : Rm} {d : D} {v : V} (r : RV mg P g H R d v) (hP : P'.out = P.out) (kp : ∀ b, Kp H H' b) (kt : KpT H H') : RV mg P' g H' R d v := by
  cases R with
  | flat => exact Rep.keep r (fun b _ => kp b) kt
  | fresh => obtain ⟨fp, r, q⟩ := r; exact ⟨fp, r.keep (fun b _ => kp b) kt, q⟩
  | out => obtain ⟨fp, r, q⟩ := r; exact ⟨fp, r.keep (fun b _ => kp b) kt, by rw [hP]; exact q⟩
/-- the frame with a locked -/
def Fm.lk (P : Fm) (a : Addr) : Fm := ⟨P.out, fun b => P.frz b ∨ b = a⟩
theorem Loc.lock {LL' : List Nat} (l : Loc P LL g H) (hs : ∀ n ∈ LL, n ∈ LL') (ha : H a = some u) (hl : VV.lk LL' (g a)) : Loc (P.lk a) LL' g (upd H a (.frz od u)) := by
  refine ⟨fun b hb => ?_, fun b hb => ?_, fun b hb => ?_⟩
  · by_cases e : b = a
    · subst e; exact ⟨_, upd_same, .inr (.inr rfl)⟩
    · rw [upd_ne e]
      obtain ⟨o, q, m⟩ := l.at_ b hb
      exact ⟨o, q, m.imp id .inl⟩
  · by_cases e : b = a
    · subst e; rw [upd_same]; simp
    · rw [upd_ne e]; exact l.out b hb
  · by_cases e : b = a
    · subst e; exact ⟨⟨_, _, upd_same⟩, hl⟩
    · have hb : P.frz b := hb.elim id fun z => absurd z e
      rw [upd_ne e]
      exact ⟨(l.fz b hb).1, (l.fz b hb).2.imp id (hs _)⟩
end
theorem forL_noct {t : Tv} {b : Sv} : ∀ {xs ρ ρ'}, forL t b xs ρ ≠ some (.ct ρ')
  | [], ρ, ρ', e => by cases e
  | x :: xs, ρ, ρ', e => by
    unfold forL at e
    cases h : t x ρ with
    | none => rw [h] at e; cases e
    | some ρ1 =>
      rw [h] at e
      dsimp only at e
      cases h2 : b ρ1 with
      | none => rw [h2] at e; cases e
      | some o =>
        rw [h2] at e
        cases o with
        | nx ρ2 => exact forL_noct e
        | ct ρ2 => exact forL_noct e
        | rt d => cases e
        | ex c r => cases e
/-- for x in d, d the dict in the slot i: nothing raised in it -/
def sForK (i : Nat) (t : Tv) (b : Sv) : Sv := fun ρ => match ρ[i]? with
  | some (.dic _ ks _) => match forL t b (ks.map Ky.d) ρ with
    | some (.ex _ _) => none
    | o => o
  | _ => none
def Kd.roots : Kd → List Nat
  | .lab rt L _ => (match rt with | some n => n :: L | none => L)
  | _ => []
theorem ps_or {X : Cx} {st : Stmt} {t t' : TS} (p : PS X st t) (p' : PS X st t') : PS X st (fun D σ H => t D σ H ∨ t' D σ H) := ⟨fun pins s σ H D I h => h.elim (p.run pins s σ H D I) (p'.run pins s σ H D I)⟩
section
variable {X : Cx} {W : L2.WX} {sc : Sc} {Γ Γ1 : List Kd} {pos : Pos}
theorem iter_keysD {mg : Mg} {P : Fm} {g : Addr → Nat} {H : Hp} {a : Addr} {od : Obj} {tk : Bool} {ks : List Ky} {vs : List V} {labs : List Nat} {kl : List L2.Key} (hk : ks = kl.map Ky.k) (hl : ks.length = vs.length) (ha : H a = some (.frz od (.dK (kl.zip vs)))) (ho : Old P g labs a) :
    Iter mg P g H H (Itk a od (kl.zip vs)) labs .flat (ks.map Ky.d) := by
  subst hk
  have hl : kl.length = vs.length := by simpa using hl
  have hz : (kl.zip vs).length = kl.length := by rw [List.length_zip, ← hl, Nat.min_self]
  refine ⟨[a], fun b hb => .inr (by rw [List.mem_singleton.mp hb]; exact ho), fun H2 kp => ?_⟩
  have h2 : H2 a = some (.frz od (.dK (kl.zip vs))) := kp.1 a List.mem_cons_self _ ha
  refine ⟨fun i d hi => ?_, ⟨h2, by rw [hz]; simp⟩⟩
  rw [List.map_map, List.getElem?_map] at hi
  obtain ⟨k, e1, rfl⟩ := Option.map_eq_some_iff.mp hi
  have hlt : i < kl.length := (List.getElem?_eq_some_iff.mp e1).1
  refine ⟨⟨h2, by rw [hz]; exact hlt⟩, fun x H3 y => ?_⟩
  obtain ⟨rfl, k', v', e2, rfl⟩ := y
  have e3 : kl[i]? = some k' := by
    have := (List.getElem?_zip_eq_some.mp e2).1
    exact this
  rw [e1] at e3; cases e3
  exact ⟨Ext.refl, [], rep_keyD, rfl, fun b hb => nomatch hb⟩
theorem iter_keysDT {mg : Mg} {P : Fm} {g : Addr → Nat} {H : Hp} {a : Addr} {od : Obj} {tk : Bool} {ks : List Ky} {vs : List V} {labs : List Nat} {kl : List (List L2.Key)} (hk : ks = kl.map Ky.t) (hl : ks.length = vs.length) (ha : H a = some (.frz od (.dT (kl.zip vs)))) (ho : Old P g labs a) :
    Iter mg P g H H (Itkt a od (kl.zip vs)) labs .flat (ks.map Ky.d) := by
  subst hk
  have hl : kl.length = vs.length := by simpa using hl
  have hz : (kl.zip vs).length = kl.length := by rw [List.length_zip, ← hl, Nat.min_self]
  refine ⟨[a], fun b hb => .inr (by rw [List.mem_singleton.mp hb]; exact ho), fun H2 kp => ?_⟩
  have h2 : H2 a = some (.frz od (.dT (kl.zip vs))) := kp.1 a List.mem_cons_self _ ha
  refine ⟨fun i d hi => ?_, ⟨h2, by rw [hz]; simp⟩⟩
  rw [List.map_map, List.getElem?_map] at hi
  obtain ⟨k, e1, rfl⟩ := Option.map_eq_some_iff.mp hi
  have hlt : i < kl.length := (List.getElem?_eq_some_iff.mp e1).1
  refine ⟨⟨h2, by rw [hz]; exact hlt⟩, fun x H3 y => ?_⟩
  obtain ⟨rfl, k', v', q, e2, rfl, hq⟩ := y
  have e3 : kl[i]? = some k' := (List.getElem?_zip_eq_some.mp e2).1
  rw [e1] at e3; cases e3
  refine ⟨Ext.refl, [], ?_, rfl, fun b hb => nomatch hb⟩
  show Rep mg H3 (.tup (k.map keyD)) (.ref q) []
  simp only [Rep]
  exact ⟨q, _, rfl, hq, repL_keys⟩
theorem sx_fork {i : Nat} {x : Str} {px : Pos} {tg : Expr} {body : List Stmt} {t : Tv} {sb : Sv} {S : List Nat} {k : Kd} (n : Nat) (hc : X.calm = true) (hp : PassesOwn (model X.prog X.w) X.A X.env X.xe)
    (hk : Γ[i]? = some k) (hd : k.use = true) (hN : X.N[i]? = some x) (hv : Vis X.env.scope x)
    (hg : EG X Γ tg .flat t Γ1 S) (hb : SS X W { sc with LL := n :: (k.roots ++ (k.roots ++ sc.LL)), Γc := Γ } Γ1 body sb Γ)
    (hs : ∀ y, foldedSetIterable (.Name x px) X.env y = pure y := by intro _; rfl) (hn : n ≠ 0 := by decide) (hdb : (x == ("__debug__" : Str)) = false := by decide) (hcd : (x == ("__classdict__" : Str)) = false := by decide) : SX X W sc Γ (.For tg (.Name x px) body [] pos) (sForK i t sb) Γ := by
  obtain ⟨tgt, pg, kg⟩ := hg
  obtain ⟨tb, pb, kb⟩ := hb
  have pf := ps_for hp hc (pi_keys (tg := tg) (pe_var (pos := px) hN hv hdb hcd)) pg pb hs (pos := pos)
  refine ⟨_, ps_or (ps_lock pf) pf, fun P g ρ σ H o De s e w => ?_⟩
  obtain ⟨d', ov, h1, h2, h3⟩ := s.cells.get hk
  unfold sForK at e
  rw [h1] at e
  cases d' with
  | dic tk ks ds =>
    dsimp only at e
    cases he : forL t sb (ks.map Ky.d) ρ with
    | none => rw [he] at e; cases e
    | some o1 =>
      rw [he] at e
      obtain ⟨a, vs, f, rv, rd, rl, ho⟩ : ∃ a vs f, ov = some (.ref a) ∧ RdD H a tk ks vs ∧ RepL X.vm H ds vs f ∧ Old P g k.roots a := by
        cases k with
        | dead => cases hd
        | exc _ _ => cases hd
        | flat =>
          obtain ⟨v, rfl, r⟩ := h3
          simp only [Rep] at r
          obtain ⟨_, _, _, _, _, _, z⟩ := r
          cases z
        | lab rt L nd =>
          obtain ⟨v, fp, rfl, r, q, z⟩ := h3
          simp only [Rep] at r
          obtain ⟨a, vs, f, rfl, rd, rl, rfl⟩ := r
          refine ⟨a, vs, f, rfl, rd, rl, ?_⟩
          rcases q a List.mem_cons_self with ⟨_, n', rfl, y⟩ | ⟨_, y⟩
          · exact ⟨by rw [List.mem_singleton.mp y.1]; exact List.mem_cons_self, y.2⟩
          · refine ⟨?_, y.2⟩
            cases rt with
            | none => exact y.1
            | some m => exact List.mem_cons_of_mem _ y.1
      subst rv
      have hlka : VV.lk (k.roots ++ sc.LL) (g a) := .inr (List.mem_append_left _ ho.1)
      have sub : ∀ n ∈ sc.LL, n ∈ k.roots ++ sc.LL := fun n hn => List.mem_append_right _ hn
      obtain ⟨⟨hl, hnd⟩, rd⟩ := rd
      obtain ⟨u0, hu0, ru0, mk⟩ : ∃ u0, IsDK u0 ∧ Rd H a u0 ∧ ∀ (P' : Fm) (H' : Hp) (od : Obj) (R : It → Hp → Prop), H' a = some (.frz od u0) → Old P' g k.roots a → (∀ J, Iter X.vm P' g H' H' J k.roots .flat (ks.map Ky.d) → R J H') → iKeys (tVar i) σ H' R := by
        cases tk with
        | false =>
          obtain ⟨kl, rfl, r⟩ := rd
          exact ⟨_, .inl ⟨_, rfl⟩, r, fun P' H' od R h' o' q => ⟨.ref a, h2, a, od, rfl, .inl ⟨_, h', q _ (iter_keysD (tk := false) rfl hl h' o')⟩⟩⟩
        | true =>
          obtain ⟨kl, rfl, r⟩ := rd
          exact ⟨_, .inr ⟨_, rfl⟩, r, fun P' H' od R h' o' q => ⟨.ref a, h2, a, od, rfl, .inr ⟨_, h', q _ (iter_keysDT (tk := true) rfl hl h' o')⟩⟩⟩
      have kg' : ∀ P LL g ρ σ H d v ρ' (Q : L2.St → Hp → Prop), Sta X.vm P LL Γ g ρ σ H → CellOk X.vm P g H (Md.flat.kindI n) d (some v) → t d ρ = some ρ' → (∀ σ', Sta X.vm P LL Γ1 g ρ' σ' H → Wp S σ σ' → Q σ' H) → tgt v σ H Q := kg
      rcases ru0 with ha | ⟨od, ha⟩
      · left
        refine ⟨a, u0, ha, hu0.mut, fun od => ?_⟩
        have st : Sta X.vm (P.lk a) (k.roots ++ sc.LL) Γ g ρ σ (upd H a (.frz od u0)) := by
          refine ⟨s.loc.lock sub ha hlka, Cells.all (P := P) (P' := P.lk a) rfl (kp_lock ha hu0) (kpT_lock ha ?_ ?_) s.cells⟩
          · intro xs z; rcases hu0 with ⟨_, q⟩ | ⟨_, q⟩ <;> rw [q] at z <;> cases z
          · intro o vs; constructor <;> intro z <;> rcases hu0 with ⟨_, q⟩ | ⟨_, q⟩ <;> rw [q] at z <;> cases z
        refine for_run (sc := { sc with LL := k.roots ++ sc.LL }) (labs := k.roots) (me := .flat) kg' kb hn st (fun R q => mk _ _ od R upd_same ho fun J it => q J _ Ext.refl it) he ?_
        -- back
        have back : ∀ {g' : Addr → Nat} {H'' : Hp}, Step (k.roots ++ sc.LL) g (upd H a (.frz od u0)) g' H'' → Loc (P.lk a) (k.roots ++ sc.LL) g' H'' → H'' a = some (.frz od u0) ∧ Step sc.LL g H g' (upd H'' a u0) ∧ Loc P sc.LL g' (upd H'' a u0) := fun {g' H''} st' l' => by
          have h'' : H'' a = some (.frz od u0) := st'.kp a hlka _ upd_same
          have sp : Step sc.LL g H g' (upd H'' a u0) := by
            refine ⟨fun b hb w hw => ?_, fun b hb hl => ?_, fun b hb => ?_⟩
            · by_cases e : b = a
              · subst e; rw [upd_same]; rw [ha] at hw; exact hw
              · rw [upd_ne e]
                exact st'.kp b (hb.imp id (sub _)) w (by rw [upd_ne e]; exact hw)
            · refine st'.lk b ?_ (hl.imp id (sub _))
              by_cases e : b = a
              · subst e; rw [upd_same]; simp
              · rw [upd_ne e]; exact hb
            · by_cases e : b = a
              · subst e; rw [upd_same]; simp
              · rw [upd_ne e]
                exact st'.th b (by rw [upd_ne e]; exact hb)
          refine ⟨h'', sp, ⟨fun b hb => ?_, fun b hb => ?_, fun b hb => ?_⟩⟩
          · by_cases e : b = a
            · subst e; exact ⟨_, upd_same, .inl hu0.mut⟩
            · rw [upd_ne e]
              obtain ⟨o, q, m⟩ := l'.at_ b hb
              exact ⟨o, q, m.imp id fun z => z.elim id fun z => absurd z e⟩
          · by_cases e : b = a
            · subst e; rw [upd_same]; simp
            · rw [upd_ne e]; exact l'.out b hb
          · have e : b ≠ a := fun e => by
              subst e
              obtain ⟨⟨o, w, q⟩, _⟩ := s.loc.fz b hb
              rw [ha] at q; cases q
              rcases hu0 with ⟨_, z⟩ | ⟨_, z⟩ <;> cases z
            rw [upd_ne e]
            refine ⟨(l'.fz b (.inl hb)).1, ?_⟩
            rw [sp.lk b (s.loc.fzn hb) (s.loc.fz b hb).2]
            exact (s.loc.fz b hb).2
        have kpf : ∀ {H'' : Hp}, H'' a = some (.frz od u0) → KpT H'' (upd H'' a u0) := fun {H''} h'' => kpT_lock h'' (fun xs z => nomatch z) fun o vs => by
          constructor <;> intro z <;> cases z <;> rcases hu0 with ⟨_, q⟩ | ⟨_, q⟩ <;> cases q
        cases o1 with
        | nx ρ' =>
          cases e
          intro g' σ' H'' st' s'
          obtain ⟨b1, b2, b3⟩ := back st' s'.loc
          exact ⟨b1, w g' σ' _ b2 ⟨b3, Cells.all (P := P.lk a) (P' := P) rfl (kp_free b1 hu0) (kpf b1) s'.cells⟩⟩
        | ct ρ' => exact absurd he forL_noct
        | rt d =>
          cases e
          intro v g' H'' st' l' r
          obtain ⟨b1, b2, b3⟩ := back st' l'
          exact ⟨b1, w v g' _ b2 b3 (RV.all (P := P.lk a) (P' := P) r rfl (kp_free b1 hu0) (kpf b1))⟩
        | ex c ρ' => cases e
      · right
        have st : Sta X.vm P (k.roots ++ sc.LL) Γ g ρ σ H := ⟨s.loc.up sub, s.cells⟩
        refine for_run (sc := { sc with LL := k.roots ++ sc.LL }) (labs := k.roots) (me := .flat) kg' kb hn st (fun R q => mk _ _ od R ha ho fun J it => q J _ Ext.refl it) he ?_
        cases o1 with
        | nx ρ' =>
          cases e
          intro g' σ' H'' st' s'
          have h := st'.sub sub
          exact w g' σ' H'' h ⟨s'.loc.down s.loc h, s'.cells⟩
        | ct ρ' => exact absurd he forL_noct
        | rt d =>
          cases e
          intro v g' H'' st' l' r
          have h := st'.sub sub
          exact w v g' H'' h (l'.down s.loc h) r
        | ex c ρ' => cases e
  | _ => cases e
end
end VV

/-! ## VDict5 -/
namespace VV
open PySem PySem.Spec PyProof.Rows L2

/-! ### {}, dict(d), list(d) -/
def dDicC : List D → Option D
  | [.dic false ks ds] => some (.dic false ks ds)
  | _ => none
def dKeysL : List D → Option D
  | [.dic false ks _] => some (.lst (ks.map Ky.d))
  | _ => none
section
variable {X : Cx} {LL : List Nat} {Γ : List Kd} {pos : Pos}
theorem ex_dnewK : EX X LL Γ (.Dict [] [] pos) (eC (.dic false [] [])) (.al false .new [] true) := by
  refine ⟨_, pe_dnewK, fun P g ρ σ H d Q s e q => ?_⟩
  cases e
  intro p hp
  refine q _ _ (Ext.put hp) ⟨[p], ?_, fun b hb => ?_, .of (by simp)⟩
  · simp only [Rep, RepL]
    exact ⟨p, [], [], rfl, ⟨⟨rfl, List.nodup_nil⟩, [], rfl, .inl upd_same⟩, ⟨rfl, rfl⟩, rfl⟩
  · obtain rfl := List.mem_singleton.mp hb
    exact .inl ⟨rfl, hp, by rw [upd_same]; trivial⟩
theorem ex_dnewT : EX X LL Γ (.Dict [] [] pos) (eC (.dic true [] [])) (.al false .new [] true) := by
  refine ⟨_, pe_dnewT, fun P g ρ σ H d Q s e q => ?_⟩
  cases e
  intro p hp
  refine q _ _ (Ext.put hp) ⟨[p], ?_, fun b hb => ?_, .of (by simp)⟩
  · simp only [Rep, RepL]
    exact ⟨p, [], [], rfl, ⟨⟨rfl, List.nodup_nil⟩, [], rfl, .inl upd_same⟩, ⟨rfl, rfl⟩, rfl⟩
  · obtain rfl := List.mem_singleton.mp hb
    exact .inl ⟨rfl, hp, by rw [upd_same]; trivial⟩
theorem zip_keys {kl : List L2.Key} {vs : List V} (h : kl.length = vs.length) : (kl.zip vs).map (fun kv => kV kv.1) = kl.map kV := by
  induction kl generalizing vs with
  | nil => simp
  | cons k kl ih =>
    cases vs with
    | nil => simp at h
    | cons v vs => simp only [List.zip_cons_cons, List.map_cons]; rw [ih (by simpa using h)]
theorem repL_kys {mg : Mg} {H : Hp} {l : List L2.Key} : RepL mg H ((l.map Ky.k).map Ky.d) (l.map kV) [] := by
  rw [List.map_map]
  exact repL_keys
theorem cp_keysL : CP X (fun xs H Q => ∃ (a : Addr) (kvs : List (L2.Key × V)), xs = [.ref a] ∧ Rd H a (.dK kvs) ∧ ∀ p, H p = none → Q (.ref p) (upd H p (.lst (kvs.map fun kv => kV kv.1)))) dKeysL (fun _ => .al false .new [] true) := by
  intro P LL g H H1 m ds vs d Q l x vl e q
  obtain ⟨fp, r⟩ := vl.rep
  unfold dKeysL at e
  split at e
  · rename_i ks l0
    cases e
    obtain ⟨v, rfl, h1⟩ := repL1 r
    simp only [Rep] at h1
    obtain ⟨a, us, f, rfl, ⟨⟨hl, _⟩, kl, rfl, rd⟩, rl, _⟩ := h1
    refine ⟨a, _, rfl, rd, fun p hp => q _ _ (Ext.put hp) ⟨[p], ?_, fun b hb => ?_, .of (by simp)⟩⟩
    · simp only [Rep]
      rw [zip_keys (by simpa using hl)]
      exact ⟨p, _, [], rfl, upd_same, repL_kys, rfl⟩
    · obtain rfl := List.mem_singleton.mp hb
      exact .inl ⟨rfl, x.nope hp, by rw [upd_same]; trivial⟩
  · cases e
theorem cp_dicC : CP X (fun xs H Q => ∃ (a : Addr) (kvs : List (L2.Key × V)), xs = [.ref a] ∧ Rd H a (.dK kvs) ∧ ∀ p, H p = none → Q (.ref p) (upd H p (.dK kvs))) dDicC Md.lst := by
  intro P LL g H H1 m ds vs d Q l x vl e q
  obtain ⟨fp, r, o⟩ := vl
  unfold dDicC at e
  split at e
  · rename_i ks l0
    cases e
    obtain ⟨v, rfl, h1⟩ := repL1 r
    simp only [Rep] at h1
    obtain ⟨a, us, f, rfl, rd0, rl, rfl⟩ := h1
    obtain ⟨⟨hl, hn⟩, kl, rfl, rd⟩ := rd0
    refine ⟨a, _, rfl, rd, fun p hp => q _ _ (Ext.put hp) ?_⟩
    have rr : Rep X.vm (upd H1 p (.dK (kl.zip us))) (.dic false (kl.map Ky.k) l0) (.ref p) (p :: f) := by
      simp only [Rep]
      exact ⟨p, us, f, rfl, ⟨⟨hl, hn⟩, kl, rfl, .inl upd_same⟩, rl.ext (Ext.put hp), rfl⟩
    have mu : New H (upd H1 p (.dK (kl.zip us))) p := ⟨x.nope hp, by rw [upd_same]; trivial⟩
    have hpf : p ∉ f := fun hm => rl.there p hm hp
    have o := o.ext (Ext.put hp (o := .dK (kl.zip us)))
    cases m with
    | flat => cases (show a :: f = [] from o)
    | al fr rt L nd =>
      refine ⟨p :: f, rr, fun b hb => ?_, .cons hpf fun h => (List.nodup_cons.mp (o.2 h)).2⟩
      rcases List.mem_cons.mp hb with rfl | hb
      · exact .inl ⟨rfl, mu⟩
      · exact .inr ⟨.inl fun e => by cases e; exact hpf hb, o.1 b (List.mem_cons_of_mem _ hb)⟩
  · cases e
end
end VV

/-! ## VEqX -/
namespace PySem.SeqAt
open AutoSeq1 (wpAny_loadPart')
open MeetsSeq MeetsSeq2 MeetsSeq3 SeqRoads2
/-! ### != of lists whose items are told equal in one model -/
abbrev LAt (h : Heap) (l : Addr) (xs : Array Value) (n : Nat) (dd : Option Addr) (sl : Array (Option Value)) : Prop :=
  h.get? l = some { cls := .type "list", dict := dd, data := .seq xs n, slots := sl }
def AllEq (prog : Program) (w : World) (A : Around) (s : Shared) (xs ys : Array Value) : Prop :=
  ∀ j (p : j < xs.size) (q : j < ys.size), EqP prog w A s xs[j] ys[j] true
section
variable {prog : Program} {w : World} {l b : Addr} {xs ys : Array Value} {n m : Nat} {dd de : Option Addr} {sl sm : Array (Option Value)}
theorem vne_loop (hsz : xs.size = ys.size) : ∀ (k i : Nat), xs.size - i = k →
    MeetsIn prog w (Builtin.«list.__eq__.loop» ⟨[.ref l, .ref b, rawInt i, rawInt 3], []⟩)
      (fun A R s => LAt s.heap l xs n dd sl ∧ LAt s.heap b ys m de sm ∧
        AllEq prog w A.in1 s xs ys ∧ R (.ok (.ret (.bool false))) s)
  | 0, i, hk => by
    intro A R s h
    obtain ⟨hp, g, d, tk, os⟩ := s
    obtain ⟨hl, hb, he, h⟩ := h
    wp_walk using wpAny_loadPart' hl, wpAny_loadPart' hb
    have n1 : xs[((i : Nat) : Int).toNat]? = none := by simp; omega
    have n2 : ys[((i : Nat) : Int).toNat]? = none := by simp; omega
    rw [n1, n2]
    wp_walk using wpAny_loadPart' hl, wpAny_loadPart' hb
    show R (.ok (.ret (.bool (xs.size != ys.size)))) _
    simpa [hsz] using h
  | k + 1, i, hk => by
    intro A R s h
    obtain ⟨hp, g, d, tk, os⟩ := s
    obtain ⟨hl, hb, he, h⟩ := h
    wp_walk using wpAny_loadPart' hl, wpAny_loadPart' hb
    have p1 : i < xs.size := by omega
    have p2 : i < ys.size := by omega
    have n1 : xs[((i : Nat) : Int).toNat]? = some xs[i] := by simp [p1]
    have n2 : ys[((i : Nat) : Int).toNat]? = some ys[i] := by simp [p2]
    have hc : ((i : Int) + 1) = ((i + 1 : Nat) : Int) := by push_cast; rfl
    rw [n1, n2]
    refine wpAny_bind (he i p1 p2 _ _ ?_)
    wp_walk
    rw [hc]
    refine ⟨plainId_quiet plain_eq_loop _, codeAny_builtin entry_eq_loop ?_⟩
    rw [Around.under_plainId plain_eq_loop _]
    exact vne_loop hsz k (i + 1) (by omega) A R _ ⟨hl, hb, he, h⟩
theorem vne_meets (hsz : xs.size = ys.size) : MeetsIn prog w (Builtin.«list.__ne__» ⟨[.ref l, .ref b], []⟩)
      (fun A R s => LAt s.heap l xs n dd sl ∧ LAt s.heap b ys m de sm ∧
        AllEq prog w A.in1 s xs ys ∧ R (.ok (.ret (.bool false))) s) := by
  intro A R s h
  obtain ⟨hp, g, d, tk, os⟩ := s
  obtain ⟨hl, hb, he, h⟩ := h
  have f3 := AutoSeq1.sub_list_list
  have hne : ¬ (xs.size != ys.size) = true := by simp [hsz]
  wp_walk using wpAny_loadPart' hl, wpAny_loadPart' hb
  refine ⟨plainId_quiet plain_eq_loop _, codeAny_builtin entry_eq_loop ?_⟩
  rw [Around.under_plainId plain_eq_loop _]
  exact vne_loop hsz _ 0 rfl A R _ ⟨hl, hb, he, h⟩
theorem vne_lists {A : Around} {s : Shared} (hl : s.heap.IsList l xs) (hb : s.heap.IsList b ys) (hsz : xs.size = ys.size) (hu : A.units < cLine) (he : AllEq prog w A.in1 s xs ys)
    (E Q : Value → Shared → Prop) (h : Q (.bool false) s) : wpAny (model prog w) A (richCompare .NotEq (.ref l) (.ref b)) Q E s := by
  obtain ⟨⟨cls, dd, data, sl⟩, ho, hc, n, hd⟩ := id hl
  obtain ⟨⟨cls2, de, data2, sm⟩, ho2, hc2, m, hd2⟩ := id hb
  simp only at hc hd hc2 hd2
  subst hc hd hc2 hd2
  have t1 : s.TypeIs (.ref l) "list" := ⟨_, ho, rfl⟩
  have t2 : s.TypeIs (.ref b) "list" := ⟨_, ho2, rfl⟩
  refine wpAny_richCompare_same_room (op := .NotEq) t1 t2 F.slot_list_ne (call_meetsIn F.slot_list_ne t1 F.entry_list_ne (F.args_list_ne_2 _ _) (vne_meets (n := n) (m := m) (dd := dd) (de := de) (sl := sl) (sm := sm) hsz) ⟨ho, ho2, he, ?_⟩) hu
  exact (show Value.bool false ≠ Value.notImplemented ∧ Q (.bool false) s from ⟨(fun x => nomatch x), h⟩)
end
end PySem.SeqAt

/-! ## VEqY -/
namespace PySem.W
section
variable {prog : Program} {w : World} {K : Type} [DecidableEq K] {knd : PySem.KeyKind prog w K} {A : Around} {E : Value → Shared → Prop} {s : Shared}
end
end PySem.W
namespace VV
open PySem PySem.Spec PyProof.Rows L2

/-! ### equal things, dicts among them -/
/-- two lists of things alike, two dicts of things alike -/
def EqR2 (K : PySem.W.Frag) (H : Hp) (F : V → V → Prop) (x y : V) : Prop :=
  (∃ a b xs ys, x = .ref a ∧ y = .ref b ∧ SqL K H a xs ∧ SqL K H b ys ∧ Paired F xs ys) ∨
    ∃ a b ks ls, x = .ref a ∧ y = .ref b ∧ Rd H a (.dK ks) ∧ Rd H b (.dK ls) ∧ ks.length = ls.length ∧ ∀ p ∈ ks, ∃ u, valV ls p.1 = some u ∧ F p.2 u
def EqW (K : PySem.W.Frag) (H : Hp) : Nat → V → V → Prop
  | 0 => fun _ _ => False
  | n + 1 => fun x y => (∃ d e, Dp K H x d ∧ Dp K H y e ∧ d.canLay0 = true ∧ e.canLay0 = true ∧ d.depth ≤ n ∧ PyData.eqv d e = true) ∨ EqR2 K H (EqW K H n) x y
section
variable {X : Cx} {pins : List (Addr × Obj)} {σ : L2.St} {H : Hp} {s : Shared}
theorem eqR2_run (I : Inv X pins σ H s) {A : Around} {F : V → V → Prop} (hu : A.units < cLine) (ih : ∀ x y v u, F x y → RelV x v → RelV y u → SeqAt.EqP X.prog X.w A.in1 s v u true) {x y : V} {v u : Value}
    (h : EqR2 X.K H F x y) (rx : RelV x v) (ry : RelV y u) (E Q : Value → Shared → Prop) (q : Q (.bool true) s) : wpAny (model X.prog X.w) A (richCompare .Eq v u) Q E s := by
  rcases h with ⟨a, b, xs, ys, rfl, rfl, ha, hb, hp⟩ | ⟨a, b, ks, ls, rfl, rfl, ha, hb, hl, hp⟩
  · exact eqR_run I hu ih (.inl ⟨a, b, xs, ys, rfl, rfl, ha, hb, hp⟩) rx ry E Q q
  · cases (show v = Value.ref a from rx)
    cases (show u = Value.ref b from ry)
    obtain ⟨_, ya, va, ra, da⟩ := dk_rd I.hok ha
    obtain ⟨_, yb, vb, rb, db⟩ := dk_rd I.hok hb
    refine PySem.W.rcP_dicts (knd := mixKind X.prog X.w) (r := true) ya yb da db hu (fun _ => hits_run ih rb ra hp) E Q ?_
    have e : (va.length == vb.length && true) = true := by rw [← ra.length, ← rb.length, hl]; simp
    rw [e]
    exact q
theorem eqW_run (I : Inv X pins σ H s) : ∀ (n : Nat) (A : Around), A.units + n < cLine → ∀ (x y : V) (v u : Value), EqW X.K H n x y → RelV x v → RelV y u → SeqAt.EqP X.prog X.w A s v u true
  | 0, _, _, _, _, _, _, h, _, _ => h.elim
  | n + 1, A, hu, x, y, v, u, h, rx, ry => by
    rcases h with ⟨d, e, hd, he, c1, c2, dp, ev⟩ | h
    · obtain ⟨as, r1⟩ := Dp.reads I d x v hd rx
      obtain ⟨bs, r2⟩ := Dp.reads I e y u he ry
      have := SeqAt.eqAt_reads d e A s v u as bs r1 r2 c1 c2 (by have := Nat.min_le_left d.depth e.depth; omega)
      rw [ev] at this
      exact this.eqP
    · have step := eqR2_run I (A := A) (by omega) (eqW_run I n A.in1 (by show A.units + 1 + n < cLine; omega)) h rx ry
      obtain ⟨a, b, rfl, rfl⟩ : ∃ a b, x = .ref a ∧ y = .ref b := by
        rcases h with ⟨a, b, _, _, e1, e2, _⟩ | ⟨a, b, _, _, e1, e2, _⟩ <;> exact ⟨a, b, e1, e2⟩
      cases (show v = Value.ref a from rx)
      cases (show u = Value.ref b from ry)
      by_cases e : a = b
      · subst e
        exact (SeqAt.EqAt.same _).eqP
      · exact SeqAt.eqP_refs e step
end
section
variable {X : Cx}
def rEqW (K : PySem.W.Frag) : R2 := fun x y H Q => rEqD K x y H Q ∨ (EqR2 K H (EqW K H 50) x y ∧ Q (.bl true) H)
theorem op_eqW (hu : X.A.units + 64 < cLine) : OpR X (compareOp .Eq) (rEqW X.K) := by
  intro pins s σ H x y v u Q I rx ry h
  rcases h with h | ⟨h, q⟩
  · exact op_eqD hu pins s σ H x y v u Q I rx ry h
  · exact eqR2_run I (A := X.A) (by omega) (eqW_run I 50 X.A.in1 (by show X.A.units + 1 + 50 < cLine; omega)) h rx ry _ _ ⟨.bl true, H, I, rfl, q⟩
end

/-! ### as trees -/
def D.sameR (f : D → D → Bool) : D → D → Bool
  | .lst l, .lst r => l.length == r.length && (l.zip r).all fun p => f p.1 p.2
  | .dic false ks l, .dic false ks' l' => ks.length == ks'.length && (ks.zip l).all fun p => match lkD ks' l' p.1 with
    | some d => f p.2 d
    | none => false
  | _, _ => false
def D.same : Nat → D → D → Bool
  | 0, _, _ => false
  | n + 1, a, b => (a.toP.canLay0 && b.toP.canLay0 && decide (a.toP.depth ≤ n) && a.eqv b) || D.sameR (D.same n) a b
section
variable {mg : Mg} {H : Hp}
theorem paired_same {f : D → D → Bool} {F : V → V → Prop} (hF : ∀ a b x y g1 g2, Rep mg H a x g1 → Rep mg H b y g2 → f a b = true → F x y) : ∀ {l r : List D} {vs us : List V} {g1 g2 : List Addr}, RepL mg H l vs g1 → RepL mg H r us g2 →
    l.length = r.length → ((l.zip r).all fun p => f p.1 p.2) = true → Paired F vs us
  | [], [], _, _, _, _, h1, h2, _, _ => by
    simp only [RepL] at h1 h2
    obtain ⟨rfl, _⟩ := h1
    obtain ⟨rfl, _⟩ := h2
    exact .nil
  | a :: l, b :: r, _, _, _, _, h1, h2, hl, h => by
    simp only [RepL] at h1 h2
    obtain ⟨v, vs, f1, f2, rfl, r1, r2, _⟩ := h1
    obtain ⟨u, us, e1, e2, rfl, k1, k2, _⟩ := h2
    simp only [List.zip_cons_cons, List.all_cons, Bool.and_eq_true] at h
    exact .cons (hF a b v u _ _ r1 k1 h.1) (paired_same hF r2 k2 (by simpa using hl) h.2)
  | [], _ :: _, _, _, _, _, _, _, hl, _ => by simp at hl
  | _ :: _, [], _, _, _, _, _, _, hl, _ => by simp at hl
theorem entries_same {f : D → D → Bool} {F : V → V → Prop} (hF : ∀ a b x y g1 g2, Rep mg H a x g1 → Rep mg H b y g2 → f a b = true → F x y) {kl' : List L2.Key} {l' : List D} {us : List V} {g2 : List Addr} (k2 : RepL mg H l' us g2) :
    ∀ {kl : List L2.Key} {l : List D} {vs : List V} {g1 : List Addr}, RepL mg H l vs g1 → (((kl.map Ky.k).zip l).all fun p => match lkD (kl'.map Ky.k) l' p.1 with | some d => f p.2 d | none => false) = true →
      ∀ p ∈ kl.zip vs, ∃ u, valV (kl'.zip us) p.1 = some u ∧ F p.2 u
  | [], _, _, _, _, _, p, hp => by simp at hp
  | k :: kl, [], _, _, h1, _, p, hp => by
    simp only [RepL] at h1
    obtain ⟨rfl, _⟩ := h1
    simp at hp
  | k :: kl, d :: l, _, _, h1, h, p, hp => by
    simp only [RepL] at h1
    obtain ⟨v, vs, f1, f2, rfl, r1, r2, _⟩ := h1
    simp only [List.map_cons, List.zip_cons_cons, List.all_cons, Bool.and_eq_true] at h
    rcases List.mem_cons.mp (show p ∈ (k, v) :: kl.zip vs from hp) with e | e
    · subst e
      have h0 := h.1
      cases hk : lkD (kl'.map Ky.k) l' (Ky.k k) with
      | none => rw [hk] at h0; cases h0
      | some d' =>
        rw [hk] at h0
        obtain ⟨u, _, _, _, e1, e2, _⟩ := lk_some ky_k_inj k2 hk
        exact ⟨u, e1, hF _ _ _ _ _ _ r1 e2 h0⟩
    · exact entries_same hF k2 r2 h.2 p e
theorem sameR_ok {f : D → D → Bool} {F : V → V → Prop} (hF : ∀ a b x y g1 g2, Rep mg H a x g1 → Rep mg H b y g2 → f a b = true → F x y) {a b : D} {x y : V} {g1 g2 : List Addr} (r1 : Rep mg H a x g1) (r2 : Rep mg H b y g2) (h : D.sameR f a b = true) : EqR2 mg.K H F x y := by
  unfold D.sameR at h
  split at h
  · simp only [Bool.and_eq_true, beq_iff_eq] at h
    simp only [Rep] at r1 r2
    obtain ⟨a, vs, _, rfl, ha, l1, _⟩ := r1
    obtain ⟨b, us, _, rfl, hb, l2, _⟩ := r2
    exact .inl ⟨a, b, vs, us, rfl, rfl, SqL.of ha, SqL.of hb, paired_same hF l1 l2 h.1 h.2⟩
  · simp only [Bool.and_eq_true, beq_iff_eq] at h
    simp only [Rep] at r1 r2
    obtain ⟨a, vs, _, rfl, ⟨⟨n1, _⟩, kl, rfl, ha⟩, l1, _⟩ := r1
    obtain ⟨b, us, _, rfl, ⟨⟨n2, _⟩, kl', rfl, hb⟩, l2, _⟩ := r2
    refine .inr ⟨a, b, _, _, rfl, rfl, ha, hb, ?_, entries_same hF l2 l1 h.2⟩
    have h0 := h.1
    simp only [List.length_map] at h0 n1 n2
    rw [List.length_zip, List.length_zip, ← n1, ← n2, Nat.min_self, Nat.min_self, h0]
  · cases h
theorem same_ok : ∀ (n : Nat) (a b : D) (x y : V) (g1 g2 : List Addr), Rep mg H a x g1 → Rep mg H b y g2 → D.same n a b = true → EqW mg.K H n x y
  | 0, _, _, _, _, _, _, _, _, h => by cases h
  | n + 1, a, b, x, y, g1, g2, r1, r2, h => by
    simp only [D.same, Bool.or_eq_true, Bool.and_eq_true, decide_eq_true_eq] at h
    rcases h with ⟨⟨⟨c1, c2⟩, dp⟩, ev⟩ | h
    · exact .inl ⟨_, _, r1.dp c1, r2.dp c2, c1, c2, dp, ev⟩
    · exact .inr (sameR_ok (fun a b x y g1 g2 => same_ok n a b x y g1 g2) r1 r2 h)
end
def dEqX : List D → Option D
  | [a, b] => if a.shd && b.shd then some (.bl (a.eqv b)) else if D.sameR (D.same 50) a b then some (.bl true) else none
  | _ => none
section
variable {X : Cx} {LL : List Nat} {Γ : List Kd} {pos : Pos} {a b : Expr} {sa sb : Ev} {ma mb : Md}
theorem cp_eqX : CP X (r2 (rEqW X.K)) dEqX toFlat := by
  intro P LL g H H1 m ds vs d Q l x vl e q
  obtain ⟨fp, r⟩ := vl.rep
  unfold dEqX at e
  split at e
  · obtain ⟨v, w, f1, f2, rfl, h1, h2, _⟩ := repL2 r
    split at e
    · cases e
      rename_i h
      rw [Bool.and_eq_true] at h
      exact ⟨v, w, rfl, .inl ⟨_, _, h1.dp (SeqAt.canLay_of_shaped h.1), h2.dp (SeqAt.canLay_of_shaped h.2), h.1, h.2, q _ H1 Ext.refl (val_flat rep_bl)⟩⟩
    · split at e
      · cases e
        rename_i h
        exact ⟨v, w, rfl, .inr ⟨sameR_ok (fun a b x y g1 g2 => same_ok 50 a b x y g1 g2) h1 h2 h, q _ H1 Ext.refl (val_flat rep_bl)⟩⟩
      · cases e
  · cases e
theorem ex_eqX (hu : X.A.units + 64 < cLine) (ha : EX X LL Γ a sa ma) (hb : EX X LL Γ b sb mb) : EX X LL Γ (.Compare a [.Eq] [b] pos) (eP dEqX (aCons sa (aCons sb aNil))) .flat := ex_cmp (op_eqW hu) cp_eqX ha hb (nomark _)
theorem et_eqX (hu : X.A.units + 64 < cLine) (ha : EX X LL Γ a sa ma) (hb : EX X LL Γ b sb mb) : ET X LL Γ (.Compare a [.Eq] [b] pos) (tOf (eP dEqX (aCons sa (aCons sb aNil)))) := et_cmp (op_eqW hu) cp_eqX ha hb (nomark _)
end
end VV

/-! ## VNeY -/
namespace VV
open PySem PySem.Spec PyProof.Rows L2
section
variable {prog : Program} {w : World} {K : Type} [DecidableEq K] {knd : KeyKind prog w K} {A : Around} {s : Shared}
open PyProof.V PySem.Calls in
theorem vne_dicts {a b : Addr} {ka kb : List (K × Value)} (ha : (a == sysModules) = false) (hb : (b == sysModules) = false) (da : s.heap.DictOf knd a ka) (db : s.heap.DictOf knd b kb) (hu : A.units < cLine)
    (hl : ka.length = kb.length) (hits : PySem.W.KeqHitsP prog w A.in1 s kb ka true) (E Q : Value → Shared → Prop) (h : Q (.bool false) s) : wpAny (model prog w) A (richCompare .NotEq (.ref a) (.ref b)) Q E s := by
  have same : ∀ {nm : String} {Q' : Bool → Shared → Prop} {E' : Value → Shared → Prop}, Q' true s → wpAny (model prog w) A.in1 (Builtin.Dict.samePairs nm a b) Q' E' s := fun {nm Q' E'} q =>
    PySem.W.samePairsP ha hb da db (fun _ => hits) (by rw [hl]; simpa using q)
  refine wpAny_richCompare_same_room (op := .NotEq) da.typeIs db.typeIs PySem.F.slot_dict_ne
    (wpAny_call_entry PySem.F.slot_dict_ne da.typeIs PySem.F.entry_dict_ne ?_ (PySem.F.args_dict_ne_2 _ _)) hu
  show wpAny _ _ (Builtin.Dict.dictSlotArgs "__ne__" ⟨[.ref a, .ref b], []⟩ >>= _) _ _ s
  refine wpAny_bind (by
    unfold Builtin.Dict.dictSlotArgs
    refine wpAny_bind (wpAny_notOrdered_dict da.typeIs (show wpAny _ _ (pure (Value.ref a, Value.ref b)) _ _ s from wpAny_pure (wpAny_bind (wpAny_isInstance (T := "dict") db.typeIs PySem.F.sub_dict_dict ?_))))
    simp only [Bool.not_true, Bool.false_eq_true, if_false]
    refine wpAny_bind (wpAny_pure (wpAny_bind (wpAny_pure (wpAny_bind (same ?_)))))
    exact wpAny_pure ⟨_, rfl, (fun x => nomatch x), h⟩)
end
section
variable {X : Cx} {pins : List (Addr × Obj)} {σ : L2.St} {H : Hp} {s : Shared}
theorem neR2_run (I : Inv X pins σ H s) {A : Around} {F : V → V → Prop} (hu : A.units < cLine) (ih : ∀ x y v u, F x y → RelV x v → RelV y u → SeqAt.EqP X.prog X.w A.in1 s v u true) {x y : V} {v u : Value}
    (h : EqR2 X.K H F x y) (rx : RelV x v) (ry : RelV y u) (E Q : Value → Shared → Prop) (q : Q (.bool false) s) : wpAny (model X.prog X.w) A (richCompare .NotEq v u) Q E s := by
  rcases h with ⟨a, b, xs, ys, rfl, rfl, ha, hb, hp⟩ | ⟨a, b, ks, ls, rfl, rfl, ha, hb, hl, hp⟩
  · cases (show v = Value.ref a from rx)
    cases (show u = Value.ref b from ry)
    obtain ⟨us, r1, p1, _⟩ := I.list ha
    obtain ⟨ws, r2, p2, _⟩ := I.list hb
    have hsz : us.toArray.size = ws.toArray.size := by simp [← r1.length, ← r2.length, Paired.length hp]
    refine SeqAt.vne_lists p1.isList p2.isList hsz hu (fun j h1 h2 => ?_) E Q q
    have k := items_run ih hp r1 r2 j (by simpa using h1) (by simpa using h2)
    simpa using k
  · cases (show v = Value.ref a from rx)
    cases (show u = Value.ref b from ry)
    obtain ⟨_, ya, va, ra, da⟩ := dk_rd I.hok ha
    obtain ⟨_, yb, vb, rb, db⟩ := dk_rd I.hok hb
    exact vne_dicts (knd := mixKind X.prog X.w) ya yb da db hu (by rw [← ra.length, ← rb.length, hl]) (hits_run ih rb ra hp) E Q q
end
section
variable {X : Cx}
def rNeW (K : PySem.W.Frag) : R2 := fun x y H Q => rNeD K x y H Q ∨ (EqR2 K H (EqW K H 50) x y ∧ Q (.bl false) H)
theorem op_neW (hu : X.A.units + 64 < cLine) : OpR X (compareOp .NotEq) (rNeW X.K) := by
  intro pins s σ H x y v u Q I rx ry h
  rcases h with h | ⟨h, q⟩
  · exact op_neD hu pins s σ H x y v u Q I rx ry h
  · exact neR2_run I (A := X.A) (by omega) (eqW_run I 50 X.A.in1 (by show X.A.units + 1 + 50 < cLine; omega)) h rx ry _ _ ⟨.bl false, H, I, rfl, q⟩
end
def dNeX : List D → Option D
  | [a, b] => if a.shd && b.shd then some (.bl (!a.eqv b)) else if D.sameR (D.same 50) a b then some (.bl false) else none
  | _ => none
section
variable {X : Cx} {LL : List Nat} {Γ : List Kd} {pos : Pos} {a b : Expr} {sa sb : Ev} {ma mb : Md}
theorem cp_neX : CP X (r2 (rNeW X.K)) dNeX toFlat := by
  intro P LL g H H1 m ds vs d Q l x vl e q
  obtain ⟨fp, r⟩ := vl.rep
  unfold dNeX at e
  split at e
  · obtain ⟨v, w, f1, f2, rfl, h1, h2, _⟩ := repL2 r
    split at e
    · cases e
      rename_i h
      rw [Bool.and_eq_true] at h
      exact ⟨v, w, rfl, .inl ⟨_, _, h1.dp (SeqAt.canLay_of_shaped h.1), h2.dp (SeqAt.canLay_of_shaped h.2), h.1, h.2, q _ H1 Ext.refl (val_flat rep_bl)⟩⟩
    · split at e
      · cases e
        rename_i h
        exact ⟨v, w, rfl, .inr ⟨sameR_ok (fun a b x y g1 g2 => same_ok 50 a b x y g1 g2) h1 h2 h, q _ H1 Ext.refl (val_flat rep_bl)⟩⟩
      · cases e
  · cases e
theorem ex_neX (hu : X.A.units + 64 < cLine) (ha : EX X LL Γ a sa ma) (hb : EX X LL Γ b sb mb) : EX X LL Γ (.Compare a [.NotEq] [b] pos) (eP dNeX (aCons sa (aCons sb aNil))) .flat := ex_cmp (op_neW hu) cp_neX ha hb (nomark _)
theorem et_neX (hu : X.A.units + 64 < cLine) (ha : EX X LL Γ a sa ma) (hb : EX X LL Γ b sb mb) : ET X LL Γ (.Compare a [.NotEq] [b] pos) (tOf (eP dNeX (aCons sa (aCons sb aNil)))) := et_cmp (op_neW hu) cp_neX ha hb (nomark _)
end
end VV

/-! ## VIsi -/
namespace VV
open PySem PySem.Spec PyProof.Rows L2

/-! ### isinstance(x, T), T a built-in type -/
def D.tyN : D → Option String
  | .non => some "NoneType"
  | .bl _ => some "bool"
  | .int _ => some "int"
  | .str _ => some "str"
  | .tup _ => some "tuple"
  | .lst _ => some "list"
  | .scr _ => some "list"
  | .dic false _ _ => some "dict"
  | _ => none
theorem rep_ty {mg : Mg} {H : Hp} {d : D} {v : V} {fp : List Addr} {n : String} (r : Rep mg H d v fp) (h : d.tyN = some n) : TyX mg.K H v (.type n) := by
  cases d with
  | non => cases h; rw [rNon r]; exact .base .non
  | bl b => cases h; rw [rBl r]; exact .base (.bl b)
  | int i => cases h; rw [rInt r]; exact .base (.int i)
  | str s => cases h; rw [rStr r]; exact .base (.str s)
  | kti l => cases h
  | tup l =>
    cases h
    simp only [Rep] at r
    obtain ⟨a, vs, rfl, e, _⟩ := r
    exact .base (.tup e)
  | lst l =>
    cases h
    simp only [Rep] at r
    obtain ⟨a, vs, f, rfl, e, _⟩ := r
    exact .base (.lst e)
  | scr l =>
    cases h
    simp only [Rep] at r
    obtain ⟨a, vs, rfl, e, _⟩ := r
    rcases e with ⟨o, e⟩ | ⟨o, its, n, e, c, _⟩
    · exact .base (.frz e)
    · exact .kList e c
  | dic tk ks l =>
    cases tk with
    | false =>
      cases h
      simp only [Rep] at r
      obtain ⟨a, vs, f, rfl, ⟨_, kl, _, e | ⟨o, e⟩⟩, _⟩ := r
      · exact .base (.dK e)
      · exact .fDict e
    | true => cases h
  | obj c ns fs => cases h
  | fn x => cases h
def dIsi (T : String) : List D → Option D
  | [d] => d.tyN.bind fun n => (kitB n T).map .bl
  | _ => none
section
variable {X : Cx} {LL : List Nat} {Γ : List Kd} {pos p q : Pos} {e : Expr} {se : Ev} {m : Md}
theorem ex_isi {T : Str} {Ts : String} (hg : Gl X "isinstance") (hm : X.mg "isinstance" = none) (hv : bootBuiltins "isinstance" = some (.builtin "isinstance")) (gT : Gl X T) (mT : X.mg T = none) (vT : bootBuiltins T = some (.type Ts)) (he : EX X LL Γ e se m)
    (hn : T ≠ "__name__" := by decide) (hd : (T == ("__debug__" : Str)) = false := by decide)
    (hs : starEach [e, .Name T q] X.env = (false, eval e X.env) :: starEach [.Name T q] X.env := by rfl) (hs2 : starEach [.Name T q] X.env = (false, eval (.Name T q) X.env) :: starEach [] X.env := by rfl)
    (hpl : (backTo pos (starEach [.Name T q] X.env)).any (·.1) = false := by rfl) :
    EX X LL Γ (.Call (.Name "isinstance" p) [e, .Name T q] [] pos) (eP (dIsi Ts) (aCons se aNil)) .flat := by
  obtain ⟨t, pt, k⟩ := he
  have pT : PE X (.Name T q) (tC (.ty Ts)) := pe_bltn gT mT vT rfl hn hd
  refine ⟨_, pe_callB call_isi hg hm hv (pa_cons pt (pa_cons pT pa_nil hs2) hs) (by decide) (by decide) hs hpl, fun P g ρ σ H d Q s e0 q => ?_⟩
  obtain ⟨ds, e1, e0⟩ := bind_some e0
  obtain ⟨d1, ea, e1⟩ := bind_some e1
  obtain ⟨r1, er, e1⟩ := bind_some e1
  cases er; cases e1
  unfold dIsi at e0
  obtain ⟨n, hn', e0⟩ := bind_some e0
  simp only [Option.map_eq_some_iff] at e0
  obtain ⟨b, hb, rfl⟩ := e0
  refine k P g ρ σ H d1 _ s ea fun v H1 x1 w => ?_
  obtain ⟨fp, r, _⟩ := w.labs
  exact ⟨v, .ty Ts, .type n, .type Ts, b, rfl, .ty Ts, rep_ty r hn', kit_ty hb, q _ H1 x1 (val_flat rep_bl)⟩
end
end VV

/-! ## VPut -/
namespace VV
open PySem PySem.Spec PyProof.Rows L2

/-! ### x[j] = v, x a list in a slot -/
theorem repL_set {mg : Mg} {H : Hp} {d : D} {y : V} {fy : List Addr} (ry : Rep mg H d y fy) : ∀ {ds : List D} {vs : List V} {f : List Addr} {j : Nat}, RepL mg H ds vs f → j < ds.length →
    ∃ f', RepL mg H (ds.set j d) (vs.set j y) f' ∧ (∀ b ∈ f', b ∈ f ∨ b ∈ fy) ∧ (f.Nodup → fy.Nodup → (∀ b ∈ f, b ∉ fy) → f'.Nodup)
  | [], _, _, _, _, h => by simp at h
  | d0 :: ds, _, _, 0, h, _ => by
    simp only [RepL] at h
    obtain ⟨v, r, f1, f2, rfl, h1, h2, rfl⟩ := h
    refine ⟨fy ++ f2, ?_, fun b hb => (List.mem_append.mp hb).elim .inr fun z => .inl (List.mem_append_right _ z), fun n1 n2 dj => List.nodup_append.mpr ⟨n2, (List.nodup_append.mp n1).2.1, fun a ha b hb e => dj b (List.mem_append_right _ hb) (e ▸ ha)⟩⟩
    simp only [List.set_cons_zero, RepL]
    exact ⟨y, r, fy, f2, rfl, ry, h2, rfl⟩
  | d0 :: ds, _, _, j + 1, h, hj => by
    simp only [RepL] at h
    obtain ⟨v, r, f1, f2, rfl, h1, h2, rfl⟩ := h
    obtain ⟨f', g1, g2, g3⟩ := repL_set ry h2 (j := j) (by simpa using hj)
    refine ⟨f1 ++ f', ?_, fun b hb => ?_, fun n1 n2 dj => ?_⟩
    · simp only [List.set_cons_succ, RepL]
      exact ⟨v, _, f1, f', rfl, h1, g1, rfl⟩
    · rcases List.mem_append.mp hb with z | z
      · exact .inl (List.mem_append_left _ z)
      · exact (g2 b z).imp (fun q => List.mem_append_right _ q) id
    · obtain ⟨a1, a2, a3⟩ := List.nodup_append.mp n1
      refine List.nodup_append.mpr ⟨a1, g3 a2 n2 fun b hb => dj b (List.mem_append_right _ hb), fun a ha b hb e => ?_⟩
      rcases g2 b hb with q | q
      · exact a3 a ha b q e
      · exact dj a (List.mem_append_left _ ha) (e ▸ q)
def lPut : D → D → D → Option D
  | .lst l, .int k, v => (ixN l.length k).map fun j => .lst (l.set j v)
  | _, _, _ => none
section
variable {X : Cx} {W : L2.WX} {sc : Sc} {Γ : List Kd} {pos : Pos}
theorem sx_lput {i : Nat} {x : Str} {px pos' : Pos} {e j : Expr} {se sj : Ev} {m mj : Md} {n : Nat} {L : List Nat} {nd : Bool} (c : Nat) (hk : Γ[i]? = some (.lab (some n) L nd)) (hN : X.N[i]? = some x) (hv : Vis X.env.scope x)
    (he : EX X sc.LL Γ e se m) (hj : EX X sc.LL Γ j sj mj)
    (hn : n ≠ 0 := by decide) (hL : n ∉ sc.LL := by decide) (hm : n ∉ m.labs := by decide) (hc : c ≠ 0 := by decide) (hdb : (x == ("__debug__" : Str)) = false := by decide) (hcd : (x == ("__classdict__" : Str)) = false := by decide)
    (ha : ∀ v, assign (.Subscript (.Name x px) j pos') X.env v = (do
      let ov ← holding [v] (eval (.Name x px) X.env)
      let iv ← holding [v, ov] (eval j X.env)
      standAt pos'
      holding [v, ov, iv] (setItem ov iv v)
      release [v, ov, iv] []) := by intro _; rfl)
    (hs : swapsWithSole [.Subscript (.Name x px) j pos'] e pos.line X.env = pure false := by rfl) (hw : swappedStores [.Subscript (.Name x px) j pos'] e X.env = pure none := by rfl)
    (h1 : (assignEach [.Subscript (.Name x px) j pos'] X.env).map (·.2) = [assign (.Subscript (.Name x px) j pos') X.env] := by rfl) :
    SX X W sc Γ (.Assign [.Subscript (.Name x px) j pos'] e pos) (sPut lPut i sj se) ((killK n Γ).set i (Kd.push c (.lab (some n) L nd) m)) := by
  obtain ⟨t, pt, kk⟩ := he
  obtain ⟨tj, pj, kj⟩ := hj
  refine ⟨_, ps_asg pt (pg_sub (pe_var hN hv hdb hcd) pj set_list ha) hs hw h1, fun P g ρ σ H o De s e w => ?_⟩
  obtain ⟨d, e1, e⟩ := bind_some e
  obtain ⟨xk, e2, e⟩ := bind_some e
  obtain ⟨dd, e3, e⟩ := bind_some e
  obtain ⟨z, e4, e⟩ := bind_some e
  cases e
  obtain ⟨l', ov, h1, h2, h3⟩ := s.cells.get hk
  rw [e3] at h1; cases h1
  unfold lPut at e4
  split at e4
  · rename_i l k eq0
    simp only [Option.map_eq_some_iff] at e4
    obtain ⟨jj, ej, rfl⟩ := e4
    obtain ⟨v, fp, rfl, r, q, z⟩ := h3
    simp only [Rep] at r
    obtain ⟨a, vs, f, rfl, ho0, rl, rfl⟩ := r
    have hga : g a = n := root_lab q
    have haf : a ∉ f := z.2 rfl a f rfl rfl
    refine kk P g ρ σ H _ _ s e1 fun y H2 x2 wv => ?_
    refine ⟨.ref a, h2, ?_⟩
    refine kj P g ρ σ H2 _ _ (s.ext x2) e2 fun yk H3 x3 wk => ?_
    obtain ⟨fk, rk, _⟩ := wk.labs
    obtain rfl := rInt rk
    have x23 := x2.trans x3
    have ho3 : H3 a = some (.lst vs) := x23 a _ ho0
    obtain ⟨fy, ry, oy, ndy, lby⟩ := (wv.ext x3).pushed (c := c) s.loc hc
    have hay : a ∉ fy := fun hm' => by
      rcases lby a hm' with y | y
      · have := y.1; rw [ho0] at this; cases this
      · have := y.1; rw [hga] at this; exact hm this
    have st2 : Sta X.vm P sc.LL Γ (relab g H H3 .non c c) ρ σ H3 := s.relab x23
    have hg2 : relab g H H3 .non c c a = n := by rw [relab_old (by rw [ho0]; simp)]; exact hga
    have rl3 := rl.ext x23
    have hjl : jj < l.length := by
      unfold ixN at ej
      split at ej
      · split at ej <;> cases ej <;> omega
      · split at ej <;> cases ej <;> omega
    refine ⟨a, vs, k, jj, rfl, rfl, ho3, by rw [rl.length]; exact ej, ?_⟩
    obtain ⟨f', g1, g2, g3⟩ := repL_set ry rl3 hjl
    have haf' : a ∉ f' := fun hm => (g2 a hm).elim haf hay
    have oldf : ∀ b ∈ f, Old P g L b := fun b hb => by
      rcases q b (List.mem_cons_of_mem _ hb) with ⟨e, _⟩ | ⟨_, y⟩
      · cases e; exact absurd hb haf
      · exact y
    have cell : CellOk X.vm P (relab g H H3 .non c c) (upd H3 a (.lst (vs.set jj y))) (Kd.push c (.lab (some n) L nd) m) (.lst (l.set jj d)) (some (.ref a)) := by
      refine ⟨.ref a, a :: f', rfl, ?_, fun b hb => ?_, fun hn' => ?_, fun _ b g' e1 e2 => ?_⟩
      · simp only [Rep]
        exact ⟨a, _, f', rfl, upd_same, repL_upd g1 haf' ho3 trivial, rfl⟩
      · rcases List.mem_cons.mp hb with rfl | hb
        · exact .inl ⟨rfl, n, rfl, by rw [hg2]; exact List.mem_singleton.mpr rfl, fun z => by rw [hg2] at z; exact absurd z hn⟩
        · rcases g2 b hb with hb' | hb'
          · have y' := Old.relab (H' := H3) (v := .non) (n := c) (m := c) (oldf b hb') s.loc
            exact .inr ⟨.inl fun e => by cases e; exact haf hb', List.mem_append_left _ y'.1, y'.2⟩
          · have y' := oy b hb'
            exact .inr ⟨.inl fun e => by cases e; exact hay hb', List.mem_append_right _ y'.1, y'.2⟩
      · simp only [Bool.and_eq_true] at hn'
        obtain ⟨⟨n1, n2⟩, dj⟩ := hn'
        refine List.nodup_cons.mpr ⟨haf', g3 (List.nodup_cons.mp (z.1 n1)).2 (ndy n2) fun b hb hb' => ?_⟩
        rcases lby b hb' with y | y
        · exact (oldf b hb).there s.loc y.1
        · exact disj_ok dj (oldf b hb).1 y.1
      · cases e2
        exact haf'
    obtain ⟨s3, st3⟩ := st2.put (o' := .lst (vs.set jj y)) ho3 trivial trivial hg2 hn hL h2 cell
    exact w _ σ _ ((Step.relab x23).trans st3) s3
  · cases e4
end
end VV

/-! ## VDisp -/
namespace VV
open PySem PySem.Spec PyProof.Rows L2

/-! ### {k: v, ..}, keys ints and texts, values flat -/
def dDispA : List Ky → List D → List D → Option D
  | ks, vs, [] => some (.dic false ks vs)
  | ks, vs, k :: d :: r => match k.ky false with
    | some kk => dDispA (putKs ks kk) (putDs ks vs kk d) r
    | none => none
  | _, _, _ => none
def eDisp (a : List D → Option (List D)) : Ev := fun ρ => do dDispA [] [] (← a ρ)
def PrR (mg : Mg) (H : Hp) : List D → List (V × V) → Prop
  | [], ps => ps = []
  | k :: d :: r, ps => ∃ x y q, ps = (x, y) :: q ∧ Rep mg H k x [] ∧ Rep mg H d y [] ∧ PrR mg H r q
  | _, _ => False
theorem PrR.ext {mg : Mg} {H H' : Hp} (e : Ext H H') : ∀ {ds : List D} {ps : List (V × V)}, PrR mg H ds ps → PrR mg H' ds ps
  | [], _, h => h
  | [_], _, h => h.elim
  | k :: d :: r, _, ⟨x, y, q, h0, h1, h2, h3⟩ => ⟨x, y, q, h0, h1.ext e, h2.ext e, PrR.ext e h3⟩
def ED (X : Cx) (LL : List Nat) (Γ : List Kd) (keys : List (Option Expr)) (values : List Expr) (sem : List D → Option (List D)) : Prop :=
  keys.all (·.isSome) = true ∧ keys.length = values.length ∧ ∃ trs, (∀ pos, PPs X pos keys values trs) ∧ ∀ P g ρ σ H ds (Q : List (V × V) → Hp → Prop), Sta X.vm P LL Γ g ρ σ H → sem ρ = some ds → (∀ ps H', Ext H H' → PrR X.vm H' ds ps → ps.length = keys.length → Q ps H') → tPairs trs σ H Q
section
variable {X : Cx} {LL : List Nat} {Γ : List Kd} {pos : Pos} {k v : Expr} {ks : List (Option Expr)} {vs : List Expr} {sk sv : Ev} {sr : List D → Option (List D)}
theorem ed_nil : ED X LL Γ [] [] aNil := ⟨rfl, rfl, [], fun _ => pps_nil, fun P g ρ σ H ds Q s e q => by cases e; exact q [] H Ext.refl rfl rfl⟩
theorem ed_cons (hk : EX X LL Γ k sk .flat) (hv : EX X LL Γ v sv .flat) (hr : ED X LL Γ ks vs sr) : ED X LL Γ (some k :: ks) (v :: vs) (aCons sk (aCons sv sr)) := by
  obtain ⟨tk, pk, kk⟩ := hk
  obtain ⟨tv, pv, kv⟩ := hv
  obtain ⟨h1, h2, trs, pr, kr⟩ := hr
  refine ⟨by simpa using h1, by simpa using h2, (tk, tv) :: trs, fun pos => pps_cons pk pv (pr pos), fun P g ρ σ H ds Q s e q => ?_⟩
  obtain ⟨d1, ea, e⟩ := bind_some e
  obtain ⟨r1, er, e⟩ := bind_some e
  obtain ⟨d2, eb, er⟩ := bind_some er
  obtain ⟨r2, er2, er⟩ := bind_some er
  cases er; cases e
  refine kk P g ρ σ H d1 _ s ea fun x H1 x1 w1 => ?_
  refine kv P g ρ σ H1 d2 _ (s.ext x1) eb fun y H2 x2 w2 => ?_
  refine kr P g ρ σ H2 r2 _ (s.ext (x1.trans x2)) er2 fun ps H3 x3 w3 hl => ?_
  exact q _ H3 (x1.trans (x2.trans x3)) ⟨x, y, ps, rfl, Rep.ext (Rep.ext (show Rep X.vm H1 d1 x [] from w1) x2) x3, Rep.ext (show Rep X.vm H2 d2 y [] from w2) x3, w3⟩ (by simp [hl])
theorem disp_merge {mg : Mg} {H : Hp} : ∀ {ds : List D} {ps : List (V × V)} {kl : List L2.Key} {us : List V} {vs : List D} {d : D}, PrR mg H ds ps → kl.length = us.length → (kl.map Ky.k).Nodup → RepL mg H vs us [] → dDispA (kl.map Ky.k) vs ds = some d →
    ∃ kvs : List (L2.Key × V), ps = kvs.map (fun kv => (kV kv.1, kv.2)) ∧ ∃ (kl2 : List L2.Key) (us2 : List V) (vs2 : List D), d = .dic false (kl2.map Ky.k) vs2 ∧ mergeK (kl.zip us) kvs = kl2.zip us2 ∧ kl2.length = us2.length ∧ (kl2.map Ky.k).Nodup ∧ RepL mg H vs2 us2 []
  | [], _, kl, us, vs, d, h, hl, hn, hr, e => by
    cases (show _ = [] from h)
    cases e
    exact ⟨[], rfl, kl, us, vs, rfl, rfl, hl, hn, hr⟩
  | [_], _, _, _, _, _, h, _, _, _, _ => h.elim
  | k :: d0 :: r, _, kl, us, vs, d, ⟨x, y, q, h0, h1, h2, h3⟩, hl, hn, hr, e => by
    subst h0
    unfold dDispA at e
    split at e
    · rename_i kk ek
      simp only [D.ky, Option.map_eq_some_iff] at ek
      obtain ⟨k1, e1, rfl⟩ := ek
      obtain ⟨kl2, p1, p2, p3⟩ := put_zip (x := k1) (v := y) ky_k_inj hl
      obtain ⟨f', g1, g2, _⟩ := repL_put (k := Ky.k k1) h2 (by simpa using hl) hn hr
      have hf : f' = [] := List.eq_nil_iff_forall_not_mem.mpr fun b hb => by
        rcases g2 b hb with z | z <;> cases z
      subst hf
      rw [p1] at e
      have hn2 : (kl2.map Ky.k).Nodup := by rw [← p1]; exact putKs_nodup hn
      obtain ⟨kvs, eq, kl3, us3, vs3, a1, a2, a3, a4, a5⟩ := disp_merge h3 p3 hn2 g1 e
      refine ⟨(k1, y) :: kvs, by rw [eq, rep_ky1 h1 e1]; rfl, kl3, us3, vs3, a1, ?_, a3, a4, a5⟩
      rw [← a2, ← p2]
      rfl
    · cases e
theorem ex_disp (h : ED X LL Γ ks vs sr) (h0 : ks ≠ [] := by exact fun z => nomatch z) (h15 : ks.length ≤ 15 := by decide) : EX X LL Γ (.Dict ks vs pos) (eDisp sr) (.al false .new [] true) := by
  obtain ⟨h1, h2, trs, pr, kr⟩ := h
  refine ⟨_, pe_disp (pr pos) h1 h2 h0 h15, fun P g ρ σ H d Q s e q => ?_⟩
  obtain ⟨ds, e1, e⟩ := bind_some e
  intro p hp
  refine kr P g ρ σ _ ds _ (s.ext (Ext.put hp)) e1 fun ps H2 x2 w hlen => ?_
  have hp2 : H2 p = some (.dK []) := x2 p _ upd_same
  obtain ⟨kvs, eq, kl2, us2, vs2, a1, a2, a3, a4, a5⟩ := disp_merge (kl := []) (us := []) (vs := []) w rfl List.nodup_nil (by simp [RepL]) e
  refine ⟨hp2, kvs, eq, ?_, ?_⟩
  · have := congrArg List.length eq
    rw [List.length_map] at this
    omega
  · subst a1
    rw [show mergeK [] kvs = kl2.zip us2 from a2]
    refine q _ _ (fun b u hb => ?_) ⟨[p], ?_, fun b hb => ?_, .of (by simp)⟩
    · have : b ≠ p := fun z => by rw [z, hp] at hb; cases hb
      rw [upd_ne this]
      exact x2 b u (by rw [upd_ne this]; exact hb)
    · simp only [Rep]
      exact ⟨p, us2, [], rfl, ⟨⟨by simpa using a3, a4⟩, kl2, rfl, .inl upd_same⟩, repL_upd a5 (by simp) hp2 trivial, rfl⟩
    · obtain rfl := List.mem_singleton.mp hb
      exact .inl ⟨rfl, hp, by rw [upd_same]; trivial⟩
end
end VV

/-! ## VSimp -/
namespace VV
open PySem PySem.Spec PyProof.Rows L2
/-- keeps a lemma from being used without a trace -/
theorem of_rfl {α : Sort u} {a b : α} (h : a = b) : a = b := h

def _root_.Option.ob {α : Type u} {β : Type v} (o : Option α) (f : α → Option β) : Option β := o.bind f
@[simp] theorem ob_some {α : Type u} {β : Type v} {x : α} {f : α → Option β} : (some x).ob f = f x := of_rfl rfl
@[simp] theorem ob_none {α : Type u} {β : Type v} {f : α → Option β} : (none : Option α).ob f = none := of_rfl rfl
/-! ### the functions of trees, evaluated -/
def asB : D → Option Bool
  | .bl b => some b
  | _ => none
def asRet : Option Res → Option D
  | some (.ret d) => some d
  | _ => none
def asL : D → Option (List D)
  | .lst l => some l
  | .scr l => some l
  | _ => none
def asT : D → Option (List D)
  | .tup l => some l
  | _ => none
def outR : Option Out → Option Res
  | some (.nx _) => some (.ret .non)
  | some (.rt d) => some (.ret d)
  | some (.ex c _) => some (.exn c)
  | _ => none
def seqO (o : Option Out) (b : Sv) : Option Out := match o with
  | some (.nx ρ) => b ρ
  | o => o
section
variable {i n : Nat} {ρ : List D} {d : D} {e e1 e2 : Ev} {a r : List D → Option (List D)} {f : List D → Option D} {g : List D → Option Res} {p : D → Bool} {s1 s2 : Sv} {c c2 : List D → Option Bool} {t : Tv} {pk : List Kd} {ds : List D}
@[simp] theorem eVar_s : eVar i ρ = ρ[i]? := of_rfl rfl
@[simp] theorem eC_s : eC d ρ = some d := of_rfl rfl
@[simp] theorem aNil_s : aNil ρ = some [] := of_rfl rfl
@[simp] theorem aCons_s : aCons e a ρ = (e ρ).ob fun d => (a ρ).ob fun ds => some (d :: ds) := of_rfl rfl
@[simp] theorem eP_s : eP f a ρ = (a ρ).ob f := of_rfl rfl
@[simp] theorem eTup_s : eTup a ρ = (a ρ).ob fun ds => some (.tup ds) := of_rfl rfl
@[simp] theorem eLst_s : eLst a ρ = (a ρ).ob fun ds => some (.lst ds) := of_rfl rfl
@[simp] theorem eChk_s : eChk p e ρ = (e ρ).filter p := of_rfl rfl
@[simp] theorem tOf_s : tOf e ρ = (e ρ).ob asB := by
  unfold tOf
  cases e ρ with
  | none => rfl
  | some d => cases d <;> rfl
@[simp] theorem asB_s {b : Bool} : asB (.bl b) = some b := of_rfl rfl
@[simp] theorem eCall_s : eCall g a ρ = (a ρ).ob fun ds => asRet (g ds) := by
  unfold eCall
  cases a ρ with
  | none => rfl
  | some ds =>
    show (match g ds with | some (.ret d) => some d | _ => none) = asRet (g ds)
    cases g ds with
    | none => rfl
    | some r => cases r <;> rfl
@[simp] theorem asRet_s : asRet (some (.ret d)) = some d := of_rfl rfl
@[simp] theorem sNil_s : sNil ρ = some (.nx ρ) := of_rfl rfl
@[simp] theorem sPass_s : sPass ρ = some (.nx ρ) := of_rfl rfl
@[simp] theorem sCont_s : sCont ρ = some (.ct ρ) := of_rfl rfl
@[simp] theorem sRetN_s : sRetN ρ = some (.rt .non) := of_rfl rfl
@[simp] theorem sSeq_s : sSeq s1 s2 ρ = seqO (s1 ρ) s2 := by
  unfold sSeq seqO
  cases s1 ρ with
  | none => rfl
  | some o => cases o <;> rfl
@[simp] theorem seqO_nx : seqO (some (.nx ρ)) s2 = s2 ρ := of_rfl rfl
@[simp] theorem seqO_rt : seqO (some (.rt d)) s2 = some (.rt d) := of_rfl rfl
@[simp] theorem seqO_ct : seqO (some (.ct ρ)) s2 = some (.ct ρ) := of_rfl rfl
@[simp] theorem sRet_s : sRet e ρ = (e ρ).ob fun d => some (.rt d) := of_rfl rfl
@[simp] theorem sSet_s : sSet i e ρ = (e ρ).ob fun d => some (.nx (ρ.set i d)) := of_rfl rfl
@[simp] theorem sAsg_s : sAsg t e ρ = (e ρ).ob fun d => (t d ρ).ob fun ρ' => some (.nx ρ') := of_rfl rfl
theorem sIf_s : sIf c s1 s2 ρ = (c ρ).ob fun b => if b then s1 ρ else s2 ρ := rfl
@[simp] theorem sIf_t (h : c ρ = some true) : sIf c s1 s2 ρ = s1 ρ := by rw [sIf_s, h]; rfl
@[simp] theorem sIf_f (h : c ρ = some false) : sIf c s1 s2 ρ = s2 ρ := by rw [sIf_s, h]; rfl
@[simp] theorem wAnd_s : wAnd c c2 ρ = (c ρ).ob fun b => if b then c2 ρ else some false := of_rfl rfl
@[simp] theorem wOr_s : wOr c c2 ρ = (c ρ).ob fun b => if b then some true else c2 ρ := of_rfl rfl
@[simp] theorem wNot_s : wNot c ρ = (c ρ).ob fun b => some (!b) := of_rfl rfl
@[simp] theorem vNot_s : vNot e ρ = (e ρ).ob fun d => (asB d).ob fun b => some (.bl (!b)) := by
  unfold vNot
  cases e ρ with
  | none => rfl
  | some d => cases d <;> rfl
@[simp] theorem vAnd_s : vAnd e1 e2 ρ = (e1 ρ).ob fun d => (asB d).ob fun b => if b then e2 ρ else some (.bl false) := by
  unfold vAnd
  cases e1 ρ with
  | none => rfl
  | some d =>
    cases d with
    | bl b => cases b <;> rfl
    | _ => rfl
@[simp] theorem vOr_s : vOr e1 e2 ρ = (e1 ρ).ob fun d => (asB d).ob fun b => if b then some (.bl true) else e2 ρ := by
  unfold vOr
  cases e1 ρ with
  | none => rfl
  | some d =>
    cases d with
    | bl b => cases b <;> rfl
    | _ => rfl
@[simp] theorem cYes_s : cYes ρ = some true := of_rfl rfl
@[simp] theorem gN_s : gN i d ρ = some (ρ.set i d) := of_rfl rfl
@[simp] theorem gF_s : gF t d ρ = if d.isFlat then t d ρ else none := of_rfl rfl
@[simp] theorem gT_s {l : List D} {ts : List D → List D → Option (List D)} : gT ts (.tup l) ρ = ts l ρ := of_rfl rfl
@[simp] theorem gL_s {l : List D} {ts : List D → List D → Option (List D)} : gL ts (.lst l) ρ = ts l ρ := of_rfl rfl
@[simp] theorem gsNil_s : gsNil [] ρ = some ρ := of_rfl rfl
@[simp] theorem gsCons_s {l : List D} {ts : List D → List D → Option (List D)} : gsCons t ts (d :: l) ρ = (t d ρ).ob fun ρ' => ts l ρ' := of_rfl rfl
@[simp] theorem fl_non : D.non.isFlat = true := of_rfl rfl
@[simp] theorem fl_int {k : Int} : (D.int k).isFlat = true := of_rfl rfl
@[simp] theorem fl_bl {k : Bool} : (D.bl k).isFlat = true := of_rfl rfl
@[simp] theorem fl_str {k : Str} : (D.str k).isFlat = true := of_rfl rfl
@[simp] theorem fl_scr {k : List D} : (D.scr k).isFlat = true := of_rfl rfl
@[simp] theorem fl_fn {k : Str} : (D.fn k).isFlat = true := of_rfl rfl
@[simp] theorem fl_tup {k : List D} : (D.tup k).isFlat = D.isFlatL k := by simp only [D.isFlat]
@[simp] theorem fl_lst {k : List D} : (D.lst k).isFlat = false := by simp only [D.isFlat]
@[simp] theorem flL_nil : D.isFlatL [] = true := by simp only [D.isFlatL]
@[simp] theorem flL_cons {k : List D} : D.isFlatL (d :: k) = (d.isFlat && D.isFlatL k) := by simp only [D.isFlatL]
@[simp] theorem flL_ints {k : List Int} : D.isFlatL (k.map D.int) = true := by
  induction k with
  | nil => rfl
  | cons a r ih => simp only [List.map_cons, flL_cons, fl_int, ih, Bool.and_self]
@[simp] theorem kf_lst {k : List D} : (D.lst k).kidsFlat = D.isFlatL k := of_rfl rfl
theorem fn_s (h : pkOk pk ds = true) : fnSem n pk s1 ds = outR (s1 (ds ++ List.replicate (n - ds.length) .non)) := by
  unfold fnSem
  refine (if_pos h).trans ?_
  unfold outR
  cases s1 (ds ++ List.replicate (n - ds.length) .non) with
  | none => rfl
  | some o => cases o <;> rfl
@[simp] theorem outR_rt : outR (some (.rt d)) = some (.ret d) := of_rfl rfl
@[simp] theorem outR_nx : outR (some (.nx ρ)) = some (.ret .non) := of_rfl rfl
@[simp] theorem pk_nil : pkOk [] [] = true := of_rfl rfl
@[simp] theorem pk_flat {k : List D} : pkOk (.flat :: pk) (d :: k) = (d.isFlat && pkOk pk k) := of_rfl rfl
@[simp] theorem pk_lab {k : List D} : pkOk (.lab none [0] false :: pk) (d :: k) = pkOk pk k := of_rfl rfl

@[simp] theorem dI2_s {h : Int → Int → Int} {x y : Int} : dI2 h [.int x, .int y] = some (.int (h x y)) := of_rfl rfl
@[simp] theorem dB2_s {h : Int → Int → Bool} {x y : Int} : dB2 h [.int x, .int y] = some (.bl (h x y)) := of_rfl rfl
@[simp] theorem dI1_s {h : Int → Int} {x : Int} : dI1 h [.int x] = some (.int (h x)) := of_rfl rfl
theorem dMul_s {x y : Int} (h : CMulX x y) : dMul [.int x, .int y] = some (.int (x * y)) := if_pos h
theorem dDiv_s {x y : Int} (h : CDivW x y) : dDiv [.int x, .int y] = some (.int (x / y)) := if_pos h
@[simp] theorem dMod_s {x y : Int} (h : 0 < y) : dMod [.int x, .int y] = some (.int (x % y)) := if_pos h
theorem dPow_s {x y : Int} (h : CPow x y) : dPow [.int x, .int y] = some (.int (x ^ y.toNat)) := if_pos h
theorem pow_e {a b c : Int} (h : CPow a b) (e : a ^ b.toNat = c) : eP dPow (aCons (eC (.int a)) (aCons (eC (.int b)) aNil)) = eC (.int c) := by
  funext ρ
  rw [← e]
  exact dPow_s h
@[simp] theorem dLen_l {l : List D} : dLen [.lst l] = some (.int l.length) := of_rfl rfl
@[simp] theorem dLen_c {l : List D} : dLen [.scr l] = some (.int l.length) := of_rfl rfl
@[simp] theorem dLen_t {l : List D} : dLen [.tup l] = some (.int l.length) := of_rfl rfl
@[simp] theorem dIdx_l {l : List D} {k : Int} : dIdx [.lst l, .int k] = atI l k := of_rfl rfl
@[simp] theorem dIdx_c {l : List D} {k : Int} : dIdx [.scr l, .int k] = atI l k := of_rfl rfl
@[simp] theorem dIdx_t {l : List D} {k : Int} : dIdx [.tup l, .int k] = atI l k := of_rfl rfl
theorem atI_n {α : Type} {l : List α} {k : Nat} : atI l (k : Int) = l[k]? := by
  unfold atI ixN
  rw [if_pos (by omega)]
  by_cases h : k < l.length
  · rw [if_pos (by omega)]; simp
  · rw [if_neg (by omega)]; simp; omega
theorem atI_of {α : Type} {l : List α} {z : Int} {k : Nat} (h : z = k) : atI l z = l[k]? := by rw [h]; exact atI_n
@[simp] theorem atI_0 {α : Type} {l : List α} : atI l 0 = l[0]? := atI_of (k := 0) rfl
@[simp] theorem atI_lit {α : Type} {l : List α} {n : Nat} : atI l (no_index (OfNat.ofNat n : Int)) = l[(OfNat.ofNat n : Nat)]? := atI_of (k := n) rfl
@[simp] theorem atI_1 {α : Type} {l : List α} : atI l 1 = l[1]? := atI_of (k := 1) rfl
@[simp] theorem dInt_i {k : Int} : dIntC [.int k] = some (.int k) := of_rfl rfl
@[simp] theorem dInt_b {k : Bool} : dIntC [.bl k] = some (.int (if k then 1 else 0)) := of_rfl rfl
@[simp] theorem eLc_s {it : List D → Option (List D)} : eLc it t c e ρ = (it ρ).ob fun xs => (lcL t c e ρ xs).ob fun ys => some (.lst ys) := of_rfl rfl
@[simp] theorem iLst_s : iLst e ρ = (e ρ).ob asL := by
  unfold iLst
  cases e ρ with
  | none => rfl
  | some d => cases d <;> rfl
@[simp] theorem iTupl_s : iTupl e ρ = (e ρ).ob asT := by
  unfold iTupl
  cases e ρ with
  | none => rfl
  | some d => cases d <;> rfl
@[simp] theorem asL_l {l : List D} : asL (.lst l) = some l := of_rfl rfl
@[simp] theorem asL_c {l : List D} : asL (.scr l) = some l := of_rfl rfl
@[simp] theorem asT_t {l : List D} : asT (.tup l) = some l := of_rfl rfl
@[simp] theorem sFor_s {it : List D → Option (List D)} {b : Sv} : sFor it t b ρ = (it ρ).ob fun xs => forL t b xs ρ := of_rfl rfl
@[simp] theorem sMut_s {h : D → D → Option D} : sMut h i e ρ = (e ρ).ob fun y => (ρ[i]?).ob fun x => (h x y).ob fun z => some (.nx (ρ.set i z)) := of_rfl rfl
theorem dPush_s {l : List D} (h : l.length < 1000000) : dPush (.lst l) d = some (.lst (l ++ [d])) := if_pos h
theorem rng_len {lo : Int} {k : Nat} : (rngD lo k).length = k := by unfold rngD; simp
theorem iRng1_s {k : Int} (h : a ρ = some [.int k]) (h1 : k ≤ 10000000) (h2 : -10000000 ≤ k) : iRng a ρ = some (rngD 0 k.toNat) := by
  unfold iRng
  rw [h]
  exact if_pos ⟨h1, h2⟩
theorem iRng2_s {j k : Int} (h : a ρ = some [.int j, .int k]) (h1 : k ≤ 10000000) (h2 : -10000000 ≤ j) (h3 : j ≤ 10000000) (h4 : -10000000 ≤ k) (h5 : k - j ≤ 10000000) : iRng a ρ = some (rngD j (k - j).toNat) := by
  unfold iRng
  rw [h]
  exact if_pos ⟨h1, h2, h3, h4, h5⟩
theorem rng0 {k : Nat} : rngD 0 k = (List.range k).map fun i : Nat => D.int i := by
  unfold rngD
  apply List.map_congr_left
  intro i _
  simp
theorem iZip_s {l r : List D} (h : a ρ = some [.lst l, .lst r]) : iZipL a ρ = some ((l.zip r).map fun p => .tup [p.1, p.2]) := by
  unfold iZipL
  rw [h]
  rfl
@[simp] theorem iEnum_s : iEnumL e ρ = (e ρ).ob fun d => match d with | .lst l => some (l.mapIdx fun i d => .tup [.int i, d]) | _ => none := of_rfl rfl
@[simp] theorem oNone_s : oNone ρ = some none := of_rfl rfl
@[simp] theorem oSome_s : oSome e ρ = (e ρ).ob fun d => match d with | .int i => some (some i) | _ => none := of_rfl rfl
@[simp] theorem eSl_s {lo hi : List D → Option (Option Int)} : eSl e lo hi ρ = (e ρ).ob fun d => (lo ρ).ob fun l => (hi ρ).ob fun h => dSl d l h := of_rfl rfl
@[simp] theorem dSl_l {l : List D} {lo hi : Option Int} : dSl (.lst l) lo hi = some (.lst (cutG l lo hi)) := of_rfl rfl
theorem dSl_t {l : List D} {lo hi : Option Int} (_ : ¬ (HT.sIx l.length 0 lo = 0 ∧ HT.sIx l.length l.length hi = l.length)) : dSl (.tup l) lo hi = some (.tup (cutG l lo hi)) := rfl
theorem cutG_map {α β : Type} {l : List α} {f : α → β} {lo hi : Option Int} : cutG (l.map f) lo hi = (cutG l lo hi).map f := by
  unfold cutG
  simp [List.map_take, List.map_drop]
end

/-! ### comprehensions, loops -/
theorem lcL_map {α : Type} {t : Tv} {c : List D → Option Bool} {e : Ev} {ρ : List D} (x : α → D) (y : α → D) : ∀ l : List α, (∀ a ∈ l, ∃ ρ1, t (x a) ρ = some ρ1 ∧ c ρ1 = some true ∧ e ρ1 = some (y a)) → lcL t c e ρ (l.map x) = some (l.map y)
  | [], _ => rfl
  | a :: r, h => by
    obtain ⟨ρ1, h1, h2, h3⟩ := h a List.mem_cons_self
    have ih := lcL_map x y r fun b hb => h b (List.mem_cons_of_mem _ hb)
    show lcL t c e ρ (x a :: r.map x) = _
    unfold lcL
    rw [h1]
    simp [h2, h3, ih]
theorem lcL_filter {α : Type} {t : Tv} {c : List D → Option Bool} {e : Ev} {ρ : List D} (x : α → D) (p : α → Bool) (y : α → D) : ∀ l : List α, (∀ a ∈ l, ∃ ρ1, t (x a) ρ = some ρ1 ∧ c ρ1 = some (p a) ∧ (p a = true → e ρ1 = some (y a))) → lcL t c e ρ (l.map x) = some ((l.filter p).map y)
  | [], _ => rfl
  | a :: r, h => by
    obtain ⟨ρ1, h1, h2, h3⟩ := h a List.mem_cons_self
    have ih := lcL_filter x p y r fun b hb => h b (List.mem_cons_of_mem _ hb)
    show lcL t c e ρ (x a :: r.map x) = _
    unfold lcL
    rw [h1]
    cases hp : p a with
    | true => simp [h2, hp, h3 hp, ih]
    | false => simp [h2, hp, ih]
/-- a loop whose turns go through -/
theorem forL_rel {α σ : Type} {t : Tv} {b : Sv} (x : α → D) (R : σ → List D → Prop) (step : σ → α → σ) : ∀ (l : List α) (s : σ) (ρ : List D), R s ρ →
    (∀ s a ρ, a ∈ l → R s ρ → ∃ ρ1 ρ2, t (x a) ρ = some ρ1 ∧ (b ρ1 = some (.nx ρ2) ∨ b ρ1 = some (.ct ρ2)) ∧ R (step s a) ρ2) → ∃ ρ', forL t b (l.map x) ρ = some (.nx ρ') ∧ R (l.foldl step s) ρ'
  | [], s, ρ, h, _ => ⟨ρ, rfl, h⟩
  | a :: r, s, ρ, h, k => by
    obtain ⟨ρ1, ρ2, h1, h2, h3⟩ := k s a ρ List.mem_cons_self h
    obtain ⟨ρ', h4, h5⟩ := forL_rel x R step r (step s a) ρ2 h3 fun s b ρ hb => k s b ρ (List.mem_cons_of_mem _ hb)
    refine ⟨ρ', ?_, h5⟩
    show forL t b (x a :: r.map x) ρ = _
    unfold forL
    rw [h1]
    dsimp only
    rcases h2 with h2 | h2 <;> rw [h2] <;> exact h4
/-- the same by places: the invariant speaks of how many items are done -/
theorem forL_inv {α : Type} {t : Tv} {b : Sv} (x : α → D) (l : List α) (R : Nat → List D → Prop) (ρ : List D) (h0 : R 0 ρ)
    (k : ∀ (i : Nat) (a : α) (ρ : List D), l[i]? = some a → R i ρ → ∃ ρ1 ρ2, t (x a) ρ = some ρ1 ∧ (b ρ1 = some (.nx ρ2) ∨ b ρ1 = some (.ct ρ2)) ∧ R (i + 1) ρ2) : ∃ ρ', forL t b (l.map x) ρ = some (.nx ρ') ∧ R l.length ρ' := by
  have gen : ∀ (m : Nat) (i : Nat) (ρ : List D), m = l.length - i → i ≤ l.length → R i ρ → ∃ ρ', forL t b ((l.drop i).map x) ρ = some (.nx ρ') ∧ R l.length ρ' := by
    intro m
    induction m with
    | zero =>
      intro i ρ hm hi h
      have : i = l.length := by omega
      subst this
      exact ⟨ρ, by simp [forL], h⟩
    | succ m ih =>
      intro i ρ hm hi h
      have hlt : i < l.length := by omega
      obtain ⟨ρ1, ρ2, h1, h2, h3⟩ := k i l[i] ρ (List.getElem?_eq_getElem hlt) h
      obtain ⟨ρ', h4, h5⟩ := ih (i + 1) ρ2 (by omega) hlt h3
      refine ⟨ρ', ?_, h5⟩
      rw [List.drop_eq_getElem_cons hlt]
      show forL t b (x l[i] :: (l.drop (i + 1)).map x) ρ = _
      unfold forL
      rw [h1]
      dsimp only
      rcases h2 with h2 | h2 <;> rw [h2] <;> exact h4
  have := gen l.length 0 ρ (by simp) (Nat.zero_le _) h0
  simpa using this
end VV

/-! ## VSimp2 -/
namespace VV
open PySem PySem.Spec PyProof.Rows L2
/-! ### the trees of dicts, evaluated -/
section
variable {i n : Nat} {ρ : List D} {d : D} {e e1 e2 : Ev} {tk : Bool} {ks : List Ky} {l : List D} {t : Tv} {b : Sv}
@[simp] theorem sPut_s {f : D → D → D → Option D} : sPut f i e1 e2 ρ = (e2 ρ).ob fun v => (e1 ρ).ob fun x => (ρ[i]?).ob fun d => (f d x v).ob fun z => some (.nx (ρ.set i z)) := of_rfl rfl
@[simp] theorem kyF_int {k : Int} : (D.int k).ky false = some (.k (.inl k)) := of_rfl rfl
@[simp] theorem dGet_s {x : D} : dGet [.dic tk ks l, x] = (x.ky tk).ob (lkD ks l) := of_rfl rfl
@[simp] theorem dGet2_s {x z : D} : dGet2 [.dic tk ks l, x, z] = (x.ky tk).map fun k => (lkD ks l k).getD z := of_rfl rfl
@[simp] theorem dIn_s {x : D} : dIn [x, .dic tk ks l] = (x.ky tk).map fun k => .bl (lkD ks l k).isSome := of_rfl rfl
theorem dPut_s {x v : D} {k : Ky} (h : x.ky tk = some k) (hl : ks.length < 1000000) : dPut (.dic tk ks l) x v = some (.dic tk (putKs ks k) (putDs ks l k v)) := by
  show (x.ky tk).bind (fun k => if ks.length < 1000000 then some (D.dic tk (putKs ks k) (putDs ks l k v)) else none) = _
  rw [h]
  exact if_pos hl
theorem sForK_s {ρ' : List D} (h : ρ[i]? = some (.dic tk ks l)) (hf : forL t b (ks.map Ky.d) ρ = some (.nx ρ')) : sForK i t b ρ = some (.nx ρ') := by
  unfold sForK
  rw [h]
  dsimp only
  rw [hf]
@[simp] theorem dKeysL_s : dKeysL [.dic false ks l] = some (.lst (ks.map Ky.d)) := of_rfl rfl
@[simp] theorem dDicC_s : dDicC [.dic false ks l] = some (.dic false ks l) := of_rfl rfl
@[simp] theorem eDisp_s {a : List D → Option (List D)} : eDisp a ρ = (a ρ).ob (dDispA [] []) := of_rfl rfl
theorem isi_s {T N : String} {r : Bool} (h : d.tyN = some N) (hk : kitB N T = some r) : dIsi T [d] = some (.bl r) := by
  unfold dIsi
  simp only [h, Option.bind_some, hk, Option.map_some]
theorem kit_dd : kitB "dict" "dict" = some true := by decide +kernel
theorem kit_ii : kitB "int" "int" = some true := by decide +kernel
theorem kit_ib : kitB "int" "bool" = some false := by decide +kernel
@[simp] theorem isi_dict : dIsi "dict" [.dic false ks l] = some (.bl true) := isi_s (N := "dict") rfl kit_dd
@[simp] theorem isi_int {k : Int} : dIsi "int" [.int k] = some (.bl true) := isi_s (N := "int") rfl kit_ii
@[simp] theorem isi_intb {k : Int} : dIsi "bool" [.int k] = some (.bl false) := isi_s (N := "int") rfl kit_ib
end
end VV

/-! ## VGo -/
/-! walking through trees: a statement goes to an out that keeps Q -/
namespace VV
open PySem PySem.Spec PyProof.Rows L2
theorem beq_dec {α : Type} [BEq α] [LawfulBEq α] [DecidableEq α] (a b : α) : (a == b) = decide (a = b) := by rw [Bool.eq_iff_iff]; simp
theorem pw {a b c : Int} (h : CPow a b) (e : a ^ b.toNat = c) : dPow [.int a, .int b] = some (.int c) := by rw [← e]; exact dPow_s h
theorem mul_e {a b c : Int} (h : CMulX a b) (e : a * b = c) : eP dMul (aCons (eC (.int a)) (aCons (eC (.int b)) aNil)) = eC (.int c) := by
  funext ρ
  rw [← e]
  exact dMul_s h
section
variable {X : Cx} {LL : List Nat} {Γ : List Kd} {e : Expr} {a b c : Int}
theorem ex_powc (h : EX X LL Γ e (eP dPow (aCons (eC (.int a)) (aCons (eC (.int b)) aNil))) .flat) (hc : CPow a b) (he : a ^ b.toNat = c) : EX X LL Γ e (eC (.int c)) .flat := by rw [← pow_e hc he]; exact h
theorem ex_mulc (h : EX X LL Γ e (eP dMul (aCons (eC (.int a)) (aCons (eC (.int b)) aNil))) .flat) (hc : CMulX a b) (he : a * b = c) : EX X LL Γ e (eC (.int c)) .flat := by rw [← mul_e hc he]; exact h
end
theorem idx_mod (l : List Int) (n x : Int) (hn : n = l.length) (h : 0 < l.length) : ∃ v ∈ l, dIdx [.lst (l.map D.int), .int (x % n)] = some (.int v) := by
  have h1 := Int.emod_nonneg x (b := n) (by omega)
  have h2 := Int.emod_lt_of_pos x (b := n) (by omega)
  have h3 : (x % n).toNat < l.length := by omega
  refine ⟨l[(x % n).toNat], List.getElem_mem h3, ?_⟩
  rw [dIdx_l, atI_of (k := (x % n).toNat) (by omega)]
  simp [h3]
theorem idx_at {l : List Int} {k : Int} {n : Nat} {v : Int} (hk : k = n) (h : l[n]? = some v) : dIdx [.lst (l.map D.int), .int k] = some (.int v) := by
  rw [dIdx_l, atI_of hk]
  simp [h]
def Go (s : Sv) (ρ : List D) (Q : Out → Prop) : Prop := ∃ o, s ρ = some o ∧ Q o
def Cont (b : Sv) (Q : Out → Prop) : Out → Prop
  | .nx ρ => Go b ρ Q
  | o => Q o
section
variable {i n : Nat} {ρ : List D} {d : D} {e e1 e2 : Ev} {s1 s2 a b : Sv} {c : List D → Option Bool} {t : Tv} {pk : List Kd} {ds : List D} {Q : Out → Prop}
theorem Go.mono {Q' : Out → Prop} (h : Go a ρ Q) (k : ∀ o, Q o → Q' o) : Go a ρ Q' := by
  obtain ⟨o, h1, h2⟩ := h
  exact ⟨o, h1, k o h2⟩
@[simp] theorem cont_nx : Cont b Q (.nx ρ) = Go b ρ Q := of_rfl rfl
@[simp] theorem cont_rt : Cont b Q (.rt d) = Q (.rt d) := of_rfl rfl
@[simp] theorem cont_ct : Cont b Q (.ct ρ) = Q (.ct ρ) := of_rfl rfl
@[simp] theorem go_seq : Go (sSeq a b) ρ Q = Go a ρ (Cont b Q) := by
  unfold Go
  rw [sSeq_s]
  cases h : a ρ with
  | none => simp [seqO]
  | some o =>
    cases o with
    | nx r => simp [seqO, Cont, Go]
    | _ => simp [seqO, Cont]
@[simp] theorem go_nil : Go sNil ρ Q = Q (.nx ρ) := by simp [Go]
@[simp] theorem go_pass : Go sPass ρ Q = Q (.nx ρ) := by simp [Go]
@[simp] theorem go_ct : Go sCont ρ Q = Q (.ct ρ) := by simp [Go]
@[simp] theorem go_retN : Go sRetN ρ Q = Q (.rt .non) := by simp [Go]
@[simp] theorem go_set : Go (sSet i e) ρ Q = ∃ d, e ρ = some d ∧ Q (.nx (ρ.set i d)) := by
  unfold Go
  rw [sSet_s]
  cases e ρ <;> simp
@[simp] theorem go_ret : Go (sRet e) ρ Q = ∃ d, e ρ = some d ∧ Q (.rt d) := by
  unfold Go
  rw [sRet_s]
  cases e ρ <;> simp
@[simp] theorem go_asg : Go (sAsg t e) ρ Q = ∃ d, e ρ = some d ∧ ∃ ρ', t d ρ = some ρ' ∧ Q (.nx ρ') := by
  unfold Go
  rw [sAsg_s]
  cases e ρ with
  | none => simp
  | some d => cases h : t d ρ <;> simp [h]
@[simp] theorem go_mut {f : D → D → Option D} : Go (sMut f i e) ρ Q = ∃ y, e ρ = some y ∧ ∃ x, ρ[i]? = some x ∧ ∃ z, f x y = some z ∧ Q (.nx (ρ.set i z)) := by
  unfold Go
  rw [sMut_s]
  cases e ρ with
  | none => simp
  | some y =>
    cases h : ρ[i]? with
    | none => simp
    | some x => cases h2 : f x y <;> simp [h2]
@[simp] theorem go_put {f : D → D → D → Option D} : Go (sPut f i e1 e2) ρ Q = ∃ v, e2 ρ = some v ∧ ∃ x, e1 ρ = some x ∧ ∃ d, ρ[i]? = some d ∧ ∃ z, f d x v = some z ∧ Q (.nx (ρ.set i z)) := by
  unfold Go
  rw [sPut_s]
  cases e2 ρ with
  | none => simp
  | some v =>
    cases e1 ρ with
    | none => simp
    | some x =>
      cases h : ρ[i]? with
      | none => simp
      | some d => cases h2 : f d x v <;> simp [h2]
theorem Go.set (h : e ρ = some d) (k : Go b (ρ.set i d) Q) : Go (sSeq (sSet i e) b) ρ Q := by
  rw [go_seq, go_set]; exact ⟨d, h, k⟩
theorem Go.set1 (h : e ρ = some d) (k : Q (.nx (ρ.set i d))) : Go (sSet i e) ρ Q := by
  rw [go_set]; exact ⟨d, h, k⟩
theorem Go.ret (h : e ρ = some d) (k : Q (.rt d)) : Go (sRet e) ρ Q := by
  rw [go_ret]; exact ⟨d, h, k⟩
theorem Go.asg {ρ' : List D} (h : e ρ = some d) (h2 : t d ρ = some ρ') (k : Go b ρ' Q) : Go (sSeq (sAsg t e) b) ρ Q := by
  rw [go_seq, go_asg]; exact ⟨d, h, ρ', h2, k⟩
theorem Go.mut {f : D → D → Option D} {x y z : D} (h : e ρ = some y) (h1 : ρ[i]? = some x) (h2 : f x y = some z) (k : Go b (ρ.set i z) Q) : Go (sSeq (sMut f i e) b) ρ Q := by
  rw [go_seq, go_mut]; exact ⟨y, h, x, h1, z, h2, k⟩
theorem Go.mut1 {f : D → D → Option D} {x y z : D} (h : e ρ = some y) (h1 : ρ[i]? = some x) (h2 : f x y = some z) (k : Q (.nx (ρ.set i z))) : Go (sMut f i e) ρ Q := by
  rw [go_mut]; exact ⟨y, h, x, h1, z, h2, k⟩
theorem Go.put {f : D → D → D → Option D} {x y v z : D} (h : e2 ρ = some v) (h0 : e1 ρ = some x) (h1 : ρ[i]? = some y) (h2 : f y x v = some z) (k : Go b (ρ.set i z) Q) : Go (sSeq (sPut f i e1 e2) b) ρ Q := by
  rw [go_seq, go_put]; exact ⟨v, h, x, h0, y, h1, z, h2, k⟩
theorem Go.put1 {f : D → D → D → Option D} {x y v z : D} (h : e2 ρ = some v) (h0 : e1 ρ = some x) (h1 : ρ[i]? = some y) (h2 : f y x v = some z) (k : Q (.nx (ρ.set i z))) : Go (sPut f i e1 e2) ρ Q := by
  rw [go_put]; exact ⟨v, h, x, h0, y, h1, z, h2, k⟩
theorem go_if : Go (sIf c a b) ρ Q = ∃ t, c ρ = some t ∧ Go (if t then a else b) ρ Q := by
  unfold Go
  rw [sIf_s]
  cases c ρ with
  | none => simp
  | some t => cases t <;> simp
theorem go_t (h : c ρ = some true) : Go (sIf c a b) ρ Q = Go a ρ Q := by rw [go_if, h]; simp
theorem go_f (h : c ρ = some false) : Go (sIf c a b) ρ Q = Go b ρ Q := by rw [go_if, h]; simp
/-- if p: a, else b, where the test tells whether p -/
theorem go_ite {p : Prop} [Decidable p] (h : c ρ = some (decide p)) (h1 : p → Go a ρ Q) (h2 : ¬ p → Go b ρ Q) : Go (sIf c a b) ρ Q := by
  by_cases hp : p
  · rw [go_t (by rw [h]; simp [hp])]; exact h1 hp
  · rw [go_f (by rw [h]; simp [hp])]; exact h2 hp
/-- a test that does not hold, with nothing else to do -/
theorem Go.no (h : c ρ = some false) (k : Go b ρ Q) : Go (sSeq (sIf c a sNil) b) ρ Q := by rw [go_seq, go_f h, go_nil]; exact k
theorem Go.ite {p : Prop} [Decidable p] (h : c ρ = some (decide p)) (h1 : p → Go a ρ (Cont s2 Q)) (h2 : ¬ p → Go b ρ (Cont s2 Q)) : Go (sSeq (sIf c a b) s2) ρ Q := by
  rw [go_seq]; exact go_ite h h1 h2
theorem fn_go {r : Res} {m : Sv} (hp : pkOk pk ds = true) (h : Go m (ds ++ List.replicate (n - ds.length) .non) (fun o => outR (some o) = some r)) : fnSem n pk m ds = some r := by
  rw [fn_s hp]
  obtain ⟨o, h1, h2⟩ := h
  rw [h1]; exact h2
theorem fn_ex {P : D → Prop} {m : Sv} (hp : pkOk pk ds = true) (h : Go m (ds ++ List.replicate (n - ds.length) .non) (fun o => ∃ d, o = .rt d ∧ P d)) : ∃ d, fnSem n pk m ds = some (.ret d) ∧ P d := by
  obtain ⟨o, h1, d, rfl, h2⟩ := h
  exact ⟨d, by rw [fn_s hp, h1]; rfl, h2⟩
/-- one turn of a loop -/
def Turn (t : Tv) (b : Sv) (R : List D → Prop) (d : D) (ρ : List D) : Prop := ∃ ρ1, t d ρ = some ρ1 ∧ Go b ρ1 fun o => ∃ ρ2, (o = .nx ρ2 ∨ o = .ct ρ2) ∧ R ρ2
theorem for_turns {α : Type} (x : α → D) (l : List α) (R : Nat → List D → Prop) (h0 : R 0 ρ) (k : ∀ i a ρ, l[i]? = some a → R i ρ → Turn t b (R (i + 1)) (x a) ρ) : ∃ ρ', forL t b (l.map x) ρ = some (.nx ρ') ∧ R l.length ρ' :=
  forL_inv x l R ρ h0 fun i a ρ hi h => by
    obtain ⟨ρ1, h1, o, h2, ρ2, h3, h4⟩ := k i a ρ hi h
    refine ⟨ρ1, ρ2, h1, ?_, h4⟩
    rcases h3 with rfl | rfl
    · exact .inl h2
    · exact .inr h2
theorem go_for {α : Type} {it : List D → Option (List D)} (x : α → D) (l : List α) (R : Nat → List D → Prop) (hit : it ρ = some (l.map x)) (h0 : R 0 ρ) (k : ∀ i a ρ, l[i]? = some a → R i ρ → Turn t b (R (i + 1)) (x a) ρ)
    (fin : ∀ ρ', R l.length ρ' → Q (.nx ρ')) : Go (sFor it t b) ρ Q := by
  obtain ⟨ρ', h1, h2⟩ := for_turns x l R h0 k
  refine ⟨_, ?_, fin ρ' h2⟩
  rw [sFor_s, hit]
  exact h1
theorem go_forK {α : Type} {tk : Bool} {ks : List Ky} {vs : List D} (x : α → D) (l : List α) (R : Nat → List D → Prop) (hd : ρ[i]? = some (.dic tk ks vs)) (hk : ks.map Ky.d = l.map x) (h0 : R 0 ρ) (k : ∀ i a ρ, l[i]? = some a → R i ρ → Turn t b (R (i + 1)) (x a) ρ)
    (fin : ∀ ρ', R l.length ρ' → Q (.nx ρ')) : Go (sForK i t b) ρ Q := by
  obtain ⟨ρ', h1, h2⟩ := for_turns x l R h0 k
  exact ⟨_, sForK_s hd (by rw [hk]; exact h1), fin ρ' h2⟩
end
end VV

/-! ## VTab -/
namespace VP
open PySem PySem.Spec PyProof.Rows L2 VV
def m_nought : Sv :=
  (sRet (eTup (aCons (eVar 0) (aCons (eVar 1) (aCons (eLc (iRng (aCons (eVar 0) aNil)) (gN 2) cYes (eP dRep (aCons (eLst (aCons (eC (.int 0)) aNil)) (aCons (eVar 1) aNil)))) aNil)))))
def f_nought : List D → Option Res := fnSem 3 [.flat, .flat] m_nought
def m_unit : Sv :=
  (sRet (eTup (aCons (eVar 0) (aCons (eVar 0) (aCons (eLc (iRng (aCons (eVar 0) aNil)) (gN 1) cYes (eLc (iRng (aCons (eVar 0) aNil)) (gN 2) cYes (eP dIntC (aCons (eP dEq (aCons (eVar 1) (aCons (eVar 2) aNil))) aNil)))) aNil)))))
def f_unit : List D → Option Res := fnSem 3 [.flat] m_unit
def m_turned : Sv :=
  (sSeq (sAsg (gT (gsCons (gF (gN 1)) (gsCons (gF (gN 2)) (gsCons (gN 3) gsNil)))) (eVar 0))
  (sRet (eTup (aCons (eVar 2) (aCons (eVar 1) (aCons (eLc (iRng (aCons (eVar 2) aNil)) (gN 4) cYes (eLc (iRng (aCons (eVar 1) aNil)) (gN 5) cYes (eChk D.isFlat (eP dIdx (aCons (eP dIdx (aCons (eVar 3) (aCons (eVar 5) aNil))) (aCons (eVar 4) aNil)))))) aNil))))))
def f_turned : List D → Option Res := fnSem 6 [.lab none [0] false] m_turned
def m_plus : Sv :=
  (sSeq (sIf (tOf (eP dNe (aCons (eChk D.isFlat (eSl (eChk D.isTup (eVar 0)) oNone (oSome (eC (.int 2))))) (aCons (eChk D.isFlat (eSl (eChk D.isTup (eVar 1)) oNone (oSome (eC (.int 2))))) aNil))))
  sNever
  sNil)
  (sRet (eTup (aCons (eChk D.isFlat (eP dIdx (aCons (eVar 0) (aCons (eC (.int 0)) aNil)))) (aCons (eChk D.isFlat (eP dIdx (aCons (eVar 0) (aCons (eC (.int 1)) aNil)))) (aCons (eLc (iZipL (aCons (eP dIdx (aCons (eVar 0) (aCons (eC (.int 2)) aNil))) (aCons (eP dIdx (aCons (eVar 1) (aCons (eC (.int 2)) aNil))) aNil))) (gT (gsCons (gN 2) (gsCons (gN 3) gsNil))) cYes (eLc (iZipL (aCons (eVar 2) (aCons (eVar 3) aNil))) (gT (gsCons (gF (gN 4)) (gsCons (gF (gN 5)) gsNil))) cYes (eP dAdd (aCons (eVar 4) (aCons (eVar 5) aNil))))) aNil))))))
def f_plus : List D → Option Res := fnSem 6 [.lab none [0] false, .lab none [0] false] m_plus
def m_many_times : Sv :=
  (sRet (eTup (aCons (eChk D.isFlat (eP dIdx (aCons (eVar 1) (aCons (eC (.int 0)) aNil)))) (aCons (eChk D.isFlat (eP dIdx (aCons (eVar 1) (aCons (eC (.int 1)) aNil)))) (aCons (eLc (iLst (eP dIdx (aCons (eVar 1) (aCons (eC (.int 2)) aNil)))) (gN 2) cYes (eLc (iLst (eVar 2)) (gF (gN 3)) cYes (eP dMul (aCons (eVar 0) (aCons (eVar 3) aNil))))) aNil)))))
def f_many_times : List D → Option Res := fnSem 4 [.flat, .lab none [0] false] m_many_times
def m_product : Sv :=
  (sSeq (sIf (tOf (eP dNe (aCons (eChk D.isFlat (eP dIdx (aCons (eVar 0) (aCons (eC (.int 1)) aNil)))) (aCons (eChk D.isFlat (eP dIdx (aCons (eVar 1) (aCons (eC (.int 0)) aNil)))) aNil))))
  sNever
  sNil)
  (sSeq (sSet 2 (eLst aNil))
  (sSeq (sFor (iLst (eP dIdx (aCons (eVar 0) (aCons (eC (.int 2)) aNil)))) (gN 3)
  (sSeq (sSet 4 (eP dRep (aCons (eLst (aCons (eC (.int 0)) aNil)) (aCons (eChk D.isFlat (eP dIdx (aCons (eVar 1) (aCons (eC (.int 1)) aNil)))) aNil))))
  (sSeq (sFor (iZipL (aCons (eVar 3) (aCons (eP dIdx (aCons (eVar 1) (aCons (eC (.int 2)) aNil))) aNil))) (gT (gsCons (gF (gN 5)) (gsCons (gN 6) gsNil)))
  (sIf (tOf (eP dNe (aCons (eVar 5) (aCons (eC (.int 0)) aNil))))
  (sSet 4 (eLc (iZipL (aCons (eVar 4) (aCons (eVar 6) aNil))) (gT (gsCons (gF (gN 7)) (gsCons (gF (gN 8)) gsNil))) cYes (eP dAdd (aCons (eVar 7) (aCons (eP dMul (aCons (eVar 5) (aCons (eVar 8) aNil))) aNil)))))
  sNil))
  (sMut dPush 2 (eVar 4)))))
  (sRet (eTup (aCons (eChk D.isFlat (eP dIdx (aCons (eVar 0) (aCons (eC (.int 0)) aNil)))) (aCons (eChk D.isFlat (eP dIdx (aCons (eVar 1) (aCons (eC (.int 1)) aNil)))) (aCons (eVar 2) aNil))))))))
def f_product : List D → Option Res := fnSem 9 [.lab none [0] false, .lab none [0] false] m_product
def m__law_cell_at : Sv :=
  (sSeq (sIf (tOf (eP dLt (aCons (eVar 1) (aCons (eP dLen (aCons (eVar 0) aNil)) aNil))))
  (sRet (eP dIdx (aCons (eVar 0) (aCons (eVar 1) aNil))))
  sNil)
  (sRet (eC (.int 0))))
def f__law_cell_at : List D → Option Res := fnSem 2 [.flat, .flat] m__law_cell_at
def m__law_row : Sv :=
  (sSeq (sSet 3 (eP dDiv (aCons (eVar 0) (aCons (eC (.int 2)) aNil))))
  (sSeq (sSet 4 (eLst aNil))
  (sSeq (sSet 5 (eVar 3))
  (sSeq (sFor (iRng (aCons (eVar 1) aNil)) (gN 6)
  (sSet 5 (eP dDiv (aCons (eVar 5) (aCons (eVar 2) aNil)))))
  (sSeq (sFor (iRng (aCons (eVar 1) aNil)) (gN 6)
  (sIf (tOf (eP dGt (aCons (eVar 5) (aCons (eC (.int 0)) aNil))))
  (sSeq (sMut dPush 4 (eP dMod (aCons (eVar 3) (aCons (eVar 2) aNil))))
  (sSet 3 (eP dDiv (aCons (eVar 3) (aCons (eVar 2) aNil)))))
  (sSeq (sSet 7 (eP dMod (aCons (eP dMul (aCons (eP dAdd (aCons (eP dAdd (aCons (eP dAdd (aCons (eP dMod (aCons (eVar 3) (aCons (eC (.int 2147483629)) aNil))) (aCons (eP dMul (aCons (eC (.int 7919)) (aCons (eVar 6) aNil))) aNil))) (aCons (eP dMul (aCons (eVar 6) (aCons (eVar 6) aNil))) aNil))) (aCons (eC (.int 1)) aNil))) (aCons (eC (.int 48271)) aNil))) (aCons (eC (.int 2147483647)) aNil))))
  (sSeq (sSet 8 (eP dMod (aCons (eP dMul (aCons (eP dAdd (aCons (eVar 7) (aCons (eP dMul (aCons (eC (.int 31)) (aCons (eVar 6) aNil))) aNil))) (aCons (eC (.int 69621)) aNil))) (aCons (eC (.int 998244353)) aNil))))
  (sMut dPush 4 (eP dMod (aCons (eP dAdd (aCons (eP dMul (aCons (eVar 7) (aCons (eVar 8) aNil))) (aCons (eP dDiv (aCons (eVar 7) (aCons (eC (.int 7)) aNil))) aNil))) (aCons (eVar 2) aNil))))))))
  (sRet (eVar 4)))))))
def f__law_row : List D → Option Res := fnSem 9 [.flat, .flat, .flat] m__law_row
def m__law_entry : Sv :=
  (sSeq (sIf (tOf (eP dLt (aCons (eP dMod (aCons (eVar 0) (aCons (eC (.int 8)) aNil))) (aCons (eC (.int 3)) aNil))))
  (sRet (eC (.int 0)))
  sNil)
  (sSeq (sIf (tOf (eP dLt (aCons (eP dMod (aCons (eVar 0) (aCons (eC (.int 8)) aNil))) (aCons (eC (.int 7)) aNil))))
  (sRet (eP dSub (aCons (eP dMod (aCons (eP dDiv (aCons (eVar 0) (aCons (eC (.int 8)) aNil))) (aCons (eC (.int 21)) aNil))) (aCons (eC (.int 10)) aNil))))
  sNil)
  (sRet (eP dAdd (aCons (eP dMul (aCons (eP dSub (aCons (eP dDiv (aCons (eVar 0) (aCons (eC (.int 8)) aNil))) (aCons (eC (.int 256)) aNil))) (aCons (eC (.int 1000000000)) aNil))) (aCons (eP dDiv (aCons (eVar 0) (aCons (eC (.int 8)) aNil))) aNil))))))
def f__law_entry : List D → Option Res := fnSem 1 [.flat] m__law_entry
def m__law_table : Sv :=
  (sSeq (sSet 3 (eChk D.kidsFlat (eCall f__law_row (aCons (eVar 0) (aCons (eP dMul (aCons (eVar 1) (aCons (eVar 2) aNil))) (aCons (eC (.int 4096)) aNil))))))
  (sRet (eTup (aCons (eVar 1) (aCons (eVar 2) (aCons (eLc (iRng (aCons (eVar 1) aNil)) (gN 4) cYes (eLc (iRng (aCons (eVar 2) aNil)) (gN 5) cYes (eCall f__law_entry (aCons (eChk D.isFlat (eP dIdx (aCons (eVar 3) (aCons (eP dAdd (aCons (eP dMul (aCons (eVar 4) (aCons (eVar 2) aNil))) (aCons (eVar 5) aNil))) aNil)))) aNil)))) aNil))))))
def f__law_table : List D → Option Res := fnSem 6 [.flat, .flat, .flat] m__law_table

/-! ### numbers, sums -/
def Bn (n : Nat) (x : Int) : Prop := x.natAbs < 2 ^ n
theorem Bn.mono {n m : Nat} {x : Int} (h : Bn n x) (hm : n ≤ m) : Bn m x := Nat.lt_of_lt_of_le h (Nat.pow_le_pow_right (by decide) hm)
theorem Bn.zero {n : Nat} : Bn n 0 := Nat.two_pow_pos n
theorem Bn.add {n : Nat} {x y : Int} (h : Bn n x) (h' : Bn n y) : Bn (n + 1) (x + y) := by
  unfold Bn at *
  rw [Nat.pow_succ]
  omega
theorem Bn.neg {n : Nat} {x : Int} (h : Bn n x) : Bn n (-x) := by unfold Bn at *; omega
theorem Bn.mul {n m : Nat} {x y : Int} (h : Bn n x) (h' : Bn m y) : Bn (n + m) (x * y) := by
  unfold Bn at *
  rw [Int.natAbs_mul, Nat.pow_add]
  exact Nat.mul_lt_mul'' h h'
theorem Bn.cmul {n m : Nat} {x y : Int} (h : Bn n x) (h' : Bn m y) (hs : n + m ≤ 134217728) : CMulX x y := mulx_ok h h' hs
def S : Nat → (Nat → Int) → Int
  | 0, _ => 0
  | n + 1, u => S n u + u n
theorem S_congr {u v : Nat → Int} : ∀ {n : Nat}, (∀ k, k < n → u k = v k) → S n u = S n v
  | 0, _ => rfl
  | n + 1, h => by
    unfold S
    rw [S_congr fun k hk => h k (Nat.lt_succ_of_lt hk), h n (Nat.lt_succ_self n)]
theorem S_add {u v : Nat → Int} : ∀ {n : Nat}, S n (fun k => u k + v k) = S n u + S n v
  | 0 => rfl
  | n + 1 => by
    show S n (fun k => u k + v k) + (u n + v n) = (S n u + u n) + (S n v + v n)
    rw [S_add]
    omega
theorem S_mulL {c : Int} {u : Nat → Int} : ∀ {n : Nat}, S n (fun k => c * u k) = c * S n u
  | 0 => by simp [S]
  | n + 1 => by
    unfold S
    rw [S_mulL, Int.mul_add]
theorem S_mulR {c : Int} {u : Nat → Int} : ∀ {n : Nat}, S n (fun k => u k * c) = S n u * c
  | 0 => by simp [S]
  | n + 1 => by
    unfold S
    rw [S_mulR, Int.add_mul]
theorem S_zero : ∀ {n : Nat}, S n (fun _ => 0) = 0
  | 0 => rfl
  | n + 1 => by unfold S; rw [S_zero]; rfl
theorem S_comm {m : Nat} {u : Nat → Nat → Int} : ∀ {n : Nat}, S n (fun i => S m (fun j => u i j)) = S m (fun j => S n (fun i => u i j))
  | 0 => by simp [S, S_zero]
  | n + 1 => by
    show S n (fun i => S m (fun j => u i j)) + S m (fun j => u n j) = S m (fun j => S n (fun i => u i j) + u n j)
    rw [S_comm, S_add]
theorem S_delta {c : Nat → Int} {a : Nat} : ∀ {n : Nat}, S n (fun k => (if a = k then 1 else 0) * c k) = if a < n then c a else 0
  | 0 => by simp [S]
  | n + 1 => by
    show S n (fun k => (if a = k then 1 else 0) * c k) + (if a = n then 1 else 0) * c n = _
    rw [S_delta]
    by_cases h : a = n
    · subst h; simp
    · by_cases h2 : a < n
      · rw [if_pos h2, if_neg h, if_pos (by omega)]; omega
      · rw [if_neg h2, if_neg h, if_neg (by omega)]; omega
theorem S_deltaR {c : Nat → Int} {a n : Nat} : S n (fun k => c k * (if k = a then 1 else 0)) = if a < n then c a else 0 := by
  rw [← S_delta]
  apply S_congr
  intro k _
  by_cases h : a = k
  · subst h; simp
  · simp [h, Ne.symm h]
theorem S_bn {u : Nat → Int} {b : Nat} : ∀ {n c : Nat}, n ≤ 2 ^ c → (∀ k, k < n → Bn b (u k)) → Bn (b + c) (S n u) := by
  have key : ∀ n : Nat, (∀ k, k < n → Bn b (u k)) → (S n u).natAbs ≤ n * (2 ^ b - 1) := by
    intro n
    induction n with
    | zero => intro _; simp [S]
    | succ n ih =>
      intro h
      have h1 := ih fun k hk => h k (Nat.lt_succ_of_lt hk)
      have h2 : (u n).natAbs < 2 ^ b := h n (Nat.lt_succ_self n)
      unfold S
      rw [Nat.succ_mul]
      omega
  intro n c hn h
  have h1 := key n h
  have h2 : n * (2 ^ b - 1) ≤ 2 ^ c * (2 ^ b - 1) := Nat.mul_le_mul_right _ hn
  have h3 : 2 ^ c * (2 ^ b - 1) < 2 ^ b * 2 ^ c := by
    rw [Nat.mul_comm (2 ^ b)]
    exact Nat.mul_lt_mul_of_pos_left (by have := Nat.two_pow_pos b; omega) (Nat.two_pow_pos c)
  unfold Bn
  rw [Nat.pow_add]
  omega

/-! ### tables as trees -/
def rowD (w : Nat) (r : Nat → Int) : D := .lst ((List.range w).map fun j => .int (r j))
def encT (h w : Nat) (f : Nat → Nat → Int) : D := .tup [.int h, .int w, .lst ((List.range h).map fun i => rowD w (f i))]
theorem rowD_congr {w : Nat} {r s : Nat → Int} (h : ∀ j, j < w → r j = s j) : rowD w r = rowD w s := by
  unfold rowD
  congr 1
  apply List.map_congr_left
  intro j hj
  rw [h j (List.mem_range.mp hj)]
theorem encT_congr {h w : Nat} {f g : Nat → Nat → Int} (e : ∀ i j, i < h → j < w → f i j = g i j) : encT h w f = encT h w g := by
  unfold encT
  have : ((List.range h).map fun i => rowD w (f i)) = (List.range h).map fun i => rowD w (g i) := by
    apply List.map_congr_left
    intro i hi
    exact rowD_congr fun j hj => e i j (List.mem_range.mp hi) hj
  rw [this]
theorem toPL_map {α : Type} (x : α → D) : ∀ l : List α, D.toPL (l.map x) = l.map fun a => (x a).toP
  | [] => by simp [D.toPL]
  | a :: r => by simp [D.toPL, toPL_map x r]
theorem canLayAll_map {α : Type} (x : α → PyData) : ∀ l : List α, (∀ a ∈ l, (x a).canLay0 = true) → PyData.canLayAll0 (l.map x) = true
  | [], _ => by simp [PyData.canLayAll0]
  | a :: r, h => by
    simp only [List.map_cons, PyData.canLayAll0, Bool.and_eq_true]
    exact ⟨h a List.mem_cons_self, canLayAll_map x r fun b hb => h b (List.mem_cons_of_mem _ hb)⟩
theorem depthAll_map {α : Type} (x : α → PyData) (n : Nat) : ∀ l : List α, (∀ a ∈ l, (x a).depth ≤ n) → PyData.depthAll (l.map x) ≤ n
  | [], _ => by simp [PyData.depthAll]
  | a :: r, h => by
    simp only [List.map_cons, PyData.depthAll]
    exact Nat.max_le.mpr ⟨h a List.mem_cons_self, depthAll_map x n r fun b hb => h b (List.mem_cons_of_mem _ hb)⟩
/-- a tree that the look at == takes -/
def Ok (n : Nat) (d : D) : Prop := d.toP.canLay0 = true ∧ d.toP.depth ≤ n
theorem Ok.shd {n : Nat} {d : D} (h : Ok n d) (hn : n ≤ 64) : d.shd = true := by
  unfold D.shd SeqAt.shaped
  rw [Bool.and_eq_true]
  exact ⟨h.1, decide_eq_true (Nat.le_trans h.2 hn)⟩
theorem Ok.int {k : Int} : Ok 0 (.int k) := ⟨by simp [D.toP, PyData.canLay0], by simp [D.toP, PyData.depth]⟩
theorem Ok.bl {k : Bool} : Ok 0 (.bl k) := ⟨by simp [D.toP, PyData.canLay0], by simp [D.toP, PyData.depth]⟩
theorem Ok.non : Ok 0 .non := ⟨by simp [D.toP, PyData.canLay0], by simp [D.toP, PyData.depth]⟩
theorem Ok.mono {n m : Nat} {d : D} (h : Ok n d) (hm : n ≤ m) : Ok m d := ⟨h.1, Nat.le_trans h.2 hm⟩
theorem Ok.lst {α : Type} {n : Nat} {x : α → D} {l : List α} (h : ∀ a ∈ l, Ok n (x a)) : Ok (n + 1) (.lst (l.map x)) := by
  refine ⟨?_, ?_⟩
  · simp only [D.toP, PyData.canLay0, toPL_map]
    exact canLayAll_map _ l fun a ha => (h a ha).1
  · simp only [D.toP, PyData.depth, toPL_map]
    exact Nat.succ_le_succ (depthAll_map _ n l fun a ha => (h a ha).2)
theorem Ok.tup {n : Nat} {l : List D} (h : ∀ a ∈ l, Ok n a) : Ok (n + 1) (.tup l) := by
  refine ⟨?_, ?_⟩
  · simp only [D.toP, PyData.canLay0]
    rw [← List.map_id l, toPL_map]
    exact canLayAll_map _ l fun a ha => (h a ha).1
  · simp only [D.toP, PyData.depth]
    rw [← List.map_id l, toPL_map]
    exact Nat.succ_le_succ (depthAll_map _ n l fun a ha => (h a ha).2)
theorem Ok.lst' {n : Nat} {l : List D} (h : ∀ a ∈ l, Ok n a) : Ok (n + 1) (.lst l) := by
  rw [← List.map_id l]
  exact Ok.lst h
theorem ok_encT {h w : Nat} {f : Nat → Nat → Int} : Ok 3 (encT h w f) := by
  refine Ok.tup fun a ha => ?_
  simp only [List.mem_cons, List.not_mem_nil, or_false] at ha
  rcases ha with rfl | rfl | rfl
  · exact Ok.int.mono (by decide)
  · exact Ok.int.mono (by decide)
  · exact Ok.lst fun i _ => Ok.lst fun j _ => Ok.int
theorem eqv_rfl {d : D} (h : d.toP.canLay0 = true) : d.eqv d = true := SeqAt.eqv_refl _ h
theorem dNe_same {n : Nat} {d : D} (h : Ok n d) (hn : n ≤ 64) : dNe [d, d] = some (.bl false) := by
  unfold dNe
  dsimp only
  rw [h.shd hn, eqv_rfl h.1]
  rfl
theorem dEq_same {n : Nat} {d : D} (h : Ok n d) (hn : n ≤ 64) : dEq [d, d] = some (.bl true) := by
  unfold dEq
  dsimp only
  rw [h.shd hn, eqv_rfl h.1]
  rfl
@[simp] theorem dEq_int {a b : Int} : dEq [.int a, .int b] = some (.bl (a == b)) := by
  unfold dEq
  dsimp only
  rw [Ok.int.shd (by decide), Ok.int.shd (by decide)]
  simp [D.eqv, D.toP, PyData.eqv]
@[simp] theorem dNe_int {a b : Int} : dNe [.int a, .int b] = some (.bl (a != b)) := by
  unfold dNe
  dsimp only
  rw [Ok.int.shd (by decide), Ok.int.shd (by decide)]
  simp [D.eqv, D.toP, PyData.eqv, bne]

/-! ### the shared functions -/
theorem cell_ok (ns : List Int) (k : Nat) : f__law_cell_at [.scr (ns.map D.int), .int k] = some (.ret (.int (ns.getD k 0))) := by
  unfold f__law_cell_at
  rw [fn_s (by simp)]
  simp only [m__law_cell_at]
  by_cases h : k < ns.length
  · simp [sIf_s, h, atI_n]
  · simp [sIf_s, h]
theorem nought_ok (h w : Nat) (hh : h ≤ 1000000) (hw : w ≤ 1000000) : f_nought [.int h, .int w] = some (.ret (encT h w fun _ _ => 0)) := by
  unfold f_nought
  rw [fn_s (by simp)]
  simp only [m_nought]
  simp only [sRet_s, eTup_s, aCons_s, eVar_s, eLc_s]
  rw [iRng1_s (k := h) (by simp) (by omega) (by omega), rng0]
  have row : rowD w (fun _ => 0) = .lst (List.replicate w [D.int 0]).flatten := by
    unfold rowD
    rw [List.map_const', List.length_range]
    congr 1
    induction w with
    | zero => rfl
    | succ w ih => rw [List.replicate_succ, List.replicate_succ, List.flatten_cons, ih (by omega)]; rfl
  have e := lcL_map (t := gN 2) (c := cYes) (e := eP dRep (aCons (eLst (aCons (eC (.int 0)) aNil)) (aCons (eVar 1) aNil))) (ρ := [.int h, .int w] ++ List.replicate (3 - [D.int h, D.int w].length) .non) (fun i : Nat => D.int i) (fun _ => rowD w fun _ => 0) (List.range h) fun a ha => by
    refine ⟨_, rfl, rfl, ?_⟩
    simp only [eP_s, aCons_s, eLst_s, eC_s, aNil_s, eVar_s, ob_some]
    simp only [List.length_cons, List.length_nil, List.cons_append, List.nil_append, List.set_cons_succ, List.getElem?_cons_succ, List.getElem?_cons_zero, ob_some]
    unfold dRep
    dsimp only
    rw [if_pos ⟨by simp, by omega, by omega, by simp; omega⟩, row, Int.toNat_natCast]
  simp only [Int.toNat_natCast] at e ⊢
  rw [ob_some, e]
  simp [encT]
end VP

/-! ## VTab2 -/
namespace VP
open PySem PySem.Spec PyProof.Rows L2 VV
theorem cm {x y : Int} (hx : x.natAbs < 2 ^ 63) (hy : y.natAbs < 2 ^ 63) : CMulX x y := Bn.cmul (n := 63) (m := 63) hx hy (by decide)
theorem cdv {x : Int} {n : Int} (h : 0 < n) (h2 : n.natAbs < 2 ^ 60) : CDivW x n := ⟨h, by
  have : n.natAbs.log2 < 60 := (Nat.log2_lt (by omega)).mpr h2
  omega⟩
theorem row_ok (cell : Int) (many base : Nat) (hm : many ≤ 1000000) (hb : 0 < base) (hb2 : base < 2 ^ 60) :
    ∃ r : List Int, f__law_row [.int cell, .int many, .int base] = some (.ret (.lst (r.map D.int))) ∧ r.length = many ∧ ∀ x ∈ r, 0 ≤ x ∧ x < base := by
  unfold f__law_row
  rw [fn_s (by simp)]
  have e0 : [D.int cell, .int many, .int base] ++ List.replicate (9 - [D.int cell, .int many, .int base].length) .non = [.int cell, .int many, .int base, .non, .non, .non, .non, .non, .non] := rfl
  rw [e0]
  have hcb : ∀ y : Int, dDiv [.int y, .int base] = some (.int (y / base)) := fun y => dDiv_s (cdv (by omega) (by omega))
  obtain ⟨ρ1, l1, R1⟩ := forL_inv (t := gN 6) (b := sSet 5 (eP dDiv (aCons (eVar 5) (aCons (eVar 2) aNil)))) (fun i : Nat => D.int i) (List.range many)
    (fun _ ρ => ∃ (y : Int) (k : D), ρ = [.int cell, .int many, .int base, .int (cell / 2), .lst [], .int y, k, .non, .non])
    [.int cell, .int many, .int base, .int (cell / 2), .lst [], .int (cell / 2), .non, .non, .non] ⟨_, _, rfl⟩
    (fun i a ρ ha hR => by
      obtain ⟨y, k, rfl⟩ := hR
      refine ⟨_, _, rfl, Or.inl ?_, ⟨y / base, .int a, rfl⟩⟩
      simp [hcb])
  obtain ⟨y1, k1, rfl⟩ := R1
  obtain ⟨ρ2, l2, R2⟩ := forL_inv (t := gN 6) (b := (sIf (tOf (eP dGt (aCons (eVar 5) (aCons (eC (.int 0)) aNil))))
  (sSeq (sMut dPush 4 (eP dMod (aCons (eVar 3) (aCons (eVar 2) aNil))))
  (sSet 3 (eP dDiv (aCons (eVar 3) (aCons (eVar 2) aNil)))))
  (sSeq (sSet 7 (eP dMod (aCons (eP dMul (aCons (eP dAdd (aCons (eP dAdd (aCons (eP dAdd (aCons (eP dMod (aCons (eVar 3) (aCons (eC (.int 2147483629)) aNil))) (aCons (eP dMul (aCons (eC (.int 7919)) (aCons (eVar 6) aNil))) aNil))) (aCons (eP dMul (aCons (eVar 6) (aCons (eVar 6) aNil))) aNil))) (aCons (eC (.int 1)) aNil))) (aCons (eC (.int 48271)) aNil))) (aCons (eC (.int 2147483647)) aNil))))
  (sSeq (sSet 8 (eP dMod (aCons (eP dMul (aCons (eP dAdd (aCons (eVar 7) (aCons (eP dMul (aCons (eC (.int 31)) (aCons (eVar 6) aNil))) aNil))) (aCons (eC (.int 69621)) aNil))) (aCons (eC (.int 998244353)) aNil))))
  (sMut dPush 4 (eP dMod (aCons (eP dAdd (aCons (eP dMul (aCons (eVar 7) (aCons (eVar 8) aNil))) (aCons (eP dDiv (aCons (eVar 7) (aCons (eC (.int 7)) aNil))) aNil))) (aCons (eVar 2) aNil)))))))) (fun i : Nat => D.int i) (List.range many)
    (fun n ρ => ∃ (z y : Int) (k a b : D) (r : List Int), ρ = [.int cell, .int many, .int base, .int z, .lst (r.map D.int), .int y, k, a, b] ∧ r.length = n ∧ ∀ x ∈ r, 0 ≤ x ∧ x < base)
    [.int cell, .int many, .int base, .int (cell / 2), .lst [], .int y1, k1, .non, .non] ⟨_, _, _, _, _, [], rfl, rfl, fun _ h => nomatch h⟩
    (fun i a ρ ha hR => by
      obtain ⟨z, y, k, a1, b1, r, rfl, hl, hr⟩ := hR
      have hi : i < many := by
        have := (List.getElem?_eq_some_iff.mp ha).1
        simpa using this
      have hai : a = i := by
        have h2 := (List.getElem?_eq_some_iff.mp ha).2
        simpa using h2.symm
      subst hai
      have hlen : r.length < 1000000 := by omega
      have hpush : ∀ d : D, dPush (.lst (r.map D.int)) d = some (.lst (r.map D.int ++ [d])) := fun d => dPush_s (by simpa using hlen)
      have hmod : ∀ x : Int, 0 ≤ x % base ∧ x % base < base := fun x => ⟨Int.emod_nonneg _ (by omega), Int.emod_lt_of_pos _ (by omega)⟩
      have hmb : ∀ x : Int, dMod [.int x, .int base] = some (.int (x % base)) := fun x => dMod_s (by omega)
      by_cases hy : 0 < y
      · refine ⟨_, [.int cell, .int many, .int base, .int (z / base), .lst ((r ++ [z % base]).map D.int), .int y, .int a, a1, b1], rfl, Or.inl ?_, ⟨_, _, _, _, _, _, rfl, by simp [hl], ?_⟩⟩
        · simp [sIf_s, hy, hmb, hpush, hcb]
        · intro x hx
          rcases List.mem_append.mp hx with h | h
          · exact hr x h
          · rw [List.mem_singleton.mp h]; exact hmod _
      · have hii : ((a : Int) * a) ≤ 1000000000000 ∧ 0 ≤ (a : Int) * a := by
          have h1 : a * a ≤ 1000000 * 1000000 := Nat.mul_le_mul (by omega) (by omega)
          omega
        have hz := Int.emod_lt_of_pos z (b := 2147483629) (by decide)
        have hz0 := Int.emod_nonneg z (b := 2147483629) (by decide)
        have h1 : dMul [.int 7919, .int (a : Int)] = some (.int (7919 * a)) := dMul_s (cm (by decide) (by omega))
        have h2 : dMul [.int (a : Int), .int (a : Int)] = some (.int (a * a)) := dMul_s (cm (by omega) (by omega))
        obtain ⟨u, hu⟩ : ∃ u : Int, u = z % 2147483629 + 7919 * a + a * a + 1 := ⟨_, rfl⟩
        have h3 : dMul [.int u, .int 48271] = some (.int (u * 48271)) := dMul_s (cm (by omega) (by decide))
        obtain ⟨v, hv⟩ : ∃ v : Int, v = u * 48271 % 2147483647 := ⟨_, rfl⟩
        have hv1 := Int.emod_lt_of_pos (u * 48271) (b := 2147483647) (by decide)
        have hv0 := Int.emod_nonneg (u * 48271) (b := 2147483647) (by decide)
        have h4 : dMul [.int 31, .int (a : Int)] = some (.int (31 * a)) := dMul_s (cm (by decide) (by omega))
        have h5 : dMul [.int (v + 31 * a), .int 69621] = some (.int ((v + 31 * a) * 69621)) := dMul_s (cm (by omega) (by decide))
        obtain ⟨w, hw⟩ : ∃ w : Int, w = (v + 31 * a) * 69621 % 998244353 := ⟨_, rfl⟩
        have hw1 := Int.emod_lt_of_pos ((v + 31 * a) * 69621) (b := 998244353) (by decide)
        have hw0 := Int.emod_nonneg ((v + 31 * a) * 69621) (b := 998244353) (by decide)
        have h6 : dMul [.int v, .int w] = some (.int (v * w)) := dMul_s (cm (by omega) (by omega))
        have h7 : dDiv [.int v, .int 7] = some (.int (v / 7)) := dDiv_s (cdv (by decide) (by decide))
        refine ⟨_, [.int cell, .int many, .int base, .int z, .lst ((r ++ [(v * w + v / 7) % base]).map D.int), .int y, .int a, .int v, .int w], rfl, Or.inl ?_, ⟨_, _, _, _, _, _, rfl, by simp [hl], ?_⟩⟩
        · simp [sIf_s, hy, h1, h2, ← hu, h3, ← hv, h4, h5, ← hw, h6, h7, hmb, hpush]
        · intro x hx
          rcases List.mem_append.mp hx with h | h
          · exact hr x h
          · rw [List.mem_singleton.mp h]; exact hmod _)
  obtain ⟨z, y, k, a, b, r, rfl, hl, hr⟩ := R2
  refine ⟨r, ?_, by simpa using hl, hr⟩
  have h2 : dDiv [.int cell, .int 2] = some (.int (cell / 2)) := dDiv_s (cdv (by decide) (by decide))
  have hit : ∀ ρ : List D, ρ[1]? = some (.int many) → iRng (aCons (eVar 1) aNil) ρ = some ((List.range many).map fun i : Nat => D.int i) := fun ρ h => by
    rw [iRng1_s (k := many) (by simp [h]) (by omega) (by omega), rng0]
    simp
  simp [m__law_row, h2, hit, l1, l2]
theorem entry_ok (x : Int) (h0 : 0 ≤ x) (h1 : x < 4096) : ∃ e : Int, f__law_entry [.int x] = some (.ret (.int e)) ∧ Bn 40 e := by
  unfold f__law_entry
  rw [fn_s (by simp)]
  unfold m__law_entry
  have h8 : dDiv [.int x, .int 8] = some (.int (x / 8)) := dDiv_s (cdv (by decide) (by decide))
  by_cases c1 : x % 8 < 3
  · exact ⟨0, by simp [sIf_s, c1], Bn.zero⟩
  · by_cases c2 : x % 8 < 7
    · refine ⟨x / 8 % 21 - 10, by simp [sIf_s, c1, c2, h8], ?_⟩
      unfold Bn
      omega
    · have hm : dMul [.int (x / 8 - 256), .int 1000000000] = some (.int ((x / 8 - 256) * 1000000000)) := dMul_s (cm (by omega) (by decide))
      refine ⟨(x / 8 - 256) * 1000000000 + x / 8, by simp [sIf_s, c1, c2, h8, hm], ?_⟩
      unfold Bn
      omega
end VP

/-! ## VTab3 -/
namespace VP
open PySem PySem.Spec PyProof.Rows L2 VV
theorem enc0 {h w : Nat} {f : Nat → Nat → Int} : dIdx [encT h w f, .int 0] = some (.int h) := by unfold encT; simp
theorem enc1 {h w : Nat} {f : Nat → Nat → Int} : dIdx [encT h w f, .int 1] = some (.int w) := by unfold encT; simp
theorem enc2 {h w : Nat} {f : Nat → Nat → Int} : dIdx [encT h w f, .int 2] = some (.lst ((List.range h).map fun i => rowD w (f i))) := by unfold encT; simp
/-- a range made of numbers from nought, at place i of the frame, and what is made of it -/
theorem lcR {n i : Nat} {e : Ev} {ρ : List D} (y : Nat → D) (h : ∀ a, a < n → e (ρ.set i (.int (a : Nat))) = some (y a)) :
    lcL (gN i) cYes e ρ ((List.range n).map fun i : Nat => D.int i) = some ((List.range n).map y) :=
  lcL_map (fun i : Nat => D.int i) y _ fun a ha => ⟨_, gN_s, cYes_s, h a (List.mem_range.mp ha)⟩
theorem iR {n : Nat} {e : Ev} {ρ : List D} (h : e ρ = some (.int n)) (hn : n ≤ 1000000) : iRng (aCons e aNil) ρ = some ((List.range n).map fun i : Nat => D.int i) := by
  rw [iRng1_s (k := n) (by simp [h]) (by omega) (by omega), rng0]
  simp
theorem unit_ok (n : Nat) (hn : n ≤ 1000000) : f_unit [.int n] = some (.ret (encT n n fun i j => if i = j then 1 else 0)) := by
  unfold f_unit
  rw [fn_s (by simp)]
  simp only [m_unit, sRet_s, eTup_s, aCons_s, eVar_s, eLc_s]
  have e0 : [D.int n] ++ List.replicate (3 - [D.int n].length) .non = [.int n, .non, .non] := rfl
  rw [e0, iR (n := n) rfl hn]
  have e := lcR (n := n) (i := 1) (ρ := [.int n, .non, .non]) (e := eLc (iRng (aCons (eVar 0) aNil)) (gN 2) cYes (eP dIntC (aCons (eP dEq (aCons (eVar 1) (aCons (eVar 2) aNil))) aNil))) (fun i => rowD n fun j => if i = j then 1 else 0) fun a ha => by
    have e := lcR (n := n) (i := 2) (ρ := [.int n, .int a, .non]) (e := eP dIntC (aCons (eP dEq (aCons (eVar 1) (aCons (eVar 2) aNil))) aNil)) (fun j => .int (if a = j then 1 else 0)) fun b hb => by
      by_cases h : a = b
      · subst h; simp
      · have : ¬ ((a : Int) = b) := by omega
        simp [h, this]
    simp only [eLc_s, List.set_cons_succ, List.set_cons_zero]
    rw [iR (n := n) rfl hn, ob_some, e]
    rfl
  rw [ob_some, e]
  simp [encT]
theorem table_ok (cell : Int) (h w : Nat) (hh : h ≤ 1000) (hw : w ≤ 1000) : ∃ f : Nat → Nat → Int, f__law_table [.int cell, .int h, .int w] = some (.ret (encT h w f)) ∧ ∀ i j, i < h → j < w → Bn 40 (f i j) := by
  have hwh : h * w ≤ 1000 * 1000 := Nat.mul_le_mul hh hw
  obtain ⟨r, hr, hl, hb⟩ := row_ok cell (h * w) 4096 (by omega) (by omega) (by decide)
  have hx : ∀ i j, i < h → j < w → ∃ x, r[i * w + j]? = some x ∧ 0 ≤ x ∧ x < 4096 := by
    intro i j hi hj
    have : i * w + j < h * w := by
      have : (i + 1) * w ≤ h * w := Nat.mul_le_mul_right _ hi
      rw [Nat.succ_mul] at this
      omega
    exact ⟨r[i * w + j], List.getElem?_eq_getElem (by omega), hb _ (List.getElem_mem _)⟩
  have hf : ∀ i j, ∃ e : Int, i < h → j < w → ∃ x, r[i * w + j]? = some x ∧ f__law_entry [.int x] = some (.ret (.int e)) ∧ Bn 40 e := by
    intro i j
    by_cases hij : i < h ∧ j < w
    · obtain ⟨x, h1, h2, h3⟩ := hx i j hij.1 hij.2
      obtain ⟨e, h4, h5⟩ := entry_ok x h2 h3
      exact ⟨e, fun _ _ => ⟨x, h1, h4, h5⟩⟩
    · exact ⟨0, fun a b => absurd ⟨a, b⟩ hij⟩
  refine ⟨fun i j => (hf i j).choose, ?_, fun i j hi hj => ?_⟩
  · generalize hg : (fun i j => (hf i j).choose) = g
    have hgs : ∀ i j, i < h → j < w → ∃ x, r[i * w + j]? = some x ∧ f__law_entry [.int x] = some (.ret (.int (g i j))) := by
      intro i j hi hj
      obtain ⟨x, h1, h2, _⟩ := (hf i j).choose_spec hi hj
      exact ⟨x, h1, by rw [← hg]; exact h2⟩
    unfold f__law_table
    rw [fn_s (by simp)]
    have e0 : [D.int cell, .int h, .int w] ++ List.replicate (6 - [D.int cell, .int h, .int w].length) .non = [.int cell, .int h, .int w, .non, .non, .non] := rfl
    rw [e0]
    have hm : dMul [.int (h : Int), .int (w : Int)] = some (.int ((h * w : Nat) : Int)) := by
      rw [dMul_s (cm (by omega) (by omega))]; simp
    have hr' : f__law_row [.int cell, .int ((h : Int) * w), .int 4096] = some (.ret (.lst (r.map D.int))) := by
      have := hr
      simp only [Int.natCast_mul] at this
      exact this
    have e := lcR (n := h) (i := 4) (ρ := [.int cell, .int h, .int w, .lst (r.map D.int), .non, .non]) (e := eLc (iRng (aCons (eVar 2) aNil)) (gN 5) cYes (eCall f__law_entry (aCons (eChk D.isFlat (eP dIdx (aCons (eVar 3) (aCons (eP dAdd (aCons (eP dMul (aCons (eVar 4) (aCons (eVar 2) aNil))) (aCons (eVar 5) aNil))) aNil)))) aNil))) (fun i => rowD w (g i)) fun a ha => by
      have e := lcR (n := w) (i := 5) (ρ := [.int cell, .int h, .int w, .lst (r.map D.int), .int a, .non]) (e := eCall f__law_entry (aCons (eChk D.isFlat (eP dIdx (aCons (eVar 3) (aCons (eP dAdd (aCons (eP dMul (aCons (eVar 4) (aCons (eVar 2) aNil))) (aCons (eVar 5) aNil))) aNil)))) aNil)) (fun j => .int (g a j)) fun b hb => by
        obtain ⟨x, h1, h2⟩ := hgs a b ha hb
        have hm : dMul [.int (a : Int), .int (w : Int)] = some (.int ((a : Int) * w)) := dMul_s (cm (by omega) (by omega))
        have hat : atI (r.map D.int) ((a : Int) * w + b) = some (.int x) := by
          rw [atI_of (k := a * w + b) (by simp), List.getElem?_map, h1]; rfl
        simp [hm, hat, h2, Option.filter_some]
      simp only [eLc_s, List.set_cons_succ, List.set_cons_zero]
      rw [iR (n := w) rfl (by omega), ob_some, e]
      rfl
    unfold m__law_table
    simp only [sSeq_s, sSet_s, eChk_s, eCall_s, eP_s, aCons_s, eVar_s, eC_s, aNil_s, ob_some, List.getElem?_cons_zero, List.getElem?_cons_succ, hm, Int.natCast_mul, hr', asRet_s, Option.filter_some, kf_lst, flL_ints, if_true, seqO_nx, List.set_cons_succ, List.set_cons_zero, sRet_s, eTup_s, eLc_s]
    rw [iR (n := h) rfl (by omega), ob_some, e]
    simp [encT]
  · exact ((hf i j).choose_spec hi hj).choose_spec.2.2
theorem zipmap {α β : Type} (f g : Nat → α) (k : α × α → β) (n : Nat) : (((List.range n).map f).zip ((List.range n).map g)).map k = (List.range n).map fun i => k (f i, g i) := by
  rw [List.zip_map', List.map_map]
  rfl
/-- pairs of two rows -/
theorem iZ {a : List D → Option (List D)} {ρ : List D} {f g : Nat → D} {n : Nat} (h : a ρ = some [.lst ((List.range n).map f), .lst ((List.range n).map g)]) : iZipL a ρ = some ((List.range n).map fun i => .tup [f i, g i]) := by
  rw [iZip_s h, zipmap]
theorem turned_ok (h w : Nat) (f : Nat → Nat → Int) (hh : h ≤ 1000) (hw : w ≤ 1000) : f_turned [encT h w f] = some (.ret (encT w h fun i j => f j i)) := by
  unfold f_turned
  rw [fn_s (by simp)]
  have e0 : [encT h w f] ++ List.replicate (6 - [encT h w f].length) .non = [encT h w f, .non, .non, .non, .non, .non] := rfl
  rw [e0]
  obtain ⟨R, hR⟩ : ∃ R, R = (List.range h).map fun i => rowD w (f i) := ⟨_, rfl⟩
  have e := lcR (n := w) (i := 4) (ρ := [encT h w f, .int h, .int w, .lst R, .non, .non]) (e := eLc (iRng (aCons (eVar 1) aNil)) (gN 5) cYes (eChk D.isFlat (eP dIdx (aCons (eP dIdx (aCons (eVar 3) (aCons (eVar 5) aNil))) (aCons (eVar 4) aNil))))) (fun i => rowD h fun j => f j i) fun a ha => by
    have e := lcR (n := h) (i := 5) (ρ := [encT h w f, .int h, .int w, .lst R, .int a, .non]) (e := eChk D.isFlat (eP dIdx (aCons (eP dIdx (aCons (eVar 3) (aCons (eVar 5) aNil))) (aCons (eVar 4) aNil)))) (fun j => .int (f j a)) fun b hb => by
      have h1 : atI R (b : Int) = some (rowD w (f b)) := by
        rw [atI_n, hR, List.getElem?_map, List.getElem?_range hb]; rfl
      have h2 : dIdx [rowD w (f b), .int (a : Int)] = some (.int (f b a)) := by
        unfold rowD
        rw [dIdx_l, atI_n, List.getElem?_map, List.getElem?_range ha]; rfl
      simp [h1, h2, Option.filter_some]
    simp only [eLc_s, List.set_cons_succ, List.set_cons_zero]
    rw [iR (n := h) rfl (by omega), ob_some, e]
    rfl
  unfold m_turned
  have g1 : gT (gsCons (gF (gN 1)) (gsCons (gF (gN 2)) (gsCons (gN 3) gsNil))) (encT h w f) [encT h w f, .non, .non, .non, .non, .non] = some [encT h w f, .int h, .int w, .lst R, .non, .non] := by
    subst hR
    conv => lhs; arg 2; unfold encT
    simp
  simp only [sSeq_s, sAsg_s, eVar_s, List.getElem?_cons_zero, ob_some, g1, seqO_nx, sRet_s, eTup_s, eLc_s, aCons_s, List.getElem?_cons_succ, aNil_s]
  rw [iR (n := w) rfl (by omega), ob_some, e]
  simp [encT]
theorem many_ok (c : Int) (h w : Nat) (f : Nat → Nat → Int) {n m : Nat} (hc : Bn n c) (hf : ∀ i j, i < h → j < w → Bn m (f i j)) (hs : n + m ≤ 100000) : f_many_times [.int c, encT h w f] = some (.ret (encT h w fun i j => c * f i j)) := by
  unfold f_many_times
  rw [fn_s (by simp)]
  have e0 : [.int c, encT h w f] ++ List.replicate (4 - [.int c, encT h w f].length) .non = [.int c, encT h w f, .non, .non] := rfl
  rw [e0]
  unfold m_many_times
  have e := lcL_map (t := gN 2) (c := cYes) (ρ := [.int c, encT h w f, .non, .non]) (e := eLc (iLst (eVar 2)) (gF (gN 3)) cYes (eP dMul (aCons (eVar 0) (aCons (eVar 3) aNil)))) (fun i : Nat => rowD w (f i)) (fun i => rowD w fun j => c * f i j) (List.range h) fun a ha => by
    refine ⟨_, gN_s, cYes_s, ?_⟩
    have e := lcL_map (t := gF (gN 3)) (c := cYes) (ρ := [.int c, encT h w f, rowD w (f a), .non]) (e := eP dMul (aCons (eVar 0) (aCons (eVar 3) aNil))) (fun j : Nat => D.int (f a j)) (fun j => .int (c * f a j)) (List.range w) fun b hb => by
      refine ⟨[.int c, encT h w f, rowD w (f a), .int (f a b)], by simp, cYes_s, ?_⟩
      have : dMul [.int c, .int (f a b)] = some (.int (c * f a b)) := dMul_s ((hc).cmul (hf a b (List.mem_range.mp ha) (List.mem_range.mp hb)) (by omega))
      simp [this]
    simp only [eLc_s, iLst_s, eVar_s, List.set_cons_succ, List.set_cons_zero, List.getElem?_cons_succ, List.getElem?_cons_zero, ob_some]
    have ra : asL (rowD w (f a)) = some ((List.range w).map fun j => .int (f a j)) := rfl
    rw [ra, ob_some, e]
    rfl
  simp only [sRet_s, eTup_s, aCons_s, aNil_s, eP_s, eChk_s, eC_s, eLc_s, iLst_s, eVar_s, List.getElem?_cons_succ, List.getElem?_cons_zero, ob_some, enc0, enc1, enc2, Option.filter_some, fl_int, if_true, asL_l]
  rw [e]
  simp [encT]
theorem plus_ok (h w : Nat) (f g : Nat → Nat → Int) : f_plus [encT h w f, encT h w g] = some (.ret (encT h w fun i j => f i j + g i j)) := by
  unfold f_plus
  rw [fn_s (by simp)]
  have e0 : [encT h w f, encT h w g] ++ List.replicate (6 - [encT h w f, encT h w g].length) .non = [encT h w f, encT h w g, .non, .non, .non, .non] := rfl
  rw [e0]
  unfold m_plus
  have c : ∀ f : Nat → Nat → Int, eChk D.isFlat (fun _ => dSl (encT h w f) none (some 2)) [] = some (.tup [.int h, .int w]) := by
    intro f
    unfold encT
    simp only [eChk_s]
    rw [dSl_t (by simp [HT.sIx])]
    simp [cutG, HT.sIx, Option.filter_some]
  have e := lcL_map (t := gT (gsCons (gN 2) (gsCons (gN 3) gsNil))) (c := cYes) (ρ := [encT h w f, encT h w g, .non, .non, .non, .non]) (e := eLc (iZipL (aCons (eVar 2) (aCons (eVar 3) aNil))) (gT (gsCons (gF (gN 4)) (gsCons (gF (gN 5)) gsNil))) cYes (eP dAdd (aCons (eVar 4) (aCons (eVar 5) aNil)))) (fun i : Nat => D.tup [rowD w (f i), rowD w (g i)]) (fun i => rowD w fun j => f i j + g i j) (List.range h) fun a ha => by
    refine ⟨[encT h w f, encT h w g, rowD w (f a), rowD w (g a), .non, .non], by simp, cYes_s, ?_⟩
    have e := lcL_map (t := gT (gsCons (gF (gN 4)) (gsCons (gF (gN 5)) gsNil))) (c := cYes) (ρ := [encT h w f, encT h w g, rowD w (f a), rowD w (g a), .non, .non]) (e := eP dAdd (aCons (eVar 4) (aCons (eVar 5) aNil))) (fun j : Nat => D.tup [.int (f a j), .int (g a j)]) (fun j => .int (f a j + g a j)) (List.range w) fun b hb => by
      exact ⟨[encT h w f, encT h w g, rowD w (f a), rowD w (g a), .int (f a b), .int (g a b)], by simp, cYes_s, by simp⟩
    rw [eLc_s, iZ (f := fun j => .int (f a j)) (g := fun j => .int (g a j)) (n := w) (by simp [rowD]), ob_some, e]
    rfl
  have ht : tOf (eP dNe (aCons (eChk D.isFlat (eSl (eChk D.isTup (eVar 0)) oNone (oSome (eC (.int 2))))) (aCons (eChk D.isFlat (eSl (eChk D.isTup (eVar 1)) oNone (oSome (eC (.int 2))))) aNil))) [encT h w f, encT h w g, .non, .non, .non, .non] = some false := by
    have c1 := c f
    have c2 := c g
    have ck : ∀ f : Nat → Nat → Int, (some (encT h w f)).filter D.isTup = some (encT h w f) := fun f => rfl
    simp only [eChk_s] at c1 c2
    simp only [tOf_s, eP_s, aCons_s, aNil_s, eChk_s, eSl_s, oNone_s, oSome_s, eC_s, eVar_s, List.getElem?_cons_succ, List.getElem?_cons_zero, ob_some, ck, c1, c2]
    rw [dNe_same (n := 1) (Ok.tup fun a ha => by
      simp only [List.mem_cons, List.not_mem_nil, or_false] at ha
      rcases ha with rfl | rfl <;> exact Ok.int) (by decide)]
    rfl
  rw [sSeq_s, sIf_f ht, sNil_s, seqO_nx]
  simp only [sRet_s, eTup_s, aCons_s, aNil_s, eP_s, eChk_s, eC_s, eLc_s, eVar_s, List.getElem?_cons_succ, List.getElem?_cons_zero, ob_some, enc0, enc1, Option.filter_some, fl_int, if_true]
  rw [iZ (f := fun i => rowD w (f i)) (g := fun i => rowD w (g i)) (n := h) (by simp [enc2]), ob_some, e]
  simp [encT]
end VP

/-! ## VTab4 -/
namespace VP
open PySem PySem.Spec PyProof.Rows L2 VV
theorem rng_at {n i a : Nat} (h : (List.range n)[i]? = some a) : i < n ∧ a = i := by
  have h1 := (List.getElem?_eq_some_iff.mp h).1
  have h2 := (List.getElem?_eq_some_iff.mp h).2
  exact ⟨by simpa using h1, by simpa using h2.symm⟩
theorem rep_row (d : Nat) (hd : d ≤ 1000000) : dRep [.lst [.int 0], .int d] = some (rowD d fun _ => 0) := by
  have row : ∀ w : Nat, rowD w (fun _ => 0) = .lst (List.replicate w [D.int 0]).flatten := by
    intro w
    unfold rowD
    rw [List.map_const', List.length_range]
    congr 1
    induction w with
    | zero => rfl
    | succ w ih => rw [List.replicate_succ, List.replicate_succ, List.flatten_cons, ih]; rfl
  unfold dRep
  dsimp only
  rw [if_pos ⟨by simp, by omega, by omega, by simp; omega⟩, row, Int.toNat_natCast]
abbrev mulE (f g : Nat → Nat → Int) (w : Nat) : Nat → Nat → Int := fun i j => S w fun k => f i k * g k j
theorem product_ok (h w d : Nat) (f g : Nat → Nat → Int) {n m : Nat} (hf : ∀ i j, i < h → j < w → Bn n (f i j)) (hg : ∀ i j, i < w → j < d → Bn m (g i j)) (hs : n + m ≤ 100000) (hh : h ≤ 1000) (hw : w ≤ 1000) (hd : d ≤ 1000) :
    f_product [encT h w f, encT w d g] = some (.ret (encT h d (mulE f g w))) := by
  unfold f_product
  rw [fn_s (by simp)]
  obtain ⟨A, hA⟩ : ∃ A, A = encT h w f := ⟨_, rfl⟩
  obtain ⟨B, hB⟩ : ∃ B, B = encT w d g := ⟨_, rfl⟩
  have A0 : dIdx [A, .int 0] = some (.int h) := by rw [hA]; exact enc0
  have A1 : dIdx [A, .int 1] = some (.int w) := by rw [hA]; exact enc1
  have A2 : dIdx [A, .int 2] = some (.lst ((List.range h).map fun i => rowD w (f i))) := by rw [hA]; exact enc2
  have B0 : dIdx [B, .int 0] = some (.int w) := by rw [hB]; exact enc0
  have B1 : dIdx [B, .int 1] = some (.int d) := by rw [hB]; exact enc1
  have B2 : dIdx [B, .int 2] = some (.lst ((List.range w).map fun i => rowD d (g i))) := by rw [hB]; exact enc2
  rw [← hA, ← hB]
  have e0 : [A, B] ++ List.replicate (9 - [A, B].length) .non = [A, B, .non, .non, .non, .non, .non, .non, .non] := rfl
  rw [e0]
  unfold m_product
  have ht : ∀ r, tOf (eP dNe (aCons (eChk D.isFlat (eP dIdx (aCons (eVar 0) (aCons (eC (.int 1)) aNil)))) (aCons (eChk D.isFlat (eP dIdx (aCons (eVar 1) (aCons (eC (.int 0)) aNil)))) aNil))) (A :: B :: r) = some false := by
    intro r
    simp [A1, B0, Option.filter_some]
  rw [sSeq_s, sIf_f (ht _), sNil_s, seqO_nx]
  have turn : ∀ (i : Nat) (L : List D) (x4 x5 x6 x7 x8 : D), i < h → L.length = i → ∃ y4 y5 y6 y7 y8, (sSeq (sSet 4 (eP dRep (aCons (eLst (aCons (eC (.int 0)) aNil)) (aCons (eChk D.isFlat (eP dIdx (aCons (eVar 1) (aCons (eC (.int 1)) aNil)))) aNil))))
  (sSeq (sFor (iZipL (aCons (eVar 3) (aCons (eP dIdx (aCons (eVar 1) (aCons (eC (.int 2)) aNil))) aNil))) (gT (gsCons (gF (gN 5)) (gsCons (gN 6) gsNil)))
  (sIf (tOf (eP dNe (aCons (eVar 5) (aCons (eC (.int 0)) aNil))))
  (sSet 4 (eLc (iZipL (aCons (eVar 4) (aCons (eVar 6) aNil))) (gT (gsCons (gF (gN 7)) (gsCons (gF (gN 8)) gsNil))) cYes (eP dAdd (aCons (eVar 7) (aCons (eP dMul (aCons (eVar 5) (aCons (eVar 8) aNil))) aNil)))))
  sNil))
  (sMut dPush 2 (eVar 4)))) [A, B, .lst L, rowD w (f i), x4, x5, x6, x7, x8] = some (.nx [A, B, .lst (L ++ [rowD d (mulE f g w i)]), rowD w (f i), y4, y5, y6, y7, y8]) := by
    intro i L x4 x5 x6 x7 x8 hi hL
    obtain ⟨ρ1, l1, R1⟩ := forL_inv (t := gT (gsCons (gF (gN 5)) (gsCons (gN 6) gsNil))) (b := (sIf (tOf (eP dNe (aCons (eVar 5) (aCons (eC (.int 0)) aNil))))
      (sSet 4 (eLc (iZipL (aCons (eVar 4) (aCons (eVar 6) aNil))) (gT (gsCons (gF (gN 7)) (gsCons (gF (gN 8)) gsNil))) cYes (eP dAdd (aCons (eVar 7) (aCons (eP dMul (aCons (eVar 5) (aCons (eVar 8) aNil))) aNil)))))
      sNil)) (fun k : Nat => D.tup [.int (f i k), rowD d (g k)]) (List.range w)
      (fun n ρ => ∃ y5 y6 y7 y8, ρ = [A, B, .lst L, rowD w (f i), rowD d (fun j => S n fun k => f i k * g k j), y5, y6, y7, y8])
      [A, B, .lst L, rowD w (f i), rowD d (fun _ => 0), x5, x6, x7, x8] ⟨_, _, _, _, rfl⟩
      (fun k a ρ ha hR => by
        obtain ⟨hk, rfl⟩ := rng_at ha
        obtain ⟨y5, y6, y7, y8, rfl⟩ := hR
        refine ⟨[A, B, .lst L, rowD w (f i), rowD d (fun j => S a fun k => f i k * g k j), .int (f i a), rowD d (g a), y7, y8], ?_⟩
        refine ⟨[A, B, .lst L, rowD w (f i), rowD d (fun j => S (a + 1) fun k => f i k * g k j), .int (f i a), rowD d (g a), y7, y8], by simp, Or.inl ?_, ⟨_, _, _, _, rfl⟩⟩
        by_cases hz : f i a = 0
        · have hc : tOf (eP dNe (aCons (eVar 5) (aCons (eC (.int 0)) aNil))) [A, B, .lst L, rowD w (f i), rowD d (fun j => S a fun k => f i k * g k j), .int (f i a), rowD d (g a), y7, y8] = some false := by simp [hz]
          rw [sIf_f hc, sNil_s]
          have : rowD d (fun j => S a fun k => f i k * g k j) = rowD d (fun j => S (a + 1) fun k => f i k * g k j) := rowD_congr fun j _ => by
            show _ = S a _ + f i a * g a j
            rw [hz, Int.zero_mul, Int.add_zero]
          rw [this]
        · have hc : tOf (eP dNe (aCons (eVar 5) (aCons (eC (.int 0)) aNil))) [A, B, .lst L, rowD w (f i), rowD d (fun j => S a fun k => f i k * g k j), .int (f i a), rowD d (g a), y7, y8] = some true := by simp [hz]
          rw [sIf_t hc]
          have e := lcL_map (t := gT (gsCons (gF (gN 7)) (gsCons (gF (gN 8)) gsNil))) (c := cYes) (ρ := [A, B, .lst L, rowD w (f i), rowD d (fun j => S a fun k => f i k * g k j), .int (f i a), rowD d (g a), y7, y8]) (e := eP dAdd (aCons (eVar 7) (aCons (eP dMul (aCons (eVar 5) (aCons (eVar 8) aNil))) aNil))) (fun j : Nat => D.tup [.int (S a fun k => f i k * g k j), .int (g a j)]) (fun j => .int (S (a + 1) fun k => f i k * g k j)) (List.range d) fun b hb => by
            refine ⟨[A, B, .lst L, rowD w (f i), rowD d (fun j => S a fun k => f i k * g k j), .int (f i a), rowD d (g a), .int (S a fun k => f i k * g k b), .int (g a b)], by simp, cYes_s, ?_⟩
            have : dMul [.int (f i a), .int (g a b)] = some (.int (f i a * g a b)) := dMul_s ((hf i a hi hk).cmul (hg a b hk (List.mem_range.mp hb)) (by omega))
            simp [this, S]
          rw [sSet_s, eLc_s, iZ (f := fun j => .int (S a fun k => f i k * g k j)) (g := fun j => .int (g a j)) (n := d) (by simp [rowD]), ob_some, e]
          rfl)
    obtain ⟨y5, y6, y7, y8, rfl⟩ := R1
    refine ⟨rowD d (fun j => S w fun k => f i k * g k j), y5, y6, y7, y8, ?_⟩
    have hset : sSet 4 (eP dRep (aCons (eLst (aCons (eC (.int 0)) aNil)) (aCons (eChk D.isFlat (eP dIdx (aCons (eVar 1) (aCons (eC (.int 1)) aNil)))) aNil))) [A, B, .lst L, rowD w (f i), x4, x5, x6, x7, x8] = some (.nx [A, B, .lst L, rowD w (f i), rowD d (fun _ => 0), x5, x6, x7, x8]) := by
      simp [B1, Option.filter_some, rep_row d (by omega)]
    have hz : iZipL (aCons (eVar 3) (aCons (eP dIdx (aCons (eVar 1) (aCons (eC (.int 2)) aNil))) aNil)) [A, B, .lst L, rowD w (f i), rowD d (fun _ => 0), x5, x6, x7, x8] = some ((List.range w).map fun k => D.tup [.int (f i k), rowD d (g k)]) :=
      iZ (f := fun k => .int (f i k)) (g := fun k => rowD d (g k)) (n := w) (by simp [B2]; rfl)
    rw [sSeq_s, hset, seqO_nx, sSeq_s, sFor_s, hz, ob_some, l1, seqO_nx]
    rw [List.length_range]
    simp [dPush_s (show L.length < 1000000 by omega)]
  obtain ⟨ρ1, l1, R1⟩ := forL_inv (t := gN 3) (b := (sSeq (sSet 4 (eP dRep (aCons (eLst (aCons (eC (.int 0)) aNil)) (aCons (eChk D.isFlat (eP dIdx (aCons (eVar 1) (aCons (eC (.int 1)) aNil)))) aNil))))
  (sSeq (sFor (iZipL (aCons (eVar 3) (aCons (eP dIdx (aCons (eVar 1) (aCons (eC (.int 2)) aNil))) aNil))) (gT (gsCons (gF (gN 5)) (gsCons (gN 6) gsNil)))
  (sIf (tOf (eP dNe (aCons (eVar 5) (aCons (eC (.int 0)) aNil))))
  (sSet 4 (eLc (iZipL (aCons (eVar 4) (aCons (eVar 6) aNil))) (gT (gsCons (gF (gN 7)) (gsCons (gF (gN 8)) gsNil))) cYes (eP dAdd (aCons (eVar 7) (aCons (eP dMul (aCons (eVar 5) (aCons (eVar 8) aNil))) aNil)))))
  sNil))
  (sMut dPush 2 (eVar 4))))) (fun i : Nat => rowD w (f i)) (List.range h)
    (fun n ρ => ∃ y3 y4 y5 y6 y7 y8, ρ = [A, B, .lst ((List.range n).map fun i => rowD d (mulE f g w i)), y3, y4, y5, y6, y7, y8])
    [A, B, .lst [], .non, .non, .non, .non, .non, .non] ⟨_, _, _, _, _, _, rfl⟩
    (fun i a ρ ha hR => by
      obtain ⟨hi, rfl⟩ := rng_at ha
      obtain ⟨y3, y4, y5, y6, y7, y8, rfl⟩ := hR
      obtain ⟨z4, z5, z6, z7, z8, hz⟩ := turn a ((List.range a).map fun i => rowD d (mulE f g w i)) y4 y5 y6 y7 y8 hi (by simp)
      refine ⟨_, _, rfl, Or.inl hz, ⟨rowD w (f a), z4, z5, z6, z7, z8, ?_⟩⟩
      have : (List.range (a + 1)).map (fun i => rowD d (mulE f g w i)) = (List.range a).map (fun i => rowD d (mulE f g w i)) ++ [rowD d (mulE f g w a)] := by
        rw [List.range_succ, List.map_append]
        rfl
      rw [this])
  obtain ⟨y3, y4, y5, y6, y7, y8, rfl⟩ := R1
  have hs2 : sSet 2 (eLst aNil) [A, B, .non, .non, .non, .non, .non, .non, .non] = some (.nx [A, B, .lst [], .non, .non, .non, .non, .non, .non]) := by simp
  have hit : iLst (eP dIdx (aCons (eVar 0) (aCons (eC (.int 2)) aNil))) [A, B, .lst [], .non, .non, .non, .non, .non, .non] = some ((List.range h).map fun i => rowD w (f i)) := by simp [A2]
  rw [sSeq_s, hs2, seqO_nx, sSeq_s, sFor_s, hit, ob_some, l1, seqO_nx, List.length_range]
  simp [A0, B1, Option.filter_some, encT]
end VP

/-! ## VTab5 -/
namespace VP
open PySem PySem.Spec PyProof.Rows L2 VV
theorem mulE_assoc {a b c : Nat → Nat → Int} {n m : Nat} : mulE (mulE a b n) c m = mulE a (mulE b c m) n := by
  funext i j
  show S m (fun k => S n (fun l => a i l * b l k) * c k j) = S n (fun l => a i l * S m fun k => b l k * c k j)
  have h1 : S m (fun k => S n (fun l => a i l * b l k) * c k j) = S m fun k => S n fun l => a i l * b l k * c k j := S_congr fun k _ => S_mulR.symm
  have h2 : S n (fun l => a i l * S m fun k => b l k * c k j) = S n fun l => S m fun k => a i l * (b l k * c k j) := S_congr fun k _ => S_mulL.symm
  rw [h1, h2, S_comm]
  exact S_congr fun l _ => S_congr fun k _ => Int.mul_assoc _ _ _
theorem mulE_addL {a b c : Nat → Nat → Int} {n : Nat} : mulE (fun i j => a i j + b i j) c n = fun i j => mulE a c n i j + mulE b c n i j := by
  funext i j
  show S n (fun k => (a i k + b i k) * c k j) = S n (fun k => a i k * c k j) + S n fun k => b i k * c k j
  rw [← S_add]
  exact S_congr fun k _ => Int.add_mul _ _ _
theorem mulE_addR {a b c : Nat → Nat → Int} {n : Nat} : mulE a (fun i j => b i j + c i j) n = fun i j => mulE a b n i j + mulE a c n i j := by
  funext i j
  show S n (fun k => a i k * (b k j + c k j)) = S n (fun k => a i k * b k j) + S n fun k => a i k * c k j
  rw [← S_add]
  exact S_congr fun k _ => Int.mul_add _ _ _
theorem mulE_mulL {a c : Nat → Nat → Int} {x : Int} {n : Nat} : mulE (fun i j => x * a i j) c n = fun i j => x * mulE a c n i j := by
  funext i j
  show S n (fun k => x * a i k * c k j) = x * S n fun k => a i k * c k j
  rw [← S_mulL]
  exact S_congr fun k _ => Int.mul_assoc _ _ _
theorem mulE_zeroR {a : Nat → Nat → Int} {n : Nat} : mulE a (fun _ _ => 0) n = fun _ _ => 0 := by
  funext i j
  show S n (fun k => a i k * 0) = 0
  rw [S_congr (v := fun _ => 0) fun k _ => Int.mul_zero _, S_zero]
theorem mulE_unitL {a : Nat → Nat → Int} {h : Nat} {i j : Nat} (hi : i < h) : mulE (fun i j => if i = j then 1 else 0) a h i j = a i j := by
  show S h (fun k => (if i = k then 1 else 0) * a k j) = a i j
  rw [S_delta, if_pos hi]
theorem mulE_unitR {a : Nat → Nat → Int} {w : Nat} {i j : Nat} (hj : j < w) : mulE a (fun i j => if i = j then 1 else 0) w i j = a i j := by
  show S w (fun k => a i k * (if k = j then 1 else 0)) = a i j
  rw [S_deltaR, if_pos hj]
theorem mulE_turn {a b : Nat → Nat → Int} {n : Nat} : (fun i j => mulE a b n j i) = mulE (fun i j => b j i) (fun i j => a j i) n := by
  funext i j
  show S n (fun k => a j k * b k i) = S n fun k => b k i * a j k
  exact S_congr fun k _ => Int.mul_comm _ _
theorem mulE_bn {f g : Nat → Nat → Int} {h w d n m c : Nat} (hf : ∀ i j, i < h → j < w → Bn n (f i j)) (hg : ∀ i j, i < w → j < d → Bn m (g i j)) (hw : w ≤ 2 ^ c) : ∀ i j, i < h → j < d → Bn (n + m + c) (mulE f g w i j) :=
  fun i j hi hj => S_bn hw fun k hk => (hf i k hi hk).mul (hg k j hk hj)
/-- the same table twice is no difference -/
theorem ne_enc {h w : Nat} {f g : Nat → Nat → Int} (e : ∀ i j, i < h → j < w → f i j = g i j) : dNe [encT h w f, encT h w g] = some (.bl false) := by
  rw [encT_congr e]
  exact dNe_same ok_encT (by decide)
theorem eq_enc {h w : Nat} {f g : Nat → Nat → Int} (e : ∀ i j, i < h → j < w → f i j = g i j) : dEq [encT h w f, encT h w g] = some (.bl true) := by
  rw [encT_congr e]
  exact dEq_same ok_encT (by decide)
end VP

/-! ## VExc -/
namespace VV
open PySem PySem.Spec PyProof.Rows L2

/-! ### own exception classes -/
/-- a class over ValueError, without an __init__ of its own -/
structure ExF (K : PySem.W.Frag) (C : Addr) : Prop where
  q : PySem.W.excIn K C He.veBase "ValueError.__new__" = true
  kp : PySem.W.keepIn K (.ref C) = true
  sb : PySem.W.subIn K (.ref C) (.type "BaseException") = some true
  tp : PySem.W.typeIn K (.ref C) = some (.type "type")
def sRaise (c : Str) : Sv := fun ρ => some (.ex c ρ)
section
variable {X : Cx} {W : L2.WX} {sc : Sc} {Γ Γ' : List Kd} {pos : Pos}
theorem sx_raise {cn m : Str} {C : Addr} {j : Nat} {p p2 pos' : Pos} (hc : X.calm = true) (tk : L2N.Takes X W) (hm : X.mg cn = some (.ref C)) (E : ExF X.K C) (hg : Gl X cn) (hx : kdsLe [] Γ sc.Γx = true)
    (hdb : (cn == ("__debug__" : Str)) = false := by decide) : SX X W sc Γ (.Raise (some (.Call (.Name cn p) [.Constant (.str m) j p2] [] pos)) none pos') (sRaise cn) Γ' := by
  refine ⟨_, L2N.ps_raise hc tk (L2N.pmk_own PySem.F.excBase_ValueError E.q hm E.kp (L2.raises_own E.sb E.tp) hg hdb), fun P g ρ σ H o D s e w => ?_⟩
  cases e
  exact w C _ σ H hm (.re (m := []) rfl) (s.re rfl hx)
/-- what raises nothing, beside what raises -/
theorem ss_nox {st : List Stmt} {s : Sv} (h : SS X.nox (fun _ _ _ _ => False) sc Γ st s Γ') (hs : ∀ ρ c ρ', s ρ ≠ some (.ex c ρ')) : SS X W sc Γ st s Γ' := by
  obtain ⟨t, p, k⟩ := h
  refine ⟨t, p.nox, fun P g ρ σ H o D st e w => k P g ρ σ H o D st e ?_⟩
  cases o with
  | nx ρ' => exact w
  | ct ρ' => exact w
  | rt d => exact w
  | ex c ρ' => exact absurd e (hs ρ c ρ')
end

/-! ### defs that may raise -/
def spX (mg : Mg) (sem : List D → Option Res) (n : Nat) (R : Rm) : Sp := fun vs H Q E => vs.length = n ∧ ∃ ds fp, RepL mg H ds vs fp ∧
  ((∃ d, sem ds = some (.ret d) ∧ ∀ v H', Ext H H' → RF mg H H' fp R d v → Q v H') ∨ ∃ c, sem ds = some (.exn c) ∧ ∀ C H', mg.mg c = some (.ref C) → Ext H H' → E (.ref C) none H')
section
variable {P : Program} {w : World} {K : PySem.W.Frag} {mg : Str → Option Value} {base : Heap} {x qual : Str} {params : Arguments} {body : List Stmt} {scope : Scope} {f : Addr} {fd : FuncData}
theorem fn_okX {N ps : List Str} {k : Nat} {sc : Sc} {Γ' : List Kd} {s : Sv} (F : FunD K x qual params body scope [] [] f fd) (S : FnScope N ps scope) (pk : List Kd) (hp : pk.length = ps.length) (hN : ps.length ≤ N.length) (hL : sc.LL = [])
    (hb : ∀ (cdv : Value) (A : Around) (outer : List Env) (s0 : Shared) (H : Hp) (E : XK), Room k (A.deeper (envOfC qual scope s0.heap.objs.size f cdv)) →
      L2N.Takes (cxOf (L2N.CX P w) P w K mg base N qual scope f cdv A outer s0 H E) (fun cls d _ H' => E cls d H') →
      SS (cxOf (L2N.CX P w) P w K mg base N qual scope f cdv A outer s0 H E) (fun cls d _ H' => E cls d H') sc (pk ++ List.replicate (N.length - pk.length) .dead) body s Γ') :
    FnOk P w K mg base (L2N.CX P w) (k + 1) f fd ps (spX ⟨mg, K⟩ (fnSem N.length pk s) ps.length sc.R) := by
  refine F.ok S (fun vs H Q E h => h.1) (fun cdv A outer s0 H vs Q E hr h => ?_)
  obtain ⟨hl, ds, fp, r, h⟩ := h
  obtain ⟨t, p, kk⟩ := hb cdv A outer s0 H E hr (L2N.takes_of rfl rfl rfl rfl)
  refine ⟨t, p, ?_⟩
  have hpk : pkOk pk ds = true := by
    rcases h with ⟨d, e, _⟩ | ⟨c, e, _⟩ <;> (unfold fnSem at e; split at e; assumption; cases e)
  have hsem : fnSem N.length pk s ds = match s (ds ++ List.replicate (N.length - ds.length) .non) with
      | some (.nx _) => some (.ret .non)
      | some (.rt d) => some (.ret d)
      | some (.ex c _) => some (.exn c)
      | _ => none := if_pos hpk
  have hlen := pkOk_len hpk
  have hvd := r.length
  have st : Sta ⟨mg, K⟩ ⟨fun a => a ∈ fp, fun _ => False⟩ sc.LL (pk ++ List.replicate (N.length - pk.length) .dead) (fun _ => 0) (ds ++ List.replicate (N.length - ds.length) .non) (L2.start N vs) H := by
    rw [hL]
    refine ⟨loc_start r.there, ?_⟩
    unfold L2.start
    rw [hvd, hlen]
    exact cells_start _ hpk r fun a ha => ha
  cases o : s (ds ++ List.replicate (N.length - ds.length) .non) with
  | none => rw [hsem, o] at h; rcases h with ⟨d, e, _⟩ | ⟨c, e, _⟩ <;> cases e
  | some o' =>
    rw [hsem, o] at h
    refine kk ⟨fun a => a ∈ fp, fun _ => False⟩ (fun _ => 0) _ _ H o' _ st o ?_
    cases o' with
    | nx ρ' =>
      rcases h with ⟨d, e, q⟩ | ⟨c, e, _⟩
      · cases e
        intro g' σ' H' s' st'
        rw [hL] at s'
        refine q .non H' (step_ext s') ?_
        have r : Rep ⟨mg, K⟩ H' .non .non [] := rep_non
        cases sc.R with
        | flat => exact r
        | fresh => exact ⟨[], r, by simp, fun a ha => nomatch ha⟩
        | out => exact ⟨[], r, fun a ha => nomatch ha⟩
      · cases e
    | ct ρ' => rcases h with ⟨d, e, _⟩ | ⟨c, e, _⟩ <;> cases e
    | rt d' =>
      rcases h with ⟨d, e, q⟩ | ⟨c, e, _⟩
      · cases e
        intro v g' H' s' l' rv
        rw [hL] at s' l'
        exact q v H' (step_ext s') (rf_of s' l' rv)
      · cases e
    | ex c ρ' =>
      rcases h with ⟨d, e, _⟩ | ⟨c', e, q⟩
      · cases e
      · cases e
        intro C g' σ' H' m s' st'
        rw [hL] at s'
        exact q C H' m (step_ext s')
end
/-- a def that may be called by its name, and may raise -/
def CalX (P : Program) (w : World) (K : PySem.W.Frag) (mg : Str → Option Value) (base : Heap) (x : Str) (k : Nat) (ps : List Str) (sem : List D → Option Res) (R : Rm) : Prop :=
  ∃ f fd, FnOk P w K mg base (L2N.CX P w) k f fd ps (spX ⟨mg, K⟩ sem ps.length R) ∧ mg x = some (.ref f) ∧ PySem.W.keepIn K (.ref f) = true ∧ Binds K fd ps []

/-! ### expressions that may raise, as a statement's own -/
def ER (X : Cx) (W : L2.WX) (LL : List Nat) (Γ : List Kd) (e : Expr) (sem : List D → Option Res) (m : Md) : Prop :=
  ∃ t, PE X e t ∧ ∀ P g ρ σ H Q, Sta X.vm P LL Γ g ρ σ H → ((∃ d, sem ρ = some (.ret d) ∧ ∀ v H', Ext H H' → Val X.vm P g H H' m d v → Q v H') ∨ (∃ c, sem ρ = some (.exn c) ∧ ∀ C H', X.mg c = some (.ref C) → Ext H H' → W (.ref C) none σ H')) → t σ H Q
def rCall (f : List D → Option Res) (a : List D → Option (List D)) : List D → Option Res := fun ρ => (a ρ).bind f
/-- the i-th slot holds the def of this name -/
def rCallV (i : Nat) (x : Str) (f : List D → Option Res) (a : List D → Option (List D)) : List D → Option Res := fun ρ => match ρ[i]? with
  | some (.fn y) => if y = x then (a ρ).bind f else none
  | _ => none
def rOr (a b : List D → Option Res) : List D → Option Res := fun ρ => match a ρ with
  | none => b ρ
  | r => r
section
variable {X : Cx} {W : L2.WX} {LL : List Nat} {Γ : List Kd} {pos p : Pos} {k : Nat} {ps : List Str} {sem : List D → Option Res} {R : Rm} {x : Str}
theorem er_of {e : Expr} {s : Ev} {m : Md} (h : EX X LL Γ e s m) : ER X W LL Γ e (fun ρ => (s ρ).map .ret) m := by
  obtain ⟨t, pt, kk⟩ := h
  refine ⟨t, pt, fun P g ρ σ H Q s e => ?_⟩
  rcases e with ⟨d, e, q⟩ | ⟨c, e, _⟩
  · obtain ⟨d', e1, e2⟩ := Option.map_eq_some_iff.mp e
    cases e2
    exact kk P g ρ σ H d Q s e1 q
  · obtain ⟨d', e1, e2⟩ := Option.map_eq_some_iff.mp e
    cases e2
theorem er_call {e : Expr} {es : List Expr} {a : List D → Option (List D)} {m : Md} (c : CalX X.prog X.w X.K X.mg X.base x k ps sem R) (hr : Room k X.A) (tk : L2N.Takes X W) (hg : Gl X x) (ha : EA X LL Γ (e :: es) a m) (hn : (e :: es).length = ps.length := by rfl)
    (hdb : (x == ("__debug__" : Str)) = false := by decide) (he : starEach (e :: es) X.env = (false, eval e X.env) :: starEach es X.env := by rfl) (hpl : (backTo pos (starEach es X.env)).any (·.1) = false := by rfl) :
    ER X W LL Γ (.Call (.Name x p) (e :: es) [] pos) (rCall sem a) (R.md m) := by
  obtain ⟨f, fd, F, hm, hk, hb⟩ := c
  obtain ⟨hl, t, pt, kk⟩ := ha
  refine ⟨_, L2.pe_callS F hr hg hm hk hb (fun σ => L2N.passAt tk σ) pt hdb he hpl, fun P g ρ σ H Q s e0 => ?_⟩
  have ea : ∃ ds, a ρ = some ds := by
    rcases e0 with ⟨d, e1, _⟩ | ⟨c, e1, _⟩ <;> (obtain ⟨ds, e1, _⟩ := bind_some e1; exact ⟨ds, e1⟩)
  obtain ⟨ds, ea⟩ := ea
  have er : rCall sem a ρ = sem ds := by unfold rCall; rw [ea]; rfl
  refine kk P g ρ σ H ds _ s ea fun vs H1 x1 vl => ?_
  obtain ⟨fp, r, o⟩ := vl
  refine ⟨by rw [r.length, hl ρ ds ea]; exact hn, ds, fp, r, ?_⟩
  rcases e0 with ⟨d, e1, q⟩ | ⟨c, e1, q⟩
  · exact .inl ⟨d, er.symm.trans e1, fun v H2 x2 rf => q v H2 (x1.trans x2) (rf_val x1 x2 o rf)⟩
  · exact .inr ⟨c, er.symm.trans e1, fun C H2 hC x2 => q C H2 hC (x1.trans x2)⟩
theorem er_or {e : Expr} {a b : List D → Option Res} {m : Md} (h : ER X W LL Γ e a m) (h' : ER X W LL Γ e b m) : ER X W LL Γ e (rOr a b) m := by
  obtain ⟨t, pt, kk⟩ := h
  obtain ⟨u, pu, kk'⟩ := h'
  refine ⟨fun σ H Q => t σ H Q ∨ u σ H Q, ⟨fun pins s σ H Q I h => h.elim (pt.run pins s σ H Q I) (pu.run pins s σ H Q I)⟩, fun P g ρ σ H Q s e => ?_⟩
  unfold rOr at e
  cases ha : a ρ with
  | none =>
    rw [ha] at e
    exact .inr (kk' P g ρ σ H Q s e)
  | some r =>
    rw [ha] at e
    refine .inl (kk P g ρ σ H Q s ?_)
    rw [ha]
    exact e
/-- the call of a def that stands in a slot -/
theorem pe_slotcall {CX : CXT} {i : Nat} {f : Addr} {fd : FuncData} {sp : Sp} {E : L2.St → XK} {e : Expr} {es : List Expr} {t : TA} (F : FnOk X.prog X.w X.K X.mg X.base CX k f fd ps sp) (hr : Room k X.A) (hN : X.N[i]? = some x) (hv : Vis X.env.scope x)
    (hk : PySem.W.keepIn X.K (.ref f) = true) (hb : Binds X.K fd ps []) (hx : ∀ σ, L2.PassesAt CX X σ (E σ)) (ha : PA X (e :: es) t) (h1 : (x == ("__debug__" : Str)) = false) (h2 : (x == ("__classdict__" : Str)) = false)
    (he : starEach (e :: es) X.env = (false, eval e X.env) :: starEach es X.env) (hpl : (backTo pos (starEach es X.env)).any (·.1) = false) :
    PE X (.Call (.Name x p) (e :: es) [] pos) (fun σ H Q => σ[i]? = some (some (.ref f)) ∧ t σ H fun vs H1 => sp vs H1 Q (E σ)) := by
  constructor
  intro pins s σ H Q I hh
  have hn := (pe_var (pos := p) hN hv h1 h2).run pins s σ H (fun v Hv => v = .ref f ∧ Hv = H) I ⟨.ref f, hh.1, rfl, rfl⟩
  refine wpAny_Call_Name_kw (thn hn fun u s1 z => ?_)
  obtain ⟨v, Hv, I1, rv, ev, eH⟩ := z
  subst ev eH
  cases rv
  have hargs := ha.run pos pins s1 σ _ _ I1 hh.2
  refine PySem.W.callWith_K (h₀ := X.base) I.ok.mod.kin hk (thn hargs fun us s2 z => ?_) he hpl
  obtain ⟨vs, H2, I2, r2, q2⟩ := z
  exact ⟨I2.kIn, L2.run_fnS F hr hb (hx σ) I2 r2 q2⟩
theorem er_callV {i : Nat} {y : Str} {e : Expr} {es : List Expr} {a : List D → Option (List D)} {m : Md} (c : CalX X.prog X.w X.K X.mg X.base x k ps sem R) (hr : Room k X.A) (tk : L2N.Takes X W) (hi : Γ[i]? = some .flat) (hN : X.N[i]? = some y) (hv : Vis X.env.scope y)
    (ha : EA X LL Γ (e :: es) a m) (hn : (e :: es).length = ps.length := by rfl) (h1 : (y == ("__debug__" : Str)) = false := by decide) (h2 : (y == ("__classdict__" : Str)) = false := by decide)
    (he : starEach (e :: es) X.env = (false, eval e X.env) :: starEach es X.env := by rfl) (hpl : (backTo pos (starEach es X.env)).any (·.1) = false := by rfl) :
    ER X W LL Γ (.Call (.Name y p) (e :: es) [] pos) (rCallV i x sem a) (R.md m) := by
  obtain ⟨f, fd, F, hm, hk, hb⟩ := c
  obtain ⟨hl, t, pt, kk⟩ := ha
  refine ⟨_, pe_slotcall F hr hN hv hk hb (fun σ => L2N.passAt tk σ) pt h1 h2 he hpl, fun P g ρ σ H Q s e0 => ?_⟩
  have ea : ∃ ds, ρ[i]? = some (.fn x) ∧ a ρ = some ds ∧ rCallV i x sem a ρ = sem ds := by
    have hs : ∃ r, rCallV i x sem a ρ = some r := by
      rcases e0 with ⟨d, e1, _⟩ | ⟨c, e1, _⟩
      · exact ⟨_, e1⟩
      · exact ⟨_, e1⟩
    obtain ⟨r, hs⟩ := hs
    unfold rCallV at hs ⊢
    split at hs
    · rename_i z hz
      split at hs
      · rename_i hz2
        subst hz2
        obtain ⟨ds, e1, e2⟩ := bind_some hs
        exact ⟨ds, hz, e1, by rw [if_pos rfl, e1]; rfl⟩
      · cases hs
    · cases hs
  obtain ⟨ds, hfn, ea, er⟩ := ea
  obtain ⟨d', ov, g1, g2, g3⟩ := s.cells.get hi
  rw [hfn] at g1
  cases g1
  obtain ⟨v, rfl, rv⟩ := g3
  simp only [Rep] at rv
  obtain ⟨⟨b, rfl, hb2⟩, _⟩ := rv
  have : b = f := by rw [show X.mg x = some (.ref b) from hb2] at hm; cases hm; rfl
  subst this
  refine ⟨g2, kk P g ρ σ H ds _ s ea fun vs H1 x1 vl => ?_⟩
  obtain ⟨fp, r, o⟩ := vl
  refine ⟨by rw [r.length, hl ρ ds ea]; exact hn, ds, fp, r, ?_⟩
  rcases e0 with ⟨d, e1, q⟩ | ⟨c, e1, q⟩
  · exact .inl ⟨d, er.symm.trans e1, fun v H2 x2 rf => q v H2 (x1.trans x2) (rf_val x1 x2 o rf)⟩
  · exact .inr ⟨c, er.symm.trans e1, fun C H2 hC x2 => q C H2 hC (x1.trans x2)⟩
end

/-! ### statements of such expressions -/
def sSetR (i : Nat) (r : List D → Option Res) : Sv := fun ρ => match r ρ with
  | some (.ret d) => some (.nx (ρ.set i d))
  | some (.exn c) => some (.ex c ρ)
  | none => none
def sRetR (r : List D → Option Res) : Sv := fun ρ => match r ρ with
  | some (.ret d) => some (.rt d)
  | some (.exn c) => some (.ex c ρ)
  | none => none
def sExpR (r : List D → Option Res) : Sv := fun ρ => match r ρ with
  | some (.ret _) => some (.nx ρ)
  | some (.exn c) => some (.ex c ρ)
  | none => none
section
variable {X : Cx} {W : L2.WX} {sc : Sc} {Γ Γ' : List Kd} {pos : Pos}
theorem sx_setR {i : Nat} {x : Str} {e : Expr} {r : List D → Option Res} {m : Md} {pos' : Pos} (n k : Nat) (hN : X.N.Nodup) (hi : X.N[i]? = some x) (hx : L2.Loc X.env.scope x) (he : ER X W sc.LL Γ e r m) (hg : kdsLe [] Γ sc.Γx = true)
    (hs : swapsWith e (some (.Name x pos')) pos.line X.env = pure false := by rfl) (hf : X.fn x = true ∨ X.env.scope.names.lookup x = some .local := by first | exact .inl rfl | exact .inr rfl | assumption)
    (h1 : n ≠ 0 := by decide) (h2 : k ≠ 0 := by decide) : SX X W sc Γ (.Assign [.Name x pos'] e pos) (sSetR i r) (Γ.set i (m.kind n k)) := by
  obtain ⟨t, p, kk⟩ := he
  refine ⟨_, ps_set hN hi hx p hs hf, fun P g ρ σ H o D s e w => ?_⟩
  unfold sSetR at e
  refine kk P g ρ σ H _ s ?_
  cases hr : r ρ with
  | none => rw [hr] at e; cases e
  | some z =>
    rw [hr] at e
    cases z with
    | ret d =>
      cases e
      exact .inl ⟨d, rfl, fun v H' x vl => w (relab g H H' v n k) _ H' (.relab x) ⟨s.loc.relab x, Cells.set i (s.cells.relab s.loc x) (vl.cell s.loc h1 h2)⟩⟩
    | exn c =>
      cases e
      exact .inr ⟨c, rfl, fun C H' hC x => w C _ σ H' hC ((Step.ext x).trans (.re (m := []) rfl)) ((s.ext x).re rfl hg)⟩
theorem sx_expR {e : Expr} {r : List D → Option Res} {m : Md} (he : ER X W sc.LL Γ e r m) (hg : kdsLe [] Γ sc.Γx = true) (hs : swapsWith e none pos.line X.env = pure false := by rfl) : SX X W sc Γ (.Expr e pos) (sExpR r) Γ := by
  obtain ⟨t, p, kk⟩ := he
  refine ⟨_, ps_expr p hs, fun P g ρ σ H o D s e w => ?_⟩
  unfold sExpR at e
  refine kk P g ρ σ H _ s ?_
  cases hr : r ρ with
  | none => rw [hr] at e; cases e
  | some z =>
    rw [hr] at e
    cases z with
    | ret d =>
      cases e
      exact .inl ⟨d, rfl, fun v H' x vl => w g σ H' (.ext x) (s.ext x)⟩
    | exn c =>
      cases e
      exact .inr ⟨c, rfl, fun C H' hC x => w C _ σ H' hC ((Step.ext x).trans (.re (m := []) rfl)) ((s.ext x).re rfl hg)⟩
theorem sx_retR {e : Expr} {r : List D → Option Res} {m : Md} (he : ER X W sc.LL Γ e r m) (hg : kdsLe [] Γ sc.Γx = true) (hm : m = .flat ∨ sc.R = .out := by first | exact .inl rfl | exact .inr rfl) : SX X W sc Γ (.Return (some e) pos) (sRetR r) Γ' := by
  obtain ⟨t, p, kk⟩ := he
  refine ⟨_, ps_ret p, fun P g ρ σ H o D s e w => ?_⟩
  unfold sRetR at e
  refine kk P g ρ σ H _ s ?_
  cases hr : r ρ with
  | none => rw [hr] at e; cases e
  | some z =>
    rw [hr] at e
    cases z with
    | ret d =>
      cases e
      refine .inl ⟨d, rfl, fun v H' x vl => w v (relab g H H' v 1 1) H' (.relab x) (s.loc.relab x) ?_⟩
      cases m with
      | flat =>
        have rp : Rep X.vm H' d v [] := vl
        cases hR : sc.R with
        | flat => exact rp
        | fresh => exact ⟨[], rp, by simp, fun a ha => nomatch ha⟩
        | out => exact ⟨[], rp, fun a ha => nomatch ha⟩
      | al fr rt L nd =>
        rcases hm with hm | hm
        · cases hm
        · obtain ⟨fp, rp, o, z⟩ := vl
          rw [hm]
          refine ⟨fp, rp, fun a ha => ?_⟩
          have old : ∀ (L : List Nat) (b : Addr), Old P g L b → relab g H H' v 1 1 b ≠ 0 ∨ P.out b := fun L b y => by
            rw [relab_old (y.there s.loc)]
            by_cases e0 : g b = 0
            · exact .inr (y.2 e0)
            · exact .inl e0
          rcases o a ha with ⟨e, y⟩ | ⟨_, ⟨_, y⟩ | y⟩
          · cases rt with
            | new => exact .inl (by rw [relab_new y]; split <;> decide)
            | old n => exact old _ a y
            | unk => exact y.elim
          · exact .inl (by rw [relab_new y]; split <;> decide)
          · exact old _ a y
    | exn c =>
      cases e
      exact .inr ⟨c, rfl, fun C H' hC x => w C _ σ H' hC ((Step.ext x).trans (.re (m := []) rfl)) ((s.ext x).re rfl hg)⟩
end
end VV

/-! ## VExc2 -/
namespace VV
open PySem PySem.Spec PyProof.Rows L2

/-! ### the program's exception classes -/
def six : List Str := ["NoTable", "NoPlace", "NoMove", "NoWord", "NoText", "TooMany"]
/-- whether an exception of the class c is one of the class y -/
def subX (c y : Str) : Option Bool := if y = c ∨ y = "CordError" ∨ y = "ValueError" then some true else if y ∈ six then some false else none
def isAny (c : Str) : List Str → Option Bool
  | [] => some false
  | y :: r => match subX c y with
    | some true => some true
    | some false => isAny c r
    | none => none
structure ExW (K : PySem.W.Frag) (mg : Str → Option Value) (L : List Str) : Prop where
  i : ∀ c C, c ∈ L → mg c = some (.ref C) → ExcC K C
  k : ∀ c C y u b, c ∈ L → mg c = some (.ref C) → subX c y = some b → (mg y = some u ∨ (mg y = none ∧ bootBuiltins y = some u)) → PySem.W.kitOne K (.ref C) u = some b
  m : ∀ c C y D b, c ∈ L → mg c = some (.ref C) → subX c y = some b → mg y = some (.ref D) → PySem.W.exmOne K (.ref C) (.ref D) = some b
theorem names_or {X : Cx} {y : Str} {u : Value} (h : L2.Names X y u) : X.mg y = some u ∨ (X.mg y = none ∧ bootBuiltins y = some u) := by
  obtain ⟨_, _, h | ⟨h1, h2, _⟩⟩ := h
  · exact .inl h
  · exact .inr ⟨h1, h2⟩
theorem pe_names {X : Cx} {y : Str} {u : Value} {v : V} {p : Pos} (h : L2.Names X y u) (r : RelV v u) : PE X (.Name y p) (tC v) := by
  obtain ⟨hg, hd, h | ⟨h1, h2, h3⟩⟩ := h
  · exact pe_glob hg h r hd
  · exact pe_bltn hg h1 h2 r h3 hd

/-! ### isinstance(e, X), isinstance(e, (X, ..)) of the exception that is handled -/
def rIsX (K : PySem.W.Frag) (C a : Addr) : List V → Hp → VK → Prop := fun xs H Q => ∃ (c : V) (b : Bool), xs = [.ref a, c] ∧ Q (.bl b) H ∧
  ((∃ cv, (∀ u, RelV c u → u = cv) ∧ PySem.W.kitOne K (.ref C) cv = some b) ∨ ∃ t vs us, c = .ref t ∧ H t = some (.tup vs) ∧ (∀ ws, Vals vs ws → ws = us) ∧ PySem.W.kitAny K (.ref C) us = some b)
theorem call_isX {X : Cx} {a C : Addr} {oe : Obj} (hp : (a, oe) ∈ X.pn) (E : ExcC X.K C) (hz : L2N.Zn (.ref C) none oe) (hf : ∃ vs, oe.data = .fields vs) : CallR X (.builtin "isinstance") (rIsX X.K C a) := by
  intro pins s σ H xs us Q I r h
  obtain ⟨c, b, rfl, q, h⟩ := h
  obtain ⟨hget, _⟩ := I.pin (a, oe) (List.mem_append_left _ hp)
  have J : PySem.W.InstAt s.heap a oe C none := by
    obtain ⟨vs, hv⟩ := hf
    cases oe with
    | mk oc od oda osl =>
      obtain ⟨z1, z2, _⟩ := hz
      cases z1
      cases z2
      cases hv
      exact ⟨hget, rfl, rfl, trivial⟩
  have Z := PySem.W.handS_kitx_exc (x := a) (ox := oe) E.hg E.hk E.hs E.hd E.ha E.hn E.ht E.hm
  match us, r with
  | [_, w], .cons rx (.cons rt .nil) =>
    cases rx
    rcases h with ⟨cv, hcv, e⟩ | ⟨t, vs, ws, rfl, ht, hws, e⟩
    · cases hcv w rt
      exact PySem.W.kia_one Z I.kIn J e (fun z => nomatch z) fun tk => ⟨.bl b, H, I.kept (t' := tk) fun _ _ z => z, rfl, q⟩
    · cases rt
      obtain ⟨_, its, rv, ob, ho, htup⟩ := I.hok t _ ht
      have e0 := hws its rv
      subst e0
      obtain ⟨oc, od, oda, osl⟩ := ob
      obtain ⟨h1, n, h2⟩ := htup
      cases h1
      cases h2
      exact PySem.W.kia_tup Z I.kIn J ho e (fun z => nomatch z) fun tk => ⟨.bl b, H, I.kept (t' := tk) fun _ _ z => z, rfl, q⟩

def eIsX (i : Nat) (ys : List Str) : Ev := fun ρ => match ρ[i]? with
  | some (.str c) => (isAny c ys).map .bl
  | _ => none
theorem isX_s {i : Nat} {ys : List Str} {ρ : List D} {c : Str} {b : Bool} (h : ρ[i]? = some (.str c)) (e : isAny c ys = some b) : eIsX i ys ρ = some (.bl b) := by
  unfold eIsX
  rw [h]
  dsimp only
  rw [e]
  rfl
/-- the class names of a tuple of them -/
def NamesL (X : Cx) : List Expr → List Str → List V → List Value → Prop
  | [], [], [], [] => True
  | .Name y _ :: es, z :: ys, v :: vs, u :: us => y = z ∧ L2.Names X y u ∧ RelV v u ∧ (∀ w, RelV v w → w = u) ∧ NamesL X es ys vs us
  | _, _, _, _ => False
section
variable {X : Cx} {L : List Str} {LL : List Nat} {Γ : List Kd} {a : Addr} {oe : Obj} {c : Str} {C : Addr} {pos p q tp : Pos}
theorem kitAny_of (T : ExW X.K X.mg L) (hc : c ∈ L) (hm : X.mg c = some (.ref C)) : ∀ {es : List Expr} {ys : List Str} {vs : List V} {us : List Value} {b : Bool}, NamesL X es ys vs us → isAny c ys = some b → PySem.W.kitAny X.K (.ref C) us = some b
  | [], [], [], [], _, _, e => by cases e; rfl
  | .Name y _ :: es, z :: ys, v :: vs, u :: us, b, h, e => by
    obtain ⟨rfl, h1, _, _, h2⟩ := h
    unfold isAny at e
    unfold PySem.W.kitAny
    cases hs : subX c y with
    | none => rw [hs] at e; cases e
    | some t =>
      rw [T.k c C y u t hc hm hs (names_or h1)]
      rw [hs] at e
      cases t with
      | true => exact e
      | false => exact kitAny_of T hc hm h2 e
theorem pa_names : ∀ {es : List Expr} {ys : List Str} {vs : List V} {us : List Value}, NamesL X es ys vs us → ∃ t, PA X es t ∧ ∀ σ H Q, Q vs H → t σ H Q
  | [], [], [], [], _ => ⟨_, pa_nil, fun σ H Q h => h⟩
  | .Name y p :: es, z :: ys, v :: vs, u :: us, h => by
    obtain ⟨rfl, h1, h2, _, h3⟩ := h
    obtain ⟨t, pt, k⟩ := pa_names h3
    refine ⟨_, pa_cons (pe_names h1 h2) pt (by rfl), fun σ H Q h => ?_⟩
    exact k σ H _ h
theorem namesL_vals : ∀ {es : List Expr} {ys : List Str} {vs : List V} {us ws : List Value}, NamesL X es ys vs us → Vals vs ws → ws = us
  | [], [], [], [], _, _, .nil => rfl
  | .Name y _ :: es, z :: ys, v :: vs, u :: us, _, h, .cons r rr => by
    obtain ⟨_, _, _, h4, h5⟩ := h
    rw [h4 _ r, namesL_vals h5 rr]
/-- isinstance(e, X) -/
theorem ex_isX {i : Nat} {x y : Str} {u : Value} {v : V} (T : ExW X.K X.mg L) (hp : (a, oe) ∈ X.pn) (hz : L2N.Zn (.ref C) none oe) (hf : ∃ vs, oe.data = .fields vs) (hc : c ∈ L) (hm : X.mg c = some (.ref C)) (hi : Γ[i]? = some (.exc a c)) (hN : X.N[i]? = some x) (hv : Vis X.env.scope x)
    (hg : Gl X "isinstance") (hb : X.mg "isinstance" = none) (hbv : bootBuiltins "isinstance" = some (.builtin "isinstance")) (hy : L2.Names X y u) (r : RelV v u) (ru : ∀ w, RelV v w → w = u)
    (h1 : (x == ("__debug__" : Str)) = false := by decide) (h2 : (x == ("__classdict__" : Str)) = false := by decide)
    (hs : starEach [.Name x tp, .Name y q] X.env = (false, eval (.Name x tp) X.env) :: starEach [.Name y q] X.env := by rfl) (hs2 : starEach [.Name y q] X.env = (false, eval (.Name y q) X.env) :: starEach [] X.env := by rfl)
    (hpl : (backTo pos (starEach [.Name y q] X.env)).any (·.1) = false := by rfl) : EX X LL Γ (.Call (.Name "isinstance" p) [.Name x tp, .Name y q] [] pos) (eIsX i [y]) .flat := by
  refine ⟨_, pe_callB (call_isX hp (T.i c C hc hm) hz hf) hg hb hbv (pa_cons (pe_var hN hv h1 h2) (pa_cons (pe_names hy r) pa_nil hs2) hs) (by decide) (by decide) hs hpl, fun P g ρ σ H d Q s e0 k => ?_⟩
  obtain ⟨d', ov, g1, g2, rfl, rfl⟩ := s.cells.get hi
  unfold eIsX at e0
  rw [g1] at e0
  obtain ⟨b, e1, e2⟩ := Option.map_eq_some_iff.mp e0
  cases e2
  refine ⟨.ref a, g2, v, b, rfl, k _ H Ext.refl (val_flat rep_bl), .inl ⟨u, ru, T.k c C y u b hc hm ?_ (names_or hy)⟩⟩
  unfold isAny isAny at e1
  cases hs : subX c y with
  | none => rw [hs] at e1; cases e1
  | some t => rw [hs] at e1; cases t <;> exact e1
/-- isinstance(e, (X, ..)) -/
theorem ex_isXs {i : Nat} {x : Str} {es : List Expr} {ys : List Str} {vs : List V} {us : List Value} {tpos : Pos} {tc : Nat} (T : ExW X.K X.mg L) (hp : (a, oe) ∈ X.pn) (hz : L2N.Zn (.ref C) none oe) (hf : ∃ vs, oe.data = .fields vs) (hc : c ∈ L) (hm : X.mg c = some (.ref C)) (hi : Γ[i]? = some (.exc a c)) (hN : X.N[i]? = some x) (hv : Vis X.env.scope x)
    (hg : Gl X "isinstance") (hb : X.mg "isinstance" = none) (hbv : bootBuiltins "isinstance" = some (.builtin "isinstance")) (hy : NamesL X es ys vs us) (hl : vs.length ≤ 1000 := by exact Nat.le_of_ble_eq_true rfl)
    (h1 : (x == ("__debug__" : Str)) = false := by decide) (h2 : (x == ("__classdict__" : Str)) = false := by decide)
    (hs : starEach [.Name x tp, .Tuple es tc tpos] X.env = (false, eval (.Name x tp) X.env) :: starEach [.Tuple es tc tpos] X.env := by rfl) (hs2 : starEach [.Tuple es tc tpos] X.env = (false, eval (.Tuple es tc tpos) X.env) :: starEach [] X.env := by rfl)
    (hpl : (backTo pos (starEach [.Tuple es tc tpos] X.env)).any (·.1) = false := by rfl) : EX X LL Γ (.Call (.Name "isinstance" p) [.Name x tp, .Tuple es tc tpos] [] pos) (eIsX i ys) .flat := by
  obtain ⟨t, pa, ka⟩ := pa_names hy
  refine ⟨_, pe_callB (call_isX hp (T.i c C hc hm) hz hf) hg hb hbv (pa_cons (pe_var hN hv h1 h2) (pa_cons (pe_tup pa) pa_nil hs2) hs) (by decide) (by decide) hs hpl, fun P g ρ σ H d Q s e0 k => ?_⟩
  obtain ⟨d', ov, g1, g2, rfl, rfl⟩ := s.cells.get hi
  unfold eIsX at e0
  rw [g1] at e0
  obtain ⟨b, e1, e2⟩ := Option.map_eq_some_iff.mp e0
  cases e2
  refine ⟨.ref a, g2, ka σ H _ ⟨Nat.le_of_lt (small1000 hl), fun z hz => ?_⟩⟩
  refine ⟨.ref z, b, rfl, k _ _ (Ext.put hz) (val_flat rep_bl), .inr ⟨z, vs, us, rfl, upd_same, fun ws hw => namesL_vals hy hw, kitAny_of T hc hm hy e1⟩⟩
end
end VV

/-! ## VExc3 -/
namespace VV
theorem _root_.L2N.takes0 {X : L2.Cx} : L2N.Takes X (fun _ _ _ _ => False) := fun _ _ x => by
  obtain ⟨_, _, _, _, _, _, _, _, _, _, _, _, _, _, _, _, z⟩ := x
  exact z.elim
open PySem PySem.Spec PyProof.Rows L2

/-! ### try: .. except Y as e: .. , what is caught is answered -/
def sTry (L : List Str) (b : Sv) (y : Str) (i : Nat) (s : Sv) : Sv := fun ρ => match b ρ with
  | some (.ex c ρ') => if L.contains c && (subX c y == some true) then (match s (ρ'.set i (.str c)) with | some (.rt d) => some (.rt d) | _ => none) else none
  | o => o
theorem PSs.less {X : Cx} {st : List Stmt} {t u : TS} (h : PSs X st t) (k : ∀ D σ H, u D σ H → t D σ H) : PSs X st u := ⟨fun pins s σ H D I hw => h.run pins s σ H D I (k D σ H hw)⟩
section
variable {X : Cx} {W : L2.WX} {sc : Sc} {Γ Γ' : List Kd} {pos pos' np : Pos} {L : List Str}
theorem sx_try {i : Nat} {x n : Str} {D0 : Addr} {body suite : List Stmt} {b₀ : Stmt} {sb ss : Sv} (T : ExW X.K X.mg L) (hs : X.stack = X.env :: X.outer) (hf : X.env.frame = some X.env.locals) (hN : X.N.Nodup) (hi : X.N[i]? = some n) (hln : X.env.kindOf n = some .local)
    (hc : L2.Names X x (.ref D0)) (hm0 : X.mg x = some (.ref D0))
    (hb : ∀ (W' : L2.WX) (pn : List (Addr × Obj)) (xe : Value → Shared → Prop), L2N.Takes (X.tr pn xe) W' → PassesOwn (model X.prog X.w) X.A X.env xe → SS (X.tr pn xe) W' { sc with Γx := Γ } Γ body sb Γ')
    (hsu : ∀ (a : Addr) (oe : Obj) (c : Str) (C : Addr) (pn : List (Addr × Obj)), c ∈ L → X.mg c = some (.ref C) → L2N.Zn (.ref C) none oe → (∃ vs, oe.data = .fields vs) → (a, oe) ∈ (a, oe) :: pn →
      SS (X.suite a ((a, oe) :: pn)) (fun _ _ _ _ => False) sc (Γ.set i (.exc a c)) (b₀ :: suite) ss Γ') :
    SX X W sc Γ (.Try body [.ExceptHandler (some (.Name x np)) (some n) (b₀ :: suite) pos'] [] [] pos) (sTry L sb x i ss) Γ' := by
  let tb : L2.WX → TS := fun W' D σ H => ∀ (pn : List (Addr × Obj)) (xe : Value → Shared → Prop) (tk : L2N.Takes (X.tr pn xe) W') (hp : PassesOwn (model X.prog X.w) X.A X.env xe), (hb W' pn xe tk hp).choose D σ H
  let ts : Addr → Value → Option Addr → TS := fun a cls d D σ H => ∃ (c : Str) (C : Addr) (hcL : c ∈ L) (hm : X.mg c = some (.ref C)), cls = .ref C ∧ d = none ∧
    ∀ (oe : Obj) (pn : List (Addr × Obj)) (hz : L2N.Zn (.ref C) none oe) (hd : ∃ vs, oe.data = .fields vs), (hsu a oe c C pn hcL hm hz hd List.mem_cons_self).choose D σ H
  have pb : ∀ (W' : L2.WX) (pn : List (Addr × Obj)) (xe : Value → Shared → Prop), L2N.Takes (X.tr pn xe) W' → PassesOwn (model X.prog X.w) X.A X.env xe → PSs (X.tr pn xe) body (tb W') := fun W' pn xe tk hp =>
    PSs.less (hb W' pn xe tk hp).choose_spec.1 fun D σ H h => h pn xe tk hp
  have psu : ∀ (a : Addr) (oe : Obj) (cls : Value) (d : Option Addr) (pn : List (Addr × Obj)), L2N.Zn cls d oe → (∃ vs, oe.data = .fields vs) → PSs (X.suite a ((a, oe) :: pn)) (b₀ :: suite) (ts a cls d) := fun a oe cls d pn hz hd =>
    ⟨fun pins s σ H D I hw => by
      obtain ⟨c, C, hcL, hm, rfl, rfl, hk⟩ := hw
      exact (hsu a oe c C pn hcL hm hz hd List.mem_cons_self).choose_spec.1.run pins s σ H D I (hk oe pn hz hd)⟩
  refine ⟨_, L2N.ps_try_as (i := i) (tb := tb) (ts := ts) (Wout := fun _ _ _ _ => False) hs hf hN hi hln hc L2N.takes0 pb psu, fun P g ρ σ H o De s e w => ?_⟩
  intro pn xe tk hp
  cases eb : sb ρ with
  | none => unfold sTry at e; rw [eb] at e; cases e
  | some o1 =>
    refine (hb _ pn xe tk hp).choose_spec.2 P g ρ σ H o1 _ s eb ?_
    unfold sTry at e
    rw [eb] at e
    cases o1 with
    | nx ρ' => cases e; exact w
    | ct ρ' => cases e; exact w
    | rt d => cases e; exact w
    | ex c ρ' =>
      dsimp only at e
      split at e
      · rename_i hcx
        simp only [Bool.and_eq_true, List.contains_iff_mem, beq_iff_eq] at hcx
        cases es : ss (ρ'.set i (.str c)) with
        | none => rw [es] at e; cases e
        | some o2 =>
          rw [es] at e
          cases o2 with
          | rt d =>
            cases e
            intro C g' σ' H' hm st sta
            refine ⟨true, T.m c C x D0 true hcx.1 hm hcx.2 hm0, fun _ a ha => ⟨c, C, hcx.1, hm, rfl, rfl, fun oe pn2 hz hd => ?_⟩, fun h => nomatch h⟩
            refine (hsu a oe c C pn2 hcx.1 hm hz hd List.mem_cons_self).choose_spec.2 P g' _ _ H' _ _ ⟨sta.loc, Cells.set i sta.cells ⟨rfl, rfl⟩⟩ es ?_
            exact fun v g2 H2 st2 l2 rv => w v g2 H2 (st.trans st2) l2 rv
          | _ => cases e
      · cases e
end

/-! ### defs of an exception, asked in a suite -/
def FxOk (P : Program) (w : World) (K : PySem.W.Frag) (mg : Str → Option Value) (base : Heap) (L : List Str) (k : Nat) (f : Addr) (fd : FuncData) (px : Str) (sem : List D → Option Res) : Prop :=
  ∀ (A : Around) (outer : List Env) (s : Shared) (H : Hp) (args : Args) (Q : VK) (E : XK) (a : Addr) (oe : Obj) (c : Str) (C : Addr), c ∈ L → mg c = some (.ref C) → L2N.Zn (.ref C) none oe → (∃ vs, oe.data = .fields vs) → L2H.PinOk outer H s (a, oe) →
    L2H.RoomH k A → Env0 P w K mg base A outer s H → BindsTo s fd args [(px, .ref a)] → (∃ d, sem [.str c] = some (.ret d) ∧ ∀ v H', Ext H H' → Rep ⟨mg, K⟩ H' d v [] → Q v H') → codeAny (model P w) A (.call (.ref f) args) (CR CX0 outer P w H s Q E) s
theorem _root_.L2H.RoomH.units {k : Nat} {A : Around} (r : L2H.RoomH k A) : A.units + 64 < cLine := by have := r.un; omega
section
variable {P : Program} {w : World} {K : PySem.W.Frag} {mg : Str → Option Value} {base : Heap} {x qual px : Str} {params : Arguments} {body : List Stmt} {scope : Scope} {f : Addr} {fd : FuncData} {L : List Str}
theorem fx_ok {N : List Str} {k : Nat} {sc : Sc} {Γ' : List Kd} {sm : Sv} (F : FunD K x qual params body scope [] [] f fd) (S : FnScope N [px] scope) (hN : 1 ≤ N.length) (hL : sc.LL = []) (hR : sc.R = .flat)
    (hb : ∀ (cdv : Value) (A : Around) (outer : List Env) (s0 : Shared) (H : Hp) (E : XK) (a : Addr) (oe : Obj) (c : Str) (C : Addr), c ∈ L → mg c = some (.ref C) → L2N.Zn (.ref C) none oe → (∃ vs, oe.data = .fields vs) → (a, oe) ∈ [(a, oe)] → L2H.RoomH k (A.deeper (envOfC qual scope s0.heap.objs.size f cdv)) →
      SS (L2H.cxH CX0 P w K mg base N qual scope f cdv A outer s0 H E (a, oe)).nox (fun _ _ _ _ => False) sc (.exc a c :: List.replicate (N.length - 1) .dead) body sm Γ') : FxOk P w K mg base L (k + 1) f fd px (fnSem N.length [.flat] sm) := by
  obtain ⟨oc, od, dV, kV, doc, pm, an, cdv, ct, osl, rfl, hlk, hcode, _, _⟩ := F.ex
  intro A outer s H args Q E a oe c C hcL hm hz hd hpin hr e0 hbind hsem
  obtain ⟨d, ed, hQ⟩ := hsem
  have kin : K.In s.heap := e0.mod.kin.keeps fun b o q => (e0.bs b o q).1
  have nolim : s.heap.NoLimit := e0.mod.nolimit.keeps fun b o q => (e0.bs b o q).1
  have kinds : ∀ y ∈ [(px, Value.ref a)], scope.names.lookup y.1 = some .local ∨ (scope.names.lookup y.1 = some .cell ∧ ((cellsFrom (s.heap.objs.size + 1) scope.names []).lookup y.1).isSome = true) := by
    intro y hy
    rw [List.mem_singleton.mp hy]
    rcases S.par px List.mem_cons_self with q | q
    · exact .inl q
    · exact .inr ⟨q, PySem.W.cellsFrom_some _ _ _ (.inl q)⟩
  refine codeAny_call_function hr.depth (kin _ _ hlk) rfl S.co S.gen rfl (PySem.W.codeRec_of kin hcode) (hbind _ _ _ _ ?_)
  refine wpAny_newFunctionEnv_cells S.kind kinds fun env he s1 z => ?_
  subst he
  refine ⟨nolim.keeps z.toInCall.keep, codeAny_func ?_⟩
  have I := L2H.inv_startH (CX := CX0) (E := E) (f := f) (cd := cdv) (qual := qual) (N := N) (ps := [px]) (us := [Value.ref a]) (vs := [V.ref a]) S hpin e0 rfl (.cons rfl .nil) z
  obtain ⟨t, pt, kt⟩ := hb cdv A outer s H E a oe c C hcL hm hz hd List.mem_cons_self (hr.deeper _)
  have hsm : fnSem N.length [.flat] sm [.str c] = match sm ([.str c] ++ List.replicate (N.length - [D.str c].length) .non) with
      | some (.nx _) => some (.ret .non)
      | some (.rt d) => some (.ret d)
      | some (.ex c _) => some (.exn c)
      | _ => none := if_pos (by rfl)
  rw [hsm] at ed
  have st : Sta ⟨mg, K⟩ ⟨fun _ => False, fun _ => False⟩ sc.LL (.exc a c :: List.replicate (N.length - 1) .dead) (fun _ => 0) ([.str c] ++ List.replicate (N.length - [D.str c].length) .non) (L2.start N [.ref a]) H := by
    rw [hL]
    refine ⟨⟨fun b q => absurd rfl q, fun b q => q.elim, fun b q => q.elim⟩, ?_⟩
    refine ⟨⟨rfl, rfl⟩, ?_⟩
    show Cells _ _ _ _ (List.replicate (N.length - 1) .dead) (List.replicate (N.length - 1) .non) (List.replicate (N.length - 1) none)
    generalize N.length - 1 = j
    induction j with
    | zero => trivial
    | succ j ih => exact ⟨trivial, ih⟩
  have goal : t { nx := fun _ H' => Q .non H', rt := Q } (L2.start N [.ref a]) H := by
    cases ho : sm ([.str c] ++ List.replicate (N.length - [D.str c].length) .non) with
    | none => rw [ho] at ed; cases ed
    | some o =>
      rw [ho] at ed
      refine kt ⟨fun _ => False, fun _ => False⟩ (fun _ => 0) _ _ H o _ st ho ?_
      cases o with
      | nx ρ' =>
        cases ed
        intro g' σ' H' s' _
        rw [hL] at s'
        exact hQ .non H' (step_ext s') rep_non
      | ct ρ' => cases ed
      | rt d' =>
        cases ed
        intro v g' H' s' _ rv
        rw [hL] at s'
        rw [hR] at rv
        exact hQ v H' (step_ext s') rv
      | ex c' ρ' => cases ed
  refine wpAny_mono (pt.run [] s1 (L2.start N [.ref a]) H _ (I.wish _) goal) (fun fl s' hs => ?_) fun e s' hs => hs.elim
  have close : ∀ {σ' : L2.St} {H' : Hp} {v : V} {u : Value}, Inv (L2H.cxH CX0 P w K mg base N qual scope f cdv A outer s H E (a, oe)).nox [] σ' H' s' → RelV v u → Q v H' → CE outer P w H s Q u s' :=
    fun {σ' H' v u} J rv q => ⟨v, H', J.os, J.bare, J.base, J.hok, rv, q⟩
  cases fl with
  | next => obtain ⟨σ', H', J, q⟩ := hs; exact close (v := V.non) (u := Value.none) J rfl q
  | ret u => obtain ⟨v, σ', H', J, rv, q⟩ := hs; exact close J rv q
  | brk => obtain ⟨_, _, _, q⟩ := hs; exact q.elim
  | cont => obtain ⟨_, _, _, q⟩ := hs; exact q.elim
end
def CalE (P : Program) (w : World) (K : PySem.W.Frag) (mg : Str → Option Value) (base : Heap) (L : List Str) (x : Str) (k : Nat) (px : Str) (sem : List D → Option Res) : Prop :=
  ∃ f fd, FxOk P w K mg base L k f fd px sem ∧ mg x = some (.ref f) ∧ PySem.W.keepIn K (.ref f) = true ∧ Binds K fd [px] []
section
variable {X : Cx} {L : List Str} {LL : List Nat} {Γ : List Kd} {a : Addr} {oe : Obj} {c : Str} {C : Addr} {pos p tp : Pos}
theorem ex_callE {i k : Nat} {x g px : Str} {sem : List D → Option Res} (ca : CalE X.prog X.w X.K X.mg X.base L g k px sem) (hp : (a, oe) ∈ X.pn) (hz : L2N.Zn (.ref C) none oe) (hf : ∃ vs, oe.data = .fields vs) (hc : c ∈ L) (hm : X.mg c = some (.ref C)) (hi : Γ[i]? = some (.exc a c))
    (hN : X.N[i]? = some x) (hv : Vis X.env.scope x) (hr : L2H.RoomH k X.A) (hg : Gl X g) (h1 : (x == ("__debug__" : Str)) = false := by decide) (h2 : (x == ("__classdict__" : Str)) = false := by decide) (h3 : (g == ("__debug__" : Str)) = false := by decide)
    (hs : starEach [.Name x tp] X.env = (false, eval (.Name x tp) X.env) :: starEach [] X.env := by rfl) (hpl : (backTo pos (starEach [] X.env)).any (·.1) = false := by rfl) :
    EX X LL Γ (.Call (.Name g p) [.Name x tp] [] pos) (eCall sem (aCons (eVar i) aNil)) .flat := by
  obtain ⟨f, fd, F, hmg, hk, hb⟩ := ca
  refine ⟨fun σ H Q => σ[i]? = some (some (.ref a)) ∧ ∃ d, sem [.str c] = some (.ret d) ∧ ∀ v H', Ext H H' → Rep X.vm H' d v [] → Q v H', ⟨fun pins s σ H Q I hh => ?_⟩, fun P g0 ρ σ H d Q s e0 q => ?_⟩
  · obtain ⟨hσ, hsem⟩ := hh
    refine wpAny_Call_Name_kw (ld_glob I hg hmg ?_ h3)
    have ha : PA X [.Name x tp] (tCons (tVar i) tNil) := pa_cons (pe_var hN hv h1 h2) pa_nil hs
    have hargs := ha.run pos pins s σ H (fun vs H1 => vs = [V.ref a] ∧ H1 = H) I ⟨.ref a, hσ, rfl, rfl⟩
    refine PySem.W.callWith_K (h₀ := X.base) I.ok.mod.kin hk (thn hargs fun us s2 z => ?_) hs hpl
    obtain ⟨vs, H2, I2, r2, ev, eH⟩ := z
    subst ev eH
    match us, r2 with
    | [_], .cons ru .nil =>
      cases ru
      have pin := I2.pin (a, oe) (List.mem_append_left _ hp)
      have nof : a ∉ frs X.stack := fun hm => by
        rcases List.mem_cons.mp (I2.stkSub a hm) with z | z
        · exact pin.2.2.1 z
        · exact pin.2.2.2.1 z
      have bt := hb s2 [Value.ref a] I2.kIn rfl
      refine ⟨I2.kIn, wpAny_call (codeAny_mono (F X.A X.stack s2 _ ⟨[Value.ref a], []⟩ Q (fun _ _ _ => False) a oe c C hc hm hz hf ⟨pin.1, pin.2.1, nof, pin.2.2.2.2⟩ hr I2.env0 bt hsem) fun r s' hq => ?_)⟩
      cases r with
      | error e => exact hq.elim
      | ok fl =>
        cases fl with
        | ret u => exact I2.after hq
        | next => exact False.elim hq
        | brk => exact False.elim hq
        | cont => exact False.elim hq
  · obtain ⟨d', ov, g1, g2, rfl, rfl⟩ := s.cells.get hi
    obtain ⟨ds, e1, e2⟩ := bind_some e0
    have : ds = [.str c] := by
      have : aCons (eVar i) aNil ρ = some [.str c] := by simp [g1]
      rw [this] at e1; cases e1; rfl
    subst this
    refine ⟨g2, d, ?_, fun v H' x r => q v H' x r⟩
    split at e2
    · cases e2; assumption
    · cases e2
end

theorem roomH_mark {k : Nat} {A : Around} {v : Option Value} (r : Room k A) : L2H.RoomH k (A.mark v) := ⟨r.dp, r.un⟩
/-- a def that may raise, where it does not -/
theorem CalX.cal {P : Program} {w : World} {K : PySem.W.Frag} {mg : Str → Option Value} {base : Heap} {x : Str} {k : Nat} {ps : List Str} {sem : List D → Option Res} {R : Rm} (c : CalX P w K mg base x k ps sem R) : Cal P w K mg base x k ps sem R := by
  obtain ⟨f, fd, F, h1, h2, h3⟩ := c
  refine ⟨f, fd, ⟨fun vs H Q E h => h.1, fun A outer s H args us vs Q E hr e0 hb hv hs => ?_⟩, h1, h2, h3⟩
  obtain ⟨hl, ds, fp, d, r, e, q⟩ := hs
  refine codeAny_mono (F.run A outer s H args us vs Q (fun _ _ _ => False) hr e0 hb hv ⟨hl, ds, fp, r, .inl ⟨d, e, q⟩⟩) fun z s' hz => ?_
  cases z with
  | ok fl => cases fl <;> exact hz
  | error e =>
    obtain ⟨_, _, _, _, _, _, _, _, _, _, _, _, q⟩ := hz
    exact q.elim
theorem ex_fn {X : Cx} {LL : List Nat} {Γ : List Kd} {x : Str} {f : Addr} {p : Pos} (hm : X.mg x = some (.ref f)) (hg : Gl X x) (hd : (x == ("__debug__" : Str)) = false := by decide) : EX X LL Γ (.Name x p) (eC (.fn x)) .flat := by
  refine ⟨_, pe_glob (v := .ref f) hg hm rfl hd, fun P g ρ σ H d Q s e q => ?_⟩
  cases e
  refine q _ H Ext.refl ?_
  show Rep X.vm H (.fn x) (.ref f) []
  simp only [Rep]
  exact ⟨⟨f, rfl, hm⟩, trivial⟩
theorem CalX.at {P : Program} {w : World} {K : PySem.W.Frag} {mg : Str → Option Value} {base : Heap} {x : Str} {k : Nat} {ps : List Str} {sem : List D → Option Res} {R : Rm} (c : CalX P w K mg base x k ps sem R) : mg x = some (.ref c.choose) := c.choose_spec.choose_spec.2.1
theorem Cal.at {P : Program} {w : World} {K : PySem.W.Frag} {mg : Str → Option Value} {base : Heap} {x : Str} {k : Nat} {ps : List Str} {sem : List D → Option Res} {R : Rm} (c : Cal P w K mg base x k ps sem R) : mg x = some (.ref c.choose) := c.choose_spec.choose_spec.2.1
end VV

/-! ## VHead -/
namespace VV
open PySem PySem.Spec PyProof.Rows L2 He

/-! ### a head with exception classes -/
def cord : Str := "CordError"
def excB (K : PySem.W.Frag) (D : Addr) : Bool :=
  decide (PySem.W.findIn K (.ref D) "__getattribute__" = some (some (.builtin "BaseException.__getattribute__"))) && (decide (PySem.W.findIn K (.ref D) "__getattr__" = some none) &&
  (decide (PySem.W.subIn K (.ref D) (.type "BaseException") = some true) && (PySem.W.hasDictIn K D && (decide (PySem.W.findIn K (.ref D) "__class__" = some (some (.builtin "object.__class__"))) &&
  (decide (PySem.W.specialIn K (.builtin "object.__class__") "__get__" = some (some (.builtin "getset_descriptor.__get__"))) && (decide (PySem.W.takesIn K (.builtin "object.__class__") = some true) && decide (PySem.W.mroIn K D (.type "object") = some true)))))))
theorem excB_ok {K : PySem.W.Frag} {D : Addr} (h : excB K D = true) : ExcC K D := by
  unfold excB at h
  simp only [Bool.and_eq_true, decide_eq_true_eq] at h
  obtain ⟨h1, h2, h3, h4, h5, h6, h7, h8⟩ := h
  exact ⟨h1, h2, h3, h4, h5, h6, h7, h8⟩
def exB (L : List Str) (K : PySem.W.Frag) : Bool :=
  ((Fa.glo "CordError").ok K && ((Fa.free "ValueError").ok K && six.all fun y => L.contains y || (Fa.free y).ok K)) &&
  L.all fun c => six.contains c && ((Fa.glo c).ok K && ((Fa.exc c).ok K && (excB K (ga K c) && (decide (PySem.W.kitOne K (.ref (ga K c)) (.type "ValueError") = some true) &&
    (cord :: L).all fun y => decide (PySem.W.kitOne K (.ref (ga K c)) (.ref (ga K y)) = subX c y) && decide (PySem.W.exmOne K (.ref (ga K c)) (.ref (ga K y)) = subX c y)))))
theorem boot_six : ∀ y ∈ six, bootBuiltins y = none := by decide +kernel
theorem boot_ve : bootBuiltins "ValueError" = some (.type "ValueError") := by decide +kernel
section
variable {K : PySem.W.Frag} {h : Heap} {mg : Str → Option Value} {L : List Str}
theorem exB_class (X : K.In h) (G : h.Ns mainGlobals mg) (e : exB L K = true) {c : Str} (hc : c ∈ L) : mg c = some (.ref (ga K c)) ∧ ExF K (ga K c) ∧ ExcC K (ga K c) ∧ PySem.W.kitOne K (.ref (ga K c)) (.type "ValueError") = some true ∧ c ∈ six ∧
    ∀ y ∈ cord :: L, PySem.W.kitOne K (.ref (ga K c)) (.ref (ga K y)) = subX c y ∧ PySem.W.exmOne K (.ref (ga K c)) (.ref (ga K y)) = subX c y := by
  unfold exB at e
  rw [Bool.and_eq_true] at e
  have e2 := List.all_eq_true.mp e.2 c hc
  simp only [Bool.and_eq_true, decide_eq_true_eq] at e2
  obtain ⟨h0, h1, h2, h3, h4, h5⟩ := e2
  obtain ⟨x1, x2, x3, x4⟩ := exc_ok h2
  refine ⟨glo_ok X G h1, ⟨x1, x2, x3, x4⟩, excB_ok h3, h4, List.contains_iff_mem.mp h0, fun y hy => ?_⟩
  have := List.all_eq_true.mp h5 y hy
  simpa only [Bool.and_eq_true, decide_eq_true_eq] using this
theorem exB_cord (X : K.In h) (G : h.Ns mainGlobals mg) (e : exB L K = true) : mg "CordError" = some (.ref (ga K "CordError")) := by
  unfold exB at e
  simp only [Bool.and_eq_true] at e
  exact glo_ok X G e.1.1
theorem exB_ve (X : K.In h) (G : h.Ns mainGlobals mg) (e : exB L K = true) : mg "ValueError" = none := by
  unfold exB at e
  simp only [Bool.and_eq_true] at e
  exact free_ok X G e.1.2.1
theorem exB_free (X : K.In h) (G : h.Ns mainGlobals mg) (e : exB L K = true) {y : Str} (hy : y ∈ six) : y ∈ L ∨ mg y = none := by
  unfold exB at e
  simp only [Bool.and_eq_true] at e
  have := List.all_eq_true.mp e.1.2.2 y hy
  rw [Bool.or_eq_true] at this
  rcases this with q | q
  · exact .inl (List.contains_iff_mem.mp q)
  · exact .inr (free_ok X G q)
theorem exB_W (X : K.In h) (G : h.Ns mainGlobals mg) (e : exB L K = true) : ExW K mg L := by
  have key : ∀ c C y b, c ∈ L → mg c = some (.ref C) → subX c y = some b → (y ∈ cord :: L) ∨ y = "ValueError" ∧ b = true ∨ mg y = none ∧ bootBuiltins y = none := fun c C y b hc hm hs => by
    unfold subX at hs
    split at hs
    · rename_i hy
      rcases hy with rfl | rfl | rfl
      · exact .inl (List.mem_cons_of_mem _ hc)
      · exact .inl List.mem_cons_self
      · cases hs; exact .inr (.inl ⟨rfl, rfl⟩)
    · split at hs
      · rename_i hy
        rcases exB_free X G e hy with q | q
        · exact .inl (List.mem_cons_of_mem _ q)
        · exact .inr (.inr ⟨q, boot_six y hy⟩)
      · cases hs
  have glob : ∀ y, y ∈ cord :: L → mg y = some (.ref (ga K y)) := fun y hy => by
    rcases List.mem_cons.mp hy with rfl | hy
    · exact exB_cord X G e
    · exact (exB_class X G e hy).1
  refine ⟨fun c C hc hm => ?_, fun c C y u b hc hm hs hu => ?_, fun c C y D b hc hm hs hu => ?_⟩
  · obtain ⟨h1, _, h3, _⟩ := exB_class X G e hc
    rw [h1] at hm; cases hm
    exact h3
  · obtain ⟨h1, _, _, h4, _, h5⟩ := exB_class X G e hc
    rw [h1] at hm; cases hm
    rcases key c _ y b hc h1 hs with q | ⟨rfl, rfl⟩ | ⟨q1, q2⟩
    · rw [glob y q] at hu
      rcases hu with hu | ⟨hu, _⟩
      · cases hu
        rw [(h5 y q).1, hs]
      · cases hu
    · rw [exB_ve X G e] at hu
      rcases hu with hu | ⟨_, hu⟩
      · cases hu
      · rw [boot_ve] at hu; cases hu
        exact h4
    · rw [q1, q2] at hu
      rcases hu with hu | ⟨_, hu⟩ <;> cases hu
  · obtain ⟨h1, _, _, h4, _, h5⟩ := exB_class X G e hc
    rw [h1] at hm; cases hm
    rcases key c _ y b hc h1 hs with q | ⟨rfl, rfl⟩ | ⟨q1, q2⟩
    · rw [glob y q] at hu
      cases hu
      rw [(h5 y q).2, hs]
    · rw [exB_ve X G e] at hu; cases hu
    · rw [q1] at hu; cases hu
end
/-! ### the Hook, with a further look at the written part -/
def obsV (ck : PySem.W.Frag → Bool) (fa : List Fa) (fn : List DefD) (K : PySem.W.Frag) : AlD := ((obsD fa fn K).1 && ck K, (obsD fa fn K).2)
def SaysV (ck : PySem.W.Frag → Bool) (fa : List Fa) (fn : List DefD) (K : PySem.W.Frag) : Prop := obsV ck fa fn K = valD fn
def obsVG (n : Nat) (ck : PySem.W.Frag → Bool) (fa : List Fa) (fn : List DefD) (g : Addr → Option Obj) : AlD := obsV ck fa fn (frG g (asD g n))
def hookV (n : Nat) (ck : PySem.W.Frag → Bool) (fa : List Fa) (fn : List DefD) : PySem.W.Hook where
  α := AlD
  obs := fun s => obsVG n ck fa fn s.heap.get?
  val := fun _ => valD fn
  says := fun _ h => ∃ K : PySem.W.Frag, K.In h ∧ SaysV ck fa fn K
  of := fun _ _ e => ⟨_, frG_in, e⟩
  keeps := fun _ _ _ ⟨K, hK, c⟩ k => ⟨K, PySem.W.Frag.In.keeps hK k, c⟩
theorem obsVG_eq {n : Nat} {ck : PySem.W.Frag → Bool} {fa : List Fa} {fn : List DefD} {g : Addr → Option Obj} {s : Shared} (h : ∀ a, g a = s.heap.get? a) : obsVG n ck fa fn g = (hookV n ck fa fn).obs s := by
  rw [show g = s.heap.get? from funext h]
  rfl
theorem SaysV.d {ck : PySem.W.Frag → Bool} {fa : List Fa} {fn : List DefD} {K : PySem.W.Frag} (c : SaysV ck fa fn K) : SaysD fa fn K ∧ ck K = true := by
  unfold SaysV obsV valD at c
  have c1 := congrArg Prod.fst c
  have c2 := congrArg Prod.snd c
  dsimp only at c1 c2
  rw [Bool.and_eq_true] at c1
  exact ⟨Prod.ext c1.1 c2, c1.2⟩
end VV

/-! ## VMore -/
theorem L2.Room.units2 {k : Nat} {A : PySem.Around} (r : L2.Room k A) : A.units + 100 < PySem.cLine := by have := r.un; omega
theorem L2H.RoomH.units2 {k : Nat} {A : PySem.Around} (r : L2H.RoomH k A) : A.units + 100 < PySem.cLine := by have := r.un; omega
namespace VV
open PySem PySem.Spec PyProof.Rows L2

/-! ### x in xs, xs a list or a tuple of data -/
def rInX (K : PySem.W.Frag) (f : Bool → Bool) : R2 := fun x y H Q => ∃ d ds, Dp K H x d ∧ (Dp K H y (.list ds) ∨ Dp K H y (.tuple ds)) ∧ SeqAt.shaped d = true ∧ PyData.canLayAll0 ds = true ∧ Q (.bl (f (ds.any fun z => PyData.eqv z d))) H
section
variable {X : Cx}
theorem room_dn {d : PyData} {ds : List PyData} {u : Nat} (sd : SeqAt.shaped d = true) (hu : u + 100 < cLine) : u + 1 + min (PyData.depthAll ds) d.depth < cLine := by
  have h1 := SeqAt.depth_of_shaped sd
  have h2 := Nat.min_le_right (PyData.depthAll ds) d.depth
  omega
theorem op_inX (hu : X.A.units + 100 < cLine) : OpR X (compareOp .In) (rInX X.K id) := by
  intro pins s σ H x y v u Q I rx ry h
  obtain ⟨d, ds, hd, he, sd, se, q⟩ := h
  obtain ⟨as, r1⟩ := Dp.reads I d x v hd rx
  rcases he with he | he
  · obtain ⟨bs, r2⟩ := Dp.reads I (.list ds) y u he ry
    exact SeqAt.in_list_reads r2 r1 se (SeqAt.canLay_of_shaped sd) (room_dn sd hu) ⟨.bl _, H, I, rfl, q⟩
  · obtain ⟨bs, r2⟩ := Dp.reads I (.tuple ds) y u he ry
    exact SeqAt.in_tuple_reads r2 r1 se (SeqAt.canLay_of_shaped sd) (room_dn sd hu) ⟨.bl _, H, I, rfl, q⟩
theorem op_notInX (hu : X.A.units + 100 < cLine) : OpR X (compareOp .NotIn) (rInX X.K not) := by
  intro pins s σ H x y v u Q I rx ry h
  obtain ⟨d, ds, hd, he, sd, se, q⟩ := h
  obtain ⟨as, r1⟩ := Dp.reads I d x v hd rx
  rcases he with he | he
  · obtain ⟨bs, r2⟩ := Dp.reads I (.list ds) y u he ry
    exact SeqAt.notIn_list_reads r2 r1 se (SeqAt.canLay_of_shaped sd) (room_dn sd hu) ⟨.bl _, H, I, rfl, q⟩
  · obtain ⟨bs, r2⟩ := Dp.reads I (.tuple ds) y u he ry
    exact SeqAt.notIn_tuple_reads r2 r1 se (SeqAt.canLay_of_shaped sd) (room_dn sd hu) ⟨.bl _, H, I, rfl, q⟩
end
/-- whether the tree x is, by ==, among those of l -/
def inL (x : D) (l : List D) : Bool := l.any fun z => z.eqv x
def canL (l : List D) : Bool := PyData.canLayAll0 (D.toPL l)
def dInX : List D → Option D
  | [x, .lst l] => if x.shd && canL l then some (.bl (inL x l)) else none
  | [x, .tup l] => if x.shd && canL l then some (.bl (inL x l)) else none
  | _ => none
def dNotInX : List D → Option D
  | [x, .lst l] => if x.shd && canL l then some (.bl (!inL x l)) else none
  | [x, .tup l] => if x.shd && canL l then some (.bl (!inL x l)) else none
  | _ => none
theorem toPL_eq (l : List D) : D.toPL l = l.map D.toP := by
  induction l with
  | nil => simp [D.toPL]
  | cons a r ih => simp [D.toPL, ih]
theorem any_inL (x : D) (l : List D) : ((D.toPL l).any fun z => PyData.eqv z x.toP) = inL x l := by
  rw [toPL_eq, List.any_map]
  rfl
section
variable {X : Cx} {LL : List Nat} {Γ : List Kd} {pos : Pos} {a b : Expr} {sa sb : Ev} {ma mb : Md}
theorem cp_inX (neg : Bool) : CP X (r2 (rInX X.K (if neg then not else id))) (if neg then dNotInX else dInX) toFlat := by
  intro P LL g H H1 m ds vs d Q l x vl e q
  obtain ⟨fp, r⟩ := vl.rep
  have key : ∀ (y : D) (c : D) (t : List D), ds = [y, c] → (c = .lst t ∨ c = .tup t) → (y.shd && canL t) = true → d = .bl ((if neg then not else id) (inL y t)) → r2 (rInX X.K (if neg then not else id)) vs H1 Q := fun y c t e1 ec hc ed => by
    subst e1 ed
    obtain ⟨v, w, f1, f2, rfl, h1, h2, _⟩ := repL2 r
    rw [Bool.and_eq_true] at hc
    refine ⟨v, w, rfl, y.toP, D.toPL t, h1.dp (SeqAt.canLay_of_shaped hc.1), ?_, hc.1, hc.2, ?_⟩
    · rcases ec with rfl | rfl
      · refine .inl ?_
        have := h2.dp (by simp only [D.toP, PyData.canLay0]; exact hc.2)
        simpa only [D.toP] using this
      · refine .inr ?_
        have := h2.dp (by simp only [D.toP, PyData.canLay0]; exact hc.2)
        simpa only [D.toP] using this
    · rw [any_inL]
      exact q _ H1 Ext.refl (val_flat rep_bl)
  cases neg with
  | true =>
    rw [if_pos rfl] at e
    unfold dNotInX at e
    split at e
    · split at e
      · rename_i hc; cases e; exact key _ _ _ rfl (.inl rfl) hc rfl
      · cases e
    · split at e
      · rename_i hc; cases e; exact key _ _ _ rfl (.inr rfl) hc rfl
      · cases e
    · cases e
  | false =>
    rw [if_neg (by decide)] at e
    unfold dInX at e
    split at e
    · split at e
      · rename_i hc; cases e; exact key _ _ _ rfl (.inl rfl) hc rfl
      · cases e
    · split at e
      · rename_i hc; cases e; exact key _ _ _ rfl (.inr rfl) hc rfl
      · cases e
    · cases e
theorem ex_inX (hu : X.A.units + 100 < cLine) (ha : EX X LL Γ a sa ma) (hb : EX X LL Γ b sb mb) (hm : behindInMarks .In b = false := by rfl) : EX X LL Γ (.Compare a [.In] [b] pos) (eP dInX (aCons sa (aCons sb aNil))) .flat := ex_cmp (op_inX hu) (cp_inX false) ha hb hm
theorem ex_notInX (hu : X.A.units + 100 < cLine) (ha : EX X LL Γ a sa ma) (hb : EX X LL Γ b sb mb) (hm : behindInMarks .NotIn b = false := by rfl) : EX X LL Γ (.Compare a [.NotIn] [b] pos) (eP dNotInX (aCons sa (aCons sb aNil))) .flat := ex_cmp (op_notInX hu) (cp_inX true) ha hb hm
theorem et_inX (hu : X.A.units + 100 < cLine) (ha : EX X LL Γ a sa ma) (hb : EX X LL Γ b sb mb) (hm : behindInMarks .In b = false := by rfl) : ET X LL Γ (.Compare a [.In] [b] pos) (tOf (eP dInX (aCons sa (aCons sb aNil)))) := et_cmp (op_inX hu) (cp_inX false) ha hb hm
theorem et_notInX (hu : X.A.units + 100 < cLine) (ha : EX X LL Γ a sa ma) (hb : EX X LL Γ b sb mb) (hm : behindInMarks .NotIn b = false := by rfl) : ET X LL Γ (.Compare a [.NotIn] [b] pos) (tOf (eP dNotInX (aCons sa (aCons sb aNil)))) := et_cmp (op_notInX hu) (cp_inX true) ha hb hm
end

/-! ### list(range(n)) -/
def dRngL : List D → Option D
  | [.int n] => if -10000000 ≤ n ∧ n ≤ 10000000 then some (.lst (rngD 0 n.toNat)) else none
  | _ => none
section
variable {X : Cx} {LL : List Nat} {Γ : List Kd} {pos p p2 q : Pos} {a b : Expr} {sa sb : Ev} {ma mb : Md}
theorem repL_rng {mg : Mg} {H : Hp} {lo : Int} (n : Nat) : RepL mg H (rngD lo n) ((List.range n).map fun i => V.int (lo + (i : Nat))) [] := by
  have key : ∀ l : List Nat, RepL mg H (l.map fun i : Nat => D.int (lo + i)) (l.map fun i : Nat => V.int (lo + i)) [] := fun l => by
    induction l with
    | nil => simp [RepL]
    | cons i r ih => simp only [List.map_cons, RepL]; exact ⟨_, _, [], [], rfl, rep_int, ih, rfl⟩
  exact key _
theorem ex_rngL (hc : X.calm = true) (h1 : Gl X "list") (h2 : X.mg "list" = none) (h3 : Gl X "range") (h4 : X.mg "range" = none) (ha : EX X LL Γ a sa ma)
    (na : starEach [a] X.env = (false, eval a X.env) :: starEach [] X.env := by rfl) (nb : starEach [.Call (.Name "range" p2) [a] [] q] X.env = (false, eval (.Call (.Name "range" p2) [a] [] q) X.env) :: starEach [] X.env := by rfl) :
    EX X LL Γ (.Call (.Name "list" p) [.Call (.Name "range" p2) [a] [] q] [] pos) (eP dRngL (aCons sa aNil)) (.al false .new [] true) := by
  obtain ⟨t, pt, k⟩ := ha
  refine ⟨_, pe_listRg hc h1 h2 (prg_1 h3 h4 pt na) nb, fun P g ρ σ H d Q s e q => ?_⟩
  obtain ⟨ds, e1, e⟩ := bind_some e
  obtain ⟨d1, e2, e1⟩ := bind_some e1
  cases e1
  refine k P g ρ σ H d1 _ s e2 fun v H1 x1 w => ?_
  unfold dRngL at e
  split at e
  · split at e
    · rename_i n eq hn
      cases eq
      cases e
      obtain ⟨fp, r, _⟩ := w.labs
      obtain rfl := rInt r
      refine ⟨n, rfl, ⟨by omega, by omega, by omega, by omega, by omega⟩, fun z hz => ?_⟩
      have := @repL_rng X.vm (upd H1 z (.lst (rgV 0 n))) 0 n.toNat
      refine q _ _ (x1.trans (Ext.put hz)) (val_lst (m := .flat) ⟨[], ?_, rfl⟩ x1 hz)
      have e0 : rgV 0 n = (List.range n.toNat).map fun i => V.int (0 + (i : Nat)) := by unfold rgV; rw [Int.sub_zero]
      rw [e0]
      exact repL_rng n.toNat
    · cases e
  · cases e
/-- a + b, tuples of flat things -/
def dCatT : List D → Option D
  | [.tup l, .tup r] => if D.isFlatL l ∧ D.isFlatL r ∧ l.length + r.length ≤ 1000000 then some (.tup (l ++ r)) else none
  | _ => none
theorem ex_catT (ha : EX X LL Γ a sa ma) (hb : EX X LL Γ b sb mb) : EX X LL Γ (.BinOp a .Add b pos) (eP dCatT (aCons sa (aCons sb aNil))) .flat := by
  obtain ⟨ta, tb, pa, pb, k⟩ := two ha hb
  refine ⟨_, pe_op op_catA pa pb, fun P g ρ σ H d Q s e q => ?_⟩
  obtain ⟨ds, e1, e⟩ := bind_some e
  refine k P g ρ σ H ds _ s e1 fun d1 d2 v w H' eds x va vb vl => ?_
  subst eds
  unfold dCatT at e
  split at e
  · split at e
    · rename_i l r eq hc
      cases eq
      cases e
      obtain ⟨c, vs, rfl, hv, hlen, _, fl, rl, _⟩ := seq_ofT va
      obtain ⟨c', vs', rfl, hv', hlen', _, fl', rl', _⟩ := seq_ofT vb
      refine ⟨c, c', vs, vs', rfl, rfl, .inl (.inl hv), .inl (.inl hv'), ?_, fun z => ?_, fun z z' => ?_, fun _ _ p hp => ?_⟩
      · rw [hlen, hlen']; exact line_of hc.2.2
      · have hl : l = [] := List.eq_nil_of_length_eq_zero (by rw [← hlen, z]; rfl)
        subst hl
        refine q _ H' x (val_flat ?_)
        rw [List.nil_append]
        simp only [Rep]
        exact ⟨c', vs', rfl, hv', rl'.flats hc.2.1⟩
      · have hr : r = [] := List.eq_nil_of_length_eq_zero (by rw [← hlen', z']; rfl)
        subst hr
        refine q _ H' x (val_flat ?_)
        rw [List.append_nil]
        simp only [Rep]
        exact ⟨c, vs, rfl, hv, rl.flats hc.1⟩
      · exact q _ _ (x.trans (Ext.put hp)) (val_tup (m := .flat) ⟨[], (rl.flats hc.1).append (rl'.flats hc.2.1), rfl⟩ hp)
    · cases e
  · cases e
end

/-! ### sorted(xs), xs a list of data -/
abbrev Tri := D × V × List Addr
theorem RepL.tri {mg : Mg} {H : Hp} : ∀ {ds : List D} {vs : List V} {fp : List Addr}, RepL mg H ds vs fp → ∃ bs : List Tri, bs.map (·.1) = ds ∧ bs.map (·.2.1) = vs ∧ (bs.map (·.2.2)).flatten = fp ∧ ∀ b ∈ bs, Rep mg H b.1 b.2.1 b.2.2
  | [], _, _, h => by
    simp only [RepL] at h
    obtain ⟨rfl, rfl⟩ := h
    exact ⟨[], rfl, rfl, rfl, fun b hb => nomatch hb⟩
  | d :: ds, _, _, h => by
    simp only [RepL] at h
    obtain ⟨v, r, f1, f2, rfl, h1, h2, rfl⟩ := h
    obtain ⟨bs, e1, e2, e3, e4⟩ := RepL.tri h2
    refine ⟨(d, v, f1) :: bs, by simp [e1], by simp [e2], by simp [e3], fun b hb => ?_⟩
    rcases List.mem_cons.mp hb with rfl | hb
    · exact h1
    · exact e4 b hb
theorem tri_repL {mg : Mg} {H : Hp} : ∀ {bs : List Tri}, (∀ b ∈ bs, Rep mg H b.1 b.2.1 b.2.2) → RepL mg H (bs.map (·.1)) (bs.map (·.2.1)) (bs.map (·.2.2)).flatten
  | [], _ => by simp [RepL]
  | b :: bs, h => by
    simp only [List.map_cons, List.flatten_cons, RepL]
    exact ⟨_, _, _, _, rfl, h b List.mem_cons_self, tri_repL fun c hc => h c (List.mem_cons_of_mem _ hc), rfl⟩
theorem Fps.perm {P : Fm} {g : Addr → Nat} {H H' : Hp} {m : Md} {f f' : List Addr} (h : Fps P g H H' m f) (p : f'.Perm f) : Fps P g H H' m f' := by
  cases m with
  | flat => exact List.Perm.eq_nil (by rw [show f = [] from h] at p; exact p)
  | al fr rt L nd => exact ⟨fun a ha => h.1 a (p.mem_iff.mp ha), fun z => p.nodup_iff.mpr (h.2 z)⟩
def leD (a b : D) : Bool := PySem.W.dataLe false D.toP a b
def srtOk (l : List D) : Bool := canL l && (l.all fun a => l.all fun b => PySem.W.alike a.toP b.toP) && ((l.all fun a => match a with | .tup (_ :: _) => true | _ => false) || (l.all fun a => match a with | .non => false | .tup _ => false | _ => true)) &&
  (l.all fun a => decide (a.toP.depth ≤ 64)) && decide (l.length ≤ 1000000)
def dSortX : List D → Option D
  | [.lst l] => if srtOk l then some (.lst (l.mergeSort leD)) else none
  | _ => none
def rSortX (K : PySem.W.Frag) : List V → Hp → VK → Prop := fun vs H Q => ∃ (a : Addr) (bs : List Tri), vs = [.ref a] ∧ SqL K H a (bs.map (·.2.1)) ∧ (∀ b ∈ bs, Dp K H b.2.1 b.1.toP) ∧ PySem.W.AllAlike (bs.map (·.1.toP)) ∧ PySem.W.Sortable (bs.map (·.1.toP)) ∧ (∀ b ∈ bs, b.1.toP.depth ≤ 64) ∧ bs.length ≤ 1000000 ∧
  ∀ p, H p = none → Q (.ref p) (upd H p (.lst ((bs.mergeSort fun a b => leD a.1 b.1).map (·.2.1))))
theorem each_of_vals {s : Shared} {X : Cx} {pins : List (Addr × Obj)} {σ : L2.St} {H : Hp} (I : Inv X pins σ H s) : ∀ {bs : List Tri} {its : List Value}, Vals (bs.map (·.2.1)) its → (∀ b ∈ bs, Dp X.K H b.2.1 b.1.toP) →
    PySem.W.EachIs (fun (v : Value) (b : Tri) => RelV b.2.1 v) its bs ∧ PySem.W.EachIs (fun (v : Value) (b : Tri) => ∃ as, Reads s.heap v b.1.toP as) its bs
  | [], _, .nil, _ => ⟨.nil, .nil⟩
  | b :: bs, _, .cons r rr, h => by
    obtain ⟨h1, h2⟩ := each_of_vals I rr fun c hc => h c (List.mem_cons_of_mem _ hc)
    exact ⟨.cons r h1, .cons (Dp.reads I _ _ _ (h b List.mem_cons_self) r) h2⟩
theorem vals_of_each : ∀ {bs : List Tri} {its : List Value}, PySem.W.EachIs (fun (v : Value) (b : Tri) => RelV b.2.1 v) its bs → Vals (bs.map (·.2.1)) its
  | _, _, .nil => .nil
  | _, _, .cons r rr => .cons r (vals_of_each rr)
theorem cr_sortX {X : Cx} (hu : X.A.units + 100 < cLine) : CallR X (.builtin "sorted") (rSortX X.K) := by
  intro pins s σ H vs us Q I r h
  obtain ⟨a, bs, rfl, hs, hd, hal, hsr, hdp, hlen, q⟩ := h
  obtain ⟨its, rv, hl, hz⟩ := I.list hs
  match us, r with
  | [_], .cons ru .nil =>
    cases ru
    obtain ⟨e1, e2⟩ := each_of_vals I rv hd
    refine PySem.W.sorted_data (β := Tri) (enc := fun b => b.1.toP) hl.isList e1 e2 hal hsr (line_of hlen) (fun b hb => by have := hdp b hb; omega) fun out hlo ho => ?_
    obtain ⟨c, hc⟩ := PyProof.Rows.sortedAll_at s.heap its out.toArray
    have vs2 := vals_of_each ho
    have hp : s.heap.objs.size ≤ s.heap.objs.size + 1 := Nat.le_succ _
    refine ⟨.ref (s.heap.objs.size + 1), upd H (s.heap.objs.size + 1) (.lst ((bs.mergeSort fun a b => leD a.1 b.1).map (·.2.1))), I.laid (t' := s.toks) (fun _ _ => PyProof.Rows.sortedAll_old) hp ⟨?_, out, c, vs2, hc⟩, rfl, q _ (I.hok.fresh hp)⟩
    rw [List.length_map, List.length_mergeSort]
    exact line_of hlen
section
variable {X : Cx} {LL : List Nat} {Γ : List Kd} {pos p : Pos} {a : Expr} {sa : Ev} {ma : Md}
theorem ex_sortX {x : Str} (hu : X.A.units + 100 < cLine) (hg : Gl X x) (hm : X.mg x = none) (hv : bootBuiltins x = some (.builtin "sorted")) (ha : EX X LL Γ a sa ma) (hn : x ≠ "__name__" := by decide) (hdb : (x == ("__debug__" : Str)) = false := by decide)
    (he : starEach [a] X.env = (false, eval a X.env) :: starEach [] X.env := by rfl) : EX X LL Γ (.Call (.Name x p) [a] [] pos) (eP dSortX (aCons sa aNil)) ma.child.lst := by
  obtain ⟨t, pt, k⟩ := ha
  refine ⟨_, pe_callB (cr_sortX hu) hg hm hv (pa_cons pt pa_nil he) hn hdb he, fun P g ρ σ H d Q s e q => ?_⟩
  obtain ⟨ds, e1, e⟩ := bind_some e
  refine one_arg k s e1 fun d0 v H1 eds x1 w => ?_
  subst eds
  unfold dSortX at e
  split at e
  · split at e
    · rename_i l eq hok
      cases eq
      cases e
      obtain ⟨c, vs, rfl, hc, _, _, fp, rl, o⟩ := seq_of w
      obtain ⟨bs, rfl, rfl, rfl, hb⟩ := rl.tri
      simp only [srtOk, Bool.and_eq_true, decide_eq_true_eq, List.all_eq_true, Bool.or_eq_true] at hok
      obtain ⟨⟨⟨⟨h1, h2⟩, h3⟩, h4⟩, h5⟩ := hok
      have can : ∀ b ∈ bs, b.1.toP.canLay0 = true := by
        unfold canL at h1
        rw [toPL_eq] at h1
        have key : ∀ l : List PyData, PyData.canLayAll0 l = true → ∀ z ∈ l, z.canLay0 = true := fun l => by
          induction l with
          | nil => intro _ z hz; cases hz
          | cons y r ih =>
            intro hh z hz
            simp only [PyData.canLayAll0, Bool.and_eq_true] at hh
            rcases List.mem_cons.mp hz with rfl | hz
            · exact hh.1
            · exact ih hh.2 z hz
        exact fun b hbm => key _ h1 _ (List.mem_map.mpr ⟨b.1, List.mem_map.mpr ⟨b, hbm, rfl⟩, rfl⟩)
      refine ⟨c, bs, rfl, SqL.of hc, fun b hbm => (hb b hbm).dp (can b hbm), ?_, ?_, fun b hbm => h4 _ (List.mem_map.mpr ⟨b, hbm, rfl⟩), by simpa using h5, fun z hz => ?_⟩
      · intro y hy y' hy'
        obtain ⟨b, hbm, rfl⟩ := List.mem_map.mp hy
        obtain ⟨b', hbm', rfl⟩ := List.mem_map.mp hy'
        exact h2 _ (List.mem_map.mpr ⟨b, hbm, rfl⟩) _ (List.mem_map.mpr ⟨b', hbm', rfl⟩)
      · rcases h3 with h3 | h3
        · refine .inl fun y hy => ?_
          obtain ⟨b, hbm, rfl⟩ := List.mem_map.mp hy
          have := h3 _ (List.mem_map.mpr ⟨b, hbm, rfl⟩)
          split at this
          · rename_i x r e
            rw [e]
            exact ⟨x.toP, D.toPL r, by simp [D.toP, D.toPL]⟩
          · cases this
        · refine .inr fun y hy => ?_
          obtain ⟨b, hbm, rfl⟩ := List.mem_map.mp hy
          have h6 := h3 _ (List.mem_map.mpr ⟨b, hbm, rfl⟩)
          have h7 := can b hbm
          obtain ⟨bd, bv, bf⟩ := b
          cases bd <;> simp [D.toP, PyData.canLay0] at h6 h7 ⊢
      · have e3 : (bs.map (·.1)).mergeSort leD = (bs.mergeSort fun a b => leD a.1 b.1).map (·.1) := by rw [List.map_mergeSort (s := leD) (fun a _ b _ => rfl)]
        refine q _ _ (x1.trans (Ext.put hz)) ?_
        rw [e3]
        refine (val_lst ⟨_, tri_repL fun b hbm => hb b (List.mem_mergeSort.mp hbm), o.perm ?_⟩ x1 hz)
        exact List.Perm.flatten ((List.mergeSort_perm bs _).map _)
    · cases e
  · cases e
end
end VV

/-! ## VSet -/
/-! set(xs) of a list of whole numbers: its members, its order -/
namespace VV
open PySem PySem.Spec PyProof.Rows L2
/-- a set that was just made -/
abbrev bareSet (w : World) : Obj := { cls := .type "set", dict := none, data := .set #[] 0 (.fresh 0 0 (!w.params.followText "set-order")) }
section
variable {P : Program} {w : World} {A : Around} {E : Value → Shared → Prop} {s : Shared}
/-- what is there behind set(..) is filled -/
def Filled (w : World) (s : Shared) (ns : List Int) (s2 : Shared) : Prop := ∃ (g : Heap) (tk c : Nat), s2 = { s with heap := g, toks := tk } ∧ SetR w g s.heap.objs.size (fun j => decide (j ∈ ns)) c ∧ c ≤ ns.length ∧ ∀ b o, s.heap.get? b = some o → g.get? b = some o
theorem fill_list {l : Addr} {items : Array Value} {ns : List Int} (hh : A.handled = none) (hl : s.heap.IsList l items) (hit : IntsAre items.toList ns) (hb : ns.length + 1 < scanBound) :
    codeAny (model P w) A (.call (.builtin "set.__init__") ⟨[.ref s.heap.objs.size, .ref l], []⟩) (wants (fun r z => r = .none ∧ Filled w s ns z) E) { s with heap := s.heap.push (bareSet w) } := by
  have size_eq : items.size = ns.length := by
    have := IntsAre.length hit
    rwa [Array.length_toList] at this
  have at0 : (s.heap.push (bareSet w)).get? s.heap.objs.size = some (bareSet w) := Heap.get?_push_size _ rfl
  have typ : Shared.TypeIs { s with heap := s.heap.push (bareSet w) } (.ref s.heap.objs.size) "set" := ⟨_, at0, rfl⟩
  have below : l < s.heap.objs.size := by
    obtain ⟨o, ho, _⟩ := hl
    exact Heap.lt_size ho
  have isl : (s.heap.push (bareSet w)).IsList l items := hl.push _
  obtain ⟨⟨kc, kd, kdt, ks⟩, hol, q1, kn, q2⟩ := isl
  cases q1
  cases q2
  have isl : (s.heap.push (bareSet w)).IsList l items := ⟨_, hol, rfl, kn, rfl⟩
  have c1 := F.sub_list_set
  have c2 := F.sub_list_frozenset
  have c3 : (Value.type "list" == Value.type "dict") = false := by decide
  refine codeAny_call_builtin F.called_set.init.plain F.entry_set_init (check_set_init_1 typ ?_)
  unfold Builtin.«set.__init__» noKeywords Builtin.Frozenset.updateFrom
  generalize hIt : pyIter = IT
  wp_walk
  subst hIt
  refine wpAny_pyIter_list isl ?_
  refine wpAny_bind (wpAny_runValue ?_)
  have sz : (s.heap.push (bareSet w)).objs.size = s.heap.objs.size + 1 := Heap.size_push ..
  have apart : l ≠ (s.heap.push (bareSet w)).objs.size := by rw [sz]; exact Nat.ne_of_lt (Nat.lt_succ_of_lt below)
  have out : s.heap.objs.size ∉ [(s.heap.push (bareSet w)).objs.size, l] := by
    rw [sz]
    simp only [List.mem_cons, List.not_mem_nil, or_false, not_or]
    exact ⟨Nat.ne_of_lt (Nat.lt_succ_self _), Nat.ne_of_gt below⟩
  have vals : ∀ (i : Nat) (v : Value), items[i]? = some v → ∃ k t, ns[i]? = some k ∧ v = .int k t := fun i v hv => by
    have hi : i < ns.length := size_eq ▸ (Array.getElem?_eq_some_iff.mp hv).1
    obtain ⟨t, e⟩ := IntsAre.int_at hit i v (by rwa [Array.getElem?_toList])
    exact ⟨ns[i], t, List.getElem?_eq_getElem hi, by rw [e]; simp [hi]⟩
  refine set_update_ints ((Walks.list (by simp [hh]) _ l apart items).toS) s.heap.objs.size out ns size_eq hb vals (items.size - 0) 0 _ (by omega) (Nat.zero_le _) ⟨⟨_, Heap.get?_push_size _ rfl, rfl, rfl⟩, isl.push _⟩ ⟨0, Nat.le_refl 0, setR_new_at (Heap.get?_push_of_some _ at0)⟩ ?_
  intro s3 c hm hc hS
  obtain ⟨g, gn, dr, tk, os⟩ := s3
  cases (show gn = s.gens from hm.gens)
  cases (show dr = s.drawn from hm.drawn)
  cases (show os = s.os from hm.os)
  show wpAny _ _ _ _ _ _
  refine wpAny_pure ?_
  show wpAny _ _ (ret Value.none) _ _ _
  refine wpAny_pure ⟨rfl, g, tk, c, rfl, hS, size_eq ▸ hc, fun b o e => ?_⟩
  have lt := Heap.lt_size e
  refine hm.heap b o ?_ (Heap.get?_push_of_some _ (Heap.get?_push_of_some _ e))
  rw [sz]
  simp only [List.mem_cons, List.not_mem_nil, or_false, not_or]
  exact ⟨Nat.ne_of_lt lt, Nat.ne_of_lt (Nat.lt_succ_of_lt lt)⟩
theorem set_list {l : Addr} {items : Array Value} {ns : List Int} {Q : Value → Shared → Prop} (hh : A.handled = none) (hl : s.heap.IsList l items) (hit : IntsAre items.toList ns) (hb : ns.length + 1 < scanBound)
    (h : ∀ z, Filled w s ns z → Q (.ref s.heap.objs.size) z) : wpAny (model P w) A (call (.type "set") [.ref l]) Q E s := by
  obtain ⟨c, tl, hmro⟩ := F.called_set.mro
  have m1 := F.called_set.made
  have m2 := F.called_set.sub
  have m3 := F.called_set.notType
  have m4 := F.called_set.canCreate
  have m5 := F.typeCall_set_1 (.ref l)
  have m6 := F.called_set.init.lookup
  have m7 := F.called_set.init.bind (.ref s.heap.objs.size)
  refine wpAny_call (codeAny_of_tree ?_)
  show wpAny _ _ (callAny (.type "set") _) _ _ _
  refine wpAny_pure ⟨Code.quiet_builtin _ (by decide +kernel), codeAny_builtin F.entry_type_call ?_⟩
  rw [Around.under_plain (weight_type_call_type "set" [.ref l] []) rfl]
  repeat (any_goals first | assumption | wp_step)
  refine codeAny_mono (code_set_led1 (.ref l) (E := E) (Q₁ := fun v z => v = .ref s.heap.objs.size ∧ z = { s with heap := s.heap.push (bareSet w) }) ⟨rfl, rfl⟩) fun r z hz => ?_
  cases r with
  | error e => exact hz
  | ok fl =>
    cases fl with
    | ret v =>
      obtain ⟨rfl, rfl⟩ := hz
      have m8 : Shared.TypeIs { s with heap := s.heap.push (bareSet w) } (.ref s.heap.objs.size) "set" := ⟨_, Heap.get?_push_size _ rfl, rfl⟩
      repeat (any_goals first | assumption | wp_step)
      refine codeAny_mono (fill_list (E := E) hh hl hit hb) fun r2 z2 hz2 => ?_
      cases r2 with
      | error e => exact hz2
      | ok fl2 =>
        cases fl2 with
        | ret v2 =>
          obtain ⟨rfl, hz2⟩ := hz2
          repeat (any_goals first | assumption | wp_step)
          exact h _ hz2
        | _ => exact hz2.elim
    | _ => exact hz.elim
end

/-! ### sorted, without the same twice -/
def insS (k : Int) : List Int → List Int
  | [] => [k]
  | x :: r => if k < x then k :: x :: r else if k = x then x :: r else x :: insS k r
def srtSet (ns : List Int) : List Int := ns.foldr insS []
theorem mem_insS {k j : Int} : ∀ {l : List Int}, j ∈ insS k l ↔ j = k ∨ j ∈ l
  | [] => by simp [insS]
  | x :: r => by
    unfold insS
    split
    · simp
    · split
      · rename_i h; subst h; simp
      · simp only [List.mem_cons, mem_insS (l := r)]
        constructor
        · rintro (h | h | h)
          · exact .inr (.inl h)
          · exact .inl h
          · exact .inr (.inr h)
        · rintro (h | h | h)
          · exact .inr (.inl h)
          · exact .inl h
          · exact .inr (.inr h)
theorem pw_insS {k : Int} : ∀ {l : List Int}, l.Pairwise (· < ·) → (insS k l).Pairwise (· < ·)
  | [], _ => by simp [insS]
  | x :: r, h => by
    obtain ⟨h1, h2⟩ := List.pairwise_cons.mp h
    unfold insS
    split
    · rename_i hk
      refine List.pairwise_cons.mpr ⟨fun y hy => ?_, h⟩
      rcases List.mem_cons.mp hy with rfl | hy
      · exact hk
      · exact Int.lt_trans hk (h1 y hy)
    · split
      · exact h
      · rename_i h3 h4
        refine List.pairwise_cons.mpr ⟨fun y hy => ?_, pw_insS h2⟩
        rcases mem_insS.mp hy with rfl | hy
        · omega
        · exact h1 y hy
theorem mem_srtSet {j : Int} : ∀ {ns : List Int}, j ∈ srtSet ns ↔ j ∈ ns
  | [] => by simp [srtSet]
  | k :: r => by
    show j ∈ insS k (srtSet r) ↔ _
    rw [mem_insS, mem_srtSet, List.mem_cons]
theorem pw_srtSet : ∀ ns : List Int, (srtSet ns).Pairwise (· < ·)
  | [] => List.Pairwise.nil
  | k :: r => pw_insS (pw_srtSet r)
/-- there is but one rising list of the same members -/
theorem rising_uniq : ∀ {l m : List Int}, l.Pairwise (· < ·) → m.Pairwise (· < ·) → (∀ k, k ∈ l ↔ k ∈ m) → l = m
  | [], [], _, _, _ => rfl
  | [], y :: m, _, _, h => by have := (h y).mpr List.mem_cons_self; cases this
  | x :: l, [], _, _, h => by have := (h x).mp List.mem_cons_self; cases this
  | x :: l, y :: m, h1, h2, h => by
    obtain ⟨a1, a2⟩ := List.pairwise_cons.mp h1
    obtain ⟨b1, b2⟩ := List.pairwise_cons.mp h2
    have hx := (h x).mp List.mem_cons_self
    have hy := (h y).mpr List.mem_cons_self
    have e : x = y := by
      rcases List.mem_cons.mp hx with e | hx
      · exact e
      · rcases List.mem_cons.mp hy with e | hy
        · exact e.symm
        · have := b1 x hx
          have := a1 y hy
          omega
    subst e
    rw [rising_uniq a2 b2 fun k => ?_]
    have := h k
    constructor
    · intro hk
      rcases List.mem_cons.mp (this.mp (List.mem_cons_of_mem _ hk)) with e | hm
      · subst e; exact absurd (a1 k hk) (Int.lt_irrefl k)
      · exact hm
    · intro hk
      rcases List.mem_cons.mp (this.mpr (List.mem_cons_of_mem _ hk)) with e | hm
      · subst e; exact absurd (b1 k hk) (Int.lt_irrefl k)
      · exact hm
theorem nd_len : ∀ {l m : List Int}, l.Nodup → m.Nodup → (∀ k, k ∈ l ↔ k ∈ m) → l.length = m.length
  | l, m, h1, h2, h => ((List.perm_ext_iff_of_nodup h1 h2).mpr h).length_eq
def rSetI (K : PySem.W.Frag) (w : World) : List V → Hp → VK → Prop := fun vs H Q => ∃ (a : Addr) (ns : List Int), vs = [.ref a] ∧ SqL K H a (ns.map V.int) ∧ ns.length ≤ 4000 ∧ ∀ p, H p = none → Q (.ref p) (upd H p (SetO w p (fun j => decide (j ∈ ns)) (srtSet ns).length))
section
variable {X : Cx}
theorem setR_len {w : World} {h : Heap} {a : Addr} {ns : List Int} {c : Nat} (R : SetR w h a (fun j => decide (j ∈ ns)) c) : c = (srtSet ns).length := by
  obtain ⟨o, es, ep, t, ho, hex, hd, g, nd, hm, hb, hf, hn, _⟩ := R
  have h1 : (es.toList.map keyOf).length = (srtSet ns).length := nd_len nd ((pw_srtSet ns).imp fun h e => by subst e; exact Int.lt_irrefl _ h) fun k => by
    rw [← hm k, mem_srtSet, decide_eq_true_eq]
  rw [← hn, ← h1, List.length_map, Array.length_toList]
theorem cr_setI (hc : X.calm = true) : CallR X (.type "set") (rSetI X.K X.w) := by
  intro pins s σ H vs us Q I r h
  obtain ⟨a, ns, rfl, hs, hlen, q⟩ := h
  obtain ⟨its, rv, hl, hz⟩ := I.list hs
  match us, r with
  | [_], .cons ru .nil =>
    cases ru
    refine set_list (ns := ns) (I.ok.hd hc) hl.isList (by simpa using RZ.intsAre_vals rv) (by unfold scanBound; omega) fun z hz => ?_
    obtain ⟨g, tk, c, rfl, R, _, k⟩ := hz
    have := setR_len R
    subst this
    exact ⟨.ref s.heap.objs.size, upd H s.heap.objs.size (SetO X.w s.heap.objs.size (fun j => decide (j ∈ ns)) (srtSet ns).length), I.laid (t' := tk) k (Nat.le_refl _) (setO_new R), rfl, q _ (I.hok.fresh (Nat.le_refl _))⟩
/-- len(s), s a set of whole numbers -/
theorem cr_lenSet : CallR X (.builtin "len") (fun vs H Q => ∃ (a : Addr) (S : Int → Bool) (n : Nat), vs = [V.ref a] ∧ H a = some (SetO X.w a S n) ∧ Q (.int n) H) := by
  intro pins s σ H vs us Q I r h
  obtain ⟨a, S, n, rfl, ha, q⟩ := h
  obtain ⟨o, es, ep, t, ho, hex, hd, g, nd, hm, hb, hf, hn, _⟩ := setO_get I ha
  match us, r with
  | [_], .cons ru .nil =>
    cases ru
    refine call_len_set ho hex hd hf (by have hb2 := hb; unfold scanBound at hb2; omega) ⟨.int n, H, I.tok _, ⟨s.toks + 1, by rw [hn]⟩, q⟩
end
def dSortSet : List D → Option D
  | [.lst l] => (intsOf l).bind fun ns => if ns.length ≤ 4000 ∧ (srtSet ns).length < 64 then some (.lst ((srtSet ns).map D.int)) else none
  | _ => none
def dLenSet : List D → Option D
  | [.lst l] => (intsOf l).bind fun ns => if ns.length ≤ 4000 then some (.int (srtSet ns).length) else none
  | _ => none
theorem repL_ints {mg : Mg} {H : Hp} : ∀ ns : List Int, RepL mg H (ns.map D.int) (ns.map V.int) []
  | [] => by simp [RepL]
  | n :: r => by simp only [List.map_cons, RepL]; exact ⟨_, _, [], [], rfl, rep_int, repL_ints r, rfl⟩
section
variable {X : Cx} {LL : List Nat} {Γ : List Kd} {pos p p2 q : Pos} {a : Expr} {sa : Ev} {ma : Md}
theorem ex_sortSet (hc : X.calm = true) (h1 : Gl X "sorted") (h2 : X.mg "sorted" = none) (h3 : Gl X "set") (h4 : X.mg "set" = none) (v1 : bootBuiltins "sorted" = some (.builtin "sorted")) (v2 : bootBuiltins "set" = some (.type "set")) (ha : EX X LL Γ a sa ma)
    (na : starEach [a] X.env = (false, eval a X.env) :: starEach [] X.env := by rfl) (nb : starEach [.Call (.Name "set" p2) [a] [] q] X.env = (false, eval (.Call (.Name "set" p2) [a] [] q) X.env) :: starEach [] X.env := by rfl) :
    EX X LL Γ (.Call (.Name "sorted" p) [.Call (.Name "set" p2) [a] [] q] [] pos) (eP dSortSet (aCons sa aNil)) (.al false .new [] true) := by
  obtain ⟨t, pt, k⟩ := ha
  refine ⟨_, pe_callB (cr_sortedSet hc) h1 h2 v1 (pa_cons (pe_callTy (cr_setI hc) h3 h4 v2 (pa_cons pt pa_nil na) (by decide) (by decide) na) pa_nil nb) (by decide) (by decide) nb, fun P g ρ σ H d Q s e q => ?_⟩
  obtain ⟨ds, e1, e⟩ := bind_some e
  show tCons t tNil σ H (fun vs H1 => rSetI X.K X.w vs H1 _)
  refine one_arg k s e1 fun d0 v H1 eds x1 w => ?_
  subst eds
  unfold dSortSet at e
  split at e
  · rename_i l eq
    cases eq
    obtain ⟨ns, ei, e⟩ := bind_some e
    split at e
    · rename_i hn
      cases e
      obtain ⟨c, vs, rfl, hv, _, _, fp, rl, _⟩ := seq_of w
      rw [intsOf_rep ei rl] at hv
      refine ⟨c, ns, rfl, SqL.of hv, hn.1, fun z hz => ⟨z, _, _, rfl, upd_same, hn.2, fun ns' y hpw hmem _ hy => ?_⟩⟩
      have e' : ns' = srtSet ns := rising_uniq hpw (pw_srtSet ns) fun j => by rw [hmem, decide_eq_true_eq, mem_srtSet]
      subst e'
      exact q _ _ ((x1.trans (Ext.put hz)).trans (Ext.put hy)) (val_lst (m := .flat) ⟨[], repL_ints _, rfl⟩ (x1.trans (Ext.put hz)) hy)
    · cases e
  · cases e
theorem ex_lenSet (hc : X.calm = true) (h1 : Gl X "len") (h2 : X.mg "len" = none) (h3 : Gl X "set") (h4 : X.mg "set" = none) (v1 : bootBuiltins "len" = some (.builtin "len")) (v2 : bootBuiltins "set" = some (.type "set")) (ha : EX X LL Γ a sa ma)
    (na : starEach [a] X.env = (false, eval a X.env) :: starEach [] X.env := by rfl) (nb : starEach [.Call (.Name "set" p2) [a] [] q] X.env = (false, eval (.Call (.Name "set" p2) [a] [] q) X.env) :: starEach [] X.env := by rfl) :
    EX X LL Γ (.Call (.Name "len" p) [.Call (.Name "set" p2) [a] [] q] [] pos) (eP dLenSet (aCons sa aNil)) .flat := by
  obtain ⟨t, pt, k⟩ := ha
  refine ⟨_, pe_callB cr_lenSet h1 h2 v1 (pa_cons (pe_callTy (cr_setI hc) h3 h4 v2 (pa_cons pt pa_nil na) (by decide) (by decide) na) pa_nil nb) (by decide) (by decide) nb, fun P g ρ σ H d Q s e q => ?_⟩
  obtain ⟨ds, e1, e⟩ := bind_some e
  show tCons t tNil σ H (fun vs H1 => rSetI X.K X.w vs H1 _)
  refine one_arg k s e1 fun d0 v H1 eds x1 w => ?_
  subst eds
  unfold dLenSet at e
  split at e
  · rename_i l eq
    cases eq
    obtain ⟨ns, ei, e⟩ := bind_some e
    split at e
    · rename_i hn
      cases e
      obtain ⟨c, vs, rfl, hv, _, _, fp, rl, _⟩ := seq_of w
      rw [intsOf_rep ei rl] at hv
      exact ⟨c, ns, rfl, SqL.of hv, hn, fun z hz => ⟨z, _, _, rfl, upd_same, q _ _ (x1.trans (Ext.put hz)) (val_flat rep_int)⟩⟩
    · cases e
  · cases e
end
end VV

/-! ## VMut2 -/
/-! more changes of one object: extend, pop within append, two stores, d.setdefault(k, []).append(v); sorted(d), t * n -/
namespace VV
open PySem PySem.Spec PyProof.Rows L2

/-- a new list of flat things -/
theorem newflat {mg : Mg} {P : Fm} {g : Addr → Nat} {H H1 : Hp} {l : List D} {v : V} (h : Val mg P g H H1 (.al false .new [] true) (.lst l) v) : ∃ a vs, v = .ref a ∧ H1 a = some (.lst vs) ∧ H a = none ∧ RepL mg H1 l vs [] := by
  obtain ⟨fp, r, o⟩ := h
  simp only [Rep] at r
  obtain ⟨a, vs, f, rfl, ha, rl, rfl⟩ := r
  have hn : H a = none := by
    rcases o.1 a List.mem_cons_self with ⟨_, y⟩ | ⟨y, z⟩
    · exact y.1
    · rcases z with ⟨z, _⟩ | z
      · cases z
      · exact nomatch z.1
  obtain rfl : f = [] := by
    cases f with
    | nil => rfl
    | cons b f =>
      have hb : V.ref a ≠ V.ref b := fun e => by
        cases e
        exact o.2.2 rfl a (a :: f) rfl rfl List.mem_cons_self
      rcases o.1 b (List.mem_cons_of_mem _ List.mem_cons_self) with ⟨e, _⟩ | ⟨_, z⟩
      · exact absurd e hb
      · rcases z with ⟨z, _⟩ | z
        · cases z
        · exact nomatch z.1
  exact ⟨a, vs, rfl, ha, hn, rl⟩
/-- the slot's list: its node -/
theorem slot_lst {mg : Mg} {P : Fm} {g : Addr → Nat} {H : Hp} {n : Nat} {L : List Nat} {nd : Bool} {ds : List D} {ov : Option V} (h : CellOk mg P g H (.lab (some n) L nd) (.lst ds) ov) :
    ∃ a vs f, ov = some (.ref a) ∧ H a = some (.lst vs) ∧ RepL mg H ds vs f ∧ g a = n ∧ a ∉ f ∧ (∀ b ∈ f, Old P g L b) ∧ (nd = true → f.Nodup) := by
  obtain ⟨v, fp, rfl, r, q, z⟩ := h
  simp only [Rep] at r
  obtain ⟨a, vs, f, rfl, ha, rl, rfl⟩ := r
  have haf : a ∉ f := z.2 rfl a f rfl rfl
  refine ⟨a, vs, f, rfl, ha, rl, root_lab q, haf, fun b hb => ?_, fun hn => (List.nodup_cons.mp (z.1 hn)).2⟩
  rcases q b (List.mem_cons_of_mem _ hb) with ⟨e, _⟩ | ⟨_, y⟩
  · cases e; exact absurd hb haf
  · exact y
theorem lst_cell {mg : Mg} {P : Fm} {g : Addr → Nat} {H : Hp} {n : Nat} {L : List Nat} {nd : Bool} {ds : List D} {a : Addr} {vs : List V} {f : List Addr} (hn : n ≠ 0) (ha : H a = some (.lst vs)) (rl : RepL mg H ds vs f) (hg : g a = n) (haf : a ∉ f) (o : ∀ b ∈ f, Old P g L b) (nf : nd = true → f.Nodup) :
    CellOk mg P g H (.lab (some n) L nd) (.lst ds) (some (.ref a)) := by
  refine ⟨.ref a, a :: f, rfl, ?_, fun b hb => ?_, fun hn' => List.nodup_cons.mpr ⟨haf, nf hn'⟩, fun _ b g' e1 e2 => ?_⟩
  · simp only [Rep]
    exact ⟨a, vs, f, rfl, ha, rl, rfl⟩
  · rcases List.mem_cons.mp hb with rfl | hb
    · exact .inl ⟨rfl, n, rfl, by rw [hg]; exact List.mem_singleton.mpr rfl, fun z => by rw [hg] at z; exact absurd z hn⟩
    · exact .inr ⟨.inl fun e => by cases e; exact haf hb, o b hb⟩
  · cases e2; exact haf

/-! ### x.extend(a list of flat things) -/
def dExt : D → D → Option D
  | .lst l, .lst r => if l.length + r.length ≤ 1000000 then some (.lst (l ++ r)) else none
  | _, _ => none
section
variable {X : Cx} {W : L2.WX} {sc : Sc} {Γ : List Kd} {pos : Pos}
theorem sx_extend {i : Nat} {x : Str} {px ap cp : Pos} {e : Expr} {se : Ev} {n : Nat} {L : List Nat} {nd : Bool} (hk : Γ[i]? = some (.lab (some n) L nd)) (hN : X.N[i]? = some x) (hv : Vis X.env.scope x) (he : EX X sc.LL Γ e se (.al false .new [] true))
    (hn : n ≠ 0 := by decide) (hL : n ∉ sc.LL := by decide) (hdb : (x == ("__debug__" : Str)) = false := by decide) (hcd : (x == ("__classdict__" : Str)) = false := by decide)
    (hbase : attributeBase (.Name x px) "extend" X.env (eval (.Name x px) X.env) = eval (.Name x px) X.env := by rfl)
    (hfew : ((backTo cp (starEach [e] X.env)).all (fun x => !x.1) && (backToKw cp (keywordEach [] X.env)).all (fun x => x.1.isSome)
      && decide ([e].length + ([] : List Keyword).length + (if ([] : List Keyword).isEmpty then 0 else 1) < 30)) = true := by rfl)
    (hline : (ap.endLine == cp.line) = true := by rfl) (hs : starEach [e] X.env = (false, eval e X.env) :: starEach [] X.env := by rfl) (hplain : (backTo cp (starEach [] X.env)).any (·.1) = false := by rfl)
    (hsw : swapsWith (.Call (.Attribute (.Name x px) "extend" ap) [e] [] cp) none pos.line X.env = pure false := by rfl) :
    SX X W sc Γ (.Expr (.Call (.Attribute (.Name x px) "extend" ap) [e] [] cp) pos) (sMut dExt i se) ((killK n Γ).set i (.lab (some n) L nd)) := by
  obtain ⟨t, pt, kk⟩ := he
  refine ⟨_, ps_expr (pe_bm PySem.F.plainAttrs_list PySem.F.slot_list_extend PySem.F.type_list_extend mt_extend (pe_var hN hv hdb hcd) (pa_cons pt pa_nil hs) hbase hfew hline hs hplain) hsw, fun P g ρ σ H o De s e w => ?_⟩
  obtain ⟨d, e1, e⟩ := bind_some e
  obtain ⟨l, e2, e⟩ := bind_some e
  obtain ⟨z, e3, e⟩ := bind_some e
  cases e
  obtain ⟨l', ov, h1, h2, h3⟩ := s.cells.get hk
  rw [e2] at h1; cases h1
  unfold dExt at e3
  split at e3
  case h_2 => cases e3
  case h_1 =>
    rename_i ds rs _
    split at e3
    · rename_i hlen
      cases e3
      obtain ⟨a, vs, f, rfl, ha, rl, hga, haf, oldf, ndf⟩ := slot_lst h3
      refine ⟨.ref a, h2, .inl ⟨rfl, _, .inl (.inl ha)⟩, ?_⟩
      refine kk P g ρ σ H _ _ s e1 fun y H2 x2 wv => ?_
      obtain ⟨b, us, rfl, hb, hbn, rr⟩ := newflat wv
      have ha2 : H2 a = some (.lst vs) := x2 a _ ha
      refine ⟨a, b, vs, us, rfl, rfl, ha2, hb, ?_, ?_⟩
      · rw [rl.length, rr.length, sizeLine_eq]; omega
      have rl2 := rl.ext x2
      have rn : RepL X.vm (upd H2 a (.lst (vs ++ us))) (ds ++ rs) (vs ++ us) f := by
        have := (repL_upd rl2 haf ha2 trivial (o' := .lst (vs ++ us))).append (repL_upd rr (by simp) ha2 trivial (o' := .lst (vs ++ us)))
        rw [List.append_nil] at this
        exact this
      have st2 : Sta X.vm P sc.LL Γ (relab g H H2 .non 1 1) ρ σ H2 := s.relab x2
      have hg2 : relab g H H2 .non 1 1 a = n := by rw [relab_old (by rw [ha]; simp)]; exact hga
      obtain ⟨s3, st3⟩ := st2.put (o' := .lst (vs ++ us)) ha2 trivial trivial hg2 hn hL h2 (lst_cell hn upd_same rn hg2 haf (fun c hc => Old.relab (oldf c hc) s.loc) ndf)
      exact w _ σ _ ((Step.relab x2).trans st3) s3
    · cases e3

/-! ### x.append(y.pop(e)), of flat things -/
def dPopAt : D → D → Option (D × D)
  | .lst l, .int k => (ixN l.length k).bind fun q => (l[q]?).bind fun d => if d.isFlat && decide (l.length ≤ 1000000) then some (d, .lst (l.eraseIdx q)) else none
  | _, _ => none
def sAppPop (i j : Nat) (se : Ev) : Sv := fun ρ => do
  let yl ← ρ[j]?
  let k ← se ρ
  let p ← dPopAt yl k
  let xl ← ρ[i]?
  let z ← dPush xl p.1
  some (.nx ((ρ.set j p.2).set i z))
theorem repL_erase {mg : Mg} {H : Hp} : ∀ {ds : List D} {vs : List V} {f : List Addr} {q : Nat} {d : D}, RepL mg H ds vs f → ds[q]? = some d → d.isFlat = true → ∃ v, vs[q]? = some v ∧ Rep mg H d v [] ∧ RepL mg H (ds.eraseIdx q) (vs.eraseIdx q) f
  | [], _, _, _, _, _, e, _ => by simp at e
  | d0 :: ds, _, _, 0, d, h, e, hf => by
    simp only [RepL] at h
    obtain ⟨v, r, f1, f2, rfl, h1, h2, rfl⟩ := h
    simp at e
    subst e
    obtain rfl : f1 = [] := (h1.flat hf)
    exact ⟨v, rfl, h1, by simpa using h2⟩
  | d0 :: ds, _, _, q + 1, d, h, e, hf => by
    simp only [RepL] at h
    obtain ⟨v, r, f1, f2, rfl, h1, h2, rfl⟩ := h
    obtain ⟨w, a1, a2, a3⟩ := repL_erase (q := q) h2 (by simpa using e) hf
    refine ⟨w, by simpa using a1, a2, ?_⟩
    simp only [List.eraseIdx_cons_succ, RepL]
    exact ⟨v, _, f1, f2, rfl, h1, a3, rfl⟩
theorem sx_appPop {i j : Nat} {x y : Str} {px py ap bp cp dp : Pos} {e : Expr} {se : Ev} {n n' : Nat} {L L' : List Nat} {nd nd' : Bool} {m : Md} (hki : Γ[i]? = some (.lab (some n) L nd)) (hkj : Γ[j]? = some (.lab (some n') L' nd')) (hij : (i == j) = false)
    (hN : X.N[i]? = some x) (hv : Vis X.env.scope x) (hN' : X.N[j]? = some y) (hv' : Vis X.env.scope y) (he : EX X sc.LL Γ e se m)
    (hn : n ≠ 0 := by decide) (hL : n ∉ sc.LL := by decide) (hn' : n' ≠ 0 := by decide) (hL' : n' ∉ sc.LL := by decide) (hnn : n ≠ n' := by decide) (hnL : n' ∉ L := by decide)
    (hdb : (x == ("__debug__" : Str)) = false := by decide) (hcd : (x == ("__classdict__" : Str)) = false := by decide) (hdb' : (y == ("__debug__" : Str)) = false := by decide) (hcd' : (y == ("__classdict__" : Str)) = false := by decide)
    (hbase : attributeBase (.Name x px) "append" X.env (eval (.Name x px) X.env) = eval (.Name x px) X.env := by rfl)
    (hfew : ((backTo cp (starEach [.Call (.Attribute (.Name y py) "pop" bp) [e] [] dp] X.env)).all (fun x => !x.1) && (backToKw cp (keywordEach [] X.env)).all (fun x => x.1.isSome)
      && decide ([Expr.Call (.Attribute (.Name y py) "pop" bp) [e] [] dp].length + ([] : List Keyword).length + (if ([] : List Keyword).isEmpty then 0 else 1) < 30)) = true := by rfl)
    (hline : (ap.endLine == cp.line) = true := by rfl) (hs : starEach [.Call (.Attribute (.Name y py) "pop" bp) [e] [] dp] X.env = (false, eval (.Call (.Attribute (.Name y py) "pop" bp) [e] [] dp) X.env) :: starEach [] X.env := by rfl) (hplain : (backTo cp (starEach [] X.env)).any (·.1) = false := by rfl)
    (hbase' : attributeBase (.Name y py) "pop" X.env (eval (.Name y py) X.env) = eval (.Name y py) X.env := by rfl)
    (hfew' : ((backTo dp (starEach [e] X.env)).all (fun x => !x.1) && (backToKw dp (keywordEach [] X.env)).all (fun x => x.1.isSome)
      && decide ([e].length + ([] : List Keyword).length + (if ([] : List Keyword).isEmpty then 0 else 1) < 30)) = true := by rfl)
    (hline' : (bp.endLine == dp.line) = true := by rfl) (hs' : starEach [e] X.env = (false, eval e X.env) :: starEach [] X.env := by rfl) (hplain' : (backTo dp (starEach [] X.env)).any (·.1) = false := by rfl)
    (hsw : swapsWith (.Call (.Attribute (.Name x px) "append" ap) [.Call (.Attribute (.Name y py) "pop" bp) [e] [] dp] [] cp) none pos.line X.env = pure false := by rfl) :
    SX X W sc Γ (.Expr (.Call (.Attribute (.Name x px) "append" ap) [.Call (.Attribute (.Name y py) "pop" bp) [e] [] dp] [] cp) pos) (sAppPop i j se)
      ((killK n ((killK n' Γ).set j (.lab (some n') L' nd'))).set i (.lab (some n) L nd)) := by
  obtain ⟨t, pt, kk⟩ := he
  refine ⟨_, ps_expr (pe_bm PySem.F.plainAttrs_list PySem.F.slot_list_append PySem.F.type_list_append mt_append (pe_var hN hv hdb hcd)
    (pa_cons (pe_bm PySem.F.plainAttrs_list PySem.F.slot_list_pop PySem.F.type_list_pop mt_popAt (pe_var hN' hv' hdb' hcd') (pa_cons pt pa_nil hs') hbase' hfew' hline' hs' hplain') pa_nil hs) hbase hfew hline hs hplain) hsw, fun P g ρ σ H o De s e w => ?_⟩
  obtain ⟨yl, e1, e⟩ := bind_some e
  obtain ⟨k, e2, e⟩ := bind_some e
  obtain ⟨pr, e4, e⟩ := bind_some e
  obtain ⟨xl, e3, e⟩ := bind_some e
  obtain ⟨z, e5, e⟩ := bind_some e
  cases e
  unfold dPopAt at e4
  split at e4
  · rename_i l k _
    obtain ⟨q, eq, e4⟩ := bind_some e4
    obtain ⟨d, ed, e4⟩ := bind_some e4
    split at e4
    · rename_i hc
      cases e4
      rw [Bool.and_eq_true, decide_eq_true_eq] at hc
      replace e5 : dPush xl d = some z := e5
      unfold dPush at e5
      split at e5
      case h_2 => cases e5
      rename_i r
      split at e5
      case isFalse => cases e5
      rename_i hlr
      cases e5
      obtain ⟨l0, ov, h1, h2, h3⟩ := s.cells.get hki
      rw [e3] at h1; cases h1
      obtain ⟨a, vs, f, rfl, ha, rl, hga, haf, oldf, ndf⟩ := slot_lst h3
      obtain ⟨l1, ov', h1', h2', h3'⟩ := s.cells.get hkj
      rw [e1] at h1'; cases h1'
      obtain ⟨b, us, f', rfl, hb, rl', hgb, hbf, oldf', ndf'⟩ := slot_lst h3'
      have hab : b ≠ a := fun z => hnn (by rw [← hga, ← hgb, z])
      refine ⟨.ref a, h2, .inl ⟨rfl, _, .inl (.inl ha)⟩, ?_⟩
      refine ⟨.ref b, h2', .inl ⟨rfl, _, .inl (.inl hb)⟩, ?_⟩
      refine kk P g ρ σ H _ _ s e2 fun v H2 x2 wv => ?_
      obtain ⟨fk, rk, _⟩ := wv.labs
      obtain rfl := rInt rk
      have ha2 : H2 a = some (.lst vs) := x2 a _ ha
      have hb2 : H2 b = some (.lst us) := x2 b _ hb
      obtain ⟨v, ev, rv, re⟩ := repL_erase (rl'.ext x2) ed hc.1
      have hrange : -(2 ^ 63) ≤ k ∧ k < 2 ^ 63 := by
        have hl := hc.2
        obtain ⟨_, h1, h2, h3⟩ := ixN_seq eq
        omega
      refine ⟨b, us, k, q, v, rfl, rfl, hb2, hrange.1, hrange.2, by rw [rl'.length]; exact (ixN_seq eq).1, ev, ?_⟩
      have st2 : Sta X.vm P sc.LL Γ (relab g H H2 .non 1 1) ρ σ H2 := s.relab x2
      have hg2 : ∀ c, H c ≠ none → relab g H H2 .non 1 1 c = g c := fun c hc => relab_old hc
      have hgb2 : relab g H H2 .non 1 1 b = n' := by rw [hg2 b (by rw [hb]; simp)]; exact hgb
      have hga2 : relab g H H2 .non 1 1 a = n := by rw [hg2 a (by rw [ha]; simp)]; exact hga
      obtain ⟨s3, st3⟩ := st2.put (i := j) (o' := .lst (us.eraseIdx q)) hb2 trivial trivial hgb2 hn' hL' h2' (lst_cell hn' upd_same (repL_upd re hbf hb2 trivial) hgb2 hbf (fun c hc => Old.relab (oldf' c hc) s.loc) ndf')
      have ha3 : upd H2 b (.lst (us.eraseIdx q)) a = some (.lst vs) := by rw [upd_ne (Ne.symm hab)]; exact ha2
      refine ⟨a, vs, v, rfl, rfl, ha3, ?_, ?_⟩
      · rw [rl.length, sizeLine_eq]; omega
      have hbf3 : b ∉ f := fun hm => by
        have := (oldf b hm).1
        rw [hgb] at this
        exact hnL this
      have rl3 : RepL X.vm (upd H2 b (.lst (us.eraseIdx q))) r vs f := repL_upd (rl.ext x2) hbf3 hb2 trivial
      have rn : RepL X.vm (upd (upd H2 b (.lst (us.eraseIdx q))) a (.lst (vs ++ [v]))) (r ++ [d]) (vs ++ [v]) f := by
        have := (repL_upd rl3 haf ha3 trivial (o' := .lst (vs ++ [v]))).append (.one (rep_upd (rep_upd rv (by simp) hb2 trivial (o' := .lst (us.eraseIdx q))) (by simp) ha3 trivial (o' := .lst (vs ++ [v]))))
        rw [List.append_nil] at this
        exact this
      obtain ⟨s4, st4⟩ := s3.put (i := i) (o' := .lst (vs ++ [v])) ha3 trivial trivial hga2 hn hL h2 (lst_cell hn upd_same rn hga2 haf (fun c hc => Old.relab (oldf c hc) s.loc) ndf)
      exact w _ σ _ (((Step.relab x2).trans st3).trans st4) s4
    · cases e4
  · cases e4

/-! ### x[a], y[b] = a pair of flat things -/
/-- a store of a flat thing -/
def SG (X : Cx) (LL : List Nat) (Γ : List Kd) (tg : Expr) (sem : Tv) (Γ' : List Kd) : Prop :=
  ∃ t, PG X tg t ∧ ∀ P g ρ σ H d v ρ' (Q : L2.St → Hp → Prop), Sta X.vm P LL Γ g ρ σ H → Rep X.vm H d v [] → sem d ρ = some ρ' →
    (∀ g' H', Sta X.vm P LL Γ' g' ρ' σ H' → Step LL g H g' H' → (∀ d v, Rep X.vm H d v [] → Rep X.vm H' d v []) → Q σ H') → t v σ H Q
def gPut (i : Nat) (j : Ev) : Tv := fun d ρ => do
  let k ← j ρ
  let l ← ρ[i]?
  let z ← lPut l k d
  some (ρ.set i z)
theorem sg_lput {i : Nat} {x : Str} {px pos' : Pos} {LL : List Nat} {j : Expr} {sj : Ev} {mj : Md} {n : Nat} {L : List Nat} {nd : Bool} (hk : Γ[i]? = some (.lab (some n) L nd)) (hN : X.N[i]? = some x) (hv : Vis X.env.scope x)
    (hj : EX X LL Γ j sj mj) (hn : n ≠ 0 := by decide) (hL : n ∉ LL := by decide) (hdb : (x == ("__debug__" : Str)) = false := by decide) (hcd : (x == ("__classdict__" : Str)) = false := by decide)
    (ha : ∀ v, assign (.Subscript (.Name x px) j pos') X.env v = (do
      let ov ← holding [v] (eval (.Name x px) X.env)
      let iv ← holding [v, ov] (eval j X.env)
      standAt pos'
      holding [v, ov, iv] (setItem ov iv v)
      release [v, ov, iv] []) := by intro _; rfl) :
    SG X LL Γ (.Subscript (.Name x px) j pos') (gPut i sj) ((killK n Γ).set i (.lab (some n) L nd)) := by
  obtain ⟨tj, pj, kj⟩ := hj
  refine ⟨_, pg_sub (pe_var hN hv hdb hcd) pj L2.set_list ha, fun P g ρ σ H d y ρ' Q s ry e q => ?_⟩
  obtain ⟨xk, e2, e⟩ := bind_some e
  obtain ⟨dd, e3, e⟩ := bind_some e
  obtain ⟨z, e4, e⟩ := bind_some e
  cases e
  obtain ⟨l', ov, h1, h2, h3⟩ := s.cells.get hk
  rw [e3] at h1; cases h1
  unfold lPut at e4
  split at e4
  · rename_i l k eq0
    simp only [Option.map_eq_some_iff] at e4
    obtain ⟨jj, ej, rfl⟩ := e4
    obtain ⟨a, vs, f, rfl, ha0, rl, hga, haf, oldf, ndf⟩ := slot_lst h3
    refine ⟨.ref a, h2, ?_⟩
    refine kj P g ρ σ H _ _ s e2 fun yk H3 x3 wk => ?_
    obtain ⟨fk, rk, _⟩ := wk.labs
    obtain rfl := rInt rk
    have ha3 : H3 a = some (.lst vs) := x3 a _ ha0
    have hjl : jj < l.length := (ixN_seq ej).2.1
    refine ⟨a, vs, _, jj, rfl, rfl, ha3, by rw [rl.length]; exact ej, ?_⟩
    obtain ⟨f', g1, g2, g3⟩ := repL_set (Rep.ext ry x3) (rl.ext x3) hjl
    have hf' : ∀ b ∈ f', b ∈ f := fun b hb => (g2 b hb).elim id fun h => nomatch h
    have haf' : a ∉ f' := fun hm => haf (hf' a hm)
    have st2 : Sta X.vm P LL Γ (relab g H H3 .non 1 1) ρ σ H3 := s.relab x3
    have hg2 : relab g H H3 .non 1 1 a = n := by rw [relab_old (by rw [ha0]; simp)]; exact hga
    obtain ⟨s3, st3⟩ := st2.put (o' := .lst (vs.set jj y)) ha3 trivial trivial hg2 hn hL h2 (lst_cell hn upd_same (repL_upd g1 haf' ha3 trivial) hg2 haf' (fun c hc => Old.relab (oldf c (hf' c hc)) s.loc) (fun h => g3 (ndf h) List.nodup_nil (fun b _ h => nomatch h)))
    exact q _ _ s3 ((Step.relab x3).trans st3) fun d v r => rep_upd (Rep.ext r x3) (by simp) ha3 trivial
  · cases e4
def sPut2 (t u : Tv) (e : Ev) : Sv := fun ρ => do
  let d ← e ρ
  match d with
  | .tup [a, b] => do
    let ρ1 ← t a ρ
    let ρ2 ← u b ρ1
    some (.nx ρ2)
  | _ => none
theorem sx_put2 {tg tg' e : Expr} {cc : Nat} {tp : Pos} {se : Ev} {t u : Tv} {Γ1 Γ2 : List Kd} (hc : X.calm = true) (he : EX X sc.LL Γ e se .flat) (h1 : SG X sc.LL Γ tg t Γ1) (h2 : SG X sc.LL Γ1 tg' u Γ2)
    (hs : swapsWithSole [.Tuple [tg, tg'] cc tp] e pos.line X.env = pure false := by rfl) (hw : swappedStores [.Tuple [tg, tg'] cc tp] e X.env = pure none := by rfl)
    (ha : (assignEach [.Tuple [tg, tg'] cc tp] X.env).map (·.2) = [assign (.Tuple [tg, tg'] cc tp) X.env] := by rfl)
    (hs1 : (assignEach [tg, tg'] X.env).map (·.2) = assign tg X.env :: (assignEach [tg'] X.env).map (·.2) := by rfl) (hs2 : (assignEach [tg'] X.env).map (·.2) = assign tg' X.env :: (assignEach [] X.env).map (·.2) := by rfl)
    (hst : (assignEach [tg, tg'] X.env).findIdx? (·.1) = none := by rfl) (hl : (assignEach [tg, tg'] X.env).length = 2 := by rfl) :
    SX X W sc Γ (.Assign [.Tuple [tg, tg'] cc tp] e pos) (sPut2 t u se) Γ2 := by
  obtain ⟨te, pe, kk⟩ := he
  obtain ⟨t1, p1, k1⟩ := h1
  obtain ⟨t2, p2, k2⟩ := h2
  refine ⟨_, ps_asg pe (pg_tup hc (pgs_cons p1 (pgs_cons p2 pgs_nil hs2) hs1) hl hst) hs hw ha, fun P g ρ σ H o D s e w => ?_⟩
  obtain ⟨d, e1, e⟩ := bind_some e
  refine kk P g ρ σ H d _ s e1 fun v H1 x1 r => ?_
  split at e
  · rename_i a b
    obtain ⟨ρ1, e2, e⟩ := bind_some e
    obtain ⟨ρ2, e3, e⟩ := bind_some e
    cases e
    replace r : Rep X.vm H1 (.tup [a, b]) v [] := r
    simp only [Rep, RepL] at r
    obtain ⟨c, vs, rfl, hq, va, r1, f1, f2, rfl, ra, ⟨vb, r2, f3, f4, rfl, rb, ⟨rfl, rfl⟩, rfl⟩, ef⟩ := r
    have hf := ef.symm
    simp only [List.append_eq_nil_iff] at hf
    obtain ⟨rfl, rfl, _⟩ := hf
    refine ⟨c, [va, vb], rfl, .inl (.inl hq), rfl, ?_⟩
    refine ⟨va, [vb], rfl, ?_⟩
    have s1 : Sta X.vm P sc.LL Γ (relab g H H1 .non 1 1) ρ σ H1 := s.relab x1
    refine k1 P _ ρ σ H1 a va ρ1 _ s1 ra e2 fun g' H' s2 st2 kp => ?_
    refine ⟨vb, [], rfl, ?_⟩
    refine k2 P g' ρ1 σ H' b vb ρ2 _ s2 (kp b vb rb) e3 fun g3 H3 s3 st3 _ => ?_
    exact ⟨rfl, w _ σ _ (((Step.relab x1).trans st2).trans st3) s3⟩
  · cases e

/-! ### t * n, sorted(d) -/
def dRepT : List D → Option D
  | [.tup l, .int k] => if D.isFlatL l && decide (l ≠ []) && decide (0 ≤ k ∧ k ≤ 1000 ∧ l.length ≤ 1000) then some (.tup (List.replicate k.toNat l).flatten) else none
  | _ => none
end
section
variable {X : Cx} {LL : List Nat} {Γ : List Kd} {pos p : Pos} {a b : Expr} {sa sb : Ev} {ma mb : Md}
def keysI : List Ky → Option (List Int)
  | [] => some []
  | .k (.inl i) :: r => (keysI r).map (i :: ·)
  | _ :: _ => none
theorem keysI_of : ∀ {ks : List Ky} {ns : List Int}, keysI ks = some ns → ks = ns.map fun i => Ky.k (.inl i)
  | [], _, e => by cases e; rfl
  | k :: r, _, e => by
    unfold keysI at e
    split at e
    · rename_i e0; cases e0
    · rename_i e0
      simp only [Option.map_eq_some_iff] at e
      obtain ⟨ns, e1, rfl⟩ := e
      cases e0
      rw [keysI_of e1]; rfl
    · cases e
def srtI (ns : List Int) : List Int := ns.mergeSort fun i j => decide (i ≤ j)
def dSortK : List D → Option D
  | [.dic false ks _] => (keysI ks).bind fun ns => if ns.length < 64 then some (.lst ((srtI ns).map D.int)) else none
  | _ => none
theorem srtI_uniq {ns ys : List Int} (h1 : ys.Perm ns) (h2 : ys.Pairwise (· ≤ ·)) : ys = srtI ns := by
  have p : ys.Perm (srtI ns) := h1.trans (List.mergeSort_perm ns _).symm
  refine p.eq_of_pairwise (le := (· ≤ ·)) (fun a b _ _ h h' => Int.le_antisymm h h') h2 ?_
  have := List.pairwise_mergeSort (le := fun i j : Int => decide (i ≤ j)) (fun a b c h1 h2 => by simp at *; omega) (fun a b => by simp; omega) ns
  exact this.imp fun h => by simpa using h
theorem ex_sortK (hc : X.calm = true) {x : Str} (hg : Gl X x) (hm : X.mg x = none) (hv : bootBuiltins x = some (.builtin "sorted")) (ha : EX X LL Γ a sa ma) (hn : x ≠ "__name__" := by decide) (hdb : (x == ("__debug__" : Str)) = false := by decide)
    (he : starEach [a] X.env = (false, eval a X.env) :: starEach [] X.env := by rfl) : EX X LL Γ (.Call (.Name x p) [a] [] pos) (eP dSortK (aCons sa aNil)) (.al false .new [] true) := by
  obtain ⟨t, pt, k⟩ := ha
  refine ⟨_, pe_callB (call_sortedDI hc) hg hm hv (pa_cons pt pa_nil he) hn hdb he, fun P g ρ σ H d Q s e q => ?_⟩
  obtain ⟨ds, e1, e⟩ := bind_some e
  refine one_arg k s e1 fun d0 v H1 eds x1 w => ?_
  subst eds
  unfold dSortK at e
  split at e
  · rename_i ks l eq
    cases eq
    obtain ⟨ns, en, e⟩ := bind_some e
    split at e
    · rename_i h64
      cases e
      obtain ⟨fp, r, _⟩ := w.labs
      simp only [Rep] at r
      obtain ⟨a1, vs, f, rfl, rd, rl, rfl⟩ := r
      obtain ⟨⟨hl, _⟩, kl, ek, rd⟩ := rd
      have e2 := keysI_of en
      have e3 : kl = ns.map Sum.inl := by
        have : kl.map Ky.k = (ns.map Sum.inl).map Ky.k := by rw [← ek, e2, List.map_map]; rfl
        exact (List.map_inj_right (fun a b h => by cases h; rfl)).mp this
      subst e3
      have hl2 : (ns.map (Sum.inl : Int → L2.Key)).length = vs.length := by rw [← hl, ek, List.length_map, List.length_map, List.length_map]
      refine ⟨a1, _, ns, rfl, rd, ?_, h64, fun ys z hp hs hz => ?_⟩
      · rw [List.map_fst_zip (Nat.le_of_eq hl2)]
      · rw [srtI_uniq hp hs]
        exact q _ _ (x1.trans (Ext.put hz)) (val_lst (m := .flat) ⟨[], repL_ints _, rfl⟩ x1 hz)
    · cases e
  · cases e
end
end VV

/-! ## VMul -/
/-! t * n of a tuple of flat things, n from 0 on -/
namespace VV
open PySem PySem.Spec PyProof.Rows L2
theorem tup_mul1 (l : Addr) (items : Array Value) (n : Nat) (dd : Option Addr) (sl : Array (Option Value)) (u : Tok) :
    Meets (Builtin.«tuple.__mul__» ⟨[.ref l, .int 1 u], []⟩) (fun _ R s => s.heap.get? l = some { cls := .type "tuple", dict := dd, data := .seq items n, slots := sl } ∧ R (.ok (.ret (Value.ref l))) s) :=
  .of_wp fun prog w A R s h => by
    obtain ⟨hp, g, d, tk, os⟩ := s
    obtain ⟨hl, h⟩ := h
    have f1 := AutoSeq1.idx_int
    wp_walk using wpAny_loadPart' hl
    exact ⟨_, rfl, h⟩
theorem tup_mul0 (l : Addr) (items : Array Value) (n : Nat) (dd : Option Addr) (sl : Array (Option Value)) (u : Tok) (hne : items.isEmpty = false) :
    Meets (Builtin.«tuple.__mul__» ⟨[.ref l, .int 0 u], []⟩) (fun _ R s => s.heap.get? l = some { cls := .type "tuple", dict := dd, data := .seq items n, slots := sl } ∧ R (.ok (.ret (Value.ref s.heap.objs.size))) { s with heap := s.heap.push { cls := Value.type "tuple", data := Data.seq #[] } }) :=
  .of_wp fun prog w A R s h => by
    obtain ⟨hp, g, d, tk, os⟩ := s
    obtain ⟨hl, h⟩ := h
    have f1 := AutoSeq1.idx_int
    wp_walk using wpAny_loadPart' hl
    exact ⟨_, rfl, h⟩
def rRepA (K : PySem.W.Frag) : R2 := fun x y H Q => ∃ l k xs, x = .ref l ∧ y = .int k ∧ SqT K H l xs ∧ xs ≠ [] ∧ 0 ≤ k ∧ k ≤ 1000 ∧ xs.length ≤ 1000 ∧ (k = 1 → Q (.ref l) H) ∧ (k ≠ 1 → ∀ p, H p = none → Q (.ref p) (upd H p (.tup (List.replicate k.toNat xs).flatten)))
section
variable {X : Cx}
theorem op_repA : OpR X (binaryOp .Mult) (rRepA X.K) := by
  intro pins s σ H x y v u Q I rx ry h
  obtain ⟨l, k, xs, rfl, rfl, hT, hne, h0, h2, hz, q1, q⟩ := h
  by_cases h1 : 2 ≤ k
  · exact op_repT pins s σ H _ _ v u Q I rx ry ⟨l, k, xs, rfl, rfl, hT, hne, h1, h2, hz, q (by omega)⟩
  · cases rx
    obtain ⟨t, rfl⟩ := ry
    obtain ⟨its, r, ⟨⟨cls, dd, data, sl⟩, ho, hc, n, hd⟩, hs⟩ := I.tuple hT
    simp only at hc hd
    subst hc hd
    refine wpAny_binaryOp_repeat_ref (T := "tuple") (U := "int") (by decide) ⟨_, ho, rfl⟩ (fun s' => typeIs_int s' k t) noFill_tuple_mul F.fills_int_mul F.slot_int_rmul repeat_tuple F.slot_int_index.lookup
      (call_meets F.slot_int_rmul (typeIs_int s k t) F.entry_int_rmul (F.args_int_rmul_2 _ _) (int_rmul_tuple k t l its.toArray n dd sl) ⟨ho, rfl, ⟨_, ho, rfl⟩, ?_⟩)
    have hk : k = 0 ∨ k = 1 := by omega
    rcases hk with rfl | rfl
    · have hi : its.toArray.isEmpty = false := by
        have hle : its.length = xs.length := r.length.symm
        cases its with
        | nil => exact absurd (List.eq_nil_of_length_eq_zero hle.symm) hne
        | cons a b => rfl
      refine call_meets F.slot_tuple_mul ⟨_, ho, rfl⟩ F.entry_tuple_mul (F.args_tuple_mul_2 _ _) (tup_mul0 l its.toArray n dd sl t hi) ⟨ho, ?_⟩
      exact ⟨.ref s.heap.objs.size, _, I.laid (t' := s.toks) (o := .tup []) (fun b ob q => Heap.get?_push_of_some _ q) (Nat.le_refl _) ⟨by simp, [], .nil, IsTup.new _ _⟩, rfl, by simpa using q (by decide) _ (I.hok.fresh (Nat.le_refl _))⟩
    · refine call_meets F.slot_tuple_mul ⟨_, ho, rfl⟩ F.entry_tuple_mul (F.args_tuple_mul_2 _ _) (tup_mul1 l its.toArray n dd sl t) ⟨ho, ?_⟩
      exact ⟨.ref l, H, I, rfl, q1 rfl⟩
theorem flat_rep {mg : Mg} {H : Hp} {l : List D} {vs : List V} (h : RepL mg H l vs []) : ∀ k : Nat, RepL mg H (List.replicate k l).flatten (List.replicate k vs).flatten []
  | 0 => by simp [RepL]
  | k + 1 => by
    rw [List.replicate_succ, List.replicate_succ, List.flatten_cons, List.flatten_cons]
    have := h.append (flat_rep h k)
    rwa [List.append_nil] at this
variable {LL : List Nat} {Γ : List Kd} {pos p : Pos} {a b : Expr} {sa sb : Ev} {ma mb : Md}
theorem ex_repT (ha : EX X LL Γ a sa ma) (hb : EX X LL Γ b sb mb) : EX X LL Γ (.BinOp a .Mult b pos) (eP dRepT (aCons sa (aCons sb aNil))) .flat := by
  obtain ⟨ta, tb, pa, pb, k⟩ := two ha hb
  refine ⟨_, pe_op op_repA pa pb, fun P g ρ σ H d Q s e q => ?_⟩
  obtain ⟨ds, e1, e⟩ := bind_some e
  refine k P g ρ σ H ds _ s e1 fun d1 d2 v w H' eds x va vb vl => ?_
  subst eds
  unfold dRepT at e
  split at e
  · rename_i l i eq
    cases eq
    split at e
    · rename_i hc
      cases e
      simp only [Bool.and_eq_true, decide_eq_true_eq] at hc
      obtain ⟨⟨hf, hne⟩, h0, h1, h2⟩ := hc
      obtain ⟨c, vs, rfl, hv, hlen, _, fl, rl, _⟩ := seq_ofT va
      obtain ⟨fk, rk, _⟩ := vb.labs
      obtain rfl := rInt rk
      have rf := rl.flats hf
      refine ⟨c, i, vs, rfl, rfl, .inl (.inl hv), fun z => hne (List.eq_nil_of_length_eq_zero (by rw [← hlen, z]; rfl)), h0, h1, by rw [hlen]; exact h2, fun z => ?_, fun _ p hp => ?_⟩
      · subst z
        refine q _ H' x (val_flat ?_)
        have e : (List.replicate (1 : Int).toNat l).flatten = l := by simp
        rw [e]
        simp only [Rep]
        exact ⟨c, vs, rfl, hv, rf⟩
      · exact q _ _ (x.trans (Ext.put hp)) (val_tup (m := .flat) ⟨[], flat_rep rf _, rfl⟩ hp)
    · cases e
  · cases e
end
end VV

/-! ## VSetApp -/
/-! d.setdefault(k, []).append(v), v flat -/
namespace VV
open PySem PySem.Spec PyProof.Rows L2
def dSetD : D → D → Option D
  | .dic false ks ds, x => (x.ky false).bind fun k => if ks.length < 1000000 then (match lkD ks ds k with
    | some (.lst _) => some (.dic false ks ds)
    | some _ => none
    | none => some (.dic false (putKs ks k) (putDs ks ds k (.lst [])))) else none
  | _, _ => none
def dApp : D → D → D → Option D
  | .dic false ks ds, x, y => (x.ky false).bind fun k => match lkD ks ds k with
    | some (.lst r) => if y.isFlat && decide (r.length < 1000000) then some (.dic false ks (putDs ks ds k (.lst (r ++ [y])))) else none
    | _ => none
  | _, _, _ => none
def sSetApp (i : Nat) (ke ve : Ev) : Sv := fun ρ => do
  let d ← ρ[i]?
  let x ← ke ρ
  let d1 ← dSetD d x
  let y ← ve (ρ.set i d1)
  let z ← dApp d1 x y
  some (.nx (ρ.set i z))
def killL (ns : List Nat) (Γ : List Kd) : List Kd := Γ.map fun k => if ns.any (fun n => k.has n) then .dead else k
section
variable {mg : Mg} {P : Fm} {g : Addr → Nat} {H : Hp}
theorem Cells.weak : ∀ {Γ Γ' : List Kd} {ρ : List D} {σ : L2.St}, Cells mg P g H Γ ρ σ → Γ'.length = Γ.length → (∀ j : Nat, Γ'[j]? = Γ[j]? ∨ Γ'[j]? = some Kd.dead) → Cells mg P g H Γ' ρ σ
  | [], [], [], [], _, _, _ => trivial
  | k :: Γ, k' :: Γ', _ :: _, _ :: _, h, hl, hw => by
    refine ⟨?_, Cells.weak h.2 (by simpa using hl) fun j => by simpa using hw (j + 1)⟩
    rcases hw 0 with e | e
    · simp at e; subst e; exact h.1
    · simp at e; subst e; trivial
  | [], _ :: _, _, _, _, hl, _ => by simp at hl
  | _ :: _, [], _, _, _, hl, _ => by simp at hl
  | [], [], _ :: _, _, h, _, _ => h.elim
  | [], [], [], _ :: _, h, _, _ => h.elim
  | _ :: _, _ :: _, [], _, h, _, _ => h.elim
  | _ :: _, _ :: _, _ :: _, [], h, _, _ => h.elim
theorem Cells.killK {n : Nat} : ∀ {Γ : List Kd} {ρ : List D} {σ : L2.St}, Cells mg P g H Γ ρ σ → Cells mg P g H (VV.killK n Γ) ρ σ
  | [], [], [], _ => trivial
  | k :: _, _ :: _, _ :: _, h => by
    refine ⟨?_, Cells.killK h.2⟩
    show CellOk mg P g H (if k.has n then .dead else k) _ _
    split
    · trivial
    · exact h.1
  | [], _ :: _, _, h => h.elim
  | [], [], _ :: _, h => h.elim
  | _ :: _, [], _, h => h.elim
  | _ :: _, _ :: _, [], h => h.elim
theorem lk_snoc {ks : List Ky} {ds : List D} {k : Ky} {d : D} (hl : ks.length = ds.length) (h : k ∉ ks) : lkD (ks ++ [k]) (ds ++ [d]) k = some d := by
  unfold lkD
  rw [List.zip_append hl, List.find?_append]
  have : (ks.zip ds).find? (fun p => decide (p.1 = k)) = none := by
    rw [List.find?_eq_none]
    intro p hp e
    simp at e
    exact h (e ▸ (List.of_mem_zip hp).1)
  rw [this]
  simp
theorem kill_weak {n l i : Nat} {ns : List Nat} {Γ : List Kd} {k k' : Kd} (hn : n ∈ ns) (hl : l ∈ ns) (j : Nat) : ((killL ns Γ).set i k)[j]? = ((killK l ((killK n Γ).set i k')).set i k)[j]? ∨ ((killL ns Γ).set i k)[j]? = some Kd.dead := by
  by_cases hj : i = j
  · subst hj
    left
    rw [List.getElem?_set, List.getElem?_set]
    simp [killL, killK]
  · rw [List.getElem?_set_ne hj, List.getElem?_set_ne hj]
    unfold killL killK
    rw [List.getElem?_map, List.getElem?_map, List.getElem?_set_ne hj, List.getElem?_map]
    cases Γ[j]? with
    | none => left; rfl
    | some q =>
      simp only [Option.map_some]
      by_cases h : ns.any (fun n => q.has n) = true
      · right; rw [if_pos h]
      · left
        have h1 : q.has n = false := by
          cases e : q.has n with
          | false => rfl
          | true => exact absurd (List.any_eq_true.mpr ⟨n, hn, e⟩) h
        have h2 : q.has l = false := by
          cases e : q.has l with
          | false => rfl
          | true => exact absurd (List.any_eq_true.mpr ⟨l, hl, e⟩) h
        rw [if_neg h]
        simp [h1, h2]
theorem putDs_cons_ne {k0 k : Ky} {ks : List Ky} {d0 d : D} {ds : List D} (hk : k0 ≠ k) (hm : k ∈ ks) : putDs (k0 :: ks) (d0 :: ds) k d = d0 :: putDs ks ds k d := by
  unfold putDs
  rw [if_pos (List.mem_cons_of_mem _ hm), if_pos hm]
  simp [hk]
theorem lkD_mem {k : Ky} {d : D} : ∀ {ks : List Ky} {ds : List D}, lkD ks ds k = some d → k ∈ ks
  | [], _, e => by simp [lkD] at e
  | k0 :: ks, [], e => by simp [lkD] at e
  | k0 :: ks, d0 :: ds, e => by
    by_cases h : k0 = k
    · subst h; exact List.mem_cons_self
    · refine List.mem_cons_of_mem _ (lkD_mem (ds := ds) (d := d) ?_)
      simp only [lkD, List.zip_cons_cons, List.find?_cons, h, decide_false] at e
      exact e
/-- the list that stands at a key -/
theorem repL_at {x : L2.Key} : ∀ {kl : List L2.Key} {ds : List D} {vs : List V} {f : List Addr} {r : List D}, kl.length = vs.length → kl.Nodup → RepL mg H ds vs f → lkD (kl.map Ky.k) ds (Ky.k x) = some (.lst r) → f.Nodup →
    ∃ b us, valV (kl.zip vs) x = some (.ref b) ∧ H b = some (.lst us) ∧ us.length = r.length ∧ b ∈ f ∧ ∀ (y : V) (d : D), Rep mg H d y [] → RepL mg (upd H b (.lst (us ++ [y]))) (putDs (kl.map Ky.k) ds (Ky.k x) (.lst (r ++ [d]))) vs f
  | [], _, _, _, _, _, _, _, e, _ => by simp [lkD] at e
  | k0 :: kl, [], _, _, _, _, _, _, e, _ => by simp [lkD] at e
  | k0 :: kl, d0 :: ds, _, _, r, hl, hn, h, e, hf => by
    simp only [RepL] at h
    obtain ⟨v, r0, f1, f2, rfl, h1, h2, rfl⟩ := h
    have hl2 : kl.length = r0.length := by simpa using hl
    obtain ⟨hn1, hn2⟩ := List.nodup_cons.mp hn
    obtain ⟨nf1, nf2, dj⟩ := List.nodup_append.mp hf
    by_cases hk : k0 = x
    · subst hk
      simp only [List.map_cons, lkD, List.zip_cons_cons, List.find?_cons, decide_true, Option.map_some, Option.some.injEq] at e
      subst e
      simp only [Rep] at h1
      obtain ⟨b, us, fr, rfl, hb, rr, rfl⟩ := h1
      obtain ⟨hbf, nfr⟩ := List.nodup_cons.mp nf1
      have hb2 : b ∉ f2 := fun hm => dj b List.mem_cons_self b hm rfl
      refine ⟨b, us, valV_pos rfl, hb, rr.length, List.mem_append_left _ List.mem_cons_self, fun y d ry => ?_⟩
      have e1 : putDs ((k0 :: kl).map Ky.k) (.lst r :: ds) (Ky.k k0) (.lst (r ++ [d])) = .lst (r ++ [d]) :: ds := by
        unfold putDs
        rw [if_pos (by simp)]
        simp only [List.map_cons, List.zip_cons_cons, List.map_cons, if_true]
        congr 1
        refine zip_id ?_ fun hm => hn1 ?_
        · rw [List.length_map, hl2, h2.length]
        · obtain ⟨z, hz, ez⟩ := List.mem_map.mp hm
          cases ez; exact hz
      rw [e1]
      simp only [RepL]
      refine ⟨.ref b, r0, b :: fr, f2, rfl, ?_, repL_upd h2 hb2 hb trivial, rfl⟩
      simp only [Rep]
      have := (repL_upd rr hbf hb trivial (o' := .lst (us ++ [y]))).append (.one (rep_upd ry (by simp) hb trivial (o' := .lst (us ++ [y]))))
      rw [List.append_nil] at this
      exact ⟨b, us ++ [y], fr, rfl, upd_same, this, rfl⟩
    · have hk' : Ky.k k0 ≠ Ky.k x := fun z => hk (by cases z; rfl)
      simp only [List.map_cons, lkD, List.zip_cons_cons, List.find?_cons, hk', decide_false] at e
      obtain ⟨b, us, e1, hb, hlen, hm, hh⟩ := repL_at hl2 hn2 h2 e nf2
      have hb1 : b ∉ f1 := fun hm1 => dj b hm1 b hm rfl
      refine ⟨b, us, (valV_neg (by exact hk)).trans e1, hb, hlen, List.mem_append_right _ hm, fun y d ry => ?_⟩
      rw [List.map_cons, putDs_cons_ne hk' (lkD_mem e)]
      simp only [RepL]
      exact ⟨v, r0, f1, f2, rfl, rep_upd h1 hb1 hb trivial, hh y d ry, rfl⟩
end
section
variable {X : Cx} {W : L2.WX} {sc : Sc} {Γ : List Kd} {pos : Pos}
theorem sx_setApp {i : Nat} {x : Str} {px ap bp cp dp lp : Pos} {ke e : Expr} {sk se : Ev} {mk : Md} {n : Nat} {L : List Nat} (c : Nat) (hk : Γ[i]? = some (.lab (some n) L true)) (hN : X.N[i]? = some x) (hv : Vis X.env.scope x)
    (hke : EX X sc.LL Γ ke sk mk) (he : EX X sc.LL ((killK n Γ).set i (.lab (some n) (L ++ [c]) true)) e se .flat)
    (hn : n ≠ 0 := by decide) (hLn : n ∉ sc.LL := by decide) (hL : ∀ l ∈ c :: L, l ≠ 0 ∧ l ∉ sc.LL := by decide) (hcn : c ≠ n := by decide) (hLnn : n ∉ L := by decide) (hdb : (x == ("__debug__" : Str)) = false := by decide) (hcd : (x == ("__classdict__" : Str)) = false := by decide)
    (m2 : M2 X (.Name x px) "setdefault" bp ke (.List [] lp) dp := by exact ⟨rfl, rfl, rfl, rfl⟩)
    (hbase : attributeBase (.Call (.Attribute (.Name x px) "setdefault" bp) [ke, .List [] lp] [] dp) "append" X.env (eval (.Call (.Attribute (.Name x px) "setdefault" bp) [ke, .List [] lp] [] dp) X.env) = eval (.Call (.Attribute (.Name x px) "setdefault" bp) [ke, .List [] lp] [] dp) X.env := by rfl)
    (hfew : ((backTo cp (starEach [e] X.env)).all (fun x => !x.1) && (backToKw cp (keywordEach [] X.env)).all (fun x => x.1.isSome)
      && decide ([e].length + ([] : List Keyword).length + (if ([] : List Keyword).isEmpty then 0 else 1) < 30)) = true := by rfl)
    (hline : (ap.endLine == cp.line) = true := by rfl) (hs : starEach [e] X.env = (false, eval e X.env) :: starEach [] X.env := by rfl) (hplain : (backTo cp (starEach [] X.env)).any (·.1) = false := by rfl)
    (hsw : swapsWith (.Call (.Attribute (.Call (.Attribute (.Name x px) "setdefault" bp) [ke, .List [] lp] [] dp) "append" ap) [e] [] cp) none pos.line X.env = pure false := by rfl) :
    SX X W sc Γ (.Expr (.Call (.Attribute (.Call (.Attribute (.Name x px) "setdefault" bp) [ke, .List [] lp] [] dp) "append" ap) [e] [] cp) pos) (sSetApp i sk se)
      ((killL (n :: c :: L) Γ).set i (.lab (some n) (L ++ [c]) true)) := by
  obtain ⟨tk, pk, kk⟩ := hke
  obtain ⟨te, pe, ke'⟩ := he
  obtain ⟨tl, pl, kl'⟩ := (ex_lst (X := X) (LL := sc.LL) (Γ := Γ) (pos := lp) ea_nil)
  refine ⟨_, ps_expr (pe_bm PySem.F.plainAttrs_list PySem.F.slot_list_append PySem.F.type_list_append mt_append (pe_dsetd (pe_var hN hv hdb hcd) pk pl m2) (pa_cons pe pa_nil hs) hbase hfew hline hs hplain) hsw, fun P g ρ σ H o De s e w => ?_⟩
  obtain ⟨d, e1, e⟩ := bind_some e
  obtain ⟨xk, e2, e⟩ := bind_some e
  obtain ⟨d1, e3, e⟩ := bind_some e
  obtain ⟨y, e4, e⟩ := bind_some e
  obtain ⟨z, e5, e⟩ := bind_some e
  cases e
  obtain ⟨l0, ov, h1, h2, h3⟩ := s.cells.get hk
  rw [e1] at h1; cases h1
  unfold dSetD at e3
  split at e3
  case h_2 => cases e3
  rename_i ks ds x0
  obtain ⟨k, ek, e3⟩ := bind_some e3
  have ek0 := ek
  simp only [D.ky, Option.map_eq_some_iff] at ek
  obtain ⟨k1, ek1, rfl⟩ := ek
  -- the dict
  obtain ⟨v, fp, rfl, r, q, zz⟩ := h3
  simp only [Rep] at r
  obtain ⟨a, vs, f, rfl, ⟨⟨hl, hnd⟩, kl, rfl, rd⟩, rl, rfl⟩ := r
  have hga : g a = n := root_lab q
  have haf : a ∉ f := zz.2 rfl a f rfl rfl
  have nf : f.Nodup := (List.nodup_cons.mp (zz.1 rfl)).2
  have oldf : ∀ b ∈ f, Old P g L b := fun b hb => by
    rcases q b (List.mem_cons_of_mem _ hb) with ⟨e, _⟩ | ⟨_, y⟩
    · cases e; exact absurd hb haf
    · exact y
  obtain ⟨o0, ho0, hmu⟩ := s.loc.at_ a (by rw [hga]; exact hn)
  have hmu : Mut (some o0) := by
    rcases hmu with hmu | hfz
    · exact hmu
    · have := (s.loc.fz a hfz).2
      rw [hga] at this
      exact (this.elim hn hLn).elim
  have ha0 : H a = some (.dK (kl.zip vs)) := by
    rcases rd with r | ⟨w, r⟩
    · exact r
    · rw [ho0] at r; cases r; exact hmu.elim
  have hl2 : kl.length = vs.length := by simpa using hl
  have hnd2 : kl.Nodup := by
    exact (List.pairwise_map.mp hnd).imp fun h e => h (by rw [e])
  refine ⟨.ref a, h2, a, rfl, .inl ⟨_, .inl ha0⟩, ?_⟩
  refine kk P g ρ σ H _ _ s e2 fun yk H2 x2 wk => ?_
  obtain ⟨fk, rk, _⟩ := wk.labs
  obtain rfl := rep_ky1 rk ek1
  refine kl' P g ρ σ H2 (.lst []) _ (s.ext x2) rfl fun yl H3 x3 wl => ?_
  obtain ⟨b0, us0, rfl, hb0, hbn0, rr0⟩ := newflat wl
  obtain rfl : us0 = [] := by
    simp only [RepL] at rr0
    exact rr0.1
  have x23 := x2.trans x3
  have ha3 : H3 a = some (.dK (kl.zip vs)) := x23 a _ ha0
  have hc0 : c ≠ 0 := (hL c List.mem_cons_self).1
  -- what stands behind the setdefault
  have fin : ∀ (kl1 : List L2.Key) (vs1 : List V) (ds1 : List D) (f1 : List Addr) (b : Addr) (H4 : Hp) (r : List D), d1 = .dic false (kl1.map Ky.k) ds1 → kl1.length = vs1.length → kl1.Nodup → H4 a = some (.dK (kl1.zip vs1)) → RepL X.vm H4 ds1 vs1 f1 → f1.Nodup → a ∉ f1 → (∀ b ∈ f1, Old P (relab g H H3 .non c c) (L ++ [c]) b) →
      lkD (kl1.map Ky.k) ds1 (Ky.k k1) = some (.lst r) → valV (kl1.zip vs1) k1 = some (.ref b) → Sta X.vm P sc.LL ((killK n Γ).set i (.lab (some n) (L ++ [c]) true)) (relab g H H3 .non c c) (ρ.set i d1) σ H4 → Step sc.LL g H (relab g H H3 .non c c) H4 →
      tyV X.K "list" (.ref b) H4 ∧ tCons te tNil σ H4 fun xs H5 => rAppend (.ref b) xs H5 fun v H6 => De.nx σ H6 := by
    intro kl1 vs1 ds1 f1 b H4 r ed hl1 hn1 ha4 rl4 nf4 haf4 old4 elk eval s4 st4
    subst ed
    obtain ⟨b', us, ev', hb4, hlen, hbm, hh⟩ := repL_at hl1 hn1 rl4 elk nf4
    rw [eval] at ev'; cases ev'
    refine ⟨.inl ⟨rfl, _, .inl (.inl hb4)⟩, ?_⟩
    refine ke' P _ _ σ H4 y _ s4 e4 fun yv H5 x5 ry => ?_
    have hb5 : H5 b = some (.lst us) := x5 b _ hb4
    have ha5 : H5 a = some (.dK (kl1.zip vs1)) := x5 a _ ha4
    obtain ⟨b'', us', ev'', hb5', hlen', hbm', hh'⟩ := repL_at hl1 hn1 (rl4.ext x5) elk nf4
    rw [eval] at ev''; cases ev''
    rw [hb5] at hb5'; cases hb5'
    simp only [dApp, ek0, Option.bind_some, elk] at e5
    split at e5
    case isFalse => cases e5
    rename_i hc
    cases e5
    rw [Bool.and_eq_true, decide_eq_true_eq] at hc
    refine ⟨b, us, yv, rfl, rfl, hb5, by rw [hlen, sizeLine_eq]; omega, ?_⟩
    have hba : b ≠ a := fun z => haf4 (z ▸ hbm)
    have ob := old4 b hbm
    have hgb : (relab g H H3 .non c c) b ∈ c :: L := by
      have := ob.1
      simp only [List.mem_append, List.mem_singleton] at this
      exact List.mem_cons.mpr (this.symm)
    have hlb := hL _ hgb
    have st5 : Sta X.vm P sc.LL ((killK n Γ).set i (.lab (some n) (L ++ [c]) true)) (relab g H H3 .non c c) (ρ.set i (.dic false (kl1.map Ky.k) ds1)) σ H5 := s4.ext x5
    have hga5 : relab g H H3 .non c c a = n := by rw [relab_old (by rw [ha0]; simp)]; exact hga
    have cell : CellOk X.vm P (relab g H H3 .non c c) (upd H5 b (.lst (us ++ [yv]))) (.lab (some n) (L ++ [c]) true) (.dic false (kl1.map Ky.k) (putDs (kl1.map Ky.k) ds1 (Ky.k k1) (.lst (r ++ [y])))) (some (.ref a)) := by
      refine ⟨.ref a, a :: f1, rfl, ?_, fun c' hc' => ?_, fun _ => List.nodup_cons.mpr ⟨haf4, nf4⟩, fun _ c' g' e1 e2 => by cases e2; exact haf4⟩
      · simp only [Rep]
        refine ⟨a, vs1, f1, rfl, ⟨⟨by rw [List.length_map]; exact hl1, ?_⟩, kl1, rfl, .inl ?_⟩, hh' yv y ry, rfl⟩
        · exact List.pairwise_map.mpr (hn1.imp fun h e => h (ky_k_inj _ _ e))
        · rw [upd_ne (Ne.symm hba)]; exact ha5
      · rcases List.mem_cons.mp hc' with rfl | hc'
        · exact .inl ⟨rfl, n, rfl, by rw [hga5]; exact List.mem_singleton.mpr rfl, fun z => by rw [hga5] at z; exact absurd z hn⟩
        · exact .inr ⟨.inl fun e => by cases e; exact haf4 hc', old4 c' hc'⟩
    obtain ⟨s6, st6⟩ := st5.put (i := i) (o' := .lst (us ++ [yv])) hb5 trivial trivial rfl hlb.1 hlb.2 h2 cell
    refine w _ σ _ ((st4.trans (.ext x5)).trans st6) ⟨s6.loc, ?_⟩
    have := s6.cells
    rw [List.set_set] at this
    refine Cells.weak this (by simp [killL, killK]) fun j => kill_weak List.mem_cons_self (List.mem_cons_of_mem _ hgb) j
  have s3 : Sta X.vm P sc.LL Γ (relab g H H3 .non c c) ρ σ H3 := s.relab x23
  have hga3 : relab g H H3 .non c c a = n := by rw [relab_old (by rw [ha0]; simp)]; exact hga
  have old3 : ∀ b ∈ f, Old P (relab g H H3 .non c c) (L ++ [c]) b := fun b hb => by
    have := Old.relab (H' := H3) (v := .non) (n := c) (m := c) (oldf b hb) s.loc
    exact ⟨List.mem_append_left _ this.1, this.2⟩
  split at e3
  case isFalse => cases e3
  rename_i hlen
  have rl3 := rl.ext x23
  refine ⟨kl.zip vs, k1, ha3, rfl, ?_, fun v hv' => ?_, fun hv' => ?_⟩
  · rw [List.length_zip, ← hl2, Nat.min_self, sizeLine_eq]
    rw [List.length_map] at hlen
    omega
  · split at e3
    · rename_i r elk
      cases e3
      obtain ⟨b, us, ev, hb, hlen', hbm, hh⟩ := repL_at hl2 hnd2 rl3 elk nf
      rw [hv'] at ev
      cases ev
      refine fin kl vs ds f b H3 r rfl hl2 hnd2 ha3 rl3 nf haf old3 elk hv' ?_ (.relab x23)
      refine ⟨s3.loc, ?_⟩
      refine Cells.put i (Cells.killK s3.cells) ?_ h2
      refine ⟨.ref a, a :: f, rfl, ?_, fun c' hc' => ?_, fun _ => List.nodup_cons.mpr ⟨haf, nf⟩, fun _ c' g' e1 e2 => by cases e2; exact haf⟩
      · simp only [Rep]
        exact ⟨a, vs, f, rfl, ⟨⟨hl, hnd⟩, kl, rfl, .inl ha3⟩, rl3, rfl⟩
      · rcases List.mem_cons.mp hc' with rfl | hc'
        · exact .inl ⟨rfl, n, rfl, by rw [hga3]; exact List.mem_singleton.mpr rfl, fun z => by rw [hga3] at z; exact absurd z hn⟩
        · exact .inr ⟨.inl fun e => by cases e; exact haf hc', old3 c' hc'⟩
    · cases e3
    · rename_i elk
      rw [lk_none (fun a b h => ky_k_inj _ _ h) rl3 elk] at hv'
      cases hv'
  · split at e3
    · rename_i r elk
      obtain ⟨b, us, ev, _⟩ := repL_at hl2 hnd2 rl3 elk nf
      rw [hv'] at ev
      cases ev
    · cases e3
    · rename_i elk
      cases e3
      have hnk : k1 ∉ kl := fun hm => by
        have := valV_any k1 (kl.zip vs)
        rw [hv', any_mem hl2] at this
        simp [hm] at this
      have hnK : Ky.k k1 ∉ kl.map Ky.k := fun hm => hnk ((mem_em (fun a b h => ky_k_inj _ _ h)).mp hm)
      have ev0 : valV (putK (kl.zip vs) k1 (V.ref b0)) k1 = some (.ref b0) := by rw [valV_put]; simp
      have e6 : putK (kl.zip vs) k1 (V.ref b0) = (kl ++ [k1]).zip (vs ++ [.ref b0]) := by
        unfold putK
        rw [any_mem hl2, if_neg (by simpa using hnk), List.zip_append hl2]
        rfl
      have e7 : putKs (kl.map Ky.k) (Ky.k k1) = (kl ++ [k1]).map Ky.k := by unfold putKs; rw [if_neg hnK, List.map_append]; rfl
      have e8 : putDs (kl.map Ky.k) ds (Ky.k k1) (.lst []) = ds ++ [.lst []] := by unfold putDs; rw [if_neg hnK]
      have hab0 : a ≠ b0 := fun z => by rw [← z] at hbn0; have := x2 a _ ha0; rw [this] at hbn0; cases hbn0
      have hb0f : b0 ∉ f := fun hm => by
        have := (oldf b0 hm).there s.loc
        obtain ⟨o, ho⟩ := Option.ne_none_iff_exists'.mp this
        rw [x2 b0 _ ho] at hbn0; cases hbn0
      have hgb0 : relab g H H3 .non c c b0 = c := by
        have hnn : New H H3 b0 := ⟨x2.nope hbn0, by rw [hb0]; trivial⟩
        rw [relab_new hnn]
        simp
      have hb4 : upd H3 a (.dK (putK (kl.zip vs) k1 (V.ref b0))) b0 = some (.lst []) := by rw [upd_ne (Ne.symm hab0)]; exact hb0
      have hfn : ∀ b ∈ f ++ [b0], Old P (relab g H H3 .non c c) (L ++ [c]) b := fun b hb => by
        rcases List.mem_append.mp hb with hb | hb
        · exact old3 b hb
        · obtain rfl := List.mem_singleton.mp hb
          exact ⟨by rw [hgb0]; exact List.mem_append_right _ (List.mem_singleton.mpr rfl), fun z => by rw [hgb0] at z; exact absurd z hc0⟩
      have hafn : a ∉ f ++ [b0] := fun hm => (List.mem_append.mp hm).elim haf fun h => hab0 (List.mem_singleton.mp h)
      have hnn : (f ++ [b0]).Nodup := List.nodup_append.mpr ⟨nf, by simp, fun p hp q hq e => hb0f (by rw [← List.mem_singleton.mp hq, ← e]; exact hp)⟩
      have rl4 : RepL X.vm (upd H3 a (.dK (putK (kl.zip vs) k1 (V.ref b0)))) (ds ++ [.lst []]) (vs ++ [.ref b0]) (f ++ [b0]) := by
        refine (repL_upd rl3 haf ha3 trivial).append (.one ?_)
        simp only [Rep]
        exact ⟨b0, [], [], rfl, hb4, by simp [RepL], rfl⟩
      have hl4 : (kl ++ [k1]).length = (vs ++ [V.ref b0]).length := by simp [hl2]
      have hnd4 : (kl ++ [k1]).Nodup := List.nodup_append.mpr ⟨hnd2, by simp, fun p hp q hq e => hnk (by rw [← List.mem_singleton.mp hq, ← e]; exact hp)⟩
      have cell : CellOk X.vm P (relab g H H3 .non c c) (upd H3 a (.dK (putK (kl.zip vs) k1 (V.ref b0)))) (.lab (some n) (L ++ [c]) true) (.dic false (putKs (kl.map Ky.k) (Ky.k k1)) (putDs (kl.map Ky.k) ds (Ky.k k1) (.lst []))) (some (.ref a)) := by
        refine ⟨.ref a, a :: (f ++ [b0]), rfl, ?_, fun c' hc' => ?_, fun _ => List.nodup_cons.mpr ⟨hafn, hnn⟩, fun _ c' g' e1 e2 => by cases e2; exact hafn⟩
        · simp only [Rep]
          rw [e7, e8]
          exact ⟨a, vs ++ [.ref b0], f ++ [b0], rfl, ⟨⟨by rw [List.length_map]; exact hl4, List.pairwise_map.mpr (hnd4.imp fun h e => h (ky_k_inj _ _ e))⟩, kl ++ [k1], rfl, .inl (by rw [upd_same, e6])⟩, rl4, rfl⟩
        · rcases List.mem_cons.mp hc' with rfl | hc'
          · exact .inl ⟨rfl, n, rfl, by rw [hga3]; exact List.mem_singleton.mpr rfl, fun z => by rw [hga3] at z; exact absurd z hn⟩
          · exact .inr ⟨.inl fun e => by cases e; exact hafn hc', hfn c' hc'⟩
      obtain ⟨s4, st4⟩ := s3.put (i := i) (o' := .dK (putK (kl.zip vs) k1 (V.ref b0))) ha3 trivial trivial hga3 hn hLn h2 cell
      refine fin (kl ++ [k1]) (vs ++ [.ref b0]) (ds ++ [.lst []]) (f ++ [b0]) b0 _ [] (by rw [e7, e8]) hl4 hnd4 (by rw [upd_same, e6]) rl4 hnn hafn hfn ?_ (by rw [← e6]; exact ev0) s4 ((Step.relab x23).trans st4)
      rw [List.map_append]
      exact lk_snoc (by rw [List.length_map, hl2, rl3.length]) hnK
end
end VV

/-! ## VLenD -/
/-! len of a dict with keys that are ints or texts -/
namespace VV
open PySem PySem.Spec PyProof.Rows L2
section
variable {X : Cx}
theorem call_lenR : CallR X (.builtin "len") (fun xs H Q => ∃ a kvs, xs = [V.ref a] ∧ Rd H a (.dK kvs) ∧ Q (.int kvs.length) H) := by
  intro pins s σ H xs us Q I r h
  obtain ⟨a, kvs, rfl, ha, q⟩ := h
  obtain ⟨u, rfl, ru⟩ := vals1 r
  cases ru
  exact d_len I ha fun t s' I' => ⟨.int kvs.length, H, I', ⟨t, rfl⟩, q⟩
def dLenK : List D → Option D
  | [.dic false ks _] => some (.int ks.length)
  | _ => none
theorem cp_lenK : CP X (fun xs H Q => ∃ a kvs, xs = [V.ref a] ∧ Rd H a (.dK kvs) ∧ Q (.int kvs.length) H) dLenK toFlat := by
  intro P LL g H H1 m ds vs d Q l x vl e q
  obtain ⟨fp, r⟩ := vl.rep
  unfold dLenK at e
  split at e
  · cases e
    obtain ⟨v, rfl, h⟩ := repL1 r
    simp only [Rep] at h
    obtain ⟨a, us, f, rfl, ⟨⟨hl, _⟩, kl, rfl, rd⟩, h2, rfl⟩ := h
    have hl2 : kl.length = us.length := by simpa using hl
    refine ⟨a, _, rfl, rd, ?_⟩
    have := q (.int (kl.map Ky.k).length) H1 Ext.refl (val_flat rep_int)
    rw [List.length_map] at this
    rw [List.length_zip, ← hl2, Nat.min_self]
    exact this
  · cases e
end
end VV

/-! ## VZip -/
/-! zip(a list, a tuple of flat things) -/
namespace VV
open PySem PySem.Spec PyProof.Rows L2
/-- the list at a, the tuple at b, as they stand at each turn -/
def ItzM (K : PySem.W.Frag) (a b : Addr) : It :=
  ⟨fun i H => ∃ (xs ys : List V) (x y : V), SqL K H a xs ∧ SqT K H b ys ∧ xs[i]? = some x ∧ ys[i]? = some y,
    fun i H v H' => ∃ T x y, v = .ref T ∧ H T = none ∧ H' = upd H T (.tup [x, y]) ∧ (∀ xs, SqL K H a xs → xs[i]? = some x) ∧ ∀ ys, SqT K H b ys → ys[i]? = some y,
    fun i H => ∃ xs ys : List V, SqL K H a xs ∧ SqT K H b ys ∧ i = min xs.length ys.length⟩
theorem turn_zipM {P : Program} {w : World} {K : PySem.W.Frag} {elts : List Expr} {kk : Nat} {tpos : Pos} {a b z TI TO i1 i2 : Addr} (S : ZipSep2 z TI TO i1 i2 [i1, a] [i2, b]) (ha : a ≠ i1) (hb : b ≠ i2) :
    L2.Turn P w K (.Tuple elts kk tpos) (ItzM K a b) [z, TI, TO, i1, i2] z (fun i h => IsZip h z TI TO .none ∧ IsTupOf2 h TI (.ref i1) (.ref i2) ∧ (∃ x y, IsTupOf2 h TO x y) ∧ h.IsListIter i1 a i ∧ h.IsTupleIter i2 b i) where
  mem := by simp
  obj := fun i h st c hc => by
    obtain ⟨hz, hTI, ⟨x, y, hTO⟩, ⟨o1, e1, _, d1⟩, ⟨o2, e2, _, d2⟩⟩ := st
    have hc : c = z ∨ c = TI ∨ c = TO ∨ c = i1 ∨ c = i2 := by simpa using hc
    rcases hc with e | e | e | e | e
    · rw [e]; exact ⟨_, hz, fun v q => nomatch q⟩
    · rw [e]; exact ⟨_, hTI, fun v q => nomatch q⟩
    · rw [e]; exact ⟨_, hTO, fun v q => nomatch q⟩
    · rw [e]; exact ⟨o1, e1, fun v q => by rw [d1] at q; cases q⟩
    · rw [e]; exact ⟨o2, e2, fun v q => by rw [d2] at q; cases q⟩
  keep := fun i h h' st k => by
    obtain ⟨hz, hTI, ⟨x, y, hTO⟩, h1, h2⟩ := st
    exact ⟨k z (by simp) _ hz, k TI (by simp) _ hTI, ⟨x, y, k TO (by simp) _ hTO⟩, h1.at fun o q => k i1 (by simp) o q, h2.at fun o q => k i2 (by simp) o q⟩
  item := by
    intro X hP hw hK hc i pins s σ H E I hf st hg
    subst hP hw hK
    obtain ⟨hz, hTI, hTO, h1, h2⟩ := st
    obtain ⟨xs, ys, x, y, hqx, hqy, hx, hy⟩ := hg
    obtain ⟨its, rv, p, _⟩ := I.list hqx
    obtain ⟨its2, rv2, p2, _⟩ := I.tuple hqy
    obtain ⟨u, hu, ru⟩ := rv.get hx
    obtain ⟨u2, hu2, ru2⟩ := rv2.get hy
    have hd : X.A.in1.handled = none := I.ok.hd hc
    have W := GoesN.zip2 (elts := elts) (x1 := kk) (pos := tpos) S (Draws.list (prog := X.prog) (w := X.w) hd i1 a ha its.toArray) (Draws.tuple (prog := X.prog) (w := X.w) hd i2 b hb its2.toArray)
    have l1 : i < its.toArray.size := by
      have := (List.getElem?_eq_some_iff.mp hu).1
      simpa using this
    have l2 : i < its2.toArray.size := by
      have := (List.getElem?_eq_some_iff.mp hu2).1
      simpa using this
    refine W.goes i s _ E (Nat.lt_min.mpr ⟨l1, l2⟩) ⟨hz, hTI, hTO, ⟨h1, p.isList⟩, ⟨h2, p2⟩⟩ fun v h' tk hY hSt hk htk => ?_
    obtain ⟨T, u', u2', rfl, hT, e1, e2, hTt⟩ := hY
    obtain ⟨gz, gTI, gTO, ⟨g1, _⟩, ⟨g2, _⟩⟩ := hSt
    have eu : u' = u := by
      have : its[i]? = some u' := by simpa using e1
      rw [hu] at this; cases this; rfl
    have eu2 : u2' = u2 := by
      have : its2[i]? = some u2' := by simpa using e2
      rw [hu2] at this; cases this; rfl
    subst eu eu2
    have hTn : H T = none := I.hok.fresh hT
    have new : ObjOk X.prog X.w (upd H T (.tup [x, y])) h' T (.tup [x, y]) := ⟨by show 2 ≤ sizeLine; decide, [u', u2'], .cons ru (.cons ru2 .nil), hTt⟩
    have I1 : Inv X pins σ (upd H T (.tup [x, y])) { s with heap := h', toks := tk } :=
      I.turnedNew (t' := tk) (ch := [z, TI, TO, i1, i2]) (fun c o hb q => hk c o (fun hm => hb (by
        have hm : c = z ∨ c = TO ∨ c = i1 ∨ c = i2 := by simpa using hm
        rcases hm with e | e | e | e <;> simp [e])) q) hf hT new
    refine ⟨.ref T, _, I1, rfl, ⟨T, x, y, rfl, hTn, rfl, fun l hl => by rw [I.list_inj hl hqx]; exact hx, fun l hl => by rw [I.tuple_inj hl hqy]; exact hy⟩, ⟨gz, gTI, gTO, g1, g2⟩, fun c hcm => ?_⟩
    have hlt : c < s.heap.objs.size := by
      obtain ⟨x0, y0, hTO⟩ := hTO
      have hcm : c = z ∨ c = TI ∨ c = TO ∨ c = i1 ∨ c = i2 := by simpa using hcm
      rcases hcm with e | e | e | e | e
      · rw [e]; exact Heap.lt_size hz
      · rw [e]; exact Heap.lt_size hTI
      · rw [e]; exact Heap.lt_size hTO
      · rw [e]; obtain ⟨_, e1, _⟩ := h1; exact Heap.lt_size e1
      · rw [e]; obtain ⟨_, e2, _⟩ := h2; exact Heap.lt_size e2
    rw [upd_ne (Nat.ne_of_lt (Nat.lt_of_lt_of_le hlt hT))]
    exact (hf c hcm).1
  done := by
    intro X hP hw hK hc i pins s σ H E I hf st hg
    subst hP hw hK
    obtain ⟨hz, hTI, hTO, h1, h2⟩ := st
    obtain ⟨xs, ys, hqx, hqy, hend⟩ := hg
    obtain ⟨its, rv, p, _⟩ := I.list hqx
    obtain ⟨its2, rv2, p2, _⟩ := I.tuple hqy
    have hd : X.A.in1.handled = none := I.ok.hd hc
    have W := GoesN.zip2 (elts := elts) (x1 := kk) (pos := tpos) S (Draws.list (prog := X.prog) (w := X.w) hd i1 a ha its.toArray) (Draws.tuple (prog := X.prog) (w := X.w) hd i2 b hb its2.toArray)
    have ei : i = min its.toArray.size its2.toArray.size := by
      rw [hend, rv.length, rv2.length]; simp
    subst ei
    refine W.stops s _ E ⟨hz, hTI, hTO, ⟨h1, p.isList⟩, ⟨h2, p2⟩⟩ fun h' tk hk htk => I.turnedL (t' := tk) (ch := [z, TI, TO, i1, i2]) (fun c o hb q => hk c o (fun hm => hb (by
        have hm : c = z ∨ c = TO ∨ c = i1 ∨ c = i2 := by simpa using hm
        rcases hm with e | e | e | e <;> simp [e])) q) hf
  self := fun A i s Q E st h => wpAny_pyIter_zip st.1 h
def iZipMr (K : PySem.W.Frag) (ta : TA) : TI := fun σ H R => ta σ H fun vs H1 => ∃ a b xs ys, vs = [.ref a, .ref b] ∧ SqL K H1 a xs ∧ SqT K H1 b ys ∧ R (ItzM K a b) H1
theorem pi_zipM {X : Cx} {e e2 : Expr} {ta : TA} {p pos tpos : Pos} {elts : List Expr} {kk : Nat} (hg : Gl X "zip") (hm : X.mg "zip" = none) (ha : PA X [e, e2] ta)
    (hs : starEach [e, e2] X.env = (false, eval e X.env) :: starEach [e2] X.env := by rfl) (hpl : (backTo pos (starEach [e2] X.env)).any (·.1) = false := by rfl) :
    PI X (.Tuple elts kk tpos) (.Call (.Name "zip" p) [e, e2] [] pos) (iZipMr X.K ta) := by
  refine ⟨fun pins s σ H R I h => ?_⟩
  refine Call_ (ld_blt I hg hm PyProof.Rows.boot_zip (PyProof.Rows.callWith_type1 (thn (ha.run pos pins s σ H _ I h) fun us s1 ⟨vs, H1, I1, r1, a, b, xs, ys, ex, hqx, hqy, q⟩ => ?_) hs hpl))
  subst ex
  rcases r1 with _ | ⟨r, rr⟩
  rcases rr with _ | ⟨r', rr⟩
  cases rr
  cases r
  cases r'
  obtain ⟨its, rv, p1, _⟩ := I1.list hqx
  obtain ⟨its2, rv2, p2, _⟩ := I1.tuple hqy
  have la : a < s1.heap.objs.size := p1.lt
  have lb : b < s1.heap.objs.size := by obtain ⟨o, ho, _⟩ := id p2; exact Heap.lt_size ho
  have q1 : s1.heap.IsList a its.toArray := p1.isList
  have q2 : s1.heap.IsTuple b its2.toArray := p2
  clear p1 p2
  refine zip_begins2 (s := s1) (begins_list a its.toArray) (begins_tuple b its2.toArray) q1 q2 ?_
  intro h' hz hTI hTO e1 e2 hsz hk
  refine wpAny_pyIter_zip hz ?_
  have I2 : Inv X pins σ H1 { s1 with heap := h' } := I1.kept (t' := s1.toks) hk
  refine ⟨s1.heap.objs.size + 4, [s1.heap.objs.size + 4, s1.heap.objs.size + 2, s1.heap.objs.size + 3, s1.heap.objs.size, s1.heap.objs.size + 1], _, _, H1, rfl, I2,
    turn_zipM (zip_sep2 (N := s1.heap.objs.size) (by simpa using la) (by simpa using lb)) (Nat.ne_of_lt la) (Nat.ne_of_lt (Nat.lt_succ_of_lt lb)), ⟨hz, hTI, ⟨_, _, hTO⟩, ⟨_, e1, rfl, rfl⟩, ⟨_, e2, rfl, rfl⟩⟩, fun c hcm => ?_, q⟩
  have hle : s1.heap.objs.size ≤ c := by
    have hcm : c = s1.heap.objs.size + 4 ∨ c = s1.heap.objs.size + 2 ∨ c = s1.heap.objs.size + 3 ∨ c = s1.heap.objs.size ∨ c = s1.heap.objs.size + 1 := by simpa using hcm
    rcases hcm with e | e | e | e | e <;> rw [e]
    · exact Nat.le_add_right _ _
    · exact Nat.le_add_right _ _
    · exact Nat.le_add_right _ _
    · exact Nat.le_refl _
    · exact Nat.le_add_right _ _
  exact I1.fpOk hle (I1.hok.fresh hle)
def iZipM (a : List D → Option (List D)) : List D → Option (List D) := fun ρ => do match (← a ρ) with
  | [.lst l, .tup r] => some ((l.zip r).map fun p => .tup [p.1, p.2])
  | [.lst l, .kti r] => some ((l.zip (r.map D.int)).map fun p => .tup [p.1, p.2])
  | _ => none
section
variable {X : Cx} {LL : List Nat} {Γ : List Kd} {pos p tpos : Pos} {a b : Expr} {sa sb : Ev} {ma : Md} {elts : List Expr} {kk : Nat}
theorem ei_zipM {mb : Md} (hg : Gl X "zip") (hm : X.mg "zip" = none) (ha : EX X LL Γ a sa ma) (hb : EX X LL Γ b sb mb)
    (hs : starEach [a, b] X.env = (false, eval a X.env) :: starEach [b] X.env := by rfl) (hpl : (backTo pos (starEach [b] X.env)).any (·.1) = false := by rfl) (hs2 : starEach [b] X.env = (false, eval b X.env) :: starEach [] X.env := by rfl) :
    EI X LL Γ (.Tuple elts kk tpos) (.Call (.Name "zip" p) [a, b] [] pos) (iZipM (aCons sa (aCons sb aNil))) (ma.labs ++ mb.labs) (ma.child.pair mb.child) := by
  obtain ⟨ta, tb, pa, pb, k⟩ := two ha hb
  refine ⟨_, pi_sized (pi_zipM hg hm (pa_cons pa (pa_cons pb pa_nil hs2) hs) hs hpl), fun P g ρ σ H ds R s e q => ?_⟩
  obtain ⟨ds0, e1, e⟩ := bind_some e
  refine k P g ρ σ H ds0 _ s e1 fun d1 d2 v w H' eds x va vb vl => ?_
  subst eds
  split at e
  · rename_i l r eq
    cases eq
    cases e
    obtain ⟨a1, vs1, f1, rfl, h1, n1, lb1, m1, it1⟩ := lst_nodes va
    obtain ⟨f2, rb, ob, lb2, ch2⟩ := vb.labs
    have rb0 := rb
    simp only [Rep] at rb0
    obtain ⟨a2, vs2, rfl, h2, rr⟩ := rb0
    have n2 := rr.length
    have it2 : ∀ (i : Nat) (d : D), r[i]? = some d → ∃ y f, vs2[i]? = some y ∧ Rep X.vm H' d y f ∧ Fps P g H H' mb.child f ∧ ∀ b ∈ f, b ∈ f2 := fun i d hd => by
      obtain ⟨y, g1, e1, e2, p1, p2, e3⟩ := rr.parts hd
      refine ⟨y, g1, e1, e2, ch2 g1 ⟨p1, p2, .inr ⟨e3, fun b eb => by cases eb; exact rb.notup (.inl h2)⟩⟩, fun b hb => by rw [e3]; exact List.mem_append_left _ (List.mem_append_right _ hb)⟩
    refine ⟨a1, a2, vs1, vs2, rfl, SqL.of h1, .inl (.inl h2), fun sz => q _ H' x ?_ ⟨f1 ++ f2, fun c hc => ?_, fun H2 kp => ⟨fun i d hi => ?_, ?_⟩⟩⟩
    · rw [List.length_map, List.length_zip, ← n1]
      exact Nat.le_trans (Nat.min_le_left _ _) (sz.1 a1 vs1 (SqL.of h1))
    · rcases List.mem_append.mp hc with hc | hc
      · exact (lb1 c hc).imp id fun o => ⟨List.mem_append_left _ o.1, o.2⟩
      · exact (lb2 c hc).imp id fun o => ⟨List.mem_append_right _ o.1, o.2⟩
    · rw [List.getElem?_map] at hi
      obtain ⟨pr, e3, rfl⟩ := Option.map_eq_some_iff.mp hi
      obtain ⟨e4, e5⟩ := List.getElem?_zip_eq_some.mp e3
      obtain ⟨y1, g1, z1, r1, o1, s1⟩ := it1 i _ e4
      obtain ⟨y2, g2, z2, r2, o2, s2⟩ := it2 i _ e5
      have b1 : H2 a1 = some (.lst vs1) := kp.1 a1 (List.mem_append_left _ m1) _ h1
      have b2 : H2 a2 = some (.tup vs2) := kp.2.1 a2 vs2 h2
      refine ⟨⟨vs1, vs2, y1, y2, SqL.of b1, .inl (.inl b2), z1, z2⟩, fun xv H3 yl => ?_⟩
      obtain ⟨T, u1, u2, rfl, hT, rfl, q1, q2⟩ := yl
      have := q1 vs1 (SqL.of b1)
      rw [z1] at this; cases this
      have := q2 vs2 (.inl (.inl b2))
      rw [z2] at this; cases this
      have ex : Ext H2 (upd H2 T (.tup [y1, y2])) := Ext.put hT
      refine ⟨ex, g1 ++ g2, ?_, fps_pair o1 o2, fun c hc => ?_⟩
      · simp only [Rep, RepL]
        refine ⟨T, [y1, y2], rfl, upd_same, y1, [y2], g1, g2, rfl, ?_, ⟨y2, [], g2, [], rfl, ?_, ⟨rfl, rfl⟩, by simp⟩, rfl⟩
        · exact Rep.ext (kp.rep r1 fun c hc => List.mem_append_left _ (s1 c hc)) ex
        · exact Rep.ext (kp.rep r2 fun c hc => List.mem_append_right _ (s2 c hc)) ex
      · rcases List.mem_append.mp hc with hc | hc
        · exact List.mem_append_left _ (s1 c hc)
        · exact List.mem_append_right _ (s2 c hc)
    · refine ⟨vs1, vs2, SqL.of (kp.1 a1 (List.mem_append_left _ m1) _ h1), .inl (.inl (kp.2.1 a2 vs2 h2)), ?_⟩
      rw [List.length_map, List.length_zip, n1, n2]
  · rename_i l r eq
    cases eq
    cases e
    obtain ⟨a1, vs1, f1, rfl, h1, n1, lb1, m1, it1⟩ := lst_nodes va
    obtain ⟨f2, rb, ob, lb2, ch2⟩ := vb.labs
    have rb0 := rb
    simp only [Rep] at rb0
    obtain ⟨⟨a2, oo, rfl, h2, _⟩, rfl⟩ := rb0
    obtain ⟨vs2, ev⟩ : ∃ vs2, vs2 = r.map V.int := ⟨_, rfl⟩
    rw [← ev] at h2
    have rr : RepL X.vm H' (r.map D.int) vs2 [] := by rw [ev]; exact repL_ints _
    have n2 := rr.length
    have it2 : ∀ (i : Nat) (d : D), (r.map D.int)[i]? = some d → ∃ y f, vs2[i]? = some y ∧ Rep X.vm H' d y f ∧ Fps P g H H' mb.child f ∧ ∀ b ∈ f, b ∈ ([] : List Addr) := fun i d hd => by
      obtain ⟨y, g1, e1, e2, p1, p2, e3⟩ := rr.parts hd
      have hg : g1 = [] := by
        have := e3.symm
        simp only [List.append_eq_nil_iff] at this
        exact this.1.2
      subst hg
      refine ⟨y, [], e1, e2, ?_, fun b hb => nomatch hb⟩
      cases mb.child with
      | flat => exact rfl
      | al fr rt L nd => exact ⟨fun b hb => (nomatch hb), fun _ => List.nodup_nil⟩
    refine ⟨a1, a2, vs1, vs2, rfl, SqL.of h1, .inl (.inr ⟨oo, h2⟩), fun sz => q _ H' x ?_ ⟨f1 ++ [], fun c hc => ?_, fun H2 kp => ⟨fun i d hi => ?_, ?_⟩⟩⟩
    · rw [List.length_map, List.length_zip, ← n1]
      exact Nat.le_trans (Nat.min_le_left _ _) (sz.1 a1 vs1 (SqL.of h1))
    · rcases List.mem_append.mp hc with hc | hc
      · exact (lb1 c hc).imp id fun o => ⟨List.mem_append_left _ o.1, o.2⟩
      · exact (lb2 c hc).imp id fun o => ⟨List.mem_append_right _ o.1, o.2⟩
    · rw [List.getElem?_map] at hi
      obtain ⟨pr, e3, rfl⟩ := Option.map_eq_some_iff.mp hi
      obtain ⟨e4, e5⟩ := List.getElem?_zip_eq_some.mp e3
      obtain ⟨y1, g1, z1, r1, o1, s1⟩ := it1 i _ e4
      obtain ⟨y2, g2, z2, r2, o2, s2⟩ := it2 i _ e5
      have b1 : H2 a1 = some (.lst vs1) := kp.1 a1 (List.mem_append_left _ m1) _ h1
      have b2 : H2 a2 = some (.frz oo (.tup vs2)) := kp.2.2.2 a2 oo vs2 h2
      refine ⟨⟨vs1, vs2, y1, y2, SqL.of b1, .inl (.inr ⟨oo, b2⟩), z1, z2⟩, fun xv H3 yl => ?_⟩
      obtain ⟨T, u1, u2, rfl, hT, rfl, q1, q2⟩ := yl
      have := q1 vs1 (SqL.of b1)
      rw [z1] at this; cases this
      have := q2 vs2 (.inl (.inr ⟨oo, b2⟩))
      rw [z2] at this; cases this
      have ex : Ext H2 (upd H2 T (.tup [y1, y2])) := Ext.put hT
      refine ⟨ex, g1 ++ g2, ?_, fps_pair o1 o2, fun c hc => ?_⟩
      · simp only [Rep, RepL]
        refine ⟨T, [y1, y2], rfl, upd_same, y1, [y2], g1, g2, rfl, ?_, ⟨y2, [], g2, [], rfl, ?_, ⟨rfl, rfl⟩, by simp⟩, rfl⟩
        · exact Rep.ext (kp.rep r1 fun c hc => List.mem_append_left _ (s1 c hc)) ex
        · exact Rep.ext (kp.rep r2 fun c hc => List.mem_append_right _ (s2 c hc)) ex
      · rcases List.mem_append.mp hc with hc | hc
        · exact List.mem_append_left _ (s1 c hc)
        · exact List.mem_append_right _ (s2 c hc)
    · refine ⟨vs1, vs2, SqL.of (kp.1 a1 (List.mem_append_left _ m1) _ h1), .inl (.inr ⟨oo, kp.2.2.2 a2 oo vs2 h2⟩), ?_⟩
      rw [List.length_map, List.length_zip, n1, n2]
  · cases e
end
end VV

/-! ## VDVals -/
/-! [d[k] for k in sorted(d)]: the values of a dict, each once -/
namespace VV
open PySem PySem.Spec PyProof.Rows L2
theorem perm_pick {α β : Type} {f : α → β} {l m : List β} (h : l.Perm m) : ∀ {xs : List α}, m = xs.map f → ∃ ys : List α, ys.Perm xs ∧ l = ys.map f := by
  induction h with
  | nil => intro xs e; exact ⟨xs, List.Perm.refl _, e⟩
  | cons a _ ih =>
    intro xs e
    cases xs with
    | nil => simp at e
    | cons x r =>
      simp only [List.map_cons, List.cons.injEq] at e
      obtain ⟨ys, h1, h2⟩ := ih e.2
      exact ⟨x :: ys, h1.cons x, by rw [List.map_cons, h2, e.1]⟩
  | swap a b l =>
    intro xs e
    match xs, e with
    | [], e => simp at e
    | [_], e => simp at e
    | x :: y :: r, e =>
      simp only [List.map_cons, List.cons.injEq] at e
      exact ⟨y :: x :: r, List.Perm.swap _ _ _, by rw [List.map_cons, List.map_cons, e.1, e.2.1, e.2.2]⟩
  | trans _ _ ih1 ih2 =>
    intro xs e
    obtain ⟨ys, h1, h2⟩ := ih2 e
    obtain ⟨zs, h3, h4⟩ := ih1 h2
    exact ⟨zs, h3.trans h1, h4⟩
/-- key, tree, value, nodes -/
structure Row where
  k : Int
  d : D
  v : V
  f : List Addr
def rKy (t : Row) : Ky := .k (.inl t.k)
section
variable {mg : Mg} {H : Hp}
theorem rows_of : ∀ {ns : List Int} {l : List D} {vs : List V} {f : List Addr}, ns.length = vs.length → RepL mg H l vs f → ∃ T : List Row, T.map Row.k = ns ∧ T.map Row.d = l ∧ T.map Row.v = vs ∧ (T.map Row.f).flatten = f ∧ ∀ t ∈ T, Rep mg H t.d t.v t.f
  | [], [], _, _, _, h => by
    simp only [RepL] at h
    obtain ⟨rfl, rfl⟩ := h
    exact ⟨[], rfl, rfl, rfl, rfl, by simp⟩
  | n :: ns, d :: l, _, _, e, h => by
    simp only [RepL] at h
    obtain ⟨v, r, f1, f2, rfl, h1, h2, rfl⟩ := h
    obtain ⟨T, rfl, rfl, rfl, rfl, e5⟩ := rows_of (by simpa using e) h2
    refine ⟨⟨n, d, v, f1⟩ :: T, rfl, rfl, rfl, rfl, fun t ht => ?_⟩
    rcases List.mem_cons.mp ht with rfl | ht
    · exact h1
    · exact e5 t ht
  | [], d :: l, _, _, e, h => by
    simp only [RepL] at h
    obtain ⟨v, r, f1, f2, rfl, _⟩ := h
    simp at e
  | n :: ns, [], _, _, e, h => by
    simp only [RepL] at h
    obtain ⟨rfl, _⟩ := h
    simp at e
theorem repL_rows : ∀ {T : List Row}, (∀ t ∈ T, Rep mg H t.d t.v t.f) → RepL mg H (T.map Row.d) (T.map Row.v) (T.map Row.f).flatten
  | [], _ => by simp [RepL]
  | t :: T, h => by
    simp only [List.map_cons, RepL, List.flatten_cons]
    exact ⟨_, _, _, _, rfl, h t List.mem_cons_self, repL_rows fun u hu => h u (List.mem_cons_of_mem _ hu), rfl⟩
theorem row_val : ∀ {T : List Row}, (T.map Row.k).Nodup → ∀ t ∈ T, valV ((T.map fun t => (Sum.inl t.k : L2.Key)).zip (T.map Row.v)) (.inl t.k) = some t.v ∧ lkD (T.map rKy) (T.map Row.d) (rKy t) = some t.d
  | [], _, t, h => by cases h
  | u :: T, hn, t, h => by
    rw [List.map_cons] at hn
    obtain ⟨h1, h2⟩ := List.nodup_cons.mp hn
    by_cases e : u.k = t.k
    · rcases List.mem_cons.mp h with rfl | h
      · refine ⟨?_, ?_⟩
        · simp only [List.map_cons, List.zip_cons_cons]
          exact valV_pos rfl
        · simp only [List.map_cons, List.zip_cons_cons, lkD, List.find?_cons]
          simp
      · exact absurd (List.mem_map.mpr ⟨t, h, rfl⟩) (e ▸ h1)
    · rcases List.mem_cons.mp h with rfl | h
      · exact absurd rfl e
      · obtain ⟨i1, i2⟩ := row_val h2 t h
        refine ⟨?_, ?_⟩
        · simp only [List.map_cons, List.zip_cons_cons]
          rw [valV_neg fun z => e (Sum.inl.inj z)]
          exact i1
        · simp only [List.map_cons, List.zip_cons_cons, lkD, List.find?_cons]
          have : ¬ rKy u = rKy t := fun z => e (Sum.inl.inj (Ky.k.inj z))
          simp only [this, decide_false]
          exact i2
end
section
variable {X : Cx} {LL : List Nat} {Γ Γ1 : List Kd} {pos p : Pos}
theorem ex_lcDK {i j m : Nat} {L : List Nat} {a b tg iter : Expr} {scope : Scope} {own : List (Str × Nat)} {labs : List Nat} {S : List Nat} {si : List D → Option (List D)} {me : Md} {t : Tv} (n : Nat) (hij : i ≠ j) (hk : Γ[i]? = some (.lab (some m) L true)) (ho : own.map (·.2) = [j]) (hj1 : Γ1[j]? = some .flat)
    (hc : X.calm = true) (hN : X.N.Nodup) (hi : EI X LL Γ tg iter si labs me) (ok : BlkOk X.N X.env.scope scope own)
    (hg : ∀ (s : Shared) (H : Hp) (C : Addr) (cl : List (Str × Addr)) (fp : List Addr), EG (X.blk s H scope (compEnvC scope cl C X.env) fp) (wipeK Γ (own.map (·.2))) tg (me.kindI n) t Γ1 S)
    (hu : ∀ (s : Shared) (H : Hp) (C : Addr) (cl : List (Str × Addr)) (fp : List Addr), (X.blk s H scope (compEnvC scope cl C X.env) fp).A.units + 1 < cLine)
    (ha : ∀ (s : Shared) (H : Hp) (C : Addr) (cl : List (Str × Addr)) (fp : List Addr), PE (X.blk s H scope (compEnvC scope cl C X.env) fp) a (tVar i))
    (hb : ∀ (s : Shared) (H : Hp) (C : Addr) (cl : List (Str × Addr)) (fp : List Addr), PE (X.blk s H scope (compEnvC scope cl C X.env) fp) b (tVar j))
    (hsl : NoSl b := by exact fun _ _ => rfl) (hsi : si = iLst (eP dSortK (aCons (eVar i) aNil)) := by rfl) (hme : me = .al false .unk [] true := by rfl) (htt : t = gF (gN j) := by rfl)
    (hS : ∀ i ∈ S, i ∈ own.map (·.2) := by decide) (hs : ∀ x, foldedSetIterable iter X.env x = pure x := by intro _; rfl) (hn : n ≠ 0 := by decide) :
    EX X LL Γ (.ListComp (.Subscript a b p) [⟨tg, iter, [], 0⟩] scope pos) (eLc (iLst (eP dSortK (aCons (eVar i) aNil))) (gF (gN j)) cYes (eP dGet (aCons (eVar i) (aCons (eVar j) aNil)))) (.al false .new L true) := by
  subst hsi hme htt
  obtain ⟨wi, pi, ki⟩ := hi
  obtain ⟨tt, ptt, ktt⟩ := ets_nil (X := X) (LL := LL) (Γ := Γ1)
  refine ⟨_, pe_lc (g := canG X.vm (wipeK Γ (own.map (·.2))) ((Md.al false .unk [] true).kindI n) (gF (gN j)) Γ1 S) (tt := canB X.vm LL Γ1 cYes) (te := tDGet (tVar i) (tVar j)) hc hN pi ok (fun s H C cl fp => eg_can (hg s H C cl fp)) (fun s H C cl fp => ets_can ets_nil) (fun s H C cl fp => pe_dget (hu s H C cl fp) (ha s H C cl fp) (hb s H C cl fp) hsl) hs, fun P g ρ σ H d Q s e q => ?_⟩
  obtain ⟨ds, e1, e⟩ := bind_some e
  obtain ⟨ys, e2, e⟩ := bind_some e
  cases e
  -- the dict
  obtain ⟨dd, ov, hρ, hσ, cell⟩ := s.cells.get hk
  obtain ⟨v0, fp0, rfl, rp0, old0, nd0⟩ := cell
  have hds : ∃ ks l ns, dd = .dic false ks l ∧ keysI ks = some ns ∧ ds = (srtI ns).map D.int := by
    unfold iLst at e1
    obtain ⟨x, ex, e1⟩ := bind_some e1
    obtain ⟨as, eas, ex⟩ := bind_some ex
    obtain ⟨y, ey, eas⟩ := bind_some eas
    obtain ⟨z, ez, eas⟩ := bind_some eas
    cases ez; cases eas
    have ey : ρ[i]? = some y := ey
    rw [hρ] at ey; cases ey
    unfold dSortK at ex
    split at ex
    · rename_i ks l eq
      cases eq
      obtain ⟨ns, en, ex⟩ := bind_some ex
      split at ex
      · cases ex
        cases e1
        exact ⟨ks, l, ns, rfl, en, rfl⟩
      · cases ex
    · cases ex
  obtain ⟨ks, l, ns, rfl, en, rfl⟩ := hds
  have rp0' := rp0
  simp only [Rep] at rp0'
  obtain ⟨A, vs, f0, rfl, ⟨⟨hl0, hnd⟩, kl, ek, rd⟩, rl, rfl⟩ := rp0'
  have eks := keysI_of en
  have ekl : kl = ns.map Sum.inl := by
    have : kl.map Ky.k = (ns.map Sum.inl).map Ky.k := by rw [← ek, eks, List.map_map]; rfl
    exact (List.map_inj_right (fun a b h => by cases h; rfl)).mp this
  have hnl : ns.length = vs.length := by rw [← hl0, eks, List.length_map]
  have hnn : ns.Nodup := by
    rw [eks] at hnd
    exact (List.pairwise_map.mp hnd).imp fun h z => h (by rw [z])
  obtain ⟨T, hT1, rfl, rfl, rfl, hT5⟩ := rows_of hnl rl
  subst hT1
  obtain ⟨U, hU, hU2⟩ := perm_pick (f := Row.k) (xs := T) (List.mergeSort_perm (T.map Row.k) fun i j => decide (i ≤ j)) rfl
  have hU2 : srtI (T.map Row.k) = U.map Row.k := hU2
  rw [hU2] at e2 e1
  have hlk := fun t ht => row_val hnn t (hU.mem_iff.mp ht)
  have hksT : ks = T.map rKy := by rw [eks, List.map_map]; rfl
  subst hksT
  have hklT : kl = T.map fun t => (Sum.inl t.k : L2.Key) := by rw [ekl, List.map_map]; rfl
  subst hklT
  -- what is told
  have hys : ∀ {R : List Row} {zs : List D}, (∀ t ∈ R, t ∈ U) → lcL (gF (gN j)) cYes (eP dGet (aCons (eVar i) (aCons (eVar j) aNil))) ρ ((R.map Row.k).map D.int) = some zs → zs = R.map Row.d := by
    intro R
    induction R with
    | nil => intro zs _ h; cases h; rfl
    | cons t R ih =>
      intro zs hm h
      obtain ⟨ρ1, bb, h1, h2, h3⟩ := lcL_cons (by simpa using h)
      rcases h3 with ⟨rfl, y, r, h4, h5, rfl⟩ | ⟨rfl, _⟩
      · have := ih (fun u hu => hm u (List.mem_cons_of_mem _ hu)) (by simpa using h5)
        subst this
        rw [List.map_cons]
        congr 1
        have h1 : some (ρ.set j (.int t.k)) = some ρ1 := h1
        cases h1
        obtain ⟨as, eas, h4⟩ := bind_some h4
        obtain ⟨x, ex, eas⟩ := bind_some eas
        obtain ⟨r1, er, eas⟩ := bind_some eas
        obtain ⟨y', ey, er⟩ := bind_some er
        obtain ⟨r2, er2, er⟩ := bind_some er
        cases er2; cases er; cases eas
        have ex : (ρ.set j (.int t.k))[i]? = some x := ex
        have ey : (ρ.set j (.int t.k))[j]? = some y' := ey
        rw [List.getElem?_set_ne (Ne.symm hij), hρ] at ex
        cases ex
        have hjl : j < ρ.length := by
          cases hq : (ρ.set j (.int t.k))[j]? with
          | none => rw [hq] at ey; cases ey
          | some w => have := (List.getElem?_eq_some_iff.mp hq).1; simpa using this
        rw [List.getElem?_set_self hjl] at ey
        cases ey
        have h4 : lkD (T.map rKy) (T.map Row.d) (rKy t) = some y := h4
        rw [(hlk t (hm t List.mem_cons_self)).2] at h4
        exact (Option.some.inj h4).symm
      · cases h2
  have hysU := hys (fun t ht => ht) e2
  subst hysU
  have hfU : (U.map Row.f).flatten.Perm (T.map Row.f).flatten := (hU.map _).flatten
  refine ki P g ρ σ H _ _ s e1 fun J H1 x1 hz it => ?_
  obtain ⟨fpI, lb, walk⟩ := it
  intro Dp hD
  have s1 : Sta X.vm P LL Γ (relab g H H1 .non n n) ρ σ H1 := s.relab x1
  have hg1 : ∀ a, H a ≠ none → relab g H H1 .non n n a = g a := fun a h => relab_old h
  generalize eg1 : relab g H H1 .non n n = g1 at s1 hg1
  have hUl : ((U.map Row.k).map D.int).length = U.length := by simp
  refine ⟨fun t r Hc => r = U.length - t ∧ t ≤ U.length ∧ Hc Dp = some (.lst ((U.map Row.v).take t)) ∧ Ext H1 Hc, ⟨U.length, by omega, Nat.zero_le _, by rw [upd_same]; rfl, Ext.put hD⟩, ?_⟩
  rintro t r Hc ⟨rfl, htl, hDc, xc⟩
  obtain ⟨wk, wstop⟩ := walk Hc (xc.kept _)
  by_cases ht : t < U.length
  · refine .inr ?_
    have hUt : U[t]? = some U[t] := List.getElem?_eq_getElem ht
    have hmU : U[t] ∈ U := List.getElem_mem ht
    have hit : ((U.map Row.k).map D.int)[t]? = some (.int U[t].k) := by rw [List.getElem?_map, List.getElem?_map, hUt]; rfl
    obtain ⟨go, yl⟩ := wk t _ hit
    generalize hw : U[t] = w at *
    refine ⟨go, fun H' => t + 1 ≤ U.length ∧ H' Dp = some (.lst ((U.map Row.v).take (t + 1))) ∧ Ext H1 H', fun H' h => ⟨U.length - (t + 1), by omega, rfl, h⟩, fun x H3 y => ?_⟩
    obtain ⟨x3, fx, rx, of, sub⟩ := yl x H3 y
    have x13 : Ext H1 H3 := xc.trans x3
    have s3 : Sta X.vm P LL (wipeK Γ (own.map (·.2))) g1 ρ (wipe σ (own.map (·.2))) H3 := ⟨s1.loc.ext x13, Cells.wipe (s1.ext x13).cells _⟩
    refine ⟨P, LL, g1, ρ, .int w.k, ρ.set j (.int w.k), s3, fps_cell s.loc rx of hn (fun a ha => by rw [eg1]), rfl, fun σ4 s4 w4 => ⟨?_, ?_⟩⟩
    · rw [w4 _ hS]
      apply List.ext_getElem?
      intro q
      rw [wipe_get, wipe_get]
      split
      · cases σ[q]? <;> rfl
      · rfl
    refine ⟨P, g1, ρ.set j (.int w.k), true, s4, rfl, fun H4 x4 => ?_⟩
    refine iteT ?_
    -- d[k]
    have hσi : σ4[i]? = some (some (.ref A)) := by
      have h1 := congrArg (fun z : L2.St => z[i]?) (w4 _ hS)
      rw [wipe_get, wipe_get, ho] at h1
      have hni : i ∉ [j] := by simpa using hij
      rw [if_neg hni, if_neg hni, ← ho, wipe_get, ho, if_neg hni] at h1
      rw [h1]; exact hσ
    obtain ⟨dj, ovj, hρj, hσj, cj⟩ := s4.cells.get hj1
    obtain ⟨vj, rfl, rj⟩ := cj
    have hjl : j < ρ.length := by
      have := (List.getElem?_eq_some_iff.mp hρj).1
      simpa using this
    rw [List.getElem?_set_self hjl] at hρj
    cases hρj
    obtain rfl := rInt rj
    have x04 : Ext H H4 := x1.trans (xc.trans (x3.trans x4))
    refine ⟨.ref A, hσi, .int w.k, hσj, A, w.v, rfl, .inl ⟨_, .inl w.k, x04.rd rd, rfl, (hlk w hmU).1.symm⟩, ?_⟩
    have hD4 : H4 Dp = some (.lst ((U.map Row.v).take t)) := x4 _ _ (x3 _ _ hDc)
    refine ⟨_, hD4, ?_, by omega, ?_, ?_⟩
    · rw [List.length_take, List.length_map]
      rw [hUl] at hz
      omega
    · rw [upd_same, List.take_add_one, List.getElem?_map, hUt]
      rfl
    · intro c u h
      rw [upd_ne (ne_of_none h hD)]
      exact x4 c u (x3 c u (xc c u h))
  · have : t = U.length := by omega
    subst this
    refine .inl ⟨by rw [hUl] at wstop; exact wstop, ?_⟩
    rw [List.take_of_length_le (by simp)] at hDc
    have x0c : Ext H Hc := x1.trans xc
    have hDn : H Dp = none := x1.nope hD
    have rlU : RepL X.vm Hc (U.map Row.d) (U.map Row.v) (U.map Row.f).flatten := (repL_rows fun t ht => hT5 t (hU.mem_iff.mp ht)).ext x0c
    have hDf : Dp ∉ (U.map Row.f).flatten := fun hm => rl.there Dp (hfU.mem_iff.mp hm) hDn
    have n0 := List.nodup_cons.mp (nd0.1 rfl)
    refine q _ Hc x0c ⟨Dp :: (U.map Row.f).flatten, ?_, fun c hc => ?_, .cons hDf fun _ => hfU.nodup_iff.mpr n0.2⟩
    · simp only [Rep]
      exact ⟨Dp, _, _, rfl, hDc, rlU, rfl⟩
    · rcases List.mem_cons.mp hc with rfl | hc
      · exact .inl ⟨rfl, hDn, by rw [hDc]; trivial⟩
      · refine .inr ⟨.inl fun z => by cases z; exact hDf hc, .inr ?_⟩
        have hc0 := hfU.mem_iff.mp hc
        rcases old0 c (List.mem_cons_of_mem _ hc0) with ⟨z, _⟩ | ⟨_, z⟩
        · cases z
          exact absurd hc0 n0.1
        · exact z
end
end VV

/-! ## VEach -/
/-! for x in l: x.append(c) (lists that are unlike objects); l[i].clear() -/
namespace VV
open PySem PySem.Spec PyProof.Rows L2
section
variable {mg : Mg} {H : Hp}
/-- the list that stands at a place, changed -/
theorem repL_inner : ∀ {rows : List D} {vs : List V} {f : List Addr} {t : Nat} {r : List D}, RepL mg H rows vs f → rows[t]? = some (.lst r) → f.Nodup →
    ∃ b us fr, vs[t]? = some (.ref b) ∧ H b = some (.lst us) ∧ RepL mg H r us fr ∧ b ∈ f ∧ b ∉ fr ∧ ∀ us' r' fr', fr'.Sublist fr → RepL mg (upd H b (.lst us')) r' us' fr' → ∃ f', f'.Sublist f ∧ RepL mg (upd H b (.lst us')) (rows.set t (.lst r')) vs f'
  | [], _, _, _, _, _, e, _ => by simp at e
  | d0 :: rows, _, _, 0, r, h, e, hf => by
    simp only [RepL] at h
    obtain ⟨v, r0, f1, f2, rfl, h1, h2, rfl⟩ := h
    simp at e; subst e
    obtain ⟨nf1, nf2, dj⟩ := List.nodup_append.mp hf
    simp only [Rep] at h1
    obtain ⟨b, us, fr, rfl, hb, rr, rfl⟩ := h1
    obtain ⟨hbf, nfr⟩ := List.nodup_cons.mp nf1
    have hb2 : b ∉ f2 := fun hm => dj b List.mem_cons_self b hm rfl
    refine ⟨b, us, fr, rfl, hb, rr, List.mem_append_left _ List.mem_cons_self, hbf, fun us' r' fr' hs rr' => ⟨(b :: fr') ++ f2, (hs.cons₂ b).append (List.Sublist.refl _), ?_⟩⟩
    simp only [List.set_cons_zero, RepL]
    refine ⟨.ref b, r0, b :: fr', f2, rfl, ?_, repL_upd h2 hb2 hb trivial, rfl⟩
    simp only [Rep]
    exact ⟨b, us', fr', rfl, upd_same, rr', rfl⟩
  | d0 :: rows, _, _, t + 1, r, h, e, hf => by
    simp only [RepL] at h
    obtain ⟨v, r0, f1, f2, rfl, h1, h2, rfl⟩ := h
    obtain ⟨nf1, nf2, dj⟩ := List.nodup_append.mp hf
    obtain ⟨b, us, fr, e1, hb, rr, hm, hbf, hh⟩ := repL_inner (t := t) h2 (by simpa using e) nf2
    have hb1 : b ∉ f1 := fun hm1 => dj b hm1 b hm rfl
    refine ⟨b, us, fr, by simpa using e1, hb, rr, List.mem_append_right _ hm, hbf, fun us' r' fr' hs rr' => ?_⟩
    obtain ⟨f', s', k⟩ := hh us' r' fr' hs rr'
    refine ⟨f1 ++ f', (List.Sublist.refl _).append s', ?_⟩
    simp only [List.set_cons_succ, RepL]
    exact ⟨v, r0, f1, f', rfl, rep_upd h1 hb1 hb trivial, k, rfl⟩
theorem kill_dead {l : Nat} {L : List Nat} {Γ : List Kd} (h : l ∈ L) (j : Nat) (k : Kd) (hk : (killL L Γ)[j]? = some k) : k.has l = false := by
  unfold killL at hk
  rw [List.getElem?_map] at hk
  obtain ⟨q, _, rfl⟩ := Option.map_eq_some_iff.mp hk
  split
  · rfl
  · rename_i hn
    cases e : q.has l with
    | false => rfl
    | true => exact absurd (List.any_eq_true.mpr ⟨l, h, e⟩) hn
end
def oneMore (c : Int) : D → D
  | .lst r => .lst (r ++ [.int c])
  | d => d
def D.short : D → Bool
  | .lst r => decide (r.length < 1000000)
  | _ => false
/-- each of the lists in the slot i gets the number c -/
def sEach (i : Nat) (c : Int) : Sv := fun ρ => match ρ[i]? with
  | some (.lst rows) => if rows.all D.short then some (.nx (ρ.set i (.lst (rows.map (oneMore c))))) else none
  | _ => none
/-- the list at a place of the list in the slot i is emptied -/
def sAtClear (i : Nat) (e : Ev) : Sv := fun ρ => match ρ[i]?, e ρ with
  | some (.lst rows), some (.int k) => (ixN rows.length k).bind fun t => match rows[t]? with
    | some (.lst _) => some (.nx (ρ.set i (.lst (rows.set t (.lst [])))))
    | _ => none
  | _, _ => none
section
variable {X : Cx} {W : L2.WX} {sc : Sc} {Γ : List Kd} {pos : Pos}
theorem sx_each {i j : Nat} {x y : Str} {px py py2 ap cp pe : Pos} {kc} {pc : Pos} {c : Int} {n : Nat} {L : List Nat} (hk : Γ[i]? = some (.lab (some n) L true)) (hij : i ≠ j) (hj : j < Γ.length) (hc : X.calm = true) (hp : PassesOwn (model X.prog X.w) X.A X.env X.xe)
    (hN : X.N.Nodup) (hx : X.N[i]? = some x) (hv : Vis X.env.scope x) (hy : X.N[j]? = some y) (hyl : L2.Loc X.env.scope y) (hyv : Vis X.env.scope y) (hyf : X.fn y = true ∨ X.env.scope.names.lookup y = some .local)
    (hL : ∀ l ∈ L, l ≠ 0 ∧ l ∉ sc.LL ∧ l ≠ n := by decide) (hn : n ≠ 0 := by decide)
    (hdb : (x == ("__debug__" : Str)) = false := by decide) (hcd : (x == ("__classdict__" : Str)) = false := by decide) (hdb2 : (y == ("__debug__" : Str)) = false := by decide) (hcd2 : (y == ("__classdict__" : Str)) = false := by decide)
    (hbase : attributeBase (.Name y py2) "append" X.env (eval (.Name y py2) X.env) = eval (.Name y py2) X.env := by rfl)
    (hfew : ((backTo cp (starEach [.Constant (.int c) kc pc] X.env)).all (fun x => !x.1) && (backToKw cp (keywordEach [] X.env)).all (fun x => x.1.isSome)
      && decide ([Expr.Constant (.int c) kc pc].length + ([] : List Keyword).length + (if ([] : List Keyword).isEmpty then 0 else 1) < 30)) = true := by rfl)
    (hline : (ap.endLine == cp.line) = true := by rfl) (hs : starEach [.Constant (.int c) kc pc] X.env = (false, eval (.Constant (.int c) kc pc) X.env) :: starEach [] X.env := by rfl) (hplain : (backTo cp (starEach [] X.env)).any (·.1) = false := by rfl)
    (hsw : swapsWith (.Call (.Attribute (.Name y py2) "append" ap) [.Constant (.int c) kc pc] [] cp) none pe.line X.env = pure false := by rfl)
    (hfs : ∀ z, foldedSetIterable (.Name x px) X.env z = pure z := by intro _; rfl) :
    SX X W sc Γ (.For (.Name y py) (.Name x px) [.Expr (.Call (.Attribute (.Name y py2) "append" ap) [.Constant (.int c) kc pc] [] cp) pe] [] pos) (sEach i c) (((killL L Γ).set j .dead).set i (.lab (some n) L true)) := by
  refine ⟨_, ps_for hp hc (pi_list (pe_var hx hv hdb hcd)) (pg_name hN hy hyl hyf) (pss_one (ps_expr (pe_bm PySem.F.plainAttrs_list PySem.F.slot_list_append PySem.F.type_list_append mt_append (pe_var hy hyv hdb2 hcd2) (pa_cons pe_int pa_nil hs) hbase hfew hline hs hplain) hsw)) hfs, fun P g ρ σ H o De s e w => ?_⟩
  unfold sEach at e
  split at e
  case h_2 => cases e
  rename_i rows hρ
  split at e
  case isFalse => cases e
  rename_i hall
  cases e
  obtain ⟨dd, ov, h1, h2, h3⟩ := s.cells.get hk
  rw [hρ] at h1; cases h1
  obtain ⟨v, fp, rfl, r, q, z⟩ := h3
  simp only [Rep] at r
  obtain ⟨a, vs, f, rfl, ha, rl, rfl⟩ := r
  have nd := List.nodup_cons.mp (z.1 rfl)
  have hga : g a = n := root_lab q
  have oldf : ∀ b ∈ f, Old P g L b := fun b hb => by
    rcases q b (List.mem_cons_of_mem _ hb) with ⟨e, _⟩ | ⟨_, y⟩
    · cases e; exact absurd hb nd.1
    · exact y
  have hi : i < Γ.length := (List.getElem?_eq_some_iff.mp hk).1
  generalize hΓ : ((killL L Γ).set j .dead).set i (.lab (some n) L true) = Γt at *
  have hΓi : Γt[i]? = some (.lab (some n) L true) := by rw [← hΓ, List.getElem?_set_self (by rw [List.length_set]; unfold killL; rw [List.length_map]; exact hi)]
  have hΓj : Γt[j]? = some .dead := by rw [← hΓ, List.getElem?_set_ne hij, List.getElem?_set_self (by unfold killL; rw [List.length_map]; exact hj)]
  have hΓl : Γt.length = Γ.length := by rw [← hΓ]; simp [killL]
  -- the state of a turn
  have mk : ∀ (H' : Hp) (rs : List D) (f' : List Addr), f'.Sublist f → RepL X.vm H' rs vs f' → H' a = some (.lst vs) → CellOk X.vm P g H' (.lab (some n) L true) (.lst rs) (some (.ref a)) := fun H' rs f' hs hr ha' => by
    have haf : a ∉ f' := fun hm => nd.1 (hs.subset hm)
    refine ⟨.ref a, a :: f', rfl, ?_, fun b hb => ?_, fun _ => List.nodup_cons.mpr ⟨haf, nd.2.sublist hs⟩, fun _ b g' e1 e2 => by cases e2; exact haf⟩
    · simp only [Rep]
      exact ⟨a, vs, f', rfl, ha', hr, rfl⟩
    · rcases List.mem_cons.mp hb with rfl | hb
      · exact .inl ⟨rfl, n, rfl, by rw [hga]; exact List.mem_singleton.mpr rfl, fun z => by rw [hga] at z; exact absurd z hn⟩
      · exact .inr ⟨.inl fun e => by cases e; exact haf hb, oldf b (hs.subset hb)⟩
  have hlen := rl.length
  refine ⟨.ref a, h2, a, rfl, ⟨vs, SqL.of ha⟩, fun t m σ' H' => m = rows.length - t ∧ t ≤ rows.length ∧ σ'[i]? = some (some (.ref a)) ∧ H' a = some (.lst vs) ∧ Step sc.LL g H g H' ∧
    Sta X.vm P sc.LL Γt g (ρ.set i (.lst ((rows.take t).map (oneMore c) ++ rows.drop t))) σ' H' ∧ ∃ f', f'.Sublist f ∧ RepL X.vm H' ((rows.take t).map (oneMore c) ++ rows.drop t) vs f', ?_, ?_⟩
  · refine ⟨rows.length, rfl, Nat.zero_le _, h2, ha, .refl, ?_, f, List.Sublist.refl _, by simpa using rl⟩
    refine ⟨s.loc, ?_⟩
    have := Cells.put i (Cells.weak (Γ' := (killL L Γ).set j .dead) s.cells (by simp [killL]) fun t => ?_) (mk H rows f (List.Sublist.refl _) rl ha) h2
    · rw [hΓ] at this
      simpa using this
    · by_cases e : j = t
      · subst e; right
        rw [List.getElem?_set_self (by unfold killL; rw [List.length_map]; exact hj)]
      · rw [List.getElem?_set_ne e]
        unfold killL
        rw [List.getElem?_map]
        cases Γ[t]? with
        | none => left; rfl
        | some k =>
          simp only [Option.map_some]
          split
          · right; rfl
          · left; rfl
  rintro t m σ' H' ⟨rfl, htl, hσi, ha', st, sta, f', hf', rl'⟩
  by_cases ht : t < rows.length
  · refine .inr ?_
    have hrt : rows[t]? = some rows[t] := List.getElem?_eq_getElem ht
    have hsh := List.all_eq_true.mp hall rows[t] (List.getElem_mem ht)
    cases hr : rows[t] with
    | lst r =>
      rw [hr] at hrt hsh
      have hrl : r.length < 1000000 := by simpa [D.short] using hsh
      have hcur : ((rows.take t).map (oneMore c) ++ rows.drop t)[t]? = some (.lst r) := by
        rw [List.getElem?_append_right (by simp; omega)]
        simp only [List.length_map, List.length_take]
        rw [List.getElem?_drop]
        have : t + (t - min t rows.length) = t := by omega
        rw [this]; exact hrt
      obtain ⟨b, us, fr, e1, hb, rr, hbm, hbf, hh⟩ := repL_inner rl' hcur (nd.2.sublist hf')
      refine ⟨⟨vs, .ref b, SqL.of ha', e1⟩, fun σ' H' => t + 1 ≤ rows.length ∧ σ'[i]? = some (some (.ref a)) ∧ H' a = some (.lst vs) ∧ Step sc.LL g H g H' ∧
        Sta X.vm P sc.LL Γt g (ρ.set i (.lst ((rows.take (t + 1)).map (oneMore c) ++ rows.drop (t + 1)))) σ' H' ∧ ∃ f', f'.Sublist f ∧ RepL X.vm H' ((rows.take (t + 1)).map (oneMore c) ++ rows.drop (t + 1)) vs f', fun σ' H' h => ⟨rows.length - (t + 1), by omega, rfl, h⟩, fun xv H3 yl => ?_⟩
      obtain ⟨rfl, yl⟩ := yl
      have := yl vs (SqL.of ha')
      rw [e1] at this; cases this
      have hjσ : j < σ'.length := by
        have hc := sta.cells
        obtain ⟨_, ov, _, h4, _⟩ := hc.get hΓj
        exact (List.getElem?_eq_some_iff.mp h4).1
      refine ⟨.ref b, by rw [List.getElem?_set_self hjσ], .inl ⟨rfl, _, .inl (.inl hb)⟩, ?_⟩
      refine ⟨b, us, .int c, rfl, rfl, hb, by rw [rr.length, sizeLine_eq]; omega, ?_⟩
      obtain ⟨f2, hf2, rl2⟩ := hh (us ++ [.int c]) (r ++ [.int c]) fr (List.Sublist.refl _) (by
        have h5 := (repL_upd rr hbf hb trivial (o' := .lst (us ++ [.int c]))).append (.one (rep_int (i := c)))
        rw [List.append_nil] at h5
        exact h5)
      have ob := oldf b (hf'.subset hbm)
      have hlb := hL _ ob.1
      have hba : b ≠ a := fun z => nd.1 (z ▸ hf'.subset hbm)
      have enext : ((rows.take t).map (oneMore c) ++ rows.drop t).set t (.lst (r ++ [.int c])) = (rows.take (t + 1)).map (oneMore c) ++ rows.drop (t + 1) := by
        rw [List.set_append_right _ _ (by simp; omega)]
        simp only [List.length_map, List.length_take]
        have h0 : t - min t rows.length = 0 := by omega
        rw [h0, List.drop_eq_getElem_cons ht, List.set_cons_zero, List.take_add_one, hrt]
        simp [oneMore]
      rw [enext] at rl2
      have ha2 : (upd H3 b (.lst (us ++ [.int c]))) a = some (.lst vs) := by rw [upd_ne (Ne.symm hba)]; exact ha'
      have hσ2 : (σ'.set j (some (.ref b)))[i]? = some (some (.ref a)) := by rw [List.getElem?_set_ne (Ne.symm hij)]; exact hσi
      have sta2 : Sta X.vm P sc.LL Γt g (ρ.set i (.lst ((rows.take t).map (oneMore c) ++ rows.drop t))) (σ'.set j (some (.ref b))) H3 := by
        refine ⟨sta.loc, ?_⟩
        have := Cells.kill (ov := some (.ref b)) j sta.cells
        have e : Γt.set j .dead = Γt := by
          apply List.ext_getElem?
          intro q
          by_cases e : j = q
          · subst e; rw [List.getElem?_set_self (by rw [hΓl]; exact hj), hΓj]
          · rw [List.getElem?_set_ne e]
        rw [e] at this
        exact this
      obtain ⟨s3, st3⟩ := sta2.put (i := i) (o' := .lst (us ++ [.int c])) hb trivial trivial rfl hlb.1 hlb.2.1 hσ2 (mk _ _ f2 (hf2.trans hf') rl2 ha2)
      refine ⟨by omega, hσ2, ha2, st.trans st3, ⟨s3.loc, ?_⟩, f2, hf2.trans hf', rl2⟩
      have h6 := s3.cells
      rw [List.set_set] at h6
      refine Cells.weak h6 (by simp [killK]) fun q => ?_
      by_cases e : i = q
      · subst e
        left
        rw [hΓi, List.getElem?_set_self (by unfold killK; rw [List.length_map, hΓl]; exact hi)]
      · left
        rw [List.getElem?_set_ne e]
        unfold killK
        rw [List.getElem?_map]
        cases hq : Γt[q]? with
        | none => rfl
        | some k =>
          simp only [Option.map_some]
          have : k.has (g b) = false := by
            rw [← hΓ, List.getElem?_set_ne e] at hq
            by_cases e2 : j = q
            · subst e2
              rw [List.getElem?_set_self (by unfold killL; rw [List.length_map]; exact hj)] at hq
              cases hq; rfl
            · rw [List.getElem?_set_ne e2] at hq
              exact kill_dead ob.1 q k hq
          rw [this]
          rfl
    | _ => rw [hr] at hsh; cases hsh
  · have : t = rows.length := by omega
    subst this
    refine .inl ⟨⟨vs, SqL.of ha', by rw [hlen]; exact Nat.le_refl _⟩, ?_⟩
    rw [List.take_length, List.drop_length, List.append_nil] at sta
    exact w g σ' H' st sta
theorem sx_atClear {i : Nat} {x : Str} {px ps ap cp : Pos} {ix : Expr} {se : Ev} {n : Nat} {L : List Nat} (hk : Γ[i]? = some (.lab (some n) L true)) (hN : X.N[i]? = some x) (hv : Vis X.env.scope x) (he : EX X sc.LL Γ ix se .flat) (hL : ∀ l ∈ L, l ≠ 0 ∧ l ∉ sc.LL ∧ l ≠ n := by decide) (hn : n ≠ 0 := by decide)
    (hdb : (x == ("__debug__" : Str)) = false := by decide) (hcd : (x == ("__classdict__" : Str)) = false := by decide) (hsx : PlainIx ix := by exact fun _ _ => rfl)
    (hbase : attributeBase (.Subscript (.Name x px) ix ps) "clear" X.env (eval (.Subscript (.Name x px) ix ps) X.env) = eval (.Subscript (.Name x px) ix ps) X.env := by rfl)
    (hline : (ap.endLine == cp.line) = true := by rfl)
    (hsw : swapsWith (.Call (.Attribute (.Subscript (.Name x px) ix ps) "clear" ap) [] [] cp) none pos.line X.env = pure false := by rfl) :
    SX X W sc Γ (.Expr (.Call (.Attribute (.Subscript (.Name x px) ix ps) "clear" ap) [] [] cp) pos) (sAtClear i se) ((killL L Γ).set i (.lab (some n) L true)) := by
  obtain ⟨tb, pb, kb⟩ := he
  refine ⟨_, ps_expr (pe_bm0 PySem.F.plainAttrs_list PySem.F.slot_list_clear PySem.F.type_list_clear mt_clear (pe_ix ix_seq (pe_var hN hv hdb hcd) pb hsx) hbase hline) hsw, fun P g ρ σ H o De s e w => ?_⟩
  unfold sAtClear at e
  split at e
  case h_2 => cases e
  rename_i rows k hρ hse
  obtain ⟨t, et, e⟩ := bind_some e
  split at e
  case h_2 => cases e
  rename_i r hrt
  cases e
  obtain ⟨dd, ov, h1, h2, h3⟩ := s.cells.get hk
  rw [hρ] at h1; cases h1
  obtain ⟨v, fp, rfl, rp, q, z⟩ := h3
  simp only [Rep] at rp
  obtain ⟨a, vs, f, rfl, ha, rl, rfl⟩ := rp
  have nd := List.nodup_cons.mp (z.1 rfl)
  have hga : g a = n := root_lab q
  have oldf : ∀ b ∈ f, Old P g L b := fun b hb => by
    rcases q b (List.mem_cons_of_mem _ hb) with ⟨e, _⟩ | ⟨_, y⟩
    · cases e; exact absurd hb nd.1
    · exact y
  refine ⟨.ref a, h2, ?_⟩
  refine kb P g ρ σ H _ _ s hse fun y H2 x2 wy => ?_
  have ry : Rep X.vm H2 (.int k) y [] := wy
  obtain rfl := rInt ry
  have ha2 : H2 a = some (.lst vs) := x2 a _ ha
  obtain ⟨b, us, fr, e1, hb, rr, hbm, hbf, hh⟩ := repL_inner (rl.ext x2) hrt nd.2
  refine .inl ⟨a, vs, k, .ref b, rfl, rfl, SqL.of ha2, by unfold atI; rw [rl.length, et]; exact e1, ?_⟩
  refine ⟨.inl ⟨rfl, _, .inl (.inl hb)⟩, ?_⟩
  obtain ⟨f2, hf2, rl2⟩ := hh [] [] [] (List.nil_sublist _) (by simp [RepL])
  refine ⟨b, us, rfl, rfl, hb, ?_⟩
  have ob := oldf b hbm
  have hlb := hL _ ob.1
  have hba : b ≠ a := fun z => nd.1 (z ▸ hbm)
  have haf : a ∉ f2 := fun hm => nd.1 (hf2.subset hm)
  have cell : CellOk X.vm P g (upd H2 b (.lst [])) (.lab (some n) L true) (.lst (rows.set t (.lst []))) (some (.ref a)) := by
    refine ⟨.ref a, a :: f2, rfl, ?_, fun b hb => ?_, fun _ => List.nodup_cons.mpr ⟨haf, nd.2.sublist hf2⟩, fun _ b g' e1 e2 => by cases e2; exact haf⟩
    · simp only [Rep]
      exact ⟨a, vs, f2, rfl, by rw [upd_ne (Ne.symm hba)]; exact ha2, rl2, rfl⟩
    · rcases List.mem_cons.mp hb with rfl | hb
      · exact .inl ⟨rfl, n, rfl, by rw [hga]; exact List.mem_singleton.mpr rfl, fun z => by rw [hga] at z; exact absurd z hn⟩
      · exact .inr ⟨.inl fun e => by cases e; exact haf hb, oldf b (hf2.subset hb)⟩
  obtain ⟨s3, st3⟩ := (s.ext x2).put (i := i) (o' := .lst []) hb trivial trivial rfl hlb.1 hlb.2.1 h2 cell
  refine w g σ _ ((Step.ext x2).trans st3) ⟨s3.loc, ?_⟩
  refine Cells.weak s3.cells (by simp [killL, killK]) fun q => ?_
  by_cases e : i = q
  · subst e
    have hi : i < Γ.length := (List.getElem?_eq_some_iff.mp hk).1
    left
    rw [List.getElem?_set_self (by unfold killL; rw [List.length_map]; exact hi), List.getElem?_set_self (by unfold killK; rw [List.length_map]; exact hi)]
  · rw [List.getElem?_set_ne e, List.getElem?_set_ne e]
    unfold killL killK
    rw [List.getElem?_map, List.getElem?_map]
    cases Γ[q]? with
    | none => left; rfl
    | some k =>
      simp only [Option.map_some]
      by_cases h : L.any (fun n => k.has n) = true
      · right; rw [if_pos h]
      · left
        rw [if_neg h]
        have : k.has (g b) = false := by
          cases e : k.has (g b) with
          | false => rfl
          | true => exact absurd (List.any_eq_true.mpr ⟨_, ob.1, e⟩) h
        rw [this]
        rfl
end
end VV

/-! ## VAnyH -/
/-! any(list) while an exception is handled -/
namespace VV
open PySem PySem.Spec PyProof.Rows L2 HotX
section
variable {prog : Program} {w : World} {A : Around} {E : Value → Shared → Prop} {s : Shared}
theorem pyNext_list_end_hot {it l x1 : Addr} {i : Nat} {items : Array Value} {Q : Option Value → Shared → Prop} (hot : HotAt A x1 s.heap) (hx1 : x1 ≠ it)
    (hit : s.heap.IsListIter it l i) (hl : s.heap.IsList l items) (hx : items[i]? = none)
    (hQ : ∀ h', (∀ b o, b ≠ it → s.heap.get? b = some o → h'.get? b = some o) → Q none { s with heap := h' }) : wpAny (model prog w) A (pyNext (.ref it)) Q E s := by
  obtain ⟨o, ho, hc, hd⟩ := id hit
  obtain ⟨ol, hol, _, nl, hdl⟩ := hl
  obtain ⟨hh, o1, vs1, h1, d1, c1⟩ := hot
  unfold pyNext
  refine wpAny_bind (wpAny_attempt (wpAny_callSpecial?_slot (name := Str.ofString "__next__") hit.typeIs slot_listiter_next
    (wpAny_call_entry slot_listiter_next hit.typeIs entry_listiter_next ?_ (args_listiter_next _))))
  show wpAny _ _ (field (.ref it) 0 >>= _) _ _ s
  refine wpAny_bind (wpAny_field ho hd (x := .ref l) rfl ?_)
  show wpAny _ _ (if (Value.ref l == Value.none) = true then _ else _) _ _ s
  rw [if_neg (show ¬ ((Value.ref l == Value.none) = true) from Bool.false_ne_true)]
  show wpAny _ _ (field (.ref it) 1 >>= _) _ _ s
  refine wpAny_bind (wpAny_field ho hd (x := .int i 0) rfl ?_)
  show wpAny _ _ (seqItems? (.ref l) >>= _) _ _ s
  refine wpAny_bind (wpAny_seqItems hol hdl ?_)
  simp only [Int.toNat_natCast, hx]
  refine wpAny_bind (wpAny_rule (wpAny_bind (wpAny_setField ho hd (by simp) ?_)))
  show wpAny _ _ (newExc (.type "StopIteration") [] >>= _) _ _ _
  refine wpAny_bind ?_
  simp only [newExc, newTuple]
  refine wpAny_bind (wpAny_newObj_type ?_ (by size_fits))
  refine wpAny_bind (m := firstArgMember _ _) (wpAny_of_eq (a := Value.none) (by first | rfl | (simp only [firstArgMember]; rfl)) ?_)
  refine wpAny_newObj_type ?_ (by size_fits)
  have h1u := (Heap.get?_update_other (h := s.heap) (a := it) (b := x1) (Obj.mapFields (·.setIfInBounds 0 .none)) (Ne.symm hx1)).trans h1
  refine raiseNew_hot ⟨hh, o1, vs1, Heap.get?_push_of_some _ (Heap.get?_push_of_some _ h1u), d1, c1⟩ (Nat.ne_of_lt (Heap.lt_size (Heap.get?_push_of_some _ h1u))) (Heap.get?_push_size _ rfl) rfl (by first | (simp; done) | (simp; omega) | (simp only [Array.size_append]; simp; omega)) ?_
  refine wpAny_bind (wpAny_isInstance (T := "StopIteration") (b := true) ⟨_, Heap.get?_update_self _ (Heap.get?_push_size _ rfl) rfl, rfl⟩ isSubtype_stop ?_)
  refine wpAny_pure (hQ _ fun b o nb e => ?_)
  have e1 := (Heap.get?_update_other (h := s.heap) (a := it) (b := b) (Obj.mapFields (·.setIfInBounds 0 .none)) (Ne.symm nb)).trans e
  rw [Heap.get?_update_other _ _ (Nat.ne_of_gt (Heap.lt_size (Heap.get?_push_of_some _ e1)))]
  exact Heap.get?_push_of_some _ (Heap.get?_push_of_some _ e1)
theorem walks_listH (I ax x1 : Addr) (hne : ax ≠ I) (hx : x1 ≠ I) (items : Array Value) :
    Walks prog w A I [I, ax, x1] [I] items.size (fun i v => items[i]? = some v) (fun i h => h.IsListIter I ax i ∧ h.IsList ax items ∧ HotAt A x1 h) where
  sub := fun b hb => by simp at hb; simp [hb]
  frame := fun _ _ _ st hk => ⟨st.1.at fun o e => hk I (by simp) o e, st.2.1.at fun o e => hk ax (by simp) o e, by
    obtain ⟨h1, o, vs, h2, h3, h4⟩ := st.2.2
    exact ⟨h1, o, vs, hk x1 (by simp) o h2, h3, h4⟩⟩
  item := fun i s Q E hi st hQ => by
    refine wpAny_pyNext_list_item st.1 st.2.1 (x := items[i]) (by simp [hi]) fun h' hit' hs' => ?_
    refine hQ _ h' s.toks (by simp [hi]) ⟨hit', st.2.1.extBut hs'.extBut hne, ?_⟩ fun b o hb e => hs'.extBut b o (fun h => hb (by simp [h])) e
    obtain ⟨h1, o, vs, h2, h3, h4⟩ := st.2.2
    exact ⟨h1, o, vs, hs'.extBut x1 o hx h2, h3, h4⟩
  done := fun s Q E st hQ => pyNext_list_end_hot st.2.2 hx st.1 st.2.1 (by simp) fun h' he' => hQ h' s.toks fun b o hb e => he' b o (fun h => hb (by simp [h])) e
  self := fun _ _ _ _ st hQ => wpAny_pyIter_listiter st.1 hQ
end
section
variable {X : Cx}
theorem cr_anyH (hc : L2H.HotC X) : CallR X (.builtin "any") (rAny X.K) := by
  intro pins s σ H vs us Q I r h
  obtain ⟨a, bs, rfl, hs, q⟩ := h
  obtain ⟨its, rv, hl, _⟩ := I.list hs
  rw [Vals.ref1 r]
  have hb := rv.bls
  obtain ⟨x1, hot⟩ := hc.at I
  have hot1 : HotAt X.A.in1 x1 s.heap := hot
  have hx1 : x1 < s.heap.objs.size := by obtain ⟨_, o, vs, h2, _⟩ := hot; exact Heap.lt_size h2
  refine call_any_walk (iter_any hl.isList fun s₂ e2 st hne => ?_)
  subst e2
  refine ⟨_, _, _, _, _, _, _, rfl, walks_listH (A := X.A.in1) _ a x1 hne (Nat.ne_of_lt hx1) its.toArray, ⟨st.1, st.2, ?_⟩, truth_bools hb, fun h' tk hk => ?_⟩
  · obtain ⟨h1, o, vs, h2, h3, h4⟩ := hot1
    exact ⟨h1, o, vs, Heap.get?_push_of_some _ h2, h3, h4⟩
  refine ⟨.bl _, H, I.kept fun b o eo => hk b o (fun hmem => ?_) (Heap.get?_push_of_some _ eo), ?_, q⟩
  · rcases List.mem_cons.mp hmem with e1 | hmem
    · exact absurd (e1 ▸ Heap.lt_size eo) (Nat.lt_irrefl _)
    · cases hmem
  · show Value.bool _ = Value.bool _
    rw [← L2.any_range, hb, List.size_toArray, List.length_map]
theorem hotC_of {a : Addr} {oe : Obj} {C : Addr} (hp : (a, oe) ∈ X.pn) (hz : L2N.Zn (.ref C) none oe) (hf : ∃ vs, oe.data = .fields vs) (hh : X.A.handled = some (.ref a)) : L2H.HotC X := by
  obtain ⟨vs, hv⟩ := hf
  exact ⟨(a, oe), ⟨hh, vs, hv, hz.2.2 vs hv⟩, hp⟩
end
end VV

/-! ## VCompK -/
/-! [e for k in d if c], d the dict in a slot -/
namespace VV
open PySem PySem.Spec PyProof.Rows L2
def iKeyD (i : Nat) : List D → Option (List D) := fun ρ => match ρ[i]? with
  | some (.dic _ ks _) => some (ks.map Ky.d)
  | _ => none
theorem pe_or {X : Cx} {e : Expr} {t t' : TE} (p : PE X e t) (p' : PE X e t') : PE X e (fun σ H Q => t σ H Q ∨ t' σ H Q) := ⟨fun pins s σ H Q I h => h.elim (p.run pins s σ H Q I) (p'.run pins s σ H Q I)⟩
def SizedD (H : Hp) : Prop := (∀ a o kvs, H a = some (.frz o (.dK kvs)) → kvs.length ≤ sizeLine) ∧ ∀ a o kvs, H a = some (.frz o (.dT kvs)) → kvs.length ≤ sizeLine
theorem pi_sizedD {X : Cx} {tg it : Expr} {wi : TI} (h : PI X tg it wi) : PI X tg it (fun σ H R => wi σ H fun J H1 => SizedD H1 → R J H1) := by
  refine ⟨fun pins s σ H R I hw => thn (h.run pins s σ H _ I hw) fun v s1 h1 => thn h1 fun u s2 ⟨it', fp, tn, J, H', e, I', T, t0, f, r⟩ => ?_⟩
  refine ⟨it', fp, tn, J, H', e, I', T, t0, f, r ⟨fun a o kvs q => ?_, fun a o kvs q => ?_⟩⟩
  · exact (I'.hok a _ q).2.1
  · exact (I'.hok a _ q).2.1
section
variable {X : Cx} {LL : List Nat} {Γ Γ1 : List Kd} {pos : Pos}
theorem ex_lcK {i : Nat} {x : Str} {px : Pos} {elt tg : Expr} {ifs : List Expr} {scope : Scope} {own : List (Str × Nat)} {t : Tv} {c : List D → Option Bool} {se : Ev} {S : List Nat} {k : Kd} (n : Nat)
    (hc : X.calm = true) (hN : X.N.Nodup) (hk : Γ[i]? = some k) (hd : k.use = true) (hx : X.N[i]? = some x) (hv : Vis X.env.scope x) (ok : BlkOk X.N X.env.scope scope own)
    (hg : ∀ (s : Shared) (H : Hp) (C : Addr) (cl : List (Str × Addr)) (fp : List Addr), EG (X.blk s H scope (compEnvC scope cl C X.env) fp) (wipeK Γ (own.map (·.2))) tg .flat t Γ1 S)
    (ht : ∀ (s : Shared) (H : Hp) (C : Addr) (cl : List (Str × Addr)) (fp : List Addr), ETs (X.blk s H scope (compEnvC scope cl C X.env) fp) (k.roots ++ LL) Γ1 ifs c)
    (he : ∀ (s : Shared) (H : Hp) (C : Addr) (cl : List (Str × Addr)) (fp : List Addr), EX (X.blk s H scope (compEnvC scope cl C X.env) fp) (k.roots ++ LL) Γ1 elt se .flat)
    (hS : ∀ i ∈ S, i ∈ own.map (·.2) := by decide) (hs : ∀ y, foldedSetIterable (.Name x px) X.env y = pure y := by intro _; rfl) (hn : n ≠ 0 := by decide) (hdb : (x == ("__debug__" : Str)) = false := by decide) (hcd : (x == ("__classdict__" : Str)) = false := by decide) :
    EX X LL Γ (.ListComp elt [⟨tg, .Name x px, ifs, 0⟩] scope pos) (eLc (iKeyD i) t c se) (.al false .new [] true) := by
  have pf := pe_lc (pos := pos) (g := canG X.vm (wipeK Γ (own.map (·.2))) (Md.flat.kindI n) t Γ1 S) (tt := canB X.vm (k.roots ++ LL) Γ1 c) (te := canT X.vm (k.roots ++ LL) Γ1 se .flat) hc hN (pi_sizedD (pi_keys (tg := tg) (pe_var (pos := px) hx hv hdb hcd))) ok (fun s H C cl fp => eg_can (hg s H C cl fp)) (fun s H C cl fp => ets_can (ht s H C cl fp)) (fun s H C cl fp => ex_can (he s H C cl fp)) hs
  refine ⟨_, pe_or (pe_lock pf) pf, fun P g ρ σ H d Q s e q => ?_⟩
  obtain ⟨d', ov, h1, h2, h3⟩ := s.cells.get hk
  have e0 := e
  obtain ⟨ds, e1, e⟩ := bind_some e
  unfold iKeyD at e1
  rw [h1] at e1
  cases d' with
  | dic tk ks dsv =>
    cases e1
    obtain ⟨a, vs, f, rv, rd, rl, ho⟩ : ∃ a vs f, ov = some (.ref a) ∧ RdD H a tk ks vs ∧ RepL X.vm H dsv vs f ∧ Old P g k.roots a := by
      cases k with
      | dead => cases hd
      | exc _ _ => cases hd
      | flat =>
        obtain ⟨v, rfl, r⟩ := h3
        simp only [Rep] at r
        obtain ⟨_, _, _, _, _, _, z⟩ := r
        cases z
      | lab rt L nd =>
        obtain ⟨v, fp, rfl, r, q, z⟩ := h3
        simp only [Rep] at r
        obtain ⟨a, vs, f, rfl, rd, rl, rfl⟩ := r
        refine ⟨a, vs, f, rfl, rd, rl, ?_⟩
        rcases q a List.mem_cons_self with ⟨_, n', rfl, y⟩ | ⟨_, y⟩
        · exact ⟨by rw [List.mem_singleton.mp y.1]; exact List.mem_cons_self, y.2⟩
        · refine ⟨?_, y.2⟩
          cases rt with
          | none => exact y.1
          | some m => exact List.mem_cons_of_mem _ y.1
    subst rv
    have hlka : VV.lk (k.roots ++ LL) (g a) := .inr (List.mem_append_left _ ho.1)
    have sub : ∀ n ∈ LL, n ∈ k.roots ++ LL := fun n hn => List.mem_append_right _ hn
    obtain ⟨⟨hl, hnd⟩, rd⟩ := rd
    obtain ⟨u0, hu0, ru0, mk⟩ : ∃ u0, IsDK u0 ∧ Rd H a u0 ∧ ∀ (P' : Fm) (H' : Hp) (od : Obj) (R : It → Hp → Prop), H' a = some (.frz od u0) → Old P' g k.roots a → (∀ J, (ks.map Ky.d).length ≤ sizeLine → Iter X.vm P' g H' H' J k.roots .flat (ks.map Ky.d) → R J H') → iKeys (tVar i) σ H' (fun J H1 => SizedD H1 → R J H1) := by
      cases tk with
      | false =>
        obtain ⟨kl, rfl, r⟩ := rd
        refine ⟨_, .inl ⟨_, rfl⟩, r, fun P' H' od R h' o' q => ⟨.ref a, h2, a, od, rfl, .inl ⟨_, h', fun sz => q _ ?_ (iter_keysD (tk := false) rfl hl h' o')⟩⟩⟩
        have := sz.1 a _ _ h'
        rw [List.length_zip] at this
        rw [List.length_map, List.length_map]
        rw [List.length_map] at hl
        omega
      | true =>
        obtain ⟨kl, rfl, r⟩ := rd
        refine ⟨_, .inr ⟨_, rfl⟩, r, fun P' H' od R h' o' q => ⟨.ref a, h2, a, od, rfl, .inr ⟨_, h', fun sz => q _ ?_ (iter_keysDT (tk := true) rfl hl h' o')⟩⟩⟩
        have := sz.2 a _ _ h'
        rw [List.length_zip] at this
        rw [List.length_map, List.length_map]
        rw [List.length_map] at hl
        omega
    have hi1 : ∀ ρ', iKeyD i ρ = some ρ' → ρ' = ks.map Ky.d := fun ρ' h => by
      unfold iKeyD at h
      rw [h1] at h
      exact (Option.some.inj h).symm
    rcases ru0 with ha | ⟨od, ha⟩
    · left
      refine ⟨a, u0, ha, hu0.mut, fun od => ?_⟩
      have st : Sta X.vm (P.lk a) (k.roots ++ LL) Γ g ρ σ (upd H a (.frz od u0)) := by
        refine ⟨s.loc.lock sub ha hlka, Cells.all (P := P) (P' := P.lk a) rfl (kp_lock ha hu0) (kpT_lock ha ?_ ?_) s.cells⟩
        · intro xs z; rcases hu0 with ⟨_, q⟩ | ⟨_, q⟩ <;> rw [q] at z <;> cases z
        · intro o vs; constructor <;> intro z <;> rcases hu0 with ⟨_, q⟩ | ⟨_, q⟩ <;> rw [q] at z <;> cases z
      refine lc_read (labs := k.roots) (me := .flat) (m2 := .flat) hn hS st e0 (fun ds' R h k' => ?_) fun v H' x w => ?_
      · rw [hi1 ds' h] at k'
        exact mk (P.lk a) _ od R upd_same ho fun J hz it => k' J _ Ext.refl hz it
      · have ha' : H' a = some (.frz od u0) := x a _ upd_same
        have kpf : KpT H' (upd H' a u0) := kpT_lock ha' (fun xs z => nomatch z) fun o vs => by
          constructor <;> intro z <;> cases z <;> rcases hu0 with ⟨_, q⟩ | ⟨_, q⟩ <;> cases q
        have xx : Ext H (upd H' a u0) := fun b u hb => by
          by_cases e : b = a
          · subst e; rw [upd_same]; rw [ha] at hb; exact hb
          · rw [upd_ne e]; exact x b u (by rw [upd_ne e]; exact hb)
        refine ⟨ha', q v _ xx ?_⟩
        obtain ⟨fp, r, o⟩ := w
        refine ⟨fp, r.keep (fun b _ => kp_free ha' hu0 b) kpf, fun b hb => ?_, o.2⟩
        rcases o.1 b hb with ⟨e, nw⟩ | ⟨_, ⟨z, _⟩ | z⟩
        · have hba : b ≠ a := fun e => by
            have := nw.1
            rw [e, upd_same] at this
            cases this
          refine .inl ⟨e, ?_, ?_⟩
          · have := nw.1
            rw [upd_ne hba] at this
            exact this
          · rw [upd_ne hba]; exact nw.2
        · cases z
        · exact nomatch z.1
    · right
      have st : Sta X.vm P (k.roots ++ LL) Γ g ρ σ H := ⟨s.loc.up sub, s.cells⟩
      refine lc_read (labs := k.roots) (me := .flat) (m2 := .flat) hn hS st e0 (fun ds' R h k' => ?_) fun v H' x w => q v H' x w
      rw [hi1 ds' h] at k'
      exact mk P _ od R ha ho fun J hz it => k' J _ Ext.refl hz it
  | _ => cases e1
end
end VV

/-! ## VBits -/
/-! 1 << n, n >> k, n & 1; a list extended by a tuple; a number's name in the module -/
namespace VV
open PySem PySem.Spec PyProof.Rows L2
def dOneShl : List D → Option D
  | [.int i, .int j] => if i = 1 ∧ 0 ≤ j ∧ j ≤ 1000 then some (.int (2 ^ j.toNat)) else none
  | _ => none
def CNn (_ j : Int) : Prop := 0 ≤ j
instance : DecidableRel CNn := fun _ j => inferInstanceAs (Decidable (0 ≤ j))
abbrev dShr := dII CNn fun i j => i / 2 ^ j.toNat
def dOdd : List D → Option D
  | [.int i, .int j] => if j = 1 ∧ 0 ≤ i then some (.int (i % 2)) else none
  | _ => none
section
variable {X : Cx} {LL : List Nat} {Γ : List Kd} {pos : Pos} {a b : Expr} {sa sb : Ev} {ma mb : Md}
theorem cp_oneShl : CP X (r2 fun x y H Q => ∃ k : Nat, x = .int 1 ∧ y = .int (k : Int) ∧ k ≤ 134217727 ∧ Q (.int (2 ^ k)) H) dOneShl toFlat := by
  intro P LL g H H1 m ds vs d Q l x vl e q
  unfold dOneShl at e
  split at e
  · split at e
    · rename_i i j hh
      cases e
      obtain ⟨rfl, h0, h1⟩ := hh
      obtain ⟨fp, r⟩ := vl.rep
      obtain ⟨v, w, f1, f2, rfl, h2, h3, _⟩ := repL2 r
      refine ⟨v, w, rfl, j.toNat, rInt h2, ?_, by omega, q _ H1 Ext.refl (val_flat rep_int)⟩
      rw [rInt h3, Int.toNat_of_nonneg h0]
    · cases e
  · cases e
theorem cp_odd : CP X (r2 fun x y H Q => ∃ n : Nat, x = .int (n : Int) ∧ y = .int 1 ∧ Q (.int ((n % 2 : Nat) : Int)) H) dOdd toFlat := by
  intro P LL g H H1 m ds vs d Q l x vl e q
  unfold dOdd at e
  split at e
  · split at e
    · rename_i i j hh
      cases e
      obtain ⟨rfl, h0⟩ := hh
      obtain ⟨fp, r⟩ := vl.rep
      obtain ⟨v, w, f1, f2, rfl, h2, h3, _⟩ := repL2 r
      have e1 : ((i.toNat % 2 : Nat) : Int) = i % 2 := by omega
      refine ⟨v, w, rfl, i.toNat, ?_, rInt h3, ?_⟩
      · rw [rInt h2, Int.toNat_of_nonneg h0]
      · rw [e1]; exact q _ H1 Ext.refl (val_flat rep_int)
    · cases e
  · cases e
theorem ex_oneShl (ha : EX X LL Γ a sa ma) (hb : EX X LL Γ b sb mb) : EX X LL Γ (.BinOp a .LShift b pos) (eP dOneShl (aCons sa (aCons sb aNil))) .flat := ex_bin op_oneShl cp_oneShl ha hb
theorem ex_shr (ha : EX X LL Γ a sa ma) (hb : EX X LL Γ b sb mb) : EX X LL Γ (.BinOp a .RShift b pos) (eP dShr (aCons sa (aCons sb aNil))) .flat := ex_bin (op_shr (X := X)) (cp_ii (C := CNn)) ha hb
theorem ex_odd (ha : EX X LL Γ a sa ma) (hb : EX X LL Γ b sb mb) : EX X LL Γ (.BinOp a .BitAnd b pos) (eP dOdd (aCons sa (aCons sb aNil))) .flat := ex_bin op_odd cp_odd ha hb
theorem ex_gint {x : Str} {i : Int} {p : Pos} (hm : ∃ t, X.mg x = some (.int i t)) (hg : Gl X x) (hd : (x == ("__debug__" : Str)) = false := by decide) : EX X LL Γ (.Name x p) (eC (.int i)) .flat := by
  obtain ⟨t, hm⟩ := hm
  refine ⟨_, pe_glob (v := .int i) hg hm ⟨t, rfl⟩ hd, fun P g ρ σ H d Q s e q => ?_⟩
  cases e
  exact q _ H Ext.refl (val_flat rep_int)
end
/-! ### x.extend(t) -/

theorem list_extend_tup (l : Addr) (items : Array Value) (n : Nat) (b : Addr) (items2 : Array Value) (n2 : Nat) (dd : Option Addr) (sl : Array (Option Value)) (hs0 : ¬(!items.isEmpty && Builtin.List.listTooLong (items.size + items2.size)) = true) (hs1 : items.size ≤ sizeLine) (hs2 : items.size + items2.size ≤ sizeLine + 1) :
    Meets (Builtin.«list.extend» ⟨[.ref l, .ref b], []⟩) (fun _ R s => s.heap.get? l = some { cls := .type "list", dict := none, data := .seq items n, slots := #[] } ∧ s.heap.get? b = some { cls := .type "tuple", dict := dd, data := .seq items2 n2, slots := sl } ∧ R (.ok (.ret Value.none)) { s with heap := s.heap.update l (Obj.mapSeq fun x => x ++ items2), toks := s.toks }) :=
  .of_wp fun prog w A R s h => by
    obtain ⟨hp, g, d, tk, os⟩ := s; obtain ⟨hl, hb, h⟩ := h; have f1 := AutoSeq1.idx_int; have f2 := AutoSeq1.sub_tuple_tuple; have f3 := AutoSeq1.sub_list_list; have f4 := AutoSeq1.sub_tuple_list; have f5 := AutoSeq1.sub_list_tuple;
    have hz' : (items ++ items2).size ≤ sizeLine + 1 := by rw [Array.size_append]; exact hs2
    wp_walk using (wpAny_updateSeq hl rfl (hz := hs1) (_hz' := hz')), wpAny_loadPart' hl, wpAny_loadPart' hb; exact ⟨_, rfl, h⟩
def rExtT (K : PySem.W.Frag) : V → List V → Hp → VK → Prop := fun x vs H Q => ∃ l b xs zs, x = .ref l ∧ vs = [.ref b] ∧ H l = some (.lst xs) ∧ SqT K H b zs ∧ xs.length + zs.length ≤ sizeLine ∧ Q .non (upd H l (.lst (xs ++ zs)))
def dExtT : D → D → Option D
  | .lst l, .tup r => if D.isFlatL r ∧ l.length + r.length ≤ 1000000 then some (.lst (l ++ r)) else none
  | _, _ => none
section
variable {X : Cx} {W : L2.WX} {sc : Sc} {Γ : List Kd} {pos : Pos}
theorem mt_extendT : MtM X "list.extend" (rExtT X.K) := by
  intro pins s σ H x xs v us Q I rx rv h
  obtain ⟨l, b, xs, zs, rfl, rfl, hH, hB, hz, q⟩ := h
  cases rx
  obtain ⟨u, rfl, ru⟩ := rv.one
  cases ru
  obtain ⟨z, its, n, r, hl, e⟩ := I.lstM hH
  obtain ⟨its2, r2, ⟨⟨cls, dd, data, sl⟩, ho, hc, n2, hd⟩, hs⟩ := I.tuple hB
  simp only at hc hd
  subst hc hd
  have hl2 := r2.length
  have hl1 := r.length
  have hsz : its.toArray.size + its2.toArray.size ≤ sizeLine := by rw [List.size_toArray, List.size_toArray]; omega
  have hlong : ¬ (!its.toArray.isEmpty && Builtin.List.listTooLong (its.toArray.size + its2.toArray.size)) = true := by
    rw [notLongL hsz, Bool.and_false]
    exact Bool.false_ne_true
  refine call_meets PySem.F.slot_list_extend ⟨_, e, rfl⟩ PySem.F.entry_list_extend (PySem.F.args_list_extend_2 _ _)
    (list_extend_tup l its.toArray n b its2.toArray n2 dd sl hlong (by rw [List.size_toArray]; omega) (by omega)) ⟨e, ho, ?_⟩
  refine ⟨.non, _, I.lset (its' := its ++ its2) hH e (by simp) (r.append r2) ?_, rfl, q⟩
  rw [List.length_append]
  omega
theorem sx_extendT {i : Nat} {x : Str} {px ap cp : Pos} {e : Expr} {se : Ev} {n : Nat} {L : List Nat} {nd : Bool} (hk : Γ[i]? = some (.lab (some n) L nd)) (hN : X.N[i]? = some x) (hv : Vis X.env.scope x) (he : EX X sc.LL Γ e se .flat)
    (hn : n ≠ 0 := by decide) (hL : n ∉ sc.LL := by decide) (hdb : (x == ("__debug__" : Str)) = false := by decide) (hcd : (x == ("__classdict__" : Str)) = false := by decide)
    (hbase : attributeBase (.Name x px) "extend" X.env (eval (.Name x px) X.env) = eval (.Name x px) X.env := by rfl)
    (hfew : ((backTo cp (starEach [e] X.env)).all (fun x => !x.1) && (backToKw cp (keywordEach [] X.env)).all (fun x => x.1.isSome)
      && decide ([e].length + ([] : List Keyword).length + (if ([] : List Keyword).isEmpty then 0 else 1) < 30)) = true := by rfl)
    (hline : (ap.endLine == cp.line) = true := by rfl) (hs : starEach [e] X.env = (false, eval e X.env) :: starEach [] X.env := by rfl) (hplain : (backTo cp (starEach [] X.env)).any (·.1) = false := by rfl)
    (hsw : swapsWith (.Call (.Attribute (.Name x px) "extend" ap) [e] [] cp) none pos.line X.env = pure false := by rfl) :
    SX X W sc Γ (.Expr (.Call (.Attribute (.Name x px) "extend" ap) [e] [] cp) pos) (sMut dExtT i se) ((killK n Γ).set i (.lab (some n) L nd)) := by
  obtain ⟨t, pt, kk⟩ := he
  refine ⟨_, ps_expr (pe_bm PySem.F.plainAttrs_list PySem.F.slot_list_extend PySem.F.type_list_extend mt_extendT (pe_var hN hv hdb hcd) (pa_cons pt pa_nil hs) hbase hfew hline hs hplain) hsw, fun P g ρ σ H o De s e w => ?_⟩
  obtain ⟨d, e1, e⟩ := bind_some e
  obtain ⟨l, e2, e⟩ := bind_some e
  obtain ⟨z, e3, e⟩ := bind_some e
  cases e
  obtain ⟨l', ov, h1, h2, h3⟩ := s.cells.get hk
  rw [e2] at h1; cases h1
  unfold dExtT at e3
  split at e3
  case h_2 => cases e3
  case h_1 =>
    rename_i ds rs _
    split at e3
    · rename_i hlen
      cases e3
      obtain ⟨a, vs, f, rfl, ha, rl, hga, haf, oldf, ndf⟩ := slot_lst h3
      refine ⟨.ref a, h2, .inl ⟨rfl, _, .inl (.inl ha)⟩, ?_⟩
      refine kk P g ρ σ H _ _ s e1 fun y H2 x2 wv => ?_
      have ry : Rep X.vm H2 (.tup rs) y [] := wv
      simp only [Rep] at ry
      obtain ⟨b, us, rfl, hb, rr⟩ := ry
      have ha2 : H2 a = some (.lst vs) := x2 a _ ha
      refine ⟨a, b, vs, us, rfl, rfl, ha2, .inl (.inl hb), ?_, ?_⟩
      · rw [rl.length, rr.length, sizeLine_eq]; omega
      have rl2 := rl.ext x2
      have rn : RepL X.vm (upd H2 a (.lst (vs ++ us))) (ds ++ rs) (vs ++ us) f := by
        have := (repL_upd rl2 haf ha2 trivial (o' := .lst (vs ++ us))).append (repL_upd rr (by simp) ha2 trivial (o' := .lst (vs ++ us)))
        rw [List.append_nil] at this
        exact this
      have st2 : Sta X.vm P sc.LL Γ (relab g H H2 .non 1 1) ρ σ H2 := s.relab x2
      have hg2 : relab g H H2 .non 1 1 a = n := by rw [relab_old (by rw [ha]; simp)]; exact hga
      obtain ⟨s3, st3⟩ := st2.put (o' := .lst (vs ++ us)) ha2 trivial trivial hg2 hn hL h2 (lst_cell hn upd_same rn hg2 haf (fun c hc => Old.relab (oldf c hc) s.loc) ndf)
      exact w _ σ _ ((Step.relab x2).trans st3) s3
    · cases e3
end
end VV

/-! ## VSumT -/
/-! sum(tuple of whole numbers) -/
namespace VV
open PySem PySem.Spec PyProof.Rows L2
section
variable {prog : Program} {w : World} {A : Around} {E : Value → Shared → Prop} {s : Shared} {l : Addr} {its : List Value} {ns : List Int} {Q : Value → Shared → Prop}
theorem sum_rawT (hh : A.handled = none) (hl : s.heap.IsTuple l its.toArray) (hi : IntsAre its ns)
    (h : ∀ h' tk t', (∀ b o, s.heap.get? b = some o → h'.get? b = some o) → Q (.int ns.sum t') { s with heap := h', toks := tk }) : wpAny (model prog w) A (call (.builtin "sum") [.ref l]) Q E s := by
  obtain ⟨xs, e⟩ := hi.allInts.items
  have hn : numsOf (intItems xs).toList = ns := by rw [← e]; exact hi.numsOf
  rw [nums_intItems] at hn
  rw [e] at hl
  have hlt : l < s.heap.objs.size := by obtain ⟨_, q, _⟩ := hl; exact Heap.lt_size q
  refine call_sum_walkG (wpAny_pyIter_tuple hl ?_)
  refine ⟨_, _, _, _, _, _, numAt xs, rfl, Walks.tuple (A := A.in1) hh _ l (Nat.ne_of_lt hlt) (intItems xs), ⟨⟨_, Heap.get?_push_size _ rfl, rfl, rfl⟩, ?_⟩, ?_, (fun _ _ => intItems_at), fun h' tk t' hk => ?_⟩
  · obtain ⟨o, q, r⟩ := hl
    exact ⟨o, Heap.get?_push_of_some _ q, r⟩
  · intro b hb
    have hsz : ({ s with heap := s.heap.push { cls := .type "tuple_iterator", data := .fields #[.ref l, .int 0 0] } } : Shared).heap.objs.size = s.heap.objs.size + 1 := by simp [Heap.push]
    rw [hsz]
    rcases List.mem_cons.mp hb with hb | hb
    · rw [hb]; exact Nat.lt_succ_self _
    · rw [List.mem_singleton.mp hb]; exact Nat.lt_succ_of_lt hlt
  · have := h h' tk t' fun b o q => hk b o (fun hm => by
      have := List.mem_singleton.mp hm
      subst this
      exact absurd (Heap.lt_size q) (Nat.lt_irrefl _)) (Heap.get?_push_of_some _ q)
    rw [preSum_eq, List.take_of_length_le (by simp [intItems]), hn]; exact this
end
def rSumT (K : PySem.W.Frag) : List V → Hp → VK → Prop := fun vs H Q => ∃ (a : Addr) (ns : List Int), vs = [V.ref a] ∧ SqT K H a (ns.map V.int) ∧ Q (.int ns.sum) H
def dSumT : List D → Option D
  | [.tup l] => (intsOf l).map fun ns => .int ns.sum
  | _ => none
section
variable {X : Cx}
theorem cr_sumT (hc : X.calm = true) : CallR X (.builtin "sum") (rSumT X.K) := by
  intro pins s σ H vs us Q I r h
  obtain ⟨a, ns, rfl, hs, q⟩ := h
  obtain ⟨its, rv, hl, _⟩ := I.tuple hs
  rw [Vals.ref1 r]
  exact sum_rawT (I.ok.hd hc) hl rv.ints fun h' tk t' hk => ⟨.int _, H, I.kept hk, ⟨_, rfl⟩, q⟩
theorem cp_sumT : CP X (rSumT X.K) dSumT toFlat := by
  intro P LL g H H1 m ds vs d Q l x vl e q
  obtain ⟨fp, r⟩ := vl.rep
  unfold dSumT at e
  split at e
  · obtain ⟨ns, e1, rfl⟩ := Option.map_eq_some_iff.mp e
    obtain ⟨v, rfl, h⟩ := repL1 r
    simp only [Rep] at h
    obtain ⟨a, us, rfl, ha, rl⟩ := h
    have := intsOf_rep e1 rl
    subst this
    exact ⟨a, ns, rfl, .inl (.inl ha), q _ H1 Ext.refl (val_flat rep_int)⟩
  · cases e
end
end VV

/-! ## VText -/
/-! texts: str(whole number), text + text, sep.join(list of texts) -/
namespace VV
open PySem PySem.Spec PyProof.Rows L2
def dStr : List D → Option D
  | [.int i] => if i.natAbs.log2 < 1920 then some (.str (toString i)) else none
  | _ => none
def dCatS : List D → Option D
  | [.str a, .str b] => if a.length + b.length ≤ sizeLine then some (.str (a ++ b)) else none
  | _ => none
def strsOf : List D → Option (List Str)
  | [] => some []
  | .str a :: r => (strsOf r).map (a :: ·)
  | _ => none
def dJoin : List D → Option D
  | [.str a, .lst l] => do
    let ys ← strsOf l
    if (ys.map (·.length)).sum + ys.length * a.length ≤ 16777216 then some (.str (Txt.join a ys)) else none
  | _ => none
theorem strsOf_rep {mg : Mg} {H : Hp} : ∀ {l : List D} {ys : List Str} {vs : List V} {f : List Addr}, strsOf l = some ys → RepL mg H l vs f → vs = ys.map V.str
  | [], _, _, _, e, r => by cases e; simp only [RepL] at r; rw [r.1]; rfl
  | d :: l, ys, vs, f, e, r => by
    simp only [RepL] at r
    obtain ⟨v, w, f1, f2, rfl, h1, h2, _⟩ := r
    unfold strsOf at e
    split at e
    · rename_i a r0 e0; cases e0
    · rename_i a r0 e0
      cases e0
      simp only [Option.map_eq_some_iff] at e
      obtain ⟨ns, e1, rfl⟩ := e
      rw [rStr h1, strsOf_rep e1 h2]; rfl
    · cases e
section
variable {X : Cx} {LL : List Nat} {Γ : List Kd} {pos apos : Pos} {a b : Expr} {sa sb : Ev} {ma mb : Md}
theorem cp_str : CP X (fun xs H Q => ∃ i, xs = [.int i] ∧ i.natAbs.log2 < 1920 ∧ Q (.str (toString i)) H) dStr toFlat := by
  intro P LL g H H1 m ds vs d Q l x vl e q
  obtain ⟨fp, r⟩ := vl.rep
  unfold dStr at e
  split at e
  · split at e
    · rename_i hz
      cases e
      obtain ⟨v, rfl, h⟩ := repL1 r
      exact ⟨_, by rw [rInt h], hz, q _ H1 Ext.refl (val_flat rep_str)⟩
    · cases e
  · cases e
theorem cp_catS : CP X (r2 fun x y H Q => ∃ i j, x = .str i ∧ y = .str j ∧ i.length + j.length ≤ sizeLine ∧ Q (.str (i ++ j)) H) dCatS toFlat := by
  intro P LL g H H1 m ds vs d Q l x vl e q
  obtain ⟨fp, r⟩ := vl.rep
  unfold dCatS at e
  split at e
  · split at e
    · rename_i hz
      cases e
      obtain ⟨v, w, _, _, rfl, h, h2, _⟩ := repL2 r
      exact ⟨v, w, rfl, _, _, rStr h, rStr h2, hz, q _ H1 Ext.refl (val_flat rep_str)⟩
    · cases e
  · cases e
theorem ex_catS (ha : EX X LL Γ a sa ma) (hb : EX X LL Γ b sb mb) : EX X LL Γ (.BinOp a .Add b pos) (eP dCatS (aCons sa (aCons sb aNil))) .flat := ex_bin op_add_str cp_catS ha hb
theorem ex_join (ha : EX X LL Γ a sa ma) (hb : EX X LL Γ b sb mb)
    (hs : starEach [b] X.env = [(false, eval b X.env)] := by rfl) (hbase : attributeBase a "join" X.env (eval a X.env) = eval a X.env := by rfl) (hline : (apos.endLine == pos.line) = true := by rfl) :
    EX X LL Γ (.Call (.Attribute a "join" apos) [b] [] pos) (eP dJoin (aCons sa (aCons sb aNil))) .flat := by
  obtain ⟨ta, pa, ka⟩ := ha
  obtain ⟨tb, pb, kb⟩ := hb
  refine ⟨_, pe_join pa pb hs hbase hline, fun P g ρ σ H d Q s e q => ?_⟩
  obtain ⟨ds, e1, e⟩ := bind_some e
  obtain ⟨d1, ea, e1⟩ := bind_some e1
  obtain ⟨r1, er, e1⟩ := bind_some e1
  obtain ⟨d2, eb, er⟩ := bind_some er
  cases er; cases e1
  unfold dJoin at e
  split at e
  · rename_i x l eq
    cases eq
    obtain ⟨ys, ey, e⟩ := bind_some e
    split at e
    · rename_i hz
      cases e
      refine ka P g ρ σ H _ _ s ea fun v H1 x1 w1 => ?_
      obtain ⟨f1, q1, _⟩ := w1.labs
      obtain rfl := rStr q1
      refine ⟨⟨_, rfl⟩, ?_⟩
      refine kb P g ρ σ H1 _ _ (s.ext x1) eb fun u H2 x2 w2 => ?_
      obtain ⟨f2, q2, _⟩ := w2.labs
      simp only [Rep] at q2
      obtain ⟨p, vs, f, rfl, hp, rl, _⟩ := q2
      obtain rfl := strsOf_rep ey rl
      exact ⟨_, p, ys, rfl, rfl, .inl (Or.inl (Rd.of hp)), hz, q _ H2 (x1.trans x2) (val_flat rep_str)⟩
    · cases e
  · cases e
end
end VV

/-! ## VSortT -/
/-! sorted(a dict whose keys are tuples of whole numbers and texts) -/
namespace VV
open PySem PySem.Spec PyProof.Rows L2
mutual
theorem reads_lt {h : Heap} : ∀ {v : Value} {d : PyData} {as : List Addr}, Reads h v d as → ∀ b ∈ as, b < h.objs.size
  | _, _, _, .none => fun _ hb => nomatch hb
  | _, _, _, .bool _ => fun _ hb => nomatch hb
  | _, _, _, .int _ _ => fun _ hb => nomatch hb
  | _, _, _, .str _ _ => fun _ hb => nomatch hb
  | _, _, _, .list e _ _ r => fun b hb => by
    rcases List.mem_cons.mp hb with rfl | hb
    · exact Heap.lt_size e
    · exact readsAll_lt r b hb
  | _, _, _, .tuple _ _ _ r => readsAll_lt r
  | _, _, _, .dict e _ _ r r' => fun b hb => by
    rcases List.mem_append.mp hb with hb | hb
    · rcases List.mem_cons.mp hb with rfl | hb
      · exact Heap.lt_size e
      · exact readsAll_lt r b hb
    · exact readsAll_lt r' b hb
theorem readsAll_lt {h : Heap} : ∀ {vs : List Value} {ds : List PyData} {as : List Addr}, ReadsAll h vs ds as → ∀ b ∈ as, b < h.objs.size
  | _, _, _, .nil => fun _ hb => nomatch hb
  | _, _, _, .cons r r' => fun b hb => by
    rcases List.mem_append.mp hb with hb | hb
    · exact reads_lt r b hb
    · exact readsAll_lt r' b hb
end
theorem each_imp {α β : Type} {R R' : α → β → Prop} (f : ∀ a b, R a b → R' a b) : ∀ {l : List α} {r : List β}, PySem.W.EachIs R l r → PySem.W.EachIs R' l r
  | _, _, .nil => .nil
  | _, _, .cons h t => .cons (f _ _ h) (each_imp f t)
def rSortT (K : PySem.W.Frag) : List V → Hp → VK → Prop := fun vs H Q => ∃ (a : Addr) (kvs : List (List L2.Key × V)), vs = [.ref a] ∧ Rd H a (.dT kvs) ∧ kvs.length ≤ 1000000 ∧ ∀ bs0 : List Addr, IsKeys H kvs bs0 → ∃ bs : List Tri, bs.map (·.2.1) = bs0.map V.ref ∧
  (∀ b ∈ bs, Dp K H b.2.1 b.1.toP) ∧ PySem.W.AllAlike (bs.map (·.1.toP)) ∧ PySem.W.Sortable (bs.map (·.1.toP)) ∧ (∀ b ∈ bs, b.1.toP.depth ≤ 64) ∧
  ∀ p, H p = none → Q (.ref p) (upd H p (.lst ((bs.mergeSort fun a b => leD a.1 b.1).map (·.2.1))))
theorem cr_sortT {X : Cx} (hcalm : X.calm = true) (hu : X.A.units + 100 < cLine) : CallR X (.builtin "sorted") (rSortT X.K) := by
  intro pins s σ H vs us Q I r h
  obtain ⟨a, kvs, rfl, hd, hlen, q⟩ := h
  obtain ⟨u, rfl, rx⟩ := r.one
  cases rx
  obtain ⟨z, hs, ks, pr, o, es, ep, ho, hx, hdt, he, hn⟩ := (show ObjOk X.prog X.w H s.heap a (.dT kvs) from hd.ok I.hok)
  have l1 : es.size = ks.length := size_of_entries he
  have l2 : kvs.length = ks.length := Paired.length pr
  obtain ⟨bs, eb, hdp, hal, hsr, hdep, q⟩ := q _ (isKeys_of pr)
  have lb : bs.length = ks.length := by have := congrArg List.length eb; simpa using this
  refine Calls.call_function_entry PyProof.Rows.kind_sorted PyProof.Rows.plain_sorted PyProof.Rows.entry_sorted (PyProof.Rows.args_sorted1 _) ?_
  unfold Builtin.«sorted»
  refine wpAny_bind (m := checkCount "sorted" 1 1 _) (wpAny_pure ?_)
  refine wpAny_bind (PySem.W.kdu_collect (A := X.A.in1) (kdl_raw hs hx hdt) (I.ok.hd hcalm) ho (by omega) fun h' tk acc hk it => ?_)
  have ea : acc.toList = ks.map fun x => Value.ref x.2.1 := by
    have hl : acc.toList.length = ks.length := by rw [Array.length_toList, it.1]; exact l1
    apply List.ext_getElem?
    intro j
    rw [List.getElem?_map]
    cases hj : acc.toList[j]? with
    | none =>
      have h1 := List.getElem?_eq_none_iff.mp hj
      rw [List.getElem?_eq_none (by omega)]
      all_goals rfl
    | some v =>
      obtain ⟨en, hen, hv⟩ := it.2 j v (by rw [← Array.getElem?_toList]; exact hj)
      have qe := entry_at he j
      rw [hen] at qe
      cases hb : ks[j]? with
      | none =>
        rw [hb] at qe
        exact nomatch (show some en = none from qe)
      | some b =>
        rw [hb] at qe
        have e2 : en = entryOfKey (tupleKind (mixKind X.prog X.w)) b := Option.some.inj qe
        rw [hv, e2]
        all_goals rfl
  have eb' : acc.toList = (ks.map fun x => x.2.1).map Value.ref := by rw [ea, List.map_map]; all_goals rfl
  have rv : Vals (bs.map (·.2.1)) acc.toList := by rw [eb, eb']; exact vals_refs _
  have I1 : Inv X pins σ H { s with heap := h', toks := tk } := I.kept hk
  have hal2 : acc.toList.length = bs.length := by rw [ea, List.length_map, lb]
  refine wpAny_bind (wpAny_newList ?_ (by rw [hal2, lb]; omega))
  have hoL : (h'.push (seqObj "list" acc.toList.toArray 0)).get? h'.objs.size = some (seqObj "list" acc.toList.toArray 0) := Heap.get?_push_size _ rfl
  show wpAny _ _ _ _ _ { s with heap := h'.push (seqObj "list" acc.toList.toArray 0), toks := tk }
  obtain ⟨e1, e2⟩ := each_of_vals I1 rv hdp
  have e3 : PySem.W.EachIs (fun (v : Value) (b : Tri) => ∃ as, Reads (h'.push (seqObj "list" acc.toList.toArray 0)) v b.1.toP as ∧ h'.objs.size ∉ as) acc.toList bs :=
    each_imp (fun v b ⟨as, r⟩ => ⟨as, PyProof.Rows.Reads.keeps (fun _ _ e => Heap.get?_push_of_some _ e) r, fun hm => Nat.lt_irrefl _ (reads_lt r _ hm)⟩) e2
  refine wpAny_bind (wpAny_holding (PySem.W.list_sort_data (s := { s with heap := h'.push (seqObj "list" acc.toList.toArray 0), toks := tk }) (enc := fun b : Tri => b.1.toP) hoL e1 e3 hal hsr (by rw [lb]; omega) (fun b hb => by have := hdep b hb; show X.A.units + 1 + 1 + _ < _; omega) fun out hlo ho => ?_))
  obtain ⟨e', he'⟩ := PyProof.Rows.sortedHeap_at (vs := acc.toList) (out := out.toArray) hoL
  have vs2 := vals_of_each ho
  refine wpAny_pure ⟨_, rfl, .ref h'.objs.size, upd H h'.objs.size (.lst ((bs.mergeSort fun a b => leD a.1 b.1).map (·.2.1))), I1.laid (t' := tk) (fun b u e => ?_) (Nat.le_refl _)
    ⟨?_, out, e', vs2, he'⟩, rfl, q _ (I1.hok.fresh (Nat.le_refl _))⟩
  · have hb : b < h'.objs.size := Heap.lt_size e
    rw [PyProof.Rows.sortedHeap_old (Nat.ne_of_lt hb) (by rw [size_push']; exact Nat.lt_succ_of_lt hb)]
    exact Heap.get?_push_of_some _ e
  · rw [List.length_map, List.length_mergeSort, lb]; omega

/-- the things of a dict's keys, at their addresses -/
theorem keys_tri {mg : Mg} {H : Hp} : ∀ {kl : List (List L2.Key)} {vs : List V} {bs0 : List Addr}, kl.length = vs.length → IsKeys H (kl.zip vs) bs0 →
    ∃ bs : List Tri, bs.map (·.2.1) = bs0.map V.ref ∧ bs.map (·.1) = kl.map (fun k => (Ky.t k).d) ∧ ∀ b ∈ bs, Rep mg H b.1 b.2.1 b.2.2 ∧ b.2.2 = []
  | [], [], _, _, h => by
    cases h
    exact ⟨[], rfl, rfl, fun b hb => nomatch hb⟩
  | k :: kl, v :: vs, _, hl, h => by
    cases h with
    | @cons _ b _ bs0 h t =>
      obtain ⟨bs, e1, e2, e3⟩ := keys_tri (mg := mg) (by simpa using hl) t
      refine ⟨((Ky.t k).d, .ref b, []) :: bs, by simp [e1], by simp [e2], fun c hc => ?_⟩
      rcases List.mem_cons.mp hc with rfl | hc
      · refine ⟨?_, rfl⟩
        show Rep mg H (.tup (k.map keyD)) (.ref b) []
        simp only [Rep]
        exact ⟨b, k.map kV, rfl, h, repL_keys⟩
      · exact e3 c hc
  | [], _ :: _, _, hl, _ => by simp at hl
  | _ :: _, [], _, hl, _ => by simp at hl
def dSortT : List D → Option D
  | [.dic true ks _] => if srtOk (ks.map Ky.d) then some (.lst ((ks.map Ky.d).mergeSort leD)) else none
  | _ => none
theorem canL_mem {l : List D} (h : canL l = true) : ∀ d ∈ l, d.toP.canLay0 = true := by
  unfold canL at h
  rw [toPL_eq] at h
  induction l with
  | nil => intro d hd; cases hd
  | cons y r ih =>
    intro d hd
    simp only [List.map_cons, PyData.canLayAll0, Bool.and_eq_true] at h
    rcases List.mem_cons.mp hd with rfl | hd
    · exact h.1
    · exact ih h.2 d hd
section
variable {X : Cx} {LL : List Nat} {Γ : List Kd} {pos p : Pos} {a : Expr} {sa : Ev} {ma : Md}
theorem ex_sortT (hc : X.calm = true) (hu : X.A.units + 100 < cLine) {x : Str} (hg : Gl X x) (hm : X.mg x = none) (hv : bootBuiltins x = some (.builtin "sorted")) (ha : EX X LL Γ a sa ma) (hn : x ≠ "__name__" := by decide) (hdb : (x == ("__debug__" : Str)) = false := by decide)
    (he : starEach [a] X.env = (false, eval a X.env) :: starEach [] X.env := by rfl) : EX X LL Γ (.Call (.Name x p) [a] [] pos) (eP dSortT (aCons sa aNil)) (.al false .new [] true) := by
  obtain ⟨t, pt, k⟩ := ha
  refine ⟨_, pe_callB (cr_sortT hc hu) hg hm hv (pa_cons pt pa_nil he) hn hdb he, fun P g ρ σ H d Q s e q => ?_⟩
  obtain ⟨ds, e1, e⟩ := bind_some e
  refine one_arg k s e1 fun d0 v H1 eds x1 w => ?_
  subst eds
  unfold dSortT at e
  split at e
  · split at e
    · rename_i ks l eq hok
      cases eq
      cases e
      obtain ⟨fp, r, _⟩ := w.labs
      simp only [Rep] at r
      obtain ⟨a1, vs, f, rfl, rd, rl, rfl⟩ := r
      obtain ⟨⟨hl, _⟩, kl, rfl, rd⟩ := rd
      have hl2 : kl.length = vs.length := by simpa using hl
      have ekd : (kl.map Ky.t).map Ky.d = kl.map (fun k => (Ky.t k).d) := by rw [List.map_map]; rfl
      rw [ekd] at hok q
      simp only [srtOk, Bool.and_eq_true, decide_eq_true_eq, List.all_eq_true, Bool.or_eq_true] at hok
      obtain ⟨⟨⟨⟨h1, h2⟩, h3⟩, h4⟩, h5⟩ := hok
      refine ⟨a1, _, rfl, rd, ?_, fun bs0 hk => ?_⟩
      · rw [List.length_zip, ← hl2, Nat.min_self]
        simpa using h5
      obtain ⟨bs, b1, b2, hb⟩ := keys_tri (mg := X.vm) hl2 hk
      rw [← b2] at h1 h2 h3 h4 q
      have can : ∀ b ∈ bs, b.1.toP.canLay0 = true := fun b hbm => canL_mem h1 _ (List.mem_map.mpr ⟨b, hbm, rfl⟩)
      refine ⟨bs, b1, fun b hbm => (hb b hbm).1.dp (can b hbm), ?_, ?_, fun b hbm => h4 _ (List.mem_map.mpr ⟨b, hbm, rfl⟩), fun z hz => ?_⟩
      · intro y hy y' hy'
        obtain ⟨b, hbm, rfl⟩ := List.mem_map.mp hy
        obtain ⟨b', hbm', rfl⟩ := List.mem_map.mp hy'
        exact h2 _ (List.mem_map.mpr ⟨b, hbm, rfl⟩) _ (List.mem_map.mpr ⟨b', hbm', rfl⟩)
      · rcases h3 with h3 | h3
        · refine .inl fun y hy => ?_
          obtain ⟨b, hbm, rfl⟩ := List.mem_map.mp hy
          have := h3 _ (List.mem_map.mpr ⟨b, hbm, rfl⟩)
          split at this
          · rename_i x r e
            rw [e]
            exact ⟨x.toP, D.toPL r, by simp [D.toP, D.toPL]⟩
          · cases this
        · refine .inr fun y hy => ?_
          obtain ⟨b, hbm, rfl⟩ := List.mem_map.mp hy
          have h6 := h3 _ (List.mem_map.mpr ⟨b, hbm, rfl⟩)
          have h7 := can b hbm
          obtain ⟨bd, bv, bf⟩ := b
          cases bd <;> simp [D.toP, PyData.canLay0] at h6 h7 ⊢
      · have e3 : (bs.map (·.1)).mergeSort leD = (bs.mergeSort fun a b => leD a.1 b.1).map (·.1) := by rw [List.map_mergeSort (s := leD) (fun a _ b _ => rfl)]
        refine q _ _ (x1.trans (Ext.put hz)) ?_
        rw [e3]
        refine val_lst (m := .flat) ⟨_, tri_repL fun b hbm => (hb b (List.mem_mergeSort.mp hbm)).1, ?_⟩ x1 hz
        refine List.flatten_eq_nil_iff.mpr fun l hl => ?_
        obtain ⟨b, hbm, rfl⟩ := List.mem_map.mp hl
        exact (hb b (List.mem_mergeSort.mp hbm)).2
    · cases e
  · cases e
end
end VV

/-! ## VEqT -/
/-! == of dicts whose keys are tuples; a dict == {} -/
namespace VV
open PySem PySem.Spec PyProof.Rows L2
section
variable {prog : Program} {w : World} {K : Type} [DecidableEq K] {knd : HeapKind prog w K} {A : Around} {E : Value → Shared → Prop} {s : Shared}
theorem samePairsH {nm : String} {a b : Addr} {xa xb : List (K × Addr × Value)} {Q : Bool → Shared → Prop} (hu : knd.room A) (ha : (a == sysModules) = false) (hb : (b == sysModules) = false)
    (da : s.heap.DictOfH knd a xa) (db : s.heap.DictOfH knd b xb) (hl : xa.length = xb.length) (hits : ∀ x ∈ xa, ∃ p, atKey xb x.1 = some p ∧ SeqAt.EqP prog w A s x.2.2 p.2 true) (h : Q true s) :
    wpAny (model prog w) A (Builtin.Dict.samePairs nm a b) Q E s := by
  obtain ⟨oa, es, ep, hoa, _, hda, hea, hia, _⟩ := da
  obtain ⟨ob, es', ep', hob, _, hdb, heb, hib, hnb⟩ := db
  have hla : es.size = xa.length := size_of_entries hea
  have hlb : es'.size = xb.length := size_of_entries heb
  unfold Builtin.Dict.samePairs Builtin.Dict.showsAll
  rw [if_neg (show ¬ (a == sysModules) = true by rw [ha]; exact Bool.false_ne_true), if_neg (show ¬ (b == sysModules) = true by rw [hb]; exact Bool.false_ne_true)]
  refine wpAny_bind (wpAny_pure (wpAny_bind (wpAny_pure ?_)))
  refine wpAny_bind (wpAny_dictEntries hoa hda ?_)
  dsimp only
  refine wpAny_bind (wpAny_dictEntries hob hdb ?_)
  have hsz : es.size = es'.size := by omega
  rw [if_neg (by rw [hsz]; simp)]
  refine wpAny_bind (wpAny_dictEpoch hoa hda ?_)
  refine wpAny_bind ?_
  rw [Std.Legacy.Range.forIn_eq_forIn_range']
  simp only [Std.Legacy.Range.size, Nat.sub_zero, Nat.add_sub_cancel, Nat.div_one]
  refine wpAny_forIn_list _
    (fun rest q s' => s' = s ∧ q = (none, ()) ∧ ∃ i, rest = List.range' i (es.size - i) ∧ i ≤ es.size)
    _ ?_ ?_ _ _ ⟨rfl, rfl, 0, by simp, Nat.zero_le _⟩
  · rintro x rest q s' ⟨rfl, rfl, i, hr, hi⟩
    have hlt : i < es.size := by
      rcases Nat.lt_or_ge i es.size with h | h
      · exact h
      · rw [Nat.sub_eq_zero_of_le h] at hr; simp at hr
    obtain ⟨rfl, hrest⟩ : x = i ∧ rest = List.range' (i + 1) (es.size - (i + 1)) := by
      have e : es.size - i = (es.size - (i + 1)) + 1 := by omega
      rw [e, List.range'_succ] at hr
      injection hr with h1 h2
      exact ⟨h1, h2⟩
    refine wpAny_bind (wpAny_dictEntries hoa hda ?_)
    have hlt' : x < xa.length := by omega
    obtain ⟨⟨k, ad, v⟩, hkv⟩ : ∃ y, xa[x]? = some y := ⟨_, List.getElem?_eq_getElem hlt'⟩
    have hent : es[x]? = some (entryOfKey knd (k, ad, v)) := by rw [entry_at hea x, hkv]; rfl
    rw [hent]
    have hmem : (k, ad, v) ∈ xa := List.mem_of_getElem? hkv
    obtain ⟨p, hp, he⟩ := hits _ hmem
    show wpAny _ _ (holding [_, _] _ >>= _) _ _ _
    refine wpAny_bind (wpAny_holding (wpAny_bind (wpAny_dictFind_heap hu (hia _ hmem) hob hdb heb hib hnb (fun hno => ?_) fun j p' hj => ?_)))
    · rw [atKey_none_of_get hno] at hp; cases hp
    · have ep2 := atKey_of_get hnb hj
      rw [hp] at ep2
      cases ep2
      refine wpAny_bind (wpAny_dictEntries hob hdb ?_)
      have hej : es'[j]? = some (entryOfKey knd (k, p)) := by rw [entry_at heb j, hj]; rfl
      rw [hej]
      refine wpAny_holding (he _ _ ?_)
      show wpAny _ _ (if (!true) = true then _ else _) _ _ _
      rw [if_neg (by decide)]
      refine wpAny_bind (wpAny_dictEpoch hoa hda ?_)
      rw [if_neg (by simp)]
      exact wpAny_pure ⟨rfl, rfl, x + 1, hrest, hlt⟩
  · rintro q s' ⟨rfl, rfl, i, hr, hi⟩
    exact wpAny_pure h
theorem samePairs0 {nm : String} {a b : Addr} {oa ob : Obj} {es : Array DictEntry} {ep ep' : Nat} {Q : Bool → Shared → Prop} (ha : (a == sysModules) = false) (hb : (b == sysModules) = false)
    (hoa : s.heap.get? a = some oa) (hda : oa.data = .dict es ep) (hob : s.heap.get? b = some ob) (hdb : ob.data = .dict #[] ep') (h : Q (decide (es.size = 0)) s) :
    wpAny (model prog w) A (Builtin.Dict.samePairs nm a b) Q E s := by
  unfold Builtin.Dict.samePairs Builtin.Dict.showsAll
  rw [if_neg (show ¬ (a == sysModules) = true by rw [ha]; exact Bool.false_ne_true), if_neg (show ¬ (b == sysModules) = true by rw [hb]; exact Bool.false_ne_true)]
  refine wpAny_bind (wpAny_pure (wpAny_bind (wpAny_pure ?_)))
  refine wpAny_bind (wpAny_dictEntries hoa hda ?_)
  dsimp only
  refine wpAny_bind (wpAny_dictEntries hob hdb ?_)
  by_cases hz : es.size = 0
  · rw [if_neg (by rw [hz]; simp)]
    refine wpAny_bind (wpAny_dictEpoch hoa hda ?_)
    refine wpAny_bind ?_
    rw [hz]
    rw [Std.Legacy.Range.forIn_eq_forIn_range']
    simp only [Std.Legacy.Range.size, Nat.sub_zero, Nat.add_sub_cancel, Nat.div_one]
    refine wpAny_forIn_list _ (fun rest q s' => s' = s ∧ q = (none, ()) ∧ rest = []) _ ?_ ?_ _ _ ⟨rfl, rfl, rfl⟩
    · rintro x rest q s' ⟨_, _, e⟩; cases e
    · rintro q s' ⟨rfl, rfl, _⟩
      exact wpAny_pure (by simpa [hz] using h)
  · rw [if_pos (by simpa using hz)]
    exact wpAny_bind (wpAny_rule (wpAny_pure (by simpa [hz] using h)))
/-- the slots of dicts, by what samePairs tells -/
theorem rc_dict {a b : Addr} {r : Bool} (ta : s.TypeIs (.ref a) "dict") (tb : s.TypeIs (.ref b) "dict") (hu : A.units < cLine)
    (same : ∀ {nm : String} {Q' : Bool → Shared → Prop} {E' : Value → Shared → Prop}, Q' r s → wpAny (model prog w) A.in1 (Builtin.Dict.samePairs nm a b) Q' E' s) (E Q : Value → Shared → Prop) (h : Q (.bool r) s) :
    wpAny (model prog w) A (richCompare .Eq (.ref a) (.ref b)) Q E s := by
  refine wpAny_richCompare_same_room (op := .Eq) ta tb PySem.F.slot_dict_eq (wpAny_call_entry PySem.F.slot_dict_eq ta PySem.F.entry_dict_eq ?_ (PySem.F.args_dict_eq_2 _ _)) hu
  show wpAny _ _ (Builtin.Dict.dictSlotArgs "__eq__" ⟨[.ref a, .ref b], []⟩ >>= _) _ _ s
  refine wpAny_bind ?_
  unfold Builtin.Dict.dictSlotArgs
  refine wpAny_bind (wpAny_notOrdered_dict ta ?_)
  show wpAny _ _ (pure (Value.ref a, Value.ref b)) _ _ s
  refine wpAny_pure ?_
  refine wpAny_bind (wpAny_isInstance (T := "dict") tb PySem.F.sub_dict_dict ?_)
  simp only [Bool.not_true, Bool.false_eq_true, if_false]
  refine wpAny_bind (wpAny_pure (wpAny_bind (wpAny_pure ?_)))
  refine wpAny_bind (same ?_)
  refine wpAny_pure ⟨_, rfl, ?_, ?_⟩
  · exact fun x => nomatch x
  · simpa using h
theorem rcn_dict {a b : Addr} {r : Bool} (ta : s.TypeIs (.ref a) "dict") (tb : s.TypeIs (.ref b) "dict") (hu : A.units < cLine)
    (same : ∀ {nm : String} {Q' : Bool → Shared → Prop} {E' : Value → Shared → Prop}, Q' r s → wpAny (model prog w) A.in1 (Builtin.Dict.samePairs nm a b) Q' E' s) (E Q : Value → Shared → Prop) (h : Q (.bool (!r)) s) :
    wpAny (model prog w) A (richCompare .NotEq (.ref a) (.ref b)) Q E s := by
  refine wpAny_richCompare_same_room (op := .NotEq) ta tb PySem.F.slot_dict_ne
    (wpAny_call_entry PySem.F.slot_dict_ne ta PySem.F.entry_dict_ne ?_ (PySem.F.args_dict_ne_2 _ _)) hu
  show wpAny _ _ (Builtin.Dict.dictSlotArgs "__ne__" ⟨[.ref a, .ref b], []⟩ >>= _) _ _ s
  refine wpAny_bind (by
    unfold Builtin.Dict.dictSlotArgs
    refine wpAny_bind (wpAny_notOrdered_dict ta (show wpAny _ _ (pure (Value.ref a, Value.ref b)) _ _ s from wpAny_pure (wpAny_bind (wpAny_isInstance (T := "dict") tb PySem.F.sub_dict_dict ?_))))
    simp only [Bool.not_true, Bool.false_eq_true, if_false]
    refine wpAny_bind (wpAny_pure (wpAny_bind (wpAny_pure (wpAny_bind (same ?_)))))
    exact wpAny_pure ⟨_, rfl, (fun x => nomatch x), by simpa using h⟩)
end
section
variable {X : Cx} {pins : List (Addr × Obj)} {σ : L2.St} {H : Hp} {s : Shared}
/-- two dicts of tuple keys, alike -/
def AlT (K : PySem.W.Frag) (H : Hp) (x y : V) : Prop := ∃ a b ks ls, x = .ref a ∧ y = .ref b ∧ Rd H a (.dT ks) ∧ Rd H b (.dT ls) ∧ ks.length = ls.length ∧ ∀ p ∈ ks, ∃ u, valV ls p.1 = some u ∧ EqW K H 50 p.2 u
theorem paired_mem {α β : Type} {F : α → β → Prop} : ∀ {l : List α} {r : List β}, Paired F l r → ∀ b ∈ r, ∃ a ∈ l, F a b
  | _, _, .nil => fun _ hb => nomatch hb
  | _, _, .cons h t => fun b hb => by
    rcases List.mem_cons.mp hb with rfl | hb
    · exact ⟨_, List.mem_cons_self, h⟩
    · obtain ⟨a, h1, h2⟩ := paired_mem t b hb
      exact ⟨a, List.mem_cons_of_mem _ h1, h2⟩
theorem alT_same (I : Inv X pins σ H s) (hu : X.A.units + 64 < cLine) {x y : V} {v u : Value} (h : AlT X.K H x y) (rx : RelV x v) (ry : RelV y u) :
    ∃ a b, v = .ref a ∧ u = .ref b ∧ s.TypeIs (.ref a) "dict" ∧ s.TypeIs (.ref b) "dict" ∧ ∀ {nm : String} {Q' : Bool → Shared → Prop} {E' : Value → Shared → Prop}, Q' true s → wpAny (model X.prog X.w) X.A.in1 (Builtin.Dict.samePairs nm a b) Q' E' s := by
  obtain ⟨a, b, ks, ls, rfl, rfl, ha, hb, hl, hp⟩ := h
  cases (show v = Value.ref a from rx)
  cases (show u = Value.ref b from ry)
  obtain ⟨_, ya, xa, ra, da⟩ := dt_rd I.hok ha
  obtain ⟨_, yb, xb, rb, db⟩ := dt_rd I.hok hb
  refine ⟨a, b, rfl, rfl, da.typeIs, db.typeIs, fun {nm Q' E'} q => samePairsH (show X.A.in1.units < cLine from by show X.A.units + 1 < cLine; omega) ya yb da db (by rw [← Paired.length ra, ← Paired.length rb, hl]) (fun x hx => ?_) q⟩
  obtain ⟨p, hpm, e1, _, e2⟩ := paired_mem ra x hx
  obtain ⟨w, hw, ew⟩ := hp p hpm
  have rr : RelO (some w) ((atKey xb x.1).map (·.2)) := by rw [← hw, e1]; exact KT.val rb x.1
  obtain ⟨y, hy, ry⟩ := rr.some_of
  obtain ⟨z, hz, rfl⟩ := Option.map_eq_some_iff.mp hy
  exact ⟨z, hz, eqW_run I 50 X.A.in1 (by show X.A.units + 1 + 50 < cLine; omega) _ _ _ _ ew e2 ry⟩
theorem op_eqT (hu : X.A.units + 64 < cLine) : OpR X (compareOp .Eq) (fun x y H Q => AlT X.K H x y ∧ Q (.bl true) H) := by
  intro pins s σ H x y v u Q I rx ry h
  obtain ⟨h, q⟩ := h
  obtain ⟨a, b, rfl, rfl, ta, tb, same⟩ := alT_same I hu h rx ry
  exact rc_dict (r := true) ta tb (by omega) same _ _ ⟨.bl true, H, I, rfl, q⟩
theorem op_neT (hu : X.A.units + 64 < cLine) : OpR X (compareOp .NotEq) (fun x y H Q => AlT X.K H x y ∧ Q (.bl false) H) := by
  intro pins s σ H x y v u Q I rx ry h
  obtain ⟨h, q⟩ := h
  obtain ⟨a, b, rfl, rfl, ta, tb, same⟩ := alT_same I hu h rx ry
  exact rcn_dict (r := true) ta tb (by omega) same _ _ ⟨.bl false, H, I, rfl, q⟩
/-- a dict beside one that holds nothing -/
def EmE (H : Hp) (x y : V) (r : Bool) : Prop := ∃ a b, x = .ref a ∧ y = .ref b ∧ Rd H b (.dK []) ∧ ((∃ ks, Rd H a (.dK ks) ∧ r = decide (ks.length = 0)) ∨ ∃ ks, Rd H a (.dT ks) ∧ r = decide (ks.length = 0))
theorem op_eqE (hu : X.A.units + 64 < cLine) : OpR X (compareOp .Eq) (fun x y H Q => ∃ r, EmE H x y r ∧ Q (.bl r) H) := by
  intro pins s σ H x y v u Q I rx ry h
  obtain ⟨r, ⟨a, b, rfl, rfl, hb, h⟩, q⟩ := h
  cases (show v = Value.ref a from rx)
  cases (show u = Value.ref b from ry)
  obtain ⟨_, yb, vb, rb, db⟩ := dk_rd I.hok hb
  have tb := db.typeIs
  obtain ⟨ob, es', ep', hob, _, hdb, _, hpb, _⟩ := db
  have e0 : es' = #[] := by
    have h1 := hpb.length
    have h2 := rb.length
    have h3 : es'.toList = [] := List.eq_nil_of_length_eq_zero (by rw [h1, ← h2]; rfl)
    exact Array.toList_eq_nil_iff.mp h3
  subst e0
  rcases h with ⟨ks, ha, rfl⟩ | ⟨ks, ha, rfl⟩
  · obtain ⟨_, ya, va, ra, da⟩ := dk_rd I.hok ha
    have ta := da.typeIs
    obtain ⟨oa, es, ep, hoa, _, hda, _, hpa, _⟩ := da
    have hs : es.size = ks.length := by rw [ra.length, ← hpa.length, Array.length_toList]
    refine rc_dict ta tb (by omega) (fun q' => samePairs0 ya yb hoa hda hob hdb (by rw [hs]; exact q')) _ _ ⟨.bl _, H, I, rfl, q⟩
  · obtain ⟨_, ya, xa, ra, da⟩ := dt_rd I.hok ha
    have ta := da.typeIs
    obtain ⟨oa, es, ep, hoa, _, hda, hea, _, _⟩ := da
    have hs : es.size = ks.length := by rw [size_of_entries hea, Paired.length ra]
    refine rc_dict ta tb (by omega) (fun q' => samePairs0 ya yb hoa hda hob hdb (by rw [hs]; exact q')) _ _ ⟨.bl _, H, I, rfl, q⟩
end

/-! ### as trees -/
def alTd : D → D → Bool
  | .dic true ks l, .dic true ks' l' => ks.length == ks'.length && (ks.zip l).all fun p => match lkD ks' l' p.1 with
    | some d => D.same 50 p.2 d
    | none => false
  | _, _ => false
def dEqT : List D → Option D
  | [a, b] => if alTd a b then some (.bl true) else none
  | _ => none
def dNeT : List D → Option D
  | [a, b] => if alTd a b then some (.bl false) else none
  | _ => none
def dEqE : List D → Option D
  | [.dic _ ks _, .dic false [] _] => some (.bl (decide (ks.length = 0)))
  | _ => none
section
variable {mg : Mg} {H : Hp}
theorem entriesT {kl' : List (List L2.Key)} {l' : List D} {us : List V} {g2 : List Addr} (k2 : RepL mg H l' us g2) :
    ∀ {kl : List (List L2.Key)} {l : List D} {vs : List V} {g1 : List Addr}, RepL mg H l vs g1 → (((kl.map Ky.t).zip l).all fun p => match lkD (kl'.map Ky.t) l' p.1 with | some d => D.same 50 p.2 d | none => false) = true →
      ∀ p ∈ kl.zip vs, ∃ u, valV (kl'.zip us) p.1 = some u ∧ EqW mg.K H 50 p.2 u
  | [], _, _, _, _, _, p, hp => by simp at hp
  | k :: kl, [], _, _, h1, _, p, hp => by
    simp only [RepL] at h1
    obtain ⟨rfl, _⟩ := h1
    simp at hp
  | k :: kl, d :: l, _, _, h1, h, p, hp => by
    simp only [RepL] at h1
    obtain ⟨v, vs, f1, f2, rfl, r1, r2, _⟩ := h1
    simp only [List.map_cons, List.zip_cons_cons, List.all_cons, Bool.and_eq_true] at h
    rcases List.mem_cons.mp (show p ∈ (k, v) :: kl.zip vs from hp) with e | e
    · subst e
      have h0 := h.1
      cases hk : lkD (kl'.map Ky.t) l' (Ky.t k) with
      | none => rw [hk] at h0; cases h0
      | some d' =>
        rw [hk] at h0
        obtain ⟨u, _, _, _, e1, e2, _⟩ := lk_some ky_t_inj k2 hk
        exact ⟨u, e1, same_ok 50 _ _ _ _ _ _ r1 e2 h0⟩
    · exact entriesT k2 r2 h.2 p e
theorem alTd_ok {a b : D} {x y : V} {g1 g2 : List Addr} (r1 : Rep mg H a x g1) (r2 : Rep mg H b y g2) (h : alTd a b = true) : AlT mg.K H x y := by
  unfold alTd at h
  split at h
  · simp only [Bool.and_eq_true, beq_iff_eq] at h
    simp only [Rep] at r1 r2
    obtain ⟨a, vs, _, rfl, ⟨⟨n1, _⟩, kl, rfl, ha⟩, l1, _⟩ := r1
    obtain ⟨b, us, _, rfl, ⟨⟨n2, _⟩, kl', rfl, hb⟩, l2, _⟩ := r2
    refine ⟨a, b, _, _, rfl, rfl, ha, hb, ?_, entriesT l2 l1 h.2⟩
    have h0 := h.1
    simp only [List.length_map] at h0 n1 n2
    rw [List.length_zip, List.length_zip, ← n1, ← n2, Nat.min_self, Nat.min_self, h0]
  · cases h
end
section
variable {X : Cx} {LL : List Nat} {Γ : List Kd} {pos : Pos} {a b : Expr} {sa sb : Ev} {ma mb : Md}
theorem cp_eqT : CP X (r2 fun x y H Q => AlT X.K H x y ∧ Q (.bl true) H) dEqT toFlat := by
  intro P LL g H H1 m ds vs d Q l x vl e q
  obtain ⟨fp, r⟩ := vl.rep
  unfold dEqT at e
  split at e
  · split at e
    · rename_i h
      cases e
      obtain ⟨v, w, f1, f2, rfl, h1, h2, _⟩ := repL2 r
      exact ⟨v, w, rfl, alTd_ok h1 h2 h, q _ H1 Ext.refl (val_flat rep_bl)⟩
    · cases e
  · cases e
theorem cp_neT : CP X (r2 fun x y H Q => AlT X.K H x y ∧ Q (.bl false) H) dNeT toFlat := by
  intro P LL g H H1 m ds vs d Q l x vl e q
  obtain ⟨fp, r⟩ := vl.rep
  unfold dNeT at e
  split at e
  · split at e
    · rename_i h
      cases e
      obtain ⟨v, w, f1, f2, rfl, h1, h2, _⟩ := repL2 r
      exact ⟨v, w, rfl, alTd_ok h1 h2 h, q _ H1 Ext.refl (val_flat rep_bl)⟩
    · cases e
  · cases e
theorem cp_eqE : CP X (r2 fun x y H Q => ∃ r, EmE H x y r ∧ Q (.bl r) H) dEqE toFlat := by
  intro P LL g H H1 m ds vs d Q l x vl e q
  obtain ⟨fp, r⟩ := vl.rep
  unfold dEqE at e
  split at e
  · rename_i tk ks l l'
    cases e
    obtain ⟨v, w, f1, f2, rfl, h1, h2, _⟩ := repL2 r
    simp only [Rep] at h1 h2
    obtain ⟨a, vs, _, rfl, ⟨⟨n1, _⟩, ha⟩, l1, _⟩ := h1
    obtain ⟨b, us, _, rfl, ⟨⟨n2, _⟩, kl', e0, hb⟩, l2, _⟩ := h2
    have : kl' = [] := by cases kl' with
      | nil => rfl
      | cons _ _ => cases e0
    subst this
    refine ⟨_, _, rfl, _, ⟨a, b, rfl, rfl, hb, ?_⟩, q _ H1 Ext.refl (val_flat rep_bl)⟩
    cases tk with
    | false =>
      obtain ⟨kl, rfl, ha⟩ := ha
      refine .inl ⟨_, ha, ?_⟩
      rw [List.length_zip, ← n1]; simp
    | true =>
      obtain ⟨kl, rfl, ha⟩ := ha
      refine .inr ⟨_, ha, ?_⟩
      rw [List.length_zip, ← n1]; simp
  · cases e
theorem ex_eqT (hu : X.A.units + 64 < cLine) (ha : EX X LL Γ a sa ma) (hb : EX X LL Γ b sb mb) : EX X LL Γ (.Compare a [.Eq] [b] pos) (eP dEqT (aCons sa (aCons sb aNil))) .flat := ex_cmp (op_eqT hu) cp_eqT ha hb (nomark _)
theorem et_eqT (hu : X.A.units + 64 < cLine) (ha : EX X LL Γ a sa ma) (hb : EX X LL Γ b sb mb) : ET X LL Γ (.Compare a [.Eq] [b] pos) (tOf (eP dEqT (aCons sa (aCons sb aNil)))) := et_cmp (op_eqT hu) cp_eqT ha hb (nomark _)
theorem ex_neT (hu : X.A.units + 64 < cLine) (ha : EX X LL Γ a sa ma) (hb : EX X LL Γ b sb mb) : EX X LL Γ (.Compare a [.NotEq] [b] pos) (eP dNeT (aCons sa (aCons sb aNil))) .flat := ex_cmp (op_neT hu) cp_neT ha hb (nomark _)
theorem et_neT (hu : X.A.units + 64 < cLine) (ha : EX X LL Γ a sa ma) (hb : EX X LL Γ b sb mb) : ET X LL Γ (.Compare a [.NotEq] [b] pos) (tOf (eP dNeT (aCons sa (aCons sb aNil)))) := et_cmp (op_neT hu) cp_neT ha hb (nomark _)
theorem ex_eqE (hu : X.A.units + 64 < cLine) (ha : EX X LL Γ a sa ma) (hb : EX X LL Γ b sb mb) : EX X LL Γ (.Compare a [.Eq] [b] pos) (eP dEqE (aCons sa (aCons sb aNil))) .flat := ex_cmp (op_eqE hu) cp_eqE ha hb (nomark _)
theorem et_eqE (hu : X.A.units + 64 < cLine) (ha : EX X LL Γ a sa ma) (hb : EX X LL Γ b sb mb) : ET X LL Γ (.Compare a [.Eq] [b] pos) (tOf (eP dEqE (aCons sa (aCons sb aNil)))) := et_cmp (op_eqE hu) cp_eqE ha hb (nomark _)
end
end VV

/-! ## VKti -/
/-! tuples of whole numbers that are known to the object: made by tuple(list), count, index, len, sum, in, slices, zip -/
namespace VV
open PySem PySem.Spec PyProof.Rows L2
theorem kti_rep {mg : Mg} {H : Hp} {l : List Int} {v : V} {fp : List Addr} (h : Rep mg H (.kti l) v fp) : ∃ a o, v = .ref a ∧ H a = some (.frz o (.tup (l.map V.int))) ∧ o.dict = none := by
  simp only [Rep] at h
  exact h.1
theorem cr_tupK {X : Cx} : CallR X (.type "tuple") (fun xs H Q => ∃ p ys, xs = [.ref p] ∧ SqL X.K H p ys ∧ ∀ (l : Addr) (o : Obj), H l = none → o.dict = none → Q (.ref l) (upd H l (.frz o (.tup ys)))) := by
  intro pins s σ H xs us Q I r h
  obtain ⟨p, ys, rfl, hq, q⟩ := h
  obtain ⟨u, rfl, rx⟩ := vals1 r
  cases rx
  obtain ⟨its, r', pl, hz⟩ := I.list hq
  have hlen := r'.length
  refine call_tuple_list pl.isList (fun h' kp => ?_) (by simp only [List.size_toArray] <;> omega)
  have I1 : Inv X pins σ H { s with heap := h' } := I.kept (t' := s.toks) kp
  have I2 : Inv X pins σ (upd H h'.objs.size (.frz { cls := .type "tuple", data := .seq its.toArray } (.tup ys))) { s with heap := h'.push { cls := .type "tuple", data := .seq its.toArray } } :=
    I1.laid (t' := s.toks) (fun b o e => Heap.get?_push_of_some _ e) (Nat.le_refl _) (show ObjOk X.prog X.w _ _ _ (.frz _ (.tup ys)) from ⟨Heap.get?_push_size _ rfl, hz, its, r', IsTup.new _ _⟩)
  exact ⟨.ref h'.objs.size, _, I2, rfl, q _ _ (I1.hok.fresh (Nat.le_refl _)) rfl⟩
def dTupK : List D → Option D
  | [.lst l] => (intsOf l).map .kti
  | _ => none
def dCountK : List D → Option D
  | [.kti l, .int k] => some (.int ((l.countP fun y => y == k : Nat) : Int))
  | _ => none
def dIndexK : List D → Option D
  | [.kti l, .int k] => if k ∈ l then some (.int ((l.idxOf k : Nat) : Int)) else none
  | _ => none
def dLenT : List D → Option D
  | [.kti l] => some (.int l.length)
  | [.tup l] => some (.int l.length)
  | _ => none
def dSumK : List D → Option D
  | [.kti l] => some (.int l.sum)
  | [.tup l] => (intsOf l).map fun ns => .int ns.sum
  | _ => none
def dInK : List D → Option D
  | [.int k, .kti l] => some (.bl (decide (k ∈ l)))
  | _ => none
def eSlK (s : Ev) (lo hi : List D → Option (Option Int)) : Ev := fun ρ => do
  let d ← s ρ
  let l ← lo ρ
  let h ← hi ρ
  match d with
  | .kti ns => if HT.sIx ns.length 0 l = 0 ∧ HT.sIx ns.length ns.length h = ns.length then none else some (.tup ((cutG ns l h).map D.int))
  | _ => none
theorem repL_int {mg : Mg} {H : Hp} : ∀ ns : List Int, RepL mg H (ns.map D.int) (ns.map V.int) []
  | [] => by simp [RepL]
  | a :: r => by
    simp only [List.map_cons, RepL]
    exact ⟨.int a, r.map V.int, [], [], rfl, by simp [Rep], repL_int r, rfl⟩
section
variable {X : Cx} {LL : List Nat} {Γ : List Kd} {pos p p2 apos : Pos} {a b e : Expr} {sa sb se : Ev} {ma mb m : Md} {lo hi : Option Expr} {sl sh : List D → Option (Option Int)}
theorem ex_tupK {x : Str} (hg : Gl X x) (hm : X.mg x = none) (hv : bootBuiltins x = some (.type "tuple")) (ha : EX X LL Γ a sa ma) (hn : x ≠ "__name__" := by decide) (hdb : (x == ("__debug__" : Str)) = false := by decide)
    (he : starEach [a] X.env = (false, eval a X.env) :: starEach [] X.env := by rfl) : EX X LL Γ (.Call (.Name x p) [a] [] pos) (eP dTupK (aCons sa aNil)) .flat := by
  obtain ⟨t, pt, k⟩ := ha
  refine ⟨_, pe_callTy cr_tupK hg hm hv (pa_cons pt pa_nil he) hn hdb he, fun P g ρ σ H d Q s e q => ?_⟩
  obtain ⟨ds, e1, e⟩ := bind_some e
  refine one_arg k s e1 fun d0 v H1 eds x1 w => ?_
  subst eds
  unfold dTupK at e
  split at e
  · rename_i l eq
    cases eq
    obtain ⟨ns, en, rfl⟩ := Option.map_eq_some_iff.mp e
    obtain ⟨c, vs, rfl, hv, _, _, fp, r, _⟩ := seq_of w
    have := intsOf_rep en r
    subst this
    refine ⟨c, _, rfl, SqL.of hv, fun l o hl hd => q _ _ (x1.trans (Ext.put hl)) (val_flat ?_)⟩
    simp only [Rep]
    exact ⟨⟨l, o, rfl, upd_same, hd⟩, trivial⟩
  · cases e
theorem cp_lenT : CP X (fun xs H Q => ∃ x n, xs = [x] ∧ LenV X.K x H n ∧ Q (.int n) H) dLenT toFlat := by
  intro P LL g H H1 m ds vs d Q l x vl e q
  obtain ⟨fp, r⟩ := vl.rep
  unfold dLenT at e
  split at e
  · cases e
    obtain ⟨v, rfl, h⟩ := repL1 r
    obtain ⟨a, o, rfl, ha, _⟩ := kti_rep h
    exact ⟨_, _, rfl, .inr ⟨_, .inl (.inr ⟨o, ha⟩), rfl⟩, by rw [List.length_map]; exact q _ H1 Ext.refl (val_flat rep_int)⟩
  · cases e
    obtain ⟨v, rfl, h⟩ := repL1 r
    simp only [Rep] at h
    obtain ⟨a, vs, rfl, ha, h2⟩ := h
    exact ⟨_, _, rfl, .inr ⟨vs, .inl (.inl ha), rfl⟩, by rw [h2.length]; exact q _ H1 Ext.refl (val_flat rep_int)⟩
  · cases e
theorem cp_sumK : CP X (rSumT X.K) dSumK toFlat := by
  intro P LL g H H1 m ds vs d Q l x vl e q
  obtain ⟨fp, r⟩ := vl.rep
  unfold dSumK at e
  split at e
  · cases e
    obtain ⟨v, rfl, h⟩ := repL1 r
    obtain ⟨a, o, rfl, ha, _⟩ := kti_rep h
    exact ⟨a, _, rfl, .inl (.inr ⟨o, ha⟩), q _ H1 Ext.refl (val_flat rep_int)⟩
  · obtain ⟨ns, e1, rfl⟩ := Option.map_eq_some_iff.mp e
    obtain ⟨v, rfl, h⟩ := repL1 r
    simp only [Rep] at h
    obtain ⟨a, us, rfl, ha, rl⟩ := h
    have := intsOf_rep e1 rl
    subst this
    exact ⟨a, ns, rfl, .inl (.inl ha), q _ H1 Ext.refl (val_flat rep_int)⟩
  · cases e
theorem ex_slK (he : EX X LL Γ e se m) (hl : EO X LL Γ lo sl) (hh : EO X LL Γ hi sh) : EX X LL Γ (.Subscript e (.Slice lo hi none p2) pos) (eSlK se sl sh) .flat := by
  obtain ⟨te, tl, th, pe, pl, ph, k⟩ := slice_parts he hl hh
  refine ⟨_, pe_slice sl_tupA pe pl ph, fun P g ρ σ H d Q s e q => ?_⟩
  obtain ⟨d0, e1, e⟩ := bind_some e
  obtain ⟨l, e2, e⟩ := bind_some e
  obtain ⟨h, e3, e⟩ := bind_some e
  refine k P g ρ σ H (fun x l u H3 => rSlA X.K x l u H3 Q) d0 l h s e1 e2 e3 fun v H' x w => ?_
  cases d0 with
  | kti ns =>
    dsimp only at e
    split at e
    · cases e
    · rename_i hw
      cases e
      obtain ⟨f, r, _⟩ := w.labs
      obtain ⟨a, o, rfl, ha, _⟩ := kti_rep r
      refine ⟨a, ns.map V.int, rfl, .inl (.inr ⟨o, ha⟩), fun hw' => absurd (by simpa using hw') hw, fun _ p hp => q _ _ (x.trans (Ext.put hp)) (val_flat ?_)⟩
      have ec : cutV (ns.map V.int) l h = (cutG ns l h).map V.int := by
        unfold cutV cutG
        rw [List.length_map, List.map_take, List.map_drop]
      rw [ec]
      simp only [Rep]
      exact ⟨p, _, rfl, upd_same, repL_int _⟩
  | _ => cases e
def rInK (K : PySem.W.Frag) : R2 := fun x y H Q => rInX K id x y H Q
/-- a method of a known tuple, of one whole number -/
def tMK (r : Addr → List Int → Int → VK → Hp → Prop) (to te : TE) : TE := fun σ H Q => to σ H fun x H1 => (∃ (a : Addr) (o : Obj) (l : List Int), x = .ref a ∧ H1 a = some (.frz o (.tup (l.map V.int))) ∧ o.dict = none) ∧
  te σ H1 fun y H2 => ∃ (a : Addr) (o : Obj) (l : List Int) (k : Int), x = .ref a ∧ y = .int k ∧ H2 a = some (.frz o (.tup (l.map V.int))) ∧ o.dict = none ∧ r a l k Q H2
theorem kti_at {pins : List (Addr × Obj)} {σ : L2.St} {H : Hp} {s : Shared} (I : Inv X pins σ H s) {a : Addr} {o : Obj} {l : List Int} (h : H a = some (.frz o (.tup (l.map V.int)))) : s.heap.get? a = some o ∧ o.cls = .type "tuple" ∧ ∃ its : List Value, Vals (l.map V.int) its ∧ s.heap.IsTuple a its.toArray := by
  obtain ⟨e, z, its, r, ob, e2, c, n, hd⟩ := (show ObjOk X.prog X.w H s.heap a (.frz o (.tup (l.map V.int))) from I.hok a _ h)
  have : o = ob := Option.some.inj (e.symm.trans e2)
  subst this
  exact ⟨e, c, its, r, o, e, c, n, hd⟩
theorem pe_mK {id : String} {name : Str} {r : Addr → List Int → Int → VK → Hp → Prop} {to te : TE} (slot : Slot "tuple" name id) (ty : typeOf (.builtin id) = pure (.type "method_descriptor"))
    (rule : ∀ (pins : List (Addr × Obj)) (s : Shared) (σ : L2.St) (H : Hp) (a : Addr) (o : Obj) (l : List Int) (k : Int) (t : Tok) (Q : VK), Inv X pins σ H s → H a = some (.frz o (.tup (l.map V.int))) → r a l k Q H →
      wpAny (model X.prog X.w) X.A (call (.builtin id) [.ref a, .int k t]) (fun v s' => ∃ (y : V) (H' : Hp), Inv X pins σ H' s' ∧ RelV y v ∧ Q y H') X.xe s)
    (ho : PE X a to) (he : PE X b te)
    (hs : starEach [b] X.env = [(false, eval b X.env)] := by rfl) (hbase : attributeBase a name X.env (eval a X.env) = eval a X.env := by rfl) (hline : (apos.endLine == pos.line) = true := by rfl) :
    PE X (.Call (.Attribute a name apos) [b] [] pos) (tMK r to te) := by
  refine ⟨fun pins s σ H Q I h => ?_⟩
  refine PySem.Call_method1 hbase hs hline (thn (ho.run pins s σ H _ I h) fun v s1 ⟨x, H1, I1, r1, q1⟩ => ?_)
  obtain ⟨⟨c, o, l, rfl, hc, hd⟩, q1⟩ := q1
  cases r1
  obtain ⟨g1, g2, _⟩ := kti_at I1 hc
  refine ⟨"tuple", _, F.plainAttrs_tuple, slot, ty, ⟨o, g1, g2⟩, fun z ez => ?_, Calls.callWith_builtin rfl (Calls.evalArgs_plain (Calls.spliced_cons ?_))⟩
  · cases ez
    exact ⟨o, g1, hd⟩
  · refine thn (he.run pins s1 σ H1 _ I1 q1) fun u s2 ⟨y, H2, I2, r2, q2⟩ => Calls.spliced_nil ?_
    obtain ⟨c', o', l', k, ec, rfl, hc', _, q3⟩ := q2
    cases ec
    obtain ⟨t, rfl⟩ := r2
    exact rule pins s2 σ H2 _ _ _ k t Q I2 hc' q3
theorem readsAll_of_ints {h : Heap} : ∀ {us : List Value} {ns : List Int}, IntsAre us ns → ReadsAll h us (ns.map PyData.int) []
  | _, _, .nil => .nil
  | _, _, .cons n t r => by
    have := ReadsAll.cons (Reads.int n t) (readsAll_of_ints (h := h) r)
    simpa using this
theorem plain_ints : ∀ ns : List Int, PyData.plainAll (ns.map PyData.int) = true
  | [] => rfl
  | _ :: r => by simp [PyData.plainAll, PyData.plain, plain_ints r]
theorem rule_count (hu : X.A.units + 64 < cLine) (pins : List (Addr × Obj)) (s : Shared) (σ : L2.St) (H : Hp) (a : Addr) (o : Obj) (l : List Int) (k : Int) (t : Tok) (Q : VK) (I : Inv X pins σ H s) (h : H a = some (.frz o (.tup (l.map V.int)))) (q : Q (.int ((l.countP fun y => y == k : Nat) : Int)) H) :
    wpAny (model X.prog X.w) X.A (call (.builtin "tuple.count") [.ref a, .int k t]) (fun v s' => ∃ (y : V) (H' : Hp), Inv X pins σ H' s' ∧ RelV y v ∧ Q y H') X.xe s := by
  obtain ⟨_, _, its, rv, ht⟩ := kti_at I h
  have e1 : (l.map PyData.int).countP (fun y => PyData.eqv y (.int k)) = l.countP fun y => y == k := by
    rw [List.countP_map]
    congr 1
  refine SeqAt.count_tuple_data (xs := l.map .int) (d := .int k) (as := []) (bs := []) ht ?_ (.int k t) (plain_ints l) rfl ?_ ?_
  · rw [List.toList_toArray]; exact readsAll_of_ints rv.ints
  · have : min (PyData.depthAll (l.map PyData.int)) (PyData.int k).depth = 0 := by
      rw [PySem.W.depth_ints, Nat.zero_min]
    omega
  · rw [e1]
    exact ⟨.int _, H, I.tok _, ⟨_, rfl⟩, q⟩
theorem rule_index (pins : List (Addr × Obj)) (s : Shared) (σ : L2.St) (H : Hp) (a : Addr) (o : Obj) (l : List Int) (k : Int) (t : Tok) (Q : VK) (I : Inv X pins σ H s) (h : H a = some (.frz o (.tup (l.map V.int)))) (q : k ∈ l ∧ Q (.int ((l.idxOf k : Nat) : Int)) H) :
    wpAny (model X.prog X.w) X.A (call (.builtin "tuple.index") [.ref a, .int k t]) (fun v s' => ∃ (y : V) (H' : Hp), Inv X pins σ H' s' ∧ RelV y v ∧ Q y H') X.xe s := by
  obtain ⟨_, _, its, rv, ht⟩ := kti_at I h
  exact PySem.SeqAt.tuple_index_ints ht rv.ints q.1 ⟨.int _, H, I.tok _, ⟨_, rfl⟩, q.2⟩
theorem ex_mK {name : Str} {f : List Int → Int → Option Int} {r : Addr → List Int → Int → VK → Hp → Prop} (pe : ∀ {to te : TE}, PE X a to → PE X b te → PE X (.Call (.Attribute a name apos) [b] [] pos) (tMK r to te))
    (hr : ∀ a l k Q H i, f l k = some i → Q (.int i) H → r a l k Q H) {fD : List D → Option D} (hf : ∀ ds d, fD ds = some d → ∃ l k i, ds = [.kti l, .int k] ∧ d = .int i ∧ f l k = some i)
    (ha : EX X LL Γ a sa ma) (hb : EX X LL Γ b sb mb) : EX X LL Γ (.Call (.Attribute a name apos) [b] [] pos) (eP fD (aCons sa (aCons sb aNil))) .flat := by
  obtain ⟨ta, pa, ka⟩ := ha
  obtain ⟨tb, pb, kb⟩ := hb
  refine ⟨_, pe pa pb, fun P g ρ σ H d Q s e q => ?_⟩
  obtain ⟨ds, e1, e⟩ := bind_some e
  obtain ⟨d1, ea, e1⟩ := bind_some e1
  obtain ⟨r1, er, e1⟩ := bind_some e1
  obtain ⟨d2, eb, er⟩ := bind_some er
  cases er; cases e1
  obtain ⟨l, k, i, eds, rfl, hi⟩ := hf _ _ e
  cases eds
  refine ka P g ρ σ H _ _ s ea fun v H1 x1 w1 => ?_
  obtain ⟨f1, q1, _⟩ := w1.labs
  obtain ⟨c, o, rfl, hc, hd⟩ := kti_rep q1
  refine ⟨⟨c, o, l, rfl, hc, hd⟩, ?_⟩
  refine kb P g ρ σ H1 _ _ (s.ext x1) eb fun u H2 x2 w2 => ?_
  obtain ⟨f2, q2, _⟩ := w2.labs
  exact ⟨c, o, l, k, rfl, rInt q2, x2 _ _ hc, hd, hr _ _ _ _ _ _ hi (q _ H2 (x1.trans x2) (val_flat rep_int))⟩
theorem ex_countK (hu : X.A.units + 64 < cLine) (ha : EX X LL Γ a sa ma) (hb : EX X LL Γ b sb mb)
    (hs : starEach [b] X.env = [(false, eval b X.env)] := by rfl) (hbase : attributeBase a "count" X.env (eval a X.env) = eval a X.env := by rfl) (hline : (apos.endLine == pos.line) = true := by rfl) :
    EX X LL Γ (.Call (.Attribute a "count" apos) [b] [] pos) (eP dCountK (aCons sa (aCons sb aNil))) .flat := by
  refine ex_mK (f := fun l k => some ((l.countP fun y => y == k : Nat) : Int)) (r := fun _ l k Q H => Q (.int ((l.countP fun y => y == k : Nat) : Int)) H)
    (fun pa pb => pe_mK F.slot_tuple_count F.type_tuple_count (rule_count hu) pa pb hs hbase hline) (fun _ l k Q H i e q => by cases e; exact q) (fun ds d e => ?_) ha hb
  unfold dCountK at e
  split at e
  · cases e; exact ⟨_, _, _, rfl, rfl, rfl⟩
  · cases e
theorem ex_indexK (ha : EX X LL Γ a sa ma) (hb : EX X LL Γ b sb mb)
    (hs : starEach [b] X.env = [(false, eval b X.env)] := by rfl) (hbase : attributeBase a "index" X.env (eval a X.env) = eval a X.env := by rfl) (hline : (apos.endLine == pos.line) = true := by rfl) :
    EX X LL Γ (.Call (.Attribute a "index" apos) [b] [] pos) (eP dIndexK (aCons sa (aCons sb aNil))) .flat := by
  refine ex_mK (f := fun l k => if k ∈ l then some ((l.idxOf k : Nat) : Int) else none) (r := fun _ l k Q H => k ∈ l ∧ Q (.int ((l.idxOf k : Nat) : Int)) H)
    (fun pa pb => pe_mK F.slot_tuple_index F.type_tuple_index rule_index pa pb hs hbase hline) (fun _ l k Q H i e q => by
      split at e
      · rename_i h; cases e; exact ⟨h, q⟩
      · cases e) (fun ds d e => ?_) ha hb
  unfold dIndexK at e
  split at e
  · split at e
    · rename_i h; cases e; exact ⟨_, _, _, rfl, rfl, if_pos h⟩
    · cases e
  · cases e
theorem dpAll_ints {K : PySem.W.Frag} {H : Hp} : ∀ ns : List Int, DpAll K H (ns.map V.int) (ns.map PyData.int)
  | [] => .nil
  | a :: r => .cons (.int a) (dpAll_ints r)
theorem canLay_ints : ∀ ns : List Int, PyData.canLayAll0 (ns.map PyData.int) = true
  | [] => rfl
  | _ :: r => by simp [PyData.canLayAll0, PyData.canLay0, canLay_ints r]
theorem cp_inK : CP X (r2 (rInX X.K id)) dInK toFlat := by
  intro P LL g H H1 m ds vs d Q l x vl e q
  obtain ⟨fp, r⟩ := vl.rep
  unfold dInK at e
  split at e
  · rename_i k ns
    cases e
    obtain ⟨v, w, f1, f2, rfl, h1, h2, _⟩ := repL2 r
    obtain ⟨c, o, rfl, hc, _⟩ := kti_rep h2
    refine ⟨v, _, rfl, .int k, ns.map .int, by rw [rInt h1]; exact .int k, .inr (.tup (.inl (.inr ⟨o, hc⟩)) (dpAll_ints ns)), rfl, canLay_ints ns, ?_⟩
    have : (ns.map PyData.int).any (fun z => PyData.eqv z (.int k)) = decide (k ∈ ns) := by
      rw [List.any_map, Bool.eq_iff_iff]
      simp [PyData.eqv]
    rw [this]
    exact q _ H1 Ext.refl (val_flat rep_bl)
  · cases e
theorem ex_inK (hu : X.A.units + 100 < cLine) (ha : EX X LL Γ a sa ma) (hb : EX X LL Γ b sb mb) (hm : behindInMarks .In b = false := by rfl) : EX X LL Γ (.Compare a [.In] [b] pos) (eP dInK (aCons sa (aCons sb aNil))) .flat := ex_cmp (op_inX hu) cp_inK ha hb hm
theorem et_inK (hu : X.A.units + 100 < cLine) (ha : EX X LL Γ a sa ma) (hb : EX X LL Γ b sb mb) (hm : behindInMarks .In b = false := by rfl) : ET X LL Γ (.Compare a [.In] [b] pos) (tOf (eP dInK (aCons sa (aCons sb aNil)))) := et_cmp (op_inX hu) cp_inK ha hb hm
end
end VV

/-! ## VFdefs -/
/-! the trees of the defs that the laws of drawings and openings share (printed by gen.py) -/
namespace VP
open PySem PySem.Spec PyProof.Rows L2 VV VP

def m__law_number_c1 : Sv := (sRet (eCall f__law_cell_at (aCons (eVar 0) (aCons (eVar 1) aNil))))
def m__law_number_b1_1 : Sv := (sSet 3 (eP dAdd (aCons (eP dMul (aCons (eVar 3) (aCons (eC (.int 2147483647)) aNil))) (aCons (eP dMod (aCons (eP dMul (aCons (eVar 2) (aCons (eC (.int 40692)) aNil))) (aCons (eC (.int 2147483399)) aNil))) aNil))))
def m__law_number_b1 : Sv := (sSeq (sSet 2 (eP dMod (aCons (eP dAdd (aCons (eP dAdd (aCons (eP dAdd (aCons (eP dMul (aCons (eVar 2) (aCons (eC (.int 39373)) aNil))) (aCons (eP dDiv (aCons (eVar 2) (aCons (eC (.int 40014)) aNil))) aNil))) (aCons (eP dMul (aCons (eP dMul (aCons (eC (.int 17)) (aCons (eVar 4) aNil))) (aCons (eVar 4) aNil))) aNil))) (aCons (eC (.int 3)) aNil))) (aCons (eC (.int 2147483647)) aNil)))) m__law_number_b1_1)
def m__law_number_4 : Sv := (sSeq (sFor (iRng (aCons (eC (.int 9)) aNil)) (gN 4) m__law_number_b1) (sRet (eVar 3)))
def m__law_number_3 : Sv := (sSeq (sSet 3 (eC (.int 0))) m__law_number_4)
def m__law_number_2 : Sv := (sSeq (sSet 2 (eP dAdd (aCons (eP dMod (aCons (eVar 2) (aCons (eC (.int 2147483587)) aNil))) (aCons (eC (.int 31)) aNil)))) m__law_number_3)
def m__law_number_1 : Sv := (sSeq (sSet 2 (eP dAdd (aCons (eP dAdd (aCons (eCall f__law_cell_at (aCons (eVar 0) (aCons (eC (.int 0)) aNil))) (aCons (eP dMul (aCons (eC (.int 5003)) (aCons (eVar 1) aNil))) aNil))) (aCons (eP dMul (aCons (eC (.int 41)) (aCons (eCall f__law_cell_at (aCons (eVar 0) (aCons (eVar 1) aNil))) aNil))) aNil)))) m__law_number_2)
def m__law_number : Sv := (sSeq (sIf (tOf (eP dGe (aCons (eP dAbs (aCons (eCall f__law_cell_at (aCons (eVar 0) (aCons (eVar 1) aNil))) aNil)) (aCons (eC (.int 1000000000000000000)) aNil)))) m__law_number_c1 sNil) m__law_number_1)
def f__law_number : List D → Option Res := fnSem 5 [.flat, .flat] m__law_number
def m__law_closed_c1 : Sv := (sMut dPush 3 (eTup (aCons (eC (.int 1)) (aCons (eChk D.isFlat (eP dIdx (aCons (eVar 2) (aCons (eP dAdd (aCons (eVar 6) (aCons (eC (.int 1)) aNil))) aNil)))) (aCons (eP dIdx (aCons (eVar 7) (aCons (eC (.int 0)) aNil))) (aCons (eChk D.isFlat (eP dIdx (aCons (eVar 2) (aCons (eVar 6) aNil)))) (aCons (eP dIdx (aCons (eVar 7) (aCons (eC (.int 1)) aNil))) aNil)))))))
def m__law_closed_c2 : Sv := (sMut dPush 3 (eTup (aCons (eP dNeg (aCons (eC (.int 1)) aNil)) (aCons (eChk D.isFlat (eP dIdx (aCons (eVar 2) (aCons (eVar 6) aNil)))) (aCons (eP dIdx (aCons (eVar 7) (aCons (eC (.int 1)) aNil))) (aCons (eChk D.isFlat (eP dIdx (aCons (eVar 2) (aCons (eP dAdd (aCons (eVar 6) (aCons (eC (.int 1)) aNil))) aNil)))) (aCons (eP dIdx (aCons (eVar 7) (aCons (eC (.int 0)) aNil))) aNil)))))))
def m__law_closed_b1_3 : Sv := (sPut2 (gPut 2 (eVar 6)) (gPut 2 (eP dAdd (aCons (eVar 6) (aCons (eC (.int 1)) aNil)))) (eVar 7))
def m__law_closed_b1_2 : Sv := (sSeq (sIf (tOf (eP dGt (aCons (eVar 5) (aCons (eC (.int 0)) aNil)))) m__law_closed_c1 m__law_closed_c2) m__law_closed_b1_3)
def m__law_closed_b1_1 : Sv := (sSeq (sSet 7 (eTup (aCons (eP dAdd (aCons (eVar 0) (aCons (eP dMul (aCons (eC (.int 2)) (aCons (eVar 4) aNil))) aNil))) (aCons (eP dAdd (aCons (eP dAdd (aCons (eVar 0) (aCons (eP dMul (aCons (eC (.int 2)) (aCons (eVar 4) aNil))) aNil))) (aCons (eC (.int 1)) aNil))) aNil)))) m__law_closed_b1_2)
def m__law_closed_b1 : Sv := (sSeq (sSet 6 (eP dSub (aCons (eP dAbs (aCons (eVar 5) aNil)) (aCons (eC (.int 1)) aNil)))) m__law_closed_b1_1)
def m__law_closed_b2 : Sv := (sPut dPut 8 (eChk D.isFlat (eP dIdx (aCons (eVar 2) (aCons (eVar 4) aNil)))) (eVar 4))
def m__law_closed_e2 : Ev := (eChk D.isFlat (eP dGet2 (aCons (eVar 8) (aCons (eVar 11) (aCons (eVar 11) aNil)))))
def m__law_closed_e1 : Ev := (eP dCatT (aCons (eTup (aCons (eP dIdx (aCons (eVar 10) (aCons (eC (.int 0)) aNil))) aNil)) (aCons (eChk D.isFlat (eP dTuple (aCons (eLc (iTupl (eSl (eChk D.isTup (eVar 10)) (oSome (eC (.int 1))) oNone)) (gN 11) cYes m__law_closed_e2) aNil))) aNil)))
def m__law_closed_6 : Sv := (sRet (eTup (aCons (eVar 9) (aCons (eLc (iLst (eVar 3)) (gF (gN 10)) cYes m__law_closed_e1) aNil))))
def m__law_closed_5 : Sv := (sSeq (sSet 9 (eLc (iRng (aCons (eVar 0) aNil)) (gN 4) (tOf (eP dEq (aCons (eChk D.isFlat (eP dIdx (aCons (eVar 2) (aCons (eVar 4) aNil)))) (aCons (eVar 4) aNil)))) (eVar 4))) m__law_closed_6)
def m__law_closed_4 : Sv := (sSeq (sFor (iRng (aCons (eVar 0) aNil)) (gN 4) m__law_closed_b2) m__law_closed_5)
def m__law_closed_3 : Sv := (sSeq (sSet 8 (eC (.dic false [] []))) m__law_closed_4)
def m__law_closed_2 : Sv := (sSeq (sFor (iEnumL (eVar 1)) (gT (gsCons (gF (gN 4)) (gsCons (gF (gN 5)) gsNil))) m__law_closed_b1) m__law_closed_3)
def m__law_closed_1 : Sv := (sSeq (sSet 3 (eLst aNil)) m__law_closed_2)
def m__law_closed : Sv := (sSeq (sSet 2 (eP dRngL (aCons (eVar 0) aNil))) m__law_closed_1)
def f__law_closed : List D → Option Res := fnSem 12 [.flat, .lab none [0] false] m__law_closed
def m__law_new_names_b1 : Sv := (sSet 2 (eP dCatF (aCons (eVar 2) (aCons (eP dList (aCons (eSl (eChk D.isTup (eVar 3)) (oSome (eC (.int 1))) oNone) aNil)) aNil))))
def m__law_new_names_c1_1 : Sv := (sSet 5 (eP dDiv (aCons (eVar 5) (aCons (eC (.int 1009)) aNil))))
def m__law_new_names_c1 : Sv := (sSeq (sPut dPut 4 (eVar 6) (eP dMul (aCons (eP dAdd (aCons (eP dMul (aCons (eC (.int 1000000000)) (aCons (eP dMod (aCons (eVar 5) (aCons (eC (.int 1009)) aNil))) aNil))) (aCons (eP dLenK (aCons (eVar 4) aNil)) aNil))) (aCons (eChk D.isFlat (eP dIdx (aCons (eLst (aCons (eC (.int 1)) (aCons (eP dNeg (aCons (eC (.int 1)) aNil)) aNil))) (aCons (eP dMod (aCons (eVar 1) (aCons (eC (.int 2)) aNil))) aNil)))) aNil)))) m__law_new_names_c1_1)
def m__law_new_names_b2 : Sv := (sIf (tOf (eP dNotIn (aCons (eVar 6) (aCons (eVar 4) aNil)))) m__law_new_names_c1 sNil)
def m__law_new_names_e1 : Ev := (eChk D.isFlat (eP dGet (aCons (eVar 4) (aCons (eVar 6) aNil))))
def m__law_new_names_e3 : Ev := (eChk D.isFlat (eP dGet (aCons (eVar 4) (aCons (eVar 6) aNil))))
def m__law_new_names_e2 : Ev := (eP dCatT (aCons (eTup (aCons (eP dIdx (aCons (eVar 3) (aCons (eC (.int 0)) aNil))) aNil)) (aCons (eChk D.isFlat (eP dTuple (aCons (eLc (iTupl (eSl (eChk D.isTup (eVar 3)) (oSome (eC (.int 1))) oNone)) (gN 6) cYes m__law_new_names_e3) aNil))) aNil)))
def m__law_new_names_6 : Sv := (sRet (eTup (aCons (eVar 7) (aCons (eLc (iLst (eP dIdx (aCons (eVar 0) (aCons (eC (.int 1)) aNil)))) (gF (gN 3)) cYes m__law_new_names_e2) aNil))))
def m__law_new_names_5 : Sv := (sSeq (sSet 7 (eLc (iLst (eP dIdx (aCons (eVar 0) (aCons (eC (.int 0)) aNil)))) (gF (gN 6)) cYes m__law_new_names_e1)) m__law_new_names_6)
def m__law_new_names_4 : Sv := (sSeq (sFor (iLst (eVar 2)) (gF (gN 6)) m__law_new_names_b2) m__law_new_names_5)
def m__law_new_names_3 : Sv := (sSeq (sSet 5 (eP dDiv (aCons (eVar 1) (aCons (eC (.int 2)) aNil)))) m__law_new_names_4)
def m__law_new_names_2 : Sv := (sSeq (sSet 4 (eC (.dic false [] []))) m__law_new_names_3)
def m__law_new_names_1 : Sv := (sSeq (sFor (iLst (eP dIdx (aCons (eVar 0) (aCons (eC (.int 1)) aNil)))) (gF (gN 3)) m__law_new_names_b1) m__law_new_names_2)
def m__law_new_names : Sv := (sSeq (sSet 2 (eChk D.kidsFlat (eP dList (aCons (eP dIdx (aCons (eVar 0) (aCons (eC (.int 0)) aNil))) aNil)))) m__law_new_names_1)
def f__law_new_names : List D → Option Res := fnSem 8 [.lab none [0] false, .flat] m__law_new_names
def m__law_letters_b1_3 : Sv := (sSet 4 (eP dDiv (aCons (eVar 4) (aCons (eC (.int 2)) aNil))))
def m__law_letters_b1_2 : Sv := (sSeq (sMut dPush 3 (eP dMul (aCons (eVar 6) (aCons (eChk D.isFlat (eP dIdx (aCons (eLst (aCons (eC (.int 1)) (aCons (eP dNeg (aCons (eC (.int 1)) aNil)) aNil))) (aCons (eP dMod (aCons (eVar 4) (aCons (eC (.int 2)) aNil))) aNil)))) aNil)))) m__law_letters_b1_3)
def m__law_letters_b1_1 : Sv := (sSeq (sSet 4 (eP dDiv (aCons (eVar 4) (aCons (eP dSub (aCons (eVar 1) (aCons (eC (.int 1)) aNil))) aNil)))) m__law_letters_b1_2)
def m__law_letters_b1 : Sv := (sSeq (sSet 6 (eP dAdd (aCons (eC (.int 1)) (aCons (eP dMod (aCons (eVar 4) (aCons (eP dSub (aCons (eVar 1) (aCons (eC (.int 1)) aNil))) aNil))) aNil)))) m__law_letters_b1_1)
def m__law_letters_c1 : Sv := (sFor (iRng (aCons (eP dMod (aCons (eVar 0) (aCons (eP dAdd (aCons (eVar 2) (aCons (eC (.int 1)) aNil))) aNil))) aNil)) (gN 5) m__law_letters_b1)
def m__law_letters_2 : Sv := (sSeq (sIf (tOf (eP dGt (aCons (eVar 1) (aCons (eC (.int 1)) aNil)))) m__law_letters_c1 sNil) (sRet (eVar 3)))
def m__law_letters_1 : Sv := (sSeq (sSet 4 (eP dDiv (aCons (eVar 0) (aCons (eP dAdd (aCons (eVar 2) (aCons (eC (.int 1)) aNil))) aNil)))) m__law_letters_2)
def m__law_letters : Sv := (sSeq (sSet 3 (eLst aNil)) m__law_letters_1)
def f__law_letters : List D → Option Res := fnSem 7 [.flat, .flat, .flat] m__law_letters
def m__law_curl_b1 : Sv := (sSet 4 (eP dCatF (aCons (eVar 4) (aCons (eP dList (aCons (eSl (eChk D.isTup (eVar 5)) (oSome (eC (.int 1))) oNone) aNil)) aNil))))
def m__law_curl_e1 : Ev := (eChk D.isFlat (eP dIdx (aCons (eLst (aCons (eVar 13) (aCons (eVar 8) aNil))) (aCons (eP dIntC (aCons (eP dEq (aCons (eVar 13) (aCons (eVar 6) aNil))) aNil)) aNil))))
def m__law_curl_b2_1 : Sv := (sMut dPush 11 (eTup (aCons (eP dIdx (aCons (eVar 5) (aCons (eC (.int 0)) aNil))) (aCons (eChk D.isFlat (eP dIdx (aCons (eVar 12) (aCons (eC (.int 0)) aNil)))) (aCons (eP dIdx (aCons (eVar 5) (aCons (eC (.int 2)) aNil))) (aCons (eChk D.isFlat (eP dIdx (aCons (eVar 12) (aCons (eC (.int 1)) aNil)))) (aCons (eP dIdx (aCons (eVar 5) (aCons (eC (.int 4)) aNil))) aNil)))))))
def m__law_curl_b2 : Sv := (sSeq (sSet 12 (eLc (iTupl (eTup (aCons (eP dIdx (aCons (eVar 5) (aCons (eC (.int 1)) aNil))) (aCons (eP dIdx (aCons (eVar 5) (aCons (eC (.int 3)) aNil))) aNil)))) (gN 13) cYes m__law_curl_e1)) m__law_curl_b2_1)
def m__law_curl_10 : Sv := (sRet (eTup (aCons (eLc (iLst (eVar 2)) (gF (gN 14)) (tOf (eP dNe (aCons (eVar 14) (aCons (eVar 6) aNil)))) (eVar 14)) (aCons (eP dCatF (aCons (eVar 11) (aCons (eLst (aCons (eVar 10) aNil)) aNil))) aNil))))
def m__law_curl_9 : Sv := (sSeq (sFor (iLst (eVar 3)) (gF (gN 5)) m__law_curl_b2) m__law_curl_10)
def m__law_curl_8 : Sv := (sSeq (sSet 11 (eLst aNil)) m__law_curl_9)
def m__law_curl_7 : Sv := (sSeq (sSet 10 (eChk D.isFlat (eP dIdx (aCons (eLst (aCons (eTup (aCons (eVar 9) (aCons (eVar 6) (aCons (eVar 7) (aCons (eVar 7) (aCons (eVar 8) aNil)))))) (aCons (eTup (aCons (eVar 9) (aCons (eVar 7) (aCons (eVar 8) (aCons (eVar 6) (aCons (eVar 7) aNil)))))) aNil))) (aCons (eP dMod (aCons (eP dDiv (aCons (eVar 1) (aCons (eC (.int 32)) aNil))) (aCons (eC (.int 2)) aNil))) aNil))))) m__law_curl_8)
def m__law_curl_6 : Sv := (sSeq (sSet 9 (eChk D.isFlat (eP dIdx (aCons (eLst (aCons (eC (.int 1)) (aCons (eP dNeg (aCons (eC (.int 1)) aNil)) aNil))) (aCons (eP dMod (aCons (eP dDiv (aCons (eVar 1) (aCons (eC (.int 16)) aNil))) (aCons (eC (.int 2)) aNil))) aNil))))) m__law_curl_7)
def m__law_curl_5 : Sv := (sSeq (sSet 8 (eChk D.isFlat (eP dIdx (aCons (eLst (aCons (eP dAdd (aCons (eVar 7) (aCons (eC (.int 1)) aNil))) (aCons (eVar 6) aNil))) (aCons (eP dIntC (aCons (eP dInX (aCons (eVar 6) (aCons (eVar 2) aNil))) aNil)) aNil))))) m__law_curl_6)
def m__law_curl_4 : Sv := (sSeq (sSet 7 (eP dAdd (aCons (eP dMaxL (aCons (eVar 4) aNil)) (aCons (eC (.int 1)) aNil)))) m__law_curl_5)
def m__law_curl_3 : Sv := (sSeq (sSet 6 (eChk D.isFlat (eP dIdx (aCons (eP dSortSet (aCons (eVar 4) aNil)) (aCons (eP dMod (aCons (eVar 1) (aCons (eP dLenSet (aCons (eVar 4) aNil)) aNil))) aNil))))) m__law_curl_4)
def m__law_curl_2 : Sv := (sSeq (sFor (iLst (eVar 3)) (gF (gN 5)) m__law_curl_b1) m__law_curl_3)
def m__law_curl_1 : Sv := (sSeq (sSet 4 (eChk D.kidsFlat (eP dList (aCons (eVar 2) aNil)))) m__law_curl_2)
def m__law_curl : Sv := (sSeq (sAsg (gT (gsCons (gN 2) (gsCons (gN 3) gsNil))) (eVar 0)) m__law_curl_1)
def f__law_curl : List D → Option Res := fnSem 15 [.lab none [0] false, .flat] m__law_curl
def m__law_mixed_up_b1_1 : Sv := (sSet 1 (eP dDiv (aCons (eVar 1) (aCons (eP dAdd (aCons (eP dLen (aCons (eVar 2) aNil)) (aCons (eC (.int 1)) aNil))) aNil))))
def m__law_mixed_up_b1 : Sv := (sSeq (sAppPop 3 2 (eP dMod (aCons (eVar 1) (aCons (eP dLen (aCons (eVar 2) aNil)) aNil)))) m__law_mixed_up_b1_1)
def m__law_mixed_up_2 : Sv := (sSeq (sWhile (tOf (eP dNe (aCons (eVar 2) (aCons (eLst aNil) aNil)))) m__law_mixed_up_b1) (sRet (eVar 3)))
def m__law_mixed_up_1 : Sv := (sSeq (sSet 3 (eLst aNil)) m__law_mixed_up_2)
def m__law_mixed_up : Sv := (sSeq (sSet 2 (eChk D.kidsFlat (eP dList (aCons (eVar 0) aNil)))) m__law_mixed_up_1)
def f__law_mixed_up : List D → Option Res := fnSem 4 [.lab none [0] false, .flat] m__law_mixed_up
def m__law_drawn_b1 : Sv := (sSet 6 (eCall f__law_curl (aCons (eVar 6) (aCons (eCall f__law_number (aCons (eVar 0) (aCons (eP dAdd (aCons (eP dAdd (aCons (eVar 1) (aCons (eC (.int 2)) aNil))) (aCons (eVar 7) aNil))) aNil))) aNil))))
def m__law_drawn_6 : Sv := (sRet (eTup (aCons (eChk D.kidsFlat (eCall f__law_mixed_up (aCons (eP dIdx (aCons (eVar 6) (aCons (eC (.int 0)) aNil))) (aCons (eP dDiv (aCons (eVar 8) (aCons (eC (.int 7)) aNil))) aNil)))) (aCons (eChk D.kidsFlat (eCall f__law_mixed_up (aCons (eP dIdx (aCons (eVar 6) (aCons (eC (.int 1)) aNil))) (aCons (eVar 8) aNil)))) aNil))))
def m__law_drawn_5 : Sv := (sSeq (sSet 8 (eCall f__law_number (aCons (eVar 0) (aCons (eP dAdd (aCons (eVar 1) (aCons (eC (.int 5)) aNil))) aNil)))) m__law_drawn_6)
def m__law_drawn_4 : Sv := (sSeq (sSet 6 (eCall f__law_new_names (aCons (eVar 6) (aCons (eCall f__law_number (aCons (eVar 0) (aCons (eP dAdd (aCons (eVar 1) (aCons (eC (.int 4)) aNil))) aNil))) aNil)))) m__law_drawn_5)
def m__law_drawn_3 : Sv := (sSeq (sFor (iRng (aCons (eP dMin2 (aCons (eVar 3) (aCons (eChk D.isFlat (eP dIdx (aCons (eLst (aCons (eC (.int 0)) (aCons (eC (.int 1)) (aCons (eC (.int 0)) (aCons (eC (.int 2)) aNil))))) (aCons (eP dMod (aCons (eP dDiv (aCons (eVar 4) (aCons (eC (.int 8)) aNil))) (aCons (eC (.int 4)) aNil))) aNil)))) aNil))) aNil)) (gN 7) m__law_drawn_b1) m__law_drawn_4)
def m__law_drawn_2 : Sv := (sSeq (sSet 6 (eCall f__law_closed (aCons (eVar 5) (aCons (eChk D.kidsFlat (eCall f__law_letters (aCons (eCall f__law_number (aCons (eVar 0) (aCons (eP dAdd (aCons (eVar 1) (aCons (eC (.int 1)) aNil))) aNil))) (aCons (eVar 5) (aCons (eVar 2) aNil))))) aNil)))) m__law_drawn_3)
def m__law_drawn_1 : Sv := (sSeq (sSet 5 (eChk D.isFlat (eP dIdx (aCons (eLst (aCons (eC (.int 2)) (aCons (eC (.int 3)) (aCons (eC (.int 2)) (aCons (eC (.int 1)) (aCons (eC (.int 4)) (aCons (eC (.int 3)) (aCons (eC (.int 2)) (aCons (eC (.int 3)) aNil))))))))) (aCons (eP dMod (aCons (eVar 4) (aCons (eC (.int 8)) aNil))) aNil))))) m__law_drawn_2)
def m__law_drawn : Sv := (sSeq (sSet 4 (eCall f__law_number (aCons (eVar 0) (aCons (eVar 1) aNil)))) m__law_drawn_1)
def f__law_drawn : List D → Option Res := fnSem 9 [.flat, .flat, .flat, .flat] m__law_drawn
def m_ins_of_b1 : Sv := (sMut dExt 1 (eLst (aCons (eP dIdx (aCons (eVar 2) (aCons (eC (.int 1)) aNil))) (aCons (eP dIdx (aCons (eVar 2) (aCons (eC (.int 3)) aNil))) aNil))))
def m_ins_of_1 : Sv := (sSeq (sFor (iLst (eVar 0)) (gF (gN 2)) m_ins_of_b1) (sRet (eVar 1)))
def m_ins_of : Sv := (sSeq (sSet 1 (eLst aNil)) m_ins_of_1)
def f_ins_of : List D → Option Res := fnSem 3 [.lab none [0] false] m_ins_of
def m_names_of : Sv := (sRet (eP dSortX (aCons (eP dCatF (aCons (eP dIdx (aCons (eVar 0) (aCons (eC (.int 0)) aNil))) (aCons (eChk D.kidsFlat (eCall f_ins_of (aCons (eP dIdx (aCons (eVar 0) (aCons (eC (.int 1)) aNil))) aNil))) aNil))) aNil)))
def f_names_of : List D → Option Res := fnSem 1 [.lab none [0] false] m_names_of
def m_is_opening_b1 : Sv := (sIf (wOr (wNot (tOf (eP (dIsi "int") (aCons (eVar 2) aNil)))) (wOr (tOf (eP (dIsi "bool") (aCons (eVar 2) aNil))) (tOf (eP dNotInX (aCons (eVar 2) (aCons (eTup (aCons (eC (.int 0)) (aCons (eC (.int 1)) aNil))) aNil)))))) (sRet (eC (.bl false))) sNil)
def m_is_opening_1 : Sv := (sSeq (sFor (iTupl (eVar 1)) (gN 2) m_is_opening_b1) (sRet (eC (.bl true))))
def m_is_opening : Sv := (sSeq (sIf (wOr (wNot (tOf (eP (dIsi "tuple") (aCons (eVar 1) aNil)))) (tOf (eP dNe (aCons (eP dLen (aCons (eVar 1) aNil)) (aCons (eP dLen (aCons (eP dIdx (aCons (eVar 0) (aCons (eC (.int 1)) aNil))) aNil)) aNil))))) (sRet (eC (.bl false))) sNil) m_is_opening_1)
def f_is_opening : List D → Option Res := fnSem 3 [.lab none [0] false, .flat] m_is_opening
def m_ends_of_c1 : Sv := (sRet (eTup (aCons (eVar 2) (aCons (eVar 5) (aCons (eVar 3) (aCons (eVar 4) aNil))))))
def m_ends_of_2 : Sv := (sRet (eTup (aCons (eVar 2) (aCons (eVar 4) (aCons (eVar 3) (aCons (eVar 5) aNil))))))
def m_ends_of_1 : Sv := (sSeq (sIf (tOf (eP dEq (aCons (eVar 1) (aCons (eC (.int 1)) aNil)))) m_ends_of_c1 sNil) m_ends_of_2)
def m_ends_of : Sv := (sSeq (sAsg (gT (gsCons (gN 1) (gsCons (gN 2) (gsCons (gN 3) (gsCons (gN 4) (gsCons (gN 5) gsNil)))))) (eVar 0)) m_ends_of_1)
def f_ends_of : List D → Option Res := fnSem 6 [.flat] m_ends_of
def m_joined_pairs_c1 : Sv := (sRet (eLst (aCons (eTup (aCons (eVar 2) (aCons (eVar 3) aNil))) (aCons (eTup (aCons (eVar 4) (aCons (eVar 5) aNil))) aNil))))
def m_joined_pairs_2 : Sv := (sRet (eLst (aCons (eTup (aCons (eVar 2) (aCons (eVar 5) aNil))) (aCons (eTup (aCons (eVar 3) (aCons (eVar 4) aNil))) aNil))))
def m_joined_pairs_1 : Sv := (sSeq (sIf (tOf (eP dEq (aCons (eVar 1) (aCons (eC (.int 0)) aNil)))) m_joined_pairs_c1 sNil) m_joined_pairs_2)
def m_joined_pairs : Sv := (sSeq (sAsg (gT (gsCons (gN 2) (gsCons (gN 3) (gsCons (gN 4) (gsCons (gN 5) gsNil))))) (eCall f_ends_of (aCons (eVar 0) aNil))) m_joined_pairs_1)
def f_joined_pairs : List D → Option Res := fnSem 6 [.flat, .flat] m_joined_pairs
def m_head_of_b1 : Sv := (sSet 1 (eChk D.isFlat (eP dGet (aCons (eVar 0) (aCons (eVar 1) aNil)))))
def m_head_of : Sv := (sSeq (sWhile (tOf (eP dNe (aCons (eChk D.isFlat (eP dGet (aCons (eVar 0) (aCons (eVar 1) aNil)))) (aCons (eVar 1) aNil)))) m_head_of_b1) (sRet (eVar 1)))
def f_head_of : List D → Option Res := fnSem 2 [.lab none [0] false, .flat] m_head_of
def m_loops_b1 : Sv := (sPut dPut 3 (eVar 4) (eVar 4))
def m_loops_b3_1 : Sv := (sPut dPut 3 (eVar 10) (eVar 9))
def m_loops_b3 : Sv := (sSeq (sAsg (gL (gsCons (gF (gN 9)) (gsCons (gF (gN 10)) gsNil))) (eP dSortX (aCons (eLst (aCons (eCall f_head_of (aCons (eVar 3) (aCons (eVar 7) aNil))) (aCons (eCall f_head_of (aCons (eVar 3) (aCons (eVar 8) aNil))) aNil))) aNil))) m_loops_b3_1)
def m_loops_b2 : Sv := (sFor (iLst (eChk D.kidsFlat (eCall f_joined_pairs (aCons (eVar 5) (aCons (eVar 6) aNil))))) (gT (gsCons (gF (gN 7)) (gsCons (gF (gN 8)) gsNil))) m_loops_b3)
def m_loops_b4 : Sv := (sSetApp 11 (eCall f_head_of (aCons (eVar 3) (aCons (eVar 4) aNil))) (eVar 4))
def m_loops_e1 : Ev := (eP dGet (aCons (eVar 11) (aCons (eVar 12) aNil)))
def m_loops_7 : Sv := (sRet (eLc (iLst (eP dSortK (aCons (eVar 11) aNil))) (gF (gN 12)) cYes m_loops_e1))
def m_loops_6 : Sv := (sSeq (sFor (iLst (eVar 2)) (gF (gN 4)) m_loops_b4) m_loops_7)
def m_loops_5 : Sv := (sSeq (sSet 11 (eC (.dic false [] []))) m_loops_6)
def m_loops_4 : Sv := (sSeq (sFor (iZipM (aCons (eP dIdx (aCons (eVar 0) (aCons (eC (.int 1)) aNil))) (aCons (eVar 1) aNil))) (gT (gsCons (gF (gN 5)) (gsCons (gF (gN 6)) gsNil))) m_loops_b2) m_loops_5)
def m_loops_3 : Sv := (sSeq (sFor (iLst (eVar 2)) (gF (gN 4)) m_loops_b1) m_loops_4)
def m_loops_2 : Sv := (sSeq (sSet 3 (eC (.dic false [] []))) m_loops_3)
def m_loops_1 : Sv := (sSeq (sSet 2 (eChk D.kidsFlat (eCall f_names_of (aCons (eVar 0) aNil)))) m_loops_2)
def m_loops : Sv := (sSeq (sIf (wNot (tOf (eCall f_is_opening (aCons (eVar 0) (aCons (eVar 1) aNil))))) sNever sNil) m_loops_1)
def f_loops : List D → Option Res := fnSem 13 [.lab none [0] false, .flat] m_loops
end VP

/-! ## VFA -/
/-! the law's numbers; words; mixing up -/
namespace VP
open PySem PySem.Spec PyProof.Rows L2 VV VP

theorem dAbs_s {x : Int} : dAbs [.int x] = some (.int x.natAbs) := by
  show some (D.int (if x < 0 then -x else x)) = _
  congr 2
  split <;> omega
theorem number_ok (ns : List Int) (k : Nat) (hk : k ≤ 1000) : ∃ v : Int, f__law_number [.scr (ns.map D.int), .int k] = some (.ret (.int v)) := by
  have c0 := cell_ok ns 0
  have ck := cell_ok ns k
  have c0' : f__law_cell_at [.scr (ns.map D.int), .int 0] = some (.ret (.int (ns.getD 0 0))) := c0
  generalize ns.getD 0 0 = z0 at c0'
  generalize ns.getD k 0 = zk at ck
  have key : ∃ d, f__law_number [.scr (ns.map D.int), .int k] = some (.ret d) ∧ ∃ v : Int, d = .int v := by
    refine fn_ex (by simp) ?_
    show Go m__law_number [.scr (ns.map D.int), .int k, .non, .non, .non] _
    unfold m__law_number
    refine Go.ite (p := (10 : Int) ^ 18 ≤ zk.natAbs) (by simp [ck, dAbs_s]) (fun h => ?_) (fun h => ?_)
    · simp [m__law_number_c1, ck]
    · rw [go_nil]
      show Go m__law_number_1 _ _
      have hz : zk.natAbs < 2 ^ 62 := by omega
      have m1 : dMul [.int 5003, .int (k : Int)] = some (.int (5003 * k)) := dMul_s (cm (by decide) (by omega))
      have m2 : dMul [.int 41, .int zk] = some (.int (41 * zk)) := dMul_s (cm (by decide) (by omega))
      unfold m__law_number_1
      refine Go.set (d := .int (z0 + 5003 * k + 41 * zk)) (by simp [c0', ck, m1, m2]) ?_
      unfold m__law_number_2
      generalize z0 + 5003 * (k : Int) + 41 * zk = y
      refine Go.set (d := .int (y % 2147483587 + 31)) (by simp) ?_
      unfold m__law_number_3
      refine Go.set (d := .int 0) (by simp) ?_
      unfold m__law_number_4
      rw [go_seq]
      refine go_for (fun i : Nat => D.int i) (List.range 9) (fun i ρ => ∃ (x t : Int) (j : D), ρ = [.scr (ns.map D.int), .int k, .int x, .int t, j] ∧ 0 ≤ x ∧ x < 2 ^ 32 ∧ Bn (40 * i + 1) t) ?_ ⟨y % 2147483587 + 31, 0, .non, rfl, by omega, by omega, Bn.zero⟩ (fun i a ρ hi hR => ?_) (fun ρ' hR => ?_)
      · rw [iRng1_s (k := 9) (by simp) (by decide) (by decide), ← rng0]; rfl
      · obtain ⟨hi9, rfl⟩ := rng_at hi
        obtain ⟨x, t, j, rfl, h0, h1, ht⟩ := hR
        refine ⟨[.scr (ns.map D.int), .int k, .int x, .int t, .int (a : Nat)], rfl, ?_⟩
        unfold m__law_number_b1
        have m3 : dMul [.int x, .int 39373] = some (.int (x * 39373)) := dMul_s (cm (by omega) (by decide))
        have m4 : dMul [.int 17, .int (a : Nat)] = some (.int (17 * a)) := dMul_s (cm (by decide) (by omega))
        have m5 : dMul [.int (17 * (a : Nat)), .int (a : Nat)] = some (.int (17 * a * a)) := dMul_s (cm (by omega) (by omega))
        have d1 : dDiv [.int x, .int 40014] = some (.int (x / 40014)) := dDiv_s (cdv (by decide) (by decide))
        generalize hx : (x * 39373 + x / 40014 + 17 * (a : Int) * a + 3) % 2147483647 = x2
        have hx0 : 0 ≤ x2 := by rw [← hx]; omega
        have hx1 : x2 < 2147483647 := by rw [← hx]; omega
        refine Go.set (d := .int x2) (by simp [m3, m4, m5, d1, hx]) ?_
        have m6 : dMul [.int t, .int 2147483647] = some (.int (t * 2147483647)) := dMul_s (Bn.cmul (n := 40 * a + 1) (m := 31) ht (by unfold Bn; decide) (by omega))
        have m7 : dMul [.int x2, .int 40692] = some (.int (x2 * 40692)) := dMul_s (cm (by omega) (by decide))
        unfold m__law_number_b1_1
        refine Go.set1 (d := .int (t * 2147483647 + x2 * 40692 % 2147483399)) (by simp [m6, m7]) ?_
        refine ⟨_, .inl rfl, _, _, _, rfl, hx0, by omega, ?_⟩
        have b1 : Bn (40 * a + 1 + 31) (t * 2147483647) := ht.mul (by unfold Bn; decide)
        have b2 : Bn (40 * a + 1 + 31) (x2 * 40692 % 2147483399) := Bn.mono (n := 32) (by unfold Bn; omega) (by omega)
        exact (b1.add b2).mono (by omega)
      · obtain ⟨x, t, j, rfl, _⟩ := hR
        simp
  obtain ⟨d, h, v, rfl⟩ := key
  exact ⟨v, h⟩

theorem letters_ok (cell : Int) (n m : Nat) (hn : n ≤ 100) (hm : m ≤ 100) : ∃ ls : List Int, f__law_letters [.int cell, .int n, .int m] = some (.ret (.lst (ls.map D.int))) ∧ ls.length ≤ m ∧ ∀ l ∈ ls, l ≠ 0 ∧ l.natAbs < n := by
  have key : ∃ d, f__law_letters [.int cell, .int n, .int m] = some (.ret d) ∧ ∃ ls : List Int, d = .lst (ls.map D.int) ∧ ls.length ≤ m ∧ ∀ l ∈ ls, l ≠ 0 ∧ l.natAbs < n := by
    refine fn_ex (by simp) ?_
    show Go m__law_letters [.int cell, .int n, .int m, .non, .non, .non, .non] _
    unfold m__law_letters
    refine Go.set (d := .lst []) (by simp) ?_
    unfold m__law_letters_1
    have d1 : dDiv [.int cell, .int ((m : Int) + 1)] = some (.int (cell / ((m : Int) + 1))) := dDiv_s (cdv (by omega) (by omega))
    refine Go.set (d := .int (cell / ((m : Int) + 1))) (by simp [d1]) ?_
    unfold m__law_letters_2
    refine Go.ite (p := (1 : Int) < n) (by simp) (fun h => ?_) (fun h => ?_)
    · unfold m__law_letters_c1
      have q0 := Int.emod_nonneg cell (b := (m : Int) + 1) (by omega)
      have q1 := Int.emod_lt_of_pos cell (b := (m : Int) + 1) (by omega)
      have hmod : ∃ q : Nat, cell % ((m : Int) + 1) = q ∧ q ≤ m := ⟨(cell % ((m : Int) + 1)).toNat, by omega, by omega⟩
      obtain ⟨q, hq, hqm⟩ := hmod
      have hm0 : (0 : Int) < (m : Int) + 1 := by omega
      refine go_for (fun i : Nat => D.int i) (List.range q) (fun i ρ => ∃ (ls : List Int) (r : Int) (a b : D), ρ = [.int cell, .int n, .int m, .lst (ls.map D.int), .int r, a, b] ∧ ls.length = i ∧ ∀ l ∈ ls, l ≠ 0 ∧ l.natAbs < n) ?_ ⟨[], _, _, _, rfl, rfl, by simp⟩ (fun i a ρ hi hR => ?_) (fun ρ' hR => ?_)
      · rw [iRng1_s (k := q) (by simp [dMod_s hm0, hq]) (by omega) (by omega), ← rng0]; rfl
      · obtain ⟨hi9, rfl⟩ := rng_at hi
        obtain ⟨ls, r, x, y, rfl, hl, hls⟩ := hR
        refine ⟨[.int cell, .int n, .int m, .lst (ls.map D.int), .int r, .int (a : Nat), y], rfl, ?_⟩
        unfold m__law_letters_b1
        have hn1 : (0 : Int) < (n : Int) - 1 := by omega
        refine Go.set (d := .int (1 + r % ((n : Int) - 1))) (by simp [dMod_s hn1]) ?_
        unfold m__law_letters_b1_1
        have d2 : dDiv [.int r, .int ((n : Int) - 1)] = some (.int (r / ((n : Int) - 1))) := dDiv_s (cdv (by omega) (by omega))
        refine Go.set (d := .int (r / ((n : Int) - 1))) (by simp [d2]) ?_
        unfold m__law_letters_b1_2
        have p0 := Int.emod_nonneg r (b := (n : Int) - 1) (by omega)
        have p1 := Int.emod_lt_of_pos r hn1
        generalize r / ((n : Int) - 1) = r2
        generalize r % ((n : Int) - 1) = pl at p0 p1
        obtain ⟨v, hv, ev⟩ := idx_mod [1, -1] 2 r2 rfl (by decide)
        have hv2 : v = 1 ∨ v = -1 := by simpa using hv
        have ev2 : dIdx [.lst [.int 1, .int (-1)], .int (r2 % 2)] = some (.int v) := ev
        have m1 : dMul [.int (1 + pl), .int v] = some (.int ((1 + pl) * v)) := dMul_s (cm (by omega) (by omega))
        refine Go.mut (x := .lst (ls.map D.int)) (y := .int ((1 + pl) * v)) (z := .lst ((ls ++ [(1 + pl) * v]).map D.int)) ?_ rfl ?_ ?_
        · simp [-dIdx_l, ev2, Option.filter_some, m1]
        · rw [dPush_s (by rw [List.length_map]; omega)]; simp
        · unfold m__law_letters_b1_3
          have d3 : dDiv [.int r2, .int 2] = some (.int (r2 / 2)) := dDiv_s (cdv (by decide) (by decide))
          refine Go.set1 (d := .int (r2 / 2)) (by simp [d3]) ?_
          refine ⟨_, .inl rfl, ls ++ [(1 + pl) * v], _, _, _, rfl, by simp [hl], fun l hl' => ?_⟩
          rcases List.mem_append.mp hl' with hl' | hl'
          · exact hls l hl'
          · obtain rfl := List.mem_singleton.mp hl'
            rcases hv2 with rfl | rfl <;> omega
      · obtain ⟨ls, r, x, y, rfl, hl, hls⟩ := hR
        rw [List.length_range] at hl
        simp
        exact ⟨ls, rfl, by omega, hls⟩
    · simp
  obtain ⟨d, h, ls, rfl, h2⟩ := key
  exact ⟨ls, h, h2⟩
end VP

/-! ## VFB -/
/-! while; ==; mixing up; drawings -/
namespace VV
open PySem PySem.Spec PyProof.Rows L2
section
variable {ρ : List D} {b : Sv} {c : List D → Option Bool} {Q : Out → Prop}
theorem go_while (R : Nat → List D → Prop) (n : Nat) (hn : n < 1000000) (h0 : R n ρ)
    (k : ∀ m ρ, R m ρ → (c ρ = some false ∧ Q (.nx ρ)) ∨ (c ρ = some true ∧ Go b ρ fun o => ∃ m' ρ2, m' < m ∧ (o = .nx ρ2 ∨ o = .ct ρ2) ∧ R m' ρ2)) : Go (sWhile c b) ρ Q := by
  have key : ∀ (N m : Nat) (ρ : List D), m < N → R m ρ → ∃ o, whileL c b N ρ = some o ∧ Q o := by
    intro N
    induction N with
    | zero => intro m ρ h _; omega
    | succ N ih =>
      intro m ρ h hR
      unfold whileL
      rcases k m ρ hR with ⟨h1, h2⟩ | ⟨h1, o, h2, m', ρ2, h3, h4, h5⟩
      · rw [h1]; exact ⟨_, rfl, h2⟩
      · rw [h1]
        dsimp only
        rw [h2]
        obtain ⟨o', e1, e2⟩ := ih m' ρ2 (by omega) h5
        rcases h4 with rfl | rfl
        · exact ⟨o', e1, e2⟩
        · exact ⟨o', e1, e2⟩
  obtain ⟨o, e1, e2⟩ := key (n + 1) n ρ (by omega) h0
  exact ⟨o, whileL_mono e1 (by show n + 1 ≤ 1000000000; omega), e2⟩
end
section
variable {α : Type} [DecidableEq α]
/-- trees of which == tells whether they are the same -/
def Eqv (x : α → D) : Prop := ∀ a b, (x a).eqv (x b) = decide (a = b)
theorem Eqv.all {x : α → D} (h : Eqv x) : ∀ l m : List α, PyData.eqvAll (D.toPL (l.map x)) (D.toPL (m.map x)) = decide (l = m)
  | [], [] => by simp [D.toPL, PyData.eqvAll]
  | [], _ :: _ => by simp [D.toPL, PyData.eqvAll]
  | _ :: _, [] => by simp [D.toPL, PyData.eqvAll]
  | a :: l, b :: m => by
    have h1 := h a b
    unfold D.eqv at h1
    simp only [List.map_cons, D.toPL, PyData.eqvAll, h1, Eqv.all h l m]
    by_cases e : a = b <;> by_cases e2 : l = m <;> simp [e, e2]
theorem Eqv.lst {x : α → D} (h : Eqv x) : Eqv fun l : List α => D.lst (l.map x) := fun l m => by
  show PyData.eqv (D.toP (.lst (l.map x))) (D.toP (.lst (m.map x))) = _
  simp only [D.toP, PyData.eqv]
  exact h.all l m
theorem Eqv.tup {x : α → D} (h : Eqv x) : Eqv fun l : List α => D.tup (l.map x) := fun l m => by
  show PyData.eqv (D.toP (.tup (l.map x))) (D.toP (.tup (m.map x))) = _
  simp only [D.toP, PyData.eqv]
  exact h.all l m
theorem Eqv.int : Eqv D.int := fun a b => by
  show PyData.eqv (D.toP (.int a)) (D.toP (.int b)) = _
  simp only [D.toP, PyData.eqv]
  exact beq_dec a b
theorem ne_of_eqv {x : α → D} (h : Eqv x) {n : Nat} {a b : α} (ha : VP.Ok n (x a)) (hb : VP.Ok n (x b)) (hn : n ≤ 64) : dNe [x a, x b] = some (.bl (decide (a ≠ b))) := by
  unfold dNe
  dsimp only
  rw [ha.shd hn, hb.shd hn, h a b]
  simp
theorem eq_of_eqv {x : α → D} (h : Eqv x) {n : Nat} {a b : α} (ha : VP.Ok n (x a)) (hb : VP.Ok n (x b)) (hn : n ≤ 64) : dEq [x a, x b] = some (.bl (decide (a = b))) := by
  unfold dEq
  dsimp only
  rw [ha.shd hn, hb.shd hn, h a b]
  simp
end
section
variable {i j : Nat} {se ke ve : Ev} {ρ ρ1 ρ2 : List D} {t u : Tv} {a b d d1 y z x xl yl k : D} {p : D × D}
theorem appPop_s (h1 : ρ[j]? = some yl) (h2 : se ρ = some k) (h3 : dPopAt yl k = some p) (h4 : ρ[i]? = some xl) (h5 : dPush xl p.1 = some z) : sAppPop i j se ρ = some (.nx ((ρ.set j p.2).set i z)) := by
  unfold sAppPop
  rw [h1, h2]
  simp only [Option.bind_eq_bind, Option.bind_some, h3, h4, h5]
theorem put2_s (h : se ρ = some (.tup [a, b])) (h1 : t a ρ = some ρ1) (h2 : u b ρ1 = some ρ2) : sPut2 t u se ρ = some (.nx ρ2) := by
  unfold sPut2
  rw [h]
  simp only [Option.bind_eq_bind, Option.bind_some, h1, h2]
theorem gPut_s (h : ke ρ = some k) (h1 : ρ[i]? = some xl) (h2 : lPut xl k d = some z) : gPut i ke d ρ = some (ρ.set i z) := by
  unfold gPut
  rw [h, h1]
  simp only [Option.bind_eq_bind, Option.bind_some, h2]
theorem setApp_s (h1 : ρ[i]? = some d) (h2 : ke ρ = some x) (h3 : dSetD d x = some d1) (h4 : ve (ρ.set i d1) = some y) (h5 : dApp d1 x y = some z) : sSetApp i ke ve ρ = some (.nx (ρ.set i z)) := by
  unfold sSetApp
  rw [h1, h2]
  simp only [Option.bind_eq_bind, Option.bind_some, h3, h4, h5]
end
end VV
namespace VP
open PySem PySem.Spec PyProof.Rows L2 VV VP
theorem ne_nil {l : List D} (h : ∀ d ∈ l, Ok 3 d) : dNe [.lst l, .lst []] = some (.bl (decide (l ≠ []))) := by
  unfold dNe
  dsimp only
  have h1 : Ok 4 (.lst l) := Ok.lst' h
  have h2 : Ok 4 (.lst []) := Ok.lst' (by simp)
  rw [h1.shd (by decide), h2.shd (by decide)]
  cases l with
  | nil => simp [D.eqv, D.toP, D.toPL, PyData.eqv, PyData.eqvAll]
  | cons a r => simp [D.eqv, D.toP, D.toPL, PyData.eqv, PyData.eqvAll]
theorem eraseIdx_perm {α : Type} : ∀ {l : List α} {q : Nat} {d : α}, l[q]? = some d → (d :: l.eraseIdx q).Perm l
  | [], _, _, h => by simp at h
  | a :: l, 0, d, h => by simp at h; subst h; simp
  | a :: l, q + 1, d, h => by
    simp only [List.eraseIdx_cons_succ]
    exact (List.Perm.swap a d _).trans ((eraseIdx_perm (by simpa using h)).cons a)
theorem mixed_ok {l : List D} (cell : Int) (hf : ∀ d ∈ l, d.isFlat = true ∧ Ok 3 d) (hl : l.length ≤ 1000) : ∃ l', f__law_mixed_up [.lst l, .int cell] = some (.ret (.lst l')) ∧ l'.Perm l := by
  have key : ∃ d, f__law_mixed_up [.lst l, .int cell] = some (.ret d) ∧ ∃ l', d = .lst l' ∧ l'.Perm l := by
    refine fn_ex (by simp) ?_
    show Go m__law_mixed_up [.lst l, .int cell, .non, .non] _
    unfold m__law_mixed_up
    have hfl : D.isFlatL l = true := by rw [isFlatL_all, List.all_eq_true]; exact fun d hd => (hf d hd).1
    refine Go.set (d := .lst l) (by simp [dList, Option.filter_some, hfl]) ?_
    unfold m__law_mixed_up_1
    refine Go.set (d := .lst []) (by simp) ?_
    unfold m__law_mixed_up_2
    rw [go_seq]
    refine go_while (fun m ρ => ∃ (c : Int) (left found : List D), ρ = [.lst l, .int c, .lst left, .lst found] ∧ left.length = m ∧ (found ++ left).Perm l) l.length (by omega) ⟨cell, l, [], rfl, rfl, by simp⟩ (fun m ρ hR => ?_)
    obtain ⟨c, left, found, rfl, hm, hp⟩ := hR
    have hin : ∀ d ∈ left, d ∈ l := fun d hd => hp.mem_iff.mp (List.mem_append_right _ hd)
    have hlen : found.length + left.length = l.length := by rw [← List.length_append]; exact hp.length_eq
    have hne := ne_nil (l := left) fun d hd => (hf d (hin d hd)).2
    by_cases h : left = []
    · left
      subst h
      refine ⟨by simp at hne; simp [hne], ?_⟩
      simp at hp ⊢
      exact hp
    · right
      refine ⟨by simp [hne, h], ?_⟩
      unfold m__law_mixed_up_b1
      have hpos : 0 < left.length := by cases left with | nil => exact absurd rfl h | cons => simp
      have hp0 : (0 : Int) < (left.length : Int) := by omega
      have e0 := Int.emod_nonneg c (b := (left.length : Int)) (by omega)
      have e1 := Int.emod_lt_of_pos c hp0
      obtain ⟨q, hq⟩ : ∃ q : Nat, c % (left.length : Int) = q := ⟨(c % (left.length : Int)).toNat, by omega⟩
      have hql : q < left.length := by omega
      have hix : ixN left.length (q : Int) = some q := by
        unfold ixN
        rw [if_pos (by omega), if_pos (by omega)]
        simp
      have hd := List.getElem?_eq_getElem hql
      have hdl := hin _ (List.getElem_mem hql)
      have hpop : dPopAt (.lst left) (.int q) = some (left[q], .lst (left.eraseIdx q)) := by
        simp [dPopAt, hix, hd, (hf _ hdl).1]
        omega
      have hpush : dPush (.lst found) left[q] = some (.lst (found ++ [left[q]])) := dPush_s (by omega)
      refine ⟨.nx [.lst l, .int (c / ((left.length - 1 : Nat) + 1 : Int)), .lst (left.eraseIdx q), .lst (found ++ [left[q]])], ?_, ?_⟩
      · rw [sSeq_s]
        have e2 : sAppPop 3 2 (eP dMod (aCons (eVar 1) (aCons (eP dLen (aCons (eVar 2) aNil)) aNil))) [.lst l, .int c, .lst left, .lst found] = some (.nx [.lst l, .int c, .lst (left.eraseIdx q), .lst (found ++ [left[q]])]) := by
          have e3 : eP dMod (aCons (eVar 1) (aCons (eP dLen (aCons (eVar 2) aNil)) aNil)) [.lst l, .int c, .lst left, .lst found] = some (.int q) := by
            simp [dMod_s hp0, hq]
          exact appPop_s (yl := .lst left) (xl := .lst found) rfl e3 hpop rfl hpush
        rw [e2, seqO_nx]
        unfold m__law_mixed_up_b1_1
        have hel : (left.eraseIdx q).length = left.length - 1 := List.length_eraseIdx_of_lt hql
        have d1 : dDiv [.int c, .int ((left.length - 1 : Nat) + 1 : Int)] = some (.int (c / ((left.length - 1 : Nat) + 1 : Int))) := dDiv_s (cdv (by omega) (by omega))
        simp [hel, d1]
      · refine ⟨left.length - 1, _, by omega, .inl rfl, _, _, _, rfl, ?_, ?_⟩
        · exact List.length_eraseIdx_of_lt hql
        · rw [List.append_assoc]
          exact (List.Perm.append_left found (eraseIdx_perm hd)).trans hp
  obtain ⟨d, h, l', rfl, h2⟩ := key
  exact ⟨l', h, h2⟩
end VP

/-! ## VFC -/
/-! joining of names: roots; drawings: ends, pairs -/
namespace VP
open PySem PySem.Spec PyProof.Rows L2 VV VP

/-! ### classes -/
inductive Eqn (Ps : List (Int × Int)) : Int → Int → Prop
  | gen {p : Int × Int} : p ∈ Ps → Eqn Ps p.1 p.2
  | refl (n : Int) : Eqn Ps n n
  | symm {n m : Int} : Eqn Ps n m → Eqn Ps m n
  | trans {n m k : Int} : Eqn Ps n m → Eqn Ps m k → Eqn Ps n k
theorem Eqn.mono {Ps Qs : List (Int × Int)} (h : ∀ p ∈ Ps, p ∈ Qs) {n m : Int} (e : Eqn Ps n m) : Eqn Qs n m := by
  induction e with
  | gen hp => exact .gen (h _ hp)
  | refl n => exact .refl n
  | symm _ ih => exact ih.symm
  | trans _ _ ih1 ih2 => exact ih1.trans ih2
theorem Eqn.sub {Ps Qs : List (Int × Int)} (h : ∀ p ∈ Ps, Eqn Qs p.1 p.2) {n m : Int} (e : Eqn Ps n m) : Eqn Qs n m := by
  induction e with
  | gen hp => exact h _ hp
  | refl n => exact .refl n
  | symm _ ih => exact ih.symm
  | trans _ _ ih1 ih2 => exact ih1.trans ih2
theorem Eqn.fn {Ps : List (Int × Int)} {α : Type} {f : Int → α} (h : ∀ p ∈ Ps, f p.1 = f p.2) {n m : Int} (e : Eqn Ps n m) : f n = f m := by
  induction e with
  | gen hp => exact h _ hp
  | refl n => rfl
  | symm _ ih => exact ih.symm
  | trans _ _ ih1 ih2 => exact ih1.trans ih2
/-- each name's least one of its class -/
structure IsRt (Ps : List (Int × Int)) (rt : Int → Int) : Prop where
  pr : ∀ p ∈ Ps, rt p.1 = rt p.2
  eq : ∀ n, Eqn Ps n (rt n)
  le : ∀ n, rt n ≤ n
theorem IsRt.iff {Ps : List (Int × Int)} {rt : Int → Int} (h : IsRt Ps rt) {n m : Int} : rt n = rt m ↔ Eqn Ps n m :=
  ⟨fun e => (h.eq n).trans (by rw [e]; exact (h.eq m).symm), fun e => e.fn h.pr⟩
theorem IsRt.rr {Ps : List (Int × Int)} {rt : Int → Int} (h : IsRt Ps rt) (n : Int) : rt (rt n) = rt n := (h.iff.mpr (h.eq n)).symm
theorem IsRt.uniq {Ps Qs : List (Int × Int)} {rt rt' : Int → Int} (h : IsRt Ps rt) (h' : IsRt Qs rt') (e1 : ∀ p ∈ Ps, Eqn Qs p.1 p.2) (e2 : ∀ p ∈ Qs, Eqn Ps p.1 p.2) : rt = rt' := by
  funext n
  have a1 : rt n ≤ rt' n := by
    rw [h.iff.mpr ((h'.eq n).sub e2)]
    exact h.le _
  have a2 : rt' n ≤ rt n := by
    rw [h'.iff.mpr ((h.eq n).sub e1)]
    exact h'.le _
  omega
theorem IsRt.nil : IsRt [] id := ⟨by simp, fun n => .refl n, fun n => Int.le_refl _⟩
/-- one pair more -/
def joinR (rt : Int → Int) (x y : Int) : Int → Int := fun n => if rt n = max (rt x) (rt y) then min (rt x) (rt y) else rt n
theorem IsRt.join {Ps : List (Int × Int)} {rt : Int → Int} (h : IsRt Ps rt) (x y : Int) : IsRt (Ps ++ [(x, y)]) (joinR rt x y) := by
  have mon : ∀ {n m}, Eqn Ps n m → Eqn (Ps ++ [(x, y)]) n m := fun e => e.mono fun p hp => List.mem_append_left _ hp
  have exy : Eqn (Ps ++ [(x, y)]) x y := .gen (p := (x, y)) (List.mem_append_right _ (List.mem_singleton.mpr rfl))
  have hx := mon (h.eq x)
  have hy := mon (h.eq y)
  have hmm : Eqn (Ps ++ [(x, y)]) (max (rt x) (rt y)) (min (rt x) (rt y)) := by
    by_cases hle : rt x ≤ rt y
    · rw [Int.max_eq_right hle, Int.min_eq_left hle]
      exact hy.symm.trans (exy.symm.trans hx)
    · rw [Int.max_eq_left (by omega), Int.min_eq_right (by omega)]
      exact hx.symm.trans (exy.trans hy)
  refine ⟨fun p hp => ?_, fun n => ?_, fun n => ?_⟩
  · rcases List.mem_append.mp hp with hp | hp
    · unfold joinR
      rw [h.pr p hp]
    · obtain rfl := List.mem_singleton.mp hp
      unfold joinR
      dsimp only
      split <;> split <;> omega
  · unfold joinR
    split
    · rename_i e
      refine (mon (h.eq n)).trans ?_
      rw [e]
      exact hmm
    · exact mon (h.eq n)
  · have := h.le n
    unfold joinR
    split <;> omega
/-- the heads stand for the classes -/
structure Heads (N : List Int) (h rt : Int → Int) : Prop where
  mem : ∀ n ∈ N, h n ∈ N
  le : ∀ n ∈ N, h n ≤ n
  rh : ∀ n ∈ N, rt (h n) = rt n
  fix : ∀ n ∈ N, h n = n → rt n = n
  hr : ∀ n ∈ N, h (rt n) = rt n
  rm : ∀ n ∈ N, rt n ∈ N
theorem Heads.id {N : List Int} : Heads N id id := ⟨fun n h => h, fun n _ => Int.le_refl _, fun _ _ => rfl, fun _ _ _ => rfl, fun _ _ => rfl, fun n h => h⟩
def updF (h : Int → Int) (a v : Int) : Int → Int := fun n => if n = a then v else h n
theorem Heads.join {N : List Int} {h rt : Int → Int} (H : Heads N h rt) (rr : ∀ n, rt (rt n) = rt n) {x y : Int} (hx : x ∈ N) (hy : y ∈ N) : Heads N (updF h (max (rt x) (rt y)) (min (rt x) (rt y))) (joinR rt x y) := by
  have mx := H.rm x hx
  have my := H.rm y hy
  have hlow : min (rt x) (rt y) ∈ N := by
    by_cases hle : rt x ≤ rt y
    · rw [Int.min_eq_left hle]; exact mx
    · rw [Int.min_eq_right (by omega)]; exact my
  have rlow : rt (min (rt x) (rt y)) = min (rt x) (rt y) := by
    by_cases hle : rt x ≤ rt y
    · rw [Int.min_eq_left hle]; exact rr x
    · rw [Int.min_eq_right (by omega)]; exact rr y
  have flow : h (min (rt x) (rt y)) = min (rt x) (rt y) := by
    by_cases hle : rt x ≤ rt y
    · rw [Int.min_eq_left hle]; exact H.hr x hx
    · rw [Int.min_eq_right (by omega)]; exact H.hr y hy
  have rhigh : rt (max (rt x) (rt y)) = max (rt x) (rt y) := by
    by_cases hle : rt x ≤ rt y
    · rw [Int.max_eq_right hle]; exact rr y
    · rw [Int.max_eq_left (by omega)]; exact rr x
  have hlh : min (rt x) (rt y) ≤ max (rt x) (rt y) := by omega
  have jr : ∀ n, joinR rt x y n = if rt n = max (rt x) (rt y) then min (rt x) (rt y) else rt n := fun n => rfl
  have ur : ∀ n, updF h (max (rt x) (rt y)) (min (rt x) (rt y)) n = if n = max (rt x) (rt y) then min (rt x) (rt y) else h n := fun n => rfl
  generalize updF h (max (rt x) (rt y)) (min (rt x) (rt y)) = h2 at *
  generalize joinR rt x y = rt2 at *
  generalize max (rt x) (rt y) = hi at *
  generalize min (rt x) (rt y) = lo at *
  refine ⟨fun n hn => ?_, fun n hn => ?_, fun n hn => ?_, fun n hn e => ?_, fun n hn => ?_, fun n hn => ?_⟩
  · rw [ur]
    split
    · exact hlow
    · exact H.mem n hn
  · rw [ur]
    split
    · rename_i e; rw [e]; exact hlh
    · exact H.le n hn
  · rw [ur]
    split
    · rename_i e
      rw [jr, jr, e, rhigh, rlow]
      simp
    · rw [jr, jr, H.rh n hn]
  · rw [ur] at e
    rw [jr]
    split at e
    · rename_i e2
      rw [e2, rhigh, if_pos rfl, e, e2]
    · rename_i e2
      rw [H.fix n hn e, if_neg e2]
  · rw [jr]
    split
    · rw [ur, flow]; simp
    · rename_i e2
      rw [ur, if_neg e2, H.hr n hn]
  · rw [jr]
    split
    · exact hlow
    · exact H.rm n hn

/-! ### the dict of heads -/
def kI (n : Int) : Ky := .k (.inl n)
def mD (N : List Int) (h : Int → D) : D := .dic false (N.map kI) (N.map h)
theorem kI_inj {a b : Int} (e : kI a = kI b) : a = b := by cases e; rfl
theorem lk_m {N : List Int} {h : Int → D} {n : Int} (hn : n ∈ N) : lkD (N.map kI) (N.map h) (kI n) = some (h n) := by
  induction N with
  | nil => cases hn
  | cons a r ih =>
    simp only [List.map_cons, lkD, List.zip_cons_cons, List.find?_cons]
    by_cases e : a = n
    · subst e; simp
    · have : ¬ kI a = kI n := fun z => e (kI_inj z)
      simp only [this, decide_false]
      exact ih ((List.mem_cons.mp hn).elim (fun z => absurd z.symm e) id)
theorem lk_no {N : List Int} {h : Int → D} {n : Int} (hn : n ∉ N) : lkD (N.map kI) (N.map h) (kI n) = none := by
  induction N with
  | nil => rfl
  | cons a r ih =>
    simp only [List.map_cons, lkD, List.zip_cons_cons, List.find?_cons]
    have e : ¬ a = n := fun z => hn (by rw [z]; exact List.mem_cons_self)
    have : ¬ kI a = kI n := fun z => e (kI_inj z)
    simp only [this, decide_false]
    exact ih fun z => hn (List.mem_cons_of_mem _ z)
theorem memK {N : List Int} {n : Int} : kI n ∈ N.map kI ↔ n ∈ N := by
  constructor
  · intro h
    obtain ⟨m, h1, h2⟩ := List.mem_map.mp h
    rw [← kI_inj h2]; exact h1
  · exact fun h => List.mem_map.mpr ⟨n, h, rfl⟩
theorem putDs_in {N : List Int} {h : Int → D} {n : Int} {v : D} (hn : n ∈ N) : putDs (N.map kI) (N.map h) (kI n) v = N.map fun m => if m = n then v else h m := by
  unfold putDs
  rw [if_pos (memK.mpr hn)]
  clear hn
  induction N with
  | nil => rfl
  | cons a r ih =>
    simp only [List.map_cons, List.zip_cons_cons, List.map_cons]
    rw [ih]
    by_cases e : a = n
    · subst e; simp
    · have : ¬ kI a = kI n := fun z => e (kI_inj z)
      simp [e, this]
theorem put_in {N : List Int} {h : Int → D} {n : Int} {v : D} (hn : n ∈ N) (hl : N.length < 1000000) : dPut (mD N h) (.int n) v = some (mD N fun m => if m = n then v else h m) := by
  unfold mD
  rw [dPut_s (k := kI n) rfl (by rw [List.length_map]; exact hl), putDs_in hn]
  unfold putKs
  rw [if_pos (memK.mpr hn)]
theorem put_out {N : List Int} {h : Int → D} {n : Int} {v : D} (hn : n ∉ N) (hl : N.length < 1000000) (hv : h n = v) : dPut (mD N h) (.int n) v = some (mD (N ++ [n]) h) := by
  unfold mD
  rw [dPut_s (k := kI n) rfl (by rw [List.length_map]; exact hl)]
  unfold putKs putDs
  rw [if_neg fun z => hn (memK.mp z), if_neg fun z => hn (memK.mp z)]
  simp [hv]
theorem mD_congr {N : List Int} {h h' : Int → D} (e : ∀ n ∈ N, h n = h' n) : mD N h = mD N h' := by
  unfold mD
  rw [List.map_congr_left e]
@[simp] theorem get_m {N : List Int} {h : Int → D} {n : Int} (hn : n ∈ N) : dGet [mD N h, .int n] = some (h n) := by
  unfold mD
  rw [dGet_s]
  exact lk_m hn
/-- the head of a name -/
theorem head_ok {N : List Int} {h rt : Int → Int} (H : Heads N h rt) (hN : N.length < 1000) {n : Int} (hn : n ∈ N) : f_head_of [mD N fun m => .int (h m), .int n] = some (.ret (.int (rt n))) := by
  refine fn_go (by simp) ?_
  show Go m_head_of [mD N fun m => .int (h m), .int n] _
  unfold m_head_of
  rw [go_seq]
  refine go_while (fun m ρ => ∃ a, ρ = [mD N fun m => .int (h m), .int a] ∧ a ∈ N ∧ rt a = rt n ∧ (N.filter fun z => decide (z < a)).length = m) (N.filter fun z => decide (z < n)).length ?_ ⟨n, rfl, hn, rfl, rfl⟩ (fun m ρ hR => ?_)
  · have := List.length_filter_le (fun z => decide (z < n)) N; omega
  · obtain ⟨a, rfl, ha, hr, hm⟩ := hR
    by_cases e : h a = a
    · left
      refine ⟨by simp [ha, Option.filter_some, e], ?_⟩
      have := H.fix a ha e
      rw [← hr, this]
      simp
    · right
      refine ⟨by simp [ha, Option.filter_some, e, bne, beq_dec], ?_⟩
      unfold m_head_of_b1
      refine Go.set1 (d := .int (h a)) (by simp [ha, Option.filter_some]) ?_
      refine ⟨(N.filter fun z => decide (z < h a)).length, _, ?_, .inl rfl, h a, rfl, H.mem a ha, by rw [H.rh a ha, hr], rfl⟩
      have hlt : h a < a := by have := H.le a ha; omega
      rw [← hm]
      have key : ∀ l : List Int, (h a ∈ l → (l.filter fun z => decide (z < h a)).length < (l.filter fun z => decide (z < a)).length) ∧ (l.filter fun z => decide (z < h a)).length ≤ (l.filter fun z => decide (z < a)).length := fun l => by
        induction l with
        | nil => simp
        | cons z r ih =>
          simp only [List.filter_cons]
          refine ⟨fun hz => ?_, ?_⟩
          · rcases List.mem_cons.mp hz with rfl | hz
            · simp [hlt]; omega
            · have := ih.1 hz
              by_cases c1 : z < h a
              · have : z < a := by omega
                simp [c1, this]; omega
              · by_cases c2 : z < a <;> simp [c1, c2] <;> omega
          · have := ih.2
            by_cases c1 : z < h a
            · have : z < a := by omega
              simp [c1, this]; omega
            · by_cases c2 : z < a <;> simp [c1, c2] <;> omega
      exact (key N).1 (H.mem a ha)
end VP

/-! ## VFE -/
/-! drawings: names, openings, pairs, loops -/
namespace VP
open PySem PySem.Spec PyProof.Rows L2 VV VP
/-- a crossing: its sign, under in, under out, over in, over out -/
structure Cr where
  (s a b c d : Int)
  deriving DecidableEq
def crD (x : Cr) : D := .tup [.int x.s, .int x.a, .int x.b, .int x.c, .int x.d]
def intsD (l : List Int) : D := .lst (l.map D.int)
def drD (rs : List Int) (cs : List Cr) : D := .tup [intsD rs, .lst (cs.map crD)]
def insC (cs : List Cr) : List Int := cs.flatMap fun x => [x.a, x.c]
def outsC (cs : List Cr) : List Int := cs.flatMap fun x => [x.b, x.d]
@[simp] theorem cr_flat {x : Cr} : (crD x).isFlat = true := by simp [crD]
theorem cr_ok {x : Cr} : Ok 3 (crD x) := by
  refine (Ok.tup (n := 0) fun a ha => ?_).mono (by decide)
  simp only [List.mem_cons, List.not_mem_nil, or_false] at ha
  rcases ha with rfl | rfl | rfl | rfl | rfl <;> exact Ok.int
@[simp] theorem dr0 {rs : List Int} {cs : List Cr} : dIdx [drD rs cs, .int 0] = some (intsD rs) := by simp [drD]
@[simp] theorem dr1 {rs : List Int} {cs : List Cr} : dIdx [drD rs cs, .int 1] = some (.lst (cs.map crD)) := by simp [drD]
@[simp] theorem cr0 {x : Cr} : dIdx [crD x, .int 0] = some (.int x.s) := by simp [crD]
@[simp] theorem cr1 {x : Cr} : dIdx [crD x, .int 1] = some (.int x.a) := by simp [crD]
@[simp] theorem cr2 {x : Cr} : dIdx [crD x, .int 2] = some (.int x.b) := by simp [crD]
@[simp] theorem cr3 {x : Cr} : dIdx [crD x, .int 3] = some (.int x.c) := by simp [crD]
@[simp] theorem cr4 {x : Cr} : dIdx [crD x, .int 4] = some (.int x.d) := by simp [crD]
theorem ext_s {l r : List D} (h : l.length + r.length ≤ 1000000) : dExt (.lst l) (.lst r) = some (.lst (l ++ r)) := if_pos h
theorem insC_len {cs : List Cr} : (insC cs).length = 2 * cs.length := by
  induction cs with
  | nil => rfl
  | cons x r ih => unfold insC at ih ⊢; simp [List.flatMap_cons, ih]; omega
theorem insC_take {cs : List Cr} {i : Nat} {x : Cr} (h : cs[i]? = some x) : insC (cs.take (i + 1)) = insC (cs.take i) ++ [x.a, x.c] := by
  unfold insC
  rw [List.take_add_one, h]
  simp
theorem ins_ok {cs : List Cr} (h : cs.length ≤ 1000) : f_ins_of [.lst (cs.map crD)] = some (.ret (intsD (insC cs))) := by
  refine fn_go (by simp) ?_
  show Go m_ins_of [.lst (cs.map crD), .non, .non] _
  unfold m_ins_of
  refine Go.set (d := .lst []) (by simp) ?_
  unfold m_ins_of_1
  rw [go_seq]
  refine go_for crD cs (fun i ρ => ∃ j, ρ = [.lst (cs.map crD), intsD (insC (cs.take i)), j]) (by simp) ⟨.non, rfl⟩ (fun i x ρ hi hR => ?_) (fun ρ' hR => ?_)
  · obtain ⟨j, rfl⟩ := hR
    refine ⟨[.lst (cs.map crD), intsD (insC (cs.take i)), crD x], by simp, ?_⟩
    unfold m_ins_of_b1
    refine Go.mut1 (y := .lst [.int x.a, .int x.c]) (by simp) rfl ?_ ⟨_, .inl rfl, crD x, rfl⟩
    have hl := @insC_len (cs.take i)
    rw [List.length_take] at hl
    rw [insC_take hi]
    unfold intsD
    rw [ext_s (by simp; omega)]
    simp
  · obtain ⟨j, rfl⟩ := hR
    rw [List.take_length]
    simp [intsD]

/-! ### sorted -/
theorem dataLe_int {a b : Int} : leD (.int a) (.int b) = decide (a ≤ b) := by
  unfold leD
  have := congrFun (congrFun (PySem.W.dataLe_int (id : Int → Int)) a) b
  exact this
theorem srtOk_ints {l : List Int} (h : l.length ≤ 1000000) : srtOk (l.map D.int) = true := by
  unfold srtOk
  simp only [Bool.and_eq_true, List.all_eq_true, Bool.or_eq_true, List.mem_map, decide_eq_true_eq]
  refine ⟨⟨⟨⟨?_, ?_⟩, .inr ?_⟩, ?_⟩, by simpa using h⟩
  · unfold canL
    rw [toPL_map]
    exact canLayAll_map _ _ fun a _ => by simp [D.toP, PyData.canLay0]
  · rintro x ⟨a, _, rfl⟩ y ⟨b, _, rfl⟩
    rfl
  · rintro x ⟨a, _, rfl⟩
    rfl
  · rintro x ⟨a, _, rfl⟩
    simp [D.toP, PyData.depth]
theorem sort_ints {l : List Int} (h : l.length ≤ 1000000) : dSortX [intsD l] = some (intsD (srtI l)) := by
  unfold intsD dSortX
  dsimp only
  rw [if_pos (srtOk_ints h)]
  unfold srtI
  rw [List.map_mergeSort (s := leD) (fun a _ b _ => by rw [dataLe_int])]
theorem catF_ints {l r : List Int} (h : l.length + r.length ≤ 1000000) : dCatF [intsD l, intsD r] = some (intsD (l ++ r)) := by
  unfold intsD dCatF
  dsimp only
  rw [if_pos ?_]
  · simp
  · simp; omega
def namesC (rs : List Int) (cs : List Cr) : List Int := srtI (rs ++ insC cs)
@[simp] theorem kf_ints {l : List Int} : (intsD l).kidsFlat = true := by simp [intsD]
theorem names_ok {rs : List Int} {cs : List Cr} (h1 : rs.length ≤ 1000) (h2 : cs.length ≤ 1000) : f_names_of [drD rs cs] = some (.ret (intsD (namesC rs cs))) := by
  refine fn_go (by simp) ?_
  show Go m_names_of [drD rs cs] _
  unfold m_names_of
  have hi := @insC_len cs
  refine Go.ret (d := intsD (namesC rs cs)) ?_ rfl
  simp [ins_ok h2, Option.filter_some, catF_ints (l := rs) (r := insC cs) (by omega), sort_ints (l := rs ++ insC cs) (by simp; omega)]
  rfl

/-! ### openings, pairs -/
def bitsD (l : List Int) : D := .tup (l.map D.int)
theorem isi_tup {l : List D} : dIsi "tuple" [.tup l] = some (.bl true) := isi_s (N := "tuple") rfl (by decide +kernel)
theorem notIn01 {b : Int} : dNotInX [.int b, .tup [.int 0, .int 1]] = some (.bl (decide (b ≠ 0 ∧ b ≠ 1))) := by
  unfold dNotInX
  dsimp only
  have h1 : D.shd (.int b) = true := Ok.int.shd (by decide)
  have h2 : canL [.int 0, .int 1] = true := by simp [canL, D.toPL, D.toP, PyData.canLayAll0, PyData.canLay0]
  rw [h1, h2]
  simp only [Bool.and_self, if_true, Option.some.injEq, D.bl.injEq, inL, List.any_cons, List.any_nil, Bool.or_false]
  have := Eqv.int 0 b
  have := Eqv.int 1 b
  simp only [*]
  by_cases e0 : b = 0
  · simp [e0]
  · by_cases e1 : b = 1
    · simp [e1]
    · simp [e0, e1, Ne.symm e0, Ne.symm e1, eq_comm]
theorem opening_ok {rs : List Int} {cs : List Cr} {bs : List Int} (hl : bs.length = cs.length) (hb : ∀ b ∈ bs, b = 0 ∨ b = 1) : f_is_opening [drD rs cs, bitsD bs] = some (.ret (.bl true)) := by
  refine fn_go (by simp [bitsD]) ?_
  show Go m_is_opening [drD rs cs, bitsD bs, .non] _
  unfold m_is_opening
  have h1 : dIsi "tuple" [bitsD bs] = some (.bl true) := isi_tup
  refine Go.no (by unfold bitsD at h1 ⊢; simp [h1, hl]) ?_
  unfold m_is_opening_1
  rw [go_seq]
  refine go_for D.int bs (fun i ρ => ∃ j, ρ = [drD rs cs, bitsD bs, j]) (by simp [bitsD]) ⟨.non, rfl⟩ (fun i b ρ hi hR => ?_) (fun ρ' hR => ?_)
  · obtain ⟨j, rfl⟩ := hR
    refine ⟨[drD rs cs, bitsD bs, .int b], by simp, ?_⟩
    unfold m_is_opening_b1
    have hb' := hb b (List.mem_of_getElem? hi)
    have hn : decide (b ≠ 0 ∧ b ≠ 1) = false := by
      rcases hb' with rfl | rfl <;> simp
    rw [go_f (by simp [notIn01, hn])]
    rw [go_nil]
    exact ⟨_, .inl rfl, _, rfl⟩
  · obtain ⟨j, rfl⟩ := hR
    simp
/-- the pairs that an opened crossing joins -/
def prC (x : Cr) (b : Int) : List (Int × Int) :=
  if x.s = 1 then (if b = 0 then [(x.a, x.d), (x.b, x.c)] else [(x.a, x.c), (x.d, x.b)])
  else (if b = 0 then [(x.a, x.c), (x.b, x.d)] else [(x.a, x.d), (x.c, x.b)])
def prD (p : Int × Int) : D := .tup [.int p.1, .int p.2]
theorem ends_ok {x : Cr} : f_ends_of [crD x] = some (.ret (if x.s = 1 then .tup [.int x.a, .int x.d, .int x.b, .int x.c] else .tup [.int x.a, .int x.c, .int x.b, .int x.d])) := by
  refine fn_go (by simp) ?_
  show Go m_ends_of [crD x, .non, .non, .non, .non, .non] _
  unfold m_ends_of
  refine Go.asg (d := crD x) (by simp) (ρ' := [crD x, .int x.s, .int x.a, .int x.b, .int x.c, .int x.d]) (by simp [crD]) ?_
  unfold m_ends_of_1
  refine Go.ite (p := x.s = 1) (by simp [beq_dec]) (fun h => ?_) (fun h => ?_)
  · simp [m_ends_of_c1, h]
  · simp [m_ends_of_2, h]
theorem pairs_ok {x : Cr} {b : Int} : f_joined_pairs [crD x, .int b] = some (.ret (.lst ((prC x b).map prD))) := by
  refine fn_go (by simp) ?_
  show Go m_joined_pairs [crD x, .int b, .non, .non, .non, .non] _
  unfold m_joined_pairs
  by_cases hs : x.s = 1
  · refine Go.asg (d := .tup [.int x.a, .int x.d, .int x.b, .int x.c]) (by simp [ends_ok, hs]) (ρ' := [crD x, .int b, .int x.a, .int x.d, .int x.b, .int x.c]) (by simp) ?_
    unfold m_joined_pairs_1
    refine Go.ite (p := b = 0) (by simp [beq_dec]) (fun h => ?_) (fun h => ?_)
    · simp [m_joined_pairs_c1, prC, prD, h, hs]
    · simp [m_joined_pairs_2, prC, prD, h, hs]
  · refine Go.asg (d := .tup [.int x.a, .int x.c, .int x.b, .int x.d]) (by simp [ends_ok, hs]) (ρ' := [crD x, .int b, .int x.a, .int x.c, .int x.b, .int x.d]) (by simp) ?_
    unfold m_joined_pairs_1
    refine Go.ite (p := b = 0) (by simp [beq_dec]) (fun h => ?_) (fun h => ?_)
    · simp [m_joined_pairs_c1, prC, prD, h, hs]
    · simp [m_joined_pairs_2, prC, prD, h, hs]
end VP

/-! ## VFG -/
/-! the loops of an opening -/
namespace VP
open PySem PySem.Spec PyProof.Rows L2 VV VP
theorem srtI_perm (l : List Int) : (srtI l).Perm l := List.mergeSort_perm l _
theorem srtI_pw (l : List Int) : (srtI l).Pairwise (· ≤ ·) := by
  have := List.pairwise_mergeSort (le := fun i j : Int => decide (i ≤ j)) (fun a b c h1 h2 => by simp at *; omega) (fun a b => by simp; omega) l
  exact this.imp fun h => by simpa using h
theorem srtI_id {l : List Int} (h : l.Pairwise (· ≤ ·)) : srtI l = l := (srtI_uniq (List.Perm.refl l) h).symm
theorem srtI_lt {l : List Int} (h : l.Nodup) : (srtI l).Pairwise (· < ·) := by
  have h1 := srtI_pw l
  have h2 : (srtI l).Nodup := (srtI_perm l).nodup_iff.mpr h
  exact (List.pairwise_and_iff.mpr ⟨h1, h2⟩).imp fun ⟨a, b⟩ => by omega
theorem srtI_two {a b : Int} : srtI [a, b] = [min a b, max a b] := by
  symm
  refine srtI_uniq ?_ ?_
  · by_cases h : a ≤ b
    · rw [Int.min_eq_left h, Int.max_eq_right h]
    · rw [Int.min_eq_right (by omega), Int.max_eq_left (by omega)]
      exact List.Perm.swap _ _ _
  · simp; omega
def allP (l : List (Cr × Int)) : List (Int × Int) := l.flatMap fun p => prC p.1 p.2
theorem allP_take {l : List (Cr × Int)} {i : Nat} {p : Cr × Int} (h : l[i]? = some p) : allP (l.take (i + 1)) = allP (l.take i) ++ prC p.1 p.2 := by
  unfold allP
  rw [List.take_add_one, h]
  simp
def loopsF (N : List Int) (rt : Int → Int) : List (List Int) := (N.filter fun n => decide (rt n = n)).map fun r => N.filter fun n => decide (rt n = r)
theorem iZipM_s {a : List D → Option (List D)} {ρ l r : List D} (h : a ρ = some [.lst l, .tup r]) : iZipM a ρ = some ((l.zip r).map fun p => .tup [p.1, p.2]) := by
  unfold iZipM
  rw [h]
  rfl
section
variable {K : List Int} {F : Int → D} {n : Int} {l : List D} {y : D}
theorem setd_out (hn : n ∉ K) (hl : K.length < 1000000) (hF : F n = .lst []) : dSetD (mD K F) (.int n) = some (mD (K ++ [n]) F) := by
  unfold mD dSetD
  simp only [kyF_int, Option.bind_some, List.length_map, hl, if_true]
  rw [show (Ky.k (Sum.inl n)) = kI n from rfl, lk_no hn]
  dsimp only
  unfold putKs putDs
  rw [if_neg fun z => hn (memK.mp z), if_neg fun z => hn (memK.mp z)]
  simp [hF]
theorem setd_in (hn : n ∈ K) (hl : K.length < 1000000) (hF : F n = .lst l) : dSetD (mD K F) (.int n) = some (mD K F) := by
  unfold mD dSetD
  simp only [kyF_int, Option.bind_some, List.length_map, hl, if_true]
  rw [show (Ky.k (Sum.inl n)) = kI n from rfl, lk_m hn, hF]
theorem app_in (hn : n ∈ K) (hF : F n = .lst l) (hy : y.isFlat = true) (hl : l.length < 1000000) : dApp (mD K F) (.int n) y = some (mD K fun m => if m = n then .lst (l ++ [y]) else F m) := by
  unfold mD dApp
  simp only [kyF_int, Option.bind_some]
  rw [show (Ky.k (Sum.inl n)) = kI n from rfl, lk_m hn, hF]
  dsimp only
  rw [hy, if_pos (by simpa using hl), putDs_in hn]
theorem keysI_m {K : List Int} : keysI (K.map kI) = some K := by
  induction K with
  | nil => rfl
  | cons a r ih => simp [kI, keysI]; exact ih
end
theorem take_snoc {α : Type} {l : List α} {i : Nat} {a : α} (h : l[i]? = some a) : l.take (i + 1) = l.take i ++ [a] := by
  rw [List.take_add_one, h]; rfl
theorem pw_split {N : List Int} (h : N.Pairwise (· < ·)) {i : Nat} {n : Int} (hi : N[i]? = some n) : (∀ m ∈ N.take i, m < n) ∧ ∀ m ∈ N, m < n → m ∈ N.take i := by
  obtain ⟨hlt, e⟩ := List.getElem?_eq_some_iff.mp hi
  have hs : N = N.take i ++ n :: N.drop (i + 1) := by
    rw [← e, List.getElem_cons_drop, List.take_append_drop]
  rw [hs] at h
  obtain ⟨h1, h2, h3⟩ := List.pairwise_append.mp h
  refine ⟨fun m hm => h3 m hm n List.mem_cons_self, fun m hm hmn => ?_⟩
  rw [hs] at hm
  rcases List.mem_append.mp hm with hm | hm
  · exact hm
  · rcases List.mem_cons.mp hm with rfl | hm
    · omega
    · have := (List.pairwise_cons.mp h2).1 m hm
      omega
section
variable {rs : List Int} {cs : List Cr} {bs : List Int} (hnd : (rs ++ insC cs).Nodup) (hcl : ∀ x ∈ cs, x.b ∈ rs ++ insC cs ∧ x.d ∈ rs ++ insC cs) (hl : rs.length + 2 * cs.length < 64) (hb : bs.length = cs.length) (hb01 : ∀ b ∈ bs, b = 0 ∨ b = 1)
include hcl in
theorem prC_mem {x : Cr} (hx : x ∈ cs) (b : Int) : ∀ p ∈ prC x b, p.1 ∈ namesC rs cs ∧ p.2 ∈ namesC rs cs := by
  have ha : x.a ∈ namesC rs cs := (srtI_perm _).mem_iff.mpr (List.mem_append_right _ (List.mem_flatMap.mpr ⟨x, hx, by simp⟩))
  have hc : x.c ∈ namesC rs cs := (srtI_perm _).mem_iff.mpr (List.mem_append_right _ (List.mem_flatMap.mpr ⟨x, hx, by simp⟩))
  have hb : x.b ∈ namesC rs cs := (srtI_perm _).mem_iff.mpr (hcl x hx).1
  have hd : x.d ∈ namesC rs cs := (srtI_perm _).mem_iff.mpr (hcl x hx).2
  intro p hp
  unfold prC at hp
  split at hp <;> split at hp <;> simp at hp <;> rcases hp with rfl | rfl <;> exact ⟨by assumption, by assumption⟩
include hnd hcl hl hb hb01
/-- the loops, from the names on -/
theorem loops_go : Go m_loops_1 [drD rs cs, bitsD bs, .non, .non, .non, .non, .non, .non, .non, .non, .non, .non, .non] fun o => ∃ d, o = .rt d ∧ ∃ rt, IsRt (allP (cs.zip bs)) rt ∧ (∀ n ∈ namesC rs cs, rt n ∈ namesC rs cs) ∧ d = .lst ((loopsF (namesC rs cs) rt).map intsD) := by
  have hNl : (namesC rs cs).length < 64 := by
    unfold namesC
    rw [(srtI_perm _).length_eq, List.length_append, insC_len]; omega
  have hlt : (namesC rs cs).Pairwise (· < ·) := srtI_lt hnd
  have hpm := @prC_mem rs cs hcl
  generalize hN : namesC rs cs = N at *
  have key : Go m_loops_1 [drD rs cs, bitsD bs, .non, .non, .non, .non, .non, .non, .non, .non, .non, .non, .non] fun o => ∃ d, o = .rt d ∧ ∃ rt, IsRt (allP (cs.zip bs)) rt ∧ (∀ n ∈ N, rt n ∈ N) ∧ d = .lst ((loopsF N rt).map intsD) := by
    unfold m_loops_1
    refine Go.set (d := intsD N) (by simp [names_ok (rs := rs) (cs := cs) (by omega) (by omega), hN, Option.filter_some]) ?_
    unfold m_loops_2
    refine Go.set (d := mD [] fun m => .int m) (by rfl) ?_
    unfold m_loops_3
    rw [go_seq]
    refine go_for D.int N (fun i ρ => ∃ j, ρ = [drD rs cs, bitsD bs, intsD N, mD (N.take i) fun m => .int m, j, .non, .non, .non, .non, .non, .non, .non, .non]) (by simp [intsD]) ⟨.non, by simp⟩ (fun i n ρ hi hR => ?_) (fun ρ' hR => ?_)
    · obtain ⟨j, rfl⟩ := hR
      refine ⟨[drD rs cs, bitsD bs, intsD N, mD (N.take i) fun m => .int m, .int n, .non, .non, .non, .non, .non, .non, .non, .non], by simp, ?_⟩
      unfold m_loops_b1
      have hni : n ∉ N.take i := fun hm => by have := (pw_split hlt hi).1 n hm; omega
      refine Go.put1 (v := .int n) (x := .int n) (y := mD (N.take i) fun m => .int m) (z := mD (N.take i ++ [n]) fun m => .int m) (by simp) (by simp) rfl (put_out hni (by rw [List.length_take]; omega) rfl) ?_
      rw [← take_snoc hi]
      exact ⟨_, .inl rfl, _, rfl⟩
    obtain ⟨j, rfl⟩ := hR
    rw [List.take_length, cont_nx]
    unfold m_loops_4
    rw [go_seq]
    refine go_for (fun p : Cr × Int => D.tup [crD p.1, .int p.2]) (cs.zip bs) (fun i ρ => ∃ h rt j4 j5 j6 j7 j8 j9 j10, ρ = [drD rs cs, bitsD bs, intsD N, mD N fun m => .int (h m), j4, j5, j6, j7, j8, j9, j10, .non, .non] ∧ Heads N h rt ∧ IsRt (allP ((cs.zip bs).take i)) rt) ?_ ⟨id, id, _, _, _, _, _, _, _, rfl, Heads.id, IsRt.nil⟩ (fun i p ρ hi hR => ?_) (fun ρ' hR => ?_)
    · rw [iZipM_s (l := cs.map crD) (r := bs.map D.int) (by simp [bitsD]), List.zip_map, List.map_map]
      rfl
    · obtain ⟨h, rt, j4, j5, j6, j7, j8, j9, j10, rfl, hH, hI⟩ := hR
      refine ⟨[drD rs cs, bitsD bs, intsD N, mD N fun m => .int (h m), j4, crD p.1, .int p.2, j7, j8, j9, j10, .non, .non], by simp, ?_⟩
      have hx : p.1 ∈ cs := (List.of_mem_zip (List.mem_of_getElem? hi)).1
      unfold m_loops_b2
      refine go_for prD (prC p.1 p.2) (fun k ρ => ∃ h rt j7 j8 j9 j10, ρ = [drD rs cs, bitsD bs, intsD N, mD N fun m => .int (h m), j4, crD p.1, .int p.2, j7, j8, j9, j10, .non, .non] ∧ Heads N h rt ∧ IsRt (allP ((cs.zip bs).take i) ++ (prC p.1 p.2).take k) rt) ?_ ⟨h, rt, _, _, _, _, rfl, hH, by simpa using hI⟩ (fun k q ρ hk hR => ?_) (fun ρ' hR => ?_)
      · have hf : (D.lst ((prC p.1 p.2).map prD)).kidsFlat = true := by
          rw [kf_lst, isFlatL_all, List.all_eq_true]
          intro d hd
          obtain ⟨q, _, rfl⟩ := List.mem_map.mp hd
          simp [prD]
        simp [pairs_ok, Option.filter_some, -kf_lst, hf]
      · obtain ⟨h, rt, j7, j8, j9, j10, rfl, hH, hI⟩ := hR
        refine ⟨[drD rs cs, bitsD bs, intsD N, mD N fun m => .int (h m), j4, crD p.1, .int p.2, .int q.1, .int q.2, j9, j10, .non, .non], by simp [prD], ?_⟩
        obtain ⟨hq1, hq2⟩ := hpm hx p.2 q (List.mem_of_getElem? hk)
        unfold m_loops_b3
        have e1 := head_ok hH (by omega) hq1
        have e2 := head_ok hH (by omega) hq2
        have e3 : dSortX [.lst [.int (rt q.1), .int (rt q.2)]] = some (intsD [min (rt q.1) (rt q.2), max (rt q.1) (rt q.2)]) := by
          have := sort_ints (l := [rt q.1, rt q.2]) (by simp)
          rw [srtI_two] at this
          exact this
        refine Go.asg (d := intsD [min (rt q.1) (rt q.2), max (rt q.1) (rt q.2)]) (by simp [e1, e2, e3])
          (ρ' := [drD rs cs, bitsD bs, intsD N, mD N fun m => .int (h m), j4, crD p.1, .int p.2, .int q.1, .int q.2, .int (min (rt q.1) (rt q.2)), .int (max (rt q.1) (rt q.2)), .non, .non]) (by simp [intsD]) ?_
        unfold m_loops_b3_1
        have hmx : max (rt q.1) (rt q.2) ∈ N := by
          have a1 := hH.rm q.1 hq1
          have a2 := hH.rm q.2 hq2
          by_cases hle : rt q.1 ≤ rt q.2
          · rw [Int.max_eq_right hle]; exact a2
          · rw [Int.max_eq_left (by omega)]; exact a1
        refine Go.put1 (v := .int (min (rt q.1) (rt q.2))) (x := .int (max (rt q.1) (rt q.2))) (y := mD N fun m => .int (h m)) (by simp) (by simp) rfl (put_in hmx (by omega)) ?_
        refine ⟨_, .inl rfl, updF h (max (rt q.1) (rt q.2)) (min (rt q.1) (rt q.2)), joinR rt q.1 q.2, .int q.1, .int q.2, .int (min (rt q.1) (rt q.2)), .int (max (rt q.1) (rt q.2)), ?_, hH.join hI.rr hq1 hq2, ?_⟩
        · have : (fun m => if m = max (rt q.1) (rt q.2) then D.int (min (rt q.1) (rt q.2)) else D.int (h m)) = fun m => D.int (updF h (max (rt q.1) (rt q.2)) (min (rt q.1) (rt q.2)) m) := by
            funext m
            unfold updF
            split <;> rfl
          rw [this]
          rfl
        · rw [take_snoc hk, ← List.append_assoc]
          exact hI.join q.1 q.2
      · obtain ⟨h, rt, j7, j8, j9, j10, rfl, hH, hI⟩ := hR
        rw [List.take_length] at hI
        refine ⟨_, .inl rfl, h, rt, _, _, _, _, _, _, _, rfl, hH, ?_⟩
        rw [allP_take hi]
        exact hI
    obtain ⟨h, rt, j4, j5, j6, j7, j8, j9, j10, rfl, hH, hI⟩ := hR
    rw [List.take_length] at hI
    rw [cont_nx]
    unfold m_loops_5
    refine Go.set (d := mD [] fun m => .lst []) (by rfl) ?_
    unfold m_loops_6
    rw [go_seq]
    refine go_for D.int N (fun i ρ => ∃ j, ρ = [drD rs cs, bitsD bs, intsD N, mD N fun m => .int (h m), j, j5, j6, j7, j8, j9, j10, mD ((N.take i).filter fun n => decide (rt n = n)) (fun r => intsD ((N.take i).filter fun n => decide (rt n = r))), .non]) (by simp [intsD]) ⟨j4, by simp [mD]⟩ (fun i n ρ hi hR => ?_) (fun ρ' hR => ?_)
    · obtain ⟨j, rfl⟩ := hR
      have hnN : n ∈ N := List.mem_of_getElem? hi
      obtain ⟨s1, s2⟩ := pw_split hlt hi
      refine ⟨[drD rs cs, bitsD bs, intsD N, mD N fun m => .int (h m), .int n, j5, j6, j7, j8, j9, j10, mD ((N.take i).filter fun n => decide (rt n = n)) (fun r => intsD ((N.take i).filter fun n => decide (rt n = r))), .non], by simp, ?_⟩
      unfold m_loops_b4
      have eh := head_ok hH (by omega) hnN
      have ts := take_snoc hi
      have hTl : (N.take i).length < 64 := by rw [List.length_take]; omega
      generalize hT : N.take i = T at *
      have hKl : (T.filter fun n => decide (rt n = n)).length < 1000000 := by have := List.length_filter_le (fun n => decide (rt n = n)) T; omega
      have hle := hI.le n
      have hrr := hI.rr n
      rw [ts]
      by_cases hr : rt n = n
      · have hno : n ∉ T.filter fun n => decide (rt n = n) := fun hm => by have := s1 n (List.mem_filter.mp hm).1; omega
        have hF : intsD (T.filter fun m => decide (rt m = n)) = .lst [] := by
          have : T.filter (fun m => decide (rt m = n)) = [] := by
            rw [List.filter_eq_nil_iff]
            intro m hm e
            have := s1 m hm
            have := hI.le m
            simp at e
            omega
          rw [this]; rfl
        have a1 := setd_out (F := fun r => intsD (T.filter fun n => decide (rt n = r))) hno hKl hF
        have a2 := app_in (K := (T.filter fun n => decide (rt n = n)) ++ [n]) (F := fun r => intsD (T.filter fun n => decide (rt n = r))) (y := .int n) (n := n) (List.mem_append_right _ (List.mem_singleton.mpr rfl)) hF rfl (by simp)
        refine ⟨_, setApp_s (d := mD (T.filter fun n => decide (rt n = n)) (fun r => intsD (T.filter fun n => decide (rt n = r)))) (x := .int n) (y := .int n) rfl (by simp [eh, hr]) a1 (by simp) a2, ?_⟩
        refine ⟨_, .inl rfl, .int n, ?_⟩
        have e3 : (T ++ [n]).filter (fun n => decide (rt n = n)) = (T.filter fun n => decide (rt n = n)) ++ [n] := by simp [List.filter_append, hr]
        rw [e3]
        have : mD ((T.filter fun n => decide (rt n = n)) ++ [n]) (fun m => if m = n then .lst ([] ++ [.int n]) else intsD (T.filter fun n => decide (rt n = m))) = mD ((T.filter fun n => decide (rt n = n)) ++ [n]) (fun r => intsD ((T ++ [n]).filter fun n => decide (rt n = r))) := by
          refine mD_congr fun m hm => ?_
          by_cases e : m = n
          · subst e
            have hF2 : T.filter (fun z => decide (rt z = m)) = [] := by
              have := hF
              unfold intsD at this
              simpa using this
            simp [List.filter_append, hF2, hr, intsD]
          · have : ¬ rt n = m := fun z => e (by rw [← z, hr])
            simp [List.filter_append, e, this]
        rw [this]
        rfl
      · have hrT : rt n ∈ T := s2 _ (hH.rm n hnN) (by omega)
        have hrK : rt n ∈ T.filter fun n => decide (rt n = n) := List.mem_filter.mpr ⟨hrT, by simpa using hrr⟩
        have a1 := setd_in (F := fun r => intsD (T.filter fun n => decide (rt n = r))) hrK hKl rfl
        have a2 := app_in (K := T.filter fun n => decide (rt n = n)) (F := fun r => intsD (T.filter fun n => decide (rt n = r))) (y := .int n) (n := rt n) hrK rfl rfl (by have := List.length_filter_le (fun m => decide (rt m = rt n)) T; rw [List.length_map]; omega)
        refine ⟨_, setApp_s (d := mD (T.filter fun n => decide (rt n = n)) (fun r => intsD (T.filter fun n => decide (rt n = r)))) (x := .int (rt n)) (y := .int n) rfl (by simp [eh]) a1 (by simp) a2, ?_⟩
        refine ⟨_, .inl rfl, .int n, ?_⟩
        have e3 : (T ++ [n]).filter (fun n => decide (rt n = n)) = T.filter fun n => decide (rt n = n) := by simp [List.filter_append, hr]
        rw [e3]
        have : mD (T.filter fun n => decide (rt n = n)) (fun m => if m = rt n then .lst ((T.filter fun m => decide (rt m = rt n)).map D.int ++ [.int n]) else intsD (T.filter fun n => decide (rt n = m))) = mD (T.filter fun n => decide (rt n = n)) (fun r => intsD ((T ++ [n]).filter fun n => decide (rt n = r))) := by
          refine mD_congr fun m hm => ?_
          by_cases e : m = rt n
          · subst e
            simp [List.filter_append, intsD]
          · simp [List.filter_append, e, Ne.symm e, eq_comm]
        rw [this]
        rfl
    obtain ⟨j, rfl⟩ := hR
    rw [List.take_length, cont_nx]
    unfold m_loops_7
    have hK : (N.filter fun n => decide (rt n = n)).Pairwise (· ≤ ·) := (hlt.filter _).imp fun h => by omega
    have hKl : (N.filter fun n => decide (rt n = n)).length < 64 := by have := List.length_filter_le (fun n => decide (rt n = n)) N; omega
    have e1 : dSortK [mD (N.filter fun n => decide (rt n = n)) (fun r => intsD (N.filter fun n => decide (rt n = r)))] = some (intsD (N.filter fun n => decide (rt n = n))) := by
      unfold mD dSortK
      dsimp only
      rw [keysI_m]
      simp only [Option.bind_some]
      rw [if_pos hKl, srtI_id hK]
      rfl
    refine Go.ret (d := .lst ((N.filter fun n => decide (rt n = n)).map fun r => intsD (N.filter fun n => decide (rt n = r)))) ?_ ⟨_, rfl, rt, hI, hH.rm, ?_⟩
    · have e2 : iLst (eP dSortK (aCons (eVar 11) aNil)) [drD rs cs, bitsD bs, intsD N, mD N fun m => .int (h m), j, j5, j6, j7, j8, j9, j10, mD (N.filter fun n => decide (rt n = n)) (fun r => intsD (N.filter fun n => decide (rt n = r))), .non] = some ((N.filter fun n => decide (rt n = n)).map D.int) := by
        simp [e1]
        rfl
      rw [eLc_s, e2]
      simp only [ob_some]
      rw [lcL_map D.int (fun r => intsD (N.filter fun n => decide (rt n = r)))]
      · rfl
      · intro r hr
        refine ⟨_, rfl, rfl, ?_⟩
        unfold m_loops_e1
        simp
        exact get_m hr
    · unfold loopsF
      rw [List.map_map]
      rfl
  exact key
theorem loops_ok : ∃ rt, IsRt (allP (cs.zip bs)) rt ∧ (∀ n ∈ namesC rs cs, rt n ∈ namesC rs cs) ∧ f_loops [drD rs cs, bitsD bs] = some (.ret (.lst ((loopsF (namesC rs cs) rt).map intsD))) := by
  have key : ∃ d, f_loops [drD rs cs, bitsD bs] = some (.ret d) ∧ ∃ rt, IsRt (allP (cs.zip bs)) rt ∧ (∀ n ∈ namesC rs cs, rt n ∈ namesC rs cs) ∧ d = .lst ((loopsF (namesC rs cs) rt).map intsD) := by
    refine fn_ex (by simp [bitsD]) ?_
    show Go m_loops [drD rs cs, bitsD bs, .non, .non, .non, .non, .non, .non, .non, .non, .non, .non, .non] _
    unfold m_loops
    refine Go.no (by simp [opening_ok (rs := rs) hb hb01]) ?_
    exact loops_go hnd hcl hl hb hb01
  obtain ⟨d, h, rt, h1, h2, rfl⟩ := key
  exact ⟨rt, h1, h2, h⟩
end
end VP

/-! ## VFH -/
/-! drawings that are good; the closing of a word, plain -/
namespace VP
open PySem PySem.Spec PyProof.Rows L2 VV VP
/-- two colours of the names: at a crossing in turn -/
def ColX (col : Int → Bool) (x : Cr) : Prop := col x.b = !col x.a ∧ col x.c = col x.b ∧ col x.d = col x.a
structure Good (rs : List Int) (cs : List Cr) : Prop where
  nd : (rs ++ insC cs).Nodup
  op : (outsC cs).Perm (insC cs)
  col : ∃ col : Int → Bool, ∀ x ∈ cs, ColX col x
  sg : ∀ x ∈ cs, x.s = 1 ∨ x.s = -1
theorem Good.cl {rs : List Int} {cs : List Cr} (g : Good rs cs) : ∀ x ∈ cs, x.b ∈ rs ++ insC cs ∧ x.d ∈ rs ++ insC cs := fun x hx =>
  ⟨List.mem_append_right _ (g.op.mem_iff.mp (List.mem_flatMap.mpr ⟨x, hx, by simp⟩)), List.mem_append_right _ (g.op.mem_iff.mp (List.mem_flatMap.mpr ⟨x, hx, by simp⟩))⟩
theorem insC_app {cs : List Cr} {x : Cr} : insC (cs ++ [x]) = insC cs ++ [x.a, x.c] := by simp [insC]
theorem outsC_app {cs : List Cr} {x : Cr} : outsC (cs ++ [x]) = outsC cs ++ [x.b, x.d] := by simp [outsC]
def rg (m : Nat) : List Int := (List.range m).map fun i : Nat => (i : Int)
theorem mem_rg {m : Nat} {z : Int} : z ∈ rg m ↔ 0 ≤ z ∧ z < m := by
  unfold rg
  rw [List.mem_map]
  constructor
  · rintro ⟨i, hi, rfl⟩
    have := List.mem_range.mp hi
    omega
  · rintro ⟨h1, h2⟩
    exact ⟨z.toNat, List.mem_range.mpr (by omega), by omega⟩
theorem nd_rg {m : Nat} : (rg m).Nodup := by
  unfold rg
  exact List.pairwise_map.mpr (List.nodup_range.imp fun h e => h (by omega))
theorem rg_succ2 {m : Nat} : rg (m + 2) = rg m ++ [(m : Int), (m : Int) + 1] := by
  unfold rg
  rw [List.range_succ, List.range_succ]
  simp
/-- a word so far -/
structure Brd (n i : Nat) (here : List Int) (cs : List Cr) : Prop where
  ln : here.length = n
  cn : cs.length = i
  ih : (insC cs ++ here).Perm (rg (n + 2 * i))
  ou : ∀ z, z ∈ outsC cs ↔ (n : Int) ≤ z ∧ z < n + 2 * i
  on : (outsC cs).Nodup
  st : ∀ (j : Nat) (v : Int), here[j]? = some v → v < n → v = (j : Nat)
  co : ∃ col : Int → Bool, (∀ (j : Nat) (v : Int), here[j]? = some v → col v = decide (j % 2 = 1)) ∧ (∀ j : Nat, j < n → col j = decide (j % 2 = 1)) ∧ ∀ x ∈ cs, ColX col x
  sg : ∀ x ∈ cs, x.s = 1 ∨ x.s = -1
theorem rg_get {n j : Nat} {v : Int} (h : (rg n)[j]? = some v) : j < n ∧ v = (j : Nat) := by
  unfold rg at h
  rw [List.getElem?_map] at h
  obtain ⟨a, h1, rfl⟩ := Option.map_eq_some_iff.mp h
  obtain ⟨h2, rfl⟩ := rng_at h1
  exact ⟨h2, rfl⟩
theorem Brd.zero {n : Nat} : Brd n 0 (rg n) [] := ⟨by simp [rg], rfl, by simp [insC], fun z => by simp [outsC] <;> omega, by simp [outsC], fun j v h _ => (rg_get h).2,
  ⟨fun z => decide (z % 2 = 1), fun j v h => by rw [(rg_get h).2]; exact decide_eq_decide.mpr (by omega), fun j _ => decide_eq_decide.mpr (by omega), by simp⟩, by simp⟩
theorem set2_perm {l : List Int} {a : Nat} {p q x y : Int} (hp : l[a]? = some p) (hq : l[a + 1]? = some q) : ([p, q] ++ (l.set a x).set (a + 1) y).Perm (l ++ [x, y]) := by
  induction l generalizing a with
  | nil => simp at hp
  | cons c r ih =>
    cases a with
    | zero =>
      cases r with
      | nil => simp at hq
      | cons e r =>
        simp at hp hq
        subst hp hq
        simp only [List.set_cons_zero, List.set_cons_succ, List.cons_append, List.nil_append]
        refine List.Perm.cons _ (List.Perm.cons _ ?_)
        exact (List.perm_append_comm (l₁ := [x, y]) (l₂ := r))
    | succ a =>
      have := ih (a := a) (by simpa using hp) (by simpa using hq)
      simp only [List.set_cons_succ, List.cons_append, List.nil_append] at this ⊢
      refine List.Perm.trans ?_ (this.cons c)
      exact (List.Perm.cons p (List.Perm.swap c q _)).trans (List.Perm.swap c p _)
theorem set2_get {l : List Int} {a j : Nat} {x y v : Int} (ha : a + 1 < l.length) (h : ((l.set a x).set (a + 1) y)[j]? = some v) : (j = a + 1 ∧ v = y) ∨ (j = a ∧ v = x) ∨ (j ≠ a ∧ j ≠ a + 1 ∧ l[j]? = some v) := by
  rw [List.getElem?_set] at h
  split at h
  · rename_i e
    split at h
    · left; simp at h; exact ⟨e.symm, h.symm⟩
    · cases h
  · rename_i e
    rw [List.getElem?_set] at h
    split at h
    · rename_i e2
      split at h
      · right; left; simp at h; exact ⟨e2.symm, h.symm⟩
      · cases h
    · rename_i e2
      right; right
      exact ⟨fun z => e2 z.symm, fun z => e z.symm, h⟩
theorem Brd.step {n i a : Nat} {here : List Int} {cs : List Cr} {x : Cr} {p q : Int} (H : Brd n i here cs) (hp : here[a]? = some p) (hq : here[a + 1]? = some q)
    (hx : x = ⟨1, q, n + 2 * i, p, n + 2 * i + 1⟩ ∨ x = ⟨-1, p, n + 2 * i + 1, q, n + 2 * i⟩) : Brd n (i + 1) ((here.set a (n + 2 * i)).set (a + 1) (n + 2 * i + 1)) (cs ++ [x]) := by
  have ha : a + 1 < here.length := (List.getElem?_eq_some_iff.mp hq).1
  have hin : ∀ z ∈ here, z < n + 2 * i := fun z hz => by
    have := (mem_rg.mp (H.ih.mem_iff.mp (List.mem_append_right _ hz))).2
    omega
  have hins : ∀ z ∈ insC cs, z < n + 2 * i := fun z hz => by
    have := (mem_rg.mp (H.ih.mem_iff.mp (List.mem_append_left _ hz))).2
    omega
  have hp' := hin p (List.mem_of_getElem? hp)
  have hq' := hin q (List.mem_of_getElem? hq)
  refine ⟨by simp [H.ln], by simp [H.cn], ?_, fun z => ?_, ?_, fun j v h hv => ?_, ?_, fun y hy => ?_⟩
  · rw [insC_app]
    have e : ([x.a, x.c] : List Int).Perm [p, q] := by
      rcases hx with rfl | rfl
      · exact List.Perm.swap _ _ _
      · exact List.Perm.refl _
    have h1 := set2_perm (x := (n : Int) + 2 * i) (y := (n : Int) + 2 * i + 1) hp hq
    rw [List.append_assoc]
    have e2 : ([x.a, x.c] ++ (here.set a ((n : Int) + 2 * i)).set (a + 1) ((n : Int) + 2 * i + 1)).Perm (here ++ [(n : Int) + 2 * i, (n : Int) + 2 * i + 1]) := (e.append_right _).trans h1
    have e3 := e2.append_left (insC cs)
    refine e3.trans ?_
    rw [← List.append_assoc]
    have e4 := H.ih.append_right [(n : Int) + 2 * i, (n : Int) + 2 * i + 1]
    refine e4.trans ?_
    have : n + 2 * (i + 1) = (n + 2 * i) + 2 := by omega
    rw [this, rg_succ2]
    simp
  · rw [outsC_app, List.mem_append, H.ou]
    rcases hx with rfl | rfl <;> simp <;> omega
  · rw [outsC_app]
    refine List.nodup_append.mpr ⟨H.on, ?_, fun z hz w hw e => ?_⟩
    · rcases hx with rfl | rfl <;> simp <;> omega
    · have := (H.ou z).mp hz
      rcases hx with rfl | rfl <;> simp at hw <;> omega
  · rcases set2_get ha h with ⟨rfl, rfl⟩ | ⟨rfl, rfl⟩ | ⟨_, _, h⟩
    · omega
    · omega
    · exact H.st j v h hv
  · obtain ⟨col, c1, c2, c3⟩ := H.co
    refine ⟨fun z => if z = (n : Int) + 2 * i then decide (a % 2 = 1) else if z = (n : Int) + 2 * i + 1 then decide ((a + 1) % 2 = 1) else col z, fun j v h => ?_, fun j hj => ?_, fun y hy => ?_⟩
    · rcases set2_get ha h with ⟨rfl, rfl⟩ | ⟨rfl, rfl⟩ | ⟨_, _, h⟩
      · dsimp only
        rw [if_neg (by omega), if_pos rfl]
      · dsimp only
        rw [if_pos rfl]
      · have := hin v (List.mem_of_getElem? h)
        dsimp only
        rw [if_neg (by omega), if_neg (by omega)]
        exact c1 j v h
    · dsimp only
      rw [if_neg (by omega), if_neg (by omega)]
      exact c2 j hj
    · have old : ∀ z, z < (n : Int) + 2 * i → (if z = (n : Int) + 2 * i then decide (a % 2 = 1) else if z = (n : Int) + 2 * i + 1 then decide ((a + 1) % 2 = 1) else col z) = col z := fun z hz => by
        rw [if_neg (by omega), if_neg (by omega)]
      have hpar : decide ((a + 1) % 2 = 1) = !decide (a % 2 = 1) := by
        by_cases h : a % 2 = 1
        · have : ¬ (a + 1) % 2 = 1 := by omega
          simp [h, this]
        · have : (a + 1) % 2 = 1 := by omega
          simp [h, this]
      rcases List.mem_append.mp hy with hy | hy
      · have ho1 := (H.ou y.b).mp (List.mem_flatMap.mpr ⟨y, hy, by simp⟩)
        have ho2 := (H.ou y.d).mp (List.mem_flatMap.mpr ⟨y, hy, by simp⟩)
        have hi1 := hins y.a (List.mem_flatMap.mpr ⟨y, hy, by simp⟩)
        have hi2 := hins y.c (List.mem_flatMap.mpr ⟨y, hy, by simp⟩)
        have := c3 y hy
        unfold ColX at this ⊢
        dsimp only
        rw [old _ ho1.2, old _ ho2.2, old _ hi1, old _ hi2]
        exact this
      · obtain rfl := List.mem_singleton.mp hy
        have cp := c1 a p hp
        have cq := c1 (a + 1) q hq
        have e1 : ((n : Int) + 2 * i + 1 = n + 2 * i) = False := by simp; omega
        unfold ColX
        dsimp only
        rcases hx with rfl | rfl
        · dsimp only
          rw [old p hp', old q hq', cp, cq]
          simp [e1, hpar]
        · dsimp only
          rw [old p hp', old q hq', cp, cq]
          simp [e1, hpar]
  · rcases List.mem_append.mp hy with hy | hy
    · exact H.sg y hy
    · obtain rfl := List.mem_singleton.mp hy
      rcases hx with rfl | rfl <;> simp
end VP

/-! ## VFI -/
/-! the closing of a word: good; what the program's law makes -/
namespace VP
open PySem PySem.Spec PyProof.Rows L2 VV VP
def mapC (f : Int → Int) (x : Cr) : Cr := ⟨x.s, f x.a, f x.b, f x.c, f x.d⟩
theorem insC_map {f : Int → Int} {cs : List Cr} : insC (cs.map (mapC f)) = (insC cs).map f := by
  unfold insC
  induction cs with
  | nil => rfl
  | cons x r ih => simp only [List.map_cons, List.flatMap_cons, List.map_append, ih]; rfl
theorem outsC_map {f : Int → Int} {cs : List Cr} : outsC (cs.map (mapC f)) = (outsC cs).map f := by
  unfold outsC
  induction cs with
  | nil => rfl
  | cons x r ih => simp only [List.map_cons, List.flatMap_cons, List.map_append, ih]; rfl
def backF (here : List Int) (z : Int) : Int := if z ∈ here then (here.idxOf z : Nat) else z
def ringsF (n : Nat) (here : List Int) : List Int := (rg n).filter fun k => decide (here[k.toNat]? = some k)
theorem mem_ringsF {n : Nat} {here : List Int} {k : Int} : k ∈ ringsF n here ↔ (0 ≤ k ∧ k < n) ∧ here[k.toNat]? = some k := by
  unfold ringsF
  rw [List.mem_filter, mem_rg]
  simp
theorem Brd.close {n i : Nat} {here : List Int} {cs : List Cr} (H : Brd n i here cs) : Good (ringsF n here) (cs.map (mapC (backF here))) := by
  have hnd : (insC cs ++ here).Nodup := H.ih.nodup_iff.mpr nd_rg
  obtain ⟨n1, n2, n3⟩ := List.nodup_append.mp hnd
  have mem : ∀ z, (z ∈ insC cs ∨ z ∈ here) ↔ 0 ≤ z ∧ z < n + 2 * i := fun z => by
    rw [← List.mem_append, H.ih.mem_iff, mem_rg]
    constructor <;> rintro ⟨h1, h2⟩ <;> omega
  have hb : ∀ z ∈ here, ∃ j : Nat, j < n ∧ here[j]? = some z ∧ backF here z = (j : Nat) := fun z hz => by
    have h1 := List.idxOf_lt_length_iff.mpr hz
    refine ⟨here.idxOf z, by rw [← H.ln]; exact h1, ?_, if_pos hz⟩
    rw [List.getElem?_eq_getElem h1, List.getElem_idxOf]
  have hb0 : ∀ z, z ∉ here → backF here z = z := fun z hz => if_neg hz
  have hins : (insC cs).map (backF here) = insC cs := by
    have : ∀ z ∈ insC cs, backF here z = z := fun z hz => hb0 z fun h => n3 z hz z h rfl
    rw [List.map_congr_left this, List.map_id']
  have inj : ∀ {j : Nat} {z w : Int}, here[j]? = some z → here[j]? = some w → z = w := fun h1 h2 => by rw [h1] at h2; cases h2; rfl
  refine ⟨?_, ?_, ?_, fun x hx => ?_⟩
  · rw [insC_map, hins]
    refine List.nodup_append.mpr ⟨nd_rg.filter _, n1, fun a ha b hb e => ?_⟩
    subst e
    have := (mem_ringsF.mp ha).2
    exact n3 a hb a (List.mem_of_getElem? this) rfl
  · rw [insC_map, outsC_map, hins]
    refine (List.perm_ext_iff_of_nodup ?_ n1).mpr fun z => ?_
    · refine List.pairwise_map.mpr (List.Pairwise.imp_of_mem ?_ H.on)
      intro x y hx hy hne e
      have ox := (H.ou x).mp hx
      have oy := (H.ou y).mp hy
      by_cases h1 : x ∈ here
      · obtain ⟨j, j1, j2, j3⟩ := hb x h1
        by_cases h2 : y ∈ here
        · obtain ⟨k, k1, k2, k3⟩ := hb y h2
          rw [j3, k3] at e
          have : j = k := by omega
          subst this
          exact hne (inj j2 k2)
        · rw [j3, hb0 y h2] at e; omega
      · by_cases h2 : y ∈ here
        · obtain ⟨k, k1, k2, k3⟩ := hb y h2
          rw [k3, hb0 x h1] at e; omega
        · rw [hb0 x h1, hb0 y h2] at e; exact hne e
    · rw [List.mem_map]
      constructor
      · rintro ⟨x, hx, rfl⟩
        have ox := (H.ou x).mp hx
        by_cases h1 : x ∈ here
        · obtain ⟨j, j1, j2, j3⟩ := hb x h1
          rw [j3]
          rcases (mem (j : Nat)).mpr ⟨by omega, by omega⟩ with h | h
          · exact h
          · obtain ⟨k, hk⟩ := List.getElem?_of_mem h
            have := H.st k _ hk (by omega)
            have : j = k := by omega
            subst this
            have := inj j2 hk
            omega
        · rw [hb0 x h1]
          rcases (mem x).mpr ⟨by omega, by omega⟩ with h | h
          · exact h
          · exact absurd h h1
      · intro hz
        have hzr := (mem z).mp (.inl hz)
        have hzh : z ∉ here := fun h => n3 z hz z h rfl
        by_cases hzn : (n : Int) ≤ z
        · exact ⟨z, (H.ou z).mpr ⟨hzn, hzr.2⟩, hb0 z hzh⟩
        · have hzl : z.toNat < here.length := by rw [H.ln]; omega
          have hg := List.getElem?_eq_getElem hzl
          have hm := List.mem_of_getElem? hg
          have hge : (n : Int) ≤ here[z.toNat] := by
            by_cases h : (n : Int) ≤ here[z.toNat]
            · exact h
            · have := H.st _ _ hg (by omega)
              rw [this] at hm
              have e : ((z.toNat : Nat) : Int) = z := by omega
              rw [e] at hm
              exact absurd hm hzh
          have hr := (mem here[z.toNat]).mp (.inr hm)
          obtain ⟨j, j1, j2, j3⟩ := hb _ hm
          refine ⟨here[z.toNat], (H.ou _).mpr ⟨hge, hr.2⟩, ?_⟩
          rw [j3]
          have hj : here[j]? = here[z.toNat]? := by rw [j2, hg]
          have := (List.getElem?_inj (by rw [H.ln]; exact j1) n2).mp hj
          omega
  · obtain ⟨col, c1, c2, c3⟩ := H.co
    have cb : ∀ z, col (backF here z) = col z := fun z => by
      by_cases h : z ∈ here
      · obtain ⟨j, j1, j2, j3⟩ := hb z h
        rw [j3, c2 j j1, c1 j z j2]
      · rw [hb0 z h]
    refine ⟨col, fun y hy => ?_⟩
    obtain ⟨x, hx, rfl⟩ := List.mem_map.mp hy
    have := c3 x hx
    unfold ColX mapC at *
    dsimp only
    rw [cb, cb, cb, cb]
    exact this
  · obtain ⟨y, hy, rfl⟩ := List.mem_map.mp hx
    exact H.sg y hy
end VP

/-! ## VFJ -/
/-! the closing of a word: the law's own function -/
namespace VP
open PySem PySem.Spec PyProof.Rows L2 VV VP
theorem idx_ints {l : List Int} {k : Int} {n : Nat} {v : Int} (hk : k = n) (h : l[n]? = some v) : dIdx [intsD l, .int k] = some (.int v) := idx_at hk h
theorem lput_ints {l : List Int} {k : Int} {n : Nat} {v : Int} (hk : k = n) (h : n < l.length) : lPut (intsD l) (.int k) (.int v) = some (intsD (l.set n v)) := by
  subst hk
  unfold intsD lPut
  dsimp only
  have : ixN (l.map D.int).length (n : Int) = some n := by
    unfold ixN
    rw [if_pos (by omega), if_pos (by rw [List.length_map]; omega)]
    simp
  rw [this]
  simp [List.map_set]
theorem get2_m {N : List Int} {h : Int → D} {n : Int} {z : D} : dGet2 [mD N h, .int n, z] = some (if n ∈ N then h n else z) := by
  unfold mD
  rw [dGet2_s]
  show some ((lkD (N.map kI) (N.map h) (kI n)).getD z) = _
  by_cases hn : n ∈ N
  · rw [lk_m hn, if_pos hn]; rfl
  · rw [lk_no hn, if_neg hn]; rfl
theorem catT_s {l r : List D} (hl : D.isFlatL l = true) (hr : D.isFlatL r = true) (hlen : l.length + r.length ≤ 1000000) : dCatT [.tup l, .tup r] = some (.tup (l ++ r)) := if_pos ⟨hl, hr, hlen⟩
/-- a row behind its first -/
theorem tail4 {x : Cr} : dSl (crD x) (some 1) none = some (.tup [.int x.a, .int x.b, .int x.c, .int x.d]) := by
  unfold crD
  rw [dSl_t (by show ¬ (HT.sIx 5 0 (some 1) = 0 ∧ HT.sIx 5 5 none = 5); decide)]
  rfl
theorem chk_cr {x : Cr} : (some (crD x)).filter D.isTup = some (crD x) := rfl
theorem row_map {r t : Nat} {e2 : Ev} {ρ : List D} {x : Cr} {f : Int → Int} (hr : ρ[r]? = some (crD x)) (h : ∀ z ∈ [x.a, x.b, x.c, x.d], e2 (ρ.set t (.int z)) = some (.int (f z))) :
    (eP dCatT (aCons (eTup (aCons (eP dIdx (aCons (eVar r) (aCons (eC (.int 0)) aNil))) aNil)) (aCons (eChk D.isFlat (eP dTuple (aCons (eLc (iTupl (eSl (eChk D.isTup (eVar r)) (oSome (eC (.int 1))) oNone)) (gN t) cYes e2) aNil))) aNil))) ρ = some (crD (mapC f x)) := by
  have e1 : eLc (iTupl (eSl (eChk D.isTup (eVar r)) (oSome (eC (.int 1))) oNone)) (gN t) cYes e2 ρ = some (.lst ([x.a, x.b, x.c, x.d].map fun z => D.int (f z))) := by
    rw [eLc_s]
    have : iTupl (eSl (eChk D.isTup (eVar r)) (oSome (eC (.int 1))) oNone) ρ = some ([x.a, x.b, x.c, x.d].map D.int) := by
      simp [hr, chk_cr, tail4]
    rw [this]
    simp only [ob_some]
    rw [lcL_map D.int (fun z => D.int (f z)) _ fun z hz => ⟨_, rfl, rfl, h z hz⟩]
    rfl
  simp [hr, -eLc_s, e1, dTuple, Option.filter_some, catT_s, mapC]
  rfl
theorem closed_ok (n : Nat) (ls : List Int) (hn : n ≤ 100) (hls : ∀ l ∈ ls, l ≠ 0 ∧ l.natAbs < n) (hl : ls.length ≤ 100) :
    ∃ rs cs, f__law_closed [.int n, intsD ls] = some (.ret (drD rs cs)) ∧ Good rs cs ∧ rs.length ≤ n ∧ cs.length = ls.length ∧ (0 < n → 0 < rs.length + cs.length) := by
  have key : ∃ d, f__law_closed [.int n, intsD ls] = some (.ret d) ∧ ∃ rs cs, d = drD rs cs ∧ Good rs cs ∧ rs.length ≤ n ∧ cs.length = ls.length ∧ (0 < n → 0 < rs.length + cs.length) := by
    refine fn_ex (by simp) ?_
    show Go m__law_closed [.int n, intsD ls, .non, .non, .non, .non, .non, .non, .non, .non, .non, .non] _
    unfold m__law_closed
    have hrg : dRngL [.int n] = some (intsD (rg n)) := by
      unfold dRngL
      dsimp only
      rw [if_pos (by omega), rng0]
      simp [intsD, rg]
    refine Go.set (d := intsD (rg n)) (by simp [hrg]) ?_
    unfold m__law_closed_1
    refine Go.set (d := .lst []) (by simp) ?_
    unfold m__law_closed_2
    rw [go_seq]
    refine go_for (fun p : Int × Nat => D.tup [.int (p.2 : Nat), .int p.1]) ls.zipIdx (fun i ρ => ∃ here cs j4 j5 j6 j7, ρ = [.int n, intsD ls, intsD here, .lst (cs.map crD), j4, j5, j6, j7, .non, .non, .non, .non] ∧ Brd n i here cs) ?_ ⟨rg n, [], _, _, _, _, rfl, Brd.zero⟩ (fun i p ρ hi hR => ?_) (fun ρ' hR => ?_)
    · simp [intsD, List.mapIdx_eq_zipIdx_map, List.zipIdx_map]
    · obtain ⟨here, cs, j4, j5, j6, j7, rfl, hB⟩ := hR
      rw [List.getElem?_zipIdx] at hi
      obtain ⟨l, hi2, rfl⟩ := Option.map_eq_some_iff.mp hi
      simp only [Nat.zero_add]
      refine ⟨[.int n, intsD ls, intsD here, .lst (cs.map crD), .int (i : Nat), .int l, j6, j7, .non, .non, .non, .non], by simp, ?_⟩
      obtain ⟨hl0, hln⟩ := hls l (List.mem_of_getElem? hi2)
      have hil : i < ls.length := (List.getElem?_eq_some_iff.mp hi2).1
      obtain ⟨a, ha⟩ : ∃ a : Nat, l.natAbs = a + 1 := ⟨l.natAbs - 1, by omega⟩
      have hal : a + 1 < here.length := by rw [hB.ln]; omega
      have gp : here[a]? = some here[a] := List.getElem?_eq_getElem (by omega)
      have gq : here[a + 1]? = some here[a + 1] := List.getElem?_eq_getElem hal
      unfold m__law_closed_b1
      refine Go.set (d := .int (a : Nat)) (by simp [dAbs_s, ha]) ?_
      unfold m__law_closed_b1_1
      have m1 : dMul [.int 2, .int (i : Nat)] = some (.int (2 * i)) := dMul_s (cm (by decide) (by omega))
      refine Go.set (d := .tup [.int ((n : Int) + 2 * i), .int ((n : Int) + 2 * i + 1)]) (by simp [m1]) ?_
      unfold m__law_closed_b1_2
      have d0 := idx_ints (k := (a : Nat)) rfl gp
      have d1 := idx_ints (k := (a : Nat) + 1) (n := a + 1) rfl gq
      generalize hp : here[a] = p at *
      generalize hq : here[a + 1] = q at *
      have fin : ∀ x : Cr, (x = ⟨1, q, n + 2 * i, p, n + 2 * i + 1⟩ ∨ x = ⟨-1, p, n + 2 * i + 1, q, n + 2 * i⟩) →
          Go m__law_closed_b1_3 [.int n, intsD ls, intsD here, .lst ((cs ++ [x]).map crD), .int (i : Nat), .int l, .int (a : Nat), .tup [.int ((n : Int) + 2 * i), .int ((n : Int) + 2 * i + 1)], .non, .non, .non, .non]
            fun o => ∃ ρ2, (o = .nx ρ2 ∨ o = .ct ρ2) ∧ ∃ here cs j4 j5 j6 j7, ρ2 = [.int n, intsD ls, intsD here, .lst (cs.map crD), j4, j5, j6, j7, .non, .non, .non, .non] ∧ Brd n (i + 1) here cs := fun x hx => by
        unfold m__law_closed_b1_3
        have e1 := lput_ints (l := here) (v := (n : Int) + 2 * i) (k := (a : Nat)) rfl (by omega)
        have e2 := lput_ints (l := here.set a ((n : Int) + 2 * i)) (v := (n : Int) + 2 * i + 1) (k := (a : Nat) + 1) (n := a + 1) rfl (by rw [List.length_set]; exact hal)
        refine ⟨_, put2_s (a := .int ((n : Int) + 2 * i)) (b := .int ((n : Int) + 2 * i + 1)) rfl (gPut_s (k := .int (a : Nat)) rfl rfl e1) (gPut_s (k := .int ((a : Nat) + 1)) (by simp) rfl e2), ?_⟩
        exact ⟨_, .inl rfl, _, cs ++ [x], _, _, _, _, rfl, hB.step gp gq hx⟩
      have hcl : (cs.map crD).length < 1000000 := by rw [List.length_map, hB.cn]; omega
      refine Go.ite (p := (0 : Int) < l) (by simp) (fun h => ?_) (fun h => ?_)
      · unfold m__law_closed_c1
        refine Go.mut1 (y := crD ⟨1, q, n + 2 * i, p, n + 2 * i + 1⟩) (x := .lst (cs.map crD)) (z := .lst ((cs ++ [Cr.mk 1 q (n + 2 * i) p (n + 2 * i + 1)]).map crD)) (by simp [d0, d1, Option.filter_some, crD]) rfl (by rw [dPush_s hcl]; simp) ?_
        rw [cont_nx]
        exact fin _ (.inl rfl)
      · unfold m__law_closed_c2
        refine Go.mut1 (y := crD ⟨-1, p, n + 2 * i + 1, q, n + 2 * i⟩) (x := .lst (cs.map crD)) (z := .lst ((cs ++ [Cr.mk (-1) p (n + 2 * i + 1) q (n + 2 * i)]).map crD)) (by simp [d0, d1, Option.filter_some, crD]) rfl (by rw [dPush_s hcl]; simp) ?_
        rw [cont_nx]
        exact fin _ (.inr rfl)
    obtain ⟨here, cs, j4, j5, j6, j7, rfl, hB⟩ := hR
    rw [cont_nx]
    have hB2 : Brd n ls.length here cs := by simpa using hB
    clear hB
    have hhn : here.Nodup := (List.nodup_append.mp (hB2.ih.nodup_iff.mpr nd_rg)).2.1
    unfold m__law_closed_3
    refine Go.set (d := mD [] fun v => .int (here.idxOf v : Nat)) (by rfl) ?_
    unfold m__law_closed_4
    rw [go_seq]
    refine go_for (fun i : Nat => D.int i) (List.range n) (fun i ρ => ∃ j4, ρ = [.int n, intsD ls, intsD here, .lst (cs.map crD), j4, j5, j6, j7, mD (here.take i) fun v => .int (here.idxOf v : Nat), .non, .non, .non]) ?_ ⟨j4, by simp⟩ (fun i k ρ hi hR => ?_) (fun ρ' hR => ?_)
    · rw [iRng1_s (k := n) (by simp) (by omega) (by omega), ← rng0]; rfl
    · obtain ⟨hkn, rfl⟩ := rng_at hi
      obtain ⟨j4, rfl⟩ := hR
      have hkl : k < here.length := by rw [hB2.ln]; exact hkn
      have gk := List.getElem?_eq_getElem hkl
      refine ⟨[.int n, intsD ls, intsD here, .lst (cs.map crD), .int (k : Nat), j5, j6, j7, mD (here.take k) fun v => .int (here.idxOf v : Nat), .non, .non, .non], by simp, ?_⟩
      unfold m__law_closed_b2
      have d0 := idx_ints (k := (k : Nat)) rfl gk
      have hno : here[k] ∉ here.take k := fun hm => by
        obtain ⟨j, hj⟩ := List.getElem?_of_mem hm
        rw [List.getElem?_take] at hj
        split at hj
        · rename_i hjk
          have := (List.getElem?_inj (i := j) (j := k) (by omega) hhn).mp (by rw [hj, gk])
          omega
        · cases hj
      have hix : here.idxOf here[k] = k := hhn.idxOf_getElem k hkl
      refine Go.put1 (v := .int (k : Nat)) (x := .int here[k]) (y := mD (here.take k) fun v => .int (here.idxOf v : Nat)) (z := mD (here.take k ++ [here[k]]) fun v => .int (here.idxOf v : Nat)) (by simp) (by simp [d0, Option.filter_some]) rfl (put_out hno (by rw [List.length_take]; omega) (by rw [hix])) ?_
      rw [← take_snoc gk]
      exact ⟨_, .inl rfl, _, rfl⟩
    obtain ⟨j4, rfl⟩ := hR
    rw [List.length_range, cont_nx]
    have ht : here.take n = here := List.take_of_length_le (by rw [hB2.ln]; omega)
    rw [ht]
    unfold m__law_closed_5
    refine Go.set (d := intsD (ringsF n here)) ?_ ?_
    · rw [eLc_s, iRng1_s (k := n) (by simp) (by omega) (by omega), rng0]
      simp only [ob_some, Int.toNat_natCast]
      rw [lcL_filter (fun i : Nat => D.int i) (fun i : Nat => decide (here[i]? = some (i : Int))) (fun i : Nat => D.int i)]
      · simp only [ob_some, Option.some.injEq]
        unfold intsD ringsF rg
        rw [List.filter_map, List.map_map]
        congr 2
      · intro i hi
        have hil : i < here.length := by rw [hB2.ln]; exact List.mem_range.mp hi
        have gi := List.getElem?_eq_getElem hil
        have d0 := idx_ints (k := (i : Nat)) rfl gi
        refine ⟨[.int n, intsD ls, intsD here, .lst (cs.map crD), .int (i : Nat), j5, j6, j7, mD here fun v => .int (here.idxOf v : Nat), .non, .non, .non], rfl, ?_, fun _ => rfl⟩
        simp [d0, Option.filter_some, gi, beq_dec]
    · unfold m__law_closed_6
      refine Go.ret (d := drD (ringsF n here) (cs.map (mapC (backF here)))) ?_ ⟨_, rfl, _, _, rfl, hB2.close, ?_, ?_, fun h0 => ?_⟩
      · have e : eLc (iLst (eVar 3)) (gF (gN 10)) cYes m__law_closed_e1 [.int n, intsD ls, intsD here, .lst (cs.map crD), j4, j5, j6, j7, mD here fun v => .int (here.idxOf v : Nat), intsD (ringsF n here), .non, .non] = some (.lst ((cs.map (mapC (backF here))).map crD)) := by
          rw [eLc_s]
          simp only [iLst_s, eVar_s, List.getElem?_cons_succ, List.getElem?_cons_zero, ob_some, asL_l]
          rw [lcL_map crD (fun x => crD (mapC (backF here) x)) _ fun x hx => ⟨[.int n, intsD ls, intsD here, .lst (cs.map crD), j4, j5, j6, j7, mD here fun v => .int (here.idxOf v : Nat), intsD (ringsF n here), crD x, .non], by simp, rfl, ?_⟩]
          · simp
          · unfold m__law_closed_e1
            refine row_map rfl fun z hz => ?_
            unfold m__law_closed_e2
            simp [get2_m, backF]
            split <;> rfl
        simp [-eLc_s, e, drD]
      · unfold ringsF
        refine Nat.le_trans (List.length_filter_le _ _) ?_
        simp [rg]
      · rw [List.length_map, hB2.cn]
      · rw [List.length_map, hB2.cn]
        by_cases hz : ls.length = 0
        · have h1 : 0 < here.length := by rw [hB2.ln]; exact h0
          have hg := List.getElem?_eq_getElem h1
          have hr := mem_rg.mp (hB2.ih.mem_iff.mp (List.mem_append_right _ (List.mem_of_getElem? hg)))
          have := hB2.st 0 _ hg (by omega)
          rw [this] at hg
          have : (0 : Int) ∈ ringsF n here := mem_ringsF.mpr ⟨by omega, hg⟩
          have := List.length_pos_of_mem this
          omega
        · omega
  obtain ⟨d, h, rs, cs, rfl, h2⟩ := key
  exact ⟨rs, cs, h, h2⟩
end VP

/-! ## VFK -/
/-! a curl put in, plain -/
namespace VP
open PySem PySem.Spec PyProof.Rows L2 VV VP
def replF (e v z : Int) : Int := if z = e then v else z
def moveC (e v : Int) (x : Cr) : Cr := ⟨x.s, replF e v x.a, x.b, replF e v x.c, x.d⟩
theorem insC_move {e v : Int} {cs : List Cr} : insC (cs.map (moveC e v)) = (insC cs).map (replF e v) := by
  unfold insC
  induction cs with
  | nil => rfl
  | cons x r ih => simp only [List.map_cons, List.flatMap_cons, List.map_append, ih]; rfl
theorem outsC_move {e v : Int} {cs : List Cr} : outsC (cs.map (moveC e v)) = outsC cs := by
  unfold outsC
  induction cs with
  | nil => rfl
  | cons x r ih => simp only [List.map_cons, List.flatMap_cons, ih]; rfl
theorem Good.curl {rs : List Int} {cs : List Cr} (g : Good rs cs) {e loop s : Int} {x : Cr} (he : e ∈ rs ++ insC cs) (hloop : ∀ z ∈ rs ++ insC cs, z < loop) (hs : s = 1 ∨ s = -1)
    (hx : x = ⟨s, e, loop, loop, if e ∈ rs then e else loop + 1⟩ ∨ x = ⟨s, loop, if e ∈ rs then e else loop + 1, e, loop⟩) :
    Good (rs.filter fun z => decide (z ≠ e)) (cs.map (moveC e (if e ∈ rs then e else loop + 1)) ++ [x]) := by
  obtain ⟨n1, n2, n3⟩ := List.nodup_append.mp g.nd
  have le := hloop e he
  have lin : ∀ z ∈ insC cs, z < loop := fun z hz => hloop z (List.mem_append_right _ hz)
  have lout : ∀ z ∈ outsC cs, z < loop := fun z hz => lin z (g.op.mem_iff.mp hz)
  have lrs : ∀ z ∈ rs, z < loop := fun z hz => hloop z (List.mem_append_left _ hz)
  generalize hlast : (if e ∈ rs then e else loop + 1) = last at *
  have hl2 : (e ∈ rs ∧ last = e ∧ e ∉ insC cs) ∨ (e ∉ rs ∧ last = loop + 1 ∧ e ∈ insC cs) := by
    by_cases h : e ∈ rs
    · left
      rw [if_pos h] at hlast
      exact ⟨h, hlast.symm, fun hi => n3 e h e hi rfl⟩
    · right
      rw [if_neg h] at hlast
      exact ⟨h, hlast.symm, (List.mem_append.mp he).elim (fun z => absurd z h) id⟩
  have rmem : ∀ z, z ∈ (insC cs).map (replF e last) ↔ (z ∈ insC cs ∧ z ≠ e) ∨ (z = last ∧ e ∈ insC cs) := fun z => by
    rw [List.mem_map]
    unfold replF
    constructor
    · rintro ⟨w, hw, rfl⟩
      by_cases h : w = e
      · subst h; rw [if_pos rfl]; exact .inr ⟨rfl, hw⟩
      · rw [if_neg h]; exact .inl ⟨hw, h⟩
    · rintro (⟨h1, h2⟩ | ⟨rfl, h⟩)
      · exact ⟨z, h1, if_neg h2⟩
      · exact ⟨e, h, if_pos rfl⟩
  have rnd : ((insC cs).map (replF e last)).Nodup := by
    refine List.pairwise_map.mpr (List.Pairwise.imp_of_mem ?_ n2)
    intro a b ha hb hne he'
    have la := lin a ha
    have lb := lin b hb
    unfold replF at he'
    split at he' <;> split at he'
    · omega
    · rename_i h1 h2; subst h1
      rcases hl2 with ⟨_, _, h⟩ | ⟨_, h, _⟩
      · exact h ha
      · omega
    · rename_i h1 h2; subst h2
      rcases hl2 with ⟨_, _, h⟩ | ⟨_, h, _⟩
      · exact h hb
      · omega
    · exact hne he'
  have xi : ∀ z, z ∈ [x.a, x.c] ↔ z = e ∨ z = loop := fun z => by rcases hx with rfl | rfl <;> simp [or_comm]
  have xo : ∀ z, z ∈ [x.b, x.d] ↔ z = loop ∨ z = last := fun z => by rcases hx with rfl | rfl <;> simp [or_comm]
  have hll : loop ≠ last := by rcases hl2 with ⟨_, h, _⟩ | ⟨_, h, _⟩ <;> omega
  have xin : [x.a, x.c].Nodup := by rcases hx with rfl | rfl <;> simp <;> omega
  have xon : [x.b, x.d].Nodup := by rcases hx with rfl | rfl <;> simp <;> omega
  have innd : (insC (cs.map (moveC e last) ++ [x])).Nodup := by
    rw [insC_app, insC_move]
    refine List.nodup_append.mpr ⟨rnd, xin, fun a ha b hb e' => ?_⟩
    subst e'
    rcases (xi a).mp hb with rfl | rfl
    · rcases (rmem _).mp ha with ⟨_, h⟩ | ⟨h, h'⟩
      · exact h rfl
      · rcases hl2 with ⟨_, _, q⟩ | ⟨_, q, _⟩
        · exact q h'
        · omega
    · rcases (rmem _).mp ha with ⟨h, _⟩ | ⟨h, h'⟩
      · have := lin _ h; omega
      · exact hll h
  refine ⟨?_, ?_, ?_, fun y hy => ?_⟩
  · refine List.nodup_append.mpr ⟨n1.filter _, innd, fun a ha b hb e' => ?_⟩
    subst e'
    obtain ⟨ha1, ha2⟩ := List.mem_filter.mp ha
    have ha2 : a ≠ e := by simpa using ha2
    have la := lrs a ha1
    rw [insC_app, insC_move, List.mem_append] at hb
    rcases hb with hb | hb
    · rcases (rmem a).mp hb with ⟨h, _⟩ | ⟨h, h'⟩
      · exact n3 a ha1 a h rfl
      · rcases hl2 with ⟨_, _, q⟩ | ⟨_, q, _⟩
        · exact q h'
        · omega
    · rcases (xi a).mp hb with rfl | rfl
      · exact ha2 rfl
      · omega
  · refine (List.perm_ext_iff_of_nodup ?_ innd).mpr fun z => ?_
    · rw [outsC_app, outsC_move]
      refine List.nodup_append.mpr ⟨g.op.nodup_iff.mpr n2, xon, fun a ha b hb e' => ?_⟩
      subst e'
      have la := lout a ha
      have hi := g.op.mem_iff.mp ha
      rcases (xo a).mp hb with rfl | rfl
      · omega
      · rcases hl2 with ⟨_, q, q'⟩ | ⟨_, q, _⟩
        · rw [q] at hi; exact q' hi
        · omega
    · rw [outsC_app, outsC_move, insC_app, insC_move, List.mem_append, List.mem_append, rmem, xi, xo, g.op.mem_iff]
      constructor
      · rintro (h | h | h)
        · by_cases hz : z = e
          · exact .inr (.inl hz)
          · exact .inl (.inl ⟨h, hz⟩)
        · exact .inr (.inr h)
        · rcases hl2 with ⟨_, q, _⟩ | ⟨_, _, q⟩
          · exact .inr (.inl (by rw [h, q]))
          · exact .inl (.inr ⟨h, q⟩)
      · rintro ((⟨h, _⟩ | ⟨h, _⟩) | h | h)
        · exact .inl h
        · exact .inr (.inr h)
        · rcases hl2 with ⟨_, q, _⟩ | ⟨_, _, q⟩
          · exact .inr (.inr (by rw [h, q]))
          · exact .inl (by rw [h]; exact q)
        · exact .inr (.inl h)
  · obtain ⟨col, hc⟩ := g.col
    have hcl := g.cl
    let c2 : Int → Bool := fun z => if z = loop then !col e else if z = last then col e else col z
    have cl : c2 loop = !col e := if_pos rfl
    have ct : c2 last = col e := by
      show (if last = loop then _ else if last = last then _ else _) = _
      rw [if_neg (Ne.symm hll), if_pos rfl]
    have co : ∀ z, z < loop → c2 z = col z := fun z hz => by
      show (if z = loop then _ else if z = last then _ else _) = _
      rw [if_neg (by omega)]
      split
      · rename_i h
        rcases hl2 with ⟨_, q, _⟩ | ⟨_, q, _⟩
        · rw [h, q]
        · omega
      · rfl
    have cr : ∀ z, z < loop → c2 (replF e last z) = col z := fun z hz => by
      unfold replF
      split
      · rename_i h; rw [h, ct]
      · exact co z hz
    refine ⟨c2, fun y hy => ?_⟩
    rcases List.mem_append.mp hy with hy | hy
    · obtain ⟨w, hw, rfl⟩ := List.mem_map.mp hy
      have := hc w hw
      unfold ColX moveC at *
      dsimp only
      rw [cr _ (lin w.a (List.mem_flatMap.mpr ⟨w, hw, by simp⟩)), cr _ (lin w.c (List.mem_flatMap.mpr ⟨w, hw, by simp⟩)), co _ (lout w.b (List.mem_flatMap.mpr ⟨w, hw, by simp⟩)), co _ (lout w.d (List.mem_flatMap.mpr ⟨w, hw, by simp⟩))]
      exact this
    · obtain rfl := List.mem_singleton.mp hy
      have ce := co e le
      unfold ColX
      rcases hx with rfl | rfl <;> dsimp only <;> rw [cl, ct, ce] <;> simp
  · rcases List.mem_append.mp hy with hy | hy
    · obtain ⟨w, hw, rfl⟩ := List.mem_map.mp hy
      exact g.sg w hw
    · obtain rfl := List.mem_singleton.mp hy
      rcases hx with rfl | rfl <;> exact hs
end VP

/-! ## VFL -/
/-! a curl: the law's own function -/
namespace VP
open PySem PySem.Spec PyProof.Rows L2 VV VP
def allC (cs : List Cr) : List Int := cs.flatMap fun x => [x.a, x.b, x.c, x.d]
theorem allC_len {cs : List Cr} : (allC cs).length = 4 * cs.length := by
  induction cs with
  | nil => rfl
  | cons x r ih => unfold allC at ih ⊢; simp [List.flatMap_cons, ih]; omega
theorem allC_take {cs : List Cr} {i : Nat} {x : Cr} (h : cs[i]? = some x) : allC (cs.take (i + 1)) = allC (cs.take i) ++ [x.a, x.b, x.c, x.d] := by
  unfold allC
  rw [List.take_add_one, h]
  simp
theorem Good.all {rs : List Int} {cs : List Cr} (g : Good rs cs) {z : Int} : z ∈ rs ++ allC cs ↔ z ∈ rs ++ insC cs := by
  have hc := g.cl
  simp only [List.mem_append]
  constructor
  · rintro (h | h)
    · exact .inl h
    · obtain ⟨x, hx, h⟩ := List.mem_flatMap.mp h
      have h1 := hc x hx
      simp only [List.mem_append] at h1
      simp only [List.mem_cons, List.not_mem_nil, or_false] at h
      rcases h with rfl | rfl | rfl | rfl
      · exact .inr (List.mem_flatMap.mpr ⟨x, hx, by simp⟩)
      · exact h1.1
      · exact .inr (List.mem_flatMap.mpr ⟨x, hx, by simp⟩)
      · exact h1.2
  · rintro (h | h)
    · exact .inl h
    · obtain ⟨x, hx, h⟩ := List.mem_flatMap.mp h
      simp only [List.mem_cons, List.not_mem_nil, or_false] at h
      rcases h with rfl | rfl
      · exact .inr (List.mem_flatMap.mpr ⟨x, hx, by simp⟩)
      · exact .inr (List.mem_flatMap.mpr ⟨x, hx, by simp⟩)
theorem intsOf_ints {l : List Int} : intsOf (l.map D.int) = some l := by
  induction l with
  | nil => rfl
  | cons a r ih => simp [intsOf, ih]
theorem srtSet_len (ns : List Int) : (srtSet ns).length ≤ ns.length := by
  have ins_len : ∀ (k : Int) (l : List Int), (insS k l).length ≤ l.length + 1 := fun k l => by
    induction l with
    | nil => simp [insS]
    | cons x r ih =>
      unfold insS
      split
      · simp
      · split
        · simp
        · simp; omega
  induction ns with
  | nil => simp [srtSet]
  | cons k r ih =>
    have := ins_len k (srtSet r)
    show (insS k (srtSet r)).length ≤ _
    simp; omega
theorem sortSet_s {ns : List Int} (h : ns.length < 64) : dSortSet [intsD ns] = some (intsD (srtSet ns)) := by
  unfold dSortSet intsD
  dsimp only
  rw [intsOf_ints]
  have := srtSet_len ns
  simp only [Option.bind_some]
  rw [if_pos (by omega)]
theorem lenSet_s {ns : List Int} (h : ns.length < 64) : dLenSet [intsD ns] = some (.int (srtSet ns).length) := by
  unfold dLenSet intsD
  dsimp only
  rw [intsOf_ints]
  simp only [Option.bind_some]
  rw [if_pos (by omega)]
theorem in_ints {l : List Int} {e : Int} : dInX [.int e, intsD l] = some (.bl (decide (e ∈ l))) := by
  unfold dInX intsD
  dsimp only
  have h1 : D.shd (.int e) = true := Ok.int.shd (by decide)
  have h2 : canL (l.map D.int) = true := by
    unfold canL
    rw [toPL_map]
    exact canLayAll_map _ _ fun a _ => by simp [D.toP, PyData.canLay0]
  rw [h1, h2]
  simp only [Bool.and_self, if_true, Option.some.injEq, D.bl.injEq]
  unfold inL
  rw [List.any_map]
  rw [Bool.eq_iff_iff, List.any_eq_true, decide_eq_true_eq]
  constructor
  · rintro ⟨x, hx, e'⟩
    have := Eqv.int x e
    simp only [Function.comp] at e'
    rw [this] at e'
    have := of_decide_eq_true e'
    subst this; exact hx
  · intro h
    exact ⟨e, h, by simp only [Function.comp]; rw [Eqv.int e e]; simp⟩
theorem maxL_s {l : List Int} (h : l ≠ []) : ∃ m, dMaxL [intsD l] = some (.int m) ∧ ∀ z ∈ l, z ≤ m := by
  have hm : l.max? ≠ none := by rw [ne_eq, List.max?_eq_none_iff]; exact h
  obtain ⟨m, hm⟩ := Option.ne_none_iff_exists'.mp hm
  refine ⟨m, ?_, fun z hz => ?_⟩
  · unfold dMaxL intsD
    simp only [itemsOf]
    show (do let a ← intsOf (l.map D.int); let b ← a.max?; some (D.int b)) = _
    rw [intsOf_ints]
    show (do let b ← l.max?; some (D.int b)) = _
    rw [hm]; rfl
  · exact (List.max?_eq_some_iff.mp hm).2 z hz
theorem list4 {x : Cr} : dList [.tup [.int x.a, .int x.b, .int x.c, .int x.d]] = some (intsD [x.a, x.b, x.c, x.d]) := rfl
theorem curl_ok {rs : List Int} {cs : List Cr} (g : Good rs cs) (cell : Int) (h0 : 0 < rs.length + cs.length) (hl : rs.length + 4 * cs.length < 60) :
    ∃ rs' cs', f__law_curl [drD rs cs, .int cell] = some (.ret (drD rs' cs')) ∧ Good rs' cs' ∧ rs'.length ≤ rs.length ∧ cs'.length = cs.length + 1 := by
  have key : ∃ d, f__law_curl [drD rs cs, .int cell] = some (.ret d) ∧ ∃ rs' cs', d = drD rs' cs' ∧ Good rs' cs' ∧ rs'.length ≤ rs.length ∧ cs'.length = cs.length + 1 := by
    refine fn_ex (by simp) ?_
    show Go m__law_curl [drD rs cs, .int cell, .non, .non, .non, .non, .non, .non, .non, .non, .non, .non, .non, .non, .non] _
    unfold m__law_curl
    refine Go.asg (d := drD rs cs) (by simp) (ρ' := [drD rs cs, .int cell, intsD rs, .lst (cs.map crD), .non, .non, .non, .non, .non, .non, .non, .non, .non, .non, .non]) (by simp [drD]) ?_
    unfold m__law_curl_1
    refine Go.set (d := intsD rs) (by simp [Option.filter_some, intsD, dList]) ?_
    unfold m__law_curl_2
    rw [go_seq]
    refine go_for crD cs (fun i ρ => ∃ j, ρ = [drD rs cs, .int cell, intsD rs, .lst (cs.map crD), intsD (rs ++ allC (cs.take i)), j, .non, .non, .non, .non, .non, .non, .non, .non, .non]) (by simp) ⟨.non, by simp [allC]⟩ (fun i x ρ hi hR => ?_) (fun ρ' hR => ?_)
    · obtain ⟨j, rfl⟩ := hR
      refine ⟨[drD rs cs, .int cell, intsD rs, .lst (cs.map crD), intsD (rs ++ allC (cs.take i)), crD x, .non, .non, .non, .non, .non, .non, .non, .non, .non], by simp, ?_⟩
      unfold m__law_curl_b1
      have hal := @allC_len (cs.take i)
      rw [List.length_take] at hal
      have hc := catF_ints (l := rs ++ allC (cs.take i)) (r := [x.a, x.b, x.c, x.d]) (by simp; omega)
      refine Go.set1 (d := intsD (rs ++ allC (cs.take i) ++ [x.a, x.b, x.c, x.d])) (by simp [chk_cr, tail4, list4, hc]) ⟨_, .inl rfl, crD x, ?_⟩
      rw [allC_take hi, List.append_assoc]
      rfl
    obtain ⟨j, rfl⟩ := hR
    rw [List.take_length, cont_nx]
    have hal := @allC_len cs
    have hnl : (rs ++ allC cs).length < 64 := by rw [List.length_append, hal]; omega
    have hne : rs ++ allC cs ≠ [] := fun z => by
      have := congrArg List.length z
      rw [List.length_append, hal, List.length_nil] at this
      omega
    generalize hns : rs ++ allC cs = ns at *
    have hspos : 0 < (srtSet ns).length := by
      cases ns with
      | nil => exact absurd rfl hne
      | cons a r => exact List.length_pos_of_mem (mem_srtSet.mpr List.mem_cons_self)
    unfold m__law_curl_3
    obtain ⟨e, he, ee⟩ := idx_mod (srtSet ns) (srtSet ns).length cell rfl hspos
    have hen : e ∈ ns := mem_srtSet.mp he
    have ss := sortSet_s hnl
    have sl := lenSet_s hnl
    have hp0 : (0 : Int) < ((srtSet ns).length : Int) := by omega
    have ee' : dIdx [intsD (srtSet ns), .int (cell % ((srtSet ns).length : Int))] = some (.int e) := ee
    refine Go.set (d := .int e) (by simp [-dIdx_l, ss, sl, dMod_s hp0, ee', Option.filter_some]) ?_
    unfold m__law_curl_4
    obtain ⟨m, hm, hmax⟩ := maxL_s hne
    refine Go.set (d := .int (m + 1)) (by simp [hm]) ?_
    unfold m__law_curl_5
    have inr := @in_ints rs e
    refine Go.set (d := .int (if e ∈ rs then e else m + 1 + 1)) ?_ ?_
    · by_cases h : e ∈ rs
      · simp [inr, h, Option.filter_some]
      · simp [inr, h, Option.filter_some]
    generalize hlast : (if e ∈ rs then e else m + 1 + 1) = last
    unfold m__law_curl_6
    obtain ⟨s, hs, es⟩ := idx_mod [1, -1] 2 (cell / 16) rfl (by decide)
    have hs2 : s = 1 ∨ s = -1 := by simpa using hs
    have es' : dIdx [.lst [.int 1, .int (-1)], .int (cell / 16 % 2)] = some (.int s) := es
    have d1 : dDiv [.int cell, .int 16] = some (.int (cell / 16)) := dDiv_s (cdv (by decide) (by decide))
    have d2 : dDiv [.int cell, .int 32] = some (.int (cell / 32)) := dDiv_s (cdv (by decide) (by decide))
    refine Go.set (d := .int s) (by simp [-dIdx_l, d1, es', Option.filter_some]) ?_
    unfold m__law_curl_7
    obtain ⟨x, hx, ex⟩ : ∃ x : Cr, (x = ⟨s, e, m + 1, m + 1, last⟩ ∨ x = ⟨s, m + 1, last, e, m + 1⟩) ∧ dIdx [.lst [crD ⟨s, e, m + 1, m + 1, last⟩, crD ⟨s, m + 1, last, e, m + 1⟩], .int (cell / 32 % 2)] = some (crD x) := by
      have h2 : cell / 32 % 2 = 0 ∨ cell / 32 % 2 = 1 := by omega
      rcases h2 with h | h
      · exact ⟨_, .inl rfl, by rw [h]; simp⟩
      · exact ⟨_, .inr rfl, by rw [h]; simp⟩
    have ex' : dIdx [.lst [.tup [.int s, .int e, .int (m + 1), .int (m + 1), .int last], .tup [.int s, .int (m + 1), .int last, .int e, .int (m + 1)]], .int (cell / 32 % 2)] = some (crD x) := ex
    refine Go.set (d := crD x) (by simp [-dIdx_l, d2, ex', Option.filter_some]) ?_
    unfold m__law_curl_8
    refine Go.set (d := .lst []) (by simp) ?_
    unfold m__law_curl_9
    rw [go_seq]
    refine go_for crD cs (fun i ρ => ∃ j5 j12, ρ = [drD rs cs, .int cell, intsD rs, .lst (cs.map crD), intsD ns, j5, .int e, .int (m + 1), .int last, .int s, crD x, .lst (((cs.take i).map (moveC e last)).map crD), j12, .non, .non]) (by simp) ⟨_, .non, by simp; rfl⟩ (fun i y ρ hi hR => ?_) (fun ρ' hR => ?_)
    · obtain ⟨j5, j12, rfl⟩ := hR
      refine ⟨[drD rs cs, .int cell, intsD rs, .lst (cs.map crD), intsD ns, crD y, .int e, .int (m + 1), .int last, .int s, crD x, .lst (((cs.take i).map (moveC e last)).map crD), j12, .non, .non], by simp, ?_⟩
      unfold m__law_curl_b2
      have elc : eLc (iTupl (eTup (aCons (eP dIdx (aCons (eVar 5) (aCons (eC (.int 1)) aNil))) (aCons (eP dIdx (aCons (eVar 5) (aCons (eC (.int 3)) aNil))) aNil)))) (gN 13) cYes m__law_curl_e1 [drD rs cs, .int cell, intsD rs, .lst (cs.map crD), intsD ns, crD y, .int e, .int (m + 1), .int last, .int s, crD x, .lst (((cs.take i).map (moveC e last)).map crD), j12, .non, .non] = some (intsD [replF e last y.a, replF e last y.c]) := by
        rw [eLc_s]
        have : iTupl (eTup (aCons (eP dIdx (aCons (eVar 5) (aCons (eC (.int 1)) aNil))) (aCons (eP dIdx (aCons (eVar 5) (aCons (eC (.int 3)) aNil))) aNil))) [drD rs cs, .int cell, intsD rs, .lst (cs.map crD), intsD ns, crD y, .int e, .int (m + 1), .int last, .int s, crD x, .lst (((cs.take i).map (moveC e last)).map crD), j12, .non, .non] = some ([y.a, y.c].map D.int) := by
          simp
        rw [this]
        simp only [ob_some]
        rw [lcL_map D.int (fun z => D.int (replF e last z)) _ fun z hz => ⟨_, rfl, rfl, ?_⟩]
        · rfl
        · unfold m__law_curl_e1 replF
          by_cases h : z = e
          · simp [h, Option.filter_some]
          · simp [h, Option.filter_some, beq_dec]
      refine Go.set (d := intsD [replF e last y.a, replF e last y.c]) elc ?_
      unfold m__law_curl_b2_1
      refine Go.mut1 (y := crD (moveC e last y)) (x := .lst (((cs.take i).map (moveC e last)).map crD)) (z := .lst (((cs.take (i + 1)).map (moveC e last)).map crD)) ?_ rfl ?_ ⟨_, .inl rfl, _, _, rfl⟩
      · simp [intsD, Option.filter_some, moveC]
        rfl
      · rw [dPush_s (by rw [List.length_map, List.length_map, List.length_take]; omega), take_snoc hi]
        simp
    obtain ⟨j5, j12, rfl⟩ := hR
    rw [List.take_length, cont_nx]
    unfold m__law_curl_10
    refine Go.ret (d := drD (rs.filter fun z => decide (z ≠ e)) (cs.map (moveC e last) ++ [x])) ?_ ⟨_, rfl, _, _, rfl, ?_, List.length_filter_le _ _, by simp⟩
    · have elc : eLc (iLst (eVar 2)) (gF (gN 14)) (tOf (eP dNe (aCons (eVar 14) (aCons (eVar 6) aNil)))) (eVar 14) [drD rs cs, .int cell, intsD rs, .lst (cs.map crD), intsD ns, j5, .int e, .int (m + 1), .int last, .int s, crD x, .lst ((cs.map (moveC e last)).map crD), j12, .non, .non] = some (intsD (rs.filter fun z => decide (z ≠ e))) := by
        rw [eLc_s]
        have : iLst (eVar 2) [drD rs cs, .int cell, intsD rs, .lst (cs.map crD), intsD ns, j5, .int e, .int (m + 1), .int last, .int s, crD x, .lst ((cs.map (moveC e last)).map crD), j12, .non, .non] = some (rs.map D.int) := by simp [intsD]
        rw [this]
        simp only [ob_some]
        rw [lcL_filter D.int (fun z => decide (z ≠ e)) D.int _ fun z hz => ⟨_, rfl, ?_, fun _ => rfl⟩]
        · rfl
        · simp [bne, beq_dec]
      have hcat : dCatF [.lst ((cs.map (moveC e last)).map crD), .lst [crD x]] = some (.lst ((cs.map (moveC e last) ++ [x]).map crD)) := by
        unfold dCatF
        dsimp only
        rw [if_pos ?_]
        · simp
        · have : D.isFlatL ((cs.map (moveC e last)).map crD) = true := by
            rw [isFlatL_all, List.all_eq_true]
            intro d hd
            obtain ⟨w, _, rfl⟩ := List.mem_map.mp hd
            exact cr_flat
          simp only [this, flL_cons, flL_nil, cr_flat]
          simp
          omega
      simp only [eTup_s, aCons_s, aNil_s, eP_s, eLst_s, eVar_s, elc, ob_some, List.getElem?_cons_succ, List.getElem?_cons_zero, hcat]
      rfl
    · have hx' : x = ⟨s, e, m + 1, m + 1, if e ∈ rs then e else m + 1 + 1⟩ ∨ x = ⟨s, m + 1, if e ∈ rs then e else m + 1 + 1, e, m + 1⟩ := by rw [hlast]; exact hx
      have := g.curl (e := e) (loop := m + 1) (s := s) (x := x) (g.all.mp (by rw [hns]; exact hen)) (fun z hz => ?_) hs2 hx'
      · rw [hlast] at this
        exact this
      · have h1 := g.all.mpr hz
        rw [hns] at h1
        have := hmax z h1
        omega
  obtain ⟨d, h, rs', cs', rfl, h2⟩ := key
  exact ⟨rs', cs', h, h2⟩
end VP

/-! ## VFM -/
/-! other names, other orders; the drawing of a law -/
namespace VP
open PySem PySem.Spec PyProof.Rows L2 VV VP
theorem Good.perm {rs rs' : List Int} {cs cs' : List Cr} (g : Good rs cs) (h1 : rs'.Perm rs) (h2 : cs'.Perm cs) : Good rs' cs' := by
  have e1 : (insC cs').Perm (insC cs) := h2.flatMap_right _
  have e2 : (outsC cs').Perm (outsC cs) := h2.flatMap_right _
  obtain ⟨col, hc⟩ := g.col
  exact ⟨((h1.append e1).nodup_iff).mpr g.nd, e2.trans (g.op.trans e1.symm), ⟨col, fun x hx => hc x (h2.mem_iff.mp hx)⟩, fun x hx => g.sg x (h2.mem_iff.mp hx)⟩
theorem Good.rename {rs : List Int} {cs : List Cr} (g : Good rs cs) {φ : Int → Int} (inj : ∀ a ∈ rs ++ allC cs, ∀ b ∈ rs ++ allC cs, φ a = φ b → a = b) : Good (rs.map φ) (cs.map (mapC φ)) := by
  have mem : ∀ z ∈ rs ++ insC cs, z ∈ rs ++ allC cs := fun z hz => g.all.mpr hz
  obtain ⟨col, hc⟩ := g.col
  refine ⟨?_, ?_, ?_, fun x hx => ?_⟩
  · rw [insC_map, ← List.map_append]
    exact List.pairwise_map.mpr (List.Pairwise.imp_of_mem (fun ha hb hne e => hne (inj _ (mem _ ha) _ (mem _ hb) e)) g.nd)
  · rw [insC_map, outsC_map]
    exact g.op.map φ
  · let c2 : Int → Bool := fun y => match (rs ++ allC cs).find? (fun z => decide (φ z = y)) with
      | some z => col z
      | none => false
    have hc2 : ∀ z ∈ rs ++ allC cs, c2 (φ z) = col z := fun z hz => by
      show (match (rs ++ allC cs).find? (fun w => decide (φ w = φ z)) with | some w => col w | none => false) = _
      cases h : (rs ++ allC cs).find? (fun w => decide (φ w = φ z)) with
      | none =>
        have := List.find?_eq_none.mp h z hz
        simp at this
      | some w =>
        have h1 := List.find?_some h
        have h2 := List.mem_of_find?_eq_some h
        have := inj w h2 z hz (by simpa using h1)
        rw [this]
    refine ⟨c2, fun y hy => ?_⟩
    obtain ⟨x, hx, rfl⟩ := List.mem_map.mp hy
    have ma : ∀ z ∈ [x.a, x.b, x.c, x.d], z ∈ rs ++ allC cs := fun z hz => List.mem_append_right _ (List.mem_flatMap.mpr ⟨x, hx, hz⟩)
    have := hc x hx
    unfold ColX mapC at *
    dsimp only
    rw [hc2 _ (ma x.a (by simp)), hc2 _ (ma x.b (by simp)), hc2 _ (ma x.c (by simp)), hc2 _ (ma x.d (by simp))]
    exact this
  · obtain ⟨y, hy, rfl⟩ := List.mem_map.mp hx
    exact g.sg y hy
/-- the names given so far -/
structure Nmd (K : List Int) (sg : Int) (φ : Int → Int) : Prop where
  nd : K.Nodup
  vl : ∀ (j : Nat) (n : Int), K[j]? = some n → ∃ r : Int, 0 ≤ r ∧ r < 1009 ∧ φ n = (1000000000 * r + j) * sg
theorem Nmd.inj {K : List Int} {sg : Int} {φ : Int → Int} (h : Nmd K sg φ) (hs : sg = 1 ∨ sg = -1) (hl : K.length < 1000) {a b : Int} (ha : a ∈ K) (hb : b ∈ K) (e : φ a = φ b) : a = b := by
  obtain ⟨i, hi⟩ := List.getElem?_of_mem ha
  obtain ⟨j, hj⟩ := List.getElem?_of_mem hb
  have li := (List.getElem?_eq_some_iff.mp hi).1
  have lj := (List.getElem?_eq_some_iff.mp hj).1
  obtain ⟨r, r1, r2, r3⟩ := h.vl i a hi
  obtain ⟨q, q1, q2, q3⟩ := h.vl j b hj
  rw [r3, q3] at e
  have : i = j := by rcases hs with rfl | rfl <;> omega
  subst this
  rw [hi] at hj; cases hj; rfl
theorem Nmd.add {K : List Int} {sg : Int} {φ : Int → Int} (h : Nmd K sg φ) {n r : Int} (hn : n ∉ K) (h0 : 0 ≤ r) (h1 : r < 1009) : Nmd (K ++ [n]) sg (updF φ n ((1000000000 * r + K.length) * sg)) := by
  refine ⟨List.nodup_append.mpr ⟨h.nd, by simp, fun a ha b hb e => hn (by rw [← List.mem_singleton.mp hb, ← e]; exact ha)⟩, fun j m hm => ?_⟩
  rw [List.getElem?_append] at hm
  split at hm
  · have hmK := List.mem_of_getElem? hm
    obtain ⟨q, q1, q2, q3⟩ := h.vl j m hm
    exact ⟨q, q1, q2, by unfold updF; rw [if_neg (fun e : m = n => hn (e ▸ hmK)), q3]⟩
  · rename_i hj
    have : j - K.length = 0 := by
      by_cases h : j - K.length = 0
      · exact h
      · rw [List.getElem?_eq_none (by simp; omega)] at hm; cases hm
    rw [this] at hm
    simp at hm
    subst hm
    have hj2 : j = K.length := by omega
    exact ⟨r, h0, h1, by unfold updF; rw [if_pos rfl, hj2]⟩
theorem notIn_m {N : List Int} {h : Int → D} {n : Int} : dNotIn [.int n, mD N h] = some (.bl (decide (n ∉ N))) := by
  unfold mD dNotIn
  show some (D.bl (!(lkD (N.map kI) (N.map h) (kI n)).isSome)) = _
  by_cases hn : n ∈ N
  · rw [lk_m hn]; simp [hn]
  · rw [lk_no hn]; simp [hn]
theorem lenK_m {N : List Int} {h : Int → D} : dLenK [mD N h] = some (.int N.length) := by
  unfold mD dLenK
  simp
theorem newnames_ok (rs : List Int) (cs : List Cr) (cell : Int) (hl : rs.length + 4 * cs.length < 100) :
    ∃ φ : Int → Int, (∀ a ∈ rs ++ allC cs, ∀ b ∈ rs ++ allC cs, φ a = φ b → a = b) ∧ f__law_new_names [drD rs cs, .int cell] = some (.ret (drD (rs.map φ) (cs.map (mapC φ)))) := by
  have key : ∃ d, f__law_new_names [drD rs cs, .int cell] = some (.ret d) ∧ ∃ φ : Int → Int, (∀ a ∈ rs ++ allC cs, ∀ b ∈ rs ++ allC cs, φ a = φ b → a = b) ∧ d = drD (rs.map φ) (cs.map (mapC φ)) := by
    refine fn_ex (by simp) ?_
    show Go m__law_new_names [drD rs cs, .int cell, .non, .non, .non, .non, .non, .non] _
    unfold m__law_new_names
    refine Go.set (d := intsD rs) (by simp [Option.filter_some, intsD, dList]) ?_
    unfold m__law_new_names_1
    rw [go_seq]
    refine go_for crD cs (fun i ρ => ∃ j, ρ = [drD rs cs, .int cell, intsD (rs ++ allC (cs.take i)), j, .non, .non, .non, .non]) (by simp) ⟨.non, by simp [allC]⟩ (fun i x ρ hi hR => ?_) (fun ρ' hR => ?_)
    · obtain ⟨j, rfl⟩ := hR
      refine ⟨[drD rs cs, .int cell, intsD (rs ++ allC (cs.take i)), crD x, .non, .non, .non, .non], by simp, ?_⟩
      unfold m__law_new_names_b1
      have hal := @allC_len (cs.take i)
      rw [List.length_take] at hal
      have hc := catF_ints (l := rs ++ allC (cs.take i)) (r := [x.a, x.b, x.c, x.d]) (by simp; omega)
      refine Go.set1 (d := intsD (rs ++ allC (cs.take i) ++ [x.a, x.b, x.c, x.d])) (by simp [chk_cr, tail4, list4, hc]) ⟨_, .inl rfl, crD x, ?_⟩
      rw [allC_take hi, List.append_assoc]
      rfl
    obtain ⟨j3, rfl⟩ := hR
    rw [List.take_length, cont_nx]
    have hal := @allC_len cs
    have hnl : (rs ++ allC cs).length < 100 := by rw [List.length_append, hal]; omega
    generalize hns : rs ++ allC cs = ns at *
    unfold m__law_new_names_2
    refine Go.set (d := mD [] fun v => .int (id v)) (by rfl) ?_
    unfold m__law_new_names_3
    have d1 : dDiv [.int cell, .int 2] = some (.int (cell / 2)) := dDiv_s (cdv (by decide) (by decide))
    refine Go.set (d := .int (cell / 2)) (by simp [d1]) ?_
    unfold m__law_new_names_4
    rw [go_seq]
    obtain ⟨sg, hs, es⟩ := idx_mod [1, -1] 2 cell rfl (by decide)
    have hs2 : sg = 1 ∨ sg = -1 := by simpa using hs
    have es' : dIdx [.lst [.int 1, .int (-1)], .int (cell % 2)] = some (.int sg) := es
    refine go_for D.int ns (fun i ρ => ∃ (K : List Int) (φ : Int → Int) (r : Int) (j6 : D), ρ = [drD rs cs, .int cell, intsD ns, j3, mD K fun v => .int (φ v), .int r, j6, .non] ∧ Nmd K sg φ ∧ (∀ z ∈ ns.take i, z ∈ K) ∧ K.length ≤ i) (by simp [intsD]) ⟨[], id, _, _, rfl, ⟨List.nodup_nil, by simp⟩, by simp, by simp⟩ (fun i n ρ hi hR => ?_) (fun ρ' hR => ?_)
    · obtain ⟨K, φ, r, j6, rfl, hN, hin, hKl⟩ := hR
      have hil : i < ns.length := (List.getElem?_eq_some_iff.mp hi).1
      refine ⟨[drD rs cs, .int cell, intsD ns, j3, mD K fun v => .int (φ v), .int r, .int n, .non], by simp, ?_⟩
      unfold m__law_new_names_b2
      refine go_ite (p := n ∉ K) (by simp [notIn_m]) (fun h => ?_) (fun h => ?_)
      · unfold m__law_new_names_c1
        have r0 := Int.emod_nonneg r (b := 1009) (by decide)
        have r1 := Int.emod_lt_of_pos r (b := 1009) (by decide)
        have m1 : dMul [.int 1000000000, .int (r % 1009)] = some (.int (1000000000 * (r % 1009))) := dMul_s (cm (by decide) (by omega))
        have m2 : dMul [.int (1000000000 * (r % 1009) + K.length), .int sg] = some (.int ((1000000000 * (r % 1009) + K.length) * sg)) := dMul_s (cm (by omega) (by omega))
        have hadd := hN.add h r0 r1
        have hm : mD K (fun v => .int (φ v)) = mD K (fun v => .int (updF φ n ((1000000000 * (r % 1009) + K.length) * sg) v)) := mD_congr fun z hz => by
          unfold updF; rw [if_neg (fun e : z = n => h (e ▸ hz))]
        refine Go.put (v := .int ((1000000000 * (r % 1009) + K.length) * sg)) (x := .int n) (y := mD K fun v => .int (φ v)) (z := mD (K ++ [n]) fun v => .int (updF φ n ((1000000000 * (r % 1009) + K.length) * sg) v)) (by simp [-dIdx_l, m1, m2, lenK_m, es', Option.filter_some]) (by simp) rfl ?_ ?_
        · rw [hm]
          exact put_out h (by omega) (by unfold updF; rw [if_pos rfl])
        · unfold m__law_new_names_c1_1
          have d2 : dDiv [.int r, .int 1009] = some (.int (r / 1009)) := dDiv_s (cdv (by decide) (by decide))
          refine Go.set1 (d := .int (r / 1009)) (by simp [d2]) ⟨_, .inl rfl, K ++ [n], _, r / 1009, .int n, rfl, hadd, fun z hz => ?_, by simp; omega⟩
          rw [take_snoc hi] at hz
          rcases List.mem_append.mp hz with hz | hz
          · exact List.mem_append_left _ (hin z hz)
          · exact List.mem_append_right _ hz
      · rw [go_nil]
        refine ⟨_, .inl rfl, K, φ, r, .int n, rfl, hN, fun z hz => ?_, by omega⟩
        rw [take_snoc hi] at hz
        rcases List.mem_append.mp hz with hz | hz
        · exact hin z hz
        · rw [List.mem_singleton.mp hz]
          exact Classical.not_not.mp h
    obtain ⟨K, φ, r, j6, rfl, hN, hin, hKl⟩ := hR
    rw [List.take_length] at hin
    rw [cont_nx]
    unfold m__law_new_names_5
    refine Go.set (d := intsD (rs.map φ)) ?_ ?_
    · rw [eLc_s]
      have : iLst (eP dIdx (aCons (eVar 0) (aCons (eC (.int 0)) aNil))) [drD rs cs, .int cell, intsD ns, j3, mD K fun v => .int (φ v), .int r, j6, .non] = some (rs.map D.int) := by simp [intsD]
      rw [this]
      simp only [ob_some]
      rw [lcL_map D.int (fun z => D.int (φ z)) _ fun z hz => ⟨[drD rs cs, .int cell, intsD ns, j3, mD K fun v => .int (φ v), .int r, .int z, .non], by simp, rfl, ?_⟩]
      · simp [intsD]
      · have : z ∈ K := hin z (by rw [← hns]; exact List.mem_append_left _ hz)
        unfold m__law_new_names_e1
        simp [this, Option.filter_some]
    · unfold m__law_new_names_6
      have e : eLc (iLst (eP dIdx (aCons (eVar 0) (aCons (eC (.int 1)) aNil)))) (gF (gN 3)) cYes m__law_new_names_e2 [drD rs cs, .int cell, intsD ns, j3, mD K fun v => .int (φ v), .int r, j6, intsD (rs.map φ)] = some (.lst ((cs.map (mapC φ)).map crD)) := by
        rw [eLc_s]
        have : iLst (eP dIdx (aCons (eVar 0) (aCons (eC (.int 1)) aNil))) [drD rs cs, .int cell, intsD ns, j3, mD K fun v => .int (φ v), .int r, j6, intsD (rs.map φ)] = some (cs.map crD) := by simp
        rw [this]
        simp only [ob_some]
        rw [lcL_map crD (fun x => crD (mapC φ x)) _ fun x hx => ⟨[drD rs cs, .int cell, intsD ns, crD x, mD K fun v => .int (φ v), .int r, j6, intsD (rs.map φ)], by simp, rfl, ?_⟩]
        · simp
        · unfold m__law_new_names_e2
          refine row_map rfl fun z hz => ?_
          have : z ∈ K := hin z (by rw [← hns]; exact List.mem_append_right _ (List.mem_flatMap.mpr ⟨x, hx, hz⟩))
          unfold m__law_new_names_e3
          simp [this, Option.filter_some]
      refine Go.ret (d := drD (rs.map φ) (cs.map (mapC φ))) ?_ ⟨_, rfl, φ, fun a ha b hb e => hN.inj hs2 (by omega) (hin a ha) (hin b hb) e, rfl⟩
      simp only [eTup_s, aCons_s, aNil_s, eVar_s, e, ob_some, List.getElem?_cons_succ, List.getElem?_cons_zero, List.set_cons_succ, List.set_cons_zero]
      rfl
  obtain ⟨d, h, φ, h1, rfl⟩ := key
  exact ⟨φ, h1, h⟩
end VP

/-! ## VFN -/
/-! the drawing of a law -/
namespace VP
open PySem PySem.Spec PyProof.Rows L2 VV VP
theorem perm_map_inv {α β : Type} {f : α → β} {l m : List β} (h : l.Perm m) : ∀ {xs : List α}, m = xs.map f → ∃ ys : List α, ys.Perm xs ∧ l = ys.map f := by
  induction h with
  | nil => intro xs e; exact ⟨xs, List.Perm.refl _, e⟩
  | cons a _ ih =>
    intro xs e
    cases xs with
    | nil => simp at e
    | cons x r =>
      simp only [List.map_cons, List.cons.injEq] at e
      obtain ⟨ys, h1, h2⟩ := ih e.2
      exact ⟨x :: ys, h1.cons x, by rw [List.map_cons, h2, e.1]⟩
  | swap a b l =>
    intro xs e
    match xs, e with
    | [], e => simp at e
    | [_], e => simp at e
    | x :: y :: r, e =>
      simp only [List.map_cons, List.cons.injEq] at e
      exact ⟨y :: x :: r, List.Perm.swap _ _ _, by rw [List.map_cons, List.map_cons, e.1, e.2.1, e.2.2]⟩
  | trans _ _ ih1 ih2 =>
    intro xs e
    obtain ⟨ys, h1, h2⟩ := ih2 e
    obtain ⟨zs, h3, h4⟩ := ih1 h2
    exact ⟨zs, h3.trans h1, h4⟩
theorem mixed_ints (l : List Int) (cell : Int) (hl : l.length ≤ 1000) : ∃ l' : List Int, f__law_mixed_up [intsD l, .int cell] = some (.ret (intsD l')) ∧ l'.Perm l := by
  obtain ⟨m, h1, h2⟩ := mixed_ok (l := l.map D.int) cell (fun d hd => by
    obtain ⟨a, _, rfl⟩ := List.mem_map.mp hd
    exact ⟨rfl, Ok.int.mono (by decide)⟩) (by rw [List.length_map]; exact hl)
  obtain ⟨ys, h3, rfl⟩ := perm_map_inv h2 rfl
  exact ⟨ys, h1, h3⟩
theorem mixed_crs (l : List Cr) (cell : Int) (hl : l.length ≤ 1000) : ∃ l' : List Cr, f__law_mixed_up [.lst (l.map crD), .int cell] = some (.ret (.lst (l'.map crD))) ∧ l'.Perm l := by
  obtain ⟨m, h1, h2⟩ := mixed_ok (l := l.map crD) cell (fun d hd => by
    obtain ⟨a, _, rfl⟩ := List.mem_map.mp hd
    exact ⟨cr_flat, cr_ok⟩) (by rw [List.length_map]; exact hl)
  obtain ⟨ys, h3, rfl⟩ := perm_map_inv h2 rfl
  exact ⟨ys, h1, h3⟩
theorem kf_crs {l : List Cr} : (D.lst (l.map crD)).kidsFlat = true := by
  rw [kf_lst, isFlatL_all, List.all_eq_true]
  intro d hd
  obtain ⟨w, _, rfl⟩ := List.mem_map.mp hd
  exact cr_flat
/-- an order of its own -/
theorem mix_dr (rs : List Int) (cs : List Cr) (g : Good rs cs) (h1 : rs.length ≤ 1000) (h2 : cs.length ≤ 1000) (c1 c2 : Int) : ∃ (rs' : List Int) (cs' : List Cr), f__law_mixed_up [intsD rs, .int c1] = some (.ret (intsD rs')) ∧ f__law_mixed_up [.lst (cs.map crD), .int c2] = some (.ret (.lst (cs'.map crD))) ∧ Good rs' cs' ∧ rs'.Perm rs ∧ cs'.Perm cs := by
  obtain ⟨a, a1, a2⟩ := mixed_ints rs c1 h1
  obtain ⟨b, b1, b2⟩ := mixed_crs cs c2 h2
  exact ⟨a, b, a1, b1, g.perm a2 b2, a2, b2⟩
theorem drawn_ok (ns : List Int) (k most : Nat) (hk : k ≤ 100) (hm : most ≤ 8) : ∃ rs cs, f__law_drawn [.scr (ns.map D.int), .int k, .int most, .int 2] = some (.ret (drD rs cs)) ∧ Good rs cs ∧ rs.length ≤ 4 ∧ cs.length ≤ most + 2 := by
  have key : ∃ d, f__law_drawn [.scr (ns.map D.int), .int k, .int most, .int 2] = some (.ret d) ∧ ∃ rs cs, d = drD rs cs ∧ Good rs cs ∧ rs.length ≤ 4 ∧ cs.length ≤ most + 2 := by
    refine fn_ex (by simp) ?_
    show Go m__law_drawn [.scr (ns.map D.int), .int k, .int most, .int 2, .non, .non, .non, .non, .non] _
    unfold m__law_drawn
    obtain ⟨hd, e0⟩ := number_ok ns k (by omega)
    obtain ⟨v1, e1⟩ := number_ok ns (k + 1) (by omega)
    obtain ⟨v4, e4⟩ := number_ok ns (k + 4) (by omega)
    obtain ⟨v5, e5⟩ := number_ok ns (k + 5) (by omega)
    have e1' : f__law_number [.scr (ns.map D.int), .int ((k : Int) + 1)] = some (.ret (.int v1)) := e1
    have e4' : f__law_number [.scr (ns.map D.int), .int ((k : Int) + 4)] = some (.ret (.int v4)) := e4
    have e5' : f__law_number [.scr (ns.map D.int), .int ((k : Int) + 5)] = some (.ret (.int v5)) := e5
    refine Go.set (d := .int hd) (by simp [e0]) ?_
    unfold m__law_drawn_1
    obtain ⟨st, hst, est⟩ := idx_mod [2, 3, 2, 1, 4, 3, 2, 3] 8 hd rfl (by decide)
    have hst2 : ∃ n : Nat, st = n ∧ 1 ≤ n ∧ n ≤ 4 := by
      simp only [List.mem_cons, List.not_mem_nil, or_false] at hst
      exact ⟨st.toNat, by omega, by omega, by omega⟩
    obtain ⟨n, rfl, hn1, hn4⟩ := hst2
    have est' : dIdx [.lst [.int 2, .int 3, .int 2, .int 1, .int 4, .int 3, .int 2, .int 3], .int (hd % 8)] = some (.int n) := est
    refine Go.set (d := .int n) (by simp [-dIdx_l, est', Option.filter_some]) ?_
    unfold m__law_drawn_2
    obtain ⟨ls, l1, l2, l3⟩ := letters_ok v1 n most (by omega) (by omega)
    obtain ⟨rs, cs, c1, c2, c3, c4, c5⟩ := closed_ok n ls (by omega) l3 (by omega)
    have l1' : f__law_letters [.int v1, .int n, .int most] = some (.ret (intsD ls)) := l1
    refine Go.set (d := drD rs cs) (by simp [e1', l1', Option.filter_some, c1]) ?_
    unfold m__law_drawn_3
    rw [go_seq]
    have d1 : dDiv [.int hd, .int 8] = some (.int (hd / 8)) := dDiv_s (cdv (by decide) (by decide))
    obtain ⟨w, hw, ew⟩ := idx_mod [0, 1, 0, 2] 4 (hd / 8) rfl (by decide)
    have ew' : dIdx [.lst [.int 0, .int 1, .int 0, .int 2], .int (hd / 8 % 4)] = some (.int w) := ew
    have hw2 : ∃ q : Nat, (if w < 2 then w else 2) = (q : Int) ∧ q ≤ 2 := by
      simp only [List.mem_cons, List.not_mem_nil, or_false] at hw
      rcases hw with rfl | rfl | rfl | rfl
      · exact ⟨0, rfl, by decide⟩
      · exact ⟨1, rfl, by decide⟩
      · exact ⟨0, rfl, by decide⟩
      · exact ⟨2, rfl, by decide⟩
    obtain ⟨q, hq, hq2⟩ := hw2
    have hmin : dMin2 [.int 2, .int w] = some (.int q) := by rw [← hq]; rfl
    refine go_for (fun i : Nat => D.int i) (List.range q) (fun i ρ => ∃ (rs : List Int) (cs : List Cr) (j : D), ρ = [.scr (ns.map D.int), .int k, .int most, .int 2, .int hd, .int n, drD rs cs, j, .non] ∧ Good rs cs ∧ rs.length ≤ 4 ∧ cs.length ≤ most + i ∧ 0 < rs.length + cs.length) ?_ ⟨rs, cs, _, rfl, c2, by omega, by omega, by have := c5 (by omega); omega⟩ (fun i a ρ hi hR => ?_) (fun ρ' hR => ?_)
    · rw [iRng1_s (k := q) (by simp [-dIdx_l, d1, ew', Option.filter_some, hmin]) (by omega) (by omega), ← rng0]; rfl
    · obtain ⟨hiq, rfl⟩ := rng_at hi
      obtain ⟨rs, cs, j, rfl, g, b1, b2, b3⟩ := hR
      refine ⟨[.scr (ns.map D.int), .int k, .int most, .int 2, .int hd, .int n, drD rs cs, .int (a : Nat), .non], rfl, ?_⟩
      unfold m__law_drawn_b1
      obtain ⟨v2, e2⟩ := number_ok ns (k + 2 + a) (by omega)
      have e2' : f__law_number [.scr (ns.map D.int), .int ((k : Int) + 2 + a)] = some (.ret (.int v2)) := e2
      obtain ⟨rs', cs', g1, g2, g3, g4⟩ := curl_ok g v2 b3 (by omega)
      refine Go.set1 (d := drD rs' cs') (by simp [e2', g1]) ⟨_, .inl rfl, rs', cs', _, rfl, g2, by omega, by omega, by omega⟩
    obtain ⟨rs, cs, j, rfl, g, b1, b2, b3⟩ := hR
    rw [List.length_range] at b2
    rw [cont_nx]
    unfold m__law_drawn_4
    obtain ⟨φ, f1, f2⟩ := newnames_ok rs cs v4 (by omega)
    refine Go.set (d := drD (rs.map φ) (cs.map (mapC φ))) (by simp [e4', f2]) ?_
    unfold m__law_drawn_5
    refine Go.set (d := .int v5) (by simp [e5']) ?_
    unfold m__law_drawn_6
    obtain ⟨rs', cs', m1, m2, m3, m4, m5⟩ := mix_dr _ _ (g.rename f1) (by simp; omega) (by simp; omega) (v5 / 7) v5
    have d7 : dDiv [.int v5, .int 7] = some (.int (v5 / 7)) := dDiv_s (cdv (by decide) (by decide))
    have p4 := m4.length_eq
    have p5 := m5.length_eq
    rw [List.length_map] at p4 p5
    refine Go.ret (d := drD rs' cs') ?_ ⟨_, rfl, rs', cs', rfl, m3, by omega, by omega⟩
    simp only [eTup_s, aCons_s, aNil_s, eVar_s, eP_s, eC_s, eChk_s, eCall_s, dr0, dr1, d7, m1, m2, asRet_s, ob_some, List.getElem?_cons_succ, List.getElem?_cons_zero, List.set_cons_succ, List.set_cons_zero, Option.filter_some, kf_ints, kf_crs, if_true]
    rfl
  obtain ⟨d, h, rs, cs, rfl, h2⟩ := key
  exact ⟨rs, cs, h, h2⟩
end VP

/-! ## VFP -/
/-! sorted lists of lists; which loops -/
namespace VP
open PySem PySem.Spec PyProof.Rows L2 VV VP
def srtL (L : List (List Int)) : List (List Int) := L.mergeSort fun a b => decide (a ≤ b)
theorem leD_rows {a b : List Int} : leD (intsD a) (intsD b) = decide (a ≤ b) := by
  have := congrFun (congrFun (PySem.W.dataLe_rows (id : List Int → List Int)) a) b
  have e : ∀ l : List Int, (intsD l).toP = .list (l.map .int) := fun l => by
    unfold intsD
    simp only [D.toP]
    rw [toPL_map]
    rfl
  show (!PySem.W.dataLt (intsD b).toP (intsD a).toP) = _
  rw [e, e]
  exact this
theorem ints_ok {l : List Int} : Ok 1 (intsD l) := Ok.lst fun a _ => Ok.int
theorem alike_ints : ∀ l m : List Int, PySem.W.alikeAll (l.map PyData.int) (m.map PyData.int) = true
  | [], _ => by simp [PySem.W.alikeAll]
  | _ :: _, [] => by simp [PySem.W.alikeAll]
  | a :: l, b :: m => by simp [PySem.W.alikeAll, PySem.W.alike, alike_ints l m]
theorem srtOk_rows {L : List (List Int)} (h : L.length ≤ 1000000) : srtOk (L.map intsD) = true := by
  have e : ∀ l : List Int, (intsD l).toP = .list (l.map .int) := fun l => by
    unfold intsD
    simp only [D.toP]
    rw [toPL_map]
    rfl
  unfold srtOk
  simp only [Bool.and_eq_true, List.all_eq_true, Bool.or_eq_true, List.mem_map, decide_eq_true_eq]
  refine ⟨⟨⟨⟨?_, ?_⟩, .inr ?_⟩, ?_⟩, by simpa using h⟩
  · unfold canL
    rw [toPL_map]
    exact canLayAll_map _ _ fun a _ => ints_ok.1
  · rintro x ⟨a, _, rfl⟩ y ⟨b, _, rfl⟩
    rw [e, e]
    exact alike_ints a b
  · rintro x ⟨a, _, rfl⟩
    rfl
  · rintro x ⟨a, _, rfl⟩
    have := (@ints_ok a).2
    omega
theorem sort_rows {L : List (List Int)} (h : L.length ≤ 1000000) : dSortX [.lst (L.map intsD)] = some (.lst ((srtL L).map intsD)) := by
  unfold dSortX
  dsimp only
  rw [if_pos (srtOk_rows h)]
  unfold srtL
  rw [List.map_mergeSort (s := leD) (fun a _ b _ => by rw [leD_rows])]
theorem srtL_perm {L M : List (List Int)} (h : L.Perm M) : srtL L = srtL M := by
  have pw : ∀ X : List (List Int), (srtL X).Pairwise (· ≤ ·) := fun X => by
    have := List.pairwise_mergeSort (le := fun a b : List Int => decide (a ≤ b)) (fun a b c h1 h2 => by
      simp only [decide_eq_true_eq] at *
      exact List.le_trans h1 h2) (fun a b => by
      simp only [Bool.or_eq_true, decide_eq_true_eq]
      exact List.le_total a b) X
    exact this.imp fun h => by simpa using h
  have p : (srtL L).Perm (srtL M) := (List.mergeSort_perm L _).trans (h.trans (List.mergeSort_perm M _).symm)
  exact p.eq_of_pairwise (le := (· ≤ ·)) (fun a b _ _ h h' => List.le_antisymm h h') (pw L) (pw M)
theorem eqv_rows : Eqv fun L : List (List Int) => D.lst (L.map intsD) := Eqv.lst (x := intsD) (Eqv.lst Eqv.int)
theorem rows_ok {L : List (List Int)} : Ok 2 (D.lst (L.map intsD)) := Ok.lst fun a _ => ints_ok
theorem ne_rows {L M : List (List Int)} : dNe [.lst (L.map intsD), .lst (M.map intsD)] = some (.bl (decide (L ≠ M))) := ne_of_eqv (x := fun L : List (List Int) => D.lst (L.map intsD)) eqv_rows rows_ok rows_ok (by decide)
theorem eq_rows {L M : List (List Int)} : dEq [.lst (L.map intsD), .lst (M.map intsD)] = some (.bl (decide (L = M))) := eq_of_eqv (x := fun L : List (List Int) => D.lst (L.map intsD)) eqv_rows rows_ok rows_ok (by decide)

/-! ### by other names -/
theorem prC_map {φ : Int → Int} {x : Cr} {b : Int} : prC (mapC φ x) b = (prC x b).map fun p => (φ p.1, φ p.2) := by
  unfold prC mapC
  dsimp only
  split <;> split <;> rfl
/-- the loops by other names are the other ones -/
theorem loops_map {N N' : List Int} {Ps Qs : List (Int × Int)} {rt rt' φ : Int → Int} (hN : N.Pairwise (· < ·)) (hN' : N'.Pairwise (· < ·)) (h : IsRt Ps rt) (h' : IsRt Qs rt') (hm : ∀ n ∈ N, rt n ∈ N) (hm' : ∀ n ∈ N', rt' n ∈ N')
    (inj : ∀ a ∈ N, ∀ b ∈ N, φ a = φ b → a = b) (mem : ∀ z, z ∈ N' ↔ ∃ n ∈ N, φ n = z) (hP : ∀ p ∈ Ps, p.1 ∈ N ∧ p.2 ∈ N) (hQ : ∀ q, q ∈ Qs ↔ ∃ p ∈ Ps, q = (φ p.1, φ p.2)) :
    ((loopsF N rt).map fun g => srtI (g.map φ)).Perm (loopsF N' rt') := by
  have nd : N.Nodup := hN.imp fun h => by omega
  have nd' : N'.Nodup := hN'.imp fun h => by omega
  have key : ∀ a ∈ N, ∀ b ∈ N, (rt' (φ a) = rt' (φ b) ↔ rt a = rt b) := fun a ha b hb => by
    constructor
    · intro e
      have e1 := h'.iff.mp e
      have := e1.fn (f := fun y => (N.find? fun z => decide (φ z = y)).map rt) (fun q hq => by
        obtain ⟨p, hp, rfl⟩ := (hQ q).mp hq
        have hf : ∀ z ∈ N, (N.find? fun w => decide (φ w = φ z)) = some z := fun z hz => by
          cases e : N.find? fun w => decide (φ w = φ z) with
          | none => exact absurd (List.find?_eq_none.mp e z hz) (by simp)
          | some w =>
            have h1 := List.find?_some e
            rw [inj w (List.mem_of_find?_eq_some e) z hz (by simpa using h1)]
        have hp2 := hP p hp
        try dsimp only
        rw [hf p.1 hp2.1, hf p.2 hp2.2]
        simp [h.pr p hp])
      have hf : ∀ z ∈ N, (N.find? fun w => decide (φ w = φ z)) = some z := fun z hz => by
        cases e : N.find? fun w => decide (φ w = φ z) with
        | none => exact absurd (List.find?_eq_none.mp e z hz) (by simp)
        | some w =>
          have h1 := List.find?_some e
          rw [inj w (List.mem_of_find?_eq_some e) z hz (by simpa using h1)]
      try dsimp only at this
      rw [hf a ha, hf b hb] at this
      simpa using this
    · intro e
      exact (h.iff.mp e).fn (f := fun z => rt' (φ z)) fun p hp => h'.pr _ ((hQ _).mpr ⟨p, hp, rfl⟩)
  have e1 : (loopsF N rt).map (fun g => srtI (g.map φ)) = ((N.filter fun n => decide (rt n = n)).map fun r => rt' (φ r)).map fun r => N'.filter fun n => decide (rt' n = r) := by
    unfold loopsF
    rw [List.map_map, List.map_map]
    refine List.map_congr_left fun r hr => ?_
    obtain ⟨hrN, hrr⟩ := List.mem_filter.mp hr
    have hrr : rt r = r := by simpa using hrr
    show srtI ((N.filter fun n => decide (rt n = r)).map φ) = N'.filter fun n => decide (rt' n = rt' (φ r))
    symm
    refine srtI_uniq ?_ ((hN'.filter _).imp fun h => by omega)
    refine (List.perm_ext_iff_of_nodup (nd'.filter _) ?_).mpr fun z => ?_
    · exact List.pairwise_map.mpr (List.Pairwise.imp_of_mem (fun ha hb hne e => hne (inj _ (List.mem_filter.mp ha).1 _ (List.mem_filter.mp hb).1 e)) (nd.filter _))
    · rw [List.mem_filter, List.mem_map, mem]
      constructor
      · rintro ⟨⟨n, hn, rfl⟩, h2⟩
        have h2 : rt' (φ n) = rt' (φ r) := by simpa using h2
        exact ⟨n, List.mem_filter.mpr ⟨hn, by simpa using ((key n hn r hrN).mp h2).trans hrr⟩, rfl⟩
      · rintro ⟨n, hn, rfl⟩
        obtain ⟨h1, h2⟩ := List.mem_filter.mp hn
        have h2 : rt n = r := by simpa using h2
        exact ⟨⟨n, h1, rfl⟩, by simpa using (key n h1 r hrN).mpr (h2.trans hrr.symm)⟩
  rw [e1]
  unfold loopsF
  refine List.Perm.map _ ?_
  refine (List.perm_ext_iff_of_nodup ?_ (nd'.filter _)).mpr fun z => ?_
  · refine List.pairwise_map.mpr (List.Pairwise.imp_of_mem ?_ (nd.filter _))
    intro a b ha hb hne e
    obtain ⟨a1, a2⟩ := List.mem_filter.mp ha
    obtain ⟨b1, b2⟩ := List.mem_filter.mp hb
    have := (key a a1 b b1).mp e
    simp at a2 b2
    exact hne (by rw [← a2, ← b2, this])
  · rw [List.mem_map, List.mem_filter]
    constructor
    · rintro ⟨r, hr, rfl⟩
      obtain ⟨r1, r2⟩ := List.mem_filter.mp hr
      exact ⟨hm' _ ((mem _).mpr ⟨r, r1, rfl⟩), by simp [h'.rr]⟩
    · rintro ⟨h1, h2⟩
      have h2 : rt' z = z := by simpa using h2
      obtain ⟨n, hn, rfl⟩ := (mem z).mp h1
      refine ⟨rt n, List.mem_filter.mpr ⟨hm n hn, by simp [h.rr]⟩, ?_⟩
      rw [(key _ (hm n hn) n hn).mpr (h.rr n), h2]
end VP

/-! ## VFdefs2 -/
/-! the trees of the law's own ends, bits, loops (printed by gen.py) -/
namespace VP
open PySem PySem.Spec PyProof.Rows L2 VV VP

def m__law_copied : Sv := (sRet (eTup (aCons (eChk D.kidsFlat (eP dList (aCons (eP dIdx (aCons (eVar 0) (aCons (eC (.int 0)) aNil))) aNil))) (aCons (eChk D.kidsFlat (eP dList (aCons (eP dIdx (aCons (eVar 0) (aCons (eC (.int 1)) aNil))) aNil))) aNil))))
def f__law_copied : List D → Option Res := fnSem 1 [.lab none [0] false] m__law_copied
def m__law_bits_b1_1 : Sv := (sSet 0 (eP dDiv (aCons (eVar 0) (aCons (eC (.int 2)) aNil))))
def m__law_bits_b1 : Sv := (sSeq (sMut dPush 2 (eP dMod (aCons (eVar 0) (aCons (eC (.int 2)) aNil)))) m__law_bits_b1_1)
def m__law_bits_2 : Sv := (sRet (eChk D.isFlat (eP dTuple (aCons (eVar 2) aNil))))
def m__law_bits_1 : Sv := (sSeq (sFor (iRng (aCons (eVar 1) aNil)) (gN 3) m__law_bits_b1) m__law_bits_2)
def m__law_bits : Sv := (sSeq (sSet 2 (eLst aNil)) m__law_bits_1)
def f__law_bits : List D → Option Res := fnSem 4 [.flat, .flat] m__law_bits
def m__law_ends_c1 : Sv := (sRet (eTup (aCons (eP dIdx (aCons (eVar 0) (aCons (eC (.int 1)) aNil))) (aCons (eP dIdx (aCons (eVar 0) (aCons (eC (.int 4)) aNil))) (aCons (eP dIdx (aCons (eVar 0) (aCons (eC (.int 2)) aNil))) (aCons (eP dIdx (aCons (eVar 0) (aCons (eC (.int 3)) aNil))) aNil))))))
def m__law_ends_1 : Sv := (sRet (eTup (aCons (eP dIdx (aCons (eVar 0) (aCons (eC (.int 1)) aNil))) (aCons (eP dIdx (aCons (eVar 0) (aCons (eC (.int 3)) aNil))) (aCons (eP dIdx (aCons (eVar 0) (aCons (eC (.int 2)) aNil))) (aCons (eP dIdx (aCons (eVar 0) (aCons (eC (.int 4)) aNil))) aNil))))))
def m__law_ends : Sv := (sSeq (sIf (tOf (eP dEq (aCons (eP dIdx (aCons (eVar 0) (aCons (eC (.int 0)) aNil))) (aCons (eC (.int 1)) aNil)))) m__law_ends_c1 sNil) m__law_ends_1)
def f__law_ends : List D → Option Res := fnSem 1 [.flat] m__law_ends
def m__law_loops_b1 : Sv := (sSet 2 (eP dCatF (aCons (eVar 2) (aCons (eP dList (aCons (eSl (eChk D.isTup (eVar 3)) (oSome (eC (.int 1))) oNone) aNil)) aNil))))
def m__law_loops_e1 : Ev := (eLst (aCons (eVar 14) aNil))
def m__law_loops_c1 : Sv := (sSet 4 (eP dCat (aCons (eLc (iLst (eVar 4)) (gN 15) (tOf (eP dNotInX (aCons (eVar 15) (aCons (eTup (aCons (eVar 12) (aCons (eVar 13) aNil))) aNil)))) (eVar 15)) (aCons (eLst (aCons (eP dCatF (aCons (eVar 12) (aCons (eVar 13) aNil))) aNil)) aNil))))
def m__law_loops_b3_2 : Sv := (sIf (tOf (eP dNe (aCons (eVar 12) (aCons (eVar 13) aNil)))) m__law_loops_c1 sNil)
def m__law_loops_b3_1 : Sv := (sSeq (sSet 13 (eP dIdx (aCons (eLc (iLst (eVar 4)) (gN 15) (tOf (eP dInX (aCons (eVar 11) (aCons (eVar 15) aNil)))) (eVar 15)) (aCons (eC (.int 0)) aNil)))) m__law_loops_b3_2)
def m__law_loops_b3 : Sv := (sSeq (sSet 12 (eP dIdx (aCons (eLc (iLst (eVar 4)) (gN 15) (tOf (eP dInX (aCons (eVar 10) (aCons (eVar 15) aNil)))) (eVar 15)) (aCons (eC (.int 0)) aNil)))) m__law_loops_b3_1)
def m__law_loops_b2_1 : Sv := (sFor (iLst (eP dIdx (aCons (eLst (aCons (eLst (aCons (eTup (aCons (eVar 6) (aCons (eVar 7) aNil))) (aCons (eTup (aCons (eVar 8) (aCons (eVar 9) aNil))) aNil))) (aCons (eLst (aCons (eTup (aCons (eVar 6) (aCons (eVar 9) aNil))) (aCons (eTup (aCons (eVar 7) (aCons (eVar 8) aNil))) aNil))) aNil))) (aCons (eVar 5) aNil)))) (gT (gsCons (gF (gN 10)) (gsCons (gF (gN 11)) gsNil))) m__law_loops_b3)
def m__law_loops_b2 : Sv := (sSeq (sAsg (gT (gsCons (gN 6) (gsCons (gN 7) (gsCons (gN 8) (gsCons (gN 9) gsNil))))) (eCall f__law_ends (aCons (eVar 3) aNil))) m__law_loops_b2_1)
def m__law_loops_e2 : Ev := (eChk D.kidsFlat (eP dSortX (aCons (eVar 15) aNil)))
def m__law_loops_4 : Sv := (sRet (eP dSortX (aCons (eLc (iLst (eVar 4)) (gN 15) cYes m__law_loops_e2) aNil)))
def m__law_loops_3 : Sv := (sSeq (sFor (iZipM (aCons (eP dIdx (aCons (eVar 0) (aCons (eC (.int 1)) aNil))) (aCons (eVar 1) aNil))) (gT (gsCons (gF (gN 3)) (gsCons (gF (gN 5)) gsNil))) m__law_loops_b2) m__law_loops_4)
def m__law_loops_2 : Sv := (sSeq (sSet 4 (eLc (iLst (eP dSortSet (aCons (eVar 2) aNil))) (gF (gN 14)) cYes m__law_loops_e1)) m__law_loops_3)
def m__law_loops_1 : Sv := (sSeq (sFor (iLst (eP dIdx (aCons (eVar 0) (aCons (eC (.int 1)) aNil)))) (gF (gN 3)) m__law_loops_b1) m__law_loops_2)
def m__law_loops : Sv := (sSeq (sSet 2 (eChk D.kidsFlat (eP dList (aCons (eP dIdx (aCons (eVar 0) (aCons (eC (.int 0)) aNil))) aNil)))) m__law_loops_1)
def f__law_loops : List D → Option Res := fnSem 16 [.lab none [0] false, .flat] m__law_loops
end VP

/-! ## K34s -/
namespace K34
open PySem PySem.Spec PyProof.Rows L2 VV VP

def m__law_bits_b1_1 : Sv := (sSet 0 (eP dDiv (aCons (eVar 0) (aCons (eC (.int 2)) aNil))))
def m__law_bits_b1 : Sv := (sSeq (sMut dPush 2 (eP dMod (aCons (eVar 0) (aCons (eC (.int 2)) aNil)))) m__law_bits_b1_1)
def m__law_bits_2 : Sv := (sRet (eP dTupK (aCons (eVar 2) aNil)))
def m__law_bits_1 : Sv := (sSeq (sFor (iRng (aCons (eVar 1) aNil)) (gN 3) m__law_bits_b1) m__law_bits_2)
def m__law_bits : Sv := (sSeq (sSet 2 (eLst aNil)) m__law_bits_1)
def f__law_bits : List D → Option Res := fnSem 4 [.flat, .flat] m__law_bits
def m__law_signs_1 : Sv := (sRet (eTup (aCons (eVar 1) (aCons (eP dSub (aCons (eP dLen (aCons (eP dIdx (aCons (eVar 0) (aCons (eC (.int 1)) aNil))) aNil)) (aCons (eVar 1) aNil))) aNil))))
def m__law_signs : Sv := (sSeq (sSet 1 (eP dLen (aCons (eLc (iLst (eP dIdx (aCons (eVar 0) (aCons (eC (.int 1)) aNil)))) (gF (gN 2)) (tOf (eP dEq (aCons (eP dIdx (aCons (eVar 2) (aCons (eC (.int 0)) aNil))) (aCons (eC (.int 1)) aNil)))) (eVar 2)) aNil))) m__law_signs_1)
def f__law_signs : List D → Option Res := fnSem 3 [.lab none [0] false] m__law_signs
def m__law_place_3 : Sv := (sRet (eTup (aCons (eP dSub (aCons (eVar 6) (aCons (eVar 5) aNil))) (aCons (eP dSub (aCons (eP dAdd (aCons (eP dAdd (aCons (eP dSub (aCons (eP dCountK (aCons (eVar 3) (aCons (eC (.int 0)) aNil))) (aCons (eP dCountK (aCons (eVar 3) (aCons (eC (.int 1)) aNil))) aNil))) (aCons (eVar 6) aNil))) (aCons (eVar 4) aNil))) (aCons (eP dMul (aCons (eC (.int 2)) (aCons (eVar 5) aNil))) aNil))) aNil))))
def m__law_place_2 : Sv := (sSeq (sSet 6 (eP dCountK (aCons (eVar 2) (aCons (eC (.int 1)) aNil)))) m__law_place_3)
def m__law_place_1 : Sv := (sSeq (sAsg (gT (gsCons (gN 4) (gsCons (gN 5) gsNil))) (eCall f__law_signs (aCons (eVar 0) aNil))) m__law_place_2)
def m__law_place : Sv := (sSeq (sAsg (gT (gsCons (gN 2) (gsCons (gN 3) gsNil))) (eVar 1)) m__law_place_1)
def f__law_place : List D → Option Res := fnSem 7 [.lab none [0] false, .flat] m__law_place
def m_signs_1 : Sv := (sRet (eTup (aCons (eVar 1) (aCons (eP dSub (aCons (eP dLen (aCons (eP dIdx (aCons (eVar 0) (aCons (eC (.int 1)) aNil))) aNil)) (aCons (eVar 1) aNil))) aNil))))
def m_signs : Sv := (sSeq (sSet 1 (eP dLen (aCons (eLc (iLst (eP dIdx (aCons (eVar 0) (aCons (eC (.int 1)) aNil)))) (gF (gN 2)) (tOf (eP dEq (aCons (eP dIdx (aCons (eVar 2) (aCons (eC (.int 0)) aNil))) (aCons (eC (.int 1)) aNil)))) (eVar 2)) aNil))) m_signs_1)
def f_signs : List D → Option Res := fnSem 3 [.lab none [0] false] m_signs
def m_height_of : Sv := (sRet (eP dSub (aCons (eP dSumK (aCons (eP dIdx (aCons (eVar 1) (aCons (eC (.int 0)) aNil))) aNil)) (aCons (eP dIdx (aCons (eCall f_signs (aCons (eVar 0) aNil)) (aCons (eC (.int 1)) aNil))) aNil))))
def f_height_of : List D → Option Res := fnSem 2 [.lab none [0] false, .flat] m_height_of
def m_weight_of_2 : Sv := (sRet (eP dSub (aCons (eP dAdd (aCons (eP dAdd (aCons (eP dSub (aCons (eP dLenT (aCons (eVar 3) aNil)) (aCons (eP dMul (aCons (eC (.int 2)) (aCons (eP dSumK (aCons (eVar 3) aNil)) aNil))) aNil))) (aCons (eP dSumK (aCons (eVar 2) aNil)) aNil))) (aCons (eVar 4) aNil))) (aCons (eP dMul (aCons (eC (.int 2)) (aCons (eVar 5) aNil))) aNil))))
def m_weight_of_1 : Sv := (sSeq (sAsg (gT (gsCons (gN 4) (gsCons (gN 5) gsNil))) (eCall f_signs (aCons (eVar 0) aNil))) m_weight_of_2)
def m_weight_of : Sv := (sSeq (sAsg (gT (gsCons (gN 2) (gsCons (gN 3) gsNil))) (eVar 1)) m_weight_of_1)
def f_weight_of : List D → Option Res := fnSem 6 [.lab none [0] false, .flat] m_weight_of
def m__law_told_e1 : Ev := (vOr (eP (dIsi "bool") (aCons (eVar 3) aNil)) (vNot (eP (dIsi "int") (aCons (eVar 3) aNil))))
def m__law_told_1 : Sv := (sSeq (sIf (tOf (eP dAny (aCons (eLc (iTupl (eVar 2)) (gN 3) cYes m__law_told_e1) aNil))) (sRet (eC .non)) sNil) (sRet (eVar 2)))
def m__law_told : Sv := (sSeq (sSet 2 (eTup (aCons (eCall f_height_of (aCons (eVar 0) (aCons (eVar 1) aNil))) (aCons (eCall f_weight_of (aCons (eVar 0) (aCons (eVar 1) aNil))) aNil)))) m__law_told_1)
def f__law_told : List D → Option Res := fnSem 4 [.lab none [0] false, .flat] m__law_told
def m_law_c1_2 : Sv := (sIf (tOf (eP dNe (aCons (eCall f__law_told (aCons (eVar 2) (aCons (eTup (aCons (eVar 4) (aCons (eVar 8) aNil))) aNil))) (aCons (eTup (aCons (eP dIdx (aCons (eVar 6) (aCons (eC (.int 0)) aNil))) (aCons (eP dSub (aCons (eP dIdx (aCons (eVar 6) (aCons (eC (.int 1)) aNil))) (aCons (eC (.int 2)) aNil))) aNil))) aNil)))) (sRet (eC (.bl false))) sNil)
def m_law_c1_1 : Sv := (sSeq (sSet 8 (eP dCatT (aCons (eP dCatT (aCons (eSlK (eVar 5) oNone (oSome (eVar 7))) (aCons (eTup (aCons (eC (.int 1)) aNil)) aNil))) (aCons (eSlK (eVar 5) (oSome (eP dAdd (aCons (eVar 7) (aCons (eC (.int 1)) aNil)))) oNone) aNil)))) m_law_c1_2)
def m_law_c1 : Sv := (sSeq (sSet 7 (eP dIndexK (aCons (eVar 5) (aCons (eC (.int 0)) aNil)))) m_law_c1_1)
def m_law_b1_4 : Sv := (sIf (tOf (eP dInK (aCons (eC (.int 0)) (aCons (eVar 5) aNil)))) m_law_c1 sNil)
def m_law_b1_3 : Sv := (sSeq (sIf (tOf (eP dNe (aCons (eCall f__law_told (aCons (eCall f__law_copied (aCons (eVar 2) aNil)) (aCons (eTup (aCons (eVar 4) (aCons (eVar 5) aNil))) aNil))) (aCons (eVar 6) aNil)))) (sRet (eC (.bl false))) sNil) m_law_b1_4)
def m_law_b1_2 : Sv := (sSeq (sSet 6 (eCall f__law_place (aCons (eVar 2) (aCons (eTup (aCons (eVar 4) (aCons (eVar 5) aNil))) aNil)))) m_law_b1_3)
def m_law_b1_1 : Sv := (sSeq (sSet 5 (eCall f__law_bits (aCons (eCall f__law_number (aCons (eVar 0) (aCons (eP dAdd (aCons (eC (.int 14)) (aCons (eVar 3) aNil))) aNil))) (aCons (eP dLen (aCons (eCall f__law_loops (aCons (eVar 2) (aCons (eVar 4) aNil))) aNil)) aNil)))) m_law_b1_2)
def m_law_b1 : Sv := (sSeq (sSet 4 (eCall f__law_bits (aCons (eCall f__law_number (aCons (eVar 0) (aCons (eP dAdd (aCons (eC (.int 10)) (aCons (eVar 3) aNil))) aNil))) (aCons (eP dLen (aCons (eP dIdx (aCons (eVar 2) (aCons (eC (.int 1)) aNil))) aNil)) aNil)))) m_law_b1_1)
def m_law_2 : Sv := (sSeq (sFor (iRng (aCons (eC (.int 4)) aNil)) (gN 3) m_law_b1) (sRet (eC (.bl true))))
def m_law_1 : Sv := (sSeq (sSet 2 (eCall f__law_drawn (aCons (eVar 0) (aCons (eC (.int 1)) (aCons (eVar 1) (aCons (eC (.int 2)) aNil)))))) m_law_2)
def m_law : Sv := (sSeq (sSet 1 (eChk D.isFlat (eP dIdx (aCons (eLst (aCons (eC (.int 5)) (aCons (eC (.int 5)) (aCons (eC (.int 5)) (aCons (eC (.int 8)) (aCons (eC (.int 5)) (aCons (eC (.int 5)) (aCons (eC (.int 5)) (aCons (eC (.int 5)) aNil))))))))) (aCons (eP dMod (aCons (eCall f__law_number (aCons (eVar 0) (aCons (eC (.int 20)) aNil))) (aCons (eC (.int 8)) aNil))) aNil))))) m_law_1)
def f_law : List D → Option Res := fnSem 9 [.flat] m_law
end K34

/-! ## K34w -/
namespace K34
open PySem PySem.Spec PyProof.Rows L2 VV VP

def top (i : Nat) : Stmt := PySem.Challenge.pw_loopcube_k34_heights_and_weights.main.body.getD i (.Pass ⟨0, 0, 0, 0⟩)
abbrev FnP (K : PySem.W.Frag) (x : Str) (st : Stmt) (f : Addr) (fd : FuncData) : Prop := FunD K x x (defArgs st) (defBody st) (defScope st) [] [] f fd
abbrev s__law_cell_at : Stmt := top 6
abbrev N__law_cell_at : List Str := ["_law_script", "_law_k"]
abbrev s__law_number : Stmt := top 7
abbrev N__law_number : List Str := ["_law_script", "_law_k", "_law_x", "_law_total", "_law_j"]
abbrev s__law_closed : Stmt := top 9
abbrev N__law_closed : List Str := ["_law_strands", "_law_letters_here", "_law_here", "_law_crossings", "_law_k", "_law_letter", "_law_at", "_law_fresh", "_law_back", "_law_rings", "_law_row", "_law_name"]
abbrev s__law_new_names : Stmt := top 11
abbrev N__law_new_names : List Str := ["_law_drawing", "_law_cell", "_law_names", "_law_row", "_law_by", "_law_rest", "_law_name", "_law_rings"]
abbrev s__law_letters : Stmt := top 8
abbrev N__law_letters : List Str := ["_law_cell", "_law_strands", "_law_most", "_law_found", "_law_rest", "_law_k", "_law_place_here"]
abbrev s__law_curl : Stmt := top 10
abbrev N__law_curl : List Str := ["_law_drawing", "_law_cell", "_law_rings", "_law_crossings", "_law_names", "_law_row", "_law_e", "_law_loop", "_law_last", "_law_sign", "_law_new", "_law_moved", "_law_ins", "_law_name", "_law_ring"]
abbrev s__law_mixed_up : Stmt := top 12
abbrev N__law_mixed_up : List Str := ["_law_some", "_law_cell", "_law_left", "_law_found"]
abbrev s__law_drawn : Stmt := top 13
abbrev N__law_drawn : List Str := ["_law_script", "_law_at", "_law_most", "_law_curls", "_law_head", "_law_strands", "_law_drawing", "_law_k", "_law_cell"]
abbrev s__law_bits : Stmt := top 20
abbrev N__law_bits : List Str := ["_law_cell", "_law_many", "_law_found", "_law_k"]
abbrev s__law_signs : Stmt := top 18
abbrev N__law_signs : List Str := ["_law_drawing", "_law_more", "_law_row"]
abbrev s__law_place : Stmt := top 19
abbrev N__law_place : List Str := ["_law_drawing", "_law_word", "_law_opening", "_law_marks", "_law_more", "_law_less", "_law_ones"]
abbrev s_signs : Stmt := top 1
abbrev N_signs : List Str := ["drawing", "many", "crossing"]
abbrev s_height_of : Stmt := top 3
abbrev N_height_of : List Str := ["drawing", "word"]
abbrev s_weight_of : Stmt := top 4
abbrev N_weight_of : List Str := ["drawing", "word", "opening", "marks", "more", "less"]
abbrev s__law_told : Stmt := top 21
abbrev N__law_told : List Str := ["_law_drawing", "_law_word", "_law_found", "_law_number_here"]
abbrev s__law_ends : Stmt := top 15
abbrev N__law_ends : List Str := ["_law_row"]
abbrev s__law_loops : Stmt := top 16
abbrev N__law_loops : List Str := ["_law_drawing", "_law_opening", "_law_names", "_law_row", "_law_heaps", "_law_bit", "_law_a", "_law_b", "_law_c", "_law_d", "_law_one", "_law_other", "_law_mine", "_law_yours", "_law_name", "_law_heap"]
abbrev s__law_copied : Stmt := top 14
abbrev N__law_copied : List Str := ["_law_drawing"]
abbrev s_law : Stmt := top 22
abbrev N_law : List Str := ["_law_script", "_law_most", "_law_drawing", "_law_k", "_law_opening", "_law_marks", "_law_due", "_law_at", "_law_more"]
section
variable {P : Program} {w : World} {K : PySem.W.Frag} {mg : Str → Option Value} {base : Heap}
theorem sc__law_cell_at : FnScope N__law_cell_at ["_law_script", "_law_k"] (defScope s__law_cell_at) := ⟨rfl, rfl, rfl, by decide +kernel, rfl, by decide +kernel, by decide +kernel⟩
theorem ok__law_cell_at {f : Addr} {fd : FuncData} (F : FnP K "_law_cell_at" s__law_cell_at f fd) (b_len : mg "len" = none) : FnOk P w K mg base CX0 1 f fd ["_law_script", "_law_k"] (sp0 ⟨mg, K⟩ f__law_cell_at 2 .flat) := by
  have sc := sc__law_cell_at
  let N : List Str := N__law_cell_at
  let st : Stmt := s__law_cell_at
  refine fn_ok0 (Γ' := []) (sc := ⟨[], .flat, [], []⟩) (k := 0) F sc [.flat, .flat] rfl (by decide) rfl fun cdv A outer s0 H E hr => ?_
  exact (ss_cons (sx_if (et_lt (ex_var (k := .flat) 1 rfl (by decide) rfl (by first | exact Or.inl rfl | exact Or.inr (Or.inl rfl) | exact Or.inr (Or.inr rfl))) (ex_callB call_len cp_len rfl b_len boot_len (ea_cons (ex_var (k := .flat) 0 rfl (by decide) rfl (by first | exact Or.inl rfl | exact Or.inr (Or.inl rfl) | exact Or.inr (Or.inr rfl))) (ea_nil))))
        (ss_one (sx_ret (ex_idx (ex_var (k := .flat) 0 rfl (by decide) rfl (by first | exact Or.inl rfl | exact Or.inr (Or.inl rfl) | exact Or.inr (Or.inr rfl))) (ex_var (k := .flat) 1 rfl (by decide) rfl (by first | exact Or.inl rfl | exact Or.inr (Or.inl rfl) | exact Or.inr (Or.inr rfl))))))
        (ss_nil))
        (ss_one (sx_ret (ex_int))))
theorem cal__law_cell_at {f : Addr} {fd : FuncData} (F : FnP K "_law_cell_at" s__law_cell_at f fd) (h : mg "_law_cell_at" = some (.ref f)) (b_len : mg "len" = none) : Cal P w K mg base "_law_cell_at" 1 ["_law_script", "_law_k"] f__law_cell_at .flat :=
  ⟨f, fd, ok__law_cell_at F b_len, h, F.kp, FunD.bindsN F fun _ _ _ _ _ _ us hl => match us, hl with | [_, _], _ => rfl⟩
theorem sc__law_number : FnScope N__law_number ["_law_script", "_law_k"] (defScope s__law_number) := ⟨rfl, rfl, rfl, by decide +kernel, rfl, by decide +kernel, by decide +kernel⟩
theorem ok__law_number {f : Addr} {fd : FuncData} (F : FnP K "_law_number" s__law_number f fd) (b_abs : mg "abs" = none) (b_range : mg "range" = none) (c__law_cell_at : Cal P w K mg base "_law_cell_at" 1 ["_law_script", "_law_k"] f__law_cell_at .flat) : FnOk P w K mg base CX0 2 f fd ["_law_script", "_law_k"] (sp0 ⟨mg, K⟩ f__law_number 2 .flat) := by
  have sc := sc__law_number
  let N : List Str := N__law_number
  let st : Stmt := s__law_number
  refine fn_ok0 (Γ' := []) (sc := ⟨[], .flat, [], []⟩) (k := 1) F sc [.flat, .flat] rfl (by decide) rfl fun cdv A outer s0 H E hr => ?_
  exact (ss_cons (sx_if (et_ge (ex_callB call_abs cp_abs rfl b_abs (by decide +kernel) (ea_cons (ex_calls_flat c__law_cell_at (hr.mono (by decide)) rfl (ea_cons (ex_var (k := .flat) 0 rfl (by decide) rfl (by first | exact Or.inl rfl | exact Or.inr (Or.inl rfl) | exact Or.inr (Or.inr rfl))) (ea_cons (ex_var (k := .flat) 1 rfl (by decide) rfl (by first | exact Or.inl rfl | exact Or.inr (Or.inl rfl) | exact Or.inr (Or.inr rfl))) (ea_nil)))) (ea_nil))) (ex_powc (c := 1000000000000000000) (ex_pow (ex_int) (ex_int)) (by unfold CPow; decide) (by decide)))
        (ss_one (sx_ret (ex_calls_flat c__law_cell_at (hr.mono (by decide)) rfl (ea_cons (ex_var (k := .flat) 0 rfl (by decide) rfl (by first | exact Or.inl rfl | exact Or.inr (Or.inl rfl) | exact Or.inr (Or.inr rfl))) (ea_cons (ex_var (k := .flat) 1 rfl (by decide) rfl (by first | exact Or.inl rfl | exact Or.inr (Or.inl rfl) | exact Or.inr (Or.inr rfl))) (ea_nil))))))
        (ss_nil))
        (ss_cons (sx_set (i := 2) 2 3 sc.nd rfl (by first | exact Or.inl rfl | exact Or.inr rfl) (ex_add (ex_add (ex_calls_flat c__law_cell_at (hr.mono (by decide)) rfl (ea_cons (ex_var (k := .flat) 0 rfl (by decide) rfl (by first | exact Or.inl rfl | exact Or.inr (Or.inl rfl) | exact Or.inr (Or.inr rfl))) (ea_cons (ex_int) (ea_nil)))) (ex_mul (ex_int) (ex_var (k := .flat) 1 rfl (by decide) rfl (by first | exact Or.inl rfl | exact Or.inr (Or.inl rfl) | exact Or.inr (Or.inr rfl))))) (ex_mul (ex_int) (ex_calls_flat c__law_cell_at (hr.mono (by decide)) rfl (ea_cons (ex_var (k := .flat) 0 rfl (by decide) rfl (by first | exact Or.inl rfl | exact Or.inr (Or.inl rfl) | exact Or.inr (Or.inr rfl))) (ea_cons (ex_var (k := .flat) 1 rfl (by decide) rfl (by first | exact Or.inl rfl | exact Or.inr (Or.inl rfl) | exact Or.inr (Or.inr rfl))) (ea_nil)))))))
        (ss_cons (sx_set (i := 2) 4 5 sc.nd rfl (by first | exact Or.inl rfl | exact Or.inr rfl) (ex_add (ex_mod (ex_var (k := .flat) 2 rfl (by decide) rfl (by first | exact Or.inl rfl | exact Or.inr (Or.inl rfl) | exact Or.inr (Or.inr rfl))) (ex_int)) (ex_int)))
        (ss_cons (sx_set (i := 3) 6 7 sc.nd rfl (by first | exact Or.inl rfl | exact Or.inr rfl) (ex_int))
        (ss_cons (sx_for 8 rfl PassesOwn.never (ei_range1 rfl b_range (ea_cons (ex_int) (ea_nil))) (eg_name sc.nd (i := 4) rfl (by first | exact Or.inl rfl | exact Or.inr rfl))
        (ss_conv (Γ' := [.flat, .flat, .flat, .flat, .dead]) [] (ss_cons (sx_set (i := 2) 9 10 sc.nd rfl (by first | exact Or.inl rfl | exact Or.inr rfl) (ex_mod (ex_add (ex_add (ex_add (ex_mul (ex_var (k := .flat) 2 rfl (by decide) rfl (by first | exact Or.inl rfl | exact Or.inr (Or.inl rfl) | exact Or.inr (Or.inr rfl))) (ex_int)) (ex_div (ex_var (k := .flat) 2 rfl (by decide) rfl (by first | exact Or.inl rfl | exact Or.inr (Or.inl rfl) | exact Or.inr (Or.inr rfl))) (ex_int))) (ex_mul (ex_mul (ex_int) (ex_var (k := .flat) 4 rfl (by decide) rfl (by first | exact Or.inl rfl | exact Or.inr (Or.inl rfl) | exact Or.inr (Or.inr rfl)))) (ex_var (k := .flat) 4 rfl (by decide) rfl (by first | exact Or.inl rfl | exact Or.inr (Or.inl rfl) | exact Or.inr (Or.inr rfl))))) (ex_int)) (ex_int)))
        (ss_one (sx_set (i := 3) 11 12 sc.nd rfl (by first | exact Or.inl rfl | exact Or.inr rfl) (ex_add (ex_mul (ex_var (k := .flat) 3 rfl (by decide) rfl (by first | exact Or.inl rfl | exact Or.inr (Or.inl rfl) | exact Or.inr (Or.inr rfl))) (ex_int)) (ex_mod (ex_mul (ex_var (k := .flat) 2 rfl (by decide) rfl (by first | exact Or.inl rfl | exact Or.inr (Or.inl rfl) | exact Or.inr (Or.inr rfl))) (ex_int)) (ex_int)))))) (by decide) (by decide)))
        (ss_one (sx_ret (ex_var (k := .flat) 3 rfl (by decide) rfl (by first | exact Or.inl rfl | exact Or.inr (Or.inl rfl) | exact Or.inr (Or.inr rfl))))))))))
theorem cal__law_number {f : Addr} {fd : FuncData} (F : FnP K "_law_number" s__law_number f fd) (h : mg "_law_number" = some (.ref f)) (b_abs : mg "abs" = none) (b_range : mg "range" = none) (c__law_cell_at : Cal P w K mg base "_law_cell_at" 1 ["_law_script", "_law_k"] f__law_cell_at .flat) : Cal P w K mg base "_law_number" 2 ["_law_script", "_law_k"] f__law_number .flat :=
  ⟨f, fd, ok__law_number F b_abs b_range c__law_cell_at, h, F.kp, FunD.bindsN F fun _ _ _ _ _ _ us hl => match us, hl with | [_, _], _ => rfl⟩
theorem sc__law_closed : FnScope N__law_closed ["_law_strands", "_law_letters_here"] (defScope s__law_closed) := ⟨rfl, rfl, rfl, by decide +kernel, rfl, by decide +kernel, by decide +kernel⟩
theorem ok__law_closed {f : Addr} {fd : FuncData} (F : FnP K "_law_closed" s__law_closed f fd) (b_abs : mg "abs" = none) (b_enumerate : mg "enumerate" = none) (b_list : mg "list" = none) (b_range : mg "range" = none) (b_tuple : mg "tuple" = none) : FnOk P w K mg base CX0 1 f fd ["_law_strands", "_law_letters_here"] (sp0 ⟨mg, K⟩ f__law_closed 2 .fresh) := by
  have sc := sc__law_closed
  let N : List Str := N__law_closed
  let st : Stmt := s__law_closed
  refine fn_ok0 (Γ' := []) (sc := ⟨[], .fresh, [], []⟩) (k := 0) F sc [.flat, .lab none [0] false] rfl (by decide) rfl fun cdv A outer s0 H E hr => ?_
  exact (ss_cons (sx_set (i := 2) 2 3 sc.nd rfl (by first | exact Or.inl rfl | exact Or.inr rfl) (ex_rngL rfl rfl b_list rfl b_range (ex_var (k := .flat) 0 rfl (by decide) rfl (by first | exact Or.inl rfl | exact Or.inr (Or.inl rfl) | exact Or.inr (Or.inr rfl)))))
        (ss_cons (sx_set (i := 3) 4 5 sc.nd rfl (by first | exact Or.inl rfl | exact Or.inr rfl) (ex_lst (ea_nil)))
        (ss_cons (sx_for 6 rfl PassesOwn.never (ei_enum rfl b_enumerate (ex_var (k := .lab none [0] false) 1 rfl (by decide) rfl (by first | exact Or.inl rfl | exact Or.inr (Or.inl rfl) | exact Or.inr (Or.inr rfl)))) (eg_tup rfl (egs_cons (eg_flat (eg_name sc.nd (i := 4) rfl (by first | exact Or.inl rfl | exact Or.inr rfl))) (egs_cons (eg_flat (eg_name sc.nd (i := 5) rfl (by first | exact Or.inl rfl | exact Or.inr rfl))) (egs_nil))))
        (ss_conv (Γ' := [.flat, .lab none [0] false, .lab (some 2) [] true, .lab (some 4) [] true, .dead, .dead, .dead, .dead, .dead, .dead, .dead, .dead]) [] (ss_cons (sx_set (i := 6) 7 8 sc.nd rfl (by first | exact Or.inl rfl | exact Or.inr rfl) (ex_sub (ex_callB call_abs cp_abs rfl b_abs (by decide +kernel) (ea_cons (ex_var (k := .flat) 5 rfl (by decide) rfl (by first | exact Or.inl rfl | exact Or.inr (Or.inl rfl) | exact Or.inr (Or.inr rfl))) (ea_nil))) (ex_int)))
        (ss_cons (sx_set (i := 7) 9 10 sc.nd rfl (by first | exact Or.inl rfl | exact Or.inr rfl) (ex_tup (ea_cons (ex_add (ex_var (k := .flat) 0 rfl (by decide) rfl (by first | exact Or.inl rfl | exact Or.inr (Or.inl rfl) | exact Or.inr (Or.inr rfl))) (ex_mul (ex_int) (ex_var (k := .flat) 4 rfl (by decide) rfl (by first | exact Or.inl rfl | exact Or.inr (Or.inl rfl) | exact Or.inr (Or.inr rfl))))) (ea_cons (ex_add (ex_add (ex_var (k := .flat) 0 rfl (by decide) rfl (by first | exact Or.inl rfl | exact Or.inr (Or.inl rfl) | exact Or.inr (Or.inr rfl))) (ex_mul (ex_int) (ex_var (k := .flat) 4 rfl (by decide) rfl (by first | exact Or.inl rfl | exact Or.inr (Or.inl rfl) | exact Or.inr (Or.inr rfl))))) (ex_int)) (ea_nil)))))
        (ss_cons (sx_if (et_gt (ex_var (k := .flat) 5 rfl (by decide) rfl (by first | exact Or.inl rfl | exact Or.inr (Or.inl rfl) | exact Or.inr (Or.inr rfl))) (ex_int))
        (ss_one (sx_append (i := 3) (n := 4) (L := []) (nd := true) 11 rfl rfl (by first | exact Or.inl rfl | exact Or.inr (Or.inl rfl) | exact Or.inr (Or.inr rfl)) (ex_tup (ea_cons (ex_int) (ea_cons (ex_flat (ex_idx (ex_var (k := .lab (some 2) [] true) 2 rfl (by decide) rfl (by first | exact Or.inl rfl | exact Or.inr (Or.inl rfl) | exact Or.inr (Or.inr rfl))) (ex_add (ex_var (k := .flat) 6 rfl (by decide) rfl (by first | exact Or.inl rfl | exact Or.inr (Or.inl rfl) | exact Or.inr (Or.inr rfl))) (ex_int)))) (ea_cons (ex_idx (ex_var (k := .flat) 7 rfl (by decide) rfl (by first | exact Or.inl rfl | exact Or.inr (Or.inl rfl) | exact Or.inr (Or.inr rfl))) (ex_int)) (ea_cons (ex_flat (ex_idx (ex_var (k := .lab (some 2) [] true) 2 rfl (by decide) rfl (by first | exact Or.inl rfl | exact Or.inr (Or.inl rfl) | exact Or.inr (Or.inr rfl))) (ex_var (k := .flat) 6 rfl (by decide) rfl (by first | exact Or.inl rfl | exact Or.inr (Or.inl rfl) | exact Or.inr (Or.inr rfl))))) (ea_cons (ex_idx (ex_var (k := .flat) 7 rfl (by decide) rfl (by first | exact Or.inl rfl | exact Or.inr (Or.inl rfl) | exact Or.inr (Or.inr rfl))) (ex_int)) (ea_nil)))))))))
        (ss_one (sx_append (i := 3) (n := 4) (L := []) (nd := true) 12 rfl rfl (by first | exact Or.inl rfl | exact Or.inr (Or.inl rfl) | exact Or.inr (Or.inr rfl)) (ex_tup (ea_cons (ex_neg (ex_int)) (ea_cons (ex_flat (ex_idx (ex_var (k := .lab (some 2) [] true) 2 rfl (by decide) rfl (by first | exact Or.inl rfl | exact Or.inr (Or.inl rfl) | exact Or.inr (Or.inr rfl))) (ex_var (k := .flat) 6 rfl (by decide) rfl (by first | exact Or.inl rfl | exact Or.inr (Or.inl rfl) | exact Or.inr (Or.inr rfl))))) (ea_cons (ex_idx (ex_var (k := .flat) 7 rfl (by decide) rfl (by first | exact Or.inl rfl | exact Or.inr (Or.inl rfl) | exact Or.inr (Or.inr rfl))) (ex_int)) (ea_cons (ex_flat (ex_idx (ex_var (k := .lab (some 2) [] true) 2 rfl (by decide) rfl (by first | exact Or.inl rfl | exact Or.inr (Or.inl rfl) | exact Or.inr (Or.inr rfl))) (ex_add (ex_var (k := .flat) 6 rfl (by decide) rfl (by first | exact Or.inl rfl | exact Or.inr (Or.inl rfl) | exact Or.inr (Or.inr rfl))) (ex_int)))) (ea_cons (ex_idx (ex_var (k := .flat) 7 rfl (by decide) rfl (by first | exact Or.inl rfl | exact Or.inr (Or.inl rfl) | exact Or.inr (Or.inr rfl))) (ex_int)) (ea_nil))))))))))
        (ss_one (sx_put2 rfl (ex_var (k := .flat) 7 rfl (by decide) rfl (by first | exact Or.inl rfl | exact Or.inr (Or.inl rfl) | exact Or.inr (Or.inr rfl))) (sg_lput (i := 2) (n := 2) (L := []) (nd := true) rfl rfl (by first | exact Or.inl rfl | exact Or.inr (Or.inl rfl) | exact Or.inr (Or.inr rfl)) (ex_var (k := .flat) 6 rfl (by decide) rfl (by first | exact Or.inl rfl | exact Or.inr (Or.inl rfl) | exact Or.inr (Or.inr rfl)))) (sg_lput (i := 2) (n := 2) (L := []) (nd := true) rfl rfl (by first | exact Or.inl rfl | exact Or.inr (Or.inl rfl) | exact Or.inr (Or.inr rfl)) (ex_add (ex_var (k := .flat) 6 rfl (by decide) rfl (by first | exact Or.inl rfl | exact Or.inr (Or.inl rfl) | exact Or.inr (Or.inr rfl))) (ex_int)))))))) (by decide) (by decide)))
        (ss_cons (sx_set (i := 8) 13 14 sc.nd rfl (by first | exact Or.inl rfl | exact Or.inr rfl) (ex_dnewK))
        (ss_cons (sx_for 15 rfl PassesOwn.never (ei_range1 rfl b_range (ea_cons (ex_var (k := .flat) 0 rfl (by decide) rfl (by first | exact Or.inl rfl | exact Or.inr (Or.inl rfl) | exact Or.inr (Or.inr rfl))) (ea_nil))) (eg_name sc.nd (i := 4) rfl (by first | exact Or.inl rfl | exact Or.inr rfl))
        (ss_conv (Γ' := [.flat, .lab none [0] false, .lab (some 2) [] true, .lab (some 4) [] true, .dead, .dead, .dead, .dead, .lab (some 13) [] true, .dead, .dead, .dead]) [] (ss_one (sx_dput (i := 8) (n := 13) (L := []) (nd := true) 16 (Nat.lt_of_le_of_lt (Nat.add_le_add_left (by decide) _) hr.units) rfl rfl (by first | exact Or.inl rfl | exact Or.inr (Or.inl rfl) | exact Or.inr (Or.inr rfl)) (ex_var (k := .flat) 4 rfl (by decide) rfl (by first | exact Or.inl rfl | exact Or.inr (Or.inl rfl) | exact Or.inr (Or.inr rfl))) (ex_flat (ex_idx (ex_var (k := .lab (some 2) [] true) 2 rfl (by decide) rfl (by first | exact Or.inl rfl | exact Or.inr (Or.inl rfl) | exact Or.inr (Or.inr rfl))) (ex_var (k := .flat) 4 rfl (by decide) rfl (by first | exact Or.inl rfl | exact Or.inr (Or.inl rfl) | exact Or.inr (Or.inr rfl))))))) (by decide) (by decide)))
        (ss_cons (sx_setLc (i := 9) (own := [("_law_k", 4)]) 19 17 18 rfl sc.nd rfl rfl (sw_true rfl rfl rfl (by decide +kernel)) (ei_range1 rfl b_range (ea_cons (ex_var (k := .flat) 0 rfl (by decide) rfl (by first | exact Or.inl rfl | exact Or.inr (Or.inl rfl) | exact Or.inr (Or.inr rfl))) (ea_nil))) (blkOk_by (by kernel_rfl)) (fun _ _ _ _ _ => eg_name sc.nd (i := 4) rfl (by first | exact Or.inl rfl | exact Or.inr rfl)) (fun _ _ _ _ _ => ets_one (et_eq hr.units (ex_flat (ex_idx (ex_var (k := .lab (some 2) [] true) 2 rfl (by decide) rfl (by first | exact Or.inl rfl | exact Or.inr (Or.inl rfl) | exact Or.inr (Or.inr rfl))) (ex_var (k := .flat) 4 rfl (by decide) rfl (by first | exact Or.inl rfl | exact Or.inr (Or.inl rfl) | exact Or.inr (Or.inr rfl))))) (ex_var (k := .flat) 4 rfl (by decide) rfl (by first | exact Or.inl rfl | exact Or.inr (Or.inl rfl) | exact Or.inr (Or.inr rfl))))) (fun _ _ _ _ _ => ex_var (k := .flat) 4 rfl (by decide) rfl (by first | exact Or.inl rfl | exact Or.inr (Or.inl rfl) | exact Or.inr (Or.inr rfl))))
        (ss_one (sx_ret (ex_tup (ea_cons (ex_var (k := .lab (some 17) [] true) 9 rfl (by decide) rfl (by first | exact Or.inl rfl | exact Or.inr (Or.inl rfl) | exact Or.inr (Or.inr rfl))) (ea_cons (ex_lc (own := [("_law_row", 10)]) 20 rfl sc.nd (ei_list (ex_var (k := .lab (some 4) [] true) 3 rfl (by decide) rfl (by first | exact Or.inl rfl | exact Or.inr (Or.inl rfl) | exact Or.inr (Or.inr rfl)))) (blkOk_by (by kernel_rfl)) (fun _ _ _ _ _ => eg_flat (eg_name sc.nd (i := 10) rfl (by first | exact Or.inl rfl | exact Or.inr rfl))) (fun _ _ _ _ _ => ets_nil) (fun _ _ _ _ _ => ex_catT (ex_tup (ea_cons (ex_idx (ex_var (k := .flat) 10 rfl (by decide) rfl (by first | exact Or.inl rfl | exact Or.inr (Or.inl rfl) | exact Or.inr (Or.inr rfl))) (ex_int)) (ea_nil))) (ex_flat (ex_tuple rfl b_tuple (by decide +kernel) (ex_lc (own := [("_law_name", 11)]) 21 rfl sc.nd (ei_tup (ex_slT (ex_var (k := .flat) 10 rfl (by decide) rfl (by first | exact Or.inl rfl | exact Or.inr (Or.inl rfl) | exact Or.inr (Or.inr rfl))) (eo_some (ex_int)) (eo_none))) (blkOk_by (by kernel_rfl)) (fun _ _ _ _ _ => eg_name sc.nd (i := 11) rfl (by first | exact Or.inl rfl | exact Or.inr rfl)) (fun _ _ _ _ _ => ets_nil) (fun _ _ _ _ _ => ex_flat (ex_dget2 (Nat.lt_of_le_of_lt (Nat.add_le_add_left (by decide) _) hr.units) (ex_var (k := .lab (some 13) [] true) 8 rfl (by decide) rfl (by first | exact Or.inl rfl | exact Or.inr (Or.inl rfl) | exact Or.inr (Or.inr rfl))) (ex_var (k := .flat) 11 rfl (by decide) rfl (by first | exact Or.inl rfl | exact Or.inr (Or.inl rfl) | exact Or.inr (Or.inr rfl))) (ex_var (k := .flat) 11 rfl (by decide) rfl (by first | exact Or.inl rfl | exact Or.inr (Or.inl rfl) | exact Or.inr (Or.inr rfl)))))))))) (ea_nil))))))))))))
theorem cal__law_closed {f : Addr} {fd : FuncData} (F : FnP K "_law_closed" s__law_closed f fd) (h : mg "_law_closed" = some (.ref f)) (b_abs : mg "abs" = none) (b_enumerate : mg "enumerate" = none) (b_list : mg "list" = none) (b_range : mg "range" = none) (b_tuple : mg "tuple" = none) : Cal P w K mg base "_law_closed" 1 ["_law_strands", "_law_letters_here"] f__law_closed .fresh :=
  ⟨f, fd, ok__law_closed F b_abs b_enumerate b_list b_range b_tuple, h, F.kp, FunD.bindsN F fun _ _ _ _ _ _ us hl => match us, hl with | [_, _], _ => rfl⟩
theorem sc__law_new_names : FnScope N__law_new_names ["_law_drawing", "_law_cell"] (defScope s__law_new_names) := ⟨rfl, rfl, rfl, by decide +kernel, rfl, by decide +kernel, by decide +kernel⟩
theorem ok__law_new_names {f : Addr} {fd : FuncData} (F : FnP K "_law_new_names" s__law_new_names f fd) (b_len : mg "len" = none) (b_list : mg "list" = none) (b_tuple : mg "tuple" = none) : FnOk P w K mg base CX0 1 f fd ["_law_drawing", "_law_cell"] (sp0 ⟨mg, K⟩ f__law_new_names 2 .fresh) := by
  have sc := sc__law_new_names
  let N : List Str := N__law_new_names
  let st : Stmt := s__law_new_names
  refine fn_ok0 (Γ' := []) (sc := ⟨[], .fresh, [], []⟩) (k := 0) F sc [.lab none [0] false, .flat] rfl (by decide) rfl fun cdv A outer s0 H E hr => ?_
  exact (ss_cons (sx_set (i := 2) 2 3 sc.nd rfl (by first | exact Or.inl rfl | exact Or.inr rfl) (ex_kids (ex_list rfl b_list (by decide +kernel) (ex_idx (ex_var (k := .lab none [0] false) 0 rfl (by decide) rfl (by first | exact Or.inl rfl | exact Or.inr (Or.inl rfl) | exact Or.inr (Or.inr rfl))) (ex_int)))))
        (ss_cons (sx_pre (Γ1 := [.lab none [0] false, .flat, .lab none [2, 5] true, .dead, .dead, .dead, .dead, .dead]) [] (sx_for 4 rfl PassesOwn.never (ei_list (ex_idx (ex_var (k := .lab none [0] false) 0 rfl (by decide) rfl (by first | exact Or.inl rfl | exact Or.inr (Or.inl rfl) | exact Or.inr (Or.inr rfl))) (ex_int))) (eg_flat (eg_name sc.nd (i := 3) rfl (by first | exact Or.inl rfl | exact Or.inr rfl)))
        (ss_conv (Γ' := [.lab none [0] false, .flat, .lab none [2, 5] true, .dead, .dead, .dead, .dead, .dead]) [] (ss_one (sx_set (i := 2) 5 6 sc.nd rfl (by first | exact Or.inl rfl | exact Or.inr rfl) (ex_catF (ex_var (k := .lab none [2, 5] true) 2 rfl (by decide) rfl (by first | exact Or.inl rfl | exact Or.inr (Or.inl rfl) | exact Or.inr (Or.inr rfl))) (ex_list rfl b_list (by decide +kernel) (ex_slT (ex_var (k := .flat) 3 rfl (by decide) rfl (by first | exact Or.inl rfl | exact Or.inr (Or.inl rfl) | exact Or.inr (Or.inr rfl))) (eo_some (ex_int)) (eo_none)))))) (by decide) (by decide))) (by decide) (by decide))
        (ss_cons (sx_set (i := 4) 7 8 sc.nd rfl (by first | exact Or.inl rfl | exact Or.inr rfl) (ex_dnewK))
        (ss_cons (sx_set (i := 5) 9 10 sc.nd rfl (by first | exact Or.inl rfl | exact Or.inr rfl) (ex_div (ex_var (k := .flat) 1 rfl (by decide) rfl (by first | exact Or.inl rfl | exact Or.inr (Or.inl rfl) | exact Or.inr (Or.inr rfl))) (ex_int)))
        (ss_cons (sx_for 11 rfl PassesOwn.never (ei_list (ex_var (k := .lab none [2, 5] true) 2 rfl (by decide) rfl (by first | exact Or.inl rfl | exact Or.inr (Or.inl rfl) | exact Or.inr (Or.inr rfl)))) (eg_flat (eg_name sc.nd (i := 6) rfl (by first | exact Or.inl rfl | exact Or.inr rfl)))
        (ss_conv (Γ' := [.lab none [0] false, .flat, .lab none [2, 5] true, .dead, .lab (some 7) [] true, .flat, .dead, .dead]) [] (ss_one (sx_if (et_dnotin (Nat.lt_of_le_of_lt (Nat.add_le_add_left (by decide) _) hr.units) (ex_var (k := .flat) 6 rfl (by decide) rfl (by first | exact Or.inl rfl | exact Or.inr (Or.inl rfl) | exact Or.inr (Or.inr rfl))) (ex_var (k := .lab (some 7) [] true) 4 rfl (by decide) rfl (by first | exact Or.inl rfl | exact Or.inr (Or.inl rfl) | exact Or.inr (Or.inr rfl))))
        (ss_cons (sx_dput (i := 4) (n := 7) (L := []) (nd := true) 12 (Nat.lt_of_le_of_lt (Nat.add_le_add_left (by decide) _) hr.units) rfl rfl (by first | exact Or.inl rfl | exact Or.inr (Or.inl rfl) | exact Or.inr (Or.inr rfl)) (ex_mul (ex_add (ex_mul (ex_powc (c := 1000000000) (ex_pow (ex_int) (ex_int)) (by unfold CPow; decide) (by decide)) (ex_mod (ex_var (k := .flat) 5 rfl (by decide) rfl (by first | exact Or.inl rfl | exact Or.inr (Or.inl rfl) | exact Or.inr (Or.inr rfl))) (ex_int))) (ex_callB call_lenR cp_lenK rfl b_len boot_len (ea_cons (ex_var (k := .lab (some 7) [] true) 4 rfl (by decide) rfl (by first | exact Or.inl rfl | exact Or.inr (Or.inl rfl) | exact Or.inr (Or.inr rfl))) (ea_nil)))) (ex_flat (ex_idx (ex_lst (ea_cons (ex_int) (ea_cons (ex_neg (ex_int)) (ea_nil)))) (ex_mod (ex_var (k := .flat) 1 rfl (by decide) rfl (by first | exact Or.inl rfl | exact Or.inr (Or.inl rfl) | exact Or.inr (Or.inr rfl))) (ex_int))))) (ex_var (k := .flat) 6 rfl (by decide) rfl (by first | exact Or.inl rfl | exact Or.inr (Or.inl rfl) | exact Or.inr (Or.inr rfl))))
        (ss_one (sx_set (i := 5) 13 14 sc.nd rfl (by first | exact Or.inl rfl | exact Or.inr rfl) (ex_div (ex_var (k := .flat) 5 rfl (by decide) rfl (by first | exact Or.inl rfl | exact Or.inr (Or.inl rfl) | exact Or.inr (Or.inr rfl))) (ex_int)))))
        (ss_nil))) (by decide) (by decide)))
        (ss_cons (sx_setLc (i := 7) (own := [("_law_name", 6)]) 17 15 16 rfl sc.nd rfl rfl (sw_true rfl rfl rfl (by decide +kernel)) (ei_list (ex_idx (ex_var (k := .lab none [0] false) 0 rfl (by decide) rfl (by first | exact Or.inl rfl | exact Or.inr (Or.inl rfl) | exact Or.inr (Or.inr rfl))) (ex_int))) (blkOk_by (by kernel_rfl)) (fun _ _ _ _ _ => eg_flat (eg_name sc.nd (i := 6) rfl (by first | exact Or.inl rfl | exact Or.inr rfl))) (fun _ _ _ _ _ => ets_nil) (fun _ _ _ _ _ => ex_flat (ex_dget (Nat.lt_of_le_of_lt (Nat.add_le_add_left (by decide) _) hr.units) (ex_var (k := .lab (some 7) [] true) 4 rfl (by decide) rfl (by first | exact Or.inl rfl | exact Or.inr (Or.inl rfl) | exact Or.inr (Or.inr rfl))) (ex_var (k := .flat) 6 rfl (by decide) rfl (by first | exact Or.inl rfl | exact Or.inr (Or.inl rfl) | exact Or.inr (Or.inr rfl))))))
        (ss_one (sx_ret (ex_tup (ea_cons (ex_var (k := .lab (some 15) [] true) 7 rfl (by decide) rfl (by first | exact Or.inl rfl | exact Or.inr (Or.inl rfl) | exact Or.inr (Or.inr rfl))) (ea_cons (ex_lc (own := [("_law_row", 3)]) 18 rfl sc.nd (ei_list (ex_idx (ex_var (k := .lab none [0] false) 0 rfl (by decide) rfl (by first | exact Or.inl rfl | exact Or.inr (Or.inl rfl) | exact Or.inr (Or.inr rfl))) (ex_int))) (blkOk_by (by kernel_rfl)) (fun _ _ _ _ _ => eg_flat (eg_name sc.nd (i := 3) rfl (by first | exact Or.inl rfl | exact Or.inr rfl))) (fun _ _ _ _ _ => ets_nil) (fun _ _ _ _ _ => ex_catT (ex_tup (ea_cons (ex_idx (ex_var (k := .flat) 3 rfl (by decide) rfl (by first | exact Or.inl rfl | exact Or.inr (Or.inl rfl) | exact Or.inr (Or.inr rfl))) (ex_int)) (ea_nil))) (ex_flat (ex_tuple rfl b_tuple (by decide +kernel) (ex_lc (own := [("_law_name", 6)]) 19 rfl sc.nd (ei_tup (ex_slT (ex_var (k := .flat) 3 rfl (by decide) rfl (by first | exact Or.inl rfl | exact Or.inr (Or.inl rfl) | exact Or.inr (Or.inr rfl))) (eo_some (ex_int)) (eo_none))) (blkOk_by (by kernel_rfl)) (fun _ _ _ _ _ => eg_name sc.nd (i := 6) rfl (by first | exact Or.inl rfl | exact Or.inr rfl)) (fun _ _ _ _ _ => ets_nil) (fun _ _ _ _ _ => ex_flat (ex_dget (Nat.lt_of_le_of_lt (Nat.add_le_add_left (by decide) _) hr.units) (ex_var (k := .lab (some 7) [] true) 4 rfl (by decide) rfl (by first | exact Or.inl rfl | exact Or.inr (Or.inl rfl) | exact Or.inr (Or.inr rfl))) (ex_var (k := .flat) 6 rfl (by decide) rfl (by first | exact Or.inl rfl | exact Or.inr (Or.inl rfl) | exact Or.inr (Or.inr rfl)))))))))) (ea_nil))))))))))))
theorem cal__law_new_names {f : Addr} {fd : FuncData} (F : FnP K "_law_new_names" s__law_new_names f fd) (h : mg "_law_new_names" = some (.ref f)) (b_len : mg "len" = none) (b_list : mg "list" = none) (b_tuple : mg "tuple" = none) : Cal P w K mg base "_law_new_names" 1 ["_law_drawing", "_law_cell"] f__law_new_names .fresh :=
  ⟨f, fd, ok__law_new_names F b_len b_list b_tuple, h, F.kp, FunD.bindsN F fun _ _ _ _ _ _ us hl => match us, hl with | [_, _], _ => rfl⟩
theorem sc__law_letters : FnScope N__law_letters ["_law_cell", "_law_strands", "_law_most"] (defScope s__law_letters) := ⟨rfl, rfl, rfl, by decide +kernel, rfl, by decide +kernel, by decide +kernel⟩
theorem ok__law_letters {f : Addr} {fd : FuncData} (F : FnP K "_law_letters" s__law_letters f fd) (b_range : mg "range" = none) : FnOk P w K mg base CX0 1 f fd ["_law_cell", "_law_strands", "_law_most"] (sp0 ⟨mg, K⟩ f__law_letters 3 .fresh) := by
  have sc := sc__law_letters
  let N : List Str := N__law_letters
  let st : Stmt := s__law_letters
  refine fn_ok0 (Γ' := []) (sc := ⟨[], .fresh, [], []⟩) (k := 0) F sc [.flat, .flat, .flat] rfl (by decide) rfl fun cdv A outer s0 H E hr => ?_
  exact (ss_cons (sx_set (i := 3) 2 3 sc.nd rfl (by first | exact Or.inl rfl | exact Or.inr rfl) (ex_lst (ea_nil)))
        (ss_cons (sx_set (i := 4) 4 5 sc.nd rfl (by first | exact Or.inl rfl | exact Or.inr rfl) (ex_div (ex_var (k := .flat) 0 rfl (by decide) rfl (by first | exact Or.inl rfl | exact Or.inr (Or.inl rfl) | exact Or.inr (Or.inr rfl))) (ex_add (ex_var (k := .flat) 2 rfl (by decide) rfl (by first | exact Or.inl rfl | exact Or.inr (Or.inl rfl) | exact Or.inr (Or.inr rfl))) (ex_int))))
        (ss_cons (sx_if (et_gt (ex_var (k := .flat) 1 rfl (by decide) rfl (by first | exact Or.inl rfl | exact Or.inr (Or.inl rfl) | exact Or.inr (Or.inr rfl))) (ex_int))
        (ss_one (sx_for 6 rfl PassesOwn.never (ei_range1 rfl b_range (ea_cons (ex_mod (ex_var (k := .flat) 0 rfl (by decide) rfl (by first | exact Or.inl rfl | exact Or.inr (Or.inl rfl) | exact Or.inr (Or.inr rfl))) (ex_add (ex_var (k := .flat) 2 rfl (by decide) rfl (by first | exact Or.inl rfl | exact Or.inr (Or.inl rfl) | exact Or.inr (Or.inr rfl))) (ex_int))) (ea_nil))) (eg_name sc.nd (i := 5) rfl (by first | exact Or.inl rfl | exact Or.inr rfl))
        (ss_conv (Γ' := [.flat, .flat, .flat, .lab (some 2) [] true, .flat, .dead, .dead]) [] (ss_cons (sx_set (i := 6) 7 8 sc.nd rfl (by first | exact Or.inl rfl | exact Or.inr rfl) (ex_add (ex_int) (ex_mod (ex_var (k := .flat) 4 rfl (by decide) rfl (by first | exact Or.inl rfl | exact Or.inr (Or.inl rfl) | exact Or.inr (Or.inr rfl))) (ex_sub (ex_var (k := .flat) 1 rfl (by decide) rfl (by first | exact Or.inl rfl | exact Or.inr (Or.inl rfl) | exact Or.inr (Or.inr rfl))) (ex_int)))))
        (ss_cons (sx_set (i := 4) 9 10 sc.nd rfl (by first | exact Or.inl rfl | exact Or.inr rfl) (ex_div (ex_var (k := .flat) 4 rfl (by decide) rfl (by first | exact Or.inl rfl | exact Or.inr (Or.inl rfl) | exact Or.inr (Or.inr rfl))) (ex_sub (ex_var (k := .flat) 1 rfl (by decide) rfl (by first | exact Or.inl rfl | exact Or.inr (Or.inl rfl) | exact Or.inr (Or.inr rfl))) (ex_int))))
        (ss_cons (sx_append (i := 3) (n := 2) (L := []) (nd := true) 11 rfl rfl (by first | exact Or.inl rfl | exact Or.inr (Or.inl rfl) | exact Or.inr (Or.inr rfl)) (ex_mul (ex_var (k := .flat) 6 rfl (by decide) rfl (by first | exact Or.inl rfl | exact Or.inr (Or.inl rfl) | exact Or.inr (Or.inr rfl))) (ex_flat (ex_idx (ex_lst (ea_cons (ex_int) (ea_cons (ex_neg (ex_int)) (ea_nil)))) (ex_mod (ex_var (k := .flat) 4 rfl (by decide) rfl (by first | exact Or.inl rfl | exact Or.inr (Or.inl rfl) | exact Or.inr (Or.inr rfl))) (ex_int))))))
        (ss_one (sx_set (i := 4) 12 13 sc.nd rfl (by first | exact Or.inl rfl | exact Or.inr rfl) (ex_div (ex_var (k := .flat) 4 rfl (by decide) rfl (by first | exact Or.inl rfl | exact Or.inr (Or.inl rfl) | exact Or.inr (Or.inr rfl))) (ex_int))))))) (by decide) (by decide))))
        (ss_nil))
        (ss_one (sx_ret (ex_var (k := .lab (some 2) [] true) 3 rfl (by decide) rfl (by first | exact Or.inl rfl | exact Or.inr (Or.inl rfl) | exact Or.inr (Or.inr rfl))))))))
theorem cal__law_letters {f : Addr} {fd : FuncData} (F : FnP K "_law_letters" s__law_letters f fd) (h : mg "_law_letters" = some (.ref f)) (b_range : mg "range" = none) : Cal P w K mg base "_law_letters" 1 ["_law_cell", "_law_strands", "_law_most"] f__law_letters .fresh :=
  ⟨f, fd, ok__law_letters F b_range, h, F.kp, FunD.bindsN F fun _ _ _ _ _ _ us hl => match us, hl with | [_, _, _], _ => rfl⟩
theorem sc__law_curl : FnScope N__law_curl ["_law_drawing", "_law_cell"] (defScope s__law_curl) := ⟨rfl, rfl, rfl, by decide +kernel, rfl, by decide +kernel, by decide +kernel⟩
theorem ok__law_curl {f : Addr} {fd : FuncData} (F : FnP K "_law_curl" s__law_curl f fd) (b_int : mg "int" = none) (b_len : mg "len" = none) (b_list : mg "list" = none) (b_max : mg "max" = none) (b_set : mg "set" = none) (b_sorted : mg "sorted" = none) : FnOk P w K mg base CX0 1 f fd ["_law_drawing", "_law_cell"] (sp0 ⟨mg, K⟩ f__law_curl 2 .fresh) := by
  have sc := sc__law_curl
  let N : List Str := N__law_curl
  let st : Stmt := s__law_curl
  refine fn_ok0 (Γ' := []) (sc := ⟨[], .fresh, [], []⟩) (k := 0) F sc [.lab none [0] false, .flat] rfl (by decide) rfl fun cdv A outer s0 H E hr => ?_
  exact (ss_cons (sx_asg 2 3 (ex_var (k := .lab none [0] false) 0 rfl (by decide) rfl (by first | exact Or.inl rfl | exact Or.inr (Or.inl rfl) | exact Or.inr (Or.inr rfl))) (eg_tup rfl (egs_cons (eg_name sc.nd (i := 2) rfl (by first | exact Or.inl rfl | exact Or.inr rfl)) (egs_cons (eg_name sc.nd (i := 3) rfl (by first | exact Or.inl rfl | exact Or.inr rfl)) (egs_nil)))))
        (ss_cons (sx_set (i := 4) 4 5 sc.nd rfl (by first | exact Or.inl rfl | exact Or.inr rfl) (ex_kids (ex_list rfl b_list (by decide +kernel) (ex_var (k := .lab none [0] false) 2 rfl (by decide) rfl (by first | exact Or.inl rfl | exact Or.inr (Or.inl rfl) | exact Or.inr (Or.inr rfl))))))
        (ss_cons (sx_pre (Γ1 := [.lab none [0] false, .flat, .lab none [0] false, .lab none [0] false, .lab none [4, 7] true, .dead, .dead, .dead, .dead, .dead, .dead, .dead, .dead, .dead, .dead]) [] (sx_for 6 rfl PassesOwn.never (ei_list (ex_var (k := .lab none [0] false) 3 rfl (by decide) rfl (by first | exact Or.inl rfl | exact Or.inr (Or.inl rfl) | exact Or.inr (Or.inr rfl)))) (eg_flat (eg_name sc.nd (i := 5) rfl (by first | exact Or.inl rfl | exact Or.inr rfl)))
        (ss_conv (Γ' := [.lab none [0] false, .flat, .lab none [0] false, .lab none [0] false, .lab none [4, 7] true, .dead, .dead, .dead, .dead, .dead, .dead, .dead, .dead, .dead, .dead]) [] (ss_one (sx_set (i := 4) 7 8 sc.nd rfl (by first | exact Or.inl rfl | exact Or.inr rfl) (ex_catF (ex_var (k := .lab none [4, 7] true) 4 rfl (by decide) rfl (by first | exact Or.inl rfl | exact Or.inr (Or.inl rfl) | exact Or.inr (Or.inr rfl))) (ex_list rfl b_list (by decide +kernel) (ex_slT (ex_var (k := .flat) 5 rfl (by decide) rfl (by first | exact Or.inl rfl | exact Or.inr (Or.inl rfl) | exact Or.inr (Or.inr rfl))) (eo_some (ex_int)) (eo_none)))))) (by decide) (by decide))) (by decide) (by decide))
        (ss_cons (sx_set (i := 6) 9 10 sc.nd rfl (by first | exact Or.inl rfl | exact Or.inr rfl) (ex_flat (ex_idx (ex_sortSet rfl rfl b_sorted rfl b_set (by decide +kernel) (by decide +kernel) (ex_var (k := .lab none [4, 7] true) 4 rfl (by decide) rfl (by first | exact Or.inl rfl | exact Or.inr (Or.inl rfl) | exact Or.inr (Or.inr rfl)))) (ex_mod (ex_var (k := .flat) 1 rfl (by decide) rfl (by first | exact Or.inl rfl | exact Or.inr (Or.inl rfl) | exact Or.inr (Or.inr rfl))) (ex_lenSet rfl rfl b_len rfl b_set boot_len (by decide +kernel) (ex_var (k := .lab none [4, 7] true) 4 rfl (by decide) rfl (by first | exact Or.inl rfl | exact Or.inr (Or.inl rfl) | exact Or.inr (Or.inr rfl))))))))
        (ss_cons (sx_set (i := 7) 11 12 sc.nd rfl (by first | exact Or.inl rfl | exact Or.inr rfl) (ex_add (ex_callB (cr_max rfl) cp_maxL rfl b_max (by decide +kernel) (ea_cons (ex_var (k := .lab none [4, 7] true) 4 rfl (by decide) rfl (by first | exact Or.inl rfl | exact Or.inr (Or.inl rfl) | exact Or.inr (Or.inr rfl))) (ea_nil))) (ex_int)))
        (ss_cons (sx_set (i := 8) 13 14 sc.nd rfl (by first | exact Or.inl rfl | exact Or.inr rfl) (ex_flat (ex_idx (ex_lst (ea_cons (ex_add (ex_var (k := .flat) 7 rfl (by decide) rfl (by first | exact Or.inl rfl | exact Or.inr (Or.inl rfl) | exact Or.inr (Or.inr rfl))) (ex_int)) (ea_cons (ex_var (k := .flat) 6 rfl (by decide) rfl (by first | exact Or.inl rfl | exact Or.inr (Or.inl rfl) | exact Or.inr (Or.inr rfl))) (ea_nil)))) (ex_callTy call_int1 cp_int1 rfl b_int (by decide +kernel) (ea_cons (ex_inX hr.units2 (ex_var (k := .flat) 6 rfl (by decide) rfl (by first | exact Or.inl rfl | exact Or.inr (Or.inl rfl) | exact Or.inr (Or.inr rfl))) (ex_var (k := .lab none [0] false) 2 rfl (by decide) rfl (by first | exact Or.inl rfl | exact Or.inr (Or.inl rfl) | exact Or.inr (Or.inr rfl)))) (ea_nil))))))
        (ss_cons (sx_set (i := 9) 15 16 sc.nd rfl (by first | exact Or.inl rfl | exact Or.inr rfl) (ex_flat (ex_idx (ex_lst (ea_cons (ex_int) (ea_cons (ex_neg (ex_int)) (ea_nil)))) (ex_mod (ex_div (ex_var (k := .flat) 1 rfl (by decide) rfl (by first | exact Or.inl rfl | exact Or.inr (Or.inl rfl) | exact Or.inr (Or.inr rfl))) (ex_int)) (ex_int)))))
        (ss_cons (sx_set (i := 10) 17 18 sc.nd rfl (by first | exact Or.inl rfl | exact Or.inr rfl) (ex_flat (ex_idx (ex_lst (ea_cons (ex_tup (ea_cons (ex_var (k := .flat) 9 rfl (by decide) rfl (by first | exact Or.inl rfl | exact Or.inr (Or.inl rfl) | exact Or.inr (Or.inr rfl))) (ea_cons (ex_var (k := .flat) 6 rfl (by decide) rfl (by first | exact Or.inl rfl | exact Or.inr (Or.inl rfl) | exact Or.inr (Or.inr rfl))) (ea_cons (ex_var (k := .flat) 7 rfl (by decide) rfl (by first | exact Or.inl rfl | exact Or.inr (Or.inl rfl) | exact Or.inr (Or.inr rfl))) (ea_cons (ex_var (k := .flat) 7 rfl (by decide) rfl (by first | exact Or.inl rfl | exact Or.inr (Or.inl rfl) | exact Or.inr (Or.inr rfl))) (ea_cons (ex_var (k := .flat) 8 rfl (by decide) rfl (by first | exact Or.inl rfl | exact Or.inr (Or.inl rfl) | exact Or.inr (Or.inr rfl))) (ea_nil))))))) (ea_cons (ex_tup (ea_cons (ex_var (k := .flat) 9 rfl (by decide) rfl (by first | exact Or.inl rfl | exact Or.inr (Or.inl rfl) | exact Or.inr (Or.inr rfl))) (ea_cons (ex_var (k := .flat) 7 rfl (by decide) rfl (by first | exact Or.inl rfl | exact Or.inr (Or.inl rfl) | exact Or.inr (Or.inr rfl))) (ea_cons (ex_var (k := .flat) 8 rfl (by decide) rfl (by first | exact Or.inl rfl | exact Or.inr (Or.inl rfl) | exact Or.inr (Or.inr rfl))) (ea_cons (ex_var (k := .flat) 6 rfl (by decide) rfl (by first | exact Or.inl rfl | exact Or.inr (Or.inl rfl) | exact Or.inr (Or.inr rfl))) (ea_cons (ex_var (k := .flat) 7 rfl (by decide) rfl (by first | exact Or.inl rfl | exact Or.inr (Or.inl rfl) | exact Or.inr (Or.inr rfl))) (ea_nil))))))) (ea_nil)))) (ex_mod (ex_div (ex_var (k := .flat) 1 rfl (by decide) rfl (by first | exact Or.inl rfl | exact Or.inr (Or.inl rfl) | exact Or.inr (Or.inr rfl))) (ex_int)) (ex_int)))))
        (ss_cons (sx_set (i := 11) 19 20 sc.nd rfl (by first | exact Or.inl rfl | exact Or.inr rfl) (ex_lst (ea_nil)))
        (ss_cons (sx_for 21 rfl PassesOwn.never (ei_list (ex_var (k := .lab none [0] false) 3 rfl (by decide) rfl (by first | exact Or.inl rfl | exact Or.inr (Or.inl rfl) | exact Or.inr (Or.inr rfl)))) (eg_flat (eg_name sc.nd (i := 5) rfl (by first | exact Or.inl rfl | exact Or.inr rfl)))
        (ss_conv (Γ' := [.lab none [0] false, .flat, .lab none [0] false, .lab none [0] false, .lab none [4, 7] true, .dead, .flat, .flat, .flat, .flat, .flat, .lab (some 19) [] true, .dead, .dead, .dead]) [] (ss_cons (sx_setLc (i := 12) (own := [("_law_name", 13)]) 24 22 23 rfl sc.nd rfl rfl (sw_true rfl rfl rfl (by decide +kernel)) (ei_tup (ex_tup (ea_cons (ex_idx (ex_var (k := .flat) 5 rfl (by decide) rfl (by first | exact Or.inl rfl | exact Or.inr (Or.inl rfl) | exact Or.inr (Or.inr rfl))) (ex_int)) (ea_cons (ex_idx (ex_var (k := .flat) 5 rfl (by decide) rfl (by first | exact Or.inl rfl | exact Or.inr (Or.inl rfl) | exact Or.inr (Or.inr rfl))) (ex_int)) (ea_nil))))) (blkOk_by (by kernel_rfl)) (fun _ _ _ _ _ => eg_name sc.nd (i := 13) rfl (by first | exact Or.inl rfl | exact Or.inr rfl)) (fun _ _ _ _ _ => ets_nil) (fun _ _ _ _ _ => ex_flat (ex_idx (ex_lst (ea_cons (ex_var (k := .flat) 13 rfl (by decide) rfl (by first | exact Or.inl rfl | exact Or.inr (Or.inl rfl) | exact Or.inr (Or.inr rfl))) (ea_cons (ex_var (k := .flat) 8 rfl (by decide) rfl (by first | exact Or.inl rfl | exact Or.inr (Or.inl rfl) | exact Or.inr (Or.inr rfl))) (ea_nil)))) (ex_callTy call_int1 cp_int1 rfl b_int (by decide +kernel) (ea_cons (ex_eq hr.units (ex_var (k := .flat) 13 rfl (by decide) rfl (by first | exact Or.inl rfl | exact Or.inr (Or.inl rfl) | exact Or.inr (Or.inr rfl))) (ex_var (k := .flat) 6 rfl (by decide) rfl (by first | exact Or.inl rfl | exact Or.inr (Or.inl rfl) | exact Or.inr (Or.inr rfl)))) (ea_nil))))))
        (ss_one (sx_append (i := 11) (n := 19) (L := []) (nd := true) 25 rfl rfl (by first | exact Or.inl rfl | exact Or.inr (Or.inl rfl) | exact Or.inr (Or.inr rfl)) (ex_tup (ea_cons (ex_idx (ex_var (k := .flat) 5 rfl (by decide) rfl (by first | exact Or.inl rfl | exact Or.inr (Or.inl rfl) | exact Or.inr (Or.inr rfl))) (ex_int)) (ea_cons (ex_flat (ex_idx (ex_var (k := .lab (some 22) [] true) 12 rfl (by decide) rfl (by first | exact Or.inl rfl | exact Or.inr (Or.inl rfl) | exact Or.inr (Or.inr rfl))) (ex_int))) (ea_cons (ex_idx (ex_var (k := .flat) 5 rfl (by decide) rfl (by first | exact Or.inl rfl | exact Or.inr (Or.inl rfl) | exact Or.inr (Or.inr rfl))) (ex_int)) (ea_cons (ex_flat (ex_idx (ex_var (k := .lab (some 22) [] true) 12 rfl (by decide) rfl (by first | exact Or.inl rfl | exact Or.inr (Or.inl rfl) | exact Or.inr (Or.inr rfl))) (ex_int))) (ea_cons (ex_idx (ex_var (k := .flat) 5 rfl (by decide) rfl (by first | exact Or.inl rfl | exact Or.inr (Or.inl rfl) | exact Or.inr (Or.inr rfl))) (ex_int)) (ea_nil)))))))))) (by decide) (by decide)))
        (ss_one (sx_ret (ex_tup (ea_cons (ex_lc (own := [("_law_ring", 14)]) 26 rfl sc.nd (ei_list (ex_var (k := .lab none [0] false) 2 rfl (by decide) rfl (by first | exact Or.inl rfl | exact Or.inr (Or.inl rfl) | exact Or.inr (Or.inr rfl)))) (blkOk_by (by kernel_rfl)) (fun _ _ _ _ _ => eg_flat (eg_name sc.nd (i := 14) rfl (by first | exact Or.inl rfl | exact Or.inr rfl))) (fun _ _ _ _ _ => ets_one (et_ne hr.units (ex_var (k := .flat) 14 rfl (by decide) rfl (by first | exact Or.inl rfl | exact Or.inr (Or.inl rfl) | exact Or.inr (Or.inr rfl))) (ex_var (k := .flat) 6 rfl (by decide) rfl (by first | exact Or.inl rfl | exact Or.inr (Or.inl rfl) | exact Or.inr (Or.inr rfl))))) (fun _ _ _ _ _ => ex_var (k := .flat) 14 rfl (by decide) rfl (by first | exact Or.inl rfl | exact Or.inr (Or.inl rfl) | exact Or.inr (Or.inr rfl)))) (ea_cons (ex_catF (ex_var (k := .lab (some 19) [] true) 11 rfl (by decide) rfl (by first | exact Or.inl rfl | exact Or.inr (Or.inl rfl) | exact Or.inr (Or.inr rfl))) (ex_lst (ea_cons (ex_var (k := .flat) 10 rfl (by decide) rfl (by first | exact Or.inl rfl | exact Or.inr (Or.inl rfl) | exact Or.inr (Or.inr rfl))) (ea_nil)))) (ea_nil))))))))))))))))
theorem cal__law_curl {f : Addr} {fd : FuncData} (F : FnP K "_law_curl" s__law_curl f fd) (h : mg "_law_curl" = some (.ref f)) (b_int : mg "int" = none) (b_len : mg "len" = none) (b_list : mg "list" = none) (b_max : mg "max" = none) (b_set : mg "set" = none) (b_sorted : mg "sorted" = none) : Cal P w K mg base "_law_curl" 1 ["_law_drawing", "_law_cell"] f__law_curl .fresh :=
  ⟨f, fd, ok__law_curl F b_int b_len b_list b_max b_set b_sorted, h, F.kp, FunD.bindsN F fun _ _ _ _ _ _ us hl => match us, hl with | [_, _], _ => rfl⟩
theorem sc__law_mixed_up : FnScope N__law_mixed_up ["_law_some", "_law_cell"] (defScope s__law_mixed_up) := ⟨rfl, rfl, rfl, by decide +kernel, rfl, by decide +kernel, by decide +kernel⟩
theorem ok__law_mixed_up {f : Addr} {fd : FuncData} (F : FnP K "_law_mixed_up" s__law_mixed_up f fd) (b_len : mg "len" = none) (b_list : mg "list" = none) : FnOk P w K mg base CX0 1 f fd ["_law_some", "_law_cell"] (sp0 ⟨mg, K⟩ f__law_mixed_up 2 .fresh) := by
  have sc := sc__law_mixed_up
  let N : List Str := N__law_mixed_up
  let st : Stmt := s__law_mixed_up
  refine fn_ok0 (Γ' := []) (sc := ⟨[], .fresh, [], []⟩) (k := 0) F sc [.lab none [0] false, .flat] rfl (by decide) rfl fun cdv A outer s0 H E hr => ?_
  exact (ss_cons (sx_set (i := 2) 2 3 sc.nd rfl (by first | exact Or.inl rfl | exact Or.inr rfl) (ex_kids (ex_list rfl b_list (by decide +kernel) (ex_var (k := .lab none [0] false) 0 rfl (by decide) rfl (by first | exact Or.inl rfl | exact Or.inr (Or.inl rfl) | exact Or.inr (Or.inr rfl))))))
        (ss_cons (sx_set (i := 3) 4 5 sc.nd rfl (by first | exact Or.inl rfl | exact Or.inr rfl) (ex_lst (ea_nil)))
        (ss_cons (sx_while PassesOwn.never (et_ne hr.units (ex_var (k := .lab (some 2) [] true) 2 rfl (by decide) rfl (by first | exact Or.inl rfl | exact Or.inr (Or.inl rfl) | exact Or.inr (Or.inr rfl))) (ex_lst (ea_nil)))
        (ss_conv (Γ' := [.lab none [0] false, .flat, .lab (some 2) [] true, .lab (some 4) [] true]) [] (ss_cons (sx_appPop (i := 3) (j := 2) (n := 4) (L := []) (nd := true) (n' := 2) (L' := []) (nd' := true) rfl rfl rfl rfl (by first | exact Or.inl rfl | exact Or.inr (Or.inl rfl) | exact Or.inr (Or.inr rfl)) rfl (by first | exact Or.inl rfl | exact Or.inr (Or.inl rfl) | exact Or.inr (Or.inr rfl)) (ex_mod (ex_var (k := .flat) 1 rfl (by decide) rfl (by first | exact Or.inl rfl | exact Or.inr (Or.inl rfl) | exact Or.inr (Or.inr rfl))) (ex_callB call_len cp_len rfl b_len boot_len (ea_cons (ex_var (k := .lab (some 2) [] true) 2 rfl (by decide) rfl (by first | exact Or.inl rfl | exact Or.inr (Or.inl rfl) | exact Or.inr (Or.inr rfl))) (ea_nil)))))
        (ss_one (sx_set (i := 1) 6 7 sc.nd rfl (by first | exact Or.inl rfl | exact Or.inr rfl) (ex_div (ex_var (k := .flat) 1 rfl (by decide) rfl (by first | exact Or.inl rfl | exact Or.inr (Or.inl rfl) | exact Or.inr (Or.inr rfl))) (ex_add (ex_callB call_len cp_len rfl b_len boot_len (ea_cons (ex_var (k := .lab (some 2) [] true) 2 rfl (by decide) rfl (by first | exact Or.inl rfl | exact Or.inr (Or.inl rfl) | exact Or.inr (Or.inr rfl))) (ea_nil))) (ex_int)))))) (by decide) (by decide)))
        (ss_one (sx_ret (ex_var (k := .lab (some 4) [] true) 3 rfl (by decide) rfl (by first | exact Or.inl rfl | exact Or.inr (Or.inl rfl) | exact Or.inr (Or.inr rfl))))))))
theorem cal__law_mixed_up {f : Addr} {fd : FuncData} (F : FnP K "_law_mixed_up" s__law_mixed_up f fd) (h : mg "_law_mixed_up" = some (.ref f)) (b_len : mg "len" = none) (b_list : mg "list" = none) : Cal P w K mg base "_law_mixed_up" 1 ["_law_some", "_law_cell"] f__law_mixed_up .fresh :=
  ⟨f, fd, ok__law_mixed_up F b_len b_list, h, F.kp, FunD.bindsN F fun _ _ _ _ _ _ us hl => match us, hl with | [_, _], _ => rfl⟩
theorem sc__law_drawn : FnScope N__law_drawn ["_law_script", "_law_at", "_law_most", "_law_curls"] (defScope s__law_drawn) := ⟨rfl, rfl, rfl, by decide +kernel, rfl, by decide +kernel, by decide +kernel⟩
theorem ok__law_drawn {f : Addr} {fd : FuncData} (F : FnP K "_law_drawn" s__law_drawn f fd) (b_min : mg "min" = none) (b_range : mg "range" = none) (c__law_number : Cal P w K mg base "_law_number" 2 ["_law_script", "_law_k"] f__law_number .flat) (c__law_closed : Cal P w K mg base "_law_closed" 1 ["_law_strands", "_law_letters_here"] f__law_closed .fresh) (c__law_letters : Cal P w K mg base "_law_letters" 1 ["_law_cell", "_law_strands", "_law_most"] f__law_letters .fresh) (c__law_curl : Cal P w K mg base "_law_curl" 1 ["_law_drawing", "_law_cell"] f__law_curl .fresh) (c__law_new_names : Cal P w K mg base "_law_new_names" 1 ["_law_drawing", "_law_cell"] f__law_new_names .fresh) (c__law_mixed_up : Cal P w K mg base "_law_mixed_up" 1 ["_law_some", "_law_cell"] f__law_mixed_up .fresh) : FnOk P w K mg base CX0 3 f fd ["_law_script", "_law_at", "_law_most", "_law_curls"] (sp0 ⟨mg, K⟩ f__law_drawn 4 .fresh) := by
  have sc := sc__law_drawn
  let N : List Str := N__law_drawn
  let st : Stmt := s__law_drawn
  refine fn_ok0 (Γ' := []) (sc := ⟨[], .fresh, [], []⟩) (k := 2) F sc [.flat, .flat, .flat, .flat] rfl (by decide) rfl fun cdv A outer s0 H E hr => ?_
  exact (ss_cons (sx_set (i := 4) 2 3 sc.nd rfl (by first | exact Or.inl rfl | exact Or.inr rfl) (ex_calls_flat c__law_number (hr.mono (by decide)) rfl (ea_cons (ex_var (k := .flat) 0 rfl (by decide) rfl (by first | exact Or.inl rfl | exact Or.inr (Or.inl rfl) | exact Or.inr (Or.inr rfl))) (ea_cons (ex_var (k := .flat) 1 rfl (by decide) rfl (by first | exact Or.inl rfl | exact Or.inr (Or.inl rfl) | exact Or.inr (Or.inr rfl))) (ea_nil)))))
        (ss_cons (sx_set (i := 5) 4 5 sc.nd rfl (by first | exact Or.inl rfl | exact Or.inr rfl) (ex_flat (ex_idx (ex_lst (ea_cons (ex_int) (ea_cons (ex_int) (ea_cons (ex_int) (ea_cons (ex_int) (ea_cons (ex_int) (ea_cons (ex_int) (ea_cons (ex_int) (ea_cons (ex_int) (ea_nil)))))))))) (ex_mod (ex_var (k := .flat) 4 rfl (by decide) rfl (by first | exact Or.inl rfl | exact Or.inr (Or.inl rfl) | exact Or.inr (Or.inr rfl))) (ex_int)))))
        (ss_cons (sx_set (i := 6) 6 7 sc.nd rfl (by first | exact Or.inl rfl | exact Or.inr rfl) (ex_calls_fresh c__law_closed (hr.mono (by decide)) rfl (ea_cons (ex_var (k := .flat) 5 rfl (by decide) rfl (by first | exact Or.inl rfl | exact Or.inr (Or.inl rfl) | exact Or.inr (Or.inr rfl))) (ea_cons (ex_kids (ex_calls_fresh c__law_letters (hr.mono (by decide)) rfl (ea_cons (ex_calls_flat c__law_number (hr.mono (by decide)) rfl (ea_cons (ex_var (k := .flat) 0 rfl (by decide) rfl (by first | exact Or.inl rfl | exact Or.inr (Or.inl rfl) | exact Or.inr (Or.inr rfl))) (ea_cons (ex_add (ex_var (k := .flat) 1 rfl (by decide) rfl (by first | exact Or.inl rfl | exact Or.inr (Or.inl rfl) | exact Or.inr (Or.inr rfl))) (ex_int)) (ea_nil)))) (ea_cons (ex_var (k := .flat) 5 rfl (by decide) rfl (by first | exact Or.inl rfl | exact Or.inr (Or.inl rfl) | exact Or.inr (Or.inr rfl))) (ea_cons (ex_var (k := .flat) 2 rfl (by decide) rfl (by first | exact Or.inl rfl | exact Or.inr (Or.inl rfl) | exact Or.inr (Or.inr rfl))) (ea_nil)))))) (ea_nil)))))
        (ss_cons (sx_pre (Γ1 := [.flat, .flat, .flat, .flat, .flat, .flat, .lab none [7, 6, 10, 9] true, .dead, .dead]) [] (sx_for 8 rfl PassesOwn.never (ei_range1 rfl b_range (ea_cons (ex_callB (call_min2 rfl) cp_min2 rfl b_min (by decide +kernel) (ea_cons (ex_var (k := .flat) 3 rfl (by decide) rfl (by first | exact Or.inl rfl | exact Or.inr (Or.inl rfl) | exact Or.inr (Or.inr rfl))) (ea_cons (ex_flat (ex_idx (ex_lst (ea_cons (ex_int) (ea_cons (ex_int) (ea_cons (ex_int) (ea_cons (ex_int) (ea_nil)))))) (ex_mod (ex_div (ex_var (k := .flat) 4 rfl (by decide) rfl (by first | exact Or.inl rfl | exact Or.inr (Or.inl rfl) | exact Or.inr (Or.inr rfl))) (ex_int)) (ex_int)))) (ea_nil)))) (ea_nil))) (eg_name sc.nd (i := 7) rfl (by first | exact Or.inl rfl | exact Or.inr rfl))
        (ss_conv (Γ' := [.flat, .flat, .flat, .flat, .flat, .flat, .lab none [7, 6, 10, 9] true, .dead, .dead]) [] (ss_one (sx_set (i := 6) 9 10 sc.nd rfl (by first | exact Or.inl rfl | exact Or.inr rfl) (ex_calls_fresh c__law_curl (hr.mono (by decide)) rfl (ea_cons (ex_var (k := .lab none [7, 6, 10, 9] true) 6 rfl (by decide) rfl (by first | exact Or.inl rfl | exact Or.inr (Or.inl rfl) | exact Or.inr (Or.inr rfl))) (ea_cons (ex_calls_flat c__law_number (hr.mono (by decide)) rfl (ea_cons (ex_var (k := .flat) 0 rfl (by decide) rfl (by first | exact Or.inl rfl | exact Or.inr (Or.inl rfl) | exact Or.inr (Or.inr rfl))) (ea_cons (ex_add (ex_add (ex_var (k := .flat) 1 rfl (by decide) rfl (by first | exact Or.inl rfl | exact Or.inr (Or.inl rfl) | exact Or.inr (Or.inr rfl))) (ex_int)) (ex_var (k := .flat) 7 rfl (by decide) rfl (by first | exact Or.inl rfl | exact Or.inr (Or.inl rfl) | exact Or.inr (Or.inr rfl)))) (ea_nil)))) (ea_nil)))))) (by decide) (by decide))) (by decide) (by decide))
        (ss_cons (sx_set (i := 6) 11 12 sc.nd rfl (by first | exact Or.inl rfl | exact Or.inr rfl) (ex_calls_fresh c__law_new_names (hr.mono (by decide)) rfl (ea_cons (ex_var (k := .lab none [7, 6, 10, 9] true) 6 rfl (by decide) rfl (by first | exact Or.inl rfl | exact Or.inr (Or.inl rfl) | exact Or.inr (Or.inr rfl))) (ea_cons (ex_calls_flat c__law_number (hr.mono (by decide)) rfl (ea_cons (ex_var (k := .flat) 0 rfl (by decide) rfl (by first | exact Or.inl rfl | exact Or.inr (Or.inl rfl) | exact Or.inr (Or.inr rfl))) (ea_cons (ex_add (ex_var (k := .flat) 1 rfl (by decide) rfl (by first | exact Or.inl rfl | exact Or.inr (Or.inl rfl) | exact Or.inr (Or.inr rfl))) (ex_int)) (ea_nil)))) (ea_nil)))))
        (ss_cons (sx_set (i := 8) 13 14 sc.nd rfl (by first | exact Or.inl rfl | exact Or.inr rfl) (ex_calls_flat c__law_number (hr.mono (by decide)) rfl (ea_cons (ex_var (k := .flat) 0 rfl (by decide) rfl (by first | exact Or.inl rfl | exact Or.inr (Or.inl rfl) | exact Or.inr (Or.inr rfl))) (ea_cons (ex_add (ex_var (k := .flat) 1 rfl (by decide) rfl (by first | exact Or.inl rfl | exact Or.inr (Or.inl rfl) | exact Or.inr (Or.inr rfl))) (ex_int)) (ea_nil)))))
        (ss_one (sx_ret (ex_tup (ea_cons (ex_kids (ex_calls_fresh c__law_mixed_up (hr.mono (by decide)) rfl (ea_cons (ex_idx (ex_var (k := .lab (some 11) [12] true) 6 rfl (by decide) rfl (by first | exact Or.inl rfl | exact Or.inr (Or.inl rfl) | exact Or.inr (Or.inr rfl))) (ex_int)) (ea_cons (ex_div (ex_var (k := .flat) 8 rfl (by decide) rfl (by first | exact Or.inl rfl | exact Or.inr (Or.inl rfl) | exact Or.inr (Or.inr rfl))) (ex_int)) (ea_nil))))) (ea_cons (ex_kids (ex_calls_fresh c__law_mixed_up (hr.mono (by decide)) rfl (ea_cons (ex_idx (ex_var (k := .lab (some 11) [12] true) 6 rfl (by decide) rfl (by first | exact Or.inl rfl | exact Or.inr (Or.inl rfl) | exact Or.inr (Or.inr rfl))) (ex_int)) (ea_cons (ex_var (k := .flat) 8 rfl (by decide) rfl (by first | exact Or.inl rfl | exact Or.inr (Or.inl rfl) | exact Or.inr (Or.inr rfl))) (ea_nil))))) (ea_nil))))))))))))
theorem cal__law_drawn {f : Addr} {fd : FuncData} (F : FnP K "_law_drawn" s__law_drawn f fd) (h : mg "_law_drawn" = some (.ref f)) (b_min : mg "min" = none) (b_range : mg "range" = none) (c__law_number : Cal P w K mg base "_law_number" 2 ["_law_script", "_law_k"] f__law_number .flat) (c__law_closed : Cal P w K mg base "_law_closed" 1 ["_law_strands", "_law_letters_here"] f__law_closed .fresh) (c__law_letters : Cal P w K mg base "_law_letters" 1 ["_law_cell", "_law_strands", "_law_most"] f__law_letters .fresh) (c__law_curl : Cal P w K mg base "_law_curl" 1 ["_law_drawing", "_law_cell"] f__law_curl .fresh) (c__law_new_names : Cal P w K mg base "_law_new_names" 1 ["_law_drawing", "_law_cell"] f__law_new_names .fresh) (c__law_mixed_up : Cal P w K mg base "_law_mixed_up" 1 ["_law_some", "_law_cell"] f__law_mixed_up .fresh) : Cal P w K mg base "_law_drawn" 3 ["_law_script", "_law_at", "_law_most", "_law_curls"] f__law_drawn .fresh :=
  ⟨f, fd, ok__law_drawn F b_min b_range c__law_number c__law_closed c__law_letters c__law_curl c__law_new_names c__law_mixed_up, h, F.kp, FunD.bindsN F fun _ _ _ _ _ _ us hl => match us, hl with | [_, _, _, _], _ => rfl⟩
theorem sc__law_bits : FnScope N__law_bits ["_law_cell", "_law_many"] (defScope s__law_bits) := ⟨rfl, rfl, rfl, by decide +kernel, rfl, by decide +kernel, by decide +kernel⟩
theorem ok__law_bits {f : Addr} {fd : FuncData} (F : FnP K "_law_bits" s__law_bits f fd) (b_range : mg "range" = none) (b_tuple : mg "tuple" = none) : FnOk P w K mg base CX0 1 f fd ["_law_cell", "_law_many"] (sp0 ⟨mg, K⟩ f__law_bits 2 .flat) := by
  have sc := sc__law_bits
  let N : List Str := N__law_bits
  let st : Stmt := s__law_bits
  refine fn_ok0 (Γ' := []) (sc := ⟨[], .flat, [], []⟩) (k := 0) F sc [.flat, .flat] rfl (by decide) rfl fun cdv A outer s0 H E hr => ?_
  exact (ss_cons (sx_set (i := 2) 2 3 sc.nd rfl (by first | exact Or.inl rfl | exact Or.inr rfl) (ex_lst (ea_nil)))
        (ss_cons (sx_for 4 rfl PassesOwn.never (ei_range1 rfl b_range (ea_cons (ex_var (k := .flat) 1 rfl (by decide) rfl (by first | exact Or.inl rfl | exact Or.inr (Or.inl rfl) | exact Or.inr (Or.inr rfl))) (ea_nil))) (eg_name sc.nd (i := 3) rfl (by first | exact Or.inl rfl | exact Or.inr rfl))
        (ss_conv (Γ' := [.flat, .flat, .lab (some 2) [] true, .dead]) [] (ss_cons (sx_append (i := 2) (n := 2) (L := []) (nd := true) 5 rfl rfl (by first | exact Or.inl rfl | exact Or.inr (Or.inl rfl) | exact Or.inr (Or.inr rfl)) (ex_mod (ex_var (k := .flat) 0 rfl (by decide) rfl (by first | exact Or.inl rfl | exact Or.inr (Or.inl rfl) | exact Or.inr (Or.inr rfl))) (ex_int)))
        (ss_one (sx_set (i := 0) 6 7 sc.nd rfl (by first | exact Or.inl rfl | exact Or.inr rfl) (ex_div (ex_var (k := .flat) 0 rfl (by decide) rfl (by first | exact Or.inl rfl | exact Or.inr (Or.inl rfl) | exact Or.inr (Or.inr rfl))) (ex_int))))) (by decide) (by decide)))
        (ss_one (sx_ret (ex_tupK rfl b_tuple (by decide +kernel) (ex_var (k := .lab (some 2) [] true) 2 rfl (by decide) rfl (by first | exact Or.inl rfl | exact Or.inr (Or.inl rfl) | exact Or.inr (Or.inr rfl))))))))
theorem cal__law_bits {f : Addr} {fd : FuncData} (F : FnP K "_law_bits" s__law_bits f fd) (h : mg "_law_bits" = some (.ref f)) (b_range : mg "range" = none) (b_tuple : mg "tuple" = none) : Cal P w K mg base "_law_bits" 1 ["_law_cell", "_law_many"] f__law_bits .flat :=
  ⟨f, fd, ok__law_bits F b_range b_tuple, h, F.kp, FunD.bindsN F fun _ _ _ _ _ _ us hl => match us, hl with | [_, _], _ => rfl⟩
theorem sc__law_signs : FnScope N__law_signs ["_law_drawing"] (defScope s__law_signs) := ⟨rfl, rfl, rfl, by decide +kernel, rfl, by decide +kernel, by decide +kernel⟩
theorem ok__law_signs {f : Addr} {fd : FuncData} (F : FnP K "_law_signs" s__law_signs f fd) (b_len : mg "len" = none) : FnOk P w K mg base CX0 1 f fd ["_law_drawing"] (sp0 ⟨mg, K⟩ f__law_signs 1 .flat) := by
  have sc := sc__law_signs
  let N : List Str := N__law_signs
  let st : Stmt := s__law_signs
  refine fn_ok0 (Γ' := []) (sc := ⟨[], .flat, [], []⟩) (k := 0) F sc [.lab none [0] false] rfl (by decide) rfl fun cdv A outer s0 H E hr => ?_
  exact (ss_cons (sx_set (i := 1) 2 3 sc.nd rfl (by first | exact Or.inl rfl | exact Or.inr rfl) (ex_callB call_len cp_len rfl b_len boot_len (ea_cons (ex_lc (own := [("_law_row", 2)]) 4 rfl sc.nd (ei_list (ex_idx (ex_var (k := .lab none [0] false) 0 rfl (by decide) rfl (by first | exact Or.inl rfl | exact Or.inr (Or.inl rfl) | exact Or.inr (Or.inr rfl))) (ex_int))) (blkOk_by (by kernel_rfl)) (fun _ _ _ _ _ => eg_flat (eg_name sc.nd (i := 2) rfl (by first | exact Or.inl rfl | exact Or.inr rfl))) (fun _ _ _ _ _ => ets_one (et_eq hr.units (ex_idx (ex_var (k := .flat) 2 rfl (by decide) rfl (by first | exact Or.inl rfl | exact Or.inr (Or.inl rfl) | exact Or.inr (Or.inr rfl))) (ex_int)) (ex_int))) (fun _ _ _ _ _ => ex_var (k := .flat) 2 rfl (by decide) rfl (by first | exact Or.inl rfl | exact Or.inr (Or.inl rfl) | exact Or.inr (Or.inr rfl)))) (ea_nil))))
        (ss_one (sx_ret (ex_tup (ea_cons (ex_var (k := .flat) 1 rfl (by decide) rfl (by first | exact Or.inl rfl | exact Or.inr (Or.inl rfl) | exact Or.inr (Or.inr rfl))) (ea_cons (ex_sub (ex_callB call_len cp_len rfl b_len boot_len (ea_cons (ex_idx (ex_var (k := .lab none [0] false) 0 rfl (by decide) rfl (by first | exact Or.inl rfl | exact Or.inr (Or.inl rfl) | exact Or.inr (Or.inr rfl))) (ex_int)) (ea_nil))) (ex_var (k := .flat) 1 rfl (by decide) rfl (by first | exact Or.inl rfl | exact Or.inr (Or.inl rfl) | exact Or.inr (Or.inr rfl)))) (ea_nil)))))))
theorem cal__law_signs {f : Addr} {fd : FuncData} (F : FnP K "_law_signs" s__law_signs f fd) (h : mg "_law_signs" = some (.ref f)) (b_len : mg "len" = none) : Cal P w K mg base "_law_signs" 1 ["_law_drawing"] f__law_signs .flat :=
  ⟨f, fd, ok__law_signs F b_len, h, F.kp, FunD.bindsN F fun _ _ _ _ _ _ us hl => match us, hl with | [_], _ => rfl⟩
theorem sc__law_place : FnScope N__law_place ["_law_drawing", "_law_word"] (defScope s__law_place) := ⟨rfl, rfl, rfl, by decide +kernel, rfl, by decide +kernel, by decide +kernel⟩
theorem ok__law_place {f : Addr} {fd : FuncData} (F : FnP K "_law_place" s__law_place f fd) (c__law_signs : Cal P w K mg base "_law_signs" 1 ["_law_drawing"] f__law_signs .flat) : FnOk P w K mg base CX0 2 f fd ["_law_drawing", "_law_word"] (sp0 ⟨mg, K⟩ f__law_place 2 .flat) := by
  have sc := sc__law_place
  let N : List Str := N__law_place
  let st : Stmt := s__law_place
  refine fn_ok0 (Γ' := []) (sc := ⟨[], .flat, [], []⟩) (k := 1) F sc [.lab none [0] false, .flat] rfl (by decide) rfl fun cdv A outer s0 H E hr => ?_
  exact (ss_cons (sx_asg 2 3 (ex_var (k := .flat) 1 rfl (by decide) rfl (by first | exact Or.inl rfl | exact Or.inr (Or.inl rfl) | exact Or.inr (Or.inr rfl))) (eg_tup rfl (egs_cons (eg_name sc.nd (i := 2) rfl (by first | exact Or.inl rfl | exact Or.inr rfl)) (egs_cons (eg_name sc.nd (i := 3) rfl (by first | exact Or.inl rfl | exact Or.inr rfl)) (egs_nil)))))
        (ss_cons (sx_asg 4 5 (ex_calls_flat c__law_signs (hr.mono (by decide)) rfl (ea_cons (ex_var (k := .lab none [0] false) 0 rfl (by decide) rfl (by first | exact Or.inl rfl | exact Or.inr (Or.inl rfl) | exact Or.inr (Or.inr rfl))) (ea_nil))) (eg_tup rfl (egs_cons (eg_name sc.nd (i := 4) rfl (by first | exact Or.inl rfl | exact Or.inr rfl)) (egs_cons (eg_name sc.nd (i := 5) rfl (by first | exact Or.inl rfl | exact Or.inr rfl)) (egs_nil)))))
        (ss_cons (sx_set (i := 6) 6 7 sc.nd rfl (by first | exact Or.inl rfl | exact Or.inr rfl) (ex_countK hr.units (ex_var (k := .flat) 2 rfl (by decide) rfl (by first | exact Or.inl rfl | exact Or.inr (Or.inl rfl) | exact Or.inr (Or.inr rfl))) (ex_int)))
        (ss_one (sx_ret (ex_tup (ea_cons (ex_sub (ex_var (k := .flat) 6 rfl (by decide) rfl (by first | exact Or.inl rfl | exact Or.inr (Or.inl rfl) | exact Or.inr (Or.inr rfl))) (ex_var (k := .flat) 5 rfl (by decide) rfl (by first | exact Or.inl rfl | exact Or.inr (Or.inl rfl) | exact Or.inr (Or.inr rfl)))) (ea_cons (ex_sub (ex_add (ex_add (ex_sub (ex_countK hr.units (ex_var (k := .flat) 3 rfl (by decide) rfl (by first | exact Or.inl rfl | exact Or.inr (Or.inl rfl) | exact Or.inr (Or.inr rfl))) (ex_int)) (ex_countK hr.units (ex_var (k := .flat) 3 rfl (by decide) rfl (by first | exact Or.inl rfl | exact Or.inr (Or.inl rfl) | exact Or.inr (Or.inr rfl))) (ex_int))) (ex_var (k := .flat) 6 rfl (by decide) rfl (by first | exact Or.inl rfl | exact Or.inr (Or.inl rfl) | exact Or.inr (Or.inr rfl)))) (ex_var (k := .flat) 4 rfl (by decide) rfl (by first | exact Or.inl rfl | exact Or.inr (Or.inl rfl) | exact Or.inr (Or.inr rfl)))) (ex_mul (ex_int) (ex_var (k := .flat) 5 rfl (by decide) rfl (by first | exact Or.inl rfl | exact Or.inr (Or.inl rfl) | exact Or.inr (Or.inr rfl))))) (ea_nil)))))))))
theorem cal__law_place {f : Addr} {fd : FuncData} (F : FnP K "_law_place" s__law_place f fd) (h : mg "_law_place" = some (.ref f)) (c__law_signs : Cal P w K mg base "_law_signs" 1 ["_law_drawing"] f__law_signs .flat) : Cal P w K mg base "_law_place" 2 ["_law_drawing", "_law_word"] f__law_place .flat :=
  ⟨f, fd, ok__law_place F c__law_signs, h, F.kp, FunD.bindsN F fun _ _ _ _ _ _ us hl => match us, hl with | [_, _], _ => rfl⟩
theorem sc_signs : FnScope N_signs ["drawing"] (defScope s_signs) := ⟨rfl, rfl, rfl, by decide +kernel, rfl, by decide +kernel, by decide +kernel⟩
theorem ok_signs {f : Addr} {fd : FuncData} (F : FnP K "signs" s_signs f fd) (b_len : mg "len" = none) : FnOk P w K mg base CX0 1 f fd ["drawing"] (sp0 ⟨mg, K⟩ f_signs 1 .flat) := by
  have sc := sc_signs
  let N : List Str := N_signs
  let st : Stmt := s_signs
  refine fn_ok0 (Γ' := []) (sc := ⟨[], .flat, [], []⟩) (k := 0) F sc [.lab none [0] false] rfl (by decide) rfl fun cdv A outer s0 H E hr => ?_
  exact (ss_cons (sx_set (i := 1) 2 3 sc.nd rfl (by first | exact Or.inl rfl | exact Or.inr rfl) (ex_callB call_len cp_len rfl b_len boot_len (ea_cons (ex_lc (own := [("crossing", 2)]) 4 rfl sc.nd (ei_list (ex_idx (ex_var (k := .lab none [0] false) 0 rfl (by decide) rfl (by first | exact Or.inl rfl | exact Or.inr (Or.inl rfl) | exact Or.inr (Or.inr rfl))) (ex_int))) (blkOk_by (by kernel_rfl)) (fun _ _ _ _ _ => eg_flat (eg_name sc.nd (i := 2) rfl (by first | exact Or.inl rfl | exact Or.inr rfl))) (fun _ _ _ _ _ => ets_one (et_eq hr.units (ex_idx (ex_var (k := .flat) 2 rfl (by decide) rfl (by first | exact Or.inl rfl | exact Or.inr (Or.inl rfl) | exact Or.inr (Or.inr rfl))) (ex_int)) (ex_int))) (fun _ _ _ _ _ => ex_var (k := .flat) 2 rfl (by decide) rfl (by first | exact Or.inl rfl | exact Or.inr (Or.inl rfl) | exact Or.inr (Or.inr rfl)))) (ea_nil))))
        (ss_one (sx_ret (ex_tup (ea_cons (ex_var (k := .flat) 1 rfl (by decide) rfl (by first | exact Or.inl rfl | exact Or.inr (Or.inl rfl) | exact Or.inr (Or.inr rfl))) (ea_cons (ex_sub (ex_callB call_len cp_len rfl b_len boot_len (ea_cons (ex_idx (ex_var (k := .lab none [0] false) 0 rfl (by decide) rfl (by first | exact Or.inl rfl | exact Or.inr (Or.inl rfl) | exact Or.inr (Or.inr rfl))) (ex_int)) (ea_nil))) (ex_var (k := .flat) 1 rfl (by decide) rfl (by first | exact Or.inl rfl | exact Or.inr (Or.inl rfl) | exact Or.inr (Or.inr rfl)))) (ea_nil)))))))
theorem cal_signs {f : Addr} {fd : FuncData} (F : FnP K "signs" s_signs f fd) (h : mg "signs" = some (.ref f)) (b_len : mg "len" = none) : Cal P w K mg base "signs" 1 ["drawing"] f_signs .flat :=
  ⟨f, fd, ok_signs F b_len, h, F.kp, FunD.bindsN F fun _ _ _ _ _ _ us hl => match us, hl with | [_], _ => rfl⟩
theorem sc_height_of : FnScope N_height_of ["drawing", "word"] (defScope s_height_of) := ⟨rfl, rfl, rfl, by decide +kernel, rfl, by decide +kernel, by decide +kernel⟩
theorem ok_height_of {f : Addr} {fd : FuncData} (F : FnP K "height_of" s_height_of f fd) (b_sum : mg "sum" = none) (c_signs : Cal P w K mg base "signs" 1 ["drawing"] f_signs .flat) : FnOk P w K mg base CX0 2 f fd ["drawing", "word"] (sp0 ⟨mg, K⟩ f_height_of 2 .flat) := by
  have sc := sc_height_of
  let N : List Str := N_height_of
  let st : Stmt := s_height_of
  refine fn_ok0 (Γ' := []) (sc := ⟨[], .flat, [], []⟩) (k := 1) F sc [.lab none [0] false, .flat] rfl (by decide) rfl fun cdv A outer s0 H E hr => ?_
  exact (ss_one (sx_ret (ex_sub (ex_callB (cr_sumT rfl) cp_sumK rfl b_sum (by decide +kernel) (ea_cons (ex_idx (ex_var (k := .flat) 1 rfl (by decide) rfl (by first | exact Or.inl rfl | exact Or.inr (Or.inl rfl) | exact Or.inr (Or.inr rfl))) (ex_int)) (ea_nil))) (ex_idx (ex_calls_flat c_signs (hr.mono (by decide)) rfl (ea_cons (ex_var (k := .lab none [0] false) 0 rfl (by decide) rfl (by first | exact Or.inl rfl | exact Or.inr (Or.inl rfl) | exact Or.inr (Or.inr rfl))) (ea_nil))) (ex_int)))))
theorem cal_height_of {f : Addr} {fd : FuncData} (F : FnP K "height_of" s_height_of f fd) (h : mg "height_of" = some (.ref f)) (b_sum : mg "sum" = none) (c_signs : Cal P w K mg base "signs" 1 ["drawing"] f_signs .flat) : Cal P w K mg base "height_of" 2 ["drawing", "word"] f_height_of .flat :=
  ⟨f, fd, ok_height_of F b_sum c_signs, h, F.kp, FunD.bindsN F fun _ _ _ _ _ _ us hl => match us, hl with | [_, _], _ => rfl⟩
theorem sc_weight_of : FnScope N_weight_of ["drawing", "word"] (defScope s_weight_of) := ⟨rfl, rfl, rfl, by decide +kernel, rfl, by decide +kernel, by decide +kernel⟩
theorem ok_weight_of {f : Addr} {fd : FuncData} (F : FnP K "weight_of" s_weight_of f fd) (b_len : mg "len" = none) (b_sum : mg "sum" = none) (c_signs : Cal P w K mg base "signs" 1 ["drawing"] f_signs .flat) : FnOk P w K mg base CX0 2 f fd ["drawing", "word"] (sp0 ⟨mg, K⟩ f_weight_of 2 .flat) := by
  have sc := sc_weight_of
  let N : List Str := N_weight_of
  let st : Stmt := s_weight_of
  refine fn_ok0 (Γ' := []) (sc := ⟨[], .flat, [], []⟩) (k := 1) F sc [.lab none [0] false, .flat] rfl (by decide) rfl fun cdv A outer s0 H E hr => ?_
  exact (ss_cons (sx_asg 2 3 (ex_var (k := .flat) 1 rfl (by decide) rfl (by first | exact Or.inl rfl | exact Or.inr (Or.inl rfl) | exact Or.inr (Or.inr rfl))) (eg_tup rfl (egs_cons (eg_name sc.nd (i := 2) rfl (by first | exact Or.inl rfl | exact Or.inr rfl)) (egs_cons (eg_name sc.nd (i := 3) rfl (by first | exact Or.inl rfl | exact Or.inr rfl)) (egs_nil)))))
        (ss_cons (sx_asg 4 5 (ex_calls_flat c_signs (hr.mono (by decide)) rfl (ea_cons (ex_var (k := .lab none [0] false) 0 rfl (by decide) rfl (by first | exact Or.inl rfl | exact Or.inr (Or.inl rfl) | exact Or.inr (Or.inr rfl))) (ea_nil))) (eg_tup rfl (egs_cons (eg_name sc.nd (i := 4) rfl (by first | exact Or.inl rfl | exact Or.inr rfl)) (egs_cons (eg_name sc.nd (i := 5) rfl (by first | exact Or.inl rfl | exact Or.inr rfl)) (egs_nil)))))
        (ss_one (sx_ret (ex_sub (ex_add (ex_add (ex_sub (ex_callB call_len cp_lenT rfl b_len boot_len (ea_cons (ex_var (k := .flat) 3 rfl (by decide) rfl (by first | exact Or.inl rfl | exact Or.inr (Or.inl rfl) | exact Or.inr (Or.inr rfl))) (ea_nil))) (ex_mul (ex_int) (ex_callB (cr_sumT rfl) cp_sumK rfl b_sum (by decide +kernel) (ea_cons (ex_var (k := .flat) 3 rfl (by decide) rfl (by first | exact Or.inl rfl | exact Or.inr (Or.inl rfl) | exact Or.inr (Or.inr rfl))) (ea_nil))))) (ex_callB (cr_sumT rfl) cp_sumK rfl b_sum (by decide +kernel) (ea_cons (ex_var (k := .flat) 2 rfl (by decide) rfl (by first | exact Or.inl rfl | exact Or.inr (Or.inl rfl) | exact Or.inr (Or.inr rfl))) (ea_nil)))) (ex_var (k := .flat) 4 rfl (by decide) rfl (by first | exact Or.inl rfl | exact Or.inr (Or.inl rfl) | exact Or.inr (Or.inr rfl)))) (ex_mul (ex_int) (ex_var (k := .flat) 5 rfl (by decide) rfl (by first | exact Or.inl rfl | exact Or.inr (Or.inl rfl) | exact Or.inr (Or.inr rfl)))))))))
theorem cal_weight_of {f : Addr} {fd : FuncData} (F : FnP K "weight_of" s_weight_of f fd) (h : mg "weight_of" = some (.ref f)) (b_len : mg "len" = none) (b_sum : mg "sum" = none) (c_signs : Cal P w K mg base "signs" 1 ["drawing"] f_signs .flat) : Cal P w K mg base "weight_of" 2 ["drawing", "word"] f_weight_of .flat :=
  ⟨f, fd, ok_weight_of F b_len b_sum c_signs, h, F.kp, FunD.bindsN F fun _ _ _ _ _ _ us hl => match us, hl with | [_, _], _ => rfl⟩
theorem sc__law_told : FnScope N__law_told ["_law_drawing", "_law_word"] (defScope s__law_told) := ⟨rfl, rfl, rfl, by decide +kernel, rfl, by decide +kernel, by decide +kernel⟩
theorem ok__law_told {f : Addr} {fd : FuncData} (F : FnP K "_law_told" s__law_told f fd) (b_any : mg "any" = none) (b_bool : mg "bool" = none) (b_int : mg "int" = none) (b_isinstance : mg "isinstance" = none) (c_height_of : Cal P w K mg base "height_of" 2 ["drawing", "word"] f_height_of .flat) (c_weight_of : Cal P w K mg base "weight_of" 2 ["drawing", "word"] f_weight_of .flat) : FnOk P w K mg base CX0 3 f fd ["_law_drawing", "_law_word"] (sp0 ⟨mg, K⟩ f__law_told 2 .flat) := by
  have sc := sc__law_told
  let N : List Str := N__law_told
  let st : Stmt := s__law_told
  refine fn_ok0 (Γ' := []) (sc := ⟨[], .flat, [], []⟩) (k := 2) F sc [.lab none [0] false, .flat] rfl (by decide) rfl fun cdv A outer s0 H E hr => ?_
  exact (ss_cons (sx_set (i := 2) 2 3 sc.nd rfl (by first | exact Or.inl rfl | exact Or.inr rfl) (ex_tup (ea_cons (ex_calls_flat c_height_of (hr.mono (by decide)) rfl (ea_cons (ex_var (k := .lab none [0] false) 0 rfl (by decide) rfl (by first | exact Or.inl rfl | exact Or.inr (Or.inl rfl) | exact Or.inr (Or.inr rfl))) (ea_cons (ex_var (k := .flat) 1 rfl (by decide) rfl (by first | exact Or.inl rfl | exact Or.inr (Or.inl rfl) | exact Or.inr (Or.inr rfl))) (ea_nil)))) (ea_cons (ex_calls_flat c_weight_of (hr.mono (by decide)) rfl (ea_cons (ex_var (k := .lab none [0] false) 0 rfl (by decide) rfl (by first | exact Or.inl rfl | exact Or.inr (Or.inl rfl) | exact Or.inr (Or.inr rfl))) (ea_cons (ex_var (k := .flat) 1 rfl (by decide) rfl (by first | exact Or.inl rfl | exact Or.inr (Or.inl rfl) | exact Or.inr (Or.inr rfl))) (ea_nil)))) (ea_nil)))))
        (ss_cons (sx_if (et_val (ex_callB (cr_any rfl) cp_any rfl b_any (by decide +kernel) (ea_cons (ex_lc (own := [("_law_number_here", 3)]) 4 rfl sc.nd (ei_tup (ex_var (k := .flat) 2 rfl (by decide) rfl (by first | exact Or.inl rfl | exact Or.inr (Or.inl rfl) | exact Or.inr (Or.inr rfl)))) (blkOk_by (by kernel_rfl)) (fun _ _ _ _ _ => eg_name sc.nd (i := 3) rfl (by first | exact Or.inl rfl | exact Or.inr rfl)) (fun _ _ _ _ _ => ets_nil) (fun _ _ _ _ _ => ex_or (ex_isi (Ts := "bool") rfl b_isinstance (by decide +kernel) rfl b_bool (by decide +kernel) (ex_var (k := .flat) 3 rfl (by decide) rfl (by first | exact Or.inl rfl | exact Or.inr (Or.inl rfl) | exact Or.inr (Or.inr rfl)))) (ex_one (ex_not (ex_isi (Ts := "int") rfl b_isinstance (by decide +kernel) rfl b_int (by decide +kernel) (ex_var (k := .flat) 3 rfl (by decide) rfl (by first | exact Or.inl rfl | exact Or.inr (Or.inl rfl) | exact Or.inr (Or.inr rfl)))))))) (ea_nil))))
        (ss_one (sx_ret (ex_non)))
        (ss_nil))
        (ss_one (sx_ret (ex_var (k := .flat) 2 rfl (by decide) rfl (by first | exact Or.inl rfl | exact Or.inr (Or.inl rfl) | exact Or.inr (Or.inr rfl)))))))
theorem cal__law_told {f : Addr} {fd : FuncData} (F : FnP K "_law_told" s__law_told f fd) (h : mg "_law_told" = some (.ref f)) (b_any : mg "any" = none) (b_bool : mg "bool" = none) (b_int : mg "int" = none) (b_isinstance : mg "isinstance" = none) (c_height_of : Cal P w K mg base "height_of" 2 ["drawing", "word"] f_height_of .flat) (c_weight_of : Cal P w K mg base "weight_of" 2 ["drawing", "word"] f_weight_of .flat) : Cal P w K mg base "_law_told" 3 ["_law_drawing", "_law_word"] f__law_told .flat :=
  ⟨f, fd, ok__law_told F b_any b_bool b_int b_isinstance c_height_of c_weight_of, h, F.kp, FunD.bindsN F fun _ _ _ _ _ _ us hl => match us, hl with | [_, _], _ => rfl⟩
theorem sc__law_ends : FnScope N__law_ends ["_law_row"] (defScope s__law_ends) := ⟨rfl, rfl, rfl, by decide +kernel, rfl, by decide +kernel, by decide +kernel⟩
theorem ok__law_ends {f : Addr} {fd : FuncData} (F : FnP K "_law_ends" s__law_ends f fd) : FnOk P w K mg base CX0 1 f fd ["_law_row"] (sp0 ⟨mg, K⟩ f__law_ends 1 .flat) := by
  have sc := sc__law_ends
  let N : List Str := N__law_ends
  let st : Stmt := s__law_ends
  refine fn_ok0 (Γ' := []) (sc := ⟨[], .flat, [], []⟩) (k := 0) F sc [.flat] rfl (by decide) rfl fun cdv A outer s0 H E hr => ?_
  exact (ss_cons (sx_if (et_eq hr.units (ex_idx (ex_var (k := .flat) 0 rfl (by decide) rfl (by first | exact Or.inl rfl | exact Or.inr (Or.inl rfl) | exact Or.inr (Or.inr rfl))) (ex_int)) (ex_int))
        (ss_one (sx_ret (ex_tup (ea_cons (ex_idx (ex_var (k := .flat) 0 rfl (by decide) rfl (by first | exact Or.inl rfl | exact Or.inr (Or.inl rfl) | exact Or.inr (Or.inr rfl))) (ex_int)) (ea_cons (ex_idx (ex_var (k := .flat) 0 rfl (by decide) rfl (by first | exact Or.inl rfl | exact Or.inr (Or.inl rfl) | exact Or.inr (Or.inr rfl))) (ex_int)) (ea_cons (ex_idx (ex_var (k := .flat) 0 rfl (by decide) rfl (by first | exact Or.inl rfl | exact Or.inr (Or.inl rfl) | exact Or.inr (Or.inr rfl))) (ex_int)) (ea_cons (ex_idx (ex_var (k := .flat) 0 rfl (by decide) rfl (by first | exact Or.inl rfl | exact Or.inr (Or.inl rfl) | exact Or.inr (Or.inr rfl))) (ex_int)) (ea_nil))))))))
        (ss_nil))
        (ss_one (sx_ret (ex_tup (ea_cons (ex_idx (ex_var (k := .flat) 0 rfl (by decide) rfl (by first | exact Or.inl rfl | exact Or.inr (Or.inl rfl) | exact Or.inr (Or.inr rfl))) (ex_int)) (ea_cons (ex_idx (ex_var (k := .flat) 0 rfl (by decide) rfl (by first | exact Or.inl rfl | exact Or.inr (Or.inl rfl) | exact Or.inr (Or.inr rfl))) (ex_int)) (ea_cons (ex_idx (ex_var (k := .flat) 0 rfl (by decide) rfl (by first | exact Or.inl rfl | exact Or.inr (Or.inl rfl) | exact Or.inr (Or.inr rfl))) (ex_int)) (ea_cons (ex_idx (ex_var (k := .flat) 0 rfl (by decide) rfl (by first | exact Or.inl rfl | exact Or.inr (Or.inl rfl) | exact Or.inr (Or.inr rfl))) (ex_int)) (ea_nil)))))))))
theorem cal__law_ends {f : Addr} {fd : FuncData} (F : FnP K "_law_ends" s__law_ends f fd) (h : mg "_law_ends" = some (.ref f)) : Cal P w K mg base "_law_ends" 1 ["_law_row"] f__law_ends .flat :=
  ⟨f, fd, ok__law_ends F, h, F.kp, FunD.bindsN F fun _ _ _ _ _ _ us hl => match us, hl with | [_], _ => rfl⟩
theorem sc__law_loops : FnScope N__law_loops ["_law_drawing", "_law_opening"] (defScope s__law_loops) := ⟨rfl, rfl, rfl, by decide +kernel, rfl, by decide +kernel, by decide +kernel⟩
theorem ok__law_loops {f : Addr} {fd : FuncData} (F : FnP K "_law_loops" s__law_loops f fd) (b_list : mg "list" = none) (b_set : mg "set" = none) (b_sorted : mg "sorted" = none) (b_zip : mg "zip" = none) (c__law_ends : Cal P w K mg base "_law_ends" 1 ["_law_row"] f__law_ends .flat) : FnOk P w K mg base CX0 2 f fd ["_law_drawing", "_law_opening"] (sp0 ⟨mg, K⟩ f__law_loops 2 .fresh) := by
  have sc := sc__law_loops
  let N : List Str := N__law_loops
  let st : Stmt := s__law_loops
  refine fn_ok0 (Γ' := []) (sc := ⟨[], .fresh, [], []⟩) (k := 1) F sc [.lab none [0] false, .flat] rfl (by decide) rfl fun cdv A outer s0 H E hr => ?_
  exact (ss_cons (sx_set (i := 2) 2 3 sc.nd rfl (by first | exact Or.inl rfl | exact Or.inr rfl) (ex_kids (ex_list rfl b_list (by decide +kernel) (ex_idx (ex_var (k := .lab none [0] false) 0 rfl (by decide) rfl (by first | exact Or.inl rfl | exact Or.inr (Or.inl rfl) | exact Or.inr (Or.inr rfl))) (ex_int)))))
        (ss_cons (sx_pre (Γ1 := [.lab none [0] false, .flat, .lab none [2, 5] true, .dead, .dead, .dead, .dead, .dead, .dead, .dead, .dead, .dead, .dead, .dead, .dead, .dead]) [] (sx_for 4 rfl PassesOwn.never (ei_list (ex_idx (ex_var (k := .lab none [0] false) 0 rfl (by decide) rfl (by first | exact Or.inl rfl | exact Or.inr (Or.inl rfl) | exact Or.inr (Or.inr rfl))) (ex_int))) (eg_flat (eg_name sc.nd (i := 3) rfl (by first | exact Or.inl rfl | exact Or.inr rfl)))
        (ss_conv (Γ' := [.lab none [0] false, .flat, .lab none [2, 5] true, .dead, .dead, .dead, .dead, .dead, .dead, .dead, .dead, .dead, .dead, .dead, .dead, .dead]) [] (ss_one (sx_set (i := 2) 5 6 sc.nd rfl (by first | exact Or.inl rfl | exact Or.inr rfl) (ex_catF (ex_var (k := .lab none [2, 5] true) 2 rfl (by decide) rfl (by first | exact Or.inl rfl | exact Or.inr (Or.inl rfl) | exact Or.inr (Or.inr rfl))) (ex_list rfl b_list (by decide +kernel) (ex_slT (ex_var (k := .flat) 3 rfl (by decide) rfl (by first | exact Or.inl rfl | exact Or.inr (Or.inl rfl) | exact Or.inr (Or.inr rfl))) (eo_some (ex_int)) (eo_none)))))) (by decide) (by decide))) (by decide) (by decide))
        (ss_cons (sx_setLc (i := 4) (own := [("_law_name", 14)]) 9 7 8 rfl sc.nd rfl rfl (sw_true rfl rfl rfl (by decide +kernel)) (ei_list (ex_sortSet rfl rfl b_sorted rfl b_set (by decide +kernel) (by decide +kernel) (ex_var (k := .lab none [2, 5] true) 2 rfl (by decide) rfl (by first | exact Or.inl rfl | exact Or.inr (Or.inl rfl) | exact Or.inr (Or.inr rfl))))) (blkOk_by (by kernel_rfl)) (fun _ _ _ _ _ => eg_flat (eg_name sc.nd (i := 14) rfl (by first | exact Or.inl rfl | exact Or.inr rfl))) (fun _ _ _ _ _ => ets_nil) (fun _ _ _ _ _ => ex_lst (ea_cons (ex_var (k := .flat) 14 rfl (by decide) rfl (by first | exact Or.inl rfl | exact Or.inr (Or.inl rfl) | exact Or.inr (Or.inr rfl))) (ea_nil))))
        (ss_cons (sx_pre (Γ1 := [.lab none [0] false, .flat, .lab none [2, 5] true, .dead, .lab none [8, 7, 21, 20] false, .dead, .dead, .dead, .dead, .dead, .dead, .dead, .dead, .dead, .dead, .dead]) [] (sx_for 10 rfl PassesOwn.never (ei_zipM rfl b_zip (ex_idx (ex_var (k := .lab none [0] false) 0 rfl (by decide) rfl (by first | exact Or.inl rfl | exact Or.inr (Or.inl rfl) | exact Or.inr (Or.inr rfl))) (ex_int)) (ex_var (k := .flat) 1 rfl (by decide) rfl (by first | exact Or.inl rfl | exact Or.inr (Or.inl rfl) | exact Or.inr (Or.inr rfl)))) (eg_tup rfl (egs_cons (eg_flat (eg_name sc.nd (i := 3) rfl (by first | exact Or.inl rfl | exact Or.inr rfl))) (egs_cons (eg_flat (eg_name sc.nd (i := 5) rfl (by first | exact Or.inl rfl | exact Or.inr rfl))) (egs_nil))))
        (ss_conv (Γ' := [.lab none [0] false, .flat, .lab none [2, 5] true, .dead, .lab none [8, 7, 21, 20] false, .dead, .dead, .dead, .dead, .dead, .dead, .dead, .dead, .dead, .dead, .dead]) [] (ss_cons (sx_asg 11 12 (ex_calls_flat c__law_ends (hr.mono (by decide)) rfl (ea_cons (ex_var (k := .flat) 3 rfl (by decide) rfl (by first | exact Or.inl rfl | exact Or.inr (Or.inl rfl) | exact Or.inr (Or.inr rfl))) (ea_nil))) (eg_tup rfl (egs_cons (eg_name sc.nd (i := 6) rfl (by first | exact Or.inl rfl | exact Or.inr rfl)) (egs_cons (eg_name sc.nd (i := 7) rfl (by first | exact Or.inl rfl | exact Or.inr rfl)) (egs_cons (eg_name sc.nd (i := 8) rfl (by first | exact Or.inl rfl | exact Or.inr rfl)) (egs_cons (eg_name sc.nd (i := 9) rfl (by first | exact Or.inl rfl | exact Or.inr rfl)) (egs_nil)))))))
        (ss_one (sx_for 13 rfl PassesOwn.never (ei_list (ex_idx (ex_lst (ea_cons (ex_lst (ea_cons (ex_tup (ea_cons (ex_var (k := .flat) 6 rfl (by decide) rfl (by first | exact Or.inl rfl | exact Or.inr (Or.inl rfl) | exact Or.inr (Or.inr rfl))) (ea_cons (ex_var (k := .flat) 7 rfl (by decide) rfl (by first | exact Or.inl rfl | exact Or.inr (Or.inl rfl) | exact Or.inr (Or.inr rfl))) (ea_nil)))) (ea_cons (ex_tup (ea_cons (ex_var (k := .flat) 8 rfl (by decide) rfl (by first | exact Or.inl rfl | exact Or.inr (Or.inl rfl) | exact Or.inr (Or.inr rfl))) (ea_cons (ex_var (k := .flat) 9 rfl (by decide) rfl (by first | exact Or.inl rfl | exact Or.inr (Or.inl rfl) | exact Or.inr (Or.inr rfl))) (ea_nil)))) (ea_nil)))) (ea_cons (ex_lst (ea_cons (ex_tup (ea_cons (ex_var (k := .flat) 6 rfl (by decide) rfl (by first | exact Or.inl rfl | exact Or.inr (Or.inl rfl) | exact Or.inr (Or.inr rfl))) (ea_cons (ex_var (k := .flat) 9 rfl (by decide) rfl (by first | exact Or.inl rfl | exact Or.inr (Or.inl rfl) | exact Or.inr (Or.inr rfl))) (ea_nil)))) (ea_cons (ex_tup (ea_cons (ex_var (k := .flat) 7 rfl (by decide) rfl (by first | exact Or.inl rfl | exact Or.inr (Or.inl rfl) | exact Or.inr (Or.inr rfl))) (ea_cons (ex_var (k := .flat) 8 rfl (by decide) rfl (by first | exact Or.inl rfl | exact Or.inr (Or.inl rfl) | exact Or.inr (Or.inr rfl))) (ea_nil)))) (ea_nil)))) (ea_nil)))) (ex_var (k := .flat) 5 rfl (by decide) rfl (by first | exact Or.inl rfl | exact Or.inr (Or.inl rfl) | exact Or.inr (Or.inr rfl))))) (eg_tup rfl (egs_cons (eg_flat (eg_name sc.nd (i := 10) rfl (by first | exact Or.inl rfl | exact Or.inr rfl))) (egs_cons (eg_flat (eg_name sc.nd (i := 11) rfl (by first | exact Or.inl rfl | exact Or.inr rfl))) (egs_nil))))
        (ss_conv (Γ' := [.lab none [0] false, .flat, .lab none [2, 5] true, .flat, .lab none [8, 7, 21, 20] false, .flat, .flat, .flat, .flat, .flat, .dead, .dead, .dead, .dead, .dead, .dead]) [] (ss_cons (sx_set (i := 12) 14 15 sc.nd rfl (by first | exact Or.inl rfl | exact Or.inr rfl) (ex_idx (ex_lc (own := [("_law_heap", 15)]) 16 rfl sc.nd (ei_list (ex_var (k := .lab none [8, 7, 21, 20] false) 4 rfl (by decide) rfl (by first | exact Or.inl rfl | exact Or.inr (Or.inl rfl) | exact Or.inr (Or.inr rfl)))) (blkOk_by (by kernel_rfl)) (fun _ _ _ _ _ => eg_name sc.nd (i := 15) rfl (by first | exact Or.inl rfl | exact Or.inr rfl)) (fun _ _ _ _ _ => ets_one (et_inX hr.units2 (ex_var (k := .flat) 10 rfl (by decide) rfl (by first | exact Or.inl rfl | exact Or.inr (Or.inl rfl) | exact Or.inr (Or.inr rfl))) (ex_var (k := .lab none [8, 7, 21, 20] false) 15 rfl (by decide) rfl (by first | exact Or.inl rfl | exact Or.inr (Or.inl rfl) | exact Or.inr (Or.inr rfl))))) (fun _ _ _ _ _ => ex_var (k := .lab none [8, 7, 21, 20] false) 15 rfl (by decide) rfl (by first | exact Or.inl rfl | exact Or.inr (Or.inl rfl) | exact Or.inr (Or.inr rfl)))) (ex_int)))
        (ss_cons (sx_set (i := 13) 17 18 sc.nd rfl (by first | exact Or.inl rfl | exact Or.inr rfl) (ex_idx (ex_lc (own := [("_law_heap", 15)]) 19 rfl sc.nd (ei_list (ex_var (k := .lab none [8, 7, 21, 20] false) 4 rfl (by decide) rfl (by first | exact Or.inl rfl | exact Or.inr (Or.inl rfl) | exact Or.inr (Or.inr rfl)))) (blkOk_by (by kernel_rfl)) (fun _ _ _ _ _ => eg_name sc.nd (i := 15) rfl (by first | exact Or.inl rfl | exact Or.inr rfl)) (fun _ _ _ _ _ => ets_one (et_inX hr.units2 (ex_var (k := .flat) 11 rfl (by decide) rfl (by first | exact Or.inl rfl | exact Or.inr (Or.inl rfl) | exact Or.inr (Or.inr rfl))) (ex_var (k := .lab none [8, 7, 21, 20] false) 15 rfl (by decide) rfl (by first | exact Or.inl rfl | exact Or.inr (Or.inl rfl) | exact Or.inr (Or.inr rfl))))) (fun _ _ _ _ _ => ex_var (k := .lab none [8, 7, 21, 20] false) 15 rfl (by decide) rfl (by first | exact Or.inl rfl | exact Or.inr (Or.inl rfl) | exact Or.inr (Or.inr rfl)))) (ex_int)))
        (ss_one (sx_if (et_ne hr.units (ex_var (k := .lab none [14, 15, 8, 7, 21, 20] false) 12 rfl (by decide) rfl (by first | exact Or.inl rfl | exact Or.inr (Or.inl rfl) | exact Or.inr (Or.inr rfl))) (ex_var (k := .lab none [17, 18, 8, 7, 21, 20] false) 13 rfl (by decide) rfl (by first | exact Or.inl rfl | exact Or.inr (Or.inl rfl) | exact Or.inr (Or.inr rfl))))
        (ss_conv (Γ' := [.lab none [0] false, .flat, .lab none [2, 5] true, .flat, .lab none [21, 8, 7, 20] false, .flat, .flat, .flat, .flat, .flat, .flat, .flat, .lab none [14, 15, 8, 7, 21, 20] false, .lab none [17, 18, 8, 7, 21, 20] false, .dead, .dead]) [] (ss_one (sx_set (i := 4) 20 21 sc.nd rfl (by first | exact Or.inl rfl | exact Or.inr rfl) (ex_cat (ex_lc (own := [("_law_heap", 15)]) 22 rfl sc.nd (ei_list (ex_var (k := .lab none [8, 7, 21, 20] false) 4 rfl (by decide) rfl (by first | exact Or.inl rfl | exact Or.inr (Or.inl rfl) | exact Or.inr (Or.inr rfl)))) (blkOk_by (by kernel_rfl)) (fun _ _ _ _ _ => eg_name sc.nd (i := 15) rfl (by first | exact Or.inl rfl | exact Or.inr rfl)) (fun _ _ _ _ _ => ets_one (et_notInX hr.units2 (ex_var (k := .lab none [8, 7, 21, 20] false) 15 rfl (by decide) rfl (by first | exact Or.inl rfl | exact Or.inr (Or.inl rfl) | exact Or.inr (Or.inr rfl))) (ex_tup (ea_cons (ex_var (k := .lab none [14, 15, 8, 7, 21, 20] false) 12 rfl (by decide) rfl (by first | exact Or.inl rfl | exact Or.inr (Or.inl rfl) | exact Or.inr (Or.inr rfl))) (ea_cons (ex_var (k := .lab none [17, 18, 8, 7, 21, 20] false) 13 rfl (by decide) rfl (by first | exact Or.inl rfl | exact Or.inr (Or.inl rfl) | exact Or.inr (Or.inr rfl))) (ea_nil)))))) (fun _ _ _ _ _ => ex_var (k := .lab none [8, 7, 21, 20] false) 15 rfl (by decide) rfl (by first | exact Or.inl rfl | exact Or.inr (Or.inl rfl) | exact Or.inr (Or.inr rfl)))) (ex_lst (ea_cons (ex_catF (ex_var (k := .lab none [14, 15, 8, 7, 21, 20] false) 12 rfl (by decide) rfl (by first | exact Or.inl rfl | exact Or.inr (Or.inl rfl) | exact Or.inr (Or.inr rfl))) (ex_var (k := .lab none [17, 18, 8, 7, 21, 20] false) 13 rfl (by decide) rfl (by first | exact Or.inl rfl | exact Or.inr (Or.inl rfl) | exact Or.inr (Or.inr rfl)))) (ea_nil)))))) (by decide) (by decide))
        (ss_conv (Γ' := [.lab none [0] false, .flat, .lab none [2, 5] true, .flat, .lab none [21, 8, 7, 20] false, .flat, .flat, .flat, .flat, .flat, .flat, .flat, .lab none [14, 15, 8, 7, 21, 20] false, .lab none [17, 18, 8, 7, 21, 20] false, .dead, .dead]) [] (ss_nil) (by decide) (by decide)))))) (by decide) (by decide))))) (by decide) (by decide))) (by decide) (by decide))
        (ss_one (sx_ret (ex_sortX hr.units2 rfl b_sorted (by decide +kernel) (ex_lc (own := [("_law_heap", 15)]) 23 rfl sc.nd (ei_list (ex_var (k := .lab none [8, 7, 21, 20] false) 4 rfl (by decide) rfl (by first | exact Or.inl rfl | exact Or.inr (Or.inl rfl) | exact Or.inr (Or.inr rfl)))) (blkOk_by (by kernel_rfl)) (fun _ _ _ _ _ => eg_name sc.nd (i := 15) rfl (by first | exact Or.inl rfl | exact Or.inr rfl)) (fun _ _ _ _ _ => ets_nil) (fun _ _ _ _ _ => ex_kids (ex_sortX hr.units2 rfl b_sorted (by decide +kernel) (ex_var (k := .lab none [8, 7, 21, 20] false) 15 rfl (by decide) rfl (by first | exact Or.inl rfl | exact Or.inr (Or.inl rfl) | exact Or.inr (Or.inr rfl)))))))))))))
theorem cal__law_loops {f : Addr} {fd : FuncData} (F : FnP K "_law_loops" s__law_loops f fd) (h : mg "_law_loops" = some (.ref f)) (b_list : mg "list" = none) (b_set : mg "set" = none) (b_sorted : mg "sorted" = none) (b_zip : mg "zip" = none) (c__law_ends : Cal P w K mg base "_law_ends" 1 ["_law_row"] f__law_ends .flat) : Cal P w K mg base "_law_loops" 2 ["_law_drawing", "_law_opening"] f__law_loops .fresh :=
  ⟨f, fd, ok__law_loops F b_list b_set b_sorted b_zip c__law_ends, h, F.kp, FunD.bindsN F fun _ _ _ _ _ _ us hl => match us, hl with | [_, _], _ => rfl⟩
theorem sc__law_copied : FnScope N__law_copied ["_law_drawing"] (defScope s__law_copied) := ⟨rfl, rfl, rfl, by decide +kernel, rfl, by decide +kernel, by decide +kernel⟩
theorem ok__law_copied {f : Addr} {fd : FuncData} (F : FnP K "_law_copied" s__law_copied f fd) (b_list : mg "list" = none) : FnOk P w K mg base CX0 1 f fd ["_law_drawing"] (sp0 ⟨mg, K⟩ f__law_copied 1 .fresh) := by
  have sc := sc__law_copied
  let N : List Str := N__law_copied
  let st : Stmt := s__law_copied
  refine fn_ok0 (Γ' := []) (sc := ⟨[], .fresh, [], []⟩) (k := 0) F sc [.lab none [0] false] rfl (by decide) rfl fun cdv A outer s0 H E hr => ?_
  exact (ss_one (sx_ret (ex_tup (ea_cons (ex_kids (ex_list rfl b_list (by decide +kernel) (ex_idx (ex_var (k := .lab none [0] false) 0 rfl (by decide) rfl (by first | exact Or.inl rfl | exact Or.inr (Or.inl rfl) | exact Or.inr (Or.inr rfl))) (ex_int)))) (ea_cons (ex_kids (ex_list rfl b_list (by decide +kernel) (ex_idx (ex_var (k := .lab none [0] false) 0 rfl (by decide) rfl (by first | exact Or.inl rfl | exact Or.inr (Or.inl rfl) | exact Or.inr (Or.inr rfl))) (ex_int)))) (ea_nil))))))
theorem cal__law_copied {f : Addr} {fd : FuncData} (F : FnP K "_law_copied" s__law_copied f fd) (h : mg "_law_copied" = some (.ref f)) (b_list : mg "list" = none) : Cal P w K mg base "_law_copied" 1 ["_law_drawing"] f__law_copied .fresh :=
  ⟨f, fd, ok__law_copied F b_list, h, F.kp, FunD.bindsN F fun _ _ _ _ _ _ us hl => match us, hl with | [_], _ => rfl⟩
theorem sc_law : FnScope N_law ["_law_script"] (defScope s_law) := ⟨rfl, rfl, rfl, by decide +kernel, rfl, by decide +kernel, by decide +kernel⟩
theorem ok_law {f : Addr} {fd : FuncData} (F : FnP K "law" s_law f fd) (b_len : mg "len" = none) (b_range : mg "range" = none) (c__law_number : Cal P w K mg base "_law_number" 2 ["_law_script", "_law_k"] f__law_number .flat) (c__law_drawn : Cal P w K mg base "_law_drawn" 3 ["_law_script", "_law_at", "_law_most", "_law_curls"] f__law_drawn .fresh) (c__law_bits : Cal P w K mg base "_law_bits" 1 ["_law_cell", "_law_many"] f__law_bits .flat) (c__law_loops : Cal P w K mg base "_law_loops" 2 ["_law_drawing", "_law_opening"] f__law_loops .fresh) (c__law_place : Cal P w K mg base "_law_place" 2 ["_law_drawing", "_law_word"] f__law_place .flat) (c__law_told : Cal P w K mg base "_law_told" 3 ["_law_drawing", "_law_word"] f__law_told .flat) (c__law_copied : Cal P w K mg base "_law_copied" 1 ["_law_drawing"] f__law_copied .fresh) : FnOk P w K mg base CX0 4 f fd ["_law_script"] (sp0 ⟨mg, K⟩ f_law 1 .flat) := by
  have sc := sc_law
  let N : List Str := N_law
  let st : Stmt := s_law
  refine fn_ok0 (Γ' := []) (sc := ⟨[], .flat, [], []⟩) (k := 3) F sc [.flat] rfl (by decide) rfl fun cdv A outer s0 H E hr => ?_
  exact (ss_cons (sx_set (i := 1) 2 3 sc.nd rfl (by first | exact Or.inl rfl | exact Or.inr rfl) (ex_flat (ex_idx (ex_lst (ea_cons (ex_int) (ea_cons (ex_int) (ea_cons (ex_int) (ea_cons (ex_int) (ea_cons (ex_int) (ea_cons (ex_int) (ea_cons (ex_int) (ea_cons (ex_int) (ea_nil)))))))))) (ex_mod (ex_calls_flat c__law_number (hr.mono (by decide)) rfl (ea_cons (ex_var (k := .flat) 0 rfl (by decide) rfl (by first | exact Or.inl rfl | exact Or.inr (Or.inl rfl) | exact Or.inr (Or.inr rfl))) (ea_cons (ex_int) (ea_nil)))) (ex_int)))))
        (ss_cons (sx_set (i := 2) 4 5 sc.nd rfl (by first | exact Or.inl rfl | exact Or.inr rfl) (ex_calls_fresh c__law_drawn (hr.mono (by decide)) rfl (ea_cons (ex_var (k := .flat) 0 rfl (by decide) rfl (by first | exact Or.inl rfl | exact Or.inr (Or.inl rfl) | exact Or.inr (Or.inr rfl))) (ea_cons (ex_int) (ea_cons (ex_var (k := .flat) 1 rfl (by decide) rfl (by first | exact Or.inl rfl | exact Or.inr (Or.inl rfl) | exact Or.inr (Or.inr rfl))) (ea_cons (ex_int) (ea_nil)))))))
        (ss_cons (sx_for 6 rfl PassesOwn.never (ei_range1 rfl b_range (ea_cons (ex_int) (ea_nil))) (eg_name sc.nd (i := 3) rfl (by first | exact Or.inl rfl | exact Or.inr rfl))
        (ss_conv (Γ' := [.flat, .flat, .lab (some 4) [5] true, .dead, .dead, .dead, .dead, .dead, .dead]) [] (ss_cons (sx_set (i := 4) 7 8 sc.nd rfl (by first | exact Or.inl rfl | exact Or.inr rfl) (ex_calls_flat c__law_bits (hr.mono (by decide)) rfl (ea_cons (ex_calls_flat c__law_number (hr.mono (by decide)) rfl (ea_cons (ex_var (k := .flat) 0 rfl (by decide) rfl (by first | exact Or.inl rfl | exact Or.inr (Or.inl rfl) | exact Or.inr (Or.inr rfl))) (ea_cons (ex_add (ex_int) (ex_var (k := .flat) 3 rfl (by decide) rfl (by first | exact Or.inl rfl | exact Or.inr (Or.inl rfl) | exact Or.inr (Or.inr rfl)))) (ea_nil)))) (ea_cons (ex_callB call_len cp_len rfl b_len boot_len (ea_cons (ex_idx (ex_var (k := .lab (some 4) [5] true) 2 rfl (by decide) rfl (by first | exact Or.inl rfl | exact Or.inr (Or.inl rfl) | exact Or.inr (Or.inr rfl))) (ex_int)) (ea_nil))) (ea_nil)))))
        (ss_cons (sx_set (i := 5) 9 10 sc.nd rfl (by first | exact Or.inl rfl | exact Or.inr rfl) (ex_calls_flat c__law_bits (hr.mono (by decide)) rfl (ea_cons (ex_calls_flat c__law_number (hr.mono (by decide)) rfl (ea_cons (ex_var (k := .flat) 0 rfl (by decide) rfl (by first | exact Or.inl rfl | exact Or.inr (Or.inl rfl) | exact Or.inr (Or.inr rfl))) (ea_cons (ex_add (ex_int) (ex_var (k := .flat) 3 rfl (by decide) rfl (by first | exact Or.inl rfl | exact Or.inr (Or.inl rfl) | exact Or.inr (Or.inr rfl)))) (ea_nil)))) (ea_cons (ex_callB call_len cp_len rfl b_len boot_len (ea_cons (ex_calls_fresh c__law_loops (hr.mono (by decide)) rfl (ea_cons (ex_var (k := .lab (some 4) [5] true) 2 rfl (by decide) rfl (by first | exact Or.inl rfl | exact Or.inr (Or.inl rfl) | exact Or.inr (Or.inr rfl))) (ea_cons (ex_var (k := .flat) 4 rfl (by decide) rfl (by first | exact Or.inl rfl | exact Or.inr (Or.inl rfl) | exact Or.inr (Or.inr rfl))) (ea_nil)))) (ea_nil))) (ea_nil)))))
        (ss_cons (sx_set (i := 6) 11 12 sc.nd rfl (by first | exact Or.inl rfl | exact Or.inr rfl) (ex_calls_flat c__law_place (hr.mono (by decide)) rfl (ea_cons (ex_var (k := .lab (some 4) [5] true) 2 rfl (by decide) rfl (by first | exact Or.inl rfl | exact Or.inr (Or.inl rfl) | exact Or.inr (Or.inr rfl))) (ea_cons (ex_tup (ea_cons (ex_var (k := .flat) 4 rfl (by decide) rfl (by first | exact Or.inl rfl | exact Or.inr (Or.inl rfl) | exact Or.inr (Or.inr rfl))) (ea_cons (ex_var (k := .flat) 5 rfl (by decide) rfl (by first | exact Or.inl rfl | exact Or.inr (Or.inl rfl) | exact Or.inr (Or.inr rfl))) (ea_nil)))) (ea_nil)))))
        (ss_cons (sx_if (et_ne hr.units (ex_calls_flat c__law_told (hr.mono (by decide)) rfl (ea_cons (ex_calls_fresh c__law_copied (hr.mono (by decide)) rfl (ea_cons (ex_var (k := .lab (some 4) [5] true) 2 rfl (by decide) rfl (by first | exact Or.inl rfl | exact Or.inr (Or.inl rfl) | exact Or.inr (Or.inr rfl))) (ea_nil))) (ea_cons (ex_tup (ea_cons (ex_var (k := .flat) 4 rfl (by decide) rfl (by first | exact Or.inl rfl | exact Or.inr (Or.inl rfl) | exact Or.inr (Or.inr rfl))) (ea_cons (ex_var (k := .flat) 5 rfl (by decide) rfl (by first | exact Or.inl rfl | exact Or.inr (Or.inl rfl) | exact Or.inr (Or.inr rfl))) (ea_nil)))) (ea_nil)))) (ex_var (k := .flat) 6 rfl (by decide) rfl (by first | exact Or.inl rfl | exact Or.inr (Or.inl rfl) | exact Or.inr (Or.inr rfl))))
        (ss_one (sx_ret (ex_bl)))
        (ss_nil))
        (ss_one (sx_if (et_inK hr.units2 (ex_int) (ex_var (k := .flat) 5 rfl (by decide) rfl (by first | exact Or.inl rfl | exact Or.inr (Or.inl rfl) | exact Or.inr (Or.inr rfl))))
        (ss_conv (Γ' := [.flat, .flat, .lab (some 4) [5] true, .flat, .flat, .flat, .flat, .dead, .dead]) [] (ss_cons (sx_set (i := 7) 13 14 sc.nd rfl (by first | exact Or.inl rfl | exact Or.inr rfl) (ex_indexK (ex_var (k := .flat) 5 rfl (by decide) rfl (by first | exact Or.inl rfl | exact Or.inr (Or.inl rfl) | exact Or.inr (Or.inr rfl))) (ex_int)))
        (ss_cons (sx_set (i := 8) 15 16 sc.nd rfl (by first | exact Or.inl rfl | exact Or.inr rfl) (ex_catT (ex_catT (ex_slK (ex_var (k := .flat) 5 rfl (by decide) rfl (by first | exact Or.inl rfl | exact Or.inr (Or.inl rfl) | exact Or.inr (Or.inr rfl))) (eo_none) (eo_some (ex_var (k := .flat) 7 rfl (by decide) rfl (by first | exact Or.inl rfl | exact Or.inr (Or.inl rfl) | exact Or.inr (Or.inr rfl))))) (ex_tup (ea_cons (ex_int) (ea_nil)))) (ex_slK (ex_var (k := .flat) 5 rfl (by decide) rfl (by first | exact Or.inl rfl | exact Or.inr (Or.inl rfl) | exact Or.inr (Or.inr rfl))) (eo_some (ex_add (ex_var (k := .flat) 7 rfl (by decide) rfl (by first | exact Or.inl rfl | exact Or.inr (Or.inl rfl) | exact Or.inr (Or.inr rfl))) (ex_int))) (eo_none))))
        (ss_one (sx_if (et_ne hr.units (ex_calls_flat c__law_told (hr.mono (by decide)) rfl (ea_cons (ex_var (k := .lab (some 4) [5] true) 2 rfl (by decide) rfl (by first | exact Or.inl rfl | exact Or.inr (Or.inl rfl) | exact Or.inr (Or.inr rfl))) (ea_cons (ex_tup (ea_cons (ex_var (k := .flat) 4 rfl (by decide) rfl (by first | exact Or.inl rfl | exact Or.inr (Or.inl rfl) | exact Or.inr (Or.inr rfl))) (ea_cons (ex_var (k := .flat) 8 rfl (by decide) rfl (by first | exact Or.inl rfl | exact Or.inr (Or.inl rfl) | exact Or.inr (Or.inr rfl))) (ea_nil)))) (ea_nil)))) (ex_tup (ea_cons (ex_idx (ex_var (k := .flat) 6 rfl (by decide) rfl (by first | exact Or.inl rfl | exact Or.inr (Or.inl rfl) | exact Or.inr (Or.inr rfl))) (ex_int)) (ea_cons (ex_sub (ex_idx (ex_var (k := .flat) 6 rfl (by decide) rfl (by first | exact Or.inl rfl | exact Or.inr (Or.inl rfl) | exact Or.inr (Or.inr rfl))) (ex_int)) (ex_int)) (ea_nil)))))
        (ss_one (sx_ret (ex_bl)))
        (ss_nil))))) (by decide) (by decide))
        (ss_nil))))))) (by decide) (by decide)))
        (ss_one (sx_ret (ex_bl))))))
theorem cal_law {f : Addr} {fd : FuncData} (F : FnP K "law" s_law f fd) (h : mg "law" = some (.ref f)) (b_len : mg "len" = none) (b_range : mg "range" = none) (c__law_number : Cal P w K mg base "_law_number" 2 ["_law_script", "_law_k"] f__law_number .flat) (c__law_drawn : Cal P w K mg base "_law_drawn" 3 ["_law_script", "_law_at", "_law_most", "_law_curls"] f__law_drawn .fresh) (c__law_bits : Cal P w K mg base "_law_bits" 1 ["_law_cell", "_law_many"] f__law_bits .flat) (c__law_loops : Cal P w K mg base "_law_loops" 2 ["_law_drawing", "_law_opening"] f__law_loops .fresh) (c__law_place : Cal P w K mg base "_law_place" 2 ["_law_drawing", "_law_word"] f__law_place .flat) (c__law_told : Cal P w K mg base "_law_told" 3 ["_law_drawing", "_law_word"] f__law_told .flat) (c__law_copied : Cal P w K mg base "_law_copied" 1 ["_law_drawing"] f__law_copied .fresh) : Cal P w K mg base "law" 4 ["_law_script"] f_law .flat :=
  ⟨f, fd, ok_law F b_len b_range c__law_number c__law_drawn c__law_bits c__law_loops c__law_place c__law_told c__law_copied, h, F.kp, FunD.bindsN F fun _ _ _ _ _ _ us hl => match us, hl with | [_], _ => rfl⟩
end
end K34

/-! ## VFQ -/
/-! the law's own ends, bits, copies -/
namespace VP
open PySem PySem.Spec PyProof.Rows L2 VV VP
theorem lends_ok {x : Cr} : f__law_ends [crD x] = some (.ret (if x.s = 1 then .tup [.int x.a, .int x.d, .int x.b, .int x.c] else .tup [.int x.a, .int x.c, .int x.b, .int x.d])) := by
  refine fn_go (by simp) ?_
  show Go m__law_ends [crD x] _
  unfold m__law_ends
  refine Go.ite (p := x.s = 1) (by simp [beq_dec]) (fun h => ?_) (fun h => ?_)
  · simp [m__law_ends_c1, h]
  · simp [m__law_ends_1, h]
theorem tupF {l : List Int} : (some (D.tup (l.map D.int))).filter D.isFlat = some (bitsD l) := by
  have : (D.tup (l.map D.int)).isFlat = true := by simp
  rw [Option.filter_some, if_pos this]
  rfl
theorem bits_ok (cell : Int) (n : Nat) (hn : n ≤ 1000) : ∃ bs : List Int, f__law_bits [.int cell, .int n] = some (.ret (bitsD bs)) ∧ bs.length = n ∧ ∀ b ∈ bs, b = 0 ∨ b = 1 := by
  have key : ∃ d, f__law_bits [.int cell, .int n] = some (.ret d) ∧ ∃ bs : List Int, d = bitsD bs ∧ bs.length = n ∧ ∀ b ∈ bs, b = 0 ∨ b = 1 := by
    refine fn_ex (by simp) ?_
    show Go m__law_bits [.int cell, .int n, .non, .non] _
    unfold m__law_bits
    refine Go.set (d := intsD []) (by rfl) ?_
    unfold m__law_bits_1
    rw [go_seq]
    refine go_for (fun i : Nat => D.int i) (List.range n) (fun i ρ => ∃ (bl : List Int) (c : Int) (j : D), ρ = [.int c, .int n, intsD bl, j] ∧ bl.length = i ∧ ∀ b ∈ bl, b = 0 ∨ b = 1) ?_ ⟨[], cell, _, rfl, rfl, by simp⟩ (fun i a ρ hi hR => ?_) (fun ρ' hR => ?_)
    · rw [iRng1_s (k := n) (by simp) (by omega) (by omega), ← rng0]; rfl
    · obtain ⟨hil, rfl⟩ := rng_at hi
      obtain ⟨bl, c, j, rfl, hbl, hb01⟩ := hR
      refine ⟨[.int c, .int n, intsD bl, .int (a : Nat)], rfl, ?_⟩
      unfold m__law_bits_b1
      refine Go.mut (y := .int (c % 2)) (x := intsD bl) (z := intsD (bl ++ [c % 2])) (by simp) rfl ?_ ?_
      · unfold intsD
        rw [dPush_s (by rw [List.length_map]; omega)]
        simp
      · unfold m__law_bits_b1_1
        have d2 : dDiv [.int c, .int 2] = some (.int (c / 2)) := dDiv_s (cdv (by decide) (by decide))
        refine Go.set1 (d := .int (c / 2)) (by simp [d2]) ⟨_, .inl rfl, bl ++ [c % 2], _, _, rfl, by simp [hbl], fun b hb => ?_⟩
        rcases List.mem_append.mp hb with hb | hb
        · exact hb01 b hb
        · rw [List.mem_singleton.mp hb]; omega
    obtain ⟨bl, c, j, rfl, hbl, hb01⟩ := hR
    rw [List.length_range] at hbl
    rw [cont_nx]
    unfold m__law_bits_2
    have ht : dTuple [intsD bl] = some (.tup (bl.map D.int)) := rfl
    refine Go.ret (d := bitsD bl) ?_ ⟨_, rfl, bl, rfl, hbl, hb01⟩
    simp only [eVar_s, eP_s, eChk_s, aCons_s, aNil_s, ob_some, List.getElem?_cons_succ, List.getElem?_cons_zero, ht, tupF]
  obtain ⟨d, h, bs, rfl, h2⟩ := key
  exact ⟨bs, h, h2⟩
theorem copied_ok (rs : List Int) (cs : List Cr) : f__law_copied [drD rs cs] = some (.ret (drD rs cs)) := by
  refine fn_go (by simp) ?_
  show Go m__law_copied [drD rs cs] _
  unfold m__law_copied
  have h1 : dList [intsD rs] = some (intsD rs) := rfl
  have h2 : dList [.lst (cs.map crD)] = some (.lst (cs.map crD)) := rfl
  refine Go.ret (d := drD rs cs) ?_ rfl
  simp only [eTup_s, aCons_s, aNil_s, eVar_s, eP_s, eC_s, eChk_s, dr0, dr1, h1, h2, ob_some, List.getElem?_cons_zero, Option.filter_some, kf_ints, kf_crs, if_true]
  rfl
end VP

/-! ## VFR -/
/-! heaps of names, plain -/
namespace VP
open PySem PySem.Spec PyProof.Rows L2 VV VP
structure Hps (N : List Int) (Ps : List (Int × Int)) (H : List (List Int)) : Prop where
  pm : H.flatten.Perm N
  ne : ∀ h ∈ H, h ≠ []
  eq : ∀ h ∈ H, ∀ a ∈ h, ∀ b ∈ h, Eqn Ps a b
  pr : ∀ p ∈ Ps, ∃ h ∈ H, p.1 ∈ h ∧ p.2 ∈ h
theorem Hps.zero {N : List Int} : Hps N [] (N.map fun n => [n]) := by
  refine ⟨?_, by simp, fun h hh a ha b hb => ?_, by simp⟩
  · have : (N.map fun n => [n]).flatten = N := by
      induction N with
      | nil => rfl
      | cons a r ih => simp [ih]
    rw [this]
  · obtain ⟨n, _, rfl⟩ := List.mem_map.mp hh
    rw [List.mem_singleton.mp ha, List.mem_singleton.mp hb]
    exact .refl n
section
variable {N : List Int} {Ps : List (Int × Int)} {H : List (List Int)} (hN : N.Nodup) (h : Hps N Ps H)
include hN h
theorem Hps.nd : H.flatten.Nodup := h.pm.nodup_iff.mpr hN
theorem Hps.uniq {a b : List Int} {z : Int} (ha : a ∈ H) (hb : b ∈ H) (za : z ∈ a) (zb : z ∈ b) : a = b := by
  have nd := h.nd hN
  clear h
  induction H with
  | nil => cases ha
  | cons c r ih =>
    rw [List.flatten_cons] at nd
    obtain ⟨n1, n2, n3⟩ := List.nodup_append.mp nd
    rcases List.mem_cons.mp ha with e1 | ha1 <;> rcases List.mem_cons.mp hb with e2 | hb1
    · rw [e1, e2]
    · rw [e1] at za
      exact absurd rfl (n3 z za z (List.mem_flatten.mpr ⟨b, hb1, zb⟩))
    · rw [e2] at zb
      exact absurd rfl (n3 z zb z (List.mem_flatten.mpr ⟨a, ha1, za⟩))
    · exact ih ha1 hb1 n2
theorem Hps.ndH : H.Nodup := by
  have nd := h.nd hN
  have ne := h.ne
  clear h
  induction H with
  | nil => exact List.nodup_nil
  | cons c r ih =>
    rw [List.flatten_cons] at nd
    obtain ⟨n1, n2, n3⟩ := List.nodup_append.mp nd
    refine List.nodup_cons.mpr ⟨fun hm => ?_, ih n2 fun x hx => ne x (List.mem_cons_of_mem _ hx)⟩
    obtain ⟨z, hz⟩ := List.exists_mem_of_ne_nil c (ne c List.mem_cons_self)
    exact n3 z hz z (List.mem_flatten.mpr ⟨c, hm, hz⟩) rfl
theorem Hps.same {x y : Int} {m : List Int} (hm : m ∈ H) (hx : x ∈ m) (hy : y ∈ m) : Hps N (Ps ++ [(x, y)]) H := by
  refine ⟨h.pm, h.ne, fun g hg a ha b hb => (h.eq g hg a ha b hb).mono fun p hp => List.mem_append_left _ hp, fun p hp => ?_⟩
  rcases List.mem_append.mp hp with hp | hp
  · exact h.pr p hp
  · rw [List.mem_singleton.mp hp]
    exact ⟨m, hm, hx, hy⟩
theorem Hps.join {x y : Int} {m u : List Int} (hm : m ∈ H) (hu : u ∈ H) (hx : x ∈ m) (hy : y ∈ u) (hne : m ≠ u) : Hps N (Ps ++ [(x, y)]) (H.filter (fun g => decide (g ≠ m ∧ g ≠ u)) ++ [m ++ u]) := by
  have ndH := h.ndH hN
  have hp : H.Perm (m :: u :: H.filter fun g => decide (g ≠ m ∧ g ≠ u)) := by
    refine (List.perm_ext_iff_of_nodup ndH ?_).mpr fun g => ?_
    · refine List.nodup_cons.mpr ⟨?_, List.nodup_cons.mpr ⟨?_, ndH.filter _⟩⟩
      · simp [hne]
      · simp
    · simp only [List.mem_cons, List.mem_filter, decide_eq_true_eq]
      constructor
      · intro hg
        by_cases e1 : g = m
        · exact .inl e1
        · by_cases e2 : g = u
          · exact .inr (.inl e2)
          · exact .inr (.inr ⟨hg, e1, e2⟩)
      · rintro (rfl | rfl | ⟨hg, _⟩)
        · exact hm
        · exact hu
        · exact hg
  have mon : ∀ {a b}, Eqn Ps a b → Eqn (Ps ++ [(x, y)]) a b := fun e => e.mono fun p hp => List.mem_append_left _ hp
  have exy : Eqn (Ps ++ [(x, y)]) x y := .gen (p := (x, y)) (List.mem_append_right _ (List.mem_singleton.mpr rfl))
  refine ⟨?_, fun g hg => ?_, fun g hg a ha b hb => ?_, fun p hp' => ?_⟩
  · refine List.Perm.trans ?_ h.pm
    have := hp.flatten
    refine List.Perm.trans ?_ this.symm
    rw [List.flatten_append, List.flatten_cons, List.flatten_cons, List.flatten_cons, List.flatten_nil, List.append_nil]
    rw [← List.append_assoc m u]
    exact List.perm_append_comm
  · rcases List.mem_append.mp hg with hg | hg
    · exact h.ne g (List.mem_filter.mp hg).1
    · rw [List.mem_singleton.mp hg]
      intro e
      have := List.append_eq_nil_iff.mp e
      exact h.ne m hm this.1
  · rcases List.mem_append.mp hg with hg | hg
    · exact mon (h.eq g (List.mem_filter.mp hg).1 a ha b hb)
    · rw [List.mem_singleton.mp hg] at ha hb
      have key : ∀ z, z ∈ m ++ u → Eqn (Ps ++ [(x, y)]) z x := fun z hz => by
        rcases List.mem_append.mp hz with hz | hz
        · exact mon (h.eq m hm z hz x hx)
        · exact (mon (h.eq u hu z hz y hy)).trans exy.symm
      exact (key a ha).trans (key b hb).symm
  · have emb : ∀ g ∈ H, ∃ g' ∈ H.filter (fun g => decide (g ≠ m ∧ g ≠ u)) ++ [m ++ u], ∀ z ∈ g, z ∈ g' := fun g hg => by
      by_cases e1 : g = m
      · exact ⟨m ++ u, List.mem_append_right _ (List.mem_singleton.mpr rfl), fun z hz => List.mem_append_left _ (e1 ▸ hz)⟩
      · by_cases e2 : g = u
        · exact ⟨m ++ u, List.mem_append_right _ (List.mem_singleton.mpr rfl), fun z hz => List.mem_append_right _ (e2 ▸ hz)⟩
        · exact ⟨g, List.mem_append_left _ (List.mem_filter.mpr ⟨hg, by simp [e1, e2]⟩), fun z hz => hz⟩
    rcases List.mem_append.mp hp' with hp' | hp'
    · obtain ⟨g, hg, h1, h2⟩ := h.pr p hp'
      obtain ⟨g', hg', hz⟩ := emb g hg
      exact ⟨g', hg', hz _ h1, hz _ h2⟩
    · rw [List.mem_singleton.mp hp']
      exact ⟨m ++ u, List.mem_append_right _ (List.mem_singleton.mpr rfl), List.mem_append_left _ hx, List.mem_append_right _ hy⟩
end
end VP

/-! ## VFS -/
/-! heaps in order are the loops -/
namespace VP
open PySem PySem.Spec PyProof.Rows L2 VV VP
theorem loops_heaps {N : List Int} {Ps : List (Int × Int)} {H : List (List Int)} {rt : Int → Int} (hN : N.Pairwise (· < ·)) (h : Hps N Ps H) (hr : IsRt Ps rt) (hm : ∀ n ∈ N, rt n ∈ N) : (H.map srtI).Perm (loopsF N rt) := by
  have nd : N.Nodup := hN.imp fun h => by omega
  have ndF := h.nd nd
  have memF : ∀ z, z ∈ N ↔ ∃ g ∈ H, z ∈ g := fun z => by rw [← h.pm.mem_iff, List.mem_flatten]
  have hin : ∀ {g : List Int} {z w : Int}, g ∈ H → z ∈ g → w ∈ N → (w ∈ g ↔ rt w = rt z) := fun {g z w} hg hz hw => by
    constructor
    · intro hwg; exact (h.eq g hg w hwg z hz).fn hr.pr
    · intro e
      obtain ⟨g', hg', hw'⟩ := (memF w).mp hw
      -- the heap of w is that of z
      have e2 := (hr.iff.mp e).fn (f := fun n => H.find? fun q => decide (n ∈ q)) (fun p hp => by
        obtain ⟨q, hq, q1, q2⟩ := h.pr p hp
        have f : ∀ n, n ∈ q → (H.find? fun q => decide (n ∈ q)) = some q := fun n hn => by
          cases e : H.find? fun q => decide (n ∈ q) with
          | none => exact absurd (List.find?_eq_none.mp e q hq) (by simp [hn])
          | some q' =>
            have a1 := List.find?_some e
            rw [h.uniq nd (List.mem_of_find?_eq_some e) hq (by simpa using a1) hn]
        rw [f _ q1, f _ q2])
      have f : ∀ n q, q ∈ H → n ∈ q → (H.find? fun q => decide (n ∈ q)) = some q := fun n q hq hn => by
        cases e : H.find? fun q => decide (n ∈ q) with
        | none => exact absurd (List.find?_eq_none.mp e q hq) (by simp [hn])
        | some q' =>
          have a1 := List.find?_some e
          rw [h.uniq nd (List.mem_of_find?_eq_some e) hq (by simpa using a1) hn]
      try dsimp only at e2
      rw [f w g' hg' hw', f z g hg hz] at e2
      cases e2
      exact hw'
  -- each heap by its least
  have ndg : ∀ g ∈ H, g.Nodup := fun g hg => List.Pairwise.sublist (List.sublist_flatten_of_mem hg) ndF
  have hg2 : ∀ g ∈ H, ∃ r, r ∈ N ∧ rt r = r ∧ r ∈ g ∧ srtI g = N.filter fun n => decide (rt n = r) := fun g hg => by
    obtain ⟨z, hz⟩ := List.exists_mem_of_ne_nil g (h.ne g hg)
    have hzN := (memF z).mpr ⟨g, hg, hz⟩
    have hrN := hm z hzN
    have hrg : rt z ∈ g := (hin hg hz hrN).mpr (hr.rr z)
    refine ⟨rt z, hrN, hr.rr z, hrg, ?_⟩
    symm
    refine srtI_uniq ?_ ((hN.filter _).imp fun h => by omega)
    refine (List.perm_ext_iff_of_nodup (nd.filter _) (ndg g hg)).mpr fun w => ?_
    rw [List.mem_filter, decide_eq_true_eq]
    constructor
    · rintro ⟨h1, h2⟩; exact (hin hg hz h1).mpr h2
    · intro hw
      have hwN := (memF w).mpr ⟨g, hg, hw⟩
      exact ⟨hwN, (hin hg hz hwN).mp hw⟩
  unfold loopsF
  refine (List.perm_ext_iff_of_nodup ?_ ?_).mpr fun L => ?_
  · refine List.pairwise_map.mpr (List.Pairwise.imp_of_mem ?_ (h.ndH nd))
    intro a b ha hb hne e
    obtain ⟨z, hz⟩ := List.exists_mem_of_ne_nil a (h.ne a ha)
    have : z ∈ srtI b := by rw [← e]; exact (srtI_perm a).mem_iff.mpr hz
    exact hne (h.uniq nd ha hb hz ((srtI_perm b).mem_iff.mp this))
  · refine List.pairwise_map.mpr (List.Pairwise.imp_of_mem ?_ (nd.filter _))
    intro a b ha hb hne e
    obtain ⟨a1, a2⟩ := List.mem_filter.mp ha
    have : a ∈ N.filter fun n => decide (rt n = b) := by rw [← e]; exact List.mem_filter.mpr ⟨a1, a2⟩
    have h2 := (List.mem_filter.mp this).2
    simp at a2 h2
    exact hne (by rw [← a2, h2])
  · rw [List.mem_map, List.mem_map]
    constructor
    · rintro ⟨g, hg, rfl⟩
      obtain ⟨r, r1, r2, r3, r4⟩ := hg2 g hg
      exact ⟨r, List.mem_filter.mpr ⟨r1, by simpa using r2⟩, r4.symm⟩
    · rintro ⟨r, hr', rfl⟩
      obtain ⟨r1, r2⟩ := List.mem_filter.mp hr'
      have r2 : rt r = r := by simpa using r2
      obtain ⟨g, hg, hrg⟩ := (memF r).mp r1
      obtain ⟨q, q1, q2, q3, q4⟩ := hg2 g hg
      refine ⟨g, hg, ?_⟩
      have : r = q := by
        have := (hin hg q3 r1).mp hrg
        rw [r2, q2] at this
        exact this
      rw [q4, this]
/-- the loops stand in order -/
theorem loops_sorted {N : List Int} {rt : Int → Int} (hN : N.Pairwise (· < ·)) (hle : ∀ n, rt n ≤ n) : srtL (loopsF N rt) = loopsF N rt := by
  have hd : ∀ r ∈ N, rt r = r → ∃ t, N.filter (fun n => decide (rt n = r)) = r :: t := fun r hr e => by
    have hm : r ∈ N.filter fun n => decide (rt n = r) := List.mem_filter.mpr ⟨hr, by simpa using e⟩
    have hp := hN.filter fun n => decide (rt n = r)
    cases hf : N.filter fun n => decide (rt n = r) with
    | nil => rw [hf] at hm; cases hm
    | cons a t =>
      rw [hf] at hm hp
      have ha : a ∈ N.filter fun n => decide (rt n = r) := by rw [hf]; exact List.mem_cons_self
      have h1 := (List.mem_filter.mp ha).2
      have h1 : rt a = r := by simpa using h1
      have h2 := hle a
      rcases List.mem_cons.mp hm with e' | hm
      · exact ⟨t, by rw [e']⟩
      · have := (List.pairwise_cons.mp hp).1 r hm
        omega
  have pw : (loopsF N rt).Pairwise (· ≤ ·) := by
    unfold loopsF
    refine List.pairwise_map.mpr (List.Pairwise.imp_of_mem ?_ (hN.filter _))
    intro a b ha hb hab
    obtain ⟨a1, a2⟩ := List.mem_filter.mp ha
    obtain ⟨b1, b2⟩ := List.mem_filter.mp hb
    obtain ⟨s, hs⟩ := hd a a1 (by simpa using a2)
    obtain ⟨t, ht⟩ := hd b b1 (by simpa using b2)
    rw [hs, ht]
    exact List.le_of_lt (List.Lex.rel hab)
  unfold srtL
  exact List.mergeSort_of_pairwise (pw.imp fun h => by simpa using h)
end VP

/-! ## VFT -/
/-! the law's own loops -/
namespace VP
open PySem PySem.Spec PyProof.Rows L2 VV VP
theorem Hps.one {N : List Int} {Ps : List (Int × Int)} {H : List (List Int)} (hN : N.Nodup) (h : Hps N Ps H) {m : List Int} {z : Int} (hm : m ∈ H) (hz : z ∈ m) : H.filter (fun g => decide (z ∈ g)) = [m] := by
  refine List.perm_singleton.mp ((List.perm_ext_iff_of_nodup ((h.ndH hN).filter _) (by simp)).mpr fun g => ?_)
  rw [List.mem_filter, decide_eq_true_eq, List.mem_singleton]
  constructor
  · rintro ⟨h1, h2⟩; exact h.uniq hN h1 hm h2 hz
  · rintro rfl; exact ⟨hm, hz⟩
theorem Hps.lenH {N : List Int} {Ps : List (Int × Int)} {H : List (List Int)} (h : Hps N Ps H) : H.length ≤ N.length := by
  rw [← h.pm.length_eq]
  have ne := h.ne
  clear h
  induction H with
  | nil => simp
  | cons c r ih =>
    have := ih fun x hx => ne x (List.mem_cons_of_mem _ hx)
    have h3 : 0 < c.length := List.length_pos_iff.mpr (ne c List.mem_cons_self)
    rw [List.flatten_cons, List.length_append, List.length_cons]
    omega
theorem notIn_two {g m u : List Int} : dNotInX [intsD g, .tup [intsD m, intsD u]] = some (.bl (decide (g ≠ m ∧ g ≠ u))) := by
  unfold dNotInX
  dsimp only
  have h1 : D.shd (intsD g) = true := ints_ok.shd (by decide)
  have h2 : canL [intsD m, intsD u] = true := by
    have := canLayAll_map (fun l : List Int => (intsD l).toP) [m, u] fun a _ => (@ints_ok a).1
    unfold canL
    simpa [D.toPL] using this
  rw [h1, h2]
  simp only [Bool.and_self, if_true, Option.some.injEq, D.bl.injEq, inL, List.any_cons, List.any_nil, Bool.or_false]
  have e1 : (intsD m).eqv (intsD g) = decide (m = g) := (Eqv.lst Eqv.int) m g
  have e2 : (intsD u).eqv (intsD g) = decide (u = g) := (Eqv.lst Eqv.int) u g
  rw [e1, e2]
  by_cases x : m = g
  · rw [decide_eq_true x, decide_eq_false (fun h : g ≠ m ∧ g ≠ u => h.1 x.symm)]; rfl
  · by_cases y : u = g
    · rw [decide_eq_false x, decide_eq_true y, decide_eq_false (fun h : g ≠ m ∧ g ≠ u => h.2 y.symm)]; rfl
    · rw [decide_eq_false x, decide_eq_false y, decide_eq_true (show g ≠ m ∧ g ≠ u from ⟨fun z => x z.symm, fun z => y z.symm⟩)]; rfl
theorem ne_ints {m u : List Int} : dNe [intsD m, intsD u] = some (.bl (decide (m ≠ u))) := ne_of_eqv (x := intsD) (Eqv.lst Eqv.int) ints_ok ints_ok (by decide)
theorem pick {ρ : List D} {H : List (List Int)} {s : Nat} {z : Int} (h4 : ρ[4]? = some (.lst (H.map intsD))) (hs : ρ[s]? = some (.int z)) (hs15 : s ≠ 15) (hl : 15 < ρ.length) :
    eLc (iLst (eVar 4)) (gN 15) (tOf (eP dInX (aCons (eVar s) (aCons (eVar 15) aNil)))) (eVar 15) ρ = some (.lst ((H.filter fun g => decide (z ∈ g)).map intsD)) := by
  rw [eLc_s]
  have : iLst (eVar 4) ρ = some (H.map intsD) := by simp [h4]
  rw [this]
  simp only [ob_some]
  rw [lcL_filter intsD (fun g => decide (z ∈ g)) intsD _ fun g hg => ⟨_, rfl, ?_, fun _ => ?_⟩]
  · rfl
  · have a1 : (ρ.set 15 (intsD g))[s]? = some (.int z) := by rw [List.getElem?_set_ne (Ne.symm hs15)]; exact hs
    have a2 : (ρ.set 15 (intsD g))[15]? = some (intsD g) := by rw [List.getElem?_set_self hl]
    simp only [tOf_s, eP_s, aCons_s, aNil_s, eVar_s, a1, a2, ob_some, in_ints, asB_s]
  · rw [eVar_s, List.getElem?_set_self hl]
section
variable {rs : List Int} {cs : List Cr} {bs : List Int} (g : Good rs cs) (hl : rs.length + 4 * cs.length < 64) (hb : bs.length = cs.length) (hb01 : ∀ b ∈ bs, b = 0 ∨ b = 1)
include g hl hb hb01
theorem lloops_gen {oB : D} (hfl : oB.isFlat = true) (hzo : ∀ {a : List D → Option (List D)} {ρ l : List D}, a ρ = some [.lst l, oB] → iZipM a ρ = some ((l.zip (bs.map D.int)).map fun p => .tup [p.1, p.2])) : ∀ {rt : Int → Int}, IsRt (allP (cs.zip bs)) rt → (∀ n ∈ namesC rs cs, rt n ∈ namesC rs cs) → f__law_loops [drD rs cs, oB] = some (.ret (.lst ((loopsF (namesC rs cs) rt).map intsD))) := by
  intro rt hrt hrm
  have hlt : (namesC rs cs).Pairwise (· < ·) := srtI_lt g.nd
  have hnd : (namesC rs cs).Nodup := hlt.imp fun h => by omega
  have hpm := @prC_mem rs cs g.cl
  have key : ∃ d, f__law_loops [drD rs cs, oB] = some (.ret d) ∧ ∃ H, Hps (namesC rs cs) (allP (cs.zip bs)) H ∧ d = .lst ((srtL (H.map srtI)).map intsD) := by
    refine fn_ex (by simp [hfl]) ?_
    show Go m__law_loops [drD rs cs, oB, .non, .non, .non, .non, .non, .non, .non, .non, .non, .non, .non, .non, .non, .non] _
    unfold m__law_loops
    refine Go.set (d := intsD rs) (by simp [Option.filter_some, intsD, dList]) ?_
    unfold m__law_loops_1
    rw [go_seq]
    refine go_for crD cs (fun i ρ => ∃ j, ρ = [drD rs cs, oB, intsD (rs ++ allC (cs.take i)), j, .non, .non, .non, .non, .non, .non, .non, .non, .non, .non, .non, .non]) (by simp) ⟨.non, by simp [allC]⟩ (fun i x ρ hi hR => ?_) (fun ρ' hR => ?_)
    · obtain ⟨j, rfl⟩ := hR
      refine ⟨[drD rs cs, oB, intsD (rs ++ allC (cs.take i)), crD x, .non, .non, .non, .non, .non, .non, .non, .non, .non, .non, .non, .non], by simp, ?_⟩
      unfold m__law_loops_b1
      have hal := @allC_len (cs.take i)
      rw [List.length_take] at hal
      have hc := catF_ints (l := rs ++ allC (cs.take i)) (r := [x.a, x.b, x.c, x.d]) (by simp; omega)
      refine Go.set1 (d := intsD (rs ++ allC (cs.take i) ++ [x.a, x.b, x.c, x.d])) (by simp [chk_cr, tail4, list4, hc]) ⟨_, .inl rfl, crD x, ?_⟩
      rw [allC_take hi, List.append_assoc]
      rfl
    obtain ⟨j3, rfl⟩ := hR
    rw [List.take_length, cont_nx]
    have hal := @allC_len cs
    have hnl : (rs ++ allC cs).length < 64 := by rw [List.length_append, hal]; omega
    have hset : srtSet (rs ++ allC cs) = namesC rs cs := rising_uniq (pw_srtSet _) hlt fun k => by
      rw [mem_srtSet, g.all]
      exact (srtI_perm _).mem_iff.symm
    have ss := sortSet_s hnl
    rw [hset] at ss
    have hNl : (namesC rs cs).length < 64 := by
      unfold namesC
      rw [(srtI_perm _).length_eq, List.length_append, insC_len]; omega
    generalize hNN : namesC rs cs = N at *
    generalize hnsD : intsD (rs ++ allC cs) = nsD at *
    unfold m__law_loops_2
    refine Go.set (d := .lst ((N.map fun n => [n]).map intsD)) ?_ ?_
    · rw [eLc_s]
      have : iLst (eP dSortSet (aCons (eVar 2) aNil)) [drD rs cs, oB, nsD, j3, .non, .non, .non, .non, .non, .non, .non, .non, .non, .non, .non, .non] = some (N.map D.int) := by
        simp [ss, intsD]
      rw [this]
      simp only [ob_some]
      rw [lcL_map D.int (fun n => intsD [n]) _ fun n hn => ⟨[drD rs cs, oB, nsD, j3, .non, .non, .non, .non, .non, .non, .non, .non, .non, .non, .int n, .non], by simp, rfl, ?_⟩]
      · simp
      · unfold m__law_loops_e1
        simp [intsD]
    unfold m__law_loops_3
    rw [go_seq]
    refine go_for (fun p : Cr × Int => D.tup [crD p.1, .int p.2]) (cs.zip bs) (fun i ρ => ∃ (H : List (List Int)) (j3 j5 j6 j7 j8 j9 j10 j11 j12 j13 : D), ρ = [drD rs cs, oB, nsD, j3, .lst (H.map intsD), j5, j6, j7, j8, j9, j10, j11, j12, j13, .non, .non] ∧ Hps N (allP ((cs.zip bs).take i)) H) ?_ ⟨_, _, _, _, _, _, _, _, _, _, _, rfl, Hps.zero⟩ (fun i p ρ hi hR => ?_) (fun ρ' hR => ?_)
    · rw [hzo (l := cs.map crD) (by simp), List.zip_map, List.map_map]
      rfl
    · obtain ⟨H, j3, j5, j6, j7, j8, j9, j10, j11, j12, j13, rfl, hH⟩ := hR
      obtain ⟨x, b⟩ := p
      refine ⟨[drD rs cs, oB, nsD, crD x, .lst (H.map intsD), .int b, j6, j7, j8, j9, j10, j11, j12, j13, .non, .non], by simp, ?_⟩
      have hx : x ∈ cs := (List.of_mem_zip (List.mem_of_getElem? hi)).1
      have hbb : b = 0 ∨ b = 1 := hb01 b (List.of_mem_zip (List.mem_of_getElem? hi)).2
      have body : ∀ p q r t : Int, (if b = 0 then [(p, q), (r, t)] else [(p, t), (q, r)]) = prC x b → Go m__law_loops_b2_1 [drD rs cs, oB, nsD, crD x, .lst (H.map intsD), .int b, .int p, .int q, .int r, .int t, j10, j11, j12, j13, .non, .non]
          fun o => ∃ ρ2, (o = .nx ρ2 ∨ o = .ct ρ2) ∧ ∃ (H : List (List Int)) (j3 j5 j6 j7 j8 j9 j10 j11 j12 j13 : D), ρ2 = [drD rs cs, oB, nsD, j3, .lst (H.map intsD), j5, j6, j7, j8, j9, j10, j11, j12, j13, .non, .non] ∧ Hps N (allP ((cs.zip bs).take (i + 1))) H := fun p q r t hpr => by
        unfold m__law_loops_b2_1
        refine go_for prD (prC x b) (fun k ρ => ∃ (H : List (List Int)) (j10 j11 j12 j13 : D), ρ = [drD rs cs, oB, nsD, crD x, .lst (H.map intsD), .int b, .int p, .int q, .int r, .int t, j10, j11, j12, j13, .non, .non] ∧ Hps N (allP ((cs.zip bs).take i) ++ (prC x b).take k) H) ?_ ⟨H, _, _, _, _, rfl, by simpa using hH⟩ (fun k w ρ hk hR => ?_) (fun ρ' hR => ?_)
        · rw [← hpr]
          rcases hbb with rfl | rfl
          · simp [prD]
          · simp [prD]
        · obtain ⟨H, j10, j11, j12, j13, rfl, hH⟩ := hR
          obtain ⟨hw1, hw2⟩ := hpm hx b w (List.mem_of_getElem? hk)
          refine ⟨[drD rs cs, oB, nsD, crD x, .lst (H.map intsD), .int b, .int p, .int q, .int r, .int t, .int w.1, .int w.2, j12, j13, .non, .non], by simp [prD], ?_⟩
          obtain ⟨m, hm, hmz⟩ := List.mem_flatten.mp (hH.pm.mem_iff.mpr hw1)
          obtain ⟨u, hu, huz⟩ := List.mem_flatten.mp (hH.pm.mem_iff.mpr hw2)
          unfold m__law_loops_b3
          have e1 := pick (ρ := [drD rs cs, oB, nsD, crD x, .lst (H.map intsD), .int b, .int p, .int q, .int r, .int t, .int w.1, .int w.2, j12, j13, .non, .non]) (H := H) (s := 10) (z := w.1) rfl rfl (by decide) (by simp)
          rw [hH.one hnd hm hmz] at e1
          have i1 : dIdx [.lst ([m].map intsD), .int 0] = some (intsD m) := by simp
          have i2 : dIdx [.lst ([u].map intsD), .int 0] = some (intsD u) := by simp
          refine Go.set (d := intsD m) (by rw [eP_s, aCons_s, e1]; simp only [ob_some, aCons_s, eC_s, aNil_s]; exact i1) ?_
          unfold m__law_loops_b3_1
          have e2 := pick (ρ := [drD rs cs, oB, nsD, crD x, .lst (H.map intsD), .int b, .int p, .int q, .int r, .int t, .int w.1, .int w.2, intsD m, j13, .non, .non]) (H := H) (s := 11) (z := w.2) rfl rfl (by decide) (by simp)
          rw [hH.one hnd hu huz] at e2
          refine Go.set (d := intsD u) (by rw [eP_s, aCons_s]; simp only [List.set_cons_succ, List.set_cons_zero, e2, ob_some, aCons_s, eC_s, aNil_s]; exact i2) ?_
          unfold m__law_loops_b3_2
          rw [take_snoc hk, ← List.append_assoc]
          refine go_ite (p := m ≠ u) (by simp [ne_ints]) (fun hne => ?_) (fun hne => ?_)
          · unfold m__law_loops_c1
            have e3 : eLc (iLst (eVar 4)) (gN 15) (tOf (eP dNotInX (aCons (eVar 15) (aCons (eTup (aCons (eVar 12) (aCons (eVar 13) aNil))) aNil)))) (eVar 15) [drD rs cs, oB, nsD, crD x, .lst (H.map intsD), .int b, .int p, .int q, .int r, .int t, .int w.1, .int w.2, intsD m, intsD u, .non, .non] = some (.lst ((H.filter fun g => decide (g ≠ m ∧ g ≠ u)).map intsD)) := by
              rw [eLc_s]
              simp only [iLst_s, eVar_s, List.getElem?_cons_succ, List.getElem?_cons_zero, ob_some, asL_l]
              rw [lcL_filter intsD (fun g => decide (g ≠ m ∧ g ≠ u)) intsD _ fun g hg => ⟨[drD rs cs, oB, nsD, crD x, .lst (H.map intsD), .int b, .int p, .int q, .int r, .int t, .int w.1, .int w.2, intsD m, intsD u, .non, intsD g], rfl, ?_, fun _ => rfl⟩]
              · rfl
              · simp only [tOf_s, eP_s, aCons_s, aNil_s, eVar_s, eTup_s, List.getElem?_cons_succ, List.getElem?_cons_zero, ob_some, notIn_two, asB_s]
            have hlm := (List.sublist_flatten_of_mem hm).length_le
            have hlu := (List.sublist_flatten_of_mem hu).length_le
            have hpl := hH.pm.length_eq
            have hHl := hH.lenH
            have c1 := catF_ints (l := m) (r := u) (by omega)
            have hfl := List.length_filter_le (fun g => decide (g ≠ m ∧ g ≠ u)) H
            have c2 : dCat [.lst ((H.filter fun g => decide (g ≠ m ∧ g ≠ u)).map intsD), .lst [intsD (m ++ u)]] = some (.lst ((H.filter (fun g => decide (g ≠ m ∧ g ≠ u)) ++ [m ++ u]).map intsD)) := by
              unfold dCat
              dsimp only
              rw [if_pos (by rw [List.length_map, List.length_singleton]; omega)]
              simp
            refine Go.set1 (d := .lst ((H.filter (fun g => decide (g ≠ m ∧ g ≠ u)) ++ [m ++ u]).map intsD)) ?_ ⟨_, .inl rfl, _, _, _, _, _, rfl, hH.join hnd hm hu hmz huz hne⟩
            simp only [List.set_cons_succ, List.set_cons_zero, eP_s, aCons_s, aNil_s, eLst_s, e3, eVar_s, List.getElem?_cons_succ, List.getElem?_cons_zero, ob_some, c1, c2]
          · rw [go_nil]
            have hmu : m = u := Classical.not_not.mp hne
            exact ⟨_, .inl rfl, H, _, _, _, _, rfl, hH.same hnd hm hmz (hmu ▸ huz)⟩
        · obtain ⟨H, j10, j11, j12, j13, rfl, hH⟩ := hR
          rw [List.take_length] at hH
          refine ⟨_, .inl rfl, H, _, _, _, _, _, _, _, _, _, _, rfl, ?_⟩
          rw [allP_take hi]
          exact hH
      unfold m__law_loops_b2
      by_cases hs : x.s = 1
      · refine Go.asg (d := .tup [.int x.a, .int x.d, .int x.b, .int x.c]) (by simp [lends_ok, hs]) (ρ' := [drD rs cs, oB, nsD, crD x, .lst (H.map intsD), .int b, .int x.a, .int x.d, .int x.b, .int x.c, j10, j11, j12, j13, .non, .non]) (by simp) ?_
        refine body _ _ _ _ ?_
        unfold prC
        rw [if_pos hs]
      · refine Go.asg (d := .tup [.int x.a, .int x.c, .int x.b, .int x.d]) (by simp [lends_ok, hs]) (ρ' := [drD rs cs, oB, nsD, crD x, .lst (H.map intsD), .int b, .int x.a, .int x.c, .int x.b, .int x.d, j10, j11, j12, j13, .non, .non]) (by simp) ?_
        refine body _ _ _ _ ?_
        unfold prC
        rw [if_neg hs]
    obtain ⟨H, j3, j5, j6, j7, j8, j9, j10, j11, j12, j13, rfl, hH⟩ := hR
    rw [List.take_length] at hH
    rw [cont_nx]
    unfold m__law_loops_4
    have hHl : H.length ≤ 1000 := by
      have := hH.lenH
      omega
    have e : eLc (iLst (eVar 4)) (gN 15) cYes m__law_loops_e2 [drD rs cs, oB, nsD, j3, .lst (H.map intsD), j5, j6, j7, j8, j9, j10, j11, j12, j13, .non, .non] = some (.lst ((H.map srtI).map intsD)) := by
      rw [eLc_s]
      simp only [iLst_s, eVar_s, List.getElem?_cons_succ, List.getElem?_cons_zero, ob_some, asL_l]
      rw [lcL_map intsD (fun l => intsD (srtI l)) _ fun l hl' => ⟨[drD rs cs, oB, nsD, j3, .lst (H.map intsD), j5, j6, j7, j8, j9, j10, j11, j12, j13, .non, intsD l], rfl, rfl, ?_⟩]
      · simp
      · unfold m__law_loops_e2
        have hll : l.length ≤ 1000000 := by
          have h1 := hH.pm.length_eq
          have h2 := (List.sublist_flatten_of_mem hl').length_le
          omega
        simp [sort_ints hll, Option.filter_some]
    refine Go.ret (d := .lst ((srtL (H.map srtI)).map intsD)) ?_ ⟨_, rfl, H, hH, rfl⟩
    rw [eP_s, aCons_s, e]
    simp only [ob_some, aNil_s]
    exact sort_rows (by rw [List.length_map]; omega)
  obtain ⟨d, h, H, hH, rfl⟩ := key
  rw [h, srtL_perm (loops_heaps hlt hH hrt hrm), loops_sorted hlt hrt.le]
theorem lloops_ok : ∀ {rt : Int → Int}, IsRt (allP (cs.zip bs)) rt → (∀ n ∈ namesC rs cs, rt n ∈ namesC rs cs) → f__law_loops [drD rs cs, bitsD bs] = some (.ret (.lst ((loopsF (namesC rs cs) rt).map intsD))) := fun hrt hrm =>
  lloops_gen g hl hb hb01 (oB := bitsD bs) (by simp [bitsD]) (fun h => iZipM_s h) hrt hrm
end
end VP

/-! ## VFU -/
/-! chains of a partial injection: a class from its start to its end -/
namespace VP
open PySem PySem.Spec PyProof.Rows L2 VV VP
theorem nodup_len : ∀ {l m : List Int}, l.Nodup → (∀ z ∈ l, z ∈ m) → l.length ≤ m.length
  | [], _, _, _ => by simp
  | a :: l, m, h, hs => by
    obtain ⟨h1, h2⟩ := List.nodup_cons.mp h
    have ha := hs a List.mem_cons_self
    have hp := (List.perm_cons_erase ha).length_eq
    have ih := nodup_len h2 (m := m.erase a) fun z hz => (List.mem_erase_of_ne (fun e : z = a => h1 (e ▸ hz))).mpr (hs z (List.mem_cons_of_mem _ hz))
    simp at hp ⊢
    omega
section
variable {Pr : List (Int × Int)} {N : List Int} {f : Int → Option Int}
/-- the chain from c: V ahead of it, all in one class; it stops at e -/
theorem chain_go (hN : N.Nodup) (hp : ∀ p ∈ Pr, f p.1 = some p.2 ∨ f p.2 = some p.1) (hf : ∀ z w, f z = some w → Eqn Pr z w ∧ w ∈ N) (inj : ∀ z z' w, f z = some w → f z' = some w → z = z') {s : Int} (hs : ∀ z, f z ≠ some s) :
    ∀ (n : Nat) (V : List Int) (c : Int), N.length - V.length = n → V.Nodup → (∀ v ∈ V, v ∈ N) → c ∈ N → c ∉ V → (∀ v ∈ V, ∃ w, f v = some w ∧ (w ∈ V ∨ w = c)) → (∀ v, v ∈ V ∨ v = c → v = s ∨ ∃ u ∈ V, f u = some v) → (∀ v, v ∈ V ∨ v = c → Eqn Pr s v) → s ∈ V ∨ s = c →
      ∃ S : List Int, ∃ e ∈ S, f e = none ∧ s ∈ S ∧ (∀ z ∈ S, Eqn Pr s z) ∧ (∀ z ∈ S, z ≠ e → ∃ w ∈ S, f z = some w) ∧ (∀ z ∈ S, z = s ∨ ∃ u ∈ S, f u = some z) := by
  intro n
  induction n with
  | zero =>
    intro V c hn hV hVN hc hcV _ _ _ _
    exfalso
    have h1 : (c :: V).Nodup := List.nodup_cons.mpr ⟨hcV, hV⟩
    have h2 : (c :: V).length ≤ N.length := nodup_len h1 fun z hz => by
      rcases List.mem_cons.mp hz with rfl | hz
      · exact hc
      · exact hVN z hz
    simp at h2
    omega
  | succ n ih =>
    intro V c hn hV hVN hc hcV h1 h2 h3 h4
    cases hfc : f c with
    | none =>
      refine ⟨V ++ [c], c, by simp, hfc, by simpa using h4, fun z hz => h3 z (by simpa using hz), fun z hz hne => ?_, fun z hz => ?_⟩
      · rcases List.mem_append.mp hz with hz | hz
        · obtain ⟨w, hw, hw2⟩ := h1 z hz
          exact ⟨w, by simpa using hw2, hw⟩
        · exact absurd (List.mem_singleton.mp hz) hne
      · rcases h2 z (by simpa using hz) with h | ⟨u, hu, e⟩
        · exact .inl h
        · exact .inr ⟨u, List.mem_append_left _ hu, e⟩
    | some w =>
      have hwc : w ≠ c := fun e => by
        rcases h2 c (.inr rfl) with h | ⟨u, hu, e2⟩
        · exact hs c (by rw [hfc, e, h])
        · exact hcV ((inj c u c (by rw [hfc, e]) e2) ▸ hu)
      have hwV : w ∉ V := fun hm => by
        rcases h2 w (.inl hm) with h | ⟨u, hu, e2⟩
        · exact hs c (by rw [hfc, h])
        · exact hcV ((inj c u w hfc e2) ▸ hu)
      refine ih (V ++ [c]) w (by simp; omega) ?_ ?_ (hf c w hfc).2 ?_ ?_ ?_ ?_ ?_
      · exact List.nodup_append.mpr ⟨hV, by simp, fun a ha b hb e => hcV (by rw [← List.mem_singleton.mp hb, ← e]; exact ha)⟩
      · intro v hv
        rcases List.mem_append.mp hv with hv | hv
        · exact hVN v hv
        · rw [List.mem_singleton.mp hv]; exact hc
      · simp [hwV, hwc]
      · intro v hv
        rcases List.mem_append.mp hv with hv | hv
        · obtain ⟨x, hx, hx2⟩ := h1 v hv
          exact ⟨x, hx, .inl (by simpa using hx2)⟩
        · rw [List.mem_singleton.mp hv]
          exact ⟨w, hfc, .inr rfl⟩
      · intro v hv
        rcases hv with hv | rfl
        · rcases h2 v (by simpa using hv) with h | ⟨u, hu, e⟩
          · exact .inl h
          · exact .inr ⟨u, List.mem_append_left _ hu, e⟩
        · exact .inr ⟨c, by simp, hfc⟩
      · intro v hv
        rcases hv with hv | rfl
        · exact h3 v (by simpa using hv)
        · exact (h3 c (.inr rfl)).trans (hf c v hfc).1
      · exact .inl (by simpa using h4)
/-- the class of a start is its chain; it stops where f does -/
theorem chain_ok (hN : N.Nodup) (hp : ∀ p ∈ Pr, f p.1 = some p.2 ∨ f p.2 = some p.1) (hf : ∀ z w, f z = some w → Eqn Pr z w ∧ w ∈ N) (inj : ∀ z z' w, f z = some w → f z' = some w → z = z') {s : Int} (hs : ∀ z, f z ≠ some s) (hsN : s ∈ N) :
    ∃ e, f e = none ∧ Eqn Pr s e ∧ (∀ z, Eqn Pr s z → f z = none → z = e) ∧ (∀ z, Eqn Pr s z → (∀ u, f u ≠ some z) → z = s) := by
  obtain ⟨S, e, he, h1, h2, h3, h4, h5⟩ := chain_go hN hp hf inj hs N.length [] s (by simp) List.nodup_nil (by simp) hsN (by simp) (by simp) (fun v hv => .inl (by simpa using hv)) (fun v hv => by
    have : v = s := by simpa using hv
    rw [this]; exact .refl s) (.inr rfl)
  have cl : ∀ z, Eqn Pr s z → z ∈ S := fun z hz => by
    have := hz.fn (f := fun n => decide (n ∈ S)) fun p hp' => by
      have go : ∀ u w, f u = some w → (u ∈ S ↔ w ∈ S) := fun u w e' => by
        constructor
        · intro hu
          by_cases hue : u = e
          · rw [hue, h1] at e'; cases e'
          · obtain ⟨x, hx, ex⟩ := h4 u hu hue
            rw [e'] at ex; cases ex; exact hx
        · intro hw
          rcases h5 w hw with rfl | ⟨v, hv, ev⟩
          · exact absurd e' (hs u)
          · rw [inj u v w e' ev]; exact hv
      rcases hp p hp' with q | q
      · exact decide_eq_decide.mpr (go _ _ q)
      · exact decide_eq_decide.mpr (go _ _ q).symm
    have hs' : decide (s ∈ S) = true := by simpa using h2
    rw [this] at hs'
    exact of_decide_eq_true hs'
  refine ⟨e, h1, h3 e he, fun z hz hn => ?_, fun z hz hn => ?_⟩
  · by_cases hze : z = e
    · exact hze
    · obtain ⟨w, _, hw⟩ := h4 z (cl z hz) hze
      rw [hn] at hw; cases hw
  · rcases h5 z (cl z hz) with h | ⟨u, _, hu⟩
    · exact h
    · exact absurd hu (hn u)
end
end VP

/-! ## VFV -/
/-! the edges of an opening, led by the colours -/
namespace VP
open PySem PySem.Spec PyProof.Rows L2 VV VP
def edC (col : Int → Bool) (x : Cr) (b : Int) : List (Int × Int) :=
  (if (x.s = 1) = (b = 0) then [(x.a, x.d), (x.b, x.c)] else [(x.a, x.c), (x.b, x.d)]).map fun p => if col x.a then p else (p.2, p.1)
theorem edC_pr {col : Int → Bool} {x : Cr} {b : Int} : (∀ p ∈ prC x b, p ∈ edC col x b ∨ (p.2, p.1) ∈ edC col x b) ∧ ∀ p ∈ edC col x b, p ∈ prC x b ∨ (p.2, p.1) ∈ prC x b := by
  unfold edC prC
  by_cases hs : x.s = 1 <;> by_cases hb : b = 0 <;> cases hc : col x.a <;> simp [hs, hb]
theorem edC_fst {col : Int → Bool} {x : Cr} {b : Int} (h : ColX col x) : ((edC col x b).map (·.1)).Perm (([x.a, x.c].filter col) ++ ([x.b, x.d].filter fun z => !col z)) := by
  obtain ⟨h1, h2, h3⟩ := h
  unfold edC
  by_cases hs : (x.s = 1) = (b = 0)
  · rw [if_pos hs]
    cases hc : col x.a <;> rw [hc] at h1 h3 <;> simp at h1 <;> rw [h1] at h2 <;> simp [hc, h1, h2, h3]
    exact List.Perm.swap _ _ _
  · rw [if_neg hs]
    cases hc : col x.a <;> rw [hc] at h1 h3 <;> simp at h1 <;> rw [h1] at h2 <;> simp [hc, h1, h2, h3]
theorem edC_snd {col : Int → Bool} {x : Cr} {b : Int} (h : ColX col x) : ((edC col x b).map (·.2)).Perm (([x.a, x.c].filter fun z => !col z) ++ ([x.b, x.d].filter col)) := by
  obtain ⟨h1, h2, h3⟩ := h
  unfold edC
  by_cases hs : (x.s = 1) = (b = 0)
  · rw [if_pos hs]
    cases hc : col x.a <;> rw [hc] at h1 h3 <;> simp at h1 <;> rw [h1] at h2 <;> simp [hc, h1, h2, h3]
    exact List.Perm.swap _ _ _
  · rw [if_neg hs]
    cases hc : col x.a <;> rw [hc] at h1 h3 <;> simp at h1 <;> rw [h1] at h2 <;> simp [hc, h1, h2, h3]
def edP (col : Int → Bool) (l : List (Cr × Int)) : List (Int × Int) := l.flatMap fun p => edC col p.1 p.2
theorem edP_fst {col : Int → Bool} : ∀ {l : List (Cr × Int)}, (∀ p ∈ l, ColX col p.1) → ((edP col l).map (·.1)).Perm ((insC (l.map (·.1))).filter col ++ (outsC (l.map (·.1))).filter fun z => !col z)
  | [], _ => by simp [edP, insC, outsC]
  | p :: r, h => by
    have ih := edP_fst (l := r) fun q hq => h q (List.mem_cons_of_mem _ hq)
    have h1 := edC_fst (b := p.2) (h p List.mem_cons_self)
    unfold edP insC outsC at *
    simp only [List.flatMap_cons, List.map_append, List.map_cons, List.filter_append]
    refine (h1.append ih).trans ?_
    rw [List.append_assoc, List.append_assoc]
    refine List.Perm.append_left _ ?_
    rw [← List.append_assoc, ← List.append_assoc]
    exact List.Perm.append_right _ List.perm_append_comm
theorem edP_snd {col : Int → Bool} : ∀ {l : List (Cr × Int)}, (∀ p ∈ l, ColX col p.1) → ((edP col l).map (·.2)).Perm ((insC (l.map (·.1))).filter (fun z => !col z) ++ (outsC (l.map (·.1))).filter col)
  | [], _ => by simp [edP, insC, outsC]
  | p :: r, h => by
    have ih := edP_snd (l := r) fun q hq => h q (List.mem_cons_of_mem _ hq)
    have h1 := edC_snd (b := p.2) (h p List.mem_cons_self)
    unfold edP insC outsC at *
    simp only [List.flatMap_cons, List.map_append, List.map_cons, List.filter_append]
    refine (h1.append ih).trans ?_
    rw [List.append_assoc, List.append_assoc]
    refine List.Perm.append_left _ ?_
    rw [← List.append_assoc, ← List.append_assoc]
    exact List.Perm.append_right _ List.perm_append_comm
theorem edP_nd {col : Int → Bool} {l : List (Cr × Int)} (h : ∀ p ∈ l, ColX col p.1) (hi : (insC (l.map (·.1))).Nodup) (ho : (outsC (l.map (·.1))).Nodup) : ((edP col l).map (·.1)).Nodup ∧ ((edP col l).map (·.2)).Nodup := by
  constructor
  · refine (edP_fst h).nodup_iff.mpr (List.nodup_append.mpr ⟨hi.filter _, ho.filter _, fun a ha b hb e => ?_⟩)
    subst e
    have h1 := (List.mem_filter.mp ha).2
    have h2 := (List.mem_filter.mp hb).2
    simp [h1] at h2
  · refine (edP_snd h).nodup_iff.mpr (List.nodup_append.mpr ⟨hi.filter _, ho.filter _, fun a ha b hb e => ?_⟩)
    subst e
    have h1 := (List.mem_filter.mp ha).2
    have h2 := (List.mem_filter.mp hb).2
    simp [h2] at h1
/-- where an edge leads -/
def edF (E : List (Int × Int)) (z : Int) : Option Int := (E.find? fun p => decide (p.1 = z)).map (·.2)
theorem edF_some {E : List (Int × Int)} (h : (E.map (·.1)).Nodup) {z w : Int} : edF E z = some w ↔ (z, w) ∈ E := by
  induction E with
  | nil => simp [edF]
  | cons p r ih =>
    rw [List.map_cons] at h
    obtain ⟨h1, h2⟩ := List.nodup_cons.mp h
    unfold edF at ih ⊢
    rw [List.find?_cons]
    by_cases e : p.1 = z
    · simp only [e, decide_true, Option.map_some, Option.some.injEq, List.mem_cons]
      constructor
      · rintro rfl; left; rw [← e]
      · rintro (h | h)
        · rw [← h]
        · exact absurd (List.mem_map.mpr ⟨(z, w), h, rfl⟩) (e ▸ h1)
    · simp only [e, decide_false, ih h2, List.mem_cons]
      constructor
      · exact .inr
      · rintro (h | h)
        · exact absurd (by rw [← h]) e
        · exact h
theorem edF_none {E : List (Int × Int)} {z : Int} : edF E z = none ↔ z ∉ E.map (·.1) := by
  unfold edF
  rw [Option.map_eq_none_iff, List.find?_eq_none, List.mem_map]
  constructor
  · rintro h ⟨p, hp, rfl⟩
    exact h p hp (by simp)
  · intro h p hp e
    exact h ⟨p, hp, by simpa using e⟩
end VP

/-! ## VFW -/
/-! the heart of turning over: one place of an opening -/
namespace VP
open PySem PySem.Spec PyProof.Rows L2 VV VP
theorem nd_snd {E : List (Int × Int)} (h : (E.map (·.2)).Nodup) {z z' w : Int} (h1 : (z, w) ∈ E) (h2 : (z', w) ∈ E) : z = z' := by
  induction E with
  | nil => cases h1
  | cons p r ih =>
    rw [List.map_cons] at h
    obtain ⟨h3, h4⟩ := List.nodup_cons.mp h
    rcases List.mem_cons.mp h1 with e1 | e1 <;> rcases List.mem_cons.mp h2 with e2 | e2
    · have := e1.trans e2.symm
      exact congrArg Prod.fst this
    · exact absurd (List.mem_map.mpr ⟨_, e2, rfl⟩) (by rw [← e1] at h3; exact h3)
    · exact absurd (List.mem_map.mpr ⟨_, e1, rfl⟩) (by rw [← e2] at h3; exact h3)
    · exact ih h4 e1 e2
theorem ends_two {Pr : List (Int × Int)} {N : List Int} {f : Int → Option Int} (hN : N.Nodup) (hp : ∀ p ∈ Pr, f p.1 = some p.2 ∨ f p.2 = some p.1) (hf : ∀ z w, f z = some w → Eqn Pr z w ∧ z ∈ N ∧ w ∈ N) (inj : ∀ z z' w, f z = some w → f z' = some w → z = z')
    {s1 s2 u1 u2 : Int} (n1 : s1 ∈ N) (n2 : s2 ∈ N) (h1 : ∀ z, f z ≠ some s1) (h2 : ∀ z, f z ≠ some s2) (hs : s1 ≠ s2) (hu : ∀ z ∈ N, f z = none → z = u1 ∨ z = u2) :
    (Eqn Pr s1 u1 ∧ Eqn Pr s2 u2 ∨ Eqn Pr s1 u2 ∧ Eqn Pr s2 u1) ∧ ¬ Eqn Pr s1 s2 := by
  have hin : ∀ {z w}, Eqn Pr z w → z ∈ N → w ∈ N := fun {z w} e hz => by
    have := e.fn (f := fun n => decide (n ∈ N)) fun p hp' => by
      rcases hp p hp' with q | q
      · have := hf _ _ q; exact decide_eq_decide.mpr ⟨fun _ => this.2.2, fun _ => this.2.1⟩
      · have := hf _ _ q; exact decide_eq_decide.mpr ⟨fun _ => this.2.1, fun _ => this.2.2⟩
    have h : decide (z ∈ N) = true := by simpa using hz
    rw [this] at h
    exact of_decide_eq_true h
  have hf' : ∀ z w, f z = some w → Eqn Pr z w ∧ w ∈ N := fun z w e => ⟨(hf z w e).1, (hf z w e).2.2⟩
  obtain ⟨e1, a1, a2, a3, a4⟩ := chain_ok hN hp hf' inj h1 n1
  obtain ⟨e2, b1, b2, b3, b4⟩ := chain_ok hN hp hf' inj h2 n2
  have no : ¬ Eqn Pr s1 s2 := fun e => hs (a4 s2 e h2).symm
  have c1 := hu e1 (hin a2 n1) a1
  have c2 := hu e2 (hin b2 n2) b1
  refine ⟨?_, no⟩
  have ne : e1 ≠ e2 := fun e => no (a2.trans (by rw [e]; exact b2.symm))
  rcases c1 with rfl | rfl <;> rcases c2 with rfl | rfl
  · exact absurd rfl ne
  · exact .inl ⟨a2, b2⟩
  · exact .inr ⟨a2, b2⟩
  · exact absurd rfl ne
theorem heart {rs : List Int} {cs : List Cr} (g : Good rs cs) {x : Cr} {l : List (Cr × Int)} (hl : (x :: l.map (·.1)).Perm cs) :
    (Eqn (allP l) x.a x.c ∧ Eqn (allP l) x.b x.d ∨ Eqn (allP l) x.a x.d ∧ Eqn (allP l) x.b x.c) ∧ ¬ Eqn (allP l) x.a x.b := by
  obtain ⟨col, hcol⟩ := g.col
  have hx : x ∈ cs := hl.mem_iff.mp List.mem_cons_self
  have hcx := hcol x hx
  have hcl : ∀ p ∈ l, ColX col p.1 := fun p hp => hcol _ (hl.mem_iff.mp (List.mem_cons_of_mem _ (List.mem_map.mpr ⟨p, hp, rfl⟩)))
  have hi : (insC (x :: l.map (·.1))).Perm (insC cs) := hl.flatMap_right _
  have ho : (outsC (x :: l.map (·.1))).Perm (outsC cs) := hl.flatMap_right _
  have ndI : (insC cs).Nodup := (List.nodup_append.mp g.nd).2.1
  have ndO : (outsC cs).Nodup := g.op.nodup_iff.mpr ndI
  have i1 : insC (x :: l.map (·.1)) = [x.a, x.c] ++ insC (l.map (·.1)) := rfl
  have o1 : outsC (x :: l.map (·.1)) = [x.b, x.d] ++ outsC (l.map (·.1)) := rfl
  rw [i1] at hi
  rw [o1] at ho
  have ndi := hi.nodup_iff.mpr ndI
  have ndo := ho.nodup_iff.mpr ndO
  obtain ⟨i2, i3, i4⟩ := List.nodup_append.mp ndi
  obtain ⟨o2, o3, o4⟩ := List.nodup_append.mp ndo
  have hIO : ∀ z, z ∈ insC cs ↔ z ∈ outsC cs := fun z => g.op.mem_iff.symm
  have hI : ∀ z, z ∈ insC cs ↔ z = x.a ∨ z = x.c ∨ z ∈ insC (l.map (·.1)) := fun z => by rw [← hi.mem_iff]; simp
  have hO : ∀ z, z ∈ insC cs ↔ z = x.b ∨ z = x.d ∨ z ∈ outsC (l.map (·.1)) := fun z => by rw [hIO, ← ho.mem_iff]; simp
  obtain ⟨E1, E2⟩ := edP_nd hcl i3 o3
  have P1 := edP_fst hcl
  have P2 := edP_snd hcl
  have m1 : ∀ z, z ∈ (edP col l).map (·.1) ↔ (z ∈ insC (l.map (·.1)) ∧ col z = true) ∨ (z ∈ outsC (l.map (·.1)) ∧ col z = false) := fun z => by rw [P1.mem_iff]; simp
  have m2 : ∀ z, z ∈ (edP col l).map (·.2) ↔ (z ∈ insC (l.map (·.1)) ∧ col z = false) ∨ (z ∈ outsC (l.map (·.1)) ∧ col z = true) := fun z => by rw [P2.mem_iff]; simp
  have ha : x.a ∉ insC (l.map (·.1)) := fun h => i4 _ (by simp) _ h rfl
  have hc : x.c ∉ insC (l.map (·.1)) := fun h => i4 _ (by simp) _ h rfl
  have hb : x.b ∉ outsC (l.map (·.1)) := fun h => o4 _ (by simp) _ h rfl
  have hd : x.d ∉ outsC (l.map (·.1)) := fun h => o4 _ (by simp) _ h rfl
  have hac : x.a ≠ x.c := by simpa using i2
  have hbd : x.b ≠ x.d := by simpa using o2
  generalize hE : edP col l = E at *
  have hp : ∀ p ∈ allP l, edF E p.1 = some p.2 ∨ edF E p.2 = some p.1 := fun p hp => by
    obtain ⟨q, hq, hp⟩ := List.mem_flatMap.mp hp
    rcases (edC_pr (col := col)).1 p hp with h | h
    · left; exact (edF_some E1).mpr (by rw [← hE]; exact List.mem_flatMap.mpr ⟨q, hq, h⟩)
    · right; exact (edF_some E1).mpr (by rw [← hE]; exact List.mem_flatMap.mpr ⟨q, hq, h⟩)
  have hf : ∀ z w, edF E z = some w → Eqn (allP l) z w ∧ z ∈ insC cs ∧ w ∈ insC cs := fun z w h => by
    have h := (edF_some E1).mp h
    have hz := (m1 z).mp (List.mem_map.mpr ⟨_, h, rfl⟩)
    have hw := (m2 w).mp (List.mem_map.mpr ⟨_, h, rfl⟩)
    refine ⟨?_, ?_, ?_⟩
    · rw [← hE] at h
      obtain ⟨q, hq, hp⟩ := List.mem_flatMap.mp h
      rcases (edC_pr (col := col)).2 _ hp with h | h
      · exact .gen (p := (z, w)) (List.mem_flatMap.mpr ⟨q, hq, h⟩)
      · exact (Eqn.gen (p := (w, z)) (List.mem_flatMap.mpr ⟨q, hq, h⟩)).symm
    · rcases hz with h | h
      · exact (hI z).mpr (.inr (.inr h.1))
      · exact (hO z).mpr (.inr (.inr h.1))
    · rcases hw with h | h
      · exact (hI w).mpr (.inr (.inr h.1))
      · exact (hO w).mpr (.inr (.inr h.1))
  have inj : ∀ z z' w, edF E z = some w → edF E z' = some w → z = z' := fun z z' w h1 h2 => nd_snd E2 ((edF_some E1).mp h1) ((edF_some E1).mp h2)
  have hit : ∀ s, s ∉ E.map (·.2) → ∀ z, edF E z ≠ some s := fun s hs z e => hs (List.mem_map.mpr ⟨_, (edF_some E1).mp e, rfl⟩)
  have na := (hI x.a).mpr (.inl rfl)
  have nc := (hI x.c).mpr (.inr (.inl rfl))
  have nb := (hO x.b).mpr (.inl rfl)
  have nd := (hO x.d).mpr (.inr (.inl rfl))
  obtain ⟨c1, c2, c3⟩ := hcx
  cases hca : col x.a with
  | true =>
    rw [hca] at c1 c3
    rw [c1] at c2
    have := ends_two (s1 := x.c) (s2 := x.d) (u1 := x.a) (u2 := x.b) ndI hp hf inj nc nd (hit _ fun h => by
        rcases (m2 _).mp h with h | h
        · exact hc h.1
        · rw [c2] at h; simp at h) (hit _ fun h => by
        rcases (m2 _).mp h with h | h
        · rw [c3] at h; simp at h
        · exact hd h.1) (fun e => by rw [e, c3] at c2; simp at c2) fun z hz hn => by
          have hn := fun h => (edF_none.mp hn) ((m1 z).mpr h)
          cases hcz : col z with
          | true =>
            rcases (hI z).mp hz with h | h | h
            · exact .inl h
            · rw [h, c2] at hcz; simp at hcz
            · exact absurd (.inl ⟨h, hcz⟩) hn
          | false =>
            rcases (hO z).mp hz with h | h | h
            · exact .inr h
            · rw [h, c3] at hcz; simp at hcz
            · exact absurd (.inr ⟨h, hcz⟩) hn
    obtain ⟨h1, h2⟩ := this
    rcases h1 with ⟨h1, h3⟩ | ⟨h1, h3⟩
    · exact ⟨.inl ⟨h1.symm, h3.symm⟩, fun e => h2 (h1.trans (e.trans h3.symm))⟩
    · exact ⟨.inr ⟨h3.symm, h1.symm⟩, fun e => h2 (h1.trans (e.symm.trans h3.symm))⟩
  | false =>
    rw [hca] at c1 c3
    rw [c1] at c2
    have := ends_two (s1 := x.a) (s2 := x.b) (u1 := x.c) (u2 := x.d) ndI hp hf inj na nb (hit _ fun h => by
        rcases (m2 _).mp h with h | h
        · exact ha h.1
        · rw [hca] at h; simp at h) (hit _ fun h => by
        rcases (m2 _).mp h with h | h
        · rw [c1] at h; simp at h
        · exact hb h.1) (fun e => by rw [e, c1] at hca; simp at hca) fun z hz hn => by
          have hn := fun h => (edF_none.mp hn) ((m1 z).mpr h)
          cases hcz : col z with
          | true =>
            rcases (hI z).mp hz with h | h | h
            · rw [h, hca] at hcz; simp at hcz
            · exact .inl h
            · exact absurd (.inl ⟨h, hcz⟩) hn
          | false =>
            rcases (hO z).mp hz with h | h | h
            · rw [h, c1] at hcz; simp at hcz
            · exact .inr h
            · exact absurd (.inr ⟨h, hcz⟩) hn
    obtain ⟨h1, h2⟩ := this
    rcases h1 with ⟨h1, h3⟩ | ⟨h1, h3⟩
    · exact ⟨.inl ⟨h1, h3⟩, h2⟩
    · exact ⟨.inr ⟨h1, h3⟩, h2⟩
end VP

/-! ## VFX -/
/-! two loops joined: places in both lists -/
namespace VP
open PySem PySem.Spec PyProof.Rows L2 VV VP
theorem none_at {q : Nat → Bool} : ∀ {n : Nat}, (∀ t, t < n → q t = false) → (List.range n).filter q = []
  | 0, _ => rfl
  | n + 1, h => by
    rw [List.range_succ, List.filter_append, none_at fun t ht => h t (by omega)]
    simp [h n (by omega)]
theorem one_at {q : Nat → Bool} {i : Nat} : ∀ {n : Nat}, i < n → (∀ t, t < n → (q t = true ↔ t = i)) → (List.range n).filter q = [i]
  | 0, hi, _ => by omega
  | n + 1, hi, h => by
    rw [List.range_succ, List.filter_append]
    by_cases e : i = n
    · rw [none_at fun t ht => by
        cases hq : q t with
        | false => rfl
        | true => have := (h t (by omega)).mp hq; omega]
      have := (h n (by omega)).mpr e.symm
      simp [this, e]
    · rw [one_at (by omega) fun t ht => h t (by omega)]
      have : q n = false := by
        cases hq : q n with
        | false => rfl
        | true => have := (h n (by omega)).mp hq; omega
      simp [this]
theorem two_at {q : Nat → Bool} {i j : Nat} (hij : i < j) : ∀ {n : Nat}, j < n → (∀ t, t < n → (q t = true ↔ t = i ∨ t = j)) → (List.range n).filter q = [i, j]
  | 0, hi, _ => by omega
  | n + 1, hi, h => by
    rw [List.range_succ, List.filter_append]
    by_cases e : j = n
    · rw [one_at (i := i) (by omega) fun t ht => by rw [h t (by omega)]; omega]
      have := (h n (by omega)).mpr (.inr e.symm)
      simp [this, e]
    · rw [two_at hij (by omega) fun t ht => h t (by omega)]
      have : q n = false := by
        cases hq : q n with
        | false => rfl
        | true => have := (h n (by omega)).mp hq; omega
      simp [this]
def partF (L M : List (List Int)) : List Nat := (List.range L.length).filter fun i => decide (L.getD i [] ∉ M)
theorem loops_get {N : List Int} {rt : Int → Int} {t : Nat} {r : Int} (h : (N.filter fun n => decide (rt n = n))[t]? = some r) : (loopsF N rt).getD t [] = N.filter fun n => decide (rt n = r) := by
  unfold loopsF
  rw [List.getD_eq_getElem?_getD, List.getElem?_map, h]
  rfl
theorem loops_len {N : List Int} {rt : Int → Int} : (loopsF N rt).length = (N.filter fun n => decide (rt n = n)).length := by
  unfold loopsF
  rw [List.length_map]
theorem mem_loops {N : List Int} {rt : Int → Int} {g : List Int} : g ∈ loopsF N rt ↔ ∃ r ∈ N, rt r = r ∧ g = N.filter fun n => decide (rt n = r) := by
  unfold loopsF
  rw [List.mem_map]
  constructor
  · rintro ⟨r, hr, rfl⟩
    obtain ⟨h1, h2⟩ := List.mem_filter.mp hr
    exact ⟨r, h1, by simpa using h2, rfl⟩
  · rintro ⟨r, h1, h2, rfl⟩
    exact ⟨r, List.mem_filter.mpr ⟨h1, by simpa using h2⟩, rfl⟩
theorem join_part {N : List Int} {Pr : List (Int × Int)} {rt : Int → Int} {a b : Int} (hN : N.Pairwise (· < ·)) (h : IsRt Pr rt) (hm : ∀ n ∈ N, rt n ∈ N) (ha : a ∈ N) (hb : b ∈ N) (hne : rt a ≠ rt b) :
    ∃ i j p : Nat, i < j ∧ j < (loopsF N rt).length ∧ p < (loopsF N (joinR rt a b)).length ∧ partF (loopsF N rt) (loopsF N (joinR rt a b)) = [i, j] ∧ partF (loopsF N (joinR rt a b)) (loopsF N rt) = [p] ∧
      srtI ((loopsF N rt).getD i [] ++ (loopsF N rt).getD j []) = (loopsF N (joinR rt a b)).getD p [] := by
  have nd : N.Nodup := hN.imp fun h => by omega
  obtain ⟨m, M, hmM, hmN, hMN, rm, rM, hj⟩ : ∃ m M : Int, m < M ∧ m ∈ N ∧ M ∈ N ∧ rt m = m ∧ rt M = M ∧ ∀ n, joinR rt a b n = if rt n = M then m else rt n := by
    refine ⟨min (rt a) (rt b), max (rt a) (rt b), by omega, ?_, ?_, ?_, ?_, fun n => rfl⟩
    · by_cases e : rt a ≤ rt b
      · rw [Int.min_eq_left e]; exact hm a ha
      · rw [Int.min_eq_right (by omega)]; exact hm b hb
    · by_cases e : rt a ≤ rt b
      · rw [Int.max_eq_right e]; exact hm b hb
      · rw [Int.max_eq_left (by omega)]; exact hm a ha
    · by_cases e : rt a ≤ rt b
      · rw [Int.min_eq_left e]; exact h.rr a
      · rw [Int.min_eq_right (by omega)]; exact h.rr b
    · by_cases e : rt a ≤ rt b
      · rw [Int.max_eq_right e]; exact h.rr b
      · rw [Int.max_eq_left (by omega)]; exact h.rr a
  generalize joinR rt a b = jt at *
  have hjm : jt m = m := by rw [hj, if_neg (by omega), rm]
  have hjM : jt M = m := by rw [hj, if_pos rM]
  have same : ∀ r, r ≠ m → r ≠ M → (N.filter fun n => decide (jt n = r)) = N.filter fun n => decide (rt n = r) := fun r h1 h2 => by
    refine List.filter_congr fun n _ => ?_
    rw [hj]
    refine decide_eq_decide.mpr ?_
    split <;> omega
  have hHS : (N.filter fun n => decide (rt n = n)).Pairwise (· < ·) := hN.filter _
  have hHJ : (N.filter fun n => decide (jt n = n)).Pairwise (· < ·) := hN.filter _
  have ndS : (N.filter fun n => decide (rt n = n)).Nodup := nd.filter _
  have ndJ : (N.filter fun n => decide (jt n = n)).Nodup := nd.filter _
  obtain ⟨i, hi⟩ := List.getElem?_of_mem (List.mem_filter.mpr ⟨hmN, by simpa using rm⟩ : m ∈ N.filter fun n => decide (rt n = n))
  obtain ⟨j, hj'⟩ := List.getElem?_of_mem (List.mem_filter.mpr ⟨hMN, by simpa using rM⟩ : M ∈ N.filter fun n => decide (rt n = n))
  obtain ⟨p, hp⟩ := List.getElem?_of_mem (List.mem_filter.mpr ⟨hmN, by simpa using hjm⟩ : m ∈ N.filter fun n => decide (jt n = n))
  have li := (List.getElem?_eq_some_iff.mp hi).1
  have lj := (List.getElem?_eq_some_iff.mp hj').1
  have lp := (List.getElem?_eq_some_iff.mp hp).1
  have hij : i < j := by
    rcases Nat.lt_trichotomy i j with q | q | q
    · exact q
    · subst q; rw [hi] at hj'; cases hj'; omega
    · have := List.pairwise_iff_getElem.mp hHS j i lj li q
      rw [(List.getElem?_eq_some_iff.mp hi).2, (List.getElem?_eq_some_iff.mp hj').2] at this
      omega
  have noS : ∀ r, r = m ∨ r = M → (N.filter fun n => decide (rt n = r)) ∉ loopsF N jt := fun r hr hmem => by
    obtain ⟨r', h1, h2, e⟩ := mem_loops.mp hmem
    have hrr : rt r = r := by rcases hr with rfl | rfl <;> assumption
    have hrN : r ∈ N := by rcases hr with rfl | rfl <;> assumption
    have : r ∈ N.filter fun n => decide (jt n = r') := by rw [← e]; exact List.mem_filter.mpr ⟨hrN, by simpa using hrr⟩
    have : jt r = r' := by simpa using (List.mem_filter.mp this).2
    have hr' : r' = m := by rcases hr with rfl | rfl <;> omega
    subst hr'
    have k1 : r' ∈ N.filter fun n => decide (rt n = r) := by rw [e]; exact List.mem_filter.mpr ⟨hmN, by simpa using hjm⟩
    have k2 : M ∈ N.filter fun n => decide (rt n = r) := by rw [e]; exact List.mem_filter.mpr ⟨hMN, by simpa using hjM⟩
    have k1 : rt r' = r := by simpa using (List.mem_filter.mp k1).2
    have k2 : rt M = r := by simpa using (List.mem_filter.mp k2).2
    omega
  refine ⟨i, j, p, hij, by rw [loops_len]; exact lj, by rw [loops_len]; exact lp, ?_, ?_, ?_⟩
  · unfold partF
    refine two_at hij (by rw [loops_len]; exact lj) fun t ht => ?_
    rw [loops_len] at ht
    have hr := List.getElem?_eq_getElem ht
    generalize hrr : (N.filter fun n => decide (rt n = n))[t] = r at hr
    rw [loops_get hr, decide_eq_true_iff]
    obtain ⟨hrN, hrr⟩ := List.mem_filter.mp (List.mem_of_getElem? hr)
    have hrr : rt r = r := by simpa using hrr
    constructor
    · intro hno
      by_cases e1 : r = m
      · left; subst e1; exact ((List.getElem?_inj ht ndS).mp (by rw [hr, hi]))
      · by_cases e2 : r = M
        · right; subst e2; exact ((List.getElem?_inj ht ndS).mp (by rw [hr, hj']))
        · refine absurd (mem_loops.mpr ⟨r, hrN, ?_, (same r e1 e2).symm⟩) hno
          rw [hj, hrr, if_neg e2]
    · intro hor
      refine noS r ?_
      rcases hor with rfl | rfl
      · left; rw [hi] at hr; exact (Option.some.inj hr).symm
      · right; rw [hj'] at hr; exact (Option.some.inj hr).symm
  · unfold partF
    refine one_at (by rw [loops_len]; exact lp) fun t ht => ?_
    rw [loops_len] at ht
    have hr := List.getElem?_eq_getElem ht
    generalize hrr : (N.filter fun n => decide (jt n = n))[t] = r at hr
    rw [loops_get hr, decide_eq_true_iff]
    obtain ⟨hrN, hrr⟩ := List.mem_filter.mp (List.mem_of_getElem? hr)
    have hrr : jt r = r := by simpa using hrr
    constructor
    · intro hno
      by_cases e1 : r = m
      · subst e1; exact ((List.getElem?_inj ht ndJ).mp (by rw [hr, hp]))
      · have e2 : r ≠ M := fun e => by rw [e, hjM] at hrr; omega
        refine absurd (mem_loops.mpr ⟨r, hrN, ?_, same r e1 e2⟩) hno
        rw [hj] at hrr
        split at hrr <;> omega
    · rintro rfl hmem
      rw [hp] at hr
      obtain rfl := Option.some.inj hr
      obtain ⟨r', h1, h2, e⟩ := mem_loops.mp hmem
      have k1 : m ∈ N.filter fun n => decide (rt n = r') := by rw [← e]; exact List.mem_filter.mpr ⟨hmN, by simpa using hjm⟩
      have k2 : M ∈ N.filter fun n => decide (rt n = r') := by rw [← e]; exact List.mem_filter.mpr ⟨hMN, by simpa using hjM⟩
      have k1 : rt m = r' := by simpa using (List.mem_filter.mp k1).2
      have k2 : rt M = r' := by simpa using (List.mem_filter.mp k2).2
      omega
  · rw [loops_get hi, loops_get hj', loops_get hp]
    symm
    refine srtI_uniq ?_ ((hN.filter _).imp fun h => by omega)
    refine (List.perm_ext_iff_of_nodup (nd.filter _) (List.nodup_append.mpr ⟨nd.filter _, nd.filter _, fun x hx y hy e => ?_⟩)).mpr fun z => ?_
    · subst e
      have h1 : rt x = m := by simpa using (List.mem_filter.mp hx).2
      have h2 : rt x = M := by simpa using (List.mem_filter.mp hy).2
      omega
    · rw [List.mem_append, List.mem_filter, List.mem_filter, List.mem_filter, hj]
      simp only [decide_eq_true_iff]
      constructor
      · rintro ⟨h1, h2⟩
        split at h2
        · exact .inr ⟨h1, by assumption⟩
        · exact .inl ⟨h1, h2⟩
      · rintro (⟨h1, h2⟩ | ⟨h1, h2⟩)
        · exact ⟨h1, by rw [if_neg (by omega)]; exact h2⟩
        · exact ⟨h1, by rw [if_pos h2]⟩
end VP

/-! ## VFY -/
/-! an opening turned over at one place: its loops and those of the next one -/
namespace VP
open PySem PySem.Spec PyProof.Rows L2 VV VP
theorem IsRt.ex_go : ∀ (Qs Ps : List (Int × Int)) (rt : Int → Int), IsRt Ps rt → ∃ rt', IsRt (Ps ++ Qs) rt'
  | [], Ps, rt, h => ⟨rt, by simpa using h⟩
  | q :: Qs, Ps, rt, h => by
    obtain ⟨rt', h'⟩ := IsRt.ex_go Qs (Ps ++ [q]) _ (h.join q.1 q.2)
    exact ⟨rt', by simpa using h'⟩
theorem IsRt.ex (Ps : List (Int × Int)) : ∃ rt, IsRt Ps rt := by simpa using IsRt.ex_go Ps [] id IsRt.nil
theorem IsRt.congr {Ps Qs : List (Int × Int)} {rt : Int → Int} (h : IsRt Ps rt) (e1 : ∀ p ∈ Qs, Eqn Ps p.1 p.2) (e2 : ∀ p ∈ Ps, Eqn Qs p.1 p.2) : IsRt Qs rt :=
  ⟨fun p hp => h.iff.mpr (e1 p hp), fun n => (h.eq n).sub e2, h.le⟩
theorem IsRt.mem {Ps : List (Int × Int)} {rt : Int → Int} {N : List Int} (h : IsRt Ps rt) (hP : ∀ p ∈ Ps, p.1 ∈ N ∧ p.2 ∈ N) {n : Int} (hn : n ∈ N) : rt n ∈ N := by
  have := (h.eq n).fn (f := fun z => decide (z ∈ N)) fun p hp => by simp [hP p hp]
  have h1 : decide (n ∈ N) = true := by simpa using hn
  rw [this] at h1
  simpa using h1
theorem allP_mem {rs : List Int} {cs : List Cr} {bs : List Int} (g : Good rs cs) : ∀ p ∈ allP (cs.zip bs), p.1 ∈ namesC rs cs ∧ p.2 ∈ namesC rs cs := fun p hp => by
  obtain ⟨q, hq, hp⟩ := List.mem_flatMap.mp hp
  exact prC_mem g.cl (List.of_mem_zip hq).1 _ p hp
/-- sep: the loops of one opening; the other one has two of them joined -/
structure Apart (N : List Int) (Ps Qs : List (Int × Int)) (rt : Int → Int) (a b : Int) : Prop where
  p : IsRt Ps rt
  q : IsRt Qs (joinR rt a b)
  ha : a ∈ N
  hb : b ∈ N
  ne : rt a ≠ rt b
  me : ∀ n ∈ N, rt n ∈ N
theorem zip_at {cs : List Cr} {bs : List Int} {k : Nat} {x : Cr} (hk : cs[k]? = some x) (hb : bs.length = cs.length) (v : Int) : cs.zip (bs.set k v) = (cs.take k).zip (bs.take k) ++ (x, v) :: (cs.drop (k + 1)).zip (bs.drop (k + 1)) := by
  obtain ⟨h1, h2⟩ := List.getElem?_eq_some_iff.mp hk
  have e : cs = cs.take k ++ x :: cs.drop (k + 1) := by
    rw [← h2, List.getElem_cons_drop, List.take_append_drop]
  rw [List.set_eq_take_append_cons_drop, if_pos (by omega)]
  conv => lhs; rw [e]
  rw [List.zip_append (by rw [List.length_take, List.length_take]; omega)]
  rfl
theorem turn_apart {rs : List Int} {cs : List Cr} {bs : List Int} (g : Good rs cs) (hb : bs.length = cs.length) {k : Nat} (hk : bs[k]? = some 0) :
    ∃ (rt : Int → Int) (a b : Int), Apart (namesC rs cs) (allP (cs.zip bs)) (allP (cs.zip (bs.set k 1))) rt a b ∨ Apart (namesC rs cs) (allP (cs.zip (bs.set k 1))) (allP (cs.zip bs)) rt a b := by
  obtain ⟨k1, k2⟩ := List.getElem?_eq_some_iff.mp hk
  obtain ⟨x, hx⟩ : ∃ x, cs[k]? = some x := ⟨_, List.getElem?_eq_getElem (by omega)⟩
  have hx' := (List.getElem?_eq_some_iff.mp hx).2
  have z1 := zip_at hx hb 1
  have z0 := zip_at hx hb 0
  have e0 : bs.set k 0 = bs := by
    apply List.ext_getElem?
    intro i
    by_cases e : i = k
    · subst e; rw [List.getElem?_set_self k1, hk]
    · rw [List.getElem?_set_ne (Ne.symm e)]
  rw [e0] at z0
  have hl : (x :: ((cs.take k).zip (bs.take k) ++ (cs.drop (k + 1)).zip (bs.drop (k + 1))).map (·.1)).Perm cs := by
    rw [List.map_append, List.map_fst_zip (by rw [List.length_take, List.length_take]; omega), List.map_fst_zip (by rw [List.length_drop, List.length_drop]; omega)]
    have e : cs = cs.take k ++ x :: cs.drop (k + 1) := by rw [← hx', List.getElem_cons_drop, List.take_append_drop]
    conv => rhs; rw [e]
    exact List.perm_middle.symm
  obtain ⟨hh, hno⟩ := heart g hl
  have m0 := allP_mem (bs := bs) g
  have m1 := allP_mem (bs := bs.set k 1) g
  have mm : ∀ v p, p ∈ allP (cs.zip (bs.set k v)) ↔ p ∈ allP ((cs.take k).zip (bs.take k) ++ (cs.drop (k + 1)).zip (bs.drop (k + 1))) ∨ p ∈ prC x v := fun v p => by
    rw [zip_at hx hb v]
    unfold allP
    simp only [List.flatMap_append, List.flatMap_cons, List.mem_append]
    constructor
    · rintro (h | h | h)
      · exact .inl (.inl h)
      · exact .inr h
      · exact .inl (.inr h)
    · rintro ((h | h) | h)
      · exact .inl h
      · exact .inr (.inr h)
      · exact .inr (.inl h)
  have mm0 := mm 0
  have mm1 := mm 1
  rw [e0] at mm0
  clear mm z0 z1
  generalize hE : allP ((cs.take k).zip (bs.take k) ++ (cs.drop (k + 1)).zip (bs.drop (k + 1))) = E at *
  generalize allP (cs.zip bs) = P0 at *
  generalize allP (cs.zip (bs.set k 1)) = P1 at *
  obtain ⟨rt, hrt⟩ := IsRt.ex E
  have hxm := List.mem_of_getElem? hx
  have na : x.a ∈ namesC rs cs := (srtI_perm _).mem_iff.mpr (List.mem_append_right _ (List.mem_flatMap.mpr ⟨x, hxm, by simp⟩))
  have nb : x.b ∈ namesC rs cs := (srtI_perm _).mem_iff.mpr (g.cl x hxm).1
  have hne : rt x.a ≠ rt x.b := fun e => hno (hrt.iff.mp e)
  have hme : ∀ n ∈ namesC rs cs, rt n ∈ namesC rs cs := fun n hn => hrt.mem (fun p hp => m0 p ((mm0 p).mpr (.inl hp))) hn
  -- with the pairs that lie in E already
  have stay : ∀ Q v, (∀ p, p ∈ Q ↔ p ∈ E ∨ p ∈ prC x v) → (∀ p ∈ prC x v, Eqn E p.1 p.2) → IsRt Q rt := fun Q v hQ h =>
    hrt.congr (fun p hp => by
      rcases (hQ p).mp hp with h1 | h1
      · exact .gen h1
      · exact h p h1) fun p hp => .gen ((hQ p).mpr (.inl hp))
  have both : ∀ Q v, (∀ p, p ∈ Q ↔ p ∈ E ∨ p ∈ prC x v) → (∀ p ∈ prC x v, Eqn (E ++ [(x.a, x.b)]) p.1 p.2) → Eqn Q x.a x.b → IsRt Q (joinR rt x.a x.b) := fun Q v hQ h hab =>
    (hrt.join x.a x.b).congr (fun p hp => by
      rcases (hQ p).mp hp with h1 | h1
      · exact .gen (List.mem_append_left _ h1)
      · exact h p h1) fun p hp => by
      rcases List.mem_append.mp hp with h1 | h1
      · exact .gen ((hQ p).mpr (.inl h1))
      · rw [List.mem_singleton.mp h1]; exact hab
  have up : ∀ {z w}, Eqn E z w → Eqn (E ++ [(x.a, x.b)]) z w := fun h => h.mono fun p hp => List.mem_append_left _ hp
  have ab : Eqn (E ++ [(x.a, x.b)]) x.a x.b := .gen (p := (x.a, x.b)) (List.mem_append_right _ (List.mem_singleton.mpr rfl))
  have lift : ∀ {Q v z w}, (∀ p, p ∈ Q ↔ p ∈ E ∨ p ∈ prC x v) → Eqn E z w → Eqn Q z w := fun hQ h => h.mono fun p hp => (hQ p).mpr (.inl hp)
  have gn : ∀ {Q v z w}, (∀ p, p ∈ Q ↔ p ∈ E ∨ p ∈ prC x v) → (z, w) ∈ prC x v → Eqn Q z w := fun {Q v z w} hQ h => .gen (p := (z, w)) ((hQ _).mpr (.inr h))
  refine ⟨rt, x.a, x.b, ?_⟩
  rcases hh with ⟨hac, hbd⟩ | ⟨had, hbc⟩
  · -- a with c, b with d
    by_cases hs : x.s = 1
    · right
      have q1 : prC x 1 = [(x.a, x.c), (x.d, x.b)] := by unfold prC; rw [if_pos hs, if_neg (by decide)]
      have q0 : prC x 0 = [(x.a, x.d), (x.b, x.c)] := by unfold prC; rw [if_pos hs, if_pos rfl]
      refine ⟨stay _ 1 mm1 fun p hp => ?_, both _ 0 mm0 (fun p hp => ?_) ?_, na, nb, hne, hme⟩
      · rw [q1] at hp; simp at hp; rcases hp with rfl | rfl
        · exact hac
        · exact hbd.symm
      · rw [q0] at hp; simp at hp; rcases hp with rfl | rfl
        · exact ab.trans (up hbd)
        · exact ab.symm.trans (up hac)
      · exact (gn mm0 (z := x.a) (w := x.d) (by rw [q0]; simp)).trans (lift mm0 hbd).symm
    · left
      have q1 : prC x 1 = [(x.a, x.d), (x.c, x.b)] := by unfold prC; rw [if_neg hs, if_neg (by decide)]
      have q0 : prC x 0 = [(x.a, x.c), (x.b, x.d)] := by unfold prC; rw [if_neg hs, if_pos rfl]
      refine ⟨stay _ 0 mm0 fun p hp => ?_, both _ 1 mm1 (fun p hp => ?_) ?_, na, nb, hne, hme⟩
      · rw [q0] at hp; simp at hp; rcases hp with rfl | rfl
        · exact hac
        · exact hbd
      · rw [q1] at hp; simp at hp; rcases hp with rfl | rfl
        · exact ab.trans (up hbd)
        · exact (up hac).symm.trans ab
      · exact (gn mm1 (z := x.a) (w := x.d) (by rw [q1]; simp)).trans (lift mm1 hbd).symm
  · -- a with d, b with c
    by_cases hs : x.s = 1
    · left
      have q1 : prC x 1 = [(x.a, x.c), (x.d, x.b)] := by unfold prC; rw [if_pos hs, if_neg (by decide)]
      have q0 : prC x 0 = [(x.a, x.d), (x.b, x.c)] := by unfold prC; rw [if_pos hs, if_pos rfl]
      refine ⟨stay _ 0 mm0 fun p hp => ?_, both _ 1 mm1 (fun p hp => ?_) ?_, na, nb, hne, hme⟩
      · rw [q0] at hp; simp at hp; rcases hp with rfl | rfl
        · exact had
        · exact hbc
      · rw [q1] at hp; simp at hp; rcases hp with rfl | rfl
        · exact ab.trans (up hbc)
        · exact (up had).symm.trans ab
      · exact (gn mm1 (z := x.a) (w := x.c) (by rw [q1]; simp)).trans (lift mm1 hbc).symm
    · right
      have q1 : prC x 1 = [(x.a, x.d), (x.c, x.b)] := by unfold prC; rw [if_neg hs, if_neg (by decide)]
      have q0 : prC x 0 = [(x.a, x.c), (x.b, x.d)] := by unfold prC; rw [if_neg hs, if_pos rfl]
      refine ⟨stay _ 1 mm1 fun p hp => ?_, both _ 0 mm0 (fun p hp => ?_) ?_, na, nb, hne, hme⟩
      · rw [q1] at hp; simp at hp; rcases hp with rfl | rfl
        · exact had
        · exact hbc.symm
      · rw [q0] at hp; simp at hp; rcases hp with rfl | rfl
        · exact ab.trans (up hbc)
        · exact ab.symm.trans (up had)
      · exact (gn mm0 (z := x.a) (w := x.c) (by rw [q0]; simp)).trans (lift mm0 hbc).symm
end VP

/-! ## VExg -/
/-! exceptions, evaluated -/
namespace VV
open PySem PySem.Spec PyProof.Rows L2
section
variable {i n : Nat} {ρ ρ' ds : List D} {d : D} {b s m : Sv} {L : List Str} {y c : Str} {pk : List Kd} {r : List D → Option Res} {Q : Out → Prop} {f : List D → Option Res} {a : List D → Option (List D)} {t : List D → Option Bool}
@[simp] theorem go_raise : Go (sRaise c) ρ Q = Q (.ex c ρ) := by
  unfold Go sRaise
  simp
@[simp] theorem cont_ex : Cont b Q (.ex c ρ) = Q (.ex c ρ) := rfl
theorem Go.yes (h : t ρ = some true) (k : Go s ρ (Cont b Q)) : Go (sSeq (sIf t s sNil) b) ρ Q := by
  rw [go_seq, go_t h]
  exact k
theorem Go.raised (h : t ρ = some true) (k : Q (.ex c ρ)) : Go (sSeq (sIf t (sRaise c) sNil) b) ρ Q := Go.yes h (by rw [go_raise]; exact k)
theorem Go.setR (h : r ρ = some (.ret d)) (k : Go b (ρ.set i d) Q) : Go (sSeq (sSetR i r) b) ρ Q := by
  rw [go_seq]
  refine ⟨.nx (ρ.set i d), ?_, k⟩
  unfold sSetR
  rw [h]
theorem Go.setX (h : r ρ = some (.exn c)) (k : Q (.ex c ρ)) : Go (sSeq (sSetR i r) b) ρ Q := by
  rw [go_seq]
  refine ⟨.ex c ρ, ?_, k⟩
  unfold sSetR
  rw [h]
theorem fn_exn (hp : pkOk pk ds = true) (h : Go m (ds ++ List.replicate (n - ds.length) .non) fun o => ∃ ρ', o = .ex c ρ') : fnSem n pk m ds = some (.exn c) := by
  obtain ⟨o, h1, ρ', rfl⟩ := h
  unfold fnSem
  rw [if_pos hp, h1]
theorem rCall_s (h : a ρ = some ds) : rCall f a ρ = f ds := by
  unfold rCall
  rw [h]
  rfl
theorem expR_ret (h : r ρ = some (.ret d)) : sExpR r ρ = some (.nx ρ) := by
  unfold sExpR
  rw [h]
theorem expR_exn (h : r ρ = some (.exn c)) : sExpR r ρ = some (.ex c ρ) := by
  unfold sExpR
  rw [h]
/-- a try whose body goes through -/
theorem Go.try_nx (h : b ρ = some (.nx ρ')) (k : Q (.nx ρ')) : Go (sTry L b y i s) ρ Q := by
  refine ⟨_, ?_, k⟩
  unfold sTry
  rw [h]
theorem Go.try_rt (h : b ρ = some (.rt d)) (k : Q (.rt d)) : Go (sTry L b y i s) ρ Q := by
  refine ⟨_, ?_, k⟩
  unfold sTry
  rw [h]
/-- what is raised is caught, and the suite answers -/
theorem Go.try_ex (h : b ρ = some (.ex c ρ')) (hc : (L.contains c && (subX c y == some true)) = true) (hs : s (ρ'.set i (.str c)) = some (.rt d)) (k : Q (.rt d)) : Go (sTry L b y i s) ρ Q := by
  refine ⟨_, ?_, k⟩
  unfold sTry
  rw [h]
  dsimp only
  rw [if_pos hc, hs]
/-- a loop that ends early, at a -/
theorem go_for_rt {α : Type} {u : Tv} {it : List D → Option (List D)} (x : α → D) (pre : List α) (a : α) (post : List α) (R : Nat → List D → Prop) (hit : it ρ = some ((pre ++ a :: post).map x)) (h0 : R 0 ρ) (k : ∀ i c ρ, pre[i]? = some c → R i ρ → Turn u b (R (i + 1)) (x c) ρ)
    (fin : ∀ ρ', R pre.length ρ' → ∃ ρ1, u (x a) ρ' = some ρ1 ∧ Go b ρ1 fun o => (∃ d, o = .rt d) ∧ Q o) : Go (sFor it u b) ρ Q := by
  have gen : ∀ (m i : Nat) (ρ : List D), m = pre.length - i → i ≤ pre.length → R i ρ → ∃ o, forL u b ((pre.drop i ++ a :: post).map x) ρ = some o ∧ Q o := by
    intro m
    induction m with
    | zero =>
      intro i ρ hm hi h
      have : i = pre.length := by omega
      subst this
      obtain ⟨ρ1, h1, o, h2, ⟨d, rfl⟩, h3⟩ := fin ρ h
      refine ⟨.rt d, ?_, h3⟩
      rw [List.drop_length]
      show forL u b (x a :: post.map x) ρ = _
      unfold forL
      rw [h1]
      dsimp only
      rw [h2]
    | succ m ih =>
      intro i ρ hm hi h
      have hlt : i < pre.length := by omega
      obtain ⟨ρ1, h1, o, h2, ρ2, h3, h4⟩ := k i pre[i] ρ (List.getElem?_eq_getElem hlt) h
      obtain ⟨o', h5, h6⟩ := ih (i + 1) ρ2 (by omega) hlt h4
      refine ⟨o', ?_, h6⟩
      rw [List.drop_eq_getElem_cons hlt]
      show forL u b (x pre[i] :: (pre.drop (i + 1) ++ a :: post).map x) ρ = _
      unfold forL
      rw [h1]
      dsimp only
      rw [h2]
      rcases h3 with rfl | rfl <;> exact h5
  obtain ⟨o, h1, h2⟩ := gen pre.length 0 ρ (by simp) (Nat.zero_le _) h0
  refine ⟨o, ?_, h2⟩
  rw [sFor_s, hit]
  exact h1
end
end VV
namespace VP
open PySem PySem.Spec PyProof.Rows L2 VV
theorem Eqv.str : Eqv D.str := fun a b => by
  show PyData.eqv (D.toP (.str a)) (D.toP (.str b)) = _
  simp only [D.toP, PyData.eqv]
  exact beq_dec a b
theorem Ok.str {x : Str} (h : PyData.strOk x = true) : Ok 0 (.str x) := ⟨by simpa [D.toP, PyData.canLay0] using h, by simp [D.toP, PyData.depth]⟩
theorem dEq_str {a b : Str} (ha : PyData.strOk a = true) (hb : PyData.strOk b = true) : dEq [.str a, .str b] = some (.bl (decide (a = b))) := eq_of_eqv (x := D.str) Eqv.str (Ok.str ha) (Ok.str hb) (by decide)
theorem dNe_str {a b : Str} (ha : PyData.strOk a = true) (hb : PyData.strOk b = true) : dNe [.str a, .str b] = some (.bl (decide (a ≠ b))) := ne_of_eqv (x := D.str) Eqv.str (Ok.str ha) (Ok.str hb) (by decide)
end VP

/-! ## VFZ -/
/-! drawings are alike to themselves -/
namespace VP
open PySem PySem.Spec PyProof.Rows L2 VV VP
theorem crD_ints {x : Cr} : crD x = .tup ([x.s, x.a, x.b, x.c, x.d].map D.int) := rfl
theorem Eqv.cr : Eqv crD := fun x y => by
  rw [crD_ints, crD_ints]
  rw [(Eqv.tup Eqv.int) [x.s, x.a, x.b, x.c, x.d] [y.s, y.a, y.b, y.c, y.d]]
  refine decide_eq_decide.mpr ⟨fun h => ?_, fun h => by rw [h]⟩
  cases x; cases y
  simp at h
  simp [h]
theorem dr_ok {rs : List Int} {cs : List Cr} : Ok 5 (drD rs cs) := by
  refine Ok.tup fun a ha => ?_
  simp only [List.mem_cons, List.not_mem_nil, or_false] at ha
  rcases ha with rfl | rfl
  · exact ints_ok.mono (by decide)
  · exact (Ok.lst fun x _ => cr_ok)
theorem eqv_dr {rs rs' : List Int} {cs cs' : List Cr} : (drD rs cs).eqv (drD rs' cs') = decide (rs = rs' ∧ cs = cs') := by
  have h1 : PyData.eqv (intsD rs).toP (intsD rs').toP = decide (rs = rs') := (Eqv.lst Eqv.int) rs rs'
  have h2 : PyData.eqv (D.lst (cs.map crD)).toP (D.lst (cs'.map crD)).toP = decide (cs = cs') := (Eqv.lst Eqv.cr) cs cs'
  show PyData.eqv (drD rs cs).toP (drD rs' cs').toP = _
  unfold drD
  rw [D.toP, D.toP, PyData.eqv]
  simp only [D.toPL, PyData.eqvAll, h1, h2, Bool.and_true]
  rw [Bool.eq_iff_iff]
  simp
theorem dEq_dr {rs rs' : List Int} {cs cs' : List Cr} : dEq [drD rs cs, drD rs' cs'] = some (.bl (decide (rs = rs' ∧ cs = cs'))) := by
  unfold dEq
  dsimp only
  rw [dr_ok.shd (by decide), dr_ok.shd (by decide), eqv_dr]
  rfl
theorem dNe_dr {rs rs' : List Int} {cs cs' : List Cr} : dNe [drD rs cs, drD rs' cs'] = some (.bl (!decide (rs = rs' ∧ cs = cs'))) := by
  unfold dNe
  dsimp only
  rw [dr_ok.shd (by decide), dr_ok.shd (by decide), eqv_dr]
  rfl
end VP

/-! ## K34p -/
namespace K34
open PySem PySem.Spec PyProof.Rows L2 VV VP
theorem bits_ok (cell : Int) (n : Nat) (hn : n ≤ 1000) : ∃ bs : List Int, f__law_bits [.int cell, .int n] = some (.ret (.kti bs)) ∧ bs.length = n ∧ ∀ b ∈ bs, b = 0 ∨ b = 1 := by
  have key : ∃ d, f__law_bits [.int cell, .int n] = some (.ret d) ∧ ∃ bs : List Int, d = .kti bs ∧ bs.length = n ∧ ∀ b ∈ bs, b = 0 ∨ b = 1 := by
    refine fn_ex (by simp) ?_
    show Go m__law_bits [.int cell, .int n, .non, .non] _
    unfold m__law_bits
    refine Go.set (d := intsD []) (by rfl) ?_
    unfold m__law_bits_1
    rw [go_seq]
    refine go_for (fun i : Nat => D.int i) (List.range n) (fun i ρ => ∃ (bl : List Int) (c : Int) (j : D), ρ = [.int c, .int n, intsD bl, j] ∧ bl.length = i ∧ ∀ b ∈ bl, b = 0 ∨ b = 1) ?_ ⟨[], cell, _, rfl, rfl, by simp⟩ (fun i a ρ hi hR => ?_) (fun ρ' hR => ?_)
    · rw [iRng1_s (k := n) (by simp) (by omega) (by omega), ← rng0]; rfl
    · obtain ⟨hil, rfl⟩ := rng_at hi
      obtain ⟨bl, c, j, rfl, hbl, hb01⟩ := hR
      refine ⟨[.int c, .int n, intsD bl, .int (a : Nat)], rfl, ?_⟩
      unfold m__law_bits_b1
      refine Go.mut (y := .int (c % 2)) (x := intsD bl) (z := intsD (bl ++ [c % 2])) (by simp) rfl ?_ ?_
      · unfold intsD
        rw [dPush_s (by rw [List.length_map]; omega)]
        simp
      · unfold m__law_bits_b1_1
        have d2 : dDiv [.int c, .int 2] = some (.int (c / 2)) := dDiv_s (cdv (by decide) (by decide))
        refine Go.set1 (d := .int (c / 2)) (by simp [d2]) ⟨_, .inl rfl, bl ++ [c % 2], _, _, rfl, by simp [hbl], fun b hb => ?_⟩
        rcases List.mem_append.mp hb with hb | hb
        · exact hb01 b hb
        · rw [List.mem_singleton.mp hb]; omega
    obtain ⟨bl, c, j, rfl, hbl, hb01⟩ := hR
    rw [List.length_range] at hbl
    rw [cont_nx]
    unfold m__law_bits_2
    have ht : dTupK [intsD bl] = some (.kti bl) := by
      unfold intsD dTupK
      dsimp only
      rw [intsOf_ints]
      rfl
    refine Go.ret (d := .kti bl) ?_ ⟨_, rfl, bl, rfl, hbl, hb01⟩
    simp only [eVar_s, eP_s, aCons_s, aNil_s, ob_some, List.getElem?_cons_succ, List.getElem?_cons_zero, ht]
  obtain ⟨d, h, bs, rfl, h2⟩ := key
  exact ⟨bs, h, h2⟩
def rise (cs : List Cr) : Nat := (cs.filter fun x => decide (x.s = 1)).length
theorem rise_b {cs : List Cr} : rise cs ≤ cs.length := List.length_filter_le _ _
theorem signs_ok {rs : List Int} {cs : List Cr} : f_signs [drD rs cs] = some (.ret (.tup [.int (rise cs), .int ((cs.length : Int) - rise cs)])) := by
  refine fn_go (by simp) ?_
  show Go m_signs [drD rs cs, .non, .non] _
  unfold m_signs
  have e : eLc (iLst (eP dIdx (aCons (eVar 0) (aCons (eC (.int 1)) aNil)))) (gF (gN 2)) (tOf (eP dEq (aCons (eP dIdx (aCons (eVar 2) (aCons (eC (.int 0)) aNil))) (aCons (eC (.int 1)) aNil)))) (eVar 2) [drD rs cs, .non, .non] = some (.lst ((cs.filter fun x => decide (x.s = 1)).map crD)) := by
    rw [eLc_s]
    have : iLst (eP dIdx (aCons (eVar 0) (aCons (eC (.int 1)) aNil))) [drD rs cs, .non, .non] = some (cs.map crD) := by simp
    rw [this, ob_some, lcL_filter crD (fun x => decide (x.s = 1)) crD cs fun x hx => ⟨[drD rs cs, .non, crD x], by simp, by simp [beq_dec], fun _ => rfl⟩]
    rfl
  refine Go.set (d := .int (rise cs)) ?_ ?_
  · rw [eP_s, aCons_s, e]
    simp [rise]
  · unfold m_signs_1
    exact Go.ret (d := .tup [.int (rise cs), .int ((cs.length : Int) - rise cs)]) (by simp) rfl
theorem lsigns_ok {rs : List Int} {cs : List Cr} : f__law_signs [drD rs cs] = some (.ret (.tup [.int (rise cs), .int ((cs.length : Int) - rise cs)])) := signs_ok
/-- a tuple of bits that stands for bs, known or not -/
structure BitsT (d : D) (bs : List Int) : Prop where
  sm : dSumK [d] = some (.int bs.sum)
  ln : dLenT [d] = some (.int bs.length)
  fl : d.isFlat = true
theorem BitsT.k {bs : List Int} : BitsT (.kti bs) bs := ⟨rfl, rfl, rfl⟩
theorem BitsT.t {bs : List Int} : BitsT (bitsD bs) bs := ⟨by
  unfold bitsD dSumK
  dsimp only
  rw [intsOf_ints]
  rfl, by simp [bitsD, dLenT], by simp [bitsD]⟩
/-- the place of a word -/
def plD (cs : List Cr) (o m : List Int) (dw : Int) : D := .tup [.int (o.sum - ((cs.length : Int) - rise cs)), .int ((m.length : Int) - 2 * m.sum + o.sum + rise cs - 2 * ((cs.length : Int) - rise cs) - dw)]
theorem sum01 : ∀ {l : List Int}, (∀ b ∈ l, b = 0 ∨ b = 1) → ((l.countP fun y => y == 1 : Nat) : Int) = l.sum ∧ ((l.countP fun y => y == 0 : Nat) : Int) - (l.countP fun y => y == 1 : Nat) = (l.length : Int) - 2 * l.sum ∧ 0 ≤ l.sum ∧ l.sum ≤ l.length
  | [], _ => by simp
  | a :: r, h => by
    have := sum01 (l := r) fun b hb => h b (List.mem_cons_of_mem _ hb)
    have h1 := h a List.mem_cons_self
    rcases h1 with rfl | rfl
    · simp [List.countP_cons] at this ⊢
      omega
    · simp [List.countP_cons] at this ⊢
      omega
section
variable {rs : List Int} {cs : List Cr} {O M : D} {o m : List Int}
variable (hO : BitsT O o) (hM : BitsT M m) (ho : ∀ b ∈ o, b = 0 ∨ b = 1) (hm : ∀ b ∈ m, b = 0 ∨ b = 1) (hcl : cs.length ≤ 1000) (hol : o.length ≤ 1000) (hml : m.length ≤ 1000)
include hO hM
theorem word_fl : (D.tup [O, M]).isFlat = true := by simp [D.isFlat, D.isFlatL, hO.fl, hM.fl]
theorem height_ok : f_height_of [drD rs cs, .tup [O, M]] = some (.ret (.int (o.sum - ((cs.length : Int) - rise cs)))) := by
  have wf := word_fl hO hM
  refine fn_go (by simp [wf]) ?_
  show Go m_height_of [drD rs cs, .tup [O, M]] _
  unfold m_height_of
  have i0 : dIdx [.tup [O, M], .int 0] = some O := by simp
  have i1 : dIdx [.tup [.int (rise cs), .int ((cs.length : Int) - rise cs)], .int 1] = some (.int ((cs.length : Int) - rise cs)) := by simp
  refine Go.ret (d := .int (o.sum - ((cs.length : Int) - rise cs))) ?_ rfl
  simp only [eP_s, eCall_s, aCons_s, aNil_s, eVar_s, eC_s, List.getElem?_cons_succ, List.getElem?_cons_zero, ob_some, i0, hO.sm, signs_ok, asRet_s, i1, dSub, dI2_s]
include hm hcl hml
theorem weight_ok : f_weight_of [drD rs cs, .tup [O, M]] = some (.ret (.int ((m.length : Int) - 2 * m.sum + o.sum + rise cs - 2 * ((cs.length : Int) - rise cs)))) := by
  have wf := word_fl hO hM
  have hs := (sum01 hm).2.2
  have hr := @rise_b cs
  refine fn_go (by simp [wf]) ?_
  show Go m_weight_of [drD rs cs, .tup [O, M], .non, .non, .non, .non] _
  unfold m_weight_of
  refine Go.asg (d := .tup [O, M]) (by simp) (ρ' := [drD rs cs, .tup [O, M], O, M, .non, .non]) (by simp) ?_
  unfold m_weight_of_1
  refine Go.asg (d := .tup [.int (rise cs), .int ((cs.length : Int) - rise cs)]) (by simp [signs_ok]) (ρ' := [drD rs cs, .tup [O, M], O, M, .int (rise cs), .int ((cs.length : Int) - rise cs)]) (by simp) ?_
  unfold m_weight_of_2
  have m1 : dMul [.int 2, .int m.sum] = some (.int (2 * m.sum)) := dMul_s (cm (by decide) (by omega))
  have m2 : dMul [.int 2, .int ((cs.length : Int) - rise cs)] = some (.int (2 * ((cs.length : Int) - rise cs))) := dMul_s (cm (by decide) (by omega))
  refine Go.ret (d := .int ((m.length : Int) - 2 * m.sum + o.sum + rise cs - 2 * ((cs.length : Int) - rise cs))) ?_ rfl
  simp only [eP_s, aCons_s, aNil_s, eVar_s, eC_s, List.getElem?_cons_succ, List.getElem?_cons_zero, ob_some, hO.sm, hM.sm, hM.ln, m1, m2, dSub, dAdd, dI2_s]
theorem told_ok : f__law_told [drD rs cs, .tup [O, M]] = some (.ret (plD cs o m 0)) := by
  have wf := word_fl hO hM
  have h1 := height_ok (rs := rs) (cs := cs) hO hM
  have h2 := weight_ok (rs := rs) (cs := cs) hO hM hm hcl hml
  have hd : plD cs o m 0 = .tup [.int (o.sum - ((cs.length : Int) - rise cs)), .int ((m.length : Int) - 2 * m.sum + o.sum + rise cs - 2 * ((cs.length : Int) - rise cs))] := by
    unfold plD
    rw [Int.sub_zero]
  rw [hd]
  refine fn_go (by simp [wf]) ?_
  show Go m__law_told [drD rs cs, .tup [O, M], .non, .non] _
  unfold m__law_told
  refine Go.set (d := .tup [.int (o.sum - ((cs.length : Int) - rise cs)), .int ((m.length : Int) - 2 * m.sum + o.sum + rise cs - 2 * ((cs.length : Int) - rise cs))]) (by simp [h1, h2]) ?_
  unfold m__law_told_1
  generalize o.sum - ((cs.length : Int) - rise cs) = a
  generalize (m.length : Int) - 2 * m.sum + o.sum + rise cs - 2 * ((cs.length : Int) - rise cs) = b
  have e : eLc (iTupl (eVar 2)) (gN 3) cYes m__law_told_e1 [drD rs cs, .tup [O, M], .tup [.int a, .int b], .non] = some (.lst [.bl false, .bl false]) := by
    rw [eLc_s]
    have : iTupl (eVar 2) [drD rs cs, .tup [O, M], .tup [.int a, .int b], .non] = some ([a, b].map D.int) := by simp
    rw [this, ob_some, lcL_map D.int (fun _ => D.bl false) _ fun z hz => ⟨[drD rs cs, .tup [O, M], .tup [.int a, .int b], .int z], by simp, rfl, by simp [m__law_told_e1]⟩]
    rfl
  have ha : dAny [.lst [.bl false, .bl false]] = some (.bl false) := rfl
  refine Go.no ?_ ?_
  · show tOf (eP dAny (aCons _ aNil)) [drD rs cs, .tup [O, M], .tup [.int a, .int b], .non] = some false
    simp only [tOf_s, eP_s, aCons_s, aNil_s, e, ob_some, ha, asB_s]
  · exact Go.ret (d := .tup [.int a, .int b]) (by simp) rfl
end
theorem place_ok {rs : List Int} {cs : List Cr} {o m : List Int} (ho : ∀ b ∈ o, b = 0 ∨ b = 1) (hm : ∀ b ∈ m, b = 0 ∨ b = 1) (hcl : cs.length ≤ 1000) : f__law_place [drD rs cs, .tup [.kti o, .kti m]] = some (.ret (plD cs o m 0)) := by
  have hr := @rise_b cs
  obtain ⟨c1, _, _, _⟩ := sum01 ho
  obtain ⟨_, c2, _, _⟩ := sum01 hm
  have hd : plD cs o m 0 = .tup [.int (((o.countP fun y => y == 1 : Nat) : Int) - ((cs.length : Int) - rise cs)), .int (((m.countP fun y => y == 0 : Nat) : Int) - (m.countP fun y => y == 1 : Nat) + (o.countP fun y => y == 1 : Nat) + rise cs - 2 * ((cs.length : Int) - rise cs))] := by
    unfold plD
    rw [Int.sub_zero, c1, c2]
  rw [hd]
  refine fn_go (by simp [D.isFlat, D.isFlatL]) ?_
  show Go m__law_place [drD rs cs, .tup [.kti o, .kti m], .non, .non, .non, .non, .non] _
  unfold m__law_place
  refine Go.asg (d := .tup [.kti o, .kti m]) (by simp) (ρ' := [drD rs cs, .tup [.kti o, .kti m], .kti o, .kti m, .non, .non, .non]) (by simp) ?_
  unfold m__law_place_1
  refine Go.asg (d := .tup [.int (rise cs), .int ((cs.length : Int) - rise cs)]) (by simp [lsigns_ok]) (ρ' := [drD rs cs, .tup [.kti o, .kti m], .kti o, .kti m, .int (rise cs), .int ((cs.length : Int) - rise cs), .non]) (by simp) ?_
  unfold m__law_place_2
  have k1 : dCountK [.kti o, .int 1] = some (.int ((o.countP fun y => y == 1 : Nat) : Int)) := rfl
  have k2 : dCountK [.kti m, .int 0] = some (.int ((m.countP fun y => y == 0 : Nat) : Int)) := rfl
  have k3 : dCountK [.kti m, .int 1] = some (.int ((m.countP fun y => y == 1 : Nat) : Int)) := rfl
  refine Go.set (d := .int ((o.countP fun y => y == 1 : Nat) : Int)) (by simp [k1]) ?_
  unfold m__law_place_3
  have m2 : dMul [.int 2, .int ((cs.length : Int) - rise cs)] = some (.int (2 * ((cs.length : Int) - rise cs))) := dMul_s (cm (by decide) (by omega))
  refine Go.ret (d := .tup [.int (((o.countP fun y => y == 1 : Nat) : Int) - ((cs.length : Int) - rise cs)), .int (((m.countP fun y => y == 0 : Nat) : Int) - (m.countP fun y => y == 1 : Nat) + (o.countP fun y => y == 1 : Nat) + rise cs - 2 * ((cs.length : Int) - rise cs))]) ?_ rfl
  simp only [List.set_cons_succ, List.set_cons_zero, eTup_s, eP_s, aCons_s, aNil_s, eVar_s, eC_s, List.getElem?_cons_succ, List.getElem?_cons_zero, ob_some, k2, k3, m2, dSub, dAdd, dI2_s]
theorem slK_to {e : Ev} {hi : List D → Option (Option Int)} {ρ : List D} {bs : List Int} {k : Nat} (he : e ρ = some (.kti bs)) (hh : hi ρ = some (some (k : Int))) (hk : k < bs.length) : eSlK e oNone hi ρ = some (bitsD (bs.take k)) := by
  have e2 : min k bs.length = k := by omega
  unfold eSlK
  simp only [he, hh, oNone_s, Option.bind_eq_bind, Option.bind_some]
  rw [if_neg (by rw [HT.sIx_nat, HT.sIx_none, e2]; omega)]
  unfold cutG
  rw [HT.sIx_nat, HT.sIx_none, e2]
  simp [bitsD]
theorem slK_from {e : Ev} {lo : List D → Option (Option Int)} {ρ : List D} {bs : List Int} {k : Nat} (he : e ρ = some (.kti bs)) (hh : lo ρ = some (some ((k : Int) + 1))) (hk : k < bs.length) : eSlK e lo oNone ρ = some (bitsD (bs.drop (k + 1))) := by
  have e1 : (k : Int) + 1 = ((k + 1 : Nat) : Int) := by omega
  have e2 : min (k + 1) bs.length = k + 1 := by omega
  unfold eSlK
  simp only [he, hh, oNone_s, Option.bind_eq_bind, Option.bind_some]
  rw [e1, if_neg (by rw [HT.sIx_nat, HT.sIx_none, e2]; omega)]
  unfold cutG
  rw [HT.sIx_nat, HT.sIx_none, e2, List.take_of_length_le (by simp)]
  rfl
theorem set_cut {bs : List Int} {k : Nat} (hk : k < bs.length) {v : Int} : bs.take k ++ [v] ++ bs.drop (k + 1) = bs.set k v := by
  rw [List.set_eq_take_append_cons_drop, if_pos hk]
  simp
theorem catT_bits {l r : List Int} (h : l.length + r.length ≤ 1000000) : dCatT [bitsD l, bitsD r] = some (bitsD (l ++ r)) := by
  unfold bitsD dCatT
  dsimp only
  rw [if_pos ⟨by simp, by simp, by simpa using h⟩]
  simp
theorem ne_pl {cs : List Cr} {o m : List Int} {dw : Int} : dNe [plD cs o m dw, plD cs o m dw] = some (.bl false) := by
  have := ne_of_eqv (x := fun l : List Int => D.tup (l.map D.int)) (Eqv.tup Eqv.int) (n := 1) (a := [o.sum - ((cs.length : Int) - rise cs), (m.length : Int) - 2 * m.sum + o.sum + rise cs - 2 * ((cs.length : Int) - rise cs) - dw]) (b := [o.sum - ((cs.length : Int) - rise cs), (m.length : Int) - 2 * m.sum + o.sum + rise cs - 2 * ((cs.length : Int) - rise cs) - dw]) (Ok.tup (n := 0) fun a ha => by
      simp only [List.map_cons, List.map_nil, List.mem_cons, List.not_mem_nil, or_false] at ha
      rcases ha with rfl | rfl <;> exact Ok.int) (Ok.tup (n := 0) fun a ha => by
      simp only [List.map_cons, List.map_nil, List.mem_cons, List.not_mem_nil, or_false] at ha
      rcases ha with rfl | rfl <;> exact Ok.int) (by decide)
  exact this.trans (by simp)
theorem sum_set {bs : List Int} {k : Nat} (hk : k < bs.length) (h0 : bs[k] = 0) : (bs.set k 1).sum = bs.sum + 1 := by
  rw [← set_cut hk]
  have : bs.sum = (bs.take k).sum + (bs.drop k).sum := by rw [← List.sum_append, List.take_append_drop]
  rw [List.drop_eq_getElem_cons hk, h0] at this
  simp at this ⊢
  omega
end K34

/-! ## K34q -/
namespace K34
open PySem PySem.Spec PyProof.Rows L2 VV VP
theorem zip_kti {bs : List Int} {a : List D → Option (List D)} {ρ l : List D} (h : a ρ = some [.lst l, .kti bs]) : iZipM a ρ = some ((l.zip (bs.map D.int)).map fun p => .tup [p.1, p.2]) := by
  unfold iZipM
  rw [h]
  rfl
theorem law_true : ∀ ns : List Int, ns.length ≤ 63 → (∀ z ∈ ns, PySem.Builtin.Int.intBits z ≤ 1048576) → f_law [.scr (ns.map D.int)] = some (.ret (.bl true)) := by
  intro ns _ _
  refine fn_go (by simp) ?_
  show Go m_law [.scr (ns.map D.int), .non, .non, .non, .non, .non, .non, .non, .non] _
  generalize hS : D.scr (ns.map D.int) = S
  have num : ∀ k : Nat, k ≤ 1000 → ∃ v : Int, f__law_number [S, .int k] = some (.ret (.int v)) := fun k hk => by
    rw [← hS]; exact number_ok ns k hk
  obtain ⟨v20, e20⟩ := num 20 (by decide)
  have e20' : f__law_number [S, .int 20] = some (.ret (.int v20)) := e20
  clear e20
  unfold m_law
  obtain ⟨mo, hmo, emo⟩ := idx_mod [5, 5, 5, 8, 5, 5, 5, 5] 8 v20 rfl (by decide)
  have emo' : dIdx [.lst [.int 5, .int 5, .int 5, .int 8, .int 5, .int 5, .int 5, .int 5], .int (v20 % 8)] = some (.int mo) := emo
  obtain ⟨most, rfl, hm8⟩ : ∃ q : Nat, mo = q ∧ q ≤ 8 := by
    simp only [List.mem_cons, List.not_mem_nil, or_false] at hmo
    exact ⟨mo.toNat, by omega, by omega⟩
  refine Go.set (d := .int most) (by simp [-dIdx_l, e20', emo', Option.filter_some]) ?_
  unfold m_law_1
  obtain ⟨rs, cs, hd, g, hr4, hc⟩ := drawn_ok ns 1 most (by decide) hm8
  rw [hS] at hd
  have hd' : f__law_drawn [S, .int 1, .int most, .int 2] = some (.ret (drD rs cs)) := hd
  refine Go.set (d := drD rs cs) (by simp [hd']) ?_
  unfold m_law_2
  have hcl : cs.length ≤ 10 := by omega
  have hl : rs.length + 4 * cs.length < 64 := by omega
  rw [go_seq]
  refine go_for (fun i : Nat => D.int i) (List.range 4) (fun i ρ => ∃ j3 j4 j5 j6 j7 j8, ρ = [S, .int most, drD rs cs, j3, j4, j5, j6, j7, j8]) (by rw [iRng1_s (k := 4) (by simp) (by decide) (by decide), ← rng0]; rfl) ⟨_, _, _, _, _, _, rfl⟩ (fun i a ρ hi hR => ?_) (fun ρ' hR => ?_)
  · obtain ⟨hi2, rfl⟩ := rng_at hi
    obtain ⟨j3, j4, j5, j6, j7, j8, rfl⟩ := hR
    refine ⟨[S, .int most, drD rs cs, .int (a : Nat), j4, j5, j6, j7, j8], rfl, ?_⟩
    obtain ⟨c0, e0⟩ := num (10 + a) (by omega)
    obtain ⟨c1, e1⟩ := num (14 + a) (by omega)
    have e0' : f__law_number [S, .int (10 + (a : Int))] = some (.ret (.int c0)) := by
      rw [show (10 + (a : Int)) = ((10 + a : Nat) : Int) by omega]; exact e0
    have e1' : f__law_number [S, .int (14 + (a : Int))] = some (.ret (.int c1)) := by
      rw [show (14 + (a : Int)) = ((14 + a : Nat) : Int) by omega]; exact e1
    obtain ⟨o, ho1, hob, ho01⟩ := bits_ok c0 cs.length (by omega)
    unfold m_law_b1
    refine Go.set (d := .kti o) (by simp [e0', ho1]) ?_
    unfold m_law_b1_1
    obtain ⟨rt, hrt⟩ := IsRt.ex (allP (cs.zip o))
    have hrm : ∀ n ∈ namesC rs cs, rt n ∈ namesC rs cs := fun n hn => hrt.mem (allP_mem g) hn
    have hlo := lloops_gen g hl hob ho01 (oB := .kti o) rfl (fun h => zip_kti h) hrt hrm
    have hll : (loopsF (namesC rs cs) rt).length ≤ 24 := by
      have h1 : (loopsF (namesC rs cs) rt).length ≤ (namesC rs cs).length := by
        rw [loops_len]; exact List.length_filter_le _ _
      have h2 : (namesC rs cs).length = rs.length + 2 * cs.length := by
        unfold namesC
        rw [(srtI_perm _).length_eq, List.length_append, insC_len]
      omega
    generalize loopsF (namesC rs cs) rt = L at *
    obtain ⟨m, hm1, hmb, hm01⟩ := bits_ok c1 L.length (by omega)
    have hdl : dLen [.lst (L.map intsD)] = some (.int L.length) := by simp
    refine Go.set (d := .kti m) ?_ ?_
    · simp only [List.set_cons_succ, List.set_cons_zero, eP_s, eCall_s, aCons_s, aNil_s, eVar_s, eC_s, List.getElem?_cons_succ, List.getElem?_cons_zero, ob_some, dAdd, dI2_s, e1', asRet_s, hlo, hdl, hm1]
    unfold m_law_b1_2
    have hpl := place_ok (rs := rs) (cs := cs) ho01 hm01 (by omega)
    refine Go.set (d := plD cs o m 0) (by simp [hpl]) ?_
    unfold m_law_b1_3
    have htl := told_ok (rs := rs) (cs := cs) (BitsT.k (bs := o)) (BitsT.k (bs := m)) hm01 (by omega) (by omega)
    have hne := @ne_pl cs o m 0
    have hcp := copied_ok rs cs
    refine Go.no ?_ ?_
    · simp only [List.set_cons_succ, List.set_cons_zero, tOf_s, eP_s, eCall_s, eTup_s, aCons_s, aNil_s, eVar_s, List.getElem?_cons_succ, List.getElem?_cons_zero, ob_some, hcp, htl, asRet_s, hne, asB_s]
    unfold m_law_b1_4
    have hin : dInK [.int 0, .kti m] = some (.bl (decide (0 ∈ m))) := rfl
    refine go_ite (p := (0 : Int) ∈ m) (by simp [hin]) (fun h0 => ?_) (fun h0 => ?_)
    · unfold m_law_c1
      have hix : dIndexK [.kti m, .int 0] = some (.int ((m.idxOf 0 : Nat) : Int)) := by
        unfold dIndexK
        dsimp only
        rw [if_pos h0]
      have hk : m.idxOf 0 < m.length := List.idxOf_lt_length_of_mem h0
      have hk0 : m[m.idxOf 0] = 0 := List.getElem_idxOf hk
      generalize m.idxOf 0 = k at *
      refine Go.set (d := .int (k : Nat)) (by simp [hix]) ?_
      unfold m_law_c1_1
      have s1 : eSlK (eVar 5) oNone (oSome (eVar 7)) [S, .int most, drD rs cs, .int (a : Nat), .kti o, .kti m, plD cs o m 0, .int (k : Nat), j8] = some (bitsD (m.take k)) := slK_to (by simp) (by simp) hk
      have s2 : eSlK (eVar 5) (oSome (eP dAdd (aCons (eVar 7) (aCons (eC (.int 1)) aNil)))) oNone [S, .int most, drD rs cs, .int (a : Nat), .kti o, .kti m, plD cs o m 0, .int (k : Nat), j8] = some (bitsD (m.drop (k + 1))) := slK_from (by simp) (by simp) hk
      have q1 := catT_bits (l := m.take k) (r := [1]) (by simp; omega)
      have q2 := catT_bits (l := m.take k ++ [1]) (r := m.drop (k + 1)) (by simp; omega)
      rw [set_cut hk] at q2
      have ob : D.tup [.int 1] = bitsD [1] := rfl
      refine Go.set (d := bitsD (m.set k 1)) ?_ ?_
      · show eP dCatT _ [S, .int most, drD rs cs, .int (a : Nat), .kti o, .kti m, plD cs o m 0, .int (k : Nat), j8] = _
        simp only [eP_s, eTup_s, aCons_s, aNil_s, eC_s, s1, s2, ob_some, ob, q1, q2]
      unfold m_law_c1_2
      have hm01' : ∀ b ∈ m.set k 1, b = 0 ∨ b = 1 := fun b hb => by
        rcases List.mem_or_eq_of_mem_set hb with h | h
        · exact hm01 b h
        · exact .inr h
      have htl2 := told_ok (rs := rs) (cs := cs) (BitsT.k (bs := o)) (BitsT.t (bs := m.set k 1)) hm01' (by omega) (by rw [List.length_set]; omega)
      have hd2 : plD cs o (m.set k 1) 0 = plD cs o m 2 := by
        unfold plD
        rw [sum_set hk hk0, List.length_set]
        congr 3
        simp only [List.cons.injEq, D.int.injEq, and_true]
        omega
      rw [hd2] at htl2
      have hne2 := @ne_pl cs o m 2
      have p0 : dIdx [plD cs o m 0, .int 0] = some (.int (o.sum - ((cs.length : Int) - rise cs))) := by simp [plD]
      have p1 : dIdx [plD cs o m 0, .int 1] = some (.int ((m.length : Int) - 2 * m.sum + o.sum + rise cs - 2 * ((cs.length : Int) - rise cs))) := by simp [plD]
      have p2 : D.tup [.int (o.sum - ((cs.length : Int) - rise cs)), .int ((m.length : Int) - 2 * m.sum + o.sum + rise cs - 2 * ((cs.length : Int) - rise cs) - 2)] = plD cs o m 2 := rfl
      rw [go_f ?_]
      · rw [go_nil]
        exact ⟨_, .inl rfl, _, _, _, _, _, _, rfl⟩
      · simp only [List.set_cons_succ, List.set_cons_zero, tOf_s, eP_s, eCall_s, eTup_s, aCons_s, aNil_s, eVar_s, eC_s, List.getElem?_cons_succ, List.getElem?_cons_zero, ob_some, htl2, asRet_s, p0, p1, dSub, dI2_s, p2, hne2, asB_s]
    · rw [go_nil]
      exact ⟨_, .inl rfl, _, _, _, _, _, _, rfl⟩
  · obtain ⟨j3, j4, j5, j6, j7, j8, rfl⟩ := hR
    rw [cont_nx]
    exact Go.ret (d := .bl true) rfl rfl
end K34

/-! ## K34h -/
namespace K34
open PySem PySem.Spec PyProof.Rows L2 VV VP
def dd__law_cell_at : He.DefD := ⟨("_law_cell_at", none), "_law_cell_at", "_law_cell_at", defArgs s__law_cell_at, defBody s__law_cell_at, defScope s__law_cell_at, [], []⟩
def dd__law_number : He.DefD := ⟨("_law_number", none), "_law_number", "_law_number", defArgs s__law_number, defBody s__law_number, defScope s__law_number, [], []⟩
def dd__law_closed : He.DefD := ⟨("_law_closed", none), "_law_closed", "_law_closed", defArgs s__law_closed, defBody s__law_closed, defScope s__law_closed, [], []⟩
def dd__law_new_names : He.DefD := ⟨("_law_new_names", none), "_law_new_names", "_law_new_names", defArgs s__law_new_names, defBody s__law_new_names, defScope s__law_new_names, [], []⟩
def dd__law_letters : He.DefD := ⟨("_law_letters", none), "_law_letters", "_law_letters", defArgs s__law_letters, defBody s__law_letters, defScope s__law_letters, [], []⟩
def dd__law_curl : He.DefD := ⟨("_law_curl", none), "_law_curl", "_law_curl", defArgs s__law_curl, defBody s__law_curl, defScope s__law_curl, [], []⟩
def dd__law_mixed_up : He.DefD := ⟨("_law_mixed_up", none), "_law_mixed_up", "_law_mixed_up", defArgs s__law_mixed_up, defBody s__law_mixed_up, defScope s__law_mixed_up, [], []⟩
def dd__law_drawn : He.DefD := ⟨("_law_drawn", none), "_law_drawn", "_law_drawn", defArgs s__law_drawn, defBody s__law_drawn, defScope s__law_drawn, [], []⟩
def dd__law_bits : He.DefD := ⟨("_law_bits", none), "_law_bits", "_law_bits", defArgs s__law_bits, defBody s__law_bits, defScope s__law_bits, [], []⟩
def dd__law_signs : He.DefD := ⟨("_law_signs", none), "_law_signs", "_law_signs", defArgs s__law_signs, defBody s__law_signs, defScope s__law_signs, [], []⟩
def dd__law_place : He.DefD := ⟨("_law_place", none), "_law_place", "_law_place", defArgs s__law_place, defBody s__law_place, defScope s__law_place, [], []⟩
def dd_signs : He.DefD := ⟨("signs", none), "signs", "signs", defArgs s_signs, defBody s_signs, defScope s_signs, [], []⟩
def dd_height_of : He.DefD := ⟨("height_of", none), "height_of", "height_of", defArgs s_height_of, defBody s_height_of, defScope s_height_of, [], []⟩
def dd_weight_of : He.DefD := ⟨("weight_of", none), "weight_of", "weight_of", defArgs s_weight_of, defBody s_weight_of, defScope s_weight_of, [], []⟩
def dd__law_told : He.DefD := ⟨("_law_told", none), "_law_told", "_law_told", defArgs s__law_told, defBody s__law_told, defScope s__law_told, [], []⟩
def dd__law_ends : He.DefD := ⟨("_law_ends", none), "_law_ends", "_law_ends", defArgs s__law_ends, defBody s__law_ends, defScope s__law_ends, [], []⟩
def dd__law_loops : He.DefD := ⟨("_law_loops", none), "_law_loops", "_law_loops", defArgs s__law_loops, defBody s__law_loops, defScope s__law_loops, [], []⟩
def dd__law_copied : He.DefD := ⟨("_law_copied", none), "_law_copied", "_law_copied", defArgs s__law_copied, defBody s__law_copied, defScope s__law_copied, [], []⟩
def dd_law : He.DefD := ⟨("law", none), "law", "law", defArgs s_law, defBody s_law, defScope s_law, [], []⟩
def fnD : List He.DefD := [dd__law_cell_at, dd__law_number, dd__law_closed, dd__law_new_names, dd__law_letters, dd__law_curl, dd__law_mixed_up, dd__law_drawn, dd__law_bits, dd__law_signs, dd__law_place, dd_signs, dd_height_of, dd_weight_of, dd__law_told, dd__law_ends, dd__law_loops, dd__law_copied, dd_law]
def faD : List He.Fa := [.glo "_law_cell_at", .glo "_law_number", .glo "_law_closed", .glo "_law_new_names", .glo "_law_letters", .glo "_law_curl", .glo "_law_mixed_up", .glo "_law_drawn", .glo "_law_bits", .glo "_law_signs", .glo "_law_place", .glo "signs", .glo "height_of", .glo "weight_of", .glo "_law_told", .glo "_law_ends", .glo "_law_loops", .glo "_law_copied", .glo "law", .free "abs", .free "any", .free "bool", .free "enumerate", .free "int", .free "isinstance", .free "len", .free "list", .free "max", .free "min", .free "range", .free "set", .free "sorted", .free "sum", .free "tuple", .free "zip"]
abbrev RR : PySem.W.OpenRow := PySem.W.OpenLaw.row PySem.Challenge.rw_loopcube_k34_heights_and_weights
abbrev hk : PySem.W.Hook := He.hookD 4 faD fnD
def ob (s : PySem.W.SharedT) : He.AlD := He.obsDG 4 faD fnD (HandSHeadRun.getT s)
theorem ob_eq (s : PySem.W.SharedT) : ob s = hk.obs s.abs := He.obsDG_eq (HandSHeadRun.getT_eq s)
theorem run (w : World) : HandSHeadRun.RunEq RR (PySem.W.view RR.prog [22]) hk ob 4000 ["signs", "height_of", "weight_of", "_law_cell_at", "_law_number", "_law_letters", "_law_closed", "_law_curl", "_law_new_names", "_law_mixed_up", "_law_drawn", "_law_copied", "_law_ends", "_law_loops", "_law_openings", "_law_signs", "_law_place", "_law_bits", "_law_told", "__name__"] w := by
  intro os
  kernel_rfl
theorem facts {P : Program} {w : World} {K : PySem.W.Frag} {h : Heap} {mg : Str → Option Value} {f : Addr} (X : K.In h) (G : h.Ns mainGlobals mg) (hfa : mg ("law" : Str) = some (.ref f)) (c : He.SaysD faD fnD K) :
    ∃ fd : FuncData, (∀ (s : Shared) (v : Value), BindsTo s fd ⟨[v], []⟩ [("_law_script", v)]) ∧ ∀ base : Heap, K.In base → base.Ns mainGlobals mg → FnOk P w K mg base CX0 4 f fd ["_law_script"] (sp0 ⟨mg, K⟩ f_law 1 .flat) := by
  obtain ⟨fd__law_cell_at, F__law_cell_at⟩ := c.def_ 0 (d := dd__law_cell_at) rfl
  obtain ⟨fd__law_number, F__law_number⟩ := c.def_ 1 (d := dd__law_number) rfl
  obtain ⟨fd__law_closed, F__law_closed⟩ := c.def_ 2 (d := dd__law_closed) rfl
  obtain ⟨fd__law_new_names, F__law_new_names⟩ := c.def_ 3 (d := dd__law_new_names) rfl
  obtain ⟨fd__law_letters, F__law_letters⟩ := c.def_ 4 (d := dd__law_letters) rfl
  obtain ⟨fd__law_curl, F__law_curl⟩ := c.def_ 5 (d := dd__law_curl) rfl
  obtain ⟨fd__law_mixed_up, F__law_mixed_up⟩ := c.def_ 6 (d := dd__law_mixed_up) rfl
  obtain ⟨fd__law_drawn, F__law_drawn⟩ := c.def_ 7 (d := dd__law_drawn) rfl
  obtain ⟨fd__law_bits, F__law_bits⟩ := c.def_ 8 (d := dd__law_bits) rfl
  obtain ⟨fd__law_signs, F__law_signs⟩ := c.def_ 9 (d := dd__law_signs) rfl
  obtain ⟨fd__law_place, F__law_place⟩ := c.def_ 10 (d := dd__law_place) rfl
  obtain ⟨fd_signs, F_signs⟩ := c.def_ 11 (d := dd_signs) rfl
  obtain ⟨fd_height_of, F_height_of⟩ := c.def_ 12 (d := dd_height_of) rfl
  obtain ⟨fd_weight_of, F_weight_of⟩ := c.def_ 13 (d := dd_weight_of) rfl
  obtain ⟨fd__law_told, F__law_told⟩ := c.def_ 14 (d := dd__law_told) rfl
  obtain ⟨fd__law_ends, F__law_ends⟩ := c.def_ 15 (d := dd__law_ends) rfl
  obtain ⟨fd__law_loops, F__law_loops⟩ := c.def_ 16 (d := dd__law_loops) rfl
  obtain ⟨fd__law_copied, F__law_copied⟩ := c.def_ 17 (d := dd__law_copied) rfl
  obtain ⟨fd_law, F_law⟩ := c.def_ 18 (d := dd_law) rfl
  have b_abs : mg "abs" = none := He.free_ok X G (c.fact 19 (f := .free "abs") rfl)
  have b_any : mg "any" = none := He.free_ok X G (c.fact 20 (f := .free "any") rfl)
  have b_bool : mg "bool" = none := He.free_ok X G (c.fact 21 (f := .free "bool") rfl)
  have b_enumerate : mg "enumerate" = none := He.free_ok X G (c.fact 22 (f := .free "enumerate") rfl)
  have b_int : mg "int" = none := He.free_ok X G (c.fact 23 (f := .free "int") rfl)
  have b_isinstance : mg "isinstance" = none := He.free_ok X G (c.fact 24 (f := .free "isinstance") rfl)
  have b_len : mg "len" = none := He.free_ok X G (c.fact 25 (f := .free "len") rfl)
  have b_list : mg "list" = none := He.free_ok X G (c.fact 26 (f := .free "list") rfl)
  have b_max : mg "max" = none := He.free_ok X G (c.fact 27 (f := .free "max") rfl)
  have b_min : mg "min" = none := He.free_ok X G (c.fact 28 (f := .free "min") rfl)
  have b_range : mg "range" = none := He.free_ok X G (c.fact 29 (f := .free "range") rfl)
  have b_set : mg "set" = none := He.free_ok X G (c.fact 30 (f := .free "set") rfl)
  have b_sorted : mg "sorted" = none := He.free_ok X G (c.fact 31 (f := .free "sorted") rfl)
  have b_sum : mg "sum" = none := He.free_ok X G (c.fact 32 (f := .free "sum") rfl)
  have b_tuple : mg "tuple" = none := He.free_ok X G (c.fact 33 (f := .free "tuple") rfl)
  have b_zip : mg "zip" = none := He.free_ok X G (c.fact 34 (f := .free "zip") rfl)
  have e := hfa.symm.trans (He.glo_ok X G (c.fact 18 (f := .glo "law") rfl))
  cases e
  have bb := FunD.bindsA (ps := ["_law_script"]) F_law fun _ _ _ _ _ _ us hl => match us, hl with | [_], _ => rfl
  refine ⟨fd_law, fun s v => bb s [v] rfl, fun base _ _ => ?_⟩
  have c__law_cell_at : Cal P w K mg base "_law_cell_at" 1 ["_law_script", "_law_k"] f__law_cell_at .flat := cal__law_cell_at F__law_cell_at (He.glo_ok X G (c.fact 0 (f := .glo "_law_cell_at") rfl)) b_len
  have c__law_number : Cal P w K mg base "_law_number" 2 ["_law_script", "_law_k"] f__law_number .flat := cal__law_number F__law_number (He.glo_ok X G (c.fact 1 (f := .glo "_law_number") rfl)) b_abs b_range c__law_cell_at
  have c__law_closed : Cal P w K mg base "_law_closed" 1 ["_law_strands", "_law_letters_here"] f__law_closed .fresh := cal__law_closed F__law_closed (He.glo_ok X G (c.fact 2 (f := .glo "_law_closed") rfl)) b_abs b_enumerate b_list b_range b_tuple
  have c__law_new_names : Cal P w K mg base "_law_new_names" 1 ["_law_drawing", "_law_cell"] f__law_new_names .fresh := cal__law_new_names F__law_new_names (He.glo_ok X G (c.fact 3 (f := .glo "_law_new_names") rfl)) b_len b_list b_tuple
  have c__law_letters : Cal P w K mg base "_law_letters" 1 ["_law_cell", "_law_strands", "_law_most"] f__law_letters .fresh := cal__law_letters F__law_letters (He.glo_ok X G (c.fact 4 (f := .glo "_law_letters") rfl)) b_range
  have c__law_curl : Cal P w K mg base "_law_curl" 1 ["_law_drawing", "_law_cell"] f__law_curl .fresh := cal__law_curl F__law_curl (He.glo_ok X G (c.fact 5 (f := .glo "_law_curl") rfl)) b_int b_len b_list b_max b_set b_sorted
  have c__law_mixed_up : Cal P w K mg base "_law_mixed_up" 1 ["_law_some", "_law_cell"] f__law_mixed_up .fresh := cal__law_mixed_up F__law_mixed_up (He.glo_ok X G (c.fact 6 (f := .glo "_law_mixed_up") rfl)) b_len b_list
  have c__law_drawn : Cal P w K mg base "_law_drawn" 3 ["_law_script", "_law_at", "_law_most", "_law_curls"] f__law_drawn .fresh := cal__law_drawn F__law_drawn (He.glo_ok X G (c.fact 7 (f := .glo "_law_drawn") rfl)) b_min b_range c__law_number c__law_closed c__law_letters c__law_curl c__law_new_names c__law_mixed_up
  have c__law_bits : Cal P w K mg base "_law_bits" 1 ["_law_cell", "_law_many"] f__law_bits .flat := cal__law_bits F__law_bits (He.glo_ok X G (c.fact 8 (f := .glo "_law_bits") rfl)) b_range b_tuple
  have c__law_signs : Cal P w K mg base "_law_signs" 1 ["_law_drawing"] f__law_signs .flat := cal__law_signs F__law_signs (He.glo_ok X G (c.fact 9 (f := .glo "_law_signs") rfl)) b_len
  have c__law_place : Cal P w K mg base "_law_place" 2 ["_law_drawing", "_law_word"] f__law_place .flat := cal__law_place F__law_place (He.glo_ok X G (c.fact 10 (f := .glo "_law_place") rfl)) c__law_signs
  have c_signs : Cal P w K mg base "signs" 1 ["drawing"] f_signs .flat := cal_signs F_signs (He.glo_ok X G (c.fact 11 (f := .glo "signs") rfl)) b_len
  have c_height_of : Cal P w K mg base "height_of" 2 ["drawing", "word"] f_height_of .flat := cal_height_of F_height_of (He.glo_ok X G (c.fact 12 (f := .glo "height_of") rfl)) b_sum c_signs
  have c_weight_of : Cal P w K mg base "weight_of" 2 ["drawing", "word"] f_weight_of .flat := cal_weight_of F_weight_of (He.glo_ok X G (c.fact 13 (f := .glo "weight_of") rfl)) b_len b_sum c_signs
  have c__law_told : Cal P w K mg base "_law_told" 3 ["_law_drawing", "_law_word"] f__law_told .flat := cal__law_told F__law_told (He.glo_ok X G (c.fact 14 (f := .glo "_law_told") rfl)) b_any b_bool b_int b_isinstance c_height_of c_weight_of
  have c__law_ends : Cal P w K mg base "_law_ends" 1 ["_law_row"] f__law_ends .flat := cal__law_ends F__law_ends (He.glo_ok X G (c.fact 15 (f := .glo "_law_ends") rfl))
  have c__law_loops : Cal P w K mg base "_law_loops" 2 ["_law_drawing", "_law_opening"] f__law_loops .fresh := cal__law_loops F__law_loops (He.glo_ok X G (c.fact 16 (f := .glo "_law_loops") rfl)) b_list b_set b_sorted b_zip c__law_ends
  have c__law_copied : Cal P w K mg base "_law_copied" 1 ["_law_drawing"] f__law_copied .fresh := cal__law_copied F__law_copied (He.glo_ok X G (c.fact 17 (f := .glo "_law_copied") rfl)) b_list
  exact ok_law F_law b_len b_range c__law_number c__law_drawn c__law_bits c__law_loops c__law_place c__law_told c__law_copied
end K34
open PySem PySem.W PySem.Calls PyProof.Rows
set_option maxRecDepth 100000 in
set_option maxHeartbeats 0 in
theorem PySem.Challenge.cw_loopcube_k34_heights_and_weights_holds : PySem.Challenge.rw_loopcube_k34_heights_and_weights.Holds := by
  w_on; o_law
  refine HandSHeadRun.head_any (r := OpenLaw.row PySem.Challenge.rw_loopcube_k34_heights_and_weights) (q := view (OpenLaw.row PySem.Challenge.rw_loopcube_k34_heights_and_weights).prog [22]) (H := K34.hk) (ob := K34.ob) (M := 4000) (loose := ["signs", "height_of", "weight_of", "_law_cell_at", "_law_number", "_law_letters", "_law_closed", "_law_curl", "_law_new_names", "_law_mixed_up", "_law_drawn", "_law_copied", "_law_ends", "_law_loops", "_law_openings", "_law_signs", "_law_place", "_law_bits", "_law_told", "__name__"]) (d := HandSHeadRun.topDef (OpenLaw.row PySem.Challenge.rw_loopcube_k34_heights_and_weights).prog 22) (kwd := []) K34.ob_eq
    (by kernel_rfl) (fun s => by kernel_rfl) K34.run (by kernel_rfl) (by kernel_rfl) (by kernel_rfl) (by rfl) (by first | assumption | decide +kernel) (by decide +kernel) ⟨rfl, rfl, rfl, rfl, rfl, by decide +kernel⟩ ?hw ?hc
  case hw => w_witness2
  case hc =>
    refine VV.walk_V (l := PySem.Challenge.rw_loopcube_k34_heights_and_weights) (n := 63) (k := 4) (x := "_law_script") (sem := K34.f_law) (R := .flat) rfl (by decide) (by kernel_rfl) ⟨rfl, by decide, by decide⟩ K34.law_true ?F
    intro w mg fa h Y G hmg0
    obtain ⟨K, KX, c⟩ := Y
    have hmg : mg ("law" : PySem.Str) = some (.ref fa) := by
      have e : (HandSHeadRun.topDef (OpenLaw.row PySem.Challenge.rw_loopcube_k34_heights_and_weights).prog 22).name = ("law" : PySem.Str) := by kernel_rfl
      rw [← e]
      exact hmg0
    obtain ⟨fd, hb, hF⟩ := K34.facts (P := (PySem.Challenge.rw_loopcube_k34_heights_and_weights).prog) (w := w) KX G hmg c
    exact ⟨K, fd, KX, hb, hF⟩
