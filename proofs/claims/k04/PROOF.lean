import PyProof.Rows.All
import Wide.All
import OpenK.AllK
import Wide.FinOn
import KE.KStateDown
import Lean
import HandS.ForMost
import HandS.ForExc
import HandS.Wide
import HandS.WideBits
import HandS.Text
import HandS.Defaults
import HandS.NoneIn
import HandS.EndBits
import HandS.HeadEnd
import HandS.Head0
import HandS.Head1
import HandS.Head2
import HandS.HeadHook1
import HandS.HeadHook2
import HandS.DeepEq
import HandS.More
import HandS.DictComp
import HandS.IsInst
import HandS.ExcOwn
import HandS.ExcIs
import HandS.CallLocal
import HandS.HotCalls
import PySem.Challenge.RW_loopcube_k04_tables_that_do_not_fit

/-! ## VRep -/
set_option Elab.async false
set_option linter.all false
set_option maxHeartbeats 0
set_option maxRecDepth 100000
namespace VV
open PySem PySem.Spec PyProof.Rows L2

/-- keys of dicts -/
inductive Ky where
  | k (x : Key) | t (xs : List Key)
  deriving DecidableEq

/-- the module's names, the written part -/
structure Mg where
  mg : Str → Option Value
  K : PySem.W.Frag
abbrev _root_.L2.Cx.vm (X : Cx) : Mg := ⟨X.mg, X.K⟩
/-- the script's list -/
def ScrAt (K : PySem.W.Frag) (H : Hp) (a : Addr) (xs : List V) : Prop := (∃ o, H a = some (.frz o (.lst xs))) ∨
    ∃ (o : Obj) (its : Array Value) (n : Nat), K.lookup a = some o ∧ o.cls = .type "list" ∧ o.dict = none ∧ o.data = .seq its n ∧ its.size ≤ sizeLine ∧ Vals xs its.toList
theorem ScrAt.sq {K : PySem.W.Frag} {H : Hp} {a : Addr} {xs : List V} (h : ScrAt K H a xs) : SqL K H a xs := h.imp .inr id
/-- a value as a tree -/
inductive D where
  | non | bl (b : Bool) | int (i : Int) | str (s : Str)
  | tup (l : List D) | lst (l : List D)
  /-- the script: a list that is known to the object -/
  | scr (l : List D)
  | dic (tk : Bool) (ks : List Ky) (vs : List D)
  | obj (c : Str) (ns : List Str) (fs : List D)
  | fn (x : Str)

/-- what stands at a may still be read as before -/
def _root_.L2.HO.bare : HO → Prop
  | .frz _ _ => False
  | _ => True
def Kp (H H' : Hp) (a : Addr) : Prop := (∀ u : HO, u.bare → Rd H a u → Rd H' a u) ∧ ∀ vs, H a = some (.lst vs) → H' a = some (.lst vs)
/-- tuples and the script stay -/
def KpT (H H' : Hp) : Prop := (∀ a xs, H a = some (.tup xs) → H' a = some (.tup xs)) ∧ ∀ a o vs, H a = some (.frz o (.lst vs)) → H' a = some (.frz o (.lst vs))
/-- the dict at a has these keys and values; tk: its keys are tuples -/
def RdD (H : Hp) (a : Addr) (tk : Bool) (ks : List Ky) (vs : List V) : Prop :=
  (ks.length = vs.length ∧ ks.Nodup) ∧ match tk with
  | false => ∃ kl : List Key, ks = kl.map Ky.k ∧ Rd H a (.dK (kl.zip vs))
  | true => ∃ kl : List (List Key), ks = kl.map Ky.t ∧ Rd H a (.dT (kl.zip vs))

mutual
def Rep (mg : Mg) (H : Hp) : D → V → List Addr → Prop
  | .non, v, fp => v = .non ∧ fp = []
  | .bl b, v, fp => v = .bl b ∧ fp = []
  | .int i, v, fp => v = .int i ∧ fp = []
  | .str s, v, fp => v = .str s ∧ fp = []
  | .fn x, v, fp => (∃ a, v = .ref a ∧ mg.mg x = some (.ref a)) ∧ fp = []
  | .tup ds, v, fp => ∃ a vs, v = .ref a ∧ H a = some (.tup vs) ∧ RepL mg H ds vs fp
  | .lst ds, v, fp => ∃ a vs f, v = .ref a ∧ H a = some (.lst vs) ∧ RepL mg H ds vs f ∧ fp = a :: f
  | .scr ds, v, fp => ∃ a vs, v = .ref a ∧ ScrAt mg.K H a vs ∧ RepL mg H ds vs [] ∧ fp = []
  | .dic tk ks ds, v, fp => ∃ a vs f, v = .ref a ∧ RdD H a tk ks vs ∧ RepL mg H ds vs f ∧ fp = a :: f
  | .obj c ns ds, v, fp => ∃ a C dx vs f, v = .ref a ∧ mg.mg c = some (.ref C) ∧ ns.length = vs.length ∧ Rd H a (.ins C dx (ns.zip vs)) ∧ RepL mg H ds vs f ∧ fp = a :: f
def RepL (mg : Mg) (H : Hp) : List D → List V → List Addr → Prop
  | [], vs, fp => vs = [] ∧ fp = []
  | d :: ds, vs, fp => ∃ v r f1 f2, vs = v :: r ∧ Rep mg H d v f1 ∧ RepL mg H ds r f2 ∧ fp = f1 ++ f2
end

section
variable {mg : Mg} {H H' : Hp}

theorem RepL.length : ∀ {ds : List D} {vs : List V} {fp : List Addr}, RepL mg H ds vs fp → vs.length = ds.length
  | [], _, _, h => by simp only [RepL] at h; rw [h.1]; rfl
  | d :: ds, _, _, h => by
    simp only [RepL] at h
    obtain ⟨v, r, f1, f2, rfl, _, h2, _⟩ := h
    simp [RepL.length h2]

theorem RdD.keep {a : Addr} {tk : Bool} {ks : List Ky} {vs : List V} (h : RdD H a tk ks vs) (k : ∀ u : HO, u.bare → Rd H a u → Rd H' a u) : RdD H' a tk ks vs := by
  obtain ⟨h1, h2⟩ := h
  refine ⟨h1, ?_⟩
  cases tk with
  | false => obtain ⟨kl, e, r⟩ := h2; exact ⟨kl, e, k _ trivial r⟩
  | true => obtain ⟨kl, e, r⟩ := h2; exact ⟨kl, e, k _ trivial r⟩

mutual
theorem Rep.keep : ∀ {d : D} {v : V} {fp : List Addr}, Rep mg H d v fp → (∀ a, a ∈ fp → Kp H H' a) → KpT H H' → Rep mg H' d v fp
  | .non, _, _, h, _, _ => by simp only [Rep] at h ⊢; exact h
  | .bl _, _, _, h, _, _ => by simp only [Rep] at h ⊢; exact h
  | .int _, _, _, h, _, _ => by simp only [Rep] at h ⊢; exact h
  | .str _, _, _, h, _, _ => by simp only [Rep] at h ⊢; exact h
  | .fn _, _, _, h, _, _ => by simp only [Rep] at h ⊢; exact h
  | .tup ds, _, _, h, k, kt => by
    simp only [Rep] at h ⊢
    obtain ⟨a, vs, rfl, r, h2⟩ := h
    exact ⟨a, vs, rfl, kt.1 a vs r, RepL.keep h2 k kt⟩
  | .lst ds, _, _, h, k, kt => by
    simp only [Rep] at h ⊢
    obtain ⟨a, vs, f, rfl, r, h2, rfl⟩ := h
    exact ⟨a, vs, f, rfl, (k a List.mem_cons_self).2 _ r, RepL.keep h2 (fun b hb => k b (List.mem_cons_of_mem _ hb)) kt, rfl⟩
  | .scr ds, _, _, h, k, kt => by
    simp only [Rep] at h ⊢
    obtain ⟨a, vs, rfl, r, h2, rfl⟩ := h
    exact ⟨a, vs, rfl, r.imp (fun ⟨o, r⟩ => ⟨o, kt.2 a o vs r⟩) id, RepL.keep h2 (fun b hb => nomatch hb) kt, rfl⟩
  | .dic tk ks ds, _, _, h, k, kt => by
    simp only [Rep] at h ⊢
    obtain ⟨a, vs, f, rfl, r, h2, rfl⟩ := h
    exact ⟨a, vs, f, rfl, r.keep (k a List.mem_cons_self).1, RepL.keep h2 (fun b hb => k b (List.mem_cons_of_mem _ hb)) kt, rfl⟩
  | .obj c ns ds, _, _, h, k, kt => by
    simp only [Rep] at h ⊢
    obtain ⟨a, C, dx, vs, f, rfl, hc, hl, r, h2, rfl⟩ := h
    exact ⟨a, C, dx, vs, f, rfl, hc, hl, (k a List.mem_cons_self).1 _ trivial r, RepL.keep h2 (fun b hb => k b (List.mem_cons_of_mem _ hb)) kt, rfl⟩
theorem RepL.keep : ∀ {ds : List D} {vs : List V} {fp : List Addr}, RepL mg H ds vs fp → (∀ a, a ∈ fp → Kp H H' a) → KpT H H' → RepL mg H' ds vs fp
  | [], _, _, h, _, _ => by simp only [RepL] at h ⊢; exact h
  | d :: ds, _, _, h, k, kt => by
    simp only [RepL] at h ⊢
    obtain ⟨v, r, f1, f2, rfl, h1, h2, rfl⟩ := h
    exact ⟨v, r, f1, f2, rfl, Rep.keep h1 (fun b hb => k b (List.mem_append_left _ hb)) kt, RepL.keep h2 (fun b hb => k b (List.mem_append_right _ hb)) kt, rfl⟩
end

/-- nodes are tracked, and what may be written -/
def MutO : Option HO → Prop
  | some (.frz _ u) => Mut (some u)
  | o => Mut o
theorem MutO.isSome {o : Option HO} (h : MutO o) : o ≠ none := by
  rintro rfl
  exact h

mutual
theorem Rep.there : ∀ {d : D} {v : V} {fp : List Addr}, Rep mg H d v fp → ∀ a ∈ fp, H a ≠ none
  | .non, _, _, h, a, ha => by simp only [Rep] at h; rw [h.2] at ha; cases ha
  | .bl _, _, _, h, a, ha => by simp only [Rep] at h; rw [h.2] at ha; cases ha
  | .int _, _, _, h, a, ha => by simp only [Rep] at h; rw [h.2] at ha; cases ha
  | .str _, _, _, h, a, ha => by simp only [Rep] at h; rw [h.2] at ha; cases ha
  | .fn _, _, _, h, a, ha => by simp only [Rep] at h; rw [h.2] at ha; cases ha
  | .tup ds, _, _, h, a, ha => by
    simp only [Rep] at h
    obtain ⟨_, vs, rfl, r, h2⟩ := h
    exact RepL.there h2 a ha
  | .lst ds, _, _, h, a, ha => by
    simp only [Rep] at h
    obtain ⟨b, vs, f, rfl, r, h2, rfl⟩ := h
    rcases List.mem_cons.mp ha with rfl | ha
    · rw [r]; simp
    · exact RepL.there h2 a ha
  | .scr ds, _, _, h, a, ha => by
    simp only [Rep] at h
    obtain ⟨b, vs, rfl, r, h2, rfl⟩ := h
    cases ha
  | .dic tk ks ds, _, _, h, a, ha => by
    simp only [Rep] at h
    obtain ⟨b, vs, f, rfl, ⟨_, r⟩, h2, rfl⟩ := h
    rcases List.mem_cons.mp ha with rfl | ha
    · cases tk with
      | false => obtain ⟨_, _, r | ⟨o, r⟩⟩ := r <;> rw [r] <;> simp
      | true => obtain ⟨_, _, r | ⟨o, r⟩⟩ := r <;> rw [r] <;> simp
    · exact RepL.there h2 a ha
  | .obj c ns ds, _, _, h, a, ha => by
    simp only [Rep] at h
    obtain ⟨b, C, dx, vs, f, rfl, _, _, r, h2, rfl⟩ := h
    rcases List.mem_cons.mp ha with rfl | ha
    · rcases r with r | ⟨o, r⟩ <;> rw [r] <;> simp
    · exact RepL.there h2 a ha
theorem RepL.there : ∀ {ds : List D} {vs : List V} {fp : List Addr}, RepL mg H ds vs fp → ∀ a ∈ fp, H a ≠ none
  | [], _, _, h, a, ha => by simp only [RepL] at h; rw [h.2] at ha; cases ha
  | d :: ds, _, _, h, a, ha => by
    simp only [RepL] at h
    obtain ⟨v, r, f1, f2, rfl, h1, h2, rfl⟩ := h
    rcases List.mem_append.mp ha with ha | ha
    · exact Rep.there h1 a ha
    · exact RepL.there h2 a ha
end

/-- all that stands stands as before -/
def Ext (H H' : Hp) : Prop := ∀ a o, H a = some o → H' a = some o
theorem Ext.refl : Ext H H := fun _ _ h => h
theorem Ext.trans {H1 : Hp} (a : Ext H H1) (b : Ext H1 H') : Ext H H' := fun c o h => b c o (a c o h)
theorem Ext.rd (e : Ext H H') {a : Addr} {u : HO} (r : Rd H a u) : Rd H' a u := by
  rcases r with r | ⟨o, r⟩
  · exact .inl (e a u r)
  · exact .inr ⟨o, e a _ r⟩
theorem Ext.nope (e : Ext H H') {a : Addr} (h : H' a = none) : H a = none := by
  cases q : H a with
  | none => rfl
  | some o => rw [e a o q] at h; cases h
theorem Ext.put {a : Addr} {o : HO} (h : H a = none) : Ext H (upd H a o) := fun b u e => by
  rw [upd_ne (ne_of_none e h)]; exact e
theorem Ext.kp (e : Ext H H') (a : Addr) : Kp H H' a := ⟨fun _ _ r => e.rd r, fun _ r => e a _ r⟩
theorem Ext.kpT (e : Ext H H') : KpT H H' := ⟨fun a xs r => e a _ r, fun a o vs r => e a _ r⟩
theorem Rep.ext {d : D} {v : V} {fp : List Addr} (h : Rep mg H d v fp) (e : Ext H H') : Rep mg H' d v fp := h.keep (fun a _ => e.kp a) e.kpT
theorem RepL.ext {d : List D} {v : List V} {fp : List Addr} (h : RepL mg H d v fp) (e : Ext H H') : RepL mg H' d v fp := h.keep (fun a _ => e.kp a) e.kpT

theorem RepL.get : ∀ {ds : List D} {vs : List V} {fp : List Addr} {i : Nat} {d : D}, RepL mg H ds vs fp → ds[i]? = some d → ∃ v f1 f f2, vs[i]? = some v ∧ Rep mg H d v f ∧ fp = f1 ++ f ++ f2
  | [], _, _, _, _, _, e => by simp at e
  | x :: ds, _, _, 0, d, h, e => by
    simp only [RepL] at h
    obtain ⟨v, r, f1, f2, rfl, h1, h2, rfl⟩ := h
    simp at e; subst e
    exact ⟨v, [], f1, f2, rfl, h1, rfl⟩
  | x :: ds, _, _, i + 1, d, h, e => by
    simp only [RepL] at h
    obtain ⟨v, r, f1, f2, rfl, h1, h2, rfl⟩ := h
    obtain ⟨w, g1, g, g2, e1, e2, rfl⟩ := RepL.get (i := i) (d := d) h2 (by simpa using e)
    exact ⟨w, f1 ++ g1, g, g2, by simpa using e1, e2, by simp [List.append_assoc]⟩

theorem RepL.append : ∀ {ds es : List D} {vs us : List V} {f g : List Addr}, RepL mg H ds vs f → RepL mg H es us g → RepL mg H (ds ++ es) (vs ++ us) (f ++ g)
  | [], _, _, _, _, _, h, h' => by
    simp only [RepL] at h
    obtain ⟨rfl, rfl⟩ := h
    exact h'
  | d :: ds, es, _, us, _, g, h, h' => by
    simp only [RepL] at h
    obtain ⟨v, r, f1, f2, rfl, h1, h2, rfl⟩ := h
    simp only [List.cons_append, RepL]
    exact ⟨v, r ++ us, f1, f2 ++ g, rfl, h1, RepL.append h2 h', by simp [List.append_assoc]⟩
theorem RepL.one {d : D} {v : V} {f : List Addr} (h : Rep mg H d v f) : RepL mg H [d] [v] f := by
  simp only [RepL]
  exact ⟨v, [], f, [], rfl, h, ⟨rfl, rfl⟩, by simp⟩

end
end VV

/-! ## VExp -/
namespace VV
open PySem PySem.Spec PyProof.Rows L2

/-- kinds of slots -/
inductive Kd where
  | dead | flat | lab (rt : Option Nat) (L : List Nat) (nd : Bool)
  /-- the exception that is handled, at a, of the class c -/
  | exc (a : Addr) (c : Str)
  deriving DecidableEq
/-- where a result's root comes from -/
inductive Rt where
  | new | old (n : Nat) | unk
  deriving DecidableEq
/-- kinds of results -/
inductive Md where
  | flat | al (fr : Bool) (rt : Rt) (L : List Nat) (nd : Bool)
  deriving DecidableEq

/-- what stands outside (the nodes of the arguments), what is locked for good while a loop walks it -/
structure Fm where
  out : Addr → Prop
  frz : Addr → Prop
def lk (LL : List Nat) (n : Nat) : Prop := n = 0 ∨ n ∈ LL
structure Loc (P : Fm) (LL : List Nat) (g : Addr → Nat) (H : Hp) : Prop where
  at_ : ∀ a, g a ≠ 0 → ∃ o, H a = some o ∧ (Mut (some o) ∨ P.frz a)
  out : ∀ a, P.out a → H a ≠ none
  fz : ∀ a, P.frz a → (∃ o u, H a = some (.frz o u)) ∧ lk LL (g a)

theorem Loc.fzn {P : Fm} {LL : List Nat} {g : Addr → Nat} {H : Hp} (l : Loc P LL g H) {a : Addr} (h : P.frz a) : H a ≠ none := by
  obtain ⟨⟨o, u, q⟩, _⟩ := l.fz a h
  rw [q]; simp

def Old (P : Fm) (g : Addr → Nat) (L : List Nat) (a : Addr) : Prop := g a ∈ L ∧ (g a = 0 → P.out a)
theorem Old.there {P : Fm} {LL : List Nat} {g : Addr → Nat} {H : Hp} {L : List Nat} {a : Addr} (l : Loc P LL g H) (o : Old P g L a) : H a ≠ none := by
  by_cases h : g a = 0
  · exact l.out a (o.2 h)
  · obtain ⟨u, e, _⟩ := l.at_ a h
    rw [e]; simp

/-- made since -/
def New (H H' : Hp) (a : Addr) : Prop := H a = none ∧ Mut (H' a)
/-- no node twice; the root not below itself -/
def Nd (nd kn : Bool) (v : V) (fp : List Addr) : Prop := (nd = true → fp.Nodup) ∧ (kn = true → ∀ a f, v = .ref a → fp = a :: f → a ∉ f)
theorem Nd.of {nd kn : Bool} {v : V} {fp : List Addr} (h : fp.Nodup) : Nd nd kn v fp := ⟨fun _ => h, fun _ a f _ e => by subst e; exact (List.nodup_cons.mp h).1⟩
theorem Nd.cons {nd kn : Bool} {p : Addr} {fp : List Addr} (h : p ∉ fp) (n : nd = true → fp.Nodup) : Nd nd kn (.ref p) (p :: fp) :=
  ⟨fun x => List.nodup_cons.mpr ⟨h, n x⟩, fun _ a f e1 e2 => by cases e2; exact h⟩
theorem Nd.unk {nd : Bool} {v : V} {fp : List Addr} (n : nd = true → fp.Nodup) : Nd nd false v fp := ⟨n, fun z => nomatch z⟩
def Rt.known : Rt → Bool
  | .unk => false
  | _ => true
def CellOk (mg : Mg) (P : Fm) (g : Addr → Nat) (H : Hp) : Kd → D → Option V → Prop
  | .dead, _, _ => True
  | .exc a c, d, ov => d = .str c ∧ ov = some (.ref a)
  | .flat, d, ov => ∃ v, ov = some v ∧ Rep mg H d v []
  | .lab rt L nd, d, ov => ∃ v fp, ov = some v ∧ Rep mg H d v fp ∧ (∀ a ∈ fp, (v = .ref a ∧ ∃ n, rt = some n ∧ Old P g [n] a) ∨ ((v ≠ .ref a ∨ rt = none) ∧ Old P g L a)) ∧ Nd nd rt.isSome v fp

def Cells (mg : Mg) (P : Fm) (g : Addr → Nat) (H : Hp) : List Kd → List D → List (Option V) → Prop
  | [], [], [] => True
  | k :: Γ, d :: ρ, v :: σ => CellOk mg P g H k d v ∧ Cells mg P g H Γ ρ σ
  | _, _, _ => False

structure Sta (mg : Mg) (P : Fm) (LL : List Nat) (Γ : List Kd) (g : Addr → Nat) (ρ : List D) (σ : L2.St) (H : Hp) : Prop where
  loc : Loc P LL g H
  cells : Cells mg P g H Γ ρ σ

/-- the nodes of a result -/
def Nds (P : Fm) (g : Addr → Nat) (H H' : Hp) (fr : Bool) (rt : Rt) (L : List Nat) (nd : Bool) (v : V) (fp : List Addr) : Prop :=
  (∀ a ∈ fp, (v = .ref a ∧ match rt with | .new => New H H' a | .old n => Old P g [n] a | .unk => False) ∨ ((v ≠ .ref a ∨ rt = .unk) ∧ ((fr = true ∧ New H H' a) ∨ Old P g L a))) ∧ Nd nd rt.known v fp
/-- a result -/
def Val (mg : Mg) (P : Fm) (g : Addr → Nat) (H H' : Hp) : Md → D → V → Prop
  | .flat, d, v => Rep mg H' d v []
  | .al fr rt L nd, d, v => ∃ fp, Rep mg H' d v fp ∧ Nds P g H H' fr rt L nd v fp
/-- several -/
def Fps (P : Fm) (g : Addr → Nat) (H H' : Hp) : Md → List Addr → Prop
  | .flat, fp => fp = []
  | .al fr _ L nd, fp => (∀ a ∈ fp, (fr = true ∧ New H H' a) ∨ Old P g L a) ∧ (nd = true → fp.Nodup)
def ValL (mg : Mg) (P : Fm) (g : Addr → Nat) (H H' : Hp) (m : Md) (ds : List D) (vs : List V) : Prop := ∃ fp, RepL mg H' ds vs fp ∧ Fps P g H H' m fp

section
variable {mg : Mg} {P : Fm} {LL : List Nat} {Γ : List Kd} {g : Addr → Nat} {ρ : List D} {σ : L2.St} {H H' H1 : Hp}

theorem mut_of {o : Option HO} {o' : Option HO} (h : Mut o) (e : ∀ u, o = some u → o' = some u) : Mut o' := by
  cases o with
  | none => exact h.elim
  | some u => rw [e u rfl]; exact h

theorem Loc.ext (l : Loc P LL g H) (e : Ext H H') : Loc P LL g H' := ⟨fun a h => let ⟨o, q, m⟩ := l.at_ a h; ⟨o, e a o q, m⟩, fun a h z => l.out a h (e.nope z), fun a h => ⟨let ⟨⟨o, u, q⟩, _⟩ := l.fz a h; ⟨o, u, e a _ q⟩, (l.fz a h).2⟩⟩
theorem CellOk.ext {k : Kd} {d : D} {v : Option V} (c : CellOk mg P g H k d v) (e : Ext H H') : CellOk mg P g H' k d v := by
  cases k with
  | dead => trivial
  | exc _ _ => exact c
  | flat => obtain ⟨v, rfl, r⟩ := c; exact ⟨v, rfl, r.ext e⟩
  | lab rt L nd => obtain ⟨v, fp, rfl, r, q⟩ := c; exact ⟨v, fp, rfl, r.ext e, q⟩
theorem New.ext {a : Addr} (n : New H H1 a) (e : Ext H1 H') : New H H' a := ⟨n.1, mut_of n.2 (e a)⟩
theorem New.back {a : Addr} (n : New H1 H' a) (e : Ext H H1) : New H H' a := ⟨e.nope n.1, n.2⟩
theorem Cells.ext (e : Ext H H') : ∀ {Γ : List Kd} {ρ : List D} {σ : L2.St}, Cells mg P g H Γ ρ σ → Cells mg P g H' Γ ρ σ
  | [], [], [], _ => trivial
  | _ :: _, _ :: _, _ :: _, h => ⟨h.1.ext e, Cells.ext e h.2⟩
  | [], _ :: _, _, h => h.elim
  | [], [], _ :: _, h => h.elim
  | _ :: _, [], _, h => h.elim
  | _ :: _, _ :: _, [], h => h.elim
theorem Sta.ext (s : Sta mg P LL Γ g ρ σ H) (e : Ext H H') : Sta mg P LL Γ g ρ σ H' := ⟨s.loc.ext e, s.cells.ext e⟩

theorem Cells.get : ∀ {Γ : List Kd} {ρ : List D} {σ : L2.St} {i : Nat} {k : Kd}, Cells mg P g H Γ ρ σ → Γ[i]? = some k → ∃ d ov, ρ[i]? = some d ∧ σ[i]? = some ov ∧ CellOk mg P g H k d ov
  | [], _, _, _, _, _, e => by simp at e
  | k :: Γ, d :: ρ, v :: σ, 0, k', h, e => by simp at e; subst e; exact ⟨d, v, rfl, rfl, h.1⟩
  | k :: Γ, d :: ρ, v :: σ, i + 1, k', h, e => by
    obtain ⟨d', ov, h1, h2, h3⟩ := Cells.get (i := i) (k := k') h.2 (by simpa using e)
    exact ⟨d', ov, by simpa using h1, by simpa using h2, h3⟩
  | _ :: _, [], _, _, _, h, _ => h.elim
  | _ :: _, _ :: _, [], _, _, h, _ => h.elim

theorem Nds.ext {fr : Bool} {rt : Rt} {L : List Nat} {nd : Bool} {v : V} {fp : List Addr} (h : Nds P g H H1 fr rt L nd v fp) (e : Ext H1 H') : Nds P g H H' fr rt L nd v fp := by
  refine ⟨fun a ha => ?_, h.2⟩
  rcases h.1 a ha with ⟨x, y⟩ | ⟨z, ⟨x, n⟩ | o⟩
  · refine .inl ⟨x, ?_⟩
    cases rt with
    | new => exact New.ext y e
    | old n => exact y
    | unk => exact y
  · exact .inr ⟨z, .inl ⟨x, n.ext e⟩⟩
  · exact .inr ⟨z, .inr o⟩
theorem Nds.back {fr : Bool} {rt : Rt} {L : List Nat} {nd : Bool} {v : V} {fp : List Addr} (h : Nds P g H1 H' fr rt L nd v fp) (e : Ext H H1) : Nds P g H H' fr rt L nd v fp := by
  refine ⟨fun a ha => ?_, h.2⟩
  rcases h.1 a ha with ⟨x, y⟩ | ⟨z, ⟨x, n⟩ | o⟩
  · refine .inl ⟨x, ?_⟩
    cases rt with
    | new => exact New.back y e
    | old n => exact y
    | unk => exact y
  · exact .inr ⟨z, .inl ⟨x, n.back e⟩⟩
  · exact .inr ⟨z, .inr o⟩
theorem Val.ext {m : Md} {d : D} {v : V} (h : Val mg P g H H1 m d v) (e : Ext H1 H') : Val mg P g H H' m d v := by
  cases m with
  | flat => exact Rep.ext h e
  | al fr rt L nd =>
    obtain ⟨fp, r, q⟩ := h
    exact ⟨fp, r.ext e, q.ext e⟩
theorem Fps.ext {m : Md} {fp : List Addr} (h : Fps P g H H1 m fp) (e : Ext H1 H') : Fps P g H H' m fp := by
  cases m with
  | flat => exact h
  | al fr rt L nd => exact ⟨fun a ha => (h.1 a ha).imp (fun ⟨x, n⟩ => ⟨x, n.ext e⟩) id, h.2⟩
theorem Fps.back {m : Md} {fp : List Addr} (h : Fps P g H1 H' m fp) (e : Ext H H1) : Fps P g H H' m fp := by
  cases m with
  | flat => exact h
  | al fr rt L nd => exact ⟨fun a ha => (h.1 a ha).imp (fun ⟨x, n⟩ => ⟨x, n.back e⟩) id, h.2⟩
theorem ValL.ext {m : Md} {d : List D} {v : List V} (h : ValL mg P g H H1 m d v) (e : Ext H1 H') : ValL mg P g H H' m d v := let ⟨fp, r, q⟩ := h; ⟨fp, r.ext e, q.ext e⟩
/-- seen from an earlier heap -/
theorem Val.back {m : Md} {d : D} {v : V} (h : Val mg P g H1 H' m d v) (e : Ext H H1) : Val mg P g H H' m d v := by
  cases m with
  | flat => exact h
  | al fr rt L nd => obtain ⟨fp, r, q⟩ := h; exact ⟨fp, r, q.back e⟩
theorem ValL.back {m : Md} {d : List D} {v : List V} (h : ValL mg P g H1 H' m d v) (e : Ext H H1) : ValL mg P g H H' m d v := let ⟨fp, r, q⟩ := h; ⟨fp, r, q.back e⟩
end

/-! ### expressions -/
abbrev Ev := List D → Option D
def EX (X : Cx) (LL : List Nat) (Γ : List Kd) (e : Expr) (sem : Ev) (m : Md) : Prop :=
  ∃ t, PE X e t ∧ ∀ P g ρ σ H d Q, Sta X.vm P LL Γ g ρ σ H → sem ρ = some d → (∀ v H', Ext H H' → Val X.vm P g H H' m d v → Q v H') → t σ H Q
def EA (X : Cx) (LL : List Nat) (Γ : List Kd) (es : List Expr) (sem : List D → Option (List D)) (m : Md) : Prop :=
  (∀ ρ ds, sem ρ = some ds → ds.length = es.length) ∧ ∃ t, PA X es t ∧ ∀ P g ρ σ H ds Q, Sta X.vm P LL Γ g ρ σ H → sem ρ = some ds → (∀ vs H', Ext H H' → ValL X.vm P g H H' m ds vs → Q vs H') → t σ H Q
def ET (X : Cx) (LL : List Nat) (Γ : List Kd) (e : Expr) (sem : List D → Option Bool) : Prop :=
  ∃ t, PT X e t ∧ ∀ P g ρ σ H b Q, Sta X.vm P LL Γ g ρ σ H → sem ρ = some b → (∀ H', Ext H H' → Q b H') → t σ H Q
def EW (X : Cx) (LL : List Nat) (Γ : List Kd) (e : Expr) (sem : List D → Option Bool) : Prop :=
  ∃ t, PW X e t ∧ ∀ P g ρ σ H b Q, Sta X.vm P LL Γ g ρ σ H → sem ρ = some b → (∀ H', Ext H H' → Q b H') → t σ H Q

/-- a slot that may be read as a tree -/
def Kd.use : Kd → Bool
  | .dead => false
  | .exc _ _ => false
  | _ => true
def Kd.md : Kd → Md
  | .dead => .flat
  | .exc _ _ => .flat
  | .flat => .flat
  | .lab rt L nd => .al false (match rt with | some n => .old n | none => .unk) L nd
def disj (a b : List Nat) : Bool := a.all fun x => !b.contains x
/-- the root's place said as any node's -/
def Md.unroot : Md → Md
  | .flat => .flat
  | .al _ .new L nd => .al true .unk L nd
  | .al fr (.old n) L nd => .al fr .unk (n :: L) nd
  | .al fr .unk L nd => .al fr .unk L nd
def Md.join1 : Md → Md → Md
  | .flat, .flat => .flat
  | .al fr rt L nd, .flat => .al fr .unk L nd
  | .flat, .al fr rt L nd => .al fr .unk L nd
  | .al fr _ L nd, .al fr' _ L' nd' => .al (fr || fr') .unk (L ++ L') (nd && nd' && disj L L')
def Md.join (m m' : Md) : Md := m.unroot.join1 m'

def eVar (i : Nat) : Ev := fun ρ => ρ[i]?
def eC (d : D) : Ev := fun _ => some d
def aNil : List D → Option (List D) := fun _ => some []
def aCons (e : Ev) (r : List D → Option (List D)) : List D → Option (List D) := fun ρ => do
  let d ← e ρ
  let ds ← r ρ
  some (d :: ds)
/-- an operation on values of arguments -/
def eP (f : List D → Option D) (a : List D → Option (List D)) : Ev := fun ρ => do f (← a ρ)
def eTup (a : List D → Option (List D)) : Ev := fun ρ => do let ds ← a ρ; some (.tup ds)
def eLst (a : List D → Option (List D)) : Ev := fun ρ => do let ds ← a ρ; some (.lst ds)

theorem bind_some {α β : Type} {x : Option α} {f : α → Option β} {b : β} (h : (x >>= f) = some b) : ∃ a, x = some a ∧ f a = some b := by
  cases x with
  | none => cases h
  | some a => exact ⟨a, rfl, h⟩

section
variable {X : Cx} {LL : List Nat} {Γ : List Kd} {pos : Pos}

theorem ex_var {x : Str} {k : Kd} (i : Nat) (hk : Γ[i]? = some k) (hd : k.use = true) (hN : X.N[i]? = some x) (hv : Vis X.env.scope x) (hdb : (x == ("__debug__" : Str)) = false := by decide)
    (hcd : (x == ("__classdict__" : Str)) = false := by decide) : EX X LL Γ (.Name x pos) (eVar i) k.md := by
  refine ⟨tVar i, pe_var hN hv hdb hcd, fun P g ρ σ H d Q s hs q => ?_⟩
  obtain ⟨d', ov, h1, h2, h3⟩ := s.cells.get hk
  have e : d' = d := Option.some.inj (h1.symm.trans hs)
  subst e
  cases k with
  | dead => cases hd
  | exc _ _ => cases hd
  | flat =>
    obtain ⟨v, rfl, r⟩ := h3
    exact ⟨v, h2, q v H Ext.refl r⟩
  | lab rt L nd =>
    obtain ⟨v, fp, rfl, r, o, n⟩ := h3
    refine ⟨v, h2, q v H Ext.refl ⟨fp, r, fun a ha => ?_, by cases rt <;> exact n⟩⟩
    rcases o a ha with ⟨e, k, rfl, o'⟩ | ⟨z, o'⟩
    · exact .inl ⟨e, o'⟩
    · refine .inr ⟨?_, .inr o'⟩
      rcases z with z | rfl
      · exact .inl z
      · exact .inr rfl

theorem val_flat {mg : Mg} {P : Fm} {g : Addr → Nat} {H H' : Hp} {d : D} {v : V} (r : Rep mg H' d v []) : Val mg P g H H' .flat d v := r
theorem rep_int {mg : Mg} {H : Hp} {i : Int} : Rep mg H (.int i) (.int i) [] := by simp [Rep]
theorem rep_str {mg : Mg} {H : Hp} {i : Str} : Rep mg H (.str i) (.str i) [] := by simp [Rep]
theorem rep_bl {mg : Mg} {H : Hp} {i : Bool} : Rep mg H (.bl i) (.bl i) [] := by simp [Rep]
theorem rep_non {mg : Mg} {H : Hp} : Rep mg H .non .non [] := by simp [Rep]

theorem ex_int {i : Int} {j} : EX X LL Γ (.Constant (.int i) j pos) (eC (.int i)) .flat :=
  ⟨_, pe_int, fun P g ρ σ H d Q s hs q => by cases hs; exact q _ _ Ext.refl (val_flat rep_int)⟩
theorem ex_bl {b : Bool} {j} : EX X LL Γ (.Constant (.bool b) j pos) (eC (.bl b)) .flat :=
  ⟨_, pe_bl, fun P g ρ σ H d Q s hs q => by cases hs; exact q _ _ Ext.refl (val_flat rep_bl)⟩
theorem ex_non {j} : EX X LL Γ (.Constant .none j pos) (eC .non) .flat :=
  ⟨_, pe_non, fun P g ρ σ H d Q s hs q => by cases hs; exact q _ _ Ext.refl (val_flat rep_non)⟩
theorem ex_str {x : Str} {j} : EX X LL Γ (.Constant (.str x) j pos) (eC (.str x)) .flat :=
  ⟨_, pe_str, fun P g ρ σ H d Q s hs q => by cases hs; exact q _ _ Ext.refl (val_flat rep_str)⟩

theorem mem_join {L L' : List Nat} {x : Nat} : x ∈ L ++ L' ↔ x ∈ L ∨ x ∈ L' := List.mem_append
theorem disj_ok {L L' : List Nat} {x : Nat} (h : disj L L' = true) (a : x ∈ L) : x ∉ L' := by
  unfold disj at h
  have := List.all_eq_true.mp h x a
  simpa using this

theorem Nds.unroot {P : Fm} {g : Addr → Nat} {H H' : Hp} {fr : Bool} {rt : Rt} {L : List Nat} {nd : Bool} {v : V} {fp : List Addr} (h : Nds P g H H' fr rt L nd v fp) : Fps P g H H' (Md.al fr rt L nd).unroot fp := by
  obtain ⟨o, n, _⟩ := h
  cases rt with
  | new =>
    refine ⟨fun a ha => ?_, n⟩
    rcases o a ha with ⟨_, x⟩ | ⟨_, ⟨_, x⟩ | x⟩
    · exact .inl ⟨rfl, x⟩
    · exact .inl ⟨rfl, x⟩
    · exact .inr x
  | old k =>
    refine ⟨fun a ha => ?_, n⟩
    rcases o a ha with ⟨_, x⟩ | ⟨_, x | x⟩
    · exact .inr ⟨by rw [List.mem_singleton.mp x.1]; exact List.mem_cons_self, x.2⟩
    · exact .inl x
    · exact .inr ⟨List.mem_cons_of_mem _ x.1, x.2⟩
  | unk =>
    refine ⟨fun a ha => ?_, n⟩
    rcases o a ha with ⟨_, x⟩ | ⟨_, x⟩
    · exact x.elim
    · exact x
theorem Val.unroot {mg : Mg} {P : Fm} {g : Addr → Nat} {H H' : Hp} {m : Md} {d : D} {v : V} (h : Val mg P g H H' m d v) : ∃ fp, Rep mg H' d v fp ∧ Fps P g H H' m.unroot fp := by
  cases m with
  | flat => exact ⟨[], h, rfl⟩
  | al fr rt L nd => obtain ⟨fp, r, o⟩ := h; exact ⟨fp, r, o.unroot⟩
theorem fps_join {P : Fm} {LL : List Nat} {g : Addr → Nat} {H H1 H2 : Hp} {m m' : Md} {f f' : List Addr} (l : Loc P LL g H) (e1 : Ext H H1) (e2 : Ext H1 H2) (h : Fps P g H H1 m f) (th : ∀ a ∈ f, H1 a ≠ none)
    (h' : Fps P g H1 H2 m' f') : Fps P g H H2 (m.join1 m') (f ++ f') := by
  have k := h.ext e2
  have k' := h'.back e1
  cases m with
  | flat =>
    obtain rfl : f = [] := h
    cases m' with
    | flat => exact k'
    | al fr rt L nd => exact k'
  | al fr rt L nd =>
    cases m' with
    | flat =>
      obtain rfl : f' = [] := h'
      rw [List.append_nil]
      exact k
    | al fr' rt' L' nd' =>
      refine ⟨fun a ha => ?_, fun hn => ?_⟩
      · rcases List.mem_append.mp ha with ha | ha
        · exact (k.1 a ha).imp (fun ⟨x, y⟩ => ⟨by rw [x]; rfl, y⟩) fun o => ⟨List.mem_append_left _ o.1, o.2⟩
        · exact (k'.1 a ha).imp (fun ⟨x, y⟩ => ⟨by rw [x]; cases fr <;> rfl, y⟩) fun o => ⟨List.mem_append_right _ o.1, o.2⟩
      · simp only [Bool.and_eq_true] at hn
        obtain ⟨⟨n1, n2⟩, dj⟩ := hn
        refine List.nodup_append.mpr ⟨h.2 n1, h'.2 n2, ?_⟩
        intro a ha b hb hab
        subst hab
        rcases h'.1 a hb with ⟨_, z, _⟩ | o'
        · exact th a ha z
        · rcases h.1 a ha with ⟨_, z, _⟩ | o
          · exact o'.there l z
          · exact disj_ok dj o.1 o'.1
theorem valL_cons {mg : Mg} {P : Fm} {LL : List Nat} {g : Addr → Nat} {H H1 H2 : Hp} {m m' : Md} {d : D} {ds : List D} {v : V} {vs : List V} (l : Loc P LL g H)
    (e1 : Ext H H1) (e2 : Ext H1 H2) (h : Val mg P g H H1 m d v) (h' : ValL mg P g H1 H2 m' ds vs) : ValL mg P g H H2 (m.join m') (d :: ds) (v :: vs) := by
  obtain ⟨f, r, o⟩ := h.unroot
  obtain ⟨f', r', o'⟩ := h'
  refine ⟨f ++ f', ?_, fps_join l e1 e2 o (fun a ha => r.there a ha) o'⟩
  simp only [RepL]
  exact ⟨v, vs, f, f', rfl, r.ext e2, r', rfl⟩
theorem valL_nil {mg : Mg} {P : Fm} {g : Addr → Nat} {H H' : Hp} : ValL mg P g H H' .flat [] [] := ⟨[], by simp [RepL], rfl⟩

theorem ea_nil : EA X LL Γ [] aNil .flat := ⟨fun ρ ds h => by cases h; rfl, _, pa_nil, fun P g ρ σ H ds Q s hs q => by
  cases hs
  exact q [] H Ext.refl valL_nil⟩
theorem ea_cons {e : Expr} {es : List Expr} {se : Ev} {sr : List D → Option (List D)} {m m' : Md} (h : EX X LL Γ e se m) (h' : EA X LL Γ es sr m')
    (hs : starEach (e :: es) X.env = (false, eval e X.env) :: starEach es X.env := by rfl) : EA X LL Γ (e :: es) (aCons se sr) (m.join m') := by
  obtain ⟨t, ht, k⟩ := h
  obtain ⟨hl, u, hu, k'⟩ := h'
  refine ⟨fun ρ ds e => by
    obtain ⟨d, e1, e⟩ := bind_some e
    obtain ⟨dr, e2, e⟩ := bind_some e
    cases e
    simp [hl ρ dr e2], _, pa_cons ht hu hs, fun P g ρ σ H ds Q s e q => ?_⟩
  obtain ⟨d, e1, e⟩ := bind_some e
  obtain ⟨dr, e2, e⟩ := bind_some e
  cases e
  refine k P g ρ σ H d _ s e1 fun v H1 x1 v1 => ?_
  refine k' P g ρ σ H1 dr _ (s.ext x1) e2 fun vs H2 x2 v2 => ?_
  exact q (v :: vs) H2 (x1.trans x2) (valL_cons s.loc x1 x2 v1 v2)

def Md.tup : Md → Md
  | .flat => .flat
  | .al fr _ L nd => .al fr .unk L nd
def Md.lst : Md → Md
  | .flat => .al false .new [] true
  | .al fr _ L nd => .al fr .new L nd

theorem val_tup {mg : Mg} {P : Fm} {g : Addr → Nat} {H H1 : Hp} {m : Md} {ds : List D} {vs : List V} {p : Addr} (h : ValL mg P g H H1 m ds vs) (hp : H1 p = none) :
    Val mg P g H (upd H1 p (.tup vs)) m.tup (.tup ds) (.ref p) := by
  have x : Ext H1 (upd H1 p (.tup vs)) := Ext.put hp
  obtain ⟨fp, r, q⟩ := h
  have rr : Rep mg (upd H1 p (.tup vs)) (.tup ds) (.ref p) fp := by
    simp only [Rep]
    exact ⟨p, vs, rfl, upd_same, r.ext x⟩
  have q := q.ext x
  cases m with
  | flat =>
    obtain rfl : fp = [] := q
    exact rr
  | al fr rt L nd => exact ⟨fp, rr, fun a ha => .inr ⟨.inr rfl, q.1 a ha⟩, .unk q.2⟩
theorem val_lst {mg : Mg} {P : Fm} {g : Addr → Nat} {H H1 : Hp} {m : Md} {ds : List D} {vs : List V} {p : Addr} (h : ValL mg P g H H1 m ds vs) (e : Ext H H1) (hp : H1 p = none) :
    Val mg P g H (upd H1 p (.lst vs)) m.lst (.lst ds) (.ref p) := by
  have x : Ext H1 (upd H1 p (.lst vs)) := Ext.put hp
  have mu : New H (upd H1 p (.lst vs)) p := ⟨e.nope hp, by rw [upd_same]; trivial⟩
  obtain ⟨fp, r, q⟩ := h
  have rr : Rep mg (upd H1 p (.lst vs)) (.lst ds) (.ref p) (p :: fp) := by
    simp only [Rep]
    exact ⟨p, vs, fp, rfl, upd_same, r.ext x, rfl⟩
  have hn : p ∉ fp := fun hm => r.there p hm hp
  have q := q.ext x
  cases m with
  | flat =>
    obtain rfl : fp = [] := q
    refine ⟨[p], rr, fun a ha => ?_, .of (by simp)⟩
    rw [List.mem_singleton.mp ha]
    exact .inl ⟨rfl, mu⟩
  | al fr rt L nd =>
    refine ⟨p :: fp, rr, fun a ha => ?_, .cons hn q.2⟩
    rcases List.mem_cons.mp ha with rfl | ha
    · exact .inl ⟨rfl, mu⟩
    · exact .inr ⟨.inl fun e => by cases e; exact hn ha, q.1 a ha⟩

theorem ValL.length {mg : Mg} {P : Fm} {g : Addr → Nat} {H H1 : Hp} {m : Md} {ds : List D} {vs : List V} (h : ValL mg P g H H1 m ds vs) : vs.length = ds.length := let ⟨_, r, _⟩ := h; r.length

theorem ex_tup {es : List Expr} {k} {sem : List D → Option (List D)} {m : Md} (h : EA X LL Γ es sem m) (hl : es.length ≤ 1000 := by decide) : EX X LL Γ (.Tuple es k pos) (eTup sem) m.tup := by
  obtain ⟨hz, t, ht, kk⟩ := h
  refine ⟨_, pe_tup ht, fun P g ρ σ H d Q s e q => ?_⟩
  obtain ⟨ds, e1, e⟩ := bind_some e
  cases e
  refine kk P g ρ σ H ds _ s e1 fun vs H1 x1 v1 => ⟨?_, fun p hp => ?_⟩
  · rw [v1.length, hz _ _ e1]; exact Nat.le_of_lt (small1000 hl)
  · exact q _ _ (x1.trans (Ext.put hp)) (val_tup v1 hp)
theorem ex_lst {es : List Expr} {sem : List D → Option (List D)} {m : Md} (h : EA X LL Γ es sem m) (hl : es.length ≤ 1000 := by decide) : EX X LL Γ (.List es pos) (eLst sem) m.lst := by
  obtain ⟨hz, t, ht, kk⟩ := h
  refine ⟨_, pe_lst ht, fun P g ρ σ H d Q s e q => ?_⟩
  obtain ⟨ds, e1, e⟩ := bind_some e
  cases e
  refine kk P g ρ σ H ds _ s e1 fun vs H1 x1 v1 => ⟨?_, fun p hp => ?_⟩
  · rw [v1.length, hz _ _ e1]; exact Nat.le_of_lt (small1000 hl)
  · exact q _ _ (x1.trans (Ext.put hp)) (val_lst v1 x1 hp)
end
end VV

/-! ## VOps -/
namespace VV
open PySem PySem.Spec PyProof.Rows L2

/-- an operation by values keeps to a function of trees -/
def CP (X : Cx) (r : List V → Hp → VK → Prop) (f : List D → Option D) (md : Md → Md) : Prop :=
  ∀ P LL g H H1 m ds vs d Q, Loc P LL g H → Ext H H1 → ValL X.vm P g H H1 m ds vs → f ds = some d → (∀ v H', Ext H1 H' → Val X.vm P g H H' (md m) d v → Q v H') → r vs H1 Q
def r1 (r : V → Hp → VK → Prop) : List V → Hp → VK → Prop := fun vs H Q => ∃ a, vs = [a] ∧ r a H Q
def r2 (r : R2) : List V → Hp → VK → Prop := fun vs H Q => ∃ a b, vs = [a, b] ∧ r a b H Q
abbrev toFlat : Md → Md := fun _ => .flat

section
variable {X : Cx} {LL : List Nat} {Γ : List Kd} {pos : Pos}

/-- two arguments in a row -/
theorem two {a b : Expr} {sa sb : Ev} {ma mb : Md} (ha : EX X LL Γ a sa ma) (hb : EX X LL Γ b sb mb) :
    ∃ ta tb, PE X a ta ∧ PE X b tb ∧ ∀ P g ρ σ H ds (Q : V → V → Hp → Prop), Sta X.vm P LL Γ g ρ σ H → aCons sa (aCons sb aNil) ρ = some ds →
      (∀ d e v w H', ds = [d, e] → Ext H H' → Val X.vm P g H H' ma d v → Val X.vm P g H H' mb e w → ValL X.vm P g H H' (ma.join (mb.join .flat)) ds [v, w] → Q v w H') → ta σ H fun v H1 => tb σ H1 fun w H2 => Q v w H2 := by
  obtain ⟨ta, pa, ka⟩ := ha
  obtain ⟨tb, pb, kb⟩ := hb
  refine ⟨ta, tb, pa, pb, fun P g ρ σ H ds Q s e q => ?_⟩
  obtain ⟨d, e1, e⟩ := bind_some e
  obtain ⟨dr, e2, e⟩ := bind_some e
  cases e
  obtain ⟨d2, e3, e2⟩ := bind_some e2
  cases e2
  refine ka P g ρ σ H d _ s e1 fun v H1 x1 v1 => ?_
  refine kb P g ρ σ H1 d2 _ (s.ext x1) e3 fun w H2 x2 v2 => ?_
  refine q d d2 v w H2 rfl (x1.trans x2) (v1.ext x2) (v2.back x1) (valL_cons s.loc x1 x2 v1 ?_)
  exact valL_cons (s.loc.ext x1) x2 Ext.refl v2 valL_nil

theorem ex_bin {a b : Expr} {sa sb : Ev} {ma mb : Md} {op : Operator} {r : R2} {f : List D → Option D} {md : Md → Md} (ho : OpR X (binaryOp op) r) (hc : CP X (r2 r) f md) (ha : EX X LL Γ a sa ma) (hb : EX X LL Γ b sb mb) :
    EX X LL Γ (.BinOp a op b pos) (eP f (aCons sa (aCons sb aNil))) (md (ma.join (mb.join .flat))) := by
  obtain ⟨ta, tb, pa, pb, k⟩ := two ha hb
  refine ⟨_, pe_op ho pa pb, fun P g ρ σ H d Q s e q => ?_⟩
  obtain ⟨ds, e1, e⟩ := bind_some e
  refine k P g ρ σ H ds _ s e1 fun d1 d2 v w H' _ x va vb vl => ?_
  obtain ⟨_, _, e3, z⟩ := hc P LL g H H' _ ds _ d Q s.loc x vl e fun v2 H2 x2 w2 => q v2 H2 (x.trans x2) w2
  cases e3
  exact z
theorem ex_un {a : Expr} {sa : Ev} {ma : Md} {op : UnaryOp} {r : V → Hp → VK → Prop} {f : List D → Option D} {md : Md → Md} (ho : UnR X (unaryOp op) r) (hc : CP X (r1 r) f md) (ha : EX X LL Γ a sa ma) :
    EX X LL Γ (.UnaryOp op a pos) (eP f (aCons sa aNil)) (md (ma.join .flat)) := by
  obtain ⟨ta, pa, k⟩ := ha
  refine ⟨_, pe_un ho pa, fun P g ρ σ H d Q s e q => ?_⟩
  obtain ⟨ds, e1, e⟩ := bind_some e
  obtain ⟨d1, e2, e1⟩ := bind_some e1
  cases e1
  refine k P g ρ σ H d1 _ s e2 fun v H1 x1 v1 => ?_
  have vl := valL_cons s.loc x1 Ext.refl v1 valL_nil
  obtain ⟨_, e3, z⟩ := hc P LL g H H1 _ _ _ d Q s.loc x1 vl e fun v2 H2 x2 w2 => q v2 H2 (x1.trans x2) w2
  cases e3
  exact z
theorem ex_cmp {a b : Expr} {sa sb : Ev} {ma mb : Md} {op : CmpOp} {r : R2} {f : List D → Option D} {md : Md → Md} (ho : OpR X (compareOp op) r) (hc : CP X (r2 r) f md) (ha : EX X LL Γ a sa ma) (hb : EX X LL Γ b sb mb)
    (hm : behindInMarks op b = false) : EX X LL Γ (.Compare a [op] [b] pos) (eP f (aCons sa (aCons sb aNil))) (md (ma.join (mb.join .flat))) := by
  obtain ⟨ta, tb, pa, pb, k⟩ := two ha hb
  refine ⟨_, pe_cmpR ho pa pb hm, fun P g ρ σ H d Q s e q => ?_⟩
  obtain ⟨ds, e1, e⟩ := bind_some e
  refine k P g ρ σ H ds _ s e1 fun d1 d2 v w H' _ x va vb vl => ?_
  obtain ⟨_, _, e3, z⟩ := hc P LL g H H' _ ds _ d Q s.loc x vl e fun v2 H2 x2 w2 => q v2 H2 (x.trans x2) w2
  cases e3
  exact z
/-- a test by a value -/
def tOf (s : Ev) : List D → Option Bool := fun ρ => do match (← s ρ) with | .bl b => some b | _ => none
theorem et_cmp {a b : Expr} {sa sb : Ev} {ma mb : Md} {op : CmpOp} {r : R2} {f : List D → Option D} {md : Md → Md} (ho : OpR X (compareOp op) r) (hc : CP X (r2 r) f md) (ha : EX X LL Γ a sa ma) (hb : EX X LL Γ b sb mb)
    (hm : behindInMarks op b = false) (hf : ∀ m, md m = .flat := by intro _; rfl) : ET X LL Γ (.Compare a [op] [b] pos) (tOf (eP f (aCons sa (aCons sb aNil)))) := by
  obtain ⟨ta, tb, pa, pb, k⟩ := two ha hb
  refine ⟨_, pt_cmpR ho pa pb hm, fun P g ρ σ H c Q s e q => ?_⟩
  obtain ⟨d, e0, e⟩ := bind_some e
  obtain ⟨ds, e1, e0⟩ := bind_some e0
  refine k P g ρ σ H ds _ s e1 fun d1 d2 v w H' _ x va vb vl => ?_
  obtain ⟨_, _, e3, z⟩ := hc P LL g H H' _ ds _ d (fun x H' => ∃ k, x = .bl k ∧ Q k H') s.loc x vl e0 fun v2 H2 x2 w2 => by
    rw [hf] at w2
    cases d with
    | bl b' =>
      cases e
      have w2 : Rep _ _ _ _ _ := w2
      simp only [Rep] at w2
      exact ⟨_, w2.1, q H2 (x.trans x2)⟩
    | _ => cases e
  cases e3
  exact z
theorem et_val {a : Expr} {sa : Ev} (ha : EX X LL Γ a sa .flat) (he : ∀ whole, isTrue a X.env whole = (do let v ← whole; standAt a.pos; holding [v] (truthy v)) := by intro _; rfl) : ET X LL Γ a (tOf sa) := by
  obtain ⟨t, p, k⟩ := ha
  refine ⟨_, pt_val p he, fun P g ρ σ H b Q s e q => ?_⟩
  obtain ⟨d, e0, e⟩ := bind_some e
  refine k P g ρ σ H d _ s e0 fun v H' x vl => ?_
  cases d with
  | bl b' =>
    cases e
    have w2 : Rep _ _ _ _ _ := vl
    simp only [Rep] at w2
    exact ⟨_, w2.1, q H' x⟩
  | _ => cases e
theorem et_w {a : Expr} {s : List D → Option Bool} (h : EW X LL Γ a s) : ET X LL Γ a s := let ⟨t, p, k⟩ := h; ⟨t, p.pt, k⟩
def wAnd (a b : List D → Option Bool) : List D → Option Bool := fun ρ => do if (← a ρ) then b ρ else some false
def wOr (a b : List D → Option Bool) : List D → Option Bool := fun ρ => do if (← a ρ) then some true else b ρ
def wNot (a : List D → Option Bool) : List D → Option Bool := fun ρ => do some (!(← a ρ))
theorem ew_and1 {a : Expr} {s : List D → Option Bool} (h : ET X LL Γ a s) : EW X LL Γ (.BoolOp .And [a] pos) s := let ⟨t, p, k⟩ := h; ⟨t, pw_and1 p, k⟩
theorem ew_or1 {a : Expr} {s : List D → Option Bool} (h : ET X LL Γ a s) : EW X LL Γ (.BoolOp .Or [a] pos) s := let ⟨t, p, k⟩ := h; ⟨t, pw_or1 p, k⟩
theorem ew_and {a b : Expr} {rest : List Expr} {s u : List D → Option Bool} (h : ET X LL Γ a s) (h' : EW X LL Γ (.BoolOp .And (b :: rest) pos) u) : EW X LL Γ (.BoolOp .And (a :: b :: rest) pos) (wAnd s u) := by
  obtain ⟨t, p, k⟩ := h
  obtain ⟨t', p', k'⟩ := h'
  refine ⟨_, pw_and p p', fun P g ρ σ H c Q st e q => ?_⟩
  obtain ⟨d, e0, e⟩ := bind_some e
  refine k P g ρ σ H d _ st e0 fun H' x => ?_
  cases d with
  | true => exact iteT (k' P g ρ σ H' c Q (st.ext x) (by simpa using e) fun H2 x2 => q H2 (x.trans x2))
  | false => exact iteF (by cases (by simpa using e : false = c); exact q H' x)
theorem ew_or {a b : Expr} {rest : List Expr} {s u : List D → Option Bool} (h : ET X LL Γ a s) (h' : EW X LL Γ (.BoolOp .Or (b :: rest) pos) u) : EW X LL Γ (.BoolOp .Or (a :: b :: rest) pos) (wOr s u) := by
  obtain ⟨t, p, k⟩ := h
  obtain ⟨t', p', k'⟩ := h'
  refine ⟨_, pw_or p p', fun P g ρ σ H c Q st e q => ?_⟩
  obtain ⟨d, e0, e⟩ := bind_some e
  refine k P g ρ σ H d _ st e0 fun H' x => ?_
  cases d with
  | false => exact iteF (k' P g ρ σ H' c Q (st.ext x) (by simpa using e) fun H2 x2 => q H2 (x.trans x2))
  | true => exact iteT (by cases (by simpa using e : true = c); exact q H' x)
theorem et_not {a : Expr} {s : List D → Option Bool} (h : ET X LL Γ a s) : ET X LL Γ (.UnaryOp .Not a pos) (wNot s) := by
  obtain ⟨t, p, k⟩ := h
  refine ⟨_, pt_not p, fun P g ρ σ H c Q st e q => ?_⟩
  obtain ⟨d, e0, e⟩ := bind_some e
  refine k P g ρ σ H d _ st e0 fun H' x => ?_
  cases e
  exact q H' x
def eIf (c : List D → Option Bool) (a b : Ev) : Ev := fun ρ => do if (← c ρ) then a ρ else b ρ
theorem ex_if {c a b : Expr} {sc : List D → Option Bool} {sa sb : Ev} {m : Md} (hc : ET X LL Γ c sc) (ha : EX X LL Γ a sa m) (hb : EX X LL Γ b sb m) : EX X LL Γ (.IfExp c a b pos) (eIf sc sa sb) m := by
  obtain ⟨t, p, k⟩ := hc
  obtain ⟨ta, pa, ka⟩ := ha
  obtain ⟨tb, pb, kb⟩ := hb
  refine ⟨_, pe_ifExp p pa pb, fun P g ρ σ H d Q st e q => ?_⟩
  obtain ⟨c', e0, e⟩ := bind_some e
  refine k P g ρ σ H c' _ st e0 fun H' x => ?_
  cases c' with
  | true => exact iteT (ka P g ρ σ H' d Q (st.ext x) (by simpa using e) fun v H2 x2 w => q v H2 (x.trans x2) (w.back x))
  | false => exact iteF (kb P g ρ σ H' d Q (st.ext x) (by simpa using e) fun v H2 x2 w => q v H2 (x.trans x2) (w.back x))
/-- bools as values -/
def eB (s : List D → Option Bool) : Ev := fun ρ => do some (.bl (← s ρ))

/-- calls of built-ins -/
theorem ex_callB {x : Str} {id : String} {p : Pos} {e : Expr} {es : List Expr} {r : List V → Hp → VK → Prop} {f : List D → Option D} {md : Md → Md} {sem : List D → Option (List D)} {m : Md} (hr : CallR X (.builtin id) r) (hc : CP X r f md)
    (hg : Gl X x) (hm : X.mg x = none) (hv : bootBuiltins x = some (.builtin id)) (ha : EA X LL Γ (e :: es) sem m) (hn : x ≠ "__name__" := by decide) (hdb : (x == ("__debug__" : Str)) = false := by decide)
    (he : starEach (e :: es) X.env = (false, eval e X.env) :: starEach es X.env := by rfl) (hpl : (backTo pos (starEach es X.env)).any (·.1) = false := by rfl) : EX X LL Γ (.Call (.Name x p) (e :: es) [] pos) (eP f sem) (md m) := by
  obtain ⟨_, t, pt, k⟩ := ha
  refine ⟨_, pe_callB hr hg hm hv pt hn hdb he hpl, fun P g ρ σ H d Q s e q => ?_⟩
  obtain ⟨ds, e1, e⟩ := bind_some e
  exact k P g ρ σ H ds _ s e1 fun vs H' x vl => hc P LL g H H' _ ds vs d Q s.loc x vl e fun v2 H2 x2 w2 => q v2 H2 (x.trans x2) w2
theorem ex_callTy {x : Str} {T : String} {p : Pos} {e : Expr} {es : List Expr} {r : List V → Hp → VK → Prop} {f : List D → Option D} {md : Md → Md} {sem : List D → Option (List D)} {m : Md} (hr : CallR X (.type T) r) (hc : CP X r f md)
    (hg : Gl X x) (hm : X.mg x = none) (hv : bootBuiltins x = some (.type T)) (ha : EA X LL Γ (e :: es) sem m) (hn : x ≠ "__name__" := by decide) (hdb : (x == ("__debug__" : Str)) = false := by decide)
    (he : starEach (e :: es) X.env = (false, eval e X.env) :: starEach es X.env := by rfl) (hpl : (backTo pos (starEach es X.env)).any (·.1) = false := by rfl) : EX X LL Γ (.Call (.Name x p) (e :: es) [] pos) (eP f sem) (md m) := by
  obtain ⟨_, t, pt, k⟩ := ha
  refine ⟨_, pe_callTy hr hg hm hv pt hn hdb he hpl, fun P g ρ σ H d Q s e q => ?_⟩
  obtain ⟨ds, e1, e⟩ := bind_some e
  exact k P g ρ σ H ds _ s e1 fun vs H' x vl => hc P LL g H H' _ ds vs d Q s.loc x vl e fun v2 H2 x2 w2 => q v2 H2 (x.trans x2) w2
end
end VV

/-! ## VPrim -/
namespace VV
open PySem PySem.Spec PyProof.Rows L2

theorem ValL.rep {mg : Mg} {P : Fm} {g : Addr → Nat} {H H' : Hp} {m : Md} {ds : List D} {vs : List V} (h : ValL mg P g H H' m ds vs) : ∃ fp, RepL mg H' ds vs fp := let ⟨fp, r, _⟩ := h; ⟨fp, r⟩
theorem repL1 {mg : Mg} {H : Hp} {d : D} {vs : List V} {fp : List Addr} (h : RepL mg H [d] vs fp) : ∃ v, vs = [v] ∧ Rep mg H d v fp := by
  simp only [RepL] at h
  obtain ⟨v, r, f1, f2, rfl, h1, ⟨rfl, rfl⟩, rfl⟩ := h
  exact ⟨v, rfl, by simpa using h1⟩
theorem repL2 {mg : Mg} {H : Hp} {d e : D} {vs : List V} {fp : List Addr} (h : RepL mg H [d, e] vs fp) : ∃ v w f1 f2, vs = [v, w] ∧ Rep mg H d v f1 ∧ Rep mg H e w f2 ∧ fp = f1 ++ f2 := by
  simp only [RepL] at h
  obtain ⟨v, r, f1, f2, rfl, h1, ⟨w, r', g1, g2, rfl, h2, ⟨rfl, rfl⟩, rfl⟩, rfl⟩ := h
  exact ⟨v, w, f1, g1, rfl, h1, by simpa using h2, by simp⟩
theorem rInt {mg : Mg} {H : Hp} {i : Int} {v : V} {fp : List Addr} (h : Rep mg H (.int i) v fp) : v = .int i := by simp only [Rep] at h; exact h.1
theorem rStr {mg : Mg} {H : Hp} {i : Str} {v : V} {fp : List Addr} (h : Rep mg H (.str i) v fp) : v = .str i := by simp only [Rep] at h; exact h.1
theorem rBl {mg : Mg} {H : Hp} {i : Bool} {v : V} {fp : List Addr} (h : Rep mg H (.bl i) v fp) : v = .bl i := by simp only [Rep] at h; exact h.1
theorem rNon {mg : Mg} {H : Hp} {v : V} {fp : List Addr} (h : Rep mg H .non v fp) : v = .non := by simp only [Rep] at h; exact h.1

/-! ### ints -/
def dII (C : Int → Int → Prop) [DecidableRel C] (f : Int → Int → Int) : List D → Option D
  | [.int a, .int b] => if C a b then some (.int (f a b)) else none
  | _ => none
def dI2 (f : Int → Int → Int) : List D → Option D
  | [.int a, .int b] => some (.int (f a b))
  | _ => none
def dB2 (f : Int → Int → Bool) : List D → Option D
  | [.int a, .int b] => some (.bl (f a b))
  | _ => none
def dI1 (f : Int → Int) : List D → Option D
  | [.int a] => some (.int (f a))
  | _ => none
theorem dII_inv {C : Int → Int → Prop} [DecidableRel C] {f : Int → Int → Int} {ds : List D} {d : D} (h : dII C f ds = some d) : ∃ a b, ds = [.int a, .int b] ∧ C a b ∧ d = .int (f a b) := by
  unfold dII at h
  split at h
  · split at h
    · cases h; exact ⟨_, _, rfl, by assumption, rfl⟩
    · cases h
  · cases h
theorem dI2_inv {f : Int → Int → Int} {ds : List D} {d : D} (h : dI2 f ds = some d) : ∃ a b, ds = [.int a, .int b] ∧ d = .int (f a b) := by
  unfold dI2 at h
  split at h
  · cases h; exact ⟨_, _, rfl, rfl⟩
  · cases h
theorem dB2_inv {f : Int → Int → Bool} {ds : List D} {d : D} (h : dB2 f ds = some d) : ∃ a b, ds = [.int a, .int b] ∧ d = .bl (f a b) := by
  unfold dB2 at h
  split at h
  · cases h; exact ⟨_, _, rfl, rfl⟩
  · cases h
theorem dI1_inv {f : Int → Int} {ds : List D} {d : D} (h : dI1 f ds = some d) : ∃ a, ds = [.int a] ∧ d = .int (f a) := by
  unfold dI1 at h
  split at h
  · cases h; exact ⟨_, rfl, rfl⟩
  · cases h
section
variable {X : Cx}
theorem cp_ii {C : Int → Int → Prop} [DecidableRel C] {f : Int → Int → Int} : CP X (r2 (rI C fun i j => .int (f i j))) (dII C f) toFlat := by
  intro P LL g H H1 m ds vs d Q l x vl e q
  obtain ⟨a, b, rfl, hc, rfl⟩ := dII_inv e
  obtain ⟨fp, r⟩ := vl.rep
  obtain ⟨v, w, f1, f2, rfl, h1, h2, _⟩ := repL2 r
  exact ⟨v, w, rfl, a, b, rInt h1, rInt h2, hc, q _ H1 Ext.refl (val_flat rep_int)⟩
theorem cp_i2 {f : Int → Int → Int} : CP X (r2 (rI0 fun i j => .int (f i j))) (dI2 f) toFlat := by
  intro P LL g H H1 m ds vs d Q l x vl e q
  obtain ⟨a, b, rfl, rfl⟩ := dI2_inv e
  obtain ⟨fp, r⟩ := vl.rep
  obtain ⟨v, w, f1, f2, rfl, h1, h2, _⟩ := repL2 r
  exact ⟨v, w, rfl, a, b, rInt h1, rInt h2, q _ H1 Ext.refl (val_flat rep_int)⟩
theorem cp_b2 {f : Int → Int → Bool} : CP X (r2 (rI0 fun i j => .bl (f i j))) (dB2 f) toFlat := by
  intro P LL g H H1 m ds vs d Q l x vl e q
  obtain ⟨a, b, rfl, rfl⟩ := dB2_inv e
  obtain ⟨fp, r⟩ := vl.rep
  obtain ⟨v, w, f1, f2, rfl, h1, h2, _⟩ := repL2 r
  exact ⟨v, w, rfl, a, b, rInt h1, rInt h2, q _ H1 Ext.refl (val_flat rep_bl)⟩
theorem cp_u {f : Int → Int} : CP X (r1 (rU fun i => .int (f i))) (dI1 f) toFlat := by
  intro P LL g H H1 m ds vs d Q l x vl e q
  obtain ⟨a, rfl, rfl⟩ := dI1_inv e
  obtain ⟨fp, r⟩ := vl.rep
  obtain ⟨v, rfl, h1⟩ := repL1 r
  exact ⟨v, rfl, a, rInt h1, q _ H1 Ext.refl (val_flat rep_int)⟩
end
instance : DecidableRel CDivW := fun _ _ => inferInstanceAs (Decidable (_ ∧ _))
instance : DecidableRel CMulX := fun i j => decidable_of_iff (Builtin.Int.intBits i + Builtin.Int.intBits j ≤ 134217728) (by unfold CMulX; omega)
instance : DecidableRel CPow := fun _ _ => inferInstanceAs (Decidable (_ ∧ _ ∧ _))
def CPos (_ j : Int) : Prop := 0 < j
instance : DecidableRel CPos := fun _ j => inferInstanceAs (Decidable (0 < j))
abbrev dAdd := dI2 fun i j => i + j
abbrev dSub := dI2 fun i j => i - j
abbrev dMul := dII CMulX fun i j => i * j
abbrev dDiv := dII CDivW fun i j => i / j
abbrev dMod := dII CPos fun i j => i % j
abbrev dPow := dII CPow fun i j => i ^ j.toNat
abbrev dNeg := dI1 fun i => -i
abbrev dLt := dB2 fun i j => decide (i < j)
abbrev dLe := dB2 fun i j => decide (i ≤ j)
abbrev dGt := dB2 fun i j => decide (j < i)
abbrev dGe := dB2 fun i j => decide (j ≤ i)
section
variable {X : Cx} {LL : List Nat} {Γ : List Kd} {pos : Pos} {a b : Expr} {sa sb : Ev} {ma mb : Md}
theorem ex_add (ha : EX X LL Γ a sa ma) (hb : EX X LL Γ b sb mb) : EX X LL Γ (.BinOp a .Add b pos) (eP dAdd (aCons sa (aCons sb aNil))) .flat := ex_bin op_add cp_i2 ha hb
theorem ex_sub (ha : EX X LL Γ a sa ma) (hb : EX X LL Γ b sb mb) : EX X LL Γ (.BinOp a .Sub b pos) (eP dSub (aCons sa (aCons sb aNil))) .flat := ex_bin op_sub cp_i2 ha hb
theorem ex_mul (ha : EX X LL Γ a sa ma) (hb : EX X LL Γ b sb mb) : EX X LL Γ (.BinOp a .Mult b pos) (eP dMul (aCons sa (aCons sb aNil))) .flat := ex_bin op_mulX cp_ii ha hb
theorem ex_div (ha : EX X LL Γ a sa ma) (hb : EX X LL Γ b sb mb) : EX X LL Γ (.BinOp a .FloorDiv b pos) (eP dDiv (aCons sa (aCons sb aNil))) .flat := ex_bin op_fdivW cp_ii ha hb
theorem ex_mod (ha : EX X LL Γ a sa ma) (hb : EX X LL Γ b sb mb) : EX X LL Γ (.BinOp a .Mod b pos) (eP dMod (aCons sa (aCons sb aNil))) .flat := ex_bin (op_mod (X := X)) (cp_ii (C := CPos)) ha hb
theorem ex_pow (ha : EX X LL Γ a sa ma) (hb : EX X LL Γ b sb mb) : EX X LL Γ (.BinOp a .Pow b pos) (eP dPow (aCons sa (aCons sb aNil))) .flat := ex_bin op_pow cp_ii ha hb
theorem ex_neg (ha : EX X LL Γ a sa ma) : EX X LL Γ (.UnaryOp .USub a pos) (eP dNeg (aCons sa aNil)) .flat := ex_un un_neg cp_u ha
theorem et_lt (ha : EX X LL Γ a sa ma) (hb : EX X LL Γ b sb mb) : ET X LL Γ (.Compare a [.Lt] [b] pos) (tOf (eP dLt (aCons sa (aCons sb aNil)))) := et_cmp op_lt cp_b2 ha hb (nomark _)
theorem et_le (ha : EX X LL Γ a sa ma) (hb : EX X LL Γ b sb mb) : ET X LL Γ (.Compare a [.LtE] [b] pos) (tOf (eP dLe (aCons sa (aCons sb aNil)))) := et_cmp op_le cp_b2 ha hb (nomark _)
theorem et_gt (ha : EX X LL Γ a sa ma) (hb : EX X LL Γ b sb mb) : ET X LL Γ (.Compare a [.Gt] [b] pos) (tOf (eP dGt (aCons sa (aCons sb aNil)))) := et_cmp op_gt cp_b2 ha hb (nomark _)
theorem et_ge (ha : EX X LL Γ a sa ma) (hb : EX X LL Γ b sb mb) : ET X LL Γ (.Compare a [.GtE] [b] pos) (tOf (eP dGe (aCons sa (aCons sb aNil)))) := et_cmp op_ge cp_b2 ha hb (nomark _)
theorem ex_lt (ha : EX X LL Γ a sa ma) (hb : EX X LL Γ b sb mb) : EX X LL Γ (.Compare a [.Lt] [b] pos) (eP dLt (aCons sa (aCons sb aNil))) .flat := ex_cmp op_lt cp_b2 ha hb (nomark _)
theorem ex_le (ha : EX X LL Γ a sa ma) (hb : EX X LL Γ b sb mb) : EX X LL Γ (.Compare a [.LtE] [b] pos) (eP dLe (aCons sa (aCons sb aNil))) .flat := ex_cmp op_le cp_b2 ha hb (nomark _)
theorem ex_gt (ha : EX X LL Γ a sa ma) (hb : EX X LL Γ b sb mb) : EX X LL Γ (.Compare a [.Gt] [b] pos) (eP dGt (aCons sa (aCons sb aNil))) .flat := ex_cmp op_gt cp_b2 ha hb (nomark _)
theorem ex_ge (ha : EX X LL Γ a sa ma) (hb : EX X LL Γ b sb mb) : EX X LL Γ (.Compare a [.GtE] [b] pos) (eP dGe (aCons sa (aCons sb aNil))) .flat := ex_cmp op_ge cp_b2 ha hb (nomark _)
end
end VV

/-! ## VSeq -/
namespace VV
open PySem PySem.Spec PyProof.Rows L2

mutual
def D.isFlat : D → Bool
  | .tup l => D.isFlatL l
  | .lst _ => false
  | .dic _ _ _ => false
  | .obj _ _ _ => false
  | _ => true
def D.isFlatL : List D → Bool
  | [] => true
  | d :: r => d.isFlat && D.isFlatL r
end
mutual
theorem Rep.flat {mg : Mg} {H : Hp} : ∀ {d : D} {v : V} {fp : List Addr}, Rep mg H d v fp → d.isFlat = true → fp = []
  | .non, _, _, h, _ => by simp only [Rep] at h; exact h.2
  | .bl _, _, _, h, _ => by simp only [Rep] at h; exact h.2
  | .int _, _, _, h, _ => by simp only [Rep] at h; exact h.2
  | .str _, _, _, h, _ => by simp only [Rep] at h; exact h.2
  | .fn _, _, _, h, _ => by simp only [Rep] at h; exact h.2
  | .tup l, _, _, h, f => by
    simp only [Rep] at h
    obtain ⟨a, vs, rfl, _, h2⟩ := h
    exact RepL.flat h2 (by simpa only [D.isFlat] using f)
  | .lst _, _, _, _, f => by simp [D.isFlat] at f
  | .scr _, _, _, h, _ => by simp only [Rep] at h; obtain ⟨_, _, _, _, _, e⟩ := h; exact e
  | .dic _ _ _, _, _, _, f => by simp [D.isFlat] at f
  | .obj _ _ _, _, _, _, f => by simp [D.isFlat] at f
theorem RepL.flat {mg : Mg} {H : Hp} : ∀ {ds : List D} {vs : List V} {fp : List Addr}, RepL mg H ds vs fp → D.isFlatL ds = true → fp = []
  | [], _, _, h, _ => by simp only [RepL] at h; exact h.2
  | d :: ds, _, _, h, f => by
    simp only [RepL] at h
    obtain ⟨v, r, f1, f2, rfl, h1, h2, rfl⟩ := h
    simp only [D.isFlatL, Bool.and_eq_true] at f
    rw [Rep.flat h1 f.1, RepL.flat h2 f.2]
    rfl
end
theorem isFlatL_all (l : List D) : D.isFlatL l = l.all D.isFlat := by
  induction l with
  | nil => rfl
  | cons d r ih => simp only [D.isFlatL, List.all_cons, ih]

/-! ### what is known of a result by a look at its tree -/
def eChk (p : D → Bool) (s : Ev) : Ev := fun ρ => (s ρ).filter p
def D.isLst : D → Bool
  | .lst _ => true
  | _ => false
def D.isTup : D → Bool
  | .tup _ => true
  | _ => false
def D.isStr : D → Bool
  | .str _ => true
  | _ => false
def D.kidsFlat : D → Bool
  | .lst l => D.isFlatL l
  | .dic _ _ l => D.isFlatL l
  | _ => false
section
variable {X : Cx} {LL : List Nat} {Γ : List Kd} {pos : Pos} {e : Expr} {s : Ev}
theorem ex_flat {m : Md} (h : EX X LL Γ e s m) : EX X LL Γ e (eChk D.isFlat s) .flat := by
  obtain ⟨t, p, k⟩ := h
  refine ⟨t, p, fun P g ρ σ H d Q st hs q => ?_⟩
  obtain ⟨h1, h2⟩ := Option.filter_eq_some_iff.mp hs
  refine k P g ρ σ H d Q st h1 fun v H' x w => q v H' x ?_
  cases m with
  | flat => exact w
  | al fr rt L nd =>
    obtain ⟨fp, r, _⟩ := w
    rw [r.flat h2] at r
    exact r
def Md.isNew : Md → Bool
  | .al _ .new _ _ => true
  | _ => false
theorem ex_kids {m : Md} (h : EX X LL Γ e s m) (hm : m.isNew = true := by rfl) : EX X LL Γ e (eChk D.kidsFlat s) (.al false .new [] true) := by
  obtain ⟨fr, L, nd, rfl⟩ : ∃ fr L nd, m = .al fr .new L nd := by
    cases m with
    | flat => cases hm
    | al fr rt L nd =>
      cases rt with
      | new => exact ⟨fr, L, nd, rfl⟩
      | old n => cases hm
      | unk => cases hm
  obtain ⟨t, p, k⟩ := h
  refine ⟨t, p, fun P g ρ σ H d Q st hs q => ?_⟩
  obtain ⟨h1, h2⟩ := Option.filter_eq_some_iff.mp hs
  refine k P g ρ σ H d Q st h1 fun v H' x w => q v H' x ?_
  obtain ⟨fp, r, o⟩ := w
  have key : ∀ a, v = .ref a → fp = [a] → Val X.vm P g H H' (.al false .new [] true) d v := by
    intro a e1 e2
    subst e1; subst e2
    refine ⟨[a], r, fun b hb => ?_, .of (by simp)⟩
    obtain rfl := List.mem_singleton.mp hb
    rcases o.1 b hb with z | ⟨z | z, _⟩
    · exact .inl z
    · exact absurd rfl z
    · cases z
  cases d with
  | lst l =>
    have r0 := r
    simp only [Rep] at r0
    obtain ⟨a, vs, f, rfl, _, r2, rfl⟩ := r0
    exact key a rfl (by rw [r2.flat h2])
  | dic tk ks l =>
    have r0 := r
    simp only [Rep] at r0
    obtain ⟨a, vs, f, rfl, _, r2, rfl⟩ := r0
    exact key a rfl (by rw [r2.flat h2])
  | _ => cases h2
end

/-! ### len, items -/
def dLen : List D → Option D
  | [.lst l] => some (.int l.length)
  | [.scr l] => some (.int l.length)
  | [.tup l] => some (.int l.length)
  | [.str s] => if s.length ≤ sizeLine then some (.int s.length) else none
  | _ => none
def dIdx : List D → Option D
  | [.lst l, .int i] => atI l i
  | [.scr l, .int i] => atI l i
  | [.tup l, .int i] => atI l i
  | [.str s, .int i] => if s.length ≤ sizeLine then (atI s.cps.toList i).map fun c => .str ⟨#[c]⟩ else none
  | _ => none
def Md.child : Md → Md
  | .flat => .flat
  | .al fr rt L nd => if nd then .al fr .unk L true else (Md.al fr rt L nd).unroot
section
variable {X : Cx}
theorem cp_len : CP X (fun xs H Q => ∃ x n, xs = [x] ∧ LenV X.K x H n ∧ Q (.int n) H) dLen toFlat := by
  intro P LL g H H1 m ds vs d Q l x vl e q
  obtain ⟨fp, r⟩ := vl.rep
  unfold dLen at e
  split at e
  · cases e
    obtain ⟨v, rfl, h⟩ := repL1 r
    simp only [Rep] at h
    obtain ⟨a, vs, f, rfl, ha, h2, rfl⟩ := h
    exact ⟨_, _, rfl, .inl ⟨vs, SqL.of ha, rfl⟩, by rw [h2.length]; exact q _ H1 Ext.refl (val_flat rep_int)⟩
  · cases e
    obtain ⟨v, rfl, h⟩ := repL1 r
    simp only [Rep] at h
    obtain ⟨a, vs, rfl, ha, h2, rfl⟩ := h
    exact ⟨_, _, rfl, .inl ⟨vs, ha.sq, rfl⟩, by rw [h2.length]; exact q _ H1 Ext.refl (val_flat rep_int)⟩
  · cases e
    obtain ⟨v, rfl, h⟩ := repL1 r
    simp only [Rep] at h
    obtain ⟨a, vs, rfl, ha, h2⟩ := h
    exact ⟨_, _, rfl, .inr ⟨vs, .inl (.inl ha), rfl⟩, by rw [h2.length]; exact q _ H1 Ext.refl (val_flat rep_int)⟩
  · split at e
    · cases e
      obtain ⟨v, rfl, h⟩ := repL1 r
      obtain rfl := rStr h
      exact ⟨_, _, rfl, ⟨by assumption, rfl⟩, q _ H1 Ext.refl (val_flat rep_int)⟩
    · cases e
  · cases e
theorem ixN_lt {n : Nat} {i : Int} {j : Nat} (h : ixN n i = some j) : j < n := (ixN_seq h).2.1
theorem val_child {mg : Mg} {P : Fm} {g : Addr → Nat} {H H1 : Hp} {m : Md} {d0 : D} {v0 : V} {d : D} {v : V} (h : Val mg P g H H1 m d0 v0)
    (he : ∀ fp, Rep mg H1 d0 v0 fp → ∃ f1 f f2, Rep mg H1 d v f ∧ ((∃ a, v0 = .ref a ∧ fp = a :: (f1 ++ f ++ f2)) ∨ (fp = f1 ++ f ++ f2 ∧ ∀ a, v0 = .ref a → a ∉ fp))) : Val mg P g H H1 m.child d v := by
  cases m with
  | flat =>
    obtain ⟨f1, f, f2, r, ⟨a, _, e⟩ | ⟨e, _⟩⟩ := he [] h
    · cases e
    · have : f = [] := by
        have := congrArg List.length e
        simp at this
        exact List.eq_nil_of_length_eq_zero (by omega)
      subst this
      exact r
  | al fr rt L nd =>
    obtain ⟨fp, r, o⟩ := h
    obtain ⟨f1, f, f2, rf, hh⟩ := he fp r
    have hs : ∀ a ∈ f, a ∈ fp := fun a ha => by
      rcases hh with ⟨b, _, rfl⟩ | ⟨rfl, _⟩
      · exact List.mem_cons_of_mem _ (List.mem_append_left _ (List.mem_append_right _ ha))
      · exact List.mem_append_left _ (List.mem_append_right _ ha)
    have hn : nd = true → f.Nodup := fun h => by
      have n := o.2.1 h
      rcases hh with ⟨b, _, rfl⟩ | ⟨rfl, _⟩
      · have n := (List.nodup_cons.mp n).2
        exact (List.nodup_append.mp (List.nodup_append.mp n).1).2.1
      · exact (List.nodup_append.mp (List.nodup_append.mp n).1).2.1
    cases nd with
    | true =>
      refine ⟨f, rf, fun a ha => ?_, .unk fun h => hn rfl⟩
      rcases o.1 a (hs a ha) with ⟨e, y⟩ | ⟨_, y⟩
      · exfalso
        rcases hh with ⟨b, e2, rfl⟩ | ⟨_, z⟩
        · rw [e2] at e; cases e
          exact (List.nodup_cons.mp (o.2.1 rfl)).1 (List.mem_append_left _ (List.mem_append_right _ ha))
        · exact z a e (hs a ha)
      · exact .inr ⟨.inr rfl, y⟩
    | false =>
      have q := o.unroot
      show Val mg P g H H1 (Md.al fr rt L false).unroot d v
      cases rt <;> exact ⟨f, rf, fun a ha => .inr ⟨.inr rfl, q.1 a (hs a ha)⟩, .unk fun h => nomatch h⟩
theorem rd_tup {H : Hp} {a : Addr} {xs : List V} (r : Rd H a (.tup xs)) {u : HO} (q : Rd H a u) (h : ∀ o, u ≠ .frz o (.tup xs)) (h' : ∀ ys, u ≠ .tup ys) (h2 : ∀ o w, u ≠ .frz o w) : False := by
  rcases r with r | ⟨o, r⟩ <;> rcases q with q | ⟨o', q⟩ <;> rw [r] at q <;> cases q
  · exact h' _ rfl
  · exact h2 _ _ rfl
  · exact h' _ rfl
mutual
/-- the footprint does not have tuples -/
theorem Rep.notup {mg : Mg} {H : Hp} : ∀ {d : D} {v : V} {fp : List Addr}, Rep mg H d v fp → ∀ {a : Addr} {xs : List V}, Rd H a (.tup xs) → a ∉ fp
  | .non, _, _, h, _, _, _ => by simp only [Rep] at h; rw [h.2]; simp
  | .bl _, _, _, h, _, _, _ => by simp only [Rep] at h; rw [h.2]; simp
  | .int _, _, _, h, _, _, _ => by simp only [Rep] at h; rw [h.2]; simp
  | .str _, _, _, h, _, _, _ => by simp only [Rep] at h; rw [h.2]; simp
  | .fn _, _, _, h, _, _, _ => by simp only [Rep] at h; rw [h.2]; simp
  | .tup ds, _, _, h, _, _, r => by
    simp only [Rep] at h
    obtain ⟨_, vs, rfl, _, h2⟩ := h
    exact RepL.notup h2 r
  | .lst ds, _, _, h, _, _, r => by
    simp only [Rep] at h
    obtain ⟨b, vs, f, rfl, e, h2, rfl⟩ := h
    intro hm
    rcases List.mem_cons.mp hm with rfl | hm
    · exact rd_tup r (.inl e) (fun _ z => nomatch z) (fun _ z => nomatch z) (fun _ _ z => nomatch z)
    · exact RepL.notup h2 r hm
  | .scr ds, _, _, h, a, _, r => by
    simp only [Rep] at h
    obtain ⟨b, vs, rfl, e, h2, rfl⟩ := h
    simp
  | .dic tk ks ds, _, _, h, _, _, r => by
    simp only [Rep] at h
    obtain ⟨b, vs, f, rfl, ⟨_, e⟩, h2, rfl⟩ := h
    intro hm
    rcases List.mem_cons.mp hm with rfl | hm
    · cases tk <;> obtain ⟨_, _, e⟩ := e
      · exact rd_tup r e (fun _ z => nomatch z) (fun _ z => nomatch z) (fun _ _ z => nomatch z)
      · exact rd_tup r e (fun _ z => nomatch z) (fun _ z => nomatch z) (fun _ _ z => nomatch z)
    · exact RepL.notup h2 r hm
  | .obj c ns ds, _, _, h, _, _, r => by
    simp only [Rep] at h
    obtain ⟨b, C, dx, vs, f, rfl, _, _, e, h2, rfl⟩ := h
    intro hm
    rcases List.mem_cons.mp hm with rfl | hm
    · exact rd_tup r e (fun _ z => nomatch z) (fun _ z => nomatch z) (fun _ _ z => nomatch z)
    · exact RepL.notup h2 r hm
theorem RepL.notup {mg : Mg} {H : Hp} : ∀ {ds : List D} {vs : List V} {fp : List Addr}, RepL mg H ds vs fp → ∀ {a : Addr} {xs : List V}, Rd H a (.tup xs) → a ∉ fp
  | [], _, _, h, _, _, _ => by simp only [RepL] at h; rw [h.2]; simp
  | d :: ds, _, _, h, _, _, r => by
    simp only [RepL] at h
    obtain ⟨v, r', f1, f2, rfl, h1, h2, rfl⟩ := h
    intro hm
    rcases List.mem_append.mp hm with hm | hm
    · exact Rep.notup h1 r hm
    · exact RepL.notup h2 r hm
end
theorem dIdx_child {mg : Mg} {P : Fm} {g : Addr → Nat} {H H1 : Hp} {K : PySem.W.Frag} {m : Md} {d0 d : D} {i : Int} {v0 : V} {Q : VK} (hK : mg.K = K) (h : Val mg P g H H1 m d0 v0) (e : dIdx [d0, .int i] = some d)
    (q : ∀ v, Val mg P g H H1 m.child d v → Q v H1) : rIx K v0 (.int i) H1 Q := by
  have get : ∀ (l : List D) (us : List V) (f : List Addr), atI l i = some d → RepL mg H1 l us f → ∃ z g1 g2 g3, atI us i = some z ∧ Rep mg H1 d z g2 ∧ f = g1 ++ g2 ++ g3 := fun l us f e r => by
    unfold atI at e
    obtain ⟨j, e1, e2⟩ := bind_some e
    obtain ⟨z, g1, g2, g3, e3, rz, rfl⟩ := r.get e2
    exact ⟨z, g1, g2, g3, by unfold atI; rw [r.length, e1]; exact e3, rz, rfl⟩
  have some_fp : ∃ fp, Rep mg H1 d0 v0 fp := let ⟨fp, r, _⟩ := h.unroot; ⟨fp, r⟩
  obtain ⟨fp0, r0⟩ := some_fp
  cases d0 with
  | lst l =>
    have e : atI l i = some d := e
    simp only [Rep] at r0
    obtain ⟨a, us, f, rfl, ha, h3, rfl⟩ := r0
    obtain ⟨z, g1, g2, g3, e3, rz, rfl⟩ := get l us _ e h3
    refine .inl ⟨a, us, _, z, rfl, rfl, SqL.of ha, e3, q _ (val_child h fun fp r => ?_)⟩
    simp only [Rep] at r
    obtain ⟨b, us', f', eb, hb, h3', rfl⟩ := r
    cases eb
    rw [ha] at hb; cases hb
    obtain ⟨z', k1, k2, k3, e3', rz', rfl⟩ := get l us _ e h3'
    rw [e3] at e3'; cases e3'
    exact ⟨k1, k2, k3, rz', .inl ⟨a, rfl, rfl⟩⟩
  | scr l =>
    have e : atI l i = some d := e
    simp only [Rep] at r0
    obtain ⟨a, us, rfl, ha, h3, rfl⟩ := r0
    obtain ⟨z, g1, g2, g3, e3, rz, e4⟩ := get l us _ e h3
    have e5 : g2 = [] := by
      have := congrArg List.length e4
      simp at this
      exact List.eq_nil_of_length_eq_zero (by omega)
    subst e5
    refine .inl ⟨a, us, _, z, rfl, rfl, hK ▸ ha.sq, e3, q _ (val_child h fun fp r => ?_)⟩
    simp only [Rep] at r
    obtain ⟨b, us', eb, hb, h3', rfl⟩ := r
    exact ⟨[], [], [], rz, .inr ⟨rfl, fun a' ea => nofun⟩⟩
  | tup l =>
    have e : atI l i = some d := e
    simp only [Rep] at r0
    obtain ⟨a, us, rfl, ha, h3⟩ := r0
    obtain ⟨z, g1, g2, g3, e3, rz, rfl⟩ := get l us _ e h3
    refine .inr (.inl ⟨a, us, _, z, rfl, rfl, .inl (.inl ha), e3, q _ (val_child h fun fp r => ?_)⟩)
    have r1 := r
    simp only [Rep] at r
    obtain ⟨b, us', eb, hb, h3'⟩ := r
    cases eb
    have eus : us' = us := by
      rw [ha] at hb; cases hb; rfl
    subst eus
    obtain ⟨z', k1, k2, k3, e3', rz', rfl⟩ := get l us' _ e h3'
    rw [e3] at e3'; cases e3'
    exact ⟨k1, k2, k3, rz', .inr ⟨rfl, fun a' ea => by cases ea; exact r1.notup (.inl ha)⟩⟩
  | str s =>
    unfold dIdx at e
    simp only at e
    split at e
    · obtain ⟨c, e1, rfl⟩ := Option.map_eq_some_iff.mp e
      obtain rfl := rStr r0
      refine .inr (.inr ⟨_, _, c, rfl, rfl, by assumption, e1, q _ (val_child h fun fp r => ?_)⟩)
      simp only [Rep] at r
      exact ⟨[], [], [], rep_str, .inr ⟨r.2, fun a' ea => nomatch ea⟩⟩
    · cases e
  | _ => cases e
end
section
variable {X : Cx} {LL : List Nat} {Γ : List Kd} {pos : Pos} {a b : Expr} {sa sb : Ev} {ma mb : Md}
theorem dIdx_int {d0 x d : D} (e : dIdx [d0, x] = some d) : ∃ i, x = .int i := by
  unfold dIdx at e
  split at e <;> first | (rename_i h; cases h; exact ⟨_, rfl⟩) | cases e
theorem ex_idx (ha : EX X LL Γ a sa ma) (hb : EX X LL Γ b sb mb) (hs : PlainIx b := by exact fun _ _ => rfl) : EX X LL Γ (.Subscript a b pos) (eP dIdx (aCons sa (aCons sb aNil))) ma.child := by
  obtain ⟨ta, tb, pa, pb, k⟩ := two ha hb
  refine ⟨_, pe_ix ix_seq pa pb hs, fun P g ρ σ H d Q s e q => ?_⟩
  obtain ⟨ds, e1, e⟩ := bind_some e
  refine k P g ρ σ H ds _ s e1 fun d1 d2 v w H' eds x va vb vl => ?_
  subst eds
  obtain ⟨i, rfl⟩ := dIdx_int e
  obtain ⟨fp, rw', _⟩ := vb.unroot
  obtain rfl := rInt rw'
  exact dIdx_child rfl va e fun v2 w2 => q v2 H' x w2
/-- the item is flat -/
theorem ex_idxF (ha : EX X LL Γ a sa ma) (hb : EX X LL Γ b sb mb) (hs : PlainIx b := by exact fun _ _ => rfl) : EX X LL Γ (.Subscript a b pos) (eChk D.isFlat (eP dIdx (aCons sa (aCons sb aNil)))) .flat := ex_flat (ex_idx ha hb hs)
end
end VV

/-! ## VEq -/
namespace VV
open PySem PySem.Spec PyProof.Rows L2
mutual
def D.toP : D → PyData
  | .non => .none
  | .bl b => .bool b
  | .int i => .int i
  | .str s => .str s
  | .tup l => .tuple (D.toPL l)
  | .lst l => .list (D.toPL l)
  | .scr l => .list (D.toPL l)
  | _ => .dict []
def D.toPL : List D → List PyData
  | [] => []
  | d :: r => d.toP :: D.toPL r
end
mutual
theorem Rep.dp {mg : Mg} {H : Hp} : ∀ {d : D} {v : V} {fp : List Addr}, Rep mg H d v fp → d.toP.canLay0 = true → Dp mg.K H v d.toP
  | .non, _, _, h, _ => by simp only [Rep] at h; rw [h.1]; exact .non
  | .bl b, _, _, h, _ => by simp only [Rep] at h; rw [h.1]; exact .bl b
  | .int i, _, _, h, _ => by simp only [Rep] at h; rw [h.1]; exact .int i
  | .str s, _, _, h, _ => by simp only [Rep] at h; rw [h.1]; exact .str s
  | .tup l, _, _, h, c => by
    simp only [Rep] at h
    obtain ⟨a, vs, rfl, r, h2⟩ := h
    simp only [D.toP, PyData.canLay0] at c ⊢
    exact .tup (.inl (.inl r)) (RepL.dp h2 c)
  | .lst l, _, _, h, c => by
    simp only [Rep] at h
    obtain ⟨a, vs, f, rfl, r, h2, _⟩ := h
    simp only [D.toP, PyData.canLay0] at c ⊢
    exact .lst (SqL.of r) (RepL.dp h2 c)
  | .scr l, _, _, h, c => by
    simp only [Rep] at h
    obtain ⟨a, vs, rfl, r, h2, _⟩ := h
    simp only [D.toP, PyData.canLay0] at c ⊢
    exact .lst r.sq (RepL.dp h2 c)
  | .dic _ _ _, _, _, _, c => by simp [D.toP, PyData.canLay0] at c
  | .obj _ _ _, _, _, _, c => by simp [D.toP, PyData.canLay0] at c
  | .fn _, _, _, _, c => by simp [D.toP, PyData.canLay0] at c
theorem RepL.dp {mg : Mg} {H : Hp} : ∀ {ds : List D} {vs : List V} {fp : List Addr}, RepL mg H ds vs fp → PyData.canLayAll0 (D.toPL ds) = true → DpAll mg.K H vs (D.toPL ds)
  | [], _, _, h, _ => by simp only [RepL] at h; rw [h.1]; exact .nil
  | d :: ds, _, _, h, c => by
    simp only [RepL] at h
    obtain ⟨v, r, f1, f2, rfl, h1, h2, _⟩ := h
    simp only [D.toPL, PyData.canLayAll0, Bool.and_eq_true] at c ⊢
    exact .cons (Rep.dp h1 c.1) (RepL.dp h2 c.2)
end
def D.eqv (a b : D) : Bool := PyData.eqv a.toP b.toP
def D.shd (a : D) : Bool := SeqAt.shaped a.toP
def dEq : List D → Option D
  | [a, b] => if a.shd && b.shd then some (.bl (a.eqv b)) else none
  | _ => none
def dNe : List D → Option D
  | [a, b] => if a.shd && b.shd then some (.bl (!a.eqv b)) else none
  | _ => none
section
variable {X : Cx}
theorem cp_eq : CP X (r2 (rEqD X.K)) dEq toFlat := by
  intro P LL g H H1 m ds vs d Q l x vl e q
  obtain ⟨fp, r⟩ := vl.rep
  unfold dEq at e
  split at e
  · split at e
    · cases e
      rename_i h
      rw [Bool.and_eq_true] at h
      obtain ⟨v, w, f1, f2, rfl, h1, h2, _⟩ := repL2 r
      exact ⟨v, w, rfl, _, _, h1.dp (SeqAt.canLay_of_shaped h.1), h2.dp (SeqAt.canLay_of_shaped h.2), h.1, h.2, q _ H1 Ext.refl (val_flat rep_bl)⟩
    · cases e
  · cases e
theorem cp_ne : CP X (r2 (rNeD X.K)) dNe toFlat := by
  intro P LL g H H1 m ds vs d Q l x vl e q
  obtain ⟨fp, r⟩ := vl.rep
  unfold dNe at e
  split at e
  · split at e
    · cases e
      rename_i h
      rw [Bool.and_eq_true] at h
      obtain ⟨v, w, f1, f2, rfl, h1, h2, _⟩ := repL2 r
      exact ⟨v, w, rfl, _, _, h1.dp (SeqAt.canLay_of_shaped h.1), h2.dp (SeqAt.canLay_of_shaped h.2), h.1, h.2, q _ H1 Ext.refl (val_flat rep_bl)⟩
    · cases e
  · cases e
def D.isNon : D → Bool
  | .non => true
  | _ => false
def dIsN : List D → Option D
  | [d, .non] => some (.bl d.isNon)
  | _ => none
def dNotN : List D → Option D
  | [d, .non] => some (.bl (!d.isNon))
  | _ => none
theorem rep_non_iff {mg : Mg} {H : Hp} {d : D} {v : V} {fp : List Addr} (h : Rep mg H d v fp) : decide (v = .non) = d.isNon := by
  cases d <;> simp only [Rep] at h
  case non => rw [h.1]; rfl
  case bl => rw [h.1]; rfl
  case int => rw [h.1]; rfl
  case str => rw [h.1]; rfl
  case fn => obtain ⟨⟨a, rfl, _⟩, _⟩ := h; rfl
  case tup => obtain ⟨a, _, rfl, _⟩ := h; rfl
  case lst => obtain ⟨a, _, _, rfl, _⟩ := h; rfl
  case scr => obtain ⟨a, _, rfl, _⟩ := h; rfl
  case dic => obtain ⟨a, _, _, rfl, _⟩ := h; rfl
  case obj => obtain ⟨a, _, _, _, _, rfl, _⟩ := h; rfl
theorem cp_isN : CP X (r2 (fun x y H Q => y = .non ∧ Q (.bl (decide (x = .non))) H)) dIsN toFlat := by
  intro P LL g H H1 m ds vs d Q l x vl e q
  obtain ⟨fp, r⟩ := vl.rep
  unfold dIsN at e
  split at e
  · obtain ⟨v, w, f1, f2, rfl, h1, h2, _⟩ := repL2 r
    refine ⟨v, w, rfl, rNon h2, ?_⟩
    rw [rep_non_iff h1]
    cases e
    exact q _ H1 Ext.refl (val_flat rep_bl)
  · cases e
theorem cp_notN : CP X (r2 (fun x y H Q => y = .non ∧ Q (.bl (!decide (x = .non))) H)) dNotN toFlat := by
  intro P LL g H H1 m ds vs d Q l x vl e q
  obtain ⟨fp, r⟩ := vl.rep
  unfold dNotN at e
  split at e
  · obtain ⟨v, w, f1, f2, rfl, h1, h2, _⟩ := repL2 r
    refine ⟨v, w, rfl, rNon h2, ?_⟩
    rw [rep_non_iff h1]
    cases e
    exact q _ H1 Ext.refl (val_flat rep_bl)
  · cases e
end
section
variable {X : Cx} {LL : List Nat} {Γ : List Kd} {pos : Pos} {a b : Expr} {sa sb : Ev} {ma mb : Md}
theorem ex_eq (hu : X.A.units + 64 < cLine) (ha : EX X LL Γ a sa ma) (hb : EX X LL Γ b sb mb) : EX X LL Γ (.Compare a [.Eq] [b] pos) (eP dEq (aCons sa (aCons sb aNil))) .flat := ex_cmp (op_eqD hu) cp_eq ha hb (nomark _)
theorem ex_ne (hu : X.A.units + 64 < cLine) (ha : EX X LL Γ a sa ma) (hb : EX X LL Γ b sb mb) : EX X LL Γ (.Compare a [.NotEq] [b] pos) (eP dNe (aCons sa (aCons sb aNil))) .flat := ex_cmp (op_neD hu) cp_ne ha hb (nomark _)
theorem et_eq (hu : X.A.units + 64 < cLine) (ha : EX X LL Γ a sa ma) (hb : EX X LL Γ b sb mb) : ET X LL Γ (.Compare a [.Eq] [b] pos) (tOf (eP dEq (aCons sa (aCons sb aNil)))) := et_cmp (op_eqD hu) cp_eq ha hb (nomark _)
theorem et_ne (hu : X.A.units + 64 < cLine) (ha : EX X LL Γ a sa ma) (hb : EX X LL Γ b sb mb) : ET X LL Γ (.Compare a [.NotEq] [b] pos) (tOf (eP dNe (aCons sa (aCons sb aNil)))) := et_cmp (op_neD hu) cp_ne ha hb (nomark _)
theorem et_isN (ha : EX X LL Γ a sa ma) (hb : EX X LL Γ b sb mb) : ET X LL Γ (.Compare a [.Is] [b] pos) (tOf (eP dIsN (aCons sa (aCons sb aNil)))) := et_cmp op_isN cp_isN ha hb (nomark _)
theorem et_notN (ha : EX X LL Γ a sa ma) (hb : EX X LL Γ b sb mb) : ET X LL Γ (.Compare a [.IsNot] [b] pos) (tOf (eP dNotN (aCons sa (aCons sb aNil)))) := et_cmp op_notN cp_notN ha hb (nomark _)
end
end VV

/-! ## VStmt -/
namespace VV
open PySem PySem.Spec PyProof.Rows L2

inductive Out where
  | nx (ρ : List D) | ct (ρ : List D) | rt (d : D) | ex (c : Str) (ρ : List D)
/-- what a def hands back -/
inductive Rm where
  | flat | fresh | out
  deriving DecidableEq
inductive Res where
  | ret (d : D) | exn (c : Str)

structure Step (LL : List Nat) (g : Addr → Nat) (H : Hp) (g' : Addr → Nat) (H' : Hp) : Prop where
  kp : ∀ a, lk LL (g a) → ∀ u, H a = some u → H' a = some u
  lk : ∀ a, H a ≠ none → lk LL (g a) → g' a = g a
  th : ∀ a, H a ≠ none → H' a ≠ none
theorem Step.refl {LL : List Nat} {g : Addr → Nat} {H : Hp} : Step LL g H g H := ⟨fun _ _ _ h => h, fun _ _ _ => rfl, fun _ h => h⟩
theorem Step.trans {LL : List Nat} {g g1 g2 : Addr → Nat} {H H1 H2 : Hp} (a : Step LL g H g1 H1) (b : Step LL g1 H1 g2 H2) : Step LL g H g2 H2 where
  kp c h u e := b.kp c (by rw [a.lk c (by rw [e]; simp) h]; exact h) u (a.kp c h u e)
  lk c e h := (b.lk c (a.th c e) (by rw [a.lk c e h]; exact h)).trans (a.lk c e h)
  th c e := b.th c (a.th c e)
theorem Step.ext {LL : List Nat} {g : Addr → Nat} {H H' : Hp} (e : Ext H H') : Step LL g H g H' := ⟨fun a _ u h => e a u h, fun _ _ _ => rfl, fun a h z => h (e.nope z)⟩

def RV (mg : Mg) (P : Fm) (g : Addr → Nat) (H : Hp) : Rm → D → V → Prop
  | .flat, d, v => Rep mg H d v []
  | .fresh, d, v => ∃ fp, Rep mg H d v fp ∧ fp.Nodup ∧ ∀ a ∈ fp, g a ≠ 0
  | .out, d, v => ∃ fp, Rep mg H d v fp ∧ ∀ a ∈ fp, g a ≠ 0 ∨ P.out a

/-- what is fixed through a def's body: the locked labels, what it returns, what stands at a continue and at an exception -/
structure Sc where
  LL : List Nat
  R : Rm
  Γc : List Kd
  Γx : List Kd

def WantS (X : Cx) (W : L2.WX) (sc : Sc) (P : Fm) (Γ' : List Kd) (g : Addr → Nat) (H : Hp) (D : Ends) : Out → Prop
  | .nx ρ' => ∀ g' σ' H', Step sc.LL g H g' H' → Sta X.vm P sc.LL Γ' g' ρ' σ' H' → D.nx σ' H'
  | .ct ρ' => ∀ g' σ' H', Step sc.LL g H g' H' → Sta X.vm P sc.LL sc.Γc g' ρ' σ' H' → D.ct σ' H'
  | .rt d => ∀ v g' H', Step sc.LL g H g' H' → Loc P sc.LL g' H' → RV X.vm P g' H' sc.R d v → D.rt v H'
  | .ex c ρ' => ∀ C g' σ' H', X.mg c = some (.ref C) → Step sc.LL g H g' H' → Sta X.vm P sc.LL sc.Γx g' ρ' σ' H' → W (.ref C) none σ' H'

abbrev Sv := List D → Option Out
def SX (X : Cx) (W : L2.WX) (sc : Sc) (Γ : List Kd) (st : Stmt) (sem : Sv) (Γ' : List Kd) : Prop :=
  ∃ t, PS X st t ∧ ∀ P g ρ σ H o D, Sta X.vm P sc.LL Γ g ρ σ H → sem ρ = some o → WantS X W sc P Γ' g H D o → t D σ H
def SS (X : Cx) (W : L2.WX) (sc : Sc) (Γ : List Kd) (st : List Stmt) (sem : Sv) (Γ' : List Kd) : Prop :=
  ∃ t, PSs X st t ∧ ∀ P g ρ σ H o D, Sta X.vm P sc.LL Γ g ρ σ H → sem ρ = some o → WantS X W sc P Γ' g H D o → t D σ H

def sNil : Sv := fun ρ => some (.nx ρ)
def sSeq (a b : Sv) : Sv := fun ρ => match a ρ with
  | some (.nx ρ') => b ρ'
  | o => o
def sPass : Sv := fun ρ => some (.nx ρ)
def sCont : Sv := fun ρ => some (.ct ρ)
def sRet (e : Ev) : Sv := fun ρ => do some (.rt (← e ρ))
def sSet (i : Nat) (e : Ev) : Sv := fun ρ => do some (.nx (ρ.set i (← e ρ)))
def sIf (c : List D → Option Bool) (a b : Sv) : Sv := fun ρ => do if (← c ρ) then a ρ else b ρ
def sNever : Sv := fun _ => none

theorem WantS.from {X : Cx} {W : L2.WX} {sc : Sc} {P : Fm} {Γ' : List Kd} {g g1 : Addr → Nat} {H H1 : Hp} {D : Ends} {o : Out} (h : WantS X W sc P Γ' g H D o) (s : Step sc.LL g H g1 H1) : WantS X W sc P Γ' g1 H1 D o := by
  cases o with
  | nx ρ' => exact fun g' σ' H' s' st => h g' σ' H' (s.trans s') st
  | ct ρ' => exact fun g' σ' H' s' st => h g' σ' H' (s.trans s') st
  | rt d => exact fun v g' H' s' l r => h v g' H' (s.trans s') l r
  | ex c ρ' => exact fun C g' σ' H' m s' st => h C g' σ' H' m (s.trans s') st

section
variable {X : Cx} {W : L2.WX} {sc : Sc} {Γ Γ' Γ1 : List Kd} {pos : Pos}
theorem ss_nil : SS X W sc Γ [] sNil Γ := ⟨_, pss_nil, fun P g ρ σ H o D s e w => by cases e; exact w g σ H .refl s⟩
theorem ss_cons {st : Stmt} {rest : List Stmt} {a b : Sv} (h : SX X W sc Γ st a Γ1) (h' : SS X W sc Γ1 rest b Γ') : SS X W sc Γ (st :: rest) (sSeq a b) Γ' := by
  obtain ⟨t, p, k⟩ := h
  obtain ⟨u, p', k'⟩ := h'
  refine ⟨_, pss_cons p p', fun P g ρ σ H o D s e w => ?_⟩
  unfold sSeq at e
  cases ea : a ρ with
  | none => rw [ea] at e; cases e
  | some o1 =>
    rw [ea] at e
    cases o1 with
    | nx ρ' => exact k P g ρ σ H _ { D with nx := u D } s ea fun g' σ' H' s' st => k' P g' ρ' σ' H' o D st e (w.from s')
    | ct ρ' => cases e; exact k P g ρ σ H _ { D with nx := u D } s ea w
    | rt d => cases e; exact k P g ρ σ H _ { D with nx := u D } s ea w
    | ex c ρ' => cases e; exact k P g ρ σ H _ { D with nx := u D } s ea w
theorem ss_one {st : Stmt} {a : Sv} (h : SX X W sc Γ st a Γ') : SS X W sc Γ [st] a Γ' := by
  obtain ⟨t, p, k⟩ := h
  exact ⟨_, pss_one p, k⟩
theorem sx_pass : SX X W sc Γ (.Pass pos) sPass Γ := ⟨_, ps_pass, fun P g ρ σ H o D s e w => by cases e; exact w g σ H .refl s⟩
theorem sx_cont (h : sc.Γc = Γ) : SX X W sc Γ (.Continue pos) sCont Γ' := ⟨_, ps_continue, fun P g ρ σ H o D s e w => by cases e; exact w g σ H .refl (by rw [h]; exact s)⟩
theorem sx_never {st : Stmt} : SX X W sc Γ st sNever Γ' := ⟨_, ps_never, fun P g ρ σ H o D s e w => by cases e⟩
theorem sx_doc {x j pos'} : SX X W sc Γ (.Expr (.Constant (.str x) j pos) pos') sPass Γ := ⟨_, ps_doc, fun P g ρ σ H o D s e w => by cases e; exact w g σ H .refl s⟩

/-! ### labels for what is new -/
open Classical in
noncomputable def relab (g : Addr → Nat) (H H' : Hp) (v : V) (n m : Nat) : Addr → Nat := fun a => if New H H' a then (if v = .ref a then n else m) else g a
theorem relab_new {g : Addr → Nat} {H H' : Hp} {v : V} {n m : Nat} {a : Addr} (h : New H H' a) : relab g H H' v n m a = if v = .ref a then n else m := by
  unfold relab; rw [if_pos h]
theorem relab_old {g : Addr → Nat} {H H' : Hp} {v : V} {n m : Nat} {a : Addr} (h : H a ≠ none) : relab g H H' v n m a = g a := by
  unfold relab; rw [if_neg fun z => h z.1]
section
variable {mg : Mg} {P : Fm} {LL : List Nat} {g : Addr → Nat} {ρ : List D} {σ : L2.St} {H H' : Hp} {v : V} {n m : Nat}
theorem Old.relab {L : List Nat} {a : Addr} (o : Old P g L a) (l : Loc P LL g H) : Old P (relab g H H' v n m) L a := by
  unfold Old
  rw [relab_old (o.there l)]
  exact o
theorem Loc.relab (l : Loc P LL g H) (e : Ext H H') : Loc P LL (relab g H H' v n m) H' := by
  refine ⟨fun a h => ?_, (l.ext e).out, fun a h => ?_⟩
  rotate_left
  · have := l.fz a h
    obtain ⟨⟨o, u, q⟩, this2⟩ := this
    exact ⟨⟨o, u, e a _ q⟩, by rw [relab_old (by rw [q]; simp)]; exact this2⟩
  by_cases hn : New H H' a
  · obtain ⟨h1, h2⟩ := hn
    cases q : H' a with
    | none => rw [q] at h2; exact h2.elim
    | some o => rw [q] at h2; exact ⟨o, rfl, .inl h2⟩
  · by_cases h0 : H a = none
    · unfold VV.relab at h
      rw [if_neg hn] at h
      obtain ⟨o, e1, _⟩ := l.at_ a h
      rw [h0] at e1; cases e1
    · rw [relab_old h0] at h
      exact (l.ext e).at_ a h
theorem CellOk.relab {k : Kd} {d : D} {ov : Option V} (c : CellOk mg P g H k d ov) (l : Loc P LL g H) (e : Ext H H') : CellOk mg P (relab g H H' v n m) H' k d ov := by
  cases k with
  | dead => trivial
  | exc _ _ => exact c
  | flat => obtain ⟨v, rfl, r⟩ := c; exact ⟨v, rfl, r.ext e⟩
  | lab rt L nd =>
    obtain ⟨w, fp, rfl, r, o, z⟩ := c
    refine ⟨w, fp, rfl, r.ext e, fun a ha => ?_, z⟩
    rcases o a ha with ⟨x, k, y, o'⟩ | ⟨x, o'⟩
    · exact .inl ⟨x, k, y, o'.relab l⟩
    · exact .inr ⟨x, o'.relab l⟩
theorem Cells.relab (l : Loc P LL g H) (e : Ext H H') : ∀ {Γ : List Kd} {ρ : List D} {σ : L2.St}, Cells mg P g H Γ ρ σ → Cells mg P (relab g H H' v n m) H' Γ ρ σ
  | [], [], [], _ => trivial
  | _ :: _, _ :: _, _ :: _, h => ⟨h.1.relab l e, Cells.relab l e h.2⟩
  | [], _ :: _, _, h => h.elim
  | [], [], _ :: _, h => h.elim
  | _ :: _, [], _, h => h.elim
  | _ :: _, _ :: _, [], h => h.elim
theorem Sta.relab {Γ : List Kd} (s : Sta mg P LL Γ g ρ σ H) (e : Ext H H') : Sta mg P LL Γ (relab g H H' v n m) ρ σ H' := ⟨s.loc.relab e, s.cells.relab s.loc e⟩
theorem Step.relab (e : Ext H H') : Step LL g H (relab g H H' v n m) H' := ⟨fun a _ u h => e a u h, fun a h x => relab_old h, fun a h z => h (e.nope z)⟩
end
/-- the kind of a slot that holds a result -/
def Md.kind (n m : Nat) : Md → Kd
  | .flat => .flat
  | .al fr rt L nd => .lab (match rt with | .new => some n | .old k => some k | .unk => none) (if fr then (match rt with | .unk => n :: m :: L | _ => m :: L) else L) nd
theorem Val.cell {mg : Mg} {P : Fm} {LL : List Nat} {g : Addr → Nat} {H H' : Hp} {m : Md} {d : D} {v : V} {n k : Nat} (h : Val mg P g H H' m d v) (l : Loc P LL g H) (h1 : n ≠ 0) (h2 : k ≠ 0) :
    CellOk mg P (relab g H H' v n k) H' (m.kind n k) d (some v) := by
  cases m with
  | flat => exact ⟨v, rfl, h⟩
  | al fr rt L nd =>
    obtain ⟨fp, r, o, z⟩ := h
    refine ⟨v, fp, rfl, r, fun a ha => ?_, by cases rt <;> exact z⟩
    have newOld : ∀ {K : List Nat}, New H H' a → (v = .ref a → n ∈ K) → (v ≠ .ref a → k ∈ K) → Old P (relab g H H' v n k) K a := fun {K} hn a1 a2 => by
      unfold Old
      rw [relab_new hn]
      split
      · rename_i e; exact ⟨a1 e, fun z => absurd z h1⟩
      · rename_i e; exact ⟨a2 e, fun z => absurd z h2⟩
    rcases o a ha with ⟨e, y⟩ | ⟨e, ⟨f, y⟩ | y⟩
    · cases rt with
      | new => exact .inl ⟨e, n, rfl, newOld y (fun _ => List.mem_cons_self) fun z => absurd e z⟩
      | old q => exact .inl ⟨e, q, rfl, Old.relab y l⟩
      | unk => exact y.elim
    · subst f
      refine .inr ⟨?_, ?_⟩
      · rcases e with e | rfl
        · exact .inl e
        · exact .inr rfl
      · cases rt with
        | new => exact newOld y (fun z => by rcases e with e | e; exact absurd z e; cases e) fun _ => List.mem_cons_self
        | old q => exact newOld y (fun z => by rcases e with e | e; exact absurd z e; cases e) fun _ => List.mem_cons_self
        | unk => exact newOld y (fun _ => List.mem_cons_self) fun _ => List.mem_cons_of_mem _ List.mem_cons_self
    · refine .inr ⟨?_, ?_⟩
      · rcases e with e | rfl
        · exact .inl e
        · exact .inr rfl
      · have y' : Old P (relab g H H' v n k) L a := Old.relab y l
        refine ⟨?_, y'.2⟩
        cases fr with
        | false => exact y'.1
        | true =>
          cases rt with
          | new => exact List.mem_cons_of_mem _ y'.1
          | old q => exact List.mem_cons_of_mem _ y'.1
          | unk => exact List.mem_cons_of_mem _ (List.mem_cons_of_mem _ y'.1)
theorem Cells.set {mg : Mg} {P : Fm} {g : Addr → Nat} {H : Hp} {k : Kd} {d : D} {v : V} : ∀ {Γ : List Kd} {ρ : List D} {σ : L2.St} (i : Nat), Cells mg P g H Γ ρ σ → CellOk mg P g H k d (some v) → Cells mg P g H (Γ.set i k) (ρ.set i d) (σ.set i (some v))
  | [], [], [], _, _, _ => trivial
  | _ :: _, _ :: _, _ :: _, 0, h, c => ⟨c, h.2⟩
  | _ :: _, _ :: _, _ :: _, i + 1, h, c => ⟨h.1, Cells.set i h.2 c⟩
  | [], _ :: _, _, _, h, _ => h.elim
  | [], [], _ :: _, _, h, _ => h.elim
  | _ :: _, [], _, _, h, _ => h.elim
  | _ :: _, _ :: _, [], _, h, _ => h.elim

theorem sx_set {i : Nat} {x : Str} {e : Expr} {se : Ev} {m : Md} {pos' : Pos} (n k : Nat) (hN : X.N.Nodup) (hi : X.N[i]? = some x) (hx : L2.Loc X.env.scope x) (he : EX X sc.LL Γ e se m)
    (hs : swapsWith e (some (.Name x pos')) pos.line X.env = pure false := by rfl) (hf : X.fn x = true ∨ X.env.scope.names.lookup x = some .local := by first | exact .inl rfl | exact .inr rfl | assumption)
    (h1 : n ≠ 0 := by decide) (h2 : k ≠ 0 := by decide) : SX X W sc Γ (.Assign [.Name x pos'] e pos) (sSet i se) (Γ.set i (m.kind n k)) := by
  obtain ⟨t, p, kk⟩ := he
  refine ⟨_, ps_set hN hi hx p hs hf, fun P g ρ σ H o D s e w => ?_⟩
  obtain ⟨d, e1, e⟩ := bind_some e
  cases e
  refine kk P g ρ σ H d _ s e1 fun v H' x vl => ?_
  exact w (relab g H H' v n k) _ H' (.relab x) ⟨s.loc.relab x, Cells.set i (s.cells.relab s.loc x) (vl.cell s.loc h1 h2)⟩

theorem wipe_get (σ : L2.St) (j : Nat) : ∀ vs : List Nat, (wipe σ vs)[j]? = if j ∈ vs then σ[j]?.map (fun _ => none) else σ[j]?
  | [] => by simp [wipe]
  | v :: vs => by
    unfold wipe
    rw [List.getElem?_set, wipe_length, wipe_get σ j vs]
    by_cases e : v = j
    · subst e
      simp only [if_true, List.mem_cons_self]
      by_cases h : v < σ.length
      · simp [h]
      · simp [h]
    · rw [if_neg e]
      have : (j ∈ v :: vs) ↔ j ∈ vs := by simp [Ne.symm e]
      simp only [this]
theorem wipe_set {σ : L2.St} {i : Nat} {x : Option V} {vs : List Nat} (h : i ∈ vs) : wipe (σ.set i x) vs = wipe σ vs := by
  apply List.ext_getElem?
  intro j
  rw [wipe_get, wipe_get, List.getElem?_set]
  by_cases e : i = j
  · subst e
    rw [if_pos h, if_pos h, if_pos rfl]
    by_cases hl : i < σ.length
    · simp [hl]
    · simp [hl]
  · rw [if_neg e]
def Wp (S : List Nat) (σ σ' : L2.St) : Prop := ∀ vs : List Nat, (∀ i ∈ S, i ∈ vs) → wipe σ' vs = wipe σ vs
/-! ### targets -/
abbrev Tv := D → List D → Option (List D)
def EG (X : Cx) (Γ : List Kd) (tg : Expr) (k : Kd) (sem : Tv) (Γ' : List Kd) (S : List Nat) : Prop :=
  ∃ t, PG X tg t ∧ ∀ P LL g ρ σ H d v ρ' (Q : L2.St → Hp → Prop), Sta X.vm P LL Γ g ρ σ H → CellOk X.vm P g H k d (some v) → sem d ρ = some ρ' → (∀ σ', Sta X.vm P LL Γ' g ρ' σ' H → Wp S σ σ' → Q σ' H) → t v σ H Q
def EGs (X : Cx) (Γ : List Kd) (tgs : List Expr) (k : Kd) (sem : List D → List D → Option (List D)) (Γ' : List Kd) (S : List Nat) : Prop :=
  (∀ ds ρ ρ', sem ds ρ = some ρ' → ds.length = tgs.length) ∧ ∃ t, PGs X tgs t ∧ ∀ P LL g ρ σ H (ds : List D) (vs : List V) ρ' (Q : L2.St → Hp → Prop), Sta X.vm P LL Γ g ρ σ H → (∀ (i : Nat) (d : D) (v : V), ds[i]? = some d → vs[i]? = some v → CellOk X.vm P g H k d (some v)) → vs.length = ds.length → sem ds ρ = some ρ' →
    (∀ σ', Sta X.vm P LL Γ' g ρ' σ' H → Wp S σ σ' → Q σ' H) → t vs σ H Q
def gN (i : Nat) : Tv := fun d ρ => some (ρ.set i d)
def gF (t : Tv) : Tv := fun d ρ => if d.isFlat then t d ρ else none
def gT (ts : List D → List D → Option (List D)) : Tv := fun d ρ => match d with
  | .tup l => ts l ρ
  | _ => none
def gsNil : List D → List D → Option (List D) := fun ds ρ => match ds with
  | [] => some ρ
  | _ => none
def gsCons (t : Tv) (ts : List D → List D → Option (List D)) : List D → List D → Option (List D) := fun ds ρ => match ds with
  | d :: r => do ts r (← t d ρ)
  | [] => none
theorem eg_name {i : Nat} {x : Str} {k : Kd} (hN : X.N.Nodup) (hi : X.N[i]? = some x) (hx : L2.Loc X.env.scope x) (hf : X.fn x = true ∨ X.env.scope.names.lookup x = some .local := by first | exact .inl rfl | exact .inr rfl | assumption) : EG X Γ (.Name x pos) k (gN i) (Γ.set i k) [i] :=
  ⟨_, pg_name hN hi hx hf, fun P LL g ρ σ H d v ρ' Q s c e q => by cases e; exact q _ ⟨s.loc, Cells.set i s.cells c⟩ fun vs h => wipe_set (h i List.mem_cons_self)⟩
theorem eg_flat {tg : Expr} {k : Kd} {t : Tv} {S : List Nat} (h : EG X Γ tg .flat t Γ' S) (hk : k.use = true := by decide) : EG X Γ tg k (gF t) Γ' S := by
  obtain ⟨u, p, kk⟩ := h
  refine ⟨u, p, fun P LL g ρ σ H d v ρ' Q s c e q => ?_⟩
  unfold gF at e
  split at e
  · rename_i hfl
    refine kk P LL g ρ σ H d v ρ' Q s ?_ e q
    cases k with
    | dead => cases hk
    | exc _ _ => cases hk
    | flat => exact c
    | lab rt L nd =>
      obtain ⟨w, fp, ew, r, _⟩ := c
      cases ew
      rw [r.flat hfl] at r
      exact ⟨v, rfl, r⟩
  · cases e
def Kd.tupChild : Kd → Kd
  | .lab _ L nd => .lab none L nd
  | k => k
theorem rd_tup_inj {H : Hp} {a : Addr} {xs ys : List V} (r : Rd H a (.tup xs)) (q : Rd H a (.tup ys)) : xs = ys := by
  rcases r with r | ⟨o, r⟩ <;> rcases q with q | ⟨o', q⟩ <;> rw [r] at q <;> cases q <;> rfl
theorem cell_tup {mg : Mg} {P : Fm} {g : Addr → Nat} {H : Hp} {k : Kd} {ds : List D} {v : V} (c : CellOk mg P g H k (.tup ds) (some v)) (hk : k.use = true) :
    ∃ a vs, v = .ref a ∧ H a = some (.tup vs) ∧ vs.length = ds.length ∧ ∀ (i : Nat) (d : D) (w : V), ds[i]? = some d → vs[i]? = some w → CellOk mg P g H k.tupChild d (some w) := by
  cases k with
  | dead => cases hk
  | exc _ _ => cases hk
  | flat =>
    obtain ⟨v', e, r⟩ := c
    cases e
    simp only [Rep] at r
    obtain ⟨a, vs, rfl, r1, r2⟩ := r
    refine ⟨a, vs, rfl, r1, r2.length, fun i d w e1 e2 => ?_⟩
    obtain ⟨w', f1, f, f2, e3, r3, e4⟩ := r2.get e1
    rw [e2] at e3; cases e3
    have : f = [] := by
      have := congrArg List.length e4
      simp at this
      exact List.eq_nil_of_length_eq_zero (by omega)
    subst this
    exact ⟨w, rfl, r3⟩
  | lab rt L nd =>
    obtain ⟨v', fp, e, r, o, z⟩ := c
    cases e
    have r0 := r
    simp only [Rep] at r
    obtain ⟨a, vs, rfl, r1, r2⟩ := r
    refine ⟨a, vs, rfl, r1, r2.length, fun i d w e1 e2 => ?_⟩
    obtain ⟨w', f1, f, f2, e3, r3, rfl⟩ := r2.get e1
    rw [e2] at e3; cases e3
    refine ⟨w, f, rfl, r3, fun b hb => ?_, .unk fun hn => ?_⟩
    · rcases o b (List.mem_append_left _ (List.mem_append_right _ hb)) with ⟨x, _⟩ | ⟨_, x⟩
      · cases x
        exact absurd (List.mem_append_left _ (List.mem_append_right _ hb)) (r0.notup (.inl r1))
      · exact .inr ⟨.inr rfl, x⟩
    · exact (List.nodup_append.mp (List.nodup_append.mp (z.1 hn)).1).2.1
theorem egs_nil {k : Kd} : EGs X Γ [] k gsNil Γ [] := by
  refine ⟨fun ds ρ ρ' e => ?_, _, pgs_nil, fun P LL g ρ σ H ds vs ρ' Q s c hl e q => ?_⟩
  · cases ds with
    | nil => rfl
    | cons => cases e
  · cases ds with
    | nil => cases e; exact ⟨List.eq_nil_of_length_eq_zero hl, q σ s fun _ _ => rfl⟩
    | cons => cases e
theorem egs_cons {tg : Expr} {tgs : List Expr} {k : Kd} {t : Tv} {ts : List D → List D → Option (List D)} {S S' : List Nat} (h : EG X Γ tg k t Γ1 S) (h' : EGs X Γ1 tgs k ts Γ' S')
    (hs : (assignEach (tg :: tgs) X.env).map (·.2) = assign tg X.env :: (assignEach tgs X.env).map (·.2) := by rfl) : EGs X Γ (tg :: tgs) k (gsCons t ts) Γ' (S ++ S') := by
  obtain ⟨u, p, kk⟩ := h
  obtain ⟨hl, u', p', kk'⟩ := h'
  refine ⟨fun ds ρ ρ' e => ?_, _, pgs_cons p p' hs, fun P LL g ρ σ H ds vs ρ' Q s c hlen e q => ?_⟩
  · cases ds with
    | nil => cases e
    | cons d r =>
      obtain ⟨ρ1, e1, e2⟩ := bind_some e
      simp [hl r ρ1 ρ' e2]
  · cases ds with
    | nil => cases e
    | cons d r =>
      obtain ⟨ρ1, e1, e2⟩ := bind_some e
      cases vs with
      | nil => cases hlen
      | cons v vr =>
        refine ⟨v, vr, rfl, kk P LL g ρ σ H d v ρ1 _ s (c 0 d v rfl rfl) e1 fun σ' s' w1 => ?_⟩
        exact kk' P LL g ρ1 σ' H r vr ρ' Q s' (fun i d' v' h1 h2 => c (i + 1) d' v' (by simpa using h1) (by simpa using h2)) (by simpa using hlen) e2 fun σ2 s2 w2 => q σ2 s2 fun vs hv =>
          (w2 vs fun i hi => hv i (List.mem_append_right _ hi)).trans (w1 vs fun i hi => hv i (List.mem_append_left _ hi))
theorem eg_tup {es : List Expr} {c : Nat} {k : Kd} {ts : List D → List D → Option (List D)} {S : List Nat} (hc : X.calm = true) (h : EGs X Γ es k.tupChild ts Γ' S) (hk : k.use = true := by decide)
    (hst : (assignEach es X.env).findIdx? (·.1) = none := by rfl) (hn : (assignEach es X.env).length = es.length := by rfl) : EG X Γ (.Tuple es c pos) k (gT ts) Γ' S := by
  obtain ⟨hl, u, p, kk⟩ := h
  refine ⟨_, pg_tup hc p hn hst, fun P LL g ρ σ H d v ρ' Q s cc e q => ?_⟩
  cases d with
  | tup ds =>
    obtain ⟨a, vs, rfl, r, hlen, hcells⟩ := cell_tup cc hk
    exact ⟨a, vs, rfl, .inl (.inl r), by rw [hlen, hl ds ρ ρ' e], kk P LL g ρ σ H ds vs ρ' Q s hcells hlen e q⟩
  | _ => cases e
def sAsg (t : Tv) (e : Ev) : Sv := fun ρ => do some (.nx (← t (← e ρ) ρ))
theorem sx_asg {tg e : Expr} {se : Ev} {t : Tv} {m : Md} {S : List Nat} (n k : Nat) (he : EX X sc.LL Γ e se m) (hg : EG X Γ tg (m.kind n k) t Γ' S) (hs : swapsWithSole [tg] e pos.line X.env = pure false := by rfl) (hw : swappedStores [tg] e X.env = pure none := by rfl)
    (ha : (assignEach [tg] X.env).map (·.2) = [assign tg X.env] := by rfl) (h1 : n ≠ 0 := by decide) (h2 : k ≠ 0 := by decide) : SX X W sc Γ (.Assign [tg] e pos) (sAsg t se) Γ' := by
  obtain ⟨u, p, kk⟩ := he
  obtain ⟨u', p', kk'⟩ := hg
  refine ⟨_, ps_asg p p' hs hw ha, fun P g ρ σ H o D s e w => ?_⟩
  obtain ⟨d, e1, e⟩ := bind_some e
  obtain ⟨ρ', e2, e⟩ := bind_some e
  cases e
  refine kk P g ρ σ H d _ s e1 fun v H' x vl => ?_
  exact kk' P sc.LL (relab g H H' v n k) ρ σ H' d v ρ' D.nx (s.relab x) (vl.cell s.loc h1 h2) e2 fun σ' s' _ => w _ σ' H' (.relab x) s'
theorem sx_if {c : Expr} {a b : List Stmt} {s : List D → Option Bool} {sa sb : Sv} (hc : ET X sc.LL Γ c s) (ha : SS X W sc Γ a sa Γ') (hb : SS X W sc Γ b sb Γ') : SX X W sc Γ (.If c a b pos) (sIf s sa sb) Γ' := by
  obtain ⟨t, p, k⟩ := hc
  obtain ⟨ta, pa, ka⟩ := ha
  obtain ⟨tb, pb, kb⟩ := hb
  refine ⟨_, ps_if p pa pb, fun P g ρ σ H o D st e w => ?_⟩
  obtain ⟨c', e0, e⟩ := bind_some e
  refine k P g ρ σ H c' _ st e0 fun H' x => ?_
  cases c' with
  | true => exact iteT (ka P g ρ σ H' o D (st.ext x) (by simpa using e) (w.from (.ext x)))
  | false => exact iteF (kb P g ρ σ H' o D (st.ext x) (by simpa using e) (w.from (.ext x)))
/-- a result that may be handed back -/
def Md.ret : Md → Rm → Bool
  | .flat, _ => true
  | .al _ _ _ _, .flat => false
  | .al fr rt L nd, .fresh => nd && !L.contains 0 && (match rt with | .old 0 => false | _ => true)
  | .al _ _ _ _, .out => true
theorem sx_ret {e : Expr} {se : Ev} {m : Md} (he : EX X sc.LL Γ e se m) (hr : m.ret sc.R = true := by rfl) : SX X W sc Γ (.Return (some e) pos) (sRet se) Γ' := by
  obtain ⟨t, p, kk⟩ := he
  refine ⟨_, ps_ret p, fun P g ρ σ H o D s e w => ?_⟩
  obtain ⟨d, e1, e⟩ := bind_some e
  cases e
  refine kk P g ρ σ H d _ s e1 fun v H' x vl => ?_
  refine w v (relab g H H' v 1 1) H' (.relab x) (s.loc.relab x) ?_
  have c := vl.cell (n := 1) (k := 1) s.loc (by decide) (by decide)
  cases m with
  | flat =>
    have r : Rep X.vm H' d v [] := vl
    cases hR : sc.R with
    | flat => exact r
    | fresh => exact ⟨[], r, by simp, fun a ha => nomatch ha⟩
    | out => exact ⟨[], r, fun a ha => nomatch ha⟩
  | al fr rt L nd =>
    obtain ⟨fp, r, o, z⟩ := vl
    have lab : ∀ a ∈ fp, New H H' a ∨ (Old P g L a) ∨ (∃ n, rt = .old n ∧ Old P g [n] a) := fun a ha => by
      rcases o a ha with ⟨e, y⟩ | ⟨_, ⟨_, y⟩ | y⟩
      · cases rt with
        | new => exact .inl y
        | old n => exact .inr (.inr ⟨n, rfl, y⟩)
        | unk => exact y.elim
      · exact .inl y
      · exact .inr (.inl y)
    cases hR : sc.R with
    | flat => rw [hR] at hr; cases hr
    | fresh =>
      rw [hR] at hr
      simp only [Md.ret, Bool.and_eq_true] at hr
      obtain ⟨⟨h1, h2⟩, h3⟩ := hr
      refine ⟨fp, r, z.1 h1, fun a ha => ?_⟩
      rcases lab a ha with y | y | ⟨n, rfl, y⟩
      · rw [relab_new y]; split <;> decide
      · rw [relab_old (y.there s.loc)]
        intro e0
        have := y.1
        rw [e0] at this
        simp [this] at h2
      · rw [relab_old (y.there s.loc)]
        intro e0
        have := y.1
        rw [e0] at this
        rw [← List.mem_singleton.mp this] at h3
        cases h3
    | out =>
      refine ⟨fp, r, fun a ha => ?_⟩
      rcases lab a ha with y | y | ⟨n, rfl, y⟩
      · rw [relab_new y]; exact .inl (by split <;> decide)
      · rw [relab_old (y.there s.loc)]
        by_cases e0 : g a = 0
        · exact .inr (y.2 e0)
        · exact .inl e0
      · rw [relab_old (y.there s.loc)]
        by_cases e0 : g a = 0
        · exact .inr (y.2 e0)
        · exact .inl e0
def sRetN : Sv := fun _ => some (.rt .non)
theorem sx_retN : SX X W sc Γ (.Return none pos) sRetN Γ' := by
  refine ⟨_, ps_retN, fun P g ρ σ H o D s e w => ?_⟩
  cases e
  refine w .non g H .refl s.loc ?_
  have r : Rep X.vm H .non .non [] := rep_non
  cases hR : sc.R with
  | flat => exact r
  | fresh => exact ⟨[], r, by simp, fun a ha => nomatch ha⟩
  | out => exact ⟨[], r, fun a ha => nomatch ha⟩
end
end VV

/-! ## VFun -/
namespace VV
open PySem PySem.Spec PyProof.Rows L2

/-! ### fewer things known -/
def reL (m : List (Nat × Nat)) (n : Nat) : Nat := (m.lookup n).getD n
def Kd.le (m : List (Nat × Nat)) : Kd → Kd → Bool
  | _, .dead => true
  | .flat, .flat => true
  | .flat, .lab _ _ _ => true
  | .lab rt L nd, .lab rt' L' nd' => (match rt' with
      | some n => (match rt with | some k => reL m k == n | none => false) && L.all fun x => L'.contains (reL m x)
      | none => (match rt with | some k => L'.contains (reL m k) | none => true) && L.all fun x => L'.contains (reL m x)) && (!nd' || nd)
  | _, _ => false
def kdsLe (m : List (Nat × Nat)) : List Kd → List Kd → Bool
  | [], [] => true
  | k :: r, k' :: r' => k.le m k' && kdsLe m r r'
  | _, _ => false
def mapOk (LL : List Nat) (m : List (Nat × Nat)) : Bool := m.all fun p => p.1 != 0 && p.2 != 0 && !LL.contains p.1
section
variable {mg : Mg} {P : Fm} {LL : List Nat} {g : Addr → Nat} {ρ : List D} {σ : L2.St} {H : Hp} {m : List (Nat × Nat)}
theorem lookup_mem {α β : Type} [BEq α] [LawfulBEq α] {l : List (α × β)} {a : α} {b : β} (h : l.lookup a = some b) : (a, b) ∈ l := by
  induction l with
  | nil => cases h
  | cons p r ih =>
    obtain ⟨x, y⟩ := p
    rw [List.lookup_cons] at h
    split at h
    · rename_i e
      cases h
      rw [eq_of_beq e]
      exact List.mem_cons_self
    · exact List.mem_cons_of_mem _ (ih h)
theorem reL_ok (h : mapOk LL m = true) (n : Nat) : (reL m n = 0 ↔ n = 0) ∧ (n ∈ LL → reL m n = n) := by
  unfold reL
  cases e : m.lookup n with
  | none => simp
  | some k =>
    have := List.all_eq_true.mp h _ (lookup_mem e)
    simp only [Bool.and_eq_true, bne_iff_ne, ne_eq, Bool.not_eq_true'] at this
    obtain ⟨⟨h1, h2⟩, h3⟩ := this
    simp only [Option.getD_some]
    refine ⟨⟨fun z => absurd z h2, fun z => absurd z h1⟩, fun hm => ?_⟩
    simp at h3
    exact absurd hm h3
theorem Old.re {L L' : List Nat} {a : Addr} (h : mapOk LL m = true) (o : Old P g L a) (hs : L.all (fun x => L'.contains (reL m x)) = true) : Old P (fun a => reL m (g a)) L' a := by
  refine ⟨?_, fun e => o.2 ((reL_ok h _).1.mp e)⟩
  have := List.all_eq_true.mp hs _ o.1
  simpa using this
theorem CellOk.re {k k' : Kd} {d : D} {ov : Option V} (h : mapOk LL m = true) (hk : k.le m k' = true) (c : CellOk mg P g H k d ov) : CellOk mg P (fun a => reL m (g a)) H k' d ov := by
  cases k' with
  | dead => trivial
  | flat =>
    cases k with
    | flat => exact c
    | dead => cases hk
    | exc => cases hk
    | lab => cases hk
  | exc a c => cases k <;> cases hk
  | lab rt' L' nd' =>
    cases k with
    | dead => cases hk
    | exc => cases hk
    | flat =>
      obtain ⟨v, rfl, r⟩ := c
      exact ⟨v, [], rfl, r, (fun a ha => by cases ha), .of List.nodup_nil⟩
    | lab rt L nd =>
      obtain ⟨v, fp, rfl, r, o, z⟩ := c
      simp only [Kd.le, Bool.and_eq_true] at hk
      obtain ⟨hk, hn⟩ := hk
      refine ⟨v, fp, rfl, r, fun a ha => ?_, fun e => z.1 (by subst e; simpa using hn), fun e => z.2 ?_⟩
      rotate_left
      · cases rt' with
        | none => cases e
        | some n =>
          cases rt with
          | none => simp at hk
          | some k => rfl
      cases rt' with
      | some n =>
        cases rt with
        | none => simp at hk
        | some k =>
          simp only [Bool.and_eq_true] at hk
          rcases o a ha with ⟨x, q, e, y⟩ | ⟨x, y⟩
          · cases e
            refine .inl ⟨x, n, rfl, Old.re h y ?_⟩
            simp [eq_of_beq hk.1]
          · refine .inr ⟨?_, Old.re h y hk.2⟩
            rcases x with x | x
            · exact .inl x
            · cases x
      | none =>
        simp only [Bool.and_eq_true] at hk
        rcases o a ha with ⟨x, q, e, y⟩ | ⟨x, y⟩
        · subst e
          refine .inr ⟨.inr rfl, Old.re h y ?_⟩
          have h1 := hk.1
          simp only at h1
          simpa using h1
        · exact .inr ⟨.inr rfl, Old.re h y hk.2⟩
theorem Cells.re (h : mapOk LL m = true) : ∀ {Γ Γ' : List Kd} {ρ : List D} {σ : L2.St}, kdsLe m Γ Γ' = true → Cells mg P g H Γ ρ σ → Cells mg P (fun a => reL m (g a)) H Γ' ρ σ
  | [], [], [], [], _, _ => trivial
  | k :: Γ, k' :: Γ', d :: ρ, v :: σ, hk, c => by
    simp only [kdsLe, Bool.and_eq_true] at hk
    exact ⟨c.1.re h hk.1, Cells.re h hk.2 c.2⟩
  | [], _ :: _, _, _, hk, _ => by cases hk
  | _ :: _, [], _, _, hk, _ => by cases hk
  | [], _, _ :: _, _, _, c => c.elim
  | [], _, [], _ :: _, _, c => c.elim
  | _ :: _, _, [], _, _, c => c.elim
  | _ :: _, _, _ :: _, [], _, c => c.elim
theorem Sta.re {Γ Γ' : List Kd} (h : mapOk LL m = true) (hk : kdsLe m Γ Γ' = true) (s : Sta mg P LL Γ g ρ σ H) : Sta mg P LL Γ' (fun a => reL m (g a)) ρ σ H := by
  refine ⟨⟨fun a ha => ?_, s.loc.out, fun a ha => ?_⟩, s.cells.re h hk⟩
  · exact s.loc.at_ a fun z => ha ((reL_ok h _).1.mpr z)
  · have := s.loc.fz a ha
    refine ⟨this.1, ?_⟩
    rcases this.2 with x | x
    · exact .inl ((reL_ok h _).1.mpr x)
    · right
      show reL m (g a) ∈ LL
      rw [(reL_ok h _).2 x]
      exact x
theorem Step.re (h : mapOk LL m = true) : Step LL g H (fun a => reL m (g a)) H := by
  refine ⟨fun a _ u e => e, fun a _ x => ?_, fun a e => e⟩
  rcases x with x | x
  · show reL m (g a) = g a
    rw [x]
    exact (reL_ok h _).1.mpr rfl
  · exact (reL_ok h _).2 x
end
section
variable {X : Cx} {W : L2.WX} {sc : Sc} {Γ Γ' Γ1 : List Kd} {pos : Pos}
theorem ss_conv {sts : List Stmt} {s : Sv} (m : List (Nat × Nat)) (h : SS X W sc Γ sts s Γ1) (hm : mapOk sc.LL m = true) (hk : kdsLe m Γ1 Γ' = true) : SS X W sc Γ sts s Γ' := by
  obtain ⟨t, p, k⟩ := h
  refine ⟨t, p, fun P g ρ σ H o D st e w => k P g ρ σ H o D st e ?_⟩
  cases o with
  | nx ρ' => exact fun g' σ' H' s' st' => w _ σ' H' (s'.trans (.re hm)) (st'.re hm hk)
  | ct ρ' => exact w
  | rt d => exact w
  | ex c ρ' => exact w
/-- known less ahead -/
theorem ss_pre {sts : List Stmt} {s : Sv} (m : List (Nat × Nat)) (h : SS X W sc Γ1 sts s Γ') (hm : mapOk sc.LL m = true) (hk : kdsLe m Γ Γ1 = true) : SS X W sc Γ sts s Γ' := by
  obtain ⟨t, p, k⟩ := h
  exact ⟨t, p, fun P g ρ σ H o D st e w => k P _ ρ σ H o D (st.re hm hk) e (w.from (.re hm))⟩
end

/-! ### defs -/
def RF (mg : Mg) (H H' : Hp) (fp : List Addr) : Rm → D → V → Prop
  | .flat, d, v => Rep mg H' d v []
  | .fresh, d, v => ∃ f, Rep mg H' d v f ∧ f.Nodup ∧ ∀ a ∈ f, New H H' a
  | .out, d, v => ∃ f, Rep mg H' d v f ∧ ∀ a ∈ f, New H H' a ∨ a ∈ fp
def sp0 (mg : Mg) (sem : List D → Option Res) (n : Nat) (R : Rm) : Sp := fun vs H Q _ => vs.length = n ∧ ∃ ds fp d, RepL mg H ds vs fp ∧ sem ds = some (.ret d) ∧ ∀ v H', Ext H H' → RF mg H H' fp R d v → Q v H'
def pkOk : List Kd → List D → Bool
  | [], [] => true
  | .flat :: r, d :: ds => d.isFlat && pkOk r ds
  | .lab none [0] false :: r, _ :: ds => pkOk r ds
  | _, _ => false
def fnSem (n : Nat) (pk : List Kd) (s : Sv) : List D → Option Res := fun ds => if pkOk pk ds then
    match s (ds ++ List.replicate (n - ds.length) .non) with
    | some (.nx _) => some (.ret .non)
    | some (.rt d) => some (.ret d)
    | some (.ex c _) => some (.exn c)
    | _ => none
  else none
theorem cells_start {mg : Mg} {H : Hp} {F : List Addr} : ∀ {pk : List Kd} {ds : List D} {vs : List V} {fp : List Addr} (j : Nat), pkOk pk ds = true → RepL mg H ds vs fp → (∀ a ∈ fp, a ∈ F) →
    Cells mg ⟨fun a => a ∈ F, fun _ => False⟩ (fun _ => 0) H (pk ++ List.replicate j .dead) (ds ++ List.replicate j .non) (vs.map some ++ List.replicate j none)
  | [], [], _, _, j, _, h, _ => by
    simp only [RepL] at h
    obtain ⟨rfl, _⟩ := h
    induction j with
    | zero => trivial
    | succ j ih => exact ⟨trivial, ih⟩
  | .flat :: pk, d :: ds, _, _, j, e, h, hf => by
    simp only [RepL] at h
    obtain ⟨v, r, f1, f2, rfl, h1, h2, rfl⟩ := h
    simp only [pkOk, Bool.and_eq_true] at e
    refine ⟨⟨v, rfl, ?_⟩, cells_start j e.2 h2 fun a ha => hf a (List.mem_append_right _ ha)⟩
    rw [h1.flat e.1] at h1
    exact h1
  | .lab none [0] false :: pk, d :: ds, _, _, j, e, h, hf => by
    simp only [RepL] at h
    obtain ⟨v, r, f1, f2, rfl, h1, h2, rfl⟩ := h
    simp only [pkOk] at e
    refine ⟨⟨v, f1, rfl, h1, fun a ha => .inr ⟨.inr rfl, List.mem_singleton.mpr rfl, fun _ => hf a (List.mem_append_left _ ha)⟩, .unk fun z => nomatch z⟩, cells_start j e h2 fun a ha => hf a (List.mem_append_right _ ha)⟩
  | [], _ :: _, _, _, _, e, _, _ => by cases e
  | k :: _, [], _, _, _, e, _, _ => by unfold pkOk at e; split at e <;> simp_all
  | .dead :: _, _ :: _, _, _, _, e, _, _ => by cases e
  | .exc _ _ :: _, _ :: _, _, _, _, e, _, _ => by cases e
  | .lab none [] _ :: _, _ :: _, _, _, _, e, _, _ => by cases e
  | .lab none [0] true :: _, _ :: _, _, _, _, e, _, _ => by cases e
  | .lab none [k+1] _ :: _, _ :: _, _, _, _, e, _, _ => by cases e
  | .lab none (_ :: _ :: _) _ :: _, _ :: _, _, _, _, e, _, _ => by unfold pkOk at e; split at e <;> simp_all
  | .lab (some _) _ _ :: _, _ :: _, _, _, _, e, _, _ => by cases e
theorem pkOk_len : ∀ {pk : List Kd} {ds : List D}, pkOk pk ds = true → ds.length = pk.length
  | [], ds, e => by cases ds <;> simp_all [pkOk]
  | k :: pk, ds, e => by
    unfold pkOk at e
    split at e
    · simp_all
    · rename_i h; cases h; simp only [Bool.and_eq_true] at e; simp [pkOk_len e.2]
    · rename_i h; cases h; simp [pkOk_len e]
    · cases e
theorem loc_start {H : Hp} {fp : List Addr} (h : ∀ a ∈ fp, H a ≠ none) : Loc ⟨fun a => a ∈ fp, fun _ => False⟩ [] (fun _ => 0) H := ⟨fun a z => absurd rfl z, h, fun a z => z.elim⟩
theorem step_ext {H H' : Hp} {g' : Addr → Nat} (s : Step [] (fun _ => 0) H g' H') : Ext H H' := fun a u e => s.kp a (.inl rfl) u e
theorem step_new {P : Fm} {H H' : Hp} {g' : Addr → Nat} (s : Step [] (fun _ => 0) H g' H') (l : Loc P [] g' H') (hf : ∀ a, ¬ P.frz a) {a : Addr} (h : g' a ≠ 0) : New H H' a := by
  refine ⟨?_, ?_⟩
  · cases q : H a with
    | none => rfl
    | some o => exact absurd (s.lk a (by rw [q]; simp) (.inl rfl)) h
  · obtain ⟨o, e, m | m⟩ := l.at_ a h
    · rw [e]; exact m
    · exact absurd m (hf a)
theorem rf_of {mg : Mg} {H H' : Hp} {g' : Addr → Nat} {fp : List Addr} {R : Rm} {d : D} {v : V} (s : Step [] (fun _ => 0) H g' H') (l : Loc ⟨fun a => a ∈ fp, fun _ => False⟩ [] g' H') (r : RV mg ⟨fun a => a ∈ fp, fun _ => False⟩ g' H' R d v) : RF mg H H' fp R d v := by
  cases R with
  | flat => exact r
  | fresh => obtain ⟨f, r1, n, q⟩ := r; exact ⟨f, r1, n, fun a ha => step_new s l (fun _ z => z) (q a ha)⟩
  | out => obtain ⟨f, r1, q⟩ := r; exact ⟨f, r1, fun a ha => (q a ha).imp (step_new s l (fun _ z => z)) id⟩
section
variable {P : Program} {w : World} {K : PySem.W.Frag} {mg : Str → Option Value} {base : Heap} {x qual : Str} {params : Arguments} {body : List Stmt} {scope : Scope} {f : Addr} {fd : FuncData}
/-- a def that lets nothing out -/
theorem fn_ok0 {N ps : List Str} {k : Nat} {sc : Sc} {Γ' : List Kd} {s : Sv} (F : FunD K x qual params body scope [] [] f fd) (S : FnScope N ps scope) (pk : List Kd) (hp : pk.length = ps.length) (hN : ps.length ≤ N.length) (hL : sc.LL = [])
    (hb : ∀ (cdv : Value) (A : Around) (outer : List Env) (s0 : Shared) (H : Hp) (E : XK), Room k (A.deeper (envOfC qual scope s0.heap.objs.size f cdv)) →
      SS (cxOf CX0 P w K mg base N qual scope f cdv A outer s0 H E).nox (fun _ _ _ _ => False) sc (pk ++ List.replicate (N.length - pk.length) .dead) body s Γ') :
    FnOk P w K mg base CX0 (k + 1) f fd ps (sp0 ⟨mg, K⟩ (fnSem N.length pk s) ps.length sc.R) := by
  refine F.ok S (fun vs H Q E h => h.1) (fun cdv A outer s0 H vs Q E hr h => ?_)
  obtain ⟨hl, ds, fp, d, r, e, q⟩ := h
  obtain ⟨t, p, kk⟩ := hb cdv A outer s0 H E hr
  refine ⟨t, p.nox, ?_⟩
  unfold fnSem at e
  split at e
  · rename_i hpk
    have hlen := pkOk_len hpk
    have hvd := r.length
    have st : Sta ⟨mg, K⟩ ⟨fun a => a ∈ fp, fun _ => False⟩ sc.LL (pk ++ List.replicate (N.length - pk.length) .dead) (fun _ => 0) (ds ++ List.replicate (N.length - ds.length) .non) (L2.start N vs) H := by
      rw [hL]
      refine ⟨loc_start r.there, ?_⟩
      unfold L2.start
      rw [hvd, hlen]
      exact cells_start _ hpk r fun a ha => ha
    cases o : s (ds ++ List.replicate (N.length - ds.length) .non) with
    | none => rw [o] at e; cases e
    | some o' =>
      rw [o] at e
      refine kk ⟨fun a => a ∈ fp, fun _ => False⟩ (fun _ => 0) _ _ H o' _ st o ?_
      cases o' with
      | nx ρ' =>
        cases e
        intro g' σ' H' s' st'
        rw [hL] at s'
        refine q .non H' (step_ext s') ?_
        have r : Rep ⟨mg, K⟩ H' .non .non [] := rep_non
        cases sc.R with
        | flat => exact r
        | fresh => exact ⟨[], r, by simp, fun a ha => nomatch ha⟩
        | out => exact ⟨[], r, fun a ha => nomatch ha⟩
      | ct ρ' => cases e
      | rt d' =>
        cases e
        intro v g' H' s' l' rv
        rw [hL] at s' l'
        exact q v H' (step_ext s') (rf_of s' l' rv)
      | ex c ρ' => cases e
  · cases e
end

/-! ### calls -/
def eCall (f : List D → Option Res) (a : List D → Option (List D)) : Ev := fun ρ => do
  let ds ← a ρ
  match f ds with
  | some (.ret d) => some d
  | _ => none
def Rm.md : Rm → Md → Md
  | .flat, _ => .flat
  | .fresh, _ => .al true .new [] true
  | .out, .flat => .al true .unk [] false
  | .out, .al _ _ L _ => .al true .unk L false
theorem rf_val {mg : Mg} {P : Fm} {g : Addr → Nat} {H H1 H2 : Hp} {m : Md} {fp : List Addr} {R : Rm} {d : D} {v : V} (e : Ext H H1) (e' : Ext H1 H2) (o : Fps P g H H1 m fp) (r : RF mg H1 H2 fp R d v) : Val mg P g H H2 (R.md m) d v := by
  cases R with
  | flat => exact r
  | fresh =>
    obtain ⟨f, r1, n, q⟩ := r
    refine ⟨f, r1, fun a ha => ?_, .of n⟩
    by_cases hv : v = .ref a
    · exact .inl ⟨hv, (q a ha).back e⟩
    · exact .inr ⟨.inl hv, .inl ⟨rfl, (q a ha).back e⟩⟩
  | out =>
    obtain ⟨f, r1, q⟩ := r
    cases m with
    | flat =>
      obtain rfl : fp = [] := o
      refine ⟨f, r1, fun a ha => ?_, .unk fun z => nomatch z⟩
      rcases q a ha with y | y
      · exact .inr ⟨.inr rfl, .inl ⟨rfl, y.back e⟩⟩
      · cases y
    | al fr rt L nd =>
      refine ⟨f, r1, fun a ha => ?_, .unk fun z => nomatch z⟩
      rcases q a ha with y | y
      · exact .inr ⟨.inr rfl, .inl ⟨rfl, y.back e⟩⟩
      · rcases o.1 a y with ⟨_, z⟩ | z
        · exact .inr ⟨.inr rfl, .inl ⟨rfl, z.ext e'⟩⟩
        · exact .inr ⟨.inr rfl, .inr z⟩
section
variable {X : Cx} {LL : List Nat} {Γ : List Kd} {pos p : Pos} {k : Nat} {f : Addr} {fd : FuncData} {ps : List Str} {sem : List D → Option Res} {R : Rm} {x : Str}
theorem ex_call {e : Expr} {es : List Expr} {a : List D → Option (List D)} {m : Md} {n : Nat} (F : FnOk X.prog X.w X.K X.mg X.base CX0 k f fd ps (sp0 X.vm sem n R)) (hr : Room k X.A) (hg : Gl X x) (hm : X.mg x = some (.ref f)) (hk : PySem.W.keepIn X.K (.ref f) = true) (hb : Binds X.K fd ps [])
    (ha : EA X LL Γ (e :: es) a m) (hn : (e :: es).length = n := by rfl) (hdb : (x == ("__debug__" : Str)) = false := by decide) (he : starEach (e :: es) X.env = (false, eval e X.env) :: starEach es X.env := by rfl) (hpl : (backTo pos (starEach es X.env)).any (·.1) = false := by rfl) :
    EX X LL Γ (.Call (.Name x p) (e :: es) [] pos) (eCall sem a) (R.md m) := by
  obtain ⟨hl, t, pt, kk⟩ := ha
  refine ⟨_, pe_call F hr hg hm hk hb .nil pass0 pt hdb he hpl, fun P g ρ σ H d Q s e0 q => ?_⟩
  obtain ⟨ds, e1, e2⟩ := bind_some e0
  refine kk P g ρ σ H ds _ s e1 fun vs H1 x1 vl => ?_
  obtain ⟨fp, r, o⟩ := vl
  have hlen : (vs ++ []).length = n := by rw [List.append_nil, r.length, hl ρ ds e1]; exact hn
  refine ⟨hlen, ds, fp, d, by rw [List.append_nil]; exact r, ?_, fun v H2 x2 rf => q v H2 (x1.trans x2) (rf_val x1 x2 o rf)⟩
  split at e2
  · cases e2; assumption
  · cases e2
theorem ex_call0 {n : Nat} (F : FnOk X.prog X.w X.K X.mg X.base CX0 k f fd ps (sp0 X.vm sem n R)) (hr : Room k X.A) (hg : Gl X x) (hm : X.mg x = some (.ref f)) (hk : PySem.W.keepIn X.K (.ref f) = true) (hb : Binds X.K fd ps [])
    (hn : n = 0 := by rfl) (hdb : (x == ("__debug__" : Str)) = false := by decide) : EX X LL Γ (.Call (.Name x p) [] [] pos) (eCall sem aNil) (R.md .flat) := by
  refine ⟨_, pe_call0 F hr hg hm hk hb .nil pass0 hdb, fun P g ρ σ H d Q s e0 q => ?_⟩
  obtain ⟨ds, e1, e2⟩ := bind_some e0
  cases e1
  refine ⟨hn.symm, [], [], d, by simp [RepL], ?_, fun v H2 x2 rf => q v H2 x2 (rf_val Ext.refl x2 (m := .flat) rfl rf)⟩
  split at e2
  · cases e2; assumption
  · cases e2
end
end VV

/-! ## VLoop -/
namespace VV
open PySem PySem.Spec PyProof.Rows L2

theorem PE_imp {X : Cx} {e : Expr} {t t' : TE} (p : PE X e t) (h : ∀ σ H Q, t' σ H Q → t σ H Q) : PE X e t' := ⟨fun pins s σ H Q I q => p.run pins s σ H Q I (h σ H Q q)⟩
theorem PTs_imp {X : Cx} {e : List Expr} {t t' : TT} (p : PTs X e t) (h : ∀ σ H Q, t' σ H Q → t σ H Q) : PTs X e t' := ⟨fun pins s σ H Q I q => p.run pins s σ H Q I (h σ H Q q)⟩
theorem PG_imp {X : Cx} {e : Expr} {t t' : TG} (p : PG X e t) (h : ∀ v σ H Q, t' v σ H Q → t v σ H Q) : PG X e t' := ⟨fun pins s σ H v u Q I r q => p.run pins s σ H v u Q I r (h v σ H Q q)⟩
def canT (mg : Mg) (LL : List Nat) (Γ : List Kd) (sem : Ev) (m : Md) : TE := fun σ H Q => ∃ P g ρ d, Sta mg P LL Γ g ρ σ H ∧ sem ρ = some d ∧ ∀ v H', Ext H H' → Val mg P g H H' m d v → Q v H'
def canB (mg : Mg) (LL : List Nat) (Γ : List Kd) (sem : List D → Option Bool) : TT := fun σ H Q => ∃ P g ρ d, Sta mg P LL Γ g ρ σ H ∧ sem ρ = some d ∧ ∀ H', Ext H H' → Q d H'
def canG (mg : Mg) (Γ : List Kd) (k : Kd) (sem : Tv) (Γ' : List Kd) (S : List Nat) : TG := fun v σ H Q => ∃ P LL g ρ d ρ', Sta mg P LL Γ g ρ σ H ∧ CellOk mg P g H k d (some v) ∧ sem d ρ = some ρ' ∧ ∀ σ', Sta mg P LL Γ' g ρ' σ' H → Wp S σ σ' → Q σ' H
theorem ex_can {X : Cx} {LL : List Nat} {Γ : List Kd} {e : Expr} {sem : Ev} {m : Md} (h : EX X LL Γ e sem m) : PE X e (canT X.vm LL Γ sem m) := by
  obtain ⟨t, p, k⟩ := h
  exact PE_imp p fun σ H Q ⟨P, g, ρ, d, s, e, q⟩ => k P g ρ σ H d Q s e q
/-- a list of tests (of a comprehension) -/
def ETs (X : Cx) (LL : List Nat) (Γ : List Kd) (e : List Expr) (sem : List D → Option Bool) : Prop :=
  ∃ t, PTs X e t ∧ ∀ P g ρ σ H b Q, Sta X.vm P LL Γ g ρ σ H → sem ρ = some b → (∀ H', Ext H H' → Q b H') → t σ H Q
def cYes : List D → Option Bool := fun _ => some true
theorem ets_nil {X : Cx} {LL : List Nat} {Γ : List Kd} : ETs X LL Γ [] cYes := ⟨_, pts_nil, fun P g ρ σ H b Q s e q => by cases e; exact q H Ext.refl⟩
theorem ets_one {X : Cx} {LL : List Nat} {Γ : List Kd} {e : Expr} {s : List D → Option Bool} (h : ET X LL Γ e s) : ETs X LL Γ [e] s := let ⟨t, p, k⟩ := h; ⟨t, pts_one p, k⟩
theorem ets_can {X : Cx} {LL : List Nat} {Γ : List Kd} {e : List Expr} {sem : List D → Option Bool} (h : ETs X LL Γ e sem) : PTs X e (canB X.vm LL Γ sem) := by
  obtain ⟨t, p, k⟩ := h
  exact PTs_imp p fun σ H Q ⟨P, g, ρ, d, s, e, q⟩ => k P g ρ σ H d Q s e q
theorem eg_can {X : Cx} {Γ Γ' : List Kd} {e : Expr} {k : Kd} {sem : Tv} {S : List Nat} (h : EG X Γ e k sem Γ' S) : PG X e (canG X.vm Γ k sem Γ' S) := by
  obtain ⟨t, p, kk⟩ := h
  exact PG_imp p fun v σ H Q ⟨P, LL, g, ρ, d, ρ', s, c, e, q⟩ => kk P LL g ρ σ H d v ρ' Q s c e q

/-! ### what is walked -/
def Kept (H H' : Hp) (fp : List Addr) : Prop := (∀ a ∈ fp, ∀ u, H a = some u → H' a = some u) ∧ KpT H H'
theorem Ext.kept {H H' : Hp} (e : Ext H H') (fp : List Addr) : Kept H H' fp := ⟨fun a _ u h => e a u h, e.kpT⟩
theorem Kept.rep {mg : Mg} {H H' : Hp} {F f : List Addr} {d : D} {v : V} (k : Kept H H' F) (h : Rep mg H d v f) (s : ∀ a ∈ f, a ∈ F) : Rep mg H' d v f :=
  h.keep (fun a ha => ⟨fun u _ r => by rcases r with r | ⟨o, r⟩; exact .inl (k.1 a (s a ha) u r); exact .inr ⟨o, k.1 a (s a ha) _ r⟩, fun vs r => k.1 a (s a ha) _ r⟩) k.2
theorem Kept.repL {mg : Mg} {H H' : Hp} {F f : List Addr} {d : List D} {v : List V} (k : Kept H H' F) (h : RepL mg H d v f) (s : ∀ a ∈ f, a ∈ F) : RepL mg H' d v f :=
  h.keep (fun a ha => ⟨fun u _ r => by rcases r with r | ⟨o, r⟩; exact .inl (k.1 a (s a ha) u r); exact .inr ⟨o, k.1 a (s a ha) _ r⟩, fun vs r => k.1 a (s a ha) _ r⟩) k.2
def Iter (mg : Mg) (P : Fm) (g : Addr → Nat) (H H' : Hp) (J : It) (labs : List Nat) (me : Md) (ds : List D) : Prop :=
  ∃ fpI : List Addr, (∀ a ∈ fpI, New H H' a ∨ Old P g labs a) ∧ ∀ H2, Kept H' H2 fpI →
    (∀ (i : Nat) (d : D), ds[i]? = some d → J.go i H2 ∧ ∀ x H3, J.yld i H2 x H3 → Ext H2 H3 ∧ ∃ f, Rep mg H3 d x f ∧ Fps P g H H' me f ∧ ∀ a ∈ f, a ∈ fpI) ∧ J.stop ds.length H2
def EI (X : Cx) (LL : List Nat) (Γ : List Kd) (tg it : Expr) (sem : List D → Option (List D)) (labs : List Nat) (me : Md) : Prop :=
  ∃ wi, PI X tg it wi ∧ ∀ P g ρ σ H ds R, Sta X.vm P LL Γ g ρ σ H → sem ρ = some ds → (∀ J H', Ext H H' → ds.length ≤ sizeLine → Iter X.vm P g H H' J labs me ds → R J H') → wi σ H R
def Sized (K : PySem.W.Frag) (H : Hp) : Prop := (∀ a xs, SqL K H a xs → xs.length ≤ sizeLine) ∧ ∀ a xs, SqT K H a xs → xs.length ≤ sizeLine
theorem pi_sized {X : Cx} {tg it : Expr} {wi : TI} (h : PI X tg it wi) : PI X tg it (fun σ H R => wi σ H fun J H1 => Sized X.K H1 → R J H1) := by
  refine ⟨fun pins s σ H R I hw => thn (h.run pins s σ H _ I hw) fun v s1 h1 => thn h1 fun u s2 ⟨it', fp, tn, J, H', e, I', T, t0, f, r⟩ => ?_⟩
  refine ⟨it', fp, tn, J, H', e, I', T, t0, f, r ⟨fun a xs q => ?_, fun a xs q => ?_⟩⟩
  · obtain ⟨_, _, _, z⟩ := I'.list q; exact z
  · obtain ⟨_, _, _, z⟩ := I'.tuple q; exact z
def Md.labs : Md → List Nat
  | .flat => []
  | .al _ rt L _ => (match rt with | .old n => n :: L | _ => L)
theorem Val.labs {mg : Mg} {P : Fm} {g : Addr → Nat} {H H' : Hp} {m : Md} {d : D} {v : V} (h : Val mg P g H H' m d v) : ∃ fp, Rep mg H' d v fp ∧ Fps P g H H' m.unroot fp ∧ (∀ a ∈ fp, New H H' a ∨ Old P g m.labs a) ∧
    ∀ f : List Addr, (∃ f1 f2, (∃ a, v = .ref a ∧ fp = a :: (f1 ++ f ++ f2)) ∨ (fp = f1 ++ f ++ f2 ∧ ∀ a, v = .ref a → a ∉ fp)) → Fps P g H H' m.child f := by
  cases m with
  | flat =>
    refine ⟨[], h, rfl, (fun a ha => nomatch ha), fun f ⟨f1, f2, e⟩ => ?_⟩
    rcases e with ⟨a, _, e⟩ | ⟨e, _⟩
    · cases e
    · have := congrArg List.length e
      simp at this
      exact List.eq_nil_of_length_eq_zero (by omega)
  | al fr rt L nd =>
    obtain ⟨fp, r, o⟩ := h
    refine ⟨fp, r, o.unroot, fun a ha => ?_, fun f ⟨f1, f2, e⟩ => ?_⟩
    · rcases o.1 a ha with ⟨_, y⟩ | ⟨_, ⟨_, y⟩ | y⟩
      · cases rt with
        | new => exact .inl y
        | old n => exact .inr ⟨by rw [List.mem_singleton.mp y.1]; exact List.mem_cons_self, y.2⟩
        | unk => exact y.elim
      · exact .inl y
      · refine .inr ⟨?_, y.2⟩
        cases rt with
        | new => exact y.1
        | old n => exact List.mem_cons_of_mem _ y.1
        | unk => exact y.1
    · have hs : ∀ a ∈ f, a ∈ fp := fun a ha => by
        rcases e with ⟨b, _, rfl⟩ | ⟨rfl, _⟩
        · exact List.mem_cons_of_mem _ (List.mem_append_left _ (List.mem_append_right _ ha))
        · exact List.mem_append_left _ (List.mem_append_right _ ha)
      cases nd with
      | true =>
        refine ⟨fun a ha => ?_, fun _ => ?_⟩
        · rcases o.1 a (hs a ha) with ⟨e2, y⟩ | ⟨_, y⟩
          · exfalso
            rcases e with ⟨b, e3, rfl⟩ | ⟨_, z⟩
            · rw [e3] at e2; cases e2
              exact (List.nodup_cons.mp (o.2.1 rfl)).1 (List.mem_append_left _ (List.mem_append_right _ ha))
            · exact z a e2 (hs a ha)
          · exact y
        · have n := o.2.1 rfl
          rcases e with ⟨b, _, rfl⟩ | ⟨rfl, _⟩
          · have n := (List.nodup_cons.mp n).2
            exact (List.nodup_append.mp (List.nodup_append.mp n).1).2.1
          · exact (List.nodup_append.mp (List.nodup_append.mp n).1).2.1
      | false =>
        have q := o.unroot
        show Fps P g H H' (Md.al fr rt L false).unroot f
        cases rt <;> exact ⟨fun a ha => q.1 a (hs a ha), fun h => nomatch h⟩
section
variable {X : Cx} {LL : List Nat} {Γ : List Kd} {pos p : Pos} {tg e : Expr} {se : Ev} {m : Md}
def iLst (s : Ev) : List D → Option (List D) := fun ρ => do match (← s ρ) with
  | .lst l => some l
  | .scr l => some l
  | _ => none
def iTupl (s : Ev) : List D → Option (List D) := fun ρ => do match (← s ρ) with
  | .tup l => some l
  | _ => none
theorem RepL.parts {mg : Mg} {H : Hp} {ds : List D} {vs : List V} {fp : List Addr} (h : RepL mg H ds vs fp) {i : Nat} {d : D} (e : ds[i]? = some d) : ∃ v f, vs[i]? = some v ∧ Rep mg H d v f ∧ ∃ f1 f2, fp = f1 ++ f ++ f2 := by
  obtain ⟨v, f1, f, f2, e1, r, e2⟩ := h.get e
  exact ⟨v, f, e1, r, f1, f2, e2⟩
theorem ei_list (he : EX X LL Γ e se m) : EI X LL Γ tg e (iLst se) m.labs m.child := by
  obtain ⟨t, pt, k⟩ := he
  refine ⟨_, pi_sized (pi_list pt), fun P g ρ σ H ds R s e0 q => ?_⟩
  obtain ⟨d, e1, e0⟩ := bind_some e0
  refine k P g ρ σ H d _ s e1 fun v H1 x1 w => ?_
  obtain ⟨fp, r, o, lb, ch⟩ := w.labs
  cases d with
  | lst l =>
    cases e0
    have r0 := r
    simp only [Rep] at r0
    obtain ⟨a, vs, f, rfl, ha, h2, rfl⟩ := r0
    refine ⟨a, rfl, ⟨vs, SqL.of ha⟩, fun sz => q _ H1 x1 (by rw [← h2.length]; exact sz.1 a vs (SqL.of ha)) ⟨a :: f, lb, fun H2 kp => ⟨fun i d hi => ?_, ?_⟩⟩⟩
    · obtain ⟨u, fi, e3, ri, f1, f2, rfl⟩ := h2.parts hi
      have ha2 : H2 a = some (.lst vs) := kp.1 a List.mem_cons_self _ ha
      refine ⟨⟨vs, u, SqL.of ha2, e3⟩, fun x H3 y => ?_⟩
      obtain ⟨rfl, y⟩ := y
      have := y vs (SqL.of ha2)
      rw [e3] at this; cases this
      have sub : ∀ b ∈ fi, b ∈ a :: (f1 ++ fi ++ f2) := fun b hb => List.mem_cons_of_mem _ (List.mem_append_left _ (List.mem_append_right _ hb))
      exact ⟨Ext.refl, fi, kp.rep ri sub, ch fi ⟨f1, f2, .inl ⟨a, rfl, rfl⟩⟩, sub⟩
    · exact ⟨vs, SqL.of (kp.1 a List.mem_cons_self _ ha), by rw [h2.length]; exact Nat.le_refl _⟩
  | scr l =>
    cases e0
    have r0 := r
    simp only [Rep] at r0
    obtain ⟨a, vs, rfl, ha, h2, rfl⟩ := r0
    refine ⟨a, rfl, ⟨vs, ha.sq⟩, fun sz => q _ H1 x1 (by rw [← h2.length]; exact sz.1 a vs ha.sq) ⟨[], lb, fun H2 kp => ⟨fun i d hi => ?_, ?_⟩⟩⟩
    · obtain ⟨u, fi, e3, ri, f1, f2, e4⟩ := h2.parts hi
      have e5 : fi = [] ∧ f1 = [] ∧ f2 = [] := by
        have := congrArg List.length e4
        simp at this
        exact ⟨List.eq_nil_of_length_eq_zero (by omega), List.eq_nil_of_length_eq_zero (by omega), List.eq_nil_of_length_eq_zero (by omega)⟩
      obtain ⟨rfl, rfl, rfl⟩ := e5
      have ha2 : ScrAt X.K H2 a vs := ha.imp (fun ⟨o, r⟩ => ⟨o, kp.2.2 a o vs r⟩) id
      refine ⟨⟨vs, u, ha2.sq, e3⟩, fun x H3 y => ?_⟩
      obtain ⟨rfl, y⟩ := y
      have := y vs ha2.sq
      rw [e3] at this; cases this
      exact ⟨Ext.refl, [], kp.rep ri (fun b hb => nomatch hb), ch [] ⟨[], [], .inr ⟨rfl, fun b eb => nofun⟩⟩, fun b hb => nomatch hb⟩
    · have ha2 : ScrAt X.K H2 a vs := ha.imp (fun ⟨o, r⟩ => ⟨o, kp.2.2 a o vs r⟩) id
      exact ⟨vs, ha2.sq, by rw [h2.length]; exact Nat.le_refl _⟩
  | _ => cases e0
theorem ei_tup (he : EX X LL Γ e se m) : EI X LL Γ tg e (iTupl se) m.labs m.child := by
  obtain ⟨t, pt, k⟩ := he
  refine ⟨_, pi_sized (pi_tup pt), fun P g ρ σ H ds R s e0 q => ?_⟩
  obtain ⟨d, e1, e0⟩ := bind_some e0
  refine k P g ρ σ H d _ s e1 fun v H1 x1 w => ?_
  obtain ⟨fp, r, o, lb, ch⟩ := w.labs
  cases d with
  | tup l =>
    cases e0
    have r0 := r
    simp only [Rep] at r0
    obtain ⟨a, vs, rfl, ha, h2⟩ := r0
    refine ⟨a, rfl, ⟨vs, .inl (.inl ha)⟩, fun sz => q _ H1 x1 (by rw [← h2.length]; exact sz.2 a vs (.inl (.inl ha))) ⟨fp, lb, fun H2 kp => ⟨fun i d hi => ?_, ?_⟩⟩⟩
    · obtain ⟨u, fi, e3, ri, f1, f2, rfl⟩ := h2.parts hi
      have ha2 := kp.2.1 a vs ha
      refine ⟨⟨vs, u, .inl (.inl ha2), e3⟩, fun x H3 y => ?_⟩
      obtain ⟨rfl, y⟩ := y
      have := y vs (.inl (.inl ha2))
      rw [e3] at this; cases this
      have sub : ∀ b ∈ fi, b ∈ f1 ++ fi ++ f2 := fun b hb => List.mem_append_left _ (List.mem_append_right _ hb)
      exact ⟨Ext.refl, fi, kp.rep ri sub, ch fi ⟨f1, f2, .inr ⟨rfl, fun b eb => by cases eb; exact r.notup (.inl ha)⟩⟩, sub⟩
    · exact ⟨vs, .inl (.inl (kp.2.1 a vs ha)), by rw [h2.length]; exact Nat.le_refl _⟩
  | _ => cases e0
/-- lo, lo + 1, .. -/
def rngD (lo : Int) (n : Nat) : List D := (List.range n).map fun i : Nat => .int (lo + i)
theorem rngD_get {lo : Int} {n i : Nat} {d : D} (h : (rngD lo n)[i]? = some d) : i < n ∧ d = .int (lo + i) := by
  unfold rngD at h
  rw [List.getElem?_map] at h
  by_cases hi : i < n
  · rw [List.getElem?_range hi] at h
    cases h
    exact ⟨hi, rfl⟩
  · rw [List.getElem?_eq_none (by simpa using hi)] at h
    cases h
theorem iter_rngD {mg : Mg} {P : Fm} {g : Addr → Nat} {H H' : Hp} {lo : Int} {n : Nat} : Iter mg P g H H' (Itr lo n) [] .flat (rngD lo n) := by
  refine ⟨[], (fun a ha => nomatch ha), fun H2 kp => ⟨fun i d hi => ?_, ?_⟩⟩
  · obtain ⟨h1, rfl⟩ := rngD_get hi
    refine ⟨h1, fun x H3 y => ?_⟩
    obtain ⟨rfl, rfl⟩ := y
    exact ⟨Ext.refl, [], rep_int, rfl, fun a ha => nomatch ha⟩
  · show n ≤ (rngD lo n).length
    unfold rngD
    simp
def iRng (a : List D → Option (List D)) : List D → Option (List D) := fun ρ => do match (← a ρ) with
  | [.int j] => if j ≤ 10000000 ∧ -10000000 ≤ j then some (rngD 0 j.toNat) else none
  | [.int i, .int j] => if j ≤ 10000000 ∧ -10000000 ≤ i ∧ i ≤ 10000000 ∧ -10000000 ≤ j ∧ j - i ≤ 10000000 then some (rngD i (j - i).toNat) else none
  | _ => none
theorem ei_range1 {a : Expr} {sa : List D → Option (List D)} (hg : Gl X "range") (hm : X.mg "range" = none) (ha : EA X LL Γ [a] sa m) (hs : starEach [a] X.env = [(false, eval a X.env)] := by rfl) : EI X LL Γ tg (.Call (.Name "range" p) [a] [] pos) (iRng sa) [] .flat := by
  obtain ⟨hl, t, pt, k⟩ := ha
  refine ⟨_, pi_range1 hg hm pt hs, fun P g ρ σ H ds R s e0 q => ?_⟩
  obtain ⟨d, e1, e0⟩ := bind_some e0
  have hlen := hl ρ d e1
  refine k P g ρ σ H d _ s e1 fun vs H1 x1 w => ?_
  obtain ⟨fp, r⟩ := w.rep
  split at e0
  · split at e0
    · cases e0
      obtain ⟨v, rfl, h⟩ := repL1 r
      obtain rfl := rInt h
      rename_i j hj
      refine ⟨j, rfl, by omega, by omega, ?_⟩
      exact q _ H1 x1 (by unfold rngD; simp; rw [sizeLine_eq]; omega) iter_rngD
    · cases e0
  · simp at hlen
  · cases e0
theorem ei_range2 {a b : Expr} {sa : List D → Option (List D)} (hg : Gl X "range") (hm : X.mg "range" = none) (ha : EA X LL Γ [a, b] sa m) (hs : starEach [a, b] X.env = [(false, eval a X.env), (false, eval b X.env)] := by rfl) (hs2 : starEach [b] X.env = [(false, eval b X.env)] := by rfl) : EI X LL Γ tg (.Call (.Name "range" p) [a, b] [] pos) (iRng sa) [] .flat := by
  obtain ⟨hl, t, pt, k⟩ := ha
  refine ⟨_, pi_range2 hg hm pt hs hs2, fun P g ρ σ H ds R s e0 q => ?_⟩
  obtain ⟨d, e1, e0⟩ := bind_some e0
  have hlen := hl ρ d e1
  refine k P g ρ σ H d _ s e1 fun vs H1 x1 w => ?_
  obtain ⟨fp, r⟩ := w.rep
  split at e0
  · simp at hlen
  · split at e0
    · cases e0
      rename_i i j hj
      obtain ⟨v, v2, _, _, rfl, h, h', _⟩ := repL2 r
      obtain rfl := rInt h
      obtain rfl := rInt h'
      refine ⟨i, j, rfl, ⟨by omega, by omega, by omega, by omega⟩, ?_⟩
      exact q _ H1 x1 (by unfold rngD; simp; rw [sizeLine_eq]; omega) iter_rngD
    · cases e0
  · cases e0
end
end VV

/-! ## VLoop2 -/
namespace VV
open PySem PySem.Spec PyProof.Rows L2

/-! ### for -/
def forL (t : Tv) (b : Sv) : List D → List D → Option Out
  | [], ρ => some (.nx ρ)
  | x :: xs, ρ => match t x ρ with
    | none => none
    | some ρ1 => match b ρ1 with
      | some (.nx ρ2) => forL t b xs ρ2
      | some (.ct ρ2) => forL t b xs ρ2
      | o => o
def sFor (it : List D → Option (List D)) (t : Tv) (b : Sv) : Sv := fun ρ => do forL t b (← it ρ) ρ
/-- the kind of a loop's name -/
def Md.kindI (n : Nat) : Md → Kd
  | .flat => .flat
  | .al fr _ L nd => .lab none (if fr then n :: L else L) nd
theorem fps_cell {mg : Mg} {P : Fm} {LL : List Nat} {g g' : Addr → Nat} {H H1 H' : Hp} {me : Md} {f : List Addr} {d : D} {v : V} {n : Nat} (l : Loc P LL g H) (r : Rep mg H' d v f) (o : Fps P g H H1 me f) (hn : n ≠ 0)
    (hg : ∀ a ∈ f, g' a = relab g H H1 .non n n a) : CellOk mg P g' H' (me.kindI n) d (some v) := by
  cases me with
  | flat =>
    obtain rfl : f = [] := o
    exact ⟨v, rfl, r⟩
  | al fr rt L nd =>
    refine ⟨v, f, rfl, r, fun a ha => .inr ⟨.inr rfl, ?_⟩, .unk o.2⟩
    unfold Old
    rw [hg a ha]
    rcases o.1 a ha with ⟨hfr, y⟩ | y
    · rw [relab_new y]
      subst hfr
      refine ⟨?_, fun z => ?_⟩
      · show _ ∈ n :: L
        split <;> exact List.mem_cons_self
      · split at z <;> exact absurd z hn
    · have := Old.relab (H' := H1) (v := .non) (n := n) (m := n) y l
      refine ⟨?_, this.2⟩
      cases fr with
      | false => exact this.1
      | true => exact List.mem_cons_of_mem _ this.1
theorem Step.sub {LL LL' : List Nat} {g g' : Addr → Nat} {H H' : Hp} (s : Step LL' g H g' H') (h : ∀ n ∈ LL, n ∈ LL') : Step LL g H g' H' :=
  ⟨fun a x u e => s.kp a (x.imp id (h _)) u e, fun a e x => s.lk a e (x.imp id (h _)), s.th⟩
theorem Loc.up {P : Fm} {LL LL' : List Nat} {g : Addr → Nat} {H : Hp} (l : Loc P LL g H) (h : ∀ n ∈ LL, n ∈ LL') : Loc P LL' g H := ⟨l.at_, l.out, fun a x => ⟨(l.fz a x).1, (l.fz a x).2.imp id (h _)⟩⟩
/-- back to fewer locks: what was locked for good before is still so -/
theorem Loc.down {P : Fm} {LL LL' : List Nat} {g g' : Addr → Nat} {H H' : Hp} (l' : Loc P LL' g' H') (l : Loc P LL g H) (s : Step LL g H g' H') : Loc P LL g' H' :=
  ⟨l'.at_, l'.out, fun a x => ⟨(l'.fz a x).1, by rw [s.lk a (l.fzn x) (l.fz a x).2]; exact (l.fz a x).2⟩⟩
theorem Step.tups {P : Fm} {LL : List Nat} {g g' : Addr → Nat} {H H' : Hp} (s : Step LL g H g' H') (l : Loc P LL g H) {u : HO} (hu : ¬ Mut (some u)) (a : Addr) (e : H a = some u) : H' a = some u := by
  have key : VV.lk LL (g a) := by
    by_cases h : g a = 0
    · exact .inl h
    · obtain ⟨o, e', m | m⟩ := l.at_ a h
      · rw [e] at e'; cases e'; exact absurd m hu
      · exact (l.fz a m).2
  exact s.kp a key _ e
theorem Step.kpT {P : Fm} {LL : List Nat} {g g' : Addr → Nat} {H H' : Hp} (s : Step LL g H g' H') (l : Loc P LL g H) : KpT H H' := by
  refine ⟨fun a xs r => ?_, fun a o vs r => s.tups l (show ¬ Mut (some (HO.frz o (.lst vs))) from fun z => z) a r⟩
  exact s.tups l (show ¬ Mut (some (HO.tup xs)) from fun z => z) a r
theorem wantS_sub {X : Cx} {W : L2.WX} {sc sc' : Sc} {P : Fm} {Γ' : List Kd} {g g0 : Addr → Nat} {H H0 : Hp} {D D' : Ends} {o : Out} (hL : ∀ n ∈ sc.LL, n ∈ sc'.LL) (hR : sc'.R = sc.R) (hx : sc'.Γx = sc.Γx) (hD : D'.rt = D.rt) (l : Loc P sc.LL g0 H0) (s0 : Step sc.LL g0 H0 g H)
    (w : WantS X W sc P Γ' g0 H0 D o) (ho : (∃ d, o = .rt d) ∨ ∃ c ρ, o = .ex c ρ) (Γ1 : List Kd) : WantS X W sc' P Γ1 g H D' o := by
  rcases ho with ⟨d, rfl⟩ | ⟨c, ρ, rfl⟩
  · intro v g' H' s l' r
    rw [hD]
    have st := s0.trans (s.sub hL)
    exact w v g' H' st (l'.down l st) (by rw [← hR]; exact r)
  · intro C g' σ' H' m s st
    have stt := s0.trans (s.sub hL)
    exact w C g' σ' H' m stt ⟨st.loc.down l stt, by rw [← hx]; exact st.cells⟩
section
variable {X : Cx} {W : L2.WX} {sc : Sc} {Γ Γ1 : List Kd} {pos : Pos}
theorem for_run {t : Tv} {sb : Sv} {labs : List Nat} {me : Md} {S : List Nat} {n : Nat} {tgt : TG} {tb : TS} {wi : TI}
    (kg : ∀ P LL g ρ σ H d v ρ' (Q : L2.St → Hp → Prop), Sta X.vm P LL Γ g ρ σ H → CellOk X.vm P g H (me.kindI n) d (some v) → t d ρ = some ρ' → (∀ σ', Sta X.vm P LL Γ1 g ρ' σ' H → Wp S σ σ' → Q σ' H) → tgt v σ H Q)
    (kb : ∀ P g ρ σ H o D, Sta X.vm P (n :: (labs ++ sc.LL)) Γ1 g ρ σ H → sb ρ = some o → WantS X W { sc with LL := n :: (labs ++ sc.LL), Γc := Γ } P Γ g H D o → tb D σ H)
    (hn : n ≠ 0) {P : Fm} {g : Addr → Nat} {ρ : List D} {σ : L2.St} {H : Hp} {ds : List D} {o : Out} {De : Ends} (s : Sta X.vm P sc.LL Γ g ρ σ H)
    (ki : ∀ R : It → Hp → Prop, (∀ J H', Ext H H' → Iter X.vm P g H H' J labs me ds → R J H') → wi σ H R) (e : forL t sb ds ρ = some o) (w : WantS X W sc P Γ g H De o) : tFor wi tgt tb De σ H := by
  refine ki _ fun J H1 x1 it => ?_
  obtain ⟨fpI, lb, walk⟩ := it
  -- what is new is labelled n, and locked
  have s1 : Sta X.vm P sc.LL Γ (relab g H H1 .non n n) ρ σ H1 := s.relab x1
  have st1 : Step sc.LL g H (relab g H H1 .non n n) H1 := .relab x1
  have subL : ∀ k ∈ sc.LL, k ∈ n :: (labs ++ sc.LL) := fun k hk => List.mem_cons_of_mem _ (List.mem_append_right _ hk)
  have lkI : ∀ a ∈ fpI, lk (n :: (labs ++ sc.LL)) (relab g H H1 .non n n a) := fun a ha => by
    rcases lb a ha with y | y
    · rw [relab_new y]; right; split <;> exact List.mem_cons_self
    · rw [relab_old (y.there s.loc)]; right
      exact List.mem_cons_of_mem _ (List.mem_append_left _ y.1)
  generalize hg1 : relab g H H1 .non n n = g1 at s1 st1 lkI
  -- the turn's state: what is left of the items
  refine ⟨fun i m σ' H' => m = ds.length - i ∧ i ≤ ds.length ∧ ∃ ρ' g', forL t sb (ds.drop i) ρ' = some o ∧ Sta X.vm P (n :: (labs ++ sc.LL)) Γ g' ρ' σ' H' ∧ Step (n :: (labs ++ sc.LL)) g1 H1 g' H',
    ⟨ds.length, rfl, Nat.zero_le _, ρ, g1, by rw [List.drop_zero]; exact e, ⟨s1.loc.up subL, s1.cells⟩, .refl⟩, ?_⟩
  rintro i m σ2 H2 ⟨rfl, hil, ρ2, g2, e2, s2, st2⟩
  have kept : Kept H1 H2 fpI := ⟨fun a ha u r => st2.kp a (lkI a ha) u r, st2.kpT (s1.loc.up subL)⟩
  obtain ⟨wk, wstop⟩ := walk H2 kept
  have back : ∀ {ρ3 : List D} {σ3 : L2.St} {g3 : Addr → Nat} {H3 : Hp}, Step (n :: (labs ++ sc.LL)) g1 H1 g3 H3 → Sta X.vm P (n :: (labs ++ sc.LL)) Γ g3 ρ3 σ3 H3 → Step sc.LL g H g3 H3 ∧ Sta X.vm P sc.LL Γ g3 ρ3 σ3 H3 := fun st3 s3 =>
    have h := st1.trans (st3.sub subL)
    ⟨h, s3.loc.down s.loc h, s3.cells⟩
  by_cases hi' : i < ds.length
  · refine .inr ?_
    obtain ⟨go, yl⟩ := wk i ds[i] (List.getElem?_eq_getElem hi')
    rw [List.drop_eq_getElem_cons hi'] at e2
    unfold forL at e2
    cases et : t ds[i] ρ2 with
    | none => rw [et] at e2; cases e2
    | some ρ3 =>
      rw [et] at e2
      dsimp only at e2
      refine ⟨go, fun σ' H' => ∃ m', m' < ds.length - i ∧ (m' = ds.length - (i + 1) ∧ i + 1 ≤ ds.length ∧ ∃ ρ' g', forL t sb (ds.drop (i + 1)) ρ' = some o ∧ Sta X.vm P (n :: (labs ++ sc.LL)) Γ g' ρ' σ' H' ∧ Step (n :: (labs ++ sc.LL)) g1 H1 g' H'), fun σ' H' h => h, fun x H3 y => ?_⟩
      obtain ⟨x3, f, r, of, sub⟩ := yl x H3 y
      have s3 := s2.ext x3
      have cell : CellOk X.vm P g2 H3 (me.kindI n) ds[i] (some x) := fps_cell s.loc r of hn fun a ha => by
        rw [hg1]
        obtain ⟨u, hu⟩ : ∃ u, H1 a = some u := by
          rcases lb a (sub a ha) with y | y
          · cases q : H1 a with
            | none => have := y.2; rw [q] at this; exact this.elim
            | some u => exact ⟨u, rfl⟩
          · cases q : H1 a with
            | none => exact absurd (x1.nope q) (y.there s.loc)
            | some u => exact ⟨u, rfl⟩
        exact st2.lk a (by rw [hu]; simp) (lkI a (sub a ha))
      refine kg P _ g2 ρ2 σ2 H3 ds[i] x ρ3 _ s3 cell et fun σ4 s4 _ => ?_
      have st3 : Step (n :: (labs ++ sc.LL)) g1 H1 g2 H3 := st2.trans (.ext x3)
      have again : ∀ {ρ5 : List D} {σ5 : L2.St} {g5 : Addr → Nat} {H5 : Hp}, forL t sb (ds.drop (i + 1)) ρ5 = some o → Step (n :: (labs ++ sc.LL)) g2 H3 g5 H5 → Sta X.vm P (n :: (labs ++ sc.LL)) Γ g5 ρ5 σ5 H5 →
          ∃ m', m' < ds.length - i ∧ (m' = ds.length - (i + 1) ∧ i + 1 ≤ ds.length ∧ ∃ ρ' g', forL t sb (ds.drop (i + 1)) ρ' = some o ∧ Sta X.vm P (n :: (labs ++ sc.LL)) Γ g' ρ' σ5 H5 ∧ Step (n :: (labs ++ sc.LL)) g1 H1 g' H5) := fun {ρ5 σ5 g5 H5} e5 st5 s5 =>
        ⟨_, by omega, rfl, hi', ρ5, g5, e5, s5, st3.trans st5⟩
      cases eb : sb ρ3 with
      | none => rw [eb] at e2; cases e2
      | some o3 =>
        rw [eb] at e2
        refine kb P g2 ρ3 σ4 H3 o3 _ s4 eb ?_
        cases o3 with
        | nx ρ5 => exact fun g5 σ5 H5 st5 s5 => again e2 st5 s5
        | ct ρ5 => exact fun g5 σ5 H5 st5 s5 => again e2 st5 s5
        | rt d =>
          cases e2
          exact wantS_sub (D := De) (sc := sc) (sc' := { sc with LL := n :: (labs ++ sc.LL), Γc := Γ }) subL rfl rfl rfl s.loc (st1.trans (st3.sub subL)) w (.inl ⟨d, rfl⟩) Γ
        | ex c ρ5 =>
          cases e2
          exact wantS_sub (D := De) (sc := sc) (sc' := { sc with LL := n :: (labs ++ sc.LL), Γc := Γ }) subL rfl rfl rfl s.loc (st1.trans (st3.sub subL)) w (.inr ⟨c, ρ5, rfl⟩) Γ
  · have : i = ds.length := by omega
    subst this
    refine .inl ⟨wstop, ?_⟩
    rw [List.drop_length] at e2
    cases e2
    obtain ⟨h1, h2⟩ := back st2 s2
    exact w g2 σ2 H2 h1 h2
theorem sx_for {iter tg : Expr} {body : List Stmt} {si : List D → Option (List D)} {t : Tv} {sb : Sv} {labs : List Nat} {me : Md} {S : List Nat} (n : Nat) (hc : X.calm = true) (hp : PassesOwn (model X.prog X.w) X.A X.env X.xe)
    (hi : EI X sc.LL Γ tg iter si labs me) (hg : EG X Γ tg (me.kindI n) t Γ1 S) (hb : SS X W { sc with LL := n :: (labs ++ sc.LL), Γc := Γ } Γ1 body sb Γ)
    (hs : ∀ x, foldedSetIterable iter X.env x = pure x := by intro _; rfl) (hn : n ≠ 0 := by decide) : SX X W sc Γ (.For tg iter body [] pos) (sFor si t sb) Γ := by
  obtain ⟨wi, pi, ki⟩ := hi
  obtain ⟨tgt, pg, kg⟩ := hg
  obtain ⟨tb, pb, kb⟩ := hb
  refine ⟨_, ps_for hp hc pi pg pb hs, fun P g ρ σ H o De s e w => ?_⟩
  obtain ⟨ds, e1, e⟩ := bind_some e
  exact for_run kg kb hn s (fun R q => ki P g ρ σ H ds R s e1 fun J H' x _ it => q J H' x it) e w
end
end VV

/-! ## VComp -/
namespace VV
open PySem PySem.Spec PyProof.Rows L2

/-! ### while -/
def whileL (c : List D → Option Bool) (b : Sv) : Nat → List D → Option Out
  | 0, _ => none
  | k + 1, ρ => match c ρ with
    | none => none
    | some false => some (.nx ρ)
    | some true => match b ρ with
      | some (.nx ρ2) => whileL c b k ρ2
      | some (.ct ρ2) => whileL c b k ρ2
      | o => o
def fuel : Nat := 1000000000
def sWhile (c : List D → Option Bool) (b : Sv) : Sv := fun ρ => whileL c b fuel ρ
theorem whileL_mono {c : List D → Option Bool} {b : Sv} {o : Out} : ∀ {n : Nat} {ρ : List D}, whileL c b n ρ = some o → ∀ {m : Nat}, n ≤ m → whileL c b m ρ = some o
  | 0, _, h, _, _ => by cases h
  | n + 1, ρ, h, 0, hm => by omega
  | n + 1, ρ, h, m + 1, hm => by
    unfold whileL at h ⊢
    cases hc : c ρ with
    | none => rw [hc] at h; cases h
    | some k =>
      rw [hc] at h
      cases k with
      | false => exact h
      | true =>
        dsimp only at h ⊢
        cases hb : b ρ with
        | none => rw [hb] at h; cases h
        | some o' =>
          rw [hb] at h
          cases o' with
          | nx ρ2 => exact whileL_mono h (by omega)
          | ct ρ2 => exact whileL_mono h (by omega)
          | rt d => exact h
          | ex c' ρ2 => exact h
section
variable {X : Cx} {W : L2.WX} {sc : Sc} {Γ Γ1 : List Kd} {pos : Pos}
theorem sx_while {c : Expr} {body : List Stmt} {s : List D → Option Bool} {sb : Sv} (hp : PassesOwn (model X.prog X.w) X.A X.env X.xe) (hc : ET X sc.LL Γ c s) (hb : SS X W { sc with Γc := Γ } Γ body sb Γ) : SX X W sc Γ (.While c body [] pos) (sWhile s sb) Γ := by
  obtain ⟨tc, pc, kc⟩ := hc
  obtain ⟨tb, pb, kb⟩ := hb
  refine ⟨_, ps_while hp pc pb, fun P g ρ σ H o De st e w => ?_⟩
  refine ⟨fun m σ' H' => ∃ ρ' g', whileL s sb m ρ' = some o ∧ Sta X.vm P sc.LL Γ g' ρ' σ' H' ∧ Step sc.LL g H g' H', ⟨fuel, ρ, g, e, st, .refl⟩, ?_⟩
  rintro m σ2 H2 ⟨ρ2, g2, e2, s2, st2⟩
  cases m with
  | zero => cases e2
  | succ k =>
    unfold whileL at e2
    cases h : s ρ2 with
    | none => rw [h] at e2; cases e2
    | some b =>
      rw [h] at e2
      refine kc P g2 ρ2 σ2 H2 b _ s2 h fun H3 x3 => ?_
      cases b with
      | false =>
        cases e2
        exact iteF (w g2 σ2 H3 (st2.trans (.ext x3)) (s2.ext x3))
      | true =>
        dsimp only at e2
        refine iteT ⟨fun σ' H' => ∃ m', m' < k + 1 ∧ ∃ ρ' g', whileL s sb m' ρ' = some o ∧ Sta X.vm P sc.LL Γ g' ρ' σ' H' ∧ Step sc.LL g H g' H', fun σ' H' h => h, ?_⟩
        cases eb : sb ρ2 with
        | none => rw [eb] at e2; cases e2
        | some o3 =>
          rw [eb] at e2
          refine kb P g2 ρ2 σ2 H3 o3 _ (s2.ext x3) eb ?_
          have st3 : Step sc.LL g H g2 H3 := st2.trans (.ext x3)
          cases o3 with
          | nx ρ5 => exact fun g5 σ5 H5 st5 s5 => ⟨k, Nat.lt_succ_self k, ρ5, g5, e2, s5, st3.trans st5⟩
          | ct ρ5 => exact fun g5 σ5 H5 st5 s5 => ⟨k, Nat.lt_succ_self k, ρ5, g5, e2, s5, st3.trans st5⟩
          | rt d => cases e2; exact fun v g' H' s' l r => w v g' H' (st3.trans s') l r
          | ex c' ρ5 => cases e2; exact fun C g' σ' H' m s' st' => w C g' σ' H' m (st3.trans s') st'
end

/-! ### list comprehensions -/
def lcL (t : Tv) (c : List D → Option Bool) (e : Ev) (ρ : List D) : List D → Option (List D)
  | [] => some []
  | x :: xs => do
    let ρ1 ← t x ρ
    let b ← c ρ1
    if b then do
      let y ← e ρ1
      let r ← lcL t c e ρ xs
      some (y :: r)
    else lcL t c e ρ xs
def eLc (it : List D → Option (List D)) (t : Tv) (c : List D → Option Bool) (e : Ev) : Ev := fun ρ => do
  let xs ← it ρ
  let ys ← lcL t c e ρ xs
  some (.lst ys)
def wipeK (Γ : List Kd) : List Nat → List Kd
  | [] => Γ
  | v :: vs => (wipeK Γ vs).set v .dead
theorem Cells.kill {mg : Mg} {P : Fm} {g : Addr → Nat} {H : Hp} {ov : Option V} : ∀ {Γ : List Kd} {ρ : List D} {σ : L2.St} (i : Nat), Cells mg P g H Γ ρ σ → Cells mg P g H (Γ.set i .dead) ρ (σ.set i ov)
  | [], [], [], _, _ => trivial
  | _ :: _, _ :: _, _ :: _, 0, h => ⟨trivial, h.2⟩
  | _ :: _, _ :: _, _ :: _, i + 1, h => ⟨h.1, Cells.kill i h.2⟩
  | [], _ :: _, _, _, h => h.elim
  | [], [], _ :: _, _, h => h.elim
  | _ :: _, [], _, _, h => h.elim
  | _ :: _, _ :: _, [], _, h => h.elim
theorem Cells.wipe {mg : Mg} {P : Fm} {g : Addr → Nat} {H : Hp} {Γ : List Kd} {ρ : List D} {σ : L2.St} (h : Cells mg P g H Γ ρ σ) : ∀ vs : List Nat, Cells mg P g H (wipeK Γ vs) ρ (wipe σ vs)
  | [] => h
  | v :: vs => Cells.kill v (Cells.wipe h vs)
def Md.lc : Md → Md
  | .flat => .al false .new [] true
  | .al _ .new [] nd => .al true .new [] nd
  | .al _ rt L _ => .al true .new (match rt with | .old n => n :: L | _ => L) false
theorem lcL_cons {t : Tv} {c : List D → Option Bool} {e : Ev} {ρ : List D} {x : D} {xs ys : List D} (h : lcL t c e ρ (x :: xs) = some ys) : ∃ ρ1 b, t x ρ = some ρ1 ∧ c ρ1 = some b ∧ ((b = true ∧ ∃ y r, e ρ1 = some y ∧ lcL t c e ρ xs = some r ∧ ys = y :: r) ∨ (b = false ∧ lcL t c e ρ xs = some ys)) := by
  unfold lcL at h
  obtain ⟨ρ1, h1, h⟩ := bind_some h
  obtain ⟨b, h2, h⟩ := bind_some h
  refine ⟨ρ1, b, h1, h2, ?_⟩
  cases b with
  | true =>
    simp only [if_true] at h
    obtain ⟨y, h3, h⟩ := bind_some h
    obtain ⟨r, h4, h⟩ := bind_some h
    cases h
    exact .inl ⟨rfl, y, r, h3, h4, rfl⟩
  | false => exact .inr ⟨rfl, by simpa using h⟩
/-- the nodes of what is made so far, seen from H -/
def AccOk (P : Fm) (g : Addr → Nat) (H H' : Hp) : Md → List Addr → Prop
  | .flat, f => f = []
  | .al _ .new [] nd, f => (∀ a ∈ f, New H H' a) ∧ (nd = true → f.Nodup)
  | .al _ rt L _, f => ∀ a ∈ f, New H H' a ∨ Old P g (match rt with | .old n => n :: L | _ => L) a
theorem AccOk.ext {P : Fm} {g : Addr → Nat} {H H1 H2 : Hp} {m : Md} {f : List Addr} (h : AccOk P g H H1 m f) (e : ∀ a ∈ f, ∀ u, H1 a = some u → H2 a = some u) : AccOk P g H H2 m f := by
  have ne : ∀ a ∈ f, New H H1 a → New H H2 a := fun a ha n => ⟨n.1, mut_of n.2 (e a ha)⟩
  cases m with
  | flat => exact h
  | al fr rt L nd =>
    cases rt with
    | new =>
      cases L with
      | nil => exact ⟨fun a ha => ne a ha (h.1 a ha), h.2⟩
      | cons x r => exact fun a ha => (h a ha).imp (ne a ha) id
    | old n => exact fun a ha => (h a ha).imp (ne a ha) id
    | unk => exact fun a ha => (h a ha).imp (ne a ha) id
theorem AccOk.nil {P : Fm} {g : Addr → Nat} {H H1 : Hp} {m : Md} : AccOk P g H H1 m [] := by
  cases m with
  | flat => rfl
  | al fr rt L nd =>
    cases rt with
    | new =>
      cases L with
      | nil => exact ⟨(fun a ha => nomatch ha), fun _ => List.nodup_nil⟩
      | cons x r => exact fun a ha => nomatch ha
    | old n => exact fun a ha => nomatch ha
    | unk => exact fun a ha => nomatch ha
/-- one more: its value was told from H1, where all of f stood -/
theorem AccOk.add {mg : Mg} {P : Fm} {LL : List Nat} {g g' : Addr → Nat} {H H1 H2 : Hp} {m : Md} {f : List Addr} {d : D} {v : V} (h : AccOk P g H H2 m f) (th : ∀ a ∈ f, H1 a ≠ none) (e : Ext H H1) (e2 : Ext H1 H2) (w : Val mg P g' H1 H2 m d v)
    (l : Loc P LL g H) (hg : ∀ a, H a ≠ none → g' a = g a) (hn : ∀ a L, H a = none → Old P g' L a → New H H2 a) : ∃ f', Rep mg H2 d v f' ∧ AccOk P g H H2 m (f ++ f') ∧ ∀ a ∈ f', New H1 H2 a ∨ ∃ L, Old P g' L a := by
  have old : ∀ {L : List Nat} {a : Addr}, Old P g' L a → New H H2 a ∨ Old P g L a := fun {L a} o => by
    by_cases h0 : H a = none
    · exact .inl (hn a L h0 o)
    · right
      unfold Old at o ⊢
      rw [hg a h0] at o
      exact o
  cases m with
  | flat =>
    obtain rfl : f = [] := h
    exact ⟨[], w, rfl, (fun a ha => nomatch ha)⟩
  | al fr rt L nd =>
    obtain ⟨f', r, o, z⟩ := w
    have last : ∀ a ∈ f', New H1 H2 a ∨ ∃ L, Old P g' L a := fun a ha => by
      rcases o a ha with ⟨_, y⟩ | ⟨_, ⟨_, y⟩ | y⟩
      · cases rt with
        | new => exact .inl y
        | old n => exact .inr ⟨_, y⟩
        | unk => exact y.elim
      · exact .inl y
      · exact .inr ⟨_, y⟩
    suffices hh : AccOk P g H H2 (.al fr rt L nd) (f ++ f') from ⟨f', r, hh, last⟩
    cases rt with
    | new =>
      cases L with
      | nil =>
        have nw : ∀ a ∈ f', New H1 H2 a := fun a ha => by
          rcases o a ha with ⟨_, y⟩ | ⟨_, ⟨_, y⟩ | y⟩
          · exact y
          · exact y
          · cases y.1
        refine ⟨fun a ha => ?_, fun hnd => List.nodup_append.mpr ⟨h.2 hnd, z.1 hnd, ?_⟩⟩
        · rcases List.mem_append.mp ha with ha | ha
          · exact h.1 a ha
          · exact (nw a ha).back e
        · intro a ha b hb hab
          subst hab
          exact th a ha (nw a hb).1
      | cons x rL =>
        intro a ha
        rcases List.mem_append.mp ha with ha | ha
        · exact h a ha
        · rcases o a ha with ⟨_, y⟩ | ⟨_, ⟨_, y⟩ | y⟩
          · exact .inl (New.back y e)
          · exact .inl (y.back e)
          · exact old y
    | old n =>
      intro a ha
      rcases List.mem_append.mp ha with ha | ha
      · exact h a ha
      · rcases o a ha with ⟨_, y⟩ | ⟨_, ⟨_, y⟩ | y⟩
        · refine old ⟨?_, y.2⟩
          rw [List.mem_singleton.mp y.1]
          exact List.mem_cons_self
        · exact .inl (y.back e)
        · exact old ⟨List.mem_cons_of_mem _ y.1, y.2⟩
    | unk =>
      intro a ha
      rcases List.mem_append.mp ha with ha | ha
      · exact h a ha
      · rcases o a ha with ⟨_, y⟩ | ⟨_, ⟨_, y⟩ | y⟩
        · exact y.elim
        · exact .inl (y.back e)
        · exact old y
theorem AccOk.val {mg : Mg} {P : Fm} {g : Addr → Nat} {H H2 : Hp} {m : Md} {f : List Addr} {ds : List D} {vs : List V} {p : Addr} (h : AccOk P g H H2 m f) (r : RepL mg H2 ds vs f) (hp : H2 p = some (.lst vs)) (hn : H p = none) (hf : p ∉ f) : Val mg P g H H2 m.lc (.lst ds) (.ref p) := by
  have nw : New H H2 p := ⟨hn, by rw [hp]; trivial⟩
  have rr : Rep mg H2 (.lst ds) (.ref p) (p :: f) := by
    simp only [Rep]
    exact ⟨p, vs, f, rfl, hp, r, rfl⟩
  have gen : ∀ (L : List Nat), (∀ a ∈ f, New H H2 a ∨ Old P g L a) → ∀ nd : Bool, (nd = true → f.Nodup) → Val mg P g H H2 (.al true .new L nd) (.lst ds) (.ref p) := fun L hh nd hnd => by
    refine ⟨p :: f, rr, fun a ha => ?_, .cons hf hnd⟩
    rcases List.mem_cons.mp ha with rfl | ha
    · exact .inl ⟨rfl, nw⟩
    · exact .inr ⟨.inl fun e => by cases e; exact hf ha, (hh a ha).imp (fun y => ⟨rfl, y⟩) id⟩
  cases m with
  | flat =>
    obtain rfl : f = [] := h
    refine ⟨[p], rr, fun a ha => ?_, .of (by simp)⟩
    rw [List.mem_singleton.mp ha]
    exact .inl ⟨rfl, nw⟩
  | al fr rt L nd =>
    cases rt with
    | new =>
      cases L with
      | nil => exact gen [] (fun a ha => .inl (h.1 a ha)) nd h.2
      | cons x r => exact gen _ h false fun z => nomatch z
    | old n => exact gen _ h false fun z => nomatch z
    | unk => exact gen _ h false fun z => nomatch z

theorem RepL.updL {mg : Mg} {H : Hp} {a : Addr} {o : HO} {us : List V} {ds : List D} {vs : List V} {f : List Addr} (h : RepL mg H ds vs f) (hn : a ∉ f) (ha : H a = some (.lst us)) : RepL mg (upd H a o) ds vs f := by
  refine h.keep (fun b hb => ?_) ⟨fun b xs r => ?_, fun b o vs r => ?_⟩
  · have : b ≠ a := fun z => hn (by rw [← z]; exact hb)
    exact ⟨fun u _ r => by unfold Rd at r ⊢; rw [upd_ne this]; exact r, fun vs r => by rw [upd_ne this]; exact r⟩
  · have : b ≠ a := fun z => by
      rw [z, ha] at r
      cases r
    rw [upd_ne this]
    exact r
  · have : b ≠ a := fun z => by rw [z, ha] at r; cases r
    rw [upd_ne this]
    exact r
section
variable {X : Cx} {W : L2.WX} {LL : List Nat} {Γ Γ1 : List Kd} {pos : Pos}
/-- the reading of a comprehension -/
theorem lc_read {mg : Mg} {wi : TI} {own : List (Str × Nat)} {si : List D → Option (List D)} {t : Tv} {c : List D → Option Bool} {se : Ev} {labs : List Nat} {me m2 : Md} {S : List Nat} {n : Nat} (hn : n ≠ 0) (hS : ∀ i ∈ S, i ∈ own.map (·.2))
    {P : Fm} {g : Addr → Nat} {ρ : List D} {σ : L2.St} {H : Hp} {d : D} {Q : VK} (s : Sta mg P LL Γ g ρ σ H) (e : eLc si t c se ρ = some d)
    (ki : ∀ ds (R : It → Hp → Prop), si ρ = some ds → (∀ J H', Ext H H' → ds.length ≤ sizeLine → Iter mg P g H H' J labs me ds → R J H') → wi σ H R)
    (q : ∀ v H', Ext H H' → Val mg P g H H' m2.lc d v → Q v H') :
    tLc wi (canG mg (wipeK Γ (own.map (·.2))) (me.kindI n) t Γ1 S) (canB mg LL Γ1 c) (canT mg LL Γ1 se m2) (own.map (·.2)) σ H Q := by
  obtain ⟨ds, e1, e⟩ := bind_some e
  obtain ⟨ys, e2, e⟩ := bind_some e
  cases e
  refine ki ds _ e1 fun J H1 x1 hz it => ?_
  obtain ⟨fpI, lb, walk⟩ := it
  intro Dp hD
  have s1 : Sta mg P LL Γ (relab g H H1 .non n n) ρ σ H1 := s.relab x1
  have hg1 : ∀ a, H a ≠ none → relab g H H1 .non n n a = g a := fun a h => relab_old h
  generalize eg1 : relab g H H1 .non n n = g1 at s1 hg1
  refine ⟨fun i m Hc => m = ds.length - i ∧ i ≤ ds.length ∧ ∃ done rest vs f, ys = done ++ rest ∧ lcL t c se ρ (ds.drop i) = some rest ∧ Hc Dp = some (.lst vs) ∧ vs.length ≤ i ∧ RepL mg Hc done vs f ∧ Dp ∉ f ∧ AccOk P g H Hc m2 f ∧ Ext H1 Hc,
    ⟨ds.length, rfl, Nat.zero_le _, [], ys, [], [], rfl, e2, upd_same, Nat.le_refl _, by simp [RepL], by simp, .nil, Ext.put hD⟩, ?_⟩
  rintro i m Hc ⟨rfl, hil, done, rest, vs, f, rfl, e3, hDc, hlen, rl, nD, acc, xc⟩
  obtain ⟨wk, wstop⟩ := walk Hc (xc.kept _)
  by_cases hi' : i < ds.length
  · refine .inr ?_
    obtain ⟨go, yl⟩ := wk i ds[i] (List.getElem?_eq_getElem hi')
    rw [List.drop_eq_getElem_cons hi'] at e3
    obtain ⟨ρ1, b, et, ec, hb⟩ := lcL_cons e3
    refine ⟨go, fun H' => ∃ m', m' < ds.length - i ∧ (m' = ds.length - (i + 1) ∧ i + 1 ≤ ds.length ∧ ∃ done' rest' vs f, done ++ rest = done' ++ rest' ∧ lcL t c se ρ (ds.drop (i + 1)) = some rest' ∧ H' Dp = some (.lst vs) ∧ vs.length ≤ i + 1 ∧ RepL mg H' done' vs f ∧ Dp ∉ f ∧ AccOk P g H H' m2 f ∧ Ext H1 H'), fun H' h => h, fun x H3 y => ?_⟩
    obtain ⟨x3, fx, r, of, sub⟩ := yl x H3 y
    have x13 : Ext H1 H3 := xc.trans x3
    have s3 : Sta mg P LL (wipeK Γ (own.map (·.2))) g1 ρ (wipe σ (own.map (·.2))) H3 := ⟨s1.loc.ext x13, Cells.wipe (s1.ext x13).cells _⟩
    refine ⟨P, LL, g1, ρ, ds[i], ρ1, s3, fps_cell s.loc r of hn (fun a ha => by rw [eg1]), et, fun σ4 s4 w4 => ⟨?_, ?_⟩⟩
    · rw [w4 _ hS]
      -- wiping twice
      apply List.ext_getElem?
      intro j
      rw [wipe_get, wipe_get]
      split
      · cases σ[j]? <;> rfl
      · rfl
    refine ⟨P, g1, ρ1, b, s4, ec, fun H4 x4 => ?_⟩
    have x34 : Ext Hc H4 := x3.trans x4
    rcases hb with ⟨rfl, y', r', ey, er, rfl⟩ | ⟨rfl, er⟩
    · refine iteT ⟨P, g1, ρ1, y', s4.ext x4, ey, fun v5 H5 x5 w5 => ?_⟩
      have x35 : Ext Hc H5 := x34.trans x5
      have hD5 : H5 Dp = some (.lst vs) := x35 _ _ hDc
      have x05 : Ext H H4 := x1.trans (xc.trans x34)
      obtain ⟨f', rf', acc', last⟩ := AccOk.add (mg := mg) (LL := LL) (acc.ext fun a ha u h => x35 a u h) (fun a ha z => rl.there a ha (x34.nope z)) x05 x5 w5 s.loc hg1 fun a L h0 o => by
        refine ⟨h0, ?_⟩
        by_cases hz0 : g1 a = 0
        · exact absurd h0 (s.loc.out a (o.2 hz0))
        · obtain ⟨u, eu, mu | fu⟩ := s1.loc.at_ a hz0
          · have := (xc.trans (x34.trans x5)) a u eu
            rw [this]; exact mu
          · exact absurd h0 (s.loc.fzn fu)
      have hDf' : Dp ∉ f' := fun hm => by
        rcases last Dp hm with y | ⟨L, y⟩
        · have := y.1
          rw [x34 _ _ hDc] at this
          cases this
        · exact y.there s1.loc hD
      have nDf : Dp ∉ f ++ f' := fun hm => (List.mem_append.mp hm).elim nD hDf'
      refine ⟨vs, hD5, Nat.lt_of_le_of_lt hlen (Nat.lt_of_lt_of_le hi' hz), _, by omega, rfl, hi', done ++ [y'], r', vs ++ [v5], f ++ f', by simp, er, upd_same, by simp; omega, ?_, nDf, ?_, ?_⟩
      · exact ((rl.ext x35).append (.one rf')).updL nDf hD5
      · exact acc'.ext fun a ha u h => by rw [upd_ne (fun z => nDf (by rw [← z]; exact ha))]; exact h
      · intro a u h
        rw [upd_ne (ne_of_none h hD)]
        exact x35 a u (xc a u h)
    · refine iteF ⟨_, by omega, rfl, hi', done, rest, vs, f, rfl, er, x34 _ _ hDc, Nat.le_succ_of_le hlen, rl.ext x34, nD, acc.ext fun a ha u h => x34 a u h, xc.trans x34⟩
  · have : i = ds.length := by omega
    subst this
    refine .inl ⟨wstop, ?_⟩
    rw [List.drop_length] at e3
    cases e3
    have w := acc.val rl hDc (x1.nope hD) nD
    rw [← List.append_nil done] at w
    exact q _ Hc (x1.trans xc) w
theorem ex_lc {elt tg iter : Expr} {ifs : List Expr} {scope : Scope} {own : List (Str × Nat)} {si : List D → Option (List D)} {t : Tv} {c : List D → Option Bool} {se : Ev} {labs : List Nat} {me m2 : Md} {S : List Nat} (n : Nat)
    (hc : X.calm = true) (hN : X.N.Nodup) (hi : EI X LL Γ tg iter si labs me) (ok : BlkOk X.N X.env.scope scope own)
    (hg : ∀ (s : Shared) (H : Hp) (C : Addr) (cl : List (Str × Addr)) (fp : List Addr), EG (X.blk s H scope (compEnvC scope cl C X.env) fp) (wipeK Γ (own.map (·.2))) tg (me.kindI n) t Γ1 S)
    (ht : ∀ (s : Shared) (H : Hp) (C : Addr) (cl : List (Str × Addr)) (fp : List Addr), ETs (X.blk s H scope (compEnvC scope cl C X.env) fp) LL Γ1 ifs c)
    (he : ∀ (s : Shared) (H : Hp) (C : Addr) (cl : List (Str × Addr)) (fp : List Addr), EX (X.blk s H scope (compEnvC scope cl C X.env) fp) LL Γ1 elt se m2)
    (hS : ∀ i ∈ S, i ∈ own.map (·.2) := by decide) (hs : ∀ x, foldedSetIterable iter X.env x = pure x := by intro _; rfl) (hn : n ≠ 0 := by decide) :
    EX X LL Γ (.ListComp elt [⟨tg, iter, ifs, 0⟩] scope pos) (eLc si t c se) m2.lc := by
  obtain ⟨wi, pi, ki⟩ := hi
  refine ⟨_, pe_lc (g := canG X.vm (wipeK Γ (own.map (·.2))) (me.kindI n) t Γ1 S) (tt := canB X.vm LL Γ1 c) (te := canT X.vm LL Γ1 se m2) hc hN pi ok (fun s H C cl fp => eg_can (hg s H C cl fp)) (fun s H C cl fp => ets_can (ht s H C cl fp)) (fun s H C cl fp => ex_can (he s H C cl fp)) hs, fun P g ρ σ H d Q s e q => ?_⟩
  exact lc_read hn hS s e (fun ds R h => ki P g ρ σ H ds R s h) q
theorem sx_setLc {i : Nat} {y : Str} {py : Pos} {spos : Pos} {sc : Sc} {elt tg iter : Expr} {ifs : List Expr} {scope : Scope} {own : List (Str × Nat)} {si : List D → Option (List D)} {t : Tv} {c : List D → Option Bool} {se : Ev} {labs : List Nat} {me m2 : Md} {S : List Nat} (n n' k' : Nat)
    (hc : X.calm = true) (hN : X.N.Nodup) (hy : X.N[i]? = some y) (hyl : X.env.scope.names.lookup y = some .local)
    (hsw : swapsWith (.ListComp elt [⟨tg, iter, ifs, 0⟩] scope pos) (some (.Name y py)) spos.line X.env = pure true) (hi : EI X sc.LL Γ tg iter si labs me) (ok : BlkOk X.N X.env.scope scope own)
    (hg : ∀ (s : Shared) (H : Hp) (C : Addr) (cl : List (Str × Addr)) (fp : List Addr), EG (X.blk s H scope (compEnvC scope cl C X.env) fp) (wipeK Γ (own.map (·.2))) tg (me.kindI n) t Γ1 S)
    (ht : ∀ (s : Shared) (H : Hp) (C : Addr) (cl : List (Str × Addr)) (fp : List Addr), ETs (X.blk s H scope (compEnvC scope cl C X.env) fp) sc.LL Γ1 ifs c)
    (he : ∀ (s : Shared) (H : Hp) (C : Addr) (cl : List (Str × Addr)) (fp : List Addr), EX (X.blk s H scope (compEnvC scope cl C X.env) fp) sc.LL Γ1 elt se m2)
    (hS : ∀ i ∈ S, i ∈ own.map (·.2) := by decide) (hs : ∀ x, foldedSetIterable iter X.env x = pure x := by intro _; rfl) (hn : n ≠ 0 := by decide) (h1 : n' ≠ 0 := by decide) (h2 : k' ≠ 0 := by decide) :
    SX X W sc Γ (.Assign [.Name y py] (.ListComp elt [⟨tg, iter, ifs, 0⟩] scope pos) spos) (sSet i (eLc si t c se)) (Γ.set i (m2.lc.kind n' k')) := by
  obtain ⟨wi, pi, ki⟩ := hi
  refine ⟨_, ps_setLc (g := canG X.vm (wipeK Γ (own.map (·.2))) (me.kindI n) t Γ1 S) (tt := canB X.vm sc.LL Γ1 c) (te := canT X.vm sc.LL Γ1 se m2) hc hN hy hyl hsw pi ok (fun s H C cl fp => eg_can (hg s H C cl fp)) (fun s H C cl fp => ets_can (ht s H C cl fp)) (fun s H C cl fp => ex_can (he s H C cl fp)) hs, fun P g ρ σ H o De s e w => ?_⟩
  obtain ⟨d, e1, e⟩ := bind_some e
  cases e
  refine lc_read hn hS s e1 (fun ds R h => ki P g ρ σ H ds R s h) fun v H' x vl => ?_
  exact w (relab g H H' v n' k') _ H' (.relab x) ⟨s.loc.relab x, Cells.set i (s.cells.relab s.loc x) (vl.cell s.loc h1 h2)⟩
end
end VV

/-! ## VList -/
namespace VV
open PySem PySem.Spec PyProof.Rows L2

/-! ### parts of lists -/
section
variable {mg : Mg} {H : Hp}
theorem RepL.splitAt : ∀ {ds : List D} {vs : List V} {f : List Addr} (n : Nat), RepL mg H ds vs f → ∃ f1 f2, f = f1 ++ f2 ∧ RepL mg H (ds.take n) (vs.take n) f1 ∧ RepL mg H (ds.drop n) (vs.drop n) f2
  | ds, vs, f, 0, h => ⟨[], f, rfl, by simp [RepL], by simpa using h⟩
  | [], _, _, n + 1, h => by
    simp only [RepL] at h
    obtain ⟨rfl, rfl⟩ := h
    exact ⟨[], [], rfl, by simp [RepL], by simp [RepL]⟩
  | d :: ds, _, _, n + 1, h => by
    simp only [RepL] at h
    obtain ⟨v, r, f1, f2, rfl, h1, h2, rfl⟩ := h
    obtain ⟨g1, g2, rfl, a, b⟩ := RepL.splitAt n h2
    refine ⟨f1 ++ g1, g2, by simp, ?_, by simpa using b⟩
    simp only [List.take_succ_cons, RepL]
    exact ⟨v, _, f1, g1, rfl, h1, a, rfl⟩
def cutG {α : Type} (xs : List α) (lo hi : Option Int) : List α := (xs.drop (HT.sIx xs.length 0 lo)).take (HT.sIx xs.length xs.length hi - HT.sIx xs.length 0 lo)
theorem RepL.cut {ds : List D} {vs : List V} {f : List Addr} (lo hi : Option Int) (h : RepL mg H ds vs f) : ∃ f1 f' f2, f = f1 ++ f' ++ f2 ∧ RepL mg H (cutG ds lo hi) (cutV vs lo hi) f' := by
  unfold cutG cutV
  rw [h.length]
  obtain ⟨f1, g, rfl, _, b⟩ := h.splitAt (HT.sIx ds.length 0 lo)
  obtain ⟨g1, g2, rfl, c, _⟩ := b.splitAt (HT.sIx ds.length ds.length hi - HT.sIx ds.length 0 lo)
  exact ⟨f1, g1, g2, by simp, c⟩
theorem RepL.flats : ∀ {ds : List D} {vs : List V} {f : List Addr}, RepL mg H ds vs f → D.isFlatL ds = true → RepL mg H ds vs [] := fun h e => by
  have := h.flat e
  subst this
  exact h
theorem RepL.rep {ds : List D} {vs : List V} (h : RepL mg H ds vs []) : ∀ k : Nat, RepL mg H (List.replicate k ds).flatten (List.replicate k vs).flatten []
  | 0 => by simp [RepL]
  | k + 1 => by
    rw [List.replicate_succ, List.replicate_succ, List.flatten_cons, List.flatten_cons]
    exact h.append (RepL.rep h k)
end
/-- what a list or tuple has -/
theorem seq_of {mg : Mg} {P : Fm} {g : Addr → Nat} {H H1 : Hp} {m : Md} {l : List D} {v : V} (h : Val mg P g H H1 m (.lst l) v) : ∃ a vs, v = .ref a ∧ H1 a = some (.lst vs) ∧ vs.length = l.length ∧ (∀ lo hi, ValL mg P g H H1 m.child (cutG l lo hi) (cutV vs lo hi)) ∧ ValL mg P g H H1 m.child l vs := by
  obtain ⟨fp, r, o, lb, ch⟩ := h.labs
  simp only [Rep] at r
  obtain ⟨a, vs, f, rfl, ha, h2, rfl⟩ := r
  refine ⟨a, vs, rfl, ha, h2.length, fun lo hi => ?_, ?_⟩
  · obtain ⟨f1, f', f2, rfl, r'⟩ := h2.cut lo hi
    exact ⟨f', r', ch f' ⟨f1, f2, .inl ⟨a, rfl, rfl⟩⟩⟩
  · exact ⟨f, h2, ch f ⟨[], [], .inl ⟨a, rfl, by simp⟩⟩⟩
theorem seq_ofT {mg : Mg} {P : Fm} {g : Addr → Nat} {H H1 : Hp} {m : Md} {l : List D} {v : V} (h : Val mg P g H H1 m (.tup l) v) : ∃ a vs, v = .ref a ∧ H1 a = some (.tup vs) ∧ vs.length = l.length ∧ (∀ lo hi, ValL mg P g H H1 m.child (cutG l lo hi) (cutV vs lo hi)) ∧ ValL mg P g H H1 m.child l vs := by
  obtain ⟨fp, r, o, lb, ch⟩ := h.labs
  have r0 := r
  simp only [Rep] at r
  obtain ⟨a, vs, rfl, ha, h2⟩ := r
  have nt : ∀ b, V.ref a = .ref b → b ∉ fp := fun b e => by cases e; exact r0.notup (.inl ha)
  refine ⟨a, vs, rfl, ha, h2.length, fun lo hi => ?_, ?_⟩
  · obtain ⟨f1, f', f2, rfl, r'⟩ := h2.cut lo hi
    exact ⟨f', r', ch f' ⟨f1, f2, .inr ⟨rfl, nt⟩⟩⟩
  · exact ⟨fp, h2, ch fp ⟨[], [], .inr ⟨by simp, nt⟩⟩⟩
theorem seq_ofS {mg : Mg} {P : Fm} {g : Addr → Nat} {H H1 : Hp} {m : Md} {l : List D} {v : V} (h : Val mg P g H H1 m (.scr l) v) : ∃ a vs, v = .ref a ∧ ScrAt mg.K H1 a vs ∧ vs.length = l.length ∧ RepL mg H1 l vs [] := by
  obtain ⟨fp, r, _⟩ := h.labs
  simp only [Rep] at r
  obtain ⟨a, vs, rfl, ha, h2, _⟩ := r
  exact ⟨a, vs, rfl, ha, h2.length, h2⟩

/-! ### slices -/
def EO (X : Cx) (LL : List Nat) (Γ : List Kd) (e : Option Expr) (sem : List D → Option (Option Int)) : Prop :=
  ∃ t, PO X e t ∧ ∀ P g ρ σ H r Q, Sta X.vm P LL Γ g ρ σ H → sem ρ = some r → (∀ H', Ext H H' → Q r H') → t σ H Q
def oNone : List D → Option (Option Int) := fun _ => some none
def oSome (s : Ev) : List D → Option (Option Int) := fun ρ => do match (← s ρ) with
  | .int i => some (some i)
  | _ => none
def dSl : D → Option Int → Option Int → Option D
  | .lst l, lo, hi => some (.lst (cutG l lo hi))
  | .scr l, lo, hi => some (.lst (cutG l lo hi))
  | .tup l, lo, hi => if HT.sIx l.length 0 lo = 0 ∧ HT.sIx l.length l.length hi = l.length then none else some (.tup (cutG l lo hi))
  | .str z, lo, hi => if z.length ≤ sizeLine then some (.str (cutS z lo hi)) else none
  | _, _, _ => none
def eSl (s : Ev) (lo hi : List D → Option (Option Int)) : Ev := fun ρ => do
  let d ← s ρ
  let l ← lo ρ
  let h ← hi ρ
  dSl d l h
section
variable {X : Cx} {LL : List Nat} {Γ : List Kd} {pos p2 : Pos} {e : Expr} {se : Ev} {m : Md} {lo hi : Option Expr} {sl sh : List D → Option (Option Int)}
theorem eo_none : EO X LL Γ none oNone := ⟨_, po_none, fun P g ρ σ H r Q s e q => by cases e; exact q H Ext.refl⟩
theorem eo_some (h : EX X LL Γ e se m) : EO X LL Γ (some e) (oSome se) := by
  obtain ⟨t, p, k⟩ := h
  refine ⟨_, po_some p, fun P g ρ σ H r Q s e q => ?_⟩
  obtain ⟨d, e1, e⟩ := bind_some e
  refine k P g ρ σ H d _ s e1 fun v H' x w => ?_
  obtain ⟨fp, rr, _⟩ := w.labs
  split at e
  · cases e
    obtain rfl := rInt rr
    exact ⟨_, rfl, q H' x⟩
  · cases e
theorem slice_parts (he : EX X LL Γ e se m) (hl : EO X LL Γ lo sl) (hh : EO X LL Γ hi sh) : ∃ te tl th, PE X e te ∧ PO X lo tl ∧ PO X hi th ∧ ∀ (P : Fm) g ρ σ H (Q : V → Option Int → Option Int → Hp → Prop) d l h, Sta X.vm P LL Γ g ρ σ H → se ρ = some d → sl ρ = some l → sh ρ = some h →
    (∀ v H', Ext H H' → Val X.vm P g H H' m d v → Q v l h H') → te σ H fun x H1 => tl σ H1 fun l H2 => th σ H2 fun u H3 => Q x l u H3 := by
  obtain ⟨te, pe, ke⟩ := he
  obtain ⟨tl, pl, kl⟩ := hl
  obtain ⟨th, ph, kh⟩ := hh
  refine ⟨te, tl, th, pe, pl, ph, fun P g ρ σ H Q d l h s e1 e2 e3 q => ?_⟩
  refine ke P g ρ σ H d _ s e1 fun v H1 x1 w => ?_
  refine kl P g ρ σ H1 l _ (s.ext x1) e2 fun H2 x2 => ?_
  refine kh P g ρ σ H2 h _ (s.ext (x1.trans x2)) e3 fun H3 x3 => ?_
  exact q v H3 (x1.trans (x2.trans x3)) (w.ext (x2.trans x3))
/-- of a list -/
theorem ex_slL (he : EX X LL Γ e se m) (hl : EO X LL Γ lo sl) (hh : EO X LL Γ hi sh) : EX X LL Γ (.Subscript e (.Slice lo hi none p2) pos) (eSl (eChk D.isLst se) sl sh) m.child.lst := by
  obtain ⟨te, tl, th, pe, pl, ph, k⟩ := slice_parts he hl hh
  refine ⟨_, pe_slice sl_list pe pl ph, fun P g ρ σ H d Q s e q => ?_⟩
  obtain ⟨d0, e1, e⟩ := bind_some e
  obtain ⟨l, e2, e⟩ := bind_some e
  obtain ⟨h, e3, e⟩ := bind_some e
  obtain ⟨e1, hc⟩ := Option.filter_eq_some_iff.mp e1
  refine k P g ρ σ H (fun x l u H3 => rSlL X.K x l u H3 Q) d0 l h s e1 e2 e3 fun v H' x w => ?_
  cases d0 with
  | lst ds =>
    cases e
    obtain ⟨a, vs, rfl, ha, _, cut, _⟩ := seq_of w
    exact ⟨a, vs, rfl, SqL.of ha, fun p hp => q _ _ (x.trans (Ext.put hp)) (val_lst (cut l h) x hp)⟩
  | _ => cases hc
/-- of a tuple (not the whole of it) -/
theorem ex_slT (he : EX X LL Γ e se m) (hl : EO X LL Γ lo sl) (hh : EO X LL Γ hi sh) : EX X LL Γ (.Subscript e (.Slice lo hi none p2) pos) (eSl (eChk D.isTup se) sl sh) m.child.tup := by
  obtain ⟨te, tl, th, pe, pl, ph, k⟩ := slice_parts he hl hh
  refine ⟨_, pe_slice sl_tup pe pl ph, fun P g ρ σ H d Q s e q => ?_⟩
  obtain ⟨d0, e1, e⟩ := bind_some e
  obtain ⟨l, e2, e⟩ := bind_some e
  obtain ⟨h, e3, e⟩ := bind_some e
  obtain ⟨e1, hc⟩ := Option.filter_eq_some_iff.mp e1
  refine k P g ρ σ H (fun x l u H3 => rSlT X.K x l u H3 Q) d0 l h s e1 e2 e3 fun v H' x w => ?_
  cases d0 with
  | tup ds =>
    unfold dSl at e
    dsimp only at e
    split at e
    · cases e
    · cases e
      obtain ⟨a, vs, rfl, ha, hlen, cut, _⟩ := seq_ofT w
      exact ⟨a, vs, rfl, .inl (.inl ha), by rw [hlen]; assumption, fun p hp => q _ _ (x.trans (Ext.put hp)) (val_tup (cut l h) hp)⟩
  | _ => cases hc
/-- of a text -/
theorem ex_slS (he : EX X LL Γ e se m) (hl : EO X LL Γ lo sl) (hh : EO X LL Γ hi sh) : EX X LL Γ (.Subscript e (.Slice lo hi none p2) pos) (eSl (eChk D.isStr se) sl sh) .flat := by
  obtain ⟨te, tl, th, pe, pl, ph, k⟩ := slice_parts he hl hh
  refine ⟨_, pe_slice sl_str pe pl ph, fun P g ρ σ H d Q s e q => ?_⟩
  obtain ⟨d0, e1, e⟩ := bind_some e
  obtain ⟨l, e2, e⟩ := bind_some e
  obtain ⟨h, e3, e⟩ := bind_some e
  obtain ⟨e1, hc⟩ := Option.filter_eq_some_iff.mp e1
  refine k P g ρ σ H (fun x l u H3 => rSlS x l u H3 Q) d0 l h s e1 e2 e3 fun v H' x w => ?_
  cases d0 with
  | str z =>
    unfold dSl at e
    dsimp only at e
    split at e
    · cases e
      obtain ⟨fp, rr, _⟩ := w.labs
      obtain rfl := rStr rr
      exact ⟨z, rfl, by assumption, q _ H' x (val_flat rep_str)⟩
    · cases e
  | _ => cases hc
end

/-! ### [x] * n, a + b, list(a), tuple(a) -/
def dRep : List D → Option D
  | [.lst l, .int k] => if D.isFlatL l ∧ -1000000 ≤ k ∧ k ≤ 1000000 ∧ l.length * k.toNat ≤ 1000000 then some (.lst (List.replicate k.toNat l).flatten) else none
  | _ => none
def dCatF : List D → Option D
  | [.lst l, .lst r] => if D.isFlatL l ∧ D.isFlatL r ∧ l.length + r.length ≤ 1000000 then some (.lst (l ++ r)) else none
  | _ => none
def dCat : List D → Option D
  | [.lst l, .lst r] => if l.length + r.length ≤ 1000000 then some (.lst (l ++ r)) else none
  | _ => none
theorem line_of {n : Nat} (h : n ≤ 1000000) : n ≤ sizeLine := by rw [sizeLine_eq]; omega
section
variable {X : Cx} {LL : List Nat} {Γ : List Kd} {pos p : Pos} {a b : Expr} {sa sb : Ev} {ma mb : Md}
theorem ex_rep (ha : EX X LL Γ a sa ma) (hb : EX X LL Γ b sb mb) : EX X LL Γ (.BinOp a .Mult b pos) (eP dRep (aCons sa (aCons sb aNil))) (.al false .new [] true) := by
  obtain ⟨ta, tb, pa, pb, k⟩ := two ha hb
  refine ⟨_, pe_op op_rep pa pb, fun P g ρ σ H d Q s e q => ?_⟩
  obtain ⟨ds, e1, e⟩ := bind_some e
  refine k P g ρ σ H ds _ s e1 fun d1 d2 v w H' eds x va vb vl => ?_
  subst eds
  unfold dRep at e
  split at e
  · split at e
    · rename_i l n eq hc
      cases eq
      cases e
      obtain ⟨fp, rr, _⟩ := vb.labs
      obtain rfl := rInt rr
      obtain ⟨c, vs, rfl, hv, hlen, _, fl, rl, _⟩ := seq_of va
      have r0 := rl.flats hc.1
      refine ⟨c, n, vs, rfl, rfl, hv, by omega, by omega, ?_, fun p hp => ?_⟩
      · rw [hlen]; exact line_of hc.2.2.2
      · exact q _ _ (x.trans (Ext.put hp)) (val_lst (m := .flat) ⟨[], r0.rep _, rfl⟩ x hp)
    · cases e
  · cases e
theorem ex_catF (ha : EX X LL Γ a sa ma) (hb : EX X LL Γ b sb mb) : EX X LL Γ (.BinOp a .Add b pos) (eP dCatF (aCons sa (aCons sb aNil))) (.al false .new [] true) := by
  obtain ⟨ta, tb, pa, pb, k⟩ := two ha hb
  refine ⟨_, pe_op op_cat pa pb, fun P g ρ σ H d Q s e q => ?_⟩
  obtain ⟨ds, e1, e⟩ := bind_some e
  refine k P g ρ σ H ds _ s e1 fun d1 d2 v w H' eds x va vb vl => ?_
  subst eds
  unfold dCatF at e
  split at e
  · split at e
    · rename_i l r eq hc
      cases eq
      cases e
      obtain ⟨c, vs, rfl, hv, hlen, _, fl, rl, _⟩ := seq_of va
      obtain ⟨c', vs', rfl, hv', hlen', _, fl', rl', _⟩ := seq_of vb
      refine ⟨c, c', vs, vs', rfl, rfl, hv, hv', ?_, fun p hp => ?_⟩
      · rw [hlen, hlen']; exact line_of hc.2.2
      · exact q _ _ (x.trans (Ext.put hp)) (val_lst (m := .flat) ⟨[], (rl.flats hc.1).append (rl'.flats hc.2.1), rfl⟩ x hp)
    · cases e
  · cases e
def Md.cat : Md → Md → Md
  | .flat, .flat => .al false .new [] true
  | .al fr _ L _, .flat => .al fr .new L false
  | .flat, .al fr _ L _ => .al fr .new L false
  | .al fr _ L _, .al fr' _ L' _ => .al (fr || fr') .new (L ++ L') false
theorem ex_cat (ha : EX X LL Γ a sa ma) (hb : EX X LL Γ b sb mb) : EX X LL Γ (.BinOp a .Add b pos) (eP dCat (aCons sa (aCons sb aNil))) (ma.child.cat mb.child) := by
  obtain ⟨ta, tb, pa, pb, k⟩ := two ha hb
  refine ⟨_, pe_op op_cat pa pb, fun P g ρ σ H d Q s e q => ?_⟩
  obtain ⟨ds, e1, e⟩ := bind_some e
  refine k P g ρ σ H ds _ s e1 fun d1 d2 v w H' eds x va vb vl => ?_
  subst eds
  unfold dCat at e
  split at e
  · split at e
    · rename_i l r eq hc
      cases eq
      cases e
      obtain ⟨c, vs, rfl, hv, hlen, _, fl, rl, o1⟩ := seq_of va
      obtain ⟨c', vs', rfl, hv', hlen', _, fl', rl', o2⟩ := seq_of vb
      refine ⟨c, c', vs, vs', rfl, rfl, hv, hv', ?_, fun p hp => ?_⟩
      · rw [hlen, hlen']; exact line_of hc
      · have rr := rl.append rl'
        generalize ma.child = m1 at o1 q ⊢
        generalize mb.child = m2 at o2 q ⊢
        cases m1 with
        | flat =>
          obtain rfl : fl = [] := o1
          cases m2 with
          | flat =>
            obtain rfl : fl' = [] := o2
            exact q _ _ (x.trans (Ext.put hp)) (val_lst (m := .flat) ⟨[], rr, rfl⟩ x hp)
          | al fr rt L nd => exact q _ _ (x.trans (Ext.put hp)) (val_lst (m := .al fr .unk L false) ⟨_, rr, o2.1, fun z => nomatch z⟩ x hp)
        | al fr rt L nd =>
          cases m2 with
          | flat =>
            obtain rfl : fl' = [] := o2
            rw [List.append_nil] at rr
            exact q _ _ (x.trans (Ext.put hp)) (val_lst (m := .al fr .unk L false) ⟨_, rr, o1.1, fun z => nomatch z⟩ x hp)
          | al fr' rt' L' nd' =>
            refine q _ _ (x.trans (Ext.put hp)) (val_lst (m := .al (fr || fr') .unk (L ++ L') false) ⟨_, rr, fun a ha => ?_, fun z => nomatch z⟩ x hp)
            rcases List.mem_append.mp ha with ha | ha
            · exact (o1.1 a ha).imp (fun ⟨x, y⟩ => ⟨by rw [x]; rfl, y⟩) fun o => ⟨List.mem_append_left _ o.1, o.2⟩
            · exact (o2.1 a ha).imp (fun ⟨x, y⟩ => ⟨by rw [x]; cases fr <;> rfl, y⟩) fun o => ⟨List.mem_append_right _ o.1, o.2⟩
    · cases e
  · cases e
/-- list(e) -/
def dList : List D → Option D
  | [.lst l] => some (.lst l)
  | [.tup l] => some (.lst l)
  | _ => none
/-- calls of one argument by its own value -/
theorem one_arg {sem : Ev} {m : Md} {t : TE} {P : Fm} {g : Addr → Nat} {ρ : List D} {σ : L2.St} {H : Hp} {ds : List D} {Q : List V → Hp → Prop}
    (k : ∀ P g ρ σ H d Q, Sta X.vm P LL Γ g ρ σ H → sem ρ = some d → (∀ v H', Ext H H' → Val X.vm P g H H' m d v → Q v H') → t σ H Q)
    (s : Sta X.vm P LL Γ g ρ σ H) (e1 : aCons sem aNil ρ = some ds) (q : ∀ d v H', ds = [d] → Ext H H' → Val X.vm P g H H' m d v → Q [v] H') : tCons t tNil σ H Q := by
  obtain ⟨d, e2, e1⟩ := bind_some e1
  obtain ⟨r, e3, e1⟩ := bind_some e1
  cases e3
  cases e1
  exact k P g ρ σ H d _ s e2 fun v H' x w => q d v H' rfl x w
theorem ex_list {x : Str} (hg : Gl X x) (hm : X.mg x = none) (hv : bootBuiltins x = some (.type "list")) (ha : EX X LL Γ a sa ma) (hn : x ≠ "__name__" := by decide) (hdb : (x == ("__debug__" : Str)) = false := by decide)
    (he : starEach [a] X.env = (false, eval a X.env) :: starEach [] X.env := by rfl) : EX X LL Γ (.Call (.Name x p) [a] [] pos) (eP dList (aCons sa aNil)) ma.child.lst := by
  obtain ⟨t, pt, k⟩ := ha
  refine ⟨_, pe_callTy call_list_of hg hm hv (pa_cons pt pa_nil he) hn hdb he, fun P g ρ σ H d Q s e q => ?_⟩
  obtain ⟨ds, e1, e⟩ := bind_some e
  refine one_arg k s e1 fun d0 v H1 eds x1 w => ?_
  subst eds
  cases d0 with
  | lst l =>
    cases e
    obtain ⟨c, vs, rfl, hv, _, _, vl⟩ := seq_of w
    exact ⟨c, vs, rfl, .inl (SqL.of hv), fun p hp => q _ _ (x1.trans (Ext.put hp)) (val_lst vl x1 hp)⟩
  | tup l =>
    cases e
    obtain ⟨c, vs, rfl, hv, _, _, vl⟩ := seq_ofT w
    exact ⟨c, vs, rfl, .inr (.inl (.inl hv)), fun p hp => q _ _ (x1.trans (Ext.put hp)) (val_lst vl x1 hp)⟩
  | _ => cases e
/-- tuple(e) -/
def dTuple : List D → Option D
  | [.lst l] => some (.tup l)
  | [.tup l] => some (.tup l)
  | _ => none
theorem ex_tuple {x : Str} (hg : Gl X x) (hm : X.mg x = none) (hv : bootBuiltins x = some (.type "tuple")) (ha : EX X LL Γ a sa ma) (hn : x ≠ "__name__" := by decide) (hdb : (x == ("__debug__" : Str)) = false := by decide)
    (he : starEach [a] X.env = (false, eval a X.env) :: starEach [] X.env := by rfl) : EX X LL Γ (.Call (.Name x p) [a] [] pos) (eP dTuple (aCons sa aNil)) ma.child.tup := by
  obtain ⟨t, pt, k⟩ := ha
  refine ⟨_, pe_callTy call_tuple_of hg hm hv (pa_cons pt pa_nil he) hn hdb he, fun P g ρ σ H d Q s e q => ?_⟩
  obtain ⟨ds, e1, e⟩ := bind_some e
  refine one_arg k s e1 fun d0 v H1 eds x1 w => ?_
  subst eds
  cases d0 with
  | lst l =>
    cases e
    obtain ⟨c, vs, rfl, hv, _, _, vl⟩ := seq_of w
    exact ⟨c, vs, rfl, .inl ⟨SqL.of hv, fun p hp => q _ _ (x1.trans (Ext.put hp)) (val_tup vl hp)⟩⟩
  | tup l =>
    cases e
    obtain ⟨c, vs, rfl, hv, _, _, fp, r, o⟩ := seq_ofT w
    refine ⟨c, vs, rfl, .inr ⟨.inl (.inl hv), q _ _ x1 ?_⟩⟩
    have rr : Rep X.vm H1 (.tup l) (.ref c) fp := by
      simp only [Rep]
      exact ⟨c, vs, rfl, hv, r⟩
    generalize ma.child = m1 at o ⊢
    cases m1 with
    | flat =>
      obtain rfl : fp = [] := o
      exact rr
    | al fr rt L nd => exact ⟨fp, rr, fun a ha => .inr ⟨.inr rfl, o.1 a ha⟩, .unk o.2⟩
  | _ => cases e
end

/-! ### numbers from numbers, bools, lists -/
def dIntC : List D → Option D
  | [.int i] => some (.int i)
  | [.bl b] => some (.int (if b then 1 else 0))
  | _ => none
def dAbs : List D → Option D
  | [.int i] => some (.int (if i < 0 then -i else i))
  | _ => none
def dMax2 : List D → Option D
  | [.int i, .int j] => some (.int (if j > i then j else i))
  | _ => none
def dMin2 : List D → Option D
  | [.int i, .int j] => some (.int (if j < i then j else i))
  | _ => none
def intsOf : List D → Option (List Int)
  | [] => some []
  | .int i :: r => (intsOf r).map (i :: ·)
  | _ :: _ => none
def boolsOf : List D → Option (List Bool)
  | [] => some []
  | .bl i :: r => (boolsOf r).map (i :: ·)
  | _ :: _ => none
theorem intsOf_rep {mg : Mg} {H : Hp} : ∀ {l : List D} {ns : List Int} {vs : List V} {f : List Addr}, intsOf l = some ns → RepL mg H l vs f → vs = ns.map V.int
  | [], _, _, _, e, h => by simp only [RepL] at h; cases e; rw [h.1]; rfl
  | d :: r, _, _, _, e, h => by
    simp only [RepL] at h
    obtain ⟨v, vr, f1, f2, rfl, h1, h2, _⟩ := h
    unfold intsOf at e
    split at e
    · rename_i eq; cases eq
    · rename_i eq
      cases eq
      obtain ⟨ns, e1, rfl⟩ := Option.map_eq_some_iff.mp e
      rw [rInt h1, intsOf_rep e1 h2]; rfl
    · cases e
theorem boolsOf_rep {mg : Mg} {H : Hp} : ∀ {l : List D} {ns : List Bool} {vs : List V} {f : List Addr}, boolsOf l = some ns → RepL mg H l vs f → vs = ns.map V.bl
  | [], _, _, _, e, h => by simp only [RepL] at h; cases e; rw [h.1]; rfl
  | d :: r, _, _, _, e, h => by
    simp only [RepL] at h
    obtain ⟨v, vr, f1, f2, rfl, h1, h2, _⟩ := h
    unfold boolsOf at e
    split at e
    · rename_i eq; cases eq
    · rename_i eq
      cases eq
      obtain ⟨ns, e1, rfl⟩ := Option.map_eq_some_iff.mp e
      rw [rBl h1, boolsOf_rep e1 h2]; rfl
    · cases e
def itemsOf : D → Option (List D)
  | .lst l => some l
  | .scr l => some l
  | _ => none
def dSum : List D → Option D
  | [d] => do some (.int (← intsOf (← itemsOf d)).sum)
  | _ => none
def dMaxL : List D → Option D
  | [d] => do some (.int (← (← intsOf (← itemsOf d)).max?))
  | _ => none
def dMinL : List D → Option D
  | [d] => do some (.int (← (← intsOf (← itemsOf d)).min?))
  | _ => none
def dAny : List D → Option D
  | [d] => do some (.bl ((← boolsOf (← itemsOf d)).any id))
  | _ => none
def dAll : List D → Option D
  | [d] => do some (.bl ((← boolsOf (← itemsOf d)).all id))
  | _ => none
section
variable {X : Cx}
theorem items_sq {mg : Mg} {H : Hp} {d : D} {l : List D} {v : V} {f : List Addr} (e : itemsOf d = some l) (h : Rep mg H d v f) : ∃ a vs f', v = .ref a ∧ SqL mg.K H a vs ∧ RepL mg H l vs f' := by
  cases d with
  | lst l' =>
    cases e
    simp only [Rep] at h
    obtain ⟨a, vs, f', rfl, ha, h2, _⟩ := h
    exact ⟨a, vs, f', rfl, SqL.of ha, h2⟩
  | scr l' =>
    cases e
    simp only [Rep] at h
    obtain ⟨a, vs, rfl, ha, h2, _⟩ := h
    exact ⟨a, vs, [], rfl, ha.sq, h2⟩
  | _ => cases e
theorem cp_int1 : CP X (fun xs H Q => (∃ i, xs = [.int i] ∧ Q (.int i) H) ∨ ∃ k, xs = [.bl k] ∧ Q (.int (if k then 1 else 0)) H) dIntC toFlat := by
  intro P LL g H H1 m ds vs d Q l x vl e q
  obtain ⟨fp, r⟩ := vl.rep
  unfold dIntC at e
  split at e
  · cases e
    obtain ⟨v, rfl, h⟩ := repL1 r
    exact .inl ⟨_, by rw [rInt h], q _ H1 Ext.refl (val_flat rep_int)⟩
  · cases e
    obtain ⟨v, rfl, h⟩ := repL1 r
    exact .inr ⟨_, by rw [rBl h], q _ H1 Ext.refl (val_flat rep_int)⟩
  · cases e
theorem cp_abs : CP X (fun xs H Q => ∃ i, xs = [.int i] ∧ Q (.int (if i < 0 then -i else i)) H) dAbs toFlat := by
  intro P LL g H H1 m ds vs d Q l x vl e q
  obtain ⟨fp, r⟩ := vl.rep
  unfold dAbs at e
  split at e
  · cases e
    obtain ⟨v, rfl, h⟩ := repL1 r
    exact ⟨_, by rw [rInt h], q _ H1 Ext.refl (val_flat rep_int)⟩
  · cases e
theorem cp_max2 : CP X (fun xs H Q => ∃ i j, xs = [.int i, .int j] ∧ Q (.int (if j > i then j else i)) H) dMax2 toFlat := by
  intro P LL g H H1 m ds vs d Q l x vl e q
  obtain ⟨fp, r⟩ := vl.rep
  unfold dMax2 at e
  split at e
  · cases e
    obtain ⟨v, w, _, _, rfl, h, h2, _⟩ := repL2 r
    exact ⟨_, _, by rw [rInt h, rInt h2], q _ H1 Ext.refl (val_flat rep_int)⟩
  · cases e
theorem cp_min2 : CP X (fun xs H Q => ∃ i j, xs = [.int i, .int j] ∧ Q (.int (if j < i then j else i)) H) dMin2 toFlat := by
  intro P LL g H H1 m ds vs d Q l x vl e q
  obtain ⟨fp, r⟩ := vl.rep
  unfold dMin2 at e
  split at e
  · cases e
    obtain ⟨v, w, _, _, rfl, h, h2, _⟩ := repL2 r
    exact ⟨_, _, by rw [rInt h, rInt h2], q _ H1 Ext.refl (val_flat rep_int)⟩
  · cases e
theorem cp_sum : CP X (rSum X.K) dSum toFlat := by
  intro P LL g H H1 m ds vs d Q l x vl e q
  obtain ⟨fp, r⟩ := vl.rep
  unfold dSum at e
  split at e
  · obtain ⟨its, e2, e⟩ := bind_some e
    obtain ⟨ns, e1, e⟩ := bind_some e
    cases e
    obtain ⟨v, rfl, h⟩ := repL1 r
    obtain ⟨a, us, f', rfl, sq, rl⟩ := items_sq e2 h
    rw [intsOf_rep e1 rl] at sq
    exact ⟨a, ns, rfl, sq, q _ H1 Ext.refl (val_flat rep_int)⟩
  · cases e
theorem cp_maxL : CP X (rMax X.K) dMaxL toFlat := by
  intro P LL g H H1 m ds vs d Q l x vl e q
  obtain ⟨fp, r⟩ := vl.rep
  unfold dMaxL at e
  split at e
  · obtain ⟨its, e3, e⟩ := bind_some e
    obtain ⟨ns, e2, e⟩ := bind_some e
    obtain ⟨k, e1, e⟩ := bind_some e
    cases e
    obtain ⟨v, rfl, h⟩ := repL1 r
    obtain ⟨a, us, f', rfl, sq, rl⟩ := items_sq e3 h
    rw [intsOf_rep e2 rl] at sq
    obtain ⟨hm, hk⟩ := List.max?_eq_some_iff.mp e1
    refine ⟨a, ns, rfl, sq, List.length_pos_of_mem hm, fun k' hm' hk' => ?_⟩
    have : k' = k := Int.le_antisymm (hk k' hm') (hk' k hm)
    rw [this]
    exact q _ H1 Ext.refl (val_flat rep_int)
  · cases e
theorem cp_minL : CP X (rMin X.K) dMinL toFlat := by
  intro P LL g H H1 m ds vs d Q l x vl e q
  obtain ⟨fp, r⟩ := vl.rep
  unfold dMinL at e
  split at e
  · obtain ⟨its, e3, e⟩ := bind_some e
    obtain ⟨ns, e2, e⟩ := bind_some e
    obtain ⟨k, e1, e⟩ := bind_some e
    cases e
    obtain ⟨v, rfl, h⟩ := repL1 r
    obtain ⟨a, us, f', rfl, sq, rl⟩ := items_sq e3 h
    rw [intsOf_rep e2 rl] at sq
    obtain ⟨hm, hk⟩ := List.min?_eq_some_iff.mp e1
    refine ⟨a, ns, rfl, sq, List.length_pos_of_mem hm, fun k' hm' hk' => ?_⟩
    have : k' = k := Int.le_antisymm (hk' k hm) (hk k' hm')
    rw [this]
    exact q _ H1 Ext.refl (val_flat rep_int)
  · cases e
theorem cp_any : CP X (rAny X.K) dAny toFlat := by
  intro P LL g H H1 m ds vs d Q l x vl e q
  obtain ⟨fp, r⟩ := vl.rep
  unfold dAny at e
  split at e
  · obtain ⟨its, e2, e⟩ := bind_some e
    obtain ⟨ns, e1, e⟩ := bind_some e
    cases e
    obtain ⟨v, rfl, h⟩ := repL1 r
    obtain ⟨a, us, f', rfl, sq, rl⟩ := items_sq e2 h
    rw [boolsOf_rep e1 rl] at sq
    exact ⟨a, ns, rfl, sq, q _ H1 Ext.refl (val_flat rep_bl)⟩
  · cases e
theorem cp_all : CP X (rAll X.K) dAll toFlat := by
  intro P LL g H H1 m ds vs d Q l x vl e q
  obtain ⟨fp, r⟩ := vl.rep
  unfold dAll at e
  split at e
  · obtain ⟨its, e2, e⟩ := bind_some e
    obtain ⟨ns, e1, e⟩ := bind_some e
    cases e
    obtain ⟨v, rfl, h⟩ := repL1 r
    obtain ⟨a, us, f', rfl, sq, rl⟩ := items_sq e2 h
    rw [boolsOf_rep e1 rl] at sq
    exact ⟨a, ns, rfl, sq, q _ H1 Ext.refl (val_flat rep_bl)⟩
  · cases e
end
end VV

/-! ## VMut -/
namespace VV
open PySem PySem.Spec PyProof.Rows L2

/-! ### zip, enumerate -/
def Md.pair : Md → Md → Md
  | .flat, .flat => .flat
  | .al fr _ L _, .flat => .al fr .unk L false
  | .flat, .al fr _ L _ => .al fr .unk L false
  | .al fr _ L _, .al fr' _ L' _ => .al (fr || fr') .unk (L ++ L') false
theorem fps_pair {P : Fm} {g : Addr → Nat} {H H1 : Hp} {m m' : Md} {f f' : List Addr} (h : Fps P g H H1 m f) (h' : Fps P g H H1 m' f') : Fps P g H H1 (m.pair m') (f ++ f') := by
  cases m with
  | flat =>
    obtain rfl : f = [] := h
    cases m' with
    | flat => exact h'
    | al fr rt L nd => exact ⟨h'.1, fun z => nomatch z⟩
  | al fr rt L nd =>
    cases m' with
    | flat =>
      obtain rfl : f' = [] := h'
      rw [List.append_nil]
      exact ⟨h.1, fun z => nomatch z⟩
    | al fr' rt' L' nd' =>
      refine ⟨fun a ha => ?_, fun z => nomatch z⟩
      rcases List.mem_append.mp ha with ha | ha
      · exact (h.1 a ha).imp (fun ⟨x, y⟩ => ⟨by rw [x]; rfl, y⟩) fun o => ⟨List.mem_append_left _ o.1, o.2⟩
      · exact (h'.1 a ha).imp (fun ⟨x, y⟩ => ⟨by rw [x]; cases fr <;> rfl, y⟩) fun o => ⟨List.mem_append_right _ o.1, o.2⟩
def iZipL (a : List D → Option (List D)) : List D → Option (List D) := fun ρ => do match (← a ρ) with
  | [.lst l, .lst r] => some ((l.zip r).map fun p => .tup [p.1, p.2])
  | _ => none
def iEnumL (s : Ev) : List D → Option (List D) := fun ρ => do match (← s ρ) with
  | .lst l => some (l.mapIdx fun i d => .tup [.int i, d])
  | _ => none
/-- a list's nodes, and each item's -/
theorem lst_nodes {mg : Mg} {P : Fm} {g : Addr → Nat} {H H1 : Hp} {m : Md} {l : List D} {v : V} (h : Val mg P g H H1 m (.lst l) v) : ∃ (a : Addr) (vs : List V) (fp : List Addr), v = .ref a ∧ H1 a = some (.lst vs) ∧ vs.length = l.length ∧ (∀ b ∈ fp, New H H1 b ∨ Old P g m.labs b) ∧ a ∈ fp ∧
    ∀ (i : Nat) (d : D), l[i]? = some d → ∃ x f, vs[i]? = some x ∧ Rep mg H1 d x f ∧ Fps P g H H1 m.child f ∧ ∀ b ∈ f, b ∈ fp := by
  obtain ⟨fp, r, o, lb, ch⟩ := h.labs
  simp only [Rep] at r
  obtain ⟨a, vs, f, rfl, ha, h2, rfl⟩ := r
  refine ⟨a, vs, _, rfl, ha, h2.length, lb, List.mem_cons_self, fun i d e => ?_⟩
  obtain ⟨x, fi, e1, ri, f1, f2, rfl⟩ := h2.parts e
  exact ⟨x, fi, e1, ri, ch fi ⟨f1, f2, .inl ⟨a, rfl, rfl⟩⟩, fun b hb => List.mem_cons_of_mem _ (List.mem_append_left _ (List.mem_append_right _ hb))⟩
section
variable {X : Cx} {LL : List Nat} {Γ : List Kd} {pos p tpos : Pos} {a b : Expr} {sa sb : Ev} {ma mb : Md} {elts : List Expr} {kk : Nat}
theorem ei_zip (hg : Gl X "zip") (hm : X.mg "zip" = none) (ha : EX X LL Γ a sa ma) (hb : EX X LL Γ b sb mb)
    (hs : starEach [a, b] X.env = (false, eval a X.env) :: starEach [b] X.env := by rfl) (hpl : (backTo pos (starEach [b] X.env)).any (·.1) = false := by rfl) (hs2 : starEach [b] X.env = (false, eval b X.env) :: starEach [] X.env := by rfl) :
    EI X LL Γ (.Tuple elts kk tpos) (.Call (.Name "zip" p) [a, b] [] pos) (iZipL (aCons sa (aCons sb aNil))) (ma.labs ++ mb.labs) (ma.child.pair mb.child) := by
  obtain ⟨ta, tb, pa, pb, k⟩ := two ha hb
  refine ⟨_, pi_sized (pi_zip hg hm (pa_cons pa (pa_cons pb pa_nil hs2) hs) hs hpl), fun P g ρ σ H ds R s e q => ?_⟩
  obtain ⟨ds0, e1, e⟩ := bind_some e
  refine k P g ρ σ H ds0 _ s e1 fun d1 d2 v w H' eds x va vb vl => ?_
  subst eds
  split at e
  · rename_i l r eq
    cases eq
    cases e
    obtain ⟨a1, vs1, f1, rfl, h1, n1, lb1, m1, it1⟩ := lst_nodes va
    obtain ⟨a2, vs2, f2, rfl, h2, n2, lb2, m2, it2⟩ := lst_nodes vb
    refine ⟨a1, a2, vs1, vs2, rfl, SqL.of h1, SqL.of h2, fun sz => q _ H' x ?_ ⟨f1 ++ f2, fun c hc => ?_, fun H2 kp => ⟨fun i d hi => ?_, ?_⟩⟩⟩
    · rw [List.length_map, List.length_zip, ← n1]
      exact Nat.le_trans (Nat.min_le_left _ _) (sz.1 a1 vs1 (SqL.of h1))
    · rcases List.mem_append.mp hc with hc | hc
      · exact (lb1 c hc).imp id fun o => ⟨List.mem_append_left _ o.1, o.2⟩
      · exact (lb2 c hc).imp id fun o => ⟨List.mem_append_right _ o.1, o.2⟩
    · rw [List.getElem?_map] at hi
      obtain ⟨pr, e3, rfl⟩ := Option.map_eq_some_iff.mp hi
      obtain ⟨e4, e5⟩ := List.getElem?_zip_eq_some.mp e3
      obtain ⟨y1, g1, z1, r1, o1, s1⟩ := it1 i _ e4
      obtain ⟨y2, g2, z2, r2, o2, s2⟩ := it2 i _ e5
      have b1 : H2 a1 = some (.lst vs1) := kp.1 a1 (List.mem_append_left _ m1) _ h1
      have b2 : H2 a2 = some (.lst vs2) := kp.1 a2 (List.mem_append_right _ m2) _ h2
      refine ⟨⟨vs1, vs2, y1, y2, SqL.of b1, SqL.of b2, z1, z2⟩, fun xv H3 yl => ?_⟩
      obtain ⟨T, u1, u2, rfl, hT, rfl, q1, q2⟩ := yl
      have := q1 vs1 (SqL.of b1)
      rw [z1] at this; cases this
      have := q2 vs2 (SqL.of b2)
      rw [z2] at this; cases this
      have ex : Ext H2 (upd H2 T (.tup [y1, y2])) := Ext.put hT
      refine ⟨ex, g1 ++ g2, ?_, fps_pair o1 o2, fun c hc => ?_⟩
      · simp only [Rep, RepL]
        refine ⟨T, [y1, y2], rfl, upd_same, y1, [y2], g1, g2, rfl, ?_, ⟨y2, [], g2, [], rfl, ?_, ⟨rfl, rfl⟩, by simp⟩, rfl⟩
        · exact Rep.ext (kp.rep r1 fun c hc => List.mem_append_left _ (s1 c hc)) ex
        · exact Rep.ext (kp.rep r2 fun c hc => List.mem_append_right _ (s2 c hc)) ex
      · rcases List.mem_append.mp hc with hc | hc
        · exact List.mem_append_left _ (s1 c hc)
        · exact List.mem_append_right _ (s2 c hc)
    · refine ⟨vs1, vs2, SqL.of (kp.1 a1 (List.mem_append_left _ m1) _ h1), SqL.of (kp.1 a2 (List.mem_append_right _ m2) _ h2), ?_⟩
      rw [List.length_map, List.length_zip, n1, n2]
      omega
  · cases e
theorem ei_enum (hg : Gl X "enumerate") (hm : X.mg "enumerate" = none) (ha : EX X LL Γ a sa ma) (hs : starEach [a] X.env = [(false, eval a X.env)] := by rfl) :
    EI X LL Γ (.Tuple elts kk tpos) (.Call (.Name "enumerate" p) [a] [] pos) (iEnumL sa) ma.labs ma.child := by
  obtain ⟨t, pt, k⟩ := ha
  refine ⟨_, pi_sized (pi_enum hg hm (pa_cons pt pa_nil hs) hs), fun P g ρ σ H ds R s e q => ?_⟩
  obtain ⟨d0, e1, e⟩ := bind_some e
  refine k P g ρ σ H d0 _ s e1 fun v H' x va => ?_
  cases d0 with
  | lst l =>
    cases e
    obtain ⟨a1, vs1, f1, rfl, h1, n1, lb1, m1, it1⟩ := lst_nodes va
    refine ⟨a1, vs1, rfl, SqL.of h1, fun sz => q _ H' x ?_ ⟨f1, lb1, fun H2 kp => ⟨fun i d hi => ?_, ?_⟩⟩⟩
    · rw [List.length_mapIdx, ← n1]
      exact sz.1 a1 vs1 (SqL.of h1)
    · rw [List.getElem?_mapIdx] at hi
      obtain ⟨d', e4, rfl⟩ := Option.map_eq_some_iff.mp hi
      obtain ⟨y1, g1, z1, r1, o1, s1⟩ := it1 i _ e4
      have b1 : H2 a1 = some (.lst vs1) := kp.1 a1 m1 _ h1
      refine ⟨⟨vs1, y1, SqL.of b1, z1⟩, fun xv H3 yl => ?_⟩
      obtain ⟨T, u1, rfl, hT, rfl, q1⟩ := yl
      have := q1 vs1 (SqL.of b1)
      rw [z1] at this; cases this
      have ex : Ext H2 (upd H2 T (.tup [.int (i : Nat), y1])) := Ext.put hT
      refine ⟨ex, g1, ?_, o1, s1⟩
      simp only [Rep, RepL]
      exact ⟨T, _, rfl, upd_same, .int i, [y1], [], g1, rfl, ⟨rfl, rfl⟩, ⟨y1, [], g1, [], rfl, Rep.ext (kp.rep r1 s1) ex, ⟨rfl, rfl⟩, by simp⟩, rfl⟩
    · refine ⟨vs1, SqL.of (kp.1 a1 m1 _ h1), ?_⟩
      rw [List.length_mapIdx, n1]
      exact Nat.le_refl _
  | _ => cases e
end

/-! ### a, b = a list -/
def gL (ts : List D → List D → Option (List D)) : Tv := fun d ρ => match d with
  | .lst l => ts l ρ
  | _ => none
def Kd.lstChild : Kd → Kd
  | .lab rt L nd => .lab none (match rt with | some n => n :: L | none => L) nd
  | k => k
theorem cell_lst {mg : Mg} {P : Fm} {g : Addr → Nat} {H : Hp} {k : Kd} {ds : List D} {v : V} (c : CellOk mg P g H k (.lst ds) (some v)) (hk : k.use = true) :
    ∃ a vs, v = .ref a ∧ H a = some (.lst vs) ∧ vs.length = ds.length ∧ ∀ (i : Nat) (d : D) (w : V), ds[i]? = some d → vs[i]? = some w → CellOk mg P g H k.lstChild d (some w) := by
  cases k with
  | dead => cases hk
  | exc _ _ => cases hk
  | flat =>
    obtain ⟨v', e, r⟩ := c
    simp only [Rep] at r
    obtain ⟨_, _, _, _, _, _, e⟩ := r
    cases e
  | lab rt L nd =>
    obtain ⟨v', fp, e, r, o, z⟩ := c
    cases e
    simp only [Rep] at r
    obtain ⟨a, vs, f, rfl, r1, r2, rfl⟩ := r
    refine ⟨a, vs, rfl, r1, r2.length, fun i d w e1 e2 => ?_⟩
    obtain ⟨w', f1, fi, f2, e3, r3, rfl⟩ := r2.get e1
    rw [e2] at e3; cases e3
    refine ⟨w, fi, rfl, r3, fun b hb => ?_, .unk fun hn => ?_⟩
    · refine .inr ⟨.inr rfl, ?_⟩
      rcases o b (List.mem_cons_of_mem _ (List.mem_append_left _ (List.mem_append_right _ hb))) with ⟨_, n, rfl, x⟩ | ⟨_, x⟩
      · exact ⟨by rw [List.mem_singleton.mp x.1]; exact List.mem_cons_self, x.2⟩
      · refine ⟨?_, x.2⟩
        cases rt with
        | none => exact x.1
        | some n => exact List.mem_cons_of_mem _ x.1
    · have n := (List.nodup_cons.mp (z.1 hn)).2
      exact (List.nodup_append.mp (List.nodup_append.mp n).1).2.1
section
variable {X : Cx} {Γ Γ' : List Kd} {pos : Pos}
theorem eg_lst {es : List Expr} {c : Nat} {k : Kd} {ts : List D → List D → Option (List D)} {S : List Nat} (hc : X.calm = true) (h : EGs X Γ es k.lstChild ts Γ' S) (hk : k.use = true := by decide)
    (hst : (assignEach es X.env).findIdx? (·.1) = none := by rfl) (hn : (assignEach es X.env).length = es.length := by rfl) : EG X Γ (.Tuple es c pos) k (gL ts) Γ' S := by
  obtain ⟨hl, u, p, kk⟩ := h
  refine ⟨_, pg_unl hc p hn hst, fun P LL g ρ σ H d v ρ' Q s cc e q => ?_⟩
  cases d with
  | lst ds =>
    obtain ⟨a, vs, rfl, r, hlen, hcells⟩ := cell_lst cc hk
    exact ⟨a, vs, rfl, SqL.of r, by rw [hlen, hl ds ρ ρ' e], kk P LL g ρ σ H ds vs ρ' Q s hcells hlen e q⟩
  | _ => cases e
end

/-! ### one object is changed -/
def Kd.has (n : Nat) : Kd → Bool
  | .lab rt L _ => L.contains n || (rt == some n)
  | _ => false
def killK (n : Nat) (Γ : List Kd) : List Kd := Γ.map fun k => if k.has n then .dead else k
section
variable {mg : Mg} {P : Fm} {LL : List Nat} {Γ : List Kd} {g : Addr → Nat} {ρ : List D} {σ : L2.St} {H : Hp}
theorem rep_upd {H : Hp} {a : Addr} {o o' : HO} {d : D} {v : V} {f : List Addr} (h : Rep mg H d v f) (hn : a ∉ f) (ha : H a = some o) (mu : Mut (some o)) : Rep mg (upd H a o') d v f := by
  refine h.keep (fun b hb => ?_) ⟨fun b xs r => ?_, fun b o2 vs r => ?_⟩
  · have : b ≠ a := fun z => hn (by rw [← z]; exact hb)
    exact ⟨fun u _ r => by unfold Rd at r ⊢; rw [upd_ne this]; exact r, fun vs r => by rw [upd_ne this]; exact r⟩
  · have : b ≠ a := fun z => by
      rw [z, ha] at r
      cases r
      exact mu
    rw [upd_ne this]
    exact r
  · have : b ≠ a := fun z => by
      rw [z, ha] at r
      cases r
      exact mu
    rw [upd_ne this]
    exact r
theorem repL_upd {H : Hp} {a : Addr} {o o' : HO} {d : List D} {v : List V} {f : List Addr} (h : RepL mg H d v f) (hn : a ∉ f) (ha : H a = some o) (mu : Mut (some o)) : RepL mg (upd H a o') d v f := by
  refine h.keep (fun b hb => ?_) ⟨fun b xs r => ?_, fun b o2 vs r => ?_⟩
  · have : b ≠ a := fun z => hn (by rw [← z]; exact hb)
    exact ⟨fun u _ r => by unfold Rd at r ⊢; rw [upd_ne this]; exact r, fun vs r => by rw [upd_ne this]; exact r⟩
  · have : b ≠ a := fun z => by
      rw [z, ha] at r
      cases r
      exact mu
    rw [upd_ne this]
    exact r
  · have : b ≠ a := fun z => by
      rw [z, ha] at r
      cases r
      exact mu
    rw [upd_ne this]
    exact r
theorem CellOk.upd {k : Kd} {d : D} {ov : Option V} {a : Addr} {o o' : HO} {n : Nat} (c : CellOk mg P g H k d ov) (ha : H a = some o) (mu : Mut (some o)) (hg : g a = n) : CellOk mg P g (upd H a o') (if k.has n then .dead else k) d ov := by
  split
  · trivial
  · rename_i hh
    cases k with
    | dead => trivial
    | exc _ _ => exact c
    | flat => obtain ⟨v, rfl, r⟩ := c; exact ⟨v, rfl, rep_upd r (by simp) ha mu⟩
    | lab rt L nd =>
      obtain ⟨v, fp, rfl, r, q, z⟩ := c
      refine ⟨v, fp, rfl, rep_upd r (fun hm => ?_) ha mu, q, z⟩
      apply hh
      rcases q a hm with ⟨_, m, rfl, y⟩ | ⟨_, y⟩
      · have := List.mem_singleton.mp y.1
        simp [Kd.has, ← this, hg]
      · have := y.1
        rw [hg] at this
        simp [Kd.has, this]
theorem Cells.upd {a : Addr} {o o' : HO} {n : Nat} (ha : H a = some o) (mu : Mut (some o)) (hg : g a = n) : ∀ {Γ : List Kd} {ρ : List D} {σ : L2.St}, Cells mg P g H Γ ρ σ → Cells mg P g (upd H a o') (killK n Γ) ρ σ
  | [], [], [], _ => trivial
  | _ :: _, _ :: _, _ :: _, h => ⟨h.1.upd ha mu hg, Cells.upd ha mu hg h.2⟩
  | [], _ :: _, _, h => h.elim
  | [], [], _ :: _, h => h.elim
  | _ :: _, [], _, h => h.elim
  | _ :: _, _ :: _, [], h => h.elim
theorem Cells.put {k : Kd} {d : D} {v : V} : ∀ {Γ : List Kd} {ρ : List D} {σ : L2.St} (i : Nat), Cells mg P g H Γ ρ σ → CellOk mg P g H k d (some v) → σ[i]? = some (some v) → Cells mg P g H (Γ.set i k) (ρ.set i d) σ
  | [], [], [], _, _, _, _ => trivial
  | _ :: _, _ :: _, _ :: _, 0, h, c, e => ⟨by cases (by simpa using e : _ = some v); exact c, h.2⟩
  | _ :: _, _ :: _, _ :: _, i + 1, h, c, e => ⟨h.1, Cells.put i h.2 c (by simpa using e)⟩
  | [], _ :: _, _, _, h, _, _ => h.elim
  | [], [], _ :: _, _, h, _, _ => h.elim
  | _ :: _, [], _, _, h, _, _ => h.elim
  | _ :: _, _ :: _, [], _, h, _, _ => h.elim
/-- the object at a (label n) becomes o', the slot i tells it anew -/
theorem Sta.put {a : Addr} {o o' : HO} {n i : Nat} {k : Kd} {d : D} {v : V} (s : Sta mg P LL Γ g ρ σ H) (ha : H a = some o) (mu : Mut (some o)) (mu' : Mut (some o')) (hg : g a = n) (hn : n ≠ 0) (hL : n ∉ LL) (hv : σ[i]? = some (some v)) (c : CellOk mg P g (upd H a o') k d (some v)) :
    Sta mg P LL ((killK n Γ).set i k) g (ρ.set i d) σ (upd H a o') ∧ Step LL g H g (upd H a o') := by
  have nl : ∀ b, VV.lk LL (g b) → b ≠ a := fun b h e => by
    subst e
    rw [hg] at h
    exact h.elim hn hL
  refine ⟨⟨⟨fun b hb => ?_, fun b hb => ?_, fun b hb => ?_⟩, Cells.put i (s.cells.upd ha mu hg) c hv⟩, ⟨fun b hb u e => ?_, fun b _ _ => rfl, fun b hb => ?_⟩⟩
  · by_cases e : b = a
    · subst e; exact ⟨o', upd_same, .inl mu'⟩
    · rw [upd_ne e]; exact s.loc.at_ b hb
  · by_cases e : b = a
    · subst e; rw [upd_same]; simp
    · rw [upd_ne e]; exact s.loc.out b hb
  · refine ⟨?_, (s.loc.fz b hb).2⟩
    rw [upd_ne (nl b (s.loc.fz b hb).2)]
    exact (s.loc.fz b hb).1
  · rw [upd_ne (nl b hb)]; exact e
  · by_cases e : b = a
    · subst e; rw [upd_same]; simp
    · rw [upd_ne e]; exact hb
end

/-! ### append -/
def dPush : D → D → Option D
  | .lst l, d => if l.length < 1000000 then some (.lst (l ++ [d])) else none
  | _, _ => none
/-- the list in the slot i, changed by a function of it and a value -/
def sMut (f : D → D → Option D) (i : Nat) (e : Ev) : Sv := fun ρ => do
  let y ← e ρ
  let x ← ρ[i]?
  let z ← f x y
  some (.nx (ρ.set i z))
/-- the kind of a list that has got one more -/
def Md.pushL (c : Nat) : Md → List Nat
  | .flat => []
  | .al fr r L' _ => (match r with | .new => [c] | .old n => [n] | .unk => []) ++ ((if fr then [c] else []) ++ L')
def Md.isNd : Md → Bool
  | .flat => true
  | .al _ _ _ nd => nd
def Kd.push (c : Nat) (k : Kd) (m : Md) : Kd := match k with
  | .lab rt L nd => .lab rt (L ++ m.pushL c) (nd && m.isNd && disj L m.labs)
  | k => k
/-- the nodes of a value, its new ones labelled c -/
theorem Val.pushed {mg : Mg} {P : Fm} {LL : List Nat} {g : Addr → Nat} {H H' : Hp} {m : Md} {d : D} {y : V} {c : Nat} (h : Val mg P g H H' m d y) (l : Loc P LL g H) (hc : c ≠ 0) :
    ∃ f, Rep mg H' d y f ∧ (∀ b ∈ f, Old P (relab g H H' .non c c) (m.pushL c) b) ∧ (m.isNd = true → f.Nodup) ∧ ∀ b ∈ f, New H H' b ∨ Old P g m.labs b := by
  obtain ⟨f, r, o, lb, _⟩ := h.labs
  refine ⟨f, r, fun b hb => ?_, fun hn => ?_, lb⟩
  · cases m with
    | flat =>
      obtain rfl : f = [] := o
      cases hb
    | al fr rt L nd =>
      obtain ⟨f0, r0, o0, _⟩ := h
      have nw : New H H' b → (c ∈ (Md.al fr rt L nd).pushL c) → Old P (relab g H H' .non c c) ((Md.al fr rt L nd).pushL c) b := fun n hm => by
        unfold Old
        rw [relab_new n]
        simp only [if_neg (show V.non ≠ V.ref b from fun z => nomatch z)]
        exact ⟨hm, fun z => absurd z hc⟩
      have old : ∀ {K : List Nat}, Old P g K b → (∀ k ∈ K, k ∈ (Md.al fr rt L nd).pushL c) → Old P (relab g H H' .non c c) ((Md.al fr rt L nd).pushL c) b := fun {K} y hK => by
        have y' := Old.relab (H' := H') (v := .non) (n := c) (m := c) y l
        exact ⟨hK _ y'.1, y'.2⟩
      cases rt with
      | new =>
        rcases o.1 b hb with y | y
        · exact nw y.2 (List.mem_append_left _ List.mem_cons_self)
        · exact old y fun k hk => List.mem_append_right _ (List.mem_append_right _ hk)
      | old n =>
        rcases o.1 b hb with ⟨hf, y⟩ | y
        · subst hf
          exact nw y (List.mem_append_right _ (List.mem_append_left _ List.mem_cons_self))
        · refine old y fun k hk => ?_
          rcases List.mem_cons.mp hk with e | e
          · rw [e]; exact List.mem_append_left _ List.mem_cons_self
          · exact List.mem_append_right _ (List.mem_append_right _ e)
      | unk =>
        rcases o.1 b hb with ⟨hf, y⟩ | y
        · subst hf
          exact nw y (List.mem_append_right _ (List.mem_append_left _ List.mem_cons_self))
        · exact old y fun k hk => List.mem_append_right _ (List.mem_append_right _ hk)
  · cases m with
    | flat =>
      obtain rfl : f = [] := o
      exact List.nodup_nil
    | al fr rt L nd => cases rt <;> exact o.2 hn
section
variable {X : Cx} {W : L2.WX} {sc : Sc} {Γ : List Kd} {pos : Pos}
theorem sx_append {i : Nat} {x : Str} {px ap cp : Pos} {e : Expr} {se : Ev} {m : Md} {n : Nat} {L : List Nat} {nd : Bool} (c : Nat) (hk : Γ[i]? = some (.lab (some n) L nd)) (hN : X.N[i]? = some x) (hv : Vis X.env.scope x) (he : EX X sc.LL Γ e se m)
    (hn : n ≠ 0 := by decide) (hL : n ∉ sc.LL := by decide) (hm : n ∉ m.labs := by decide) (hc : c ≠ 0 := by decide) (hdb : (x == ("__debug__" : Str)) = false := by decide) (hcd : (x == ("__classdict__" : Str)) = false := by decide)
    (hbase : attributeBase (.Name x px) "append" X.env (eval (.Name x px) X.env) = eval (.Name x px) X.env := by rfl)
    (hfew : ((backTo cp (starEach [e] X.env)).all (fun x => !x.1) && (backToKw cp (keywordEach [] X.env)).all (fun x => x.1.isSome)
      && decide ([e].length + ([] : List Keyword).length + (if ([] : List Keyword).isEmpty then 0 else 1) < 30)) = true := by rfl)
    (hline : (ap.endLine == cp.line) = true := by rfl) (hs : starEach [e] X.env = (false, eval e X.env) :: starEach [] X.env := by rfl) (hplain : (backTo cp (starEach [] X.env)).any (·.1) = false := by rfl)
    (hsw : swapsWith (.Call (.Attribute (.Name x px) "append" ap) [e] [] cp) none pos.line X.env = pure false := by rfl) :
    SX X W sc Γ (.Expr (.Call (.Attribute (.Name x px) "append" ap) [e] [] cp) pos) (sMut dPush i se) ((killK n Γ).set i (Kd.push c (.lab (some n) L nd) m)) := by
  obtain ⟨t, pt, kk⟩ := he
  refine ⟨_, ps_expr (pe_bm PySem.F.plainAttrs_list PySem.F.slot_list_append PySem.F.type_list_append mt_append (pe_var hN hv hdb hcd) (pa_cons pt pa_nil hs) hbase hfew hline hs hplain) hsw, fun P g ρ σ H o De s e w => ?_⟩
  obtain ⟨d, e1, e⟩ := bind_some e
  obtain ⟨l, e2, e⟩ := bind_some e
  obtain ⟨z, e3, e⟩ := bind_some e
  cases e
  obtain ⟨l', ov, h1, h2, h3⟩ := s.cells.get hk
  rw [e2] at h1; cases h1
  cases l with
  | lst ds =>
    unfold dPush at e3
    dsimp only at e3
    split at e3
    · rename_i hlen
      cases e3
      obtain ⟨v, fp, rfl, r, q, z⟩ := h3
      simp only [Rep] at r
      obtain ⟨a, vs, f, rfl, ha, rl, rfl⟩ := r
      have hga : g a = n := by
        rcases q a List.mem_cons_self with ⟨_, k, ek, y⟩ | ⟨y, _⟩
        · cases ek; exact List.mem_singleton.mp y.1
        · rcases y with y | y
          · exact absurd rfl y
          · cases y
      have haf : a ∉ f := z.2 rfl a f rfl rfl
      refine ⟨.ref a, h2, .inl ⟨rfl, _, .inl (.inl ha)⟩, ?_⟩
      refine kk P g ρ σ H d _ s e1 fun y H2 x2 wv => ?_
      obtain ⟨fy, ry, oy, ndy, lby⟩ := wv.pushed (c := c) s.loc hc
      have ha2 : H2 a = some (.lst vs) := x2 a _ ha
      have hay : a ∉ fy := fun hm' => by
        rcases lby a hm' with y | y
        · have := y.1; rw [ha] at this; cases this
        · have := y.1; rw [hga] at this; exact hm this
      have st2 : Sta X.vm P sc.LL Γ (relab g H H2 .non c c) ρ σ H2 := s.relab x2
      have hg2 : relab g H H2 .non c c a = n := by rw [relab_old (by rw [ha]; simp)]; exact hga
      refine ⟨a, vs, y, rfl, rfl, ha2, ?_, ?_⟩
      · rw [rl.length, sizeLine_eq]; omega
      have oldf : ∀ b ∈ f, Old P g L b := fun b hb => by
        rcases q b (List.mem_cons_of_mem _ hb) with ⟨e, _⟩ | ⟨_, y⟩
        · cases e; exact absurd hb haf
        · exact y
      have cell : CellOk X.vm P (relab g H H2 .non c c) (upd H2 a (.lst (vs ++ [y]))) (Kd.push c (.lab (some n) L nd) m) (.lst (ds ++ [d])) (some (.ref a)) := by
        refine ⟨.ref a, a :: (f ++ fy), rfl, ?_, fun b hb => ?_, fun hn' => ?_, fun _ b g' e1 e2 => ?_⟩
        · simp only [Rep]
          exact ⟨a, vs ++ [y], f ++ fy, rfl, upd_same, (repL_upd (rl.ext x2) haf ha2 trivial).append (.one (rep_upd ry hay ha2 trivial)), rfl⟩
        · rcases List.mem_cons.mp hb with rfl | hb
          · exact .inl ⟨rfl, n, rfl, by rw [hg2]; exact List.mem_singleton.mpr rfl, fun z => by rw [hg2] at z; exact absurd z hn⟩
          · rcases List.mem_append.mp hb with hb | hb
            · have y' := Old.relab (H' := H2) (v := .non) (n := c) (m := c) (oldf b hb) s.loc
              exact .inr ⟨.inl fun e => by cases e; exact haf hb, List.mem_append_left _ y'.1, y'.2⟩
            · have y' := oy b hb
              exact .inr ⟨.inl fun e => by cases e; exact hay hb, List.mem_append_right _ y'.1, y'.2⟩
        · simp only [Bool.and_eq_true] at hn'
          obtain ⟨⟨n1, n2⟩, dj⟩ := hn'
          refine List.nodup_cons.mpr ⟨fun hm => (List.mem_append.mp hm).elim haf hay, List.nodup_append.mpr ⟨(List.nodup_cons.mp (z.1 n1)).2, ndy n2, fun b hb b' hb' e => ?_⟩⟩
          subst e
          rcases lby b hb' with y | y
          · exact (oldf b hb).there s.loc y.1
          · exact disj_ok dj (oldf b hb).1 y.1
        · cases e2
          exact fun hm => (List.mem_append.mp hm).elim haf hay
      obtain ⟨s3, st3⟩ := st2.put (o' := .lst (vs ++ [y])) ha2 trivial trivial hg2 hn hL h2 cell
      exact w _ σ _ ((Step.relab x2).trans st3) s3
    · cases e3
  | _ => cases e3
end
end VV

/-! ## VBool -/
namespace VV
open PySem PySem.Spec PyProof.Rows L2
def vAnd (a b : Ev) : Ev := fun ρ => match a ρ with
  | some (.bl true) => b ρ
  | some (.bl false) => some (.bl false)
  | _ => none
def vOr (a b : Ev) : Ev := fun ρ => match a ρ with
  | some (.bl false) => b ρ
  | some (.bl true) => some (.bl true)
  | _ => none
def vNot (a : Ev) : Ev := fun ρ => match a ρ with
  | some (.bl b) => some (.bl (!b))
  | _ => none
section
variable {X : Cx} {W : L2.WX} {sc : Sc} {LL : List Nat} {Γ Γ1 Γ' : List Kd} {pos : Pos} {a b c : Expr} {sa sb s2 : Ev} {ma mb mc : Md} {rest : List Expr}
theorem ex_one {op} (ha : EX X LL Γ a sa ma) : EX X LL Γ (.BoolOp op [a] pos) sa ma := let ⟨t, p, k⟩ := ha; ⟨t, pe_one p, k⟩
theorem ex_and (ha : EX X LL Γ a sa .flat) (hb : EX X LL Γ (.BoolOp .And (b :: rest) pos) sb .flat) : EX X LL Γ (.BoolOp .And (a :: b :: rest) pos) (vAnd sa sb) .flat := by
  obtain ⟨t, p, k⟩ := ha
  obtain ⟨t', p', k'⟩ := hb
  refine ⟨_, pe_and p p', fun P g ρ σ H d Q s e q => ?_⟩
  unfold vAnd at e
  split at e
  · rename_i h
    refine k P g ρ σ H _ _ s h fun v H1 x1 w => ⟨true, rBl (show Rep X.vm H1 (.bl true) v [] from w), ?_⟩
    exact iteT (k' P g ρ σ H1 d Q (s.ext x1) e fun v2 H2 x2 w2 => q v2 H2 (x1.trans x2) w2)
  · rename_i h
    cases e
    refine k P g ρ σ H _ _ s h fun v H1 x1 w => ⟨false, rBl (show Rep X.vm H1 (.bl false) v [] from w), ?_⟩
    exact iteF (q _ H1 x1 (val_flat rep_bl))
  · cases e
theorem ex_or (ha : EX X LL Γ a sa .flat) (hb : EX X LL Γ (.BoolOp .Or (b :: rest) pos) sb .flat) : EX X LL Γ (.BoolOp .Or (a :: b :: rest) pos) (vOr sa sb) .flat := by
  obtain ⟨t, p, k⟩ := ha
  obtain ⟨t', p', k'⟩ := hb
  refine ⟨_, pe_or p p', fun P g ρ σ H d Q s e q => ?_⟩
  unfold vOr at e
  split at e
  · rename_i h
    refine k P g ρ σ H _ _ s h fun v H1 x1 w => ⟨false, rBl (show Rep X.vm H1 (.bl false) v [] from w), ?_⟩
    exact iteF (k' P g ρ σ H1 d Q (s.ext x1) e fun v2 H2 x2 w2 => q v2 H2 (x1.trans x2) w2)
  · rename_i h
    cases e
    refine k P g ρ σ H _ _ s h fun v H1 x1 w => ⟨true, rBl (show Rep X.vm H1 (.bl true) v [] from w), ?_⟩
    exact iteT (q _ H1 x1 (val_flat rep_bl))
  · cases e
theorem ex_not (ha : EX X LL Γ a sa .flat) : EX X LL Γ (.UnaryOp .Not a pos) (vNot sa) .flat := by
  obtain ⟨t, p, k⟩ := ha
  refine ⟨_, pe_not p, fun P g ρ σ H d Q s e q => ?_⟩
  unfold vNot at e
  split at e
  · rename_i b h
    cases e
    refine k P g ρ σ H _ _ s h fun v H1 x1 w => ⟨b, rBl (show Rep X.vm H1 (.bl b) v [] from w), q _ H1 x1 (val_flat rep_bl)⟩
  · cases e
/-- known less ahead of a statement -/
theorem sx_pre {st : Stmt} {s : Sv} (m : List (Nat × Nat)) (h : SX X W sc Γ1 st s Γ') (hm : mapOk sc.LL m = true) (hk : kdsLe m Γ Γ1 = true) : SX X W sc Γ st s Γ' := by
  obtain ⟨t, p, k⟩ := h
  exact ⟨t, p, fun P g ρ σ H o D st e w => k P _ ρ σ H o D (st.re hm hk) e (w.from (.re hm))⟩
/-- a OP b OP' c, ints -/
def dCh (f g : Int → Int → Bool) : List D → Option D
  | [.int a, .int b, .int c] => some (.bl (f a b && g b c))
  | _ => none
theorem chain_read {f h : Int → Int → Bool} (ha : EX X LL Γ a sa ma) (hb : EX X LL Γ b sb mb) (hc : EX X LL Γ c s2 mc) :
    ∃ ta tb tc, PE X a ta ∧ PE X b tb ∧ PE X c tc ∧ ∀ P g ρ σ H d (Q : V → Hp → Prop), Sta X.vm P LL Γ g ρ σ H → eP (dCh f h) (aCons sa (aCons sb (aCons s2 aNil))) ρ = some d →
      (∀ H' k, Ext H H' → d = .bl k → Q (.bl k) H') → tChain (rI0 fun i j => .bl (f i j)) (rI0 fun i j => .bl (h i j)) ta tb tc σ H Q := by
  obtain ⟨ta, pa, ka⟩ := ha
  obtain ⟨tb, pb, kb⟩ := hb
  obtain ⟨tc, pc, kc⟩ := hc
  refine ⟨ta, tb, tc, pa, pb, pc, fun P g ρ σ H d Q s e q => ?_⟩
  obtain ⟨ds, e1, e⟩ := bind_some e
  obtain ⟨x, ex, e1⟩ := bind_some e1
  obtain ⟨r, er, e1⟩ := bind_some e1
  obtain ⟨y, ey, er⟩ := bind_some er
  obtain ⟨r2, er2, er⟩ := bind_some er
  obtain ⟨z, ez, er2⟩ := bind_some er2
  obtain ⟨r3, er3, er2⟩ := bind_some er2
  cases er3; cases er2; cases er; cases e1
  unfold dCh at e
  split at e
  · rename_i i j k eq
    cases eq
    cases e
    refine ka P g ρ σ H _ _ s ex fun v H1 x1 w1 => ?_
    refine kb P g ρ σ H1 _ _ (s.ext x1) ey fun v2 H2 x2 w2 => ?_
    obtain ⟨_, r1, _⟩ := w1.labs
    obtain ⟨_, r2, _⟩ := w2.labs
    obtain rfl := rInt r1
    obtain rfl := rInt r2
    refine ⟨i, j, rfl, rfl, f i j, rfl, ?_⟩
    cases hf : f i j with
    | false =>
      rw [hf] at q
      exact iteF (q H2 _ (x1.trans x2) rfl)
    | true =>
      rw [hf] at q
      refine iteT (kc P g ρ σ H2 _ _ (s.ext (x1.trans x2)) ez fun v3 H3 x3 w3 => ?_)
      obtain ⟨_, r3, _⟩ := w3.labs
      obtain rfl := rInt r3
      exact ⟨j, k, rfl, rfl, q H3 _ (x1.trans (x2.trans x3)) rfl⟩
  · cases e
theorem ex_chain {op op' : CmpOp} {f h : Int → Int → Bool} (ho : OpR X (compareOp op) (rI0 fun i j => .bl (f i j))) (ho' : OpR X (compareOp op') (rI0 fun i j => .bl (h i j))) (ha : EX X LL Γ a sa ma) (hb : EX X LL Γ b sb mb) (hc : EX X LL Γ c s2 mc) (hm : lastMarks [op, op'] [b, c] = false) :
    EX X LL Γ (.Compare a [op, op'] [b, c] pos) (eP (dCh f h) (aCons sa (aCons sb (aCons s2 aNil)))) .flat := by
  obtain ⟨ta, tb, tc, pa, pb, pc, k⟩ := chain_read (f := f) (h := h) ha hb hc
  exact ⟨_, pe_chain ho ho' pa pb pc hm, fun P g ρ σ H d Q s e q => k P g ρ σ H d Q s e fun H' b x eb => by subst eb; exact q _ H' x (val_flat rep_bl)⟩
theorem et_chain {op op' : CmpOp} {f h : Int → Int → Bool} (ho : OpR X (compareOp op) (rI0 fun i j => .bl (f i j))) (ho' : OpR X (compareOp op') (rI0 fun i j => .bl (h i j))) (ha : EX X LL Γ a sa ma) (hb : EX X LL Γ b sb mb) (hc : EX X LL Γ c s2 mc) (hm : lastMarks [op, op'] [b, c] = false) :
    ET X LL Γ (.Compare a [op, op'] [b, c] pos) (tOf (eP (dCh f h) (aCons sa (aCons sb (aCons s2 aNil))))) := by
  obtain ⟨ta, tb, tc, pa, pb, pc, k⟩ := chain_read (f := f) (h := h) ha hb hc
  refine ⟨_, pt_chain ho ho' pa pb pc hm, fun P g ρ σ H b Q s e q => ?_⟩
  obtain ⟨d, e0, e⟩ := bind_some e
  refine k P g ρ σ H d _ s e0 fun H' b' x eb => ?_
  subst eb
  cases e
  exact ⟨_, rfl, q H' x⟩
theorem ex_lele (ha : EX X LL Γ a sa ma) (hb : EX X LL Γ b sb mb) (hc : EX X LL Γ c s2 mc) (hm : lastMarks [.LtE, .LtE] [b, c] = false := by with_unfolding_all rfl) : EX X LL Γ (.Compare a [.LtE, .LtE] [b, c] pos) (eP (dCh (fun i j => decide (i ≤ j)) fun i j => decide (i ≤ j)) (aCons sa (aCons sb (aCons s2 aNil)))) .flat := ex_chain op_le op_le ha hb hc hm
theorem ex_lelt (ha : EX X LL Γ a sa ma) (hb : EX X LL Γ b sb mb) (hc : EX X LL Γ c s2 mc) (hm : lastMarks [.LtE, .Lt] [b, c] = false := by with_unfolding_all rfl) : EX X LL Γ (.Compare a [.LtE, .Lt] [b, c] pos) (eP (dCh (fun i j => decide (i ≤ j)) fun i j => decide (i < j)) (aCons sa (aCons sb (aCons s2 aNil)))) .flat := ex_chain op_le op_lt ha hb hc hm
theorem et_lele (ha : EX X LL Γ a sa ma) (hb : EX X LL Γ b sb mb) (hc : EX X LL Γ c s2 mc) (hm : lastMarks [.LtE, .LtE] [b, c] = false := by with_unfolding_all rfl) : ET X LL Γ (.Compare a [.LtE, .LtE] [b, c] pos) (tOf (eP (dCh (fun i j => decide (i ≤ j)) fun i j => decide (i ≤ j)) (aCons sa (aCons sb (aCons s2 aNil))))) := et_chain op_le op_le ha hb hc hm
theorem et_lelt (ha : EX X LL Γ a sa ma) (hb : EX X LL Γ b sb mb) (hc : EX X LL Γ c s2 mc) (hm : lastMarks [.LtE, .Lt] [b, c] = false := by with_unfolding_all rfl) : ET X LL Γ (.Compare a [.LtE, .Lt] [b, c] pos) (tOf (eP (dCh (fun i j => decide (i ≤ j)) fun i j => decide (i < j)) (aCons sa (aCons sb (aCons s2 aNil))))) := et_chain op_le op_lt ha hb hc hm
end
end VV

/-! ## VLaw -/
namespace VV
open PySem PySem.Spec PyProof.Rows L2

/-- a def that may be called by its name -/
def Cal (P : Program) (w : World) (K : PySem.W.Frag) (mg : Str → Option Value) (base : Heap) (x : Str) (k : Nat) (ps : List Str) (sem : List D → Option Res) (R : Rm) : Prop :=
  ∃ f fd, FnOk P w K mg base CX0 k f fd ps (sp0 ⟨mg, K⟩ sem ps.length R) ∧ mg x = some (.ref f) ∧ PySem.W.keepIn K (.ref f) = true ∧ Binds K fd ps []
section
variable {X : Cx} {LL : List Nat} {Γ : List Kd} {pos p : Pos} {k : Nat} {ps : List Str} {sem : List D → Option Res} {R : Rm} {x : Str}
theorem ex_calls_flat {e : Expr} {es : List Expr} {a : List D → Option (List D)} {m : Md} (c : Cal X.prog X.w X.K X.mg X.base x k ps sem .flat) (hr : Room k X.A) (hg : Gl X x) (ha : EA X LL Γ (e :: es) a m) (hn : (e :: es).length = ps.length := by rfl)
    (hdb : (x == ("__debug__" : Str)) = false := by decide) (he : starEach (e :: es) X.env = (false, eval e X.env) :: starEach es X.env := by rfl) (hpl : (backTo pos (starEach es X.env)).any (·.1) = false := by rfl) :
    EX X LL Γ (.Call (.Name x p) (e :: es) [] pos) (eCall sem a) .flat := by
  obtain ⟨f, fd, F, hm, hk, hb⟩ := c
  exact ex_call F hr hg hm hk hb ha hn hdb he hpl
theorem ex_calls0_flat (c : Cal X.prog X.w X.K X.mg X.base x k ps sem .flat) (hr : Room k X.A) (hg : Gl X x) (hn : ps.length = 0 := by rfl) (hdb : (x == ("__debug__" : Str)) = false := by decide) : EX X LL Γ (.Call (.Name x p) [] [] pos) (eCall sem aNil) .flat := by
  obtain ⟨f, fd, F, hm, hk, hb⟩ := c
  exact ex_call0 F hr hg hm hk hb hn hdb
theorem ex_calls_fresh {e : Expr} {es : List Expr} {a : List D → Option (List D)} {m : Md} (c : Cal X.prog X.w X.K X.mg X.base x k ps sem .fresh) (hr : Room k X.A) (hg : Gl X x) (ha : EA X LL Γ (e :: es) a m) (hn : (e :: es).length = ps.length := by rfl)
    (hdb : (x == ("__debug__" : Str)) = false := by decide) (he : starEach (e :: es) X.env = (false, eval e X.env) :: starEach es X.env := by rfl) (hpl : (backTo pos (starEach es X.env)).any (·.1) = false := by rfl) :
    EX X LL Γ (.Call (.Name x p) (e :: es) [] pos) (eCall sem a) (.al true .new [] true) := by
  obtain ⟨f, fd, F, hm, hk, hb⟩ := c
  exact ex_call F hr hg hm hk hb ha hn hdb he hpl
theorem ex_calls0_fresh (c : Cal X.prog X.w X.K X.mg X.base x k ps sem .fresh) (hr : Room k X.A) (hg : Gl X x) (hn : ps.length = 0 := by rfl) (hdb : (x == ("__debug__" : Str)) = false := by decide) : EX X LL Γ (.Call (.Name x p) [] [] pos) (eCall sem aNil) (.al true .new [] true) := by
  obtain ⟨f, fd, F, hm, hk, hb⟩ := c
  exact ex_call0 F hr hg hm hk hb hn hdb
theorem ex_calls_out {e : Expr} {es : List Expr} {a : List D → Option (List D)} {m : Md} (c : Cal X.prog X.w X.K X.mg X.base x k ps sem .out) (hr : Room k X.A) (hg : Gl X x) (ha : EA X LL Γ (e :: es) a m) (hn : (e :: es).length = ps.length := by rfl)
    (hdb : (x == ("__debug__" : Str)) = false := by decide) (he : starEach (e :: es) X.env = (false, eval e X.env) :: starEach es X.env := by rfl) (hpl : (backTo pos (starEach es X.env)).any (·.1) = false := by rfl) :
    EX X LL Γ (.Call (.Name x p) (e :: es) [] pos) (eCall sem a) (Rm.md .out m) := by
  obtain ⟨f, fd, F, hm, hk, hb⟩ := c
  exact ex_call F hr hg hm hk hb ha hn hdb he hpl
theorem ex_calls0_out (c : Cal X.prog X.w X.K X.mg X.base x k ps sem .out) (hr : Room k X.A) (hg : Gl X x) (hn : ps.length = 0 := by rfl) (hdb : (x == ("__debug__" : Str)) = false := by decide) : EX X LL Γ (.Call (.Name x p) [] [] pos) (eCall sem aNil) (Rm.md .out .flat) := by
  obtain ⟨f, fd, F, hm, hk, hb⟩ := c
  exact ex_call0 F hr hg hm hk hb hn hdb
end
theorem scr_rep {mg : Mg} {H : Hp} {a : Addr} {ns : List Int} (h : SqL mg.K H a (ns.map V.int)) (o : Only H) : RepL mg H [.scr (ns.map D.int)] [.ref a] [] := by
  have key : ∀ ns : List Int, RepL mg H (ns.map D.int) (ns.map V.int) [] := fun ns => by
    induction ns with
    | nil => simp [RepL]
    | cons n r ih => simp only [List.map_cons, RepL]; exact ⟨_, _, [], [], rfl, rep_int, ih, rfl⟩
  simp only [RepL, Rep]
  refine ⟨_, _, [], [], rfl, ⟨a, _, rfl, ?_, key ns, rfl⟩, ⟨rfl, rfl⟩, rfl⟩
  rcases h with (h | h) | h
  · rcases o a with z | ⟨_, _, z⟩ <;> rw [h] at z <;> cases z
  · exact .inl h
  · exact .inr h
theorem rf_bl {mg : Mg} {H H' : Hp} {fp : List Addr} {R : Rm} {b : Bool} {v : V} (r : RF mg H H' fp R (.bl b) v) : v = .bl b := by
  cases R with
  | flat => exact rBl (show Rep mg H' (.bl b) v [] from r)
  | fresh => obtain ⟨_, r, _⟩ := r; exact rBl r
  | out => obtain ⟨_, r, _⟩ := r; exact rBl r
/-- the end: a law whose tree is True at every script -/
theorem walk_V {l : PySem.W.OpenLaw} {n k : Nat} {q : Program} {loose : List Str} {XP : (Str → Option Value) → Heap → Prop} {YP : World → Heap → Prop} {d : DefRec} {x : Str} {sem : List D → Option Res} {R : Rm}
    (hn : l.most = some n) (hn2 : n ≤ sizeLine) (hdf : d.params.defaults = []) (hr : Room k callerA)
    (hs : ∀ ns : List Int, ns.length ≤ n → (∀ z ∈ ns, Builtin.Int.intBits z ≤ 1048576) → sem [.scr (ns.map D.int)] = some (.ret (.bl true)))
    (F : ∀ (w : World) (mg : Str → Option Value) (fa : Addr) (h : Heap), YP w h → h.Ns mainGlobals mg → mg d.name = some (.ref fa) →
      ∃ (K : PySem.W.Frag) (fd : FuncData), K.In h ∧ (∀ (s : Shared) (u : Value), BindsTo s fd ⟨[u], []⟩ [(x, u)]) ∧
        ∀ base : Heap, K.In base → base.Ns mainGlobals mg → FnOk l.prog w K mg base CX0 k fa fd [x] (sp0 ⟨mg, K⟩ sem 1 R)) :
    PySem.W.WalkO q loose XP YP l.row.toRowW d [] (fun f vs => PySem.call f vs) := by
  refine Att.attach_callB hn hdf fun w s₀ s₁ mg mb fa o pm cd doc a vs ns G Y ho hd hcd hmg hobj hints hlen hbits hg => ?_
  obtain ⟨K, fd, KX, hb, hF⟩ := F w mg fa _ Y G.T.g hmg
  refine law_call KX G.T.g G.T.b G.T.builtins G.T.nolimit hg hobj hints (Nat.le_trans hlen hn2) hr hF hb (fun H hO hS => ?_) fun H e s' h => h
  exact ⟨rfl, _, [], _, scr_rep (mg := ⟨mg, K⟩) hS hO, hs ns hlen hbits, fun v H' _ r => rf_bl r⟩
end VV

/-! ## VDict -/
namespace VV
open PySem PySem.Spec PyProof.Rows L2

/-! ### keys -/
def keyD : L2.Key → D
  | .inl i => .int i
  | .inr s => .str s
def D.ky1 : D → Option L2.Key
  | .int i => some (.inl i)
  | .str s => some (.inr s)
  | _ => none
def D.kyL : List D → Option (List L2.Key)
  | [] => some []
  | d :: r => match d.ky1, D.kyL r with
    | some k, some ks => some (k :: ks)
    | _, _ => none
def D.ky (tk : Bool) (d : D) : Option Ky := match tk with
  | false => d.ky1.map Ky.k
  | true => match d with
    | .tup l => (D.kyL l).map Ky.t
    | _ => none
def Ky.d : Ky → D
  | .k x => keyD x
  | .t l => .tup (l.map keyD)
section
variable {mg : Mg} {H : Hp}
theorem rep_keyD {k : L2.Key} : Rep mg H (keyD k) (kV k) [] := by
  cases k <;> simp [keyD, kV, Rep]
theorem rep_ky1 {d : D} {v : V} {fp : List Addr} {k : L2.Key} (h : Rep mg H d v fp) (e : d.ky1 = some k) : v = kV k := by
  cases d <;> simp only [D.ky1] at e <;> cases e
  · exact rInt h
  · exact rStr h
theorem rep_kyL : ∀ {l : List D} {vs : List V} {fp : List Addr} {ks : List L2.Key}, RepL mg H l vs fp → D.kyL l = some ks → vs = ks.map kV
  | [], _, _, _, h, e => by
    simp only [RepL] at h
    cases e
    exact h.1
  | d :: r, _, _, _, h, e => by
    simp only [RepL] at h
    obtain ⟨v, vs, f1, f2, rfl, h1, h2, _⟩ := h
    simp only [D.kyL] at e
    split at e
    · rename_i k ks e1 e2
      cases e
      rw [rep_ky1 h1 e1, rep_kyL h2 e2]
      rfl
    · cases e
theorem repL_keys {l : List L2.Key} : RepL mg H (l.map keyD) (l.map kV) [] := by
  induction l with
  | nil => simp [RepL]
  | cons k r ih =>
    simp only [List.map_cons, RepL]
    exact ⟨_, _, [], [], rfl, rep_keyD, ih, rfl⟩
end

/-! ### tables of keys and values -/
def lkD {α : Type} (ks : List Ky) (ds : List α) (k : Ky) : Option α := ((ks.zip ds).find? fun p => decide (p.1 = k)).map (·.2)
def putKs (ks : List Ky) (k : Ky) : List Ky := if k ∈ ks then ks else ks ++ [k]
def putDs {α : Type} (ks : List Ky) (ds : List α) (k : Ky) (d : α) : List α := if k ∈ ks then (ks.zip ds).map (fun p => if p.1 = k then d else p.2) else ds ++ [d]
def delKs (ks : List Ky) (k : Ky) : List Ky := ks.filter fun x => decide (x ≠ k)
def delDs {α : Type} (ks : List Ky) (ds : List α) (k : Ky) : List α := ((ks.zip ds).filter fun p => decide (p.1 ≠ k)).map (·.2)
section
variable {mg : Mg} {H : Hp} {κ : Type} [DecidableEq κ] {em : κ → Ky}
theorem lk_some (hi : ∀ a b, em a = em b → a = b) {x : κ} : ∀ {kl : List κ} {ds : List D} {vs : List V} {f : List Addr} {d : D}, RepL mg H ds vs f → lkD (kl.map em) ds (em x) = some d →
    ∃ v g1 g g2, valV (kl.zip vs) x = some v ∧ Rep mg H d v g ∧ f = g1 ++ g ++ g2
  | [], _, _, _, _, _, e => by simp [lkD] at e
  | k :: kl, [], _, _, _, _, e => by simp [lkD] at e
  | k :: kl, d0 :: ds, _, _, d, h, e => by
    simp only [RepL] at h
    obtain ⟨v, r, f1, f2, rfl, h1, h2, rfl⟩ := h
    simp only [List.map_cons, List.zip_cons_cons, lkD, List.find?_cons] at e
    by_cases hk : k = x
    · subst hk
      simp at e
      subst e
      exact ⟨v, [], f1, f2, valV_pos rfl, h1, rfl⟩
    · have : ¬ em k = em x := fun z => hk (hi _ _ z)
      simp only [this, decide_false] at e
      obtain ⟨w, g1, g, g2, e1, e2, rfl⟩ := lk_some hi h2 e
      exact ⟨w, f1 ++ g1, g, g2, (valV_neg (by exact hk)).trans e1, e2, by simp [List.append_assoc]⟩
theorem lk_none (hi : ∀ a b, em a = em b → a = b) {x : κ} : ∀ {kl : List κ} {ds : List D} {vs : List V} {f : List Addr}, RepL mg H ds vs f → lkD (kl.map em) ds (em x) = none → valV (kl.zip vs) x = none
  | [], _, _, _, _, _ => by simp [valV]
  | k :: kl, [], _, _, h, _ => by
    simp only [RepL] at h
    obtain ⟨rfl, _⟩ := h
    simp [valV]
  | k :: kl, d0 :: ds, _, _, h, e => by
    simp only [RepL] at h
    obtain ⟨v, r, f1, f2, rfl, h1, h2, rfl⟩ := h
    simp only [List.map_cons, List.zip_cons_cons, lkD, List.find?_cons] at e
    by_cases hk : k = x
    · subst hk
      simp at e
    · have : ¬ em k = em x := fun z => hk (hi _ _ z)
      simp only [this, decide_false] at e
      exact (valV_neg (by exact hk)).trans (lk_none hi h2 e)
theorem any_mem {x : κ} : ∀ {kl : List κ} {vs : List V}, kl.length = vs.length → ((kl.zip vs).any fun kv => decide (kv.1 = x)) = decide (x ∈ kl)
  | [], [], _ => by simp
  | k :: kl, v :: vs, h => by
    simp only [List.zip_cons_cons, List.any_cons, any_mem (kl := kl) (vs := vs) (by simpa using h)]
    by_cases e : k = x
    · simp [e]
    · simp [e, Ne.symm e]
  | [], _ :: _, h => by simp at h
  | _ :: _, [], h => by simp at h
theorem mem_em (hi : ∀ a b, em a = em b → a = b) {x : κ} {kl : List κ} : em x ∈ kl.map em ↔ x ∈ kl := by
  constructor
  · intro h
    obtain ⟨y, h1, h2⟩ := List.mem_map.mp h
    rw [← hi _ _ h2]; exact h1
  · exact fun h => List.mem_map.mpr ⟨x, h, rfl⟩
/-- the pairs behind a store -/
theorem put_zip (hi : ∀ a b, em a = em b → a = b) {x : κ} {v : V} {kl : List κ} {vs : List V} (hl : kl.length = vs.length) :
    ∃ kl2 : List κ, putKs (kl.map em) (em x) = kl2.map em ∧ putK (kl.zip vs) x v = kl2.zip (putDs (kl.map em) vs (em x) v) ∧ kl2.length = (putDs (kl.map em) vs (em x) v).length := by
  unfold putKs putDs putK
  rw [any_mem hl]
  by_cases h : x ∈ kl
  · refine ⟨kl, by rw [if_pos ((mem_em hi).mpr h)], ?_, ?_⟩
    · rw [if_pos (by simpa using h), if_pos ((mem_em hi).mpr h)]
      clear h
      induction kl generalizing vs with
      | nil => simp
      | cons k kl ih =>
        cases vs with
        | nil => simp
        | cons u vs =>
          have ih := ih (vs := vs) (by simpa using hl)
          simp only [List.map_cons, List.zip_cons_cons, List.map_cons]
          by_cases e : k = x
          · subst e; simp only [if_true]; rw [ih]
          · have : ¬ em k = em x := fun z => e (hi _ _ z)
            simp only [e, this, if_false]; rw [ih]
    · rw [if_pos ((mem_em hi).mpr h)]; simp [hl]
  · refine ⟨kl ++ [x], ?_, ?_, ?_⟩
    · rw [if_neg fun z => h ((mem_em hi).mp z)]; simp
    · rw [if_neg (by simpa using h), if_neg fun z => h ((mem_em hi).mp z), List.zip_append hl]; rfl
    · rw [if_neg fun z => h ((mem_em hi).mp z)]; simp [hl]
theorem del_zip (hi : ∀ a b, em a = em b → a = b) {x : κ} : ∀ {kl : List κ} {vs : List V}, kl.length = vs.length →
    ∃ kl2 : List κ, delKs (kl.map em) (em x) = kl2.map em ∧ dropK (kl.zip vs) x = kl2.zip (delDs (kl.map em) vs (em x)) ∧ kl2.length = (delDs (kl.map em) vs (em x)).length
  | [], [], _ => ⟨[], by simp [delKs, delDs, dropK]⟩
  | k :: kl, v :: vs, h => by
    obtain ⟨kl2, h1, h2, h3⟩ := del_zip (x := x) hi (kl := kl) (vs := vs) (by simpa using h)
    unfold delKs at h1 ⊢
    unfold delDs at h2 h3 ⊢
    unfold dropK at h2 ⊢
    by_cases e : k = x
    · subst e
      exact ⟨kl2, by simpa using h1, by simpa using h2, by simpa using h3⟩
    · have e2 : ¬ em k = em x := fun z => e (hi _ _ z)
      refine ⟨k :: kl2, ?_, ?_, ?_⟩
      · simp only [List.map_cons, List.filter_cons, e2, ne_eq, not_false_eq_true, decide_true, if_true]
        rw [h1]
      · simp only [List.map_cons, List.zip_cons_cons, List.filter_cons, e2, e, ne_eq, not_false_eq_true, decide_true, if_true]
        rw [h2]
      · simp only [List.map_cons, List.zip_cons_cons, List.filter_cons, e2, e, ne_eq, not_false_eq_true, decide_true, if_true, List.length_cons]
        rw [h3]
  | [], _ :: _, h => by simp at h
  | _ :: _, [], h => by simp at h
end
theorem ky_k_inj (a b : L2.Key) (e : Ky.k a = Ky.k b) : a = b := by cases e; rfl
theorem ky_t_inj (a b : List L2.Key) (e : Ky.t a = Ky.t b) : a = b := by cases e; rfl

/-! ### reading -/
def dGet : List D → Option D
  | [.dic tk ks ds, x] => (x.ky tk).bind (lkD ks ds)
  | _ => none
def dLenD : List D → Option D
  | [.dic _ ks _] => some (.int ks.length)
  | _ => none
section
variable {mg : Mg} {H : Hp} {a : Addr} {tk : Bool} {ks : List Ky} {ds : List D} {vs : List V} {f : List Addr} {x d : D} {y : V} {fy : List Addr} {k : Ky}
theorem dget_some (r : RdD H a tk ks vs) (rl : RepL mg H ds vs f) (ry : Rep mg H x y fy) (ek : x.ky tk = some k) (e : lkD ks ds k = some d) : ∃ v g1 g g2, DGet H a y (some v) ∧ Rep mg H d v g ∧ f = g1 ++ g ++ g2 := by
  obtain ⟨hl, r⟩ := r
  cases tk with
  | false =>
    obtain ⟨kl, rfl, r⟩ := r
    simp only [D.ky, Option.map_eq_some_iff] at ek
    obtain ⟨k1, e1, rfl⟩ := ek
    obtain ⟨v, g1, g, g2, e2, e3, e4⟩ := lk_some ky_k_inj rl e
    exact ⟨v, g1, g, g2, .inl ⟨_, k1, r, rep_ky1 ry e1, e2.symm⟩, e3, e4⟩
  | true =>
    obtain ⟨kl, rfl, r⟩ := r
    cases x with
    | tup l =>
      simp only [D.ky, Option.map_eq_some_iff] at ek
      obtain ⟨k1, e1, rfl⟩ := ek
      obtain ⟨v, g1, g, g2, e2, e3, e4⟩ := lk_some ky_t_inj rl e
      simp only [Rep] at ry
      obtain ⟨b, us, rfl, hb, rb⟩ := ry
      rw [rep_kyL rb e1] at hb
      exact ⟨v, g1, g, g2, .inr ⟨_, k1, b, r, rfl, hb, e2.symm⟩, e3, e4⟩
    | _ => cases ek
theorem dget_none (r : RdD H a tk ks vs) (rl : RepL mg H ds vs f) (ry : Rep mg H x y fy) (ek : x.ky tk = some k) (e : lkD ks ds k = none) : DGet H a y none := by
  obtain ⟨hl, r⟩ := r
  cases tk with
  | false =>
    obtain ⟨kl, rfl, r⟩ := r
    simp only [D.ky, Option.map_eq_some_iff] at ek
    obtain ⟨k1, e1, rfl⟩ := ek
    exact .inl ⟨_, k1, r, rep_ky1 ry e1, (lk_none ky_k_inj rl e).symm⟩
  | true =>
    obtain ⟨kl, rfl, r⟩ := r
    cases x with
    | tup l =>
      simp only [D.ky, Option.map_eq_some_iff] at ek
      obtain ⟨k1, e1, rfl⟩ := ek
      simp only [Rep] at ry
      obtain ⟨b, us, rfl, hb, rb⟩ := ry
      rw [rep_kyL rb e1] at hb
      exact .inr ⟨_, k1, b, r, rfl, hb, (lk_none ky_t_inj rl e).symm⟩
    | _ => cases ek
theorem RdD.isD (r : RdD H a tk ks vs) : IsD H a := by
  obtain ⟨_, r⟩ := r
  cases tk with
  | false => obtain ⟨_, _, r⟩ := r; exact .inl ⟨_, r⟩
  | true => obtain ⟨_, _, r⟩ := r; exact .inr ⟨_, r⟩
end
section
variable {X : Cx} {LL : List Nat} {Γ : List Kd} {pos : Pos} {a b c : Expr} {sa sb s2 : Ev} {ma mb mc : Md}
theorem ex_dget (hu : X.A.units + 1 < cLine) (ha : EX X LL Γ a sa ma) (hb : EX X LL Γ b sb mb) (hs : NoSl b := by exact fun _ _ => rfl) : EX X LL Γ (.Subscript a b pos) (eP dGet (aCons sa (aCons sb aNil))) ma.child := by
  obtain ⟨ta, pa, ka⟩ := ha
  obtain ⟨tb, pb, kb⟩ := hb
  refine ⟨_, pe_dget hu pa pb hs, fun P g ρ σ H d Q s e q => ?_⟩
  obtain ⟨ds, e1, e⟩ := bind_some e
  obtain ⟨d1, ea, e1⟩ := bind_some e1
  obtain ⟨r1, er, e1⟩ := bind_some e1
  obtain ⟨d2, eb, er⟩ := bind_some er
  obtain ⟨r2, er2, er⟩ := bind_some er
  cases er2; cases er; cases e1
  refine ka P g ρ σ H d1 _ s ea fun v H1 x1 w1 => ?_
  refine kb P g ρ σ H1 d2 _ (s.ext x1) eb fun y H2 x2 w2 => ?_
  unfold dGet at e
  split at e
  · rename_i tk ks l x eq
    cases eq
    obtain ⟨k, ek, e⟩ := bind_some e
    obtain ⟨fp, r, o, lb, ch⟩ := (w1.ext x2).labs
    simp only [Rep] at r
    obtain ⟨a1, vs, f, rfl, rd, rl, rfl⟩ := r
    obtain ⟨fy, ry, _⟩ := w2.labs
    obtain ⟨v2, g1, g2, g3, dg, rv, rfl⟩ := dget_some rd rl ry ek e
    refine ⟨a1, v2, rfl, dg, q v2 H2 (x1.trans x2) ?_⟩
    have cf := ch g2 ⟨g1, g3, .inl ⟨a1, rfl, rfl⟩⟩
    cases hm : ma.child with
    | flat =>
      rw [hm] at cf
      obtain rfl : g2 = [] := cf
      exact rv
    | al fr rt L nd =>
      rw [hm] at cf
      have hrt : rt = .unk := by
        unfold Md.child Md.unroot at hm
        cases ma with
        | flat => cases hm
        | al fr' rt' L' nd' =>
          cases nd' <;> cases rt' <;> simp at hm <;> exact hm.2.1.symm
      subst hrt
      exact ⟨g2, rv, fun b hb => .inr ⟨.inr rfl, cf.1 b hb⟩, .unk cf.2⟩
  · cases e
end
end VV

/-! ## VDict2 -/
namespace VV
open PySem PySem.Spec PyProof.Rows L2

/-! ### one of two -/
theorem fps_none {P : Fm} {g : Addr → Nat} {H H' : Hp} {m : Md} : Fps P g H H' m [] := by
  cases m with
  | flat => exact rfl
  | al fr rt L nd => exact ⟨fun a ha => (nomatch ha), fun _ => List.nodup_nil⟩
def Md.either (m m' : Md) : Md := (m.unroot.join1 m'.unroot).tup
theorem val_of_fps {mg : Mg} {P : Fm} {g : Addr → Nat} {H H' : Hp} {m : Md} {d : D} {v : V} {f : List Addr} (r : Rep mg H' d v f) (o : Fps P g H H' m f) : Val mg P g H H' m.tup d v := by
  cases m with
  | flat =>
    obtain rfl : f = [] := o
    exact r
  | al fr rt L nd => exact ⟨f, r, fun b hb => .inr ⟨.inr rfl, o.1 b hb⟩, .unk o.2⟩
theorem val_left {mg : Mg} {P : Fm} {LL : List Nat} {g : Addr → Nat} {H H' : Hp} {m m' : Md} {d : D} {v : V} (l : Loc P LL g H) (h : Val mg P g H H' m d v) : Val mg P g H H' (m.either m') d v := by
  obtain ⟨f, r, o⟩ := h.unroot
  have hz : Rep mg H' d v f → ∀ a ∈ f, H' a ≠ none := fun r a ha => r.there a ha
  unfold Md.either
  refine val_of_fps r ?_
  have := fps_join (m := m.unroot) (m' := m'.unroot) (f := f) (f' := []) (l := l) (e1 := Ext.refl) (e2 := Ext.refl) (H := H) (H1 := H) (H2 := H) (P := P) (g := g)
  cases hm : m.unroot with
  | flat =>
    rw [hm] at o
    obtain rfl : f = [] := o
    exact fps_none
  | al fr rt L nd =>
    rw [hm] at o
    cases hm' : m'.unroot with
    | flat => exact o
    | al fr' rt' L' nd' =>
      refine ⟨fun a ha => (o.1 a ha).imp (fun ⟨x, y⟩ => ⟨by rw [x]; rfl, y⟩) fun y => ⟨List.mem_append_left _ y.1, y.2⟩, fun hn => o.2 ?_⟩
      simp only [Bool.and_eq_true] at hn
      exact hn.1.1
theorem val_right {mg : Mg} {P : Fm} {g : Addr → Nat} {H H' : Hp} {m m' : Md} {d : D} {v : V} (h : Val mg P g H H' m' d v) : Val mg P g H H' (m.either m') d v := by
  obtain ⟨f, r, o⟩ := h.unroot
  unfold Md.either
  refine val_of_fps r ?_
  cases hm : m.unroot with
  | flat =>
    cases hm' : m'.unroot with
    | flat => rw [hm'] at o; exact o
    | al fr' rt' L' nd' => rw [hm'] at o; exact o
  | al fr rt L nd =>
    cases hm' : m'.unroot with
    | flat =>
      rw [hm'] at o
      obtain rfl : f = [] := o
      exact fps_none
    | al fr' rt' L' nd' =>
      rw [hm'] at o
      refine ⟨fun a ha => (o.1 a ha).imp (fun ⟨x, y⟩ => ⟨by rw [x]; cases fr <;> rfl, y⟩) fun y => ⟨List.mem_append_right _ y.1, y.2⟩, fun hn => o.2 ?_⟩
      simp only [Bool.and_eq_true] at hn
      exact hn.1.2
/-- what a dict holds -/
theorem dic_child {mg : Mg} {P : Fm} {g : Addr → Nat} {H H1 : Hp} {m : Md} {tk : Bool} {ks : List Ky} {l : List D} {v : V} (h : Val mg P g H H1 m (.dic tk ks l) v) :
    ∃ a vs f, v = .ref a ∧ RdD H1 a tk ks vs ∧ RepL mg H1 l vs f ∧ ∀ g1 g2 g3 d u, f = g1 ++ g2 ++ g3 → Rep mg H1 d u g2 → Val mg P g H H1 m.child d u := by
  obtain ⟨fp, r, o, lb, ch⟩ := h.labs
  simp only [Rep] at r
  obtain ⟨a1, vs, f, rfl, rd, rl, rfl⟩ := r
  refine ⟨a1, vs, f, rfl, rd, rl, fun g1 g2 g3 d u e rv => ?_⟩
  subst e
  have cf := ch g2 ⟨g1, g3, .inl ⟨a1, rfl, rfl⟩⟩
  cases hm : m.child with
  | flat =>
    rw [hm] at cf
    obtain rfl : g2 = [] := cf
    exact rv
  | al fr rt L nd =>
    rw [hm] at cf
    have hrt : rt = .unk := by
      unfold Md.child Md.unroot at hm
      cases m with
      | flat => cases hm
      | al fr' rt' L' nd' =>
        cases nd' <;> cases rt' <;> simp at hm <;> exact hm.2.1.symm
    subst hrt
    exact ⟨g2, rv, fun b hb => .inr ⟨.inr rfl, cf.1 b hb⟩, .unk cf.2⟩

/-! ### get, in -/
def dGet2 : List D → Option D
  | [.dic tk ks ds, x, z] => (x.ky tk).map fun k => (lkD ks ds k).getD z
  | _ => none
def dIn : List D → Option D
  | [x, .dic tk ks ds] => (x.ky tk).map fun k => .bl (lkD ks ds k).isSome
  | _ => none
def dNotIn : List D → Option D
  | [x, .dic tk ks ds] => (x.ky tk).map fun k => .bl (!(lkD ks ds k).isSome)
  | _ => none
section
variable {X : Cx} {LL : List Nat} {Γ : List Kd} {pos apos cpos : Pos} {a b c : Expr} {sa sb s2 : Ev} {ma mb mc : Md}
theorem ex_dget2 (hu : X.A.units + 1 < cLine) (ha : EX X LL Γ a sa ma) (hb : EX X LL Γ b sb mb) (hc : EX X LL Γ c s2 mc)
    (h1 : attributeBase a "get" X.env (eval a X.env) = eval a X.env := by rfl)
    (h2 : ((backTo cpos (starEach [b, c] X.env)).all (fun x => !x.1) && (backToKw cpos (keywordEach [] X.env)).all (fun x => x.1.isSome)
      && decide (([b, c] : List Expr).length + ([] : List Keyword).length + (if ([] : List Keyword).isEmpty then 0 else 1) < 30)) = true := by rfl)
    (h3 : (apos.endLine == cpos.line) = true := by rfl) (h4 : backTo cpos (starEach [b, c] X.env) = [(false, eval b X.env), (false, eval c X.env)] := by rfl) :
    EX X LL Γ (.Call (.Attribute a "get" apos) [b, c] [] cpos) (eP dGet2 (aCons sa (aCons sb (aCons s2 aNil)))) (ma.child.either mc) := by
  obtain ⟨ta, pa, ka⟩ := ha
  obtain ⟨tb, pb, kb⟩ := hb
  obtain ⟨tc, pc, kc⟩ := hc
  refine ⟨_, pe_dget2 hu pa pb pc ⟨h1, h2, h3, h4⟩, fun P g ρ σ H d Q s e q => ?_⟩
  obtain ⟨ds, e1, e⟩ := bind_some e
  obtain ⟨d1, ea, e1⟩ := bind_some e1
  obtain ⟨r1, er, e1⟩ := bind_some e1
  obtain ⟨d2, eb, er⟩ := bind_some er
  obtain ⟨r2, er2, er⟩ := bind_some er
  obtain ⟨d3, ec, er2⟩ := bind_some er2
  obtain ⟨r3, er3, er2⟩ := bind_some er2
  cases er3; cases er2; cases er; cases e1
  refine ka P g ρ σ H d1 _ s ea fun v H1 x1 w1 => ?_
  unfold dGet2 at e
  split at e
  · rename_i tk ks l x z eq
    cases eq
    simp only [Option.map_eq_some_iff] at e
    obtain ⟨k, ek, rfl⟩ := e
    obtain ⟨a1, vs, f, rfl, rd, rl, _⟩ := dic_child w1
    refine ⟨a1, rfl, rd.isD, ?_⟩
    refine kb P g ρ σ H1 _ _ (s.ext x1) eb fun y H2 x2 w2 => ?_
    refine kc P g ρ σ H2 _ _ (s.ext (x1.trans x2)) ec fun y3 H3 x3 w3 => ?_
    obtain ⟨a2, vs2, f2, e2, rd2, rl2, ch⟩ := dic_child (w1.ext (x2.trans x3))
    cases e2
    obtain ⟨fy, ry, _⟩ := (w2.ext x3).labs
    have xx := x1.trans (x2.trans x3)
    cases hk : lkD ks l k with
    | none =>
      rw [hk] at q
      exact ⟨none, dget_none rd2 rl2 ry ek hk, q y3 H3 xx (val_right (w3.back (x1.trans x2)))⟩
    | some d' =>
      rw [hk] at q
      obtain ⟨v2, g1, g2, g3, dg, rv, e4⟩ := dget_some rd2 rl2 ry ek hk
      exact ⟨some v2, dg, q v2 H3 xx (val_left s.loc (ch g1 g2 g3 _ _ e4 rv))⟩
  · cases e
theorem din_core (ha : EX X LL Γ a sa ma) (hb : EX X LL Γ b sb mb) : ∃ ta tb, PE X a ta ∧ PE X b tb ∧ ∀ P g ρ σ H tk ks l x k (Q : Bool → Hp → Prop), Sta X.vm P LL Γ g ρ σ H → sa ρ = some x → sb ρ = some (.dic tk ks l) → x.ky tk = some k →
    (∀ H2, Ext H H2 → Q (lkD ks l k).isSome H2) → ta σ H fun y H1 => tb σ H1 fun z H2 => ∃ a o, z = .ref a ∧ DGet H2 a y o ∧ Q o.isSome H2 := by
  obtain ⟨ta, pa, ka⟩ := ha
  obtain ⟨tb, pb, kb⟩ := hb
  refine ⟨ta, tb, pa, pb, fun P g ρ σ H tk ks l x k Q s ea eb ek q => ?_⟩
  refine ka P g ρ σ H _ _ s ea fun y H1 x1 w1 => ?_
  refine kb P g ρ σ H1 _ _ (s.ext x1) eb fun v H2 x2 w2 => ?_
  obtain ⟨a2, vs2, f2, rfl, rd2, rl2, _⟩ := dic_child w2
  obtain ⟨fy, ry, _⟩ := (w1.ext x2).labs
  have q := q H2 (x1.trans x2)
  cases hk : lkD ks l k with
  | none =>
    rw [hk] at q
    exact ⟨a2, none, rfl, dget_none rd2 rl2 ry ek hk, q⟩
  | some d' =>
    rw [hk] at q
    obtain ⟨v2, g1, g2, g3, dg, rv, _⟩ := dget_some rd2 rl2 ry ek hk
    exact ⟨a2, some v2, rfl, dg, q⟩
theorem din_inv {ρ : List D} {d : D} (e : eP dIn (aCons sa (aCons sb aNil)) ρ = some d) : ∃ tk ks l x k, sa ρ = some x ∧ sb ρ = some (.dic tk ks l) ∧ x.ky tk = some k ∧ d = .bl (lkD ks l k).isSome := by
  obtain ⟨ds, e1, e⟩ := bind_some e
  obtain ⟨d1, ea, e1⟩ := bind_some e1
  obtain ⟨r1, er, e1⟩ := bind_some e1
  obtain ⟨d2, eb, er⟩ := bind_some er
  obtain ⟨r2, er2, er⟩ := bind_some er
  cases er2; cases er; cases e1
  unfold dIn at e
  split at e
  · rename_i x tk ks l eq
    cases eq
    simp only [Option.map_eq_some_iff] at e
    obtain ⟨k, ek, rfl⟩ := e
    exact ⟨tk, ks, l, _, k, ea, eb, ek, rfl⟩
  · cases e
theorem dnin_inv {ρ : List D} {d : D} (e : eP dNotIn (aCons sa (aCons sb aNil)) ρ = some d) : ∃ tk ks l x k, sa ρ = some x ∧ sb ρ = some (.dic tk ks l) ∧ x.ky tk = some k ∧ d = .bl (!(lkD ks l k).isSome) := by
  obtain ⟨ds, e1, e⟩ := bind_some e
  obtain ⟨d1, ea, e1⟩ := bind_some e1
  obtain ⟨r1, er, e1⟩ := bind_some e1
  obtain ⟨d2, eb, er⟩ := bind_some er
  obtain ⟨r2, er2, er⟩ := bind_some er
  cases er2; cases er; cases e1
  unfold dNotIn at e
  split at e
  · rename_i x tk ks l eq
    cases eq
    simp only [Option.map_eq_some_iff] at e
    obtain ⟨k, ek, rfl⟩ := e
    exact ⟨tk, ks, l, _, k, ea, eb, ek, rfl⟩
  · cases e
theorem ex_din (hu : X.A.units + 1 < cLine) (ha : EX X LL Γ a sa ma) (hb : EX X LL Γ b sb mb) (hm : behindInMarks .In b = false := by rfl) : EX X LL Γ (.Compare a [.In] [b] pos) (eP dIn (aCons sa (aCons sb aNil))) .flat := by
  obtain ⟨ta, tb, pa, pb, k⟩ := din_core ha hb
  refine ⟨_, pe_cmp (pc_din hu pa pb) hm, fun P g ρ σ H d Q s e q => ?_⟩
  obtain ⟨tk, ks, l, x, kk, ea, eb, ek, rfl⟩ := din_inv e
  exact k P g ρ σ H tk ks l x kk (fun b H2 => Q (.bl b) H2) s ea eb ek fun H2 x2 => q _ H2 x2 (val_flat rep_bl)
theorem ex_dnotin (hu : X.A.units + 1 < cLine) (ha : EX X LL Γ a sa ma) (hb : EX X LL Γ b sb mb) (hm : behindInMarks .NotIn b = false := by rfl) : EX X LL Γ (.Compare a [.NotIn] [b] pos) (eP dNotIn (aCons sa (aCons sb aNil))) .flat := by
  obtain ⟨ta, tb, pa, pb, k⟩ := din_core ha hb
  refine ⟨_, pe_cmp (pc_dnotin hu pa pb) hm, fun P g ρ σ H d Q s e q => ?_⟩
  obtain ⟨tk, ks, l, x, kk, ea, eb, ek, rfl⟩ := dnin_inv e
  exact k P g ρ σ H tk ks l x kk (fun b H2 => Q (.bl !b) H2) s ea eb ek fun H2 x2 => q _ H2 x2 (val_flat rep_bl)
theorem et_din (hu : X.A.units + 1 < cLine) (ha : EX X LL Γ a sa ma) (hb : EX X LL Γ b sb mb) (hm : behindInMarks .In b = false := by rfl) : ET X LL Γ (.Compare a [.In] [b] pos) (tOf (eP dIn (aCons sa (aCons sb aNil)))) := by
  obtain ⟨ta, tb, pa, pb, k⟩ := din_core ha hb
  refine ⟨_, pt_cmp (pc_din hu pa pb) hm, fun P g ρ σ H b Q s e q => ?_⟩
  obtain ⟨d, e0, e⟩ := bind_some e
  obtain ⟨tk, ks, l, x, kk, ea, eb, ek, rfl⟩ := din_inv e0
  cases e
  exact k P g ρ σ H tk ks l x kk (fun b H2 => ∃ b', V.bl b = .bl b' ∧ Q b' H2) s ea eb ek fun H2 x2 => ⟨_, rfl, q H2 x2⟩
theorem et_dnotin (hu : X.A.units + 1 < cLine) (ha : EX X LL Γ a sa ma) (hb : EX X LL Γ b sb mb) (hm : behindInMarks .NotIn b = false := by rfl) : ET X LL Γ (.Compare a [.NotIn] [b] pos) (tOf (eP dNotIn (aCons sa (aCons sb aNil)))) := by
  obtain ⟨ta, tb, pa, pb, k⟩ := din_core ha hb
  refine ⟨_, pt_cmp (pc_dnotin hu pa pb) hm, fun P g ρ σ H b Q s e q => ?_⟩
  obtain ⟨d, e0, e⟩ := bind_some e
  obtain ⟨tk, ks, l, x, kk, ea, eb, ek, rfl⟩ := dnin_inv e0
  cases e
  exact k P g ρ σ H tk ks l x kk (fun b H2 => ∃ b', V.bl (!b) = .bl b' ∧ Q b' H2) s ea eb ek fun H2 x2 => ⟨_, rfl, q H2 x2⟩
end
end VV

/-! ## VDict3 -/
namespace VV
open PySem PySem.Spec PyProof.Rows L2

/-! ### what stands after a store, a removal -/
section
variable {mg : Mg} {H : Hp}
theorem zip_id {α : Type} {k : Ky} {d : α} : ∀ {ks : List Ky} {ds : List α}, ks.length = ds.length → k ∉ ks → (ks.zip ds).map (fun p => if p.1 = k then d else p.2) = ds
  | [], [], _, _ => rfl
  | k0 :: ks, d0 :: ds, hl, h => by
    simp only [List.zip_cons_cons, List.map_cons]
    rw [zip_id (by simpa using hl) fun z => h (List.mem_cons_of_mem _ z), if_neg fun z => h (by rw [← z]; exact List.mem_cons_self)]
  | [], _ :: _, hl, _ => by simp at hl
  | _ :: _, [], hl, _ => by simp at hl
theorem repL_repl {k : Ky} {d : D} {y : V} {fy : List Addr} (ry : Rep mg H d y fy) : ∀ {ks : List Ky} {ds : List D} {vs : List V} {f : List Addr}, ks.length = vs.length → ks.Nodup → k ∈ ks → RepL mg H ds vs f →
    ∃ f', RepL mg H ((ks.zip ds).map fun p => if p.1 = k then d else p.2) ((ks.zip vs).map fun p => if p.1 = k then y else p.2) f' ∧ (∀ b ∈ f', b ∈ f ∨ b ∈ fy) ∧ (f.Nodup → fy.Nodup → (∀ b ∈ f, b ∉ fy) → f'.Nodup)
  | [], _, _, _, _, _, hm, _ => nomatch hm
  | k0 :: ks, [], _, _, hl, _, _, h => by
    simp only [RepL] at h
    obtain ⟨rfl, _⟩ := h
    simp at hl
  | k0 :: ks, d0 :: ds, _, _, hl, hn, hm, h => by
    simp only [RepL] at h
    obtain ⟨v, r, f1, f2, rfl, h1, h2, rfl⟩ := h
    have hl2 : ks.length = r.length := by simpa using hl
    obtain ⟨hn1, hn2⟩ := List.nodup_cons.mp hn
    simp only [List.zip_cons_cons, List.map_cons]
    by_cases e : k0 = k
    · subst e
      rw [zip_id (by rw [hl2, h2.length]) hn1, zip_id hl2 hn1, if_pos rfl, if_pos rfl]
      refine ⟨fy ++ f2, ?_, fun b hb => ?_, fun n1 n2 dj => ?_⟩
      · simp only [RepL]; exact ⟨y, r, fy, f2, rfl, ry, h2, rfl⟩
      · exact (List.mem_append.mp hb).elim .inr fun z => .inl (List.mem_append_right _ z)
      · exact List.nodup_append.mpr ⟨n2, (List.nodup_append.mp n1).2.1, fun a ha b hb e => dj b (List.mem_append_right _ hb) (e ▸ ha)⟩
    · rw [if_neg e, if_neg e]
      have hm2 : k ∈ ks := (List.mem_cons.mp hm).elim (fun z => absurd z.symm e) id
      obtain ⟨f', g1, g2, g3⟩ := repL_repl ry hl2 hn2 hm2 h2
      refine ⟨f1 ++ f', ?_, fun b hb => ?_, fun n1 n2 dj => ?_⟩
      · simp only [RepL]; exact ⟨v, _, f1, f', rfl, h1, g1, rfl⟩
      · rcases List.mem_append.mp hb with z | z
        · exact .inl (List.mem_append_left _ z)
        · exact (g2 b z).imp (fun q => List.mem_append_right _ q) id
      · obtain ⟨a1, a2, a3⟩ := List.nodup_append.mp n1
        refine List.nodup_append.mpr ⟨a1, g3 a2 n2 fun b hb => dj b (List.mem_append_right _ hb), fun a ha b hb e => ?_⟩
        rcases g2 b hb with q | q
        · exact a3 a ha b q e
        · exact dj a (List.mem_append_left _ ha) (e ▸ q)
theorem repL_put {k : Ky} {d : D} {y : V} {fy : List Addr} {ks : List Ky} {ds : List D} {vs : List V} {f : List Addr} (ry : Rep mg H d y fy) (hl : ks.length = vs.length) (hn : ks.Nodup) (h : RepL mg H ds vs f) :
    ∃ f', RepL mg H (putDs ks ds k d) (putDs ks vs k y) f' ∧ (∀ b ∈ f', b ∈ f ∨ b ∈ fy) ∧ (f.Nodup → fy.Nodup → (∀ b ∈ f, b ∉ fy) → f'.Nodup) := by
  unfold putDs
  by_cases hm : k ∈ ks
  · rw [if_pos hm, if_pos hm]
    exact repL_repl ry hl hn hm h
  · rw [if_neg hm, if_neg hm]
    refine ⟨f ++ fy, h.append (.one ry), fun b hb => List.mem_append.mp hb, fun n1 n2 dj => List.nodup_append.mpr ⟨n1, n2, fun a ha b hb e => dj a ha (e ▸ hb)⟩⟩
theorem repL_del {k : Ky} : ∀ {ks : List Ky} {ds : List D} {vs : List V} {f : List Addr}, RepL mg H ds vs f → ∃ f', RepL mg H (delDs ks ds k) (delDs ks vs k) f' ∧ (∀ b ∈ f', b ∈ f) ∧ (f.Nodup → f'.Nodup)
  | [], ds, vs, f, h => ⟨[], by simp [delDs, RepL], (fun b hb => by cases hb), fun _ => List.nodup_nil⟩
  | k0 :: ks, [], _, _, h => by
    simp only [RepL] at h
    obtain ⟨rfl, rfl⟩ := h
    exact ⟨[], by simp [delDs, RepL], (fun b hb => by cases hb), fun _ => List.nodup_nil⟩
  | k0 :: ks, d0 :: ds, _, _, h => by
    simp only [RepL] at h
    obtain ⟨v, r, f1, f2, rfl, h1, h2, rfl⟩ := h
    obtain ⟨f', g1, g2, g3⟩ := repL_del (k := k) (ks := ks) h2
    unfold delDs at g1 ⊢
    by_cases e : k0 = k
    · refine ⟨f', ?_, fun b hb => List.mem_append_right _ (g2 b hb), fun n => g3 (List.nodup_append.mp n).2.1⟩
      simpa [e] using g1
    · refine ⟨f1 ++ f', ?_, fun b hb => ?_, fun n => ?_⟩
      · simp only [List.zip_cons_cons, List.filter_cons, e, ne_eq, not_false_eq_true, decide_true, if_true, List.map_cons, RepL]
        exact ⟨v, _, f1, f', rfl, h1, g1, rfl⟩
      · rcases List.mem_append.mp hb with z | z
        · exact List.mem_append_left _ z
        · exact List.mem_append_right _ (g2 b z)
      · obtain ⟨a1, a2, a3⟩ := List.nodup_append.mp n
        exact List.nodup_append.mpr ⟨a1, g3 a2, fun a ha b hb => a3 a ha b (g2 b hb)⟩
theorem putKs_nodup {ks : List Ky} {k : Ky} (h : ks.Nodup) : (putKs ks k).Nodup := by
  unfold putKs
  split
  · exact h
  · rename_i hm
    exact List.nodup_append.mpr ⟨h, by simp, fun a ha b hb e => hm (by rw [← List.mem_singleton.mp hb, ← e]; exact ha)⟩
/-- the heap behind a store -/
theorem rdD_put {a : Addr} {tk : Bool} {ks : List Ky} {vs : List V} {x : D} {y v : V} {fy : List Addr} {k : Ky} {o : HO} (r : RdD H a tk ks vs) (ry : Rep mg H x y fy) (ek : x.ky tk = some k) (hz : ks.length < sizeLine) (ho : H a = some o) (mu : Mut (some o)) :
    ∃ o', DPut H a y v (upd H a o') ∧ Mut (some o') ∧ RdD (upd H a o') a tk (putKs ks k) (putDs ks vs k v) := by
  obtain ⟨⟨hl, hn⟩, r⟩ := r
  have ex : ∀ {u : HO}, Rd H a u → u = o := fun {u} r => by
    rcases r with r | ⟨w, r⟩
    · rw [ho] at r; cases r; rfl
    · rw [ho] at r; cases r; exact mu.elim
  cases tk with
  | false =>
    obtain ⟨kl, rfl, r⟩ := r
    simp only [D.ky, Option.map_eq_some_iff] at ek
    obtain ⟨k1, e1, rfl⟩ := ek
    obtain rfl := ex r
    have hl2 : kl.length = vs.length := by simpa using hl
    obtain ⟨kl2, p1, p2, p3⟩ := put_zip (x := k1) (v := v) ky_k_inj hl2
    refine ⟨.dK (putK (kl.zip vs) k1 v), .inl ⟨_, k1, ho, rep_ky1 ry e1, ?_, rfl⟩, trivial, ⟨?_, putKs_nodup hn⟩, kl2, p1, .inl ?_⟩
    · rw [List.length_zip, hl2, Nat.min_self, ← hl2]; simpa using hz
    · rw [p1]; simpa using p3
    · rw [upd_same, p2]
  | true =>
    obtain ⟨kl, rfl, r⟩ := r
    cases x with
    | tup l =>
      simp only [D.ky, Option.map_eq_some_iff] at ek
      obtain ⟨k1, e1, rfl⟩ := ek
      obtain rfl := ex r
      simp only [Rep] at ry
      obtain ⟨b, us, rfl, hb, rb⟩ := ry
      rw [rep_kyL rb e1] at hb
      have hl2 : kl.length = vs.length := by simpa using hl
      obtain ⟨kl2, p1, p2, p3⟩ := put_zip (x := k1) (v := v) ky_t_inj hl2
      refine ⟨.dT (putK (kl.zip vs) k1 v), .inr ⟨_, k1, b, ho, rfl, hb, ?_, rfl⟩, trivial, ⟨?_, putKs_nodup hn⟩, kl2, p1, .inl ?_⟩
      · rw [List.length_zip, hl2, Nat.min_self, ← hl2]; simpa using hz
      · rw [p1]; simpa using p3
      · rw [upd_same, p2]
    | _ => cases ek
end

/-! ### d[k] = v -/
def dPut : D → D → D → Option D
  | .dic tk ks ds, x, v => (x.ky tk).bind fun k => if ks.length < 1000000 then some (.dic tk (putKs ks k) (putDs ks ds k v)) else none
  | _, _, _ => none
/-- the thing in the slot i gets v at x -/
def sPut (f : D → D → D → Option D) (i : Nat) (ex ev : Ev) : Sv := fun ρ => do
  let v ← ev ρ
  let x ← ex ρ
  let d ← ρ[i]?
  let z ← f d x v
  some (.nx (ρ.set i z))
theorem root_lab {P : Fm} {g : Addr → Nat} {n : Nat} {L : List Nat} {a : Addr} {f : List Addr} (q : ∀ b ∈ a :: f, (V.ref a = .ref b ∧ ∃ k, some n = some k ∧ Old P g [k] b) ∨ ((V.ref a ≠ .ref b ∨ some n = none) ∧ Old P g L b)) : g a = n := by
  rcases q a List.mem_cons_self with ⟨_, k, ek, y⟩ | ⟨y, _⟩
  · cases ek; exact List.mem_singleton.mp y.1
  · rcases y with y | y
    · exact absurd rfl y
    · cases y
section
variable {X : Cx} {W : L2.WX} {sc : Sc} {Γ : List Kd} {pos : Pos}
theorem sx_dput {i : Nat} {x : Str} {px pos' : Pos} {e j : Expr} {se sj : Ev} {m mj : Md} {n : Nat} {L : List Nat} {nd : Bool} (c : Nat) (hu : X.A.units + 1 < cLine) (hk : Γ[i]? = some (.lab (some n) L nd)) (hN : X.N[i]? = some x) (hv : Vis X.env.scope x)
    (he : EX X sc.LL Γ e se m) (hj : EX X sc.LL Γ j sj mj)
    (hn : n ≠ 0 := by decide) (hL : n ∉ sc.LL := by decide) (hm : n ∉ m.labs := by decide) (hc : c ≠ 0 := by decide) (hdb : (x == ("__debug__" : Str)) = false := by decide) (hcd : (x == ("__classdict__" : Str)) = false := by decide)
    (hs : swapsWith e (some (.Subscript (.Name x px) j pos')) pos.line X.env = pure false := by rfl) :
    SX X W sc Γ (.Assign [.Subscript (.Name x px) j pos'] e pos) (sPut dPut i sj se) ((killK n Γ).set i (Kd.push c (.lab (some n) L nd) m)) := by
  obtain ⟨t, pt, kk⟩ := he
  obtain ⟨tj, pj, kj⟩ := hj
  refine ⟨_, ps_dput hu (pe_var hN hv hdb hcd) pj pt hs, fun P g ρ σ H o De s e w => ?_⟩
  obtain ⟨d, e1, e⟩ := bind_some e
  obtain ⟨xk, e2, e⟩ := bind_some e
  obtain ⟨dd, e3, e⟩ := bind_some e
  obtain ⟨z, e4, e⟩ := bind_some e
  cases e
  obtain ⟨l', ov, h1, h2, h3⟩ := s.cells.get hk
  rw [e3] at h1; cases h1
  cases dd with
  | dic tk ks ds =>
    unfold dPut at e4
    obtain ⟨k, ek, e4⟩ := bind_some e4
    split at e4
    · rename_i hlen
      cases e4
      obtain ⟨v, fp, rfl, r, q, z⟩ := h3
      simp only [Rep] at r
      obtain ⟨a, vs, f, rfl, rd, rl, rfl⟩ := r
      have hga : g a = n := root_lab q
      have haf : a ∉ f := z.2 rfl a f rfl rfl
      refine kk P g ρ σ H d _ s e1 fun y H2 x2 wv => ?_
      refine ⟨.ref a, h2, ?_⟩
      refine kj P g ρ σ H2 xk _ (s.ext x2) e2 fun yk H3 x3 wk => ?_
      obtain ⟨fk, rk, _⟩ := wk.labs
      have x23 := x2.trans x3
      obtain ⟨o0, ho0, hmu⟩ := s.loc.at_ a (by rw [hga]; exact hn)
      have hmu : Mut (some o0) := by
        rcases hmu with hmu | hfz
        · exact hmu
        · have := (s.loc.fz a hfz).2
          rw [hga] at this
          exact (this.elim hn hL).elim
      have ho3 : H3 a = some o0 := x23 a _ ho0
      obtain ⟨fy, ry, oy, ndy, lby⟩ := (wv.ext x3).pushed (c := c) s.loc hc
      have hay : a ∉ fy := fun hm' => by
        rcases lby a hm' with y | y
        · have := y.1; rw [ho0] at this; cases this
        · have := y.1; rw [hga] at this; exact hm this
      have st2 : Sta X.vm P sc.LL Γ (relab g H H3 .non c c) ρ σ H3 := s.relab x23
      have hg2 : relab g H H3 .non c c a = n := by rw [relab_old (by rw [ho0]; simp)]; exact hga
      have rd3 : RdD H3 a tk ks vs := rd.keep fun u _ r => x23.rd r
      have rl3 := rl.ext x23
      obtain ⟨o', dp, mu', rd'⟩ := rdD_put (v := y) rd3 rk ek (by rw [sizeLine_eq]; omega) ho3 hmu
      refine ⟨a, _, rfl, dp, ?_⟩
      obtain ⟨f', g1, g2, g3⟩ := repL_put (k := k) ry rd3.1.1 rd3.1.2 rl3
      have haf' : a ∉ f' := fun hm => (g2 a hm).elim haf hay
      have oldf : ∀ b ∈ f, Old P g L b := fun b hb => by
        rcases q b (List.mem_cons_of_mem _ hb) with ⟨e, _⟩ | ⟨_, y⟩
        · cases e; exact absurd hb haf
        · exact y
      have cell : CellOk X.vm P (relab g H H3 .non c c) (upd H3 a o') (Kd.push c (.lab (some n) L nd) m) (.dic tk (putKs ks k) (putDs ks ds k d)) (some (.ref a)) := by
        refine ⟨.ref a, a :: f', rfl, ?_, fun b hb => ?_, fun hn' => ?_, fun _ b g' e1 e2 => ?_⟩
        · simp only [Rep]
          exact ⟨a, _, f', rfl, rd', repL_upd g1 haf' ho3 hmu, rfl⟩
        · rcases List.mem_cons.mp hb with rfl | hb
          · exact .inl ⟨rfl, n, rfl, by rw [hg2]; exact List.mem_singleton.mpr rfl, fun z => by rw [hg2] at z; exact absurd z hn⟩
          · rcases g2 b hb with hb' | hb'
            · have y' := Old.relab (H' := H3) (v := .non) (n := c) (m := c) (oldf b hb') s.loc
              exact .inr ⟨.inl fun e => by cases e; exact haf hb', List.mem_append_left _ y'.1, y'.2⟩
            · have y' := oy b hb'
              exact .inr ⟨.inl fun e => by cases e; exact hay hb', List.mem_append_right _ y'.1, y'.2⟩
        · simp only [Bool.and_eq_true] at hn'
          obtain ⟨⟨n1, n2⟩, dj⟩ := hn'
          refine List.nodup_cons.mpr ⟨haf', g3 (List.nodup_cons.mp (z.1 n1)).2 (ndy n2) fun b hb hb' => ?_⟩
          rcases lby b hb' with y | y
          · exact (oldf b hb).there s.loc y.1
          · exact disj_ok dj (oldf b hb).1 y.1
        · cases e2
          exact haf'
      obtain ⟨s3, st3⟩ := st2.put (o' := o') ho3 hmu mu' hg2 hn hL h2 cell
      exact w _ σ _ ((Step.relab x23).trans st3) s3
    · cases e4
  | _ => cases e4
end

/-! ### d.pop(k), a statement -/
def dPop : D → D → Option D
  | .dic false ks ds, x => (x.ky false).bind fun k => if (lkD ks ds k).isSome then some (.dic false (delKs ks k) (delDs ks ds k)) else none
  | _, _ => none
section
variable {X : Cx} {W : L2.WX} {sc : Sc} {Γ : List Kd} {pos : Pos}
theorem sx_dpop {i : Nat} {x : Str} {px ap cp : Pos} {j : Expr} {sj : Ev} {mj : Md} {n : Nat} {L : List Nat} {nd : Bool} (hk : Γ[i]? = some (.lab (some n) L nd)) (hN : X.N[i]? = some x) (hv : Vis X.env.scope x)
    (hj : EX X sc.LL Γ j sj mj)
    (hn : n ≠ 0 := by decide) (hL : n ∉ sc.LL := by decide) (hdb : (x == ("__debug__" : Str)) = false := by decide) (hcd : (x == ("__classdict__" : Str)) = false := by decide)
    (m1 : attributeBase (.Name x px) "pop" X.env (eval (.Name x px) X.env) = eval (.Name x px) X.env := by rfl)
    (m2 : ((backTo cp (starEach [j] X.env)).all (fun x => !x.1) && (backToKw cp (keywordEach [] X.env)).all (fun x => x.1.isSome)
      && decide (([j] : List Expr).length + ([] : List Keyword).length + (if ([] : List Keyword).isEmpty then 0 else 1) < 30)) = true := by rfl)
    (m3 : (ap.endLine == cp.line) = true := by rfl) (m4 : backTo cp (starEach [j] X.env) = [(false, eval j X.env)] := by rfl)
    (hsw : swapsWith (.Call (.Attribute (.Name x px) "pop" ap) [j] [] cp) none pos.line X.env = pure false := by rfl) :
    SX X W sc Γ (.Expr (.Call (.Attribute (.Name x px) "pop" ap) [j] [] cp) pos) (sMut dPop i sj) ((killK n Γ).set i (.lab (some n) L nd)) := by
  obtain ⟨tj, pj, kj⟩ := hj
  refine ⟨_, ps_expr (pe_dpop1 (pe_var hN hv hdb hcd) pj ⟨m1, m2, m3, m4⟩) hsw, fun P g ρ σ H o De s e w => ?_⟩
  obtain ⟨xk, e2, e⟩ := bind_some e
  obtain ⟨dd, e3, e⟩ := bind_some e
  obtain ⟨z, e4, e⟩ := bind_some e
  cases e
  obtain ⟨l', ov, h1, h2, h3⟩ := s.cells.get hk
  rw [e3] at h1; cases h1
  unfold dPop at e4
  split at e4
  · rename_i dd' xx ks ds
    obtain ⟨k, ek, e4⟩ := bind_some e4
    split at e4
    · rename_i hsome
      cases e4
      obtain ⟨v, fp, rfl, r, q, z⟩ := h3
      simp only [Rep] at r
      obtain ⟨a, vs, f, rfl, rd, rl, rfl⟩ := r
      have hga : g a = n := root_lab q
      have haf : a ∉ f := z.2 rfl a f rfl rfl
      refine ⟨.ref a, h2, a, rfl, rd.isD, ?_⟩
      refine kj P g ρ σ H _ _ s e2 fun yk H3 x3 wk => ?_
      obtain ⟨fk, rk, _⟩ := wk.labs
      obtain ⟨o0, ho0, hmu⟩ := s.loc.at_ a (by rw [hga]; exact hn)
      have hmu : Mut (some o0) := by
        rcases hmu with hmu | hfz
        · exact hmu
        · have := (s.loc.fz a hfz).2
          rw [hga] at this
          exact (this.elim hn hL).elim
      have ho3 : H3 a = some o0 := x3 a _ ho0
      have rd3 : RdD H3 a false ks vs := rd.keep fun u _ r => x3.rd r
      have rl3 := rl.ext x3
      obtain ⟨⟨hl, hnd⟩, kl, rfl, rk3⟩ := rd3
      simp only [D.ky, Option.map_eq_some_iff] at ek
      obtain ⟨k1, ek1, rfl⟩ := ek
      have ho : H3 a = some (.dK (kl.zip vs)) := by
        rcases rk3 with r | ⟨u, r⟩
        · exact r
        · rw [ho3] at r; cases r; exact hmu.elim
      obtain ⟨d', hd'⟩ := Option.isSome_iff_exists.mp hsome
      obtain ⟨v0, _, _, _, ev0, _, _⟩ := lk_some ky_k_inj rl3 hd'
      have hl2 : kl.length = vs.length := by simpa using hl
      obtain ⟨kl2, p1, p2, p3⟩ := del_zip (x := k1) ky_k_inj hl2
      refine ⟨_, k1, v0, ho, rep_ky1 rk ek1, ev0, ?_⟩
      obtain ⟨f', g1, g2, g3⟩ := repL_del (k := Ky.k k1) (ks := kl.map Ky.k) rl3
      have haf' : a ∉ f' := fun hm => haf (g2 a hm)
      have cell : CellOk X.vm P g (upd H3 a (.dK (dropK (kl.zip vs) k1))) (.lab (some n) L nd) (.dic false (delKs (kl.map Ky.k) (Ky.k k1)) (delDs (kl.map Ky.k) ds (Ky.k k1))) (some (.ref a)) := by
        refine ⟨.ref a, a :: f', rfl, ?_, fun b hb => ?_, fun hn' => ?_, fun _ b g' e1 e2 => ?_⟩
        · simp only [Rep]
          refine ⟨a, _, f', rfl, ⟨⟨by rw [p1]; simpa using p3, ?_⟩, kl2, p1, .inl ?_⟩, repL_upd g1 haf' ho trivial, rfl⟩
          · exact List.Nodup.sublist List.filter_sublist hnd
          · rw [upd_same, p2]
        · rcases List.mem_cons.mp hb with rfl | hb
          · exact q b List.mem_cons_self
          · exact q b (List.mem_cons_of_mem _ (g2 b hb))
        · exact List.nodup_cons.mpr ⟨haf', g3 (List.nodup_cons.mp (z.1 hn')).2⟩
        · cases e2
          exact haf'
      obtain ⟨s3, st3⟩ := (s.ext x3).put (o' := .dK (dropK (kl.zip vs) k1)) ho trivial trivial hga hn hL h2 cell
      exact w _ σ _ ((Step.ext x3).trans st3) s3
    · cases e4
  · cases e4
end
end VV

/-! ## VDict4 -/
namespace VV
open PySem PySem.Spec PyProof.Rows L2

/-! ### a dict is locked while its keys are walked -/
def IsDK (u : HO) : Prop := (∃ kvs, u = .dK kvs) ∨ ∃ kvs, u = .dT kvs
section
variable {mg : Mg} {P : Fm} {LL : List Nat} {g : Addr → Nat} {H : Hp} {a : Addr} {u : HO} {od : Obj}
theorem IsDK.mut (h : IsDK u) : Mut (some u) := by rcases h with ⟨_, rfl⟩ | ⟨_, rfl⟩ <;> trivial
theorem kp_lock (ha : H a = some u) (hu : IsDK u) (b : Addr) : Kp H (upd H a (.frz od u)) b := by
  refine ⟨fun w _ r => ?_, fun vs r => ?_⟩
  · by_cases e : b = a
    · subst e
      rcases r with r | ⟨o, r⟩
      · rw [ha] at r; cases r
        exact .inr ⟨od, upd_same⟩
      · rw [ha] at r; cases r
        rcases hu with ⟨_, z⟩ | ⟨_, z⟩ <;> cases z
    · unfold Rd at r ⊢
      rw [upd_ne e]; exact r
  · have : b ≠ a := fun e => by subst e; rw [ha] at r; cases r; rcases hu with ⟨_, z⟩ | ⟨_, z⟩ <;> cases z
    rw [upd_ne this]; exact r
theorem kpT_lock {u' : HO} (ha : H a = some u) (hu : ∀ xs, u ≠ .tup xs) (hu2 : ∀ o vs, u ≠ .frz o (.lst vs)) : KpT H (upd H a u') := by
  refine ⟨fun b xs r => ?_, fun b o vs r => ?_⟩
  · have : b ≠ a := fun e => by subst e; rw [ha] at r; cases r; exact hu _ rfl
    rw [upd_ne this]; exact r
  · have : b ≠ a := fun e => by subst e; rw [ha] at r; cases r; exact hu2 _ _ rfl
    rw [upd_ne this]; exact r
theorem kp_free (ha : H a = some (.frz od u)) (hu : IsDK u) (b : Addr) : Kp H (upd H a u) b := by
  refine ⟨fun w hw r => ?_, fun vs r => ?_⟩
  · by_cases e : b = a
    · subst e
      rcases r with r | ⟨o, r⟩
      · rw [ha] at r; cases r
        exact hw.elim
      · rw [ha] at r; cases r
        exact .inl upd_same
    · unfold Rd at r ⊢
      rw [upd_ne e]; exact r
  · have : b ≠ a := fun e => by subst e; rw [ha] at r; cases r
    rw [upd_ne this]; exact r
theorem CellOk.all {P' : Fm} {H' : Hp} {k : Kd} {d : D} {v : Option V} (c : CellOk mg P g H k d v) (hP : P'.out = P.out) (kp : ∀ b, Kp H H' b) (kt : KpT H H') : CellOk mg P' g H' k d v := by
  cases k with
  | dead => trivial
  | exc _ _ => exact c
  | flat => obtain ⟨v, rfl, r⟩ := c; exact ⟨v, rfl, r.keep (fun b _ => kp b) kt⟩
  | lab rt L nd =>
    obtain ⟨v, fp, rfl, r, q⟩ := c
    refine ⟨v, fp, rfl, r.keep (fun b _ => kp b) kt, ?_⟩
    unfold Old at q ⊢
    rw [hP]; exact q
theorem Cells.all {P' : Fm} {H' : Hp} (hP : P'.out = P.out) (kp : ∀ b, Kp H H' b) (kt : KpT H H') : ∀ {Γ : List Kd} {ρ : List D} {σ : L2.St}, Cells mg P g H Γ ρ σ → Cells mg P' g H' Γ ρ σ
  | [], [], [], _ => trivial
  | _ :: _, _ :: _, _ :: _, h => ⟨h.1.all hP kp kt, Cells.all hP kp kt h.2⟩
  | [], _ :: _, _, h => h.elim
  | [], [], _ :: _, h => h.elim
  | _ :: _, [], _, h => h.elim
  | _ :: _, _ :: _, [], h => h.elim
theorem RV.all {P' : Fm} {H' : Hp} {R : Rm} {d : D} {v : V} (r : RV mg P g H R d v) (hP : P'.out = P.out) (kp : ∀ b, Kp H H' b) (kt : KpT H H') : RV mg P' g H' R d v := by
  cases R with
  | flat => exact Rep.keep r (fun b _ => kp b) kt
  | fresh => obtain ⟨fp, r, q⟩ := r; exact ⟨fp, r.keep (fun b _ => kp b) kt, q⟩
  | out => obtain ⟨fp, r, q⟩ := r; exact ⟨fp, r.keep (fun b _ => kp b) kt, by rw [hP]; exact q⟩
/-- the frame with a locked -/
def Fm.lk (P : Fm) (a : Addr) : Fm := ⟨P.out, fun b => P.frz b ∨ b = a⟩
theorem Loc.lock {LL' : List Nat} (l : Loc P LL g H) (hs : ∀ n ∈ LL, n ∈ LL') (ha : H a = some u) (hl : VV.lk LL' (g a)) : Loc (P.lk a) LL' g (upd H a (.frz od u)) := by
  refine ⟨fun b hb => ?_, fun b hb => ?_, fun b hb => ?_⟩
  · by_cases e : b = a
    · subst e; exact ⟨_, upd_same, .inr (.inr rfl)⟩
    · rw [upd_ne e]
      obtain ⟨o, q, m⟩ := l.at_ b hb
      exact ⟨o, q, m.imp id .inl⟩
  · by_cases e : b = a
    · subst e; rw [upd_same]; simp
    · rw [upd_ne e]; exact l.out b hb
  · by_cases e : b = a
    · subst e; exact ⟨⟨_, _, upd_same⟩, hl⟩
    · have hb : P.frz b := hb.elim id fun z => absurd z e
      rw [upd_ne e]
      exact ⟨(l.fz b hb).1, (l.fz b hb).2.imp id (hs _)⟩
end
theorem forL_noct {t : Tv} {b : Sv} : ∀ {xs ρ ρ'}, forL t b xs ρ ≠ some (.ct ρ')
  | [], ρ, ρ', e => by cases e
  | x :: xs, ρ, ρ', e => by
    unfold forL at e
    cases h : t x ρ with
    | none => rw [h] at e; cases e
    | some ρ1 =>
      rw [h] at e
      dsimp only at e
      cases h2 : b ρ1 with
      | none => rw [h2] at e; cases e
      | some o =>
        rw [h2] at e
        cases o with
        | nx ρ2 => exact forL_noct e
        | ct ρ2 => exact forL_noct e
        | rt d => cases e
        | ex c r => cases e
/-- for x in d, d the dict in the slot i: nothing raised in it -/
def sForK (i : Nat) (t : Tv) (b : Sv) : Sv := fun ρ => match ρ[i]? with
  | some (.dic _ ks _) => match forL t b (ks.map Ky.d) ρ with
    | some (.ex _ _) => none
    | o => o
  | _ => none
def Kd.roots : Kd → List Nat
  | .lab rt L _ => (match rt with | some n => n :: L | none => L)
  | _ => []
theorem ps_or {X : Cx} {st : Stmt} {t t' : TS} (p : PS X st t) (p' : PS X st t') : PS X st (fun D σ H => t D σ H ∨ t' D σ H) := ⟨fun pins s σ H D I h => h.elim (p.run pins s σ H D I) (p'.run pins s σ H D I)⟩
section
variable {X : Cx} {W : L2.WX} {sc : Sc} {Γ Γ1 : List Kd} {pos : Pos}
theorem iter_keysD {mg : Mg} {P : Fm} {g : Addr → Nat} {H : Hp} {a : Addr} {od : Obj} {tk : Bool} {ks : List Ky} {vs : List V} {labs : List Nat} {kl : List L2.Key} (hk : ks = kl.map Ky.k) (hl : ks.length = vs.length) (ha : H a = some (.frz od (.dK (kl.zip vs)))) (ho : Old P g labs a) :
    Iter mg P g H H (Itk a od (kl.zip vs)) labs .flat (ks.map Ky.d) := by
  subst hk
  have hl : kl.length = vs.length := by simpa using hl
  have hz : (kl.zip vs).length = kl.length := by rw [List.length_zip, ← hl, Nat.min_self]
  refine ⟨[a], fun b hb => .inr (by rw [List.mem_singleton.mp hb]; exact ho), fun H2 kp => ?_⟩
  have h2 : H2 a = some (.frz od (.dK (kl.zip vs))) := kp.1 a List.mem_cons_self _ ha
  refine ⟨fun i d hi => ?_, ⟨h2, by rw [hz]; simp⟩⟩
  rw [List.map_map, List.getElem?_map] at hi
  obtain ⟨k, e1, rfl⟩ := Option.map_eq_some_iff.mp hi
  have hlt : i < kl.length := (List.getElem?_eq_some_iff.mp e1).1
  refine ⟨⟨h2, by rw [hz]; exact hlt⟩, fun x H3 y => ?_⟩
  obtain ⟨rfl, k', v', e2, rfl⟩ := y
  have e3 : kl[i]? = some k' := by
    have := (List.getElem?_zip_eq_some.mp e2).1
    exact this
  rw [e1] at e3; cases e3
  exact ⟨Ext.refl, [], rep_keyD, rfl, fun b hb => nomatch hb⟩
theorem iter_keysDT {mg : Mg} {P : Fm} {g : Addr → Nat} {H : Hp} {a : Addr} {od : Obj} {tk : Bool} {ks : List Ky} {vs : List V} {labs : List Nat} {kl : List (List L2.Key)} (hk : ks = kl.map Ky.t) (hl : ks.length = vs.length) (ha : H a = some (.frz od (.dT (kl.zip vs)))) (ho : Old P g labs a) :
    Iter mg P g H H (Itkt a od (kl.zip vs)) labs .flat (ks.map Ky.d) := by
  subst hk
  have hl : kl.length = vs.length := by simpa using hl
  have hz : (kl.zip vs).length = kl.length := by rw [List.length_zip, ← hl, Nat.min_self]
  refine ⟨[a], fun b hb => .inr (by rw [List.mem_singleton.mp hb]; exact ho), fun H2 kp => ?_⟩
  have h2 : H2 a = some (.frz od (.dT (kl.zip vs))) := kp.1 a List.mem_cons_self _ ha
  refine ⟨fun i d hi => ?_, ⟨h2, by rw [hz]; simp⟩⟩
  rw [List.map_map, List.getElem?_map] at hi
  obtain ⟨k, e1, rfl⟩ := Option.map_eq_some_iff.mp hi
  have hlt : i < kl.length := (List.getElem?_eq_some_iff.mp e1).1
  refine ⟨⟨h2, by rw [hz]; exact hlt⟩, fun x H3 y => ?_⟩
  obtain ⟨rfl, k', v', q, e2, rfl, hq⟩ := y
  have e3 : kl[i]? = some k' := (List.getElem?_zip_eq_some.mp e2).1
  rw [e1] at e3; cases e3
  refine ⟨Ext.refl, [], ?_, rfl, fun b hb => nomatch hb⟩
  show Rep mg H3 (.tup (k.map keyD)) (.ref q) []
  simp only [Rep]
  exact ⟨q, _, rfl, hq, repL_keys⟩
theorem sx_fork {i : Nat} {x : Str} {px : Pos} {tg : Expr} {body : List Stmt} {t : Tv} {sb : Sv} {S : List Nat} {k : Kd} (n : Nat) (hc : X.calm = true) (hp : PassesOwn (model X.prog X.w) X.A X.env X.xe)
    (hk : Γ[i]? = some k) (hd : k.use = true) (hN : X.N[i]? = some x) (hv : Vis X.env.scope x)
    (hg : EG X Γ tg .flat t Γ1 S) (hb : SS X W { sc with LL := n :: (k.roots ++ (k.roots ++ sc.LL)), Γc := Γ } Γ1 body sb Γ)
    (hs : ∀ y, foldedSetIterable (.Name x px) X.env y = pure y := by intro _; rfl) (hn : n ≠ 0 := by decide) (hdb : (x == ("__debug__" : Str)) = false := by decide) (hcd : (x == ("__classdict__" : Str)) = false := by decide) : SX X W sc Γ (.For tg (.Name x px) body [] pos) (sForK i t sb) Γ := by
  obtain ⟨tgt, pg, kg⟩ := hg
  obtain ⟨tb, pb, kb⟩ := hb
  have pf := ps_for hp hc (pi_keys (tg := tg) (pe_var (pos := px) hN hv hdb hcd)) pg pb hs (pos := pos)
  refine ⟨_, ps_or (ps_lock pf) pf, fun P g ρ σ H o De s e w => ?_⟩
  obtain ⟨d', ov, h1, h2, h3⟩ := s.cells.get hk
  unfold sForK at e
  rw [h1] at e
  cases d' with
  | dic tk ks ds =>
    dsimp only at e
    cases he : forL t sb (ks.map Ky.d) ρ with
    | none => rw [he] at e; cases e
    | some o1 =>
      rw [he] at e
      obtain ⟨a, vs, f, rv, rd, rl, ho⟩ : ∃ a vs f, ov = some (.ref a) ∧ RdD H a tk ks vs ∧ RepL X.vm H ds vs f ∧ Old P g k.roots a := by
        cases k with
        | dead => cases hd
        | exc _ _ => cases hd
        | flat =>
          obtain ⟨v, rfl, r⟩ := h3
          simp only [Rep] at r
          obtain ⟨_, _, _, _, _, _, z⟩ := r
          cases z
        | lab rt L nd =>
          obtain ⟨v, fp, rfl, r, q, z⟩ := h3
          simp only [Rep] at r
          obtain ⟨a, vs, f, rfl, rd, rl, rfl⟩ := r
          refine ⟨a, vs, f, rfl, rd, rl, ?_⟩
          rcases q a List.mem_cons_self with ⟨_, n', rfl, y⟩ | ⟨_, y⟩
          · exact ⟨by rw [List.mem_singleton.mp y.1]; exact List.mem_cons_self, y.2⟩
          · refine ⟨?_, y.2⟩
            cases rt with
            | none => exact y.1
            | some m => exact List.mem_cons_of_mem _ y.1
      subst rv
      have hlka : VV.lk (k.roots ++ sc.LL) (g a) := .inr (List.mem_append_left _ ho.1)
      have sub : ∀ n ∈ sc.LL, n ∈ k.roots ++ sc.LL := fun n hn => List.mem_append_right _ hn
      obtain ⟨⟨hl, hnd⟩, rd⟩ := rd
      obtain ⟨u0, hu0, ru0, mk⟩ : ∃ u0, IsDK u0 ∧ Rd H a u0 ∧ ∀ (P' : Fm) (H' : Hp) (od : Obj) (R : It → Hp → Prop), H' a = some (.frz od u0) → Old P' g k.roots a → (∀ J, Iter X.vm P' g H' H' J k.roots .flat (ks.map Ky.d) → R J H') → iKeys (tVar i) σ H' R := by
        cases tk with
        | false =>
          obtain ⟨kl, rfl, r⟩ := rd
          exact ⟨_, .inl ⟨_, rfl⟩, r, fun P' H' od R h' o' q => ⟨.ref a, h2, a, od, rfl, .inl ⟨_, h', q _ (iter_keysD (tk := false) rfl hl h' o')⟩⟩⟩
        | true =>
          obtain ⟨kl, rfl, r⟩ := rd
          exact ⟨_, .inr ⟨_, rfl⟩, r, fun P' H' od R h' o' q => ⟨.ref a, h2, a, od, rfl, .inr ⟨_, h', q _ (iter_keysDT (tk := true) rfl hl h' o')⟩⟩⟩
      have kg' : ∀ P LL g ρ σ H d v ρ' (Q : L2.St → Hp → Prop), Sta X.vm P LL Γ g ρ σ H → CellOk X.vm P g H (Md.flat.kindI n) d (some v) → t d ρ = some ρ' → (∀ σ', Sta X.vm P LL Γ1 g ρ' σ' H → Wp S σ σ' → Q σ' H) → tgt v σ H Q := kg
      rcases ru0 with ha | ⟨od, ha⟩
      · left
        refine ⟨a, u0, ha, hu0.mut, fun od => ?_⟩
        have st : Sta X.vm (P.lk a) (k.roots ++ sc.LL) Γ g ρ σ (upd H a (.frz od u0)) := by
          refine ⟨s.loc.lock sub ha hlka, Cells.all (P := P) (P' := P.lk a) rfl (kp_lock ha hu0) (kpT_lock ha ?_ ?_) s.cells⟩
          · intro xs z; rcases hu0 with ⟨_, q⟩ | ⟨_, q⟩ <;> rw [q] at z <;> cases z
          · intro o vs z; rcases hu0 with ⟨_, q⟩ | ⟨_, q⟩ <;> rw [q] at z <;> cases z
        refine for_run (sc := { sc with LL := k.roots ++ sc.LL }) (labs := k.roots) (me := .flat) kg' kb hn st (fun R q => mk _ _ od R upd_same ho fun J it => q J _ Ext.refl it) he ?_
        -- back
        have back : ∀ {g' : Addr → Nat} {H'' : Hp}, Step (k.roots ++ sc.LL) g (upd H a (.frz od u0)) g' H'' → Loc (P.lk a) (k.roots ++ sc.LL) g' H'' → H'' a = some (.frz od u0) ∧ Step sc.LL g H g' (upd H'' a u0) ∧ Loc P sc.LL g' (upd H'' a u0) := fun {g' H''} st' l' => by
          have h'' : H'' a = some (.frz od u0) := st'.kp a hlka _ upd_same
          have sp : Step sc.LL g H g' (upd H'' a u0) := by
            refine ⟨fun b hb w hw => ?_, fun b hb hl => ?_, fun b hb => ?_⟩
            · by_cases e : b = a
              · subst e; rw [upd_same]; rw [ha] at hw; exact hw
              · rw [upd_ne e]
                exact st'.kp b (hb.imp id (sub _)) w (by rw [upd_ne e]; exact hw)
            · refine st'.lk b ?_ (hl.imp id (sub _))
              by_cases e : b = a
              · subst e; rw [upd_same]; simp
              · rw [upd_ne e]; exact hb
            · by_cases e : b = a
              · subst e; rw [upd_same]; simp
              · rw [upd_ne e]
                exact st'.th b (by rw [upd_ne e]; exact hb)
          refine ⟨h'', sp, ⟨fun b hb => ?_, fun b hb => ?_, fun b hb => ?_⟩⟩
          · by_cases e : b = a
            · subst e; exact ⟨_, upd_same, .inl hu0.mut⟩
            · rw [upd_ne e]
              obtain ⟨o, q, m⟩ := l'.at_ b hb
              exact ⟨o, q, m.imp id fun z => z.elim id fun z => absurd z e⟩
          · by_cases e : b = a
            · subst e; rw [upd_same]; simp
            · rw [upd_ne e]; exact l'.out b hb
          · have e : b ≠ a := fun e => by
              subst e
              obtain ⟨⟨o, w, q⟩, _⟩ := s.loc.fz b hb
              rw [ha] at q; cases q
              rcases hu0 with ⟨_, z⟩ | ⟨_, z⟩ <;> cases z
            rw [upd_ne e]
            refine ⟨(l'.fz b (.inl hb)).1, ?_⟩
            rw [sp.lk b (s.loc.fzn hb) (s.loc.fz b hb).2]
            exact (s.loc.fz b hb).2
        have kpf : ∀ {H'' : Hp}, H'' a = some (.frz od u0) → KpT H'' (upd H'' a u0) := fun {H''} h'' => kpT_lock h'' (fun xs z => nomatch z) fun o vs z => by
          cases z; rcases hu0 with ⟨_, q⟩ | ⟨_, q⟩ <;> cases q
        cases o1 with
        | nx ρ' =>
          cases e
          intro g' σ' H'' st' s'
          obtain ⟨b1, b2, b3⟩ := back st' s'.loc
          exact ⟨b1, w g' σ' _ b2 ⟨b3, Cells.all (P := P.lk a) (P' := P) rfl (kp_free b1 hu0) (kpf b1) s'.cells⟩⟩
        | ct ρ' => exact absurd he forL_noct
        | rt d =>
          cases e
          intro v g' H'' st' l' r
          obtain ⟨b1, b2, b3⟩ := back st' l'
          exact ⟨b1, w v g' _ b2 b3 (RV.all (P := P.lk a) (P' := P) r rfl (kp_free b1 hu0) (kpf b1))⟩
        | ex c ρ' => cases e
      · right
        have st : Sta X.vm P (k.roots ++ sc.LL) Γ g ρ σ H := ⟨s.loc.up sub, s.cells⟩
        refine for_run (sc := { sc with LL := k.roots ++ sc.LL }) (labs := k.roots) (me := .flat) kg' kb hn st (fun R q => mk _ _ od R ha ho fun J it => q J _ Ext.refl it) he ?_
        cases o1 with
        | nx ρ' =>
          cases e
          intro g' σ' H'' st' s'
          have h := st'.sub sub
          exact w g' σ' H'' h ⟨s'.loc.down s.loc h, s'.cells⟩
        | ct ρ' => exact absurd he forL_noct
        | rt d =>
          cases e
          intro v g' H'' st' l' r
          have h := st'.sub sub
          exact w v g' H'' h (l'.down s.loc h) r
        | ex c ρ' => cases e
  | _ => cases e
end
end VV

/-! ## VDict5 -/
namespace VV
open PySem PySem.Spec PyProof.Rows L2

/-! ### {}, dict(d), list(d) -/
def dDicC : List D → Option D
  | [.dic false ks ds] => some (.dic false ks ds)
  | _ => none
def dKeysL : List D → Option D
  | [.dic false ks _] => some (.lst (ks.map Ky.d))
  | _ => none
section
variable {X : Cx} {LL : List Nat} {Γ : List Kd} {pos : Pos}
theorem ex_dnewK : EX X LL Γ (.Dict [] [] pos) (eC (.dic false [] [])) (.al false .new [] true) := by
  refine ⟨_, pe_dnewK, fun P g ρ σ H d Q s e q => ?_⟩
  cases e
  intro p hp
  refine q _ _ (Ext.put hp) ⟨[p], ?_, fun b hb => ?_, .of (by simp)⟩
  · simp only [Rep, RepL]
    exact ⟨p, [], [], rfl, ⟨⟨rfl, List.nodup_nil⟩, [], rfl, .inl upd_same⟩, ⟨rfl, rfl⟩, rfl⟩
  · obtain rfl := List.mem_singleton.mp hb
    exact .inl ⟨rfl, hp, by rw [upd_same]; trivial⟩
theorem ex_dnewT : EX X LL Γ (.Dict [] [] pos) (eC (.dic true [] [])) (.al false .new [] true) := by
  refine ⟨_, pe_dnewT, fun P g ρ σ H d Q s e q => ?_⟩
  cases e
  intro p hp
  refine q _ _ (Ext.put hp) ⟨[p], ?_, fun b hb => ?_, .of (by simp)⟩
  · simp only [Rep, RepL]
    exact ⟨p, [], [], rfl, ⟨⟨rfl, List.nodup_nil⟩, [], rfl, .inl upd_same⟩, ⟨rfl, rfl⟩, rfl⟩
  · obtain rfl := List.mem_singleton.mp hb
    exact .inl ⟨rfl, hp, by rw [upd_same]; trivial⟩
theorem zip_keys {kl : List L2.Key} {vs : List V} (h : kl.length = vs.length) : (kl.zip vs).map (fun kv => kV kv.1) = kl.map kV := by
  induction kl generalizing vs with
  | nil => simp
  | cons k kl ih =>
    cases vs with
    | nil => simp at h
    | cons v vs => simp only [List.zip_cons_cons, List.map_cons]; rw [ih (by simpa using h)]
theorem repL_kys {mg : Mg} {H : Hp} {l : List L2.Key} : RepL mg H ((l.map Ky.k).map Ky.d) (l.map kV) [] := by
  rw [List.map_map]
  exact repL_keys
theorem cp_keysL : CP X (fun xs H Q => ∃ (a : Addr) (kvs : List (L2.Key × V)), xs = [.ref a] ∧ Rd H a (.dK kvs) ∧ ∀ p, H p = none → Q (.ref p) (upd H p (.lst (kvs.map fun kv => kV kv.1)))) dKeysL (fun _ => .al false .new [] true) := by
  intro P LL g H H1 m ds vs d Q l x vl e q
  obtain ⟨fp, r⟩ := vl.rep
  unfold dKeysL at e
  split at e
  · rename_i ks l0
    cases e
    obtain ⟨v, rfl, h1⟩ := repL1 r
    simp only [Rep] at h1
    obtain ⟨a, us, f, rfl, ⟨⟨hl, _⟩, kl, rfl, rd⟩, rl, _⟩ := h1
    refine ⟨a, _, rfl, rd, fun p hp => q _ _ (Ext.put hp) ⟨[p], ?_, fun b hb => ?_, .of (by simp)⟩⟩
    · simp only [Rep]
      rw [zip_keys (by simpa using hl)]
      exact ⟨p, _, [], rfl, upd_same, repL_kys, rfl⟩
    · obtain rfl := List.mem_singleton.mp hb
      exact .inl ⟨rfl, x.nope hp, by rw [upd_same]; trivial⟩
  · cases e
theorem cp_dicC : CP X (fun xs H Q => ∃ (a : Addr) (kvs : List (L2.Key × V)), xs = [.ref a] ∧ Rd H a (.dK kvs) ∧ ∀ p, H p = none → Q (.ref p) (upd H p (.dK kvs))) dDicC Md.lst := by
  intro P LL g H H1 m ds vs d Q l x vl e q
  obtain ⟨fp, r, o⟩ := vl
  unfold dDicC at e
  split at e
  · rename_i ks l0
    cases e
    obtain ⟨v, rfl, h1⟩ := repL1 r
    simp only [Rep] at h1
    obtain ⟨a, us, f, rfl, rd0, rl, rfl⟩ := h1
    obtain ⟨⟨hl, hn⟩, kl, rfl, rd⟩ := rd0
    refine ⟨a, _, rfl, rd, fun p hp => q _ _ (Ext.put hp) ?_⟩
    have rr : Rep X.vm (upd H1 p (.dK (kl.zip us))) (.dic false (kl.map Ky.k) l0) (.ref p) (p :: f) := by
      simp only [Rep]
      exact ⟨p, us, f, rfl, ⟨⟨hl, hn⟩, kl, rfl, .inl upd_same⟩, rl.ext (Ext.put hp), rfl⟩
    have mu : New H (upd H1 p (.dK (kl.zip us))) p := ⟨x.nope hp, by rw [upd_same]; trivial⟩
    have hpf : p ∉ f := fun hm => rl.there p hm hp
    have o := o.ext (Ext.put hp (o := .dK (kl.zip us)))
    cases m with
    | flat => cases (show a :: f = [] from o)
    | al fr rt L nd =>
      refine ⟨p :: f, rr, fun b hb => ?_, .cons hpf fun h => (List.nodup_cons.mp (o.2 h)).2⟩
      rcases List.mem_cons.mp hb with rfl | hb
      · exact .inl ⟨rfl, mu⟩
      · exact .inr ⟨.inl fun e => by cases e; exact hpf hb, o.1 b (List.mem_cons_of_mem _ hb)⟩
  · cases e
end
end VV

/-! ## VEqX -/
namespace PySem.SeqAt
open AutoSeq1 (wpAny_loadPart')
open MeetsSeq MeetsSeq2 MeetsSeq3 SeqRoads2
/-! ### != of lists whose items are told equal in one model -/
abbrev LAt (h : Heap) (l : Addr) (xs : Array Value) (n : Nat) (dd : Option Addr) (sl : Array (Option Value)) : Prop :=
  h.get? l = some { cls := .type "list", dict := dd, data := .seq xs n, slots := sl }
def AllEq (prog : Program) (w : World) (A : Around) (s : Shared) (xs ys : Array Value) : Prop :=
  ∀ j (p : j < xs.size) (q : j < ys.size), EqP prog w A s xs[j] ys[j] true
section
variable {prog : Program} {w : World} {l b : Addr} {xs ys : Array Value} {n m : Nat} {dd de : Option Addr} {sl sm : Array (Option Value)}
theorem vne_loop (hsz : xs.size = ys.size) : ∀ (k i : Nat), xs.size - i = k →
    MeetsIn prog w (Builtin.«list.__eq__.loop» ⟨[.ref l, .ref b, rawInt i, rawInt 3], []⟩)
      (fun A R s => LAt s.heap l xs n dd sl ∧ LAt s.heap b ys m de sm ∧
        AllEq prog w A.in1 s xs ys ∧ R (.ok (.ret (.bool false))) s)
  | 0, i, hk => by
    intro A R s h
    obtain ⟨hp, g, d, tk, os⟩ := s
    obtain ⟨hl, hb, he, h⟩ := h
    wp_walk using wpAny_loadPart' hl, wpAny_loadPart' hb
    have n1 : xs[((i : Nat) : Int).toNat]? = none := by simp; omega
    have n2 : ys[((i : Nat) : Int).toNat]? = none := by simp; omega
    rw [n1, n2]
    wp_walk using wpAny_loadPart' hl, wpAny_loadPart' hb
    show R (.ok (.ret (.bool (xs.size != ys.size)))) _
    simpa [hsz] using h
  | k + 1, i, hk => by
    intro A R s h
    obtain ⟨hp, g, d, tk, os⟩ := s
    obtain ⟨hl, hb, he, h⟩ := h
    wp_walk using wpAny_loadPart' hl, wpAny_loadPart' hb
    have p1 : i < xs.size := by omega
    have p2 : i < ys.size := by omega
    have n1 : xs[((i : Nat) : Int).toNat]? = some xs[i] := by simp [p1]
    have n2 : ys[((i : Nat) : Int).toNat]? = some ys[i] := by simp [p2]
    have hc : ((i : Int) + 1) = ((i + 1 : Nat) : Int) := by push_cast; rfl
    rw [n1, n2]
    refine wpAny_bind (he i p1 p2 _ _ ?_)
    wp_walk
    rw [hc]
    refine ⟨plainId_quiet plain_eq_loop _, codeAny_builtin entry_eq_loop ?_⟩
    rw [Around.under_plainId plain_eq_loop _]
    exact vne_loop hsz k (i + 1) (by omega) A R _ ⟨hl, hb, he, h⟩
theorem vne_meets (hsz : xs.size = ys.size) : MeetsIn prog w (Builtin.«list.__ne__» ⟨[.ref l, .ref b], []⟩)
      (fun A R s => LAt s.heap l xs n dd sl ∧ LAt s.heap b ys m de sm ∧
        AllEq prog w A.in1 s xs ys ∧ R (.ok (.ret (.bool false))) s) := by
  intro A R s h
  obtain ⟨hp, g, d, tk, os⟩ := s
  obtain ⟨hl, hb, he, h⟩ := h
  have f3 := AutoSeq1.sub_list_list
  have hne : ¬ (xs.size != ys.size) = true := by simp [hsz]
  wp_walk using wpAny_loadPart' hl, wpAny_loadPart' hb
  refine ⟨plainId_quiet plain_eq_loop _, codeAny_builtin entry_eq_loop ?_⟩
  rw [Around.under_plainId plain_eq_loop _]
  exact vne_loop hsz _ 0 rfl A R _ ⟨hl, hb, he, h⟩
theorem vne_lists {A : Around} {s : Shared} (hl : s.heap.IsList l xs) (hb : s.heap.IsList b ys) (hsz : xs.size = ys.size) (hu : A.units < cLine) (he : AllEq prog w A.in1 s xs ys)
    (E Q : Value → Shared → Prop) (h : Q (.bool false) s) : wpAny (model prog w) A (richCompare .NotEq (.ref l) (.ref b)) Q E s := by
  obtain ⟨⟨cls, dd, data, sl⟩, ho, hc, n, hd⟩ := id hl
  obtain ⟨⟨cls2, de, data2, sm⟩, ho2, hc2, m, hd2⟩ := id hb
  simp only at hc hd hc2 hd2
  subst hc hd hc2 hd2
  have t1 : s.TypeIs (.ref l) "list" := ⟨_, ho, rfl⟩
  have t2 : s.TypeIs (.ref b) "list" := ⟨_, ho2, rfl⟩
  refine wpAny_richCompare_same_room (op := .NotEq) t1 t2 F.slot_list_ne (call_meetsIn F.slot_list_ne t1 F.entry_list_ne (F.args_list_ne_2 _ _) (vne_meets (n := n) (m := m) (dd := dd) (de := de) (sl := sl) (sm := sm) hsz) ⟨ho, ho2, he, ?_⟩) hu
  exact (show Value.bool false ≠ Value.notImplemented ∧ Q (.bool false) s from ⟨(fun x => nomatch x), h⟩)
end
end PySem.SeqAt

/-! ## VEqY -/
namespace PySem.W
section
variable {prog : Program} {w : World} {K : Type} [DecidableEq K] {knd : PySem.KeyKind prog w K} {A : Around} {E : Value → Shared → Prop} {s : Shared}
end
end PySem.W
namespace VV
open PySem PySem.Spec PyProof.Rows L2

/-! ### equal things, dicts among them -/
/-- two lists of things alike, two dicts of things alike -/
def EqR2 (K : PySem.W.Frag) (H : Hp) (F : V → V → Prop) (x y : V) : Prop :=
  (∃ a b xs ys, x = .ref a ∧ y = .ref b ∧ SqL K H a xs ∧ SqL K H b ys ∧ Paired F xs ys) ∨
    ∃ a b ks ls, x = .ref a ∧ y = .ref b ∧ Rd H a (.dK ks) ∧ Rd H b (.dK ls) ∧ ks.length = ls.length ∧ ∀ p ∈ ks, ∃ u, valV ls p.1 = some u ∧ F p.2 u
def EqW (K : PySem.W.Frag) (H : Hp) : Nat → V → V → Prop
  | 0 => fun _ _ => False
  | n + 1 => fun x y => (∃ d e, Dp K H x d ∧ Dp K H y e ∧ d.canLay0 = true ∧ e.canLay0 = true ∧ d.depth ≤ n ∧ PyData.eqv d e = true) ∨ EqR2 K H (EqW K H n) x y
section
variable {X : Cx} {pins : List (Addr × Obj)} {σ : L2.St} {H : Hp} {s : Shared}
theorem eqR2_run (I : Inv X pins σ H s) {A : Around} {F : V → V → Prop} (hu : A.units < cLine) (ih : ∀ x y v u, F x y → RelV x v → RelV y u → SeqAt.EqP X.prog X.w A.in1 s v u true) {x y : V} {v u : Value}
    (h : EqR2 X.K H F x y) (rx : RelV x v) (ry : RelV y u) (E Q : Value → Shared → Prop) (q : Q (.bool true) s) : wpAny (model X.prog X.w) A (richCompare .Eq v u) Q E s := by
  rcases h with ⟨a, b, xs, ys, rfl, rfl, ha, hb, hp⟩ | ⟨a, b, ks, ls, rfl, rfl, ha, hb, hl, hp⟩
  · exact eqR_run I hu ih (.inl ⟨a, b, xs, ys, rfl, rfl, ha, hb, hp⟩) rx ry E Q q
  · cases (show v = Value.ref a from rx)
    cases (show u = Value.ref b from ry)
    obtain ⟨_, ya, va, ra, da⟩ := dk_rd I.hok ha
    obtain ⟨_, yb, vb, rb, db⟩ := dk_rd I.hok hb
    refine PySem.W.rcP_dicts (knd := mixKind X.prog X.w) (r := true) ya yb da db hu (fun _ => hits_run ih rb ra hp) E Q ?_
    have e : (va.length == vb.length && true) = true := by rw [← ra.length, ← rb.length, hl]; simp
    rw [e]
    exact q
theorem eqW_run (I : Inv X pins σ H s) : ∀ (n : Nat) (A : Around), A.units + n < cLine → ∀ (x y : V) (v u : Value), EqW X.K H n x y → RelV x v → RelV y u → SeqAt.EqP X.prog X.w A s v u true
  | 0, _, _, _, _, _, _, h, _, _ => h.elim
  | n + 1, A, hu, x, y, v, u, h, rx, ry => by
    rcases h with ⟨d, e, hd, he, c1, c2, dp, ev⟩ | h
    · obtain ⟨as, r1⟩ := Dp.reads I d x v hd rx
      obtain ⟨bs, r2⟩ := Dp.reads I e y u he ry
      have := SeqAt.eqAt_reads d e A s v u as bs r1 r2 c1 c2 (by have := Nat.min_le_left d.depth e.depth; omega)
      rw [ev] at this
      exact this.eqP
    · have step := eqR2_run I (A := A) (by omega) (eqW_run I n A.in1 (by show A.units + 1 + n < cLine; omega)) h rx ry
      obtain ⟨a, b, rfl, rfl⟩ : ∃ a b, x = .ref a ∧ y = .ref b := by
        rcases h with ⟨a, b, _, _, e1, e2, _⟩ | ⟨a, b, _, _, e1, e2, _⟩ <;> exact ⟨a, b, e1, e2⟩
      cases (show v = Value.ref a from rx)
      cases (show u = Value.ref b from ry)
      by_cases e : a = b
      · subst e
        exact (SeqAt.EqAt.same _).eqP
      · exact SeqAt.eqP_refs e step
end
section
variable {X : Cx}
def rEqW (K : PySem.W.Frag) : R2 := fun x y H Q => rEqD K x y H Q ∨ (EqR2 K H (EqW K H 50) x y ∧ Q (.bl true) H)
theorem op_eqW (hu : X.A.units + 64 < cLine) : OpR X (compareOp .Eq) (rEqW X.K) := by
  intro pins s σ H x y v u Q I rx ry h
  rcases h with h | ⟨h, q⟩
  · exact op_eqD hu pins s σ H x y v u Q I rx ry h
  · exact eqR2_run I (A := X.A) (by omega) (eqW_run I 50 X.A.in1 (by show X.A.units + 1 + 50 < cLine; omega)) h rx ry _ _ ⟨.bl true, H, I, rfl, q⟩
end

/-! ### as trees -/
def D.sameR (f : D → D → Bool) : D → D → Bool
  | .lst l, .lst r => l.length == r.length && (l.zip r).all fun p => f p.1 p.2
  | .dic false ks l, .dic false ks' l' => ks.length == ks'.length && (ks.zip l).all fun p => match lkD ks' l' p.1 with
    | some d => f p.2 d
    | none => false
  | _, _ => false
def D.same : Nat → D → D → Bool
  | 0, _, _ => false
  | n + 1, a, b => (a.toP.canLay0 && b.toP.canLay0 && decide (a.toP.depth ≤ n) && a.eqv b) || D.sameR (D.same n) a b
section
variable {mg : Mg} {H : Hp}
theorem paired_same {f : D → D → Bool} {F : V → V → Prop} (hF : ∀ a b x y g1 g2, Rep mg H a x g1 → Rep mg H b y g2 → f a b = true → F x y) : ∀ {l r : List D} {vs us : List V} {g1 g2 : List Addr}, RepL mg H l vs g1 → RepL mg H r us g2 →
    l.length = r.length → ((l.zip r).all fun p => f p.1 p.2) = true → Paired F vs us
  | [], [], _, _, _, _, h1, h2, _, _ => by
    simp only [RepL] at h1 h2
    obtain ⟨rfl, _⟩ := h1
    obtain ⟨rfl, _⟩ := h2
    exact .nil
  | a :: l, b :: r, _, _, _, _, h1, h2, hl, h => by
    simp only [RepL] at h1 h2
    obtain ⟨v, vs, f1, f2, rfl, r1, r2, _⟩ := h1
    obtain ⟨u, us, e1, e2, rfl, k1, k2, _⟩ := h2
    simp only [List.zip_cons_cons, List.all_cons, Bool.and_eq_true] at h
    exact .cons (hF a b v u _ _ r1 k1 h.1) (paired_same hF r2 k2 (by simpa using hl) h.2)
  | [], _ :: _, _, _, _, _, _, _, hl, _ => by simp at hl
  | _ :: _, [], _, _, _, _, _, _, hl, _ => by simp at hl
theorem entries_same {f : D → D → Bool} {F : V → V → Prop} (hF : ∀ a b x y g1 g2, Rep mg H a x g1 → Rep mg H b y g2 → f a b = true → F x y) {kl' : List L2.Key} {l' : List D} {us : List V} {g2 : List Addr} (k2 : RepL mg H l' us g2) :
    ∀ {kl : List L2.Key} {l : List D} {vs : List V} {g1 : List Addr}, RepL mg H l vs g1 → (((kl.map Ky.k).zip l).all fun p => match lkD (kl'.map Ky.k) l' p.1 with | some d => f p.2 d | none => false) = true →
      ∀ p ∈ kl.zip vs, ∃ u, valV (kl'.zip us) p.1 = some u ∧ F p.2 u
  | [], _, _, _, _, _, p, hp => by simp at hp
  | k :: kl, [], _, _, h1, _, p, hp => by
    simp only [RepL] at h1
    obtain ⟨rfl, _⟩ := h1
    simp at hp
  | k :: kl, d :: l, _, _, h1, h, p, hp => by
    simp only [RepL] at h1
    obtain ⟨v, vs, f1, f2, rfl, r1, r2, _⟩ := h1
    simp only [List.map_cons, List.zip_cons_cons, List.all_cons, Bool.and_eq_true] at h
    rcases List.mem_cons.mp (show p ∈ (k, v) :: kl.zip vs from hp) with e | e
    · subst e
      have h0 := h.1
      cases hk : lkD (kl'.map Ky.k) l' (Ky.k k) with
      | none => rw [hk] at h0; cases h0
      | some d' =>
        rw [hk] at h0
        obtain ⟨u, _, _, _, e1, e2, _⟩ := lk_some ky_k_inj k2 hk
        exact ⟨u, e1, hF _ _ _ _ _ _ r1 e2 h0⟩
    · exact entries_same hF k2 r2 h.2 p e
theorem sameR_ok {f : D → D → Bool} {F : V → V → Prop} (hF : ∀ a b x y g1 g2, Rep mg H a x g1 → Rep mg H b y g2 → f a b = true → F x y) {a b : D} {x y : V} {g1 g2 : List Addr} (r1 : Rep mg H a x g1) (r2 : Rep mg H b y g2) (h : D.sameR f a b = true) : EqR2 mg.K H F x y := by
  unfold D.sameR at h
  split at h
  · simp only [Bool.and_eq_true, beq_iff_eq] at h
    simp only [Rep] at r1 r2
    obtain ⟨a, vs, _, rfl, ha, l1, _⟩ := r1
    obtain ⟨b, us, _, rfl, hb, l2, _⟩ := r2
    exact .inl ⟨a, b, vs, us, rfl, rfl, SqL.of ha, SqL.of hb, paired_same hF l1 l2 h.1 h.2⟩
  · simp only [Bool.and_eq_true, beq_iff_eq] at h
    simp only [Rep] at r1 r2
    obtain ⟨a, vs, _, rfl, ⟨⟨n1, _⟩, kl, rfl, ha⟩, l1, _⟩ := r1
    obtain ⟨b, us, _, rfl, ⟨⟨n2, _⟩, kl', rfl, hb⟩, l2, _⟩ := r2
    refine .inr ⟨a, b, _, _, rfl, rfl, ha, hb, ?_, entries_same hF l2 l1 h.2⟩
    have h0 := h.1
    simp only [List.length_map] at h0 n1 n2
    rw [List.length_zip, List.length_zip, ← n1, ← n2, Nat.min_self, Nat.min_self, h0]
  · cases h
theorem same_ok : ∀ (n : Nat) (a b : D) (x y : V) (g1 g2 : List Addr), Rep mg H a x g1 → Rep mg H b y g2 → D.same n a b = true → EqW mg.K H n x y
  | 0, _, _, _, _, _, _, _, _, h => by cases h
  | n + 1, a, b, x, y, g1, g2, r1, r2, h => by
    simp only [D.same, Bool.or_eq_true, Bool.and_eq_true, decide_eq_true_eq] at h
    rcases h with ⟨⟨⟨c1, c2⟩, dp⟩, ev⟩ | h
    · exact .inl ⟨_, _, r1.dp c1, r2.dp c2, c1, c2, dp, ev⟩
    · exact .inr (sameR_ok (fun a b x y g1 g2 => same_ok n a b x y g1 g2) r1 r2 h)
end
def dEqX : List D → Option D
  | [a, b] => if a.shd && b.shd then some (.bl (a.eqv b)) else if D.sameR (D.same 50) a b then some (.bl true) else none
  | _ => none
section
variable {X : Cx} {LL : List Nat} {Γ : List Kd} {pos : Pos} {a b : Expr} {sa sb : Ev} {ma mb : Md}
theorem cp_eqX : CP X (r2 (rEqW X.K)) dEqX toFlat := by
  intro P LL g H H1 m ds vs d Q l x vl e q
  obtain ⟨fp, r⟩ := vl.rep
  unfold dEqX at e
  split at e
  · obtain ⟨v, w, f1, f2, rfl, h1, h2, _⟩ := repL2 r
    split at e
    · cases e
      rename_i h
      rw [Bool.and_eq_true] at h
      exact ⟨v, w, rfl, .inl ⟨_, _, h1.dp (SeqAt.canLay_of_shaped h.1), h2.dp (SeqAt.canLay_of_shaped h.2), h.1, h.2, q _ H1 Ext.refl (val_flat rep_bl)⟩⟩
    · split at e
      · cases e
        rename_i h
        exact ⟨v, w, rfl, .inr ⟨sameR_ok (fun a b x y g1 g2 => same_ok 50 a b x y g1 g2) h1 h2 h, q _ H1 Ext.refl (val_flat rep_bl)⟩⟩
      · cases e
  · cases e
theorem ex_eqX (hu : X.A.units + 64 < cLine) (ha : EX X LL Γ a sa ma) (hb : EX X LL Γ b sb mb) : EX X LL Γ (.Compare a [.Eq] [b] pos) (eP dEqX (aCons sa (aCons sb aNil))) .flat := ex_cmp (op_eqW hu) cp_eqX ha hb (nomark _)
theorem et_eqX (hu : X.A.units + 64 < cLine) (ha : EX X LL Γ a sa ma) (hb : EX X LL Γ b sb mb) : ET X LL Γ (.Compare a [.Eq] [b] pos) (tOf (eP dEqX (aCons sa (aCons sb aNil)))) := et_cmp (op_eqW hu) cp_eqX ha hb (nomark _)
end
end VV

/-! ## VNeY -/
namespace VV
open PySem PySem.Spec PyProof.Rows L2
section
variable {prog : Program} {w : World} {K : Type} [DecidableEq K] {knd : KeyKind prog w K} {A : Around} {s : Shared}
open PyProof.V PySem.Calls in
theorem vne_dicts {a b : Addr} {ka kb : List (K × Value)} (ha : (a == sysModules) = false) (hb : (b == sysModules) = false) (da : s.heap.DictOf knd a ka) (db : s.heap.DictOf knd b kb) (hu : A.units < cLine)
    (hl : ka.length = kb.length) (hits : PySem.W.KeqHitsP prog w A.in1 s kb ka true) (E Q : Value → Shared → Prop) (h : Q (.bool false) s) : wpAny (model prog w) A (richCompare .NotEq (.ref a) (.ref b)) Q E s := by
  have same : ∀ {nm : String} {Q' : Bool → Shared → Prop} {E' : Value → Shared → Prop}, Q' true s → wpAny (model prog w) A.in1 (Builtin.Dict.samePairs nm a b) Q' E' s := fun {nm Q' E'} q =>
    PySem.W.samePairsP ha hb da db (fun _ => hits) (by rw [hl]; simpa using q)
  refine wpAny_richCompare_same_room (op := .NotEq) da.typeIs db.typeIs PySem.F.slot_dict_ne
    (wpAny_call_entry PySem.F.slot_dict_ne da.typeIs PySem.F.entry_dict_ne ?_ (PySem.F.args_dict_ne_2 _ _)) hu
  show wpAny _ _ (Builtin.Dict.dictSlotArgs "__ne__" ⟨[.ref a, .ref b], []⟩ >>= _) _ _ s
  refine wpAny_bind (by
    unfold Builtin.Dict.dictSlotArgs
    refine wpAny_bind (wpAny_notOrdered_dict da.typeIs (show wpAny _ _ (pure (Value.ref a, Value.ref b)) _ _ s from wpAny_pure (wpAny_bind (wpAny_isInstance (T := "dict") db.typeIs PySem.F.sub_dict_dict ?_))))
    simp only [Bool.not_true, Bool.false_eq_true, if_false]
    refine wpAny_bind (wpAny_pure (wpAny_bind (wpAny_pure (wpAny_bind (same ?_)))))
    exact wpAny_pure ⟨_, rfl, (fun x => nomatch x), h⟩)
end
section
variable {X : Cx} {pins : List (Addr × Obj)} {σ : L2.St} {H : Hp} {s : Shared}
theorem neR2_run (I : Inv X pins σ H s) {A : Around} {F : V → V → Prop} (hu : A.units < cLine) (ih : ∀ x y v u, F x y → RelV x v → RelV y u → SeqAt.EqP X.prog X.w A.in1 s v u true) {x y : V} {v u : Value}
    (h : EqR2 X.K H F x y) (rx : RelV x v) (ry : RelV y u) (E Q : Value → Shared → Prop) (q : Q (.bool false) s) : wpAny (model X.prog X.w) A (richCompare .NotEq v u) Q E s := by
  rcases h with ⟨a, b, xs, ys, rfl, rfl, ha, hb, hp⟩ | ⟨a, b, ks, ls, rfl, rfl, ha, hb, hl, hp⟩
  · cases (show v = Value.ref a from rx)
    cases (show u = Value.ref b from ry)
    obtain ⟨us, r1, p1, _⟩ := I.list ha
    obtain ⟨ws, r2, p2, _⟩ := I.list hb
    have hsz : us.toArray.size = ws.toArray.size := by simp [← r1.length, ← r2.length, Paired.length hp]
    refine SeqAt.vne_lists p1.isList p2.isList hsz hu (fun j h1 h2 => ?_) E Q q
    have k := items_run ih hp r1 r2 j (by simpa using h1) (by simpa using h2)
    simpa using k
  · cases (show v = Value.ref a from rx)
    cases (show u = Value.ref b from ry)
    obtain ⟨_, ya, va, ra, da⟩ := dk_rd I.hok ha
    obtain ⟨_, yb, vb, rb, db⟩ := dk_rd I.hok hb
    exact vne_dicts (knd := mixKind X.prog X.w) ya yb da db hu (by rw [← ra.length, ← rb.length, hl]) (hits_run ih rb ra hp) E Q q
end
section
variable {X : Cx}
def rNeW (K : PySem.W.Frag) : R2 := fun x y H Q => rNeD K x y H Q ∨ (EqR2 K H (EqW K H 50) x y ∧ Q (.bl false) H)
theorem op_neW (hu : X.A.units + 64 < cLine) : OpR X (compareOp .NotEq) (rNeW X.K) := by
  intro pins s σ H x y v u Q I rx ry h
  rcases h with h | ⟨h, q⟩
  · exact op_neD hu pins s σ H x y v u Q I rx ry h
  · exact neR2_run I (A := X.A) (by omega) (eqW_run I 50 X.A.in1 (by show X.A.units + 1 + 50 < cLine; omega)) h rx ry _ _ ⟨.bl false, H, I, rfl, q⟩
end
def dNeX : List D → Option D
  | [a, b] => if a.shd && b.shd then some (.bl (!a.eqv b)) else if D.sameR (D.same 50) a b then some (.bl false) else none
  | _ => none
section
variable {X : Cx} {LL : List Nat} {Γ : List Kd} {pos : Pos} {a b : Expr} {sa sb : Ev} {ma mb : Md}
theorem cp_neX : CP X (r2 (rNeW X.K)) dNeX toFlat := by
  intro P LL g H H1 m ds vs d Q l x vl e q
  obtain ⟨fp, r⟩ := vl.rep
  unfold dNeX at e
  split at e
  · obtain ⟨v, w, f1, f2, rfl, h1, h2, _⟩ := repL2 r
    split at e
    · cases e
      rename_i h
      rw [Bool.and_eq_true] at h
      exact ⟨v, w, rfl, .inl ⟨_, _, h1.dp (SeqAt.canLay_of_shaped h.1), h2.dp (SeqAt.canLay_of_shaped h.2), h.1, h.2, q _ H1 Ext.refl (val_flat rep_bl)⟩⟩
    · split at e
      · cases e
        rename_i h
        exact ⟨v, w, rfl, .inr ⟨sameR_ok (fun a b x y g1 g2 => same_ok 50 a b x y g1 g2) h1 h2 h, q _ H1 Ext.refl (val_flat rep_bl)⟩⟩
      · cases e
  · cases e
theorem ex_neX (hu : X.A.units + 64 < cLine) (ha : EX X LL Γ a sa ma) (hb : EX X LL Γ b sb mb) : EX X LL Γ (.Compare a [.NotEq] [b] pos) (eP dNeX (aCons sa (aCons sb aNil))) .flat := ex_cmp (op_neW hu) cp_neX ha hb (nomark _)
theorem et_neX (hu : X.A.units + 64 < cLine) (ha : EX X LL Γ a sa ma) (hb : EX X LL Γ b sb mb) : ET X LL Γ (.Compare a [.NotEq] [b] pos) (tOf (eP dNeX (aCons sa (aCons sb aNil)))) := et_cmp (op_neW hu) cp_neX ha hb (nomark _)
end
end VV

/-! ## VIsi -/
namespace VV
open PySem PySem.Spec PyProof.Rows L2

/-! ### isinstance(x, T), T a built-in type -/
def D.tyN : D → Option String
  | .non => some "NoneType"
  | .bl _ => some "bool"
  | .int _ => some "int"
  | .str _ => some "str"
  | .tup _ => some "tuple"
  | .lst _ => some "list"
  | .scr _ => some "list"
  | .dic false _ _ => some "dict"
  | _ => none
theorem rep_ty {mg : Mg} {H : Hp} {d : D} {v : V} {fp : List Addr} {n : String} (r : Rep mg H d v fp) (h : d.tyN = some n) : TyX mg.K H v (.type n) := by
  cases d with
  | non => cases h; rw [rNon r]; exact .base .non
  | bl b => cases h; rw [rBl r]; exact .base (.bl b)
  | int i => cases h; rw [rInt r]; exact .base (.int i)
  | str s => cases h; rw [rStr r]; exact .base (.str s)
  | tup l =>
    cases h
    simp only [Rep] at r
    obtain ⟨a, vs, rfl, e, _⟩ := r
    exact .base (.tup e)
  | lst l =>
    cases h
    simp only [Rep] at r
    obtain ⟨a, vs, f, rfl, e, _⟩ := r
    exact .base (.lst e)
  | scr l =>
    cases h
    simp only [Rep] at r
    obtain ⟨a, vs, rfl, e, _⟩ := r
    rcases e with ⟨o, e⟩ | ⟨o, its, n, e, c, _⟩
    · exact .base (.frz e)
    · exact .kList e c
  | dic tk ks l =>
    cases tk with
    | false =>
      cases h
      simp only [Rep] at r
      obtain ⟨a, vs, f, rfl, ⟨_, kl, _, e | ⟨o, e⟩⟩, _⟩ := r
      · exact .base (.dK e)
      · exact .fDict e
    | true => cases h
  | obj c ns fs => cases h
  | fn x => cases h
def dIsi (T : String) : List D → Option D
  | [d] => d.tyN.bind fun n => (kitB n T).map .bl
  | _ => none
section
variable {X : Cx} {LL : List Nat} {Γ : List Kd} {pos p q : Pos} {e : Expr} {se : Ev} {m : Md}
theorem ex_isi {T : Str} {Ts : String} (hg : Gl X "isinstance") (hm : X.mg "isinstance" = none) (hv : bootBuiltins "isinstance" = some (.builtin "isinstance")) (gT : Gl X T) (mT : X.mg T = none) (vT : bootBuiltins T = some (.type Ts)) (he : EX X LL Γ e se m)
    (hn : T ≠ "__name__" := by decide) (hd : (T == ("__debug__" : Str)) = false := by decide)
    (hs : starEach [e, .Name T q] X.env = (false, eval e X.env) :: starEach [.Name T q] X.env := by rfl) (hs2 : starEach [.Name T q] X.env = (false, eval (.Name T q) X.env) :: starEach [] X.env := by rfl)
    (hpl : (backTo pos (starEach [.Name T q] X.env)).any (·.1) = false := by rfl) :
    EX X LL Γ (.Call (.Name "isinstance" p) [e, .Name T q] [] pos) (eP (dIsi Ts) (aCons se aNil)) .flat := by
  obtain ⟨t, pt, k⟩ := he
  have pT : PE X (.Name T q) (tC (.ty Ts)) := pe_bltn gT mT vT rfl hn hd
  refine ⟨_, pe_callB call_isi hg hm hv (pa_cons pt (pa_cons pT pa_nil hs2) hs) (by decide) (by decide) hs hpl, fun P g ρ σ H d Q s e0 q => ?_⟩
  obtain ⟨ds, e1, e0⟩ := bind_some e0
  obtain ⟨d1, ea, e1⟩ := bind_some e1
  obtain ⟨r1, er, e1⟩ := bind_some e1
  cases er; cases e1
  unfold dIsi at e0
  obtain ⟨n, hn', e0⟩ := bind_some e0
  simp only [Option.map_eq_some_iff] at e0
  obtain ⟨b, hb, rfl⟩ := e0
  refine k P g ρ σ H d1 _ s ea fun v H1 x1 w => ?_
  obtain ⟨fp, r, _⟩ := w.labs
  exact ⟨v, .ty Ts, .type n, .type Ts, b, rfl, .ty Ts, rep_ty r hn', kit_ty hb, q _ H1 x1 (val_flat rep_bl)⟩
end
end VV

/-! ## VPut -/
namespace VV
open PySem PySem.Spec PyProof.Rows L2

/-! ### x[j] = v, x a list in a slot -/
theorem repL_set {mg : Mg} {H : Hp} {d : D} {y : V} {fy : List Addr} (ry : Rep mg H d y fy) : ∀ {ds : List D} {vs : List V} {f : List Addr} {j : Nat}, RepL mg H ds vs f → j < ds.length →
    ∃ f', RepL mg H (ds.set j d) (vs.set j y) f' ∧ (∀ b ∈ f', b ∈ f ∨ b ∈ fy) ∧ (f.Nodup → fy.Nodup → (∀ b ∈ f, b ∉ fy) → f'.Nodup)
  | [], _, _, _, _, h => by simp at h
  | d0 :: ds, _, _, 0, h, _ => by
    simp only [RepL] at h
    obtain ⟨v, r, f1, f2, rfl, h1, h2, rfl⟩ := h
    refine ⟨fy ++ f2, ?_, fun b hb => (List.mem_append.mp hb).elim .inr fun z => .inl (List.mem_append_right _ z), fun n1 n2 dj => List.nodup_append.mpr ⟨n2, (List.nodup_append.mp n1).2.1, fun a ha b hb e => dj b (List.mem_append_right _ hb) (e ▸ ha)⟩⟩
    simp only [List.set_cons_zero, RepL]
    exact ⟨y, r, fy, f2, rfl, ry, h2, rfl⟩
  | d0 :: ds, _, _, j + 1, h, hj => by
    simp only [RepL] at h
    obtain ⟨v, r, f1, f2, rfl, h1, h2, rfl⟩ := h
    obtain ⟨f', g1, g2, g3⟩ := repL_set ry h2 (j := j) (by simpa using hj)
    refine ⟨f1 ++ f', ?_, fun b hb => ?_, fun n1 n2 dj => ?_⟩
    · simp only [List.set_cons_succ, RepL]
      exact ⟨v, _, f1, f', rfl, h1, g1, rfl⟩
    · rcases List.mem_append.mp hb with z | z
      · exact .inl (List.mem_append_left _ z)
      · exact (g2 b z).imp (fun q => List.mem_append_right _ q) id
    · obtain ⟨a1, a2, a3⟩ := List.nodup_append.mp n1
      refine List.nodup_append.mpr ⟨a1, g3 a2 n2 fun b hb => dj b (List.mem_append_right _ hb), fun a ha b hb e => ?_⟩
      rcases g2 b hb with q | q
      · exact a3 a ha b q e
      · exact dj a (List.mem_append_left _ ha) (e ▸ q)
def lPut : D → D → D → Option D
  | .lst l, .int k, v => (ixN l.length k).map fun j => .lst (l.set j v)
  | _, _, _ => none
section
variable {X : Cx} {W : L2.WX} {sc : Sc} {Γ : List Kd} {pos : Pos}
theorem sx_lput {i : Nat} {x : Str} {px pos' : Pos} {e j : Expr} {se sj : Ev} {m mj : Md} {n : Nat} {L : List Nat} {nd : Bool} (c : Nat) (hk : Γ[i]? = some (.lab (some n) L nd)) (hN : X.N[i]? = some x) (hv : Vis X.env.scope x)
    (he : EX X sc.LL Γ e se m) (hj : EX X sc.LL Γ j sj mj)
    (hn : n ≠ 0 := by decide) (hL : n ∉ sc.LL := by decide) (hm : n ∉ m.labs := by decide) (hc : c ≠ 0 := by decide) (hdb : (x == ("__debug__" : Str)) = false := by decide) (hcd : (x == ("__classdict__" : Str)) = false := by decide)
    (ha : ∀ v, assign (.Subscript (.Name x px) j pos') X.env v = (do
      let ov ← holding [v] (eval (.Name x px) X.env)
      let iv ← holding [v, ov] (eval j X.env)
      standAt pos'
      holding [v, ov, iv] (setItem ov iv v)
      release [v, ov, iv] []) := by intro _; rfl)
    (hs : swapsWithSole [.Subscript (.Name x px) j pos'] e pos.line X.env = pure false := by rfl) (hw : swappedStores [.Subscript (.Name x px) j pos'] e X.env = pure none := by rfl)
    (h1 : (assignEach [.Subscript (.Name x px) j pos'] X.env).map (·.2) = [assign (.Subscript (.Name x px) j pos') X.env] := by rfl) :
    SX X W sc Γ (.Assign [.Subscript (.Name x px) j pos'] e pos) (sPut lPut i sj se) ((killK n Γ).set i (Kd.push c (.lab (some n) L nd) m)) := by
  obtain ⟨t, pt, kk⟩ := he
  obtain ⟨tj, pj, kj⟩ := hj
  refine ⟨_, ps_asg pt (pg_sub (pe_var hN hv hdb hcd) pj set_list ha) hs hw h1, fun P g ρ σ H o De s e w => ?_⟩
  obtain ⟨d, e1, e⟩ := bind_some e
  obtain ⟨xk, e2, e⟩ := bind_some e
  obtain ⟨dd, e3, e⟩ := bind_some e
  obtain ⟨z, e4, e⟩ := bind_some e
  cases e
  obtain ⟨l', ov, h1, h2, h3⟩ := s.cells.get hk
  rw [e3] at h1; cases h1
  unfold lPut at e4
  split at e4
  · rename_i l k eq0
    simp only [Option.map_eq_some_iff] at e4
    obtain ⟨jj, ej, rfl⟩ := e4
    obtain ⟨v, fp, rfl, r, q, z⟩ := h3
    simp only [Rep] at r
    obtain ⟨a, vs, f, rfl, ho0, rl, rfl⟩ := r
    have hga : g a = n := root_lab q
    have haf : a ∉ f := z.2 rfl a f rfl rfl
    refine kk P g ρ σ H _ _ s e1 fun y H2 x2 wv => ?_
    refine ⟨.ref a, h2, ?_⟩
    refine kj P g ρ σ H2 _ _ (s.ext x2) e2 fun yk H3 x3 wk => ?_
    obtain ⟨fk, rk, _⟩ := wk.labs
    obtain rfl := rInt rk
    have x23 := x2.trans x3
    have ho3 : H3 a = some (.lst vs) := x23 a _ ho0
    obtain ⟨fy, ry, oy, ndy, lby⟩ := (wv.ext x3).pushed (c := c) s.loc hc
    have hay : a ∉ fy := fun hm' => by
      rcases lby a hm' with y | y
      · have := y.1; rw [ho0] at this; cases this
      · have := y.1; rw [hga] at this; exact hm this
    have st2 : Sta X.vm P sc.LL Γ (relab g H H3 .non c c) ρ σ H3 := s.relab x23
    have hg2 : relab g H H3 .non c c a = n := by rw [relab_old (by rw [ho0]; simp)]; exact hga
    have rl3 := rl.ext x23
    have hjl : jj < l.length := by
      unfold ixN at ej
      split at ej
      · split at ej <;> cases ej <;> omega
      · split at ej <;> cases ej <;> omega
    refine ⟨a, vs, k, jj, rfl, rfl, ho3, by rw [rl.length]; exact ej, ?_⟩
    obtain ⟨f', g1, g2, g3⟩ := repL_set ry rl3 hjl
    have haf' : a ∉ f' := fun hm => (g2 a hm).elim haf hay
    have oldf : ∀ b ∈ f, Old P g L b := fun b hb => by
      rcases q b (List.mem_cons_of_mem _ hb) with ⟨e, _⟩ | ⟨_, y⟩
      · cases e; exact absurd hb haf
      · exact y
    have cell : CellOk X.vm P (relab g H H3 .non c c) (upd H3 a (.lst (vs.set jj y))) (Kd.push c (.lab (some n) L nd) m) (.lst (l.set jj d)) (some (.ref a)) := by
      refine ⟨.ref a, a :: f', rfl, ?_, fun b hb => ?_, fun hn' => ?_, fun _ b g' e1 e2 => ?_⟩
      · simp only [Rep]
        exact ⟨a, _, f', rfl, upd_same, repL_upd g1 haf' ho3 trivial, rfl⟩
      · rcases List.mem_cons.mp hb with rfl | hb
        · exact .inl ⟨rfl, n, rfl, by rw [hg2]; exact List.mem_singleton.mpr rfl, fun z => by rw [hg2] at z; exact absurd z hn⟩
        · rcases g2 b hb with hb' | hb'
          · have y' := Old.relab (H' := H3) (v := .non) (n := c) (m := c) (oldf b hb') s.loc
            exact .inr ⟨.inl fun e => by cases e; exact haf hb', List.mem_append_left _ y'.1, y'.2⟩
          · have y' := oy b hb'
            exact .inr ⟨.inl fun e => by cases e; exact hay hb', List.mem_append_right _ y'.1, y'.2⟩
      · simp only [Bool.and_eq_true] at hn'
        obtain ⟨⟨n1, n2⟩, dj⟩ := hn'
        refine List.nodup_cons.mpr ⟨haf', g3 (List.nodup_cons.mp (z.1 n1)).2 (ndy n2) fun b hb hb' => ?_⟩
        rcases lby b hb' with y | y
        · exact (oldf b hb).there s.loc y.1
        · exact disj_ok dj (oldf b hb).1 y.1
      · cases e2
        exact haf'
    obtain ⟨s3, st3⟩ := st2.put (o' := .lst (vs.set jj y)) ho3 trivial trivial hg2 hn hL h2 cell
    exact w _ σ _ ((Step.relab x23).trans st3) s3
  · cases e4
end
end VV

/-! ## VDisp -/
namespace VV
open PySem PySem.Spec PyProof.Rows L2

/-! ### {k: v, ..}, keys ints and texts, values flat -/
def dDispA : List Ky → List D → List D → Option D
  | ks, vs, [] => some (.dic false ks vs)
  | ks, vs, k :: d :: r => match k.ky false with
    | some kk => dDispA (putKs ks kk) (putDs ks vs kk d) r
    | none => none
  | _, _, _ => none
def eDisp (a : List D → Option (List D)) : Ev := fun ρ => do dDispA [] [] (← a ρ)
def PrR (mg : Mg) (H : Hp) : List D → List (V × V) → Prop
  | [], ps => ps = []
  | k :: d :: r, ps => ∃ x y q, ps = (x, y) :: q ∧ Rep mg H k x [] ∧ Rep mg H d y [] ∧ PrR mg H r q
  | _, _ => False
theorem PrR.ext {mg : Mg} {H H' : Hp} (e : Ext H H') : ∀ {ds : List D} {ps : List (V × V)}, PrR mg H ds ps → PrR mg H' ds ps
  | [], _, h => h
  | [_], _, h => h.elim
  | k :: d :: r, _, ⟨x, y, q, h0, h1, h2, h3⟩ => ⟨x, y, q, h0, h1.ext e, h2.ext e, PrR.ext e h3⟩
def ED (X : Cx) (LL : List Nat) (Γ : List Kd) (keys : List (Option Expr)) (values : List Expr) (sem : List D → Option (List D)) : Prop :=
  keys.all (·.isSome) = true ∧ keys.length = values.length ∧ ∃ trs, (∀ pos, PPs X pos keys values trs) ∧ ∀ P g ρ σ H ds (Q : List (V × V) → Hp → Prop), Sta X.vm P LL Γ g ρ σ H → sem ρ = some ds → (∀ ps H', Ext H H' → PrR X.vm H' ds ps → ps.length = keys.length → Q ps H') → tPairs trs σ H Q
section
variable {X : Cx} {LL : List Nat} {Γ : List Kd} {pos : Pos} {k v : Expr} {ks : List (Option Expr)} {vs : List Expr} {sk sv : Ev} {sr : List D → Option (List D)}
theorem ed_nil : ED X LL Γ [] [] aNil := ⟨rfl, rfl, [], fun _ => pps_nil, fun P g ρ σ H ds Q s e q => by cases e; exact q [] H Ext.refl rfl rfl⟩
theorem ed_cons (hk : EX X LL Γ k sk .flat) (hv : EX X LL Γ v sv .flat) (hr : ED X LL Γ ks vs sr) : ED X LL Γ (some k :: ks) (v :: vs) (aCons sk (aCons sv sr)) := by
  obtain ⟨tk, pk, kk⟩ := hk
  obtain ⟨tv, pv, kv⟩ := hv
  obtain ⟨h1, h2, trs, pr, kr⟩ := hr
  refine ⟨by simpa using h1, by simpa using h2, (tk, tv) :: trs, fun pos => pps_cons pk pv (pr pos), fun P g ρ σ H ds Q s e q => ?_⟩
  obtain ⟨d1, ea, e⟩ := bind_some e
  obtain ⟨r1, er, e⟩ := bind_some e
  obtain ⟨d2, eb, er⟩ := bind_some er
  obtain ⟨r2, er2, er⟩ := bind_some er
  cases er; cases e
  refine kk P g ρ σ H d1 _ s ea fun x H1 x1 w1 => ?_
  refine kv P g ρ σ H1 d2 _ (s.ext x1) eb fun y H2 x2 w2 => ?_
  refine kr P g ρ σ H2 r2 _ (s.ext (x1.trans x2)) er2 fun ps H3 x3 w3 hl => ?_
  exact q _ H3 (x1.trans (x2.trans x3)) ⟨x, y, ps, rfl, Rep.ext (Rep.ext (show Rep X.vm H1 d1 x [] from w1) x2) x3, Rep.ext (show Rep X.vm H2 d2 y [] from w2) x3, w3⟩ (by simp [hl])
theorem disp_merge {mg : Mg} {H : Hp} : ∀ {ds : List D} {ps : List (V × V)} {kl : List L2.Key} {us : List V} {vs : List D} {d : D}, PrR mg H ds ps → kl.length = us.length → (kl.map Ky.k).Nodup → RepL mg H vs us [] → dDispA (kl.map Ky.k) vs ds = some d →
    ∃ kvs : List (L2.Key × V), ps = kvs.map (fun kv => (kV kv.1, kv.2)) ∧ ∃ (kl2 : List L2.Key) (us2 : List V) (vs2 : List D), d = .dic false (kl2.map Ky.k) vs2 ∧ mergeK (kl.zip us) kvs = kl2.zip us2 ∧ kl2.length = us2.length ∧ (kl2.map Ky.k).Nodup ∧ RepL mg H vs2 us2 []
  | [], _, kl, us, vs, d, h, hl, hn, hr, e => by
    cases (show _ = [] from h)
    cases e
    exact ⟨[], rfl, kl, us, vs, rfl, rfl, hl, hn, hr⟩
  | [_], _, _, _, _, _, h, _, _, _, _ => h.elim
  | k :: d0 :: r, _, kl, us, vs, d, ⟨x, y, q, h0, h1, h2, h3⟩, hl, hn, hr, e => by
    subst h0
    unfold dDispA at e
    split at e
    · rename_i kk ek
      simp only [D.ky, Option.map_eq_some_iff] at ek
      obtain ⟨k1, e1, rfl⟩ := ek
      obtain ⟨kl2, p1, p2, p3⟩ := put_zip (x := k1) (v := y) ky_k_inj hl
      obtain ⟨f', g1, g2, _⟩ := repL_put (k := Ky.k k1) h2 (by simpa using hl) hn hr
      have hf : f' = [] := List.eq_nil_iff_forall_not_mem.mpr fun b hb => by
        rcases g2 b hb with z | z <;> cases z
      subst hf
      rw [p1] at e
      have hn2 : (kl2.map Ky.k).Nodup := by rw [← p1]; exact putKs_nodup hn
      obtain ⟨kvs, eq, kl3, us3, vs3, a1, a2, a3, a4, a5⟩ := disp_merge h3 p3 hn2 g1 e
      refine ⟨(k1, y) :: kvs, by rw [eq, rep_ky1 h1 e1]; rfl, kl3, us3, vs3, a1, ?_, a3, a4, a5⟩
      rw [← a2, ← p2]
      rfl
    · cases e
theorem ex_disp (h : ED X LL Γ ks vs sr) (h0 : ks ≠ [] := by exact fun z => nomatch z) (h15 : ks.length ≤ 15 := by decide) : EX X LL Γ (.Dict ks vs pos) (eDisp sr) (.al false .new [] true) := by
  obtain ⟨h1, h2, trs, pr, kr⟩ := h
  refine ⟨_, pe_disp (pr pos) h1 h2 h0 h15, fun P g ρ σ H d Q s e q => ?_⟩
  obtain ⟨ds, e1, e⟩ := bind_some e
  intro p hp
  refine kr P g ρ σ _ ds _ (s.ext (Ext.put hp)) e1 fun ps H2 x2 w hlen => ?_
  have hp2 : H2 p = some (.dK []) := x2 p _ upd_same
  obtain ⟨kvs, eq, kl2, us2, vs2, a1, a2, a3, a4, a5⟩ := disp_merge (kl := []) (us := []) (vs := []) w rfl List.nodup_nil (by simp [RepL]) e
  refine ⟨hp2, kvs, eq, ?_, ?_⟩
  · have := congrArg List.length eq
    rw [List.length_map] at this
    omega
  · subst a1
    rw [show mergeK [] kvs = kl2.zip us2 from a2]
    refine q _ _ (fun b u hb => ?_) ⟨[p], ?_, fun b hb => ?_, .of (by simp)⟩
    · have : b ≠ p := fun z => by rw [z, hp] at hb; cases hb
      rw [upd_ne this]
      exact x2 b u (by rw [upd_ne this]; exact hb)
    · simp only [Rep]
      exact ⟨p, us2, [], rfl, ⟨⟨by simpa using a3, a4⟩, kl2, rfl, .inl upd_same⟩, repL_upd a5 (by simp) hp2 trivial, rfl⟩
    · obtain rfl := List.mem_singleton.mp hb
      exact .inl ⟨rfl, hp, by rw [upd_same]; trivial⟩
end
end VV

/-! ## VSimp -/
namespace VV
open PySem PySem.Spec PyProof.Rows L2
/-- keeps a lemma from being used without a trace -/
theorem of_rfl {α : Sort u} {a b : α} (h : a = b) : a = b := h

def _root_.Option.ob {α : Type u} {β : Type v} (o : Option α) (f : α → Option β) : Option β := o.bind f
@[simp] theorem ob_some {α : Type u} {β : Type v} {x : α} {f : α → Option β} : (some x).ob f = f x := of_rfl rfl
@[simp] theorem ob_none {α : Type u} {β : Type v} {f : α → Option β} : (none : Option α).ob f = none := of_rfl rfl
/-! ### the functions of trees, evaluated -/
def asB : D → Option Bool
  | .bl b => some b
  | _ => none
def asRet : Option Res → Option D
  | some (.ret d) => some d
  | _ => none
def asL : D → Option (List D)
  | .lst l => some l
  | .scr l => some l
  | _ => none
def asT : D → Option (List D)
  | .tup l => some l
  | _ => none
def outR : Option Out → Option Res
  | some (.nx _) => some (.ret .non)
  | some (.rt d) => some (.ret d)
  | some (.ex c _) => some (.exn c)
  | _ => none
def seqO (o : Option Out) (b : Sv) : Option Out := match o with
  | some (.nx ρ) => b ρ
  | o => o
section
variable {i n : Nat} {ρ : List D} {d : D} {e e1 e2 : Ev} {a r : List D → Option (List D)} {f : List D → Option D} {g : List D → Option Res} {p : D → Bool} {s1 s2 : Sv} {c c2 : List D → Option Bool} {t : Tv} {pk : List Kd} {ds : List D}
@[simp] theorem eVar_s : eVar i ρ = ρ[i]? := of_rfl rfl
@[simp] theorem eC_s : eC d ρ = some d := of_rfl rfl
@[simp] theorem aNil_s : aNil ρ = some [] := of_rfl rfl
@[simp] theorem aCons_s : aCons e a ρ = (e ρ).ob fun d => (a ρ).ob fun ds => some (d :: ds) := of_rfl rfl
@[simp] theorem eP_s : eP f a ρ = (a ρ).ob f := of_rfl rfl
@[simp] theorem eTup_s : eTup a ρ = (a ρ).ob fun ds => some (.tup ds) := of_rfl rfl
@[simp] theorem eLst_s : eLst a ρ = (a ρ).ob fun ds => some (.lst ds) := of_rfl rfl
@[simp] theorem eChk_s : eChk p e ρ = (e ρ).filter p := of_rfl rfl
@[simp] theorem tOf_s : tOf e ρ = (e ρ).ob asB := by
  unfold tOf
  cases e ρ with
  | none => rfl
  | some d => cases d <;> rfl
@[simp] theorem asB_s {b : Bool} : asB (.bl b) = some b := of_rfl rfl
@[simp] theorem eCall_s : eCall g a ρ = (a ρ).ob fun ds => asRet (g ds) := by
  unfold eCall
  cases a ρ with
  | none => rfl
  | some ds =>
    show (match g ds with | some (.ret d) => some d | _ => none) = asRet (g ds)
    cases g ds with
    | none => rfl
    | some r => cases r <;> rfl
@[simp] theorem asRet_s : asRet (some (.ret d)) = some d := of_rfl rfl
@[simp] theorem sNil_s : sNil ρ = some (.nx ρ) := of_rfl rfl
@[simp] theorem sPass_s : sPass ρ = some (.nx ρ) := of_rfl rfl
@[simp] theorem sCont_s : sCont ρ = some (.ct ρ) := of_rfl rfl
@[simp] theorem sRetN_s : sRetN ρ = some (.rt .non) := of_rfl rfl
@[simp] theorem sSeq_s : sSeq s1 s2 ρ = seqO (s1 ρ) s2 := by
  unfold sSeq seqO
  cases s1 ρ with
  | none => rfl
  | some o => cases o <;> rfl
@[simp] theorem seqO_nx : seqO (some (.nx ρ)) s2 = s2 ρ := of_rfl rfl
@[simp] theorem seqO_rt : seqO (some (.rt d)) s2 = some (.rt d) := of_rfl rfl
@[simp] theorem seqO_ct : seqO (some (.ct ρ)) s2 = some (.ct ρ) := of_rfl rfl
@[simp] theorem sRet_s : sRet e ρ = (e ρ).ob fun d => some (.rt d) := of_rfl rfl
@[simp] theorem sSet_s : sSet i e ρ = (e ρ).ob fun d => some (.nx (ρ.set i d)) := of_rfl rfl
@[simp] theorem sAsg_s : sAsg t e ρ = (e ρ).ob fun d => (t d ρ).ob fun ρ' => some (.nx ρ') := of_rfl rfl
theorem sIf_s : sIf c s1 s2 ρ = (c ρ).ob fun b => if b then s1 ρ else s2 ρ := rfl
@[simp] theorem sIf_t (h : c ρ = some true) : sIf c s1 s2 ρ = s1 ρ := by rw [sIf_s, h]; rfl
@[simp] theorem sIf_f (h : c ρ = some false) : sIf c s1 s2 ρ = s2 ρ := by rw [sIf_s, h]; rfl
@[simp] theorem wAnd_s : wAnd c c2 ρ = (c ρ).ob fun b => if b then c2 ρ else some false := of_rfl rfl
@[simp] theorem wOr_s : wOr c c2 ρ = (c ρ).ob fun b => if b then some true else c2 ρ := of_rfl rfl
@[simp] theorem wNot_s : wNot c ρ = (c ρ).ob fun b => some (!b) := of_rfl rfl
@[simp] theorem vNot_s : vNot e ρ = (e ρ).ob fun d => (asB d).ob fun b => some (.bl (!b)) := by
  unfold vNot
  cases e ρ with
  | none => rfl
  | some d => cases d <;> rfl
@[simp] theorem vAnd_s : vAnd e1 e2 ρ = (e1 ρ).ob fun d => (asB d).ob fun b => if b then e2 ρ else some (.bl false) := by
  unfold vAnd
  cases e1 ρ with
  | none => rfl
  | some d =>
    cases d with
    | bl b => cases b <;> rfl
    | _ => rfl
@[simp] theorem vOr_s : vOr e1 e2 ρ = (e1 ρ).ob fun d => (asB d).ob fun b => if b then some (.bl true) else e2 ρ := by
  unfold vOr
  cases e1 ρ with
  | none => rfl
  | some d =>
    cases d with
    | bl b => cases b <;> rfl
    | _ => rfl
@[simp] theorem cYes_s : cYes ρ = some true := of_rfl rfl
@[simp] theorem gN_s : gN i d ρ = some (ρ.set i d) := of_rfl rfl
@[simp] theorem gF_s : gF t d ρ = if d.isFlat then t d ρ else none := of_rfl rfl
@[simp] theorem gT_s {l : List D} {ts : List D → List D → Option (List D)} : gT ts (.tup l) ρ = ts l ρ := of_rfl rfl
@[simp] theorem gL_s {l : List D} {ts : List D → List D → Option (List D)} : gL ts (.lst l) ρ = ts l ρ := of_rfl rfl
@[simp] theorem gsNil_s : gsNil [] ρ = some ρ := of_rfl rfl
@[simp] theorem gsCons_s {l : List D} {ts : List D → List D → Option (List D)} : gsCons t ts (d :: l) ρ = (t d ρ).ob fun ρ' => ts l ρ' := of_rfl rfl
@[simp] theorem fl_non : D.non.isFlat = true := of_rfl rfl
@[simp] theorem fl_int {k : Int} : (D.int k).isFlat = true := of_rfl rfl
@[simp] theorem fl_bl {k : Bool} : (D.bl k).isFlat = true := of_rfl rfl
@[simp] theorem fl_str {k : Str} : (D.str k).isFlat = true := of_rfl rfl
@[simp] theorem fl_scr {k : List D} : (D.scr k).isFlat = true := of_rfl rfl
@[simp] theorem fl_fn {k : Str} : (D.fn k).isFlat = true := of_rfl rfl
@[simp] theorem fl_tup {k : List D} : (D.tup k).isFlat = D.isFlatL k := by simp only [D.isFlat]
@[simp] theorem fl_lst {k : List D} : (D.lst k).isFlat = false := by simp only [D.isFlat]
@[simp] theorem flL_nil : D.isFlatL [] = true := by simp only [D.isFlatL]
@[simp] theorem flL_cons {k : List D} : D.isFlatL (d :: k) = (d.isFlat && D.isFlatL k) := by simp only [D.isFlatL]
@[simp] theorem flL_ints {k : List Int} : D.isFlatL (k.map D.int) = true := by
  induction k with
  | nil => rfl
  | cons a r ih => simp only [List.map_cons, flL_cons, fl_int, ih, Bool.and_self]
@[simp] theorem kf_lst {k : List D} : (D.lst k).kidsFlat = D.isFlatL k := of_rfl rfl
theorem fn_s (h : pkOk pk ds = true) : fnSem n pk s1 ds = outR (s1 (ds ++ List.replicate (n - ds.length) .non)) := by
  unfold fnSem
  refine (if_pos h).trans ?_
  unfold outR
  cases s1 (ds ++ List.replicate (n - ds.length) .non) with
  | none => rfl
  | some o => cases o <;> rfl
@[simp] theorem outR_rt : outR (some (.rt d)) = some (.ret d) := of_rfl rfl
@[simp] theorem outR_nx : outR (some (.nx ρ)) = some (.ret .non) := of_rfl rfl
@[simp] theorem pk_nil : pkOk [] [] = true := of_rfl rfl
@[simp] theorem pk_flat {k : List D} : pkOk (.flat :: pk) (d :: k) = (d.isFlat && pkOk pk k) := of_rfl rfl
@[simp] theorem pk_lab {k : List D} : pkOk (.lab none [0] false :: pk) (d :: k) = pkOk pk k := of_rfl rfl

@[simp] theorem dI2_s {h : Int → Int → Int} {x y : Int} : dI2 h [.int x, .int y] = some (.int (h x y)) := of_rfl rfl
@[simp] theorem dB2_s {h : Int → Int → Bool} {x y : Int} : dB2 h [.int x, .int y] = some (.bl (h x y)) := of_rfl rfl
@[simp] theorem dI1_s {h : Int → Int} {x : Int} : dI1 h [.int x] = some (.int (h x)) := of_rfl rfl
theorem dMul_s {x y : Int} (h : CMulX x y) : dMul [.int x, .int y] = some (.int (x * y)) := if_pos h
theorem dDiv_s {x y : Int} (h : CDivW x y) : dDiv [.int x, .int y] = some (.int (x / y)) := if_pos h
@[simp] theorem dMod_s {x y : Int} (h : 0 < y) : dMod [.int x, .int y] = some (.int (x % y)) := if_pos h
theorem dPow_s {x y : Int} (h : CPow x y) : dPow [.int x, .int y] = some (.int (x ^ y.toNat)) := if_pos h
theorem pow_e {a b c : Int} (h : CPow a b) (e : a ^ b.toNat = c) : eP dPow (aCons (eC (.int a)) (aCons (eC (.int b)) aNil)) = eC (.int c) := by
  funext ρ
  rw [← e]
  exact dPow_s h
@[simp] theorem dLen_l {l : List D} : dLen [.lst l] = some (.int l.length) := of_rfl rfl
@[simp] theorem dLen_c {l : List D} : dLen [.scr l] = some (.int l.length) := of_rfl rfl
@[simp] theorem dLen_t {l : List D} : dLen [.tup l] = some (.int l.length) := of_rfl rfl
@[simp] theorem dIdx_l {l : List D} {k : Int} : dIdx [.lst l, .int k] = atI l k := of_rfl rfl
@[simp] theorem dIdx_c {l : List D} {k : Int} : dIdx [.scr l, .int k] = atI l k := of_rfl rfl
@[simp] theorem dIdx_t {l : List D} {k : Int} : dIdx [.tup l, .int k] = atI l k := of_rfl rfl
theorem atI_n {α : Type} {l : List α} {k : Nat} : atI l (k : Int) = l[k]? := by
  unfold atI ixN
  rw [if_pos (by omega)]
  by_cases h : k < l.length
  · rw [if_pos (by omega)]; simp
  · rw [if_neg (by omega)]; simp; omega
theorem atI_of {α : Type} {l : List α} {z : Int} {k : Nat} (h : z = k) : atI l z = l[k]? := by rw [h]; exact atI_n
@[simp] theorem atI_0 {α : Type} {l : List α} : atI l 0 = l[0]? := atI_of (k := 0) rfl
@[simp] theorem atI_lit {α : Type} {l : List α} {n : Nat} : atI l (no_index (OfNat.ofNat n : Int)) = l[(OfNat.ofNat n : Nat)]? := atI_of (k := n) rfl
@[simp] theorem atI_1 {α : Type} {l : List α} : atI l 1 = l[1]? := atI_of (k := 1) rfl
@[simp] theorem dInt_i {k : Int} : dIntC [.int k] = some (.int k) := of_rfl rfl
@[simp] theorem dInt_b {k : Bool} : dIntC [.bl k] = some (.int (if k then 1 else 0)) := of_rfl rfl
@[simp] theorem eLc_s {it : List D → Option (List D)} : eLc it t c e ρ = (it ρ).ob fun xs => (lcL t c e ρ xs).ob fun ys => some (.lst ys) := of_rfl rfl
@[simp] theorem iLst_s : iLst e ρ = (e ρ).ob asL := by
  unfold iLst
  cases e ρ with
  | none => rfl
  | some d => cases d <;> rfl
@[simp] theorem iTupl_s : iTupl e ρ = (e ρ).ob asT := by
  unfold iTupl
  cases e ρ with
  | none => rfl
  | some d => cases d <;> rfl
@[simp] theorem asL_l {l : List D} : asL (.lst l) = some l := of_rfl rfl
@[simp] theorem asL_c {l : List D} : asL (.scr l) = some l := of_rfl rfl
@[simp] theorem asT_t {l : List D} : asT (.tup l) = some l := of_rfl rfl
@[simp] theorem sFor_s {it : List D → Option (List D)} {b : Sv} : sFor it t b ρ = (it ρ).ob fun xs => forL t b xs ρ := of_rfl rfl
@[simp] theorem sMut_s {h : D → D → Option D} : sMut h i e ρ = (e ρ).ob fun y => (ρ[i]?).ob fun x => (h x y).ob fun z => some (.nx (ρ.set i z)) := of_rfl rfl
theorem dPush_s {l : List D} (h : l.length < 1000000) : dPush (.lst l) d = some (.lst (l ++ [d])) := if_pos h
theorem rng_len {lo : Int} {k : Nat} : (rngD lo k).length = k := by unfold rngD; simp
theorem iRng1_s {k : Int} (h : a ρ = some [.int k]) (h1 : k ≤ 10000000) (h2 : -10000000 ≤ k) : iRng a ρ = some (rngD 0 k.toNat) := by
  unfold iRng
  rw [h]
  exact if_pos ⟨h1, h2⟩
theorem iRng2_s {j k : Int} (h : a ρ = some [.int j, .int k]) (h1 : k ≤ 10000000) (h2 : -10000000 ≤ j) (h3 : j ≤ 10000000) (h4 : -10000000 ≤ k) (h5 : k - j ≤ 10000000) : iRng a ρ = some (rngD j (k - j).toNat) := by
  unfold iRng
  rw [h]
  exact if_pos ⟨h1, h2, h3, h4, h5⟩
theorem rng0 {k : Nat} : rngD 0 k = (List.range k).map fun i : Nat => D.int i := by
  unfold rngD
  apply List.map_congr_left
  intro i _
  simp
theorem iZip_s {l r : List D} (h : a ρ = some [.lst l, .lst r]) : iZipL a ρ = some ((l.zip r).map fun p => .tup [p.1, p.2]) := by
  unfold iZipL
  rw [h]
  rfl
@[simp] theorem iEnum_s : iEnumL e ρ = (e ρ).ob fun d => match d with | .lst l => some (l.mapIdx fun i d => .tup [.int i, d]) | _ => none := of_rfl rfl
@[simp] theorem oNone_s : oNone ρ = some none := of_rfl rfl
@[simp] theorem oSome_s : oSome e ρ = (e ρ).ob fun d => match d with | .int i => some (some i) | _ => none := of_rfl rfl
@[simp] theorem eSl_s {lo hi : List D → Option (Option Int)} : eSl e lo hi ρ = (e ρ).ob fun d => (lo ρ).ob fun l => (hi ρ).ob fun h => dSl d l h := of_rfl rfl
@[simp] theorem dSl_l {l : List D} {lo hi : Option Int} : dSl (.lst l) lo hi = some (.lst (cutG l lo hi)) := of_rfl rfl
theorem dSl_t {l : List D} {lo hi : Option Int} (h : ¬ (HT.sIx l.length 0 lo = 0 ∧ HT.sIx l.length l.length hi = l.length)) : dSl (.tup l) lo hi = some (.tup (cutG l lo hi)) := if_neg h
theorem cutG_map {α β : Type} {l : List α} {f : α → β} {lo hi : Option Int} : cutG (l.map f) lo hi = (cutG l lo hi).map f := by
  unfold cutG
  simp [List.map_take, List.map_drop]
end

/-! ### comprehensions, loops -/
theorem lcL_map {α : Type} {t : Tv} {c : List D → Option Bool} {e : Ev} {ρ : List D} (x : α → D) (y : α → D) : ∀ l : List α, (∀ a ∈ l, ∃ ρ1, t (x a) ρ = some ρ1 ∧ c ρ1 = some true ∧ e ρ1 = some (y a)) → lcL t c e ρ (l.map x) = some (l.map y)
  | [], _ => rfl
  | a :: r, h => by
    obtain ⟨ρ1, h1, h2, h3⟩ := h a List.mem_cons_self
    have ih := lcL_map x y r fun b hb => h b (List.mem_cons_of_mem _ hb)
    show lcL t c e ρ (x a :: r.map x) = _
    unfold lcL
    rw [h1]
    simp [h2, h3, ih]
theorem lcL_filter {α : Type} {t : Tv} {c : List D → Option Bool} {e : Ev} {ρ : List D} (x : α → D) (p : α → Bool) (y : α → D) : ∀ l : List α, (∀ a ∈ l, ∃ ρ1, t (x a) ρ = some ρ1 ∧ c ρ1 = some (p a) ∧ (p a = true → e ρ1 = some (y a))) → lcL t c e ρ (l.map x) = some ((l.filter p).map y)
  | [], _ => rfl
  | a :: r, h => by
    obtain ⟨ρ1, h1, h2, h3⟩ := h a List.mem_cons_self
    have ih := lcL_filter x p y r fun b hb => h b (List.mem_cons_of_mem _ hb)
    show lcL t c e ρ (x a :: r.map x) = _
    unfold lcL
    rw [h1]
    cases hp : p a with
    | true => simp [h2, hp, h3 hp, ih]
    | false => simp [h2, hp, ih]
/-- a loop whose turns go through -/
theorem forL_rel {α σ : Type} {t : Tv} {b : Sv} (x : α → D) (R : σ → List D → Prop) (step : σ → α → σ) : ∀ (l : List α) (s : σ) (ρ : List D), R s ρ →
    (∀ s a ρ, a ∈ l → R s ρ → ∃ ρ1 ρ2, t (x a) ρ = some ρ1 ∧ (b ρ1 = some (.nx ρ2) ∨ b ρ1 = some (.ct ρ2)) ∧ R (step s a) ρ2) → ∃ ρ', forL t b (l.map x) ρ = some (.nx ρ') ∧ R (l.foldl step s) ρ'
  | [], s, ρ, h, _ => ⟨ρ, rfl, h⟩
  | a :: r, s, ρ, h, k => by
    obtain ⟨ρ1, ρ2, h1, h2, h3⟩ := k s a ρ List.mem_cons_self h
    obtain ⟨ρ', h4, h5⟩ := forL_rel x R step r (step s a) ρ2 h3 fun s b ρ hb => k s b ρ (List.mem_cons_of_mem _ hb)
    refine ⟨ρ', ?_, h5⟩
    show forL t b (x a :: r.map x) ρ = _
    unfold forL
    rw [h1]
    dsimp only
    rcases h2 with h2 | h2 <;> rw [h2] <;> exact h4
/-- the same by places: the invariant speaks of how many items are done -/
theorem forL_inv {α : Type} {t : Tv} {b : Sv} (x : α → D) (l : List α) (R : Nat → List D → Prop) (ρ : List D) (h0 : R 0 ρ)
    (k : ∀ (i : Nat) (a : α) (ρ : List D), l[i]? = some a → R i ρ → ∃ ρ1 ρ2, t (x a) ρ = some ρ1 ∧ (b ρ1 = some (.nx ρ2) ∨ b ρ1 = some (.ct ρ2)) ∧ R (i + 1) ρ2) : ∃ ρ', forL t b (l.map x) ρ = some (.nx ρ') ∧ R l.length ρ' := by
  have gen : ∀ (m : Nat) (i : Nat) (ρ : List D), m = l.length - i → i ≤ l.length → R i ρ → ∃ ρ', forL t b ((l.drop i).map x) ρ = some (.nx ρ') ∧ R l.length ρ' := by
    intro m
    induction m with
    | zero =>
      intro i ρ hm hi h
      have : i = l.length := by omega
      subst this
      exact ⟨ρ, by simp [forL], h⟩
    | succ m ih =>
      intro i ρ hm hi h
      have hlt : i < l.length := by omega
      obtain ⟨ρ1, ρ2, h1, h2, h3⟩ := k i l[i] ρ (List.getElem?_eq_getElem hlt) h
      obtain ⟨ρ', h4, h5⟩ := ih (i + 1) ρ2 (by omega) hlt h3
      refine ⟨ρ', ?_, h5⟩
      rw [List.drop_eq_getElem_cons hlt]
      show forL t b (x l[i] :: (l.drop (i + 1)).map x) ρ = _
      unfold forL
      rw [h1]
      dsimp only
      rcases h2 with h2 | h2 <;> rw [h2] <;> exact h4
  have := gen l.length 0 ρ (by simp) (Nat.zero_le _) h0
  simpa using this
end VV

/-! ## VSimp2 -/
namespace VV
open PySem PySem.Spec PyProof.Rows L2
/-! ### the trees of dicts, evaluated -/
section
variable {i n : Nat} {ρ : List D} {d : D} {e e1 e2 : Ev} {tk : Bool} {ks : List Ky} {l : List D} {t : Tv} {b : Sv}
@[simp] theorem sPut_s {f : D → D → D → Option D} : sPut f i e1 e2 ρ = (e2 ρ).ob fun v => (e1 ρ).ob fun x => (ρ[i]?).ob fun d => (f d x v).ob fun z => some (.nx (ρ.set i z)) := of_rfl rfl
@[simp] theorem kyF_int {k : Int} : (D.int k).ky false = some (.k (.inl k)) := of_rfl rfl
@[simp] theorem dGet_s {x : D} : dGet [.dic tk ks l, x] = (x.ky tk).ob (lkD ks l) := of_rfl rfl
@[simp] theorem dGet2_s {x z : D} : dGet2 [.dic tk ks l, x, z] = (x.ky tk).map fun k => (lkD ks l k).getD z := of_rfl rfl
@[simp] theorem dIn_s {x : D} : dIn [x, .dic tk ks l] = (x.ky tk).map fun k => .bl (lkD ks l k).isSome := of_rfl rfl
theorem dPut_s {x v : D} {k : Ky} (h : x.ky tk = some k) (hl : ks.length < 1000000) : dPut (.dic tk ks l) x v = some (.dic tk (putKs ks k) (putDs ks l k v)) := by
  show (x.ky tk).bind (fun k => if ks.length < 1000000 then some (D.dic tk (putKs ks k) (putDs ks l k v)) else none) = _
  rw [h]
  exact if_pos hl
theorem sForK_s {ρ' : List D} (h : ρ[i]? = some (.dic tk ks l)) (hf : forL t b (ks.map Ky.d) ρ = some (.nx ρ')) : sForK i t b ρ = some (.nx ρ') := by
  unfold sForK
  rw [h]
  dsimp only
  rw [hf]
@[simp] theorem dKeysL_s : dKeysL [.dic false ks l] = some (.lst (ks.map Ky.d)) := of_rfl rfl
@[simp] theorem dDicC_s : dDicC [.dic false ks l] = some (.dic false ks l) := of_rfl rfl
@[simp] theorem eDisp_s {a : List D → Option (List D)} : eDisp a ρ = (a ρ).ob (dDispA [] []) := of_rfl rfl
theorem isi_s {T N : String} {r : Bool} (h : d.tyN = some N) (hk : kitB N T = some r) : dIsi T [d] = some (.bl r) := by
  unfold dIsi
  simp only [h, Option.bind_some, hk, Option.map_some]
theorem kit_dd : kitB "dict" "dict" = some true := by decide +kernel
theorem kit_ii : kitB "int" "int" = some true := by decide +kernel
theorem kit_ib : kitB "int" "bool" = some false := by decide +kernel
@[simp] theorem isi_dict : dIsi "dict" [.dic false ks l] = some (.bl true) := isi_s (N := "dict") rfl kit_dd
@[simp] theorem isi_int {k : Int} : dIsi "int" [.int k] = some (.bl true) := isi_s (N := "int") rfl kit_ii
@[simp] theorem isi_intb {k : Int} : dIsi "bool" [.int k] = some (.bl false) := isi_s (N := "int") rfl kit_ib
end
end VV

/-! ## VGo -/
/-! walking through trees: a statement goes to an out that keeps Q -/
namespace VV
open PySem PySem.Spec PyProof.Rows L2
theorem beq_dec {α : Type} [BEq α] [LawfulBEq α] [DecidableEq α] (a b : α) : (a == b) = decide (a = b) := by rw [Bool.eq_iff_iff]; simp
theorem pw {a b c : Int} (h : CPow a b) (e : a ^ b.toNat = c) : dPow [.int a, .int b] = some (.int c) := by rw [← e]; exact dPow_s h
theorem mul_e {a b c : Int} (h : CMulX a b) (e : a * b = c) : eP dMul (aCons (eC (.int a)) (aCons (eC (.int b)) aNil)) = eC (.int c) := by
  funext ρ
  rw [← e]
  exact dMul_s h
section
variable {X : Cx} {LL : List Nat} {Γ : List Kd} {e : Expr} {a b c : Int}
theorem ex_powc (h : EX X LL Γ e (eP dPow (aCons (eC (.int a)) (aCons (eC (.int b)) aNil))) .flat) (hc : CPow a b) (he : a ^ b.toNat = c) : EX X LL Γ e (eC (.int c)) .flat := by rw [← pow_e hc he]; exact h
theorem ex_mulc (h : EX X LL Γ e (eP dMul (aCons (eC (.int a)) (aCons (eC (.int b)) aNil))) .flat) (hc : CMulX a b) (he : a * b = c) : EX X LL Γ e (eC (.int c)) .flat := by rw [← mul_e hc he]; exact h
end
theorem idx_mod (l : List Int) (n x : Int) (hn : n = l.length) (h : 0 < l.length) : ∃ v ∈ l, dIdx [.lst (l.map D.int), .int (x % n)] = some (.int v) := by
  have h1 := Int.emod_nonneg x (b := n) (by omega)
  have h2 := Int.emod_lt_of_pos x (b := n) (by omega)
  have h3 : (x % n).toNat < l.length := by omega
  refine ⟨l[(x % n).toNat], List.getElem_mem h3, ?_⟩
  rw [dIdx_l, atI_of (k := (x % n).toNat) (by omega)]
  simp [h3]
theorem idx_at {l : List Int} {k : Int} {n : Nat} {v : Int} (hk : k = n) (h : l[n]? = some v) : dIdx [.lst (l.map D.int), .int k] = some (.int v) := by
  rw [dIdx_l, atI_of hk]
  simp [h]
def Go (s : Sv) (ρ : List D) (Q : Out → Prop) : Prop := ∃ o, s ρ = some o ∧ Q o
def Cont (b : Sv) (Q : Out → Prop) : Out → Prop
  | .nx ρ => Go b ρ Q
  | o => Q o
section
variable {i n : Nat} {ρ : List D} {d : D} {e e1 e2 : Ev} {s1 s2 a b : Sv} {c : List D → Option Bool} {t : Tv} {pk : List Kd} {ds : List D} {Q : Out → Prop}
theorem Go.mono {Q' : Out → Prop} (h : Go a ρ Q) (k : ∀ o, Q o → Q' o) : Go a ρ Q' := by
  obtain ⟨o, h1, h2⟩ := h
  exact ⟨o, h1, k o h2⟩
@[simp] theorem cont_nx : Cont b Q (.nx ρ) = Go b ρ Q := of_rfl rfl
@[simp] theorem cont_rt : Cont b Q (.rt d) = Q (.rt d) := of_rfl rfl
@[simp] theorem cont_ct : Cont b Q (.ct ρ) = Q (.ct ρ) := of_rfl rfl
@[simp] theorem go_seq : Go (sSeq a b) ρ Q = Go a ρ (Cont b Q) := by
  unfold Go
  rw [sSeq_s]
  cases h : a ρ with
  | none => simp [seqO]
  | some o =>
    cases o with
    | nx r => simp [seqO, Cont, Go]
    | _ => simp [seqO, Cont]
@[simp] theorem go_nil : Go sNil ρ Q = Q (.nx ρ) := by simp [Go]
@[simp] theorem go_pass : Go sPass ρ Q = Q (.nx ρ) := by simp [Go]
@[simp] theorem go_ct : Go sCont ρ Q = Q (.ct ρ) := by simp [Go]
@[simp] theorem go_retN : Go sRetN ρ Q = Q (.rt .non) := by simp [Go]
@[simp] theorem go_set : Go (sSet i e) ρ Q = ∃ d, e ρ = some d ∧ Q (.nx (ρ.set i d)) := by
  unfold Go
  rw [sSet_s]
  cases e ρ <;> simp
@[simp] theorem go_ret : Go (sRet e) ρ Q = ∃ d, e ρ = some d ∧ Q (.rt d) := by
  unfold Go
  rw [sRet_s]
  cases e ρ <;> simp
@[simp] theorem go_asg : Go (sAsg t e) ρ Q = ∃ d, e ρ = some d ∧ ∃ ρ', t d ρ = some ρ' ∧ Q (.nx ρ') := by
  unfold Go
  rw [sAsg_s]
  cases e ρ with
  | none => simp
  | some d => cases h : t d ρ <;> simp [h]
@[simp] theorem go_mut {f : D → D → Option D} : Go (sMut f i e) ρ Q = ∃ y, e ρ = some y ∧ ∃ x, ρ[i]? = some x ∧ ∃ z, f x y = some z ∧ Q (.nx (ρ.set i z)) := by
  unfold Go
  rw [sMut_s]
  cases e ρ with
  | none => simp
  | some y =>
    cases h : ρ[i]? with
    | none => simp
    | some x => cases h2 : f x y <;> simp [h2]
@[simp] theorem go_put {f : D → D → D → Option D} : Go (sPut f i e1 e2) ρ Q = ∃ v, e2 ρ = some v ∧ ∃ x, e1 ρ = some x ∧ ∃ d, ρ[i]? = some d ∧ ∃ z, f d x v = some z ∧ Q (.nx (ρ.set i z)) := by
  unfold Go
  rw [sPut_s]
  cases e2 ρ with
  | none => simp
  | some v =>
    cases e1 ρ with
    | none => simp
    | some x =>
      cases h : ρ[i]? with
      | none => simp
      | some d => cases h2 : f d x v <;> simp [h2]
theorem Go.set (h : e ρ = some d) (k : Go b (ρ.set i d) Q) : Go (sSeq (sSet i e) b) ρ Q := by
  rw [go_seq, go_set]; exact ⟨d, h, k⟩
theorem Go.set1 (h : e ρ = some d) (k : Q (.nx (ρ.set i d))) : Go (sSet i e) ρ Q := by
  rw [go_set]; exact ⟨d, h, k⟩
theorem Go.ret (h : e ρ = some d) (k : Q (.rt d)) : Go (sRet e) ρ Q := by
  rw [go_ret]; exact ⟨d, h, k⟩
theorem Go.asg {ρ' : List D} (h : e ρ = some d) (h2 : t d ρ = some ρ') (k : Go b ρ' Q) : Go (sSeq (sAsg t e) b) ρ Q := by
  rw [go_seq, go_asg]; exact ⟨d, h, ρ', h2, k⟩
theorem Go.mut {f : D → D → Option D} {x y z : D} (h : e ρ = some y) (h1 : ρ[i]? = some x) (h2 : f x y = some z) (k : Go b (ρ.set i z) Q) : Go (sSeq (sMut f i e) b) ρ Q := by
  rw [go_seq, go_mut]; exact ⟨y, h, x, h1, z, h2, k⟩
theorem Go.mut1 {f : D → D → Option D} {x y z : D} (h : e ρ = some y) (h1 : ρ[i]? = some x) (h2 : f x y = some z) (k : Q (.nx (ρ.set i z))) : Go (sMut f i e) ρ Q := by
  rw [go_mut]; exact ⟨y, h, x, h1, z, h2, k⟩
theorem Go.put {f : D → D → D → Option D} {x y v z : D} (h : e2 ρ = some v) (h0 : e1 ρ = some x) (h1 : ρ[i]? = some y) (h2 : f y x v = some z) (k : Go b (ρ.set i z) Q) : Go (sSeq (sPut f i e1 e2) b) ρ Q := by
  rw [go_seq, go_put]; exact ⟨v, h, x, h0, y, h1, z, h2, k⟩
theorem Go.put1 {f : D → D → D → Option D} {x y v z : D} (h : e2 ρ = some v) (h0 : e1 ρ = some x) (h1 : ρ[i]? = some y) (h2 : f y x v = some z) (k : Q (.nx (ρ.set i z))) : Go (sPut f i e1 e2) ρ Q := by
  rw [go_put]; exact ⟨v, h, x, h0, y, h1, z, h2, k⟩
theorem go_if : Go (sIf c a b) ρ Q = ∃ t, c ρ = some t ∧ Go (if t then a else b) ρ Q := by
  unfold Go
  rw [sIf_s]
  cases c ρ with
  | none => simp
  | some t => cases t <;> simp
theorem go_t (h : c ρ = some true) : Go (sIf c a b) ρ Q = Go a ρ Q := by rw [go_if, h]; simp
theorem go_f (h : c ρ = some false) : Go (sIf c a b) ρ Q = Go b ρ Q := by rw [go_if, h]; simp
/-- if p: a, else b, where the test tells whether p -/
theorem go_ite {p : Prop} [Decidable p] (h : c ρ = some (decide p)) (h1 : p → Go a ρ Q) (h2 : ¬ p → Go b ρ Q) : Go (sIf c a b) ρ Q := by
  by_cases hp : p
  · rw [go_t (by rw [h]; simp [hp])]; exact h1 hp
  · rw [go_f (by rw [h]; simp [hp])]; exact h2 hp
/-- a test that does not hold, with nothing else to do -/
theorem Go.no (h : c ρ = some false) (k : Go b ρ Q) : Go (sSeq (sIf c a sNil) b) ρ Q := by rw [go_seq, go_f h, go_nil]; exact k
theorem Go.ite {p : Prop} [Decidable p] (h : c ρ = some (decide p)) (h1 : p → Go a ρ (Cont s2 Q)) (h2 : ¬ p → Go b ρ (Cont s2 Q)) : Go (sSeq (sIf c a b) s2) ρ Q := by
  rw [go_seq]; exact go_ite h h1 h2
theorem fn_go {r : Res} {m : Sv} (hp : pkOk pk ds = true) (h : Go m (ds ++ List.replicate (n - ds.length) .non) (fun o => outR (some o) = some r)) : fnSem n pk m ds = some r := by
  rw [fn_s hp]
  obtain ⟨o, h1, h2⟩ := h
  rw [h1]; exact h2
theorem fn_ex {P : D → Prop} {m : Sv} (hp : pkOk pk ds = true) (h : Go m (ds ++ List.replicate (n - ds.length) .non) (fun o => ∃ d, o = .rt d ∧ P d)) : ∃ d, fnSem n pk m ds = some (.ret d) ∧ P d := by
  obtain ⟨o, h1, d, rfl, h2⟩ := h
  exact ⟨d, by rw [fn_s hp, h1]; rfl, h2⟩
/-- one turn of a loop -/
def Turn (t : Tv) (b : Sv) (R : List D → Prop) (d : D) (ρ : List D) : Prop := ∃ ρ1, t d ρ = some ρ1 ∧ Go b ρ1 fun o => ∃ ρ2, (o = .nx ρ2 ∨ o = .ct ρ2) ∧ R ρ2
theorem for_turns {α : Type} (x : α → D) (l : List α) (R : Nat → List D → Prop) (h0 : R 0 ρ) (k : ∀ i a ρ, l[i]? = some a → R i ρ → Turn t b (R (i + 1)) (x a) ρ) : ∃ ρ', forL t b (l.map x) ρ = some (.nx ρ') ∧ R l.length ρ' :=
  forL_inv x l R ρ h0 fun i a ρ hi h => by
    obtain ⟨ρ1, h1, o, h2, ρ2, h3, h4⟩ := k i a ρ hi h
    refine ⟨ρ1, ρ2, h1, ?_, h4⟩
    rcases h3 with rfl | rfl
    · exact .inl h2
    · exact .inr h2
theorem go_for {α : Type} {it : List D → Option (List D)} (x : α → D) (l : List α) (R : Nat → List D → Prop) (hit : it ρ = some (l.map x)) (h0 : R 0 ρ) (k : ∀ i a ρ, l[i]? = some a → R i ρ → Turn t b (R (i + 1)) (x a) ρ)
    (fin : ∀ ρ', R l.length ρ' → Q (.nx ρ')) : Go (sFor it t b) ρ Q := by
  obtain ⟨ρ', h1, h2⟩ := for_turns x l R h0 k
  refine ⟨_, ?_, fin ρ' h2⟩
  rw [sFor_s, hit]
  exact h1
theorem go_forK {α : Type} {tk : Bool} {ks : List Ky} {vs : List D} (x : α → D) (l : List α) (R : Nat → List D → Prop) (hd : ρ[i]? = some (.dic tk ks vs)) (hk : ks.map Ky.d = l.map x) (h0 : R 0 ρ) (k : ∀ i a ρ, l[i]? = some a → R i ρ → Turn t b (R (i + 1)) (x a) ρ)
    (fin : ∀ ρ', R l.length ρ' → Q (.nx ρ')) : Go (sForK i t b) ρ Q := by
  obtain ⟨ρ', h1, h2⟩ := for_turns x l R h0 k
  exact ⟨_, sForK_s hd (by rw [hk]; exact h1), fin ρ' h2⟩
end
end VV

/-! ## VTab -/
namespace VP
open PySem PySem.Spec PyProof.Rows L2 VV
def m_nought : Sv :=
  (sRet (eTup (aCons (eVar 0) (aCons (eVar 1) (aCons (eLc (iRng (aCons (eVar 0) aNil)) (gN 2) cYes (eP dRep (aCons (eLst (aCons (eC (.int 0)) aNil)) (aCons (eVar 1) aNil)))) aNil)))))
def f_nought : List D → Option Res := fnSem 3 [.flat, .flat] m_nought
def m_unit : Sv :=
  (sRet (eTup (aCons (eVar 0) (aCons (eVar 0) (aCons (eLc (iRng (aCons (eVar 0) aNil)) (gN 1) cYes (eLc (iRng (aCons (eVar 0) aNil)) (gN 2) cYes (eP dIntC (aCons (eP dEq (aCons (eVar 1) (aCons (eVar 2) aNil))) aNil)))) aNil)))))
def f_unit : List D → Option Res := fnSem 3 [.flat] m_unit
def m_turned : Sv :=
  (sSeq (sAsg (gT (gsCons (gF (gN 1)) (gsCons (gF (gN 2)) (gsCons (gN 3) gsNil)))) (eVar 0))
  (sRet (eTup (aCons (eVar 2) (aCons (eVar 1) (aCons (eLc (iRng (aCons (eVar 2) aNil)) (gN 4) cYes (eLc (iRng (aCons (eVar 1) aNil)) (gN 5) cYes (eChk D.isFlat (eP dIdx (aCons (eP dIdx (aCons (eVar 3) (aCons (eVar 5) aNil))) (aCons (eVar 4) aNil)))))) aNil))))))
def f_turned : List D → Option Res := fnSem 6 [.lab none [0] false] m_turned
def m_plus : Sv :=
  (sSeq (sIf (tOf (eP dNe (aCons (eChk D.isFlat (eSl (eChk D.isTup (eVar 0)) oNone (oSome (eC (.int 2))))) (aCons (eChk D.isFlat (eSl (eChk D.isTup (eVar 1)) oNone (oSome (eC (.int 2))))) aNil))))
  sNever
  sNil)
  (sRet (eTup (aCons (eChk D.isFlat (eP dIdx (aCons (eVar 0) (aCons (eC (.int 0)) aNil)))) (aCons (eChk D.isFlat (eP dIdx (aCons (eVar 0) (aCons (eC (.int 1)) aNil)))) (aCons (eLc (iZipL (aCons (eP dIdx (aCons (eVar 0) (aCons (eC (.int 2)) aNil))) (aCons (eP dIdx (aCons (eVar 1) (aCons (eC (.int 2)) aNil))) aNil))) (gT (gsCons (gN 2) (gsCons (gN 3) gsNil))) cYes (eLc (iZipL (aCons (eVar 2) (aCons (eVar 3) aNil))) (gT (gsCons (gF (gN 4)) (gsCons (gF (gN 5)) gsNil))) cYes (eP dAdd (aCons (eVar 4) (aCons (eVar 5) aNil))))) aNil))))))
def f_plus : List D → Option Res := fnSem 6 [.lab none [0] false, .lab none [0] false] m_plus
def m_many_times : Sv :=
  (sRet (eTup (aCons (eChk D.isFlat (eP dIdx (aCons (eVar 1) (aCons (eC (.int 0)) aNil)))) (aCons (eChk D.isFlat (eP dIdx (aCons (eVar 1) (aCons (eC (.int 1)) aNil)))) (aCons (eLc (iLst (eP dIdx (aCons (eVar 1) (aCons (eC (.int 2)) aNil)))) (gN 2) cYes (eLc (iLst (eVar 2)) (gF (gN 3)) cYes (eP dMul (aCons (eVar 0) (aCons (eVar 3) aNil))))) aNil)))))
def f_many_times : List D → Option Res := fnSem 4 [.flat, .lab none [0] false] m_many_times
def m_product : Sv :=
  (sSeq (sIf (tOf (eP dNe (aCons (eChk D.isFlat (eP dIdx (aCons (eVar 0) (aCons (eC (.int 1)) aNil)))) (aCons (eChk D.isFlat (eP dIdx (aCons (eVar 1) (aCons (eC (.int 0)) aNil)))) aNil))))
  sNever
  sNil)
  (sSeq (sSet 2 (eLst aNil))
  (sSeq (sFor (iLst (eP dIdx (aCons (eVar 0) (aCons (eC (.int 2)) aNil)))) (gN 3)
  (sSeq (sSet 4 (eP dRep (aCons (eLst (aCons (eC (.int 0)) aNil)) (aCons (eChk D.isFlat (eP dIdx (aCons (eVar 1) (aCons (eC (.int 1)) aNil)))) aNil))))
  (sSeq (sFor (iZipL (aCons (eVar 3) (aCons (eP dIdx (aCons (eVar 1) (aCons (eC (.int 2)) aNil))) aNil))) (gT (gsCons (gF (gN 5)) (gsCons (gN 6) gsNil)))
  (sIf (tOf (eP dNe (aCons (eVar 5) (aCons (eC (.int 0)) aNil))))
  (sSet 4 (eLc (iZipL (aCons (eVar 4) (aCons (eVar 6) aNil))) (gT (gsCons (gF (gN 7)) (gsCons (gF (gN 8)) gsNil))) cYes (eP dAdd (aCons (eVar 7) (aCons (eP dMul (aCons (eVar 5) (aCons (eVar 8) aNil))) aNil)))))
  sNil))
  (sMut dPush 2 (eVar 4)))))
  (sRet (eTup (aCons (eChk D.isFlat (eP dIdx (aCons (eVar 0) (aCons (eC (.int 0)) aNil)))) (aCons (eChk D.isFlat (eP dIdx (aCons (eVar 1) (aCons (eC (.int 1)) aNil)))) (aCons (eVar 2) aNil))))))))
def f_product : List D → Option Res := fnSem 9 [.lab none [0] false, .lab none [0] false] m_product
def m__law_cell_at : Sv :=
  (sSeq (sIf (tOf (eP dLt (aCons (eVar 1) (aCons (eP dLen (aCons (eVar 0) aNil)) aNil))))
  (sRet (eP dIdx (aCons (eVar 0) (aCons (eVar 1) aNil))))
  sNil)
  (sRet (eC (.int 0))))
def f__law_cell_at : List D → Option Res := fnSem 2 [.flat, .flat] m__law_cell_at
def m__law_row : Sv :=
  (sSeq (sSet 3 (eP dDiv (aCons (eVar 0) (aCons (eC (.int 2)) aNil))))
  (sSeq (sSet 4 (eLst aNil))
  (sSeq (sSet 5 (eVar 3))
  (sSeq (sFor (iRng (aCons (eVar 1) aNil)) (gN 6)
  (sSet 5 (eP dDiv (aCons (eVar 5) (aCons (eVar 2) aNil)))))
  (sSeq (sFor (iRng (aCons (eVar 1) aNil)) (gN 6)
  (sIf (tOf (eP dGt (aCons (eVar 5) (aCons (eC (.int 0)) aNil))))
  (sSeq (sMut dPush 4 (eP dMod (aCons (eVar 3) (aCons (eVar 2) aNil))))
  (sSet 3 (eP dDiv (aCons (eVar 3) (aCons (eVar 2) aNil)))))
  (sSeq (sSet 7 (eP dMod (aCons (eP dMul (aCons (eP dAdd (aCons (eP dAdd (aCons (eP dAdd (aCons (eP dMod (aCons (eVar 3) (aCons (eC (.int 2147483629)) aNil))) (aCons (eP dMul (aCons (eC (.int 7919)) (aCons (eVar 6) aNil))) aNil))) (aCons (eP dMul (aCons (eVar 6) (aCons (eVar 6) aNil))) aNil))) (aCons (eC (.int 1)) aNil))) (aCons (eC (.int 48271)) aNil))) (aCons (eC (.int 2147483647)) aNil))))
  (sSeq (sSet 8 (eP dMod (aCons (eP dMul (aCons (eP dAdd (aCons (eVar 7) (aCons (eP dMul (aCons (eC (.int 31)) (aCons (eVar 6) aNil))) aNil))) (aCons (eC (.int 69621)) aNil))) (aCons (eC (.int 998244353)) aNil))))
  (sMut dPush 4 (eP dMod (aCons (eP dAdd (aCons (eP dMul (aCons (eVar 7) (aCons (eVar 8) aNil))) (aCons (eP dDiv (aCons (eVar 7) (aCons (eC (.int 7)) aNil))) aNil))) (aCons (eVar 2) aNil))))))))
  (sRet (eVar 4)))))))
def f__law_row : List D → Option Res := fnSem 9 [.flat, .flat, .flat] m__law_row
def m__law_entry : Sv :=
  (sSeq (sIf (tOf (eP dLt (aCons (eP dMod (aCons (eVar 0) (aCons (eC (.int 8)) aNil))) (aCons (eC (.int 3)) aNil))))
  (sRet (eC (.int 0)))
  sNil)
  (sSeq (sIf (tOf (eP dLt (aCons (eP dMod (aCons (eVar 0) (aCons (eC (.int 8)) aNil))) (aCons (eC (.int 7)) aNil))))
  (sRet (eP dSub (aCons (eP dMod (aCons (eP dDiv (aCons (eVar 0) (aCons (eC (.int 8)) aNil))) (aCons (eC (.int 21)) aNil))) (aCons (eC (.int 10)) aNil))))
  sNil)
  (sRet (eP dAdd (aCons (eP dMul (aCons (eP dSub (aCons (eP dDiv (aCons (eVar 0) (aCons (eC (.int 8)) aNil))) (aCons (eC (.int 256)) aNil))) (aCons (eC (.int 1000000000)) aNil))) (aCons (eP dDiv (aCons (eVar 0) (aCons (eC (.int 8)) aNil))) aNil))))))
def f__law_entry : List D → Option Res := fnSem 1 [.flat] m__law_entry
def m__law_table : Sv :=
  (sSeq (sSet 3 (eChk D.kidsFlat (eCall f__law_row (aCons (eVar 0) (aCons (eP dMul (aCons (eVar 1) (aCons (eVar 2) aNil))) (aCons (eC (.int 4096)) aNil))))))
  (sRet (eTup (aCons (eVar 1) (aCons (eVar 2) (aCons (eLc (iRng (aCons (eVar 1) aNil)) (gN 4) cYes (eLc (iRng (aCons (eVar 2) aNil)) (gN 5) cYes (eCall f__law_entry (aCons (eChk D.isFlat (eP dIdx (aCons (eVar 3) (aCons (eP dAdd (aCons (eP dMul (aCons (eVar 4) (aCons (eVar 2) aNil))) (aCons (eVar 5) aNil))) aNil)))) aNil)))) aNil))))))
def f__law_table : List D → Option Res := fnSem 6 [.flat, .flat, .flat] m__law_table

/-! ### numbers, sums -/
def Bn (n : Nat) (x : Int) : Prop := x.natAbs < 2 ^ n
theorem Bn.mono {n m : Nat} {x : Int} (h : Bn n x) (hm : n ≤ m) : Bn m x := Nat.lt_of_lt_of_le h (Nat.pow_le_pow_right (by decide) hm)
theorem Bn.zero {n : Nat} : Bn n 0 := Nat.two_pow_pos n
theorem Bn.add {n : Nat} {x y : Int} (h : Bn n x) (h' : Bn n y) : Bn (n + 1) (x + y) := by
  unfold Bn at *
  rw [Nat.pow_succ]
  omega
theorem Bn.neg {n : Nat} {x : Int} (h : Bn n x) : Bn n (-x) := by unfold Bn at *; omega
theorem Bn.mul {n m : Nat} {x y : Int} (h : Bn n x) (h' : Bn m y) : Bn (n + m) (x * y) := by
  unfold Bn at *
  rw [Int.natAbs_mul, Nat.pow_add]
  exact Nat.mul_lt_mul'' h h'
theorem Bn.cmul {n m : Nat} {x y : Int} (h : Bn n x) (h' : Bn m y) (hs : n + m ≤ 134217728) : CMulX x y := mulx_ok h h' hs
def S : Nat → (Nat → Int) → Int
  | 0, _ => 0
  | n + 1, u => S n u + u n
theorem S_congr {u v : Nat → Int} : ∀ {n : Nat}, (∀ k, k < n → u k = v k) → S n u = S n v
  | 0, _ => rfl
  | n + 1, h => by
    unfold S
    rw [S_congr fun k hk => h k (Nat.lt_succ_of_lt hk), h n (Nat.lt_succ_self n)]
theorem S_add {u v : Nat → Int} : ∀ {n : Nat}, S n (fun k => u k + v k) = S n u + S n v
  | 0 => rfl
  | n + 1 => by
    show S n (fun k => u k + v k) + (u n + v n) = (S n u + u n) + (S n v + v n)
    rw [S_add]
    omega
theorem S_mulL {c : Int} {u : Nat → Int} : ∀ {n : Nat}, S n (fun k => c * u k) = c * S n u
  | 0 => by simp [S]
  | n + 1 => by
    unfold S
    rw [S_mulL, Int.mul_add]
theorem S_mulR {c : Int} {u : Nat → Int} : ∀ {n : Nat}, S n (fun k => u k * c) = S n u * c
  | 0 => by simp [S]
  | n + 1 => by
    unfold S
    rw [S_mulR, Int.add_mul]
theorem S_zero : ∀ {n : Nat}, S n (fun _ => 0) = 0
  | 0 => rfl
  | n + 1 => by unfold S; rw [S_zero]; rfl
theorem S_comm {m : Nat} {u : Nat → Nat → Int} : ∀ {n : Nat}, S n (fun i => S m (fun j => u i j)) = S m (fun j => S n (fun i => u i j))
  | 0 => by simp [S, S_zero]
  | n + 1 => by
    show S n (fun i => S m (fun j => u i j)) + S m (fun j => u n j) = S m (fun j => S n (fun i => u i j) + u n j)
    rw [S_comm, S_add]
theorem S_delta {c : Nat → Int} {a : Nat} : ∀ {n : Nat}, S n (fun k => (if a = k then 1 else 0) * c k) = if a < n then c a else 0
  | 0 => by simp [S]
  | n + 1 => by
    show S n (fun k => (if a = k then 1 else 0) * c k) + (if a = n then 1 else 0) * c n = _
    rw [S_delta]
    by_cases h : a = n
    · subst h; simp
    · by_cases h2 : a < n
      · rw [if_pos h2, if_neg h, if_pos (by omega)]; omega
      · rw [if_neg h2, if_neg h, if_neg (by omega)]; omega
theorem S_deltaR {c : Nat → Int} {a n : Nat} : S n (fun k => c k * (if k = a then 1 else 0)) = if a < n then c a else 0 := by
  rw [← S_delta]
  apply S_congr
  intro k _
  by_cases h : a = k
  · subst h; simp
  · simp [h, Ne.symm h]
theorem S_bn {u : Nat → Int} {b : Nat} : ∀ {n c : Nat}, n ≤ 2 ^ c → (∀ k, k < n → Bn b (u k)) → Bn (b + c) (S n u) := by
  have key : ∀ n : Nat, (∀ k, k < n → Bn b (u k)) → (S n u).natAbs ≤ n * (2 ^ b - 1) := by
    intro n
    induction n with
    | zero => intro _; simp [S]
    | succ n ih =>
      intro h
      have h1 := ih fun k hk => h k (Nat.lt_succ_of_lt hk)
      have h2 : (u n).natAbs < 2 ^ b := h n (Nat.lt_succ_self n)
      unfold S
      rw [Nat.succ_mul]
      omega
  intro n c hn h
  have h1 := key n h
  have h2 : n * (2 ^ b - 1) ≤ 2 ^ c * (2 ^ b - 1) := Nat.mul_le_mul_right _ hn
  have h3 : 2 ^ c * (2 ^ b - 1) < 2 ^ b * 2 ^ c := by
    rw [Nat.mul_comm (2 ^ b)]
    exact Nat.mul_lt_mul_of_pos_left (by have := Nat.two_pow_pos b; omega) (Nat.two_pow_pos c)
  unfold Bn
  rw [Nat.pow_add]
  omega

/-! ### tables as trees -/
def rowD (w : Nat) (r : Nat → Int) : D := .lst ((List.range w).map fun j => .int (r j))
def encT (h w : Nat) (f : Nat → Nat → Int) : D := .tup [.int h, .int w, .lst ((List.range h).map fun i => rowD w (f i))]
theorem rowD_congr {w : Nat} {r s : Nat → Int} (h : ∀ j, j < w → r j = s j) : rowD w r = rowD w s := by
  unfold rowD
  congr 1
  apply List.map_congr_left
  intro j hj
  rw [h j (List.mem_range.mp hj)]
theorem encT_congr {h w : Nat} {f g : Nat → Nat → Int} (e : ∀ i j, i < h → j < w → f i j = g i j) : encT h w f = encT h w g := by
  unfold encT
  have : ((List.range h).map fun i => rowD w (f i)) = (List.range h).map fun i => rowD w (g i) := by
    apply List.map_congr_left
    intro i hi
    exact rowD_congr fun j hj => e i j (List.mem_range.mp hi) hj
  rw [this]
theorem toPL_map {α : Type} (x : α → D) : ∀ l : List α, D.toPL (l.map x) = l.map fun a => (x a).toP
  | [] => by simp [D.toPL]
  | a :: r => by simp [D.toPL, toPL_map x r]
theorem canLayAll_map {α : Type} (x : α → PyData) : ∀ l : List α, (∀ a ∈ l, (x a).canLay0 = true) → PyData.canLayAll0 (l.map x) = true
  | [], _ => by simp [PyData.canLayAll0]
  | a :: r, h => by
    simp only [List.map_cons, PyData.canLayAll0, Bool.and_eq_true]
    exact ⟨h a List.mem_cons_self, canLayAll_map x r fun b hb => h b (List.mem_cons_of_mem _ hb)⟩
theorem depthAll_map {α : Type} (x : α → PyData) (n : Nat) : ∀ l : List α, (∀ a ∈ l, (x a).depth ≤ n) → PyData.depthAll (l.map x) ≤ n
  | [], _ => by simp [PyData.depthAll]
  | a :: r, h => by
    simp only [List.map_cons, PyData.depthAll]
    exact Nat.max_le.mpr ⟨h a List.mem_cons_self, depthAll_map x n r fun b hb => h b (List.mem_cons_of_mem _ hb)⟩
/-- a tree that the look at == takes -/
def Ok (n : Nat) (d : D) : Prop := d.toP.canLay0 = true ∧ d.toP.depth ≤ n
theorem Ok.shd {n : Nat} {d : D} (h : Ok n d) (hn : n ≤ 64) : d.shd = true := by
  unfold D.shd SeqAt.shaped
  rw [Bool.and_eq_true]
  exact ⟨h.1, decide_eq_true (Nat.le_trans h.2 hn)⟩
theorem Ok.int {k : Int} : Ok 0 (.int k) := ⟨by simp [D.toP, PyData.canLay0], by simp [D.toP, PyData.depth]⟩
theorem Ok.bl {k : Bool} : Ok 0 (.bl k) := ⟨by simp [D.toP, PyData.canLay0], by simp [D.toP, PyData.depth]⟩
theorem Ok.non : Ok 0 .non := ⟨by simp [D.toP, PyData.canLay0], by simp [D.toP, PyData.depth]⟩
theorem Ok.mono {n m : Nat} {d : D} (h : Ok n d) (hm : n ≤ m) : Ok m d := ⟨h.1, Nat.le_trans h.2 hm⟩
theorem Ok.lst {α : Type} {n : Nat} {x : α → D} {l : List α} (h : ∀ a ∈ l, Ok n (x a)) : Ok (n + 1) (.lst (l.map x)) := by
  refine ⟨?_, ?_⟩
  · simp only [D.toP, PyData.canLay0, toPL_map]
    exact canLayAll_map _ l fun a ha => (h a ha).1
  · simp only [D.toP, PyData.depth, toPL_map]
    exact Nat.succ_le_succ (depthAll_map _ n l fun a ha => (h a ha).2)
theorem Ok.tup {n : Nat} {l : List D} (h : ∀ a ∈ l, Ok n a) : Ok (n + 1) (.tup l) := by
  refine ⟨?_, ?_⟩
  · simp only [D.toP, PyData.canLay0]
    rw [← List.map_id l, toPL_map]
    exact canLayAll_map _ l fun a ha => (h a ha).1
  · simp only [D.toP, PyData.depth]
    rw [← List.map_id l, toPL_map]
    exact Nat.succ_le_succ (depthAll_map _ n l fun a ha => (h a ha).2)
theorem Ok.lst' {n : Nat} {l : List D} (h : ∀ a ∈ l, Ok n a) : Ok (n + 1) (.lst l) := by
  rw [← List.map_id l]
  exact Ok.lst h
theorem ok_encT {h w : Nat} {f : Nat → Nat → Int} : Ok 3 (encT h w f) := by
  refine Ok.tup fun a ha => ?_
  simp only [List.mem_cons, List.not_mem_nil, or_false] at ha
  rcases ha with rfl | rfl | rfl
  · exact Ok.int.mono (by decide)
  · exact Ok.int.mono (by decide)
  · exact Ok.lst fun i _ => Ok.lst fun j _ => Ok.int
theorem eqv_rfl {d : D} (h : d.toP.canLay0 = true) : d.eqv d = true := SeqAt.eqv_refl _ h
theorem dNe_same {n : Nat} {d : D} (h : Ok n d) (hn : n ≤ 64) : dNe [d, d] = some (.bl false) := by
  unfold dNe
  dsimp only
  rw [h.shd hn, eqv_rfl h.1]
  rfl
theorem dEq_same {n : Nat} {d : D} (h : Ok n d) (hn : n ≤ 64) : dEq [d, d] = some (.bl true) := by
  unfold dEq
  dsimp only
  rw [h.shd hn, eqv_rfl h.1]
  rfl
@[simp] theorem dEq_int {a b : Int} : dEq [.int a, .int b] = some (.bl (a == b)) := by
  unfold dEq
  dsimp only
  rw [Ok.int.shd (by decide), Ok.int.shd (by decide)]
  simp [D.eqv, D.toP, PyData.eqv]
@[simp] theorem dNe_int {a b : Int} : dNe [.int a, .int b] = some (.bl (a != b)) := by
  unfold dNe
  dsimp only
  rw [Ok.int.shd (by decide), Ok.int.shd (by decide)]
  simp [D.eqv, D.toP, PyData.eqv, bne]

/-! ### the shared functions -/
theorem cell_ok (ns : List Int) (k : Nat) : f__law_cell_at [.scr (ns.map D.int), .int k] = some (.ret (.int (ns.getD k 0))) := by
  unfold f__law_cell_at
  rw [fn_s (by simp)]
  simp only [m__law_cell_at]
  by_cases h : k < ns.length
  · simp [sIf_s, h, atI_n]
  · simp [sIf_s, h]
theorem nought_ok (h w : Nat) (hh : h ≤ 1000000) (hw : w ≤ 1000000) : f_nought [.int h, .int w] = some (.ret (encT h w fun _ _ => 0)) := by
  unfold f_nought
  rw [fn_s (by simp)]
  simp only [m_nought]
  simp only [sRet_s, eTup_s, aCons_s, eVar_s, eLc_s]
  rw [iRng1_s (k := h) (by simp) (by omega) (by omega), rng0]
  have row : rowD w (fun _ => 0) = .lst (List.replicate w [D.int 0]).flatten := by
    unfold rowD
    rw [List.map_const', List.length_range]
    congr 1
    induction w with
    | zero => rfl
    | succ w ih => rw [List.replicate_succ, List.replicate_succ, List.flatten_cons, ih (by omega)]; rfl
  have e := lcL_map (t := gN 2) (c := cYes) (e := eP dRep (aCons (eLst (aCons (eC (.int 0)) aNil)) (aCons (eVar 1) aNil))) (ρ := [.int h, .int w] ++ List.replicate (3 - [D.int h, D.int w].length) .non) (fun i : Nat => D.int i) (fun _ => rowD w fun _ => 0) (List.range h) fun a ha => by
    refine ⟨_, rfl, rfl, ?_⟩
    simp only [eP_s, aCons_s, eLst_s, eC_s, aNil_s, eVar_s, ob_some]
    simp only [List.length_cons, List.length_nil, List.cons_append, List.nil_append, List.set_cons_succ, List.getElem?_cons_succ, List.getElem?_cons_zero, ob_some]
    unfold dRep
    dsimp only
    rw [if_pos ⟨by simp, by omega, by omega, by simp; omega⟩, row, Int.toNat_natCast]
  simp only [Int.toNat_natCast] at e ⊢
  rw [ob_some, e]
  simp [encT]
end VP

/-! ## VTab2 -/
namespace VP
open PySem PySem.Spec PyProof.Rows L2 VV
theorem cm {x y : Int} (hx : x.natAbs < 2 ^ 63) (hy : y.natAbs < 2 ^ 63) : CMulX x y := Bn.cmul (n := 63) (m := 63) hx hy (by decide)
theorem cdv {x : Int} {n : Int} (h : 0 < n) (h2 : n.natAbs < 2 ^ 60) : CDivW x n := ⟨h, by
  have : n.natAbs.log2 < 60 := (Nat.log2_lt (by omega)).mpr h2
  omega⟩
theorem row_ok (cell : Int) (many base : Nat) (hm : many ≤ 1000000) (hb : 0 < base) (hb2 : base < 2 ^ 60) :
    ∃ r : List Int, f__law_row [.int cell, .int many, .int base] = some (.ret (.lst (r.map D.int))) ∧ r.length = many ∧ ∀ x ∈ r, 0 ≤ x ∧ x < base := by
  unfold f__law_row
  rw [fn_s (by simp)]
  have e0 : [D.int cell, .int many, .int base] ++ List.replicate (9 - [D.int cell, .int many, .int base].length) .non = [.int cell, .int many, .int base, .non, .non, .non, .non, .non, .non] := rfl
  rw [e0]
  have hcb : ∀ y : Int, dDiv [.int y, .int base] = some (.int (y / base)) := fun y => dDiv_s (cdv (by omega) (by omega))
  obtain ⟨ρ1, l1, R1⟩ := forL_inv (t := gN 6) (b := sSet 5 (eP dDiv (aCons (eVar 5) (aCons (eVar 2) aNil)))) (fun i : Nat => D.int i) (List.range many)
    (fun _ ρ => ∃ (y : Int) (k : D), ρ = [.int cell, .int many, .int base, .int (cell / 2), .lst [], .int y, k, .non, .non])
    [.int cell, .int many, .int base, .int (cell / 2), .lst [], .int (cell / 2), .non, .non, .non] ⟨_, _, rfl⟩
    (fun i a ρ ha hR => by
      obtain ⟨y, k, rfl⟩ := hR
      refine ⟨_, _, rfl, Or.inl ?_, ⟨y / base, .int a, rfl⟩⟩
      simp [hcb])
  obtain ⟨y1, k1, rfl⟩ := R1
  obtain ⟨ρ2, l2, R2⟩ := forL_inv (t := gN 6) (b := (sIf (tOf (eP dGt (aCons (eVar 5) (aCons (eC (.int 0)) aNil))))
  (sSeq (sMut dPush 4 (eP dMod (aCons (eVar 3) (aCons (eVar 2) aNil))))
  (sSet 3 (eP dDiv (aCons (eVar 3) (aCons (eVar 2) aNil)))))
  (sSeq (sSet 7 (eP dMod (aCons (eP dMul (aCons (eP dAdd (aCons (eP dAdd (aCons (eP dAdd (aCons (eP dMod (aCons (eVar 3) (aCons (eC (.int 2147483629)) aNil))) (aCons (eP dMul (aCons (eC (.int 7919)) (aCons (eVar 6) aNil))) aNil))) (aCons (eP dMul (aCons (eVar 6) (aCons (eVar 6) aNil))) aNil))) (aCons (eC (.int 1)) aNil))) (aCons (eC (.int 48271)) aNil))) (aCons (eC (.int 2147483647)) aNil))))
  (sSeq (sSet 8 (eP dMod (aCons (eP dMul (aCons (eP dAdd (aCons (eVar 7) (aCons (eP dMul (aCons (eC (.int 31)) (aCons (eVar 6) aNil))) aNil))) (aCons (eC (.int 69621)) aNil))) (aCons (eC (.int 998244353)) aNil))))
  (sMut dPush 4 (eP dMod (aCons (eP dAdd (aCons (eP dMul (aCons (eVar 7) (aCons (eVar 8) aNil))) (aCons (eP dDiv (aCons (eVar 7) (aCons (eC (.int 7)) aNil))) aNil))) (aCons (eVar 2) aNil)))))))) (fun i : Nat => D.int i) (List.range many)
    (fun n ρ => ∃ (z y : Int) (k a b : D) (r : List Int), ρ = [.int cell, .int many, .int base, .int z, .lst (r.map D.int), .int y, k, a, b] ∧ r.length = n ∧ ∀ x ∈ r, 0 ≤ x ∧ x < base)
    [.int cell, .int many, .int base, .int (cell / 2), .lst [], .int y1, k1, .non, .non] ⟨_, _, _, _, _, [], rfl, rfl, fun _ h => nomatch h⟩
    (fun i a ρ ha hR => by
      obtain ⟨z, y, k, a1, b1, r, rfl, hl, hr⟩ := hR
      have hi : i < many := by
        have := (List.getElem?_eq_some_iff.mp ha).1
        simpa using this
      have hai : a = i := by
        have h2 := (List.getElem?_eq_some_iff.mp ha).2
        simpa using h2.symm
      subst hai
      have hlen : r.length < 1000000 := by omega
      have hpush : ∀ d : D, dPush (.lst (r.map D.int)) d = some (.lst (r.map D.int ++ [d])) := fun d => dPush_s (by simpa using hlen)
      have hmod : ∀ x : Int, 0 ≤ x % base ∧ x % base < base := fun x => ⟨Int.emod_nonneg _ (by omega), Int.emod_lt_of_pos _ (by omega)⟩
      have hmb : ∀ x : Int, dMod [.int x, .int base] = some (.int (x % base)) := fun x => dMod_s (by omega)
      by_cases hy : 0 < y
      · refine ⟨_, [.int cell, .int many, .int base, .int (z / base), .lst ((r ++ [z % base]).map D.int), .int y, .int a, a1, b1], rfl, Or.inl ?_, ⟨_, _, _, _, _, _, rfl, by simp [hl], ?_⟩⟩
        · simp [sIf_s, hy, hmb, hpush, hcb]
        · intro x hx
          rcases List.mem_append.mp hx with h | h
          · exact hr x h
          · rw [List.mem_singleton.mp h]; exact hmod _
      · have hii : ((a : Int) * a) ≤ 1000000000000 ∧ 0 ≤ (a : Int) * a := by
          have h1 : a * a ≤ 1000000 * 1000000 := Nat.mul_le_mul (by omega) (by omega)
          omega
        have hz := Int.emod_lt_of_pos z (b := 2147483629) (by decide)
        have hz0 := Int.emod_nonneg z (b := 2147483629) (by decide)
        have h1 : dMul [.int 7919, .int (a : Int)] = some (.int (7919 * a)) := dMul_s (cm (by decide) (by omega))
        have h2 : dMul [.int (a : Int), .int (a : Int)] = some (.int (a * a)) := dMul_s (cm (by omega) (by omega))
        obtain ⟨u, hu⟩ : ∃ u : Int, u = z % 2147483629 + 7919 * a + a * a + 1 := ⟨_, rfl⟩
        have h3 : dMul [.int u, .int 48271] = some (.int (u * 48271)) := dMul_s (cm (by omega) (by decide))
        obtain ⟨v, hv⟩ : ∃ v : Int, v = u * 48271 % 2147483647 := ⟨_, rfl⟩
        have hv1 := Int.emod_lt_of_pos (u * 48271) (b := 2147483647) (by decide)
        have hv0 := Int.emod_nonneg (u * 48271) (b := 2147483647) (by decide)
        have h4 : dMul [.int 31, .int (a : Int)] = some (.int (31 * a)) := dMul_s (cm (by decide) (by omega))
        have h5 : dMul [.int (v + 31 * a), .int 69621] = some (.int ((v + 31 * a) * 69621)) := dMul_s (cm (by omega) (by decide))
        obtain ⟨w, hw⟩ : ∃ w : Int, w = (v + 31 * a) * 69621 % 998244353 := ⟨_, rfl⟩
        have hw1 := Int.emod_lt_of_pos ((v + 31 * a) * 69621) (b := 998244353) (by decide)
        have hw0 := Int.emod_nonneg ((v + 31 * a) * 69621) (b := 998244353) (by decide)
        have h6 : dMul [.int v, .int w] = some (.int (v * w)) := dMul_s (cm (by omega) (by omega))
        have h7 : dDiv [.int v, .int 7] = some (.int (v / 7)) := dDiv_s (cdv (by decide) (by decide))
        refine ⟨_, [.int cell, .int many, .int base, .int z, .lst ((r ++ [(v * w + v / 7) % base]).map D.int), .int y, .int a, .int v, .int w], rfl, Or.inl ?_, ⟨_, _, _, _, _, _, rfl, by simp [hl], ?_⟩⟩
        · simp [sIf_s, hy, h1, h2, ← hu, h3, ← hv, h4, h5, ← hw, h6, h7, hmb, hpush]
        · intro x hx
          rcases List.mem_append.mp hx with h | h
          · exact hr x h
          · rw [List.mem_singleton.mp h]; exact hmod _)
  obtain ⟨z, y, k, a, b, r, rfl, hl, hr⟩ := R2
  refine ⟨r, ?_, by simpa using hl, hr⟩
  have h2 : dDiv [.int cell, .int 2] = some (.int (cell / 2)) := dDiv_s (cdv (by decide) (by decide))
  have hit : ∀ ρ : List D, ρ[1]? = some (.int many) → iRng (aCons (eVar 1) aNil) ρ = some ((List.range many).map fun i : Nat => D.int i) := fun ρ h => by
    rw [iRng1_s (k := many) (by simp [h]) (by omega) (by omega), rng0]
    simp
  simp [m__law_row, h2, hit, l1, l2]
theorem entry_ok (x : Int) (h0 : 0 ≤ x) (h1 : x < 4096) : ∃ e : Int, f__law_entry [.int x] = some (.ret (.int e)) ∧ Bn 40 e := by
  unfold f__law_entry
  rw [fn_s (by simp)]
  unfold m__law_entry
  have h8 : dDiv [.int x, .int 8] = some (.int (x / 8)) := dDiv_s (cdv (by decide) (by decide))
  by_cases c1 : x % 8 < 3
  · exact ⟨0, by simp [sIf_s, c1], Bn.zero⟩
  · by_cases c2 : x % 8 < 7
    · refine ⟨x / 8 % 21 - 10, by simp [sIf_s, c1, c2, h8], ?_⟩
      unfold Bn
      omega
    · have hm : dMul [.int (x / 8 - 256), .int 1000000000] = some (.int ((x / 8 - 256) * 1000000000)) := dMul_s (cm (by omega) (by decide))
      refine ⟨(x / 8 - 256) * 1000000000 + x / 8, by simp [sIf_s, c1, c2, h8, hm], ?_⟩
      unfold Bn
      omega
end VP

/-! ## VTab3 -/
namespace VP
open PySem PySem.Spec PyProof.Rows L2 VV
theorem enc0 {h w : Nat} {f : Nat → Nat → Int} : dIdx [encT h w f, .int 0] = some (.int h) := by unfold encT; simp
theorem enc1 {h w : Nat} {f : Nat → Nat → Int} : dIdx [encT h w f, .int 1] = some (.int w) := by unfold encT; simp
theorem enc2 {h w : Nat} {f : Nat → Nat → Int} : dIdx [encT h w f, .int 2] = some (.lst ((List.range h).map fun i => rowD w (f i))) := by unfold encT; simp
/-- a range made of numbers from nought, at place i of the frame, and what is made of it -/
theorem lcR {n i : Nat} {e : Ev} {ρ : List D} (y : Nat → D) (h : ∀ a, a < n → e (ρ.set i (.int (a : Nat))) = some (y a)) :
    lcL (gN i) cYes e ρ ((List.range n).map fun i : Nat => D.int i) = some ((List.range n).map y) :=
  lcL_map (fun i : Nat => D.int i) y _ fun a ha => ⟨_, gN_s, cYes_s, h a (List.mem_range.mp ha)⟩
theorem iR {n : Nat} {e : Ev} {ρ : List D} (h : e ρ = some (.int n)) (hn : n ≤ 1000000) : iRng (aCons e aNil) ρ = some ((List.range n).map fun i : Nat => D.int i) := by
  rw [iRng1_s (k := n) (by simp [h]) (by omega) (by omega), rng0]
  simp
theorem unit_ok (n : Nat) (hn : n ≤ 1000000) : f_unit [.int n] = some (.ret (encT n n fun i j => if i = j then 1 else 0)) := by
  unfold f_unit
  rw [fn_s (by simp)]
  simp only [m_unit, sRet_s, eTup_s, aCons_s, eVar_s, eLc_s]
  have e0 : [D.int n] ++ List.replicate (3 - [D.int n].length) .non = [.int n, .non, .non] := rfl
  rw [e0, iR (n := n) rfl hn]
  have e := lcR (n := n) (i := 1) (ρ := [.int n, .non, .non]) (e := eLc (iRng (aCons (eVar 0) aNil)) (gN 2) cYes (eP dIntC (aCons (eP dEq (aCons (eVar 1) (aCons (eVar 2) aNil))) aNil))) (fun i => rowD n fun j => if i = j then 1 else 0) fun a ha => by
    have e := lcR (n := n) (i := 2) (ρ := [.int n, .int a, .non]) (e := eP dIntC (aCons (eP dEq (aCons (eVar 1) (aCons (eVar 2) aNil))) aNil)) (fun j => .int (if a = j then 1 else 0)) fun b hb => by
      by_cases h : a = b
      · subst h; simp
      · have : ¬ ((a : Int) = b) := by omega
        simp [h, this]
    simp only [eLc_s, List.set_cons_succ, List.set_cons_zero]
    rw [iR (n := n) rfl hn, ob_some, e]
    rfl
  rw [ob_some, e]
  simp [encT]
theorem table_ok (cell : Int) (h w : Nat) (hh : h ≤ 1000) (hw : w ≤ 1000) : ∃ f : Nat → Nat → Int, f__law_table [.int cell, .int h, .int w] = some (.ret (encT h w f)) ∧ ∀ i j, i < h → j < w → Bn 40 (f i j) := by
  have hwh : h * w ≤ 1000 * 1000 := Nat.mul_le_mul hh hw
  obtain ⟨r, hr, hl, hb⟩ := row_ok cell (h * w) 4096 (by omega) (by omega) (by decide)
  have hx : ∀ i j, i < h → j < w → ∃ x, r[i * w + j]? = some x ∧ 0 ≤ x ∧ x < 4096 := by
    intro i j hi hj
    have : i * w + j < h * w := by
      have : (i + 1) * w ≤ h * w := Nat.mul_le_mul_right _ hi
      rw [Nat.succ_mul] at this
      omega
    exact ⟨r[i * w + j], List.getElem?_eq_getElem (by omega), hb _ (List.getElem_mem _)⟩
  have hf : ∀ i j, ∃ e : Int, i < h → j < w → ∃ x, r[i * w + j]? = some x ∧ f__law_entry [.int x] = some (.ret (.int e)) ∧ Bn 40 e := by
    intro i j
    by_cases hij : i < h ∧ j < w
    · obtain ⟨x, h1, h2, h3⟩ := hx i j hij.1 hij.2
      obtain ⟨e, h4, h5⟩ := entry_ok x h2 h3
      exact ⟨e, fun _ _ => ⟨x, h1, h4, h5⟩⟩
    · exact ⟨0, fun a b => absurd ⟨a, b⟩ hij⟩
  refine ⟨fun i j => (hf i j).choose, ?_, fun i j hi hj => ?_⟩
  · generalize hg : (fun i j => (hf i j).choose) = g
    have hgs : ∀ i j, i < h → j < w → ∃ x, r[i * w + j]? = some x ∧ f__law_entry [.int x] = some (.ret (.int (g i j))) := by
      intro i j hi hj
      obtain ⟨x, h1, h2, _⟩ := (hf i j).choose_spec hi hj
      exact ⟨x, h1, by rw [← hg]; exact h2⟩
    unfold f__law_table
    rw [fn_s (by simp)]
    have e0 : [D.int cell, .int h, .int w] ++ List.replicate (6 - [D.int cell, .int h, .int w].length) .non = [.int cell, .int h, .int w, .non, .non, .non] := rfl
    rw [e0]
    have hm : dMul [.int (h : Int), .int (w : Int)] = some (.int ((h * w : Nat) : Int)) := by
      rw [dMul_s (cm (by omega) (by omega))]; simp
    have hr' : f__law_row [.int cell, .int ((h : Int) * w), .int 4096] = some (.ret (.lst (r.map D.int))) := by
      have := hr
      simp only [Int.natCast_mul] at this
      exact this
    have e := lcR (n := h) (i := 4) (ρ := [.int cell, .int h, .int w, .lst (r.map D.int), .non, .non]) (e := eLc (iRng (aCons (eVar 2) aNil)) (gN 5) cYes (eCall f__law_entry (aCons (eChk D.isFlat (eP dIdx (aCons (eVar 3) (aCons (eP dAdd (aCons (eP dMul (aCons (eVar 4) (aCons (eVar 2) aNil))) (aCons (eVar 5) aNil))) aNil)))) aNil))) (fun i => rowD w (g i)) fun a ha => by
      have e := lcR (n := w) (i := 5) (ρ := [.int cell, .int h, .int w, .lst (r.map D.int), .int a, .non]) (e := eCall f__law_entry (aCons (eChk D.isFlat (eP dIdx (aCons (eVar 3) (aCons (eP dAdd (aCons (eP dMul (aCons (eVar 4) (aCons (eVar 2) aNil))) (aCons (eVar 5) aNil))) aNil)))) aNil)) (fun j => .int (g a j)) fun b hb => by
        obtain ⟨x, h1, h2⟩ := hgs a b ha hb
        have hm : dMul [.int (a : Int), .int (w : Int)] = some (.int ((a : Int) * w)) := dMul_s (cm (by omega) (by omega))
        have hat : atI (r.map D.int) ((a : Int) * w + b) = some (.int x) := by
          rw [atI_of (k := a * w + b) (by simp), List.getElem?_map, h1]; rfl
        simp [hm, hat, h2, Option.filter_some]
      simp only [eLc_s, List.set_cons_succ, List.set_cons_zero]
      rw [iR (n := w) rfl (by omega), ob_some, e]
      rfl
    unfold m__law_table
    simp only [sSeq_s, sSet_s, eChk_s, eCall_s, eP_s, aCons_s, eVar_s, eC_s, aNil_s, ob_some, List.getElem?_cons_zero, List.getElem?_cons_succ, hm, Int.natCast_mul, hr', asRet_s, Option.filter_some, kf_lst, flL_ints, if_true, seqO_nx, List.set_cons_succ, List.set_cons_zero, sRet_s, eTup_s, eLc_s]
    rw [iR (n := h) rfl (by omega), ob_some, e]
    simp [encT]
  · exact ((hf i j).choose_spec hi hj).choose_spec.2.2
theorem zipmap {α β : Type} (f g : Nat → α) (k : α × α → β) (n : Nat) : (((List.range n).map f).zip ((List.range n).map g)).map k = (List.range n).map fun i => k (f i, g i) := by
  rw [List.zip_map', List.map_map]
  rfl
/-- pairs of two rows -/
theorem iZ {a : List D → Option (List D)} {ρ : List D} {f g : Nat → D} {n : Nat} (h : a ρ = some [.lst ((List.range n).map f), .lst ((List.range n).map g)]) : iZipL a ρ = some ((List.range n).map fun i => .tup [f i, g i]) := by
  rw [iZip_s h, zipmap]
theorem turned_ok (h w : Nat) (f : Nat → Nat → Int) (hh : h ≤ 1000) (hw : w ≤ 1000) : f_turned [encT h w f] = some (.ret (encT w h fun i j => f j i)) := by
  unfold f_turned
  rw [fn_s (by simp)]
  have e0 : [encT h w f] ++ List.replicate (6 - [encT h w f].length) .non = [encT h w f, .non, .non, .non, .non, .non] := rfl
  rw [e0]
  obtain ⟨R, hR⟩ : ∃ R, R = (List.range h).map fun i => rowD w (f i) := ⟨_, rfl⟩
  have e := lcR (n := w) (i := 4) (ρ := [encT h w f, .int h, .int w, .lst R, .non, .non]) (e := eLc (iRng (aCons (eVar 1) aNil)) (gN 5) cYes (eChk D.isFlat (eP dIdx (aCons (eP dIdx (aCons (eVar 3) (aCons (eVar 5) aNil))) (aCons (eVar 4) aNil))))) (fun i => rowD h fun j => f j i) fun a ha => by
    have e := lcR (n := h) (i := 5) (ρ := [encT h w f, .int h, .int w, .lst R, .int a, .non]) (e := eChk D.isFlat (eP dIdx (aCons (eP dIdx (aCons (eVar 3) (aCons (eVar 5) aNil))) (aCons (eVar 4) aNil)))) (fun j => .int (f j a)) fun b hb => by
      have h1 : atI R (b : Int) = some (rowD w (f b)) := by
        rw [atI_n, hR, List.getElem?_map, List.getElem?_range hb]; rfl
      have h2 : dIdx [rowD w (f b), .int (a : Int)] = some (.int (f b a)) := by
        unfold rowD
        rw [dIdx_l, atI_n, List.getElem?_map, List.getElem?_range ha]; rfl
      simp [h1, h2, Option.filter_some]
    simp only [eLc_s, List.set_cons_succ, List.set_cons_zero]
    rw [iR (n := h) rfl (by omega), ob_some, e]
    rfl
  unfold m_turned
  have g1 : gT (gsCons (gF (gN 1)) (gsCons (gF (gN 2)) (gsCons (gN 3) gsNil))) (encT h w f) [encT h w f, .non, .non, .non, .non, .non] = some [encT h w f, .int h, .int w, .lst R, .non, .non] := by
    subst hR
    conv => lhs; arg 2; unfold encT
    simp
  simp only [sSeq_s, sAsg_s, eVar_s, List.getElem?_cons_zero, ob_some, g1, seqO_nx, sRet_s, eTup_s, eLc_s, aCons_s, List.getElem?_cons_succ, aNil_s]
  rw [iR (n := w) rfl (by omega), ob_some, e]
  simp [encT]
theorem many_ok (c : Int) (h w : Nat) (f : Nat → Nat → Int) {n m : Nat} (hc : Bn n c) (hf : ∀ i j, i < h → j < w → Bn m (f i j)) (hs : n + m ≤ 100000) : f_many_times [.int c, encT h w f] = some (.ret (encT h w fun i j => c * f i j)) := by
  unfold f_many_times
  rw [fn_s (by simp)]
  have e0 : [.int c, encT h w f] ++ List.replicate (4 - [.int c, encT h w f].length) .non = [.int c, encT h w f, .non, .non] := rfl
  rw [e0]
  unfold m_many_times
  have e := lcL_map (t := gN 2) (c := cYes) (ρ := [.int c, encT h w f, .non, .non]) (e := eLc (iLst (eVar 2)) (gF (gN 3)) cYes (eP dMul (aCons (eVar 0) (aCons (eVar 3) aNil)))) (fun i : Nat => rowD w (f i)) (fun i => rowD w fun j => c * f i j) (List.range h) fun a ha => by
    refine ⟨_, gN_s, cYes_s, ?_⟩
    have e := lcL_map (t := gF (gN 3)) (c := cYes) (ρ := [.int c, encT h w f, rowD w (f a), .non]) (e := eP dMul (aCons (eVar 0) (aCons (eVar 3) aNil))) (fun j : Nat => D.int (f a j)) (fun j => .int (c * f a j)) (List.range w) fun b hb => by
      refine ⟨[.int c, encT h w f, rowD w (f a), .int (f a b)], by simp, cYes_s, ?_⟩
      have : dMul [.int c, .int (f a b)] = some (.int (c * f a b)) := dMul_s ((hc).cmul (hf a b (List.mem_range.mp ha) (List.mem_range.mp hb)) (by omega))
      simp [this]
    simp only [eLc_s, iLst_s, eVar_s, List.set_cons_succ, List.set_cons_zero, List.getElem?_cons_succ, List.getElem?_cons_zero, ob_some]
    have ra : asL (rowD w (f a)) = some ((List.range w).map fun j => .int (f a j)) := rfl
    rw [ra, ob_some, e]
    rfl
  simp only [sRet_s, eTup_s, aCons_s, aNil_s, eP_s, eChk_s, eC_s, eLc_s, iLst_s, eVar_s, List.getElem?_cons_succ, List.getElem?_cons_zero, ob_some, enc0, enc1, enc2, Option.filter_some, fl_int, if_true, asL_l]
  rw [e]
  simp [encT]
theorem plus_ok (h w : Nat) (f g : Nat → Nat → Int) : f_plus [encT h w f, encT h w g] = some (.ret (encT h w fun i j => f i j + g i j)) := by
  unfold f_plus
  rw [fn_s (by simp)]
  have e0 : [encT h w f, encT h w g] ++ List.replicate (6 - [encT h w f, encT h w g].length) .non = [encT h w f, encT h w g, .non, .non, .non, .non] := rfl
  rw [e0]
  unfold m_plus
  have c : ∀ f : Nat → Nat → Int, eChk D.isFlat (fun _ => dSl (encT h w f) none (some 2)) [] = some (.tup [.int h, .int w]) := by
    intro f
    unfold encT
    simp only [eChk_s]
    rw [dSl_t (by simp [HT.sIx])]
    simp [cutG, HT.sIx, Option.filter_some]
  have e := lcL_map (t := gT (gsCons (gN 2) (gsCons (gN 3) gsNil))) (c := cYes) (ρ := [encT h w f, encT h w g, .non, .non, .non, .non]) (e := eLc (iZipL (aCons (eVar 2) (aCons (eVar 3) aNil))) (gT (gsCons (gF (gN 4)) (gsCons (gF (gN 5)) gsNil))) cYes (eP dAdd (aCons (eVar 4) (aCons (eVar 5) aNil)))) (fun i : Nat => D.tup [rowD w (f i), rowD w (g i)]) (fun i => rowD w fun j => f i j + g i j) (List.range h) fun a ha => by
    refine ⟨[encT h w f, encT h w g, rowD w (f a), rowD w (g a), .non, .non], by simp, cYes_s, ?_⟩
    have e := lcL_map (t := gT (gsCons (gF (gN 4)) (gsCons (gF (gN 5)) gsNil))) (c := cYes) (ρ := [encT h w f, encT h w g, rowD w (f a), rowD w (g a), .non, .non]) (e := eP dAdd (aCons (eVar 4) (aCons (eVar 5) aNil))) (fun j : Nat => D.tup [.int (f a j), .int (g a j)]) (fun j => .int (f a j + g a j)) (List.range w) fun b hb => by
      exact ⟨[encT h w f, encT h w g, rowD w (f a), rowD w (g a), .int (f a b), .int (g a b)], by simp, cYes_s, by simp⟩
    rw [eLc_s, iZ (f := fun j => .int (f a j)) (g := fun j => .int (g a j)) (n := w) (by simp [rowD]), ob_some, e]
    rfl
  have ht : tOf (eP dNe (aCons (eChk D.isFlat (eSl (eChk D.isTup (eVar 0)) oNone (oSome (eC (.int 2))))) (aCons (eChk D.isFlat (eSl (eChk D.isTup (eVar 1)) oNone (oSome (eC (.int 2))))) aNil))) [encT h w f, encT h w g, .non, .non, .non, .non] = some false := by
    have c1 := c f
    have c2 := c g
    have ck : ∀ f : Nat → Nat → Int, (some (encT h w f)).filter D.isTup = some (encT h w f) := fun f => rfl
    simp only [eChk_s] at c1 c2
    simp only [tOf_s, eP_s, aCons_s, aNil_s, eChk_s, eSl_s, oNone_s, oSome_s, eC_s, eVar_s, List.getElem?_cons_succ, List.getElem?_cons_zero, ob_some, ck, c1, c2]
    rw [dNe_same (n := 1) (Ok.tup fun a ha => by
      simp only [List.mem_cons, List.not_mem_nil, or_false] at ha
      rcases ha with rfl | rfl <;> exact Ok.int) (by decide)]
    rfl
  rw [sSeq_s, sIf_f ht, sNil_s, seqO_nx]
  simp only [sRet_s, eTup_s, aCons_s, aNil_s, eP_s, eChk_s, eC_s, eLc_s, eVar_s, List.getElem?_cons_succ, List.getElem?_cons_zero, ob_some, enc0, enc1, Option.filter_some, fl_int, if_true]
  rw [iZ (f := fun i => rowD w (f i)) (g := fun i => rowD w (g i)) (n := h) (by simp [enc2]), ob_some, e]
  simp [encT]
end VP

/-! ## VTab4 -/
namespace VP
open PySem PySem.Spec PyProof.Rows L2 VV
theorem rng_at {n i a : Nat} (h : (List.range n)[i]? = some a) : i < n ∧ a = i := by
  have h1 := (List.getElem?_eq_some_iff.mp h).1
  have h2 := (List.getElem?_eq_some_iff.mp h).2
  exact ⟨by simpa using h1, by simpa using h2.symm⟩
theorem rep_row (d : Nat) (hd : d ≤ 1000000) : dRep [.lst [.int 0], .int d] = some (rowD d fun _ => 0) := by
  have row : ∀ w : Nat, rowD w (fun _ => 0) = .lst (List.replicate w [D.int 0]).flatten := by
    intro w
    unfold rowD
    rw [List.map_const', List.length_range]
    congr 1
    induction w with
    | zero => rfl
    | succ w ih => rw [List.replicate_succ, List.replicate_succ, List.flatten_cons, ih]; rfl
  unfold dRep
  dsimp only
  rw [if_pos ⟨by simp, by omega, by omega, by simp; omega⟩, row, Int.toNat_natCast]
abbrev mulE (f g : Nat → Nat → Int) (w : Nat) : Nat → Nat → Int := fun i j => S w fun k => f i k * g k j
theorem product_ok (h w d : Nat) (f g : Nat → Nat → Int) {n m : Nat} (hf : ∀ i j, i < h → j < w → Bn n (f i j)) (hg : ∀ i j, i < w → j < d → Bn m (g i j)) (hs : n + m ≤ 100000) (hh : h ≤ 1000) (hw : w ≤ 1000) (hd : d ≤ 1000) :
    f_product [encT h w f, encT w d g] = some (.ret (encT h d (mulE f g w))) := by
  unfold f_product
  rw [fn_s (by simp)]
  obtain ⟨A, hA⟩ : ∃ A, A = encT h w f := ⟨_, rfl⟩
  obtain ⟨B, hB⟩ : ∃ B, B = encT w d g := ⟨_, rfl⟩
  have A0 : dIdx [A, .int 0] = some (.int h) := by rw [hA]; exact enc0
  have A1 : dIdx [A, .int 1] = some (.int w) := by rw [hA]; exact enc1
  have A2 : dIdx [A, .int 2] = some (.lst ((List.range h).map fun i => rowD w (f i))) := by rw [hA]; exact enc2
  have B0 : dIdx [B, .int 0] = some (.int w) := by rw [hB]; exact enc0
  have B1 : dIdx [B, .int 1] = some (.int d) := by rw [hB]; exact enc1
  have B2 : dIdx [B, .int 2] = some (.lst ((List.range w).map fun i => rowD d (g i))) := by rw [hB]; exact enc2
  rw [← hA, ← hB]
  have e0 : [A, B] ++ List.replicate (9 - [A, B].length) .non = [A, B, .non, .non, .non, .non, .non, .non, .non] := rfl
  rw [e0]
  unfold m_product
  have ht : ∀ r, tOf (eP dNe (aCons (eChk D.isFlat (eP dIdx (aCons (eVar 0) (aCons (eC (.int 1)) aNil)))) (aCons (eChk D.isFlat (eP dIdx (aCons (eVar 1) (aCons (eC (.int 0)) aNil)))) aNil))) (A :: B :: r) = some false := by
    intro r
    simp [A1, B0, Option.filter_some]
  rw [sSeq_s, sIf_f (ht _), sNil_s, seqO_nx]
  have turn : ∀ (i : Nat) (L : List D) (x4 x5 x6 x7 x8 : D), i < h → L.length = i → ∃ y4 y5 y6 y7 y8, (sSeq (sSet 4 (eP dRep (aCons (eLst (aCons (eC (.int 0)) aNil)) (aCons (eChk D.isFlat (eP dIdx (aCons (eVar 1) (aCons (eC (.int 1)) aNil)))) aNil))))
  (sSeq (sFor (iZipL (aCons (eVar 3) (aCons (eP dIdx (aCons (eVar 1) (aCons (eC (.int 2)) aNil))) aNil))) (gT (gsCons (gF (gN 5)) (gsCons (gN 6) gsNil)))
  (sIf (tOf (eP dNe (aCons (eVar 5) (aCons (eC (.int 0)) aNil))))
  (sSet 4 (eLc (iZipL (aCons (eVar 4) (aCons (eVar 6) aNil))) (gT (gsCons (gF (gN 7)) (gsCons (gF (gN 8)) gsNil))) cYes (eP dAdd (aCons (eVar 7) (aCons (eP dMul (aCons (eVar 5) (aCons (eVar 8) aNil))) aNil)))))
  sNil))
  (sMut dPush 2 (eVar 4)))) [A, B, .lst L, rowD w (f i), x4, x5, x6, x7, x8] = some (.nx [A, B, .lst (L ++ [rowD d (mulE f g w i)]), rowD w (f i), y4, y5, y6, y7, y8]) := by
    intro i L x4 x5 x6 x7 x8 hi hL
    obtain ⟨ρ1, l1, R1⟩ := forL_inv (t := gT (gsCons (gF (gN 5)) (gsCons (gN 6) gsNil))) (b := (sIf (tOf (eP dNe (aCons (eVar 5) (aCons (eC (.int 0)) aNil))))
      (sSet 4 (eLc (iZipL (aCons (eVar 4) (aCons (eVar 6) aNil))) (gT (gsCons (gF (gN 7)) (gsCons (gF (gN 8)) gsNil))) cYes (eP dAdd (aCons (eVar 7) (aCons (eP dMul (aCons (eVar 5) (aCons (eVar 8) aNil))) aNil)))))
      sNil)) (fun k : Nat => D.tup [.int (f i k), rowD d (g k)]) (List.range w)
      (fun n ρ => ∃ y5 y6 y7 y8, ρ = [A, B, .lst L, rowD w (f i), rowD d (fun j => S n fun k => f i k * g k j), y5, y6, y7, y8])
      [A, B, .lst L, rowD w (f i), rowD d (fun _ => 0), x5, x6, x7, x8] ⟨_, _, _, _, rfl⟩
      (fun k a ρ ha hR => by
        obtain ⟨hk, rfl⟩ := rng_at ha
        obtain ⟨y5, y6, y7, y8, rfl⟩ := hR
        refine ⟨[A, B, .lst L, rowD w (f i), rowD d (fun j => S a fun k => f i k * g k j), .int (f i a), rowD d (g a), y7, y8], ?_⟩
        refine ⟨[A, B, .lst L, rowD w (f i), rowD d (fun j => S (a + 1) fun k => f i k * g k j), .int (f i a), rowD d (g a), y7, y8], by simp, Or.inl ?_, ⟨_, _, _, _, rfl⟩⟩
        by_cases hz : f i a = 0
        · have hc : tOf (eP dNe (aCons (eVar 5) (aCons (eC (.int 0)) aNil))) [A, B, .lst L, rowD w (f i), rowD d (fun j => S a fun k => f i k * g k j), .int (f i a), rowD d (g a), y7, y8] = some false := by simp [hz]
          rw [sIf_f hc, sNil_s]
          have : rowD d (fun j => S a fun k => f i k * g k j) = rowD d (fun j => S (a + 1) fun k => f i k * g k j) := rowD_congr fun j _ => by
            show _ = S a _ + f i a * g a j
            rw [hz, Int.zero_mul, Int.add_zero]
          rw [this]
        · have hc : tOf (eP dNe (aCons (eVar 5) (aCons (eC (.int 0)) aNil))) [A, B, .lst L, rowD w (f i), rowD d (fun j => S a fun k => f i k * g k j), .int (f i a), rowD d (g a), y7, y8] = some true := by simp [hz]
          rw [sIf_t hc]
          have e := lcL_map (t := gT (gsCons (gF (gN 7)) (gsCons (gF (gN 8)) gsNil))) (c := cYes) (ρ := [A, B, .lst L, rowD w (f i), rowD d (fun j => S a fun k => f i k * g k j), .int (f i a), rowD d (g a), y7, y8]) (e := eP dAdd (aCons (eVar 7) (aCons (eP dMul (aCons (eVar 5) (aCons (eVar 8) aNil))) aNil))) (fun j : Nat => D.tup [.int (S a fun k => f i k * g k j), .int (g a j)]) (fun j => .int (S (a + 1) fun k => f i k * g k j)) (List.range d) fun b hb => by
            refine ⟨[A, B, .lst L, rowD w (f i), rowD d (fun j => S a fun k => f i k * g k j), .int (f i a), rowD d (g a), .int (S a fun k => f i k * g k b), .int (g a b)], by simp, cYes_s, ?_⟩
            have : dMul [.int (f i a), .int (g a b)] = some (.int (f i a * g a b)) := dMul_s ((hf i a hi hk).cmul (hg a b hk (List.mem_range.mp hb)) (by omega))
            simp [this, S]
          rw [sSet_s, eLc_s, iZ (f := fun j => .int (S a fun k => f i k * g k j)) (g := fun j => .int (g a j)) (n := d) (by simp [rowD]), ob_some, e]
          rfl)
    obtain ⟨y5, y6, y7, y8, rfl⟩ := R1
    refine ⟨rowD d (fun j => S w fun k => f i k * g k j), y5, y6, y7, y8, ?_⟩
    have hset : sSet 4 (eP dRep (aCons (eLst (aCons (eC (.int 0)) aNil)) (aCons (eChk D.isFlat (eP dIdx (aCons (eVar 1) (aCons (eC (.int 1)) aNil)))) aNil))) [A, B, .lst L, rowD w (f i), x4, x5, x6, x7, x8] = some (.nx [A, B, .lst L, rowD w (f i), rowD d (fun _ => 0), x5, x6, x7, x8]) := by
      simp [B1, Option.filter_some, rep_row d (by omega)]
    have hz : iZipL (aCons (eVar 3) (aCons (eP dIdx (aCons (eVar 1) (aCons (eC (.int 2)) aNil))) aNil)) [A, B, .lst L, rowD w (f i), rowD d (fun _ => 0), x5, x6, x7, x8] = some ((List.range w).map fun k => D.tup [.int (f i k), rowD d (g k)]) :=
      iZ (f := fun k => .int (f i k)) (g := fun k => rowD d (g k)) (n := w) (by simp [B2]; rfl)
    rw [sSeq_s, hset, seqO_nx, sSeq_s, sFor_s, hz, ob_some, l1, seqO_nx]
    rw [List.length_range]
    simp [dPush_s (show L.length < 1000000 by omega)]
  obtain ⟨ρ1, l1, R1⟩ := forL_inv (t := gN 3) (b := (sSeq (sSet 4 (eP dRep (aCons (eLst (aCons (eC (.int 0)) aNil)) (aCons (eChk D.isFlat (eP dIdx (aCons (eVar 1) (aCons (eC (.int 1)) aNil)))) aNil))))
  (sSeq (sFor (iZipL (aCons (eVar 3) (aCons (eP dIdx (aCons (eVar 1) (aCons (eC (.int 2)) aNil))) aNil))) (gT (gsCons (gF (gN 5)) (gsCons (gN 6) gsNil)))
  (sIf (tOf (eP dNe (aCons (eVar 5) (aCons (eC (.int 0)) aNil))))
  (sSet 4 (eLc (iZipL (aCons (eVar 4) (aCons (eVar 6) aNil))) (gT (gsCons (gF (gN 7)) (gsCons (gF (gN 8)) gsNil))) cYes (eP dAdd (aCons (eVar 7) (aCons (eP dMul (aCons (eVar 5) (aCons (eVar 8) aNil))) aNil)))))
  sNil))
  (sMut dPush 2 (eVar 4))))) (fun i : Nat => rowD w (f i)) (List.range h)
    (fun n ρ => ∃ y3 y4 y5 y6 y7 y8, ρ = [A, B, .lst ((List.range n).map fun i => rowD d (mulE f g w i)), y3, y4, y5, y6, y7, y8])
    [A, B, .lst [], .non, .non, .non, .non, .non, .non] ⟨_, _, _, _, _, _, rfl⟩
    (fun i a ρ ha hR => by
      obtain ⟨hi, rfl⟩ := rng_at ha
      obtain ⟨y3, y4, y5, y6, y7, y8, rfl⟩ := hR
      obtain ⟨z4, z5, z6, z7, z8, hz⟩ := turn a ((List.range a).map fun i => rowD d (mulE f g w i)) y4 y5 y6 y7 y8 hi (by simp)
      refine ⟨_, _, rfl, Or.inl hz, ⟨rowD w (f a), z4, z5, z6, z7, z8, ?_⟩⟩
      have : (List.range (a + 1)).map (fun i => rowD d (mulE f g w i)) = (List.range a).map (fun i => rowD d (mulE f g w i)) ++ [rowD d (mulE f g w a)] := by
        rw [List.range_succ, List.map_append]
        rfl
      rw [this])
  obtain ⟨y3, y4, y5, y6, y7, y8, rfl⟩ := R1
  have hs2 : sSet 2 (eLst aNil) [A, B, .non, .non, .non, .non, .non, .non, .non] = some (.nx [A, B, .lst [], .non, .non, .non, .non, .non, .non]) := by simp
  have hit : iLst (eP dIdx (aCons (eVar 0) (aCons (eC (.int 2)) aNil))) [A, B, .lst [], .non, .non, .non, .non, .non, .non] = some ((List.range h).map fun i => rowD w (f i)) := by simp [A2]
  rw [sSeq_s, hs2, seqO_nx, sSeq_s, sFor_s, hit, ob_some, l1, seqO_nx, List.length_range]
  simp [A0, B1, Option.filter_some, encT]
end VP

/-! ## VTab5 -/
namespace VP
open PySem PySem.Spec PyProof.Rows L2 VV
theorem mulE_assoc {a b c : Nat → Nat → Int} {n m : Nat} : mulE (mulE a b n) c m = mulE a (mulE b c m) n := by
  funext i j
  show S m (fun k => S n (fun l => a i l * b l k) * c k j) = S n (fun l => a i l * S m fun k => b l k * c k j)
  have h1 : S m (fun k => S n (fun l => a i l * b l k) * c k j) = S m fun k => S n fun l => a i l * b l k * c k j := S_congr fun k _ => S_mulR.symm
  have h2 : S n (fun l => a i l * S m fun k => b l k * c k j) = S n fun l => S m fun k => a i l * (b l k * c k j) := S_congr fun k _ => S_mulL.symm
  rw [h1, h2, S_comm]
  exact S_congr fun l _ => S_congr fun k _ => Int.mul_assoc _ _ _
theorem mulE_addL {a b c : Nat → Nat → Int} {n : Nat} : mulE (fun i j => a i j + b i j) c n = fun i j => mulE a c n i j + mulE b c n i j := by
  funext i j
  show S n (fun k => (a i k + b i k) * c k j) = S n (fun k => a i k * c k j) + S n fun k => b i k * c k j
  rw [← S_add]
  exact S_congr fun k _ => Int.add_mul _ _ _
theorem mulE_addR {a b c : Nat → Nat → Int} {n : Nat} : mulE a (fun i j => b i j + c i j) n = fun i j => mulE a b n i j + mulE a c n i j := by
  funext i j
  show S n (fun k => a i k * (b k j + c k j)) = S n (fun k => a i k * b k j) + S n fun k => a i k * c k j
  rw [← S_add]
  exact S_congr fun k _ => Int.mul_add _ _ _
theorem mulE_mulL {a c : Nat → Nat → Int} {x : Int} {n : Nat} : mulE (fun i j => x * a i j) c n = fun i j => x * mulE a c n i j := by
  funext i j
  show S n (fun k => x * a i k * c k j) = x * S n fun k => a i k * c k j
  rw [← S_mulL]
  exact S_congr fun k _ => Int.mul_assoc _ _ _
theorem mulE_zeroR {a : Nat → Nat → Int} {n : Nat} : mulE a (fun _ _ => 0) n = fun _ _ => 0 := by
  funext i j
  show S n (fun k => a i k * 0) = 0
  rw [S_congr (v := fun _ => 0) fun k _ => Int.mul_zero _, S_zero]
theorem mulE_unitL {a : Nat → Nat → Int} {h : Nat} {i j : Nat} (hi : i < h) : mulE (fun i j => if i = j then 1 else 0) a h i j = a i j := by
  show S h (fun k => (if i = k then 1 else 0) * a k j) = a i j
  rw [S_delta, if_pos hi]
theorem mulE_unitR {a : Nat → Nat → Int} {w : Nat} {i j : Nat} (hj : j < w) : mulE a (fun i j => if i = j then 1 else 0) w i j = a i j := by
  show S w (fun k => a i k * (if k = j then 1 else 0)) = a i j
  rw [S_deltaR, if_pos hj]
theorem mulE_turn {a b : Nat → Nat → Int} {n : Nat} : (fun i j => mulE a b n j i) = mulE (fun i j => b j i) (fun i j => a j i) n := by
  funext i j
  show S n (fun k => a j k * b k i) = S n fun k => b k i * a j k
  exact S_congr fun k _ => Int.mul_comm _ _
theorem mulE_bn {f g : Nat → Nat → Int} {h w d n m c : Nat} (hf : ∀ i j, i < h → j < w → Bn n (f i j)) (hg : ∀ i j, i < w → j < d → Bn m (g i j)) (hw : w ≤ 2 ^ c) : ∀ i j, i < h → j < d → Bn (n + m + c) (mulE f g w i j) :=
  fun i j hi hj => S_bn hw fun k hk => (hf i k hi hk).mul (hg k j hk hj)
/-- the same table twice is no difference -/
theorem ne_enc {h w : Nat} {f g : Nat → Nat → Int} (e : ∀ i j, i < h → j < w → f i j = g i j) : dNe [encT h w f, encT h w g] = some (.bl false) := by
  rw [encT_congr e]
  exact dNe_same ok_encT (by decide)
theorem eq_enc {h w : Nat} {f g : Nat → Nat → Int} (e : ∀ i j, i < h → j < w → f i j = g i j) : dEq [encT h w f, encT h w g] = some (.bl true) := by
  rw [encT_congr e]
  exact dEq_same ok_encT (by decide)
end VP

/-! ## VExc -/
namespace VV
open PySem PySem.Spec PyProof.Rows L2

/-! ### own exception classes -/
/-- a class over ValueError, without an __init__ of its own -/
structure ExF (K : PySem.W.Frag) (C : Addr) : Prop where
  q : PySem.W.excIn K C He.veBase "ValueError.__new__" = true
  kp : PySem.W.keepIn K (.ref C) = true
  sb : PySem.W.subIn K (.ref C) (.type "BaseException") = some true
  tp : PySem.W.typeIn K (.ref C) = some (.type "type")
def sRaise (c : Str) : Sv := fun ρ => some (.ex c ρ)
section
variable {X : Cx} {W : L2.WX} {sc : Sc} {Γ Γ' : List Kd} {pos : Pos}
theorem sx_raise {cn m : Str} {C : Addr} {j : Nat} {p p2 pos' : Pos} (hc : X.calm = true) (tk : L2.Takes X W) (hm : X.mg cn = some (.ref C)) (E : ExF X.K C) (hg : Gl X cn) (hx : kdsLe [] Γ sc.Γx = true)
    (hdb : (cn == ("__debug__" : Str)) = false := by decide) : SX X W sc Γ (.Raise (some (.Call (.Name cn p) [.Constant (.str m) j p2] [] pos)) none pos') (sRaise cn) Γ' := by
  refine ⟨_, L2.ps_raise hc tk (L2.pmk_own PySem.F.excBase_ValueError E.q hm E.kp (L2.raises_own E.sb E.tp) hg hdb), fun P g ρ σ H o D s e w => ?_⟩
  cases e
  exact w C _ σ H hm (.re (m := []) rfl) (s.re rfl hx)
/-- what raises nothing, beside what raises -/
theorem ss_nox {st : List Stmt} {s : Sv} (h : SS X.nox (fun _ _ _ _ => False) sc Γ st s Γ') (hs : ∀ ρ c ρ', s ρ ≠ some (.ex c ρ')) : SS X W sc Γ st s Γ' := by
  obtain ⟨t, p, k⟩ := h
  refine ⟨t, p.nox, fun P g ρ σ H o D st e w => k P g ρ σ H o D st e ?_⟩
  cases o with
  | nx ρ' => exact w
  | ct ρ' => exact w
  | rt d => exact w
  | ex c ρ' => exact absurd e (hs ρ c ρ')
end

/-! ### defs that may raise -/
def spX (mg : Mg) (sem : List D → Option Res) (n : Nat) (R : Rm) : Sp := fun vs H Q E => vs.length = n ∧ ∃ ds fp, RepL mg H ds vs fp ∧
  ((∃ d, sem ds = some (.ret d) ∧ ∀ v H', Ext H H' → RF mg H H' fp R d v → Q v H') ∨ ∃ c, sem ds = some (.exn c) ∧ ∀ C H', mg.mg c = some (.ref C) → Ext H H' → E (.ref C) none H')
section
variable {P : Program} {w : World} {K : PySem.W.Frag} {mg : Str → Option Value} {base : Heap} {x qual : Str} {params : Arguments} {body : List Stmt} {scope : Scope} {f : Addr} {fd : FuncData}
theorem fn_okX {N ps : List Str} {k : Nat} {sc : Sc} {Γ' : List Kd} {s : Sv} (F : FunD K x qual params body scope [] [] f fd) (S : FnScope N ps scope) (pk : List Kd) (hp : pk.length = ps.length) (hN : ps.length ≤ N.length) (hL : sc.LL = [])
    (hb : ∀ (cdv : Value) (A : Around) (outer : List Env) (s0 : Shared) (H : Hp) (E : XK), Room k (A.deeper (envOfC qual scope s0.heap.objs.size f cdv)) →
      L2.Takes (cxOf (L2.CX P w) P w K mg base N qual scope f cdv A outer s0 H E) (fun cls d _ H' => E cls d H') →
      SS (cxOf (L2.CX P w) P w K mg base N qual scope f cdv A outer s0 H E) (fun cls d _ H' => E cls d H') sc (pk ++ List.replicate (N.length - pk.length) .dead) body s Γ') :
    FnOk P w K mg base (L2.CX P w) (k + 1) f fd ps (spX ⟨mg, K⟩ (fnSem N.length pk s) ps.length sc.R) := by
  refine F.ok S (fun vs H Q E h => h.1) (fun cdv A outer s0 H vs Q E hr h => ?_)
  obtain ⟨hl, ds, fp, r, h⟩ := h
  obtain ⟨t, p, kk⟩ := hb cdv A outer s0 H E hr (L2.takes_of rfl rfl rfl rfl)
  refine ⟨t, p, ?_⟩
  have hpk : pkOk pk ds = true := by
    rcases h with ⟨d, e, _⟩ | ⟨c, e, _⟩ <;> (unfold fnSem at e; split at e; assumption; cases e)
  have hsem : fnSem N.length pk s ds = match s (ds ++ List.replicate (N.length - ds.length) .non) with
      | some (.nx _) => some (.ret .non)
      | some (.rt d) => some (.ret d)
      | some (.ex c _) => some (.exn c)
      | _ => none := if_pos hpk
  have hlen := pkOk_len hpk
  have hvd := r.length
  have st : Sta ⟨mg, K⟩ ⟨fun a => a ∈ fp, fun _ => False⟩ sc.LL (pk ++ List.replicate (N.length - pk.length) .dead) (fun _ => 0) (ds ++ List.replicate (N.length - ds.length) .non) (L2.start N vs) H := by
    rw [hL]
    refine ⟨loc_start r.there, ?_⟩
    unfold L2.start
    rw [hvd, hlen]
    exact cells_start _ hpk r fun a ha => ha
  cases o : s (ds ++ List.replicate (N.length - ds.length) .non) with
  | none => rw [hsem, o] at h; rcases h with ⟨d, e, _⟩ | ⟨c, e, _⟩ <;> cases e
  | some o' =>
    rw [hsem, o] at h
    refine kk ⟨fun a => a ∈ fp, fun _ => False⟩ (fun _ => 0) _ _ H o' _ st o ?_
    cases o' with
    | nx ρ' =>
      rcases h with ⟨d, e, q⟩ | ⟨c, e, _⟩
      · cases e
        intro g' σ' H' s' st'
        rw [hL] at s'
        refine q .non H' (step_ext s') ?_
        have r : Rep ⟨mg, K⟩ H' .non .non [] := rep_non
        cases sc.R with
        | flat => exact r
        | fresh => exact ⟨[], r, by simp, fun a ha => nomatch ha⟩
        | out => exact ⟨[], r, fun a ha => nomatch ha⟩
      · cases e
    | ct ρ' => rcases h with ⟨d, e, _⟩ | ⟨c, e, _⟩ <;> cases e
    | rt d' =>
      rcases h with ⟨d, e, q⟩ | ⟨c, e, _⟩
      · cases e
        intro v g' H' s' l' rv
        rw [hL] at s' l'
        exact q v H' (step_ext s') (rf_of s' l' rv)
      · cases e
    | ex c ρ' =>
      rcases h with ⟨d, e, _⟩ | ⟨c', e, q⟩
      · cases e
      · cases e
        intro C g' σ' H' m s' st'
        rw [hL] at s'
        exact q C H' m (step_ext s')
end
/-- a def that may be called by its name, and may raise -/
def CalX (P : Program) (w : World) (K : PySem.W.Frag) (mg : Str → Option Value) (base : Heap) (x : Str) (k : Nat) (ps : List Str) (sem : List D → Option Res) (R : Rm) : Prop :=
  ∃ f fd, FnOk P w K mg base (L2.CX P w) k f fd ps (spX ⟨mg, K⟩ sem ps.length R) ∧ mg x = some (.ref f) ∧ PySem.W.keepIn K (.ref f) = true ∧ Binds K fd ps []

/-! ### expressions that may raise, as a statement's own -/
def ER (X : Cx) (W : L2.WX) (LL : List Nat) (Γ : List Kd) (e : Expr) (sem : List D → Option Res) (m : Md) : Prop :=
  ∃ t, PE X e t ∧ ∀ P g ρ σ H Q, Sta X.vm P LL Γ g ρ σ H → ((∃ d, sem ρ = some (.ret d) ∧ ∀ v H', Ext H H' → Val X.vm P g H H' m d v → Q v H') ∨ (∃ c, sem ρ = some (.exn c) ∧ ∀ C H', X.mg c = some (.ref C) → Ext H H' → W (.ref C) none σ H')) → t σ H Q
def rCall (f : List D → Option Res) (a : List D → Option (List D)) : List D → Option Res := fun ρ => (a ρ).bind f
/-- the i-th slot holds the def of this name -/
def rCallV (i : Nat) (x : Str) (f : List D → Option Res) (a : List D → Option (List D)) : List D → Option Res := fun ρ => match ρ[i]? with
  | some (.fn y) => if y = x then (a ρ).bind f else none
  | _ => none
def rOr (a b : List D → Option Res) : List D → Option Res := fun ρ => match a ρ with
  | none => b ρ
  | r => r
section
variable {X : Cx} {W : L2.WX} {LL : List Nat} {Γ : List Kd} {pos p : Pos} {k : Nat} {ps : List Str} {sem : List D → Option Res} {R : Rm} {x : Str}
theorem er_of {e : Expr} {s : Ev} {m : Md} (h : EX X LL Γ e s m) : ER X W LL Γ e (fun ρ => (s ρ).map .ret) m := by
  obtain ⟨t, pt, kk⟩ := h
  refine ⟨t, pt, fun P g ρ σ H Q s e => ?_⟩
  rcases e with ⟨d, e, q⟩ | ⟨c, e, _⟩
  · obtain ⟨d', e1, e2⟩ := Option.map_eq_some_iff.mp e
    cases e2
    exact kk P g ρ σ H d Q s e1 q
  · obtain ⟨d', e1, e2⟩ := Option.map_eq_some_iff.mp e
    cases e2
theorem er_call {e : Expr} {es : List Expr} {a : List D → Option (List D)} {m : Md} (c : CalX X.prog X.w X.K X.mg X.base x k ps sem R) (hr : Room k X.A) (tk : L2.Takes X W) (hg : Gl X x) (ha : EA X LL Γ (e :: es) a m) (hn : (e :: es).length = ps.length := by rfl)
    (hdb : (x == ("__debug__" : Str)) = false := by decide) (he : starEach (e :: es) X.env = (false, eval e X.env) :: starEach es X.env := by rfl) (hpl : (backTo pos (starEach es X.env)).any (·.1) = false := by rfl) :
    ER X W LL Γ (.Call (.Name x p) (e :: es) [] pos) (rCall sem a) (R.md m) := by
  obtain ⟨f, fd, F, hm, hk, hb⟩ := c
  obtain ⟨hl, t, pt, kk⟩ := ha
  refine ⟨_, L2.pe_callS F hr hg hm hk hb (fun σ => L2.passAt tk σ) pt hdb he hpl, fun P g ρ σ H Q s e0 => ?_⟩
  have ea : ∃ ds, a ρ = some ds := by
    rcases e0 with ⟨d, e1, _⟩ | ⟨c, e1, _⟩ <;> (obtain ⟨ds, e1, _⟩ := bind_some e1; exact ⟨ds, e1⟩)
  obtain ⟨ds, ea⟩ := ea
  have er : rCall sem a ρ = sem ds := by unfold rCall; rw [ea]; rfl
  refine kk P g ρ σ H ds _ s ea fun vs H1 x1 vl => ?_
  obtain ⟨fp, r, o⟩ := vl
  refine ⟨by rw [r.length, hl ρ ds ea]; exact hn, ds, fp, r, ?_⟩
  rcases e0 with ⟨d, e1, q⟩ | ⟨c, e1, q⟩
  · exact .inl ⟨d, er.symm.trans e1, fun v H2 x2 rf => q v H2 (x1.trans x2) (rf_val x1 x2 o rf)⟩
  · exact .inr ⟨c, er.symm.trans e1, fun C H2 hC x2 => q C H2 hC (x1.trans x2)⟩
theorem er_or {e : Expr} {a b : List D → Option Res} {m : Md} (h : ER X W LL Γ e a m) (h' : ER X W LL Γ e b m) : ER X W LL Γ e (rOr a b) m := by
  obtain ⟨t, pt, kk⟩ := h
  obtain ⟨u, pu, kk'⟩ := h'
  refine ⟨fun σ H Q => t σ H Q ∨ u σ H Q, ⟨fun pins s σ H Q I h => h.elim (pt.run pins s σ H Q I) (pu.run pins s σ H Q I)⟩, fun P g ρ σ H Q s e => ?_⟩
  unfold rOr at e
  cases ha : a ρ with
  | none =>
    rw [ha] at e
    exact .inr (kk' P g ρ σ H Q s e)
  | some r =>
    rw [ha] at e
    refine .inl (kk P g ρ σ H Q s ?_)
    rw [ha]
    exact e
/-- the call of a def that stands in a slot -/
theorem pe_slotcall {CX : CXT} {i : Nat} {f : Addr} {fd : FuncData} {sp : Sp} {E : L2.St → XK} {e : Expr} {es : List Expr} {t : TA} (F : FnOk X.prog X.w X.K X.mg X.base CX k f fd ps sp) (hr : Room k X.A) (hN : X.N[i]? = some x) (hv : Vis X.env.scope x)
    (hk : PySem.W.keepIn X.K (.ref f) = true) (hb : Binds X.K fd ps []) (hx : ∀ σ, L2.PassesAt CX X σ (E σ)) (ha : PA X (e :: es) t) (h1 : (x == ("__debug__" : Str)) = false) (h2 : (x == ("__classdict__" : Str)) = false)
    (he : starEach (e :: es) X.env = (false, eval e X.env) :: starEach es X.env) (hpl : (backTo pos (starEach es X.env)).any (·.1) = false) :
    PE X (.Call (.Name x p) (e :: es) [] pos) (fun σ H Q => σ[i]? = some (some (.ref f)) ∧ t σ H fun vs H1 => sp vs H1 Q (E σ)) := by
  constructor
  intro pins s σ H Q I hh
  have hn := (pe_var (pos := p) hN hv h1 h2).run pins s σ H (fun v Hv => v = .ref f ∧ Hv = H) I ⟨.ref f, hh.1, rfl, rfl⟩
  refine wpAny_Call_Name_kw (thn hn fun u s1 z => ?_)
  obtain ⟨v, Hv, I1, rv, ev, eH⟩ := z
  subst ev eH
  cases rv
  have hargs := ha.run pos pins s1 σ _ _ I1 hh.2
  refine PySem.W.callWith_K (h₀ := X.base) I.ok.mod.kin hk (thn hargs fun us s2 z => ?_) he hpl
  obtain ⟨vs, H2, I2, r2, q2⟩ := z
  exact ⟨I2.kIn, L2.run_fnS F hr hb (hx σ) I2 r2 q2⟩
theorem er_callV {i : Nat} {y : Str} {e : Expr} {es : List Expr} {a : List D → Option (List D)} {m : Md} (c : CalX X.prog X.w X.K X.mg X.base x k ps sem R) (hr : Room k X.A) (tk : L2.Takes X W) (hi : Γ[i]? = some .flat) (hN : X.N[i]? = some y) (hv : Vis X.env.scope y)
    (ha : EA X LL Γ (e :: es) a m) (hn : (e :: es).length = ps.length := by rfl) (h1 : (y == ("__debug__" : Str)) = false := by decide) (h2 : (y == ("__classdict__" : Str)) = false := by decide)
    (he : starEach (e :: es) X.env = (false, eval e X.env) :: starEach es X.env := by rfl) (hpl : (backTo pos (starEach es X.env)).any (·.1) = false := by rfl) :
    ER X W LL Γ (.Call (.Name y p) (e :: es) [] pos) (rCallV i x sem a) (R.md m) := by
  obtain ⟨f, fd, F, hm, hk, hb⟩ := c
  obtain ⟨hl, t, pt, kk⟩ := ha
  refine ⟨_, pe_slotcall F hr hN hv hk hb (fun σ => L2.passAt tk σ) pt h1 h2 he hpl, fun P g ρ σ H Q s e0 => ?_⟩
  have ea : ∃ ds, ρ[i]? = some (.fn x) ∧ a ρ = some ds ∧ rCallV i x sem a ρ = sem ds := by
    have hs : ∃ r, rCallV i x sem a ρ = some r := by
      rcases e0 with ⟨d, e1, _⟩ | ⟨c, e1, _⟩
      · exact ⟨_, e1⟩
      · exact ⟨_, e1⟩
    obtain ⟨r, hs⟩ := hs
    unfold rCallV at hs ⊢
    split at hs
    · rename_i z hz
      split at hs
      · rename_i hz2
        subst hz2
        obtain ⟨ds, e1, e2⟩ := bind_some hs
        exact ⟨ds, hz, e1, by rw [if_pos rfl, e1]; rfl⟩
      · cases hs
    · cases hs
  obtain ⟨ds, hfn, ea, er⟩ := ea
  obtain ⟨d', ov, g1, g2, g3⟩ := s.cells.get hi
  rw [hfn] at g1
  cases g1
  obtain ⟨v, rfl, rv⟩ := g3
  simp only [Rep] at rv
  obtain ⟨⟨b, rfl, hb2⟩, _⟩ := rv
  have : b = f := by rw [show X.mg x = some (.ref b) from hb2] at hm; cases hm; rfl
  subst this
  refine ⟨g2, kk P g ρ σ H ds _ s ea fun vs H1 x1 vl => ?_⟩
  obtain ⟨fp, r, o⟩ := vl
  refine ⟨by rw [r.length, hl ρ ds ea]; exact hn, ds, fp, r, ?_⟩
  rcases e0 with ⟨d, e1, q⟩ | ⟨c, e1, q⟩
  · exact .inl ⟨d, er.symm.trans e1, fun v H2 x2 rf => q v H2 (x1.trans x2) (rf_val x1 x2 o rf)⟩
  · exact .inr ⟨c, er.symm.trans e1, fun C H2 hC x2 => q C H2 hC (x1.trans x2)⟩
end

/-! ### statements of such expressions -/
def sSetR (i : Nat) (r : List D → Option Res) : Sv := fun ρ => match r ρ with
  | some (.ret d) => some (.nx (ρ.set i d))
  | some (.exn c) => some (.ex c ρ)
  | none => none
def sRetR (r : List D → Option Res) : Sv := fun ρ => match r ρ with
  | some (.ret d) => some (.rt d)
  | some (.exn c) => some (.ex c ρ)
  | none => none
def sExpR (r : List D → Option Res) : Sv := fun ρ => match r ρ with
  | some (.ret _) => some (.nx ρ)
  | some (.exn c) => some (.ex c ρ)
  | none => none
section
variable {X : Cx} {W : L2.WX} {sc : Sc} {Γ Γ' : List Kd} {pos : Pos}
theorem sx_setR {i : Nat} {x : Str} {e : Expr} {r : List D → Option Res} {m : Md} {pos' : Pos} (n k : Nat) (hN : X.N.Nodup) (hi : X.N[i]? = some x) (hx : L2.Loc X.env.scope x) (he : ER X W sc.LL Γ e r m) (hg : kdsLe [] Γ sc.Γx = true)
    (hs : swapsWith e (some (.Name x pos')) pos.line X.env = pure false := by rfl) (hf : X.fn x = true ∨ X.env.scope.names.lookup x = some .local := by first | exact .inl rfl | exact .inr rfl | assumption)
    (h1 : n ≠ 0 := by decide) (h2 : k ≠ 0 := by decide) : SX X W sc Γ (.Assign [.Name x pos'] e pos) (sSetR i r) (Γ.set i (m.kind n k)) := by
  obtain ⟨t, p, kk⟩ := he
  refine ⟨_, ps_set hN hi hx p hs hf, fun P g ρ σ H o D s e w => ?_⟩
  unfold sSetR at e
  refine kk P g ρ σ H _ s ?_
  cases hr : r ρ with
  | none => rw [hr] at e; cases e
  | some z =>
    rw [hr] at e
    cases z with
    | ret d =>
      cases e
      exact .inl ⟨d, rfl, fun v H' x vl => w (relab g H H' v n k) _ H' (.relab x) ⟨s.loc.relab x, Cells.set i (s.cells.relab s.loc x) (vl.cell s.loc h1 h2)⟩⟩
    | exn c =>
      cases e
      exact .inr ⟨c, rfl, fun C H' hC x => w C _ σ H' hC ((Step.ext x).trans (.re (m := []) rfl)) ((s.ext x).re rfl hg)⟩
theorem sx_expR {e : Expr} {r : List D → Option Res} {m : Md} (he : ER X W sc.LL Γ e r m) (hg : kdsLe [] Γ sc.Γx = true) (hs : swapsWith e none pos.line X.env = pure false := by rfl) : SX X W sc Γ (.Expr e pos) (sExpR r) Γ := by
  obtain ⟨t, p, kk⟩ := he
  refine ⟨_, ps_expr p hs, fun P g ρ σ H o D s e w => ?_⟩
  unfold sExpR at e
  refine kk P g ρ σ H _ s ?_
  cases hr : r ρ with
  | none => rw [hr] at e; cases e
  | some z =>
    rw [hr] at e
    cases z with
    | ret d =>
      cases e
      exact .inl ⟨d, rfl, fun v H' x vl => w g σ H' (.ext x) (s.ext x)⟩
    | exn c =>
      cases e
      exact .inr ⟨c, rfl, fun C H' hC x => w C _ σ H' hC ((Step.ext x).trans (.re (m := []) rfl)) ((s.ext x).re rfl hg)⟩
theorem sx_retR {e : Expr} {r : List D → Option Res} {m : Md} (he : ER X W sc.LL Γ e r m) (hg : kdsLe [] Γ sc.Γx = true) (hm : m = .flat ∨ sc.R = .out := by first | exact .inl rfl | exact .inr rfl) : SX X W sc Γ (.Return (some e) pos) (sRetR r) Γ' := by
  obtain ⟨t, p, kk⟩ := he
  refine ⟨_, ps_ret p, fun P g ρ σ H o D s e w => ?_⟩
  unfold sRetR at e
  refine kk P g ρ σ H _ s ?_
  cases hr : r ρ with
  | none => rw [hr] at e; cases e
  | some z =>
    rw [hr] at e
    cases z with
    | ret d =>
      cases e
      refine .inl ⟨d, rfl, fun v H' x vl => w v (relab g H H' v 1 1) H' (.relab x) (s.loc.relab x) ?_⟩
      cases m with
      | flat =>
        have rp : Rep X.vm H' d v [] := vl
        cases hR : sc.R with
        | flat => exact rp
        | fresh => exact ⟨[], rp, by simp, fun a ha => nomatch ha⟩
        | out => exact ⟨[], rp, fun a ha => nomatch ha⟩
      | al fr rt L nd =>
        rcases hm with hm | hm
        · cases hm
        · obtain ⟨fp, rp, o, z⟩ := vl
          rw [hm]
          refine ⟨fp, rp, fun a ha => ?_⟩
          have old : ∀ (L : List Nat) (b : Addr), Old P g L b → relab g H H' v 1 1 b ≠ 0 ∨ P.out b := fun L b y => by
            rw [relab_old (y.there s.loc)]
            by_cases e0 : g b = 0
            · exact .inr (y.2 e0)
            · exact .inl e0
          rcases o a ha with ⟨e, y⟩ | ⟨_, ⟨_, y⟩ | y⟩
          · cases rt with
            | new => exact .inl (by rw [relab_new y]; split <;> decide)
            | old n => exact old _ a y
            | unk => exact y.elim
          · exact .inl (by rw [relab_new y]; split <;> decide)
          · exact old _ a y
    | exn c =>
      cases e
      exact .inr ⟨c, rfl, fun C H' hC x => w C _ σ H' hC ((Step.ext x).trans (.re (m := []) rfl)) ((s.ext x).re rfl hg)⟩
end
end VV

/-! ## VExc2 -/
namespace VV
open PySem PySem.Spec PyProof.Rows L2

/-! ### the program's exception classes -/
def six : List Str := ["NoTable", "NoPlace", "NoMove", "NoWord", "NoText", "TooMany"]
/-- whether an exception of the class c is one of the class y -/
def subX (c y : Str) : Option Bool := if y = c ∨ y = "CordError" ∨ y = "ValueError" then some true else if y ∈ six then some false else none
def isAny (c : Str) : List Str → Option Bool
  | [] => some false
  | y :: r => match subX c y with
    | some true => some true
    | some false => isAny c r
    | none => none
structure ExW (K : PySem.W.Frag) (mg : Str → Option Value) (L : List Str) : Prop where
  i : ∀ c C, c ∈ L → mg c = some (.ref C) → ExcC K C
  k : ∀ c C y u b, c ∈ L → mg c = some (.ref C) → subX c y = some b → (mg y = some u ∨ (mg y = none ∧ bootBuiltins y = some u)) → PySem.W.kitOne K (.ref C) u = some b
  m : ∀ c C y D b, c ∈ L → mg c = some (.ref C) → subX c y = some b → mg y = some (.ref D) → PySem.W.exmOne K (.ref C) (.ref D) = some b
theorem names_or {X : Cx} {y : Str} {u : Value} (h : L2.Names X y u) : X.mg y = some u ∨ (X.mg y = none ∧ bootBuiltins y = some u) := by
  obtain ⟨_, _, h | ⟨h1, h2, _⟩⟩ := h
  · exact .inl h
  · exact .inr ⟨h1, h2⟩
theorem pe_names {X : Cx} {y : Str} {u : Value} {v : V} {p : Pos} (h : L2.Names X y u) (r : RelV v u) : PE X (.Name y p) (tC v) := by
  obtain ⟨hg, hd, h | ⟨h1, h2, h3⟩⟩ := h
  · exact pe_glob hg h r hd
  · exact pe_bltn hg h1 h2 r h3 hd

/-! ### isinstance(e, X), isinstance(e, (X, ..)) of the exception that is handled -/
def rIsX (K : PySem.W.Frag) (C a : Addr) : List V → Hp → VK → Prop := fun xs H Q => ∃ (c : V) (b : Bool), xs = [.ref a, c] ∧ Q (.bl b) H ∧
  ((∃ cv, (∀ u, RelV c u → u = cv) ∧ PySem.W.kitOne K (.ref C) cv = some b) ∨ ∃ t vs us, c = .ref t ∧ H t = some (.tup vs) ∧ (∀ ws, Vals vs ws → ws = us) ∧ PySem.W.kitAny K (.ref C) us = some b)
theorem call_isX {X : Cx} {a C : Addr} {oe : Obj} (hp : (a, oe) ∈ X.pn) (E : ExcC X.K C) (hz : Zc (.ref C) none oe) (hf : ∃ vs, oe.data = .fields vs) : CallR X (.builtin "isinstance") (rIsX X.K C a) := by
  intro pins s σ H xs us Q I r h
  obtain ⟨c, b, rfl, q, h⟩ := h
  obtain ⟨hget, _⟩ := I.pin (a, oe) (List.mem_append_left _ hp)
  have J : PySem.W.InstAt s.heap a oe C none := by
    obtain ⟨vs, hv⟩ := hf
    cases oe with
    | mk oc od oda osl =>
      obtain ⟨z1, z2⟩ := hz
      cases z1
      cases z2
      cases hv
      exact ⟨hget, rfl, rfl, trivial⟩
  have Z := PySem.W.handS_kitx_exc (x := a) (ox := oe) E.hg E.hk E.hs E.hd E.ha E.hn E.ht E.hm
  match us, r with
  | [_, w], .cons rx (.cons rt .nil) =>
    cases rx
    rcases h with ⟨cv, hcv, e⟩ | ⟨t, vs, ws, rfl, ht, hws, e⟩
    · cases hcv w rt
      exact PySem.W.kia_one Z I.kIn J e (fun z => nomatch z) fun tk => ⟨.bl b, H, I.kept (t' := tk) fun _ _ z => z, rfl, q⟩
    · cases rt
      obtain ⟨_, its, rv, ob, ho, htup⟩ := I.hok t _ ht
      have e0 := hws its rv
      subst e0
      obtain ⟨oc, od, oda, osl⟩ := ob
      obtain ⟨h1, n, h2⟩ := htup
      cases h1
      cases h2
      exact PySem.W.kia_tup Z I.kIn J ho e (fun z => nomatch z) fun tk => ⟨.bl b, H, I.kept (t' := tk) fun _ _ z => z, rfl, q⟩

def eIsX (i : Nat) (ys : List Str) : Ev := fun ρ => match ρ[i]? with
  | some (.str c) => (isAny c ys).map .bl
  | _ => none
theorem isX_s {i : Nat} {ys : List Str} {ρ : List D} {c : Str} {b : Bool} (h : ρ[i]? = some (.str c)) (e : isAny c ys = some b) : eIsX i ys ρ = some (.bl b) := by
  unfold eIsX
  rw [h]
  dsimp only
  rw [e]
  rfl
/-- the class names of a tuple of them -/
def NamesL (X : Cx) : List Expr → List Str → List V → List Value → Prop
  | [], [], [], [] => True
  | .Name y _ :: es, z :: ys, v :: vs, u :: us => y = z ∧ L2.Names X y u ∧ RelV v u ∧ (∀ w, RelV v w → w = u) ∧ NamesL X es ys vs us
  | _, _, _, _ => False
section
variable {X : Cx} {L : List Str} {LL : List Nat} {Γ : List Kd} {a : Addr} {oe : Obj} {c : Str} {C : Addr} {pos p q tp : Pos}
theorem kitAny_of (T : ExW X.K X.mg L) (hc : c ∈ L) (hm : X.mg c = some (.ref C)) : ∀ {es : List Expr} {ys : List Str} {vs : List V} {us : List Value} {b : Bool}, NamesL X es ys vs us → isAny c ys = some b → PySem.W.kitAny X.K (.ref C) us = some b
  | [], [], [], [], _, _, e => by cases e; rfl
  | .Name y _ :: es, z :: ys, v :: vs, u :: us, b, h, e => by
    obtain ⟨rfl, h1, _, _, h2⟩ := h
    unfold isAny at e
    unfold PySem.W.kitAny
    cases hs : subX c y with
    | none => rw [hs] at e; cases e
    | some t =>
      rw [T.k c C y u t hc hm hs (names_or h1)]
      rw [hs] at e
      cases t with
      | true => exact e
      | false => exact kitAny_of T hc hm h2 e
theorem pa_names : ∀ {es : List Expr} {ys : List Str} {vs : List V} {us : List Value}, NamesL X es ys vs us → ∃ t, PA X es t ∧ ∀ σ H Q, Q vs H → t σ H Q
  | [], [], [], [], _ => ⟨_, pa_nil, fun σ H Q h => h⟩
  | .Name y p :: es, z :: ys, v :: vs, u :: us, h => by
    obtain ⟨rfl, h1, h2, _, h3⟩ := h
    obtain ⟨t, pt, k⟩ := pa_names h3
    refine ⟨_, pa_cons (pe_names h1 h2) pt (by rfl), fun σ H Q h => ?_⟩
    exact k σ H _ h
theorem namesL_vals : ∀ {es : List Expr} {ys : List Str} {vs : List V} {us ws : List Value}, NamesL X es ys vs us → Vals vs ws → ws = us
  | [], [], [], [], _, _, .nil => rfl
  | .Name y _ :: es, z :: ys, v :: vs, u :: us, _, h, .cons r rr => by
    obtain ⟨_, _, _, h4, h5⟩ := h
    rw [h4 _ r, namesL_vals h5 rr]
/-- isinstance(e, X) -/
theorem ex_isX {i : Nat} {x y : Str} {u : Value} {v : V} (T : ExW X.K X.mg L) (hp : (a, oe) ∈ X.pn) (hz : Zc (.ref C) none oe) (hf : ∃ vs, oe.data = .fields vs) (hc : c ∈ L) (hm : X.mg c = some (.ref C)) (hi : Γ[i]? = some (.exc a c)) (hN : X.N[i]? = some x) (hv : Vis X.env.scope x)
    (hg : Gl X "isinstance") (hb : X.mg "isinstance" = none) (hbv : bootBuiltins "isinstance" = some (.builtin "isinstance")) (hy : L2.Names X y u) (r : RelV v u) (ru : ∀ w, RelV v w → w = u)
    (h1 : (x == ("__debug__" : Str)) = false := by decide) (h2 : (x == ("__classdict__" : Str)) = false := by decide)
    (hs : starEach [.Name x tp, .Name y q] X.env = (false, eval (.Name x tp) X.env) :: starEach [.Name y q] X.env := by rfl) (hs2 : starEach [.Name y q] X.env = (false, eval (.Name y q) X.env) :: starEach [] X.env := by rfl)
    (hpl : (backTo pos (starEach [.Name y q] X.env)).any (·.1) = false := by rfl) : EX X LL Γ (.Call (.Name "isinstance" p) [.Name x tp, .Name y q] [] pos) (eIsX i [y]) .flat := by
  refine ⟨_, pe_callB (call_isX hp (T.i c C hc hm) hz hf) hg hb hbv (pa_cons (pe_var hN hv h1 h2) (pa_cons (pe_names hy r) pa_nil hs2) hs) (by decide) (by decide) hs hpl, fun P g ρ σ H d Q s e0 k => ?_⟩
  obtain ⟨d', ov, g1, g2, rfl, rfl⟩ := s.cells.get hi
  unfold eIsX at e0
  rw [g1] at e0
  obtain ⟨b, e1, e2⟩ := Option.map_eq_some_iff.mp e0
  cases e2
  refine ⟨.ref a, g2, v, b, rfl, k _ H Ext.refl (val_flat rep_bl), .inl ⟨u, ru, T.k c C y u b hc hm ?_ (names_or hy)⟩⟩
  unfold isAny isAny at e1
  cases hs : subX c y with
  | none => rw [hs] at e1; cases e1
  | some t => rw [hs] at e1; cases t <;> exact e1
/-- isinstance(e, (X, ..)) -/
theorem ex_isXs {i : Nat} {x : Str} {es : List Expr} {ys : List Str} {vs : List V} {us : List Value} {tpos : Pos} {tc : Nat} (T : ExW X.K X.mg L) (hp : (a, oe) ∈ X.pn) (hz : Zc (.ref C) none oe) (hf : ∃ vs, oe.data = .fields vs) (hc : c ∈ L) (hm : X.mg c = some (.ref C)) (hi : Γ[i]? = some (.exc a c)) (hN : X.N[i]? = some x) (hv : Vis X.env.scope x)
    (hg : Gl X "isinstance") (hb : X.mg "isinstance" = none) (hbv : bootBuiltins "isinstance" = some (.builtin "isinstance")) (hy : NamesL X es ys vs us) (hl : vs.length ≤ 1000 := by exact Nat.le_of_ble_eq_true rfl)
    (h1 : (x == ("__debug__" : Str)) = false := by decide) (h2 : (x == ("__classdict__" : Str)) = false := by decide)
    (hs : starEach [.Name x tp, .Tuple es tc tpos] X.env = (false, eval (.Name x tp) X.env) :: starEach [.Tuple es tc tpos] X.env := by rfl) (hs2 : starEach [.Tuple es tc tpos] X.env = (false, eval (.Tuple es tc tpos) X.env) :: starEach [] X.env := by rfl)
    (hpl : (backTo pos (starEach [.Tuple es tc tpos] X.env)).any (·.1) = false := by rfl) : EX X LL Γ (.Call (.Name "isinstance" p) [.Name x tp, .Tuple es tc tpos] [] pos) (eIsX i ys) .flat := by
  obtain ⟨t, pa, ka⟩ := pa_names hy
  refine ⟨_, pe_callB (call_isX hp (T.i c C hc hm) hz hf) hg hb hbv (pa_cons (pe_var hN hv h1 h2) (pa_cons (pe_tup pa) pa_nil hs2) hs) (by decide) (by decide) hs hpl, fun P g ρ σ H d Q s e0 k => ?_⟩
  obtain ⟨d', ov, g1, g2, rfl, rfl⟩ := s.cells.get hi
  unfold eIsX at e0
  rw [g1] at e0
  obtain ⟨b, e1, e2⟩ := Option.map_eq_some_iff.mp e0
  cases e2
  refine ⟨.ref a, g2, ka σ H _ ⟨Nat.le_of_lt (small1000 hl), fun z hz => ?_⟩⟩
  refine ⟨.ref z, b, rfl, k _ _ (Ext.put hz) (val_flat rep_bl), .inr ⟨z, vs, us, rfl, upd_same, fun ws hw => namesL_vals hy hw, kitAny_of T hc hm hy e1⟩⟩
end
end VV

/-! ## VExc3 -/
namespace VV
open PySem PySem.Spec PyProof.Rows L2

/-! ### try: .. except Y as e: .. , what is caught is answered -/
def sTry (L : List Str) (b : Sv) (y : Str) (i : Nat) (s : Sv) : Sv := fun ρ => match b ρ with
  | some (.ex c ρ') => if L.contains c && (subX c y == some true) then (match s (ρ'.set i (.str c)) with | some (.rt d) => some (.rt d) | _ => none) else none
  | o => o
theorem PSs.less {X : Cx} {st : List Stmt} {t u : TS} (h : PSs X st t) (k : ∀ D σ H, u D σ H → t D σ H) : PSs X st u := ⟨fun pins s σ H D I hw => h.run pins s σ H D I (k D σ H hw)⟩
section
variable {X : Cx} {W : L2.WX} {sc : Sc} {Γ Γ' : List Kd} {pos pos' np : Pos} {L : List Str}
theorem sx_try {i : Nat} {x n : Str} {D0 : Addr} {body suite : List Stmt} {b₀ : Stmt} {sb ss : Sv} (T : ExW X.K X.mg L) (hs : X.stack = X.env :: X.outer) (hf : X.env.frame = some X.env.locals) (hN : X.N.Nodup) (hi : X.N[i]? = some n) (hln : X.env.kindOf n = some .local)
    (hc : L2.Names X x (.ref D0)) (hm0 : X.mg x = some (.ref D0))
    (hb : ∀ (W' : L2.WX) (pn : List (Addr × Obj)) (xe : Value → Shared → Prop), L2.Takes (X.tr pn xe) W' → PassesOwn (model X.prog X.w) X.A X.env xe → SS (X.tr pn xe) W' { sc with Γx := Γ } Γ body sb Γ')
    (hsu : ∀ (a : Addr) (oe : Obj) (c : Str) (C : Addr) (pn : List (Addr × Obj)), c ∈ L → X.mg c = some (.ref C) → Zc (.ref C) none oe → (∃ vs, oe.data = .fields vs) → (a, oe) ∈ (a, oe) :: pn →
      SS (X.suite a ((a, oe) :: pn)) (fun _ _ _ _ => False) sc (Γ.set i (.exc a c)) (b₀ :: suite) ss Γ') :
    SX X W sc Γ (.Try body [.ExceptHandler (some (.Name x np)) (some n) (b₀ :: suite) pos'] [] [] pos) (sTry L sb x i ss) Γ' := by
  let tb : L2.WX → TS := fun W' D σ H => ∀ (pn : List (Addr × Obj)) (xe : Value → Shared → Prop) (tk : L2.Takes (X.tr pn xe) W') (hp : PassesOwn (model X.prog X.w) X.A X.env xe), (hb W' pn xe tk hp).choose D σ H
  let ts : Addr → Value → Option Addr → TS := fun a cls d D σ H => ∃ (c : Str) (C : Addr) (hcL : c ∈ L) (hm : X.mg c = some (.ref C)), cls = .ref C ∧ d = none ∧
    ∀ (oe : Obj) (pn : List (Addr × Obj)) (hz : Zc (.ref C) none oe) (hd : ∃ vs, oe.data = .fields vs), (hsu a oe c C pn hcL hm hz hd List.mem_cons_self).choose D σ H
  have pb : ∀ (W' : L2.WX) (pn : List (Addr × Obj)) (xe : Value → Shared → Prop), L2.Takes (X.tr pn xe) W' → PassesOwn (model X.prog X.w) X.A X.env xe → PSs (X.tr pn xe) body (tb W') := fun W' pn xe tk hp =>
    PSs.less (hb W' pn xe tk hp).choose_spec.1 fun D σ H h => h pn xe tk hp
  have psu : ∀ (a : Addr) (oe : Obj) (cls : Value) (d : Option Addr) (pn : List (Addr × Obj)), Zc cls d oe → (∃ vs, oe.data = .fields vs) → PSs (X.suite a ((a, oe) :: pn)) (b₀ :: suite) (ts a cls d) := fun a oe cls d pn hz hd =>
    ⟨fun pins s σ H D I hw => by
      obtain ⟨c, C, hcL, hm, rfl, rfl, hk⟩ := hw
      exact (hsu a oe c C pn hcL hm hz hd List.mem_cons_self).choose_spec.1.run pins s σ H D I (hk oe pn hz hd)⟩
  refine ⟨_, L2.ps_try_as (i := i) (tb := tb) (ts := ts) (Wout := fun _ _ _ _ => False) hs hf hN hi hln hc L2.takes0 pb psu, fun P g ρ σ H o De s e w => ?_⟩
  intro pn xe tk hp
  cases eb : sb ρ with
  | none => unfold sTry at e; rw [eb] at e; cases e
  | some o1 =>
    refine (hb _ pn xe tk hp).choose_spec.2 P g ρ σ H o1 _ s eb ?_
    unfold sTry at e
    rw [eb] at e
    cases o1 with
    | nx ρ' => cases e; exact w
    | ct ρ' => cases e; exact w
    | rt d => cases e; exact w
    | ex c ρ' =>
      dsimp only at e
      split at e
      · rename_i hcx
        simp only [Bool.and_eq_true, List.contains_iff_mem, beq_iff_eq] at hcx
        cases es : ss (ρ'.set i (.str c)) with
        | none => rw [es] at e; cases e
        | some o2 =>
          rw [es] at e
          cases o2 with
          | rt d =>
            cases e
            intro C g' σ' H' hm st sta
            refine ⟨true, T.m c C x D0 true hcx.1 hm hcx.2 hm0, fun _ a ha => ⟨c, C, hcx.1, hm, rfl, rfl, fun oe pn2 hz hd => ?_⟩, fun h => nomatch h⟩
            refine (hsu a oe c C pn2 hcx.1 hm hz hd List.mem_cons_self).choose_spec.2 P g' _ _ H' _ _ ⟨sta.loc, Cells.set i sta.cells ⟨rfl, rfl⟩⟩ es ?_
            exact fun v g2 H2 st2 l2 rv => w v g2 H2 (st.trans st2) l2 rv
          | _ => cases e
      · cases e
end

/-! ### defs of an exception, asked in a suite -/
def FxOk (P : Program) (w : World) (K : PySem.W.Frag) (mg : Str → Option Value) (base : Heap) (L : List Str) (k : Nat) (f : Addr) (fd : FuncData) (px : Str) (sem : List D → Option Res) : Prop :=
  ∀ (A : Around) (outer : List Env) (s : Shared) (H : Hp) (args : Args) (Q : VK) (E : XK) (a : Addr) (oe : Obj) (c : Str) (C : Addr), c ∈ L → mg c = some (.ref C) → Zc (.ref C) none oe → (∃ vs, oe.data = .fields vs) → L2H.PinOk outer H s (a, oe) →
    L2H.RoomH k A → Env0 P w K mg base A outer s H → BindsTo s fd args [(px, .ref a)] → (∃ d, sem [.str c] = some (.ret d) ∧ ∀ v H', Ext H H' → Rep ⟨mg, K⟩ H' d v [] → Q v H') → codeAny (model P w) A (.call (.ref f) args) (CR CX0 outer P w H s Q E) s
theorem _root_.L2H.RoomH.units {k : Nat} {A : Around} (r : L2H.RoomH k A) : A.units + 64 < cLine := by have := r.un; omega
section
variable {P : Program} {w : World} {K : PySem.W.Frag} {mg : Str → Option Value} {base : Heap} {x qual px : Str} {params : Arguments} {body : List Stmt} {scope : Scope} {f : Addr} {fd : FuncData} {L : List Str}
theorem fx_ok {N : List Str} {k : Nat} {sc : Sc} {Γ' : List Kd} {sm : Sv} (F : FunD K x qual params body scope [] [] f fd) (S : FnScope N [px] scope) (hN : 1 ≤ N.length) (hL : sc.LL = []) (hR : sc.R = .flat)
    (hb : ∀ (cdv : Value) (A : Around) (outer : List Env) (s0 : Shared) (H : Hp) (E : XK) (a : Addr) (oe : Obj) (c : Str) (C : Addr), c ∈ L → mg c = some (.ref C) → Zc (.ref C) none oe → (∃ vs, oe.data = .fields vs) → (a, oe) ∈ [(a, oe)] → L2H.RoomH k (A.deeper (envOfC qual scope s0.heap.objs.size f cdv)) →
      SS (L2H.cxH CX0 P w K mg base N qual scope f cdv A outer s0 H E (a, oe)).nox (fun _ _ _ _ => False) sc (.exc a c :: List.replicate (N.length - 1) .dead) body sm Γ') : FxOk P w K mg base L (k + 1) f fd px (fnSem N.length [.flat] sm) := by
  obtain ⟨oc, od, dV, kV, doc, pm, an, cdv, ct, osl, rfl, hlk, hcode, _, _⟩ := F.ex
  intro A outer s H args Q E a oe c C hcL hm hz hd hpin hr e0 hbind hsem
  obtain ⟨d, ed, hQ⟩ := hsem
  have kin : K.In s.heap := e0.mod.kin.keeps fun b o q => (e0.bs b o q).1
  have nolim : s.heap.NoLimit := e0.mod.nolimit.keeps fun b o q => (e0.bs b o q).1
  have kinds : ∀ y ∈ [(px, Value.ref a)], scope.names.lookup y.1 = some .local ∨ (scope.names.lookup y.1 = some .cell ∧ ((cellsFrom (s.heap.objs.size + 1) scope.names []).lookup y.1).isSome = true) := by
    intro y hy
    rw [List.mem_singleton.mp hy]
    rcases S.par px List.mem_cons_self with q | q
    · exact .inl q
    · exact .inr ⟨q, PySem.W.cellsFrom_some _ _ _ (.inl q)⟩
  refine codeAny_call_function hr.depth (kin _ _ hlk) rfl S.co S.gen rfl (PySem.W.codeRec_of kin hcode) (hbind _ _ _ _ ?_)
  refine wpAny_newFunctionEnv_cells S.kind kinds fun env he s1 z => ?_
  subst he
  refine ⟨nolim.keeps z.toInCall.keep, codeAny_func ?_⟩
  have I := L2H.inv_startH (CX := CX0) (E := E) (f := f) (cd := cdv) (qual := qual) (N := N) (ps := [px]) (us := [Value.ref a]) (vs := [V.ref a]) S hpin e0 rfl (.cons rfl .nil) z
  obtain ⟨t, pt, kt⟩ := hb cdv A outer s H E a oe c C hcL hm hz hd List.mem_cons_self (hr.deeper _)
  have hsm : fnSem N.length [.flat] sm [.str c] = match sm ([.str c] ++ List.replicate (N.length - [D.str c].length) .non) with
      | some (.nx _) => some (.ret .non)
      | some (.rt d) => some (.ret d)
      | some (.ex c _) => some (.exn c)
      | _ => none := if_pos (by rfl)
  rw [hsm] at ed
  have st : Sta ⟨mg, K⟩ ⟨fun _ => False, fun _ => False⟩ sc.LL (.exc a c :: List.replicate (N.length - 1) .dead) (fun _ => 0) ([.str c] ++ List.replicate (N.length - [D.str c].length) .non) (L2.start N [.ref a]) H := by
    rw [hL]
    refine ⟨⟨fun b q => absurd rfl q, fun b q => q.elim, fun b q => q.elim⟩, ?_⟩
    refine ⟨⟨rfl, rfl⟩, ?_⟩
    show Cells _ _ _ _ (List.replicate (N.length - 1) .dead) (List.replicate (N.length - 1) .non) (List.replicate (N.length - 1) none)
    generalize N.length - 1 = j
    induction j with
    | zero => trivial
    | succ j ih => exact ⟨trivial, ih⟩
  have goal : t { nx := fun _ H' => Q .non H', rt := Q } (L2.start N [.ref a]) H := by
    cases ho : sm ([.str c] ++ List.replicate (N.length - [D.str c].length) .non) with
    | none => rw [ho] at ed; cases ed
    | some o =>
      rw [ho] at ed
      refine kt ⟨fun _ => False, fun _ => False⟩ (fun _ => 0) _ _ H o _ st ho ?_
      cases o with
      | nx ρ' =>
        cases ed
        intro g' σ' H' s' _
        rw [hL] at s'
        exact hQ .non H' (step_ext s') rep_non
      | ct ρ' => cases ed
      | rt d' =>
        cases ed
        intro v g' H' s' _ rv
        rw [hL] at s'
        rw [hR] at rv
        exact hQ v H' (step_ext s') rv
      | ex c' ρ' => cases ed
  refine wpAny_mono (pt.run [] s1 (L2.start N [.ref a]) H _ (I.wish _) goal) (fun fl s' hs => ?_) fun e s' hs => hs.elim
  have close : ∀ {σ' : L2.St} {H' : Hp} {v : V} {u : Value}, Inv (L2H.cxH CX0 P w K mg base N qual scope f cdv A outer s H E (a, oe)).nox [] σ' H' s' → RelV v u → Q v H' → CE outer P w H s Q u s' :=
    fun {σ' H' v u} J rv q => ⟨v, H', J.os, J.bare, J.base, J.hok, rv, q⟩
  cases fl with
  | next => obtain ⟨σ', H', J, q⟩ := hs; exact close (v := V.non) (u := Value.none) J rfl q
  | ret u => obtain ⟨v, σ', H', J, rv, q⟩ := hs; exact close J rv q
  | brk => obtain ⟨_, _, _, q⟩ := hs; exact q.elim
  | cont => obtain ⟨_, _, _, q⟩ := hs; exact q.elim
end
def CalE (P : Program) (w : World) (K : PySem.W.Frag) (mg : Str → Option Value) (base : Heap) (L : List Str) (x : Str) (k : Nat) (px : Str) (sem : List D → Option Res) : Prop :=
  ∃ f fd, FxOk P w K mg base L k f fd px sem ∧ mg x = some (.ref f) ∧ PySem.W.keepIn K (.ref f) = true ∧ Binds K fd [px] []
section
variable {X : Cx} {L : List Str} {LL : List Nat} {Γ : List Kd} {a : Addr} {oe : Obj} {c : Str} {C : Addr} {pos p tp : Pos}
theorem ex_callE {i k : Nat} {x g px : Str} {sem : List D → Option Res} (ca : CalE X.prog X.w X.K X.mg X.base L g k px sem) (hp : (a, oe) ∈ X.pn) (hz : Zc (.ref C) none oe) (hf : ∃ vs, oe.data = .fields vs) (hc : c ∈ L) (hm : X.mg c = some (.ref C)) (hi : Γ[i]? = some (.exc a c))
    (hN : X.N[i]? = some x) (hv : Vis X.env.scope x) (hr : L2H.RoomH k X.A) (hg : Gl X g) (h1 : (x == ("__debug__" : Str)) = false := by decide) (h2 : (x == ("__classdict__" : Str)) = false := by decide) (h3 : (g == ("__debug__" : Str)) = false := by decide)
    (hs : starEach [.Name x tp] X.env = (false, eval (.Name x tp) X.env) :: starEach [] X.env := by rfl) (hpl : (backTo pos (starEach [] X.env)).any (·.1) = false := by rfl) :
    EX X LL Γ (.Call (.Name g p) [.Name x tp] [] pos) (eCall sem (aCons (eVar i) aNil)) .flat := by
  obtain ⟨f, fd, F, hmg, hk, hb⟩ := ca
  refine ⟨fun σ H Q => σ[i]? = some (some (.ref a)) ∧ ∃ d, sem [.str c] = some (.ret d) ∧ ∀ v H', Ext H H' → Rep X.vm H' d v [] → Q v H', ⟨fun pins s σ H Q I hh => ?_⟩, fun P g0 ρ σ H d Q s e0 q => ?_⟩
  · obtain ⟨hσ, hsem⟩ := hh
    refine wpAny_Call_Name_kw (ld_glob I hg hmg ?_ h3)
    have ha : PA X [.Name x tp] (tCons (tVar i) tNil) := pa_cons (pe_var hN hv h1 h2) pa_nil hs
    have hargs := ha.run pos pins s σ H (fun vs H1 => vs = [V.ref a] ∧ H1 = H) I ⟨.ref a, hσ, rfl, rfl⟩
    refine PySem.W.callWith_K (h₀ := X.base) I.ok.mod.kin hk (thn hargs fun us s2 z => ?_) hs hpl
    obtain ⟨vs, H2, I2, r2, ev, eH⟩ := z
    subst ev eH
    match us, r2 with
    | [_], .cons ru .nil =>
      cases ru
      have pin := I2.pin (a, oe) (List.mem_append_left _ hp)
      have nof : a ∉ frs X.stack := fun hm => by
        rcases List.mem_cons.mp (I2.stkSub a hm) with z | z
        · exact pin.2.2.1 z
        · exact pin.2.2.2.1 z
      have bt := hb s2 [Value.ref a] I2.kIn rfl
      refine ⟨I2.kIn, wpAny_call (codeAny_mono (F X.A X.stack s2 _ ⟨[Value.ref a], []⟩ Q (fun _ _ _ => False) a oe c C hc hm hz hf ⟨pin.1, pin.2.1, nof, pin.2.2.2.2⟩ hr I2.env0 bt hsem) fun r s' hq => ?_)⟩
      cases r with
      | error e => exact hq.elim
      | ok fl =>
        cases fl with
        | ret u => exact I2.after hq
        | next => exact False.elim hq
        | brk => exact False.elim hq
        | cont => exact False.elim hq
  · obtain ⟨d', ov, g1, g2, rfl, rfl⟩ := s.cells.get hi
    obtain ⟨ds, e1, e2⟩ := bind_some e0
    have : ds = [.str c] := by
      have : aCons (eVar i) aNil ρ = some [.str c] := by simp [g1]
      rw [this] at e1; cases e1; rfl
    subst this
    refine ⟨g2, d, ?_, fun v H' x r => q v H' x r⟩
    split at e2
    · cases e2; assumption
    · cases e2
end

theorem roomH_mark {k : Nat} {A : Around} {v : Option Value} (r : Room k A) : L2H.RoomH k (A.mark v) := ⟨r.dp, r.un⟩
/-- a def that may raise, where it does not -/
theorem CalX.cal {P : Program} {w : World} {K : PySem.W.Frag} {mg : Str → Option Value} {base : Heap} {x : Str} {k : Nat} {ps : List Str} {sem : List D → Option Res} {R : Rm} (c : CalX P w K mg base x k ps sem R) : Cal P w K mg base x k ps sem R := by
  obtain ⟨f, fd, F, h1, h2, h3⟩ := c
  refine ⟨f, fd, ⟨fun vs H Q E h => h.1, fun A outer s H args us vs Q E hr e0 hb hv hs => ?_⟩, h1, h2, h3⟩
  obtain ⟨hl, ds, fp, d, r, e, q⟩ := hs
  refine codeAny_mono (F.run A outer s H args us vs Q (fun _ _ _ => False) hr e0 hb hv ⟨hl, ds, fp, r, .inl ⟨d, e, q⟩⟩) fun z s' hz => ?_
  cases z with
  | ok fl => cases fl <;> exact hz
  | error e =>
    obtain ⟨_, _, _, _, _, _, _, _, _, _, _, _, q⟩ := hz
    exact q.elim
theorem ex_fn {X : Cx} {LL : List Nat} {Γ : List Kd} {x : Str} {f : Addr} {p : Pos} (hm : X.mg x = some (.ref f)) (hg : Gl X x) (hd : (x == ("__debug__" : Str)) = false := by decide) : EX X LL Γ (.Name x p) (eC (.fn x)) .flat := by
  refine ⟨_, pe_glob (v := .ref f) hg hm rfl hd, fun P g ρ σ H d Q s e q => ?_⟩
  cases e
  refine q _ H Ext.refl ?_
  show Rep X.vm H (.fn x) (.ref f) []
  simp only [Rep]
  exact ⟨⟨f, rfl, hm⟩, trivial⟩
theorem CalX.at {P : Program} {w : World} {K : PySem.W.Frag} {mg : Str → Option Value} {base : Heap} {x : Str} {k : Nat} {ps : List Str} {sem : List D → Option Res} {R : Rm} (c : CalX P w K mg base x k ps sem R) : mg x = some (.ref c.choose) := c.choose_spec.choose_spec.2.1
theorem Cal.at {P : Program} {w : World} {K : PySem.W.Frag} {mg : Str → Option Value} {base : Heap} {x : Str} {k : Nat} {ps : List Str} {sem : List D → Option Res} {R : Rm} (c : Cal P w K mg base x k ps sem R) : mg x = some (.ref c.choose) := c.choose_spec.choose_spec.2.1
end VV

/-! ## VHead -/
namespace VV
open PySem PySem.Spec PyProof.Rows L2 He

/-! ### a head with exception classes -/
def cord : Str := "CordError"
def excB (K : PySem.W.Frag) (D : Addr) : Bool :=
  decide (PySem.W.findIn K (.ref D) "__getattribute__" = some (some (.builtin "BaseException.__getattribute__"))) && (decide (PySem.W.findIn K (.ref D) "__getattr__" = some none) &&
  (decide (PySem.W.subIn K (.ref D) (.type "BaseException") = some true) && (PySem.W.hasDictIn K D && (decide (PySem.W.findIn K (.ref D) "__class__" = some (some (.builtin "object.__class__"))) &&
  (decide (PySem.W.specialIn K (.builtin "object.__class__") "__get__" = some (some (.builtin "getset_descriptor.__get__"))) && (decide (PySem.W.takesIn K (.builtin "object.__class__") = some true) && decide (PySem.W.mroIn K D (.type "object") = some true)))))))
theorem excB_ok {K : PySem.W.Frag} {D : Addr} (h : excB K D = true) : ExcC K D := by
  unfold excB at h
  simp only [Bool.and_eq_true, decide_eq_true_eq] at h
  obtain ⟨h1, h2, h3, h4, h5, h6, h7, h8⟩ := h
  exact ⟨h1, h2, h3, h4, h5, h6, h7, h8⟩
def exB (L : List Str) (K : PySem.W.Frag) : Bool :=
  ((Fa.glo "CordError").ok K && ((Fa.free "ValueError").ok K && six.all fun y => L.contains y || (Fa.free y).ok K)) &&
  L.all fun c => six.contains c && ((Fa.glo c).ok K && ((Fa.exc c).ok K && (excB K (ga K c) && (decide (PySem.W.kitOne K (.ref (ga K c)) (.type "ValueError") = some true) &&
    (cord :: L).all fun y => decide (PySem.W.kitOne K (.ref (ga K c)) (.ref (ga K y)) = subX c y) && decide (PySem.W.exmOne K (.ref (ga K c)) (.ref (ga K y)) = subX c y)))))
theorem boot_six : ∀ y ∈ six, bootBuiltins y = none := by decide +kernel
theorem boot_ve : bootBuiltins "ValueError" = some (.type "ValueError") := by decide +kernel
section
variable {K : PySem.W.Frag} {h : Heap} {mg : Str → Option Value} {L : List Str}
theorem exB_class (X : K.In h) (G : h.Ns mainGlobals mg) (e : exB L K = true) {c : Str} (hc : c ∈ L) : mg c = some (.ref (ga K c)) ∧ ExF K (ga K c) ∧ ExcC K (ga K c) ∧ PySem.W.kitOne K (.ref (ga K c)) (.type "ValueError") = some true ∧ c ∈ six ∧
    ∀ y ∈ cord :: L, PySem.W.kitOne K (.ref (ga K c)) (.ref (ga K y)) = subX c y ∧ PySem.W.exmOne K (.ref (ga K c)) (.ref (ga K y)) = subX c y := by
  unfold exB at e
  rw [Bool.and_eq_true] at e
  have e2 := List.all_eq_true.mp e.2 c hc
  simp only [Bool.and_eq_true, decide_eq_true_eq] at e2
  obtain ⟨h0, h1, h2, h3, h4, h5⟩ := e2
  obtain ⟨x1, x2, x3, x4⟩ := exc_ok h2
  refine ⟨glo_ok X G h1, ⟨x1, x2, x3, x4⟩, excB_ok h3, h4, List.contains_iff_mem.mp h0, fun y hy => ?_⟩
  have := List.all_eq_true.mp h5 y hy
  simpa only [Bool.and_eq_true, decide_eq_true_eq] using this
theorem exB_cord (X : K.In h) (G : h.Ns mainGlobals mg) (e : exB L K = true) : mg "CordError" = some (.ref (ga K "CordError")) := by
  unfold exB at e
  simp only [Bool.and_eq_true] at e
  exact glo_ok X G e.1.1
theorem exB_ve (X : K.In h) (G : h.Ns mainGlobals mg) (e : exB L K = true) : mg "ValueError" = none := by
  unfold exB at e
  simp only [Bool.and_eq_true] at e
  exact free_ok X G e.1.2.1
theorem exB_free (X : K.In h) (G : h.Ns mainGlobals mg) (e : exB L K = true) {y : Str} (hy : y ∈ six) : y ∈ L ∨ mg y = none := by
  unfold exB at e
  simp only [Bool.and_eq_true] at e
  have := List.all_eq_true.mp e.1.2.2 y hy
  rw [Bool.or_eq_true] at this
  rcases this with q | q
  · exact .inl (List.contains_iff_mem.mp q)
  · exact .inr (free_ok X G q)
theorem exB_W (X : K.In h) (G : h.Ns mainGlobals mg) (e : exB L K = true) : ExW K mg L := by
  have key : ∀ c C y b, c ∈ L → mg c = some (.ref C) → subX c y = some b → (y ∈ cord :: L) ∨ y = "ValueError" ∧ b = true ∨ mg y = none ∧ bootBuiltins y = none := fun c C y b hc hm hs => by
    unfold subX at hs
    split at hs
    · rename_i hy
      rcases hy with rfl | rfl | rfl
      · exact .inl (List.mem_cons_of_mem _ hc)
      · exact .inl List.mem_cons_self
      · cases hs; exact .inr (.inl ⟨rfl, rfl⟩)
    · split at hs
      · rename_i hy
        rcases exB_free X G e hy with q | q
        · exact .inl (List.mem_cons_of_mem _ q)
        · exact .inr (.inr ⟨q, boot_six y hy⟩)
      · cases hs
  have glob : ∀ y, y ∈ cord :: L → mg y = some (.ref (ga K y)) := fun y hy => by
    rcases List.mem_cons.mp hy with rfl | hy
    · exact exB_cord X G e
    · exact (exB_class X G e hy).1
  refine ⟨fun c C hc hm => ?_, fun c C y u b hc hm hs hu => ?_, fun c C y D b hc hm hs hu => ?_⟩
  · obtain ⟨h1, _, h3, _⟩ := exB_class X G e hc
    rw [h1] at hm; cases hm
    exact h3
  · obtain ⟨h1, _, _, h4, _, h5⟩ := exB_class X G e hc
    rw [h1] at hm; cases hm
    rcases key c _ y b hc h1 hs with q | ⟨rfl, rfl⟩ | ⟨q1, q2⟩
    · rw [glob y q] at hu
      rcases hu with hu | ⟨hu, _⟩
      · cases hu
        rw [(h5 y q).1, hs]
      · cases hu
    · rw [exB_ve X G e] at hu
      rcases hu with hu | ⟨_, hu⟩
      · cases hu
      · rw [boot_ve] at hu; cases hu
        exact h4
    · rw [q1, q2] at hu
      rcases hu with hu | ⟨_, hu⟩ <;> cases hu
  · obtain ⟨h1, _, _, h4, _, h5⟩ := exB_class X G e hc
    rw [h1] at hm; cases hm
    rcases key c _ y b hc h1 hs with q | ⟨rfl, rfl⟩ | ⟨q1, q2⟩
    · rw [glob y q] at hu
      cases hu
      rw [(h5 y q).2, hs]
    · rw [exB_ve X G e] at hu; cases hu
    · rw [q1] at hu; cases hu
end
/-! ### the Hook, with a further look at the written part -/
def obsV (ck : PySem.W.Frag → Bool) (fa : List Fa) (fn : List DefD) (K : PySem.W.Frag) : AlD := ((obsD fa fn K).1 && ck K, (obsD fa fn K).2)
def SaysV (ck : PySem.W.Frag → Bool) (fa : List Fa) (fn : List DefD) (K : PySem.W.Frag) : Prop := obsV ck fa fn K = valD fn
def obsVG (n : Nat) (ck : PySem.W.Frag → Bool) (fa : List Fa) (fn : List DefD) (g : Addr → Option Obj) : AlD := obsV ck fa fn (frG g (asD g n))
def hookV (n : Nat) (ck : PySem.W.Frag → Bool) (fa : List Fa) (fn : List DefD) : PySem.W.Hook where
  α := AlD
  obs := fun s => obsVG n ck fa fn s.heap.get?
  val := fun _ => valD fn
  says := fun _ h => ∃ K : PySem.W.Frag, K.In h ∧ SaysV ck fa fn K
  of := fun _ _ e => ⟨_, frG_in, e⟩
  keeps := fun _ _ _ ⟨K, hK, c⟩ k => ⟨K, PySem.W.Frag.In.keeps hK k, c⟩
theorem obsVG_eq {n : Nat} {ck : PySem.W.Frag → Bool} {fa : List Fa} {fn : List DefD} {g : Addr → Option Obj} {s : Shared} (h : ∀ a, g a = s.heap.get? a) : obsVG n ck fa fn g = (hookV n ck fa fn).obs s := by
  rw [show g = s.heap.get? from funext h]
  rfl
theorem SaysV.d {ck : PySem.W.Frag → Bool} {fa : List Fa} {fn : List DefD} {K : PySem.W.Frag} (c : SaysV ck fa fn K) : SaysD fa fn K ∧ ck K = true := by
  unfold SaysV obsV valD at c
  have c1 := congrArg Prod.fst c
  have c2 := congrArg Prod.snd c
  dsimp only at c1 c2
  rw [Bool.and_eq_true] at c1
  exact ⟨Prod.ext c1.1 c2, c1.2⟩
end VV

/-! ## K04s -/
namespace K04
open PySem PySem.Spec PyProof.Rows L2 VV VP

def m_plus_e2 : Ev := (eP dAdd (aCons (eVar 4) (aCons (eVar 5) aNil)))
def m_plus_e1 : Ev := (eLc (iZipL (aCons (eVar 2) (aCons (eVar 3) aNil))) (gT (gsCons (gF (gN 4)) (gsCons (gF (gN 5)) gsNil))) cYes m_plus_e2)
def m_plus_1 : Sv := (sRet (eTup (aCons (eChk D.isFlat (eP dIdx (aCons (eVar 0) (aCons (eC (.int 0)) aNil)))) (aCons (eChk D.isFlat (eP dIdx (aCons (eVar 0) (aCons (eC (.int 1)) aNil)))) (aCons (eLc (iZipL (aCons (eP dIdx (aCons (eVar 0) (aCons (eC (.int 2)) aNil))) (aCons (eP dIdx (aCons (eVar 1) (aCons (eC (.int 2)) aNil))) aNil))) (gT (gsCons (gN 2) (gsCons (gN 3) gsNil))) cYes m_plus_e1) aNil)))))
def m_plus : Sv := (sSeq (sIf (tOf (eP dNe (aCons (eChk D.isFlat (eSl (eChk D.isTup (eVar 0)) oNone (oSome (eC (.int 2))))) (aCons (eChk D.isFlat (eSl (eChk D.isTup (eVar 1)) oNone (oSome (eC (.int 2))))) aNil)))) (sRaise "NoTable") sNil) m_plus_1)
def f_plus : List D → Option Res := fnSem 6 [.lab none [0] false, .lab none [0] false] m_plus
def m_product_e1 : Ev := (eP dAdd (aCons (eVar 7) (aCons (eP dMul (aCons (eVar 5) (aCons (eVar 8) aNil))) aNil)))
def m_product_c1 : Sv := (sSet 4 (eLc (iZipL (aCons (eVar 4) (aCons (eVar 6) aNil))) (gT (gsCons (gF (gN 7)) (gsCons (gF (gN 8)) gsNil))) cYes m_product_e1))
def m_product_b2 : Sv := (sIf (tOf (eP dNe (aCons (eVar 5) (aCons (eC (.int 0)) aNil)))) m_product_c1 sNil)
def m_product_b1_1 : Sv := (sSeq (sFor (iZipL (aCons (eVar 3) (aCons (eP dIdx (aCons (eVar 1) (aCons (eC (.int 2)) aNil))) aNil))) (gT (gsCons (gF (gN 5)) (gsCons (gN 6) gsNil))) m_product_b2) (sMut dPush 2 (eVar 4)))
def m_product_b1 : Sv := (sSeq (sSet 4 (eP dRep (aCons (eLst (aCons (eC (.int 0)) aNil)) (aCons (eChk D.isFlat (eP dIdx (aCons (eVar 1) (aCons (eC (.int 1)) aNil)))) aNil)))) m_product_b1_1)
def m_product_3 : Sv := (sRet (eTup (aCons (eChk D.isFlat (eP dIdx (aCons (eVar 0) (aCons (eC (.int 0)) aNil)))) (aCons (eChk D.isFlat (eP dIdx (aCons (eVar 1) (aCons (eC (.int 1)) aNil)))) (aCons (eVar 2) aNil)))))
def m_product_2 : Sv := (sSeq (sFor (iLst (eP dIdx (aCons (eVar 0) (aCons (eC (.int 2)) aNil)))) (gN 3) m_product_b1) m_product_3)
def m_product_1 : Sv := (sSeq (sSet 2 (eLst aNil)) m_product_2)
def m_product : Sv := (sSeq (sIf (tOf (eP dNe (aCons (eChk D.isFlat (eP dIdx (aCons (eVar 0) (aCons (eC (.int 1)) aNil)))) (aCons (eChk D.isFlat (eP dIdx (aCons (eVar 1) (aCons (eC (.int 0)) aNil)))) aNil)))) (sRaise "NoTable") sNil) m_product_1)
def f_product : List D → Option Res := fnSem 9 [.lab none [0] false, .lab none [0] false] m_product
def m__law_copy_e1 : Ev := (eChk D.kidsFlat (eP dList (aCons (eVar 1) aNil)))
def m__law_copy : Sv := (sRet (eTup (aCons (eChk D.isFlat (eP dIdx (aCons (eVar 0) (aCons (eC (.int 0)) aNil)))) (aCons (eChk D.isFlat (eP dIdx (aCons (eVar 0) (aCons (eC (.int 1)) aNil)))) (aCons (eLc (iLst (eP dIdx (aCons (eVar 0) (aCons (eC (.int 2)) aNil)))) (gN 1) cYes m__law_copy_e1) aNil)))))
def f__law_copy : List D → Option Res := fnSem 2 [.lab none [0] false] m__law_copy
def m__law_just_1 : Sv := (sRet (vAnd (eIsX 0 ["NoTable"]) (eIsX 0 ["ValueError"])))
def m__law_just : Sv := (sSeq (sIf (tOf (eIsX 0 ["NoPlace", "NoMove", "NoWord", "NoText", "TooMany"])) (sRet (eC (.bl false))) sNil) m__law_just_1)
def f__law_just : List D → Option Res := fnSem 1 [.flat] m__law_just
def m__law_size_1 : Sv := (sRet (eChk D.isFlat (eSl (eChk D.isTup (eVar 3)) oNone (oSome (eC (.int 2))))))
def m__law_size : Sv := (sSeq (sTry ["NoTable", "NoPlace", "NoMove", "NoWord", "NoText", "TooMany"] (sSetR 3 (rOr (rCallV 0 "plus" f_plus (aCons (eVar 1) (aCons (eVar 2) aNil))) (rCallV 0 "product" f_product (aCons (eVar 1) (aCons (eVar 2) aNil))))) "CordError" 4 (sRet (eCall f__law_just (aCons (eVar 4) aNil)))) m__law_size_1)
def f__law_size : List D → Option Res := fnSem 5 [.flat, .lab none [0] false, .lab none [0] false] m__law_size
def m_law_e1 : Ev := (eP dMod (aCons (eVar 12) (aCons (eVar 2) aNil)))
def m_law_c1 : Sv := (sSet 11 (eTup (aCons (eVar 3) (aCons (eVar 4) aNil))))
def m_law_c2 : Sv := (sSet 11 (eTup (aCons (eVar 3) (aCons (eChk D.isFlat (eP dIdx (aCons (eVar 10) (aCons (eC (.int 1)) aNil)))) aNil))))
def m_law_c3 : Sv := (sSet 11 (eTup (aCons (eChk D.isFlat (eP dIdx (aCons (eVar 10) (aCons (eC (.int 0)) aNil)))) (aCons (eVar 4) aNil))))
def m_law_b1_8 : Sv := (sIf (tOf (eP dNe (aCons (eCall f__law_size (aCons (eC (.fn "product")) (aCons (eVar 10) (aCons (eVar 6) aNil)))) (aCons (eVar 11) aNil)))) (sRet (eC (.bl false))) sNil)
def m_law_b1_7 : Sv := (sSeq (sIf (tOf (eP dEq (aCons (eChk D.isFlat (eP dIdx (aCons (eVar 10) (aCons (eC (.int 1)) aNil)))) (aCons (eVar 3) aNil)))) m_law_c3 sNil) m_law_b1_8)
def m_law_b1_6 : Sv := (sSeq (sSet 11 (eC (.bl true))) m_law_b1_7)
def m_law_b1_5 : Sv := (sSeq (sIf (tOf (eP dNe (aCons (eCall f__law_size (aCons (eC (.fn "product")) (aCons (eVar 6) (aCons (eVar 10) aNil)))) (aCons (eVar 11) aNil)))) (sRet (eC (.bl false))) sNil) m_law_b1_6)
def m_law_b1_4 : Sv := (sSeq (sIf (tOf (eP dEq (aCons (eChk D.isFlat (eP dIdx (aCons (eVar 10) (aCons (eC (.int 0)) aNil)))) (aCons (eVar 4) aNil)))) m_law_c2 sNil) m_law_b1_5)
def m_law_b1_3 : Sv := (sSeq (sSet 11 (eC (.bl true))) m_law_b1_4)
def m_law_b1_2 : Sv := (sSeq (sIf (wOr (tOf (eP dNe (aCons (eCall f__law_size (aCons (eC (.fn "plus")) (aCons (eVar 6) (aCons (eVar 10) aNil)))) (aCons (eVar 11) aNil)))) (tOf (eP dNe (aCons (eCall f__law_size (aCons (eC (.fn "plus")) (aCons (eVar 10) (aCons (eVar 6) aNil)))) (aCons (eVar 11) aNil))))) (sRet (eC (.bl false))) sNil) m_law_b1_3)
def m_law_b1_1 : Sv := (sSeq (sIf (tOf (eP dEq (aCons (eChk D.isFlat (eSl (eChk D.isTup (eVar 10)) oNone (oSome (eC (.int 2))))) (aCons (eChk D.isFlat (eSl (eChk D.isTup (eVar 6)) oNone (oSome (eC (.int 2))))) aNil)))) m_law_c1 sNil) m_law_b1_2)
def m_law_b1 : Sv := (sSeq (sSet 11 (eC (.bl true))) m_law_b1_1)
def m_law_8 : Sv := (sRet (eP dEq (aCons (eVar 9) (aCons (eLst (aCons (eVar 6) (aCons (eVar 7) (aCons (eVar 8) aNil)))) aNil))))
def m_law_7 : Sv := (sSeq (sFor (iLst (eLst (aCons (eVar 7) (aCons (eVar 8) (aCons (eVar 6) aNil))))) (gN 10) m_law_b1) m_law_8)
def m_law_6 : Sv := (sSeq (sSet 9 (eLst (aCons (eCall f__law_copy (aCons (eVar 6) aNil)) (aCons (eCall f__law_copy (aCons (eVar 7) aNil)) (aCons (eCall f__law_copy (aCons (eVar 8) aNil)) aNil))))) m_law_7)
def m_law_5 : Sv := (sSeq (sSet 8 (eCall f__law_table (aCons (eCall f__law_cell_at (aCons (eVar 0) (aCons (eC (.int 3)) aNil))) (aCons (eP dAdd (aCons (eVar 4) (aCons (eP dMod (aCons (eChk D.isFlat (eP dIdx (aCons (eVar 1) (aCons (eC (.int 5)) aNil)))) (aCons (eC (.int 2)) aNil))) aNil))) (aCons (eVar 5) aNil))))) m_law_6)
def m_law_4 : Sv := (sSeq (sSet 7 (eCall f__law_table (aCons (eCall f__law_cell_at (aCons (eVar 0) (aCons (eC (.int 2)) aNil))) (aCons (eP dAdd (aCons (eVar 3) (aCons (eP dMod (aCons (eChk D.isFlat (eP dIdx (aCons (eVar 1) (aCons (eC (.int 3)) aNil)))) (aCons (eC (.int 2)) aNil))) aNil))) (aCons (eP dAdd (aCons (eVar 4) (aCons (eP dMod (aCons (eChk D.isFlat (eP dIdx (aCons (eVar 1) (aCons (eC (.int 4)) aNil)))) (aCons (eC (.int 2)) aNil))) aNil))) aNil))))) m_law_5)
def m_law_3 : Sv := (sSeq (sSet 6 (eCall f__law_table (aCons (eCall f__law_cell_at (aCons (eVar 0) (aCons (eC (.int 1)) aNil))) (aCons (eVar 3) (aCons (eVar 4) aNil))))) m_law_4)
def m_law_2 : Sv := (sSeq (sAsg (gL (gsCons (gF (gN 3)) (gsCons (gF (gN 4)) (gsCons (gF (gN 5)) gsNil)))) (eLc (iLst (eSl (eChk D.isLst (eVar 1)) oNone (oSome (eC (.int 3))))) (gF (gN 12)) cYes m_law_e1)) m_law_3)
def m_law_1 : Sv := (sSeq (sSet 2 (eChk D.isFlat (eP dIdx (aCons (eLst (aCons (eC (.int 6)) (aCons (eC (.int 17)) aNil))) (aCons (eP dIntC (aCons (eP dEq (aCons (eP dMod (aCons (eChk D.isFlat (eP dIdx (aCons (eVar 1) (aCons (eC (.int 7)) aNil)))) (aCons (eC (.int 8)) aNil))) (aCons (eC (.int 5)) aNil))) aNil)) aNil))))) m_law_2)
def m_law : Sv := (sSeq (sSet 1 (eChk D.kidsFlat (eCall f__law_row (aCons (eCall f__law_cell_at (aCons (eVar 0) (aCons (eC (.int 0)) aNil))) (aCons (eC (.int 8)) (aCons (eC (.int 4096)) aNil)))))) m_law_1)
def f_law : List D → Option Res := fnSem 13 [.flat] m_law
end K04

/-! ## K04w -/
namespace K04
open PySem PySem.Spec PyProof.Rows L2 VV VP

def top (i : Nat) : Stmt := PySem.Challenge.pw_loopcube_k04_tables_that_do_not_fit.main.body.getD i (.Pass ⟨0, 0, 0, 0⟩)
abbrev FnP (K : PySem.W.Frag) (x : Str) (st : Stmt) (f : Addr) (fd : FuncData) : Prop := FunD K x x (defArgs st) (defBody st) (defScope st) [] [] f fd
abbrev s_plus : Stmt := top 9
abbrev N_plus : List Str := ["one", "other", "left", "right", "a", "b"]
abbrev s_product : Stmt := top 10
abbrev N_product : List Str := ["one", "other", "rows", "row", "found", "number", "line", "a", "b"]
abbrev s__law_cell_at : Stmt := top 12
abbrev N__law_cell_at : List Str := ["_law_script", "_law_k"]
abbrev s__law_row : Stmt := top 13
abbrev N__law_row : List Str := ["_law_cell", "_law_many", "_law_base", "_law_rest", "_law_found", "_law_high", "_law_k", "_law_one", "_law_other"]
abbrev s__law_entry : Stmt := top 14
abbrev N__law_entry : List Str := ["_law_digit"]
abbrev s__law_table : Stmt := top 15
abbrev N__law_table : List Str := ["_law_cell", "_law_high", "_law_wide", "_law_row_here", "_law_i", "_law_j"]
abbrev s__law_copy : Stmt := top 16
abbrev N__law_copy : List Str := ["_law_one", "_law_row_here"]
abbrev s__law_just : Stmt := top 17
abbrev N__law_just : List Str := ["_law_e"]
abbrev s__law_size : Stmt := top 18
abbrev N__law_size : List Str := ["_law_make", "_law_one", "_law_other", "_law_found", "_law_e"]
abbrev s_law : Stmt := top 19
abbrev N_law : List Str := ["_law_script", "_law_head", "_law_most", "_law_high", "_law_wide", "_law_deep", "_law_one", "_law_near", "_law_after", "_law_kept", "_law_other", "_law_due", "_law_number"]
section
variable {P : Program} {w : World} {K : PySem.W.Frag} {mg : Str → Option Value} {base : Heap}
theorem sc_plus : FnScope N_plus ["one", "other"] (defScope s_plus) := ⟨rfl, rfl, rfl, by decide +kernel, rfl, by decide +kernel, by decide +kernel⟩
theorem ok_plus {f : Addr} {fd : FuncData} (F : FnP K "plus" s_plus f fd) (b_zip : mg "zip" = none) {C_NoTable : Addr} (g_NoTable : mg "NoTable" = some (.ref C_NoTable)) (E_NoTable : ExF K C_NoTable) : FnOk P w K mg base (L2.CX P w) 1 f fd ["one", "other"] (spX ⟨mg, K⟩ f_plus 2 .fresh) := by
  have sc := sc_plus
  let N : List Str := N_plus
  let st : Stmt := s_plus
  refine fn_okX (Γ' := []) (sc := ⟨[], .fresh, [], [.dead, .dead, .dead, .dead, .dead, .dead]⟩) (k := 0) F sc [.lab none [0] false, .lab none [0] false] rfl (by decide) rfl fun cdv A outer s0 H E hr tk => ?_
  exact (ss_cons (sx_if (et_ne hr.units (ex_flat (ex_slT (ex_var (k := .lab none [0] false) 0 rfl (by decide) rfl (by first | exact Or.inl rfl | exact Or.inr (Or.inl rfl) | exact Or.inr (Or.inr rfl))) (eo_none) (eo_some (ex_int)))) (ex_flat (ex_slT (ex_var (k := .lab none [0] false) 1 rfl (by decide) rfl (by first | exact Or.inl rfl | exact Or.inr (Or.inl rfl) | exact Or.inr (Or.inr rfl))) (eo_none) (eo_some (ex_int)))))
        (ss_one (sx_raise rfl tk g_NoTable E_NoTable rfl (by rfl)))
        (ss_nil))
        (ss_one (sx_ret (ex_tup (ea_cons (ex_flat (ex_idx (ex_var (k := .lab none [0] false) 0 rfl (by decide) rfl (by first | exact Or.inl rfl | exact Or.inr (Or.inl rfl) | exact Or.inr (Or.inr rfl))) (ex_int))) (ea_cons (ex_flat (ex_idx (ex_var (k := .lab none [0] false) 0 rfl (by decide) rfl (by first | exact Or.inl rfl | exact Or.inr (Or.inl rfl) | exact Or.inr (Or.inr rfl))) (ex_int))) (ea_cons (ex_lc (own := [("left", 2), ("right", 3)]) 2 rfl sc.nd (ei_zip rfl b_zip (ex_idx (ex_var (k := .lab none [0] false) 0 rfl (by decide) rfl (by first | exact Or.inl rfl | exact Or.inr (Or.inl rfl) | exact Or.inr (Or.inr rfl))) (ex_int)) (ex_idx (ex_var (k := .lab none [0] false) 1 rfl (by decide) rfl (by first | exact Or.inl rfl | exact Or.inr (Or.inl rfl) | exact Or.inr (Or.inr rfl))) (ex_int))) (blkOk_by (by kernel_rfl)) (fun _ _ _ _ _ => eg_tup rfl (egs_cons (eg_name sc.nd (i := 2) rfl (by first | exact Or.inl rfl | exact Or.inr rfl)) (egs_cons (eg_name sc.nd (i := 3) rfl (by first | exact Or.inl rfl | exact Or.inr rfl)) (egs_nil)))) (fun _ _ _ _ _ => ets_nil) (fun _ _ _ _ _ => ex_lc (own := [("a", 4), ("b", 5)]) 3 rfl sc.nd (ei_zip rfl b_zip (ex_var (k := .lab none [0, 0] false) 2 rfl (by decide) rfl (by first | exact Or.inl rfl | exact Or.inr (Or.inl rfl) | exact Or.inr (Or.inr rfl))) (ex_var (k := .lab none [0, 0] false) 3 rfl (by decide) rfl (by first | exact Or.inl rfl | exact Or.inr (Or.inl rfl) | exact Or.inr (Or.inr rfl)))) (blkOk_by (by kernel_rfl)) (fun _ _ _ _ _ => eg_tup rfl (egs_cons (eg_flat (eg_name sc.nd (i := 4) rfl (by first | exact Or.inl rfl | exact Or.inr rfl))) (egs_cons (eg_flat (eg_name sc.nd (i := 5) rfl (by first | exact Or.inl rfl | exact Or.inr rfl))) (egs_nil)))) (fun _ _ _ _ _ => ets_nil) (fun _ _ _ _ _ => ex_add (ex_var (k := .flat) 4 rfl (by decide) rfl (by first | exact Or.inl rfl | exact Or.inr (Or.inl rfl) | exact Or.inr (Or.inr rfl))) (ex_var (k := .flat) 5 rfl (by decide) rfl (by first | exact Or.inl rfl | exact Or.inr (Or.inl rfl) | exact Or.inr (Or.inr rfl)))))) (ea_nil))))))))
theorem cal_plus {f : Addr} {fd : FuncData} (F : FnP K "plus" s_plus f fd) (h : mg "plus" = some (.ref f)) (b_zip : mg "zip" = none) {C_NoTable : Addr} (g_NoTable : mg "NoTable" = some (.ref C_NoTable)) (E_NoTable : ExF K C_NoTable) : CalX P w K mg base "plus" 1 ["one", "other"] f_plus .fresh :=
  ⟨f, fd, ok_plus F b_zip g_NoTable E_NoTable, h, F.kp, FunD.bindsN F fun _ _ _ _ _ _ us hl => match us, hl with | [_, _], _ => rfl⟩
theorem sc_product : FnScope N_product ["one", "other"] (defScope s_product) := ⟨rfl, rfl, rfl, by decide +kernel, rfl, by decide +kernel, by decide +kernel⟩
theorem ok_product {f : Addr} {fd : FuncData} (F : FnP K "product" s_product f fd) (b_zip : mg "zip" = none) {C_NoTable : Addr} (g_NoTable : mg "NoTable" = some (.ref C_NoTable)) (E_NoTable : ExF K C_NoTable) : FnOk P w K mg base (L2.CX P w) 1 f fd ["one", "other"] (spX ⟨mg, K⟩ f_product 2 .fresh) := by
  have sc := sc_product
  let N : List Str := N_product
  let st : Stmt := s_product
  refine fn_okX (Γ' := []) (sc := ⟨[], .fresh, [], [.dead, .dead, .dead, .dead, .dead, .dead, .dead, .dead, .dead]⟩) (k := 0) F sc [.lab none [0] false, .lab none [0] false] rfl (by decide) rfl fun cdv A outer s0 H E hr tk => ?_
  exact (ss_cons (sx_if (et_ne hr.units (ex_flat (ex_idx (ex_var (k := .lab none [0] false) 0 rfl (by decide) rfl (by first | exact Or.inl rfl | exact Or.inr (Or.inl rfl) | exact Or.inr (Or.inr rfl))) (ex_int))) (ex_flat (ex_idx (ex_var (k := .lab none [0] false) 1 rfl (by decide) rfl (by first | exact Or.inl rfl | exact Or.inr (Or.inl rfl) | exact Or.inr (Or.inr rfl))) (ex_int))))
        (ss_one (sx_raise rfl tk g_NoTable E_NoTable rfl (by rfl)))
        (ss_nil))
        (ss_cons (sx_set (i := 2) 2 3 sc.nd rfl (by first | exact Or.inl rfl | exact Or.inr rfl) (ex_lst (ea_nil)))
        (ss_cons (sx_pre (Γ1 := [.lab none [0] false, .lab none [0] false, .lab (some 2) [902] true, .dead, .dead, .dead, .dead, .dead, .dead]) [] (sx_for 4 rfl (L2.passes_of rfl) (ei_list (ex_idx (ex_var (k := .lab none [0] false) 0 rfl (by decide) rfl (by first | exact Or.inl rfl | exact Or.inr (Or.inl rfl) | exact Or.inr (Or.inr rfl))) (ex_int))) (eg_name sc.nd (i := 3) rfl (by first | exact Or.inl rfl | exact Or.inr rfl))
        (ss_conv (Γ' := [.lab none [0] false, .lab none [0] false, .lab (some 2) [902] true, .dead, .dead, .dead, .dead, .dead, .dead]) [(5, 902), (8, 902)] (ss_cons (sx_set (i := 4) 5 6 sc.nd rfl (by first | exact Or.inl rfl | exact Or.inr rfl) (ex_rep (ex_lst (ea_cons (ex_int) (ea_nil))) (ex_flat (ex_idx (ex_var (k := .lab none [0] false) 1 rfl (by decide) rfl (by first | exact Or.inl rfl | exact Or.inr (Or.inl rfl) | exact Or.inr (Or.inr rfl))) (ex_int)))))
        (ss_cons (sx_pre (Γ1 := [.lab none [0] false, .lab none [0] false, .lab (some 2) [902] true, .lab none [0] false, .lab none [5, 8] true, .dead, .dead, .dead, .dead]) [] (sx_for 7 rfl (L2.passes_of rfl) (ei_zip rfl b_zip (ex_var (k := .lab none [0] false) 3 rfl (by decide) rfl (by first | exact Or.inl rfl | exact Or.inr (Or.inl rfl) | exact Or.inr (Or.inr rfl))) (ex_idx (ex_var (k := .lab none [0] false) 1 rfl (by decide) rfl (by first | exact Or.inl rfl | exact Or.inr (Or.inl rfl) | exact Or.inr (Or.inr rfl))) (ex_int))) (eg_tup rfl (egs_cons (eg_flat (eg_name sc.nd (i := 5) rfl (by first | exact Or.inl rfl | exact Or.inr rfl))) (egs_cons (eg_name sc.nd (i := 6) rfl (by first | exact Or.inl rfl | exact Or.inr rfl)) (egs_nil))))
        (ss_conv (Γ' := [.lab none [0] false, .lab none [0] false, .lab (some 2) [902] true, .lab none [0] false, .lab none [5, 8] true, .dead, .dead, .dead, .dead]) [] (ss_one (sx_if (et_ne hr.units (ex_var (k := .flat) 5 rfl (by decide) rfl (by first | exact Or.inl rfl | exact Or.inr (Or.inl rfl) | exact Or.inr (Or.inr rfl))) (ex_int))
        (ss_conv (Γ' := [.lab none [0] false, .lab none [0] false, .lab (some 2) [902] true, .lab none [0] false, .lab none [8, 5] true, .flat, .lab none [0, 0] false, .dead, .dead]) [] (ss_one (sx_setLc (i := 4) (own := [("a", 7), ("b", 8)]) 10 8 9 rfl sc.nd rfl rfl (sw_true rfl rfl rfl (by decide +kernel)) (ei_zip rfl b_zip (ex_var (k := .lab none [5, 8] true) 4 rfl (by decide) rfl (by first | exact Or.inl rfl | exact Or.inr (Or.inl rfl) | exact Or.inr (Or.inr rfl))) (ex_var (k := .lab none [0, 0] false) 6 rfl (by decide) rfl (by first | exact Or.inl rfl | exact Or.inr (Or.inl rfl) | exact Or.inr (Or.inr rfl)))) (blkOk_by (by kernel_rfl)) (fun _ _ _ _ _ => eg_tup rfl (egs_cons (eg_flat (eg_name sc.nd (i := 7) rfl (by first | exact Or.inl rfl | exact Or.inr rfl))) (egs_cons (eg_flat (eg_name sc.nd (i := 8) rfl (by first | exact Or.inl rfl | exact Or.inr rfl))) (egs_nil)))) (fun _ _ _ _ _ => ets_nil) (fun _ _ _ _ _ => ex_add (ex_var (k := .flat) 7 rfl (by decide) rfl (by first | exact Or.inl rfl | exact Or.inr (Or.inl rfl) | exact Or.inr (Or.inr rfl))) (ex_mul (ex_var (k := .flat) 5 rfl (by decide) rfl (by first | exact Or.inl rfl | exact Or.inr (Or.inl rfl) | exact Or.inr (Or.inr rfl))) (ex_var (k := .flat) 8 rfl (by decide) rfl (by first | exact Or.inl rfl | exact Or.inr (Or.inl rfl) | exact Or.inr (Or.inr rfl))))))) (by decide) (by decide))
        (ss_conv (Γ' := [.lab none [0] false, .lab none [0] false, .lab (some 2) [902] true, .lab none [0] false, .lab none [8, 5] true, .flat, .lab none [0, 0] false, .dead, .dead]) [] (ss_nil) (by decide) (by decide)))) (by decide) (by decide))) (by decide) (by decide))
        (ss_one (sx_append (i := 2) (n := 2) (L := [902]) (nd := true) 11 rfl rfl (by first | exact Or.inl rfl | exact Or.inr (Or.inl rfl) | exact Or.inr (Or.inr rfl)) (ex_var (k := .lab none [5, 8] true) 4 rfl (by decide) rfl (by first | exact Or.inl rfl | exact Or.inr (Or.inl rfl) | exact Or.inr (Or.inr rfl))))))) (by decide) (by decide))) (by decide) (by decide))
        (ss_one (sx_ret (ex_tup (ea_cons (ex_flat (ex_idx (ex_var (k := .lab none [0] false) 0 rfl (by decide) rfl (by first | exact Or.inl rfl | exact Or.inr (Or.inl rfl) | exact Or.inr (Or.inr rfl))) (ex_int))) (ea_cons (ex_flat (ex_idx (ex_var (k := .lab none [0] false) 1 rfl (by decide) rfl (by first | exact Or.inl rfl | exact Or.inr (Or.inl rfl) | exact Or.inr (Or.inr rfl))) (ex_int))) (ea_cons (ex_var (k := .lab (some 2) [902] true) 2 rfl (by decide) rfl (by first | exact Or.inl rfl | exact Or.inr (Or.inl rfl) | exact Or.inr (Or.inr rfl))) (ea_nil))))))))))
theorem cal_product {f : Addr} {fd : FuncData} (F : FnP K "product" s_product f fd) (h : mg "product" = some (.ref f)) (b_zip : mg "zip" = none) {C_NoTable : Addr} (g_NoTable : mg "NoTable" = some (.ref C_NoTable)) (E_NoTable : ExF K C_NoTable) : CalX P w K mg base "product" 1 ["one", "other"] f_product .fresh :=
  ⟨f, fd, ok_product F b_zip g_NoTable E_NoTable, h, F.kp, FunD.bindsN F fun _ _ _ _ _ _ us hl => match us, hl with | [_, _], _ => rfl⟩
theorem sc__law_cell_at : FnScope N__law_cell_at ["_law_script", "_law_k"] (defScope s__law_cell_at) := ⟨rfl, rfl, rfl, by decide +kernel, rfl, by decide +kernel, by decide +kernel⟩
theorem ok__law_cell_at {f : Addr} {fd : FuncData} (F : FnP K "_law_cell_at" s__law_cell_at f fd) (b_len : mg "len" = none) : FnOk P w K mg base CX0 1 f fd ["_law_script", "_law_k"] (sp0 ⟨mg, K⟩ f__law_cell_at 2 .flat) := by
  have sc := sc__law_cell_at
  let N : List Str := N__law_cell_at
  let st : Stmt := s__law_cell_at
  refine fn_ok0 (Γ' := []) (sc := ⟨[], .flat, [], []⟩) (k := 0) F sc [.flat, .flat] rfl (by decide) rfl fun cdv A outer s0 H E hr => ?_
  exact (ss_cons (sx_if (et_lt (ex_var (k := .flat) 1 rfl (by decide) rfl (by first | exact Or.inl rfl | exact Or.inr (Or.inl rfl) | exact Or.inr (Or.inr rfl))) (ex_callB call_len cp_len rfl b_len boot_len (ea_cons (ex_var (k := .flat) 0 rfl (by decide) rfl (by first | exact Or.inl rfl | exact Or.inr (Or.inl rfl) | exact Or.inr (Or.inr rfl))) (ea_nil))))
        (ss_one (sx_ret (ex_idx (ex_var (k := .flat) 0 rfl (by decide) rfl (by first | exact Or.inl rfl | exact Or.inr (Or.inl rfl) | exact Or.inr (Or.inr rfl))) (ex_var (k := .flat) 1 rfl (by decide) rfl (by first | exact Or.inl rfl | exact Or.inr (Or.inl rfl) | exact Or.inr (Or.inr rfl))))))
        (ss_nil))
        (ss_one (sx_ret (ex_int))))
theorem cal__law_cell_at {f : Addr} {fd : FuncData} (F : FnP K "_law_cell_at" s__law_cell_at f fd) (h : mg "_law_cell_at" = some (.ref f)) (b_len : mg "len" = none) : Cal P w K mg base "_law_cell_at" 1 ["_law_script", "_law_k"] f__law_cell_at .flat :=
  ⟨f, fd, ok__law_cell_at F b_len, h, F.kp, FunD.bindsN F fun _ _ _ _ _ _ us hl => match us, hl with | [_, _], _ => rfl⟩
theorem sc__law_row : FnScope N__law_row ["_law_cell", "_law_many", "_law_base"] (defScope s__law_row) := ⟨rfl, rfl, rfl, by decide +kernel, rfl, by decide +kernel, by decide +kernel⟩
theorem ok__law_row {f : Addr} {fd : FuncData} (F : FnP K "_law_row" s__law_row f fd) (b_range : mg "range" = none) : FnOk P w K mg base CX0 1 f fd ["_law_cell", "_law_many", "_law_base"] (sp0 ⟨mg, K⟩ f__law_row 3 .fresh) := by
  have sc := sc__law_row
  let N : List Str := N__law_row
  let st : Stmt := s__law_row
  refine fn_ok0 (Γ' := []) (sc := ⟨[], .fresh, [], []⟩) (k := 0) F sc [.flat, .flat, .flat] rfl (by decide) rfl fun cdv A outer s0 H E hr => ?_
  exact (ss_cons (sx_set (i := 3) 2 3 sc.nd rfl (by first | exact Or.inl rfl | exact Or.inr rfl) (ex_div (ex_var (k := .flat) 0 rfl (by decide) rfl (by first | exact Or.inl rfl | exact Or.inr (Or.inl rfl) | exact Or.inr (Or.inr rfl))) (ex_int)))
        (ss_cons (sx_set (i := 4) 4 5 sc.nd rfl (by first | exact Or.inl rfl | exact Or.inr rfl) (ex_lst (ea_nil)))
        (ss_cons (sx_set (i := 5) 6 7 sc.nd rfl (by first | exact Or.inl rfl | exact Or.inr rfl) (ex_var (k := .flat) 3 rfl (by decide) rfl (by first | exact Or.inl rfl | exact Or.inr (Or.inl rfl) | exact Or.inr (Or.inr rfl))))
        (ss_cons (sx_for 8 rfl PassesOwn.never (ei_range1 rfl b_range (ea_cons (ex_var (k := .flat) 1 rfl (by decide) rfl (by first | exact Or.inl rfl | exact Or.inr (Or.inl rfl) | exact Or.inr (Or.inr rfl))) (ea_nil))) (eg_name sc.nd (i := 6) rfl (by first | exact Or.inl rfl | exact Or.inr rfl))
        (ss_conv (Γ' := [.flat, .flat, .flat, .flat, .lab (some 4) [] true, .flat, .dead, .dead, .dead]) [] (ss_one (sx_set (i := 5) 9 10 sc.nd rfl (by first | exact Or.inl rfl | exact Or.inr rfl) (ex_div (ex_var (k := .flat) 5 rfl (by decide) rfl (by first | exact Or.inl rfl | exact Or.inr (Or.inl rfl) | exact Or.inr (Or.inr rfl))) (ex_var (k := .flat) 2 rfl (by decide) rfl (by first | exact Or.inl rfl | exact Or.inr (Or.inl rfl) | exact Or.inr (Or.inr rfl)))))) (by decide) (by decide)))
        (ss_cons (sx_for 11 rfl PassesOwn.never (ei_range1 rfl b_range (ea_cons (ex_var (k := .flat) 1 rfl (by decide) rfl (by first | exact Or.inl rfl | exact Or.inr (Or.inl rfl) | exact Or.inr (Or.inr rfl))) (ea_nil))) (eg_name sc.nd (i := 6) rfl (by first | exact Or.inl rfl | exact Or.inr rfl))
        (ss_conv (Γ' := [.flat, .flat, .flat, .flat, .lab (some 4) [] true, .flat, .dead, .dead, .dead]) [] (ss_one (sx_if (et_gt (ex_var (k := .flat) 5 rfl (by decide) rfl (by first | exact Or.inl rfl | exact Or.inr (Or.inl rfl) | exact Or.inr (Or.inr rfl))) (ex_int))
        (ss_cons (sx_append (i := 4) (n := 4) (L := []) (nd := true) 12 rfl rfl (by first | exact Or.inl rfl | exact Or.inr (Or.inl rfl) | exact Or.inr (Or.inr rfl)) (ex_mod (ex_var (k := .flat) 3 rfl (by decide) rfl (by first | exact Or.inl rfl | exact Or.inr (Or.inl rfl) | exact Or.inr (Or.inr rfl))) (ex_var (k := .flat) 2 rfl (by decide) rfl (by first | exact Or.inl rfl | exact Or.inr (Or.inl rfl) | exact Or.inr (Or.inr rfl)))))
        (ss_one (sx_set (i := 3) 13 14 sc.nd rfl (by first | exact Or.inl rfl | exact Or.inr rfl) (ex_div (ex_var (k := .flat) 3 rfl (by decide) rfl (by first | exact Or.inl rfl | exact Or.inr (Or.inl rfl) | exact Or.inr (Or.inr rfl))) (ex_var (k := .flat) 2 rfl (by decide) rfl (by first | exact Or.inl rfl | exact Or.inr (Or.inl rfl) | exact Or.inr (Or.inr rfl)))))))
        (ss_conv (Γ' := [.flat, .flat, .flat, .flat, .lab (some 4) [] true, .flat, .flat, .dead, .dead]) [] (ss_cons (sx_set (i := 7) 15 16 sc.nd rfl (by first | exact Or.inl rfl | exact Or.inr rfl) (ex_mod (ex_mul (ex_add (ex_add (ex_add (ex_mod (ex_var (k := .flat) 3 rfl (by decide) rfl (by first | exact Or.inl rfl | exact Or.inr (Or.inl rfl) | exact Or.inr (Or.inr rfl))) (ex_int)) (ex_mul (ex_int) (ex_var (k := .flat) 6 rfl (by decide) rfl (by first | exact Or.inl rfl | exact Or.inr (Or.inl rfl) | exact Or.inr (Or.inr rfl))))) (ex_mul (ex_var (k := .flat) 6 rfl (by decide) rfl (by first | exact Or.inl rfl | exact Or.inr (Or.inl rfl) | exact Or.inr (Or.inr rfl))) (ex_var (k := .flat) 6 rfl (by decide) rfl (by first | exact Or.inl rfl | exact Or.inr (Or.inl rfl) | exact Or.inr (Or.inr rfl))))) (ex_int)) (ex_int)) (ex_int)))
        (ss_cons (sx_set (i := 8) 17 18 sc.nd rfl (by first | exact Or.inl rfl | exact Or.inr rfl) (ex_mod (ex_mul (ex_add (ex_var (k := .flat) 7 rfl (by decide) rfl (by first | exact Or.inl rfl | exact Or.inr (Or.inl rfl) | exact Or.inr (Or.inr rfl))) (ex_mul (ex_int) (ex_var (k := .flat) 6 rfl (by decide) rfl (by first | exact Or.inl rfl | exact Or.inr (Or.inl rfl) | exact Or.inr (Or.inr rfl))))) (ex_int)) (ex_int)))
        (ss_one (sx_append (i := 4) (n := 4) (L := []) (nd := true) 19 rfl rfl (by first | exact Or.inl rfl | exact Or.inr (Or.inl rfl) | exact Or.inr (Or.inr rfl)) (ex_mod (ex_add (ex_mul (ex_var (k := .flat) 7 rfl (by decide) rfl (by first | exact Or.inl rfl | exact Or.inr (Or.inl rfl) | exact Or.inr (Or.inr rfl))) (ex_var (k := .flat) 8 rfl (by decide) rfl (by first | exact Or.inl rfl | exact Or.inr (Or.inl rfl) | exact Or.inr (Or.inr rfl)))) (ex_div (ex_var (k := .flat) 7 rfl (by decide) rfl (by first | exact Or.inl rfl | exact Or.inr (Or.inl rfl) | exact Or.inr (Or.inr rfl))) (ex_int))) (ex_var (k := .flat) 2 rfl (by decide) rfl (by first | exact Or.inl rfl | exact Or.inr (Or.inl rfl) | exact Or.inr (Or.inr rfl)))))))) (by decide) (by decide)))) (by decide) (by decide)))
        (ss_one (sx_ret (ex_var (k := .lab (some 4) [] true) 4 rfl (by decide) rfl (by first | exact Or.inl rfl | exact Or.inr (Or.inl rfl) | exact Or.inr (Or.inr rfl))))))))))
theorem cal__law_row {f : Addr} {fd : FuncData} (F : FnP K "_law_row" s__law_row f fd) (h : mg "_law_row" = some (.ref f)) (b_range : mg "range" = none) : Cal P w K mg base "_law_row" 1 ["_law_cell", "_law_many", "_law_base"] f__law_row .fresh :=
  ⟨f, fd, ok__law_row F b_range, h, F.kp, FunD.bindsN F fun _ _ _ _ _ _ us hl => match us, hl with | [_, _, _], _ => rfl⟩
theorem sc__law_entry : FnScope N__law_entry ["_law_digit"] (defScope s__law_entry) := ⟨rfl, rfl, rfl, by decide +kernel, rfl, by decide +kernel, by decide +kernel⟩
theorem ok__law_entry {f : Addr} {fd : FuncData} (F : FnP K "_law_entry" s__law_entry f fd) : FnOk P w K mg base CX0 1 f fd ["_law_digit"] (sp0 ⟨mg, K⟩ f__law_entry 1 .flat) := by
  have sc := sc__law_entry
  let N : List Str := N__law_entry
  let st : Stmt := s__law_entry
  refine fn_ok0 (Γ' := []) (sc := ⟨[], .flat, [], []⟩) (k := 0) F sc [.flat] rfl (by decide) rfl fun cdv A outer s0 H E hr => ?_
  exact (ss_cons (sx_if (et_lt (ex_mod (ex_var (k := .flat) 0 rfl (by decide) rfl (by first | exact Or.inl rfl | exact Or.inr (Or.inl rfl) | exact Or.inr (Or.inr rfl))) (ex_int)) (ex_int))
        (ss_one (sx_ret (ex_int)))
        (ss_nil))
        (ss_cons (sx_if (et_lt (ex_mod (ex_var (k := .flat) 0 rfl (by decide) rfl (by first | exact Or.inl rfl | exact Or.inr (Or.inl rfl) | exact Or.inr (Or.inr rfl))) (ex_int)) (ex_int))
        (ss_one (sx_ret (ex_sub (ex_mod (ex_div (ex_var (k := .flat) 0 rfl (by decide) rfl (by first | exact Or.inl rfl | exact Or.inr (Or.inl rfl) | exact Or.inr (Or.inr rfl))) (ex_int)) (ex_int)) (ex_int))))
        (ss_nil))
        (ss_one (sx_ret (ex_add (ex_mul (ex_sub (ex_div (ex_var (k := .flat) 0 rfl (by decide) rfl (by first | exact Or.inl rfl | exact Or.inr (Or.inl rfl) | exact Or.inr (Or.inr rfl))) (ex_int)) (ex_int)) (ex_powc (c := 1000000000) (ex_pow (ex_int) (ex_int)) (by unfold CPow; decide) (by decide))) (ex_div (ex_var (k := .flat) 0 rfl (by decide) rfl (by first | exact Or.inl rfl | exact Or.inr (Or.inl rfl) | exact Or.inr (Or.inr rfl))) (ex_int)))))))
theorem cal__law_entry {f : Addr} {fd : FuncData} (F : FnP K "_law_entry" s__law_entry f fd) (h : mg "_law_entry" = some (.ref f)) : Cal P w K mg base "_law_entry" 1 ["_law_digit"] f__law_entry .flat :=
  ⟨f, fd, ok__law_entry F, h, F.kp, FunD.bindsN F fun _ _ _ _ _ _ us hl => match us, hl with | [_], _ => rfl⟩
theorem sc__law_table : FnScope N__law_table ["_law_cell", "_law_high", "_law_wide"] (defScope s__law_table) := ⟨rfl, rfl, rfl, by decide +kernel, rfl, by decide +kernel, by decide +kernel⟩
theorem ok__law_table {f : Addr} {fd : FuncData} (F : FnP K "_law_table" s__law_table f fd) (b_range : mg "range" = none) (c__law_row : Cal P w K mg base "_law_row" 1 ["_law_cell", "_law_many", "_law_base"] f__law_row .fresh) (c__law_entry : Cal P w K mg base "_law_entry" 1 ["_law_digit"] f__law_entry .flat) : FnOk P w K mg base CX0 2 f fd ["_law_cell", "_law_high", "_law_wide"] (sp0 ⟨mg, K⟩ f__law_table 3 .fresh) := by
  have sc := sc__law_table
  let N : List Str := N__law_table
  let st : Stmt := s__law_table
  refine fn_ok0 (Γ' := []) (sc := ⟨[], .fresh, [], []⟩) (k := 1) F sc [.flat, .flat, .flat] rfl (by decide) rfl fun cdv A outer s0 H E hr => ?_
  exact (ss_cons (sx_set (i := 3) 2 3 sc.nd rfl (by first | exact Or.inl rfl | exact Or.inr rfl) (ex_kids (ex_calls_fresh c__law_row (hr.mono (by decide)) rfl (ea_cons (ex_var (k := .flat) 0 rfl (by decide) rfl (by first | exact Or.inl rfl | exact Or.inr (Or.inl rfl) | exact Or.inr (Or.inr rfl))) (ea_cons (ex_mul (ex_var (k := .flat) 1 rfl (by decide) rfl (by first | exact Or.inl rfl | exact Or.inr (Or.inl rfl) | exact Or.inr (Or.inr rfl))) (ex_var (k := .flat) 2 rfl (by decide) rfl (by first | exact Or.inl rfl | exact Or.inr (Or.inl rfl) | exact Or.inr (Or.inr rfl)))) (ea_cons (ex_int) (ea_nil)))))))
        (ss_one (sx_ret (ex_tup (ea_cons (ex_var (k := .flat) 1 rfl (by decide) rfl (by first | exact Or.inl rfl | exact Or.inr (Or.inl rfl) | exact Or.inr (Or.inr rfl))) (ea_cons (ex_var (k := .flat) 2 rfl (by decide) rfl (by first | exact Or.inl rfl | exact Or.inr (Or.inl rfl) | exact Or.inr (Or.inr rfl))) (ea_cons (ex_lc (own := [("_law_i", 4)]) 4 rfl sc.nd (ei_range1 rfl b_range (ea_cons (ex_var (k := .flat) 1 rfl (by decide) rfl (by first | exact Or.inl rfl | exact Or.inr (Or.inl rfl) | exact Or.inr (Or.inr rfl))) (ea_nil))) (blkOk_by (by kernel_rfl)) (fun _ _ _ _ _ => eg_name sc.nd (i := 4) rfl (by first | exact Or.inl rfl | exact Or.inr rfl)) (fun _ _ _ _ _ => ets_nil) (fun _ _ _ _ _ => ex_lc (own := [("_law_j", 5)]) 5 rfl sc.nd (ei_range1 rfl b_range (ea_cons (ex_var (k := .flat) 2 rfl (by decide) rfl (by first | exact Or.inl rfl | exact Or.inr (Or.inl rfl) | exact Or.inr (Or.inr rfl))) (ea_nil))) (blkOk_by (by kernel_rfl)) (fun _ _ _ _ _ => eg_name sc.nd (i := 5) rfl (by first | exact Or.inl rfl | exact Or.inr rfl)) (fun _ _ _ _ _ => ets_nil) (fun _ _ _ _ _ => ex_calls_flat c__law_entry (hr.mono (by decide)) rfl (ea_cons (ex_flat (ex_idx (ex_var (k := .lab (some 2) [] true) 3 rfl (by decide) rfl (by first | exact Or.inl rfl | exact Or.inr (Or.inl rfl) | exact Or.inr (Or.inr rfl))) (ex_add (ex_mul (ex_var (k := .flat) 4 rfl (by decide) rfl (by first | exact Or.inl rfl | exact Or.inr (Or.inl rfl) | exact Or.inr (Or.inr rfl))) (ex_var (k := .flat) 2 rfl (by decide) rfl (by first | exact Or.inl rfl | exact Or.inr (Or.inl rfl) | exact Or.inr (Or.inr rfl)))) (ex_var (k := .flat) 5 rfl (by decide) rfl (by first | exact Or.inl rfl | exact Or.inr (Or.inl rfl) | exact Or.inr (Or.inr rfl)))))) (ea_nil))))) (ea_nil))))))))
theorem cal__law_table {f : Addr} {fd : FuncData} (F : FnP K "_law_table" s__law_table f fd) (h : mg "_law_table" = some (.ref f)) (b_range : mg "range" = none) (c__law_row : Cal P w K mg base "_law_row" 1 ["_law_cell", "_law_many", "_law_base"] f__law_row .fresh) (c__law_entry : Cal P w K mg base "_law_entry" 1 ["_law_digit"] f__law_entry .flat) : Cal P w K mg base "_law_table" 2 ["_law_cell", "_law_high", "_law_wide"] f__law_table .fresh :=
  ⟨f, fd, ok__law_table F b_range c__law_row c__law_entry, h, F.kp, FunD.bindsN F fun _ _ _ _ _ _ us hl => match us, hl with | [_, _, _], _ => rfl⟩
theorem sc__law_copy : FnScope N__law_copy ["_law_one"] (defScope s__law_copy) := ⟨rfl, rfl, rfl, by decide +kernel, rfl, by decide +kernel, by decide +kernel⟩
theorem ok__law_copy {f : Addr} {fd : FuncData} (F : FnP K "_law_copy" s__law_copy f fd) (b_list : mg "list" = none) : FnOk P w K mg base CX0 1 f fd ["_law_one"] (sp0 ⟨mg, K⟩ f__law_copy 1 .fresh) := by
  have sc := sc__law_copy
  let N : List Str := N__law_copy
  let st : Stmt := s__law_copy
  refine fn_ok0 (Γ' := []) (sc := ⟨[], .fresh, [], []⟩) (k := 0) F sc [.lab none [0] false] rfl (by decide) rfl fun cdv A outer s0 H E hr => ?_
  exact (ss_one (sx_ret (ex_tup (ea_cons (ex_flat (ex_idx (ex_var (k := .lab none [0] false) 0 rfl (by decide) rfl (by first | exact Or.inl rfl | exact Or.inr (Or.inl rfl) | exact Or.inr (Or.inr rfl))) (ex_int))) (ea_cons (ex_flat (ex_idx (ex_var (k := .lab none [0] false) 0 rfl (by decide) rfl (by first | exact Or.inl rfl | exact Or.inr (Or.inl rfl) | exact Or.inr (Or.inr rfl))) (ex_int))) (ea_cons (ex_lc (own := [("_law_row_here", 1)]) 2 rfl sc.nd (ei_list (ex_idx (ex_var (k := .lab none [0] false) 0 rfl (by decide) rfl (by first | exact Or.inl rfl | exact Or.inr (Or.inl rfl) | exact Or.inr (Or.inr rfl))) (ex_int))) (blkOk_by (by kernel_rfl)) (fun _ _ _ _ _ => eg_name sc.nd (i := 1) rfl (by first | exact Or.inl rfl | exact Or.inr rfl)) (fun _ _ _ _ _ => ets_nil) (fun _ _ _ _ _ => ex_kids (ex_list rfl b_list (by decide +kernel) (ex_var (k := .lab none [0] false) 1 rfl (by decide) rfl (by first | exact Or.inl rfl | exact Or.inr (Or.inl rfl) | exact Or.inr (Or.inr rfl)))))) (ea_nil)))))))
theorem cal__law_copy {f : Addr} {fd : FuncData} (F : FnP K "_law_copy" s__law_copy f fd) (h : mg "_law_copy" = some (.ref f)) (b_list : mg "list" = none) : Cal P w K mg base "_law_copy" 1 ["_law_one"] f__law_copy .fresh :=
  ⟨f, fd, ok__law_copy F b_list, h, F.kp, FunD.bindsN F fun _ _ _ _ _ _ us hl => match us, hl with | [_], _ => rfl⟩
theorem sc__law_just : FnScope N__law_just ["_law_e"] (defScope s__law_just) := ⟨rfl, rfl, rfl, by decide +kernel, rfl, by decide +kernel, by decide +kernel⟩
theorem ok__law_just {f : Addr} {fd : FuncData} (F : FnP K "_law_just" s__law_just f fd) (b_ValueError : mg "ValueError" = none) (b_isinstance : mg "isinstance" = none) {C_TooMany : Addr} (g_TooMany : mg "TooMany" = some (.ref C_TooMany)) {C_NoText : Addr} (g_NoText : mg "NoText" = some (.ref C_NoText)) {C_NoWord : Addr} (g_NoWord : mg "NoWord" = some (.ref C_NoWord)) {C_NoMove : Addr} (g_NoMove : mg "NoMove" = some (.ref C_NoMove)) {C_NoPlace : Addr} (g_NoPlace : mg "NoPlace" = some (.ref C_NoPlace)) {C_NoTable : Addr} (g_NoTable : mg "NoTable" = some (.ref C_NoTable)) (T : ExW K mg ["NoTable", "NoPlace", "NoMove", "NoWord", "NoText", "TooMany"]) : FxOk P w K mg base ["NoTable", "NoPlace", "NoMove", "NoWord", "NoText", "TooMany"] 1 f fd "_law_e" f__law_just := by
  have sc := sc__law_just
  let N : List Str := N__law_just
  let st : Stmt := s__law_just
  refine fx_ok (Γ' := []) (sc := ⟨[], .flat, [], []⟩) (k := 0) F sc (by decide) rfl rfl fun cdv A outer s0 H E a oe c C hcL hmC hz hd hp hr => ?_
  exact (ss_cons (sx_if (et_val (ex_isXs (ys := ["NoPlace", "NoMove", "NoWord", "NoText", "TooMany"]) (vs := [.ref C_NoPlace, .ref C_NoMove, .ref C_NoWord, .ref C_NoText, .ref C_TooMany]) (us := [.ref C_NoPlace, .ref C_NoMove, .ref C_NoWord, .ref C_NoText, .ref C_TooMany]) (i := 0) T hp hz hd hcL hmC rfl rfl (by first | exact Or.inl rfl | exact Or.inr (Or.inl rfl) | exact Or.inr (Or.inr rfl)) rfl b_isinstance (by decide +kernel) ⟨rfl, ⟨rfl, by decide, .inl g_NoPlace⟩, rfl, fun _ h => h, ⟨rfl, ⟨rfl, by decide, .inl g_NoMove⟩, rfl, fun _ h => h, ⟨rfl, ⟨rfl, by decide, .inl g_NoWord⟩, rfl, fun _ h => h, ⟨rfl, ⟨rfl, by decide, .inl g_NoText⟩, rfl, fun _ h => h, ⟨rfl, ⟨rfl, by decide, .inl g_TooMany⟩, rfl, fun _ h => h, trivial⟩⟩⟩⟩⟩))
        (ss_one (sx_ret (ex_bl)))
        (ss_nil))
        (ss_one (sx_ret (ex_and (ex_isX (y := "NoTable") (v := .ref C_NoTable) (u := .ref C_NoTable) (i := 0) T hp hz hd hcL hmC rfl rfl (by first | exact Or.inl rfl | exact Or.inr (Or.inl rfl) | exact Or.inr (Or.inr rfl)) rfl b_isinstance (by decide +kernel) ⟨rfl, by decide, .inl g_NoTable⟩ rfl (fun _ h => h)) (ex_one (ex_isX (y := "ValueError") (v := .ty "ValueError") (u := .type "ValueError") (i := 0) T hp hz hd hcL hmC rfl rfl (by first | exact Or.inl rfl | exact Or.inr (Or.inl rfl) | exact Or.inr (Or.inr rfl)) rfl b_isinstance (by decide +kernel) ⟨rfl, by decide, .inr ⟨b_ValueError, boot_ve, by decide⟩⟩ rfl (fun _ h => h)))))))
theorem cal__law_just {f : Addr} {fd : FuncData} (F : FnP K "_law_just" s__law_just f fd) (h : mg "_law_just" = some (.ref f)) (b_ValueError : mg "ValueError" = none) (b_isinstance : mg "isinstance" = none) {C_TooMany : Addr} (g_TooMany : mg "TooMany" = some (.ref C_TooMany)) {C_NoText : Addr} (g_NoText : mg "NoText" = some (.ref C_NoText)) {C_NoWord : Addr} (g_NoWord : mg "NoWord" = some (.ref C_NoWord)) {C_NoMove : Addr} (g_NoMove : mg "NoMove" = some (.ref C_NoMove)) {C_NoPlace : Addr} (g_NoPlace : mg "NoPlace" = some (.ref C_NoPlace)) {C_NoTable : Addr} (g_NoTable : mg "NoTable" = some (.ref C_NoTable)) (T : ExW K mg ["NoTable", "NoPlace", "NoMove", "NoWord", "NoText", "TooMany"]) : CalE P w K mg base ["NoTable", "NoPlace", "NoMove", "NoWord", "NoText", "TooMany"] "_law_just" 1 "_law_e" f__law_just :=
  ⟨f, fd, ok__law_just F b_ValueError b_isinstance g_TooMany g_NoText g_NoWord g_NoMove g_NoPlace g_NoTable T, h, F.kp, FunD.bindsN F fun _ _ _ _ _ _ us hl => match us, hl with | [_], _ => rfl⟩
theorem sc__law_size : FnScope N__law_size ["_law_make", "_law_one", "_law_other"] (defScope s__law_size) := ⟨rfl, rfl, rfl, by decide +kernel, rfl, by decide +kernel, by decide +kernel⟩
theorem ok__law_size {f : Addr} {fd : FuncData} (F : FnP K "_law_size" s__law_size f fd) {C_CordError : Addr} (g_CordError : mg "CordError" = some (.ref C_CordError)) (T : ExW K mg ["NoTable", "NoPlace", "NoMove", "NoWord", "NoText", "TooMany"]) (cx_product : CalX P w K mg base "product" 1 ["one", "other"] f_product .fresh) (cx_plus : CalX P w K mg base "plus" 1 ["one", "other"] f_plus .fresh) (ce__law_just : CalE P w K mg base ["NoTable", "NoPlace", "NoMove", "NoWord", "NoText", "TooMany"] "_law_just" 1 "_law_e" f__law_just) : FnOk P w K mg base CX0 2 f fd ["_law_make", "_law_one", "_law_other"] (sp0 ⟨mg, K⟩ f__law_size 3 .flat) := by
  have sc := sc__law_size
  let N : List Str := N__law_size
  let st : Stmt := s__law_size
  refine fn_ok0 (Γ' := []) (sc := ⟨[], .flat, [], []⟩) (k := 1) F sc [.flat, .lab none [0] false, .lab none [0] false] rfl (by decide) rfl fun cdv A outer s0 H E hr => ?_
  exact (ss_cons (sx_try (i := 4) T rfl rfl sc.nd rfl rfl ⟨rfl, by decide, .inl g_CordError⟩ g_CordError (fun W0 pn xe tk hpass =>
        ss_one (sx_setR (i := 3) 2 3 sc.nd rfl (by first | exact Or.inl rfl | exact Or.inr rfl) (er_or (er_callV (i := 0) cx_plus (hr.mono (by decide)) tk rfl rfl (by first | exact Or.inl rfl | exact Or.inr (Or.inl rfl) | exact Or.inr (Or.inr rfl)) (ea_cons (ex_var (k := .lab none [0] false) 1 rfl (by decide) rfl (by first | exact Or.inl rfl | exact Or.inr (Or.inl rfl) | exact Or.inr (Or.inr rfl))) (ea_cons (ex_var (k := .lab none [0] false) 2 rfl (by decide) rfl (by first | exact Or.inl rfl | exact Or.inr (Or.inl rfl) | exact Or.inr (Or.inr rfl))) (ea_nil)))) (er_callV (i := 0) cx_product (hr.mono (by decide)) tk rfl rfl (by first | exact Or.inl rfl | exact Or.inr (Or.inl rfl) | exact Or.inr (Or.inr rfl)) (ea_cons (ex_var (k := .lab none [0] false) 1 rfl (by decide) rfl (by first | exact Or.inl rfl | exact Or.inr (Or.inl rfl) | exact Or.inr (Or.inr rfl))) (ea_cons (ex_var (k := .lab none [0] false) 2 rfl (by decide) rfl (by first | exact Or.inl rfl | exact Or.inr (Or.inl rfl) | exact Or.inr (Or.inr rfl))) (ea_nil))))) (by rfl))) (fun a oe c C pn hcL hmC hz hd hp => by
        have hr := roomH_mark (v := some (.ref a)) hr
        exact (ss_one (sx_ret (ex_callE ce__law_just hp hz hd hcL hmC (i := 4) rfl rfl (by first | exact Or.inl rfl | exact Or.inr (Or.inl rfl) | exact Or.inr (Or.inr rfl)) (hr.mono (by decide)) rfl)))))
        (ss_one (sx_ret (ex_flat (ex_slT (ex_var (k := .lab (some 2) [3] true) 3 rfl (by decide) rfl (by first | exact Or.inl rfl | exact Or.inr (Or.inl rfl) | exact Or.inr (Or.inr rfl))) (eo_none) (eo_some (ex_int)))))))
theorem cal__law_size {f : Addr} {fd : FuncData} (F : FnP K "_law_size" s__law_size f fd) (h : mg "_law_size" = some (.ref f)) {C_CordError : Addr} (g_CordError : mg "CordError" = some (.ref C_CordError)) (T : ExW K mg ["NoTable", "NoPlace", "NoMove", "NoWord", "NoText", "TooMany"]) (cx_product : CalX P w K mg base "product" 1 ["one", "other"] f_product .fresh) (cx_plus : CalX P w K mg base "plus" 1 ["one", "other"] f_plus .fresh) (ce__law_just : CalE P w K mg base ["NoTable", "NoPlace", "NoMove", "NoWord", "NoText", "TooMany"] "_law_just" 1 "_law_e" f__law_just) : Cal P w K mg base "_law_size" 2 ["_law_make", "_law_one", "_law_other"] f__law_size .flat :=
  ⟨f, fd, ok__law_size F g_CordError T cx_product cx_plus ce__law_just, h, F.kp, FunD.bindsN F fun _ _ _ _ _ _ us hl => match us, hl with | [_, _, _], _ => rfl⟩
theorem sc_law : FnScope N_law ["_law_script"] (defScope s_law) := ⟨rfl, rfl, rfl, by decide +kernel, rfl, by decide +kernel, by decide +kernel⟩
theorem ok_law {f : Addr} {fd : FuncData} (F : FnP K "law" s_law f fd) (b_int : mg "int" = none) (c__law_row : Cal P w K mg base "_law_row" 1 ["_law_cell", "_law_many", "_law_base"] f__law_row .fresh) (c__law_cell_at : Cal P w K mg base "_law_cell_at" 1 ["_law_script", "_law_k"] f__law_cell_at .flat) (c__law_table : Cal P w K mg base "_law_table" 2 ["_law_cell", "_law_high", "_law_wide"] f__law_table .fresh) (c__law_copy : Cal P w K mg base "_law_copy" 1 ["_law_one"] f__law_copy .fresh) (c__law_size : Cal P w K mg base "_law_size" 2 ["_law_make", "_law_one", "_law_other"] f__law_size .flat) (cx_plus : CalX P w K mg base "plus" 1 ["one", "other"] f_plus .fresh) (cx_product : CalX P w K mg base "product" 1 ["one", "other"] f_product .fresh) : FnOk P w K mg base CX0 3 f fd ["_law_script"] (sp0 ⟨mg, K⟩ f_law 1 .flat) := by
  have sc := sc_law
  let N : List Str := N_law
  let st : Stmt := s_law
  refine fn_ok0 (Γ' := []) (sc := ⟨[], .flat, [], []⟩) (k := 2) F sc [.flat] rfl (by decide) rfl fun cdv A outer s0 H E hr => ?_
  exact (ss_cons (sx_set (i := 1) 2 3 sc.nd rfl (by first | exact Or.inl rfl | exact Or.inr rfl) (ex_kids (ex_calls_fresh c__law_row (hr.mono (by decide)) rfl (ea_cons (ex_calls_flat c__law_cell_at (hr.mono (by decide)) rfl (ea_cons (ex_var (k := .flat) 0 rfl (by decide) rfl (by first | exact Or.inl rfl | exact Or.inr (Or.inl rfl) | exact Or.inr (Or.inr rfl))) (ea_cons (ex_int) (ea_nil)))) (ea_cons (ex_int) (ea_cons (ex_int) (ea_nil)))))))
        (ss_cons (sx_set (i := 2) 4 5 sc.nd rfl (by first | exact Or.inl rfl | exact Or.inr rfl) (ex_flat (ex_idx (ex_lst (ea_cons (ex_int) (ea_cons (ex_int) (ea_nil)))) (ex_callTy call_int1 cp_int1 rfl b_int (by decide +kernel) (ea_cons (ex_eq hr.units (ex_mod (ex_flat (ex_idx (ex_var (k := .lab (some 2) [] true) 1 rfl (by decide) rfl (by first | exact Or.inl rfl | exact Or.inr (Or.inl rfl) | exact Or.inr (Or.inr rfl))) (ex_int))) (ex_int)) (ex_int)) (ea_nil))))))
        (ss_cons (sx_asg 7 8 (ex_lc (own := [("_law_number", 12)]) 6 rfl sc.nd (ei_list (ex_slL (ex_var (k := .lab (some 2) [] true) 1 rfl (by decide) rfl (by first | exact Or.inl rfl | exact Or.inr (Or.inl rfl) | exact Or.inr (Or.inr rfl))) (eo_none) (eo_some (ex_int)))) (blkOk_by (by kernel_rfl)) (fun _ _ _ _ _ => eg_flat (eg_name sc.nd (i := 12) rfl (by first | exact Or.inl rfl | exact Or.inr rfl))) (fun _ _ _ _ _ => ets_nil) (fun _ _ _ _ _ => ex_mod (ex_var (k := .flat) 12 rfl (by decide) rfl (by first | exact Or.inl rfl | exact Or.inr (Or.inl rfl) | exact Or.inr (Or.inr rfl))) (ex_var (k := .flat) 2 rfl (by decide) rfl (by first | exact Or.inl rfl | exact Or.inr (Or.inl rfl) | exact Or.inr (Or.inr rfl))))) (eg_lst rfl (egs_cons (eg_flat (eg_name sc.nd (i := 3) rfl (by first | exact Or.inl rfl | exact Or.inr rfl))) (egs_cons (eg_flat (eg_name sc.nd (i := 4) rfl (by first | exact Or.inl rfl | exact Or.inr rfl))) (egs_cons (eg_flat (eg_name sc.nd (i := 5) rfl (by first | exact Or.inl rfl | exact Or.inr rfl))) (egs_nil))))))
        (ss_cons (sx_set (i := 6) 9 10 sc.nd rfl (by first | exact Or.inl rfl | exact Or.inr rfl) (ex_calls_fresh c__law_table (hr.mono (by decide)) rfl (ea_cons (ex_calls_flat c__law_cell_at (hr.mono (by decide)) rfl (ea_cons (ex_var (k := .flat) 0 rfl (by decide) rfl (by first | exact Or.inl rfl | exact Or.inr (Or.inl rfl) | exact Or.inr (Or.inr rfl))) (ea_cons (ex_int) (ea_nil)))) (ea_cons (ex_var (k := .flat) 3 rfl (by decide) rfl (by first | exact Or.inl rfl | exact Or.inr (Or.inl rfl) | exact Or.inr (Or.inr rfl))) (ea_cons (ex_var (k := .flat) 4 rfl (by decide) rfl (by first | exact Or.inl rfl | exact Or.inr (Or.inl rfl) | exact Or.inr (Or.inr rfl))) (ea_nil))))))
        (ss_cons (sx_set (i := 7) 11 12 sc.nd rfl (by first | exact Or.inl rfl | exact Or.inr rfl) (ex_calls_fresh c__law_table (hr.mono (by decide)) rfl (ea_cons (ex_calls_flat c__law_cell_at (hr.mono (by decide)) rfl (ea_cons (ex_var (k := .flat) 0 rfl (by decide) rfl (by first | exact Or.inl rfl | exact Or.inr (Or.inl rfl) | exact Or.inr (Or.inr rfl))) (ea_cons (ex_int) (ea_nil)))) (ea_cons (ex_add (ex_var (k := .flat) 3 rfl (by decide) rfl (by first | exact Or.inl rfl | exact Or.inr (Or.inl rfl) | exact Or.inr (Or.inr rfl))) (ex_mod (ex_flat (ex_idx (ex_var (k := .lab (some 2) [] true) 1 rfl (by decide) rfl (by first | exact Or.inl rfl | exact Or.inr (Or.inl rfl) | exact Or.inr (Or.inr rfl))) (ex_int))) (ex_int))) (ea_cons (ex_add (ex_var (k := .flat) 4 rfl (by decide) rfl (by first | exact Or.inl rfl | exact Or.inr (Or.inl rfl) | exact Or.inr (Or.inr rfl))) (ex_mod (ex_flat (ex_idx (ex_var (k := .lab (some 2) [] true) 1 rfl (by decide) rfl (by first | exact Or.inl rfl | exact Or.inr (Or.inl rfl) | exact Or.inr (Or.inr rfl))) (ex_int))) (ex_int))) (ea_nil))))))
        (ss_cons (sx_set (i := 8) 13 14 sc.nd rfl (by first | exact Or.inl rfl | exact Or.inr rfl) (ex_calls_fresh c__law_table (hr.mono (by decide)) rfl (ea_cons (ex_calls_flat c__law_cell_at (hr.mono (by decide)) rfl (ea_cons (ex_var (k := .flat) 0 rfl (by decide) rfl (by first | exact Or.inl rfl | exact Or.inr (Or.inl rfl) | exact Or.inr (Or.inr rfl))) (ea_cons (ex_int) (ea_nil)))) (ea_cons (ex_add (ex_var (k := .flat) 4 rfl (by decide) rfl (by first | exact Or.inl rfl | exact Or.inr (Or.inl rfl) | exact Or.inr (Or.inr rfl))) (ex_mod (ex_flat (ex_idx (ex_var (k := .lab (some 2) [] true) 1 rfl (by decide) rfl (by first | exact Or.inl rfl | exact Or.inr (Or.inl rfl) | exact Or.inr (Or.inr rfl))) (ex_int))) (ex_int))) (ea_cons (ex_var (k := .flat) 5 rfl (by decide) rfl (by first | exact Or.inl rfl | exact Or.inr (Or.inl rfl) | exact Or.inr (Or.inr rfl))) (ea_nil))))))
        (ss_cons (sx_set (i := 9) 15 16 sc.nd rfl (by first | exact Or.inl rfl | exact Or.inr rfl) (ex_lst (ea_cons (ex_calls_fresh c__law_copy (hr.mono (by decide)) rfl (ea_cons (ex_var (k := .lab (some 9) [10] true) 6 rfl (by decide) rfl (by first | exact Or.inl rfl | exact Or.inr (Or.inl rfl) | exact Or.inr (Or.inr rfl))) (ea_nil))) (ea_cons (ex_calls_fresh c__law_copy (hr.mono (by decide)) rfl (ea_cons (ex_var (k := .lab (some 11) [12] true) 7 rfl (by decide) rfl (by first | exact Or.inl rfl | exact Or.inr (Or.inl rfl) | exact Or.inr (Or.inr rfl))) (ea_nil))) (ea_cons (ex_calls_fresh c__law_copy (hr.mono (by decide)) rfl (ea_cons (ex_var (k := .lab (some 13) [14] true) 8 rfl (by decide) rfl (by first | exact Or.inl rfl | exact Or.inr (Or.inl rfl) | exact Or.inr (Or.inr rfl))) (ea_nil))) (ea_nil))))))
        (ss_cons (sx_for 17 rfl PassesOwn.never (ei_list (ex_lst (ea_cons (ex_var (k := .lab (some 11) [12] true) 7 rfl (by decide) rfl (by first | exact Or.inl rfl | exact Or.inr (Or.inl rfl) | exact Or.inr (Or.inr rfl))) (ea_cons (ex_var (k := .lab (some 13) [14] true) 8 rfl (by decide) rfl (by first | exact Or.inl rfl | exact Or.inr (Or.inl rfl) | exact Or.inr (Or.inr rfl))) (ea_cons (ex_var (k := .lab (some 9) [10] true) 6 rfl (by decide) rfl (by first | exact Or.inl rfl | exact Or.inr (Or.inl rfl) | exact Or.inr (Or.inr rfl))) (ea_nil)))))) (eg_name sc.nd (i := 10) rfl (by first | exact Or.inl rfl | exact Or.inr rfl))
        (ss_conv (Γ' := [.flat, .lab (some 2) [] true, .flat, .flat, .flat, .flat, .lab (some 9) [10] true, .lab (some 11) [12] true, .lab (some 13) [14] true, .lab (some 15) [16] true, .dead, .dead, .dead]) [] (ss_cons (sx_set (i := 11) 18 19 sc.nd rfl (by first | exact Or.inl rfl | exact Or.inr rfl) (ex_bl))
        (ss_cons (sx_if (et_eq hr.units (ex_flat (ex_slT (ex_var (k := .lab none [11, 12, 13, 14, 9, 10] true) 10 rfl (by decide) rfl (by first | exact Or.inl rfl | exact Or.inr (Or.inl rfl) | exact Or.inr (Or.inr rfl))) (eo_none) (eo_some (ex_int)))) (ex_flat (ex_slT (ex_var (k := .lab (some 9) [10] true) 6 rfl (by decide) rfl (by first | exact Or.inl rfl | exact Or.inr (Or.inl rfl) | exact Or.inr (Or.inr rfl))) (eo_none) (eo_some (ex_int)))))
        (ss_one (sx_set (i := 11) 20 21 sc.nd rfl (by first | exact Or.inl rfl | exact Or.inr rfl) (ex_tup (ea_cons (ex_var (k := .flat) 3 rfl (by decide) rfl (by first | exact Or.inl rfl | exact Or.inr (Or.inl rfl) | exact Or.inr (Or.inr rfl))) (ea_cons (ex_var (k := .flat) 4 rfl (by decide) rfl (by first | exact Or.inl rfl | exact Or.inr (Or.inl rfl) | exact Or.inr (Or.inr rfl))) (ea_nil))))))
        (ss_nil))
        (ss_cons (sx_if (et_w (ew_or (et_ne hr.units (ex_calls_flat c__law_size (hr.mono (by decide)) rfl (ea_cons (ex_fn cx_plus.at rfl) (ea_cons (ex_var (k := .lab (some 9) [10] true) 6 rfl (by decide) rfl (by first | exact Or.inl rfl | exact Or.inr (Or.inl rfl) | exact Or.inr (Or.inr rfl))) (ea_cons (ex_var (k := .lab none [11, 12, 13, 14, 9, 10] true) 10 rfl (by decide) rfl (by first | exact Or.inl rfl | exact Or.inr (Or.inl rfl) | exact Or.inr (Or.inr rfl))) (ea_nil))))) (ex_var (k := .flat) 11 rfl (by decide) rfl (by first | exact Or.inl rfl | exact Or.inr (Or.inl rfl) | exact Or.inr (Or.inr rfl)))) (ew_or1 (et_ne hr.units (ex_calls_flat c__law_size (hr.mono (by decide)) rfl (ea_cons (ex_fn cx_plus.at rfl) (ea_cons (ex_var (k := .lab none [11, 12, 13, 14, 9, 10] true) 10 rfl (by decide) rfl (by first | exact Or.inl rfl | exact Or.inr (Or.inl rfl) | exact Or.inr (Or.inr rfl))) (ea_cons (ex_var (k := .lab (some 9) [10] true) 6 rfl (by decide) rfl (by first | exact Or.inl rfl | exact Or.inr (Or.inl rfl) | exact Or.inr (Or.inr rfl))) (ea_nil))))) (ex_var (k := .flat) 11 rfl (by decide) rfl (by first | exact Or.inl rfl | exact Or.inr (Or.inl rfl) | exact Or.inr (Or.inr rfl)))))))
        (ss_one (sx_ret (ex_bl)))
        (ss_nil))
        (ss_cons (sx_set (i := 11) 22 23 sc.nd rfl (by first | exact Or.inl rfl | exact Or.inr rfl) (ex_bl))
        (ss_cons (sx_if (et_eq hr.units (ex_flat (ex_idx (ex_var (k := .lab none [11, 12, 13, 14, 9, 10] true) 10 rfl (by decide) rfl (by first | exact Or.inl rfl | exact Or.inr (Or.inl rfl) | exact Or.inr (Or.inr rfl))) (ex_int))) (ex_var (k := .flat) 4 rfl (by decide) rfl (by first | exact Or.inl rfl | exact Or.inr (Or.inl rfl) | exact Or.inr (Or.inr rfl))))
        (ss_one (sx_set (i := 11) 24 25 sc.nd rfl (by first | exact Or.inl rfl | exact Or.inr rfl) (ex_tup (ea_cons (ex_var (k := .flat) 3 rfl (by decide) rfl (by first | exact Or.inl rfl | exact Or.inr (Or.inl rfl) | exact Or.inr (Or.inr rfl))) (ea_cons (ex_flat (ex_idx (ex_var (k := .lab none [11, 12, 13, 14, 9, 10] true) 10 rfl (by decide) rfl (by first | exact Or.inl rfl | exact Or.inr (Or.inl rfl) | exact Or.inr (Or.inr rfl))) (ex_int))) (ea_nil))))))
        (ss_nil))
        (ss_cons (sx_if (et_ne hr.units (ex_calls_flat c__law_size (hr.mono (by decide)) rfl (ea_cons (ex_fn cx_product.at rfl) (ea_cons (ex_var (k := .lab (some 9) [10] true) 6 rfl (by decide) rfl (by first | exact Or.inl rfl | exact Or.inr (Or.inl rfl) | exact Or.inr (Or.inr rfl))) (ea_cons (ex_var (k := .lab none [11, 12, 13, 14, 9, 10] true) 10 rfl (by decide) rfl (by first | exact Or.inl rfl | exact Or.inr (Or.inl rfl) | exact Or.inr (Or.inr rfl))) (ea_nil))))) (ex_var (k := .flat) 11 rfl (by decide) rfl (by first | exact Or.inl rfl | exact Or.inr (Or.inl rfl) | exact Or.inr (Or.inr rfl))))
        (ss_one (sx_ret (ex_bl)))
        (ss_nil))
        (ss_cons (sx_set (i := 11) 26 27 sc.nd rfl (by first | exact Or.inl rfl | exact Or.inr rfl) (ex_bl))
        (ss_cons (sx_if (et_eq hr.units (ex_flat (ex_idx (ex_var (k := .lab none [11, 12, 13, 14, 9, 10] true) 10 rfl (by decide) rfl (by first | exact Or.inl rfl | exact Or.inr (Or.inl rfl) | exact Or.inr (Or.inr rfl))) (ex_int))) (ex_var (k := .flat) 3 rfl (by decide) rfl (by first | exact Or.inl rfl | exact Or.inr (Or.inl rfl) | exact Or.inr (Or.inr rfl))))
        (ss_one (sx_set (i := 11) 28 29 sc.nd rfl (by first | exact Or.inl rfl | exact Or.inr rfl) (ex_tup (ea_cons (ex_flat (ex_idx (ex_var (k := .lab none [11, 12, 13, 14, 9, 10] true) 10 rfl (by decide) rfl (by first | exact Or.inl rfl | exact Or.inr (Or.inl rfl) | exact Or.inr (Or.inr rfl))) (ex_int))) (ea_cons (ex_var (k := .flat) 4 rfl (by decide) rfl (by first | exact Or.inl rfl | exact Or.inr (Or.inl rfl) | exact Or.inr (Or.inr rfl))) (ea_nil))))))
        (ss_nil))
        (ss_one (sx_if (et_ne hr.units (ex_calls_flat c__law_size (hr.mono (by decide)) rfl (ea_cons (ex_fn cx_product.at rfl) (ea_cons (ex_var (k := .lab none [11, 12, 13, 14, 9, 10] true) 10 rfl (by decide) rfl (by first | exact Or.inl rfl | exact Or.inr (Or.inl rfl) | exact Or.inr (Or.inr rfl))) (ea_cons (ex_var (k := .lab (some 9) [10] true) 6 rfl (by decide) rfl (by first | exact Or.inl rfl | exact Or.inr (Or.inl rfl) | exact Or.inr (Or.inr rfl))) (ea_nil))))) (ex_var (k := .flat) 11 rfl (by decide) rfl (by first | exact Or.inl rfl | exact Or.inr (Or.inl rfl) | exact Or.inr (Or.inr rfl))))
        (ss_one (sx_ret (ex_bl)))
        (ss_nil))))))))))) (by decide) (by decide)))
        (ss_one (sx_ret (ex_eq hr.units (ex_var (k := .lab (some 15) [16] true) 9 rfl (by decide) rfl (by first | exact Or.inl rfl | exact Or.inr (Or.inl rfl) | exact Or.inr (Or.inr rfl))) (ex_lst (ea_cons (ex_var (k := .lab (some 9) [10] true) 6 rfl (by decide) rfl (by first | exact Or.inl rfl | exact Or.inr (Or.inl rfl) | exact Or.inr (Or.inr rfl))) (ea_cons (ex_var (k := .lab (some 11) [12] true) 7 rfl (by decide) rfl (by first | exact Or.inl rfl | exact Or.inr (Or.inl rfl) | exact Or.inr (Or.inr rfl))) (ea_cons (ex_var (k := .lab (some 13) [14] true) 8 rfl (by decide) rfl (by first | exact Or.inl rfl | exact Or.inr (Or.inl rfl) | exact Or.inr (Or.inr rfl))) (ea_nil))))))))))))))))
theorem cal_law {f : Addr} {fd : FuncData} (F : FnP K "law" s_law f fd) (h : mg "law" = some (.ref f)) (b_int : mg "int" = none) (c__law_row : Cal P w K mg base "_law_row" 1 ["_law_cell", "_law_many", "_law_base"] f__law_row .fresh) (c__law_cell_at : Cal P w K mg base "_law_cell_at" 1 ["_law_script", "_law_k"] f__law_cell_at .flat) (c__law_table : Cal P w K mg base "_law_table" 2 ["_law_cell", "_law_high", "_law_wide"] f__law_table .fresh) (c__law_copy : Cal P w K mg base "_law_copy" 1 ["_law_one"] f__law_copy .fresh) (c__law_size : Cal P w K mg base "_law_size" 2 ["_law_make", "_law_one", "_law_other"] f__law_size .flat) (cx_plus : CalX P w K mg base "plus" 1 ["one", "other"] f_plus .fresh) (cx_product : CalX P w K mg base "product" 1 ["one", "other"] f_product .fresh) : Cal P w K mg base "law" 3 ["_law_script"] f_law .flat :=
  ⟨f, fd, ok_law F b_int c__law_row c__law_cell_at c__law_table c__law_copy c__law_size cx_plus cx_product, h, F.kp, FunD.bindsN F fun _ _ _ _ _ _ us hl => match us, hl with | [_], _ => rfl⟩
end
end K04

/-! ## K04p -/
namespace K04
open PySem PySem.Spec PyProof.Rows L2 VV VP
theorem swap {n : Nat} {pk : List Kd} {c : List D → Option Bool} {x : Str} {b : Sv} {ds : List D} {r : Res} (h : fnSem n pk (sSeq (sIf c sNever sNil) b) ds = some r) : fnSem n pk (sSeq (sIf c (sRaise x) sNil) b) ds = some r := by
  by_cases hp : pkOk pk ds = true
  · rw [fn_s hp] at h ⊢
    generalize ds ++ List.replicate (n - ds.length) .non = ρ at h ⊢
    rw [sSeq_s] at h ⊢
    cases hc : c ρ with
    | none => rw [sIf_s, hc] at h; cases h
    | some t =>
      cases t with
      | true => rw [sIf_t hc] at h; cases h
      | false => rw [sIf_f hc] at h ⊢; exact h
  · unfold fnSem at h
    rw [if_neg hp] at h
    cases h
theorem raised {n : Nat} {pk : List Kd} {c : List D → Option Bool} {x : Str} {b : Sv} {ds : List D} (hp : pkOk pk ds = true) (h : c (ds ++ List.replicate (n - ds.length) .non) = some true) : fnSem n pk (sSeq (sIf c (sRaise x) sNil) b) ds = some (.exn x) := by
  rw [fn_s hp, sSeq_s, sIf_t h]
  rfl
theorem cut2 {h w : Nat} {f : Nat → Nat → Int} : dSl (encT h w f) none (some 2) = some (.tup [.int h, .int w]) := by
  unfold encT
  rw [dSl_t (by simp [HT.sIx])]
  simp [cutG, HT.sIx]
theorem chk {h w : Nat} {f : Nat → Nat → Int} : (some (encT h w f)).filter D.isTup = some (encT h w f) := rfl
theorem ne_pair {a b c d : Nat} : dNe [.tup [.int a, .int b], .tup [.int c, .int d]] = some (.bl (!(decide (a = c ∧ b = d)))) := by
  have ok : ∀ a b : Nat, Ok 1 (.tup [.int a, .int b]) := fun a b => Ok.tup fun x hx => by
    simp only [List.mem_cons, List.not_mem_nil, or_false] at hx
    rcases hx with rfl | rfl <;> exact Ok.int
  unfold dNe
  dsimp only
  rw [(ok a b).shd (by decide), (ok c d).shd (by decide)]
  have e : ∀ x y : Nat, ((x : Int) == (y : Int)) = decide (x = y) := fun x y => by rw [beq_dec]; simp [Int.ofNat_inj]
  simp [D.eqv, D.toP, D.toPL, PyData.eqv, PyData.eqvAll, e]
theorem eq_pair {a b c d : Nat} : dEq [.tup [.int a, .int b], .tup [.int c, .int d]] = some (.bl (decide (a = c ∧ b = d))) := by
  have ok : ∀ a b : Nat, Ok 1 (.tup [.int a, .int b]) := fun a b => Ok.tup fun x hx => by
    simp only [List.mem_cons, List.not_mem_nil, or_false] at hx
    rcases hx with rfl | rfl <;> exact Ok.int
  unfold dEq
  dsimp only
  rw [(ok a b).shd (by decide), (ok c d).shd (by decide)]
  have e : ∀ x y : Nat, ((x : Int) == (y : Int)) = decide (x = y) := fun x y => by rw [beq_dec]; simp [Int.ofNat_inj]
  simp [D.eqv, D.toP, D.toPL, PyData.eqv, PyData.eqvAll, e]
theorem plus_fit {h w : Nat} {f g : Nat → Nat → Int} : ∃ e, f_plus [encT h w f, encT h w g] = some (.ret (encT h w e)) := ⟨_, swap (VP.plus_ok h w f g)⟩
theorem plus_no {h w p q : Nat} {f g : Nat → Nat → Int} (hn : ¬ (h = p ∧ w = q)) : f_plus [encT h w f, encT p q g] = some (.exn "NoTable") := by
  refine raised (by simp) ?_
  have it : ∀ (a b : Nat) (f : Nat → Nat → Int), (encT a b f).isTup = true := fun _ _ _ => rfl
  simp [it, cut2, ne_pair, Option.filter_some]
  by_cases e : h = p
  · exact .inr fun z => hn ⟨e, z⟩
  · exact .inl e
theorem product_fit {h w d : Nat} {f g : Nat → Nat → Int} (hf : ∀ i j, i < h → j < w → Bn 40 (f i j)) (hg : ∀ i j, i < w → j < d → Bn 40 (g i j)) (hh : h ≤ 100) (hw : w ≤ 100) (hd : d ≤ 100) : ∃ e, f_product [encT h w f, encT w d g] = some (.ret (encT h d e)) :=
  ⟨_, swap (VP.product_ok h w d f g hf hg (by decide) (by omega) (by omega) (by omega))⟩
theorem product_no {h w p q : Nat} {f g : Nat → Nat → Int} (hn : ¬ w = p) : f_product [encT h w f, encT p q g] = some (.exn "NoTable") := by
  refine raised (by simp) ?_
  have e : ((w : Int) == (p : Int)) = false := by rw [beq_dec]; simp [Int.ofNat_inj, hn]
  simp [enc0, enc1, Option.filter_some, bne, e]
theorem just_ok : f__law_just [.str "NoTable"] = some (.ret (.bl true)) := by
  refine fn_go (by simp) ?_
  show Go m__law_just [.str "NoTable"] _
  have e1 : eIsX 0 ["NoPlace", "NoMove", "NoWord", "NoText", "TooMany"] [.str "NoTable"] = some (.bl false) := isX_s rfl (by decide +kernel)
  have e2 : eIsX 0 ["NoTable"] [.str "NoTable"] = some (.bl true) := isX_s rfl (by decide +kernel)
  have e3 : eIsX 0 ["ValueError"] [.str "NoTable"] = some (.bl true) := isX_s rfl (by decide +kernel)
  refine Go.no (by simp [e1]) ?_
  exact Go.ret (d := .bl true) (by simp [e2, e3]) rfl

/-- what the try tells -/
theorem try_ret {b s : Sv} {L : List Str} {y : Str} {i : Nat} {ρ ρ' : List D} (h : b ρ = some (.nx ρ')) : sTry L b y i s ρ = some (.nx ρ') := by
  unfold sTry
  rw [h]
theorem try_exn {b s : Sv} {L : List Str} {y c : Str} {i : Nat} {ρ ρ' : List D} {d : D} (h : b ρ = some (.ex c ρ')) (hc : (L.contains c && (subX c y == some true)) = true) (hs : s (ρ'.set i (.str c)) = some (.rt d)) : sTry L b y i s ρ = some (.rt d) := by
  unfold sTry
  rw [h]
  dsimp only
  rw [if_pos hc, hs]
theorem setR_ret {i : Nat} {r : List D → Option Res} {ρ : List D} {d : D} (h : r ρ = some (.ret d)) : sSetR i r ρ = some (.nx (ρ.set i d)) := by
  unfold sSetR
  rw [h]
theorem setR_exn {i : Nat} {r : List D → Option Res} {ρ : List D} {c : Str} (h : r ρ = some (.exn c)) : sSetR i r ρ = some (.ex c ρ) := by
  unfold sSetR
  rw [h]
theorem callV {i : Nat} {x : Str} {f : List D → Option Res} {a : List D → Option (List D)} {ρ ds : List D} (h : ρ[i]? = some (.fn x)) (ha : a ρ = some ds) : rCallV i x f a ρ = f ds := by
  unfold rCallV
  rw [h]
  dsimp only
  rw [if_pos rfl, ha]
  rfl
theorem callV_no {i : Nat} {x y : Str} {f : List D → Option Res} {a : List D → Option (List D)} {ρ : List D} (h : ρ[i]? = some (.fn y)) (hn : y ≠ x) : rCallV i x f a ρ = none := by
  unfold rCallV
  rw [h]
  dsimp only
  rw [if_neg hn]
theorem size_of {y : Str} {a b : D} {r : Res} (hy : y = "plus" ∧ f_plus [a, b] = some r ∨ y = "product" ∧ f_product [a, b] = some r) :
    (∀ h w : Nat, ∀ e, r = .ret (encT h w e) → f__law_size [.fn y, a, b] = some (.ret (.tup [.int h, .int w]))) ∧ (r = .exn "NoTable" → f__law_size [.fn y, a, b] = some (.ret (.bl true))) := by
  have hr : rOr (rCallV 0 "plus" f_plus (aCons (eVar 1) (aCons (eVar 2) aNil))) (rCallV 0 "product" f_product (aCons (eVar 1) (aCons (eVar 2) aNil))) [.fn y, a, b, .non, .non] = some r := by
    rcases hy with ⟨rfl, h⟩ | ⟨rfl, h⟩
    · unfold rOr
      rw [callV (ds := [a, b]) rfl (by simp), h]
    · unfold rOr
      rw [callV_no (y := "product") rfl (by decide)]
      dsimp only
      rw [callV (ds := [a, b]) rfl (by simp), h]
  refine ⟨fun h w e he => ?_, fun he => ?_⟩
  · subst he
    refine fn_go (by simp) ?_
    show Go m__law_size [.fn y, a, b, .non, .non] _
    unfold m__law_size
    rw [go_seq]
    refine ⟨_, try_ret (setR_ret hr), ?_⟩
    show Go m__law_size_1 [.fn y, a, b, encT h w e, .non] _
    have it : ∀ (a b : Nat) (f : Nat → Nat → Int), (encT a b f).isTup = true := fun _ _ _ => rfl
    refine Go.ret (d := .tup [.int h, .int w]) (by simp [it, cut2, Option.filter_some]) rfl
  · subst he
    refine fn_go (by simp) ?_
    show Go m__law_size [.fn y, a, b, .non, .non] _
    unfold m__law_size
    rw [go_seq]
    refine ⟨_, try_exn (setR_exn hr) (by decide +kernel) (d := .bl true) ?_, rfl⟩
    simp [just_ok]
/-- two tables that are summed -/
theorem size_plus {h w p q : Nat} {f g : Nat → Nat → Int} : f__law_size [.fn "plus", encT h w f, encT p q g] = some (.ret (if h = p ∧ w = q then .tup [.int h, .int w] else .bl true)) := by
  by_cases e : h = p ∧ w = q
  · rw [if_pos e]
    obtain ⟨rfl, rfl⟩ := e
    obtain ⟨e, he⟩ := plus_fit (h := h) (w := w) (f := f) (g := g)
    exact (size_of (.inl ⟨rfl, he⟩)).1 h w e rfl
  · rw [if_neg e]
    exact (size_of (.inl ⟨rfl, plus_no e⟩)).2 rfl
theorem size_product {h w p q : Nat} {f g : Nat → Nat → Int} (hf : ∀ i j, i < h → j < w → Bn 40 (f i j)) (hg : ∀ i j, i < p → j < q → Bn 40 (g i j)) (hh : h ≤ 100) (hw : w ≤ 100) (hd : q ≤ 100) :
    f__law_size [.fn "product", encT h w f, encT p q g] = some (.ret (if w = p then .tup [.int h, .int q] else .bl true)) := by
  by_cases e : w = p
  · rw [if_pos e]
    subst e
    obtain ⟨e, he⟩ := product_fit hf hg hh hw hd
    exact (size_of (.inr ⟨rfl, he⟩)).1 h q e rfl
  · rw [if_neg e]
    exact (size_of (.inr ⟨rfl, product_no e⟩)).2 rfl
theorem copy_ok {h w : Nat} {f : Nat → Nat → Int} : f__law_copy [encT h w f] = some (.ret (encT h w f)) := by
  refine fn_go (by simp) ?_
  show Go m__law_copy [encT h w f, .non] _
  refine Go.ret (d := encT h w f) ?_ rfl
  have l : lcL (gN 1) cYes m__law_copy_e1 [encT h w f, .non] ((List.range h).map fun i => rowD w (f i)) = some ((List.range h).map fun i => rowD w (f i)) :=
    lcL_map (fun i => rowD w (f i)) (fun i => rowD w (f i)) _ fun i _ => ⟨_, gN_s, cYes_s, by
      have : D.kidsFlat (rowD w (f i)) = true := by
        show D.isFlatL _ = true
        have := @flL_ints ((List.range w).map fun j => f i j)
        rw [List.map_map] at this
        exact this
      have hl : dList [rowD w (f i)] = some (rowD w (f i)) := rfl
      simp [m__law_copy_e1, hl, Option.filter_some, this]⟩
  simp [enc0, enc1, enc2, Option.filter_some, l]
  rfl
end K04

/-! ## K04q -/
namespace K04
open PySem PySem.Spec PyProof.Rows L2 VV VP
abbrev QQ : Out → Prop := fun o => outR (some o) = some (.ret (.bl true))
theorem ok_due {h w : Nat} {c : Prop} [Decidable c] : Ok 1 (if c then .tup [.int h, .int w] else .bl true) := by
  split
  · exact Ok.tup fun x hx => by
      simp only [List.mem_cons, List.not_mem_nil, or_false] at hx
      rcases hx with rfl | rfl <;> exact Ok.int
  · exact Ok.bl.mono (by decide)
theorem iteD {c : Prop} [Decidable c] {a b : Nat} {p q : Nat} (h : c → a = p ∧ b = q) : (if c then D.tup [.int a, .int b] else .bl true) = if c then .tup [.int p, .int q] else .bl true := by
  split
  · rename_i hc
    obtain ⟨rfl, rfl⟩ := h hc
    rfl
  · rfl
theorem law_true : ∀ ns : List Int, ns.length ≤ 63 → (∀ z ∈ ns, PySem.Builtin.Int.intBits z ≤ 1048576) → f_law [.scr (ns.map D.int)] = some (.ret (.bl true)) := by
  intro ns hn hz
  refine fn_go (by simp) ?_
  obtain ⟨L, hL⟩ : ∃ L, L = D.scr (ns.map D.int) := ⟨_, rfl⟩
  have cell : ∀ k : Nat, f__law_cell_at [L, .int k] = some (.ret (.int (ns.getD k 0))) := fun k => by rw [hL]; exact cell_ok ns k
  rw [← hL]
  show Go m_law [L, .non, .non, .non, .non, .non, .non, .non, .non, .non, .non, .non, .non] _
  obtain ⟨r, hr, hl, hb⟩ := row_ok (ns.getD 0 0) 8 4096 (by decide) (by decide) (by decide)
  obtain ⟨a0, a1, a2, a3, a4, a5, a6, a7, rfl⟩ : ∃ a0 a1 a2 a3 a4 a5 a6 a7, r = [a0, a1, a2, a3, a4, a5, a6, a7] := by
    match r, hl with
    | [a0, a1, a2, a3, a4, a5, a6, a7], _ => exact ⟨_, _, _, _, _, _, _, _, rfl⟩
  have c0 := cell 0
  have c1 := cell 1
  have c2 := cell 2
  have c3 := cell 3
  simp only [Int.ofNat_zero, Int.natCast_zero, Int.natCast_one, Int.cast_ofNat_Int] at c0 c1 c2 c3
  simp only [Int.cast_ofNat_Int] at hr
  refine Go.set (d := .lst ([a0, a1, a2, a3, a4, a5, a6, a7].map D.int)) (by simp [-List.getD_eq_getElem?_getD, c0, hr, Option.filter_some]) ?_
  obtain ⟨R, hR⟩ : ∃ R, R = D.lst ([a0, a1, a2, a3, a4, a5, a6, a7].map D.int) := ⟨_, rfl⟩
  rw [← hR]
  have ix : ∀ (k : Nat) (v : Int), [a0, a1, a2, a3, a4, a5, a6, a7][k]? = some v → dIdx [R, .int k] = some (.int v) := fun k v h => by rw [hR]; exact idx_at rfl h
  have i3 := ix 3 a3 rfl
  have i4 := ix 4 a4 rfl
  have i5 := ix 5 a5 rfl
  have i7 := ix 7 a7 rfl
  simp only [Int.cast_ofNat_Int] at i3 i4 i5 i7
  obtain ⟨mo, hmo, e2⟩ : ∃ mo : Nat, (mo = 6 ∨ mo = 17) ∧ eChk D.isFlat (eP dIdx (aCons (eLst (aCons (eC (.int 6)) (aCons (eC (.int 17)) aNil))) (aCons (eP dIntC (aCons (eP dEq (aCons (eP dMod (aCons (eChk D.isFlat (eP dIdx (aCons (eVar 1) (aCons (eC (.int 7)) aNil)))) (aCons (eC (.int 8)) aNil))) (aCons (eC (.int 5)) aNil))) aNil)) aNil))) [L, R, .non, .non, .non, .non, .non, .non, .non, .non, .non, .non, .non] = some (.int mo) := by
    by_cases h : a7 % 8 = 5
    · exact ⟨17, Or.inr rfl, by simp [i7, h, Option.filter_some]⟩
    · exact ⟨6, Or.inl rfl, by simp [i7, h, Option.filter_some]⟩
  refine Go.set (d := .int mo) e2 ?_
  show Go m_law_2 [L, R, .int mo, .non, .non, .non, .non, .non, .non, .non, .non, .non, .non] _
  have hmod : ∀ (a : Int) (n : Nat), 0 < n → ∃ s : Nat, a % n = s ∧ s < n := fun a n h => by
    have h1 := Int.emod_nonneg a (b := n) (by omega)
    have h2 := Int.emod_lt_of_pos a (b := n) (by omega)
    exact ⟨(a % n).toNat, by omega, by omega⟩
  obtain ⟨s0, h0, l0⟩ := hmod a0 mo (by omega)
  obtain ⟨s1, h1, l1⟩ := hmod a1 mo (by omega)
  obtain ⟨s2, h2, l2⟩ := hmod a2 mo (by omega)
  obtain ⟨b3, h3, l3⟩ := hmod a3 2 (by decide)
  obtain ⟨b4, h4, l4⟩ := hmod a4 2 (by decide)
  obtain ⟨b5, h5, l5⟩ := hmod a5 2 (by decide)
  simp only [Int.cast_ofNat_Int] at h3 h4 h5
  have hcut : cutG ([a0, a1, a2, a3, a4, a5, a6, a7].map D.int) none (some 3) = [a0, a1, a2].map D.int := by simp [cutG, HT.sIx]
  have lz : lcL (gF (gN 12)) cYes m_law_e1 [L, R, .int mo, .non, .non, .non, .non, .non, .non, .non, .non, .non, .non] ([a0, a1, a2].map D.int) = some ([a0, a1, a2].map fun a => .int (a % mo)) :=
    lcL_map D.int (fun a => .int (a % mo)) _ fun a _ => ⟨[L, R, .int mo, .non, .non, .non, .non, .non, .non, .non, .non, .non, .int a], by simp, cYes_s, by
      unfold m_law_e1
      simp only [eP_s, aCons_s, eVar_s, aNil_s, List.getElem?_cons_succ, List.getElem?_cons_zero, ob_some]
      exact dMod_s (by omega)⟩
  have hf : (some R).filter D.isLst = some (.lst ([a0, a1, a2, a3, a4, a5, a6, a7].map D.int)) := by rw [hR]; rfl
  refine Go.asg (d := .lst [.int s0, .int s1, .int s2]) (ρ' := [L, R, .int mo, .int s0, .int s1, .int s2, .non, .non, .non, .non, .non, .non, .non]) ?_ (by simp) ?_
  · simp only [eLc_s, iLst_s, eSl_s, eChk_s, eVar_s, oNone_s, oSome_s, eC_s, List.getElem?_cons_succ, List.getElem?_cons_zero, hf, ob_some, dSl_l, asL_l, hcut, lz]
    simp [h0, h1, h2]
  -- the tables
  have hm16 : mo ≤ 17 := by omega
  obtain ⟨F, t1, bF⟩ := table_ok (ns.getD 1 0) s0 s1 (by omega) (by omega)
  obtain ⟨G, t2, bG⟩ := table_ok (ns.getD 2 0) (s0 + b3) (s1 + b4) (by omega) (by omega)
  obtain ⟨H, t3, bH⟩ := table_ok (ns.getD 3 0) (s1 + b5) s2 (by omega) (by omega)
  simp only [Int.natCast_add] at t2 t3
  refine Go.set (d := encT s0 s1 F) (by simp [-List.getD_eq_getElem?_getD, c1, t1]) ?_
  refine Go.set (d := encT (s0 + b3) (s1 + b4) G) (by simp [-List.getD_eq_getElem?_getD, c2, t2, i3, i4, h3, h4, Option.filter_some]) ?_
  refine Go.set (d := encT (s1 + b5) s2 H) (by simp [-List.getD_eq_getElem?_getD, c3, t3, i5, h5, Option.filter_some]) ?_
  refine Go.set (d := .lst [encT s0 s1 F, encT (s0 + b3) (s1 + b4) G, encT (s1 + b5) s2 H]) (by simp [copy_ok]) ?_
  show Go (sSeq _ _) [L, R, .int mo, .int s0, .int s1, .int s2, encT s0 s1 F, encT (s0 + b3) (s1 + b4) G, encT (s1 + b5) s2 H, .lst [encT s0 s1 F, encT (s0 + b3) (s1 + b4) G, encT (s1 + b5) s2 H], .non, .non, .non] _
  obtain ⟨N, hN⟩ : ∃ N, N = encT (s0 + b3) (s1 + b4) G := ⟨_, rfl⟩
  obtain ⟨A, hA⟩ : ∃ N, N = encT (s1 + b5) s2 H := ⟨_, rfl⟩
  obtain ⟨O, hO⟩ : ∃ N, N = encT s0 s1 F := ⟨_, rfl⟩
  obtain ⟨Kp, hK⟩ : ∃ K : D, K = D.lst [O, N, A] := ⟨_, rfl⟩
  rw [← hN, ← hA, ← hO, ← hK, go_seq]
  have tabs : ∀ t ∈ [N, A, O], ∃ p q E, t = encT p q E ∧ p ≤ 18 ∧ q ≤ 18 ∧ ∀ i j, i < p → j < q → Bn 40 (E i j) := fun t ht => by
    simp only [List.mem_cons, List.not_mem_nil, or_false] at ht
    rcases ht with rfl | rfl | rfl
    · exact ⟨_, _, _, hN, by omega, by omega, bG⟩
    · exact ⟨_, _, _, hA, by omega, by omega, bH⟩
    · exact ⟨_, _, _, hO, by omega, by omega, bF⟩
  refine go_for (fun x : D => x) [N, A, O] (fun i ρ => ∃ x10 x11, ρ = [L, R, .int mo, .int s0, .int s1, .int s2, O, N, A, Kp, x10, x11, .non]) (by simp) ⟨_, _, rfl⟩ (fun i t ρ ht hR => ?_) (fun ρ' hR => ?_)
  · obtain ⟨x10, x11, rfl⟩ := hR
    obtain ⟨p, q, E, rfl, lp, lq, bE⟩ := tabs t (List.mem_of_getElem? ht)
    refine ⟨[L, R, .int mo, .int s0, .int s1, .int s2, O, N, A, Kp, encT p q E, x11, .non], by simp, ?_⟩
    have it : ∀ (a b : Nat) (f : Nat → Nat → Int), (encT a b f).isTup = true := fun _ _ _ => rfl
    have z1 := @size_plus s0 s1 p q F E
    have z2 := @size_plus p q s0 s1 E F
    have z3 := size_product bF bE (by omega) (by omega) (by omega)
    have z4 := size_product bE bF (by omega) (by omega) (by omega)
    rw [← hO] at z1 z2 z3 z4
    refine Go.set (d := .bl true) rfl ?_
    have w0 : ∀ {a b : Nat}, ((a : Int) == (b : Int)) = decide (a = b) := fun {a b} => by rw [beq_dec]; simp [Int.ofNat_inj]
    -- the due size of the sum
    have d1 : Go m_law_b1_2 [L, R, .int mo, .int s0, .int s1, .int s2, O, N, A, Kp, encT p q E, if p = s0 ∧ q = s1 then .tup [.int s0, .int s1] else .bl true, .non] fun o => ∃ ρ2, (o = .nx ρ2 ∨ o = .ct ρ2) ∧ ∃ x10 x11, ρ2 = [L, R, .int mo, .int s0, .int s1, .int s2, O, N, A, Kp, x10, x11, .non] := by
      have n1 : dNe [if s0 = p ∧ s1 = q then .tup [.int s0, .int s1] else .bl true, if p = s0 ∧ q = s1 then .tup [.int s0, .int s1] else .bl true] = some (.bl false) := by
        by_cases h : p = s0 ∧ q = s1
        · rw [if_pos h, if_pos ⟨h.1.symm, h.2.symm⟩]
          exact dNe_same (ok_due (c := True) (h := s0) (w := s1)) (by decide)
        · rw [if_neg h, if_neg fun z => h ⟨z.1.symm, z.2.symm⟩]
          exact dNe_same Ok.bl (by decide)
      have n2 : dNe [if p = s0 ∧ q = s1 then .tup [.int p, .int q] else .bl true, if p = s0 ∧ q = s1 then .tup [.int s0, .int s1] else .bl true] = some (.bl false) := by
        rw [iteD (a := p) (b := q) (p := s0) (q := s1) fun h => h]
        exact dNe_same ok_due (by decide)
      refine Go.no (by simp [z1, z2, n1, n2]) ?_
      refine Go.set (d := .bl true) rfl ?_
      have d2 : Go m_law_b1_5 [L, R, .int mo, .int s0, .int s1, .int s2, O, N, A, Kp, encT p q E, if s1 = p then .tup [.int s0, .int q] else .bl true, .non] fun o => ∃ ρ2, (o = .nx ρ2 ∨ o = .ct ρ2) ∧ ∃ x10 x11, ρ2 = [L, R, .int mo, .int s0, .int s1, .int s2, O, N, A, Kp, x10, x11, .non] := by
        have n3 : dNe [if s1 = p then .tup [.int s0, .int q] else .bl true, if s1 = p then .tup [.int s0, .int q] else .bl true] = some (.bl false) := dNe_same ok_due (by decide)
        refine Go.no (by simp [z3, n3]) ?_
        refine Go.set (d := .bl true) rfl ?_
        have d3 : Go m_law_b1_8 [L, R, .int mo, .int s0, .int s1, .int s2, O, N, A, Kp, encT p q E, if q = s0 then .tup [.int p, .int s1] else .bl true, .non] fun o => ∃ ρ2, (o = .nx ρ2 ∨ o = .ct ρ2) ∧ ∃ x10 x11, ρ2 = [L, R, .int mo, .int s0, .int s1, .int s2, O, N, A, Kp, x10, x11, .non] := by
          have n4 : dNe [if q = s0 then .tup [.int p, .int s1] else .bl true, if q = s0 then .tup [.int p, .int s1] else .bl true] = some (.bl false) := dNe_same ok_due (by decide)
          unfold m_law_b1_8
          rw [go_f (by simp [z4, n4]), go_nil]
          exact ⟨_, .inl rfl, _, _, rfl⟩
        refine Go.ite (p := q = s0) (by simp [enc1, Option.filter_some, w0]) (fun h => ?_) (fun h => ?_)
        · refine Go.set1 (d := .tup [.int p, .int s1]) (by simp [enc0, Option.filter_some]) ?_
          rw [if_pos h] at d3
          exact d3
        · rw [if_neg h] at d3
          rw [go_nil]
          exact d3
      refine Go.ite (p := p = s1) (by simp [enc0, Option.filter_some, w0]) (fun h => ?_) (fun h => ?_)
      · refine Go.set1 (d := .tup [.int s0, .int q]) (by simp [enc1, Option.filter_some]) ?_
        rw [if_pos h.symm] at d2
        exact d2
      · rw [if_neg fun z => h z.symm] at d2
        rw [go_nil]
        exact d2
    refine Go.ite (p := p = s0 ∧ q = s1) ?_ (fun h => ?_) (fun h => ?_)
    · have hO' : (some O).filter D.isTup = some (encT s0 s1 F) := by rw [hO]; rfl
      simp only [tOf_s, eP_s, aCons_s, aNil_s, eChk_s, eSl_s, oNone_s, oSome_s, eC_s, eVar_s, List.set_cons_succ, List.set_cons_zero, List.getElem?_cons_succ, List.getElem?_cons_zero, Option.filter_some, it, hO', cut2, ob_some, Option.filter_some, fl_tup, flL_cons, fl_int, flL_nil, Bool.and_self, if_true, eq_pair, asB_s]
    · refine Go.set1 (d := .tup [.int s0, .int s1]) (by simp) ?_
      rw [if_pos h] at d1
      exact d1
    · rw [if_neg h] at d1
      rw [go_nil]
      exact d1
  · obtain ⟨x10, x11, rfl⟩ := hR
    have ok : Ok 4 Kp := by
      rw [hK, hN, hA, hO]
      exact Ok.lst' fun a ha => by
        simp only [List.mem_cons, List.not_mem_nil, or_false] at ha
        rcases ha with rfl | rfl | rfl <;> exact ok_encT
    have e := dEq_same ok (by decide)
    refine Go.ret (d := .bl true) (by simp [← hK, e]) rfl
end K04

/-! ## K04h -/
namespace K04
open PySem PySem.Spec PyProof.Rows L2 VV VP
def dd_plus : He.DefD := ⟨("plus", none), "plus", "plus", defArgs s_plus, defBody s_plus, defScope s_plus, [], []⟩
def dd_product : He.DefD := ⟨("product", none), "product", "product", defArgs s_product, defBody s_product, defScope s_product, [], []⟩
def dd__law_cell_at : He.DefD := ⟨("_law_cell_at", none), "_law_cell_at", "_law_cell_at", defArgs s__law_cell_at, defBody s__law_cell_at, defScope s__law_cell_at, [], []⟩
def dd__law_row : He.DefD := ⟨("_law_row", none), "_law_row", "_law_row", defArgs s__law_row, defBody s__law_row, defScope s__law_row, [], []⟩
def dd__law_entry : He.DefD := ⟨("_law_entry", none), "_law_entry", "_law_entry", defArgs s__law_entry, defBody s__law_entry, defScope s__law_entry, [], []⟩
def dd__law_table : He.DefD := ⟨("_law_table", none), "_law_table", "_law_table", defArgs s__law_table, defBody s__law_table, defScope s__law_table, [], []⟩
def dd__law_copy : He.DefD := ⟨("_law_copy", none), "_law_copy", "_law_copy", defArgs s__law_copy, defBody s__law_copy, defScope s__law_copy, [], []⟩
def dd__law_just : He.DefD := ⟨("_law_just", none), "_law_just", "_law_just", defArgs s__law_just, defBody s__law_just, defScope s__law_just, [], []⟩
def dd__law_size : He.DefD := ⟨("_law_size", none), "_law_size", "_law_size", defArgs s__law_size, defBody s__law_size, defScope s__law_size, [], []⟩
def dd_law : He.DefD := ⟨("law", none), "law", "law", defArgs s_law, defBody s_law, defScope s_law, [], []⟩
def fnD : List He.DefD := [dd_plus, dd_product, dd__law_cell_at, dd__law_row, dd__law_entry, dd__law_table, dd__law_copy, dd__law_just, dd__law_size, dd_law]
def faD : List He.Fa := [.glo "plus", .glo "product", .glo "_law_cell_at", .glo "_law_row", .glo "_law_entry", .glo "_law_table", .glo "_law_copy", .glo "_law_just", .glo "_law_size", .glo "law", .free "ValueError", .free "int", .free "isinstance", .free "len", .free "list", .free "range", .free "zip"]
abbrev RR : PySem.W.OpenRow := PySem.W.OpenLaw.row PySem.Challenge.rw_loopcube_k04_tables_that_do_not_fit
abbrev hk : PySem.W.Hook := hookV 4 (exB ["NoTable", "NoPlace", "NoMove", "NoWord", "NoText", "TooMany"]) faD fnD
def ob (s : PySem.W.SharedT) : He.AlD := obsVG 4 (exB ["NoTable", "NoPlace", "NoMove", "NoWord", "NoText", "TooMany"]) faD fnD (HandSHeadRun.getT s)
theorem ob_eq (s : PySem.W.SharedT) : ob s = hk.obs s.abs := obsVG_eq (HandSHeadRun.getT_eq s)
theorem run (w : World) : HandSHeadRun.RunEq RR (PySem.W.view RR.prog [19]) hk ob 4000 ["plus", "product", "_law_cell_at", "_law_row", "_law_entry", "_law_table", "_law_copy", "_law_just", "_law_size", "CordError", "NoTable", "NoPlace", "NoMove", "NoWord", "NoText", "TooMany", "__name__"] w := by
  intro os
  kernel_rfl
theorem facts {P : Program} {w : World} {K : PySem.W.Frag} {h : Heap} {mg : Str → Option Value} {f : Addr} (X : K.In h) (G : h.Ns mainGlobals mg) (hfa : mg ("law" : Str) = some (.ref f)) (c : SaysV (exB ["NoTable", "NoPlace", "NoMove", "NoWord", "NoText", "TooMany"]) faD fnD K) :
    ∃ fd : FuncData, (∀ (s : Shared) (v : Value), BindsTo s fd ⟨[v], []⟩ [("_law_script", v)]) ∧ ∀ base : Heap, K.In base → base.Ns mainGlobals mg → FnOk P w K mg base CX0 3 f fd ["_law_script"] (sp0 ⟨mg, K⟩ f_law 1 .flat) := by
  obtain ⟨c, cx⟩ := c.d
  have T : ExW K mg ["NoTable", "NoPlace", "NoMove", "NoWord", "NoText", "TooMany"] := exB_W X G cx
  obtain ⟨g_NoTable, E_NoTable, -⟩ := exB_class X G cx (c := "NoTable") (by decide)
  obtain ⟨g_TooMany, E_TooMany, -⟩ := exB_class X G cx (c := "TooMany") (by decide)
  obtain ⟨g_NoText, E_NoText, -⟩ := exB_class X G cx (c := "NoText") (by decide)
  obtain ⟨g_NoWord, E_NoWord, -⟩ := exB_class X G cx (c := "NoWord") (by decide)
  obtain ⟨g_NoMove, E_NoMove, -⟩ := exB_class X G cx (c := "NoMove") (by decide)
  obtain ⟨g_NoPlace, E_NoPlace, -⟩ := exB_class X G cx (c := "NoPlace") (by decide)
  have g_CordError := exB_cord X G cx
  obtain ⟨fd_plus, F_plus⟩ := c.def_ 0 (d := dd_plus) rfl
  obtain ⟨fd_product, F_product⟩ := c.def_ 1 (d := dd_product) rfl
  obtain ⟨fd__law_cell_at, F__law_cell_at⟩ := c.def_ 2 (d := dd__law_cell_at) rfl
  obtain ⟨fd__law_row, F__law_row⟩ := c.def_ 3 (d := dd__law_row) rfl
  obtain ⟨fd__law_entry, F__law_entry⟩ := c.def_ 4 (d := dd__law_entry) rfl
  obtain ⟨fd__law_table, F__law_table⟩ := c.def_ 5 (d := dd__law_table) rfl
  obtain ⟨fd__law_copy, F__law_copy⟩ := c.def_ 6 (d := dd__law_copy) rfl
  obtain ⟨fd__law_just, F__law_just⟩ := c.def_ 7 (d := dd__law_just) rfl
  obtain ⟨fd__law_size, F__law_size⟩ := c.def_ 8 (d := dd__law_size) rfl
  obtain ⟨fd_law, F_law⟩ := c.def_ 9 (d := dd_law) rfl
  have b_ValueError : mg "ValueError" = none := He.free_ok X G (c.fact 10 (f := .free "ValueError") rfl)
  have b_int : mg "int" = none := He.free_ok X G (c.fact 11 (f := .free "int") rfl)
  have b_isinstance : mg "isinstance" = none := He.free_ok X G (c.fact 12 (f := .free "isinstance") rfl)
  have b_len : mg "len" = none := He.free_ok X G (c.fact 13 (f := .free "len") rfl)
  have b_list : mg "list" = none := He.free_ok X G (c.fact 14 (f := .free "list") rfl)
  have b_range : mg "range" = none := He.free_ok X G (c.fact 15 (f := .free "range") rfl)
  have b_zip : mg "zip" = none := He.free_ok X G (c.fact 16 (f := .free "zip") rfl)
  have e := hfa.symm.trans (He.glo_ok X G (c.fact 9 (f := .glo "law") rfl))
  cases e
  have bb := FunD.bindsA (ps := ["_law_script"]) F_law fun _ _ _ _ _ _ us hl => match us, hl with | [_], _ => rfl
  refine ⟨fd_law, fun s v => bb s [v] rfl, fun base _ _ => ?_⟩
  have cx_plus : CalX P w K mg base "plus" 1 ["one", "other"] f_plus .fresh := cal_plus F_plus (He.glo_ok X G (c.fact 0 (f := .glo "plus") rfl)) b_zip g_NoTable E_NoTable
  have cx_product : CalX P w K mg base "product" 1 ["one", "other"] f_product .fresh := cal_product F_product (He.glo_ok X G (c.fact 1 (f := .glo "product") rfl)) b_zip g_NoTable E_NoTable
  have c__law_cell_at : Cal P w K mg base "_law_cell_at" 1 ["_law_script", "_law_k"] f__law_cell_at .flat := cal__law_cell_at F__law_cell_at (He.glo_ok X G (c.fact 2 (f := .glo "_law_cell_at") rfl)) b_len
  have c__law_row : Cal P w K mg base "_law_row" 1 ["_law_cell", "_law_many", "_law_base"] f__law_row .fresh := cal__law_row F__law_row (He.glo_ok X G (c.fact 3 (f := .glo "_law_row") rfl)) b_range
  have c__law_entry : Cal P w K mg base "_law_entry" 1 ["_law_digit"] f__law_entry .flat := cal__law_entry F__law_entry (He.glo_ok X G (c.fact 4 (f := .glo "_law_entry") rfl))
  have c__law_table : Cal P w K mg base "_law_table" 2 ["_law_cell", "_law_high", "_law_wide"] f__law_table .fresh := cal__law_table F__law_table (He.glo_ok X G (c.fact 5 (f := .glo "_law_table") rfl)) b_range c__law_row c__law_entry
  have c__law_copy : Cal P w K mg base "_law_copy" 1 ["_law_one"] f__law_copy .fresh := cal__law_copy F__law_copy (He.glo_ok X G (c.fact 6 (f := .glo "_law_copy") rfl)) b_list
  have ce__law_just : CalE P w K mg base ["NoTable", "NoPlace", "NoMove", "NoWord", "NoText", "TooMany"] "_law_just" 1 "_law_e" f__law_just := cal__law_just F__law_just (He.glo_ok X G (c.fact 7 (f := .glo "_law_just") rfl)) b_ValueError b_isinstance g_TooMany g_NoText g_NoWord g_NoMove g_NoPlace g_NoTable T
  have c__law_size : Cal P w K mg base "_law_size" 2 ["_law_make", "_law_one", "_law_other"] f__law_size .flat := cal__law_size F__law_size (He.glo_ok X G (c.fact 8 (f := .glo "_law_size") rfl)) g_CordError T cx_product cx_plus ce__law_just
  exact ok_law F_law b_int c__law_row c__law_cell_at c__law_table c__law_copy c__law_size cx_plus cx_product
end K04
open PySem PySem.W PySem.Calls PyProof.Rows
set_option maxRecDepth 100000 in
set_option maxHeartbeats 0 in
theorem PySem.Challenge.cw_loopcube_k04_tables_that_do_not_fit_holds : PySem.Challenge.rw_loopcube_k04_tables_that_do_not_fit.Holds := by
  w_on; o_law
  refine HandSHeadRun.head_any (r := OpenLaw.row PySem.Challenge.rw_loopcube_k04_tables_that_do_not_fit) (q := view (OpenLaw.row PySem.Challenge.rw_loopcube_k04_tables_that_do_not_fit).prog [19]) (H := K04.hk) (ob := K04.ob) (M := 4000) (loose := ["plus", "product", "_law_cell_at", "_law_row", "_law_entry", "_law_table", "_law_copy", "_law_just", "_law_size", "CordError", "NoTable", "NoPlace", "NoMove", "NoWord", "NoText", "TooMany", "__name__"]) (d := HandSHeadRun.topDef (OpenLaw.row PySem.Challenge.rw_loopcube_k04_tables_that_do_not_fit).prog 19) (kwd := []) K04.ob_eq
    (by kernel_rfl) (fun s => by kernel_rfl) K04.run (by kernel_rfl) (by kernel_rfl) (by kernel_rfl) (by rfl) (by first | assumption | decide +kernel) (by decide +kernel) ⟨rfl, rfl, rfl, rfl, rfl, by decide +kernel⟩ ?hw ?hc
  case hw => w_witness2
  case hc =>
    refine VV.walk_V (l := PySem.Challenge.rw_loopcube_k04_tables_that_do_not_fit) (n := 63) (k := 3) (x := "_law_script") (sem := K04.f_law) (R := .flat) rfl (by decide) (by kernel_rfl) ⟨rfl, by decide, by decide⟩ K04.law_true ?F
    intro w mg fa h Y G hmg0
    obtain ⟨K, KX, c⟩ := Y
    have hmg : mg ("law" : PySem.Str) = some (.ref fa) := by
      have e : (HandSHeadRun.topDef (OpenLaw.row PySem.Challenge.rw_loopcube_k04_tables_that_do_not_fit).prog 19).name = ("law" : PySem.Str) := by kernel_rfl
      rw [← e]
      exact hmg0
    obtain ⟨fd, hb, hF⟩ := K04.facts (P := (PySem.Challenge.rw_loopcube_k04_tables_that_do_not_fit).prog) (w := w) KX G hmg c
    exact ⟨K, fd, KX, hb, hF⟩
