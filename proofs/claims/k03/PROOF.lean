import PyProof.Rows.All
import Wide.All
import OpenK.AllK
import Wide.FinOn
import KE.KStateDown
import Lean
import HandS.ForMost
import HandS.ForExc
import HandS.Wide
import HandS.WideBits
import HandS.Text
import HandS.Defaults
import HandS.NoneIn
import HandS.EndBits
import HandS.HeadEnd
import HandS.Head0
import HandS.Head1
import HandS.Head2
import HandS.HeadHook1
import HandS.HeadHook2
import PySem.Challenge.RW_loopcube_k03_rules_of_products

/-! ## VRep -/
set_option Elab.async false
set_option linter.all false
set_option maxHeartbeats 0
set_option maxRecDepth 100000
namespace VV
open PySem PySem.Spec PyProof.Rows L2

/-- keys of dicts -/
inductive Ky where
  | k (x : Key) | t (xs : List Key)
  deriving DecidableEq

/-- the module's names, the written part -/
structure Mg where
  mg : Str → Option Value
  K : PySem.W.Frag
abbrev _root_.L2.Cx.vm (X : Cx) : Mg := ⟨X.mg, X.K⟩
/-- the script's list -/
def ScrAt (K : PySem.W.Frag) (H : Hp) (a : Addr) (xs : List V) : Prop := (∃ o, H a = some (.frz o (.lst xs))) ∨
    ∃ (o : Obj) (its : Array Value) (n : Nat), K.lookup a = some o ∧ o.cls = .type "list" ∧ o.dict = none ∧ o.data = .seq its n ∧ its.size ≤ sizeLine ∧ Vals xs its.toList
theorem ScrAt.sq {K : PySem.W.Frag} {H : Hp} {a : Addr} {xs : List V} (h : ScrAt K H a xs) : SqL K H a xs := h.imp .inr id
/-- a value as a tree -/
inductive D where
  | non | bl (b : Bool) | int (i : Int) | str (s : Str)
  | tup (l : List D) | lst (l : List D)
  /-- the script: a list that is known to the object -/
  | scr (l : List D)
  | dic (ks : List Ky) (vs : List D)
  | obj (c : Str) (ns : List Str) (fs : List D)
  | fn (x : Str)

/-- what stands at a may still be read as before -/
def Kp (H H' : Hp) (a : Addr) : Prop := (∀ u, Rd H a u → Rd H' a u) ∧ ∀ vs, H a = some (.lst vs) → H' a = some (.lst vs)
/-- tuples and the script stay -/
def KpT (H H' : Hp) : Prop := (∀ a xs, Rd H a (.tup xs) → Rd H' a (.tup xs)) ∧ ∀ a o vs, H a = some (.frz o (.lst vs)) → H' a = some (.frz o (.lst vs))
/-- the dict at a has these keys and values -/
def RdD (H : Hp) (a : Addr) (ks : List Ky) (vs : List V) : Prop :=
  ks.length = vs.length ∧ ks.Nodup ∧
  ((∃ kl : List Key, ks = kl.map Ky.k ∧ Rd H a (.dK (kl.zip vs))) ∨ (∃ kl : List (List Key), ks = kl.map Ky.t ∧ Rd H a (.dT (kl.zip vs))))

mutual
def Rep (mg : Mg) (H : Hp) : D → V → List Addr → Prop
  | .non, v, fp => v = .non ∧ fp = []
  | .bl b, v, fp => v = .bl b ∧ fp = []
  | .int i, v, fp => v = .int i ∧ fp = []
  | .str s, v, fp => v = .str s ∧ fp = []
  | .fn x, v, fp => (∃ a, v = .ref a ∧ mg.mg x = some (.ref a)) ∧ fp = []
  | .tup ds, v, fp => ∃ a vs, v = .ref a ∧ Rd H a (.tup vs) ∧ RepL mg H ds vs fp
  | .lst ds, v, fp => ∃ a vs f, v = .ref a ∧ H a = some (.lst vs) ∧ RepL mg H ds vs f ∧ fp = a :: f
  | .scr ds, v, fp => ∃ a vs, v = .ref a ∧ ScrAt mg.K H a vs ∧ RepL mg H ds vs [] ∧ fp = []
  | .dic ks ds, v, fp => ∃ a vs f, v = .ref a ∧ RdD H a ks vs ∧ RepL mg H ds vs f ∧ fp = a :: f
  | .obj c ns ds, v, fp => ∃ a C dx vs f, v = .ref a ∧ mg.mg c = some (.ref C) ∧ ns.length = vs.length ∧ Rd H a (.ins C dx (ns.zip vs)) ∧ RepL mg H ds vs f ∧ fp = a :: f
def RepL (mg : Mg) (H : Hp) : List D → List V → List Addr → Prop
  | [], vs, fp => vs = [] ∧ fp = []
  | d :: ds, vs, fp => ∃ v r f1 f2, vs = v :: r ∧ Rep mg H d v f1 ∧ RepL mg H ds r f2 ∧ fp = f1 ++ f2
end

section
variable {mg : Mg} {H H' : Hp}

theorem RepL.length : ∀ {ds : List D} {vs : List V} {fp : List Addr}, RepL mg H ds vs fp → vs.length = ds.length
  | [], _, _, h => by simp only [RepL] at h; rw [h.1]; rfl
  | d :: ds, _, _, h => by
    simp only [RepL] at h
    obtain ⟨v, r, f1, f2, rfl, _, h2, _⟩ := h
    simp [RepL.length h2]

theorem RdD.keep {a : Addr} {ks : List Ky} {vs : List V} (h : RdD H a ks vs) (k : ∀ u, Rd H a u → Rd H' a u) : RdD H' a ks vs := by
  obtain ⟨h1, h2, h3⟩ := h
  refine ⟨h1, h2, ?_⟩
  rcases h3 with ⟨kl, e, r⟩ | ⟨kl, e, r⟩
  · exact .inl ⟨kl, e, k _ r⟩
  · exact .inr ⟨kl, e, k _ r⟩

mutual
theorem Rep.keep : ∀ {d : D} {v : V} {fp : List Addr}, Rep mg H d v fp → (∀ a, a ∈ fp → Kp H H' a) → KpT H H' → Rep mg H' d v fp
  | .non, _, _, h, _, _ => by simp only [Rep] at h ⊢; exact h
  | .bl _, _, _, h, _, _ => by simp only [Rep] at h ⊢; exact h
  | .int _, _, _, h, _, _ => by simp only [Rep] at h ⊢; exact h
  | .str _, _, _, h, _, _ => by simp only [Rep] at h ⊢; exact h
  | .fn _, _, _, h, _, _ => by simp only [Rep] at h ⊢; exact h
  | .tup ds, _, _, h, k, kt => by
    simp only [Rep] at h ⊢
    obtain ⟨a, vs, rfl, r, h2⟩ := h
    exact ⟨a, vs, rfl, kt.1 a vs r, RepL.keep h2 k kt⟩
  | .lst ds, _, _, h, k, kt => by
    simp only [Rep] at h ⊢
    obtain ⟨a, vs, f, rfl, r, h2, rfl⟩ := h
    exact ⟨a, vs, f, rfl, (k a List.mem_cons_self).2 _ r, RepL.keep h2 (fun b hb => k b (List.mem_cons_of_mem _ hb)) kt, rfl⟩
  | .scr ds, _, _, h, k, kt => by
    simp only [Rep] at h ⊢
    obtain ⟨a, vs, rfl, r, h2, rfl⟩ := h
    exact ⟨a, vs, rfl, r.imp (fun ⟨o, r⟩ => ⟨o, kt.2 a o vs r⟩) id, RepL.keep h2 (fun b hb => nomatch hb) kt, rfl⟩
  | .dic ks ds, _, _, h, k, kt => by
    simp only [Rep] at h ⊢
    obtain ⟨a, vs, f, rfl, r, h2, rfl⟩ := h
    exact ⟨a, vs, f, rfl, r.keep (fun u => (k a List.mem_cons_self).1 u), RepL.keep h2 (fun b hb => k b (List.mem_cons_of_mem _ hb)) kt, rfl⟩
  | .obj c ns ds, _, _, h, k, kt => by
    simp only [Rep] at h ⊢
    obtain ⟨a, C, dx, vs, f, rfl, hc, hl, r, h2, rfl⟩ := h
    exact ⟨a, C, dx, vs, f, rfl, hc, hl, (k a List.mem_cons_self).1 _ r, RepL.keep h2 (fun b hb => k b (List.mem_cons_of_mem _ hb)) kt, rfl⟩
theorem RepL.keep : ∀ {ds : List D} {vs : List V} {fp : List Addr}, RepL mg H ds vs fp → (∀ a, a ∈ fp → Kp H H' a) → KpT H H' → RepL mg H' ds vs fp
  | [], _, _, h, _, _ => by simp only [RepL] at h ⊢; exact h
  | d :: ds, _, _, h, k, kt => by
    simp only [RepL] at h ⊢
    obtain ⟨v, r, f1, f2, rfl, h1, h2, rfl⟩ := h
    exact ⟨v, r, f1, f2, rfl, Rep.keep h1 (fun b hb => k b (List.mem_append_left _ hb)) kt, RepL.keep h2 (fun b hb => k b (List.mem_append_right _ hb)) kt, rfl⟩
end

/-- nodes are tracked, and what may be written -/
def MutO : Option HO → Prop
  | some (.frz _ u) => Mut (some u)
  | o => Mut o
theorem MutO.isSome {o : Option HO} (h : MutO o) : o ≠ none := by
  rintro rfl
  exact h

mutual
theorem Rep.there : ∀ {d : D} {v : V} {fp : List Addr}, Rep mg H d v fp → ∀ a ∈ fp, H a ≠ none
  | .non, _, _, h, a, ha => by simp only [Rep] at h; rw [h.2] at ha; cases ha
  | .bl _, _, _, h, a, ha => by simp only [Rep] at h; rw [h.2] at ha; cases ha
  | .int _, _, _, h, a, ha => by simp only [Rep] at h; rw [h.2] at ha; cases ha
  | .str _, _, _, h, a, ha => by simp only [Rep] at h; rw [h.2] at ha; cases ha
  | .fn _, _, _, h, a, ha => by simp only [Rep] at h; rw [h.2] at ha; cases ha
  | .tup ds, _, _, h, a, ha => by
    simp only [Rep] at h
    obtain ⟨_, vs, rfl, r, h2⟩ := h
    exact RepL.there h2 a ha
  | .lst ds, _, _, h, a, ha => by
    simp only [Rep] at h
    obtain ⟨b, vs, f, rfl, r, h2, rfl⟩ := h
    rcases List.mem_cons.mp ha with rfl | ha
    · rw [r]; simp
    · exact RepL.there h2 a ha
  | .scr ds, _, _, h, a, ha => by
    simp only [Rep] at h
    obtain ⟨b, vs, rfl, r, h2, rfl⟩ := h
    cases ha
  | .dic ks ds, _, _, h, a, ha => by
    simp only [Rep] at h
    obtain ⟨b, vs, f, rfl, ⟨_, _, r⟩, h2, rfl⟩ := h
    rcases List.mem_cons.mp ha with rfl | ha
    · rcases r with ⟨_, _, r | ⟨o, r⟩⟩ | ⟨_, _, r | ⟨o, r⟩⟩ <;> rw [r] <;> simp
    · exact RepL.there h2 a ha
  | .obj c ns ds, _, _, h, a, ha => by
    simp only [Rep] at h
    obtain ⟨b, C, dx, vs, f, rfl, _, _, r, h2, rfl⟩ := h
    rcases List.mem_cons.mp ha with rfl | ha
    · rcases r with r | ⟨o, r⟩ <;> rw [r] <;> simp
    · exact RepL.there h2 a ha
theorem RepL.there : ∀ {ds : List D} {vs : List V} {fp : List Addr}, RepL mg H ds vs fp → ∀ a ∈ fp, H a ≠ none
  | [], _, _, h, a, ha => by simp only [RepL] at h; rw [h.2] at ha; cases ha
  | d :: ds, _, _, h, a, ha => by
    simp only [RepL] at h
    obtain ⟨v, r, f1, f2, rfl, h1, h2, rfl⟩ := h
    rcases List.mem_append.mp ha with ha | ha
    · exact Rep.there h1 a ha
    · exact RepL.there h2 a ha
end

/-- all that stands stands as before -/
def Ext (H H' : Hp) : Prop := ∀ a o, H a = some o → H' a = some o
theorem Ext.refl : Ext H H := fun _ _ h => h
theorem Ext.trans {H1 : Hp} (a : Ext H H1) (b : Ext H1 H') : Ext H H' := fun c o h => b c o (a c o h)
theorem Ext.rd (e : Ext H H') {a : Addr} {u : HO} (r : Rd H a u) : Rd H' a u := by
  rcases r with r | ⟨o, r⟩
  · exact .inl (e a u r)
  · exact .inr ⟨o, e a _ r⟩
theorem Ext.nope (e : Ext H H') {a : Addr} (h : H' a = none) : H a = none := by
  cases q : H a with
  | none => rfl
  | some o => rw [e a o q] at h; cases h
theorem Ext.put {a : Addr} {o : HO} (h : H a = none) : Ext H (upd H a o) := fun b u e => by
  rw [upd_ne (ne_of_none e h)]; exact e
theorem Ext.kp (e : Ext H H') (a : Addr) : Kp H H' a := ⟨fun _ r => e.rd r, fun _ r => e a _ r⟩
theorem Ext.kpT (e : Ext H H') : KpT H H' := ⟨fun _ _ r => e.rd r, fun a o vs r => e a _ r⟩
theorem Rep.ext {d : D} {v : V} {fp : List Addr} (h : Rep mg H d v fp) (e : Ext H H') : Rep mg H' d v fp := h.keep (fun a _ => e.kp a) e.kpT
theorem RepL.ext {d : List D} {v : List V} {fp : List Addr} (h : RepL mg H d v fp) (e : Ext H H') : RepL mg H' d v fp := h.keep (fun a _ => e.kp a) e.kpT

theorem RepL.get : ∀ {ds : List D} {vs : List V} {fp : List Addr} {i : Nat} {d : D}, RepL mg H ds vs fp → ds[i]? = some d → ∃ v f1 f f2, vs[i]? = some v ∧ Rep mg H d v f ∧ fp = f1 ++ f ++ f2
  | [], _, _, _, _, _, e => by simp at e
  | x :: ds, _, _, 0, d, h, e => by
    simp only [RepL] at h
    obtain ⟨v, r, f1, f2, rfl, h1, h2, rfl⟩ := h
    simp at e; subst e
    exact ⟨v, [], f1, f2, rfl, h1, rfl⟩
  | x :: ds, _, _, i + 1, d, h, e => by
    simp only [RepL] at h
    obtain ⟨v, r, f1, f2, rfl, h1, h2, rfl⟩ := h
    obtain ⟨w, g1, g, g2, e1, e2, rfl⟩ := RepL.get (i := i) (d := d) h2 (by simpa using e)
    exact ⟨w, f1 ++ g1, g, g2, by simpa using e1, e2, by simp [List.append_assoc]⟩

theorem RepL.append : ∀ {ds es : List D} {vs us : List V} {f g : List Addr}, RepL mg H ds vs f → RepL mg H es us g → RepL mg H (ds ++ es) (vs ++ us) (f ++ g)
  | [], _, _, _, _, _, h, h' => by
    simp only [RepL] at h
    obtain ⟨rfl, rfl⟩ := h
    exact h'
  | d :: ds, es, _, us, _, g, h, h' => by
    simp only [RepL] at h
    obtain ⟨v, r, f1, f2, rfl, h1, h2, rfl⟩ := h
    simp only [List.cons_append, RepL]
    exact ⟨v, r ++ us, f1, f2 ++ g, rfl, h1, RepL.append h2 h', by simp [List.append_assoc]⟩
theorem RepL.one {d : D} {v : V} {f : List Addr} (h : Rep mg H d v f) : RepL mg H [d] [v] f := by
  simp only [RepL]
  exact ⟨v, [], f, [], rfl, h, ⟨rfl, rfl⟩, by simp⟩

end
end VV

/-! ## VExp -/
namespace VV
open PySem PySem.Spec PyProof.Rows L2

/-- kinds of slots -/
inductive Kd where
  | dead | flat | lab (rt : Option Nat) (L : List Nat) (nd : Bool)
  deriving DecidableEq
/-- where a result's root comes from -/
inductive Rt where
  | new | old (n : Nat) | unk
  deriving DecidableEq
/-- kinds of results -/
inductive Md where
  | flat | al (fr : Bool) (rt : Rt) (L : List Nat) (nd : Bool)
  deriving DecidableEq

/-- what stands outside (the nodes of the arguments), what is locked for good while a loop walks it -/
structure Fm where
  out : Addr → Prop
  frz : Addr → Prop
def lk (LL : List Nat) (n : Nat) : Prop := n = 0 ∨ n ∈ LL
structure Loc (P : Fm) (LL : List Nat) (g : Addr → Nat) (H : Hp) : Prop where
  at_ : ∀ a, g a ≠ 0 → ∃ o, H a = some o ∧ (Mut (some o) ∨ P.frz a)
  out : ∀ a, P.out a → H a ≠ none
  fz : ∀ a, P.frz a → H a ≠ none ∧ lk LL (g a)

def Old (P : Fm) (g : Addr → Nat) (L : List Nat) (a : Addr) : Prop := g a ∈ L ∧ (g a = 0 → P.out a)
theorem Old.there {P : Fm} {LL : List Nat} {g : Addr → Nat} {H : Hp} {L : List Nat} {a : Addr} (l : Loc P LL g H) (o : Old P g L a) : H a ≠ none := by
  by_cases h : g a = 0
  · exact l.out a (o.2 h)
  · obtain ⟨u, e, _⟩ := l.at_ a h
    rw [e]; simp

/-- made since -/
def New (H H' : Hp) (a : Addr) : Prop := H a = none ∧ Mut (H' a)
/-- no node twice; the root not below itself -/
def Nd (nd kn : Bool) (v : V) (fp : List Addr) : Prop := (nd = true → fp.Nodup) ∧ (kn = true → ∀ a f, v = .ref a → fp = a :: f → a ∉ f)
theorem Nd.of {nd kn : Bool} {v : V} {fp : List Addr} (h : fp.Nodup) : Nd nd kn v fp := ⟨fun _ => h, fun _ a f _ e => by subst e; exact (List.nodup_cons.mp h).1⟩
theorem Nd.cons {nd kn : Bool} {p : Addr} {fp : List Addr} (h : p ∉ fp) (n : nd = true → fp.Nodup) : Nd nd kn (.ref p) (p :: fp) :=
  ⟨fun x => List.nodup_cons.mpr ⟨h, n x⟩, fun _ a f e1 e2 => by cases e2; exact h⟩
theorem Nd.unk {nd : Bool} {v : V} {fp : List Addr} (n : nd = true → fp.Nodup) : Nd nd false v fp := ⟨n, fun z => nomatch z⟩
def Rt.known : Rt → Bool
  | .unk => false
  | _ => true
def CellOk (mg : Mg) (P : Fm) (g : Addr → Nat) (H : Hp) : Kd → D → Option V → Prop
  | .dead, _, _ => True
  | .flat, d, ov => ∃ v, ov = some v ∧ Rep mg H d v []
  | .lab rt L nd, d, ov => ∃ v fp, ov = some v ∧ Rep mg H d v fp ∧ (∀ a ∈ fp, (v = .ref a ∧ ∃ n, rt = some n ∧ Old P g [n] a) ∨ ((v ≠ .ref a ∨ rt = none) ∧ Old P g L a)) ∧ Nd nd rt.isSome v fp

def Cells (mg : Mg) (P : Fm) (g : Addr → Nat) (H : Hp) : List Kd → List D → List (Option V) → Prop
  | [], [], [] => True
  | k :: Γ, d :: ρ, v :: σ => CellOk mg P g H k d v ∧ Cells mg P g H Γ ρ σ
  | _, _, _ => False

structure Sta (mg : Mg) (P : Fm) (LL : List Nat) (Γ : List Kd) (g : Addr → Nat) (ρ : List D) (σ : L2.St) (H : Hp) : Prop where
  loc : Loc P LL g H
  cells : Cells mg P g H Γ ρ σ

/-- the nodes of a result -/
def Nds (P : Fm) (g : Addr → Nat) (H H' : Hp) (fr : Bool) (rt : Rt) (L : List Nat) (nd : Bool) (v : V) (fp : List Addr) : Prop :=
  (∀ a ∈ fp, (v = .ref a ∧ match rt with | .new => New H H' a | .old n => Old P g [n] a | .unk => False) ∨ ((v ≠ .ref a ∨ rt = .unk) ∧ ((fr = true ∧ New H H' a) ∨ Old P g L a))) ∧ Nd nd rt.known v fp
/-- a result -/
def Val (mg : Mg) (P : Fm) (g : Addr → Nat) (H H' : Hp) : Md → D → V → Prop
  | .flat, d, v => Rep mg H' d v []
  | .al fr rt L nd, d, v => ∃ fp, Rep mg H' d v fp ∧ Nds P g H H' fr rt L nd v fp
/-- several -/
def Fps (P : Fm) (g : Addr → Nat) (H H' : Hp) : Md → List Addr → Prop
  | .flat, fp => fp = []
  | .al fr _ L nd, fp => (∀ a ∈ fp, (fr = true ∧ New H H' a) ∨ Old P g L a) ∧ (nd = true → fp.Nodup)
def ValL (mg : Mg) (P : Fm) (g : Addr → Nat) (H H' : Hp) (m : Md) (ds : List D) (vs : List V) : Prop := ∃ fp, RepL mg H' ds vs fp ∧ Fps P g H H' m fp

section
variable {mg : Mg} {P : Fm} {LL : List Nat} {Γ : List Kd} {g : Addr → Nat} {ρ : List D} {σ : L2.St} {H H' H1 : Hp}

theorem mut_of {o : Option HO} {o' : Option HO} (h : Mut o) (e : ∀ u, o = some u → o' = some u) : Mut o' := by
  cases o with
  | none => exact h.elim
  | some u => rw [e u rfl]; exact h

theorem Loc.ext (l : Loc P LL g H) (e : Ext H H') : Loc P LL g H' := ⟨fun a h => let ⟨o, q, m⟩ := l.at_ a h; ⟨o, e a o q, m⟩, fun a h z => l.out a h (e.nope z), fun a h => ⟨fun z => (l.fz a h).1 (e.nope z), (l.fz a h).2⟩⟩
theorem CellOk.ext {k : Kd} {d : D} {v : Option V} (c : CellOk mg P g H k d v) (e : Ext H H') : CellOk mg P g H' k d v := by
  cases k with
  | dead => trivial
  | flat => obtain ⟨v, rfl, r⟩ := c; exact ⟨v, rfl, r.ext e⟩
  | lab rt L nd => obtain ⟨v, fp, rfl, r, q⟩ := c; exact ⟨v, fp, rfl, r.ext e, q⟩
theorem New.ext {a : Addr} (n : New H H1 a) (e : Ext H1 H') : New H H' a := ⟨n.1, mut_of n.2 (e a)⟩
theorem New.back {a : Addr} (n : New H1 H' a) (e : Ext H H1) : New H H' a := ⟨e.nope n.1, n.2⟩
theorem Cells.ext (e : Ext H H') : ∀ {Γ : List Kd} {ρ : List D} {σ : L2.St}, Cells mg P g H Γ ρ σ → Cells mg P g H' Γ ρ σ
  | [], [], [], _ => trivial
  | _ :: _, _ :: _, _ :: _, h => ⟨h.1.ext e, Cells.ext e h.2⟩
  | [], _ :: _, _, h => h.elim
  | [], [], _ :: _, h => h.elim
  | _ :: _, [], _, h => h.elim
  | _ :: _, _ :: _, [], h => h.elim
theorem Sta.ext (s : Sta mg P LL Γ g ρ σ H) (e : Ext H H') : Sta mg P LL Γ g ρ σ H' := ⟨s.loc.ext e, s.cells.ext e⟩

theorem Cells.get : ∀ {Γ : List Kd} {ρ : List D} {σ : L2.St} {i : Nat} {k : Kd}, Cells mg P g H Γ ρ σ → Γ[i]? = some k → ∃ d ov, ρ[i]? = some d ∧ σ[i]? = some ov ∧ CellOk mg P g H k d ov
  | [], _, _, _, _, _, e => by simp at e
  | k :: Γ, d :: ρ, v :: σ, 0, k', h, e => by simp at e; subst e; exact ⟨d, v, rfl, rfl, h.1⟩
  | k :: Γ, d :: ρ, v :: σ, i + 1, k', h, e => by
    obtain ⟨d', ov, h1, h2, h3⟩ := Cells.get (i := i) (k := k') h.2 (by simpa using e)
    exact ⟨d', ov, by simpa using h1, by simpa using h2, h3⟩
  | _ :: _, [], _, _, _, h, _ => h.elim
  | _ :: _, _ :: _, [], _, _, h, _ => h.elim

theorem Nds.ext {fr : Bool} {rt : Rt} {L : List Nat} {nd : Bool} {v : V} {fp : List Addr} (h : Nds P g H H1 fr rt L nd v fp) (e : Ext H1 H') : Nds P g H H' fr rt L nd v fp := by
  refine ⟨fun a ha => ?_, h.2⟩
  rcases h.1 a ha with ⟨x, y⟩ | ⟨z, ⟨x, n⟩ | o⟩
  · refine .inl ⟨x, ?_⟩
    cases rt with
    | new => exact New.ext y e
    | old n => exact y
    | unk => exact y
  · exact .inr ⟨z, .inl ⟨x, n.ext e⟩⟩
  · exact .inr ⟨z, .inr o⟩
theorem Nds.back {fr : Bool} {rt : Rt} {L : List Nat} {nd : Bool} {v : V} {fp : List Addr} (h : Nds P g H1 H' fr rt L nd v fp) (e : Ext H H1) : Nds P g H H' fr rt L nd v fp := by
  refine ⟨fun a ha => ?_, h.2⟩
  rcases h.1 a ha with ⟨x, y⟩ | ⟨z, ⟨x, n⟩ | o⟩
  · refine .inl ⟨x, ?_⟩
    cases rt with
    | new => exact New.back y e
    | old n => exact y
    | unk => exact y
  · exact .inr ⟨z, .inl ⟨x, n.back e⟩⟩
  · exact .inr ⟨z, .inr o⟩
theorem Val.ext {m : Md} {d : D} {v : V} (h : Val mg P g H H1 m d v) (e : Ext H1 H') : Val mg P g H H' m d v := by
  cases m with
  | flat => exact Rep.ext h e
  | al fr rt L nd =>
    obtain ⟨fp, r, q⟩ := h
    exact ⟨fp, r.ext e, q.ext e⟩
theorem Fps.ext {m : Md} {fp : List Addr} (h : Fps P g H H1 m fp) (e : Ext H1 H') : Fps P g H H' m fp := by
  cases m with
  | flat => exact h
  | al fr rt L nd => exact ⟨fun a ha => (h.1 a ha).imp (fun ⟨x, n⟩ => ⟨x, n.ext e⟩) id, h.2⟩
theorem Fps.back {m : Md} {fp : List Addr} (h : Fps P g H1 H' m fp) (e : Ext H H1) : Fps P g H H' m fp := by
  cases m with
  | flat => exact h
  | al fr rt L nd => exact ⟨fun a ha => (h.1 a ha).imp (fun ⟨x, n⟩ => ⟨x, n.back e⟩) id, h.2⟩
theorem ValL.ext {m : Md} {d : List D} {v : List V} (h : ValL mg P g H H1 m d v) (e : Ext H1 H') : ValL mg P g H H' m d v := let ⟨fp, r, q⟩ := h; ⟨fp, r.ext e, q.ext e⟩
/-- seen from an earlier heap -/
theorem Val.back {m : Md} {d : D} {v : V} (h : Val mg P g H1 H' m d v) (e : Ext H H1) : Val mg P g H H' m d v := by
  cases m with
  | flat => exact h
  | al fr rt L nd => obtain ⟨fp, r, q⟩ := h; exact ⟨fp, r, q.back e⟩
theorem ValL.back {m : Md} {d : List D} {v : List V} (h : ValL mg P g H1 H' m d v) (e : Ext H H1) : ValL mg P g H H' m d v := let ⟨fp, r, q⟩ := h; ⟨fp, r, q.back e⟩
end

/-! ### expressions -/
abbrev Ev := List D → Option D
def EX (X : Cx) (LL : List Nat) (Γ : List Kd) (e : Expr) (sem : Ev) (m : Md) : Prop :=
  ∃ t, PE X e t ∧ ∀ P g ρ σ H d Q, Sta X.vm P LL Γ g ρ σ H → sem ρ = some d → (∀ v H', Ext H H' → Val X.vm P g H H' m d v → Q v H') → t σ H Q
def EA (X : Cx) (LL : List Nat) (Γ : List Kd) (es : List Expr) (sem : List D → Option (List D)) (m : Md) : Prop :=
  (∀ ρ ds, sem ρ = some ds → ds.length = es.length) ∧ ∃ t, PA X es t ∧ ∀ P g ρ σ H ds Q, Sta X.vm P LL Γ g ρ σ H → sem ρ = some ds → (∀ vs H', Ext H H' → ValL X.vm P g H H' m ds vs → Q vs H') → t σ H Q
def ET (X : Cx) (LL : List Nat) (Γ : List Kd) (e : Expr) (sem : List D → Option Bool) : Prop :=
  ∃ t, PT X e t ∧ ∀ P g ρ σ H b Q, Sta X.vm P LL Γ g ρ σ H → sem ρ = some b → (∀ H', Ext H H' → Q b H') → t σ H Q
def EW (X : Cx) (LL : List Nat) (Γ : List Kd) (e : Expr) (sem : List D → Option Bool) : Prop :=
  ∃ t, PW X e t ∧ ∀ P g ρ σ H b Q, Sta X.vm P LL Γ g ρ σ H → sem ρ = some b → (∀ H', Ext H H' → Q b H') → t σ H Q

def Kd.md : Kd → Md
  | .dead => .flat
  | .flat => .flat
  | .lab rt L nd => .al false (match rt with | some n => .old n | none => .unk) L nd
def disj (a b : List Nat) : Bool := a.all fun x => !b.contains x
/-- the root's place said as any node's -/
def Md.unroot : Md → Md
  | .flat => .flat
  | .al _ .new L nd => .al true .unk L nd
  | .al fr (.old n) L nd => .al fr .unk (n :: L) nd
  | .al fr .unk L nd => .al fr .unk L nd
def Md.join1 : Md → Md → Md
  | .flat, .flat => .flat
  | .al fr rt L nd, .flat => .al fr .unk L nd
  | .flat, .al fr rt L nd => .al fr .unk L nd
  | .al fr _ L nd, .al fr' _ L' nd' => .al (fr || fr') .unk (L ++ L') (nd && nd' && disj L L')
def Md.join (m m' : Md) : Md := m.unroot.join1 m'

def eVar (i : Nat) : Ev := fun ρ => ρ[i]?
def eC (d : D) : Ev := fun _ => some d
def aNil : List D → Option (List D) := fun _ => some []
def aCons (e : Ev) (r : List D → Option (List D)) : List D → Option (List D) := fun ρ => do
  let d ← e ρ
  let ds ← r ρ
  some (d :: ds)
/-- an operation on values of arguments -/
def eP (f : List D → Option D) (a : List D → Option (List D)) : Ev := fun ρ => do f (← a ρ)
def eTup (a : List D → Option (List D)) : Ev := fun ρ => do let ds ← a ρ; some (.tup ds)
def eLst (a : List D → Option (List D)) : Ev := fun ρ => do let ds ← a ρ; some (.lst ds)

theorem bind_some {α β : Type} {x : Option α} {f : α → Option β} {b : β} (h : (x >>= f) = some b) : ∃ a, x = some a ∧ f a = some b := by
  cases x with
  | none => cases h
  | some a => exact ⟨a, rfl, h⟩

section
variable {X : Cx} {LL : List Nat} {Γ : List Kd} {pos : Pos}

theorem ex_var {x : Str} {k : Kd} (i : Nat) (hk : Γ[i]? = some k) (hd : k ≠ .dead) (hN : X.N[i]? = some x) (hv : Vis X.env.scope x) (hdb : (x == ("__debug__" : Str)) = false := by decide)
    (hcd : (x == ("__classdict__" : Str)) = false := by decide) : EX X LL Γ (.Name x pos) (eVar i) k.md := by
  refine ⟨tVar i, pe_var hN hv hdb hcd, fun P g ρ σ H d Q s hs q => ?_⟩
  obtain ⟨d', ov, h1, h2, h3⟩ := s.cells.get hk
  have e : d' = d := Option.some.inj (h1.symm.trans hs)
  subst e
  cases k with
  | dead => exact absurd rfl hd
  | flat =>
    obtain ⟨v, rfl, r⟩ := h3
    exact ⟨v, h2, q v H Ext.refl r⟩
  | lab rt L nd =>
    obtain ⟨v, fp, rfl, r, o, n⟩ := h3
    refine ⟨v, h2, q v H Ext.refl ⟨fp, r, fun a ha => ?_, by cases rt <;> exact n⟩⟩
    rcases o a ha with ⟨e, k, rfl, o'⟩ | ⟨z, o'⟩
    · exact .inl ⟨e, o'⟩
    · refine .inr ⟨?_, .inr o'⟩
      rcases z with z | rfl
      · exact .inl z
      · exact .inr rfl

theorem val_flat {mg : Mg} {P : Fm} {g : Addr → Nat} {H H' : Hp} {d : D} {v : V} (r : Rep mg H' d v []) : Val mg P g H H' .flat d v := r
theorem rep_int {mg : Mg} {H : Hp} {i : Int} : Rep mg H (.int i) (.int i) [] := by simp [Rep]
theorem rep_str {mg : Mg} {H : Hp} {i : Str} : Rep mg H (.str i) (.str i) [] := by simp [Rep]
theorem rep_bl {mg : Mg} {H : Hp} {i : Bool} : Rep mg H (.bl i) (.bl i) [] := by simp [Rep]
theorem rep_non {mg : Mg} {H : Hp} : Rep mg H .non .non [] := by simp [Rep]

theorem ex_int {i : Int} {j} : EX X LL Γ (.Constant (.int i) j pos) (eC (.int i)) .flat :=
  ⟨_, pe_int, fun P g ρ σ H d Q s hs q => by cases hs; exact q _ _ Ext.refl (val_flat rep_int)⟩
theorem ex_bl {b : Bool} {j} : EX X LL Γ (.Constant (.bool b) j pos) (eC (.bl b)) .flat :=
  ⟨_, pe_bl, fun P g ρ σ H d Q s hs q => by cases hs; exact q _ _ Ext.refl (val_flat rep_bl)⟩
theorem ex_non {j} : EX X LL Γ (.Constant .none j pos) (eC .non) .flat :=
  ⟨_, pe_non, fun P g ρ σ H d Q s hs q => by cases hs; exact q _ _ Ext.refl (val_flat rep_non)⟩
theorem ex_str {x : Str} {j} : EX X LL Γ (.Constant (.str x) j pos) (eC (.str x)) .flat :=
  ⟨_, pe_str, fun P g ρ σ H d Q s hs q => by cases hs; exact q _ _ Ext.refl (val_flat rep_str)⟩

theorem mem_join {L L' : List Nat} {x : Nat} : x ∈ L ++ L' ↔ x ∈ L ∨ x ∈ L' := List.mem_append
theorem disj_ok {L L' : List Nat} {x : Nat} (h : disj L L' = true) (a : x ∈ L) : x ∉ L' := by
  unfold disj at h
  have := List.all_eq_true.mp h x a
  simpa using this

theorem Nds.unroot {P : Fm} {g : Addr → Nat} {H H' : Hp} {fr : Bool} {rt : Rt} {L : List Nat} {nd : Bool} {v : V} {fp : List Addr} (h : Nds P g H H' fr rt L nd v fp) : Fps P g H H' (Md.al fr rt L nd).unroot fp := by
  obtain ⟨o, n, _⟩ := h
  cases rt with
  | new =>
    refine ⟨fun a ha => ?_, n⟩
    rcases o a ha with ⟨_, x⟩ | ⟨_, ⟨_, x⟩ | x⟩
    · exact .inl ⟨rfl, x⟩
    · exact .inl ⟨rfl, x⟩
    · exact .inr x
  | old k =>
    refine ⟨fun a ha => ?_, n⟩
    rcases o a ha with ⟨_, x⟩ | ⟨_, x | x⟩
    · exact .inr ⟨by rw [List.mem_singleton.mp x.1]; exact List.mem_cons_self, x.2⟩
    · exact .inl x
    · exact .inr ⟨List.mem_cons_of_mem _ x.1, x.2⟩
  | unk =>
    refine ⟨fun a ha => ?_, n⟩
    rcases o a ha with ⟨_, x⟩ | ⟨_, x⟩
    · exact x.elim
    · exact x
theorem Val.unroot {mg : Mg} {P : Fm} {g : Addr → Nat} {H H' : Hp} {m : Md} {d : D} {v : V} (h : Val mg P g H H' m d v) : ∃ fp, Rep mg H' d v fp ∧ Fps P g H H' m.unroot fp := by
  cases m with
  | flat => exact ⟨[], h, rfl⟩
  | al fr rt L nd => obtain ⟨fp, r, o⟩ := h; exact ⟨fp, r, o.unroot⟩
theorem fps_join {P : Fm} {LL : List Nat} {g : Addr → Nat} {H H1 H2 : Hp} {m m' : Md} {f f' : List Addr} (l : Loc P LL g H) (e1 : Ext H H1) (e2 : Ext H1 H2) (h : Fps P g H H1 m f) (th : ∀ a ∈ f, H1 a ≠ none)
    (h' : Fps P g H1 H2 m' f') : Fps P g H H2 (m.join1 m') (f ++ f') := by
  have k := h.ext e2
  have k' := h'.back e1
  cases m with
  | flat =>
    obtain rfl : f = [] := h
    cases m' with
    | flat => exact k'
    | al fr rt L nd => exact k'
  | al fr rt L nd =>
    cases m' with
    | flat =>
      obtain rfl : f' = [] := h'
      rw [List.append_nil]
      exact k
    | al fr' rt' L' nd' =>
      refine ⟨fun a ha => ?_, fun hn => ?_⟩
      · rcases List.mem_append.mp ha with ha | ha
        · exact (k.1 a ha).imp (fun ⟨x, y⟩ => ⟨by rw [x]; rfl, y⟩) fun o => ⟨List.mem_append_left _ o.1, o.2⟩
        · exact (k'.1 a ha).imp (fun ⟨x, y⟩ => ⟨by rw [x]; cases fr <;> rfl, y⟩) fun o => ⟨List.mem_append_right _ o.1, o.2⟩
      · simp only [Bool.and_eq_true] at hn
        obtain ⟨⟨n1, n2⟩, dj⟩ := hn
        refine List.nodup_append.mpr ⟨h.2 n1, h'.2 n2, ?_⟩
        intro a ha b hb hab
        subst hab
        rcases h'.1 a hb with ⟨_, z, _⟩ | o'
        · exact th a ha z
        · rcases h.1 a ha with ⟨_, z, _⟩ | o
          · exact o'.there l z
          · exact disj_ok dj o.1 o'.1
theorem valL_cons {mg : Mg} {P : Fm} {LL : List Nat} {g : Addr → Nat} {H H1 H2 : Hp} {m m' : Md} {d : D} {ds : List D} {v : V} {vs : List V} (l : Loc P LL g H)
    (e1 : Ext H H1) (e2 : Ext H1 H2) (h : Val mg P g H H1 m d v) (h' : ValL mg P g H1 H2 m' ds vs) : ValL mg P g H H2 (m.join m') (d :: ds) (v :: vs) := by
  obtain ⟨f, r, o⟩ := h.unroot
  obtain ⟨f', r', o'⟩ := h'
  refine ⟨f ++ f', ?_, fps_join l e1 e2 o (fun a ha => r.there a ha) o'⟩
  simp only [RepL]
  exact ⟨v, vs, f, f', rfl, r.ext e2, r', rfl⟩
theorem valL_nil {mg : Mg} {P : Fm} {g : Addr → Nat} {H H' : Hp} : ValL mg P g H H' .flat [] [] := ⟨[], by simp [RepL], rfl⟩

theorem ea_nil : EA X LL Γ [] aNil .flat := ⟨fun ρ ds h => by cases h; rfl, _, pa_nil, fun P g ρ σ H ds Q s hs q => by
  cases hs
  exact q [] H Ext.refl valL_nil⟩
theorem ea_cons {e : Expr} {es : List Expr} {se : Ev} {sr : List D → Option (List D)} {m m' : Md} (h : EX X LL Γ e se m) (h' : EA X LL Γ es sr m')
    (hs : starEach (e :: es) X.env = (false, eval e X.env) :: starEach es X.env := by rfl) : EA X LL Γ (e :: es) (aCons se sr) (m.join m') := by
  obtain ⟨t, ht, k⟩ := h
  obtain ⟨hl, u, hu, k'⟩ := h'
  refine ⟨fun ρ ds e => by
    obtain ⟨d, e1, e⟩ := bind_some e
    obtain ⟨dr, e2, e⟩ := bind_some e
    cases e
    simp [hl ρ dr e2], _, pa_cons ht hu hs, fun P g ρ σ H ds Q s e q => ?_⟩
  obtain ⟨d, e1, e⟩ := bind_some e
  obtain ⟨dr, e2, e⟩ := bind_some e
  cases e
  refine k P g ρ σ H d _ s e1 fun v H1 x1 v1 => ?_
  refine k' P g ρ σ H1 dr _ (s.ext x1) e2 fun vs H2 x2 v2 => ?_
  exact q (v :: vs) H2 (x1.trans x2) (valL_cons s.loc x1 x2 v1 v2)

def Md.tup : Md → Md
  | .flat => .flat
  | .al fr _ L nd => .al fr .unk L nd
def Md.lst : Md → Md
  | .flat => .al false .new [] true
  | .al fr _ L nd => .al fr .new L nd

theorem val_tup {mg : Mg} {P : Fm} {g : Addr → Nat} {H H1 : Hp} {m : Md} {ds : List D} {vs : List V} {p : Addr} (h : ValL mg P g H H1 m ds vs) (hp : H1 p = none) :
    Val mg P g H (upd H1 p (.tup vs)) m.tup (.tup ds) (.ref p) := by
  have x : Ext H1 (upd H1 p (.tup vs)) := Ext.put hp
  obtain ⟨fp, r, q⟩ := h
  have rr : Rep mg (upd H1 p (.tup vs)) (.tup ds) (.ref p) fp := by
    simp only [Rep]
    exact ⟨p, vs, rfl, .inl upd_same, r.ext x⟩
  have q := q.ext x
  cases m with
  | flat =>
    obtain rfl : fp = [] := q
    exact rr
  | al fr rt L nd => exact ⟨fp, rr, fun a ha => .inr ⟨.inr rfl, q.1 a ha⟩, .unk q.2⟩
theorem val_lst {mg : Mg} {P : Fm} {g : Addr → Nat} {H H1 : Hp} {m : Md} {ds : List D} {vs : List V} {p : Addr} (h : ValL mg P g H H1 m ds vs) (e : Ext H H1) (hp : H1 p = none) :
    Val mg P g H (upd H1 p (.lst vs)) m.lst (.lst ds) (.ref p) := by
  have x : Ext H1 (upd H1 p (.lst vs)) := Ext.put hp
  have mu : New H (upd H1 p (.lst vs)) p := ⟨e.nope hp, by rw [upd_same]; trivial⟩
  obtain ⟨fp, r, q⟩ := h
  have rr : Rep mg (upd H1 p (.lst vs)) (.lst ds) (.ref p) (p :: fp) := by
    simp only [Rep]
    exact ⟨p, vs, fp, rfl, upd_same, r.ext x, rfl⟩
  have hn : p ∉ fp := fun hm => r.there p hm hp
  have q := q.ext x
  cases m with
  | flat =>
    obtain rfl : fp = [] := q
    refine ⟨[p], rr, fun a ha => ?_, .of (by simp)⟩
    rw [List.mem_singleton.mp ha]
    exact .inl ⟨rfl, mu⟩
  | al fr rt L nd =>
    refine ⟨p :: fp, rr, fun a ha => ?_, .cons hn q.2⟩
    rcases List.mem_cons.mp ha with rfl | ha
    · exact .inl ⟨rfl, mu⟩
    · exact .inr ⟨.inl fun e => by cases e; exact hn ha, q.1 a ha⟩

theorem ValL.length {mg : Mg} {P : Fm} {g : Addr → Nat} {H H1 : Hp} {m : Md} {ds : List D} {vs : List V} (h : ValL mg P g H H1 m ds vs) : vs.length = ds.length := let ⟨_, r, _⟩ := h; r.length

theorem ex_tup {es : List Expr} {k} {sem : List D → Option (List D)} {m : Md} (h : EA X LL Γ es sem m) (hl : es.length ≤ 1000 := by decide) : EX X LL Γ (.Tuple es k pos) (eTup sem) m.tup := by
  obtain ⟨hz, t, ht, kk⟩ := h
  refine ⟨_, pe_tup ht, fun P g ρ σ H d Q s e q => ?_⟩
  obtain ⟨ds, e1, e⟩ := bind_some e
  cases e
  refine kk P g ρ σ H ds _ s e1 fun vs H1 x1 v1 => ⟨?_, fun p hp => ?_⟩
  · rw [v1.length, hz _ _ e1]; exact Nat.le_of_lt (small1000 hl)
  · exact q _ _ (x1.trans (Ext.put hp)) (val_tup v1 hp)
theorem ex_lst {es : List Expr} {sem : List D → Option (List D)} {m : Md} (h : EA X LL Γ es sem m) (hl : es.length ≤ 1000 := by decide) : EX X LL Γ (.List es pos) (eLst sem) m.lst := by
  obtain ⟨hz, t, ht, kk⟩ := h
  refine ⟨_, pe_lst ht, fun P g ρ σ H d Q s e q => ?_⟩
  obtain ⟨ds, e1, e⟩ := bind_some e
  cases e
  refine kk P g ρ σ H ds _ s e1 fun vs H1 x1 v1 => ⟨?_, fun p hp => ?_⟩
  · rw [v1.length, hz _ _ e1]; exact Nat.le_of_lt (small1000 hl)
  · exact q _ _ (x1.trans (Ext.put hp)) (val_lst v1 x1 hp)
end
end VV

/-! ## VOps -/
namespace VV
open PySem PySem.Spec PyProof.Rows L2

/-- an operation by values keeps to a function of trees -/
def CP (X : Cx) (r : List V → Hp → VK → Prop) (f : List D → Option D) (md : Md → Md) : Prop :=
  ∀ P LL g H H1 m ds vs d Q, Loc P LL g H → Ext H H1 → ValL X.vm P g H H1 m ds vs → f ds = some d → (∀ v H', Ext H1 H' → Val X.vm P g H H' (md m) d v → Q v H') → r vs H1 Q
def r1 (r : V → Hp → VK → Prop) : List V → Hp → VK → Prop := fun vs H Q => ∃ a, vs = [a] ∧ r a H Q
def r2 (r : R2) : List V → Hp → VK → Prop := fun vs H Q => ∃ a b, vs = [a, b] ∧ r a b H Q
abbrev toFlat : Md → Md := fun _ => .flat

section
variable {X : Cx} {LL : List Nat} {Γ : List Kd} {pos : Pos}

/-- two arguments in a row -/
theorem two {a b : Expr} {sa sb : Ev} {ma mb : Md} (ha : EX X LL Γ a sa ma) (hb : EX X LL Γ b sb mb) :
    ∃ ta tb, PE X a ta ∧ PE X b tb ∧ ∀ P g ρ σ H ds (Q : V → V → Hp → Prop), Sta X.vm P LL Γ g ρ σ H → aCons sa (aCons sb aNil) ρ = some ds →
      (∀ d e v w H', ds = [d, e] → Ext H H' → Val X.vm P g H H' ma d v → Val X.vm P g H H' mb e w → ValL X.vm P g H H' (ma.join (mb.join .flat)) ds [v, w] → Q v w H') → ta σ H fun v H1 => tb σ H1 fun w H2 => Q v w H2 := by
  obtain ⟨ta, pa, ka⟩ := ha
  obtain ⟨tb, pb, kb⟩ := hb
  refine ⟨ta, tb, pa, pb, fun P g ρ σ H ds Q s e q => ?_⟩
  obtain ⟨d, e1, e⟩ := bind_some e
  obtain ⟨dr, e2, e⟩ := bind_some e
  cases e
  obtain ⟨d2, e3, e2⟩ := bind_some e2
  cases e2
  refine ka P g ρ σ H d _ s e1 fun v H1 x1 v1 => ?_
  refine kb P g ρ σ H1 d2 _ (s.ext x1) e3 fun w H2 x2 v2 => ?_
  refine q d d2 v w H2 rfl (x1.trans x2) (v1.ext x2) (v2.back x1) (valL_cons s.loc x1 x2 v1 ?_)
  exact valL_cons (s.loc.ext x1) x2 Ext.refl v2 valL_nil

theorem ex_bin {a b : Expr} {sa sb : Ev} {ma mb : Md} {op : Operator} {r : R2} {f : List D → Option D} {md : Md → Md} (ho : OpR X (binaryOp op) r) (hc : CP X (r2 r) f md) (ha : EX X LL Γ a sa ma) (hb : EX X LL Γ b sb mb) :
    EX X LL Γ (.BinOp a op b pos) (eP f (aCons sa (aCons sb aNil))) (md (ma.join (mb.join .flat))) := by
  obtain ⟨ta, tb, pa, pb, k⟩ := two ha hb
  refine ⟨_, pe_op ho pa pb, fun P g ρ σ H d Q s e q => ?_⟩
  obtain ⟨ds, e1, e⟩ := bind_some e
  refine k P g ρ σ H ds _ s e1 fun d1 d2 v w H' _ x va vb vl => ?_
  obtain ⟨_, _, e3, z⟩ := hc P LL g H H' _ ds _ d Q s.loc x vl e fun v2 H2 x2 w2 => q v2 H2 (x.trans x2) w2
  cases e3
  exact z
theorem ex_un {a : Expr} {sa : Ev} {ma : Md} {op : UnaryOp} {r : V → Hp → VK → Prop} {f : List D → Option D} {md : Md → Md} (ho : UnR X (unaryOp op) r) (hc : CP X (r1 r) f md) (ha : EX X LL Γ a sa ma) :
    EX X LL Γ (.UnaryOp op a pos) (eP f (aCons sa aNil)) (md (ma.join .flat)) := by
  obtain ⟨ta, pa, k⟩ := ha
  refine ⟨_, pe_un ho pa, fun P g ρ σ H d Q s e q => ?_⟩
  obtain ⟨ds, e1, e⟩ := bind_some e
  obtain ⟨d1, e2, e1⟩ := bind_some e1
  cases e1
  refine k P g ρ σ H d1 _ s e2 fun v H1 x1 v1 => ?_
  have vl := valL_cons s.loc x1 Ext.refl v1 valL_nil
  obtain ⟨_, e3, z⟩ := hc P LL g H H1 _ _ _ d Q s.loc x1 vl e fun v2 H2 x2 w2 => q v2 H2 (x1.trans x2) w2
  cases e3
  exact z
theorem ex_cmp {a b : Expr} {sa sb : Ev} {ma mb : Md} {op : CmpOp} {r : R2} {f : List D → Option D} {md : Md → Md} (ho : OpR X (compareOp op) r) (hc : CP X (r2 r) f md) (ha : EX X LL Γ a sa ma) (hb : EX X LL Γ b sb mb)
    (hm : behindInMarks op b = false) : EX X LL Γ (.Compare a [op] [b] pos) (eP f (aCons sa (aCons sb aNil))) (md (ma.join (mb.join .flat))) := by
  obtain ⟨ta, tb, pa, pb, k⟩ := two ha hb
  refine ⟨_, pe_cmpR ho pa pb hm, fun P g ρ σ H d Q s e q => ?_⟩
  obtain ⟨ds, e1, e⟩ := bind_some e
  refine k P g ρ σ H ds _ s e1 fun d1 d2 v w H' _ x va vb vl => ?_
  obtain ⟨_, _, e3, z⟩ := hc P LL g H H' _ ds _ d Q s.loc x vl e fun v2 H2 x2 w2 => q v2 H2 (x.trans x2) w2
  cases e3
  exact z
/-- a test by a value -/
def tOf (s : Ev) : List D → Option Bool := fun ρ => do match (← s ρ) with | .bl b => some b | _ => none
theorem et_cmp {a b : Expr} {sa sb : Ev} {ma mb : Md} {op : CmpOp} {r : R2} {f : List D → Option D} {md : Md → Md} (ho : OpR X (compareOp op) r) (hc : CP X (r2 r) f md) (ha : EX X LL Γ a sa ma) (hb : EX X LL Γ b sb mb)
    (hm : behindInMarks op b = false) (hf : ∀ m, md m = .flat := by intro _; rfl) : ET X LL Γ (.Compare a [op] [b] pos) (tOf (eP f (aCons sa (aCons sb aNil)))) := by
  obtain ⟨ta, tb, pa, pb, k⟩ := two ha hb
  refine ⟨_, pt_cmpR ho pa pb hm, fun P g ρ σ H c Q s e q => ?_⟩
  obtain ⟨d, e0, e⟩ := bind_some e
  obtain ⟨ds, e1, e0⟩ := bind_some e0
  refine k P g ρ σ H ds _ s e1 fun d1 d2 v w H' _ x va vb vl => ?_
  obtain ⟨_, _, e3, z⟩ := hc P LL g H H' _ ds _ d (fun x H' => ∃ k, x = .bl k ∧ Q k H') s.loc x vl e0 fun v2 H2 x2 w2 => by
    rw [hf] at w2
    cases d with
    | bl b' =>
      cases e
      have w2 : Rep _ _ _ _ _ := w2
      simp only [Rep] at w2
      exact ⟨_, w2.1, q H2 (x.trans x2)⟩
    | _ => cases e
  cases e3
  exact z
theorem et_val {a : Expr} {sa : Ev} (ha : EX X LL Γ a sa .flat) (he : ∀ whole, isTrue a X.env whole = (do let v ← whole; standAt a.pos; holding [v] (truthy v)) := by intro _; rfl) : ET X LL Γ a (tOf sa) := by
  obtain ⟨t, p, k⟩ := ha
  refine ⟨_, pt_val p he, fun P g ρ σ H b Q s e q => ?_⟩
  obtain ⟨d, e0, e⟩ := bind_some e
  refine k P g ρ σ H d _ s e0 fun v H' x vl => ?_
  cases d with
  | bl b' =>
    cases e
    have w2 : Rep _ _ _ _ _ := vl
    simp only [Rep] at w2
    exact ⟨_, w2.1, q H' x⟩
  | _ => cases e
theorem et_w {a : Expr} {s : List D → Option Bool} (h : EW X LL Γ a s) : ET X LL Γ a s := let ⟨t, p, k⟩ := h; ⟨t, p.pt, k⟩
def wAnd (a b : List D → Option Bool) : List D → Option Bool := fun ρ => do if (← a ρ) then b ρ else some false
def wOr (a b : List D → Option Bool) : List D → Option Bool := fun ρ => do if (← a ρ) then some true else b ρ
def wNot (a : List D → Option Bool) : List D → Option Bool := fun ρ => do some (!(← a ρ))
theorem ew_and1 {a : Expr} {s : List D → Option Bool} (h : ET X LL Γ a s) : EW X LL Γ (.BoolOp .And [a] pos) s := let ⟨t, p, k⟩ := h; ⟨t, pw_and1 p, k⟩
theorem ew_or1 {a : Expr} {s : List D → Option Bool} (h : ET X LL Γ a s) : EW X LL Γ (.BoolOp .Or [a] pos) s := let ⟨t, p, k⟩ := h; ⟨t, pw_or1 p, k⟩
theorem ew_and {a b : Expr} {rest : List Expr} {s u : List D → Option Bool} (h : ET X LL Γ a s) (h' : EW X LL Γ (.BoolOp .And (b :: rest) pos) u) : EW X LL Γ (.BoolOp .And (a :: b :: rest) pos) (wAnd s u) := by
  obtain ⟨t, p, k⟩ := h
  obtain ⟨t', p', k'⟩ := h'
  refine ⟨_, pw_and p p', fun P g ρ σ H c Q st e q => ?_⟩
  obtain ⟨d, e0, e⟩ := bind_some e
  refine k P g ρ σ H d _ st e0 fun H' x => ?_
  cases d with
  | true => exact iteT (k' P g ρ σ H' c Q (st.ext x) (by simpa using e) fun H2 x2 => q H2 (x.trans x2))
  | false => exact iteF (by cases (by simpa using e : false = c); exact q H' x)
theorem ew_or {a b : Expr} {rest : List Expr} {s u : List D → Option Bool} (h : ET X LL Γ a s) (h' : EW X LL Γ (.BoolOp .Or (b :: rest) pos) u) : EW X LL Γ (.BoolOp .Or (a :: b :: rest) pos) (wOr s u) := by
  obtain ⟨t, p, k⟩ := h
  obtain ⟨t', p', k'⟩ := h'
  refine ⟨_, pw_or p p', fun P g ρ σ H c Q st e q => ?_⟩
  obtain ⟨d, e0, e⟩ := bind_some e
  refine k P g ρ σ H d _ st e0 fun H' x => ?_
  cases d with
  | false => exact iteF (k' P g ρ σ H' c Q (st.ext x) (by simpa using e) fun H2 x2 => q H2 (x.trans x2))
  | true => exact iteT (by cases (by simpa using e : true = c); exact q H' x)
theorem et_not {a : Expr} {s : List D → Option Bool} (h : ET X LL Γ a s) : ET X LL Γ (.UnaryOp .Not a pos) (wNot s) := by
  obtain ⟨t, p, k⟩ := h
  refine ⟨_, pt_not p, fun P g ρ σ H c Q st e q => ?_⟩
  obtain ⟨d, e0, e⟩ := bind_some e
  refine k P g ρ σ H d _ st e0 fun H' x => ?_
  cases e
  exact q H' x
def eIf (c : List D → Option Bool) (a b : Ev) : Ev := fun ρ => do if (← c ρ) then a ρ else b ρ
theorem ex_if {c a b : Expr} {sc : List D → Option Bool} {sa sb : Ev} {m : Md} (hc : ET X LL Γ c sc) (ha : EX X LL Γ a sa m) (hb : EX X LL Γ b sb m) : EX X LL Γ (.IfExp c a b pos) (eIf sc sa sb) m := by
  obtain ⟨t, p, k⟩ := hc
  obtain ⟨ta, pa, ka⟩ := ha
  obtain ⟨tb, pb, kb⟩ := hb
  refine ⟨_, pe_ifExp p pa pb, fun P g ρ σ H d Q st e q => ?_⟩
  obtain ⟨c', e0, e⟩ := bind_some e
  refine k P g ρ σ H c' _ st e0 fun H' x => ?_
  cases c' with
  | true => exact iteT (ka P g ρ σ H' d Q (st.ext x) (by simpa using e) fun v H2 x2 w => q v H2 (x.trans x2) (w.back x))
  | false => exact iteF (kb P g ρ σ H' d Q (st.ext x) (by simpa using e) fun v H2 x2 w => q v H2 (x.trans x2) (w.back x))
/-- bools as values -/
def eB (s : List D → Option Bool) : Ev := fun ρ => do some (.bl (← s ρ))

/-- calls of built-ins -/
theorem ex_callB {x : Str} {id : String} {p : Pos} {e : Expr} {es : List Expr} {r : List V → Hp → VK → Prop} {f : List D → Option D} {md : Md → Md} {sem : List D → Option (List D)} {m : Md} (hr : CallR X (.builtin id) r) (hc : CP X r f md)
    (hg : Gl X x) (hm : X.mg x = none) (hv : bootBuiltins x = some (.builtin id)) (ha : EA X LL Γ (e :: es) sem m) (hn : x ≠ "__name__" := by decide) (hdb : (x == ("__debug__" : Str)) = false := by decide)
    (he : starEach (e :: es) X.env = (false, eval e X.env) :: starEach es X.env := by rfl) (hpl : (backTo pos (starEach es X.env)).any (·.1) = false := by rfl) : EX X LL Γ (.Call (.Name x p) (e :: es) [] pos) (eP f sem) (md m) := by
  obtain ⟨_, t, pt, k⟩ := ha
  refine ⟨_, pe_callB hr hg hm hv pt hn hdb he hpl, fun P g ρ σ H d Q s e q => ?_⟩
  obtain ⟨ds, e1, e⟩ := bind_some e
  exact k P g ρ σ H ds _ s e1 fun vs H' x vl => hc P LL g H H' _ ds vs d Q s.loc x vl e fun v2 H2 x2 w2 => q v2 H2 (x.trans x2) w2
theorem ex_callTy {x : Str} {T : String} {p : Pos} {e : Expr} {es : List Expr} {r : List V → Hp → VK → Prop} {f : List D → Option D} {md : Md → Md} {sem : List D → Option (List D)} {m : Md} (hr : CallR X (.type T) r) (hc : CP X r f md)
    (hg : Gl X x) (hm : X.mg x = none) (hv : bootBuiltins x = some (.type T)) (ha : EA X LL Γ (e :: es) sem m) (hn : x ≠ "__name__" := by decide) (hdb : (x == ("__debug__" : Str)) = false := by decide)
    (he : starEach (e :: es) X.env = (false, eval e X.env) :: starEach es X.env := by rfl) (hpl : (backTo pos (starEach es X.env)).any (·.1) = false := by rfl) : EX X LL Γ (.Call (.Name x p) (e :: es) [] pos) (eP f sem) (md m) := by
  obtain ⟨_, t, pt, k⟩ := ha
  refine ⟨_, pe_callTy hr hg hm hv pt hn hdb he hpl, fun P g ρ σ H d Q s e q => ?_⟩
  obtain ⟨ds, e1, e⟩ := bind_some e
  exact k P g ρ σ H ds _ s e1 fun vs H' x vl => hc P LL g H H' _ ds vs d Q s.loc x vl e fun v2 H2 x2 w2 => q v2 H2 (x.trans x2) w2
end
end VV

/-! ## VPrim -/
namespace VV
open PySem PySem.Spec PyProof.Rows L2

theorem ValL.rep {mg : Mg} {P : Fm} {g : Addr → Nat} {H H' : Hp} {m : Md} {ds : List D} {vs : List V} (h : ValL mg P g H H' m ds vs) : ∃ fp, RepL mg H' ds vs fp := let ⟨fp, r, _⟩ := h; ⟨fp, r⟩
theorem repL1 {mg : Mg} {H : Hp} {d : D} {vs : List V} {fp : List Addr} (h : RepL mg H [d] vs fp) : ∃ v, vs = [v] ∧ Rep mg H d v fp := by
  simp only [RepL] at h
  obtain ⟨v, r, f1, f2, rfl, h1, ⟨rfl, rfl⟩, rfl⟩ := h
  exact ⟨v, rfl, by simpa using h1⟩
theorem repL2 {mg : Mg} {H : Hp} {d e : D} {vs : List V} {fp : List Addr} (h : RepL mg H [d, e] vs fp) : ∃ v w f1 f2, vs = [v, w] ∧ Rep mg H d v f1 ∧ Rep mg H e w f2 ∧ fp = f1 ++ f2 := by
  simp only [RepL] at h
  obtain ⟨v, r, f1, f2, rfl, h1, ⟨w, r', g1, g2, rfl, h2, ⟨rfl, rfl⟩, rfl⟩, rfl⟩ := h
  exact ⟨v, w, f1, g1, rfl, h1, by simpa using h2, by simp⟩
theorem rInt {mg : Mg} {H : Hp} {i : Int} {v : V} {fp : List Addr} (h : Rep mg H (.int i) v fp) : v = .int i := by simp only [Rep] at h; exact h.1
theorem rStr {mg : Mg} {H : Hp} {i : Str} {v : V} {fp : List Addr} (h : Rep mg H (.str i) v fp) : v = .str i := by simp only [Rep] at h; exact h.1
theorem rBl {mg : Mg} {H : Hp} {i : Bool} {v : V} {fp : List Addr} (h : Rep mg H (.bl i) v fp) : v = .bl i := by simp only [Rep] at h; exact h.1
theorem rNon {mg : Mg} {H : Hp} {v : V} {fp : List Addr} (h : Rep mg H .non v fp) : v = .non := by simp only [Rep] at h; exact h.1

/-! ### ints -/
def dII (C : Int → Int → Prop) [DecidableRel C] (f : Int → Int → Int) : List D → Option D
  | [.int a, .int b] => if C a b then some (.int (f a b)) else none
  | _ => none
def dI2 (f : Int → Int → Int) : List D → Option D
  | [.int a, .int b] => some (.int (f a b))
  | _ => none
def dB2 (f : Int → Int → Bool) : List D → Option D
  | [.int a, .int b] => some (.bl (f a b))
  | _ => none
def dI1 (f : Int → Int) : List D → Option D
  | [.int a] => some (.int (f a))
  | _ => none
theorem dII_inv {C : Int → Int → Prop} [DecidableRel C] {f : Int → Int → Int} {ds : List D} {d : D} (h : dII C f ds = some d) : ∃ a b, ds = [.int a, .int b] ∧ C a b ∧ d = .int (f a b) := by
  unfold dII at h
  split at h
  · split at h
    · cases h; exact ⟨_, _, rfl, by assumption, rfl⟩
    · cases h
  · cases h
theorem dI2_inv {f : Int → Int → Int} {ds : List D} {d : D} (h : dI2 f ds = some d) : ∃ a b, ds = [.int a, .int b] ∧ d = .int (f a b) := by
  unfold dI2 at h
  split at h
  · cases h; exact ⟨_, _, rfl, rfl⟩
  · cases h
theorem dB2_inv {f : Int → Int → Bool} {ds : List D} {d : D} (h : dB2 f ds = some d) : ∃ a b, ds = [.int a, .int b] ∧ d = .bl (f a b) := by
  unfold dB2 at h
  split at h
  · cases h; exact ⟨_, _, rfl, rfl⟩
  · cases h
theorem dI1_inv {f : Int → Int} {ds : List D} {d : D} (h : dI1 f ds = some d) : ∃ a, ds = [.int a] ∧ d = .int (f a) := by
  unfold dI1 at h
  split at h
  · cases h; exact ⟨_, rfl, rfl⟩
  · cases h
section
variable {X : Cx}
theorem cp_ii {C : Int → Int → Prop} [DecidableRel C] {f : Int → Int → Int} : CP X (r2 (rI C fun i j => .int (f i j))) (dII C f) toFlat := by
  intro P LL g H H1 m ds vs d Q l x vl e q
  obtain ⟨a, b, rfl, hc, rfl⟩ := dII_inv e
  obtain ⟨fp, r⟩ := vl.rep
  obtain ⟨v, w, f1, f2, rfl, h1, h2, _⟩ := repL2 r
  exact ⟨v, w, rfl, a, b, rInt h1, rInt h2, hc, q _ H1 Ext.refl (val_flat rep_int)⟩
theorem cp_i2 {f : Int → Int → Int} : CP X (r2 (rI0 fun i j => .int (f i j))) (dI2 f) toFlat := by
  intro P LL g H H1 m ds vs d Q l x vl e q
  obtain ⟨a, b, rfl, rfl⟩ := dI2_inv e
  obtain ⟨fp, r⟩ := vl.rep
  obtain ⟨v, w, f1, f2, rfl, h1, h2, _⟩ := repL2 r
  exact ⟨v, w, rfl, a, b, rInt h1, rInt h2, q _ H1 Ext.refl (val_flat rep_int)⟩
theorem cp_b2 {f : Int → Int → Bool} : CP X (r2 (rI0 fun i j => .bl (f i j))) (dB2 f) toFlat := by
  intro P LL g H H1 m ds vs d Q l x vl e q
  obtain ⟨a, b, rfl, rfl⟩ := dB2_inv e
  obtain ⟨fp, r⟩ := vl.rep
  obtain ⟨v, w, f1, f2, rfl, h1, h2, _⟩ := repL2 r
  exact ⟨v, w, rfl, a, b, rInt h1, rInt h2, q _ H1 Ext.refl (val_flat rep_bl)⟩
theorem cp_u {f : Int → Int} : CP X (r1 (rU fun i => .int (f i))) (dI1 f) toFlat := by
  intro P LL g H H1 m ds vs d Q l x vl e q
  obtain ⟨a, rfl, rfl⟩ := dI1_inv e
  obtain ⟨fp, r⟩ := vl.rep
  obtain ⟨v, rfl, h1⟩ := repL1 r
  exact ⟨v, rfl, a, rInt h1, q _ H1 Ext.refl (val_flat rep_int)⟩
end
instance : DecidableRel CDivW := fun _ _ => inferInstanceAs (Decidable (_ ∧ _))
instance : DecidableRel CMulX := fun i j => decidable_of_iff (Builtin.Int.intBits i + Builtin.Int.intBits j ≤ 134217728) (by unfold CMulX; omega)
instance : DecidableRel CPow := fun _ _ => inferInstanceAs (Decidable (_ ∧ _ ∧ _))
def CPos (_ j : Int) : Prop := 0 < j
instance : DecidableRel CPos := fun _ j => inferInstanceAs (Decidable (0 < j))
abbrev dAdd := dI2 fun i j => i + j
abbrev dSub := dI2 fun i j => i - j
abbrev dMul := dII CMulX fun i j => i * j
abbrev dDiv := dII CDivW fun i j => i / j
abbrev dMod := dII CPos fun i j => i % j
abbrev dPow := dII CPow fun i j => i ^ j.toNat
abbrev dNeg := dI1 fun i => -i
abbrev dLt := dB2 fun i j => decide (i < j)
abbrev dLe := dB2 fun i j => decide (i ≤ j)
abbrev dGt := dB2 fun i j => decide (j < i)
abbrev dGe := dB2 fun i j => decide (j ≤ i)
section
variable {X : Cx} {LL : List Nat} {Γ : List Kd} {pos : Pos} {a b : Expr} {sa sb : Ev} {ma mb : Md}
theorem ex_add (ha : EX X LL Γ a sa ma) (hb : EX X LL Γ b sb mb) : EX X LL Γ (.BinOp a .Add b pos) (eP dAdd (aCons sa (aCons sb aNil))) .flat := ex_bin op_add cp_i2 ha hb
theorem ex_sub (ha : EX X LL Γ a sa ma) (hb : EX X LL Γ b sb mb) : EX X LL Γ (.BinOp a .Sub b pos) (eP dSub (aCons sa (aCons sb aNil))) .flat := ex_bin op_sub cp_i2 ha hb
theorem ex_mul (ha : EX X LL Γ a sa ma) (hb : EX X LL Γ b sb mb) : EX X LL Γ (.BinOp a .Mult b pos) (eP dMul (aCons sa (aCons sb aNil))) .flat := ex_bin op_mulX cp_ii ha hb
theorem ex_div (ha : EX X LL Γ a sa ma) (hb : EX X LL Γ b sb mb) : EX X LL Γ (.BinOp a .FloorDiv b pos) (eP dDiv (aCons sa (aCons sb aNil))) .flat := ex_bin op_fdivW cp_ii ha hb
theorem ex_mod (ha : EX X LL Γ a sa ma) (hb : EX X LL Γ b sb mb) : EX X LL Γ (.BinOp a .Mod b pos) (eP dMod (aCons sa (aCons sb aNil))) .flat := ex_bin (op_mod (X := X)) (cp_ii (C := CPos)) ha hb
theorem ex_pow (ha : EX X LL Γ a sa ma) (hb : EX X LL Γ b sb mb) : EX X LL Γ (.BinOp a .Pow b pos) (eP dPow (aCons sa (aCons sb aNil))) .flat := ex_bin op_pow cp_ii ha hb
theorem ex_neg (ha : EX X LL Γ a sa ma) : EX X LL Γ (.UnaryOp .USub a pos) (eP dNeg (aCons sa aNil)) .flat := ex_un un_neg cp_u ha
theorem et_lt (ha : EX X LL Γ a sa ma) (hb : EX X LL Γ b sb mb) : ET X LL Γ (.Compare a [.Lt] [b] pos) (tOf (eP dLt (aCons sa (aCons sb aNil)))) := et_cmp op_lt cp_b2 ha hb (nomark _)
theorem et_le (ha : EX X LL Γ a sa ma) (hb : EX X LL Γ b sb mb) : ET X LL Γ (.Compare a [.LtE] [b] pos) (tOf (eP dLe (aCons sa (aCons sb aNil)))) := et_cmp op_le cp_b2 ha hb (nomark _)
theorem et_gt (ha : EX X LL Γ a sa ma) (hb : EX X LL Γ b sb mb) : ET X LL Γ (.Compare a [.Gt] [b] pos) (tOf (eP dGt (aCons sa (aCons sb aNil)))) := et_cmp op_gt cp_b2 ha hb (nomark _)
theorem et_ge (ha : EX X LL Γ a sa ma) (hb : EX X LL Γ b sb mb) : ET X LL Γ (.Compare a [.GtE] [b] pos) (tOf (eP dGe (aCons sa (aCons sb aNil)))) := et_cmp op_ge cp_b2 ha hb (nomark _)
theorem ex_lt (ha : EX X LL Γ a sa ma) (hb : EX X LL Γ b sb mb) : EX X LL Γ (.Compare a [.Lt] [b] pos) (eP dLt (aCons sa (aCons sb aNil))) .flat := ex_cmp op_lt cp_b2 ha hb (nomark _)
theorem ex_le (ha : EX X LL Γ a sa ma) (hb : EX X LL Γ b sb mb) : EX X LL Γ (.Compare a [.LtE] [b] pos) (eP dLe (aCons sa (aCons sb aNil))) .flat := ex_cmp op_le cp_b2 ha hb (nomark _)
theorem ex_gt (ha : EX X LL Γ a sa ma) (hb : EX X LL Γ b sb mb) : EX X LL Γ (.Compare a [.Gt] [b] pos) (eP dGt (aCons sa (aCons sb aNil))) .flat := ex_cmp op_gt cp_b2 ha hb (nomark _)
theorem ex_ge (ha : EX X LL Γ a sa ma) (hb : EX X LL Γ b sb mb) : EX X LL Γ (.Compare a [.GtE] [b] pos) (eP dGe (aCons sa (aCons sb aNil))) .flat := ex_cmp op_ge cp_b2 ha hb (nomark _)
end
end VV

/-! ## VSeq -/
namespace VV
open PySem PySem.Spec PyProof.Rows L2

mutual
def D.isFlat : D → Bool
  | .tup l => D.isFlatL l
  | .lst _ => false
  | .dic _ _ => false
  | .obj _ _ _ => false
  | _ => true
def D.isFlatL : List D → Bool
  | [] => true
  | d :: r => d.isFlat && D.isFlatL r
end
mutual
theorem Rep.flat {mg : Mg} {H : Hp} : ∀ {d : D} {v : V} {fp : List Addr}, Rep mg H d v fp → d.isFlat = true → fp = []
  | .non, _, _, h, _ => by simp only [Rep] at h; exact h.2
  | .bl _, _, _, h, _ => by simp only [Rep] at h; exact h.2
  | .int _, _, _, h, _ => by simp only [Rep] at h; exact h.2
  | .str _, _, _, h, _ => by simp only [Rep] at h; exact h.2
  | .fn _, _, _, h, _ => by simp only [Rep] at h; exact h.2
  | .tup l, _, _, h, f => by
    simp only [Rep] at h
    obtain ⟨a, vs, rfl, _, h2⟩ := h
    exact RepL.flat h2 (by simpa only [D.isFlat] using f)
  | .lst _, _, _, _, f => by simp [D.isFlat] at f
  | .scr _, _, _, h, _ => by simp only [Rep] at h; obtain ⟨_, _, _, _, _, e⟩ := h; exact e
  | .dic _ _, _, _, _, f => by simp [D.isFlat] at f
  | .obj _ _ _, _, _, _, f => by simp [D.isFlat] at f
theorem RepL.flat {mg : Mg} {H : Hp} : ∀ {ds : List D} {vs : List V} {fp : List Addr}, RepL mg H ds vs fp → D.isFlatL ds = true → fp = []
  | [], _, _, h, _ => by simp only [RepL] at h; exact h.2
  | d :: ds, _, _, h, f => by
    simp only [RepL] at h
    obtain ⟨v, r, f1, f2, rfl, h1, h2, rfl⟩ := h
    simp only [D.isFlatL, Bool.and_eq_true] at f
    rw [Rep.flat h1 f.1, RepL.flat h2 f.2]
    rfl
end
theorem isFlatL_all (l : List D) : D.isFlatL l = l.all D.isFlat := by
  induction l with
  | nil => rfl
  | cons d r ih => simp only [D.isFlatL, List.all_cons, ih]

/-! ### what is known of a result by a look at its tree -/
def eChk (p : D → Bool) (s : Ev) : Ev := fun ρ => (s ρ).filter p
def D.isLst : D → Bool
  | .lst _ => true
  | _ => false
def D.isTup : D → Bool
  | .tup _ => true
  | _ => false
def D.isStr : D → Bool
  | .str _ => true
  | _ => false
def D.kidsFlat : D → Bool
  | .lst l => D.isFlatL l
  | .dic _ l => D.isFlatL l
  | _ => false
section
variable {X : Cx} {LL : List Nat} {Γ : List Kd} {pos : Pos} {e : Expr} {s : Ev}
theorem ex_flat {m : Md} (h : EX X LL Γ e s m) : EX X LL Γ e (eChk D.isFlat s) .flat := by
  obtain ⟨t, p, k⟩ := h
  refine ⟨t, p, fun P g ρ σ H d Q st hs q => ?_⟩
  obtain ⟨h1, h2⟩ := Option.filter_eq_some_iff.mp hs
  refine k P g ρ σ H d Q st h1 fun v H' x w => q v H' x ?_
  cases m with
  | flat => exact w
  | al fr rt L nd =>
    obtain ⟨fp, r, _⟩ := w
    rw [r.flat h2] at r
    exact r
def Md.isNew : Md → Bool
  | .al _ .new _ _ => true
  | _ => false
theorem ex_kids {m : Md} (h : EX X LL Γ e s m) (hm : m.isNew = true := by rfl) : EX X LL Γ e (eChk D.kidsFlat s) (.al false .new [] true) := by
  obtain ⟨fr, L, nd, rfl⟩ : ∃ fr L nd, m = .al fr .new L nd := by
    cases m with
    | flat => cases hm
    | al fr rt L nd =>
      cases rt with
      | new => exact ⟨fr, L, nd, rfl⟩
      | old n => cases hm
      | unk => cases hm
  obtain ⟨t, p, k⟩ := h
  refine ⟨t, p, fun P g ρ σ H d Q st hs q => ?_⟩
  obtain ⟨h1, h2⟩ := Option.filter_eq_some_iff.mp hs
  refine k P g ρ σ H d Q st h1 fun v H' x w => q v H' x ?_
  obtain ⟨fp, r, o⟩ := w
  have key : ∀ a, v = .ref a → fp = [a] → Val X.vm P g H H' (.al false .new [] true) d v := by
    intro a e1 e2
    subst e1; subst e2
    refine ⟨[a], r, fun b hb => ?_, .of (by simp)⟩
    obtain rfl := List.mem_singleton.mp hb
    rcases o.1 b hb with z | ⟨z | z, _⟩
    · exact .inl z
    · exact absurd rfl z
    · cases z
  cases d with
  | lst l =>
    have r0 := r
    simp only [Rep] at r0
    obtain ⟨a, vs, f, rfl, _, r2, rfl⟩ := r0
    exact key a rfl (by rw [r2.flat h2])
  | dic ks l =>
    have r0 := r
    simp only [Rep] at r0
    obtain ⟨a, vs, f, rfl, _, r2, rfl⟩ := r0
    exact key a rfl (by rw [r2.flat h2])
  | _ => cases h2
end

/-! ### len, items -/
def dLen : List D → Option D
  | [.lst l] => some (.int l.length)
  | [.scr l] => some (.int l.length)
  | [.tup l] => some (.int l.length)
  | [.str s] => if s.length ≤ sizeLine then some (.int s.length) else none
  | _ => none
def dIdx : List D → Option D
  | [.lst l, .int i] => atI l i
  | [.scr l, .int i] => atI l i
  | [.tup l, .int i] => atI l i
  | [.str s, .int i] => if s.length ≤ sizeLine then (atI s.cps.toList i).map fun c => .str ⟨#[c]⟩ else none
  | _ => none
def Md.child : Md → Md
  | .flat => .flat
  | .al fr rt L nd => if nd then .al fr .unk L true else (Md.al fr rt L nd).unroot
section
variable {X : Cx}
theorem cp_len : CP X (fun xs H Q => ∃ x n, xs = [x] ∧ LenV X.K x H n ∧ Q (.int n) H) dLen toFlat := by
  intro P LL g H H1 m ds vs d Q l x vl e q
  obtain ⟨fp, r⟩ := vl.rep
  unfold dLen at e
  split at e
  · cases e
    obtain ⟨v, rfl, h⟩ := repL1 r
    simp only [Rep] at h
    obtain ⟨a, vs, f, rfl, ha, h2, rfl⟩ := h
    exact ⟨_, _, rfl, .inl ⟨vs, SqL.of ha, rfl⟩, by rw [h2.length]; exact q _ H1 Ext.refl (val_flat rep_int)⟩
  · cases e
    obtain ⟨v, rfl, h⟩ := repL1 r
    simp only [Rep] at h
    obtain ⟨a, vs, rfl, ha, h2, rfl⟩ := h
    exact ⟨_, _, rfl, .inl ⟨vs, ha.sq, rfl⟩, by rw [h2.length]; exact q _ H1 Ext.refl (val_flat rep_int)⟩
  · cases e
    obtain ⟨v, rfl, h⟩ := repL1 r
    simp only [Rep] at h
    obtain ⟨a, vs, rfl, ha, h2⟩ := h
    exact ⟨_, _, rfl, .inr ⟨vs, .inl ha, rfl⟩, by rw [h2.length]; exact q _ H1 Ext.refl (val_flat rep_int)⟩
  · split at e
    · cases e
      obtain ⟨v, rfl, h⟩ := repL1 r
      obtain rfl := rStr h
      exact ⟨_, _, rfl, ⟨by assumption, rfl⟩, q _ H1 Ext.refl (val_flat rep_int)⟩
    · cases e
  · cases e
theorem ixN_lt {n : Nat} {i : Int} {j : Nat} (h : ixN n i = some j) : j < n := (ixN_seq h).2.1
theorem val_child {mg : Mg} {P : Fm} {g : Addr → Nat} {H H1 : Hp} {m : Md} {d0 : D} {v0 : V} {d : D} {v : V} (h : Val mg P g H H1 m d0 v0)
    (he : ∀ fp, Rep mg H1 d0 v0 fp → ∃ f1 f f2, Rep mg H1 d v f ∧ ((∃ a, v0 = .ref a ∧ fp = a :: (f1 ++ f ++ f2)) ∨ (fp = f1 ++ f ++ f2 ∧ ∀ a, v0 = .ref a → a ∉ fp))) : Val mg P g H H1 m.child d v := by
  cases m with
  | flat =>
    obtain ⟨f1, f, f2, r, ⟨a, _, e⟩ | ⟨e, _⟩⟩ := he [] h
    · cases e
    · have : f = [] := by
        have := congrArg List.length e
        simp at this
        exact List.eq_nil_of_length_eq_zero (by omega)
      subst this
      exact r
  | al fr rt L nd =>
    obtain ⟨fp, r, o⟩ := h
    obtain ⟨f1, f, f2, rf, hh⟩ := he fp r
    have hs : ∀ a ∈ f, a ∈ fp := fun a ha => by
      rcases hh with ⟨b, _, rfl⟩ | ⟨rfl, _⟩
      · exact List.mem_cons_of_mem _ (List.mem_append_left _ (List.mem_append_right _ ha))
      · exact List.mem_append_left _ (List.mem_append_right _ ha)
    have hn : nd = true → f.Nodup := fun h => by
      have n := o.2.1 h
      rcases hh with ⟨b, _, rfl⟩ | ⟨rfl, _⟩
      · have n := (List.nodup_cons.mp n).2
        exact (List.nodup_append.mp (List.nodup_append.mp n).1).2.1
      · exact (List.nodup_append.mp (List.nodup_append.mp n).1).2.1
    cases nd with
    | true =>
      refine ⟨f, rf, fun a ha => ?_, .unk fun h => hn rfl⟩
      rcases o.1 a (hs a ha) with ⟨e, y⟩ | ⟨_, y⟩
      · exfalso
        rcases hh with ⟨b, e2, rfl⟩ | ⟨_, z⟩
        · rw [e2] at e; cases e
          exact (List.nodup_cons.mp (o.2.1 rfl)).1 (List.mem_append_left _ (List.mem_append_right _ ha))
        · exact z a e (hs a ha)
      · exact .inr ⟨.inr rfl, y⟩
    | false =>
      have q := o.unroot
      show Val mg P g H H1 (Md.al fr rt L false).unroot d v
      cases rt <;> exact ⟨f, rf, fun a ha => .inr ⟨.inr rfl, q.1 a (hs a ha)⟩, .unk fun h => nomatch h⟩
theorem rd_tup {H : Hp} {a : Addr} {xs : List V} (r : Rd H a (.tup xs)) {u : HO} (q : Rd H a u) (h : ∀ o, u ≠ .frz o (.tup xs)) (h' : ∀ ys, u ≠ .tup ys) (h2 : ∀ o w, u ≠ .frz o w) : False := by
  rcases r with r | ⟨o, r⟩ <;> rcases q with q | ⟨o', q⟩ <;> rw [r] at q <;> cases q
  · exact h' _ rfl
  · exact h2 _ _ rfl
  · exact h' _ rfl
mutual
/-- the footprint does not have tuples -/
theorem Rep.notup {mg : Mg} {H : Hp} : ∀ {d : D} {v : V} {fp : List Addr}, Rep mg H d v fp → ∀ {a : Addr} {xs : List V}, Rd H a (.tup xs) → a ∉ fp
  | .non, _, _, h, _, _, _ => by simp only [Rep] at h; rw [h.2]; simp
  | .bl _, _, _, h, _, _, _ => by simp only [Rep] at h; rw [h.2]; simp
  | .int _, _, _, h, _, _, _ => by simp only [Rep] at h; rw [h.2]; simp
  | .str _, _, _, h, _, _, _ => by simp only [Rep] at h; rw [h.2]; simp
  | .fn _, _, _, h, _, _, _ => by simp only [Rep] at h; rw [h.2]; simp
  | .tup ds, _, _, h, _, _, r => by
    simp only [Rep] at h
    obtain ⟨_, vs, rfl, _, h2⟩ := h
    exact RepL.notup h2 r
  | .lst ds, _, _, h, _, _, r => by
    simp only [Rep] at h
    obtain ⟨b, vs, f, rfl, e, h2, rfl⟩ := h
    intro hm
    rcases List.mem_cons.mp hm with rfl | hm
    · exact rd_tup r (.inl e) (fun _ z => nomatch z) (fun _ z => nomatch z) (fun _ _ z => nomatch z)
    · exact RepL.notup h2 r hm
  | .scr ds, _, _, h, a, _, r => by
    simp only [Rep] at h
    obtain ⟨b, vs, rfl, e, h2, rfl⟩ := h
    simp
  | .dic ks ds, _, _, h, _, _, r => by
    simp only [Rep] at h
    obtain ⟨b, vs, f, rfl, ⟨_, _, e⟩, h2, rfl⟩ := h
    intro hm
    rcases List.mem_cons.mp hm with rfl | hm
    · rcases e with ⟨_, _, e⟩ | ⟨_, _, e⟩
      · exact rd_tup r e (fun _ z => nomatch z) (fun _ z => nomatch z) (fun _ _ z => nomatch z)
      · exact rd_tup r e (fun _ z => nomatch z) (fun _ z => nomatch z) (fun _ _ z => nomatch z)
    · exact RepL.notup h2 r hm
  | .obj c ns ds, _, _, h, _, _, r => by
    simp only [Rep] at h
    obtain ⟨b, C, dx, vs, f, rfl, _, _, e, h2, rfl⟩ := h
    intro hm
    rcases List.mem_cons.mp hm with rfl | hm
    · exact rd_tup r e (fun _ z => nomatch z) (fun _ z => nomatch z) (fun _ _ z => nomatch z)
    · exact RepL.notup h2 r hm
theorem RepL.notup {mg : Mg} {H : Hp} : ∀ {ds : List D} {vs : List V} {fp : List Addr}, RepL mg H ds vs fp → ∀ {a : Addr} {xs : List V}, Rd H a (.tup xs) → a ∉ fp
  | [], _, _, h, _, _, _ => by simp only [RepL] at h; rw [h.2]; simp
  | d :: ds, _, _, h, _, _, r => by
    simp only [RepL] at h
    obtain ⟨v, r', f1, f2, rfl, h1, h2, rfl⟩ := h
    intro hm
    rcases List.mem_append.mp hm with hm | hm
    · exact Rep.notup h1 r hm
    · exact RepL.notup h2 r hm
end
theorem dIdx_child {mg : Mg} {P : Fm} {g : Addr → Nat} {H H1 : Hp} {K : PySem.W.Frag} {m : Md} {d0 d : D} {i : Int} {v0 : V} {Q : VK} (hK : mg.K = K) (h : Val mg P g H H1 m d0 v0) (e : dIdx [d0, .int i] = some d)
    (q : ∀ v, Val mg P g H H1 m.child d v → Q v H1) : rIx K v0 (.int i) H1 Q := by
  have get : ∀ (l : List D) (us : List V) (f : List Addr), atI l i = some d → RepL mg H1 l us f → ∃ z g1 g2 g3, atI us i = some z ∧ Rep mg H1 d z g2 ∧ f = g1 ++ g2 ++ g3 := fun l us f e r => by
    unfold atI at e
    obtain ⟨j, e1, e2⟩ := bind_some e
    obtain ⟨z, g1, g2, g3, e3, rz, rfl⟩ := r.get e2
    exact ⟨z, g1, g2, g3, by unfold atI; rw [r.length, e1]; exact e3, rz, rfl⟩
  have some_fp : ∃ fp, Rep mg H1 d0 v0 fp := let ⟨fp, r, _⟩ := h.unroot; ⟨fp, r⟩
  obtain ⟨fp0, r0⟩ := some_fp
  cases d0 with
  | lst l =>
    have e : atI l i = some d := e
    simp only [Rep] at r0
    obtain ⟨a, us, f, rfl, ha, h3, rfl⟩ := r0
    obtain ⟨z, g1, g2, g3, e3, rz, rfl⟩ := get l us _ e h3
    refine .inl ⟨a, us, _, z, rfl, rfl, SqL.of ha, e3, q _ (val_child h fun fp r => ?_)⟩
    simp only [Rep] at r
    obtain ⟨b, us', f', eb, hb, h3', rfl⟩ := r
    cases eb
    rw [ha] at hb; cases hb
    obtain ⟨z', k1, k2, k3, e3', rz', rfl⟩ := get l us _ e h3'
    rw [e3] at e3'; cases e3'
    exact ⟨k1, k2, k3, rz', .inl ⟨a, rfl, rfl⟩⟩
  | scr l =>
    have e : atI l i = some d := e
    simp only [Rep] at r0
    obtain ⟨a, us, rfl, ha, h3, rfl⟩ := r0
    obtain ⟨z, g1, g2, g3, e3, rz, e4⟩ := get l us _ e h3
    have e5 : g2 = [] := by
      have := congrArg List.length e4
      simp at this
      exact List.eq_nil_of_length_eq_zero (by omega)
    subst e5
    refine .inl ⟨a, us, _, z, rfl, rfl, hK ▸ ha.sq, e3, q _ (val_child h fun fp r => ?_)⟩
    simp only [Rep] at r
    obtain ⟨b, us', eb, hb, h3', rfl⟩ := r
    exact ⟨[], [], [], rz, .inr ⟨rfl, fun a' ea => nofun⟩⟩
  | tup l =>
    have e : atI l i = some d := e
    simp only [Rep] at r0
    obtain ⟨a, us, rfl, ha, h3⟩ := r0
    obtain ⟨z, g1, g2, g3, e3, rz, rfl⟩ := get l us _ e h3
    refine .inr (.inl ⟨a, us, _, z, rfl, rfl, .inl ha, e3, q _ (val_child h fun fp r => ?_)⟩)
    have r1 := r
    simp only [Rep] at r
    obtain ⟨b, us', eb, hb, h3'⟩ := r
    cases eb
    have eus : us' = us := by
      rcases ha with ha | ⟨o, ha⟩ <;> rcases hb with hb | ⟨o', hb⟩ <;> rw [ha] at hb <;> cases hb <;> rfl
    subst eus
    obtain ⟨z', k1, k2, k3, e3', rz', rfl⟩ := get l us' _ e h3'
    rw [e3] at e3'; cases e3'
    exact ⟨k1, k2, k3, rz', .inr ⟨rfl, fun a' ea => by cases ea; exact r1.notup ha⟩⟩
  | str s =>
    unfold dIdx at e
    simp only at e
    split at e
    · obtain ⟨c, e1, rfl⟩ := Option.map_eq_some_iff.mp e
      obtain rfl := rStr r0
      refine .inr (.inr ⟨_, _, c, rfl, rfl, by assumption, e1, q _ (val_child h fun fp r => ?_)⟩)
      simp only [Rep] at r
      exact ⟨[], [], [], rep_str, .inr ⟨r.2, fun a' ea => nomatch ea⟩⟩
    · cases e
  | _ => cases e
end
section
variable {X : Cx} {LL : List Nat} {Γ : List Kd} {pos : Pos} {a b : Expr} {sa sb : Ev} {ma mb : Md}
theorem dIdx_int {d0 x d : D} (e : dIdx [d0, x] = some d) : ∃ i, x = .int i := by
  unfold dIdx at e
  split at e <;> first | (rename_i h; cases h; exact ⟨_, rfl⟩) | cases e
theorem ex_idx (ha : EX X LL Γ a sa ma) (hb : EX X LL Γ b sb mb) (hs : PlainIx b := by exact fun _ _ => rfl) : EX X LL Γ (.Subscript a b pos) (eP dIdx (aCons sa (aCons sb aNil))) ma.child := by
  obtain ⟨ta, tb, pa, pb, k⟩ := two ha hb
  refine ⟨_, pe_ix ix_seq pa pb hs, fun P g ρ σ H d Q s e q => ?_⟩
  obtain ⟨ds, e1, e⟩ := bind_some e
  refine k P g ρ σ H ds _ s e1 fun d1 d2 v w H' eds x va vb vl => ?_
  subst eds
  obtain ⟨i, rfl⟩ := dIdx_int e
  obtain ⟨fp, rw', _⟩ := vb.unroot
  obtain rfl := rInt rw'
  exact dIdx_child rfl va e fun v2 w2 => q v2 H' x w2
/-- the item is flat -/
theorem ex_idxF (ha : EX X LL Γ a sa ma) (hb : EX X LL Γ b sb mb) (hs : PlainIx b := by exact fun _ _ => rfl) : EX X LL Γ (.Subscript a b pos) (eChk D.isFlat (eP dIdx (aCons sa (aCons sb aNil)))) .flat := ex_flat (ex_idx ha hb hs)
end
end VV

/-! ## VEq -/
namespace VV
open PySem PySem.Spec PyProof.Rows L2
mutual
def D.toP : D → PyData
  | .non => .none
  | .bl b => .bool b
  | .int i => .int i
  | .str s => .str s
  | .tup l => .tuple (D.toPL l)
  | .lst l => .list (D.toPL l)
  | .scr l => .list (D.toPL l)
  | _ => .dict []
def D.toPL : List D → List PyData
  | [] => []
  | d :: r => d.toP :: D.toPL r
end
mutual
theorem Rep.dp {mg : Mg} {H : Hp} : ∀ {d : D} {v : V} {fp : List Addr}, Rep mg H d v fp → d.toP.canLay0 = true → Dp mg.K H v d.toP
  | .non, _, _, h, _ => by simp only [Rep] at h; rw [h.1]; exact .non
  | .bl b, _, _, h, _ => by simp only [Rep] at h; rw [h.1]; exact .bl b
  | .int i, _, _, h, _ => by simp only [Rep] at h; rw [h.1]; exact .int i
  | .str s, _, _, h, _ => by simp only [Rep] at h; rw [h.1]; exact .str s
  | .tup l, _, _, h, c => by
    simp only [Rep] at h
    obtain ⟨a, vs, rfl, r, h2⟩ := h
    simp only [D.toP, PyData.canLay0] at c ⊢
    exact .tup (.inl r) (RepL.dp h2 c)
  | .lst l, _, _, h, c => by
    simp only [Rep] at h
    obtain ⟨a, vs, f, rfl, r, h2, _⟩ := h
    simp only [D.toP, PyData.canLay0] at c ⊢
    exact .lst (SqL.of r) (RepL.dp h2 c)
  | .scr l, _, _, h, c => by
    simp only [Rep] at h
    obtain ⟨a, vs, rfl, r, h2, _⟩ := h
    simp only [D.toP, PyData.canLay0] at c ⊢
    exact .lst r.sq (RepL.dp h2 c)
  | .dic _ _, _, _, _, c => by simp [D.toP, PyData.canLay0] at c
  | .obj _ _ _, _, _, _, c => by simp [D.toP, PyData.canLay0] at c
  | .fn _, _, _, _, c => by simp [D.toP, PyData.canLay0] at c
theorem RepL.dp {mg : Mg} {H : Hp} : ∀ {ds : List D} {vs : List V} {fp : List Addr}, RepL mg H ds vs fp → PyData.canLayAll0 (D.toPL ds) = true → DpAll mg.K H vs (D.toPL ds)
  | [], _, _, h, _ => by simp only [RepL] at h; rw [h.1]; exact .nil
  | d :: ds, _, _, h, c => by
    simp only [RepL] at h
    obtain ⟨v, r, f1, f2, rfl, h1, h2, _⟩ := h
    simp only [D.toPL, PyData.canLayAll0, Bool.and_eq_true] at c ⊢
    exact .cons (Rep.dp h1 c.1) (RepL.dp h2 c.2)
end
def D.eqv (a b : D) : Bool := PyData.eqv a.toP b.toP
def D.shd (a : D) : Bool := SeqAt.shaped a.toP
def dEq : List D → Option D
  | [a, b] => if a.shd && b.shd then some (.bl (a.eqv b)) else none
  | _ => none
def dNe : List D → Option D
  | [a, b] => if a.shd && b.shd then some (.bl (!a.eqv b)) else none
  | _ => none
section
variable {X : Cx}
theorem cp_eq : CP X (r2 (rEqD X.K)) dEq toFlat := by
  intro P LL g H H1 m ds vs d Q l x vl e q
  obtain ⟨fp, r⟩ := vl.rep
  unfold dEq at e
  split at e
  · split at e
    · cases e
      rename_i h
      rw [Bool.and_eq_true] at h
      obtain ⟨v, w, f1, f2, rfl, h1, h2, _⟩ := repL2 r
      exact ⟨v, w, rfl, _, _, h1.dp (SeqAt.canLay_of_shaped h.1), h2.dp (SeqAt.canLay_of_shaped h.2), h.1, h.2, q _ H1 Ext.refl (val_flat rep_bl)⟩
    · cases e
  · cases e
theorem cp_ne : CP X (r2 (rNeD X.K)) dNe toFlat := by
  intro P LL g H H1 m ds vs d Q l x vl e q
  obtain ⟨fp, r⟩ := vl.rep
  unfold dNe at e
  split at e
  · split at e
    · cases e
      rename_i h
      rw [Bool.and_eq_true] at h
      obtain ⟨v, w, f1, f2, rfl, h1, h2, _⟩ := repL2 r
      exact ⟨v, w, rfl, _, _, h1.dp (SeqAt.canLay_of_shaped h.1), h2.dp (SeqAt.canLay_of_shaped h.2), h.1, h.2, q _ H1 Ext.refl (val_flat rep_bl)⟩
    · cases e
  · cases e
def D.isNon : D → Bool
  | .non => true
  | _ => false
def dIsN : List D → Option D
  | [d, .non] => some (.bl d.isNon)
  | _ => none
def dNotN : List D → Option D
  | [d, .non] => some (.bl (!d.isNon))
  | _ => none
theorem rep_non_iff {mg : Mg} {H : Hp} {d : D} {v : V} {fp : List Addr} (h : Rep mg H d v fp) : decide (v = .non) = d.isNon := by
  cases d <;> simp only [Rep] at h
  case non => rw [h.1]; rfl
  case bl => rw [h.1]; rfl
  case int => rw [h.1]; rfl
  case str => rw [h.1]; rfl
  case fn => obtain ⟨⟨a, rfl, _⟩, _⟩ := h; rfl
  case tup => obtain ⟨a, _, rfl, _⟩ := h; rfl
  case lst => obtain ⟨a, _, _, rfl, _⟩ := h; rfl
  case scr => obtain ⟨a, _, rfl, _⟩ := h; rfl
  case dic => obtain ⟨a, _, _, rfl, _⟩ := h; rfl
  case obj => obtain ⟨a, _, _, _, _, rfl, _⟩ := h; rfl
theorem cp_isN : CP X (r2 (fun x y H Q => y = .non ∧ Q (.bl (decide (x = .non))) H)) dIsN toFlat := by
  intro P LL g H H1 m ds vs d Q l x vl e q
  obtain ⟨fp, r⟩ := vl.rep
  unfold dIsN at e
  split at e
  · obtain ⟨v, w, f1, f2, rfl, h1, h2, _⟩ := repL2 r
    refine ⟨v, w, rfl, rNon h2, ?_⟩
    rw [rep_non_iff h1]
    cases e
    exact q _ H1 Ext.refl (val_flat rep_bl)
  · cases e
theorem cp_notN : CP X (r2 (fun x y H Q => y = .non ∧ Q (.bl (!decide (x = .non))) H)) dNotN toFlat := by
  intro P LL g H H1 m ds vs d Q l x vl e q
  obtain ⟨fp, r⟩ := vl.rep
  unfold dNotN at e
  split at e
  · obtain ⟨v, w, f1, f2, rfl, h1, h2, _⟩ := repL2 r
    refine ⟨v, w, rfl, rNon h2, ?_⟩
    rw [rep_non_iff h1]
    cases e
    exact q _ H1 Ext.refl (val_flat rep_bl)
  · cases e
end
section
variable {X : Cx} {LL : List Nat} {Γ : List Kd} {pos : Pos} {a b : Expr} {sa sb : Ev} {ma mb : Md}
theorem ex_eq (hu : X.A.units + 64 < cLine) (ha : EX X LL Γ a sa ma) (hb : EX X LL Γ b sb mb) : EX X LL Γ (.Compare a [.Eq] [b] pos) (eP dEq (aCons sa (aCons sb aNil))) .flat := ex_cmp (op_eqD hu) cp_eq ha hb (nomark _)
theorem ex_ne (hu : X.A.units + 64 < cLine) (ha : EX X LL Γ a sa ma) (hb : EX X LL Γ b sb mb) : EX X LL Γ (.Compare a [.NotEq] [b] pos) (eP dNe (aCons sa (aCons sb aNil))) .flat := ex_cmp (op_neD hu) cp_ne ha hb (nomark _)
theorem et_eq (hu : X.A.units + 64 < cLine) (ha : EX X LL Γ a sa ma) (hb : EX X LL Γ b sb mb) : ET X LL Γ (.Compare a [.Eq] [b] pos) (tOf (eP dEq (aCons sa (aCons sb aNil)))) := et_cmp (op_eqD hu) cp_eq ha hb (nomark _)
theorem et_ne (hu : X.A.units + 64 < cLine) (ha : EX X LL Γ a sa ma) (hb : EX X LL Γ b sb mb) : ET X LL Γ (.Compare a [.NotEq] [b] pos) (tOf (eP dNe (aCons sa (aCons sb aNil)))) := et_cmp (op_neD hu) cp_ne ha hb (nomark _)
theorem et_isN (ha : EX X LL Γ a sa ma) (hb : EX X LL Γ b sb mb) : ET X LL Γ (.Compare a [.Is] [b] pos) (tOf (eP dIsN (aCons sa (aCons sb aNil)))) := et_cmp op_isN cp_isN ha hb (nomark _)
theorem et_notN (ha : EX X LL Γ a sa ma) (hb : EX X LL Γ b sb mb) : ET X LL Γ (.Compare a [.IsNot] [b] pos) (tOf (eP dNotN (aCons sa (aCons sb aNil)))) := et_cmp op_notN cp_notN ha hb (nomark _)
end
end VV

/-! ## VStmt -/
namespace VV
open PySem PySem.Spec PyProof.Rows L2

inductive Out where
  | nx (ρ : List D) | ct (ρ : List D) | rt (d : D) | ex (c : Str) (ρ : List D)
/-- what a def hands back -/
inductive Rm where
  | flat | fresh | out
  deriving DecidableEq
inductive Res where
  | ret (d : D) | exn (c : Str)

structure Step (LL : List Nat) (g : Addr → Nat) (H : Hp) (g' : Addr → Nat) (H' : Hp) : Prop where
  kp : ∀ a, lk LL (g a) → ∀ u, H a = some u → H' a = some u
  lk : ∀ a, H a ≠ none → lk LL (g a) → g' a = g a
  th : ∀ a, H a ≠ none → H' a ≠ none
theorem Step.refl {LL : List Nat} {g : Addr → Nat} {H : Hp} : Step LL g H g H := ⟨fun _ _ _ h => h, fun _ _ _ => rfl, fun _ h => h⟩
theorem Step.trans {LL : List Nat} {g g1 g2 : Addr → Nat} {H H1 H2 : Hp} (a : Step LL g H g1 H1) (b : Step LL g1 H1 g2 H2) : Step LL g H g2 H2 where
  kp c h u e := b.kp c (by rw [a.lk c (by rw [e]; simp) h]; exact h) u (a.kp c h u e)
  lk c e h := (b.lk c (a.th c e) (by rw [a.lk c e h]; exact h)).trans (a.lk c e h)
  th c e := b.th c (a.th c e)
theorem Step.ext {LL : List Nat} {g : Addr → Nat} {H H' : Hp} (e : Ext H H') : Step LL g H g H' := ⟨fun a _ u h => e a u h, fun _ _ _ => rfl, fun a h z => h (e.nope z)⟩

def RV (mg : Mg) (P : Fm) (g : Addr → Nat) (H : Hp) : Rm → D → V → Prop
  | .flat, d, v => Rep mg H d v []
  | .fresh, d, v => ∃ fp, Rep mg H d v fp ∧ fp.Nodup ∧ ∀ a ∈ fp, g a ≠ 0
  | .out, d, v => ∃ fp, Rep mg H d v fp ∧ ∀ a ∈ fp, g a ≠ 0 ∨ P.out a

/-- what is fixed through a def's body: the locked labels, what it returns, what stands at a continue and at an exception -/
structure Sc where
  LL : List Nat
  R : Rm
  Γc : List Kd
  Γx : List Kd

def WantS (X : Cx) (W : L2.WX) (sc : Sc) (P : Fm) (Γ' : List Kd) (g : Addr → Nat) (H : Hp) (D : Ends) : Out → Prop
  | .nx ρ' => ∀ g' σ' H', Step sc.LL g H g' H' → Sta X.vm P sc.LL Γ' g' ρ' σ' H' → D.nx σ' H'
  | .ct ρ' => ∀ g' σ' H', Step sc.LL g H g' H' → Sta X.vm P sc.LL sc.Γc g' ρ' σ' H' → D.ct σ' H'
  | .rt d => ∀ v g' H', Step sc.LL g H g' H' → Loc P sc.LL g' H' → RV X.vm P g' H' sc.R d v → D.rt v H'
  | .ex c ρ' => ∀ C g' σ' H', X.mg c = some (.ref C) → Step sc.LL g H g' H' → Sta X.vm P sc.LL sc.Γx g' ρ' σ' H' → W (.ref C) none σ' H'

abbrev Sv := List D → Option Out
def SX (X : Cx) (W : L2.WX) (sc : Sc) (Γ : List Kd) (st : Stmt) (sem : Sv) (Γ' : List Kd) : Prop :=
  ∃ t, PS X st t ∧ ∀ P g ρ σ H o D, Sta X.vm P sc.LL Γ g ρ σ H → sem ρ = some o → WantS X W sc P Γ' g H D o → t D σ H
def SS (X : Cx) (W : L2.WX) (sc : Sc) (Γ : List Kd) (st : List Stmt) (sem : Sv) (Γ' : List Kd) : Prop :=
  ∃ t, PSs X st t ∧ ∀ P g ρ σ H o D, Sta X.vm P sc.LL Γ g ρ σ H → sem ρ = some o → WantS X W sc P Γ' g H D o → t D σ H

def sNil : Sv := fun ρ => some (.nx ρ)
def sSeq (a b : Sv) : Sv := fun ρ => match a ρ with
  | some (.nx ρ') => b ρ'
  | o => o
def sPass : Sv := fun ρ => some (.nx ρ)
def sCont : Sv := fun ρ => some (.ct ρ)
def sRet (e : Ev) : Sv := fun ρ => do some (.rt (← e ρ))
def sSet (i : Nat) (e : Ev) : Sv := fun ρ => do some (.nx (ρ.set i (← e ρ)))
def sIf (c : List D → Option Bool) (a b : Sv) : Sv := fun ρ => do if (← c ρ) then a ρ else b ρ
def sNever : Sv := fun _ => none

theorem WantS.from {X : Cx} {W : L2.WX} {sc : Sc} {P : Fm} {Γ' : List Kd} {g g1 : Addr → Nat} {H H1 : Hp} {D : Ends} {o : Out} (h : WantS X W sc P Γ' g H D o) (s : Step sc.LL g H g1 H1) : WantS X W sc P Γ' g1 H1 D o := by
  cases o with
  | nx ρ' => exact fun g' σ' H' s' st => h g' σ' H' (s.trans s') st
  | ct ρ' => exact fun g' σ' H' s' st => h g' σ' H' (s.trans s') st
  | rt d => exact fun v g' H' s' l r => h v g' H' (s.trans s') l r
  | ex c ρ' => exact fun C g' σ' H' m s' st => h C g' σ' H' m (s.trans s') st

section
variable {X : Cx} {W : L2.WX} {sc : Sc} {Γ Γ' Γ1 : List Kd} {pos : Pos}
theorem ss_nil : SS X W sc Γ [] sNil Γ := ⟨_, pss_nil, fun P g ρ σ H o D s e w => by cases e; exact w g σ H .refl s⟩
theorem ss_cons {st : Stmt} {rest : List Stmt} {a b : Sv} (h : SX X W sc Γ st a Γ1) (h' : SS X W sc Γ1 rest b Γ') : SS X W sc Γ (st :: rest) (sSeq a b) Γ' := by
  obtain ⟨t, p, k⟩ := h
  obtain ⟨u, p', k'⟩ := h'
  refine ⟨_, pss_cons p p', fun P g ρ σ H o D s e w => ?_⟩
  unfold sSeq at e
  cases ea : a ρ with
  | none => rw [ea] at e; cases e
  | some o1 =>
    rw [ea] at e
    cases o1 with
    | nx ρ' => exact k P g ρ σ H _ { D with nx := u D } s ea fun g' σ' H' s' st => k' P g' ρ' σ' H' o D st e (w.from s')
    | ct ρ' => cases e; exact k P g ρ σ H _ { D with nx := u D } s ea w
    | rt d => cases e; exact k P g ρ σ H _ { D with nx := u D } s ea w
    | ex c ρ' => cases e; exact k P g ρ σ H _ { D with nx := u D } s ea w
theorem ss_one {st : Stmt} {a : Sv} (h : SX X W sc Γ st a Γ') : SS X W sc Γ [st] a Γ' := by
  obtain ⟨t, p, k⟩ := h
  exact ⟨_, pss_one p, k⟩
theorem sx_pass : SX X W sc Γ (.Pass pos) sPass Γ := ⟨_, ps_pass, fun P g ρ σ H o D s e w => by cases e; exact w g σ H .refl s⟩
theorem sx_cont (h : sc.Γc = Γ) : SX X W sc Γ (.Continue pos) sCont Γ' := ⟨_, ps_continue, fun P g ρ σ H o D s e w => by cases e; exact w g σ H .refl (by rw [h]; exact s)⟩
theorem sx_never {st : Stmt} : SX X W sc Γ st sNever Γ' := ⟨_, ps_never, fun P g ρ σ H o D s e w => by cases e⟩
theorem sx_doc {x j pos'} : SX X W sc Γ (.Expr (.Constant (.str x) j pos) pos') sPass Γ := ⟨_, ps_doc, fun P g ρ σ H o D s e w => by cases e; exact w g σ H .refl s⟩

/-! ### labels for what is new -/
open Classical in
noncomputable def relab (g : Addr → Nat) (H H' : Hp) (v : V) (n m : Nat) : Addr → Nat := fun a => if New H H' a then (if v = .ref a then n else m) else g a
theorem relab_new {g : Addr → Nat} {H H' : Hp} {v : V} {n m : Nat} {a : Addr} (h : New H H' a) : relab g H H' v n m a = if v = .ref a then n else m := by
  unfold relab; rw [if_pos h]
theorem relab_old {g : Addr → Nat} {H H' : Hp} {v : V} {n m : Nat} {a : Addr} (h : H a ≠ none) : relab g H H' v n m a = g a := by
  unfold relab; rw [if_neg fun z => h z.1]
section
variable {mg : Mg} {P : Fm} {LL : List Nat} {g : Addr → Nat} {ρ : List D} {σ : L2.St} {H H' : Hp} {v : V} {n m : Nat}
theorem Old.relab {L : List Nat} {a : Addr} (o : Old P g L a) (l : Loc P LL g H) : Old P (relab g H H' v n m) L a := by
  unfold Old
  rw [relab_old (o.there l)]
  exact o
theorem Loc.relab (l : Loc P LL g H) (e : Ext H H') : Loc P LL (relab g H H' v n m) H' := by
  refine ⟨fun a h => ?_, (l.ext e).out, fun a h => ?_⟩
  rotate_left
  · have := l.fz a h
    exact ⟨fun z => this.1 (e.nope z), by rw [relab_old this.1]; exact this.2⟩
  by_cases hn : New H H' a
  · obtain ⟨h1, h2⟩ := hn
    cases q : H' a with
    | none => rw [q] at h2; exact h2.elim
    | some o => rw [q] at h2; exact ⟨o, rfl, .inl h2⟩
  · by_cases h0 : H a = none
    · unfold VV.relab at h
      rw [if_neg hn] at h
      obtain ⟨o, e1, _⟩ := l.at_ a h
      rw [h0] at e1; cases e1
    · rw [relab_old h0] at h
      exact (l.ext e).at_ a h
theorem CellOk.relab {k : Kd} {d : D} {ov : Option V} (c : CellOk mg P g H k d ov) (l : Loc P LL g H) (e : Ext H H') : CellOk mg P (relab g H H' v n m) H' k d ov := by
  cases k with
  | dead => trivial
  | flat => obtain ⟨v, rfl, r⟩ := c; exact ⟨v, rfl, r.ext e⟩
  | lab rt L nd =>
    obtain ⟨w, fp, rfl, r, o, z⟩ := c
    refine ⟨w, fp, rfl, r.ext e, fun a ha => ?_, z⟩
    rcases o a ha with ⟨x, k, y, o'⟩ | ⟨x, o'⟩
    · exact .inl ⟨x, k, y, o'.relab l⟩
    · exact .inr ⟨x, o'.relab l⟩
theorem Cells.relab (l : Loc P LL g H) (e : Ext H H') : ∀ {Γ : List Kd} {ρ : List D} {σ : L2.St}, Cells mg P g H Γ ρ σ → Cells mg P (relab g H H' v n m) H' Γ ρ σ
  | [], [], [], _ => trivial
  | _ :: _, _ :: _, _ :: _, h => ⟨h.1.relab l e, Cells.relab l e h.2⟩
  | [], _ :: _, _, h => h.elim
  | [], [], _ :: _, h => h.elim
  | _ :: _, [], _, h => h.elim
  | _ :: _, _ :: _, [], h => h.elim
theorem Sta.relab {Γ : List Kd} (s : Sta mg P LL Γ g ρ σ H) (e : Ext H H') : Sta mg P LL Γ (relab g H H' v n m) ρ σ H' := ⟨s.loc.relab e, s.cells.relab s.loc e⟩
theorem Step.relab (e : Ext H H') : Step LL g H (relab g H H' v n m) H' := ⟨fun a _ u h => e a u h, fun a h x => relab_old h, fun a h z => h (e.nope z)⟩
end
/-- the kind of a slot that holds a result -/
def Md.kind (n m : Nat) : Md → Kd
  | .flat => .flat
  | .al fr rt L nd => .lab (match rt with | .new => some n | .old k => some k | .unk => none) (if fr then (match rt with | .unk => n :: m :: L | _ => m :: L) else L) nd
theorem Val.cell {mg : Mg} {P : Fm} {LL : List Nat} {g : Addr → Nat} {H H' : Hp} {m : Md} {d : D} {v : V} {n k : Nat} (h : Val mg P g H H' m d v) (l : Loc P LL g H) (h1 : n ≠ 0) (h2 : k ≠ 0) :
    CellOk mg P (relab g H H' v n k) H' (m.kind n k) d (some v) := by
  cases m with
  | flat => exact ⟨v, rfl, h⟩
  | al fr rt L nd =>
    obtain ⟨fp, r, o, z⟩ := h
    refine ⟨v, fp, rfl, r, fun a ha => ?_, by cases rt <;> exact z⟩
    have newOld : ∀ {K : List Nat}, New H H' a → (v = .ref a → n ∈ K) → (v ≠ .ref a → k ∈ K) → Old P (relab g H H' v n k) K a := fun {K} hn a1 a2 => by
      unfold Old
      rw [relab_new hn]
      split
      · rename_i e; exact ⟨a1 e, fun z => absurd z h1⟩
      · rename_i e; exact ⟨a2 e, fun z => absurd z h2⟩
    rcases o a ha with ⟨e, y⟩ | ⟨e, ⟨f, y⟩ | y⟩
    · cases rt with
      | new => exact .inl ⟨e, n, rfl, newOld y (fun _ => List.mem_cons_self) fun z => absurd e z⟩
      | old q => exact .inl ⟨e, q, rfl, Old.relab y l⟩
      | unk => exact y.elim
    · subst f
      refine .inr ⟨?_, ?_⟩
      · rcases e with e | rfl
        · exact .inl e
        · exact .inr rfl
      · cases rt with
        | new => exact newOld y (fun z => by rcases e with e | e; exact absurd z e; cases e) fun _ => List.mem_cons_self
        | old q => exact newOld y (fun z => by rcases e with e | e; exact absurd z e; cases e) fun _ => List.mem_cons_self
        | unk => exact newOld y (fun _ => List.mem_cons_self) fun _ => List.mem_cons_of_mem _ List.mem_cons_self
    · refine .inr ⟨?_, ?_⟩
      · rcases e with e | rfl
        · exact .inl e
        · exact .inr rfl
      · have y' : Old P (relab g H H' v n k) L a := Old.relab y l
        refine ⟨?_, y'.2⟩
        cases fr with
        | false => exact y'.1
        | true =>
          cases rt with
          | new => exact List.mem_cons_of_mem _ y'.1
          | old q => exact List.mem_cons_of_mem _ y'.1
          | unk => exact List.mem_cons_of_mem _ (List.mem_cons_of_mem _ y'.1)
theorem Cells.set {mg : Mg} {P : Fm} {g : Addr → Nat} {H : Hp} {k : Kd} {d : D} {v : V} : ∀ {Γ : List Kd} {ρ : List D} {σ : L2.St} (i : Nat), Cells mg P g H Γ ρ σ → CellOk mg P g H k d (some v) → Cells mg P g H (Γ.set i k) (ρ.set i d) (σ.set i (some v))
  | [], [], [], _, _, _ => trivial
  | _ :: _, _ :: _, _ :: _, 0, h, c => ⟨c, h.2⟩
  | _ :: _, _ :: _, _ :: _, i + 1, h, c => ⟨h.1, Cells.set i h.2 c⟩
  | [], _ :: _, _, _, h, _ => h.elim
  | [], [], _ :: _, _, h, _ => h.elim
  | _ :: _, [], _, _, h, _ => h.elim
  | _ :: _, _ :: _, [], _, h, _ => h.elim

theorem sx_set {i : Nat} {x : Str} {e : Expr} {se : Ev} {m : Md} {pos' : Pos} (n k : Nat) (hN : X.N.Nodup) (hi : X.N[i]? = some x) (hx : L2.Loc X.env.scope x) (he : EX X sc.LL Γ e se m)
    (hs : swapsWith e (some (.Name x pos')) pos.line X.env = pure false := by rfl) (hf : X.fn x = true ∨ X.env.scope.names.lookup x = some .local := by first | exact .inl rfl | exact .inr rfl | assumption)
    (h1 : n ≠ 0 := by decide) (h2 : k ≠ 0 := by decide) : SX X W sc Γ (.Assign [.Name x pos'] e pos) (sSet i se) (Γ.set i (m.kind n k)) := by
  obtain ⟨t, p, kk⟩ := he
  refine ⟨_, ps_set hN hi hx p hs hf, fun P g ρ σ H o D s e w => ?_⟩
  obtain ⟨d, e1, e⟩ := bind_some e
  cases e
  refine kk P g ρ σ H d _ s e1 fun v H' x vl => ?_
  exact w (relab g H H' v n k) _ H' (.relab x) ⟨s.loc.relab x, Cells.set i (s.cells.relab s.loc x) (vl.cell s.loc h1 h2)⟩

theorem wipe_get (σ : L2.St) (j : Nat) : ∀ vs : List Nat, (wipe σ vs)[j]? = if j ∈ vs then σ[j]?.map (fun _ => none) else σ[j]?
  | [] => by simp [wipe]
  | v :: vs => by
    unfold wipe
    rw [List.getElem?_set, wipe_length, wipe_get σ j vs]
    by_cases e : v = j
    · subst e
      simp only [if_true, List.mem_cons_self]
      by_cases h : v < σ.length
      · simp [h]
      · simp [h]
    · rw [if_neg e]
      have : (j ∈ v :: vs) ↔ j ∈ vs := by simp [Ne.symm e]
      simp only [this]
theorem wipe_set {σ : L2.St} {i : Nat} {x : Option V} {vs : List Nat} (h : i ∈ vs) : wipe (σ.set i x) vs = wipe σ vs := by
  apply List.ext_getElem?
  intro j
  rw [wipe_get, wipe_get, List.getElem?_set]
  by_cases e : i = j
  · subst e
    rw [if_pos h, if_pos h, if_pos rfl]
    by_cases hl : i < σ.length
    · simp [hl]
    · simp [hl]
  · rw [if_neg e]
def Wp (S : List Nat) (σ σ' : L2.St) : Prop := ∀ vs : List Nat, (∀ i ∈ S, i ∈ vs) → wipe σ' vs = wipe σ vs
/-! ### targets -/
abbrev Tv := D → List D → Option (List D)
def EG (X : Cx) (Γ : List Kd) (tg : Expr) (k : Kd) (sem : Tv) (Γ' : List Kd) (S : List Nat) : Prop :=
  ∃ t, PG X tg t ∧ ∀ P LL g ρ σ H d v ρ' (Q : L2.St → Hp → Prop), Sta X.vm P LL Γ g ρ σ H → CellOk X.vm P g H k d (some v) → sem d ρ = some ρ' → (∀ σ', Sta X.vm P LL Γ' g ρ' σ' H → Wp S σ σ' → Q σ' H) → t v σ H Q
def EGs (X : Cx) (Γ : List Kd) (tgs : List Expr) (k : Kd) (sem : List D → List D → Option (List D)) (Γ' : List Kd) (S : List Nat) : Prop :=
  (∀ ds ρ ρ', sem ds ρ = some ρ' → ds.length = tgs.length) ∧ ∃ t, PGs X tgs t ∧ ∀ P LL g ρ σ H (ds : List D) (vs : List V) ρ' (Q : L2.St → Hp → Prop), Sta X.vm P LL Γ g ρ σ H → (∀ (i : Nat) (d : D) (v : V), ds[i]? = some d → vs[i]? = some v → CellOk X.vm P g H k d (some v)) → vs.length = ds.length → sem ds ρ = some ρ' →
    (∀ σ', Sta X.vm P LL Γ' g ρ' σ' H → Wp S σ σ' → Q σ' H) → t vs σ H Q
def gN (i : Nat) : Tv := fun d ρ => some (ρ.set i d)
def gF (t : Tv) : Tv := fun d ρ => if d.isFlat then t d ρ else none
def gT (ts : List D → List D → Option (List D)) : Tv := fun d ρ => match d with
  | .tup l => ts l ρ
  | _ => none
def gsNil : List D → List D → Option (List D) := fun ds ρ => match ds with
  | [] => some ρ
  | _ => none
def gsCons (t : Tv) (ts : List D → List D → Option (List D)) : List D → List D → Option (List D) := fun ds ρ => match ds with
  | d :: r => do ts r (← t d ρ)
  | [] => none
theorem eg_name {i : Nat} {x : Str} {k : Kd} (hN : X.N.Nodup) (hi : X.N[i]? = some x) (hx : L2.Loc X.env.scope x) (hf : X.fn x = true ∨ X.env.scope.names.lookup x = some .local := by first | exact .inl rfl | exact .inr rfl | assumption) : EG X Γ (.Name x pos) k (gN i) (Γ.set i k) [i] :=
  ⟨_, pg_name hN hi hx hf, fun P LL g ρ σ H d v ρ' Q s c e q => by cases e; exact q _ ⟨s.loc, Cells.set i s.cells c⟩ fun vs h => wipe_set (h i List.mem_cons_self)⟩
theorem eg_flat {tg : Expr} {k : Kd} {t : Tv} {S : List Nat} (h : EG X Γ tg .flat t Γ' S) (hk : k ≠ .dead := by decide) : EG X Γ tg k (gF t) Γ' S := by
  obtain ⟨u, p, kk⟩ := h
  refine ⟨u, p, fun P LL g ρ σ H d v ρ' Q s c e q => ?_⟩
  unfold gF at e
  split at e
  · rename_i hfl
    refine kk P LL g ρ σ H d v ρ' Q s ?_ e q
    cases k with
    | dead => exact absurd rfl hk
    | flat => exact c
    | lab rt L nd =>
      obtain ⟨w, fp, ew, r, _⟩ := c
      cases ew
      rw [r.flat hfl] at r
      exact ⟨v, rfl, r⟩
  · cases e
def Kd.tupChild : Kd → Kd
  | .lab _ L nd => .lab none L nd
  | k => k
theorem rd_tup_inj {H : Hp} {a : Addr} {xs ys : List V} (r : Rd H a (.tup xs)) (q : Rd H a (.tup ys)) : xs = ys := by
  rcases r with r | ⟨o, r⟩ <;> rcases q with q | ⟨o', q⟩ <;> rw [r] at q <;> cases q <;> rfl
theorem cell_tup {mg : Mg} {P : Fm} {g : Addr → Nat} {H : Hp} {k : Kd} {ds : List D} {v : V} (c : CellOk mg P g H k (.tup ds) (some v)) (hk : k ≠ .dead) :
    ∃ a vs, v = .ref a ∧ Rd H a (.tup vs) ∧ vs.length = ds.length ∧ ∀ (i : Nat) (d : D) (w : V), ds[i]? = some d → vs[i]? = some w → CellOk mg P g H k.tupChild d (some w) := by
  cases k with
  | dead => exact absurd rfl hk
  | flat =>
    obtain ⟨v', e, r⟩ := c
    cases e
    simp only [Rep] at r
    obtain ⟨a, vs, rfl, r1, r2⟩ := r
    refine ⟨a, vs, rfl, r1, r2.length, fun i d w e1 e2 => ?_⟩
    obtain ⟨w', f1, f, f2, e3, r3, e4⟩ := r2.get e1
    rw [e2] at e3; cases e3
    have : f = [] := by
      have := congrArg List.length e4
      simp at this
      exact List.eq_nil_of_length_eq_zero (by omega)
    subst this
    exact ⟨w, rfl, r3⟩
  | lab rt L nd =>
    obtain ⟨v', fp, e, r, o, z⟩ := c
    cases e
    have r0 := r
    simp only [Rep] at r
    obtain ⟨a, vs, rfl, r1, r2⟩ := r
    refine ⟨a, vs, rfl, r1, r2.length, fun i d w e1 e2 => ?_⟩
    obtain ⟨w', f1, f, f2, e3, r3, rfl⟩ := r2.get e1
    rw [e2] at e3; cases e3
    refine ⟨w, f, rfl, r3, fun b hb => ?_, .unk fun hn => ?_⟩
    · rcases o b (List.mem_append_left _ (List.mem_append_right _ hb)) with ⟨x, _⟩ | ⟨_, x⟩
      · cases x
        exact absurd (List.mem_append_left _ (List.mem_append_right _ hb)) (r0.notup r1)
      · exact .inr ⟨.inr rfl, x⟩
    · exact (List.nodup_append.mp (List.nodup_append.mp (z.1 hn)).1).2.1
theorem egs_nil {k : Kd} : EGs X Γ [] k gsNil Γ [] := by
  refine ⟨fun ds ρ ρ' e => ?_, _, pgs_nil, fun P LL g ρ σ H ds vs ρ' Q s c hl e q => ?_⟩
  · cases ds with
    | nil => rfl
    | cons => cases e
  · cases ds with
    | nil => cases e; exact ⟨List.eq_nil_of_length_eq_zero hl, q σ s fun _ _ => rfl⟩
    | cons => cases e
theorem egs_cons {tg : Expr} {tgs : List Expr} {k : Kd} {t : Tv} {ts : List D → List D → Option (List D)} {S S' : List Nat} (h : EG X Γ tg k t Γ1 S) (h' : EGs X Γ1 tgs k ts Γ' S')
    (hs : (assignEach (tg :: tgs) X.env).map (·.2) = assign tg X.env :: (assignEach tgs X.env).map (·.2) := by rfl) : EGs X Γ (tg :: tgs) k (gsCons t ts) Γ' (S ++ S') := by
  obtain ⟨u, p, kk⟩ := h
  obtain ⟨hl, u', p', kk'⟩ := h'
  refine ⟨fun ds ρ ρ' e => ?_, _, pgs_cons p p' hs, fun P LL g ρ σ H ds vs ρ' Q s c hlen e q => ?_⟩
  · cases ds with
    | nil => cases e
    | cons d r =>
      obtain ⟨ρ1, e1, e2⟩ := bind_some e
      simp [hl r ρ1 ρ' e2]
  · cases ds with
    | nil => cases e
    | cons d r =>
      obtain ⟨ρ1, e1, e2⟩ := bind_some e
      cases vs with
      | nil => cases hlen
      | cons v vr =>
        refine ⟨v, vr, rfl, kk P LL g ρ σ H d v ρ1 _ s (c 0 d v rfl rfl) e1 fun σ' s' w1 => ?_⟩
        exact kk' P LL g ρ1 σ' H r vr ρ' Q s' (fun i d' v' h1 h2 => c (i + 1) d' v' (by simpa using h1) (by simpa using h2)) (by simpa using hlen) e2 fun σ2 s2 w2 => q σ2 s2 fun vs hv =>
          (w2 vs fun i hi => hv i (List.mem_append_right _ hi)).trans (w1 vs fun i hi => hv i (List.mem_append_left _ hi))
theorem eg_tup {es : List Expr} {c : Nat} {k : Kd} {ts : List D → List D → Option (List D)} {S : List Nat} (hc : X.calm = true) (h : EGs X Γ es k.tupChild ts Γ' S) (hk : k ≠ .dead := by decide)
    (hst : (assignEach es X.env).findIdx? (·.1) = none := by rfl) (hn : (assignEach es X.env).length = es.length := by rfl) : EG X Γ (.Tuple es c pos) k (gT ts) Γ' S := by
  obtain ⟨hl, u, p, kk⟩ := h
  refine ⟨_, pg_tup hc p hn hst, fun P LL g ρ σ H d v ρ' Q s cc e q => ?_⟩
  cases d with
  | tup ds =>
    obtain ⟨a, vs, rfl, r, hlen, hcells⟩ := cell_tup cc hk
    exact ⟨a, vs, rfl, .inl r, by rw [hlen, hl ds ρ ρ' e], kk P LL g ρ σ H ds vs ρ' Q s hcells hlen e q⟩
  | _ => cases e
def sAsg (t : Tv) (e : Ev) : Sv := fun ρ => do some (.nx (← t (← e ρ) ρ))
theorem sx_asg {tg e : Expr} {se : Ev} {t : Tv} {m : Md} {S : List Nat} (n k : Nat) (he : EX X sc.LL Γ e se m) (hg : EG X Γ tg (m.kind n k) t Γ' S) (hs : swapsWithSole [tg] e pos.line X.env = pure false := by rfl) (hw : swappedStores [tg] e X.env = pure none := by rfl)
    (ha : (assignEach [tg] X.env).map (·.2) = [assign tg X.env] := by rfl) (h1 : n ≠ 0 := by decide) (h2 : k ≠ 0 := by decide) : SX X W sc Γ (.Assign [tg] e pos) (sAsg t se) Γ' := by
  obtain ⟨u, p, kk⟩ := he
  obtain ⟨u', p', kk'⟩ := hg
  refine ⟨_, ps_asg p p' hs hw ha, fun P g ρ σ H o D s e w => ?_⟩
  obtain ⟨d, e1, e⟩ := bind_some e
  obtain ⟨ρ', e2, e⟩ := bind_some e
  cases e
  refine kk P g ρ σ H d _ s e1 fun v H' x vl => ?_
  exact kk' P sc.LL (relab g H H' v n k) ρ σ H' d v ρ' D.nx (s.relab x) (vl.cell s.loc h1 h2) e2 fun σ' s' _ => w _ σ' H' (.relab x) s'
theorem sx_if {c : Expr} {a b : List Stmt} {s : List D → Option Bool} {sa sb : Sv} (hc : ET X sc.LL Γ c s) (ha : SS X W sc Γ a sa Γ') (hb : SS X W sc Γ b sb Γ') : SX X W sc Γ (.If c a b pos) (sIf s sa sb) Γ' := by
  obtain ⟨t, p, k⟩ := hc
  obtain ⟨ta, pa, ka⟩ := ha
  obtain ⟨tb, pb, kb⟩ := hb
  refine ⟨_, ps_if p pa pb, fun P g ρ σ H o D st e w => ?_⟩
  obtain ⟨c', e0, e⟩ := bind_some e
  refine k P g ρ σ H c' _ st e0 fun H' x => ?_
  cases c' with
  | true => exact iteT (ka P g ρ σ H' o D (st.ext x) (by simpa using e) (w.from (.ext x)))
  | false => exact iteF (kb P g ρ σ H' o D (st.ext x) (by simpa using e) (w.from (.ext x)))
/-- a result that may be handed back -/
def Md.ret : Md → Rm → Bool
  | .flat, _ => true
  | .al _ _ _ _, .flat => false
  | .al fr rt L nd, .fresh => nd && !L.contains 0 && (match rt with | .old 0 => false | _ => true)
  | .al _ _ _ _, .out => true
theorem sx_ret {e : Expr} {se : Ev} {m : Md} (he : EX X sc.LL Γ e se m) (hr : m.ret sc.R = true := by rfl) : SX X W sc Γ (.Return (some e) pos) (sRet se) Γ' := by
  obtain ⟨t, p, kk⟩ := he
  refine ⟨_, ps_ret p, fun P g ρ σ H o D s e w => ?_⟩
  obtain ⟨d, e1, e⟩ := bind_some e
  cases e
  refine kk P g ρ σ H d _ s e1 fun v H' x vl => ?_
  refine w v (relab g H H' v 1 1) H' (.relab x) (s.loc.relab x) ?_
  have c := vl.cell (n := 1) (k := 1) s.loc (by decide) (by decide)
  cases m with
  | flat =>
    have r : Rep X.vm H' d v [] := vl
    cases hR : sc.R with
    | flat => exact r
    | fresh => exact ⟨[], r, by simp, fun a ha => nomatch ha⟩
    | out => exact ⟨[], r, fun a ha => nomatch ha⟩
  | al fr rt L nd =>
    obtain ⟨fp, r, o, z⟩ := vl
    have lab : ∀ a ∈ fp, New H H' a ∨ (Old P g L a) ∨ (∃ n, rt = .old n ∧ Old P g [n] a) := fun a ha => by
      rcases o a ha with ⟨e, y⟩ | ⟨_, ⟨_, y⟩ | y⟩
      · cases rt with
        | new => exact .inl y
        | old n => exact .inr (.inr ⟨n, rfl, y⟩)
        | unk => exact y.elim
      · exact .inl y
      · exact .inr (.inl y)
    cases hR : sc.R with
    | flat => rw [hR] at hr; cases hr
    | fresh =>
      rw [hR] at hr
      simp only [Md.ret, Bool.and_eq_true] at hr
      obtain ⟨⟨h1, h2⟩, h3⟩ := hr
      refine ⟨fp, r, z.1 h1, fun a ha => ?_⟩
      rcases lab a ha with y | y | ⟨n, rfl, y⟩
      · rw [relab_new y]; split <;> decide
      · rw [relab_old (y.there s.loc)]
        intro e0
        have := y.1
        rw [e0] at this
        simp [this] at h2
      · rw [relab_old (y.there s.loc)]
        intro e0
        have := y.1
        rw [e0] at this
        rw [← List.mem_singleton.mp this] at h3
        cases h3
    | out =>
      refine ⟨fp, r, fun a ha => ?_⟩
      rcases lab a ha with y | y | ⟨n, rfl, y⟩
      · rw [relab_new y]; exact .inl (by split <;> decide)
      · rw [relab_old (y.there s.loc)]
        by_cases e0 : g a = 0
        · exact .inr (y.2 e0)
        · exact .inl e0
      · rw [relab_old (y.there s.loc)]
        by_cases e0 : g a = 0
        · exact .inr (y.2 e0)
        · exact .inl e0
def sRetN : Sv := fun _ => some (.rt .non)
theorem sx_retN : SX X W sc Γ (.Return none pos) sRetN Γ' := by
  refine ⟨_, ps_retN, fun P g ρ σ H o D s e w => ?_⟩
  cases e
  refine w .non g H .refl s.loc ?_
  have r : Rep X.vm H .non .non [] := rep_non
  cases hR : sc.R with
  | flat => exact r
  | fresh => exact ⟨[], r, by simp, fun a ha => nomatch ha⟩
  | out => exact ⟨[], r, fun a ha => nomatch ha⟩
end
end VV

/-! ## VFun -/
namespace VV
open PySem PySem.Spec PyProof.Rows L2

/-! ### fewer things known -/
def reL (m : List (Nat × Nat)) (n : Nat) : Nat := (m.lookup n).getD n
def Kd.le (m : List (Nat × Nat)) : Kd → Kd → Bool
  | _, .dead => true
  | .flat, .flat => true
  | .flat, .lab _ _ _ => true
  | .lab rt L nd, .lab rt' L' nd' => (match rt' with
      | some n => (match rt with | some k => reL m k == n | none => false) && L.all fun x => L'.contains (reL m x)
      | none => (match rt with | some k => L'.contains (reL m k) | none => true) && L.all fun x => L'.contains (reL m x)) && (!nd' || nd)
  | _, _ => false
def kdsLe (m : List (Nat × Nat)) : List Kd → List Kd → Bool
  | [], [] => true
  | k :: r, k' :: r' => k.le m k' && kdsLe m r r'
  | _, _ => false
def mapOk (LL : List Nat) (m : List (Nat × Nat)) : Bool := m.all fun p => p.1 != 0 && p.2 != 0 && !LL.contains p.1
section
variable {mg : Mg} {P : Fm} {LL : List Nat} {g : Addr → Nat} {ρ : List D} {σ : L2.St} {H : Hp} {m : List (Nat × Nat)}
theorem lookup_mem {α β : Type} [BEq α] [LawfulBEq α] {l : List (α × β)} {a : α} {b : β} (h : l.lookup a = some b) : (a, b) ∈ l := by
  induction l with
  | nil => cases h
  | cons p r ih =>
    obtain ⟨x, y⟩ := p
    rw [List.lookup_cons] at h
    split at h
    · rename_i e
      cases h
      rw [eq_of_beq e]
      exact List.mem_cons_self
    · exact List.mem_cons_of_mem _ (ih h)
theorem reL_ok (h : mapOk LL m = true) (n : Nat) : (reL m n = 0 ↔ n = 0) ∧ (n ∈ LL → reL m n = n) := by
  unfold reL
  cases e : m.lookup n with
  | none => simp
  | some k =>
    have := List.all_eq_true.mp h _ (lookup_mem e)
    simp only [Bool.and_eq_true, bne_iff_ne, ne_eq, Bool.not_eq_true'] at this
    obtain ⟨⟨h1, h2⟩, h3⟩ := this
    simp only [Option.getD_some]
    refine ⟨⟨fun z => absurd z h2, fun z => absurd z h1⟩, fun hm => ?_⟩
    simp at h3
    exact absurd hm h3
theorem Old.re {L L' : List Nat} {a : Addr} (h : mapOk LL m = true) (o : Old P g L a) (hs : L.all (fun x => L'.contains (reL m x)) = true) : Old P (fun a => reL m (g a)) L' a := by
  refine ⟨?_, fun e => o.2 ((reL_ok h _).1.mp e)⟩
  have := List.all_eq_true.mp hs _ o.1
  simpa using this
theorem CellOk.re {k k' : Kd} {d : D} {ov : Option V} (h : mapOk LL m = true) (hk : k.le m k' = true) (c : CellOk mg P g H k d ov) : CellOk mg P (fun a => reL m (g a)) H k' d ov := by
  cases k' with
  | dead => trivial
  | flat =>
    cases k with
    | flat => exact c
    | dead => cases hk
    | lab => cases hk
  | lab rt' L' nd' =>
    cases k with
    | dead => cases hk
    | flat =>
      obtain ⟨v, rfl, r⟩ := c
      exact ⟨v, [], rfl, r, (fun a ha => by cases ha), .of List.nodup_nil⟩
    | lab rt L nd =>
      obtain ⟨v, fp, rfl, r, o, z⟩ := c
      simp only [Kd.le, Bool.and_eq_true] at hk
      obtain ⟨hk, hn⟩ := hk
      refine ⟨v, fp, rfl, r, fun a ha => ?_, fun e => z.1 (by subst e; simpa using hn), fun e => z.2 ?_⟩
      rotate_left
      · cases rt' with
        | none => cases e
        | some n =>
          cases rt with
          | none => simp at hk
          | some k => rfl
      cases rt' with
      | some n =>
        cases rt with
        | none => simp at hk
        | some k =>
          simp only [Bool.and_eq_true] at hk
          rcases o a ha with ⟨x, q, e, y⟩ | ⟨x, y⟩
          · cases e
            refine .inl ⟨x, n, rfl, Old.re h y ?_⟩
            simp [eq_of_beq hk.1]
          · refine .inr ⟨?_, Old.re h y hk.2⟩
            rcases x with x | x
            · exact .inl x
            · cases x
      | none =>
        simp only [Bool.and_eq_true] at hk
        rcases o a ha with ⟨x, q, e, y⟩ | ⟨x, y⟩
        · subst e
          refine .inr ⟨.inr rfl, Old.re h y ?_⟩
          have h1 := hk.1
          simp only at h1
          simpa using h1
        · exact .inr ⟨.inr rfl, Old.re h y hk.2⟩
theorem Cells.re (h : mapOk LL m = true) : ∀ {Γ Γ' : List Kd} {ρ : List D} {σ : L2.St}, kdsLe m Γ Γ' = true → Cells mg P g H Γ ρ σ → Cells mg P (fun a => reL m (g a)) H Γ' ρ σ
  | [], [], [], [], _, _ => trivial
  | k :: Γ, k' :: Γ', d :: ρ, v :: σ, hk, c => by
    simp only [kdsLe, Bool.and_eq_true] at hk
    exact ⟨c.1.re h hk.1, Cells.re h hk.2 c.2⟩
  | [], _ :: _, _, _, hk, _ => by cases hk
  | _ :: _, [], _, _, hk, _ => by cases hk
  | [], _, _ :: _, _, _, c => c.elim
  | [], _, [], _ :: _, _, c => c.elim
  | _ :: _, _, [], _, _, c => c.elim
  | _ :: _, _, _ :: _, [], _, c => c.elim
theorem Sta.re {Γ Γ' : List Kd} (h : mapOk LL m = true) (hk : kdsLe m Γ Γ' = true) (s : Sta mg P LL Γ g ρ σ H) : Sta mg P LL Γ' (fun a => reL m (g a)) ρ σ H := by
  refine ⟨⟨fun a ha => ?_, s.loc.out, fun a ha => ?_⟩, s.cells.re h hk⟩
  · exact s.loc.at_ a fun z => ha ((reL_ok h _).1.mpr z)
  · have := s.loc.fz a ha
    refine ⟨this.1, ?_⟩
    rcases this.2 with x | x
    · exact .inl ((reL_ok h _).1.mpr x)
    · right
      show reL m (g a) ∈ LL
      rw [(reL_ok h _).2 x]
      exact x
theorem Step.re (h : mapOk LL m = true) : Step LL g H (fun a => reL m (g a)) H := by
  refine ⟨fun a _ u e => e, fun a _ x => ?_, fun a e => e⟩
  rcases x with x | x
  · show reL m (g a) = g a
    rw [x]
    exact (reL_ok h _).1.mpr rfl
  · exact (reL_ok h _).2 x
end
section
variable {X : Cx} {W : L2.WX} {sc : Sc} {Γ Γ' Γ1 : List Kd} {pos : Pos}
theorem ss_conv {sts : List Stmt} {s : Sv} (m : List (Nat × Nat)) (h : SS X W sc Γ sts s Γ1) (hm : mapOk sc.LL m = true) (hk : kdsLe m Γ1 Γ' = true) : SS X W sc Γ sts s Γ' := by
  obtain ⟨t, p, k⟩ := h
  refine ⟨t, p, fun P g ρ σ H o D st e w => k P g ρ σ H o D st e ?_⟩
  cases o with
  | nx ρ' => exact fun g' σ' H' s' st' => w _ σ' H' (s'.trans (.re hm)) (st'.re hm hk)
  | ct ρ' => exact w
  | rt d => exact w
  | ex c ρ' => exact w
/-- known less ahead -/
theorem ss_pre {sts : List Stmt} {s : Sv} (m : List (Nat × Nat)) (h : SS X W sc Γ1 sts s Γ') (hm : mapOk sc.LL m = true) (hk : kdsLe m Γ Γ1 = true) : SS X W sc Γ sts s Γ' := by
  obtain ⟨t, p, k⟩ := h
  exact ⟨t, p, fun P g ρ σ H o D st e w => k P _ ρ σ H o D (st.re hm hk) e (w.from (.re hm))⟩
end

/-! ### defs -/
def RF (mg : Mg) (H H' : Hp) (fp : List Addr) : Rm → D → V → Prop
  | .flat, d, v => Rep mg H' d v []
  | .fresh, d, v => ∃ f, Rep mg H' d v f ∧ f.Nodup ∧ ∀ a ∈ f, New H H' a
  | .out, d, v => ∃ f, Rep mg H' d v f ∧ ∀ a ∈ f, New H H' a ∨ a ∈ fp
def sp0 (mg : Mg) (sem : List D → Option Res) (n : Nat) (R : Rm) : Sp := fun vs H Q _ => vs.length = n ∧ ∃ ds fp d, RepL mg H ds vs fp ∧ sem ds = some (.ret d) ∧ ∀ v H', Ext H H' → RF mg H H' fp R d v → Q v H'
def pkOk : List Kd → List D → Bool
  | [], [] => true
  | .flat :: r, d :: ds => d.isFlat && pkOk r ds
  | .lab none [0] false :: r, _ :: ds => pkOk r ds
  | _, _ => false
def fnSem (n : Nat) (pk : List Kd) (s : Sv) : List D → Option Res := fun ds => if pkOk pk ds then
    match s (ds ++ List.replicate (n - ds.length) .non) with
    | some (.nx _) => some (.ret .non)
    | some (.rt d) => some (.ret d)
    | some (.ex c _) => some (.exn c)
    | _ => none
  else none
theorem cells_start {mg : Mg} {H : Hp} {F : List Addr} : ∀ {pk : List Kd} {ds : List D} {vs : List V} {fp : List Addr} (j : Nat), pkOk pk ds = true → RepL mg H ds vs fp → (∀ a ∈ fp, a ∈ F) →
    Cells mg ⟨fun a => a ∈ F, fun _ => False⟩ (fun _ => 0) H (pk ++ List.replicate j .dead) (ds ++ List.replicate j .non) (vs.map some ++ List.replicate j none)
  | [], [], _, _, j, _, h, _ => by
    simp only [RepL] at h
    obtain ⟨rfl, _⟩ := h
    induction j with
    | zero => trivial
    | succ j ih => exact ⟨trivial, ih⟩
  | .flat :: pk, d :: ds, _, _, j, e, h, hf => by
    simp only [RepL] at h
    obtain ⟨v, r, f1, f2, rfl, h1, h2, rfl⟩ := h
    simp only [pkOk, Bool.and_eq_true] at e
    refine ⟨⟨v, rfl, ?_⟩, cells_start j e.2 h2 fun a ha => hf a (List.mem_append_right _ ha)⟩
    rw [h1.flat e.1] at h1
    exact h1
  | .lab none [0] false :: pk, d :: ds, _, _, j, e, h, hf => by
    simp only [RepL] at h
    obtain ⟨v, r, f1, f2, rfl, h1, h2, rfl⟩ := h
    simp only [pkOk] at e
    refine ⟨⟨v, f1, rfl, h1, fun a ha => .inr ⟨.inr rfl, List.mem_singleton.mpr rfl, fun _ => hf a (List.mem_append_left _ ha)⟩, .unk fun z => nomatch z⟩, cells_start j e h2 fun a ha => hf a (List.mem_append_right _ ha)⟩
  | [], _ :: _, _, _, _, e, _, _ => by cases e
  | k :: _, [], _, _, _, e, _, _ => by unfold pkOk at e; split at e <;> simp_all
  | .dead :: _, _ :: _, _, _, _, e, _, _ => by cases e
  | .lab none [] _ :: _, _ :: _, _, _, _, e, _, _ => by cases e
  | .lab none [0] true :: _, _ :: _, _, _, _, e, _, _ => by cases e
  | .lab none [k+1] _ :: _, _ :: _, _, _, _, e, _, _ => by cases e
  | .lab none (_ :: _ :: _) _ :: _, _ :: _, _, _, _, e, _, _ => by unfold pkOk at e; split at e <;> simp_all
  | .lab (some _) _ _ :: _, _ :: _, _, _, _, e, _, _ => by cases e
theorem pkOk_len : ∀ {pk : List Kd} {ds : List D}, pkOk pk ds = true → ds.length = pk.length
  | [], ds, e => by cases ds <;> simp_all [pkOk]
  | k :: pk, ds, e => by
    unfold pkOk at e
    split at e
    · simp_all
    · rename_i h; cases h; simp only [Bool.and_eq_true] at e; simp [pkOk_len e.2]
    · rename_i h; cases h; simp [pkOk_len e]
    · cases e
theorem loc_start {H : Hp} {fp : List Addr} (h : ∀ a ∈ fp, H a ≠ none) : Loc ⟨fun a => a ∈ fp, fun _ => False⟩ [] (fun _ => 0) H := ⟨fun a z => absurd rfl z, h, fun a z => z.elim⟩
theorem step_ext {H H' : Hp} {g' : Addr → Nat} (s : Step [] (fun _ => 0) H g' H') : Ext H H' := fun a u e => s.kp a (.inl rfl) u e
theorem step_new {P : Fm} {H H' : Hp} {g' : Addr → Nat} (s : Step [] (fun _ => 0) H g' H') (l : Loc P [] g' H') (hf : ∀ a, ¬ P.frz a) {a : Addr} (h : g' a ≠ 0) : New H H' a := by
  refine ⟨?_, ?_⟩
  · cases q : H a with
    | none => rfl
    | some o => exact absurd (s.lk a (by rw [q]; simp) (.inl rfl)) h
  · obtain ⟨o, e, m | m⟩ := l.at_ a h
    · rw [e]; exact m
    · exact absurd m (hf a)
theorem rf_of {mg : Mg} {H H' : Hp} {g' : Addr → Nat} {fp : List Addr} {R : Rm} {d : D} {v : V} (s : Step [] (fun _ => 0) H g' H') (l : Loc ⟨fun a => a ∈ fp, fun _ => False⟩ [] g' H') (r : RV mg ⟨fun a => a ∈ fp, fun _ => False⟩ g' H' R d v) : RF mg H H' fp R d v := by
  cases R with
  | flat => exact r
  | fresh => obtain ⟨f, r1, n, q⟩ := r; exact ⟨f, r1, n, fun a ha => step_new s l (fun _ z => z) (q a ha)⟩
  | out => obtain ⟨f, r1, q⟩ := r; exact ⟨f, r1, fun a ha => (q a ha).imp (step_new s l (fun _ z => z)) id⟩
section
variable {P : Program} {w : World} {K : PySem.W.Frag} {mg : Str → Option Value} {base : Heap} {x qual : Str} {params : Arguments} {body : List Stmt} {scope : Scope} {f : Addr} {fd : FuncData}
/-- a def that lets nothing out -/
theorem fn_ok0 {N ps : List Str} {k : Nat} {sc : Sc} {Γ' : List Kd} {s : Sv} (F : FunD K x qual params body scope [] [] f fd) (S : FnScope N ps scope) (pk : List Kd) (hp : pk.length = ps.length) (hN : ps.length ≤ N.length) (hL : sc.LL = [])
    (hb : ∀ (cdv : Value) (A : Around) (outer : List Env) (s0 : Shared) (H : Hp) (E : XK), Room k (A.deeper (envOfC qual scope s0.heap.objs.size f cdv)) →
      SS (cxOf CX0 P w K mg base N qual scope f cdv A outer s0 H E).nox (fun _ _ _ _ => False) sc (pk ++ List.replicate (N.length - pk.length) .dead) body s Γ') :
    FnOk P w K mg base CX0 (k + 1) f fd ps (sp0 ⟨mg, K⟩ (fnSem N.length pk s) ps.length sc.R) := by
  refine F.ok S (fun vs H Q E h => h.1) (fun cdv A outer s0 H vs Q E hr h => ?_)
  obtain ⟨hl, ds, fp, d, r, e, q⟩ := h
  obtain ⟨t, p, kk⟩ := hb cdv A outer s0 H E hr
  refine ⟨t, p.nox, ?_⟩
  unfold fnSem at e
  split at e
  · rename_i hpk
    have hlen := pkOk_len hpk
    have hvd := r.length
    have st : Sta ⟨mg, K⟩ ⟨fun a => a ∈ fp, fun _ => False⟩ sc.LL (pk ++ List.replicate (N.length - pk.length) .dead) (fun _ => 0) (ds ++ List.replicate (N.length - ds.length) .non) (L2.start N vs) H := by
      rw [hL]
      refine ⟨loc_start r.there, ?_⟩
      unfold L2.start
      rw [hvd, hlen]
      exact cells_start _ hpk r fun a ha => ha
    cases o : s (ds ++ List.replicate (N.length - ds.length) .non) with
    | none => rw [o] at e; cases e
    | some o' =>
      rw [o] at e
      refine kk ⟨fun a => a ∈ fp, fun _ => False⟩ (fun _ => 0) _ _ H o' _ st o ?_
      cases o' with
      | nx ρ' =>
        cases e
        intro g' σ' H' s' st'
        rw [hL] at s'
        refine q .non H' (step_ext s') ?_
        have r : Rep ⟨mg, K⟩ H' .non .non [] := rep_non
        cases sc.R with
        | flat => exact r
        | fresh => exact ⟨[], r, by simp, fun a ha => nomatch ha⟩
        | out => exact ⟨[], r, fun a ha => nomatch ha⟩
      | ct ρ' => cases e
      | rt d' =>
        cases e
        intro v g' H' s' l' rv
        rw [hL] at s' l'
        exact q v H' (step_ext s') (rf_of s' l' rv)
      | ex c ρ' => cases e
  · cases e
end

/-! ### calls -/
def eCall (f : List D → Option Res) (a : List D → Option (List D)) : Ev := fun ρ => do
  let ds ← a ρ
  match f ds with
  | some (.ret d) => some d
  | _ => none
def Rm.md : Rm → Md → Md
  | .flat, _ => .flat
  | .fresh, _ => .al true .new [] true
  | .out, .flat => .al true .unk [] false
  | .out, .al _ _ L _ => .al true .unk L false
theorem rf_val {mg : Mg} {P : Fm} {g : Addr → Nat} {H H1 H2 : Hp} {m : Md} {fp : List Addr} {R : Rm} {d : D} {v : V} (e : Ext H H1) (e' : Ext H1 H2) (o : Fps P g H H1 m fp) (r : RF mg H1 H2 fp R d v) : Val mg P g H H2 (R.md m) d v := by
  cases R with
  | flat => exact r
  | fresh =>
    obtain ⟨f, r1, n, q⟩ := r
    refine ⟨f, r1, fun a ha => ?_, .of n⟩
    by_cases hv : v = .ref a
    · exact .inl ⟨hv, (q a ha).back e⟩
    · exact .inr ⟨.inl hv, .inl ⟨rfl, (q a ha).back e⟩⟩
  | out =>
    obtain ⟨f, r1, q⟩ := r
    cases m with
    | flat =>
      obtain rfl : fp = [] := o
      refine ⟨f, r1, fun a ha => ?_, .unk fun z => nomatch z⟩
      rcases q a ha with y | y
      · exact .inr ⟨.inr rfl, .inl ⟨rfl, y.back e⟩⟩
      · cases y
    | al fr rt L nd =>
      refine ⟨f, r1, fun a ha => ?_, .unk fun z => nomatch z⟩
      rcases q a ha with y | y
      · exact .inr ⟨.inr rfl, .inl ⟨rfl, y.back e⟩⟩
      · rcases o.1 a y with ⟨_, z⟩ | z
        · exact .inr ⟨.inr rfl, .inl ⟨rfl, z.ext e'⟩⟩
        · exact .inr ⟨.inr rfl, .inr z⟩
section
variable {X : Cx} {LL : List Nat} {Γ : List Kd} {pos p : Pos} {k : Nat} {f : Addr} {fd : FuncData} {ps : List Str} {sem : List D → Option Res} {R : Rm} {x : Str}
theorem ex_call {e : Expr} {es : List Expr} {a : List D → Option (List D)} {m : Md} {n : Nat} (F : FnOk X.prog X.w X.K X.mg X.base CX0 k f fd ps (sp0 X.vm sem n R)) (hr : Room k X.A) (hg : Gl X x) (hm : X.mg x = some (.ref f)) (hk : PySem.W.keepIn X.K (.ref f) = true) (hb : Binds X.K fd ps [])
    (ha : EA X LL Γ (e :: es) a m) (hn : (e :: es).length = n := by rfl) (hdb : (x == ("__debug__" : Str)) = false := by decide) (he : starEach (e :: es) X.env = (false, eval e X.env) :: starEach es X.env := by rfl) (hpl : (backTo pos (starEach es X.env)).any (·.1) = false := by rfl) :
    EX X LL Γ (.Call (.Name x p) (e :: es) [] pos) (eCall sem a) (R.md m) := by
  obtain ⟨hl, t, pt, kk⟩ := ha
  refine ⟨_, pe_call F hr hg hm hk hb .nil pass0 pt hdb he hpl, fun P g ρ σ H d Q s e0 q => ?_⟩
  obtain ⟨ds, e1, e2⟩ := bind_some e0
  refine kk P g ρ σ H ds _ s e1 fun vs H1 x1 vl => ?_
  obtain ⟨fp, r, o⟩ := vl
  have hlen : (vs ++ []).length = n := by rw [List.append_nil, r.length, hl ρ ds e1]; exact hn
  refine ⟨hlen, ds, fp, d, by rw [List.append_nil]; exact r, ?_, fun v H2 x2 rf => q v H2 (x1.trans x2) (rf_val x1 x2 o rf)⟩
  split at e2
  · cases e2; assumption
  · cases e2
theorem ex_call0 {n : Nat} (F : FnOk X.prog X.w X.K X.mg X.base CX0 k f fd ps (sp0 X.vm sem n R)) (hr : Room k X.A) (hg : Gl X x) (hm : X.mg x = some (.ref f)) (hk : PySem.W.keepIn X.K (.ref f) = true) (hb : Binds X.K fd ps [])
    (hn : n = 0 := by rfl) (hdb : (x == ("__debug__" : Str)) = false := by decide) : EX X LL Γ (.Call (.Name x p) [] [] pos) (eCall sem aNil) (R.md .flat) := by
  refine ⟨_, pe_call0 F hr hg hm hk hb .nil pass0 hdb, fun P g ρ σ H d Q s e0 q => ?_⟩
  obtain ⟨ds, e1, e2⟩ := bind_some e0
  cases e1
  refine ⟨hn.symm, [], [], d, by simp [RepL], ?_, fun v H2 x2 rf => q v H2 x2 (rf_val Ext.refl x2 (m := .flat) rfl rf)⟩
  split at e2
  · cases e2; assumption
  · cases e2
end
end VV

/-! ## VLoop -/
namespace VV
open PySem PySem.Spec PyProof.Rows L2

theorem PE_imp {X : Cx} {e : Expr} {t t' : TE} (p : PE X e t) (h : ∀ σ H Q, t' σ H Q → t σ H Q) : PE X e t' := ⟨fun pins s σ H Q I q => p.run pins s σ H Q I (h σ H Q q)⟩
theorem PTs_imp {X : Cx} {e : List Expr} {t t' : TT} (p : PTs X e t) (h : ∀ σ H Q, t' σ H Q → t σ H Q) : PTs X e t' := ⟨fun pins s σ H Q I q => p.run pins s σ H Q I (h σ H Q q)⟩
theorem PG_imp {X : Cx} {e : Expr} {t t' : TG} (p : PG X e t) (h : ∀ v σ H Q, t' v σ H Q → t v σ H Q) : PG X e t' := ⟨fun pins s σ H v u Q I r q => p.run pins s σ H v u Q I r (h v σ H Q q)⟩
def canT (mg : Mg) (LL : List Nat) (Γ : List Kd) (sem : Ev) (m : Md) : TE := fun σ H Q => ∃ P g ρ d, Sta mg P LL Γ g ρ σ H ∧ sem ρ = some d ∧ ∀ v H', Ext H H' → Val mg P g H H' m d v → Q v H'
def canB (mg : Mg) (LL : List Nat) (Γ : List Kd) (sem : List D → Option Bool) : TT := fun σ H Q => ∃ P g ρ d, Sta mg P LL Γ g ρ σ H ∧ sem ρ = some d ∧ ∀ H', Ext H H' → Q d H'
def canG (mg : Mg) (Γ : List Kd) (k : Kd) (sem : Tv) (Γ' : List Kd) (S : List Nat) : TG := fun v σ H Q => ∃ P LL g ρ d ρ', Sta mg P LL Γ g ρ σ H ∧ CellOk mg P g H k d (some v) ∧ sem d ρ = some ρ' ∧ ∀ σ', Sta mg P LL Γ' g ρ' σ' H → Wp S σ σ' → Q σ' H
theorem ex_can {X : Cx} {LL : List Nat} {Γ : List Kd} {e : Expr} {sem : Ev} {m : Md} (h : EX X LL Γ e sem m) : PE X e (canT X.vm LL Γ sem m) := by
  obtain ⟨t, p, k⟩ := h
  exact PE_imp p fun σ H Q ⟨P, g, ρ, d, s, e, q⟩ => k P g ρ σ H d Q s e q
/-- a list of tests (of a comprehension) -/
def ETs (X : Cx) (LL : List Nat) (Γ : List Kd) (e : List Expr) (sem : List D → Option Bool) : Prop :=
  ∃ t, PTs X e t ∧ ∀ P g ρ σ H b Q, Sta X.vm P LL Γ g ρ σ H → sem ρ = some b → (∀ H', Ext H H' → Q b H') → t σ H Q
def cYes : List D → Option Bool := fun _ => some true
theorem ets_nil {X : Cx} {LL : List Nat} {Γ : List Kd} : ETs X LL Γ [] cYes := ⟨_, pts_nil, fun P g ρ σ H b Q s e q => by cases e; exact q H Ext.refl⟩
theorem ets_one {X : Cx} {LL : List Nat} {Γ : List Kd} {e : Expr} {s : List D → Option Bool} (h : ET X LL Γ e s) : ETs X LL Γ [e] s := let ⟨t, p, k⟩ := h; ⟨t, pts_one p, k⟩
theorem ets_can {X : Cx} {LL : List Nat} {Γ : List Kd} {e : List Expr} {sem : List D → Option Bool} (h : ETs X LL Γ e sem) : PTs X e (canB X.vm LL Γ sem) := by
  obtain ⟨t, p, k⟩ := h
  exact PTs_imp p fun σ H Q ⟨P, g, ρ, d, s, e, q⟩ => k P g ρ σ H d Q s e q
theorem eg_can {X : Cx} {Γ Γ' : List Kd} {e : Expr} {k : Kd} {sem : Tv} {S : List Nat} (h : EG X Γ e k sem Γ' S) : PG X e (canG X.vm Γ k sem Γ' S) := by
  obtain ⟨t, p, kk⟩ := h
  exact PG_imp p fun v σ H Q ⟨P, LL, g, ρ, d, ρ', s, c, e, q⟩ => kk P LL g ρ σ H d v ρ' Q s c e q

/-! ### what is walked -/
def Kept (H H' : Hp) (fp : List Addr) : Prop := (∀ a ∈ fp, ∀ u, H a = some u → H' a = some u) ∧ KpT H H'
theorem Ext.kept {H H' : Hp} (e : Ext H H') (fp : List Addr) : Kept H H' fp := ⟨fun a _ u h => e a u h, e.kpT⟩
theorem Kept.rep {mg : Mg} {H H' : Hp} {F f : List Addr} {d : D} {v : V} (k : Kept H H' F) (h : Rep mg H d v f) (s : ∀ a ∈ f, a ∈ F) : Rep mg H' d v f :=
  h.keep (fun a ha => ⟨fun u r => by rcases r with r | ⟨o, r⟩; exact .inl (k.1 a (s a ha) u r); exact .inr ⟨o, k.1 a (s a ha) _ r⟩, fun vs r => k.1 a (s a ha) _ r⟩) k.2
theorem Kept.repL {mg : Mg} {H H' : Hp} {F f : List Addr} {d : List D} {v : List V} (k : Kept H H' F) (h : RepL mg H d v f) (s : ∀ a ∈ f, a ∈ F) : RepL mg H' d v f :=
  h.keep (fun a ha => ⟨fun u r => by rcases r with r | ⟨o, r⟩; exact .inl (k.1 a (s a ha) u r); exact .inr ⟨o, k.1 a (s a ha) _ r⟩, fun vs r => k.1 a (s a ha) _ r⟩) k.2
def Iter (mg : Mg) (P : Fm) (g : Addr → Nat) (H H' : Hp) (J : It) (labs : List Nat) (me : Md) (ds : List D) : Prop :=
  ∃ fpI : List Addr, (∀ a ∈ fpI, New H H' a ∨ Old P g labs a) ∧ ∀ H2, Kept H' H2 fpI →
    (∀ (i : Nat) (d : D), ds[i]? = some d → J.go i H2 ∧ ∀ x H3, J.yld i H2 x H3 → Ext H2 H3 ∧ ∃ f, Rep mg H3 d x f ∧ Fps P g H H' me f ∧ ∀ a ∈ f, a ∈ fpI) ∧ J.stop ds.length H2
def EI (X : Cx) (LL : List Nat) (Γ : List Kd) (tg it : Expr) (sem : List D → Option (List D)) (labs : List Nat) (me : Md) : Prop :=
  ∃ wi, PI X tg it wi ∧ ∀ P g ρ σ H ds R, Sta X.vm P LL Γ g ρ σ H → sem ρ = some ds → (∀ J H', Ext H H' → ds.length ≤ sizeLine → Iter X.vm P g H H' J labs me ds → R J H') → wi σ H R
def Sized (K : PySem.W.Frag) (H : Hp) : Prop := (∀ a xs, SqL K H a xs → xs.length ≤ sizeLine) ∧ ∀ a xs, SqT K H a xs → xs.length ≤ sizeLine
theorem pi_sized {X : Cx} {tg it : Expr} {wi : TI} (h : PI X tg it wi) : PI X tg it (fun σ H R => wi σ H fun J H1 => Sized X.K H1 → R J H1) := by
  refine ⟨fun pins s σ H R I hw => thn (h.run pins s σ H _ I hw) fun v s1 h1 => thn h1 fun u s2 ⟨it', fp, tn, J, H', e, I', T, t0, f, r⟩ => ?_⟩
  refine ⟨it', fp, tn, J, H', e, I', T, t0, f, r ⟨fun a xs q => ?_, fun a xs q => ?_⟩⟩
  · obtain ⟨_, _, _, z⟩ := I'.list q; exact z
  · obtain ⟨_, _, _, z⟩ := I'.tuple q; exact z
def Md.labs : Md → List Nat
  | .flat => []
  | .al _ rt L _ => (match rt with | .old n => n :: L | _ => L)
theorem Val.labs {mg : Mg} {P : Fm} {g : Addr → Nat} {H H' : Hp} {m : Md} {d : D} {v : V} (h : Val mg P g H H' m d v) : ∃ fp, Rep mg H' d v fp ∧ Fps P g H H' m.unroot fp ∧ (∀ a ∈ fp, New H H' a ∨ Old P g m.labs a) ∧
    ∀ f : List Addr, (∃ f1 f2, (∃ a, v = .ref a ∧ fp = a :: (f1 ++ f ++ f2)) ∨ (fp = f1 ++ f ++ f2 ∧ ∀ a, v = .ref a → a ∉ fp)) → Fps P g H H' m.child f := by
  cases m with
  | flat =>
    refine ⟨[], h, rfl, (fun a ha => nomatch ha), fun f ⟨f1, f2, e⟩ => ?_⟩
    rcases e with ⟨a, _, e⟩ | ⟨e, _⟩
    · cases e
    · have := congrArg List.length e
      simp at this
      exact List.eq_nil_of_length_eq_zero (by omega)
  | al fr rt L nd =>
    obtain ⟨fp, r, o⟩ := h
    refine ⟨fp, r, o.unroot, fun a ha => ?_, fun f ⟨f1, f2, e⟩ => ?_⟩
    · rcases o.1 a ha with ⟨_, y⟩ | ⟨_, ⟨_, y⟩ | y⟩
      · cases rt with
        | new => exact .inl y
        | old n => exact .inr ⟨by rw [List.mem_singleton.mp y.1]; exact List.mem_cons_self, y.2⟩
        | unk => exact y.elim
      · exact .inl y
      · refine .inr ⟨?_, y.2⟩
        cases rt with
        | new => exact y.1
        | old n => exact List.mem_cons_of_mem _ y.1
        | unk => exact y.1
    · have hs : ∀ a ∈ f, a ∈ fp := fun a ha => by
        rcases e with ⟨b, _, rfl⟩ | ⟨rfl, _⟩
        · exact List.mem_cons_of_mem _ (List.mem_append_left _ (List.mem_append_right _ ha))
        · exact List.mem_append_left _ (List.mem_append_right _ ha)
      cases nd with
      | true =>
        refine ⟨fun a ha => ?_, fun _ => ?_⟩
        · rcases o.1 a (hs a ha) with ⟨e2, y⟩ | ⟨_, y⟩
          · exfalso
            rcases e with ⟨b, e3, rfl⟩ | ⟨_, z⟩
            · rw [e3] at e2; cases e2
              exact (List.nodup_cons.mp (o.2.1 rfl)).1 (List.mem_append_left _ (List.mem_append_right _ ha))
            · exact z a e2 (hs a ha)
          · exact y
        · have n := o.2.1 rfl
          rcases e with ⟨b, _, rfl⟩ | ⟨rfl, _⟩
          · have n := (List.nodup_cons.mp n).2
            exact (List.nodup_append.mp (List.nodup_append.mp n).1).2.1
          · exact (List.nodup_append.mp (List.nodup_append.mp n).1).2.1
      | false =>
        have q := o.unroot
        show Fps P g H H' (Md.al fr rt L false).unroot f
        cases rt <;> exact ⟨fun a ha => q.1 a (hs a ha), fun h => nomatch h⟩
section
variable {X : Cx} {LL : List Nat} {Γ : List Kd} {pos p : Pos} {tg e : Expr} {se : Ev} {m : Md}
def iLst (s : Ev) : List D → Option (List D) := fun ρ => do match (← s ρ) with
  | .lst l => some l
  | .scr l => some l
  | _ => none
def iTupl (s : Ev) : List D → Option (List D) := fun ρ => do match (← s ρ) with
  | .tup l => some l
  | _ => none
theorem RepL.parts {mg : Mg} {H : Hp} {ds : List D} {vs : List V} {fp : List Addr} (h : RepL mg H ds vs fp) {i : Nat} {d : D} (e : ds[i]? = some d) : ∃ v f, vs[i]? = some v ∧ Rep mg H d v f ∧ ∃ f1 f2, fp = f1 ++ f ++ f2 := by
  obtain ⟨v, f1, f, f2, e1, r, e2⟩ := h.get e
  exact ⟨v, f, e1, r, f1, f2, e2⟩
theorem ei_list (he : EX X LL Γ e se m) : EI X LL Γ tg e (iLst se) m.labs m.child := by
  obtain ⟨t, pt, k⟩ := he
  refine ⟨_, pi_sized (pi_list pt), fun P g ρ σ H ds R s e0 q => ?_⟩
  obtain ⟨d, e1, e0⟩ := bind_some e0
  refine k P g ρ σ H d _ s e1 fun v H1 x1 w => ?_
  obtain ⟨fp, r, o, lb, ch⟩ := w.labs
  cases d with
  | lst l =>
    cases e0
    have r0 := r
    simp only [Rep] at r0
    obtain ⟨a, vs, f, rfl, ha, h2, rfl⟩ := r0
    refine ⟨a, rfl, ⟨vs, SqL.of ha⟩, fun sz => q _ H1 x1 (by rw [← h2.length]; exact sz.1 a vs (SqL.of ha)) ⟨a :: f, lb, fun H2 kp => ⟨fun i d hi => ?_, ?_⟩⟩⟩
    · obtain ⟨u, fi, e3, ri, f1, f2, rfl⟩ := h2.parts hi
      have ha2 : H2 a = some (.lst vs) := kp.1 a List.mem_cons_self _ ha
      refine ⟨⟨vs, u, SqL.of ha2, e3⟩, fun x H3 y => ?_⟩
      obtain ⟨rfl, y⟩ := y
      have := y vs (SqL.of ha2)
      rw [e3] at this; cases this
      have sub : ∀ b ∈ fi, b ∈ a :: (f1 ++ fi ++ f2) := fun b hb => List.mem_cons_of_mem _ (List.mem_append_left _ (List.mem_append_right _ hb))
      exact ⟨Ext.refl, fi, kp.rep ri sub, ch fi ⟨f1, f2, .inl ⟨a, rfl, rfl⟩⟩, sub⟩
    · exact ⟨vs, SqL.of (kp.1 a List.mem_cons_self _ ha), by rw [h2.length]; exact Nat.le_refl _⟩
  | scr l =>
    cases e0
    have r0 := r
    simp only [Rep] at r0
    obtain ⟨a, vs, rfl, ha, h2, rfl⟩ := r0
    refine ⟨a, rfl, ⟨vs, ha.sq⟩, fun sz => q _ H1 x1 (by rw [← h2.length]; exact sz.1 a vs ha.sq) ⟨[], lb, fun H2 kp => ⟨fun i d hi => ?_, ?_⟩⟩⟩
    · obtain ⟨u, fi, e3, ri, f1, f2, e4⟩ := h2.parts hi
      have e5 : fi = [] ∧ f1 = [] ∧ f2 = [] := by
        have := congrArg List.length e4
        simp at this
        exact ⟨List.eq_nil_of_length_eq_zero (by omega), List.eq_nil_of_length_eq_zero (by omega), List.eq_nil_of_length_eq_zero (by omega)⟩
      obtain ⟨rfl, rfl, rfl⟩ := e5
      have ha2 : ScrAt X.K H2 a vs := ha.imp (fun ⟨o, r⟩ => ⟨o, kp.2.2 a o vs r⟩) id
      refine ⟨⟨vs, u, ha2.sq, e3⟩, fun x H3 y => ?_⟩
      obtain ⟨rfl, y⟩ := y
      have := y vs ha2.sq
      rw [e3] at this; cases this
      exact ⟨Ext.refl, [], kp.rep ri (fun b hb => nomatch hb), ch [] ⟨[], [], .inr ⟨rfl, fun b eb => nofun⟩⟩, fun b hb => nomatch hb⟩
    · have ha2 : ScrAt X.K H2 a vs := ha.imp (fun ⟨o, r⟩ => ⟨o, kp.2.2 a o vs r⟩) id
      exact ⟨vs, ha2.sq, by rw [h2.length]; exact Nat.le_refl _⟩
  | _ => cases e0
theorem ei_tup (he : EX X LL Γ e se m) : EI X LL Γ tg e (iTupl se) m.labs m.child := by
  obtain ⟨t, pt, k⟩ := he
  refine ⟨_, pi_sized (pi_tup pt), fun P g ρ σ H ds R s e0 q => ?_⟩
  obtain ⟨d, e1, e0⟩ := bind_some e0
  refine k P g ρ σ H d _ s e1 fun v H1 x1 w => ?_
  obtain ⟨fp, r, o, lb, ch⟩ := w.labs
  cases d with
  | tup l =>
    cases e0
    have r0 := r
    simp only [Rep] at r0
    obtain ⟨a, vs, rfl, ha, h2⟩ := r0
    refine ⟨a, rfl, ⟨vs, .inl ha⟩, fun sz => q _ H1 x1 (by rw [← h2.length]; exact sz.2 a vs (.inl ha)) ⟨fp, lb, fun H2 kp => ⟨fun i d hi => ?_, ?_⟩⟩⟩
    · obtain ⟨u, fi, e3, ri, f1, f2, rfl⟩ := h2.parts hi
      have ha2 := kp.2.1 a vs ha
      refine ⟨⟨vs, u, .inl ha2, e3⟩, fun x H3 y => ?_⟩
      obtain ⟨rfl, y⟩ := y
      have := y vs (.inl ha2)
      rw [e3] at this; cases this
      have sub : ∀ b ∈ fi, b ∈ f1 ++ fi ++ f2 := fun b hb => List.mem_append_left _ (List.mem_append_right _ hb)
      exact ⟨Ext.refl, fi, kp.rep ri sub, ch fi ⟨f1, f2, .inr ⟨rfl, fun b eb => by cases eb; exact r.notup ha⟩⟩, sub⟩
    · exact ⟨vs, .inl (kp.2.1 a vs ha), by rw [h2.length]; exact Nat.le_refl _⟩
  | _ => cases e0
/-- lo, lo + 1, .. -/
def rngD (lo : Int) (n : Nat) : List D := (List.range n).map fun i : Nat => .int (lo + i)
theorem rngD_get {lo : Int} {n i : Nat} {d : D} (h : (rngD lo n)[i]? = some d) : i < n ∧ d = .int (lo + i) := by
  unfold rngD at h
  rw [List.getElem?_map] at h
  by_cases hi : i < n
  · rw [List.getElem?_range hi] at h
    cases h
    exact ⟨hi, rfl⟩
  · rw [List.getElem?_eq_none (by simpa using hi)] at h
    cases h
theorem iter_rngD {mg : Mg} {P : Fm} {g : Addr → Nat} {H H' : Hp} {lo : Int} {n : Nat} : Iter mg P g H H' (Itr lo n) [] .flat (rngD lo n) := by
  refine ⟨[], (fun a ha => nomatch ha), fun H2 kp => ⟨fun i d hi => ?_, ?_⟩⟩
  · obtain ⟨h1, rfl⟩ := rngD_get hi
    refine ⟨h1, fun x H3 y => ?_⟩
    obtain ⟨rfl, rfl⟩ := y
    exact ⟨Ext.refl, [], rep_int, rfl, fun a ha => nomatch ha⟩
  · show n ≤ (rngD lo n).length
    unfold rngD
    simp
def iRng (a : List D → Option (List D)) : List D → Option (List D) := fun ρ => do match (← a ρ) with
  | [.int j] => if j ≤ 10000000 ∧ -10000000 ≤ j then some (rngD 0 j.toNat) else none
  | [.int i, .int j] => if j ≤ 10000000 ∧ -10000000 ≤ i ∧ i ≤ 10000000 ∧ -10000000 ≤ j ∧ j - i ≤ 10000000 then some (rngD i (j - i).toNat) else none
  | _ => none
theorem ei_range1 {a : Expr} {sa : List D → Option (List D)} (hg : Gl X "range") (hm : X.mg "range" = none) (ha : EA X LL Γ [a] sa m) (hs : starEach [a] X.env = [(false, eval a X.env)] := by rfl) : EI X LL Γ tg (.Call (.Name "range" p) [a] [] pos) (iRng sa) [] .flat := by
  obtain ⟨hl, t, pt, k⟩ := ha
  refine ⟨_, pi_range1 hg hm pt hs, fun P g ρ σ H ds R s e0 q => ?_⟩
  obtain ⟨d, e1, e0⟩ := bind_some e0
  have hlen := hl ρ d e1
  refine k P g ρ σ H d _ s e1 fun vs H1 x1 w => ?_
  obtain ⟨fp, r⟩ := w.rep
  split at e0
  · split at e0
    · cases e0
      obtain ⟨v, rfl, h⟩ := repL1 r
      obtain rfl := rInt h
      rename_i j hj
      refine ⟨j, rfl, by omega, by omega, ?_⟩
      exact q _ H1 x1 (by unfold rngD; simp; rw [sizeLine_eq]; omega) iter_rngD
    · cases e0
  · simp at hlen
  · cases e0
theorem ei_range2 {a b : Expr} {sa : List D → Option (List D)} (hg : Gl X "range") (hm : X.mg "range" = none) (ha : EA X LL Γ [a, b] sa m) (hs : starEach [a, b] X.env = [(false, eval a X.env), (false, eval b X.env)] := by rfl) (hs2 : starEach [b] X.env = [(false, eval b X.env)] := by rfl) : EI X LL Γ tg (.Call (.Name "range" p) [a, b] [] pos) (iRng sa) [] .flat := by
  obtain ⟨hl, t, pt, k⟩ := ha
  refine ⟨_, pi_range2 hg hm pt hs hs2, fun P g ρ σ H ds R s e0 q => ?_⟩
  obtain ⟨d, e1, e0⟩ := bind_some e0
  have hlen := hl ρ d e1
  refine k P g ρ σ H d _ s e1 fun vs H1 x1 w => ?_
  obtain ⟨fp, r⟩ := w.rep
  split at e0
  · simp at hlen
  · split at e0
    · cases e0
      rename_i i j hj
      obtain ⟨v, v2, _, _, rfl, h, h', _⟩ := repL2 r
      obtain rfl := rInt h
      obtain rfl := rInt h'
      refine ⟨i, j, rfl, ⟨by omega, by omega, by omega, by omega⟩, ?_⟩
      exact q _ H1 x1 (by unfold rngD; simp; rw [sizeLine_eq]; omega) iter_rngD
    · cases e0
  · cases e0
end
end VV

/-! ## VLoop2 -/
namespace VV
open PySem PySem.Spec PyProof.Rows L2

/-! ### for -/
def forL (t : Tv) (b : Sv) : List D → List D → Option Out
  | [], ρ => some (.nx ρ)
  | x :: xs, ρ => match t x ρ with
    | none => none
    | some ρ1 => match b ρ1 with
      | some (.nx ρ2) => forL t b xs ρ2
      | some (.ct ρ2) => forL t b xs ρ2
      | o => o
def sFor (it : List D → Option (List D)) (t : Tv) (b : Sv) : Sv := fun ρ => do forL t b (← it ρ) ρ
/-- the kind of a loop's name -/
def Md.kindI (n : Nat) : Md → Kd
  | .flat => .flat
  | .al fr _ L nd => .lab none (if fr then n :: L else L) nd
theorem fps_cell {mg : Mg} {P : Fm} {LL : List Nat} {g g' : Addr → Nat} {H H1 H' : Hp} {me : Md} {f : List Addr} {d : D} {v : V} {n : Nat} (l : Loc P LL g H) (r : Rep mg H' d v f) (o : Fps P g H H1 me f) (hn : n ≠ 0)
    (hg : ∀ a ∈ f, g' a = relab g H H1 .non n n a) : CellOk mg P g' H' (me.kindI n) d (some v) := by
  cases me with
  | flat =>
    obtain rfl : f = [] := o
    exact ⟨v, rfl, r⟩
  | al fr rt L nd =>
    refine ⟨v, f, rfl, r, fun a ha => .inr ⟨.inr rfl, ?_⟩, .unk o.2⟩
    unfold Old
    rw [hg a ha]
    rcases o.1 a ha with ⟨hfr, y⟩ | y
    · rw [relab_new y]
      subst hfr
      refine ⟨?_, fun z => ?_⟩
      · show _ ∈ n :: L
        split <;> exact List.mem_cons_self
      · split at z <;> exact absurd z hn
    · have := Old.relab (H' := H1) (v := .non) (n := n) (m := n) y l
      refine ⟨?_, this.2⟩
      cases fr with
      | false => exact this.1
      | true => exact List.mem_cons_of_mem _ this.1
theorem Step.sub {LL LL' : List Nat} {g g' : Addr → Nat} {H H' : Hp} (s : Step LL' g H g' H') (h : ∀ n ∈ LL, n ∈ LL') : Step LL g H g' H' :=
  ⟨fun a x u e => s.kp a (x.imp id (h _)) u e, fun a e x => s.lk a e (x.imp id (h _)), s.th⟩
theorem Loc.up {P : Fm} {LL LL' : List Nat} {g : Addr → Nat} {H : Hp} (l : Loc P LL g H) (h : ∀ n ∈ LL, n ∈ LL') : Loc P LL' g H := ⟨l.at_, l.out, fun a x => ⟨(l.fz a x).1, (l.fz a x).2.imp id (h _)⟩⟩
/-- back to fewer locks: what was locked for good before is still so -/
theorem Loc.down {P : Fm} {LL LL' : List Nat} {g g' : Addr → Nat} {H H' : Hp} (l' : Loc P LL' g' H') (l : Loc P LL g H) (s : Step LL g H g' H') : Loc P LL g' H' :=
  ⟨l'.at_, l'.out, fun a x => ⟨(l'.fz a x).1, by rw [s.lk a (l.fz a x).1 (l.fz a x).2]; exact (l.fz a x).2⟩⟩
theorem Step.tups {P : Fm} {LL : List Nat} {g g' : Addr → Nat} {H H' : Hp} (s : Step LL g H g' H') (l : Loc P LL g H) {u : HO} (hu : ¬ Mut (some u)) (a : Addr) (e : H a = some u) : H' a = some u := by
  have key : VV.lk LL (g a) := by
    by_cases h : g a = 0
    · exact .inl h
    · obtain ⟨o, e', m | m⟩ := l.at_ a h
      · rw [e] at e'; cases e'; exact absurd m hu
      · exact (l.fz a m).2
  exact s.kp a key _ e
theorem Step.kpT {P : Fm} {LL : List Nat} {g g' : Addr → Nat} {H H' : Hp} (s : Step LL g H g' H') (l : Loc P LL g H) : KpT H H' := by
  refine ⟨fun a xs r => ?_, fun a o vs r => s.tups l (show ¬ Mut (some (HO.frz o (.lst vs))) from fun z => z) a r⟩
  rcases r with r | ⟨o, r⟩
  · exact .inl (s.tups l (show ¬ Mut (some (HO.tup xs)) from fun z => z) a r)
  · exact .inr ⟨o, s.tups l (show ¬ Mut (some (HO.frz o (.tup xs))) from fun z => z) a r⟩
theorem wantS_sub {X : Cx} {W : L2.WX} {sc sc' : Sc} {P : Fm} {Γ' : List Kd} {g g0 : Addr → Nat} {H H0 : Hp} {D D' : Ends} {o : Out} (hL : ∀ n ∈ sc.LL, n ∈ sc'.LL) (hR : sc'.R = sc.R) (hx : sc'.Γx = sc.Γx) (hD : D'.rt = D.rt) (l : Loc P sc.LL g0 H0) (s0 : Step sc.LL g0 H0 g H)
    (w : WantS X W sc P Γ' g0 H0 D o) (ho : (∃ d, o = .rt d) ∨ ∃ c ρ, o = .ex c ρ) (Γ1 : List Kd) : WantS X W sc' P Γ1 g H D' o := by
  rcases ho with ⟨d, rfl⟩ | ⟨c, ρ, rfl⟩
  · intro v g' H' s l' r
    rw [hD]
    have st := s0.trans (s.sub hL)
    exact w v g' H' st (l'.down l st) (by rw [← hR]; exact r)
  · intro C g' σ' H' m s st
    have stt := s0.trans (s.sub hL)
    exact w C g' σ' H' m stt ⟨st.loc.down l stt, by rw [← hx]; exact st.cells⟩
section
variable {X : Cx} {W : L2.WX} {sc : Sc} {Γ Γ1 : List Kd} {pos : Pos}
theorem sx_for {iter tg : Expr} {body : List Stmt} {si : List D → Option (List D)} {t : Tv} {sb : Sv} {labs : List Nat} {me : Md} {S : List Nat} (n : Nat) (hc : X.calm = true) (hp : PassesOwn (model X.prog X.w) X.A X.env X.xe)
    (hi : EI X sc.LL Γ tg iter si labs me) (hg : EG X Γ tg (me.kindI n) t Γ1 S) (hb : SS X W { sc with LL := n :: (labs ++ sc.LL), Γc := Γ } Γ1 body sb Γ)
    (hs : ∀ x, foldedSetIterable iter X.env x = pure x := by intro _; rfl) (hn : n ≠ 0 := by decide) : SX X W sc Γ (.For tg iter body [] pos) (sFor si t sb) Γ := by
  obtain ⟨wi, pi, ki⟩ := hi
  obtain ⟨tgt, pg, kg⟩ := hg
  obtain ⟨tb, pb, kb⟩ := hb
  refine ⟨_, ps_for hp hc pi pg pb hs, fun P g ρ σ H o De s e w => ?_⟩
  obtain ⟨ds, e1, e⟩ := bind_some e
  refine ki P g ρ σ H ds _ s e1 fun J H1 x1 _ it => ?_
  obtain ⟨fpI, lb, walk⟩ := it
  -- what is new is labelled n, and locked
  have s1 : Sta X.vm P sc.LL Γ (relab g H H1 .non n n) ρ σ H1 := s.relab x1
  have st1 : Step sc.LL g H (relab g H H1 .non n n) H1 := .relab x1
  have subL : ∀ k ∈ sc.LL, k ∈ n :: (labs ++ sc.LL) := fun k hk => List.mem_cons_of_mem _ (List.mem_append_right _ hk)
  have lkI : ∀ a ∈ fpI, lk (n :: (labs ++ sc.LL)) (relab g H H1 .non n n a) := fun a ha => by
    rcases lb a ha with y | y
    · rw [relab_new y]; right; split <;> exact List.mem_cons_self
    · rw [relab_old (y.there s.loc)]; right
      exact List.mem_cons_of_mem _ (List.mem_append_left _ y.1)
  generalize hg1 : relab g H H1 .non n n = g1 at s1 st1 lkI
  -- the turn's state: what is left of the items
  refine ⟨fun i m σ' H' => m = ds.length - i ∧ i ≤ ds.length ∧ ∃ ρ' g', forL t sb (ds.drop i) ρ' = some o ∧ Sta X.vm P (n :: (labs ++ sc.LL)) Γ g' ρ' σ' H' ∧ Step (n :: (labs ++ sc.LL)) g1 H1 g' H',
    ⟨ds.length, rfl, Nat.zero_le _, ρ, g1, by rw [List.drop_zero]; exact e, ⟨s1.loc.up subL, s1.cells⟩, .refl⟩, ?_⟩
  rintro i m σ2 H2 ⟨rfl, hil, ρ2, g2, e2, s2, st2⟩
  have kept : Kept H1 H2 fpI := ⟨fun a ha u r => st2.kp a (lkI a ha) u r, st2.kpT (s1.loc.up subL)⟩
  obtain ⟨wk, wstop⟩ := walk H2 kept
  have back : ∀ {ρ3 : List D} {σ3 : L2.St} {g3 : Addr → Nat} {H3 : Hp}, Step (n :: (labs ++ sc.LL)) g1 H1 g3 H3 → Sta X.vm P (n :: (labs ++ sc.LL)) Γ g3 ρ3 σ3 H3 → Step sc.LL g H g3 H3 ∧ Sta X.vm P sc.LL Γ g3 ρ3 σ3 H3 := fun st3 s3 =>
    have h := st1.trans (st3.sub subL)
    ⟨h, s3.loc.down s.loc h, s3.cells⟩
  by_cases hi' : i < ds.length
  · refine .inr ?_
    obtain ⟨go, yl⟩ := wk i ds[i] (List.getElem?_eq_getElem hi')
    rw [List.drop_eq_getElem_cons hi'] at e2
    unfold forL at e2
    cases et : t ds[i] ρ2 with
    | none => rw [et] at e2; cases e2
    | some ρ3 =>
      rw [et] at e2
      dsimp only at e2
      refine ⟨go, fun σ' H' => ∃ m', m' < ds.length - i ∧ (m' = ds.length - (i + 1) ∧ i + 1 ≤ ds.length ∧ ∃ ρ' g', forL t sb (ds.drop (i + 1)) ρ' = some o ∧ Sta X.vm P (n :: (labs ++ sc.LL)) Γ g' ρ' σ' H' ∧ Step (n :: (labs ++ sc.LL)) g1 H1 g' H'), fun σ' H' h => h, fun x H3 y => ?_⟩
      obtain ⟨x3, f, r, of, sub⟩ := yl x H3 y
      have s3 := s2.ext x3
      have cell : CellOk X.vm P g2 H3 (me.kindI n) ds[i] (some x) := fps_cell s.loc r of hn fun a ha => by
        rw [hg1]
        obtain ⟨u, hu⟩ : ∃ u, H1 a = some u := by
          rcases lb a (sub a ha) with y | y
          · cases q : H1 a with
            | none => have := y.2; rw [q] at this; exact this.elim
            | some u => exact ⟨u, rfl⟩
          · cases q : H1 a with
            | none => exact absurd (x1.nope q) (y.there s.loc)
            | some u => exact ⟨u, rfl⟩
        exact st2.lk a (by rw [hu]; simp) (lkI a (sub a ha))
      refine kg P _ g2 ρ2 σ2 H3 ds[i] x ρ3 _ s3 cell et fun σ4 s4 _ => ?_
      have st3 : Step (n :: (labs ++ sc.LL)) g1 H1 g2 H3 := st2.trans (.ext x3)
      have again : ∀ {ρ5 : List D} {σ5 : L2.St} {g5 : Addr → Nat} {H5 : Hp}, forL t sb (ds.drop (i + 1)) ρ5 = some o → Step (n :: (labs ++ sc.LL)) g2 H3 g5 H5 → Sta X.vm P (n :: (labs ++ sc.LL)) Γ g5 ρ5 σ5 H5 →
          ∃ m', m' < ds.length - i ∧ (m' = ds.length - (i + 1) ∧ i + 1 ≤ ds.length ∧ ∃ ρ' g', forL t sb (ds.drop (i + 1)) ρ' = some o ∧ Sta X.vm P (n :: (labs ++ sc.LL)) Γ g' ρ' σ5 H5 ∧ Step (n :: (labs ++ sc.LL)) g1 H1 g' H5) := fun {ρ5 σ5 g5 H5} e5 st5 s5 =>
        ⟨_, by omega, rfl, hi', ρ5, g5, e5, s5, st3.trans st5⟩
      cases eb : sb ρ3 with
      | none => rw [eb] at e2; cases e2
      | some o3 =>
        rw [eb] at e2
        refine kb P g2 ρ3 σ4 H3 o3 _ s4 eb ?_
        cases o3 with
        | nx ρ5 => exact fun g5 σ5 H5 st5 s5 => again e2 st5 s5
        | ct ρ5 => exact fun g5 σ5 H5 st5 s5 => again e2 st5 s5
        | rt d =>
          cases e2
          exact wantS_sub (D := De) (sc := sc) (sc' := { sc with LL := n :: (labs ++ sc.LL), Γc := Γ }) subL rfl rfl rfl s.loc (st1.trans (st3.sub subL)) w (.inl ⟨d, rfl⟩) Γ
        | ex c ρ5 =>
          cases e2
          exact wantS_sub (D := De) (sc := sc) (sc' := { sc with LL := n :: (labs ++ sc.LL), Γc := Γ }) subL rfl rfl rfl s.loc (st1.trans (st3.sub subL)) w (.inr ⟨c, ρ5, rfl⟩) Γ
  · have : i = ds.length := by omega
    subst this
    refine .inl ⟨wstop, ?_⟩
    rw [List.drop_length] at e2
    cases e2
    obtain ⟨h1, h2⟩ := back st2 s2
    exact w g2 σ2 H2 h1 h2
end
end VV

/-! ## VComp -/
namespace VV
open PySem PySem.Spec PyProof.Rows L2

/-! ### while -/
def whileL (c : List D → Option Bool) (b : Sv) : Nat → List D → Option Out
  | 0, _ => none
  | k + 1, ρ => match c ρ with
    | none => none
    | some false => some (.nx ρ)
    | some true => match b ρ with
      | some (.nx ρ2) => whileL c b k ρ2
      | some (.ct ρ2) => whileL c b k ρ2
      | o => o
def fuel : Nat := 1000000000
def sWhile (c : List D → Option Bool) (b : Sv) : Sv := fun ρ => whileL c b fuel ρ
theorem whileL_mono {c : List D → Option Bool} {b : Sv} {o : Out} : ∀ {n : Nat} {ρ : List D}, whileL c b n ρ = some o → ∀ {m : Nat}, n ≤ m → whileL c b m ρ = some o
  | 0, _, h, _, _ => by cases h
  | n + 1, ρ, h, 0, hm => by omega
  | n + 1, ρ, h, m + 1, hm => by
    unfold whileL at h ⊢
    cases hc : c ρ with
    | none => rw [hc] at h; cases h
    | some k =>
      rw [hc] at h
      cases k with
      | false => exact h
      | true =>
        dsimp only at h ⊢
        cases hb : b ρ with
        | none => rw [hb] at h; cases h
        | some o' =>
          rw [hb] at h
          cases o' with
          | nx ρ2 => exact whileL_mono h (by omega)
          | ct ρ2 => exact whileL_mono h (by omega)
          | rt d => exact h
          | ex c' ρ2 => exact h
section
variable {X : Cx} {W : L2.WX} {sc : Sc} {Γ Γ1 : List Kd} {pos : Pos}
theorem sx_while {c : Expr} {body : List Stmt} {s : List D → Option Bool} {sb : Sv} (hp : PassesOwn (model X.prog X.w) X.A X.env X.xe) (hc : ET X sc.LL Γ c s) (hb : SS X W { sc with Γc := Γ } Γ body sb Γ) : SX X W sc Γ (.While c body [] pos) (sWhile s sb) Γ := by
  obtain ⟨tc, pc, kc⟩ := hc
  obtain ⟨tb, pb, kb⟩ := hb
  refine ⟨_, ps_while hp pc pb, fun P g ρ σ H o De st e w => ?_⟩
  refine ⟨fun m σ' H' => ∃ ρ' g', whileL s sb m ρ' = some o ∧ Sta X.vm P sc.LL Γ g' ρ' σ' H' ∧ Step sc.LL g H g' H', ⟨fuel, ρ, g, e, st, .refl⟩, ?_⟩
  rintro m σ2 H2 ⟨ρ2, g2, e2, s2, st2⟩
  cases m with
  | zero => cases e2
  | succ k =>
    unfold whileL at e2
    cases h : s ρ2 with
    | none => rw [h] at e2; cases e2
    | some b =>
      rw [h] at e2
      refine kc P g2 ρ2 σ2 H2 b _ s2 h fun H3 x3 => ?_
      cases b with
      | false =>
        cases e2
        exact iteF (w g2 σ2 H3 (st2.trans (.ext x3)) (s2.ext x3))
      | true =>
        dsimp only at e2
        refine iteT ⟨fun σ' H' => ∃ m', m' < k + 1 ∧ ∃ ρ' g', whileL s sb m' ρ' = some o ∧ Sta X.vm P sc.LL Γ g' ρ' σ' H' ∧ Step sc.LL g H g' H', fun σ' H' h => h, ?_⟩
        cases eb : sb ρ2 with
        | none => rw [eb] at e2; cases e2
        | some o3 =>
          rw [eb] at e2
          refine kb P g2 ρ2 σ2 H3 o3 _ (s2.ext x3) eb ?_
          have st3 : Step sc.LL g H g2 H3 := st2.trans (.ext x3)
          cases o3 with
          | nx ρ5 => exact fun g5 σ5 H5 st5 s5 => ⟨k, Nat.lt_succ_self k, ρ5, g5, e2, s5, st3.trans st5⟩
          | ct ρ5 => exact fun g5 σ5 H5 st5 s5 => ⟨k, Nat.lt_succ_self k, ρ5, g5, e2, s5, st3.trans st5⟩
          | rt d => cases e2; exact fun v g' H' s' l r => w v g' H' (st3.trans s') l r
          | ex c' ρ5 => cases e2; exact fun C g' σ' H' m s' st' => w C g' σ' H' m (st3.trans s') st'
end

/-! ### list comprehensions -/
def lcL (t : Tv) (c : List D → Option Bool) (e : Ev) (ρ : List D) : List D → Option (List D)
  | [] => some []
  | x :: xs => do
    let ρ1 ← t x ρ
    let b ← c ρ1
    if b then do
      let y ← e ρ1
      let r ← lcL t c e ρ xs
      some (y :: r)
    else lcL t c e ρ xs
def eLc (it : List D → Option (List D)) (t : Tv) (c : List D → Option Bool) (e : Ev) : Ev := fun ρ => do
  let xs ← it ρ
  let ys ← lcL t c e ρ xs
  some (.lst ys)
def wipeK (Γ : List Kd) : List Nat → List Kd
  | [] => Γ
  | v :: vs => (wipeK Γ vs).set v .dead
theorem Cells.kill {mg : Mg} {P : Fm} {g : Addr → Nat} {H : Hp} {ov : Option V} : ∀ {Γ : List Kd} {ρ : List D} {σ : L2.St} (i : Nat), Cells mg P g H Γ ρ σ → Cells mg P g H (Γ.set i .dead) ρ (σ.set i ov)
  | [], [], [], _, _ => trivial
  | _ :: _, _ :: _, _ :: _, 0, h => ⟨trivial, h.2⟩
  | _ :: _, _ :: _, _ :: _, i + 1, h => ⟨h.1, Cells.kill i h.2⟩
  | [], _ :: _, _, _, h => h.elim
  | [], [], _ :: _, _, h => h.elim
  | _ :: _, [], _, _, h => h.elim
  | _ :: _, _ :: _, [], _, h => h.elim
theorem Cells.wipe {mg : Mg} {P : Fm} {g : Addr → Nat} {H : Hp} {Γ : List Kd} {ρ : List D} {σ : L2.St} (h : Cells mg P g H Γ ρ σ) : ∀ vs : List Nat, Cells mg P g H (wipeK Γ vs) ρ (wipe σ vs)
  | [] => h
  | v :: vs => Cells.kill v (Cells.wipe h vs)
def Md.lc : Md → Md
  | .flat => .al false .new [] true
  | .al _ .new [] nd => .al true .new [] nd
  | .al _ rt L _ => .al true .new (match rt with | .old n => n :: L | _ => L) false
theorem lcL_cons {t : Tv} {c : List D → Option Bool} {e : Ev} {ρ : List D} {x : D} {xs ys : List D} (h : lcL t c e ρ (x :: xs) = some ys) : ∃ ρ1 b, t x ρ = some ρ1 ∧ c ρ1 = some b ∧ ((b = true ∧ ∃ y r, e ρ1 = some y ∧ lcL t c e ρ xs = some r ∧ ys = y :: r) ∨ (b = false ∧ lcL t c e ρ xs = some ys)) := by
  unfold lcL at h
  obtain ⟨ρ1, h1, h⟩ := bind_some h
  obtain ⟨b, h2, h⟩ := bind_some h
  refine ⟨ρ1, b, h1, h2, ?_⟩
  cases b with
  | true =>
    simp only [if_true] at h
    obtain ⟨y, h3, h⟩ := bind_some h
    obtain ⟨r, h4, h⟩ := bind_some h
    cases h
    exact .inl ⟨rfl, y, r, h3, h4, rfl⟩
  | false => exact .inr ⟨rfl, by simpa using h⟩
/-- the nodes of what is made so far, seen from H -/
def AccOk (P : Fm) (g : Addr → Nat) (H H' : Hp) : Md → List Addr → Prop
  | .flat, f => f = []
  | .al _ .new [] nd, f => (∀ a ∈ f, New H H' a) ∧ (nd = true → f.Nodup)
  | .al _ rt L _, f => ∀ a ∈ f, New H H' a ∨ Old P g (match rt with | .old n => n :: L | _ => L) a
theorem AccOk.ext {P : Fm} {g : Addr → Nat} {H H1 H2 : Hp} {m : Md} {f : List Addr} (h : AccOk P g H H1 m f) (e : ∀ a ∈ f, ∀ u, H1 a = some u → H2 a = some u) : AccOk P g H H2 m f := by
  have ne : ∀ a ∈ f, New H H1 a → New H H2 a := fun a ha n => ⟨n.1, mut_of n.2 (e a ha)⟩
  cases m with
  | flat => exact h
  | al fr rt L nd =>
    cases rt with
    | new =>
      cases L with
      | nil => exact ⟨fun a ha => ne a ha (h.1 a ha), h.2⟩
      | cons x r => exact fun a ha => (h a ha).imp (ne a ha) id
    | old n => exact fun a ha => (h a ha).imp (ne a ha) id
    | unk => exact fun a ha => (h a ha).imp (ne a ha) id
theorem AccOk.nil {P : Fm} {g : Addr → Nat} {H H1 : Hp} {m : Md} : AccOk P g H H1 m [] := by
  cases m with
  | flat => rfl
  | al fr rt L nd =>
    cases rt with
    | new =>
      cases L with
      | nil => exact ⟨(fun a ha => nomatch ha), fun _ => List.nodup_nil⟩
      | cons x r => exact fun a ha => nomatch ha
    | old n => exact fun a ha => nomatch ha
    | unk => exact fun a ha => nomatch ha
/-- one more: its value was told from H1, where all of f stood -/
theorem AccOk.add {mg : Mg} {P : Fm} {LL : List Nat} {g g' : Addr → Nat} {H H1 H2 : Hp} {m : Md} {f : List Addr} {d : D} {v : V} (h : AccOk P g H H2 m f) (th : ∀ a ∈ f, H1 a ≠ none) (e : Ext H H1) (e2 : Ext H1 H2) (w : Val mg P g' H1 H2 m d v)
    (l : Loc P LL g H) (hg : ∀ a, H a ≠ none → g' a = g a) (hn : ∀ a L, H a = none → Old P g' L a → New H H2 a) : ∃ f', Rep mg H2 d v f' ∧ AccOk P g H H2 m (f ++ f') ∧ ∀ a ∈ f', New H1 H2 a ∨ ∃ L, Old P g' L a := by
  have old : ∀ {L : List Nat} {a : Addr}, Old P g' L a → New H H2 a ∨ Old P g L a := fun {L a} o => by
    by_cases h0 : H a = none
    · exact .inl (hn a L h0 o)
    · right
      unfold Old at o ⊢
      rw [hg a h0] at o
      exact o
  cases m with
  | flat =>
    obtain rfl : f = [] := h
    exact ⟨[], w, rfl, (fun a ha => nomatch ha)⟩
  | al fr rt L nd =>
    obtain ⟨f', r, o, z⟩ := w
    have last : ∀ a ∈ f', New H1 H2 a ∨ ∃ L, Old P g' L a := fun a ha => by
      rcases o a ha with ⟨_, y⟩ | ⟨_, ⟨_, y⟩ | y⟩
      · cases rt with
        | new => exact .inl y
        | old n => exact .inr ⟨_, y⟩
        | unk => exact y.elim
      · exact .inl y
      · exact .inr ⟨_, y⟩
    suffices hh : AccOk P g H H2 (.al fr rt L nd) (f ++ f') from ⟨f', r, hh, last⟩
    cases rt with
    | new =>
      cases L with
      | nil =>
        have nw : ∀ a ∈ f', New H1 H2 a := fun a ha => by
          rcases o a ha with ⟨_, y⟩ | ⟨_, ⟨_, y⟩ | y⟩
          · exact y
          · exact y
          · cases y.1
        refine ⟨fun a ha => ?_, fun hnd => List.nodup_append.mpr ⟨h.2 hnd, z.1 hnd, ?_⟩⟩
        · rcases List.mem_append.mp ha with ha | ha
          · exact h.1 a ha
          · exact (nw a ha).back e
        · intro a ha b hb hab
          subst hab
          exact th a ha (nw a hb).1
      | cons x rL =>
        intro a ha
        rcases List.mem_append.mp ha with ha | ha
        · exact h a ha
        · rcases o a ha with ⟨_, y⟩ | ⟨_, ⟨_, y⟩ | y⟩
          · exact .inl (New.back y e)
          · exact .inl (y.back e)
          · exact old y
    | old n =>
      intro a ha
      rcases List.mem_append.mp ha with ha | ha
      · exact h a ha
      · rcases o a ha with ⟨_, y⟩ | ⟨_, ⟨_, y⟩ | y⟩
        · refine old ⟨?_, y.2⟩
          rw [List.mem_singleton.mp y.1]
          exact List.mem_cons_self
        · exact .inl (y.back e)
        · exact old ⟨List.mem_cons_of_mem _ y.1, y.2⟩
    | unk =>
      intro a ha
      rcases List.mem_append.mp ha with ha | ha
      · exact h a ha
      · rcases o a ha with ⟨_, y⟩ | ⟨_, ⟨_, y⟩ | y⟩
        · exact y.elim
        · exact .inl (y.back e)
        · exact old y
theorem AccOk.val {mg : Mg} {P : Fm} {g : Addr → Nat} {H H2 : Hp} {m : Md} {f : List Addr} {ds : List D} {vs : List V} {p : Addr} (h : AccOk P g H H2 m f) (r : RepL mg H2 ds vs f) (hp : H2 p = some (.lst vs)) (hn : H p = none) (hf : p ∉ f) : Val mg P g H H2 m.lc (.lst ds) (.ref p) := by
  have nw : New H H2 p := ⟨hn, by rw [hp]; trivial⟩
  have rr : Rep mg H2 (.lst ds) (.ref p) (p :: f) := by
    simp only [Rep]
    exact ⟨p, vs, f, rfl, hp, r, rfl⟩
  have gen : ∀ (L : List Nat), (∀ a ∈ f, New H H2 a ∨ Old P g L a) → ∀ nd : Bool, (nd = true → f.Nodup) → Val mg P g H H2 (.al true .new L nd) (.lst ds) (.ref p) := fun L hh nd hnd => by
    refine ⟨p :: f, rr, fun a ha => ?_, .cons hf hnd⟩
    rcases List.mem_cons.mp ha with rfl | ha
    · exact .inl ⟨rfl, nw⟩
    · exact .inr ⟨.inl fun e => by cases e; exact hf ha, (hh a ha).imp (fun y => ⟨rfl, y⟩) id⟩
  cases m with
  | flat =>
    obtain rfl : f = [] := h
    refine ⟨[p], rr, fun a ha => ?_, .of (by simp)⟩
    rw [List.mem_singleton.mp ha]
    exact .inl ⟨rfl, nw⟩
  | al fr rt L nd =>
    cases rt with
    | new =>
      cases L with
      | nil => exact gen [] (fun a ha => .inl (h.1 a ha)) nd h.2
      | cons x r => exact gen _ h false fun z => nomatch z
    | old n => exact gen _ h false fun z => nomatch z
    | unk => exact gen _ h false fun z => nomatch z

theorem RepL.updL {mg : Mg} {H : Hp} {a : Addr} {o : HO} {us : List V} {ds : List D} {vs : List V} {f : List Addr} (h : RepL mg H ds vs f) (hn : a ∉ f) (ha : H a = some (.lst us)) : RepL mg (upd H a o) ds vs f := by
  refine h.keep (fun b hb => ?_) ⟨fun b xs r => ?_, fun b o vs r => ?_⟩
  · have : b ≠ a := fun z => hn (by rw [← z]; exact hb)
    exact ⟨fun u r => by unfold Rd at r ⊢; rw [upd_ne this]; exact r, fun vs r => by rw [upd_ne this]; exact r⟩
  · have : b ≠ a := fun z => by
      rw [z] at r
      rcases r with r | ⟨_, r⟩ <;> rw [ha] at r <;> cases r
    unfold Rd at r ⊢
    rw [upd_ne this]
    exact r
  · have : b ≠ a := fun z => by rw [z, ha] at r; cases r
    rw [upd_ne this]
    exact r
section
variable {X : Cx} {W : L2.WX} {LL : List Nat} {Γ Γ1 : List Kd} {pos : Pos}
/-- the reading of a comprehension -/
theorem lc_read {mg : Mg} {wi : TI} {own : List (Str × Nat)} {si : List D → Option (List D)} {t : Tv} {c : List D → Option Bool} {se : Ev} {labs : List Nat} {me m2 : Md} {S : List Nat} {n : Nat} (hn : n ≠ 0) (hS : ∀ i ∈ S, i ∈ own.map (·.2))
    {P : Fm} {g : Addr → Nat} {ρ : List D} {σ : L2.St} {H : Hp} {d : D} {Q : VK} (s : Sta mg P LL Γ g ρ σ H) (e : eLc si t c se ρ = some d)
    (ki : ∀ ds (R : It → Hp → Prop), si ρ = some ds → (∀ J H', Ext H H' → ds.length ≤ sizeLine → Iter mg P g H H' J labs me ds → R J H') → wi σ H R)
    (q : ∀ v H', Ext H H' → Val mg P g H H' m2.lc d v → Q v H') :
    tLc wi (canG mg (wipeK Γ (own.map (·.2))) (me.kindI n) t Γ1 S) (canB mg LL Γ1 c) (canT mg LL Γ1 se m2) (own.map (·.2)) σ H Q := by
  obtain ⟨ds, e1, e⟩ := bind_some e
  obtain ⟨ys, e2, e⟩ := bind_some e
  cases e
  refine ki ds _ e1 fun J H1 x1 hz it => ?_
  obtain ⟨fpI, lb, walk⟩ := it
  intro Dp hD
  have s1 : Sta mg P LL Γ (relab g H H1 .non n n) ρ σ H1 := s.relab x1
  have hg1 : ∀ a, H a ≠ none → relab g H H1 .non n n a = g a := fun a h => relab_old h
  generalize eg1 : relab g H H1 .non n n = g1 at s1 hg1
  refine ⟨fun i m Hc => m = ds.length - i ∧ i ≤ ds.length ∧ ∃ done rest vs f, ys = done ++ rest ∧ lcL t c se ρ (ds.drop i) = some rest ∧ Hc Dp = some (.lst vs) ∧ vs.length ≤ i ∧ RepL mg Hc done vs f ∧ Dp ∉ f ∧ AccOk P g H Hc m2 f ∧ Ext H1 Hc,
    ⟨ds.length, rfl, Nat.zero_le _, [], ys, [], [], rfl, e2, upd_same, Nat.le_refl _, by simp [RepL], by simp, .nil, Ext.put hD⟩, ?_⟩
  rintro i m Hc ⟨rfl, hil, done, rest, vs, f, rfl, e3, hDc, hlen, rl, nD, acc, xc⟩
  obtain ⟨wk, wstop⟩ := walk Hc (xc.kept _)
  by_cases hi' : i < ds.length
  · refine .inr ?_
    obtain ⟨go, yl⟩ := wk i ds[i] (List.getElem?_eq_getElem hi')
    rw [List.drop_eq_getElem_cons hi'] at e3
    obtain ⟨ρ1, b, et, ec, hb⟩ := lcL_cons e3
    refine ⟨go, fun H' => ∃ m', m' < ds.length - i ∧ (m' = ds.length - (i + 1) ∧ i + 1 ≤ ds.length ∧ ∃ done' rest' vs f, done ++ rest = done' ++ rest' ∧ lcL t c se ρ (ds.drop (i + 1)) = some rest' ∧ H' Dp = some (.lst vs) ∧ vs.length ≤ i + 1 ∧ RepL mg H' done' vs f ∧ Dp ∉ f ∧ AccOk P g H H' m2 f ∧ Ext H1 H'), fun H' h => h, fun x H3 y => ?_⟩
    obtain ⟨x3, fx, r, of, sub⟩ := yl x H3 y
    have x13 : Ext H1 H3 := xc.trans x3
    have s3 : Sta mg P LL (wipeK Γ (own.map (·.2))) g1 ρ (wipe σ (own.map (·.2))) H3 := ⟨s1.loc.ext x13, Cells.wipe (s1.ext x13).cells _⟩
    refine ⟨P, LL, g1, ρ, ds[i], ρ1, s3, fps_cell s.loc r of hn (fun a ha => by rw [eg1]), et, fun σ4 s4 w4 => ⟨?_, ?_⟩⟩
    · rw [w4 _ hS]
      -- wiping twice
      apply List.ext_getElem?
      intro j
      rw [wipe_get, wipe_get]
      split
      · cases σ[j]? <;> rfl
      · rfl
    refine ⟨P, g1, ρ1, b, s4, ec, fun H4 x4 => ?_⟩
    have x34 : Ext Hc H4 := x3.trans x4
    rcases hb with ⟨rfl, y', r', ey, er, rfl⟩ | ⟨rfl, er⟩
    · refine iteT ⟨P, g1, ρ1, y', s4.ext x4, ey, fun v5 H5 x5 w5 => ?_⟩
      have x35 : Ext Hc H5 := x34.trans x5
      have hD5 : H5 Dp = some (.lst vs) := x35 _ _ hDc
      have x05 : Ext H H4 := x1.trans (xc.trans x34)
      obtain ⟨f', rf', acc', last⟩ := AccOk.add (mg := mg) (LL := LL) (acc.ext fun a ha u h => x35 a u h) (fun a ha z => rl.there a ha (x34.nope z)) x05 x5 w5 s.loc hg1 fun a L h0 o => by
        refine ⟨h0, ?_⟩
        by_cases hz0 : g1 a = 0
        · exact absurd h0 (s.loc.out a (o.2 hz0))
        · obtain ⟨u, eu, mu | fu⟩ := s1.loc.at_ a hz0
          · have := (xc.trans (x34.trans x5)) a u eu
            rw [this]; exact mu
          · exact absurd h0 (s.loc.fz a fu).1
      have hDf' : Dp ∉ f' := fun hm => by
        rcases last Dp hm with y | ⟨L, y⟩
        · have := y.1
          rw [x34 _ _ hDc] at this
          cases this
        · exact y.there s1.loc hD
      have nDf : Dp ∉ f ++ f' := fun hm => (List.mem_append.mp hm).elim nD hDf'
      refine ⟨vs, hD5, Nat.lt_of_le_of_lt hlen (Nat.lt_of_lt_of_le hi' hz), _, by omega, rfl, hi', done ++ [y'], r', vs ++ [v5], f ++ f', by simp, er, upd_same, by simp; omega, ?_, nDf, ?_, ?_⟩
      · exact ((rl.ext x35).append (.one rf')).updL nDf hD5
      · exact acc'.ext fun a ha u h => by rw [upd_ne (fun z => nDf (by rw [← z]; exact ha))]; exact h
      · intro a u h
        rw [upd_ne (ne_of_none h hD)]
        exact x35 a u (xc a u h)
    · refine iteF ⟨_, by omega, rfl, hi', done, rest, vs, f, rfl, er, x34 _ _ hDc, Nat.le_succ_of_le hlen, rl.ext x34, nD, acc.ext fun a ha u h => x34 a u h, xc.trans x34⟩
  · have : i = ds.length := by omega
    subst this
    refine .inl ⟨wstop, ?_⟩
    rw [List.drop_length] at e3
    cases e3
    have w := acc.val rl hDc (x1.nope hD) nD
    rw [← List.append_nil done] at w
    exact q _ Hc (x1.trans xc) w
theorem ex_lc {elt tg iter : Expr} {ifs : List Expr} {scope : Scope} {own : List (Str × Nat)} {si : List D → Option (List D)} {t : Tv} {c : List D → Option Bool} {se : Ev} {labs : List Nat} {me m2 : Md} {S : List Nat} (n : Nat)
    (hc : X.calm = true) (hN : X.N.Nodup) (hi : EI X LL Γ tg iter si labs me) (ok : BlkOk X.N X.env.scope scope own)
    (hg : ∀ (s : Shared) (H : Hp) (C : Addr) (cl : List (Str × Addr)) (fp : List Addr), EG (X.blk s H scope (compEnvC scope cl C X.env) fp) (wipeK Γ (own.map (·.2))) tg (me.kindI n) t Γ1 S)
    (ht : ∀ (s : Shared) (H : Hp) (C : Addr) (cl : List (Str × Addr)) (fp : List Addr), ETs (X.blk s H scope (compEnvC scope cl C X.env) fp) LL Γ1 ifs c)
    (he : ∀ (s : Shared) (H : Hp) (C : Addr) (cl : List (Str × Addr)) (fp : List Addr), EX (X.blk s H scope (compEnvC scope cl C X.env) fp) LL Γ1 elt se m2)
    (hS : ∀ i ∈ S, i ∈ own.map (·.2) := by decide) (hs : ∀ x, foldedSetIterable iter X.env x = pure x := by intro _; rfl) (hn : n ≠ 0 := by decide) :
    EX X LL Γ (.ListComp elt [⟨tg, iter, ifs, 0⟩] scope pos) (eLc si t c se) m2.lc := by
  obtain ⟨wi, pi, ki⟩ := hi
  refine ⟨_, pe_lc (g := canG X.vm (wipeK Γ (own.map (·.2))) (me.kindI n) t Γ1 S) (tt := canB X.vm LL Γ1 c) (te := canT X.vm LL Γ1 se m2) hc hN pi ok (fun s H C cl fp => eg_can (hg s H C cl fp)) (fun s H C cl fp => ets_can (ht s H C cl fp)) (fun s H C cl fp => ex_can (he s H C cl fp)) hs, fun P g ρ σ H d Q s e q => ?_⟩
  exact lc_read hn hS s e (fun ds R h => ki P g ρ σ H ds R s h) q
theorem sx_setLc {i : Nat} {y : Str} {py : Pos} {spos : Pos} {sc : Sc} {elt tg iter : Expr} {ifs : List Expr} {scope : Scope} {own : List (Str × Nat)} {si : List D → Option (List D)} {t : Tv} {c : List D → Option Bool} {se : Ev} {labs : List Nat} {me m2 : Md} {S : List Nat} (n n' k' : Nat)
    (hc : X.calm = true) (hN : X.N.Nodup) (hy : X.N[i]? = some y) (hyl : X.env.scope.names.lookup y = some .local)
    (hsw : swapsWith (.ListComp elt [⟨tg, iter, ifs, 0⟩] scope pos) (some (.Name y py)) spos.line X.env = pure true) (hi : EI X sc.LL Γ tg iter si labs me) (ok : BlkOk X.N X.env.scope scope own)
    (hg : ∀ (s : Shared) (H : Hp) (C : Addr) (cl : List (Str × Addr)) (fp : List Addr), EG (X.blk s H scope (compEnvC scope cl C X.env) fp) (wipeK Γ (own.map (·.2))) tg (me.kindI n) t Γ1 S)
    (ht : ∀ (s : Shared) (H : Hp) (C : Addr) (cl : List (Str × Addr)) (fp : List Addr), ETs (X.blk s H scope (compEnvC scope cl C X.env) fp) sc.LL Γ1 ifs c)
    (he : ∀ (s : Shared) (H : Hp) (C : Addr) (cl : List (Str × Addr)) (fp : List Addr), EX (X.blk s H scope (compEnvC scope cl C X.env) fp) sc.LL Γ1 elt se m2)
    (hS : ∀ i ∈ S, i ∈ own.map (·.2) := by decide) (hs : ∀ x, foldedSetIterable iter X.env x = pure x := by intro _; rfl) (hn : n ≠ 0 := by decide) (h1 : n' ≠ 0 := by decide) (h2 : k' ≠ 0 := by decide) :
    SX X W sc Γ (.Assign [.Name y py] (.ListComp elt [⟨tg, iter, ifs, 0⟩] scope pos) spos) (sSet i (eLc si t c se)) (Γ.set i (m2.lc.kind n' k')) := by
  obtain ⟨wi, pi, ki⟩ := hi
  refine ⟨_, ps_setLc (g := canG X.vm (wipeK Γ (own.map (·.2))) (me.kindI n) t Γ1 S) (tt := canB X.vm sc.LL Γ1 c) (te := canT X.vm sc.LL Γ1 se m2) hc hN hy hyl hsw pi ok (fun s H C cl fp => eg_can (hg s H C cl fp)) (fun s H C cl fp => ets_can (ht s H C cl fp)) (fun s H C cl fp => ex_can (he s H C cl fp)) hs, fun P g ρ σ H o De s e w => ?_⟩
  obtain ⟨d, e1, e⟩ := bind_some e
  cases e
  refine lc_read hn hS s e1 (fun ds R h => ki P g ρ σ H ds R s h) fun v H' x vl => ?_
  exact w (relab g H H' v n' k') _ H' (.relab x) ⟨s.loc.relab x, Cells.set i (s.cells.relab s.loc x) (vl.cell s.loc h1 h2)⟩
end
end VV

/-! ## VList -/
namespace VV
open PySem PySem.Spec PyProof.Rows L2

/-! ### parts of lists -/
section
variable {mg : Mg} {H : Hp}
theorem RepL.splitAt : ∀ {ds : List D} {vs : List V} {f : List Addr} (n : Nat), RepL mg H ds vs f → ∃ f1 f2, f = f1 ++ f2 ∧ RepL mg H (ds.take n) (vs.take n) f1 ∧ RepL mg H (ds.drop n) (vs.drop n) f2
  | ds, vs, f, 0, h => ⟨[], f, rfl, by simp [RepL], by simpa using h⟩
  | [], _, _, n + 1, h => by
    simp only [RepL] at h
    obtain ⟨rfl, rfl⟩ := h
    exact ⟨[], [], rfl, by simp [RepL], by simp [RepL]⟩
  | d :: ds, _, _, n + 1, h => by
    simp only [RepL] at h
    obtain ⟨v, r, f1, f2, rfl, h1, h2, rfl⟩ := h
    obtain ⟨g1, g2, rfl, a, b⟩ := RepL.splitAt n h2
    refine ⟨f1 ++ g1, g2, by simp, ?_, by simpa using b⟩
    simp only [List.take_succ_cons, RepL]
    exact ⟨v, _, f1, g1, rfl, h1, a, rfl⟩
def cutG {α : Type} (xs : List α) (lo hi : Option Int) : List α := (xs.drop (HT.sIx xs.length 0 lo)).take (HT.sIx xs.length xs.length hi - HT.sIx xs.length 0 lo)
theorem RepL.cut {ds : List D} {vs : List V} {f : List Addr} (lo hi : Option Int) (h : RepL mg H ds vs f) : ∃ f1 f' f2, f = f1 ++ f' ++ f2 ∧ RepL mg H (cutG ds lo hi) (cutV vs lo hi) f' := by
  unfold cutG cutV
  rw [h.length]
  obtain ⟨f1, g, rfl, _, b⟩ := h.splitAt (HT.sIx ds.length 0 lo)
  obtain ⟨g1, g2, rfl, c, _⟩ := b.splitAt (HT.sIx ds.length ds.length hi - HT.sIx ds.length 0 lo)
  exact ⟨f1, g1, g2, by simp, c⟩
theorem RepL.flats : ∀ {ds : List D} {vs : List V} {f : List Addr}, RepL mg H ds vs f → D.isFlatL ds = true → RepL mg H ds vs [] := fun h e => by
  have := h.flat e
  subst this
  exact h
theorem RepL.rep {ds : List D} {vs : List V} (h : RepL mg H ds vs []) : ∀ k : Nat, RepL mg H (List.replicate k ds).flatten (List.replicate k vs).flatten []
  | 0 => by simp [RepL]
  | k + 1 => by
    rw [List.replicate_succ, List.replicate_succ, List.flatten_cons, List.flatten_cons]
    exact h.append (RepL.rep h k)
end
/-- what a list or tuple has -/
theorem seq_of {mg : Mg} {P : Fm} {g : Addr → Nat} {H H1 : Hp} {m : Md} {l : List D} {v : V} (h : Val mg P g H H1 m (.lst l) v) : ∃ a vs, v = .ref a ∧ H1 a = some (.lst vs) ∧ vs.length = l.length ∧ (∀ lo hi, ValL mg P g H H1 m.child (cutG l lo hi) (cutV vs lo hi)) ∧ ValL mg P g H H1 m.child l vs := by
  obtain ⟨fp, r, o, lb, ch⟩ := h.labs
  simp only [Rep] at r
  obtain ⟨a, vs, f, rfl, ha, h2, rfl⟩ := r
  refine ⟨a, vs, rfl, ha, h2.length, fun lo hi => ?_, ?_⟩
  · obtain ⟨f1, f', f2, rfl, r'⟩ := h2.cut lo hi
    exact ⟨f', r', ch f' ⟨f1, f2, .inl ⟨a, rfl, rfl⟩⟩⟩
  · exact ⟨f, h2, ch f ⟨[], [], .inl ⟨a, rfl, by simp⟩⟩⟩
theorem seq_ofT {mg : Mg} {P : Fm} {g : Addr → Nat} {H H1 : Hp} {m : Md} {l : List D} {v : V} (h : Val mg P g H H1 m (.tup l) v) : ∃ a vs, v = .ref a ∧ Rd H1 a (.tup vs) ∧ vs.length = l.length ∧ (∀ lo hi, ValL mg P g H H1 m.child (cutG l lo hi) (cutV vs lo hi)) ∧ ValL mg P g H H1 m.child l vs := by
  obtain ⟨fp, r, o, lb, ch⟩ := h.labs
  have r0 := r
  simp only [Rep] at r
  obtain ⟨a, vs, rfl, ha, h2⟩ := r
  have nt : ∀ b, V.ref a = .ref b → b ∉ fp := fun b e => by cases e; exact r0.notup ha
  refine ⟨a, vs, rfl, ha, h2.length, fun lo hi => ?_, ?_⟩
  · obtain ⟨f1, f', f2, rfl, r'⟩ := h2.cut lo hi
    exact ⟨f', r', ch f' ⟨f1, f2, .inr ⟨rfl, nt⟩⟩⟩
  · exact ⟨fp, h2, ch fp ⟨[], [], .inr ⟨by simp, nt⟩⟩⟩
theorem seq_ofS {mg : Mg} {P : Fm} {g : Addr → Nat} {H H1 : Hp} {m : Md} {l : List D} {v : V} (h : Val mg P g H H1 m (.scr l) v) : ∃ a vs, v = .ref a ∧ ScrAt mg.K H1 a vs ∧ vs.length = l.length ∧ RepL mg H1 l vs [] := by
  obtain ⟨fp, r, _⟩ := h.labs
  simp only [Rep] at r
  obtain ⟨a, vs, rfl, ha, h2, _⟩ := r
  exact ⟨a, vs, rfl, ha, h2.length, h2⟩

/-! ### slices -/
def EO (X : Cx) (LL : List Nat) (Γ : List Kd) (e : Option Expr) (sem : List D → Option (Option Int)) : Prop :=
  ∃ t, PO X e t ∧ ∀ P g ρ σ H r Q, Sta X.vm P LL Γ g ρ σ H → sem ρ = some r → (∀ H', Ext H H' → Q r H') → t σ H Q
def oNone : List D → Option (Option Int) := fun _ => some none
def oSome (s : Ev) : List D → Option (Option Int) := fun ρ => do match (← s ρ) with
  | .int i => some (some i)
  | _ => none
def dSl : D → Option Int → Option Int → Option D
  | .lst l, lo, hi => some (.lst (cutG l lo hi))
  | .scr l, lo, hi => some (.lst (cutG l lo hi))
  | .tup l, lo, hi => if HT.sIx l.length 0 lo = 0 ∧ HT.sIx l.length l.length hi = l.length then none else some (.tup (cutG l lo hi))
  | .str z, lo, hi => if z.length ≤ sizeLine then some (.str (cutS z lo hi)) else none
  | _, _, _ => none
def eSl (s : Ev) (lo hi : List D → Option (Option Int)) : Ev := fun ρ => do
  let d ← s ρ
  let l ← lo ρ
  let h ← hi ρ
  dSl d l h
section
variable {X : Cx} {LL : List Nat} {Γ : List Kd} {pos p2 : Pos} {e : Expr} {se : Ev} {m : Md} {lo hi : Option Expr} {sl sh : List D → Option (Option Int)}
theorem eo_none : EO X LL Γ none oNone := ⟨_, po_none, fun P g ρ σ H r Q s e q => by cases e; exact q H Ext.refl⟩
theorem eo_some (h : EX X LL Γ e se m) : EO X LL Γ (some e) (oSome se) := by
  obtain ⟨t, p, k⟩ := h
  refine ⟨_, po_some p, fun P g ρ σ H r Q s e q => ?_⟩
  obtain ⟨d, e1, e⟩ := bind_some e
  refine k P g ρ σ H d _ s e1 fun v H' x w => ?_
  obtain ⟨fp, rr, _⟩ := w.labs
  split at e
  · cases e
    obtain rfl := rInt rr
    exact ⟨_, rfl, q H' x⟩
  · cases e
theorem slice_parts (he : EX X LL Γ e se m) (hl : EO X LL Γ lo sl) (hh : EO X LL Γ hi sh) : ∃ te tl th, PE X e te ∧ PO X lo tl ∧ PO X hi th ∧ ∀ (P : Fm) g ρ σ H (Q : V → Option Int → Option Int → Hp → Prop) d l h, Sta X.vm P LL Γ g ρ σ H → se ρ = some d → sl ρ = some l → sh ρ = some h →
    (∀ v H', Ext H H' → Val X.vm P g H H' m d v → Q v l h H') → te σ H fun x H1 => tl σ H1 fun l H2 => th σ H2 fun u H3 => Q x l u H3 := by
  obtain ⟨te, pe, ke⟩ := he
  obtain ⟨tl, pl, kl⟩ := hl
  obtain ⟨th, ph, kh⟩ := hh
  refine ⟨te, tl, th, pe, pl, ph, fun P g ρ σ H Q d l h s e1 e2 e3 q => ?_⟩
  refine ke P g ρ σ H d _ s e1 fun v H1 x1 w => ?_
  refine kl P g ρ σ H1 l _ (s.ext x1) e2 fun H2 x2 => ?_
  refine kh P g ρ σ H2 h _ (s.ext (x1.trans x2)) e3 fun H3 x3 => ?_
  exact q v H3 (x1.trans (x2.trans x3)) (w.ext (x2.trans x3))
/-- of a list -/
theorem ex_slL (he : EX X LL Γ e se m) (hl : EO X LL Γ lo sl) (hh : EO X LL Γ hi sh) : EX X LL Γ (.Subscript e (.Slice lo hi none p2) pos) (eSl (eChk D.isLst se) sl sh) m.child.lst := by
  obtain ⟨te, tl, th, pe, pl, ph, k⟩ := slice_parts he hl hh
  refine ⟨_, pe_slice sl_list pe pl ph, fun P g ρ σ H d Q s e q => ?_⟩
  obtain ⟨d0, e1, e⟩ := bind_some e
  obtain ⟨l, e2, e⟩ := bind_some e
  obtain ⟨h, e3, e⟩ := bind_some e
  obtain ⟨e1, hc⟩ := Option.filter_eq_some_iff.mp e1
  refine k P g ρ σ H (fun x l u H3 => rSlL X.K x l u H3 Q) d0 l h s e1 e2 e3 fun v H' x w => ?_
  cases d0 with
  | lst ds =>
    cases e
    obtain ⟨a, vs, rfl, ha, _, cut, _⟩ := seq_of w
    exact ⟨a, vs, rfl, SqL.of ha, fun p hp => q _ _ (x.trans (Ext.put hp)) (val_lst (cut l h) x hp)⟩
  | _ => cases hc
/-- of a tuple (not the whole of it) -/
theorem ex_slT (he : EX X LL Γ e se m) (hl : EO X LL Γ lo sl) (hh : EO X LL Γ hi sh) : EX X LL Γ (.Subscript e (.Slice lo hi none p2) pos) (eSl (eChk D.isTup se) sl sh) m.child.tup := by
  obtain ⟨te, tl, th, pe, pl, ph, k⟩ := slice_parts he hl hh
  refine ⟨_, pe_slice sl_tup pe pl ph, fun P g ρ σ H d Q s e q => ?_⟩
  obtain ⟨d0, e1, e⟩ := bind_some e
  obtain ⟨l, e2, e⟩ := bind_some e
  obtain ⟨h, e3, e⟩ := bind_some e
  obtain ⟨e1, hc⟩ := Option.filter_eq_some_iff.mp e1
  refine k P g ρ σ H (fun x l u H3 => rSlT X.K x l u H3 Q) d0 l h s e1 e2 e3 fun v H' x w => ?_
  cases d0 with
  | tup ds =>
    unfold dSl at e
    dsimp only at e
    split at e
    · cases e
    · cases e
      obtain ⟨a, vs, rfl, ha, hlen, cut, _⟩ := seq_ofT w
      exact ⟨a, vs, rfl, .inl ha, by rw [hlen]; assumption, fun p hp => q _ _ (x.trans (Ext.put hp)) (val_tup (cut l h) hp)⟩
  | _ => cases hc
/-- of a text -/
theorem ex_slS (he : EX X LL Γ e se m) (hl : EO X LL Γ lo sl) (hh : EO X LL Γ hi sh) : EX X LL Γ (.Subscript e (.Slice lo hi none p2) pos) (eSl (eChk D.isStr se) sl sh) .flat := by
  obtain ⟨te, tl, th, pe, pl, ph, k⟩ := slice_parts he hl hh
  refine ⟨_, pe_slice sl_str pe pl ph, fun P g ρ σ H d Q s e q => ?_⟩
  obtain ⟨d0, e1, e⟩ := bind_some e
  obtain ⟨l, e2, e⟩ := bind_some e
  obtain ⟨h, e3, e⟩ := bind_some e
  obtain ⟨e1, hc⟩ := Option.filter_eq_some_iff.mp e1
  refine k P g ρ σ H (fun x l u H3 => rSlS x l u H3 Q) d0 l h s e1 e2 e3 fun v H' x w => ?_
  cases d0 with
  | str z =>
    unfold dSl at e
    dsimp only at e
    split at e
    · cases e
      obtain ⟨fp, rr, _⟩ := w.labs
      obtain rfl := rStr rr
      exact ⟨z, rfl, by assumption, q _ H' x (val_flat rep_str)⟩
    · cases e
  | _ => cases hc
end

/-! ### [x] * n, a + b, list(a), tuple(a) -/
def dRep : List D → Option D
  | [.lst l, .int k] => if D.isFlatL l ∧ -1000000 ≤ k ∧ k ≤ 1000000 ∧ l.length * k.toNat ≤ 1000000 then some (.lst (List.replicate k.toNat l).flatten) else none
  | _ => none
def dCatF : List D → Option D
  | [.lst l, .lst r] => if D.isFlatL l ∧ D.isFlatL r ∧ l.length + r.length ≤ 1000000 then some (.lst (l ++ r)) else none
  | _ => none
def dCat : List D → Option D
  | [.lst l, .lst r] => if l.length + r.length ≤ 1000000 then some (.lst (l ++ r)) else none
  | _ => none
theorem line_of {n : Nat} (h : n ≤ 1000000) : n ≤ sizeLine := by rw [sizeLine_eq]; omega
section
variable {X : Cx} {LL : List Nat} {Γ : List Kd} {pos p : Pos} {a b : Expr} {sa sb : Ev} {ma mb : Md}
theorem ex_rep (ha : EX X LL Γ a sa ma) (hb : EX X LL Γ b sb mb) : EX X LL Γ (.BinOp a .Mult b pos) (eP dRep (aCons sa (aCons sb aNil))) (.al false .new [] true) := by
  obtain ⟨ta, tb, pa, pb, k⟩ := two ha hb
  refine ⟨_, pe_op op_rep pa pb, fun P g ρ σ H d Q s e q => ?_⟩
  obtain ⟨ds, e1, e⟩ := bind_some e
  refine k P g ρ σ H ds _ s e1 fun d1 d2 v w H' eds x va vb vl => ?_
  subst eds
  unfold dRep at e
  split at e
  · split at e
    · rename_i l n eq hc
      cases eq
      cases e
      obtain ⟨fp, rr, _⟩ := vb.labs
      obtain rfl := rInt rr
      obtain ⟨c, vs, rfl, hv, hlen, _, fl, rl, _⟩ := seq_of va
      have r0 := rl.flats hc.1
      refine ⟨c, n, vs, rfl, rfl, hv, by omega, by omega, ?_, fun p hp => ?_⟩
      · rw [hlen]; exact line_of hc.2.2.2
      · exact q _ _ (x.trans (Ext.put hp)) (val_lst (m := .flat) ⟨[], r0.rep _, rfl⟩ x hp)
    · cases e
  · cases e
theorem ex_catF (ha : EX X LL Γ a sa ma) (hb : EX X LL Γ b sb mb) : EX X LL Γ (.BinOp a .Add b pos) (eP dCatF (aCons sa (aCons sb aNil))) (.al false .new [] true) := by
  obtain ⟨ta, tb, pa, pb, k⟩ := two ha hb
  refine ⟨_, pe_op op_cat pa pb, fun P g ρ σ H d Q s e q => ?_⟩
  obtain ⟨ds, e1, e⟩ := bind_some e
  refine k P g ρ σ H ds _ s e1 fun d1 d2 v w H' eds x va vb vl => ?_
  subst eds
  unfold dCatF at e
  split at e
  · split at e
    · rename_i l r eq hc
      cases eq
      cases e
      obtain ⟨c, vs, rfl, hv, hlen, _, fl, rl, _⟩ := seq_of va
      obtain ⟨c', vs', rfl, hv', hlen', _, fl', rl', _⟩ := seq_of vb
      refine ⟨c, c', vs, vs', rfl, rfl, hv, hv', ?_, fun p hp => ?_⟩
      · rw [hlen, hlen']; exact line_of hc.2.2
      · exact q _ _ (x.trans (Ext.put hp)) (val_lst (m := .flat) ⟨[], (rl.flats hc.1).append (rl'.flats hc.2.1), rfl⟩ x hp)
    · cases e
  · cases e
def Md.cat : Md → Md → Md
  | .flat, .flat => .al false .new [] true
  | .al fr _ L _, .flat => .al fr .new L false
  | .flat, .al fr _ L _ => .al fr .new L false
  | .al fr _ L _, .al fr' _ L' _ => .al (fr || fr') .new (L ++ L') false
theorem ex_cat (ha : EX X LL Γ a sa ma) (hb : EX X LL Γ b sb mb) : EX X LL Γ (.BinOp a .Add b pos) (eP dCat (aCons sa (aCons sb aNil))) (ma.child.cat mb.child) := by
  obtain ⟨ta, tb, pa, pb, k⟩ := two ha hb
  refine ⟨_, pe_op op_cat pa pb, fun P g ρ σ H d Q s e q => ?_⟩
  obtain ⟨ds, e1, e⟩ := bind_some e
  refine k P g ρ σ H ds _ s e1 fun d1 d2 v w H' eds x va vb vl => ?_
  subst eds
  unfold dCat at e
  split at e
  · split at e
    · rename_i l r eq hc
      cases eq
      cases e
      obtain ⟨c, vs, rfl, hv, hlen, _, fl, rl, o1⟩ := seq_of va
      obtain ⟨c', vs', rfl, hv', hlen', _, fl', rl', o2⟩ := seq_of vb
      refine ⟨c, c', vs, vs', rfl, rfl, hv, hv', ?_, fun p hp => ?_⟩
      · rw [hlen, hlen']; exact line_of hc
      · have rr := rl.append rl'
        generalize ma.child = m1 at o1 q ⊢
        generalize mb.child = m2 at o2 q ⊢
        cases m1 with
        | flat =>
          obtain rfl : fl = [] := o1
          cases m2 with
          | flat =>
            obtain rfl : fl' = [] := o2
            exact q _ _ (x.trans (Ext.put hp)) (val_lst (m := .flat) ⟨[], rr, rfl⟩ x hp)
          | al fr rt L nd => exact q _ _ (x.trans (Ext.put hp)) (val_lst (m := .al fr .unk L false) ⟨_, rr, o2.1, fun z => nomatch z⟩ x hp)
        | al fr rt L nd =>
          cases m2 with
          | flat =>
            obtain rfl : fl' = [] := o2
            rw [List.append_nil] at rr
            exact q _ _ (x.trans (Ext.put hp)) (val_lst (m := .al fr .unk L false) ⟨_, rr, o1.1, fun z => nomatch z⟩ x hp)
          | al fr' rt' L' nd' =>
            refine q _ _ (x.trans (Ext.put hp)) (val_lst (m := .al (fr || fr') .unk (L ++ L') false) ⟨_, rr, fun a ha => ?_, fun z => nomatch z⟩ x hp)
            rcases List.mem_append.mp ha with ha | ha
            · exact (o1.1 a ha).imp (fun ⟨x, y⟩ => ⟨by rw [x]; rfl, y⟩) fun o => ⟨List.mem_append_left _ o.1, o.2⟩
            · exact (o2.1 a ha).imp (fun ⟨x, y⟩ => ⟨by rw [x]; cases fr <;> rfl, y⟩) fun o => ⟨List.mem_append_right _ o.1, o.2⟩
    · cases e
  · cases e
/-- list(e) -/
def dList : List D → Option D
  | [.lst l] => some (.lst l)
  | [.tup l] => some (.lst l)
  | _ => none
/-- calls of one argument by its own value -/
theorem one_arg {sem : Ev} {m : Md} {t : TE} {P : Fm} {g : Addr → Nat} {ρ : List D} {σ : L2.St} {H : Hp} {ds : List D} {Q : List V → Hp → Prop}
    (k : ∀ P g ρ σ H d Q, Sta X.vm P LL Γ g ρ σ H → sem ρ = some d → (∀ v H', Ext H H' → Val X.vm P g H H' m d v → Q v H') → t σ H Q)
    (s : Sta X.vm P LL Γ g ρ σ H) (e1 : aCons sem aNil ρ = some ds) (q : ∀ d v H', ds = [d] → Ext H H' → Val X.vm P g H H' m d v → Q [v] H') : tCons t tNil σ H Q := by
  obtain ⟨d, e2, e1⟩ := bind_some e1
  obtain ⟨r, e3, e1⟩ := bind_some e1
  cases e3
  cases e1
  exact k P g ρ σ H d _ s e2 fun v H' x w => q d v H' rfl x w
theorem ex_list {x : Str} (hg : Gl X x) (hm : X.mg x = none) (hv : bootBuiltins x = some (.type "list")) (ha : EX X LL Γ a sa ma) (hn : x ≠ "__name__" := by decide) (hdb : (x == ("__debug__" : Str)) = false := by decide)
    (he : starEach [a] X.env = (false, eval a X.env) :: starEach [] X.env := by rfl) : EX X LL Γ (.Call (.Name x p) [a] [] pos) (eP dList (aCons sa aNil)) ma.child.lst := by
  obtain ⟨t, pt, k⟩ := ha
  refine ⟨_, pe_callTy call_list_of hg hm hv (pa_cons pt pa_nil he) hn hdb he, fun P g ρ σ H d Q s e q => ?_⟩
  obtain ⟨ds, e1, e⟩ := bind_some e
  refine one_arg k s e1 fun d0 v H1 eds x1 w => ?_
  subst eds
  cases d0 with
  | lst l =>
    cases e
    obtain ⟨c, vs, rfl, hv, _, _, vl⟩ := seq_of w
    exact ⟨c, vs, rfl, .inl (SqL.of hv), fun p hp => q _ _ (x1.trans (Ext.put hp)) (val_lst vl x1 hp)⟩
  | tup l =>
    cases e
    obtain ⟨c, vs, rfl, hv, _, _, vl⟩ := seq_ofT w
    exact ⟨c, vs, rfl, .inr (.inl hv), fun p hp => q _ _ (x1.trans (Ext.put hp)) (val_lst vl x1 hp)⟩
  | _ => cases e
/-- tuple(e) -/
def dTuple : List D → Option D
  | [.lst l] => some (.tup l)
  | [.tup l] => some (.tup l)
  | _ => none
theorem ex_tuple {x : Str} (hg : Gl X x) (hm : X.mg x = none) (hv : bootBuiltins x = some (.type "tuple")) (ha : EX X LL Γ a sa ma) (hn : x ≠ "__name__" := by decide) (hdb : (x == ("__debug__" : Str)) = false := by decide)
    (he : starEach [a] X.env = (false, eval a X.env) :: starEach [] X.env := by rfl) : EX X LL Γ (.Call (.Name x p) [a] [] pos) (eP dTuple (aCons sa aNil)) ma.child.tup := by
  obtain ⟨t, pt, k⟩ := ha
  refine ⟨_, pe_callTy call_tuple_of hg hm hv (pa_cons pt pa_nil he) hn hdb he, fun P g ρ σ H d Q s e q => ?_⟩
  obtain ⟨ds, e1, e⟩ := bind_some e
  refine one_arg k s e1 fun d0 v H1 eds x1 w => ?_
  subst eds
  cases d0 with
  | lst l =>
    cases e
    obtain ⟨c, vs, rfl, hv, _, _, vl⟩ := seq_of w
    exact ⟨c, vs, rfl, .inl ⟨SqL.of hv, fun p hp => q _ _ (x1.trans (Ext.put hp)) (val_tup vl hp)⟩⟩
  | tup l =>
    cases e
    obtain ⟨c, vs, rfl, hv, _, _, fp, r, o⟩ := seq_ofT w
    refine ⟨c, vs, rfl, .inr ⟨.inl hv, q _ _ x1 ?_⟩⟩
    have rr : Rep X.vm H1 (.tup l) (.ref c) fp := by
      simp only [Rep]
      exact ⟨c, vs, rfl, hv, r⟩
    generalize ma.child = m1 at o ⊢
    cases m1 with
    | flat =>
      obtain rfl : fp = [] := o
      exact rr
    | al fr rt L nd => exact ⟨fp, rr, fun a ha => .inr ⟨.inr rfl, o.1 a ha⟩, .unk o.2⟩
  | _ => cases e
end

/-! ### numbers from numbers, bools, lists -/
def dIntC : List D → Option D
  | [.int i] => some (.int i)
  | [.bl b] => some (.int (if b then 1 else 0))
  | _ => none
def dAbs : List D → Option D
  | [.int i] => some (.int (if i < 0 then -i else i))
  | _ => none
def dMax2 : List D → Option D
  | [.int i, .int j] => some (.int (if j > i then j else i))
  | _ => none
def dMin2 : List D → Option D
  | [.int i, .int j] => some (.int (if j < i then j else i))
  | _ => none
def intsOf : List D → Option (List Int)
  | [] => some []
  | .int i :: r => (intsOf r).map (i :: ·)
  | _ :: _ => none
def boolsOf : List D → Option (List Bool)
  | [] => some []
  | .bl i :: r => (boolsOf r).map (i :: ·)
  | _ :: _ => none
theorem intsOf_rep {mg : Mg} {H : Hp} : ∀ {l : List D} {ns : List Int} {vs : List V} {f : List Addr}, intsOf l = some ns → RepL mg H l vs f → vs = ns.map V.int
  | [], _, _, _, e, h => by simp only [RepL] at h; cases e; rw [h.1]; rfl
  | d :: r, _, _, _, e, h => by
    simp only [RepL] at h
    obtain ⟨v, vr, f1, f2, rfl, h1, h2, _⟩ := h
    unfold intsOf at e
    split at e
    · rename_i eq; cases eq
    · rename_i eq
      cases eq
      obtain ⟨ns, e1, rfl⟩ := Option.map_eq_some_iff.mp e
      rw [rInt h1, intsOf_rep e1 h2]; rfl
    · cases e
theorem boolsOf_rep {mg : Mg} {H : Hp} : ∀ {l : List D} {ns : List Bool} {vs : List V} {f : List Addr}, boolsOf l = some ns → RepL mg H l vs f → vs = ns.map V.bl
  | [], _, _, _, e, h => by simp only [RepL] at h; cases e; rw [h.1]; rfl
  | d :: r, _, _, _, e, h => by
    simp only [RepL] at h
    obtain ⟨v, vr, f1, f2, rfl, h1, h2, _⟩ := h
    unfold boolsOf at e
    split at e
    · rename_i eq; cases eq
    · rename_i eq
      cases eq
      obtain ⟨ns, e1, rfl⟩ := Option.map_eq_some_iff.mp e
      rw [rBl h1, boolsOf_rep e1 h2]; rfl
    · cases e
def itemsOf : D → Option (List D)
  | .lst l => some l
  | .scr l => some l
  | _ => none
def dSum : List D → Option D
  | [d] => do some (.int (← intsOf (← itemsOf d)).sum)
  | _ => none
def dMaxL : List D → Option D
  | [d] => do some (.int (← (← intsOf (← itemsOf d)).max?))
  | _ => none
def dMinL : List D → Option D
  | [d] => do some (.int (← (← intsOf (← itemsOf d)).min?))
  | _ => none
def dAny : List D → Option D
  | [d] => do some (.bl ((← boolsOf (← itemsOf d)).any id))
  | _ => none
def dAll : List D → Option D
  | [d] => do some (.bl ((← boolsOf (← itemsOf d)).all id))
  | _ => none
section
variable {X : Cx}
theorem items_sq {mg : Mg} {H : Hp} {d : D} {l : List D} {v : V} {f : List Addr} (e : itemsOf d = some l) (h : Rep mg H d v f) : ∃ a vs f', v = .ref a ∧ SqL mg.K H a vs ∧ RepL mg H l vs f' := by
  cases d with
  | lst l' =>
    cases e
    simp only [Rep] at h
    obtain ⟨a, vs, f', rfl, ha, h2, _⟩ := h
    exact ⟨a, vs, f', rfl, SqL.of ha, h2⟩
  | scr l' =>
    cases e
    simp only [Rep] at h
    obtain ⟨a, vs, rfl, ha, h2, _⟩ := h
    exact ⟨a, vs, [], rfl, ha.sq, h2⟩
  | _ => cases e
theorem cp_int1 : CP X (fun xs H Q => (∃ i, xs = [.int i] ∧ Q (.int i) H) ∨ ∃ k, xs = [.bl k] ∧ Q (.int (if k then 1 else 0)) H) dIntC toFlat := by
  intro P LL g H H1 m ds vs d Q l x vl e q
  obtain ⟨fp, r⟩ := vl.rep
  unfold dIntC at e
  split at e
  · cases e
    obtain ⟨v, rfl, h⟩ := repL1 r
    exact .inl ⟨_, by rw [rInt h], q _ H1 Ext.refl (val_flat rep_int)⟩
  · cases e
    obtain ⟨v, rfl, h⟩ := repL1 r
    exact .inr ⟨_, by rw [rBl h], q _ H1 Ext.refl (val_flat rep_int)⟩
  · cases e
theorem cp_abs : CP X (fun xs H Q => ∃ i, xs = [.int i] ∧ Q (.int (if i < 0 then -i else i)) H) dAbs toFlat := by
  intro P LL g H H1 m ds vs d Q l x vl e q
  obtain ⟨fp, r⟩ := vl.rep
  unfold dAbs at e
  split at e
  · cases e
    obtain ⟨v, rfl, h⟩ := repL1 r
    exact ⟨_, by rw [rInt h], q _ H1 Ext.refl (val_flat rep_int)⟩
  · cases e
theorem cp_max2 : CP X (fun xs H Q => ∃ i j, xs = [.int i, .int j] ∧ Q (.int (if j > i then j else i)) H) dMax2 toFlat := by
  intro P LL g H H1 m ds vs d Q l x vl e q
  obtain ⟨fp, r⟩ := vl.rep
  unfold dMax2 at e
  split at e
  · cases e
    obtain ⟨v, w, _, _, rfl, h, h2, _⟩ := repL2 r
    exact ⟨_, _, by rw [rInt h, rInt h2], q _ H1 Ext.refl (val_flat rep_int)⟩
  · cases e
theorem cp_min2 : CP X (fun xs H Q => ∃ i j, xs = [.int i, .int j] ∧ Q (.int (if j < i then j else i)) H) dMin2 toFlat := by
  intro P LL g H H1 m ds vs d Q l x vl e q
  obtain ⟨fp, r⟩ := vl.rep
  unfold dMin2 at e
  split at e
  · cases e
    obtain ⟨v, w, _, _, rfl, h, h2, _⟩ := repL2 r
    exact ⟨_, _, by rw [rInt h, rInt h2], q _ H1 Ext.refl (val_flat rep_int)⟩
  · cases e
theorem cp_sum : CP X (rSum X.K) dSum toFlat := by
  intro P LL g H H1 m ds vs d Q l x vl e q
  obtain ⟨fp, r⟩ := vl.rep
  unfold dSum at e
  split at e
  · obtain ⟨its, e2, e⟩ := bind_some e
    obtain ⟨ns, e1, e⟩ := bind_some e
    cases e
    obtain ⟨v, rfl, h⟩ := repL1 r
    obtain ⟨a, us, f', rfl, sq, rl⟩ := items_sq e2 h
    rw [intsOf_rep e1 rl] at sq
    exact ⟨a, ns, rfl, sq, q _ H1 Ext.refl (val_flat rep_int)⟩
  · cases e
theorem cp_maxL : CP X (rMax X.K) dMaxL toFlat := by
  intro P LL g H H1 m ds vs d Q l x vl e q
  obtain ⟨fp, r⟩ := vl.rep
  unfold dMaxL at e
  split at e
  · obtain ⟨its, e3, e⟩ := bind_some e
    obtain ⟨ns, e2, e⟩ := bind_some e
    obtain ⟨k, e1, e⟩ := bind_some e
    cases e
    obtain ⟨v, rfl, h⟩ := repL1 r
    obtain ⟨a, us, f', rfl, sq, rl⟩ := items_sq e3 h
    rw [intsOf_rep e2 rl] at sq
    obtain ⟨hm, hk⟩ := List.max?_eq_some_iff.mp e1
    refine ⟨a, ns, rfl, sq, List.length_pos_of_mem hm, fun k' hm' hk' => ?_⟩
    have : k' = k := Int.le_antisymm (hk k' hm') (hk' k hm)
    rw [this]
    exact q _ H1 Ext.refl (val_flat rep_int)
  · cases e
theorem cp_minL : CP X (rMin X.K) dMinL toFlat := by
  intro P LL g H H1 m ds vs d Q l x vl e q
  obtain ⟨fp, r⟩ := vl.rep
  unfold dMinL at e
  split at e
  · obtain ⟨its, e3, e⟩ := bind_some e
    obtain ⟨ns, e2, e⟩ := bind_some e
    obtain ⟨k, e1, e⟩ := bind_some e
    cases e
    obtain ⟨v, rfl, h⟩ := repL1 r
    obtain ⟨a, us, f', rfl, sq, rl⟩ := items_sq e3 h
    rw [intsOf_rep e2 rl] at sq
    obtain ⟨hm, hk⟩ := List.min?_eq_some_iff.mp e1
    refine ⟨a, ns, rfl, sq, List.length_pos_of_mem hm, fun k' hm' hk' => ?_⟩
    have : k' = k := Int.le_antisymm (hk' k hm) (hk k' hm')
    rw [this]
    exact q _ H1 Ext.refl (val_flat rep_int)
  · cases e
theorem cp_any : CP X (rAny X.K) dAny toFlat := by
  intro P LL g H H1 m ds vs d Q l x vl e q
  obtain ⟨fp, r⟩ := vl.rep
  unfold dAny at e
  split at e
  · obtain ⟨its, e2, e⟩ := bind_some e
    obtain ⟨ns, e1, e⟩ := bind_some e
    cases e
    obtain ⟨v, rfl, h⟩ := repL1 r
    obtain ⟨a, us, f', rfl, sq, rl⟩ := items_sq e2 h
    rw [boolsOf_rep e1 rl] at sq
    exact ⟨a, ns, rfl, sq, q _ H1 Ext.refl (val_flat rep_bl)⟩
  · cases e
theorem cp_all : CP X (rAll X.K) dAll toFlat := by
  intro P LL g H H1 m ds vs d Q l x vl e q
  obtain ⟨fp, r⟩ := vl.rep
  unfold dAll at e
  split at e
  · obtain ⟨its, e2, e⟩ := bind_some e
    obtain ⟨ns, e1, e⟩ := bind_some e
    cases e
    obtain ⟨v, rfl, h⟩ := repL1 r
    obtain ⟨a, us, f', rfl, sq, rl⟩ := items_sq e2 h
    rw [boolsOf_rep e1 rl] at sq
    exact ⟨a, ns, rfl, sq, q _ H1 Ext.refl (val_flat rep_bl)⟩
  · cases e
end
end VV

/-! ## VMut -/
namespace VV
open PySem PySem.Spec PyProof.Rows L2

/-! ### zip, enumerate -/
def Md.pair : Md → Md → Md
  | .flat, .flat => .flat
  | .al fr _ L _, .flat => .al fr .unk L false
  | .flat, .al fr _ L _ => .al fr .unk L false
  | .al fr _ L _, .al fr' _ L' _ => .al (fr || fr') .unk (L ++ L') false
theorem fps_pair {P : Fm} {g : Addr → Nat} {H H1 : Hp} {m m' : Md} {f f' : List Addr} (h : Fps P g H H1 m f) (h' : Fps P g H H1 m' f') : Fps P g H H1 (m.pair m') (f ++ f') := by
  cases m with
  | flat =>
    obtain rfl : f = [] := h
    cases m' with
    | flat => exact h'
    | al fr rt L nd => exact ⟨h'.1, fun z => nomatch z⟩
  | al fr rt L nd =>
    cases m' with
    | flat =>
      obtain rfl : f' = [] := h'
      rw [List.append_nil]
      exact ⟨h.1, fun z => nomatch z⟩
    | al fr' rt' L' nd' =>
      refine ⟨fun a ha => ?_, fun z => nomatch z⟩
      rcases List.mem_append.mp ha with ha | ha
      · exact (h.1 a ha).imp (fun ⟨x, y⟩ => ⟨by rw [x]; rfl, y⟩) fun o => ⟨List.mem_append_left _ o.1, o.2⟩
      · exact (h'.1 a ha).imp (fun ⟨x, y⟩ => ⟨by rw [x]; cases fr <;> rfl, y⟩) fun o => ⟨List.mem_append_right _ o.1, o.2⟩
def iZipL (a : List D → Option (List D)) : List D → Option (List D) := fun ρ => do match (← a ρ) with
  | [.lst l, .lst r] => some ((l.zip r).map fun p => .tup [p.1, p.2])
  | _ => none
def iEnumL (s : Ev) : List D → Option (List D) := fun ρ => do match (← s ρ) with
  | .lst l => some (l.mapIdx fun i d => .tup [.int i, d])
  | _ => none
/-- a list's nodes, and each item's -/
theorem lst_nodes {mg : Mg} {P : Fm} {g : Addr → Nat} {H H1 : Hp} {m : Md} {l : List D} {v : V} (h : Val mg P g H H1 m (.lst l) v) : ∃ (a : Addr) (vs : List V) (fp : List Addr), v = .ref a ∧ H1 a = some (.lst vs) ∧ vs.length = l.length ∧ (∀ b ∈ fp, New H H1 b ∨ Old P g m.labs b) ∧ a ∈ fp ∧
    ∀ (i : Nat) (d : D), l[i]? = some d → ∃ x f, vs[i]? = some x ∧ Rep mg H1 d x f ∧ Fps P g H H1 m.child f ∧ ∀ b ∈ f, b ∈ fp := by
  obtain ⟨fp, r, o, lb, ch⟩ := h.labs
  simp only [Rep] at r
  obtain ⟨a, vs, f, rfl, ha, h2, rfl⟩ := r
  refine ⟨a, vs, _, rfl, ha, h2.length, lb, List.mem_cons_self, fun i d e => ?_⟩
  obtain ⟨x, fi, e1, ri, f1, f2, rfl⟩ := h2.parts e
  exact ⟨x, fi, e1, ri, ch fi ⟨f1, f2, .inl ⟨a, rfl, rfl⟩⟩, fun b hb => List.mem_cons_of_mem _ (List.mem_append_left _ (List.mem_append_right _ hb))⟩
section
variable {X : Cx} {LL : List Nat} {Γ : List Kd} {pos p tpos : Pos} {a b : Expr} {sa sb : Ev} {ma mb : Md} {elts : List Expr} {kk : Nat}
theorem ei_zip (hg : Gl X "zip") (hm : X.mg "zip" = none) (ha : EX X LL Γ a sa ma) (hb : EX X LL Γ b sb mb)
    (hs : starEach [a, b] X.env = (false, eval a X.env) :: starEach [b] X.env := by rfl) (hpl : (backTo pos (starEach [b] X.env)).any (·.1) = false := by rfl) (hs2 : starEach [b] X.env = (false, eval b X.env) :: starEach [] X.env := by rfl) :
    EI X LL Γ (.Tuple elts kk tpos) (.Call (.Name "zip" p) [a, b] [] pos) (iZipL (aCons sa (aCons sb aNil))) (ma.labs ++ mb.labs) (ma.child.pair mb.child) := by
  obtain ⟨ta, tb, pa, pb, k⟩ := two ha hb
  refine ⟨_, pi_sized (pi_zip hg hm (pa_cons pa (pa_cons pb pa_nil hs2) hs) hs hpl), fun P g ρ σ H ds R s e q => ?_⟩
  obtain ⟨ds0, e1, e⟩ := bind_some e
  refine k P g ρ σ H ds0 _ s e1 fun d1 d2 v w H' eds x va vb vl => ?_
  subst eds
  split at e
  · rename_i l r eq
    cases eq
    cases e
    obtain ⟨a1, vs1, f1, rfl, h1, n1, lb1, m1, it1⟩ := lst_nodes va
    obtain ⟨a2, vs2, f2, rfl, h2, n2, lb2, m2, it2⟩ := lst_nodes vb
    refine ⟨a1, a2, vs1, vs2, rfl, SqL.of h1, SqL.of h2, fun sz => q _ H' x ?_ ⟨f1 ++ f2, fun c hc => ?_, fun H2 kp => ⟨fun i d hi => ?_, ?_⟩⟩⟩
    · rw [List.length_map, List.length_zip, ← n1]
      exact Nat.le_trans (Nat.min_le_left _ _) (sz.1 a1 vs1 (SqL.of h1))
    · rcases List.mem_append.mp hc with hc | hc
      · exact (lb1 c hc).imp id fun o => ⟨List.mem_append_left _ o.1, o.2⟩
      · exact (lb2 c hc).imp id fun o => ⟨List.mem_append_right _ o.1, o.2⟩
    · rw [List.getElem?_map] at hi
      obtain ⟨pr, e3, rfl⟩ := Option.map_eq_some_iff.mp hi
      obtain ⟨e4, e5⟩ := List.getElem?_zip_eq_some.mp e3
      obtain ⟨y1, g1, z1, r1, o1, s1⟩ := it1 i _ e4
      obtain ⟨y2, g2, z2, r2, o2, s2⟩ := it2 i _ e5
      have b1 : H2 a1 = some (.lst vs1) := kp.1 a1 (List.mem_append_left _ m1) _ h1
      have b2 : H2 a2 = some (.lst vs2) := kp.1 a2 (List.mem_append_right _ m2) _ h2
      refine ⟨⟨vs1, vs2, y1, y2, SqL.of b1, SqL.of b2, z1, z2⟩, fun xv H3 yl => ?_⟩
      obtain ⟨T, u1, u2, rfl, hT, rfl, q1, q2⟩ := yl
      have := q1 vs1 (SqL.of b1)
      rw [z1] at this; cases this
      have := q2 vs2 (SqL.of b2)
      rw [z2] at this; cases this
      have ex : Ext H2 (upd H2 T (.tup [y1, y2])) := Ext.put hT
      refine ⟨ex, g1 ++ g2, ?_, fps_pair o1 o2, fun c hc => ?_⟩
      · simp only [Rep, RepL]
        refine ⟨T, [y1, y2], rfl, .inl upd_same, y1, [y2], g1, g2, rfl, ?_, ⟨y2, [], g2, [], rfl, ?_, ⟨rfl, rfl⟩, by simp⟩, rfl⟩
        · exact Rep.ext (kp.rep r1 fun c hc => List.mem_append_left _ (s1 c hc)) ex
        · exact Rep.ext (kp.rep r2 fun c hc => List.mem_append_right _ (s2 c hc)) ex
      · rcases List.mem_append.mp hc with hc | hc
        · exact List.mem_append_left _ (s1 c hc)
        · exact List.mem_append_right _ (s2 c hc)
    · refine ⟨vs1, vs2, SqL.of (kp.1 a1 (List.mem_append_left _ m1) _ h1), SqL.of (kp.1 a2 (List.mem_append_right _ m2) _ h2), ?_⟩
      rw [List.length_map, List.length_zip, n1, n2]
      omega
  · cases e
theorem ei_enum (hg : Gl X "enumerate") (hm : X.mg "enumerate" = none) (ha : EX X LL Γ a sa ma) (hs : starEach [a] X.env = [(false, eval a X.env)] := by rfl) :
    EI X LL Γ (.Tuple elts kk tpos) (.Call (.Name "enumerate" p) [a] [] pos) (iEnumL sa) ma.labs ma.child := by
  obtain ⟨t, pt, k⟩ := ha
  refine ⟨_, pi_sized (pi_enum hg hm (pa_cons pt pa_nil hs) hs), fun P g ρ σ H ds R s e q => ?_⟩
  obtain ⟨d0, e1, e⟩ := bind_some e
  refine k P g ρ σ H d0 _ s e1 fun v H' x va => ?_
  cases d0 with
  | lst l =>
    cases e
    obtain ⟨a1, vs1, f1, rfl, h1, n1, lb1, m1, it1⟩ := lst_nodes va
    refine ⟨a1, vs1, rfl, SqL.of h1, fun sz => q _ H' x ?_ ⟨f1, lb1, fun H2 kp => ⟨fun i d hi => ?_, ?_⟩⟩⟩
    · rw [List.length_mapIdx, ← n1]
      exact sz.1 a1 vs1 (SqL.of h1)
    · rw [List.getElem?_mapIdx] at hi
      obtain ⟨d', e4, rfl⟩ := Option.map_eq_some_iff.mp hi
      obtain ⟨y1, g1, z1, r1, o1, s1⟩ := it1 i _ e4
      have b1 : H2 a1 = some (.lst vs1) := kp.1 a1 m1 _ h1
      refine ⟨⟨vs1, y1, SqL.of b1, z1⟩, fun xv H3 yl => ?_⟩
      obtain ⟨T, u1, rfl, hT, rfl, q1⟩ := yl
      have := q1 vs1 (SqL.of b1)
      rw [z1] at this; cases this
      have ex : Ext H2 (upd H2 T (.tup [.int (i : Nat), y1])) := Ext.put hT
      refine ⟨ex, g1, ?_, o1, s1⟩
      simp only [Rep, RepL]
      exact ⟨T, _, rfl, .inl upd_same, .int i, [y1], [], g1, rfl, ⟨rfl, rfl⟩, ⟨y1, [], g1, [], rfl, Rep.ext (kp.rep r1 s1) ex, ⟨rfl, rfl⟩, by simp⟩, rfl⟩
    · refine ⟨vs1, SqL.of (kp.1 a1 m1 _ h1), ?_⟩
      rw [List.length_mapIdx, n1]
      exact Nat.le_refl _
  | _ => cases e
end

/-! ### a, b = a list -/
def gL (ts : List D → List D → Option (List D)) : Tv := fun d ρ => match d with
  | .lst l => ts l ρ
  | _ => none
def Kd.lstChild : Kd → Kd
  | .lab rt L nd => .lab none (match rt with | some n => n :: L | none => L) nd
  | k => k
theorem cell_lst {mg : Mg} {P : Fm} {g : Addr → Nat} {H : Hp} {k : Kd} {ds : List D} {v : V} (c : CellOk mg P g H k (.lst ds) (some v)) (hk : k ≠ .dead) :
    ∃ a vs, v = .ref a ∧ H a = some (.lst vs) ∧ vs.length = ds.length ∧ ∀ (i : Nat) (d : D) (w : V), ds[i]? = some d → vs[i]? = some w → CellOk mg P g H k.lstChild d (some w) := by
  cases k with
  | dead => exact absurd rfl hk
  | flat =>
    obtain ⟨v', e, r⟩ := c
    simp only [Rep] at r
    obtain ⟨_, _, _, _, _, _, e⟩ := r
    cases e
  | lab rt L nd =>
    obtain ⟨v', fp, e, r, o, z⟩ := c
    cases e
    simp only [Rep] at r
    obtain ⟨a, vs, f, rfl, r1, r2, rfl⟩ := r
    refine ⟨a, vs, rfl, r1, r2.length, fun i d w e1 e2 => ?_⟩
    obtain ⟨w', f1, fi, f2, e3, r3, rfl⟩ := r2.get e1
    rw [e2] at e3; cases e3
    refine ⟨w, fi, rfl, r3, fun b hb => ?_, .unk fun hn => ?_⟩
    · refine .inr ⟨.inr rfl, ?_⟩
      rcases o b (List.mem_cons_of_mem _ (List.mem_append_left _ (List.mem_append_right _ hb))) with ⟨_, n, rfl, x⟩ | ⟨_, x⟩
      · exact ⟨by rw [List.mem_singleton.mp x.1]; exact List.mem_cons_self, x.2⟩
      · refine ⟨?_, x.2⟩
        cases rt with
        | none => exact x.1
        | some n => exact List.mem_cons_of_mem _ x.1
    · have n := (List.nodup_cons.mp (z.1 hn)).2
      exact (List.nodup_append.mp (List.nodup_append.mp n).1).2.1
section
variable {X : Cx} {Γ Γ' : List Kd} {pos : Pos}
theorem eg_lst {es : List Expr} {c : Nat} {k : Kd} {ts : List D → List D → Option (List D)} {S : List Nat} (hc : X.calm = true) (h : EGs X Γ es k.lstChild ts Γ' S) (hk : k ≠ .dead := by decide)
    (hst : (assignEach es X.env).findIdx? (·.1) = none := by rfl) (hn : (assignEach es X.env).length = es.length := by rfl) : EG X Γ (.Tuple es c pos) k (gL ts) Γ' S := by
  obtain ⟨hl, u, p, kk⟩ := h
  refine ⟨_, pg_unl hc p hn hst, fun P LL g ρ σ H d v ρ' Q s cc e q => ?_⟩
  cases d with
  | lst ds =>
    obtain ⟨a, vs, rfl, r, hlen, hcells⟩ := cell_lst cc hk
    exact ⟨a, vs, rfl, SqL.of r, by rw [hlen, hl ds ρ ρ' e], kk P LL g ρ σ H ds vs ρ' Q s hcells hlen e q⟩
  | _ => cases e
end

/-! ### one object is changed -/
def Kd.has (n : Nat) : Kd → Bool
  | .lab rt L _ => L.contains n || (rt == some n)
  | _ => false
def killK (n : Nat) (Γ : List Kd) : List Kd := Γ.map fun k => if k.has n then .dead else k
section
variable {mg : Mg} {P : Fm} {LL : List Nat} {Γ : List Kd} {g : Addr → Nat} {ρ : List D} {σ : L2.St} {H : Hp}
theorem rep_upd {H : Hp} {a : Addr} {o o' : HO} {d : D} {v : V} {f : List Addr} (h : Rep mg H d v f) (hn : a ∉ f) (ha : H a = some o) (mu : Mut (some o)) : Rep mg (upd H a o') d v f := by
  refine h.keep (fun b hb => ?_) ⟨fun b xs r => ?_, fun b o2 vs r => ?_⟩
  · have : b ≠ a := fun z => hn (by rw [← z]; exact hb)
    exact ⟨fun u r => by unfold Rd at r ⊢; rw [upd_ne this]; exact r, fun vs r => by rw [upd_ne this]; exact r⟩
  · have : b ≠ a := fun z => by
      rw [z] at r
      rcases r with r | ⟨_, r⟩ <;> rw [ha] at r <;> cases r <;> exact mu
    unfold Rd at r ⊢
    rw [upd_ne this]
    exact r
  · have : b ≠ a := fun z => by
      rw [z, ha] at r
      cases r
      exact mu
    rw [upd_ne this]
    exact r
theorem repL_upd {H : Hp} {a : Addr} {o o' : HO} {d : List D} {v : List V} {f : List Addr} (h : RepL mg H d v f) (hn : a ∉ f) (ha : H a = some o) (mu : Mut (some o)) : RepL mg (upd H a o') d v f := by
  refine h.keep (fun b hb => ?_) ⟨fun b xs r => ?_, fun b o2 vs r => ?_⟩
  · have : b ≠ a := fun z => hn (by rw [← z]; exact hb)
    exact ⟨fun u r => by unfold Rd at r ⊢; rw [upd_ne this]; exact r, fun vs r => by rw [upd_ne this]; exact r⟩
  · have : b ≠ a := fun z => by
      rw [z] at r
      rcases r with r | ⟨_, r⟩ <;> rw [ha] at r <;> cases r <;> exact mu
    unfold Rd at r ⊢
    rw [upd_ne this]
    exact r
  · have : b ≠ a := fun z => by
      rw [z, ha] at r
      cases r
      exact mu
    rw [upd_ne this]
    exact r
theorem CellOk.upd {k : Kd} {d : D} {ov : Option V} {a : Addr} {o o' : HO} {n : Nat} (c : CellOk mg P g H k d ov) (ha : H a = some o) (mu : Mut (some o)) (hg : g a = n) : CellOk mg P g (upd H a o') (if k.has n then .dead else k) d ov := by
  split
  · trivial
  · rename_i hh
    cases k with
    | dead => trivial
    | flat => obtain ⟨v, rfl, r⟩ := c; exact ⟨v, rfl, rep_upd r (by simp) ha mu⟩
    | lab rt L nd =>
      obtain ⟨v, fp, rfl, r, q, z⟩ := c
      refine ⟨v, fp, rfl, rep_upd r (fun hm => ?_) ha mu, q, z⟩
      apply hh
      rcases q a hm with ⟨_, m, rfl, y⟩ | ⟨_, y⟩
      · have := List.mem_singleton.mp y.1
        simp [Kd.has, ← this, hg]
      · have := y.1
        rw [hg] at this
        simp [Kd.has, this]
theorem Cells.upd {a : Addr} {o o' : HO} {n : Nat} (ha : H a = some o) (mu : Mut (some o)) (hg : g a = n) : ∀ {Γ : List Kd} {ρ : List D} {σ : L2.St}, Cells mg P g H Γ ρ σ → Cells mg P g (upd H a o') (killK n Γ) ρ σ
  | [], [], [], _ => trivial
  | _ :: _, _ :: _, _ :: _, h => ⟨h.1.upd ha mu hg, Cells.upd ha mu hg h.2⟩
  | [], _ :: _, _, h => h.elim
  | [], [], _ :: _, h => h.elim
  | _ :: _, [], _, h => h.elim
  | _ :: _, _ :: _, [], h => h.elim
theorem Cells.put {k : Kd} {d : D} {v : V} : ∀ {Γ : List Kd} {ρ : List D} {σ : L2.St} (i : Nat), Cells mg P g H Γ ρ σ → CellOk mg P g H k d (some v) → σ[i]? = some (some v) → Cells mg P g H (Γ.set i k) (ρ.set i d) σ
  | [], [], [], _, _, _, _ => trivial
  | _ :: _, _ :: _, _ :: _, 0, h, c, e => ⟨by cases (by simpa using e : _ = some v); exact c, h.2⟩
  | _ :: _, _ :: _, _ :: _, i + 1, h, c, e => ⟨h.1, Cells.put i h.2 c (by simpa using e)⟩
  | [], _ :: _, _, _, h, _, _ => h.elim
  | [], [], _ :: _, _, h, _, _ => h.elim
  | _ :: _, [], _, _, h, _, _ => h.elim
  | _ :: _, _ :: _, [], _, h, _, _ => h.elim
/-- the object at a (label n) becomes o', the slot i tells it anew -/
theorem Sta.put {a : Addr} {o o' : HO} {n i : Nat} {k : Kd} {d : D} {v : V} (s : Sta mg P LL Γ g ρ σ H) (ha : H a = some o) (mu : Mut (some o)) (mu' : Mut (some o')) (hg : g a = n) (hn : n ≠ 0) (hL : n ∉ LL) (hv : σ[i]? = some (some v)) (c : CellOk mg P g (upd H a o') k d (some v)) :
    Sta mg P LL ((killK n Γ).set i k) g (ρ.set i d) σ (upd H a o') ∧ Step LL g H g (upd H a o') := by
  have nl : ∀ b, VV.lk LL (g b) → b ≠ a := fun b h e => by
    subst e
    rw [hg] at h
    exact h.elim hn hL
  refine ⟨⟨⟨fun b hb => ?_, fun b hb => ?_, fun b hb => ?_⟩, Cells.put i (s.cells.upd ha mu hg) c hv⟩, ⟨fun b hb u e => ?_, fun b _ _ => rfl, fun b hb => ?_⟩⟩
  · by_cases e : b = a
    · subst e; exact ⟨o', upd_same, .inl mu'⟩
    · rw [upd_ne e]; exact s.loc.at_ b hb
  · by_cases e : b = a
    · subst e; rw [upd_same]; simp
    · rw [upd_ne e]; exact s.loc.out b hb
  · refine ⟨?_, (s.loc.fz b hb).2⟩
    rw [upd_ne (nl b (s.loc.fz b hb).2)]
    exact (s.loc.fz b hb).1
  · rw [upd_ne (nl b hb)]; exact e
  · by_cases e : b = a
    · subst e; rw [upd_same]; simp
    · rw [upd_ne e]; exact hb
end

/-! ### append -/
def dPush : D → D → Option D
  | .lst l, d => if l.length < 1000000 then some (.lst (l ++ [d])) else none
  | _, _ => none
/-- the list in the slot i, changed by a function of it and a value -/
def sMut (f : D → D → Option D) (i : Nat) (e : Ev) : Sv := fun ρ => do
  let y ← e ρ
  let x ← ρ[i]?
  let z ← f x y
  some (.nx (ρ.set i z))
/-- the kind of a list that has got one more -/
def Md.pushL (c : Nat) : Md → List Nat
  | .flat => []
  | .al fr r L' _ => (match r with | .new => [c] | .old n => [n] | .unk => []) ++ ((if fr then [c] else []) ++ L')
def Md.isNd : Md → Bool
  | .flat => true
  | .al _ _ _ nd => nd
def Kd.push (c : Nat) (k : Kd) (m : Md) : Kd := match k with
  | .lab rt L nd => .lab rt (L ++ m.pushL c) (nd && m.isNd && disj L m.labs)
  | k => k
/-- the nodes of a value, its new ones labelled c -/
theorem Val.pushed {mg : Mg} {P : Fm} {LL : List Nat} {g : Addr → Nat} {H H' : Hp} {m : Md} {d : D} {y : V} {c : Nat} (h : Val mg P g H H' m d y) (l : Loc P LL g H) (hc : c ≠ 0) :
    ∃ f, Rep mg H' d y f ∧ (∀ b ∈ f, Old P (relab g H H' .non c c) (m.pushL c) b) ∧ (m.isNd = true → f.Nodup) ∧ ∀ b ∈ f, New H H' b ∨ Old P g m.labs b := by
  obtain ⟨f, r, o, lb, _⟩ := h.labs
  refine ⟨f, r, fun b hb => ?_, fun hn => ?_, lb⟩
  · cases m with
    | flat =>
      obtain rfl : f = [] := o
      cases hb
    | al fr rt L nd =>
      obtain ⟨f0, r0, o0, _⟩ := h
      have nw : New H H' b → (c ∈ (Md.al fr rt L nd).pushL c) → Old P (relab g H H' .non c c) ((Md.al fr rt L nd).pushL c) b := fun n hm => by
        unfold Old
        rw [relab_new n]
        simp only [if_neg (show V.non ≠ V.ref b from fun z => nomatch z)]
        exact ⟨hm, fun z => absurd z hc⟩
      have old : ∀ {K : List Nat}, Old P g K b → (∀ k ∈ K, k ∈ (Md.al fr rt L nd).pushL c) → Old P (relab g H H' .non c c) ((Md.al fr rt L nd).pushL c) b := fun {K} y hK => by
        have y' := Old.relab (H' := H') (v := .non) (n := c) (m := c) y l
        exact ⟨hK _ y'.1, y'.2⟩
      cases rt with
      | new =>
        rcases o.1 b hb with y | y
        · exact nw y.2 (List.mem_append_left _ List.mem_cons_self)
        · exact old y fun k hk => List.mem_append_right _ (List.mem_append_right _ hk)
      | old n =>
        rcases o.1 b hb with ⟨hf, y⟩ | y
        · subst hf
          exact nw y (List.mem_append_right _ (List.mem_append_left _ List.mem_cons_self))
        · refine old y fun k hk => ?_
          rcases List.mem_cons.mp hk with e | e
          · rw [e]; exact List.mem_append_left _ List.mem_cons_self
          · exact List.mem_append_right _ (List.mem_append_right _ e)
      | unk =>
        rcases o.1 b hb with ⟨hf, y⟩ | y
        · subst hf
          exact nw y (List.mem_append_right _ (List.mem_append_left _ List.mem_cons_self))
        · exact old y fun k hk => List.mem_append_right _ (List.mem_append_right _ hk)
  · cases m with
    | flat =>
      obtain rfl : f = [] := o
      exact List.nodup_nil
    | al fr rt L nd => cases rt <;> exact o.2 hn
section
variable {X : Cx} {W : L2.WX} {sc : Sc} {Γ : List Kd} {pos : Pos}
theorem sx_append {i : Nat} {x : Str} {px ap cp : Pos} {e : Expr} {se : Ev} {m : Md} {n : Nat} {L : List Nat} {nd : Bool} (c : Nat) (hk : Γ[i]? = some (.lab (some n) L nd)) (hN : X.N[i]? = some x) (hv : Vis X.env.scope x) (he : EX X sc.LL Γ e se m)
    (hn : n ≠ 0 := by decide) (hL : n ∉ sc.LL := by decide) (hm : n ∉ m.labs := by decide) (hc : c ≠ 0 := by decide) (hdb : (x == ("__debug__" : Str)) = false := by decide) (hcd : (x == ("__classdict__" : Str)) = false := by decide)
    (hbase : attributeBase (.Name x px) "append" X.env (eval (.Name x px) X.env) = eval (.Name x px) X.env := by rfl)
    (hfew : ((backTo cp (starEach [e] X.env)).all (fun x => !x.1) && (backToKw cp (keywordEach [] X.env)).all (fun x => x.1.isSome)
      && decide ([e].length + ([] : List Keyword).length + (if ([] : List Keyword).isEmpty then 0 else 1) < 30)) = true := by rfl)
    (hline : (ap.endLine == cp.line) = true := by rfl) (hs : starEach [e] X.env = (false, eval e X.env) :: starEach [] X.env := by rfl) (hplain : (backTo cp (starEach [] X.env)).any (·.1) = false := by rfl)
    (hsw : swapsWith (.Call (.Attribute (.Name x px) "append" ap) [e] [] cp) none pos.line X.env = pure false := by rfl) :
    SX X W sc Γ (.Expr (.Call (.Attribute (.Name x px) "append" ap) [e] [] cp) pos) (sMut dPush i se) ((killK n Γ).set i (Kd.push c (.lab (some n) L nd) m)) := by
  obtain ⟨t, pt, kk⟩ := he
  refine ⟨_, ps_expr (pe_bm PySem.F.plainAttrs_list PySem.F.slot_list_append PySem.F.type_list_append mt_append (pe_var hN hv hdb hcd) (pa_cons pt pa_nil hs) hbase hfew hline hs hplain) hsw, fun P g ρ σ H o De s e w => ?_⟩
  obtain ⟨d, e1, e⟩ := bind_some e
  obtain ⟨l, e2, e⟩ := bind_some e
  obtain ⟨z, e3, e⟩ := bind_some e
  cases e
  obtain ⟨l', ov, h1, h2, h3⟩ := s.cells.get hk
  rw [e2] at h1; cases h1
  cases l with
  | lst ds =>
    unfold dPush at e3
    dsimp only at e3
    split at e3
    · rename_i hlen
      cases e3
      obtain ⟨v, fp, rfl, r, q, z⟩ := h3
      simp only [Rep] at r
      obtain ⟨a, vs, f, rfl, ha, rl, rfl⟩ := r
      have hga : g a = n := by
        rcases q a List.mem_cons_self with ⟨_, k, ek, y⟩ | ⟨y, _⟩
        · cases ek; exact List.mem_singleton.mp y.1
        · rcases y with y | y
          · exact absurd rfl y
          · cases y
      have haf : a ∉ f := z.2 rfl a f rfl rfl
      refine ⟨.ref a, h2, .inl ⟨rfl, _, .inl (.inl ha)⟩, ?_⟩
      refine kk P g ρ σ H d _ s e1 fun y H2 x2 wv => ?_
      obtain ⟨fy, ry, oy, ndy, lby⟩ := wv.pushed (c := c) s.loc hc
      have ha2 : H2 a = some (.lst vs) := x2 a _ ha
      have hay : a ∉ fy := fun hm' => by
        rcases lby a hm' with y | y
        · have := y.1; rw [ha] at this; cases this
        · have := y.1; rw [hga] at this; exact hm this
      have st2 : Sta X.vm P sc.LL Γ (relab g H H2 .non c c) ρ σ H2 := s.relab x2
      have hg2 : relab g H H2 .non c c a = n := by rw [relab_old (by rw [ha]; simp)]; exact hga
      refine ⟨a, vs, y, rfl, rfl, ha2, ?_, ?_⟩
      · rw [rl.length, sizeLine_eq]; omega
      have oldf : ∀ b ∈ f, Old P g L b := fun b hb => by
        rcases q b (List.mem_cons_of_mem _ hb) with ⟨e, _⟩ | ⟨_, y⟩
        · cases e; exact absurd hb haf
        · exact y
      have cell : CellOk X.vm P (relab g H H2 .non c c) (upd H2 a (.lst (vs ++ [y]))) (Kd.push c (.lab (some n) L nd) m) (.lst (ds ++ [d])) (some (.ref a)) := by
        refine ⟨.ref a, a :: (f ++ fy), rfl, ?_, fun b hb => ?_, fun hn' => ?_, fun _ b g' e1 e2 => ?_⟩
        · simp only [Rep]
          exact ⟨a, vs ++ [y], f ++ fy, rfl, upd_same, (repL_upd (rl.ext x2) haf ha2 trivial).append (.one (rep_upd ry hay ha2 trivial)), rfl⟩
        · rcases List.mem_cons.mp hb with rfl | hb
          · exact .inl ⟨rfl, n, rfl, by rw [hg2]; exact List.mem_singleton.mpr rfl, fun z => by rw [hg2] at z; exact absurd z hn⟩
          · rcases List.mem_append.mp hb with hb | hb
            · have y' := Old.relab (H' := H2) (v := .non) (n := c) (m := c) (oldf b hb) s.loc
              exact .inr ⟨.inl fun e => by cases e; exact haf hb, List.mem_append_left _ y'.1, y'.2⟩
            · have y' := oy b hb
              exact .inr ⟨.inl fun e => by cases e; exact hay hb, List.mem_append_right _ y'.1, y'.2⟩
        · simp only [Bool.and_eq_true] at hn'
          obtain ⟨⟨n1, n2⟩, dj⟩ := hn'
          refine List.nodup_cons.mpr ⟨fun hm => (List.mem_append.mp hm).elim haf hay, List.nodup_append.mpr ⟨(List.nodup_cons.mp (z.1 n1)).2, ndy n2, fun b hb b' hb' e => ?_⟩⟩
          subst e
          rcases lby b hb' with y | y
          · exact (oldf b hb).there s.loc y.1
          · exact disj_ok dj (oldf b hb).1 y.1
        · cases e2
          exact fun hm => (List.mem_append.mp hm).elim haf hay
      obtain ⟨s3, st3⟩ := st2.put (o' := .lst (vs ++ [y])) ha2 trivial trivial hg2 hn hL h2 cell
      exact w _ σ _ ((Step.relab x2).trans st3) s3
    · cases e3
  | _ => cases e3
end
end VV

/-! ## VBool -/
namespace VV
open PySem PySem.Spec PyProof.Rows L2
def vAnd (a b : Ev) : Ev := fun ρ => match a ρ with
  | some (.bl true) => b ρ
  | some (.bl false) => some (.bl false)
  | _ => none
def vOr (a b : Ev) : Ev := fun ρ => match a ρ with
  | some (.bl false) => b ρ
  | some (.bl true) => some (.bl true)
  | _ => none
def vNot (a : Ev) : Ev := fun ρ => match a ρ with
  | some (.bl b) => some (.bl (!b))
  | _ => none
section
variable {X : Cx} {W : L2.WX} {sc : Sc} {LL : List Nat} {Γ Γ1 Γ' : List Kd} {pos : Pos} {a b c : Expr} {sa sb s2 : Ev} {ma mb mc : Md} {rest : List Expr}
theorem ex_one {op} (ha : EX X LL Γ a sa ma) : EX X LL Γ (.BoolOp op [a] pos) sa ma := let ⟨t, p, k⟩ := ha; ⟨t, pe_one p, k⟩
theorem ex_and (ha : EX X LL Γ a sa .flat) (hb : EX X LL Γ (.BoolOp .And (b :: rest) pos) sb .flat) : EX X LL Γ (.BoolOp .And (a :: b :: rest) pos) (vAnd sa sb) .flat := by
  obtain ⟨t, p, k⟩ := ha
  obtain ⟨t', p', k'⟩ := hb
  refine ⟨_, pe_and p p', fun P g ρ σ H d Q s e q => ?_⟩
  unfold vAnd at e
  split at e
  · rename_i h
    refine k P g ρ σ H _ _ s h fun v H1 x1 w => ⟨true, rBl (show Rep X.vm H1 (.bl true) v [] from w), ?_⟩
    exact iteT (k' P g ρ σ H1 d Q (s.ext x1) e fun v2 H2 x2 w2 => q v2 H2 (x1.trans x2) w2)
  · rename_i h
    cases e
    refine k P g ρ σ H _ _ s h fun v H1 x1 w => ⟨false, rBl (show Rep X.vm H1 (.bl false) v [] from w), ?_⟩
    exact iteF (q _ H1 x1 (val_flat rep_bl))
  · cases e
theorem ex_or (ha : EX X LL Γ a sa .flat) (hb : EX X LL Γ (.BoolOp .Or (b :: rest) pos) sb .flat) : EX X LL Γ (.BoolOp .Or (a :: b :: rest) pos) (vOr sa sb) .flat := by
  obtain ⟨t, p, k⟩ := ha
  obtain ⟨t', p', k'⟩ := hb
  refine ⟨_, pe_or p p', fun P g ρ σ H d Q s e q => ?_⟩
  unfold vOr at e
  split at e
  · rename_i h
    refine k P g ρ σ H _ _ s h fun v H1 x1 w => ⟨false, rBl (show Rep X.vm H1 (.bl false) v [] from w), ?_⟩
    exact iteF (k' P g ρ σ H1 d Q (s.ext x1) e fun v2 H2 x2 w2 => q v2 H2 (x1.trans x2) w2)
  · rename_i h
    cases e
    refine k P g ρ σ H _ _ s h fun v H1 x1 w => ⟨true, rBl (show Rep X.vm H1 (.bl true) v [] from w), ?_⟩
    exact iteT (q _ H1 x1 (val_flat rep_bl))
  · cases e
theorem ex_not (ha : EX X LL Γ a sa .flat) : EX X LL Γ (.UnaryOp .Not a pos) (vNot sa) .flat := by
  obtain ⟨t, p, k⟩ := ha
  refine ⟨_, pe_not p, fun P g ρ σ H d Q s e q => ?_⟩
  unfold vNot at e
  split at e
  · rename_i b h
    cases e
    refine k P g ρ σ H _ _ s h fun v H1 x1 w => ⟨b, rBl (show Rep X.vm H1 (.bl b) v [] from w), q _ H1 x1 (val_flat rep_bl)⟩
  · cases e
/-- known less ahead of a statement -/
theorem sx_pre {st : Stmt} {s : Sv} (m : List (Nat × Nat)) (h : SX X W sc Γ1 st s Γ') (hm : mapOk sc.LL m = true) (hk : kdsLe m Γ Γ1 = true) : SX X W sc Γ st s Γ' := by
  obtain ⟨t, p, k⟩ := h
  exact ⟨t, p, fun P g ρ σ H o D st e w => k P _ ρ σ H o D (st.re hm hk) e (w.from (.re hm))⟩
/-- a OP b OP' c, ints -/
def dCh (f g : Int → Int → Bool) : List D → Option D
  | [.int a, .int b, .int c] => some (.bl (f a b && g b c))
  | _ => none
theorem chain_read {f h : Int → Int → Bool} (ha : EX X LL Γ a sa ma) (hb : EX X LL Γ b sb mb) (hc : EX X LL Γ c s2 mc) :
    ∃ ta tb tc, PE X a ta ∧ PE X b tb ∧ PE X c tc ∧ ∀ P g ρ σ H d (Q : V → Hp → Prop), Sta X.vm P LL Γ g ρ σ H → eP (dCh f h) (aCons sa (aCons sb (aCons s2 aNil))) ρ = some d →
      (∀ H' k, Ext H H' → d = .bl k → Q (.bl k) H') → tChain (rI0 fun i j => .bl (f i j)) (rI0 fun i j => .bl (h i j)) ta tb tc σ H Q := by
  obtain ⟨ta, pa, ka⟩ := ha
  obtain ⟨tb, pb, kb⟩ := hb
  obtain ⟨tc, pc, kc⟩ := hc
  refine ⟨ta, tb, tc, pa, pb, pc, fun P g ρ σ H d Q s e q => ?_⟩
  obtain ⟨ds, e1, e⟩ := bind_some e
  obtain ⟨x, ex, e1⟩ := bind_some e1
  obtain ⟨r, er, e1⟩ := bind_some e1
  obtain ⟨y, ey, er⟩ := bind_some er
  obtain ⟨r2, er2, er⟩ := bind_some er
  obtain ⟨z, ez, er2⟩ := bind_some er2
  obtain ⟨r3, er3, er2⟩ := bind_some er2
  cases er3; cases er2; cases er; cases e1
  unfold dCh at e
  split at e
  · rename_i i j k eq
    cases eq
    cases e
    refine ka P g ρ σ H _ _ s ex fun v H1 x1 w1 => ?_
    refine kb P g ρ σ H1 _ _ (s.ext x1) ey fun v2 H2 x2 w2 => ?_
    obtain ⟨_, r1, _⟩ := w1.labs
    obtain ⟨_, r2, _⟩ := w2.labs
    obtain rfl := rInt r1
    obtain rfl := rInt r2
    refine ⟨i, j, rfl, rfl, f i j, rfl, ?_⟩
    cases hf : f i j with
    | false =>
      rw [hf] at q
      exact iteF (q H2 _ (x1.trans x2) rfl)
    | true =>
      rw [hf] at q
      refine iteT (kc P g ρ σ H2 _ _ (s.ext (x1.trans x2)) ez fun v3 H3 x3 w3 => ?_)
      obtain ⟨_, r3, _⟩ := w3.labs
      obtain rfl := rInt r3
      exact ⟨j, k, rfl, rfl, q H3 _ (x1.trans (x2.trans x3)) rfl⟩
  · cases e
theorem ex_chain {op op' : CmpOp} {f h : Int → Int → Bool} (ho : OpR X (compareOp op) (rI0 fun i j => .bl (f i j))) (ho' : OpR X (compareOp op') (rI0 fun i j => .bl (h i j))) (ha : EX X LL Γ a sa ma) (hb : EX X LL Γ b sb mb) (hc : EX X LL Γ c s2 mc) (hm : lastMarks [op, op'] [b, c] = false) :
    EX X LL Γ (.Compare a [op, op'] [b, c] pos) (eP (dCh f h) (aCons sa (aCons sb (aCons s2 aNil)))) .flat := by
  obtain ⟨ta, tb, tc, pa, pb, pc, k⟩ := chain_read (f := f) (h := h) ha hb hc
  exact ⟨_, pe_chain ho ho' pa pb pc hm, fun P g ρ σ H d Q s e q => k P g ρ σ H d Q s e fun H' b x eb => by subst eb; exact q _ H' x (val_flat rep_bl)⟩
theorem et_chain {op op' : CmpOp} {f h : Int → Int → Bool} (ho : OpR X (compareOp op) (rI0 fun i j => .bl (f i j))) (ho' : OpR X (compareOp op') (rI0 fun i j => .bl (h i j))) (ha : EX X LL Γ a sa ma) (hb : EX X LL Γ b sb mb) (hc : EX X LL Γ c s2 mc) (hm : lastMarks [op, op'] [b, c] = false) :
    ET X LL Γ (.Compare a [op, op'] [b, c] pos) (tOf (eP (dCh f h) (aCons sa (aCons sb (aCons s2 aNil))))) := by
  obtain ⟨ta, tb, tc, pa, pb, pc, k⟩ := chain_read (f := f) (h := h) ha hb hc
  refine ⟨_, pt_chain ho ho' pa pb pc hm, fun P g ρ σ H b Q s e q => ?_⟩
  obtain ⟨d, e0, e⟩ := bind_some e
  refine k P g ρ σ H d _ s e0 fun H' b' x eb => ?_
  subst eb
  cases e
  exact ⟨_, rfl, q H' x⟩
theorem ex_lele (ha : EX X LL Γ a sa ma) (hb : EX X LL Γ b sb mb) (hc : EX X LL Γ c s2 mc) (hm : lastMarks [.LtE, .LtE] [b, c] = false := by with_unfolding_all rfl) : EX X LL Γ (.Compare a [.LtE, .LtE] [b, c] pos) (eP (dCh (fun i j => decide (i ≤ j)) fun i j => decide (i ≤ j)) (aCons sa (aCons sb (aCons s2 aNil)))) .flat := ex_chain op_le op_le ha hb hc hm
theorem ex_lelt (ha : EX X LL Γ a sa ma) (hb : EX X LL Γ b sb mb) (hc : EX X LL Γ c s2 mc) (hm : lastMarks [.LtE, .Lt] [b, c] = false := by with_unfolding_all rfl) : EX X LL Γ (.Compare a [.LtE, .Lt] [b, c] pos) (eP (dCh (fun i j => decide (i ≤ j)) fun i j => decide (i < j)) (aCons sa (aCons sb (aCons s2 aNil)))) .flat := ex_chain op_le op_lt ha hb hc hm
theorem et_lele (ha : EX X LL Γ a sa ma) (hb : EX X LL Γ b sb mb) (hc : EX X LL Γ c s2 mc) (hm : lastMarks [.LtE, .LtE] [b, c] = false := by with_unfolding_all rfl) : ET X LL Γ (.Compare a [.LtE, .LtE] [b, c] pos) (tOf (eP (dCh (fun i j => decide (i ≤ j)) fun i j => decide (i ≤ j)) (aCons sa (aCons sb (aCons s2 aNil))))) := et_chain op_le op_le ha hb hc hm
theorem et_lelt (ha : EX X LL Γ a sa ma) (hb : EX X LL Γ b sb mb) (hc : EX X LL Γ c s2 mc) (hm : lastMarks [.LtE, .Lt] [b, c] = false := by with_unfolding_all rfl) : ET X LL Γ (.Compare a [.LtE, .Lt] [b, c] pos) (tOf (eP (dCh (fun i j => decide (i ≤ j)) fun i j => decide (i < j)) (aCons sa (aCons sb (aCons s2 aNil))))) := et_chain op_le op_lt ha hb hc hm
end
end VV

/-! ## VLaw -/
namespace VV
open PySem PySem.Spec PyProof.Rows L2

/-- a def that may be called by its name -/
def Cal (P : Program) (w : World) (K : PySem.W.Frag) (mg : Str → Option Value) (base : Heap) (x : Str) (k : Nat) (ps : List Str) (sem : List D → Option Res) (R : Rm) : Prop :=
  ∃ f fd, FnOk P w K mg base CX0 k f fd ps (sp0 ⟨mg, K⟩ sem ps.length R) ∧ mg x = some (.ref f) ∧ PySem.W.keepIn K (.ref f) = true ∧ Binds K fd ps []
section
variable {X : Cx} {LL : List Nat} {Γ : List Kd} {pos p : Pos} {k : Nat} {ps : List Str} {sem : List D → Option Res} {R : Rm} {x : Str}
theorem ex_calls_flat {e : Expr} {es : List Expr} {a : List D → Option (List D)} {m : Md} (c : Cal X.prog X.w X.K X.mg X.base x k ps sem .flat) (hr : Room k X.A) (hg : Gl X x) (ha : EA X LL Γ (e :: es) a m) (hn : (e :: es).length = ps.length := by rfl)
    (hdb : (x == ("__debug__" : Str)) = false := by decide) (he : starEach (e :: es) X.env = (false, eval e X.env) :: starEach es X.env := by rfl) (hpl : (backTo pos (starEach es X.env)).any (·.1) = false := by rfl) :
    EX X LL Γ (.Call (.Name x p) (e :: es) [] pos) (eCall sem a) .flat := by
  obtain ⟨f, fd, F, hm, hk, hb⟩ := c
  exact ex_call F hr hg hm hk hb ha hn hdb he hpl
theorem ex_calls0_flat (c : Cal X.prog X.w X.K X.mg X.base x k ps sem .flat) (hr : Room k X.A) (hg : Gl X x) (hn : ps.length = 0 := by rfl) (hdb : (x == ("__debug__" : Str)) = false := by decide) : EX X LL Γ (.Call (.Name x p) [] [] pos) (eCall sem aNil) .flat := by
  obtain ⟨f, fd, F, hm, hk, hb⟩ := c
  exact ex_call0 F hr hg hm hk hb hn hdb
theorem ex_calls_fresh {e : Expr} {es : List Expr} {a : List D → Option (List D)} {m : Md} (c : Cal X.prog X.w X.K X.mg X.base x k ps sem .fresh) (hr : Room k X.A) (hg : Gl X x) (ha : EA X LL Γ (e :: es) a m) (hn : (e :: es).length = ps.length := by rfl)
    (hdb : (x == ("__debug__" : Str)) = false := by decide) (he : starEach (e :: es) X.env = (false, eval e X.env) :: starEach es X.env := by rfl) (hpl : (backTo pos (starEach es X.env)).any (·.1) = false := by rfl) :
    EX X LL Γ (.Call (.Name x p) (e :: es) [] pos) (eCall sem a) (.al true .new [] true) := by
  obtain ⟨f, fd, F, hm, hk, hb⟩ := c
  exact ex_call F hr hg hm hk hb ha hn hdb he hpl
theorem ex_calls0_fresh (c : Cal X.prog X.w X.K X.mg X.base x k ps sem .fresh) (hr : Room k X.A) (hg : Gl X x) (hn : ps.length = 0 := by rfl) (hdb : (x == ("__debug__" : Str)) = false := by decide) : EX X LL Γ (.Call (.Name x p) [] [] pos) (eCall sem aNil) (.al true .new [] true) := by
  obtain ⟨f, fd, F, hm, hk, hb⟩ := c
  exact ex_call0 F hr hg hm hk hb hn hdb
theorem ex_calls_out {e : Expr} {es : List Expr} {a : List D → Option (List D)} {m : Md} (c : Cal X.prog X.w X.K X.mg X.base x k ps sem .out) (hr : Room k X.A) (hg : Gl X x) (ha : EA X LL Γ (e :: es) a m) (hn : (e :: es).length = ps.length := by rfl)
    (hdb : (x == ("__debug__" : Str)) = false := by decide) (he : starEach (e :: es) X.env = (false, eval e X.env) :: starEach es X.env := by rfl) (hpl : (backTo pos (starEach es X.env)).any (·.1) = false := by rfl) :
    EX X LL Γ (.Call (.Name x p) (e :: es) [] pos) (eCall sem a) (Rm.md .out m) := by
  obtain ⟨f, fd, F, hm, hk, hb⟩ := c
  exact ex_call F hr hg hm hk hb ha hn hdb he hpl
theorem ex_calls0_out (c : Cal X.prog X.w X.K X.mg X.base x k ps sem .out) (hr : Room k X.A) (hg : Gl X x) (hn : ps.length = 0 := by rfl) (hdb : (x == ("__debug__" : Str)) = false := by decide) : EX X LL Γ (.Call (.Name x p) [] [] pos) (eCall sem aNil) (Rm.md .out .flat) := by
  obtain ⟨f, fd, F, hm, hk, hb⟩ := c
  exact ex_call0 F hr hg hm hk hb hn hdb
end
theorem scr_rep {mg : Mg} {H : Hp} {a : Addr} {ns : List Int} (h : SqL mg.K H a (ns.map V.int)) (o : Only H) : RepL mg H [.scr (ns.map D.int)] [.ref a] [] := by
  have key : ∀ ns : List Int, RepL mg H (ns.map D.int) (ns.map V.int) [] := fun ns => by
    induction ns with
    | nil => simp [RepL]
    | cons n r ih => simp only [List.map_cons, RepL]; exact ⟨_, _, [], [], rfl, rep_int, ih, rfl⟩
  simp only [RepL, Rep]
  refine ⟨_, _, [], [], rfl, ⟨a, _, rfl, ?_, key ns, rfl⟩, ⟨rfl, rfl⟩, rfl⟩
  rcases h with (h | h) | h
  · rcases o a with z | ⟨_, _, z⟩ <;> rw [h] at z <;> cases z
  · exact .inl h
  · exact .inr h
theorem rf_bl {mg : Mg} {H H' : Hp} {fp : List Addr} {R : Rm} {b : Bool} {v : V} (r : RF mg H H' fp R (.bl b) v) : v = .bl b := by
  cases R with
  | flat => exact rBl (show Rep mg H' (.bl b) v [] from r)
  | fresh => obtain ⟨_, r, _⟩ := r; exact rBl r
  | out => obtain ⟨_, r, _⟩ := r; exact rBl r
/-- the end: a law whose tree is True at every script -/
theorem walk_V {l : PySem.W.OpenLaw} {n k : Nat} {q : Program} {loose : List Str} {XP : (Str → Option Value) → Heap → Prop} {YP : World → Heap → Prop} {d : DefRec} {x : Str} {sem : List D → Option Res} {R : Rm}
    (hn : l.most = some n) (hn2 : n ≤ sizeLine) (hdf : d.params.defaults = []) (hr : Room k callerA)
    (hs : ∀ ns : List Int, ns.length ≤ n → (∀ z ∈ ns, Builtin.Int.intBits z ≤ 1048576) → sem [.scr (ns.map D.int)] = some (.ret (.bl true)))
    (F : ∀ (w : World) (mg : Str → Option Value) (fa : Addr) (h : Heap), YP w h → h.Ns mainGlobals mg → mg d.name = some (.ref fa) →
      ∃ (K : PySem.W.Frag) (fd : FuncData), K.In h ∧ (∀ (s : Shared) (u : Value), BindsTo s fd ⟨[u], []⟩ [(x, u)]) ∧
        ∀ base : Heap, K.In base → base.Ns mainGlobals mg → FnOk l.prog w K mg base CX0 k fa fd [x] (sp0 ⟨mg, K⟩ sem 1 R)) :
    PySem.W.WalkO q loose XP YP l.row.toRowW d [] (fun f vs => PySem.call f vs) := by
  refine Att.attach_callB hn hdf fun w s₀ s₁ mg mb fa o pm cd doc a vs ns G Y ho hd hcd hmg hobj hints hlen hbits hg => ?_
  obtain ⟨K, fd, KX, hb, hF⟩ := F w mg fa _ Y G.T.g hmg
  refine law_call KX G.T.g G.T.b G.T.builtins G.T.nolimit hg hobj hints (Nat.le_trans hlen hn2) hr hF hb (fun H hO hS => ?_) fun H e s' h => h
  exact ⟨rfl, _, [], _, scr_rep (mg := ⟨mg, K⟩) hS hO, hs ns hlen hbits, fun v H' _ r => rf_bl r⟩
end VV

/-! ## VSimp -/
namespace VV
open PySem PySem.Spec PyProof.Rows L2
/-- keeps a lemma from being used without a trace -/
theorem of_rfl {α : Sort u} {a b : α} (h : a = b) : a = b := h

/-! ### the functions of trees, evaluated -/
def asB : D → Option Bool
  | .bl b => some b
  | _ => none
def asRet : Option Res → Option D
  | some (.ret d) => some d
  | _ => none
def asL : D → Option (List D)
  | .lst l => some l
  | .scr l => some l
  | _ => none
def asT : D → Option (List D)
  | .tup l => some l
  | _ => none
def outR : Option Out → Option Res
  | some (.nx _) => some (.ret .non)
  | some (.rt d) => some (.ret d)
  | some (.ex c _) => some (.exn c)
  | _ => none
def seqO (o : Option Out) (b : Sv) : Option Out := match o with
  | some (.nx ρ) => b ρ
  | o => o
section
variable {i n : Nat} {ρ : List D} {d : D} {e e1 e2 : Ev} {a r : List D → Option (List D)} {f : List D → Option D} {g : List D → Option Res} {p : D → Bool} {s1 s2 : Sv} {c c2 : List D → Option Bool} {t : Tv} {pk : List Kd} {ds : List D}
@[simp] theorem eVar_s : eVar i ρ = ρ[i]? := of_rfl rfl
@[simp] theorem eC_s : eC d ρ = some d := of_rfl rfl
@[simp] theorem aNil_s : aNil ρ = some [] := of_rfl rfl
@[simp] theorem aCons_s : aCons e a ρ = (e ρ).bind fun d => (a ρ).bind fun ds => some (d :: ds) := of_rfl rfl
@[simp] theorem eP_s : eP f a ρ = (a ρ).bind f := of_rfl rfl
@[simp] theorem eTup_s : eTup a ρ = (a ρ).bind fun ds => some (.tup ds) := of_rfl rfl
@[simp] theorem eLst_s : eLst a ρ = (a ρ).bind fun ds => some (.lst ds) := of_rfl rfl
@[simp] theorem eChk_s : eChk p e ρ = (e ρ).filter p := of_rfl rfl
@[simp] theorem tOf_s : tOf e ρ = (e ρ).bind asB := by
  unfold tOf
  cases e ρ with
  | none => rfl
  | some d => cases d <;> rfl
@[simp] theorem asB_s {b : Bool} : asB (.bl b) = some b := of_rfl rfl
@[simp] theorem eCall_s : eCall g a ρ = (a ρ).bind fun ds => asRet (g ds) := by
  unfold eCall
  cases a ρ with
  | none => rfl
  | some ds =>
    show (match g ds with | some (.ret d) => some d | _ => none) = asRet (g ds)
    cases g ds with
    | none => rfl
    | some r => cases r <;> rfl
@[simp] theorem asRet_s : asRet (some (.ret d)) = some d := of_rfl rfl
@[simp] theorem sNil_s : sNil ρ = some (.nx ρ) := of_rfl rfl
@[simp] theorem sPass_s : sPass ρ = some (.nx ρ) := of_rfl rfl
@[simp] theorem sCont_s : sCont ρ = some (.ct ρ) := of_rfl rfl
@[simp] theorem sRetN_s : sRetN ρ = some (.rt .non) := of_rfl rfl
@[simp] theorem sSeq_s : sSeq s1 s2 ρ = seqO (s1 ρ) s2 := by
  unfold sSeq seqO
  cases s1 ρ with
  | none => rfl
  | some o => cases o <;> rfl
@[simp] theorem seqO_nx : seqO (some (.nx ρ)) s2 = s2 ρ := of_rfl rfl
@[simp] theorem seqO_rt : seqO (some (.rt d)) s2 = some (.rt d) := of_rfl rfl
@[simp] theorem seqO_ct : seqO (some (.ct ρ)) s2 = some (.ct ρ) := of_rfl rfl
@[simp] theorem sRet_s : sRet e ρ = (e ρ).bind fun d => some (.rt d) := of_rfl rfl
@[simp] theorem sSet_s : sSet i e ρ = (e ρ).bind fun d => some (.nx (ρ.set i d)) := of_rfl rfl
@[simp] theorem sAsg_s : sAsg t e ρ = (e ρ).bind fun d => (t d ρ).bind fun ρ' => some (.nx ρ') := of_rfl rfl
theorem sIf_s : sIf c s1 s2 ρ = (c ρ).bind fun b => if b then s1 ρ else s2 ρ := rfl
@[simp] theorem sIf_t (h : c ρ = some true) : sIf c s1 s2 ρ = s1 ρ := by rw [sIf_s, h]; rfl
@[simp] theorem sIf_f (h : c ρ = some false) : sIf c s1 s2 ρ = s2 ρ := by rw [sIf_s, h]; rfl
@[simp] theorem wAnd_s : wAnd c c2 ρ = (c ρ).bind fun b => if b then c2 ρ else some false := of_rfl rfl
@[simp] theorem wOr_s : wOr c c2 ρ = (c ρ).bind fun b => if b then some true else c2 ρ := of_rfl rfl
@[simp] theorem wNot_s : wNot c ρ = (c ρ).bind fun b => some (!b) := of_rfl rfl
@[simp] theorem vNot_s : vNot e ρ = (e ρ).bind fun d => (asB d).bind fun b => some (.bl (!b)) := by
  unfold vNot
  cases e ρ with
  | none => rfl
  | some d => cases d <;> rfl
@[simp] theorem vAnd_s : vAnd e1 e2 ρ = (e1 ρ).bind fun d => (asB d).bind fun b => if b then e2 ρ else some (.bl false) := by
  unfold vAnd
  cases e1 ρ with
  | none => rfl
  | some d =>
    cases d with
    | bl b => cases b <;> rfl
    | _ => rfl
@[simp] theorem vOr_s : vOr e1 e2 ρ = (e1 ρ).bind fun d => (asB d).bind fun b => if b then some (.bl true) else e2 ρ := by
  unfold vOr
  cases e1 ρ with
  | none => rfl
  | some d =>
    cases d with
    | bl b => cases b <;> rfl
    | _ => rfl
@[simp] theorem cYes_s : cYes ρ = some true := of_rfl rfl
@[simp] theorem gN_s : gN i d ρ = some (ρ.set i d) := of_rfl rfl
@[simp] theorem gF_s : gF t d ρ = if d.isFlat then t d ρ else none := of_rfl rfl
@[simp] theorem gT_s {l : List D} {ts : List D → List D → Option (List D)} : gT ts (.tup l) ρ = ts l ρ := of_rfl rfl
@[simp] theorem gL_s {l : List D} {ts : List D → List D → Option (List D)} : gL ts (.lst l) ρ = ts l ρ := of_rfl rfl
@[simp] theorem gsNil_s : gsNil [] ρ = some ρ := of_rfl rfl
@[simp] theorem gsCons_s {l : List D} {ts : List D → List D → Option (List D)} : gsCons t ts (d :: l) ρ = (t d ρ).bind fun ρ' => ts l ρ' := of_rfl rfl
@[simp] theorem fl_non : D.non.isFlat = true := of_rfl rfl
@[simp] theorem fl_int {k : Int} : (D.int k).isFlat = true := of_rfl rfl
@[simp] theorem fl_bl {k : Bool} : (D.bl k).isFlat = true := of_rfl rfl
@[simp] theorem fl_str {k : Str} : (D.str k).isFlat = true := of_rfl rfl
@[simp] theorem fl_scr {k : List D} : (D.scr k).isFlat = true := of_rfl rfl
@[simp] theorem fl_fn {k : Str} : (D.fn k).isFlat = true := of_rfl rfl
@[simp] theorem fl_tup {k : List D} : (D.tup k).isFlat = D.isFlatL k := by simp only [D.isFlat]
@[simp] theorem fl_lst {k : List D} : (D.lst k).isFlat = false := by simp only [D.isFlat]
@[simp] theorem flL_nil : D.isFlatL [] = true := by simp only [D.isFlatL]
@[simp] theorem flL_cons {k : List D} : D.isFlatL (d :: k) = (d.isFlat && D.isFlatL k) := by simp only [D.isFlatL]
@[simp] theorem flL_ints {k : List Int} : D.isFlatL (k.map D.int) = true := by
  induction k with
  | nil => rfl
  | cons a r ih => simp only [List.map_cons, flL_cons, fl_int, ih, Bool.and_self]
@[simp] theorem kf_lst {k : List D} : (D.lst k).kidsFlat = D.isFlatL k := of_rfl rfl
theorem fn_s (h : pkOk pk ds = true) : fnSem n pk s1 ds = outR (s1 (ds ++ List.replicate (n - ds.length) .non)) := by
  unfold fnSem
  refine (if_pos h).trans ?_
  unfold outR
  cases s1 (ds ++ List.replicate (n - ds.length) .non) with
  | none => rfl
  | some o => cases o <;> rfl
@[simp] theorem outR_rt : outR (some (.rt d)) = some (.ret d) := of_rfl rfl
@[simp] theorem outR_nx : outR (some (.nx ρ)) = some (.ret .non) := of_rfl rfl
@[simp] theorem pk_nil : pkOk [] [] = true := of_rfl rfl
@[simp] theorem pk_flat {k : List D} : pkOk (.flat :: pk) (d :: k) = (d.isFlat && pkOk pk k) := of_rfl rfl
@[simp] theorem pk_lab {k : List D} : pkOk (.lab none [0] false :: pk) (d :: k) = pkOk pk k := of_rfl rfl

@[simp] theorem dI2_s {h : Int → Int → Int} {x y : Int} : dI2 h [.int x, .int y] = some (.int (h x y)) := of_rfl rfl
@[simp] theorem dB2_s {h : Int → Int → Bool} {x y : Int} : dB2 h [.int x, .int y] = some (.bl (h x y)) := of_rfl rfl
@[simp] theorem dI1_s {h : Int → Int} {x : Int} : dI1 h [.int x] = some (.int (h x)) := of_rfl rfl
theorem dMul_s {x y : Int} (h : CMulX x y) : dMul [.int x, .int y] = some (.int (x * y)) := if_pos h
theorem dDiv_s {x y : Int} (h : CDivW x y) : dDiv [.int x, .int y] = some (.int (x / y)) := if_pos h
@[simp] theorem dMod_s {x y : Int} (h : 0 < y) : dMod [.int x, .int y] = some (.int (x % y)) := if_pos h
theorem dPow_s {x y : Int} (h : CPow x y) : dPow [.int x, .int y] = some (.int (x ^ y.toNat)) := if_pos h
theorem pow_e {a b c : Int} (h : CPow a b) (e : a ^ b.toNat = c) : eP dPow (aCons (eC (.int a)) (aCons (eC (.int b)) aNil)) = eC (.int c) := by
  funext ρ
  rw [← e]
  exact dPow_s h
@[simp] theorem dLen_l {l : List D} : dLen [.lst l] = some (.int l.length) := of_rfl rfl
@[simp] theorem dLen_c {l : List D} : dLen [.scr l] = some (.int l.length) := of_rfl rfl
@[simp] theorem dLen_t {l : List D} : dLen [.tup l] = some (.int l.length) := of_rfl rfl
@[simp] theorem dIdx_l {l : List D} {k : Int} : dIdx [.lst l, .int k] = atI l k := of_rfl rfl
@[simp] theorem dIdx_c {l : List D} {k : Int} : dIdx [.scr l, .int k] = atI l k := of_rfl rfl
@[simp] theorem dIdx_t {l : List D} {k : Int} : dIdx [.tup l, .int k] = atI l k := of_rfl rfl
theorem atI_n {α : Type} {l : List α} {k : Nat} : atI l (k : Int) = l[k]? := by
  unfold atI ixN
  rw [if_pos (by omega)]
  by_cases h : k < l.length
  · rw [if_pos (by omega)]; simp
  · rw [if_neg (by omega)]; simp; omega
theorem atI_of {α : Type} {l : List α} {z : Int} {k : Nat} (h : z = k) : atI l z = l[k]? := by rw [h]; exact atI_n
@[simp] theorem atI_0 {α : Type} {l : List α} : atI l 0 = l[0]? := atI_of (k := 0) rfl
@[simp] theorem atI_lit {α : Type} {l : List α} {n : Nat} : atI l (no_index (OfNat.ofNat n : Int)) = l[(OfNat.ofNat n : Nat)]? := atI_of (k := n) rfl
@[simp] theorem atI_1 {α : Type} {l : List α} : atI l 1 = l[1]? := atI_of (k := 1) rfl
@[simp] theorem dInt_i {k : Int} : dIntC [.int k] = some (.int k) := of_rfl rfl
@[simp] theorem dInt_b {k : Bool} : dIntC [.bl k] = some (.int (if k then 1 else 0)) := of_rfl rfl
@[simp] theorem eLc_s {it : List D → Option (List D)} : eLc it t c e ρ = (it ρ).bind fun xs => (lcL t c e ρ xs).bind fun ys => some (.lst ys) := of_rfl rfl
@[simp] theorem iLst_s : iLst e ρ = (e ρ).bind asL := by
  unfold iLst
  cases e ρ with
  | none => rfl
  | some d => cases d <;> rfl
@[simp] theorem iTupl_s : iTupl e ρ = (e ρ).bind asT := by
  unfold iTupl
  cases e ρ with
  | none => rfl
  | some d => cases d <;> rfl
@[simp] theorem asL_l {l : List D} : asL (.lst l) = some l := of_rfl rfl
@[simp] theorem asL_c {l : List D} : asL (.scr l) = some l := of_rfl rfl
@[simp] theorem asT_t {l : List D} : asT (.tup l) = some l := of_rfl rfl
@[simp] theorem sFor_s {it : List D → Option (List D)} {b : Sv} : sFor it t b ρ = (it ρ).bind fun xs => forL t b xs ρ := of_rfl rfl
@[simp] theorem sMut_s {h : D → D → Option D} : sMut h i e ρ = (e ρ).bind fun y => (ρ[i]?).bind fun x => (h x y).bind fun z => some (.nx (ρ.set i z)) := of_rfl rfl
theorem dPush_s {l : List D} (h : l.length < 1000000) : dPush (.lst l) d = some (.lst (l ++ [d])) := if_pos h
theorem rng_len {lo : Int} {k : Nat} : (rngD lo k).length = k := by unfold rngD; simp
theorem iRng1_s {k : Int} (h : a ρ = some [.int k]) (h1 : k ≤ 10000000) (h2 : -10000000 ≤ k) : iRng a ρ = some (rngD 0 k.toNat) := by
  unfold iRng
  rw [h]
  exact if_pos ⟨h1, h2⟩
theorem iRng2_s {j k : Int} (h : a ρ = some [.int j, .int k]) (h1 : k ≤ 10000000) (h2 : -10000000 ≤ j) (h3 : j ≤ 10000000) (h4 : -10000000 ≤ k) (h5 : k - j ≤ 10000000) : iRng a ρ = some (rngD j (k - j).toNat) := by
  unfold iRng
  rw [h]
  exact if_pos ⟨h1, h2, h3, h4, h5⟩
theorem rng0 {k : Nat} : rngD 0 k = (List.range k).map fun i : Nat => D.int i := by
  unfold rngD
  apply List.map_congr_left
  intro i _
  simp
theorem iZip_s {l r : List D} (h : a ρ = some [.lst l, .lst r]) : iZipL a ρ = some ((l.zip r).map fun p => .tup [p.1, p.2]) := by
  unfold iZipL
  rw [h]
  rfl
@[simp] theorem iEnum_s : iEnumL e ρ = (e ρ).bind fun d => match d with | .lst l => some (l.mapIdx fun i d => .tup [.int i, d]) | _ => none := of_rfl rfl
@[simp] theorem oNone_s : oNone ρ = some none := of_rfl rfl
@[simp] theorem oSome_s : oSome e ρ = (e ρ).bind fun d => match d with | .int i => some (some i) | _ => none := of_rfl rfl
@[simp] theorem eSl_s {lo hi : List D → Option (Option Int)} : eSl e lo hi ρ = (e ρ).bind fun d => (lo ρ).bind fun l => (hi ρ).bind fun h => dSl d l h := of_rfl rfl
@[simp] theorem dSl_l {l : List D} {lo hi : Option Int} : dSl (.lst l) lo hi = some (.lst (cutG l lo hi)) := of_rfl rfl
theorem dSl_t {l : List D} {lo hi : Option Int} (h : ¬ (HT.sIx l.length 0 lo = 0 ∧ HT.sIx l.length l.length hi = l.length)) : dSl (.tup l) lo hi = some (.tup (cutG l lo hi)) := if_neg h
theorem cutG_map {α β : Type} {l : List α} {f : α → β} {lo hi : Option Int} : cutG (l.map f) lo hi = (cutG l lo hi).map f := by
  unfold cutG
  simp [List.map_take, List.map_drop]
end

/-! ### comprehensions, loops -/
theorem lcL_map {α : Type} {t : Tv} {c : List D → Option Bool} {e : Ev} {ρ : List D} (x : α → D) (y : α → D) : ∀ l : List α, (∀ a ∈ l, ∃ ρ1, t (x a) ρ = some ρ1 ∧ c ρ1 = some true ∧ e ρ1 = some (y a)) → lcL t c e ρ (l.map x) = some (l.map y)
  | [], _ => rfl
  | a :: r, h => by
    obtain ⟨ρ1, h1, h2, h3⟩ := h a List.mem_cons_self
    have ih := lcL_map x y r fun b hb => h b (List.mem_cons_of_mem _ hb)
    show lcL t c e ρ (x a :: r.map x) = _
    unfold lcL
    rw [h1]
    simp [h2, h3, ih]
theorem lcL_filter {α : Type} {t : Tv} {c : List D → Option Bool} {e : Ev} {ρ : List D} (x : α → D) (p : α → Bool) (y : α → D) : ∀ l : List α, (∀ a ∈ l, ∃ ρ1, t (x a) ρ = some ρ1 ∧ c ρ1 = some (p a) ∧ (p a = true → e ρ1 = some (y a))) → lcL t c e ρ (l.map x) = some ((l.filter p).map y)
  | [], _ => rfl
  | a :: r, h => by
    obtain ⟨ρ1, h1, h2, h3⟩ := h a List.mem_cons_self
    have ih := lcL_filter x p y r fun b hb => h b (List.mem_cons_of_mem _ hb)
    show lcL t c e ρ (x a :: r.map x) = _
    unfold lcL
    rw [h1]
    cases hp : p a with
    | true => simp [h2, hp, h3 hp, ih]
    | false => simp [h2, hp, ih]
/-- a loop whose turns go through -/
theorem forL_rel {α σ : Type} {t : Tv} {b : Sv} (x : α → D) (R : σ → List D → Prop) (step : σ → α → σ) : ∀ (l : List α) (s : σ) (ρ : List D), R s ρ →
    (∀ s a ρ, a ∈ l → R s ρ → ∃ ρ1 ρ2, t (x a) ρ = some ρ1 ∧ (b ρ1 = some (.nx ρ2) ∨ b ρ1 = some (.ct ρ2)) ∧ R (step s a) ρ2) → ∃ ρ', forL t b (l.map x) ρ = some (.nx ρ') ∧ R (l.foldl step s) ρ'
  | [], s, ρ, h, _ => ⟨ρ, rfl, h⟩
  | a :: r, s, ρ, h, k => by
    obtain ⟨ρ1, ρ2, h1, h2, h3⟩ := k s a ρ List.mem_cons_self h
    obtain ⟨ρ', h4, h5⟩ := forL_rel x R step r (step s a) ρ2 h3 fun s b ρ hb => k s b ρ (List.mem_cons_of_mem _ hb)
    refine ⟨ρ', ?_, h5⟩
    show forL t b (x a :: r.map x) ρ = _
    unfold forL
    rw [h1]
    dsimp only
    rcases h2 with h2 | h2 <;> rw [h2] <;> exact h4
/-- the same by places: the invariant speaks of how many items are done -/
theorem forL_inv {α : Type} {t : Tv} {b : Sv} (x : α → D) (l : List α) (R : Nat → List D → Prop) (ρ : List D) (h0 : R 0 ρ)
    (k : ∀ (i : Nat) (a : α) (ρ : List D), l[i]? = some a → R i ρ → ∃ ρ1 ρ2, t (x a) ρ = some ρ1 ∧ (b ρ1 = some (.nx ρ2) ∨ b ρ1 = some (.ct ρ2)) ∧ R (i + 1) ρ2) : ∃ ρ', forL t b (l.map x) ρ = some (.nx ρ') ∧ R l.length ρ' := by
  have gen : ∀ (m : Nat) (i : Nat) (ρ : List D), m = l.length - i → i ≤ l.length → R i ρ → ∃ ρ', forL t b ((l.drop i).map x) ρ = some (.nx ρ') ∧ R l.length ρ' := by
    intro m
    induction m with
    | zero =>
      intro i ρ hm hi h
      have : i = l.length := by omega
      subst this
      exact ⟨ρ, by simp [forL], h⟩
    | succ m ih =>
      intro i ρ hm hi h
      have hlt : i < l.length := by omega
      obtain ⟨ρ1, ρ2, h1, h2, h3⟩ := k i l[i] ρ (List.getElem?_eq_getElem hlt) h
      obtain ⟨ρ', h4, h5⟩ := ih (i + 1) ρ2 (by omega) hlt h3
      refine ⟨ρ', ?_, h5⟩
      rw [List.drop_eq_getElem_cons hlt]
      show forL t b (x l[i] :: (l.drop (i + 1)).map x) ρ = _
      unfold forL
      rw [h1]
      dsimp only
      rcases h2 with h2 | h2 <;> rw [h2] <;> exact h4
  have := gen l.length 0 ρ (by simp) (Nat.zero_le _) h0
  simpa using this
end VV

/-! ## VTab -/
namespace VP
open PySem PySem.Spec PyProof.Rows L2 VV
def m_nought : Sv :=
  (sRet (eTup (aCons (eVar 0) (aCons (eVar 1) (aCons (eLc (iRng (aCons (eVar 0) aNil)) (gN 2) cYes (eP dRep (aCons (eLst (aCons (eC (.int 0)) aNil)) (aCons (eVar 1) aNil)))) aNil)))))
def f_nought : List D → Option Res := fnSem 3 [.flat, .flat] m_nought
def m_unit : Sv :=
  (sRet (eTup (aCons (eVar 0) (aCons (eVar 0) (aCons (eLc (iRng (aCons (eVar 0) aNil)) (gN 1) cYes (eLc (iRng (aCons (eVar 0) aNil)) (gN 2) cYes (eP dIntC (aCons (eP dEq (aCons (eVar 1) (aCons (eVar 2) aNil))) aNil)))) aNil)))))
def f_unit : List D → Option Res := fnSem 3 [.flat] m_unit
def m_turned : Sv :=
  (sSeq (sAsg (gT (gsCons (gF (gN 1)) (gsCons (gF (gN 2)) (gsCons (gN 3) gsNil)))) (eVar 0))
  (sRet (eTup (aCons (eVar 2) (aCons (eVar 1) (aCons (eLc (iRng (aCons (eVar 2) aNil)) (gN 4) cYes (eLc (iRng (aCons (eVar 1) aNil)) (gN 5) cYes (eChk D.isFlat (eP dIdx (aCons (eP dIdx (aCons (eVar 3) (aCons (eVar 5) aNil))) (aCons (eVar 4) aNil)))))) aNil))))))
def f_turned : List D → Option Res := fnSem 6 [.lab none [0] false] m_turned
def m_plus : Sv :=
  (sSeq (sIf (tOf (eP dNe (aCons (eChk D.isFlat (eSl (eChk D.isTup (eVar 0)) oNone (oSome (eC (.int 2))))) (aCons (eChk D.isFlat (eSl (eChk D.isTup (eVar 1)) oNone (oSome (eC (.int 2))))) aNil))))
  sNever
  sNil)
  (sRet (eTup (aCons (eChk D.isFlat (eP dIdx (aCons (eVar 0) (aCons (eC (.int 0)) aNil)))) (aCons (eChk D.isFlat (eP dIdx (aCons (eVar 0) (aCons (eC (.int 1)) aNil)))) (aCons (eLc (iZipL (aCons (eP dIdx (aCons (eVar 0) (aCons (eC (.int 2)) aNil))) (aCons (eP dIdx (aCons (eVar 1) (aCons (eC (.int 2)) aNil))) aNil))) (gT (gsCons (gN 2) (gsCons (gN 3) gsNil))) cYes (eLc (iZipL (aCons (eVar 2) (aCons (eVar 3) aNil))) (gT (gsCons (gF (gN 4)) (gsCons (gF (gN 5)) gsNil))) cYes (eP dAdd (aCons (eVar 4) (aCons (eVar 5) aNil))))) aNil))))))
def f_plus : List D → Option Res := fnSem 6 [.lab none [0] false, .lab none [0] false] m_plus
def m_many_times : Sv :=
  (sRet (eTup (aCons (eChk D.isFlat (eP dIdx (aCons (eVar 1) (aCons (eC (.int 0)) aNil)))) (aCons (eChk D.isFlat (eP dIdx (aCons (eVar 1) (aCons (eC (.int 1)) aNil)))) (aCons (eLc (iLst (eP dIdx (aCons (eVar 1) (aCons (eC (.int 2)) aNil)))) (gN 2) cYes (eLc (iLst (eVar 2)) (gF (gN 3)) cYes (eP dMul (aCons (eVar 0) (aCons (eVar 3) aNil))))) aNil)))))
def f_many_times : List D → Option Res := fnSem 4 [.flat, .lab none [0] false] m_many_times
def m_product : Sv :=
  (sSeq (sIf (tOf (eP dNe (aCons (eChk D.isFlat (eP dIdx (aCons (eVar 0) (aCons (eC (.int 1)) aNil)))) (aCons (eChk D.isFlat (eP dIdx (aCons (eVar 1) (aCons (eC (.int 0)) aNil)))) aNil))))
  sNever
  sNil)
  (sSeq (sSet 2 (eLst aNil))
  (sSeq (sFor (iLst (eP dIdx (aCons (eVar 0) (aCons (eC (.int 2)) aNil)))) (gN 3)
  (sSeq (sSet 4 (eP dRep (aCons (eLst (aCons (eC (.int 0)) aNil)) (aCons (eChk D.isFlat (eP dIdx (aCons (eVar 1) (aCons (eC (.int 1)) aNil)))) aNil))))
  (sSeq (sFor (iZipL (aCons (eVar 3) (aCons (eP dIdx (aCons (eVar 1) (aCons (eC (.int 2)) aNil))) aNil))) (gT (gsCons (gF (gN 5)) (gsCons (gN 6) gsNil)))
  (sIf (tOf (eP dNe (aCons (eVar 5) (aCons (eC (.int 0)) aNil))))
  (sSet 4 (eLc (iZipL (aCons (eVar 4) (aCons (eVar 6) aNil))) (gT (gsCons (gF (gN 7)) (gsCons (gF (gN 8)) gsNil))) cYes (eP dAdd (aCons (eVar 7) (aCons (eP dMul (aCons (eVar 5) (aCons (eVar 8) aNil))) aNil)))))
  sNil))
  (sMut dPush 2 (eVar 4)))))
  (sRet (eTup (aCons (eChk D.isFlat (eP dIdx (aCons (eVar 0) (aCons (eC (.int 0)) aNil)))) (aCons (eChk D.isFlat (eP dIdx (aCons (eVar 1) (aCons (eC (.int 1)) aNil)))) (aCons (eVar 2) aNil))))))))
def f_product : List D → Option Res := fnSem 9 [.lab none [0] false, .lab none [0] false] m_product
def m__law_cell_at : Sv :=
  (sSeq (sIf (tOf (eP dLt (aCons (eVar 1) (aCons (eP dLen (aCons (eVar 0) aNil)) aNil))))
  (sRet (eP dIdx (aCons (eVar 0) (aCons (eVar 1) aNil))))
  sNil)
  (sRet (eC (.int 0))))
def f__law_cell_at : List D → Option Res := fnSem 2 [.flat, .flat] m__law_cell_at
def m__law_row : Sv :=
  (sSeq (sSet 3 (eP dDiv (aCons (eVar 0) (aCons (eC (.int 2)) aNil))))
  (sSeq (sSet 4 (eLst aNil))
  (sSeq (sSet 5 (eVar 3))
  (sSeq (sFor (iRng (aCons (eVar 1) aNil)) (gN 6)
  (sSet 5 (eP dDiv (aCons (eVar 5) (aCons (eVar 2) aNil)))))
  (sSeq (sFor (iRng (aCons (eVar 1) aNil)) (gN 6)
  (sIf (tOf (eP dGt (aCons (eVar 5) (aCons (eC (.int 0)) aNil))))
  (sSeq (sMut dPush 4 (eP dMod (aCons (eVar 3) (aCons (eVar 2) aNil))))
  (sSet 3 (eP dDiv (aCons (eVar 3) (aCons (eVar 2) aNil)))))
  (sSeq (sSet 7 (eP dMod (aCons (eP dMul (aCons (eP dAdd (aCons (eP dAdd (aCons (eP dAdd (aCons (eP dMod (aCons (eVar 3) (aCons (eC (.int 2147483629)) aNil))) (aCons (eP dMul (aCons (eC (.int 7919)) (aCons (eVar 6) aNil))) aNil))) (aCons (eP dMul (aCons (eVar 6) (aCons (eVar 6) aNil))) aNil))) (aCons (eC (.int 1)) aNil))) (aCons (eC (.int 48271)) aNil))) (aCons (eC (.int 2147483647)) aNil))))
  (sSeq (sSet 8 (eP dMod (aCons (eP dMul (aCons (eP dAdd (aCons (eVar 7) (aCons (eP dMul (aCons (eC (.int 31)) (aCons (eVar 6) aNil))) aNil))) (aCons (eC (.int 69621)) aNil))) (aCons (eC (.int 998244353)) aNil))))
  (sMut dPush 4 (eP dMod (aCons (eP dAdd (aCons (eP dMul (aCons (eVar 7) (aCons (eVar 8) aNil))) (aCons (eP dDiv (aCons (eVar 7) (aCons (eC (.int 7)) aNil))) aNil))) (aCons (eVar 2) aNil))))))))
  (sRet (eVar 4)))))))
def f__law_row : List D → Option Res := fnSem 9 [.flat, .flat, .flat] m__law_row
def m__law_entry : Sv :=
  (sSeq (sIf (tOf (eP dLt (aCons (eP dMod (aCons (eVar 0) (aCons (eC (.int 8)) aNil))) (aCons (eC (.int 3)) aNil))))
  (sRet (eC (.int 0)))
  sNil)
  (sSeq (sIf (tOf (eP dLt (aCons (eP dMod (aCons (eVar 0) (aCons (eC (.int 8)) aNil))) (aCons (eC (.int 7)) aNil))))
  (sRet (eP dSub (aCons (eP dMod (aCons (eP dDiv (aCons (eVar 0) (aCons (eC (.int 8)) aNil))) (aCons (eC (.int 21)) aNil))) (aCons (eC (.int 10)) aNil))))
  sNil)
  (sRet (eP dAdd (aCons (eP dMul (aCons (eP dSub (aCons (eP dDiv (aCons (eVar 0) (aCons (eC (.int 8)) aNil))) (aCons (eC (.int 256)) aNil))) (aCons (eP dPow (aCons (eC (.int 10)) (aCons (eC (.int 9)) aNil))) aNil))) (aCons (eP dDiv (aCons (eVar 0) (aCons (eC (.int 8)) aNil))) aNil))))))
def f__law_entry : List D → Option Res := fnSem 1 [.flat] m__law_entry
def m__law_table : Sv :=
  (sSeq (sSet 3 (eChk D.kidsFlat (eCall f__law_row (aCons (eVar 0) (aCons (eP dMul (aCons (eVar 1) (aCons (eVar 2) aNil))) (aCons (eC (.int 4096)) aNil))))))
  (sRet (eTup (aCons (eVar 1) (aCons (eVar 2) (aCons (eLc (iRng (aCons (eVar 1) aNil)) (gN 4) cYes (eLc (iRng (aCons (eVar 2) aNil)) (gN 5) cYes (eCall f__law_entry (aCons (eChk D.isFlat (eP dIdx (aCons (eVar 3) (aCons (eP dAdd (aCons (eP dMul (aCons (eVar 4) (aCons (eVar 2) aNil))) (aCons (eVar 5) aNil))) aNil)))) aNil)))) aNil))))))
def f__law_table : List D → Option Res := fnSem 6 [.flat, .flat, .flat] m__law_table

/-! ### numbers, sums -/
def Bn (n : Nat) (x : Int) : Prop := x.natAbs < 2 ^ n
theorem Bn.mono {n m : Nat} {x : Int} (h : Bn n x) (hm : n ≤ m) : Bn m x := Nat.lt_of_lt_of_le h (Nat.pow_le_pow_right (by decide) hm)
theorem Bn.zero {n : Nat} : Bn n 0 := Nat.two_pow_pos n
theorem Bn.add {n : Nat} {x y : Int} (h : Bn n x) (h' : Bn n y) : Bn (n + 1) (x + y) := by
  unfold Bn at *
  rw [Nat.pow_succ]
  omega
theorem Bn.neg {n : Nat} {x : Int} (h : Bn n x) : Bn n (-x) := by unfold Bn at *; omega
theorem Bn.mul {n m : Nat} {x y : Int} (h : Bn n x) (h' : Bn m y) : Bn (n + m) (x * y) := by
  unfold Bn at *
  rw [Int.natAbs_mul, Nat.pow_add]
  exact Nat.mul_lt_mul'' h h'
theorem Bn.cmul {n m : Nat} {x y : Int} (h : Bn n x) (h' : Bn m y) (hs : n + m ≤ 134217728) : CMulX x y := mulx_ok h h' hs
def S : Nat → (Nat → Int) → Int
  | 0, _ => 0
  | n + 1, u => S n u + u n
theorem S_congr {u v : Nat → Int} : ∀ {n : Nat}, (∀ k, k < n → u k = v k) → S n u = S n v
  | 0, _ => rfl
  | n + 1, h => by
    unfold S
    rw [S_congr fun k hk => h k (Nat.lt_succ_of_lt hk), h n (Nat.lt_succ_self n)]
theorem S_add {u v : Nat → Int} : ∀ {n : Nat}, S n (fun k => u k + v k) = S n u + S n v
  | 0 => rfl
  | n + 1 => by
    show S n (fun k => u k + v k) + (u n + v n) = (S n u + u n) + (S n v + v n)
    rw [S_add]
    omega
theorem S_mulL {c : Int} {u : Nat → Int} : ∀ {n : Nat}, S n (fun k => c * u k) = c * S n u
  | 0 => by simp [S]
  | n + 1 => by
    unfold S
    rw [S_mulL, Int.mul_add]
theorem S_mulR {c : Int} {u : Nat → Int} : ∀ {n : Nat}, S n (fun k => u k * c) = S n u * c
  | 0 => by simp [S]
  | n + 1 => by
    unfold S
    rw [S_mulR, Int.add_mul]
theorem S_zero : ∀ {n : Nat}, S n (fun _ => 0) = 0
  | 0 => rfl
  | n + 1 => by unfold S; rw [S_zero]; rfl
theorem S_comm {m : Nat} {u : Nat → Nat → Int} : ∀ {n : Nat}, S n (fun i => S m (fun j => u i j)) = S m (fun j => S n (fun i => u i j))
  | 0 => by simp [S, S_zero]
  | n + 1 => by
    show S n (fun i => S m (fun j => u i j)) + S m (fun j => u n j) = S m (fun j => S n (fun i => u i j) + u n j)
    rw [S_comm, S_add]
theorem S_delta {c : Nat → Int} {a : Nat} : ∀ {n : Nat}, S n (fun k => (if a = k then 1 else 0) * c k) = if a < n then c a else 0
  | 0 => by simp [S]
  | n + 1 => by
    show S n (fun k => (if a = k then 1 else 0) * c k) + (if a = n then 1 else 0) * c n = _
    rw [S_delta]
    by_cases h : a = n
    · subst h; simp
    · by_cases h2 : a < n
      · rw [if_pos h2, if_neg h, if_pos (by omega)]; omega
      · rw [if_neg h2, if_neg h, if_neg (by omega)]; omega
theorem S_deltaR {c : Nat → Int} {a n : Nat} : S n (fun k => c k * (if k = a then 1 else 0)) = if a < n then c a else 0 := by
  rw [← S_delta]
  apply S_congr
  intro k _
  by_cases h : a = k
  · subst h; simp
  · simp [h, Ne.symm h]
theorem S_bn {u : Nat → Int} {b : Nat} : ∀ {n c : Nat}, n ≤ 2 ^ c → (∀ k, k < n → Bn b (u k)) → Bn (b + c) (S n u) := by
  have key : ∀ n : Nat, (∀ k, k < n → Bn b (u k)) → (S n u).natAbs ≤ n * (2 ^ b - 1) := by
    intro n
    induction n with
    | zero => intro _; simp [S]
    | succ n ih =>
      intro h
      have h1 := ih fun k hk => h k (Nat.lt_succ_of_lt hk)
      have h2 : (u n).natAbs < 2 ^ b := h n (Nat.lt_succ_self n)
      unfold S
      rw [Nat.succ_mul]
      omega
  intro n c hn h
  have h1 := key n h
  have h2 : n * (2 ^ b - 1) ≤ 2 ^ c * (2 ^ b - 1) := Nat.mul_le_mul_right _ hn
  have h3 : 2 ^ c * (2 ^ b - 1) < 2 ^ b * 2 ^ c := by
    rw [Nat.mul_comm (2 ^ b)]
    exact Nat.mul_lt_mul_of_pos_left (by have := Nat.two_pow_pos b; omega) (Nat.two_pow_pos c)
  unfold Bn
  rw [Nat.pow_add]
  omega

/-! ### tables as trees -/
def rowD (w : Nat) (r : Nat → Int) : D := .lst ((List.range w).map fun j => .int (r j))
def encT (h w : Nat) (f : Nat → Nat → Int) : D := .tup [.int h, .int w, .lst ((List.range h).map fun i => rowD w (f i))]
theorem rowD_congr {w : Nat} {r s : Nat → Int} (h : ∀ j, j < w → r j = s j) : rowD w r = rowD w s := by
  unfold rowD
  congr 1
  apply List.map_congr_left
  intro j hj
  rw [h j (List.mem_range.mp hj)]
theorem encT_congr {h w : Nat} {f g : Nat → Nat → Int} (e : ∀ i j, i < h → j < w → f i j = g i j) : encT h w f = encT h w g := by
  unfold encT
  have : ((List.range h).map fun i => rowD w (f i)) = (List.range h).map fun i => rowD w (g i) := by
    apply List.map_congr_left
    intro i hi
    exact rowD_congr fun j hj => e i j (List.mem_range.mp hi) hj
  rw [this]
theorem toPL_map {α : Type} (x : α → D) : ∀ l : List α, D.toPL (l.map x) = l.map fun a => (x a).toP
  | [] => by simp [D.toPL]
  | a :: r => by simp [D.toPL, toPL_map x r]
theorem canLayAll_map {α : Type} (x : α → PyData) : ∀ l : List α, (∀ a ∈ l, (x a).canLay0 = true) → PyData.canLayAll0 (l.map x) = true
  | [], _ => by simp [PyData.canLayAll0]
  | a :: r, h => by
    simp only [List.map_cons, PyData.canLayAll0, Bool.and_eq_true]
    exact ⟨h a List.mem_cons_self, canLayAll_map x r fun b hb => h b (List.mem_cons_of_mem _ hb)⟩
theorem depthAll_map {α : Type} (x : α → PyData) (n : Nat) : ∀ l : List α, (∀ a ∈ l, (x a).depth ≤ n) → PyData.depthAll (l.map x) ≤ n
  | [], _ => by simp [PyData.depthAll]
  | a :: r, h => by
    simp only [List.map_cons, PyData.depthAll]
    exact Nat.max_le.mpr ⟨h a List.mem_cons_self, depthAll_map x n r fun b hb => h b (List.mem_cons_of_mem _ hb)⟩
/-- a tree that the look at == takes -/
def Ok (n : Nat) (d : D) : Prop := d.toP.canLay0 = true ∧ d.toP.depth ≤ n
theorem Ok.shd {n : Nat} {d : D} (h : Ok n d) (hn : n ≤ 64) : d.shd = true := by
  unfold D.shd SeqAt.shaped
  rw [Bool.and_eq_true]
  exact ⟨h.1, decide_eq_true (Nat.le_trans h.2 hn)⟩
theorem Ok.int {k : Int} : Ok 0 (.int k) := ⟨by simp [D.toP, PyData.canLay0], by simp [D.toP, PyData.depth]⟩
theorem Ok.bl {k : Bool} : Ok 0 (.bl k) := ⟨by simp [D.toP, PyData.canLay0], by simp [D.toP, PyData.depth]⟩
theorem Ok.non : Ok 0 .non := ⟨by simp [D.toP, PyData.canLay0], by simp [D.toP, PyData.depth]⟩
theorem Ok.mono {n m : Nat} {d : D} (h : Ok n d) (hm : n ≤ m) : Ok m d := ⟨h.1, Nat.le_trans h.2 hm⟩
theorem Ok.lst {α : Type} {n : Nat} {x : α → D} {l : List α} (h : ∀ a ∈ l, Ok n (x a)) : Ok (n + 1) (.lst (l.map x)) := by
  refine ⟨?_, ?_⟩
  · simp only [D.toP, PyData.canLay0, toPL_map]
    exact canLayAll_map _ l fun a ha => (h a ha).1
  · simp only [D.toP, PyData.depth, toPL_map]
    exact Nat.succ_le_succ (depthAll_map _ n l fun a ha => (h a ha).2)
theorem Ok.tup {n : Nat} {l : List D} (h : ∀ a ∈ l, Ok n a) : Ok (n + 1) (.tup l) := by
  refine ⟨?_, ?_⟩
  · simp only [D.toP, PyData.canLay0]
    rw [← List.map_id l, toPL_map]
    exact canLayAll_map _ l fun a ha => (h a ha).1
  · simp only [D.toP, PyData.depth]
    rw [← List.map_id l, toPL_map]
    exact Nat.succ_le_succ (depthAll_map _ n l fun a ha => (h a ha).2)
theorem Ok.lst' {n : Nat} {l : List D} (h : ∀ a ∈ l, Ok n a) : Ok (n + 1) (.lst l) := by
  rw [← List.map_id l]
  exact Ok.lst h
theorem ok_encT {h w : Nat} {f : Nat → Nat → Int} : Ok 3 (encT h w f) := by
  refine Ok.tup fun a ha => ?_
  simp only [List.mem_cons, List.not_mem_nil, or_false] at ha
  rcases ha with rfl | rfl | rfl
  · exact Ok.int.mono (by decide)
  · exact Ok.int.mono (by decide)
  · exact Ok.lst fun i _ => Ok.lst fun j _ => Ok.int
theorem eqv_rfl {d : D} (h : d.toP.canLay0 = true) : d.eqv d = true := SeqAt.eqv_refl _ h
theorem dNe_same {n : Nat} {d : D} (h : Ok n d) (hn : n ≤ 64) : dNe [d, d] = some (.bl false) := by
  unfold dNe
  dsimp only
  rw [h.shd hn, eqv_rfl h.1]
  rfl
theorem dEq_same {n : Nat} {d : D} (h : Ok n d) (hn : n ≤ 64) : dEq [d, d] = some (.bl true) := by
  unfold dEq
  dsimp only
  rw [h.shd hn, eqv_rfl h.1]
  rfl
@[simp] theorem dEq_int {a b : Int} : dEq [.int a, .int b] = some (.bl (a == b)) := by
  unfold dEq
  dsimp only
  rw [Ok.int.shd (by decide), Ok.int.shd (by decide)]
  simp [D.eqv, D.toP, PyData.eqv]
@[simp] theorem dNe_int {a b : Int} : dNe [.int a, .int b] = some (.bl (a != b)) := by
  unfold dNe
  dsimp only
  rw [Ok.int.shd (by decide), Ok.int.shd (by decide)]
  simp [D.eqv, D.toP, PyData.eqv, bne]

/-! ### the shared functions -/
theorem cell_ok (ns : List Int) (k : Nat) : f__law_cell_at [.scr (ns.map D.int), .int k] = some (.ret (.int (ns.getD k 0))) := by
  unfold f__law_cell_at
  rw [fn_s (by simp)]
  simp only [m__law_cell_at]
  by_cases h : k < ns.length
  · simp [sIf_s, h, atI_n]
  · simp [sIf_s, h]
theorem nought_ok (h w : Nat) (hh : h ≤ 1000000) (hw : w ≤ 1000000) : f_nought [.int h, .int w] = some (.ret (encT h w fun _ _ => 0)) := by
  unfold f_nought
  rw [fn_s (by simp)]
  simp only [m_nought]
  simp only [sRet_s, eTup_s, aCons_s, eVar_s, eLc_s]
  rw [iRng1_s (k := h) (by simp) (by omega) (by omega), rng0]
  have row : rowD w (fun _ => 0) = .lst (List.replicate w [D.int 0]).flatten := by
    unfold rowD
    rw [List.map_const', List.length_range]
    congr 1
    induction w with
    | zero => rfl
    | succ w ih => rw [List.replicate_succ, List.replicate_succ, List.flatten_cons, ih (by omega)]; rfl
  have e := lcL_map (t := gN 2) (c := cYes) (e := eP dRep (aCons (eLst (aCons (eC (.int 0)) aNil)) (aCons (eVar 1) aNil))) (ρ := [.int h, .int w] ++ List.replicate (3 - [D.int h, D.int w].length) .non) (fun i : Nat => D.int i) (fun _ => rowD w fun _ => 0) (List.range h) fun a ha => by
    refine ⟨_, rfl, rfl, ?_⟩
    simp only [eP_s, aCons_s, eLst_s, eC_s, aNil_s, eVar_s, Option.bind_some]
    simp only [List.length_cons, List.length_nil, List.cons_append, List.nil_append, List.set_cons_succ, List.getElem?_cons_succ, List.getElem?_cons_zero, Option.bind_some]
    unfold dRep
    dsimp only
    rw [if_pos ⟨by simp, by omega, by omega, by simp; omega⟩, row, Int.toNat_natCast]
  simp only [Int.toNat_natCast] at e ⊢
  rw [Option.bind_some, e]
  simp [encT]
end VP

/-! ## VTab2 -/
namespace VP
open PySem PySem.Spec PyProof.Rows L2 VV
theorem cm {x y : Int} (hx : x.natAbs < 2 ^ 63) (hy : y.natAbs < 2 ^ 63) : CMulX x y := Bn.cmul (n := 63) (m := 63) hx hy (by decide)
theorem cdv {x : Int} {n : Int} (h : 0 < n) (h2 : n.natAbs < 2 ^ 60) : CDivW x n := ⟨h, by
  have : n.natAbs.log2 < 60 := (Nat.log2_lt (by omega)).mpr h2
  omega⟩
theorem row_ok (cell : Int) (many base : Nat) (hm : many ≤ 1000000) (hb : 0 < base) (hb2 : base < 2 ^ 60) :
    ∃ r : List Int, f__law_row [.int cell, .int many, .int base] = some (.ret (.lst (r.map D.int))) ∧ r.length = many ∧ ∀ x ∈ r, 0 ≤ x ∧ x < base := by
  unfold f__law_row
  rw [fn_s (by simp)]
  have e0 : [D.int cell, .int many, .int base] ++ List.replicate (9 - [D.int cell, .int many, .int base].length) .non = [.int cell, .int many, .int base, .non, .non, .non, .non, .non, .non] := rfl
  rw [e0]
  have hcb : ∀ y : Int, dDiv [.int y, .int base] = some (.int (y / base)) := fun y => dDiv_s (cdv (by omega) (by omega))
  obtain ⟨ρ1, l1, R1⟩ := forL_inv (t := gN 6) (b := sSet 5 (eP dDiv (aCons (eVar 5) (aCons (eVar 2) aNil)))) (fun i : Nat => D.int i) (List.range many)
    (fun _ ρ => ∃ (y : Int) (k : D), ρ = [.int cell, .int many, .int base, .int (cell / 2), .lst [], .int y, k, .non, .non])
    [.int cell, .int many, .int base, .int (cell / 2), .lst [], .int (cell / 2), .non, .non, .non] ⟨_, _, rfl⟩
    (fun i a ρ ha hR => by
      obtain ⟨y, k, rfl⟩ := hR
      refine ⟨_, _, rfl, Or.inl ?_, ⟨y / base, .int a, rfl⟩⟩
      simp [hcb])
  obtain ⟨y1, k1, rfl⟩ := R1
  obtain ⟨ρ2, l2, R2⟩ := forL_inv (t := gN 6) (b := (sIf (tOf (eP dGt (aCons (eVar 5) (aCons (eC (.int 0)) aNil))))
  (sSeq (sMut dPush 4 (eP dMod (aCons (eVar 3) (aCons (eVar 2) aNil))))
  (sSet 3 (eP dDiv (aCons (eVar 3) (aCons (eVar 2) aNil)))))
  (sSeq (sSet 7 (eP dMod (aCons (eP dMul (aCons (eP dAdd (aCons (eP dAdd (aCons (eP dAdd (aCons (eP dMod (aCons (eVar 3) (aCons (eC (.int 2147483629)) aNil))) (aCons (eP dMul (aCons (eC (.int 7919)) (aCons (eVar 6) aNil))) aNil))) (aCons (eP dMul (aCons (eVar 6) (aCons (eVar 6) aNil))) aNil))) (aCons (eC (.int 1)) aNil))) (aCons (eC (.int 48271)) aNil))) (aCons (eC (.int 2147483647)) aNil))))
  (sSeq (sSet 8 (eP dMod (aCons (eP dMul (aCons (eP dAdd (aCons (eVar 7) (aCons (eP dMul (aCons (eC (.int 31)) (aCons (eVar 6) aNil))) aNil))) (aCons (eC (.int 69621)) aNil))) (aCons (eC (.int 998244353)) aNil))))
  (sMut dPush 4 (eP dMod (aCons (eP dAdd (aCons (eP dMul (aCons (eVar 7) (aCons (eVar 8) aNil))) (aCons (eP dDiv (aCons (eVar 7) (aCons (eC (.int 7)) aNil))) aNil))) (aCons (eVar 2) aNil)))))))) (fun i : Nat => D.int i) (List.range many)
    (fun n ρ => ∃ (z y : Int) (k a b : D) (r : List Int), ρ = [.int cell, .int many, .int base, .int z, .lst (r.map D.int), .int y, k, a, b] ∧ r.length = n ∧ ∀ x ∈ r, 0 ≤ x ∧ x < base)
    [.int cell, .int many, .int base, .int (cell / 2), .lst [], .int y1, k1, .non, .non] ⟨_, _, _, _, _, [], rfl, rfl, fun _ h => nomatch h⟩
    (fun i a ρ ha hR => by
      obtain ⟨z, y, k, a1, b1, r, rfl, hl, hr⟩ := hR
      have hi : i < many := by
        have := (List.getElem?_eq_some_iff.mp ha).1
        simpa using this
      have hai : a = i := by
        have h2 := (List.getElem?_eq_some_iff.mp ha).2
        simpa using h2.symm
      subst hai
      have hlen : r.length < 1000000 := by omega
      have hpush : ∀ d : D, dPush (.lst (r.map D.int)) d = some (.lst (r.map D.int ++ [d])) := fun d => dPush_s (by simpa using hlen)
      have hmod : ∀ x : Int, 0 ≤ x % base ∧ x % base < base := fun x => ⟨Int.emod_nonneg _ (by omega), Int.emod_lt_of_pos _ (by omega)⟩
      have hmb : ∀ x : Int, dMod [.int x, .int base] = some (.int (x % base)) := fun x => dMod_s (by omega)
      by_cases hy : 0 < y
      · refine ⟨_, [.int cell, .int many, .int base, .int (z / base), .lst ((r ++ [z % base]).map D.int), .int y, .int a, a1, b1], rfl, Or.inl ?_, ⟨_, _, _, _, _, _, rfl, by simp [hl], ?_⟩⟩
        · simp [sIf_s, hy, hmb, hpush, hcb]
        · intro x hx
          rcases List.mem_append.mp hx with h | h
          · exact hr x h
          · rw [List.mem_singleton.mp h]; exact hmod _
      · have hii : ((a : Int) * a) ≤ 1000000000000 ∧ 0 ≤ (a : Int) * a := by
          have h1 : a * a ≤ 1000000 * 1000000 := Nat.mul_le_mul (by omega) (by omega)
          omega
        have hz := Int.emod_lt_of_pos z (b := 2147483629) (by decide)
        have hz0 := Int.emod_nonneg z (b := 2147483629) (by decide)
        have h1 : dMul [.int 7919, .int (a : Int)] = some (.int (7919 * a)) := dMul_s (cm (by decide) (by omega))
        have h2 : dMul [.int (a : Int), .int (a : Int)] = some (.int (a * a)) := dMul_s (cm (by omega) (by omega))
        obtain ⟨u, hu⟩ : ∃ u : Int, u = z % 2147483629 + 7919 * a + a * a + 1 := ⟨_, rfl⟩
        have h3 : dMul [.int u, .int 48271] = some (.int (u * 48271)) := dMul_s (cm (by omega) (by decide))
        obtain ⟨v, hv⟩ : ∃ v : Int, v = u * 48271 % 2147483647 := ⟨_, rfl⟩
        have hv1 := Int.emod_lt_of_pos (u * 48271) (b := 2147483647) (by decide)
        have hv0 := Int.emod_nonneg (u * 48271) (b := 2147483647) (by decide)
        have h4 : dMul [.int 31, .int (a : Int)] = some (.int (31 * a)) := dMul_s (cm (by decide) (by omega))
        have h5 : dMul [.int (v + 31 * a), .int 69621] = some (.int ((v + 31 * a) * 69621)) := dMul_s (cm (by omega) (by decide))
        obtain ⟨w, hw⟩ : ∃ w : Int, w = (v + 31 * a) * 69621 % 998244353 := ⟨_, rfl⟩
        have hw1 := Int.emod_lt_of_pos ((v + 31 * a) * 69621) (b := 998244353) (by decide)
        have hw0 := Int.emod_nonneg ((v + 31 * a) * 69621) (b := 998244353) (by decide)
        have h6 : dMul [.int v, .int w] = some (.int (v * w)) := dMul_s (cm (by omega) (by omega))
        have h7 : dDiv [.int v, .int 7] = some (.int (v / 7)) := dDiv_s (cdv (by decide) (by decide))
        refine ⟨_, [.int cell, .int many, .int base, .int z, .lst ((r ++ [(v * w + v / 7) % base]).map D.int), .int y, .int a, .int v, .int w], rfl, Or.inl ?_, ⟨_, _, _, _, _, _, rfl, by simp [hl], ?_⟩⟩
        · simp [sIf_s, hy, h1, h2, ← hu, h3, ← hv, h4, h5, ← hw, h6, h7, hmb, hpush]
        · intro x hx
          rcases List.mem_append.mp hx with h | h
          · exact hr x h
          · rw [List.mem_singleton.mp h]; exact hmod _)
  obtain ⟨z, y, k, a, b, r, rfl, hl, hr⟩ := R2
  refine ⟨r, ?_, by simpa using hl, hr⟩
  have h2 : dDiv [.int cell, .int 2] = some (.int (cell / 2)) := dDiv_s (cdv (by decide) (by decide))
  have hit : ∀ ρ : List D, ρ[1]? = some (.int many) → iRng (aCons (eVar 1) aNil) ρ = some ((List.range many).map fun i : Nat => D.int i) := fun ρ h => by
    rw [iRng1_s (k := many) (by simp [h]) (by omega) (by omega), rng0]
    simp
  simp [m__law_row, h2, hit, l1, l2]
theorem entry_ok (x : Int) (h0 : 0 ≤ x) (h1 : x < 4096) : ∃ e : Int, f__law_entry [.int x] = some (.ret (.int e)) ∧ Bn 40 e := by
  unfold f__law_entry
  rw [fn_s (by simp)]
  unfold m__law_entry
  rw [pow_e (a := 10) (b := 9) (c := 1000000000) (by unfold CPow; decide) (by decide)]
  have h8 : dDiv [.int x, .int 8] = some (.int (x / 8)) := dDiv_s (cdv (by decide) (by decide))
  by_cases c1 : x % 8 < 3
  · exact ⟨0, by simp [sIf_s, c1], Bn.zero⟩
  · by_cases c2 : x % 8 < 7
    · refine ⟨x / 8 % 21 - 10, by simp [sIf_s, c1, c2, h8], ?_⟩
      unfold Bn
      omega
    · have hm : dMul [.int (x / 8 - 256), .int 1000000000] = some (.int ((x / 8 - 256) * 1000000000)) := dMul_s (cm (by omega) (by decide))
      refine ⟨(x / 8 - 256) * 1000000000 + x / 8, by simp [sIf_s, c1, c2, h8, hm], ?_⟩
      unfold Bn
      omega
end VP

/-! ## VTab3 -/
namespace VP
open PySem PySem.Spec PyProof.Rows L2 VV
theorem enc0 {h w : Nat} {f : Nat → Nat → Int} : dIdx [encT h w f, .int 0] = some (.int h) := by unfold encT; simp
theorem enc1 {h w : Nat} {f : Nat → Nat → Int} : dIdx [encT h w f, .int 1] = some (.int w) := by unfold encT; simp
theorem enc2 {h w : Nat} {f : Nat → Nat → Int} : dIdx [encT h w f, .int 2] = some (.lst ((List.range h).map fun i => rowD w (f i))) := by unfold encT; simp
/-- a range made of numbers from nought, at place i of the frame, and what is made of it -/
theorem lcR {n i : Nat} {e : Ev} {ρ : List D} (y : Nat → D) (h : ∀ a, a < n → e (ρ.set i (.int (a : Nat))) = some (y a)) :
    lcL (gN i) cYes e ρ ((List.range n).map fun i : Nat => D.int i) = some ((List.range n).map y) :=
  lcL_map (fun i : Nat => D.int i) y _ fun a ha => ⟨_, gN_s, cYes_s, h a (List.mem_range.mp ha)⟩
theorem iR {n : Nat} {e : Ev} {ρ : List D} (h : e ρ = some (.int n)) (hn : n ≤ 1000000) : iRng (aCons e aNil) ρ = some ((List.range n).map fun i : Nat => D.int i) := by
  rw [iRng1_s (k := n) (by simp [h]) (by omega) (by omega), rng0]
  simp
theorem unit_ok (n : Nat) (hn : n ≤ 1000000) : f_unit [.int n] = some (.ret (encT n n fun i j => if i = j then 1 else 0)) := by
  unfold f_unit
  rw [fn_s (by simp)]
  simp only [m_unit, sRet_s, eTup_s, aCons_s, eVar_s, eLc_s]
  have e0 : [D.int n] ++ List.replicate (3 - [D.int n].length) .non = [.int n, .non, .non] := rfl
  rw [e0, iR (n := n) rfl hn]
  have e := lcR (n := n) (i := 1) (ρ := [.int n, .non, .non]) (e := eLc (iRng (aCons (eVar 0) aNil)) (gN 2) cYes (eP dIntC (aCons (eP dEq (aCons (eVar 1) (aCons (eVar 2) aNil))) aNil))) (fun i => rowD n fun j => if i = j then 1 else 0) fun a ha => by
    have e := lcR (n := n) (i := 2) (ρ := [.int n, .int a, .non]) (e := eP dIntC (aCons (eP dEq (aCons (eVar 1) (aCons (eVar 2) aNil))) aNil)) (fun j => .int (if a = j then 1 else 0)) fun b hb => by
      by_cases h : a = b
      · subst h; simp
      · have : ¬ ((a : Int) = b) := by omega
        simp [h, this]
    simp only [eLc_s, List.set_cons_succ, List.set_cons_zero]
    rw [iR (n := n) rfl hn, Option.bind_some, e]
    rfl
  rw [Option.bind_some, e]
  simp [encT]
theorem table_ok (cell : Int) (h w : Nat) (hh : h ≤ 1000) (hw : w ≤ 1000) : ∃ f : Nat → Nat → Int, f__law_table [.int cell, .int h, .int w] = some (.ret (encT h w f)) ∧ ∀ i j, i < h → j < w → Bn 40 (f i j) := by
  have hwh : h * w ≤ 1000 * 1000 := Nat.mul_le_mul hh hw
  obtain ⟨r, hr, hl, hb⟩ := row_ok cell (h * w) 4096 (by omega) (by omega) (by decide)
  have hx : ∀ i j, i < h → j < w → ∃ x, r[i * w + j]? = some x ∧ 0 ≤ x ∧ x < 4096 := by
    intro i j hi hj
    have : i * w + j < h * w := by
      have : (i + 1) * w ≤ h * w := Nat.mul_le_mul_right _ hi
      rw [Nat.succ_mul] at this
      omega
    exact ⟨r[i * w + j], List.getElem?_eq_getElem (by omega), hb _ (List.getElem_mem _)⟩
  have hf : ∀ i j, ∃ e : Int, i < h → j < w → ∃ x, r[i * w + j]? = some x ∧ f__law_entry [.int x] = some (.ret (.int e)) ∧ Bn 40 e := by
    intro i j
    by_cases hij : i < h ∧ j < w
    · obtain ⟨x, h1, h2, h3⟩ := hx i j hij.1 hij.2
      obtain ⟨e, h4, h5⟩ := entry_ok x h2 h3
      exact ⟨e, fun _ _ => ⟨x, h1, h4, h5⟩⟩
    · exact ⟨0, fun a b => absurd ⟨a, b⟩ hij⟩
  refine ⟨fun i j => (hf i j).choose, ?_, fun i j hi hj => ?_⟩
  · generalize hg : (fun i j => (hf i j).choose) = g
    have hgs : ∀ i j, i < h → j < w → ∃ x, r[i * w + j]? = some x ∧ f__law_entry [.int x] = some (.ret (.int (g i j))) := by
      intro i j hi hj
      obtain ⟨x, h1, h2, _⟩ := (hf i j).choose_spec hi hj
      exact ⟨x, h1, by rw [← hg]; exact h2⟩
    unfold f__law_table
    rw [fn_s (by simp)]
    have e0 : [D.int cell, .int h, .int w] ++ List.replicate (6 - [D.int cell, .int h, .int w].length) .non = [.int cell, .int h, .int w, .non, .non, .non] := rfl
    rw [e0]
    have hm : dMul [.int (h : Int), .int (w : Int)] = some (.int ((h * w : Nat) : Int)) := by
      rw [dMul_s (cm (by omega) (by omega))]; simp
    have hr' : f__law_row [.int cell, .int ((h : Int) * w), .int 4096] = some (.ret (.lst (r.map D.int))) := by
      have := hr
      simp only [Int.natCast_mul] at this
      exact this
    have e := lcR (n := h) (i := 4) (ρ := [.int cell, .int h, .int w, .lst (r.map D.int), .non, .non]) (e := eLc (iRng (aCons (eVar 2) aNil)) (gN 5) cYes (eCall f__law_entry (aCons (eChk D.isFlat (eP dIdx (aCons (eVar 3) (aCons (eP dAdd (aCons (eP dMul (aCons (eVar 4) (aCons (eVar 2) aNil))) (aCons (eVar 5) aNil))) aNil)))) aNil))) (fun i => rowD w (g i)) fun a ha => by
      have e := lcR (n := w) (i := 5) (ρ := [.int cell, .int h, .int w, .lst (r.map D.int), .int a, .non]) (e := eCall f__law_entry (aCons (eChk D.isFlat (eP dIdx (aCons (eVar 3) (aCons (eP dAdd (aCons (eP dMul (aCons (eVar 4) (aCons (eVar 2) aNil))) (aCons (eVar 5) aNil))) aNil)))) aNil)) (fun j => .int (g a j)) fun b hb => by
        obtain ⟨x, h1, h2⟩ := hgs a b ha hb
        have hm : dMul [.int (a : Int), .int (w : Int)] = some (.int ((a : Int) * w)) := dMul_s (cm (by omega) (by omega))
        have hat : atI (r.map D.int) ((a : Int) * w + b) = some (.int x) := by
          rw [atI_of (k := a * w + b) (by simp), List.getElem?_map, h1]; rfl
        simp [hm, hat, h2, Option.filter_some]
      simp only [eLc_s, List.set_cons_succ, List.set_cons_zero]
      rw [iR (n := w) rfl (by omega), Option.bind_some, e]
      rfl
    unfold m__law_table
    simp only [sSeq_s, sSet_s, eChk_s, eCall_s, eP_s, aCons_s, eVar_s, eC_s, aNil_s, Option.bind_some, List.getElem?_cons_zero, List.getElem?_cons_succ, hm, Int.natCast_mul, hr', asRet_s, Option.filter_some, kf_lst, flL_ints, if_true, seqO_nx, List.set_cons_succ, List.set_cons_zero, sRet_s, eTup_s, eLc_s]
    rw [iR (n := h) rfl (by omega), Option.bind_some, e]
    simp [encT]
  · exact ((hf i j).choose_spec hi hj).choose_spec.2.2
theorem zipmap {α β : Type} (f g : Nat → α) (k : α × α → β) (n : Nat) : (((List.range n).map f).zip ((List.range n).map g)).map k = (List.range n).map fun i => k (f i, g i) := by
  rw [List.zip_map', List.map_map]
  rfl
/-- pairs of two rows -/
theorem iZ {a : List D → Option (List D)} {ρ : List D} {f g : Nat → D} {n : Nat} (h : a ρ = some [.lst ((List.range n).map f), .lst ((List.range n).map g)]) : iZipL a ρ = some ((List.range n).map fun i => .tup [f i, g i]) := by
  rw [iZip_s h, zipmap]
theorem turned_ok (h w : Nat) (f : Nat → Nat → Int) (hh : h ≤ 1000) (hw : w ≤ 1000) : f_turned [encT h w f] = some (.ret (encT w h fun i j => f j i)) := by
  unfold f_turned
  rw [fn_s (by simp)]
  have e0 : [encT h w f] ++ List.replicate (6 - [encT h w f].length) .non = [encT h w f, .non, .non, .non, .non, .non] := rfl
  rw [e0]
  obtain ⟨R, hR⟩ : ∃ R, R = (List.range h).map fun i => rowD w (f i) := ⟨_, rfl⟩
  have e := lcR (n := w) (i := 4) (ρ := [encT h w f, .int h, .int w, .lst R, .non, .non]) (e := eLc (iRng (aCons (eVar 1) aNil)) (gN 5) cYes (eChk D.isFlat (eP dIdx (aCons (eP dIdx (aCons (eVar 3) (aCons (eVar 5) aNil))) (aCons (eVar 4) aNil))))) (fun i => rowD h fun j => f j i) fun a ha => by
    have e := lcR (n := h) (i := 5) (ρ := [encT h w f, .int h, .int w, .lst R, .int a, .non]) (e := eChk D.isFlat (eP dIdx (aCons (eP dIdx (aCons (eVar 3) (aCons (eVar 5) aNil))) (aCons (eVar 4) aNil)))) (fun j => .int (f j a)) fun b hb => by
      have h1 : atI R (b : Int) = some (rowD w (f b)) := by
        rw [atI_n, hR, List.getElem?_map, List.getElem?_range hb]; rfl
      have h2 : dIdx [rowD w (f b), .int (a : Int)] = some (.int (f b a)) := by
        unfold rowD
        rw [dIdx_l, atI_n, List.getElem?_map, List.getElem?_range ha]; rfl
      simp [h1, h2, Option.filter_some]
    simp only [eLc_s, List.set_cons_succ, List.set_cons_zero]
    rw [iR (n := h) rfl (by omega), Option.bind_some, e]
    rfl
  unfold m_turned
  have g1 : gT (gsCons (gF (gN 1)) (gsCons (gF (gN 2)) (gsCons (gN 3) gsNil))) (encT h w f) [encT h w f, .non, .non, .non, .non, .non] = some [encT h w f, .int h, .int w, .lst R, .non, .non] := by
    subst hR
    conv => lhs; arg 2; unfold encT
    simp
  simp only [sSeq_s, sAsg_s, eVar_s, List.getElem?_cons_zero, Option.bind_some, g1, seqO_nx, sRet_s, eTup_s, eLc_s, aCons_s, List.getElem?_cons_succ, aNil_s]
  rw [iR (n := w) rfl (by omega), Option.bind_some, e]
  simp [encT]
theorem many_ok (c : Int) (h w : Nat) (f : Nat → Nat → Int) {n m : Nat} (hc : Bn n c) (hf : ∀ i j, i < h → j < w → Bn m (f i j)) (hs : n + m ≤ 100000) : f_many_times [.int c, encT h w f] = some (.ret (encT h w fun i j => c * f i j)) := by
  unfold f_many_times
  rw [fn_s (by simp)]
  have e0 : [.int c, encT h w f] ++ List.replicate (4 - [.int c, encT h w f].length) .non = [.int c, encT h w f, .non, .non] := rfl
  rw [e0]
  unfold m_many_times
  have e := lcL_map (t := gN 2) (c := cYes) (ρ := [.int c, encT h w f, .non, .non]) (e := eLc (iLst (eVar 2)) (gF (gN 3)) cYes (eP dMul (aCons (eVar 0) (aCons (eVar 3) aNil)))) (fun i : Nat => rowD w (f i)) (fun i => rowD w fun j => c * f i j) (List.range h) fun a ha => by
    refine ⟨_, gN_s, cYes_s, ?_⟩
    have e := lcL_map (t := gF (gN 3)) (c := cYes) (ρ := [.int c, encT h w f, rowD w (f a), .non]) (e := eP dMul (aCons (eVar 0) (aCons (eVar 3) aNil))) (fun j : Nat => D.int (f a j)) (fun j => .int (c * f a j)) (List.range w) fun b hb => by
      refine ⟨[.int c, encT h w f, rowD w (f a), .int (f a b)], by simp, cYes_s, ?_⟩
      have : dMul [.int c, .int (f a b)] = some (.int (c * f a b)) := dMul_s ((hc).cmul (hf a b (List.mem_range.mp ha) (List.mem_range.mp hb)) (by omega))
      simp [this]
    simp only [eLc_s, iLst_s, eVar_s, List.set_cons_succ, List.set_cons_zero, List.getElem?_cons_succ, List.getElem?_cons_zero, Option.bind_some]
    have ra : asL (rowD w (f a)) = some ((List.range w).map fun j => .int (f a j)) := rfl
    rw [ra, Option.bind_some, e]
    rfl
  simp only [sRet_s, eTup_s, aCons_s, aNil_s, eP_s, eChk_s, eC_s, eLc_s, iLst_s, eVar_s, List.getElem?_cons_succ, List.getElem?_cons_zero, Option.bind_some, enc0, enc1, enc2, Option.filter_some, fl_int, if_true, asL_l]
  rw [e]
  simp [encT]
theorem plus_ok (h w : Nat) (f g : Nat → Nat → Int) : f_plus [encT h w f, encT h w g] = some (.ret (encT h w fun i j => f i j + g i j)) := by
  unfold f_plus
  rw [fn_s (by simp)]
  have e0 : [encT h w f, encT h w g] ++ List.replicate (6 - [encT h w f, encT h w g].length) .non = [encT h w f, encT h w g, .non, .non, .non, .non] := rfl
  rw [e0]
  unfold m_plus
  have c : ∀ f : Nat → Nat → Int, eChk D.isFlat (fun _ => dSl (encT h w f) none (some 2)) [] = some (.tup [.int h, .int w]) := by
    intro f
    unfold encT
    simp only [eChk_s]
    rw [dSl_t (by simp [HT.sIx])]
    simp [cutG, HT.sIx, Option.filter_some]
  have e := lcL_map (t := gT (gsCons (gN 2) (gsCons (gN 3) gsNil))) (c := cYes) (ρ := [encT h w f, encT h w g, .non, .non, .non, .non]) (e := eLc (iZipL (aCons (eVar 2) (aCons (eVar 3) aNil))) (gT (gsCons (gF (gN 4)) (gsCons (gF (gN 5)) gsNil))) cYes (eP dAdd (aCons (eVar 4) (aCons (eVar 5) aNil)))) (fun i : Nat => D.tup [rowD w (f i), rowD w (g i)]) (fun i => rowD w fun j => f i j + g i j) (List.range h) fun a ha => by
    refine ⟨[encT h w f, encT h w g, rowD w (f a), rowD w (g a), .non, .non], by simp, cYes_s, ?_⟩
    have e := lcL_map (t := gT (gsCons (gF (gN 4)) (gsCons (gF (gN 5)) gsNil))) (c := cYes) (ρ := [encT h w f, encT h w g, rowD w (f a), rowD w (g a), .non, .non]) (e := eP dAdd (aCons (eVar 4) (aCons (eVar 5) aNil))) (fun j : Nat => D.tup [.int (f a j), .int (g a j)]) (fun j => .int (f a j + g a j)) (List.range w) fun b hb => by
      exact ⟨[encT h w f, encT h w g, rowD w (f a), rowD w (g a), .int (f a b), .int (g a b)], by simp, cYes_s, by simp⟩
    rw [eLc_s, iZ (f := fun j => .int (f a j)) (g := fun j => .int (g a j)) (n := w) (by simp [rowD]), Option.bind_some, e]
    rfl
  have ht : tOf (eP dNe (aCons (eChk D.isFlat (eSl (eChk D.isTup (eVar 0)) oNone (oSome (eC (.int 2))))) (aCons (eChk D.isFlat (eSl (eChk D.isTup (eVar 1)) oNone (oSome (eC (.int 2))))) aNil))) [encT h w f, encT h w g, .non, .non, .non, .non] = some false := by
    have c1 := c f
    have c2 := c g
    have ck : ∀ f : Nat → Nat → Int, (some (encT h w f)).filter D.isTup = some (encT h w f) := fun f => rfl
    simp only [eChk_s] at c1 c2
    simp only [tOf_s, eP_s, aCons_s, aNil_s, eChk_s, eSl_s, oNone_s, oSome_s, eC_s, eVar_s, List.getElem?_cons_succ, List.getElem?_cons_zero, Option.bind_some, ck, c1, c2]
    rw [dNe_same (n := 1) (Ok.tup fun a ha => by
      simp only [List.mem_cons, List.not_mem_nil, or_false] at ha
      rcases ha with rfl | rfl <;> exact Ok.int) (by decide)]
    rfl
  rw [sSeq_s, sIf_f ht, sNil_s, seqO_nx]
  simp only [sRet_s, eTup_s, aCons_s, aNil_s, eP_s, eChk_s, eC_s, eLc_s, eVar_s, List.getElem?_cons_succ, List.getElem?_cons_zero, Option.bind_some, enc0, enc1, Option.filter_some, fl_int, if_true]
  rw [iZ (f := fun i => rowD w (f i)) (g := fun i => rowD w (g i)) (n := h) (by simp [enc2]), Option.bind_some, e]
  simp [encT]
end VP

/-! ## VTab4 -/
namespace VP
open PySem PySem.Spec PyProof.Rows L2 VV
theorem rng_at {n i a : Nat} (h : (List.range n)[i]? = some a) : i < n ∧ a = i := by
  have h1 := (List.getElem?_eq_some_iff.mp h).1
  have h2 := (List.getElem?_eq_some_iff.mp h).2
  exact ⟨by simpa using h1, by simpa using h2.symm⟩
theorem rep_row (d : Nat) (hd : d ≤ 1000000) : dRep [.lst [.int 0], .int d] = some (rowD d fun _ => 0) := by
  have row : ∀ w : Nat, rowD w (fun _ => 0) = .lst (List.replicate w [D.int 0]).flatten := by
    intro w
    unfold rowD
    rw [List.map_const', List.length_range]
    congr 1
    induction w with
    | zero => rfl
    | succ w ih => rw [List.replicate_succ, List.replicate_succ, List.flatten_cons, ih]; rfl
  unfold dRep
  dsimp only
  rw [if_pos ⟨by simp, by omega, by omega, by simp; omega⟩, row, Int.toNat_natCast]
abbrev mulE (f g : Nat → Nat → Int) (w : Nat) : Nat → Nat → Int := fun i j => S w fun k => f i k * g k j
theorem product_ok (h w d : Nat) (f g : Nat → Nat → Int) {n m : Nat} (hf : ∀ i j, i < h → j < w → Bn n (f i j)) (hg : ∀ i j, i < w → j < d → Bn m (g i j)) (hs : n + m ≤ 100000) (hh : h ≤ 1000) (hw : w ≤ 1000) (hd : d ≤ 1000) :
    f_product [encT h w f, encT w d g] = some (.ret (encT h d (mulE f g w))) := by
  unfold f_product
  rw [fn_s (by simp)]
  obtain ⟨A, hA⟩ : ∃ A, A = encT h w f := ⟨_, rfl⟩
  obtain ⟨B, hB⟩ : ∃ B, B = encT w d g := ⟨_, rfl⟩
  have A0 : dIdx [A, .int 0] = some (.int h) := by rw [hA]; exact enc0
  have A1 : dIdx [A, .int 1] = some (.int w) := by rw [hA]; exact enc1
  have A2 : dIdx [A, .int 2] = some (.lst ((List.range h).map fun i => rowD w (f i))) := by rw [hA]; exact enc2
  have B0 : dIdx [B, .int 0] = some (.int w) := by rw [hB]; exact enc0
  have B1 : dIdx [B, .int 1] = some (.int d) := by rw [hB]; exact enc1
  have B2 : dIdx [B, .int 2] = some (.lst ((List.range w).map fun i => rowD d (g i))) := by rw [hB]; exact enc2
  rw [← hA, ← hB]
  have e0 : [A, B] ++ List.replicate (9 - [A, B].length) .non = [A, B, .non, .non, .non, .non, .non, .non, .non] := rfl
  rw [e0]
  unfold m_product
  have ht : ∀ r, tOf (eP dNe (aCons (eChk D.isFlat (eP dIdx (aCons (eVar 0) (aCons (eC (.int 1)) aNil)))) (aCons (eChk D.isFlat (eP dIdx (aCons (eVar 1) (aCons (eC (.int 0)) aNil)))) aNil))) (A :: B :: r) = some false := by
    intro r
    simp [A1, B0, Option.filter_some]
  rw [sSeq_s, sIf_f (ht _), sNil_s, seqO_nx]
  have turn : ∀ (i : Nat) (L : List D) (x4 x5 x6 x7 x8 : D), i < h → L.length = i → ∃ y4 y5 y6 y7 y8, (sSeq (sSet 4 (eP dRep (aCons (eLst (aCons (eC (.int 0)) aNil)) (aCons (eChk D.isFlat (eP dIdx (aCons (eVar 1) (aCons (eC (.int 1)) aNil)))) aNil))))
  (sSeq (sFor (iZipL (aCons (eVar 3) (aCons (eP dIdx (aCons (eVar 1) (aCons (eC (.int 2)) aNil))) aNil))) (gT (gsCons (gF (gN 5)) (gsCons (gN 6) gsNil)))
  (sIf (tOf (eP dNe (aCons (eVar 5) (aCons (eC (.int 0)) aNil))))
  (sSet 4 (eLc (iZipL (aCons (eVar 4) (aCons (eVar 6) aNil))) (gT (gsCons (gF (gN 7)) (gsCons (gF (gN 8)) gsNil))) cYes (eP dAdd (aCons (eVar 7) (aCons (eP dMul (aCons (eVar 5) (aCons (eVar 8) aNil))) aNil)))))
  sNil))
  (sMut dPush 2 (eVar 4)))) [A, B, .lst L, rowD w (f i), x4, x5, x6, x7, x8] = some (.nx [A, B, .lst (L ++ [rowD d (mulE f g w i)]), rowD w (f i), y4, y5, y6, y7, y8]) := by
    intro i L x4 x5 x6 x7 x8 hi hL
    obtain ⟨ρ1, l1, R1⟩ := forL_inv (t := gT (gsCons (gF (gN 5)) (gsCons (gN 6) gsNil))) (b := (sIf (tOf (eP dNe (aCons (eVar 5) (aCons (eC (.int 0)) aNil))))
      (sSet 4 (eLc (iZipL (aCons (eVar 4) (aCons (eVar 6) aNil))) (gT (gsCons (gF (gN 7)) (gsCons (gF (gN 8)) gsNil))) cYes (eP dAdd (aCons (eVar 7) (aCons (eP dMul (aCons (eVar 5) (aCons (eVar 8) aNil))) aNil)))))
      sNil)) (fun k : Nat => D.tup [.int (f i k), rowD d (g k)]) (List.range w)
      (fun n ρ => ∃ y5 y6 y7 y8, ρ = [A, B, .lst L, rowD w (f i), rowD d (fun j => S n fun k => f i k * g k j), y5, y6, y7, y8])
      [A, B, .lst L, rowD w (f i), rowD d (fun _ => 0), x5, x6, x7, x8] ⟨_, _, _, _, rfl⟩
      (fun k a ρ ha hR => by
        obtain ⟨hk, rfl⟩ := rng_at ha
        obtain ⟨y5, y6, y7, y8, rfl⟩ := hR
        refine ⟨[A, B, .lst L, rowD w (f i), rowD d (fun j => S a fun k => f i k * g k j), .int (f i a), rowD d (g a), y7, y8], ?_⟩
        refine ⟨[A, B, .lst L, rowD w (f i), rowD d (fun j => S (a + 1) fun k => f i k * g k j), .int (f i a), rowD d (g a), y7, y8], by simp, Or.inl ?_, ⟨_, _, _, _, rfl⟩⟩
        by_cases hz : f i a = 0
        · have hc : tOf (eP dNe (aCons (eVar 5) (aCons (eC (.int 0)) aNil))) [A, B, .lst L, rowD w (f i), rowD d (fun j => S a fun k => f i k * g k j), .int (f i a), rowD d (g a), y7, y8] = some false := by simp [hz]
          rw [sIf_f hc, sNil_s]
          have : rowD d (fun j => S a fun k => f i k * g k j) = rowD d (fun j => S (a + 1) fun k => f i k * g k j) := rowD_congr fun j _ => by
            show _ = S a _ + f i a * g a j
            rw [hz, Int.zero_mul, Int.add_zero]
          rw [this]
        · have hc : tOf (eP dNe (aCons (eVar 5) (aCons (eC (.int 0)) aNil))) [A, B, .lst L, rowD w (f i), rowD d (fun j => S a fun k => f i k * g k j), .int (f i a), rowD d (g a), y7, y8] = some true := by simp [hz]
          rw [sIf_t hc]
          have e := lcL_map (t := gT (gsCons (gF (gN 7)) (gsCons (gF (gN 8)) gsNil))) (c := cYes) (ρ := [A, B, .lst L, rowD w (f i), rowD d (fun j => S a fun k => f i k * g k j), .int (f i a), rowD d (g a), y7, y8]) (e := eP dAdd (aCons (eVar 7) (aCons (eP dMul (aCons (eVar 5) (aCons (eVar 8) aNil))) aNil))) (fun j : Nat => D.tup [.int (S a fun k => f i k * g k j), .int (g a j)]) (fun j => .int (S (a + 1) fun k => f i k * g k j)) (List.range d) fun b hb => by
            refine ⟨[A, B, .lst L, rowD w (f i), rowD d (fun j => S a fun k => f i k * g k j), .int (f i a), rowD d (g a), .int (S a fun k => f i k * g k b), .int (g a b)], by simp, cYes_s, ?_⟩
            have : dMul [.int (f i a), .int (g a b)] = some (.int (f i a * g a b)) := dMul_s ((hf i a hi hk).cmul (hg a b hk (List.mem_range.mp hb)) (by omega))
            simp [this, S]
          rw [sSet_s, eLc_s, iZ (f := fun j => .int (S a fun k => f i k * g k j)) (g := fun j => .int (g a j)) (n := d) (by simp [rowD]), Option.bind_some, e]
          rfl)
    obtain ⟨y5, y6, y7, y8, rfl⟩ := R1
    refine ⟨rowD d (fun j => S w fun k => f i k * g k j), y5, y6, y7, y8, ?_⟩
    have hset : sSet 4 (eP dRep (aCons (eLst (aCons (eC (.int 0)) aNil)) (aCons (eChk D.isFlat (eP dIdx (aCons (eVar 1) (aCons (eC (.int 1)) aNil)))) aNil))) [A, B, .lst L, rowD w (f i), x4, x5, x6, x7, x8] = some (.nx [A, B, .lst L, rowD w (f i), rowD d (fun _ => 0), x5, x6, x7, x8]) := by
      simp [B1, Option.filter_some, rep_row d (by omega)]
    have hz : iZipL (aCons (eVar 3) (aCons (eP dIdx (aCons (eVar 1) (aCons (eC (.int 2)) aNil))) aNil)) [A, B, .lst L, rowD w (f i), rowD d (fun _ => 0), x5, x6, x7, x8] = some ((List.range w).map fun k => D.tup [.int (f i k), rowD d (g k)]) :=
      iZ (f := fun k => .int (f i k)) (g := fun k => rowD d (g k)) (n := w) (by simp [B2]; rfl)
    rw [sSeq_s, hset, seqO_nx, sSeq_s, sFor_s, hz, Option.bind_some, l1, seqO_nx]
    rw [List.length_range]
    simp [dPush_s (show L.length < 1000000 by omega)]
  obtain ⟨ρ1, l1, R1⟩ := forL_inv (t := gN 3) (b := (sSeq (sSet 4 (eP dRep (aCons (eLst (aCons (eC (.int 0)) aNil)) (aCons (eChk D.isFlat (eP dIdx (aCons (eVar 1) (aCons (eC (.int 1)) aNil)))) aNil))))
  (sSeq (sFor (iZipL (aCons (eVar 3) (aCons (eP dIdx (aCons (eVar 1) (aCons (eC (.int 2)) aNil))) aNil))) (gT (gsCons (gF (gN 5)) (gsCons (gN 6) gsNil)))
  (sIf (tOf (eP dNe (aCons (eVar 5) (aCons (eC (.int 0)) aNil))))
  (sSet 4 (eLc (iZipL (aCons (eVar 4) (aCons (eVar 6) aNil))) (gT (gsCons (gF (gN 7)) (gsCons (gF (gN 8)) gsNil))) cYes (eP dAdd (aCons (eVar 7) (aCons (eP dMul (aCons (eVar 5) (aCons (eVar 8) aNil))) aNil)))))
  sNil))
  (sMut dPush 2 (eVar 4))))) (fun i : Nat => rowD w (f i)) (List.range h)
    (fun n ρ => ∃ y3 y4 y5 y6 y7 y8, ρ = [A, B, .lst ((List.range n).map fun i => rowD d (mulE f g w i)), y3, y4, y5, y6, y7, y8])
    [A, B, .lst [], .non, .non, .non, .non, .non, .non] ⟨_, _, _, _, _, _, rfl⟩
    (fun i a ρ ha hR => by
      obtain ⟨hi, rfl⟩ := rng_at ha
      obtain ⟨y3, y4, y5, y6, y7, y8, rfl⟩ := hR
      obtain ⟨z4, z5, z6, z7, z8, hz⟩ := turn a ((List.range a).map fun i => rowD d (mulE f g w i)) y4 y5 y6 y7 y8 hi (by simp)
      refine ⟨_, _, rfl, Or.inl hz, ⟨rowD w (f a), z4, z5, z6, z7, z8, ?_⟩⟩
      have : (List.range (a + 1)).map (fun i => rowD d (mulE f g w i)) = (List.range a).map (fun i => rowD d (mulE f g w i)) ++ [rowD d (mulE f g w a)] := by
        rw [List.range_succ, List.map_append]
        rfl
      rw [this])
  obtain ⟨y3, y4, y5, y6, y7, y8, rfl⟩ := R1
  have hs2 : sSet 2 (eLst aNil) [A, B, .non, .non, .non, .non, .non, .non, .non] = some (.nx [A, B, .lst [], .non, .non, .non, .non, .non, .non]) := by simp
  have hit : iLst (eP dIdx (aCons (eVar 0) (aCons (eC (.int 2)) aNil))) [A, B, .lst [], .non, .non, .non, .non, .non, .non] = some ((List.range h).map fun i => rowD w (f i)) := by simp [A2]
  rw [sSeq_s, hs2, seqO_nx, sSeq_s, sFor_s, hit, Option.bind_some, l1, seqO_nx, List.length_range]
  simp [A0, B1, Option.filter_some, encT]
end VP

/-! ## K03s -/
namespace K03
open PySem PySem.Spec PyProof.Rows L2 VV VP

def m_law : Sv :=
  (sSeq (sSet 1 (eChk D.kidsFlat (eCall f__law_row (aCons (eCall f__law_cell_at (aCons (eVar 0) (aCons (eC (.int 0)) aNil))) (aCons (eC (.int 8)) (aCons (eC (.int 4096)) aNil))))))
  (sSeq (sSet 2 (eChk D.isFlat (eP dIdx (aCons (eLst (aCons (eC (.int 6)) (aCons (eC (.int 17)) aNil))) (aCons (eP dIntC (aCons (eP dEq (aCons (eP dMod (aCons (eChk D.isFlat (eP dIdx (aCons (eVar 1) (aCons (eC (.int 5)) aNil)))) (aCons (eC (.int 8)) aNil))) (aCons (eC (.int 5)) aNil))) aNil)) aNil)))))
  (sSeq (sSet 4 (eLc (iLst (eSl (eChk D.isLst (eVar 1)) oNone (oSome (eC (.int 5))))) (gF (gN 3)) cYes (eP dMod (aCons (eVar 3) (aCons (eVar 2) aNil)))))
  (sSeq (sSet 5 (eLc (iRng (aCons (eC (.int 4)) aNil)) (gN 12) cYes (eCall f__law_table (aCons (eCall f__law_cell_at (aCons (eVar 0) (aCons (eP dAdd (aCons (eC (.int 1)) (aCons (eVar 12) aNil))) aNil))) (aCons (eChk D.isFlat (eP dIdx (aCons (eVar 4) (aCons (eVar 12) aNil)))) (aCons (eChk D.isFlat (eP dIdx (aCons (eVar 4) (aCons (eP dAdd (aCons (eVar 12) (aCons (eC (.int 1)) aNil))) aNil)))) aNil))))))
  (sSeq (sSet 6 (eLc (iRng (aCons (eC (.int 3)) aNil)) (gN 12) cYes (eCall f__law_table (aCons (eCall f__law_cell_at (aCons (eVar 0) (aCons (eP dAdd (aCons (eC (.int 5)) (aCons (eVar 12) aNil))) aNil))) (aCons (eChk D.isFlat (eP dIdx (aCons (eVar 4) (aCons (eVar 12) aNil)))) (aCons (eChk D.isFlat (eP dIdx (aCons (eVar 4) (aCons (eP dAdd (aCons (eVar 12) (aCons (eC (.int 1)) aNil))) aNil)))) aNil))))))
  (sSeq (sAsg (gL (gsCons (gN 7) (gsCons (gN 8) (gsCons (gN 9) (gsCons (gN 10) gsNil))))) (eVar 5))
  (sSeq (sSet 3 (eP dSub (aCons (eP dMod (aCons (eCall f__law_cell_at (aCons (eVar 0) (aCons (eC (.int 8)) aNil))) (aCons (eP dPow (aCons (eC (.int 10)) (aCons (eC (.int 30)) aNil))) aNil))) (aCons (eP dMul (aCons (eC (.int 5)) (aCons (eP dPow (aCons (eC (.int 10)) (aCons (eC (.int 29)) aNil))) aNil))) aNil))))
  (sSeq (sSet 11 (eCall f_product (aCons (eVar 7) (aCons (eVar 8) aNil))))
  (sSeq (sIf (tOf (eP dNe (aCons (eCall f_product (aCons (eVar 11) (aCons (eVar 9) aNil))) (aCons (eCall f_product (aCons (eVar 7) (aCons (eCall f_product (aCons (eVar 8) (aCons (eVar 9) aNil))) aNil))) aNil))))
  (sRet (eC (.bl false)))
  sNil)
  (sSeq (sIf (tOf (eP dNe (aCons (eCall f_product (aCons (eCall f_product (aCons (eVar 11) (aCons (eVar 9) aNil))) (aCons (eVar 10) aNil))) (aCons (eCall f_product (aCons (eVar 11) (aCons (eCall f_product (aCons (eVar 9) (aCons (eVar 10) aNil))) aNil))) aNil))))
  (sRet (eC (.bl false)))
  sNil)
  (sSeq (sIf (tOf (eP dNe (aCons (eCall f_product (aCons (eCall f_plus (aCons (eVar 7) (aCons (eP dIdx (aCons (eVar 6) (aCons (eC (.int 0)) aNil))) aNil))) (aCons (eVar 8) aNil))) (aCons (eCall f_plus (aCons (eVar 11) (aCons (eCall f_product (aCons (eP dIdx (aCons (eVar 6) (aCons (eC (.int 0)) aNil))) (aCons (eVar 8) aNil))) aNil))) aNil))))
  (sRet (eC (.bl false)))
  sNil)
  (sSeq (sIf (tOf (eP dNe (aCons (eCall f_product (aCons (eVar 7) (aCons (eCall f_plus (aCons (eVar 8) (aCons (eP dIdx (aCons (eVar 6) (aCons (eC (.int 1)) aNil))) aNil))) aNil))) (aCons (eCall f_plus (aCons (eVar 11) (aCons (eCall f_product (aCons (eVar 7) (aCons (eP dIdx (aCons (eVar 6) (aCons (eC (.int 1)) aNil))) aNil))) aNil))) aNil))))
  (sRet (eC (.bl false)))
  sNil)
  (sSeq (sIf (wOr (tOf (eP dNe (aCons (eCall f_product (aCons (eCall f_unit (aCons (eChk D.isFlat (eP dIdx (aCons (eVar 4) (aCons (eC (.int 0)) aNil)))) aNil)) (aCons (eVar 7) aNil))) (aCons (eVar 7) aNil)))) (tOf (eP dNe (aCons (eCall f_product (aCons (eVar 7) (aCons (eCall f_unit (aCons (eChk D.isFlat (eP dIdx (aCons (eVar 4) (aCons (eC (.int 1)) aNil)))) aNil)) aNil))) (aCons (eVar 7) aNil)))))
  (sRet (eC (.bl false)))
  sNil)
  (sSeq (sIf (wOr (tOf (eP dNe (aCons (eCall f_product (aCons (eVar 7) (aCons (eCall f_nought (aCons (eChk D.isFlat (eP dIdx (aCons (eVar 4) (aCons (eC (.int 1)) aNil)))) (aCons (eC (.int 3)) aNil))) aNil))) (aCons (eCall f_nought (aCons (eChk D.isFlat (eP dIdx (aCons (eVar 4) (aCons (eC (.int 0)) aNil)))) (aCons (eC (.int 3)) aNil))) aNil)))) (tOf (eP dNe (aCons (eCall f_plus (aCons (eVar 7) (aCons (eCall f_nought (aCons (eChk D.isFlat (eP dIdx (aCons (eVar 7) (aCons (eC (.int 0)) aNil)))) (aCons (eChk D.isFlat (eP dIdx (aCons (eVar 7) (aCons (eC (.int 1)) aNil)))) aNil))) aNil))) (aCons (eVar 7) aNil)))))
  (sRet (eC (.bl false)))
  sNil)
  (sSeq (sIf (tOf (eP dNe (aCons (eCall f_product (aCons (eCall f_many_times (aCons (eVar 3) (aCons (eVar 7) aNil))) (aCons (eVar 8) aNil))) (aCons (eCall f_many_times (aCons (eVar 3) (aCons (eVar 11) aNil))) aNil))))
  (sRet (eC (.bl false)))
  sNil)
  (sSeq (sIf (wOr (tOf (eP dNe (aCons (eCall f_plus (aCons (eVar 7) (aCons (eCall f_many_times (aCons (eP dNeg (aCons (eC (.int 1)) aNil)) (aCons (eVar 7) aNil))) aNil))) (aCons (eCall f_nought (aCons (eChk D.isFlat (eP dIdx (aCons (eVar 7) (aCons (eC (.int 0)) aNil)))) (aCons (eChk D.isFlat (eP dIdx (aCons (eVar 7) (aCons (eC (.int 1)) aNil)))) aNil))) aNil)))) (tOf (eP dNe (aCons (eCall f_turned (aCons (eCall f_turned (aCons (eVar 7) aNil)) aNil)) (aCons (eVar 7) aNil)))))
  (sRet (eC (.bl false)))
  sNil)
  (sSeq (sIf (tOf (eP dNe (aCons (eCall f_many_times (aCons (eP dAdd (aCons (eVar 3) (aCons (eC (.int 1)) aNil))) (aCons (eVar 7) aNil))) (aCons (eCall f_plus (aCons (eCall f_many_times (aCons (eVar 3) (aCons (eVar 7) aNil))) (aCons (eVar 7) aNil))) aNil))))
  (sRet (eC (.bl false)))
  sNil)
  (sRet (vAnd (eP dEq (aCons (eCall f_turned (aCons (eVar 11) aNil)) (aCons (eCall f_product (aCons (eCall f_turned (aCons (eVar 8) aNil)) (aCons (eCall f_turned (aCons (eVar 7) aNil)) aNil))) aNil))) (eP dEq (aCons (eCall f_plus (aCons (eVar 7) (aCons (eP dIdx (aCons (eVar 6) (aCons (eC (.int 0)) aNil))) aNil))) (aCons (eCall f_plus (aCons (eP dIdx (aCons (eVar 6) (aCons (eC (.int 0)) aNil))) (aCons (eVar 7) aNil))) aNil))))))))))))))))))))))
def f_law : List D → Option Res := fnSem 13 [.flat] m_law
end K03

/-! ## K03w -/
namespace K03
open PySem PySem.Spec PyProof.Rows L2 VV VP

def top (i : Nat) : Stmt := PySem.Challenge.pw_loopcube_k03_rules_of_products.main.body.getD i (.Pass ⟨0, 0, 0, 0⟩)
abbrev FnP (K : PySem.W.Frag) (x : Str) (st : Stmt) (f : Addr) (fd : FuncData) : Prop := FunD K x x (defArgs st) (defBody st) (defScope st) [] [] f fd
abbrev s_nought : Stmt := top 4
abbrev N_nought : List Str := ["high", "wide", "row"]
abbrev s_unit : Stmt := top 5
abbrev N_unit : List Str := ["many", "row", "place"]
abbrev s_turned : Stmt := top 6
abbrev N_turned : List Str := ["one", "high", "wide", "rows", "place", "row"]
abbrev s_plus : Stmt := top 7
abbrev N_plus : List Str := ["one", "other", "left", "right", "a", "b"]
abbrev s_many_times : Stmt := top 8
abbrev N_many_times : List Str := ["number", "one", "row", "entry"]
abbrev s_product : Stmt := top 9
abbrev N_product : List Str := ["one", "other", "rows", "row", "found", "number", "line", "a", "b"]
abbrev s__law_cell_at : Stmt := top 11
abbrev N__law_cell_at : List Str := ["_law_script", "_law_k"]
abbrev s__law_row : Stmt := top 12
abbrev N__law_row : List Str := ["_law_cell", "_law_many", "_law_base", "_law_rest", "_law_found", "_law_high", "_law_k", "_law_one", "_law_other"]
abbrev s__law_entry : Stmt := top 13
abbrev N__law_entry : List Str := ["_law_digit"]
abbrev s__law_table : Stmt := top 14
abbrev N__law_table : List Str := ["_law_cell", "_law_high", "_law_wide", "_law_row_here", "_law_i", "_law_j"]
abbrev s_law : Stmt := top 15
abbrev N_law : List Str := ["_law_script", "_law_head", "_law_most", "_law_number", "_law_sizes", "_law_tables", "_law_others", "_law_one", "_law_other", "_law_third", "_law_fourth", "_law_both", "_law_k"]
section
variable {P : Program} {w : World} {K : PySem.W.Frag} {mg : Str → Option Value} {base : Heap}
theorem sc_nought : FnScope N_nought ["high", "wide"] (defScope s_nought) := ⟨rfl, rfl, rfl, by decide +kernel, rfl, by decide +kernel, by decide +kernel⟩
theorem ok_nought {f : Addr} {fd : FuncData} (F : FnP K "nought" s_nought f fd) (b_range : mg "range" = none) : FnOk P w K mg base CX0 1 f fd ["high", "wide"] (sp0 ⟨mg, K⟩ f_nought 2 .fresh) := by
  have sc := sc_nought
  let N : List Str := N_nought
  let st : Stmt := s_nought
  refine fn_ok0 (Γ' := []) (sc := ⟨[], .fresh, [], []⟩) (k := 0) F sc [.flat, .flat] rfl (by decide) rfl fun cdv A outer s0 H E hr => ?_
  exact (ss_one (sx_ret (ex_tup (ea_cons (ex_var (k := .flat) 0 rfl (by decide) rfl (by first | exact Or.inl rfl | exact Or.inr (Or.inl rfl) | exact Or.inr (Or.inr rfl))) (ea_cons (ex_var (k := .flat) 1 rfl (by decide) rfl (by first | exact Or.inl rfl | exact Or.inr (Or.inl rfl) | exact Or.inr (Or.inr rfl))) (ea_cons (ex_lc (own := [("row", 2)]) 2 rfl sc.nd (ei_range1 rfl b_range (ea_cons (ex_var (k := .flat) 0 rfl (by decide) rfl (by first | exact Or.inl rfl | exact Or.inr (Or.inl rfl) | exact Or.inr (Or.inr rfl))) (ea_nil))) (blkOk_by (by kernel_rfl)) (fun _ _ _ _ _ => eg_name sc.nd (i := 2) rfl (by first | exact Or.inl rfl | exact Or.inr rfl)) (fun _ _ _ _ _ => ets_nil) (fun _ _ _ _ _ => ex_rep (ex_lst (ea_cons (ex_int) (ea_nil))) (ex_var (k := .flat) 1 rfl (by decide) rfl (by first | exact Or.inl rfl | exact Or.inr (Or.inl rfl) | exact Or.inr (Or.inr rfl))))) (ea_nil)))))))
theorem cal_nought {f : Addr} {fd : FuncData} (F : FnP K "nought" s_nought f fd) (h : mg "nought" = some (.ref f)) (b_range : mg "range" = none) : Cal P w K mg base "nought" 1 ["high", "wide"] f_nought .fresh :=
  ⟨f, fd, ok_nought F b_range, h, F.kp, FunD.bindsN F fun _ _ _ _ _ _ us hl => match us, hl with | [_, _], _ => rfl⟩
theorem sc_unit : FnScope N_unit ["many"] (defScope s_unit) := ⟨rfl, rfl, rfl, by decide +kernel, rfl, by decide +kernel, by decide +kernel⟩
theorem ok_unit {f : Addr} {fd : FuncData} (F : FnP K "unit" s_unit f fd) (b_int : mg "int" = none) (b_range : mg "range" = none) : FnOk P w K mg base CX0 1 f fd ["many"] (sp0 ⟨mg, K⟩ f_unit 1 .fresh) := by
  have sc := sc_unit
  let N : List Str := N_unit
  let st : Stmt := s_unit
  refine fn_ok0 (Γ' := []) (sc := ⟨[], .fresh, [], []⟩) (k := 0) F sc [.flat] rfl (by decide) rfl fun cdv A outer s0 H E hr => ?_
  exact (ss_one (sx_ret (ex_tup (ea_cons (ex_var (k := .flat) 0 rfl (by decide) rfl (by first | exact Or.inl rfl | exact Or.inr (Or.inl rfl) | exact Or.inr (Or.inr rfl))) (ea_cons (ex_var (k := .flat) 0 rfl (by decide) rfl (by first | exact Or.inl rfl | exact Or.inr (Or.inl rfl) | exact Or.inr (Or.inr rfl))) (ea_cons (ex_lc (own := [("row", 1)]) 2 rfl sc.nd (ei_range1 rfl b_range (ea_cons (ex_var (k := .flat) 0 rfl (by decide) rfl (by first | exact Or.inl rfl | exact Or.inr (Or.inl rfl) | exact Or.inr (Or.inr rfl))) (ea_nil))) (blkOk_by (by kernel_rfl)) (fun _ _ _ _ _ => eg_name sc.nd (i := 1) rfl (by first | exact Or.inl rfl | exact Or.inr rfl)) (fun _ _ _ _ _ => ets_nil) (fun _ _ _ _ _ => ex_lc (own := [("place", 2)]) 3 rfl sc.nd (ei_range1 rfl b_range (ea_cons (ex_var (k := .flat) 0 rfl (by decide) rfl (by first | exact Or.inl rfl | exact Or.inr (Or.inl rfl) | exact Or.inr (Or.inr rfl))) (ea_nil))) (blkOk_by (by kernel_rfl)) (fun _ _ _ _ _ => eg_name sc.nd (i := 2) rfl (by first | exact Or.inl rfl | exact Or.inr rfl)) (fun _ _ _ _ _ => ets_nil) (fun _ _ _ _ _ => ex_callTy call_int1 cp_int1 rfl b_int (by decide +kernel) (ea_cons (ex_eq hr.units (ex_var (k := .flat) 1 rfl (by decide) rfl (by first | exact Or.inl rfl | exact Or.inr (Or.inl rfl) | exact Or.inr (Or.inr rfl))) (ex_var (k := .flat) 2 rfl (by decide) rfl (by first | exact Or.inl rfl | exact Or.inr (Or.inl rfl) | exact Or.inr (Or.inr rfl)))) (ea_nil))))) (ea_nil)))))))
theorem cal_unit {f : Addr} {fd : FuncData} (F : FnP K "unit" s_unit f fd) (h : mg "unit" = some (.ref f)) (b_int : mg "int" = none) (b_range : mg "range" = none) : Cal P w K mg base "unit" 1 ["many"] f_unit .fresh :=
  ⟨f, fd, ok_unit F b_int b_range, h, F.kp, FunD.bindsN F fun _ _ _ _ _ _ us hl => match us, hl with | [_], _ => rfl⟩
theorem sc_turned : FnScope N_turned ["one"] (defScope s_turned) := ⟨rfl, rfl, rfl, by decide +kernel, rfl, by decide +kernel, by decide +kernel⟩
theorem ok_turned {f : Addr} {fd : FuncData} (F : FnP K "turned" s_turned f fd) (b_range : mg "range" = none) : FnOk P w K mg base CX0 1 f fd ["one"] (sp0 ⟨mg, K⟩ f_turned 1 .fresh) := by
  have sc := sc_turned
  let N : List Str := N_turned
  let st : Stmt := s_turned
  refine fn_ok0 (Γ' := []) (sc := ⟨[], .fresh, [], []⟩) (k := 0) F sc [.lab none [0] false] rfl (by decide) rfl fun cdv A outer s0 H E hr => ?_
  exact (ss_cons (sx_asg 2 3 (ex_var (k := .lab none [0] false) 0 rfl (by decide) rfl (by first | exact Or.inl rfl | exact Or.inr (Or.inl rfl) | exact Or.inr (Or.inr rfl))) (eg_tup rfl (egs_cons (eg_flat (eg_name sc.nd (i := 1) rfl (by first | exact Or.inl rfl | exact Or.inr rfl))) (egs_cons (eg_flat (eg_name sc.nd (i := 2) rfl (by first | exact Or.inl rfl | exact Or.inr rfl))) (egs_cons (eg_name sc.nd (i := 3) rfl (by first | exact Or.inl rfl | exact Or.inr rfl)) (egs_nil))))))
        (ss_one (sx_ret (ex_tup (ea_cons (ex_var (k := .flat) 2 rfl (by decide) rfl (by first | exact Or.inl rfl | exact Or.inr (Or.inl rfl) | exact Or.inr (Or.inr rfl))) (ea_cons (ex_var (k := .flat) 1 rfl (by decide) rfl (by first | exact Or.inl rfl | exact Or.inr (Or.inl rfl) | exact Or.inr (Or.inr rfl))) (ea_cons (ex_lc (own := [("place", 4)]) 4 rfl sc.nd (ei_range1 rfl b_range (ea_cons (ex_var (k := .flat) 2 rfl (by decide) rfl (by first | exact Or.inl rfl | exact Or.inr (Or.inl rfl) | exact Or.inr (Or.inr rfl))) (ea_nil))) (blkOk_by (by kernel_rfl)) (fun _ _ _ _ _ => eg_name sc.nd (i := 4) rfl (by first | exact Or.inl rfl | exact Or.inr rfl)) (fun _ _ _ _ _ => ets_nil) (fun _ _ _ _ _ => ex_lc (own := [("row", 5)]) 5 rfl sc.nd (ei_range1 rfl b_range (ea_cons (ex_var (k := .flat) 1 rfl (by decide) rfl (by first | exact Or.inl rfl | exact Or.inr (Or.inl rfl) | exact Or.inr (Or.inr rfl))) (ea_nil))) (blkOk_by (by kernel_rfl)) (fun _ _ _ _ _ => eg_name sc.nd (i := 5) rfl (by first | exact Or.inl rfl | exact Or.inr rfl)) (fun _ _ _ _ _ => ets_nil) (fun _ _ _ _ _ => ex_flat (ex_idx (ex_idx (ex_var (k := .lab none [0] false) 3 rfl (by decide) rfl (by first | exact Or.inl rfl | exact Or.inr (Or.inl rfl) | exact Or.inr (Or.inr rfl))) (ex_var (k := .flat) 5 rfl (by decide) rfl (by first | exact Or.inl rfl | exact Or.inr (Or.inl rfl) | exact Or.inr (Or.inr rfl)))) (ex_var (k := .flat) 4 rfl (by decide) rfl (by first | exact Or.inl rfl | exact Or.inr (Or.inl rfl) | exact Or.inr (Or.inr rfl))))))) (ea_nil))))))))
theorem cal_turned {f : Addr} {fd : FuncData} (F : FnP K "turned" s_turned f fd) (h : mg "turned" = some (.ref f)) (b_range : mg "range" = none) : Cal P w K mg base "turned" 1 ["one"] f_turned .fresh :=
  ⟨f, fd, ok_turned F b_range, h, F.kp, FunD.bindsN F fun _ _ _ _ _ _ us hl => match us, hl with | [_], _ => rfl⟩
theorem sc_plus : FnScope N_plus ["one", "other"] (defScope s_plus) := ⟨rfl, rfl, rfl, by decide +kernel, rfl, by decide +kernel, by decide +kernel⟩
theorem ok_plus {f : Addr} {fd : FuncData} (F : FnP K "plus" s_plus f fd) (b_zip : mg "zip" = none) : FnOk P w K mg base CX0 1 f fd ["one", "other"] (sp0 ⟨mg, K⟩ f_plus 2 .fresh) := by
  have sc := sc_plus
  let N : List Str := N_plus
  let st : Stmt := s_plus
  refine fn_ok0 (Γ' := []) (sc := ⟨[], .fresh, [], []⟩) (k := 0) F sc [.lab none [0] false, .lab none [0] false] rfl (by decide) rfl fun cdv A outer s0 H E hr => ?_
  exact (ss_cons (sx_if (et_ne hr.units (ex_flat (ex_slT (ex_var (k := .lab none [0] false) 0 rfl (by decide) rfl (by first | exact Or.inl rfl | exact Or.inr (Or.inl rfl) | exact Or.inr (Or.inr rfl))) (eo_none) (eo_some (ex_int)))) (ex_flat (ex_slT (ex_var (k := .lab none [0] false) 1 rfl (by decide) rfl (by first | exact Or.inl rfl | exact Or.inr (Or.inl rfl) | exact Or.inr (Or.inr rfl))) (eo_none) (eo_some (ex_int)))))
        (ss_one (sx_never))
        (ss_nil))
        (ss_one (sx_ret (ex_tup (ea_cons (ex_flat (ex_idx (ex_var (k := .lab none [0] false) 0 rfl (by decide) rfl (by first | exact Or.inl rfl | exact Or.inr (Or.inl rfl) | exact Or.inr (Or.inr rfl))) (ex_int))) (ea_cons (ex_flat (ex_idx (ex_var (k := .lab none [0] false) 0 rfl (by decide) rfl (by first | exact Or.inl rfl | exact Or.inr (Or.inl rfl) | exact Or.inr (Or.inr rfl))) (ex_int))) (ea_cons (ex_lc (own := [("left", 2), ("right", 3)]) 2 rfl sc.nd (ei_zip rfl b_zip (ex_idx (ex_var (k := .lab none [0] false) 0 rfl (by decide) rfl (by first | exact Or.inl rfl | exact Or.inr (Or.inl rfl) | exact Or.inr (Or.inr rfl))) (ex_int)) (ex_idx (ex_var (k := .lab none [0] false) 1 rfl (by decide) rfl (by first | exact Or.inl rfl | exact Or.inr (Or.inl rfl) | exact Or.inr (Or.inr rfl))) (ex_int))) (blkOk_by (by kernel_rfl)) (fun _ _ _ _ _ => eg_tup rfl (egs_cons (eg_name sc.nd (i := 2) rfl (by first | exact Or.inl rfl | exact Or.inr rfl)) (egs_cons (eg_name sc.nd (i := 3) rfl (by first | exact Or.inl rfl | exact Or.inr rfl)) (egs_nil)))) (fun _ _ _ _ _ => ets_nil) (fun _ _ _ _ _ => ex_lc (own := [("a", 4), ("b", 5)]) 3 rfl sc.nd (ei_zip rfl b_zip (ex_var (k := .lab none [0, 0] false) 2 rfl (by decide) rfl (by first | exact Or.inl rfl | exact Or.inr (Or.inl rfl) | exact Or.inr (Or.inr rfl))) (ex_var (k := .lab none [0, 0] false) 3 rfl (by decide) rfl (by first | exact Or.inl rfl | exact Or.inr (Or.inl rfl) | exact Or.inr (Or.inr rfl)))) (blkOk_by (by kernel_rfl)) (fun _ _ _ _ _ => eg_tup rfl (egs_cons (eg_flat (eg_name sc.nd (i := 4) rfl (by first | exact Or.inl rfl | exact Or.inr rfl))) (egs_cons (eg_flat (eg_name sc.nd (i := 5) rfl (by first | exact Or.inl rfl | exact Or.inr rfl))) (egs_nil)))) (fun _ _ _ _ _ => ets_nil) (fun _ _ _ _ _ => ex_add (ex_var (k := .flat) 4 rfl (by decide) rfl (by first | exact Or.inl rfl | exact Or.inr (Or.inl rfl) | exact Or.inr (Or.inr rfl))) (ex_var (k := .flat) 5 rfl (by decide) rfl (by first | exact Or.inl rfl | exact Or.inr (Or.inl rfl) | exact Or.inr (Or.inr rfl)))))) (ea_nil))))))))
theorem cal_plus {f : Addr} {fd : FuncData} (F : FnP K "plus" s_plus f fd) (h : mg "plus" = some (.ref f)) (b_zip : mg "zip" = none) : Cal P w K mg base "plus" 1 ["one", "other"] f_plus .fresh :=
  ⟨f, fd, ok_plus F b_zip, h, F.kp, FunD.bindsN F fun _ _ _ _ _ _ us hl => match us, hl with | [_, _], _ => rfl⟩
theorem sc_many_times : FnScope N_many_times ["number", "one"] (defScope s_many_times) := ⟨rfl, rfl, rfl, by decide +kernel, rfl, by decide +kernel, by decide +kernel⟩
theorem ok_many_times {f : Addr} {fd : FuncData} (F : FnP K "many_times" s_many_times f fd) : FnOk P w K mg base CX0 1 f fd ["number", "one"] (sp0 ⟨mg, K⟩ f_many_times 2 .fresh) := by
  have sc := sc_many_times
  let N : List Str := N_many_times
  let st : Stmt := s_many_times
  refine fn_ok0 (Γ' := []) (sc := ⟨[], .fresh, [], []⟩) (k := 0) F sc [.flat, .lab none [0] false] rfl (by decide) rfl fun cdv A outer s0 H E hr => ?_
  exact (ss_one (sx_ret (ex_tup (ea_cons (ex_flat (ex_idx (ex_var (k := .lab none [0] false) 1 rfl (by decide) rfl (by first | exact Or.inl rfl | exact Or.inr (Or.inl rfl) | exact Or.inr (Or.inr rfl))) (ex_int))) (ea_cons (ex_flat (ex_idx (ex_var (k := .lab none [0] false) 1 rfl (by decide) rfl (by first | exact Or.inl rfl | exact Or.inr (Or.inl rfl) | exact Or.inr (Or.inr rfl))) (ex_int))) (ea_cons (ex_lc (own := [("row", 2)]) 2 rfl sc.nd (ei_list (ex_idx (ex_var (k := .lab none [0] false) 1 rfl (by decide) rfl (by first | exact Or.inl rfl | exact Or.inr (Or.inl rfl) | exact Or.inr (Or.inr rfl))) (ex_int))) (blkOk_by (by kernel_rfl)) (fun _ _ _ _ _ => eg_name sc.nd (i := 2) rfl (by first | exact Or.inl rfl | exact Or.inr rfl)) (fun _ _ _ _ _ => ets_nil) (fun _ _ _ _ _ => ex_lc (own := [("entry", 3)]) 3 rfl sc.nd (ei_list (ex_var (k := .lab none [0] false) 2 rfl (by decide) rfl (by first | exact Or.inl rfl | exact Or.inr (Or.inl rfl) | exact Or.inr (Or.inr rfl)))) (blkOk_by (by kernel_rfl)) (fun _ _ _ _ _ => eg_flat (eg_name sc.nd (i := 3) rfl (by first | exact Or.inl rfl | exact Or.inr rfl))) (fun _ _ _ _ _ => ets_nil) (fun _ _ _ _ _ => ex_mul (ex_var (k := .flat) 0 rfl (by decide) rfl (by first | exact Or.inl rfl | exact Or.inr (Or.inl rfl) | exact Or.inr (Or.inr rfl))) (ex_var (k := .flat) 3 rfl (by decide) rfl (by first | exact Or.inl rfl | exact Or.inr (Or.inl rfl) | exact Or.inr (Or.inr rfl)))))) (ea_nil)))))))
theorem cal_many_times {f : Addr} {fd : FuncData} (F : FnP K "many_times" s_many_times f fd) (h : mg "many_times" = some (.ref f)) : Cal P w K mg base "many_times" 1 ["number", "one"] f_many_times .fresh :=
  ⟨f, fd, ok_many_times F, h, F.kp, FunD.bindsN F fun _ _ _ _ _ _ us hl => match us, hl with | [_, _], _ => rfl⟩
theorem sc_product : FnScope N_product ["one", "other"] (defScope s_product) := ⟨rfl, rfl, rfl, by decide +kernel, rfl, by decide +kernel, by decide +kernel⟩
theorem ok_product {f : Addr} {fd : FuncData} (F : FnP K "product" s_product f fd) (b_zip : mg "zip" = none) : FnOk P w K mg base CX0 1 f fd ["one", "other"] (sp0 ⟨mg, K⟩ f_product 2 .fresh) := by
  have sc := sc_product
  let N : List Str := N_product
  let st : Stmt := s_product
  refine fn_ok0 (Γ' := []) (sc := ⟨[], .fresh, [], []⟩) (k := 0) F sc [.lab none [0] false, .lab none [0] false] rfl (by decide) rfl fun cdv A outer s0 H E hr => ?_
  exact (ss_cons (sx_if (et_ne hr.units (ex_flat (ex_idx (ex_var (k := .lab none [0] false) 0 rfl (by decide) rfl (by first | exact Or.inl rfl | exact Or.inr (Or.inl rfl) | exact Or.inr (Or.inr rfl))) (ex_int))) (ex_flat (ex_idx (ex_var (k := .lab none [0] false) 1 rfl (by decide) rfl (by first | exact Or.inl rfl | exact Or.inr (Or.inl rfl) | exact Or.inr (Or.inr rfl))) (ex_int))))
        (ss_one (sx_never))
        (ss_nil))
        (ss_cons (sx_set (i := 2) 2 3 sc.nd rfl (by first | exact Or.inl rfl | exact Or.inr rfl) (ex_lst (ea_nil)))
        (ss_cons (sx_pre (Γ1 := [.lab none [0] false, .lab none [0] false, .lab (some 2) [902] true, .dead, .dead, .dead, .dead, .dead, .dead]) [] (sx_for 4 rfl PassesOwn.never (ei_list (ex_idx (ex_var (k := .lab none [0] false) 0 rfl (by decide) rfl (by first | exact Or.inl rfl | exact Or.inr (Or.inl rfl) | exact Or.inr (Or.inr rfl))) (ex_int))) (eg_name sc.nd (i := 3) rfl (by first | exact Or.inl rfl | exact Or.inr rfl))
        (ss_conv (Γ' := [.lab none [0] false, .lab none [0] false, .lab (some 2) [902] true, .dead, .dead, .dead, .dead, .dead, .dead]) [(5, 902), (8, 902)] (ss_cons (sx_set (i := 4) 5 6 sc.nd rfl (by first | exact Or.inl rfl | exact Or.inr rfl) (ex_rep (ex_lst (ea_cons (ex_int) (ea_nil))) (ex_flat (ex_idx (ex_var (k := .lab none [0] false) 1 rfl (by decide) rfl (by first | exact Or.inl rfl | exact Or.inr (Or.inl rfl) | exact Or.inr (Or.inr rfl))) (ex_int)))))
        (ss_cons (sx_pre (Γ1 := [.lab none [0] false, .lab none [0] false, .lab (some 2) [902] true, .lab none [0] false, .lab none [5, 8] true, .dead, .dead, .dead, .dead]) [] (sx_for 7 rfl PassesOwn.never (ei_zip rfl b_zip (ex_var (k := .lab none [0] false) 3 rfl (by decide) rfl (by first | exact Or.inl rfl | exact Or.inr (Or.inl rfl) | exact Or.inr (Or.inr rfl))) (ex_idx (ex_var (k := .lab none [0] false) 1 rfl (by decide) rfl (by first | exact Or.inl rfl | exact Or.inr (Or.inl rfl) | exact Or.inr (Or.inr rfl))) (ex_int))) (eg_tup rfl (egs_cons (eg_flat (eg_name sc.nd (i := 5) rfl (by first | exact Or.inl rfl | exact Or.inr rfl))) (egs_cons (eg_name sc.nd (i := 6) rfl (by first | exact Or.inl rfl | exact Or.inr rfl)) (egs_nil))))
        (ss_conv (Γ' := [.lab none [0] false, .lab none [0] false, .lab (some 2) [902] true, .lab none [0] false, .lab none [5, 8] true, .dead, .dead, .dead, .dead]) [] (ss_one (sx_if (et_ne hr.units (ex_var (k := .flat) 5 rfl (by decide) rfl (by first | exact Or.inl rfl | exact Or.inr (Or.inl rfl) | exact Or.inr (Or.inr rfl))) (ex_int))
        (ss_conv (Γ' := [.lab none [0] false, .lab none [0] false, .lab (some 2) [902] true, .lab none [0] false, .lab none [8, 5] true, .flat, .lab none [0, 0] false, .dead, .dead]) [] (ss_one (sx_setLc (i := 4) (own := [("a", 7), ("b", 8)]) 10 8 9 rfl sc.nd rfl rfl (sw_true rfl rfl rfl (by decide +kernel)) (ei_zip rfl b_zip (ex_var (k := .lab none [5, 8] true) 4 rfl (by decide) rfl (by first | exact Or.inl rfl | exact Or.inr (Or.inl rfl) | exact Or.inr (Or.inr rfl))) (ex_var (k := .lab none [0, 0] false) 6 rfl (by decide) rfl (by first | exact Or.inl rfl | exact Or.inr (Or.inl rfl) | exact Or.inr (Or.inr rfl)))) (blkOk_by (by kernel_rfl)) (fun _ _ _ _ _ => eg_tup rfl (egs_cons (eg_flat (eg_name sc.nd (i := 7) rfl (by first | exact Or.inl rfl | exact Or.inr rfl))) (egs_cons (eg_flat (eg_name sc.nd (i := 8) rfl (by first | exact Or.inl rfl | exact Or.inr rfl))) (egs_nil)))) (fun _ _ _ _ _ => ets_nil) (fun _ _ _ _ _ => ex_add (ex_var (k := .flat) 7 rfl (by decide) rfl (by first | exact Or.inl rfl | exact Or.inr (Or.inl rfl) | exact Or.inr (Or.inr rfl))) (ex_mul (ex_var (k := .flat) 5 rfl (by decide) rfl (by first | exact Or.inl rfl | exact Or.inr (Or.inl rfl) | exact Or.inr (Or.inr rfl))) (ex_var (k := .flat) 8 rfl (by decide) rfl (by first | exact Or.inl rfl | exact Or.inr (Or.inl rfl) | exact Or.inr (Or.inr rfl))))))) (by decide) (by decide))
        (ss_conv (Γ' := [.lab none [0] false, .lab none [0] false, .lab (some 2) [902] true, .lab none [0] false, .lab none [8, 5] true, .flat, .lab none [0, 0] false, .dead, .dead]) [] (ss_nil) (by decide) (by decide)))) (by decide) (by decide))) (by decide) (by decide))
        (ss_one (sx_append (i := 2) (n := 2) (L := [902]) (nd := true) 11 rfl rfl (by first | exact Or.inl rfl | exact Or.inr (Or.inl rfl) | exact Or.inr (Or.inr rfl)) (ex_var (k := .lab none [5, 8] true) 4 rfl (by decide) rfl (by first | exact Or.inl rfl | exact Or.inr (Or.inl rfl) | exact Or.inr (Or.inr rfl))))))) (by decide) (by decide))) (by decide) (by decide))
        (ss_one (sx_ret (ex_tup (ea_cons (ex_flat (ex_idx (ex_var (k := .lab none [0] false) 0 rfl (by decide) rfl (by first | exact Or.inl rfl | exact Or.inr (Or.inl rfl) | exact Or.inr (Or.inr rfl))) (ex_int))) (ea_cons (ex_flat (ex_idx (ex_var (k := .lab none [0] false) 1 rfl (by decide) rfl (by first | exact Or.inl rfl | exact Or.inr (Or.inl rfl) | exact Or.inr (Or.inr rfl))) (ex_int))) (ea_cons (ex_var (k := .lab (some 2) [902] true) 2 rfl (by decide) rfl (by first | exact Or.inl rfl | exact Or.inr (Or.inl rfl) | exact Or.inr (Or.inr rfl))) (ea_nil))))))))))
theorem cal_product {f : Addr} {fd : FuncData} (F : FnP K "product" s_product f fd) (h : mg "product" = some (.ref f)) (b_zip : mg "zip" = none) : Cal P w K mg base "product" 1 ["one", "other"] f_product .fresh :=
  ⟨f, fd, ok_product F b_zip, h, F.kp, FunD.bindsN F fun _ _ _ _ _ _ us hl => match us, hl with | [_, _], _ => rfl⟩
theorem sc__law_cell_at : FnScope N__law_cell_at ["_law_script", "_law_k"] (defScope s__law_cell_at) := ⟨rfl, rfl, rfl, by decide +kernel, rfl, by decide +kernel, by decide +kernel⟩
theorem ok__law_cell_at {f : Addr} {fd : FuncData} (F : FnP K "_law_cell_at" s__law_cell_at f fd) (b_len : mg "len" = none) : FnOk P w K mg base CX0 1 f fd ["_law_script", "_law_k"] (sp0 ⟨mg, K⟩ f__law_cell_at 2 .flat) := by
  have sc := sc__law_cell_at
  let N : List Str := N__law_cell_at
  let st : Stmt := s__law_cell_at
  refine fn_ok0 (Γ' := []) (sc := ⟨[], .flat, [], []⟩) (k := 0) F sc [.flat, .flat] rfl (by decide) rfl fun cdv A outer s0 H E hr => ?_
  exact (ss_cons (sx_if (et_lt (ex_var (k := .flat) 1 rfl (by decide) rfl (by first | exact Or.inl rfl | exact Or.inr (Or.inl rfl) | exact Or.inr (Or.inr rfl))) (ex_callB call_len cp_len rfl b_len boot_len (ea_cons (ex_var (k := .flat) 0 rfl (by decide) rfl (by first | exact Or.inl rfl | exact Or.inr (Or.inl rfl) | exact Or.inr (Or.inr rfl))) (ea_nil))))
        (ss_one (sx_ret (ex_idx (ex_var (k := .flat) 0 rfl (by decide) rfl (by first | exact Or.inl rfl | exact Or.inr (Or.inl rfl) | exact Or.inr (Or.inr rfl))) (ex_var (k := .flat) 1 rfl (by decide) rfl (by first | exact Or.inl rfl | exact Or.inr (Or.inl rfl) | exact Or.inr (Or.inr rfl))))))
        (ss_nil))
        (ss_one (sx_ret (ex_int))))
theorem cal__law_cell_at {f : Addr} {fd : FuncData} (F : FnP K "_law_cell_at" s__law_cell_at f fd) (h : mg "_law_cell_at" = some (.ref f)) (b_len : mg "len" = none) : Cal P w K mg base "_law_cell_at" 1 ["_law_script", "_law_k"] f__law_cell_at .flat :=
  ⟨f, fd, ok__law_cell_at F b_len, h, F.kp, FunD.bindsN F fun _ _ _ _ _ _ us hl => match us, hl with | [_, _], _ => rfl⟩
theorem sc__law_row : FnScope N__law_row ["_law_cell", "_law_many", "_law_base"] (defScope s__law_row) := ⟨rfl, rfl, rfl, by decide +kernel, rfl, by decide +kernel, by decide +kernel⟩
theorem ok__law_row {f : Addr} {fd : FuncData} (F : FnP K "_law_row" s__law_row f fd) (b_range : mg "range" = none) : FnOk P w K mg base CX0 1 f fd ["_law_cell", "_law_many", "_law_base"] (sp0 ⟨mg, K⟩ f__law_row 3 .fresh) := by
  have sc := sc__law_row
  let N : List Str := N__law_row
  let st : Stmt := s__law_row
  refine fn_ok0 (Γ' := []) (sc := ⟨[], .fresh, [], []⟩) (k := 0) F sc [.flat, .flat, .flat] rfl (by decide) rfl fun cdv A outer s0 H E hr => ?_
  exact (ss_cons (sx_set (i := 3) 2 3 sc.nd rfl (by first | exact Or.inl rfl | exact Or.inr rfl) (ex_div (ex_var (k := .flat) 0 rfl (by decide) rfl (by first | exact Or.inl rfl | exact Or.inr (Or.inl rfl) | exact Or.inr (Or.inr rfl))) (ex_int)))
        (ss_cons (sx_set (i := 4) 4 5 sc.nd rfl (by first | exact Or.inl rfl | exact Or.inr rfl) (ex_lst (ea_nil)))
        (ss_cons (sx_set (i := 5) 6 7 sc.nd rfl (by first | exact Or.inl rfl | exact Or.inr rfl) (ex_var (k := .flat) 3 rfl (by decide) rfl (by first | exact Or.inl rfl | exact Or.inr (Or.inl rfl) | exact Or.inr (Or.inr rfl))))
        (ss_cons (sx_for 8 rfl PassesOwn.never (ei_range1 rfl b_range (ea_cons (ex_var (k := .flat) 1 rfl (by decide) rfl (by first | exact Or.inl rfl | exact Or.inr (Or.inl rfl) | exact Or.inr (Or.inr rfl))) (ea_nil))) (eg_name sc.nd (i := 6) rfl (by first | exact Or.inl rfl | exact Or.inr rfl))
        (ss_conv (Γ' := [.flat, .flat, .flat, .flat, .lab (some 4) [] true, .flat, .dead, .dead, .dead]) [] (ss_one (sx_set (i := 5) 9 10 sc.nd rfl (by first | exact Or.inl rfl | exact Or.inr rfl) (ex_div (ex_var (k := .flat) 5 rfl (by decide) rfl (by first | exact Or.inl rfl | exact Or.inr (Or.inl rfl) | exact Or.inr (Or.inr rfl))) (ex_var (k := .flat) 2 rfl (by decide) rfl (by first | exact Or.inl rfl | exact Or.inr (Or.inl rfl) | exact Or.inr (Or.inr rfl)))))) (by decide) (by decide)))
        (ss_cons (sx_for 11 rfl PassesOwn.never (ei_range1 rfl b_range (ea_cons (ex_var (k := .flat) 1 rfl (by decide) rfl (by first | exact Or.inl rfl | exact Or.inr (Or.inl rfl) | exact Or.inr (Or.inr rfl))) (ea_nil))) (eg_name sc.nd (i := 6) rfl (by first | exact Or.inl rfl | exact Or.inr rfl))
        (ss_conv (Γ' := [.flat, .flat, .flat, .flat, .lab (some 4) [] true, .flat, .dead, .dead, .dead]) [] (ss_one (sx_if (et_gt (ex_var (k := .flat) 5 rfl (by decide) rfl (by first | exact Or.inl rfl | exact Or.inr (Or.inl rfl) | exact Or.inr (Or.inr rfl))) (ex_int))
        (ss_cons (sx_append (i := 4) (n := 4) (L := []) (nd := true) 12 rfl rfl (by first | exact Or.inl rfl | exact Or.inr (Or.inl rfl) | exact Or.inr (Or.inr rfl)) (ex_mod (ex_var (k := .flat) 3 rfl (by decide) rfl (by first | exact Or.inl rfl | exact Or.inr (Or.inl rfl) | exact Or.inr (Or.inr rfl))) (ex_var (k := .flat) 2 rfl (by decide) rfl (by first | exact Or.inl rfl | exact Or.inr (Or.inl rfl) | exact Or.inr (Or.inr rfl)))))
        (ss_one (sx_set (i := 3) 13 14 sc.nd rfl (by first | exact Or.inl rfl | exact Or.inr rfl) (ex_div (ex_var (k := .flat) 3 rfl (by decide) rfl (by first | exact Or.inl rfl | exact Or.inr (Or.inl rfl) | exact Or.inr (Or.inr rfl))) (ex_var (k := .flat) 2 rfl (by decide) rfl (by first | exact Or.inl rfl | exact Or.inr (Or.inl rfl) | exact Or.inr (Or.inr rfl)))))))
        (ss_conv (Γ' := [.flat, .flat, .flat, .flat, .lab (some 4) [] true, .flat, .flat, .dead, .dead]) [] (ss_cons (sx_set (i := 7) 15 16 sc.nd rfl (by first | exact Or.inl rfl | exact Or.inr rfl) (ex_mod (ex_mul (ex_add (ex_add (ex_add (ex_mod (ex_var (k := .flat) 3 rfl (by decide) rfl (by first | exact Or.inl rfl | exact Or.inr (Or.inl rfl) | exact Or.inr (Or.inr rfl))) (ex_int)) (ex_mul (ex_int) (ex_var (k := .flat) 6 rfl (by decide) rfl (by first | exact Or.inl rfl | exact Or.inr (Or.inl rfl) | exact Or.inr (Or.inr rfl))))) (ex_mul (ex_var (k := .flat) 6 rfl (by decide) rfl (by first | exact Or.inl rfl | exact Or.inr (Or.inl rfl) | exact Or.inr (Or.inr rfl))) (ex_var (k := .flat) 6 rfl (by decide) rfl (by first | exact Or.inl rfl | exact Or.inr (Or.inl rfl) | exact Or.inr (Or.inr rfl))))) (ex_int)) (ex_int)) (ex_int)))
        (ss_cons (sx_set (i := 8) 17 18 sc.nd rfl (by first | exact Or.inl rfl | exact Or.inr rfl) (ex_mod (ex_mul (ex_add (ex_var (k := .flat) 7 rfl (by decide) rfl (by first | exact Or.inl rfl | exact Or.inr (Or.inl rfl) | exact Or.inr (Or.inr rfl))) (ex_mul (ex_int) (ex_var (k := .flat) 6 rfl (by decide) rfl (by first | exact Or.inl rfl | exact Or.inr (Or.inl rfl) | exact Or.inr (Or.inr rfl))))) (ex_int)) (ex_int)))
        (ss_one (sx_append (i := 4) (n := 4) (L := []) (nd := true) 19 rfl rfl (by first | exact Or.inl rfl | exact Or.inr (Or.inl rfl) | exact Or.inr (Or.inr rfl)) (ex_mod (ex_add (ex_mul (ex_var (k := .flat) 7 rfl (by decide) rfl (by first | exact Or.inl rfl | exact Or.inr (Or.inl rfl) | exact Or.inr (Or.inr rfl))) (ex_var (k := .flat) 8 rfl (by decide) rfl (by first | exact Or.inl rfl | exact Or.inr (Or.inl rfl) | exact Or.inr (Or.inr rfl)))) (ex_div (ex_var (k := .flat) 7 rfl (by decide) rfl (by first | exact Or.inl rfl | exact Or.inr (Or.inl rfl) | exact Or.inr (Or.inr rfl))) (ex_int))) (ex_var (k := .flat) 2 rfl (by decide) rfl (by first | exact Or.inl rfl | exact Or.inr (Or.inl rfl) | exact Or.inr (Or.inr rfl)))))))) (by decide) (by decide)))) (by decide) (by decide)))
        (ss_one (sx_ret (ex_var (k := .lab (some 4) [] true) 4 rfl (by decide) rfl (by first | exact Or.inl rfl | exact Or.inr (Or.inl rfl) | exact Or.inr (Or.inr rfl))))))))))
theorem cal__law_row {f : Addr} {fd : FuncData} (F : FnP K "_law_row" s__law_row f fd) (h : mg "_law_row" = some (.ref f)) (b_range : mg "range" = none) : Cal P w K mg base "_law_row" 1 ["_law_cell", "_law_many", "_law_base"] f__law_row .fresh :=
  ⟨f, fd, ok__law_row F b_range, h, F.kp, FunD.bindsN F fun _ _ _ _ _ _ us hl => match us, hl with | [_, _, _], _ => rfl⟩
theorem sc__law_entry : FnScope N__law_entry ["_law_digit"] (defScope s__law_entry) := ⟨rfl, rfl, rfl, by decide +kernel, rfl, by decide +kernel, by decide +kernel⟩
theorem ok__law_entry {f : Addr} {fd : FuncData} (F : FnP K "_law_entry" s__law_entry f fd) : FnOk P w K mg base CX0 1 f fd ["_law_digit"] (sp0 ⟨mg, K⟩ f__law_entry 1 .flat) := by
  have sc := sc__law_entry
  let N : List Str := N__law_entry
  let st : Stmt := s__law_entry
  refine fn_ok0 (Γ' := []) (sc := ⟨[], .flat, [], []⟩) (k := 0) F sc [.flat] rfl (by decide) rfl fun cdv A outer s0 H E hr => ?_
  exact (ss_cons (sx_if (et_lt (ex_mod (ex_var (k := .flat) 0 rfl (by decide) rfl (by first | exact Or.inl rfl | exact Or.inr (Or.inl rfl) | exact Or.inr (Or.inr rfl))) (ex_int)) (ex_int))
        (ss_one (sx_ret (ex_int)))
        (ss_nil))
        (ss_cons (sx_if (et_lt (ex_mod (ex_var (k := .flat) 0 rfl (by decide) rfl (by first | exact Or.inl rfl | exact Or.inr (Or.inl rfl) | exact Or.inr (Or.inr rfl))) (ex_int)) (ex_int))
        (ss_one (sx_ret (ex_sub (ex_mod (ex_div (ex_var (k := .flat) 0 rfl (by decide) rfl (by first | exact Or.inl rfl | exact Or.inr (Or.inl rfl) | exact Or.inr (Or.inr rfl))) (ex_int)) (ex_int)) (ex_int))))
        (ss_nil))
        (ss_one (sx_ret (ex_add (ex_mul (ex_sub (ex_div (ex_var (k := .flat) 0 rfl (by decide) rfl (by first | exact Or.inl rfl | exact Or.inr (Or.inl rfl) | exact Or.inr (Or.inr rfl))) (ex_int)) (ex_int)) (ex_pow (ex_int) (ex_int))) (ex_div (ex_var (k := .flat) 0 rfl (by decide) rfl (by first | exact Or.inl rfl | exact Or.inr (Or.inl rfl) | exact Or.inr (Or.inr rfl))) (ex_int)))))))
theorem cal__law_entry {f : Addr} {fd : FuncData} (F : FnP K "_law_entry" s__law_entry f fd) (h : mg "_law_entry" = some (.ref f)) : Cal P w K mg base "_law_entry" 1 ["_law_digit"] f__law_entry .flat :=
  ⟨f, fd, ok__law_entry F, h, F.kp, FunD.bindsN F fun _ _ _ _ _ _ us hl => match us, hl with | [_], _ => rfl⟩
theorem sc__law_table : FnScope N__law_table ["_law_cell", "_law_high", "_law_wide"] (defScope s__law_table) := ⟨rfl, rfl, rfl, by decide +kernel, rfl, by decide +kernel, by decide +kernel⟩
theorem ok__law_table {f : Addr} {fd : FuncData} (F : FnP K "_law_table" s__law_table f fd) (b_range : mg "range" = none) (c__law_row : Cal P w K mg base "_law_row" 1 ["_law_cell", "_law_many", "_law_base"] f__law_row .fresh) (c__law_entry : Cal P w K mg base "_law_entry" 1 ["_law_digit"] f__law_entry .flat) : FnOk P w K mg base CX0 2 f fd ["_law_cell", "_law_high", "_law_wide"] (sp0 ⟨mg, K⟩ f__law_table 3 .fresh) := by
  have sc := sc__law_table
  let N : List Str := N__law_table
  let st : Stmt := s__law_table
  refine fn_ok0 (Γ' := []) (sc := ⟨[], .fresh, [], []⟩) (k := 1) F sc [.flat, .flat, .flat] rfl (by decide) rfl fun cdv A outer s0 H E hr => ?_
  exact (ss_cons (sx_set (i := 3) 2 3 sc.nd rfl (by first | exact Or.inl rfl | exact Or.inr rfl) (ex_kids (ex_calls_fresh c__law_row (hr.mono (by decide)) rfl (ea_cons (ex_var (k := .flat) 0 rfl (by decide) rfl (by first | exact Or.inl rfl | exact Or.inr (Or.inl rfl) | exact Or.inr (Or.inr rfl))) (ea_cons (ex_mul (ex_var (k := .flat) 1 rfl (by decide) rfl (by first | exact Or.inl rfl | exact Or.inr (Or.inl rfl) | exact Or.inr (Or.inr rfl))) (ex_var (k := .flat) 2 rfl (by decide) rfl (by first | exact Or.inl rfl | exact Or.inr (Or.inl rfl) | exact Or.inr (Or.inr rfl)))) (ea_cons (ex_int) (ea_nil)))))))
        (ss_one (sx_ret (ex_tup (ea_cons (ex_var (k := .flat) 1 rfl (by decide) rfl (by first | exact Or.inl rfl | exact Or.inr (Or.inl rfl) | exact Or.inr (Or.inr rfl))) (ea_cons (ex_var (k := .flat) 2 rfl (by decide) rfl (by first | exact Or.inl rfl | exact Or.inr (Or.inl rfl) | exact Or.inr (Or.inr rfl))) (ea_cons (ex_lc (own := [("_law_i", 4)]) 4 rfl sc.nd (ei_range1 rfl b_range (ea_cons (ex_var (k := .flat) 1 rfl (by decide) rfl (by first | exact Or.inl rfl | exact Or.inr (Or.inl rfl) | exact Or.inr (Or.inr rfl))) (ea_nil))) (blkOk_by (by kernel_rfl)) (fun _ _ _ _ _ => eg_name sc.nd (i := 4) rfl (by first | exact Or.inl rfl | exact Or.inr rfl)) (fun _ _ _ _ _ => ets_nil) (fun _ _ _ _ _ => ex_lc (own := [("_law_j", 5)]) 5 rfl sc.nd (ei_range1 rfl b_range (ea_cons (ex_var (k := .flat) 2 rfl (by decide) rfl (by first | exact Or.inl rfl | exact Or.inr (Or.inl rfl) | exact Or.inr (Or.inr rfl))) (ea_nil))) (blkOk_by (by kernel_rfl)) (fun _ _ _ _ _ => eg_name sc.nd (i := 5) rfl (by first | exact Or.inl rfl | exact Or.inr rfl)) (fun _ _ _ _ _ => ets_nil) (fun _ _ _ _ _ => ex_calls_flat c__law_entry (hr.mono (by decide)) rfl (ea_cons (ex_flat (ex_idx (ex_var (k := .lab (some 2) [] true) 3 rfl (by decide) rfl (by first | exact Or.inl rfl | exact Or.inr (Or.inl rfl) | exact Or.inr (Or.inr rfl))) (ex_add (ex_mul (ex_var (k := .flat) 4 rfl (by decide) rfl (by first | exact Or.inl rfl | exact Or.inr (Or.inl rfl) | exact Or.inr (Or.inr rfl))) (ex_var (k := .flat) 2 rfl (by decide) rfl (by first | exact Or.inl rfl | exact Or.inr (Or.inl rfl) | exact Or.inr (Or.inr rfl)))) (ex_var (k := .flat) 5 rfl (by decide) rfl (by first | exact Or.inl rfl | exact Or.inr (Or.inl rfl) | exact Or.inr (Or.inr rfl)))))) (ea_nil))))) (ea_nil))))))))
theorem cal__law_table {f : Addr} {fd : FuncData} (F : FnP K "_law_table" s__law_table f fd) (h : mg "_law_table" = some (.ref f)) (b_range : mg "range" = none) (c__law_row : Cal P w K mg base "_law_row" 1 ["_law_cell", "_law_many", "_law_base"] f__law_row .fresh) (c__law_entry : Cal P w K mg base "_law_entry" 1 ["_law_digit"] f__law_entry .flat) : Cal P w K mg base "_law_table" 2 ["_law_cell", "_law_high", "_law_wide"] f__law_table .fresh :=
  ⟨f, fd, ok__law_table F b_range c__law_row c__law_entry, h, F.kp, FunD.bindsN F fun _ _ _ _ _ _ us hl => match us, hl with | [_, _, _], _ => rfl⟩
theorem sc_law : FnScope N_law ["_law_script"] (defScope s_law) := ⟨rfl, rfl, rfl, by decide +kernel, rfl, by decide +kernel, by decide +kernel⟩
theorem ok_law {f : Addr} {fd : FuncData} (F : FnP K "law" s_law f fd) (b_int : mg "int" = none) (b_range : mg "range" = none) (c__law_row : Cal P w K mg base "_law_row" 1 ["_law_cell", "_law_many", "_law_base"] f__law_row .fresh) (c__law_cell_at : Cal P w K mg base "_law_cell_at" 1 ["_law_script", "_law_k"] f__law_cell_at .flat) (c__law_table : Cal P w K mg base "_law_table" 2 ["_law_cell", "_law_high", "_law_wide"] f__law_table .fresh) (c_product : Cal P w K mg base "product" 1 ["one", "other"] f_product .fresh) (c_plus : Cal P w K mg base "plus" 1 ["one", "other"] f_plus .fresh) (c_unit : Cal P w K mg base "unit" 1 ["many"] f_unit .fresh) (c_nought : Cal P w K mg base "nought" 1 ["high", "wide"] f_nought .fresh) (c_many_times : Cal P w K mg base "many_times" 1 ["number", "one"] f_many_times .fresh) (c_turned : Cal P w K mg base "turned" 1 ["one"] f_turned .fresh) : FnOk P w K mg base CX0 3 f fd ["_law_script"] (sp0 ⟨mg, K⟩ f_law 1 .flat) := by
  have sc := sc_law
  let N : List Str := N_law
  let st : Stmt := s_law
  refine fn_ok0 (Γ' := []) (sc := ⟨[], .flat, [], []⟩) (k := 2) F sc [.flat] rfl (by decide) rfl fun cdv A outer s0 H E hr => ?_
  exact (ss_cons (sx_set (i := 1) 2 3 sc.nd rfl (by first | exact Or.inl rfl | exact Or.inr rfl) (ex_kids (ex_calls_fresh c__law_row (hr.mono (by decide)) rfl (ea_cons (ex_calls_flat c__law_cell_at (hr.mono (by decide)) rfl (ea_cons (ex_var (k := .flat) 0 rfl (by decide) rfl (by first | exact Or.inl rfl | exact Or.inr (Or.inl rfl) | exact Or.inr (Or.inr rfl))) (ea_cons (ex_int) (ea_nil)))) (ea_cons (ex_int) (ea_cons (ex_int) (ea_nil)))))))
        (ss_cons (sx_set (i := 2) 4 5 sc.nd rfl (by first | exact Or.inl rfl | exact Or.inr rfl) (ex_flat (ex_idx (ex_lst (ea_cons (ex_int) (ea_cons (ex_int) (ea_nil)))) (ex_callTy call_int1 cp_int1 rfl b_int (by decide +kernel) (ea_cons (ex_eq hr.units (ex_mod (ex_flat (ex_idx (ex_var (k := .lab (some 2) [] true) 1 rfl (by decide) rfl (by first | exact Or.inl rfl | exact Or.inr (Or.inl rfl) | exact Or.inr (Or.inr rfl))) (ex_int))) (ex_int)) (ex_int)) (ea_nil))))))
        (ss_cons (sx_set (i := 4) 6 7 sc.nd rfl (by first | exact Or.inl rfl | exact Or.inr rfl) (ex_lc (own := [("_law_number", 3)]) 8 rfl sc.nd (ei_list (ex_slL (ex_var (k := .lab (some 2) [] true) 1 rfl (by decide) rfl (by first | exact Or.inl rfl | exact Or.inr (Or.inl rfl) | exact Or.inr (Or.inr rfl))) (eo_none) (eo_some (ex_int)))) (blkOk_by (by kernel_rfl)) (fun _ _ _ _ _ => eg_flat (eg_name sc.nd (i := 3) rfl (by first | exact Or.inl rfl | exact Or.inr rfl))) (fun _ _ _ _ _ => ets_nil) (fun _ _ _ _ _ => ex_mod (ex_var (k := .flat) 3 rfl (by decide) rfl (by first | exact Or.inl rfl | exact Or.inr (Or.inl rfl) | exact Or.inr (Or.inr rfl))) (ex_var (k := .flat) 2 rfl (by decide) rfl (by first | exact Or.inl rfl | exact Or.inr (Or.inl rfl) | exact Or.inr (Or.inr rfl))))))
        (ss_cons (sx_setLc (i := 5) (own := [("_law_k", 12)]) 11 9 10 rfl sc.nd rfl rfl (sw_true rfl rfl rfl (by decide +kernel)) (ei_range1 rfl b_range (ea_cons (ex_int) (ea_nil))) (blkOk_by (by kernel_rfl)) (fun _ _ _ _ _ => eg_name sc.nd (i := 12) rfl (by first | exact Or.inl rfl | exact Or.inr rfl)) (fun _ _ _ _ _ => ets_nil) (fun _ _ _ _ _ => ex_calls_fresh c__law_table (hr.mono (by decide)) rfl (ea_cons (ex_calls_flat c__law_cell_at (hr.mono (by decide)) rfl (ea_cons (ex_var (k := .flat) 0 rfl (by decide) rfl (by first | exact Or.inl rfl | exact Or.inr (Or.inl rfl) | exact Or.inr (Or.inr rfl))) (ea_cons (ex_add (ex_int) (ex_var (k := .flat) 12 rfl (by decide) rfl (by first | exact Or.inl rfl | exact Or.inr (Or.inl rfl) | exact Or.inr (Or.inr rfl)))) (ea_nil)))) (ea_cons (ex_flat (ex_idx (ex_var (k := .lab (some 6) [] true) 4 rfl (by decide) rfl (by first | exact Or.inl rfl | exact Or.inr (Or.inl rfl) | exact Or.inr (Or.inr rfl))) (ex_var (k := .flat) 12 rfl (by decide) rfl (by first | exact Or.inl rfl | exact Or.inr (Or.inl rfl) | exact Or.inr (Or.inr rfl))))) (ea_cons (ex_flat (ex_idx (ex_var (k := .lab (some 6) [] true) 4 rfl (by decide) rfl (by first | exact Or.inl rfl | exact Or.inr (Or.inl rfl) | exact Or.inr (Or.inr rfl))) (ex_add (ex_var (k := .flat) 12 rfl (by decide) rfl (by first | exact Or.inl rfl | exact Or.inr (Or.inl rfl) | exact Or.inr (Or.inr rfl))) (ex_int)))) (ea_nil))))))
        (ss_cons (sx_setLc (i := 6) (own := [("_law_k", 12)]) 14 12 13 rfl sc.nd rfl rfl (sw_true rfl rfl rfl (by decide +kernel)) (ei_range1 rfl b_range (ea_cons (ex_int) (ea_nil))) (blkOk_by (by kernel_rfl)) (fun _ _ _ _ _ => eg_name sc.nd (i := 12) rfl (by first | exact Or.inl rfl | exact Or.inr rfl)) (fun _ _ _ _ _ => ets_nil) (fun _ _ _ _ _ => ex_calls_fresh c__law_table (hr.mono (by decide)) rfl (ea_cons (ex_calls_flat c__law_cell_at (hr.mono (by decide)) rfl (ea_cons (ex_var (k := .flat) 0 rfl (by decide) rfl (by first | exact Or.inl rfl | exact Or.inr (Or.inl rfl) | exact Or.inr (Or.inr rfl))) (ea_cons (ex_add (ex_int) (ex_var (k := .flat) 12 rfl (by decide) rfl (by first | exact Or.inl rfl | exact Or.inr (Or.inl rfl) | exact Or.inr (Or.inr rfl)))) (ea_nil)))) (ea_cons (ex_flat (ex_idx (ex_var (k := .lab (some 6) [] true) 4 rfl (by decide) rfl (by first | exact Or.inl rfl | exact Or.inr (Or.inl rfl) | exact Or.inr (Or.inr rfl))) (ex_var (k := .flat) 12 rfl (by decide) rfl (by first | exact Or.inl rfl | exact Or.inr (Or.inl rfl) | exact Or.inr (Or.inr rfl))))) (ea_cons (ex_flat (ex_idx (ex_var (k := .lab (some 6) [] true) 4 rfl (by decide) rfl (by first | exact Or.inl rfl | exact Or.inr (Or.inl rfl) | exact Or.inr (Or.inr rfl))) (ex_add (ex_var (k := .flat) 12 rfl (by decide) rfl (by first | exact Or.inl rfl | exact Or.inr (Or.inl rfl) | exact Or.inr (Or.inr rfl))) (ex_int)))) (ea_nil))))))
        (ss_cons (sx_asg 15 16 (ex_var (k := .lab (some 9) [10] true) 5 rfl (by decide) rfl (by first | exact Or.inl rfl | exact Or.inr (Or.inl rfl) | exact Or.inr (Or.inr rfl))) (eg_lst rfl (egs_cons (eg_name sc.nd (i := 7) rfl (by first | exact Or.inl rfl | exact Or.inr rfl)) (egs_cons (eg_name sc.nd (i := 8) rfl (by first | exact Or.inl rfl | exact Or.inr rfl)) (egs_cons (eg_name sc.nd (i := 9) rfl (by first | exact Or.inl rfl | exact Or.inr rfl)) (egs_cons (eg_name sc.nd (i := 10) rfl (by first | exact Or.inl rfl | exact Or.inr rfl)) (egs_nil)))))))
        (ss_cons (sx_set (i := 3) 17 18 sc.nd rfl (by first | exact Or.inl rfl | exact Or.inr rfl) (ex_sub (ex_mod (ex_calls_flat c__law_cell_at (hr.mono (by decide)) rfl (ea_cons (ex_var (k := .flat) 0 rfl (by decide) rfl (by first | exact Or.inl rfl | exact Or.inr (Or.inl rfl) | exact Or.inr (Or.inr rfl))) (ea_cons (ex_int) (ea_nil)))) (ex_pow (ex_int) (ex_int))) (ex_mul (ex_int) (ex_pow (ex_int) (ex_int)))))
        (ss_cons (sx_set (i := 11) 19 20 sc.nd rfl (by first | exact Or.inl rfl | exact Or.inr rfl) (ex_calls_fresh c_product (hr.mono (by decide)) rfl (ea_cons (ex_var (k := .lab none [9, 10] true) 7 rfl (by decide) rfl (by first | exact Or.inl rfl | exact Or.inr (Or.inl rfl) | exact Or.inr (Or.inr rfl))) (ea_cons (ex_var (k := .lab none [9, 10] true) 8 rfl (by decide) rfl (by first | exact Or.inl rfl | exact Or.inr (Or.inl rfl) | exact Or.inr (Or.inr rfl))) (ea_nil)))))
        (ss_cons (sx_if (et_ne hr.units (ex_calls_fresh c_product (hr.mono (by decide)) rfl (ea_cons (ex_var (k := .lab (some 19) [20] true) 11 rfl (by decide) rfl (by first | exact Or.inl rfl | exact Or.inr (Or.inl rfl) | exact Or.inr (Or.inr rfl))) (ea_cons (ex_var (k := .lab none [9, 10] true) 9 rfl (by decide) rfl (by first | exact Or.inl rfl | exact Or.inr (Or.inl rfl) | exact Or.inr (Or.inr rfl))) (ea_nil)))) (ex_calls_fresh c_product (hr.mono (by decide)) rfl (ea_cons (ex_var (k := .lab none [9, 10] true) 7 rfl (by decide) rfl (by first | exact Or.inl rfl | exact Or.inr (Or.inl rfl) | exact Or.inr (Or.inr rfl))) (ea_cons (ex_calls_fresh c_product (hr.mono (by decide)) rfl (ea_cons (ex_var (k := .lab none [9, 10] true) 8 rfl (by decide) rfl (by first | exact Or.inl rfl | exact Or.inr (Or.inl rfl) | exact Or.inr (Or.inr rfl))) (ea_cons (ex_var (k := .lab none [9, 10] true) 9 rfl (by decide) rfl (by first | exact Or.inl rfl | exact Or.inr (Or.inl rfl) | exact Or.inr (Or.inr rfl))) (ea_nil)))) (ea_nil)))))
        (ss_one (sx_ret (ex_bl)))
        (ss_nil))
        (ss_cons (sx_if (et_ne hr.units (ex_calls_fresh c_product (hr.mono (by decide)) rfl (ea_cons (ex_calls_fresh c_product (hr.mono (by decide)) rfl (ea_cons (ex_var (k := .lab (some 19) [20] true) 11 rfl (by decide) rfl (by first | exact Or.inl rfl | exact Or.inr (Or.inl rfl) | exact Or.inr (Or.inr rfl))) (ea_cons (ex_var (k := .lab none [9, 10] true) 9 rfl (by decide) rfl (by first | exact Or.inl rfl | exact Or.inr (Or.inl rfl) | exact Or.inr (Or.inr rfl))) (ea_nil)))) (ea_cons (ex_var (k := .lab none [9, 10] true) 10 rfl (by decide) rfl (by first | exact Or.inl rfl | exact Or.inr (Or.inl rfl) | exact Or.inr (Or.inr rfl))) (ea_nil)))) (ex_calls_fresh c_product (hr.mono (by decide)) rfl (ea_cons (ex_var (k := .lab (some 19) [20] true) 11 rfl (by decide) rfl (by first | exact Or.inl rfl | exact Or.inr (Or.inl rfl) | exact Or.inr (Or.inr rfl))) (ea_cons (ex_calls_fresh c_product (hr.mono (by decide)) rfl (ea_cons (ex_var (k := .lab none [9, 10] true) 9 rfl (by decide) rfl (by first | exact Or.inl rfl | exact Or.inr (Or.inl rfl) | exact Or.inr (Or.inr rfl))) (ea_cons (ex_var (k := .lab none [9, 10] true) 10 rfl (by decide) rfl (by first | exact Or.inl rfl | exact Or.inr (Or.inl rfl) | exact Or.inr (Or.inr rfl))) (ea_nil)))) (ea_nil)))))
        (ss_one (sx_ret (ex_bl)))
        (ss_nil))
        (ss_cons (sx_if (et_ne hr.units (ex_calls_fresh c_product (hr.mono (by decide)) rfl (ea_cons (ex_calls_fresh c_plus (hr.mono (by decide)) rfl (ea_cons (ex_var (k := .lab none [9, 10] true) 7 rfl (by decide) rfl (by first | exact Or.inl rfl | exact Or.inr (Or.inl rfl) | exact Or.inr (Or.inr rfl))) (ea_cons (ex_idx (ex_var (k := .lab (some 12) [13] true) 6 rfl (by decide) rfl (by first | exact Or.inl rfl | exact Or.inr (Or.inl rfl) | exact Or.inr (Or.inr rfl))) (ex_int)) (ea_nil)))) (ea_cons (ex_var (k := .lab none [9, 10] true) 8 rfl (by decide) rfl (by first | exact Or.inl rfl | exact Or.inr (Or.inl rfl) | exact Or.inr (Or.inr rfl))) (ea_nil)))) (ex_calls_fresh c_plus (hr.mono (by decide)) rfl (ea_cons (ex_var (k := .lab (some 19) [20] true) 11 rfl (by decide) rfl (by first | exact Or.inl rfl | exact Or.inr (Or.inl rfl) | exact Or.inr (Or.inr rfl))) (ea_cons (ex_calls_fresh c_product (hr.mono (by decide)) rfl (ea_cons (ex_idx (ex_var (k := .lab (some 12) [13] true) 6 rfl (by decide) rfl (by first | exact Or.inl rfl | exact Or.inr (Or.inl rfl) | exact Or.inr (Or.inr rfl))) (ex_int)) (ea_cons (ex_var (k := .lab none [9, 10] true) 8 rfl (by decide) rfl (by first | exact Or.inl rfl | exact Or.inr (Or.inl rfl) | exact Or.inr (Or.inr rfl))) (ea_nil)))) (ea_nil)))))
        (ss_one (sx_ret (ex_bl)))
        (ss_nil))
        (ss_cons (sx_if (et_ne hr.units (ex_calls_fresh c_product (hr.mono (by decide)) rfl (ea_cons (ex_var (k := .lab none [9, 10] true) 7 rfl (by decide) rfl (by first | exact Or.inl rfl | exact Or.inr (Or.inl rfl) | exact Or.inr (Or.inr rfl))) (ea_cons (ex_calls_fresh c_plus (hr.mono (by decide)) rfl (ea_cons (ex_var (k := .lab none [9, 10] true) 8 rfl (by decide) rfl (by first | exact Or.inl rfl | exact Or.inr (Or.inl rfl) | exact Or.inr (Or.inr rfl))) (ea_cons (ex_idx (ex_var (k := .lab (some 12) [13] true) 6 rfl (by decide) rfl (by first | exact Or.inl rfl | exact Or.inr (Or.inl rfl) | exact Or.inr (Or.inr rfl))) (ex_int)) (ea_nil)))) (ea_nil)))) (ex_calls_fresh c_plus (hr.mono (by decide)) rfl (ea_cons (ex_var (k := .lab (some 19) [20] true) 11 rfl (by decide) rfl (by first | exact Or.inl rfl | exact Or.inr (Or.inl rfl) | exact Or.inr (Or.inr rfl))) (ea_cons (ex_calls_fresh c_product (hr.mono (by decide)) rfl (ea_cons (ex_var (k := .lab none [9, 10] true) 7 rfl (by decide) rfl (by first | exact Or.inl rfl | exact Or.inr (Or.inl rfl) | exact Or.inr (Or.inr rfl))) (ea_cons (ex_idx (ex_var (k := .lab (some 12) [13] true) 6 rfl (by decide) rfl (by first | exact Or.inl rfl | exact Or.inr (Or.inl rfl) | exact Or.inr (Or.inr rfl))) (ex_int)) (ea_nil)))) (ea_nil)))))
        (ss_one (sx_ret (ex_bl)))
        (ss_nil))
        (ss_cons (sx_if (et_w (ew_or (et_ne hr.units (ex_calls_fresh c_product (hr.mono (by decide)) rfl (ea_cons (ex_calls_fresh c_unit (hr.mono (by decide)) rfl (ea_cons (ex_flat (ex_idx (ex_var (k := .lab (some 6) [] true) 4 rfl (by decide) rfl (by first | exact Or.inl rfl | exact Or.inr (Or.inl rfl) | exact Or.inr (Or.inr rfl))) (ex_int))) (ea_nil))) (ea_cons (ex_var (k := .lab none [9, 10] true) 7 rfl (by decide) rfl (by first | exact Or.inl rfl | exact Or.inr (Or.inl rfl) | exact Or.inr (Or.inr rfl))) (ea_nil)))) (ex_var (k := .lab none [9, 10] true) 7 rfl (by decide) rfl (by first | exact Or.inl rfl | exact Or.inr (Or.inl rfl) | exact Or.inr (Or.inr rfl)))) (ew_or1 (et_ne hr.units (ex_calls_fresh c_product (hr.mono (by decide)) rfl (ea_cons (ex_var (k := .lab none [9, 10] true) 7 rfl (by decide) rfl (by first | exact Or.inl rfl | exact Or.inr (Or.inl rfl) | exact Or.inr (Or.inr rfl))) (ea_cons (ex_calls_fresh c_unit (hr.mono (by decide)) rfl (ea_cons (ex_flat (ex_idx (ex_var (k := .lab (some 6) [] true) 4 rfl (by decide) rfl (by first | exact Or.inl rfl | exact Or.inr (Or.inl rfl) | exact Or.inr (Or.inr rfl))) (ex_int))) (ea_nil))) (ea_nil)))) (ex_var (k := .lab none [9, 10] true) 7 rfl (by decide) rfl (by first | exact Or.inl rfl | exact Or.inr (Or.inl rfl) | exact Or.inr (Or.inr rfl)))))))
        (ss_one (sx_ret (ex_bl)))
        (ss_nil))
        (ss_cons (sx_if (et_w (ew_or (et_ne hr.units (ex_calls_fresh c_product (hr.mono (by decide)) rfl (ea_cons (ex_var (k := .lab none [9, 10] true) 7 rfl (by decide) rfl (by first | exact Or.inl rfl | exact Or.inr (Or.inl rfl) | exact Or.inr (Or.inr rfl))) (ea_cons (ex_calls_fresh c_nought (hr.mono (by decide)) rfl (ea_cons (ex_flat (ex_idx (ex_var (k := .lab (some 6) [] true) 4 rfl (by decide) rfl (by first | exact Or.inl rfl | exact Or.inr (Or.inl rfl) | exact Or.inr (Or.inr rfl))) (ex_int))) (ea_cons (ex_int) (ea_nil)))) (ea_nil)))) (ex_calls_fresh c_nought (hr.mono (by decide)) rfl (ea_cons (ex_flat (ex_idx (ex_var (k := .lab (some 6) [] true) 4 rfl (by decide) rfl (by first | exact Or.inl rfl | exact Or.inr (Or.inl rfl) | exact Or.inr (Or.inr rfl))) (ex_int))) (ea_cons (ex_int) (ea_nil))))) (ew_or1 (et_ne hr.units (ex_calls_fresh c_plus (hr.mono (by decide)) rfl (ea_cons (ex_var (k := .lab none [9, 10] true) 7 rfl (by decide) rfl (by first | exact Or.inl rfl | exact Or.inr (Or.inl rfl) | exact Or.inr (Or.inr rfl))) (ea_cons (ex_calls_fresh c_nought (hr.mono (by decide)) rfl (ea_cons (ex_flat (ex_idx (ex_var (k := .lab none [9, 10] true) 7 rfl (by decide) rfl (by first | exact Or.inl rfl | exact Or.inr (Or.inl rfl) | exact Or.inr (Or.inr rfl))) (ex_int))) (ea_cons (ex_flat (ex_idx (ex_var (k := .lab none [9, 10] true) 7 rfl (by decide) rfl (by first | exact Or.inl rfl | exact Or.inr (Or.inl rfl) | exact Or.inr (Or.inr rfl))) (ex_int))) (ea_nil)))) (ea_nil)))) (ex_var (k := .lab none [9, 10] true) 7 rfl (by decide) rfl (by first | exact Or.inl rfl | exact Or.inr (Or.inl rfl) | exact Or.inr (Or.inr rfl)))))))
        (ss_one (sx_ret (ex_bl)))
        (ss_nil))
        (ss_cons (sx_if (et_ne hr.units (ex_calls_fresh c_product (hr.mono (by decide)) rfl (ea_cons (ex_calls_fresh c_many_times (hr.mono (by decide)) rfl (ea_cons (ex_var (k := .flat) 3 rfl (by decide) rfl (by first | exact Or.inl rfl | exact Or.inr (Or.inl rfl) | exact Or.inr (Or.inr rfl))) (ea_cons (ex_var (k := .lab none [9, 10] true) 7 rfl (by decide) rfl (by first | exact Or.inl rfl | exact Or.inr (Or.inl rfl) | exact Or.inr (Or.inr rfl))) (ea_nil)))) (ea_cons (ex_var (k := .lab none [9, 10] true) 8 rfl (by decide) rfl (by first | exact Or.inl rfl | exact Or.inr (Or.inl rfl) | exact Or.inr (Or.inr rfl))) (ea_nil)))) (ex_calls_fresh c_many_times (hr.mono (by decide)) rfl (ea_cons (ex_var (k := .flat) 3 rfl (by decide) rfl (by first | exact Or.inl rfl | exact Or.inr (Or.inl rfl) | exact Or.inr (Or.inr rfl))) (ea_cons (ex_var (k := .lab (some 19) [20] true) 11 rfl (by decide) rfl (by first | exact Or.inl rfl | exact Or.inr (Or.inl rfl) | exact Or.inr (Or.inr rfl))) (ea_nil)))))
        (ss_one (sx_ret (ex_bl)))
        (ss_nil))
        (ss_cons (sx_if (et_w (ew_or (et_ne hr.units (ex_calls_fresh c_plus (hr.mono (by decide)) rfl (ea_cons (ex_var (k := .lab none [9, 10] true) 7 rfl (by decide) rfl (by first | exact Or.inl rfl | exact Or.inr (Or.inl rfl) | exact Or.inr (Or.inr rfl))) (ea_cons (ex_calls_fresh c_many_times (hr.mono (by decide)) rfl (ea_cons (ex_neg (ex_int)) (ea_cons (ex_var (k := .lab none [9, 10] true) 7 rfl (by decide) rfl (by first | exact Or.inl rfl | exact Or.inr (Or.inl rfl) | exact Or.inr (Or.inr rfl))) (ea_nil)))) (ea_nil)))) (ex_calls_fresh c_nought (hr.mono (by decide)) rfl (ea_cons (ex_flat (ex_idx (ex_var (k := .lab none [9, 10] true) 7 rfl (by decide) rfl (by first | exact Or.inl rfl | exact Or.inr (Or.inl rfl) | exact Or.inr (Or.inr rfl))) (ex_int))) (ea_cons (ex_flat (ex_idx (ex_var (k := .lab none [9, 10] true) 7 rfl (by decide) rfl (by first | exact Or.inl rfl | exact Or.inr (Or.inl rfl) | exact Or.inr (Or.inr rfl))) (ex_int))) (ea_nil))))) (ew_or1 (et_ne hr.units (ex_calls_fresh c_turned (hr.mono (by decide)) rfl (ea_cons (ex_calls_fresh c_turned (hr.mono (by decide)) rfl (ea_cons (ex_var (k := .lab none [9, 10] true) 7 rfl (by decide) rfl (by first | exact Or.inl rfl | exact Or.inr (Or.inl rfl) | exact Or.inr (Or.inr rfl))) (ea_nil))) (ea_nil))) (ex_var (k := .lab none [9, 10] true) 7 rfl (by decide) rfl (by first | exact Or.inl rfl | exact Or.inr (Or.inl rfl) | exact Or.inr (Or.inr rfl)))))))
        (ss_one (sx_ret (ex_bl)))
        (ss_nil))
        (ss_cons (sx_if (et_ne hr.units (ex_calls_fresh c_many_times (hr.mono (by decide)) rfl (ea_cons (ex_add (ex_var (k := .flat) 3 rfl (by decide) rfl (by first | exact Or.inl rfl | exact Or.inr (Or.inl rfl) | exact Or.inr (Or.inr rfl))) (ex_int)) (ea_cons (ex_var (k := .lab none [9, 10] true) 7 rfl (by decide) rfl (by first | exact Or.inl rfl | exact Or.inr (Or.inl rfl) | exact Or.inr (Or.inr rfl))) (ea_nil)))) (ex_calls_fresh c_plus (hr.mono (by decide)) rfl (ea_cons (ex_calls_fresh c_many_times (hr.mono (by decide)) rfl (ea_cons (ex_var (k := .flat) 3 rfl (by decide) rfl (by first | exact Or.inl rfl | exact Or.inr (Or.inl rfl) | exact Or.inr (Or.inr rfl))) (ea_cons (ex_var (k := .lab none [9, 10] true) 7 rfl (by decide) rfl (by first | exact Or.inl rfl | exact Or.inr (Or.inl rfl) | exact Or.inr (Or.inr rfl))) (ea_nil)))) (ea_cons (ex_var (k := .lab none [9, 10] true) 7 rfl (by decide) rfl (by first | exact Or.inl rfl | exact Or.inr (Or.inl rfl) | exact Or.inr (Or.inr rfl))) (ea_nil)))))
        (ss_one (sx_ret (ex_bl)))
        (ss_nil))
        (ss_one (sx_ret (ex_and (ex_eq hr.units (ex_calls_fresh c_turned (hr.mono (by decide)) rfl (ea_cons (ex_var (k := .lab (some 19) [20] true) 11 rfl (by decide) rfl (by first | exact Or.inl rfl | exact Or.inr (Or.inl rfl) | exact Or.inr (Or.inr rfl))) (ea_nil))) (ex_calls_fresh c_product (hr.mono (by decide)) rfl (ea_cons (ex_calls_fresh c_turned (hr.mono (by decide)) rfl (ea_cons (ex_var (k := .lab none [9, 10] true) 8 rfl (by decide) rfl (by first | exact Or.inl rfl | exact Or.inr (Or.inl rfl) | exact Or.inr (Or.inr rfl))) (ea_nil))) (ea_cons (ex_calls_fresh c_turned (hr.mono (by decide)) rfl (ea_cons (ex_var (k := .lab none [9, 10] true) 7 rfl (by decide) rfl (by first | exact Or.inl rfl | exact Or.inr (Or.inl rfl) | exact Or.inr (Or.inr rfl))) (ea_nil))) (ea_nil))))) (ex_one (ex_eq hr.units (ex_calls_fresh c_plus (hr.mono (by decide)) rfl (ea_cons (ex_var (k := .lab none [9, 10] true) 7 rfl (by decide) rfl (by first | exact Or.inl rfl | exact Or.inr (Or.inl rfl) | exact Or.inr (Or.inr rfl))) (ea_cons (ex_idx (ex_var (k := .lab (some 12) [13] true) 6 rfl (by decide) rfl (by first | exact Or.inl rfl | exact Or.inr (Or.inl rfl) | exact Or.inr (Or.inr rfl))) (ex_int)) (ea_nil)))) (ex_calls_fresh c_plus (hr.mono (by decide)) rfl (ea_cons (ex_idx (ex_var (k := .lab (some 12) [13] true) 6 rfl (by decide) rfl (by first | exact Or.inl rfl | exact Or.inr (Or.inl rfl) | exact Or.inr (Or.inr rfl))) (ex_int)) (ea_cons (ex_var (k := .lab none [9, 10] true) 7 rfl (by decide) rfl (by first | exact Or.inl rfl | exact Or.inr (Or.inl rfl) | exact Or.inr (Or.inr rfl))) (ea_nil))))))))))))))))))))))))))
theorem cal_law {f : Addr} {fd : FuncData} (F : FnP K "law" s_law f fd) (h : mg "law" = some (.ref f)) (b_int : mg "int" = none) (b_range : mg "range" = none) (c__law_row : Cal P w K mg base "_law_row" 1 ["_law_cell", "_law_many", "_law_base"] f__law_row .fresh) (c__law_cell_at : Cal P w K mg base "_law_cell_at" 1 ["_law_script", "_law_k"] f__law_cell_at .flat) (c__law_table : Cal P w K mg base "_law_table" 2 ["_law_cell", "_law_high", "_law_wide"] f__law_table .fresh) (c_product : Cal P w K mg base "product" 1 ["one", "other"] f_product .fresh) (c_plus : Cal P w K mg base "plus" 1 ["one", "other"] f_plus .fresh) (c_unit : Cal P w K mg base "unit" 1 ["many"] f_unit .fresh) (c_nought : Cal P w K mg base "nought" 1 ["high", "wide"] f_nought .fresh) (c_many_times : Cal P w K mg base "many_times" 1 ["number", "one"] f_many_times .fresh) (c_turned : Cal P w K mg base "turned" 1 ["one"] f_turned .fresh) : Cal P w K mg base "law" 3 ["_law_script"] f_law .flat :=
  ⟨f, fd, ok_law F b_int b_range c__law_row c__law_cell_at c__law_table c_product c_plus c_unit c_nought c_many_times c_turned, h, F.kp, FunD.bindsN F fun _ _ _ _ _ _ us hl => match us, hl with | [_], _ => rfl⟩
end
end K03

/-! ## VTab5 -/
namespace VP
open PySem PySem.Spec PyProof.Rows L2 VV
theorem mulE_assoc {a b c : Nat → Nat → Int} {n m : Nat} : mulE (mulE a b n) c m = mulE a (mulE b c m) n := by
  funext i j
  show S m (fun k => S n (fun l => a i l * b l k) * c k j) = S n (fun l => a i l * S m fun k => b l k * c k j)
  have h1 : S m (fun k => S n (fun l => a i l * b l k) * c k j) = S m fun k => S n fun l => a i l * b l k * c k j := S_congr fun k _ => S_mulR.symm
  have h2 : S n (fun l => a i l * S m fun k => b l k * c k j) = S n fun l => S m fun k => a i l * (b l k * c k j) := S_congr fun k _ => S_mulL.symm
  rw [h1, h2, S_comm]
  exact S_congr fun l _ => S_congr fun k _ => Int.mul_assoc _ _ _
theorem mulE_addL {a b c : Nat → Nat → Int} {n : Nat} : mulE (fun i j => a i j + b i j) c n = fun i j => mulE a c n i j + mulE b c n i j := by
  funext i j
  show S n (fun k => (a i k + b i k) * c k j) = S n (fun k => a i k * c k j) + S n fun k => b i k * c k j
  rw [← S_add]
  exact S_congr fun k _ => Int.add_mul _ _ _
theorem mulE_addR {a b c : Nat → Nat → Int} {n : Nat} : mulE a (fun i j => b i j + c i j) n = fun i j => mulE a b n i j + mulE a c n i j := by
  funext i j
  show S n (fun k => a i k * (b k j + c k j)) = S n (fun k => a i k * b k j) + S n fun k => a i k * c k j
  rw [← S_add]
  exact S_congr fun k _ => Int.mul_add _ _ _
theorem mulE_mulL {a c : Nat → Nat → Int} {x : Int} {n : Nat} : mulE (fun i j => x * a i j) c n = fun i j => x * mulE a c n i j := by
  funext i j
  show S n (fun k => x * a i k * c k j) = x * S n fun k => a i k * c k j
  rw [← S_mulL]
  exact S_congr fun k _ => Int.mul_assoc _ _ _
theorem mulE_zeroR {a : Nat → Nat → Int} {n : Nat} : mulE a (fun _ _ => 0) n = fun _ _ => 0 := by
  funext i j
  show S n (fun k => a i k * 0) = 0
  rw [S_congr (v := fun _ => 0) fun k _ => Int.mul_zero _, S_zero]
theorem mulE_unitL {a : Nat → Nat → Int} {h : Nat} {i j : Nat} (hi : i < h) : mulE (fun i j => if i = j then 1 else 0) a h i j = a i j := by
  show S h (fun k => (if i = k then 1 else 0) * a k j) = a i j
  rw [S_delta, if_pos hi]
theorem mulE_unitR {a : Nat → Nat → Int} {w : Nat} {i j : Nat} (hj : j < w) : mulE a (fun i j => if i = j then 1 else 0) w i j = a i j := by
  show S w (fun k => a i k * (if k = j then 1 else 0)) = a i j
  rw [S_deltaR, if_pos hj]
theorem mulE_turn {a b : Nat → Nat → Int} {n : Nat} : (fun i j => mulE a b n j i) = mulE (fun i j => b j i) (fun i j => a j i) n := by
  funext i j
  show S n (fun k => a j k * b k i) = S n fun k => b k i * a j k
  exact S_congr fun k _ => Int.mul_comm _ _
theorem mulE_bn {f g : Nat → Nat → Int} {h w d n m c : Nat} (hf : ∀ i j, i < h → j < w → Bn n (f i j)) (hg : ∀ i j, i < w → j < d → Bn m (g i j)) (hw : w ≤ 2 ^ c) : ∀ i j, i < h → j < d → Bn (n + m + c) (mulE f g w i j) :=
  fun i j hi hj => S_bn hw fun k hk => (hf i k hi hk).mul (hg k j hk hj)
/-- the same table twice is no difference -/
theorem ne_enc {h w : Nat} {f g : Nat → Nat → Int} (e : ∀ i j, i < h → j < w → f i j = g i j) : dNe [encT h w f, encT h w g] = some (.bl false) := by
  rw [encT_congr e]
  exact dNe_same ok_encT (by decide)
theorem eq_enc {h w : Nat} {f g : Nat → Nat → Int} (e : ∀ i j, i < h → j < w → f i j = g i j) : dEq [encT h w f, encT h w g] = some (.bl true) := by
  rw [encT_congr e]
  exact dEq_same ok_encT (by decide)
end VP

/-! ## K03p -/
namespace K03
open PySem PySem.Spec PyProof.Rows L2 VV VP
theorem law_true : ∀ ns : List Int, ns.length ≤ 63 → (∀ z ∈ ns, PySem.Builtin.Int.intBits z ≤ 1048576) → f_law [.scr (ns.map D.int)] = some (.ret (.bl true)) := by
  intro ns hn hz
  unfold f_law
  rw [fn_s (by simp)]
  obtain ⟨L, hL⟩ : ∃ L, L = D.scr (ns.map D.int) := ⟨_, rfl⟩
  have cell : ∀ k : Nat, f__law_cell_at [L, .int k] = some (.ret (.int (ns.getD k 0))) := fun k => by rw [hL]; exact cell_ok ns k
  rw [← hL]
  have e0 : [L] ++ List.replicate (13 - [L].length) .non = [L, .non, .non, .non, .non, .non, .non, .non, .non, .non, .non, .non, .non] := rfl
  rw [e0]
  unfold m_law
  rw [pow_e (a := 10) (b := 30) (c := 1000000000000000000000000000000) (by unfold CPow; decide) (by decide), pow_e (a := 10) (b := 29) (c := 100000000000000000000000000000) (by unfold CPow; decide) (by decide)]
  -- the head
  obtain ⟨r, hr, hl, hb⟩ := row_ok (ns.getD 0 0) 8 4096 (by decide) (by decide) (by decide)
  obtain ⟨a0, a1, a2, a3, a4, a5, a6, a7, rfl⟩ : ∃ a0 a1 a2 a3 a4 a5 a6 a7, r = [a0, a1, a2, a3, a4, a5, a6, a7] := by
    match r, hl with
    | [a0, a1, a2, a3, a4, a5, a6, a7], _ => exact ⟨_, _, _, _, _, _, _, _, rfl⟩
  have c0 := cell 0
  simp only [Int.ofNat_zero, Int.natCast_zero] at c0
  simp only [Int.cast_ofNat_Int] at hr
  rw [sSeq_s, show sSet 1 (eChk D.kidsFlat (eCall f__law_row (aCons (eCall f__law_cell_at (aCons (eVar 0) (aCons (eC (.int 0)) aNil))) (aCons (eC (.int 8)) (aCons (eC (.int 4096)) aNil))))) [L, .non, .non, .non, .non, .non, .non, .non, .non, .non, .non, .non, .non] = some (.nx [L, .lst ([a0, a1, a2, a3, a4, a5, a6, a7].map D.int), .non, .non, .non, .non, .non, .non, .non, .non, .non, .non, .non]) by
    simp [-List.getD_eq_getElem?_getD, c0, hr, Option.filter_some], seqO_nx]
  obtain ⟨R, hR⟩ : ∃ R, R = D.lst ([a0, a1, a2, a3, a4, a5, a6, a7].map D.int) := ⟨_, rfl⟩
  rw [← hR]
  obtain ⟨mo, hmo⟩ : ∃ mo : Int, (mo = 6 ∨ mo = 17) ∧ sSet 2 (eChk D.isFlat (eP dIdx (aCons (eLst (aCons (eC (.int 6)) (aCons (eC (.int 17)) aNil))) (aCons (eP dIntC (aCons (eP dEq (aCons (eP dMod (aCons (eChk D.isFlat (eP dIdx (aCons (eVar 1) (aCons (eC (.int 5)) aNil)))) (aCons (eC (.int 8)) aNil))) (aCons (eC (.int 5)) aNil))) aNil)) aNil)))) [L, R, .non, .non, .non, .non, .non, .non, .non, .non, .non, .non, .non] = some (.nx [L, R, .int mo, .non, .non, .non, .non, .non, .non, .non, .non, .non, .non]) := by
    by_cases h5 : a5 % 8 = 5
    · exact ⟨17, Or.inr rfl, by simp [hR, h5, Option.filter_some]⟩
    · exact ⟨6, Or.inl rfl, by simp [hR, h5, Option.filter_some]⟩
  obtain ⟨hmo, e2⟩ := hmo
  rw [sSeq_s, e2, seqO_nx]
  have hmo1 : 0 < mo := by omega
  obtain ⟨s, hs⟩ : ∃ s : Nat → Nat, s = fun i => ([a0, a1, a2, a3, a4].getD i 0 % mo).toNat := ⟨_, rfl⟩
  have hmod : ∀ a : Int, ((a % mo).toNat : Int) = a % mo := fun a => Int.toNat_of_nonneg (Int.emod_nonneg _ (by omega))
  have hs16 : ∀ i, s i ≤ 16 := by
    intro i
    rw [hs]
    have h1 := hmod ([a0, a1, a2, a3, a4].getD i 0)
    have h2 := Int.emod_lt_of_pos ([a0, a1, a2, a3, a4].getD i 0) hmo1
    show ([a0, a1, a2, a3, a4].getD i 0 % mo).toNat ≤ 16
    omega
  obtain ⟨Z, hZ⟩ : ∃ Z : D, Z = .lst [.int (s 0), .int (s 1), .int (s 2), .int (s 3), .int (s 4)] := ⟨_, rfl⟩
  have eZ : lcL (gF (gN 3)) cYes (eP dMod (aCons (eVar 3) (aCons (eVar 2) aNil))) [L, R, .int mo, .non, .non, .non, .non, .non, .non, .non, .non, .non, .non] ([a0, a1, a2, a3, a4].map D.int) = some ([a0, a1, a2, a3, a4].map fun a => .int (a % mo)) :=
    lcL_map D.int (fun a => .int (a % mo)) _ fun a _ => ⟨[L, R, .int mo, .int a, .non, .non, .non, .non, .non, .non, .non, .non, .non], by simp, cYes_s, by simp [hmo1]⟩
  have hcut : cutG ([a0, a1, a2, a3, a4, a5, a6, a7].map D.int) none (some 5) = [a0, a1, a2, a3, a4].map D.int := by simp [cutG, HT.sIx]
  rw [sSeq_s, show sSet 4 (eLc (iLst (eSl (eChk D.isLst (eVar 1)) oNone (oSome (eC (.int 5))))) (gF (gN 3)) cYes (eP dMod (aCons (eVar 3) (aCons (eVar 2) aNil)))) [L, R, .int mo, .non, .non, .non, .non, .non, .non, .non, .non, .non, .non] = some (.nx [L, R, .int mo, .non, Z, .non, .non, .non, .non, .non, .non, .non, .non]) by
    have hf : (some R).filter D.isLst = some (.lst ([a0, a1, a2, a3, a4, a5, a6, a7].map D.int)) := by rw [hR]; rfl
    simp only [sSet_s, eLc_s, iLst_s, eSl_s, eChk_s, eVar_s, oNone_s, oSome_s, eC_s, List.getElem?_cons_succ, List.getElem?_cons_zero, hf, Option.bind_some, dSl_l, asL_l, hcut, eZ]
    rw [hZ, hs]
    simp [hmod], seqO_nx]
  -- the tables
  have tabs : ∀ o : Nat, ∃ F : Nat → Nat → Nat → Int, ∀ k : Nat, k < 4 → f__law_table [.int (ns.getD (o + k) 0), .int (s k), .int (s (k + 1))] = some (.ret (encT (s k) (s (k + 1)) (F k))) ∧ ∀ i j, i < s k → j < s (k + 1) → Bn 40 (F k i j) := by
    intro o
    exact ⟨fun k => (table_ok (ns.getD (o + k) 0) (s k) (s (k + 1)) (by have := hs16 k; omega) (by have := hs16 (k + 1); omega)).choose, fun k _ => (table_ok (ns.getD (o + k) 0) (s k) (s (k + 1)) (by have := hs16 k; omega) (by have := hs16 (k + 1); omega)).choose_spec⟩
  obtain ⟨F, hF⟩ := tabs 1
  obtain ⟨G, hG⟩ := tabs 5
  have hat : ∀ k : Nat, k < 5 → dIdx [Z, .int k] = some (.int (s k)) := by
    intro k hk
    rw [hZ, dIdx_l, atI_n]
    match k, hk with
    | 0, _ => rfl
    | 1, _ => rfl
    | 2, _ => rfl
    | 3, _ => rfl
    | 4, _ => rfl
  have tcall : ∀ (o : Nat) (F : Nat → Nat → Nat → Int), (∀ k : Nat, k < 4 → f__law_table [.int (ns.getD (o + k) 0), .int (s k), .int (s (k + 1))] = some (.ret (encT (s k) (s (k + 1)) (F k))) ∧ ∀ i j, i < s k → j < s (k + 1) → Bn 40 (F k i j)) → ∀ (k : Nat) (x5 x6 : D), k < 4 → eCall f__law_table (aCons (eCall f__law_cell_at (aCons (eVar 0) (aCons (eP dAdd (aCons (eC (.int o)) (aCons (eVar 12) aNil))) aNil))) (aCons (eChk D.isFlat (eP dIdx (aCons (eVar 4) (aCons (eVar 12) aNil)))) (aCons (eChk D.isFlat (eP dIdx (aCons (eVar 4) (aCons (eP dAdd (aCons (eVar 12) (aCons (eC (.int 1)) aNil))) aNil)))) aNil))) ([L, R, .int mo, .non, Z, x5, x6, .non, .non, .non, .non, .non, .non].set 12 (.int k)) = some (encT (s k) (s (k + 1)) (F k)) := by
    intro o F h k x5 x6 hk
    have h1 := hat k (by omega)
    have h2 := hat (k + 1) (by omega)
    have h3 := cell (o + k)
    rw [Int.natCast_add] at h2 h3
    have h4 := (h k hk).1
    simp only [Int.ofNat_one, Int.natCast_one] at h2
    simp only [eCall_s, aCons_s, aNil_s, eP_s, eVar_s, eC_s, eChk_s, List.set_cons_succ, List.set_cons_zero, List.getElem?_cons_succ, List.getElem?_cons_zero, Option.bind_some, dI2_s, h1, h2, h3, asRet_s, Option.filter_some, fl_int, if_true, h4]
  have e4 : ∀ ρ : List D, iRng (aCons (eC (.int 4)) aNil) ρ = some ((List.range 4).map fun i : Nat => D.int i) := fun ρ => iR (n := 4) rfl (by decide)
  have e3 : ∀ ρ : List D, iRng (aCons (eC (.int 3)) aNil) ρ = some ((List.range 3).map fun i : Nat => D.int i) := fun ρ => iR (n := 3) rfl (by decide)
  have l4 := lcR (n := 4) (i := 12) (ρ := [L, R, .int mo, .non, Z, .non, .non, .non, .non, .non, .non, .non, .non]) _ fun k hk => tcall 1 F hF k .non .non hk
  obtain ⟨T, hT⟩ : ∃ T : D, T = .lst ((List.range 4).map fun k => encT (s k) (s (k + 1)) (F k)) := ⟨_, rfl⟩
  have l3 := lcR (n := 3) (i := 12) (ρ := [L, R, .int mo, .non, Z, T, .non, .non, .non, .non, .non, .non, .non]) _ fun k hk => tcall 5 G hG k T .non (by omega)
  obtain ⟨T2, hT2⟩ : ∃ T : D, T = .lst ((List.range 3).map fun k => encT (s k) (s (k + 1)) (G k)) := ⟨_, rfl⟩
  simp only [Int.cast_ofNat_Int, Int.natCast_one, Int.ofNat_one] at l3 l4
  rw [sSeq_s, sSet_s, eLc_s, e4, Option.bind_some, l4, Option.bind_some, Option.bind_some, seqO_nx]
  simp only [List.set_cons_succ, List.set_cons_zero]
  rw [← hT, sSeq_s, sSet_s, eLc_s, e3, Option.bind_some, l3, Option.bind_some, Option.bind_some, seqO_nx]
  simp only [List.set_cons_succ, List.set_cons_zero]
  rw [← hT2]
  obtain ⟨A, hA⟩ : ∃ A, A = encT (s 0) (s 1) (F 0) := ⟨_, rfl⟩
  obtain ⟨B, hB⟩ : ∃ A, A = encT (s 1) (s 2) (F 1) := ⟨_, rfl⟩
  obtain ⟨C, hC⟩ : ∃ A, A = encT (s 2) (s 3) (F 2) := ⟨_, rfl⟩
  obtain ⟨E, hE⟩ : ∃ A, A = encT (s 3) (s 4) (F 3) := ⟨_, rfl⟩
  have hT' : T = .lst [A, B, C, E] := by rw [hT, hA, hB, hC, hE]; rfl
  have i0 : dIdx [T2, .int 0] = some (encT (s 0) (s 1) (G 0)) := by rw [hT2]; rfl
  have i1 : dIdx [T2, .int 1] = some (encT (s 1) (s 2) (G 1)) := by rw [hT2]; rfl
  have z0 : dIdx [Z, .int 0] = some (.int (s 0)) := hat 0 (by decide)
  have z1 : dIdx [Z, .int 1] = some (.int (s 1)) := hat 1 (by decide)
  rw [sSeq_s, show sAsg (gL (gsCons (gN 7) (gsCons (gN 8) (gsCons (gN 9) (gsCons (gN 10) gsNil))))) (eVar 5) [L, R, .int mo, .non, Z, T, T2, .non, .non, .non, .non, .non, .non] = some (.nx [L, R, .int mo, .non, Z, T, T2, A, B, C, E, .non, .non]) by
    simp [hT'], seqO_nx]
  -- the number
  have c8 := cell 8
  simp only [Int.cast_ofNat_Int] at c8
  obtain ⟨x, hx⟩ : ∃ x : Int, x = ns.getD 8 0 % 1000000000000000000000000000000 - 500000000000000000000000000000 := ⟨_, rfl⟩
  have hxb : Bn 100 x := by
    have h1 := Int.emod_lt_of_pos (ns.getD 8 0) (b := 1000000000000000000000000000000) (by decide)
    have h2 := Int.emod_nonneg (ns.getD 8 0) (b := 1000000000000000000000000000000) (by decide)
    unfold Bn
    omega
  have h5 : dMul [.int 5, .int 100000000000000000000000000000] = some (.int 500000000000000000000000000000) :=
    (dMul_s (Bn.cmul (n := 3) (m := 97) (by unfold Bn; decide) (by unfold Bn; decide) (by decide))).trans (by rw [show (5 : Int) * 100000000000000000000000000000 = 500000000000000000000000000000 by decide])
  rw [sSeq_s, show sSet 3 (eP dSub (aCons (eP dMod (aCons (eCall f__law_cell_at (aCons (eVar 0) (aCons (eC (.int 8)) aNil))) (aCons (eC (.int 1000000000000000000000000000000)) aNil))) (aCons (eP dMul (aCons (eC (.int 5)) (aCons (eC (.int 100000000000000000000000000000)) aNil))) aNil))) [L, R, .int mo, .non, Z, T, T2, A, B, C, E, .non, .non] = some (.nx [L, R, .int mo, .int x, Z, T, T2, A, B, C, E, .non, .non]) by
    have hm : ∀ y : Int, dMod [.int y, .int 1000000000000000000000000000000] = some (.int (y % 1000000000000000000000000000000)) := fun y => dMod_s (by decide)
    simp only [sSet_s, eP_s, aCons_s, aNil_s, eCall_s, eVar_s, eC_s, List.getElem?_cons_zero, List.getElem?_cons_succ, Option.bind_some, c8, asRet_s, hm, h5, dI2_s, List.set_cons_succ, List.set_cons_zero, ← hx], seqO_nx]
  -- the products
  have k0 := hs16 0
  have k1 := hs16 1
  have k2 := hs16 2
  have k3 := hs16 3
  have k4 := hs16 4
  have bA := (hF 0 (by decide)).2
  have bB := (hF 1 (by decide)).2
  have bC := (hF 2 (by decide)).2
  have bE := (hF 3 (by decide)).2
  have bG := (hG 0 (by decide)).2
  have bH := (hG 1 (by decide)).2
  have w16 : ∀ i, s i ≤ 2 ^ 4 := hs16
  have bAB := mulE_bn bA bB (w16 1)
  have bBC := mulE_bn bB bC (w16 2)
  have bCE := mulE_bn bC bE (w16 3)
  have bABC := mulE_bn bAB bC (w16 2)
  have b0 : ∀ (h w : Nat) (i j : Nat), i < h → j < w → Bn 1 ((fun _ _ => 0 : Nat → Nat → Int) i j) := fun _ _ _ _ _ _ => Bn.zero
  have b1 : ∀ (h w : Nat) (i j : Nat), i < h → j < w → Bn 1 ((fun i j => if i = j then 1 else 0 : Nat → Nat → Int) i j) := by
    intro h w i j _ _
    dsimp only
    split
    · unfold Bn; decide
    · exact Bn.zero
  have pAB : f_product [A, B] = some (.ret (encT (s 0) (s 2) (mulE (F 0) (F 1) (s 1)))) := by rw [hA, hB]; exact product_ok _ _ _ _ _ bA bB (by decide) (by omega) (by omega) (by omega)
  rw [sSeq_s, show sSet 11 (eCall f_product (aCons (eVar 7) (aCons (eVar 8) aNil))) [L, R, .int mo, .int x, Z, T, T2, A, B, C, E, .non, .non] = some (.nx [L, R, .int mo, .int x, Z, T, T2, A, B, C, E, encT (s 0) (s 2) (mulE (F 0) (F 1) (s 1)), .non]) by
    simp [pAB], seqO_nx]
  have nonf : ∀ b : Sv, ∀ ρ : List D, ∀ c : List D → Option Bool, c ρ = some false → (sSeq (sIf c (sRet (eC (.bl false))) sNil) b) ρ = b ρ := by
    intro b ρ c h
    rw [sSeq_s, sIf_f h, sNil_s, seqO_nx]
  -- the rules
  rw [nonf _ _ _ (by
    have p1 := product_ok (s 0) (s 2) (s 3) _ _ bAB bC (by decide) (by omega) (by omega) (by omega)
    have p2 := product_ok (s 1) (s 2) (s 3) _ _ bB bC (by decide) (by omega) (by omega) (by omega)
    have p3 := product_ok (s 0) (s 1) (s 3) _ _ bA bBC (by decide) (by omega) (by omega) (by omega)
    simp only [tOf_s, eP_s, aCons_s, aNil_s, eCall_s, eVar_s, eC_s, List.getElem?_cons_zero, List.getElem?_cons_succ, Option.bind_some, asRet_s, hA, hB, hC, p1, p2, p3]
    rw [mulE_assoc, ne_enc fun _ _ _ _ => rfl]
    rfl)]
  rw [nonf _ _ _ (by
    have p1 := product_ok (s 0) (s 2) (s 3) _ _ bAB bC (by decide) (by omega) (by omega) (by omega)
    have p2 := product_ok (s 0) (s 3) (s 4) _ _ bABC bE (by decide) (by omega) (by omega) (by omega)
    have p3 := product_ok (s 2) (s 3) (s 4) _ _ bC bE (by decide) (by omega) (by omega) (by omega)
    have p4 := product_ok (s 0) (s 2) (s 4) _ _ bAB bCE (by decide) (by omega) (by omega) (by omega)
    simp only [tOf_s, eP_s, aCons_s, aNil_s, eCall_s, eVar_s, eC_s, List.getElem?_cons_zero, List.getElem?_cons_succ, Option.bind_some, asRet_s, hA, hB, hC, hE, p1, p2, p3, p4]
    rw [ne_enc fun _ _ _ _ => by rw [← mulE_assoc (a := mulE (F 0) (F 1) (s 1))]]
    rfl)]
  rw [nonf _ _ _ (by
    have bAG : ∀ i j, i < s 0 → j < s 1 → Bn 41 ((fun i j => F 0 i j + G 0 i j) i j) := fun i j hi hj => (bA i j hi hj).add (bG i j hi hj)
    have p1 := plus_ok (s 0) (s 1) (F 0) (G 0)
    have p2 := product_ok (s 0) (s 1) (s 2) _ _ bAG bB (by decide) (by omega) (by omega) (by omega)
    have p3 := product_ok (s 0) (s 1) (s 2) _ _ bG bB (by decide) (by omega) (by omega) (by omega)
    have p4 := plus_ok (s 0) (s 2) (mulE (F 0) (F 1) (s 1)) (mulE (G 0) (F 1) (s 1))
    simp only [tOf_s, eP_s, aCons_s, aNil_s, eCall_s, eVar_s, eC_s, List.getElem?_cons_zero, List.getElem?_cons_succ, Option.bind_some, asRet_s, hA, hB, i0, p1, p2, p3, p4]
    rw [mulE_addL, ne_enc fun _ _ _ _ => rfl]
    rfl)]
  rw [nonf _ _ _ (by
    have bBH : ∀ i j, i < s 1 → j < s 2 → Bn 41 ((fun i j => F 1 i j + G 1 i j) i j) := fun i j hi hj => (bB i j hi hj).add (bH i j hi hj)
    have p1 := plus_ok (s 1) (s 2) (F 1) (G 1)
    have p2 := product_ok (s 0) (s 1) (s 2) _ _ bA bBH (by decide) (by omega) (by omega) (by omega)
    have p3 := product_ok (s 0) (s 1) (s 2) _ _ bA bH (by decide) (by omega) (by omega) (by omega)
    have p4 := plus_ok (s 0) (s 2) (mulE (F 0) (F 1) (s 1)) (mulE (F 0) (G 1) (s 1))
    simp only [tOf_s, eP_s, aCons_s, aNil_s, eCall_s, eVar_s, eC_s, List.getElem?_cons_zero, List.getElem?_cons_succ, Option.bind_some, asRet_s, hA, hB, i1, p1, p2, p3, p4]
    rw [mulE_addR, ne_enc fun _ _ _ _ => rfl]
    rfl)]
  rw [nonf _ _ _ (by
    have p1 := unit_ok (s 0) (by omega)
    have p2 := unit_ok (s 1) (by omega)
    have p3 := product_ok (s 0) (s 0) (s 1) _ _ (b1 _ _) bA (by decide) (by omega) (by omega) (by omega)
    have p4 := product_ok (s 0) (s 1) (s 1) _ _ bA (b1 _ _) (by decide) (by omega) (by omega) (by omega)
    simp only [wOr_s, tOf_s, eP_s, aCons_s, aNil_s, eCall_s, eVar_s, eC_s, eChk_s, List.getElem?_cons_zero, List.getElem?_cons_succ, Option.bind_some, asRet_s, z0, z1, Option.filter_some, fl_int, if_true, hA, p1, p2, p3, p4]
    rw [ne_enc fun _ _ hi _ => mulE_unitL hi, ne_enc fun _ _ _ hj => mulE_unitR hj]
    rfl)]
  have en0 : dIdx [A, .int 0] = some (.int (s 0)) := by rw [hA]; exact enc0
  have en1 : dIdx [A, .int 1] = some (.int (s 1)) := by rw [hA]; exact enc1
  have q1 := nought_ok (s 0) (s 1) (by omega) (by omega)
  rw [nonf _ _ _ (by
    have p1 := nought_ok (s 1) 3 (by omega) (by decide)
    have p2 := nought_ok (s 0) 3 (by omega) (by decide)
    have p3 := product_ok (s 0) (s 1) 3 _ _ bA (b0 _ _) (by decide) (by omega) (by omega) (by omega)
    have p4 := plus_ok (s 0) (s 1) (F 0) (fun _ _ => 0)
    simp only [Int.cast_ofNat_Int] at p1 p2
    simp only [wOr_s, tOf_s, eP_s, aCons_s, aNil_s, eCall_s, eVar_s, eC_s, eChk_s, List.getElem?_cons_zero, List.getElem?_cons_succ, Option.bind_some, asRet_s, z0, z1, Option.filter_some, fl_int, if_true, en0, en1, q1, p1, p2]
    simp only [hA, p3, p4, asRet_s, Option.bind_some]
    rw [ne_enc fun _ _ _ _ => by rw [mulE_zeroR], ne_enc fun i j _ _ => Int.add_zero (F 0 i j)]
    rfl)]
  rw [nonf _ _ _ (by
    have p1 := many_ok x (s 0) (s 1) (F 0) hxb bA (by decide)
    have bx : ∀ i j, i < s 0 → j < s 1 → Bn 140 ((fun i j => x * F 0 i j) i j) := fun i j hi hj => hxb.mul (bA i j hi hj)
    have p2 := product_ok (s 0) (s 1) (s 2) _ _ bx bB (by decide) (by omega) (by omega) (by omega)
    have p3 := many_ok x (s 0) (s 2) _ hxb bAB (by decide)
    simp only [tOf_s, eP_s, aCons_s, aNil_s, eCall_s, eVar_s, eC_s, List.getElem?_cons_zero, List.getElem?_cons_succ, Option.bind_some, asRet_s, hA, hB, p1, p2, p3]
    rw [mulE_mulL, ne_enc fun _ _ _ _ => rfl]
    rfl)]
  rw [nonf _ _ _ (by
    have p1 := many_ok (-1) (s 0) (s 1) (F 0) (n := 1) (by unfold Bn; decide) bA (by decide)
    have p2 := plus_ok (s 0) (s 1) (F 0) (fun i j => -1 * F 0 i j)
    have p3 := turned_ok (s 0) (s 1) (F 0) (by omega) (by omega)
    have p4 := turned_ok (s 1) (s 0) (fun i j => F 0 j i) (by omega) (by omega)
    simp only [wOr_s, tOf_s, eP_s, aCons_s, aNil_s, eCall_s, eVar_s, eC_s, eChk_s, List.getElem?_cons_zero, List.getElem?_cons_succ, Option.bind_some, asRet_s, Option.filter_some, fl_int, if_true, en0, en1, q1, dI1_s]
    simp only [hA, p1, p2, p3, p4, asRet_s, Option.bind_some]
    rw [ne_enc fun i j _ _ => by show F 0 i j + -1 * F 0 i j = 0; omega, ne_enc fun i j _ _ => rfl]
    rfl)]
  rw [nonf _ _ _ (by
    have hx1 : Bn 101 (x + 1) := hxb.add (by unfold Bn; decide)
    have p1 := many_ok (x + 1) (s 0) (s 1) (F 0) hx1 bA (by decide)
    have p2 := many_ok x (s 0) (s 1) (F 0) hxb bA (by decide)
    have p3 := plus_ok (s 0) (s 1) (fun i j => x * F 0 i j) (F 0)
    simp only [tOf_s, eP_s, aCons_s, aNil_s, eCall_s, eVar_s, eC_s, List.getElem?_cons_zero, List.getElem?_cons_succ, Option.bind_some, asRet_s, dI2_s, hA, p1, p2, p3]
    rw [ne_enc fun i j _ _ => by show (x + 1) * F 0 i j = x * F 0 i j + F 0 i j; rw [Int.add_mul, Int.one_mul]]
    rfl)]
  have p1 := turned_ok (s 0) (s 2) (mulE (F 0) (F 1) (s 1)) (by omega) (by omega)
  have p2 := turned_ok (s 1) (s 2) (F 1) (by omega) (by omega)
  have p3 := turned_ok (s 0) (s 1) (F 0) (by omega) (by omega)
  have p4 := product_ok (s 2) (s 1) (s 0) (fun i j => F 1 j i) (fun i j => F 0 j i) (fun i j hi hj => bB j i hj hi) (fun i j hi hj => bA j i hj hi) (by decide) (by omega) (by omega) (by omega)
  have p5 := plus_ok (s 0) (s 1) (F 0) (G 0)
  have p6 := plus_ok (s 0) (s 1) (G 0) (F 0)
  simp only [sRet_s, vAnd_s, tOf_s, eP_s, aCons_s, aNil_s, eCall_s, eVar_s, eC_s, List.getElem?_cons_zero, List.getElem?_cons_succ, Option.bind_some, asRet_s, hA, hB, i0, p1, p2, p3, p4, p5, p6]
  rw [mulE_turn, eq_enc fun _ _ _ _ => rfl, eq_enc fun i j _ _ => Int.add_comm _ _]
  rfl
end K03

/-! ## K03h -/
namespace K03
open PySem PySem.Spec PyProof.Rows L2 VV VP
def dd_nought : He.DefD := ⟨("nought", none), "nought", "nought", defArgs s_nought, defBody s_nought, defScope s_nought, [], []⟩
def dd_unit : He.DefD := ⟨("unit", none), "unit", "unit", defArgs s_unit, defBody s_unit, defScope s_unit, [], []⟩
def dd_turned : He.DefD := ⟨("turned", none), "turned", "turned", defArgs s_turned, defBody s_turned, defScope s_turned, [], []⟩
def dd_plus : He.DefD := ⟨("plus", none), "plus", "plus", defArgs s_plus, defBody s_plus, defScope s_plus, [], []⟩
def dd_many_times : He.DefD := ⟨("many_times", none), "many_times", "many_times", defArgs s_many_times, defBody s_many_times, defScope s_many_times, [], []⟩
def dd_product : He.DefD := ⟨("product", none), "product", "product", defArgs s_product, defBody s_product, defScope s_product, [], []⟩
def dd__law_cell_at : He.DefD := ⟨("_law_cell_at", none), "_law_cell_at", "_law_cell_at", defArgs s__law_cell_at, defBody s__law_cell_at, defScope s__law_cell_at, [], []⟩
def dd__law_row : He.DefD := ⟨("_law_row", none), "_law_row", "_law_row", defArgs s__law_row, defBody s__law_row, defScope s__law_row, [], []⟩
def dd__law_entry : He.DefD := ⟨("_law_entry", none), "_law_entry", "_law_entry", defArgs s__law_entry, defBody s__law_entry, defScope s__law_entry, [], []⟩
def dd__law_table : He.DefD := ⟨("_law_table", none), "_law_table", "_law_table", defArgs s__law_table, defBody s__law_table, defScope s__law_table, [], []⟩
def dd_law : He.DefD := ⟨("law", none), "law", "law", defArgs s_law, defBody s_law, defScope s_law, [], []⟩
def fnD : List He.DefD := [dd_nought, dd_unit, dd_turned, dd_plus, dd_many_times, dd_product, dd__law_cell_at, dd__law_row, dd__law_entry, dd__law_table, dd_law]
def faD : List He.Fa := [.glo "nought", .glo "unit", .glo "turned", .glo "plus", .glo "many_times", .glo "product", .glo "_law_cell_at", .glo "_law_row", .glo "_law_entry", .glo "_law_table", .glo "law", .free "int", .free "len", .free "range", .free "zip"]
abbrev RR : PySem.W.OpenRow := PySem.W.OpenLaw.row PySem.Challenge.rw_loopcube_k03_rules_of_products
abbrev hk : PySem.W.Hook := He.hookD 4 faD fnD
def ob (s : PySem.W.SharedT) : He.AlD := He.obsDG 4 faD fnD (HandSHeadRun.getT s)
theorem ob_eq (s : PySem.W.SharedT) : ob s = hk.obs s.abs := He.obsDG_eq (HandSHeadRun.getT_eq s)
theorem run (w : World) : HandSHeadRun.RunEq RR (PySem.W.view RR.prog [15]) hk ob 4000 ["nought", "unit", "turned", "plus", "many_times", "product", "_law_cell_at", "_law_row", "_law_entry", "_law_table", "CordError", "NoTable", "__name__"] w := by
  intro os
  kernel_rfl
theorem facts {P : Program} {w : World} {K : PySem.W.Frag} {h : Heap} {mg : Str → Option Value} {f : Addr} (X : K.In h) (G : h.Ns mainGlobals mg) (hfa : mg ("law" : Str) = some (.ref f)) (c : He.SaysD faD fnD K) :
    ∃ fd : FuncData, (∀ (s : Shared) (v : Value), BindsTo s fd ⟨[v], []⟩ [("_law_script", v)]) ∧ ∀ base : Heap, K.In base → base.Ns mainGlobals mg → FnOk P w K mg base CX0 3 f fd ["_law_script"] (sp0 ⟨mg, K⟩ f_law 1 .flat) := by
  obtain ⟨fd_nought, F_nought⟩ := c.def_ 0 (d := dd_nought) rfl
  obtain ⟨fd_unit, F_unit⟩ := c.def_ 1 (d := dd_unit) rfl
  obtain ⟨fd_turned, F_turned⟩ := c.def_ 2 (d := dd_turned) rfl
  obtain ⟨fd_plus, F_plus⟩ := c.def_ 3 (d := dd_plus) rfl
  obtain ⟨fd_many_times, F_many_times⟩ := c.def_ 4 (d := dd_many_times) rfl
  obtain ⟨fd_product, F_product⟩ := c.def_ 5 (d := dd_product) rfl
  obtain ⟨fd__law_cell_at, F__law_cell_at⟩ := c.def_ 6 (d := dd__law_cell_at) rfl
  obtain ⟨fd__law_row, F__law_row⟩ := c.def_ 7 (d := dd__law_row) rfl
  obtain ⟨fd__law_entry, F__law_entry⟩ := c.def_ 8 (d := dd__law_entry) rfl
  obtain ⟨fd__law_table, F__law_table⟩ := c.def_ 9 (d := dd__law_table) rfl
  obtain ⟨fd_law, F_law⟩ := c.def_ 10 (d := dd_law) rfl
  have b_int : mg "int" = none := He.free_ok X G (c.fact 11 (f := .free "int") rfl)
  have b_len : mg "len" = none := He.free_ok X G (c.fact 12 (f := .free "len") rfl)
  have b_range : mg "range" = none := He.free_ok X G (c.fact 13 (f := .free "range") rfl)
  have b_zip : mg "zip" = none := He.free_ok X G (c.fact 14 (f := .free "zip") rfl)
  have e := hfa.symm.trans (He.glo_ok X G (c.fact 10 (f := .glo "law") rfl))
  cases e
  have bb := FunD.bindsA (ps := ["_law_script"]) F_law fun _ _ _ _ _ _ us hl => match us, hl with | [_], _ => rfl
  refine ⟨fd_law, fun s v => bb s [v] rfl, fun base _ _ => ?_⟩
  have c_nought : Cal P w K mg base "nought" 1 ["high", "wide"] f_nought .fresh := cal_nought F_nought (He.glo_ok X G (c.fact 0 (f := .glo "nought") rfl)) b_range
  have c_unit : Cal P w K mg base "unit" 1 ["many"] f_unit .fresh := cal_unit F_unit (He.glo_ok X G (c.fact 1 (f := .glo "unit") rfl)) b_int b_range
  have c_turned : Cal P w K mg base "turned" 1 ["one"] f_turned .fresh := cal_turned F_turned (He.glo_ok X G (c.fact 2 (f := .glo "turned") rfl)) b_range
  have c_plus : Cal P w K mg base "plus" 1 ["one", "other"] f_plus .fresh := cal_plus F_plus (He.glo_ok X G (c.fact 3 (f := .glo "plus") rfl)) b_zip
  have c_many_times : Cal P w K mg base "many_times" 1 ["number", "one"] f_many_times .fresh := cal_many_times F_many_times (He.glo_ok X G (c.fact 4 (f := .glo "many_times") rfl))
  have c_product : Cal P w K mg base "product" 1 ["one", "other"] f_product .fresh := cal_product F_product (He.glo_ok X G (c.fact 5 (f := .glo "product") rfl)) b_zip
  have c__law_cell_at : Cal P w K mg base "_law_cell_at" 1 ["_law_script", "_law_k"] f__law_cell_at .flat := cal__law_cell_at F__law_cell_at (He.glo_ok X G (c.fact 6 (f := .glo "_law_cell_at") rfl)) b_len
  have c__law_row : Cal P w K mg base "_law_row" 1 ["_law_cell", "_law_many", "_law_base"] f__law_row .fresh := cal__law_row F__law_row (He.glo_ok X G (c.fact 7 (f := .glo "_law_row") rfl)) b_range
  have c__law_entry : Cal P w K mg base "_law_entry" 1 ["_law_digit"] f__law_entry .flat := cal__law_entry F__law_entry (He.glo_ok X G (c.fact 8 (f := .glo "_law_entry") rfl))
  have c__law_table : Cal P w K mg base "_law_table" 2 ["_law_cell", "_law_high", "_law_wide"] f__law_table .fresh := cal__law_table F__law_table (He.glo_ok X G (c.fact 9 (f := .glo "_law_table") rfl)) b_range c__law_row c__law_entry
  exact ok_law F_law b_int b_range c__law_row c__law_cell_at c__law_table c_product c_plus c_unit c_nought c_many_times c_turned
end K03
open PySem PySem.W PySem.Calls PyProof.Rows
set_option maxRecDepth 100000 in
set_option maxHeartbeats 0 in
theorem PySem.Challenge.cw_loopcube_k03_rules_of_products_holds : PySem.Challenge.rw_loopcube_k03_rules_of_products.Holds := by
  w_on; o_law
  refine HandSHeadRun.head_any (r := OpenLaw.row PySem.Challenge.rw_loopcube_k03_rules_of_products) (q := view (OpenLaw.row PySem.Challenge.rw_loopcube_k03_rules_of_products).prog [15]) (H := K03.hk) (ob := K03.ob) (M := 4000) (loose := ["nought", "unit", "turned", "plus", "many_times", "product", "_law_cell_at", "_law_row", "_law_entry", "_law_table", "CordError", "NoTable", "__name__"]) (d := HandSHeadRun.topDef (OpenLaw.row PySem.Challenge.rw_loopcube_k03_rules_of_products).prog 15) (kwd := []) K03.ob_eq
    (by kernel_rfl) (fun s => by kernel_rfl) K03.run (by kernel_rfl) (by kernel_rfl) (by kernel_rfl) (by rfl) (by first | assumption | decide +kernel) (by decide +kernel) ⟨rfl, rfl, rfl, rfl, rfl, by decide +kernel⟩ ?hw ?hc
  case hw => w_witness2
  case hc =>
    refine VV.walk_V (l := PySem.Challenge.rw_loopcube_k03_rules_of_products) (n := 63) (k := 3) (x := "_law_script") (sem := K03.f_law) (R := .flat) rfl (by decide) (by kernel_rfl) ⟨rfl, by decide, by decide⟩ K03.law_true ?F
    intro w mg fa h Y G hmg0
    obtain ⟨K, KX, c⟩ := Y
    have hmg : mg ("law" : PySem.Str) = some (.ref fa) := by
      have e : (HandSHeadRun.topDef (OpenLaw.row PySem.Challenge.rw_loopcube_k03_rules_of_products).prog 15).name = ("law" : PySem.Str) := by kernel_rfl
      rw [← e]
      exact hmg0
    obtain ⟨fd, hb, hF⟩ := K03.facts (P := (PySem.Challenge.rw_loopcube_k03_rules_of_products).prog) (w := w) KX G hmg c
    exact ⟨K, fd, KX, hb, hF⟩
