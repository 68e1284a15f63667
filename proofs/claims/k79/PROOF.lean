import PyProof.Rows.All
import Wide.All
import OpenK.AllK
import Wide.FinOn
import HandS.ForMost
import HandS.ForSpec
import HandS.Wide
import HandS.Property
import HandS.Zip
import HandS.IsInst
import HandS.ExcInit
import HandS.ExcField
import HandS.TryMany
import HandS.Flow
import HandS.Defaults
import HandS.HeadEnd
import HandS.HeadHook2
import HandS.TupAny
import HandS.TupLen
import HandS.CallSlots
import KE.DatumOrd
import KE.GoesComp
import HandS.ClsMeth
import HandS.Steps
import HandS.Small
import KE.KDictDisplayH
import HandS.ExcIs
import PySem.Challenge.RW_neverworsethan_k79_rules_that_fit_runs
import Lean
import KE.KStateDown
import HandS.Head0
import HandS.Head1
import HandS.Head2

section
set_option Elab.async false
set_option linter.all false
set_option maxRecDepth 100000
/-! NWa: data D, how a value stands for a datum (Rp), what is owned (RpO), states. -/
namespace NW
open PySem PySem.Spec PyProof.Rows L2

/-- data: what a value means, without the heap -/
inductive D where
  | non | bl (b : Bool) | int (i : Int) | str (x : Str)
  | tup (ds : List D) | lst (ds : List D)
  | obj (c : Nat) (ds : List D)
  | dct (ks : List D) (ds : List D)
  | scr (ns : List Int)
  | xc (c : Nat) (fs : List D)

/-- the program's own classes: where they stand, their fields in order -/
structure Gb where
  cls : Nat → Addr
  names : Nat → List Str
  /-- the exception that is held: where it stands, its dict, its class -/
  exc : Addr → Option Addr → Nat → Prop := fun _ _ _ => False

def TupK (K : PySem.W.Frag) (a : Addr) (xs : List V) : Prop :=
  ∃ (o : Obj) (its : Array Value) (n : Nat), K.lookup a = some o ∧ o.cls = .type "tuple" ∧ o.data = .seq its n ∧ its.size ≤ sizeLine ∧ Vals xs its.toList
def LstK (K : PySem.W.Frag) (a : Addr) (xs : List V) : Prop :=
  ∃ (o : Obj) (its : Array Value) (n : Nat), K.lookup a = some o ∧ o.cls = .type "list" ∧ o.dict = none ∧ o.data = .seq its n ∧ its.size ≤ sizeLine ∧ Vals xs its.toList

abbrev Fr := Addr → Prop
/-- a dict's key as a datum: a tuple of ints and texts -/
def key1 : Key → D
  | .inl i => .int i
  | .inr x => .str x
def keyD (k : List Key) : D := .tup (k.map key1)
/-- a dict with tuple keys stands at a -/
def DctAt (H : Hp) (a : Addr) (ks : List D) (vs : List V) : Prop := ∃ kk : List (List Key), ks = kk.map keyD ∧ kk.length = vs.length ∧ H a = some (.dT (kk.zip vs))
theorem DctAt.keep {H H' : Hp} {a : Addr} {ks : List D} {vs : List V} (h : DctAt H a ks vs) (k : ∀ o, H a = some o → H' a = some o) : DctAt H' a ks vs := by
  obtain ⟨kk, e1, e2, e3⟩ := h
  exact ⟨kk, e1, e2, k _ e3⟩
theorem DctAt.some_ {H : Hp} {a : Addr} {ks : List D} {vs : List V} (h : DctAt H a ks vs) : ∃ o, H a = some o := by
  obtain ⟨kk, e1, e2, e3⟩ := h
  exact ⟨_, e3⟩

section
variable (K : PySem.W.Frag) (G : Gb) (F : Fr) (H : Hp)
mutual
/-- the value v stands for the datum, everything of it frozen (in F) -/
def Rp : D → V → Prop
  | .non, v => v = .non
  | .bl b, v => v = .bl b
  | .int i, v => v = .int i
  | .str x, v => v = .str x
  | .tup ds, v => ∃ a vs, v = .ref a ∧ (F a ∧ H a = some (.tup vs)) ∧ Rps ds vs
  | .lst ds, v => ∃ a vs, v = .ref a ∧ (F a ∧ H a = some (.lst vs)) ∧ Rps ds vs
  | .obj c ds, v => ∃ a vs, v = .ref a ∧ (F a ∧ ∃ dx, H a = some (.ins (G.cls c) dx ((G.names c).zip vs))) ∧ vs.length ≤ (G.names c).length ∧ Rps ds vs
  | .dct ks ds, v => ∃ a vs, v = .ref a ∧ (F a ∧ DctAt H a ks vs) ∧ Rps ds vs
  | .scr ns, v => ∃ a, v = .ref a ∧ ((F a ∧ Rd H a (.lst (ns.map V.int))) ∨ LstK K a (ns.map V.int))
  | .xc c fs, v => ∃ a dd ws, v = .ref a ∧ G.exc a dd c ∧ ((fs = [] ∧ dd = none) ∨ ∃ b kvs, dd = some b ∧ fs ≠ [] ∧ (F b ∧ H b = some (.xd kvs)) ∧ ∀ (k : Nat) (x : Str) (w : V), (G.names c)[k]? = some x → ws[k]? = some w → kvs.lookup x = some w) ∧ Rps fs ws
def Rps : List D → List V → Prop
  | [], vs => vs = []
  | d :: ds, vs => ∃ v r, vs = v :: r ∧ Rp d v ∧ Rps ds r
end
end

/-- ownership: nothing known; frozen; the object itself is ours, its parts as told -/
inductive Ow where
  | na | fz | own (o : Ow)
  deriving DecidableEq

def RpL (R : D → V → List Addr → Prop) : List D → List V → List Addr → Prop
  | [], vs, A => vs = [] ∧ A = []
  | d :: ds, vs, A => ∃ v r A1 A2, vs = v :: r ∧ A = A1 ++ A2 ∧ R d v A1 ∧ RpL R ds r A2

/-- the value v stands for the datum, the objects at A are owned -/
def RpO (K : PySem.W.Frag) (G : Gb) (F : Fr) (H : Hp) : Ow → D → V → List Addr → Prop
  | .na, _, _, _ => False
  | .fz, d, v, A => A = [] ∧ Rp K G F H d v
  | .own o, .lst ds, v, A => ∃ p vs A', v = .ref p ∧ A = p :: A' ∧ H p = some (.lst vs) ∧ RpL (RpO K G F H o) ds vs A'
  | .own o, .obj c ds, v, A => ∃ p vs A', v = .ref p ∧ A = p :: A' ∧ (∃ dx, H p = some (.ins (G.cls c) dx ((G.names c).zip vs))) ∧ vs.length ≤ (G.names c).length ∧ RpL (RpO K G F H o) ds vs A'
  | .own o, .dct ks ds, v, A => ∃ p vs A', v = .ref p ∧ A = p :: A' ∧ DctAt H p ks vs ∧ RpL (RpO K G F H o) ds vs A'
  | .own _, d, v, A => A = [] ∧ Rp K G F H d v

section
variable {K : PySem.W.Frag} {G : Gb} {F F' : Fr} {H H' : Hp}

theorem Rps.len : ∀ {ds : List D} {vs : List V}, Rps K G F H ds vs → vs.length = ds.length
  | [], _, h => by unfold Rps at h; subst h; rfl
  | d :: ds, _, h => by
    unfold Rps at h
    obtain ⟨v, r, rfl, _, h2⟩ := h
    simp [Rps.len h2]
theorem rps_nil : Rps K G F H [] [] := by unfold Rps; rfl
theorem rps_cons {d : D} {v : V} {ds : List D} {vs : List V} (h : Rp K G F H d v) (t : Rps K G F H ds vs) : Rps K G F H (d :: ds) (v :: vs) := by
  unfold Rps; exact ⟨v, vs, rfl, h, t⟩
theorem Rps.get : ∀ {ds : List D} {vs : List V} {i : Nat} {d : D}, Rps K G F H ds vs → ds[i]? = some d → ∃ v, vs[i]? = some v ∧ Rp K G F H d v
  | [], _, _, _, _, e => by simp at e
  | d :: ds, _, 0, _, h, e => by
    unfold Rps at h
    obtain ⟨v, r, rfl, h1, h2⟩ := h
    simp at e; subst e
    exact ⟨v, by simp, h1⟩
  | d :: ds, _, i + 1, _, h, e => by
    unfold Rps at h
    obtain ⟨v, r, rfl, h1, h2⟩ := h
    obtain ⟨w, q1, q2⟩ := Rps.get (i := i) h2 (by simpa using e)
    exact ⟨w, by simpa using q1, q2⟩
theorem Rps.getV {ds : List D} {vs : List V} {i : Nat} {v : V} (h : Rps K G F H ds vs) (e : vs[i]? = some v) : ∃ d, ds[i]? = some d ∧ Rp K G F H d v := by
  have hl := h.len
  have hi : i < vs.length := by
    by_cases q : i < vs.length
    · exact q
    · rw [List.getElem?_eq_none (Nat.le_of_not_lt q)] at e; cases e
  have hd : i < ds.length := by omega
  obtain ⟨w, q1, q2⟩ := h.get (i := i) (d := ds[i]) (by simp [hd])
  rw [e] at q1; cases q1
  exact ⟨ds[i], by simp [hd], q2⟩
theorem Rps.append : ∀ {ds es : List D} {vs ws : List V}, Rps K G F H ds vs → Rps K G F H es ws → Rps K G F H (ds ++ es) (vs ++ ws)
  | [], _, _, _, h, k => by unfold Rps at h; subst h; exact k
  | d :: ds, _, _, _, h, k => by
    unfold Rps at h
    obtain ⟨v, r, rfl, h1, h2⟩ := h
    exact rps_cons h1 (Rps.append h2 k)
theorem Rps.set : ∀ {ds : List D} {vs : List V} (i : Nat) {d : D} {v : V}, Rps K G F H ds vs → Rp K G F H d v → Rps K G F H (ds.set i d) (vs.set i v)
  | [], _, _, _, _, h, _ => by unfold Rps at h; subst h; exact rps_nil
  | _ :: ds, _, 0, _, _, h, k => by
    unfold Rps at h
    obtain ⟨v, r, rfl, h1, h2⟩ := h
    exact rps_cons k h2
  | _ :: ds, _, i + 1, _, _, h, k => by
    unfold Rps at h
    obtain ⟨v, r, rfl, h1, h2⟩ := h
    exact rps_cons h1 (Rps.set i h2 k)
theorem Rps.take : ∀ {ds : List D} {vs : List V} (i : Nat), Rps K G F H ds vs → Rps K G F H (ds.take i) (vs.take i)
  | _, _, 0, _ => rps_nil
  | [], _, i + 1, h => by unfold Rps at h; subst h; exact rps_nil
  | _ :: ds, _, i + 1, h => by
    unfold Rps at h
    obtain ⟨v, r, rfl, h1, h2⟩ := h
    exact rps_cons h1 (Rps.take i h2)
theorem Rps.drop : ∀ {ds : List D} {vs : List V} (i : Nat), Rps K G F H ds vs → Rps K G F H (ds.drop i) (vs.drop i)
  | _, _, 0, h => h
  | [], _, i + 1, h => by unfold Rps at h; subst h; exact rps_nil
  | _ :: ds, _, i + 1, h => by
    unfold Rps at h
    obtain ⟨v, r, rfl, h1, h2⟩ := h
    exact Rps.drop i h2
theorem Rps.rev : ∀ {ds : List D} {vs : List V}, Rps K G F H ds vs → Rps K G F H ds.reverse vs.reverse
  | [], _, h => by unfold Rps at h; subst h; exact rps_nil
  | _ :: ds, _, h => by
    unfold Rps at h
    obtain ⟨v, r, rfl, h1, h2⟩ := h
    rw [List.reverse_cons, List.reverse_cons]
    exact (Rps.rev h2).append (rps_cons h1 rps_nil)

mutual
theorem Rp.mono (hF : ∀ a, F a → F' a) (hH : ∀ a o, F a → H a = some o → H' a = some o) : ∀ (d : D) {v : V}, Rp K G F H d v → Rp K G F' H' d v
  | .non, _, h => by unfold Rp at h ⊢; exact h
  | .bl _, _, h => by unfold Rp at h ⊢; exact h
  | .int _, _, h => by unfold Rp at h ⊢; exact h
  | .str _, _, h => by unfold Rp at h ⊢; exact h
  | .tup ds, _, h => by
    unfold Rp at h ⊢
    obtain ⟨a, vs, e, q, h2⟩ := h
    exact ⟨a, vs, e, ⟨hF a q.1, hH a _ q.1 q.2⟩, Rps.mono hF hH ds h2⟩
  | .lst ds, _, h => by
    unfold Rp at h ⊢
    obtain ⟨a, vs, e, q, h2⟩ := h
    exact ⟨a, vs, e, ⟨hF a q.1, hH a _ q.1 q.2⟩, Rps.mono hF hH ds h2⟩
  | .obj c ds, _, h => by
    unfold Rp at h ⊢
    obtain ⟨a, vs, e, ⟨q, dx, q2⟩, hl, h2⟩ := h
    exact ⟨a, vs, e, ⟨hF a q, dx, hH a _ q q2⟩, hl, Rps.mono hF hH ds h2⟩
  | .dct ks ds, _, h => by
    unfold Rp at h ⊢
    obtain ⟨a, vs, e, q, h2⟩ := h
    exact ⟨a, vs, e, ⟨hF a q.1, q.2.keep fun o ho => hH a o q.1 ho⟩, Rps.mono hF hH ds h2⟩
  | .scr ns, _, h => by
    unfold Rp at h ⊢
    obtain ⟨a, e, h1⟩ := h
    refine ⟨a, e, h1.imp (fun q => ⟨hF a q.1, q.2.imp (hH a _ q.1) ?_⟩) id⟩
    rintro ⟨o, ho⟩
    exact ⟨o, hH a _ q.1 ho⟩
  | .xc c fs, _, h => by
    unfold Rp at h ⊢
    obtain ⟨a, dd, ws, e, g, q, h2⟩ := h
    refine ⟨a, dd, ws, e, g, q.imp id ?_, Rps.mono hF hH fs h2⟩
    rintro ⟨b, kvs, e1, ne, ⟨e2, e3⟩, e4⟩
    exact ⟨b, kvs, e1, ne, ⟨hF b e2, hH b _ e2 e3⟩, e4⟩
theorem Rps.mono (hF : ∀ a, F a → F' a) (hH : ∀ a o, F a → H a = some o → H' a = some o) : ∀ (ds : List D) {vs : List V}, Rps K G F H ds vs → Rps K G F' H' ds vs
  | [], _, h => by unfold Rps at h ⊢; exact h
  | d :: ds, _, h => by
    unfold Rps at h ⊢
    obtain ⟨v, r, e, h1, h2⟩ := h
    exact ⟨v, r, e, Rp.mono hF hH d h1, Rps.mono hF hH ds h2⟩
end

theorem RpL.len {R : D → V → List Addr → Prop} : ∀ {ds : List D} {vs : List V} {A : List Addr}, RpL R ds vs A → vs.length = ds.length
  | [], _, _, h => by unfold RpL at h; rw [h.1]; rfl
  | d :: ds, _, _, h => by
    unfold RpL at h
    obtain ⟨v, r, A1, A2, rfl, _, _, h2⟩ := h
    simp [RpL.len h2]
theorem RpL.imp {R R' : D → V → List Addr → Prop} : ∀ {ds : List D} {vs : List V} {A : List Addr}, (∀ d v B, (∀ a ∈ B, a ∈ A) → R d v B → R' d v B) → RpL R ds vs A → RpL R' ds vs A
  | [], _, _, _, h => by unfold RpL at h ⊢; exact h
  | d :: ds, _, A, k, h => by
    unfold RpL at h ⊢
    obtain ⟨v, r, A1, A2, e1, e2, h1, h2⟩ := h
    subst e2
    exact ⟨v, r, A1, A2, e1, rfl, k d v A1 (fun a ha => List.mem_append_left _ ha) h1, RpL.imp (fun d v B hB q => k d v B (fun a ha => List.mem_append_right _ (hB a ha)) q) h2⟩
theorem rpl_fz : ∀ {ds : List D} {vs : List V} {A : List Addr}, RpL (RpO K G F H .fz) ds vs A ↔ A = [] ∧ Rps K G F H ds vs
  | [], vs, A => by unfold RpL Rps; exact ⟨fun ⟨a, b⟩ => ⟨b, a⟩, fun ⟨a, b⟩ => ⟨b, a⟩⟩
  | d :: ds, vs, A => by
    unfold RpL Rps
    constructor
    · rintro ⟨v, r, A1, A2, rfl, rfl, h1, h2⟩
      unfold RpO at h1
      obtain ⟨e1, h1⟩ := h1
      obtain ⟨e2, h3⟩ := rpl_fz.mp h2
      rw [e1, e2]
      exact ⟨rfl, v, r, rfl, h1, h3⟩
    · rintro ⟨rfl, v, r, rfl, h1, h2⟩
      exact ⟨v, r, [], [], rfl, rfl, by unfold RpO; exact ⟨rfl, h1⟩, rpl_fz.mpr ⟨rfl, h2⟩⟩
theorem RpL.mem {R : D → V → List Addr → Prop} {P : Addr → Prop} (k : ∀ d v B, R d v B → ∀ a ∈ B, P a) : ∀ {ds : List D} {vs : List V} {A : List Addr}, RpL R ds vs A → ∀ a ∈ A, P a
  | [], _, _, h, a, ha => by unfold RpL at h; rw [h.2] at ha; cases ha
  | d :: ds, _, _, h, a, ha => by
    unfold RpL at h
    obtain ⟨v, r, A1, A2, _, rfl, h1, h2⟩ := h
    rcases List.mem_append.mp ha with q | q
    · exact k d v A1 h1 a q
    · exact RpL.mem k h2 a q

theorem RpO.mono (hF : ∀ a, F a → F' a) : ∀ (o : Ow) {d : D} {v : V} {A : List Addr}, (∀ a u, (F a ∨ a ∈ A) → H a = some u → H' a = some u) → RpO K G F H o d v A → RpO K G F' H' o d v A
  | .na, _, _, _, _, h => by unfold RpO at h; exact h.elim
  | .fz, d, _, _, k, h => by
    unfold RpO at h ⊢
    exact ⟨h.1, Rp.mono hF (fun a o ha e => k a o (.inl ha) e) d h.2⟩
  | .own o, d, v, A, k, h => by
    cases d with
    | lst ds =>
      unfold RpO at h ⊢
      obtain ⟨p, vs, A', e, rfl, hp, hl⟩ := h
      exact ⟨p, vs, A', e, rfl, k p _ (.inr List.mem_cons_self) hp, hl.imp fun d v B hB q => RpO.mono hF o (fun a u ha e => k a u (ha.imp id fun z => List.mem_cons_of_mem _ (hB a z)) e) q⟩
    | obj c ds =>
      unfold RpO at h ⊢
      obtain ⟨p, vs, A', e, rfl, ⟨dx, hp⟩, hn, hl⟩ := h
      exact ⟨p, vs, A', e, rfl, ⟨dx, k p _ (.inr List.mem_cons_self) hp⟩, hn, hl.imp fun d v B hB q => RpO.mono hF o (fun a u ha e => k a u (ha.imp id fun z => List.mem_cons_of_mem _ (hB a z)) e) q⟩
    | dct ks ds =>
      unfold RpO at h ⊢
      obtain ⟨p, vs, A', e, rfl, hp, hl⟩ := h
      exact ⟨p, vs, A', e, rfl, hp.keep fun o ho => k p o (.inr List.mem_cons_self) ho, hl.imp fun d v B hB q => RpO.mono hF o (fun a u ha e => k a u (ha.imp id fun z => List.mem_cons_of_mem _ (hB a z)) e) q⟩
    | _ =>
      unfold RpO at h ⊢
      exact ⟨h.1, Rp.mono hF (fun a o ha e => k a o (.inl ha) e) _ h.2⟩
/-- an owned object stands somewhere -/
theorem RpO.some_ : ∀ (o : Ow) {d : D} {v : V} {A : List Addr}, RpO K G F H o d v A → ∀ a ∈ A, ∃ u, H a = some u
  | .na, _, _, _, h => by unfold RpO at h; exact h.elim
  | .fz, _, _, _, h => by unfold RpO at h; rw [h.1]; intro a ha; cases ha
  | .own o, d, v, A, h => by
    cases d with
    | lst ds =>
      unfold RpO at h
      obtain ⟨p, vs, A', e, rfl, hp, hl⟩ := h
      intro a ha
      rcases List.mem_cons.mp ha with rfl | ha
      · exact ⟨_, hp⟩
      · exact hl.mem (P := fun a => ∃ u, H a = some u) (fun d v B q => RpO.some_ o q) a ha
    | obj c ds =>
      unfold RpO at h
      obtain ⟨p, vs, A', e, rfl, ⟨dx, hp⟩, hn, hl⟩ := h
      intro a ha
      rcases List.mem_cons.mp ha with rfl | ha
      · exact ⟨_, hp⟩
      · exact hl.mem (P := fun a => ∃ u, H a = some u) (fun d v B q => RpO.some_ o q) a ha
    | dct ks ds =>
      unfold RpO at h
      obtain ⟨p, vs, A', e, rfl, hp, hl⟩ := h
      intro a ha
      rcases List.mem_cons.mp ha with rfl | ha
      · exact hp.some_
      · exact hl.mem (P := fun a => ∃ u, H a = some u) (fun d v B q => RpO.some_ o q) a ha
    | _ =>
      unfold RpO at h
      rw [h.1]; intro a ha; cases ha
/-- what is owned is frozen -/
theorem RpL.rps {R : D → V → List Addr → Prop} : ∀ {ds : List D} {vs : List V} {A : List Addr}, (∀ d v B, (∀ a ∈ B, a ∈ A) → R d v B → Rp K G F' H d v) → RpL R ds vs A → Rps K G F' H ds vs
  | [], _, _, _, h => by unfold RpL at h; rw [h.1]; exact rps_nil
  | d :: ds, _, A, k, h => by
    unfold RpL at h
    obtain ⟨v, r, A1, A2, rfl, rfl, h1, h2⟩ := h
    exact rps_cons (k d v A1 (fun a ha => List.mem_append_left _ ha) h1) (RpL.rps (fun d v B hB q => k d v B (fun a ha => List.mem_append_right _ (hB a ha)) q) h2)
theorem RpO.freeze (hF : ∀ a, F a → F' a) : ∀ (o : Ow) {d : D} {v : V} {A : List Addr}, (∀ a ∈ A, F' a) → RpO K G F H o d v A → Rp K G F' H d v
  | .na, _, _, _, _, h => by unfold RpO at h; exact h.elim
  | .fz, d, _, _, k, h => by
    unfold RpO at h
    exact Rp.mono hF (fun _ _ _ e => e) d h.2
  | .own o, d, v, A, k, h => by
    cases d with
    | lst ds =>
      unfold RpO at h; unfold Rp
      obtain ⟨p, vs, A', e, rfl, hp, hl⟩ := h
      exact ⟨p, vs, e, ⟨k p List.mem_cons_self, hp⟩, hl.rps fun d v B hB q => RpO.freeze hF o (fun a ha => k a (List.mem_cons_of_mem _ (hB a ha))) q⟩
    | obj c ds =>
      unfold RpO at h; unfold Rp
      obtain ⟨p, vs, A', e, rfl, hp, hn, hl⟩ := h
      exact ⟨p, vs, e, ⟨k p List.mem_cons_self, hp⟩, hn, hl.rps fun d v B hB q => RpO.freeze hF o (fun a ha => k a (List.mem_cons_of_mem _ (hB a ha))) q⟩
    | dct ks ds =>
      unfold RpO at h; unfold Rp
      obtain ⟨p, vs, A', e, rfl, hp, hl⟩ := h
      exact ⟨p, vs, e, ⟨k p List.mem_cons_self, hp⟩, hl.rps fun d v B hB q => RpO.freeze hF o (fun a ha => k a (List.mem_cons_of_mem _ (hB a ha))) q⟩
    | _ =>
      unfold RpO at h
      exact Rp.mono hF (fun _ _ _ e => e) _ h.2
end
end NW
end

section
set_option Elab.async false
set_option linter.all false
set_option maxRecDepth 100000
/-! NWb: results, states, judgements of expressions. -/
namespace NW
open PySem PySem.Spec L2
open PyProof.Rows hiding St

/-- a result: a value, an own exception (class, fields), stuck -/
inductive R (α : Type) where
  | ok (a : α) | ex (c : Nat) (fs : List D) | st

@[reducible] def R.bind {α β : Type} : R α → (α → R β) → R β
  | .ok a, f => f a
  | .ex c fs, _ => .ex c fs
  | .st, _ => .st
@[simp] theorem R.bind_ok {α β : Type} (a : α) (f : α → R β) : (R.ok a).bind f = f a := rfl
@[simp] theorem R.bind_ex {α β : Type} (c : Nat) (fs : List D) (f : α → R β) : (R.ex c fs : R α).bind f = .ex c fs := rfl
@[simp] theorem R.bind_st {α β : Type} (f : α → R β) : (R.st : R α).bind f = .st := rfl

abbrev Env := List (Option D)

/-! ### the heap grows -/
def FI (F : Fr) (H : Hp) : Prop := ∀ a, F a → ∃ o, H a = some o
structure Ex (F : Fr) (H : Hp) (F' : Fr) (H' : Hp) : Prop where
  fr : ∀ a, F a → F' a
  hp : ∀ a o, H a = some o → H' a = some o
  nw : ∀ a, F' a → F a ∨ H a = none
  fi : FI F' H'
theorem Ex.refl {F : Fr} {H : Hp} (h : FI F H) : Ex F H F H := ⟨fun _ h => h, fun _ _ h => h, fun _ h => .inl h, h⟩
theorem Ex.trans {F F1 F2 : Fr} {H H1 H2 : Hp} (a : Ex F H F1 H1) (b : Ex F1 H1 F2 H2) : Ex F H F2 H2 :=
  { fr := fun x h => b.fr x (a.fr x h)
    hp := fun x o h => b.hp x o (a.hp x o h)
    nw := fun x h => by
      rcases b.nw x h with h | h
      · exact a.nw x h
      · refine .inr ?_
        cases e : H x with
        | none => rfl
        | some o =>
          rw [a.hp x o e] at h
          cases h
    fi := b.fi }
theorem Ex.none {F F1 : Fr} {H H1 : Hp} (e : Ex F H F1 H1) {a : Addr} (h : H1 a = Option.none) : H a = Option.none := by
  cases q : H a with
  | none => rfl
  | some o => rw [e.hp a o q] at h; cases h
/-- a new object, not frozen -/
theorem Ex.laid {F : Fr} {H : Hp} {p : Addr} {o : HO} (h : FI F H) (hp : H p = Option.none) : Ex F H F (upd H p o) :=
  ⟨fun _ h => h, fun a u e => by rw [upd_ne (ne_of_none e hp)]; exact e, fun _ h => .inl h, fun a ha => by
    obtain ⟨u, e⟩ := h a ha
    exact ⟨u, by rw [upd_ne (ne_of_none e hp)]; exact e⟩⟩
abbrev Fr.add (F : Fr) (p : Addr) : Fr := fun a => F a ∨ a = p
/-- a new object, frozen -/
theorem Ex.new {F : Fr} {H : Hp} {p : Addr} {o : HO} (h : FI F H) (hp : H p = Option.none) : Ex F H (F.add p) (upd H p o) :=
  { fr := fun _ h => .inl h
    hp := fun a u e => by rw [upd_ne (ne_of_none e hp)]; exact e
    nw := fun a ha => by
      rcases ha with ha | rfl
      · exact .inl ha
      · exact .inr hp
    fi := fun a ha => by
      rcases ha with ha | rfl
      · obtain ⟨u, e⟩ := h a ha
        exact ⟨u, by rw [upd_ne (ne_of_none e hp)]; exact e⟩
      · exact ⟨o, upd_same⟩ }
section
variable {K : PySem.W.Frag} {G : Gb} {F F' : Fr} {H H' : Hp}
theorem Rp.ex {d : D} {v : V} (h : Rp K G F H d v) (e : Ex F H F' H') : Rp K G F' H' d v := Rp.mono e.fr (fun a o _ q => e.hp a o q) d h
theorem Rps.ex {ds : List D} {vs : List V} (h : Rps K G F H ds vs) (e : Ex F H F' H') : Rps K G F' H' ds vs := Rps.mono e.fr (fun a o _ q => e.hp a o q) ds h
theorem RpO.ex {o : Ow} {d : D} {v : V} {A : List Addr} (h : RpO K G F H o d v A) (e : Ex F H F' H') : RpO K G F' H' o d v A := RpO.mono e.fr o (fun a u _ q => e.hp a u q) h
theorem rpo_fz {d : D} {v : V} {A : List Addr} : RpO K G F H .fz d v A ↔ A = [] ∧ Rp K G F H d v := by unfold RpO; exact Iff.rfl
theorem rpo_of {d : D} {v : V} (h : Rp K G F H d v) : RpO K G F H .fz d v [] := rpo_fz.mpr ⟨rfl, h⟩
end

/-! ### slots -/
section
variable (K : PySem.W.Frag) (G : Gb)
def SlO (F : Fr) (H : Hp) (o : Ow) (od : Option (Option D)) (ov : Option (Option V)) (A : List Addr) : Prop :=
  (o = .na ∧ A = []) ∨ (od = some none ∧ A = []) ∨ ∃ d v, od = some (some d) ∧ ov = some (some v) ∧ RpO K G F H o d v A
structure Sl (O : List Ow) (F : Fr) (σ : St) (H : Hp) (ρ : Env) (As : Nat → List Addr) : Prop where
  lr : ρ.length = O.length
  ls : σ.length = O.length
  sl : ∀ i o, O[i]? = some o → SlO K G F H o ρ[i]? σ[i]? (As i)
  dj : ∀ i j a, a ∈ As i → a ∈ As j → i = j
  nd : ∀ i, (As i).Nodup
  nf : ∀ i, ∀ a ∈ As i, ¬ F a ∧ ∃ u, H a = some u
def SS (O : List Ow) (F : Fr) (σ : St) (H : Hp) (ρ : Env) : Prop := FI F H ∧ ∃ As, Sl K G O F σ H ρ As
end
section
variable {K : PySem.W.Frag} {G : Gb} {F F' : Fr} {H H' : Hp} {O : List Ow} {σ : St} {ρ : Env} {As : Nat → List Addr}
theorem SlO.ex {o : Ow} {od : Option (Option D)} {ov : Option (Option V)} {A : List Addr} (h : SlO K G F H o od ov A) (e : Ex F H F' H') : SlO K G F' H' o od ov A := by
  rcases h with h | h | ⟨d, v, h1, h2, h3⟩
  · exact .inl h
  · exact .inr (.inl h)
  · exact .inr (.inr ⟨d, v, h1, h2, h3.ex e⟩)
theorem Sl.ex (h : Sl K G O F σ H ρ As) (e : Ex F H F' H') : Sl K G O F' σ H' ρ As :=
  ⟨h.lr, h.ls, fun i o q => (h.sl i o q).ex e, h.dj, h.nd, fun i a ha => by
    obtain ⟨h1, u, h2⟩ := h.nf i a ha
    refine ⟨fun q => ?_, u, e.hp a u h2⟩
    rcases e.nw a q with q | q
    · exact h1 q
    · rw [h2] at q; cases q⟩
theorem SS.ex (h : SS K G O F σ H ρ) (e : Ex F H F' H') : SS K G O F' σ H' ρ := ⟨e.fi, h.2.imp fun _ q => q.ex e⟩
theorem SS.get (h : SS K G O F σ H ρ) {i : Nat} {o : Ow} {d : D} (ho : O[i]? = some o) (hn : o ≠ .na) (hd : ρ[i]? = some (some d)) : ∃ v A, σ[i]? = some (some v) ∧ RpO K G F H o d v A := by
  obtain ⟨_, As, h⟩ := h
  rcases h.sl i o ho with ⟨q, _⟩ | ⟨q, _⟩ | ⟨d', v, q1, q2, q3⟩
  · exact absurd q hn
  · rw [hd] at q; cases q
  · rw [hd] at q1; cases q1
    exact ⟨v, _, q2, q3⟩
end

/-! ### what is wanted of a result -/
section
variable (K : PySem.W.Frag) (G : Gb) (W : WX)
/-- an own exception: its dict holds its fields -/
def XR (F : Fr) (H : Hp) (c : Nat) (fs : List D) (dd : Option Addr) : Prop :=
  (fs = [] ∧ dd = none) ∨ ∃ (a : Addr) (kvs : List (Str × V)), dd = some a ∧ fs ≠ [] ∧ F a ∧ H a = some (.xd kvs) ∧ fs.length ≤ (G.names c).length ∧ ∀ (k : Nat) (x : Str) (d : D), (G.names c)[k]? = some x → fs[k]? = some d → ∃ v, kvs.lookup x = some v ∧ Rp K G F H d v
def KB (o : Ow) (F : Fr) (σ : St) (H : Hp) (Q : VK) : R D → Prop
  | .ok d => ∀ F' H' v A, Ex F H F' H' → RpO K G F' H' o d v A → Q v H'
  | .ex c fs => ∀ F' H' dd, Ex F H F' H' → XR K G F' H' c fs dd → W (.ref (G.cls c)) dd σ H'
  | .st => False
/-- new: it is owned by nobody else -/
def KN (o : Ow) (F : Fr) (σ : St) (H : Hp) (Q : VK) : R D → Prop
  | .ok d => ∀ F' H' v A, Ex F H F' H' → RpO K G F' H' o d v A → A.Nodup → (∀ a ∈ A, H a = none ∧ ¬ F' a) → Q v H'
  | .ex c fs => ∀ F' H' dd, Ex F H F' H' → XR K G F' H' c fs dd → W (.ref (G.cls c)) dd σ H'
  | .st => False
def KT (F : Fr) (σ : St) (H : Hp) (Q : Bool → Hp → Prop) : R Bool → Prop
  | .ok b => ∀ F' H', Ex F H F' H' → Q b H'
  | .ex c fs => ∀ F' H' dd, Ex F H F' H' → XR K G F' H' c fs dd → W (.ref (G.cls c)) dd σ H'
  | .st => False
def RpA : List Ow → Fr → Hp → List D → List V → Prop
  | [], _, _, ds, vs => ds = [] ∧ vs = []
  | o :: os, F, H, ds, vs => ∃ d v A dr vr, ds = d :: dr ∧ vs = v :: vr ∧ RpO K G F H o d v A ∧ RpA os F H dr vr
def KA (os : List Ow) (F : Fr) (σ : St) (H : Hp) (Q : List V → Hp → Prop) : R (List D) → Prop
  | .ok ds => ∀ F' H' vs, Ex F H F' H' → RpA K G os F' H' ds vs → Q vs H'
  | .ex c fs => ∀ F' H' dd, Ex F H F' H' → XR K G F' H' c fs dd → W (.ref (G.cls c)) dd σ H'
  | .st => False
/-- of an operator: no exception -/
def KV (o : Ow) (F : Fr) (H : Hp) (Q : VK) : R D → Prop
  | .ok d => ∀ F' H' v A, Ex F H F' H' → RpO K G F' H' o d v A → Q v H'
  | .ex _ _ => False
  | .st => False
end
section
variable {K : PySem.W.Frag} {G : Gb} {W : WX} {F F' : Fr} {H H' : Hp} {O : List Ow} {σ : St} {ρ : Env}
theorem KB.ex {o : Ow} {Q : VK} {r : R D} (k : KB K G W o F σ H Q r) (e : Ex F H F' H') : KB K G W o F' σ H' Q r := by
  cases r with
  | ok d => exact fun F2 H2 v A e2 r => k F2 H2 v A (e.trans e2) r
  | ex c fs => exact fun F2 H2 dd e2 x => k F2 H2 dd (e.trans e2) x
  | st => exact k
theorem KN.ex {o : Ow} {Q : VK} {r : R D} (k : KN K G W o F σ H Q r) (e : Ex F H F' H') : KN K G W o F' σ H' Q r := by
  cases r with
  | ok d => exact fun F2 H2 v A e2 r n h => k F2 H2 v A (e.trans e2) r n fun a ha => ⟨e.none (h a ha).1, (h a ha).2⟩
  | ex c fs => exact fun F2 H2 dd e2 x => k F2 H2 dd (e.trans e2) x
  | st => exact k
theorem KT.ex {Q : Bool → Hp → Prop} {r : R Bool} (k : KT K G W F σ H Q r) (e : Ex F H F' H') : KT K G W F' σ H' Q r := by
  cases r with
  | ok d => exact fun F2 H2 e2 => k F2 H2 (e.trans e2)
  | ex c fs => exact fun F2 H2 dd e2 x => k F2 H2 dd (e.trans e2) x
  | st => exact k
theorem KA.ex {os : List Ow} {Q : List V → Hp → Prop} {r : R (List D)} (k : KA K G W os F σ H Q r) (e : Ex F H F' H') : KA K G W os F' σ H' Q r := by
  cases r with
  | ok d => exact fun F2 H2 vs e2 r => k F2 H2 vs (e.trans e2) r
  | ex c fs => exact fun F2 H2 dd e2 x => k F2 H2 dd (e.trans e2) x
  | st => exact k
theorem KV.kb {o : Ow} {Q : VK} {r : R D} (k : KB K G W o F σ H Q r) (h : ∀ c fs, r ≠ .ex c fs) : KV K G o F H Q r := by
  cases r with
  | ok d => exact k
  | ex c fs => exact absurd rfl (h c fs)
  | st => exact k
theorem RpA.ex : ∀ {os : List Ow} {ds : List D} {vs : List V}, RpA K G os F H ds vs → Ex F H F' H' → RpA K G os F' H' ds vs
  | [], _, _, h, _ => by unfold RpA at h ⊢; exact h
  | o :: os, _, _, h, e => by
    unfold RpA at h ⊢
    obtain ⟨d, v, A, dr, vr, e1, e2, h1, h2⟩ := h
    exact ⟨d, v, A, dr, vr, e1, e2, h1.ex e, h2.ex e⟩
theorem rpa_fz : ∀ {n : Nat} {ds : List D} {vs : List V}, RpA K G (List.replicate n .fz) F H ds vs → Rps K G F H ds vs ∧ ds.length = n
  | 0, _, _, h => by unfold RpA at h; rw [h.1, h.2]; exact ⟨rps_nil, rfl⟩
  | n + 1, _, _, h => by
    unfold RpA at h
    obtain ⟨d, v, A, dr, vr, rfl, rfl, h1, h2⟩ := h
    obtain ⟨h3, h4⟩ := rpa_fz (n := n) h2
    exact ⟨rps_cons (rpo_fz.mp h1).2 h3, by simp [h4]⟩
end

/-! ### judgements -/
def ImpB (K : PySem.W.Frag) (G : Gb) (W : WX) (O : List Ow) (o : Ow) (t : TE) (f : Env → R D) : Prop :=
  ∀ F σ H ρ Q, SS K G O F σ H ρ → KB K G W o F σ H Q (f ρ) → t σ H Q
def ImpN (K : PySem.W.Frag) (G : Gb) (W : WX) (O : List Ow) (o : Ow) (t : TE) (f : Env → R D) : Prop :=
  ∀ F σ H ρ Q, SS K G O F σ H ρ → KN K G W o F σ H Q (f ρ) → t σ H Q
def ImpT (K : PySem.W.Frag) (G : Gb) (W : WX) (O : List Ow) (t : TT) (f : Env → R Bool) : Prop :=
  ∀ F σ H ρ Q, SS K G O F σ H ρ → KT K G W F σ H Q (f ρ) → t σ H Q
def ImpA (K : PySem.W.Frag) (G : Gb) (W : WX) (O : List Ow) (os : List Ow) (t : TA) (f : Env → R (List D)) : Prop :=
  ∀ F σ H ρ Q, SS K G O F σ H ρ → KA K G W os F σ H Q (f ρ) → t σ H Q
/-- an expression: a value that may be ours (o), not to be handed on unless frozen -/
def GB (X : Cx) (G : Gb) (W : WX) (O : List Ow) (o : Ow) (e : Expr) (f : Env → R D) : Prop := ∃ t, PE X e t ∧ ImpB X.K G W O o t f
/-- .. a new value -/
def GN (X : Cx) (G : Gb) (W : WX) (O : List Ow) (o : Ow) (e : Expr) (f : Env → R D) : Prop := ∃ t, PE X e t ∧ ImpN X.K G W O o t f
/-- .. a test -/
def GT (X : Cx) (G : Gb) (W : WX) (O : List Ow) (e : Expr) (f : Env → R Bool) : Prop := ∃ t, PT X e t ∧ ImpT X.K G W O t f
/-- .. a test within and, or -/
def GW (X : Cx) (G : Gb) (W : WX) (O : List Ow) (e : Expr) (f : Env → R Bool) : Prop := ∃ t, PW X e t ∧ ImpT X.K G W O t f
def GA (X : Cx) (G : Gb) (W : WX) (O : List Ow) (os : List Ow) (es : List Expr) (f : Env → R (List D)) : Prop := ∃ t, PA X es t ∧ ImpA X.K G W O os t f

/-! ### names, constants -/
def getE (ρ : Env) (i : Nat) : R D := match ρ[i]? with
  | some (some d) => .ok d
  | _ => .st
def varD (i : Nat) : Env → R D := fun ρ => getE ρ i
def cD (d : D) : Env → R D := fun _ => .ok d
def flat : D → Bool
  | .non => true | .bl _ => true | .int _ => true | .str _ => true | _ => false
def vOf : D → V
  | .bl b => .bl b | .int i => .int i | .str x => .str x | _ => .non
theorem rp_flat {K : PySem.W.Frag} {G : Gb} {F : Fr} {H : Hp} {d : D} (h : flat d = true) : Rp K G F H d (vOf d) := by
  cases d <;> first | (unfold Rp vOf; rfl) | cases h
theorem rp_flat' {K : PySem.W.Frag} {G : Gb} {F : Fr} {H : Hp} {d : D} {v : V} (h : flat d = true) (r : Rp K G F H d v) : v = vOf d := by
  cases d <;> first | (unfold Rp at r; exact r) | cases h
section
variable {X : Cx} {G : Gb} {W : WX} {O : List Ow} {F F' : Fr} {H H' : Hp} {σ : St} {ρ : Env}
theorem imp_var {i : Nat} {o : Ow} (ho : O[i]? = some o) (hn : o ≠ .na) : ImpB X.K G W O o (tVar i) (varD i) := fun F σ H ρ Q h k => by
  unfold varD getE at k
  split at k
  · rename_i d e
    obtain ⟨v, A, q1, q2⟩ := h.get ho hn e
    exact ⟨v, q1, k F H v A (Ex.refl h.1) q2⟩
  · exact k.elim
theorem gb_var (i : Nat) {x : Str} {pos : Pos} {o : Ow} (ho : O[i]? = some o := by rfl) (hn : o ≠ .na := by decide) (hN : X.N[i]? = some x := by rfl) (hv : Vis X.env.scope x := by first | exact Or.inl rfl | exact Or.inr (Or.inl rfl) | exact Or.inr (Or.inr rfl))
    (hd : (x == ("__debug__" : Str)) = false := by decide) (hcd : (x == ("__classdict__" : Str)) = false := by decide) : GB X G W O o (.Name x pos) (varD i) := ⟨_, pe_var hN hv hd hcd, imp_var ho hn⟩
theorem imp_c {d : D} (h : flat d = true) : ImpB X.K G W O .fz (tC (vOf d)) (cD d) := fun F σ H ρ Q s k => k F H (vOf d) [] (Ex.refl s.1) (rpo_of (rp_flat h))
theorem gb_int {i : Int} {j pos} : GB X G W O .fz (.Constant (.int i) j pos) (cD (.int i)) := ⟨_, pe_int, imp_c (d := .int i) rfl⟩
theorem gb_bl {b : Bool} {j pos} : GB X G W O .fz (.Constant (.bool b) j pos) (cD (.bl b)) := ⟨_, pe_bl, imp_c (d := .bl b) rfl⟩
theorem gb_non {j pos} : GB X G W O .fz (.Constant .none j pos) (cD .non) := ⟨_, pe_non, imp_c (d := .non) rfl⟩
theorem gb_str {x : Str} {j pos} : GB X G W O .fz (.Constant (.str x) j pos) (cD (.str x)) := ⟨_, pe_str, imp_c (d := .str x) rfl⟩
/-- a module's constant -/
theorem gb_glob {x : Str} {d : D} {u : Value} {pos : Pos} (hf : flat d = true) (hm : X.mg x = some u) (r : RelV (vOf d) u) (hg : Gl X x := by rfl) (hd : (x == ("__debug__" : Str)) = false := by decide) : GB X G W O .fz (.Name x pos) (cD d) :=
  ⟨_, pe_glob hg hm r hd, imp_c hf⟩
theorem gb_globInt {x : Str} {i : Int} {pos : Pos} (hm : ∃ t, X.mg x = some (.int i t)) (hg : Gl X x := by rfl) (hd : (x == ("__debug__" : Str)) = false := by decide) : GB X G W O .fz (.Name x pos) (cD (.int i)) := by
  obtain ⟨t, hm⟩ := hm
  exact gb_glob (d := .int i) rfl hm ⟨t, rfl⟩ hg hd
theorem gb_globStr {x z : Str} {pos : Pos} (hm : ∃ t, X.mg x = some (.str z t)) (hg : Gl X x := by rfl) (hd : (x == ("__debug__" : Str)) = false := by decide) : GB X G W O .fz (.Name x pos) (cD (.str z)) := by
  obtain ⟨t, hm⟩ := hm
  exact gb_glob (d := .str z) rfl hm ⟨t, rfl⟩ hg hd

/-! ### from a new value to a frozen one -/
theorem KB.freeze {o : Ow} {Q : VK} {r : R D} (k : KB X.K G W .fz F σ H Q r) : KN X.K G W o F σ H Q r := by
  cases r with
  | ok d =>
    refine fun F' H' v A e r n h => ?_
    have e2 : Ex F H (fun a => F' a ∨ a ∈ A) H' := ⟨fun a q => .inl (e.fr a q), e.hp, fun a q => q.elim (e.nw a) fun q => .inr (h a q).1, fun a q => q.elim (e.fi a) fun q => r.some_ o a q⟩
    exact k _ H' v [] e2 (rpo_of (r.freeze (fun a q => .inl q) o fun a q => .inr q))
  | ex c fs => exact k
  | st => exact k
theorem gb_new {o : Ow} {e : Expr} {f : Env → R D} (h : GN X G W O o e f) : GB X G W O .fz e f := by
  obtain ⟨t, p, i⟩ := h
  exact ⟨t, p, fun F σ H ρ Q s k => i F σ H ρ Q s k.freeze⟩
/-- a frozen value as new one that owns nothing -/
theorem KN.ofB {Q : VK} {r : R D} (k : KN X.K G W .fz F σ H Q r) : KB X.K G W .fz F σ H Q r := by
  cases r with
  | ok d => exact fun F' H' v A e r => k F' H' v A e r (by rw [(rpo_fz.mp r).1]; exact List.nodup_nil) (by rw [(rpo_fz.mp r).1]; intro a ha; cases ha)
  | ex c fs => exact k
  | st => exact k
theorem gn_fz {e : Expr} {f : Env → R D} (h : GB X G W O .fz e f) : GN X G W O .fz e f := by
  obtain ⟨t, p, i⟩ := h
  exact ⟨t, p, fun F σ H ρ Q s k => i F σ H ρ Q s k.ofB⟩

/-! ### two in a row -/
theorem imp_seq {oa : Ow} {ta : TE} {fa : Env → R D} {g : D → R D} {o : Ow} {Q : VK} {R' : V → Hp → Prop} (ia : ImpB X.K G W O oa ta fa) (s : SS X.K G O F σ H ρ) (k : KB X.K G W o F σ H Q ((fa ρ).bind g))
    (h : ∀ d F' H' v A, Ex F H F' H' → RpO X.K G F' H' oa d v A → KB X.K G W o F' σ H' Q (g d) → R' v H') : ta σ H R' := by
  refine ia F σ H ρ _ s ?_
  revert k
  cases fa ρ with
  | ok d => exact fun k F' H' v A e r => h d F' H' v A e r (k.ex e)
  | ex c fs => exact fun k => k
  | st => exact fun k => k
theorem imp_seqT {oa : Ow} {ta : TE} {fa : Env → R D} {g : D → R Bool} {Q : Bool → Hp → Prop} {R' : V → Hp → Prop} (ia : ImpB X.K G W O oa ta fa) (s : SS X.K G O F σ H ρ) (k : KT X.K G W F σ H Q ((fa ρ).bind g))
    (h : ∀ d F' H' v A, Ex F H F' H' → RpO X.K G F' H' oa d v A → KT X.K G W F' σ H' Q (g d) → R' v H') : ta σ H R' := by
  refine ia F σ H ρ _ s ?_
  revert k
  cases fa ρ with
  | ok d => exact fun k F' H' v A e r => h d F' H' v A e r (k.ex e)
  | ex c fs => exact fun k => k
  | st => exact fun k => k
theorem imp_seqN {oa : Ow} {ta : TE} {fa : Env → R D} {g : D → R D} {o : Ow} {Q : VK} {R' : V → Hp → Prop} (ia : ImpB X.K G W O oa ta fa) (s : SS X.K G O F σ H ρ) (k : KN X.K G W o F σ H Q ((fa ρ).bind g))
    (h : ∀ d F' H' v A, Ex F H F' H' → RpO X.K G F' H' oa d v A → KN X.K G W o F' σ H' Q (g d) → R' v H') : ta σ H R' := by
  refine ia F σ H ρ _ s ?_
  revert k
  cases fa ρ with
  | ok d => exact fun k F' H' v A e r => h d F' H' v A e r (k.ex e)
  | ex c fs => exact fun k => k
  | st => exact fun k => k

/-! ### operators -/
/-- an operator by data -/
def Op2 (K : PySem.W.Frag) (G : Gb) (oa ob oo : Ow) (r : R2) (op : D → D → R D) : Prop :=
  ∀ F H dx dy x y A B Q, FI F H → RpO K G F H oa dx x A → RpO K G F H ob dy y B → KV K G oo F H Q (op dx dy) → r x y H Q
def Op1 (K : PySem.W.Frag) (G : Gb) (oa oo : Ow) (r : V → Hp → VK → Prop) (op : D → R D) : Prop :=
  ∀ F H dx x A Q, FI F H → RpO K G F H oa dx x A → KV K G oo F H Q (op dx) → r x H Q
def NoX (op : D → D → R D) : Prop := ∀ x y c fs, op x y ≠ .ex c fs
def NoX1 (op : D → R D) : Prop := ∀ x c fs, op x ≠ .ex c fs
def bin (op : D → D → R D) (fa fb : Env → R D) : Env → R D := fun ρ => (fa ρ).bind fun x => (fb ρ).bind fun y => op x y
def un1 (op : D → R D) (fa : Env → R D) : Env → R D := fun ρ => (fa ρ).bind fun x => op x
theorem imp_op2 {oa ob oo : Ow} {r : R2} {op : D → D → R D} {ta tb : TE} {fa fb : Env → R D} (hr : Op2 X.K G oa ob oo r op) (nx : NoX op) (ia : ImpB X.K G W O oa ta fa) (ib : ImpB X.K G W O ob tb fb) : ImpB X.K G W O oo (tOp r ta tb) (bin op fa fb) := fun F σ H ρ Q s k => by
  refine imp_seq (ta := ta) ia s k fun dx F1 H1 x A e1 r1 k1 => ?_
  refine imp_seq (ta := tb) ib (s.ex e1) k1 fun dy F2 H2 y B e2 r2 k2 => ?_
  exact hr F2 H2 dx dy x y A B Q e2.fi (r1.ex e2) r2 (KV.kb k2 (nx dx dy))
theorem imp_un {oa oo : Ow} {r : V → Hp → VK → Prop} {op : D → R D} {ta : TE} {fa : Env → R D} (hr : Op1 X.K G oa oo r op) (nx : NoX1 op) (ia : ImpB X.K G W O oa ta fa) : ImpB X.K G W O oo (tUn r ta) (un1 op fa) := fun F σ H ρ Q s k => by
  refine imp_seq (ta := ta) ia s k fun dx F1 H1 x A e1 r1 k1 => ?_
  exact hr F1 H1 dx x A Q e1.fi r1 (KV.kb k1 (nx dx))
theorem gb_op {op : Operator} {oa ob oo : Ow} {r : R2} {dop : D → D → R D} {a b : Expr} {pos : Pos} {fa fb : Env → R D} (ho : OpR X (binaryOp op) r) (hr : Op2 X.K G oa ob oo r dop) (nx : NoX dop) (ha : GB X G W O oa a fa) (hb : GB X G W O ob b fb) :
    GB X G W O oo (.BinOp a op b pos) (bin dop fa fb) := by
  obtain ⟨ta, pa, ia⟩ := ha
  obtain ⟨tb, pb, ib⟩ := hb
  exact ⟨_, pe_op ho pa pb, imp_op2 hr nx ia ib⟩
theorem gb_cmp {op : CmpOp} {oa ob oo : Ow} {r : R2} {dop : D → D → R D} {a b : Expr} {pos : Pos} {fa fb : Env → R D} (ho : OpR X (compareOp op) r) (hr : Op2 X.K G oa ob oo r dop) (nx : NoX dop) (ha : GB X G W O oa a fa) (hb : GB X G W O ob b fb)
    (hm : behindInMarks op b = false := by first | exact nomark _ | rfl) : GB X G W O oo (.Compare a [op] [b] pos) (bin dop fa fb) := by
  obtain ⟨ta, pa, ia⟩ := ha
  obtain ⟨tb, pb, ib⟩ := hb
  exact ⟨_, pe_cmpR ho pa pb hm, imp_op2 hr nx ia ib⟩
/-- a value that is a bool as a test -/
def asB : D → R Bool
  | .bl b => .ok b
  | _ => .st
def tst (f : Env → R D) : Env → R Bool := fun ρ => (f ρ).bind asB
theorem imp_tst {o : Ow} {t : TE} {f : Env → R D} (i : ImpB X.K G W O o t f) (ho : o = .fz) : ImpT X.K G W O (tTest t) (tst f) := fun F σ H ρ Q s k => by
  subst ho
  refine imp_seqT i s k fun d F1 H1 x A e r k1 => ?_
  cases d <;> first | exact (show False from k1).elim | skip
  rename_i b
  have e2 : x = .bl b := by
    have q := (rpo_fz.mp r).2
    unfold Rp at q
    exact q
  exact ⟨b, e2, k1 F1 H1 (Ex.refl e.fi)⟩
theorem gt_cmp {op : CmpOp} {oa ob : Ow} {r : R2} {dop : D → D → R D} {a b : Expr} {pos : Pos} {fa fb : Env → R D} (ho : OpR X (compareOp op) r) (hr : Op2 X.K G oa ob .fz r dop) (nx : NoX dop) (ha : GB X G W O oa a fa) (hb : GB X G W O ob b fb)
    (hm : behindInMarks op b = false := by first | exact nomark _ | rfl) : GT X G W O (.Compare a [op] [b] pos) (tst (bin dop fa fb)) := by
  obtain ⟨ta, pa, ia⟩ := ha
  obtain ⟨tb, pb, ib⟩ := hb
  exact ⟨_, pt_cmpR ho pa pb hm, imp_tst (imp_op2 hr nx ia ib) rfl⟩
theorem gt_val {e : Expr} {f : Env → R D} (h : GB X G W O .fz e f) (he : ∀ whole, isTrue e X.env whole = (do let v ← whole; standAt e.pos; holding [v] (truthy v)) := by intro _; rfl) : GT X G W O e (tst f) := by
  obtain ⟨t, p, i⟩ := h
  exact ⟨_, pt_val p he, imp_tst i rfl⟩

/-! ### and, or, not, if -/
def notB (f : Env → R Bool) : Env → R Bool := fun ρ => (f ρ).bind fun b => .ok (!b)
def andB (f g : Env → R Bool) : Env → R Bool := fun ρ => (f ρ).bind fun b => if b then g ρ else .ok false
def orB (f g : Env → R Bool) : Env → R Bool := fun ρ => (f ρ).bind fun b => if b then .ok true else g ρ
def ifD (c : Env → R Bool) (f g : Env → R D) : Env → R D := fun ρ => (c ρ).bind fun b => if b then f ρ else g ρ
theorem imp_tT {t : TT} {f : Env → R Bool} {g : Bool → R Bool} {Q : Bool → Hp → Prop} {R' : Bool → Hp → Prop} (ia : ImpT X.K G W O t f) (s : SS X.K G O F σ H ρ) (k : KT X.K G W F σ H Q ((f ρ).bind g))
    (h : ∀ b F' H', Ex F H F' H' → KT X.K G W F' σ H' Q (g b) → R' b H') : t σ H R' := by
  refine ia F σ H ρ _ s ?_
  revert k
  cases f ρ with
  | ok d => exact fun k F' H' e => h d F' H' e (k.ex e)
  | ex c fs => exact fun k => k
  | st => exact fun k => k
theorem imp_tB {o : Ow} {t : TT} {f : Env → R Bool} {g : Bool → R D} {Q : VK} {R' : Bool → Hp → Prop} (ia : ImpT X.K G W O t f) (s : SS X.K G O F σ H ρ) (k : KB X.K G W o F σ H Q ((f ρ).bind g))
    (h : ∀ b F' H', Ex F H F' H' → KB X.K G W o F' σ H' Q (g b) → R' b H') : t σ H R' := by
  refine ia F σ H ρ _ s ?_
  revert k
  cases f ρ with
  | ok d => exact fun k F' H' e => h d F' H' e (k.ex e)
  | ex c fs => exact fun k => k
  | st => exact fun k => k
theorem gt_not {a : Expr} {pos : Pos} {f : Env → R Bool} (h : GT X G W O a f) : GT X G W O (.UnaryOp .Not a pos) (notB f) := by
  obtain ⟨t, p, i⟩ := h
  exact ⟨_, pt_not p, fun F σ H ρ Q s k => imp_tT (t := t) i s k fun b F' H' e k1 => k1 F' H' (Ex.refl e.fi)⟩
theorem gw_and {a b : Expr} {rest : List Expr} {pos : Pos} {f g : Env → R Bool} (h : GT X G W O a f) (h2 : GW X G W O (.BoolOp .And (b :: rest) pos) g) : GW X G W O (.BoolOp .And (a :: b :: rest) pos) (andB f g) := by
  obtain ⟨t, p, i⟩ := h
  obtain ⟨u, q, j⟩ := h2
  refine ⟨_, pw_and p q, fun F σ H ρ Q s k => imp_tT (t := t) i s k fun b F' H' e k1 => ?_⟩
  cases b with
  | true => exact iteT (j F' σ H' ρ Q (s.ex e) k1)
  | false => exact iteF (k1 F' H' (Ex.refl e.fi))
theorem gw_or {a b : Expr} {rest : List Expr} {pos : Pos} {f g : Env → R Bool} (h : GT X G W O a f) (h2 : GW X G W O (.BoolOp .Or (b :: rest) pos) g) : GW X G W O (.BoolOp .Or (a :: b :: rest) pos) (orB f g) := by
  obtain ⟨t, p, i⟩ := h
  obtain ⟨u, q, j⟩ := h2
  refine ⟨_, pw_or p q, fun F σ H ρ Q s k => imp_tT (t := t) i s k fun b F' H' e k1 => ?_⟩
  cases b with
  | true => exact iteT (k1 F' H' (Ex.refl e.fi))
  | false => exact iteF (j F' σ H' ρ Q (s.ex e) k1)
theorem gw_and1 {a : Expr} {pos : Pos} {f : Env → R Bool} (h : GT X G W O a f) : GW X G W O (.BoolOp .And [a] pos) f := by
  obtain ⟨t, p, i⟩ := h
  exact ⟨_, pw_and1 p, i⟩
theorem gw_or1 {a : Expr} {pos : Pos} {f : Env → R Bool} (h : GT X G W O a f) : GW X G W O (.BoolOp .Or [a] pos) f := by
  obtain ⟨t, p, i⟩ := h
  exact ⟨_, pw_or1 p, i⟩
theorem gt_w {e : Expr} {f : Env → R Bool} (h : GW X G W O e f) : GT X G W O e f := by
  obtain ⟨t, p, i⟩ := h
  exact ⟨_, p.pt, i⟩
theorem gb_if {c a b : Expr} {pos : Pos} {fc : Env → R Bool} {fa fb : Env → R D} {o : Ow} (hc : GT X G W O c fc) (ha : GB X G W O o a fa) (hb : GB X G W O o b fb) : GB X G W O o (.IfExp c a b pos) (ifD fc fa fb) := by
  obtain ⟨tc, pc, ic⟩ := hc
  obtain ⟨ta, pa, ia⟩ := ha
  obtain ⟨tb, pb, ib⟩ := hb
  refine ⟨_, pe_ifExp pc pa pb, fun F σ H ρ Q s k => imp_tB (t := tc) ic s k fun b F' H' e k1 => ?_⟩
  cases b with
  | true => exact iteT (ia F' σ H' ρ Q (s.ex e) k1)
  | false => exact iteF (ib F' σ H' ρ Q (s.ex e) k1)
/-- and, or, not as values: of bools -/
def andD (f g : Env → R D) : Env → R D := fun ρ => (f ρ).bind fun x => (asB x).bind fun b => if b then g ρ else .ok (.bl false)
def orD (f g : Env → R D) : Env → R D := fun ρ => (f ρ).bind fun x => (asB x).bind fun b => if b then .ok (.bl true) else g ρ
def notD : D → R D
  | .bl b => .ok (.bl (!b))
  | _ => .st
theorem asB_k {d : D} {v : V} {A : List Addr} {o : Ow} {Q : VK} {g : Bool → R D} (r : RpO X.K G F H .fz d v A) (k : KB X.K G W o F σ H Q ((asB d).bind g)) : ∃ b, v = .bl b ∧ KB X.K G W o F σ H Q (g b) := by
  cases d <;> first | exact (show False from k).elim | skip
  rename_i b
  have q := (rpo_fz.mp r).2
  unfold Rp at q
  exact ⟨b, q, k⟩
theorem gb_and {a b : Expr} {rest : List Expr} {pos : Pos} {f g : Env → R D} (h : GB X G W O .fz a f) (h2 : GB X G W O .fz (.BoolOp .And (b :: rest) pos) g) : GB X G W O .fz (.BoolOp .And (a :: b :: rest) pos) (andD f g) := by
  obtain ⟨t, p, i⟩ := h
  obtain ⟨u, q, j⟩ := h2
  refine ⟨_, pe_and p q, fun F σ H ρ Q s k => imp_seq (ta := t) i s k fun d F' H' v A e r k1 => ?_⟩
  obtain ⟨c, ev, k2⟩ := asB_k r k1
  refine ⟨c, ev, ?_⟩
  cases c with
  | true => exact iteT (j F' σ H' ρ Q (s.ex e) k2)
  | false => exact iteF (k2 F' H' _ [] (Ex.refl e.fi) (rpo_of (rp_flat (d := .bl false) rfl)))
theorem gb_or {a b : Expr} {rest : List Expr} {pos : Pos} {f g : Env → R D} (h : GB X G W O .fz a f) (h2 : GB X G W O .fz (.BoolOp .Or (b :: rest) pos) g) : GB X G W O .fz (.BoolOp .Or (a :: b :: rest) pos) (orD f g) := by
  obtain ⟨t, p, i⟩ := h
  obtain ⟨u, q, j⟩ := h2
  refine ⟨_, pe_or p q, fun F σ H ρ Q s k => imp_seq (ta := t) i s k fun d F' H' v A e r k1 => ?_⟩
  obtain ⟨c, ev, k2⟩ := asB_k r k1
  refine ⟨c, ev, ?_⟩
  cases c with
  | true => exact iteT (k2 F' H' _ [] (Ex.refl e.fi) (rpo_of (rp_flat (d := .bl true) rfl)))
  | false => exact iteF (j F' σ H' ρ Q (s.ex e) k2)
theorem gb_one {op : BoolOp} {a : Expr} {pos : Pos} {f : Env → R D} (h : GB X G W O .fz a f) : GB X G W O .fz (.BoolOp op [a] pos) f := by
  obtain ⟨t, p, i⟩ := h
  exact ⟨_, pe_one p, i⟩
theorem gb_not {a : Expr} {pos : Pos} {f : Env → R D} (h : GB X G W O .fz a f) : GB X G W O .fz (.UnaryOp .Not a pos) (un1 notD f) := by
  obtain ⟨t, p, i⟩ := h
  refine ⟨_, pe_not p, fun F σ H ρ Q s k => imp_seq (ta := t) i s k fun d F' H' v A e r k1 => ?_⟩
  cases d <;> first | exact (show False from k1).elim | skip
  rename_i b
  have q := (rpo_fz.mp r).2
  unfold Rp at q
  exact ⟨b, q, k1 F' H' _ [] (Ex.refl e.fi) (rpo_of (rp_flat (d := .bl (!b)) rfl))⟩
end
end NW
end

section
set_option Elab.async false
set_option linter.all false
set_option maxRecDepth 100000
/-! NWc: operators, subscripts, displays, calls of built-ins. -/
namespace NW
open PySem PySem.Spec L2
open PyProof.Rows hiding St

abbrev szL : Nat := 16777216
theorem szL_eq : (sizeLine : Nat) = szL := sizeLine_eq

def isNon : D → Bool
  | .non => true
  | _ => false
def kid : Ow → Ow
  | .own o => o
  | o => o
section
variable {K : PySem.W.Frag} {G : Gb} {F F' : Fr} {H H' : Hp}
theorem RpL.get {R : D → V → List Addr → Prop} : ∀ {ds : List D} {vs : List V} {A : List Addr} {i : Nat} {d : D}, RpL R ds vs A → ds[i]? = some d → ∃ v B, vs[i]? = some v ∧ R d v B ∧ ∀ a ∈ B, a ∈ A
  | [], _, _, _, _, _, e => by simp at e
  | d :: ds, _, _, 0, _, h, e => by
    unfold RpL at h
    obtain ⟨v, r, A1, A2, rfl, rfl, h1, h2⟩ := h
    simp at e; subst e
    exact ⟨v, A1, by simp, h1, fun a ha => List.mem_append_left _ ha⟩
  | d :: ds, _, _, i + 1, _, h, e => by
    unfold RpL at h
    obtain ⟨v, r, A1, A2, rfl, rfl, h1, h2⟩ := h
    obtain ⟨w, B, q1, q2, q3⟩ := RpL.get (i := i) h2 (by simpa using e)
    exact ⟨w, B, by simpa using q1, q2, fun a ha => List.mem_append_right _ (q3 a ha)⟩
theorem rp_int {i : Int} {v : V} : Rp K G F H (.int i) v ↔ v = .int i := by unfold Rp; exact Iff.rfl
theorem rp_bl {i : Bool} {v : V} : Rp K G F H (.bl i) v ↔ v = .bl i := by unfold Rp; exact Iff.rfl
theorem rp_str {i : Str} {v : V} : Rp K G F H (.str i) v ↔ v = .str i := by unfold Rp; exact Iff.rfl
theorem rp_non {v : V} : Rp K G F H .non v ↔ v = .non := by unfold Rp; exact Iff.rfl
theorem rp_lst {a : Addr} {vs : List V} {ds : List D} (f : F a) (h : H a = some (.lst vs)) (r : Rps K G F H ds vs) : Rp K G F H (.lst ds) (.ref a) := by unfold Rp; exact ⟨a, vs, rfl, ⟨f, h⟩, r⟩
theorem rp_tup {a : Addr} {vs : List V} {ds : List D} (f : F a) (h : H a = some (.tup vs)) (r : Rps K G F H ds vs) : Rp K G F H (.tup ds) (.ref a) := by unfold Rp; exact ⟨a, vs, rfl, ⟨f, h⟩, r⟩
/-- flat data, owned or not -/
theorem RpO.flat_ {o : Ow} {d : D} {v : V} {A : List Addr} (h : RpO K G F H o d v A) (f : flat d = true) : v = vOf d := by
  cases o with
  | na => unfold RpO at h; exact h.elim
  | fz => exact rp_flat' f (rpo_fz.mp h).2
  | own o => cases d <;> first | (unfold RpO at h; exact rp_flat' f h.2) | cases f
theorem RpO.int_ {o : Ow} {i : Int} {v : V} {A : List Addr} (h : RpO K G F H o (.int i) v A) : v = .int i := h.flat_ rfl
theorem RpO.bl_ {o : Ow} {i : Bool} {v : V} {A : List Addr} (h : RpO K G F H o (.bl i) v A) : v = .bl i := h.flat_ rfl
theorem RpO.str_ {o : Ow} {i : Str} {v : V} {A : List Addr} (h : RpO K G F H o (.str i) v A) : v = .str i := h.flat_ rfl
theorem RpO.non_ {o : Ow} {v : V} {A : List Addr} (h : RpO K G F H o .non v A) : v = .non := h.flat_ rfl
theorem RpO.lstE {o : Ow} {ds : List D} {v : V} {A : List Addr} (h : RpO K G F H o (.lst ds) v A) : ∃ p vs B, v = .ref p ∧ H p = some (.lst vs) ∧ RpL (RpO K G F H (kid o)) ds vs B := by
  cases o with
  | na => unfold RpO at h; exact h.elim
  | fz =>
    have q := (rpo_fz.mp h).2
    unfold Rp at q
    obtain ⟨p, vs, e, q1, q2⟩ := q
    exact ⟨p, vs, [], e, q1.2, rpl_fz.mpr ⟨rfl, q2⟩⟩
  | own o =>
    unfold RpO at h
    obtain ⟨p, vs, A', e, _, hp, hl⟩ := h
    exact ⟨p, vs, A', e, hp, hl⟩
theorem RpO.lstF {o : Ow} {ds : List D} {v : V} {A : List Addr} (h : RpO K G F H o (.lst ds) v A) (k : kid o = .fz) : ∃ p vs, v = .ref p ∧ H p = some (.lst vs) ∧ Rps K G F H ds vs := by
  obtain ⟨p, vs, B, e, hp, hl⟩ := h.lstE
  rw [k] at hl
  exact ⟨p, vs, e, hp, (rpl_fz.mp hl).2⟩
theorem RpO.tupE {o : Ow} {ds : List D} {v : V} {A : List Addr} (h : RpO K G F H o (.tup ds) v A) : ∃ p vs, v = .ref p ∧ F p ∧ H p = some (.tup vs) ∧ Rps K G F H ds vs := by
  have q : Rp K G F H (.tup ds) v := by
    cases o with
    | na => unfold RpO at h; exact h.elim
    | fz => exact (rpo_fz.mp h).2
    | own o => unfold RpO at h; exact h.2
  unfold Rp at q
  obtain ⟨p, vs, e, q1, q2⟩ := q
  exact ⟨p, vs, e, q1.1, q1.2, q2⟩
theorem RpO.objE {o : Ow} {c : Nat} {ds : List D} {v : V} {A : List Addr} (h : RpO K G F H o (.obj c ds) v A) : ∃ p dx vs B, v = .ref p ∧ H p = some (.ins (G.cls c) dx ((G.names c).zip vs)) ∧ vs.length ≤ (G.names c).length ∧ RpL (RpO K G F H (kid o)) ds vs B := by
  cases o with
  | na => unfold RpO at h; exact h.elim
  | fz =>
    have q := (rpo_fz.mp h).2
    unfold Rp at q
    obtain ⟨p, vs, e, ⟨_, dx, q1⟩, hl, q2⟩ := q
    exact ⟨p, dx, vs, [], e, q1, hl, rpl_fz.mpr ⟨rfl, q2⟩⟩
  | own o =>
    unfold RpO at h
    obtain ⟨p, vs, A', e, _, ⟨dx, hp⟩, hn, hl⟩ := h
    exact ⟨p, dx, vs, A', e, hp, hn, hl⟩
theorem RpO.dctE {o : Ow} {ks ds : List D} {v : V} {A : List Addr} (h : RpO K G F H o (.dct ks ds) v A) : ∃ p vs B, v = .ref p ∧ DctAt H p ks vs ∧ RpL (RpO K G F H (kid o)) ds vs B := by
  cases o with
  | na => unfold RpO at h; exact h.elim
  | fz =>
    have q := (rpo_fz.mp h).2
    unfold Rp at q
    obtain ⟨p, vs, e, q1, q2⟩ := q
    exact ⟨p, vs, [], e, q1.2, rpl_fz.mpr ⟨rfl, q2⟩⟩
  | own o =>
    unfold RpO at h
    obtain ⟨p, vs, A', e, _, hp, hl⟩ := h
    exact ⟨p, vs, A', e, hp, hl⟩
theorem RpO.scrE {o : Ow} {ns : List Int} {v : V} {A : List Addr} (h : RpO K G F H o (.scr ns) v A) : ∃ p, v = .ref p ∧ SqL K H p (ns.map V.int) := by
  have q : Rp K G F H (.scr ns) v := by
    cases o with
    | na => unfold RpO at h; exact h.elim
    | fz => exact (rpo_fz.mp h).2
    | own o => unfold RpO at h; exact h.2
  unfold Rp at q
  obtain ⟨p, e, q | q⟩ := q
  · exact ⟨p, e, .inl q.2⟩
  · exact ⟨p, e, .inr q⟩
theorem RpO.nonE {o : Ow} {d : D} {v : V} {A : List Addr} (h : RpO K G F H o d v A) : decide (v = .non) = isNon d := by
  cases d with
  | non => rw [h.non_]; rfl
  | bl b => rw [h.bl_]; rfl
  | int b => rw [h.int_]; rfl
  | str b => rw [h.str_]; rfl
  | tup ds => obtain ⟨p, vs, e, _⟩ := h.tupE; rw [e]; rfl
  | lst ds => obtain ⟨p, vs, B, e, _⟩ := h.lstE; rw [e]; rfl
  | obj c ds => obtain ⟨p, dx, vs, B, e, _⟩ := h.objE; rw [e]; rfl
  | dct ks ds => obtain ⟨p, vs, B, e, _⟩ := h.dctE; rw [e]; rfl
  | scr ns => obtain ⟨p, e, _⟩ := h.scrE; rw [e]; rfl
  | xc c fs =>
    have q : Rp K G F H (.xc c fs) v := by
      cases o with
      | na => unfold RpO at h; exact h.elim
      | fz => exact (rpo_fz.mp h).2
      | own o => unfold RpO at h; exact h.2
    unfold Rp at q
    obtain ⟨p, dd, ws, e, _⟩ := q
    rw [e]; rfl

/-- the answer is flat -/
theorem KV.flat_ {o : Ow} {Q : VK} {d : D} (k : KV K G .fz F H Q (.ok d)) (fi : FI F H) (f : flat d = true) : Q (vOf d) H := k F H _ [] (Ex.refl fi) (rpo_of (rp_flat f))
theorem KV.int_ {Q : VK} {i : Int} (k : KV K G .fz F H Q (.ok (.int i))) (fi : FI F H) : Q (.int i) H := k F H _ [] (Ex.refl fi) (rpo_of (rp_int.mpr rfl))
theorem KV.bl_ {Q : VK} {i : Bool} (k : KV K G .fz F H Q (.ok (.bl i))) (fi : FI F H) : Q (.bl i) H := k F H _ [] (Ex.refl fi) (rpo_of (rp_bl.mpr rfl))
theorem KV.str_ {Q : VK} {i : Str} (k : KV K G .fz F H Q (.ok (.str i))) (fi : FI F H) : Q (.str i) H := k F H _ [] (Ex.refl fi) (rpo_of (rp_str.mpr rfl))
theorem KV.non_ {Q : VK} (k : KV K G .fz F H Q (.ok .non)) (fi : FI F H) : Q .non H := k F H _ [] (Ex.refl fi) (rpo_of (rp_non.mpr rfl))
theorem KV.newL {Q : VK} {ds : List D} {vs : List V} (k : KV K G .fz F H Q (.ok (.lst ds))) (fi : FI F H) (r : Rps K G F H ds vs) (p : Addr) (hp : H p = none) : Q (.ref p) (upd H p (.lst vs)) :=
  k _ _ _ [] (Ex.new fi hp) (rpo_of (rp_lst (.inr rfl) upd_same (r.ex (Ex.new fi hp))))
theorem KV.newT {Q : VK} {ds : List D} {vs : List V} (k : KV K G .fz F H Q (.ok (.tup ds))) (fi : FI F H) (r : Rps K G F H ds vs) (p : Addr) (hp : H p = none) : Q (.ref p) (upd H p (.tup vs)) :=
  k _ _ _ [] (Ex.new fi hp) (rpo_of (rp_tup (.inr rfl) upd_same (r.ex (Ex.new fi hp))))
end

/-! ### operators by data -/
/-- a test that the kernel does not reckon -/
noncomputable def ndec (p : Prop) : Bool := @decide p (Classical.propDecidable p)
theorem ndec_iff {p : Prop} : ndec p = true ↔ p := @decide_eq_true_iff p (Classical.propDecidable p)
noncomputable def mulOk (i j : Int) : Bool := ndec ((-(2 ^ 64) < i ∧ i < 2 ^ 64) ∨ (-(2 ^ 64) < j ∧ j < 2 ^ 64) ∨ i.natAbs.log2 + j.natAbs.log2 < 1000000)
def addD : D → D → R D
  | .int i, .int j => .ok (.int (i + j))
  | .lst a, .lst b => if a.length + b.length ≤ szL then .ok (.lst (a ++ b)) else .st
  | .tup a, .tup b => if a.length + b.length ≤ szL then .ok (.tup (a ++ b)) else .st
  | .str a, .str b => if a.length + b.length ≤ szL then .ok (.str (a ++ b)) else .st
  | _, _ => .st
def subD : D → D → R D
  | .int i, .int j => .ok (.int (i - j))
  | _, _ => .st
noncomputable def mulD : D → D → R D
  | .int i, .int j => if mulOk i j then .ok (.int (i * j)) else .st
  | .lst a, .int k => if a.length * k.toNat ≤ szL ∧ -(2 ^ 63) ≤ k ∧ k < 2 ^ 63 then .ok (.lst (List.replicate k.toNat a).flatten) else .st
  | _, _ => .st
def fdivD : D → D → R D
  | .int i, .int j => if 0 < j ∧ j.natAbs.log2 < 9000 then .ok (.int (i / j)) else .st
  | _, _ => .st
def modD : D → D → R D
  | .int i, .int j => if 0 < j then .ok (.int (i % j)) else .st
  | _, _ => .st
def powD : D → D → R D
  | .int i, .int j => if 0 ≤ j ∧ j ≤ 1000000 ∧ i.natAbs < 2 ^ 64 then .ok (.int (i ^ j.toNat)) else .st
  | _, _ => .st
def negD : D → R D
  | .int i => .ok (.int (-i))
  | _ => .st
def cmpI (p : Int → Int → Bool) : D → D → R D
  | .int i, .int j => .ok (.bl (p i j))
  | _, _ => .st
def ltD := cmpI fun i j => decide (i < j)
def leD := cmpI fun i j => decide (i ≤ j)
def gtD := cmpI fun i j => decide (j < i)
def geD := cmpI fun i j => decide (j ≤ i)
/-- == of flat data of which at most one is a bool beside an int -/
def eqF : D → D → Option Bool
  | .non, .non => some true | .int i, .int j => some (decide (i = j)) | .bl i, .bl j => some (decide (i = j)) | .str i, .str j => some (decide (i = j))
  | .non, .int _ => some false | .int _, .non => some false | .non, .bl _ => some false | .bl _, .non => some false | .non, .str _ => some false | .str _, .non => some false
  | .int _, .str _ => some false | .str _, .int _ => some false | .bl _, .str _ => some false | .str _, .bl _ => some false
  | _, _ => none
def eqD (x y : D) : R D := match eqF x y with
  | some b => .ok (.bl b)
  | none => .st
def neD (x y : D) : R D := match eqF x y with
  | some b => .ok (.bl (!b))
  | none => .st
def isD : D → D → R D
  | x, .non => .ok (.bl (isNon x))
  | _, _ => .st
def isnotD : D → D → R D
  | x, .non => .ok (.bl (!isNon x))
  | _, _ => .st
theorem nx_add : NoX addD := by intro x y c fs; cases x <;> cases y <;> simp only [addD] <;> first | (intro h; cases h; done) | (split <;> intro h <;> cases h)
theorem nx_sub : NoX subD := by intro x y c fs; cases x <;> cases y <;> simp only [subD] <;> first | (intro h; cases h; done) | (split <;> intro h <;> cases h)
theorem nx_mul : NoX mulD := by intro x y c fs; cases x <;> cases y <;> simp only [mulD] <;> first | (intro h; cases h; done) | (split <;> intro h <;> cases h)
theorem nx_fdiv : NoX fdivD := by intro x y c fs; cases x <;> cases y <;> simp only [fdivD] <;> first | (intro h; cases h; done) | (split <;> intro h <;> cases h)
theorem nx_mod : NoX modD := by intro x y c fs; cases x <;> cases y <;> simp only [modD] <;> first | (intro h; cases h; done) | (split <;> intro h <;> cases h)
theorem nx_pow : NoX powD := by intro x y c fs; cases x <;> cases y <;> simp only [powD] <;> first | (intro h; cases h; done) | (split <;> intro h <;> cases h)
theorem nx_neg : NoX1 negD := by intro x c fs; cases x <;> simp only [negD] <;> (intro h; cases h)
theorem nx_cmp {p : Int → Int → Bool} : NoX (cmpI p) := by intro x y c fs; cases x <;> cases y <;> simp only [cmpI] <;> (intro h; cases h)
theorem nx_eq : NoX eqD := by intro x y c fs; unfold eqD; split <;> intro h <;> cases h
theorem nx_ne : NoX neD := by intro x y c fs; unfold neD; split <;> intro h <;> cases h
theorem nx_is : NoX isD := by intro x y c fs; cases y <;> simp only [isD] <;> (intro h; cases h)
theorem nx_isnot : NoX isnotD := by intro x y c fs; cases y <;> simp only [isnotD] <;> (intro h; cases h)

section
variable {X : Cx} {G : Gb} {W : WX} {O : List Ow} {F F' : Fr} {H H' : Hp} {σ : St} {ρ : Env}
theorem SqT.mk {K : PySem.W.Frag} {p : Addr} {vs : List V} (h : H p = some (.tup vs)) : SqT K H p vs := SqT.of h
theorem op_addA : OpR X (binaryOp .Add) (fun x y H Q => (rI0 fun i j => .int (i + j)) x y H Q ∨ (rCat x y H Q ∨ (rCatA X.K x y H Q ∨ ∃ i j, x = .str i ∧ y = .str j ∧ i.length + j.length ≤ sizeLine ∧ Q (.str (i ++ j)) H))) :=
  OpR.or op_add (OpR.or op_cat (OpR.or op_catA op_add_str))
theorem o_add {oa ob : Ow} (ha : kid oa = .fz) (hb : kid ob = .fz) : Op2 X.K G oa ob .fz (fun x y H Q => (rI0 fun i j => .int (i + j)) x y H Q ∨ (rCat x y H Q ∨ (rCatA X.K x y H Q ∨ ∃ i j, x = .str i ∧ y = .str j ∧ i.length + j.length ≤ sizeLine ∧ Q (.str (i ++ j)) H))) addD := by
  intro F H dx dy x y A B Q fi rx ry k
  cases dx with
  | int i =>
    cases dy with
    | int j => exact .inl ⟨i, j, rx.int_, ry.int_, k.int_ fi⟩
    | _ => exact k.elim
  | lst ds =>
    cases dy with
    | lst es =>
      obtain ⟨p, vs, e1, h1, r1⟩ := rx.lstF ha
      obtain ⟨q, ws, e2, h2, r2⟩ := ry.lstF hb
      simp only [addD] at k
      split at k
      · rename_i hz
        have hz2 : vs.length + ws.length ≤ sizeLine := by rw [szL_eq, r1.len, r2.len]; exact hz
        exact .inr (.inl ⟨p, q, vs, ws, e1, e2, h1, h2, hz2, fun a ha => k.newL fi (r1.append r2) a ha⟩)
      · exact k.elim
    | _ => exact k.elim
  | tup ds =>
    cases dy with
    | tup es =>
      obtain ⟨p, vs, e1, f1, h1, r1⟩ := rx.tupE
      obtain ⟨q, ws, e2, f2, h2, r2⟩ := ry.tupE
      simp only [addD] at k
      split at k
      · rename_i hz
        have hz2 : vs.length + ws.length ≤ sizeLine := by rw [szL_eq, r1.len, r2.len]; exact hz
        refine .inr (.inr (.inl ⟨p, q, vs, ws, e1, e2, SqT.of h1, SqT.of h2, hz2, fun z => ?_, fun _ z => ?_, fun _ _ a ha => k.newT fi (r1.append r2) a ha⟩))
        · subst z
          have : ds = [] := List.length_eq_zero_iff.mp (by rw [← r1.len]; rfl)
          subst this
          exact k F H _ [] (Ex.refl fi) (rpo_of (rp_tup f2 h2 r2))
        · subst z
          have : es = [] := List.length_eq_zero_iff.mp (by rw [← r2.len]; rfl)
          subst this
          exact k F H _ [] (Ex.refl fi) (rpo_of (rp_tup f1 h1 (by rw [List.append_nil]; exact r1)))
      · exact k.elim
    | _ => exact k.elim
  | str i =>
    cases dy with
    | str j =>
      simp only [addD] at k
      split at k
      · rename_i hz
        exact .inr (.inr (.inr ⟨i, j, rx.str_, ry.str_, by rw [szL_eq]; exact hz, k.str_ fi⟩))
      · exact k.elim
    | _ => exact k.elim
  | _ => exact k.elim
theorem o_sub {oa ob : Ow} : Op2 X.K G oa ob .fz (rI0 fun i j => .int (i - j)) subD := by
  intro F H dx dy x y A B Q fi rx ry k
  cases dx <;> first | (exact k.elim) | skip
  cases dy <;> first | (exact k.elim) | skip
  exact ⟨_, _, rx.int_, ry.int_, k.int_ fi⟩
theorem op_mulA : OpR X (binaryOp .Mult) (fun x y H Q => (rI (fun i j => mulOk i j = true) fun i j => .int (i * j)) x y H Q ∨ rRep x y H Q) := by
  refine OpR.or ?_ op_rep
  exact opI fun i j _ _ _ _ _ hc q => mul_int q (by
    unfold mulOk at hc
    rcases ndec_iff.mp hc with hc | hc | hc
    · exact CMul.ok (.inl hc)
    · exact CMul.ok (.inr hc)
    · exact CMulW.ok hc)
theorem o_mul {oa ob : Ow} (ha : kid oa = .fz) : Op2 X.K G oa ob .fz (fun x y H Q => (rI (fun i j => mulOk i j = true) fun i j => .int (i * j)) x y H Q ∨ rRep x y H Q) mulD := by
  intro F H dx dy x y A B Q fi rx ry k
  cases dx with
  | int i =>
    cases dy with
    | int j =>
      simp only [mulD] at k
      split at k
      · rename_i hz
        exact .inl ⟨i, j, rx.int_, ry.int_, hz, k.int_ fi⟩
      · exact k.elim
    | _ => exact k.elim
  | lst ds =>
    cases dy with
    | int j =>
      obtain ⟨p, vs, e1, h1, r1⟩ := rx.lstF ha
      simp only [mulD] at k
      split at k
      · rename_i hz
        refine .inr ⟨p, j, vs, e1, ry.int_, h1, hz.2.1, hz.2.2, by rw [szL_eq, r1.len]; exact hz.1, fun a ha => k.newL fi ?_ a ha⟩
        have key : ∀ n : Nat, Rps X.K G F H (List.replicate n ds).flatten (List.replicate n vs).flatten := by
          intro n
          induction n with
          | zero => exact rps_nil
          | succ n ih =>
            rw [List.replicate_succ, List.replicate_succ, List.flatten_cons, List.flatten_cons]
            exact r1.append ih
        exact key _
      · exact k.elim
    | _ => exact k.elim
  | _ => exact k.elim
theorem op_fdivA : OpR X (binaryOp .FloorDiv) (rI CDivW fun i j => .int (i / j)) := op_fdivW
theorem o_fdiv {oa ob : Ow} : Op2 X.K G oa ob .fz (rI CDivW fun i j => .int (i / j)) fdivD := by
  intro F H dx dy x y A B Q fi rx ry k
  cases dx <;> first | (exact k.elim) | skip
  cases dy <;> first | (exact k.elim) | skip
  simp only [fdivD] at k
  split at k
  · rename_i hz
    exact ⟨_, _, rx.int_, ry.int_, hz, k.int_ fi⟩
  · exact k.elim
theorem o_mod {oa ob : Ow} : Op2 X.K G oa ob .fz (rI (fun _ j => 0 < j) fun i j => .int (i % j)) modD := by
  intro F H dx dy x y A B Q fi rx ry k
  cases dx <;> first | (exact k.elim) | skip
  cases dy <;> first | (exact k.elim) | skip
  simp only [modD] at k
  split at k
  · rename_i hz
    exact ⟨_, _, rx.int_, ry.int_, hz, k.int_ fi⟩
  · exact k.elim
theorem o_pow {oa ob : Ow} : Op2 X.K G oa ob .fz (rI CPow fun i j => .int (i ^ j.toNat)) powD := by
  intro F H dx dy x y A B Q fi rx ry k
  cases dx <;> first | (exact k.elim) | skip
  cases dy <;> first | (exact k.elim) | skip
  simp only [powD] at k
  split at k
  · rename_i hz
    exact ⟨_, _, rx.int_, ry.int_, hz, k.int_ fi⟩
  · exact k.elim
theorem o_neg {oa : Ow} : Op1 X.K G oa .fz (rU fun i => .int (-i)) negD := by
  intro F H dx x A Q fi rx k
  cases dx <;> first | (exact k.elim) | skip
  exact ⟨_, rx.int_, k.int_ fi⟩
theorem o_cmp {oa ob : Ow} {p : Int → Int → Bool} : Op2 X.K G oa ob .fz (rI0 fun i j => .bl (p i j)) (cmpI p) := by
  intro F H dx dy x y A B Q fi rx ry k
  cases dx <;> first | (exact k.elim) | skip
  cases dy <;> first | (exact k.elim) | skip
  exact ⟨_, _, rx.int_, ry.int_, k.bl_ fi⟩
theorem eqF_ok {K : PySem.W.Frag} {G : Gb} {F : Fr} {H : Hp} {oa ob : Ow} {dx dy : D} {x y : V} {A B : List Addr} {b : Bool} (rx : RpO K G F H oa dx x A) (ry : RpO K G F H ob dy y B) (h : eqF dx dy = some b) : scal x y = true ∧ decide (x = y) = b := by
  have fx : flat dx = true := by cases dx <;> first | rfl | cases h
  have fy : flat dy = true := by cases dx <;> cases dy <;> first | rfl | cases h
  rw [rx.flat_ fx, ry.flat_ fy]
  cases dx <;> cases dy <;> first | (cases h; done) | skip
  all_goals
    unfold eqF at h
    cases h
    first | exact ⟨rfl, by simp [vOf]⟩ | exact ⟨rfl, rfl⟩
theorem o_eq {oa ob : Ow} : Op2 X.K G oa ob .fz rEq eqD := by
  intro F H dx dy x y A B Q fi rx ry k
  unfold eqD at k
  split at k
  · rename_i b e
    obtain ⟨h1, h2⟩ := eqF_ok rx ry e
    refine ⟨h1, ?_⟩
    rw [h2]
    exact k.bl_ fi
  · exact k.elim
theorem o_ne {oa ob : Ow} : Op2 X.K G oa ob .fz rNe neD := by
  intro F H dx dy x y A B Q fi rx ry k
  unfold neD at k
  split at k
  · rename_i b e
    obtain ⟨h1, h2⟩ := eqF_ok rx ry e
    refine ⟨h1, ?_⟩
    rw [h2]
    exact k.bl_ fi
  · exact k.elim
theorem o_is {oa ob : Ow} : Op2 X.K G oa ob .fz (fun x y H Q => y = .non ∧ Q (.bl (decide (x = .non))) H) isD := by
  intro F H dx dy x y A B Q fi rx ry k
  cases dy <;> first | (exact k.elim) | skip
  refine ⟨ry.non_, ?_⟩
  rw [rx.nonE]
  exact k.bl_ fi
theorem o_isnot {oa ob : Ow} : Op2 X.K G oa ob .fz (fun x y H Q => y = .non ∧ Q (.bl (!decide (x = .non))) H) isnotD := by
  intro F H dx dy x y A B Q fi rx ry k
  cases dy <;> first | (exact k.elim) | skip
  refine ⟨ry.non_, ?_⟩
  rw [rx.nonE]
  exact k.bl_ fi

/-! the rules -/
variable {a b : Expr} {pos : Pos} {fa fb : Env → R D} {oa ob : Ow}
theorem gb_add (ha : GB X G W O oa a fa) (hb : GB X G W O ob b fb) (ka : kid oa = .fz := by rfl) (kb : kid ob = .fz := by rfl) : GB X G W O .fz (.BinOp a .Add b pos) (bin addD fa fb) := gb_op op_addA (o_add ka kb) nx_add ha hb
theorem gb_sub (ha : GB X G W O oa a fa) (hb : GB X G W O ob b fb) : GB X G W O .fz (.BinOp a .Sub b pos) (bin subD fa fb) := gb_op op_sub o_sub nx_sub ha hb
theorem gb_mul (ha : GB X G W O oa a fa) (hb : GB X G W O ob b fb) (ka : kid oa = .fz := by rfl) : GB X G W O .fz (.BinOp a .Mult b pos) (bin mulD fa fb) := gb_op op_mulA (o_mul ka) nx_mul ha hb
theorem gb_fdiv (ha : GB X G W O oa a fa) (hb : GB X G W O ob b fb) : GB X G W O .fz (.BinOp a .FloorDiv b pos) (bin fdivD fa fb) := gb_op op_fdivA o_fdiv nx_fdiv ha hb
theorem gb_mod (ha : GB X G W O oa a fa) (hb : GB X G W O ob b fb) : GB X G W O .fz (.BinOp a .Mod b pos) (bin modD fa fb) := gb_op op_mod o_mod nx_mod ha hb
theorem gb_pow (ha : GB X G W O oa a fa) (hb : GB X G W O ob b fb) : GB X G W O .fz (.BinOp a .Pow b pos) (bin powD fa fb) := gb_op op_pow o_pow nx_pow ha hb
theorem gb_neg (ha : GB X G W O oa a fa) : GB X G W O .fz (.UnaryOp .USub a pos) (un1 negD fa) := by
  obtain ⟨t, p, i⟩ := ha
  exact ⟨_, pe_un un_neg p, imp_un o_neg nx_neg i⟩
theorem gb_lt (ha : GB X G W O oa a fa) (hb : GB X G W O ob b fb) : GB X G W O .fz (.Compare a [.Lt] [b] pos) (bin ltD fa fb) := gb_cmp op_lt o_cmp nx_cmp ha hb
theorem gb_le (ha : GB X G W O oa a fa) (hb : GB X G W O ob b fb) : GB X G W O .fz (.Compare a [.LtE] [b] pos) (bin leD fa fb) := gb_cmp op_le o_cmp nx_cmp ha hb
theorem gb_gt (ha : GB X G W O oa a fa) (hb : GB X G W O ob b fb) : GB X G W O .fz (.Compare a [.Gt] [b] pos) (bin gtD fa fb) := gb_cmp op_gt o_cmp nx_cmp ha hb
theorem gb_ge (ha : GB X G W O oa a fa) (hb : GB X G W O ob b fb) : GB X G W O .fz (.Compare a [.GtE] [b] pos) (bin geD fa fb) := gb_cmp op_ge o_cmp nx_cmp ha hb
theorem gb_eq (ha : GB X G W O oa a fa) (hb : GB X G W O ob b fb) : GB X G W O .fz (.Compare a [.Eq] [b] pos) (bin eqD fa fb) := gb_cmp op_eq o_eq nx_eq ha hb
theorem gb_ne (ha : GB X G W O oa a fa) (hb : GB X G W O ob b fb) : GB X G W O .fz (.Compare a [.NotEq] [b] pos) (bin neD fa fb) := gb_cmp op_ne o_ne nx_ne ha hb
theorem gb_is (ha : GB X G W O oa a fa) (hb : GB X G W O ob b fb) : GB X G W O .fz (.Compare a [.Is] [b] pos) (bin isD fa fb) := gb_cmp op_isN o_is nx_is ha hb
theorem gb_isnot (ha : GB X G W O oa a fa) (hb : GB X G W O ob b fb) : GB X G W O .fz (.Compare a [.IsNot] [b] pos) (bin isnotD fa fb) := gb_cmp op_notN o_isnot nx_isnot ha hb
theorem gt_lt (ha : GB X G W O oa a fa) (hb : GB X G W O ob b fb) : GT X G W O (.Compare a [.Lt] [b] pos) (tst (bin ltD fa fb)) := gt_cmp op_lt o_cmp nx_cmp ha hb
theorem gt_le (ha : GB X G W O oa a fa) (hb : GB X G W O ob b fb) : GT X G W O (.Compare a [.LtE] [b] pos) (tst (bin leD fa fb)) := gt_cmp op_le o_cmp nx_cmp ha hb
theorem gt_gt (ha : GB X G W O oa a fa) (hb : GB X G W O ob b fb) : GT X G W O (.Compare a [.Gt] [b] pos) (tst (bin gtD fa fb)) := gt_cmp op_gt o_cmp nx_cmp ha hb
theorem gt_ge (ha : GB X G W O oa a fa) (hb : GB X G W O ob b fb) : GT X G W O (.Compare a [.GtE] [b] pos) (tst (bin geD fa fb)) := gt_cmp op_ge o_cmp nx_cmp ha hb
theorem gt_eq (ha : GB X G W O oa a fa) (hb : GB X G W O ob b fb) : GT X G W O (.Compare a [.Eq] [b] pos) (tst (bin eqD fa fb)) := gt_cmp op_eq o_eq nx_eq ha hb
theorem gt_ne (ha : GB X G W O oa a fa) (hb : GB X G W O ob b fb) : GT X G W O (.Compare a [.NotEq] [b] pos) (tst (bin neD fa fb)) := gt_cmp op_ne o_ne nx_ne ha hb
theorem gt_is (ha : GB X G W O oa a fa) (hb : GB X G W O ob b fb) : GT X G W O (.Compare a [.Is] [b] pos) (tst (bin isD fa fb)) := gt_cmp op_isN o_is nx_is ha hb
theorem gt_isnot (ha : GB X G W O oa a fa) (hb : GB X G W O ob b fb) : GT X G W O (.Compare a [.IsNot] [b] pos) (tst (bin isnotD fa fb)) := gt_cmp op_notN o_isnot nx_isnot ha hb
end
end NW
end

section
set_option Elab.async false
set_option linter.all false
set_option maxRecDepth 100000
/-! NWd: subscripts, fields, arguments, displays, built-ins, calls of defs. -/
namespace NW
open PySem PySem.Spec L2
open PyProof.Rows hiding St

/-! ### arguments -/
section
variable {X : Cx} {G : Gb} {W : WX} {O : List Ow} {F F' : Fr} {H H' : Hp} {σ : St} {ρ : Env}
def nilA : Env → R (List D) := fun _ => .ok []
def consA (f : Env → R D) (g : Env → R (List D)) : Env → R (List D) := fun ρ => (f ρ).bind fun x => (g ρ).bind fun xs => .ok (x :: xs)
theorem ga_nil : GA X G W O [] [] nilA := ⟨_, pa_nil, fun F σ H ρ Q s k => k F H [] (Ex.refl s.1) (by unfold RpA; exact ⟨rfl, rfl⟩)⟩
theorem imp_seqA {os : List Ow} {ta : TA} {fa : Env → R (List D)} {g : List D → R (List D)} {os' : List Ow} {Q : List V → Hp → Prop} {R' : List V → Hp → Prop} (ia : ImpA X.K G W O os ta fa) (s : SS X.K G O F σ H ρ) (k : KA X.K G W os' F σ H Q ((fa ρ).bind g))
    (h : ∀ ds F' H' vs, Ex F H F' H' → RpA X.K G os F' H' ds vs → KA X.K G W os' F' σ H' Q (g ds) → R' vs H') : ta σ H R' := by
  refine ia F σ H ρ _ s ?_
  revert k
  cases fa ρ with
  | ok d => exact fun k F' H' v e r => h d F' H' v e r (k.ex e)
  | ex c fs => exact fun k => k
  | st => exact fun k => k
theorem imp_seqBA {oa : Ow} {ta : TE} {fa : Env → R D} {g : D → R (List D)} {os : List Ow} {Q : List V → Hp → Prop} {R' : V → Hp → Prop} (ia : ImpB X.K G W O oa ta fa) (s : SS X.K G O F σ H ρ) (k : KA X.K G W os F σ H Q ((fa ρ).bind g))
    (h : ∀ d F' H' v A, Ex F H F' H' → RpO X.K G F' H' oa d v A → KA X.K G W os F' σ H' Q (g d) → R' v H') : ta σ H R' := by
  refine ia F σ H ρ _ s ?_
  revert k
  cases fa ρ with
  | ok d => exact fun k F' H' v A e r => h d F' H' v A e r (k.ex e)
  | ex c fs => exact fun k => k
  | st => exact fun k => k
theorem ga_cons {o : Ow} {os : List Ow} {e : Expr} {es : List Expr} {f : Env → R D} {g : Env → R (List D)} (h : GB X G W O o e f) (h2 : GA X G W O os es g)
    (hs : starEach (e :: es) X.env = (false, eval e X.env) :: starEach es X.env := by rfl) : GA X G W O (o :: os) (e :: es) (consA f g) := by
  obtain ⟨t, p, i⟩ := h
  obtain ⟨u, q, j⟩ := h2
  refine ⟨_, pa_cons p q hs, fun F σ H ρ Q s k => ?_⟩
  refine imp_seqBA (ta := t) i s k fun d F1 H1 v A e1 r1 k1 => ?_
  refine imp_seqA (ta := u) j (s.ex e1) k1 fun ds F2 H2 vs e2 r2 k2 => ?_
  exact k2 F2 H2 (v :: vs) (Ex.refl e2.fi) (by unfold RpA; exact ⟨d, v, A, ds, vs, rfl, rfl, r1.ex e2, r2⟩)
def allFz (os : List Ow) : Bool := os.all fun o => decide (o = .fz)
theorem rpa_all {K : PySem.W.Frag} : ∀ {os : List Ow} {ds : List D} {vs : List V}, RpA K G os F H ds vs → allFz os = true → Rps K G F H ds vs ∧ ds.length = os.length
  | [], _, _, h, _ => by unfold RpA at h; rw [h.1, h.2]; exact ⟨rps_nil, rfl⟩
  | o :: os, _, _, h, a => by
    unfold RpA at h
    obtain ⟨d, v, A, dr, vr, rfl, rfl, h1, h2⟩ := h
    unfold allFz at a
    rw [List.all_cons, Bool.and_eq_true, decide_eq_true_eq] at a
    obtain ⟨a1, a2⟩ := a
    subst a1
    obtain ⟨h3, h4⟩ := rpa_all h2 a2
    exact ⟨rps_cons (rpo_fz.mp h1).2 h3, by simp [h4]⟩

/-! ### displays -/
def tupD (f : Env → R (List D)) : Env → R D := fun ρ => (f ρ).bind fun ds => if ds.length ≤ szL then .ok (.tup ds) else .st
def lstD (f : Env → R (List D)) : Env → R D := fun ρ => (f ρ).bind fun ds => if ds.length ≤ szL then .ok (.lst ds) else .st
theorem imp_A2 {os : List Ow} {ta : TA} {fa : Env → R (List D)} {g : List D → R D} {o : Ow} {Q : VK} {R' : List V → Hp → Prop} (ia : ImpA X.K G W O os ta fa) (s : SS X.K G O F σ H ρ) (k : KB X.K G W o F σ H Q ((fa ρ).bind g))
    (h : ∀ ds F' H' vs, Ex F H F' H' → RpA X.K G os F' H' ds vs → KB X.K G W o F' σ H' Q (g ds) → R' vs H') : ta σ H R' := by
  refine ia F σ H ρ _ s ?_
  revert k
  cases fa ρ with
  | ok d => exact fun k F' H' v e r => h d F' H' v e r (k.ex e)
  | ex c fs => exact fun k => k
  | st => exact fun k => k
theorem imp_A2N {os : List Ow} {ta : TA} {fa : Env → R (List D)} {g : List D → R D} {o : Ow} {Q : VK} {R' : List V → Hp → Prop} (ia : ImpA X.K G W O os ta fa) (s : SS X.K G O F σ H ρ) (k : KN X.K G W o F σ H Q ((fa ρ).bind g))
    (h : ∀ ds F' H' vs, Ex F H F' H' → RpA X.K G os F' H' ds vs → KN X.K G W o F' σ H' Q (g ds) → R' vs H') : ta σ H R' := by
  refine ia F σ H ρ _ s ?_
  revert k
  cases fa ρ with
  | ok d => exact fun k F' H' v e r => h d F' H' v e r (k.ex e)
  | ex c fs => exact fun k => k
  | st => exact fun k => k
/-- a new list is owned -/
theorem KN.newL {K : PySem.W.Frag} {Q : VK} {ds : List D} {vs : List V} (k : KN K G W (.own .fz) F σ H Q (.ok (.lst ds))) (fi : FI F H) (r : Rps K G F H ds vs) (p : Addr) (hp : H p = none) : Q (.ref p) (upd H p (.lst vs)) := by
  have e : Ex F H F (upd H p (.lst vs)) := Ex.laid fi hp
  refine k F _ (.ref p) [p] e ?_ (List.nodup_cons.mpr ⟨by simp, List.nodup_nil⟩) fun a ha => ?_
  · unfold RpO
    exact ⟨p, vs, [], rfl, rfl, upd_same, rpl_fz.mpr ⟨rfl, r.ex e⟩⟩
  · rw [List.mem_singleton] at ha
    subst ha
    exact ⟨hp, fun q => by obtain ⟨u, z⟩ := fi a q; rw [hp] at z; cases z⟩
theorem gb_tup {os : List Ow} {es : List Expr} {x1 pos} {f : Env → R (List D)} (h : GA X G W O os es f) (a : allFz os = true := by rfl) : GB X G W O .fz (.Tuple es x1 pos) (tupD f) := by
  obtain ⟨t, p, i⟩ := h
  refine ⟨_, pe_tup p, fun F σ H ρ Q s k => ?_⟩
  refine imp_A2 (ta := t) i s k fun ds F1 H1 vs e r k1 => ?_
  obtain ⟨r1, _⟩ := rpa_all r a
  split at k1
  · rename_i hz
    refine ⟨by rw [szL_eq, r1.len]; exact hz, fun p hp => ?_⟩
    exact k1 _ _ _ [] (Ex.new e.fi hp) (rpo_of (rp_tup (.inr rfl) upd_same (r1.ex (Ex.new e.fi hp))))
  · exact k1.elim
theorem gn_lst {os : List Ow} {es : List Expr} {pos} {f : Env → R (List D)} (h : GA X G W O os es f) (a : allFz os = true := by rfl) : GN X G W O (.own .fz) (.List es pos) (lstD f) := by
  obtain ⟨t, p, i⟩ := h
  refine ⟨_, pe_lst p, fun F σ H ρ Q s k => ?_⟩
  refine imp_A2N (ta := t) i s k fun ds F1 H1 vs e r k1 => ?_
  obtain ⟨r1, _⟩ := rpa_all r a
  split at k1
  · rename_i hz
    exact ⟨by rw [szL_eq, r1.len]; exact hz, fun p hp => k1.newL e.fi r1 p hp⟩
  · exact k1.elim

/-! ### subscripts -/
def opt {α : Type} : Option α → R α
  | some a => .ok a
  | none => .st
def ixD : D → D → R D
  | .lst ds, .int i => opt (atI ds i)
  | .tup ds, .int i => opt (atI ds i)
  | .scr ns, .int i => (opt (atI ns i)).bind fun n => .ok (.int n)
  | .str z, .int i => if z.length ≤ szL then (opt (atI z.cps.toList i)).bind fun c => .ok (.str ⟨#[c]⟩) else .st
  | _, _ => .st
theorem nx_opt {c : Nat} {fs : List D} {α : Type} {o : Option α} : opt o ≠ .ex c fs := by cases o <;> intro h <;> cases h
theorem nx_optb {c : Nat} {fs : List D} {α β : Type} {o : Option α} {g : α → β} : ((opt o).bind fun n => R.ok (g n)) ≠ .ex c fs := by cases o <;> intro h <;> cases h
theorem nx_ix : NoX ixD := by
  intro x y c fs
  cases x <;> cases y <;> simp only [ixD] <;> first | (intro h; cases h; done) | exact nx_opt | exact nx_optb | (split <;> first | exact nx_optb | (intro h; cases h; done))
theorem atI_some {α : Type} {xs : List α} {i : Int} {v : α} (h : atI xs i = some v) : ∃ j, ixN xs.length i = some j ∧ xs[j]? = some v := by
  unfold atI at h
  cases e : ixN xs.length i with
  | none => rw [e] at h; cases h
  | some j => rw [e] at h; exact ⟨j, rfl, h⟩
theorem atI_same {α β : Type} {xs : List α} {ys : List β} {i : Int} {j : Nat} {v : β} (hl : ys.length = xs.length) (h : ixN xs.length i = some j) (e : ys[j]? = some v) : atI ys i = some v := by
  unfold atI
  rw [hl, h]
  exact e
theorem o_ix {oa ob : Ow} (ha : kid oa = .fz) : Op2 X.K G oa ob .fz (rIx X.K) ixD := by
  intro F H dx dy x y A B Q fi rx ry k
  cases dx <;> first | exact k.elim | skip
  all_goals cases dy <;> first | exact k.elim | skip
  · -- str
    rename_i z i
    simp only [ixD] at k
    split at k
    · rename_i hz
      cases e : atI z.cps.toList i with
      | none => rw [e] at k; exact k.elim
      | some c =>
        rw [e] at k
        exact .inr (.inr ⟨z, i, c, rx.str_, ry.int_, by rw [szL_eq]; exact hz, e, KV.str_ k fi⟩)
    · exact k.elim
  · -- tup
    rename_i ds i
    obtain ⟨p, vs, ep, fp, hp, r⟩ := rx.tupE
    simp only [ixD] at k
    cases e : atI ds i with
    | none => rw [e] at k; exact k.elim
    | some d =>
      rw [e] at k
      obtain ⟨j, h1, h2⟩ := atI_some e
      obtain ⟨v, h3, h4⟩ := r.get h2
      exact .inr (.inl ⟨p, vs, i, v, ep, ry.int_, SqT.of hp, atI_same r.len h1 h3, k F H v [] (Ex.refl fi) (rpo_of h4)⟩)
  · -- lst
    rename_i ds i
    obtain ⟨p, vs, ep, hp, r⟩ := rx.lstF ha
    simp only [ixD] at k
    cases e : atI ds i with
    | none => rw [e] at k; exact k.elim
    | some d =>
      rw [e] at k
      obtain ⟨j, h1, h2⟩ := atI_some e
      obtain ⟨v, h3, h4⟩ := r.get h2
      exact .inl ⟨p, vs, i, v, ep, ry.int_, SqL.of hp, atI_same r.len h1 h3, k F H v [] (Ex.refl fi) (rpo_of h4)⟩
  · -- scr
    rename_i ns i
    obtain ⟨p, ep, hp⟩ := rx.scrE
    simp only [ixD] at k
    cases e : atI ns i with
    | none => rw [e] at k; exact k.elim
    | some n =>
      rw [e] at k
      obtain ⟨j, h1, h2⟩ := atI_some e
      exact .inl ⟨p, _, i, .int n, ep, ry.int_, hp, atI_same (by simp) h1 (by rw [List.getElem?_map, h2]; rfl), KV.int_ k fi⟩
theorem gb_ix {oa ob : Ow} {a b : Expr} {pos : Pos} {fa fb : Env → R D} (ha : GB X G W O oa a fa) (hb : GB X G W O ob b fb) (k : kid oa = .fz := by rfl) (hs : PlainIx b := by exact fun _ _ => rfl) : GB X G W O .fz (.Subscript a b pos) (bin ixD fa fb) := by
  obtain ⟨ta, pa, ia⟩ := ha
  obtain ⟨tb, pb, ib⟩ := hb
  exact ⟨_, pe_ix ix_seq pa pb hs, imp_op2 (o_ix k) nx_ix ia ib⟩
/-- an item of a list of ours, itself ours -/
def ixO : D → D → R D
  | .lst ds, .int i => opt (atI ds i)
  | _, _ => .st
theorem nx_ixO : NoX ixO := by
  intro x y c fs
  cases x <;> cases y <;> simp only [ixO] <;> first | (intro h; cases h; done) | exact nx_opt
theorem o_ixO {o ob : Ow} : Op2 X.K G (.own o) ob o (rIxL X.K) ixO := by
  intro F H dx dy x y A B Q fi rx ry k
  cases dx <;> first | exact k.elim | skip
  cases dy <;> first | exact k.elim | skip
  rename_i ds i
  obtain ⟨p, vs, A', ep, hp, r⟩ := rx.lstE
  simp only [ixO] at k
  cases e : atI ds i with
  | none => rw [e] at k; exact k.elim
  | some d =>
    rw [e] at k
    obtain ⟨j, h1, h2⟩ := atI_some e
    obtain ⟨v, A2, h3, h4, _⟩ := r.get h2
    exact ⟨p, vs, i, v, ep, ry.int_, SqL.of hp, atI_same r.len h1 h3, k F H v A2 (Ex.refl fi) h4⟩
theorem gb_ixO {o ob : Ow} {a b : Expr} {pos : Pos} {fa fb : Env → R D} (ha : GB X G W O (.own o) a fa) (hb : GB X G W O ob b fb) (hs : PlainIx b := by exact fun _ _ => rfl) : GB X G W O o (.Subscript a b pos) (bin ixO fa fb) := by
  obtain ⟨ta, pa, ia⟩ := ha
  obtain ⟨tb, pb, ib⟩ := hb
  exact ⟨_, pe_ix ix_list pa pb hs, imp_op2 o_ixO nx_ixO ia ib⟩

/-! ### fields -/
theorem lookup_zip : ∀ {ns : List Str} {vs : List V} {k : Nat} {x : Str} {v : V}, ns.Nodup → ns[k]? = some x → vs[k]? = some v → (ns.zip vs).lookup x = some v
  | n :: ns, w :: vs, 0, x, v, _, h1, h2 => by
    simp at h1 h2; subst h1 h2
    simp [List.lookup]
  | n :: ns, w :: vs, k + 1, x, v, nd, h1, h2 => by
    have nd2 := List.nodup_cons.mp nd
    have ne : ¬ x = n := fun e => nd2.1 (e ▸ List.mem_of_getElem? (show ns[k]? = some x by simpa using h1))
    have ih := lookup_zip (k := k) nd2.2 (by simpa using h1) (by simpa using h2)
    show List.lookup x ((n, w) :: ns.zip vs) = some v
    rw [List.lookup_cons]
    have : (x == n) = false := by simpa using ne
    rw [this]
    exact ih
  | [], _, _, _, _, _, h1, _ => by simp at h1
  | _ :: _, [], _, _, _, _, _, h2 => by simp at h2
theorem lookup_zip_none : ∀ {ns : List Str} {vs : List V} {x : Str}, x ∉ ns → (ns.zip vs).lookup x = none
  | [], _, _, _ => rfl
  | _ :: _, [], _, _ => rfl
  | n :: ns, w :: vs, x, h => by
    have h2 : x ≠ n ∧ x ∉ ns := by simpa using h
    show List.lookup x ((n, w) :: ns.zip vs) = none
    rw [List.lookup_cons]
    have : (x == n) = false := by simpa using h2.1
    rw [this]
    exact lookup_zip_none h2.2
/-- what is known of a field -/
structure Fld (K : PySem.W.Frag) (G : Gb) (c k : Nat) (f : Str) : Prop where
  cl : Cls K (G.cls c)
  no : NoAttr K (G.cls c) f
  at_ : (G.names c)[k]? = some f
  nd : (G.names c).Nodup
def fldD (c k : Nat) : D → R D
  | .obj c' ds => if c' = c then opt ds[k]? else .st
  | _ => .st
theorem nx_fld {c k : Nat} : NoX1 (fldD c k) := by
  intro x d fs
  cases x <;> simp only [fldD] <;> first | (intro h; cases h; done) | (split <;> first | exact nx_opt | (intro h; cases h; done))
theorem imp_un2 {oa oo : Ow} {op : D → R D} {ta t : TE} {fa : Env → R D} (hr : ∀ σ H Q, (ta σ H fun x H1 => (∃ F dx A, FI F H1 ∧ RpO X.K G F H1 oa dx x A ∧ KV X.K G oo F H1 Q (op dx))) → t σ H Q) (nx : NoX1 op) (ia : ImpB X.K G W O oa ta fa) : ImpB X.K G W O oo t (un1 op fa) := fun F σ H ρ Q s k => by
  refine hr σ H Q ?_
  refine imp_seq (ta := ta) ia s k fun dx F1 H1 x A e1 r1 k1 => ?_
  exact ⟨F1, dx, A, e1.fi, r1, KV.kb k1 (nx dx)⟩
theorem gb_fldO {c k : Nat} {o oo : Ow} {e : Expr} {f : Str} {pos : Pos} {fa : Env → R D} (h : GB X G W O o e fa) (T : Fld X.K G c k f) (hk : kid o = oo) (hb : attributeBase e f X.env (eval e X.env) = eval e X.env := by rfl) : GB X G W O oo (.Attribute e f pos) (un1 (fldD c k) fa) := by
  obtain ⟨t, p, i⟩ := h
  refine ⟨_, pe_fld p hb, fun F σ H ρ Q s k => ?_⟩
  refine imp_seq (ta := t) i s k fun dx F1 H1 x A e1 r1 k1 => ?_
  cases dx <;> first | exact (show False from k1).elim | skip
  rename_i c' ds
  simp only [fldD] at k1
  split at k1
  · rename_i hc
    subst hc
    obtain ⟨a, dx, vs, B, ex, ha, hl, rl⟩ := r1.objE
    rename_i k0
    cases q : ds[k0]? with
    | none => rw [q] at k1; exact (show False from k1).elim
    | some d =>
      rw [q] at k1
      obtain ⟨v, B2, q1, q2, _⟩ := rl.get q
      rw [hk] at q2
      exact ⟨a, _, dx, _, v, ex, ha, T.cl, T.no, lookup_zip T.nd T.at_ q1, k1 F1 H1 v B2 (Ex.refl e1.fi) q2⟩
  · exact (show False from k1).elim
theorem gb_fld {c k : Nat} {o : Ow} {e : Expr} {f : Str} {pos : Pos} {fa : Env → R D} (h : GB X G W O o e fa) (T : Fld X.K G c k f) (hk : kid o = .fz := by rfl) (hb : attributeBase e f X.env (eval e X.env) = eval e X.env := by rfl) : GB X G W O .fz (.Attribute e f pos) (un1 (fldD c k) fa) := gb_fldO h T hk hb

/-! ### built-ins by data -/
def OpA (K : PySem.W.Frag) (G : Gb) (os : List Ow) (r : List V → Hp → VK → Prop) (op : List D → R D) : Prop :=
  ∀ F H ds vs Q, FI F H → RpA K G os F H ds vs → KV K G .fz F H Q (op ds) → r vs H Q
def callA (op : List D → R D) (f : Env → R (List D)) : Env → R D := fun ρ => (f ρ).bind op
theorem imp_opA {os : List Ow} {r : List V → Hp → VK → Prop} {op : List D → R D} {t : TA} {f : Env → R (List D)} (hr : OpA X.K G os r op) (nx : ∀ ds c fs, op ds ≠ .ex c fs) (i : ImpA X.K G W O os t f) : ImpB X.K G W O .fz (tCB r t) (callA op f) := fun F σ H ρ Q s k => by
  refine imp_A2 (ta := t) i s k fun ds F1 H1 vs e r1 k1 => ?_
  exact hr F1 H1 ds vs Q e.fi r1 (KV.kb k1 (nx ds))
section
variable {os : List Ow} {r : List V → Hp → VK → Prop} {op : List D → R D} {f : Env → R (List D)} {e : Expr} {es : List Expr} {x : Str} {id T : String} {p pos : Pos}
theorem gb_callB (hc : CallR X (.builtin id) r) (hr : OpA X.K G os r op) (nx : ∀ ds c fs, op ds ≠ .ex c fs) (hm : X.mg x = none) (ha : GA X G W O os (e :: es) f) (hv : bootBuiltins x = some (.builtin id) := by decide +kernel) (hg : Gl X x := by rfl) (hn : x ≠ "__name__" := by decide) (hdb : (x == ("__debug__" : Str)) = false := by decide)
    (he : starEach (e :: es) X.env = (false, eval e X.env) :: starEach es X.env := by rfl) (hpl : (backTo pos (starEach es X.env)).any (·.1) = false := by rfl) : GB X G W O .fz (.Call (.Name x p) (e :: es) [] pos) (callA op f) := by
  obtain ⟨t, pa, i⟩ := ha
  exact ⟨_, pe_callB hc hg hm hv pa hn hdb he hpl, imp_opA hr nx i⟩
theorem gb_callTy (hc : CallR X (.type T) r) (hr : OpA X.K G os r op) (nx : ∀ ds c fs, op ds ≠ .ex c fs) (hm : X.mg x = none) (ha : GA X G W O os (e :: es) f) (hv : bootBuiltins x = some (.type T) := by decide +kernel) (hg : Gl X x := by rfl) (hn : x ≠ "__name__" := by decide) (hdb : (x == ("__debug__" : Str)) = false := by decide)
    (he : starEach (e :: es) X.env = (false, eval e X.env) :: starEach es X.env := by rfl) (hpl : (backTo pos (starEach es X.env)).any (·.1) = false := by rfl) : GB X G W O .fz (.Call (.Name x p) (e :: es) [] pos) (callA op f) := by
  obtain ⟨t, pa, i⟩ := ha
  exact ⟨_, pe_callTy hc hg hm hv pa hn hdb he hpl, imp_opA hr nx i⟩
end
theorem RpA.one {K : PySem.W.Frag} {o : Ow} {ds : List D} {vs : List V} (h : RpA K G [o] F H ds vs) : ∃ d v A, ds = [d] ∧ vs = [v] ∧ RpO K G F H o d v A := by
  unfold RpA at h
  obtain ⟨d, v, A, dr, vr, rfl, rfl, h1, h2⟩ := h
  unfold RpA at h2
  rw [h2.1, h2.2]
  exact ⟨d, v, A, rfl, rfl, h1⟩
theorem RpA.two {K : PySem.W.Frag} {o o2 : Ow} {ds : List D} {vs : List V} (h : RpA K G [o, o2] F H ds vs) : ∃ d e v w A B, ds = [d, e] ∧ vs = [v, w] ∧ RpO K G F H o d v A ∧ RpO K G F H o2 e w B := by
  unfold RpA at h
  obtain ⟨d, v, A, dr, vr, rfl, rfl, h1, h2⟩ := h
  obtain ⟨e, w, B, rfl, rfl, h3⟩ := h2.one
  exact ⟨d, e, v, w, A, B, rfl, rfl, h1, h3⟩
/-! len -/
def lenD : List D → R D
  | [.lst ds] => .ok (.int ds.length)
  | [.tup ds] => .ok (.int ds.length)
  | [.scr ns] => .ok (.int ns.length)
  | [.str z] => if z.length ≤ szL then .ok (.int z.length) else .st
  | [.dct ks _] => .ok (.int ks.length)
  | _ => .st
theorem nx_len : ∀ ds c fs, lenD ds ≠ .ex c fs := by
  intro ds c fs
  unfold lenD
  repeat' split
  all_goals (intro h; cases h)
def rLenA (K : PySem.W.Frag) : List V → Hp → VK → Prop := fun xs H Q => (∃ p ys, xs = [.ref p] ∧ (SqL K H p ys ∨ SqT K H p ys) ∧ Q (.int ys.length) H) ∨ (∃ z, xs = [.str z] ∧ z.length ≤ sizeLine ∧ Q (.int z.length) H) ∨ rLenT xs H Q
theorem call_lenA : CallR X (.builtin "len") (rLenA X.K) := CallR.or call_len_seq (CallR.or call_len_str call_len_dT)
theorem o_len {o : Ow} : OpA X.K G [o] (rLenA X.K) lenD := by
  intro F H ds vs Q fi r k
  obtain ⟨d, v, A, rfl, rfl, r1⟩ := r.one
  clear r
  cases d <;> first | exact k.elim | skip
  · rename_i z
    simp only [lenD] at k
    split at k
    · rename_i hz
      exact .inr (.inl ⟨z, by rw [r1.str_], by rw [szL_eq]; exact hz, KV.int_ k fi⟩)
    · exact k.elim
  · obtain ⟨p, ws, e, _, hp, q⟩ := r1.tupE
    refine .inl ⟨p, ws, by rw [e], .inr (SqT.of hp), ?_⟩
    rw [q.len]
    exact KV.int_ k fi
  · obtain ⟨p, ws, B, e, hp, q⟩ := r1.lstE
    refine .inl ⟨p, ws, by rw [e], .inl (SqL.of hp), ?_⟩
    rw [q.len]
    exact KV.int_ k fi
  · obtain ⟨p, ws, B, e, ⟨kk, ek, el, hp⟩, q⟩ := r1.dctE
    refine .inr (.inr ⟨p, _, by rw [e], hp, ?_⟩)
    rename_i ks ds2
    have e2 : ((kk.zip ws).length : Int) = ks.length := by rw [List.length_zip, ek, List.length_map]; omega
    rw [e2]
    exact KV.int_ k fi
  · obtain ⟨p, e, q⟩ := r1.scrE
    refine .inl ⟨p, _, by rw [e], .inl q, ?_⟩
    rw [List.length_map]
    exact KV.int_ k fi
theorem gb_len {o : Ow} {e : Expr} {p pos : Pos} {f : Env → R D} (hm : X.mg "len" = none) (h : GB X G W O o e f) (hg : Gl X "len" := by rfl) (hs : starEach [e] X.env = (false, eval e X.env) :: starEach [] X.env := by rfl) : GB X G W O .fz (.Call (.Name "len" p) [e] [] pos) (callA lenD (consA f nilA)) :=
  gb_callB call_lenA o_len nx_len hm (ga_cons h ga_nil hs) PySem.boot_len hg (by decide) (by decide) hs rfl
end
end NW
end

section
set_option Elab.async false
set_option linter.all false
set_option maxRecDepth 100000
/-! NWe: more built-ins; slices; in; dicts read; calls of defs and methods. -/
namespace NW
open PySem PySem.Spec L2
open PyProof.Rows hiding St

section
variable {X : Cx} {G : Gb} {W : WX} {O : List Ow} {F F' : Fr} {H H' : Hp} {σ : St} {ρ : Env}

/-! ### tuple(x), list(x), int(x), abs(x) -/
def tupleD : List D → R D
  | [.lst ds] => .ok (.tup ds)
  | [.tup ds] => .ok (.tup ds)
  | _ => .st
def listD : List D → R D
  | [.lst ds] => .ok (.lst ds)
  | [.tup ds] => .ok (.lst ds)
  | _ => .st
def intD : List D → R D
  | [.int i] => .ok (.int i)
  | [.bl b] => .ok (.int (if b then 1 else 0))
  | _ => .st
def absD : List D → R D
  | [.int i] => .ok (.int (if i < 0 then -i else i))
  | _ => .st
theorem nx_tuple : ∀ ds c fs, tupleD ds ≠ .ex c fs := by
  intro ds c fs
  unfold tupleD
  repeat' split
  all_goals (intro h; cases h)
theorem nx_list : ∀ ds c fs, listD ds ≠ .ex c fs := by
  intro ds c fs
  unfold listD
  repeat' split
  all_goals (intro h; cases h)
theorem nx_int : ∀ ds c fs, intD ds ≠ .ex c fs := by
  intro ds c fs
  unfold intD
  repeat' split
  all_goals (intro h; cases h)
theorem nx_abs : ∀ ds c fs, absD ds ≠ .ex c fs := by
  intro ds c fs
  unfold absD
  repeat' split
  all_goals (intro h; cases h)
theorem o_tuple {o : Ow} (ho : kid o = .fz) : OpA X.K G [o] (fun xs H Q => ∃ p ys, xs = [.ref p] ∧ ((SqL X.K H p ys ∧ ∀ l, H l = none → Q (.ref l) (upd H l (.tup ys))) ∨ (SqT X.K H p ys ∧ Q (.ref p) H))) tupleD := by
  intro F H ds vs Q fi r k
  obtain ⟨d, v, A, rfl, rfl, r1⟩ := r.one
  clear r
  cases d <;> first | exact k.elim | skip
  · obtain ⟨p, ws, e, f, hp, q⟩ := r1.tupE
    exact ⟨p, ws, by rw [e], .inr ⟨SqT.of hp, k F H _ [] (Ex.refl fi) (rpo_of (rp_tup f hp q))⟩⟩
  · obtain ⟨p, ws, e, hp, q⟩ := r1.lstF ho
    exact ⟨p, ws, by rw [e], .inl ⟨SqL.of hp, fun l hl => k.newT fi q l hl⟩⟩
theorem o_int {o : Ow} : OpA X.K G [o] (fun xs H Q => (∃ i, xs = [.int i] ∧ Q (.int i) H) ∨ ∃ k, xs = [.bl k] ∧ Q (.int (if k then 1 else 0)) H) intD := by
  intro F H ds vs Q fi r k
  obtain ⟨d, v, A, rfl, rfl, r1⟩ := r.one
  clear r
  cases d <;> first | exact k.elim | skip
  · exact .inr ⟨_, by rw [r1.bl_], k.int_ fi⟩
  · exact .inl ⟨_, by rw [r1.int_], k.int_ fi⟩
theorem o_abs {o : Ow} : OpA X.K G [o] (fun xs H Q => ∃ i, xs = [.int i] ∧ Q (.int (if i < 0 then -i else i)) H) absD := by
  intro F H ds vs Q fi r k
  obtain ⟨d, v, A, rfl, rfl, r1⟩ := r.one
  clear r
  cases d <;> first | exact k.elim | skip
  exact ⟨_, by rw [r1.int_], k.int_ fi⟩
section
variable {o : Ow} {e : Expr} {p pos : Pos} {f : Env → R D}
theorem gb_tuple (hm : X.mg "tuple" = none) (h : GB X G W O o e f) (ho : kid o = .fz := by rfl) (hg : Gl X "tuple" := by rfl) (hs : starEach [e] X.env = (false, eval e X.env) :: starEach [] X.env := by rfl) : GB X G W O .fz (.Call (.Name "tuple" p) [e] [] pos) (callA tupleD (consA f nilA)) :=
  gb_callTy call_tuple_of (o_tuple ho) nx_tuple hm (ga_cons h ga_nil hs) (by decide +kernel) hg (by decide) (by decide) hs rfl
theorem gb_int1 (hm : X.mg "int" = none) (h : GB X G W O o e f) (hg : Gl X "int" := by rfl) (hs : starEach [e] X.env = (false, eval e X.env) :: starEach [] X.env := by rfl) : GB X G W O .fz (.Call (.Name "int" p) [e] [] pos) (callA intD (consA f nilA)) :=
  gb_callTy call_int1 o_int nx_int hm (ga_cons h ga_nil hs) (by decide +kernel) hg (by decide) (by decide) hs rfl
theorem gb_abs (hm : X.mg "abs" = none) (h : GB X G W O o e f) (hg : Gl X "abs" := by rfl) (hs : starEach [e] X.env = (false, eval e X.env) :: starEach [] X.env := by rfl) : GB X G W O .fz (.Call (.Name "abs" p) [e] [] pos) (callA absD (consA f nilA)) :=
  gb_callB call_abs o_abs nx_abs hm (ga_cons h ga_nil hs) (by decide +kernel) hg (by decide) (by decide) hs rfl
/-- a new list of the same items -/
theorem gn_list (hm : X.mg "list" = none) (h : GB X G W O o e f) (ho : kid o = .fz := by rfl) (hg : Gl X "list" := by rfl) (hs : starEach [e] X.env = (false, eval e X.env) :: starEach [] X.env := by rfl) : GN X G W O (.own .fz) (.Call (.Name "list" p) [e] [] pos) (callA listD (consA f nilA)) := by
  obtain ⟨t, pa, i⟩ := ga_cons h ga_nil hs
  refine ⟨_, pe_callTy call_list_of hg hm (by decide +kernel) pa (by decide) (by decide) hs rfl, fun F σ H ρ Q s k => ?_⟩
  refine imp_A2N (ta := t) i s k fun ds F1 H1 vs e1 r k1 => ?_
  obtain ⟨d, v, A, rfl, rfl, r1⟩ := r.one
  clear r
  cases d <;> first | exact (show False from k1).elim | skip
  · obtain ⟨p, ws, e, f, hp, q⟩ := r1.tupE
    exact ⟨p, ws, by rw [e], .inr (SqT.of hp), fun l hl => k1.newL e1.fi q l hl⟩
  · obtain ⟨p, ws, e, hp, q⟩ := r1.lstF ho
    exact ⟨p, ws, by rw [e], .inl (SqL.of hp), fun l hl => k1.newL e1.fi q l hl⟩
end

/-! ### min, max -/
def intsD : List D → Option (List Int)
  | [] => some []
  | .int i :: r => (intsD r).map (i :: ·)
  | _ => none
theorem intsD_eq : ∀ {ds : List D} {ns : List Int}, intsD ds = some ns → ds = ns.map D.int
  | [], _, h => by cases h; rfl
  | .int i :: r, _, h => by
    unfold intsD at h
    cases e : intsD r with
    | none => rw [e] at h; cases h
    | some ms => rw [e] at h; cases h; rw [intsD_eq e]; rfl
  | .non :: _, _, h => by cases h
  | .bl _ :: _, _, h => by cases h
  | .str _ :: _, _, h => by cases h
  | .tup _ :: _, _, h => by cases h
  | .lst _ :: _, _, h => by cases h
  | .obj _ _ :: _, _, h => by cases h
  | .dct _ _ :: _, _, h => by cases h
  | .scr _ :: _, _, h => by cases h
theorem rps_ints {K : PySem.W.Frag} : ∀ {ns : List Int} {vs : List V}, Rps K G F H (ns.map D.int) vs → vs = ns.map V.int
  | [], _, h => by unfold Rps at h; exact h
  | n :: ns, _, h => by
    rw [List.map_cons] at h
    unfold Rps at h
    obtain ⟨v, r, rfl, h1, h2⟩ := h
    rw [rps_ints h2, rp_int.mp h1]
    rfl
def minI (n : Int) (ns : List Int) : Int := ns.foldl (fun a y => if y < a then y else a) n
def maxI (n : Int) (ns : List Int) : Int := ns.foldl (fun a y => if a < y then y else a) n
def exD (g : Int → List Int → Int) : List D → R D
  | [.lst ds] => (match intsD ds with | some (n :: ns) => .ok (.int (g n ns)) | _ => .st)
  | [.tup ds] => (match intsD ds with | some (n :: ns) => .ok (.int (g n ns)) | _ => .st)
  | [.int i, .int j] => .ok (.int (g i [j]))
  | _ => .st
theorem nx_exD {g : Int → List Int → Int} : ∀ ds c fs, exD g ds ≠ .ex c fs := by
  intro ds c fs
  unfold exD
  repeat' split
  all_goals (intro h; cases h)
theorem minOf_int (n : Int) (ns : List Int) : PySem.W.minOf n ns = minI n ns := by
  unfold PySem.W.minOf minI
  congr 1
  funext a y
  show (if decide (y < a) = true then y else a) = _
  by_cases h : y < a
  · rw [if_pos h, if_pos (decide_eq_true h)]
  · rw [if_neg h, if_neg (by simpa using h)]
theorem maxOf_int (n : Int) (ns : List Int) : PySem.W.maxOf n ns = maxI n ns := by
  unfold PySem.W.maxOf maxI
  congr 1
  funext a y
  show (if decide (a < y) = true then y else a) = _
  by_cases h : a < y
  · rw [if_pos h, if_pos (decide_eq_true h)]
  · rw [if_neg h, if_neg (by simpa using h)]
theorem readsAll_ints {h : Heap} : ∀ {ns : List Int} {us : List Value}, IntsAre us ns → ∃ as, PySem.ReadsAll h us (ns.map PyData.int) as
  | _, _, .nil => ⟨_, ReadsAll.nil⟩
  | _, _, .cons _ _ r => by
    obtain ⟨as, q⟩ := readsAll_ints (h := h) r
    exact ⟨_, ReadsAll.cons (Reads.int _ _) q⟩
theorem reads_int_inv {h : Heap} {v : Value} {i : Int} {as : List Addr} (r : PySem.Reads h v (.int i) as) : RelV (.int i) v := by
  cases r
  exact ⟨_, rfl⟩
def rExt (K : PySem.W.Frag) (g : Int → List Int → Int) : List V → Hp → VK → Prop := fun xs H Q => ∃ p n ns, xs = [.ref p] ∧ (SqL K H p ((n :: ns).map V.int) ∨ SqT K H p ((n :: ns).map V.int)) ∧ Q (.int (g n ns)) H
theorem call_minA (hc : X.calm = true) (hu : X.A.units + 10 < cLine) : CallR X (.builtin "min") (rExt X.K minI) := by
  intro pins s σ H xs us Q I r h
  obtain ⟨p, n, ns, rfl, hq, q⟩ := h
  rw [Vals.ref1 r]
  rcases hq with hq | hq
  · obtain ⟨its, rv, hl, _⟩ := I.list hq
    refine PySem.W.min_list_datum (α := Int) (x := n) (xs := ns) (I.ok.hd hc) hl.isList (readsAll_ints rv.ints) (by show X.A.units + 1 + 0 < cLine; omega) fun i v h' tk hi ⟨as, rd⟩ hk => ?_
    rw [minOf_int] at rd
    exact ⟨.int (minI n ns), H, I.kept hk, reads_int_inv rd, q⟩
  · obtain ⟨its, rv, ⟨o, ho, hcl, m, hd⟩, _⟩ := I.tuple hq
    refine PySem.W.min_tuple_datum (α := Int) (x := n) (xs := ns) (I.ok.hd hc) ⟨o, ho, hcl, m, hd⟩ (readsAll_ints rv.ints) (by show X.A.units + 1 + 0 < cLine; omega) fun i v h' tk hi ⟨as, rd⟩ hk => ?_
    rw [minOf_int] at rd
    exact ⟨.int (minI n ns), H, I.kept hk, reads_int_inv rd, q⟩
theorem call_maxA (hc : X.calm = true) (hu : X.A.units + 10 < cLine) : CallR X (.builtin "max") (rExt X.K maxI) := by
  intro pins s σ H xs us Q I r h
  obtain ⟨p, n, ns, rfl, hq, q⟩ := h
  rw [Vals.ref1 r]
  rcases hq with hq | hq
  · obtain ⟨its, rv, hl, _⟩ := I.list hq
    refine PySem.W.max_list_datum (α := Int) (x := n) (xs := ns) (I.ok.hd hc) hl.isList (readsAll_ints rv.ints) (by show X.A.units + 1 + 0 < cLine; omega) fun i v h' tk hi ⟨as, rd⟩ hk => ?_
    rw [maxOf_int] at rd
    exact ⟨.int (maxI n ns), H, I.kept hk, reads_int_inv rd, q⟩
  · obtain ⟨its, rv, ⟨o, ho, hcl, m, hd⟩, _⟩ := I.tuple hq
    refine PySem.W.max_tuple_datum (α := Int) (x := n) (xs := ns) (I.ok.hd hc) ⟨o, ho, hcl, m, hd⟩ (readsAll_ints rv.ints) (by show X.A.units + 1 + 0 < cLine; omega) fun i v h' tk hi ⟨as, rd⟩ hk => ?_
    rw [maxOf_int] at rd
    exact ⟨.int (maxI n ns), H, I.kept hk, reads_int_inv rd, q⟩
theorem o_ext {o : Ow} {g : Int → List Int → Int} (ho : kid o = .fz) : OpA X.K G [o] (rExt X.K g) (exD g) := by
  intro F H ds vs Q fi r k
  obtain ⟨d, v, A, rfl, rfl, r1⟩ := r.one
  clear r
  cases d <;> first | exact k.elim | skip
  · rename_i ds
    simp only [exD] at k
    split at k
    · rename_i n ns e
      obtain ⟨p, ws, ep, f, hp, q⟩ := r1.tupE
      rw [intsD_eq e] at q
      have z := rps_ints q
      subst z
      exact ⟨p, n, ns, by rw [ep], .inr (SqT.of hp), k.int_ fi⟩
    · exact k.elim
  · rename_i ds
    simp only [exD] at k
    split at k
    · rename_i n ns e
      obtain ⟨p, ws, ep, hp, q⟩ := r1.lstF ho
      rw [intsD_eq e] at q
      have z := rps_ints q
      subst z
      exact ⟨p, n, ns, by rw [ep], .inl (SqL.of hp), k.int_ fi⟩
    · exact k.elim
theorem o_min2 {o o2 : Ow} : OpA X.K G [o, o2] (fun xs H Q => ∃ i j, xs = [.int i, .int j] ∧ Q (.int (if j < i then j else i)) H) (exD minI) := by
  intro F H ds vs Q fi r k
  obtain ⟨d, e, v, w, A, B, rfl, rfl, r1, r2⟩ := r.two
  cases d <;> first | exact k.elim | skip
  cases e <;> first | exact k.elim | skip
  exact ⟨_, _, by rw [r1.int_, r2.int_], KV.int_ k fi⟩
theorem o_max2 {o o2 : Ow} : OpA X.K G [o, o2] (fun xs H Q => ∃ i j, xs = [.int i, .int j] ∧ Q (.int (if j > i then j else i)) H) (exD maxI) := by
  intro F H ds vs Q fi r k
  obtain ⟨d, e, v, w, A, B, rfl, rfl, r1, r2⟩ := r.two
  cases d <;> first | exact k.elim | skip
  cases e <;> first | exact k.elim | skip
  exact ⟨_, _, by rw [r1.int_, r2.int_], KV.int_ k fi⟩
section
variable {o o2 : Ow} {e e2 : Expr} {p pos : Pos} {f f2 : Env → R D} {kk : Nat}
theorem room10 {A : Around} (hr : Room kk A) : A.units + 10 < cLine := by have := hr.units; omega
theorem gb_min (hc : X.calm = true) (hr : Room kk X.A) (hm : X.mg "min" = none) (h : GB X G W O o e f) (ho : kid o = .fz := by rfl) (hg : Gl X "min" := by rfl) (hs : starEach [e] X.env = (false, eval e X.env) :: starEach [] X.env := by rfl) : GB X G W O .fz (.Call (.Name "min" p) [e] [] pos) (callA (exD minI) (consA f nilA)) :=
  gb_callB (call_minA hc (room10 hr)) (o_ext ho) nx_exD hm (ga_cons h ga_nil hs) (by decide +kernel) hg (by decide) (by decide) hs rfl
theorem gb_max (hc : X.calm = true) (hr : Room kk X.A) (hm : X.mg "max" = none) (h : GB X G W O o e f) (ho : kid o = .fz := by rfl) (hg : Gl X "max" := by rfl) (hs : starEach [e] X.env = (false, eval e X.env) :: starEach [] X.env := by rfl) : GB X G W O .fz (.Call (.Name "max" p) [e] [] pos) (callA (exD maxI) (consA f nilA)) :=
  gb_callB (call_maxA hc (room10 hr)) (o_ext ho) nx_exD hm (ga_cons h ga_nil hs) (by decide +kernel) hg (by decide) (by decide) hs rfl
theorem gb_min2 (hc : X.calm = true) (hm : X.mg "min" = none) (h : GB X G W O o e f) (h2 : GB X G W O o2 e2 f2) (hg : Gl X "min" := by rfl) (hs : starEach [e, e2] X.env = (false, eval e X.env) :: starEach [e2] X.env := by rfl) (hs2 : starEach [e2] X.env = (false, eval e2 X.env) :: starEach [] X.env := by rfl) : GB X G W O .fz (.Call (.Name "min" p) [e, e2] [] pos) (callA (exD minI) (consA f (consA f2 nilA))) :=
  gb_callB (call_min2 hc) o_min2 nx_exD hm (ga_cons h (ga_cons h2 ga_nil hs2) hs) (by decide +kernel) hg (by decide) (by decide) hs (by rw [hs2]; rfl)
theorem gb_max2 (hc : X.calm = true) (hm : X.mg "max" = none) (h : GB X G W O o e f) (h2 : GB X G W O o2 e2 f2) (hg : Gl X "max" := by rfl) (hs : starEach [e, e2] X.env = (false, eval e X.env) :: starEach [e2] X.env := by rfl) (hs2 : starEach [e2] X.env = (false, eval e2 X.env) :: starEach [] X.env := by rfl) : GB X G W O .fz (.Call (.Name "max" p) [e, e2] [] pos) (callA (exD maxI) (consA f (consA f2 nilA))) :=
  gb_callB (call_max2 hc) o_max2 nx_exD hm (ga_cons h (ga_cons h2 ga_nil hs2) hs) (by decide +kernel) hg (by decide) (by decide) hs (by rw [hs2]; rfl)
end

/-! ### isinstance -/
inductive Ty5 where | bool | int | str | tuple | list
  deriving DecidableEq
def Ty5.nm : Ty5 → String
  | .bool => "bool" | .int => "int" | .str => "str" | .tuple => "tuple" | .list => "list"
def dTy : D → Option String
  | .non => some "NoneType" | .bl _ => some "bool" | .int _ => some "int" | .str _ => some "str" | .tup _ => some "tuple" | .lst _ => some "list" | _ => none
def isiD : Ty5 → D → R D
  | .bool, .bl _ => .ok (.bl true)
  | .int, .bl _ => .ok (.bl true) | .int, .int _ => .ok (.bl true)
  | .str, .str _ => .ok (.bl true) | .tuple, .tup _ => .ok (.bl true) | .list, .lst _ => .ok (.bl true)
  | _, .non => .ok (.bl false) | _, .bl _ => .ok (.bl false) | _, .int _ => .ok (.bl false) | _, .str _ => .ok (.bl false) | _, .tup _ => .ok (.bl false) | _, .lst _ => .ok (.bl false)
  | _, _ => .st
theorem nx_isi {T : Ty5} : NoX1 (isiD T) := by
  intro x c fs
  cases T <;> cases x <;> (intro h; cases h)
theorem kits : ∀ a ∈ ["NoneType", "bool", "int", "str", "tuple", "list"], ∀ T ∈ [Ty5.bool, .int, .str, .tuple, .list], kitB a T.nm = some (a == T.nm || (a == "bool" && T.nm == "int")) := by decide +kernel
theorem kit5 {K : PySem.W.Frag} {a : String} (T : Ty5) (h : a ∈ ["NoneType", "bool", "int", "str", "tuple", "list"]) : PySem.W.kitOne K (.type a) (.type T.nm) = some (a == T.nm || (a == "bool" && T.nm == "int")) :=
  kit_ty (kits a h T (by cases T <;> decide))
theorem o_isi {o : Ow} (T : Ty5) {F : Fr} {H : Hp} {d : D} {x : V} {A : List Addr} {Q : VK} (fi : FI F H) (r : RpO X.K G F H o d x A) (k : KV X.K G .fz F H Q (isiD T d)) :
    ∃ (c : V) (t u : Value) (b : Bool), c = .ty T.nm ∧ ClsV c u ∧ TyX X.K H x t ∧ PySem.W.kitOne X.K t u = some b ∧ Q (.bl b) H := by
  cases d with
  | non =>
    rw [r.non_]
    refine ⟨_, _, _, _, rfl, .ty _, .base .non, kit5 T (by decide), ?_⟩
    cases T <;> exact k.bl_ fi
  | bl b =>
    rw [r.bl_]
    refine ⟨_, _, _, _, rfl, .ty _, .base (.bl b), kit5 T (by decide), ?_⟩
    cases T <;> exact k.bl_ fi
  | int b =>
    rw [r.int_]
    refine ⟨_, _, _, _, rfl, .ty _, .base (.int b), kit5 T (by decide), ?_⟩
    cases T <;> exact k.bl_ fi
  | str b =>
    rw [r.str_]
    refine ⟨_, _, _, _, rfl, .ty _, .base (.str b), kit5 T (by decide), ?_⟩
    cases T <;> exact k.bl_ fi
  | tup ds =>
    obtain ⟨p, ws, e, f, hp, q⟩ := r.tupE
    rw [e]
    refine ⟨_, _, _, _, rfl, .ty _, .base (.tup hp), kit5 T (by decide), ?_⟩
    cases T <;> exact k.bl_ fi
  | lst ds =>
    obtain ⟨p, ws, B, e, hp, q⟩ := r.lstE
    rw [e]
    refine ⟨_, _, _, _, rfl, .ty _, .base (.lst hp), kit5 T (by decide), ?_⟩
    cases T <;> exact k.bl_ fi
  | obj c ds => cases T <;> exact k.elim
  | dct c ds => cases T <;> exact k.elim
  | scr c => cases T <;> exact k.elim
  | xc c fs => cases T <;> exact k.elim
theorem gb_isi (T : Ty5) {o : Ow} {e : Expr} {p p2 pos : Pos} {f : Env → R D} (hm : X.mg "isinstance" = none) (hmT : X.mg (Str.ofString T.nm) = none) (h : GB X G W O o e f)
    (hT : bootBuiltins (Str.ofString T.nm) = some (.type T.nm) := by decide +kernel) (hg : Gl X "isinstance" := by rfl) (hgT : Gl X (Str.ofString T.nm) := by rfl) (hn : Str.ofString T.nm ≠ "__name__" := by decide) (hd : (Str.ofString T.nm == ("__debug__" : Str)) = false := by decide)
    (hs : starEach [e, .Name (Str.ofString T.nm) p2] X.env = (false, eval e X.env) :: starEach [.Name (Str.ofString T.nm) p2] X.env := by rfl) :
    GB X G W O .fz (.Call (.Name "isinstance" p) [e, .Name (Str.ofString T.nm) p2] [] pos) (un1 (isiD T) f) := by
  obtain ⟨t, pa, i⟩ := h
  refine ⟨_, pe_callB call_isi hg hm (by decide +kernel) (pa_cons pa (pa_cons (pe_bltn (v := .ty T.nm) hgT hmT hT rfl hn hd) pa_nil (by rfl)) hs) (by decide) (by decide) hs (by rfl), fun F σ H ρ Q s k => ?_⟩
  refine imp_seq (ta := t) i s k fun dx F1 H1 x A e1 r1 k1 => ?_
  obtain ⟨c, t, u, b, ec, h1, h2, h3, h4⟩ := o_isi T e1.fi r1 (KV.kb k1 (nx_isi dx))
  exact ⟨x, c, t, u, b, by rw [ec], h1, h2, h3, h4⟩
end
end NW
end

section
set_option Elab.async false
set_option linter.all false
set_option maxRecDepth 100000
/-! NWf: slices, in, dicts read; what a def promises, its call. -/
namespace NW
open PySem PySem.Spec L2
open PyProof.Rows hiding St

/-! ### slices -/
def GO (X : Cx) (G : Gb) (W : WX) (O : List Ow) (e : Option Expr) (f : Env → R (Option Int)) : Prop :=
  ∃ t, PO X e t ∧ ∀ F σ H ρ (Q : Option Int → Hp → Prop), SS X.K G O F σ H ρ → (match f ρ with
    | .ok i => ∀ F' H', Ex F H F' H' → Q i H'
    | .ex c fs => ∀ F' H' dd, Ex F H F' H' → XR X.K G F' H' c fs dd → W (.ref (G.cls c)) dd σ H'
    | .st => False) → t σ H Q
def noP : Env → R (Option Int) := fun _ => .ok none
def asI : D → R (Option Int)
  | .int i => .ok (some i)
  | _ => .st
def prt (f : Env → R D) : Env → R (Option Int) := fun ρ => (f ρ).bind asI
def cutD (ds : List D) (lo hi : Option Int) : List D := (ds.drop (HT.sIx ds.length 0 lo)).take (HT.sIx ds.length ds.length hi - HT.sIx ds.length 0 lo)
def slD (x : D) (lo hi : Option Int) : R D := match x with
  | .lst ds => .ok (.lst (cutD ds lo hi))
  | .tup ds => .ok (.tup (cutD ds lo hi))
  | _ => .st
def sli (f : Env → R D) (g h : Env → R (Option Int)) : Env → R D := fun ρ => (f ρ).bind fun x => (g ρ).bind fun l => (h ρ).bind fun u => slD x l u
section
variable {X : Cx} {G : Gb} {W : WX} {O : List Ow} {F F' : Fr} {H H' : Hp} {σ : St} {ρ : Env}
theorem go_none : GO X G W O none noP := ⟨_, po_none, fun F σ H ρ Q s k => k F H (Ex.refl s.1)⟩
theorem go_some {o : Ow} {e : Expr} {f : Env → R D} (h : GB X G W O o e f) : GO X G W O (some e) (prt f) := by
  obtain ⟨t, p, i⟩ := h
  refine ⟨_, po_some p, fun F σ H ρ Q s k => ?_⟩
  refine i F σ H ρ _ s ?_
  revert k
  unfold prt
  cases f ρ with
  | ok d =>
    intro k F' H' v A e r
    cases d <;> first | exact (show False from k).elim | skip
    exact ⟨_, r.int_, k F' H' e⟩
  | ex c fs => exact fun k => k
  | st => exact fun k => k
theorem rps_cut {K : PySem.W.Frag} {ds : List D} {vs : List V} {lo hi : Option Int} (h : Rps K G F H ds vs) : Rps K G F H (cutD ds lo hi) (cutV vs lo hi) := by
  unfold cutD cutV
  rw [← h.len]
  exact (h.drop _).take _
theorem sl_any : SlR X (fun x lo hi H Q => rSlL X.K x lo hi H Q ∨ rSlA X.K x lo hi H Q) := SlR.or sl_list sl_tupA
theorem o_sl {K : PySem.W.Frag} {o : Ow} {d : D} {x : V} {A : List Addr} {lo hi : Option Int} {Q : VK} (fi : FI F H) (ho : kid o = .fz) (r : RpO K G F H o d x A) (k : KV K G .fz F H Q (slD d lo hi)) : rSlL K x lo hi H Q ∨ rSlA K x lo hi H Q := by
  cases d <;> first | exact k.elim | skip
  · obtain ⟨p, ws, e, f, hp, q⟩ := r.tupE
    refine .inr ⟨p, ws, e, SqT.of hp, fun z => ?_, fun z a ha => KV.newT k fi (rps_cut q) a ha⟩
    rename_i ds
    have e2 : cutD ds lo hi = ds := by
      unfold cutD
      rw [← q.len, z.1, z.2, List.drop_zero, Nat.sub_zero, q.len]
      exact List.take_length
    have k2 : KV K G .fz F H Q (.ok (.tup (cutD ds lo hi))) := k
    rw [e2] at k2
    exact k2 F H _ [] (Ex.refl fi) (rpo_of (by rw [← e]; exact e ▸ rp_tup f hp q))
  · obtain ⟨p, ws, e, hp, q⟩ := r.lstF ho
    exact .inl ⟨p, ws, e, SqL.of hp, fun a ha => KV.newL k fi (rps_cut q) a ha⟩
theorem imp_O {f : Env → R (Option Int)} {e : Option Expr} {t : TO} {g : Option Int → R D} {o : Ow} {Q : VK} {R' : Option Int → Hp → Prop} (i : ∀ F σ H ρ (Q : Option Int → Hp → Prop), SS X.K G O F σ H ρ → (match f ρ with
    | .ok i => ∀ F' H', Ex F H F' H' → Q i H'
    | .ex c fs => ∀ F' H' dd, Ex F H F' H' → XR X.K G F' H' c fs dd → W (.ref (G.cls c)) dd σ H'
    | .st => False) → t σ H Q) (s : SS X.K G O F σ H ρ) (k : KB X.K G W o F σ H Q ((f ρ).bind g))
    (h : ∀ l F' H', Ex F H F' H' → KB X.K G W o F' σ H' Q (g l) → R' l H') : t σ H R' := by
  refine i F σ H ρ _ s ?_
  revert k
  cases f ρ with
  | ok d => exact fun k F' H' e => h d F' H' e (k.ex e)
  | ex c fs => exact fun k => k
  | st => exact fun k => k
theorem gb_slice {o : Ow} {e : Expr} {lo hi : Option Expr} {p2 pos : Pos} {f : Env → R D} {g h : Env → R (Option Int)} (he : GB X G W O o e f) (hl : GO X G W O lo g) (hh : GO X G W O hi h) (ho : kid o = .fz := by rfl) : GB X G W O .fz (.Subscript e (.Slice lo hi none p2) pos) (sli f g h) := by
  obtain ⟨t, p, i⟩ := he
  obtain ⟨tl, pl, il⟩ := hl
  obtain ⟨th, ph, ih⟩ := hh
  refine ⟨_, pe_slice sl_any p pl ph, fun F σ H ρ Q s k => ?_⟩
  refine imp_seq (ta := t) i s k fun dx F1 H1 x A e1 r1 k1 => ?_
  refine imp_O (t := tl) (e := lo) il (s.ex e1) k1 fun l F2 H2 e2 k2 => ?_
  refine imp_O (t := th) (e := hi) ih ((s.ex e1).ex e2) k2 fun u F3 H3 e3 k3 => ?_
  exact o_sl e3.fi ho ((r1.ex e2).ex e3) (KV.kb k3 (by intro c fs; cases dx <;> (intro z; cases z)))

/-! ### in, not in, over flat items -/
def eqvF : D → D → Bool
  | .non, .non => true
  | .bl a, .bl b => a == b
  | .bl a, .int b => (if a then 1 else 0) == b
  | .int a, .bl b => a == (if b then 1 else 0)
  | .int a, .int b => a == b
  | .str a, .str b => a == b
  | _, _ => false
def inD (neg : Bool) : D → D → R D
  | x, .lst ds => if flat x && ds.all flat then .ok (.bl (if neg then !(ds.any fun y => eqvF y x) else ds.any fun y => eqvF y x)) else .st
  | x, .tup ds => if flat x && ds.all flat then .ok (.bl (if neg then !(ds.any fun y => eqvF y x) else ds.any fun y => eqvF y x)) else .st
  | _, _ => .st
theorem nx_in {neg : Bool} : NoX (inD neg) := by
  intro x y c fs
  cases y <;> simp only [inD] <;> first | (intro h; cases h; done) | (split <;> intro h <;> cases h)
theorem eqvF_eq {x y : D} (hx : flat x = true) (hy : flat y = true) : eqV (vOf x) (vOf y) = eqvF x y := by
  cases x <;> first | (cases hx; done) | skip
  all_goals cases y <;> first | (cases hy; done) | rfl
theorem flat_vs {K : PySem.W.Frag} : ∀ {ds : List D} {vs : List V}, Rps K G F H ds vs → ds.all flat = true → vs = ds.map vOf
  | [], _, h, _ => by unfold Rps at h; exact h
  | d :: ds, _, h, a => by
    unfold Rps at h
    obtain ⟨v, r, rfl, h1, h2⟩ := h
    rw [List.all_cons, Bool.and_eq_true] at a
    rw [flat_vs h2 a.2, rp_flat' a.1 h1]
    rfl
theorem flatV_of {d : D} (h : flat d = true) : flatV (vOf d) = true := by cases d <;> first | rfl | cases h
theorem inV_eq {x : D} {ds : List D} (hx : flat x = true) (a : ds.all flat = true) : inV (vOf x) (ds.map vOf) = ds.any fun y => eqvF y x := by
  unfold inV
  rw [List.any_map]
  induction ds with
  | nil => rfl
  | cons d ds ih =>
    rw [List.all_cons, Bool.and_eq_true] at a
    rw [List.any_cons, List.any_cons, ih a.2]
    show (eqV (vOf d) (vOf x) || _) = _
    rw [eqvF_eq a.1 hx]
theorem o_in {oa ob : Ow} {neg : Bool} (hb : kid ob = .fz) : Op2 X.K G oa ob .fz (rIn X.K neg) (inD neg) := by
  intro F H dx dy x y A B Q fi rx ry k
  cases dy <;> first | exact k.elim | skip
  · obtain ⟨p, vs, e, f, hp, q⟩ := ry.tupE
    simp only [inD] at k
    split at k
    · rename_i ds hz
      rw [Bool.and_eq_true] at hz
      have ev := flat_vs q hz.2
      subst ev
      refine ⟨p, _, e, .inr (SqT.of hp), by rw [rx.flat_ hz.1]; exact flatV_of hz.1, ?_, ?_⟩
      · rw [List.all_map, List.all_eq_true]
        intro d hd
        exact flatV_of (List.all_eq_true.mp hz.2 d hd)
      · rw [rx.flat_ hz.1, inV_eq hz.1 hz.2]
        exact k.bl_ fi
    · exact k.elim
  · obtain ⟨p, vs, e, hp, q⟩ := ry.lstF hb
    simp only [inD] at k
    split at k
    · rename_i ds hz
      rw [Bool.and_eq_true] at hz
      have ev := flat_vs q hz.2
      subst ev
      refine ⟨p, _, e, .inl (SqL.of hp), by rw [rx.flat_ hz.1]; exact flatV_of hz.1, ?_, ?_⟩
      · rw [List.all_map, List.all_eq_true]
        intro d hd
        exact flatV_of (List.all_eq_true.mp hz.2 d hd)
      · rw [rx.flat_ hz.1, inV_eq hz.1 hz.2]
        exact k.bl_ fi
    · exact k.elim
section
variable {a b : Expr} {pos : Pos} {fa fb : Env → R D} {oa ob : Ow}
theorem gb_in (ha : GB X G W O oa a fa) (hb : GB X G W O ob b fb) (kb : kid ob = .fz := by rfl) (hm : behindInMarks .In b = false := by rfl) : GB X G W O .fz (.Compare a [.In] [b] pos) (bin (inD false) fa fb) := gb_cmp op_in_seq (o_in kb) nx_in ha hb hm
theorem gb_notin (ha : GB X G W O oa a fa) (hb : GB X G W O ob b fb) (kb : kid ob = .fz := by rfl) (hm : behindInMarks .NotIn b = false := by rfl) : GB X G W O .fz (.Compare a [.NotIn] [b] pos) (bin (inD true) fa fb) := gb_cmp op_notIn_seq (o_in kb) nx_in ha hb hm
theorem gt_in (ha : GB X G W O oa a fa) (hb : GB X G W O ob b fb) (kb : kid ob = .fz := by rfl) (hm : behindInMarks .In b = false := by rfl) : GT X G W O (.Compare a [.In] [b] pos) (tst (bin (inD false) fa fb)) := gt_cmp op_in_seq (o_in kb) nx_in ha hb hm
theorem gt_notin (ha : GB X G W O oa a fa) (hb : GB X G W O ob b fb) (kb : kid ob = .fz := by rfl) (hm : behindInMarks .NotIn b = false := by rfl) : GT X G W O (.Compare a [.NotIn] [b] pos) (tst (bin (inD true) fa fb)) := gt_cmp op_notIn_seq (o_in kb) nx_in ha hb hm
end

/-! ### dicts read -/
def keyOf1 : D → Option Key
  | .int i => some (.inl i)
  | .str x => some (.inr x)
  | _ => none
def keysOf : List D → Option (List Key)
  | [] => some []
  | d :: ds => match keyOf1 d, keysOf ds with
    | some k, some r => some (k :: r)
    | _, _ => none
def keyOf : D → Option (List Key)
  | .tup ds => keysOf ds
  | _ => none
theorem keysOf_key : ∀ k : List Key, keysOf (k.map key1) = some k
  | [] => rfl
  | .inl i :: r => by
    show (match keyOf1 (.int i), keysOf (r.map key1) with | some k, some r => some (k :: r) | _, _ => none) = _
    rw [keysOf_key r]; rfl
  | .inr x :: r => by
    show (match keyOf1 (.str x), keysOf (r.map key1) with | some k, some r => some (k :: r) | _, _ => none) = _
    rw [keysOf_key r]; rfl
theorem keyOf_keyD (k : List Key) : keyOf (keyD k) = some k := keysOf_key k
theorem keysOf_inv : ∀ {ds : List D} {k : List Key}, keysOf ds = some k → ds = k.map key1
  | [], _, h => by cases h; rfl
  | d :: ds, k, h => by
    unfold keysOf at h
    cases e1 : keyOf1 d with
    | none => rw [e1] at h; cases h
    | some a =>
      cases e2 : keysOf ds with
      | none => rw [e1, e2] at h; cases h
      | some r =>
        rw [e1, e2] at h
        cases h
        rw [keysOf_inv e2]
        cases d <;> first | (cases e1; rfl) | cases e1
theorem rps_key {K : PySem.W.Frag} : ∀ {k : List Key} {vs : List V}, Rps K G F H (k.map key1) vs → vs = k.map kV
  | [], _, h => by unfold Rps at h; exact h
  | .inl i :: r, _, h => by
    rw [List.map_cons] at h
    unfold Rps at h
    obtain ⟨v, s, rfl, h1, h2⟩ := h
    rw [rps_key h2, show v = .int i from rp_int.mp h1]
    rfl
  | .inr i :: r, _, h => by
    rw [List.map_cons] at h
    unfold Rps at h
    obtain ⟨v, s, rfl, h1, h2⟩ := h
    rw [rps_key h2, show v = .str i from rp_str.mp h1]
    rfl
/-- the place of a key -/
def findK (ks : List D) (k : List Key) : Option Nat := ks.findIdx? fun d => decide (keyOf d = some k)
theorem valV_find : ∀ {kk : List (List Key)} {vs : List V} (k : List Key), kk.length = vs.length → valV (kk.zip vs) k = (findK (kk.map keyD) k).bind fun i => vs[i]?
  | [], [], k, _ => rfl
  | [], _ :: _, _, h => by cases h
  | _ :: _, [], _, h => by cases h
  | a :: kk, v :: vs, k, h => by
    have ih := valV_find (kk := kk) (vs := vs) k (by simpa using h)
    show valV ((a, v) :: kk.zip vs) k = _
    by_cases e : a = k
    · rw [valV_pos (p := (a, v)) e]
      unfold findK
      rw [List.map_cons, List.findIdx?_cons, keyOf_keyD, if_pos (by simp [e])]
      rfl
    · rw [valV_neg (p := (a, v)) e, ih]
      unfold findK
      rw [List.map_cons, List.findIdx?_cons, keyOf_keyD, if_neg (by simp [e])]
      cases (kk.map keyD).findIdx? fun d => decide (keyOf d = some k) <;> rfl
def dgetD : D → D → R D
  | .dct ks ds, x => match keyOf x with
    | some k => opt ((findK ks k).bind fun i => ds[i]?)
    | none => .st
  | _, _ => .st
def dinD (neg : Bool) : D → D → R D
  | x, .dct ks _ => match keyOf x with
    | some k => .ok (.bl (if neg then !(findK ks k).isSome else (findK ks k).isSome))
    | none => .st
  | _, _ => .st
theorem keyAt {K : PySem.W.Frag} {o : Ow} {d : D} {x : V} {A : List Addr} {k : List Key} (r : RpO K G F H o d x A) (e : keyOf d = some k) : ∃ b, x = .ref b ∧ H b = some (.tup (k.map kV)) := by
  cases d <;> first | (cases e; done) | skip
  obtain ⟨p, vs, ep, f, hp, q⟩ := r.tupE
  rw [keysOf_inv e] at q
  rw [rps_key q] at hp
  exact ⟨p, ep, hp⟩
theorem find_lt {ks : List D} {k : List Key} {i : Nat} (h : findK ks k = some i) : i < ks.length := by
  unfold findK at h
  obtain ⟨h1, _⟩ := List.findIdx?_eq_some_iff_getElem.mp h
  exact h1
theorem dct_get {K : PySem.W.Frag} {o oy : Ow} {ks ds : List D} {dy : D} {x y : V} {A B : List Addr} {k : List Key} (r : RpO K G F H o (.dct ks ds) x A) (ry : RpO K G F H oy dy y B) (e : keyOf dy = some k) :
    ∃ a vs C, x = .ref a ∧ RpL (RpO K G F H (kid o)) ds vs C ∧ DGet H a y ((findK ks k).bind fun i => vs[i]?) := by
  obtain ⟨p, vs, C, ep, ⟨kk, ek, el, hp⟩, q⟩ := r.dctE
  obtain ⟨b, eb, hb⟩ := keyAt ry e
  refine ⟨p, vs, C, ep, q, ?_⟩
  rw [eb, ek, ← valV_find k el]
  exact DGet.t hp hb
theorem gb_dget {kk : Nat} {oa ob : Ow} {a b : Expr} {pos : Pos} {fa fb : Env → R D} (hr : Room kk X.A) (ha : GB X G W O oa a fa) (hb : GB X G W O ob b fb) (k : kid oa = .fz := by rfl) (hs : NoSl b := by exact fun _ _ => rfl) : GB X G W O .fz (.Subscript a b pos) (bin dgetD fa fb) := by
  obtain ⟨ta, pa, ia⟩ := ha
  obtain ⟨tb, pb, ib⟩ := hb
  refine ⟨_, pe_dget (hu_of hr) pa pb hs, fun F σ H ρ Q s kq => ?_⟩
  refine imp_seq (ta := ta) ia s kq fun dx F1 H1 x A e1 r1 k1 => ?_
  refine imp_seq (ta := tb) ib (s.ex e1) k1 fun dy F2 H2 y B e2 r2 k2 => ?_
  cases dx <;> first | exact (show False from k2).elim | skip
  rename_i ks ds
  simp only [dgetD] at k2
  split at k2
  · rename_i key ek
    obtain ⟨p, vs, C, ep, q, g⟩ := dct_get (r1.ex e2) r2 ek
    rw [k] at q
    have q := (rpl_fz.mp q).2
    cases hf : findK ks key with
    | none => rw [hf] at k2; exact (show False from k2).elim
    | some i =>
      rw [hf] at k2 g
      cases hd : ds[i]? with
      | none =>
        have k3 : KB X.K G W .fz F2 σ H2 Q (opt ds[i]?) := k2
        rw [hd] at k3
        exact (show False from k3).elim
      | some d =>
        have k3 : KB X.K G W .fz F2 σ H2 Q (opt ds[i]?) := k2
        rw [hd] at k3
        obtain ⟨v, h1, h2⟩ := q.get hd
        have g2 : DGet H2 p y (vs[i]?) := g
        rw [h1] at g2
        exact ⟨p, v, ep, g2, k3 F2 H2 v [] (Ex.refl e2.fi) (rpo_of h2)⟩
  · exact (show False from k2).elim
theorem dct_len {K : PySem.W.Frag} {o : Ow} {ks ds : List D} {x : V} {A : List Addr} (r : RpO K G F H o (.dct ks ds) x A) : ks.length = ds.length := by
  obtain ⟨p, vs, C, ep, ⟨kk, ek, el, hp⟩, q⟩ := r.dctE
  rw [ek, List.length_map, el, q.len]
theorem isSome_bind {α β : Type} {o : Option α} {g : α → Option β} (h : ∀ a, o = some a → (g a).isSome = true) : (o.bind g).isSome = o.isSome := by
  cases o with
  | none => rfl
  | some a => exact h a rfl
theorem imp_din {kk : Nat} {neg : Bool} {oa ob : Ow} {ta tb : TE} {fa fb : Env → R D} {t : TE} (ht : ∀ σ H Q, (ta σ H fun y H1 => tb σ H1 fun x H2 => ∃ a o, x = .ref a ∧ DGet H2 a y o ∧ Q (.bl (if neg then !o.isSome else o.isSome)) H2) → t σ H Q)
    (ia : ImpB X.K G W O oa ta fa) (ib : ImpB X.K G W O ob tb fb) : ImpB X.K G W O .fz t (bin (dinD neg) fa fb) := fun F σ H ρ Q s kq => by
  refine ht σ H Q ?_
  refine imp_seq (ta := ta) ia s kq fun dy F1 H1 y A e1 r1 k1 => ?_
  refine imp_seq (ta := tb) ib (s.ex e1) k1 fun dx F2 H2 x B e2 r2 k2 => ?_
  cases dx <;> first | exact (show False from k2).elim | skip
  rename_i ks ds
  simp only [dinD] at k2
  split at k2
  · rename_i key ek
    obtain ⟨p, vs, C, ep, q, g⟩ := dct_get r2 (r1.ex e2) ek
    refine ⟨p, _, ep, g, ?_⟩
    have e3 : ((findK ks key).bind fun i => vs[i]?).isSome = (findK ks key).isSome := isSome_bind fun i hi => by
      have h1 := find_lt hi
      rw [dct_len r2, ← q.len] at h1
      simp [h1]
    rw [e3]
    exact k2 F2 H2 _ [] (Ex.refl e2.fi) (rpo_of (rp_flat (d := .bl _) rfl))
  · exact (show False from k2).elim
theorem gb_din {kk : Nat} {oa ob : Ow} {a b : Expr} {pos : Pos} {fa fb : Env → R D} (hr : Room kk X.A) (ha : GB X G W O oa a fa) (hb : GB X G W O ob b fb) (hm : behindInMarks .In b = false := by rfl) : GB X G W O .fz (.Compare a [.In] [b] pos) (bin (dinD false) fa fb) := by
  obtain ⟨ta, pa, ia⟩ := ha
  obtain ⟨tb, pb, ib⟩ := hb
  exact ⟨_, pe_cmp (pc_din (hu_of hr) pa pb) hm, imp_din (kk := kk) (neg := false) (fun σ H Q h => h) ia ib⟩
theorem gb_dnotin {kk : Nat} {oa ob : Ow} {a b : Expr} {pos : Pos} {fa fb : Env → R D} (hr : Room kk X.A) (ha : GB X G W O oa a fa) (hb : GB X G W O ob b fb) (hm : behindInMarks .NotIn b = false := by rfl) : GB X G W O .fz (.Compare a [.NotIn] [b] pos) (bin (dinD true) fa fb) := by
  obtain ⟨ta, pa, ia⟩ := ha
  obtain ⟨tb, pb, ib⟩ := hb
  exact ⟨_, pe_cmp (pc_dnotin (hu_of hr) pa pb) hm, imp_din (kk := kk) (neg := true) (fun σ H Q h => h) ia ib⟩
theorem gt_din {kk : Nat} {oa ob : Ow} {a b : Expr} {pos : Pos} {fa fb : Env → R D} (hr : Room kk X.A) (ha : GB X G W O oa a fa) (hb : GB X G W O ob b fb) (hm : behindInMarks .In b = false := by rfl) : GT X G W O (.Compare a [.In] [b] pos) (tst (bin (dinD false) fa fb)) := by
  obtain ⟨ta, pa, ia⟩ := ha
  obtain ⟨tb, pb, ib⟩ := hb
  exact ⟨_, pt_cmp (pc_din (hu_of hr) pa pb) hm, imp_tst (imp_din (kk := kk) (neg := false) (fun σ H Q h => h) ia ib) rfl⟩
theorem gt_dnotin {kk : Nat} {oa ob : Ow} {a b : Expr} {pos : Pos} {fa fb : Env → R D} (hr : Room kk X.A) (ha : GB X G W O oa a fa) (hb : GB X G W O ob b fb) (hm : behindInMarks .NotIn b = false := by rfl) : GT X G W O (.Compare a [.NotIn] [b] pos) (tst (bin (dinD true) fa fb)) := by
  obtain ⟨ta, pa, ia⟩ := ha
  obtain ⟨tb, pb, ib⟩ := hb
  exact ⟨_, pt_cmp (pc_dnotin (hu_of hr) pa pb) hm, imp_tst (imp_din (kk := kk) (neg := true) (fun σ H Q h => h) ia ib) rfl⟩
end
end NW
end

section
set_option Elab.async false
set_option linter.all false
set_option maxRecDepth 100000
/-! NWg: the state through a def; statements. -/
namespace NW
open PySem PySem.Spec L2
open PyProof.Rows hiding St

/-! ### the heap of a def: the objects at M may be changed -/
structure ExM (M : List Addr) (F : Fr) (H : Hp) (F' : Fr) (H' : Hp) : Prop where
  fr : ∀ a, F a → F' a
  hp : ∀ a o, H a = some o → a ∉ M → H' a = some o
  al : ∀ a o, H a = some o → ∃ u, H' a = some u
  nw : ∀ a, F' a → F a ∨ H a = none ∨ a ∈ M
  fi : FI F' H'
theorem ExM.refl {M : List Addr} {F : Fr} {H : Hp} (h : FI F H) : ExM M F H F H := ⟨fun _ h => h, fun _ _ h _ => h, fun _ o h => ⟨o, h⟩, fun _ h => .inl h, h⟩
theorem ExM.step {M : List Addr} {F F1 F2 : Fr} {H H1 H2 : Hp} (a : ExM M F H F1 H1) (b : Ex F1 H1 F2 H2) : ExM M F H F2 H2 where
  fr := fun x h => b.fr x (a.fr x h)
  hp := fun x o h m => b.hp x o (a.hp x o h m)
  al := fun x o h => by
    obtain ⟨u, e⟩ := a.al x o h
    exact ⟨u, b.hp x u e⟩
  nw := fun x h => by
    rcases b.nw x h with h | h
    · exact a.nw x h
    · refine .inr (.inl ?_)
      cases e : H x with
      | none => rfl
      | some o =>
        obtain ⟨u, q⟩ := a.al x o e
        rw [h] at q
        cases q
  fi := b.fi
theorem ExM.ex {F F' : Fr} {H H' : Hp} (h : ExM [] F H F' H') : Ex F H F' H' := { fr := h.fr, hp := fun a o e => h.hp a o e (by simp), nw := fun a q => (h.nw a q).imp id fun z => z.elim id (fun z => nomatch z), fi := h.fi }
theorem Ex.exM {M : List Addr} {F F' : Fr} {H H' : Hp} (hf : FI F H) (h : Ex F H F' H') : ExM M F H F' H' := (ExM.refl hf).step h
/-- one of ours is written -/
theorem ExM.write {M : List Addr} {F F1 : Fr} {H H1 : Hp} {p : Addr} {ob : HO} (a : ExM M F H F1 H1) (hp : H p = none ∨ p ∈ M) : ExM M F H F1 (upd H1 p ob) where
  fr := a.fr
  hp := fun x o h m => by
    have : x ≠ p := by
      rintro rfl
      rcases hp with q | q
      · rw [h] at q; cases q
      · exact m q
    rw [upd_ne this]
    exact a.hp x o h m
  al := fun x o h => by
    by_cases e : x = p
    · subst e; exact ⟨ob, upd_same⟩
    · rw [upd_ne e]; exact a.al x o h
  nw := a.nw
  fi := fun x h => by
    by_cases e : x = p
    · subst e; exact ⟨ob, upd_same⟩
    · rw [upd_ne e]; exact a.fi x h

/-- what was frozen is as it was -/
structure Keep (F : Fr) (H : Hp) (F' : Fr) (H' : Hp) : Prop where
  fr : ∀ a, F a → F' a
  hp : ∀ a o, F a → H a = some o → H' a = some o
theorem Keep.refl {F : Fr} {H : Hp} : Keep F H F H := ⟨fun _ h => h, fun _ _ _ h => h⟩
theorem Keep.trans {F F1 F2 : Fr} {H H1 H2 : Hp} (a : Keep F H F1 H1) (b : Keep F1 H1 F2 H2) : Keep F H F2 H2 := ⟨fun x h => b.fr x (a.fr x h), fun x o h e => b.hp x o (a.fr x h) (a.hp x o h e)⟩
theorem Ex.keep {F F' : Fr} {H H' : Hp} (e : Ex F H F' H') : Keep F H F' H' := ⟨e.fr, fun a o _ h => e.hp a o h⟩
theorem keep_upd {F : Fr} {H : Hp} {p : Addr} {ob : HO} (hp : ¬ F p) : Keep F H F (upd H p ob) := ⟨fun _ z => z, fun a o ha e => by
  have : a ≠ p := fun z => hp (z ▸ ha)
  rw [upd_ne this]; exact e⟩
/-- what goes with a def's body: what it may change, the entry's frozen part and heap, what is kept besides -/
structure Gh where
  M : List Addr
  F0 : Fr
  B : Hp
  C : Fr → Hp → Prop
  hC : ∀ F H F' H', C F H → Keep F H F' H' → C F' H'
  me : Option V := none

/-- the state of a def's body -/
structure ST (K : PySem.W.Frag) (G : Gb) (γ : Gh) (O : List Ow) (F : Fr) (σ : St) (H : Hp) (ρ : Env) : Prop where
  ex : ExM γ.M γ.F0 γ.B F H
  cs : γ.C F H
  me : ∀ v, γ.me = some v → O[0]? = some (.own .fz) → σ[0]? = some (some v)
  sl : ∃ As, Sl K G O F σ H ρ As ∧ ∀ i, ∀ a ∈ As i, γ.B a = none ∨ a ∈ γ.M
section
variable {K : PySem.W.Frag} {G : Gb} {γ : Gh} {F F' : Fr} {H H' : Hp} {O O' : List Ow} {σ : St} {ρ : Env}
theorem ST.ss (h : ST K G γ O F σ H ρ) : SS K G O F σ H ρ := ⟨h.ex.fi, h.sl.imp fun _ q => q.1⟩
theorem ST.step (h : ST K G γ O F σ H ρ) (e : Ex F H F' H') : ST K G γ O F' σ H' ρ := ⟨h.ex.step e, γ.hC _ _ _ _ h.cs e.keep, h.me, h.sl.imp fun _ q => ⟨q.1.ex e, q.2⟩⟩
theorem ST.lr (h : ST K G γ O F σ H ρ) : ρ.length = O.length := let ⟨_, q, _⟩ := h.sl; q.lr
theorem ST.ls (h : ST K G γ O F σ H ρ) : σ.length = O.length := let ⟨_, q, _⟩ := h.sl; q.ls
theorem set_at {α : Type} {l : List α} {i j : Nat} {x : α} : (l.set i x)[j]? = if i = j then (if j < l.length then some x else none) else l[j]? := by
  rw [List.getElem?_set]
  by_cases h : i = j
  · subst h
    simp
  · simp [h]
/-- a slot gets a new value -/
theorem ST.set {o : Ow} {d : D} {v : V} {A : List Addr} (i : Nat) (h : ST K G γ O F σ H ρ) (e : Ex F H F' H') (r : RpO K G F' H' o d v A) (nd : A.Nodup) (new : ∀ a ∈ A, H a = none ∧ ¬ F' a) (h0 : i ≠ 0 ∨ o ≠ .own .fz) :
    ST K G γ (O.set i o) F' (σ.set i (some v)) H' (ρ.set i (some d)) := by
  obtain ⟨As, q, own⟩ := h.sl
  have q' := q.ex e
  refine ⟨h.ex.step e, γ.hC _ _ _ _ h.cs e.keep, fun v' e1 e2 => by
    rw [set_at] at e2 ⊢
    by_cases hi : i = 0
    · rw [if_pos hi] at e2
      split at e2
      · rcases h0 with h0 | h0
        · exact absurd hi h0
        · exact absurd (Option.some.inj e2) h0
      · cases e2
    · rw [if_neg hi] at e2 ⊢
      exact h.me v' e1 e2, fun j => if j = i ∧ i < O.length then A else As j, ⟨by simp [q.lr], by simp [q.ls], fun j oj hj => ?_, fun j k a h1 h2 => ?_, fun j => ?_, fun j a ha => ?_⟩, fun j a ha => ?_⟩
  · rw [set_at] at hj ⊢
    rw [set_at]
    by_cases hij : i = j
    · subst hij
      by_cases hl : i < O.length
      · rw [if_pos rfl, if_pos hl] at hj
        cases hj
        rw [if_pos rfl, if_pos rfl, if_pos (by rw [q.lr]; exact hl), if_pos (by rw [q.ls]; exact hl), if_pos ⟨rfl, hl⟩]
        exact .inr (.inr ⟨d, v, rfl, rfl, r⟩)
      · rw [if_pos rfl, if_neg hl] at hj
        cases hj
    · rw [if_neg hij] at hj
      rw [if_neg hij, if_neg hij, if_neg (fun z => hij z.1.symm)]
      exact q'.sl j oj hj
  · have fresh : ∀ a ∈ A, ∀ l, a ∉ As l := fun a ha l hl => by
      obtain ⟨_, u, hu⟩ := q.nf l a hl
      rw [(new a ha).1] at hu
      cases hu
    try dsimp only at h1 h2
    split at h1 <;> split at h2
    · rename_i z1 z2
      exact z1.1.trans z2.1.symm
    · exact absurd h2 (fresh a h1 k)
    · exact absurd h1 (fresh a h2 j)
    · exact q.dj j k a h1 h2
  · try dsimp only
    split
    · exact nd
    · exact q.nd j
  · try dsimp only at ha
    split at ha
    · exact ⟨(new a ha).2, r.some_ o a ha⟩
    · exact q'.nf j a ha
  · try dsimp only at ha
    split at ha
    · left
      cases z : γ.B a with
      | none => rfl
      | some u =>
        obtain ⟨w, hw⟩ := h.ex.al a u z
        rw [(new a ha).1] at hw
        cases hw
    · exact own j a ha
/-- one of a slot's own objects is written -/
theorem ST.write {i : Nat} {o : Ow} {d d' : D} {v : V} {p : Addr} {ob : HO} (h : ST K G γ O F σ H ρ) (ho : O[i]? = some o) (hn : o ≠ .na) (hd : ρ[i]? = some (some d))
    (k : ∀ A, RpO K G F H o d v A → p ∈ A ∧ ∃ A', RpO K G F (upd H p ob) o d' v A' ∧ A'.Nodup ∧ ∀ a ∈ A', a ∈ A) (hv : σ[i]? = some (some v)) : ST K G γ O F σ (upd H p ob) (ρ.set i (some d')) := by
  obtain ⟨As, q, own⟩ := h.sl
  have hs := q.sl i o ho
  rcases hs with ⟨z, _⟩ | ⟨z, _⟩ | ⟨d0, v0, z1, z2, r⟩
  · exact absurd z hn
  · rw [hd] at z; cases z
  rw [hd] at z1
  rw [hv] at z2
  cases z1
  cases z2
  obtain ⟨hp, A', r', nd', sub⟩ := k _ r
  have hil : i < O.length := (List.getElem?_eq_some_iff.mp ho).1
  obtain ⟨hpF, _⟩ := q.nf i p hp
  refine ⟨h.ex.write (own i p hp), γ.hC _ _ _ _ h.cs (keep_upd hpF), h.me, fun j => if j = i then A' else As j, ⟨by simp [q.lr], q.ls, fun j oj hj => ?_, fun j l a h1 h2 => ?_, fun j => ?_, fun j a ha => ?_⟩, fun j a ha => ?_⟩
  · rw [set_at]
    by_cases hij : i = j
    · subst hij
      rw [ho] at hj
      cases hj
      rw [if_pos rfl, if_pos (by rw [q.lr]; exact hil), if_pos rfl]
      exact .inr (.inr ⟨d', v, rfl, hv, r'⟩)
    · rw [if_neg hij, if_neg (fun z => hij z.symm)]
      rcases q.sl j oj hj with z | z | ⟨dj, vj, y1, y2, y3⟩
      · exact .inl z
      · exact .inr (.inl z)
      · refine .inr (.inr ⟨dj, vj, y1, y2, RpO.mono (fun a q => q) oj (fun a u ha e => ?_) y3⟩)
        have : a ≠ p := by
          rintro rfl
          rcases ha with ha | ha
          · exact hpF ha
          · exact hij (q.dj i j a hp ha)
        rw [upd_ne this]
        exact e
  · try dsimp only at h1 h2
    split at h1 <;> split at h2
    · rename_i z1 z2
      exact z1.trans z2.symm
    · rename_i z1 z2
      exact (z1.trans (q.dj i l a (sub a h1) h2))
    · rename_i z1 z2
      exact (q.dj j i a h1 (sub a h2)).trans z2.symm
    · exact q.dj j l a h1 h2
  · try dsimp only
    split
    · exact nd'
    · exact q.nd j
  · try dsimp only at ha
    split at ha
    · exact ⟨(q.nf i a (sub a ha)).1, r'.some_ o a ha⟩
    · rename_i hji
      obtain ⟨h1, u, h2⟩ := q.nf j a ha
      refine ⟨h1, u, ?_⟩
      have : a ≠ p := by
        rintro rfl
        exact hji (q.dj j i a ha hp)
      rw [upd_ne this]
      exact h2
  · try dsimp only at ha
    split at ha
    · exact own i a (sub a ha)
    · exact own j a ha

/-! ### less is known -/
def leO1 (o o' : Ow) : Bool := decide (o = o') || decide (o' = .na) || (decide (o' = .fz) && decide (o ≠ .na))
def leO : List Ow → List Ow → Bool
  | [], [] => true
  | o :: O, o' :: O' => leO1 o o' && leO O O'
  | _, _ => false
theorem leO_len : ∀ {O O' : List Ow}, leO O O' = true → O.length = O'.length
  | [], [], _ => rfl
  | o :: O, o' :: O', h => by
    unfold leO at h
    rw [Bool.and_eq_true] at h
    simp [leO_len h.2]
  | [], _ :: _, h => by cases h
  | _ :: _, [], h => by cases h
theorem leO_at : ∀ {O O' : List Ow} {i : Nat} {o' : Ow}, leO O O' = true → O'[i]? = some o' → ∃ o, O[i]? = some o ∧ leO1 o o' = true
  | [], [], _, _, _, e => by simp at e
  | o :: O, o' :: O', 0, _, h, e => by
    unfold leO at h
    rw [Bool.and_eq_true] at h
    simp at e
    subst e
    exact ⟨o, by simp, h.1⟩
  | o :: O, o' :: O', i + 1, _, h, e => by
    unfold leO at h
    rw [Bool.and_eq_true] at h
    obtain ⟨u, q1, q2⟩ := leO_at (i := i) h.2 (by simpa using e)
    exact ⟨u, by simpa using q1, q2⟩
  | [], _ :: _, _, _, h, _ => by cases h
  | _ :: _, [], _, _, h, _ => by cases h
theorem ST.weak (h : ST K G γ O F σ H ρ) (l : leO O O' = true) : ∃ F' : Fr, (∀ a, F a → F' a) ∧ ST K G γ O' F' σ H ρ := by
  obtain ⟨As, q, own⟩ := h.sl
  refine ⟨fun a => F a ∨ ∃ i, O'[i]? = some .fz ∧ a ∈ As i, fun a z => .inl z, ⟨⟨fun a z => .inl (h.ex.fr a z), h.ex.hp, h.ex.al, fun a z => ?_, fun a z => ?_⟩, γ.hC _ _ _ _ h.cs ⟨fun a z => .inl z, fun _ _ _ z => z⟩, fun v e1 e2 => by
    obtain ⟨o, ho, lo⟩ := leO_at l e2
    have : o = .own .fz := by
      unfold leO1 at lo
      simpa using lo
    subst this
    exact h.me v e1 ho, fun i => match O'[i]? with | some (.own _) => As i | _ => [], ⟨?_, ?_, fun i o' hi => ?_, fun i j a h1 h2 => ?_, fun i => ?_, fun i a ha => ?_⟩, fun i a ha => ?_⟩⟩
  · rcases z with z | ⟨i, z1, z2⟩
    · exact h.ex.nw a z
    · rcases own i a z2 with y | y
      · exact .inr (.inl y)
      · exact .inr (.inr y)
  · rcases z with z | ⟨i, z1, z2⟩
    · exact h.ex.fi a z
    · exact (q.nf i a z2).2
  · rw [q.lr, leO_len l]
  · rw [q.ls, leO_len l]
  · obtain ⟨o, ho, lo⟩ := leO_at l hi
    rw [hi]
    have hs := q.sl i o ho
    cases o' with
    | na => exact .inl ⟨rfl, rfl⟩
    | fz =>
      try dsimp only
      rcases hs with ⟨z, _⟩ | ⟨z, _⟩ | ⟨d, v, y1, y2, y3⟩
      · subst z
        cases lo
      · exact .inr (.inl ⟨z, rfl⟩)
      · refine .inr (.inr ⟨d, v, y1, y2, rpo_of ?_⟩)
        exact y3.freeze (fun a z => .inl z) o fun a ha => .inr ⟨i, hi, ha⟩
    | own o2 =>
      have : o = .own o2 := by
        unfold leO1 at lo
        simpa using lo
      subst this
      try dsimp only
      rcases hs with ⟨z, _⟩ | ⟨z, z2⟩ | ⟨d, v, y1, y2, y3⟩
      · cases z
      · exact .inr (.inl ⟨z, z2⟩)
      · exact .inr (.inr ⟨d, v, y1, y2, RpO.mono (fun a z => .inl z) _ (fun a u _ e => e) y3⟩)
  · try dsimp only at h1 h2
    split at h1 <;> split at h2 <;> first | exact q.dj i j a h1 h2 | cases h1 | cases h2
  · try dsimp only
    split
    · exact q.nd i
    · exact List.nodup_nil
  · try dsimp only at ha
    split at ha
    · rename_i o2 e
      obtain ⟨h1, h2⟩ := q.nf i a ha
      refine ⟨fun z => ?_, h2⟩
      rcases z with z | ⟨j, z1, z2⟩
      · exact h1 z
      · have := q.dj i j a ha z2
        subst this
        rw [e] at z1
        cases z1
    · cases ha
  · try dsimp only at ha
    split at ha
    · exact own i a ha
    · cases ha
end

/-! ### statements -/
inductive Out where
  | nx (ρ : Env) | rt (d : D) (ρ : Env) | bk (ρ : Env) | ct (ρ : Env) | ex (c : Nat) (fs : List D) (ρ : Env) | st
/-- how a block may be left: what is owned there -/
structure Exits where
  ro : Ow
  rr : List Ow
  lo : List Ow
  xo : List Ow
def KS (K : PySem.W.Frag) (G : Gb) (W : WX) (Z : Exits) (γ : Gh) (O' : List Ow) (E : Ends) : Out → Prop
  | .nx ρ => ∀ F σ H, ST K G γ O' F σ H ρ → E.nx σ H
  | .rt d ρ => ∀ F σ H v, ST K G γ (Z.rr ++ [Z.ro]) F (σ ++ [some v]) H (ρ ++ [some d]) → E.rt v H
  | .bk ρ => ∀ F σ H, ST K G γ Z.lo F σ H ρ → E.bk σ H
  | .ct ρ => ∀ F σ H, ST K G γ Z.lo F σ H ρ → E.ct σ H
  | .ex c fs ρ => ∀ F σ H dd, ST K G γ Z.xo F σ H ρ → XR K G F H c fs dd → W (.ref (G.cls c)) dd σ H
  | .st => False
def ImpS (K : PySem.W.Frag) (G : Gb) (W : WX) (Z : Exits) (O O' : List Ow) (t : TS) (f : Env → Out) : Prop :=
  ∀ γ F σ H ρ E, ST K G γ O F σ H ρ → KS K G W Z γ O' E (f ρ) → t E σ H
def GS (X : Cx) (G : Gb) (W : WX) (Z : Exits) (O O' : List Ow) (s : Stmt) (f : Env → Out) : Prop := ∃ t, PS X s t ∧ ImpS X.K G W Z O O' t f
def GSs (X : Cx) (G : Gb) (W : WX) (Z : Exits) (O O' : List Ow) (s : List Stmt) (f : Env → Out) : Prop := ∃ t, PSs X s t ∧ ImpS X.K G W Z O O' t f
def Out.seq : Out → (Env → Out) → Out
  | .nx ρ, g => g ρ
  | o, _ => o
def seqS (f g : Env → Out) : Env → Out := fun ρ => (f ρ).seq g
def nxS : Env → Out := .nx
/-- a result in a statement -/
def R.out {α : Type} : R α → Env → (α → Out) → Out
  | .ok a, _, g => g a
  | .ex c fs, ρ, _ => .ex c fs ρ
  | .st, _, _ => .st
@[simp] theorem R.out_ok {α : Type} (a : α) (ρ : Env) (g : α → Out) : (R.ok a).out ρ g = g a := rfl
@[simp] theorem R.out_ex {α : Type} (c : Nat) (fs : List D) (ρ : Env) (g : α → Out) : (R.ex c fs : R α).out ρ g = .ex c fs ρ := rfl
@[simp] theorem R.out_st {α : Type} (ρ : Env) (g : α → Out) : (R.st : R α).out ρ g = .st := rfl
@[simp] theorem Out.seq_nx (ρ : Env) (g : Env → Out) : (Out.nx ρ).seq g = g ρ := rfl
@[simp] theorem Out.seq_rt (d : D) (ρ : Env) (g : Env → Out) : (Out.rt d ρ).seq g = .rt d ρ := rfl
@[simp] theorem Out.seq_bk (ρ : Env) (g : Env → Out) : (Out.bk ρ).seq g = .bk ρ := rfl
@[simp] theorem Out.seq_ct (ρ : Env) (g : Env → Out) : (Out.ct ρ).seq g = .ct ρ := rfl
@[simp] theorem Out.seq_ex (c : Nat) (fs : List D) (ρ : Env) (g : Env → Out) : (Out.ex c fs ρ).seq g = .ex c fs ρ := rfl
@[simp] theorem Out.seq_st (g : Env → Out) : (Out.st).seq g = .st := rfl
section
variable {X : Cx} {G : Gb} {W : WX} {Z : Exits} {O O' O1 : List Ow} {γ : Gh} {F F' : Fr} {H H' : Hp} {σ : St} {ρ : Env} {E : Ends}
theorem gss_nil (l : leO O O' = true := by rfl) : GSs X G W Z O O' [] nxS := ⟨_, pss_nil, fun γ F σ H ρ E h k => by
  obtain ⟨F', _, h'⟩ := h.weak l
  exact k F' σ H h'⟩
theorem imp_sq {t u : TS} {f g : Env → Out} (i : ImpS X.K G W Z O O1 t f) (j : ImpS X.K G W Z O1 O' u g) : ImpS X.K G W Z O O' (tSeq t u) (seqS f g) := fun γ F σ H ρ E h k => by
  refine i γ F σ H ρ { E with nx := u E } h ?_
  revert k
  unfold seqS
  cases f ρ with
  | nx ρ1 => exact fun k F' σ' H' h' => j γ F' σ' H' ρ1 E h' k
  | _ => exact fun k => k
theorem gss_cons {s : Stmt} {ss : List Stmt} {f g : Env → Out} (h : GS X G W Z O O1 s f) (h2 : GSs X G W Z O1 O' ss g) : GSs X G W Z O O' (s :: ss) (seqS f g) := by
  obtain ⟨t, p, i⟩ := h
  obtain ⟨u, q, j⟩ := h2
  exact ⟨_, pss_cons p q, imp_sq i j⟩
theorem gss_one {s : Stmt} {f : Env → Out} (h : GS X G W Z O O' s f) : GSs X G W Z O O' [s] f := by
  obtain ⟨t, p, i⟩ := h
  exact ⟨_, pss_one p, i⟩
theorem XR.mono {K : PySem.W.Frag} {c : Nat} {fs : List D} {dd : Option Addr} (x : XR K G F H c fs dd) (hf : ∀ a, F a → F' a) : XR K G F' H c fs dd := by
  rcases x with x | ⟨a, kvs, e, ne, hFa, h1, hl, h2⟩
  · exact .inl x
  · refine .inr ⟨a, kvs, e, ne, hf a hFa, h1, hl, fun k x d q1 q2 => ?_⟩
    obtain ⟨v, y1, y2⟩ := h2 k x d q1 q2
    exact ⟨v, y1, Rp.mono hf (fun _ _ _ z => z) d y2⟩
/-- an exception of an expression -/
theorem KS.exn {c : Nat} {fs : List D} (h : ST X.K G γ O F σ H ρ) (l : leO O Z.xo = true) (k : KS X.K G W Z γ O' E (.ex c fs ρ)) : ∀ F' H' dd, Ex F H F' H' → XR X.K G F' H' c fs dd → W (.ref (G.cls c)) dd σ H' := fun F' H' dd e x => by
  obtain ⟨F2, hf, h2⟩ := (h.step e).weak l
  exact k F2 σ H' dd h2 (x.mono hf)
end
end NW
end

section
set_option Elab.async false
set_option linter.all false
set_option maxRecDepth 100000
/-! NWh: the statements' rules. -/
namespace NW
open PySem PySem.Spec L2
open PyProof.Rows hiding St

section
variable {K : PySem.W.Frag} {G : Gb} {γ : Gh} {F F' : Fr} {H H' : Hp} {O O' : List Ow} {σ : St} {ρ : Env}
/-- a value behind the slots -/
theorem snoc_at {α : Type} {l : List α} {x : α} {j : Nat} : (l ++ [x])[j]? = if j = l.length then some x else l[j]? := by
  by_cases h : j < l.length
  · rw [List.getElem?_append_left h, if_neg (by omega)]
  · by_cases e : j = l.length
    · subst e
      rw [if_pos rfl]
      simp
    · rw [if_neg e, List.getElem?_eq_none (by simp; omega), List.getElem?_eq_none (by omega)]
theorem ST.me_push {o : Ow} {v : V} (h : ST K G γ O F σ H ρ) (hl : 0 < O.length) : ∀ v', γ.me = some v' → (O ++ [o])[0]? = some (.own .fz) → (σ ++ [some v])[0]? = some (some v') := fun v' e1 e2 => by
  have ls := h.ls
  rw [snoc_at, if_neg (by omega)] at e2 ⊢
  exact h.me v' e1 e2
theorem ST.push {o : Ow} {d : D} {v : V} {A : List Addr} (h : ST K G γ O F σ H ρ) (e : Ex F H F' H') (r : RpO K G F' H' o d v A) (nd : A.Nodup) (new : ∀ a ∈ A, H a = none ∧ ¬ F' a) (hl : γ.me = none ∨ 0 < O.length) :
    ST K G γ (O ++ [o]) F' (σ ++ [some v]) H' (ρ ++ [some d]) := by
  obtain ⟨As, q, own⟩ := h.sl
  have q' := q.ex e
  have fresh : ∀ a ∈ A, ∀ l, a ∉ As l := fun a ha l hl => by
    obtain ⟨_, u, hu⟩ := q.nf l a hl
    rw [(new a ha).1] at hu
    cases hu
  refine ⟨h.ex.step e, γ.hC _ _ _ _ h.cs e.keep, fun v' e1 e2 => ?_, fun j => if j = O.length then A else As j, ⟨by simp [q.lr], by simp [q.ls], fun j oj hj => ?_, fun j k a h1 h2 => ?_, fun j => ?_, fun j a ha => ?_⟩, fun j a ha => ?_⟩
  · rcases hl with hl | hl
    · rw [hl] at e1; cases e1
    · exact h.me_push hl v' e1 e2
  · rw [snoc_at] at hj ⊢
    rw [snoc_at, q.lr, q.ls]
    by_cases e : j = O.length
    · rw [if_pos e] at hj ⊢
      rw [if_pos e, if_pos e]
      cases hj
      exact .inr (.inr ⟨d, v, rfl, rfl, r⟩)
    · rw [if_neg e] at hj ⊢
      rw [if_neg e, if_neg e]
      exact q'.sl j oj hj
  · try dsimp only at h1 h2
    split at h1 <;> split at h2
    · rename_i z1 z2
      exact z1.trans z2.symm
    · exact absurd h2 (fresh a h1 k)
    · exact absurd h1 (fresh a h2 j)
    · exact q.dj j k a h1 h2
  · try dsimp only
    split
    · exact nd
    · exact q.nd j
  · try dsimp only at ha
    split at ha
    · exact ⟨(new a ha).2, r.some_ o a ha⟩
    · exact q'.nf j a ha
  · try dsimp only at ha
    split at ha
    · left
      cases z : γ.B a with
      | none => rfl
      | some u =>
        obtain ⟨w, hw⟩ := h.ex.al a u z
        rw [(new a ha).1] at hw
        cases hw
    · exact own j a ha
theorem ST.dropped {K : PySem.W.Frag} (h : ST K G γ O F σ H ρ) (i : Nat) : ST K G γ (O.set i .na) F σ H (ρ.set i none) := by
  obtain ⟨As, q, own⟩ := h.sl
  refine ⟨h.ex, h.cs, fun v' e1 e2 => ?_, fun j => if j = i then [] else As j, ⟨by simp [q.lr], by simp [q.ls], fun j oj hj => ?_, fun j k a h1 h2 => ?_, fun j => ?_, fun j a ha => ?_⟩, fun j a ha => ?_⟩
  · rw [set_at] at e2
    by_cases hi : i = 0
    · rw [if_pos hi] at e2
      split at e2 <;> cases e2
    · rw [if_neg hi] at e2
      exact h.me v' e1 e2
  · rw [set_at] at hj ⊢
    by_cases e : i = j
    · subst e
      rw [if_pos rfl] at hj ⊢
      split at hj
      · cases hj
        exact .inl ⟨rfl, if_pos rfl⟩
      · cases hj
    · rw [if_neg e] at hj ⊢
      have z := q.sl j oj hj
      show SlO K G F H oj (ρ[j]?) (σ[j]?) (if j = i then [] else As j)
      rw [if_neg (fun z => e z.symm)]
      exact z
  · try dsimp only at h1 h2
    split at h1
    · cases h1
    · split at h2
      · cases h2
      · exact q.dj j k a h1 h2
  · try dsimp only
    split
    · exact List.nodup_nil
    · exact q.nd j
  · try dsimp only at ha
    split at ha
    · cases ha
    · exact q.nf j a ha
  · try dsimp only at ha
    split at ha
    · cases ha
    · exact own j a ha
/-- a slot's own value, moved behind the slots -/
theorem ST.pull {i : Nat} {o : Ow} {d : D} {v : V} (h : ST K G γ O F σ H ρ) (ho : O[i]? = some o) (hn : o ≠ .na) (hd : ρ[i]? = some (some d)) (hv : σ[i]? = some (some v)) :
    ST K G γ (O.set i .na ++ [o]) F (σ ++ [some v]) H (ρ ++ [some d]) := by
  obtain ⟨As, q, own⟩ := h.sl
  have hil : i < O.length := (List.getElem?_eq_some_iff.mp ho).1
  rcases q.sl i o ho with ⟨z, _⟩ | ⟨z, _⟩ | ⟨d0, v0, z1, z2, r⟩
  · exact absurd z hn
  · rw [hd] at z; cases z
  rw [hd] at z1
  rw [hv] at z2
  cases z1
  cases z2
  have ls := q.ls
  have lr := q.lr
  refine ⟨h.ex, h.cs, fun v' e1 e2 => ?_, fun j => if j = O.length then As i else if j = i ∨ O.length < j then [] else As j, ⟨by simp [q.lr], by simp [q.ls], fun j oj hj => ?_, fun j k a h1 h2 => ?_, fun j => ?_, fun j a ha => ?_⟩, fun j a ha => ?_⟩
  · rw [snoc_at, List.length_set, if_neg (by omega), set_at] at e2
    rw [snoc_at, if_neg (by omega)]
    by_cases hi : i = 0
    · rw [if_pos hi] at e2
      split at e2 <;> cases e2
    · rw [if_neg hi] at e2
      exact h.me v' e1 e2
  · rw [snoc_at, List.length_set] at hj
    rw [snoc_at, snoc_at, lr, ls]
    by_cases e : j = O.length
    · rw [if_pos e] at hj
      rw [if_pos e, if_pos e, if_pos e]
      cases hj
      exact .inr (.inr ⟨d, v, rfl, rfl, r⟩)
    · rw [if_neg e, set_at] at hj
      rw [if_neg e, if_neg e, if_neg e]
      by_cases e2 : i = j
      · rw [if_pos e2] at hj
        split at hj
        · cases hj
          exact .inl ⟨rfl, if_pos (.inl e2.symm)⟩
        · cases hj
      · rw [if_neg e2] at hj
        have hjl : j < O.length := (List.getElem?_eq_some_iff.mp hj).1
        rw [if_neg (by omega)]
        exact q.sl j oj hj
  · try dsimp only at h1 h2
    split at h1
    · split at h2
      · rename_i z1 z2
        exact z1.trans z2.symm
      · split at h2
        · cases h2
        · rename_i z
          exact absurd (q.dj k i a h2 h1) (fun y => z (.inl y))
    · split at h1
      · cases h1
      · split at h2
        · rename_i z _
          exact absurd (q.dj j i a h1 h2) (fun y => z (.inl y))
        · split at h2
          · cases h2
          · exact q.dj j k a h1 h2
  · try dsimp only
    split
    · exact q.nd i
    · split
      · exact List.nodup_nil
      · exact q.nd j
  · try dsimp only at ha
    split at ha
    · exact q.nf i a ha
    · split at ha
      · cases ha
      · exact q.nf j a ha
  · try dsimp only at ha
    split at ha
    · exact own i a ha
    · split at ha
      · cases ha
      · exact own j a ha
end

section
variable {X : Cx} {G : Gb} {W : WX} {Z : Exits} {O O' O1 : List Ow} {γ : Gh} {F F' : Fr} {H H' : Hp} {σ : St} {ρ : Env} {E : Ends}
theorem stm_N {o : Ow} {t : TE} {f : Env → R D} {g : D → Out} {R' : V → Hp → Prop} (i : ImpN X.K G W O o t f) (h : ST X.K G γ O F σ H ρ) (l : leO O Z.xo = true) (k : KS X.K G W Z γ O' E ((f ρ).out ρ g))
    (c : ∀ d F' H' v A, Ex F H F' H' → RpO X.K G F' H' o d v A → A.Nodup → (∀ a ∈ A, H a = none ∧ ¬ F' a) → KS X.K G W Z γ O' E (g d) → R' v H') : t σ H R' := by
  refine i F σ H ρ _ h.ss ?_
  revert k
  cases f ρ with
  | ok d => exact fun k F' H' v A e r nd n => c d F' H' v A e r nd n k
  | ex cc fs => exact fun k => KS.exn h l k
  | st => exact fun k => k
theorem stm_B {o : Ow} {t : TE} {f : Env → R D} {g : D → Out} {R' : V → Hp → Prop} (i : ImpB X.K G W O o t f) (h : ST X.K G γ O F σ H ρ) (l : leO O Z.xo = true) (k : KS X.K G W Z γ O' E ((f ρ).out ρ g))
    (c : ∀ d F' H' v A, Ex F H F' H' → RpO X.K G F' H' o d v A → KS X.K G W Z γ O' E (g d) → R' v H') : t σ H R' := by
  refine i F σ H ρ _ h.ss ?_
  revert k
  cases f ρ with
  | ok d => exact fun k F' H' v A e r => c d F' H' v A e r k
  | ex cc fs => exact fun k => KS.exn h l k
  | st => exact fun k => k
theorem stm_T {t : TT} {f : Env → R Bool} {g : Bool → Out} {R' : Bool → Hp → Prop} (i : ImpT X.K G W O t f) (h : ST X.K G γ O F σ H ρ) (l : leO O Z.xo = true) (k : KS X.K G W Z γ O' E ((f ρ).out ρ g))
    (c : ∀ b F' H', Ex F H F' H' → KS X.K G W Z γ O' E (g b) → R' b H') : t σ H R' := by
  refine i F σ H ρ _ h.ss ?_
  revert k
  cases f ρ with
  | ok d => exact fun k F' H' e => c d F' H' e k
  | ex cc fs => exact fun k => KS.exn h l k
  | st => exact fun k => k

/-! ### name = value -/
def setS (i : Nat) (f : Env → R D) : Env → Out := fun ρ => (f ρ).out ρ fun d => .nx (ρ.set i (some d))
def ok0 (i : Nat) (o : Ow) : Bool := i != 0 || !decide (o = .own .fz)
theorem ok0_or {i : Nat} {o : Ow} (h : ok0 i o = true) : i ≠ 0 ∨ o ≠ .own .fz := by
  unfold ok0 at h
  rw [Bool.or_eq_true] at h
  exact h.imp (fun z => by simpa using z) (fun z => by simpa using z)
theorem imp_set {i : Nat} {o : Ow} {t : TE} {f : Env → R D} (h : ImpN X.K G W O o t f) (l : leO O Z.xo = true) (h0 : ok0 i o = true) : ImpS X.K G W Z O (O.set i o) (tAsg t (gName i)) (setS i f) := fun γ F σ H ρ E s k =>
  stm_N (t := t) h s l k fun d F' H' v A e r nd n k1 => k1 F' (σ.set i (some v)) H' (s.set i e r nd n (ok0_or h0))
theorem gs_set (i : Nat) {o : Ow} {x : Str} {e : Expr} {pos pos' : Pos} {f : Env → R D} (h : GN X G W O o e f) (nd : X.N.Nodup) (hi : X.N[i]? = some x := by rfl) (hx : Loc X.env.scope x := by first | exact Or.inl rfl | exact Or.inr rfl) (l : leO O Z.xo = true := by rfl) (h0 : ok0 i o = true := by rfl)
    (hs : swapsWith e (some (.Name x pos')) pos.line X.env = pure false := by rfl) (hf : X.fn x = true ∨ X.env.scope.names.lookup x = some .local := by first | exact .inl rfl | exact .inr rfl) : GS X G W Z O (O.set i o) (.Assign [.Name x pos'] e pos) (setS i f) := by
  obtain ⟨t, p, j⟩ := h
  exact ⟨_, ps_set nd hi hx p hs hf, imp_set j l h0⟩
/-! ### an expression alone -/
def exprS (f : Env → R D) : Env → Out := fun ρ => (f ρ).out ρ fun _ => .nx ρ
theorem gs_expr {o : Ow} {e : Expr} {pos : Pos} {f : Env → R D} (h : GB X G W O o e f) (l : leO O Z.xo = true := by rfl) (hs : swapsWith e none pos.line X.env = pure false := by rfl) : GS X G W Z O O (.Expr e pos) (exprS f) := by
  obtain ⟨t, p, j⟩ := h
  exact ⟨_, ps_expr p hs, fun γ F σ H ρ E s k => stm_B (t := t) j s l k fun d F' H' v A e r k1 => k1 F' σ H' (s.step e)⟩
/-! ### return -/
def retS (f : Env → R D) : Env → Out := fun ρ => (f ρ).out ρ fun d => .rt d ρ
theorem gs_ret {o : Ow} {e : Expr} {pos : Pos} {f : Env → R D} (h : GN X G W O o e f) (l : leO O Z.xo = true := by rfl) (lr : leO (O ++ [o]) (Z.rr ++ [Z.ro]) = true := by rfl) (h1 : 0 < O.length := by decide) : GS X G W Z O O' (.Return (some e) pos) (retS f) := by
  obtain ⟨t, p, j⟩ := h
  refine ⟨_, ps_ret p, fun γ F σ H ρ E s k => stm_N (t := t) j s l k fun d F' H' v A e r nd n k1 => ?_⟩
  obtain ⟨F2, _, s2⟩ := (s.push e r nd n (.inr h1)).weak lr
  exact k1 F2 σ H' v s2
def retV (i : Nat) : Env → Out := fun ρ => (getE ρ i).out ρ fun d => .rt d ρ
theorem gs_retV (i : Nat) {x : Str} {o : Ow} {pos p2 : Pos} (ho : O[i]? = some o := by rfl) (hn : o ≠ .na := by decide) (lr : leO (O.set i .na ++ [o]) (Z.rr ++ [Z.ro]) = true := by rfl) (hN : X.N[i]? = some x := by rfl)
    (hv : Vis X.env.scope x := by first | exact Or.inl rfl | exact Or.inr (Or.inl rfl) | exact Or.inr (Or.inr rfl)) (hd : (x == ("__debug__" : Str)) = false := by decide) (hcd : (x == ("__classdict__" : Str)) = false := by decide) : GS X G W Z O O' (.Return (some (.Name x p2)) pos) (retV i) := by
  refine ⟨_, ps_ret (pe_var hN hv hd hcd), fun γ F σ H ρ E s k => ?_⟩
  unfold retV getE at k
  split at k
  · rename_i d e
    obtain ⟨v, A, q1, q2⟩ := s.ss.get ho hn e
    obtain ⟨F2, _, s2⟩ := (s.pull ho hn e q1).weak lr
    exact ⟨v, q1, k F2 σ H v s2⟩
  · exact k.elim
def retN : Env → Out := fun ρ => .rt .non ρ
theorem gs_retN {pos : Pos} (lr : leO (O ++ [.fz]) (Z.rr ++ [Z.ro]) = true := by rfl) (h1 : 0 < O.length := by decide) : GS X G W Z O O' (.Return none pos) retN := by
  refine ⟨_, ps_retN, fun γ F σ H ρ E s k => ?_⟩
  obtain ⟨F2, _, s2⟩ := (s.push (v := V.non) (d := D.non) (A := []) (Ex.refl s.ex.fi) (rpo_of (rp_non.mpr rfl)) List.nodup_nil (fun a ha => nomatch ha) (.inr h1)).weak lr
  exact k F2 σ H _ s2
/-! ### if, pass, break, continue -/
def ifS (c : Env → R Bool) (f g : Env → Out) : Env → Out := fun ρ => (c ρ).out ρ fun b => if b then f ρ else g ρ
theorem gs_if {c : Expr} {a b : List Stmt} {pos : Pos} {fc : Env → R Bool} {f g : Env → Out} (hc : GT X G W O c fc) (ha : GSs X G W Z O O' a f) (hb : GSs X G W Z O O' b g) (l : leO O Z.xo = true := by rfl) : GS X G W Z O O' (.If c a b pos) (ifS fc f g) := by
  obtain ⟨tc, pc, ic⟩ := hc
  obtain ⟨ta, pa, ia⟩ := ha
  obtain ⟨tb, pb, ib⟩ := hb
  refine ⟨_, ps_if pc pa pb, fun γ F σ H ρ E s k => stm_T (t := tc) ic s l k fun b F' H' e k1 => ?_⟩
  cases b with
  | true => exact iteT (ia γ F' σ H' ρ E (s.step e) k1)
  | false => exact iteF (ib γ F' σ H' ρ E (s.step e) k1)
theorem gs_pass {pos : Pos} : GS X G W Z O O (.Pass pos) nxS := ⟨_, ps_pass, fun γ F σ H ρ E s k => k F σ H s⟩
def bkS : Env → Out := .bk
def ctS : Env → Out := .ct
theorem gs_break {pos : Pos} (l : leO O Z.lo = true := by rfl) : GS X G W Z O O' (.Break pos) bkS := ⟨_, ps_break, fun γ F σ H ρ E s k => by
  obtain ⟨F2, _, s2⟩ := s.weak l
  exact k F2 σ H s2⟩
theorem gs_continue {pos : Pos} (l : leO O Z.lo = true := by rfl) : GS X G W Z O O' (.Continue pos) ctS := ⟨_, ps_continue, fun γ F σ H ρ E s k => by
  obtain ⟨F2, _, s2⟩ := s.weak l
  exact k F2 σ H s2⟩
def stS : Env → Out := fun _ => .st
theorem gs_never {s : Stmt} : GS X G W Z O O' s stS := ⟨_, ps_never, fun γ F σ H ρ E s k => k.elim⟩
theorem gss_never {s : List Stmt} : GSs X G W Z O O' s stS := ⟨_, pss_never, fun γ F σ H ρ E s k => k.elim⟩
/-- less is known from here on -/
theorem gss_weak {ss : List Stmt} {f : Env → Out} (l : leO O O1 = true) (h : GSs X G W Z O1 O' ss f) : GSs X G W Z O O' ss f := by
  obtain ⟨t, p, i⟩ := h
  refine ⟨t, p, fun γ F σ H ρ E s k => ?_⟩
  obtain ⟨F2, _, s2⟩ := s.weak l
  exact i γ F2 σ H ρ E s2 k
/-- a slot is forgotten from here on -/
def wipeE (ρ : Env) : List Nat → Env
  | [] => ρ
  | i :: is => (wipeE ρ is).set i none
def dropS (is : List Nat) : Env → Out := fun ρ => .nx (wipeE ρ is)
def wipeO (O : List Ow) : List Nat → List Ow
  | [] => O
  | i :: is => (wipeO O is).set i .na
theorem ST.wiped {K : PySem.W.Frag} (h : ST K G γ O F σ H ρ) : ∀ is : List Nat, ST K G γ (wipeO O is) F σ H (wipeE ρ is)
  | [] => h
  | i :: is => (h.wiped is).dropped i
theorem gss_nilW (is : List Nat) (l : leO (wipeO O is) O' = true := by rfl) : GSs X G W Z O O' [] (dropS is) := ⟨_, pss_nil, fun γ F σ H ρ E h k => by
  obtain ⟨F', _, h'⟩ := (h.wiped is).weak l
  exact k F' σ H h'⟩

end
end NW
end

section
set_option Elab.async false
set_option linter.all false
set_option maxRecDepth 100000
/-! NWi: targets, stores, appends; loops. -/
namespace NW
open PySem PySem.Spec L2
open PyProof.Rows hiding St

def ImpG (K : PySem.W.Frag) (G : Gb) (O O' : List Ow) (t : TG) (f : D → Env → R Env) : Prop :=
  ∀ γ F σ H ρ d v Q, ST K G γ O F σ H ρ → Rp K G F H d v → (match f d ρ with
    | .ok ρ' => ∀ F' σ' H', ST K G γ O' F' σ' H' ρ' → Keep F H F' H' → Q σ' H'
    | _ => False) → t v σ H Q
def GG (X : Cx) (G : Gb) (O O' : List Ow) (e : Expr) (f : D → Env → R Env) : Prop := ∃ t, PG X e t ∧ ImpG X.K G O O' t f
def ImpGs (K : PySem.W.Frag) (G : Gb) (O O' : List Ow) (t : TGs) (f : List D → Env → R Env) : Prop :=
  ∀ γ F σ H ρ ds vs Q, ST K G γ O F σ H ρ → Rps K G F H ds vs → (match f ds ρ with
    | .ok ρ' => ∀ F' σ' H', ST K G γ O' F' σ' H' ρ' → Keep F H F' H' → Q σ' H'
    | _ => False) → t vs σ H Q
def GGs (X : Cx) (G : Gb) (O O' : List Ow) (es : List Expr) (f : List D → Env → R Env) : Prop := ∃ t, PGs X es t ∧ ImpGs X.K G O O' t f
def nameG (i : Nat) : D → Env → R Env := fun d ρ => .ok (ρ.set i (some d))
def nilG : List D → Env → R Env
  | [], ρ => .ok ρ
  | _, _ => .st
def consG (f : D → Env → R Env) (g : List D → Env → R Env) : List D → Env → R Env
  | d :: ds, ρ => (f d ρ).bind fun ρ' => g ds ρ'
  | _, _ => .st
def tupG (f : List D → Env → R Env) : D → Env → R Env
  | .tup ds, ρ => f ds ρ
  | _, _ => .st
section
variable {X : Cx} {G : Gb} {W : WX} {Z : Exits} {O O' O1 : List Ow} {γ : Gh} {F F' : Fr} {H H' : Hp} {σ : St} {ρ : Env} {E : Ends}
theorem gg_name (i : Nat) {x : Str} {pos : Pos} (nd : X.N.Nodup) (hi : X.N[i]? = some x := by rfl) (hx : Loc X.env.scope x := by first | exact Or.inl rfl | exact Or.inr rfl) (hf : X.fn x = true ∨ X.env.scope.names.lookup x = some .local := by first | exact .inl rfl | exact .inr rfl) : GG X G O (O.set i .fz) (.Name x pos) (nameG i) :=
  ⟨_, pg_name nd hi hx hf, fun γ F σ H ρ d v Q s r k => k F _ H (s.set i (Ex.refl s.ex.fi) (rpo_of r) List.nodup_nil (fun a ha => nomatch ha) (.inr (by decide))) Keep.refl⟩
theorem ggs_nil : GGs X G O O [] nilG := ⟨_, pgs_nil, fun γ F σ H ρ ds vs Q s r k => by
  cases ds with
  | nil =>
    have e : vs = [] := by unfold Rps at r; exact r
    exact ⟨e, k F σ H s Keep.refl⟩
  | cons d ds => exact k.elim⟩
theorem imp_bindG {o : R Env} {g : Env → R Env} {P : Env → Prop} (k : match o.bind g with
    | .ok ρ' => P ρ'
    | _ => False) : ∃ ρ1, o = .ok ρ1 ∧ match g ρ1 with
    | .ok ρ' => P ρ'
    | _ => False := by
  cases o with
  | ok ρ1 => exact ⟨ρ1, rfl, k⟩
  | ex c fs => exact k.elim
  | st => exact k.elim
theorem ggs_cons {e : Expr} {es : List Expr} {f : D → Env → R Env} {g : List D → Env → R Env} (h : GG X G O O1 e f) (h2 : GGs X G O1 O' es g)
    (hs : (assignEach (e :: es) X.env).map (·.2) = assign e X.env :: (assignEach es X.env).map (·.2) := by rfl) : GGs X G O O' (e :: es) (consG f g) := by
  obtain ⟨t, p, i⟩ := h
  obtain ⟨u, q, j⟩ := h2
  refine ⟨_, pgs_cons p q hs, fun γ F σ H ρ ds vs Q s r k => ?_⟩
  cases ds with
  | nil => exact k.elim
  | cons d ds =>
    unfold Rps at r
    obtain ⟨v, vr, ev, r1, r2⟩ := r
    refine ⟨v, vr, ev, i γ F σ H ρ d v _ s r1 ?_⟩
    obtain ⟨ρ1, e1, k1⟩ := imp_bindG k
    rw [e1]
    intro F1 σ1 H1 s1 kp1
    refine j γ F1 σ1 H1 ρ1 ds vr _ s1 (Rps.mono kp1.fr kp1.hp ds r2) ?_
    revert k1
    cases g ds ρ1 with
    | ok ρ2 => exact fun k1 F2 σ2 H2 s2 kp2 => k1 F2 σ2 H2 s2 (kp1.trans kp2)
    | ex c fs => exact fun k1 => k1
    | st => exact fun k1 => k1
theorem gg_tup {es : List Expr} {k : Nat} {pos : Pos} {f : List D → Env → R Env} {n : Nat} (hc : X.calm = true) (h : GGs X G O O' es f) (hlen : ∀ ds ρ ρ', f ds ρ = .ok ρ' → ds.length = n)
    (hn : (assignEach es X.env).length = n := by rfl) (hst : (assignEach es X.env).findIdx? (·.1) = none := by rfl) : GG X G O O' (.Tuple es k pos) (tupG f) := by
  obtain ⟨t, p, i⟩ := h
  refine ⟨_, pg_tup hc p hn hst, fun γ F σ H ρ d v Q s r k => ?_⟩
  cases d <;> first | exact k.elim | skip
  rename_i ds
  unfold Rp at r
  obtain ⟨a, vs, e, ⟨_, ha⟩, rs⟩ := r
  refine ⟨a, vs, e, SqT.of ha, ?_, i γ F σ H ρ ds vs Q s rs k⟩
  rw [rs.len]
  have k : (match f ds ρ with
    | .ok ρ' => ∀ F' σ' H', ST X.K G γ O' F' σ' H' ρ' → Keep F H F' H' → Q σ' H'
    | _ => False) := k
  cases q : f ds ρ with
  | ok ρ' => exact hlen ds ρ ρ' q
  | ex c fs => rw [q] at k; exact k.elim
  | st => rw [q] at k; exact k.elim
theorem len_nil {ds : List D} {ρ ρ' : Env} (h : nilG ds ρ = .ok ρ') : ds.length = 0 := by
  cases ds with
  | nil => rfl
  | cons d ds => cases h
theorem len_cons {f : D → Env → R Env} {g : List D → Env → R Env} {n : Nat} (hg : ∀ ds ρ ρ', g ds ρ = .ok ρ' → ds.length = n) (ds : List D) (ρ ρ' : Env) (h : consG f g ds ρ = .ok ρ') : ds.length = n + 1 := by
  cases ds with
  | nil => cases h
  | cons d ds =>
    have h : ((f d ρ).bind fun ρ' => g ds ρ') = .ok ρ' := h
    cases e : f d ρ with
    | ok ρ1 => rw [e] at h; simp [hg ds ρ1 ρ' h]
    | ex c fs => rw [e] at h; cases h
    | st => rw [e] at h; cases h
theorem gg_tup2 {e1 e2 : Expr} {k : Nat} {pos : Pos} {f1 f2 : D → Env → R Env} (hc : X.calm = true) (h : GGs X G O O' [e1, e2] (consG f1 (consG f2 nilG))) (hn : (assignEach [e1, e2] X.env).length = 2 := by rfl) (hst : (assignEach [e1, e2] X.env).findIdx? (·.1) = none := by rfl) : GG X G O O' (.Tuple [e1, e2] k pos) (tupG (consG f1 (consG f2 nilG))) :=
  gg_tup hc h (len_cons (len_cons fun _ _ _ => len_nil)) hn hst
theorem gg_tup3 {e1 e2 e3 : Expr} {k : Nat} {pos : Pos} {f1 f2 f3 : D → Env → R Env} (hc : X.calm = true) (h : GGs X G O O' [e1, e2, e3] (consG f1 (consG f2 (consG f3 nilG)))) (hn : (assignEach [e1, e2, e3] X.env).length = 3 := by rfl) (hst : (assignEach [e1, e2, e3] X.env).findIdx? (·.1) = none := by rfl) : GG X G O O' (.Tuple [e1, e2, e3] k pos) (tupG (consG f1 (consG f2 (consG f3 nilG)))) :=
  gg_tup hc h (len_cons (len_cons (len_cons fun _ _ _ => len_nil))) hn hst
theorem gg_tup4 {e1 e2 e3 e4 : Expr} {k : Nat} {pos : Pos} {f1 f2 f3 f4 : D → Env → R Env} (hc : X.calm = true) (h : GGs X G O O' [e1, e2, e3, e4] (consG f1 (consG f2 (consG f3 (consG f4 nilG))))) (hn : (assignEach [e1, e2, e3, e4] X.env).length = 4 := by rfl) (hst : (assignEach [e1, e2, e3, e4] X.env).findIdx? (·.1) = none := by rfl) : GG X G O O' (.Tuple [e1, e2, e3, e4] k pos) (tupG (consG f1 (consG f2 (consG f3 (consG f4 nilG))))) :=
  gg_tup hc h (len_cons (len_cons (len_cons (len_cons fun _ _ _ => len_nil)))) hn hst

/-! ### target = value -/
def asgS (f : Env → R D) (g : D → Env → R Env) : Env → Out := fun ρ => (f ρ).out ρ fun d => match g d ρ with
  | .ok ρ' => .nx ρ'
  | _ => .st
theorem gs_asg {tg e : Expr} {pos : Pos} {f : Env → R D} {g : D → Env → R Env} (h : GB X G W O .fz e f) (hg : GG X G O O' tg g) (l : leO O Z.xo = true := by rfl) (hs : swapsWithSole [tg] e pos.line X.env = pure false := by rfl) (hw : swappedStores [tg] e X.env = pure none := by rfl)
    (h1 : (assignEach [tg] X.env).map (·.2) = [assign tg X.env] := by rfl) : GS X G W Z O O' (.Assign [tg] e pos) (asgS f g) := by
  obtain ⟨t, p, i⟩ := h
  obtain ⟨u, q, j⟩ := hg
  refine ⟨_, ps_asg p q hs hw h1, fun γ F σ H ρ E s k => stm_B (t := t) i s l k fun d F' H' v A e r k1 => ?_⟩
  refine j γ F' σ H' ρ d v _ (s.step e) (rpo_fz.mp r).2 ?_
  revert k1
  cases g d ρ with
  | ok ρ' => exact fun k1 F2 σ2 H2 s2 _ => k1 F2 σ2 H2 s2
  | ex c fs => exact fun k1 => k1
  | st => exact fun k1 => k1

/-! ### stores into what is ours -/
end
theorem putF_set : ∀ {ns : List Str} {vs : List V} {k : Nat} {f : Str} {y : V}, ns.Nodup → ns[k]? = some f → k < vs.length → putF f y (ns.zip vs) = ns.zip (vs.set k y)
  | n :: ns, w :: vs, 0, f, y, _, h1, _ => by
    simp at h1; subst h1
    show putF n y ((n, w) :: ns.zip vs) = (n, y) :: ns.zip vs
    unfold putF
    rw [if_pos rfl]
  | n :: ns, w :: vs, k + 1, f, y, nd, h1, h2 => by
    have nd2 := List.nodup_cons.mp nd
    have ne : ¬ n = f := fun e => nd2.1 (e ▸ List.mem_of_getElem? (show ns[k]? = some f by simpa using h1))
    show putF f y ((n, w) :: ns.zip vs) = (n, w) :: ns.zip (vs.set k y)
    unfold putF
    rw [if_neg ne, putF_set nd2.2 (by simpa using h1) (by simpa using h2)]
  | [], _, _, _, _, _, h1, _ => by simp at h1
  | _ :: _, [], _, _, _, _, _, h2 => by simp at h2
theorem putF_new : ∀ {ns : List Str} {vs : List V} {f : Str} {y : V}, ns.Nodup → ns[vs.length]? = some f → putF f y (ns.zip vs) = ns.zip (vs ++ [y])
  | n :: ns, [], f, y, _, h1 => by
    simp at h1; subst h1
    show putF n y [] = (n, y) :: ns.zip []
    unfold putF
    rw [List.zip_nil_right]
  | n :: ns, w :: vs, f, y, nd, h1 => by
    have nd2 := List.nodup_cons.mp nd
    have h2 : ns[vs.length]? = some f := by simpa using h1
    have ne : ¬ n = f := fun e => nd2.1 (e ▸ List.mem_of_getElem? h2)
    show putF f y ((n, w) :: ns.zip vs) = (n, w) :: ns.zip (vs ++ [y])
    unfold putF
    rw [if_neg ne, putF_new nd2.2 h2]
  | [], _, _, _, _, h1 => by simp at h1
def gFld (K : PySem.W.Frag) (to : TE) (f : Str) : TG := fun v σ H Q => to σ H fun x H1 => ∃ a C dx fs, x = .ref a ∧ H1 a = some (.ins C dx fs) ∧ Cls K C ∧ NoAttr K C f ∧ fs.length < 1000 ∧ Q σ (upd H1 a (.ins C dx (putF f v fs)))
theorem pg_fld {X : Cx} {o : Expr} {f : Str} {pos : Pos} {to : TE} (ho : PE X o to)
    (ha : ∀ v, assign (.Attribute o f pos) X.env v = (do
      let ov ← holding [v] (eval o X.env)
      standAt pos.atName
      holding [v, ov] (setAttr ov f v)
      release [v, ov] []) := by intro _; rfl) : PG X (.Attribute o f pos) (gFld X.K to f) := by
  refine ⟨fun pins s σ H v u Q I r h => ?_⟩
  rw [ha]
  refine wpAny_bind (wpAny_holding (thn (ho.run pins s σ H _ I h) fun ov s1 ⟨x, H1, I1, r1, a, C, dx, fs, ex, ea, c, n, l, q⟩ => ?_))
  subst ex
  obtain rfl : ov = Value.ref a := r1
  refine wpAny_bind (wpAny_standAt (wpAny_bind (wpAny_holding (setattr_ok I1 ea c n l r fun s3 I3 => ?_))))
  exact wpAny_release ⟨σ, _, I3, q⟩
def attrG (i c k : Nat) : D → Env → R Env := fun d ρ => match ρ[i]? with
  | some (some (.obj c' ds)) => if c' = c then (if k < ds.length then .ok (ρ.set i (some (.obj c (ds.set k d)))) else if k = ds.length then .ok (ρ.set i (some (.obj c (ds ++ [d])))) else .st) else .st
  | _ => .st
section
variable {X : Cx} {G : Gb} {W : WX} {Z : Exits} {O O' O1 : List Ow} {γ : Gh} {F F' : Fr} {H H' : Hp} {σ : St} {ρ : Env} {E : Ends}
theorem okG {r : R Env} {P : Env → Prop} (q : match r with
    | .ok ρ' => P ρ'
    | _ => False) : ∃ ρ', r = .ok ρ' ∧ P ρ' := by
  cases r with
  | ok ρ' => exact ⟨ρ', rfl, q⟩
  | ex c fs => exact q.elim
  | st => exact q.elim
/-- the value of a slot that is ours -/
theorem ST.at_ {K : PySem.W.Frag} {i : Nat} {o : Ow} {d : D} (h : ST K G γ O F σ H ρ) (ho : O[i]? = some o) (hn : o ≠ .na) (hd : ρ[i]? = some (some d)) : ∃ v A, σ[i]? = some (some v) ∧ RpO K G F H o d v A ∧ A.Nodup ∧ ∀ a ∈ A, ¬ F a := by
  obtain ⟨As, q, own⟩ := h.sl
  rcases q.sl i o ho with ⟨z, _⟩ | ⟨z, _⟩ | ⟨d', v, q1, q2, q3⟩
  · exact absurd z hn
  · rw [hd] at z; cases z
  · rw [hd] at q1; cases q1
    exact ⟨v, _, q2, q3, q.nd i, fun a ha => (q.nf i a ha).1⟩
theorem rps_upd {K : PySem.W.Frag} {ds : List D} {vs : List V} {p : Addr} {ob : HO} (h : Rps K G F H ds vs) (hp : ¬ F p) : Rps K G F (upd H p ob) ds vs :=
  Rps.mono (fun _ z => z) (fun a o ha e => by
    have : a ≠ p := fun z => hp (z ▸ ha)
    rw [upd_ne this]; exact e) ds h
theorem rp_upd {K : PySem.W.Frag} {d : D} {v : V} {p : Addr} {ob : HO} (h : Rp K G F H d v) (hp : ¬ F p) : Rp K G F (upd H p ob) d v :=
  Rp.mono (fun _ z => z) (fun a o ha e => by
    have : a ≠ p := fun z => hp (z ▸ ha)
    rw [upd_ne this]; exact e) d h
/-- an own flat object is written -/
theorem ST.wr {K : PySem.W.Frag} {i : Nat} {d d' : D} {v : V} {p : Addr} {ob : HO} (h : ST K G γ O F σ H ρ) (ho : O[i]? = some (.own .fz)) (hd : ρ[i]? = some (some d)) (hv : σ[i]? = some (some v))
    (k1 : ∀ A, RpO K G F H (.own .fz) d v A → A = [p]) (k2 : RpO K G F (upd H p ob) (.own .fz) d' v [p]) : ST K G γ O F σ (upd H p ob) (ρ.set i (some d')) :=
  h.write ho (by decide) hd (fun A r => by
    have e := k1 A r
    subst e
    exact ⟨List.mem_singleton.mpr rfl, [p], k2, List.nodup_cons.mpr ⟨by simp, List.nodup_nil⟩, fun a ha => ha⟩) hv
/-- x.f = .., x an object of ours -/
theorem gg_attr (i : Nat) {c k : Nat} {x f : Str} {pos p2 : Pos} (T : Fld X.K G c k f) (hl : (G.names c).length < 1000) (ho : O[i]? = some (.own .fz) := by rfl) (hN : X.N[i]? = some x := by rfl) (hv : Vis X.env.scope x := by first | exact Or.inl rfl | exact Or.inr (Or.inl rfl) | exact Or.inr (Or.inr rfl))
    (hd : (x == ("__debug__" : Str)) = false := by decide) (hcd : (x == ("__classdict__" : Str)) = false := by decide) : GG X G O O (.Attribute (.Name x p2) f pos) (attrG i c k) := by
  refine ⟨_, pg_fld (pe_var hN hv hd hcd), fun γ F σ H ρ d v Q s r q => ?_⟩
  obtain ⟨ρ', e0, q⟩ := okG q
  unfold attrG at e0
  split at e0
  · rename_i c' ds e
    split at e0
    · rename_i hc
      subst hc
      obtain ⟨w, A, h1, h2, h3, h4⟩ := s.at_ ho (by decide) e
      have h2' := h2
      unfold RpO at h2
      obtain ⟨p, vs, A', ew, eA, ⟨dx, hp⟩, hn, hr⟩ := h2
      obtain ⟨eA', rs⟩ := rpl_fz.mp hr
      subst eA' eA ew
      have npF : ¬ F p := h4 p List.mem_cons_self
      have one : ∀ A, RpO X.K G F H (.own .fz) (.obj c' ds) (.ref p) A → A = [p] := fun A z => by
        unfold RpO at z
        obtain ⟨p', vs', A', e1, e2, _, _, hr'⟩ := z
        cases e1
        rw [e2, (rpl_fz.mp hr').1]
      have fl : ((G.names c').zip vs).length < 1000 := by
        rw [List.length_zip]
        omega
      refine ⟨.ref p, h1, p, _, dx, _, rfl, hp, T.cl, T.no, fl, ?_⟩
      split at e0
      · rename_i hk
        cases e0
        have hk' : k < vs.length := by rw [rs.len]; exact hk
        rw [putF_set T.nd T.at_ hk']
        refine q F σ _ (s.wr ho e h1 one ?_) (keep_upd npF)
        unfold RpO
        exact ⟨p, vs.set k v, [], rfl, rfl, ⟨dx, upd_same⟩, by rw [List.length_set]; exact hn, rpl_fz.mpr ⟨rfl, (rps_upd rs npF).set k (rp_upd r npF)⟩⟩
      · split at e0
        · rename_i hk
          cases e0
          have hk' : k = vs.length := by rw [rs.len]; exact hk
          have at2 := T.at_
          rw [hk'] at at2
          rw [putF_new T.nd at2]
          refine q F σ _ (s.wr ho e h1 one ?_) (keep_upd npF)
          unfold RpO
          have hlt : vs.length < (G.names c').length := (List.getElem?_eq_some_iff.mp at2).1
          exact ⟨p, vs ++ [v], [], rfl, rfl, ⟨dx, upd_same⟩, by rw [List.length_append]; exact hlt, rpl_fz.mpr ⟨rfl, (rps_upd rs npF).append (rps_cons (rp_upd r npF) rps_nil)⟩⟩
        · cases e0
    · cases e0
  · cases e0
/-- an own list's parts -/
theorem own_lst {K : PySem.W.Frag} {ds : List D} {v : V} {A : List Addr} (h : RpO K G F H (.own .fz) (.lst ds) v A) : ∃ p vs, v = .ref p ∧ A = [p] ∧ H p = some (.lst vs) ∧ Rps K G F H ds vs := by
  unfold RpO at h
  obtain ⟨p, vs, A', ew, eA, hp, hr⟩ := h
  obtain ⟨eA', rs⟩ := rpl_fz.mp hr
  subst eA' eA
  exact ⟨p, vs, ew, rfl, hp, rs⟩
theorem own_lst' {K : PySem.W.Frag} {ds : List D} {p : Addr} {vs : List V} (hp : H p = some (.lst vs)) (rs : Rps K G F H ds vs) : RpO K G F H (.own .fz) (.lst ds) (.ref p) [p] := by
  unfold RpO
  exact ⟨p, vs, [], rfl, rfl, hp, rpl_fz.mpr ⟨rfl, rs⟩⟩
theorem one_lst {K : PySem.W.Frag} {ds : List D} {p : Addr} : ∀ A, RpO K G F H (.own .fz) (.lst ds) (.ref p) A → A = [p] := fun A z => by
  obtain ⟨p', vs', e1, e2, _⟩ := own_lst z
  cases e1
  exact e2
def subG (i : Nat) (fj : Env → R D) : D → Env → R Env := fun d ρ => (fj ρ).bind fun j => match ρ[i]?, j with
  | some (some (.lst ds)), .int n => (match ixN ds.length n with | some m => .ok (ρ.set i (some (.lst (ds.set m d)))) | none => .st)
  | _, _ => .st
theorem imp_G {o : Ow} {t : TE} {f : Env → R D} {g : D → R Env} {Q : Env → Prop} {R' : V → Hp → Prop} {W0 : WX} (i : ImpB X.K G W0 O o t f) (s : ST X.K G γ O F σ H ρ) (k : match (f ρ).bind g with
    | .ok ρ' => Q ρ'
    | _ => False) (c : ∀ d F' H' v A, Ex F H F' H' → RpO X.K G F' H' o d v A → (match g d with
    | .ok ρ' => Q ρ'
    | _ => False) → R' v H') : t σ H R' := by
  refine i F σ H ρ _ s.ss ?_
  revert k
  cases f ρ with
  | ok d => exact fun k F' H' v A e r => c d F' H' v A e r k
  | ex cc fs => exact fun k => k.elim
  | st => exact fun k => k.elim
theorem gg_sub (i : Nat) {oj : Ow} {x : Str} {j : Expr} {pos p2 : Pos} {fj : Env → R D} (hj : GB X G W O oj j fj) (ho : O[i]? = some (.own .fz) := by rfl) (hN : X.N[i]? = some x := by rfl) (hv : Vis X.env.scope x := by first | exact Or.inl rfl | exact Or.inr (Or.inl rfl) | exact Or.inr (Or.inr rfl))
    (hd : (x == ("__debug__" : Str)) = false := by decide) (hcd : (x == ("__classdict__" : Str)) = false := by decide)
    (ha : ∀ v, assign (.Subscript (.Name x p2) j pos) X.env v = (do
      let ov ← holding [v] (eval (.Name x p2) X.env)
      let iv ← holding [v, ov] (eval j X.env)
      standAt pos
      holding [v, ov, iv] (setItem ov iv v)
      release [v, ov, iv] []) := by intro _; rfl) : GG X G O O (.Subscript (.Name x p2) j pos) (subG i fj) := by
  obtain ⟨tj, pj, ij⟩ := hj
  refine ⟨_, pg_sub (pe_var hN hv hd hcd) pj set_list ha, fun γ F σ H ρ d v Q s r q => ?_⟩
  unfold subG at q
  have key : ∃ w, σ[i]? = some (some w) := by
    have q2 := q
    cases e : fj ρ with
    | ok j =>
      rw [e] at q2
      have q2 : (match (match ρ[i]?, j with
        | some (some (.lst ds)), .int n => (match ixN ds.length n with | some m => (.ok (ρ.set i (some (.lst (ds.set m d)))) : R Env) | none => .st)
        | _, _ => .st) with | .ok ρ' => ∀ F' σ' H', ST X.K G γ O F' σ' H' ρ' → Keep F H F' H' → Q σ' H' | _ => False) := q2
      split at q2
      · rename_i ρ2 e2
        split at e2
        · rename_i ds n e3
          obtain ⟨w, A, h1, _⟩ := s.at_ ho (by decide) e3
          exact ⟨w, h1⟩
        · cases e2
      · exact q2.elim
    | ex c fs => rw [e] at q2; exact q2.elim
    | st => rw [e] at q2; exact q2.elim
  obtain ⟨w, hw⟩ := key
  refine ⟨w, hw, imp_G (t := tj) ij s q fun j F1 H1 y A e1 r1 q1 => ?_⟩
  split at q1
  · rename_i ρ2 e2
    split at e2
    · rename_i ds n e3
      split at e2
      · rename_i m e4
        cases e2
        have s1 := s.step e1
        obtain ⟨w', A', h1, h2, h3, h4⟩ := s1.at_ ho (by decide) e3
        rw [hw] at h1
        cases h1
        obtain ⟨p, vs, ew, eA, hp, rs⟩ := own_lst h2
        subst eA ew
        have npF : ¬ F1 p := h4 p (List.mem_singleton.mpr rfl)
        refine ⟨p, vs, n, m, rfl, r1.int_, hp, by rw [rs.len]; exact e4, ?_⟩
        refine q1 F1 σ _ (s1.wr ho e3 hw one_lst (own_lst' upd_same ((rps_upd rs npF).set m (rp_upd (r.ex e1) npF)))) (e1.keep.trans (keep_upd npF))
      · cases e2
    · cases e2
  · exact q1.elim
end
end NW
end

section
set_option Elab.async false
set_option linter.all false
set_option maxRecDepth 100000
/-! NWj: what is walked; for, while; appends, dicts, further stores. -/
namespace NW
open PySem PySem.Spec L2
open PyProof.Rows hiding St

/-! ### iterators -/
structure IsIt (K : PySem.W.Frag) (G : Gb) (J : It) (ds : List D) (C : Fr → Hp → Prop) : Prop where
  go : ∀ i F H, C F H → i < ds.length → J.go i H
  stop : ∀ F H, C F H → J.stop ds.length H
  yld : ∀ i F H x H' d, C F H → FI F H → ds[i]? = some d → J.yld i H x H' → ∃ F', Ex F H F' H' ∧ Rp K G F' H' d x
  keep : ∀ F H F' H', C F H → Keep F H F' H' → C F' H'
def KI (K : PySem.W.Frag) (G : Gb) (W : WX) (F : Fr) (σ : St) (H : Hp) (R' : It → Hp → Prop) : R (List D) → Prop
  | .ok ds => ∀ F' H' J C, Ex F H F' H' → IsIt K G J ds C → C F' H' → R' J H'
  | .ex c fs => ∀ F' H' dd, Ex F H F' H' → XR K G F' H' c fs dd → W (.ref (G.cls c)) dd σ H'
  | .st => False
def ImpI (K : PySem.W.Frag) (G : Gb) (W : WX) (O : List Ow) (w : TI) (f : Env → R (List D)) : Prop := ∀ F σ H ρ R', SS K G O F σ H ρ → KI K G W F σ H R' (f ρ) → w σ H R'
def GI (X : Cx) (G : Gb) (W : WX) (O : List Ow) (tg e : Expr) (f : Env → R (List D)) : Prop := ∃ w, PI X tg e w ∧ ImpI X.K G W O w f
section
variable {X : Cx} {G : Gb} {W : WX} {Z : Exits} {O O' O1 : List Ow} {γ : Gh} {F F' : Fr} {H H' : Hp} {σ : St} {ρ : Env} {E : Ends} {tg : Expr}
theorem KI.ex {K : PySem.W.Frag} {R' : It → Hp → Prop} {r : R (List D)} (k : KI K G W F σ H R' r) (e : Ex F H F' H') : KI K G W F' σ H' R' r := by
  cases r with
  | ok d => exact fun F2 H2 J C e2 i c => k F2 H2 J C (e.trans e2) i c
  | ex c fs => exact fun F2 H2 dd e2 x => k F2 H2 dd (e.trans e2) x
  | st => exact k
theorem imp_I {oa : Ow} {ta : TE} {fa : Env → R D} {g : D → R (List D)} {R1 : It → Hp → Prop} {R' : V → Hp → Prop} (ia : ImpB X.K G W O oa ta fa) (s : SS X.K G O F σ H ρ) (k : KI X.K G W F σ H R1 ((fa ρ).bind g))
    (h : ∀ d F' H' v A, Ex F H F' H' → RpO X.K G F' H' oa d v A → KI X.K G W F' σ H' R1 (g d) → R' v H') : ta σ H R' := by
  refine ia F σ H ρ _ s ?_
  revert k
  cases fa ρ with
  | ok d => exact fun k F' H' v A e r => h d F' H' v A e r (k.ex e)
  | ex c fs => exact fun k => k
  | st => exact fun k => k
theorem imp_IA {os : List Ow} {ta : TA} {fa : Env → R (List D)} {g : List D → R (List D)} {R1 : It → Hp → Prop} {R' : List V → Hp → Prop} (ia : ImpA X.K G W O os ta fa) (s : SS X.K G O F σ H ρ) (k : KI X.K G W F σ H R1 ((fa ρ).bind g))
    (h : ∀ ds F' H' vs, Ex F H F' H' → RpA X.K G os F' H' ds vs → KI X.K G W F' σ H' R1 (g ds) → R' vs H') : ta σ H R' := by
  refine ia F σ H ρ _ s ?_
  revert k
  cases fa ρ with
  | ok d => exact fun k F' H' v e r => h d F' H' v e r (k.ex e)
  | ex c fs => exact fun k => k
  | st => exact fun k => k
/-- a frozen list, tuple stands at a -/
def LAt (K : PySem.W.Frag) (G : Gb) (a : Addr) (ds : List D) (vs : List V) : Fr → Hp → Prop := fun F H => F a ∧ H a = some (.lst vs) ∧ Rps K G F H ds vs
def TAt (K : PySem.W.Frag) (G : Gb) (a : Addr) (ds : List D) (vs : List V) : Fr → Hp → Prop := fun F H => F a ∧ H a = some (.tup vs) ∧ Rps K G F H ds vs
theorem LAt.keep {K : PySem.W.Frag} {a : Addr} {ds : List D} {vs : List V} (h : LAt K G a ds vs F H) (k : Keep F H F' H') : LAt K G a ds vs F' H' := ⟨k.fr a h.1, k.hp a _ h.1 h.2.1, Rps.mono k.fr k.hp ds h.2.2⟩
theorem TAt.keep {K : PySem.W.Frag} {a : Addr} {ds : List D} {vs : List V} (h : TAt K G a ds vs F H) (k : Keep F H F' H') : TAt K G a ds vs F' H' := ⟨k.fr a h.1, k.hp a _ h.1 h.2.1, Rps.mono k.fr k.hp ds h.2.2⟩
theorem isIt_lst {K : PySem.W.Frag} {a : Addr} {ds : List D} {vs : List V} : IsIt K G (Itl K a) ds (LAt K G a ds vs) where
  go := fun i F H c hi => by
    have : i < vs.length := by rw [c.2.2.len]; exact hi
    exact ⟨vs, vs[i], SqL.of c.2.1, by simp [this]⟩
  stop := fun F H c => ⟨vs, SqL.of c.2.1, by rw [c.2.2.len]; exact Nat.le_refl _⟩
  yld := fun i F H x H' d c fi hd y => by
    obtain ⟨e, y⟩ := y
    subst e
    obtain ⟨v, h1, h2⟩ := c.2.2.get hd
    have := y vs (SqL.of c.2.1)
    rw [h1] at this
    cases this
    exact ⟨F, Ex.refl fi, h2⟩
  keep := fun _ _ _ _ c k => c.keep k
theorem isIt_tup {K : PySem.W.Frag} {a : Addr} {ds : List D} {vs : List V} : IsIt K G (Itt K a) ds (TAt K G a ds vs) where
  go := fun i F H c hi => by
    have : i < vs.length := by rw [c.2.2.len]; exact hi
    exact ⟨vs, vs[i], SqT.of c.2.1, by simp [this]⟩
  stop := fun F H c => ⟨vs, SqT.of c.2.1, by rw [c.2.2.len]; exact Nat.le_refl _⟩
  yld := fun i F H x H' d c fi hd y => by
    obtain ⟨e, y⟩ := y
    subst e
    obtain ⟨v, h1, h2⟩ := c.2.2.get hd
    have := y vs (SqT.of c.2.1)
    rw [h1] at this
    cases this
    exact ⟨F, Ex.refl fi, h2⟩
  keep := fun _ _ _ _ c k => c.keep k
theorem PI.or {e : Expr} {w w' : TI} (h : PI X tg e w) (h' : PI X tg e w') : PI X tg e (fun σ H R => w σ H R ∨ w' σ H R) := ⟨fun pins s σ H R I q => q.elim (h.run pins s σ H R I) (h'.run pins s σ H R I)⟩
def seqI : D → R (List D)
  | .lst ds => .ok ds
  | .tup ds => .ok ds
  | _ => .st
def itI (f : Env → R D) : Env → R (List D) := fun ρ => (f ρ).bind seqI
/-- over a frozen list or tuple -/
theorem gi_seq {e : Expr} {f : Env → R D} (h : GB X G W O .fz e f) : GI X G W O tg e (itI f) := by
  obtain ⟨t, p, i⟩ := h
  refine ⟨_, PI.or (pi_list p) (pi_tup p), fun F σ H ρ R' s k => ?_⟩
  unfold itI at k
  cases q : f ρ with
  | ok d =>
    rw [q] at k
    cases d with
    | lst ds =>
      left
      refine i F σ H ρ _ s ?_
      rw [q]
      intro F' H' v A e r
      have r := (rpo_fz.mp r).2
      unfold Rp at r
      obtain ⟨a, vs, ev, ⟨fa, ha⟩, rs⟩ := r
      exact ⟨a, ev, ⟨vs, SqL.of ha⟩, k F' H' _ _ e isIt_lst ⟨fa, ha, rs⟩⟩
    | tup ds =>
      right
      refine i F σ H ρ _ s ?_
      rw [q]
      intro F' H' v A e r
      have r := (rpo_fz.mp r).2
      unfold Rp at r
      obtain ⟨a, vs, ev, ⟨fa, ha⟩, rs⟩ := r
      exact ⟨a, ev, ⟨vs, SqT.of ha⟩, k F' H' _ _ e isIt_tup ⟨fa, ha, rs⟩⟩
    | _ => exact k.elim
  | ex c fs =>
    rw [q] at k
    left
    refine i F σ H ρ _ s ?_
    rw [q]
    exact k
  | st => rw [q] at k; exact k.elim
/-! range -/
def upto (lo hi : Int) : List D := (List.range (hi - lo).toNat).map fun (k : Nat) => D.int (lo + k)
theorem isIt_rng {K : PySem.W.Frag} {lo hi' : Int} : IsIt K G (Itr lo (hi' - lo).toNat) (upto lo hi') (fun _ _ => True) where
  go := fun i F H _ hi => by
    show i < (hi' - lo).toNat
    simpa [upto] using hi
  stop := fun F H _ => by
    show (hi' - lo).toNat ≤ (upto lo hi').length
    simp [upto]
  yld := fun i F H x H' d _ fi hd y => by
    obtain ⟨e, y⟩ := y
    subst e y
    refine ⟨F, Ex.refl fi, ?_⟩
    unfold upto at hd
    rw [List.getElem?_map] at hd
    cases q : (List.range (hi' - lo).toNat)[i]? with
    | none => rw [q] at hd; cases hd
    | some j =>
      rw [q] at hd
      have e2 : d = .int (lo + (j : Nat)) := (Option.some.inj hd).symm
      obtain ⟨hlt, e3⟩ := List.getElem?_eq_some_iff.mp q
      rw [List.getElem_range] at e3
      rw [e2, ← e3]
      exact rp_int.mpr rfl
  keep := fun _ _ _ _ _ _ => trivial
noncomputable def big (i : Int) : Bool := ndec (-(2 ^ 62) ≤ i ∧ i < 2 ^ 62)
noncomputable def rngI : List D → R (List D)
  | [.int j] => if big j then .ok (upto 0 j) else .st
  | [.int i, .int j] => if big i && big j then .ok (upto i j) else .st
  | _ => .st
noncomputable def rng (f : Env → R (List D)) : Env → R (List D) := fun ρ => (f ρ).bind rngI
theorem gi_range1 {o : Ow} {a : Expr} {p pos : Pos} {f : Env → R D} (hm : X.mg "range" = none) (h : GB X G W O o a f) (hg : Gl X "range" := by rfl) (hs : starEach [a] X.env = (false, eval a X.env) :: starEach [] X.env := by rfl) : GI X G W O tg (.Call (.Name "range" p) [a] [] pos) (rng (consA f nilA)) := by
  obtain ⟨t, pa, i⟩ := ga_cons h ga_nil hs
  refine ⟨_, pi_range1 hg hm pa hs, fun F σ H ρ R' s k => ?_⟩
  refine imp_IA (ta := t) i s k fun ds F1 H1 vs e r k1 => ?_
  obtain ⟨d, v, A, rfl, rfl, r1⟩ := r.one
  cases d <;> first | exact (show False from k1).elim | skip
  rename_i j
  simp only [rngI] at k1
  split at k1
  · rename_i hb
    simp only [big, Bool.and_eq_true, ndec_iff] at hb
    refine ⟨j, by rw [r1.int_], hb.1, hb.2, ?_⟩
    have := k1 F1 H1 _ _ (Ex.refl e.fi) (isIt_rng (lo := 0) (hi' := j)) trivial
    rw [Int.sub_zero] at this
    exact this
  · exact k1.elim
theorem gi_range2 {o o2 : Ow} {a b : Expr} {p pos : Pos} {f g : Env → R D} (hm : X.mg "range" = none) (h : GB X G W O o a f) (h2 : GB X G W O o2 b g) (hg : Gl X "range" := by rfl) (hs : starEach [a, b] X.env = (false, eval a X.env) :: starEach [b] X.env := by rfl) (hs2 : starEach [b] X.env = (false, eval b X.env) :: starEach [] X.env := by rfl) : GI X G W O tg (.Call (.Name "range" p) [a, b] [] pos) (rng (consA f (consA g nilA))) := by
  obtain ⟨t, pa, i⟩ := ga_cons h (ga_cons h2 ga_nil hs2) hs
  refine ⟨_, pi_range2 hg hm pa (by rw [hs, hs2]; rfl) hs2, fun F σ H ρ R' s k => ?_⟩
  refine imp_IA (ta := t) i s k fun ds F1 H1 vs e r k1 => ?_
  obtain ⟨d, d2, v, w, A, B, rfl, rfl, r1, r2⟩ := r.two
  cases d <;> first | exact (show False from k1).elim | skip
  cases d2 <;> first | exact (show False from k1).elim | skip
  rename_i j1 j2
  simp only [rngI] at k1
  split at k1
  · rename_i hb
    simp only [big, Bool.and_eq_true, ndec_iff] at hb
    exact ⟨j1, j2, by rw [r1.int_, r2.int_], ⟨hb.1.1, hb.1.2, hb.2.1, hb.2.2⟩, k1 F1 H1 _ _ (Ex.refl e.fi) isIt_rng trivial⟩
  · exact k1.elim
/-! zip, enumerate -/
theorem new_pair {K : PySem.W.Frag} {T : Addr} {d d2 : D} {x y : V} (fi : FI F H) (hT : H T = none) (r1 : Rp K G F H d x) (r2 : Rp K G F H d2 y) : ∃ F', Ex F H F' (upd H T (.tup [x, y])) ∧ Rp K G F' (upd H T (.tup [x, y])) (.tup [d, d2]) (.ref T) :=
  ⟨_, Ex.new fi hT, rp_tup (.inr rfl) upd_same ((rps_cons r1 (rps_cons r2 rps_nil)).ex (Ex.new fi hT))⟩
def zipL (a b : List D) : List D := List.zipWith (fun x y => D.tup [x, y]) a b
theorem zipL_at {a b : List D} {i : Nat} {d : D} (h : (zipL a b)[i]? = some d) : ∃ x y, a[i]? = some x ∧ b[i]? = some y ∧ d = .tup [x, y] := by
  unfold zipL at h
  rw [List.getElem?_zipWith] at h
  cases e1 : a[i]? with
  | none => rw [e1] at h; cases h
  | some x =>
    cases e2 : b[i]? with
    | none => rw [e1, e2] at h; cases h
    | some y => rw [e1, e2] at h; exact ⟨x, y, rfl, rfl, (Option.some.inj h).symm⟩
theorem isIt_zipL {K : PySem.W.Frag} {a b : Addr} {xs ys : List D} {vs ws : List V} : IsIt K G (Itz K a b) (zipL xs ys) (fun F H => LAt K G a xs vs F H ∧ LAt K G b ys ws F H) where
  go := fun i F H c hi => by
    have h1 : i < vs.length ∧ i < ws.length := by
      have : (zipL xs ys).length = min xs.length ys.length := by simp [zipL]
      rw [c.1.2.2.len, c.2.2.2.len]
      omega
    exact ⟨vs, ws, vs[i], ws[i], SqL.of c.1.2.1, SqL.of c.2.2.1, by simp [h1.1], by simp [h1.2]⟩
  stop := fun F H c => ⟨vs, ws, SqL.of c.1.2.1, SqL.of c.2.2.1, by
    have : (zipL xs ys).length = min xs.length ys.length := by simp [zipL]
    rw [c.1.2.2.len, c.2.2.2.len]
    omega⟩
  yld := fun i F H x H' d c fi hd y => by
    obtain ⟨T, u, v, e1, hT, e2, y1, y2⟩ := y
    obtain ⟨p, q, h1, h2, e3⟩ := zipL_at hd
    obtain ⟨u', q1, q2⟩ := c.1.2.2.get h1
    obtain ⟨v', q3, q4⟩ := c.2.2.2.get h2
    have z1 := y1 vs (SqL.of c.1.2.1)
    have z2 := y2 ws (SqL.of c.2.2.1)
    rw [q1] at z1; cases z1
    rw [q3] at z2; cases z2
    subst e1 e2 e3
    exact new_pair fi hT q2 q4
  keep := fun _ _ _ _ c k => ⟨c.1.keep k, c.2.keep k⟩
theorem isIt_zipT {K : PySem.W.Frag} {a b : Addr} {xs ys : List D} {vs ws : List V} : IsIt K G (RZ.ItzT K a b) (zipL xs ys) (fun F H => TAt K G a xs vs F H ∧ TAt K G b ys ws F H) where
  go := fun i F H c hi => by
    have h1 : i < vs.length ∧ i < ws.length := by
      have : (zipL xs ys).length = min xs.length ys.length := by simp [zipL]
      rw [c.1.2.2.len, c.2.2.2.len]
      omega
    exact ⟨vs, ws, vs[i], ws[i], SqT.of c.1.2.1, SqT.of c.2.2.1, by simp [h1.1], by simp [h1.2]⟩
  stop := fun F H c => ⟨vs, ws, SqT.of c.1.2.1, SqT.of c.2.2.1, by
    have : (zipL xs ys).length = min xs.length ys.length := by simp [zipL]
    rw [c.1.2.2.len, c.2.2.2.len]
    omega⟩
  yld := fun i F H x H' d c fi hd y => by
    obtain ⟨T, u, v, e1, hT, e2, y1, y2⟩ := y
    obtain ⟨p, q, h1, h2, e3⟩ := zipL_at hd
    obtain ⟨u', q1, q2⟩ := c.1.2.2.get h1
    obtain ⟨v', q3, q4⟩ := c.2.2.2.get h2
    have z1 := y1 vs (SqT.of c.1.2.1)
    have z2 := y2 ws (SqT.of c.2.2.1)
    rw [q1] at z1; cases z1
    rw [q3] at z2; cases z2
    subst e1 e2 e3
    exact new_pair fi hT q2 q4
  keep := fun _ _ _ _ c k => ⟨c.1.keep k, c.2.keep k⟩
def zipI : List D → R (List D)
  | [.lst a, .lst b] => .ok (zipL a b)
  | [.tup a, .tup b] => .ok (zipL a b)
  | _ => .st
def zipF (f : Env → R (List D)) : Env → R (List D) := fun ρ => (f ρ).bind zipI
theorem gi_zip {a b : Expr} {elts : List Expr} {kk : Nat} {p pos tpos : Pos} {f g : Env → R D} (hm : X.mg "zip" = none) (h : GB X G W O .fz a f) (h2 : GB X G W O .fz b g) (hg : Gl X "zip" := by rfl) (hs : starEach [a, b] X.env = (false, eval a X.env) :: starEach [b] X.env := by rfl) (hs2 : starEach [b] X.env = (false, eval b X.env) :: starEach [] X.env := by rfl)
    (hpl : (backTo pos (starEach [b] X.env)).any (·.1) = false := by rfl) : GI X G W O (.Tuple elts kk tpos) (.Call (.Name "zip" p) [a, b] [] pos) (zipF (consA f (consA g nilA))) := by
  obtain ⟨t, pa, i⟩ := ga_cons h (ga_cons h2 ga_nil hs2) hs
  refine ⟨_, RZ.pi_zipA hg hm pa hs hpl, fun F σ H ρ R' s k => ?_⟩
  refine imp_IA (ta := t) i s k fun ds F1 H1 vs e r k1 => ?_
  obtain ⟨d, d2, v, w, A, B, rfl, rfl, r1, r2⟩ := r.two
  have r1 := (rpo_fz.mp r1).2
  have r2 := (rpo_fz.mp r2).2
  cases d <;> first | exact (show False from k1).elim | skip
  all_goals cases d2 <;> first | exact (show False from k1).elim | skip
  · unfold Rp at r1 r2
    obtain ⟨a1, vs, e1, ⟨f1, h1⟩, q1⟩ := r1
    obtain ⟨a2, ws, e2, ⟨f2, h2⟩, q2⟩ := r2
    exact ⟨a1, a2, vs, ws, by rw [e1, e2], .inr ⟨SqT.of h1, SqT.of h2, k1 F1 H1 _ _ (Ex.refl e.fi) (isIt_zipT (vs := vs) (ws := ws)) ⟨⟨f1, h1, q1⟩, ⟨f2, h2, q2⟩⟩⟩⟩
  · unfold Rp at r1 r2
    obtain ⟨a1, vs, e1, ⟨f1, h1⟩, q1⟩ := r1
    obtain ⟨a2, ws, e2, ⟨f2, h2⟩, q2⟩ := r2
    exact ⟨a1, a2, vs, ws, by rw [e1, e2], .inl ⟨SqL.of h1, SqL.of h2, k1 F1 H1 _ _ (Ex.refl e.fi) (isIt_zipL (vs := vs) (ws := ws)) ⟨⟨f1, h1, q1⟩, ⟨f2, h2, q2⟩⟩⟩⟩
def enumL (a : List D) : List D := zipL (upto 0 a.length) a
theorem isIt_enum {K : PySem.W.Frag} {a : Addr} {xs : List D} {vs : List V} : IsIt K G (Ite K a) (enumL xs) (LAt K G a xs vs) where
  go := fun i F H c hi => by
    have h1 : i < vs.length := by
      have : (enumL xs).length = xs.length := by simp [enumL, zipL, upto]
      rw [c.2.2.len]
      omega
    exact ⟨vs, vs[i], SqL.of c.2.1, by simp [h1]⟩
  stop := fun F H c => ⟨vs, SqL.of c.2.1, by
    have : (enumL xs).length = xs.length := by simp [enumL, zipL, upto]
    rw [c.2.2.len]
    omega⟩
  yld := fun i F H x H' d c fi hd y => by
    obtain ⟨T, u, e1, hT, e2, y1⟩ := y
    obtain ⟨p, q, h1, h2, e3⟩ := zipL_at hd
    obtain ⟨v', q3, q4⟩ := c.2.2.get h2
    have z2 := y1 vs (SqL.of c.2.1)
    rw [q3] at z2; cases z2
    have ep : p = .int (i : Nat) := by
      unfold upto at h1
      rw [List.getElem?_map] at h1
      cases q : (List.range ((xs.length : Int) - 0).toNat)[i]? with
      | none => rw [q] at h1; cases h1
      | some j =>
        rw [q] at h1
        obtain ⟨hlt, e3⟩ := List.getElem?_eq_some_iff.mp q
        rw [List.getElem_range] at e3
        have := (Option.some.inj h1).symm
        rw [this, ← e3]
        show D.int (0 + (i : Nat)) = _
        rw [Int.zero_add]
    subst e1 e2 e3 ep
    exact new_pair fi hT (rp_int.mpr rfl) q4
  keep := fun _ _ _ _ c k => c.keep k
def enumI : List D → R (List D)
  | [.lst a] => .ok (enumL a)
  | _ => .st
def enumF (f : Env → R (List D)) : Env → R (List D) := fun ρ => (f ρ).bind enumI
theorem gi_enum {a : Expr} {elts : List Expr} {kk : Nat} {p pos tpos : Pos} {f : Env → R D} (hm : X.mg "enumerate" = none) (h : GB X G W O .fz a f) (hg : Gl X "enumerate" := by rfl) (hs : starEach [a] X.env = (false, eval a X.env) :: starEach [] X.env := by rfl) : GI X G W O (.Tuple elts kk tpos) (.Call (.Name "enumerate" p) [a] [] pos) (enumF (consA f nilA)) := by
  obtain ⟨t, pa, i⟩ := ga_cons h ga_nil hs
  refine ⟨_, pi_enum hg hm pa hs, fun F σ H ρ R' s k => ?_⟩
  refine imp_IA (ta := t) i s k fun ds F1 H1 vs e r k1 => ?_
  obtain ⟨d, v, A, rfl, rfl, r1⟩ := r.one
  have r1 := (rpo_fz.mp r1).2
  cases d <;> first | exact (show False from k1).elim | skip
  unfold Rp at r1
  obtain ⟨a1, vs, e1, ⟨f1, h1⟩, q1⟩ := r1
  exact ⟨a1, vs, by rw [e1], SqL.of h1, k1 F1 H1 _ _ (Ex.refl e.fi) (isIt_enum (vs := vs)) ⟨f1, h1, q1⟩⟩

/-! ### for -/
def forD (g : D → Env → R Env) (b : Env → Out) : List D → Env → Out
  | [], ρ => .nx ρ
  | d :: ds, ρ => match g d ρ with
    | .ok ρ1 => (match b ρ1 with
      | .nx ρ2 => forD g b ds ρ2
      | .ct ρ2 => forD g b ds ρ2
      | .bk ρ2 => .nx ρ2
      | .rt d ρ2 => .rt d ρ2
      | .ex c fs ρ2 => .ex c fs ρ2
      | .st => .st)
    | _ => .st
def forS (it : Env → R (List D)) (g : D → Env → R Env) (b : Env → Out) : Env → Out := fun ρ => (it ρ).out ρ fun ds => forD g b ds ρ
/-- with one thing more kept -/
def Gh.and (γ : Gh) (C : Fr → Hp → Prop) (h : ∀ F H F' H', C F H → Keep F H F' H' → C F' H') : Gh := { γ with C := fun F H => γ.C F H ∧ C F H, hC := fun F H F' H' c k => ⟨γ.hC F H F' H' c.1 k, h F H F' H' c.2 k⟩ }
theorem ST.and {K : PySem.W.Frag} {C : Fr → Hp → Prop} {h : ∀ F H F' H', C F H → Keep F H F' H' → C F' H'} (s : ST K G γ O F σ H ρ) (c : C F H) : ST K G (γ.and C h) O F σ H ρ := ⟨s.ex, ⟨s.cs, c⟩, s.me, s.sl⟩
theorem ST.un {K : PySem.W.Frag} {C : Fr → Hp → Prop} {h : ∀ F H F' H', C F H → Keep F H F' H' → C F' H'} (s : ST K G (γ.and C h) O F σ H ρ) : ST K G γ O F σ H ρ ∧ C F H := ⟨⟨s.ex, s.cs.1, s.me, s.sl⟩, s.cs.2⟩
theorem imp_for {w : TI} {t : TG} {tb : TS} {it : Env → R (List D)} {g : D → Env → R Env} {b : Env → Out} (hi : ImpI X.K G W O w it) (hg : ImpG X.K G O O1 t g) (hb : ImpS X.K G W { Z with lo := O } O1 O tb b) (l : leO O Z.xo = true) : ImpS X.K G W Z O O (tFor w t tb) (forS it g b) := fun γ F σ H ρ E s k => by
  refine hi F σ H ρ _ s.ss ?_
  unfold forS at k
  revert k
  cases it ρ with
  | ex c fs => exact fun k => KS.exn s l k
  | st => exact fun k => k
  | ok ds =>
    intro k F1 H1 J C e1 ii c1
    refine ⟨fun i m σ H => m + i = ds.length ∧ ∃ F ρ, ST X.K G (γ.and C ii.keep) O F σ H ρ ∧ KS X.K G W Z γ O E (forD g b (ds.drop i) ρ), ⟨ds.length, by omega, F1, ρ, (s.step e1).and c1, by rw [List.drop_zero]; exact k⟩, ?_⟩
    rintro i m σ2 H2 ⟨hm, F2, ρ2, s2, k2⟩
    obtain ⟨s2', c2⟩ := s2.un
    by_cases hl : i < ds.length
    · right
      refine ⟨ii.go i F2 H2 c2 hl, fun σ H => ∃ F ρ, ST X.K G (γ.and C ii.keep) O F σ H ρ ∧ KS X.K G W Z γ O E (forD g b (ds.drop (i + 1)) ρ), fun σ3 H3 n => ⟨m - 1, by omega, by omega, n⟩, fun x H3 y => ?_⟩
      have hd : ds[i]? = some ds[i] := by simp [hl]
      obtain ⟨F3, e3, r3⟩ := ii.yld i F2 H2 x H3 _ c2 s2.ex.fi hd y
      rw [List.drop_eq_getElem_cons hl] at k2
      refine hg _ F3 σ2 H3 ρ2 _ x _ (s2.step e3) r3 ?_
      unfold forD at k2
      cases q : g ds[i] ρ2 with
      | ex c fs => rw [q] at k2; exact k2.elim
      | st => rw [q] at k2; exact k2.elim
      | ok ρ3 =>
        rw [q] at k2
        dsimp only at k2
        intro F4 σ4 H4 s4 _
        refine hb _ F4 σ4 H4 ρ3 _ s4 ?_
        revert k2
        cases b ρ3 with
        | nx ρ5 => exact fun k2 F5 σ5 H5 s5 => ⟨F5, ρ5, s5, k2⟩
        | ct ρ5 => exact fun k2 F5 σ5 H5 s5 => ⟨F5, ρ5, s5, k2⟩
        | bk ρ5 => exact fun k2 F5 σ5 H5 s5 => k2 F5 σ5 H5 s5.un.1
        | rt d ρ5 => exact fun k2 F5 σ5 H5 v s5 => k2 F5 σ5 H5 v s5.un.1
        | ex c fs ρ5 => exact fun k2 F5 σ5 H5 dd s5 x5 => k2 F5 σ5 H5 dd s5.un.1 x5
        | st => exact fun k2 => k2
    · left
      have e : i = ds.length := by omega
      subst e
      rw [List.drop_length] at k2
      exact ⟨ii.stop F2 H2 c2, k2 F2 σ2 H2 s2'⟩
theorem gs_for {iter : Expr} {body : List Stmt} {pos : Pos} {it : Env → R (List D)} {g : D → Env → R Env} {b : Env → Out} (hp : PassesOwn (model X.prog X.w) X.A X.env X.xe) (hc : X.calm = true) (hi : GI X G W O tg iter it) (hg : GG X G O O1 tg g) (hb : GSs X G W { Z with lo := O } O1 O body b)
    (l : leO O Z.xo = true := by rfl) (hs : ∀ x, foldedSetIterable iter X.env x = pure x := by intro _; rfl) : GS X G W Z O O (.For tg iter body [] pos) (forS it g b) := by
  obtain ⟨w, p, i⟩ := hi
  obtain ⟨t, q, j⟩ := hg
  obtain ⟨tb, r, m⟩ := hb
  exact ⟨_, ps_for hp hc p q r hs, imp_for i j m l⟩

/-! ### while -/
/-- at most n turns -/
def whileN (c : Env → R Bool) (b : Env → Out) : Nat → Env → Option Out
  | 0, _ => none
  | n + 1, ρ => match c ρ with
    | .ok false => some (.nx ρ)
    | .ok true => (match b ρ with
      | .nx ρ2 => whileN c b n ρ2
      | .ct ρ2 => whileN c b n ρ2
      | .bk ρ2 => some (.nx ρ2)
      | .rt d ρ2 => some (.rt d ρ2)
      | .ex e fs ρ2 => some (.ex e fs ρ2)
      | .st => some .st)
    | .ex e fs => some (.ex e fs ρ)
    | .st => some .st
open Classical in
noncomputable def whileS (c : Env → R Bool) (b : Env → Out) : Env → Out := fun ρ => if h : ∃ n o, whileN c b n ρ = some o then h.choose_spec.choose else .st
theorem whileN_mono {c : Env → R Bool} {b : Env → Out} : ∀ {n m : Nat} {ρ : Env} {o : Out}, whileN c b n ρ = some o → n ≤ m → whileN c b m ρ = some o
  | 0, _, _, _, h, _ => by cases h
  | n + 1, 0, _, _, _, l => by omega
  | n + 1, m + 1, ρ, o, h, l => by
    unfold whileN at h ⊢
    cases e : c ρ with
    | ok v =>
      rw [e] at h
      cases v with
      | false => exact h
      | true =>
        dsimp only at h ⊢
        cases e2 : b ρ with
        | nx ρ2 => rw [e2] at h; exact whileN_mono (n := n) (m := m) h (by omega)
        | ct ρ2 => rw [e2] at h; exact whileN_mono (n := n) (m := m) h (by omega)
        | _ => rw [e2] at h; exact h
    | ex d fs => rw [e] at h; exact h
    | st => rw [e] at h; exact h
theorem whileS_of {c : Env → R Bool} {b : Env → Out} {n : Nat} {ρ : Env} {o : Out} (h : whileN c b n ρ = some o) : whileS c b ρ = o := by
  have hx : ∃ n o, whileN c b n ρ = some o := ⟨n, o, h⟩
  unfold whileS
  rw [dif_pos hx]
  have q := hx.choose_spec.choose_spec
  have q1 := whileN_mono q (Nat.le_max_left hx.choose n)
  have q2 := whileN_mono h (Nat.le_max_right hx.choose n)
  rw [q1] at q2
  exact Option.some.inj q2
theorem imp_while {tc : TT} {tb : TS} {c : Env → R Bool} {b : Env → Out} (hc : ImpT X.K G W O tc c) (hb : ImpS X.K G W { Z with lo := O } O O tb b) (l : leO O Z.xo = true) : ImpS X.K G W Z O O (tWhile tc tb) (whileS c b) := fun γ F σ H ρ E s k => by
  by_cases hx : ∃ n o, whileN c b n ρ = some o
  · obtain ⟨n, o, hn⟩ := hx
    rw [whileS_of hn] at k
    refine ⟨fun m σ H => ∃ F ρ, ST X.K G γ O F σ H ρ ∧ whileN c b m ρ = some o, ⟨n, F, ρ, s, hn⟩, ?_⟩
    rintro m σ2 H2 ⟨F2, ρ2, s2, h2⟩
    refine hc F2 σ2 H2 ρ2 _ s2.ss ?_
    cases m with
    | zero => cases h2
    | succ m =>
      unfold whileN at h2
      cases e : c ρ2 with
      | ex d fs =>
        rw [e] at h2
        cases h2
        exact KS.exn s2 l k
      | st =>
        rw [e] at h2
        cases h2
        exact k
      | ok v =>
        rw [e] at h2
        intro F3 H3 e3
        cases v with
        | false =>
          cases h2
          exact iteF (k F3 σ2 H3 (s2.step e3))
        | true =>
          refine iteT ⟨fun σ H => ∃ F ρ, ST X.K G γ O F σ H ρ ∧ whileN c b m ρ = some o, fun σ4 H4 n4 => ⟨m, by omega, n4⟩, ?_⟩
          refine hb γ F3 σ2 H3 ρ2 _ (s2.step e3) ?_
          dsimp only at h2
          revert h2
          cases b ρ2 with
          | nx ρ5 => exact fun h2 F5 σ5 H5 s5 => ⟨F5, ρ5, s5, h2⟩
          | ct ρ5 => exact fun h2 F5 σ5 H5 s5 => ⟨F5, ρ5, s5, h2⟩
          | bk ρ5 => exact fun h2 F5 σ5 H5 s5 => by cases h2; exact k F5 σ5 H5 s5
          | rt d ρ5 => exact fun h2 F5 σ5 H5 v s5 => by cases h2; exact k F5 σ5 H5 v s5
          | ex d fs ρ5 => exact fun h2 F5 σ5 H5 dd s5 x5 => by cases h2; exact k F5 σ5 H5 dd s5 x5
          | st => exact fun h2 => by cases h2; exact k
  · unfold whileS at k
    rw [dif_neg hx] at k
    exact k.elim
theorem gs_while {c : Expr} {body : List Stmt} {pos : Pos} {fc : Env → R Bool} {b : Env → Out} (hp : PassesOwn (model X.prog X.w) X.A X.env X.xe) (hc : GT X G W O c fc) (hb : GSs X G W { Z with lo := O } O O body b) (l : leO O Z.xo = true := by rfl) : GS X G W Z O O (.While c body [] pos) (whileS fc b) := by
  obtain ⟨t, p, i⟩ := hc
  obtain ⟨u, q, j⟩ := hb
  exact ⟨_, ps_while hp p q, imp_while i j l⟩
end
end NW
end

section
set_option Elab.async false
set_option linter.all false
set_option maxRecDepth 100000
/-! NWk: what a def promises; its body; its calls. -/
namespace NW
open PySem PySem.Spec L2
open PyProof.Rows hiding St

/-! ### promises -/
/-- a wish of a def, without slots -/
abbrev WE0 (E : XK) : WX := fun c d _ H => E c d H
/-- a def of n parameters: nothing is changed, the answer is new as ro tells -/
def spP (K : PySem.W.Frag) (G : Gb) (n : Nat) (ro : Ow) (m : List D → R D) : Sp := fun vs H Q E =>
  ∃ F ds, FI F H ∧ ds.length = n ∧ Rps K G F H ds vs ∧ KN K G (WE0 E) ro F [] H Q (m ds)
/-- the answer of a method that changes its object: answer, object -/
inductive RM where
  | ok (d s : D) | ex (c : Nat) (fs : List D) (s : D) | st
def KM (K : PySem.W.Frag) (G : Gb) (E : XK) (x : Addr) (F : Fr) (H : Hp) (Q : VK) : RM → Prop
  | .ok d s => ∀ F' H' v, ExM [x] F H F' H' → ¬ F' x → Rp K G F' H' d v → RpO K G F' H' (.own .fz) s (.ref x) [x] → Q v H'
  | .ex c fs s => ∀ F' H' dd, ExM [x] F H F' H' → ¬ F' x → RpO K G F' H' (.own .fz) s (.ref x) [x] → XR K G F' H' c fs dd → E (.ref (G.cls c)) dd H'
  | .st => False
def spM (K : PySem.W.Frag) (G : Gb) (n : Nat) (m : D → List D → RM) : Sp := fun vs H Q E =>
  ∃ F self ds x rest, vs = .ref x :: rest ∧ FI F H ∧ ¬ F x ∧ RpO K G F H (.own .fz) self (.ref x) [x] ∧ ds.length = n ∧ Rps K G F H ds rest ∧ KM K G E x F H Q (m self ds)

/-! ### a body's answer -/
def outR : Out → R D
  | .nx _ => .ok .non
  | .rt d _ => .ok d
  | .ex c fs _ => .ex c fs
  | _ => .st
def fnD (n N : Nat) (b : Env → Out) : List D → R D := fun ds => if ds.length = n then outR (b (ds.map some ++ List.replicate (N - n) none)) else .st
def self0 (ρ : Env) (g : D → RM) : RM := match ρ[0]? with
  | some (some (D.obj c ds)) => g (.obj c ds)
  | _ => .st
def outM : Out → RM
  | .nx ρ => self0 ρ fun s => .ok .non s
  | .rt d ρ => self0 ρ fun s => .ok d s
  | .ex c fs ρ => self0 ρ fun s => .ex c fs s
  | _ => .st
/-- a method of n further parameters -/
def fnM (n N : Nat) (b : Env → Out) : D → List D → RM := fun s ds => if ds.length = n then outM (b (some s :: (ds.map some ++ List.replicate (N - (n + 1)) none))) else .st
def startO (n N : Nat) : List Ow := List.replicate n .fz ++ List.replicate (N - n) .na
def naO (N : Nat) : List Ow := List.replicate N .na
def exP (N : Nat) (ro : Ow) : Exits := ⟨ro, naO N, naO N, naO N⟩
def meO (N : Nat) : List Ow := .own .fz :: List.replicate (N - 1) .na
def exMe (N : Nat) : Exits := ⟨.fz, meO N, meO N, meO N⟩

section
variable {K : PySem.W.Frag} {G : Gb} {F F' : Fr} {H H' : Hp}
theorem rpo_flat {o : Ow} {d : D} (hn : o ≠ .na) (f : flat d = true) : RpO K G F H o d (vOf d) [] := by
  cases o with
  | na => exact absurd rfl hn
  | fz => exact rpo_of (rp_flat f)
  | own o => cases d <;> first | (unfold RpO; exact ⟨rfl, rp_flat f⟩) | cases f
/-- the slots at a def's entry -/
theorem start_sl {ds : List D} {vs : List V} {N : List Str} (r : Rps K G F H ds vs) (hl : ds.length ≤ N.length) :
    Sl K G (startO ds.length N.length) F (L2.start N vs) H (ds.map some ++ List.replicate (N.length - ds.length) none) fun _ => [] := by
  have rl := r.len
  refine ⟨by simp [startO], ?_, fun i o ho => ?_, fun i j a h => (by cases h), fun i => List.nodup_nil, fun i a h => (by cases h)⟩
  · unfold L2.start startO
    simp [rl]
  · unfold startO at ho
    by_cases h : i < ds.length
    · rw [List.getElem?_append_left (by simpa using h)] at ho
      have e : o = .fz := by
        have := List.mem_of_getElem? ho
        exact (List.mem_replicate.mp this).2
      subst e
      obtain ⟨v, h1, h2⟩ := r.get (i := i) (d := ds[i]) (by simp [h])
      refine .inr (.inr ⟨ds[i], v, ?_, ?_, rpo_of h2⟩)
      · rw [List.getElem?_append_left (by simpa using h)]
        simp [h]
      · unfold L2.start
        rw [List.getElem?_append_left (by simpa [rl] using h), List.getElem?_map, h1]
        rfl
    · rw [List.getElem?_append_right (by simpa using h)] at ho
      have e : o = .na := by
        have := List.mem_of_getElem? ho
        exact (List.mem_replicate.mp this).2
      exact .inl ⟨e, rfl⟩
theorem start_st {ds : List D} {vs : List V} {N : List Str} (fi : FI F H) (r : Rps K G F H ds vs) (hl : ds.length ≤ N.length) :
    ST K G ⟨[], F, H, fun _ _ => True, fun _ _ _ _ _ _ => trivial, none⟩ (startO ds.length N.length) F (L2.start N vs) H (ds.map some ++ List.replicate (N.length - ds.length) none) :=
  ⟨ExM.refl fi, trivial, fun v e => (by cases e), _, start_sl r hl, fun i a h => (by cases h)⟩
theorem last_at {α : Type} {l : List α} {x : α} : (l ++ [x])[l.length]? = some x := by simp
/-- the value behind the slots -/
theorem ST.last {γ : Gh} {O : List Ow} {σ : St} {ρ : Env} {o : Ow} {d : D} {v : V} (s : ST K G γ (O ++ [o]) F (σ ++ [some v]) H (ρ ++ [some d])) (hn : o ≠ .na) : ∃ A, RpO K G F H o d v A ∧ A.Nodup ∧ ∀ a ∈ A, ¬ F a ∧ (γ.B a = none ∨ a ∈ γ.M) := by
  obtain ⟨As, q, own⟩ := s.sl
  have lr := q.lr
  have ls := q.ls
  simp at lr ls
  rcases q.sl O.length o last_at with ⟨z, _⟩ | ⟨z, _⟩ | ⟨d', v', h1, h2, h3⟩
  · exact absurd z hn
  · rw [← lr, last_at] at z; cases z
  · rw [← lr, last_at] at h1
    rw [← ls, last_at] at h2
    cases h1
    cases h2
    exact ⟨_, h3, q.nd _, fun a ha => ⟨(q.nf _ a ha).1, own _ a ha⟩⟩
end

/-! ### a def keeps its promise, by its body -/
section
variable {P : Program} {w : World} {K : PySem.W.Frag} {mg : Str → Option Value} {base : Heap} {x qual : Str} {params : Arguments} {body : List Stmt} {scope : Scope} {dvs : List V} {kws : List (Str × V)} {f : Addr} {fd : FuncData} {N ps : List Str} {k : Nat} {G : Gb}
theorem okP {n : Nat} {ro : Ow} {b : NW.Env → Out} {O1 : List Ow} (F : FunD K x qual params body scope dvs kws f fd) (S : FnScope N ps scope) (hn : ps.length = n) (hN : n ≤ N.length) (hro : ro ≠ .na)
    (h : ∀ (cdv : Value) (A : Around) (outer : List PySem.Env) (s : Shared) (H : Hp) (E : XK), Room k (A.deeper (envOfC qual scope s.heap.objs.size f cdv)) →
      GSs (cxOf (L2.CX P w) P w K mg base N qual scope f cdv A outer s H E) G (WE0 E) (exP N.length ro) (startO n N.length) O1 body b) :
    FnOk P w K mg base (L2.CX P w) (k + 1) f fd ps (spP K G n ro (fnD n N.length b)) := by
  refine F.ok S (fun vs H Q E ⟨F, ds, _, h1, h2, _⟩ => by rw [h2.len, h1, hn]) (fun cdv A outer s H vs Q E hr ⟨F, ds, fi, h1, h2, kn⟩ => ?_)
  obtain ⟨t, pt, it⟩ := h cdv A outer s H E hr
  refine ⟨t, pt, ?_⟩
  unfold fnD at kn
  rw [if_pos h1] at kn
  subst h1
  refine it _ F _ H _ _ (start_st fi h2 hN) ?_
  revert kn
  cases b (ds.map some ++ List.replicate (N.length - ds.length) none) with
  | nx ρ => exact fun kn F' σ' H' s' => kn F' H' _ [] s'.ex.ex (rpo_flat (d := .non) hro rfl) List.nodup_nil (fun a ha => nomatch ha)
  | rt d ρ =>
    intro kn F' σ' H' v s'
    obtain ⟨A, q1, q2, q3⟩ := s'.last hro
    exact kn F' H' v A s'.ex.ex q1 q2 fun a ha => ⟨(q3 a ha).2.elim id (fun z => nomatch z), (q3 a ha).1⟩
  | ex c fs ρ => exact fun kn F' σ' H' dd s' xr => kn F' H' dd s'.ex.ex xr
  | bk ρ => exact fun kn => kn.elim
  | ct ρ => exact fun kn => kn.elim
  | st => exact fun kn => kn.elim
end
section
variable {K : PySem.W.Frag} {G : Gb} {F F' : Fr} {H H' : Hp}
theorem start_stM {self : D} {ds : List D} {x : Addr} {rest : List V} {N : List Str} (fi : FI F H) (nf : ¬ F x) (r0 : RpO K G F H (.own .fz) self (.ref x) [x]) (r : Rps K G F H ds rest) (hl : ds.length + 1 ≤ N.length) :
    ST K G ⟨[x], F, H, fun _ _ => True, fun _ _ _ _ _ _ => trivial, some (.ref x)⟩ (.own .fz :: (List.replicate ds.length .fz ++ List.replicate (N.length - (ds.length + 1)) .na)) F (L2.start N (.ref x :: rest)) H (some self :: (ds.map some ++ List.replicate (N.length - (ds.length + 1)) none)) := by
  have rl := r.len
  have e : L2.start N (.ref x :: rest) = some (.ref x) :: (rest.map some ++ List.replicate (N.length - (rest.length + 1)) none) := rfl
  have em : ∀ (j : Nat) (a : Addr), a ∈ (if j = 0 then [x] else ([] : List Addr)) → j = 0 ∧ a = x := fun j a h => by
    split at h
    · rename_i z
      exact ⟨z, List.mem_singleton.mp h⟩
    · cases h
  rw [e]
  refine ⟨ExM.refl fi, trivial, fun v e1 _ => by cases e1; rfl, fun j => if j = 0 then [x] else [], ⟨by simp, by simp [rl], fun i o ho => ?_, fun i j a h1 h2 => (em i a h1).1.trans (em j a h2).1.symm, fun i => ?_, fun i a h => ?_⟩, fun i a h => ?_⟩
  · cases i with
    | zero =>
      simp at ho
      subst ho
      exact .inr (.inr ⟨self, .ref x, rfl, rfl, r0⟩)
    | succ i =>
      have ho : (List.replicate ds.length Ow.fz ++ List.replicate (N.length - (ds.length + 1)) Ow.na)[i]? = some o := by simpa using ho
      show SlO K G F H o (ds.map some ++ List.replicate (N.length - (ds.length + 1)) none)[i]? (rest.map some ++ List.replicate (N.length - (rest.length + 1)) none)[i]? (if i + 1 = 0 then [x] else [])
      rw [if_neg (by omega)]
      by_cases h : i < ds.length
      · rw [List.getElem?_append_left (by simpa using h)] at ho
        have e : o = .fz := by
          have := List.mem_of_getElem? ho
          exact (List.mem_replicate.mp this).2
        subst e
        obtain ⟨v, h1, h2⟩ := r.get (i := i) (d := ds[i]) (by simp [h])
        refine .inr (.inr ⟨ds[i], v, ?_, ?_, rpo_of h2⟩)
        · rw [List.getElem?_append_left (by simpa using h)]
          simp [h]
        · rw [List.getElem?_append_left (by simpa [rl] using h), List.getElem?_map, h1]
          rfl
      · rw [List.getElem?_append_right (by simpa using h)] at ho
        have e : o = .na := by
          have := List.mem_of_getElem? ho
          exact (List.mem_replicate.mp this).2
        exact .inl ⟨e, rfl⟩
  · try dsimp only
    split
    · exact List.nodup_cons.mpr ⟨by simp, List.nodup_nil⟩
    · exact List.nodup_nil
  · obtain ⟨_, rfl⟩ := em i a h
    exact ⟨nf, r0.some_ _ a List.mem_cons_self⟩
  · obtain ⟨_, rfl⟩ := em i a h
    exact .inr List.mem_cons_self
/-- the own object in slot 0 at a method's end -/
theorem ST.me_end {γ : Gh} {O : List Ow} {σ : St} {ρ : Env} {x : Addr} {s : D} (t : ST K G γ O F σ H ρ) (ho : O[0]? = some (.own .fz)) (hm : γ.me = some (.ref x)) (hs : ρ[0]? = some (some s)) : (∃ c ds, s = .obj c ds) → RpO K G F H (.own .fz) s (.ref x) [x] ∧ ¬ F x := fun ⟨c, ds, e⟩ => by
  have h0 := t.me _ hm ho
  obtain ⟨As, q, own⟩ := t.sl
  rcases q.sl 0 _ ho with ⟨z, _⟩ | ⟨z, _⟩ | ⟨d', v', h1, h2, h3⟩
  · cases z
  · rw [hs] at z; cases z
  · rw [hs] at h1
    rw [h0] at h2
    cases h1
    cases h2
    subst e
    have h3' := h3
    unfold RpO at h3
    obtain ⟨p, vs, A', e1, e2, _, _, hr⟩ := h3
    obtain ⟨eA, _⟩ := rpl_fz.mp hr
    cases e1
    rw [eA] at e2
    rw [e2] at h3'
    exact ⟨h3', (q.nf 0 x (by rw [e2]; exact List.mem_cons_self)).1⟩
end

theorem self0_k {K : PySem.W.Frag} {G : Gb} {E : XK} {x : Addr} {F : Fr} {H : Hp} {Q : VK} {ρ : Env} {g : D → RM} (k : KM K G E x F H Q (self0 ρ g)) : ∃ c ds, ρ[0]? = some (some (.obj c ds)) ∧ KM K G E x F H Q (g (.obj c ds)) := by
  unfold self0 at k
  split at k
  · rename_i c ds e
    exact ⟨c, ds, e, k⟩
  · exact k.elim
theorem ExM.ff {M : List Addr} {F F' : Fr} {H H' : Hp} (h : ExM M F H F' H') : FI F' H' := h.fi
section
variable {P : Program} {w : World} {K : PySem.W.Frag} {mg : Str → Option Value} {base : Heap} {x qual : Str} {params : Arguments} {body : List Stmt} {scope : Scope} {dvs : List V} {kws : List (Str × V)} {f : Addr} {fd : FuncData} {N ps : List Str} {k : Nat} {G : Gb}
theorem okM {n : Nat} {b : NW.Env → Out} {O1 : List Ow} (F : FunD K x qual params body scope dvs kws f fd) (S : FnScope N ps scope) (hn : ps.length = n + 1) (hN : n + 1 ≤ N.length) (h01 : O1[0]? = some (.own .fz))
    (h : ∀ (cdv : Value) (A : Around) (outer : List PySem.Env) (s : Shared) (H : Hp) (E : XK), Room k (A.deeper (envOfC qual scope s.heap.objs.size f cdv)) →
      GSs (cxOf (L2.CX P w) P w K mg base N qual scope f cdv A outer s H E) G (WE0 E) (exMe N.length) (.own .fz :: (List.replicate n .fz ++ List.replicate (N.length - (n + 1)) .na)) O1 body b) :
    FnOk P w K mg base (L2.CX P w) (k + 1) f fd ps (spM K G n (fnM n N.length b)) := by
  refine F.ok S (fun vs H Q E ⟨F, self, ds, x, rest, e, _, _, _, h1, h2, _⟩ => by rw [e, List.length_cons, h2.len, h1, hn]) (fun cdv A outer s H vs Q E hr ⟨F, self, ds, x, rest, e, fi, nf, r0, h1, h2, kn⟩ => ?_)
  obtain ⟨t, pt, it⟩ := h cdv A outer s H E hr
  refine ⟨t, pt, ?_⟩
  unfold fnM at kn
  rw [if_pos h1] at kn
  subst h1 e
  refine it _ F _ H _ _ (start_stM fi nf r0 h2 hN) ?_
  revert kn
  have l0 : 0 < N.length := by omega
  have zz : (meO N.length)[0]? = some (.own .fz) := rfl
  have nwF : ∀ {F' : Fr} {H' : Hp}, ExM [x] F H F' H' → ¬ F' x → ExM [x] F H F' H' := fun z _ => z
  cases b (some self :: (ds.map some ++ List.replicate (N.length - (ds.length + 1)) none)) with
  | nx ρ =>
    intro kn F' σ' H' s'
    unfold outM at kn
    obtain ⟨c, ds', e, kn⟩ := self0_k kn
    obtain ⟨r1, r2⟩ := s'.me_end h01 rfl e ⟨_, _, rfl⟩
    exact kn F' H' _ s'.ex r2 (rp_non.mpr rfl) r1
  | rt d ρ =>
    intro kn F' σ' H' v s'
    unfold outM at kn
    obtain ⟨c, ds', e, kn⟩ := self0_k kn
    have lr := s'.lr
    have zl : (meO N.length).length = N.length := by simp [meO]; omega
    have hl : 0 < ρ.length := by
      have : (ρ ++ [some d]).length = (meO N.length ++ [Ow.fz]).length := lr
      simp [zl] at this
      omega
    obtain ⟨r1, r2⟩ := s'.me_end (by show ((meO N.length) ++ [Ow.fz])[0]? = _; rw [snoc_at, if_neg (by omega)]; exact zz) rfl (show (ρ ++ [some d])[0]? = _ by rw [snoc_at, if_neg (by omega)]; exact e) ⟨_, _, rfl⟩
    obtain ⟨A, q1, _, _⟩ := s'.last (o := .fz) (by decide)
    exact kn F' H' v s'.ex r2 (rpo_fz.mp q1).2 r1
  | ex c fs ρ =>
    intro kn F' σ' H' dd s' xr
    unfold outM at kn
    obtain ⟨c2, ds', e, kn⟩ := self0_k kn
    obtain ⟨r1, r2⟩ := s'.me_end zz rfl e ⟨_, _, rfl⟩
    exact kn F' H' dd s'.ex r2 r1 xr
  | bk ρ => exact fun kn => kn.elim
  | ct ρ => exact fun kn => kn.elim
  | st => exact fun kn => kn.elim
end

/-! ### calls -/
/-- a def of the module, as it is called -/
structure Cal (P : Program) (w : World) (K : PySem.W.Frag) (mg : Str → Option Value) (base : Heap) (x : Str) (k : Nat) (sp : Sp) : Prop where
  ex : ∃ f fd ps, FnOk P w K mg base (L2.CX P w) k f fd ps sp ∧ mg x = some (.ref f) ∧ PySem.W.keepIn K (.ref f) = true ∧ Binds K fd ps []
/-- a method of an own class -/
structure CalM (P : Program) (w : World) (K : PySem.W.Frag) (mg : Str → Option Value) (base : Heap) (G : Gb) (c : Nat) (m : Str) (k : Nat) (sp : Sp) : Prop where
  ex : ∃ f fd ps, FnOk P w K mg base (L2.CX P w) k f fd ps sp ∧ Cls K (G.cls c) ∧ Meth K (G.cls c) m f ∧ Binds K fd ps []
  no : m ∉ G.names c
/-- an own class, as it is made -/
structure CalC (P : Program) (w : World) (K : PySem.W.Frag) (mg : Str → Option Value) (base : Heap) (G : Gb) (c : Nat) (x : Str) (k : Nat) (sp : Sp) : Prop where
  ex : ∃ f fd ps, FnOk P w K mg base (L2.CX P w) k f fd ps sp ∧ mg x = some (.ref (G.cls c)) ∧ Mk K (G.cls c) f ∧ Binds K fd ps []
/-- a property of an own class -/
structure CalP (P : Program) (w : World) (K : PySem.W.Frag) (mg : Str → Option Value) (base : Heap) (G : Gb) (c : Nat) (m : Str) (k : Nat) (sp : Sp) : Prop where
  ex : ∃ p g fd ps, FnOk P w K mg base (L2.CX P w) k g fd ps sp ∧ Cls K (G.cls c) ∧ PropOf K (G.cls c) m p g ∧ Binds K fd ps []
section
variable {X : Cx} {CX : CXT} {k : Nat} {f C : Addr} {fd : FuncData} {ps : List Str} {sp : Sp} {dvs : List V} {ds : List Value} {E : St → XK} {x m : Str} {p pos apos : Pos} {e o : Expr} {es : List Expr} {ta : TE} {t : TA}
def tMethS (C : Addr) (m : Str) (sp : Sp) (E : St → XK) (ta : TE) (t : TA) : TE := fun σ H Q => ta σ H fun x H1 => ∃ a dx fs, x = .ref a ∧ H1 a = some (.ins C dx fs) ∧ fs.lookup m = none ∧ t σ H1 fun vs H2 => sp (x :: vs) H2 Q (E σ)
def tMakeS (C : Addr) (sp : Sp) (E : St → XK) (t : TA) : TE := fun σ H Q => t σ H fun vs H1 => ∀ x dx, H1 x = none → H1 dx = none → dx ≠ x → sp (.ref x :: vs) (upd (upd H1 dx (.own x)) x (.ins C dx [])) (fun v H2 => v = .non ∧ Q (.ref x) H2) (E σ)
theorem pe_callS0 (F : FnOk X.prog X.w X.K X.mg X.base CX k f fd ps sp) (hr : Room k X.A) (hg : Gl X x) (hm : X.mg x = some (.ref f)) (hk : PySem.W.keepIn X.K (.ref f) = true) (hb : Binds X.K fd ps []) (hx : ∀ σ, PassesAt CX X σ (E σ))
    (hdb : (x == ("__debug__" : Str)) = false := by decide) : PE X (.Call (.Name x p) [] [] pos) (tCallS sp E tNil) := by
  refine ⟨fun pins s σ H Q I h => ?_⟩
  refine wpAny_Call_Name_kw (ld_glob I hg hm ?_ hdb)
  exact PySem.W.callWith_K0 I.kIn hk (run_fnS (us := []) F hr hb (hx σ) I .nil h)
theorem pe_methS {pl : Sem Bool} (he : PE X o ta) (c : Cls X.K C) (hm : Meth X.K C m f) (F : FnOk X.prog X.w X.K X.mg X.base CX k f fd ps sp) (hr : Room k X.A) (hb : Binds X.K fd ps []) (hx : ∀ σ, PassesAt CX X σ (E σ)) (ha : PA X (e :: es) t)
    (hst : starEach (e :: es) X.env = (false, eval e X.env) :: starEach es X.env := by rfl) (hpl : (backTo pos (starEach es X.env)).any (·.1) = false := by rfl)
    (ht : eval (.Call (.Attribute o m apos) (e :: es) [] pos) X.env = (do
      let ov ← eval o X.env
      standAt apos.atName
      let (f, first) ← holding [ov] (getMethod ov m pl)
      callWith pos f first (backTo pos (starEach (e :: es) X.env)) (backToKw pos (keywordEach [] X.env))) := by rfl) :
    PE X (.Call (.Attribute o m apos) (e :: es) [] pos) (tMethS C m sp E ta t) := by
  refine ⟨fun pins s σ H Q I h => ?_⟩
  refine PySem.W.methodCall_KW (pl := pl) (thn (he.run pins s σ H _ I h) fun u s1 ⟨x, H1, I1, rx, a, dx, fs, ex, ea, l, q⟩ => ?_) ht
  subst ex
  obtain rfl : u = Value.ref a := rx
  refine getmeth_ok I1 ea c hm l ?_
  refine PySem.W.callWith_K (first := [.ref a]) (h₀ := X.base) I.ok.mod.kin hm.kp (thn (ha.run pos pins s1 σ H1 _ I1 q) fun us s2 ⟨vs, H2, I2, r, q2⟩ => ⟨I2.kIn, ?_⟩) hst hpl
  exact run_fnS (us := .ref a :: us) (vs := .ref a :: vs) F hr hb (hx σ) I2 (.cons rfl r) q2
theorem pe_methS0 {pl : Sem Bool} (he : PE X o ta) (c : Cls X.K C) (hm : Meth X.K C m f) (F : FnOk X.prog X.w X.K X.mg X.base CX k f fd ps sp) (hr : Room k X.A) (hb : Binds X.K fd ps []) (hx : ∀ σ, PassesAt CX X σ (E σ))
    (ht : eval (.Call (.Attribute o m apos) [] [] pos) X.env = (do
      let ov ← eval o X.env
      standAt apos.atName
      let (f, first) ← holding [ov] (getMethod ov m pl)
      callWith pos f first (backTo pos (starEach [] X.env)) (backToKw pos (keywordEach [] X.env))) := by rfl) :
    PE X (.Call (.Attribute o m apos) [] [] pos) (tMethS C m sp E ta tNil) := by
  refine ⟨fun pins s σ H Q I h => ?_⟩
  refine PySem.W.methodCall_KW (pl := pl) (thn (he.run pins s σ H _ I h) fun u s1 ⟨x, H1, I1, rx, a, dx, fs, ex, ea, l, q⟩ => ?_) ht
  subst ex
  obtain rfl : u = Value.ref a := rx
  refine getmeth_ok I1 ea c hm l ?_
  exact PySem.W.callWith_K0 (first := [.ref a]) I1.kIn hm.kp (run_fnS (us := [.ref a]) (vs := [.ref a]) F hr hb (hx σ) I1 (.cons rfl .nil) q)
theorem run_makeS {pins : List (Addr × Obj)} {σ : St} {H : Hp} {s : Shared} {Q : VK} {us : List Value} {vs : List V} (M : Mk X.K C f) (F : FnOk X.prog X.w X.K X.mg X.base (L2.CX X.prog X.w) k f fd ps sp) (hr : Room (k + 1) X.A) (hb : Binds X.K fd ps [])
    (hx : PassesAt (L2.CX X.prog X.w) X σ (E σ)) (I : Inv X pins σ H s) (r : Vals vs us)
    (h : ∀ x dx, H x = none → H dx = none → dx ≠ x → sp (.ref x :: vs) (upd (upd H dx (.own x)) x (.ins C dx [])) (fun v H2 => v = .non ∧ Q (.ref x) H2) (E σ)) :
    wpAny (model X.prog X.w) X.A (call (.ref C) us) (EP X pins σ Q) X.xe s := by
  have hq := h (s.heap.objs.size + 1) s.heap.objs.size (I.hok.fresh (Nat.le_succ _)) (I.hok.fresh (Nat.le_refl _)) (Nat.ne_of_lt (Nat.lt_succ_self _))
  have I2 := Inv.made (C := C) I
  have r2 : Vals (V.ref (s.heap.objs.size + 1) :: vs) (Value.ref (s.heap.objs.size + 1) :: us) := .cons rfl r
  have hl : (Value.ref (s.heap.objs.size + 1) :: us).length = ps.length := by
    have e := r2.length
    rw [F.len _ _ _ _ hq] at e
    exact e.symm
  have b := hb _ (Value.ref (s.heap.objs.size + 1) :: us) I2.kIn (by rw [List.append_nil]; exact hl)
  rw [List.append_nil] at b
  refine wpAny_call (make_map (f := f) I.kIn M.makes M.init (beq_iff_eq.mp M.fn) (codeAny_mono (F.run _ X.stack _ _ ⟨Value.ref (s.heap.objs.size + 1) :: us, []⟩ (Value.ref (s.heap.objs.size + 1) :: us) _ _ (E σ) (hr.make C us [])
    (I2.env0.make C us []) b r2 hq) fun r s' hq' => ?_))
  cases r with
  | error e => exact hx pins _ _ e s' I2 hq'
  | ok fl =>
    cases fl with
    | ret u =>
      obtain ⟨v, H', I3, rv, ev, q3⟩ := I2.after hq'
      subst ev
      exact ⟨rv, ⟨V.ref (s.heap.objs.size + 1), H', I3, rfl, q3⟩⟩
    | next => exact False.elim hq'
    | brk => exact False.elim hq'
    | cont => exact False.elim hq'
theorem pe_makeS (M : Mk X.K C f) (F : FnOk X.prog X.w X.K X.mg X.base (L2.CX X.prog X.w) k f fd ps sp) (hr : Room (k + 1) X.A) (hg : Gl X x) (hm : X.mg x = some (.ref C)) (hb : Binds X.K fd ps []) (hx : ∀ σ, PassesAt (L2.CX X.prog X.w) X σ (E σ))
    (ha : PA X (e :: es) t) (hdb : (x == ("__debug__" : Str)) = false := by decide) (he : starEach (e :: es) X.env = (false, eval e X.env) :: starEach es X.env := by rfl) (hpl : (backTo pos (starEach es X.env)).any (·.1) = false := by rfl) :
    PE X (.Call (.Name x p) (e :: es) [] pos) (tMakeS C sp E t) := by
  refine ⟨fun pins s σ H Q I h => ?_⟩
  refine wpAny_Call_Name_kw (ld_glob I hg hm ?_ hdb)
  refine PySem.W.callWith_K (h₀ := X.base) I.ok.mod.kin M.kp (thn (ha.run pos pins s σ H _ I h) fun us s1 ⟨vs, H1, I1, r, q⟩ => ⟨I1.kIn, ?_⟩) he hpl
  exact run_makeS M F hr hb (hx σ) I1 r q
end
end NW
end

section
set_option Elab.async false
set_option linter.all false
set_option maxRecDepth 100000
/-! NWl: calls of defs, methods, classes, properties, by data. -/
namespace NW
open PySem PySem.Spec L2
open PyProof.Rows hiding St

section
variable {X : Cx} {G : Gb} {W : WX} {Z : Exits} {O O' O1 : List Ow} {γ : Gh} {F F' : Fr} {H H' : Hp} {σ : St} {ρ : NW.Env} {E : Ends}
theorem KN.we {K : PySem.W.Frag} {ro : Ow} {Q : VK} {r : R D} (k : KN K G W ro F σ H Q r) : KN K G (WE0 (WE W σ)) ro F [] H Q r := by
  cases r with
  | ok d => exact k
  | ex c fs => exact k
  | st => exact k
/-- what the caller gives to a callee's promise -/
theorem sp_of {K : PySem.W.Frag} {n : Nat} {ro : Ow} {m : List D → R D} {ds : List D} {vs : List V} {Q : VK} (fi : FI F H) (hl : ds.length = n) (r : Rps K G F H ds vs) (k : KN K G W ro F σ H Q (m ds)) : spP K G n ro m vs H Q (WE W σ) := ⟨F, ds, fi, hl, r, k.we⟩
theorem gn_call {n k j : Nat} {ro : Ow} {m : List D → R D} {x : Str} {p pos : Pos} {e : Expr} {es : List Expr} {os : List Ow} {f : NW.Env → R (List D)} (c : Cal X.prog X.w X.K X.mg X.base x k (spP X.K G n ro m)) (hr : Room j X.A) (tk : Takes X W) (ha : GA X G W O os (e :: es) f)
    (hk : k ≤ j := by decide) (hz : allFz os = true := by rfl) (hn : os.length = n := by rfl) (hg : Gl X x := by rfl) (hdb : (x == ("__debug__" : Str)) = false := by decide) (he : starEach (e :: es) X.env = (false, eval e X.env) :: starEach es X.env := by rfl) (hpl : (backTo pos (starEach es X.env)).any (·.1) = false := by rfl) :
    GN X G W O ro (.Call (.Name x p) (e :: es) [] pos) (callA m f) := by
  obtain ⟨fa, fd, ps, F1, hm, kp, hb⟩ := c.ex
  obtain ⟨t, pa, i⟩ := ha
  refine ⟨_, pe_callS (E := WE W) F1 (hr.mono hk) hg hm kp hb (passAt tk) pa hdb he hpl, fun F σ H ρ Q s k => ?_⟩
  refine imp_A2N (ta := t) i s k fun ds F1 H1 vs e1 r k1 => ?_
  obtain ⟨r1, hl⟩ := rpa_all r hz
  exact sp_of e1.fi (hl.trans hn) r1 k1
theorem gn_call0 {k j : Nat} {ro : Ow} {m : List D → R D} {x : Str} {p pos : Pos} (c : Cal X.prog X.w X.K X.mg X.base x k (spP X.K G 0 ro m)) (hr : Room j X.A) (tk : Takes X W)
    (hk : k ≤ j := by decide) (hg : Gl X x := by rfl) (hdb : (x == ("__debug__" : Str)) = false := by decide) : GN X G W O ro (.Call (.Name x p) [] [] pos) (callA m nilA) := by
  obtain ⟨fa, fd, ps, F1, hm, kp, hb⟩ := c.ex
  refine ⟨_, pe_callS0 (E := WE W) F1 (hr.mono hk) hg hm kp hb (passAt tk) hdb, fun F σ H ρ Q s k => ?_⟩
  exact sp_of s.1 rfl rps_nil k
/-! what is lent -/
def scalR : R D → R D
  | .ok d => if flat d then .ok d else .st
  | .ex c fs => if fs.all flat then .ex c fs else .st
  | .st => .st
abbrev allF (F : Fr) (H : Hp) : Fr := fun a => F a ∨ ∃ u, H a = some u ∧ ∀ kvs, u ≠ .xd kvs
theorem RpO.notx {K : PySem.W.Frag} : ∀ (o : Ow) {d : D} {v : V} {A : List Addr}, RpO K G F H o d v A → ∀ a ∈ A, ∃ u, H a = some u ∧ ∀ kvs, u ≠ .xd kvs
  | .na, _, _, _, h => by unfold RpO at h; exact h.elim
  | .fz, _, _, _, h => by unfold RpO at h; rw [h.1]; intro a ha; cases ha
  | .own o, d, v, A, h => by
    cases d with
    | lst ds =>
      unfold RpO at h
      obtain ⟨p, vs, A', e, rfl, hp, hl⟩ := h
      intro a ha
      rcases List.mem_cons.mp ha with rfl | ha
      · exact ⟨_, hp, fun _ z => by cases z⟩
      · exact hl.mem (P := fun a => ∃ u, H a = some u ∧ ∀ kvs, u ≠ .xd kvs) (fun d v B q => RpO.notx o q) a ha
    | obj c ds =>
      unfold RpO at h
      obtain ⟨p, vs, A', e, rfl, ⟨dx, hp⟩, hn, hl⟩ := h
      intro a ha
      rcases List.mem_cons.mp ha with rfl | ha
      · exact ⟨_, hp, fun _ z => by cases z⟩
      · exact hl.mem (P := fun a => ∃ u, H a = some u ∧ ∀ kvs, u ≠ .xd kvs) (fun d v B q => RpO.notx o q) a ha
    | dct ks ds =>
      unfold RpO at h
      obtain ⟨p, vs, A', e, rfl, hp, hl⟩ := h
      intro a ha
      rcases List.mem_cons.mp ha with rfl | ha
      · obtain ⟨kk, _, _, z⟩ := hp
        exact ⟨_, z, fun _ z => by cases z⟩
      · exact hl.mem (P := fun a => ∃ u, H a = some u ∧ ∀ kvs, u ≠ .xd kvs) (fun d v B q => RpO.notx o q) a ha
    | _ =>
      unfold RpO at h
      rw [h.1]; intro a ha; cases ha
theorem rps_lent {K : PySem.W.Frag} : ∀ {os : List Ow} {ds : List D} {vs : List V}, RpA K G os F H ds vs → Rps K G (allF F H) H ds vs ∧ ds.length = os.length
  | [], _, _, h => by unfold RpA at h; rw [h.1, h.2]; exact ⟨rps_nil, rfl⟩
  | o :: os, _, _, h => by
    unfold RpA at h
    obtain ⟨d, v, A, dr, vr, rfl, rfl, h1, h2⟩ := h
    obtain ⟨h3, h4⟩ := rps_lent h2
    exact ⟨rps_cons (h1.freeze (F' := allF F H) (fun a z => .inl z) o fun a ha => .inr (h1.notx o a ha)) h3, by simp [h4]⟩
theorem flat_all {K : PySem.W.Frag} {fs : List D} {c : Nat} {dd : Option Addr} {F2 : Fr} (h : fs.all flat = true) (hd : ∀ a, dd = some a → F a) (x : XR K G F2 H c fs dd) : XR K G F H c fs dd := by
  rcases x with x | ⟨a, kvs, e, ne, _, h1, hl, h2⟩
  · exact .inl x
  · refine .inr ⟨a, kvs, e, ne, hd a e, h1, hl, fun k x d q1 q2 => ?_⟩
    obtain ⟨v, y1, y2⟩ := h2 k x d q1 q2
    have fl : flat d = true := List.all_eq_true.mp h d (List.mem_of_getElem? q2)
    exact ⟨v, y1, by rw [rp_flat' fl y2]; exact rp_flat fl⟩
theorem ex_lent (fi : FI F H) (e : Ex (allF F H) H F' H') : Ex F H F H' := ⟨fun _ z => z, e.hp, fun _ z => .inl z, fun a z => by
  obtain ⟨u, q⟩ := fi a z
  exact ⟨u, e.hp a u q⟩⟩
theorem ex_lentX {K : PySem.W.Frag} {c : Nat} {fs : List D} {dd : Option Addr} (fi : FI F H) (e : Ex (allF F H) H F' H') (x : XR K G F' H' c fs dd) : Ex F H (fun a => F a ∨ dd = some a) H' := ⟨fun _ z => .inl z, e.hp, fun a z => by
  rcases z with z | z
  · exact .inl z
  · rcases x with ⟨_, x⟩ | ⟨b, kvs, eb, _, hFb, hb, _⟩
    · rw [x] at z; cases z
    · rw [z] at eb; cases eb
      rcases e.nw a hFb with q | q
      · rcases q with q | ⟨u, q1, q2⟩
        · exact .inl q
        · have := e.hp a u q1
          rw [hb] at this; cases this
          exact absurd rfl (q2 kvs)
      · exact .inr q, fun a z => by
  rcases z with z | z
  · obtain ⟨u, q⟩ := fi a z
    exact ⟨u, e.hp a u q⟩
  · rcases x with ⟨_, x⟩ | ⟨b, kvs, eb, _, hFb, hb, _⟩
    · rw [x] at z; cases z
    · rw [z] at eb; cases eb
      exact ⟨_, hb⟩⟩
theorem kn_lent {K : PySem.W.Frag} {Q : VK} {r : R D} (fi : FI F H) (k : KB K G W .fz F σ H Q (scalR r)) : KN K G W .fz (allF F H) σ H Q r := by
  cases r with
  | ok d =>
    simp only [scalR] at k
    split at k
    · rename_i fl
      intro F' H' v A e r _ _
      have ev := r.flat_ fl
      rw [ev]
      exact k F H' _ [] (ex_lent fi e) (rpo_of (rp_flat fl))
    · exact k.elim
  | ex c fs =>
    simp only [scalR] at k
    split at k
    · rename_i fl
      intro F' H' dd e x
      exact k _ H' dd (ex_lentX fi e x) (flat_all fl (fun a z => .inr z) x)
    · exact k.elim
  | st => exact k
theorem sp_lent {K : PySem.W.Frag} {n : Nat} {m : List D → R D} {os : List Ow} {ds : List D} {vs : List V} {Q : VK} (fi : FI F H) (hl : os.length = n) (r : RpA K G os F H ds vs) (k : KB K G W .fz F σ H Q (scalR (m ds))) : spP K G n .fz m vs H Q (WE W σ) := by
  obtain ⟨r1, l1⟩ := rps_lent r
  exact ⟨allF F H, ds, fun a z => z.elim (fi a) fun ⟨u, q, _⟩ => ⟨u, q⟩, l1.trans hl, r1, (kn_lent fi k).we⟩
/-- a call with things of ours lent: a flat answer -/
theorem gb_callS {n k j : Nat} {m : List D → R D} {x : Str} {p pos : Pos} {e : Expr} {es : List Expr} {os : List Ow} {f : NW.Env → R (List D)} (c : Cal X.prog X.w X.K X.mg X.base x k (spP X.K G n .fz m)) (hr : Room j X.A) (tk : Takes X W) (ha : GA X G W O os (e :: es) f)
    (hk : k ≤ j := by decide) (hn : os.length = n := by rfl) (hg : Gl X x := by rfl) (hdb : (x == ("__debug__" : Str)) = false := by decide) (he : starEach (e :: es) X.env = (false, eval e X.env) :: starEach es X.env := by rfl) (hpl : (backTo pos (starEach es X.env)).any (·.1) = false := by rfl) :
    GB X G W O .fz (.Call (.Name x p) (e :: es) [] pos) (callA (fun ds => scalR (m ds)) f) := by
  obtain ⟨fa, fd, ps, F1, hm, kp, hb⟩ := c.ex
  obtain ⟨t, pa, i⟩ := ha
  refine ⟨_, pe_callS (E := WE W) F1 (hr.mono hk) hg hm kp hb (passAt tk) pa hdb he hpl, fun F σ H ρ Q s k => ?_⟩
  refine imp_A2 (ta := t) i s k fun ds F1 H1 vs e1 r k1 => ?_
  exact sp_lent e1.fi hn r k1
/-! methods -/
def isC (c : Nat) : D → Bool
  | .obj c' _ => decide (c' = c)
  | _ => false
def methD (c : Nat) (m : List D → R D) (fr : NW.Env → R D) (fa : NW.Env → R (List D)) : NW.Env → R D := fun ρ => (fr ρ).bind fun r => if isC c r then (fa ρ).bind fun ds => m (r :: ds) else .st
theorem isC_inv {c : Nat} {d : D} (h : isC c d = true) : ∃ fs, d = .obj c fs := by
  cases d <;> first | (cases h; done) | skip
  rename_i c' fs
  have e : c' = c := by simpa [isC] using h
  exact ⟨fs, by rw [e]⟩
theorem zip_no {ns : List Str} {vs : List V} {m : Str} (h : m ∉ ns) : (ns.zip vs).lookup m = none := lookup_zip_none h
theorem gn_meth {n k j c : Nat} {ro : Ow} {m : List D → R D} {mn : Str} {o : Expr} {pl : Sem Bool} {apos pos : Pos} {e : Expr} {es : List Expr} {os : List Ow} {fr : NW.Env → R D} {f : NW.Env → R (List D)} (cm : CalM X.prog X.w X.K X.mg X.base G c mn k (spP X.K G n ro m)) (hr : Room j X.A) (tk : Takes X W)
    (ho : GB X G W O .fz o fr) (ha : GA X G W O os (e :: es) f) (hk : k ≤ j := by decide) (hz : allFz os = true := by rfl) (hn : os.length + 1 = n := by rfl) (he : starEach (e :: es) X.env = (false, eval e X.env) :: starEach es X.env := by rfl) (hpl : (backTo pos (starEach es X.env)).any (·.1) = false := by rfl)
    (ht : eval (.Call (.Attribute o mn apos) (e :: es) [] pos) X.env = (do
      let ov ← eval o X.env
      standAt apos.atName
      let (f, first) ← holding [ov] (getMethod ov mn pl)
      callWith pos f first (backTo pos (starEach (e :: es) X.env)) (backToKw pos (keywordEach [] X.env))) := by rfl) :
    GN X G W O ro (.Call (.Attribute o mn apos) (e :: es) [] pos) (methD c m fr f) := by
  obtain ⟨fa, fd, ps, F1, cl, hm, hb⟩ := cm.ex
  obtain ⟨t, pa, i⟩ := ha
  obtain ⟨u, po, iu⟩ := ho
  refine ⟨_, pe_methS (E := WE W) po cl hm F1 (hr.mono hk) hb (passAt tk) pa he hpl ht, fun F σ H ρ Q s k => ?_⟩
  refine imp_seqN (ta := u) iu s k fun d F1 H1 x A e1 r1 k1 => ?_
  split at k1
  · rename_i hc
    obtain ⟨fs, rfl⟩ := isC_inv hc
    have q := (rpo_fz.mp r1).2
    have q' := q
    unfold Rp at q
    obtain ⟨a, vs, ex, ⟨fa, dx, ha⟩, hl, rs⟩ := q
    refine ⟨a, dx, _, ex, ha, zip_no cm.no, ?_⟩
    refine imp_A2N (ta := t) i (s.ex e1) k1 fun ds F2 H2 vs2 e2 r k2 => ?_
    obtain ⟨r2, hl2⟩ := rpa_all r hz
    exact sp_of e2.fi (by rw [List.length_cons, hl2, hn]) (rps_cons (q'.ex e2) r2) k2
  · exact (show False from k1).elim
theorem gn_meth0 {k j c : Nat} {ro : Ow} {m : List D → R D} {mn : Str} {o : Expr} {pl : Sem Bool} {apos pos : Pos} {fr : NW.Env → R D} (cm : CalM X.prog X.w X.K X.mg X.base G c mn k (spP X.K G 1 ro m)) (hr : Room j X.A) (tk : Takes X W)
    (ho : GB X G W O .fz o fr) (hk : k ≤ j := by decide)
    (ht : eval (.Call (.Attribute o mn apos) [] [] pos) X.env = (do
      let ov ← eval o X.env
      standAt apos.atName
      let (f, first) ← holding [ov] (getMethod ov mn pl)
      callWith pos f first (backTo pos (starEach [] X.env)) (backToKw pos (keywordEach [] X.env))) := by rfl) :
    GN X G W O ro (.Call (.Attribute o mn apos) [] [] pos) (methD c m fr nilA) := by
  obtain ⟨fa, fd, ps, F1, cl, hm, hb⟩ := cm.ex
  obtain ⟨u, po, iu⟩ := ho
  refine ⟨_, pe_methS0 (E := WE W) po cl hm F1 (hr.mono hk) hb (passAt tk) ht, fun F σ H ρ Q s k => ?_⟩
  refine imp_seqN (ta := u) iu s k fun d F1 H1 x A e1 r1 k1 => ?_
  split at k1
  · rename_i hc
    obtain ⟨fs, rfl⟩ := isC_inv hc
    have q := (rpo_fz.mp r1).2
    have q' := q
    unfold Rp at q
    obtain ⟨a, vs, ex, ⟨fa, dx, ha⟩, hl, rs⟩ := q
    refine ⟨a, dx, _, ex, ha, zip_no cm.no, ?_⟩
    exact sp_of e1.fi rfl (rps_cons q' rps_nil) k1
  · exact (show False from k1).elim
/-- the receiver or an argument is ours: a flat answer -/
theorem gb_methS {n k j c : Nat} {oo : Ow} {m : List D → R D} {mn : Str} {o : Expr} {pl : Sem Bool} {apos pos : Pos} {e : Expr} {es : List Expr} {os : List Ow} {fr : NW.Env → R D} {f : NW.Env → R (List D)} (cm : CalM X.prog X.w X.K X.mg X.base G c mn k (spP X.K G n .fz m)) (hr : Room j X.A) (tk : Takes X W)
    (ho : GB X G W O oo o fr) (ha : GA X G W O os (e :: es) f) (hk : k ≤ j := by decide) (hn : os.length + 1 = n := by rfl) (he : starEach (e :: es) X.env = (false, eval e X.env) :: starEach es X.env := by rfl) (hpl : (backTo pos (starEach es X.env)).any (·.1) = false := by rfl)
    (ht : eval (.Call (.Attribute o mn apos) (e :: es) [] pos) X.env = (do
      let ov ← eval o X.env
      standAt apos.atName
      let (f, first) ← holding [ov] (getMethod ov mn pl)
      callWith pos f first (backTo pos (starEach (e :: es) X.env)) (backToKw pos (keywordEach [] X.env))) := by rfl) :
    GB X G W O .fz (.Call (.Attribute o mn apos) (e :: es) [] pos) (methD c (fun ds => scalR (m ds)) fr f) := by
  obtain ⟨fa, fd, ps, F1, cl, hm, hb⟩ := cm.ex
  obtain ⟨t, pa, i⟩ := ha
  obtain ⟨u, po, iu⟩ := ho
  refine ⟨_, pe_methS (E := WE W) po cl hm F1 (hr.mono hk) hb (passAt tk) pa he hpl ht, fun F σ H ρ Q s k => ?_⟩
  refine imp_seq (ta := u) iu s k fun d F1 H1 x A e1 r1 k1 => ?_
  split at k1
  · rename_i hc
    obtain ⟨fs, rfl⟩ := isC_inv hc
    obtain ⟨a, dx, vs, B, ex, ha, hl, rl⟩ := r1.objE
    refine ⟨a, dx, _, ex, ha, zip_no cm.no, ?_⟩
    refine imp_A2 (ta := t) i (s.ex e1) k1 fun ds F2 H2 vs2 e2 r k2 => ?_
    refine sp_lent (os := oo :: os) (ds := .obj c fs :: ds) e2.fi (by rw [List.length_cons, hn]) ?_ k2
    unfold RpA
    exact ⟨.obj c fs, x, A, ds, vs2, rfl, rfl, r1.ex e2, r⟩
  · exact (show False from k1).elim
theorem gb_methS0 {k j c : Nat} {oo : Ow} {m : List D → R D} {mn : Str} {o : Expr} {pl : Sem Bool} {apos pos : Pos} {fr : NW.Env → R D} (cm : CalM X.prog X.w X.K X.mg X.base G c mn k (spP X.K G 1 .fz m)) (hr : Room j X.A) (tk : Takes X W)
    (ho : GB X G W O oo o fr) (hk : k ≤ j := by decide)
    (ht : eval (.Call (.Attribute o mn apos) [] [] pos) X.env = (do
      let ov ← eval o X.env
      standAt apos.atName
      let (f, first) ← holding [ov] (getMethod ov mn pl)
      callWith pos f first (backTo pos (starEach [] X.env)) (backToKw pos (keywordEach [] X.env))) := by rfl) :
    GB X G W O .fz (.Call (.Attribute o mn apos) [] [] pos) (methD c (fun ds => scalR (m ds)) fr nilA) := by
  obtain ⟨fa, fd, ps, F1, cl, hm, hb⟩ := cm.ex
  obtain ⟨u, po, iu⟩ := ho
  refine ⟨_, pe_methS0 (E := WE W) po cl hm F1 (hr.mono hk) hb (passAt tk) ht, fun F σ H ρ Q s k => ?_⟩
  refine imp_seq (ta := u) iu s k fun d F1 H1 x A e1 r1 k1 => ?_
  split at k1
  · rename_i hc
    obtain ⟨fs, rfl⟩ := isC_inv hc
    obtain ⟨a, dx, vs, B, ex, ha, hl, rl⟩ := r1.objE
    refine ⟨a, dx, _, ex, ha, zip_no cm.no, ?_⟩
    refine sp_lent (os := [oo]) (ds := [.obj c fs]) e1.fi rfl ?_ k1
    unfold RpA
    exact ⟨.obj c fs, x, A, [], [], rfl, rfl, r1, by unfold RpA; exact ⟨rfl, rfl⟩⟩
  · exact (show False from k1).elim
/-- o.m(..), a new thing of its own handed out by an object of ours: twin() -/
theorem gn_methT0 {k j c : Nat} {oo ro : Ow} {m : List D → R D} {mn : Str} {o : Expr} {pl : Sem Bool} {apos pos : Pos} {fr : NW.Env → R D} (cm : CalM X.prog X.w X.K X.mg X.base G c mn k (spP X.K G 1 ro m)) (hr : Room j X.A) (tk : Takes X W)
    (ho : GB X G W O .fz o fr) (hk : k ≤ j := by decide)
    (ht : eval (.Call (.Attribute o mn apos) [] [] pos) X.env = (do
      let ov ← eval o X.env
      standAt apos.atName
      let (f, first) ← holding [ov] (getMethod ov mn pl)
      callWith pos f first (backTo pos (starEach [] X.env)) (backToKw pos (keywordEach [] X.env))) := by rfl) :
    GN X G W O ro (.Call (.Attribute o mn apos) [] [] pos) (methD c m fr nilA) := gn_meth0 cm hr tk ho hk ht
/-! properties -/
def noX : R D → R D
  | .ok d => .ok d
  | _ => .st
def propD (c : Nat) (m : List D → R D) (fr : NW.Env → R D) : NW.Env → R D := fun ρ => (fr ρ).bind fun r => if isC c r then noX (m [r]) else .st
theorem passE0 {X : Cx} : Passes (L2.CX X.prog X.w) X.nox E0 := fun _ _ _ _ _ _ _ h => by
  obtain ⟨_, _, _, _, _, _, _, _, _, _, _, _, z⟩ := h
  exact z.elim
theorem kn_nox {K : PySem.W.Frag} {Q : VK} {r : R D} {o : Ow} (k : KB K G W .fz F σ H Q (noX r)) : KN K G (WE0 E0) .fz F [] H Q r := by
  cases r with
  | ok d => exact fun F' H' v A e r _ _ => k F' H' v A e r
  | ex c fs => exact (show False from k).elim
  | st => exact k
theorem gb_prop {k j c : Nat} {m : List D → R D} {mn : Str} {o : Expr} {pos : Pos} {fr : NW.Env → R D} (cp : CalP X.prog X.w X.K X.mg X.base G c mn k (spP X.K G 1 .fz m)) (hr : Room j X.A)
    (ho : GB X G W O .fz o fr) (hk : k + 1 ≤ j := by decide) (hab : attributeBase o mn X.env (eval o X.env) = eval o X.env := by rfl) : GB X G W O .fz (.Attribute o mn pos) (propD c m fr) := by
  obtain ⟨p, g, fd, ps, F1, cl, hp, hb⟩ := cp.ex
  obtain ⟨u, po, iu⟩ := ho
  refine ⟨_, pe_prop (dvs := []) (E := E0) po cl hp F1 (hr.mono hk) hb .nil passE0 hab, fun F σ H ρ Q s k => ?_⟩
  refine imp_seq (ta := u) iu s k fun d F1 H1 x A e1 r1 k1 => ?_
  split at k1
  · rename_i hc
    obtain ⟨fs, rfl⟩ := isC_inv hc
    have q := (rpo_fz.mp r1).2
    have q' := q
    unfold Rp at q
    obtain ⟨a, vs, ex, ⟨fa, dx, ha⟩, hl, rs⟩ := q
    subst ex
    exact ⟨a, dx, _, rfl, ha, F1, [.obj c fs], e1.fi, rfl, rps_cons q' rps_nil, kn_nox (o := .fz) k1⟩
  · exact (show False from k1).elim
/-! a new object -/
def mkR : RM → R D
  | .ok .non s => .ok s
  | .ex c fs _ => .ex c fs
  | _ => .st
def makeD (c : Nat) (m : D → List D → RM) (fa : NW.Env → R (List D)) : NW.Env → R D := fun ρ => (fa ρ).bind fun ds => mkR (m (.obj c []) ds)
theorem gn_make {n k j c : Nat} {m : D → List D → RM} {x : Str} {p pos : Pos} {e : Expr} {es : List Expr} {os : List Ow} {f : NW.Env → R (List D)} (cc : CalC X.prog X.w X.K X.mg X.base G c x k (spM X.K G n m)) (hr : Room j X.A) (tk : Takes X W) (ha : GA X G W O os (e :: es) f)
    (hk : k + 1 ≤ j := by decide) (hz : allFz os = true := by rfl) (hn : os.length = n := by rfl) (hg : Gl X x := by rfl) (hdb : (x == ("__debug__" : Str)) = false := by decide) (he : starEach (e :: es) X.env = (false, eval e X.env) :: starEach es X.env := by rfl) (hpl : (backTo pos (starEach es X.env)).any (·.1) = false := by rfl) :
    GN X G W O (.own .fz) (.Call (.Name x p) (e :: es) [] pos) (makeD c m f) := by
  obtain ⟨fa, fd, ps, F1, hm, mk, hb⟩ := cc.ex
  obtain ⟨t, pa, i⟩ := ha
  refine ⟨_, pe_makeS (E := WE W) mk F1 (hr.mono hk) hg hm hb (passAt tk) pa hdb he hpl, fun F σ H ρ Q s k => ?_⟩
  refine imp_A2N (ta := t) i s k fun ds F1 H1 vs e1 r k1 => ?_
  intro xa dx hx hdx hne
  obtain ⟨r1, hl⟩ := rpa_all r hz
  have x1 : Ex F1 H1 F1 (upd H1 dx (.own xa)) := Ex.laid e1.fi hdx
  have hx1 : (upd H1 dx (.own xa)) xa = none := by rw [upd_ne (Ne.symm hne)]; exact hx
  have x2 : Ex F1 H1 F1 (upd (upd H1 dx (.own xa)) xa (.ins (G.cls c) dx [])) := x1.trans (Ex.laid x1.fi hx1)
  have nf : ¬ F1 xa := fun z => by
    obtain ⟨u, q⟩ := e1.fi xa z
    rw [hx] at q
    cases q
  refine ⟨F1, .obj c [], ds, xa, vs, rfl, x2.fi, nf, ?_, hl.trans hn, r1.ex x2, ?_⟩
  · unfold RpO
    exact ⟨xa, [], [], rfl, rfl, ⟨dx, by rw [upd_same, List.zip_nil_right]⟩, Nat.zero_le _, by unfold RpL; exact ⟨rfl, rfl⟩⟩
  · have back : ∀ {F' : Fr} {H' : Hp}, ExM [xa] F1 (upd (upd H1 dx (.own xa)) xa (.ins (G.cls c) dx [])) F' H' → Ex F1 H1 F' H' := fun {F' H'} z =>
      { fr := z.fr
        hp := fun a o h => z.hp a o (x2.hp a o h) (fun q => by rw [List.mem_singleton] at q; subst q; rw [hx] at h; cases h)
        nw := fun a h => by
          rcases z.nw a h with q | q | q
          · exact .inl q
          · exact .inr (x2.none q)
          · rw [List.mem_singleton] at q
            subst q
            exact .inr hx
        fi := z.fi }
    revert k1
    cases m (.obj c []) ds with
    | ok d s' =>
      intro k1 F' H' v z nf' rv ro
      cases d <;> first | exact (show False from k1).elim | skip
      refine ⟨rp_non.mp rv, k1 F' H' (.ref xa) [xa] (back z) ro (List.nodup_cons.mpr ⟨by simp, List.nodup_nil⟩) fun a ha => ?_⟩
      rw [List.mem_singleton] at ha
      subst ha
      exact ⟨hx, nf'⟩
    | ex c2 fs s' => exact fun k1 F' H' dd z nf' ro xr => k1 F' H' dd (back z) xr
    | st => exact fun k1 => k1

/-! ### calls that change an object of ours -/
inductive RE where
  | ok (d : D) (ρ : NW.Env) | ex (c : Nat) (fs : List D) (ρ : NW.Env) | st
def KE (K : PySem.W.Frag) (G : Gb) (W : WX) (γ : Gh) (O : List Ow) (σ : St) (Q : VK) : RE → Prop
  | .ok d ρ => ∀ F' H' v, ST K G γ O F' σ H' ρ → Rp K G F' H' d v → Q v H'
  | .ex c fs ρ => ∀ F' H' dd, ST K G γ O F' σ H' ρ → XR K G F' H' c fs dd → W (.ref (G.cls c)) dd σ H'
  | .st => False
def ImpM (K : PySem.W.Frag) (G : Gb) (W : WX) (O : List Ow) (t : TE) (f : NW.Env → RE) : Prop := ∀ γ F σ H ρ Q, ST K G γ O F σ H ρ → KE K G W γ O σ Q (f ρ) → t σ H Q
def GM (X : Cx) (G : Gb) (W : WX) (O : List Ow) (e : Expr) (f : NW.Env → RE) : Prop := ∃ t, PE X e t ∧ ImpM X.K G W O t f
def objAt (c : Nat) (ρ : NW.Env) (i : Nat) (g : List D → RE) : RE := match ρ[i]? with
  | some (some (D.obj c' vs)) => if c' = c then g vs else .st
  | _ => .st
def reM (i : Nat) (ρ : NW.Env) : RM → RE
  | .ok d s => .ok d (ρ.set i (some s))
  | .ex c fs s => .ex c fs (ρ.set i (some s))
  | .st => .st
def R.re {α : Type} : R α → NW.Env → (α → RE) → RE
  | .ok a, _, g => g a
  | .ex c fs, ρ, _ => .ex c fs ρ
  | .st, _, _ => .st
def methM (i c : Nat) (m : D → List D → RM) (fa : NW.Env → R (List D)) : NW.Env → RE := fun ρ => objAt c ρ i fun vs => (fa ρ).re ρ fun ds => reM i ρ (m (.obj c vs) ds)
/-- a callee has changed the object of slot i -/
theorem ST.called {K : PySem.W.Frag} {i : Nat} {d s : D} {p : Addr} (h : ST K G γ O F σ H ρ) (ho : O[i]? = some (.own .fz)) (hd : ρ[i]? = some (some d)) (hv : σ[i]? = some (some (.ref p))) (h1 : ∀ A, RpO K G F H (.own .fz) d (.ref p) A → A = [p]) (z : ExM [p] F H F' H') (nf : ¬ F' p) (r : RpO K G F' H' (.own .fz) s (.ref p) [p]) :
    ST K G γ O F' σ H' (ρ.set i (some s)) := by
  obtain ⟨As, q, own⟩ := h.sl
  rcases q.sl i _ ho with ⟨y, _⟩ | ⟨y, _⟩ | ⟨d0, v0, z1, z2, r0⟩
  · cases y
  · rw [hd] at y; cases y
  rw [hd] at z1
  rw [hv] at z2
  cases z1
  cases z2
  have eA := h1 _ r0
  have hpi : p ∈ As i := by rw [eA]; exact List.mem_cons_self
  have npF : ¬ F p := (q.nf i p hpi).1
  have kp : Keep F H F' H' := ⟨z.fr, fun a o ha e => z.hp a o e (fun y => by rw [List.mem_singleton] at y; subst y; exact npF ha)⟩
  have hil : i < O.length := (List.getElem?_eq_some_iff.mp ho).1
  refine ⟨{ fr := fun a y => z.fr a (h.ex.fr a y), hp := fun a o y m => z.hp a o (h.ex.hp a o y m) (fun y2 => ?_), al := fun a o y => ?_, nw := fun a y => ?_, fi := z.fi }, γ.hC _ _ _ _ h.cs kp, h.me, As, ⟨by simp [q.lr], q.ls, fun j oj hj => ?_, q.dj, q.nd, fun j a ha => ?_⟩, own⟩
  · rw [List.mem_singleton] at y2
    subst y2
    rcases own i a hpi with y3 | y3
    · rw [y] at y3; cases y3
    · exact m y3
  · obtain ⟨u, hu⟩ := h.ex.al a o y
    exact z.al a u hu
  · rcases z.nw a y with y1 | y1 | y1
    · exact h.ex.nw a y1
    · refine .inr (.inl ?_)
      cases e : γ.B a with
      | none => rfl
      | some o =>
        obtain ⟨u, hu⟩ := h.ex.al a o e
        rw [y1] at hu
        cases hu
    · rw [List.mem_singleton] at y1
      subst y1
      exact absurd y nf
  · rw [set_at]
    by_cases hij : i = j
    · subst hij
      rw [ho] at hj
      cases hj
      rw [if_pos rfl, if_pos (by rw [q.lr]; exact hil)]
      refine .inr (.inr ⟨s, .ref p, rfl, hv, ?_⟩)
      rw [eA]
      exact r
    · rw [if_neg hij]
      rcases q.sl j oj hj with y | y | ⟨dj, vj, y1, y2, y3⟩
      · exact .inl y
      · exact .inr (.inl y)
      · refine .inr (.inr ⟨dj, vj, y1, y2, RpO.mono z.fr oj (fun a u ha e => z.hp a u e (fun y4 => ?_)) y3⟩)
        rw [List.mem_singleton] at y4
        subst y4
        rcases ha with ha | ha
        · exact npF ha
        · exact hij (q.dj i j a hpi ha)
  · obtain ⟨y1, u, y2⟩ := q.nf j a ha
    by_cases e : a = p
    · subst e
      exact ⟨nf, r.some_ _ a List.mem_cons_self⟩
    · refine ⟨fun y => ?_, z.al a u y2⟩
      rcases z.nw a y with y3 | y3 | y3
      · exact y1 y3
      · rw [y2] at y3; cases y3
      · exact e (List.mem_singleton.mp y3)
theorem own_obj {K : PySem.W.Frag} {c : Nat} {ds : List D} {v : V} {A : List Addr} (h : RpO K G F H (.own .fz) (.obj c ds) v A) : ∃ p dx vs, v = .ref p ∧ A = [p] ∧ H p = some (.ins (G.cls c) dx ((G.names c).zip vs)) := by
  unfold RpO at h
  obtain ⟨p, vs, A', e1, e2, ⟨dx, hp⟩, _, hr⟩ := h
  obtain ⟨eA, _⟩ := rpl_fz.mp hr
  subst eA
  exact ⟨p, dx, vs, e1, e2, hp⟩
theorem imp_AE {os : List Ow} {ta : TA} {fa : NW.Env → R (List D)} {g : List D → RE} {Q : VK} {R' : List V → Hp → Prop} (ia : ImpA X.K G W O os ta fa) (s : ST X.K G γ O F σ H ρ) (k : KE X.K G W γ O σ Q ((fa ρ).re ρ g))
    (h : ∀ ds F' H' vs, Ex F H F' H' → RpA X.K G os F' H' ds vs → KE X.K G W γ O σ Q (g ds) → R' vs H') : ta σ H R' := by
  refine ia F σ H ρ _ s.ss ?_
  revert k
  cases fa ρ with
  | ok d => exact fun k F' H' v e r => h d F' H' v e r k
  | ex c fs => exact fun k F' H' dd e x => k F' H' dd (s.step e) x
  | st => exact fun k => k
theorem gm_meth (i : Nat) {n k j c : Nat} {m : D → List D → RM} {mn x : Str} {pl : Sem Bool} {p2 apos pos : Pos} {e : Expr} {es : List Expr} {os : List Ow} {f : NW.Env → R (List D)} (cm : CalM X.prog X.w X.K X.mg X.base G c mn k (spM X.K G n m)) (hr : Room j X.A) (tk : Takes X W)
    (ha : GA X G W O os (e :: es) f) (hk : k ≤ j := by decide) (ho : O[i]? = some (.own .fz) := by rfl) (hz : allFz os = true := by rfl) (hn : os.length = n := by rfl) (hN : X.N[i]? = some x := by rfl) (hv : Vis X.env.scope x := by first | exact Or.inl rfl | exact Or.inr (Or.inl rfl) | exact Or.inr (Or.inr rfl))
    (hd : (x == ("__debug__" : Str)) = false := by decide) (hcd : (x == ("__classdict__" : Str)) = false := by decide) (he : starEach (e :: es) X.env = (false, eval e X.env) :: starEach es X.env := by rfl) (hpl : (backTo pos (starEach es X.env)).any (·.1) = false := by rfl)
    (ht : eval (.Call (.Attribute (.Name x p2) mn apos) (e :: es) [] pos) X.env = (do
      let ov ← eval (.Name x p2) X.env
      standAt apos.atName
      let (f, first) ← holding [ov] (getMethod ov mn pl)
      callWith pos f first (backTo pos (starEach (e :: es) X.env)) (backToKw pos (keywordEach [] X.env))) := by rfl) :
    GM X G W O (.Call (.Attribute (.Name x p2) mn apos) (e :: es) [] pos) (methM i c m f) := by
  obtain ⟨fa, fd, ps, F1, cl, hm, hb⟩ := cm.ex
  obtain ⟨t, pa, ia⟩ := ha
  refine ⟨_, pe_methS (E := WE W) (pe_var hN hv hd hcd) cl hm F1 (hr.mono hk) hb (passAt tk) pa he hpl ht, fun γ F σ H ρ Q s k => ?_⟩
  unfold methM objAt at k
  split at k
  · rename_i c' vs e1
    split at k
    · rename_i hc
      subst hc
      obtain ⟨v, A, h1, h2, h3, h4⟩ := s.at_ ho (by decide) e1
      obtain ⟨p, dx, ws, ev, eA, hp⟩ := own_obj h2
      subst ev eA
      refine ⟨.ref p, h1, p, dx, _, rfl, hp, zip_no cm.no, ?_⟩
      refine imp_AE (ta := t) ia s k fun ds F2 H2 vs2 e2 r k2 => ?_
      obtain ⟨r2, hl⟩ := rpa_all r hz
      have s2 := s.step e2
      have nf : ¬ F2 p := fun y => by
        rcases e2.nw p y with y | y
        · exact h4 p List.mem_cons_self y
        · rw [hp] at y; cases y
      have one : ∀ A, RpO X.K G F2 H2 (.own .fz) (.obj c' vs) (.ref p) A → A = [p] := fun A y => by
        obtain ⟨p', _, _, y1, y2, _⟩ := own_obj y
        cases y1
        exact y2
      refine ⟨F2, .obj c' vs, ds, p, vs2, rfl, e2.fi, nf, h2.ex e2, hl.trans hn, r2, ?_⟩
      revert k2
      cases m (.obj c' vs) ds with
      | ok d s' => exact fun k2 F' H' v z nf' rv ro => k2 F' H' v (s2.called ho e1 h1 one z nf' ro) rv
      | ex c2 fs s' => exact fun k2 F' H' dd z nf' ro xr => k2 F' H' dd (s2.called ho e1 h1 one z nf' ro) xr
      | st => exact fun k2 => k2
    · exact k.elim
  · exact k.elim
def RE.out : RE → (D → NW.Env → Out) → Out
  | .ok d ρ, g => g d ρ
  | .ex c fs ρ, _ => .ex c fs ρ
  | .st, _ => .st
@[simp] theorem RE.out_ok (d : D) (ρ : NW.Env) (g : D → NW.Env → Out) : (RE.ok d ρ).out g = g d ρ := rfl
@[simp] theorem RE.out_ex (c : Nat) (fs : List D) (ρ : NW.Env) (g : D → NW.Env → Out) : (RE.ex c fs ρ).out g = .ex c fs ρ := rfl
@[simp] theorem RE.out_st (g : D → NW.Env → Out) : (RE.st).out g = .st := rfl
theorem stm_M {t : TE} {f : NW.Env → RE} {g : D → NW.Env → Out} {R' : V → Hp → Prop} (i : ImpM X.K G W O t f) (h : ST X.K G γ O F σ H ρ) (l : leO O Z.xo = true) (k : KS X.K G W Z γ O' E ((f ρ).out g))
    (c : ∀ d ρ' F' H' v, ST X.K G γ O F' σ H' ρ' → Rp X.K G F' H' d v → KS X.K G W Z γ O' E (g d ρ') → R' v H') : t σ H R' := by
  refine i γ F σ H ρ _ h ?_
  revert k
  cases f ρ with
  | ok d ρ' => exact fun k F' H' v s r => c d ρ' F' H' v s r k
  | ex cc fs ρ' =>
    intro k F' H' dd s x
    obtain ⟨F2, hf, h2⟩ := s.weak l
    exact k F2 σ H' dd h2 (x.mono hf)
  | st => exact fun k => k
def exprM (f : NW.Env → RE) : NW.Env → Out := fun ρ => (f ρ).out fun _ ρ' => .nx ρ'
theorem gs_exprM {e : Expr} {pos : Pos} {f : NW.Env → RE} (h : GM X G W O e f) (l : leO O Z.xo = true := by rfl) (hs : swapsWith e none pos.line X.env = pure false := by rfl) : GS X G W Z O O (.Expr e pos) (exprM f) := by
  obtain ⟨t, p, j⟩ := h
  exact ⟨_, ps_expr p hs, fun γ F σ H ρ E s k => stm_M (t := t) j s l k fun d ρ' F' H' v s' r k1 => k1 F' σ H' s'⟩
def ifM (f : NW.Env → RE) (a b : NW.Env → Out) : NW.Env → Out := fun ρ => (f ρ).out fun d ρ' => if isNon d then b ρ' else a ρ'
/-- if o.m(..) is not None -/
theorem gs_ifM {e : Expr} {a b : List Stmt} {j : Nat} {pos p2 p3 : Pos} {f : NW.Env → RE} {fa fb : NW.Env → Out} (h : GM X G W O e f) (ha : GSs X G W Z O O' a fa) (hb : GSs X G W Z O O' b fb) (l : leO O Z.xo = true := by rfl) : GS X G W Z O O' (.If (.Compare e [.IsNot] [.Constant .none j p2] p3) a b pos) (ifM f fa fb) := by
  obtain ⟨t, p, i⟩ := h
  obtain ⟨ta, pa, ia⟩ := ha
  obtain ⟨tb, pb, ib⟩ := hb
  refine ⟨_, ps_if (pt_cmpR op_notN p pe_non (nomark _)) pa pb, fun γ F σ H ρ E s k => stm_M (t := t) i s l k fun d ρ' F' H' v s' r k1 => ?_⟩
  refine ⟨rfl, _, rfl, ?_⟩
  rw [(rpo_of r).nonE]
  revert k1
  cases isNon d with
  | true => exact fun k1 => iteF (ib γ F' σ H' ρ' E s' k1)
  | false => exact fun k1 => iteT (ia γ F' σ H' ρ' E s' k1)
end
end NW
end

section
set_option Elab.async false
set_option linter.all false
set_option maxRecDepth 100000
/-! NWn: list comprehensions that an exception may leave. -/
namespace NW
open PySem PySem.Spec L2 PySem.HandSPX
open PyProof.Rows hiding St

section
variable {M : Model} {A : Around} {E : Value → Shared → Prop} {env : PySem.Env} {outer l : List PySem.Env} {L L' a : Addr} {Z : Obj → Prop} {B : Heap} {s : Shared}
/-- an exception that another frame holds is noted by this one -/
theorem look_heldZ {Q : Unit → Shared → Prop} (hZ : Steady Z) (hfr : A.frames = some (env :: outer)) (hf : env.frame = some L) (hne : L' ≠ L) (hfl : HeldZ B (env :: outer) a Z L' s.heap)
    (hQ : ∀ h', HeldZ B (env :: outer) a Z L h' → s.heap.UpToSlots h' → Q () { s with heap := h' }) : wpAny M A (noteFrame (.ref a) env) Q E s := by
  obtain ⟨hkb, hen, hl, oe, vs, T, oT, ts, he, hz, hd, h1, hnT, hTe, hT, hdT, h3⟩ := hfl
  unfold noteFrame
  simp only [hf]
  refine wpAny_bind (wpAny_field he hd h1 ?_)
  rw [if_pos (show (Value.ref T != Value.none) = true from by simp)]
  refine wpAny_bind (wpAny_field hT hdT h3 ?_)
  rw [if_neg (show ¬ ((rawInt L' == rawInt L) = true) from by
    intro z
    have z : rawInt L' = rawInt L := by simpa using z
    apply hne
    exact_mod_cast (show (L' : Int) = (L : Int) by simpa [rawInt] using z))]
  refine wpAny_bind (wpAny_setField hT hdT (Array.getElem?_eq_some_iff.mp h3).1 ?_)
  have other : ∀ b, b ≠ T → (s.heap.update T (Obj.mapFields (·.setIfInBounds 3 Value.none))).get? b = s.heap.get? b := fun b hb => Heap.get?_update_other _ _ (Ne.symm hb)
  have noRecord : ∀ b o, s.heap.get? b = some o → (∀ vs, o.data ≠ .fields vs) → b ≠ T := fun b o hb hnf q => by
    rw [q, hT] at hb; injection hb with hb; subst hb; exact hnf ts hdT
  refine wpAny_entryZ hZ hfr (hl.of_keeps fun b o hb hnf => ⟨o, (other b (noRecord b o hb hnf)).trans hb, rfl⟩) hf ((other a (Ne.symm hTe)).trans he)
    (fun b o hbo => (other b fun q => by rw [q, hnT] at hbo; cases hbo).trans (hkb b o hbo)) hen hd (Array.getElem?_eq_some_iff.mp h1).1 hz fun h' hN => ?_
  obtain ⟨x1, x2, x3, x4⟩ := hN
  exact hQ h' ⟨x1, hen, x2, x3⟩ fun b o hb hnf => x4 b o ((other b (noRecord b o hb hnf)).trans hb) hnf
theorem note_sky {Q : Unit → Shared → Prop} (hZ : Steady Z) (hfr : A.frames = some (env :: outer)) (hf : env.frame = some L) (x : Sky B (env :: outer) a Z L' s.heap)
    (hQ : ∀ h', HeldZ B (env :: outer) a Z L h' → s.heap.UpToSlots h' → Q () { s with heap := h' }) : wpAny M A (noteFrame (.ref a) env) Q E s := by
  rcases x with ⟨hB, hn, hl, oe, vs, he, hz, hd, h1⟩ | fl | hh
  · exact look_newZ hZ hfr hl hf he hB hn hd h1 hz hQ
  · exact looks_onZ hZ hfr hf fl hQ
  · by_cases e : L' = L
    · subst e
      exact againZ hf hh.2.2.2 (hQ s.heap hh (Heap.UpToSlots.refl _))
    · exact look_heldZ hZ hfr hf e hh hQ
theorem noteFrame_same {env env' : PySem.Env} (h : env'.frame = env.frame) (x : Value) : noteFrame x env' = noteFrame x env := by
  unfold noteFrame PySem.frameOf
  rw [h]
end

theorem frames_but {h h' B B' : Heap} {C : Addr} (hne : ∀ b, b ≠ C → h'.get? b = h.get? b) (hB : ∀ b, b ≠ C → B'.get? b = B.get? b) : ∀ l : List PySem.Env, C ∉ frs l → h.FunFrames B l → h'.FunFrames B' l
  | [], _, _ => trivial
  | env :: l, hC, hl => by
    obtain ⟨hk, ⟨L, o, hf, hn, ho, hd⟩, hr⟩ := hl
    have e : frs (env :: l) = L :: frs l := by
      show List.filterMap (·.frame) (env :: l) = _
      rw [List.filterMap_cons, hf]
      rfl
    rw [e] at hC
    have hL : L ≠ C := fun z => hC (z ▸ List.mem_cons_self)
    exact ⟨hk, ⟨L, o, hf, by rw [hB L hL]; exact hn, by rw [hne L hL]; exact ho, hd⟩, frames_but hne hB l (fun z => hC (List.mem_cons_of_mem _ z)) hr⟩

/-- the context of a block that starts at s and may let an exception out -/
abbrev blkx (X : Cx) (s : Shared) (H : Hp) (scope : Scope) (cenv : PySem.Env) (fp : List Addr) (xe : Value → Shared → Prop) : Cx := { X.blk s H scope cenv fp with xe := xe }
section
variable {X : Cx} {pins : List (Addr × Obj)} {σ : St} {H H3 : Hp} {s s3 : Shared} {W : WX}
/-- what leaves the block is taken by the def -/
theorem takes_blk {scope : Scope} {ce : PySem.Env} {fp : List Addr} {xe : Value → Shared → Prop} (hs : X.stack = X.env :: X.outer) (hf : X.env.frame = some X.env.locals) (hcf : ce.frame = X.env.frame) (cL : ce.locals = s3.heap.objs.size) (I3 : Inv X pins σ H3 s3)
    (f3 : ∀ b ∈ fp, FpOk X pins H3 b) (tk : Takes X W) {E' : Value → Shared → Prop} (hx : xe = notedBy (model X.prog X.w) X.A ce E') (hE : ∀ e s', CompFails (model X.prog X.w) X.A X.xe ce e s' → E' e s') : Takes (blkx X s3 H3 scope ce fp xe) (fun cls d _ H => W cls d σ H) := by
  rintro u s' ⟨a, B, sI, pins', σ', H', cls, d, rfl, I, nb, up, sky, na, os, ag, w⟩
  have nb : ∀ b o, sI.heap.get? b = some o → b ∉ frs X.stack → B.get? b = some o := nb
  have sky : Sky B X.stack a (Zc cls d) ce.locals s'.heap := sky
  have hfr : X.A.frames = some (X.env :: X.outer) := by rw [I3.ok.frames, hs]
  show xe (.ref a) s'
  rw [hx]
  show wpAny _ _ (noteFrame (.ref a) ce) _ _ _
  rw [noteFrame_same hcf]
  rw [hs] at sky
  refine note_sky Zc.steady hfr hf sky fun h1 hh up1 => hE _ _ ?_
  -- the block's own place
  have IX : Inv X pins σ H' sI := I3.call' (ch := fp) I.os I.base I.hok I.bare fun b hb => ⟨(f3 b hb).2.2.2.1, (f3 b hb).2.1, (f3 b hb).2.2.2.2.1, (f3 b hb).2.2.2.2.2⟩
  have nC : H' s3.heap.objs.size = none := by
    have z : H' ce.locals = none := I.free
    rw [cL] at z
    exact z
  have fC : FpOk X pins H' s3.heap.objs.size := I3.fpOk (Nat.le_refl _) nC
  have cnf : s3.heap.objs.size ∉ frs X.stack := fun z => by
    rcases List.mem_cons.mp (I3.stkSub _ z) with z | z
    · exact fC.2.1 z
    · exact fC.2.2.1 z
  obtain ⟨m, hm, _⟩ := I.loc
  have hm : sI.heap.Ns ce.locals m := hm
  rw [cL] at hm
  generalize hC : s3.heap.objs.size = C at *
  -- its object
  have hm0 := hm
  obtain ⟨oC, es, ep, hoC, hdC, _⟩ := hm
  have nfC : ∀ vs, oC.data ≠ .fields vs := fun vs z => by rw [hdC] at z; cases z
  have hBC : B.get? C = some oC := nb C oC hoC cnf
  obtain ⟨h1a, h1b, h1c, h1d⟩ := hh
  have h1C : h1.get? C = some oC := h1a C oC hBC
  refine ⟨m, by
    rw [cL]
    exact ⟨oC, es, ep, h1C, hdC, by assumption⟩, fun h2 m2 hn2 sb2 => ?_⟩
  rw [cL] at hn2 sb2
  have sb2 : Heap.SameBut C h1 h2 := sb2
  obtain ⟨o2, es2, ep2, ho2, hd2, _⟩ := hn2
  have nf2 : o2.isFreed = false := (Heap.get?_some_iff.mp ho2).2
  have hne : ∀ b, b ≠ C → h2.get? b = h1.get? b := sb2.2
  -- the ground with the place as it is now
  have b2 : ∀ b, b ≠ C → (B.update C fun _ => o2).get? b = B.get? b := fun b hb => Heap.get?_update_other _ _ (Ne.symm hb)
  have b2C : (B.update C fun _ => o2).get? C = some o2 := Heap.get?_update_self (fun _ => o2) hBC nf2
  have i2 : ∀ b, b ≠ C → (sI.heap.update C fun _ => o2).get? b = sI.heap.get? b := fun b hb => Heap.get?_update_other _ _ (Ne.symm hb)
  have i2C : (sI.heap.update C fun _ => o2).get? C = some o2 := Heap.get?_update_self (fun _ => o2) hoC nf2
  have aC : a ≠ C := fun z => by rw [z, hBC] at h1b; cases h1b
  have hh2 : HeldZ (B.update C fun _ => o2) X.stack a (Zc cls d) X.env.locals h2 := by
    rw [hs]
    refine ⟨fun b o e => ?_, by rw [b2 a aC]; exact h1b, ?_, ?_⟩
    · by_cases hb : b = C
      · subst hb
        rw [b2C] at e
        rw [← e]; exact ho2
      · rw [b2 b hb] at e
        rw [hne b hb]
        exact h1a b o e
    · exact frames_but hne b2 _ (by rw [hs] at cnf; exact cnf) h1c
    · obtain ⟨oe, vs, T, oT, ts, he, hz, hd, hv1, hnT, hTe, hT, hdT, hv3⟩ := h1d
      have TC : T ≠ C := fun z => by rw [z, hBC] at hnT; cases hnT
      exact ⟨oe, vs, T, oT, ts, by rw [hne a aC]; exact he, hz, hd, hv1, by rw [b2 T TC]; exact hnT, hTe, by rw [hne T TC]; exact hT, hdT, hv3⟩
  unfold PySem.passOn
  have hh3 := hh2
  obtain ⟨_, _, _, oe, vs, T, oT, ts, he, hz, hd, hv1, hnT, hTe, hT, hdT, hv3⟩ := hh3
  refine wpAny_bind (wpAny_field he hd hv1 ?_)
  rw [if_neg (show ¬ ((Value.ref T == Value.none) = true) from by simp)]
  rw [hcf, hf]
  refine wpAny_bind (setFlight_onZ hh2 fun h4 hh4 up4 => ?_)
  refine wpAny_throw ?_
  refine tk _ _ ⟨a, _, { sI with heap := sI.heap.update C fun _ => o2 }, pins, σ, H', cls, d, rfl, ?_, ?_, ?_, .inr (.inr hh4), na, os, ag, w⟩
  · exact IX.turned (t' := sI.toks) (fun b o hb e => (i2 b hb).trans e) fC.1 fC.2.1 fC.2.2.2.1 fC.2.2.2.2.1 fC.2.2.2.2.2
  · intro b o e hb
    by_cases hbC : b = C
    · subst hbC
      have e : (sI.heap.update b fun _ => o2).get? b = some o := e
      rw [i2C] at e; rw [← e]
      exact b2C
    · have e : (sI.heap.update C fun _ => o2).get? b = some o := e
      rw [i2 b hbC] at e
      rw [b2 b hbC]
      exact nb b o e hb
  · intro b o e hnf
    have e : (sI.heap.update C fun _ => o2).get? b = some o := e
    show ∃ sl, h4.get? b = some { o with slots := sl }
    by_cases hbC : b = C
    · subst hbC
      rw [i2C] at e; cases e
      obtain ⟨sl, q⟩ := up4 _ _ ho2 hnf
      exact ⟨sl, q⟩
    · rw [i2 b hbC] at e
      obtain ⟨sl1, q1⟩ := up b o e hnf
      obtain ⟨sl2, q2⟩ := up1 b _ q1 hnf
      rw [← hne b hbC] at q2
      obtain ⟨sl3, q3⟩ := up4 b _ q2 hnf
      exact ⟨sl3, q3⟩

abbrev WAt (W : WX) (σ : St) : WX := fun c d _ H => W c d σ H
def tLcX (W : WX) (wi : TI) (g : TG) (tt : WX → TT) (te : WX → TE) (vs : List Nat) : TE := fun σ H Q => tLc wi g (tt (WAt W σ)) (te (WAt W σ)) vs σ H Q
theorem lc_coreX {Q : VK} {elt tg iter : Expr} {ifs : List Expr} {scope : Scope} {own : List (Str × Nat)} {pos pos' : Pos} {wi : TI} {g : TG} {tt : WX → TT} {te : WX → TE} {use : Option (Value → Sem Unit)} {Qf : Value → Shared → Prop}
    (hs0 : X.stack = X.env :: X.outer) (hf0 : X.env.frame = some X.env.locals) (tk : Takes X W)
    (hc : X.calm = true) (hN : X.N.Nodup) (I : Inv X pins σ H s) (hi : PI X tg iter wi) (ok : BlkOk X.N X.env.scope scope own)
    (hg : ∀ (s : Shared) (H : Hp) (C : Addr) (cl : List (Str × Addr)) (fp : List Addr) xe, PG (blkx X s H scope (compEnvC scope cl C X.env) fp xe) tg g)
    (ht : ∀ (s : Shared) (H : Hp) (C : Addr) (cl : List (Str × Addr)) (fp : List Addr) xe W', Takes (blkx X s H scope (compEnvC scope cl C X.env) fp xe) W' → PTs (blkx X s H scope (compEnvC scope cl C X.env) fp xe) ifs (tt W'))
    (he : ∀ (s : Shared) (H : Hp) (C : Addr) (cl : List (Str × Addr)) (fp : List Addr) xe W', Takes (blkx X s H scope (compEnvC scope cl C X.env) fp xe) W' → PE (blkx X s H scope (compEnvC scope cl C X.env) fp xe) elt (te W'))
    (hs : ∀ x, foldedSetIterable iter X.env x = pure x)
    (h : tLcX W wi g tt te (own.map (·.2)) σ H Q)
    (hRR : ∀ D cenv s' m H', Inv X pins σ H' s' → Q (.ref D) H' → s'.heap.Ns cenv.locals m → FpOk X pins H' cenv.locals → compEnds (model X.prog X.w) X.A X.xe use Qf (.ref D) cenv (.ok .next) s') :
    wpAny (model X.prog X.w) X.A (comprehension (.ListComp elt [⟨tg, iter, ifs, 0⟩] scope pos) scope X.env pos' (newList []) false (eval iter X.env) use) Qf X.xe s := by
  have hfree : ∀ y ∈ scope.names, y.2 = .free → ∃ c, X.env.cells.lookup y.1 = some c := fun y hy e => by
    rcases ok.free y hy e with k | k
    · exact I.ok.has _ (.inl k)
    · exact I.ok.has _ (.inr k)
  refine comprehension_at (use := use) rfl hs (closure_ok hfree) ok.kind (fun y hy e => by rw [ok.uniq y hy, e])
    (thn (hi.run pins s σ H _ I h) fun xv s1 hx => thn hx fun itv s2 h2 => ?_)
  obtain ⟨it, fp, tn, J, H2, e, I2, T, st2, f2, q⟩ := h2
  subst e
  refine wpAny_newObj_type (newEnv_comp ?_) (by show 0 ≤ sizeLine; decide)
  generalize hD : s2.heap.objs.size = D
  have hDn : H2 D = none := I2.hok.fresh (Nat.le_of_eq hD)
  obtain ⟨Wm, ⟨m0, w0⟩, turn⟩ := q D hDn
  -- the new list
  generalize hs3 : ({ s2 with heap := s2.heap.push { cls := .type "list", data := .seq ([] : List Value).toArray } } : Shared) = s3
  have I3 : Inv X pins σ (upd H2 D (.lst [])) s3 := by
    rw [← hs3]
    refine I2.laid (t' := s2.toks) (fun b o e => Heap.get?_push_of_some _ e) (Nat.le_of_eq hD) ⟨Nat.zero_le _, [], 0, .nil, ?_⟩
    rw [← hD]
    exact Heap.get?_push_size _ rfl
  have h3 : s3.heap = s2.heap.push { cls := .type "list", data := .seq ([] : List Value).toArray } := by rw [← hs3]
  have sz : ∀ b ∈ fp, b < s2.heap.objs.size := fun b hb => by
    obtain ⟨o, e, _⟩ := T.obj _ _ st2 b hb
    exact Heap.lt_size e
  have f3 : ∀ b ∈ fp, FpOk X pins (upd H2 D (.lst [])) b ∧ b < s3.heap.objs.size := fun b hb => by
    have hlt := sz b hb
    refine ⟨⟨?_, (f2 b hb).2⟩, by rw [h3, Heap.size_push]; exact Nat.lt_succ_of_lt hlt⟩
    rw [upd_ne (by rw [← hD]; exact Nat.ne_of_lt hlt)]
    exact (f2 b hb).1
  have st3 : tn 0 s3.heap := T.keep _ _ _ st2 fun b _ o e => by rw [h3]; exact Heap.get?_push_of_some _ e
  have I4 := block_start I3 ok hN f3
  have pg := hg s3 (upd H2 D (.lst [])) s3.heap.objs.size (cellsFrom (s3.heap.objs.size + 1) scope.names (cloFrom X.env.cells scope.names [])) fp
  have pt := ht s3 (upd H2 D (.lst [])) s3.heap.objs.size (cellsFrom (s3.heap.objs.size + 1) scope.names (cloFrom X.env.cells scope.names [])) fp
  have pe := he s3 (upd H2 D (.lst [])) s3.heap.objs.size (cellsFrom (s3.heap.objs.size + 1) scope.names (cloFrom X.env.cells scope.names [])) fp
  show codeAny _ _ (.compStart (.ListComp elt [⟨tg, iter, ifs, 0⟩] scope pos) 0 (.ref it) (.ref D) (compEnvC scope (cellsFrom (s3.heap.objs.size + 1) scope.names (cloFrom X.env.cells scope.names [])) s3.heap.objs.size X.env)) (compEnds (model X.prog X.w) X.A X.xe use Qf (.ref D) (compEnvC scope (cellsFrom (s3.heap.objs.size + 1) scope.names (cloFrom X.env.cells scope.names [])) s3.heap.objs.size X.env)) { s3 with heap := pushCells (s3.heap.push { cls := .type "dict", data := .dict #[] }) scope.names }
  have nfp : ∀ b ∈ fp, (upd H2 D (.lst [])) b = none := fun b hb => (f3 b hb).1.1
  generalize hce : compEnvC scope (cellsFrom (s3.heap.objs.size + 1) scope.names (cloFrom X.env.cells scope.names [])) s3.heap.objs.size X.env = ce at I4 pg pt pe ⊢
  have cL : ce.locals = s3.heap.objs.size := by subst hce; rfl
  have cF : ce.frame = X.env.frame := by subst hce; rfl
  generalize hH3 : upd H2 D (.lst []) = H3 at I3 I4 pg pt pe w0 nfp f3
  generalize hs4 : ({ s3 with heap := pushCells (s3.heap.push { cls := .type "dict", data := .dict #[] }) scope.names } : Shared) = s4 at I4 ⊢
  have st4 : tn 0 s4.heap := T.keep _ _ _ st3 fun b _ o e => by rw [← hs4]; exact pushCells_keeps _ _ _ _ (Heap.get?_push_of_some _ e)
  generalize hxe : notedBy (model X.prog X.w) X.A ce (fun e s' => compEnds (model X.prog X.w) X.A X.xe use Qf (.ref D) ce (.error e) s') = xe
  have TK : Takes (blkx X s3 H3 scope ce fp xe) (WAt W σ) := takes_blk hs0 hf0 cF cL I3 (fun b hb => (f3 b hb).1) tk hxe.symm fun e s' z => by cases use <;> exact z
  have pg := pg xe
  have pt := pt xe _ TK
  have pe := pe xe _ TK
  have I4 : Inv (blkx X s3 H3 scope ce fp xe) [] (wipe σ (own.map (·.2))) H3 s4 := ⟨⟨I4.ok.mod, I4.ok.kind, I4.ok.glob, I4.ok.blt, I4.ok.above, I4.ok.inj, I4.ok.has, I4.ok.cab, I4.ok.hd, I4.ok.frames, I4.ok.stk, I4.ok.exf, I4.ok.bs, I4.ok.bsz, I4.ok.noex, I4.ok.exfs, I4.ok.funs, I4.ok.frf⟩, I4.os, I4.bare, I4.base, I4.loc, I4.cell, I4.free, I4.freeC, I4.pin, I4.hok, I4.len⟩
  have stat : ∀ {σ' : St} {H' : Hp} {s' : Shared}, Inv (blkx X s3 H3 scope ce fp xe) [] σ' H' s' → (∀ b ∈ fp, H' b = none) → ∀ b ∈ fp, FpOk (blkx X s3 H3 scope ce fp xe) [] H' b := fun {σ' H' s'} I' hn b hb =>
    ⟨hn b hb, (I'.ok.exf b hb).1, I'.ok.exfs b hb, .inl hb, fun x c e => (I'.ok.exf b hb).2 x c e, fun p hp => absurd (show p ∈ ([] : List (Addr × Obj)) ++ [] from hp) (by simp)⟩
  have loop : codeAny (model X.prog X.w) X.A (.compLoop (.ListComp elt [⟨tg, iter, ifs, 0⟩] scope pos) 0 (.ref it) (.ref D) ce) (compEnds (model X.prog X.w) X.A X.xe use Qf (.ref D) ce) s4 := by
    refine compLoop_any (fun n s' => ∃ i H', Inv (blkx X s3 H3 scope ce fp xe) [] (wipe σ (own.map (·.2))) H' s' ∧ tn i s'.heap ∧ (∀ b ∈ fp, H' b = none) ∧ Wm i n H') ?_ m0 ⟨0, H3, I4, st4, nfp, w0⟩
    rw [hxe]
    rintro n s5 ⟨i, H5, I5, st5, n5, w5⟩
    rcases turn i n H5 w5 with ⟨stop, qq⟩ | ⟨go, Nx, hNx, step⟩
    · have td := T.done (blkx X s3 H3 scope ce fp xe) rfl rfl rfl hc i [] s5 _ H5 (fun _ _ => False) I5 (stat I5 n5) st5 stop
      refine thnF td fun r s6 ⟨hr, I6⟩ => ?_
      subst hr
      -- back in the def's context
      have I7 : Inv X pins σ H5 s6 := I3.call' (ch := fp) I6.os I6.base I6.hok I6.bare fun b hb => ⟨(f3 b hb).1.2.2.2.1, (f3 b hb).1.2.1, (f3 b hb).1.2.2.2.2.1, (f3 b hb).1.2.2.2.2.2⟩
      have nC : H5 ce.locals = none := I6.free
      obtain ⟨m, hn, _⟩ := I6.loc
      have hn : s6.heap.Ns ce.locals m := hn
      refine hRR D ce s6 m H5 I7 qq hn ?_
      exact I3.fpOk (Nat.le_of_eq cL.symm) nC
    · have ti := T.item (blkx X s3 H3 scope ce fp xe) rfl rfl rfl hc i [] s5 _ H5 (fun _ _ => False) I5 (stat I5 n5) st5 go
      refine thnF ti fun r s6 ⟨u, hr, h6⟩ => ?_
      subst hr
      refine thnF h6 fun _ s7 ⟨x, H7, I7, r7, y7, st7, n7⟩ => ?_
      have I7' := I7.pinned (stat I7 n7) (T.obj _ _ st7)
      refine thn (pg.run _ s7 _ H7 x u _ I7' r7 (step x H7 y7)) fun _ s8 ⟨σ8, H8, I8, hw8, q8⟩ => ?_
      refine thn (pt.run _ s8 σ8 H8 _ I8 q8) fun b s9 ⟨H9, I9, q9⟩ => ?_
      -- the turn's end
      have fin : ∀ {s' : Shared} {H' : Hp}, Inv (blkx X s3 H3 scope ce fp xe) ([] ++ pinsAt fp s7.heap) σ8 H' s' → Nx H' → ∃ m, m < n ∧ ∃ i H', Inv (blkx X s3 H3 scope ce fp xe) [] (wipe σ (own.map (·.2))) H' s' ∧ tn i s'.heap ∧ (∀ b ∈ fp, H' b = none) ∧ Wm i m H' := fun {s' H'} I' nx => by
        obtain ⟨m', hm, w'⟩ := hNx H' nx
        have pin' : ∀ b ∈ fp, ∀ o, s7.heap.get? b = some o → s'.heap.get? b = some o ∧ H' b = none := fun b hb o e =>
          let z := I'.pin (b, o) (List.mem_append_right _ (List.mem_append_right _ (mem_pinsAt hb e)))
          ⟨z.1, z.2.1⟩
        have hl : (wipe σ (own.map (·.2))).length = σ8.length := by rw [← hw8, wipe_length]
        refine ⟨m', hm, i + 1, H', (I'.unpinned (pins := [])).weak hl (fun j v e => ?_), T.keep _ _ _ st7 fun b hb o e => (pin' b hb o e).1, fun b hb => ?_, w'⟩
        · rw [← hw8] at e
          exact (wipe_some e).1
        · obtain ⟨o, e, _⟩ := T.obj _ _ st7 b hb
          exact (pin' b hb o e).2
      cases b with
      | false =>
        simp only [Bool.false_eq_true, if_false] at q9 ⊢
        exact fin I9 q9
      | true =>
        simp only [if_true] at q9 ⊢
        refine thn (pe.run _ s9 σ8 H9 _ I9 q9) fun z s10 ⟨yv, H10, I10, r10, acc, hD10, hz10, nx⟩ => ?_
        exact app_ok (X := blkx X s3 H3 scope ce fp xe) I10 hD10 hz10 r10 fun s11 I11 => fin I11 nx
  exact codeAny_compStart_list loop (T.self X.A 0 _ _ _ st4 loop)
section
variable {elt tg iter : Expr} {ifs : List Expr} {scope : Scope} {own : List (Str × Nat)} {pos spos : Pos} {wi : TI} {g : TG} {tt : WX → TT} {te : WX → TE}
/-- as a value -/
theorem pe_lcX (hs0 : X.stack = X.env :: X.outer) (hf0 : X.env.frame = some X.env.locals) (tk : Takes X W) (hc : X.calm = true) (hN : X.N.Nodup) (hi : PI X tg iter wi) (ok : BlkOk X.N X.env.scope scope own)
    (hg : ∀ (s : Shared) (H : Hp) (C : Addr) (cl : List (Str × Addr)) (fp : List Addr) xe, PG (blkx X s H scope (compEnvC scope cl C X.env) fp xe) tg g)
    (ht : ∀ (s : Shared) (H : Hp) (C : Addr) (cl : List (Str × Addr)) (fp : List Addr) xe W', Takes (blkx X s H scope (compEnvC scope cl C X.env) fp xe) W' → PTs (blkx X s H scope (compEnvC scope cl C X.env) fp xe) ifs (tt W'))
    (he : ∀ (s : Shared) (H : Hp) (C : Addr) (cl : List (Str × Addr)) (fp : List Addr) xe W', Takes (blkx X s H scope (compEnvC scope cl C X.env) fp xe) W' → PE (blkx X s H scope (compEnvC scope cl C X.env) fp xe) elt (te W'))
    (hs : ∀ x, foldedSetIterable iter X.env x = pure x := by intro _; rfl) :
    PE X (.ListComp elt [⟨tg, iter, ifs, 0⟩] scope pos) (tLcX W wi g tt te (own.map (·.2))) := by
  refine ⟨fun pins s σ H Q I h => ?_⟩
  rw [eval_ListComp]
  refine lc_coreX hs0 hf0 tk hc hN I hi ok hg ht he hs h fun D ce s' m H' I' q hn f => ⟨m, hn, fun h'' sb => ?_⟩
  obtain ⟨f0, f1, f2, f3, f4, f5⟩ := f
  exact ⟨.ref D, H', I'.turned (t' := s'.toks) (fun b o hb e => (sb.2 b hb).trans e) f0 f1 f3 f4 f5, rfl, q⟩
/-- name = [..] on one line, the name a local -/
theorem ps_setLcX {i : Nat} {y : Str} {py : Pos} (hs0 : X.stack = X.env :: X.outer) (hf0 : X.env.frame = some X.env.locals) (tk : Takes X W) (hc : X.calm = true) (hN : X.N.Nodup) (hy : X.N[i]? = some y) (hyl : X.env.scope.names.lookup y = some .local)
    (hsw : swapsWith (.ListComp elt [⟨tg, iter, ifs, 0⟩] scope pos) (some (.Name y py)) spos.line X.env = pure true) (hi : PI X tg iter wi) (ok : BlkOk X.N X.env.scope scope own)
    (hg : ∀ (s : Shared) (H : Hp) (C : Addr) (cl : List (Str × Addr)) (fp : List Addr) xe, PG (blkx X s H scope (compEnvC scope cl C X.env) fp xe) tg g)
    (ht : ∀ (s : Shared) (H : Hp) (C : Addr) (cl : List (Str × Addr)) (fp : List Addr) xe W', Takes (blkx X s H scope (compEnvC scope cl C X.env) fp xe) W' → PTs (blkx X s H scope (compEnvC scope cl C X.env) fp xe) ifs (tt W'))
    (he : ∀ (s : Shared) (H : Hp) (C : Addr) (cl : List (Str × Addr)) (fp : List Addr) xe W', Takes (blkx X s H scope (compEnvC scope cl C X.env) fp xe) W' → PE (blkx X s H scope (compEnvC scope cl C X.env) fp xe) elt (te W'))
    (hs : ∀ x, foldedSetIterable iter X.env x = pure x := by intro _; rfl) :
    PS X (.Assign [.Name y py] (.ListComp elt [⟨tg, iter, ifs, 0⟩] scope pos) spos) (tAsg (tLcX W wi g tt te (own.map (·.2))) (gName i)) := by
  refine ⟨fun pins s σ H D I h => ?_⟩
  rw [exec_Assign_Name_used _ _ _ _ hsw]
  refine wpAny_bind (wpAny_standAt (wpAny_bind ?_))
  show wpAny _ X.A (do let _ ← comprehension (.ListComp elt [⟨tg, iter, ifs, 0⟩] scope pos) scope X.env (firstIterPos [⟨tg, iter, ifs, 0⟩] pos) (newList []) false (eval iter X.env) (some (assign (.Name y py) X.env))) _ _ s
  have h : tLcX W wi g tt te (own.map (·.2)) σ H (fun x H1 => gName i x σ H1 D.nx) := h
  refine wpAny_bind (thn (lc_coreX (Qf := fun _ s' => SP X pins D .next s') hs0 hf0 tk hc hN I hi ok hg ht he hs h fun L ce s' m H' I' q hn f => ?_) fun _ s' hq => wpAny_pure (wpAny_pure hq))
  show wpAny _ _ (assign (.Name y py) X.env (.ref L)) _ _ _
  refine wpAny_assign_Name (store_ok2 (v := V.ref L) I' hN hy (.inl hyl) rfl (fun s2 I2 ⟨a, sb, ha⟩ => ?_) (.inr hyl))
  obtain ⟨f0, f1, f2, f3, f4, f5⟩ := f
  have haC : ce.locals ≠ a := by
    rcases ha with z | z
    · rw [z]; exact f1
    · exact fun e => f4 y a z e.symm
  refine ⟨m, hn.sameBut sb haC, fun h3 sb3 => ?_⟩
  exact ⟨_, H', I2.turned (t' := s2.toks) (fun b o hb e => (sb3.2 b hb).trans e) f0 f1 f3 f4 f5, q⟩
end
end
end NW
end

section
set_option Elab.async false
set_option linter.all false
set_option maxRecDepth 100000
/-! NWm: list comprehensions. -/
namespace NW
open PySem PySem.Spec L2
open PyProof.Rows hiding St

theorem peWeaken {X : Cx} {e : Expr} {t t' : TE} (h : PE X e t) (k : ∀ σ H Q, t' σ H Q → t σ H Q) : PE X e t' := ⟨fun pins s σ H Q I q => h.run pins s σ H Q I (k σ H Q q)⟩
/-- no exception is let out -/
abbrev W0 : WX := fun _ _ _ _ => False
def rdN (K : PySem.W.Frag) (G : Gb) (O : List Ow) (o : Ow) (f : NW.Env → R D) : TE := fun σ H Q => ∃ F ρ, SS K G O F σ H ρ ∧ KN K G W0 o F σ H Q (f ρ)
def rdT (K : PySem.W.Frag) (G : Gb) (O : List Ow) (f : NW.Env → R Bool) : TT := fun σ H Q => ∃ F ρ, SS K G O F σ H ρ ∧ KT K G W0 F σ H Q (f ρ)
theorem GN.canon {X : Cx} {G : Gb} {O : List Ow} {o : Ow} {e : Expr} {f : NW.Env → R D} (h : GN X G W0 O o e f) : PE X e (rdN X.K G O o f) := by
  obtain ⟨t, p, i⟩ := h
  exact peWeaken p fun σ H Q ⟨F, ρ, s, k⟩ => i F σ H ρ Q s k
theorem GT.canon {X : Cx} {G : Gb} {O : List Ow} {e : Expr} {f : NW.Env → R Bool} (h : GT X G W0 O e f) : PT X e (rdT X.K G O f) := by
  obtain ⟨t, p, i⟩ := h
  exact ⟨fun pins s σ H Q I ⟨F, ρ, z, k⟩ => p.run pins s σ H Q I (i F σ H ρ Q z k)⟩
/-- the tests of a clause -/
def GTs (X : Cx) (G : Gb) (O : List Ow) (es : List Expr) (f : NW.Env → R Bool) : Prop := PTs X es (rdT X.K G O f)
def yesB : NW.Env → R Bool := fun _ => .ok true
theorem gts_nil {X : Cx} {G : Gb} {O : List Ow} : GTs X G O [] yesB := ⟨fun pins s σ H Q I ⟨F, ρ, z, k⟩ => (pts_nil (X := X)).run pins s σ H Q I (k F H (Ex.refl z.1))⟩
theorem gts_one {X : Cx} {G : Gb} {O : List Ow} {e : Expr} {f : NW.Env → R Bool} (h : GT X G W0 O e f) : GTs X G O [e] f := pts_one h.canon

/-! ### targets that are names -/
def ImpP (K : PySem.W.Frag) (G : Gb) (vs : List Nat) (O O' : List Ow) (t : TG) (f : D → NW.Env → R NW.Env) : Prop :=
  ∀ F σ H ρ d v Q, SS K G O F σ H ρ → Rp K G F H d v → (match f d ρ with
    | .ok ρ' => ∀ σ', SS K G O' F σ' H ρ' → wipe σ' vs = wipe σ vs → Q σ' H
    | _ => False) → t v σ H Q
def GP (X : Cx) (G : Gb) (vs : List Nat) (O O' : List Ow) (e : Expr) (f : D → NW.Env → R NW.Env) : Prop := ∃ t, PG X e t ∧ ImpP X.K G vs O O' t f
def ImpPs (K : PySem.W.Frag) (G : Gb) (vs : List Nat) (O O' : List Ow) (t : TGs) (f : List D → NW.Env → R NW.Env) : Prop :=
  ∀ F σ H ρ ds ws Q, SS K G O F σ H ρ → Rps K G F H ds ws → (match f ds ρ with
    | .ok ρ' => ∀ σ', SS K G O' F σ' H ρ' → wipe σ' vs = wipe σ vs → Q σ' H
    | _ => False) → t ws σ H Q
def GPs (X : Cx) (G : Gb) (vs : List Nat) (O O' : List Ow) (es : List Expr) (f : List D → NW.Env → R NW.Env) : Prop := ∃ t, PGs X es t ∧ ImpPs X.K G vs O O' t f
def rdP (K : PySem.W.Frag) (G : Gb) (vs : List Nat) (O O' : List Ow) (f : D → NW.Env → R NW.Env) : TG := fun v σ H Q => ∃ F ρ d, SS K G O F σ H ρ ∧ Rp K G F H d v ∧ (match f d ρ with
    | .ok ρ' => ∀ σ', SS K G O' F σ' H ρ' → wipe σ' vs = wipe σ vs → Q σ' H
    | _ => False)
section
variable {X : Cx} {G : Gb} {W : WX} {Z : Exits} {O O' O1 : List Ow} {γ : Gh} {F F' : Fr} {H H' : Hp} {σ : St} {ρ : NW.Env} {E : Ends} {vs : List Nat}
theorem GP.canon {e : Expr} {f : D → NW.Env → R NW.Env} (h : GP X G vs O O' e f) : PG X e (rdP X.K G vs O O' f) := by
  obtain ⟨t, p, i⟩ := h
  exact ⟨fun pins s σ H v u Q I r ⟨F, ρ, d, s0, r0, k⟩ => p.run pins s σ H v u Q I r (i F σ H ρ d v Q s0 r0 k)⟩
def gh0 : Gh := ⟨[], fun _ => False, fun _ => none, fun _ _ => True, fun _ _ _ _ _ _ => trivial, none⟩
theorem SS.st {K : PySem.W.Frag} (s : SS K G O F σ H ρ) : ST K G gh0 O F σ H ρ := by
  obtain ⟨fi, As, q⟩ := s
  exact ⟨⟨fun a h => h.elim, fun a o h => (by cases h), fun a o h => (by cases h), fun a h => .inr (.inl rfl), fi⟩, trivial, fun v h => (by cases h), As, q, fun i a _ => .inl rfl⟩
theorem SS.setF {K : PySem.W.Frag} {i : Nat} {d : D} {v : V} (s : SS K G O F σ H ρ) (r : Rp K G F H d v) : SS K G (O.set i .fz) F (σ.set i (some v)) H (ρ.set i (some d)) :=
  (s.st.set i (Ex.refl s.1) (rpo_of r) List.nodup_nil (fun a ha => nomatch ha) (.inr (by decide))).ss
theorem wipe_set {x : Option V} : ∀ {vs : List Nat} {σ : St} {i : Nat}, i ∈ vs → wipe (σ.set i x) vs = wipe σ vs
  | v :: vs, σ, i, h => by
    unfold wipe
    by_cases hi : i ∈ vs
    · rw [wipe_set hi]
    · have e : i = v := by
        rcases List.mem_cons.mp h with h | h
        · exact h
        · exact absurd h hi
      subst e
      have key : ∀ {vs : List Nat} {σ : St}, i ∉ vs → wipe (σ.set i x) vs = (wipe σ vs).set i x := by
        intro vs
        induction vs with
        | nil => intro σ _; rfl
        | cons v vs ih =>
          intro σ h
          unfold wipe
          rw [ih (fun z => h (List.mem_cons_of_mem _ z)), List.set_comm]
          exact fun z => h (z ▸ List.mem_cons_self)
      rw [key hi]
      exact List.set_set ..
theorem gp_name (i : Nat) {x : Str} {pos : Pos} (nd : X.N.Nodup) (hm : i ∈ vs := by decide) (hi : X.N[i]? = some x := by rfl) (hx : Loc X.env.scope x := by first | exact Or.inl rfl | exact Or.inr rfl) (hf : X.fn x = true ∨ X.env.scope.names.lookup x = some .local := by first | exact .inr rfl | exact .inl rfl) : GP X G vs O (O.set i .fz) (.Name x pos) (nameG i) :=
  ⟨_, pg_name nd hi hx hf, fun F σ H ρ d v Q s r k => k _ (s.setF r) (wipe_set hm)⟩
theorem gps_nil : GPs X G vs O O [] nilG := ⟨_, pgs_nil, fun F σ H ρ ds ws Q s r k => by
  cases ds with
  | nil =>
    have e : ws = [] := by unfold Rps at r; exact r
    exact ⟨e, k σ s rfl⟩
  | cons d ds => exact k.elim⟩
theorem gps_cons {e : Expr} {es : List Expr} {f : D → NW.Env → R NW.Env} {g : List D → NW.Env → R NW.Env} (h : GP X G vs O O1 e f) (h2 : GPs X G vs O1 O' es g)
    (hs : (assignEach (e :: es) X.env).map (·.2) = assign e X.env :: (assignEach es X.env).map (·.2) := by rfl) : GPs X G vs O O' (e :: es) (consG f g) := by
  obtain ⟨t, p, i⟩ := h
  obtain ⟨u, q, j⟩ := h2
  refine ⟨_, pgs_cons p q hs, fun F σ H ρ ds ws Q s r k => ?_⟩
  cases ds with
  | nil => exact k.elim
  | cons d ds =>
    unfold Rps at r
    obtain ⟨v, vr, ev, r1, r2⟩ := r
    refine ⟨v, vr, ev, i F σ H ρ d v _ s r1 ?_⟩
    obtain ⟨ρ1, e1, k1⟩ := imp_bindG k
    rw [e1]
    intro σ1 s1 w1
    refine j F σ1 H ρ1 ds vr _ s1 r2 ?_
    revert k1
    cases g ds ρ1 with
    | ok ρ2 => exact fun k1 σ2 s2 w2 => k1 σ2 s2 (w2.trans w1)
    | ex c fs => exact fun k1 => k1
    | st => exact fun k1 => k1
theorem gp_tup {es : List Expr} {k : Nat} {pos : Pos} {f : List D → NW.Env → R NW.Env} {n : Nat} (hc : X.calm = true) (h : GPs X G vs O O' es f) (hlen : ∀ ds ρ ρ', f ds ρ = .ok ρ' → ds.length = n)
    (hn : (assignEach es X.env).length = n := by rfl) (hst : (assignEach es X.env).findIdx? (·.1) = none := by rfl) : GP X G vs O O' (.Tuple es k pos) (tupG f) := by
  obtain ⟨t, p, i⟩ := h
  refine ⟨_, pg_tup hc p hn hst, fun F σ H ρ d v Q s r k => ?_⟩
  cases d <;> first | exact k.elim | skip
  rename_i ds
  unfold Rp at r
  obtain ⟨a, ws, e, ⟨_, ha⟩, rs⟩ := r
  refine ⟨a, ws, e, SqT.of ha, ?_, i F σ H ρ ds ws Q s rs k⟩
  rw [rs.len]
  obtain ⟨ρ', e', _⟩ := okG (r := f ds ρ) k
  exact hlen ds ρ ρ' e'
theorem gp_tup2 {e1 e2 : Expr} {k : Nat} {pos : Pos} {f1 f2 : D → NW.Env → R NW.Env} (hc : X.calm = true) (h : GPs X G vs O O' [e1, e2] (consG f1 (consG f2 nilG))) (hn : (assignEach [e1, e2] X.env).length = 2 := by rfl) (hst : (assignEach [e1, e2] X.env).findIdx? (·.1) = none := by rfl) : GP X G vs O O' (.Tuple [e1, e2] k pos) (tupG (consG f1 (consG f2 nilG))) :=
  gp_tup hc h (len_cons (len_cons fun _ _ _ => len_nil)) hn hst
theorem gp_tup3 {e1 e2 e3 : Expr} {k : Nat} {pos : Pos} {f1 f2 f3 : D → NW.Env → R NW.Env} (hc : X.calm = true) (h : GPs X G vs O O' [e1, e2, e3] (consG f1 (consG f2 (consG f3 nilG)))) (hn : (assignEach [e1, e2, e3] X.env).length = 3 := by rfl) (hst : (assignEach [e1, e2, e3] X.env).findIdx? (·.1) = none := by rfl) : GP X G vs O O' (.Tuple [e1, e2, e3] k pos) (tupG (consG f1 (consG f2 (consG f3 nilG)))) :=
  gp_tup hc h (len_cons (len_cons (len_cons fun _ _ _ => len_nil))) hn hst

/-! ### the comprehension -/
def compD (g : D → NW.Env → R NW.Env) (c : NW.Env → R Bool) (e : NW.Env → R D) : List D → NW.Env → R (List D)
  | [], _ => .ok []
  | d :: ds, ρ => match g d ρ with
    | .ok ρ1 => (c ρ1).bind fun b => if b then (e ρ1).bind fun y => (compD g c e ds ρ).bind fun ys => .ok (y :: ys) else compD g c e ds ρ
    | _ => .st
def noXL : R (List D) → R (List D)
  | .ok ds => .ok ds
  | _ => .st
def compF (vs : List Nat) (it : NW.Env → R (List D)) (g : D → NW.Env → R NW.Env) (c : NW.Env → R Bool) (e : NW.Env → R D) : NW.Env → R D := fun ρ => (it ρ).bind fun ds => (noXL (compD g c e ds (wipeE ρ vs))).bind fun ys => if ys.length ≤ szL then .ok (.lst ys) else .st
theorem wipe_eq : ∀ (σ : St) (vs : List Nat), wipe σ vs = vs.foldr (fun v s => s.set v none) σ
  | _, [] => rfl
  | σ, v :: vs => by unfold wipe; rw [wipe_eq σ vs]; rfl
theorem Sl.wiped {K : PySem.W.Frag} {As : Nat → List Addr} (h : Sl K G O F σ H ρ As) : ∀ vs : List Nat, ∃ As', Sl K G (wipeO O vs) F (wipe σ vs) H (wipeE ρ vs) As' ∧ ∀ i, ∀ a ∈ As' i, a ∈ As i
  | [] => ⟨As, h, fun _ _ z => z⟩
  | v :: vs => by
    obtain ⟨As', q, sub⟩ := h.wiped vs
    refine ⟨fun j => if j = v then [] else As' j, ⟨?_, ?_, fun j oj hj => ?_, fun i j a h1 h2 => ?_, fun i => ?_, fun i a ha => ?_⟩, fun i a ha => ?_⟩
    · show ((wipeE ρ vs).set v none).length = ((wipeO O vs).set v .na).length
      simp [q.lr]
    · show ((wipe σ vs).set v none).length = ((wipeO O vs).set v .na).length
      simp [q.ls]
    · have hj : ((wipeO O vs).set v .na)[j]? = some oj := hj
      show SlO K G F H oj ((wipeE ρ vs).set v none)[j]? ((wipe σ vs).set v none)[j]? (if j = v then [] else As' j)
      rw [set_at] at hj
      by_cases e : v = j
      · subst e
        rw [if_pos rfl] at hj
        split at hj
        · cases hj
          exact .inl ⟨rfl, if_pos rfl⟩
        · cases hj
      · rw [if_neg e] at hj
        rw [set_at, set_at, if_neg e, if_neg e, if_neg (fun z => e z.symm)]
        exact q.sl j oj hj
    · try dsimp only at h1 h2
      split at h1
      · cases h1
      · split at h2
        · cases h2
        · exact q.dj i j a h1 h2
    · try dsimp only
      split
      · exact List.nodup_nil
      · exact q.nd i
    · try dsimp only at ha
      split at ha
      · cases ha
      · exact q.nf i a ha
    · try dsimp only at ha
      split at ha
      · cases ha
      · exact sub i a ha
theorem RpL.snoc {R : D → V → List Addr → Prop} : ∀ {ds : List D} {ws : List V} {A B : List Addr} {d : D} {v : V}, RpL R ds ws A → R d v B → RpL R (ds ++ [d]) (ws ++ [v]) (A ++ B)
  | [], _, _, B, d, v, h, r => by
    unfold RpL at h
    rw [h.1, h.2]
    show RpL R [d] [v] ([] ++ B)
    unfold RpL
    exact ⟨v, [], B, [], rfl, by simp, r, by unfold RpL; exact ⟨rfl, rfl⟩⟩
  | e :: ds, _, _, B, d, v, h, r => by
    unfold RpL at h
    obtain ⟨w, ws, A1, A2, rfl, rfl, h1, h2⟩ := h
    show RpL R (e :: (ds ++ [d])) (w :: (ws ++ [v])) ((A1 ++ A2) ++ B)
    rw [List.append_assoc]
    unfold RpL
    exact ⟨w, ws ++ [v], A1, A2 ++ B, rfl, rfl, h1, RpL.snoc h2 r⟩
theorem Ex.updN {F0 : Fr} {H0 : Hp} {p : Addr} {ob : HO} (e : Ex F0 H0 F H) (h0 : H0 p = Option.none) (hp : ¬ F p) : Ex F0 H0 F (upd H p ob) where
  fr := e.fr
  hp := fun a o h => by rw [upd_ne (ne_of_none h h0)]; exact e.hp a o h
  nw := e.nw
  fi := fun a h => by
    have : a ≠ p := fun z => hp (z ▸ h)
    rw [upd_ne this]
    exact e.fi a h
theorem imp_comp {o : Ow} {wi : TI} {it : NW.Env → R (List D)} {g : D → NW.Env → R NW.Env} {c : NW.Env → R Bool} {e : NW.Env → R D} (hi : ImpI X.K G W O wi it) : ImpN X.K G W O (.own o) (tLc wi (rdP X.K G vs (wipeO O vs) O1 g) (rdT X.K G O1 c) (rdN X.K G O1 o e) vs) (compF vs it g c e) := fun F σ H ρ Q s k => by
  refine hi F σ H ρ _ s ?_
  unfold compF at k
  revert k
  cases it ρ with
  | ex c fs => exact fun k => k
  | st => exact fun k => k
  | ok ds =>
    intro k F1 H1 J C e1 ii c1 D0 hD
    have s1 := s.ex e1
    obtain ⟨As, q⟩ := s1.2
    have k1 : KN X.K G W (.own o) F σ H Q ((noXL (compD g c e ds (wipeE ρ vs))).bind fun ys => if ys.length ≤ szL then .ok (.lst ys) else .st) := k
    cases hc : compD g c e ds (wipeE ρ vs) with
    | ex c' fs => rw [hc] at k1; exact k1.elim
    | st => rw [hc] at k1; exact k1.elim
    | ok all =>
      rw [hc] at k1
      have k2 : KN X.K G W (.own o) F σ H Q (if all.length ≤ szL then .ok (.lst all) else .st) := k1
      split at k2
      · rename_i hz
        have k3 := KN.ex k2 e1
        have nD : ¬ F1 D0 := fun z => by
          obtain ⟨u, y⟩ := e1.fi D0 z
          rw [hD] at y; cases y
        have nA : ∀ i, D0 ∉ As i := fun i z => by
          obtain ⟨_, u, y⟩ := q.nf i D0 z
          rw [hD] at y; cases y
        refine ⟨fun i m H => m + i = ds.length ∧ ∃ F done rest acc A, Ex F1 H1 F H ∧ C F H ∧ ¬ F D0 ∧ H D0 = some (.lst acc) ∧ RpL (RpO X.K G F H o) done acc A ∧ A.Nodup ∧ D0 ∉ A ∧ (∀ a ∈ A, H1 a = none ∧ ¬ F a) ∧ compD g c e (ds.drop i) (wipeE ρ vs) = .ok rest ∧ done ++ rest = all,
          ⟨ds.length, by omega, F1, [], all, [], [], Ex.laid e1.fi hD, ii.keep _ _ _ _ c1 (Ex.laid e1.fi hD).keep, nD, upd_same, by unfold RpL; exact ⟨rfl, rfl⟩, List.nodup_nil, by simp, fun a h => (by cases h), by rw [List.drop_zero]; exact hc, rfl⟩, ?_⟩
        rintro i m H2 ⟨hm, F2, done, rest, acc, A, e2, c2, nD2, hD2, rl, ndA, nDA, frA, hr, hall⟩
        by_cases hl : i < ds.length
        · right
          refine ⟨ii.go i F2 H2 c2 hl, fun H => ∃ F done rest acc A, Ex F1 H1 F H ∧ C F H ∧ ¬ F D0 ∧ H D0 = some (.lst acc) ∧ RpL (RpO X.K G F H o) done acc A ∧ A.Nodup ∧ D0 ∉ A ∧ (∀ a ∈ A, H1 a = none ∧ ¬ F a) ∧ compD g c e (ds.drop (i + 1)) (wipeE ρ vs) = .ok rest ∧ done ++ rest = all, fun H3 n => ⟨m - 1, by omega, by omega, n⟩, fun x H3 y => ?_⟩
          have hd : ds[i]? = some ds[i] := by simp [hl]
          obtain ⟨F3, e3, r3⟩ := ii.yld i F2 H2 x H3 _ c2 e2.fi hd y
          rw [List.drop_eq_getElem_cons hl] at hr
          unfold compD at hr
          obtain ⟨As', q3, sub⟩ := (q.ex (e2.trans e3)).wiped vs
          cases hg : g ds[i] (wipeE ρ vs) with
          | ex c' fs => rw [hg] at hr; cases hr
          | st => rw [hg] at hr; cases hr
          | ok ρ1 =>
            rw [hg] at hr
            refine ⟨F3, wipeE ρ vs, ds[i], ⟨e3.fi, As', q3⟩, r3, ?_⟩
            rw [hg]
            intro σ4 s4 w4
            have ww : wipe (wipe σ vs) vs = wipe σ vs := by
              rw [wipe_eq (wipe σ vs) vs, wipe_eq σ vs]
              have idem : ∀ (l m : List Nat) (s : St), (∀ a ∈ l, a ∈ m) → l.foldr (fun v s => s.set v none) (m.foldr (fun v s => s.set v none) s) = m.foldr (fun v s => s.set v none) s := by
                intro l
                induction l with
                | nil => intro m s _; rfl
                | cons a l ih =>
                  intro m s hs
                  rw [List.foldr_cons, ih m s fun b hb => hs b (List.mem_cons_of_mem _ hb)]
                  have key : ∀ (m : List Nat), a ∈ m → ∀ s : St, (m.foldr (fun v s => s.set v none) s).set a none = m.foldr (fun v s => s.set v none) s := by
                    intro m
                    induction m with
                    | nil => intro h; cases h
                    | cons b m ih =>
                      intro h s
                      rw [List.foldr_cons]
                      by_cases hb : b = a
                      · subst hb
                        exact List.set_set ..
                      · have : a ∈ m := by
                          rcases List.mem_cons.mp h with h | h
                          · exact absurd h.symm hb
                          · exact h
                        rw [List.set_comm _ _ hb, ih this]
                  exact key m (hs a List.mem_cons_self) s
              exact idem vs vs σ fun a ha => ha
            refine ⟨w4.trans ww, ?_⟩
            refine ⟨F3, ρ1, s4, ?_⟩
            have hr : ((c ρ1).bind fun b => if b then (e ρ1).bind fun y => (compD g c e (ds.drop (i + 1)) (wipeE ρ vs)).bind fun ys => .ok (y :: ys) else compD g c e (ds.drop (i + 1)) (wipeE ρ vs)) = .ok rest := hr
            cases hcb : c ρ1 with
            | ex c' fs => rw [hcb] at hr; cases hr
            | st => rw [hcb] at hr; cases hr
            | ok b =>
              rw [hcb] at hr
              intro F5 H5 e5
              have e35 := e3.trans e5
              have nD5 : ¬ F5 D0 := fun z => by
                rcases e35.nw D0 z with z | z
                · exact nD2 z
                · rw [hD2] at z; cases z
              cases b with
              | false =>
                refine iteF ⟨F5, done, rest, acc, A, e2.trans e35, ii.keep _ _ _ _ c2 e35.keep, nD5, e35.hp _ _ hD2, rl.imp fun d v B _ z => z.ex e35, ndA, nDA, fun a ha => ⟨(frA a ha).1, fun z => ?_⟩, hr, hall⟩
                rcases e35.nw a z with z | z
                · exact (frA a ha).2 z
                · obtain ⟨u, hu⟩ := rl.mem (P := fun a => ∃ u, H2 a = some u) (fun d v B q => RpO.some_ o q) a ha
                  rw [z] at hu; cases hu
              | true =>
                refine iteT ⟨F5, ρ1, s4.ex e5, ?_⟩
                have hr : ((e ρ1).bind fun y => (compD g c e (ds.drop (i + 1)) (wipeE ρ vs)).bind fun ys => .ok (y :: ys)) = .ok rest := hr
                cases hev : e ρ1 with
                | ex c' fs => rw [hev] at hr; cases hr
                | st => rw [hev] at hr; cases hr
                | ok y =>
                  rw [hev] at hr
                  have hr : ((compD g c e (ds.drop (i + 1)) (wipeE ρ vs)).bind fun ys => .ok (y :: ys)) = .ok rest := hr
                  cases hrr : compD g c e (ds.drop (i + 1)) (wipeE ρ vs) with
                  | ex c' fs => rw [hrr] at hr; cases hr
                  | st => rw [hrr] at hr; cases hr
                  | ok ys =>
                    rw [hrr] at hr
                    cases hr
                    intro F6 H6 v0 A6 e6 r6 nd6 fr6
                    have e36 := e35.trans e6
                    have hD6 := e36.hp _ _ hD2
                    have nD6 : ¬ F6 D0 := fun z => by
                      rcases e36.nw D0 z with z | z
                      · exact nD2 z
                      · rw [hD2] at z; cases z
                    have le : acc.length = done.length := rl.len
                    have hz2 : acc.length < sizeLine := by
                      have : done.length + (ys.length + 1) = all.length := by rw [← hall]; simp
                      rw [szL_eq]
                      omega
                    refine ⟨acc, hD6, hz2, F6, done ++ [y], ys, acc ++ [v0], A ++ A6, (e2.trans e36).updN hD nD6, ii.keep _ _ _ _ c2 (e36.keep.trans (keep_upd nD6)), nD6, upd_same, ?_, ?_, ?_, ?_, rfl, by rw [List.append_assoc]; exact hall⟩
                    · have up : ∀ d v B, (∀ a ∈ B, a ≠ D0) → RpO X.K G F6 H6 o d v B → RpO X.K G F6 (upd H6 D0 (.lst (acc ++ [v0]))) o d v B := fun d v B hB z => RpO.mono (fun a q => q) o (fun a u ha h => by
                        have : a ≠ D0 := by
                          rcases ha with ha | ha
                          · exact fun z => nD6 (z ▸ ha)
                          · exact hB a ha
                        rw [upd_ne this]; exact h) z
                      refine RpL.snoc (rl.imp fun d w B hB z => up d w B (fun a ha z2 => nDA (z2 ▸ hB a ha)) (z.ex e36)) (up y v0 A6 (fun a ha z2 => ?_) r6)
                      have := (fr6 a ha).1
                      rw [z2, e35.hp _ _ hD2] at this
                      cases this
                    · refine List.nodup_append.mpr ⟨ndA, nd6, fun a ha b hb z => ?_⟩
                      subst z
                      obtain ⟨u, hu⟩ := rl.mem (P := fun a => ∃ u, H2 a = some u) (fun d v B q => RpO.some_ o q) a ha
                      have := (fr6 a hb).1
                      rw [e35.hp a u hu] at this
                      cases this
                    · intro z
                      rcases List.mem_append.mp z with z | z
                      · exact nDA z
                      · have := (fr6 D0 z).1
                        rw [e35.hp _ _ hD2] at this
                        cases this
                    · intro a ha
                      rcases List.mem_append.mp ha with ha | ha
                      · refine ⟨(frA a ha).1, fun z => ?_⟩
                        rcases e36.nw a z with z | z
                        · exact (frA a ha).2 z
                        · obtain ⟨u, hu⟩ := rl.mem (P := fun a => ∃ u, H2 a = some u) (fun d v B q => RpO.some_ o q) a ha
                          rw [z] at hu; cases hu
                      · exact ⟨(e2.trans e35).none (fr6 a ha).1, (fr6 a ha).2⟩
        · left
          have ei : i = ds.length := by omega
          subst ei
          rw [List.drop_length] at hr
          cases hr
          rw [List.append_nil] at hall
          subst hall
          refine ⟨ii.stop F2 H2 c2, k3 F2 H2 (.ref D0) (D0 :: A) e2 ?_ (List.nodup_cons.mpr ⟨nDA, ndA⟩) fun a ha => ?_⟩
          · unfold RpO
            exact ⟨D0, acc, A, rfl, rfl, hD2, rl⟩
          · rcases List.mem_cons.mp ha with rfl | ha
            · exact ⟨hD, nD2⟩
            · exact frA a ha
      · exact k2.elim
/-- what the places of a block's own names tell -/
theorem gn_comp {own : List (Str × Nat)} {o : Ow} {elt tg iter : Expr} {ifs : List Expr} {scope : Scope} {pos : Pos} {it : NW.Env → R (List D)} {g : D → NW.Env → R NW.Env} {c : NW.Env → R Bool} {e : NW.Env → R D} (hc : X.calm = true) (hN : X.N.Nodup) (hi : GI X G W O tg iter it) (ok : BlkOk X.N X.env.scope scope own)
    (hg : ∀ (s : Shared) (H : Hp) (C : Addr) (cl : List (Str × Addr)) (fp : List Addr), GP (X.blk s H scope (compEnvC scope cl C X.env) fp) G (own.map (·.2)) (wipeO O (own.map (·.2))) O1 tg g)
    (ht : ∀ (s : Shared) (H : Hp) (C : Addr) (cl : List (Str × Addr)) (fp : List Addr), GTs (X.blk s H scope (compEnvC scope cl C X.env) fp) G O1 ifs c)
    (he : ∀ (s : Shared) (H : Hp) (C : Addr) (cl : List (Str × Addr)) (fp : List Addr), GN (X.blk s H scope (compEnvC scope cl C X.env) fp) G W0 O1 o elt e)
    (hs : ∀ x, foldedSetIterable iter X.env x = pure x := by intro _; rfl) : GN X G W O (.own o) (.ListComp elt [⟨tg, iter, ifs, 0⟩] scope pos) (compF (own.map (·.2)) it g c e) := by
  obtain ⟨w, p, i⟩ := hi
  exact ⟨_, pe_lc (own := own) hc hN p ok (fun s H C cl fp => (hg s H C cl fp).canon) (tt := rdT X.K G O1 c) (fun s H C cl fp => ht s H C cl fp) (fun s H C cl fp => (he s H C cl fp).canon) hs, imp_comp i⟩
/-- x = [..], x a local -/
theorem gs_setComp (i : Nat) {y : Str} {py : Pos} {own : List (Str × Nat)} {o : Ow} {elt tg iter : Expr} {ifs : List Expr} {scope : Scope} {pos spos : Pos} {it : NW.Env → R (List D)} {g : D → NW.Env → R NW.Env} {c : NW.Env → R Bool} {e : NW.Env → R D} (hc : X.calm = true) (hN : X.N.Nodup) (hi : GI X G W O tg iter it) (ok : BlkOk X.N X.env.scope scope own)
    (hg : ∀ (s : Shared) (H : Hp) (C : Addr) (cl : List (Str × Addr)) (fp : List Addr), GP (X.blk s H scope (compEnvC scope cl C X.env) fp) G (own.map (·.2)) (wipeO O (own.map (·.2))) O1 tg g)
    (ht : ∀ (s : Shared) (H : Hp) (C : Addr) (cl : List (Str × Addr)) (fp : List Addr), GTs (X.blk s H scope (compEnvC scope cl C X.env) fp) G O1 ifs c)
    (he : ∀ (s : Shared) (H : Hp) (C : Addr) (cl : List (Str × Addr)) (fp : List Addr), GN (X.blk s H scope (compEnvC scope cl C X.env) fp) G W0 O1 o elt e)
    (hsw : swapsWith (.ListComp elt [⟨tg, iter, ifs, 0⟩] scope pos) (some (.Name y py)) spos.line X.env = pure true) (hy : X.N[i]? = some y := by rfl) (hyl : X.env.scope.names.lookup y = some .local := by rfl) (l : leO O Z.xo = true := by rfl) (h0 : ok0 i (.own o) = true := by rfl)
    (hs : ∀ x, foldedSetIterable iter X.env x = pure x := by intro _; rfl) : GS X G W Z O (O.set i (.own o)) (.Assign [.Name y py] (.ListComp elt [⟨tg, iter, ifs, 0⟩] scope pos) spos) (setS i (compF (own.map (·.2)) it g c e)) := by
  obtain ⟨w, p, j⟩ := hi
  exact ⟨_, ps_setLc (own := own) hc hN hy hyl hsw p ok (fun s H C cl fp => (hg s H C cl fp).canon) (tt := rdT X.K G O1 c) (fun s H C cl fp => ht s H C cl fp) (fun s H C cl fp => (he s H C cl fp).canon) hs, imp_set (imp_comp j) l h0⟩
end
end NW
end

section
set_option Elab.async false
set_option linter.all false
set_option maxRecDepth 100000
/-! NWo: list comprehensions that an exception may leave, by data. -/
namespace NW
open PySem PySem.Spec L2
open PyProof.Rows hiding St

def rdNW (K : PySem.W.Frag) (G : Gb) (O : List Ow) (o : Ow) (f : NW.Env → R D) (W : WX) : TE := fun σ H Q => ∃ F ρ, SS K G O F σ H ρ ∧ KN K G W o F σ H Q (f ρ)
def rdTW (K : PySem.W.Frag) (G : Gb) (O : List Ow) (f : NW.Env → R Bool) (W : WX) : TT := fun σ H Q => ∃ F ρ, SS K G O F σ H ρ ∧ KT K G W F σ H Q (f ρ)
theorem GN.canonW {X : Cx} {G : Gb} {W : WX} {O : List Ow} {o : Ow} {e : Expr} {f : NW.Env → R D} (h : GN X G W O o e f) : PE X e (rdNW X.K G O o f W) := by
  obtain ⟨t, p, i⟩ := h
  exact peWeaken p fun σ H Q ⟨F, ρ, s, k⟩ => i F σ H ρ Q s k
theorem GT.canonW {X : Cx} {G : Gb} {W : WX} {O : List Ow} {e : Expr} {f : NW.Env → R Bool} (h : GT X G W O e f) : PT X e (rdTW X.K G O f W) := by
  obtain ⟨t, p, i⟩ := h
  exact ⟨fun pins s σ H Q I ⟨F, ρ, z, k⟩ => p.run pins s σ H Q I (i F σ H ρ Q z k)⟩
def GTsW (X : Cx) (G : Gb) (W : WX) (O : List Ow) (es : List Expr) (f : NW.Env → R Bool) : Prop := PTs X es (rdTW X.K G O f W)
theorem gtw_nil {X : Cx} {G : Gb} {W : WX} {O : List Ow} : GTsW X G W O [] yesB := ⟨fun pins s σ H Q I ⟨F, ρ, z, k⟩ => (pts_nil (X := X)).run pins s σ H Q I (k F H (Ex.refl z.1))⟩
theorem gtw_one {X : Cx} {G : Gb} {W : WX} {O : List Ow} {e : Expr} {f : NW.Env → R Bool} (h : GT X G W O e f) : GTsW X G W O [e] f := pts_one h.canonW
section
variable {X : Cx} {G : Gb} {W : WX} {Z : Exits} {O O' O1 : List Ow} {γ : Gh} {F F' : Fr} {H H' : Hp} {σ : St} {ρ : NW.Env} {E : Ends} {vs : List Nat}
def compX (vs : List Nat) (it : NW.Env → R (List D)) (g : D → NW.Env → R NW.Env) (c : NW.Env → R Bool) (e : NW.Env → R D) : NW.Env → R D := fun ρ => (it ρ).bind fun ds => if ds.length ≤ szL then (compD g c e ds (wipeE ρ vs)).bind fun ys => .ok (.lst ys) else .st
theorem KN.exW {K : PySem.W.Frag} {o : Ow} {Q : VK} {c : Nat} {fs : List D} {g : R D} (k : KN K G W o F σ H Q (.ex c fs)) : ∀ F' H' dd, Ex F H F' H' → XR K G F' H' c fs dd → W (.ref (G.cls c)) dd σ H' := k
theorem wipe_idem (σ : St) (vs : List Nat) : wipe (wipe σ vs) vs = wipe σ vs := by
  rw [wipe_eq (wipe σ vs) vs, wipe_eq σ vs]
  have idem : ∀ (l m : List Nat) (s : St), (∀ a ∈ l, a ∈ m) → l.foldr (fun v s => s.set v none) (m.foldr (fun v s => s.set v none) s) = m.foldr (fun v s => s.set v none) s := by
    intro l
    induction l with
    | nil => intro m s _; rfl
    | cons a l ih =>
      intro m s hs
      rw [List.foldr_cons, ih m s fun b hb => hs b (List.mem_cons_of_mem _ hb)]
      have key : ∀ (m : List Nat), a ∈ m → ∀ s : St, (m.foldr (fun v s => s.set v none) s).set a none = m.foldr (fun v s => s.set v none) s := by
        intro m
        induction m with
        | nil => intro h; cases h
        | cons b m ih =>
          intro h s
          rw [List.foldr_cons]
          by_cases hb : b = a
          · subst hb
            exact List.set_set ..
          · have : a ∈ m := by
              rcases List.mem_cons.mp h with h | h
              · exact absurd h.symm hb
              · exact h
            rw [List.set_comm _ _ hb, ih this]
      exact key m (hs a List.mem_cons_self) s
  exact idem vs vs σ fun a ha => ha
theorem imp_compX {o : Ow} {wi : TI} {it : NW.Env → R (List D)} {g : D → NW.Env → R NW.Env} {c : NW.Env → R Bool} {e : NW.Env → R D} (hi : ImpI X.K G W O wi it) : ImpN X.K G W O (.own o) (tLcX W wi (rdP X.K G vs (wipeO O vs) O1 g) (rdTW X.K G O1 c) (rdNW X.K G O1 o e) vs) (compX vs it g c e) := fun F σ H ρ Q s k => by
  refine hi F σ H ρ _ s ?_
  unfold compX at k
  revert k
  cases it ρ with
  | ex c fs => exact fun k => k
  | st => exact fun k => k
  | ok ds =>
    intro k F1 H1 J C e1 ii c1 D0 hD
    have s1 := s.ex e1
    obtain ⟨As, q⟩ := s1.2
    have k1 : KN X.K G W (.own o) F σ H Q (if ds.length ≤ szL then (compD g c e ds (wipeE ρ vs)).bind fun ys => .ok (.lst ys) else .st) := k
    split at k1
    case isFalse => exact k1.elim
    rename_i hz
    have k3 := KN.ex k1 e1
    have nD : ¬ F1 D0 := fun z => by
      obtain ⟨u, y⟩ := e1.fi D0 z
      rw [hD] at y; cases y
    have nA : ∀ i, D0 ∉ As i := fun i z => by
      obtain ⟨_, u, y⟩ := q.nf i D0 z
      rw [hD] at y; cases y
    refine ⟨fun i m H => m + i = ds.length ∧ ∃ F done acc A, Ex F1 H1 F H ∧ C F H ∧ ¬ F D0 ∧ H D0 = some (.lst acc) ∧ RpL (RpO X.K G F H o) done acc A ∧ A.Nodup ∧ D0 ∉ A ∧ (∀ a ∈ A, H1 a = none ∧ ¬ F a) ∧ done.length ≤ i ∧ KN X.K G W (.own o) F1 σ H1 Q ((compD g c e (ds.drop i) (wipeE ρ vs)).bind fun ys => .ok (.lst (done ++ ys))),
      ⟨ds.length, by omega, F1, [], [], [], Ex.laid e1.fi hD, ii.keep _ _ _ _ c1 (Ex.laid e1.fi hD).keep, nD, upd_same, by unfold RpL; exact ⟨rfl, rfl⟩, List.nodup_nil, by simp, fun a h => (by cases h), by simp, by rw [List.drop_zero]; exact k3⟩, ?_⟩
    rintro i m H2 ⟨hm, F2, done, acc, A, e2, c2, nD2, hD2, rl, ndA, nDA, frA, hdl, hr⟩
    by_cases hl : i < ds.length
    · right
      refine ⟨ii.go i F2 H2 c2 hl, fun H => ∃ F done acc A, Ex F1 H1 F H ∧ C F H ∧ ¬ F D0 ∧ H D0 = some (.lst acc) ∧ RpL (RpO X.K G F H o) done acc A ∧ A.Nodup ∧ D0 ∉ A ∧ (∀ a ∈ A, H1 a = none ∧ ¬ F a) ∧ done.length ≤ i + 1 ∧ KN X.K G W (.own o) F1 σ H1 Q ((compD g c e (ds.drop (i + 1)) (wipeE ρ vs)).bind fun ys => .ok (.lst (done ++ ys))), fun H3 n => ⟨m - 1, by omega, by omega, n⟩, fun x H3 y => ?_⟩
      have hd : ds[i]? = some ds[i] := by simp [hl]
      obtain ⟨F3, e3, r3⟩ := ii.yld i F2 H2 x H3 _ c2 e2.fi hd y
      rw [List.drop_eq_getElem_cons hl] at hr
      unfold compD at hr
      obtain ⟨As', q3, sub⟩ := (q.ex (e2.trans e3)).wiped vs
      cases hg : g ds[i] (wipeE ρ vs) with
      | ex c' fs => rw [hg] at hr; exact hr.elim
      | st => rw [hg] at hr; exact hr.elim
      | ok ρ1 =>
        rw [hg] at hr
        refine ⟨F3, wipeE ρ vs, ds[i], ⟨e3.fi, As', q3⟩, r3, ?_⟩
        rw [hg]
        intro σ4 s4 w4
        refine ⟨w4.trans (wipe_idem σ vs), ?_⟩
        refine ⟨F3, ρ1, s4, ?_⟩
        have hr : KN X.K G W (.own o) F1 σ H1 Q (((c ρ1).bind fun b => if b then (e ρ1).bind fun y => (compD g c e (ds.drop (i + 1)) (wipeE ρ vs)).bind fun ys => .ok (y :: ys) else compD g c e (ds.drop (i + 1)) (wipeE ρ vs)).bind fun ys => .ok (.lst (done ++ ys))) := hr
        cases hcb : c ρ1 with
        | ex c' fs =>
          rw [hcb] at hr
          exact fun F5 H5 dd e5 x5 => KN.exW (g := .st) hr F5 H5 dd ((e2.trans e3).trans e5) x5
        | st => rw [hcb] at hr; exact hr.elim
        | ok b =>
          rw [hcb] at hr
          intro F5 H5 e5
          have e35 := e3.trans e5
          have nD5 : ¬ F5 D0 := fun z => by
            rcases e35.nw D0 z with z | z
            · exact nD2 z
            · rw [hD2] at z; cases z
          cases b with
          | false =>
            refine iteF ⟨F5, done, acc, A, e2.trans e35, ii.keep _ _ _ _ c2 e35.keep, nD5, e35.hp _ _ hD2, rl.imp fun d v B _ z => z.ex e35, ndA, nDA, fun a ha => ⟨(frA a ha).1, fun z => ?_⟩, by omega, hr⟩
            rcases e35.nw a z with z | z
            · exact (frA a ha).2 z
            · obtain ⟨u, hu⟩ := rl.mem (P := fun a => ∃ u, H2 a = some u) (fun d v B q => RpO.some_ o q) a ha
              rw [z] at hu; cases hu
          | true =>
            refine iteT ⟨F5, ρ1, s4.ex e5, ?_⟩
            have hr : KN X.K G W (.own o) F1 σ H1 Q (((e ρ1).bind fun y => (compD g c e (ds.drop (i + 1)) (wipeE ρ vs)).bind fun ys => .ok (y :: ys)).bind fun ys => .ok (.lst (done ++ ys))) := hr
            cases hev : e ρ1 with
            | ex c' fs =>
              rw [hev] at hr
              exact fun F6 H6 dd e6 x6 => KN.exW (g := .st) hr F6 H6 dd ((e2.trans e35).trans e6) x6
            | st => rw [hev] at hr; exact hr.elim
            | ok y =>
              rw [hev] at hr
              have hr : KN X.K G W (.own o) F1 σ H1 Q ((compD g c e (ds.drop (i + 1)) (wipeE ρ vs)).bind fun ys => .ok (.lst ((done ++ [y]) ++ ys))) := by
                have hr : KN X.K G W (.own o) F1 σ H1 Q (((compD g c e (ds.drop (i + 1)) (wipeE ρ vs)).bind fun ys => .ok (y :: ys)).bind fun ys => .ok (.lst (done ++ ys))) := hr
                revert hr
                cases compD g c e (ds.drop (i + 1)) (wipeE ρ vs) with
                | ok ys =>
                  intro hr
                  have hr : KN X.K G W (.own o) F1 σ H1 Q (.ok (.lst (done ++ (y :: ys)))) := hr
                  show KN X.K G W (.own o) F1 σ H1 Q (.ok (.lst ((done ++ [y]) ++ ys)))
                  rw [List.append_assoc]; exact hr
                | ex c' fs => exact fun hr => hr
                | st => exact fun hr => hr
              intro F6 H6 v0 A6 e6 r6 nd6 fr6
              have e36 := e35.trans e6
              have hD6 := e36.hp _ _ hD2
              have nD6 : ¬ F6 D0 := fun z => by
                rcases e36.nw D0 z with z | z
                · exact nD2 z
                · rw [hD2] at z; cases z
              have le : acc.length = done.length := rl.len
              have hz2 : acc.length < sizeLine := by
                rw [szL_eq]
                omega
              refine ⟨acc, hD6, hz2, F6, done ++ [y], acc ++ [v0], A ++ A6, (e2.trans e36).updN hD nD6, ii.keep _ _ _ _ c2 (e36.keep.trans (keep_upd nD6)), nD6, upd_same, ?_, ?_, ?_, ?_, by simp; omega, hr⟩
              · have up : ∀ d v B, (∀ a ∈ B, a ≠ D0) → RpO X.K G F6 H6 o d v B → RpO X.K G F6 (upd H6 D0 (.lst (acc ++ [v0]))) o d v B := fun d v B hB z => RpO.mono (fun a q => q) o (fun a u ha h => by
                  have : a ≠ D0 := by
                    rcases ha with ha | ha
                    · exact fun z => nD6 (z ▸ ha)
                    · exact hB a ha
                  rw [upd_ne this]; exact h) z
                refine RpL.snoc (rl.imp fun d w B hB z => up d w B (fun a ha z2 => nDA (z2 ▸ hB a ha)) (z.ex e36)) (up y v0 A6 (fun a ha z2 => ?_) r6)
                have := (fr6 a ha).1
                rw [z2, e35.hp _ _ hD2] at this
                cases this
              · refine List.nodup_append.mpr ⟨ndA, nd6, fun a ha b hb z => ?_⟩
                subst z
                obtain ⟨u, hu⟩ := rl.mem (P := fun a => ∃ u, H2 a = some u) (fun d v B q => RpO.some_ o q) a ha
                have := (fr6 a hb).1
                rw [e35.hp a u hu] at this
                cases this
              · intro z
                rcases List.mem_append.mp z with z | z
                · exact nDA z
                · have := (fr6 D0 z).1
                  rw [e35.hp _ _ hD2] at this
                  cases this
              · intro a ha
                rcases List.mem_append.mp ha with ha | ha
                · refine ⟨(frA a ha).1, fun z => ?_⟩
                  rcases e36.nw a z with z | z
                  · exact (frA a ha).2 z
                  · obtain ⟨u, hu⟩ := rl.mem (P := fun a => ∃ u, H2 a = some u) (fun d v B q => RpO.some_ o q) a ha
                    rw [z] at hu; cases hu
                · exact ⟨(e2.trans e35).none (fr6 a ha).1, (fr6 a ha).2⟩
    · left
      have ei : i = ds.length - 0 ∨ ds.length ≤ i := by omega
      have hge : ds.length ≤ i := by omega
      have ei : i = ds.length := by omega
      subst ei
      rw [List.drop_length] at hr
      have hr : KN X.K G W (.own o) F1 σ H1 Q (.ok (.lst (done ++ []))) := hr
      rw [List.append_nil] at hr
      refine ⟨ii.stop F2 H2 c2, hr F2 H2 (.ref D0) (D0 :: A) e2 ?_ (List.nodup_cons.mpr ⟨nDA, ndA⟩) fun a ha => ?_⟩
      · unfold RpO
        exact ⟨D0, acc, A, rfl, rfl, hD2, rl⟩
      · rcases List.mem_cons.mp ha with rfl | ha
        · exact ⟨hD, nD2⟩
        · exact frA a ha
section
variable {own : List (Str × Nat)} {o : Ow} {elt tg iter : Expr} {ifs : List Expr} {scope : Scope} {pos : Pos} {it : NW.Env → R (List D)} {g : D → NW.Env → R NW.Env} {c : NW.Env → R Bool} {e : NW.Env → R D}
theorem gn_compX (tk : Takes X W) (hc : X.calm = true) (hN : X.N.Nodup) (hi : GI X G W O tg iter it) (ok : BlkOk X.N X.env.scope scope own)
    (hg : ∀ (s : Shared) (H : Hp) (C : Addr) (cl : List (Str × Addr)) (fp : List Addr) xe, GP (blkx X s H scope (compEnvC scope cl C X.env) fp xe) G (own.map (·.2)) (wipeO O (own.map (·.2))) O1 tg g)
    (ht : ∀ (s : Shared) (H : Hp) (C : Addr) (cl : List (Str × Addr)) (fp : List Addr) xe W', Takes (blkx X s H scope (compEnvC scope cl C X.env) fp xe) W' → GTsW (blkx X s H scope (compEnvC scope cl C X.env) fp xe) G W' O1 ifs c)
    (he : ∀ (s : Shared) (H : Hp) (C : Addr) (cl : List (Str × Addr)) (fp : List Addr) xe W', Takes (blkx X s H scope (compEnvC scope cl C X.env) fp xe) W' → GN (blkx X s H scope (compEnvC scope cl C X.env) fp xe) G W' O1 o elt e)
    (hs0 : X.stack = X.env :: X.outer := by rfl) (hf0 : X.env.frame = some X.env.locals := by rfl)
    (hs : ∀ x, foldedSetIterable iter X.env x = pure x := by intro _; rfl) : GN X G W O (.own o) (.ListComp elt [⟨tg, iter, ifs, 0⟩] scope pos) (compX (own.map (·.2)) it g c e) := by
  obtain ⟨w, p, i⟩ := hi
  exact ⟨_, pe_lcX (own := own) (tt := rdTW X.K G O1 c) (te := rdNW X.K G O1 o e) hs0 hf0 tk hc hN p ok (fun s H C cl fp xe => (hg s H C cl fp xe).canon) (fun s H C cl fp xe W' t => ht s H C cl fp xe W' t) (fun s H C cl fp xe W' t => (he s H C cl fp xe W' t).canonW) hs, imp_compX i⟩
/-- x = [..], x a local -/
theorem gs_setCompX (i : Nat) {y : Str} {py spos : Pos} (tk : Takes X W) (hc : X.calm = true) (hN : X.N.Nodup) (hi : GI X G W O tg iter it) (ok : BlkOk X.N X.env.scope scope own)
    (hg : ∀ (s : Shared) (H : Hp) (C : Addr) (cl : List (Str × Addr)) (fp : List Addr) xe, GP (blkx X s H scope (compEnvC scope cl C X.env) fp xe) G (own.map (·.2)) (wipeO O (own.map (·.2))) O1 tg g)
    (ht : ∀ (s : Shared) (H : Hp) (C : Addr) (cl : List (Str × Addr)) (fp : List Addr) xe W', Takes (blkx X s H scope (compEnvC scope cl C X.env) fp xe) W' → GTsW (blkx X s H scope (compEnvC scope cl C X.env) fp xe) G W' O1 ifs c)
    (he : ∀ (s : Shared) (H : Hp) (C : Addr) (cl : List (Str × Addr)) (fp : List Addr) xe W', Takes (blkx X s H scope (compEnvC scope cl C X.env) fp xe) W' → GN (blkx X s H scope (compEnvC scope cl C X.env) fp xe) G W' O1 o elt e)
    (hsw : swapsWith (.ListComp elt [⟨tg, iter, ifs, 0⟩] scope pos) (some (.Name y py)) spos.line X.env = pure true) (hy : X.N[i]? = some y := by rfl) (hyl : X.env.scope.names.lookup y = some .local := by rfl) (l : leO O Z.xo = true := by rfl) (h0 : ok0 i (.own o) = true := by rfl)
    (hs0 : X.stack = X.env :: X.outer := by rfl) (hf0 : X.env.frame = some X.env.locals := by rfl)
    (hs : ∀ x, foldedSetIterable iter X.env x = pure x := by intro _; rfl) : GS X G W Z O (O.set i (.own o)) (.Assign [.Name y py] (.ListComp elt [⟨tg, iter, ifs, 0⟩] scope pos) spos) (setS i (compX (own.map (·.2)) it g c e)) := by
  obtain ⟨w, p, j⟩ := hi
  exact ⟨_, ps_setLcX (own := own) (tt := rdTW X.K G O1 c) (te := rdNW X.K G O1 o e) hs0 hf0 tk hc hN hy hyl hsw p ok (fun s H C cl fp xe => (hg s H C cl fp xe).canon) (fun s H C cl fp xe W' t => ht s H C cl fp xe W' t) (fun s H C cl fp xe W' t => (he s H C cl fp xe W' t).canonW) hs, imp_set (imp_compX j) l h0⟩
end
end
end NW
end

section
set_option Elab.async false
set_option linter.all false
set_option maxRecDepth 100000
/-! NWp: appends, nested stores, dict stores and displays, own displays, augmented assignments, chains. -/
namespace NW
open PySem PySem.Spec L2
open PyProof.Rows hiding St

section
variable {K : PySem.W.Frag} {G : Gb} {γ : Gh} {O : List Ow} {F F' : Fr} {H H' : Hp} {σ : St} {ρ : NW.Env}
/-- an own object takes new owned ones -/
theorem ST.mod {i : Nat} {o : Ow} {d d' : D} {v : V} {p : Addr} {ob : HO} {B : List Addr} (h : ST K G γ O F σ H ρ) (e : Ex F H F' H') (new : ∀ a ∈ B, H a = none ∧ ¬ F' a) (ho : O[i]? = some o) (hn : o ≠ .na) (hd : ρ[i]? = some (some d)) (hv : σ[i]? = some (some v))
    (k : ∀ A, RpO K G F' H' o d v A → A.Nodup → (∀ a ∈ A, a ∉ B) → (∀ a ∈ A, ¬ F' a) → p ∈ A ∧ ∃ A', RpO K G F' (upd H' p ob) o d' v A' ∧ A'.Nodup ∧ ∀ a ∈ A', a ∈ A ∨ a ∈ B) : ST K G γ O F' σ (upd H' p ob) (ρ.set i (some d')) := by
  obtain ⟨As, q0, own⟩ := h.sl
  have fresh : ∀ a ∈ B, ∀ l, a ∉ As l := fun a ha l hl => by
    obtain ⟨_, u, hu⟩ := q0.nf l a hl
    rw [(new a ha).1] at hu
    cases hu
  have oB : ∀ a ∈ B, γ.B a = none ∨ a ∈ γ.M := fun a ha => by
    left
    cases z : γ.B a with
    | none => rfl
    | some u =>
      obtain ⟨w, hw⟩ := h.ex.al a u z
      rw [(new a ha).1] at hw
      cases hw
  have q := q0.ex e
  have hs := q.sl i o ho
  rcases hs with ⟨z, _⟩ | ⟨z, _⟩ | ⟨d0, v0, z1, z2, r⟩
  · exact absurd z hn
  · rw [hd] at z; cases z
  rw [hd] at z1
  rw [hv] at z2
  cases z1
  cases z2
  obtain ⟨hp, A', r', nd', sub⟩ := k _ r (q.nd i) (fun a ha hb => fresh a hb i ha) fun a ha => (q.nf i a ha).1
  have hil : i < O.length := (List.getElem?_eq_some_iff.mp ho).1
  obtain ⟨hpF, _⟩ := q.nf i p hp
  refine ⟨(h.ex.step e).write (own i p hp), γ.hC _ _ _ _ h.cs (e.keep.trans (keep_upd hpF)), h.me, fun j => if j = i then A' else As j, ⟨by simp [q.lr], q.ls, fun j oj hj => ?_, fun j l a h1 h2 => ?_, fun j => ?_, fun j a ha => ?_⟩, fun j a ha => ?_⟩
  · rw [set_at]
    by_cases hij : i = j
    · subst hij
      rw [ho] at hj
      cases hj
      rw [if_pos rfl, if_pos (by rw [q.lr]; exact hil), if_pos rfl]
      exact .inr (.inr ⟨d', v, rfl, hv, r'⟩)
    · rw [if_neg hij, if_neg (fun z => hij z.symm)]
      rcases q.sl j oj hj with z | z | ⟨dj, vj, y1, y2, y3⟩
      · exact .inl z
      · exact .inr (.inl z)
      · refine .inr (.inr ⟨dj, vj, y1, y2, RpO.mono (fun a q => q) oj (fun a u ha e => ?_) y3⟩)
        have : a ≠ p := by
          rintro rfl
          rcases ha with ha | ha
          · exact hpF ha
          · exact hij (q.dj i j a hp ha)
        rw [upd_ne this]
        exact e
  · try dsimp only at h1 h2
    split at h1 <;> split at h2
    · rename_i z1 z2
      exact z1.trans z2.symm
    · rename_i z1 z2
      rcases sub a h1 with h1 | h1
      · exact z1.trans (q.dj i l a h1 h2)
      · exact absurd h2 (fresh a h1 l)
    · rename_i z1 z2
      rcases sub a h2 with h2 | h2
      · exact (q.dj j i a h1 h2).trans z2.symm
      · exact absurd h1 (fresh a h2 j)
    · exact q.dj j l a h1 h2
  · try dsimp only
    split
    · exact nd'
    · exact q.nd j
  · try dsimp only at ha
    split at ha
    · refine ⟨?_, r'.some_ o a ha⟩
      rcases sub a ha with ha | ha
      · exact (q.nf i a ha).1
      · exact (new a ha).2
    · rename_i hji
      obtain ⟨h1, u, h2⟩ := q.nf j a ha
      refine ⟨h1, u, ?_⟩
      have : a ≠ p := by
        rintro rfl
        exact hji (q.dj j i a ha hp)
      rw [upd_ne this]
      exact h2
  · try dsimp only at ha
    split at ha
    · rcases sub a ha with ha | ha
      · exact own i a ha
      · exact oB a ha
    · exact own j a ha
/-- a part of an own list, the others apart -/
theorem RpL.at_ {R : D → V → List Addr → Prop} : ∀ {ds : List D} {vs : List V} {A : List Addr} {m : Nat} {d : D}, RpL R ds vs A → ds[m]? = some d → ∃ v A1 B A2, vs[m]? = some v ∧ A = A1 ++ (B ++ A2) ∧ R d v B ∧
    ∀ (R' : D → V → List Addr → Prop) d' B', (∀ e w C, (∀ a ∈ C, a ∈ A1 ++ A2) → R e w C → R' e w C) → R' d' v B' → RpL R' (ds.set m d') vs (A1 ++ (B' ++ A2))
  | [], _, _, _, _, _, e => by simp at e
  | d :: ds, _, _, 0, d0, h, e => by
    unfold RpL at h
    obtain ⟨v, r, A1, A2, rfl, rfl, h1, h2⟩ := h
    simp at e; subst e
    refine ⟨v, [], A1, A2, by simp, rfl, h1, fun R' d' B' k k2 => ?_⟩
    show RpL R' (d' :: ds) (v :: r) ([] ++ (B' ++ A2))
    unfold RpL
    exact ⟨v, r, B', A2, rfl, rfl, k2, h2.imp fun e w C hC q => k e w C hC q⟩
  | d :: ds, _, _, m + 1, d0, h, e => by
    unfold RpL at h
    obtain ⟨v, r, A1, A2, rfl, rfl, h1, h2⟩ := h
    obtain ⟨w, B1, B, B2, q1, q2, q3, q4⟩ := RpL.at_ (m := m) h2 (by simpa using e)
    subst q2
    refine ⟨w, A1 ++ B1, B, B2, by simpa using q1, by rw [List.append_assoc], q3, fun R' d' B' k k2 => ?_⟩
    show RpL R' (d :: ds.set m d') (v :: r) _
    unfold RpL
    refine ⟨v, r, A1, B1 ++ (B' ++ B2), rfl, by rw [List.append_assoc], k d v A1 (fun a ha => List.mem_append_left _ (List.mem_append_left _ ha)) h1, q4 R' d' B' (fun e w C hC q => k e w C (fun a ha => ?_) q) k2⟩
    rcases List.mem_append.mp (hC a ha) with z | z
    · exact List.mem_append_left _ (List.mem_append_right _ z)
    · exact List.mem_append_right _ z
theorem RpO.keep_upd {o : Ow} {d : D} {v : V} {A : List Addr} {p : Addr} {ob : HO} (h : RpO K G F H o d v A) (hF : ¬ F p) (hA : p ∉ A) : RpO K G F (upd H p ob) o d v A := RpO.mono (fun a q => q) o (fun a u ha e => by
  have : a ≠ p := by
    rintro rfl
    exact ha.elim hF hA
  rw [upd_ne this]; exact e) h
end

section
variable {X : Cx} {G : Gb} {W : WX} {Z : Exits} {O O' O1 : List Ow} {γ : Gh} {F F' : Fr} {H H' : Hp} {σ : St} {ρ : NW.Env} {E : Ends}
/-! ### append -/
def appS (i : Nat) (f : NW.Env → R D) : NW.Env → Out := fun ρ => match ρ[i]? with
  | some (some (.lst ds)) => (f ρ).out ρ fun d => if ds.length < szL then .nx (ρ.set i (some (.lst (ds ++ [d])))) else .st
  | _ => .st
theorem gs_append (i : Nat) {o : Ow} {x : Str} {e : Expr} {p2 apos cpos pos : Pos} {f : NW.Env → R D} (h : GN X G W O o e f) (ho : O[i]? = some (.own o) := by rfl) (hN : X.N[i]? = some x := by rfl) (hv : Vis X.env.scope x := by first | exact Or.inl rfl | exact Or.inr (Or.inl rfl) | exact Or.inr (Or.inr rfl))
    (hd : (x == ("__debug__" : Str)) = false := by decide) (hcd : (x == ("__classdict__" : Str)) = false := by decide) (l : leO O Z.xo = true := by rfl)
    (hs : swapsWith (.Call (.Attribute (.Name x p2) "append" apos) [e] [] cpos) none pos.line X.env = pure false := by rfl)
    (hbase : attributeBase (.Name x p2) "append" X.env (eval (.Name x p2) X.env) = eval (.Name x p2) X.env := by rfl)
    (hfew : ((backTo cpos (starEach [e] X.env)).all (fun x => !x.1) && (backToKw cpos (keywordEach [] X.env)).all (fun x => x.1.isSome)
      && decide ([e].length + ([] : List Keyword).length + (if ([] : List Keyword).isEmpty then 0 else 1) < 30)) = true := by rfl)
    (hline : (apos.endLine == cpos.line) = true := by rfl) (hst : starEach [e] X.env = (false, eval e X.env) :: starEach [] X.env := by rfl) :
    GS X G W Z O O (.Expr (.Call (.Attribute (.Name x p2) "append" apos) [e] [] cpos) pos) (appS i f) := by
  obtain ⟨t, p, j⟩ := h
  refine ⟨_, ps_expr (pe_bm PySem.F.plainAttrs_list PySem.F.slot_list_append PySem.F.type_list_append mt_append (pe_var hN hv hd hcd) (pa_cons p pa_nil hst) hbase hfew hline hst rfl) hs, fun γ F σ H ρ E s k => ?_⟩
  unfold appS at k
  split at k
  · rename_i ds e3
    obtain ⟨w, A, h1, h2, _⟩ := s.at_ ho (by intro z; cases z) e3
    obtain ⟨q, vs, B, ew, hp, _⟩ := h2.lstE
    subst ew
    refine ⟨.ref q, h1, .inl ⟨rfl, vs, SqL.of hp⟩, stm_N (t := t) j s l k fun d F' H' v B' e1 r1 nd n1 k1 => ?_⟩
    split at k1
    · rename_i hz
      have hp' := e1.hp _ _ hp
      refine ⟨q, vs, v, rfl, rfl, hp', ?_, k1 F' σ _ (s.mod (B := B') e1 n1 ho (by intro z; cases z) e3 h1 fun A1 ra nda dis nF => ?_)⟩
      · obtain ⟨q', vs', B2, ew', hp2, rl⟩ := h2.lstE
        cases ew'
        rw [hp] at hp2; cases hp2
        rw [szL_eq, rl.len]; exact hz
      · unfold RpO at ra
        obtain ⟨q', vs', A', ew', rfl, hq, rl⟩ := ra
        cases ew'
        rw [hp'] at hq; cases hq
        have qA : q ∉ A' := (List.nodup_cons.mp nda).1
        have ndA' := (List.nodup_cons.mp nda).2
        have qF : ¬ F' q := nF q List.mem_cons_self
        have qB : q ∉ B' := dis q List.mem_cons_self
        refine ⟨List.mem_cons_self, q :: (A' ++ B'), ?_, List.nodup_cons.mpr ⟨fun z => ?_, List.nodup_append.mpr ⟨ndA', nd, fun a ha b hb z => ?_⟩⟩, fun a ha => ?_⟩
        · unfold RpO
          refine ⟨q, _, A' ++ B', rfl, rfl, upd_same, ?_⟩
          exact RpL.snoc (rl.imp fun d w C hC z => z.keep_upd qF fun y => qA (hC q y)) (r1.keep_upd qF qB)
        · rcases List.mem_append.mp z with z | z
          · exact qA z
          · exact qB z
        · subst z
          exact dis a (List.mem_cons_of_mem _ ha) hb
        · rcases List.mem_cons.mp ha with rfl | ha
          · exact .inl List.mem_cons_self
          · rcases List.mem_append.mp ha with ha | ha
            · exact .inl (List.mem_cons_of_mem _ ha)
            · exact .inr ha
    · exact k1.elim
  · exact k.elim

/-! ### x[j].append(e) -/
def app2S (i : Nat) (fj : NW.Env → R D) (f : NW.Env → R D) : NW.Env → Out := fun ρ => match ρ[i]? with
  | some (some (.lst ds)) => (fj ρ).out ρ fun j => match j with
    | .int n => (match ixN ds.length n with
      | some m => (match ds[m]? with
        | some (.lst es) => (f ρ).out ρ fun d => if es.length < szL then .nx (ρ.set i (some (.lst (ds.set m (.lst (es ++ [d])))))) else .st
        | _ => .st)
      | none => .st)
    | _ => .st
  | _ => .st
theorem own2 {K : PySem.W.Frag} {ds : List D} {v : V} {A : List Addr} {o : Ow} (h : RpO K G F H (.own o) (.lst ds) v A) : ∃ p vs A', v = .ref p ∧ A = p :: A' ∧ H p = some (.lst vs) ∧ RpL (RpO K G F H o) ds vs A' := by
  unfold RpO at h; exact h
theorem atI_ix {α : Type} {xs : List α} {n : Int} {m : Nat} {v : α} (h : ixN xs.length n = some m) (e : xs[m]? = some v) : atI xs n = some v := atI_same rfl h e
theorem gs_append2 (i : Nat) {oj : Ow} {x : Str} {j e : Expr} {p2 p3 apos cpos pos : Pos} {fj f : NW.Env → R D} (hj : GB X G W O oj j fj) (h : GB X G W O .fz e f) (ho : O[i]? = some (.own (.own .fz)) := by rfl) (hN : X.N[i]? = some x := by rfl) (hv : Vis X.env.scope x := by first | exact Or.inl rfl | exact Or.inr (Or.inl rfl) | exact Or.inr (Or.inr rfl))
    (hd : (x == ("__debug__" : Str)) = false := by decide) (hcd : (x == ("__classdict__" : Str)) = false := by decide) (l : leO O Z.xo = true := by rfl) (hx : PlainIx j := by exact fun _ _ => rfl)
    (hs : swapsWith (.Call (.Attribute (.Subscript (.Name x p2) j p3) "append" apos) [e] [] cpos) none pos.line X.env = pure false := by rfl)
    (hbase : attributeBase (.Subscript (.Name x p2) j p3) "append" X.env (eval (.Subscript (.Name x p2) j p3) X.env) = eval (.Subscript (.Name x p2) j p3) X.env := by rfl)
    (hfew : ((backTo cpos (starEach [e] X.env)).all (fun x => !x.1) && (backToKw cpos (keywordEach [] X.env)).all (fun x => x.1.isSome)
      && decide ([e].length + ([] : List Keyword).length + (if ([] : List Keyword).isEmpty then 0 else 1) < 30)) = true := by rfl)
    (hline : (apos.endLine == cpos.line) = true := by rfl) (hst : starEach [e] X.env = (false, eval e X.env) :: starEach [] X.env := by rfl) :
    GS X G W Z O O (.Expr (.Call (.Attribute (.Subscript (.Name x p2) j p3) "append" apos) [e] [] cpos) pos) (app2S i fj f) := by
  obtain ⟨tj, pj, ij⟩ := hj
  obtain ⟨t, p, jj⟩ := h
  refine ⟨_, ps_expr (pe_bm PySem.F.plainAttrs_list PySem.F.slot_list_append PySem.F.type_list_append mt_append (pe_ix ix_list (pe_var hN hv hd hcd) pj hx) (pa_cons p pa_nil hst) hbase hfew hline hst rfl) hs, fun γ F σ H ρ E s k => ?_⟩
  unfold app2S at k
  split at k
  · rename_i ds e3
    obtain ⟨w, A, h1, h2, _, nA⟩ := s.at_ ho (by decide) e3
    obtain ⟨q, vs, A', ew, eA, hp, _⟩ := own2 h2
    subst ew
    refine ⟨.ref q, h1, stm_B (t := tj) ij s l k fun dj F1 H1 vj Aj e1 rj k1 => ?_⟩
    split at k1
    · rename_i n
      split at k1
      · rename_i m hm
        split at k1
        · rename_i es hes
          have s1 := s.step e1
          obtain ⟨w1, A1, h1b, h2b, nd1, nF1⟩ := s1.at_ ho (by decide) e3
          rw [h1] at h1b; cases h1b
          obtain ⟨q', vs', B', ew', eA', hq, rl⟩ := own2 h2b
          cases ew'
          obtain ⟨v1, C1, C, C2, g1, g2, g3, g4⟩ := rl.at_ hes
          obtain ⟨qq, ws, C', ev, eC, hqq, rl2⟩ := own2 g3
          subst ev
          refine ⟨q, vs', n, .ref qq, rfl, rj.int_, SqL.of hq, atI_ix (by rw [rl.len]; exact hm) g1, .inl ⟨rfl, ws, SqL.of hqq⟩, ?_⟩
          refine stm_B (t := t) jj s1 l k1 fun d F2 H2 v Av e2 r2 k2 => ?_
          split at k2
          · rename_i hz
            have hqq2 := e2.hp _ _ hqq
            refine ⟨qq, ws, v, rfl, rfl, hqq2, by rw [szL_eq, rl2.len]; exact hz, k2 F2 σ _ (s1.mod (B := []) e2 (fun a ha => nomatch ha) ho (by decide) e3 h1 fun A2 ra nda dis nF => ?_)⟩
            obtain ⟨q', vs2, D', ew', eD, hq2, rl3⟩ := own2 ra
            cases ew'
            have : vs2 = vs' := by
              have z := e2.hp _ _ hq
              rw [z] at hq2; cases hq2; rfl
            subst this
            obtain ⟨v2, E1, E, E2, y1, y2, y3, y4⟩ := rl3.at_ hes
            rw [g1] at y1; cases y1
            obtain ⟨q3, ws3, E', ev3, eE, hq3, rl4⟩ := own2 y3
            cases ev3
            rw [hqq2] at hq3; cases hq3
            obtain ⟨eE', rs⟩ := rpl_fz.mp rl4
            subst eE' eE y2 eD
            have nd0 := List.nodup_cons.mp nda
            have qF : ¬ F2 qq := nF qq (by simp)
            have nd2 := List.nodup_append.mp nd0.2
            have nq1 : ∀ a ∈ E1, a ≠ qq := fun a ha => nd2.2.2 a ha qq (by simp)
            have nq2 : qq ∉ E2 := (List.nodup_cons.mp (show (qq :: E2).Nodup from nd2.2.1)).1
            have nq : qq ≠ q := fun z => nd0.1 (by rw [← z]; simp)
            refine ⟨by simp, q :: (E1 ++ ([qq] ++ E2)), ?_, nda, fun a ha => .inl ha⟩
            unfold RpO
            refine ⟨q, vs2, E1 ++ ([qq] ++ E2), rfl, rfl, by rw [upd_ne (Ne.symm nq)]; exact hq2, ?_⟩
            refine y4 _ _ _ (fun e w C hC z => z.keep_upd qF fun y => ?_) ?_
            · rcases List.mem_append.mp (hC qq y) with z | z
              · exact nq1 qq z rfl
              · exact nq2 z
            · exact own_lst' upd_same ((rps_upd rs qF).append (rps_cons (rp_upd (rpo_fz.mp r2).2 qF) rps_nil))
          · exact k2.elim
        · exact k1.elim
      · exact k1.elim
    · exact k1.elim
  · exact k.elim

/-! ### x[j1][j2] = e -/
def sub2G (i : Nat) (f1 f2 : NW.Env → R D) : D → NW.Env → R NW.Env := fun d ρ => match ρ[i]? with
  | some (some (.lst ds)) => (f1 ρ).bind fun j => match j with
    | .int n => (match ixN ds.length n with
      | some m => (match ds[m]? with
        | some (.lst es) => (f2 ρ).bind fun j2 => match j2 with
          | .int n2 => (match ixN es.length n2 with | some m2 => .ok (ρ.set i (some (.lst (ds.set m (.lst (es.set m2 d)))))) | none => .st)
          | _ => .st
        | _ => .st)
      | none => .st)
    | _ => .st
  | _ => .st
theorem okB {α β : Type} {r : R α} {g : α → R β} {b : β} (h : r.bind g = .ok b) : ∃ a, r = .ok a ∧ g a = .ok b := by
  cases r with
  | ok a => exact ⟨a, rfl, h⟩
  | ex c fs => cases h
  | st => cases h
theorem imp_ok {o : Ow} {t : TE} {f : NW.Env → R D} {d : D} {R' : V → Hp → Prop} {W0 : WX} (i : ImpB X.K G W0 O o t f) (s : SS X.K G O F σ H ρ) (e : f ρ = .ok d) (c : ∀ F' H' v A, Ex F H F' H' → RpO X.K G F' H' o d v A → R' v H') : t σ H R' := by
  refine i F σ H ρ _ s ?_
  rw [e]
  exact c
theorem gg_sub2 (i : Nat) {o1 o2 : Ow} {x : Str} {j1 j2 : Expr} {pos p2 p3 : Pos} {f1 f2 : NW.Env → R D} (h1 : GB X G W O o1 j1 f1) (h2 : GB X G W O o2 j2 f2) (ho : O[i]? = some (.own (.own .fz)) := by rfl) (hN : X.N[i]? = some x := by rfl) (hv : Vis X.env.scope x := by first | exact Or.inl rfl | exact Or.inr (Or.inl rfl) | exact Or.inr (Or.inr rfl))
    (hd : (x == ("__debug__" : Str)) = false := by decide) (hcd : (x == ("__classdict__" : Str)) = false := by decide) (hx : PlainIx j1 := by exact fun _ _ => rfl)
    (ha : ∀ v, assign (.Subscript (.Subscript (.Name x p2) j1 p3) j2 pos) X.env v = (do
      let ov ← holding [v] (eval (.Subscript (.Name x p2) j1 p3) X.env)
      let iv ← holding [v, ov] (eval j2 X.env)
      standAt pos
      holding [v, ov, iv] (setItem ov iv v)
      release [v, ov, iv] []) := by intro _; rfl) : GG X G O O (.Subscript (.Subscript (.Name x p2) j1 p3) j2 pos) (sub2G i f1 f2) := by
  obtain ⟨t1, q1, i1⟩ := h1
  obtain ⟨t2, q2, i2⟩ := h2
  refine ⟨_, pg_sub (pe_ix ix_list (pe_var hN hv hd hcd) q1 hx) q2 set_list ha, fun γ F σ H ρ d v Q s r q => ?_⟩
  obtain ⟨ρ', e0, q⟩ := okG q
  unfold sub2G at e0
  split at e0
  · rename_i ds e3
    obtain ⟨dj, ej, e0⟩ := okB e0
    split at e0
    · rename_i n
      split at e0
      · rename_i m hm
        split at e0
        · rename_i es hes
          obtain ⟨dj2, ej2, e0⟩ := okB e0
          split at e0
          · rename_i n2
            split at e0
            · rename_i m2 hm2
              cases e0
              obtain ⟨w, A, hw, hA, _, nA⟩ := s.at_ ho (by decide) e3
              obtain ⟨p, vs, A', ew, eA, hp, _⟩ := own2 hA
              subst ew
              refine ⟨.ref p, hw, imp_ok (t := t1) i1 s.ss ej fun F1 H1 vj Aj x1 rj => ?_⟩
              have s1 := s.step x1
              obtain ⟨w1, A1, hwb, hA1, nd1, nF1⟩ := s1.at_ ho (by decide) e3
              rw [hw] at hwb; cases hwb
              obtain ⟨p', vs', B', ew', eA', hq, rl⟩ := own2 hA1
              cases ew'
              obtain ⟨v1, C1, C, C2, g1, g2, g3, g4⟩ := rl.at_ hes
              obtain ⟨qq, ws, C', ev, eC, hqq, rl2⟩ := own2 g3
              subst ev
              refine ⟨p, vs', n, .ref qq, rfl, rj.int_, SqL.of hq, atI_ix (by rw [rl.len]; exact hm) g1, imp_ok (t := t2) i2 s1.ss ej2 fun F2 H2 vj2 Aj2 x2 rj2 => ?_⟩
              have hqq2 := x2.hp _ _ hqq
              refine ⟨qq, ws, n2, m2, rfl, rj2.int_, hqq2, by rw [rl2.len]; exact hm2, ?_⟩
              have s2 := s1.step x2
              have nqq : ¬ F2 qq := by
                obtain ⟨w2, A2, hw2, hA2, nd2, nF2⟩ := s2.at_ ho (by decide) e3
                rw [hw] at hw2; cases hw2
                obtain ⟨p', vs2, D', ew', eD, hq2, rl3⟩ := own2 hA2
                cases ew'
                have : vs2 = vs' := by
                  have z := x2.hp _ _ hq
                  rw [z] at hq2; cases hq2; rfl
                subst this
                obtain ⟨v2, E1, E, E2, y1, y2, y3, y4⟩ := rl3.at_ hes
                rw [g1] at y1; cases y1
                obtain ⟨q3, ws3, E', ev3, eE, hq3, rl4⟩ := own2 y3
                cases ev3
                exact nF2 qq (by rw [eD, y2, eE]; simp)
              refine q F2 σ _ (s1.mod (B := []) x2 (fun a ha => nomatch ha) ho (by decide) e3 hw fun A2 ra nda dis nF => ?_) ((x1.trans x2).keep.trans (keep_upd nqq))
              obtain ⟨q', vs2, D', ew', eD, hq2, rl3⟩ := own2 ra
              cases ew'
              have : vs2 = vs' := by
                have z := x2.hp _ _ hq
                rw [z] at hq2; cases hq2; rfl
              subst this
              obtain ⟨v2, E1, E, E2, y1, y2, y3, y4⟩ := rl3.at_ hes
              rw [g1] at y1; cases y1
              obtain ⟨q3, ws3, E', ev3, eE, hq3, rl4⟩ := own2 y3
              cases ev3
              rw [hqq2] at hq3; cases hq3
              obtain ⟨eE', rs⟩ := rpl_fz.mp rl4
              subst eE' eE y2 eD
              have nd0 := List.nodup_cons.mp nda
              have qF : ¬ F2 qq := nqq
              have nd2 := List.nodup_append.mp nd0.2
              have nq1 : ∀ a ∈ E1, a ≠ qq := fun a ha => nd2.2.2 a ha qq (by simp)
              have nq2 : qq ∉ E2 := (List.nodup_cons.mp (show (qq :: E2).Nodup from nd2.2.1)).1
              have nq : qq ≠ p := fun z => nd0.1 (by rw [← z]; simp)
              refine ⟨by simp, p :: (E1 ++ ([qq] ++ E2)), ?_, nda, fun a ha => .inl ha⟩
              unfold RpO
              refine ⟨p, vs2, E1 ++ ([qq] ++ E2), rfl, rfl, by rw [upd_ne (Ne.symm nq)]; exact hq2, ?_⟩
              refine y4 _ _ _ (fun e w C hC z => z.keep_upd qF fun y => ?_) ?_
              · rcases List.mem_append.mp (hC qq y) with z | z
                · exact nq1 qq z rfl
                · exact nq2 z
              · exact own_lst' upd_same ((rps_upd rs qF).set m2 (rp_upd (r.ex (x1.trans x2)) qF))
            · cases e0
          · cases e0
        · cases e0
      · cases e0
    · cases e0
  · cases e0
end
end NW
end

section
set_option Elab.async false
set_option linter.all false
set_option maxRecDepth 100000
/-! NWq: dict stores and displays, own displays, augmented assignments, chains, class constants. -/
namespace NW
open PySem PySem.Spec L2
open PyProof.Rows hiding St

/-! ### d[k] = e -/
def dputD (ks ds : List D) (x d : D) : Option (List D × List D) := match keyOf x with
  | some k => if ks.length < szL then (if (findK ks k).isSome then some (ks, List.zipWith (fun a b => if keyOf a = some k then d else b) ks ds) else some (ks ++ [x], ds ++ [d])) else none
  | none => none
theorem keyOf_eq {x : D} {k : List Key} (h : keyOf x = some k) : x = keyD k := by
  cases x <;> first | (cases h; done) | skip
  rename_i xs
  show D.tup xs = D.tup (k.map key1)
  rw [keysOf_inv h]
theorem any_find : ∀ {kk : List (List Key)} {vs : List V} (k : List Key), kk.length = vs.length → ((kk.zip vs).any fun kv => decide (kv.1 = k)) = (findK (kk.map keyD) k).isSome
  | [], [], k, _ => rfl
  | [], _ :: _, _, h => by cases h
  | _ :: _, [], _, h => by cases h
  | a :: kk, v :: vs, k, h => by
    have ih := any_find (kk := kk) (vs := vs) k (by simpa using h)
    show (decide (a = k) || (kk.zip vs).any fun kv => decide (kv.1 = k)) = _
    unfold findK at ih ⊢
    rw [List.map_cons, List.findIdx?_cons, keyOf_keyD]
    by_cases e : a = k
    · simp [e]
    · rw [ih]
      simp [e]
theorem put_in : ∀ {kk : List (List Key)} {vs : List V} (k : List Key) (v : V), kk.length = vs.length → (kk.zip vs).map (fun kv => if kv.1 = k then (kv.1, v) else kv) = kk.zip (List.zipWith (fun a b => if a = k then v else b) kk vs)
  | [], [], k, _, _ => rfl
  | [], _ :: _, _, _, h => by cases h
  | _ :: _, [], _, _, h => by cases h
  | a :: kk, w :: vs, k, v, h => by
    have ih := put_in (kk := kk) (vs := vs) k v (by simpa using h)
    show (if a = k then (a, v) else (a, w)) :: (kk.zip vs).map (fun kv => if kv.1 = k then (kv.1, v) else kv) = (a, if a = k then v else w) :: kk.zip (List.zipWith (fun a b => if a = k then v else b) kk vs)
    rw [ih]
    by_cases e : a = k
    · rw [if_pos e, if_pos e]
    · rw [if_neg e, if_neg e]
theorem rps_put {K : PySem.W.Frag} {G : Gb} {F : Fr} {H : Hp} {d : D} {v : V} (r : Rp K G F H d v) (k : List Key) : ∀ {kk : List (List Key)} {ds : List D} {vs : List V}, Rps K G F H ds vs → Rps K G F H (List.zipWith (fun a b => if keyOf a = some k then d else b) (kk.map keyD) ds) (List.zipWith (fun a b => if a = k then v else b) kk vs)
  | [], ds, vs, _ => by simp; exact rps_nil
  | a :: kk, [], vs, h => by
    unfold Rps at h
    subst h
    simp; exact rps_nil
  | a :: kk, d0 :: ds, vs, h => by
    unfold Rps at h
    obtain ⟨w, ws, rfl, h1, h2⟩ := h
    have ih := rps_put r k (kk := kk) h2
    show Rps K G F H ((if keyOf (keyD a) = some k then d else d0) :: _) ((if a = k then v else w) :: _)
    rw [keyOf_keyD]
    by_cases e : a = k
    · rw [if_pos (by rw [e]), if_pos e]
      exact rps_cons r ih
    · rw [if_neg (fun z => e (Option.some.inj z)), if_neg e]
      exact rps_cons h1 ih
section
variable {X : Cx} {G : Gb} {W : WX} {Z : Exits} {O O' O1 : List Ow} {γ : Gh} {F F' : Fr} {H H' : Hp} {σ : St} {ρ : NW.Env} {E : Ends}
theorem own_dct {K : PySem.W.Frag} {ks ds : List D} {v : V} {A : List Addr} (h : RpO K G F H (.own .fz) (.dct ks ds) v A) : ∃ p vs, v = .ref p ∧ A = [p] ∧ DctAt H p ks vs ∧ Rps K G F H ds vs := by
  unfold RpO at h
  obtain ⟨p, vs, A', ew, eA, hp, hr⟩ := h
  obtain ⟨eA', rs⟩ := rpl_fz.mp hr
  subst eA' eA
  exact ⟨p, vs, ew, rfl, hp, rs⟩
theorem dput_ok {K : PySem.W.Frag} {oy : Ow} {ks ds ks' ds' : List D} {x d : D} {p : Addr} {vs : List V} {y v : V} {B : List Addr} (hp : DctAt H p ks vs) (npF : ¬ F p) (rs : Rps K G F H ds vs) (ry : RpO K G F H oy x y B) (r : Rp K G F H d v) (e : dputD ks ds x d = some (ks', ds')) :
    ∃ H', DPut H p y v H' ∧ ∃ ob, H' = upd H p ob ∧ RpO K G F H' (.own .fz) (.dct ks' ds') (.ref p) [p] := by
  unfold dputD at e
  obtain ⟨kk, ek, el, hh⟩ := hp
  split at e
  · rename_i k hk
    split at e
    · rename_i hz
      obtain ⟨b, ey, hb⟩ := keyAt ry hk
      have hlen : (kk.zip vs).length = ks.length := by rw [ek, List.length_zip, List.length_map, el, Nat.min_self]
      refine ⟨_, ey ▸ DPut.t hh hb (by rw [hlen, szL_eq]; exact hz), _, rfl, ?_⟩
      have ex : x = keyD k := by
        cases x <;> first | (cases hk; done) | skip
        rename_i xs
        show D.tup xs = D.tup (k.map key1)
        rw [keysOf_inv hk]
      unfold RpO
      have e1 : putK (kk.zip vs) k v = (if (findK ks k).isSome then kk.zip (List.zipWith (fun a b => if a = k then v else b) kk vs) else (kk ++ [k]).zip (vs ++ [v])) := by
        unfold putK
        rw [any_find k el, ← ek]
        by_cases q : (findK ks k).isSome = true
        · rw [if_pos q, if_pos q]; exact put_in k v el
        · rw [if_neg q, if_neg q, List.zip_append el]; rfl
      by_cases q : (findK ks k).isSome = true
      · rw [if_pos q] at e e1
        cases e
        refine ⟨p, List.zipWith (fun a b => if a = k then v else b) kk vs, [], rfl, rfl, ⟨kk, ek, by rw [List.length_zipWith, el, Nat.min_self], by rw [e1]; exact upd_same⟩, rpl_fz.mpr ⟨rfl, ?_⟩⟩
        rw [ek]
        exact rps_put (rp_upd r npF) k (rps_upd rs npF)
      · rw [if_neg q] at e e1
        cases e
        refine ⟨p, vs ++ [v], [], rfl, rfl, ⟨kk ++ [k], by rw [ek, ex, List.map_append]; rfl, by rw [List.length_append, List.length_append, el]; rfl, by rw [e1]; exact upd_same⟩, rpl_fz.mpr ⟨rfl, (rps_upd rs npF).append (rps_cons (rp_upd r npF) rps_nil)⟩⟩
    · cases e
  · cases e
def dsubG (i : Nat) (fj : NW.Env → R D) : D → NW.Env → R NW.Env := fun d ρ => match ρ[i]? with
  | some (some (.dct ks ds)) => (fj ρ).bind fun j => opt ((dputD ks ds j d).map fun p => ρ.set i (some (.dct p.1 p.2)))
  | _ => .st
theorem gg_dsub (i : Nat) {kk : Nat} {oj : Ow} {x : Str} {j : Expr} {pos p2 : Pos} {fj : NW.Env → R D} (hr : Room kk X.A) (hj : GB X G W O oj j fj) (ho : O[i]? = some (.own .fz) := by rfl) (hN : X.N[i]? = some x := by rfl) (hv : Vis X.env.scope x := by first | exact Or.inl rfl | exact Or.inr (Or.inl rfl) | exact Or.inr (Or.inr rfl))
    (hd : (x == ("__debug__" : Str)) = false := by decide) (hcd : (x == ("__classdict__" : Str)) = false := by decide)
    (ha : ∀ v, assign (.Subscript (.Name x p2) j pos) X.env v = (do
      let ov ← holding [v] (eval (.Name x p2) X.env)
      let iv ← holding [v, ov] (eval j X.env)
      standAt pos
      holding [v, ov, iv] (setItem ov iv v)
      release [v, ov, iv] []) := by intro _; rfl) : GG X G O O (.Subscript (.Name x p2) j pos) (dsubG i fj) := by
  obtain ⟨tj, pj, ij⟩ := hj
  refine ⟨_, pg_sub (pe_var hN hv hd hcd) pj (set_dict (hu_of hr)) ha, fun γ F σ H ρ d v Q s r q => ?_⟩
  obtain ⟨ρ', e0, q⟩ := okG q
  unfold dsubG at e0
  split at e0
  · rename_i ks ds e3
    obtain ⟨dj, ej, e0⟩ := okB e0
    cases hp : dputD ks ds dj d with
    | none => rw [hp] at e0; cases e0
    | some pr =>
      obtain ⟨ks', ds'⟩ := pr
      rw [hp] at e0
      cases e0
      obtain ⟨w, A, hw, hA, _, nA⟩ := s.at_ ho (by decide) e3
      refine ⟨w, hw, imp_ok (t := tj) ij s.ss ej fun F1 H1 vj Aj x1 rj => ?_⟩
      have s1 := s.step x1
      obtain ⟨w1, A1, hwb, hA1, nd1, nF1⟩ := s1.at_ ho (by decide) e3
      rw [hw] at hwb; cases hwb
      obtain ⟨p, vs, ew, eA, hda, rs⟩ := own_dct hA1
      subst ew eA
      have npF : ¬ F1 p := nF1 p List.mem_cons_self
      obtain ⟨H2, dp, ob, eH, ro⟩ := dput_ok hda npF rs rj (r.ex x1) hp
      subst eH
      refine ⟨p, _, rfl, dp, q F1 σ _ (s1.mod (B := []) (Ex.refl s1.ex.fi) (fun a ha => nomatch ha) ho (by decide) e3 hw fun A2 ra nda dis nF => ⟨?_, [p], ro, nd1, fun a ha => .inl ?_⟩) (x1.keep.trans (keep_upd npF))⟩
      · obtain ⟨p', vs', ew', eA', _, _⟩ := own_dct ra
        cases ew'
        rw [eA']; exact List.mem_cons_self
      · obtain ⟨p', vs', ew', eA', _, _⟩ := own_dct ra
        cases ew'
        rw [eA']; exact ha
  · cases e0
/-! ### dict displays -/
def dict0 : NW.Env → R D := fun _ => .ok (.dct [] [])
theorem gn_dict0 {pos : Pos} : GN X G W O (.own .fz) (.Dict [] [] pos) dict0 := ⟨_, pe_dnewT, fun F σ H ρ Q s k p hp => by
  refine k F _ (.ref p) [p] (Ex.laid s.1 hp) ?_ (by simp) fun a ha => ?_
  · unfold RpO
    exact ⟨p, [], [], rfl, rfl, ⟨[], rfl, rfl, upd_same⟩, by unfold RpL; exact ⟨rfl, rfl⟩⟩
  · rw [List.mem_singleton.mp ha]
    refine ⟨hp, fun z => ?_⟩
    obtain ⟨u, y⟩ := s.1 p z
    rw [hp] at y; cases y⟩
/-- {k: v} with a tuple as key -/
def tDict1 (tk tv : TE) : TE := fun σ H Q => ∀ p, H p = none → tPairs [(tk, tv)] σ (upd H p (.dT [])) fun ps H2 => ∃ (kk : List Key) (b : Addr) (w : V), ps = [(V.ref b, w)] ∧ H2 b = some (.tup (kk.map kV)) ∧ H2 p = some (.dT []) ∧ Q (.ref p) (upd H2 p (.dT [(kk, w)]))
theorem pe_dict1 {kk : Nat} {k v : Expr} {tk tv : TE} {pos : Pos} (hr : Room kk X.A) (hk : PE X k tk) (hv : PE X v tv) : PE X (.Dict [some k] [v] pos) (tDict1 tk tv) := by
  refine ⟨fun pins s σ H Q I q => ?_⟩
  have hn := I.hok.fresh (Nat.le_refl s.heap.objs.size)
  have I1 := I.laid (a := s.heap.objs.size) (o := .dT []) (h' := s.heap.push { cls := .type "dict", data := .dict #[] }) (t' := s.toks) (fun _ _ q => Heap.get?_push_of_some _ q) (Nat.le_refl _) (dt_empty s.heap I.big)
  have pp : PPs X pos [some k] [v] [(tk, tv)] := pps_cons hk hv pps_nil
  rw [arm_eval_Dict, zip_pairTrees [some k] [v] X.env pos rfl rfl, dictDisplay_pairs (pairTrees [some k] [v] X.env pos) (by intro z; cases z) (by show 1 < 17; decide)]
  refine wpAny_bind (wpAny_standAt (wpAny_bind (wpAny_subDictH (knd := tupleKind (mixKind X.prog X.w)) (by have := hu_of hr; show X.A.units < cLine; omega) (by show 1 ≤ 15; decide) ?_)))
  refine thn (pp.run pins _ σ _ _ I1 (q _ hn)) fun ws s2 ⟨ps, H2, I2, rel, kk, b, w, ep, hb, hd, q2⟩ => ?_
  subst ep
  cases rel with
  | @cons _ uu _ _ h t =>
    cases t
    obtain ⟨u1, u2⟩ := uu
    obtain ⟨r1, r2⟩ := h
    obtain rfl : u1 = Value.ref b := r1
    have kb := key_of (P := X.prog) (w := X.w) I2.hok hb
    obtain ⟨z, hsy, xs, rel, dd⟩ := dt_of I2.hok hd
    cases rel
    refine ⟨[(kk, b, u2)], ⟨rfl, rfl, kb, trivial⟩, dd, fun h' tk2 hm hs => wpAny_pure ⟨.ref s.heap.objs.size, _, ?_, rfl, q2⟩⟩
    refine d_write I2 (by rw [hd]; exact True.intro) hs (let ⟨q, _, _, hq, _⟩ := hm; ⟨q, hq⟩) ?_
    obtain ⟨o, es, ep, a1, a2, a3, a4, a5, a6⟩ := hm
    have bp : b ≠ s.heap.objs.size := fun z => by rw [z, hd] at hb; cases hb
    refine ⟨by rw [sizeLine_eq]; show 1 ≤ _; omega, hsy, [(kk, b, u2)], .cons ⟨rfl, ?_, r2⟩ .nil, o, es, ep, a1, a2, a3, a4, a6⟩
    show upd H2 s.heap.objs.size _ b = _
    rw [upd_ne bp]; exact hb
def dict1 (fk fv : NW.Env → R D) : NW.Env → R D := fun ρ => (fk ρ).bind fun x => (fv ρ).bind fun y => match keyOf x with
  | some _ => .ok (.dct [x] [y])
  | none => .st
theorem gn_dict1 {kk : Nat} {ok' ov : Ow} {k v : Expr} {pos : Pos} {fk fv : NW.Env → R D} (hr : Room kk X.A) (hk : GB X G W O .fz k fk) (hv : GB X G W O .fz v fv) : GN X G W O (.own .fz) (.Dict [some k] [v] pos) (dict1 fk fv) := by
  obtain ⟨t1, p1, i1⟩ := hk
  obtain ⟨t2, p2, i2⟩ := hv
  refine ⟨_, pe_dict1 hr p1 p2, fun F σ H ρ Q s k p hp => ?_⟩
  have e0 := Ex.laid (o := .dT []) s.1 hp
  have nF : ¬ F p := fun z => by
    obtain ⟨u, y⟩ := s.1 p z
    rw [hp] at y; cases y
  unfold dict1 at k
  refine i1 F σ _ ρ _ (s.ex e0) ?_
  revert k
  cases fk ρ with
  | ex c fs => exact fun k F' H' dd e x => KN.exW (g := .st) k F' H' dd (e0.trans e) x
  | st => exact fun k => k
  | ok x =>
    intro k F1 H1 vx A1 e1 r1
    refine i2 F1 σ _ ρ _ ((s.ex e0).ex e1) ?_
    have k : KN X.K G W (.own .fz) F σ H Q ((fv ρ).bind fun y => match keyOf x with
      | some _ => .ok (.dct [x] [y])
      | none => .st) := k
    revert k
    cases fv ρ with
    | ex c fs => exact fun k F' H' dd e x => KN.exW (g := .st) k F' H' dd ((e0.trans e1).trans e) x
    | st => exact fun k => k
    | ok y =>
      intro k F2 H2 vy A2 e2 r2
      have k2 : KN X.K G W (.own .fz) F σ H Q (match keyOf x with
        | some _ => .ok (.dct [x] [y])
        | none => .st) := k
      split at k2
      · rename_i kk' hkk
        obtain ⟨b, eb, hb⟩ := keyAt (r1.ex e2) hkk
        subst eb
        have hpd : H2 p = some (.dT []) := (e1.trans e2).hp _ _ upd_same
        have nF2 : ¬ F2 p := fun z => by
          rcases (e1.trans e2).nw p z with z | z
          · exact nF z
          · rw [upd_same] at z; cases z
        have ex := keyOf_eq hkk
        refine ⟨kk', b, vy, rfl, hb, hpd, ?_⟩
        refine k2 F2 _ (.ref p) [p] (((e0.trans e1).trans e2).updN hp nF2) ?_ (by simp) fun a ha => ?_
        · unfold RpO
          exact ⟨p, [vy], [], rfl, rfl, ⟨[kk'], by rw [ex]; rfl, rfl, upd_same⟩, rpl_fz.mpr ⟨rfl, rps_cons (rp_upd (rpo_fz.mp r2).2 nF2) rps_nil⟩⟩
        · rw [List.mem_singleton.mp ha]
          exact ⟨hp, nF2⟩
      · exact k2.elim

/-! ### x += e, x.f += e, of ints -/
def augI (g : Int → Int → Int) (i : Nat) (f : NW.Env → R D) : NW.Env → Out := fun ρ => match ρ[i]? with
  | some (some (.int a)) => (f ρ).out ρ fun d => match d with
    | .int b => .nx (ρ.set i (some (.int (g a b))))
    | _ => .st
  | _ => .st
theorem gs_aug (i : Nat) {g : Int → Int → Int} {op : Operator} {o : Ow} {x : Str} {e : Expr} {pos pos' : Pos} {f : NW.Env → R D} (hop : PIp X op (ipI g)) (h : GB X G W O o e f) (nd : X.N.Nodup) (ho : O[i]? = some .fz := by rfl) (hi : X.N[i]? = some x := by rfl) (hx : Loc X.env.scope x := by first | exact Or.inl rfl | exact Or.inr rfl) (l : leO O Z.xo = true := by rfl)
    (hf : X.fn x = true ∨ X.env.scope.names.lookup x = some .local := by first | exact .inl rfl | exact .inr rfl) : GS X G W Z O (O.set i .fz) (.AugAssign (.Name x pos') op e pos) (augI g i f) := by
  obtain ⟨t, p, j⟩ := h
  refine ⟨_, ps_aug nd hi hx p hop hf, fun γ F σ H ρ E s k => ?_⟩
  unfold augI at k
  split at k
  · rename_i a e3
    obtain ⟨w, A, h1, h2, _⟩ := s.at_ ho (by decide) e3
    refine ⟨w, h1, stm_B (t := t) j s l k fun d F' H' v A' e1 r1 k1 => ?_⟩
    split at k1
    · rename_i b
      exact ⟨a, b, h2.int_, r1.int_, k1 F' _ H' (s.set i e1 (rpo_of (rp_int.mpr rfl)) List.nodup_nil (fun a ha => nomatch ha) (.inr (by decide)))⟩
    · exact k1.elim
  · exact k.elim
def augF (g : Int → Int → Int) (i c n : Nat) (f : NW.Env → R D) : NW.Env → Out := fun ρ => match ρ[i]? with
  | some (some (.obj c' ds)) => if c' = c then (match ds[n]? with
    | some (.int a) => (f ρ).out ρ fun d => match d with
      | .int b => .nx (ρ.set i (some (.obj c (ds.set n (.int (g a b))))))
      | _ => .st
    | _ => .st) else .st
  | _ => .st
theorem own_objE {K : PySem.W.Frag} {c : Nat} {ds : List D} {v : V} {A : List Addr} (h : RpO K G F H (.own .fz) (.obj c ds) v A) : ∃ p dx vs, v = .ref p ∧ A = [p] ∧ H p = some (.ins (G.cls c) dx ((G.names c).zip vs)) ∧ vs.length ≤ (G.names c).length ∧ Rps K G F H ds vs := by
  unfold RpO at h
  obtain ⟨p, vs, A', ew, eA, ⟨dx, hp⟩, hn, hr⟩ := h
  obtain ⟨eA', rs⟩ := rpl_fz.mp hr
  subst eA' eA
  exact ⟨p, dx, vs, ew, rfl, hp, hn, rs⟩
theorem gs_augF (i : Nat) {c n : Nat} {g : Int → Int → Int} {op : Operator} {o : Ow} {x fl : Str} {e : Expr} {pos p2 p3 : Pos} {f : NW.Env → R D} (hop : InOp X op (fun x y H Q => ∃ i j, x = .int i ∧ y = .int j ∧ Q (.int (g i j)) H)) (h : GB X G W O o e f) (T : Fld X.K G c n fl) (hl : (G.names c).length < 1000)
    (ho : O[i]? = some (.own .fz) := by rfl) (hN : X.N[i]? = some x := by rfl) (hv : Vis X.env.scope x := by first | exact Or.inl rfl | exact Or.inr (Or.inl rfl) | exact Or.inr (Or.inr rfl))
    (hd : (x == ("__debug__" : Str)) = false := by decide) (hcd : (x == ("__classdict__" : Str)) = false := by decide) (l : leO O Z.xo = true := by rfl) : GS X G W Z O O (.AugAssign (.Attribute (.Name x p2) fl p3) op e pos) (augF g i c n f) := by
  obtain ⟨t, p, j⟩ := h
  refine ⟨_, ps_fldaug (pe_var hN hv hd hcd) p hop, fun γ F σ H ρ E s k => ?_⟩
  unfold augF at k
  split at k
  · rename_i c' ds e3
    split at k
    · rename_i ec
      subst ec
      split at k
      · rename_i a ea
        obtain ⟨w, A, h1, h2, _⟩ := s.at_ ho (by decide) e3
        obtain ⟨q, dx, vs, ew, eA, hp, hn, rs⟩ := own_objE h2
        subst ew
        obtain ⟨va, hva, ra⟩ := rs.get ea
        refine ⟨.ref q, h1, q, _, dx, _, va, rfl, hp, T.cl, T.no, lookup_zip T.nd T.at_ hva, stm_B (t := t) j s l k fun d F' H' v A' e1 r1 k1 => ?_⟩
        split at k1
        · rename_i b
          have s1 := s.step e1
          have hp' := e1.hp _ _ hp
          refine ⟨a, b, rp_int.mp ra, r1.int_, dx, _, hp', by rw [List.length_zip]; omega, ?_⟩
          have hk' : n < vs.length := (List.getElem?_eq_some_iff.mp hva).1
          rw [putF_set T.nd T.at_ hk']
          refine k1 F' σ _ (s1.mod (B := []) (Ex.refl s1.ex.fi) (fun a ha => nomatch ha) ho (by decide) e3 h1 fun A2 ra nda dis nF => ?_)
          obtain ⟨q', dx', vs', ew', eA', hq, hn', rs'⟩ := own_objE ra
          cases ew'
          rw [hp'] at hq
          have ez : (G.names c').zip vs = (G.names c').zip vs' := by
            have := Option.some.inj hq
            injection this
          have npF : ¬ F' q := nF q (by rw [eA']; exact List.mem_cons_self)
          refine ⟨by rw [eA']; exact List.mem_cons_self, [q], ?_, by simp, fun a ha => .inl (by rw [eA']; exact ha)⟩
          unfold RpO
          exact ⟨q, vs.set n (.int (g a b)), [], rfl, rfl, ⟨dx, upd_same⟩, by rw [List.length_set]; exact hn, rpl_fz.mpr ⟨rfl, (rps_upd (rs.ex e1) npF).set n (rp_int.mpr rfl)⟩⟩
        · exact k1.elim
      · exact k.elim
    · exact k.elim
  · exact k.elim

/-! ### a < b < c -/
def chnD (op1 op2 : D → D → R D) (fa fb fc : NW.Env → R D) : NW.Env → R D := fun ρ => (fa ρ).bind fun x => (fb ρ).bind fun y => (op1 x y).bind fun d => (asB d).bind fun b => if b then (fc ρ).bind fun z => op2 y z else .ok (.bl false)
theorem imp_chn {oa ob oc : Ow} {r1 r2 : R2} {op1 op2 : D → D → R D} {ta tb tc : TE} {fa fb fc : NW.Env → R D} (h1 : Op2 X.K G oa ob .fz r1 op1) (h2 : Op2 X.K G ob oc .fz r2 op2) (n1 : NoX op1) (n2 : NoX op2) (ia : ImpB X.K G W O oa ta fa) (ib : ImpB X.K G W O ob tb fb) (ic : ImpB X.K G W O oc tc fc) : ImpB X.K G W O .fz (tChain r1 r2 ta tb tc) (chnD op1 op2 fa fb fc) := fun F σ H ρ Q s k => by
  refine imp_seq (ta := ta) ia s k fun dx F1 H1 x A e1 q1 k1 => ?_
  refine imp_seq (ta := tb) ib (s.ex e1) k1 fun dy F2 H2 y B e2 q2 k2 => ?_
  refine h1 F2 H2 dx dy x y A B _ e2.fi (q1.ex e2) q2 ?_
  revert k2
  cases e : op1 dx dy with
  | ex c fs => exact absurd e (n1 dx dy c fs)
  | st => exact fun k2 => k2
  | ok d =>
    intro k2 F3 H3 v A3 e3 r3
    have k2 : KB X.K G W .fz F2 σ H2 Q ((asB d).bind fun b => if b then (fc ρ).bind fun z => op2 dy z else .ok (.bl false)) := k2
    obtain ⟨b, ev, k3⟩ := asB_k r3 (k2.ex e3)
    refine ⟨b, ev, ?_⟩
    cases b with
    | true =>
      refine iteT (imp_seq (ta := tc) ic (((s.ex e1).ex e2).ex e3) k3 fun dz F4 H4 z C e4 q4 k4 => ?_)
      exact h2 F4 H4 dy dz y z B C Q e4.fi ((q2.ex e3).ex e4) q4 (KV.kb k4 (n2 dy dz))
    | false => exact iteF (k3 F3 H3 _ [] (Ex.refl e3.fi) (rpo_of (rp_bl.mpr rfl)))
section
variable {op op' : CmpOp} {r1 r2 : R2} {op1 op2 : D → D → R D} {oa ob oc : Ow} {a b c : Expr} {pos : Pos} {fa fb fc : NW.Env → R D}
theorem gb_chn (p1 : OpR X (compareOp op) r1) (p2 : OpR X (compareOp op') r2) (h1 : Op2 X.K G oa ob .fz r1 op1) (h2 : Op2 X.K G ob oc .fz r2 op2) (n1 : NoX op1) (n2 : NoX op2) (ha : GB X G W O oa a fa) (hb : GB X G W O ob b fb) (hc : GB X G W O oc c fc)
    (hm : lastMarks [op, op'] [b, c] = false := by with_unfolding_all rfl) : GB X G W O .fz (.Compare a [op, op'] [b, c] pos) (chnD op1 op2 fa fb fc) := by
  obtain ⟨ta, qa, ia⟩ := ha
  obtain ⟨tb, qb, ib⟩ := hb
  obtain ⟨tc, qc, ic⟩ := hc
  exact ⟨_, pe_chain p1 p2 qa qb qc hm, imp_chn h1 h2 n1 n2 ia ib ic⟩
theorem gt_chn (p1 : OpR X (compareOp op) r1) (p2 : OpR X (compareOp op') r2) (h1 : Op2 X.K G oa ob .fz r1 op1) (h2 : Op2 X.K G ob oc .fz r2 op2) (n1 : NoX op1) (n2 : NoX op2) (ha : GB X G W O oa a fa) (hb : GB X G W O ob b fb) (hc : GB X G W O oc c fc)
    (hm : lastMarks [op, op'] [b, c] = false := by with_unfolding_all rfl) : GT X G W O (.Compare a [op, op'] [b, c] pos) (tst (chnD op1 op2 fa fb fc)) := by
  obtain ⟨ta, qa, ia⟩ := ha
  obtain ⟨tb, qb, ib⟩ := hb
  obtain ⟨tc, qc, ic⟩ := hc
  exact ⟨_, pt_chain p1 p2 qa qb qc hm, imp_tst (imp_chn h1 h2 n1 n2 ia ib ic) rfl⟩
end

/-! ### flat values, own displays, lists put together -/
def flatF (f : NW.Env → R D) : NW.Env → R D := fun ρ => (f ρ).bind fun d => if flat d then .ok d else .st
theorem gn_flat {o : Ow} {e : Expr} {f : NW.Env → R D} (h : GB X G W O .fz e f) : GN X G W O (.own o) e (flatF f) := by
  obtain ⟨t, p, i⟩ := h
  refine ⟨t, p, fun F σ H ρ Q s k => i F σ H ρ Q s ?_⟩
  unfold flatF at k
  revert k
  cases f ρ with
  | ex c fs => exact fun k => k
  | st => exact fun k => k
  | ok d =>
    intro k F' H' v A e r
    have k : KN X.K G W (.own o) F σ H Q (if flat d then .ok d else .st) := k
    split at k
    · rename_i hf
      rw [r.flat_ hf]
      exact k F' H' (vOf d) [] e (rpo_flat (by intro z; cases z) hf) List.nodup_nil fun a ha => nomatch ha
    · exact k.elim
def ImpAN (K : PySem.W.Frag) (G : Gb) (W : WX) (O : List Ow) (o : Ow) (t : TA) (f : NW.Env → R (List D)) : Prop := ∀ F σ H ρ (Q : List V → Hp → Prop), SS K G O F σ H ρ → (match f ρ with
  | .ok ds => ∀ F' H' vs A, Ex F H F' H' → RpL (RpO K G F' H' o) ds vs A → A.Nodup → (∀ a ∈ A, H a = none ∧ ¬ F' a) → Q vs H'
  | .ex c fs => ∀ F' H' dd, Ex F H F' H' → XR K G F' H' c fs dd → W (.ref (G.cls c)) dd σ H'
  | .st => False) → t σ H Q
def GAN (X : Cx) (G : Gb) (W : WX) (O : List Ow) (o : Ow) (es : List Expr) (f : NW.Env → R (List D)) : Prop := ∃ t, PA X es t ∧ ImpAN X.K G W O o t f
theorem gan_nil {o : Ow} : GAN X G W O o [] nilA := ⟨_, pa_nil, fun F σ H ρ Q s k => k F H [] [] (Ex.refl s.1) (by unfold RpL; exact ⟨rfl, rfl⟩) List.nodup_nil fun a ha => nomatch ha⟩
theorem gan_cons {o : Ow} {e : Expr} {es : List Expr} {f : NW.Env → R D} {g : NW.Env → R (List D)} (h : GN X G W O o e f) (h2 : GAN X G W O o es g) (hs : starEach (e :: es) X.env = (false, eval e X.env) :: starEach es X.env := by rfl) : GAN X G W O o (e :: es) (consA f g) := by
  obtain ⟨t, p, i⟩ := h
  obtain ⟨u, q, j⟩ := h2
  refine ⟨_, pa_cons p q hs, fun F σ H ρ Q s k => i F σ H ρ _ s ?_⟩
  unfold consA at k
  revert k
  cases f ρ with
  | ex c fs => exact fun k => k
  | st => exact fun k => k
  | ok d =>
    intro k F1 H1 v A e1 r1 nd1 n1
    refine j F1 σ H1 ρ _ (s.ex e1) ?_
    revert k
    show (match ((g ρ).bind fun xs => .ok (d :: xs) : R (List D)) with
      | .ok ds => ∀ F' H' vs A, Ex F H F' H' → RpL (RpO X.K G F' H' o) ds vs A → A.Nodup → (∀ a ∈ A, H a = none ∧ ¬ F' a) → Q vs H'
      | .ex c fs => ∀ F' H' dd, Ex F H F' H' → XR X.K G F' H' c fs dd → W (.ref (G.cls c)) dd σ H'
      | .st => False) → _
    cases g ρ with
    | ex c fs => exact fun k F' H' dd e x => k F' H' dd (e1.trans e) x
    | st => exact fun k => k
    | ok ds =>
      intro k F2 H2 vs B e2 r2 nd2 n2
      refine k F2 H2 (v :: vs) (A ++ B) (e1.trans e2) ?_ (List.nodup_append.mpr ⟨nd1, nd2, fun a ha b hb z => ?_⟩) fun a ha => ?_
      · unfold RpL
        exact ⟨v, vs, A, B, rfl, rfl, r1.ex e2, r2⟩
      · subst z
        obtain ⟨u, hu⟩ := r1.some_ o a ha
        rw [(n2 a hb).1] at hu; cases hu
      · rcases List.mem_append.mp ha with ha | ha
        · refine ⟨(n1 a ha).1, fun z => ?_⟩
          rcases e2.nw a z with z | z
          · exact (n1 a ha).2 z
          · obtain ⟨u, hu⟩ := r1.some_ o a ha
            rw [z] at hu; cases hu
        · exact ⟨e1.none (n2 a ha).1, (n2 a ha).2⟩
theorem gn_lstO {o : Ow} {es : List Expr} {pos : Pos} {f : NW.Env → R (List D)} (h : GAN X G W O o es f) : GN X G W O (.own o) (.List es pos) (lstD f) := by
  obtain ⟨t, p, i⟩ := h
  refine ⟨_, pe_lst p, fun F σ H ρ Q s k => i F σ H ρ _ s ?_⟩
  unfold lstD at k
  revert k
  cases f ρ with
  | ex c fs => exact fun k => k
  | st => exact fun k => k
  | ok ds =>
    intro k F1 H1 vs A e1 r1 nd1 n1
    have k : KN X.K G W (.own o) F σ H Q (if ds.length ≤ szL then .ok (.lst ds) else .st) := k
    split at k
    · rename_i hz
      refine ⟨by rw [szL_eq, r1.len]; exact hz, fun p hp => ?_⟩
      have pF : ¬ F1 p := fun z => by
        obtain ⟨u, y⟩ := e1.fi p z
        rw [hp] at y; cases y
      have pA : p ∉ A := fun z => by
        obtain ⟨u, hu⟩ := r1.mem (P := fun a => ∃ u, H1 a = some u) (fun d v B q => RpO.some_ o q) p z
        rw [hp] at hu; cases hu
      refine k F1 _ (.ref p) (p :: A) (e1.trans (Ex.laid e1.fi hp)) ?_ (List.nodup_cons.mpr ⟨pA, nd1⟩) fun a ha => ?_
      · unfold RpO
        exact ⟨p, vs, A, rfl, rfl, upd_same, r1.imp fun d w C hC z => z.keep_upd pF fun y => pA (hC p y)⟩
      · rcases List.mem_cons.mp ha with rfl | ha
        · exact ⟨e1.none hp, pF⟩
        · exact n1 a ha
    · exact k.elim
def catD : D → D → R D
  | .lst a, .lst b => if a.length + b.length ≤ szL then .ok (.lst (a ++ b)) else .st
  | _, _ => .st
theorem gn_cat {oa ob : Ow} {a b : Expr} {pos : Pos} {fa fb : NW.Env → R D} (ha : GB X G W O oa a fa) (hb : GB X G W O ob b fb) (ka : kid oa = .fz := by rfl) (kb : kid ob = .fz := by rfl) : GN X G W O (.own .fz) (.BinOp a .Add b pos) (bin catD fa fb) := by
  obtain ⟨ta, pa, ia⟩ := ha
  obtain ⟨tb, pb, ib⟩ := hb
  refine ⟨_, pe_op op_cat pa pb, fun F σ H ρ Q s k => ?_⟩
  refine imp_seqN (ta := ta) ia s k fun dx F1 H1 x A e1 r1 k1 => ?_
  refine imp_seqN (ta := tb) ib (s.ex e1) k1 fun dy F2 H2 y B e2 r2 k2 => ?_
  cases dx <;> first | exact (show False from k2).elim | skip
  cases dy <;> first | exact (show False from k2).elim | skip
  rename_i ds es
  simp only [catD] at k2
  obtain ⟨p, vs, q1, h1, s1⟩ := (r1.ex e2).lstF ka
  obtain ⟨q, ws, q2, h2, s2⟩ := r2.lstF kb
  split at k2
  · rename_i hz
    exact ⟨p, q, vs, ws, q1, q2, h1, h2, by rw [szL_eq, s1.len, s2.len]; exact hz, fun l hl => k2.newL e2.fi (s1.append s2) l hl⟩
  · exact k2.elim
/-! ### a class's constant -/
theorem gb_cval {C : Addr} {mc : Value} {x f : Str} {d : D} {u : Value} {p2 pos : Pos} (hf : flat d = true) (hm : X.mg x = some (.ref C)) (r : ClX.CRead X.K C mc) (k : ClX.CVal X.K C mc f (vOf d) u) (hg : Gl X x := by rfl) (hd : (x == ("__debug__" : Str)) = false := by decide)
    (hb : attributeBase (.Name x p2) f X.env (eval (.Name x p2) X.env) = eval (.Name x p2) X.env := by rfl) : GB X G W O .fz (.Attribute (.Name x p2) f pos) (cD d) :=
  ⟨_, ClX.pe_cval (pe_glob (v := .ref C) hg hm rfl hd) hb, fun F σ H ρ Q s q => ⟨C, mc, _, _, rfl, r, k, imp_c (W := W) (O := O) (X := X) hf F σ H ρ Q s q⟩⟩
end
end NW
end

section
set_option Elab.async false
set_option linter.all false
set_option maxRecDepth 100000
/-! NWr: own exceptions made and raised. -/
namespace NW
open PySem PySem.Spec L2
open PyProof.Rows hiding St

/-- what an own exception's __init__ keeps: it writes its arguments into the fields ns -/
def spX (K : PySem.W.Frag) (ns : List Str) : Sp := fun vs H Q _ => ∃ (a C : Addr) (ws : List V), vs = .ref a :: ws ∧ ws.length = ns.length ∧ OexC K C ∧ (∀ f ∈ ns, PySem.W.findIn K (.ref C) f = some none) ∧ H a = some (exo a C none) ∧
  ∀ d, H d = none → d ≠ a → Q .non (upd (upd H d (exd d (ns.zip ws).reverse)) a (exo a C (some d)))
theorem upd_comm {H : Hp} {a b : Addr} {o u : HO} (h : a ≠ b) : upd (upd H a o) b u = upd (upd H b u) a o := by
  funext c
  unfold upd
  by_cases h1 : c = a
  · subst h1
    rw [if_neg h, if_pos rfl]
    simp
  · by_cases h2 : c = b
    · subst h2; simp [h1]
    · simp [h1, h2]
section
variable {P : Program} {w : World} {K : PySem.W.Frag} {mg : Str → Option Value} {base : Heap} {x qual : Str} {params : Arguments} {body : List Stmt} {scope : Scope} {kws : List (Str × V)} {f : Addr} {fd : FuncData} {s0 s1 s2 f1 f2 : Str}
theorem okX1 {k : Nat} (F : FunD K x qual params body scope [] kws f fd) (S : FnScope [s0, s1] [s0, s1] scope)
    (h : ∀ (cdv : Value) (A : Around) (outer : List PySem.Env) (s : Shared) (H : Hp) (E : XK), PSs (cxOf (L2.CX P w) P w K mg base [s0, s1] qual scope f cdv A outer s H E) body (tOst K f1 (tVar 0) (tVar 1))) : FnOk P w K mg base (L2.CX P w) (k + 1) f fd [s0, s1] (spX K [f1]) := by
  refine F.ok S (fun vs H Q E ⟨a, C, ws, e, hl, _⟩ => by rw [e]; show ws.length + 1 = 2; rw [hl]; rfl) (fun cdv A outer s H vs Q E hr ⟨a, C, ws, e, hl, T, hf, ha, q⟩ => ?_)
  refine ⟨_, h cdv A outer s H E, ?_⟩
  subst e
  match ws, hl with
  | [w1], _ =>
    refine ⟨_, rfl, _, rfl, a, C, rfl, T, hf f1 (by simp), .inl ⟨ha, fun d hd ne => ?_⟩⟩
    exact q d hd ne
theorem okX2 {k : Nat} (hne : f1 ≠ f2) (F : FunD K x qual params body scope [] kws f fd) (S : FnScope [s0, s1, s2] [s0, s1, s2] scope)
    (h : ∀ (cdv : Value) (A : Around) (outer : List PySem.Env) (s : Shared) (H : Hp) (E : XK), PSs (cxOf (L2.CX P w) P w K mg base [s0, s1, s2] qual scope f cdv A outer s H E) body (tSeq (tOst K f1 (tVar 0) (tVar 1)) (tOst K f2 (tVar 0) (tVar 2)))) : FnOk P w K mg base (L2.CX P w) (k + 1) f fd [s0, s1, s2] (spX K [f1, f2]) := by
  refine F.ok S (fun vs H Q E ⟨a, C, ws, e, hl, _⟩ => by rw [e]; show ws.length + 1 = 3; rw [hl]; rfl) (fun cdv A outer s H vs Q E hr ⟨a, C, ws, e, hl, T, hf, ha, q⟩ => ?_)
  refine ⟨_, h cdv A outer s H E, ?_⟩
  subst e
  match ws, hl with
  | [w1, w2], _ =>
    refine ⟨_, rfl, _, rfl, a, C, rfl, T, hf f1 (by simp), .inl ⟨ha, fun d hd ne => ?_⟩⟩
    refine ⟨_, rfl, _, rfl, a, C, rfl, T, hf f2 (by simp), .inr ⟨d, [(f1, w1)], upd_same, by rw [upd_ne ne]; exact upd_same, by show 1 ≤ 900; omega, ?_⟩⟩
    have e : upd (upd (upd H d (exd d [(f1, w1)])) a (exo a C (some d))) d (exd d [(f2, w2), (f1, w1)]) = upd (upd H d (exd d [(f2, w2), (f1, w1)])) a (exo a C (some d)) := by
      rw [upd_comm (Ne.symm ne), upd_upd]
    show Q .non (upd (upd (upd H d (exd d [(f1, w1)])) a (exo a C (some d))) d (exd d [(f2, w2), (f1, w1)]))
    rw [e]
    exact q d hd ne
end

/-- a class of own exceptions with an __init__ that keeps its arguments -/
structure CalX (P : Program) (w : World) (K : PySem.W.Frag) (mg : Str → Option Value) (base : Heap) (G : Gb) (c : Nat) (x : Str) (k : Nat) (ns : List Str) : Prop where
  ex : ∃ (fI : Addr) (fd : FuncData) (ps : List Str), FnOk P w K mg base (L2.CX P w) k fI fd ps (spX K ns) ∧ OexC K (G.cls c) ∧ PySem.W.findIn K (.ref (G.cls c)) "__init__" = some (some (.ref fI)) ∧ PySem.W.typeIn K (.ref fI) = some (.type "function") ∧ Binds K fd ps [] ∧ mg x = some (.ref (G.cls c))
  no : ∀ f ∈ ns, PySem.W.findIn K (.ref (G.cls c)) f = some none
  nm : G.names c = ns
  nd : ns.Nodup
  ne : ns ≠ []
  sm : ns.length ≤ 900
/-- one that is made with a text -/
structure CalT (K : PySem.W.Frag) (mg : Str → Option Value) (G : Gb) (c : Nat) (x : Str) : Prop where
  at_ : PySem.W.excIn K (G.cls c) [.type "ValueError", .type "Exception", .type "BaseException", .type "object"] "ValueError.__new__" = true
  gl : mg x = some (.ref (G.cls c))
  kp : PySem.W.keepIn K (.ref (G.cls c)) = true
  exC : PySem.W.subIn K (.ref (G.cls c)) (.type "BaseException") = some true
  tyC : PySem.W.typeIn K (.ref (G.cls c)) = some (.type "type")

theorem lookup_mem {l : List (Str × V)} {x : Str} {v : V} (nd : (l.map (·.1)).Nodup) (h : (x, v) ∈ l) : l.lookup x = some v := by
  induction l with
  | nil => cases h
  | cons p l ih =>
    rw [List.map_cons] at nd
    have nd := List.nodup_cons.mp nd
    rcases List.mem_cons.mp h with e | h
    · subst e; simp [List.lookup]
    · have ne : ¬ x = p.1 := fun z => nd.1 (z ▸ List.mem_map.mpr ⟨(x, v), h, rfl⟩)
      have e : (x == p.1) = false := by simpa using ne
      rw [show p :: l = (p.1, p.2) :: l from rfl, List.lookup_cons, e]
      exact ih nd.2 h
theorem lookup_rev {ns : List Str} {vs : List V} {k : Nat} {x : Str} {v : V} (nd : ns.Nodup) (hl : vs.length = ns.length) (h1 : ns[k]? = some x) (h2 : vs[k]? = some v) : ((ns.zip vs).reverse).lookup x = some v := by
  refine lookup_mem ?_ ?_
  · rw [List.map_reverse]
    have e : (ns.zip vs).map (·.1) = ns := by
      rw [List.map_fst_zip]
      omega
    rw [e]
    exact (List.Perm.nodup_iff (List.reverse_perm ns)).mpr nd
  · rw [List.mem_reverse]
    refine List.mem_of_getElem? (i := k) ?_
    rw [List.getElem?_zip_eq_some]
    exact ⟨h1, h2⟩
section
variable {X : Cx} {G : Gb} {W : WX} {Z : Exits} {O O' O1 : List Ow} {γ : Gh} {F F' : Fr} {H H' : Hp} {σ : St} {ρ : NW.Env} {E : Ends}
theorem stm_A {os : List Ow} {t : TA} {f : NW.Env → R (List D)} {g : List D → Out} {R' : List V → Hp → Prop} (i : ImpA X.K G W O os t f) (h : ST X.K G γ O F σ H ρ) (l : leO O Z.xo = true) (k : KS X.K G W Z γ O' E ((f ρ).out ρ g))
    (c : ∀ ds F' H' vs, Ex F H F' H' → RpA X.K G os F' H' ds vs → KS X.K G W Z γ O' E (g ds) → R' vs H') : t σ H R' := by
  refine i F σ H ρ _ h.ss ?_
  revert k
  cases f ρ with
  | ok d => exact fun k F' H' vs e r => c d F' H' vs e r k
  | ex cc fs => exact fun k => KS.exn h l k
  | st => exact fun k => k
def raiseS (c : Nat) (f : NW.Env → R (List D)) : NW.Env → Out := fun ρ => (f ρ).out ρ fun ds => .ex c ds ρ
theorem gs_raise {c k j : Nat} {ns : List Str} {x : Str} {p pos pos' : Pos} {e : Expr} {es : List Expr} {os : List Ow} {f : NW.Env → R (List D)} (cx : CalX X.prog X.w X.K X.mg X.base G c x k ns) (hc : X.calm = true) (hr : Room j X.A) (tk : Takes X W) (ha : GA X G W O os (e :: es) f)
    (hk : k + 1 ≤ j := by decide) (hz : allFz os = true := by rfl) (hn : os.length = ns.length := by rfl) (hg : Gl X x := by rfl) (l : leO O Z.xo = true := by rfl) (hdb : (x == ("__debug__" : Str)) = false := by decide) (he : starEach (e :: es) X.env = (false, eval e X.env) :: starEach es X.env := by rfl) (hpl : (backTo pos (starEach es X.env)).any (·.1) = false := by rfl) :
    GS X G W Z O O' (.Raise (some (.Call (.Name x p) (e :: es) [] pos)) none pos') (raiseS c f) := by
  obtain ⟨fI, fd, ps, F1, T, iC, tI, hb, hm⟩ := cx.ex
  obtain ⟨t, pa, i⟩ := ha
  refine ⟨_, ps_raise hc tk (pmk_oex (CX := L2.CX X.prog X.w) T iC tI F1 (hr.mono hk) hb .nil (fun pins σ H s e s' I c => (by
    obtain ⟨_, _, _, _, _, _, _, _, _, _, _, _, z⟩ := c
    exact z.elim)) hg hm pa hdb he hpl), fun γ F σ H ρ E s k => ?_⟩
  unfold raiseS at k
  refine stm_A (t := t) i s l k fun ds F1 H1 vs e1 r k1 => ?_
  obtain ⟨r1, hl⟩ := rpa_all r hz
  have hlv : vs.length = ns.length := by rw [r1.len, hl, hn]
  refine ⟨by rw [hlv]; exact Nat.le_trans cx.sm (by omega), fun a ha => ⟨a, G.cls c, vs, by rw [List.append_nil], hlv, T, cx.no, upd_same, fun d hd ne => ⟨rfl, d, _, upd_same, by rw [upd_ne ne]; exact upd_same, ?_, ?_⟩⟩⟩
  · rw [upd_ne ne] at hd
    exact hd
  · rw [upd_ne ne] at hd
    have eh : upd (del (upd (upd (upd H1 a (exo a (G.cls c) none)) d (exd d (ns.zip vs).reverse)) a (exo a (G.cls c) (some d))) a) d (.xd (ns.zip vs).reverse) = upd H1 d (.xd (ns.zip vs).reverse) := by
      funext b
      unfold upd del
      by_cases h1 : b = d
      · simp [h1]
      · by_cases h2 : b = a
        · subst h2
          simp [h1, ha]
        · simp [h1, h2]
    rw [eh]
    have s1 := s.step e1
    refine KS.exn s1 l k1 _ _ (some d) (Ex.new (o := .xd (ns.zip vs).reverse) e1.fi hd) ?_
    have hne : ds ≠ [] := fun z => by
      rw [z] at hl
      exact cx.ne (List.length_eq_zero_iff.mp (by rw [← hn, ← hl]; rfl))
    refine .inr ⟨d, _, rfl, hne, .inr rfl, upd_same, by rw [cx.nm, ← hlv, r1.len]; exact Nat.le_refl _, fun k x dd q1 q2 => ?_⟩
    rw [cx.nm] at q1
    obtain ⟨v, q3, q4⟩ := r1.get q2
    exact ⟨v, lookup_rev cx.nd hlv q1 q3, q4.ex (Ex.new e1.fi hd)⟩
/-- raise X('text') -/
theorem gs_raiseT {c : Nat} {x m : Str} {i : Nat} {p p2 pos pos' : Pos} (cx : CalT X.K X.mg G c x) (hc : X.calm = true) (tk : Takes X W) (hg : Gl X x := by rfl) (l : leO O Z.xo = true := by rfl) (hdb : (x == ("__debug__" : Str)) = false := by decide) :
    GS X G W Z O O' (.Raise (some (.Call (.Name x p) [.Constant (.str m) i p2] [] pos)) none pos') (fun ρ => .ex c [] ρ) :=
  ⟨_, ps_raise hc tk (pmk_own PySem.F.excBase_ValueError cx.at_ cx.gl cx.kp (raises_own cx.exC cx.tyC) hg hdb), fun γ F σ H ρ E s k => KS.exn s l k F H none (Ex.refl s.ex.fi) (.inl ⟨rfl, rfl⟩)⟩
end
end NW
end

section
set_option Elab.async false
set_option linter.all false
set_option maxRecDepth 100000
/-! NWs: try with several clauses, with names. -/
namespace NW
open PySem PySem.Spec L2
open PyProof.Rows hiding St

/-! ### no exception within -/
mutual
def clean : D → Bool
  | .tup ds => cleans ds
  | .lst ds => cleans ds
  | .obj _ ds => cleans ds
  | .dct _ ds => cleans ds
  | .xc _ _ => false
  | .non => true
  | .bl _ => true
  | .int _ => true
  | .str _ => true
  | .scr _ => true
def cleans : List D → Bool
  | [] => true
  | d :: ds => clean d && cleans ds
end
def cleanE (ρ : NW.Env) : Bool := ρ.all fun od => match od with
  | some d => clean d
  | none => true
abbrev exG (G : Gb) (e : Addr → Option Addr → Nat → Prop) : Gb := { G with exc := e }
section
variable {K : PySem.W.Frag} {G : Gb} {F F' : Fr} {H H' : Hp} {e1 e2 : Addr → Option Addr → Nat → Prop} {b : Bool} {O O' : List Ow} {σ : St} {ρ : NW.Env} {γ : Gh}
mutual
theorem Rp.chg (hb : b = true → ∀ a d c, e1 a d c → e2 a d c) : ∀ (d : D) {v : V}, (b = false → clean d = true) → Rp K (exG G e1) F H d v → Rp K (exG G e2) F H d v
  | .non, _, _, h => by unfold Rp at h ⊢; exact h
  | .bl _, _, _, h => by unfold Rp at h ⊢; exact h
  | .int _, _, _, h => by unfold Rp at h ⊢; exact h
  | .str _, _, _, h => by unfold Rp at h ⊢; exact h
  | .tup ds, _, hc, h => by
    unfold Rp at h ⊢
    obtain ⟨a, vs, e, q, h2⟩ := h
    exact ⟨a, vs, e, q, Rps.chg hb ds (fun z => by have := hc z; unfold clean at this; exact this) h2⟩
  | .lst ds, _, hc, h => by
    unfold Rp at h ⊢
    obtain ⟨a, vs, e, q, h2⟩ := h
    exact ⟨a, vs, e, q, Rps.chg hb ds (fun z => by have := hc z; unfold clean at this; exact this) h2⟩
  | .obj c ds, _, hc, h => by
    unfold Rp at h ⊢
    obtain ⟨a, vs, e, q, hl, h2⟩ := h
    exact ⟨a, vs, e, q, hl, Rps.chg hb ds (fun z => by have := hc z; unfold clean at this; exact this) h2⟩
  | .dct ks ds, _, hc, h => by
    unfold Rp at h ⊢
    obtain ⟨a, vs, e, q, h2⟩ := h
    exact ⟨a, vs, e, q, Rps.chg hb ds (fun z => by have := hc z; unfold clean at this; exact this) h2⟩
  | .scr ns, _, _, h => by unfold Rp at h ⊢; exact h
  | .xc c fs, _, hc, h => by
    unfold Rp at h ⊢
    obtain ⟨a, dd, ws, e, g, q, h2⟩ := h
    rcases Bool.eq_false_or_eq_true b with z | z
    · exact ⟨a, dd, ws, e, hb z a dd c g, q, Rps.chg hb fs (fun y => by rw [z] at y; cases y) h2⟩
    · have := hc z; unfold clean at this; cases this
theorem Rps.chg (hb : b = true → ∀ a d c, e1 a d c → e2 a d c) : ∀ (ds : List D) {vs : List V}, (b = false → cleans ds = true) → Rps K (exG G e1) F H ds vs → Rps K (exG G e2) F H ds vs
  | [], _, _, h => by unfold Rps at h ⊢; exact h
  | d :: ds, _, hc, h => by
    unfold Rps at h ⊢
    obtain ⟨v, r, e, h1, h2⟩ := h
    have hc2 : b = false → clean d = true ∧ cleans ds = true := fun z => by have := hc z; unfold cleans at this; exact Bool.and_eq_true_iff.mp this
    exact ⟨v, r, e, Rp.chg hb d (fun z => (hc2 z).1) h1, Rps.chg hb ds (fun z => (hc2 z).2) h2⟩
end
theorem RpL.chgM {R R' : D → V → List Addr → Prop} : ∀ {ds : List D} {vs : List V} {A : List Addr}, (b = false → cleans ds = true) → (∀ d v B, (b = false → clean d = true) → R d v B → R' d v B) → RpL R ds vs A → RpL R' ds vs A
  | [], _, _, _, _, h => by unfold RpL at h ⊢; exact h
  | d :: ds, _, A, hc, k, h => by
    unfold RpL at h ⊢
    obtain ⟨v, r, A1, A2, e1, e2, h1, h2⟩ := h
    have hc2 : b = false → clean d = true ∧ cleans ds = true := fun z => by have := hc z; unfold cleans at this; exact Bool.and_eq_true_iff.mp this
    exact ⟨v, r, A1, A2, e1, e2, k d v A1 (fun z => (hc2 z).1) h1, RpL.chgM (fun z => (hc2 z).2) k h2⟩
theorem RpO.chg (hb : b = true → ∀ a d c, e1 a d c → e2 a d c) : ∀ (o : Ow) {d : D} {v : V} {A : List Addr}, (b = false → clean d = true) → RpO K (exG G e1) F H o d v A → RpO K (exG G e2) F H o d v A
  | .na, _, _, _, _, h => by unfold RpO at h; exact h.elim
  | .fz, d, _, _, hc, h => by unfold RpO at h ⊢; exact ⟨h.1, Rp.chg hb d hc h.2⟩
  | .own o, d, v, A, hc, h => by
    cases d with
    | lst ds =>
      unfold RpO at h ⊢
      obtain ⟨p, vs, A', e, q, hp, hl⟩ := h
      exact ⟨p, vs, A', e, q, hp, hl.chgM (b := b) (fun z => by have := hc z; unfold clean at this; exact this) fun d v B hd z => RpO.chg hb o hd z⟩
    | obj c ds =>
      unfold RpO at h ⊢
      obtain ⟨p, vs, A', e, q, hp, hn, hl⟩ := h
      exact ⟨p, vs, A', e, q, hp, hn, hl.chgM (b := b) (fun z => by have := hc z; unfold clean at this; exact this) fun d v B hd z => RpO.chg hb o hd z⟩
    | dct ks ds =>
      unfold RpO at h ⊢
      obtain ⟨p, vs, A', e, q, hp, hl⟩ := h
      exact ⟨p, vs, A', e, q, hp, hl.chgM (b := b) (fun z => by have := hc z; unfold clean at this; exact this) fun d v B hd z => RpO.chg hb o hd z⟩
    | _ =>
      unfold RpO at h ⊢
      exact ⟨h.1, Rp.chg hb _ hc h.2⟩
theorem cleanE_at {i : Nat} {d : D} (h : cleanE ρ = true) (e : ρ[i]? = some (some d)) : clean d = true := by
  have := List.all_eq_true.mp h _ (List.mem_of_getElem? e)
  exact this
theorem ST.chg (hb : b = true → ∀ a d c, e1 a d c → e2 a d c) (hc : b = false → cleanE ρ = true) (h : ST K (exG G e1) γ O F σ H ρ) : ST K (exG G e2) γ O F σ H ρ := by
  obtain ⟨As, q, own⟩ := h.sl
  refine ⟨h.ex, h.cs, h.me, As, ⟨q.lr, q.ls, fun i o ho => ?_, q.dj, q.nd, q.nf⟩, own⟩
  rcases q.sl i o ho with z | z | ⟨d, v, z1, z2, z3⟩
  · exact .inl z
  · exact .inr (.inl z)
  · exact .inr (.inr ⟨d, v, z1, z2, RpO.chg hb o (fun z => cleanE_at (hc z) z1) z3⟩)
/-- a slot that tells nothing may hold anything -/
theorem ST.setNa {i : Nat} {x : Option V} (h : ST K G γ O F σ H ρ) : ST K G γ (O.set i .na) F (σ.set i x) H (ρ.set i none) := by
  obtain ⟨As, q, own⟩ := (h.dropped i).sl
  refine ⟨h.ex, h.cs, fun v e1 e2 => ?_, As, ⟨q.lr, by simp [h.ls], fun j o ho => ?_, q.dj, q.nd, q.nf⟩, own⟩
  · rw [set_at] at e2
    by_cases hi : i = 0
    · rw [if_pos hi] at e2
      split at e2 <;> cases e2
    · rw [if_neg hi] at e2
      rw [set_at, if_neg hi]
      exact h.me v e1 e2
  · by_cases hij : i = j
    · subst hij
      rw [set_at, if_pos rfl] at ho
      split at ho
      · cases ho
        rcases q.sl i .na (by rw [set_at, if_pos rfl, if_pos (by assumption)]) with z | z | ⟨d, v, z1, z2, z3⟩
        · exact .inl z
        · exact .inr (.inl z)
        · unfold RpO at z3; exact z3.elim
      · cases ho
    · rcases q.sl j o ho with z | z | ⟨d, v, z1, z2, z3⟩
      · exact .inl z
      · exact .inr (.inl z)
      · exact .inr (.inr ⟨d, v, z1, by rw [set_at, if_neg hij]; exact z2, z3⟩)
theorem pick_ws {P : Nat → V → Prop} : ∀ {fs : List D}, (∀ k d, fs[k]? = some d → ∃ v, P k v ∧ Rp K G F H d v) → ∃ ws, Rps K G F H fs ws ∧ ∀ k v, ws[k]? = some v → P k v := by
  intro fs
  induction fs generalizing P with
  | nil => exact fun _ => ⟨[], rps_nil, fun k v e => by simp at e⟩
  | cons d fs ih =>
    intro h
    obtain ⟨v, p, r⟩ := h 0 d rfl
    obtain ⟨ws, q1, q2⟩ := ih (P := fun k => P (k + 1)) fun k d e => h (k + 1) d (by simpa using e)
    refine ⟨v :: ws, rps_cons r q1, fun k w e => ?_⟩
    cases k with
    | zero => simp at e; subst e; exact p
    | succ k => exact q2 k w (by simpa using e)
end

/-! ### the clauses -/
def dn (i : Nat) (D : Ends) : Ends := { nx := fun σ' H' => D.nx (σ'.set i none) H', rt := D.rt, bk := fun σ' H' => D.bk (σ'.set i none) H', ct := fun σ' H' => D.ct (σ'.set i none) H' }
def wManyX (K : PySem.W.Frag) (Wout : WX) (D : Ends) : List (Value × Option Nat × (Addr → Value → Option Addr → TS)) → WX
  | [] => Wout
  | (c, none, ts) :: r => fun cls d σ H => ∃ b, PySem.W.exmOne K cls c = some b ∧ (b = true → ∀ a, H a = none → ts a cls d D σ H) ∧ (b = false → wManyX K Wout D r cls d σ H)
  | (c, some i, ts) :: r => fun cls d σ H => ∃ b, PySem.W.exmOne K cls c = some b ∧ (b = true → ∀ a, H a = none → ts a cls d (dn i D) (σ.set i (some (.ref a))) H) ∧ (b = false → wManyX K Wout D r cls d σ H)
inductive HdsX (X : Cx) : List ExceptHandler → List (Value × Option Nat × (Addr → Value → Option Addr → TS)) → Prop
  | nil : HdsX X [] []
  | cons {x : Str} {c : Value} {ts : Addr → Value → Option Addr → TS} {b₀ : Stmt} {suite : List Stmt} {np pos' : Pos} {hds : List ExceptHandler} {l : List (Value × Option Nat × (Addr → Value → Option Addr → TS))} (hc : Names X x c)
      (hsu : ∀ (a : Addr) (oe : Obj) (cls : Value) (d : Option Addr) (pn : List (Addr × Obj)), Zc cls d oe → (∃ vs, oe.data = .fields vs) → PSs (X.suite a ((a, oe) :: pn)) (b₀ :: suite) (ts a cls d)) (r : HdsX X hds l) :
      HdsX X (.ExceptHandler (some (.Name x np)) none (b₀ :: suite) pos' :: hds) ((c, none, ts) :: l)
  | consN {x n : Str} {i : Nat} {c : Value} {ts : Addr → Value → Option Addr → TS} {b₀ : Stmt} {suite : List Stmt} {np pos' : Pos} {hds : List ExceptHandler} {l : List (Value × Option Nat × (Addr → Value → Option Addr → TS))} (hc : Names X x c)
      (hi : X.N[i]? = some n) (hln : X.env.kindOf n = some .local)
      (hsu : ∀ (a : Addr) (oe : Obj) (cls : Value) (d : Option Addr) (pn : List (Addr × Obj)), Zc cls d oe → (∃ vs, oe.data = .fields vs) → PSs (X.suite a ((a, oe) :: pn)) (b₀ :: suite) (ts a cls d)) (r : HdsX X hds l) :
      HdsX X (.ExceptHandler (some (.Name x np)) (some n) (b₀ :: suite) pos' :: hds) ((c, some i, ts) :: l)
section
variable {X : Cx} {body : List Stmt} {h₀ : ExceptHandler} {hds : List ExceptHandler} {l : List (Value × Option Nat × (Addr → Value → Option Addr → TS))} {pos : Pos} {tb : WX → TS} {Wout : WX}
theorem ps_try_manyX (hs : X.stack = X.env :: X.outer) (hf : X.env.frame = some X.env.locals) (hN : X.N.Nodup) (tk : Takes X Wout)
    (hb : ∀ (W : WX) (pn : List (Addr × Obj)) (xe : Value → Shared → Prop), Takes (X.tr pn xe) W → PassesOwn (model X.prog X.w) X.A X.env xe → PSs (X.tr pn xe) body (tb W))
    (hh : HdsX X (h₀ :: hds) l) : PS X (.Try body (h₀ :: hds) [] [] pos) (fun D σ H => tb (wManyX X.K Wout D l) D σ H) := by
  refine ⟨fun pins s σ H D I h => ?_⟩
  have ok := I.ok
  have hfr : X.A.frames = some (X.env :: X.outer) := by rw [ok.frames, hs]
  refine wpAny_Try_except ?_
  refine wpAny_mono ((hb (wManyX X.K Wout D l) (X.pn ++ pins) (fun e s₁ => wpAny (model X.prog X.w) X.A (noteFrame e X.env) (fun _ s₂ => wpAny (model X.prog X.w) X.A (setFlight e none) (fun _ s₃ =>
    wpAny (model X.prog X.w) X.A (handleBy e X.env (h₀ :: hds)) (SP X pins D) X.xe s₃) X.xe s₂) X.xe s₁) (fun u s' xx => ?_) PassesOwn.looking).run [] s σ H D (I.toTry _) h) (fun f s1 hsp => ?_) (fun e s1 he => he)
  · -- the catch
    obtain ⟨a, B, sI, pins', σ', H', cls, d, rfl, J', nb, up, sky, na, os, ag, w⟩ := xx
    have J : Inv X pins σ' H' sI := J'.ofTry ok
    have sky' : Sky B (X.env :: X.outer) a (Zc cls d) X.env.locals s'.heap := by rw [← hs]; exact sky
    show wpAny (model X.prog X.w) X.A (noteFrame (.ref a) X.env) _ _ _
    refine Sky.land Zc.steady hfr hf sky' fun h3 fl3 up3 => ?_
    have J3 : Inv X pins σ' H' { s' with heap := h3 } := J.landed nb fl3.1 (up.trans up3) os ag
    obtain ⟨oe3, vs3, he3, hz3, hd3⟩ := fl3.there
    have notFr : ∀ {h : Heap} {o : Obj} {vs : Array Value}, h.FunFrames B (X.env :: X.outer) → h.get? a = some o → o.data = .fields vs → a ∉ frs (X.env :: X.outer) := fun {h o vs} ff e dd hm => by
      obtain ⟨_, o', e', hnf⟩ := ff.mem hm
      rw [e] at e'; cases e'
      exact hnf _ dd
    have nfr := notFr fl3.2.2.1 he3 hd3
    have nL : a ≠ X.env.locals := fun z => nfr (List.mem_filterMap.mpr ⟨X.env, List.mem_cons_self, by rw [hf, z]⟩)
    have nF : a ∉ X.fs := fun hm => by
      obtain ⟨e, he, q⟩ := List.mem_filterMap.mp hm
      exact nfr (List.mem_filterMap.mpr ⟨e, List.mem_cons_of_mem _ he, q⟩)
    have S3 := J3.suite he3 hd3 na nL nF
    have LT : PySem.W.Looks (model X.prog X.w) h3 (typeOf (.ref a)) cls := fun A Q E s k q => wpAny_typeOf_ref (k _ _ he3) (by rw [hz3.1]; exact q)
    have test : ∀ {x : Str} {c : Value} {np : Pos} {Q : Value → Shared → Prop} {E : Value → Shared → Prop}, Names X x c → Q c { s' with heap := h3 } → wpAny (model X.prog X.w) (X.A.mark (some (.ref a))) (eval (.Name x np) X.env) Q E { s' with heap := h3 } := fun {x c np Q E} hc q => by
      obtain ⟨hg, hdbg, hm | ⟨hm, hv, hnn⟩⟩ := hc
      · exact ld_glob (X := X.suite a ((a, oe3) :: (X.pn ++ pins))) S3 hg hm q hdbg
      · exact ld_blt (X := X.suite a ((a, oe3) :: (X.pn ++ pins))) S3 hg hm hv q hnn hdbg
    have go : ∀ {hds' : List ExceptHandler} {l' : List (Value × Option Nat × (Addr → Value → Option Addr → TS))}, HdsX X hds' l' → wManyX X.K Wout D l' cls d σ' H' →
        wpAny (model X.prog X.w) X.A (handleBy (.ref a) X.env hds') (SP X pins D) X.xe { s' with heap := h3 } := by
      intro hds' l' hk
      induction hk with
      | nil =>
        intro w
        refine wpAny_handleBy_nil ?_
        obtain ⟨k1, k2, k3, oe, vs, T, oT, ts', he, hz, hd, h1, hr⟩ := id fl3
        unfold PySem.passOn
        refine wpAny_bind (wpAny_field he hd h1 ?_)
        rw [if_neg (show ¬ ((Value.ref T == Value.none) = true) from by simp)]
        have fin : wpAny (model X.prog X.w) X.A (setFlight (.ref a) X.env.frame) (fun _ s4 => wpAny (model X.prog X.w) X.A (throw (.ref a) : Sem Flow) (SP X pins D) X.xe s4) X.xe { s' with heap := h3 } := by
          rw [hf]
          refine HandSPX.setFlight_upZ fl3 fun h4 hh4 up4 => wpAny_throw (tk _ _ ?_)
          exact ⟨a, B, sI, pins, σ', H', cls, d, rfl, J, nb, (up.trans up3).trans up4, .inr (.inr (by rw [hs]; exact hh4)), na, os, ag, w⟩
        first
          | exact wpAny_bind (wpAny_pure (wpAny_bind fin))
          | exact wpAny_bind fin
      | @cons x c ts b₀ suite np pos' hds2 l2 hc hsu r ih =>
        intro w
        obtain ⟨b, hb1, hyes, hno⟩ := w
        refine wpAny_handleBy_cons (codeAny_handlers_test ?_) (by intro q; cases q)
        have LM := PySem.W.exm_one (M := model X.prog X.w) (J3.kIn) LT hb1
        refine test hc (LM.here ?_)
        cases b with
        | true =>
          refine codeAny_handlers_suite ?_
          refine HandSPX.lands_againZ fl3 fun h4 fl4 up4 => ?_
          have J4 : Inv X pins σ' H' { s' with heap := h4 } := J.landed nb fl4.1 ((up.trans up3).trans up4) os ag
          obtain ⟨oe4, vs4, he4, hz4, hd4⟩ := fl4.there
          have S4 := J4.suite he4 hd4 na nL nF
          refine wpAny_mono ((hsu a oe4 cls d (X.pn ++ pins) hz4 ⟨_, hd4⟩).run [] _ _ H' _ S4 (hyes rfl a na)) (fun f s6 hsp => ?_) (fun _ _ z => False.elim z)
          cases f with
          | next =>
            obtain ⟨σ6, H6, S6, q6⟩ := hsp
            exact ⟨_, _, S6.unsuite ok, q6⟩
          | brk =>
            obtain ⟨σ6, H6, S6, q6⟩ := hsp
            exact ⟨_, _, S6.unsuite ok, q6⟩
          | cont =>
            obtain ⟨σ6, H6, S6, q6⟩ := hsp
            exact ⟨_, _, S6.unsuite ok, q6⟩
          | ret u =>
            obtain ⟨v6, σ6, H6, S6, r6, q6⟩ := hsp
            exact ⟨_, _, _, S6.unsuite ok, r6, q6⟩
        | false =>
          show wpAny _ X.A (handleBy (.ref a) X.env hds2) _ _ _
          exact ih (hno rfl)
      | @consN x n i c ts b₀ suite np pos' hds2 l2 hc hi hln hsu r ih =>
        intro w
        obtain ⟨b, hb1, hyes, hno⟩ := w
        refine wpAny_handleBy_cons (codeAny_handlers_test ?_) (by intro q; cases q)
        have LM := PySem.W.exm_one (M := model X.prog X.w) (J3.kIn) LT hb1
        refine test hc (LM.here ?_)
        cases b with
        | true =>
          refine codeAny_handlers_suite_as ?_
          refine HandSPX.lands_againZ fl3 fun h4 fl4 up4 => ?_
          have J4 : Inv X pins σ' H' { s' with heap := h4 } := J.landed nb fl4.1 ((up.trans up3).trans up4) os ag
          obtain ⟨oe4, vs4, he4, hz4, hd4⟩ := fl4.there
          have S4 := J4.suite he4 hd4 na nL nF
          have hloc : Loc X.env.scope n := .inl hln
          refine store_ok (X := X.suite a ((a, oe4) :: (X.pn ++ pins))) (v := .ref a) S4 hN hi hloc rfl (fun s5 S5 => ?_) (.inr hln)
          refine wpAny_mono ((hsu a oe4 cls d (X.pn ++ pins) hz4 ⟨_, hd4⟩).run [] s5 _ H' _ S5 (hyes rfl a na)) (fun f s6 hsp => ?_) (fun _ _ z => False.elim z)
          have end_ : ∀ {σ6 : St} {H6 : Hp} {Q : Shared → Prop}, Inv (X.suite a ((a, oe4) :: (X.pn ++ pins))) [] σ6 H6 s6 → (∀ s7, Inv X pins (σ6.set i none) H6 s7 → Q s7) →
              wpAny (model X.prog X.w) X.A (do bindName X.env n .none; unbindBehindTheSuite X.env n pos') (fun _ s7 => Q s7) X.xe s6 := fun {σ6 H6 Q} S6 hq => gone_ok (S6.unsuite ok) hN hi hln hq
          cases f with
          | next =>
            obtain ⟨σ6, H6, S6, q6⟩ := hsp
            exact end_ S6 fun s7 J7 => ⟨_, _, J7, q6⟩
          | brk =>
            obtain ⟨σ6, H6, S6, q6⟩ := hsp
            exact end_ S6 fun s7 J7 => ⟨_, _, J7, q6⟩
          | cont =>
            obtain ⟨σ6, H6, S6, q6⟩ := hsp
            exact end_ S6 fun s7 J7 => ⟨_, _, J7, q6⟩
          | ret u =>
            obtain ⟨v6, σ6, H6, S6, r6, q6⟩ := hsp
            exact end_ S6 fun s7 J7 => ⟨_, _, _, J7, r6, q6⟩
        | false =>
          show wpAny _ X.A (handleBy (.ref a) X.env hds2) _ _ _
          exact ih (hno rfl)
    exact go hh w
  · cases f with
    | next =>
      obtain ⟨σ', H', J', q⟩ := hsp
      exact wpAny_execs_nil ⟨σ', H', J'.ofTry ok, q⟩
    | brk =>
      obtain ⟨σ', H', J', q⟩ := hsp
      exact ⟨σ', H', J'.ofTry ok, q⟩
    | cont =>
      obtain ⟨σ', H', J', q⟩ := hsp
      exact ⟨σ', H', J'.ofTry ok, q⟩
    | ret u =>
      obtain ⟨v, σ', H', J', r, q⟩ := hsp
      exact ⟨v, σ', H', J'.ofTry ok, r, q⟩
end
end NW
end

section
set_option Elab.async false
set_option linter.all false
set_option maxRecDepth 100000
/-! NWt: try by data. -/
namespace NW
open PySem PySem.Spec L2
open PyProof.Rows hiding St
abbrev GSsC := GSs
def rdS (K : PySem.W.Frag) (G : Gb) (W : WX) (Z : Exits) (O O' : List Ow) (f : NW.Env → Out) : TS := fun E σ H => ∃ γ F ρ, ST K G γ O F σ H ρ ∧ KS K G W Z γ O' E (f ρ)
section
variable {X : Cx} {G : Gb} {W : WX} {Z : Exits} {O O' O1 Oc : List Ow} {γ : Gh} {F F' : Fr} {H H' : Hp} {σ : St} {ρ : NW.Env} {E : Ends}
theorem GSs.canon {ss : List Stmt} {f : NW.Env → Out} (h : GSs X G W Z O O' ss f) : PSs X ss (rdS X.K G W Z O O' f) := by
  obtain ⟨t, p, i⟩ := h
  exact ⟨fun pins s σ H D I ⟨γ, F, ρ, z, k⟩ => p.run pins s σ H D I (i γ F σ H ρ D z k)⟩
def tryS (f : NW.Env → Out) (h : Nat → List D → NW.Env → Out) : NW.Env → Out := fun ρ => match f ρ with
  | .ex c fs ρ' => h c fs ρ'
  | o => o
def GHs (X : Cx) (G : Gb) (W : WX) (Z : Exits) (Oc O' : List Ow) (hds : List ExceptHandler) (h : Nat → List D → NW.Env → Out) : Prop :=
  ∃ l, HdsX X hds l ∧ ∀ γ F σ H ρ E c fs dd, ST X.K G γ Oc F σ H ρ → XR X.K G F H c fs dd → KS X.K G W Z γ O' E (h c fs ρ) → wManyX X.K W E l (.ref (G.cls c)) dd σ H
theorem gs_try {body : List Stmt} {h₀ : ExceptHandler} {hds : List ExceptHandler} {pos : Pos} {f : NW.Env → Out} {h : Nat → List D → NW.Env → Out} (Oc : List Ow) (tk : Takes X W) (hN : X.N.Nodup)
    (hb : ∀ (W' : WX) (pn : List (Addr × Obj)) (xe : Value → Shared → Prop), Takes (X.tr pn xe) W' → PassesOwn (model X.prog X.w) X.A X.env xe → GSs (X.tr pn xe) G W' { Z with xo := Oc } O O' body f)
    (hh : GHs X G W Z Oc O' (h₀ :: hds) h) (hs0 : X.stack = X.env :: X.outer := by rfl) (hf0 : X.env.frame = some X.env.locals := by rfl) : GS X G W Z O O' (.Try body (h₀ :: hds) [] [] pos) (tryS f h) := by
  obtain ⟨l, hl, hi⟩ := hh
  refine ⟨_, ps_try_manyX (tb := fun W' => rdS X.K G W' { Z with xo := Oc } O O' f) hs0 hf0 hN tk (fun W' pn xe t p => (hb W' pn xe t p).canon) hl, fun γ F σ H ρ E s k => ⟨γ, F, ρ, s, ?_⟩⟩
  unfold tryS at k
  revert k
  cases f ρ with
  | nx ρ => exact fun k => k
  | rt d ρ => exact fun k => k
  | bk ρ => exact fun k => k
  | ct ρ => exact fun k => k
  | st => exact fun k => k
  | ex c fs ρ' => exact fun k F1 σ1 H1 dd s1 x1 => hi γ F1 σ1 H1 ρ' E c fs dd s1 x1 k
def hdNil : Nat → List D → NW.Env → Out := fun c fs ρ => .ex c fs ρ
theorem gh_nil (l : leO Oc Z.xo = true := by rfl) : GHs X G W Z Oc O' [] hdNil := ⟨[], .nil, fun γ F σ H ρ E c fs dd s x k => KS.exn s l k F H dd (Ex.refl s.ex.fi) x⟩
/-- the class's test -/
def Tst (K : PySem.W.Frag) (G : Gb) (cv : Value) (m : Nat → Option Bool) : Prop := ∀ c b, m c = some b → PySem.W.exmOne K (.ref (G.cls c)) cv = some b
def undo (o : Out) : Out := match o with
  | .nx ρ => if cleanE ρ then .nx ρ else .st
  | .rt d ρ => if clean d && cleanE ρ then .rt d ρ else .st
  | .bk ρ => if cleanE ρ then .bk ρ else .st
  | .ct ρ => if cleanE ρ then .ct ρ else .st
  | _ => .st
def undoN (i : Nat) (o : Out) : Out := match o with
  | .nx ρ => if cleanE (ρ.set i none) then .nx (ρ.set i none) else .st
  | .rt d ρ => if clean d && cleanE (ρ.set i none) then .rt d (ρ.set i none) else .st
  | .bk ρ => if cleanE (ρ.set i none) then .bk (ρ.set i none) else .st
  | .ct ρ => if cleanE (ρ.set i none) then .ct (ρ.set i none) else .st
  | _ => .st
abbrev excN (G : Gb) (a : Addr) (cls : Value) (d : Option Addr) : Gb := exG G fun a' d' c' => a' = a ∧ d' = d ∧ cls = .ref (G.cls c')
def hdC (m : Nat → Option Bool) (b : NW.Env → Out) (rest : Nat → List D → NW.Env → Out) : Nat → List D → NW.Env → Out := fun c fs ρ => match m c with
  | some true => undo (b ρ)
  | some false => rest c fs ρ
  | none => .st
def hdN (m : Nat → Option Bool) (i : Nat) (b : NW.Env → Out) (rest : Nat → List D → NW.Env → Out) : Nat → List D → NW.Env → Out := fun c fs ρ => match m c with
  | some true => undoN i (b (ρ.set i (some (.xc c fs))))
  | some false => rest c fs ρ
  | none => .st
theorem cleanE_snoc {d : D} : (clean d && cleanE ρ) = true → cleanE (ρ ++ [some d]) = true := fun h => by
  obtain ⟨h1, h2⟩ := Bool.and_eq_true_iff.mp h
  unfold cleanE at h2 ⊢
  rw [List.all_append, h2]
  simp [h1]
theorem XR.rpx {K : PySem.W.Frag} {a : Addr} {c : Nat} {fs : List D} {dd : Option Addr} (hG : ∀ a d c, ¬ G.exc a d c) (x : XR K G F H c fs dd) : Rp K (excN G a (.ref (G.cls c)) dd) F H (.xc c fs) (.ref a) := by
  unfold Rp
  rcases x with ⟨rfl, rfl⟩ | ⟨b, kvs, e, ne, hF, hb, hl, hp⟩
  · exact ⟨a, none, [], rfl, ⟨rfl, rfl, rfl⟩, .inl ⟨rfl, rfl⟩, rps_nil⟩
  · obtain ⟨ws, q1, q2⟩ := pick_ws (G := G) (K := K) (F := F) (H := H) (P := fun k v => ∀ x, (G.names c)[k]? = some x → kvs.lookup x = some v) (fs := fs) fun k d e => by
      have hk : k < (G.names c).length := Nat.lt_of_lt_of_le (List.getElem?_eq_some_iff.mp e).1 hl
      obtain ⟨v, y1, y2⟩ := hp k ((G.names c)[k]) d (List.getElem?_eq_getElem hk) e
      exact ⟨v, fun x hx => by
        have : (G.names c)[k]? = some (G.names c)[k] := List.getElem?_eq_getElem hk
        rw [this] at hx; cases hx; exact y1, y2⟩
    exact ⟨a, dd, ws, rfl, ⟨rfl, rfl, rfl⟩, .inr ⟨b, kvs, e, ne, ⟨hF, hb⟩, fun k x w h1 h2 => q2 k w h2 x h1⟩, Rps.chg (K := K) (G := G) (e1 := G.exc) (b := true) (fun _ a d c z => absurd z (hG a d c)) fs (fun z => by cases z) q1⟩
theorem KS.undo {e1 : Addr → Option Addr → Nat → Prop} {Zs : Exits} {o : Out} (hrr : Zs.rr = Z.rr) (hro : Zs.ro = Z.ro) (hlo : Zs.lo = Z.lo) (lO : leO O1 O' = true) (k : KS X.K G W Z γ O' E (undo o)) : KS X.K (exG G e1) W0 Zs γ O1 E o := by
  have un : ∀ {O : List Ow} {F σ H ρ}, cleanE ρ = true → ST X.K (exG G e1) γ O F σ H ρ → ST X.K G γ O F σ H ρ := fun c s => ST.chg (K := X.K) (G := G) (e1 := e1) (e2 := G.exc) (b := false) (fun z => by cases z) (fun _ => c) s
  cases o with
  | nx ρ =>
    simp only [NW.undo] at k
    split at k
    · intro F σ H s
      obtain ⟨F2, _, s2⟩ := (un (by assumption) s).weak lO
      exact k F2 σ H s2
    · exact k.elim
  | rt d ρ =>
    simp only [NW.undo] at k
    split at k
    · intro F σ H v s
      rw [hrr, hro] at s
      exact k F σ H v (un (cleanE_snoc (by assumption)) s)
    · exact k.elim
  | bk ρ =>
    simp only [NW.undo] at k
    split at k
    · intro F σ H s
      rw [hlo] at s
      exact k F σ H (un (by assumption) s)
    · exact k.elim
  | ct ρ =>
    simp only [NW.undo] at k
    split at k
    · intro F σ H s
      rw [hlo] at s
      exact k F σ H (un (by assumption) s)
    · exact k.elim
  | ex c fs ρ => exact k.elim
  | st => exact k.elim
theorem KS.undoN {e1 : Addr → Option Addr → Nat → Prop} {Zs : Exits} {o : Out} {i : Nat} (hrr : Zs.rr = Z.rr) (hro : Zs.ro = Z.ro) (hlo : Zs.lo = Z.lo) (hi : i < Z.rr.length) (r1 : Z.rr.set i .na = Z.rr) (r2 : Z.lo.set i .na = Z.lo) (lO : leO (O1.set i .na) O' = true) (k : KS X.K G W Z γ O' E (undoN i o)) : KS X.K (exG G e1) W0 Zs γ O1 (dn i E) o := by
  have un : ∀ {O : List Ow} {F σ H ρ}, cleanE ρ = true → ST X.K (exG G e1) γ O F σ H ρ → ST X.K G γ O F σ H ρ := fun c s => ST.chg (K := X.K) (G := G) (e1 := e1) (e2 := G.exc) (b := false) (fun z => by cases z) (fun _ => c) s
  cases o with
  | nx ρ =>
    simp only [NW.undoN] at k
    split at k
    · intro F σ H s
      obtain ⟨F2, _, s2⟩ := (un (by assumption) (s.setNa (i := i) (x := none))).weak lO
      exact k F2 _ H s2
    · exact k.elim
  | rt d ρ =>
    simp only [NW.undoN] at k
    split at k
    · intro F σ H v s
      rw [hrr, hro] at s
      refine k F σ H v (un (cleanE_snoc (by assumption)) ?_)
      have hl : i < ρ.length := by
        have e1 : (ρ ++ [some d]).length = (Z.rr ++ [Z.ro]).length := s.lr
        simp at e1
        omega
      have s2 := s.dropped i
      rw [List.set_append_left _ _ hi, r1, List.set_append_left _ _ hl] at s2
      exact s2
    · exact k.elim
  | bk ρ =>
    simp only [NW.undoN] at k
    split at k
    · intro F σ H s
      rw [hlo] at s
      have s2 := s.setNa (i := i) (x := none)
      rw [r2] at s2
      exact k F _ H (un (by assumption) s2)
    · exact k.elim
  | ct ρ =>
    simp only [NW.undoN] at k
    split at k
    · intro F σ H s
      rw [hlo] at s
      have s2 := s.setNa (i := i) (x := none)
      rw [r2] at s2
      exact k F _ H (un (by assumption) s2)
    · exact k.elim
  | ex c fs ρ => exact k.elim
  | st => exact k.elim
section
variable {x n : Str} {cv : Value} {m : Nat → Option Bool} {b₀ : Stmt} {suite : List Stmt} {np pos' : Pos} {hds : List ExceptHandler} {b : NW.Env → Out} {rest : Nat → List D → NW.Env → Out}
theorem gh_cons (hG : ∀ a d c, ¬ G.exc a d c) (hc : Names X x cv) (hm : Tst X.K G cv m)
    (hsu : ∀ (a : Addr) (oe : Obj) (cls : Value) (d : Option Addr) (pn : List (Addr × Obj)), Zc cls d oe → (∃ vs, oe.data = .fields vs) → GSs (X.suite a ((a, oe) :: pn)) (excN G a cls d) W0 Z Oc O1 (b₀ :: suite) b)
    (hr : GHs X G W Z Oc O' hds rest) (lO : leO O1 O' = true := by rfl) : GHs X G W Z Oc O' (.ExceptHandler (some (.Name x np)) none (b₀ :: suite) pos' :: hds) (hdC m b rest) := by
  obtain ⟨l, hl, hi⟩ := hr
  refine ⟨(cv, none, fun a cls d => rdS X.K (excN G a cls d) W0 Z Oc O1 b) :: l, .cons hc (fun a oe cls d pn z1 z2 => (hsu a oe cls d pn z1 z2).canon) hl, fun γ F σ H ρ E c fs dd s xr k => ?_⟩
  unfold hdC at k
  cases e : m c with
  | none => rw [e] at k; exact k.elim
  | some bb =>
    rw [e] at k
    refine ⟨bb, hm c bb e, fun eb a ha => ?_, fun eb => ?_⟩
    · subst eb
      refine ⟨γ, F, ρ, ST.chg (K := X.K) (G := G) (e1 := G.exc) (b := true) (fun _ a d c z => absurd z (hG a d c)) (fun z => by cases z) s, KS.undo rfl rfl rfl lO k⟩
    · subst eb
      exact hi γ F σ H ρ E c fs dd s xr k
theorem gh_consN (i : Nat) (hG : ∀ a d c, ¬ G.exc a d c) (hc : Names X x cv) (hm : Tst X.K G cv m)
    (hsu : ∀ (a : Addr) (oe : Obj) (cls : Value) (d : Option Addr) (pn : List (Addr × Obj)), Zc cls d oe → (∃ vs, oe.data = .fields vs) → GSs (X.suite a ((a, oe) :: pn)) (excN G a cls d) W0 Z (Oc.set i .fz) O1 (b₀ :: suite) b)
    (hr : GHs X G W Z Oc O' hds rest) (hN : X.N[i]? = some n := by rfl) (hln : X.env.kindOf n = some .local := by rfl) (lO : leO (O1.set i .na) O' = true := by rfl) (hi' : i < Z.rr.length := by decide) (r1 : Z.rr.set i .na = Z.rr := by rfl) (r2 : Z.lo.set i .na = Z.lo := by rfl) :
    GHs X G W Z Oc O' (.ExceptHandler (some (.Name x np)) (some n) (b₀ :: suite) pos' :: hds) (hdN m i b rest) := by
  obtain ⟨l, hl, hi⟩ := hr
  refine ⟨(cv, some i, fun a cls d => rdS X.K (excN G a cls d) W0 Z (Oc.set i .fz) O1 b) :: l, .consN hc hN hln (fun a oe cls d pn z1 z2 => (hsu a oe cls d pn z1 z2).canon) hl, fun γ F σ H ρ E c fs dd s xr k => ?_⟩
  unfold hdN at k
  cases e : m c with
  | none => rw [e] at k; exact k.elim
  | some bb =>
    rw [e] at k
    refine ⟨bb, hm c bb e, fun eb a ha => ?_, fun eb => ?_⟩
    · subst eb
      have s1 : ST X.K (excN G a (.ref (G.cls c)) dd) γ Oc F σ H ρ := ST.chg (K := X.K) (G := G) (e1 := G.exc) (b := true) (fun _ a d c z => absurd z (hG a d c)) (fun z => by cases z) s
      exact ⟨γ, F, ρ.set i (some (.xc c fs)), s1.set i (Ex.refl s.ex.fi) (rpo_of (xr.rpx hG)) List.nodup_nil (fun a h => nomatch h) (.inr (by decide)), KS.undoN rfl rfl rfl hi' r1 r2 lO k⟩
    · subst eb
      exact hi γ F σ H ρ E c fs dd s xr k
end

/-! ### what is read of the caught exception -/
def xfD (c k : Nat) : D → R D
  | .xc c' fs => if c' = c then opt fs[k]? else .st
  | _ => .st
theorem nx_xf {c k : Nat} : NoX1 (xfD c k) := by
  intro x c' fs
  cases x <;> first | (intro h; cases h; done) | skip
  simp only [xfD]
  split
  · exact nx_opt
  · intro h; cases h
theorem gb_xf {a : Addr} {oe : Obj} {cls : Value} {d : Option Addr} {pn : List (Addr × Obj)} {c k : Nat} {f : Str} {e : Expr} {pos : Pos} {fe : NW.Env → R D} (T : XfC X.K (G.cls c)) (hno : PySem.W.findIn X.K (.ref (G.cls c)) f = some none) (hk : (G.names c)[k]? = some f) (hz : Zc cls d oe) (hf : ∃ vs, oe.data = .fields vs)
    (he : GB (X.suite a ((a, oe) :: pn)) (excN G a cls d) W O .fz e fe) (hb : attributeBase e f X.env (eval e X.env) = eval e X.env := by rfl) : GB (X.suite a ((a, oe) :: pn)) (excN G a cls d) W O .fz (.Attribute e f pos) (un1 (xfD c k) fe) := by
  obtain ⟨t, p, i⟩ := he
  refine ⟨_, pe_xf T hno hz hf p hb, fun F σ H ρ Q s q => ?_⟩
  refine imp_seq (ta := t) i s q fun dx F1 H1 x A e1 r1 k1 => ?_
  cases dx <;> first | exact (show False from k1).elim | skip
  rename_i c' fs
  simp only [xfD] at k1
  split at k1
  · rename_i ec
    subst ec
    have r2 := (rpo_fz.mp r1).2
    unfold Rp at r2
    obtain ⟨a', dd, ws, ev, ⟨g1, g2, g3⟩, h, rs⟩ := r2
    subst g1 g2
    cases hfs : fs[k]? with
    | none => rw [hfs] at k1; exact k1.elim
    | some y =>
      rw [hfs] at k1
      rcases h with ⟨h, _⟩ | ⟨b, kvs, eb, ne, ⟨hF, hb⟩, hl⟩
      · rw [h] at hfs; simp at hfs
      · obtain ⟨v, hv, rv⟩ := rs.get hfs
        exact ⟨ev, g3, b, kvs, v, eb, hb, hl k f v hk hv, k1 F1 H1 v [] (Ex.refl e1.fi) (rpo_of rv)⟩
  · exact k1.elim
def isxD (c : Nat) (b : Bool) : D → R D
  | .xc c' [] => if c' = c then .ok (.bl b) else .st
  | _ => .st
theorem rIsX {a : Addr} {oe : Obj} {cls : Value} {d : Option Addr} {pn : List (Addr × Obj)} {D0 : Addr} (T : ExcC X.K D0) (hz : Zc cls d oe) (hf : ∃ vs, oe.data = .fields vs) : CallR (X.suite a ((a, oe) :: pn)) (.builtin "isinstance") (fun xs H Q => cls = .ref D0 ∧ d = none ∧ rIsE X.K D0 a xs H Q) := by
  intro pins s σ H xs us Q I rel ⟨h1, h2, h3⟩
  subst h1 h2
  exact call_isE T hz hf pins s σ H xs us Q I rel h3
/-- isinstance(e, T), T a class of the builtins -/
theorem gb_isxT (T : String) {a : Addr} {oe : Obj} {cls : Value} {d : Option Addr} {pn : List (Addr × Obj)} {c : Nat} {b : Bool} {e : Expr} {p p2 pos : Pos} {fe : NW.Env → R D} (hT : ExcC X.K (G.cls c)) (hk : PySem.W.kitOne X.K (.ref (G.cls c)) (.type T) = some b) (hm : X.mg "isinstance" = none) (hmT : X.mg (Str.ofString T) = none) (hz : Zc cls d oe) (hf : ∃ vs, oe.data = .fields vs)
    (he : GB (X.suite a ((a, oe) :: pn)) (excN G a cls d) W O .fz e fe) (hbT : bootBuiltins (Str.ofString T) = some (.type T) := by decide +kernel) (hg : Gl X "isinstance" := by rfl) (hgT : Gl X (Str.ofString T) := by rfl) (hn : Str.ofString T ≠ "__name__" := by decide) (hd : (Str.ofString T == ("__debug__" : Str)) = false := by decide)
    (hs : starEach [e, .Name (Str.ofString T) p2] X.env = (false, eval e X.env) :: starEach [.Name (Str.ofString T) p2] X.env := by rfl) :
    GB (X.suite a ((a, oe) :: pn)) (excN G a cls d) W O .fz (.Call (.Name "isinstance" p) [e, .Name (Str.ofString T) p2] [] pos) (un1 (isxD c b) fe) := by
  obtain ⟨t, pa, i⟩ := he
  refine ⟨_, pe_callB (rIsX hT hz hf) hg hm (by decide +kernel) (pa_cons pa (pa_cons (pe_bltn (X := X.suite a ((a, oe) :: pn)) (v := .ty T) hgT hmT hbT rfl hn hd) pa_nil (by rfl)) hs) (by decide) (by decide) hs (by rfl), fun F σ H ρ Q s q => ?_⟩
  refine imp_seq (ta := t) i s q fun dx F1 H1 x A e1 r1 k1 => ?_
  cases dx <;> first | exact (show False from k1).elim | skip
  rename_i c' fs
  cases fs with
  | cons _ _ => exact k1.elim
  | nil =>
    simp only [isxD] at k1
    split at k1
    · rename_i ec
      subst ec
      have r2 := (rpo_fz.mp r1).2
      unfold Rp at r2
      obtain ⟨a', dd, ws, ev, ⟨g1, g2, g3⟩, h, rs⟩ := r2
      subst g1 g2
      rcases h with ⟨_, h⟩ | ⟨_, _, _, ne, _⟩
      · exact ⟨g3, h, .ty T, .type T, b, by rw [ev], fun u hu => hu, hk, k1 F1 H1 _ [] (Ex.refl e1.fi) (rpo_of (rp_bl.mpr rfl))⟩
      · exact absurd rfl ne
    · exact k1.elim
/-- isinstance(e, C), C a class of the program -/
theorem gb_isxC {a : Addr} {oe : Obj} {cls : Value} {d : Option Addr} {pn : List (Addr × Obj)} {c : Nat} {b : Bool} {C : Addr} {x : Str} {e : Expr} {p p2 pos : Pos} {fe : NW.Env → R D} (hT : ExcC X.K (G.cls c)) (hk : PySem.W.kitOne X.K (.ref (G.cls c)) (.ref C) = some b) (hm : X.mg "isinstance" = none) (hmC : X.mg x = some (.ref C)) (hz : Zc cls d oe) (hf : ∃ vs, oe.data = .fields vs)
    (he : GB (X.suite a ((a, oe) :: pn)) (excN G a cls d) W O .fz e fe) (hg : Gl X "isinstance" := by rfl) (hgC : Gl X x := by rfl) (hd : (x == ("__debug__" : Str)) = false := by decide)
    (hs : starEach [e, .Name x p2] X.env = (false, eval e X.env) :: starEach [.Name x p2] X.env := by rfl) :
    GB (X.suite a ((a, oe) :: pn)) (excN G a cls d) W O .fz (.Call (.Name "isinstance" p) [e, .Name x p2] [] pos) (un1 (isxD c b) fe) := by
  obtain ⟨t, pa, i⟩ := he
  refine ⟨_, pe_callB (rIsX hT hz hf) hg hm (by decide +kernel) (pa_cons pa (pa_cons (pe_glob (X := X.suite a ((a, oe) :: pn)) (v := .ref C) hgC hmC rfl hd) pa_nil (by rfl)) hs) (by decide) (by decide) hs (by rfl), fun F σ H ρ Q s q => ?_⟩
  refine imp_seq (ta := t) i s q fun dx F1 H1 x A e1 r1 k1 => ?_
  cases dx <;> first | exact (show False from k1).elim | skip
  rename_i c' fs
  cases fs with
  | cons _ _ => exact k1.elim
  | nil =>
    simp only [isxD] at k1
    split at k1
    · rename_i ec
      subst ec
      have r2 := (rpo_fz.mp r1).2
      unfold Rp at r2
      obtain ⟨a', dd, ws, ev, ⟨g1, g2, g3⟩, h, rs⟩ := r2
      subst g1 g2
      rcases h with ⟨_, h⟩ | ⟨_, _, _, ne, _⟩
      · exact ⟨g3, h, .ref C, .ref C, b, by rw [ev], fun u hu => hu, hk, k1 F1 H1 _ [] (Ex.refl e1.fi) (rpo_of (rp_bl.mpr rfl))⟩
      · exact absurd rfl ne
    · exact k1.elim
end
end NW
end

section
set_option Elab.async false
set_option linter.all false
set_option maxRecDepth 100000
/-! NWu: what is ours, lent to an expression that answers flatly. -/
namespace NW
open PySem PySem.Spec L2
open PyProof.Rows hiding St
def frz : Ow → Ow
  | .na => .na
  | _ => .fz
section
variable {X : Cx} {G : Gb} {W : WX} {O : List Ow} {F F' : Fr} {H H' : Hp} {σ : St} {ρ : NW.Env}
theorem SS.lend {K : PySem.W.Frag} (s : SS K G O F σ H ρ) : SS K G (O.map frz) (allF F H) σ H ρ := by
  obtain ⟨fi, As, q⟩ := s
  refine ⟨fun a z => z.elim (fi a) fun ⟨u, q, _⟩ => ⟨u, q⟩, fun _ => [], by rw [List.length_map]; exact q.lr, by rw [List.length_map]; exact q.ls, fun i o ho => ?_, fun i j a h => (nomatch h), fun i => List.nodup_nil, fun i a h => nomatch h⟩
  rw [List.getElem?_map] at ho
  cases e : O[i]? with
  | none => rw [e] at ho; cases ho
  | some o' =>
    rw [e] at ho
    cases ho
    rcases q.sl i o' e with ⟨z, _⟩ | ⟨z, _⟩ | ⟨d, v, z1, z2, z3⟩
    · subst z; exact .inl ⟨rfl, rfl⟩
    · exact .inr (.inl ⟨z, rfl⟩)
    · cases o' with
      | na => exact .inl ⟨rfl, rfl⟩
      | fz => exact .inr (.inr ⟨d, v, z1, z2, rpo_of (z3.freeze (fun a z => .inl z) .fz fun a ha => .inr (z3.notx _ a ha))⟩)
      | own o => exact .inr (.inr ⟨d, v, z1, z2, rpo_of (z3.freeze (fun a z => .inl z) (.own o) fun a ha => .inr (z3.notx _ a ha))⟩)
def scalT : R Bool → R Bool
  | .ok b => .ok b
  | .ex c fs => if fs.all flat then .ex c fs else .st
  | .st => .st
theorem gb_lend {e : Expr} {f : NW.Env → R D} (h : GB X G W (O.map frz) .fz e f) : GB X G W O .fz e (fun ρ => scalR (f ρ)) := by
  obtain ⟨t, p, i⟩ := h
  refine ⟨t, p, fun F σ H ρ Q s k => i _ σ H ρ Q s.lend ?_⟩
  have k : KB X.K G W .fz F σ H Q (scalR (f ρ)) := k
  revert k
  cases f ρ with
  | ok d =>
    intro k F' H' v A e r
    have k : KB X.K G W .fz F σ H Q (if flat d then .ok d else .st) := k
    split at k
    · rename_i fl
      rw [r.flat_ fl]
      exact k F H' _ [] (ex_lent s.1 e) (rpo_of (rp_flat fl))
    · exact k.elim
  | ex c fs =>
    intro k F' H' dd e x
    have k : KB X.K G W .fz F σ H Q (if fs.all flat then .ex c fs else .st) := k
    split at k
    · rename_i fl
      exact k _ H' dd (ex_lentX s.1 e x) (flat_all fl (fun a z => .inr z) x)
    · exact k.elim
  | st => exact fun k => k
theorem gt_lend {e : Expr} {f : NW.Env → R Bool} (h : GT X G W (O.map frz) e f) : GT X G W O e (fun ρ => scalT (f ρ)) := by
  obtain ⟨t, p, i⟩ := h
  refine ⟨t, p, fun F σ H ρ Q s k => i _ σ H ρ Q s.lend ?_⟩
  have k : KT X.K G W F σ H Q (scalT (f ρ)) := k
  revert k
  cases f ρ with
  | ok d =>
    intro k F' H' e
    exact k F H' (ex_lent s.1 e)
  | ex c fs =>
    intro k F' H' dd e x
    have k : KT X.K G W F σ H Q (if fs.all flat then .ex c fs else .st) := k
    split at k
    · rename_i fl
      exact k _ H' dd (ex_lentX s.1 e x) (flat_all fl (fun a z => .inr z) x)
    · exact k.elim
  | st => exact fun k => k
end
section
variable {P : Program} {w : World} {K : PySem.W.Frag} {mg : Str → Option Value} {base : Heap} {x qual : Str} {params : Arguments} {body : List Stmt} {scope : Scope} {dvs : List V} {kws : List (Str × V)} {f : Addr} {fd : FuncData} {N ps : List Str} {G : Gb}
theorem okP0 {n k : Nat} {ro : Ow} (F : FunD K x qual params body scope dvs kws f fd) (S : FnScope N ps scope) (hn : ps.length = n) : FnOk P w K mg base (L2.CX P w) (k + 1) f fd ps (spP K G n ro (fun _ => .st)) :=
  F.ok S (fun vs H Q E ⟨F, ds, _, h1, h2, _⟩ => by rw [h2.len, h1, hn]) (fun cdv A outer s H vs Q E hr ⟨F, ds, fi, h1, h2, kn⟩ => kn.elim)
end
end NW
end

section
set_option Elab.async false
set_option linter.all false
set_option maxRecDepth 100000
/-! NWv: the head's facts read by a Hook: defs by their addresses, properties, own exceptions, class constants. -/
namespace NH
open PySem PySem.Spec PyProof.Rows L2 He
/-- what the class x holds under m; the function behind a property -/
def pa (K : PySem.W.Frag) (C : Addr) (m : Str) : Addr := match PySem.W.findIn K (.ref C) m with
  | some (some (.ref p)) => p
  | _ => 0
def pg (K : PySem.W.Frag) (C : Addr) (m : Str) : Addr := match PySem.W.recIn K (pa K C m) "property" with
  | some (.ref g :: _) => g
  | _ => 0
inductive Fk where
  | a (f : He.Fa)
  | prop (x m : Str)
  | oex (x : Str)
  | xf (x : Str)
  | xi (x : Str)
  | kitT (x : Str) (T : String) (b : Bool)
  | kitC (x y : Str) (b : Bool)
  | cval (x f : Str) (i : Int)
def oexB (K : PySem.W.Frag) (C : Addr) : Bool := match K.lookup C with
  | some ⟨.type "type", _, .cls cd, sl⟩ => (match cd.mro, sl.toList with
    | .ref C' :: bm, [_, _, _, _, some (.builtin n), _] => C' == C && (n == "ValueError.__new__" && (!cd.hasDel && (cd.hasDict && PySem.HandSPX.refsVE bm)))
    | _, _ => false)
  | _ => false
def Fk.ok (K : PySem.W.Frag) : Fk → Bool
  | .a f => f.ok K
  | .prop x m => eqO (PySem.W.findIn K (.ref (ga K x)) m) (some (some (.ref (pa K (ga K x) m)))) && (eqO (PySem.W.specialIn K (.ref (pa K (ga K x) m)) "__get__") (some (some (.builtin "property.__get__"))) && (decide (PySem.W.takesIn K (.ref (pa K (ga K x) m)) = some true) &&
      (match PySem.W.recIn K (pa K (ga K x) m) "property" with
        | some (.ref _ :: _) => true
        | _ => false)))
  | .oex x => oexB K (ga K x) && (eqO (PySem.W.findIn K (.ref (ga K x)) "__setattr__") (some (some (.builtin "object.__setattr__"))) && (decide (PySem.W.subIn K (.ref (ga K x)) (.type "BaseException") = some true) && (decide (PySem.W.typeIn K (.ref (ga K x)) = some (.type "type")) && (PySem.W.keepIn K (.ref (ga K x)) &&
      (eqO (PySem.W.findIn K (.ref (ga K x)) "__init__") (some (some (.ref (ma K (ga K x) "__init__")))) && decide (PySem.W.typeIn K (.ref (ma K (ga K x) "__init__")) = some (.type "function")))))))
  | .xf x => xfB K (ga K x)
  | .xi x => eqO (PySem.W.findIn K (.ref (ga K x)) "__getattribute__") (some (some (.builtin "BaseException.__getattribute__"))) && (eqO (PySem.W.findIn K (.ref (ga K x)) "__getattr__") (some none) && (decide (PySem.W.subIn K (.ref (ga K x)) (.type "BaseException") = some true) && (PySem.W.hasDictIn K (ga K x) &&
      (eqO (PySem.W.findIn K (.ref (ga K x)) "__class__") (some (some (.builtin "object.__class__"))) && (eqO (PySem.W.specialIn K (.builtin "object.__class__") "__get__") (some (some (.builtin "getset_descriptor.__get__"))) && (decide (PySem.W.takesIn K (.builtin "object.__class__") = some true) && decide (PySem.W.mroIn K (ga K x) (.type "object") = some true)))))))
  | .kitT x T b => decide (PySem.W.kitOne K (.ref (ga K x)) (.type T) = some b)
  | .kitC x y b => decide (PySem.W.kitOne K (.ref (ga K x)) (.ref (ga K y)) = some b)
  | .cval x f i => PySem.W.readsIn K (ga K x) (.type "type") && (eqO (PySem.W.specialIn K (.ref (ga K x)) "__getattribute__") (some (some (.builtin "type.__getattribute__"))) && (match PySem.W.findCls K (.ref (ga K x)) (.type "type") f with
      | some (.val (.int j _)) => decide (j = i)
      | _ => false))
section
variable {K : PySem.W.Frag} {mg : Str → Option Value}
theorem prop_ok {x m : Str} (c : (Fk.prop x m).ok K = true) : PropOf K (ga K x) m (pa K (ga K x) m) (pg K (ga K x) m) := by
  obtain ⟨c1, c⟩ := ba c
  obtain ⟨c2, c⟩ := ba c
  obtain ⟨c3, c4⟩ := ba c
  refine ⟨eqO_ok c1, eqO_ok c2, of_decide_eq_true c3, ?_⟩
  unfold pg
  revert c4
  cases PySem.W.recIn K (pa K (ga K x) m) "property" with
  | none => intro c4; cases c4
  | some l =>
    cases l with
    | nil => intro c4; cases c4
    | cons v r =>
      cases v with
      | ref g => exact fun _ => ⟨r, rfl⟩
      | _ => intro c4; cases c4
theorem oex_at {C : Addr} (q : oexB K C = true) : ∃ nm q N bs bm sn sub ab col dd k0 k1 k2 k3 k5, K.lookup C = some (excClassObj nm q C N bs bm true sn sub ab col dd k0 k1 k2 k3 k5 "ValueError.__new__") ∧ PySem.HandSPX.refsVE bm = true := by
  unfold oexB at q
  split at q
  · rename_i dd cd sl ho
    split at q
    · rename_i C' bm k0 k1 k2 k3 n k5 hm hs
      simp only [Bool.and_eq_true, beq_iff_eq, Bool.not_eq_true'] at q
      obtain ⟨rfl, rfl, hdel, hdc, hbm⟩ := q
      obtain ⟨nm, bs, mro, ns, qn, hd, sn, sub, ab, col, del⟩ := cd
      dsimp only at hm hdel hdc
      subst hm hdel hdc
      have hsl : sl = #[k0, k1, k2, k3, some (.builtin "ValueError.__new__"), k5] := by
        obtain ⟨l⟩ := sl
        simp only at hs
        rw [hs]
      subst hsl
      exact ⟨nm, qn, ns, bs, bm, sn, sub, ab, col, dd, k0, k1, k2, k3, k5, ho, hbm⟩
    · cases q
  · cases q
theorem oex_ok {x : Str} (c : (Fk.oex x).ok K = true) : OexC K (ga K x) ∧ PySem.W.findIn K (.ref (ga K x)) "__init__" = some (some (.ref (ma K (ga K x) "__init__"))) ∧ PySem.W.typeIn K (.ref (ma K (ga K x) "__init__")) = some (.type "function") := by
  obtain ⟨c1, c⟩ := ba c
  obtain ⟨c2, c⟩ := ba c
  obtain ⟨c3, c⟩ := ba c
  obtain ⟨c4, c⟩ := ba c
  obtain ⟨c5, c⟩ := ba c
  obtain ⟨c6, c7⟩ := ba c
  exact ⟨⟨oex_at c1, eqO_ok c2, of_decide_eq_true c3, of_decide_eq_true c4, c5⟩, eqO_ok c6, of_decide_eq_true c7⟩
theorem xf_ok {x : Str} (c : (Fk.xf x).ok K = true) : XfC K (ga K x) := xfB_ok c
theorem xi_ok {x : Str} (c : (Fk.xi x).ok K = true) : ExcC K (ga K x) := by
  obtain ⟨c1, c⟩ := ba c
  obtain ⟨c2, c⟩ := ba c
  obtain ⟨c3, c⟩ := ba c
  obtain ⟨c4, c⟩ := ba c
  obtain ⟨c5, c⟩ := ba c
  obtain ⟨c6, c⟩ := ba c
  obtain ⟨c7, c8⟩ := ba c
  exact ⟨eqO_ok c1, eqO_ok c2, of_decide_eq_true c3, c4, eqO_ok c5, eqO_ok c6, of_decide_eq_true c7, of_decide_eq_true c8⟩
theorem kitT_ok {x : Str} {T : String} {b : Bool} (c : (Fk.kitT x T b).ok K = true) : PySem.W.kitOne K (.ref (ga K x)) (.type T) = some b := of_decide_eq_true c
theorem kitC_ok {x y : Str} {b : Bool} (c : (Fk.kitC x y b).ok K = true) : PySem.W.kitOne K (.ref (ga K x)) (.ref (ga K y)) = some b := of_decide_eq_true c
theorem cval_ok {x f : Str} {i : Int} (c : (Fk.cval x f i).ok K = true) : ∃ mc u, ClX.CRead K (ga K x) mc ∧ ClX.CVal K (ga K x) mc f (.int i) u := by
  obtain ⟨c1, c⟩ := ba c
  obtain ⟨c2, c3⟩ := ba c
  cases e : PySem.W.findCls K (.ref (ga K x)) (.type "type") f with
  | none => rw [e] at c3; cases c3
  | some r =>
    rw [e] at c3
    cases r with
    | val u =>
      cases u with
      | int j t =>
        have ej : j = i := of_decide_eq_true c3
        exact ⟨.type "type", .int j t, ⟨c1, eqO_ok c2⟩, ⟨e, t, by rw [ej]⟩⟩
      | _ => cases c3
    | _ => cases c3
theorem calT_ok {G : NW.Gb} {c : Nat} {x : Str} (hg : G.cls c = ga K x) (gl : mg x = some (.ref (ga K x))) (h : (Fk.a (.exc x)).ok K = true) : NW.CalT K mg G c x := by
  obtain ⟨c1, c2, c3, c4⟩ := exc_ok h
  exact ⟨by rw [hg]; exact c1, by rw [hg]; exact gl, by rw [hg]; exact c2, by rw [hg]; exact c3, by rw [hg]; exact c4⟩
end
/-! ### defs -/
def fnK (K : PySem.W.Frag) (a : Addr) : FnW := match K.lookup a with
  | some ⟨_, _, .func fd, _⟩ => some (fd.name, fd.qualname, fd.params, fd.body, fd.scope, fd.globals, fd.closure, fd.builtins)
  | _ => none
structure DefK where
  at_ : PySem.W.Frag → Addr
  name : Str
  qual : Str
  params : Arguments
  body : List Stmt
  scope : Scope
def DefK.val (d : DefK) : FnW := some (d.name, d.qual, d.params, .stmts d.body, d.scope, mainGlobals, [], builtinsNs)
def DefK.ok (K : PySem.W.Frag) (d : DefK) : Bool := PySem.W.keepIn K (.ref (d.at_ K)) && (match K.lookup (d.at_ K) with
  | some ⟨_, _, .func fd, _⟩ => PySem.W.codeIn K fd.code d.qual && dflB K fd.defaults []
  | _ => false)
theorem DefK.funD {K : PySem.W.Frag} {d : DefK} (e : fnK K (d.at_ K) = d.val) (c : d.ok K = true) : ∃ fd, FunD K d.name d.qual d.params d.body d.scope [] [] (d.at_ K) fd := by
  obtain ⟨kp, c2⟩ := ba c
  unfold fnK at e
  cases q : K.lookup (d.at_ K) with
  | none =>
    rw [q] at c2
    cases c2
  | some o =>
    obtain ⟨oc, od, dt, osl⟩ := o
    rw [q] at c2 e
    cases dt with
    | func fd =>
      obtain ⟨n1, n2, n3, n4, n5, n6, n7, n8, n9, n10, n11, n12, n13, n14, n15⟩ := fd
      have e2 : (some (n1, n2, n3, n4, n5, n6, n7, n15) : FnW) = some (d.name, d.qual, d.params, .stmts d.body, d.scope, mainGlobals, [], builtinsNs) := e
      simp only [Option.some.injEq, Prod.mk.injEq] at e2
      obtain ⟨h1, h2, h3, h4, h5, h6, h7, h8⟩ := e2
      subst h1 h2 h3 h4 h5 h6 h7 h8
      have c3 : (PySem.W.codeIn K n13 d.qual && dflB K n8 []) = true := c2
      obtain ⟨k1, k3⟩ := ba c3
      exact ⟨_, ⟨oc, od, n8, n9, n10, n11, n12, n13, n14, osl, rfl, q, k1, dflB_ok k3, .inl rfl⟩, kp⟩
    | _ => cases c2
/-! ### the Hook -/
abbrev AlK : Type := Bool × List FnW
def obsK0 (fa : List Fk) (fn : List DefK) (K : PySem.W.Frag) : AlK := ((fa.all fun f => f.ok K) && fn.all fun d => d.ok K, fn.map fun d => fnK K (d.at_ K))
def valK (fn : List DefK) : AlK := (true, fn.map DefK.val)
def SaysK (fa : List Fk) (fn : List DefK) (K : PySem.W.Frag) : Prop := obsK0 fa fn K = valK fn
def obsKG (n : Nat) (fa : List Fk) (fn : List DefK) (g : Addr → Option Obj) : AlK := obsK0 fa fn (frG g (List.range n))
def hookK (n : Nat) (fa : List Fk) (fn : List DefK) : PySem.W.Hook where
  α := AlK
  obs := fun s => obsKG n fa fn s.heap.get?
  val := fun _ => valK fn
  says := fun _ h => ∃ K : PySem.W.Frag, K.In h ∧ SaysK fa fn K
  of := fun _ _ e => ⟨_, frG_in, e⟩
  keeps := fun _ _ _ ⟨K, hK, c⟩ k => ⟨K, PySem.W.Frag.In.keeps hK k, c⟩
theorem obsKG_eq {n : Nat} {fa : List Fk} {fn : List DefK} {g : Addr → Option Obj} {s : Shared} (h : ∀ a, g a = s.heap.get? a) : obsKG n fa fn g = (hookK n fa fn).obs s := by
  have e : g = s.heap.get? := funext h
  rw [e] <;> rfl
section
variable {fa : List Fk} {fn : List DefK} {K : PySem.W.Frag}
theorem SaysK.fact (c : SaysK fa fn K) (i : Nat) {f : Fk} (h : fa[i]? = some f := by rfl) : f.ok K = true := by
  have c1 := (ba (show ((fa.all fun f => f.ok K) && fn.all fun d => d.ok K) = true from congrArg (fun z : AlK => z.1) c)).1
  exact List.all_eq_true.mp c1 f (List.mem_of_getElem? h)
theorem SaysK.def_ (c : SaysK fa fn K) (i : Nat) {d : DefK} (h : fn[i]? = some d := by rfl) : ∃ fd, FunD K d.name d.qual d.params d.body d.scope [] [] (d.at_ K) fd := by
  have c2 := (ba (show ((fa.all fun f => f.ok K) && fn.all fun d => d.ok K) = true from congrArg (fun z : AlK => z.1) c)).2
  have e : fn.map (fun d => fnK K (d.at_ K)) = fn.map DefK.val := congrArg (fun z : AlK => z.2) c
  have e2 : (fn.map fun d => fnK K (d.at_ K))[i]? = (fn.map DefK.val)[i]? := by rw [e]
  rw [List.getElem?_map, List.getElem?_map, h] at e2
  exact DefK.funD (Option.some.inj e2) (List.all_eq_true.mp c2 d (List.mem_of_getElem? h))
end
end NH
end

section
set_option Elab.async false
set_option linter.all false
set_option maxRecDepth 100000
set_option maxHeartbeats 0
/-! printed by gen.py: the mirrors of k79 -/
namespace K79
open PySem PySem.Spec L2 NW
open PyProof.Rows hiding St

def ts_3 : Nat → Option Bool := fun c => match c with
  | 3 => some true
  | 9 => some false
  | _ => none
def ts_9 : Nat → Option Bool := fun c => match c with
  | 9 => some true
  | 3 => some false
  | _ => none
def ts_0 : Nat → Option Bool := fun c => match c with
  | 3 => some true
  | 9 => some true
  | _ => none
noncomputable def b_System_kinds : NW.Env → Out := (retS (callA lenD (consA (un1 (fldD 10 1) (varD 0)) nilA)))
noncomputable def m_System_kinds : List D → R D := fnD 1 1 b_System_kinds
noncomputable def b_System_size : NW.Env → Out := (retS (callA lenD (consA (un1 (fldD 10 0) (varD 0)) nilA)))
noncomputable def m_System_size : List D → R D := fnD 1 1 b_System_size
noncomputable def b_System_serving : NW.Env → Out := (seqS (setS 2 (bin ixD (un1 (fldD 10 1) (varD 0)) (varD 1))) (retS (compX [3] (rng (consA (callA lenD (consA (varD 2) nilA)) nilA)) (nameG 3) (tst (bin isnotD (bin ixD (varD 2) (varD 3)) (cD .non))) (varD 3))))
noncomputable def m_System_serving : List D → R D := fnD 2 4 b_System_serving
noncomputable def b_Machine_kinds : NW.Env → Out := (retS (callA lenD (consA (bin ixD (un1 (fldD 11 0) (varD 0)) (cD (.int 0))) nilA)))
noncomputable def m_Machine_kinds : List D → R D := fnD 1 1 b_Machine_kinds
noncomputable def b_Machine_after : NW.Env → Out := (seqS (ifS (notB (tst (chnD leD ltD (cD (.int 0)) (varD 2) (callA lenD (consA (bin ixD (un1 (fldD 11 0) (varD 0)) (cD (.int 0))) nilA))))) (retS (cD .non)) nxS) (retS (bin ixD (bin ixD (un1 (fldD 11 0) (varD 0)) (varD 1)) (varD 2))))
noncomputable def m_Machine_after : List D → R D := fnD 3 3 b_Machine_after
noncomputable def b_Machine_lets : NW.Env → Out := (seqS (setS 2 (bin ixD (un1 (fldD 11 0) (varD 0)) (varD 1))) (retS (compX [3] (rng (consA (callA lenD (consA (varD 2) nilA)) nilA)) (nameG 3) (tst (bin isnotD (bin ixD (varD 2) (varD 3)) (cD .non))) (varD 3))))
noncomputable def m_Machine_lets : List D → R D := fnD 2 4 b_Machine_lets
noncomputable def b_Rule_kinds : NW.Env → Out := (retS (callA lenD (consA (bin ixD (un1 (fldD 12 1) (varD 0)) (cD (.int 0))) nilA)))
noncomputable def m_Rule_kinds : List D → R D := fnD 1 1 b_Rule_kinds
noncomputable def b_Rule_after : NW.Env → Out := (seqS (ifS (notB (tst (chnD leD ltD (cD (.int 0)) (varD 2) (callA lenD (consA (bin ixD (un1 (fldD 12 1) (varD 0)) (cD (.int 0))) nilA))))) (retS (cD .non)) nxS) (retS (bin ixD (bin ixD (un1 (fldD 12 1) (varD 0)) (varD 1)) (varD 2))))
noncomputable def m_Rule_after : List D → R D := fnD 3 3 b_Rule_after
noncomputable def b_first_table : NW.Env → Out := (retS (callA listD (consA (bin ixD (un1 (fldD 10 0) (varD 0)) (varD 1)) nilA)))
noncomputable def m_first_table : List D → R D := fnD 2 2 b_first_table
noncomputable def b_next_table : NW.Env → Out := (seqS (setS 3 (bin ixD (un1 (fldD 10 1) (varD 0)) (varD 2))) (seqS (setS 4 (compX [5] (itI (methD 10 m_System_serving (varD 0) (consA (varD 2) nilA))) (nameG 5) yesB (tupD (consA (bin addD (bin ixD (varD 1) (varD 5)) (bin ixD (varD 3) (varD 5))) (consA (bin ixD (un1 (fldD 10 0) (varD 0)) (varD 5)) nilA))))) (retS (compX [8] (rng (consA (propD 10 m_System_size (varD 0)) nilA)) (nameG 8) yesB (callA (exD minI) (consA (compF [6, 7] (itI (varD 4)) (tupG (consG (nameG 6) (consG (nameG 7) nilG))) yesB (bin addD (varD 6) (bin ixD (varD 7) (varD 8)))) nilA))))))
noncomputable def m_next_table : List D → R D := fnD 3 9 b_next_table
noncomputable def b_check_kinds : NW.Env → Out := (seqS (ifS (tst (bin neD (propD 12 m_Rule_kinds (varD 1)) (propD 10 m_System_kinds (un1 (fldD 13 0) (un1 (fldD 14 0) (varD 0)))))) (fun ρ => .ex 3 [] ρ) nxS) nxS)
noncomputable def m_check_kinds : List D → R D := fnD 2 2 b_check_kinds
noncomputable def b_is_cost : NW.Env → Out := (retS (andD (bin isnotD (varD 0) (cD .non)) (chnD leD leD (cD (.int 0)) (varD 0) (cD (.int 99)))))
noncomputable def m_is_cost : List D → R D := fnD 1 1 b_is_cost
noncomputable def l_check_moves_8 : NW.Env → Out := (seqS (ifS (notB (tst (callA m_is_cost (consA (varD 4) nilA)))) stS nxS) nxS)
noncomputable def l_check_moves_4 : NW.Env → Out := (seqS (setS 3 (bin ixD (varD 0) (varD 2))) (seqS (ifS (orB (tst (bin neD (callA lenD (consA (varD 3) nilA)) (varD 1))) (tst (bin neD (bin ixD (varD 3) (varD 2)) (cD (.int 0))))) stS nxS) (seqS (forS (itI (varD 3)) (nameG 4) l_check_moves_8) nxS)))
noncomputable def b_check_moves : NW.Env → Out := (seqS (setS 1 (callA lenD (consA (varD 0) nilA))) (seqS (ifS (orB (tst (bin ltD (varD 1) (cD (.int 1)))) (tst (bin gtD (varD 1) (cD (.int 6))))) stS nxS) (seqS (forS (rng (consA (varD 1) nilA)) (nameG 2) l_check_moves_4) nxS)))
noncomputable def m_check_moves : List D → R D := fnD 1 5 b_check_moves
noncomputable def l_check_asks_8 : NW.Env → Out := (seqS (ifS (tst (bin isnotD (varD 5) (cD .non))) (seqS (augI (fun i j => i + j) 4 (cD (.int 1))) (seqS (ifS (notB (tst (callA m_is_cost (consA (varD 5) nilA)))) stS nxS) nxS)) nxS) nxS)
noncomputable def l_check_asks_3 : NW.Env → Out := (seqS (setS 3 (bin ixD (varD 0) (varD 2))) (seqS (ifS (tst (bin neD (callA lenD (consA (varD 3) nilA)) (varD 1))) stS nxS) (seqS (setS 4 (cD (.int 0))) (seqS (forS (itI (varD 3)) (nameG 5) l_check_asks_8) (seqS (ifS (tst (bin eqD (varD 4) (cD (.int 0)))) stS nxS) nxS)))))
noncomputable def b_check_asks : NW.Env → Out := (seqS (ifS (orB (tst (bin ltD (callA lenD (consA (varD 0) nilA)) (cD (.int 1)))) (tst (bin gtD (callA lenD (consA (varD 0) nilA)) (cD (.int 8))))) stS nxS) (seqS (forS (rng (consA (callA lenD (consA (varD 0) nilA)) nilA)) (nameG 2) l_check_asks_3) nxS))
noncomputable def m_check_asks : List D → R D := fnD 2 6 b_check_asks
noncomputable def l_closed_5 : NW.Env → Out := (seqS (setS 7 (bin addD (bin ixD (bin ixO (varD 2) (varD 5)) (varD 4)) (bin ixD (bin ixO (varD 2) (varD 4)) (varD 6)))) (seqS (ifS (tst (bin ltD (varD 7) (bin ixD (bin ixO (varD 2) (varD 5)) (varD 6)))) (seqS (asgS (varD 7) (sub2G 2 (varD 5) (varD 6))) nxS) nxS) nxS))
noncomputable def l_closed_4 : NW.Env → Out := (seqS (forS (rng (consA (varD 1) nilA)) (nameG 6) l_closed_5) nxS)
noncomputable def l_closed_3 : NW.Env → Out := (seqS (forS (rng (consA (varD 1) nilA)) (nameG 5) l_closed_4) nxS)
noncomputable def b_closed : NW.Env → Out := (seqS (setS 1 (callA lenD (consA (varD 0) nilA))) (seqS (setS 2 (compX [3] (itI (varD 0)) (nameG 3) yesB (callA listD (consA (varD 3) nilA)))) (seqS (forS (rng (consA (varD 1) nilA)) (nameG 4) l_closed_3) (retS (callA tupleD (consA (compX [3] (itI (varD 2)) (nameG 3) yesB (callA tupleD (consA (varD 3) nilA))) nilA))))))
noncomputable def m_closed : List D → R D := fnD 1 8 b_closed
noncomputable def b_System_init : NW.Env → Out := (seqS (exprS (callA m_check_moves (consA (varD 1) nilA))) (seqS (exprS (callA m_check_asks (consA (varD 2) (consA (callA lenD (consA (varD 1) nilA)) nilA)))) (seqS (asgS (callA m_closed (consA (varD 1) nilA)) (attrG 0 10 0)) (seqS (asgS (callA tupleD (consA (compX [3] (itI (varD 2)) (nameG 3) yesB (callA tupleD (consA (varD 3) nilA))) nilA)) (attrG 0 10 1)) nxS))))
noncomputable def m_System_init : D → List D → RM := fnM 2 4 b_System_init
noncomputable def l_check_arrows_9 : NW.Env → Out := (seqS (ifS (andB (tst (bin isnotD (varD 3) (cD .non))) (notB (tst (chnD leD ltD (cD (.int 0)) (varD 3) (callA lenD (consA (varD 0) nilA)))))) stS nxS) nxS)
noncomputable def l_check_arrows_6 : NW.Env → Out := (seqS (ifS (tst (bin neD (callA lenD (consA (bin ixD (varD 0) (varD 2)) nilA)) (varD 1))) stS nxS) (seqS (forS (itI (bin ixD (varD 0) (varD 2))) (nameG 3) l_check_arrows_9) nxS))
noncomputable def b_check_arrows : NW.Env → Out := (seqS (ifS (orB (tst (bin ltD (callA lenD (consA (varD 0) nilA)) (cD (.int 1)))) (tst (bin gtD (callA lenD (consA (varD 0) nilA)) (cD (.int 40))))) stS nxS) (seqS (setS 1 (callA lenD (consA (bin ixD (varD 0) (cD (.int 0))) nilA))) (seqS (ifS (orB (tst (bin ltD (varD 1) (cD (.int 1)))) (tst (bin gtD (varD 1) (cD (.int 8))))) stS nxS) (seqS (forS (rng (consA (callA lenD (consA (varD 0) nilA)) nilA)) (nameG 2) l_check_arrows_6) nxS))))
noncomputable def m_check_arrows : List D → R D := fnD 1 4 b_check_arrows
noncomputable def b_Machine_init : NW.Env → Out := (seqS (exprS (callA m_check_arrows (consA (varD 1) nilA))) (seqS (asgS (callA tupleD (consA (compX [2] (itI (varD 1)) (nameG 2) yesB (callA tupleD (consA (varD 2) nilA))) nilA)) (attrG 0 11 0)) nxS))
noncomputable def m_Machine_init : D → List D → RM := fnM 1 3 b_Machine_init
noncomputable def l_good_memory_3 : NW.Env → Out := (seqS (ifS (andB (tst (bin isnotD (varD 4) (cD .non))) (notB (tst (chnD leD ltD (cD (.int 0)) (varD 4) (varD 3))))) (retS (cD (.bl false))) nxS) nxS)
noncomputable def b_good_memory : NW.Env → Out := (seqS (ifS (orB (notB (tst (chnD leD ltD (cD (.int 0)) (varD 0) (cD (.int 6))))) (tst (bin neD (callA lenD (consA (varD 1) nilA)) (varD 2)))) (retS (cD (.bl false))) nxS) (seqS (forS (itI (varD 1)) (nameG 4) l_good_memory_3) (retS (cD (.bl true)))))
noncomputable def m_good_memory : List D → R D := fnD 4 5 b_good_memory
noncomputable def l_check_rule_7 : NW.Env → Out := (seqS (ifS (notB (tst (callA m_good_memory (consA (bin ixD (varD 0) (varD 4)) (consA (bin ixD (varD 1) (varD 4)) (consA (varD 3) (consA (varD 2) nilA))))))) stS nxS) nxS)
noncomputable def b_check_rule : NW.Env → Out := (seqS (setS 2 (callA lenD (consA (varD 0) nilA))) (seqS (ifS (orB (tst (bin ltD (varD 2) (cD (.int 1)))) (orB (tst (bin gtD (varD 2) (cD (.int 400)))) (tst (bin neD (callA lenD (consA (varD 1) nilA)) (varD 2))))) stS nxS) (seqS (setS 3 (callA lenD (consA (bin ixD (varD 1) (cD (.int 0))) nilA))) (seqS (ifS (orB (tst (bin ltD (varD 3) (cD (.int 1)))) (tst (bin gtD (varD 3) (cD (.int 8))))) stS nxS) (seqS (forS (rng (consA (varD 2) nilA)) (nameG 4) l_check_rule_7) nxS)))))
noncomputable def m_check_rule : List D → R D := fnD 2 5 b_check_rule
noncomputable def b_Rule_init : NW.Env → Out := (seqS (exprS (callA m_check_rule (consA (varD 1) (consA (varD 2) nilA)))) (seqS (asgS (callA tupleD (consA (varD 1) nilA)) (attrG 0 12 0)) (seqS (asgS (callA tupleD (consA (compX [3] (itI (varD 2)) (nameG 3) yesB (callA tupleD (consA (varD 3) nilA))) nilA)) (attrG 0 12 1)) nxS)))
noncomputable def m_Rule_init : D → List D → RM := fnM 2 4 b_Rule_init
noncomputable def b_World_init : NW.Env → Out := (seqS (ifS (tst (bin neD (propD 10 m_System_kinds (varD 1)) (propD 11 m_Machine_kinds (varD 2)))) (fun ρ => .ex 3 [] ρ) nxS) (seqS (ifS (notB (tst (chnD leD ltD (cD (.int 0)) (varD 3) (propD 10 m_System_size (varD 1))))) stS nxS) (seqS (asgS (varD 1) (attrG 0 13 0)) (seqS (asgS (varD 2) (attrG 0 13 1)) (seqS (asgS (varD 3) (attrG 0 13 2)) nxS)))))
noncomputable def m_World_init : D → List D → RM := fnM 3 4 b_World_init
noncomputable def b_Seen_init : NW.Env → Out := (seqS (asgS (varD 1) (attrG 0 14 0)) (seqS (asgS (tupD nilA) (attrG 0 14 1)) (seqS (asgS (tupD nilA) (attrG 0 14 2)) (seqS (asgS (tupD nilA) (attrG 0 14 3)) (seqS (asgS (cD (.int 0)) (attrG 0 14 4)) (seqS (asgS (cD (.int 0)) (attrG 0 14 5)) (seqS (asgS (tupD (consA (tupD (consA (cD (.int 0)) (consA (cD (.int 0)) nilA))) nilA)) (attrG 0 14 6)) (seqS (asgS (cD (.int 0)) (attrG 0 14 7)) (seqS (asgS (callA tupleD (consA (callA m_first_table (consA (un1 (fldD 13 0) (varD 1)) (consA (un1 (fldD 13 2) (varD 1)) nilA))) nilA)) (attrG 0 14 8)) nxS)))))))))
noncomputable def m_Seen_init : D → List D → RM := fnM 1 2 b_Seen_init
noncomputable def b_Seen_note : NW.Env → Out := (seqS (setS 3 (un1 (fldD 13 0) (un1 (fldD 14 0) (varD 0)))) (seqS (setS 4 (methD 11 m_Machine_after (un1 (fldD 13 1) (un1 (fldD 14 0) (varD 0))) (consA (un1 (fldD 14 7) (varD 0)) (consA (varD 1) nilA)))) (seqS (ifS (tst (bin isD (varD 4) (cD .non))) stS nxS) (seqS (ifS (tst (bin (inD true) (varD 2) (methD 10 m_System_serving (varD 3) (consA (varD 1) nilA)))) stS nxS) (seqS (setS 5 (ifD (tst (bin eqD (un1 (fldD 14 5) (varD 0)) (cD (.int 0)))) (un1 (fldD 13 2) (un1 (fldD 14 0) (varD 0))) (bin ixD (un1 (fldD 14 2) (varD 0)) (un1 negD (cD (.int 1)))))) (seqS (asgS (varD 4) (attrG 0 14 7)) (seqS (asgS (callA tupleD (consA (callA m_next_table (consA (varD 3) (consA (un1 (fldD 14 8) (varD 0)) (consA (varD 1) nilA)))) nilA)) (attrG 0 14 8)) (seqS (asgS (bin addD (un1 (fldD 14 1) (varD 0)) (tupD (consA (varD 1) nilA))) (attrG 0 14 1)) (seqS (asgS (bin addD (un1 (fldD 14 2) (varD 0)) (tupD (consA (varD 2) nilA))) (attrG 0 14 2)) (seqS (asgS (bin addD (un1 (fldD 14 3) (varD 0)) (tupD (consA (tupD (consA (varD 1) (consA (varD 2) nilA))) nilA))) (attrG 0 14 3)) (seqS (augF (fun i j => i + j) 0 14 4 (bin addD (bin ixD (bin ixD (un1 (fldD 10 0) (varD 3)) (varD 5)) (varD 2)) (bin ixD (bin ixD (un1 (fldD 10 1) (varD 3)) (varD 1)) (varD 2)))) (seqS (augF (fun i j => i + j) 0 14 5 (cD (.int 1))) (seqS (asgS (bin addD (un1 (fldD 14 6) (varD 0)) (tupD (consA (tupD (consA (un1 (fldD 14 4) (varD 0)) (consA (callA (exD minI) (consA (un1 (fldD 14 8) (varD 0)) nilA)) nilA))) nilA))) (attrG 0 14 6)) nxS)))))))))))))
noncomputable def m_Seen_note : D → List D → RM := fnM 2 6 b_Seen_note
noncomputable def l_Seen_fits_3 : NW.Env → Out := (seqS (setS 2 (methD 12 m_Rule_after (varD 1) (consA (varD 2) (consA (varD 3) nilA)))) (seqS (ifS (orB (tst (bin isD (varD 2) (cD .non))) (tst (bin neD (bin ixD (un1 (fldD 12 0) (varD 1)) (varD 2)) (varD 4)))) (retS (cD (.bl false))) nxS) nxS))
noncomputable def b_Seen_fits : NW.Env → Out := (seqS (exprS (callA m_check_kinds (consA (varD 0) (consA (varD 1) nilA)))) (seqS (setS 2 (cD (.int 0))) (seqS (forS (zipF (consA (un1 (fldD 14 1) (varD 0)) (consA (un1 (fldD 14 2) (varD 0)) nilA))) (tupG (consG (nameG 3) (consG (nameG 4) nilG))) l_Seen_fits_3) (retS (bin eqD (bin ixD (un1 (fldD 12 0) (varD 1)) (cD (.int 0))) (un1 (fldD 13 2) (un1 (fldD 14 0) (varD 0))))))))
noncomputable def m_Seen_fits : List D → R D := fnD 2 5 b_Seen_fits
noncomputable def b_Seen_twin : NW.Env → Out := (seqS (setS 1 (makeD 14 m_Seen_init (consA (un1 (fldD 14 0) (varD 0)) nilA))) (seqS (asgS (tupD (consA (un1 (fldD 14 1) (varD 0)) (consA (un1 (fldD 14 2) (varD 0)) (consA (un1 (fldD 14 3) (varD 0)) nilA)))) (tupG (consG (attrG 1 14 1) (consG (attrG 1 14 2) (consG (attrG 1 14 3) nilG))))) (seqS (asgS (tupD (consA (un1 (fldD 14 4) (varD 0)) (consA (un1 (fldD 14 5) (varD 0)) nilA))) (tupG (consG (attrG 1 14 4) (consG (attrG 1 14 5) nilG)))) (seqS (asgS (un1 (fldD 14 6) (varD 0)) (attrG 1 14 6)) (seqS (asgS (tupD (consA (un1 (fldD 14 7) (varD 0)) (consA (un1 (fldD 14 8) (varD 0)) nilA))) (tupG (consG (attrG 1 14 7) (consG (attrG 1 14 8) nilG)))) (retV 1))))))
noncomputable def m_Seen_twin : List D → R D := fnD 1 2 b_Seen_twin
noncomputable def b_fitting : NW.Env → Out := (retS (compX [2, 3] (enumF (consA (varD 1) nilA)) (tupG (consG (nameG 2) (consG (nameG 3) nilG))) (tst (methD 14 m_Seen_fits (varD 0) (consA (varD 3) nilA))) (varD 2)))
noncomputable def m_fitting : List D → R D := fnD 2 4 b_fitting
noncomputable def l_memory_after_2 : NW.Env → Out := (seqS (setS 4 (methD 12 m_Rule_after (varD 1) (consA (varD 2) (consA (varD 3) nilA)))) (seqS (ifS (tst (bin isD (varD 4) (cD .non))) (raiseS 9 (consA (varD 2) (consA (varD 3) nilA))) nxS) (seqS (setS 2 (varD 4)) nxS)))
noncomputable def b_memory_after : NW.Env → Out := (seqS (setS 2 (cD (.int 0))) (seqS (forS (itI (un1 (fldD 14 1) (varD 0))) (nameG 3) l_memory_after_2) (retS (varD 2))))
noncomputable def m_memory_after : List D → R D := fnD 2 5 b_memory_after
noncomputable def b_are_apart : NW.Env → Out := (seqS (ifS (orB (tst (bin isD (varD 2) (cD .non))) (tst (bin isD (varD 3) (cD .non)))) (retS (orD (bin isnotD (varD 2) (cD .non)) (bin isnotD (varD 3) (cD .non)))) nxS) (retS (bin neD (bin ixD (un1 (fldD 12 0) (varD 0)) (varD 2)) (bin ixD (un1 (fldD 12 0) (varD 1)) (varD 3)))))
noncomputable def m_are_apart : List D → R D := fnD 4 4 b_are_apart
noncomputable def l_next_apart_11 : NW.Env → Out := (seqS (setS 11 (tupD (consA (methD 11 m_Machine_after (varD 3) (consA (varD 7) (consA (varD 10) nilA))) (consA (methD 12 m_Rule_after (varD 1) (consA (varD 8) (consA (varD 10) nilA))) (consA (methD 12 m_Rule_after (varD 2) (consA (varD 9) (consA (varD 10) nilA))) nilA))))) (seqS (setS 12 (bin catD (bin dgetD (varD 5) (bin ixD (varD 4) (varD 6))) (lstD (consA (varD 10) nilA)))) (seqS (ifS (tst (callA m_are_apart (consA (varD 1) (consA (varD 2) (consA (bin ixD (varD 11) (cD (.int 1))) (consA (bin ixD (varD 11) (cD (.int 2))) nilA)))))) (retV 12) nxS) (seqS (ifS (andB (tst (bin isnotD (bin ixD (varD 11) (cD (.int 1))) (cD .non))) (tst (bin (dinD true) (varD 11) (varD 5)))) (seqS (asgS (varD 12) (dsubG 5 (varD 11))) (seqS (appS 4 (varD 11)) nxS)) nxS) nxS))))
noncomputable def l_next_apart_9 : NW.Env → Out := (seqS (asgS (bin ixD (varD 4) (varD 6)) (tupG (consG (nameG 7) (consG (nameG 8) (consG (nameG 9) nilG))))) (seqS (forS (itI (methD 11 m_Machine_lets (varD 3) (consA (varD 7) nilA))) (nameG 10) l_next_apart_11) (seqS (augI (fun i j => i + j) 6 (cD (.int 1))) nxS)))
noncomputable def b_next_apart : NW.Env → Out := (seqS (exprS (callA m_check_kinds (consA (varD 0) (consA (varD 1) nilA)))) (seqS (exprS (callA m_check_kinds (consA (varD 0) (consA (varD 2) nilA)))) (seqS (setS 3 (un1 (fldD 13 1) (un1 (fldD 14 0) (varD 0)))) (seqS (setS 4 (lstD (consA (tupD (consA (un1 (fldD 14 7) (varD 0)) (consA (callA m_memory_after (consA (varD 0) (consA (varD 1) nilA))) (consA (callA m_memory_after (consA (varD 0) (consA (varD 2) nilA))) nilA)))) nilA))) (seqS (ifS (tst (callA m_are_apart (consA (varD 1) (consA (varD 2) (consA (bin ixD (bin ixD (varD 4) (cD (.int 0))) (cD (.int 1))) (consA (bin ixD (bin ixD (varD 4) (cD (.int 0))) (cD (.int 2))) nilA)))))) (retS (lstD nilA)) nxS) (seqS (setS 5 (dict1 (bin ixD (varD 4) (cD (.int 0))) (lstD nilA))) (seqS (setS 6 (cD (.int 0))) (seqS (whileS (tst (bin ltD (varD 6) (callA lenD (consA (varD 4) nilA)))) l_next_apart_9) (retS (flatF (cD .non)))))))))))
noncomputable def m_next_apart : List D → R D := fnD 3 13 b_next_apart
noncomputable def b__law_cell : NW.Env → Out := (seqS (ifS (tst (bin ltD (varD 1) (callA lenD (consA (varD 0) nilA)))) (retS (callA intD (consA (bin ixD (varD 0) (varD 1)) nilA))) nxS) (retS (cD (.int 0))))
noncomputable def m__law_cell : List D → R D := fnD 2 2 b__law_cell
noncomputable def l__law_numbers_6 : NW.Env → Out := (seqS (ifS (tst (bin gtD (varD 2) (cD (.int 0)))) (seqS (appS 4 (bin modD (callA intD (consA (varD 2) nilA)) (cD (.int 5040)))) (seqS (setS 2 (bin fdivD (varD 2) (cD (.int 5040)))) nxS)) (seqS (setS 3 (bin modD (callA intD (consA (bin addD (bin mulD (varD 3) (cD (.int 48271))) (cD (.int 69621))) nilA)) (cD (.int 2147483647)))) (seqS (appS 4 (bin modD (callA intD (consA (bin fdivD (varD 3) (cD (.int 8))) nilA)) (cD (.int 5040)))) nxS))) nxS)
noncomputable def b__law_numbers : NW.Env → Out := (seqS (setS 2 (callA absD (consA (varD 0) nilA))) (seqS (setS 3 (bin modD (callA intD (consA (bin addD (bin mulD (varD 2) (cD (.int 48271))) (cD (.int 12345))) nilA)) (cD (.int 2147483647)))) (seqS (ifS (tst (bin ltD (varD 2) (bin powD (cD (.int 10)) (cD (.int 18))))) (seqS (setS 2 (cD (.int 0))) nxS) nxS) (seqS (setS 4 (lstD nilA)) (seqS (forS (rng (consA (varD 1) nilA)) (nameG 5) l__law_numbers_6) (retS (varD 4)))))))
noncomputable def m__law_numbers : List D → R D := fnD 2 6 b__law_numbers
noncomputable def l__law_alike_14 (rec : List D → R D) : NW.Env → Out := (seqS (ifS (notB (tst (callA rec (consA (bin ixD (varD 0) (varD 2)) (consA (bin ixD (varD 1) (varD 2)) nilA))))) (retS (cD (.bl false))) nxS) nxS)
noncomputable def b__law_alike (rec : List D → R D) : NW.Env → Out := (seqS (ifS (tst (bin isD (varD 1) (cD .non))) (retS (bin isD (varD 0) (cD .non))) nxS) (seqS (ifS (tst (un1 (isiD .bool) (varD 1))) (retS (andD (un1 (isiD .bool) (varD 0)) (bin eqD (varD 0) (varD 1)))) nxS) (seqS (ifS (tst (un1 (isiD .int) (varD 1))) (retS (andD (un1 (isiD .int) (varD 0)) (andD (un1 notD (un1 (isiD .bool) (varD 0))) (bin eqD (varD 0) (varD 1))))) nxS) (seqS (ifS (tst (un1 (isiD .str) (varD 1))) (retS (andD (un1 (isiD .str) (varD 0)) (bin eqD (varD 0) (varD 1)))) nxS) (seqS (ifS (tst (un1 (isiD .tuple) (varD 1))) (seqS (ifS (orB (notB (tst (un1 (isiD .tuple) (varD 0)))) (tst (bin neD (callA lenD (consA (varD 0) nilA)) (callA lenD (consA (varD 1) nilA))))) (retS (cD (.bl false))) nxS) nxS) (seqS (ifS (orB (notB (tst (un1 (isiD .list) (varD 0)))) (tst (bin neD (callA lenD (consA (varD 0) nilA)) (callA lenD (consA (varD 1) nilA))))) (retS (cD (.bl false))) nxS) nxS)) (seqS (forS (rng (consA (callA lenD (consA (varD 1) nilA)) nilA)) (nameG 2) (l__law_alike_14 rec)) (retS (cD (.bl true)))))))))
noncomputable def m__law_alike : Nat → List D → R D
  | 0 => fun _ => .st
  | k + 1 => fnD 2 3 (b__law_alike (m__law_alike k))
noncomputable def l__law_moves_4 : NW.Env → Out := (seqS (appS 5 (ifD (tst (bin eqD (varD 4) (varD 6))) (cD (.int 0)) (bin modD (callA intD (consA (bin ixD (varD 0) (bin addD (bin mulD (varD 4) (varD 1)) (varD 6))) nilA)) (bin addD (varD 2) (cD (.int 1)))))) nxS)
noncomputable def l__law_moves_2 : NW.Env → Out := (seqS (setS 5 (lstD nilA)) (seqS (forS (rng (consA (varD 1) nilA)) (nameG 6) l__law_moves_4) (seqS (appS 3 (varD 5)) nxS)))
noncomputable def b__law_moves : NW.Env → Out := (seqS (setS 3 (lstD nilA)) (seqS (forS (rng (consA (varD 1) nilA)) (nameG 4) l__law_moves_2) (retS (varD 3))))
noncomputable def m__law_moves : List D → R D := fnD 3 7 b__law_moves
noncomputable def l__law_asks_4 : NW.Env → Out := (seqS (setS 8 (callA intD (consA (bin ixD (varD 0) (bin addD (bin mulD (varD 5) (varD 2)) (varD 7))) nilA))) (seqS (appS 6 (ifD (tst (bin eqD (bin modD (varD 8) (cD (.int 4))) (cD (.int 3)))) (cD .non) (bin modD (bin fdivD (varD 8) (cD (.int 4))) (bin addD (varD 3) (cD (.int 1)))))) nxS))
noncomputable def l__law_asks_2 : NW.Env → Out := (seqS (setS 6 (lstD nilA)) (seqS (forS (rng (consA (varD 2) nilA)) (nameG 7) l__law_asks_4) (seqS (ifS (fun ρ => scalT ((tst (bin eqD (callA lenD (consA (compX [9] (itI (varD 6)) (nameG 9) (tst (bin isnotD (varD 9) (cD .non))) (varD 9)) nilA)) (cD (.int 0)))) ρ)) (seqS (asgS (varD 5) (subG 6 (bin modD (bin fdivD (callA intD (consA (bin ixD (varD 0) (varD 5)) nilA)) (cD (.int 16))) (varD 2)))) nxS) nxS) (seqS (appS 4 (varD 6)) nxS))))
noncomputable def b__law_asks : NW.Env → Out := (seqS (setS 4 (lstD nilA)) (seqS (forS (rng (consA (varD 1) nilA)) (nameG 5) l__law_asks_2) (retS (varD 4))))
noncomputable def m__law_asks : List D → R D := fnD 4 10 b__law_asks
noncomputable def l__law_arrows_4 : NW.Env → Out := (seqS (setS 7 (callA intD (consA (bin ixD (varD 0) (bin addD (bin mulD (varD 4) (varD 2)) (varD 6))) nilA))) (seqS (appS 5 (ifD (tst (bin eqD (bin modD (varD 7) (cD (.int 5))) (cD (.int 4)))) (cD .non) (bin modD (bin fdivD (varD 7) (cD (.int 5))) (varD 1)))) nxS))
noncomputable def l__law_arrows_2 : NW.Env → Out := (seqS (setS 5 (lstD nilA)) (seqS (forS (rng (consA (varD 2) nilA)) (nameG 6) l__law_arrows_4) (seqS (appS 3 (varD 5)) nxS)))
noncomputable def b__law_arrows : NW.Env → Out := (seqS (setS 3 (lstD nilA)) (seqS (forS (rng (consA (varD 1) nilA)) (nameG 4) l__law_arrows_2) (retS (varD 3))))
noncomputable def m__law_arrows : List D → R D := fnD 3 8 b__law_arrows
noncomputable def l__law_row_3 : NW.Env → Out := (seqS (setS 5 (compX [6] (rng (consA (callA lenD (consA (bin ixD (varD 0) (varD 3)) nilA)) nilA)) (nameG 6) (tst (bin isnotD (bin ixD (bin ixD (varD 0) (varD 3)) (varD 6)) (cD .non))) (varD 6))) (seqS (ifS (tst (bin eqD (callA lenD (consA (varD 5) nilA)) (cD (.int 0)))) (retS (varD 2)) nxS) (seqS (setS 7 (bin ixD (varD 5) (bin modD (callA intD (consA (varD 4) nilA)) (callA lenD (consA (varD 5) nilA))))) (seqS (appS 2 (varD 7)) (seqS (setS 3 (bin ixD (bin ixD (varD 0) (varD 3)) (varD 7))) nxS)))))
noncomputable def b__law_row : NW.Env → Out := (seqS (setS 2 (lstD nilA)) (seqS (setS 3 (cD (.int 0))) (seqS (forS (itI (varD 1)) (nameG 4) l__law_row_3) (retS (varD 2)))))
noncomputable def m__law_row : List D → R D := fnD 2 8 b__law_row
noncomputable def l__law_rule_5 : NW.Env → Out := (seqS (setS 10 (callA intD (consA (bin ixD (varD 0) (bin addD (bin addD (varD 1) (bin mulD (varD 6) (varD 2))) (varD 9))) nilA))) (seqS (appS 8 (ifD (tst (bin eqD (bin modD (varD 10) (cD (.int 6))) (cD (.int 5)))) (cD .non) (bin modD (bin fdivD (varD 10) (cD (.int 6))) (varD 1)))) nxS))
noncomputable def l__law_rule_3 : NW.Env → Out := (seqS (setS 8 (lstD nilA)) (seqS (forS (rng (consA (varD 2) nilA)) (nameG 9) l__law_rule_5) (seqS (appS 7 (varD 8)) nxS)))
noncomputable def b__law_rule : NW.Env → Out := (seqS (setS 5 (bin addD (lstD (consA (varD 4) nilA)) (compX [6] (rng (consA (cD (.int 1)) (consA (varD 1) nilA))) (nameG 6) yesB (bin modD (callA intD (consA (bin ixD (varD 0) (varD 6)) nilA)) (varD 3))))) (seqS (setS 7 (lstD nilA)) (seqS (forS (rng (consA (varD 1) nilA)) (nameG 6) l__law_rule_3) (retS (lstD (consA (varD 5) (consA (varD 7) nilA)))))))
noncomputable def m__law_rule : List D → R D := fnD 5 11 b__law_rule
noncomputable def l__law_chain_6 : NW.Env → Out := (seqS (setS 12 (callA intD (consA (bin ixD (varD 0) (bin modD (callA intD (consA (bin addD (bin mulD (varD 9) (varD 3)) (varD 11)) nilA)) (callA lenD (consA (varD 0) nilA)))) nilA))) (seqS (setS 13 (ifD (tst (bin eqD (bin modD (varD 12) (cD (.int 6))) (cD (.int 5)))) (cD .non) (bin modD (bin fdivD (varD 12) (cD (.int 6))) (callA lenD (consA (varD 7) nilA))))) (seqS (ifS (tst (bin geD (varD 9) (callA lenD (consA (varD 1) nilA)))) (seqS (setS 13 (callA (exD minI) (consA (bin addD (varD 9) (cD (.int 1))) (consA (bin subD (callA lenD (consA (varD 7) nilA)) (cD (.int 1))) nilA)))) nxS) (seqS (ifS (tst (bin eqD (varD 11) (bin ixD (varD 1) (varD 9)))) (seqS (setS 13 (bin addD (varD 9) (cD (.int 1)))) nxS) nxS) nxS)) (seqS (appS 10 (varD 13)) nxS))))
noncomputable def l__law_chain_4 : NW.Env → Out := (seqS (setS 10 (lstD nilA)) (seqS (forS (rng (consA (varD 3) nilA)) (nameG 11) l__law_chain_6) (seqS (appS 8 (varD 10)) nxS)))
noncomputable def b__law_chain : NW.Env → Out := (seqS (setS 6 (ifD (tst (bin gtD (callA lenD (consA (varD 2) nilA)) (cD (.int 0)))) (bin ixD (varD 2) (un1 negD (cD (.int 1)))) (varD 4))) (seqS (setS 7 (bin addD (bin addD (lstD (consA (varD 4) nilA)) (callA listD (consA (varD 2) nilA))) (bin mulD (lstD (consA (varD 6) nilA)) (varD 5)))) (seqS (setS 8 (lstD nilA)) (seqS (forS (rng (consA (callA lenD (consA (varD 7) nilA)) nilA)) (nameG 9) l__law_chain_4) (retS (lstD (consA (varD 7) (consA (varD 8) nilA))))))))
noncomputable def m__law_chain : List D → R D := fnD 6 14 b__law_chain
noncomputable def b__law_bent : NW.Env → Out := (seqS (setS 3 (callA listD (consA (bin ixD (varD 0) (cD (.int 0))) nilA))) (seqS (setS 4 (compX [5] (itI (bin ixD (varD 0) (cD (.int 1)))) (nameG 5) yesB (callA listD (consA (varD 5) nilA)))) (seqS (ifS (tst (bin gtD (varD 2) (cD (.int 1)))) (seqS (asgS (bin modD (callA intD (consA (bin addD (bin ixD (varD 3) (varD 1)) (cD (.int 1))) nilA)) (varD 2)) (subG 3 (varD 1))) nxS) (seqS (asgS (bin mulD (lstD (consA (cD .non) nilA)) (callA lenD (consA (bin ixD (varD 4) (varD 1)) nilA))) (subG 4 (varD 1))) nxS)) (retS (lstD (consA (varD 3) (consA (varD 4) nilA)))))))
noncomputable def m__law_bent : List D → R D := fnD 3 6 b__law_bent
noncomputable def b__law_rules : NW.Env → Out := (seqS (setS 7 (callA m__law_chain (consA (varD 0) (consA (varD 1) (consA (varD 2) (consA (varD 3) (consA (varD 5) (consA (cD (.int 0)) nilA)))))))) (seqS (setS 8 (callA m__law_chain (consA (varD 0) (consA (varD 1) (consA (varD 2) (consA (varD 3) (consA (varD 5) (consA (varD 6) nilA)))))))) (seqS (setS 9 (callA m__law_rule (consA (varD 0) (consA (bin addD (cD (.int 1)) (bin modD (callA intD (consA (bin ixD (varD 0) (cD (.int 0))) nilA)) (cD (.int 5)))) (consA (varD 3) (consA (varD 4) (consA (varD 5) nilA))))))) (retS (lstD (consA (varD 9) (consA (varD 7) (consA (callA m__law_bent (consA (varD 7) (consA (callA lenD (consA (varD 1) nilA)) (consA (varD 4) nilA)))) (consA (callA m__law_bent (consA (varD 7) (consA (cD (.int 0)) (consA (varD 4) nilA)))) (consA (varD 8) (consA (callA m__law_bent (consA (varD 8) (consA (bin addD (callA lenD (consA (varD 1) nilA)) (varD 6)) (consA (varD 4) nilA)))) nilA)))))))))))
noncomputable def m__law_rules : List D → R D := fnD 7 10 b__law_rules
noncomputable def l__law_walked_2 : NW.Env → Out := (seqS (setS 4 (bin ixD (bin ixD (bin ixD (varD 0) (cD (.int 1))) (varD 2)) (varD 3))) (seqS (ifS (tst (bin isD (varD 4) (cD .non))) (retS (lstD (consA (varD 2) (consA (varD 3) nilA)))) nxS) (seqS (setS 2 (varD 4)) nxS)))
noncomputable def b__law_walked : NW.Env → Out := (seqS (setS 2 (cD (.int 0))) (seqS (forS (itI (varD 1)) (nameG 3) l__law_walked_2) (retS (lstD (consA (varD 2) (consA (cD .non) nilA))))))
noncomputable def m__law_walked : List D → R D := fnD 2 5 b__law_walked
noncomputable def l__law_fits_4 : NW.Env → Out := (seqS (setS 4 (bin ixD (bin ixD (bin ixD (varD 0) (cD (.int 1))) (varD 4)) (bin ixD (varD 2) (varD 5)))) (seqS (ifS (orB (tst (bin isD (varD 4) (cD .non))) (tst (bin neD (bin ixD (bin ixD (varD 0) (cD (.int 0))) (varD 4)) (bin ixD (varD 3) (varD 5))))) (retS (cD (.bl false))) nxS) nxS))
noncomputable def b__law_fits : NW.Env → Out := (seqS (ifS (tst (bin neD (bin ixD (bin ixD (varD 0) (cD (.int 0))) (cD (.int 0))) (varD 1))) (retS (cD (.bl false))) nxS) (seqS (setS 4 (cD (.int 0))) (seqS (forS (rng (consA (callA lenD (consA (varD 2) nilA)) nilA)) (nameG 5) l__law_fits_4) (retS (cD (.bl true))))))
noncomputable def m__law_fits : List D → R D := fnD 4 6 b__law_fits
noncomputable def l__law_next_10 : NW.Env → Out := (seqS (setS 12 (bin ixD (bin ixD (varD 0) (bin ixD (varD 10) (cD (.int 0)))) (varD 11))) (seqS (ifS (tst (bin isnotD (varD 12) (cD .non))) (seqS (setS 13 (bin ixD (bin ixD (bin ixD (varD 2) (cD (.int 1))) (bin ixD (varD 10) (cD (.int 1)))) (varD 11))) (seqS (setS 14 (bin ixD (bin ixD (bin ixD (varD 4) (cD (.int 1))) (bin ixD (varD 10) (cD (.int 2)))) (varD 11))) (seqS (ifS (tst (bin neD (bin isD (varD 13) (cD .non)) (bin isD (varD 14) (cD .non)))) (retS (bin addD (bin ixD (varD 7) (varD 9)) (lstD (consA (varD 11) nilA)))) nxS) (seqS (ifS (tst (bin isnotD (varD 13) (cD .non))) (seqS (ifS (tst (bin neD (bin ixD (bin ixD (varD 2) (cD (.int 0))) (varD 13)) (bin ixD (bin ixD (varD 4) (cD (.int 0))) (varD 14)))) (retS (bin addD (bin ixD (varD 7) (varD 9)) (lstD (consA (varD 11) nilA)))) nxS) (seqS (setS 15 (tupD (consA (varD 12) (consA (varD 13) (consA (varD 14) nilA))))) (seqS (ifS (tst (bin (dinD true) (varD 15) (varD 8))) (seqS (asgS (cD (.bl true)) (dsubG 8 (varD 15))) (seqS (appS 6 (varD 15)) (seqS (appS 7 (bin addD (bin ixD (varD 7) (varD 9)) (lstD (consA (varD 11) nilA)))) nxS))) nxS) nxS))) nxS) nxS)))) nxS) nxS))
noncomputable def l__law_next_6 : NW.Env → Out := (seqS (ifS (tst (bin eqD (varD 9) (callA lenD (consA (varD 6) nilA)))) (retS (cD .non)) nxS) (seqS (setS 10 (bin ixD (varD 6) (varD 9))) (seqS (forS (rng (consA (callA lenD (consA (bin ixD (varD 0) (cD (.int 0))) nilA)) nilA)) (nameG 11) l__law_next_10) nxS)))
noncomputable def b__law_next : NW.Env → Out := (seqS (ifS (tst (bin neD (bin ixD (bin ixD (varD 2) (cD (.int 0))) (varD 3)) (bin ixD (bin ixD (varD 4) (cD (.int 0))) (varD 5)))) (retS (lstD nilA)) nxS) (seqS (setS 6 (lstD (consA (tupD (consA (varD 1) (consA (varD 3) (consA (varD 5) nilA)))) nilA))) (seqS (setS 7 (lstD (consA (lstD nilA) nilA))) (seqS (setS 8 (dict1 (bin ixD (varD 6) (cD (.int 0))) (cD (.bl true)))) (seqS (forS (rng (consA (cD (.int 2000)) nilA)) (nameG 9) l__law_next_6) (retS (cD .non)))))))
noncomputable def m__law_next : List D → R D := fnD 6 16 b__law_next
noncomputable def b__law_asked : NW.Env → Out := (tryS (retS (lstD (consA (flatF (cD (.str "row"))) (consA (callA m_next_apart (consA (varD 0) (consA (varD 1) (consA (varD 2) nilA)))) nilA)))) (hdN ts_9 3 (retS (lstD (consA (flatF (cD (.str "ready"))) (consA (flatF (un1 (xfD 9 0) (varD 3))) (consA (flatF (un1 (xfD 9 1) (varD 3))) nilA))))) (hdC ts_3 (retS (lstD (consA (flatF (cD (.str "unlike"))) nilA))) (hdC ts_0 (retS (lstD (consA (flatF (cD (.str "other"))) nilA))) hdNil))))
noncomputable def m__law_asked : List D → R D := fnD 3 4 b__law_asked
noncomputable def b__law_fitted : NW.Env → Out := (tryS (retS (lstD (consA (cD (.str "list")) (consA (callA m_fitting (consA (varD 0) (consA (varD 1) nilA))) nilA)))) (hdN ts_3 2 (retS (lstD (consA (ifD (andB (tst (un1 (isxD 3 true) (varD 2))) (notB (tst (un1 (isxD 3 false) (varD 2))))) (cD (.str "unlike")) (cD (.str "odd"))) nilA))) (hdC ts_0 (retS (lstD (consA (cD (.str "other")) nilA))) hdNil)))
noncomputable def m__law_fitted : List D → R D := fnD 2 3 b__law_fitted
noncomputable def l__law_due_8 : NW.Env → Out := (seqS (setS 6 (bin ixD (bin ixD (varD 0) (varD 6)) (varD 7))) nxS)
noncomputable def b__law_due : NW.Env → Out := (seqS (setS 4 (callA m__law_walked (consA (varD 2) (consA (varD 1) nilA)))) (seqS (ifS (tst (bin isnotD (bin ixD (varD 4) (cD (.int 1))) (cD .non))) (retS (lstD (consA (cD (.str "ready")) (consA (bin ixD (varD 4) (cD (.int 0))) (consA (bin ixD (varD 4) (cD (.int 1))) nilA))))) nxS) (seqS (setS 5 (callA m__law_walked (consA (varD 3) (consA (varD 1) nilA)))) (seqS (ifS (tst (bin isnotD (bin ixD (varD 5) (cD (.int 1))) (cD .non))) (retS (lstD (consA (cD (.str "ready")) (consA (bin ixD (varD 5) (cD (.int 0))) (consA (bin ixD (varD 5) (cD (.int 1))) nilA))))) nxS) (seqS (setS 6 (cD (.int 0))) (seqS (forS (itI (varD 1)) (nameG 7) l__law_due_8) (retS (lstD (consA (cD (.str "row")) (consA (callA m__law_next (consA (varD 0) (consA (varD 6) (consA (varD 2) (consA (bin ixD (varD 4) (cD (.int 0))) (consA (varD 3) (consA (bin ixD (varD 5) (cD (.int 0))) nilA))))))) nilA))))))))))
noncomputable def m__law_due : List D → R D := fnD 4 8 b__law_due
noncomputable def l__law_checked_2 : NW.Env → Out := (seqS (ifS (notB (tst (callA (m__law_alike 5) (consA (methD 14 m_Seen_fits (varD 0) (consA (bin ixD (varD 6) (varD 9)) nilA)) (consA (bin (inD false) (varD 9) (varD 8)) nilA))))) (retS (cD (.bl false))) nxS) nxS)
noncomputable def l__law_checked_7 : NW.Env → Out := (seqS (setS 11 (callA m__law_due (consA (varD 1) (consA (varD 3) (consA (bin ixD (varD 5) (bin ixD (varD 10) (cD (.int 0)))) (consA (bin ixD (varD 5) (bin ixD (varD 10) (cD (.int 1)))) nilA)))))) (seqS (setS 12 (callA m__law_asked (consA (varD 0) (consA (bin ixD (varD 6) (bin ixD (varD 10) (cD (.int 0)))) (consA (bin ixD (varD 6) (bin ixD (varD 10) (cD (.int 1)))) nilA))))) (seqS (ifS (notB (tst (callA (fun ds => scalR ((m__law_alike 5) ds)) (consA (varD 12) (consA (varD 11) nilA))))) (retS (cD (.bl false))) nxS) (seqS (ifS (andB (tst (bin eqD (bin ixD (varD 11) (cD (.int 0))) (cD (.str "row")))) (tst (bin isnotD (bin ixD (varD 11) (cD (.int 1))) (cD .non)))) (seqS (app2S 12 (cD (.int 1)) (cD (.int 0))) (seqS (ifS (notB (tst (callA (m__law_alike 5) (consA (callA m__law_asked (consA (varD 0) (consA (bin ixD (varD 6) (bin ixD (varD 10) (cD (.int 0)))) (consA (bin ixD (varD 6) (bin ixD (varD 10) (cD (.int 1)))) nilA)))) (consA (varD 11) nilA))))) (retS (cD (.bl false))) nxS) nxS)) nxS) nxS))))
noncomputable def b__law_checked : NW.Env → Out := (seqS (setS 8 (compX [9] (rng (consA (callA lenD (consA (varD 5) nilA)) nilA)) (nameG 9) (tst (callA m__law_fits (consA (bin ixD (varD 5) (varD 9)) (consA (varD 2) (consA (varD 3) (consA (varD 4) nilA)))))) (varD 9))) (seqS (forS (rng (consA (callA lenD (consA (varD 5) nilA)) nilA)) (nameG 9) l__law_checked_2) (seqS (ifS (notB (fun ρ => scalT ((tst (callA (m__law_alike 5) (consA (callA m__law_fitted (consA (varD 0) (consA (callA listD (consA (varD 6) nilA)) nilA))) (consA (lstD (consA (cD (.str "list")) (consA (varD 8) nilA))) nilA)))) ρ))) (retS (cD (.bl false))) nxS) (seqS (forS (itI (varD 7)) (nameG 10) l__law_checked_7) (retS (andD (callA (m__law_alike 5) (consA (un1 (fldD 14 1) (varD 0)) (consA (callA tupleD (consA (varD 3) nilA)) nilA))) (callA (m__law_alike 5) (consA (un1 (fldD 14 2) (varD 0)) (consA (callA tupleD (consA (varD 4) nilA)) nilA)))))))))
noncomputable def m__law_checked : List D → R D := fnD 8 13 b__law_checked
noncomputable def l__law_parted_2 : NW.Env → Out := (seqS (setS 9 (bin ixD (bin ixD (varD 2) (varD 9)) (varD 10))) nxS)
noncomputable def b__law_parted : NW.Env → Out := (seqS (setS 9 (cD (.int 0))) (seqS (forS (itI (varD 4)) (nameG 10) l__law_parted_2) (seqS (setS 11 (compX [12] (rng (consA (callA lenD (consA (varD 1) nilA)) nilA)) (nameG 12) (tst (bin isnotD (bin ixD (bin ixD (varD 2) (varD 9)) (varD 12)) (cD .non))) (varD 12))) (seqS (setS 13 (methD 14 m_Seen_twin (varD 0) nilA)) (seqS (ifS (tst (bin gtD (callA lenD (consA (varD 11) nilA)) (cD (.int 0)))) (seqS (setS 14 (compX [15] (rng (consA (callA lenD (consA (bin ixD (varD 1) (bin ixD (varD 11) (un1 negD (cD (.int 1))))) nilA)) nilA)) (nameG 15) (tst (bin isnotD (bin ixD (bin ixD (varD 1) (bin ixD (varD 11) (un1 negD (cD (.int 1))))) (varD 15)) (cD .non))) (varD 15))) (seqS (exprM (methM 13 14 m_Seen_note (consA (bin ixD (varD 11) (un1 negD (cD (.int 1)))) (consA (bin ixD (varD 14) (un1 negD (cD (.int 1)))) nilA)))) (seqS (ifS (notB (tst (callA (fun ds => scalR (m__law_checked ds)) (consA (varD 13) (consA (varD 2) (consA (varD 3) (consA (bin addD (varD 4) (lstD (consA (bin ixD (varD 11) (un1 negD (cD (.int 1)))) nilA))) (consA (bin addD (varD 5) (lstD (consA (bin ixD (varD 14) (un1 negD (cD (.int 1)))) nilA))) (consA (varD 6) (consA (varD 7) (consA (varD 8) nilA))))))))))) (retS (cD (.bl false))) nxS) nxS))) nxS) (retS (callA m__law_checked (consA (varD 0) (consA (varD 2) (consA (varD 3) (consA (varD 4) (consA (varD 5) (consA (varD 6) (consA (varD 7) (consA (varD 8) nilA)))))))))))))))
noncomputable def m__law_parted : List D → R D := fnD 9 16 b__law_parted
noncomputable def l_law_12 : NW.Env → Out := (seqS (setS 14 (compX [15] (rng (consA (varD 2) nilA)) (nameG 15) (tst (bin isnotD (bin ixD (bin ixD (varD 6) (bin ixD (varD 10) (varD 13))) (varD 15)) (cD .non))) (varD 15))) (seqS (appS 12 (bin ixD (varD 14) (bin modD (callA intD (consA (bin ixD (varD 11) (varD 13)) nilA)) (callA lenD (consA (varD 14) nilA))))) nxS))
noncomputable def l_law_21 : NW.Env → Out := (seqS (ifM (methM 22 14 m_Seen_note (consA (bin ixD (varD 10) (varD 13)) (consA (bin ixD (varD 12) (varD 13)) nilA))) (retS (cD (.bl false))) nxS) nxS)
noncomputable def l_law_26 : NW.Env → Out := (seqS (exprM (methM 22 14 m_Seen_note (consA (bin ixD (varD 10) (varD 13)) (consA (bin ixD (varD 12) (varD 13)) nilA)))) nxS)
noncomputable def l_law_31 : NW.Env → Out := (seqS (ifS (notB (fun ρ => scalT ((tst (callA (m__law_alike 5) (consA (callA m__law_asked (consA (varD 22) (consA (bin ixD (varD 24) (cD (.int 0))) (consA (bin ixD (varD 24) (cD (.int 1))) nilA)))) (consA (lstD (consA (cD (.str "unlike")) nilA)) nilA)))) ρ))) (retS (cD (.bl false))) nxS) nxS)
noncomputable def b_law : NW.Env → Out := (seqS (setS 1 (callA m__law_numbers (consA (callA m__law_cell (consA (varD 0) (consA (cD (.int 0)) nilA))) (consA (cD (.int 10)) nilA)))) (seqS (setS 2 (bin addD (cD (.int 1)) (bin modD (callA intD (consA (bin ixD (varD 1) (cD (.int 0))) nilA)) (cD (.int 3))))) (seqS (setS 3 (bin addD (cD (.int 1)) (bin modD (callA intD (consA (bin ixD (varD 1) (cD (.int 1))) nilA)) (cD (.int 3))))) (seqS (setS 4 (bin modD (callA intD (consA (bin ixD (varD 1) (cD (.int 3))) nilA)) (varD 2))) (seqS (setS 5 (callA m__law_moves (consA (callA m__law_numbers (consA (callA m__law_cell (consA (varD 0) (consA (cD (.int 1)) nilA))) (consA (cD (.int 9)) nilA))) (consA (varD 2) (consA (cD (.int 4)) nilA))))) (seqS (setS 6 (callA m__law_asks (consA (callA m__law_numbers (consA (callA m__law_cell (consA (varD 0) (consA (cD (.int 2)) nilA))) (consA (cD (.int 9)) nilA))) (consA (varD 3) (consA (varD 2) (consA (cD (.int 4)) nilA)))))) (seqS (setS 7 (callA m__law_arrows (consA (callA m__law_numbers (consA (callA m__law_cell (consA (varD 0) (consA (cD (.int 3)) nilA))) (consA (cD (.int 9)) nilA))) (consA (bin addD (cD (.int 1)) (bin modD (callA intD (consA (bin ixD (varD 1) (cD (.int 2))) nilA)) (cD (.int 3)))) (consA (varD 3) nilA))))) (seqS (setS 8 (makeD 13 m_World_init (consA (makeD 10 m_System_init (consA (compX [9] (itI (varD 5)) (nameG 9) yesB (callA listD (consA (varD 9) nilA))) (consA (compX [9] (itI (varD 6)) (nameG 9) yesB (callA listD (consA (varD 9) nilA))) nilA))) (consA (makeD 11 m_Machine_init (consA (compX [9] (itI (varD 7)) (nameG 9) yesB (callA listD (consA (varD 9) nilA))) nilA)) (consA (varD 4) nilA))))) (seqS (setS 10 (callA m__law_row (consA (varD 7) (consA (callA m__law_numbers (consA (callA m__law_cell (consA (varD 0) (consA (cD (.int 4)) nilA))) (consA (bin modD (callA intD (consA (bin ixD (varD 1) (cD (.int 4))) nilA)) (cD (.int 13))) nilA))) nilA)))) (seqS (setS 11 (callA m__law_numbers (consA (callA m__law_cell (consA (varD 0) (consA (cD (.int 5)) nilA))) (consA (cD (.int 12)) nilA)))) (seqS (setS 12 (lstD nilA)) (seqS (forS (rng (consA (callA lenD (consA (varD 10) nilA)) nilA)) (nameG 13) l_law_12) (seqS (setS 16 (callA m__law_rules (consA (callA m__law_numbers (consA (callA m__law_cell (consA (varD 0) (consA (cD (.int 6)) nilA))) (consA (cD (.int 24)) nilA))) (consA (varD 10) (consA (varD 12) (consA (varD 3) (consA (varD 2) (consA (varD 4) (consA (bin addD (cD (.int 1)) (bin modD (callA intD (consA (bin ixD (varD 1) (cD (.int 5))) nilA)) (cD (.int 6)))) nilA))))))))) (seqS (setS 17 (compX [18] (itI (varD 16)) (nameG 18) yesB (makeD 12 m_Rule_init (consA (callA listD (consA (bin ixD (varD 18) (cD (.int 0))) nilA)) (consA (compF [9] (itI (bin ixD (varD 18) (cD (.int 1)))) (nameG 9) yesB (callA listD (consA (varD 9) nilA))) nilA))))) (seqS (setS 19 (callA m__law_numbers (consA (callA m__law_cell (consA (varD 0) (consA (cD (.int 7)) nilA))) (consA (cD (.int 6)) nilA)))) (seqS (setS 20 (bin addD (lstD (consA (lstD (consA (cD (.int 4)) (consA (cD (.int 5)) nilA))) (consA (lstD (consA (cD (.int 1)) (consA (cD (.int 3)) nilA))) nilA))) (compX [13] (rng (consA (cD (.int 4)) nilA)) (nameG 13) yesB (lstD (consA (bin modD (callA intD (consA (bin ixD (varD 19) (varD 13)) nilA)) (cD (.int 6))) (consA (bin modD (bin fdivD (callA intD (consA (bin ixD (varD 19) (varD 13)) nilA)) (cD (.int 6))) (cD (.int 6))) nilA)))))) (seqS (setS 21 (bin modD (callA intD (consA (bin ixD (varD 1) (cD (.int 6))) nilA)) (bin addD (callA lenD (consA (varD 10) nilA)) (cD (.int 1))))) (seqS (setS 22 (makeD 14 m_Seen_init (consA (varD 8) nilA))) (seqS (forS (rng (consA (varD 21) nilA)) (nameG 13) l_law_21) (seqS (ifS (notB (tst (callA (fun ds => scalR (m__law_checked ds)) (consA (varD 22) (consA (varD 7) (consA (varD 4) (consA (sli (varD 10) noP (prt (varD 21))) (consA (sli (varD 12) noP (prt (varD 21))) (consA (varD 16) (consA (varD 17) (consA (varD 20) nilA))))))))))) (retS (cD (.bl false))) nxS) (seqS (forS (rng (consA (varD 21) (consA (callA lenD (consA (varD 10) nilA)) nilA))) (nameG 13) l_law_26) (seqS (ifS (notB (tst (callA (fun ds => scalR (m__law_checked ds)) (consA (varD 22) (consA (varD 7) (consA (varD 4) (consA (varD 10) (consA (varD 12) (consA (varD 16) (consA (varD 17) (consA (varD 20) nilA))))))))))) (retS (cD (.bl false))) nxS) (seqS (setS 23 (makeD 12 m_Rule_init (consA (lstD (consA (varD 4) nilA)) (consA (lstD (consA (bin mulD (lstD (consA (cD (.int 0)) nilA)) (bin addD (varD 3) (cD (.int 1)))) nilA)) nilA)))) (seqS (forS (itI (lstD (consA (lstD (consA (varD 23) (consA (bin ixD (varD 17) (cD (.int 0))) nilA))) (consA (lstD (consA (bin ixD (varD 17) (cD (.int 0))) (consA (varD 23) nilA))) (consA (lstD (consA (varD 23) (consA (varD 23) nilA))) nilA))))) (nameG 24) l_law_31) (seqS (ifS (orB (notB (fun ρ => scalT ((tst (callA (m__law_alike 5) (consA (callA m__law_fitted (consA (varD 22) (consA (bin addD (callA listD (consA (varD 17) nilA)) (lstD (consA (varD 23) nilA))) nilA))) (consA (lstD (consA (cD (.str "unlike")) nilA)) nilA)))) ρ))) (notB (fun ρ => scalT ((tst (callA (m__law_alike 5) (consA (callA m__law_fitted (consA (varD 22) (consA (lstD nilA) nilA))) (consA (lstD (consA (cD (.str "list")) (consA (lstD nilA) nilA))) nilA)))) ρ)))) (retS (cD (.bl false))) nxS) (retS (callA (fun ds => scalR (m__law_parted ds)) (consA (varD 22) (consA (varD 6) (consA (varD 7) (consA (varD 4) (consA (varD 10) (consA (varD 12) (consA (varD 16) (consA (varD 17) (consA (varD 20) nilA))))))))))))))))))))))))))))))))))))
noncomputable def m_law : List D → R D := fnD 1 25 b_law
end K79
end

section
set_option Elab.async false
set_option linter.all false
set_option maxRecDepth 100000
/-! PLa: rules for mirrors, the first defs of k79. -/
namespace NW
open PySem PySem.Spec L2
open PyProof.Rows hiding St
section
variable {g : D → NW.Env → R NW.Env} {b : NW.Env → Out} {Q : Out → Prop}
/-- a loop by an invariant of the turn -/
theorem forD_inv (P : Nat → NW.Env → Prop) : ∀ (ds : List D) (i : Nat) (ρ : NW.Env), P i ρ →
    (∀ k d ρ, ds[k]? = some d → P (i + k) ρ → ∃ ρ1, g d ρ = .ok ρ1 ∧ ((∃ ρ2, (b ρ1 = .nx ρ2 ∨ b ρ1 = .ct ρ2) ∧ P (i + k + 1) ρ2) ∨ (∃ ρ2, b ρ1 = .bk ρ2 ∧ Q (.nx ρ2)) ∨ (∃ d' ρ2, b ρ1 = .rt d' ρ2 ∧ Q (.rt d' ρ2)) ∨ ∃ c fs ρ2, b ρ1 = .ex c fs ρ2 ∧ Q (.ex c fs ρ2))) →
    (∀ ρ, P (i + ds.length) ρ → Q (.nx ρ)) → Q (forD g b ds ρ)
  | [], i, ρ, h, _, e => by unfold forD; exact e ρ h
  | d :: ds, i, ρ, h, s, e => by
    obtain ⟨ρ1, h1, h2⟩ := s 0 d ρ rfl h
    unfold forD
    rw [h1]
    dsimp only
    have go : ∀ ρ2, P (i + 0 + 1) ρ2 → Q (forD g b ds ρ2) := fun ρ2 p => forD_inv P ds (i + 1) ρ2 p (fun k d ρ hk hp => by
      have := s (k + 1) d ρ (by simpa using hk) (by rw [show i + (k + 1) = i + 1 + k by omega]; exact hp)
      rw [show i + (k + 1) + 1 = i + 1 + k + 1 by omega] at this
      exact this) fun ρ hp => e ρ (by rw [List.length_cons, show i + (ds.length + 1) = i + 1 + ds.length by omega]; exact hp)
    rcases h2 with ⟨ρ2, h2 | h2, p⟩ | ⟨ρ2, h2, q⟩ | ⟨d', ρ2, h2, q⟩ | ⟨c, fs, ρ2, h2, q⟩
    · rw [h2]; exact go ρ2 p
    · rw [h2]; exact go ρ2 p
    · rw [h2]; exact q
    · rw [h2]; exact q
    · rw [h2]; exact q
end
/-- a comprehension whose parts are plain -/
theorem compD_map {g : D → NW.Env → R NW.Env} {c : NW.Env → R Bool} {e : NW.Env → R D} {ρ : NW.Env} (p : D → Bool) (h : D → D) : ∀ (ds : List D), (∀ d ∈ ds, ∃ ρ1, g d ρ = .ok ρ1 ∧ c ρ1 = .ok (p d) ∧ (p d = true → e ρ1 = .ok (h d))) → compD g c e ds ρ = .ok ((ds.filter p).map h)
  | [], _ => rfl
  | d :: ds, k => by
    obtain ⟨ρ1, h1, h2, h3⟩ := k d List.mem_cons_self
    have ih := compD_map (g := g) (c := c) (e := e) (ρ := ρ) p h ds fun d hd => k d (List.mem_cons_of_mem _ hd)
    unfold compD
    rw [h1]
    show (c ρ1).bind _ = _
    rw [h2]
    cases hp : p d with
    | true =>
      show (e ρ1).bind _ = _
      rw [h3 hp, ih]
      simp [List.filter_cons, hp, R.bind]
    | false =>
      show compD g c e ds ρ = _
      rw [ih]
      simp [List.filter_cons, hp]
/-! ### the steps of the mirrors -/
section
variable (f g h : NW.Env → R D) (fs : NW.Env → R (List D)) (c c2 : NW.Env → R Bool) (a b : NW.Env → Out) (op op2 : D → D → R D) (o1 : D → R D) (oa : List D → R D) (ρ : NW.Env) (i : Nat) (d : D)
@[simp] theorem e_seqS : seqS a b ρ = (a ρ).seq b := rfl
@[simp] theorem e_ifS : ifS c a b ρ = (c ρ).out ρ fun k => if k then a ρ else b ρ := rfl
@[simp] theorem e_tst : tst f ρ = (f ρ).bind asB := rfl
@[simp] theorem e_asB (k : Bool) : asB (.bl k) = .ok k := rfl
@[simp] theorem e_bin : NW.bin op f g ρ = (f ρ).bind fun x => (g ρ).bind fun y => op x y := rfl
@[simp] theorem e_un1 : un1 o1 f ρ = (f ρ).bind fun x => o1 x := rfl
@[simp] theorem e_varD : varD i ρ = getE ρ i := rfl
@[simp] theorem e_get (e : ρ[i]? = some (some d)) : getE ρ i = .ok d := by unfold getE; rw [e]
@[simp] theorem e_get0 (r : NW.Env) : getE (some d :: r) 0 = .ok d := rfl
@[simp] theorem e_getS (o : Option D) (r : NW.Env) : getE (o :: r) (i + 1) = getE r i := rfl
@[simp] theorem e_cD : cD d ρ = .ok d := rfl
@[simp] theorem e_callA : callA oa fs ρ = (fs ρ).bind oa := rfl
@[simp] theorem e_consA : consA f fs ρ = (f ρ).bind fun x => (fs ρ).bind fun xs => .ok (x :: xs) := rfl
@[simp] theorem e_nilA : nilA ρ = .ok [] := rfl
@[simp] theorem e_retS : retS f ρ = (f ρ).out ρ fun d => .rt d ρ := rfl
@[simp] theorem e_retV : retV i ρ = (getE ρ i).out ρ fun d => .rt d ρ := rfl
@[simp] theorem e_retN : retN ρ = .rt .non ρ := rfl
@[simp] theorem e_nxS : nxS ρ = .nx ρ := rfl
@[simp] theorem e_bkS : bkS ρ = .bk ρ := rfl
@[simp] theorem e_ctS : ctS ρ = .ct ρ := rfl
@[simp] theorem e_setS : setS i f ρ = (f ρ).out ρ fun d => .nx (ρ.set i (some d)) := rfl
@[simp] theorem e_exprS : exprS f ρ = (f ρ).out ρ fun _ => .nx ρ := rfl
@[simp] theorem e_nameG : nameG i d ρ = .ok (ρ.set i (some d)) := rfl
@[simp] theorem e_forS (it : NW.Env → R (List D)) (t : D → NW.Env → R NW.Env) : forS it t a ρ = (it ρ).out ρ fun ds => forD t a ds ρ := rfl
@[simp] theorem e_rng : rng fs ρ = (fs ρ).bind rngI := rfl
@[simp] theorem e_itI : itI f ρ = (f ρ).bind seqI := rfl
@[simp] theorem e_seqL (ds : List D) : seqI (.lst ds) = .ok ds := rfl
@[simp] theorem e_seqT (ds : List D) : seqI (.tup ds) = .ok ds := rfl
@[simp] theorem e_lstD : lstD fs ρ = (fs ρ).bind fun ds => if ds.length ≤ szL then .ok (.lst ds) else .st := rfl
@[simp] theorem e_tupD : tupD fs ρ = (fs ρ).bind fun ds => if ds.length ≤ szL then .ok (.tup ds) else .st := rfl
@[simp] theorem e_notB : notB c ρ = (c ρ).bind fun b => .ok (!b) := rfl
@[simp] theorem e_andB : andB c c2 ρ = (c ρ).bind fun b => if b then c2 ρ else .ok false := rfl
@[simp] theorem e_orB : orB c c2 ρ = (c ρ).bind fun b => if b then .ok true else c2 ρ := rfl
@[simp] theorem e_ifD : ifD c f g ρ = (c ρ).bind fun b => if b then f ρ else g ρ := rfl
@[simp] theorem e_andD : andD f g ρ = (f ρ).bind fun x => (asB x).bind fun b => if b then g ρ else .ok (.bl false) := rfl
@[simp] theorem e_orD : orD f g ρ = (f ρ).bind fun x => (asB x).bind fun b => if b then .ok (.bl true) else g ρ := rfl
@[simp] theorem e_flatF : flatF f ρ = (f ρ).bind fun d => if flat d then .ok d else .st := rfl
@[simp] theorem e_chn : chnD op op2 f g h ρ = (f ρ).bind fun x => (g ρ).bind fun y => (op x y).bind fun d => (asB d).bind fun b => if b then (h ρ).bind fun z => op2 y z else .ok (.bl false) := rfl
@[simp] theorem e_fnD (n N : Nat) (ds : List D) : fnD n N a ds = if ds.length = n then outR (a (ds.map some ++ List.replicate (N - n) none)) else .st := rfl
@[simp] theorem e_outN : outR (.nx ρ) = .ok .non := rfl
@[simp] theorem e_outT : outR (.rt d ρ) = .ok d := rfl
@[simp] theorem e_outX (k : Nat) (l : List D) : outR (.ex k l ρ) = .ex k l := rfl
@[simp] theorem e_scR : scalR (.ok d) = if flat d then .ok d else .st := rfl
@[simp] theorem e_scT (k : Bool) : scalT (.ok k) = .ok k := rfl
end
section
variable (i j : Int) (x y : List D) (k : Bool)
@[simp] theorem e_lt : ltD (.int i) (.int j) = .ok (.bl (decide (i < j))) := rfl
@[simp] theorem e_le : leD (.int i) (.int j) = .ok (.bl (decide (i ≤ j))) := rfl
@[simp] theorem e_gt : gtD (.int i) (.int j) = .ok (.bl (decide (j < i))) := rfl
@[simp] theorem e_ge : geD (.int i) (.int j) = .ok (.bl (decide (j ≤ i))) := rfl
@[simp] theorem e_eqI : eqD (.int i) (.int j) = .ok (.bl (decide (i = j))) := rfl
@[simp] theorem e_neI : neD (.int i) (.int j) = .ok (.bl (!decide (i = j))) := rfl
@[simp] theorem e_isN : isD .non .non = .ok (.bl true) := rfl
@[simp] theorem e_isI : isD (.int i) .non = .ok (.bl false) := rfl
@[simp] theorem e_inN : isnotD .non .non = .ok (.bl false) := rfl
@[simp] theorem e_inI : isnotD (.int i) .non = .ok (.bl true) := rfl
@[simp] theorem e_inL : isnotD (.lst x) .non = .ok (.bl true) := rfl
@[simp] theorem e_add : addD (.int i) (.int j) = .ok (.int (i + j)) := rfl
@[simp] theorem e_sub : subD (.int i) (.int j) = .ok (.int (i - j)) := rfl
@[simp] theorem e_mod (h : 0 < j) : modD (.int i) (.int j) = .ok (.int (i % j)) := if_pos h
@[simp] theorem e_fdiv (h : 0 < j ∧ j.natAbs.log2 < 9000) : fdivD (.int i) (.int j) = .ok (.int (i / j)) := if_pos h
@[simp] theorem e_mul (h : mulOk i j = true) : mulD (.int i) (.int j) = .ok (.int (i * j)) := if_pos h
@[simp] theorem e_ixL : ixD (.lst x) (.int i) = opt (L2.atI x i) := rfl
@[simp] theorem e_ixT : ixD (.tup x) (.int i) = opt (L2.atI x i) := rfl
@[simp] theorem e_ixS (ns : List Int) : ixD (.scr ns) (.int i) = (opt (L2.atI ns i)).bind fun n => .ok (.int n) := rfl
@[simp] theorem e_opt {α : Type} (v : α) : opt (some v) = .ok v := rfl
@[simp] theorem e_pow (h : 0 ≤ j ∧ j ≤ 1000000 ∧ i.natAbs < 2 ^ 64) : powD (.int i) (.int j) = .ok (.int (i ^ j.toNat)) := if_pos h
@[simp] theorem e_rng1 (h : big j = true) : rngI [.int j] = .ok (upto 0 j) := if_pos h
@[simp] theorem e_rng2 (h : big i = true) (h2 : big j = true) : rngI [.int i, .int j] = .ok (upto i j) := if_pos (by rw [h, h2]; rfl)
@[simp] theorem e_app (m : Nat) (f : NW.Env → R D) (ρ : NW.Env) (ds : List D) (h : ρ[m]? = some (some (.lst ds))) : appS m f ρ = (f ρ).out ρ fun d => if ds.length < szL then .nx (ρ.set m (some (.lst (ds ++ [d])))) else .st := by
  unfold appS
  rw [h]
@[simp] theorem e_int : NW.intD [.int i] = .ok (.int i) := rfl
@[simp] theorem e_abs : absD [.int i] = .ok (.int (if i < 0 then -i else i)) := rfl
@[simp] theorem e_lenL : lenD [.lst x] = .ok (.int x.length) := rfl
@[simp] theorem e_lenT : lenD [.tup x] = .ok (.int x.length) := rfl
@[simp] theorem e_lenS (ns : List Int) : lenD [.scr ns] = .ok (.int ns.length) := rfl
theorem mulOk_r (h : -(2 ^ 64) < j ∧ j < 2 ^ 64) : mulOk i j = true := ndec_iff.mpr (.inr (.inl h))
end
theorem atI_nat {α : Type} {xs : List α} {k : Nat} (h : k < xs.length) : L2.atI xs (k : Int) = some xs[k] := by
  unfold L2.atI L2.ixN
  have h1 : (0 : Int) ≤ k := by omega
  have h2 : (k : Int) < xs.length := by omega
  rw [if_pos h1, if_pos h2]
  simp [h]
end NW
namespace K79.PL
open PySem NW
/-- one entry of the script -/
def cell (ns : List Int) (k : Nat) : Int := ns.getD k 0
theorem law_cell (ns : List Int) (k : Nat) : m__law_cell [.scr ns, .int k] = .ok (.int (cell ns k)) := by
  have h0 : ((k : Int) < (ns.length : Int)) ↔ k < ns.length := by omega
  unfold m__law_cell b__law_cell
  by_cases h : k < ns.length
  · have h1 := atI_nat h
    simp [h, h0, h1, cell]
  · simp [h, h0, cell]
/-- drawn numbers -/
def Drawn (xs : List Int) (n : Nat) : Prop := xs.length = n ∧ ∀ x ∈ xs, 0 ≤ x ∧ x < 5040
theorem drawn_snoc {xs : List Int} {n : Nat} {x : Int} (h : Drawn xs n) (h1 : 0 ≤ x) (h2 : x < 5040) : Drawn (xs ++ [x]) (n + 1) := ⟨by simp [h.1], fun y hy => by
  rcases List.mem_append.mp hy with hy | hy
  · exact h.2 y hy
  · rw [List.mem_singleton.mp hy]; exact ⟨h1, h2⟩⟩
theorem upto_len (n : Nat) : (upto 0 (n : Int)).length = n := by
  unfold upto
  simp
theorem law_numbers_loop (c : Int) (n : Nat) (hn : n ≤ 1000) (rest mixed : Int) : ∃ xs ρ, forD (nameG 5) l__law_numbers_6 (upto 0 (n : Int)) [some (.int c), some (.int n), some (.int rest), some (.int mixed), some (.lst []), none] = .nx ρ ∧ Drawn xs n ∧ ρ[4]? = some (some (.lst (List.map D.int xs))) := by
  have p0 : ∀ i, mulOk i 48271 = true := fun i => mulOk_r i _ (by omega)
  refine forD_inv (Q := fun o => ∃ xs ρ, o = .nx ρ ∧ Drawn xs n ∧ ρ[4]? = some (some (.lst (List.map D.int xs))))
    (fun i ρ => ∃ rest mixed xs o, ρ = [some (.int c), some (.int n), some (.int rest), some (.int mixed), some (.lst (List.map D.int xs)), o] ∧ Drawn xs i ∧ i ≤ n)
    (upto 0 (n : Int)) 0 _ ⟨rest, mixed, [], none, rfl, ⟨rfl, fun x hx => nomatch hx⟩, by omega⟩ ?_ ?_
  · rintro k d ρ hk ⟨rest, mixed, xs, o, rfl, hx, hi⟩
    have hlt : k < n := by
      have := (List.getElem?_eq_some_iff.mp hk).1
      rwa [upto_len] at this
    refine ⟨_, rfl, .inl ?_⟩
    have lx : xs.length < 16777216 := by rw [hx.1]; omega
    by_cases hr : 0 < rest
    · refine ⟨_, .inl (by unfold l__law_numbers_6; simp [hr, lx, R.bind, R.out, Out.seq]; rfl), rest / 5040, mixed, xs ++ [rest % 5040], some d, by simp, ?_, by omega⟩
      exact drawn_snoc hx (by omega) (by omega)
    · refine ⟨_, .inl (by unfold l__law_numbers_6; simp [hr, p0, lx, R.bind, R.out, Out.seq]; rfl), rest, (mixed * 48271 + 69621) % 2147483647, xs ++ [(mixed * 48271 + 69621) % 2147483647 / 8 % 5040], some d, by simp, ?_, by omega⟩
      exact drawn_snoc hx (by omega) (by omega)
  · rintro ρ ⟨rest, mixed, xs, o, rfl, hx, hi⟩
    rw [upto_len, Nat.zero_add] at hx
    exact ⟨xs, _, rfl, hx, rfl⟩
end K79.PL
end

section
/-! PLp: the plain search of k79, without a program. -/
namespace K79.PL
abbrev Tab := List (List (Option Nat))
abbrev Rl := List Nat × Tab
abbrev Spot := Nat × Nat × Nat
def go (t : Tab) (k r : Nat) : Option Nat := ((t.getD k []).getD r none)
/-- rows of one length, entries below a bound -/
structure TabOk (n kinds top : Nat) (t : Tab) : Prop where
  len : t.length = n
  row : ∀ l ∈ t, l.length = kinds ∧ ∀ x, some x ∈ l → x < top
theorem TabOk.at_ {n kinds top : Nat} {t : Tab} (h : TabOk n kinds top t) {k : Nat} (hk : k < n) : (t.getD k []).length = kinds ∧ ∀ x, some x ∈ t.getD k [] → x < top := by
  have h1 : k < t.length := by rw [h.len]; exact hk
  have : t.getD k [] ∈ t := by
    rw [List.getD_eq_getElem?_getD, List.getElem?_eq_getElem h1]
    exact List.getElem_mem h1
  exact h.row _ this
theorem TabOk.go_lt {n kinds top : Nat} {t : Tab} (h : TabOk n kinds top t) {k r x : Nat} (hk : k < n) (e : go t k r = some x) : x < top := by
  refine (h.at_ hk).2 x ?_
  unfold go at e
  generalize t.getD k [] = l at e ⊢
  rw [List.getD_eq_getElem?_getD] at e
  cases q : l[r]? with
  | none => rw [q] at e; cases e
  | some y =>
    rw [q] at e
    have : y = some x := e
    subst this
    exact List.mem_of_getElem? q
/-- a rule: places, table -/
structure RlOk (kinds size : Nat) (R : Rl) : Prop where
  tab : TabOk R.1.length kinds R.1.length R.2
  pos : 0 < R.1.length
  top : R.1.length ≤ 19
  pl : ∀ p ∈ R.1, p < size
/-- the memory after the row, or the memory and the first ask that is not taken -/
def wk (t : Tab) : Nat → List Nat → Nat × Option Nat
  | m, [] => (m, none)
  | m, a :: as => match go t m a with
    | none => (m, some a)
    | some g => wk t g as
theorem wk_lt {n kinds : Nat} {t : Tab} (h : TabOk n kinds n t) : ∀ {row : List Nat} {m : Nat}, m < n → (wk t m row).1 < n
  | [], m, hm => hm
  | a :: as, m, hm => by
    unfold wk
    cases e : go t m a with
    | none => exact hm
    | some g => exact wk_lt h (h.go_lt hm e)
def ft (R : Rl) : Nat → List (Nat × Nat) → Bool
  | _, [] => true
  | m, (a, w) :: r => match go R.2 m a with
    | none => false
    | some g => if R.1.getD g 0 = w then ft R g r else false
def fitsP (R : Rl) (begin : Nat) (row way : List Nat) : Bool := decide (R.1.getD 0 0 = begin) && ft R 0 (row.zip way)
def apart (A B : Rl) : Option Nat → Option Nat → Bool
  | none, none => false
  | some x, some y => decide (A.1.getD x 0 ≠ B.1.getD y 0)
  | _, _ => true
structure Fd where
  found : List Spot
  rows : List (List Nat)
def visit (arr : Tab) (A B : Rl) (spot : Spot) (row : List Nat) : List Nat → Fd → Sum (List Nat) Fd
  | [], F => .inr F
  | r :: rs, F => match go arr spot.1 r with
    | none => visit arr A B spot row rs F
    | some s => if apart A B (go A.2 spot.2.1 r) (go B.2 spot.2.2 r) then .inl (row ++ [r]) else
      match go A.2 spot.2.1 r, go B.2 spot.2.2 r with
      | some x, some y => if (s, x, y) ∈ F.found then visit arr A B spot row rs F else visit arr A B spot row rs ⟨F.found ++ [(s, x, y)], F.rows ++ [row ++ [r]]⟩
      | _, _ => visit arr A B spot row rs F
def bfs (arr : Tab) (A B : Rl) (kinds : Nat) : Nat → Nat → Fd → Option (Option (List Nat))
  | 0, _, _ => none
  | n + 1, at_, F => match F.found[at_]? with
    | none => some none
    | some spot => match visit arr A B spot (F.rows.getD at_ []) (List.range kinds) F with
      | .inl row => some (some row)
      | .inr F' => bfs arr A B kinds n (at_ + 1) F'
/-- what holds of the search -/
structure FdOk (S M N : Nat) (F : Fd) : Prop where
  nd : F.found.Nodup
  box : ∀ s ∈ F.found, s.1 < S ∧ s.2.1 < M ∧ s.2.2 < N
  len : F.rows.length = F.found.length
  rl : ∀ (i : Nat) (r : List Nat), F.rows[i]? = some r → r.length ≤ i
theorem visit_ok {S M N kinds : Nat} {arr : Tab} {A B : Rl} (ha : TabOk S kinds S arr) (hA : TabOk M kinds M A.2) (hB : TabOk N kinds N B.2) {spot : Spot} {row : List Nat} (hs : spot.1 < S ∧ spot.2.1 < M ∧ spot.2.2 < N) : ∀ (rs : List Nat) {F F' : Fd}, FdOk S M N F → row.length < F.found.length → visit arr A B spot row rs F = .inr F' → FdOk S M N F' ∧ F.found.length ≤ F'.found.length
  | [], F, F', h, _, e => by cases e; exact ⟨h, Nat.le_refl _⟩
  | r :: rs, F, F', h, hl, e => by
    unfold visit at e
    split at e
    · exact visit_ok ha hA hB hs rs h hl e
    · rename_i s es
      split at e
      · cases e
      · split at e
        · rename_i x y ex ey
          split at e
          · exact visit_ok ha hA hB hs rs h hl e
          · rename_i hn
            have := visit_ok ha hA hB hs rs (F := ⟨F.found ++ [(s, x, y)], F.rows ++ [row ++ [r]]⟩) ⟨?_, ?_, ?_, ?_⟩ ?_ e
            · refine ⟨this.1, Nat.le_trans ?_ this.2⟩
              simp
            · refine List.nodup_append.mpr ⟨h.nd, by simp, ?_⟩
              intro a h1 b h2
              rw [List.mem_singleton.mp h2]
              intro q
              subst q
              exact hn h1
            · intro t ht
              rcases List.mem_append.mp ht with ht | ht
              · exact h.box t ht
              · rw [List.mem_singleton.mp ht]
                exact ⟨ha.go_lt hs.1 es, hA.go_lt hs.2.1 ex, hB.go_lt hs.2.2 ey⟩
            · simp [h.len]
            · intro i t ht
              rw [List.getElem?_append] at ht
              split at ht
              · exact h.rl i t ht
              · rename_i hi
                have e0 : i - F.rows.length = 0 := by
                  have := (List.getElem?_eq_some_iff.mp ht).1
                  simp at this
                  omega
                rw [e0] at ht
                have e1 : row ++ [r] = t := by simpa using ht
                rw [← e1]
                have := h.len
                simp
                omega
            · simp; omega
        · exact visit_ok ha hA hB hs rs h hl e
theorem nodup_lt : ∀ (n : Nat) (l : List Nat), l.Nodup → (∀ x ∈ l, x < n) → l.length ≤ n
  | 0, l, _, h => by
    cases l with
    | nil => exact Nat.le_refl _
    | cons a l => exact absurd (h a List.mem_cons_self) (by omega)
  | n + 1, l, nd, h => by
    have h1 := nodup_lt n (l.erase n) (nd.erase n) (fun x hx => by
      have h2 := (nd.mem_erase_iff).mp hx
      have := h x h2.2
      have := h2.1
      omega)
    have : l.length ≤ (l.erase n).length + 1 := by
      rw [List.length_erase]
      split <;> omega
    omega
theorem FdOk.small {S M N : Nat} {F : Fd} (h : FdOk S M N F) : F.found.length ≤ S * M * N := by
  have := nodup_lt (S * M * N) (F.found.map fun s => (s.1 * M + s.2.1) * N + s.2.2) (by
    refine List.pairwise_map.mpr ?_
    refine List.Pairwise.imp_of_mem ?_ h.nd
    intro a b ha hb hab e
    have h1 := h.box a ha
    have h2 := h.box b hb
    obtain ⟨a1, a2, a3⟩ := a
    obtain ⟨b1, b2, b3⟩ := b
    dsimp only at h1 h2 e
    have e3 : a3 = b3 := by
      have := congrArg (· % N) e
      simpa [Nat.mul_add_mod, Nat.mul_add_mod_of_lt, Nat.mod_eq_of_lt h1.2.2, Nat.mod_eq_of_lt h2.2.2, Nat.add_mod] using this
    subst e3
    have e4 : a1 * M + a2 = b1 * M + b2 := Nat.eq_of_mul_eq_mul_right (Nat.lt_of_le_of_lt (Nat.zero_le _) h1.2.2) (Nat.add_right_cancel e)
    have e5 : a2 = b2 := by
      have := congrArg (· % M) e4
      simpa [Nat.mod_eq_of_lt h1.2.1, Nat.mod_eq_of_lt h2.2.1, Nat.add_mod] using this
    subst e5
    have e6 : a1 = b1 := Nat.eq_of_mul_eq_mul_right (Nat.lt_of_le_of_lt (Nat.zero_le _) h1.2.1) (Nat.add_right_cancel e4)
    exact hab (by rw [e6])) (by
    intro x hx
    obtain ⟨s, hs, rfl⟩ := List.mem_map.mp hx
    obtain ⟨h1, h2, h3⟩ := h.box s hs
    have q1 : s.1 * M + s.2.1 < S * M := by
      have := Nat.mul_le_mul_right M h1
      rw [Nat.succ_mul] at this
      omega
    have := Nat.mul_le_mul_right N q1
    rw [Nat.succ_mul] at this
    omega)
  rwa [List.length_map] at this
theorem FdOk.row_at {S M N : Nat} {F : Fd} (h : FdOk S M N F) {k : Nat} (hk : k < F.found.length) : (F.rows.getD k []).length ≤ k := by
  have h1 : k < F.rows.length := by rw [h.len]; exact hk
  refine h.rl k _ ?_
  rw [List.getD_eq_getElem?_getD, List.getElem?_eq_getElem h1]
  rfl
theorem bfs_total {S M N kinds : Nat} {arr : Tab} {A B : Rl} (ha : TabOk S kinds S arr) (hA : TabOk M kinds M A.2) (hB : TabOk N kinds N B.2) : ∀ (n at_ : Nat) {F : Fd}, FdOk S M N F → at_ ≤ F.found.length → S * M * N < at_ + n → ∃ o, bfs arr A B kinds n at_ F = some o
  | 0, at_, F, h, h1, h2 => by
    have := h.small
    omega
  | n + 1, at_, F, h, h1, h2 => by
    unfold bfs
    cases e : F.found[at_]? with
    | none => exact ⟨_, rfl⟩
    | some spot =>
      dsimp only
      cases e2 : visit arr A B spot (F.rows.getD at_ []) (List.range kinds) F with
      | inl row => exact ⟨_, rfl⟩
      | inr F' =>
        dsimp only
        obtain ⟨hlt, e3⟩ := List.getElem?_eq_some_iff.mp e
        have hr := h.row_at hlt
        have := visit_ok ha hA hB (h.box _ (List.mem_of_getElem? e)) _ h (Nat.lt_of_le_of_lt hr hlt) e2
        exact bfs_total ha hA hB n (at_ + 1) this.1 (by omega) (by omega)
end K79.PL
end

section
set_option Elab.async false
set_option linter.all false
/-! PLb: numbers as data, loops, the drawing defs of k79. -/
namespace NW
open PySem PySem.Spec L2
open PyProof.Rows hiding St
def oi : Option Nat → D
  | none => .non
  | some n => .int n
def nums (xs : List Nat) : List D := xs.map fun (n : Nat) => D.int n
def ois (xs : List (Option Nat)) : List D := xs.map oi
def tabL (t : List (List (Option Nat))) : List D := t.map fun l => .lst (ois l)
def tabT (t : List (List (Option Nat))) : List D := t.map fun l => .tup (ois l)
section
variable (xs : List Nat) (ys : List (Option Nat)) (t : List (List (Option Nat))) (x : Nat) (y : Option Nat) (k n : Nat)
@[simp] theorem nums_nil : nums [] = [] := rfl
@[simp] theorem ois_nil : ois [] = [] := rfl
@[simp] theorem tabL_nil : tabL [] = [] := rfl
@[simp] theorem nums_len : (nums xs).length = xs.length := by simp [nums]
@[simp] theorem ois_len : (ois ys).length = ys.length := by simp [ois]
@[simp] theorem tabL_len : (tabL t).length = t.length := by simp [tabL]
@[simp] theorem tabT_len : (tabT t).length = t.length := by simp [tabT]
@[simp] theorem nums_app (zs : List Nat) : nums (xs ++ zs) = nums xs ++ nums zs := by simp [nums]
@[simp] theorem nums_cons : nums (x :: xs) = .int x :: nums xs := rfl
@[simp] theorem ois_app (zs : List (Option Nat)) : ois (ys ++ zs) = ois ys ++ ois zs := by simp [ois]
@[simp] theorem ois_cons : ois (y :: ys) = oi y :: ois ys := rfl
@[simp] theorem tabL_app (u : List (List (Option Nat))) : tabL (t ++ u) = tabL t ++ tabL u := by simp [tabL]
@[simp] theorem tabL_cons (l : List (Option Nat)) : tabL (l :: t) = .lst (ois l) :: tabL t := rfl
@[simp] theorem oi_some : oi (some x) = .int x := rfl
@[simp] theorem oi_none : oi none = .non := rfl
@[simp] theorem isN_oi : isD (oi y) .non = .ok (.bl y.isNone) := by cases y <;> rfl
@[simp] theorem isnotN_oi : isnotD (oi y) .non = .ok (.bl y.isSome) := by cases y <;> rfl
variable {xs ys t k}
theorem nums_at (h : k < xs.length) : L2.atI (nums xs) (k : Int) = some (.int (xs.getD k 0 : Nat)) := by
  rw [atI_nat (by simpa using h)]
  simp [nums, h]
theorem ois_at (h : k < ys.length) : L2.atI (ois ys) (k : Int) = some (oi (ys.getD k none)) := by
  rw [atI_nat (by simpa using h)]
  simp [ois, h]
theorem tabL_at (h : k < t.length) : L2.atI (tabL t) (k : Int) = some (.lst (ois (t.getD k []))) := by
  rw [atI_nat (by simpa using h)]
  simp [tabL, h]
theorem tabT_at (h : k < t.length) : L2.atI (tabT t) (k : Int) = some (.tup (ois (t.getD k []))) := by
  rw [atI_nat (by simpa using h)]
  simp [tabT, h]
end
theorem big_n {n : Nat} (h : n ≤ 100000) : big (n : Int) = true := ndec_iff.mpr (by omega)
theorem mulOk_n {i j : Nat} (h : j ≤ 100000) : mulOk (i : Int) (j : Int) = true := mulOk_r _ _ (by omega)
theorem upto_at {n k : Nat} {d : D} (h : (upto 0 (n : Int))[k]? = some d) : k < n ∧ d = .int (k : Nat) := by
  unfold upto at h
  rw [List.getElem?_map] at h
  cases q : (List.range ((n : Int) - 0).toNat)[k]? with
  | none => rw [q] at h; cases h
  | some j =>
    rw [q] at h
    obtain ⟨h1, h2⟩ := List.getElem?_eq_some_iff.mp q
    rw [List.getElem_range] at h2
    subst h2
    refine ⟨by simpa using h1, ?_⟩
    have := (Option.some.inj h).symm
    simpa using this
theorem upto_leng (n : Nat) : (upto 0 (n : Int)).length = n := by
  unfold upto
  simp
/-- for k in range(n), left by return or not at all -/
theorem forN {i n : Nat} {b : NW.Env → Out} {ρ : NW.Env} {Q : Out → Prop} (P : Nat → NW.Env → Prop) (h0 : P 0 ρ)
    (hs : ∀ k ρ, k < n → P k ρ → (∃ ρ2, b (ρ.set i (some (.int (k : Nat)))) = .nx ρ2 ∧ P (k + 1) ρ2) ∨ ∃ d ρ2, b (ρ.set i (some (.int (k : Nat)))) = .rt d ρ2 ∧ Q (.rt d ρ2))
    (he : ∀ ρ, P n ρ → Q (.nx ρ)) : Q (forD (nameG i) b (upto 0 (n : Int)) ρ) := by
  refine forD_inv P (upto 0 (n : Int)) 0 ρ h0 (fun k d ρ hk hp => ?_) fun ρ hp => he ρ (by rwa [upto_leng, Nat.zero_add] at hp)
  obtain ⟨h1, rfl⟩ := upto_at hk
  rw [Nat.zero_add] at hp ⊢
  refine ⟨_, rfl, ?_⟩
  rcases hs k ρ h1 hp with ⟨ρ2, e, p⟩ | ⟨d, ρ2, e, q⟩
  · exact .inl ⟨ρ2, .inl e, p⟩
  · exact .inr (.inr (.inl ⟨d, ρ2, e, q⟩))
theorem forN1 {i n : Nat} {b : NW.Env → Out} {ρ : NW.Env} (P : Nat → NW.Env → Prop) (h0 : P 0 ρ)
    (hs : ∀ k ρ, k < n → P k ρ → ∃ ρ2, b (ρ.set i (some (.int (k : Nat)))) = .nx ρ2 ∧ P (k + 1) ρ2) : ∃ ρ2, forD (nameG i) b (upto 0 (n : Int)) ρ = .nx ρ2 ∧ P n ρ2 :=
  forN (Q := fun o => ∃ ρ2, o = .nx ρ2 ∧ P n ρ2) P h0 (fun k ρ h p => .inl (hs k ρ h p)) fun ρ h => ⟨ρ, rfl, h⟩
/-- for x in a list -/
theorem forL {i : Nat} {b : NW.Env → Out} {ds : List D} {ρ : NW.Env} {Q : Out → Prop} (P : Nat → NW.Env → Prop) (h0 : P 0 ρ)
    (hs : ∀ k d ρ, ds[k]? = some d → P k ρ → (∃ ρ2, b (ρ.set i (some d)) = .nx ρ2 ∧ P (k + 1) ρ2) ∨ ∃ d' ρ2, b (ρ.set i (some d)) = .rt d' ρ2 ∧ Q (.rt d' ρ2))
    (he : ∀ ρ, P ds.length ρ → Q (.nx ρ)) : Q (forD (nameG i) b ds ρ) := by
  refine forD_inv P ds 0 ρ h0 (fun k d ρ hk hp => ?_) fun ρ hp => he ρ (by rwa [Nat.zero_add] at hp)
  rw [Nat.zero_add] at hp ⊢
  refine ⟨_, rfl, ?_⟩
  rcases hs k d ρ hk hp with ⟨ρ2, e, p⟩ | ⟨d, ρ2, e, q⟩
  · exact .inl ⟨ρ2, .inl e, p⟩
  · exact .inr (.inr (.inl ⟨d, ρ2, e, q⟩))
theorem forL1 {i : Nat} {b : NW.Env → Out} {ds : List D} {ρ : NW.Env} (P : Nat → NW.Env → Prop) (h0 : P 0 ρ)
    (hs : ∀ k d ρ, ds[k]? = some d → P k ρ → ∃ ρ2, b (ρ.set i (some d)) = .nx ρ2 ∧ P (k + 1) ρ2) : ∃ ρ2, forD (nameG i) b ds ρ = .nx ρ2 ∧ P ds.length ρ2 :=
  forL (Q := fun o => ∃ ρ2, o = .nx ρ2 ∧ P ds.length ρ2) P h0 (fun k d ρ h p => .inl (hs k d ρ h p)) fun ρ h => ⟨ρ, rfl, h⟩
end NW
namespace K79.PL
open PySem NW
theorem idx_lt {a b c d : Nat} (h1 : a < c) (h2 : b < d) : a * d + b < c * d := by
  have := Nat.mul_le_mul_right d h1
  rw [Nat.succ_mul] at this
  omega
theorem getD_app {α : Type} (l r : List α) (k : Nat) (z : α) (h : k < l.length) : (l ++ r).getD k z = l.getD k z := by
  rw [List.getD_eq_getElem?_getD, List.getD_eq_getElem?_getD, List.getElem?_append_left h]
theorem getD_end {α : Type} (l : List α) (x z : α) : (l ++ [x]).getD l.length z = x := by
  rw [List.getD_eq_getElem?_getD]
  simp
/-- drawn numbers -/
def Drw (xs : List Nat) (n : Nat) : Prop := xs.length = n ∧ ∀ x ∈ xs, x < 5040
theorem ten18 : powD (.int 10) (.int 18) = .ok (.int 1000000000000000000) := by
  rw [e_pow 10 18 (by decide)]
  rfl
theorem drawn_nat {xs : List Int} {n : Nat} (h : Drawn xs n) : ∃ ys, Drw ys n ∧ xs.map D.int = nums ys := by
  refine ⟨xs.map Int.toNat, ⟨by simp [h.1], fun x hx => ?_⟩, ?_⟩
  · obtain ⟨y, hy, rfl⟩ := List.mem_map.mp hx
    have := h.2 y hy
    omega
  · unfold nums
    rw [List.map_map]
    refine List.map_congr_left fun y hy => ?_
    have := h.2 y hy
    show D.int y = D.int ((y.toNat : Nat) : Int)
    rw [Int.toNat_of_nonneg this.1]
theorem law_numbers (c : Int) (n : Nat) (hn : n ≤ 1000) : ∃ xs, Drw xs n ∧ m__law_numbers [.int c, .int n] = .ok (.lst (nums xs)) := by
  have hb : big (n : Int) = true := big_n (by omega)
  have p0 : ∀ i, mulOk i 48271 = true := fun i => mulOk_r i _ (by omega)
  have key := law_numbers_loop c n hn
  generalize hL : l__law_numbers_6 = L at key
  have hp := ten18
  suffices h : ∃ xs, Drawn xs n ∧ m__law_numbers [.int c, .int n] = .ok (.lst (xs.map D.int)) by
    obtain ⟨xs, h1, h2⟩ := h
    obtain ⟨ys, h3, h4⟩ := drawn_nat h1
    exact ⟨ys, h3, by rw [h2, h4]⟩
  generalize hT : (1000000000000000000 : Int) = T at hp
  generalize hA : (if c < 0 then -c else c) = A
  unfold m__law_numbers b__law_numbers
  rw [hL]
  by_cases hr : A < T
  · obtain ⟨xs, ρ, e, h1, h2⟩ := key 0 ((A * 48271 + 12345) % 2147483647)
    refine ⟨xs, h1, ?_⟩
    simp [p0, hp, hA, hr, hb, R.bind, R.out, Out.seq, e, getE, h2]
  · obtain ⟨xs, ρ, e, h1, h2⟩ := key A ((A * 48271 + 12345) % 2147483647)
    refine ⟨xs, h1, ?_⟩
    simp [p0, hp, hA, hr, hb, R.bind, R.out, Out.seq, e, getE, h2]
theorem law_moves_in {ns : List Nat} (hn : ns.length = 9) {size p : Nat} (hs : size ≤ 3) (hp : p < size) (m : D) (o : Option D) : ∃ row o', forD (nameG 6) l__law_moves_4 (upto 0 (size : Int)) [some (.lst (nums ns)), some (.int size), some (.int 4), some m, some (.int p), some (.lst []), o] = .nx [some (.lst (nums ns)), some (.int size), some (.int 4), some m, some (.int p), some (.lst (nums row)), o'] ∧ row.length = size ∧ (∀ x ∈ row, x ≤ 4) ∧ row.getD p 0 = 0 := by
  obtain ⟨ρ2, e, row, o', rfl, h1, h2, h3⟩ := forN1 (i := 6) (n := size) (b := l__law_moves_4) (ρ := [some (.lst (nums ns)), some (.int size), some (.int 4), some m, some (.int p), some (.lst []), o])
    (fun k ρ => ∃ row o', ρ = [some (.lst (nums ns)), some (.int size), some (.int 4), some m, some (.int p), some (.lst (nums row)), o'] ∧ row.length = k ∧ (∀ x ∈ row, x ≤ 4) ∧ row.getD p 0 = 0) ⟨[], o, rfl, rfl, (fun x h => nomatch h), rfl⟩ (by
    rintro k ρ hk ⟨row, o', rfl, hl, h4, hz⟩
    have hi : p * size + k < ns.length := by
      have := idx_lt hp hk
      have := Nat.mul_le_mul hs hs
      omega
    have ei := nums_at hi
    have mo : mulOk (p : Int) (size : Int) = true := mulOk_n (by omega)
    have hr : row.length < 16777216 := by omega
    by_cases hpk : p = k
    · subst hpk
      refine ⟨[some (.lst (nums ns)), some (.int size), some (.int 4), some m, some (.int p), some (.lst (nums (row ++ [0]))), some (.int p)], by unfold l__law_moves_4; simp [hr, R.bind, R.out, Out.seq], row ++ [0], _, rfl, by simp [hl], ?_, ?_⟩
      · intro x hx
        rcases List.mem_append.mp hx with hx | hx
        · exact h4 x hx
        · rw [List.mem_singleton.mp hx]; omega
      · rw [← hl]; exact getD_end _ _ _
    · refine ⟨[some (.lst (nums ns)), some (.int size), some (.int 4), some m, some (.int p), some (.lst (nums (row ++ [ns.getD (p * size + k) 0 % 5]))), some (.int k)], ?_, row ++ [ns.getD (p * size + k) 0 % 5], _, rfl, by simp [hl], ?_, ?_⟩
      · have h' : ¬ ((p : Int) = (k : Int)) := by omega
        rw [Int.natCast_add, Int.natCast_mul] at ei
        unfold l__law_moves_4
        simp [h', hr, R.bind, R.out, Out.seq, mo, ei]
      · intro x hx
        rcases List.mem_append.mp hx with hx | hx
        · exact h4 x hx
        · rw [List.mem_singleton.mp hx]; omega
      · by_cases hq : p < row.length
        · rw [getD_app _ _ _ _ hq]; exact hz
        · rw [List.getD_eq_getElem?_getD, List.getElem?_eq_none (by simp; omega)]; rfl)
  exact ⟨row, o', e, h1, h2, h3⟩
/-- moving costs as drawn -/
structure MvOk (size : Nat) (mv : List (List Nat)) : Prop where
  len : mv.length = size
  row : ∀ p, p < size → (mv.getD p []).length = size ∧ (∀ x ∈ mv.getD p [], x ≤ 4) ∧ (mv.getD p []).getD p 0 = 0
def mvL (mv : List (List Nat)) : List D := mv.map fun l => .lst (nums l)
theorem law_moves {ns : List Nat} (hn : ns.length = 9) {size : Nat} (hs : size ≤ 3) : ∃ mv, MvOk size mv ∧ m__law_moves [.lst (nums ns), .int size, .int 4] = .ok (.lst (mvL mv)) := by
  obtain ⟨ρ2, e, mv, o1, o2, o3, rfl, h1, h2⟩ := forN1 (i := 4) (n := size) (b := l__law_moves_2) (ρ := [some (.lst (nums ns)), some (.int size), some (.int 4), some (.lst []), none, none, none])
    (fun k ρ => ∃ mv o1 o2 o3, ρ = [some (.lst (nums ns)), some (.int size), some (.int 4), some (.lst (mvL mv)), o1, o2, o3] ∧ mv.length = k ∧ ∀ p, p < k → (mv.getD p []).length = size ∧ (∀ x ∈ mv.getD p [], x ≤ 4) ∧ (mv.getD p []).getD p 0 = 0) ⟨[], none, none, none, rfl, rfl, fun p h => absurd h (by omega)⟩ (by
    rintro k ρ hk ⟨mv, o1, o2, o3, rfl, hl, hm⟩
    obtain ⟨row, o', e, h1, h2, h3⟩ := law_moves_in hn hs hk (.lst (mvL mv)) o3
    have hb : big (size : Int) = true := big_n (by omega)
    have hr : (mvL mv).length < 16777216 := by simp [mvL]; omega
    refine ⟨[some (.lst (nums ns)), some (.int size), some (.int 4), some (.lst (mvL (mv ++ [row]))), some (.int k), some (.lst (nums row)), o'], ?_, mv ++ [row], _, _, _, rfl, by simp [hl], ?_⟩
    · generalize hL : l__law_moves_4 = L at e
      unfold l__law_moves_2
      rw [hL]
      simp [hb, R.bind, R.out, Out.seq, e, hr]
      simp [mvL]
    · intro p hp
      by_cases hq : p < k
      · rw [getD_app _ _ _ _ (by omega)]
        exact hm p hq
      · have : p = mv.length := by omega
        subst this
        rw [getD_end]
        have : mv.length = k := hl
        subst this
        exact ⟨h1, h2, h3⟩)
  refine ⟨mv, ⟨h1, h2⟩, ?_⟩
  have hb : big (size : Int) = true := big_n (by omega)
  generalize hL : l__law_moves_2 = L at e
  unfold m__law_moves b__law_moves
  rw [hL]
  simp [hb, R.bind, R.out, Out.seq, e]
end K79.PL
end

section
set_option Elab.async false
set_option linter.all false
/-! PLc: the drawing defs of k79, 2. -/
namespace NW
open PySem PySem.Spec L2
open PyProof.Rows hiding St
@[simp] theorem fdiv4 (i : Int) : fdivD (.int i) (.int 4) = .ok (.int (i / 4)) := e_fdiv _ _ (by decide)
@[simp] theorem fdiv5 (i : Int) : fdivD (.int i) (.int 5) = .ok (.int (i / 5)) := e_fdiv _ _ (by decide)
@[simp] theorem fdiv6 (i : Int) : fdivD (.int i) (.int 6) = .ok (.int (i / 6)) := e_fdiv _ _ (by decide)
@[simp] theorem fdiv16 (i : Int) : fdivD (.int i) (.int 16) = .ok (.int (i / 16)) := e_fdiv _ _ (by decide)
theorem ixN_nat {n k : Nat} (h : k < n) : ixN n (k : Int) = some k := by
  unfold ixN
  have h1 : (0 : Int) ≤ k := by omega
  have h2 : (k : Int) < n := by omega
  rw [if_pos h1, if_pos h2]
  simp
@[simp] theorem ois_set (l : List (Option Nat)) (k : Nat) (y : Option Nat) : ois (l.set k y) = (ois l).set k (oi y) := by simp [ois, List.map_set]
@[simp] theorem nums_set (l : List Nat) (k : Nat) (y : Nat) : nums (l.set k y) = (nums l).set k (.int y) := by simp [nums, List.map_set]
@[simp] theorem tabL_set (l : List (List (Option Nat))) (k : Nat) (y : List (Option Nat)) : tabL (l.set k y) = (tabL l).set k (.lst (ois y)) := by simp [tabL, List.map_set]
/-- the numbers of a range that pass a test -/
theorem compN {i n : Nat} {c : NW.Env → R Bool} {ρ : NW.Env} (p : Nat → Bool) (hi : i < ρ.length) (h : ∀ k, k < n → c (ρ.set i (some (.int (k : Nat)))) = .ok (p k)) : compD (nameG i) c (varD i) (upto 0 (n : Int)) ρ = .ok (nums ((List.range n).filter p)) := by
  have := compD_map (g := nameG i) (c := c) (e := varD i) (ρ := ρ) (fun d => match d with
    | .int j => p j.toNat
    | _ => false) id (upto 0 (n : Int)) (fun d hd => by
      obtain ⟨k, hk⟩ := List.getElem?_of_mem hd
      obtain ⟨h1, rfl⟩ := upto_at hk
      refine ⟨_, rfl, ?_, fun _ => ?_⟩
      · rw [h k h1]; simp
      · show getE _ _ = _
        exact e_get _ _ _ (by simp [hi]))
  rw [this]
  congr 1
  unfold upto nums
  rw [List.filter_map, List.map_map]
  simp only [Int.sub_zero, Int.toNat_natCast]
  congr 1
  · funext k; simp
  · congr 1
    funext k
    simp
/-- numbers below a bound -/
theorem compE {g : D → NW.Env → R NW.Env} {e : NW.Env → R D} {ρ : NW.Env} {b : Nat} : ∀ (ds : List D), (∀ d ∈ ds, ∃ ρ1 x, g d ρ = .ok ρ1 ∧ e ρ1 = .ok (.int (x : Nat)) ∧ x < b) → ∃ xs : List Nat, compD g yesB e ds ρ = .ok (nums xs) ∧ xs.length = ds.length ∧ ∀ x ∈ xs, x < b
  | [], _ => ⟨[], rfl, rfl, fun x h => nomatch h⟩
  | d :: ds, h => by
    obtain ⟨ρ1, x, h1, h2, h3⟩ := h d List.mem_cons_self
    obtain ⟨xs, h4, h5, h6⟩ := compE ds fun d hd => h d (List.mem_cons_of_mem _ hd)
    refine ⟨x :: xs, ?_, by simp [h5], fun y hy => ?_⟩
    · unfold compD
      rw [h1]
      show (R.bind (R.ok true) _) = _
      simp [R.bind, h2, h4]
    · rcases List.mem_cons.mp hy with hy | hy
      · rw [hy]; exact h3
      · exact h6 y hy
/-- one thing made of each -/
theorem compM {i : Nat} {e : NW.Env → R D} {ρ : NW.Env} (f : D → D) : ∀ (ds : List D), (∀ d ∈ ds, e (ρ.set i (some d)) = .ok (f d)) → compD (nameG i) yesB e ds ρ = .ok (ds.map f) := fun ds h => by
  rw [compD_map (g := nameG i) (c := yesB) (e := e) (ρ := ρ) (fun _ => true) f ds fun d hd => ⟨_, rfl, rfl, fun _ => h d hd⟩, List.filter_eq_self.mpr fun _ _ => rfl]
theorem nums_mem {xs : List Nat} {d : D} (h : d ∈ nums xs) : ∃ x ∈ xs, d = .int (x : Nat) := by
  obtain ⟨x, h1, h2⟩ := List.mem_map.mp h
  exact ⟨x, h1, h2.symm⟩
theorem ois_mem {xs : List (Option Nat)} {d : D} (h : d ∈ ois xs) : ∃ x ∈ xs, d = oi x := by
  obtain ⟨x, h1, h2⟩ := List.mem_map.mp h
  exact ⟨x, h1, h2.symm⟩
theorem tabL_mem {t : List (List (Option Nat))} {d : D} (h : d ∈ tabL t) : ∃ l ∈ t, d = .lst (ois l) := by
  obtain ⟨x, h1, h2⟩ := List.mem_map.mp h
  exact ⟨x, h1, h2.symm⟩
theorem nums_get {xs : List Nat} {k : Nat} {d : D} (h : (nums xs)[k]? = some d) : ∃ h1 : k < xs.length, d = .int (xs[k] : Nat) := by
  obtain ⟨h1, h2⟩ := List.getElem?_eq_some_iff.mp h
  refine ⟨by simpa using h1, ?_⟩
  rw [← h2]
  simp [nums]
end NW
namespace K79.PL
open PySem NW
/-! ### asks -/
structure AkRow (size : Nat) (l : List (Option Nat)) : Prop where
  len : l.length = size
  top : ∀ x, some x ∈ l → x ≤ 4
  one : ∃ p, p < size ∧ (l.getD p none).isSome = true
theorem law_asks_in {ns : List Nat} (hn : ns.length = 9) {size kinds r : Nat} (hs : size ≤ 3) (hk : kinds ≤ 3) (hr : r < kinds) (m : D) (o1 o2 o3 : Option D) : ∃ row o1' o2', forD (nameG 7) l__law_asks_4 (upto 0 (size : Int)) [some (.lst (nums ns)), some (.int kinds), some (.int size), some (.int 4), some m, some (.int r), some (.lst []), o1, o2, o3] = .nx [some (.lst (nums ns)), some (.int kinds), some (.int size), some (.int 4), some m, some (.int r), some (.lst (ois row)), o1', o2', o3] ∧ row.length = size ∧ ∀ x, some x ∈ row → x ≤ 4 := by
  obtain ⟨ρ2, e, row, o1', o2', rfl, h1, h2⟩ := forN1 (i := 7) (n := size) (b := l__law_asks_4) (ρ := [some (.lst (nums ns)), some (.int kinds), some (.int size), some (.int 4), some m, some (.int r), some (.lst []), o1, o2, o3])
    (fun k ρ => ∃ row o1' o2', ρ = [some (.lst (nums ns)), some (.int kinds), some (.int size), some (.int 4), some m, some (.int r), some (.lst (ois row)), o1', o2', o3] ∧ row.length = k ∧ ∀ x, some x ∈ row → x ≤ 4) ⟨[], o1, o2, rfl, rfl, fun x h => nomatch h⟩ (by
    rintro k ρ hks ⟨row, o1', o2', rfl, hl, h4⟩
    have hi : r * size + k < ns.length := by
      have := idx_lt hr hks
      have := Nat.mul_le_mul hk hs
      omega
    have ei := nums_at hi
    rw [Int.natCast_add, Int.natCast_mul] at ei
    have mo : mulOk (r : Int) (size : Int) = true := mulOk_n (by omega)
    have hrl : row.length < 16777216 := by omega
    generalize ns.getD (r * size + k) 0 = x at ei
    by_cases hx : x % 4 = 3
    · refine ⟨[some (.lst (nums ns)), some (.int kinds), some (.int size), some (.int 4), some m, some (.int r), some (.lst (ois (row ++ [none]))), some (.int k), some (.int x), o3], ?_, row ++ [none], _, _, rfl, by simp [hl], ?_⟩
      · have h' : (x : Int) % 4 = 3 := by omega
        unfold l__law_asks_4
        simp [h', hrl, R.bind, R.out, Out.seq, mo, ei]
      · intro y hy
        rcases List.mem_append.mp hy with hy | hy
        · exact h4 y hy
        · cases List.mem_singleton.mp hy
    · refine ⟨[some (.lst (nums ns)), some (.int kinds), some (.int size), some (.int 4), some m, some (.int r), some (.lst (ois (row ++ [some (x / 4 % 5)]))), some (.int k), some (.int x), o3], ?_, row ++ [some (x / 4 % 5)], _, _, rfl, by simp [hl], ?_⟩
      · have h' : ¬ (x : Int) % 4 = 3 := by omega
        unfold l__law_asks_4
        simp [h', hrl, R.bind, R.out, Out.seq, mo, ei]
      · intro y hy
        rcases List.mem_append.mp hy with hy | hy
        · exact h4 y hy
        · cases List.mem_singleton.mp hy; omega)
  exact ⟨row, o1', o2', e, h1, h2⟩
theorem some_filter (row : List (Option Nat)) : ((ois row).filter fun d => !isNon d).length = 0 ↔ ∀ x ∈ row, x = none := by
  rw [List.length_eq_zero_iff, List.filter_eq_nil_iff]
  constructor
  · intro h x hx
    have := h (oi x) (List.mem_map.mpr ⟨x, hx, rfl⟩)
    cases x with
    | none => rfl
    | some y => exact absurd rfl this
  · intro h d hd
    obtain ⟨x, hx, rfl⟩ := ois_mem hd
    rw [h x hx]
    simp [oi, isNon]
theorem comp_some {ρ : NW.Env} {i : Nat} (hi : i < ρ.length) (row : List (Option Nat)) : compD (nameG i) (tst (NW.bin isnotD (varD i) (cD .non))) (varD i) (ois row) ρ = .ok ((ois row).filter fun d => !isNon d) := by
  rw [compD_map (g := nameG i) (c := tst (NW.bin isnotD (varD i) (cD .non))) (e := varD i) (ρ := ρ) (fun d => !isNon d) id (ois row) fun d hd => ⟨_, rfl, ?_, fun _ => ?_⟩]
  · simp
  · have := e_get (ρ := ρ.set i (some d)) (i := i) (d := d) (by simp [hi])
    obtain ⟨x, hx, rfl⟩ := ois_mem hd
    simp [R.bind, this]
    cases x <;> rfl
  · exact e_get _ _ _ (by simp [hi])
theorem law_asks {ns : List Nat} (hn : ns.length = 9) {size kinds : Nat} (hs0 : 0 < size) (hs : size ≤ 3) (hk : kinds ≤ 3) : ∃ ak, ak.length = kinds ∧ (∀ l ∈ ak, AkRow size l) ∧ m__law_asks [.lst (nums ns), .int kinds, .int size, .int 4] = .ok (.lst (tabL ak)) := by
  obtain ⟨ρ2, e, ak, o1, o2, o3, o4, o5, rfl, h1, h2⟩ := forN1 (i := 5) (n := kinds) (b := l__law_asks_2) (ρ := [some (.lst (nums ns)), some (.int kinds), some (.int size), some (.int 4), some (.lst []), none, none, none, none, none])
    (fun k ρ => ∃ ak o1 o2 o3 o4 o5, ρ = [some (.lst (nums ns)), some (.int kinds), some (.int size), some (.int 4), some (.lst (tabL ak)), o1, o2, o3, o4, o5] ∧ ak.length = k ∧ ∀ l ∈ ak, AkRow size l) ⟨[], none, none, none, none, none, rfl, rfl, fun l h => nomatch h⟩ (by
    rintro r ρ hr ⟨ak, o1, o2, o3, o4, o5, rfl, hl, hm⟩
    obtain ⟨row, o1', o2', e, h1, h2⟩ := law_asks_in hn hs hk hr (.lst (tabL ak)) o3 o4 o5
    have hb : big (size : Int) = true := big_n (by omega)
    have hrl : (tabL ak).length < 16777216 := by simp; omega
    have hrl2 : ak.length < 16777216 := by omega
    have hsz : row.length ≤ 16777216 := by omega
    have hc := comp_some (i := 9) (ρ := [some (.lst (nums ns)), some (.int kinds), some (.int size), some (.int 4), some (.lst (tabL ak)), some (.int r), some (.lst (ois row)), o1', o2', none]) (by simp) row
    have hf := some_filter row
    have en := nums_at (xs := ns) (k := r) (by omega)
    generalize hL : l__law_asks_4 = L at e
    generalize ((ois row).filter fun d => !isNon d) = ff at hc hf
    generalize ns.getD r 0 = x at en
    by_cases hz : ff.length = 0
    · have hix : x / 16 % size < size := Nat.mod_lt _ hs0
      have hset : L2.ixN row.length ((x : Int) / 16 % (size : Int)) = some (x / 16 % size) := by
        have := ixN_nat (n := row.length) (k := x / 16 % size) (by omega)
        simpa using this
      have hs0' : (0 : Int) < (size : Int) := by omega
      refine ⟨[some (.lst (nums ns)), some (.int kinds), some (.int size), some (.int 4), some (.lst (tabL (ak ++ [row.set (x / 16 % size) (some r)]))), some (.int r), some (.lst (ois (row.set (x / 16 % size) (some r)))), o1', o2', o5], ?_, ak ++ [row.set (x / 16 % size) (some r)], _, _, _, _, _, rfl, by simp [hl], ?_⟩
      · unfold l__law_asks_2
        rw [hL]
        simp [-List.getD_eq_getElem?_getD, hb, R.bind, R.out, Out.seq, e, compX, wipeE, hsz, hc, hz, asgS, subG, hs0, en, hset, hrl2]
      · intro l hl2
        rcases List.mem_append.mp hl2 with hl2 | hl2
        · exact hm l hl2
        · rw [List.mem_singleton.mp hl2]
          refine ⟨by simp [h1], fun y hy => ?_, ⟨_, hix, ?_⟩⟩
          · rcases List.mem_or_eq_of_mem_set hy with hy | hy
            · exact h2 y hy
            · cases hy; omega
          · rw [List.getD_eq_getElem?_getD, List.getElem?_set_self (by omega)]; rfl
    · refine ⟨[some (.lst (nums ns)), some (.int kinds), some (.int size), some (.int 4), some (.lst (tabL (ak ++ [row]))), some (.int r), some (.lst (ois row)), o1', o2', o5], ?_, ak ++ [row], _, _, _, _, _, rfl, by simp [hl], ?_⟩
      · unfold l__law_asks_2
        rw [hL]
        simp [hb, R.bind, R.out, Out.seq, e, compX, wipeE, hsz, hc, hz, hrl2]
      · intro l hl2
        rcases List.mem_append.mp hl2 with hl2 | hl2
        · exact hm l hl2
        · rw [List.mem_singleton.mp hl2]
          refine ⟨h1, h2, ?_⟩
          have : ¬ ∀ x ∈ row, x = none := fun q => hz (hf.mpr q)
          obtain ⟨x, hx⟩ := Classical.not_forall.mp this
          obtain ⟨hx1, hx2⟩ := Classical.not_imp.mp hx
          obtain ⟨p, hp, hpx⟩ := List.mem_iff_getElem.mp hx1
          refine ⟨p, by omega, ?_⟩
          rw [List.getD_eq_getElem?_getD, List.getElem?_eq_getElem hp, hpx]
          cases x with
          | none => exact absurd rfl hx2
          | some y => rfl)
  refine ⟨ak, h1, h2, ?_⟩
  have hb : big (kinds : Int) = true := big_n (by omega)
  generalize hL : l__law_asks_2 = L at e
  unfold m__law_asks b__law_asks
  rw [hL]
  simp [hb, R.bind, R.out, Out.seq, e]
end K79.PL
end

section
set_option Elab.async false
set_option linter.all false
/-! PLd: the drawing defs of k79, 3. -/
namespace K79.PL
open PySem NW
theorem mod_lt' {x n : Nat} (h : 0 < n) : x % n < n := Nat.mod_lt _ h
/-! ### arrows -/
theorem law_arrows_in {ns : List Nat} (hn : ns.length = 9) {states kinds s : Nat} (hs0 : 0 < states) (hs : states ≤ 3) (hk : kinds ≤ 3) (hr : s < states) (m : D) (o1 o2 : Option D) : ∃ row o1' o2', forD (nameG 6) l__law_arrows_4 (upto 0 (kinds : Int)) [some (.lst (nums ns)), some (.int states), some (.int kinds), some m, some (.int s), some (.lst []), o1, o2] = .nx [some (.lst (nums ns)), some (.int states), some (.int kinds), some m, some (.int s), some (.lst (ois row)), o1', o2'] ∧ row.length = kinds ∧ ∀ x, some x ∈ row → x < states := by
  obtain ⟨ρ2, e, row, o1', o2', rfl, h1, h2⟩ := forN1 (i := 6) (n := kinds) (b := l__law_arrows_4) (ρ := [some (.lst (nums ns)), some (.int states), some (.int kinds), some m, some (.int s), some (.lst []), o1, o2])
    (fun k ρ => ∃ row o1' o2', ρ = [some (.lst (nums ns)), some (.int states), some (.int kinds), some m, some (.int s), some (.lst (ois row)), o1', o2'] ∧ row.length = k ∧ ∀ x, some x ∈ row → x < states) ⟨[], o1, o2, rfl, rfl, fun x h => nomatch h⟩ (by
    rintro k ρ hks ⟨row, o1', o2', rfl, hl, h4⟩
    have hi : s * kinds + k < ns.length := by
      have := idx_lt hr hks
      have := Nat.mul_le_mul hs hk
      omega
    have ei := nums_at hi
    rw [Int.natCast_add, Int.natCast_mul] at ei
    have mo : mulOk (s : Int) (kinds : Int) = true := mulOk_n (by omega)
    have hrl : row.length < 16777216 := by omega
    have hs0' : (0 : Int) < (states : Int) := by omega
    generalize ns.getD (s * kinds + k) 0 = x at ei
    by_cases hx : x % 5 = 4
    · refine ⟨[some (.lst (nums ns)), some (.int states), some (.int kinds), some m, some (.int s), some (.lst (ois (row ++ [none]))), some (.int k), some (.int x)], ?_, row ++ [none], _, _, rfl, by simp [hl], ?_⟩
      · have h' : (x : Int) % 5 = 4 := by omega
        unfold l__law_arrows_4
        simp [-List.getD_eq_getElem?_getD, h', hrl, R.bind, R.out, Out.seq, mo, ei]
      · intro y hy
        rcases List.mem_append.mp hy with hy | hy
        · exact h4 y hy
        · cases List.mem_singleton.mp hy
    · refine ⟨[some (.lst (nums ns)), some (.int states), some (.int kinds), some m, some (.int s), some (.lst (ois (row ++ [some (x / 5 % states)]))), some (.int k), some (.int x)], ?_, row ++ [some (x / 5 % states)], _, _, rfl, by simp [hl], ?_⟩
      · have h' : ¬ (x : Int) % 5 = 4 := by omega
        unfold l__law_arrows_4
        simp [-List.getD_eq_getElem?_getD, h', hrl, R.bind, R.out, Out.seq, mo, ei, hs0]
      · intro y hy
        rcases List.mem_append.mp hy with hy | hy
        · exact h4 y hy
        · cases List.mem_singleton.mp hy; exact mod_lt' hs0)
  exact ⟨row, o1', o2', e, h1, h2⟩
theorem law_arrows {ns : List Nat} (hn : ns.length = 9) {states kinds : Nat} (hs0 : 0 < states) (hs : states ≤ 3) (hk : kinds ≤ 3) : ∃ arr, TabOk states kinds states arr ∧ m__law_arrows [.lst (nums ns), .int states, .int kinds] = .ok (.lst (tabL arr)) := by
  obtain ⟨ρ2, e, arr, o1, o2, o3, o4, rfl, h1, h2⟩ := forN1 (i := 4) (n := states) (b := l__law_arrows_2) (ρ := [some (.lst (nums ns)), some (.int states), some (.int kinds), some (.lst []), none, none, none, none])
    (fun k ρ => ∃ arr o1 o2 o3 o4, ρ = [some (.lst (nums ns)), some (.int states), some (.int kinds), some (.lst (tabL arr)), o1, o2, o3, o4] ∧ arr.length = k ∧ ∀ l ∈ arr, l.length = kinds ∧ ∀ x, some x ∈ l → x < states) ⟨[], none, none, none, none, rfl, rfl, fun l h => nomatch h⟩ (by
    rintro r ρ hr ⟨arr, o1, o2, o3, o4, rfl, hl, hm⟩
    obtain ⟨row, o1', o2', e, h1, h2⟩ := law_arrows_in hn hs0 hs hk hr (.lst (tabL arr)) o3 o4
    have hb : big (kinds : Int) = true := big_n (by omega)
    have hrl : arr.length < 16777216 := by omega
    refine ⟨[some (.lst (nums ns)), some (.int states), some (.int kinds), some (.lst (tabL (arr ++ [row]))), some (.int r), some (.lst (ois row)), o1', o2'], ?_, arr ++ [row], _, _, _, _, rfl, by simp [hl], ?_⟩
    · generalize hL : l__law_arrows_4 = L at e
      unfold l__law_arrows_2
      rw [hL]
      simp [hb, R.bind, R.out, Out.seq, e, hrl]
    · intro l hl2
      rcases List.mem_append.mp hl2 with hl2 | hl2
      · exact hm l hl2
      · rw [List.mem_singleton.mp hl2]; exact ⟨h1, h2⟩)
  refine ⟨arr, ⟨h1, h2⟩, ?_⟩
  have hb : big (states : Int) = true := big_n (by omega)
  generalize hL : l__law_arrows_2 = L at e
  unfold m__law_arrows b__law_arrows
  rw [hL]
  simp [hb, R.bind, R.out, Out.seq, e]
/-! ### a row that the machine lets -/
def run (arr : Tab) : Nat → List Nat → Option Nat
  | s, [] => some s
  | s, a :: r => match go arr s a with
    | none => none
    | some g => run arr g r
theorem run_snoc {arr : Tab} {a : Nat} : ∀ {row : List Nat} {s s' : Nat}, run arr s row = some s' → run arr s (row ++ [a]) = go arr s' a
  | [], s, s', h => by
    cases h
    show (match go arr s a with
    | none => none
    | some g => run arr g []) = _
    cases go arr s a <;> rfl
  | b :: row, s, s', h => by
    unfold run at h
    show (match go arr s b with
    | none => none
    | some g => run arr g (row ++ [a])) = _
    cases e : go arr s b with
    | none => rw [e] at h; cases h
    | some g => rw [e] at h; exact run_snoc h
theorem run_lt {S kinds : Nat} {arr : Tab} (ha : TabOk S kinds S arr) : ∀ {row : List Nat} {s s' : Nat}, s < S → run arr s row = some s' → s' < S
  | [], s, s', hs, h => by cases h; exact hs
  | b :: row, s, s', hs, h => by
    unfold run at h
    cases e : go arr s b with
    | none => rw [e] at h; cases h
    | some g => rw [e] at h; exact run_lt ha (ha.go_lt hs e) h
theorem go_arg {n kinds top : Nat} {t : Tab} (h : TabOk n kinds top t) {k r : Nat} (hk : k < n) (e : (go t k r).isSome = true) : r < kinds := by
  have := (h.at_ hk).1
  unfold go at e
  generalize t.getD k [] = l at this e
  rw [List.getD_eq_getElem?_getD] at e
  by_cases q : r < l.length
  · omega
  · rw [List.getElem?_eq_none (by omega)] at e; cases e
theorem run_args {S kinds : Nat} {arr : Tab} (ha : TabOk S kinds S arr) : ∀ {row : List Nat} {s s' : Nat}, s < S → run arr s row = some s' → ∀ a ∈ row, a < kinds
  | [], s, s', hs, h => fun a h => nomatch h
  | b :: row, s, s', hs, h => by
    unfold run at h
    cases e : go arr s b with
    | none => rw [e] at h; cases h
    | some g =>
      rw [e] at h
      intro a hm
      rcases List.mem_cons.mp hm with hm | hm
      · rw [hm]; exact go_arg ha hs (by rw [e]; rfl)
      · exact run_args ha (ha.go_lt hs e) h a hm
/-- the asks that a state lets -/
def lets (arr : Tab) (kinds s : Nat) : List Nat := (List.range kinds).filter fun r => (go arr s r).isSome
theorem comp_lets {i : Nat} {kinds : Nat} {l : List (Option Nat)} {ρ : NW.Env} {c : NW.Env → R Bool} (hi : i < ρ.length) (hl : l.length = kinds) (h : ∀ k, k < kinds → c (ρ.set i (some (.int (k : Nat)))) = .ok (l.getD k none).isSome) : compD (nameG i) c (varD i) (upto 0 (kinds : Int)) ρ = .ok (nums ((List.range kinds).filter fun r => (l.getD r none).isSome)) := compN _ hi h
theorem law_row {S kinds : Nat} {arr : Tab} (ha : TabOk S kinds S arr) (hS : 0 < S) (hk : kinds ≤ 3) {ns : List Nat} (hn : ns.length ≤ 1000) : ∃ row s, run arr 0 row = some s ∧ row.length ≤ ns.length ∧ m__law_row [.lst (tabL arr), .lst (nums ns)] = .ok (.lst (nums row)) := by
  have key : ∃ row s o, (forD (nameG 4) l__law_row_3 (nums ns) [some (.lst (tabL arr)), some (.lst (nums ns)), some (.lst []), some (.int 0), none, none, none, none] = .rt (.lst (nums row)) o ∨ ∃ o2 o3 o4 o5, forD (nameG 4) l__law_row_3 (nums ns) [some (.lst (tabL arr)), some (.lst (nums ns)), some (.lst []), some (.int 0), none, none, none, none] = .nx [some (.lst (tabL arr)), some (.lst (nums ns)), some (.lst (nums row)), o2, o3, o4, none, o5]) ∧ run arr 0 row = some s ∧ row.length ≤ ns.length := by
    refine forL (i := 4) (b := l__law_row_3) (Q := fun O => ∃ row s o, (O = .rt (.lst (nums row)) o ∨ ∃ o2 o3 o4 o5, O = .nx [some (.lst (tabL arr)), some (.lst (nums ns)), some (.lst (nums row)), o2, o3, o4, none, o5]) ∧ run arr 0 row = some s ∧ row.length ≤ ns.length)
      (fun k ρ => ∃ row s o3 o4 o5, ρ = [some (.lst (tabL arr)), some (.lst (nums ns)), some (.lst (nums row)), some (.int (s : Nat)), o3, o4, none, o5] ∧ run arr 0 row = some s ∧ row.length ≤ k ∧ k ≤ ns.length) ⟨[], 0, none, none, none, rfl, rfl, Nat.le_refl _, Nat.zero_le _⟩ ?_ ?_
    · rintro k d ρ hd ⟨row, s, o3, o4, o5, rfl, hrun, hl, hl2⟩
      obtain ⟨hlt, rfl⟩ := nums_get hd
      generalize ns[k] = x
      have hs := run_lt ha hS hrun
      have hat := tabL_at (t := arr) (k := s) (by rw [ha.len]; exact hs)
      have hrow := (ha.at_ hs).1
      have hb : big (kinds : Int) = true := big_n (by omega)
      have hsz : kinds ≤ 16777216 := by omega
      have hc := comp_lets (i := 6) (ρ := [some (.lst (tabL arr)), some (.lst (nums ns)), some (.lst (nums row)), some (.int s), some (.int x), o4, none, o5]) (c := tst (NW.bin isnotD (NW.bin ixD (NW.bin ixD (varD 0) (varD 3)) (varD 6)) (cD .non))) (by simp) hrow (fun j hj => by
        have hj2 := ois_at (ys := arr.getD s []) (k := j) (by omega)
        simp [-List.getD_eq_getElem?_getD, R.bind, hat, hj2])
      have hup : (upto 0 (kinds : Int)).length ≤ 16777216 := by rw [upto_leng]; exact hsz
      by_cases hz : (lets arr kinds s).length = 0
      · refine .inr ⟨.lst (nums row), [some (.lst (tabL arr)), some (.lst (nums ns)), some (.lst (nums row)), some (.int s), some (.int x), some (.lst (nums (lets arr kinds s))), none, o5], ?_, row, s, _, .inl rfl, hrun, by omega⟩
        have hz' : lets arr kinds s = [] := List.length_eq_zero_iff.mp hz
        change compD _ _ _ _ _ = .ok (nums (lets arr kinds s)) at hc
        unfold l__law_row_3
        simp [-List.getD_eq_getElem?_getD, R.bind, R.out, Out.seq, compX, wipeE, hat, hrow, hb, hup, hc, hz']
      · change compD _ _ _ _ _ = .ok (nums (lets arr kinds s)) at hc
        have hpos : 0 < (lets arr kinds s).length := by omega
        have hlt3 : x % (lets arr kinds s).length < (lets arr kinds s).length := Nat.mod_lt _ hpos
        have ei := nums_at hlt3
        rw [Int.natCast_emod] at ei
        have hmem : (lets arr kinds s).getD (x % (lets arr kinds s).length) 0 ∈ lets arr kinds s := by
          rw [List.getD_eq_getElem?_getD, List.getElem?_eq_getElem hlt3]
          exact List.getElem_mem hlt3
        generalize hA : (lets arr kinds s).getD (x % (lets arr kinds s).length) 0 = a at ei hmem
        obtain ⟨ha1, ha2⟩ := List.mem_filter.mp hmem
        have ha1 := List.mem_range.mp ha1
        have hj2 := ois_at (ys := arr.getD s []) (k := a) (by omega)
        obtain ⟨g, hg⟩ := Option.isSome_iff_exists.mp ha2
        have hg' : (arr.getD s []).getD a none = some g := hg
        rw [hg'] at hj2
        have hrl : row.length < 16777216 := by omega
        have hz'' : ¬ ((lets arr kinds s).length : Int) = 0 := by omega
        have hz3 : (0 : Int) < ((lets arr kinds s).length : Int) := by omega
        have hz4 : lets arr kinds s ≠ [] := fun q => hz (by rw [q]; rfl)
        refine .inl ⟨[some (.lst (tabL arr)), some (.lst (nums ns)), some (.lst (nums (row ++ [a]))), some (.int g), some (.int x), some (.lst (nums (lets arr kinds s))), none, some (.int a)], ?_, row ++ [a], g, _, _, _, rfl, ?_, by simp; omega, by omega⟩
        · unfold l__law_row_3
          simp [-List.getD_eq_getElem?_getD, R.bind, R.out, Out.seq, compX, wipeE, hat, hrow, hb, hup, hc, hz'', hz3, hz4, hpos, ei, hj2, hrl]
        · rw [run_snoc hrun]; exact hg
    · rintro ρ ⟨row, s, o3, o4, o5, rfl, hrun, hl, hl2⟩
      exact ⟨row, s, [], .inr ⟨_, _, _, _, rfl⟩, hrun, by simpa using hl⟩
  obtain ⟨row, s, o, e, hrun, hl⟩ := key
  refine ⟨row, s, hrun, hl, ?_⟩
  generalize hL : l__law_row_3 = L at e
  unfold m__law_row b__law_row
  rw [hL]
  rcases e with e | ⟨o2, o3, o4, o5, e⟩
  · simp [-List.getD_eq_getElem?_getD, R.bind, R.out, Out.seq, e]
  · simp [-List.getD_eq_getElem?_getD, R.bind, R.out, Out.seq, e]
end K79.PL
end

section
set_option Elab.async false
set_option linter.all false
/-! PLe: the rules that k79 draws. -/
namespace NW
open PySem PySem.Spec L2
open PyProof.Rows hiding St
theorem atI_last {α : Type} {xs : List α} {d : α} (h : xs.getLast? = some d) : L2.atI xs (-1) = some d := by
  have hne : xs ≠ [] := fun q => by subst q; cases h
  have hl : 0 < xs.length := List.length_pos_iff.mpr hne
  unfold L2.atI L2.ixN
  rw [if_neg (by omega), if_pos (by omega)]
  show xs[_]? = _
  rw [show (-1 + (xs.length : Int)).toNat = xs.length - 1 by omega]
  rw [← List.getLast?_eq_getElem?]
  exact h
end NW
namespace K79.PL
open PySem NW
def rlL (R : Rl) : D := .lst [.lst (nums R.1), .lst (tabL R.2)]
theorem nums_getLast {xs : List Nat} (h : xs ≠ []) : ∃ x ∈ xs, (nums xs).getLast? = some (.int (x : Nat)) := by
  refine ⟨xs.getLast h, List.getLast_mem h, ?_⟩
  unfold nums
  rw [List.getLast?_map, List.getLast?_eq_some_getLast h]
  rfl
theorem law_rule_in {ns : List Nat} (hn : ns.length = 24) {size kinds begin mem k : Nat} (hm0 : 0 < mem) (hm : mem ≤ 5) (hk : kinds ≤ 3) (hkm : k < mem) (pl tb : D) (o1 o2 : Option D) : ∃ row o1' o2', forD (nameG 9) l__law_rule_5 (upto 0 (kinds : Int)) [some (.lst (nums ns)), some (.int mem), some (.int kinds), some (.int size), some (.int begin), some pl, some (.int k), some tb, some (.lst []), o1, o2] = .nx [some (.lst (nums ns)), some (.int mem), some (.int kinds), some (.int size), some (.int begin), some pl, some (.int k), some tb, some (.lst (ois row)), o1', o2'] ∧ row.length = kinds ∧ ∀ x, some x ∈ row → x < mem := by
  obtain ⟨ρ2, e, row, o1', o2', rfl, h1, h2⟩ := forN1 (i := 9) (n := kinds) (b := l__law_rule_5) (ρ := [some (.lst (nums ns)), some (.int mem), some (.int kinds), some (.int size), some (.int begin), some pl, some (.int k), some tb, some (.lst []), o1, o2])
    (fun r ρ => ∃ row o1' o2', ρ = [some (.lst (nums ns)), some (.int mem), some (.int kinds), some (.int size), some (.int begin), some pl, some (.int k), some tb, some (.lst (ois row)), o1', o2'] ∧ row.length = r ∧ ∀ x, some x ∈ row → x < mem) ⟨[], o1, o2, rfl, rfl, fun x h => nomatch h⟩ (by
    rintro r ρ hks ⟨row, o1', o2', rfl, hl, h4⟩
    have hi : mem + k * kinds + r < ns.length := by
      have := idx_lt hkm hks
      have := Nat.mul_le_mul hm hk
      omega
    have ei := nums_at hi
    rw [Int.natCast_add, Int.natCast_add, Int.natCast_mul] at ei
    have mo : mulOk (k : Int) (kinds : Int) = true := mulOk_n (by omega)
    have hrl : row.length < 16777216 := by omega
    generalize ns.getD (mem + k * kinds + r) 0 = x at ei
    by_cases hx : x % 6 = 5
    · refine ⟨[some (.lst (nums ns)), some (.int mem), some (.int kinds), some (.int size), some (.int begin), some pl, some (.int k), some tb, some (.lst (ois (row ++ [none]))), some (.int r), some (.int x)], ?_, row ++ [none], _, _, rfl, by simp [hl], ?_⟩
      · have h' : (x : Int) % 6 = 5 := by omega
        unfold l__law_rule_5
        simp [h', hrl, R.bind, R.out, Out.seq, mo, ei]
      · intro y hy
        rcases List.mem_append.mp hy with hy | hy
        · exact h4 y hy
        · cases List.mem_singleton.mp hy
    · refine ⟨[some (.lst (nums ns)), some (.int mem), some (.int kinds), some (.int size), some (.int begin), some pl, some (.int k), some tb, some (.lst (ois (row ++ [some (x / 6 % mem)]))), some (.int r), some (.int x)], ?_, row ++ [some (x / 6 % mem)], _, _, rfl, by simp [hl], ?_⟩
      · have h' : ¬ (x : Int) % 6 = 5 := by omega
        unfold l__law_rule_5
        simp [h', hrl, R.bind, R.out, Out.seq, mo, ei, hm0]
      · intro y hy
        rcases List.mem_append.mp hy with hy | hy
        · exact h4 y hy
        · cases List.mem_singleton.mp hy; exact mod_lt' hm0)
  exact ⟨row, o1', o2', e, h1, h2⟩
theorem upto_mem {lo hi : Nat} {d : D} (h : d ∈ upto (lo : Int) (hi : Int)) : ∃ k, lo ≤ k ∧ k < hi ∧ d = .int (k : Nat) := by
  unfold upto at h
  obtain ⟨k, hk, rfl⟩ := List.mem_map.mp h
  have := List.mem_range.mp hk
  exact ⟨lo + k, by omega, by omega, by simp⟩
theorem law_rule {ns : List Nat} (hn : ns.length = 24) {size kinds begin mem : Nat} (hm0 : 0 < mem) (hm : mem ≤ 5) (hk : kinds ≤ 3) (hb : begin < size) : ∃ R, RlOk kinds size R ∧ m__law_rule [.lst (nums ns), .int mem, .int kinds, .int size, .int begin] = .ok (rlL R) := by
  have hb1 : big (mem : Int) = true := big_n (by omega)
  have hb2 : big (kinds : Int) = true := big_n (by omega)
  have hb3 : big 1 = true := big_n (n := 1) (by omega)
  have hs0 : 0 < size := by omega
  have hu : (upto 1 (mem : Int)).length = mem - 1 := by
    unfold upto
    simp
  obtain ⟨ps, hps, hpl, hpb⟩ := compE (g := nameG 6) (e := NW.bin modD (callA NW.intD (consA (NW.bin ixD (varD 0) (varD 6)) nilA)) (varD 3)) (ρ := [some (.lst (nums ns)), some (.int mem), some (.int kinds), some (.int size), some (.int begin), none, none, none, none, none, none]) (b := size) (upto 1 (mem : Int)) (fun d hd => by
    obtain ⟨k, h1, h2, rfl⟩ := upto_mem (lo := 1) hd
    have ei := nums_at (xs := ns) (k := k) (by omega)
    refine ⟨_, ns.getD k 0 % size, rfl, ?_, mod_lt' hs0⟩
    generalize ns.getD k 0 = x at ei
    simp [R.bind, ei, hs0])
  rw [hu] at hpl
  obtain ⟨ρ2, e, tb, o1, o2, o3, o4, rfl, h1, h2⟩ := forN1 (i := 6) (n := mem) (b := l__law_rule_3) (ρ := [some (.lst (nums ns)), some (.int mem), some (.int kinds), some (.int size), some (.int begin), some (.lst (nums (begin :: ps))), none, some (.lst []), none, none, none])
    (fun k ρ => ∃ tb o1 o2 o3 o4, ρ = [some (.lst (nums ns)), some (.int mem), some (.int kinds), some (.int size), some (.int begin), some (.lst (nums (begin :: ps))), o1, some (.lst (tabL tb)), o2, o3, o4] ∧ tb.length = k ∧ ∀ l ∈ tb, l.length = kinds ∧ ∀ x, some x ∈ l → x < mem) ⟨[], none, none, none, none, rfl, rfl, fun l h => nomatch h⟩ (by
    rintro r ρ hr ⟨tb, o1, o2, o3, o4, rfl, hl, hm'⟩
    obtain ⟨row, o1', o2', e, h1, h2⟩ := law_rule_in hn (size := size) (begin := begin) hm0 hm hk hr (.lst (nums (begin :: ps))) (.lst (tabL tb)) o3 o4
    have hrl : tb.length < 16777216 := by omega
    refine ⟨[some (.lst (nums ns)), some (.int mem), some (.int kinds), some (.int size), some (.int begin), some (.lst (nums (begin :: ps))), some (.int r), some (.lst (tabL (tb ++ [row]))), some (.lst (ois row)), o1', o2'], ?_, tb ++ [row], _, _, _, _, rfl, by simp [hl], ?_⟩
    · generalize hL : l__law_rule_5 = L at e
      unfold l__law_rule_3
      rw [hL]
      rw [nums_cons] at e
      simp [hb2, R.bind, R.out, Out.seq, e, hrl]
    · intro l hl2
      rcases List.mem_append.mp hl2 with hl2 | hl2
      · exact hm' l hl2
      · rw [List.mem_singleton.mp hl2]; exact ⟨h1, h2⟩)
  have hlen : (begin :: ps).length = mem := by simp [hpl]; omega
  refine ⟨(begin :: ps, tb), ⟨⟨by rw [h1, hlen], ?_⟩, by simp, by rw [hlen]; omega, ?_⟩, ?_⟩
  · rw [hlen]; exact h2
  · intro p hp
    rcases List.mem_cons.mp hp with hp | hp
    · omega
    · exact hpb p hp
  · have hs1 : mem - 1 ≤ 16777216 := by omega
    have hs2 : 1 + ps.length ≤ 16777216 := by omega
    have hs3 : ps.length + 1 ≤ 16777216 := by omega
    generalize hL : l__law_rule_3 = L at e
    unfold m__law_rule b__law_rule
    rw [hL]
    rw [nums_cons] at e
    simp [hb1, hb3, R.bind, R.out, Out.seq, compX, wipeE, hu, hs1, hps, addD, hs2, hs3, e, rlL, szL]
/-! ### a rule along the run -/
theorem law_chain_step {ns row way : List Nat} (hn : ns.length = 24) (hw : way.length = row.length) (hrow : row.length ≤ 12) {kinds n k r : Nat} (hk : kinds ≤ 3) (hkn : k < n) (hn2 : row.length < n) (hn3 : n ≤ 100) (be ta la : D) (ps : List D) (hps : ps.length = n) (tb : D) (line : List (Option Nat)) (hline : line.length ≤ 10) (o2 o3 : Option D) (hrk : r < kinds) :
    ∃ goal o2' o3', l__law_chain_6 [some (.lst (nums ns)), some (.lst (nums row)), some (.lst (nums way)), some (.int kinds), some be, some ta, some la, some (.lst ps), some tb, some (.int k), some (.lst (ois line)), some (.int r), o2, o3] =
      .nx [some (.lst (nums ns)), some (.lst (nums row)), some (.lst (nums way)), some (.int kinds), some be, some ta, some la, some (.lst ps), some tb, some (.int k), some (.lst (ois (line ++ [goal]))), some (.int r), o2', o3'] ∧ ∀ x, goal = some x → x < n := by
  have hi : (k * kinds + r) % 24 < ns.length := by omega
  have ei := nums_at hi
  have ei : L2.atI (nums ns) (((k : Int) * (kinds : Int) + (r : Int)) % 24) = some (.int (ns.getD ((k * kinds + r) % 24) 0 : Nat)) := by
    simpa using ei
  have mo : mulOk (k : Int) (kinds : Int) = true := mulOk_n (by omega)
  have hl : line.length < 16777216 := by omega
  have hn0 : 0 < n := by omega
  generalize ns.getD ((k * kinds + r) % 24) 0 = x at ei
  by_cases hge : row.length ≤ k
  · have hge' : (row.length : Int) ≤ (k : Int) := by omega
    refine ⟨some (min (k + 1) (n - 1)), some (.int x), some (.int (min (k + 1) (n - 1) : Nat)), ?_, fun y hy => by cases hy; omega⟩
    have hmin : minI ((k : Int) + 1) [(n : Int) - 1] = ((min (k + 1) (n - 1) : Nat) : Int) := by
      show (if (n : Int) - 1 < (k : Int) + 1 then (n : Int) - 1 else (k : Int) + 1) = _
      split <;> omega
    generalize hg : (min (k + 1) (n - 1)) = g at hmin
    unfold l__law_chain_6
    by_cases hx : x % 6 = 5
    · have h' : (x : Int) % 6 = 5 := by omega
      simp [R.bind, R.out, Out.seq, mo, hn, ei, h', hge, hl, exD, hps, hmin]
    · have h' : ¬ (x : Int) % 6 = 5 := by omega
      simp [R.bind, R.out, Out.seq, mo, hn, ei, h', hge, hl, exD, hps, hmin, hn0]
  · have hge' : ¬ (row.length : Int) ≤ (k : Int) := by omega
    have er := nums_at (xs := row) (k := k) (by omega)
    generalize row.getD k 0 = a at er
    by_cases hra : r = a
    · subst hra
      refine ⟨some (k + 1), some (.int x), some (.int (k + 1 : Nat)), ?_, fun y hy => by cases hy; omega⟩
      unfold l__law_chain_6
      by_cases hx : x % 6 = 5
      · have h' : (x : Int) % 6 = 5 := by omega
        simp [R.bind, R.out, Out.seq, mo, hn, ei, h', hge, hl, hps, er]
      · have h' : ¬ (x : Int) % 6 = 5 := by omega
        simp [R.bind, R.out, Out.seq, mo, hn, ei, h', hge, hl, hps, er, hn0]
    · have hra' : ¬ (r : Int) = (a : Int) := by omega
      by_cases hx : x % 6 = 5
      · have h' : (x : Int) % 6 = 5 := by omega
        refine ⟨none, some (.int x), some .non, ?_, fun y hy => by cases hy⟩
        unfold l__law_chain_6
        simp [R.bind, R.out, Out.seq, mo, hn, ei, h', hge, hl, hps, er, hra']
      · have h' : ¬ (x : Int) % 6 = 5 := by omega
        refine ⟨some (x / 6 % n), some (.int x), some (.int (x / 6 % n : Nat)), ?_, fun y hy => by cases hy; exact mod_lt' hn0⟩
        unfold l__law_chain_6
        simp [R.bind, R.out, Out.seq, mo, hn, ei, h', hge, hl, hps, er, hra', hn0]
end K79.PL
end

section
set_option Elab.async false
set_option linter.all false
/-! PLf: the rules that k79 draws, 2. -/
namespace NW
open PySem PySem.Spec L2
@[simp] theorem atI_0 {α : Type} (x : α) (xs : List α) : L2.atI (x :: xs) 0 = some x := atI_nat (xs := x :: xs) (k := 0) (by simp)
@[simp] theorem atI_1 {α : Type} (x y : α) (xs : List α) : L2.atI (x :: y :: xs) 1 = some y := atI_nat (xs := x :: y :: xs) (k := 1) (by simp)
@[simp] theorem atI_2 {α : Type} (x y z : α) (xs : List α) : L2.atI (x :: y :: z :: xs) 2 = some z := atI_nat (xs := x :: y :: z :: xs) (k := 2) (by simp)
end NW
namespace K79.PL
open PySem NW
theorem fnD_run {n N : Nat} {b : NW.Env → Out} {ds : List D} (h : ds.length = n) : fnD n N b ds = outR (b (ds.map some ++ List.replicate (N - n) none)) := if_pos h
theorem law_chain_in {ns row way : List Nat} (hn : ns.length = 24) (hw : way.length = row.length) (hrow : row.length ≤ 12) {kinds n k : Nat} (hk : kinds ≤ 3) (hkn : k < n) (hn2 : row.length < n) (hn3 : n ≤ 100) (be ta la : D) (ps : List D) (hps : ps.length = n) (tb : D) (o1 o2 o3 : Option D) :
    ∃ line o1' o2' o3', forD (nameG 11) l__law_chain_6 (upto 0 (kinds : Int)) [some (.lst (nums ns)), some (.lst (nums row)), some (.lst (nums way)), some (.int kinds), some be, some ta, some la, some (.lst ps), some tb, some (.int k), some (.lst []), o1, o2, o3] =
      .nx [some (.lst (nums ns)), some (.lst (nums row)), some (.lst (nums way)), some (.int kinds), some be, some ta, some la, some (.lst ps), some tb, some (.int k), some (.lst (ois line)), o1', o2', o3'] ∧ line.length = kinds ∧ ∀ x, some x ∈ line → x < n := by
  obtain ⟨ρ2, e, line, o1', o2', o3', rfl, h1, h2⟩ := forN1 (i := 11) (n := kinds) (b := l__law_chain_6) (ρ := [some (.lst (nums ns)), some (.lst (nums row)), some (.lst (nums way)), some (.int kinds), some be, some ta, some la, some (.lst ps), some tb, some (.int k), some (.lst []), o1, o2, o3])
    (fun r ρ => ∃ line o1' o2' o3', ρ = [some (.lst (nums ns)), some (.lst (nums row)), some (.lst (nums way)), some (.int kinds), some be, some ta, some la, some (.lst ps), some tb, some (.int k), some (.lst (ois line)), o1', o2', o3'] ∧ line.length = r ∧ ∀ x, some x ∈ line → x < n) ⟨[], o1, o2, o3, rfl, rfl, fun x h => nomatch h⟩ (by
    rintro r ρ hks ⟨line, o1', o2', o3', rfl, hl, h4⟩
    obtain ⟨goal, p2, p3, e, hg⟩ := law_chain_step hn hw hrow hk hkn hn2 hn3 be ta la ps hps tb line (by omega) o2' o3' hks
    refine ⟨_, e, line ++ [goal], _, _, _, rfl, by simp [hl], fun x hx => ?_⟩
    rcases List.mem_append.mp hx with hx | hx
    · exact h4 x hx
    · exact hg x (List.mem_singleton.mp hx).symm)
  exact ⟨line, o1', o2', o3', e, h1, h2⟩
theorem law_chain {ns row way : List Nat} (hn : ns.length = 24) (hw : way.length = row.length) (hrow : row.length ≤ 12) {kinds size begin tail : Nat} (hk : kinds ≤ 3) (hwb : ∀ p ∈ way, p < size) (hb : begin < size) (ht : tail ≤ 6) :
    ∃ R, RlOk kinds size R ∧ R.1.length = row.length + 1 + tail ∧ m__law_chain [.lst (nums ns), .lst (nums row), .lst (nums way), .int kinds, .int begin, .int tail] = .ok (rlL R) := by
  obtain ⟨last, hlast, hlb⟩ : ∃ last : Nat, (setS 6 (ifD (tst (NW.bin gtD (callA lenD (consA (varD 2) nilA)) (cD (.int 0)))) (NW.bin ixD (varD 2) (un1 negD (cD (.int 1)))) (varD 4))) [some (.lst (nums ns)), some (.lst (nums row)), some (.lst (nums way)), some (.int kinds), some (.int begin), some (.int tail), none, none, none, none, none, none, none, none] = .nx [some (.lst (nums ns)), some (.lst (nums row)), some (.lst (nums way)), some (.int kinds), some (.int begin), some (.int tail), some (.int last), none, none, none, none, none, none, none] ∧ last < size := by
    by_cases h : way = []
    · subst h
      exact ⟨begin, by simp [R.bind, R.out], hb⟩
    · obtain ⟨x, h1, h2⟩ := nums_getLast h
      have h3 := atI_last h2
      have h4 : 0 < way.length := List.length_pos_iff.mpr h
      exact ⟨x, by simp [R.bind, R.out, h4, negD, h3], hwb x h1⟩
  have hb1 : big (kinds : Int) = true := big_n (by omega)
  generalize hP : begin :: way ++ List.replicate tail last = P
  have hPl : P.length = row.length + 1 + tail := by rw [← hP]; simp; omega
  have hb2 : big (P.length : Int) = true := big_n (by omega)
  obtain ⟨ρ2, e, tb, o1, o2, o3, o4, o5, rfl, h1, h2⟩ := forN1 (i := 9) (n := P.length) (b := l__law_chain_4) (ρ := [some (.lst (nums ns)), some (.lst (nums row)), some (.lst (nums way)), some (.int kinds), some (.int begin), some (.int tail), some (.int last), some (.lst (nums P)), some (.lst []), none, none, none, none, none])
    (fun k ρ => ∃ tb o1 o2 o3 o4 o5, ρ = [some (.lst (nums ns)), some (.lst (nums row)), some (.lst (nums way)), some (.int kinds), some (.int begin), some (.int tail), some (.int last), some (.lst (nums P)), some (.lst (tabL tb)), o1, o2, o3, o4, o5] ∧ tb.length = k ∧ ∀ l ∈ tb, l.length = kinds ∧ ∀ x, some x ∈ l → x < P.length) ⟨[], none, none, none, none, none, rfl, rfl, fun l h => nomatch h⟩ (by
    rintro r ρ hr ⟨tb, o1, o2, o3, o4, o5, rfl, hl, hm'⟩
    obtain ⟨line, o1', o2', o3', e, h1, h2⟩ := law_chain_in hn hw hrow hk hr (by omega) (by omega) (.int begin) (.int tail) (.int last) (nums P) (by simp) (.lst (tabL tb)) o3 o4 o5
    have hrl : tb.length < 16777216 := by omega
    refine ⟨[some (.lst (nums ns)), some (.lst (nums row)), some (.lst (nums way)), some (.int kinds), some (.int begin), some (.int tail), some (.int last), some (.lst (nums P)), some (.lst (tabL (tb ++ [line]))), some (.int r), some (.lst (ois line)), o1', o2', o3'], ?_, tb ++ [line], _, _, _, _, _, rfl, by simp [hl], ?_⟩
    · generalize hL : l__law_chain_6 = L at e
      unfold l__law_chain_4
      rw [hL]
      simp [hb1, R.bind, R.out, Out.seq, e, hrl]
    · intro l hl2
      rcases List.mem_append.mp hl2 with hl2 | hl2
      · exact hm' l hl2
      · rw [List.mem_singleton.mp hl2]; exact ⟨h1, h2⟩)
  refine ⟨(P, tb), ⟨⟨h1, h2⟩, by show 0 < P.length; omega, by show P.length ≤ 19; omega, ?_⟩, hPl, ?_⟩
  · rw [← hP]
    intro p hp
    rcases List.mem_append.mp hp with hp | hp
    · rcases List.mem_cons.mp hp with hp | hp
      · omega
      · exact hwb p hp
    · rw [List.eq_of_mem_replicate hp]; exact hlb
  · have hs : (setS 7 (NW.bin addD (NW.bin addD (lstD (consA (varD 4) nilA)) (callA listD (consA (varD 2) nilA))) (NW.bin mulD (lstD (consA (varD 6) nilA)) (varD 5)))) [some (.lst (nums ns)), some (.lst (nums row)), some (.lst (nums way)), some (.int kinds), some (.int begin), some (.int tail), some (.int last), none, none, none, none, none, none, none] = .nx [some (.lst (nums ns)), some (.lst (nums row)), some (.lst (nums way)), some (.int kinds), some (.int begin), some (.int tail), some (.int last), some (.lst (nums P)), none, none, none, none, none, none] := by
      have q1 : 1 + way.length ≤ 16777216 := by omega
      have q2 : tail ≤ 16777216 := by omega
      have q3 : (tail : Int) < 9223372036854775808 := by omega
      have q4 : (-9223372036854775808 : Int) ≤ (tail : Int) := by omega
      have q5 : (List.replicate tail [D.int (last : Int)]).flatten = nums (List.replicate tail last) := by
        simp [nums]
      have q6 : 1 + way.length + tail ≤ 16777216 := by omega
      have q7 : way.length + 1 + tail ≤ 16777216 := by omega
      rw [← hP]
      simp [R.bind, R.out, addD, mulD, listD, q1, q2, q3, q4, q5, q6, q7, szL]
    generalize hL : l__law_chain_4 = L at e
    unfold m__law_chain b__law_chain
    rw [hL]
    rw [fnD_run (by rfl)]
    show outR (Out.seq (setS 6 _ [some (.lst (nums ns)), some (.lst (nums row)), some (.lst (nums way)), some (.int kinds), some (.int begin), some (.int tail), none, none, none, none, none, none, none, none]) _) = _
    rw [hlast]
    show outR (Out.seq (setS 7 _ _) _) = _
    rw [hs]
    simp [hb2, R.bind, R.out, Out.seq, e, rlL, szL]
theorem law_bent {kinds size : Nat} (hk0 : 0 < kinds) (hk : kinds ≤ 3) (hs : 0 < size) {R : Rl} (h : RlOk kinds size R) {a : Nat} (ha : a < R.1.length) : ∃ R', RlOk kinds size R' ∧ m__law_bent [rlL R, .int a, .int size] = .ok (rlL R') := by
  have hc : ∀ d2 : D, compD (nameG 5) yesB (callA listD (consA (varD 5) nilA)) (tabL R.2) [some (.lst [.lst (nums R.1), .lst (tabL R.2)]), some (.int a), some d2, some (.lst (nums R.1)), none, none] = .ok (tabL R.2) := by
    intro d2
    rw [compM id (tabL R.2) fun d hd => ?_]
    · simp
    · obtain ⟨l, _, rfl⟩ := tabL_mem hd
      simp [NW.R.bind, listD]
  have ht := h.top
  have htl := h.tab.len
  have hsz : R.2.length ≤ 16777216 := by omega
  have hset := ixN_nat (n := R.1.length) (k := a) ha
  by_cases h1 : size = 1
  · subst h1
    have hl := h.tab.at_ ha
    have hat := tabL_at (t := R.2) (k := a) (by omega)
    have hset2 := ixN_nat (n := R.2.length) (k := a) (by omega)
    have q5 : (List.replicate kinds [D.non]).flatten = ois (List.replicate kinds none) := by
      simp [ois, oi]
    have q2 : kinds ≤ 16777216 := by omega
    have q3 : (kinds : Int) < 9223372036854775808 := by omega
    have q4 : (-9223372036854775808 : Int) ≤ (kinds : Int) := by omega
    refine ⟨(R.1, R.2.set a (List.replicate kinds none)), ⟨⟨by simp [htl], ?_⟩, h.pos, h.top, h.pl⟩, ?_⟩
    · intro l hl'
      rcases List.mem_or_eq_of_mem_set hl' with hl' | hl'
      · exact h.tab.row l hl'
      · subst hl'
        exact ⟨by simp, fun x hx => by cases List.eq_of_mem_replicate hx⟩
    · unfold m__law_bent b__law_bent
      simp [-List.getD_eq_getElem?_getD, NW.R.bind, NW.R.out, Out.seq, rlL, szL, compX, wipeE, listD, hc, hsz, asgS, subG, hat, hset2, hl.1, mulD, q5, q2, q3, q4]
  · have hat := nums_at (xs := R.1) (k := a) ha
    have hgt : (1 : Int) < (size : Int) := by omega
    generalize R.1.getD a 0 = x at hat
    refine ⟨(R.1.set a ((x + 1) % size), R.2), ⟨⟨by simp [htl], ?_⟩, by simp; exact h.pos, by simp; exact h.top, ?_⟩, ?_⟩
    · simp; exact h.tab.row
    · intro p hp
      rcases List.mem_or_eq_of_mem_set hp with hp | hp
      · exact h.pl p hp
      · subst hp; exact mod_lt' hs
    · unfold m__law_bent b__law_bent
      simp [NW.R.bind, NW.R.out, Out.seq, rlL, szL, compX, wipeE, listD, hc, hsz, asgS, subG, hat, hset, hgt, hs]
structure RulesOk (kinds size : Nat) (Rs : List Rl) : Prop where
  len : Rs.length = 6
  ok : ∀ R ∈ Rs, RlOk kinds size R
theorem law_rules {ns row way : List Nat} (hn : ns.length = 24) (hw : way.length = row.length) (hrow : row.length ≤ 12) {kinds size begin tail : Nat} (hk0 : 0 < kinds) (hk : kinds ≤ 3) (hwb : ∀ p ∈ way, p < size) (hb : begin < size) (ht : tail ≤ 6) :
    ∃ Rs, RulesOk kinds size Rs ∧ m__law_rules [.lst (nums ns), .lst (nums row), .lst (nums way), .int kinds, .int size, .int begin, .int tail] = .ok (.lst (Rs.map rlL)) := by
  have hs : 0 < size := by omega
  obtain ⟨R1, ok1, l1, e1⟩ := law_chain (tail := 0) hn hw hrow hk hwb hb (by omega)
  obtain ⟨R4, ok4, l4, e4⟩ := law_chain hn hw hrow hk hwb hb ht
  have ei := nums_at (xs := ns) (k := 0) (by omega)
  generalize ns.getD 0 0 = x at ei
  obtain ⟨R0, ok0, e0⟩ := law_rule (mem := 1 + x % 5) hn (by omega) (by omega) hk hb
  obtain ⟨R2, ok2, e2⟩ := law_bent hk0 hk hs ok1 (a := row.length) (by omega)
  obtain ⟨R3, ok3, e3⟩ := law_bent hk0 hk hs ok1 (a := 0) (by omega)
  obtain ⟨R5, ok5, e5⟩ := law_bent hk0 hk hs ok4 (a := row.length + tail) (by omega)
  refine ⟨[R0, R1, R2, R3, R4, R5], ⟨rfl, ?_⟩, ?_⟩
  · intro R hR
    simp at hR
    rcases hR with rfl | rfl | rfl | rfl | rfl | rfl <;> assumption
  · have ei' : L2.atI (nums ns) 0 = some (.int x) := ei
    have e0' : m__law_rule [.lst (nums ns), .int (1 + (x : Int) % 5), .int kinds, .int size, .int begin] = .ok (rlL R0) := by
      have := e0
      rwa [Int.natCast_add, Int.natCast_emod] at this
    have e5' : m__law_bent [rlL R4, .int ((row.length : Int) + (tail : Int)), .int size] = .ok (rlL R5) := by
      have := e5
      rwa [Int.natCast_add] at this
    have e1' : m__law_chain [.lst (nums ns), .lst (nums row), .lst (nums way), .int kinds, .int begin, .int 0] = .ok (rlL R1) := e1
    have e3' : m__law_bent [rlL R1, .int 0, .int size] = .ok (rlL R3) := e3
    unfold m__law_rules b__law_rules
    simp [R.bind, R.out, Out.seq, e1', e4, ei', e0', e2, e3', e5', szL]
end K79.PL
end

section
set_option Elab.async false
set_option linter.all false
/-! PLg: the constructors of k79. -/
namespace K79.PL
open PySem NW
def tsome (l : List (Option Nat)) : Prop := ∀ x, some x ∈ l → x ≤ 99
/-! ### rules -/
theorem good_memory {p kinds mem : Nat} {l : List (Option Nat)} (hp : p < 6) (hl : l.length = kinds) (hm : ∀ x, some x ∈ l → x < mem) : m_good_memory [.int p, .lst (ois l), .int kinds, .int mem] = .ok (.bl true) := by
  obtain ⟨ρ2, e, o, rfl⟩ := forL1 (i := 4) (b := l_good_memory_3) (ds := ois l) (ρ := [some (.int p), some (.lst (ois l)), some (.int kinds), some (.int mem), none])
    (fun k ρ => ∃ o, ρ = [some (.int p), some (.lst (ois l)), some (.int kinds), some (.int mem), o]) ⟨none, rfl⟩ (by
    rintro k d ρ hd ⟨o, rfl⟩
    obtain ⟨x, hx, rfl⟩ := ois_mem (List.mem_of_getElem? hd)
    refine ⟨_, ?_, some (oi x), rfl⟩
    unfold l_good_memory_3
    cases x with
    | none => simp [R.bind, R.out, Out.seq]
    | some y =>
      have h1 : (y : Int) < (mem : Int) := by have := hm y hx; omega
      simp [R.bind, R.out, Out.seq, h1])
  have h1 : (p : Int) < 6 := by omega
  generalize hL : l_good_memory_3 = L at e
  unfold m_good_memory b_good_memory
  rw [hL]
  simp [R.bind, R.out, Out.seq, h1, hl, e]
def rlO (R : Rl) : D := .obj 12 [.tup (nums R.1), .tup (tabT R.2)]
theorem check_rule {kinds size : Nat} (hk0 : 0 < kinds) (hk : kinds ≤ 8) (hs : size ≤ 3) {R : Rl} (h : RlOk kinds size R) : m_check_rule [.lst (nums R.1), .lst (tabL R.2)] = .ok .non := by
  have htl := h.tab.len
  have hpos := h.pos
  have htop := h.top
  have hb : big (R.1.length : Int) = true := big_n (by omega)
  obtain ⟨ρ2, e, o, rfl⟩ := forN1 (i := 4) (n := R.1.length) (b := l_check_rule_7) (ρ := [some (.lst (nums R.1)), some (.lst (tabL R.2)), some (.int (R.1.length : Nat)), some (.int kinds), none])
    (fun k ρ => ∃ o, ρ = [some (.lst (nums R.1)), some (.lst (tabL R.2)), some (.int (R.1.length : Nat)), some (.int kinds), o]) ⟨none, rfl⟩ (by
    rintro k ρ hk ⟨o, rfl⟩
    refine ⟨_, ?_, some (.int k), rfl⟩
    have hat := tabL_at (t := R.2) (k := k) (by omega)
    have hap := nums_at (xs := R.1) (k := k) hk
    have hl := h.tab.at_ hk
    have hpl := h.pl (R.1.getD k 0) (by
      rw [List.getD_eq_getElem?_getD, List.getElem?_eq_getElem hk]
      exact List.getElem_mem hk)
    have hg := good_memory (p := R.1.getD k 0) (by omega) hl.1 hl.2
    generalize R.1.getD k 0 = pp at *
    unfold l_check_rule_7
    simp [-List.getD_eq_getElem?_getD, NW.R.bind, NW.R.out, Out.seq, hat, hap, hg])
  have hat := tabL_at (t := R.2) (k := 0) (by omega)
  have hat : L2.atI (tabL R.2) 0 = _ := hat
  have hl := h.tab.at_ hpos
  have c1 : ¬ ((R.1.length : Int) < 1) := by omega
  have c2 : ¬ ((400 : Int) < (R.1.length : Int)) := by omega
  have c3 : ¬ ((kinds : Int) < 1) := by omega
  have c4 : ¬ ((8 : Int) < (kinds : Int)) := by omega
  generalize hL : l_check_rule_7 = L at e
  unfold m_check_rule b_check_rule
  rw [hL]
  simp [-List.getD_eq_getElem?_getD, NW.R.bind, NW.R.out, Out.seq, c1, c2, c3, c4, hat, hl.1, hb, htl, e]
theorem comp_tup {i N : Nat} (t : Tab) {ρ : NW.Env} (hi : i < ρ.length) : compD (nameG i) yesB (callA tupleD (consA (varD i) nilA)) (tabL t) ρ = .ok (tabT t) := by
  rw [compM (fun d => match d with
    | .lst l => .tup l
    | _ => d) (tabL t) fun d hd => ?_]
  · simp [tabL, tabT]
  · obtain ⟨l, _, rfl⟩ := tabL_mem hd
    have := e_get (ρ := ρ.set i (some (.lst (ois l)))) (i := i) (d := .lst (ois l)) (by simp [hi])
    simp [R.bind, this, tupleD]
theorem Rule_init4 {kinds size : Nat} (hk0 : 0 < kinds) (hk : kinds ≤ 8) (hs : size ≤ 3) {R : Rl} (h : RlOk kinds size R) : mkR (m_Rule_init (.obj 12 []) [.lst (nums R.1), .lst (tabL R.2)]) = .ok (rlO R) := by
  have hc := check_rule hk0 hk hs h
  have htl := h.tab.len
  have htop := h.top
  have hs2 : R.2.length ≤ 16777216 := by omega
  have hcm := comp_tup (i := 3) (N := 4) R.2 (ρ := [some (.obj 12 [.tup (nums R.1)]), some (.lst (nums R.1)), some (.lst (tabL R.2)), none]) (by simp)
  unfold m_Rule_init fnM b_Rule_init
  simp [NW.R.bind, NW.R.out, Out.seq, hc, asgS, attrG, tupleD, compX, wipeE, hs2, hcm, outM, self0, mkR, rlO]
theorem Rule_init {kinds size : Nat} (hk0 : 0 < kinds) (hk : kinds ≤ 3) (hs : size ≤ 3) {R : Rl} (h : RlOk kinds size R) : mkR (m_Rule_init (.obj 12 []) [.lst (nums R.1), .lst (tabL R.2)]) = .ok (rlO R) := Rule_init4 hk0 (by omega) hs h
/-! ### machines -/
def machD (arr : Tab) : D := .obj 11 [.tup (tabT arr)]
theorem check_arrows {states kinds : Nat} (hs0 : 0 < states) (hs : states ≤ 3) (hk0 : 0 < kinds) (hk : kinds ≤ 3) {arr : Tab} (h : TabOk states kinds states arr) : m_check_arrows [.lst (tabL arr)] = .ok .non := by
  have hlen := h.len
  have hb : big (arr.length : Int) = true := big_n (by omega)
  obtain ⟨ρ2, e, o, o2, rfl⟩ := forN1 (i := 2) (n := arr.length) (b := l_check_arrows_6) (ρ := [some (.lst (tabL arr)), some (.int kinds), none, none])
    (fun k ρ => ∃ o o2, ρ = [some (.lst (tabL arr)), some (.int kinds), o, o2]) ⟨none, none, rfl⟩ (by
    rintro k ρ hk ⟨o, o2, rfl⟩
    have hat := tabL_at (t := arr) (k := k) (by omega)
    have hl := h.at_ (k := k) (by omega)
    generalize arr.getD k [] = l at hat hl
    obtain ⟨ρ2, e, o3, rfl⟩ := forL1 (i := 3) (b := l_check_arrows_9) (ds := ois l) (ρ := [some (.lst (tabL arr)), some (.int kinds), some (.int k), o2])
      (fun k' ρ => ∃ o, ρ = [some (.lst (tabL arr)), some (.int kinds), some (.int k), o]) ⟨o2, rfl⟩ (by
      rintro k' d ρ hd ⟨o, rfl⟩
      obtain ⟨x, hx, rfl⟩ := ois_mem (List.mem_of_getElem? hd)
      refine ⟨_, ?_, some (oi x), rfl⟩
      unfold l_check_arrows_9
      cases x with
      | none => simp [R.bind, R.out, Out.seq]
      | some y =>
        have h1 : (y : Int) < (arr.length : Int) := by have := hl.2 y hx; omega
        simp [R.bind, R.out, Out.seq, h1])
    refine ⟨_, ?_, some (.int k), o3, rfl⟩
    generalize hL : l_check_arrows_9 = L at e
    unfold l_check_arrows_6
    rw [hL]
    simp [R.bind, R.out, Out.seq, hat, hl.1, e])
  have hat := tabL_at (t := arr) (k := 0) (by omega)
  have hat : L2.atI (tabL arr) 0 = _ := hat
  have hl := h.at_ (k := 0) hs0
  generalize arr.getD 0 [] = l at hat hl
  have c1 : ¬ ((arr.length : Int) < 1) := by omega
  have c2 : ¬ ((40 : Int) < (arr.length : Int)) := by omega
  have c3 : ¬ ((kinds : Int) < 1) := by omega
  have c4 : ¬ ((8 : Int) < (kinds : Int)) := by omega
  generalize hL : l_check_arrows_6 = L at e
  unfold m_check_arrows b_check_arrows
  rw [hL]
  simp [NW.R.bind, NW.R.out, Out.seq, c1, c2, c3, c4, hat, hl.1, hb, e]
theorem Machine_init {states kinds : Nat} (hs0 : 0 < states) (hs : states ≤ 3) (hk0 : 0 < kinds) (hk : kinds ≤ 3) {arr : Tab} (h : TabOk states kinds states arr) : mkR (m_Machine_init (.obj 11 []) [.lst (tabL arr)]) = .ok (machD arr) := by
  have hc := check_arrows hs0 hs hk0 hk h
  have hlen := h.len
  have hs2 : arr.length ≤ 16777216 := by omega
  have hcm := comp_tup (i := 2) (N := 3) arr (ρ := [some (.obj 11 []), some (.lst (tabL arr)), none]) (by simp)
  unfold m_Machine_init fnM b_Machine_init
  simp [NW.R.bind, NW.R.out, Out.seq, hc, asgS, attrG, tupleD, compX, wipeE, hs2, hcm, outM, self0, mkR, machD]
end K79.PL
end

section
set_option Elab.async false
set_option linter.all false
/-! PLh: systems, worlds, the begin of a run. -/
namespace K79.PL
open PySem NW
def mvT (mv : List (List Nat)) : List D := mv.map fun l => .tup (nums l)
@[simp] theorem mvL_len (mv : List (List Nat)) : (mvL mv).length = mv.length := by simp [mvL]
@[simp] theorem mvT_len (mv : List (List Nat)) : (mvT mv).length = mv.length := by simp [mvT]
theorem mvL_at {t : List (List Nat)} {k : Nat} (h : k < t.length) : L2.atI (mvL t) (k : Int) = some (.lst (nums (t.getD k []))) := by
  rw [atI_nat (by simpa using h)]
  simp [mvL, h]
theorem mvT_at {t : List (List Nat)} {k : Nat} (h : k < t.length) : L2.atI (mvT t) (k : Int) = some (.tup (nums (t.getD k []))) := by
  rw [atI_nat (by simpa using h)]
  simp [mvT, h]
theorem mvL_mem {t : List (List Nat)} {d : D} (h : d ∈ mvL t) : ∃ l ∈ t, d = .lst (nums l) := by
  obtain ⟨x, h1, h2⟩ := List.mem_map.mp h
  exact ⟨x, h1, h2.symm⟩
theorem is_cost_n {x : Nat} (h : x ≤ 99) : m_is_cost [.int x] = .ok (.bl true) := by
  have h1 : (x : Int) ≤ 99 := by omega
  unfold m_is_cost b_is_cost
  simp [R.bind, R.out, h1]
theorem check_moves {size : Nat} (hs0 : 0 < size) (hs : size ≤ 3) {mv : List (List Nat)} (h : MvOk size mv) : m_check_moves [.lst (mvL mv)] = .ok .non := by
  have hlen := h.len
  subst hlen
  have hb : big (mv.length : Int) = true := big_n (by omega)
  obtain ⟨ρ2, e, o1, o2, o3, rfl⟩ := forN1 (i := 2) (n := mv.length) (b := l_check_moves_4) (ρ := [some (.lst (mvL mv)), some (.int (mv.length : Nat)), none, none, none])
    (fun k ρ => ∃ o1 o2 o3, ρ = [some (.lst (mvL mv)), some (.int (mv.length : Nat)), o1, o2, o3]) ⟨none, none, none, rfl⟩ (by
    rintro k ρ hk ⟨o1, o2, o3, rfl⟩
    have hat := mvL_at (t := mv) (k := k) (by omega)
    have hl := h.row k (by omega)
    generalize mv.getD k [] = l at hat hl
    have hz := nums_at (xs := l) (k := k) (by omega)
    rw [hl.2.2] at hz
    obtain ⟨ρ2, e, o4, rfl⟩ := forL1 (i := 4) (b := l_check_moves_8) (ds := nums l) (ρ := [some (.lst (mvL mv)), some (.int (mv.length : Nat)), some (.int k), some (.lst (nums l)), o3])
      (fun k' ρ => ∃ o, ρ = [some (.lst (mvL mv)), some (.int (mv.length : Nat)), some (.int k), some (.lst (nums l)), o]) ⟨o3, rfl⟩ (by
      rintro k' d ρ hd ⟨o, rfl⟩
      obtain ⟨x, hx, rfl⟩ := nums_mem (List.mem_of_getElem? hd)
      refine ⟨_, ?_, some (.int x), rfl⟩
      have hc := is_cost_n (x := x) (by have := hl.2.1 x hx; omega)
      unfold l_check_moves_8
      simp [R.bind, R.out, Out.seq, hc])
    refine ⟨_, ?_, some (.int k), some (.lst (nums l)), o4, rfl⟩
    generalize hL : l_check_moves_8 = L at e
    unfold l_check_moves_4
    rw [hL]
    have hz : L2.atI (nums l) (k : Int) = some (.int 0) := hz
    simp [R.bind, R.out, Out.seq, hat, hl.1, e, hz])
  have c1 : ¬ ((mv.length : Int) < 1) := by omega
  have c2 : ¬ ((6 : Int) < (mv.length : Int)) := by omega
  generalize hL : l_check_moves_4 = L at e
  unfold m_check_moves b_check_moves
  rw [hL]
  simp [R.bind, R.out, Out.seq, c1, c2, hb, e]
theorem check_asks_in {size : Nat} {l : List (Option Nat)} (hl : AkRow size l) (a b c : D) (o : Option D) : ∃ o' n, forD (nameG 5) l_check_asks_8 (ois l) [some a, some b, some c, some (.lst (ois l)), some (.int 0), o] = .nx [some a, some b, some c, some (.lst (ois l)), some (.int (n : Nat)), o'] ∧ 0 < n := by
  obtain ⟨ρ2, e, o', n, rfl, hn⟩ := forL1 (i := 5) (b := l_check_asks_8) (ds := ois l) (ρ := [some a, some b, some c, some (.lst (ois l)), some (.int 0), o])
    (fun k ρ => ∃ o' n, ρ = [some a, some b, some c, some (.lst (ois l)), some (.int (n : Nat)), o'] ∧ ∀ p, p < k → (l.getD p none).isSome = true → 0 < n) ⟨o, 0, rfl, fun p h => absurd h (by omega)⟩ (by
    rintro k d ρ hd ⟨o', n, rfl, hn⟩
    obtain ⟨h1, h2⟩ := List.getElem?_eq_some_iff.mp hd
    have h1 : k < l.length := by simpa using h1
    have hx : d = oi (l.getD k none) := by
      rw [← h2, List.getD_eq_getElem?_getD, List.getElem?_eq_getElem h1]
      simp [ois]
    have hm : l.getD k none ∈ l := by
      rw [List.getD_eq_getElem?_getD, List.getElem?_eq_getElem h1]
      exact List.getElem_mem h1
    cases hv : l.getD k none with
    | none =>
      rw [hv] at hx
      subst hx
      refine ⟨_, by unfold l_check_asks_8; simp [R.bind, R.out, Out.seq]; rfl, _, n, rfl, fun p hp hs => ?_⟩
      by_cases hq : p = k
      · subst hq; rw [hv] at hs; cases hs
      · exact hn p (by omega) hs
    | some x =>
      rw [hv] at hx hm
      subst hx
      have hc := is_cost_n (x := x) (by have := hl.top x hm; omega)
      refine ⟨[some a, some b, some c, some (.lst (ois l)), some (.int (n + 1 : Nat)), some (.int x)], ?_, _, n + 1, rfl, fun p hp hs => by omega⟩
      unfold l_check_asks_8
      simp [R.bind, R.out, Out.seq, augI, hc])
  obtain ⟨p, hp, hs⟩ := hl.one
  exact ⟨o', n, e, hn p (by rw [ois_len, hl.len]; exact hp) hs⟩
theorem check_asks {size kinds : Nat} (hk0 : 0 < kinds) (hk : kinds ≤ 3) {ak : Tab} (hl : ak.length = kinds) (h : ∀ l ∈ ak, AkRow size l) : m_check_asks [.lst (tabL ak), .int size] = .ok .non := by
  subst hl
  have hb : big (ak.length : Int) = true := big_n (by omega)
  obtain ⟨ρ2, e, o1, o2, o3, o4, rfl⟩ := forN1 (i := 2) (n := ak.length) (b := l_check_asks_3) (ρ := [some (.lst (tabL ak)), some (.int size), none, none, none, none])
    (fun k ρ => ∃ o1 o2 o3 o4, ρ = [some (.lst (tabL ak)), some (.int size), o1, o2, o3, o4]) ⟨none, none, none, none, rfl⟩ (by
    rintro k ρ hk ⟨o1, o2, o3, o4, rfl⟩
    have hat := tabL_at (t := ak) (k := k) hk
    have hr := h (ak.getD k []) (by
      rw [List.getD_eq_getElem?_getD, List.getElem?_eq_getElem hk]
      exact List.getElem_mem hk)
    generalize ak.getD k [] = l at hat hr
    obtain ⟨o', n, e, hn⟩ := check_asks_in hr (.lst (tabL ak)) (.int size) (.int k) o4
    refine ⟨_, ?_, some (.int k), some (.lst (ois l)), some (.int (n : Nat)), o', rfl⟩
    have hn' : ¬ n = 0 := by omega
    generalize hL : l_check_asks_8 = L at e
    unfold l_check_asks_3
    rw [hL]
    simp [R.bind, R.out, Out.seq, hat, hr.len, e, hn'])
  have c1 : ¬ ((ak.length : Int) < 1) := by omega
  have c2 : ¬ ((8 : Int) < (ak.length : Int)) := by omega
  generalize hL : l_check_asks_3 = L at e
  unfold m_check_asks b_check_asks
  rw [hL]
  simp [R.bind, R.out, Out.seq, c1, c2, hb, e]
/-! ### the closed moving costs -/
structure SqOk (size : Nat) (ls : List (List Nat)) : Prop where
  len : ls.length = size
  row : ∀ l ∈ ls, l.length = size
theorem SqOk.at_ {size : Nat} {ls : List (List Nat)} (h : SqOk size ls) {k : Nat} (hk : k < size) : (ls.getD k []).length = size := by
  have h1 : k < ls.length := by rw [h.len]; exact hk
  refine h.row _ ?_
  rw [List.getD_eq_getElem?_getD, List.getElem?_eq_getElem h1]
  exact List.getElem_mem h1
@[simp] theorem e_ixO (x : List D) (i : Int) : ixO (.lst x) (.int i) = opt (L2.atI x i) := rfl
theorem mvL_get {t : List (List Nat)} {k : Nat} (h : k < t.length) : (mvL t)[k]? = some (.lst (nums (t.getD k []))) := by
  simp [mvL, h]
theorem SqOk.set {size : Nat} {ls : List (List Nat)} (h : SqOk size ls) {s : Nat} {l : List Nat} (hl : l.length = size) : SqOk size (ls.set s l) := ⟨by simp [h.len], fun x hx => by
  rcases List.mem_or_eq_of_mem_set hx with hx | hx
  · exact h.row x hx
  · rw [hx]; exact hl⟩
theorem mvL_set (ls : List (List Nat)) (k : Nat) (l : List Nat) : mvL (ls.set k l) = (mvL ls).set k (.lst (nums l)) := by simp [mvL, List.map_set]
def eCl (mv : D) (size : Nat) (ls : List (List Nat)) (o : Option D) : NW.Env := [some mv, some (.int size), some (.lst (mvL ls)), none]
theorem closed5 {size : Nat} {ls : List (List Nat)} (h : SqOk size ls) {w s g : Nat} (hw : w < size) (hs : s < size) (hg : g < size) (mv : D) (o3 o : Option D) : ∃ ls' o', l_closed_5 [some mv, some (.int size), some (.lst (mvL ls)), o3, some (.int w), some (.int s), some (.int g), o] = .nx [some mv, some (.int size), some (.lst (mvL ls')), o3, some (.int w), some (.int s), some (.int g), o'] ∧ SqOk size ls' := by
  have hl := h.len
  have as := mvL_at (t := ls) (k := s) (by omega)
  have aw := mvL_at (t := ls) (k := w) (by omega)
  have ls1 := h.at_ hs
  have lw1 := h.at_ hw
  have gs := mvL_get (t := ls) (k := s) (by omega)
  have i1 := ixN_nat (n := (mvL ls).length) (k := s) (by rw [mvL_len]; omega)
  rw [mvL_len] at i1
  generalize ls.getD s [] = x at as gs ls1
  generalize ls.getD w [] = y at aw lw1
  have i2 := ixN_nat (n := x.length) (k := g) (by omega)
  have a1 := nums_at (xs := x) (k := w) (by omega)
  have a2 := nums_at (xs := y) (k := g) (by omega)
  have a3 := nums_at (xs := x) (k := g) (by omega)
  generalize x.getD w 0 = u at a1
  generalize y.getD g 0 = v at a2
  generalize x.getD g 0 = z at a3
  by_cases hlt : (u : Int) + (v : Int) < (z : Int)
  · refine ⟨ls.set s (x.set g (u + v)), some (.int (u + v : Nat)), ?_, h.set (by simp [ls1])⟩
    unfold l_closed_5
    simp [R.bind, R.out, Out.seq, as, aw, a1, a2, a3, hlt, asgS, sub2G, i1, gs, i2, mvL_set]
  · refine ⟨ls, some (.int (u + v : Nat)), ?_, h⟩
    unfold l_closed_5
    simp [R.bind, R.out, Out.seq, as, aw, a1, a2, a3, hlt]
theorem closed4 {size : Nat} (hz : size ≤ 3) {ls : List (List Nat)} (h : SqOk size ls) {w s : Nat} (hw : w < size) (hs : s < size) (mv : D) (o3 o1 o2 : Option D) : ∃ ls' o1' o2', l_closed_4 [some mv, some (.int size), some (.lst (mvL ls)), o3, some (.int w), some (.int s), o1, o2] = .nx [some mv, some (.int size), some (.lst (mvL ls')), o3, some (.int w), some (.int s), o1', o2'] ∧ SqOk size ls' := by
  have hb : big (size : Int) = true := big_n (by omega)
  obtain ⟨ρ2, e, ls', o1', o2', rfl, h'⟩ := forN1 (i := 6) (n := size) (b := l_closed_5) (ρ := [some mv, some (.int size), some (.lst (mvL ls)), o3, some (.int w), some (.int s), o1, o2])
    (fun k ρ => ∃ ls' o1' o2', ρ = [some mv, some (.int size), some (.lst (mvL ls')), o3, some (.int w), some (.int s), o1', o2'] ∧ SqOk size ls') ⟨ls, o1, o2, rfl, h⟩ (by
    rintro k ρ hk ⟨ls', o1', o2', rfl, h'⟩
    obtain ⟨ls2, o3, e, h2⟩ := closed5 h' hw hs hk mv o3 o2'
    exact ⟨_, e, ls2, _, _, rfl, h2⟩)
  refine ⟨ls', o1', o2', ?_, h'⟩
  generalize hL : l_closed_5 = L at e
  unfold l_closed_4
  rw [hL]
  simp [R.bind, R.out, Out.seq, hb, e]
theorem closed3 {size : Nat} (hz : size ≤ 3) {ls : List (List Nat)} (h : SqOk size ls) {w : Nat} (hw : w < size) (mv : D) (o3 o0 o1 o2 : Option D) : ∃ ls' o0' o1' o2', l_closed_3 [some mv, some (.int size), some (.lst (mvL ls)), o3, some (.int w), o0, o1, o2] = .nx [some mv, some (.int size), some (.lst (mvL ls')), o3, some (.int w), o0', o1', o2'] ∧ SqOk size ls' := by
  have hb : big (size : Int) = true := big_n (by omega)
  obtain ⟨ρ2, e, ls', o0', o1', o2', rfl, h'⟩ := forN1 (i := 5) (n := size) (b := l_closed_4) (ρ := [some mv, some (.int size), some (.lst (mvL ls)), o3, some (.int w), o0, o1, o2])
    (fun k ρ => ∃ ls' o0' o1' o2', ρ = [some mv, some (.int size), some (.lst (mvL ls')), o3, some (.int w), o0', o1', o2'] ∧ SqOk size ls') ⟨ls, o0, o1, o2, rfl, h⟩ (by
    rintro k ρ hk ⟨ls', o0', o1', o2', rfl, h'⟩
    obtain ⟨ls2, p1, p2, e, h2⟩ := closed4 hz h' hw hk mv o3 o1' o2'
    exact ⟨_, e, ls2, _, _, _, rfl, h2⟩)
  refine ⟨ls', o0', o1', o2', ?_, h'⟩
  generalize hL : l_closed_4 = L at e
  unfold l_closed_3
  rw [hL]
  simp [R.bind, R.out, Out.seq, hb, e]
theorem comp_mvT {i : Nat} (t : List (List Nat)) {ρ : NW.Env} (hi : i < ρ.length) : compD (nameG i) yesB (callA tupleD (consA (varD i) nilA)) (mvL t) ρ = .ok (mvT t) := by
  rw [compM (fun d => match d with
    | .lst l => .tup l
    | _ => d) (mvL t) fun d hd => ?_]
  · simp [mvL, mvT]
  · obtain ⟨l, _, rfl⟩ := mvL_mem hd
    have := e_get (ρ := ρ.set i (some (.lst (nums l)))) (i := i) (d := .lst (nums l)) (by simp [hi])
    simp [R.bind, this, tupleD]
theorem comp_mvL {i : Nat} (t : List (List Nat)) {ρ : NW.Env} (hi : i < ρ.length) : compD (nameG i) yesB (callA listD (consA (varD i) nilA)) (mvL t) ρ = .ok (mvL t) := by
  rw [compM id (mvL t) fun d hd => ?_]
  · simp
  · obtain ⟨l, _, rfl⟩ := mvL_mem hd
    have := e_get (ρ := ρ.set i (some (.lst (nums l)))) (i := i) (d := .lst (nums l)) (by simp [hi])
    simp [R.bind, this, listD]
theorem comp_tabL {i : Nat} (t : Tab) {ρ : NW.Env} (hi : i < ρ.length) : compD (nameG i) yesB (callA listD (consA (varD i) nilA)) (tabL t) ρ = .ok (tabL t) := by
  rw [compM id (tabL t) fun d hd => ?_]
  · simp
  · obtain ⟨l, _, rfl⟩ := tabL_mem hd
    have := e_get (ρ := ρ.set i (some (.lst (ois l)))) (i := i) (d := .lst (ois l)) (by simp [hi])
    simp [R.bind, this, listD]
theorem closed {size : Nat} (hz : size ≤ 3) {mv : List (List Nat)} (h : SqOk size mv) : ∃ cl, SqOk size cl ∧ m_closed [.lst (mvL mv)] = .ok (.tup (mvT cl)) := by
  have hl := h.len
  have hb : big (mv.length : Int) = true := big_n (by omega)
  obtain ⟨ρ2, e, ls, o1, o2, o3, o4, rfl, h'⟩ := forN1 (i := 4) (n := mv.length) (b := l_closed_3) (ρ := [some (.lst (mvL mv)), some (.int (mv.length : Nat)), some (.lst (mvL mv)), none, none, none, none, none])
    (fun k ρ => ∃ ls' o1 o2 o3 o4, ρ = [some (.lst (mvL mv)), some (.int (mv.length : Nat)), some (.lst (mvL ls')), none, o1, o2, o3, o4] ∧ SqOk mv.length ls') ⟨mv, none, none, none, none, rfl, by rw [hl]; exact h⟩ (by
    rintro k ρ hk ⟨ls', o1, o2, o3, o4, rfl, h'⟩
    obtain ⟨ls2, p1, p2, p3, e, h2⟩ := closed3 (by omega) h' hk (.lst (mvL mv)) none o2 o3 o4
    exact ⟨_, e, ls2, _, _, _, _, rfl, h2⟩)
  refine ⟨ls, by rw [← hl]; exact h', ?_⟩
  have h1 := h'.len
  have hs1 : mv.length ≤ 16777216 := by omega
  have hs2 : ls.length ≤ 16777216 := by omega
  have c1 := comp_mvL (i := 3) mv (ρ := [some (.lst (mvL mv)), some (.int (mv.length : Nat)), none, none, none, none, none, none]) (by simp)
  have c2 := comp_mvT (i := 3) ls (ρ := [some (.lst (mvL mv)), some (.int (mv.length : Nat)), some (.lst (mvL ls)), none, o1, o2, o3, o4]) (by simp)
  generalize hL : l_closed_3 = L at e
  unfold m_closed b_closed
  rw [hL]
  simp [R.bind, R.out, Out.seq, hb, compX, wipeE, hs1, hs2, c1, c2, e, tupleD]
/-! ### systems and worlds -/
def sysD (cl : List (List Nat)) (ak : Tab) : D := .obj 10 [.tup (mvT cl), .tup (tabT ak)]
theorem MvOk.sq {size : Nat} {mv : List (List Nat)} (h : MvOk size mv) : SqOk size mv := ⟨h.len, fun l hl => by
  obtain ⟨k, hk, rfl⟩ := List.mem_iff_getElem.mp hl
  have := (h.row k (by rw [← h.len]; exact hk)).1
  rwa [List.getD_eq_getElem?_getD, List.getElem?_eq_getElem hk] at this⟩
theorem System_init {size kinds : Nat} (hs0 : 0 < size) (hs : size ≤ 3) (hk0 : 0 < kinds) (hk : kinds ≤ 3) {mv : List (List Nat)} (hm : MvOk size mv) {ak : Tab} (hl : ak.length = kinds) (ha : ∀ l ∈ ak, AkRow size l) : ∃ cl, SqOk size cl ∧ mkR (m_System_init (.obj 10 []) [.lst (mvL mv), .lst (tabL ak)]) = .ok (sysD cl ak) := by
  have c1 := check_moves hs0 hs hm
  have c2 := check_asks hk0 hk hl ha
  obtain ⟨cl, hc, c3⟩ := closed hs hm.sq
  have hlen := hm.len
  have hs2 : ak.length ≤ 16777216 := by omega
  have hcm := comp_tup (i := 3) (N := 4) ak (ρ := [some (.obj 10 [.tup (mvT cl)]), some (.lst (mvL mv)), some (.lst (tabL ak)), none]) (by simp)
  refine ⟨cl, hc, ?_⟩
  unfold m_System_init fnM b_System_init
  simp [NW.R.bind, NW.R.out, Out.seq, hlen, c1, c2, c3, asgS, attrG, tupleD, compX, wipeE, hs2, hcm, outM, self0, mkR, sysD]
structure Wd where
  size : Nat
  kinds : Nat
  states : Nat
  start : Nat
  cl : List (List Nat)
  ak : Tab
  arr : Tab
structure WdOk (w : Wd) : Prop where
  size0 : 0 < w.size
  size3 : w.size ≤ 3
  kinds0 : 0 < w.kinds
  kinds3 : w.kinds ≤ 3
  states0 : 0 < w.states
  states3 : w.states ≤ 3
  start : w.start < w.size
  cl : SqOk w.size w.cl
  akl : w.ak.length = w.kinds
  ak : ∀ l ∈ w.ak, AkRow w.size l
  arr : TabOk w.states w.kinds w.states w.arr
def Wd.d (w : Wd) : D := .obj 13 [sysD w.cl w.ak, machD w.arr, .int w.start]
theorem Sys_kinds (cl : List (List Nat)) (ak : Tab) : m_System_kinds [sysD cl ak] = .ok (.int (ak.length : Nat)) := by
  unfold m_System_kinds b_System_kinds
  simp [R.bind, R.out, Out.seq, sysD, fldD]
theorem Sys_size (cl : List (List Nat)) (ak : Tab) : m_System_size [sysD cl ak] = .ok (.int (cl.length : Nat)) := by
  unfold m_System_size b_System_size
  simp [R.bind, R.out, Out.seq, sysD, fldD]
theorem Mach_kinds {states kinds : Nat} (hs0 : 0 < states) {arr : Tab} (h : TabOk states kinds states arr) : m_Machine_kinds [machD arr] = .ok (.int (kinds : Nat)) := by
  have hat := tabT_at (t := arr) (k := 0) (by rw [h.len]; exact hs0)
  have hat : L2.atI (tabT arr) 0 = _ := hat
  have hl := (h.at_ (k := 0) hs0).1
  generalize arr.getD 0 [] = l at hat hl
  unfold m_Machine_kinds b_Machine_kinds
  simp [R.bind, R.out, Out.seq, machD, fldD, hat, hl]
theorem World_init {w : Wd} (h : WdOk w) : mkR (m_World_init (.obj 13 []) [sysD w.cl w.ak, machD w.arr, .int w.start]) = .ok w.d := by
  have e1 := Sys_kinds w.cl w.ak
  have e2 := Sys_size w.cl w.ak
  have e3 := Mach_kinds h.states0 h.arr
  rw [h.akl] at e1
  rw [h.cl.len] at e2
  have c1 : isC 10 (sysD w.cl w.ak) = true := rfl
  have c2 : isC 11 (machD w.arr) = true := rfl
  have h1 : (w.start : Int) < (w.size : Int) := by have := h.start; omega
  unfold m_World_init fnM b_World_init
  simp [NW.R.bind, NW.R.out, Out.seq, propD, noX, c1, c2, e1, e2, e3, h1, asgS, attrG, outM, self0, mkR, Wd.d]
end K79.PL
end

section
set_option Elab.async false
set_option linter.all false
/-! PLi: runs. -/
namespace NW
open PySem PySem.Spec L2
open PyProof.Rows hiding St
/-- one thing of a kind made of each -/
theorem compK {β : Type} {g : D → NW.Env → R NW.Env} {e : NW.Env → R D} {ρ : NW.Env} (f : β → D) (C : β → Prop) : ∀ (ds : List D), (∀ d ∈ ds, ∃ ρ1 y, g d ρ = .ok ρ1 ∧ e ρ1 = .ok (f y) ∧ C y) → ∃ ys : List β, compD g yesB e ds ρ = .ok (ys.map f) ∧ ys.length = ds.length ∧ ∀ y ∈ ys, C y
  | [], _ => ⟨[], rfl, rfl, fun x h => nomatch h⟩
  | d :: ds, h => by
    obtain ⟨ρ1, x, h1, h2, h3⟩ := h d List.mem_cons_self
    obtain ⟨xs, h4, h5, h6⟩ := compK f C ds fun d hd => h d (List.mem_cons_of_mem _ hd)
    refine ⟨x :: xs, ?_, by simp [h5], fun y hy => ?_⟩
    · unfold compD
      rw [h1]
      show (R.bind (R.ok true) _) = _
      simp [R.bind, h2, h4]
    · rcases List.mem_cons.mp hy with hy | hy
      · rw [hy]; exact h3
      · exact h6 y hy
theorem intsD_nums : ∀ xs : List Nat, intsD (nums xs) = some (xs.map fun (n : Nat) => (n : Int))
  | [] => rfl
  | x :: xs => by
    rw [nums_cons]
    unfold intsD
    rw [intsD_nums xs]
    rfl
theorem minI_nat : ∀ (xs : List Nat) (n : Nat), ∃ m : Nat, minI (n : Int) (xs.map fun (n : Nat) => (n : Int)) = (m : Int)
  | [], n => ⟨n, rfl⟩
  | x :: xs, n => by
    unfold minI
    rw [List.map_cons, List.foldl_cons]
    split
    · exact minI_nat xs x
    · exact minI_nat xs n
theorem min_lst {xs : List Nat} (h : xs ≠ []) : ∃ m : Nat, exD minI [.lst (nums xs)] = .ok (.int m) := by
  cases xs with
  | nil => exact absurd rfl h
  | cons x xs =>
    obtain ⟨m, hm⟩ := minI_nat xs x
    refine ⟨m, ?_⟩
    unfold exD
    dsimp only
    rw [intsD_nums]
    show R.ok (D.int (minI _ _)) = _
    rw [hm]
theorem min_tup {xs : List Nat} (h : xs ≠ []) : ∃ m : Nat, exD minI [.tup (nums xs)] = .ok (.int m) := by
  cases xs with
  | nil => exact absurd rfl h
  | cons x xs =>
    obtain ⟨m, hm⟩ := minI_nat xs x
    refine ⟨m, ?_⟩
    unfold exD
    dsimp only
    rw [intsD_nums]
    show R.ok (D.int (minI _ _)) = _
    rw [hm]
theorem in_nums (neg : Bool) (p : Nat) (xs : List Nat) : inD neg (.int p) (.lst (nums xs)) = .ok (.bl (if neg then !decide (p ∈ xs) else decide (p ∈ xs))) := by
  have h1 : (nums xs).all flat = true := List.all_eq_true.mpr fun d hd => by
    obtain ⟨x, _, rfl⟩ := nums_mem hd
    rfl
  have h2 : ((nums xs).any fun y => eqvF y (.int p)) = decide (p ∈ xs) := by
    rw [Bool.eq_iff_iff, List.any_eq_true, decide_eq_true_iff]
    constructor
    · rintro ⟨d, hd, e⟩
      obtain ⟨x, hx, rfl⟩ := nums_mem hd
      have : (x : Int) = (p : Int) := by simpa [eqvF] using e
      have : x = p := by omega
      subst this
      exact hx
    · intro h
      exact ⟨.int p, List.mem_map.mpr ⟨p, h, rfl⟩, by simp [eqvF]⟩
  show (if flat (.int p) && (nums xs).all flat then _ else _) = _
  rw [h1, h2]
  rfl
end NW
namespace K79.PL
open PySem NW
/-! ### asks that are served, asks that are let -/
def serve (w : Wd) (a : Nat) : List Nat := (List.range w.size).filter fun p => (go w.ak a p).isSome
theorem WdOk.akrow {w : Wd} (h : WdOk w) {a : Nat} (ha : a < w.kinds) : AkRow w.size (w.ak.getD a []) := h.ak _ (by
  have h1 : a < w.ak.length := by rw [h.akl]; exact ha
  rw [List.getD_eq_getElem?_getD, List.getElem?_eq_getElem h1]
  exact List.getElem_mem h1)
theorem serve_ne {w : Wd} (h : WdOk w) {a : Nat} (ha : a < w.kinds) : serve w a ≠ [] := by
  obtain ⟨p, hp, hs⟩ := (h.akrow ha).one
  intro q
  have : p ∈ serve w a := List.mem_filter.mpr ⟨List.mem_range.mpr hp, hs⟩
  rw [q] at this
  cases this
theorem Sys_serving {w : Wd} (h : WdOk w) {a : Nat} (ha : a < w.kinds) : m_System_serving [sysD w.cl w.ak, .int a] = .ok (.lst (nums (serve w a))) := by
  have hat := tabT_at (t := w.ak) (k := a) (by rw [h.akl]; exact ha)
  have hl := (h.akrow ha).len
  have hb : big (w.size : Int) = true := big_n (by have := h.size3; omega)
  have hup : (upto 0 (w.size : Int)).length ≤ 16777216 := by rw [upto_leng]; have := h.size3; omega
  have hc : compD (nameG 3) (tst (NW.bin isnotD (NW.bin ixD (varD 2) (varD 3)) (cD .non))) (varD 3) (upto 0 (w.size : Int)) [some (sysD w.cl w.ak), some (.int a), some (.tup (ois (w.ak.getD a []))), none] = .ok (nums (serve w a)) := comp_lets (by simp) hl fun j hj => by
    have := ois_at (ys := w.ak.getD a []) (k := j) (by omega)
    simp [-List.getD_eq_getElem?_getD, R.bind, this]
  unfold m_System_serving b_System_serving
  generalize w.ak.getD a [] = l at *
  unfold sysD at hc ⊢
  simp [R.bind, R.out, Out.seq, fldD, hat, hl, hb, compX, wipeE, hup, hc]
theorem Mach_lets {states kinds : Nat} (hk : kinds ≤ 3) {arr : Tab} (h : TabOk states kinds states arr) {s : Nat} (hs : s < states) : m_Machine_lets [machD arr, .int s] = .ok (.lst (nums (lets arr kinds s))) := by
  have hat := tabT_at (t := arr) (k := s) (by rw [h.len]; exact hs)
  have hl := (h.at_ hs).1
  have hb : big (kinds : Int) = true := big_n (by omega)
  have hup : (upto 0 (kinds : Int)).length ≤ 16777216 := by rw [upto_leng]; omega
  have hc : compD (nameG 3) (tst (NW.bin isnotD (NW.bin ixD (varD 2) (varD 3)) (cD .non))) (varD 3) (upto 0 (kinds : Int)) [some (machD arr), some (.int s), some (.tup (ois (arr.getD s []))), none] = .ok (nums (lets arr kinds s)) := comp_lets (by simp) hl fun j hj => by
    have := ois_at (ys := arr.getD s []) (k := j) (by omega)
    simp [-List.getD_eq_getElem?_getD, R.bind, this]
  unfold m_Machine_lets b_Machine_lets
  generalize arr.getD s [] = l at *
  unfold machD at hc ⊢
  simp [R.bind, R.out, Out.seq, fldD, hat, hl, hb, compX, wipeE, hup, hc]
theorem Mach_after {states kinds : Nat} {arr : Tab} (h : TabOk states kinds states arr) {s r : Nat} (hs : s < states) (hr : r < kinds) : m_Machine_after [machD arr, .int s, .int r] = .ok (oi (go arr s r)) := by
  have hat := tabT_at (t := arr) (k := s) (by rw [h.len]; exact hs)
  have hl := (h.at_ hs).1
  have h0 := tabT_at (t := arr) (k := 0) (by rw [h.len]; omega)
  have h0 : L2.atI (tabT arr) 0 = _ := h0
  have hl0 := (h.at_ (k := 0) (by omega)).1
  unfold go
  generalize arr.getD s [] = l at *
  generalize arr.getD 0 [] = l0 at *
  have hx := ois_at (ys := l) (k := r) (by omega)
  have c1 : (r : Int) < (kinds : Int) := by omega
  generalize l.getD r none = x at hx
  unfold m_Machine_after b_Machine_after
  simp [R.bind, R.out, Out.seq, fldD, machD, hat, h0, hl0, hx, c1, -isN_oi]
theorem Rule_after {kinds size : Nat} {R : Rl} (h : RlOk kinds size R) {s r : Nat} (hs : s < R.1.length) (hr : r < kinds) : m_Rule_after [rlO R, .int s, .int r] = .ok (oi (go R.2 s r)) := by
  have hat := tabT_at (t := R.2) (k := s) (by rw [h.tab.len]; exact hs)
  have hl := (h.tab.at_ hs).1
  have h0 := tabT_at (t := R.2) (k := 0) (by rw [h.tab.len]; omega)
  have h0 : L2.atI (tabT R.2) 0 = _ := h0
  have hl0 := (h.tab.at_ (k := 0) (by omega)).1
  unfold go
  generalize R.2.getD s [] = l at *
  generalize R.2.getD 0 [] = l0 at *
  have hx := ois_at (ys := l) (k := r) (by omega)
  have c1 : (r : Int) < (kinds : Int) := by omega
  generalize l.getD r none = x at hx
  unfold m_Rule_after b_Rule_after
  simp [NW.R.bind, NW.R.out, Out.seq, fldD, rlO, hat, h0, hl0, hx, c1, -isN_oi]
/-! ### work tables -/
theorem first_table {w : Wd} (h : WdOk w) : ∃ tab : List Nat, tab.length = w.size ∧ m_first_table [sysD w.cl w.ak, .int w.start] = .ok (.lst (nums tab)) := by
  have hat := mvT_at (t := w.cl) (k := w.start) (by rw [h.cl.len]; exact h.start)
  have hl := h.cl.at_ h.start
  generalize w.cl.getD w.start [] = l at *
  refine ⟨l, hl, ?_⟩
  unfold m_first_table b_first_table
  simp [R.bind, R.out, Out.seq, fldD, sysD, hat, listD]
def endD (e : Nat × List Nat) : D := .tup [.int e.1, .tup (nums e.2)]
theorem next_table {w : Wd} (h : WdOk w) {a : Nat} (ha : a < w.kinds) {tab : List Nat} (ht : tab.length = w.size) : ∃ tab' : List Nat, tab'.length = w.size ∧ m_next_table [sysD w.cl w.ak, .tup (nums tab), .int a] = .ok (.lst (nums tab')) := by
  have hat := tabT_at (t := w.ak) (k := a) (by rw [h.akl]; exact ha)
  have hl := (h.akrow ha).len
  have hsv := Sys_serving h ha
  have hne := serve_ne h ha
  have hz := Sys_size w.cl w.ak
  have hcl := h.cl.len
  rw [hcl] at hz
  have hb : big (w.size : Int) = true := big_n (by have := h.size3; omega)
  have hup : (upto 0 (w.size : Int)).length ≤ 16777216 := by rw [upto_leng]; have := h.size3; omega
  have hsz3 := h.size3
  have hsl : (serve w a).length ≤ w.size := by
    have := List.length_filter_le (fun p => (go w.ak a p).isSome) (List.range w.size)
    rwa [List.length_range] at this
  have hs1 : (serve w a).length ≤ 16777216 := by omega
  have c1 : isC 10 (sysD w.cl w.ak) = true := rfl
  generalize hs : sysD w.cl w.ak = sd at *
  have hf0 : fldD 10 0 sd = .ok (.tup (mvT w.cl)) := by rw [← hs]; rfl
  have hf1 : fldD 10 1 sd = .ok (.tup (tabT w.ak)) := by rw [← hs]; rfl
  obtain ⟨es, he, hel, heb⟩ := compK (g := nameG 5) (e := tupD (consA (NW.bin addD (NW.bin ixD (varD 1) (varD 5)) (NW.bin ixD (varD 3) (varD 5))) (consA (NW.bin ixD (un1 (fldD 10 0) (varD 0)) (varD 5)) nilA))) (ρ := [some sd, some (.tup (nums tab)), some (.int a), some (.tup (ois (w.ak.getD a []))), none, none, none, none, none]) endD (fun e => e.2.length = w.size) (nums (serve w a)) (fun d hd => by
    obtain ⟨p, hp, rfl⟩ := nums_mem hd
    obtain ⟨hp1, hp2⟩ := List.mem_filter.mp hp
    have hp1 := List.mem_range.mp hp1
    obtain ⟨c, hc⟩ := Option.isSome_iff_exists.mp hp2
    have i1 := nums_at (xs := tab) (k := p) (by omega)
    have i2 := ois_at (ys := w.ak.getD a []) (k := p) (by omega)
    have hc : (w.ak.getD a []).getD p none = some c := hc
    rw [hc] at i2
    have i3 := mvT_at (t := w.cl) (k := p) (by omega)
    refine ⟨_, (tab.getD p 0 + c, w.cl.getD p []), rfl, ?_, h.cl.at_ hp1⟩
    simp [-List.getD_eq_getElem?_getD, R.bind, i1, i2, i3, hf0, endD, szL])
  obtain ⟨tab', hr, hrl, _⟩ := compK (g := nameG 8) (e := callA (exD minI) (consA (compF [6, 7] (itI (varD 4)) (tupG (consG (nameG 6) (consG (nameG 7) nilG))) yesB (NW.bin addD (varD 6) (NW.bin ixD (varD 7) (varD 8)))) nilA)) (ρ := [some sd, some (.tup (nums tab)), some (.int a), some (.tup (ois (w.ak.getD a []))), some (.lst (es.map endD)), none, none, none, none]) (fun (n : Nat) => D.int n) (fun _ => True) (upto 0 (w.size : Int)) (fun d hd => by
    obtain ⟨p, hp, hpl, rfl⟩ := upto_mem (lo := 0) hd
    obtain ⟨ys, hy, hyl, _⟩ := compK (g := tupG (consG (nameG 6) (consG (nameG 7) nilG))) (e := NW.bin addD (varD 6) (NW.bin ixD (varD 7) (varD 8))) (ρ := [some sd, some (.tup (nums tab)), some (.int a), some (.tup (ois (w.ak.getD a []))), some (.lst (es.map endD)), none, none, none, some (.int p)]) (fun (n : Nat) => D.int n) (fun _ => True) (es.map endD) (fun d hd => by
      obtain ⟨e, he, rfl⟩ := List.mem_map.mp hd
      have i1 := nums_at (xs := e.2) (k := p) (by rw [heb e he]; exact hpl)
      refine ⟨_, e.1 + e.2.getD p 0, rfl, ?_, trivial⟩
      simp [-List.getD_eq_getElem?_getD, R.bind, i1])
    rw [List.length_map] at hyl
    have hyn : ys ≠ [] := by
      intro q
      subst q
      apply hne
      rw [nums_len] at hel
      exact List.length_eq_zero_iff.mp (by rw [← hel, ← hyl]; rfl)
    obtain ⟨m, hm⟩ := min_lst hyn
    have hy2 : ys.length ≤ 16777216 := by rw [nums_len] at hel; omega
    refine ⟨_, m, rfl, ?_, trivial⟩
    change compD _ _ _ _ _ = .ok (nums ys) at hy
    simp [-List.getD_eq_getElem?_getD, R.bind, compF, wipeE, hy, noXL, hy2, hm])
  rw [upto_leng] at hrl
  refine ⟨tab', hrl, ?_⟩
  change compD _ _ _ _ _ = .ok (nums tab') at hr
  unfold m_next_table b_next_table
  generalize w.ak.getD a [] = l at *
  simp [R.bind, R.out, Out.seq, hf1, hat, methD, c1, hsv, compX, wipeE, hs1, he, propD, noX, hz, hb, hup, hr]
end K79.PL
end

section
set_option Elab.async false
set_option linter.all false
/-! PLj: runs: the begin, note, twin, fits. -/
namespace K79.PL
open PySem NW
theorem cleans_app : ∀ (a b : List D), cleans (a ++ b) = (cleans a && cleans b)
  | [], b => by simp only [cleans, List.nil_append, Bool.true_and]
  | x :: a, b => by simp only [List.cons_append, cleans, cleans_app a b, Bool.and_assoc]
theorem cleans_all {l : List D} (h : ∀ d ∈ l, clean d = true) : cleans l = true := by
  induction l with
  | nil => unfold cleans; rfl
  | cons d l ih =>
    unfold cleans
    rw [h d List.mem_cons_self, ih fun d hd => h d (List.mem_cons_of_mem _ hd)]
    rfl
theorem cl_nums (xs : List Nat) : cleans (nums xs) = true := cleans_all fun d hd => by
  obtain ⟨x, _, rfl⟩ := nums_mem hd
  unfold clean; rfl
theorem cl_ois (xs : List (Option Nat)) : cleans (ois xs) = true := cleans_all fun d hd => by
  obtain ⟨x, _, rfl⟩ := ois_mem hd
  cases x <;> (unfold oi clean; rfl)
theorem cl_tabT (t : Tab) : cleans (tabT t) = true := cleans_all fun d hd => by
  obtain ⟨x, _, rfl⟩ := List.mem_map.mp hd
  unfold clean; exact cl_ois x
theorem cl_mvT (t : List (List Nat)) : cleans (mvT t) = true := cleans_all fun d hd => by
  obtain ⟨x, _, rfl⟩ := List.mem_map.mp hd
  unfold clean; exact cl_nums x
def seenD (w : Wd) (row way : List Nat) (pairs moments : List D) (paid s : Nat) (tab : List Nat) : D := .obj 14 [w.d, .tup (nums row), .tup (nums way), .tup pairs, .int paid, .int (row.length : Nat), .tup moments, .int s, .tup (nums tab)]
structure SeenOk (w : Wd) (row way : List Nat) (pairs moments : List D) (s : Nat) (tab : List Nat) : Prop where
  tabl : tab.length = w.size
  prs : pairs.length = row.length
  mts : moments.length = row.length + 1
  wyl : way.length = row.length
  top : row.length ≤ 20
  hrun : run w.arr 0 row = some s
  wyb : ∀ p ∈ way, p < w.size
  cln : cleans pairs = true ∧ cleans moments = true
def IsSeen (w : Wd) (row way : List Nat) (s : Nat) (d : D) : Prop := ∃ pairs moments paid tab, d = seenD w row way pairs moments paid s tab ∧ SeenOk w row way pairs moments s tab
@[simp] theorem e_fld (c k : Nat) (ds : List D) : fldD c k (.obj c ds) = opt ds[k]? := by simp [fldD]
theorem Seen_init {w : Wd} (h : WdOk w) : ∃ d, mkR (m_Seen_init (.obj 14 []) [w.d]) = .ok d ∧ IsSeen w [] [] 0 d := by
  obtain ⟨tab, ht, e⟩ := first_table h
  refine ⟨_, ?_, [], [.tup [.int 0, .int 0]], 0, tab, rfl, ht, rfl, rfl, rfl, by simp, rfl, (fun p h => nomatch h), rfl, rfl⟩
  have hf0 : fldD 13 0 w.d = .ok (sysD w.cl w.ak) := rfl
  have hf2 : fldD 13 2 w.d = .ok (.int w.start) := rfl
  generalize hw : w.d = wd at *
  unfold m_Seen_init fnM b_Seen_init
  simp [R.bind, R.out, Out.seq, asgS, attrG, hf0, hf2, e, tupleD, outM, self0, mkR, seenD, hw, szL]
theorem note {w : Wd} (h : WdOk w) {row way : List Nat} {s : Nat} {d : D} (hd : IsSeen w row way s d) {a p s' : Nat} (hg : go w.arr s a = some s') (hp : p ∈ serve w a) (hr : row.length ≤ 19) : ∃ d', m_Seen_note d [.int a, .int p] = .ok .non d' ∧ IsSeen w (row ++ [a]) (way ++ [p]) s' d' := by
  obtain ⟨pairs, moments, paid, tab, rfl, ok⟩ := hd
  have hs := run_lt h.arr h.states0 ok.hrun
  have ha : a < w.kinds := go_arg h.arr hs (by rw [hg]; rfl)
  have hp1 := List.mem_range.mp (List.mem_filter.mp hp).1
  obtain ⟨c, hc⟩ := Option.isSome_iff_exists.mp (List.mem_filter.mp hp).2
  have e1 := Mach_after h.arr hs ha
  rw [hg] at e1
  have e2 := Sys_serving h ha
  have e3 := in_nums true p (serve w a)
  rw [decide_eq_true hp] at e3
  obtain ⟨tab', ht', e4⟩ := next_table h ha ok.tabl
  have htn : tab' ≠ [] := by
    intro q
    subst q
    have := h.size0
    simp at ht'
    omega
  obtain ⟨m, hm⟩ := min_tup htn
  obtain ⟨at_, hat, hatE⟩ : ∃ at_ : Nat, at_ < w.size ∧ (if row.length = 0 then (R.ok (.int w.start) : R D) else ixD (.tup (nums way)) (.int (-1))) = .ok (.int at_) := by
    by_cases hz : row.length = 0
    · exact ⟨w.start, h.start, if_pos hz⟩
    · have hwn : way ≠ [] := by
        intro q
        subst q
        exact hz ok.wyl.symm
      obtain ⟨x, hx1, hx2⟩ := nums_getLast hwn
      refine ⟨x, ok.wyb x hx1, ?_⟩
      rw [if_neg hz, e_ixT, atI_last hx2]
      rfl
  have i1 := mvT_at (t := w.cl) (k := at_) (by rw [h.cl.len]; exact hat)
  have l1 := h.cl.at_ hat
  have i2 := tabT_at (t := w.ak) (k := a) (by rw [h.akl]; exact ha)
  have l2 := (h.akrow ha).len
  have hc : (w.ak.getD a []).getD p none = some c := hc
  have i4 := ois_at (ys := w.ak.getD a []) (k := p) (by omega)
  rw [hc] at i4
  generalize w.cl.getD at_ [] = x at i1 l1
  generalize w.ak.getD a [] = y at *
  have i3 := nums_at (xs := x) (k := p) (by omega)
  generalize x.getD p 0 = z at i3
  have hf0 : fldD 13 0 w.d = .ok (sysD w.cl w.ak) := rfl
  have hf1 : fldD 13 1 w.d = .ok (machD w.arr) := rfl
  have hf2 : fldD 13 2 w.d = .ok (.int w.start) := rfl
  have hs0 : fldD 10 0 (sysD w.cl w.ak) = .ok (.tup (mvT w.cl)) := rfl
  have hs1 : fldD 10 1 (sysD w.cl w.ak) = .ok (.tup (tabT w.ak)) := rfl
  have c1 : isC 10 (sysD w.cl w.ak) = true := rfl
  have c2 : isC 11 (machD w.arr) = true := rfl
  have q1 := ok.top
  have q2 := ok.prs
  have q3 := ok.mts
  have q4 := ok.wyl
  refine ⟨seenD w (row ++ [a]) (way ++ [p]) (pairs ++ [.tup [.int a, .int p]]) (moments ++ [.tup [.int (paid + (z + c) : Nat), .int m]]) (paid + (z + c)) s' tab', ?_, _, _, _, tab', rfl, ⟨ht', by simp [q2], by simp [q3], by simp [q4], by simp; omega, by rw [run_snoc ok.hrun]; exact hg, ?_, ?_⟩⟩
  · unfold seenD
    generalize w.d = wd at *
    generalize sysD w.cl w.ak = sd at *
    generalize machD w.arr = md at *
    have r1 : row.length + 1 ≤ 16777216 := by omega
    have r2 : row.length ≤ 16777214 := by omega
    have e3 : inD true (.int p) (.lst (nums (serve w a))) = .ok (.bl false) := e3
    unfold m_Seen_note fnM b_Seen_note
    by_cases hz : row.length = 0
    · rw [if_pos hz] at hatE
      have hatE : (w.start : Int) = (at_ : Int) := by cases hatE; rfl
      have hz' : row = [] := List.length_eq_zero_iff.mp hz
      subst hz'
      simp [R.bind, R.out, Out.seq, asgS, attrG, augF, methD, hf0, hf1, hf2, hs0, hs1, c1, c2, e1, e2, e3, e4, hatE, i1, i2, i3, i4, addD, tupleD, szL, q2, q3, q4, hm, outM, self0]
    · rw [if_neg hz] at hatE
      have hatE : L2.atI (nums way) (-1) = some (.int at_) := by
        rw [e_ixT] at hatE
        cases hq : L2.atI (nums way) (-1) with
        | none => rw [hq] at hatE; cases hatE
        | some v => rw [hq] at hatE; cases hatE; rfl
      simp [R.bind, R.out, Out.seq, asgS, attrG, augF, methD, hf0, hf1, hf2, hs0, hs1, c1, c2, e1, e2, e3, e4, hatE, i1, i2, i3, i4, addD, tupleD, szL, q2, q3, q4, hm, outM, self0, hz, negD, r1, r2]
  · intro x hx
    rcases List.mem_append.mp hx with hx | hx
    · exact ok.wyb x hx
    · rw [List.mem_singleton.mp hx]; exact hp1
  · rw [cleans_app, cleans_app, ok.cln.1, ok.cln.2]
    exact ⟨rfl, rfl⟩
theorem twin {w : Wd} {row way : List Nat} {s : Nat} {d : D} (h : WdOk w) (hd : IsSeen w row way s d) : m_Seen_twin [d] = .ok d := by
  obtain ⟨pairs, moments, paid, tab, rfl, ok⟩ := hd
  obtain ⟨d0, e, p0, m0, a0, t0, rfl, ok0⟩ := Seen_init h
  unfold seenD at *
  generalize w.d = wd at *
  generalize hI : m_Seen_init = mi at e
  unfold m_Seen_twin b_Seen_twin
  rw [hI]
  simp [R.bind, R.out, Out.seq, makeD, e, asgS, tupG, consG, nilG, attrG, szL]
/-! ### fits -/
theorem Rule_kinds {kinds size : Nat} {R : Rl} (h : RlOk kinds size R) : m_Rule_kinds [rlO R] = .ok (.int (kinds : Nat)) := by
  have h0 := tabT_at (t := R.2) (k := 0) (by rw [h.tab.len]; exact h.pos)
  have h0 : L2.atI (tabT R.2) 0 = _ := h0
  have hl0 := (h.tab.at_ (k := 0) h.pos).1
  generalize R.2.getD 0 [] = l0 at *
  unfold m_Rule_kinds b_Rule_kinds
  simp [NW.R.bind, NW.R.out, Out.seq, rlO, h0, hl0]
theorem check_kinds {w : Wd} (h : WdOk w) {row way : List Nat} {s : Nat} {d : D} (hd : IsSeen w row way s d) {k : Nat} {r : D} (hc : isC 12 r = true) (hr : m_Rule_kinds [r] = .ok (.int (k : Nat))) : m_check_kinds [d, r] = if k = w.kinds then .ok .non else .ex 3 [] := by
  obtain ⟨pairs, moments, paid, tab, rfl, ok⟩ := hd
  have e1 := Sys_kinds w.cl w.ak
  rw [h.akl] at e1
  have hf0 : fldD 13 0 w.d = .ok (sysD w.cl w.ak) := rfl
  have c1 : isC 10 (sysD w.cl w.ak) = true := rfl
  unfold m_check_kinds b_check_kinds seenD
  generalize w.d = wd at *
  generalize sysD w.cl w.ak = sd at *
  by_cases hk : k = w.kinds
  · subst hk
    simp [R.bind, R.out, Out.seq, propD, noX, hc, hr, hf0, c1, e1]
  · have hk' : ¬ (k : Int) = (w.kinds : Int) := by omega
    simp [R.bind, R.out, Out.seq, propD, noX, hc, hr, hf0, c1, e1, hk, hk']
theorem getD_mem {α : Type} {l : List α} {k : Nat} {z : α} (h : k < l.length) : l.getD k z ∈ l := by
  rw [List.getD_eq_getElem?_getD, List.getElem?_eq_getElem h]
  exact List.getElem_mem h
theorem fits_loop {kinds size : Nat} {R : Rl} (h : RlOk kinds size R) (d : D) : ∀ (zs : List (Nat × Nat)) (m : Nat) (o3 o4 : Option D), m < R.1.length → (∀ z ∈ zs, z.1 < kinds) →
    (∃ o2 o3' o4', forD (tupG (consG (nameG 3) (consG (nameG 4) nilG))) l_Seen_fits_3 (zs.map fun z => .tup [.int z.1, .int z.2]) [some d, some (rlO R), some (.int m), o3, o4] = .nx [some d, some (rlO R), o2, o3', o4'] ∧ ft R m zs = true) ∨
    (∃ ρ, forD (tupG (consG (nameG 3) (consG (nameG 4) nilG))) l_Seen_fits_3 (zs.map fun z => .tup [.int z.1, .int z.2]) [some d, some (rlO R), some (.int m), o3, o4] = .rt (.bl false) ρ ∧ ft R m zs = false)
  | [], m, o3, o4, hm, hz => .inl ⟨_, _, _, rfl, rfl⟩
  | (a, p) :: zs, m, o3, o4, hm, hz => by
    have ha := Rule_after h hm (hz (a, p) List.mem_cons_self)
    have c1 : isC 12 (rlO R) = true := rfl
    have hf : fldD 12 0 (rlO R) = .ok (.tup (nums R.1)) := rfl
    generalize hr : rlO R = rd at *
    rw [List.map_cons]
    unfold forD
    have e0 : tupG (consG (nameG 3) (consG (nameG 4) nilG)) (D.tup [.int a, .int p]) [some d, some rd, some (.int m), o3, o4] = .ok [some d, some rd, some (.int m), some (.int a), some (.int p)] := rfl
    rw [e0]
    dsimp only
    cases hg : go R.2 m a with
    | none =>
      rw [hg] at ha
      right
      refine ⟨[some d, some rd, some .non, some (.int a), some (.int p)], ?_, by unfold ft; rw [hg]⟩
      have : l_Seen_fits_3 [some d, some rd, some (.int m), some (.int a), some (.int p)] = .rt (.bl false) [some d, some rd, some .non, some (.int a), some (.int p)] := by
        unfold l_Seen_fits_3
        simp [NW.R.bind, NW.R.out, Out.seq, methD, c1, ha]
      rw [this]
    | some g =>
      rw [hg] at ha
      have hgl := h.tab.go_lt hm hg
      have hat := nums_at (xs := R.1) (k := g) hgl
      by_cases hp : R.1.getD g 0 = p
      · have : l_Seen_fits_3 [some d, some rd, some (.int m), some (.int a), some (.int p)] = .nx [some d, some rd, some (.int g), some (.int a), some (.int p)] := by
          rw [hp] at hat
          unfold l_Seen_fits_3
          simp [NW.R.bind, NW.R.out, Out.seq, methD, c1, ha, hf, hat]
        rw [this]
        dsimp only
        have ih := fits_loop h d zs g (some (.int a)) (some (.int p)) hgl fun z hz' => hz z (List.mem_cons_of_mem _ hz')
        rw [hr] at ih
        unfold ft
        rw [hg]
        dsimp only
        rw [if_pos hp]
        exact ih
      · right
        refine ⟨[some d, some rd, some (.int g), some (.int a), some (.int p)], ?_, by unfold ft; rw [hg]; dsimp only; rw [if_neg hp]⟩
        have : l_Seen_fits_3 [some d, some rd, some (.int m), some (.int a), some (.int p)] = .rt (.bl false) [some d, some rd, some (.int g), some (.int a), some (.int p)] := by
          generalize R.1.getD g 0 = q at *
          have hp' : ¬ (q : Int) = (p : Int) := by omega
          unfold l_Seen_fits_3
          simp [NW.R.bind, NW.R.out, Out.seq, methD, c1, ha, hf, hat, hp']
        rw [this]
theorem zip_nums (row way : List Nat) : zipL (nums row) (nums way) = (row.zip way).map fun z => .tup [.int z.1, .int z.2] := by
  unfold zipL nums
  rw [List.zipWith_map, List.zip_eq_zipWith, List.map_zipWith]
theorem Seen_fits {w : Wd} (h : WdOk w) {row way : List Nat} {s : Nat} {d : D} (hd : IsSeen w row way s d) {size : Nat} {R : Rl} (hR : RlOk w.kinds size R) : m_Seen_fits [d, rlO R] = .ok (.bl (fitsP R w.start row way)) := by
  have hk := check_kinds h hd (r := rlO R) rfl (Rule_kinds hR)
  rw [if_pos rfl] at hk
  have hargs : ∀ z ∈ row.zip way, z.1 < w.kinds := fun z hz => by
    obtain ⟨_, _, _, _, _, ok⟩ := hd
    exact run_args h.arr h.states0 ok.hrun _ (List.of_mem_zip hz).1
  have hl := fits_loop hR d (row.zip way) 0 none none hR.pos hargs
  obtain ⟨pairs, moments, paid, tab, rfl, ok⟩ := hd
  have hf2 : fldD 13 2 w.d = .ok (.int w.start) := rfl
  have hf : fldD 12 0 (rlO R) = .ok (.tup (nums R.1)) := rfl
  have h0 := nums_at (xs := R.1) (k := 0) hR.pos
  have h0 : L2.atI (nums R.1) 0 = _ := h0
  rw [← zip_nums, show (((0 : Nat) : Int)) = 0 from rfl] at hl
  unfold seenD at *
  generalize w.d = wd at *
  generalize rlO R = rd at *
  unfold fitsP
  generalize R.1.getD 0 0 = x at *
  generalize hL : l_Seen_fits_3 = L at hl
  unfold m_Seen_fits b_Seen_fits
  rw [hL]
  rcases hl with ⟨o2, o3, o4, e, hft⟩ | ⟨ρ, e, hft⟩
  · have : decide ((x : Int) = (w.start : Int)) = decide (x = w.start) := by
      rw [Bool.eq_iff_iff, decide_eq_true_iff, decide_eq_true_iff]; omega
    simp [NW.R.bind, NW.R.out, Out.seq, hk, zipF, zipI, e, hf, h0, hf2, this, hft]
  · simp [NW.R.bind, NW.R.out, Out.seq, hk, zipF, zipI, e, hft]
theorem cl_rlO (R : Rl) : clean (rlO R) = true := by
  unfold rlO
  simp only [clean, cleans, cl_nums, cl_tabT]
  rfl
theorem cl_world (w : Wd) : clean w.d = true := by
  unfold Wd.d sysD machD
  simp only [clean, cleans, cl_mvT, cl_tabT]
  rfl
theorem cl_seen {w : Wd} {row way : List Nat} {s : Nat} {d : D} (hd : IsSeen w row way s d) : clean d = true := by
  obtain ⟨pairs, moments, paid, tab, rfl, ok⟩ := hd
  unfold seenD
  simp only [clean, cleans, cl_nums, cl_world, ok.cln.1, ok.cln.2]
  rfl
end K79.PL
end

section
set_option Elab.async false
set_option linter.all false
/-! PLk: the program's search. -/
namespace K79.PL
open PySem NW
/-! ### the memory after the row -/
def wkR (o : Nat × Option Nat) : R D := match o with
  | (m, none) => .ok (.int m)
  | (m, some a) => .ex 9 [.int m, .int a]
theorem memory_loop {kinds size : Nat} {R : Rl} (h : RlOk kinds size R) (d : D) : ∀ (row : List Nat) (m : Nat) (o3 o4 : Option D), m < R.1.length → (∀ a ∈ row, a < kinds) →
    match wk R.2 m row with
    | (m', none) => ∃ o3' o4', forD (nameG 3) l_memory_after_2 (nums row) [some d, some (rlO R), some (.int m), o3, o4] = .nx [some d, some (rlO R), some (.int m'), o3', o4']
    | (m', some a) => ∃ ρ, forD (nameG 3) l_memory_after_2 (nums row) [some d, some (rlO R), some (.int m), o3, o4] = .ex 9 [.int m', .int a] ρ
  | [], m, o3, o4, hm, hz => ⟨_, _, rfl⟩
  | a :: row, m, o3, o4, hm, hz => by
    have ha := Rule_after h hm (hz a List.mem_cons_self)
    have c1 : isC 12 (rlO R) = true := rfl
    have ih := fun g hg o4 => memory_loop h d row g (some (.int a)) o4 hg fun z hz' => hz z (List.mem_cons_of_mem _ hz')
    generalize hr : rlO R = rd at *
    rw [nums_cons]
    unfold forD
    have e0 : nameG 3 (D.int a) [some d, some rd, some (.int m), o3, o4] = .ok [some d, some rd, some (.int m), some (.int a), o4] := rfl
    rw [e0]
    dsimp only
    unfold wk
    cases hg : go R.2 m a with
    | none =>
      rw [hg] at ha
      refine ⟨[some d, some rd, some (.int m), some (.int a), some .non], ?_⟩
      have : l_memory_after_2 [some d, some rd, some (.int m), some (.int a), o4] = .ex 9 [.int m, .int a] [some d, some rd, some (.int m), some (.int a), some .non] := by
        unfold l_memory_after_2
        simp [NW.R.bind, NW.R.out, Out.seq, methD, c1, ha, raiseS]
      rw [this]
    | some g =>
      rw [hg] at ha
      have hgl := h.tab.go_lt hm hg
      have : l_memory_after_2 [some d, some rd, some (.int m), some (.int a), o4] = .nx [some d, some rd, some (.int g), some (.int a), some (.int g)] := by
        unfold l_memory_after_2
        simp [NW.R.bind, NW.R.out, Out.seq, methD, c1, ha]
      rw [this]
      exact ih g hgl (some (.int g))
theorem memory_after {w : Wd} (h : WdOk w) {row way : List Nat} {s : Nat} {d : D} (hd : IsSeen w row way s d) {size : Nat} {R : Rl} (hR : RlOk w.kinds size R) : m_memory_after [d, rlO R] = wkR (wk R.2 0 row) := by
  obtain ⟨pairs, moments, paid, tab, rfl, ok⟩ := hd
  have hl := memory_loop hR (seenD w row way pairs moments paid s tab) row 0 none none hR.pos (run_args h.arr h.states0 ok.hrun)
  rw [show (((0 : Nat) : Int)) = 0 from rfl] at hl
  unfold seenD at *
  generalize w.d = wd at *
  generalize rlO R = rd at *
  generalize hL : l_memory_after_2 = L at hl
  unfold m_memory_after b_memory_after
  rw [hL]
  generalize wk R.2 0 row = o at *
  obtain ⟨m, _ | a⟩ := o
  · obtain ⟨o3, o4, e⟩ := hl
    simp [NW.R.bind, NW.R.out, Out.seq, e, wkR]
  · obtain ⟨ρ, e⟩ := hl
    simp [NW.R.bind, NW.R.out, Out.seq, e, wkR]
/-! ### apart -/
theorem are_apart {kinds size size2 : Nat} {A B : Rl} (hA : RlOk kinds size A) (hB : RlOk kinds size2 B) {x y : Option Nat} (hx : ∀ v, x = some v → v < A.1.length) (hy : ∀ v, y = some v → v < B.1.length) : m_are_apart [rlO A, rlO B, oi x, oi y] = .ok (.bl (apart A B x y)) := by
  have hfa : fldD 12 0 (rlO A) = .ok (.tup (nums A.1)) := rfl
  have hfb : fldD 12 0 (rlO B) = .ok (.tup (nums B.1)) := rfl
  generalize rlO A = ra at *
  generalize rlO B = rb at *
  unfold m_are_apart b_are_apart
  cases x with
  | none => cases y <;> simp [R.bind, R.out, Out.seq, apart, NW.isNon, isD, isnotD]
  | some x =>
    cases y with
    | none => simp [R.bind, R.out, Out.seq, apart, NW.isNon, isD, isnotD]
    | some y =>
      have i1 := nums_at (xs := A.1) (k := x) (hx x rfl)
      have i2 := nums_at (xs := B.1) (k := y) (hy y rfl)
      have hap : apart A B (some x) (some y) = decide (A.1.getD x 0 ≠ B.1.getD y 0) := rfl
      rw [hap]
      generalize A.1.getD x 0 = u at *
      generalize B.1.getD y 0 = v at *
      have : decide ((u : Int) = (v : Int)) = decide (u = v) := by
        rw [Bool.eq_iff_iff, decide_eq_true_iff, decide_eq_true_iff]; omega
      simp [R.bind, R.out, Out.seq, hfa, hfb, i1, i2, this]
/-! ### spots as keys -/
def spotD (s : Spot) : D := .tup [.int s.1, .int s.2.1, .int s.2.2]
def spotK (s : Spot) : List (Sum Int Str) := [.inl s.1, .inl s.2.1, .inl s.2.2]
theorem keyOf_spot (s : Spot) : keyOf (spotD s) = some (spotK s) := rfl
theorem spotK_inj {s t : Spot} (h : spotK s = spotK t) : s = t := by
  obtain ⟨a, b, c⟩ := s
  obtain ⟨x, y, z⟩ := t
  unfold spotK at h
  simp at h
  obtain ⟨h1, h2, h3⟩ := h
  have h1 : a = x := by omega
  have h2 : b = y := by omega
  have h3 : c = z := by omega
  rw [h1, h2, h3]
theorem find_spot (l : List Spot) (s : Spot) : findK (l.map spotD) (spotK s) = l.findIdx? fun t => decide (t = s) := by
  unfold findK
  rw [List.findIdx?_map]
  congr 1
  funext t
  show decide (keyOf (spotD t) = some (spotK s)) = _
  rw [keyOf_spot, Bool.eq_iff_iff, decide_eq_true_iff, decide_eq_true_iff]
  constructor
  · intro h; exact spotK_inj (Option.some.inj h)
  · intro h; rw [h]
theorem find_in {l : List Spot} {k : Nat} {s : Spot} (nd : l.Nodup) (h : l[k]? = some s) : l.findIdx? (fun t => decide (t = s)) = some k := by
  obtain ⟨hk, e⟩ := List.getElem?_eq_some_iff.mp h
  rw [List.findIdx?_eq_some_iff_getElem]
  refine ⟨hk, by rw [e]; simp, fun j hj => ?_⟩
  have : l[j] ≠ s := by
    intro q
    have := (List.getElem_inj (h₀ := by omega) (h₁ := hk) nd).mp (q.trans e.symm)
    omega
  simp [this]
theorem find_no {l : List Spot} {s : Spot} (h : s ∉ l) : l.findIdx? (fun t => decide (t = s)) = none := by
  rw [List.findIdx?_eq_none_iff]
  intro t ht
  have : t ≠ s := fun q => h (q ▸ ht)
  simp [this]
theorem find_mem {l : List Spot} {s : Spot} (h : s ∈ l) : (l.findIdx? (fun t => decide (t = s))).isSome = true := by
  rw [Option.isSome_iff_ne_none, ne_eq, List.findIdx?_eq_none_iff]
  intro q
  have := q s h
  simp at this
def rowD (r : List Nat) : D := .lst (nums r)
theorem spot_at {l : List Spot} {k : Nat} {s : Spot} (h : l[k]? = some s) : L2.atI (l.map spotD) (k : Int) = some (spotD s) := by
  obtain ⟨hk, e⟩ := List.getElem?_eq_some_iff.mp h
  rw [atI_nat (by simpa using hk)]
  simp [e]
theorem dget_spot {S M N : Nat} {F : Fd} (ok : FdOk S M N F) {k : Nat} {s : Spot} (h : F.found[k]? = some s) : dgetD (.dct (F.found.map spotD) (F.rows.map rowD)) (spotD s) = .ok (rowD (F.rows.getD k [])) := by
  have hk : k < F.rows.length := by rw [ok.len]; exact (List.getElem?_eq_some_iff.mp h).1
  unfold dgetD
  dsimp only
  rw [keyOf_spot]
  dsimp only
  rw [find_spot, find_in ok.nd h]
  simp [hk]
theorem din_spot (neg : Bool) (F : Fd) (s : Spot) : dinD neg (spotD s) (.dct (F.found.map spotD) (F.rows.map rowD)) = .ok (.bl (if neg then !decide (s ∈ F.found) else decide (s ∈ F.found))) := by
  unfold dinD
  dsimp only
  rw [keyOf_spot]
  dsimp only
  rw [find_spot]
  by_cases h : s ∈ F.found
  · rw [find_mem h, decide_eq_true h]
  · rw [find_no h, decide_eq_false h]
    rfl
theorem dput_spot {F : Fd} (hl : F.found.length < 16777216) {s : Spot} (hs : s ∉ F.found) (ds : List D) (d : D) : dputD (F.found.map spotD) ds (spotD s) d = some (F.found.map spotD ++ [spotD s], ds ++ [d]) := by
  unfold dputD
  rw [keyOf_spot]
  dsimp only
  rw [find_spot, find_no hs, if_pos (by rw [List.length_map]; exact hl), if_neg (by simp)]
@[simp] theorem e_catD (a b : List D) : catD (.lst a) (.lst b) = if a.length + b.length ≤ szL then .ok (.lst (a ++ b)) else .st := rfl
section
variable {w : Wd} {A B : Rl} {sA sB : Nat} (h : WdOk w) (hA : RlOk w.kinds sA A) (hB : RlOk w.kinds sB B) (d : D)
/-- the variables of the program's search -/
def envP (w : Wd) (A B : Rl) (d : D) (F : Fd) (at_ : Nat) (o7 o8 o9 o10 o11 o12 : Option D) : NW.Env := [some d, some (rlO A), some (rlO B), some (machD w.arr), some (.lst (F.found.map spotD)), some (.dct (F.found.map spotD) (F.rows.map rowD)), some (.int at_), o7, o8, o9, o10, o11, o12]
include h hA hB in
theorem prog_step {F : Fd} (ok : FdOk w.states A.1.length B.1.length F) (hl : F.found.length < 10000) {at_ : Nat} {s x y : Nat} (hat : F.found[at_]? = some (s, x, y)) {r s' : Nat} (hr : r < w.kinds) (hg : go w.arr s r = some s') (o11 o12 : Option D) :
    if apart A B (go A.2 x r) (go B.2 y r) then ∃ ρ, l_next_apart_11 (envP w A B d F at_ (some (.int s)) (some (.int x)) (some (.int y)) (some (.int r)) o11 o12) = .rt (rowD (F.rows.getD at_ [] ++ [r])) ρ else
      match go A.2 x r, go B.2 y r with
      | some x', some y' => if (s', x', y') ∈ F.found then ∃ o11' o12', l_next_apart_11 (envP w A B d F at_ (some (.int s)) (some (.int x)) (some (.int y)) (some (.int r)) o11 o12) = .nx (envP w A B d F at_ (some (.int s)) (some (.int x)) (some (.int y)) (some (.int r)) o11' o12')
        else ∃ o11' o12', l_next_apart_11 (envP w A B d F at_ (some (.int s)) (some (.int x)) (some (.int y)) (some (.int r)) o11 o12) = .nx (envP w A B d ⟨F.found ++ [(s', x', y')], F.rows ++ [F.rows.getD at_ [] ++ [r]]⟩ at_ (some (.int s)) (some (.int x)) (some (.int y)) (some (.int r)) o11' o12')
      | _, _ => ∃ o11' o12', l_next_apart_11 (envP w A B d F at_ (some (.int s)) (some (.int x)) (some (.int y)) (some (.int r)) o11 o12) = .nx (envP w A B d F at_ (some (.int s)) (some (.int x)) (some (.int y)) (some (.int r)) o11' o12') := by
  have hbox := ok.box _ (List.mem_of_getElem? hat)
  have e1 := Mach_after h.arr hbox.1 hr
  rw [hg] at e1
  have e2 := Rule_after hA hbox.2.1 hr
  have e3 := Rule_after hB hbox.2.2 hr
  have e4 := are_apart hA hB (x := go A.2 x r) (y := go B.2 y r) (fun v hv => hA.tab.go_lt hbox.2.1 hv) (fun v hv => hB.tab.go_lt hbox.2.2 hv)
  have e5 := spot_at hat
  have e6 := dget_spot ok hat
  have hrl := ok.row_at (List.getElem?_eq_some_iff.mp hat).1
  have hk := (List.getElem?_eq_some_iff.mp hat).1
  have hin := din_spot true F
  have hput := fun sp (hs : sp ∉ F.found) => dput_spot (F := F) (by omega) hs (F.rows.map rowD)
  have cA : isC 12 (rlO A) = true := rfl
  have cB : isC 12 (rlO B) = true := rfl
  have cM : isC 11 (machD w.arr) = true := rfl
  unfold envP
  generalize rlO A = ra at *
  generalize rlO B = rb at *
  generalize machD w.arr = md at *
  generalize F.rows.getD at_ [] = row at *
  have l1 : row.length + 1 ≤ 16777216 := by omega
  have l2 : F.found.length < 16777216 := by omega
  unfold rowD at *
  cases hx : go A.2 x r with
  | none =>
    rw [hx] at e2 e4
    cases hy : go B.2 y r with
    | none =>
      rw [hy] at e3 e4
      have hap : apart A B none none = false := rfl
      rw [hap] at e4
      rw [if_neg (by rw [hap]; simp)]
      simp only [oi_none, oi_some] at e1 e2 e3 e4
      refine ⟨some (.tup [.int s', .non, .non]), some (.lst (nums (row ++ [r]))), ?_⟩
      unfold l_next_apart_11
      simp [NW.R.bind, NW.R.out, Out.seq, methD, cA, cB, cM, e1, e2, e3, e4, e5, e6, szL, l1, isnotD, NW.isNon]
    | some y' =>
      rw [hy] at e3 e4
      have hap : apart A B none (some y') = true := rfl
      rw [hap] at e4
      rw [if_pos (by rw [hap])]
      simp only [oi_none, oi_some] at e1 e2 e3 e4
      refine ⟨[some d, some ra, some rb, some md, some (.lst (F.found.map spotD)), some (.dct (F.found.map spotD) (F.rows.map fun r => D.lst (nums r))), some (.int at_), some (.int s), some (.int x), some (.int y), some (.int r), some (.tup [.int s', .non, .int y']), some (.lst (nums (row ++ [r])))], ?_⟩
      unfold l_next_apart_11
      simp [NW.R.bind, NW.R.out, Out.seq, methD, cA, cB, cM, e1, e2, e3, e4, e5, e6, szL, l1]
  | some x' =>
    rw [hx] at e2 e4
    cases hy : go B.2 y r with
    | none =>
      rw [hy] at e3 e4
      have hap : apart A B (some x') none = true := rfl
      rw [hap] at e4
      rw [if_pos (by rw [hap])]
      simp only [oi_none, oi_some] at e1 e2 e3 e4
      refine ⟨[some d, some ra, some rb, some md, some (.lst (F.found.map spotD)), some (.dct (F.found.map spotD) (F.rows.map fun r => D.lst (nums r))), some (.int at_), some (.int s), some (.int x), some (.int y), some (.int r), some (.tup [.int s', .int x', .non]), some (.lst (nums (row ++ [r])))], ?_⟩
      unfold l_next_apart_11
      simp [NW.R.bind, NW.R.out, Out.seq, methD, cA, cB, cM, e1, e2, e3, e4, e5, e6, szL, l1]
    | some y' =>
      rw [hy] at e3 e4
      simp only [oi_none, oi_some] at e1 e2 e3 e4
      cases hap : apart A B (some x') (some y') with
      | true =>
        rw [hap] at e4
        rw [if_pos rfl]
        refine ⟨[some d, some ra, some rb, some md, some (.lst (F.found.map spotD)), some (.dct (F.found.map spotD) (F.rows.map fun r => D.lst (nums r))), some (.int at_), some (.int s), some (.int x), some (.int y), some (.int r), some (.tup [.int s', .int x', .int y']), some (.lst (nums (row ++ [r])))], ?_⟩
        unfold l_next_apart_11
        simp [NW.R.bind, NW.R.out, Out.seq, methD, cA, cB, cM, e1, e2, e3, e4, e5, e6, szL, l1]
      | false =>
        rw [hap] at e4
        rw [if_neg (by simp)]
        dsimp only
        have hi := hin (s', x', y')
        by_cases hm : (s', x', y') ∈ F.found
        · rw [if_pos hm]
          rw [decide_eq_true hm] at hi
          have hsp : spotD (s', x', y') = .tup [.int s', .int x', .int y'] := rfl
          rw [hsp] at hi
          refine ⟨some (.tup [.int s', .int x', .int y']), some (.lst (nums (row ++ [r]))), ?_⟩
          unfold l_next_apart_11
          simp [NW.R.bind, NW.R.out, Out.seq, methD, cA, cB, cM, e1, e2, e3, e4, e5, e6, szL, l1, hi]
        · rw [if_neg hm]
          rw [decide_eq_false hm] at hi
          have hp := hput (s', x', y') hm (.lst (nums (row ++ [r])))
          have hsp : spotD (s', x', y') = .tup [.int s', .int x', .int y'] := rfl
          rw [hsp] at hi hp
          refine ⟨some (.tup [.int s', .int x', .int y']), some (.lst (nums (row ++ [r]))), ?_⟩
          rw [nums_app, nums_cons, nums_nil] at hp
          unfold l_next_apart_11
          simp [NW.R.bind, NW.R.out, Out.seq, methD, cA, cB, cM, e1, e2, e3, e4, e5, e6, szL, l1, hi, asgS, dsubG, hp, l2, hsp]
include h hA hB in
theorem Fd_small {F : Fd} (ok : FdOk w.states A.1.length B.1.length F) : F.found.length ≤ 1083 := by
  have h1 := ok.small
  have h2 := Nat.mul_le_mul (Nat.mul_le_mul h.states3 hA.top) hB.top
  omega
include h hA hB in
theorem prog_inner {at_ s x y : Nat} {row : List Nat} : ∀ (rs : List Nat) {F : Fd} (ok : FdOk w.states A.1.length B.1.length F) (hat : F.found[at_]? = some (s, x, y)) (hrow : F.rows.getD at_ [] = row) (hr : ∀ r ∈ rs, r < w.kinds ∧ (go w.arr s r).isSome = true) (o10 o11 o12 : Option D),
    match visit w.arr A B (s, x, y) row rs F with
    | .inl r' => ∃ ρ, forD (nameG 10) l_next_apart_11 (nums rs) (envP w A B d F at_ (some (.int s)) (some (.int x)) (some (.int y)) o10 o11 o12) = .rt (rowD r') ρ
    | .inr F' => ∃ o10' o11' o12', forD (nameG 10) l_next_apart_11 (nums rs) (envP w A B d F at_ (some (.int s)) (some (.int x)) (some (.int y)) o10 o11 o12) = .nx (envP w A B d F' at_ (some (.int s)) (some (.int x)) (some (.int y)) o10' o11' o12')
  | [], F, ok, hat, hrow, hr, o10, o11, o12 => ⟨_, _, _, rfl⟩
  | r :: rs, F, ok, hat, hrow, hr, o10, o11, o12 => by
    obtain ⟨h1, h2⟩ := hr r List.mem_cons_self
    obtain ⟨s', hg⟩ := Option.isSome_iff_exists.mp h2
    have hsm := Fd_small h hA hB ok
    have st := prog_step h hA hB d ok (by omega) hat h1 hg o11 o12
    rw [hrow] at st
    have hbox := ok.box _ (List.mem_of_getElem? hat)
    have hk := (List.getElem?_eq_some_iff.mp hat).1
    have hrl := ok.row_at hk
    rw [hrow] at hrl
    rw [nums_cons]
    unfold forD visit
    have e0 : nameG 10 (D.int r) (envP w A B d F at_ (some (.int s)) (some (.int x)) (some (.int y)) o10 o11 o12) = .ok (envP w A B d F at_ (some (.int s)) (some (.int x)) (some (.int y)) (some (.int r)) o11 o12) := rfl
    rw [e0]
    dsimp only
    rw [hg]
    dsimp only
    have ih := fun F ok hat hrow o11 o12 => prog_inner (at_ := at_) (s := s) (x := x) (y := y) (row := row) rs (F := F) ok hat hrow (fun r hr' => hr r (List.mem_cons_of_mem _ hr')) (some (.int r)) o11 o12
    by_cases hap : apart A B (go A.2 x r) (go B.2 y r) = true
    · rw [if_pos hap] at st ⊢
      obtain ⟨ρ, e⟩ := st
      exact ⟨ρ, by rw [e]⟩
    · rw [if_neg hap] at st ⊢
      split at st
      · rename_i x' y' ex ey
        try rw [ex, ey]
        try dsimp only
        by_cases hm : (s', x', y') ∈ F.found
        · rw [if_pos hm] at st ⊢
          obtain ⟨p11, p12, e⟩ := st
          rw [e]
          exact ih F ok hat hrow p11 p12
        · rw [if_neg hm] at st ⊢
          obtain ⟨p11, p12, e⟩ := st
          rw [e]
          have ok' := (visit_ok h.arr hA.tab hB.tab (spot := (s, x, y)) (row := row) hbox [r] (F := F) ok (by omega) (F' := ⟨F.found ++ [(s', x', y')], F.rows ++ [row ++ [r]]⟩) (by
            unfold visit
            rw [hg]
            dsimp only
            rw [if_neg hap, ex, ey]
            dsimp only
            rw [if_neg hm]
            rfl)).1
          exact ih ⟨F.found ++ [(s', x', y')], F.rows ++ [row ++ [r]]⟩ ok' (by rw [List.getElem?_append_left hk]; exact hat) (by rw [getD_app _ _ _ _ (by rw [ok.len]; exact hk)]; exact hrow) p11 p12
      · obtain ⟨p11, p12, e⟩ := st
        rw [e]
        rename_i hno
        have := ih F ok hat hrow p11 p12
        cases ex : go A.2 x r with
        | none => exact this
        | some x' =>
          cases ey : go B.2 y r with
          | none => exact this
          | some y' => exact (hno x' y' ex ey).elim
theorem visit_filter (arr : Tab) (spot : Spot) (row : List Nat) : ∀ (rs : List Nat) (F : Fd), visit arr A B spot row (rs.filter fun r => (go arr spot.1 r).isSome) F = visit arr A B spot row rs F
  | [], F => rfl
  | r :: rs, F => by
    have ih := fun F => visit_filter arr spot row rs F
    rw [List.filter_cons]
    cases hg : go arr spot.1 r with
    | none =>
      rw [if_neg (by simp), ih]
      conv => rhs; unfold visit
      rw [hg]
    | some s' =>
      rw [if_pos (by simp)]
      unfold visit
      rw [hg]
      dsimp only
      split
      · rfl
      · split
        · split <;> exact ih _
        · exact ih _
include h hA hB in
theorem prog_outer {F : Fd} (ok : FdOk w.states A.1.length B.1.length F) {at_ : Nat} {spot : Spot} (hat : F.found[at_]? = some spot) (o7 o8 o9 o10 o11 o12 : Option D) :
    match visit w.arr A B spot (F.rows.getD at_ []) (List.range w.kinds) F with
    | .inl r' => ∃ ρ, l_next_apart_9 (envP w A B d F at_ o7 o8 o9 o10 o11 o12) = .rt (rowD r') ρ
    | .inr F' => ∃ o7' o8' o9' o10' o11' o12', l_next_apart_9 (envP w A B d F at_ o7 o8 o9 o10 o11 o12) = .nx (envP w A B d F' (at_ + 1) o7' o8' o9' o10' o11' o12') := by
  obtain ⟨s, x, y⟩ := spot
  have hbox := ok.box _ (List.mem_of_getElem? hat)
  have hin := prog_inner h hA hB d (at_ := at_) (s := s) (x := x) (y := y) (lets w.arr w.kinds s) ok hat rfl (fun r hr => by
    obtain ⟨h1, h2⟩ := List.mem_filter.mp hr
    exact ⟨List.mem_range.mp h1, h2⟩) o10 o11 o12
  have hvf := visit_filter (A := A) (B := B) w.arr (s, x, y) (F.rows.getD at_ []) (List.range w.kinds) F
  have hvf : visit w.arr A B (s, x, y) (F.rows.getD at_ []) (lets w.arr w.kinds s) F = _ := hvf
  rw [hvf] at hin
  have el := Mach_lets h.kinds3 h.arr hbox.1
  have es := spot_at hat
  have cM : isC 11 (machD w.arr) = true := rfl
  have hsp : spotD (s, x, y) = .tup [.int s, .int x, .int y] := rfl
  rw [hsp] at es
  generalize hL : l_next_apart_11 = L at hin
  unfold l_next_apart_9
  rw [hL]
  unfold envP at *
  generalize rlO A = ra at *
  generalize rlO B = rb at *
  generalize machD w.arr = md at *
  generalize visit w.arr A B (s, x, y) (F.rows.getD at_ []) (List.range w.kinds) F = V at *
  cases V with
  | inl r' =>
    obtain ⟨ρ, e⟩ := hin
    exact ⟨ρ, by simp [NW.R.bind, NW.R.out, Out.seq, methD, cM, asgS, tupG, consG, nilG, es, el, e]⟩
  | inr F' =>
    obtain ⟨p10, p11, p12, e⟩ := hin
    exact ⟨some (.int s), some (.int x), some (.int y), p10, p11, p12, by simp [NW.R.bind, NW.R.out, Out.seq, methD, cM, asgS, tupG, consG, nilG, es, el, e, augI]⟩
def resD : Option (List Nat) → D
  | none => .non
  | some r => .lst (nums r)
include h hA hB in
theorem prog_while : ∀ (n : Nat) {F : Fd} (ok : FdOk w.states A.1.length B.1.length F) (at_ : Nat) (res : Option (List Nat)), bfs w.arr A B w.kinds n at_ F = some res → ∀ (o7 o8 o9 o10 o11 o12 : Option D),
    match res with
    | some r => ∃ ρ, whileN (tst (NW.bin ltD (varD 6) (callA lenD (consA (varD 4) nilA)))) l_next_apart_9 n (envP w A B d F at_ o7 o8 o9 o10 o11 o12) = some (.rt (rowD r) ρ)
    | none => ∃ ρ, whileN (tst (NW.bin ltD (varD 6) (callA lenD (consA (varD 4) nilA)))) l_next_apart_9 n (envP w A B d F at_ o7 o8 o9 o10 o11 o12) = some (.nx ρ)
  | 0, F, ok, at_, res, e, o7, o8, o9, o10, o11, o12 => by cases e
  | n + 1, F, ok, at_, res, e, o7, o8, o9, o10, o11, o12 => by
    have hc : tst (NW.bin ltD (varD 6) (callA lenD (consA (varD 4) nilA))) (envP w A B d F at_ o7 o8 o9 o10 o11 o12) = .ok (decide (at_ < F.found.length)) := by
      have : decide ((at_ : Int) < (F.found.length : Int)) = decide (at_ < F.found.length) := by
        rw [Bool.eq_iff_iff, decide_eq_true_iff, decide_eq_true_iff]; omega
      unfold envP
      simp [NW.R.bind, this]
    unfold bfs at e
    unfold whileN
    rw [hc]
    cases hat : F.found[at_]? with
    | none =>
      rw [hat] at e
      cases e
      have : ¬ at_ < F.found.length := by
        have := List.getElem?_eq_none_iff.mp hat
        omega
      rw [decide_eq_false this]
      exact ⟨_, rfl⟩
    | some spot =>
      rw [hat] at e
      dsimp only at e
      have hk := (List.getElem?_eq_some_iff.mp hat).1
      rw [decide_eq_true hk]
      dsimp only
      have ho := prog_outer h hA hB d ok hat o7 o8 o9 o10 o11 o12
      cases hv : visit w.arr A B spot (F.rows.getD at_ []) (List.range w.kinds) F with
      | inl r' =>
        rw [hv] at e ho
        cases e
        obtain ⟨ρ, ho⟩ := ho
        exact ⟨ρ, by rw [ho]⟩
      | inr F' =>
        rw [hv] at e ho
        obtain ⟨o7', o8', o9', o10', o11', o12', ho⟩ := ho
        rw [ho]
        have hrl := ok.row_at hk
        have ok' := (visit_ok h.arr hA.tab hB.tab (ok.box _ (List.mem_of_getElem? hat)) _ ok (Nat.lt_of_le_of_lt hrl hk) hv).1
        exact prog_while n ok' (at_ + 1) res e o7' o8' o9' o10' o11' o12'
end
end K79.PL
end

section
set_option Elab.async false
set_option linter.all false
/-! PLl: the program's search joined; the law's search. -/
namespace K79.PL
open PySem NW
def srch (arr : Tab) (A B : Rl) (kinds s x y : Nat) : Option (List Nat) := if A.1.getD x 0 ≠ B.1.getD y 0 then some [] else (bfs arr A B kinds 2000 0 ⟨[(s, x, y)], [[]]⟩).getD none
/-- what next_apart answers -/
def due (w : Wd) (A B : Rl) (row : List Nat) (s : Nat) : R D := match wk A.2 0 row with
  | (m, some a) => .ex 9 [.int m, .int a]
  | (m, none) => match wk B.2 0 row with
    | (m2, some a) => .ex 9 [.int m2, .int a]
    | (m2, none) => .ok (resD (srch w.arr A B w.kinds s m m2))
section
variable {w : Wd} {A B : Rl} {sA sB : Nat} (h : WdOk w) (hA : RlOk w.kinds sA A) (hB : RlOk w.kinds sB B)
include h hA hB in
theorem srch_bfs {s x y : Nat} (hs : s < w.states) (hx : x < A.1.length) (hy : y < B.1.length) : ∃ res, bfs w.arr A B w.kinds 2000 0 ⟨[(s, x, y)], [[]]⟩ = some res ∧ FdOk w.states A.1.length B.1.length ⟨[(s, x, y)], [[]]⟩ := by
  have ok : FdOk w.states A.1.length B.1.length ⟨[(s, x, y)], [[]]⟩ := ⟨by simp, fun t ht => by
    rw [List.mem_singleton.mp ht]
    exact ⟨hs, hx, hy⟩, rfl, fun i r e => by
    cases i with
    | zero => cases e; exact Nat.le_refl _
    | succ i => cases e⟩
  have h2 := Nat.mul_le_mul (Nat.mul_le_mul h.states3 hA.top) hB.top
  obtain ⟨o, e⟩ := bfs_total h.arr hA.tab hB.tab 2000 0 ok (by simp) (by omega)
  exact ⟨o, e, ok⟩
include h hA hB in
theorem next_apart {row way : List Nat} {s : Nat} {d : D} (hd : IsSeen w row way s d) : m_next_apart [d, rlO A, rlO B] = due w A B row s := by
  have k1 := check_kinds h hd (r := rlO A) rfl (Rule_kinds hA)
  have k2 := check_kinds h hd (r := rlO B) rfl (Rule_kinds hB)
  rw [if_pos rfl] at k1 k2
  have m1 := memory_after h hd hA
  have m2 := memory_after h hd hB
  have hwA := wk_lt hA.tab (row := row) hA.pos
  have hwB := wk_lt hB.tab (row := row) hB.pos
  have hapart := fun x y (hx : x < A.1.length) (hy : y < B.1.length) => are_apart hA hB (x := some x) (y := some y) (fun v hv => by cases hv; exact hx) (fun v hv => by cases hv; exact hy)
  have hsrch := fun s x y => srch_bfs h hA hB (s := s) (x := x) (y := y)
  have hwhile := fun d n F ok at_ res e => prog_while h hA hB d n (F := F) ok at_ res e
  obtain ⟨pairs, moments, paid, tab, rfl, ok⟩ := hd
  have hs := run_lt h.arr h.states0 ok.hrun
  have hf1 : fldD 13 1 w.d = .ok (machD w.arr) := rfl
  have hwh2 := fun res e okF => hwhile (seenD w row way pairs moments paid s tab) 2000 ⟨[(s, (wk A.2 0 row).1, (wk B.2 0 row).1)], [[]]⟩ okF 0 res e none none none none none none
  unfold due
  cases hwa : wk A.2 0 row with
  | mk x oa =>
    rw [hwa] at m1 hwA hwh2
    cases oa with
    | some a =>
      dsimp only
      unfold seenD at *
      generalize w.d = wd at *
      generalize rlO A = ra at *
      generalize rlO B = rb at *
      unfold m_next_apart b_next_apart
      simp [NW.R.bind, NW.R.out, Out.seq, k1, k2, hf1, m1, wkR]
    | none =>
      dsimp only
      cases hwb : wk B.2 0 row with
      | mk y ob =>
        rw [hwb] at m2 hwB hwh2
        cases ob with
        | some b =>
          dsimp only
          unfold seenD at *
          generalize w.d = wd at *
          generalize rlO A = ra at *
          generalize rlO B = rb at *
          unfold m_next_apart b_next_apart
          simp [NW.R.bind, NW.R.out, Out.seq, k1, k2, hf1, m1, m2, wkR]
        | none =>
          dsimp only at hwA hwB hwh2 ⊢
          obtain ⟨res, eb, okF⟩ := hsrch s x y hs hwA hwB
          have hwh3 := hwh2 res eb okF
          have hap := hapart x y hwA hwB
          have hapE : apart A B (some x) (some y) = decide (A.1.getD x 0 ≠ B.1.getD y 0) := rfl
          rw [hapE] at hap
          simp only [oi_some] at hap
          unfold srch
          rw [eb]
          have hde : dict1 (NW.bin ixD (varD 4) (cD (.int 0))) (lstD nilA) = dict1 (NW.bin ixD (varD 4) (cD (.int 0))) (lstD nilA) := rfl
          have hk : keyOf (.tup [.int (s : Nat), .int (x : Nat), .int (y : Nat)]) = some [.inl (s : Int), .inl (x : Int), .inl (y : Int)] := rfl
          unfold envP at hwh3
          have hsp : spotD (s, x, y) = .tup [.int s, .int x, .int y] := rfl
          simp only [List.map_cons, List.map_nil, hsp, rowD, nums_nil] at hwh3
          unfold seenD at *
          generalize w.d = wd at *
          generalize rlO A = ra at *
          generalize rlO B = rb at *
          generalize A.1.getD x 0 = u at *
          generalize B.1.getD y 0 = v at *
          generalize hL : l_next_apart_9 = L at hwh3
          unfold m_next_apart b_next_apart
          rw [hL]
          by_cases huv : u = v
          · subst huv
            rw [if_neg (by simp)]
            cases res with
            | some r =>
              obtain ⟨ρ, e⟩ := hwh3
              have e := whileS_of e
              rw [show (((0 : Nat) : Int)) = 0 from rfl] at e
              simp [NW.R.bind, NW.R.out, Out.seq, k1, k2, hf1, m1, m2, wkR, hap, dict1, hk, szL, e, resD]
            | none =>
              obtain ⟨ρ, e⟩ := hwh3
              have e := whileS_of e
              rw [show (((0 : Nat) : Int)) = 0 from rfl] at e
              simp [NW.R.bind, NW.R.out, Out.seq, k1, k2, hf1, m1, m2, wkR, hap, dict1, hk, szL, e, resD, flat]
          · rw [if_pos huv]
            simp [NW.R.bind, NW.R.out, Out.seq, k1, k2, hf1, m1, m2, wkR, hap, szL, huv, resD]
/-! ### the law's search -/
def envL (w : Wd) (A B : Rl) (o1 o3 o5 : Option D) (F : Fd) (at_ o10 o11 o12 o13 o14 o15 : Option D) : NW.Env := [some (.lst (tabL w.arr)), o1, some (rlL A), o3, some (rlL B), o5, some (.lst (F.found.map spotD)), some (.lst (F.rows.map rowD)), some (.dct (F.found.map spotD) (F.found.map fun _ => .bl true)), at_, o10, o11, o12, o13, o14, o15]
theorem din_spot2 (neg : Bool) (F : Fd) (ds : List D) (s : Spot) : dinD neg (spotD s) (.dct (F.found.map spotD) ds) = .ok (.bl (if neg then !decide (s ∈ F.found) else decide (s ∈ F.found))) := by
  unfold dinD
  dsimp only
  rw [keyOf_spot]
  dsimp only
  rw [find_spot]
  by_cases h : s ∈ F.found
  · rw [find_mem h, decide_eq_true h]
  · rw [find_no h, decide_eq_false h]
    rfl
theorem row_at {F : Fd} {k : Nat} (h : k < F.rows.length) : L2.atI (F.rows.map rowD) (k : Int) = some (rowD (F.rows.getD k [])) := by
  rw [atI_nat (by simpa using h)]
  simp [h]
include h hA hB in
theorem law_step {F : Fd} (ok : FdOk w.states A.1.length B.1.length F) {at_ : Nat} {s x y : Nat} (hat : F.found[at_]? = some (s, x, y)) {r : Nat} (hr : r < w.kinds) (o1 o3 o5 o12 o13 o14 o15 : Option D) :
    match go w.arr s r with
    | none => ∃ o12' o13' o14' o15', l__law_next_10 (envL w A B o1 o3 o5 F (some (.int at_)) (some (spotD (s, x, y))) (some (.int r)) o12 o13 o14 o15) = .nx (envL w A B o1 o3 o5 F (some (.int at_)) (some (spotD (s, x, y))) (some (.int r)) o12' o13' o14' o15')
    | some s' => if apart A B (go A.2 x r) (go B.2 y r) then ∃ ρ, l__law_next_10 (envL w A B o1 o3 o5 F (some (.int at_)) (some (spotD (s, x, y))) (some (.int r)) o12 o13 o14 o15) = .rt (rowD (F.rows.getD at_ [] ++ [r])) ρ else
      match go A.2 x r, go B.2 y r with
      | some x', some y' => if (s', x', y') ∈ F.found then ∃ o12' o13' o14' o15', l__law_next_10 (envL w A B o1 o3 o5 F (some (.int at_)) (some (spotD (s, x, y))) (some (.int r)) o12 o13 o14 o15) = .nx (envL w A B o1 o3 o5 F (some (.int at_)) (some (spotD (s, x, y))) (some (.int r)) o12' o13' o14' o15')
        else ∃ o12' o13' o14' o15', l__law_next_10 (envL w A B o1 o3 o5 F (some (.int at_)) (some (spotD (s, x, y))) (some (.int r)) o12 o13 o14 o15) = .nx (envL w A B o1 o3 o5 ⟨F.found ++ [(s', x', y')], F.rows ++ [F.rows.getD at_ [] ++ [r]]⟩ (some (.int at_)) (some (spotD (s, x, y))) (some (.int r)) o12' o13' o14' o15')
      | _, _ => ∃ o12' o13' o14' o15', l__law_next_10 (envL w A B o1 o3 o5 F (some (.int at_)) (some (spotD (s, x, y))) (some (.int r)) o12 o13 o14 o15) = .nx (envL w A B o1 o3 o5 F (some (.int at_)) (some (spotD (s, x, y))) (some (.int r)) o12' o13' o14' o15') := by
  have hbox := ok.box _ (List.mem_of_getElem? hat)
  dsimp only at hbox
  have hk := (List.getElem?_eq_some_iff.mp hat).1
  have hsm := Fd_small h hA hB ok
  have t1 := tabL_at (t := w.arr) (k := s) (by rw [h.arr.len]; exact hbox.1)
  have t2 := tabL_at (t := A.2) (k := x) (by rw [hA.tab.len]; exact hbox.2.1)
  have t3 := tabL_at (t := B.2) (k := y) (by rw [hB.tab.len]; exact hbox.2.2)
  have u1 := ois_at (ys := w.arr.getD s []) (k := r) (by rw [(h.arr.at_ hbox.1).1]; exact hr)
  have u2 := ois_at (ys := A.2.getD x []) (k := r) (by rw [(hA.tab.at_ hbox.2.1).1]; exact hr)
  have u3 := ois_at (ys := B.2.getD y []) (k := r) (by rw [(hB.tab.at_ hbox.2.2).1]; exact hr)
  have gx := fun v (e : go A.2 x r = some v) => hA.tab.go_lt hbox.2.1 e
  have gy := fun v (e : go B.2 y r = some v) => hB.tab.go_lt hbox.2.2 e
  have g1 : go w.arr s r = (w.arr.getD s []).getD r none := rfl
  have g2 : go A.2 x r = (A.2.getD x []).getD r none := rfl
  have g3 : go B.2 y r = (B.2.getD y []).getD r none := rfl
  rw [← g1] at u1
  rw [← g2] at u2
  rw [← g3] at u3
  have hrl := ok.row_at hk
  have e6 := row_at (F := F) (k := at_) (by rw [ok.len]; exact hk)
  have hin := fun sp => din_spot2 true F (F.found.map fun _ => D.bl true) sp
  have hput := fun sp (hs : sp ∉ F.found) => dput_spot (F := F) (by omega) hs (F.found.map fun _ => D.bl true) (.bl true)
  have hl := ok.len
  unfold envL rlL
  generalize w.arr.getD s [] = q1 at *
  generalize A.2.getD x [] = q2 at *
  generalize B.2.getD y [] = q3 at *
  generalize F.rows.getD at_ [] = row at *
  have l1 : row.length + 1 ≤ 16777216 := by omega
  have l2 : F.found.length < 16777216 := by omega
  have l3 : F.rows.length < 16777216 := by omega
  have hsp : spotD (s, x, y) = .tup [.int s, .int x, .int y] := rfl
  rw [hsp]
  generalize ht : tabL w.arr = ta at *
  generalize tabL A.2 = tb at *
  generalize tabL B.2 = tc at *
  unfold rowD at *
  cases hg : go w.arr s r with
  | none =>
    rw [hg] at u1
    simp only [oi_none, oi_some] at u1
    refine ⟨some .non, o13, o14, o15, ?_⟩
    unfold l__law_next_10
    simp [NW.R.bind, NW.R.out, Out.seq, t1, u1]
  | some s' =>
    rw [hg] at u1
    simp only [oi_none, oi_some] at u1
    dsimp only
    cases hx : go A.2 x r with
    | none =>
      rw [hx] at u2
      cases hy : go B.2 y r with
      | none =>
        rw [hy] at u3
        simp only [oi_none, oi_some] at u2 u3
        have hap : apart A B none none = false := rfl
        rw [hap, if_neg (by simp)]
        refine ⟨some (.int s'), some .non, some .non, o15, ?_⟩
        unfold l__law_next_10
        simp [NW.R.bind, NW.R.out, Out.seq, t1, u1, t2, u2, t3, u3, neD, eqF]
      | some y' =>
        rw [hy] at u3
        simp only [oi_none, oi_some] at u2 u3
        have hap : apart A B none (some y') = true := rfl
        rw [hap, if_pos rfl]
        refine ⟨[some (.lst ta), o1, some (.lst [.lst (nums A.1), .lst tb]), o3, some (.lst [.lst (nums B.1), .lst tc]), o5, some (.lst (F.found.map spotD)), some (.lst (F.rows.map fun r => D.lst (nums r))), some (.dct (F.found.map spotD) (F.found.map fun _ => .bl true)), some (.int at_), some (.tup [.int s, .int x, .int y]), some (.int r), some (.int s'), some (.non), some (.int y'), o15], ?_⟩
        unfold l__law_next_10
        simp [NW.R.bind, NW.R.out, Out.seq, t1, u1, t2, u2, t3, u3, neD, eqF, e6, addD, szL, l1]
    | some x' =>
      rw [hx] at u2
      cases hy : go B.2 y r with
      | none =>
        rw [hy] at u3
        simp only [oi_none, oi_some] at u2 u3
        have hap : apart A B (some x') none = true := rfl
        rw [hap, if_pos rfl]
        refine ⟨[some (.lst ta), o1, some (.lst [.lst (nums A.1), .lst tb]), o3, some (.lst [.lst (nums B.1), .lst tc]), o5, some (.lst (F.found.map spotD)), some (.lst (F.rows.map fun r => D.lst (nums r))), some (.dct (F.found.map spotD) (F.found.map fun _ => .bl true)), some (.int at_), some (.tup [.int s, .int x, .int y]), some (.int r), some (.int s'), some (.int x'), some (.non), o15], ?_⟩
        unfold l__law_next_10
        simp [NW.R.bind, NW.R.out, Out.seq, t1, u1, t2, u2, t3, u3, neD, eqF, e6, addD, szL, l1]
      | some y' =>
        rw [hy] at u3
        simp only [oi_none, oi_some] at u2 u3
        have i1 := nums_at (xs := A.1) (k := x') (gx x' hx)
        have i2 := nums_at (xs := B.1) (k := y') (gy y' hy)
        have hapE : apart A B (some x') (some y') = decide (A.1.getD x' 0 ≠ B.1.getD y' 0) := rfl
        rw [hapE]
        generalize A.1.getD x' 0 = u at *
        generalize B.1.getD y' 0 = v at *
        by_cases huv : u = v
        · subst huv
          rw [if_neg (by simp)]
          dsimp only
          have hi := hin (s', x', y')
          have hsp2 : spotD (s', x', y') = .tup [.int s', .int x', .int y'] := rfl
          by_cases hm : (s', x', y') ∈ F.found
          · rw [if_pos hm]
            rw [decide_eq_true hm, hsp2] at hi
            refine ⟨some (.int s'), some (.int x'), some (.int y'), some (.tup [.int s', .int x', .int y']), ?_⟩
            unfold l__law_next_10
            simp [NW.R.bind, NW.R.out, Out.seq, t1, u1, t2, u2, t3, u3, neD, eqF, i1, i2, szL, hi]
          · rw [if_neg hm]
            rw [decide_eq_false hm, hsp2] at hi
            have hp := hput (s', x', y') hm
            rw [hsp2] at hp
            refine ⟨some (.int s'), some (.int x'), some (.int y'), some (.tup [.int s', .int x', .int y']), ?_⟩
            unfold l__law_next_10
            simp [NW.R.bind, NW.R.out, Out.seq, t1, u1, t2, u2, t3, u3, neD, eqF, i1, i2, szL, hi, asgS, dsubG, hp, l1, l2, l3, e6, addD, hsp2]
        · rw [if_pos (by simp [huv])]
          have huv' : ¬ (u : Int) = (v : Int) := by omega
          refine ⟨[some (.lst ta), o1, some (.lst [.lst (nums A.1), .lst tb]), o3, some (.lst [.lst (nums B.1), .lst tc]), o5, some (.lst (F.found.map spotD)), some (.lst (F.rows.map fun r => D.lst (nums r))), some (.dct (F.found.map spotD) (F.found.map fun _ => .bl true)), some (.int at_), some (.tup [.int s, .int x, .int y]), some (.int r), some (.int s'), some (.int x'), some (.int y'), o15], ?_⟩
          unfold l__law_next_10
          simp [NW.R.bind, NW.R.out, Out.seq, t1, u1, t2, u2, t3, u3, neD, eqF, i1, i2, huv, huv', e6, addD, szL, l1]
  end
end K79.PL
end

section
set_option Elab.async false
set_option linter.all false
/-! PLm: the law's search joined, walked, fits. -/
namespace K79.PL
open PySem NW
section
variable {w : Wd} {A B : Rl} {sA sB : Nat} (h : WdOk w) (hA : RlOk w.kinds sA A) (hB : RlOk w.kinds sB B)
include h hA hB in
theorem law_inner {at_ s x y : Nat} {row : List Nat} (o1 o3 o5 : Option D) : ∀ (rs : List Nat) {F : Fd} (ok : FdOk w.states A.1.length B.1.length F) (hat : F.found[at_]? = some (s, x, y)) (hrow : F.rows.getD at_ [] = row) (hr : ∀ r ∈ rs, r < w.kinds) (o11 o12 o13 o14 o15 : Option D),
    match visit w.arr A B (s, x, y) row rs F with
    | .inl r' => ∃ ρ, forD (nameG 11) l__law_next_10 (nums rs) (envL w A B o1 o3 o5 F (some (.int at_)) (some (spotD (s, x, y))) o11 o12 o13 o14 o15) = .rt (rowD r') ρ
    | .inr F' => ∃ o11' o12' o13' o14' o15', forD (nameG 11) l__law_next_10 (nums rs) (envL w A B o1 o3 o5 F (some (.int at_)) (some (spotD (s, x, y))) o11 o12 o13 o14 o15) = .nx (envL w A B o1 o3 o5 F' (some (.int at_)) (some (spotD (s, x, y))) o11' o12' o13' o14' o15')
  | [], F, ok, hat, hrow, hr, o11, o12, o13, o14, o15 => ⟨_, _, _, _, _, rfl⟩
  | r :: rs, F, ok, hat, hrow, hr, o11, o12, o13, o14, o15 => by
    have h1 := hr r List.mem_cons_self
    have st := law_step h hA hB ok hat h1 o1 o3 o5 o12 o13 o14 o15
    rw [hrow] at st
    have hbox := ok.box _ (List.mem_of_getElem? hat)
    have hk := (List.getElem?_eq_some_iff.mp hat).1
    have hrl := ok.row_at hk
    rw [hrow] at hrl
    rw [nums_cons]
    unfold forD visit
    have e0 : nameG 11 (D.int r) (envL w A B o1 o3 o5 F (some (.int at_)) (some (spotD (s, x, y))) o11 o12 o13 o14 o15) = .ok (envL w A B o1 o3 o5 F (some (.int at_)) (some (spotD (s, x, y))) (some (.int r)) o12 o13 o14 o15) := rfl
    rw [e0]
    dsimp only
    have ih := fun F ok hat hrow o12 o13 o14 o15 => law_inner (at_ := at_) (s := s) (x := x) (y := y) (row := row) o1 o3 o5 rs (F := F) ok hat hrow (fun r hr' => hr r (List.mem_cons_of_mem _ hr')) (some (.int r)) o12 o13 o14 o15
    cases hg : go w.arr s r with
    | none =>
      rw [hg] at st
      obtain ⟨p12, p13, p14, p15, e⟩ := st
      rw [e]
      exact ih F ok hat hrow p12 p13 p14 p15
    | some s' =>
    rw [hg] at st
    dsimp only at st ⊢
    by_cases hap : apart A B (go A.2 x r) (go B.2 y r) = true
    · rw [if_pos hap] at st ⊢
      obtain ⟨ρ, e⟩ := st
      exact ⟨ρ, by rw [e]⟩
    · rw [if_neg hap] at st ⊢
      split at st
      · rename_i x' y' ex ey
        try rw [ex, ey]
        try dsimp only
        by_cases hm : (s', x', y') ∈ F.found
        · rw [if_pos hm] at st ⊢
          obtain ⟨p12, p13, p14, p15, e⟩ := st
          rw [e]
          exact ih F ok hat hrow p12 p13 p14 p15
        · rw [if_neg hm] at st ⊢
          obtain ⟨p12, p13, p14, p15, e⟩ := st
          rw [e]
          have ok' := (visit_ok h.arr hA.tab hB.tab (spot := (s, x, y)) (row := row) hbox [r] (F := F) ok (by omega) (F' := ⟨F.found ++ [(s', x', y')], F.rows ++ [row ++ [r]]⟩) (by
            unfold visit
            rw [hg]
            dsimp only
            rw [if_neg hap, ex, ey]
            dsimp only
            rw [if_neg hm]
            rfl)).1
          exact ih ⟨F.found ++ [(s', x', y')], F.rows ++ [row ++ [r]]⟩ ok' (by rw [List.getElem?_append_left hk]; exact hat) (by rw [getD_app _ _ _ _ (by rw [ok.len]; exact hk)]; exact hrow) p12 p13 p14 p15
      · obtain ⟨p12, p13, p14, p15, e⟩ := st
        rw [e]
        rename_i hno
        have := ih F ok hat hrow p12 p13 p14 p15
        cases ex : go A.2 x r with
        | none => exact this
        | some x' =>
          cases ey : go B.2 y r with
          | none => exact this
          | some y' => exact (hno x' y' ex ey).elim
theorem upto_nums (n : Nat) : upto 0 (n : Int) = nums (List.range n) := by
  unfold upto nums
  rw [Int.sub_zero, Int.toNat_natCast]
  refine List.map_congr_left fun k _ => ?_
  rw [Int.zero_add]
include h hA hB in
theorem law_outer {F : Fd} (ok : FdOk w.states A.1.length B.1.length F) {at_ : Nat} {spot : Spot} (hat : F.found[at_]? = some spot) (o1 o3 o5 o10 o11 o12 o13 o14 o15 : Option D) :
    match visit w.arr A B spot (F.rows.getD at_ []) (List.range w.kinds) F with
    | .inl r' => ∃ ρ, l__law_next_6 (envL w A B o1 o3 o5 F (some (.int at_)) o10 o11 o12 o13 o14 o15) = .rt (rowD r') ρ
    | .inr F' => ∃ o10' o11' o12' o13' o14' o15', l__law_next_6 (envL w A B o1 o3 o5 F (some (.int at_)) o10 o11 o12 o13 o14 o15) = .nx (envL w A B o1 o3 o5 F' (some (.int at_)) o10' o11' o12' o13' o14' o15') := by
  obtain ⟨s, x, y⟩ := spot
  have hbox := ok.box _ (List.mem_of_getElem? hat)
  have hin := law_inner h hA hB (at_ := at_) (s := s) (x := x) (y := y) o1 o3 o5 (List.range w.kinds) ok hat rfl (fun r hr => List.mem_range.mp hr) o11 o12 o13 o14 o15
  rw [← upto_nums] at hin
  have hk := (List.getElem?_eq_some_iff.mp hat).1
  have hne : ¬ (at_ : Int) = (F.found.length : Int) := by omega
  have es := spot_at hat
  have t0 := tabL_at (t := w.arr) (k := 0) (by rw [h.arr.len]; exact h.states0)
  have t0 : L2.atI (tabL w.arr) 0 = _ := t0
  have tl := (h.arr.at_ (k := 0) h.states0).1
  have hb : big (w.kinds : Int) = true := big_n (by have := h.kinds3; omega)
  generalize hL : l__law_next_10 = L at hin
  unfold l__law_next_6
  rw [hL]
  unfold envL at *
  generalize rlL A = ra at *
  generalize rlL B = rb at *
  generalize tabL w.arr = ta at *
  generalize w.arr.getD 0 [] = l0 at *
  generalize spotD (s, x, y) = sd at *
  generalize visit w.arr A B (s, x, y) (F.rows.getD at_ []) (List.range w.kinds) F = V at *
  cases V with
  | inl r' =>
    obtain ⟨ρ, e⟩ := hin
    exact ⟨ρ, by simp [NW.R.bind, NW.R.out, Out.seq, hne, es, t0, tl, hb, e]⟩
  | inr F' =>
    obtain ⟨p11, p12, p13, p14, p15, e⟩ := hin
    exact ⟨some sd, p11, p12, p13, p14, p15, by simp [NW.R.bind, NW.R.out, Out.seq, hne, es, t0, tl, hb, e]⟩
include h hA hB in
theorem law_next {s x y : Nat} (hs : s < w.states) (hx : x < A.1.length) (hy : y < B.1.length) : m__law_next [.lst (tabL w.arr), .int s, rlL A, .int x, rlL B, .int y] = .ok (resD (srch w.arr A B w.kinds s x y)) := by
  obtain ⟨res, eb, okF⟩ := srch_bfs h hA hB hs hx hy
  have hb : big 2000 = true := big_n (n := 2000) (by omega)
  have key : ∃ ρ, forD (nameG 9) l__law_next_6 (upto 0 ((2000 : Nat) : Int)) (envL w A B (some (.int s)) (some (.int x)) (some (.int y)) ⟨[(s, x, y)], [[]]⟩ none none none none none none none) = .rt (resD res) ρ := by
    refine forN (i := 9) (n := 2000) (b := l__law_next_6) (Q := fun O => ∃ ρ, O = .rt (resD res) ρ)
      (fun k ρ => ∃ F o9 o10 o11 o12 o13 o14 o15, ρ = envL w A B (some (.int s)) (some (.int x)) (some (.int y)) F o9 o10 o11 o12 o13 o14 o15 ∧ FdOk w.states A.1.length B.1.length F ∧ k ≤ F.found.length ∧ bfs w.arr A B w.kinds (2000 - k) k F = some res) ⟨_, none, none, none, none, none, none, none, rfl, okF, Nat.zero_le _, eb⟩ ?_ ?_
    · rintro k ρ hk ⟨F, o9, o10, o11, o12, o13, o14, o15, rfl, ok, hkF, e⟩
      have e0 : (envL w A B (some (.int s)) (some (.int x)) (some (.int y)) F o9 o10 o11 o12 o13 o14 o15).set 9 (some (.int (k : Nat))) = envL w A B (some (.int s)) (some (.int x)) (some (.int y)) F (some (.int k)) o10 o11 o12 o13 o14 o15 := rfl
      rw [e0]
      obtain ⟨m, hm⟩ : ∃ m, 2000 - k = m + 1 := ⟨2000 - k - 1, by omega⟩
      rw [hm] at e
      unfold bfs at e
      cases hat : F.found[k]? with
      | none =>
        rw [hat] at e
        cases e
        right
        have : k = F.found.length := by
          have := List.getElem?_eq_none_iff.mp hat
          omega
        refine ⟨.non, envL w A B (some (.int s)) (some (.int x)) (some (.int y)) F (some (.int k)) o10 o11 o12 o13 o14 o15, ?_, _, rfl⟩
        subst this
        unfold l__law_next_6 envL
        simp [NW.R.bind, NW.R.out, Out.seq]
      | some spot =>
        rw [hat] at e
        dsimp only at e
        have ho := law_outer h hA hB ok hat (some (.int s)) (some (.int x)) (some (.int y)) o10 o11 o12 o13 o14 o15
        cases hv : visit w.arr A B spot (F.rows.getD k []) (List.range w.kinds) F with
        | inl r' =>
          rw [hv] at e ho
          cases e
          obtain ⟨ρ, ho⟩ := ho
          exact .inr ⟨_, ρ, ho, ρ, rfl⟩
        | inr F' =>
          rw [hv] at e ho
          obtain ⟨p10, p11, p12, p13, p14, p15, ho⟩ := ho
          have hk2 := (List.getElem?_eq_some_iff.mp hat).1
          have hrl := ok.row_at hk2
          have ok' := visit_ok h.arr hA.tab hB.tab (ok.box _ (List.mem_of_getElem? hat)) _ ok (Nat.lt_of_le_of_lt hrl hk2) hv
          refine .inl ⟨_, ho, F', _, _, _, _, _, _, _, rfl, ok'.1, by omega, ?_⟩
          rw [show 2000 - (k + 1) = m by omega]
          exact e
    · rintro ρ ⟨F, o9, o10, o11, o12, o13, o14, o15, rfl, ok, hkF, e⟩
      cases e
  obtain ⟨ρ, e⟩ := key
  have i1 := nums_at (xs := A.1) (k := x) hx
  have i2 := nums_at (xs := B.1) (k := y) hy
  unfold srch
  rw [eb]
  unfold envL at e
  have hk : keyOf (.tup [.int (s : Nat), .int (x : Nat), .int (y : Nat)]) = some [.inl (s : Int), .inl (x : Int), .inl (y : Int)] := rfl
  have hsp : spotD (s, x, y) = .tup [.int s, .int x, .int y] := rfl
  simp only [List.map_cons, List.map_nil, hsp, rowD, nums_nil] at e
  rw [show (((2000 : Nat) : Int)) = 2000 from rfl] at e
  unfold rlL at *
  generalize A.1.getD x 0 = u at *
  generalize B.1.getD y 0 = v at *
  generalize tabL w.arr = ta at *
  generalize hL : l__law_next_6 = L at e
  unfold m__law_next b__law_next
  rw [hL]
  by_cases huv : u = v
  · subst huv
    rw [if_neg (by simp)]
    simp [NW.R.bind, NW.R.out, Out.seq, i1, i2, szL, dict1, hk, hb, e]
  · rw [if_pos huv]
    have huv' : ¬ (u : Int) = (v : Int) := by omega
    simp [NW.R.bind, NW.R.out, Out.seq, i1, i2, szL, huv, huv', resD]
/-! ### walked -/
theorem walked_loop {kinds size : Nat} {R : Rl} (h : RlOk kinds size R) (o1 : Option D) : ∀ (row : List Nat) (m : Nat) (o3 o4 : Option D), m < R.1.length → (∀ a ∈ row, a < kinds) →
    match wk R.2 m row with
    | (m', none) => ∃ o3' o4', forD (nameG 3) l__law_walked_2 (nums row) [some (rlL R), o1, some (.int m), o3, o4] = .nx [some (rlL R), o1, some (.int m'), o3', o4']
    | (m', some a) => ∃ ρ, forD (nameG 3) l__law_walked_2 (nums row) [some (rlL R), o1, some (.int m), o3, o4] = .rt (.lst [.int m', .int a]) ρ
  | [], m, o3, o4, hm, hz => ⟨_, _, rfl⟩
  | a :: row, m, o3, o4, hm, hz => by
    have ih := fun g hg o4 => walked_loop h o1 row g (some (.int a)) o4 hg fun z hz' => hz z (List.mem_cons_of_mem _ hz')
    have t2 := tabL_at (t := R.2) (k := m) (by rw [h.tab.len]; exact hm)
    have u2 := ois_at (ys := R.2.getD m []) (k := a) (by rw [(h.tab.at_ hm).1]; exact hz a List.mem_cons_self)
    have g2 : go R.2 m a = (R.2.getD m []).getD a none := rfl
    rw [← g2] at u2
    rw [nums_cons]
    unfold forD
    have e0 : nameG 3 (D.int a) [some (rlL R), o1, some (.int m), o3, o4] = .ok [some (rlL R), o1, some (.int m), some (.int a), o4] := rfl
    rw [e0]
    dsimp only
    unfold wk
    unfold rlL at *
    generalize R.2.getD m [] = q2 at *
    cases hg : go R.2 m a with
    | none =>
      rw [hg] at u2
      simp only [oi_none, oi_some] at u2
      refine ⟨[some (.lst [.lst (nums R.1), .lst (tabL R.2)]), o1, some (.int m), some (.int a), some .non], ?_⟩
      have : l__law_walked_2 [some (.lst [.lst (nums R.1), .lst (tabL R.2)]), o1, some (.int m), some (.int a), o4] = .rt (.lst [.int m, .int a]) [some (.lst [.lst (nums R.1), .lst (tabL R.2)]), o1, some (.int m), some (.int a), some .non] := by
        unfold l__law_walked_2
        simp [NW.R.bind, NW.R.out, Out.seq, t2, u2, szL]
      rw [this]
    | some g =>
      rw [hg] at u2
      simp only [oi_none, oi_some] at u2
      have : l__law_walked_2 [some (.lst [.lst (nums R.1), .lst (tabL R.2)]), o1, some (.int m), some (.int a), o4] = .nx [some (.lst [.lst (nums R.1), .lst (tabL R.2)]), o1, some (.int g), some (.int a), some (.int g)] := by
        unfold l__law_walked_2
        simp [NW.R.bind, NW.R.out, Out.seq, t2, u2, szL]
      rw [this]
      exact ih g (h.tab.go_lt hm hg) (some (.int g))
theorem law_walked {kinds size : Nat} {R : Rl} (h : RlOk kinds size R) {row : List Nat} (hr : ∀ a ∈ row, a < kinds) : m__law_walked [rlL R, .lst (nums row)] = .ok (.lst [.int (wk R.2 0 row).1, oi (wk R.2 0 row).2]) := by
  have hl := walked_loop h (some (.lst (nums row))) row 0 none none h.pos hr
  rw [show (((0 : Nat) : Int)) = 0 from rfl] at hl
  generalize rlL R = rd at *
  generalize hL : l__law_walked_2 = L at hl
  unfold m__law_walked b__law_walked
  rw [hL]
  generalize wk R.2 0 row = o at *
  obtain ⟨m, _ | a⟩ := o
  · obtain ⟨o3, o4, e⟩ := hl
    simp [NW.R.bind, NW.R.out, Out.seq, e, szL]
  · obtain ⟨ρ, e⟩ := hl
    simp [NW.R.bind, NW.R.out, Out.seq, e, szL]
/-! ### fits, the law's way -/
theorem law_fits {kinds size : Nat} {R : Rl} (h : RlOk kinds size R) {row way : List Nat} (hr : ∀ a ∈ row, a < kinds) (hw : way.length = row.length) (hl : row.length ≤ 1000) (begin : Nat) : m__law_fits [rlL R, .int begin, .lst (nums row), .lst (nums way)] = .ok (.bl (fitsP R begin row way)) := by
  have hb : big (row.length : Int) = true := big_n (by omega)
  have key : (∃ ρ, forD (nameG 5) l__law_fits_4 (upto 0 (row.length : Int)) [some (rlL R), some (.int begin), some (.lst (nums row)), some (.lst (nums way)), some (.int 0), none] = .nx ρ ∧ ft R 0 (row.zip way) = true) ∨ ∃ ρ, forD (nameG 5) l__law_fits_4 (upto 0 (row.length : Int)) [some (rlL R), some (.int begin), some (.lst (nums row)), some (.lst (nums way)), some (.int 0), none] = .rt (.bl false) ρ ∧ ft R 0 (row.zip way) = false := by
    refine forN (i := 5) (n := row.length) (b := l__law_fits_4) (Q := fun O => (∃ ρ, O = .nx ρ ∧ ft R 0 (row.zip way) = true) ∨ ∃ ρ, O = .rt (.bl false) ρ ∧ ft R 0 (row.zip way) = false)
      (fun k ρ => ∃ m o5, ρ = [some (rlL R), some (.int begin), some (.lst (nums row)), some (.lst (nums way)), some (.int (m : Nat)), o5] ∧ m < R.1.length ∧ ft R 0 (row.zip way) = ft R m ((row.zip way).drop k)) ⟨0, none, rfl, h.pos, rfl⟩ ?_ ?_
    · rintro k ρ hk ⟨m, o5, rfl, hm, hft⟩
      have e1 := nums_at (xs := row) (k := k) hk
      have e2 := nums_at (xs := way) (k := k) (by omega)
      have hd : (row.zip way).drop k = (row.getD k 0, way.getD k 0) :: (row.zip way).drop (k + 1) := by
        rw [List.drop_eq_getElem_cons (by simp; omega)]
        congr 1
        rw [List.getElem_zip, List.getD_eq_getElem?_getD, List.getD_eq_getElem?_getD, List.getElem?_eq_getElem hk, List.getElem?_eq_getElem (show k < way.length by omega)]
        rfl
      have ha := hr _ (getD_mem (z := 0) hk)
      generalize ft R 0 (row.zip way) = G at hft ⊢
      rw [hd] at hft
      generalize row.getD k 0 = a at *
      generalize way.getD k 0 = p at *
      have t2 := tabL_at (t := R.2) (k := m) (by rw [h.tab.len]; exact hm)
      have u2 := ois_at (ys := R.2.getD m []) (k := a) (by rw [(h.tab.at_ hm).1]; exact ha)
      have g2 : go R.2 m a = (R.2.getD m []).getD a none := rfl
      rw [← g2] at u2
      unfold ft at hft
      unfold rlL at *
      generalize R.2.getD m [] = q2 at *
      cases hg : go R.2 m a with
      | none =>
        rw [hg] at u2 hft
        simp only [oi_none, oi_some] at u2
        refine .inr ⟨.bl false, [some (.lst [.lst (nums R.1), .lst (tabL R.2)]), some (.int begin), some (.lst (nums row)), some (.lst (nums way)), some .non, some (.int k)], ?_, .inr ⟨_, rfl, hft⟩⟩
        unfold l__law_fits_4
        simp [NW.R.bind, NW.R.out, Out.seq, t2, u2, e1]
      | some g =>
        rw [hg] at u2 hft
        simp only [oi_none, oi_some] at u2
        dsimp only at hft
        have hgl := h.tab.go_lt hm hg
        have i1 := nums_at (xs := R.1) (k := g) hgl
        generalize R.1.getD g 0 = q at *
        by_cases hqp : q = p
        · subst hqp
          rw [if_pos rfl] at hft
          refine .inl ⟨[some (.lst [.lst (nums R.1), .lst (tabL R.2)]), some (.int begin), some (.lst (nums row)), some (.lst (nums way)), some (.int g), some (.int k)], ?_, g, _, rfl, hgl, hft⟩
          unfold l__law_fits_4
          simp [NW.R.bind, NW.R.out, Out.seq, t2, u2, e1, e2, i1]
        · rw [if_neg hqp] at hft
          have hqp' : ¬ (q : Int) = (p : Int) := by omega
          refine .inr ⟨.bl false, [some (.lst [.lst (nums R.1), .lst (tabL R.2)]), some (.int begin), some (.lst (nums row)), some (.lst (nums way)), some (.int g), some (.int k)], ?_, .inr ⟨_, rfl, hft⟩⟩
          unfold l__law_fits_4
          simp [NW.R.bind, NW.R.out, Out.seq, t2, u2, e1, e2, i1, hqp']
    · rintro ρ ⟨m, o5, rfl, hm, hft⟩
      refine .inl ⟨_, rfl, ?_⟩
      rw [hft, List.drop_eq_nil_of_le (by simp; omega)]
      rfl
  have h0 := nums_at (xs := R.1) (k := 0) h.pos
  have h0 : L2.atI (nums R.1) 0 = _ := h0
  unfold fitsP
  unfold rlL at *
  generalize R.1.getD 0 0 = x at *
  generalize hL : l__law_fits_4 = L at key
  unfold m__law_fits b__law_fits
  rw [hL]
  by_cases hx : x = begin
  · subst hx
    rcases key with ⟨ρ, e, hft⟩ | ⟨ρ, e, hft⟩
    · simp [NW.R.bind, NW.R.out, Out.seq, h0, hb, e, hft]
    · simp [NW.R.bind, NW.R.out, Out.seq, h0, hb, e, hft]
  · have hx' : ¬ (x : Int) = (begin : Int) := by omega
    simp [NW.R.bind, NW.R.out, Out.seq, h0, hx, hx']
end
end K79.PL
end

section
set_option Elab.async false
set_option linter.all false
/-! PLn: alike, asked, fitted, due. -/
namespace K79.PL
open PySem NW
/-! ### alike things -/
def Gd : Nat → D → Prop
  | 0, _ => False
  | n + 1, d => flat d = true ∨ ∃ ds, (d = .lst ds ∨ d = .tup ds) ∧ ds.length ≤ 100000 ∧ ∀ x ∈ ds, Gd n x
theorem alike_loop {rec : List D → R D} {ds : List D} (h : ∀ x ∈ ds, rec [x, x] = .ok (.bl true)) {d : D} (hd : d = .lst ds ∨ d = .tup ds) (o : Option D) : ∃ o', forD (nameG 2) (l__law_alike_14 rec) (upto 0 (ds.length : Int)) [some d, some d, o] = .nx [some d, some d, o'] := by
  obtain ⟨ρ2, e, o', rfl⟩ := forN1 (i := 2) (n := ds.length) (b := l__law_alike_14 rec) (ρ := [some d, some d, o]) (fun k ρ => ∃ o', ρ = [some d, some d, o']) ⟨o, rfl⟩ (by
    rintro k ρ hk ⟨o', rfl⟩
    refine ⟨[some d, some d, some (.int k)], ?_, _, rfl⟩
    have e1 := atI_nat (xs := ds) hk
    have e2 := h ds[k] (List.getElem_mem hk)
    unfold l__law_alike_14
    rcases hd with rfl | rfl <;> simp [R.bind, R.out, Out.seq, e1, e2])
  exact ⟨o', e⟩
theorem alike : ∀ (n : Nat) {d : D}, Gd n d → m__law_alike n [d, d] = .ok (.bl true)
  | 0, d, h => h.elim
  | n + 1, d, h => by
    show fnD 2 3 (b__law_alike (m__law_alike n)) [d, d] = _
    rw [fnD_run (by rfl)]
    show outR (b__law_alike (m__law_alike n) [some d, some d, none]) = _
    rcases h with h | ⟨ds, hd, hl, hx⟩
    · unfold b__law_alike
      cases d <;> first | (cases h; done) | skip
      · simp [R.bind, R.out, Out.seq]
      · simp [R.bind, R.out, Out.seq, isiD, isD, NW.isNon, eqD, eqF]
      · simp [R.bind, R.out, Out.seq, isiD, isD, NW.isNon, eqD, eqF, notD]
      · simp [R.bind, R.out, Out.seq, isiD, isD, NW.isNon, eqD, eqF]
    · obtain ⟨o', e⟩ := alike_loop (rec := m__law_alike n) (fun x hx' => alike n (hx x hx')) hd none
      have hb : big (ds.length : Int) = true := big_n hl
      generalize hL : l__law_alike_14 (m__law_alike n) = L at e
      unfold b__law_alike
      rw [hL]
      rcases hd with rfl | rfl
      · simp [R.bind, R.out, Out.seq, isiD, isD, NW.isNon, e, hb]
      · simp [R.bind, R.out, Out.seq, isiD, isD, NW.isNon, e, hb]
theorem Gd.flat {n : Nat} {d : D} (h : flat d = true) : Gd (n + 1) d := .inl h
theorem Gd.nums {n : Nat} {xs : List Nat} (hl : xs.length ≤ 100000) : Gd (n + 2) (.lst (nums xs)) := .inr ⟨_, .inl rfl, by simpa using hl, fun x hx => by
  obtain ⟨y, _, rfl⟩ := nums_mem hx
  exact .inl rfl⟩
theorem Gd.numt {n : Nat} {xs : List Nat} (hl : xs.length ≤ 100000) : Gd (n + 2) (.tup (NW.nums xs)) := .inr ⟨_, .inr rfl, by simpa using hl, fun x hx => by
  obtain ⟨y, _, rfl⟩ := nums_mem hx
  exact .inl rfl⟩
/-! ### what is asked -/
def askD : R D → D
  | .ok v => .lst [.str "row", v]
  | .ex 9 [m, a] => .lst [.str "ready", m, a]
  | _ => .lst [.str "unlike"]
theorem law_asked {d ra rb : D} {r : R D} (hd : clean d = true) (ha : clean ra = true) (hb : clean rb = true) (e : m_next_apart [d, ra, rb] = r) (hr : (∃ v, r = .ok v ∧ clean v = true) ∨ (∃ m a : Nat, r = .ex 9 [.int m, .int a]) ∨ r = .ex 3 []) : m__law_asked [d, ra, rb] = .ok (askD r) := by
  unfold m__law_asked b__law_asked
  rw [fnD_run (by rfl)]
  show outR (tryS _ _ [some d, some ra, some rb, none]) = _
  have c1 : cleanE [some d, some ra, some rb, none] = true := by simp [cleanE, hd, ha, hb]
  rcases hr with ⟨v, rfl, hv⟩ | ⟨m, a, rfl⟩ | rfl
  · simp [tryS, R.bind, R.out, Out.seq, e, flat, szL, askD]
  · have c2 : clean (.lst [.str "ready", .int m, .int a]) = true := by simp only [clean, cleans]; rfl
    simp [tryS, R.bind, R.out, Out.seq, e, flat, szL, askD, hdN, ts_9, undoN, xfD, c1, c2]
  · have c2 : clean (.lst [.str "unlike"]) = true := by simp only [clean, cleans]; rfl
    simp [tryS, R.bind, R.out, Out.seq, e, flat, szL, askD, hdN, hdC, ts_9, ts_3, undo, c1, c2]
/-! ### fitting -/
theorem compR {g : D → NW.Env → R NW.Env} {c : NW.Env → R Bool} {e : NW.Env → R D} {ρ : NW.Env} (f : Nat → D) (q : Nat → Bool) : ∀ (l : List Nat), (∀ k ∈ l, ∃ ρ1, g (f k) ρ = .ok ρ1 ∧ c ρ1 = .ok (q k) ∧ e ρ1 = .ok (.int (k : Nat))) → compD g c e (l.map f) ρ = .ok (nums (l.filter q))
  | [], _ => rfl
  | k :: l, h => by
    obtain ⟨ρ1, h1, h2, h3⟩ := h k List.mem_cons_self
    have ih := compR (g := g) (c := c) (e := e) (ρ := ρ) f q l fun k hk => h k (List.mem_cons_of_mem _ hk)
    rw [List.map_cons]
    unfold compD
    rw [h1]
    dsimp only
    rw [h2]
    cases hq : q k with
    | true => simp [R.bind, h3, ih, List.filter_cons, hq]
    | false => simp [R.bind, ih, List.filter_cons, hq]
theorem compR_ex {g : D → NW.Env → R NW.Env} {c : NW.Env → R Bool} {e : NW.Env → R D} {ρ : NW.Env} {x : Nat} {xs : List D} (f : Nat → D) (q : Nat → Bool) (z : D) (hz : ∃ ρ1, g z ρ = .ok ρ1 ∧ c ρ1 = .ex x xs) : ∀ (l : List Nat), (∀ k ∈ l, ∃ ρ1, g (f k) ρ = .ok ρ1 ∧ c ρ1 = .ok (q k) ∧ e ρ1 = .ok (.int (k : Nat))) → compD g c e (l.map f ++ [z]) ρ = .ex x xs
  | [], _ => by
    obtain ⟨ρ1, h1, h2⟩ := hz
    show compD g c e [z] ρ = _
    unfold compD
    rw [h1]
    dsimp only
    rw [h2]
  | k :: l, h => by
    obtain ⟨ρ1, h1, h2, h3⟩ := h k List.mem_cons_self
    have ih := compR_ex (g := g) (c := c) (e := e) (ρ := ρ) f q z hz l fun k hk => h k (List.mem_cons_of_mem _ hk)
    rw [List.map_cons, List.cons_append]
    unfold compD
    rw [h1]
    dsimp only
    rw [h2]
    cases hq : q k with
    | true => simp [R.bind, h3, ih]
    | false => simp [R.bind, ih]
def rl0 : Rl := ([], [])
theorem zip_upto (ds : List D) : zipL (upto 0 (ds.length : Int)) ds = (List.range ds.length).map fun k => .tup [.int (k : Nat), ds.getD k .non] := by
  unfold zipL
  rw [upto_nums]
  unfold nums
  refine List.ext_getElem (by simp) fun k h1 h2 => ?_
  have hk : k < ds.length := by simpa using h2
  simp [hk]
section
variable {w : Wd} (h : WdOk w) {Rs : List Rl} (hR : RulesOk w.kinds w.size Rs)
def fitL (w : Wd) (Rs : List Rl) (row way : List Nat) : List Nat := (List.range Rs.length).filter fun k => fitsP (Rs.getD k rl0) w.start row way
theorem RulesOk.at_ {kinds size : Nat} {Rs : List Rl} (hR : RulesOk kinds size Rs) {k : Nat} (hk : k < Rs.length) : RlOk kinds size (Rs.getD k rl0) := hR.ok _ (getD_mem hk)
theorem rlO_at {Rs : List Rl} {k : Nat} (hk : k < Rs.length) : (Rs.map rlO).getD k .non = rlO (Rs.getD k rl0) := by
  rw [List.getD_eq_getElem?_getD, List.getD_eq_getElem?_getD, List.getElem?_map, List.getElem?_eq_getElem hk]
  rfl
include h hR in
theorem fit_turn {row way : List Nat} {s : Nat} {d : D} (hd : IsSeen w row way s d) (l : D) : ∀ k ∈ List.range Rs.length, ∃ ρ1, tupG (consG (nameG 2) (consG (nameG 3) nilG)) (.tup [.int (k : Nat), rlO (Rs.getD k rl0)]) [some d, some l, none, none] = .ok ρ1 ∧ tst (methD 14 m_Seen_fits (varD 0) (consA (varD 3) nilA)) ρ1 = .ok (fitsP (Rs.getD k rl0) w.start row way) ∧ varD 2 ρ1 = .ok (.int (k : Nat)) := by
  intro k hk
  have hk := List.mem_range.mp hk
  have e := Seen_fits h hd (hR.at_ hk)
  have c : isC 14 d = true := by
    obtain ⟨_, _, _, _, rfl, _⟩ := hd
    rfl
  generalize rlO (Rs.getD k rl0) = r at *
  exact ⟨_, rfl, by simp [NW.R.bind, methD, c, e], rfl⟩
include h hR in
theorem fitting {row way : List Nat} {s : Nat} {d : D} (hd : IsSeen w row way s d) : m_fitting [d, .lst (Rs.map rlO)] = .ok (.lst (nums (fitL w Rs row way))) := by
  have key := compR (g := tupG (consG (nameG 2) (consG (nameG 3) nilG))) (c := tst (methD 14 m_Seen_fits (varD 0) (consA (varD 3) nilA))) (e := varD 2) (ρ := [some d, some (.lst (Rs.map rlO)), none, none]) (fun k => .tup [.int (k : Nat), rlO (Rs.getD k rl0)]) (fun k => fitsP (Rs.getD k rl0) w.start row way) (List.range Rs.length) (fit_turn h hR hd _)
  have hz := zip_upto (Rs.map rlO)
  rw [List.length_map] at hz
  have hz2 : (List.range Rs.length).map (fun (k : Nat) => D.tup [.int (k : Nat), (Rs.map rlO).getD k .non]) = (List.range Rs.length).map fun (k : Nat) => D.tup [.int (k : Nat), rlO (Rs.getD k rl0)] := by
    refine List.map_congr_left fun k hk => ?_
    rw [rlO_at (List.mem_range.mp hk)]
  rw [hz2] at hz
  rw [← hz] at key
  have hl := hR.len
  have hs : (zipL (upto 0 (Rs.length : Int)) (Rs.map rlO)).length ≤ 16777216 := by
    rw [hz]
    simp
    omega
  unfold m_fitting b_fitting
  generalize hds : Rs.map rlO = ds at *
  have hdl : ds.length = Rs.length := by rw [← hds]; simp
  simp [NW.R.bind, NW.R.out, Out.seq, compX, enumF, enumI, enumL, hdl, hs, wipeE, key, fitL]
/-- a rule of another kind -/
def oddD (w : Wd) : D := .obj 12 [.tup [.int w.start], .tup [.tup (nums (List.replicate (w.kinds + 1) 0))]]
theorem odd_kinds (w : Wd) : m_Rule_kinds [oddD w] = .ok (.int ((w.kinds + 1 : Nat))) := by
  unfold m_Rule_kinds b_Rule_kinds
  simp [NW.R.bind, NW.R.out, Out.seq, oddD]
include h in
theorem odd_check {row way : List Nat} {s : Nat} {d : D} (hd : IsSeen w row way s d) : m_check_kinds [d, oddD w] = .ex 3 [] := by
  rw [check_kinds h hd rfl (odd_kinds w), if_neg (by omega)]
include h in
theorem odd_fits {row way : List Nat} {s : Nat} {d : D} (hd : IsSeen w row way s d) : m_Seen_fits [d, oddD w] = .ex 3 [] := by
  have e := odd_check h hd
  generalize oddD w = od at *
  unfold m_Seen_fits b_Seen_fits
  simp [NW.R.bind, NW.R.out, Out.seq, e]
include h hR in
theorem fitting_odd {row way : List Nat} {s : Nat} {d : D} (hd : IsSeen w row way s d) : m_fitting [d, .lst (Rs.map rlO ++ [oddD w])] = .ex 3 [] := by
  have c : isC 14 d = true := by
    obtain ⟨_, _, _, _, rfl, _⟩ := hd
    rfl
  have eo := odd_fits h hd
  have key := compR_ex (g := tupG (consG (nameG 2) (consG (nameG 3) nilG))) (c := tst (methD 14 m_Seen_fits (varD 0) (consA (varD 3) nilA))) (e := varD 2) (ρ := [some d, some (.lst (Rs.map rlO ++ [oddD w])), none, none]) (fun k => .tup [.int (k : Nat), rlO (Rs.getD k rl0)]) (fun k => fitsP (Rs.getD k rl0) w.start row way) (.tup [.int (Rs.length : Nat), oddD w]) (x := 3) (xs := []) ⟨_, rfl, by simp [NW.R.bind, methD, c, eo]⟩ (List.range Rs.length) (fit_turn h hR hd _)
  have hz := zip_upto (Rs.map rlO ++ [oddD w])
  have hz2 : (List.range (Rs.map rlO ++ [oddD w]).length).map (fun (k : Nat) => D.tup [.int (k : Nat), (Rs.map rlO ++ [oddD w]).getD k .non]) = ((List.range Rs.length).map fun (k : Nat) => D.tup [.int (k : Nat), rlO (Rs.getD k rl0)]) ++ [.tup [.int (Rs.length : Nat), oddD w]] := by
    rw [List.length_append, List.length_map, List.length_singleton, List.range_succ, List.map_append]
    congr 1
    · refine List.map_congr_left fun k hk => ?_
      have hk := List.mem_range.mp hk
      rw [getD_app _ _ _ _ (by simpa using hk), rlO_at hk]
    · have := getD_end (Rs.map rlO) (oddD w) .non
      rw [List.length_map] at this
      rw [List.map_singleton, this]
  rw [hz2] at hz
  rw [← hz] at key
  have hl := hR.len
  have hs : (zipL (upto 0 ((Rs.map rlO ++ [oddD w]).length : Int)) (Rs.map rlO ++ [oddD w])).length ≤ 16777216 := by
    rw [hz]
    simp
    omega
  unfold m_fitting b_fitting
  generalize Rs.map rlO ++ [oddD w] = ds at *
  simp [NW.R.bind, NW.R.out, Out.seq, compX, enumF, enumI, enumL, hs, wipeE, key]
theorem cl_rules (Rs : List Rl) : cleans (Rs.map rlO) = true := cleans_all fun d hd => by
  obtain ⟨R, _, rfl⟩ := List.mem_map.mp hd
  exact cl_rlO R
theorem law_fitted {d : D} {ds : List D} (hd : clean d = true) (hds : cleans ds = true) : (∀ v, m_fitting [d, .lst ds] = .ok v → m__law_fitted [d, .lst ds] = .ok (.lst [.str "list", v])) ∧ (m_fitting [d, .lst ds] = .ex 3 [] → m__law_fitted [d, .lst ds] = .ok (.lst [.str "unlike"])) := by
  have c1 : cleanE [some d, some (.lst ds), none] = true := by simp [cleanE, clean, hd, hds]
  constructor
  · intro v e
    unfold m__law_fitted b__law_fitted
    simp [tryS, R.bind, R.out, Out.seq, e, szL]
  · intro e
    have c2 : clean (.lst [.str "unlike"]) = true := by simp only [clean, cleans]; rfl
    unfold m__law_fitted b__law_fitted
    simp [tryS, R.bind, R.out, Out.seq, e, szL, hdN, ts_3, undoN, isxD, c1, c2]
end
/-! ### what is due -/
theorem state_loop {S kinds : Nat} {arr : Tab} (ha : TabOk S kinds S arr) (o1 o2 o3 o4 o5 : Option D) : ∀ (row : List Nat) (s s' : Nat) (o7 : Option D), s < S → run arr s row = some s' →
    ∃ o7', forD (nameG 7) l__law_due_8 (nums row) [some (.lst (tabL arr)), o1, o2, o3, o4, o5, some (.int s), o7] = .nx [some (.lst (tabL arr)), o1, o2, o3, o4, o5, some (.int s'), o7']
  | [], s, s', o7, hs, h => by cases h; exact ⟨_, rfl⟩
  | a :: row, s, s', o7, hs, h => by
    unfold run at h
    cases e : go arr s a with
    | none => rw [e] at h; cases h
    | some g =>
      rw [e] at h
      have hk := go_arg ha hs (by rw [e]; rfl : (go arr s a).isSome = true)
      have t2 := tabL_at (t := arr) (k := s) (by rw [ha.len]; exact hs)
      have u2 := ois_at (ys := arr.getD s []) (k := a) (by rw [(ha.at_ hs).1]; exact hk)
      have g2 : go arr s a = (arr.getD s []).getD a none := rfl
      rw [← g2, e] at u2
      obtain ⟨o7', ih⟩ := state_loop ha o1 o2 o3 o4 o5 row g s' (some (.int a)) (ha.go_lt hs e) h
      refine ⟨o7', ?_⟩
      rw [nums_cons]
      unfold forD
      have e0 : nameG 7 (D.int a) [some (.lst (tabL arr)), o1, o2, o3, o4, o5, some (.int s), o7] = .ok [some (.lst (tabL arr)), o1, o2, o3, o4, o5, some (.int s), some (.int a)] := rfl
      rw [e0]
      dsimp only
      generalize tabL arr = ta at *
      generalize arr.getD s [] = q at *
      have : l__law_due_8 [some (.lst ta), o1, o2, o3, o4, o5, some (.int s), some (.int a)] = .nx [some (.lst ta), o1, o2, o3, o4, o5, some (.int g), some (.int a)] := by
        unfold l__law_due_8
        simp [R.bind, R.out, Out.seq, t2, u2]
      rw [this]
      exact ih
section
variable {w : Wd} {A B : Rl} {sA sB : Nat} (h : WdOk w) (hA : RlOk w.kinds sA A) (hB : RlOk w.kinds sB B)
include h hA hB in
theorem law_due {row : List Nat} {s : Nat} (hrun : run w.arr 0 row = some s) : m__law_due [.lst (tabL w.arr), .lst (nums row), rlL A, rlL B] = .ok (askD (due w A B row s)) := by
  have hargs := run_args h.arr h.states0 hrun
  have hs := run_lt h.arr h.states0 hrun
  have w1 := law_walked hA hargs
  have w2 := law_walked hB hargs
  have hwA := wk_lt hA.tab (row := row) hA.pos
  have hwB := wk_lt hB.tab (row := row) hB.pos
  have hn := fun x y hx hy => law_next h hA hB (s := s) (x := x) (y := y) hs hx hy
  have hst := fun o4 o5 => state_loop h.arr (some (.lst (nums row))) (some (rlL A)) (some (rlL B)) o4 o5 row 0 s none h.states0 hrun
  rw [show (((0 : Nat) : Int)) = 0 from rfl] at hst
  unfold due
  generalize rlL A = ra at *
  generalize rlL B = rb at *
  generalize tabL w.arr = ta at *
  generalize hL : l__law_due_8 = L at hst
  unfold m__law_due b__law_due
  rw [hL]
  cases hwa : wk A.2 0 row with
  | mk x oa =>
    rw [hwa] at w1 hwA
    cases oa with
    | some a =>
      dsimp only at w1
      simp only [oi_some] at w1
      simp [NW.R.bind, NW.R.out, Out.seq, w1, szL, askD]
    | none =>
      dsimp only at w1
      simp only [oi_none] at w1
      cases hwb : wk B.2 0 row with
      | mk y ob =>
        rw [hwb] at w2 hwB
        cases ob with
        | some b =>
          dsimp only at w2
          simp only [oi_some] at w2
          simp [NW.R.bind, NW.R.out, Out.seq, w1, w2, szL, askD]
        | none =>
          dsimp only at w2
          simp only [oi_none] at w2
          have hn := hn x y hwA hwB
          obtain ⟨o7, e⟩ := hst (some (.lst [.int x, .non])) (some (.lst [.int y, .non]))
          simp [NW.R.bind, NW.R.out, Out.seq, w1, w2, szL, askD, e, hn]
include h hA hB in
theorem asked {row way : List Nat} {s : Nat} {d : D} (hd : IsSeen w row way s d) : m__law_asked [d, rlO A, rlO B] = .ok (askD (due w A B row s)) := by
  refine law_asked (cl_seen hd) (cl_rlO A) (cl_rlO B) (next_apart h hA hB hd) ?_
  unfold due
  cases wk A.2 0 row with
  | mk x oa =>
    cases oa with
    | some a => exact .inr (.inl ⟨_, _, rfl⟩)
    | none =>
      cases wk B.2 0 row with
      | mk y ob =>
        cases ob with
        | some b => exact .inr (.inl ⟨_, _, rfl⟩)
        | none =>
          refine .inl ⟨_, rfl, ?_⟩
          cases srch w.arr A B w.kinds s x y with
          | none => unfold resD clean; rfl
          | some r => unfold resD clean; exact cl_nums r
end
end K79.PL
end

section
set_option Elab.async false
set_option linter.all false
/-! PLo: checked. -/
namespace K79.PL
open PySem NW
theorem visit_len {arr : Tab} {A B : Rl} {spot : Spot} {row r' : List Nat} : ∀ (rs : List Nat) (F : Fd), visit arr A B spot row rs F = .inl r' → r'.length = row.length + 1
  | [], F, e => by cases e
  | r :: rs, F, e => by
    unfold visit at e
    split at e
    · exact visit_len rs F e
    · split at e
      · cases e; simp
      · split at e
        · split at e
          · exact visit_len rs _ e
          · exact visit_len rs _ e
        · exact visit_len rs _ e
section
variable {w : Wd} {A B : Rl} {sA sB : Nat} (h : WdOk w) (hA : RlOk w.kinds sA A) (hB : RlOk w.kinds sB B)
include h hA hB in
theorem bfs_len : ∀ (n at_ : Nat) (F : Fd) (r : List Nat), FdOk w.states A.1.length B.1.length F → bfs w.arr A B w.kinds n at_ F = some (some r) → r.length ≤ 2000
  | 0, at_, F, r, ok, e => by cases e
  | n + 1, at_, F, r, ok, e => by
    unfold bfs at e
    cases hat : F.found[at_]? with
    | none => rw [hat] at e; cases e
    | some spot =>
      rw [hat] at e
      dsimp only at e
      have hk := (List.getElem?_eq_some_iff.mp hat).1
      have hrl := ok.row_at hk
      have hsm := Fd_small h hA hB ok
      cases hv : visit w.arr A B spot (F.rows.getD at_ []) (List.range w.kinds) F with
      | inl r' =>
        rw [hv] at e
        cases e
        have := visit_len _ _ hv
        omega
      | inr F' =>
        rw [hv] at e
        exact bfs_len n (at_ + 1) F' r (visit_ok h.arr hA.tab hB.tab (ok.box _ (List.mem_of_getElem? hat)) _ ok (Nat.lt_of_le_of_lt hrl hk) hv).1 e
include h hA hB in
theorem due_form {row : List Nat} {s : Nat} (hs : s < w.states) : (∃ m a : Nat, due w A B row s = .ex 9 [.int m, .int a]) ∨ due w A B row s = .ok .non ∨ ∃ r : List Nat, due w A B row s = .ok (.lst (nums r)) ∧ r.length ≤ 2000 := by
  have hwA := wk_lt hA.tab (row := row) hA.pos
  have hwB := wk_lt hB.tab (row := row) hB.pos
  unfold due
  cases hwa : wk A.2 0 row with
  | mk x oa =>
    rw [hwa] at hwA
    cases oa with
    | some a => exact .inl ⟨_, _, rfl⟩
    | none =>
      cases hwb : wk B.2 0 row with
      | mk y ob =>
        rw [hwb] at hwB
        cases ob with
        | some b => exact .inl ⟨_, _, rfl⟩
        | none =>
          right
          dsimp only
          unfold srch
          split
          · exact .inr ⟨[], rfl, by simp⟩
          · obtain ⟨res, eb, ok⟩ := srch_bfs h hA hB hs hwA hwB
            rw [eb]
            cases res with
            | none => exact .inl rfl
            | some r => exact .inr ⟨r, rfl, bfs_len h hA hB _ _ _ r ok eb⟩
end
def pairD (p : Nat × Nat) : D := .lst [.int p.1, .int p.2]
theorem rlL_at {Rs : List Rl} {k : Nat} (hk : k < Rs.length) : L2.atI (Rs.map rlL) (k : Int) = some (rlL (Rs.getD k rl0)) := by
  rw [atI_nat (by simpa using hk)]
  simp [hk]
theorem rlO_atI {Rs : List Rl} {k : Nat} (hk : k < Rs.length) : L2.atI (Rs.map rlO) (k : Int) = some (rlO (Rs.getD k rl0)) := by
  rw [atI_nat (by simpa using hk)]
  simp [hk]
theorem eqD_str (a b : Str) : eqD (.str a) (.str b) = .ok (.bl (decide (a = b))) := rfl
theorem ready_row : eqD (.str "ready") (.str "row") = .ok (.bl false) := by
  rw [eqD_str, decide_eq_false (by decide)]
theorem row_row : eqD (.str "row") (.str "row") = .ok (.bl true) := by
  rw [eqD_str, decide_eq_true rfl]
section
variable {w : Wd} (h : WdOk w) {Rs : List Rl} (hR : RulesOk w.kinds w.size Rs)
include h hR in
theorem checked7 {row way : List Nat} {s : Nat} {d : D} (hd : IsSeen w row way s d) {p : Nat × Nat} (h1 : p.1 < Rs.length) (h2 : p.2 < Rs.length) (o2 o4 o7 o8 o9 o11 o12 : Option D) : ∃ o11' o12', l__law_checked_7 [some d, some (.lst (tabL w.arr)), o2, some (.lst (nums row)), o4, some (.lst (Rs.map rlL)), some (.lst (Rs.map rlO)), o7, o8, o9, some (pairD p), o11, o12] = .nx [some d, some (.lst (tabL w.arr)), o2, some (.lst (nums row)), o4, some (.lst (Rs.map rlL)), some (.lst (Rs.map rlO)), o7, o8, o9, some (pairD p), o11', o12'] := by
  have hA := hR.at_ h1
  have hB := hR.at_ h2
  have ea := asked h hA hB hd
  have hrun : run w.arr 0 row = some s := by
    obtain ⟨_, _, _, _, _, ok⟩ := hd
    exact ok.hrun
  have ed := law_due h hA hB hrun
  have i1 := rlL_at h1
  have i2 := rlL_at h2
  have i3 := rlO_atI h1
  have i4 := rlO_atI h2
  have hf := due_form h hA hB (row := row) (run_lt h.arr h.states0 hrun)
  generalize due w _ _ row s = V at *
  generalize rlL (Rs.getD p.1 rl0) = r1 at *
  generalize rlL (Rs.getD p.2 rl0) = r2 at *
  generalize rlO (Rs.getD p.1 rl0) = r3 at *
  generalize rlO (Rs.getD p.2 rl0) = r4 at *
  unfold pairD
  rcases hf with ⟨m, a, rfl⟩ | rfl | ⟨r, rfl, hr⟩
  · have hg := alike 5 (d := askD (.ex 9 [.int m, .int a])) (.inr ⟨_, .inl rfl, by simp, fun x hx => by
      simp at hx
      rcases hx with rfl | rfl | rfl <;> exact .inl rfl⟩)
    simp only [askD] at *
    refine ⟨some (.lst [.str "ready", .int m, .int a]), some (.lst [.str "ready", .int m, .int a]), ?_⟩
    unfold l__law_checked_7
    simp [NW.R.bind, NW.R.out, Out.seq, i1, i2, i3, i4, ea, ed, hg, flat, ready_row]
  · have hg := alike 5 (d := askD (.ok .non)) (.inr ⟨_, .inl rfl, by simp, fun x hx => by
      simp at hx
      rcases hx with rfl | rfl <;> exact .inl rfl⟩)
    simp only [askD] at *
    refine ⟨some (.lst [.str "row", .non]), some (.lst [.str "row", .non]), ?_⟩
    unfold l__law_checked_7
    simp [NW.R.bind, NW.R.out, Out.seq, i1, i2, i3, i4, ea, ed, hg, flat, row_row]
  · have hg := alike 5 (d := askD (.ok (.lst (nums r)))) (.inr ⟨_, .inl rfl, by simp, fun x hx => by
      simp at hx
      rcases hx with rfl | rfl
      · exact .inl rfl
      · exact Gd.nums (by omega)⟩)
    simp only [askD] at *
    have hl : r.length < 16777216 := by omega
    have x1 : L2.ixN 2 1 = some 1 := ixN_nat (n := 2) (k := 1) (by omega)
    refine ⟨some (.lst [.str "row", .lst (nums r)]), some (.lst [.str "row", .lst (nums r ++ [.int 0])]), ?_⟩
    unfold l__law_checked_7
    simp [NW.R.bind, NW.R.out, Out.seq, i1, i2, i3, i4, ea, ed, hg, flat, row_row, app2S, hl, x1]
include h hR in
theorem law_checked {row way : List Nat} {s : Nat} {d : D} (hd : IsSeen w row way s d) {ps : List (Nat × Nat)} (hps : ∀ p ∈ ps, p.1 < 6 ∧ p.2 < 6) : m__law_checked [d, .lst (tabL w.arr), .int w.start, .lst (nums row), .lst (nums way), .lst (Rs.map rlL), .lst (Rs.map rlO), .lst (ps.map pairD)] = .ok (.bl true) := by
  have hlen := hR.len
  have hrun : run w.arr 0 row = some s := by
    obtain ⟨_, _, _, _, _, ok⟩ := hd
    exact ok.hrun
  have hw : way.length = row.length := by
    obtain ⟨_, _, _, _, _, ok⟩ := hd
    exact ok.wyl
  have htop : row.length ≤ 20 := by
    obtain ⟨_, _, _, _, _, ok⟩ := hd
    exact ok.top
  have hargs := run_args h.arr h.states0 hrun
  have c14 : isC 14 d = true := by
    obtain ⟨_, _, _, _, rfl, _⟩ := hd
    rfl
  have hb : big (Rs.length : Int) = true := big_n (by omega)
  have hup : (upto 0 (Rs.length : Int)).length ≤ 16777216 := by rw [upto_leng]; omega
  -- the list of those that fit
  have hfit : compD (nameG 9) (tst (callA m__law_fits (consA (NW.bin ixD (varD 5) (varD 9)) (consA (varD 2) (consA (varD 3) (consA (varD 4) nilA)))))) (varD 9) (upto 0 (Rs.length : Int)) [some d, some (.lst (tabL w.arr)), some (.int w.start), some (.lst (nums row)), some (.lst (nums way)), some (.lst (Rs.map rlL)), some (.lst (Rs.map rlO)), some (.lst (ps.map pairD)), none, none, none, none, none] = .ok (nums (fitL w Rs row way)) := compN _ (by simp) fun k hk => by
    have i1 := rlL_at hk
    have e := law_fits (hR.at_ hk) hargs hw (by omega) w.start
    generalize rlL (Rs.getD k rl0) = r1 at *
    generalize fitsP _ _ _ _ = b at *
    simp [NW.R.bind, i1, e]
  -- each rule
  obtain ⟨ρ2, eloop, o9, rfl⟩ := forN1 (i := 9) (n := Rs.length) (b := l__law_checked_2) (ρ := [some d, some (.lst (tabL w.arr)), some (.int w.start), some (.lst (nums row)), some (.lst (nums way)), some (.lst (Rs.map rlL)), some (.lst (Rs.map rlO)), some (.lst (ps.map pairD)), some (.lst (nums (fitL w Rs row way))), none, none, none, none])
    (fun k ρ => ∃ o9, ρ = [some d, some (.lst (tabL w.arr)), some (.int w.start), some (.lst (nums row)), some (.lst (nums way)), some (.lst (Rs.map rlL)), some (.lst (Rs.map rlO)), some (.lst (ps.map pairD)), some (.lst (nums (fitL w Rs row way))), o9, none, none, none]) ⟨none, rfl⟩ (by
    rintro k ρ hk ⟨o9, rfl⟩
    refine ⟨_, ?_, some (.int k), rfl⟩
    have i1 := rlO_atI hk
    have e1 := Seen_fits h hd (hR.at_ hk)
    have e2 := in_nums false k (fitL w Rs row way)
    have e3 : decide (k ∈ fitL w Rs row way) = fitsP (Rs.getD k rl0) w.start row way := by
      rw [Bool.eq_iff_iff, decide_eq_true_iff]
      unfold fitL
      rw [List.mem_filter, List.mem_range]
      exact ⟨fun q => q.2, fun q => ⟨hk, q⟩⟩
    rw [e3] at e2
    generalize rlO (Rs.getD k rl0) = r1 at *
    generalize fitsP _ _ _ _ = b at *
    have e2 : inD false (.int k) (.lst (nums (fitL w Rs row way))) = .ok (.bl b) := e2
    have hg := alike 5 (d := .bl b) (.inl rfl)
    unfold l__law_checked_2
    simp [NW.R.bind, NW.R.out, Out.seq, methD, c14, i1, e1, e2, hg])
  -- each pair
  obtain ⟨ρ3, eloop2, o10, o11, o12, rfl⟩ := forL1 (i := 10) (b := l__law_checked_7) (ds := ps.map pairD) (ρ := [some d, some (.lst (tabL w.arr)), some (.int w.start), some (.lst (nums row)), some (.lst (nums way)), some (.lst (Rs.map rlL)), some (.lst (Rs.map rlO)), some (.lst (ps.map pairD)), some (.lst (nums (fitL w Rs row way))), o9, none, none, none])
    (fun k ρ => ∃ o10 o11 o12, ρ = [some d, some (.lst (tabL w.arr)), some (.int w.start), some (.lst (nums row)), some (.lst (nums way)), some (.lst (Rs.map rlL)), some (.lst (Rs.map rlO)), some (.lst (ps.map pairD)), some (.lst (nums (fitL w Rs row way))), o9, o10, o11, o12]) ⟨none, none, none, rfl⟩ (by
    rintro k d' ρ hk ⟨o10, o11, o12, rfl⟩
    obtain ⟨p, hp, rfl⟩ := List.mem_map.mp (List.mem_of_getElem? hk)
    obtain ⟨h1, h2⟩ := hps p hp
    obtain ⟨p11, p12, e⟩ := checked7 h hR hd (p := p) (by omega) (by omega) (some (.int w.start)) (some (.lst (nums way))) (some (.lst (ps.map pairD))) (some (.lst (nums (fitL w Rs row way)))) o9 o11 o12
    exact ⟨_, e, some (pairD p), p11, p12, rfl⟩)
  have efit := (law_fitted (cl_seen hd) (cl_rules Rs)).1 _ (fitting h hR hd)
  have hfl : (fitL w Rs row way).length ≤ 100000 := by
    have := List.length_filter_le (fun k => fitsP (Rs.getD k rl0) w.start row way) (List.range Rs.length)
    rw [List.length_range] at this
    unfold fitL
    omega
  have g1 := alike 5 (d := .lst [.str "list", .lst (nums (fitL w Rs row way))]) (.inr ⟨_, .inl rfl, by simp, fun x hx => by
    simp at hx
    rcases hx with rfl | rfl
    · exact .inl rfl
    · exact Gd.nums hfl⟩)
  have g2 := alike 5 (d := .tup (nums row)) (Gd.numt (by omega))
  have g3 := alike 5 (d := .tup (nums way)) (Gd.numt (by omega))
  have f1 : fldD 14 1 d = .ok (.tup (nums row)) := by
    obtain ⟨_, _, _, _, rfl, _⟩ := hd
    rfl
  have f2 : fldD 14 2 d = .ok (.tup (nums way)) := by
    obtain ⟨_, _, _, _, rfl, _⟩ := hd
    rfl
  generalize fitL w Rs row way = fl at *
  generalize hr1 : Rs.map rlL = r1 at *
  have hr1l : r1.length = Rs.length := by rw [← hr1]; simp
  generalize Rs.map rlO = r2 at *
  generalize ps.map pairD = pd at *
  generalize tabL w.arr = ta at *
  generalize hL2 : l__law_checked_2 = La at eloop
  generalize hL7 : l__law_checked_7 = Lb at eloop2
  unfold m__law_checked b__law_checked
  rw [hL2, hL7]
  simp [NW.R.bind, NW.R.out, Out.seq, compX, wipeE, hr1l, hb, hup, hfit, eloop, listD, efit, szL, g1, eloop2, f1, f2, tupleD, g2, g3]
end
end K79.PL
end

section
set_option Elab.async false
set_option linter.all false
/-! PLq: parted. -/
namespace K79.PL
open PySem NW
theorem state_loop2 {S kinds : Nat} {arr : Tab} (ha : TabOk S kinds S arr) (o0 o1 o3 o4 o5 o6 o7 o8 o11 o12 o13 o14 o15 : Option D) : ∀ (row : List Nat) (s s' : Nat) (o10 : Option D), s < S → run arr s row = some s' →
    ∃ o10', forD (nameG 10) l__law_parted_2 (nums row) [o0, o1, some (.lst (tabL arr)), o3, o4, o5, o6, o7, o8, some (.int s), o10, o11, o12, o13, o14, o15] = .nx [o0, o1, some (.lst (tabL arr)), o3, o4, o5, o6, o7, o8, some (.int s'), o10', o11, o12, o13, o14, o15]
  | [], s, s', o10, hs, h => by cases h; exact ⟨_, rfl⟩
  | a :: row, s, s', o10, hs, h => by
    unfold run at h
    cases e : go arr s a with
    | none => rw [e] at h; cases h
    | some g =>
      rw [e] at h
      have hk := go_arg ha hs (by rw [e]; rfl : (go arr s a).isSome = true)
      have t2 := tabL_at (t := arr) (k := s) (by rw [ha.len]; exact hs)
      have u2 := ois_at (ys := arr.getD s []) (k := a) (by rw [(ha.at_ hs).1]; exact hk)
      have g2 : go arr s a = (arr.getD s []).getD a none := rfl
      rw [← g2, e] at u2
      obtain ⟨o10', ih⟩ := state_loop2 ha o0 o1 o3 o4 o5 o6 o7 o8 o11 o12 o13 o14 o15 row g s' (some (.int a)) (ha.go_lt hs e) h
      refine ⟨o10', ?_⟩
      rw [nums_cons]
      unfold forD
      have e0 : nameG 10 (D.int a) [o0, o1, some (.lst (tabL arr)), o3, o4, o5, o6, o7, o8, some (.int s), o10, o11, o12, o13, o14, o15] = .ok [o0, o1, some (.lst (tabL arr)), o3, o4, o5, o6, o7, o8, some (.int s), some (.int a), o11, o12, o13, o14, o15] := rfl
      rw [e0]
      dsimp only
      generalize tabL arr = ta at *
      generalize arr.getD s [] = q at *
      have : l__law_parted_2 [o0, o1, some (.lst ta), o3, o4, o5, o6, o7, o8, some (.int s), some (.int a), o11, o12, o13, o14, o15] = .nx [o0, o1, some (.lst ta), o3, o4, o5, o6, o7, o8, some (.int g), some (.int a), o11, o12, o13, o14, o15] := by
        unfold l__law_parted_2
        simp [R.bind, R.out, Out.seq, t2, u2]
      rw [this]
      exact ih
section
variable {w : Wd} (h : WdOk w) {Rs : List Rl} (hR : RulesOk w.kinds w.size Rs)
include h hR in
theorem law_parted {row way : List Nat} {s : Nat} {d : D} (hd : IsSeen w row way s d) (hrow : row.length ≤ 12) {ps : List (Nat × Nat)} (hps : ∀ p ∈ ps, p.1 < 6 ∧ p.2 < 6) : m__law_parted [d, .lst (tabL w.ak), .lst (tabL w.arr), .int w.start, .lst (nums row), .lst (nums way), .lst (Rs.map rlL), .lst (Rs.map rlO), .lst (ps.map pairD)] = .ok (.bl true) := by
  have hch := law_checked h hR hd hps
  have hrun : run w.arr 0 row = some s := by
    obtain ⟨_, _, _, _, _, ok⟩ := hd
    exact ok.hrun
  have hwl : way.length = row.length := by
    obtain ⟨_, _, _, _, _, ok⟩ := hd
    exact ok.wyl
  have hs := run_lt h.arr h.states0 hrun
  have htw := twin h hd
  have c14 : isC 14 d = true := by
    obtain ⟨_, _, _, _, rfl, _⟩ := hd
    rfl
  obtain ⟨o10, est⟩ := state_loop2 h.arr (some d) (some (.lst (tabL w.ak))) (some (.int w.start)) (some (.lst (nums row))) (some (.lst (nums way))) (some (.lst (Rs.map rlL))) (some (.lst (Rs.map rlO))) (some (.lst (ps.map pairD))) none none none none none row 0 s none h.states0 hrun
  rw [show (((0 : Nat) : Int)) = 0 from rfl] at est
  have hat := tabL_at (t := w.arr) (k := s) (by rw [h.arr.len]; exact hs)
  have hl := (h.arr.at_ hs).1
  have hk3 := h.kinds3
  have hz3 := h.size3
  have hb : big (w.kinds : Int) = true := big_n (by omega)
  have hb2 : big (w.size : Int) = true := big_n (by omega)
  have hup : (upto 0 (w.kinds : Int)).length ≤ 16777216 := by rw [upto_leng]; omega
  have hup2 : (upto 0 (w.size : Int)).length ≤ 16777216 := by rw [upto_leng]; omega
  have hlets : compD (nameG 12) (tst (NW.bin isnotD (NW.bin ixD (NW.bin ixD (varD 2) (varD 9)) (varD 12)) (cD .non))) (varD 12) (upto 0 (w.kinds : Int)) [some d, some (.lst (tabL w.ak)), some (.lst (tabL w.arr)), some (.int w.start), some (.lst (nums row)), some (.lst (nums way)), some (.lst (Rs.map rlL)), some (.lst (Rs.map rlO)), some (.lst (ps.map pairD)), some (.int s), o10, none, none, none, none, none] = .ok (nums (lets w.arr w.kinds s)) := comp_lets (by simp) hl fun j hj => by
    have hj2 := ois_at (ys := w.arr.getD s []) (k := j) (by omega)
    simp [-List.getD_eq_getElem?_getD, R.bind, hat, hj2]
  by_cases hne : lets w.arr w.kinds s = []
  · rw [hne] at hlets
    have hal := h.akl
    generalize hta : tabL w.ak = ta at *
    have htal : ta.length = w.kinds := by rw [← hta]; simp [hal]
    generalize tabL w.arr = tb at *
    generalize Rs.map rlL = r1 at *
    generalize Rs.map rlO = r2 at *
    generalize ps.map pairD = pd at *
    generalize hL : l__law_parted_2 = L at est
    unfold m__law_parted b__law_parted
    rw [hL]
    simp [NW.R.bind, NW.R.out, Out.seq, est, htal, hb, compX, wipeE, hup, hlets, methD, c14, htw, hch]
  · obtain ⟨a, ha1, ha2⟩ := nums_getLast hne
    obtain ⟨ha3, ha4⟩ := List.mem_filter.mp ha1
    have ha5 := List.mem_range.mp ha3
    obtain ⟨s', hg⟩ := Option.isSome_iff_exists.mp ha4
    obtain ⟨p, hp1, hp2⟩ := nums_getLast (serve_ne h ha5)
    have la := atI_last ha2
    have lp := atI_last hp2
    have hak := tabL_at (t := w.ak) (k := a) (by rw [h.akl]; exact ha5)
    have hakl := (h.akrow ha5).len
    obtain ⟨d', en, hd'⟩ := note h hd hg hp1 (by omega)
    have hch2 := law_checked h hR hd' hps
    have hgoals : compD (nameG 15) (tst (NW.bin isnotD (NW.bin ixD (NW.bin ixD (varD 1) (NW.bin ixD (varD 11) (un1 negD (cD (.int 1))))) (varD 15)) (cD .non))) (varD 15) (upto 0 (w.size : Int)) [some d, some (.lst (tabL w.ak)), some (.lst (tabL w.arr)), some (.int w.start), some (.lst (nums row)), some (.lst (nums way)), some (.lst (Rs.map rlL)), some (.lst (Rs.map rlO)), some (.lst (ps.map pairD)), some (.int s), o10, some (.lst (nums (lets w.arr w.kinds s))), none, some d, none, none] = .ok (nums (serve w a)) := comp_lets (by simp) hakl fun j hj => by
      have hj2 := ois_at (ys := w.ak.getD a []) (k := j) (by omega)
      simp [-List.getD_eq_getElem?_getD, R.bind, negD, la, hak, hj2]
    have hpos : 0 < (lets w.arr w.kinds s).length := List.length_pos_iff.mpr hne
    have hal := h.akl
    have r1l : row.length + 1 ≤ 16777216 := by omega
    have r2l : way.length + 1 ≤ 16777216 := by omega
    rw [nums_app, nums_app, nums_cons, nums_cons, nums_nil] at hch2
    generalize hta : tabL w.ak = ta at *
    have htal : ta.length = w.kinds := by rw [← hta]; simp [hal]
    generalize tabL w.arr = tb at *
    generalize Rs.map rlL = r1 at *
    generalize Rs.map rlO = r2 at *
    generalize ps.map pairD = pd at *
    generalize lets w.arr w.kinds s = le at *
    generalize w.ak.getD a [] = q at *
    generalize hL : l__law_parted_2 = L at est
    obtain ⟨fs, hfs⟩ := isC_inv c14
    subst hfs
    obtain ⟨fs', hfs'⟩ : ∃ fs', d' = .obj 14 fs' := by
      obtain ⟨_, _, _, _, e, _⟩ := hd'
      exact ⟨_, e⟩
    subst hfs'
    unfold m__law_parted b__law_parted
    rw [hL]
    simp [NW.R.bind, NW.R.out, Out.seq, est, htal, hb, hb2, compX, wipeE, hup, hup2, hlets, methD, c14, htw, hch, hpos, negD, la, lp, hak, hakl, hgoals, exprM, methM, objAt, R.re, reM, RE.out, en, addD, r1l, r2l, szL, hch2, flat]
end
end K79.PL
end

section
set_option Elab.async false
set_option linter.all false
/-! PLr (printed by genr.py): the loops of the law. -/
namespace K79.PL
open PySem NW
theorem run_prefix {arr : Tab} : ∀ {a b : List Nat} {s t : Nat}, run arr s (a ++ b) = some t → ∃ u, run arr s a = some u
  | [], b, s, t, h => ⟨s, rfl⟩
  | x :: a, b, s, t, h => by
    rw [List.cons_append] at h
    unfold run at h ⊢
    cases e : go arr s x with
    | none => rw [e] at h; cases h
    | some g => rw [e] at h; exact run_prefix h
theorem take_snoc {l : List Nat} {k : Nat} (h : k < l.length) : l.take (k + 1) = l.take k ++ [l.getD k 0] := by
  rw [List.take_succ, List.getD_eq_getElem?_getD, List.getElem?_eq_getElem h]
  rfl
theorem run_at {arr : Tab} {row : List Nat} {s t u : Nat} (h : run arr s row = some t) {k : Nat} (hk : k < row.length) (hu : run arr s (row.take k) = some u) : ∃ v, go arr u (row.getD k 0) = some v := by
  have h1 := run_prefix (a := row.take (k + 1)) (b := row.drop (k + 1)) (by rw [List.take_append_drop]; exact h)
  obtain ⟨v, hv⟩ := h1
  rw [take_snoc hk, run_snoc hu] at hv
  exact ⟨v, hv⟩
section
variable {w : Wd} (h : WdOk w)
/-- places that serve -/
def WayOk (w : Wd) (row way : List Nat) : Prop := way.length = row.length ∧ ∀ k, k < row.length → way.getD k 0 ∈ serve w (row.getD k 0)
include h in
theorem way_loop {row pk : List Nat} (hr : ∀ a ∈ row, a < w.kinds) (hl : row.length ≤ 12) (hp : pk.length = 12) (o0 o1 o3 o4 o5 o7 o8 o9 o13 o14 o16 o17 o18 o19 o20 o21 o22 o23 o24 : Option D) : ∃ way o13' o14', WayOk w row way ∧ forD (nameG 13) l_law_12 (upto 0 (row.length : Int)) [o0, o1, some (.int w.size), o3, o4, o5, some (.lst (tabL w.ak)), o7, o8, o9, some (.lst (nums row)), some (.lst (nums pk)), some (.lst (nums [])), o13, o14, none, o16, o17, o18, o19, o20, o21, o22, o23, o24] = .nx [o0, o1, some (.int w.size), o3, o4, o5, some (.lst (tabL w.ak)), o7, o8, o9, some (.lst (nums row)), some (.lst (nums pk)), some (.lst (nums way)), o13', o14', none, o16, o17, o18, o19, o20, o21, o22, o23, o24] := by
  obtain ⟨ρ2, e, way, o13', o14', rfl, h1, h2⟩ := forN1 (i := 13) (n := row.length) (b := l_law_12) (ρ := [o0, o1, some (.int w.size), o3, o4, o5, some (.lst (tabL w.ak)), o7, o8, o9, some (.lst (nums row)), some (.lst (nums pk)), some (.lst (nums [])), o13, o14, none, o16, o17, o18, o19, o20, o21, o22, o23, o24])
    (fun k ρ => ∃ way o13 o14, ρ = [o0, o1, some (.int w.size), o3, o4, o5, some (.lst (tabL w.ak)), o7, o8, o9, some (.lst (nums row)), some (.lst (nums pk)), some (.lst (nums way)), o13, o14, none, o16, o17, o18, o19, o20, o21, o22, o23, o24] ∧ way.length = k ∧ ∀ j, j < k → way.getD j 0 ∈ serve w (row.getD j 0)) ⟨[], o13, o14, rfl, rfl, fun j hj => absurd hj (by omega)⟩ (by
    rintro k ρ hk ⟨way, o13, o14, rfl, hwl, hws⟩
    have e1 := nums_at (xs := row) (k := k) hk
    have e2 := nums_at (xs := pk) (k := k) (by omega)
    have ha := hr _ (getD_mem (z := 0) hk)
    generalize hA : row.getD k 0 = a at *
    generalize pk.getD k 0 = x at *
    have hak := tabL_at (t := w.ak) (k := a) (by rw [h.akl]; exact ha)
    have hakl := (h.akrow ha).len
    have hz3 := h.size3
    have hb2 : big (w.size : Int) = true := big_n (by omega)
    have hup2 : (upto 0 (w.size : Int)).length ≤ 16777216 := by rw [upto_leng]; omega
    have hgoals : compD (nameG 15) (tst (NW.bin isnotD (NW.bin ixD (NW.bin ixD (varD 6) (NW.bin ixD (varD 10) (varD 13))) (varD 15)) (cD .non))) (varD 15) (upto 0 (w.size : Int)) [o0, o1, some (.int w.size), o3, o4, o5, some (.lst (tabL w.ak)), o7, o8, o9, some (.lst (nums row)), some (.lst (nums pk)), some (.lst (nums way)), some (.int k), o14, none, o16, o17, o18, o19, o20, o21, o22, o23, o24] = .ok (nums (serve w a)) := comp_lets (by simp) hakl fun j hj => by
      have hj2 := ois_at (ys := w.ak.getD a []) (k := j) (by omega)
      simp [-List.getD_eq_getElem?_getD, R.bind, e1, hak, hj2]
    have hpos : 0 < (serve w a).length := List.length_pos_iff.mpr (serve_ne h ha)
    have hlt : x % (serve w a).length < (serve w a).length := Nat.mod_lt _ hpos
    have ei := nums_at hlt
    rw [Int.natCast_emod] at ei
    have hmem : (serve w a).getD (x % (serve w a).length) 0 ∈ serve w a := getD_mem hlt
    generalize (serve w a).getD (x % (serve w a).length) 0 = p at *
    have hwl2 : way.length < 16777216 := by omega
    refine ⟨[o0, o1, some (.int w.size), o3, o4, o5, some (.lst (tabL w.ak)), o7, o8, o9, some (.lst (nums row)), some (.lst (nums pk)), some (.lst (nums (way ++ [p]))), some (.int k), some (.lst (nums (serve w a))), none, o16, o17, o18, o19, o20, o21, o22, o23, o24], ?_, way ++ [p], _, _, rfl, by simp [hwl], fun j hj => ?_⟩
    · generalize serve w a = sv at *
      generalize tabL w.ak = ta at *
      generalize w.ak.getD a [] = q at *
      unfold l_law_12
      simp [NW.R.bind, NW.R.out, Out.seq, hb2, compX, wipeE, hup2, hgoals, e1, e2, hpos, ei, hwl2]
    · by_cases hjk : j < k
      · rw [getD_app _ _ _ _ (by omega)]
        exact hws j hjk
      · have : j = way.length := by omega
        subst this
        rw [getD_end]
        rw [hwl, hA]
        exact hmem)
  exact ⟨way, o13', o14', ⟨h1, h2⟩, e⟩
include h in
/-- one more note along the run -/
theorem note_at {row way : List Nat} {t : Nat} (hrun : run w.arr 0 row = some t) (hw : WayOk w row way) (hl : row.length ≤ 12) {k s : Nat} (hk : k < row.length) {d : D} (hd : IsSeen w (row.take k) (way.take k) s d) : ∃ d' s', m_Seen_note d [.int (row.getD k 0 : Nat), .int (way.getD k 0 : Nat)] = .ok .non d' ∧ IsSeen w (row.take (k + 1)) (way.take (k + 1)) s' d' := by
  have hr : run w.arr 0 (row.take k) = some s := by
    obtain ⟨_, _, _, _, _, ok⟩ := hd
    exact ok.hrun
  obtain ⟨v, hv⟩ := run_at hrun hk hr
  obtain ⟨d', e, hd'⟩ := note h hd hv (hw.2 k hk) (by simp; omega)
  refine ⟨d', v, e, ?_⟩
  rw [take_snoc hk, take_snoc (by rw [hw.1]; exact hk)]
  exact hd'
theorem turn_l_law_21 {row way : List Nat} {k : Nat} (h1 : k < row.length) (h2 : k < way.length) {d d' : D} (hd : isC 14 d = true) (hd' : isC 14 d' = true) (e : m_Seen_note d [.int (row.getD k 0 : Nat), .int (way.getD k 0 : Nat)] = .ok .non d') (o0 o1 o2 o3 o4 o5 o6 o7 o8 o9 o11 o14 o15 o16 o17 o18 o19 o20 o21 o23 o24 : Option D) : l_law_21 [o0, o1, o2, o3, o4, o5, o6, o7, o8, o9, some (.lst (nums row)), o11, some (.lst (nums way)), some (.int k), o14, o15, o16, o17, o18, o19, o20, o21, some (d), o23, o24] = .nx [o0, o1, o2, o3, o4, o5, o6, o7, o8, o9, some (.lst (nums row)), o11, some (.lst (nums way)), some (.int k), o14, o15, o16, o17, o18, o19, o20, o21, some (d'), o23, o24] := by
  have e1 := nums_at (xs := row) (k := k) h1
  have e2 := nums_at (xs := way) (k := k) h2
  obtain ⟨fs, rfl⟩ := isC_inv hd
  obtain ⟨fs', rfl⟩ := isC_inv hd'
  generalize row.getD k 0 = a at *
  generalize way.getD k 0 = p at *
  unfold l_law_21
  simp [NW.R.bind, NW.R.out, Out.seq, exprM, ifM, methM, objAt, R.re, reM, RE.out, e1, e2, e, NW.isNon]
theorem turn_l_law_26 {row way : List Nat} {k : Nat} (h1 : k < row.length) (h2 : k < way.length) {d d' : D} (hd : isC 14 d = true) (hd' : isC 14 d' = true) (e : m_Seen_note d [.int (row.getD k 0 : Nat), .int (way.getD k 0 : Nat)] = .ok .non d') (o0 o1 o2 o3 o4 o5 o6 o7 o8 o9 o11 o14 o15 o16 o17 o18 o19 o20 o21 o23 o24 : Option D) : l_law_26 [o0, o1, o2, o3, o4, o5, o6, o7, o8, o9, some (.lst (nums row)), o11, some (.lst (nums way)), some (.int k), o14, o15, o16, o17, o18, o19, o20, o21, some (d), o23, o24] = .nx [o0, o1, o2, o3, o4, o5, o6, o7, o8, o9, some (.lst (nums row)), o11, some (.lst (nums way)), some (.int k), o14, o15, o16, o17, o18, o19, o20, o21, some (d'), o23, o24] := by
  have e1 := nums_at (xs := row) (k := k) h1
  have e2 := nums_at (xs := way) (k := k) h2
  obtain ⟨fs, rfl⟩ := isC_inv hd
  obtain ⟨fs', rfl⟩ := isC_inv hd'
  generalize row.getD k 0 = a at *
  generalize way.getD k 0 = p at *
  unfold l_law_26
  simp [NW.R.bind, NW.R.out, Out.seq, exprM, ifM, methM, objAt, R.re, reM, RE.out, e1, e2, e, NW.isNon]
theorem seen_c {row way : List Nat} {s : Nat} {d : D} (hd : IsSeen w row way s d) : isC 14 d = true := by
  obtain ⟨_, _, _, _, rfl, _⟩ := hd
  rfl
include h in
theorem half_loop {row way : List Nat} {t : Nat} (hrun : run w.arr 0 row = some t) (hw : WayOk w row way) (hl : row.length ≤ 12) {half : Nat} (hh : half ≤ row.length) {d : D} (hd : IsSeen w [] [] 0 d) (o0 o1 o2 o3 o4 o5 o6 o7 o8 o9 o11 o13 o14 o15 o16 o17 o18 o19 o20 o21 o23 o24 : Option D) : ∃ d' s o13', IsSeen w (row.take half) (way.take half) s d' ∧ forD (nameG 13) l_law_21 (upto 0 (half : Int)) [o0, o1, o2, o3, o4, o5, o6, o7, o8, o9, some (.lst (nums row)), o11, some (.lst (nums way)), o13, o14, o15, o16, o17, o18, o19, o20, o21, some (d), o23, o24] = .nx [o0, o1, o2, o3, o4, o5, o6, o7, o8, o9, some (.lst (nums row)), o11, some (.lst (nums way)), o13', o14, o15, o16, o17, o18, o19, o20, o21, some (d'), o23, o24] := by
  obtain ⟨ρ2, e, d', s, o13', rfl, h1⟩ := forN1 (i := 13) (n := half) (b := l_law_21) (ρ := [o0, o1, o2, o3, o4, o5, o6, o7, o8, o9, some (.lst (nums row)), o11, some (.lst (nums way)), o13, o14, o15, o16, o17, o18, o19, o20, o21, some (d), o23, o24])
    (fun k ρ => ∃ d s o13, ρ = [o0, o1, o2, o3, o4, o5, o6, o7, o8, o9, some (.lst (nums row)), o11, some (.lst (nums way)), o13, o14, o15, o16, o17, o18, o19, o20, o21, some (d), o23, o24] ∧ IsSeen w (row.take k) (way.take k) s d) ⟨d, 0, o13, rfl, hd⟩ (by
    rintro k ρ hk ⟨d, s, o13, rfl, hd⟩
    obtain ⟨d', s', e, hd'⟩ := note_at h hrun hw hl (k := k) (by omega) hd
    exact ⟨_, turn_l_law_21 (by omega) (by rw [hw.1]; omega) (seen_c hd) (seen_c hd') e o0 o1 o2 o3 o4 o5 o6 o7 o8 o9 o11 o14 o15 o16 o17 o18 o19 o20 o21 o23 o24, d', s', _, rfl, hd'⟩)
  exact ⟨d', s, o13', h1, e⟩
theorem upto_get {a b k : Nat} {d : D} (h : (upto (a : Int) (b : Int))[k]? = some d) : a + k < b ∧ d = .int (a + k : Nat) := by
  unfold upto at h
  rw [List.getElem?_map] at h
  cases q : (List.range ((b : Int) - a).toNat)[k]? with
  | none => rw [q] at h; cases h
  | some j =>
    rw [q] at h
    obtain ⟨h1, h2⟩ := List.getElem?_eq_some_iff.mp q
    rw [List.getElem_range] at h2
    subst h2
    rw [List.length_range] at h1
    refine ⟨by omega, ?_⟩
    have := (Option.some.inj h).symm
    rw [this, Int.natCast_add]
include h in
theorem rest_loop {row way : List Nat} {t : Nat} (hrun : run w.arr 0 row = some t) (hw : WayOk w row way) (hl : row.length ≤ 12) {half s0 : Nat} (hh : half ≤ row.length) {d : D} (hd : IsSeen w (row.take half) (way.take half) s0 d) (o0 o1 o2 o3 o4 o5 o6 o7 o8 o9 o11 o13 o14 o15 o16 o17 o18 o19 o20 o21 o23 o24 : Option D) : ∃ d' s o13', IsSeen w row way s d' ∧ forD (nameG 13) l_law_26 (upto (half : Int) (row.length : Int)) [o0, o1, o2, o3, o4, o5, o6, o7, o8, o9, some (.lst (nums row)), o11, some (.lst (nums way)), o13, o14, o15, o16, o17, o18, o19, o20, o21, some (d), o23, o24] = .nx [o0, o1, o2, o3, o4, o5, o6, o7, o8, o9, some (.lst (nums row)), o11, some (.lst (nums way)), o13', o14, o15, o16, o17, o18, o19, o20, o21, some (d'), o23, o24] := by
  obtain ⟨ρ2, e, d', s, o13', rfl, h1⟩ := forL1 (i := 13) (ds := upto (half : Int) (row.length : Int)) (b := l_law_26) (ρ := [o0, o1, o2, o3, o4, o5, o6, o7, o8, o9, some (.lst (nums row)), o11, some (.lst (nums way)), o13, o14, o15, o16, o17, o18, o19, o20, o21, some (d), o23, o24])
    (fun k ρ => ∃ d s o13, ρ = [o0, o1, o2, o3, o4, o5, o6, o7, o8, o9, some (.lst (nums row)), o11, some (.lst (nums way)), o13, o14, o15, o16, o17, o18, o19, o20, o21, some (d), o23, o24] ∧ IsSeen w (row.take (half + k)) (way.take (half + k)) s d) ⟨d, s0, o13, rfl, hd⟩ (by
    rintro k d0 ρ hk ⟨d, s, o13, rfl, hd⟩
    obtain ⟨hk2, rfl⟩ := upto_get hk
    obtain ⟨d', s', e, hd'⟩ := note_at h hrun hw hl (k := half + k) hk2 hd
    exact ⟨_, turn_l_law_26 hk2 (by rw [hw.1]; exact hk2) (seen_c hd) (seen_c hd') e o0 o1 o2 o3 o4 o5 o6 o7 o8 o9 o11 o14 o15 o16 o17 o18 o19 o20 o21 o23 o24, d', s', _, rfl, hd'⟩)
  have hlen : half + (upto (half : Int) (row.length : Int)).length = row.length := by
    unfold upto
    rw [List.length_map, List.length_range]
    omega
  rw [hlen, List.take_of_length_le (Nat.le_refl _), List.take_of_length_le (by rw [hw.1]; exact Nat.le_refl _)] at h1
  exact ⟨d', s, o13', h1, e⟩
end
end K79.PL
end

section
set_option Elab.async false
set_option linter.all false
/-! PLs (printed by gens.py): the law. -/
namespace K79.PL
open PySem NW
theorem step {a b : NW.Env → Out} {ρ ρ' : NW.Env} {X : R D} (h1 : a ρ = .nx ρ') (h2 : outR (b ρ') = X) : outR (seqS a b ρ) = X := by
  rw [e_seqS, h1]
  exact h2
theorem world_made {size kinds states b : Nat} (hs0 : 0 < size) (hs : size ≤ 3) (hk0 : 0 < kinds) (hk : kinds ≤ 3) (ht0 : 0 < states) (ht : states ≤ 3) (hb : b < size) {mv : List (List Nat)} (hm : MvOk size mv) {ak : Tab} (hl : ak.length = kinds) (ha : ∀ l ∈ ak, AkRow size l) {arr : Tab} (har : TabOk states kinds states arr) :
    ∃ w : Wd, WdOk w ∧ w.size = size ∧ w.kinds = kinds ∧ w.start = b ∧ w.ak = ak ∧ w.arr = arr ∧ mkR (m_System_init (.obj 10 []) [.lst (mvL mv), .lst (tabL ak)]) = .ok (sysD w.cl w.ak) ∧ mkR (m_Machine_init (.obj 11 []) [.lst (tabL arr)]) = .ok (machD w.arr) ∧ mkR (m_World_init (.obj 13 []) [sysD w.cl w.ak, machD w.arr, .int w.start]) = .ok w.d := by
  obtain ⟨cl, hcl, e1⟩ := System_init hs0 hs hk0 hk hm hl ha
  have ok : WdOk ⟨size, kinds, states, b, cl, ak, arr⟩ := ⟨hs0, hs, hk0, hk, ht0, ht, hb, hcl, hl, ha, har⟩
  exact ⟨_, ok, rfl, rfl, rfl, rfl, rfl, e1, Machine_init ht0 ht hk0 hk har, World_init ok⟩
theorem sl_take {ds : List D} {k : Nat} (h : k ≤ ds.length) : slD (.lst ds) none (some (k : Int)) = .ok (.lst (ds.take k)) := by
  unfold slD cutD
  dsimp only
  rw [HT.sIx_nat, HT.sIx_none, Nat.min_eq_left h, List.drop_zero, Nat.sub_zero]
@[simp] theorem nums_take (xs : List Nat) (k : Nat) : (nums xs).take k = nums (xs.take k) := by simp [nums, List.map_take]
section
variable {w : Wd} (h : WdOk w) {Rs : List Rl} (hR : RulesOk w.kinds w.size Rs)
include h hR in
theorem odd_asked {row way : List Nat} {s : Nat} {d : D} (hd : IsSeen w row way s d) {R : Rl} (hRl : RlOk w.kinds w.size R) : m__law_asked [d, oddD w, rlO R] = .ok (.lst [.str "unlike"]) ∧ m__law_asked [d, rlO R, oddD w] = .ok (.lst [.str "unlike"]) ∧ m__law_asked [d, oddD w, oddD w] = .ok (.lst [.str "unlike"]) := by
  have e1 := odd_check h hd
  have e2 := check_kinds h hd (r := rlO R) rfl (Rule_kinds hRl)
  rw [if_pos rfl] at e2
  have co : clean (oddD w) = true := by
    unfold oddD
    simp only [clean, cleans, cl_nums]
    rfl
  have cr := cl_rlO R
  have cd := cl_seen hd
  generalize oddD w = od at *
  generalize rlO R = rd at *
  refine ⟨law_asked cd co cr (r := .ex 3 []) ?_ (.inr (.inr rfl)), law_asked cd cr co (r := .ex 3 []) ?_ (.inr (.inr rfl)), law_asked cd co co (r := .ex 3 []) ?_ (.inr (.inr rfl))⟩
  · unfold m_next_apart b_next_apart
    simp [NW.R.bind, NW.R.out, Out.seq, e1]
  · unfold m_next_apart b_next_apart
    simp [NW.R.bind, NW.R.out, Out.seq, e1, e2]
  · unfold m_next_apart b_next_apart
    simp [NW.R.bind, NW.R.out, Out.seq, e1]
theorem gd_unlike : m__law_alike 5 [.lst [.str "unlike"], .lst [.str "unlike"]] = .ok (.bl true) := alike 5 (.inr ⟨_, .inl rfl, by simp, fun x hx => by
  simp at hx
  subst hx
  exact .inl rfl⟩)
theorem made_comp {kinds size : Nat} (hk0 : 0 < kinds) (hk : kinds ≤ 3) (hs : size ≤ 3) (hR : RulesOk kinds size Rs) {ρ : NW.Env} (hlen : 18 < ρ.length) (h9 : ρ[9]? = some none) : compD (nameG 18) yesB (makeD 12 m_Rule_init (consA (callA listD (consA (NW.bin ixD (varD 18) (cD (.int 0))) nilA)) (consA (compF [9] (itI (NW.bin ixD (varD 18) (cD (.int 1)))) (nameG 9) yesB (callA listD (consA (varD 9) nilA))) nilA))) (Rs.map rlL) ρ = .ok (Rs.map rlO) := by
  obtain ⟨ys, e, hl, _⟩ : ∃ ys : List D, compD (nameG 18) yesB (makeD 12 m_Rule_init (consA (callA listD (consA (NW.bin ixD (varD 18) (cD (.int 0))) nilA)) (consA (compF [9] (itI (NW.bin ixD (varD 18) (cD (.int 1)))) (nameG 9) yesB (callA listD (consA (varD 9) nilA))) nilA))) (Rs.map rlL) ρ = .ok ys ∧ ys = Rs.map rlO ∧ True := by
    have hall : ∀ R ∈ Rs, RlOk kinds size R := hR.ok
    refine ⟨_, ?_, rfl, trivial⟩
    clear hR
    induction Rs with
    | nil => rfl
    | cons R Rs ih =>
      have ih := ih fun R hR => hall R (List.mem_cons_of_mem _ hR)
      have ok := hall R List.mem_cons_self
      have e1 := Rule_init hk0 hk hs ok
      have ht := ok.top
      have htl := ok.tab.len
      have hsz : R.2.length ≤ 16777216 := by omega
      rw [List.map_cons]
      unfold compD
      have e0 : nameG 18 (rlL R) ρ = .ok (ρ.set 18 (some (rlL R))) := rfl
      rw [e0]
      have eg := e_get (ρ := ρ.set 18 (some (rlL R))) (i := 18) (d := rlL R) (by simp [hlen])
      have ew : wipeE (ρ.set 18 (some (rlL R))) [9] = ρ.set 18 (some (rlL R)) := by
        show (ρ.set 18 (some (rlL R))).set 9 none = _
        refine List.ext_getElem? fun i => ?_
        rw [List.getElem?_set]
        split
        · rename_i hi
          subst hi
          rw [List.getElem?_set_ne (by omega), h9]
          split
          · rfl
          · rename_i h2
            exfalso
            apply h2
            rw [List.length_set]
            omega
        · rfl
      have hc := comp_tabL (i := 9) R.2 (ρ := ρ.set 18 (some (rlL R))) (by rw [List.length_set]; omega)
      unfold rlL at eg hc ew ⊢
      simp only [List.map_cons]
      simp [NW.R.bind, yesB, makeD, eg, listD, compF, ew, hc, noXL, hsz, e1, szL]
      unfold rlL at ih
      simp [ih]
  rw [e, hl]
theorem odd_made {w : Wd} (hk : w.kinds ≤ 3) (hs : w.size ≤ 3) (hb : w.start < w.size) : mkR (m_Rule_init (.obj 12 []) [.lst [.int w.start], .lst [.lst (List.replicate (w.kinds + 1) (D.int 0))]]) = .ok (oddD w) := by
  have ok : RlOk (w.kinds + 1) w.size ([w.start], [List.replicate (w.kinds + 1) (some 0)]) := ⟨⟨rfl, fun l hl => by
    rw [List.mem_singleton.mp hl]
    refine ⟨by simp, fun x hx => ?_⟩
    have := List.eq_of_mem_replicate hx
    cases this
    exact Nat.one_pos⟩, Nat.one_pos, by show 1 ≤ 19; omega, fun p hp => by rw [List.mem_singleton.mp hp]; exact hb⟩
  have e := Rule_init4 (by omega) (by omega) hs ok
  have e1 : nums [w.start] = [.int w.start] := rfl
  have e2 : tabL [List.replicate (w.kinds + 1) (some 0)] = [.lst (List.replicate (w.kinds + 1) (D.int 0))] := by
    simp [tabL, ois, oi]
  have e3 : rlO ([w.start], [List.replicate (w.kinds + 1) (some 0)]) = oddD w := by
    simp [rlO, oddD, nums, tabT, ois, oi]
  dsimp only at e
  rw [e1, e2, e3] at e
  exact e
theorem odd_loop {d ra rb : D} (a1 : m__law_asked [d, ra, rb] = .ok (.lst [.str "unlike"])) (a2 : m__law_asked [d, rb, ra] = .ok (.lst [.str "unlike"])) (a3 : m__law_asked [d, ra, ra] = .ok (.lst [.str "unlike"])) (o0 o1 o2 o3 o4 o5 o6 o7 o8 o9 o10 o11 o12 o13 o14 o15 o16 o17 o18 o19 o20 o21 o23 : Option D) : ∃ o24, forD (nameG 24) l_law_31 [.lst [ra, rb], .lst [rb, ra], .lst [ra, ra]] [o0, o1, o2, o3, o4, o5, o6, o7, o8, o9, o10, o11, o12, o13, o14, o15, o16, o17, o18, o19, o20, o21, some d, o23, none] = .nx [o0, o1, o2, o3, o4, o5, o6, o7, o8, o9, o10, o11, o12, o13, o14, o15, o16, o17, o18, o19, o20, o21, some d, o23, o24] := by
  have g := gd_unlike
  have t : ∀ x y, m__law_asked [d, x, y] = .ok (.lst [.str "unlike"]) → l_law_31 [o0, o1, o2, o3, o4, o5, o6, o7, o8, o9, o10, o11, o12, o13, o14, o15, o16, o17, o18, o19, o20, o21, some d, o23, some (.lst [x, y])] = .nx [o0, o1, o2, o3, o4, o5, o6, o7, o8, o9, o10, o11, o12, o13, o14, o15, o16, o17, o18, o19, o20, o21, some d, o23, some (.lst [x, y])] := fun x y e => by
    unfold l_law_31
    simp [NW.R.bind, NW.R.out, Out.seq, e, szL, g]
  refine ⟨some (.lst [ra, ra]), ?_⟩
  have n : ∀ x o24, nameG 24 x [o0, o1, o2, o3, o4, o5, o6, o7, o8, o9, o10, o11, o12, o13, o14, o15, o16, o17, o18, o19, o20, o21, some d, o23, o24] = .ok [o0, o1, o2, o3, o4, o5, o6, o7, o8, o9, o10, o11, o12, o13, o14, o15, o16, o17, o18, o19, o20, o21, some d, o23, some x] := fun x o24 => rfl
  simp only [forD, n, t _ _ a1, t _ _ a2, t _ _ a3]
theorem law_holds (ns : List Int) : m_law [.scr ns] = .ok (.bl true) := by
  have nb := fun c n (hn : n ≤ 1000) => law_numbers c n hn
  obtain ⟨sh, hsh, q1⟩ := nb (cell ns 0) 10 (by omega)
  have c0 : m__law_cell [.scr ns, .int 0] = .ok (.int (cell ns 0)) := law_cell ns 0
  have c1 : m__law_cell [.scr ns, .int 1] = .ok (.int (cell ns 1)) := law_cell ns 1
  have c2 : m__law_cell [.scr ns, .int 2] = .ok (.int (cell ns 2)) := law_cell ns 2
  have c3 : m__law_cell [.scr ns, .int 3] = .ok (.int (cell ns 3)) := law_cell ns 3
  have c4 : m__law_cell [.scr ns, .int 4] = .ok (.int (cell ns 4)) := law_cell ns 4
  have c5 : m__law_cell [.scr ns, .int 5] = .ok (.int (cell ns 5)) := law_cell ns 5
  have c6 : m__law_cell [.scr ns, .int 6] = .ok (.int (cell ns 6)) := law_cell ns 6
  have c7 : m__law_cell [.scr ns, .int 7] = .ok (.int (cell ns 7)) := law_cell ns 7
  have q1 : m__law_numbers [.int (cell ns 0), .int 10] = .ok (.lst (nums sh)) := q1
  have hshl := hsh.1
  have i0 : L2.atI (nums sh) 0 = some (.int (sh.getD 0 0 : Nat)) := nums_at (k := 0) (by omega)
  have i1 : L2.atI (nums sh) 1 = some (.int (sh.getD 1 0 : Nat)) := nums_at (k := 1) (by omega)
  have i2 : L2.atI (nums sh) 2 = some (.int (sh.getD 2 0 : Nat)) := nums_at (k := 2) (by omega)
  have i3 : L2.atI (nums sh) 3 = some (.int (sh.getD 3 0 : Nat)) := nums_at (k := 3) (by omega)
  have i4 : L2.atI (nums sh) 4 = some (.int (sh.getD 4 0 : Nat)) := nums_at (k := 4) (by omega)
  have i5 : L2.atI (nums sh) 5 = some (.int (sh.getD 5 0 : Nat)) := nums_at (k := 5) (by omega)
  have i6 : L2.atI (nums sh) 6 = some (.int (sh.getD 6 0 : Nat)) := nums_at (k := 6) (by omega)
  generalize sh.getD 0 0 = x0 at *
  generalize sh.getD 1 0 = x1 at *
  generalize sh.getD 2 0 = x2 at *
  generalize sh.getD 3 0 = x3 at *
  generalize sh.getD 4 0 = x4 at *
  generalize sh.getD 5 0 = x5 at *
  generalize sh.getD 6 0 = x6 at *
  obtain ⟨size, v2, hs0, hs⟩ : ∃ n : Nat, (1 + (x0 : Int) % 3) = (n : Int) ∧ 0 < n ∧ n ≤ 3 := ⟨1 + x0 % 3, by omega, by omega, by omega⟩
  obtain ⟨kinds, v3, hk0, hk⟩ : ∃ n : Nat, (1 + (x1 : Int) % 3) = (n : Int) ∧ 0 < n ∧ n ≤ 3 := ⟨1 + x1 % 3, by omega, by omega, by omega⟩
  obtain ⟨st, vs, ht0, ht⟩ : ∃ n : Nat, (1 + (x2 : Int) % 3) = (n : Int) ∧ 0 < n ∧ n ≤ 3 := ⟨1 + x2 % 3, by omega, by omega, by omega⟩
  obtain ⟨b, v4, hb⟩ : ∃ n : Nat, ((x3 : Int) % (size : Int)) = (n : Int) ∧ n < size := ⟨x3 % size, (Int.natCast_emod _ _).symm, Nat.mod_lt _ hs0⟩
  obtain ⟨nm, hnm, q5⟩ := nb (cell ns 1) 9 (by omega)
  have q5 : m__law_numbers [.int (cell ns 1), .int 9] = .ok (.lst (nums nm)) := q5
  obtain ⟨mv, hmv, q5b⟩ := law_moves hnm.1 hs
  obtain ⟨na, hna, q6⟩ := nb (cell ns 2) 9 (by omega)
  have q6 : m__law_numbers [.int (cell ns 2), .int 9] = .ok (.lst (nums na)) := q6
  obtain ⟨ak, hal, hak, q6b⟩ := law_asks hna.1 hs0 hs hk
  obtain ⟨nr, hnr, q7⟩ := nb (cell ns 3) 9 (by omega)
  have q7 : m__law_numbers [.int (cell ns 3), .int 9] = .ok (.lst (nums nr)) := q7
  obtain ⟨arr, har, q7b⟩ := law_arrows hnr.1 ht0 ht hk
  obtain ⟨w, hw, rfl, rfl, rfl, rfl, rfl, q8, q8b, q8c⟩ := world_made hs0 hs hk0 hk ht0 ht hb hmv hal hak har
  obtain ⟨m, v10, hm⟩ : ∃ n : Nat, ((x4 : Int) % 13) = (n : Int) ∧ n ≤ 12 := ⟨x4 % 13, by omega, by omega⟩
  obtain ⟨nw, hnw, q10⟩ := nb (cell ns 4) m (by omega)
  obtain ⟨row, sN, hrun, hrl, q10b⟩ := law_row hw.arr hw.states0 hk (ns := nw) (by rw [hnw.1]; omega)
  rw [hnw.1] at hrl
  have hrow12 : row.length ≤ 12 := by omega
  obtain ⟨pk, hpk, q11⟩ := nb (cell ns 5) 12 (by omega)
  have q11 : m__law_numbers [.int (cell ns 5), .int 12] = .ok (.lst (nums pk)) := q11
  have hargs := run_args hw.arr hw.states0 hrun
  obtain ⟨nq, hnq, q16⟩ := nb (cell ns 6) 24 (by omega)
  have q16 : m__law_numbers [.int (cell ns 6), .int 24] = .ok (.lst (nums nq)) := q16
  obtain ⟨tl, vt, htl⟩ : ∃ n : Nat, (1 + (x5 : Int) % 6) = (n : Int) ∧ n ≤ 6 := ⟨1 + x5 % 6, by omega, by omega⟩
  obtain ⟨dr, hdr, q19⟩ := nb (cell ns 7) 6 (by omega)
  have q19 : m__law_numbers [.int (cell ns 7), .int 6] = .ok (.lst (nums dr)) := q19
  obtain ⟨half, v21, hhalf⟩ : ∃ n : Nat, ((x6 : Int) % ((row.length : Int) + 1)) = (n : Int) ∧ n ≤ row.length := ⟨x6 % (row.length + 1), by rw [Int.natCast_emod]; rfl, by have := Nat.mod_lt x6 (show 0 < row.length + 1 by omega); omega⟩
  have z1 : mv.length ≤ 16777216 := by have := hmv.len; omega
  have z2 : w.ak.length ≤ 16777216 := by omega
  have z3 : w.arr.length ≤ 16777216 := by have := har.len; omega
  have bg4 : big 4 = true := big_n (n := 4) (by omega)
  have bgr : big (row.length : Int) = true := big_n (by omega)
  have bgh : big (half : Int) = true := big_n (by omega)
  unfold m_law b_law
  rw [fnD_run (by rfl)]
  show outR (seqS _ _ [some (.scr ns), none, none, none, none, none, none, none, none, none, none, none, none, none, none, none, none, none, none, none, none, none, none, none, none]) = _
  refine step (ρ' := [some (.scr ns), some (.lst (nums sh)), none, none, none, none, none, none, none, none, none, none, none, none, none, none, none, none, none, none, none, none, none, none, none]) (by simp [NW.R.bind, NW.R.out, Out.seq, c0, q1]) ?_
  refine step (ρ' := [some (.scr ns), some (.lst (nums sh)), some (.int w.size), none, none, none, none, none, none, none, none, none, none, none, none, none, none, none, none, none, none, none, none, none, none]) (by simp [NW.R.bind, NW.R.out, Out.seq, i0, v2]) ?_
  refine step (ρ' := [some (.scr ns), some (.lst (nums sh)), some (.int w.size), some (.int w.kinds), none, none, none, none, none, none, none, none, none, none, none, none, none, none, none, none, none, none, none, none, none]) (by simp [NW.R.bind, NW.R.out, Out.seq, i1, v3]) ?_
  refine step (ρ' := [some (.scr ns), some (.lst (nums sh)), some (.int w.size), some (.int w.kinds), some (.int w.start), none, none, none, none, none, none, none, none, none, none, none, none, none, none, none, none, none, none, none, none]) (by simp [NW.R.bind, NW.R.out, Out.seq, i3, v4, hs0]) ?_
  refine step (ρ' := [some (.scr ns), some (.lst (nums sh)), some (.int w.size), some (.int w.kinds), some (.int w.start), some (.lst (mvL mv)), none, none, none, none, none, none, none, none, none, none, none, none, none, none, none, none, none, none, none]) (by simp [NW.R.bind, NW.R.out, Out.seq, c1, q5, q5b]) ?_
  refine step (ρ' := [some (.scr ns), some (.lst (nums sh)), some (.int w.size), some (.int w.kinds), some (.int w.start), some (.lst (mvL mv)), some (.lst (tabL w.ak)), none, none, none, none, none, none, none, none, none, none, none, none, none, none, none, none, none, none]) (by simp [NW.R.bind, NW.R.out, Out.seq, c2, q6, q6b]) ?_
  refine step (ρ' := [some (.scr ns), some (.lst (nums sh)), some (.int w.size), some (.int w.kinds), some (.int w.start), some (.lst (mvL mv)), some (.lst (tabL w.ak)), some (.lst (tabL w.arr)), none, none, none, none, none, none, none, none, none, none, none, none, none, none, none, none, none]) (by simp [NW.R.bind, NW.R.out, Out.seq, c3, q7, i2, vs, q7b]) ?_
  have k5 := comp_mvL (i := 9) mv (ρ := [some (.scr ns), some (.lst (nums sh)), some (.int w.size), some (.int w.kinds), some (.int w.start), some (.lst (mvL mv)), some (.lst (tabL w.ak)), some (.lst (tabL w.arr)), none, none, none, none, none, none, none, none, none, none, none, none, none, none, none, none, none]) (by simp)
  have k6 := comp_tabL (i := 9) w.ak (ρ := [some (.scr ns), some (.lst (nums sh)), some (.int w.size), some (.int w.kinds), some (.int w.start), some (.lst (mvL mv)), some (.lst (tabL w.ak)), some (.lst (tabL w.arr)), none, none, none, none, none, none, none, none, none, none, none, none, none, none, none, none, none]) (by simp)
  have k7 := comp_tabL (i := 9) w.arr (ρ := [some (.scr ns), some (.lst (nums sh)), some (.int w.size), some (.int w.kinds), some (.int w.start), some (.lst (mvL mv)), some (.lst (tabL w.ak)), some (.lst (tabL w.arr)), none, none, none, none, none, none, none, none, none, none, none, none, none, none, none, none, none]) (by simp)
  refine step (ρ' := [some (.scr ns), some (.lst (nums sh)), some (.int w.size), some (.int w.kinds), some (.int w.start), some (.lst (mvL mv)), some (.lst (tabL w.ak)), some (.lst (tabL w.arr)), some (w.d), none, none, none, none, none, none, none, none, none, none, none, none, none, none, none, none]) (by simp [NW.R.bind, NW.R.out, Out.seq, compX, wipeE, z1, z2, z3, k5, k6, k7, makeD, q8, q8b, q8c]) ?_
  refine step (ρ' := [some (.scr ns), some (.lst (nums sh)), some (.int w.size), some (.int w.kinds), some (.int w.start), some (.lst (mvL mv)), some (.lst (tabL w.ak)), some (.lst (tabL w.arr)), some (w.d), none, some (.lst (nums row)), none, none, none, none, none, none, none, none, none, none, none, none, none, none]) (by simp [NW.R.bind, NW.R.out, Out.seq, c4, i4, v10, q10, q10b]) ?_
  refine step (ρ' := [some (.scr ns), some (.lst (nums sh)), some (.int w.size), some (.int w.kinds), some (.int w.start), some (.lst (mvL mv)), some (.lst (tabL w.ak)), some (.lst (tabL w.arr)), some (w.d), none, some (.lst (nums row)), some (.lst (nums pk)), none, none, none, none, none, none, none, none, none, none, none, none, none]) (by simp [NW.R.bind, NW.R.out, Out.seq, c5, q11]) ?_
  refine step (ρ' := [some (.scr ns), some (.lst (nums sh)), some (.int w.size), some (.int w.kinds), some (.int w.start), some (.lst (mvL mv)), some (.lst (tabL w.ak)), some (.lst (tabL w.arr)), some (w.d), none, some (.lst (nums row)), some (.lst (nums pk)), some (.lst []), none, none, none, none, none, none, none, none, none, none, none, none]) (by simp [NW.R.bind, NW.R.out, Out.seq, szL]) ?_
  obtain ⟨way, o13, o14, hway, eway⟩ := way_loop hw hargs hrow12 hpk.1 (some (.scr ns)) (some (.lst (nums sh))) (some (.int w.kinds)) (some (.int w.start)) (some (.lst (mvL mv))) (some (.lst (tabL w.arr))) (some (w.d)) (none) (none) (none) (none) (none) (none) (none) (none) (none) (none) (none) (none)
  have hwb : ∀ p ∈ way, p < w.size := fun p hp => by
    obtain ⟨k, hk, rfl⟩ := List.mem_iff_getElem.mp hp
    have := hway.2 k (by rw [← hway.1]; exact hk)
    have e : way.getD k 0 = way[k] := by
      rw [List.getD_eq_getElem?_getD, List.getElem?_eq_getElem hk]
      rfl
    rw [e] at this
    exact List.mem_range.mp (List.mem_filter.mp this).1
  obtain ⟨Rs, hR, q16b⟩ := law_rules hnq.1 hway.1 hrow12 hk0 hk hwb hb htl
  rw [nums_nil] at eway
  generalize hL12 : l_law_12 = L12 at eway ⊢
  refine step (ρ' := [some (.scr ns), some (.lst (nums sh)), some (.int w.size), some (.int w.kinds), some (.int w.start), some (.lst (mvL mv)), some (.lst (tabL w.ak)), some (.lst (tabL w.arr)), some (w.d), none, some (.lst (nums row)), some (.lst (nums pk)), some (.lst (nums way)), o13, o14, none, none, none, none, none, none, none, none, none, none]) (by simp [NW.R.bind, NW.R.out, Out.seq, bgr, eway]) ?_
  refine step (ρ' := [some (.scr ns), some (.lst (nums sh)), some (.int w.size), some (.int w.kinds), some (.int w.start), some (.lst (mvL mv)), some (.lst (tabL w.ak)), some (.lst (tabL w.arr)), some (w.d), none, some (.lst (nums row)), some (.lst (nums pk)), some (.lst (nums way)), o13, o14, none, some (.lst (Rs.map rlL)), none, none, none, none, none, none, none, none]) (by simp [NW.R.bind, NW.R.out, Out.seq, c6, q16, i5, vt, q16b]) ?_
  have zR : Rs.length ≤ 16777216 := by have := hR.len; omega
  have kmade := made_comp hk0 hk hs hR (ρ := [some (.scr ns), some (.lst (nums sh)), some (.int w.size), some (.int w.kinds), some (.int w.start), some (.lst (mvL mv)), some (.lst (tabL w.ak)), some (.lst (tabL w.arr)), some (w.d), none, some (.lst (nums row)), some (.lst (nums pk)), some (.lst (nums way)), o13, o14, none, some (.lst (Rs.map rlL)), none, none, none, none, none, none, none, none]) (by simp) (by simp)
  refine step (ρ' := [some (.scr ns), some (.lst (nums sh)), some (.int w.size), some (.int w.kinds), some (.int w.start), some (.lst (mvL mv)), some (.lst (tabL w.ak)), some (.lst (tabL w.arr)), some (w.d), none, some (.lst (nums row)), some (.lst (nums pk)), some (.lst (nums way)), o13, o14, none, some (.lst (Rs.map rlL)), some (.lst (Rs.map rlO)), none, none, none, none, none, none, none]) (by simp [NW.R.bind, NW.R.out, Out.seq, compX, wipeE, zR, kmade]) ?_
  refine step (ρ' := [some (.scr ns), some (.lst (nums sh)), some (.int w.size), some (.int w.kinds), some (.int w.start), some (.lst (mvL mv)), some (.lst (tabL w.ak)), some (.lst (tabL w.arr)), some (w.d), none, some (.lst (nums row)), some (.lst (nums pk)), some (.lst (nums way)), o13, o14, none, some (.lst (Rs.map rlL)), some (.lst (Rs.map rlO)), none, some (.lst (nums dr)), none, none, none, none, none]) (by simp [NW.R.bind, NW.R.out, Out.seq, c7, q19]) ?_
  obtain ⟨ps0, eps, hpsl, hps⟩ := compK (g := nameG 13) (e := lstD (consA (NW.bin modD (callA NW.intD (consA (NW.bin ixD (varD 19) (varD 13)) nilA)) (cD (.int 6))) (consA (NW.bin modD (NW.bin fdivD (callA NW.intD (consA (NW.bin ixD (varD 19) (varD 13)) nilA)) (cD (.int 6))) (cD (.int 6))) nilA))) (ρ := [some (.scr ns), some (.lst (nums sh)), some (.int w.size), some (.int w.kinds), some (.int w.start), some (.lst (mvL mv)), some (.lst (tabL w.ak)), some (.lst (tabL w.arr)), some (w.d), none, some (.lst (nums row)), some (.lst (nums pk)), some (.lst (nums way)), none, o14, none, some (.lst (Rs.map rlL)), some (.lst (Rs.map rlO)), none, some (.lst (nums dr)), none, none, none, none, none]) pairD (fun p => p.1 < 6 ∧ p.2 < 6) (upto 0 4) (fun d hd => by
    obtain ⟨k, h1, h2, rfl⟩ := upto_mem (lo := 0) (hi := 4) hd
    have ei := nums_at (xs := dr) (k := k) (by rw [hdr.1]; omega)
    generalize dr.getD k 0 = x at ei
    refine ⟨_, (x % 6, x / 6 % 6), rfl, ?_, by omega, by omega⟩
    simp [NW.R.bind, ei, pairD, szL])
  have hup4 : (upto 0 4).length ≤ 16777216 := by decide
  have hps0 : ps0.length = 4 := by rw [hpsl]; rfl
  obtain ⟨ps, hps1, hps2⟩ : ∃ ps : List (Nat × Nat), ps = (4, 5) :: (1, 3) :: ps0 ∧ ∀ p ∈ ps, p.1 < 6 ∧ p.2 < 6 := ⟨_, rfl, fun p hp => by
    rcases List.mem_cons.mp hp with rfl | hp
    · exact ⟨by omega, by omega⟩
    · rcases List.mem_cons.mp hp with rfl | hp
      · exact ⟨by omega, by omega⟩
      · exact hps p hp⟩
  have hpsD : ps.map pairD = [.lst [.int 4, .int 5], .lst [.int 1, .int 3]] ++ ps0.map pairD := by rw [hps1]; rfl
  have zps : 1 + 1 + ps0.length ≤ 16777216 := by omega
  have zps2 : 2 + ps0.length ≤ 16777216 := by omega
  refine step (ρ' := [some (.scr ns), some (.lst (nums sh)), some (.int w.size), some (.int w.kinds), some (.int w.start), some (.lst (mvL mv)), some (.lst (tabL w.ak)), some (.lst (tabL w.arr)), some (w.d), none, some (.lst (nums row)), some (.lst (nums pk)), some (.lst (nums way)), o13, o14, none, some (.lst (Rs.map rlL)), some (.lst (Rs.map rlO)), none, some (.lst (nums dr)), some (.lst (ps.map pairD)), none, none, none, none]) (by simp [NW.R.bind, NW.R.out, Out.seq, compX, wipeE, bg4, hup4, eps, addD, szL, hpsD, zps, zps2, hps0]) ?_
  refine step (ρ' := [some (.scr ns), some (.lst (nums sh)), some (.int w.size), some (.int w.kinds), some (.int w.start), some (.lst (mvL mv)), some (.lst (tabL w.ak)), some (.lst (tabL w.arr)), some (w.d), none, some (.lst (nums row)), some (.lst (nums pk)), some (.lst (nums way)), o13, o14, none, some (.lst (Rs.map rlL)), some (.lst (Rs.map rlO)), none, some (.lst (nums dr)), some (.lst (ps.map pairD)), some (.int half), none, none, none]) (by simp [NW.R.bind, NW.R.out, Out.seq, i6, v21, hhalf, Int.emod_nonneg]) ?_
  obtain ⟨d0, q22, hd0⟩ := Seen_init hw
  refine step (ρ' := [some (.scr ns), some (.lst (nums sh)), some (.int w.size), some (.int w.kinds), some (.int w.start), some (.lst (mvL mv)), some (.lst (tabL w.ak)), some (.lst (tabL w.arr)), some (w.d), none, some (.lst (nums row)), some (.lst (nums pk)), some (.lst (nums way)), o13, o14, none, some (.lst (Rs.map rlL)), some (.lst (Rs.map rlO)), none, some (.lst (nums dr)), some (.lst (ps.map pairD)), some (.int half), some (d0), none, none]) (by simp [NW.R.bind, NW.R.out, Out.seq, makeD, q22]) ?_
  obtain ⟨d1, s1, p13, hd1, ehalf⟩ := half_loop hw hrun hway hrow12 hhalf hd0 (some (.scr ns)) (some (.lst (nums sh))) (some (.int w.size)) (some (.int w.kinds)) (some (.int w.start)) (some (.lst (mvL mv))) (some (.lst (tabL w.ak))) (some (.lst (tabL w.arr))) (some (w.d)) (none) (some (.lst (nums pk))) (o13) (o14) (none) (some (.lst (Rs.map rlL))) (some (.lst (Rs.map rlO))) (none) (some (.lst (nums dr))) (some (.lst (ps.map pairD))) (some (.int half)) (none) (none)
  generalize hL21 : l_law_21 = L21 at ehalf ⊢
  refine step (ρ' := [some (.scr ns), some (.lst (nums sh)), some (.int w.size), some (.int w.kinds), some (.int w.start), some (.lst (mvL mv)), some (.lst (tabL w.ak)), some (.lst (tabL w.arr)), some (w.d), none, some (.lst (nums row)), some (.lst (nums pk)), some (.lst (nums way)), p13, o14, none, some (.lst (Rs.map rlL)), some (.lst (Rs.map rlO)), none, some (.lst (nums dr)), some (.lst (ps.map pairD)), some (.int half), some (d1), none, none]) (by simp [NW.R.bind, NW.R.out, Out.seq, bgh, ehalf]) ?_
  have hch1 := law_checked hw hR hd1 hps2
  have t1 := sl_take (ds := nums row) (k := half) (by simpa using hhalf)
  have t2 := sl_take (ds := nums way) (k := half) (by rw [nums_len, hway.1]; exact hhalf)
  rw [nums_take] at t1 t2
  refine step (ρ' := [some (.scr ns), some (.lst (nums sh)), some (.int w.size), some (.int w.kinds), some (.int w.start), some (.lst (mvL mv)), some (.lst (tabL w.ak)), some (.lst (tabL w.arr)), some (w.d), none, some (.lst (nums row)), some (.lst (nums pk)), some (.lst (nums way)), p13, o14, none, some (.lst (Rs.map rlL)), some (.lst (Rs.map rlO)), none, some (.lst (nums dr)), some (.lst (ps.map pairD)), some (.int half), some (d1), none, none]) (by simp [NW.R.bind, NW.R.out, Out.seq, sli, noP, prt, asI, t1, t2, hch1, flat]) ?_
  obtain ⟨d2, s2, r13, hd2, erest⟩ := rest_loop hw hrun hway hrow12 hhalf hd1 (some (.scr ns)) (some (.lst (nums sh))) (some (.int w.size)) (some (.int w.kinds)) (some (.int w.start)) (some (.lst (mvL mv))) (some (.lst (tabL w.ak))) (some (.lst (tabL w.arr))) (some (w.d)) (none) (some (.lst (nums pk))) (p13) (o14) (none) (some (.lst (Rs.map rlL))) (some (.lst (Rs.map rlO))) (none) (some (.lst (nums dr))) (some (.lst (ps.map pairD))) (some (.int half)) (none) (none)
  generalize hL26 : l_law_26 = L26 at erest ⊢
  refine step (ρ' := [some (.scr ns), some (.lst (nums sh)), some (.int w.size), some (.int w.kinds), some (.int w.start), some (.lst (mvL mv)), some (.lst (tabL w.ak)), some (.lst (tabL w.arr)), some (w.d), none, some (.lst (nums row)), some (.lst (nums pk)), some (.lst (nums way)), r13, o14, none, some (.lst (Rs.map rlL)), some (.lst (Rs.map rlO)), none, some (.lst (nums dr)), some (.lst (ps.map pairD)), some (.int half), some (d2), none, none]) (by simp [NW.R.bind, NW.R.out, Out.seq, bgh, bgr, erest]) ?_
  have hch2 := law_checked hw hR hd2 hps2
  refine step (ρ' := [some (.scr ns), some (.lst (nums sh)), some (.int w.size), some (.int w.kinds), some (.int w.start), some (.lst (mvL mv)), some (.lst (tabL w.ak)), some (.lst (tabL w.arr)), some (w.d), none, some (.lst (nums row)), some (.lst (nums pk)), some (.lst (nums way)), r13, o14, none, some (.lst (Rs.map rlL)), some (.lst (Rs.map rlO)), none, some (.lst (nums dr)), some (.lst (ps.map pairD)), some (.int half), some (d2), none, none]) (by simp [NW.R.bind, NW.R.out, Out.seq, hch2, flat]) ?_
  have qodd : mkR (m_Rule_init (.obj 12 []) [.lst [.int w.start], .lst [.lst (List.replicate (w.kinds + 1) (D.int 0))]]) = .ok (oddD w) := odd_made hk hs hb
  have zk1 : w.kinds + 1 ≤ 16777216 := by omega
  have zk2 : (w.kinds : Int) + 1 < 9223372036854775808 := by omega
  have zk3 : -9223372036854775808 ≤ (w.kinds : Int) + 1 := by omega
  have zk4 : ((w.kinds : Int) + 1).toNat = w.kinds + 1 := by omega
  refine step (ρ' := [some (.scr ns), some (.lst (nums sh)), some (.int w.size), some (.int w.kinds), some (.int w.start), some (.lst (mvL mv)), some (.lst (tabL w.ak)), some (.lst (tabL w.arr)), some (w.d), none, some (.lst (nums row)), some (.lst (nums pk)), some (.lst (nums way)), r13, o14, none, some (.lst (Rs.map rlL)), some (.lst (Rs.map rlO)), none, some (.lst (nums dr)), some (.lst (ps.map pairD)), some (.int half), some (d2), some (oddD w), none]) (by simp [NW.R.bind, NW.R.out, Out.seq, mulD, makeD, qodd, szL, zk1, zk2, zk3, zk4, List.flatten_replicate_singleton]) ?_
  have hm0 : L2.atI (Rs.map rlO) 0 = some (rlO (Rs.getD 0 rl0)) := rlO_atI (k := 0) (by rw [hR.len]; omega)
  have hm0k := hR.at_ (k := 0) (by rw [hR.len]; omega)
  obtain ⟨a1, a2, a3⟩ := odd_asked hw hR hd2 hm0k
  obtain ⟨o24, eodd⟩ := odd_loop a1 a2 a3 (some (.scr ns)) (some (.lst (nums sh))) (some (.int w.size)) (some (.int w.kinds)) (some (.int w.start)) (some (.lst (mvL mv))) (some (.lst (tabL w.ak))) (some (.lst (tabL w.arr))) (some (w.d)) (none) (some (.lst (nums row))) (some (.lst (nums pk))) (some (.lst (nums way))) (r13) (o14) (none) (some (.lst (Rs.map rlL))) (some (.lst (Rs.map rlO))) (none) (some (.lst (nums dr))) (some (.lst (ps.map pairD))) (some (.int half)) (some (oddD w))
  generalize rlO (Rs.getD 0 rl0) = rm at hm0 eodd
  generalize hL31 : l_law_31 = L31 at eodd ⊢
  refine step (ρ' := [some (.scr ns), some (.lst (nums sh)), some (.int w.size), some (.int w.kinds), some (.int w.start), some (.lst (mvL mv)), some (.lst (tabL w.ak)), some (.lst (tabL w.arr)), some (w.d), none, some (.lst (nums row)), some (.lst (nums pk)), some (.lst (nums way)), r13, o14, none, some (.lst (Rs.map rlL)), some (.lst (Rs.map rlO)), none, some (.lst (nums dr)), some (.lst (ps.map pairD)), some (.int half), some (d2), some (oddD w), o24]) (by simp [NW.R.bind, NW.R.out, Out.seq, hm0, szL, eodd]) ?_
  have hcod : clean (oddD w) = true := by
    unfold oddD
    simp only [clean, cleans, cl_nums]
    rfl
  have hcl1 : cleans (Rs.map rlO ++ [oddD w]) = true := by
    rw [cleans_app, cl_rules]
    simp only [cleans, hcod]
    rfl
  have ef1 := (law_fitted (cl_seen hd2) hcl1).2 (fitting_odd hw hR hd2)
  have ef2 := (law_fitted (cl_seen hd2) (ds := []) (by unfold cleans; rfl)).1 (.lst []) (by
    have := seen_c hd2
    unfold m_fitting b_fitting
    simp [NW.R.bind, NW.R.out, Out.seq, compX, enumF, enumI, enumL, zipL, wipeE, szL, compD])
  have ge := alike 5 (d := .lst [.str "list", .lst []]) (.inr ⟨_, .inl rfl, by simp, fun x hx => by
    simp at hx
    rcases hx with rfl | rfl
    · exact .inl rfl
    · exact .inr ⟨[], .inl rfl, by simp, fun x hx => nomatch hx⟩⟩)
  have gu := gd_unlike
  have zR1 : Rs.length + 1 ≤ 16777216 := by have := hR.len; omega
  refine step (ρ' := [some (.scr ns), some (.lst (nums sh)), some (.int w.size), some (.int w.kinds), some (.int w.start), some (.lst (mvL mv)), some (.lst (tabL w.ak)), some (.lst (tabL w.arr)), some (w.d), none, some (.lst (nums row)), some (.lst (nums pk)), some (.lst (nums way)), r13, o14, none, some (.lst (Rs.map rlL)), some (.lst (Rs.map rlO)), none, some (.lst (nums dr)), some (.lst (ps.map pairD)), some (.int half), some (d2), some (oddD w), o24]) (by simp [NW.R.bind, NW.R.out, Out.seq, listD, addD, szL, zR1, ef1, ef2, ge, gu]) ?_
  have hpt := law_parted hw hR hd2 hrow12 hps2
  simp [NW.R.bind, NW.R.out, Out.seq, hpt, flat]
theorem plain : ∀ ns : List Int, ns.length ≤ 63 → m_law [.scr ns] = .ok (.bl true) := fun ns _ => law_holds ns
end
end K79.PL
end

section
set_option Elab.async false
set_option linter.all false
set_option maxRecDepth 100000
set_option maxHeartbeats 0
/-! printed by gen.py -/
namespace K79
open PySem PySem.Spec L2 NW
open PyProof.Rows hiding St

abbrev top (i : Nat) : Stmt := PySem.Challenge.pw_neverworsethan_k79_rules_that_fit_runs.main.body.getD i (.Pass ⟨0, 0, 0, 0⟩)
def clsBody (s : Stmt) : List Stmt := match s with
  | .ClassDef _ _ _ b _ _ _ _ _ _ _ => b
  | _ => []
abbrev meth (i j : Nat) : Stmt := (clsBody (top i)).getD j (.Pass ⟨0, 0, 0, 0⟩)
section
abbrev st_System_kinds : Stmt := (meth 30 2)
abbrev st_System_size : Stmt := (meth 30 1)
abbrev st_System_serving : Stmt := (meth 30 3)
abbrev st_Machine_kinds : Stmt := (meth 36 3)
abbrev st_Machine_after : Stmt := (meth 36 4)
abbrev st_Machine_lets : Stmt := (meth 36 5)
abbrev st_Rule_kinds : Stmt := (meth 42 3)
abbrev st_Rule_after : Stmt := (meth 42 4)
abbrev st_first_table : Stmt := (top 13)
abbrev st_next_table : Stmt := (top 14)
abbrev st_check_kinds : Stmt := (top 16)
abbrev st_is_cost : Stmt := (top 26)
abbrev st_check_moves : Stmt := (top 27)
abbrev st_check_asks : Stmt := (top 28)
abbrev st_closed : Stmt := (top 29)
abbrev st_System_init : Stmt := (meth 30 0)
abbrev st_check_arrows : Stmt := (top 33)
abbrev st_Machine_init : Stmt := (meth 36 0)
abbrev st_good_memory : Stmt := (top 38)
abbrev st_check_rule : Stmt := (top 39)
abbrev st_Rule_init : Stmt := (meth 42 1)
abbrev st_World_init : Stmt := (meth 44 0)
abbrev st_Seen_init : Stmt := (meth 17 0)
abbrev st_Seen_note : Stmt := (meth 17 3)
abbrev st_Seen_fits : Stmt := (meth 17 5)
abbrev st_Seen_twin : Stmt := (meth 17 6)
abbrev st_fitting : Stmt := (top 18)
abbrev st_memory_after : Stmt := (top 19)
abbrev st_are_apart : Stmt := (top 20)
abbrev st_next_apart : Stmt := (top 21)
abbrev st__law_cell : Stmt := (top 46)
abbrev st__law_numbers : Stmt := (top 47)
abbrev st__law_alike : Stmt := (top 48)
abbrev st__law_moves : Stmt := (top 49)
abbrev st__law_asks : Stmt := (top 50)
abbrev st__law_arrows : Stmt := (top 51)
abbrev st__law_row : Stmt := (top 52)
abbrev st__law_rule : Stmt := (top 53)
abbrev st__law_chain : Stmt := (top 54)
abbrev st__law_bent : Stmt := (top 55)
abbrev st__law_rules : Stmt := (top 56)
abbrev st__law_walked : Stmt := (top 57)
abbrev st__law_fits : Stmt := (top 58)
abbrev st__law_next : Stmt := (top 59)
abbrev st__law_asked : Stmt := (top 60)
abbrev st__law_fitted : Stmt := (top 61)
abbrev st__law_due : Stmt := (top 62)
abbrev st__law_checked : Stmt := (top 63)
abbrev st__law_parted : Stmt := (top 64)
abbrev st_law : Stmt := (top 65)
abbrev st_x9 : Stmt := meth 11 0
structure Fx (K : PySem.W.Frag) (mg : Str → Option Value) (G : Gb) : Prop where
  free_len : mg "len" = none
  cl_10 : Cls K (G.cls 10)
  nm_10 : G.names 10 = (["moves", "asks"] : List Str)
  na_10_asks : NoAttr K (G.cls 10) "asks"
  d_System_kinds : ∃ p f fd, FunD K "kinds" "System.kinds" (defArgs st_System_kinds) (defBody st_System_kinds) (defScope st_System_kinds) [] [] f fd ∧ PropOf K (G.cls 10) "kinds" p f
  na_10_moves : NoAttr K (G.cls 10) "moves"
  d_System_size : ∃ p f fd, FunD K "size" "System.size" (defArgs st_System_size) (defBody st_System_size) (defScope st_System_size) [] [] f fd ∧ PropOf K (G.cls 10) "size" p f
  free_range : mg "range" = none
  d_System_serving : ∃ f fd, FunD K "serving" "System.serving" (defArgs st_System_serving) (defBody st_System_serving) (defScope st_System_serving) [] [] f fd ∧ Meth K (G.cls 10) "serving" f
  cl_11 : Cls K (G.cls 11)
  nm_11 : G.names 11 = (["arrows"] : List Str)
  na_11_arrows : NoAttr K (G.cls 11) "arrows"
  d_Machine_kinds : ∃ p f fd, FunD K "kinds" "Machine.kinds" (defArgs st_Machine_kinds) (defBody st_Machine_kinds) (defScope st_Machine_kinds) [] [] f fd ∧ PropOf K (G.cls 11) "kinds" p f
  d_Machine_after : ∃ f fd, FunD K "after" "Machine.after" (defArgs st_Machine_after) (defBody st_Machine_after) (defScope st_Machine_after) [] [] f fd ∧ Meth K (G.cls 11) "after" f
  d_Machine_lets : ∃ f fd, FunD K "lets" "Machine.lets" (defArgs st_Machine_lets) (defBody st_Machine_lets) (defScope st_Machine_lets) [] [] f fd ∧ Meth K (G.cls 11) "lets" f
  cl_12 : Cls K (G.cls 12)
  nm_12 : G.names 12 = (["places", "table"] : List Str)
  na_12_table : NoAttr K (G.cls 12) "table"
  d_Rule_kinds : ∃ p f fd, FunD K "kinds" "Rule.kinds" (defArgs st_Rule_kinds) (defBody st_Rule_kinds) (defScope st_Rule_kinds) [] [] f fd ∧ PropOf K (G.cls 12) "kinds" p f
  d_Rule_after : ∃ f fd, FunD K "after" "Rule.after" (defArgs st_Rule_after) (defBody st_Rule_after) (defScope st_Rule_after) [] [] f fd ∧ Meth K (G.cls 12) "after" f
  free_list : mg "list" = none
  d_first_table : ∃ f fd, FunD K "first_table" "first_table" (defArgs st_first_table) (defBody st_first_table) (defScope st_first_table) [] [] f fd ∧ mg "first_table" = some (.ref f)
  free_min : mg "min" = none
  d_next_table : ∃ f fd, FunD K "next_table" "next_table" (defArgs st_next_table) (defBody st_next_table) (defScope st_next_table) [] [] f fd ∧ mg "next_table" = some (.ref f)
  cl_13 : Cls K (G.cls 13)
  nm_13 : G.names 13 = (["system", "machine", "place"] : List Str)
  na_13_system : NoAttr K (G.cls 13) "system"
  cl_14 : Cls K (G.cls 14)
  nm_14 : G.names 14 = (["world", "row", "way", "pairs", "paid", "turns", "moments", "state", "table"] : List Str)
  na_14_world : NoAttr K (G.cls 14) "world"
  ct_3 : CalT K mg G 3 "Unlike"
  d_check_kinds : ∃ f fd, FunD K "check_kinds" "check_kinds" (defArgs st_check_kinds) (defBody st_check_kinds) (defScope st_check_kinds) [] [] f fd ∧ mg "check_kinds" = some (.ref f)
  int_COST : ∃ t, mg "COST" = some (.int 99 t)
  d_is_cost : ∃ f fd, FunD K "is_cost" "is_cost" (defArgs st_is_cost) (defBody st_is_cost) (defScope st_is_cost) [] [] f fd ∧ mg "is_cost" = some (.ref f)
  int_PLACES : ∃ t, mg "PLACES" = some (.int 6 t)
  d_check_moves : ∃ f fd, FunD K "check_moves" "check_moves" (defArgs st_check_moves) (defBody st_check_moves) (defScope st_check_moves) [] [] f fd ∧ mg "check_moves" = some (.ref f)
  int_KINDS : ∃ t, mg "KINDS" = some (.int 8 t)
  d_check_asks : ∃ f fd, FunD K "check_asks" "check_asks" (defArgs st_check_asks) (defBody st_check_asks) (defScope st_check_asks) [] [] f fd ∧ mg "check_asks" = some (.ref f)
  free_tuple : mg "tuple" = none
  d_closed : ∃ f fd, FunD K "closed" "closed" (defArgs st_closed) (defBody st_closed) (defScope st_closed) [] [] f fd ∧ mg "closed" = some (.ref f)
  d_System_init : ∃ f fd, FunD K "__init__" "System.__init__" (defArgs st_System_init) (defBody st_System_init) (defScope st_System_init) [] [] f fd ∧ mg "System" = some (.ref (G.cls 10)) ∧ Mk K (G.cls 10) f
  int_STATES : ∃ t, mg "STATES" = some (.int 40 t)
  d_check_arrows : ∃ f fd, FunD K "check_arrows" "check_arrows" (defArgs st_check_arrows) (defBody st_check_arrows) (defScope st_check_arrows) [] [] f fd ∧ mg "check_arrows" = some (.ref f)
  d_Machine_init : ∃ f fd, FunD K "__init__" "Machine.__init__" (defArgs st_Machine_init) (defBody st_Machine_init) (defScope st_Machine_init) [] [] f fd ∧ mg "Machine" = some (.ref (G.cls 11)) ∧ Mk K (G.cls 11) f
  d_good_memory : ∃ f fd, FunD K "good_memory" "good_memory" (defArgs st_good_memory) (defBody st_good_memory) (defScope st_good_memory) [] [] f fd ∧ mg "good_memory" = some (.ref f)
  cv_12_MEMORIES : ∃ mc u, mg "Rule" = some (.ref (G.cls 12)) ∧ ClX.CRead K (G.cls 12) mc ∧ ClX.CVal K (G.cls 12) mc "MEMORIES" (.int 400) u
  d_check_rule : ∃ f fd, FunD K "check_rule" "check_rule" (defArgs st_check_rule) (defBody st_check_rule) (defScope st_check_rule) [] [] f fd ∧ mg "check_rule" = some (.ref f)
  na_12_places : NoAttr K (G.cls 12) "places"
  d_Rule_init : ∃ f fd, FunD K "__init__" "Rule.__init__" (defArgs st_Rule_init) (defBody st_Rule_init) (defScope st_Rule_init) [] [] f fd ∧ mg "Rule" = some (.ref (G.cls 12)) ∧ Mk K (G.cls 12) f
  na_13_machine : NoAttr K (G.cls 13) "machine"
  na_13_place : NoAttr K (G.cls 13) "place"
  d_World_init : ∃ f fd, FunD K "__init__" "World.__init__" (defArgs st_World_init) (defBody st_World_init) (defScope st_World_init) [] [] f fd ∧ mg "World" = some (.ref (G.cls 13)) ∧ Mk K (G.cls 13) f
  na_14_row : NoAttr K (G.cls 14) "row"
  na_14_way : NoAttr K (G.cls 14) "way"
  na_14_pairs : NoAttr K (G.cls 14) "pairs"
  na_14_paid : NoAttr K (G.cls 14) "paid"
  na_14_turns : NoAttr K (G.cls 14) "turns"
  na_14_moments : NoAttr K (G.cls 14) "moments"
  na_14_state : NoAttr K (G.cls 14) "state"
  na_14_table : NoAttr K (G.cls 14) "table"
  d_Seen_init : ∃ f fd, FunD K "__init__" "Seen.__init__" (defArgs st_Seen_init) (defBody st_Seen_init) (defScope st_Seen_init) [] [] f fd ∧ mg "Seen" = some (.ref (G.cls 14)) ∧ Mk K (G.cls 14) f
  d_Seen_note : ∃ f fd, FunD K "note" "Seen.note" (defArgs st_Seen_note) (defBody st_Seen_note) (defScope st_Seen_note) [] [] f fd ∧ Meth K (G.cls 14) "note" f
  free_zip : mg "zip" = none
  d_Seen_fits : ∃ f fd, FunD K "fits" "Seen.fits" (defArgs st_Seen_fits) (defBody st_Seen_fits) (defScope st_Seen_fits) [] [] f fd ∧ Meth K (G.cls 14) "fits" f
  d_Seen_twin : ∃ f fd, FunD K "twin" "Seen.twin" (defArgs st_Seen_twin) (defBody st_Seen_twin) (defScope st_Seen_twin) [] [] f fd ∧ Meth K (G.cls 14) "twin" f
  free_enumerate : mg "enumerate" = none
  d_fitting : ∃ f fd, FunD K "fitting" "fitting" (defArgs st_fitting) (defBody st_fitting) (defScope st_fitting) [] [] f fd ∧ mg "fitting" = some (.ref f)
  d_memory_after : ∃ f fd, FunD K "memory_after" "memory_after" (defArgs st_memory_after) (defBody st_memory_after) (defScope st_memory_after) [] [] f fd ∧ mg "memory_after" = some (.ref f)
  d_are_apart : ∃ f fd, FunD K "are_apart" "are_apart" (defArgs st_are_apart) (defBody st_are_apart) (defScope st_are_apart) [] [] f fd ∧ mg "are_apart" = some (.ref f)
  d_next_apart : ∃ f fd, FunD K "next_apart" "next_apart" (defArgs st_next_apart) (defBody st_next_apart) (defScope st_next_apart) [] [] f fd ∧ mg "next_apart" = some (.ref f)
  free_int : mg "int" = none
  d__law_cell : ∃ f fd, FunD K "_law_cell" "_law_cell" (defArgs st__law_cell) (defBody st__law_cell) (defScope st__law_cell) [] [] f fd ∧ mg "_law_cell" = some (.ref f)
  free_abs : mg "abs" = none
  d__law_numbers : ∃ f fd, FunD K "_law_numbers" "_law_numbers" (defArgs st__law_numbers) (defBody st__law_numbers) (defScope st__law_numbers) [] [] f fd ∧ mg "_law_numbers" = some (.ref f)
  free_isinstance : mg "isinstance" = none
  free_bool : mg "bool" = none
  free_str : mg "str" = none
  d__law_alike : ∃ f fd, FunD K "_law_alike" "_law_alike" (defArgs st__law_alike) (defBody st__law_alike) (defScope st__law_alike) [] [] f fd ∧ mg "_law_alike" = some (.ref f)
  d__law_moves : ∃ f fd, FunD K "_law_moves" "_law_moves" (defArgs st__law_moves) (defBody st__law_moves) (defScope st__law_moves) [] [] f fd ∧ mg "_law_moves" = some (.ref f)
  d__law_asks : ∃ f fd, FunD K "_law_asks" "_law_asks" (defArgs st__law_asks) (defBody st__law_asks) (defScope st__law_asks) [] [] f fd ∧ mg "_law_asks" = some (.ref f)
  d__law_arrows : ∃ f fd, FunD K "_law_arrows" "_law_arrows" (defArgs st__law_arrows) (defBody st__law_arrows) (defScope st__law_arrows) [] [] f fd ∧ mg "_law_arrows" = some (.ref f)
  d__law_row : ∃ f fd, FunD K "_law_row" "_law_row" (defArgs st__law_row) (defBody st__law_row) (defScope st__law_row) [] [] f fd ∧ mg "_law_row" = some (.ref f)
  d__law_rule : ∃ f fd, FunD K "_law_rule" "_law_rule" (defArgs st__law_rule) (defBody st__law_rule) (defScope st__law_rule) [] [] f fd ∧ mg "_law_rule" = some (.ref f)
  d__law_chain : ∃ f fd, FunD K "_law_chain" "_law_chain" (defArgs st__law_chain) (defBody st__law_chain) (defScope st__law_chain) [] [] f fd ∧ mg "_law_chain" = some (.ref f)
  d__law_bent : ∃ f fd, FunD K "_law_bent" "_law_bent" (defArgs st__law_bent) (defBody st__law_bent) (defScope st__law_bent) [] [] f fd ∧ mg "_law_bent" = some (.ref f)
  d__law_rules : ∃ f fd, FunD K "_law_rules" "_law_rules" (defArgs st__law_rules) (defBody st__law_rules) (defScope st__law_rules) [] [] f fd ∧ mg "_law_rules" = some (.ref f)
  d__law_walked : ∃ f fd, FunD K "_law_walked" "_law_walked" (defArgs st__law_walked) (defBody st__law_walked) (defScope st__law_walked) [] [] f fd ∧ mg "_law_walked" = some (.ref f)
  d__law_fits : ∃ f fd, FunD K "_law_fits" "_law_fits" (defArgs st__law_fits) (defBody st__law_fits) (defScope st__law_fits) [] [] f fd ∧ mg "_law_fits" = some (.ref f)
  d__law_next : ∃ f fd, FunD K "_law_next" "_law_next" (defArgs st__law_next) (defBody st__law_next) (defScope st__law_next) [] [] f fd ∧ mg "_law_next" = some (.ref f)
  xf_9 : XfC K (G.cls 9)
  xn_9_ask : PySem.W.findIn K (.ref (G.cls 9)) "ask" = some none
  nm_9 : G.names 9 = (["memory", "ask"] : List Str)
  xn_9_memory : PySem.W.findIn K (.ref (G.cls 9)) "memory" = some none
  gc_0 : mg "WorseError" = some (.ref (G.cls 0))
  ts_0 : Tst K G (.ref (G.cls 0)) ts_0
  noexc : ∀ a d c, ¬ G.exc a d c
  gc_3 : mg "Unlike" = some (.ref (G.cls 3))
  ts_3 : Tst K G (.ref (G.cls 3)) ts_3
  gc_9 : mg "NotReady" = some (.ref (G.cls 9))
  ts_9 : Tst K G (.ref (G.cls 9)) ts_9
  d__law_asked : ∃ f fd, FunD K "_law_asked" "_law_asked" (defArgs st__law_asked) (defBody st__law_asked) (defScope st__law_asked) [] [] f fd ∧ mg "_law_asked" = some (.ref f)
  xi_3 : ExcC K (G.cls 3)
  xk_3_ValueError : PySem.W.kitOne K (.ref (G.cls 3)) (.type "ValueError") = some true
  free_ValueError : mg "ValueError" = none
  xk_3_9 : PySem.W.kitOne K (.ref (G.cls 3)) (.ref (G.cls 9)) = some false
  d__law_fitted : ∃ f fd, FunD K "_law_fitted" "_law_fitted" (defArgs st__law_fitted) (defBody st__law_fitted) (defScope st__law_fitted) [] [] f fd ∧ mg "_law_fitted" = some (.ref f)
  d__law_due : ∃ f fd, FunD K "_law_due" "_law_due" (defArgs st__law_due) (defBody st__law_due) (defScope st__law_due) [] [] f fd ∧ mg "_law_due" = some (.ref f)
  d__law_checked : ∃ f fd, FunD K "_law_checked" "_law_checked" (defArgs st__law_checked) (defBody st__law_checked) (defScope st__law_checked) [] [] f fd ∧ mg "_law_checked" = some (.ref f)
  d__law_parted : ∃ f fd, FunD K "_law_parted" "_law_parted" (defArgs st__law_parted) (defBody st__law_parted) (defScope st__law_parted) [] [] f fd ∧ mg "_law_parted" = some (.ref f)
  d_law : ∃ f fd, FunD K "law" "law" (defArgs st_law) (defBody st_law) (defScope st_law) [] [] f fd ∧ mg "law" = some (.ref f)
  dx_9 : ∃ f fd, FunD K "__init__" "NotReady.__init__" (defArgs st_x9) (defBody st_x9) (defScope st_x9) [] [] f fd ∧ OexC K (G.cls 9) ∧ PySem.W.findIn K (.ref (G.cls 9)) "__init__" = some (some (.ref f)) ∧ PySem.W.typeIn K (.ref f) = some (.type "function") ∧ mg "NotReady" = some (.ref (G.cls 9))
end
section
variable {P : Program} {w : World} {K : PySem.W.Frag} {mg : Str → Option Value} {base : Heap} {G : Gb}
theorem cvalI {X : Cx} {G : Gb} {W : WX} {O : List Ow} {C : Addr} {x f : Str} {i : Int} {p2 pos : Pos} (h : ∃ mc u, X.mg x = some (.ref C) ∧ ClX.CRead X.K C mc ∧ ClX.CVal X.K C mc f (.int i) u) (hg : Gl X x := by rfl) (hd : (x == ("__debug__" : Str)) = false := by decide)
    (hb : attributeBase (.Name x p2) f X.env (eval (.Name x p2) X.env) = eval (.Name x p2) X.env := by rfl) : GB X G W O .fz (.Attribute (.Name x p2) f pos) (cD (.int i)) := by
  obtain ⟨mc, u, h1, h2, h3⟩ := h
  exact gb_cval (d := .int i) rfl h1 h2 h3 hg hd hb
theorem fld_10_0 (fx : Fx K mg G) : Fld K G 10 0 "moves" := ⟨fx.cl_10, fx.na_10_moves, by rw [fx.nm_10]; rfl, by rw [fx.nm_10]; decide⟩
theorem fld_10_1 (fx : Fx K mg G) : Fld K G 10 1 "asks" := ⟨fx.cl_10, fx.na_10_asks, by rw [fx.nm_10]; rfl, by rw [fx.nm_10]; decide⟩
theorem fld_11_0 (fx : Fx K mg G) : Fld K G 11 0 "arrows" := ⟨fx.cl_11, fx.na_11_arrows, by rw [fx.nm_11]; rfl, by rw [fx.nm_11]; decide⟩
theorem fld_12_0 (fx : Fx K mg G) : Fld K G 12 0 "places" := ⟨fx.cl_12, fx.na_12_places, by rw [fx.nm_12]; rfl, by rw [fx.nm_12]; decide⟩
theorem fld_12_1 (fx : Fx K mg G) : Fld K G 12 1 "table" := ⟨fx.cl_12, fx.na_12_table, by rw [fx.nm_12]; rfl, by rw [fx.nm_12]; decide⟩
theorem fld_13_0 (fx : Fx K mg G) : Fld K G 13 0 "system" := ⟨fx.cl_13, fx.na_13_system, by rw [fx.nm_13]; rfl, by rw [fx.nm_13]; decide⟩
theorem fld_13_1 (fx : Fx K mg G) : Fld K G 13 1 "machine" := ⟨fx.cl_13, fx.na_13_machine, by rw [fx.nm_13]; rfl, by rw [fx.nm_13]; decide⟩
theorem fld_13_2 (fx : Fx K mg G) : Fld K G 13 2 "place" := ⟨fx.cl_13, fx.na_13_place, by rw [fx.nm_13]; rfl, by rw [fx.nm_13]; decide⟩
theorem fld_14_0 (fx : Fx K mg G) : Fld K G 14 0 "world" := ⟨fx.cl_14, fx.na_14_world, by rw [fx.nm_14]; rfl, by rw [fx.nm_14]; decide⟩
theorem fld_14_1 (fx : Fx K mg G) : Fld K G 14 1 "row" := ⟨fx.cl_14, fx.na_14_row, by rw [fx.nm_14]; rfl, by rw [fx.nm_14]; decide⟩
theorem fld_14_2 (fx : Fx K mg G) : Fld K G 14 2 "way" := ⟨fx.cl_14, fx.na_14_way, by rw [fx.nm_14]; rfl, by rw [fx.nm_14]; decide⟩
theorem fld_14_3 (fx : Fx K mg G) : Fld K G 14 3 "pairs" := ⟨fx.cl_14, fx.na_14_pairs, by rw [fx.nm_14]; rfl, by rw [fx.nm_14]; decide⟩
theorem fld_14_4 (fx : Fx K mg G) : Fld K G 14 4 "paid" := ⟨fx.cl_14, fx.na_14_paid, by rw [fx.nm_14]; rfl, by rw [fx.nm_14]; decide⟩
theorem fld_14_5 (fx : Fx K mg G) : Fld K G 14 5 "turns" := ⟨fx.cl_14, fx.na_14_turns, by rw [fx.nm_14]; rfl, by rw [fx.nm_14]; decide⟩
theorem fld_14_6 (fx : Fx K mg G) : Fld K G 14 6 "moments" := ⟨fx.cl_14, fx.na_14_moments, by rw [fx.nm_14]; rfl, by rw [fx.nm_14]; decide⟩
theorem fld_14_7 (fx : Fx K mg G) : Fld K G 14 7 "state" := ⟨fx.cl_14, fx.na_14_state, by rw [fx.nm_14]; rfl, by rw [fx.nm_14]; decide⟩
theorem fld_14_8 (fx : Fx K mg G) : Fld K G 14 8 "table" := ⟨fx.cl_14, fx.na_14_table, by rw [fx.nm_14]; rfl, by rw [fx.nm_14]; decide⟩
theorem sc_x9 : FnScope ["self", "memory", "ask"] ["self", "memory", "ask"] (defScope st_x9) := ⟨rfl, rfl, rfl, by decide +kernel, rfl, by decide +kernel, by decide +kernel⟩
theorem cx_9 (fx : Fx K mg G) : CalX P w K mg base G 9 "NotReady" 1 ["memory", "ask"] := by
  obtain ⟨f, fd, F, T, hi, ht, hm⟩ := fx.dx_9
  exact ⟨⟨f, fd, ["self", "memory", "ask"], okX2 (by decide) (k := 0) F sc_x9 (fun cdv A outer s H E => pss_cons (ps_ost (pv 0) (pv 1)) (pss_one (ps_ost (pv 0) (pv 2)))), T, hi, ht, F.bindsN fun _ _ _ _ _ _ us hl => match us, hl with | [_, _, _], _ => rfl, hm⟩, by
    intro f hf
    simp only [List.mem_cons, List.not_mem_nil, or_false] at hf
    rcases hf with rfl | rfl
    · exact fx.xn_9_memory
    · exact fx.xn_9_ask, fx.nm_9, by decide, by decide, by decide⟩
/-! System.kinds -/
theorem sc_System_kinds : FnScope ["self"] ["self"] (defScope st_System_kinds) := ⟨rfl, rfl, rfl, by decide +kernel, rfl, by decide +kernel, by decide +kernel⟩
theorem c_System_kinds (fx : Fx K mg G) : CalP P w K mg base G 10 "kinds" 1 (spP K G 1 .fz m_System_kinds) := by
  obtain ⟨p, f, fd, F, pr⟩ := fx.d_System_kinds
  refine ⟨p, f, fd, ["self"], okP (O1 := [.fz]) F sc_System_kinds rfl (by decide) (by decide) fun cdv A outer s H E hr => ?_, fx.cl_10, pr, F.bindsN fun _ _ _ _ _ _ us hl => match us, hl with | [_], _ => rfl⟩
  exact (gss_one (gs_ret (gn_fz (gb_len fx.free_len (gb_fld (gb_var 0) (fld_10_1 fx))))))
/-! System.size -/
theorem sc_System_size : FnScope ["self"] ["self"] (defScope st_System_size) := ⟨rfl, rfl, rfl, by decide +kernel, rfl, by decide +kernel, by decide +kernel⟩
theorem c_System_size (fx : Fx K mg G) : CalP P w K mg base G 10 "size" 1 (spP K G 1 .fz m_System_size) := by
  obtain ⟨p, f, fd, F, pr⟩ := fx.d_System_size
  refine ⟨p, f, fd, ["self"], okP (O1 := [.fz]) F sc_System_size rfl (by decide) (by decide) fun cdv A outer s H E hr => ?_, fx.cl_10, pr, F.bindsN fun _ _ _ _ _ _ us hl => match us, hl with | [_], _ => rfl⟩
  exact (gss_one (gs_ret (gn_fz (gb_len fx.free_len (gb_fld (gb_var 0) (fld_10_0 fx))))))
/-! System.serving -/
theorem sc_System_serving : FnScope ["self", "ask", "row", "place"] ["self", "ask"] (defScope st_System_serving) := ⟨rfl, rfl, rfl, by decide +kernel, rfl, by decide +kernel, by decide +kernel⟩
theorem c_System_serving (fx : Fx K mg G) : CalM P w K mg base G 10 "serving" 1 (spP K G 2 .fz m_System_serving) := by
  obtain ⟨f, fd, F, me⟩ := fx.d_System_serving
  refine ⟨⟨f, fd, ["self", "ask"], okP (O1 := [.fz, .fz, .fz, .na]) F sc_System_serving rfl (by decide) (by decide) fun cdv A outer s H E hr => ?_, fx.cl_10, me, F.bindsN fun _ _ _ _ _ _ us hl => match us, hl with | [_, _], _ => rfl⟩, by rw [fx.nm_10]; decide⟩
  exact (gss_cons (gs_set 2 (gn_fz (gb_ix (gb_fld (gb_var 0) (fld_10_1 fx)) (gb_var 1))) sc_System_serving.nd) (gss_one (gs_ret (gn_compX (takes_of rfl rfl rfl rfl) rfl sc_System_serving.nd (gi_range1 fx.free_range (gb_len fx.free_len (gb_var 2))) (blkOk_by (own := [("place", 3)]) (by rfl)) (fun _ _ _ _ _ _ => (gp_name 3 sc_System_serving.nd)) (fun _ _ _ _ _ _ _ tk' => (gtw_one (gt_isnot (gb_ix (gb_var 2) (gb_var 3)) gb_non))) (fun _ _ _ _ _ _ _ tk' => (gn_fz (gb_var 3)))))))
/-! Machine.kinds -/
theorem sc_Machine_kinds : FnScope ["self"] ["self"] (defScope st_Machine_kinds) := ⟨rfl, rfl, rfl, by decide +kernel, rfl, by decide +kernel, by decide +kernel⟩
theorem c_Machine_kinds (fx : Fx K mg G) : CalP P w K mg base G 11 "kinds" 1 (spP K G 1 .fz m_Machine_kinds) := by
  obtain ⟨p, f, fd, F, pr⟩ := fx.d_Machine_kinds
  refine ⟨p, f, fd, ["self"], okP (O1 := [.fz]) F sc_Machine_kinds rfl (by decide) (by decide) fun cdv A outer s H E hr => ?_, fx.cl_11, pr, F.bindsN fun _ _ _ _ _ _ us hl => match us, hl with | [_], _ => rfl⟩
  exact (gss_one (gs_ret (gn_fz (gb_len fx.free_len (gb_ix (gb_fld (gb_var 0) (fld_11_0 fx)) gb_int)))))
/-! Machine.after -/
theorem sc_Machine_after : FnScope ["self", "state", "ask"] ["self", "state", "ask"] (defScope st_Machine_after) := ⟨rfl, rfl, rfl, by decide +kernel, rfl, by decide +kernel, by decide +kernel⟩
theorem c_Machine_after (fx : Fx K mg G) : CalM P w K mg base G 11 "after" 1 (spP K G 3 .fz m_Machine_after) := by
  obtain ⟨f, fd, F, me⟩ := fx.d_Machine_after
  refine ⟨⟨f, fd, ["self", "state", "ask"], okP (O1 := [.fz, .fz, .fz]) F sc_Machine_after rfl (by decide) (by decide) fun cdv A outer s H E hr => ?_, fx.cl_11, me, F.bindsN fun _ _ _ _ _ _ us hl => match us, hl with | [_, _, _], _ => rfl⟩, by rw [fx.nm_11]; decide⟩
  exact (gss_cons (gs_if (O' := [.fz, .fz, .fz]) (gt_not (gt_chn op_le op_lt o_cmp o_cmp nx_cmp nx_cmp gb_int (gb_var 2) (gb_len fx.free_len (gb_ix (gb_fld (gb_var 0) (fld_11_0 fx)) gb_int)))) (gss_one (gs_ret (gn_fz gb_non))) gss_nil) (gss_one (gs_ret (gn_fz (gb_ix (gb_ix (gb_fld (gb_var 0) (fld_11_0 fx)) (gb_var 1)) (gb_var 2))))))
/-! Machine.lets -/
theorem sc_Machine_lets : FnScope ["self", "state", "row", "ask"] ["self", "state"] (defScope st_Machine_lets) := ⟨rfl, rfl, rfl, by decide +kernel, rfl, by decide +kernel, by decide +kernel⟩
theorem c_Machine_lets (fx : Fx K mg G) : CalM P w K mg base G 11 "lets" 1 (spP K G 2 .fz m_Machine_lets) := by
  obtain ⟨f, fd, F, me⟩ := fx.d_Machine_lets
  refine ⟨⟨f, fd, ["self", "state"], okP (O1 := [.fz, .fz, .fz, .na]) F sc_Machine_lets rfl (by decide) (by decide) fun cdv A outer s H E hr => ?_, fx.cl_11, me, F.bindsN fun _ _ _ _ _ _ us hl => match us, hl with | [_, _], _ => rfl⟩, by rw [fx.nm_11]; decide⟩
  exact (gss_cons (gs_set 2 (gn_fz (gb_ix (gb_fld (gb_var 0) (fld_11_0 fx)) (gb_var 1))) sc_Machine_lets.nd) (gss_one (gs_ret (gn_compX (takes_of rfl rfl rfl rfl) rfl sc_Machine_lets.nd (gi_range1 fx.free_range (gb_len fx.free_len (gb_var 2))) (blkOk_by (own := [("ask", 3)]) (by rfl)) (fun _ _ _ _ _ _ => (gp_name 3 sc_Machine_lets.nd)) (fun _ _ _ _ _ _ _ tk' => (gtw_one (gt_isnot (gb_ix (gb_var 2) (gb_var 3)) gb_non))) (fun _ _ _ _ _ _ _ tk' => (gn_fz (gb_var 3)))))))
/-! Rule.kinds -/
theorem sc_Rule_kinds : FnScope ["self"] ["self"] (defScope st_Rule_kinds) := ⟨rfl, rfl, rfl, by decide +kernel, rfl, by decide +kernel, by decide +kernel⟩
theorem c_Rule_kinds (fx : Fx K mg G) : CalP P w K mg base G 12 "kinds" 1 (spP K G 1 .fz m_Rule_kinds) := by
  obtain ⟨p, f, fd, F, pr⟩ := fx.d_Rule_kinds
  refine ⟨p, f, fd, ["self"], okP (O1 := [.fz]) F sc_Rule_kinds rfl (by decide) (by decide) fun cdv A outer s H E hr => ?_, fx.cl_12, pr, F.bindsN fun _ _ _ _ _ _ us hl => match us, hl with | [_], _ => rfl⟩
  exact (gss_one (gs_ret (gn_fz (gb_len fx.free_len (gb_ix (gb_fld (gb_var 0) (fld_12_1 fx)) gb_int)))))
/-! Rule.after -/
theorem sc_Rule_after : FnScope ["self", "memory", "ask"] ["self", "memory", "ask"] (defScope st_Rule_after) := ⟨rfl, rfl, rfl, by decide +kernel, rfl, by decide +kernel, by decide +kernel⟩
theorem c_Rule_after (fx : Fx K mg G) : CalM P w K mg base G 12 "after" 1 (spP K G 3 .fz m_Rule_after) := by
  obtain ⟨f, fd, F, me⟩ := fx.d_Rule_after
  refine ⟨⟨f, fd, ["self", "memory", "ask"], okP (O1 := [.fz, .fz, .fz]) F sc_Rule_after rfl (by decide) (by decide) fun cdv A outer s H E hr => ?_, fx.cl_12, me, F.bindsN fun _ _ _ _ _ _ us hl => match us, hl with | [_, _, _], _ => rfl⟩, by rw [fx.nm_12]; decide⟩
  exact (gss_cons (gs_if (O' := [.fz, .fz, .fz]) (gt_not (gt_chn op_le op_lt o_cmp o_cmp nx_cmp nx_cmp gb_int (gb_var 2) (gb_len fx.free_len (gb_ix (gb_fld (gb_var 0) (fld_12_1 fx)) gb_int)))) (gss_one (gs_ret (gn_fz gb_non))) gss_nil) (gss_one (gs_ret (gn_fz (gb_ix (gb_ix (gb_fld (gb_var 0) (fld_12_1 fx)) (gb_var 1)) (gb_var 2))))))
/-! first_table -/
theorem sc_first_table : FnScope ["system", "place"] ["system", "place"] (defScope st_first_table) := ⟨rfl, rfl, rfl, by decide +kernel, rfl, by decide +kernel, by decide +kernel⟩
theorem c_first_table (fx : Fx K mg G) : Cal P w K mg base "first_table" 1 (spP K G 2 .fz m_first_table) := by
  obtain ⟨f, fd, F, gl⟩ := fx.d_first_table
  refine ⟨f, fd, ["system", "place"], okP (O1 := [.fz, .fz]) F sc_first_table rfl (by decide) (by decide) fun cdv A outer s H E hr => ?_, gl, F.kp, F.bindsN fun _ _ _ _ _ _ us hl => match us, hl with | [_, _], _ => rfl⟩
  exact (gss_one (gs_ret (gn_list fx.free_list (gb_ix (gb_fld (gb_var 0) (fld_10_0 fx)) (gb_var 1)))))
/-! next_table -/
theorem sc_next_table : FnScope ["system", "table", "ask", "costs", "served", "place", "cost", "row", "goal"] ["system", "table", "ask"] (defScope st_next_table) := ⟨rfl, rfl, rfl, by decide +kernel, rfl, by decide +kernel, by decide +kernel⟩
theorem c_next_table (fx : Fx K mg G) : Cal P w K mg base "next_table" 3 (spP K G 3 .fz m_next_table) := by
  obtain ⟨f, fd, F, gl⟩ := fx.d_next_table
  refine ⟨f, fd, ["system", "table", "ask"], okP (O1 := [.fz, .fz, .fz, .fz, .fz, .na, .na, .na, .na]) F sc_next_table rfl (by decide) (by decide) fun cdv A outer s H E hr => ?_, gl, F.kp, F.bindsN fun _ _ _ _ _ _ us hl => match us, hl with | [_, _, _], _ => rfl⟩
  exact (gss_cons (gs_set 3 (gn_fz (gb_ix (gb_fld (gb_var 0) (fld_10_1 fx)) (gb_var 2))) sc_next_table.nd) (gss_cons (gs_set 4 (gn_compX (takes_of rfl rfl rfl rfl) rfl sc_next_table.nd (gi_seq (gb_new (gn_meth (c_System_serving fx) hr (takes_of rfl rfl rfl rfl) (gb_var 0) (ga_cons (gb_var 2) ga_nil)))) (blkOk_by (own := [("place", 5)]) (by rfl)) (fun _ _ _ _ _ _ => (gp_name 5 sc_next_table.nd)) (fun _ _ _ _ _ _ _ tk' => gtw_nil) (fun _ _ _ _ _ _ _ tk' => (gn_fz (gb_tup (ga_cons (gb_add (gb_ix (gb_var 1) (gb_var 5)) (gb_ix (gb_var 3) (gb_var 5))) (ga_cons (gb_ix (gb_fld (gb_var 0) (fld_10_0 fx)) (gb_var 5)) ga_nil)))))) sc_next_table.nd) (gss_weak (O1 := [.fz, .fz, .fz, .fz, .fz, .na, .na, .na, .na]) (by rfl) (gss_one (gs_ret (gn_compX (takes_of rfl rfl rfl rfl) rfl sc_next_table.nd (gi_range1 fx.free_range (gb_prop (c_System_size fx) hr (gb_var 0))) (blkOk_by (own := [("goal", 8)]) (by rfl)) (fun _ _ _ _ _ _ => (gp_name 8 sc_next_table.nd)) (fun _ _ _ _ _ _ _ tk' => gtw_nil) (fun _ _ _ _ _ _ _ tk' => (gn_fz (gb_min rfl hr fx.free_min (gb_new (gn_comp rfl sc_next_table.nd (gi_seq (gb_var 4)) (blkOk_by (own := [("cost", 6), ("row", 7)]) (by rfl)) (fun _ _ _ _ _ => (gp_tup2 rfl (gps_cons (gp_name 6 sc_next_table.nd) (gps_cons (gp_name 7 sc_next_table.nd) gps_nil)))) (fun _ _ _ _ _ => gts_nil) (fun _ _ _ _ _ => (gn_fz (gb_add (gb_var 6) (gb_ix (gb_var 7) (gb_var 8))))))))))))))))
/-! check_kinds -/
theorem sc_check_kinds : FnScope ["run", "rule"] ["run", "rule"] (defScope st_check_kinds) := ⟨rfl, rfl, rfl, by decide +kernel, rfl, by decide +kernel, by decide +kernel⟩
theorem c_check_kinds (fx : Fx K mg G) : Cal P w K mg base "check_kinds" 3 (spP K G 2 .fz m_check_kinds) := by
  obtain ⟨f, fd, F, gl⟩ := fx.d_check_kinds
  refine ⟨f, fd, ["run", "rule"], okP (O1 := [.fz, .fz]) F sc_check_kinds rfl (by decide) (by decide) fun cdv A outer s H E hr => ?_, gl, F.kp, F.bindsN fun _ _ _ _ _ _ us hl => match us, hl with | [_, _], _ => rfl⟩
  exact (gss_cons (gs_if (O' := [.fz, .fz]) (gt_ne (gb_prop (c_Rule_kinds fx) hr (gb_var 1)) (gb_prop (c_System_kinds fx) hr (gb_fld (gb_fld (gb_var 0) (fld_14_0 fx)) (fld_13_0 fx)))) (gss_one (gs_raiseT fx.ct_3 rfl (takes_of rfl rfl rfl rfl))) gss_nil) gss_nil)
/-! is_cost -/
theorem sc_is_cost : FnScope ["value"] ["value"] (defScope st_is_cost) := ⟨rfl, rfl, rfl, by decide +kernel, rfl, by decide +kernel, by decide +kernel⟩
theorem c_is_cost (fx : Fx K mg G) : Cal P w K mg base "is_cost" 1 (spP K G 1 .fz m_is_cost) := by
  obtain ⟨f, fd, F, gl⟩ := fx.d_is_cost
  refine ⟨f, fd, ["value"], okP (O1 := [.fz]) F sc_is_cost rfl (by decide) (by decide) fun cdv A outer s H E hr => ?_, gl, F.kp, F.bindsN fun _ _ _ _ _ _ us hl => match us, hl with | [_], _ => rfl⟩
  exact (gss_one (gs_ret (gn_fz (gb_and (gb_isnot (gb_var 0) gb_non) (gb_one (gb_chn op_le op_le o_cmp o_cmp nx_cmp nx_cmp gb_int (gb_var 0) (gb_globInt fx.int_COST)))))))
/-! check_moves -/
theorem sc_check_moves : FnScope ["moves", "size", "place", "row", "cost"] ["moves"] (defScope st_check_moves) := ⟨rfl, rfl, rfl, by decide +kernel, rfl, by decide +kernel, by decide +kernel⟩
theorem c_check_moves (fx : Fx K mg G) : Cal P w K mg base "check_moves" 2 (spP K G 1 .fz m_check_moves) := by
  obtain ⟨f, fd, F, gl⟩ := fx.d_check_moves
  refine ⟨f, fd, ["moves"], okP (O1 := [.fz, .fz, .na, .na, .na]) F sc_check_moves rfl (by decide) (by decide) fun cdv A outer s H E hr => ?_, gl, F.kp, F.bindsN fun _ _ _ _ _ _ us hl => match us, hl with | [_], _ => rfl⟩
  exact (gss_cons (gs_set 1 (gn_fz (gb_len fx.free_len (gb_var 0))) sc_check_moves.nd) (gss_cons (gs_if (O' := [.fz, .fz, .na, .na, .na]) (gt_w (gw_or (gt_lt (gb_var 1) gb_int) (gw_or1 (gt_gt (gb_var 1) (gb_globInt fx.int_PLACES))))) (gss_one gs_never) gss_nil) (gss_cons (gs_for (passes_of rfl) rfl (gi_range1 fx.free_range (gb_var 1)) (gg_name 2 sc_check_moves.nd) (gss_cons (gs_set 3 (gn_fz (gb_ix (gb_var 0) (gb_var 2))) sc_check_moves.nd) (gss_cons (gs_if (O' := [.fz, .fz, .fz, .fz, .na]) (gt_w (gw_or (gt_ne (gb_len fx.free_len (gb_var 3)) (gb_var 1)) (gw_or1 (gt_ne (gb_ix (gb_var 3) (gb_var 2)) gb_int)))) (gss_one gs_never) gss_nil) (gss_cons (gs_for (passes_of rfl) rfl (gi_seq (gb_var 3)) (gg_name 4 sc_check_moves.nd) (gss_cons (gs_if (O' := [.fz, .fz, .fz, .fz, .fz]) (gt_not (gt_val (gb_new (gn_call (c_is_cost fx) hr (takes_of rfl rfl rfl rfl) (ga_cons (gb_var 4) ga_nil))))) (gss_one gs_never) gss_nil) (gss_nil (O := [.fz, .fz, .fz, .fz, .fz]) (O' := [.fz, .fz, .fz, .fz, .na])))) (gss_nil (O := [.fz, .fz, .fz, .fz, .na]) (O' := [.fz, .fz, .na, .na, .na])))))) gss_nil)))
/-! check_asks -/
theorem sc_check_asks : FnScope ["asks", "size", "ask", "row", "served", "cost"] ["asks", "size"] (defScope st_check_asks) := ⟨rfl, rfl, rfl, by decide +kernel, rfl, by decide +kernel, by decide +kernel⟩
theorem c_check_asks (fx : Fx K mg G) : Cal P w K mg base "check_asks" 2 (spP K G 2 .fz m_check_asks) := by
  obtain ⟨f, fd, F, gl⟩ := fx.d_check_asks
  refine ⟨f, fd, ["asks", "size"], okP (O1 := [.fz, .fz, .na, .na, .na, .na]) F sc_check_asks rfl (by decide) (by decide) fun cdv A outer s H E hr => ?_, gl, F.kp, F.bindsN fun _ _ _ _ _ _ us hl => match us, hl with | [_, _], _ => rfl⟩
  exact (gss_cons (gs_if (O' := [.fz, .fz, .na, .na, .na, .na]) (gt_w (gw_or (gt_lt (gb_len fx.free_len (gb_var 0)) gb_int) (gw_or1 (gt_gt (gb_len fx.free_len (gb_var 0)) (gb_globInt fx.int_KINDS))))) (gss_one gs_never) gss_nil) (gss_cons (gs_for (passes_of rfl) rfl (gi_range1 fx.free_range (gb_len fx.free_len (gb_var 0))) (gg_name 2 sc_check_asks.nd) (gss_cons (gs_set 3 (gn_fz (gb_ix (gb_var 0) (gb_var 2))) sc_check_asks.nd) (gss_cons (gs_if (O' := [.fz, .fz, .fz, .fz, .na, .na]) (gt_ne (gb_len fx.free_len (gb_var 3)) (gb_var 1)) (gss_one gs_never) gss_nil) (gss_cons (gs_set 4 (gn_fz gb_int) sc_check_asks.nd) (gss_cons (gs_for (passes_of rfl) rfl (gi_seq (gb_var 3)) (gg_name 5 sc_check_asks.nd) (gss_cons (gs_if (O' := [.fz, .fz, .fz, .fz, .fz, .fz]) (gt_isnot (gb_var 5) gb_non) (gss_cons (gs_aug 4 ip_add gb_int sc_check_asks.nd) (gss_cons (gs_if (O' := [.fz, .fz, .fz, .fz, .fz, .fz]) (gt_not (gt_val (gb_new (gn_call (c_is_cost fx) hr (takes_of rfl rfl rfl rfl) (ga_cons (gb_var 5) ga_nil))))) (gss_one gs_never) gss_nil) gss_nil)) gss_nil) (gss_nil (O := [.fz, .fz, .fz, .fz, .fz, .fz]) (O' := [.fz, .fz, .fz, .fz, .fz, .na])))) (gss_cons (gs_if (O' := [.fz, .fz, .fz, .fz, .fz, .na]) (gt_eq (gb_var 4) gb_int) (gss_one gs_never) gss_nil) (gss_nil (O := [.fz, .fz, .fz, .fz, .fz, .na]) (O' := [.fz, .fz, .na, .na, .na, .na])))))))) gss_nil))
/-! closed -/
theorem sc_closed : FnScope ["moves", "size", "least", "row", "middle", "start", "goal", "through"] ["moves"] (defScope st_closed) := ⟨rfl, rfl, rfl, by decide +kernel, rfl, by decide +kernel, by decide +kernel⟩
theorem c_closed (fx : Fx K mg G) : Cal P w K mg base "closed" 1 (spP K G 1 .fz m_closed) := by
  obtain ⟨f, fd, F, gl⟩ := fx.d_closed
  refine ⟨f, fd, ["moves"], okP (O1 := [.fz, .fz, .fz, .na, .na, .na, .na, .na]) F sc_closed rfl (by decide) (by decide) fun cdv A outer s H E hr => ?_, gl, F.kp, F.bindsN fun _ _ _ _ _ _ us hl => match us, hl with | [_], _ => rfl⟩
  exact (gss_cons (gs_set 1 (gn_fz (gb_len fx.free_len (gb_var 0))) sc_closed.nd) (gss_cons (gs_setCompX 2 (takes_of rfl rfl rfl rfl) rfl sc_closed.nd (gi_seq (gb_var 0)) (blkOk_by (own := [("row", 3)]) (by rfl)) (fun _ _ _ _ _ _ => (gp_name 3 sc_closed.nd)) (fun _ _ _ _ _ _ _ tk' => gtw_nil) (fun _ _ _ _ _ _ _ tk' => (gn_list fx.free_list (gb_var 3))) (sw_true rfl rfl rfl rfl)) (gss_cons (gs_for (passes_of rfl) rfl (gi_range1 fx.free_range (gb_var 1)) (gg_name 4 sc_closed.nd) (gss_cons (gs_for (passes_of rfl) rfl (gi_range1 fx.free_range (gb_var 1)) (gg_name 5 sc_closed.nd) (gss_cons (gs_for (passes_of rfl) rfl (gi_range1 fx.free_range (gb_var 1)) (gg_name 6 sc_closed.nd) (gss_cons (gs_set 7 (gn_fz (gb_add (gb_ix (gb_ixO (gb_var 2) (gb_var 5)) (gb_var 4)) (gb_ix (gb_ixO (gb_var 2) (gb_var 4)) (gb_var 6)))) sc_closed.nd) (gss_cons (gs_if (O' := [.fz, .fz, (.own (.own .fz)), .na, .fz, .fz, .fz, .fz]) (gt_lt (gb_var 7) (gb_ix (gb_ixO (gb_var 2) (gb_var 5)) (gb_var 6))) (gss_cons (gs_asg (gb_var 7) (gg_sub2 (W := W0) 2 (gb_var 5) (gb_var 6))) gss_nil) gss_nil) (gss_nil (O := [.fz, .fz, (.own (.own .fz)), .na, .fz, .fz, .fz, .fz]) (O' := [.fz, .fz, (.own (.own .fz)), .na, .fz, .fz, .na, .na]))))) (gss_nil (O := [.fz, .fz, (.own (.own .fz)), .na, .fz, .fz, .na, .na]) (O' := [.fz, .fz, (.own (.own .fz)), .na, .fz, .na, .na, .na])))) (gss_nil (O := [.fz, .fz, (.own (.own .fz)), .na, .fz, .na, .na, .na]) (O' := [.fz, .fz, (.own (.own .fz)), .na, .na, .na, .na, .na])))) (gss_weak (O1 := [.fz, .fz, .fz, .na, .na, .na, .na, .na]) (by rfl) (gss_one (gs_ret (gn_fz (gb_tuple fx.free_tuple (gb_new (gn_compX (takes_of rfl rfl rfl rfl) rfl sc_closed.nd (gi_seq (gb_var 2)) (blkOk_by (own := [("row", 3)]) (by rfl)) (fun _ _ _ _ _ _ => (gp_name 3 sc_closed.nd)) (fun _ _ _ _ _ _ _ tk' => gtw_nil) (fun _ _ _ _ _ _ _ tk' => (gn_fz (gb_tuple fx.free_tuple (gb_var 3))))))))))))))
/-! System.__init__ -/
theorem sc_System_init : FnScope ["self", "moves", "asks", "row"] ["self", "moves", "asks"] (defScope st_System_init) := ⟨rfl, rfl, rfl, by decide +kernel, rfl, by decide +kernel, by decide +kernel⟩
theorem c_System_init (fx : Fx K mg G) : CalC P w K mg base G 10 "System" 3 (spM K G 2 m_System_init) := by
  obtain ⟨f, fd, F, gl, mk⟩ := fx.d_System_init
  refine ⟨f, fd, ["self", "moves", "asks"], okM (O1 := [(.own .fz), .fz, .fz, .na]) F sc_System_init rfl (by decide) rfl fun cdv A outer s H E hr => ?_, gl, mk, F.bindsN fun _ _ _ _ _ _ us hl => match us, hl with | [_, _, _], _ => rfl⟩
  exact (gss_cons (gs_expr (gb_new (gn_call (c_check_moves fx) hr (takes_of rfl rfl rfl rfl) (ga_cons (gb_var 1) ga_nil)))) (gss_cons (gs_expr (gb_new (gn_call (c_check_asks fx) hr (takes_of rfl rfl rfl rfl) (ga_cons (gb_var 2) (ga_cons (gb_len fx.free_len (gb_var 1)) ga_nil))))) (gss_cons (gs_asg (gb_new (gn_call (c_closed fx) hr (takes_of rfl rfl rfl rfl) (ga_cons (gb_var 1) ga_nil))) (gg_attr 0 (fld_10_0 fx) (by rw [fx.nm_10]; decide))) (gss_cons (gs_asg (gb_tuple fx.free_tuple (gb_new (gn_compX (takes_of rfl rfl rfl rfl) rfl sc_System_init.nd (gi_seq (gb_var 2)) (blkOk_by (own := [("row", 3)]) (by rfl)) (fun _ _ _ _ _ _ => (gp_name 3 sc_System_init.nd)) (fun _ _ _ _ _ _ _ tk' => gtw_nil) (fun _ _ _ _ _ _ _ tk' => (gn_fz (gb_tuple fx.free_tuple (gb_var 3))))))) (gg_attr 0 (fld_10_1 fx) (by rw [fx.nm_10]; decide))) gss_nil))))
/-! check_arrows -/
theorem sc_check_arrows : FnScope ["arrows", "kinds", "state", "goal"] ["arrows"] (defScope st_check_arrows) := ⟨rfl, rfl, rfl, by decide +kernel, rfl, by decide +kernel, by decide +kernel⟩
theorem c_check_arrows (fx : Fx K mg G) : Cal P w K mg base "check_arrows" 1 (spP K G 1 .fz m_check_arrows) := by
  obtain ⟨f, fd, F, gl⟩ := fx.d_check_arrows
  refine ⟨f, fd, ["arrows"], okP (O1 := [.fz, .fz, .na, .na]) F sc_check_arrows rfl (by decide) (by decide) fun cdv A outer s H E hr => ?_, gl, F.kp, F.bindsN fun _ _ _ _ _ _ us hl => match us, hl with | [_], _ => rfl⟩
  exact (gss_cons (gs_if (O' := [.fz, .na, .na, .na]) (gt_w (gw_or (gt_lt (gb_len fx.free_len (gb_var 0)) gb_int) (gw_or1 (gt_gt (gb_len fx.free_len (gb_var 0)) (gb_globInt fx.int_STATES))))) (gss_one gs_never) gss_nil) (gss_cons (gs_set 1 (gn_fz (gb_len fx.free_len (gb_ix (gb_var 0) gb_int))) sc_check_arrows.nd) (gss_cons (gs_if (O' := [.fz, .fz, .na, .na]) (gt_w (gw_or (gt_lt (gb_var 1) gb_int) (gw_or1 (gt_gt (gb_var 1) (gb_globInt fx.int_KINDS))))) (gss_one gs_never) gss_nil) (gss_cons (gs_for (passes_of rfl) rfl (gi_range1 fx.free_range (gb_len fx.free_len (gb_var 0))) (gg_name 2 sc_check_arrows.nd) (gss_cons (gs_if (O' := [.fz, .fz, .fz, .na]) (gt_ne (gb_len fx.free_len (gb_ix (gb_var 0) (gb_var 2))) (gb_var 1)) (gss_one gs_never) gss_nil) (gss_cons (gs_for (passes_of rfl) rfl (gi_seq (gb_ix (gb_var 0) (gb_var 2))) (gg_name 3 sc_check_arrows.nd) (gss_cons (gs_if (O' := [.fz, .fz, .fz, .fz]) (gt_w (gw_and (gt_isnot (gb_var 3) gb_non) (gw_and1 (gt_not (gt_chn op_le op_lt o_cmp o_cmp nx_cmp nx_cmp gb_int (gb_var 3) (gb_len fx.free_len (gb_var 0))))))) (gss_one gs_never) gss_nil) (gss_nil (O := [.fz, .fz, .fz, .fz]) (O' := [.fz, .fz, .fz, .na])))) (gss_nil (O := [.fz, .fz, .fz, .na]) (O' := [.fz, .fz, .na, .na]))))) gss_nil))))
/-! Machine.__init__ -/
theorem sc_Machine_init : FnScope ["self", "arrows", "row"] ["self", "arrows"] (defScope st_Machine_init) := ⟨rfl, rfl, rfl, by decide +kernel, rfl, by decide +kernel, by decide +kernel⟩
theorem c_Machine_init (fx : Fx K mg G) : CalC P w K mg base G 11 "Machine" 2 (spM K G 1 m_Machine_init) := by
  obtain ⟨f, fd, F, gl, mk⟩ := fx.d_Machine_init
  refine ⟨f, fd, ["self", "arrows"], okM (O1 := [(.own .fz), .fz, .na]) F sc_Machine_init rfl (by decide) rfl fun cdv A outer s H E hr => ?_, gl, mk, F.bindsN fun _ _ _ _ _ _ us hl => match us, hl with | [_, _], _ => rfl⟩
  exact (gss_cons (gs_expr (gb_new (gn_call (c_check_arrows fx) hr (takes_of rfl rfl rfl rfl) (ga_cons (gb_var 1) ga_nil)))) (gss_cons (gs_asg (gb_tuple fx.free_tuple (gb_new (gn_compX (takes_of rfl rfl rfl rfl) rfl sc_Machine_init.nd (gi_seq (gb_var 1)) (blkOk_by (own := [("row", 2)]) (by rfl)) (fun _ _ _ _ _ _ => (gp_name 2 sc_Machine_init.nd)) (fun _ _ _ _ _ _ _ tk' => gtw_nil) (fun _ _ _ _ _ _ _ tk' => (gn_fz (gb_tuple fx.free_tuple (gb_var 2))))))) (gg_attr 0 (fld_11_0 fx) (by rw [fx.nm_11]; decide))) gss_nil))
/-! good_memory -/
theorem sc_good_memory : FnScope ["place", "row", "kinds", "size", "goal"] ["place", "row", "kinds", "size"] (defScope st_good_memory) := ⟨rfl, rfl, rfl, by decide +kernel, rfl, by decide +kernel, by decide +kernel⟩
theorem c_good_memory (fx : Fx K mg G) : Cal P w K mg base "good_memory" 1 (spP K G 4 .fz m_good_memory) := by
  obtain ⟨f, fd, F, gl⟩ := fx.d_good_memory
  refine ⟨f, fd, ["place", "row", "kinds", "size"], okP (O1 := [.fz, .fz, .fz, .fz, .na]) F sc_good_memory rfl (by decide) (by decide) fun cdv A outer s H E hr => ?_, gl, F.kp, F.bindsN fun _ _ _ _ _ _ us hl => match us, hl with | [_, _, _, _], _ => rfl⟩
  exact (gss_cons (gs_if (O' := [.fz, .fz, .fz, .fz, .na]) (gt_w (gw_or (gt_not (gt_chn op_le op_lt o_cmp o_cmp nx_cmp nx_cmp gb_int (gb_var 0) (gb_globInt fx.int_PLACES))) (gw_or1 (gt_ne (gb_len fx.free_len (gb_var 1)) (gb_var 2))))) (gss_one (gs_ret (gn_fz gb_bl))) gss_nil) (gss_cons (gs_for (passes_of rfl) rfl (gi_seq (gb_var 1)) (gg_name 4 sc_good_memory.nd) (gss_cons (gs_if (O' := [.fz, .fz, .fz, .fz, .fz]) (gt_w (gw_and (gt_isnot (gb_var 4) gb_non) (gw_and1 (gt_not (gt_chn op_le op_lt o_cmp o_cmp nx_cmp nx_cmp gb_int (gb_var 4) (gb_var 3)))))) (gss_one (gs_ret (gn_fz gb_bl))) gss_nil) (gss_nil (O := [.fz, .fz, .fz, .fz, .fz]) (O' := [.fz, .fz, .fz, .fz, .na])))) (gss_one (gs_ret (gn_fz gb_bl)))))
/-! check_rule -/
theorem sc_check_rule : FnScope ["places", "table", "size", "kinds", "memory"] ["places", "table"] (defScope st_check_rule) := ⟨rfl, rfl, rfl, by decide +kernel, rfl, by decide +kernel, by decide +kernel⟩
theorem c_check_rule (fx : Fx K mg G) : Cal P w K mg base "check_rule" 2 (spP K G 2 .fz m_check_rule) := by
  obtain ⟨f, fd, F, gl⟩ := fx.d_check_rule
  refine ⟨f, fd, ["places", "table"], okP (O1 := [.fz, .fz, .fz, .fz, .na]) F sc_check_rule rfl (by decide) (by decide) fun cdv A outer s H E hr => ?_, gl, F.kp, F.bindsN fun _ _ _ _ _ _ us hl => match us, hl with | [_, _], _ => rfl⟩
  exact (gss_cons (gs_set 2 (gn_fz (gb_len fx.free_len (gb_var 0))) sc_check_rule.nd) (gss_cons (gs_if (O' := [.fz, .fz, .fz, .na, .na]) (gt_w (gw_or (gt_lt (gb_var 2) gb_int) (gw_or (gt_gt (gb_var 2) (cvalI fx.cv_12_MEMORIES)) (gw_or1 (gt_ne (gb_len fx.free_len (gb_var 1)) (gb_var 2)))))) (gss_one gs_never) gss_nil) (gss_cons (gs_set 3 (gn_fz (gb_len fx.free_len (gb_ix (gb_var 1) gb_int))) sc_check_rule.nd) (gss_cons (gs_if (O' := [.fz, .fz, .fz, .fz, .na]) (gt_w (gw_or (gt_lt (gb_var 3) gb_int) (gw_or1 (gt_gt (gb_var 3) (gb_globInt fx.int_KINDS))))) (gss_one gs_never) gss_nil) (gss_cons (gs_for (passes_of rfl) rfl (gi_range1 fx.free_range (gb_var 2)) (gg_name 4 sc_check_rule.nd) (gss_cons (gs_if (O' := [.fz, .fz, .fz, .fz, .fz]) (gt_not (gt_val (gb_new (gn_call (c_good_memory fx) hr (takes_of rfl rfl rfl rfl) (ga_cons (gb_ix (gb_var 0) (gb_var 4)) (ga_cons (gb_ix (gb_var 1) (gb_var 4)) (ga_cons (gb_var 3) (ga_cons (gb_var 2) ga_nil)))))))) (gss_one gs_never) gss_nil) (gss_nil (O := [.fz, .fz, .fz, .fz, .fz]) (O' := [.fz, .fz, .fz, .fz, .na])))) gss_nil)))))
/-! Rule.__init__ -/
theorem sc_Rule_init : FnScope ["self", "places", "table", "row"] ["self", "places", "table"] (defScope st_Rule_init) := ⟨rfl, rfl, rfl, by decide +kernel, rfl, by decide +kernel, by decide +kernel⟩
theorem c_Rule_init (fx : Fx K mg G) : CalC P w K mg base G 12 "Rule" 3 (spM K G 2 m_Rule_init) := by
  obtain ⟨f, fd, F, gl, mk⟩ := fx.d_Rule_init
  refine ⟨f, fd, ["self", "places", "table"], okM (O1 := [(.own .fz), .fz, .fz, .na]) F sc_Rule_init rfl (by decide) rfl fun cdv A outer s H E hr => ?_, gl, mk, F.bindsN fun _ _ _ _ _ _ us hl => match us, hl with | [_, _, _], _ => rfl⟩
  exact (gss_cons (gs_expr (gb_new (gn_call (c_check_rule fx) hr (takes_of rfl rfl rfl rfl) (ga_cons (gb_var 1) (ga_cons (gb_var 2) ga_nil))))) (gss_cons (gs_asg (gb_tuple fx.free_tuple (gb_var 1)) (gg_attr 0 (fld_12_0 fx) (by rw [fx.nm_12]; decide))) (gss_cons (gs_asg (gb_tuple fx.free_tuple (gb_new (gn_compX (takes_of rfl rfl rfl rfl) rfl sc_Rule_init.nd (gi_seq (gb_var 2)) (blkOk_by (own := [("row", 3)]) (by rfl)) (fun _ _ _ _ _ _ => (gp_name 3 sc_Rule_init.nd)) (fun _ _ _ _ _ _ _ tk' => gtw_nil) (fun _ _ _ _ _ _ _ tk' => (gn_fz (gb_tuple fx.free_tuple (gb_var 3))))))) (gg_attr 0 (fld_12_1 fx) (by rw [fx.nm_12]; decide))) gss_nil)))
/-! World.__init__ -/
theorem sc_World_init : FnScope ["self", "system", "machine", "place"] ["self", "system", "machine", "place"] (defScope st_World_init) := ⟨rfl, rfl, rfl, by decide +kernel, rfl, by decide +kernel, by decide +kernel⟩
theorem c_World_init (fx : Fx K mg G) : CalC P w K mg base G 13 "World" 3 (spM K G 3 m_World_init) := by
  obtain ⟨f, fd, F, gl, mk⟩ := fx.d_World_init
  refine ⟨f, fd, ["self", "system", "machine", "place"], okM (O1 := [(.own .fz), .fz, .fz, .fz]) F sc_World_init rfl (by decide) rfl fun cdv A outer s H E hr => ?_, gl, mk, F.bindsN fun _ _ _ _ _ _ us hl => match us, hl with | [_, _, _, _], _ => rfl⟩
  exact (gss_cons (gs_if (O' := [(.own .fz), .fz, .fz, .fz]) (gt_ne (gb_prop (c_System_kinds fx) hr (gb_var 1)) (gb_prop (c_Machine_kinds fx) hr (gb_var 2))) (gss_one (gs_raiseT fx.ct_3 rfl (takes_of rfl rfl rfl rfl))) gss_nil) (gss_cons (gs_if (O' := [(.own .fz), .fz, .fz, .fz]) (gt_not (gt_chn op_le op_lt o_cmp o_cmp nx_cmp nx_cmp gb_int (gb_var 3) (gb_prop (c_System_size fx) hr (gb_var 1)))) (gss_one gs_never) gss_nil) (gss_cons (gs_asg (gb_var 1) (gg_attr 0 (fld_13_0 fx) (by rw [fx.nm_13]; decide))) (gss_cons (gs_asg (gb_var 2) (gg_attr 0 (fld_13_1 fx) (by rw [fx.nm_13]; decide))) (gss_cons (gs_asg (gb_var 3) (gg_attr 0 (fld_13_2 fx) (by rw [fx.nm_13]; decide))) gss_nil)))))
/-! Seen.__init__ -/
theorem sc_Seen_init : FnScope ["self", "world"] ["self", "world"] (defScope st_Seen_init) := ⟨rfl, rfl, rfl, by decide +kernel, rfl, by decide +kernel, by decide +kernel⟩
theorem c_Seen_init (fx : Fx K mg G) : CalC P w K mg base G 14 "Seen" 2 (spM K G 1 m_Seen_init) := by
  obtain ⟨f, fd, F, gl, mk⟩ := fx.d_Seen_init
  refine ⟨f, fd, ["self", "world"], okM (O1 := [(.own .fz), .fz]) F sc_Seen_init rfl (by decide) rfl fun cdv A outer s H E hr => ?_, gl, mk, F.bindsN fun _ _ _ _ _ _ us hl => match us, hl with | [_, _], _ => rfl⟩
  exact (gss_cons (gs_asg (gb_var 1) (gg_attr 0 (fld_14_0 fx) (by rw [fx.nm_14]; decide))) (gss_cons (gs_asg (gb_tup ga_nil) (gg_attr 0 (fld_14_1 fx) (by rw [fx.nm_14]; decide))) (gss_cons (gs_asg (gb_tup ga_nil) (gg_attr 0 (fld_14_2 fx) (by rw [fx.nm_14]; decide))) (gss_cons (gs_asg (gb_tup ga_nil) (gg_attr 0 (fld_14_3 fx) (by rw [fx.nm_14]; decide))) (gss_cons (gs_asg gb_int (gg_attr 0 (fld_14_4 fx) (by rw [fx.nm_14]; decide))) (gss_cons (gs_asg gb_int (gg_attr 0 (fld_14_5 fx) (by rw [fx.nm_14]; decide))) (gss_cons (gs_asg (gb_tup (ga_cons (gb_tup (ga_cons gb_int (ga_cons gb_int ga_nil))) ga_nil)) (gg_attr 0 (fld_14_6 fx) (by rw [fx.nm_14]; decide))) (gss_cons (gs_asg gb_int (gg_attr 0 (fld_14_7 fx) (by rw [fx.nm_14]; decide))) (gss_cons (gs_asg (gb_tuple fx.free_tuple (gb_new (gn_call (c_first_table fx) hr (takes_of rfl rfl rfl rfl) (ga_cons (gb_fld (gb_var 1) (fld_13_0 fx)) (ga_cons (gb_fld (gb_var 1) (fld_13_2 fx)) ga_nil))))) (gg_attr 0 (fld_14_8 fx) (by rw [fx.nm_14]; decide))) gss_nil)))))))))
/-! Seen.note -/
theorem sc_Seen_note : FnScope ["self", "ask", "place", "system", "after", "last"] ["self", "ask", "place"] (defScope st_Seen_note) := ⟨rfl, rfl, rfl, by decide +kernel, rfl, by decide +kernel, by decide +kernel⟩
theorem c_Seen_note (fx : Fx K mg G) : CalM P w K mg base G 14 "note" 4 (spM K G 2 m_Seen_note) := by
  obtain ⟨f, fd, F, me⟩ := fx.d_Seen_note
  refine ⟨⟨f, fd, ["self", "ask", "place"], okM (O1 := [(.own .fz), .fz, .fz, .fz, .fz, .fz]) F sc_Seen_note rfl (by decide) rfl fun cdv A outer s H E hr => ?_, fx.cl_14, me, F.bindsN fun _ _ _ _ _ _ us hl => match us, hl with | [_, _, _], _ => rfl⟩, by rw [fx.nm_14]; decide⟩
  exact (gss_cons (gs_set 3 (gn_fz (gb_fld (gb_fld (gb_var 0) (fld_14_0 fx)) (fld_13_0 fx))) sc_Seen_note.nd) (gss_cons (gs_set 4 (gn_fz (gb_new (gn_meth (c_Machine_after fx) hr (takes_of rfl rfl rfl rfl) (gb_fld (gb_fld (gb_var 0) (fld_14_0 fx)) (fld_13_1 fx)) (ga_cons (gb_fld (gb_var 0) (fld_14_7 fx)) (ga_cons (gb_var 1) ga_nil))))) sc_Seen_note.nd) (gss_cons (gs_if (O' := [(.own .fz), .fz, .fz, .fz, .fz, .na]) (gt_is (gb_var 4) gb_non) (gss_one gs_never) gss_nil) (gss_cons (gs_if (O' := [(.own .fz), .fz, .fz, .fz, .fz, .na]) (gt_notin (gb_var 2) (gb_new (gn_meth (c_System_serving fx) hr (takes_of rfl rfl rfl rfl) (gb_var 3) (ga_cons (gb_var 1) ga_nil)))) (gss_one gs_never) gss_nil) (gss_cons (gs_set 5 (gn_fz (gb_if (gt_eq (gb_fld (gb_var 0) (fld_14_5 fx)) gb_int) (gb_fld (gb_fld (gb_var 0) (fld_14_0 fx)) (fld_13_2 fx)) (gb_ix (gb_fld (gb_var 0) (fld_14_2 fx)) (gb_neg gb_int)))) sc_Seen_note.nd) (gss_cons (gs_asg (gb_var 4) (gg_attr 0 (fld_14_7 fx) (by rw [fx.nm_14]; decide))) (gss_cons (gs_asg (gb_tuple fx.free_tuple (gb_new (gn_call (c_next_table fx) hr (takes_of rfl rfl rfl rfl) (ga_cons (gb_var 3) (ga_cons (gb_fld (gb_var 0) (fld_14_8 fx)) (ga_cons (gb_var 1) ga_nil)))))) (gg_attr 0 (fld_14_8 fx) (by rw [fx.nm_14]; decide))) (gss_cons (gs_asg (gb_add (gb_fld (gb_var 0) (fld_14_1 fx)) (gb_tup (ga_cons (gb_var 1) ga_nil))) (gg_attr 0 (fld_14_1 fx) (by rw [fx.nm_14]; decide))) (gss_cons (gs_asg (gb_add (gb_fld (gb_var 0) (fld_14_2 fx)) (gb_tup (ga_cons (gb_var 2) ga_nil))) (gg_attr 0 (fld_14_2 fx) (by rw [fx.nm_14]; decide))) (gss_cons (gs_asg (gb_add (gb_fld (gb_var 0) (fld_14_3 fx)) (gb_tup (ga_cons (gb_tup (ga_cons (gb_var 1) (ga_cons (gb_var 2) ga_nil))) ga_nil))) (gg_attr 0 (fld_14_3 fx) (by rw [fx.nm_14]; decide))) (gss_cons (gs_augF 0 in_add (gb_add (gb_ix (gb_ix (gb_fld (gb_var 3) (fld_10_0 fx)) (gb_var 5)) (gb_var 2)) (gb_ix (gb_ix (gb_fld (gb_var 3) (fld_10_1 fx)) (gb_var 1)) (gb_var 2))) (fld_14_4 fx) (by rw [fx.nm_14]; decide)) (gss_cons (gs_augF 0 in_add gb_int (fld_14_5 fx) (by rw [fx.nm_14]; decide)) (gss_cons (gs_asg (gb_add (gb_fld (gb_var 0) (fld_14_6 fx)) (gb_tup (ga_cons (gb_tup (ga_cons (gb_fld (gb_var 0) (fld_14_4 fx)) (ga_cons (gb_min rfl hr fx.free_min (gb_fld (gb_var 0) (fld_14_8 fx))) ga_nil))) ga_nil))) (gg_attr 0 (fld_14_6 fx) (by rw [fx.nm_14]; decide))) gss_nil)))))))))))))
/-! Seen.fits -/
theorem sc_Seen_fits : FnScope ["self", "rule", "memory", "ask", "place"] ["self", "rule"] (defScope st_Seen_fits) := ⟨rfl, rfl, rfl, by decide +kernel, rfl, by decide +kernel, by decide +kernel⟩
theorem c_Seen_fits (fx : Fx K mg G) : CalM P w K mg base G 14 "fits" 4 (spP K G 2 .fz m_Seen_fits) := by
  obtain ⟨f, fd, F, me⟩ := fx.d_Seen_fits
  refine ⟨⟨f, fd, ["self", "rule"], okP (O1 := [.fz, .fz, .fz, .na, .na]) F sc_Seen_fits rfl (by decide) (by decide) fun cdv A outer s H E hr => ?_, fx.cl_14, me, F.bindsN fun _ _ _ _ _ _ us hl => match us, hl with | [_, _], _ => rfl⟩, by rw [fx.nm_14]; decide⟩
  exact (gss_cons (gs_expr (gb_new (gn_call (c_check_kinds fx) hr (takes_of rfl rfl rfl rfl) (ga_cons (gb_var 0) (ga_cons (gb_var 1) ga_nil))))) (gss_cons (gs_set 2 (gn_fz gb_int) sc_Seen_fits.nd) (gss_cons (gs_for (passes_of rfl) rfl (gi_zip (kk := 0) fx.free_zip (gb_fld (gb_var 0) (fld_14_1 fx)) (gb_fld (gb_var 0) (fld_14_2 fx))) (gg_tup2 rfl (ggs_cons (gg_name 3 sc_Seen_fits.nd) (ggs_cons (gg_name 4 sc_Seen_fits.nd) ggs_nil))) (gss_cons (gs_set 2 (gn_fz (gb_new (gn_meth (c_Rule_after fx) hr (takes_of rfl rfl rfl rfl) (gb_var 1) (ga_cons (gb_var 2) (ga_cons (gb_var 3) ga_nil))))) sc_Seen_fits.nd) (gss_cons (gs_if (O' := [.fz, .fz, .fz, .fz, .fz]) (gt_w (gw_or (gt_is (gb_var 2) gb_non) (gw_or1 (gt_ne (gb_ix (gb_fld (gb_var 1) (fld_12_0 fx)) (gb_var 2)) (gb_var 4))))) (gss_one (gs_ret (gn_fz gb_bl))) gss_nil) (gss_nil (O := [.fz, .fz, .fz, .fz, .fz]) (O' := [.fz, .fz, .fz, .na, .na]))))) (gss_one (gs_ret (gn_fz (gb_eq (gb_ix (gb_fld (gb_var 1) (fld_12_0 fx)) gb_int) (gb_fld (gb_fld (gb_var 0) (fld_14_0 fx)) (fld_13_2 fx)))))))))
/-! Seen.twin -/
theorem sc_Seen_twin : FnScope ["self", "other"] ["self"] (defScope st_Seen_twin) := ⟨rfl, rfl, rfl, by decide +kernel, rfl, by decide +kernel, by decide +kernel⟩
theorem c_Seen_twin (fx : Fx K mg G) : CalM P w K mg base G 14 "twin" 4 (spP K G 1 (.own .fz) m_Seen_twin) := by
  obtain ⟨f, fd, F, me⟩ := fx.d_Seen_twin
  refine ⟨⟨f, fd, ["self"], okP (O1 := [.fz, (.own .fz)]) F sc_Seen_twin rfl (by decide) (by decide) fun cdv A outer s H E hr => ?_, fx.cl_14, me, F.bindsN fun _ _ _ _ _ _ us hl => match us, hl with | [_], _ => rfl⟩, by rw [fx.nm_14]; decide⟩
  exact (gss_cons (gs_set 1 (gn_make (c_Seen_init fx) hr (takes_of rfl rfl rfl rfl) (ga_cons (gb_fld (gb_var 0) (fld_14_0 fx)) ga_nil)) sc_Seen_twin.nd) (gss_cons (gs_asg (gb_tup (ga_cons (gb_fld (gb_var 0) (fld_14_1 fx)) (ga_cons (gb_fld (gb_var 0) (fld_14_2 fx)) (ga_cons (gb_fld (gb_var 0) (fld_14_3 fx)) ga_nil)))) (gg_tup3 rfl (ggs_cons (gg_attr 1 (fld_14_1 fx) (by rw [fx.nm_14]; decide)) (ggs_cons (gg_attr 1 (fld_14_2 fx) (by rw [fx.nm_14]; decide)) (ggs_cons (gg_attr 1 (fld_14_3 fx) (by rw [fx.nm_14]; decide)) ggs_nil))))) (gss_cons (gs_asg (gb_tup (ga_cons (gb_fld (gb_var 0) (fld_14_4 fx)) (ga_cons (gb_fld (gb_var 0) (fld_14_5 fx)) ga_nil))) (gg_tup2 rfl (ggs_cons (gg_attr 1 (fld_14_4 fx) (by rw [fx.nm_14]; decide)) (ggs_cons (gg_attr 1 (fld_14_5 fx) (by rw [fx.nm_14]; decide)) ggs_nil)))) (gss_cons (gs_asg (gb_fld (gb_var 0) (fld_14_6 fx)) (gg_attr 1 (fld_14_6 fx) (by rw [fx.nm_14]; decide))) (gss_cons (gs_asg (gb_tup (ga_cons (gb_fld (gb_var 0) (fld_14_7 fx)) (ga_cons (gb_fld (gb_var 0) (fld_14_8 fx)) ga_nil))) (gg_tup2 rfl (ggs_cons (gg_attr 1 (fld_14_7 fx) (by rw [fx.nm_14]; decide)) (ggs_cons (gg_attr 1 (fld_14_8 fx) (by rw [fx.nm_14]; decide)) ggs_nil)))) (gss_one (gs_retV 1)))))))
/-! fitting -/
theorem sc_fitting : FnScope ["run", "rules", "at", "rule"] ["run", "rules"] (defScope st_fitting) := ⟨rfl, rfl, rfl, by decide +kernel, rfl, by decide +kernel, by decide +kernel⟩
theorem c_fitting (fx : Fx K mg G) : Cal P w K mg base "fitting" 5 (spP K G 2 .fz m_fitting) := by
  obtain ⟨f, fd, F, gl⟩ := fx.d_fitting
  refine ⟨f, fd, ["run", "rules"], okP (O1 := [.fz, .fz, .na, .na]) F sc_fitting rfl (by decide) (by decide) fun cdv A outer s H E hr => ?_, gl, F.kp, F.bindsN fun _ _ _ _ _ _ us hl => match us, hl with | [_, _], _ => rfl⟩
  exact (gss_one (gs_ret (gn_compX (takes_of rfl rfl rfl rfl) rfl sc_fitting.nd (gi_enum fx.free_enumerate (gb_var 1)) (blkOk_by (own := [("at", 2), ("rule", 3)]) (by rfl)) (fun _ _ _ _ _ _ => (gp_tup2 rfl (gps_cons (gp_name 2 sc_fitting.nd) (gps_cons (gp_name 3 sc_fitting.nd) gps_nil)))) (fun _ _ _ _ _ _ _ tk' => (gtw_one (gt_val (gb_new (gn_meth (c_Seen_fits fx) hr tk' (gb_var 0) (ga_cons (gb_var 3) ga_nil)))))) (fun _ _ _ _ _ _ _ tk' => (gn_fz (gb_var 2))))))
/-! memory_after -/
theorem sc_memory_after : FnScope ["run", "rule", "memory", "ask", "goal"] ["run", "rule"] (defScope st_memory_after) := ⟨rfl, rfl, rfl, by decide +kernel, rfl, by decide +kernel, by decide +kernel⟩
theorem c_memory_after (fx : Fx K mg G) : Cal P w K mg base "memory_after" 3 (spP K G 2 .fz m_memory_after) := by
  obtain ⟨f, fd, F, gl⟩ := fx.d_memory_after
  refine ⟨f, fd, ["run", "rule"], okP (O1 := [.fz, .fz, .fz, .na, .na]) F sc_memory_after rfl (by decide) (by decide) fun cdv A outer s H E hr => ?_, gl, F.kp, F.bindsN fun _ _ _ _ _ _ us hl => match us, hl with | [_, _], _ => rfl⟩
  exact (gss_cons (gs_set 2 (gn_fz gb_int) sc_memory_after.nd) (gss_cons (gs_for (passes_of rfl) rfl (gi_seq (gb_fld (gb_var 0) (fld_14_1 fx))) (gg_name 3 sc_memory_after.nd) (gss_cons (gs_set 4 (gn_fz (gb_new (gn_meth (c_Rule_after fx) hr (takes_of rfl rfl rfl rfl) (gb_var 1) (ga_cons (gb_var 2) (ga_cons (gb_var 3) ga_nil))))) sc_memory_after.nd) (gss_cons (gs_if (O' := [.fz, .fz, .fz, .fz, .fz]) (gt_is (gb_var 4) gb_non) (gss_one (gs_raise (cx_9 fx) rfl hr (takes_of rfl rfl rfl rfl) (ga_cons (gb_var 2) (ga_cons (gb_var 3) ga_nil)))) gss_nil) (gss_cons (gs_set 2 (gn_fz (gb_var 4)) sc_memory_after.nd) (gss_nil (O := [.fz, .fz, .fz, .fz, .fz]) (O' := [.fz, .fz, .fz, .na, .na])))))) (gss_one (gs_ret (gn_fz (gb_var 2))))))
/-! are_apart -/
theorem sc_are_apart : FnScope ["rule", "other", "first", "second"] ["rule", "other", "first", "second"] (defScope st_are_apart) := ⟨rfl, rfl, rfl, by decide +kernel, rfl, by decide +kernel, by decide +kernel⟩
theorem c_are_apart (fx : Fx K mg G) : Cal P w K mg base "are_apart" 1 (spP K G 4 .fz m_are_apart) := by
  obtain ⟨f, fd, F, gl⟩ := fx.d_are_apart
  refine ⟨f, fd, ["rule", "other", "first", "second"], okP (O1 := [.fz, .fz, .fz, .fz]) F sc_are_apart rfl (by decide) (by decide) fun cdv A outer s H E hr => ?_, gl, F.kp, F.bindsN fun _ _ _ _ _ _ us hl => match us, hl with | [_, _, _, _], _ => rfl⟩
  exact (gss_cons (gs_if (O' := [.fz, .fz, .fz, .fz]) (gt_w (gw_or (gt_is (gb_var 2) gb_non) (gw_or1 (gt_is (gb_var 3) gb_non)))) (gss_one (gs_ret (gn_fz (gb_or (gb_isnot (gb_var 2) gb_non) (gb_one (gb_isnot (gb_var 3) gb_non)))))) gss_nil) (gss_one (gs_ret (gn_fz (gb_ne (gb_ix (gb_fld (gb_var 0) (fld_12_0 fx)) (gb_var 2)) (gb_ix (gb_fld (gb_var 1) (fld_12_0 fx)) (gb_var 3)))))))
/-! next_apart -/
theorem sc_next_apart : FnScope ["run", "rule", "other", "machine", "keys", "rows", "at", "state", "first", "second", "ask", "key", "row"] ["run", "rule", "other"] (defScope st_next_apart) := ⟨rfl, rfl, rfl, by decide +kernel, rfl, by decide +kernel, by decide +kernel⟩
theorem c_next_apart (fx : Fx K mg G) : Cal P w K mg base "next_apart" 4 (spP K G 3 (.own .fz) m_next_apart) := by
  obtain ⟨f, fd, F, gl⟩ := fx.d_next_apart
  refine ⟨f, fd, ["run", "rule", "other"], okP (O1 := [.fz, .fz, .fz, .fz, (.own .fz), (.own .fz), .fz, .na, .na, .na, .na, .na, .na]) F sc_next_apart rfl (by decide) (by decide) fun cdv A outer s H E hr => ?_, gl, F.kp, F.bindsN fun _ _ _ _ _ _ us hl => match us, hl with | [_, _, _], _ => rfl⟩
  exact (gss_cons (gs_expr (gb_new (gn_call (c_check_kinds fx) hr (takes_of rfl rfl rfl rfl) (ga_cons (gb_var 0) (ga_cons (gb_var 1) ga_nil))))) (gss_cons (gs_expr (gb_new (gn_call (c_check_kinds fx) hr (takes_of rfl rfl rfl rfl) (ga_cons (gb_var 0) (ga_cons (gb_var 2) ga_nil))))) (gss_cons (gs_set 3 (gn_fz (gb_fld (gb_fld (gb_var 0) (fld_14_0 fx)) (fld_13_1 fx))) sc_next_apart.nd) (gss_cons (gs_set 4 (gn_lst (ga_cons (gb_tup (ga_cons (gb_fld (gb_var 0) (fld_14_7 fx)) (ga_cons (gb_new (gn_call (c_memory_after fx) hr (takes_of rfl rfl rfl rfl) (ga_cons (gb_var 0) (ga_cons (gb_var 1) ga_nil)))) (ga_cons (gb_new (gn_call (c_memory_after fx) hr (takes_of rfl rfl rfl rfl) (ga_cons (gb_var 0) (ga_cons (gb_var 2) ga_nil)))) ga_nil)))) ga_nil)) sc_next_apart.nd) (gss_cons (gs_if (O' := [.fz, .fz, .fz, .fz, (.own .fz), .na, .na, .na, .na, .na, .na, .na, .na]) (gt_val (gb_new (gn_call (c_are_apart fx) hr (takes_of rfl rfl rfl rfl) (ga_cons (gb_var 1) (ga_cons (gb_var 2) (ga_cons (gb_ix (gb_ix (gb_var 4) gb_int) gb_int) (ga_cons (gb_ix (gb_ix (gb_var 4) gb_int) gb_int) ga_nil))))))) (gss_one (gs_ret (gn_lst ga_nil))) gss_nil) (gss_cons (gs_set 5 (gn_dict1 (ok' := .fz) (ov := .fz) hr (gb_ix (gb_var 4) gb_int) (gb_new (gn_lst ga_nil))) sc_next_apart.nd) (gss_cons (gs_set 6 (gn_fz gb_int) sc_next_apart.nd) (gss_cons (gs_while (passes_of rfl) (gt_lt (gb_var 6) (gb_len fx.free_len (gb_var 4))) (gss_cons (gs_asg (gb_ix (gb_var 4) (gb_var 6)) (gg_tup3 rfl (ggs_cons (gg_name 7 sc_next_apart.nd) (ggs_cons (gg_name 8 sc_next_apart.nd) (ggs_cons (gg_name 9 sc_next_apart.nd) ggs_nil))))) (gss_cons (gs_for (passes_of rfl) rfl (gi_seq (gb_new (gn_meth (c_Machine_lets fx) hr (takes_of rfl rfl rfl rfl) (gb_var 3) (ga_cons (gb_var 7) ga_nil)))) (gg_name 10 sc_next_apart.nd) (gss_cons (gs_set 11 (gn_fz (gb_tup (ga_cons (gb_new (gn_meth (c_Machine_after fx) hr (takes_of rfl rfl rfl rfl) (gb_var 3) (ga_cons (gb_var 7) (ga_cons (gb_var 10) ga_nil)))) (ga_cons (gb_new (gn_meth (c_Rule_after fx) hr (takes_of rfl rfl rfl rfl) (gb_var 1) (ga_cons (gb_var 8) (ga_cons (gb_var 10) ga_nil)))) (ga_cons (gb_new (gn_meth (c_Rule_after fx) hr (takes_of rfl rfl rfl rfl) (gb_var 2) (ga_cons (gb_var 9) (ga_cons (gb_var 10) ga_nil)))) ga_nil))))) sc_next_apart.nd) (gss_cons (gs_set 12 (gn_cat (gb_dget hr (gb_var 5) (gb_ix (gb_var 4) (gb_var 6))) (gb_new (gn_lst (ga_cons (gb_var 10) ga_nil)))) sc_next_apart.nd) (gss_cons (gs_if (O' := [.fz, .fz, .fz, .fz, (.own .fz), (.own .fz), .fz, .fz, .fz, .fz, .fz, .fz, (.own .fz)]) (gt_val (gb_new (gn_call (c_are_apart fx) hr (takes_of rfl rfl rfl rfl) (ga_cons (gb_var 1) (ga_cons (gb_var 2) (ga_cons (gb_ix (gb_var 11) gb_int) (ga_cons (gb_ix (gb_var 11) gb_int) ga_nil))))))) (gss_one (gs_retV 12)) gss_nil) (gss_cons (gs_if (O' := [.fz, .fz, .fz, .fz, (.own .fz), (.own .fz), .fz, .fz, .fz, .fz, .fz, .fz, .fz]) (gt_w (gw_and (gt_isnot (gb_ix (gb_var 11) gb_int) gb_non) (gw_and1 (gt_dnotin hr (gb_var 11) (gb_var 5))))) (gss_weak (O1 := [.fz, .fz, .fz, .fz, (.own .fz), (.own .fz), .fz, .fz, .fz, .fz, .fz, .fz, .fz]) (by rfl) (gss_cons (gs_asg (gb_var 12) (gg_dsub 5 hr (W := W0) (gb_var 11))) (gss_cons (gs_append 4 (gn_fz (gb_var 11))) gss_nil))) (gss_nil (O := [.fz, .fz, .fz, .fz, (.own .fz), (.own .fz), .fz, .fz, .fz, .fz, .fz, .fz, (.own .fz)]) (O' := [.fz, .fz, .fz, .fz, (.own .fz), (.own .fz), .fz, .fz, .fz, .fz, .fz, .fz, .fz]))) (gss_nil (O := [.fz, .fz, .fz, .fz, (.own .fz), (.own .fz), .fz, .fz, .fz, .fz, .fz, .fz, .fz]) (O' := [.fz, .fz, .fz, .fz, (.own .fz), (.own .fz), .fz, .fz, .fz, .fz, .na, .na, .na]))))))) (gss_cons (gs_aug 6 ip_add gb_int sc_next_apart.nd) (gss_nil (O := [.fz, .fz, .fz, .fz, (.own .fz), (.own .fz), .fz, .fz, .fz, .fz, .na, .na, .na]) (O' := [.fz, .fz, .fz, .fz, (.own .fz), (.own .fz), .fz, .na, .na, .na, .na, .na, .na])))))) (gss_one (gs_ret (gn_flat (o := .fz) gb_non)))))))))))
/-! _law_cell -/
theorem sc__law_cell : FnScope ["script", "k"] ["script", "k"] (defScope st__law_cell) := ⟨rfl, rfl, rfl, by decide +kernel, rfl, by decide +kernel, by decide +kernel⟩
theorem c__law_cell (fx : Fx K mg G) : Cal P w K mg base "_law_cell" 1 (spP K G 2 .fz m__law_cell) := by
  obtain ⟨f, fd, F, gl⟩ := fx.d__law_cell
  refine ⟨f, fd, ["script", "k"], okP (O1 := [.fz, .fz]) F sc__law_cell rfl (by decide) (by decide) fun cdv A outer s H E hr => ?_, gl, F.kp, F.bindsN fun _ _ _ _ _ _ us hl => match us, hl with | [_, _], _ => rfl⟩
  exact (gss_cons (gs_if (O' := [.fz, .fz]) (gt_lt (gb_var 1) (gb_len fx.free_len (gb_var 0))) (gss_one (gs_ret (gn_fz (gb_int1 fx.free_int (gb_ix (gb_var 0) (gb_var 1)))))) gss_nil) (gss_one (gs_ret (gn_fz gb_int))))
/-! _law_numbers -/
theorem sc__law_numbers : FnScope ["cell", "many", "rest", "mixed", "told", "k"] ["cell", "many"] (defScope st__law_numbers) := ⟨rfl, rfl, rfl, by decide +kernel, rfl, by decide +kernel, by decide +kernel⟩
theorem c__law_numbers (fx : Fx K mg G) : Cal P w K mg base "_law_numbers" 1 (spP K G 2 .fz m__law_numbers) := by
  obtain ⟨f, fd, F, gl⟩ := fx.d__law_numbers
  refine ⟨f, fd, ["cell", "many"], okP (O1 := [.fz, .fz, .fz, .fz, .fz, .na]) F sc__law_numbers rfl (by decide) (by decide) fun cdv A outer s H E hr => ?_, gl, F.kp, F.bindsN fun _ _ _ _ _ _ us hl => match us, hl with | [_, _], _ => rfl⟩
  exact (gss_cons (gs_set 2 (gn_fz (gb_abs fx.free_abs (gb_var 0))) sc__law_numbers.nd) (gss_cons (gs_set 3 (gn_fz (gb_mod (gb_int1 fx.free_int (gb_add (gb_mul (gb_var 2) gb_int) gb_int)) gb_int)) sc__law_numbers.nd) (gss_cons (gs_if (O' := [.fz, .fz, .fz, .fz, .na, .na]) (gt_lt (gb_var 2) (gb_pow gb_int gb_int)) (gss_cons (gs_set 2 (gn_fz gb_int) sc__law_numbers.nd) gss_nil) gss_nil) (gss_cons (gs_set 4 (gn_lst ga_nil) sc__law_numbers.nd) (gss_cons (gs_for (passes_of rfl) rfl (gi_range1 fx.free_range (gb_var 1)) (gg_name 5 sc__law_numbers.nd) (gss_cons (gs_if (O' := [.fz, .fz, .fz, .fz, (.own .fz), .fz]) (gt_gt (gb_var 2) gb_int) (gss_cons (gs_append 4 (gn_fz (gb_mod (gb_int1 fx.free_int (gb_var 2)) gb_int))) (gss_cons (gs_set 2 (gn_fz (gb_fdiv (gb_var 2) gb_int)) sc__law_numbers.nd) gss_nil)) (gss_cons (gs_set 3 (gn_fz (gb_mod (gb_int1 fx.free_int (gb_add (gb_mul (gb_var 3) gb_int) gb_int)) gb_int)) sc__law_numbers.nd) (gss_cons (gs_append 4 (gn_fz (gb_mod (gb_int1 fx.free_int (gb_fdiv (gb_var 3) gb_int)) gb_int))) gss_nil))) (gss_nil (O := [.fz, .fz, .fz, .fz, (.own .fz), .fz]) (O' := [.fz, .fz, .fz, .fz, (.own .fz), .na])))) (gss_weak (O1 := [.fz, .fz, .fz, .fz, .fz, .na]) (by rfl) (gss_one (gs_ret (gn_fz (gb_var 4))))))))))
/-! _law_alike -/
theorem sc__law_alike : FnScope ["actual", "expected", "k"] ["actual", "expected"] (defScope st__law_alike) := ⟨rfl, rfl, rfl, by decide +kernel, rfl, by decide +kernel, by decide +kernel⟩
theorem c__law_alike_ (fx : Fx K mg G) : ∀ n, Cal P w K mg base "_law_alike" (n + 1) (spP K G 2 .fz (m__law_alike n))
  | 0 => by
    obtain ⟨f, fd, F, gl⟩ := fx.d__law_alike
    exact ⟨f, fd, ["actual", "expected"], okP0 F sc__law_alike rfl, gl, F.kp, F.bindsN fun _ _ _ _ _ _ us hl => match us, hl with | [_, _], _ => rfl⟩
  | n + 1 => by
    have ih := c__law_alike_ fx n
    obtain ⟨f, fd, F, gl⟩ := fx.d__law_alike
    refine ⟨f, fd, ["actual", "expected"], okP (O1 := [.fz, .fz, .na]) F sc__law_alike rfl (by decide) (by decide) fun cdv A outer s H E hr => ?_, gl, F.kp, F.bindsN fun _ _ _ _ _ _ us hl => match us, hl with | [_, _], _ => rfl⟩
    exact (gss_cons (gs_if (O' := [.fz, .fz, .na]) (gt_is (gb_var 1) gb_non) (gss_one (gs_ret (gn_fz (gb_is (gb_var 0) gb_non)))) gss_nil) (gss_cons (gs_if (O' := [.fz, .fz, .na]) (gt_val (gb_isi .bool fx.free_isinstance fx.free_bool (gb_var 1))) (gss_one (gs_ret (gn_fz (gb_and (gb_isi .bool fx.free_isinstance fx.free_bool (gb_var 0)) (gb_one (gb_eq (gb_var 0) (gb_var 1))))))) gss_nil) (gss_cons (gs_if (O' := [.fz, .fz, .na]) (gt_val (gb_isi .int fx.free_isinstance fx.free_int (gb_var 1))) (gss_one (gs_ret (gn_fz (gb_and (gb_isi .int fx.free_isinstance fx.free_int (gb_var 0)) (gb_and (gb_not (gb_isi .bool fx.free_isinstance fx.free_bool (gb_var 0))) (gb_one (gb_eq (gb_var 0) (gb_var 1)))))))) gss_nil) (gss_cons (gs_if (O' := [.fz, .fz, .na]) (gt_val (gb_isi .str fx.free_isinstance fx.free_str (gb_var 1))) (gss_one (gs_ret (gn_fz (gb_and (gb_isi .str fx.free_isinstance fx.free_str (gb_var 0)) (gb_one (gb_eq (gb_var 0) (gb_var 1))))))) gss_nil) (gss_cons (gs_if (O' := [.fz, .fz, .na]) (gt_val (gb_isi .tuple fx.free_isinstance fx.free_tuple (gb_var 1))) (gss_cons (gs_if (O' := [.fz, .fz, .na]) (gt_w (gw_or (gt_not (gt_val (gb_isi .tuple fx.free_isinstance fx.free_tuple (gb_var 0)))) (gw_or1 (gt_ne (gb_len fx.free_len (gb_var 0)) (gb_len fx.free_len (gb_var 1)))))) (gss_one (gs_ret (gn_fz gb_bl))) gss_nil) gss_nil) (gss_cons (gs_if (O' := [.fz, .fz, .na]) (gt_w (gw_or (gt_not (gt_val (gb_isi .list fx.free_isinstance fx.free_list (gb_var 0)))) (gw_or1 (gt_ne (gb_len fx.free_len (gb_var 0)) (gb_len fx.free_len (gb_var 1)))))) (gss_one (gs_ret (gn_fz gb_bl))) gss_nil) gss_nil)) (gss_cons (gs_for (passes_of rfl) rfl (gi_range1 fx.free_range (gb_len fx.free_len (gb_var 1))) (gg_name 2 sc__law_alike.nd) (gss_cons (gs_if (O' := [.fz, .fz, .fz]) (gt_not (gt_val (gb_new (gn_call ih hr (takes_of rfl rfl rfl rfl) (ga_cons (gb_ix (gb_var 0) (gb_var 2)) (ga_cons (gb_ix (gb_var 1) (gb_var 2)) ga_nil)) (hk := Nat.le_refl _))))) (gss_one (gs_ret (gn_fz gb_bl))) gss_nil) (gss_nil (O := [.fz, .fz, .fz]) (O' := [.fz, .fz, .na])))) (gss_one (gs_ret (gn_fz gb_bl)))))))))
/-! _law_moves -/
theorem sc__law_moves : FnScope ["numbers", "size", "top", "moves", "p", "row", "q"] ["numbers", "size", "top"] (defScope st__law_moves) := ⟨rfl, rfl, rfl, by decide +kernel, rfl, by decide +kernel, by decide +kernel⟩
theorem c__law_moves (fx : Fx K mg G) : Cal P w K mg base "_law_moves" 1 (spP K G 3 .fz m__law_moves) := by
  obtain ⟨f, fd, F, gl⟩ := fx.d__law_moves
  refine ⟨f, fd, ["numbers", "size", "top"], okP (O1 := [.fz, .fz, .fz, .fz, .na, .na, .na]) F sc__law_moves rfl (by decide) (by decide) fun cdv A outer s H E hr => ?_, gl, F.kp, F.bindsN fun _ _ _ _ _ _ us hl => match us, hl with | [_, _, _], _ => rfl⟩
  exact (gss_cons (gs_set 3 (gn_lst ga_nil) sc__law_moves.nd) (gss_cons (gs_for (passes_of rfl) rfl (gi_range1 fx.free_range (gb_var 1)) (gg_name 4 sc__law_moves.nd) (gss_cons (gs_set 5 (gn_lst ga_nil) sc__law_moves.nd) (gss_cons (gs_for (passes_of rfl) rfl (gi_range1 fx.free_range (gb_var 1)) (gg_name 6 sc__law_moves.nd) (gss_cons (gs_append 5 (gn_fz (gb_if (gt_eq (gb_var 4) (gb_var 6)) gb_int (gb_mod (gb_int1 fx.free_int (gb_ix (gb_var 0) (gb_add (gb_mul (gb_var 4) (gb_var 1)) (gb_var 6)))) (gb_add (gb_var 2) gb_int))))) (gss_nil (O := [.fz, .fz, .fz, (.own .fz), .fz, (.own .fz), .fz]) (O' := [.fz, .fz, .fz, (.own .fz), .fz, (.own .fz), .na])))) (gss_weak (O1 := [.fz, .fz, .fz, (.own .fz), .fz, .fz, .na]) (by rfl) (gss_cons (gs_append 3 (gn_fz (gb_var 5))) (gss_nil (O := [.fz, .fz, .fz, (.own .fz), .fz, .fz, .na]) (O' := [.fz, .fz, .fz, (.own .fz), .na, .na, .na]))))))) (gss_weak (O1 := [.fz, .fz, .fz, .fz, .na, .na, .na]) (by rfl) (gss_one (gs_ret (gn_fz (gb_var 3)))))))
/-! _law_asks -/
theorem sc__law_asks : FnScope ["numbers", "kinds", "size", "top", "asks", "r", "row", "p", "number", "cost"] ["numbers", "kinds", "size", "top"] (defScope st__law_asks) := ⟨rfl, rfl, rfl, by decide +kernel, rfl, by decide +kernel, by decide +kernel⟩
theorem c__law_asks (fx : Fx K mg G) : Cal P w K mg base "_law_asks" 1 (spP K G 4 .fz m__law_asks) := by
  obtain ⟨f, fd, F, gl⟩ := fx.d__law_asks
  refine ⟨f, fd, ["numbers", "kinds", "size", "top"], okP (O1 := [.fz, .fz, .fz, .fz, .fz, .na, .na, .na, .na, .na]) F sc__law_asks rfl (by decide) (by decide) fun cdv A outer s H E hr => ?_, gl, F.kp, F.bindsN fun _ _ _ _ _ _ us hl => match us, hl with | [_, _, _, _], _ => rfl⟩
  exact (gss_cons (gs_set 4 (gn_lst ga_nil) sc__law_asks.nd) (gss_cons (gs_for (passes_of rfl) rfl (gi_range1 fx.free_range (gb_var 1)) (gg_name 5 sc__law_asks.nd) (gss_cons (gs_set 6 (gn_lst ga_nil) sc__law_asks.nd) (gss_cons (gs_for (passes_of rfl) rfl (gi_range1 fx.free_range (gb_var 2)) (gg_name 7 sc__law_asks.nd) (gss_cons (gs_set 8 (gn_fz (gb_int1 fx.free_int (gb_ix (gb_var 0) (gb_add (gb_mul (gb_var 5) (gb_var 2)) (gb_var 7))))) sc__law_asks.nd) (gss_cons (gs_append 6 (gn_fz (gb_if (gt_eq (gb_mod (gb_var 8) gb_int) gb_int) gb_non (gb_mod (gb_fdiv (gb_var 8) gb_int) (gb_add (gb_var 3) gb_int))))) (gss_nil (O := [.fz, .fz, .fz, .fz, (.own .fz), .fz, (.own .fz), .fz, .fz, .na]) (O' := [.fz, .fz, .fz, .fz, (.own .fz), .fz, (.own .fz), .na, .na, .na]))))) (gss_cons (gs_if (O' := [.fz, .fz, .fz, .fz, (.own .fz), .fz, (.own .fz), .na, .na, .na]) (gt_lend (gt_eq (gb_len fx.free_len (gb_new (gn_compX (takes_of rfl rfl rfl rfl) rfl sc__law_asks.nd (gi_seq (gb_var 6)) (blkOk_by (own := [("cost", 9)]) (by rfl)) (fun _ _ _ _ _ _ => (gp_name 9 sc__law_asks.nd)) (fun _ _ _ _ _ _ _ tk' => (gtw_one (gt_isnot (gb_var 9) gb_non))) (fun _ _ _ _ _ _ _ tk' => (gn_fz (gb_var 9)))))) gb_int)) (gss_cons (gs_asg (gb_var 5) (gg_sub (W := W0) 6 (gb_mod (gb_fdiv (gb_int1 fx.free_int (gb_ix (gb_var 0) (gb_var 5))) gb_int) (gb_var 2)))) gss_nil) gss_nil) (gss_weak (O1 := [.fz, .fz, .fz, .fz, (.own .fz), .fz, .fz, .na, .na, .na]) (by rfl) (gss_cons (gs_append 4 (gn_fz (gb_var 6))) (gss_nil (O := [.fz, .fz, .fz, .fz, (.own .fz), .fz, .fz, .na, .na, .na]) (O' := [.fz, .fz, .fz, .fz, (.own .fz), .na, .na, .na, .na, .na])))))))) (gss_weak (O1 := [.fz, .fz, .fz, .fz, .fz, .na, .na, .na, .na, .na]) (by rfl) (gss_one (gs_ret (gn_fz (gb_var 4)))))))
/-! _law_arrows -/
theorem sc__law_arrows : FnScope ["numbers", "states", "kinds", "arrows", "s", "row", "r", "number"] ["numbers", "states", "kinds"] (defScope st__law_arrows) := ⟨rfl, rfl, rfl, by decide +kernel, rfl, by decide +kernel, by decide +kernel⟩
theorem c__law_arrows (fx : Fx K mg G) : Cal P w K mg base "_law_arrows" 1 (spP K G 3 .fz m__law_arrows) := by
  obtain ⟨f, fd, F, gl⟩ := fx.d__law_arrows
  refine ⟨f, fd, ["numbers", "states", "kinds"], okP (O1 := [.fz, .fz, .fz, .fz, .na, .na, .na, .na]) F sc__law_arrows rfl (by decide) (by decide) fun cdv A outer s H E hr => ?_, gl, F.kp, F.bindsN fun _ _ _ _ _ _ us hl => match us, hl with | [_, _, _], _ => rfl⟩
  exact (gss_cons (gs_set 3 (gn_lst ga_nil) sc__law_arrows.nd) (gss_cons (gs_for (passes_of rfl) rfl (gi_range1 fx.free_range (gb_var 1)) (gg_name 4 sc__law_arrows.nd) (gss_cons (gs_set 5 (gn_lst ga_nil) sc__law_arrows.nd) (gss_cons (gs_for (passes_of rfl) rfl (gi_range1 fx.free_range (gb_var 2)) (gg_name 6 sc__law_arrows.nd) (gss_cons (gs_set 7 (gn_fz (gb_int1 fx.free_int (gb_ix (gb_var 0) (gb_add (gb_mul (gb_var 4) (gb_var 2)) (gb_var 6))))) sc__law_arrows.nd) (gss_cons (gs_append 5 (gn_fz (gb_if (gt_eq (gb_mod (gb_var 7) gb_int) gb_int) gb_non (gb_mod (gb_fdiv (gb_var 7) gb_int) (gb_var 1))))) (gss_nil (O := [.fz, .fz, .fz, (.own .fz), .fz, (.own .fz), .fz, .fz]) (O' := [.fz, .fz, .fz, (.own .fz), .fz, (.own .fz), .na, .na]))))) (gss_weak (O1 := [.fz, .fz, .fz, (.own .fz), .fz, .fz, .na, .na]) (by rfl) (gss_cons (gs_append 3 (gn_fz (gb_var 5))) (gss_nil (O := [.fz, .fz, .fz, (.own .fz), .fz, .fz, .na, .na]) (O' := [.fz, .fz, .fz, (.own .fz), .na, .na, .na, .na]))))))) (gss_weak (O1 := [.fz, .fz, .fz, .fz, .na, .na, .na, .na]) (by rfl) (gss_one (gs_ret (gn_fz (gb_var 3)))))))
/-! _law_row -/
theorem sc__law_row : FnScope ["arrows", "numbers", "row", "state", "number", "let", "r", "ask"] ["arrows", "numbers"] (defScope st__law_row) := ⟨rfl, rfl, rfl, by decide +kernel, rfl, by decide +kernel, by decide +kernel⟩
theorem c__law_row (fx : Fx K mg G) : Cal P w K mg base "_law_row" 1 (spP K G 2 .fz m__law_row) := by
  obtain ⟨f, fd, F, gl⟩ := fx.d__law_row
  refine ⟨f, fd, ["arrows", "numbers"], okP (O1 := [.fz, .fz, .fz, .fz, .na, .na, .na, .na]) F sc__law_row rfl (by decide) (by decide) fun cdv A outer s H E hr => ?_, gl, F.kp, F.bindsN fun _ _ _ _ _ _ us hl => match us, hl with | [_, _], _ => rfl⟩
  exact (gss_cons (gs_set 2 (gn_lst ga_nil) sc__law_row.nd) (gss_cons (gs_set 3 (gn_fz gb_int) sc__law_row.nd) (gss_cons (gs_for (passes_of rfl) rfl (gi_seq (gb_var 1)) (gg_name 4 sc__law_row.nd) (gss_cons (gs_setCompX 5 (takes_of rfl rfl rfl rfl) rfl sc__law_row.nd (gi_range1 fx.free_range (gb_len fx.free_len (gb_ix (gb_var 0) (gb_var 3)))) (blkOk_by (own := [("r", 6)]) (by rfl)) (fun _ _ _ _ _ _ => (gp_name 6 sc__law_row.nd)) (fun _ _ _ _ _ _ _ tk' => (gtw_one (gt_isnot (gb_ix (gb_ix (gb_var 0) (gb_var 3)) (gb_var 6)) gb_non))) (fun _ _ _ _ _ _ _ tk' => (gn_fz (gb_var 6))) (sw_true rfl rfl rfl rfl)) (gss_cons (gs_if (O' := [.fz, .fz, (.own .fz), .fz, .fz, (.own .fz), .na, .na]) (gt_eq (gb_len fx.free_len (gb_var 5)) gb_int) (gss_weak (O1 := [.fz, .fz, .fz, .fz, .fz, (.own .fz), .na, .na]) (by rfl) (gss_one (gs_ret (gn_fz (gb_var 2))))) gss_nil) (gss_cons (gs_set 7 (gn_fz (gb_ix (gb_var 5) (gb_mod (gb_int1 fx.free_int (gb_var 4)) (gb_len fx.free_len (gb_var 5))))) sc__law_row.nd) (gss_cons (gs_append 2 (gn_fz (gb_var 7))) (gss_cons (gs_set 3 (gn_fz (gb_ix (gb_ix (gb_var 0) (gb_var 3)) (gb_var 7))) sc__law_row.nd) (gss_nil (O := [.fz, .fz, (.own .fz), .fz, .fz, (.own .fz), .na, .fz]) (O' := [.fz, .fz, (.own .fz), .fz, .na, .na, .na, .na])))))))) (gss_weak (O1 := [.fz, .fz, .fz, .fz, .na, .na, .na, .na]) (by rfl) (gss_one (gs_ret (gn_fz (gb_var 2))))))))
/-! _law_rule -/
theorem sc__law_rule : FnScope ["numbers", "memories", "kinds", "size", "begin", "places", "k", "table", "row", "r", "number"] ["numbers", "memories", "kinds", "size", "begin"] (defScope st__law_rule) := ⟨rfl, rfl, rfl, by decide +kernel, rfl, by decide +kernel, by decide +kernel⟩
theorem c__law_rule (fx : Fx K mg G) : Cal P w K mg base "_law_rule" 1 (spP K G 5 .fz m__law_rule) := by
  obtain ⟨f, fd, F, gl⟩ := fx.d__law_rule
  refine ⟨f, fd, ["numbers", "memories", "kinds", "size", "begin"], okP (O1 := [.fz, .fz, .fz, .fz, .fz, .fz, .na, .fz, .na, .na, .na]) F sc__law_rule rfl (by decide) (by decide) fun cdv A outer s H E hr => ?_, gl, F.kp, F.bindsN fun _ _ _ _ _ _ us hl => match us, hl with | [_, _, _, _, _], _ => rfl⟩
  exact (gss_cons (gs_set 5 (gn_fz (gb_add (gb_new (gn_lst (ga_cons (gb_var 4) ga_nil))) (gb_new (gn_compX (takes_of rfl rfl rfl rfl) rfl sc__law_rule.nd (gi_range2 fx.free_range gb_int (gb_var 1)) (blkOk_by (own := [("k", 6)]) (by rfl)) (fun _ _ _ _ _ _ => (gp_name 6 sc__law_rule.nd)) (fun _ _ _ _ _ _ _ tk' => gtw_nil) (fun _ _ _ _ _ _ _ tk' => (gn_fz (gb_mod (gb_int1 fx.free_int (gb_ix (gb_var 0) (gb_var 6))) (gb_var 3)))))))) sc__law_rule.nd) (gss_cons (gs_set 7 (gn_lst ga_nil) sc__law_rule.nd) (gss_cons (gs_for (passes_of rfl) rfl (gi_range1 fx.free_range (gb_var 1)) (gg_name 6 sc__law_rule.nd) (gss_cons (gs_set 8 (gn_lst ga_nil) sc__law_rule.nd) (gss_cons (gs_for (passes_of rfl) rfl (gi_range1 fx.free_range (gb_var 2)) (gg_name 9 sc__law_rule.nd) (gss_cons (gs_set 10 (gn_fz (gb_int1 fx.free_int (gb_ix (gb_var 0) (gb_add (gb_add (gb_var 1) (gb_mul (gb_var 6) (gb_var 2))) (gb_var 9))))) sc__law_rule.nd) (gss_cons (gs_append 8 (gn_fz (gb_if (gt_eq (gb_mod (gb_var 10) gb_int) gb_int) gb_non (gb_mod (gb_fdiv (gb_var 10) gb_int) (gb_var 1))))) (gss_nil (O := [.fz, .fz, .fz, .fz, .fz, .fz, .fz, (.own .fz), (.own .fz), .fz, .fz]) (O' := [.fz, .fz, .fz, .fz, .fz, .fz, .fz, (.own .fz), (.own .fz), .na, .na]))))) (gss_weak (O1 := [.fz, .fz, .fz, .fz, .fz, .fz, .fz, (.own .fz), .fz, .na, .na]) (by rfl) (gss_cons (gs_append 7 (gn_fz (gb_var 8))) (gss_nil (O := [.fz, .fz, .fz, .fz, .fz, .fz, .fz, (.own .fz), .fz, .na, .na]) (O' := [.fz, .fz, .fz, .fz, .fz, .fz, .na, (.own .fz), .na, .na, .na]))))))) (gss_weak (O1 := [.fz, .fz, .fz, .fz, .fz, .fz, .na, .fz, .na, .na, .na]) (by rfl) (gss_one (gs_ret (gn_lst (ga_cons (gb_var 5) (ga_cons (gb_var 7) ga_nil)))))))))
/-! _law_chain -/
theorem sc__law_chain : FnScope ["numbers", "row", "way", "kinds", "begin", "tail", "last", "places", "table", "k", "line", "r", "number", "goal"] ["numbers", "row", "way", "kinds", "begin", "tail"] (defScope st__law_chain) := ⟨rfl, rfl, rfl, by decide +kernel, rfl, by decide +kernel, by decide +kernel⟩
theorem c__law_chain (fx : Fx K mg G) : Cal P w K mg base "_law_chain" 1 (spP K G 6 .fz m__law_chain) := by
  obtain ⟨f, fd, F, gl⟩ := fx.d__law_chain
  refine ⟨f, fd, ["numbers", "row", "way", "kinds", "begin", "tail"], okP (O1 := [.fz, .fz, .fz, .fz, .fz, .fz, .fz, .fz, .fz, .na, .na, .na, .na, .na]) F sc__law_chain rfl (by decide) (by decide) fun cdv A outer s H E hr => ?_, gl, F.kp, F.bindsN fun _ _ _ _ _ _ us hl => match us, hl with | [_, _, _, _, _, _], _ => rfl⟩
  exact (gss_cons (gs_set 6 (gn_fz (gb_if (gt_gt (gb_len fx.free_len (gb_var 2)) gb_int) (gb_ix (gb_var 2) (gb_neg gb_int)) (gb_var 4))) sc__law_chain.nd) (gss_cons (gs_set 7 (gn_fz (gb_add (gb_add (gb_new (gn_lst (ga_cons (gb_var 4) ga_nil))) (gb_new (gn_list fx.free_list (gb_var 2)))) (gb_mul (gb_new (gn_lst (ga_cons (gb_var 6) ga_nil))) (gb_var 5)))) sc__law_chain.nd) (gss_cons (gs_set 8 (gn_lst ga_nil) sc__law_chain.nd) (gss_cons (gs_for (passes_of rfl) rfl (gi_range1 fx.free_range (gb_len fx.free_len (gb_var 7))) (gg_name 9 sc__law_chain.nd) (gss_cons (gs_set 10 (gn_lst ga_nil) sc__law_chain.nd) (gss_cons (gs_for (passes_of rfl) rfl (gi_range1 fx.free_range (gb_var 3)) (gg_name 11 sc__law_chain.nd) (gss_cons (gs_set 12 (gn_fz (gb_int1 fx.free_int (gb_ix (gb_var 0) (gb_mod (gb_int1 fx.free_int (gb_add (gb_mul (gb_var 9) (gb_var 3)) (gb_var 11))) (gb_len fx.free_len (gb_var 0)))))) sc__law_chain.nd) (gss_cons (gs_set 13 (gn_fz (gb_if (gt_eq (gb_mod (gb_var 12) gb_int) gb_int) gb_non (gb_mod (gb_fdiv (gb_var 12) gb_int) (gb_len fx.free_len (gb_var 7))))) sc__law_chain.nd) (gss_cons (gs_if (O' := [.fz, .fz, .fz, .fz, .fz, .fz, .fz, .fz, (.own .fz), .fz, (.own .fz), .fz, .fz, .fz]) (gt_ge (gb_var 9) (gb_len fx.free_len (gb_var 1))) (gss_cons (gs_set 13 (gn_fz (gb_min2 rfl fx.free_min (gb_add (gb_var 9) gb_int) (gb_sub (gb_len fx.free_len (gb_var 7)) gb_int))) sc__law_chain.nd) gss_nil) (gss_cons (gs_if (O' := [.fz, .fz, .fz, .fz, .fz, .fz, .fz, .fz, (.own .fz), .fz, (.own .fz), .fz, .fz, .fz]) (gt_eq (gb_var 11) (gb_ix (gb_var 1) (gb_var 9))) (gss_cons (gs_set 13 (gn_fz (gb_add (gb_var 9) gb_int)) sc__law_chain.nd) gss_nil) gss_nil) gss_nil)) (gss_cons (gs_append 10 (gn_fz (gb_var 13))) (gss_nil (O := [.fz, .fz, .fz, .fz, .fz, .fz, .fz, .fz, (.own .fz), .fz, (.own .fz), .fz, .fz, .fz]) (O' := [.fz, .fz, .fz, .fz, .fz, .fz, .fz, .fz, (.own .fz), .fz, (.own .fz), .na, .na, .na]))))))) (gss_weak (O1 := [.fz, .fz, .fz, .fz, .fz, .fz, .fz, .fz, (.own .fz), .fz, .fz, .na, .na, .na]) (by rfl) (gss_cons (gs_append 8 (gn_fz (gb_var 10))) (gss_nil (O := [.fz, .fz, .fz, .fz, .fz, .fz, .fz, .fz, (.own .fz), .fz, .fz, .na, .na, .na]) (O' := [.fz, .fz, .fz, .fz, .fz, .fz, .fz, .fz, (.own .fz), .na, .na, .na, .na, .na]))))))) (gss_weak (O1 := [.fz, .fz, .fz, .fz, .fz, .fz, .fz, .fz, .fz, .na, .na, .na, .na, .na]) (by rfl) (gss_one (gs_ret (gn_lst (ga_cons (gb_var 7) (ga_cons (gb_var 8) ga_nil))))))))))
/-! _law_bent -/
theorem sc__law_bent : FnScope ["rule", "at", "size", "places", "table", "line"] ["rule", "at", "size"] (defScope st__law_bent) := ⟨rfl, rfl, rfl, by decide +kernel, rfl, by decide +kernel, by decide +kernel⟩
theorem c__law_bent (fx : Fx K mg G) : Cal P w K mg base "_law_bent" 1 (spP K G 3 .fz m__law_bent) := by
  obtain ⟨f, fd, F, gl⟩ := fx.d__law_bent
  refine ⟨f, fd, ["rule", "at", "size"], okP (O1 := [.fz, .fz, .fz, .fz, .fz, .na]) F sc__law_bent rfl (by decide) (by decide) fun cdv A outer s H E hr => ?_, gl, F.kp, F.bindsN fun _ _ _ _ _ _ us hl => match us, hl with | [_, _, _], _ => rfl⟩
  exact (gss_cons (gs_set 3 (gn_list fx.free_list (gb_ix (gb_var 0) gb_int)) sc__law_bent.nd) (gss_cons (gs_setCompX 4 (takes_of rfl rfl rfl rfl) rfl sc__law_bent.nd (gi_seq (gb_ix (gb_var 0) gb_int)) (blkOk_by (own := [("line", 5)]) (by rfl)) (fun _ _ _ _ _ _ => (gp_name 5 sc__law_bent.nd)) (fun _ _ _ _ _ _ _ tk' => gtw_nil) (fun _ _ _ _ _ _ _ tk' => (gn_fz (gb_new (gn_list fx.free_list (gb_var 5))))) (sw_true rfl rfl rfl rfl)) (gss_cons (gs_if (O' := [.fz, .fz, .fz, (.own .fz), (.own .fz), .na]) (gt_gt (gb_var 2) gb_int) (gss_cons (gs_asg (gb_mod (gb_int1 fx.free_int (gb_add (gb_ix (gb_var 3) (gb_var 1)) gb_int)) (gb_var 2)) (gg_sub (W := W0) 3 (gb_var 1))) gss_nil) (gss_cons (gs_asg (gb_mul (gb_new (gn_lst (ga_cons gb_non ga_nil))) (gb_len fx.free_len (gb_ix (gb_var 4) (gb_var 1)))) (gg_sub (W := W0) 4 (gb_var 1))) gss_nil)) (gss_weak (O1 := [.fz, .fz, .fz, .fz, .fz, .na]) (by rfl) (gss_one (gs_ret (gn_lst (ga_cons (gb_var 3) (ga_cons (gb_var 4) ga_nil)))))))))
/-! _law_rules -/
theorem sc__law_rules : FnScope ["numbers", "row", "way", "kinds", "size", "begin", "tail", "plain", "longer", "drawn"] ["numbers", "row", "way", "kinds", "size", "begin", "tail"] (defScope st__law_rules) := ⟨rfl, rfl, rfl, by decide +kernel, rfl, by decide +kernel, by decide +kernel⟩
theorem c__law_rules (fx : Fx K mg G) : Cal P w K mg base "_law_rules" 2 (spP K G 7 .fz m__law_rules) := by
  obtain ⟨f, fd, F, gl⟩ := fx.d__law_rules
  refine ⟨f, fd, ["numbers", "row", "way", "kinds", "size", "begin", "tail"], okP (O1 := [.fz, .fz, .fz, .fz, .fz, .fz, .fz, .fz, .fz, .fz]) F sc__law_rules rfl (by decide) (by decide) fun cdv A outer s H E hr => ?_, gl, F.kp, F.bindsN fun _ _ _ _ _ _ us hl => match us, hl with | [_, _, _, _, _, _, _], _ => rfl⟩
  exact (gss_cons (gs_set 7 (gn_fz (gb_new (gn_call (c__law_chain fx) hr (takes_of rfl rfl rfl rfl) (ga_cons (gb_var 0) (ga_cons (gb_var 1) (ga_cons (gb_var 2) (ga_cons (gb_var 3) (ga_cons (gb_var 5) (ga_cons gb_int ga_nil))))))))) sc__law_rules.nd) (gss_cons (gs_set 8 (gn_fz (gb_new (gn_call (c__law_chain fx) hr (takes_of rfl rfl rfl rfl) (ga_cons (gb_var 0) (ga_cons (gb_var 1) (ga_cons (gb_var 2) (ga_cons (gb_var 3) (ga_cons (gb_var 5) (ga_cons (gb_var 6) ga_nil))))))))) sc__law_rules.nd) (gss_cons (gs_set 9 (gn_fz (gb_new (gn_call (c__law_rule fx) hr (takes_of rfl rfl rfl rfl) (ga_cons (gb_var 0) (ga_cons (gb_add gb_int (gb_mod (gb_int1 fx.free_int (gb_ix (gb_var 0) gb_int)) gb_int)) (ga_cons (gb_var 3) (ga_cons (gb_var 4) (ga_cons (gb_var 5) ga_nil)))))))) sc__law_rules.nd) (gss_one (gs_ret (gn_lst (ga_cons (gb_var 9) (ga_cons (gb_var 7) (ga_cons (gb_new (gn_call (c__law_bent fx) hr (takes_of rfl rfl rfl rfl) (ga_cons (gb_var 7) (ga_cons (gb_len fx.free_len (gb_var 1)) (ga_cons (gb_var 4) ga_nil))))) (ga_cons (gb_new (gn_call (c__law_bent fx) hr (takes_of rfl rfl rfl rfl) (ga_cons (gb_var 7) (ga_cons gb_int (ga_cons (gb_var 4) ga_nil))))) (ga_cons (gb_var 8) (ga_cons (gb_new (gn_call (c__law_bent fx) hr (takes_of rfl rfl rfl rfl) (ga_cons (gb_var 8) (ga_cons (gb_add (gb_len fx.free_len (gb_var 1)) (gb_var 6)) (ga_cons (gb_var 4) ga_nil))))) ga_nil))))))))))))
/-! _law_walked -/
theorem sc__law_walked : FnScope ["rule", "row", "memory", "ask", "goal"] ["rule", "row"] (defScope st__law_walked) := ⟨rfl, rfl, rfl, by decide +kernel, rfl, by decide +kernel, by decide +kernel⟩
theorem c__law_walked (fx : Fx K mg G) : Cal P w K mg base "_law_walked" 1 (spP K G 2 .fz m__law_walked) := by
  obtain ⟨f, fd, F, gl⟩ := fx.d__law_walked
  refine ⟨f, fd, ["rule", "row"], okP (O1 := [.fz, .fz, .fz, .na, .na]) F sc__law_walked rfl (by decide) (by decide) fun cdv A outer s H E hr => ?_, gl, F.kp, F.bindsN fun _ _ _ _ _ _ us hl => match us, hl with | [_, _], _ => rfl⟩
  exact (gss_cons (gs_set 2 (gn_fz gb_int) sc__law_walked.nd) (gss_cons (gs_for (passes_of rfl) rfl (gi_seq (gb_var 1)) (gg_name 3 sc__law_walked.nd) (gss_cons (gs_set 4 (gn_fz (gb_ix (gb_ix (gb_ix (gb_var 0) gb_int) (gb_var 2)) (gb_var 3))) sc__law_walked.nd) (gss_cons (gs_if (O' := [.fz, .fz, .fz, .fz, .fz]) (gt_is (gb_var 4) gb_non) (gss_one (gs_ret (gn_lst (ga_cons (gb_var 2) (ga_cons (gb_var 3) ga_nil))))) gss_nil) (gss_cons (gs_set 2 (gn_fz (gb_var 4)) sc__law_walked.nd) (gss_nil (O := [.fz, .fz, .fz, .fz, .fz]) (O' := [.fz, .fz, .fz, .na, .na])))))) (gss_one (gs_ret (gn_lst (ga_cons (gb_var 2) (ga_cons gb_non ga_nil)))))))
/-! _law_fits -/
theorem sc__law_fits : FnScope ["rule", "begin", "row", "way", "memory", "k"] ["rule", "begin", "row", "way"] (defScope st__law_fits) := ⟨rfl, rfl, rfl, by decide +kernel, rfl, by decide +kernel, by decide +kernel⟩
theorem c__law_fits (fx : Fx K mg G) : Cal P w K mg base "_law_fits" 1 (spP K G 4 .fz m__law_fits) := by
  obtain ⟨f, fd, F, gl⟩ := fx.d__law_fits
  refine ⟨f, fd, ["rule", "begin", "row", "way"], okP (O1 := [.fz, .fz, .fz, .fz, .fz, .na]) F sc__law_fits rfl (by decide) (by decide) fun cdv A outer s H E hr => ?_, gl, F.kp, F.bindsN fun _ _ _ _ _ _ us hl => match us, hl with | [_, _, _, _], _ => rfl⟩
  exact (gss_cons (gs_if (O' := [.fz, .fz, .fz, .fz, .na, .na]) (gt_ne (gb_ix (gb_ix (gb_var 0) gb_int) gb_int) (gb_var 1)) (gss_one (gs_ret (gn_fz gb_bl))) gss_nil) (gss_cons (gs_set 4 (gn_fz gb_int) sc__law_fits.nd) (gss_cons (gs_for (passes_of rfl) rfl (gi_range1 fx.free_range (gb_len fx.free_len (gb_var 2))) (gg_name 5 sc__law_fits.nd) (gss_cons (gs_set 4 (gn_fz (gb_ix (gb_ix (gb_ix (gb_var 0) gb_int) (gb_var 4)) (gb_ix (gb_var 2) (gb_var 5)))) sc__law_fits.nd) (gss_cons (gs_if (O' := [.fz, .fz, .fz, .fz, .fz, .fz]) (gt_w (gw_or (gt_is (gb_var 4) gb_non) (gw_or1 (gt_ne (gb_ix (gb_ix (gb_var 0) gb_int) (gb_var 4)) (gb_ix (gb_var 3) (gb_var 5)))))) (gss_one (gs_ret (gn_fz gb_bl))) gss_nil) (gss_nil (O := [.fz, .fz, .fz, .fz, .fz, .fz]) (O' := [.fz, .fz, .fz, .fz, .fz, .na]))))) (gss_one (gs_ret (gn_fz gb_bl))))))
/-! _law_next -/
theorem sc__law_next : FnScope ["arrows", "state", "one", "first", "two", "second", "found", "rows", "known", "at", "spot", "r", "after", "left", "right", "name"] ["arrows", "state", "one", "first", "two", "second"] (defScope st__law_next) := ⟨rfl, rfl, rfl, by decide +kernel, rfl, by decide +kernel, by decide +kernel⟩
theorem c__law_next (fx : Fx K mg G) : Cal P w K mg base "_law_next" 1 (spP K G 6 .fz m__law_next) := by
  obtain ⟨f, fd, F, gl⟩ := fx.d__law_next
  refine ⟨f, fd, ["arrows", "state", "one", "first", "two", "second"], okP (O1 := [.fz, .fz, .fz, .fz, .fz, .fz, (.own .fz), (.own .fz), (.own .fz), .na, .na, .na, .na, .na, .na, .na]) F sc__law_next rfl (by decide) (by decide) fun cdv A outer s H E hr => ?_, gl, F.kp, F.bindsN fun _ _ _ _ _ _ us hl => match us, hl with | [_, _, _, _, _, _], _ => rfl⟩
  exact (gss_cons (gs_if (O' := [.fz, .fz, .fz, .fz, .fz, .fz, .na, .na, .na, .na, .na, .na, .na, .na, .na, .na]) (gt_ne (gb_ix (gb_ix (gb_var 2) gb_int) (gb_var 3)) (gb_ix (gb_ix (gb_var 4) gb_int) (gb_var 5))) (gss_one (gs_ret (gn_lst ga_nil))) gss_nil) (gss_cons (gs_set 6 (gn_lst (ga_cons (gb_tup (ga_cons (gb_var 1) (ga_cons (gb_var 3) (ga_cons (gb_var 5) ga_nil)))) ga_nil)) sc__law_next.nd) (gss_cons (gs_set 7 (gn_lst (ga_cons (gb_new (gn_lst ga_nil)) ga_nil)) sc__law_next.nd) (gss_cons (gs_set 8 (gn_dict1 (ok' := .fz) (ov := .fz) hr (gb_ix (gb_var 6) gb_int) gb_bl) sc__law_next.nd) (gss_cons (gs_for (passes_of rfl) rfl (gi_range1 fx.free_range gb_int) (gg_name 9 sc__law_next.nd) (gss_cons (gs_if (O' := [.fz, .fz, .fz, .fz, .fz, .fz, (.own .fz), (.own .fz), (.own .fz), .fz, .na, .na, .na, .na, .na, .na]) (gt_eq (gb_var 9) (gb_len fx.free_len (gb_var 6))) (gss_one (gs_ret (gn_fz gb_non))) gss_nil) (gss_cons (gs_set 10 (gn_fz (gb_ix (gb_var 6) (gb_var 9))) sc__law_next.nd) (gss_cons (gs_for (passes_of rfl) rfl (gi_range1 fx.free_range (gb_len fx.free_len (gb_ix (gb_var 0) gb_int))) (gg_name 11 sc__law_next.nd) (gss_cons (gs_set 12 (gn_fz (gb_ix (gb_ix (gb_var 0) (gb_ix (gb_var 10) gb_int)) (gb_var 11))) sc__law_next.nd) (gss_cons (gs_if (O' := [.fz, .fz, .fz, .fz, .fz, .fz, (.own .fz), (.own .fz), (.own .fz), .fz, .fz, .fz, .fz, .na, .na, .na]) (gt_isnot (gb_var 12) gb_non) (gss_cons (gs_set 13 (gn_fz (gb_ix (gb_ix (gb_ix (gb_var 2) gb_int) (gb_ix (gb_var 10) gb_int)) (gb_var 11))) sc__law_next.nd) (gss_cons (gs_set 14 (gn_fz (gb_ix (gb_ix (gb_ix (gb_var 4) gb_int) (gb_ix (gb_var 10) gb_int)) (gb_var 11))) sc__law_next.nd) (gss_cons (gs_if (O' := [.fz, .fz, .fz, .fz, .fz, .fz, (.own .fz), (.own .fz), (.own .fz), .fz, .fz, .fz, .fz, .fz, .fz, .na]) (gt_ne (gb_is (gb_var 13) gb_non) (gb_is (gb_var 14) gb_non)) (gss_one (gs_ret (gn_fz (gb_add (gb_ix (gb_var 7) (gb_var 9)) (gb_new (gn_lst (ga_cons (gb_var 11) ga_nil))))))) gss_nil) (gss_cons (gs_if (O' := [.fz, .fz, .fz, .fz, .fz, .fz, (.own .fz), (.own .fz), (.own .fz), .fz, .fz, .fz, .fz, .fz, .fz, .na]) (gt_isnot (gb_var 13) gb_non) (gss_cons (gs_if (O' := [.fz, .fz, .fz, .fz, .fz, .fz, (.own .fz), (.own .fz), (.own .fz), .fz, .fz, .fz, .fz, .fz, .fz, .na]) (gt_ne (gb_ix (gb_ix (gb_var 2) gb_int) (gb_var 13)) (gb_ix (gb_ix (gb_var 4) gb_int) (gb_var 14))) (gss_one (gs_ret (gn_fz (gb_add (gb_ix (gb_var 7) (gb_var 9)) (gb_new (gn_lst (ga_cons (gb_var 11) ga_nil))))))) gss_nil) (gss_cons (gs_set 15 (gn_fz (gb_tup (ga_cons (gb_var 12) (ga_cons (gb_var 13) (ga_cons (gb_var 14) ga_nil))))) sc__law_next.nd) (gss_cons (gs_if (O' := [.fz, .fz, .fz, .fz, .fz, .fz, (.own .fz), (.own .fz), (.own .fz), .fz, .fz, .fz, .fz, .fz, .fz, .fz]) (gt_dnotin hr (gb_var 15) (gb_var 8)) (gss_cons (gs_asg gb_bl (gg_dsub 8 hr (W := W0) (gb_var 15))) (gss_cons (gs_append 6 (gn_fz (gb_var 15))) (gss_cons (gs_append 7 (gn_fz (gb_add (gb_ix (gb_var 7) (gb_var 9)) (gb_new (gn_lst (ga_cons (gb_var 11) ga_nil)))))) gss_nil))) gss_nil) (gss_nil (O := [.fz, .fz, .fz, .fz, .fz, .fz, (.own .fz), (.own .fz), (.own .fz), .fz, .fz, .fz, .fz, .fz, .fz, .fz]) (O' := [.fz, .fz, .fz, .fz, .fz, .fz, (.own .fz), (.own .fz), (.own .fz), .fz, .fz, .fz, .fz, .fz, .fz, .na]))))) gss_nil) (gss_nil (O := [.fz, .fz, .fz, .fz, .fz, .fz, (.own .fz), (.own .fz), (.own .fz), .fz, .fz, .fz, .fz, .fz, .fz, .na]) (O' := [.fz, .fz, .fz, .fz, .fz, .fz, (.own .fz), (.own .fz), (.own .fz), .fz, .fz, .fz, .fz, .na, .na, .na])))))) gss_nil) (gss_nil (O := [.fz, .fz, .fz, .fz, .fz, .fz, (.own .fz), (.own .fz), (.own .fz), .fz, .fz, .fz, .fz, .na, .na, .na]) (O' := [.fz, .fz, .fz, .fz, .fz, .fz, (.own .fz), (.own .fz), (.own .fz), .fz, .fz, .na, .na, .na, .na, .na]))))) (gss_nil (O := [.fz, .fz, .fz, .fz, .fz, .fz, (.own .fz), (.own .fz), (.own .fz), .fz, .fz, .na, .na, .na, .na, .na]) (O' := [.fz, .fz, .fz, .fz, .fz, .fz, (.own .fz), (.own .fz), (.own .fz), .na, .na, .na, .na, .na, .na, .na])))))) (gss_one (gs_ret (gn_fz gb_non))))))))
/-! _law_asked -/
theorem sc__law_asked : FnScope ["run", "rule", "other", "e"] ["run", "rule", "other"] (defScope st__law_asked) := ⟨rfl, rfl, rfl, by decide +kernel, rfl, by decide +kernel, by decide +kernel⟩
theorem c__law_asked (fx : Fx K mg G) : Cal P w K mg base "_law_asked" 5 (spP K G 3 (.own (.own .fz)) m__law_asked) := by
  obtain ⟨f, fd, F, gl⟩ := fx.d__law_asked
  refine ⟨f, fd, ["run", "rule", "other"], okP (O1 := [.fz, .fz, .fz, .na]) F sc__law_asked rfl (by decide) (by decide) fun cdv A outer s H E hr => ?_, gl, F.kp, F.bindsN fun _ _ _ _ _ _ us hl => match us, hl with | [_, _, _], _ => rfl⟩
  exact (gss_one (gs_try (O' := [.fz, .fz, .fz, .na]) [.fz, .fz, .fz, .na] (takes_of rfl rfl rfl rfl) sc__law_asked.nd (fun W2 pn2 xe2 tk2 hp2 => (gss_one (gs_ret (gn_lstO (o := .own .fz) (gan_cons (gn_flat gb_str) (gan_cons (gn_call (c_next_apart fx) hr tk2 (ga_cons (gb_var 0) (ga_cons (gb_var 1) (ga_cons (gb_var 2) ga_nil)))) gan_nil)))))) (gh_consN (O1 := [.fz, .fz, .fz, .na]) 3 fx.noexc ⟨rfl, by decide, .inl fx.gc_9⟩ fx.ts_9 (fun a oe cls d pn hz hf => (gss_one (gs_ret (gn_lstO (o := .own .fz) (gan_cons (gn_flat gb_str) (gan_cons (gn_flat (gb_xf (c := 9) (k := 0) fx.xf_9 fx.xn_9_memory (by rw [fx.nm_9]; rfl) hz hf (gb_var 3))) (gan_cons (gn_flat (gb_xf (c := 9) (k := 1) fx.xf_9 fx.xn_9_ask (by rw [fx.nm_9]; rfl) hz hf (gb_var 3))) gan_nil))))))) (gh_cons (O1 := [.fz, .fz, .fz, .na]) fx.noexc ⟨rfl, by decide, .inl fx.gc_3⟩ fx.ts_3 (fun a oe cls d pn hz hf => (gss_one (gs_ret (gn_lstO (o := .own .fz) (gan_cons (gn_flat gb_str) gan_nil))))) (gh_cons (O1 := [.fz, .fz, .fz, .na]) fx.noexc ⟨rfl, by decide, .inl fx.gc_0⟩ fx.ts_0 (fun a oe cls d pn hz hf => (gss_one (gs_ret (gn_lstO (o := .own .fz) (gan_cons (gn_flat gb_str) gan_nil))))) gh_nil)))))
/-! _law_fitted -/
theorem sc__law_fitted : FnScope ["run", "rules", "e"] ["run", "rules"] (defScope st__law_fitted) := ⟨rfl, rfl, rfl, by decide +kernel, rfl, by decide +kernel, by decide +kernel⟩
theorem c__law_fitted (fx : Fx K mg G) : Cal P w K mg base "_law_fitted" 6 (spP K G 2 .fz m__law_fitted) := by
  obtain ⟨f, fd, F, gl⟩ := fx.d__law_fitted
  refine ⟨f, fd, ["run", "rules"], okP (O1 := [.fz, .fz, .na]) F sc__law_fitted rfl (by decide) (by decide) fun cdv A outer s H E hr => ?_, gl, F.kp, F.bindsN fun _ _ _ _ _ _ us hl => match us, hl with | [_, _], _ => rfl⟩
  exact (gss_one (gs_try (O' := [.fz, .fz, .na]) [.fz, .fz, .na] (takes_of rfl rfl rfl rfl) sc__law_fitted.nd (fun W2 pn2 xe2 tk2 hp2 => (gss_one (gs_ret (gn_lst (ga_cons gb_str (ga_cons (gb_new (gn_call (c_fitting fx) hr tk2 (ga_cons (gb_var 0) (ga_cons (gb_var 1) ga_nil)))) ga_nil)))))) (gh_consN (O1 := [.fz, .fz, .na]) 2 fx.noexc ⟨rfl, by decide, .inl fx.gc_3⟩ fx.ts_3 (fun a oe cls d pn hz hf => (gss_one (gs_ret (gn_lst (ga_cons (gb_if (gt_w (gw_and (gt_val (gb_isxT "ValueError" (c := 3) fx.xi_3 fx.xk_3_ValueError fx.free_isinstance fx.free_ValueError hz hf (gb_var 2))) (gw_and1 (gt_not (gt_val (gb_isxC (c := 3) fx.xi_3 fx.xk_3_9 fx.free_isinstance fx.gc_9 hz hf (gb_var 2))))))) gb_str gb_str) ga_nil))))) (gh_cons (O1 := [.fz, .fz, .na]) fx.noexc ⟨rfl, by decide, .inl fx.gc_0⟩ fx.ts_0 (fun a oe cls d pn hz hf => (gss_one (gs_ret (gn_lst (ga_cons gb_str ga_nil))))) gh_nil))))
/-! _law_due -/
theorem sc__law_due : FnScope ["arrows", "row", "one", "two", "first", "second", "state", "ask"] ["arrows", "row", "one", "two"] (defScope st__law_due) := ⟨rfl, rfl, rfl, by decide +kernel, rfl, by decide +kernel, by decide +kernel⟩
theorem c__law_due (fx : Fx K mg G) : Cal P w K mg base "_law_due" 2 (spP K G 4 .fz m__law_due) := by
  obtain ⟨f, fd, F, gl⟩ := fx.d__law_due
  refine ⟨f, fd, ["arrows", "row", "one", "two"], okP (O1 := [.fz, .fz, .fz, .fz, .fz, .fz, .fz, .na]) F sc__law_due rfl (by decide) (by decide) fun cdv A outer s H E hr => ?_, gl, F.kp, F.bindsN fun _ _ _ _ _ _ us hl => match us, hl with | [_, _, _, _], _ => rfl⟩
  exact (gss_cons (gs_set 4 (gn_fz (gb_new (gn_call (c__law_walked fx) hr (takes_of rfl rfl rfl rfl) (ga_cons (gb_var 2) (ga_cons (gb_var 1) ga_nil))))) sc__law_due.nd) (gss_cons (gs_if (O' := [.fz, .fz, .fz, .fz, .fz, .na, .na, .na]) (gt_isnot (gb_ix (gb_var 4) gb_int) gb_non) (gss_one (gs_ret (gn_lst (ga_cons gb_str (ga_cons (gb_ix (gb_var 4) gb_int) (ga_cons (gb_ix (gb_var 4) gb_int) ga_nil)))))) gss_nil) (gss_cons (gs_set 5 (gn_fz (gb_new (gn_call (c__law_walked fx) hr (takes_of rfl rfl rfl rfl) (ga_cons (gb_var 3) (ga_cons (gb_var 1) ga_nil))))) sc__law_due.nd) (gss_cons (gs_if (O' := [.fz, .fz, .fz, .fz, .fz, .fz, .na, .na]) (gt_isnot (gb_ix (gb_var 5) gb_int) gb_non) (gss_one (gs_ret (gn_lst (ga_cons gb_str (ga_cons (gb_ix (gb_var 5) gb_int) (ga_cons (gb_ix (gb_var 5) gb_int) ga_nil)))))) gss_nil) (gss_cons (gs_set 6 (gn_fz gb_int) sc__law_due.nd) (gss_cons (gs_for (passes_of rfl) rfl (gi_seq (gb_var 1)) (gg_name 7 sc__law_due.nd) (gss_cons (gs_set 6 (gn_fz (gb_ix (gb_ix (gb_var 0) (gb_var 6)) (gb_var 7))) sc__law_due.nd) (gss_nil (O := [.fz, .fz, .fz, .fz, .fz, .fz, .fz, .fz]) (O' := [.fz, .fz, .fz, .fz, .fz, .fz, .fz, .na])))) (gss_one (gs_ret (gn_lst (ga_cons gb_str (ga_cons (gb_new (gn_call (c__law_next fx) hr (takes_of rfl rfl rfl rfl) (ga_cons (gb_var 0) (ga_cons (gb_var 6) (ga_cons (gb_var 2) (ga_cons (gb_ix (gb_var 4) gb_int) (ga_cons (gb_var 3) (ga_cons (gb_ix (gb_var 5) gb_int) ga_nil)))))))) ga_nil)))))))))))
/-! _law_checked -/
theorem sc__law_checked : FnScope ["run", "arrows", "begin", "row", "way", "rules", "made", "pairs", "fit", "k", "pair", "due", "told"] ["run", "arrows", "begin", "row", "way", "rules", "made", "pairs"] (defScope st__law_checked) := ⟨rfl, rfl, rfl, by decide +kernel, rfl, by decide +kernel, by decide +kernel⟩
theorem c__law_checked (fx : Fx K mg G) : Cal P w K mg base "_law_checked" 8 (spP K G 8 .fz m__law_checked) := by
  obtain ⟨f, fd, F, gl⟩ := fx.d__law_checked
  refine ⟨f, fd, ["run", "arrows", "begin", "row", "way", "rules", "made", "pairs"], okP (O1 := [.fz, .fz, .fz, .fz, .fz, .fz, .fz, .fz, (.own .fz), .na, .na, .na, .na]) F sc__law_checked rfl (by decide) (by decide) fun cdv A outer s H E hr => ?_, gl, F.kp, F.bindsN fun _ _ _ _ _ _ us hl => match us, hl with | [_, _, _, _, _, _, _, _], _ => rfl⟩
  exact (gss_cons (gs_setCompX 8 (takes_of rfl rfl rfl rfl) rfl sc__law_checked.nd (gi_range1 fx.free_range (gb_len fx.free_len (gb_var 5))) (blkOk_by (own := [("k", 9)]) (by rfl)) (fun _ _ _ _ _ _ => (gp_name 9 sc__law_checked.nd)) (fun _ _ _ _ _ _ _ tk' => (gtw_one (gt_val (gb_new (gn_call (c__law_fits fx) hr tk' (ga_cons (gb_ix (gb_var 5) (gb_var 9)) (ga_cons (gb_var 2) (ga_cons (gb_var 3) (ga_cons (gb_var 4) ga_nil))))))))) (fun _ _ _ _ _ _ _ tk' => (gn_fz (gb_var 9))) (sw_true rfl rfl rfl rfl)) (gss_cons (gs_for (passes_of rfl) rfl (gi_range1 fx.free_range (gb_len fx.free_len (gb_var 5))) (gg_name 9 sc__law_checked.nd) (gss_cons (gs_if (O' := [.fz, .fz, .fz, .fz, .fz, .fz, .fz, .fz, (.own .fz), .fz, .na, .na, .na]) (gt_not (gt_val (gb_new (gn_call (c__law_alike_ fx 5) hr (takes_of rfl rfl rfl rfl) (ga_cons (gb_new (gn_meth (c_Seen_fits fx) hr (takes_of rfl rfl rfl rfl) (gb_var 0) (ga_cons (gb_ix (gb_var 6) (gb_var 9)) ga_nil))) (ga_cons (gb_in (gb_var 9) (gb_var 8)) ga_nil)))))) (gss_one (gs_ret (gn_fz gb_bl))) gss_nil) (gss_nil (O := [.fz, .fz, .fz, .fz, .fz, .fz, .fz, .fz, (.own .fz), .fz, .na, .na, .na]) (O' := [.fz, .fz, .fz, .fz, .fz, .fz, .fz, .fz, (.own .fz), .na, .na, .na, .na])))) (gss_cons (gs_if (O' := [.fz, .fz, .fz, .fz, .fz, .fz, .fz, .fz, (.own .fz), .na, .na, .na, .na]) (gt_not (gt_lend (gt_val (gb_new (gn_call (c__law_alike_ fx 5) hr (takes_of rfl rfl rfl rfl) (ga_cons (gb_new (gn_call (c__law_fitted fx) hr (takes_of rfl rfl rfl rfl) (ga_cons (gb_var 0) (ga_cons (gb_new (gn_list fx.free_list (gb_var 6))) ga_nil)))) (ga_cons (gb_new (gn_lst (ga_cons gb_str (ga_cons (gb_var 8) ga_nil)))) ga_nil))))))) (gss_one (gs_ret (gn_fz gb_bl))) gss_nil) (gss_cons (gs_for (passes_of rfl) rfl (gi_seq (gb_var 7)) (gg_name 10 sc__law_checked.nd) (gss_cons (gs_set 11 (gn_fz (gb_new (gn_call (c__law_due fx) hr (takes_of rfl rfl rfl rfl) (ga_cons (gb_var 1) (ga_cons (gb_var 3) (ga_cons (gb_ix (gb_var 5) (gb_ix (gb_var 10) gb_int)) (ga_cons (gb_ix (gb_var 5) (gb_ix (gb_var 10) gb_int)) ga_nil))))))) sc__law_checked.nd) (gss_cons (gs_set 12 (gn_call (c__law_asked fx) hr (takes_of rfl rfl rfl rfl) (ga_cons (gb_var 0) (ga_cons (gb_ix (gb_var 6) (gb_ix (gb_var 10) gb_int)) (ga_cons (gb_ix (gb_var 6) (gb_ix (gb_var 10) gb_int)) ga_nil)))) sc__law_checked.nd) (gss_cons (gs_if (O' := [.fz, .fz, .fz, .fz, .fz, .fz, .fz, .fz, (.own .fz), .na, .fz, .fz, (.own (.own .fz))]) (gt_not (gt_val (gb_callS (c__law_alike_ fx 5) hr (takes_of rfl rfl rfl rfl) (ga_cons (gb_var 12) (ga_cons (gb_var 11) ga_nil))))) (gss_one (gs_ret (gn_fz gb_bl))) gss_nil) (gss_cons (gs_if (O' := [.fz, .fz, .fz, .fz, .fz, .fz, .fz, .fz, (.own .fz), .na, .fz, .fz, (.own (.own .fz))]) (gt_w (gw_and (gt_eq (gb_ix (gb_var 11) gb_int) gb_str) (gw_and1 (gt_isnot (gb_ix (gb_var 11) gb_int) gb_non)))) (gss_cons (gs_append2 12 gb_int gb_int) (gss_cons (gs_if (O' := [.fz, .fz, .fz, .fz, .fz, .fz, .fz, .fz, (.own .fz), .na, .fz, .fz, (.own (.own .fz))]) (gt_not (gt_val (gb_new (gn_call (c__law_alike_ fx 5) hr (takes_of rfl rfl rfl rfl) (ga_cons (gb_new (gn_call (c__law_asked fx) hr (takes_of rfl rfl rfl rfl) (ga_cons (gb_var 0) (ga_cons (gb_ix (gb_var 6) (gb_ix (gb_var 10) gb_int)) (ga_cons (gb_ix (gb_var 6) (gb_ix (gb_var 10) gb_int)) ga_nil))))) (ga_cons (gb_var 11) ga_nil)))))) (gss_one (gs_ret (gn_fz gb_bl))) gss_nil) gss_nil)) gss_nil) (gss_nil (O := [.fz, .fz, .fz, .fz, .fz, .fz, .fz, .fz, (.own .fz), .na, .fz, .fz, (.own (.own .fz))]) (O' := [.fz, .fz, .fz, .fz, .fz, .fz, .fz, .fz, (.own .fz), .na, .na, .na, .na]))))))) (gss_one (gs_ret (gn_fz (gb_and (gb_new (gn_call (c__law_alike_ fx 5) hr (takes_of rfl rfl rfl rfl) (ga_cons (gb_fld (gb_var 0) (fld_14_1 fx)) (ga_cons (gb_tuple fx.free_tuple (gb_var 3)) ga_nil)))) (gb_one (gb_new (gn_call (c__law_alike_ fx 5) hr (takes_of rfl rfl rfl rfl) (ga_cons (gb_fld (gb_var 0) (fld_14_2 fx)) (ga_cons (gb_tuple fx.free_tuple (gb_var 4)) ga_nil)))))))))))))
/-! _law_parted -/
theorem sc__law_parted : FnScope ["run", "asks", "arrows", "begin", "row", "way", "rules", "made", "pairs", "state", "ask", "let", "r", "other", "goals", "p"] ["run", "asks", "arrows", "begin", "row", "way", "rules", "made", "pairs"] (defScope st__law_parted) := ⟨rfl, rfl, rfl, by decide +kernel, rfl, by decide +kernel, by decide +kernel⟩
theorem c__law_parted (fx : Fx K mg G) : Cal P w K mg base "_law_parted" 9 (spP K G 9 .fz m__law_parted) := by
  obtain ⟨f, fd, F, gl⟩ := fx.d__law_parted
  refine ⟨f, fd, ["run", "asks", "arrows", "begin", "row", "way", "rules", "made", "pairs"], okP (O1 := [.fz, .fz, .fz, .fz, .fz, .fz, .fz, .fz, .fz, .fz, .na, (.own .fz), .na, (.own .fz), .na, .na]) F sc__law_parted rfl (by decide) (by decide) fun cdv A outer s H E hr => ?_, gl, F.kp, F.bindsN fun _ _ _ _ _ _ us hl => match us, hl with | [_, _, _, _, _, _, _, _, _], _ => rfl⟩
  exact (gss_cons (gs_set 9 (gn_fz gb_int) sc__law_parted.nd) (gss_cons (gs_for (passes_of rfl) rfl (gi_seq (gb_var 4)) (gg_name 10 sc__law_parted.nd) (gss_cons (gs_set 9 (gn_fz (gb_ix (gb_ix (gb_var 2) (gb_var 9)) (gb_var 10))) sc__law_parted.nd) (gss_nil (O := [.fz, .fz, .fz, .fz, .fz, .fz, .fz, .fz, .fz, .fz, .fz, .na, .na, .na, .na, .na]) (O' := [.fz, .fz, .fz, .fz, .fz, .fz, .fz, .fz, .fz, .fz, .na, .na, .na, .na, .na, .na])))) (gss_cons (gs_set 11 (gn_compX (takes_of rfl rfl rfl rfl) rfl sc__law_parted.nd (gi_range1 fx.free_range (gb_len fx.free_len (gb_var 1))) (blkOk_by (own := [("r", 12)]) (by rfl)) (fun _ _ _ _ _ _ => (gp_name 12 sc__law_parted.nd)) (fun _ _ _ _ _ _ _ tk' => (gtw_one (gt_isnot (gb_ix (gb_ix (gb_var 2) (gb_var 9)) (gb_var 12)) gb_non))) (fun _ _ _ _ _ _ _ tk' => (gn_fz (gb_var 12)))) sc__law_parted.nd) (gss_cons (gs_set 13 (gn_methT0 (oo := .fz) (c_Seen_twin fx) hr (takes_of rfl rfl rfl rfl) (gb_var 0) ) sc__law_parted.nd) (gss_cons (gs_if (O' := [.fz, .fz, .fz, .fz, .fz, .fz, .fz, .fz, .fz, .fz, .na, (.own .fz), .na, (.own .fz), .na, .na]) (gt_gt (gb_len fx.free_len (gb_var 11)) gb_int) (gss_cons (gs_setCompX 14 (takes_of rfl rfl rfl rfl) rfl sc__law_parted.nd (gi_range1 fx.free_range (gb_len fx.free_len (gb_ix (gb_var 1) (gb_ix (gb_var 11) (gb_neg gb_int))))) (blkOk_by (own := [("p", 15)]) (by rfl)) (fun _ _ _ _ _ _ => (gp_name 15 sc__law_parted.nd)) (fun _ _ _ _ _ _ _ tk' => (gtw_one (gt_isnot (gb_ix (gb_ix (gb_var 1) (gb_ix (gb_var 11) (gb_neg gb_int))) (gb_var 15)) gb_non))) (fun _ _ _ _ _ _ _ tk' => (gn_fz (gb_var 15))) (sw_true rfl rfl rfl rfl)) (gss_cons (gs_exprM (gm_meth 13 (c_Seen_note fx) hr (takes_of rfl rfl rfl rfl) (ga_cons (gb_ix (gb_var 11) (gb_neg gb_int)) (ga_cons (gb_ix (gb_var 14) (gb_neg gb_int)) ga_nil)))) (gss_cons (gs_if (O' := [.fz, .fz, .fz, .fz, .fz, .fz, .fz, .fz, .fz, .fz, .na, (.own .fz), .na, (.own .fz), (.own .fz), .na]) (gt_not (gt_val (gb_callS (c__law_checked fx) hr (takes_of rfl rfl rfl rfl) (ga_cons (gb_var 13) (ga_cons (gb_var 2) (ga_cons (gb_var 3) (ga_cons (gb_add (gb_var 4) (gb_new (gn_lst (ga_cons (gb_ix (gb_var 11) (gb_neg gb_int)) ga_nil)))) (ga_cons (gb_add (gb_var 5) (gb_new (gn_lst (ga_cons (gb_ix (gb_var 14) (gb_neg gb_int)) ga_nil)))) (ga_cons (gb_var 6) (ga_cons (gb_var 7) (ga_cons (gb_var 8) ga_nil))))))))))) (gss_one (gs_ret (gn_fz gb_bl))) gss_nil) (gss_nil (O := [.fz, .fz, .fz, .fz, .fz, .fz, .fz, .fz, .fz, .fz, .na, (.own .fz), .na, (.own .fz), (.own .fz), .na]) (O' := [.fz, .fz, .fz, .fz, .fz, .fz, .fz, .fz, .fz, .fz, .na, (.own .fz), .na, (.own .fz), .na, .na]))))) gss_nil) (gss_one (gs_ret (gn_fz (gb_new (gn_call (c__law_checked fx) hr (takes_of rfl rfl rfl rfl) (ga_cons (gb_var 0) (ga_cons (gb_var 2) (ga_cons (gb_var 3) (ga_cons (gb_var 4) (ga_cons (gb_var 5) (ga_cons (gb_var 6) (ga_cons (gb_var 7) (ga_cons (gb_var 8) ga_nil))))))))))))))))))
/-! law -/
theorem sc_law : FnScope ["script", "shape", "size", "kinds", "begin", "moves", "asks", "arrows", "world", "line", "row", "picks", "way", "k", "goals", "p", "rules", "made", "rule", "drawn", "pairs", "half", "run", "odd", "pair"] ["script"] (defScope st_law) := ⟨rfl, rfl, rfl, by decide +kernel, rfl, by decide +kernel, by decide +kernel⟩
theorem c_law (fx : Fx K mg G) : ∀ {f : Addr} {fd : FuncData}, FunD K "law" "law" (defArgs st_law) (defBody st_law) (defScope st_law) [] [] f fd → FnOk P w K mg base (L2.CX P w) 10 f fd ["script"] (spP K G 1 .fz m_law) := by
  intro f fd F
  refine okP (O1 := [.fz, .fz, .fz, .fz, .fz, .fz, .fz, .fz, .fz, .na, .fz, .fz, .fz, .na, .na, .na, .fz, .fz, .na, .fz, .fz, .fz, (.own .fz), .fz, .na]) F sc_law rfl (by decide) (by decide) fun cdv A outer s H E hr => ?_
  exact (gss_cons (gs_set 1 (gn_fz (gb_new (gn_call (c__law_numbers fx) hr (takes_of rfl rfl rfl rfl) (ga_cons (gb_new (gn_call (c__law_cell fx) hr (takes_of rfl rfl rfl rfl) (ga_cons (gb_var 0) (ga_cons gb_int ga_nil)))) (ga_cons gb_int ga_nil))))) sc_law.nd) (gss_cons (gs_set 2 (gn_fz (gb_add gb_int (gb_mod (gb_int1 fx.free_int (gb_ix (gb_var 1) gb_int)) gb_int))) sc_law.nd) (gss_cons (gs_set 3 (gn_fz (gb_add gb_int (gb_mod (gb_int1 fx.free_int (gb_ix (gb_var 1) gb_int)) gb_int))) sc_law.nd) (gss_cons (gs_set 4 (gn_fz (gb_mod (gb_int1 fx.free_int (gb_ix (gb_var 1) gb_int)) (gb_var 2))) sc_law.nd) (gss_cons (gs_set 5 (gn_fz (gb_new (gn_call (c__law_moves fx) hr (takes_of rfl rfl rfl rfl) (ga_cons (gb_new (gn_call (c__law_numbers fx) hr (takes_of rfl rfl rfl rfl) (ga_cons (gb_new (gn_call (c__law_cell fx) hr (takes_of rfl rfl rfl rfl) (ga_cons (gb_var 0) (ga_cons gb_int ga_nil)))) (ga_cons gb_int ga_nil)))) (ga_cons (gb_var 2) (ga_cons gb_int ga_nil)))))) sc_law.nd) (gss_cons (gs_set 6 (gn_fz (gb_new (gn_call (c__law_asks fx) hr (takes_of rfl rfl rfl rfl) (ga_cons (gb_new (gn_call (c__law_numbers fx) hr (takes_of rfl rfl rfl rfl) (ga_cons (gb_new (gn_call (c__law_cell fx) hr (takes_of rfl rfl rfl rfl) (ga_cons (gb_var 0) (ga_cons gb_int ga_nil)))) (ga_cons gb_int ga_nil)))) (ga_cons (gb_var 3) (ga_cons (gb_var 2) (ga_cons gb_int ga_nil))))))) sc_law.nd) (gss_cons (gs_set 7 (gn_fz (gb_new (gn_call (c__law_arrows fx) hr (takes_of rfl rfl rfl rfl) (ga_cons (gb_new (gn_call (c__law_numbers fx) hr (takes_of rfl rfl rfl rfl) (ga_cons (gb_new (gn_call (c__law_cell fx) hr (takes_of rfl rfl rfl rfl) (ga_cons (gb_var 0) (ga_cons gb_int ga_nil)))) (ga_cons gb_int ga_nil)))) (ga_cons (gb_add gb_int (gb_mod (gb_int1 fx.free_int (gb_ix (gb_var 1) gb_int)) gb_int)) (ga_cons (gb_var 3) ga_nil)))))) sc_law.nd) (gss_cons (gs_set 8 (gn_make (c_World_init fx) hr (takes_of rfl rfl rfl rfl) (ga_cons (gb_new (gn_make (c_System_init fx) hr (takes_of rfl rfl rfl rfl) (ga_cons (gb_new (gn_compX (takes_of rfl rfl rfl rfl) rfl sc_law.nd (gi_seq (gb_var 5)) (blkOk_by (own := [("line", 9)]) (by rfl)) (fun _ _ _ _ _ _ => (gp_name 9 sc_law.nd)) (fun _ _ _ _ _ _ _ tk' => gtw_nil) (fun _ _ _ _ _ _ _ tk' => (gn_fz (gb_new (gn_list fx.free_list (gb_var 9))))))) (ga_cons (gb_new (gn_compX (takes_of rfl rfl rfl rfl) rfl sc_law.nd (gi_seq (gb_var 6)) (blkOk_by (own := [("line", 9)]) (by rfl)) (fun _ _ _ _ _ _ => (gp_name 9 sc_law.nd)) (fun _ _ _ _ _ _ _ tk' => gtw_nil) (fun _ _ _ _ _ _ _ tk' => (gn_fz (gb_new (gn_list fx.free_list (gb_var 9))))))) ga_nil)))) (ga_cons (gb_new (gn_make (c_Machine_init fx) hr (takes_of rfl rfl rfl rfl) (ga_cons (gb_new (gn_compX (takes_of rfl rfl rfl rfl) rfl sc_law.nd (gi_seq (gb_var 7)) (blkOk_by (own := [("line", 9)]) (by rfl)) (fun _ _ _ _ _ _ => (gp_name 9 sc_law.nd)) (fun _ _ _ _ _ _ _ tk' => gtw_nil) (fun _ _ _ _ _ _ _ tk' => (gn_fz (gb_new (gn_list fx.free_list (gb_var 9))))))) ga_nil))) (ga_cons (gb_var 4) ga_nil)))) sc_law.nd) (gss_cons (gs_set 10 (gn_fz (gb_new (gn_call (c__law_row fx) hr (takes_of rfl rfl rfl rfl) (ga_cons (gb_var 7) (ga_cons (gb_new (gn_call (c__law_numbers fx) hr (takes_of rfl rfl rfl rfl) (ga_cons (gb_new (gn_call (c__law_cell fx) hr (takes_of rfl rfl rfl rfl) (ga_cons (gb_var 0) (ga_cons gb_int ga_nil)))) (ga_cons (gb_mod (gb_int1 fx.free_int (gb_ix (gb_var 1) gb_int)) gb_int) ga_nil)))) ga_nil))))) sc_law.nd) (gss_cons (gs_set 11 (gn_fz (gb_new (gn_call (c__law_numbers fx) hr (takes_of rfl rfl rfl rfl) (ga_cons (gb_new (gn_call (c__law_cell fx) hr (takes_of rfl rfl rfl rfl) (ga_cons (gb_var 0) (ga_cons gb_int ga_nil)))) (ga_cons gb_int ga_nil))))) sc_law.nd) (gss_cons (gs_set 12 (gn_lst ga_nil) sc_law.nd) (gss_cons (gs_for (passes_of rfl) rfl (gi_range1 fx.free_range (gb_len fx.free_len (gb_var 10))) (gg_name 13 sc_law.nd) (gss_cons (gs_setCompX 14 (takes_of rfl rfl rfl rfl) rfl sc_law.nd (gi_range1 fx.free_range (gb_var 2)) (blkOk_by (own := [("p", 15)]) (by rfl)) (fun _ _ _ _ _ _ => (gp_name 15 sc_law.nd)) (fun _ _ _ _ _ _ _ tk' => (gtw_one (gt_isnot (gb_ix (gb_ix (gb_var 6) (gb_ix (gb_var 10) (gb_var 13))) (gb_var 15)) gb_non))) (fun _ _ _ _ _ _ _ tk' => (gn_fz (gb_var 15))) (sw_true rfl rfl rfl rfl)) (gss_cons (gs_append 12 (gn_fz (gb_ix (gb_var 14) (gb_mod (gb_int1 fx.free_int (gb_ix (gb_var 11) (gb_var 13))) (gb_len fx.free_len (gb_var 14)))))) (gss_nil (O := [.fz, .fz, .fz, .fz, .fz, .fz, .fz, .fz, (.own .fz), .na, .fz, .fz, (.own .fz), .fz, (.own .fz), .na, .na, .na, .na, .na, .na, .na, .na, .na, .na]) (O' := [.fz, .fz, .fz, .fz, .fz, .fz, .fz, .fz, (.own .fz), .na, .fz, .fz, (.own .fz), .na, .na, .na, .na, .na, .na, .na, .na, .na, .na, .na, .na]))))) (gss_weak (O1 := [.fz, .fz, .fz, .fz, .fz, .fz, .fz, .fz, (.own .fz), .na, .fz, .fz, .fz, .na, .na, .na, .na, .na, .na, .na, .na, .na, .na, .na, .na]) (by rfl) (gss_cons (gs_set 16 (gn_fz (gb_new (gn_call (c__law_rules fx) hr (takes_of rfl rfl rfl rfl) (ga_cons (gb_new (gn_call (c__law_numbers fx) hr (takes_of rfl rfl rfl rfl) (ga_cons (gb_new (gn_call (c__law_cell fx) hr (takes_of rfl rfl rfl rfl) (ga_cons (gb_var 0) (ga_cons gb_int ga_nil)))) (ga_cons gb_int ga_nil)))) (ga_cons (gb_var 10) (ga_cons (gb_var 12) (ga_cons (gb_var 3) (ga_cons (gb_var 2) (ga_cons (gb_var 4) (ga_cons (gb_add gb_int (gb_mod (gb_int1 fx.free_int (gb_ix (gb_var 1) gb_int)) gb_int)) ga_nil)))))))))) sc_law.nd) (gss_cons (gs_setCompX 17 (takes_of rfl rfl rfl rfl) rfl sc_law.nd (gi_seq (gb_var 16)) (blkOk_by (own := [("rule", 18)]) (by rfl)) (fun _ _ _ _ _ _ => (gp_name 18 sc_law.nd)) (fun _ _ _ _ _ _ _ tk' => gtw_nil) (fun _ _ _ _ _ _ _ tk' => (gn_fz (gb_new (gn_make (c_Rule_init fx) hr tk' (ga_cons (gb_new (gn_list fx.free_list (gb_ix (gb_var 18) gb_int))) (ga_cons (gb_new (gn_comp rfl sc_law.nd (gi_seq (gb_ix (gb_var 18) gb_int)) (blkOk_by (own := [("line", 9)]) (by rfl)) (fun _ _ _ _ _ => (gp_name 9 sc_law.nd)) (fun _ _ _ _ _ => gts_nil) (fun _ _ _ _ _ => (gn_fz (gb_new (gn_list fx.free_list (gb_var 9))))))) ga_nil)))))) (sw_true rfl rfl rfl rfl)) (gss_cons (gs_set 19 (gn_fz (gb_new (gn_call (c__law_numbers fx) hr (takes_of rfl rfl rfl rfl) (ga_cons (gb_new (gn_call (c__law_cell fx) hr (takes_of rfl rfl rfl rfl) (ga_cons (gb_var 0) (ga_cons gb_int ga_nil)))) (ga_cons gb_int ga_nil))))) sc_law.nd) (gss_cons (gs_set 20 (gn_fz (gb_add (gb_new (gn_lst (ga_cons (gb_new (gn_lst (ga_cons gb_int (ga_cons gb_int ga_nil)))) (ga_cons (gb_new (gn_lst (ga_cons gb_int (ga_cons gb_int ga_nil)))) ga_nil)))) (gb_new (gn_compX (takes_of rfl rfl rfl rfl) rfl sc_law.nd (gi_range1 fx.free_range gb_int) (blkOk_by (own := [("k", 13)]) (by rfl)) (fun _ _ _ _ _ _ => (gp_name 13 sc_law.nd)) (fun _ _ _ _ _ _ _ tk' => gtw_nil) (fun _ _ _ _ _ _ _ tk' => (gn_fz (gb_new (gn_lst (ga_cons (gb_mod (gb_int1 fx.free_int (gb_ix (gb_var 19) (gb_var 13))) gb_int) (ga_cons (gb_mod (gb_fdiv (gb_int1 fx.free_int (gb_ix (gb_var 19) (gb_var 13))) gb_int) gb_int) ga_nil)))))))))) sc_law.nd) (gss_cons (gs_set 21 (gn_fz (gb_mod (gb_int1 fx.free_int (gb_ix (gb_var 1) gb_int)) (gb_add (gb_len fx.free_len (gb_var 10)) gb_int))) sc_law.nd) (gss_weak (O1 := [.fz, .fz, .fz, .fz, .fz, .fz, .fz, .fz, .fz, .na, .fz, .fz, .fz, .na, .na, .na, .fz, (.own .fz), .na, .fz, .fz, .fz, .na, .na, .na]) (by rfl) (gss_cons (gs_set 22 (gn_make (c_Seen_init fx) hr (takes_of rfl rfl rfl rfl) (ga_cons (gb_var 8) ga_nil)) sc_law.nd) (gss_cons (gs_for (passes_of rfl) rfl (gi_range1 fx.free_range (gb_var 21)) (gg_name 13 sc_law.nd) (gss_cons (gs_ifM (O' := [.fz, .fz, .fz, .fz, .fz, .fz, .fz, .fz, .fz, .na, .fz, .fz, .fz, .fz, .na, .na, .fz, (.own .fz), .na, .fz, .fz, .fz, (.own .fz), .na, .na]) (gm_meth 22 (c_Seen_note fx) hr (takes_of rfl rfl rfl rfl) (ga_cons (gb_ix (gb_var 10) (gb_var 13)) (ga_cons (gb_ix (gb_var 12) (gb_var 13)) ga_nil))) (gss_one (gs_ret (gn_fz gb_bl))) gss_nil) (gss_nil (O := [.fz, .fz, .fz, .fz, .fz, .fz, .fz, .fz, .fz, .na, .fz, .fz, .fz, .fz, .na, .na, .fz, (.own .fz), .na, .fz, .fz, .fz, (.own .fz), .na, .na]) (O' := [.fz, .fz, .fz, .fz, .fz, .fz, .fz, .fz, .fz, .na, .fz, .fz, .fz, .na, .na, .na, .fz, (.own .fz), .na, .fz, .fz, .fz, (.own .fz), .na, .na])))) (gss_cons (gs_if (O' := [.fz, .fz, .fz, .fz, .fz, .fz, .fz, .fz, .fz, .na, .fz, .fz, .fz, .na, .na, .na, .fz, (.own .fz), .na, .fz, .fz, .fz, (.own .fz), .na, .na]) (gt_not (gt_val (gb_callS (c__law_checked fx) hr (takes_of rfl rfl rfl rfl) (ga_cons (gb_var 22) (ga_cons (gb_var 7) (ga_cons (gb_var 4) (ga_cons (gb_slice (gb_var 10) go_none (go_some (gb_var 21))) (ga_cons (gb_slice (gb_var 12) go_none (go_some (gb_var 21))) (ga_cons (gb_var 16) (ga_cons (gb_var 17) (ga_cons (gb_var 20) ga_nil))))))))))) (gss_one (gs_ret (gn_fz gb_bl))) gss_nil) (gss_cons (gs_for (passes_of rfl) rfl (gi_range2 fx.free_range (gb_var 21) (gb_len fx.free_len (gb_var 10))) (gg_name 13 sc_law.nd) (gss_cons (gs_exprM (gm_meth 22 (c_Seen_note fx) hr (takes_of rfl rfl rfl rfl) (ga_cons (gb_ix (gb_var 10) (gb_var 13)) (ga_cons (gb_ix (gb_var 12) (gb_var 13)) ga_nil)))) (gss_nil (O := [.fz, .fz, .fz, .fz, .fz, .fz, .fz, .fz, .fz, .na, .fz, .fz, .fz, .fz, .na, .na, .fz, (.own .fz), .na, .fz, .fz, .fz, (.own .fz), .na, .na]) (O' := [.fz, .fz, .fz, .fz, .fz, .fz, .fz, .fz, .fz, .na, .fz, .fz, .fz, .na, .na, .na, .fz, (.own .fz), .na, .fz, .fz, .fz, (.own .fz), .na, .na])))) (gss_cons (gs_if (O' := [.fz, .fz, .fz, .fz, .fz, .fz, .fz, .fz, .fz, .na, .fz, .fz, .fz, .na, .na, .na, .fz, (.own .fz), .na, .fz, .fz, .fz, (.own .fz), .na, .na]) (gt_not (gt_val (gb_callS (c__law_checked fx) hr (takes_of rfl rfl rfl rfl) (ga_cons (gb_var 22) (ga_cons (gb_var 7) (ga_cons (gb_var 4) (ga_cons (gb_var 10) (ga_cons (gb_var 12) (ga_cons (gb_var 16) (ga_cons (gb_var 17) (ga_cons (gb_var 20) ga_nil))))))))))) (gss_one (gs_ret (gn_fz gb_bl))) gss_nil) (gss_cons (gs_set 23 (gn_make (c_Rule_init fx) hr (takes_of rfl rfl rfl rfl) (ga_cons (gb_new (gn_lst (ga_cons (gb_var 4) ga_nil))) (ga_cons (gb_new (gn_lst (ga_cons (gb_mul (gb_new (gn_lst (ga_cons gb_int ga_nil))) (gb_add (gb_var 3) gb_int)) ga_nil))) ga_nil))) sc_law.nd) (gss_weak (O1 := [.fz, .fz, .fz, .fz, .fz, .fz, .fz, .fz, .fz, .na, .fz, .fz, .fz, .na, .na, .na, .fz, .fz, .na, .fz, .fz, .fz, (.own .fz), .fz, .na]) (by rfl) (gss_cons (gs_for (passes_of rfl) rfl (gi_seq (gb_new (gn_lst (ga_cons (gb_new (gn_lst (ga_cons (gb_var 23) (ga_cons (gb_ix (gb_var 17) gb_int) ga_nil)))) (ga_cons (gb_new (gn_lst (ga_cons (gb_ix (gb_var 17) gb_int) (ga_cons (gb_var 23) ga_nil)))) (ga_cons (gb_new (gn_lst (ga_cons (gb_var 23) (ga_cons (gb_var 23) ga_nil)))) ga_nil)))))) (gg_name 24 sc_law.nd) (gss_cons (gs_if (O' := [.fz, .fz, .fz, .fz, .fz, .fz, .fz, .fz, .fz, .na, .fz, .fz, .fz, .na, .na, .na, .fz, .fz, .na, .fz, .fz, .fz, (.own .fz), .fz, .fz]) (gt_not (gt_lend (gt_val (gb_new (gn_call (c__law_alike_ fx 5) hr (takes_of rfl rfl rfl rfl) (ga_cons (gb_new (gn_call (c__law_asked fx) hr (takes_of rfl rfl rfl rfl) (ga_cons (gb_var 22) (ga_cons (gb_ix (gb_var 24) gb_int) (ga_cons (gb_ix (gb_var 24) gb_int) ga_nil))))) (ga_cons (gb_new (gn_lst (ga_cons gb_str ga_nil))) ga_nil))))))) (gss_one (gs_ret (gn_fz gb_bl))) gss_nil) (gss_nil (O := [.fz, .fz, .fz, .fz, .fz, .fz, .fz, .fz, .fz, .na, .fz, .fz, .fz, .na, .na, .na, .fz, .fz, .na, .fz, .fz, .fz, (.own .fz), .fz, .fz]) (O' := [.fz, .fz, .fz, .fz, .fz, .fz, .fz, .fz, .fz, .na, .fz, .fz, .fz, .na, .na, .na, .fz, .fz, .na, .fz, .fz, .fz, (.own .fz), .fz, .na])))) (gss_cons (gs_if (O' := [.fz, .fz, .fz, .fz, .fz, .fz, .fz, .fz, .fz, .na, .fz, .fz, .fz, .na, .na, .na, .fz, .fz, .na, .fz, .fz, .fz, (.own .fz), .fz, .na]) (gt_w (gw_or (gt_not (gt_lend (gt_val (gb_new (gn_call (c__law_alike_ fx 5) hr (takes_of rfl rfl rfl rfl) (ga_cons (gb_new (gn_call (c__law_fitted fx) hr (takes_of rfl rfl rfl rfl) (ga_cons (gb_var 22) (ga_cons (gb_add (gb_new (gn_list fx.free_list (gb_var 17))) (gb_new (gn_lst (ga_cons (gb_var 23) ga_nil)))) ga_nil)))) (ga_cons (gb_new (gn_lst (ga_cons gb_str ga_nil))) ga_nil))))))) (gw_or1 (gt_not (gt_lend (gt_val (gb_new (gn_call (c__law_alike_ fx 5) hr (takes_of rfl rfl rfl rfl) (ga_cons (gb_new (gn_call (c__law_fitted fx) hr (takes_of rfl rfl rfl rfl) (ga_cons (gb_var 22) (ga_cons (gb_new (gn_lst ga_nil)) ga_nil)))) (ga_cons (gb_new (gn_lst (ga_cons gb_str (ga_cons (gb_new (gn_lst ga_nil)) ga_nil)))) ga_nil)))))))))) (gss_one (gs_ret (gn_fz gb_bl))) gss_nil) (gss_one (gs_ret (gn_fz (gb_callS (c__law_parted fx) hr (takes_of rfl rfl rfl rfl) (ga_cons (gb_var 22) (ga_cons (gb_var 6) (ga_cons (gb_var 7) (ga_cons (gb_var 4) (ga_cons (gb_var 10) (ga_cons (gb_var 12) (ga_cons (gb_var 16) (ga_cons (gb_var 17) (ga_cons (gb_var 20) ga_nil)))))))))))))))))))))))))))))))))))))))))
end
end K79
end

section
set_option Elab.async false
set_option linter.all false
set_option maxRecDepth 100000
set_option maxHeartbeats 0
/-! printed by gen.py: the head of k79 -/
namespace K79
open PySem PySem.Spec PyProof.Rows L2 NW

def cname : Nat → Str
  | 0 => "WorseError"
  | 1 => "BadSystem"
  | 2 => "BadMachine"
  | 3 => "Unlike"
  | 4 => "BadPlace"
  | 5 => "NotLet"
  | 6 => "NotServed"
  | 7 => "TooMany"
  | 8 => "BadRule"
  | 9 => "NotReady"
  | 10 => "System"
  | 11 => "Machine"
  | 12 => "Rule"
  | 13 => "World"
  | 14 => "Seen"
  | _ => ""
def fnames : Nat → List Str
  | 0 => []
  | 1 => ["what", "at"]
  | 2 => ["state"]
  | 3 => []
  | 4 => ["place"]
  | 5 => ["at"]
  | 6 => ["at"]
  | 7 => ["limit"]
  | 8 => ["memory"]
  | 9 => ["memory", "ask"]
  | 10 => ["moves", "asks"]
  | 11 => ["arrows"]
  | 12 => ["places", "table"]
  | 13 => ["system", "machine", "place"]
  | 14 => ["world", "row", "way", "pairs", "paid", "turns", "moments", "state", "table"]
  | _ => []
def gb (K : PySem.W.Frag) : Gb := { cls := fun c => He.ga K (cname c), names := fnames }
def fa0 : List NH.Fk := [.a (.free "len"), .a (.cls "System"), .a (.noat "System" "asks"), .prop "System" "kinds", .a (.noat "System" "moves"), .prop "System" "size", .a (.free "range"), .a (.meth "System" "serving"), .a (.cls "Machine"), .a (.noat "Machine" "arrows"), .prop "Machine" "kinds", .a (.meth "Machine" "after"), .a (.meth "Machine" "lets"), .a (.cls "Rule"), .a (.noat "Rule" "table"), .prop "Rule" "kinds", .a (.meth "Rule" "after"), .a (.free "list"), .a (.glo "first_table"), .a (.free "min"), .a (.glo "next_table"), .a (.cls "World"), .a (.noat "World" "system"), .a (.cls "Seen"), .a (.noat "Seen" "world"), .a (.glo "Unlike"), .a (.exc "Unlike"), .a (.glo "check_kinds"), .a (.int "COST" 99), .a (.glo "is_cost")]
def fa1 : List NH.Fk := [.a (.int "PLACES" 6), .a (.glo "check_moves"), .a (.int "KINDS" 8), .a (.glo "check_asks"), .a (.free "tuple"), .a (.glo "closed"), .a (.glo "System"), .a (.mkr "System"), .a (.int "STATES" 40), .a (.glo "check_arrows"), .a (.glo "Machine"), .a (.mkr "Machine"), .a (.glo "good_memory"), .cval "Rule" "MEMORIES" 400, .a (.glo "Rule"), .a (.glo "check_rule"), .a (.noat "Rule" "places"), .a (.mkr "Rule"), .a (.noat "World" "machine"), .a (.noat "World" "place"), .a (.glo "World"), .a (.mkr "World"), .a (.noat "Seen" "row"), .a (.noat "Seen" "way"), .a (.noat "Seen" "pairs"), .a (.noat "Seen" "paid"), .a (.noat "Seen" "turns"), .a (.noat "Seen" "moments"), .a (.noat "Seen" "state"), .a (.noat "Seen" "table")]
def fa2 : List NH.Fk := [.a (.glo "Seen"), .a (.mkr "Seen"), .a (.meth "Seen" "note"), .a (.free "zip"), .a (.meth "Seen" "fits"), .a (.meth "Seen" "twin"), .a (.free "enumerate"), .a (.glo "fitting"), .a (.glo "memory_after"), .a (.glo "are_apart"), .a (.glo "next_apart"), .a (.free "int"), .a (.glo "_law_cell"), .a (.free "abs"), .a (.glo "_law_numbers"), .a (.free "isinstance"), .a (.free "bool"), .a (.free "str"), .a (.glo "_law_alike"), .a (.glo "_law_moves"), .a (.glo "_law_asks"), .a (.glo "_law_arrows"), .a (.glo "_law_row"), .a (.glo "_law_rule"), .a (.glo "_law_chain"), .a (.glo "_law_bent"), .a (.glo "_law_rules"), .a (.glo "_law_walked"), .a (.glo "_law_fits"), .a (.glo "_law_next")]
def fa3 : List NH.Fk := [.xf "NotReady", .a (.noat "NotReady" "ask"), .a (.noat "NotReady" "memory"), .a (.glo "WorseError"), .a (.exm "Unlike" "WorseError" true), .a (.exm "NotReady" "WorseError" true), .a (.exm "Unlike" "Unlike" true), .a (.exm "NotReady" "Unlike" false), .a (.glo "NotReady"), .a (.exm "NotReady" "NotReady" true), .a (.exm "Unlike" "NotReady" false), .a (.glo "_law_asked"), .xi "Unlike", .kitT "Unlike" "ValueError" true, .a (.free "ValueError"), .kitC "Unlike" "NotReady" false, .a (.glo "_law_fitted"), .a (.glo "_law_due"), .a (.glo "_law_checked"), .a (.glo "_law_parted"), .a (.glo "law"), .oex "NotReady"]
def fa : List NH.Fk := fa0 ++ fa1 ++ fa2 ++ fa3
def fn0 : List NH.DefK := [⟨fun K => NH.pg K (He.ga K "System") "kinds", "kinds", "System.kinds", defArgs st_System_kinds, defBody st_System_kinds, defScope st_System_kinds⟩, ⟨fun K => NH.pg K (He.ga K "System") "size", "size", "System.size", defArgs st_System_size, defBody st_System_size, defScope st_System_size⟩, ⟨fun K => He.ma K (He.ga K "System") "serving", "serving", "System.serving", defArgs st_System_serving, defBody st_System_serving, defScope st_System_serving⟩, ⟨fun K => NH.pg K (He.ga K "Machine") "kinds", "kinds", "Machine.kinds", defArgs st_Machine_kinds, defBody st_Machine_kinds, defScope st_Machine_kinds⟩, ⟨fun K => He.ma K (He.ga K "Machine") "after", "after", "Machine.after", defArgs st_Machine_after, defBody st_Machine_after, defScope st_Machine_after⟩, ⟨fun K => He.ma K (He.ga K "Machine") "lets", "lets", "Machine.lets", defArgs st_Machine_lets, defBody st_Machine_lets, defScope st_Machine_lets⟩, ⟨fun K => NH.pg K (He.ga K "Rule") "kinds", "kinds", "Rule.kinds", defArgs st_Rule_kinds, defBody st_Rule_kinds, defScope st_Rule_kinds⟩, ⟨fun K => He.ma K (He.ga K "Rule") "after", "after", "Rule.after", defArgs st_Rule_after, defBody st_Rule_after, defScope st_Rule_after⟩, ⟨fun K => He.ga K "first_table", "first_table", "first_table", defArgs st_first_table, defBody st_first_table, defScope st_first_table⟩, ⟨fun K => He.ga K "next_table", "next_table", "next_table", defArgs st_next_table, defBody st_next_table, defScope st_next_table⟩, ⟨fun K => He.ga K "check_kinds", "check_kinds", "check_kinds", defArgs st_check_kinds, defBody st_check_kinds, defScope st_check_kinds⟩, ⟨fun K => He.ga K "is_cost", "is_cost", "is_cost", defArgs st_is_cost, defBody st_is_cost, defScope st_is_cost⟩, ⟨fun K => He.ga K "check_moves", "check_moves", "check_moves", defArgs st_check_moves, defBody st_check_moves, defScope st_check_moves⟩, ⟨fun K => He.ga K "check_asks", "check_asks", "check_asks", defArgs st_check_asks, defBody st_check_asks, defScope st_check_asks⟩, ⟨fun K => He.ga K "closed", "closed", "closed", defArgs st_closed, defBody st_closed, defScope st_closed⟩, ⟨fun K => He.ma K (He.ga K "System") "__init__", "__init__", "System.__init__", defArgs st_System_init, defBody st_System_init, defScope st_System_init⟩, ⟨fun K => He.ga K "check_arrows", "check_arrows", "check_arrows", defArgs st_check_arrows, defBody st_check_arrows, defScope st_check_arrows⟩, ⟨fun K => He.ma K (He.ga K "Machine") "__init__", "__init__", "Machine.__init__", defArgs st_Machine_init, defBody st_Machine_init, defScope st_Machine_init⟩, ⟨fun K => He.ga K "good_memory", "good_memory", "good_memory", defArgs st_good_memory, defBody st_good_memory, defScope st_good_memory⟩, ⟨fun K => He.ga K "check_rule", "check_rule", "check_rule", defArgs st_check_rule, defBody st_check_rule, defScope st_check_rule⟩, ⟨fun K => He.ma K (He.ga K "Rule") "__init__", "__init__", "Rule.__init__", defArgs st_Rule_init, defBody st_Rule_init, defScope st_Rule_init⟩, ⟨fun K => He.ma K (He.ga K "World") "__init__", "__init__", "World.__init__", defArgs st_World_init, defBody st_World_init, defScope st_World_init⟩, ⟨fun K => He.ma K (He.ga K "Seen") "__init__", "__init__", "Seen.__init__", defArgs st_Seen_init, defBody st_Seen_init, defScope st_Seen_init⟩, ⟨fun K => He.ma K (He.ga K "Seen") "note", "note", "Seen.note", defArgs st_Seen_note, defBody st_Seen_note, defScope st_Seen_note⟩, ⟨fun K => He.ma K (He.ga K "Seen") "fits", "fits", "Seen.fits", defArgs st_Seen_fits, defBody st_Seen_fits, defScope st_Seen_fits⟩, ⟨fun K => He.ma K (He.ga K "Seen") "twin", "twin", "Seen.twin", defArgs st_Seen_twin, defBody st_Seen_twin, defScope st_Seen_twin⟩, ⟨fun K => He.ga K "fitting", "fitting", "fitting", defArgs st_fitting, defBody st_fitting, defScope st_fitting⟩, ⟨fun K => He.ga K "memory_after", "memory_after", "memory_after", defArgs st_memory_after, defBody st_memory_after, defScope st_memory_after⟩, ⟨fun K => He.ga K "are_apart", "are_apart", "are_apart", defArgs st_are_apart, defBody st_are_apart, defScope st_are_apart⟩, ⟨fun K => He.ga K "next_apart", "next_apart", "next_apart", defArgs st_next_apart, defBody st_next_apart, defScope st_next_apart⟩]
def fn1 : List NH.DefK := [⟨fun K => He.ga K "_law_cell", "_law_cell", "_law_cell", defArgs st__law_cell, defBody st__law_cell, defScope st__law_cell⟩, ⟨fun K => He.ga K "_law_numbers", "_law_numbers", "_law_numbers", defArgs st__law_numbers, defBody st__law_numbers, defScope st__law_numbers⟩, ⟨fun K => He.ga K "_law_alike", "_law_alike", "_law_alike", defArgs st__law_alike, defBody st__law_alike, defScope st__law_alike⟩, ⟨fun K => He.ga K "_law_moves", "_law_moves", "_law_moves", defArgs st__law_moves, defBody st__law_moves, defScope st__law_moves⟩, ⟨fun K => He.ga K "_law_asks", "_law_asks", "_law_asks", defArgs st__law_asks, defBody st__law_asks, defScope st__law_asks⟩, ⟨fun K => He.ga K "_law_arrows", "_law_arrows", "_law_arrows", defArgs st__law_arrows, defBody st__law_arrows, defScope st__law_arrows⟩, ⟨fun K => He.ga K "_law_row", "_law_row", "_law_row", defArgs st__law_row, defBody st__law_row, defScope st__law_row⟩, ⟨fun K => He.ga K "_law_rule", "_law_rule", "_law_rule", defArgs st__law_rule, defBody st__law_rule, defScope st__law_rule⟩, ⟨fun K => He.ga K "_law_chain", "_law_chain", "_law_chain", defArgs st__law_chain, defBody st__law_chain, defScope st__law_chain⟩, ⟨fun K => He.ga K "_law_bent", "_law_bent", "_law_bent", defArgs st__law_bent, defBody st__law_bent, defScope st__law_bent⟩, ⟨fun K => He.ga K "_law_rules", "_law_rules", "_law_rules", defArgs st__law_rules, defBody st__law_rules, defScope st__law_rules⟩, ⟨fun K => He.ga K "_law_walked", "_law_walked", "_law_walked", defArgs st__law_walked, defBody st__law_walked, defScope st__law_walked⟩, ⟨fun K => He.ga K "_law_fits", "_law_fits", "_law_fits", defArgs st__law_fits, defBody st__law_fits, defScope st__law_fits⟩, ⟨fun K => He.ga K "_law_next", "_law_next", "_law_next", defArgs st__law_next, defBody st__law_next, defScope st__law_next⟩, ⟨fun K => He.ga K "_law_asked", "_law_asked", "_law_asked", defArgs st__law_asked, defBody st__law_asked, defScope st__law_asked⟩, ⟨fun K => He.ga K "_law_fitted", "_law_fitted", "_law_fitted", defArgs st__law_fitted, defBody st__law_fitted, defScope st__law_fitted⟩, ⟨fun K => He.ga K "_law_due", "_law_due", "_law_due", defArgs st__law_due, defBody st__law_due, defScope st__law_due⟩, ⟨fun K => He.ga K "_law_checked", "_law_checked", "_law_checked", defArgs st__law_checked, defBody st__law_checked, defScope st__law_checked⟩, ⟨fun K => He.ga K "_law_parted", "_law_parted", "_law_parted", defArgs st__law_parted, defBody st__law_parted, defScope st__law_parted⟩, ⟨fun K => He.ga K "law", "law", "law", defArgs st_law, defBody st_law, defScope st_law⟩, ⟨fun K => He.ma K (He.ga K "NotReady") "__init__", "__init__", "NotReady.__init__", defArgs st_x9, defBody st_x9, defScope st_x9⟩]
def fn : List NH.DefK := fn0 ++ fn1
def loose0 : List Str := ["_wall", "WorseError", "BadSystem", "BadMachine", "Unlike", "BadPlace", "NotLet", "NotServed", "TooMany", "BadRule", "NotReady", "first_table", "next_table", "check_kinds", "Seen", "fitting", "memory_after", "are_apart", "next_apart", "PLACES", "KINDS", "COST", "is_cost", "check_moves", "check_asks", "closed", "System", "STATES", "check_arrows", "arrow"]
def loose1 : List Str := ["paired", "Machine", "good_memory", "check_rule", "check_fit", "served_by", "Rule", "World", "_law_cell", "_law_numbers", "_law_alike", "_law_moves", "_law_asks", "_law_arrows", "_law_row", "_law_rule", "_law_chain", "_law_bent", "_law_rules", "_law_walked", "_law_fits", "_law_next", "_law_asked", "_law_fitted", "_law_due", "_law_checked", "_law_parted"]
def loose : List Str := loose0 ++ loose1
section
variable {K : PySem.W.Frag} {h : Heap} {mg : Str → Option Value}
theorem fx_of (X : K.In h) (G : h.Ns mainGlobals mg) (c : NH.SaysK fa fn K) : Fx K mg (gb K) where
  free_len := He.free_ok X G (c.fact 0 rfl)
  cl_10 := He.cls_ok (c.fact 1 rfl)
  nm_10 := rfl
  na_10_asks := He.noat_ok (c.fact 2 rfl)
  d_System_kinds := (let ⟨fd, hF⟩ := (c.def_ 0 rfl); ⟨_, _, fd, hF, NH.prop_ok (c.fact 3 rfl)⟩)
  na_10_moves := He.noat_ok (c.fact 4 rfl)
  d_System_size := (let ⟨fd, hF⟩ := (c.def_ 1 rfl); ⟨_, _, fd, hF, NH.prop_ok (c.fact 5 rfl)⟩)
  free_range := He.free_ok X G (c.fact 6 rfl)
  d_System_serving := (let ⟨fd, hF⟩ := (c.def_ 2 rfl); ⟨_, fd, hF, He.meth_ok (c.fact 7 rfl)⟩)
  cl_11 := He.cls_ok (c.fact 8 rfl)
  nm_11 := rfl
  na_11_arrows := He.noat_ok (c.fact 9 rfl)
  d_Machine_kinds := (let ⟨fd, hF⟩ := (c.def_ 3 rfl); ⟨_, _, fd, hF, NH.prop_ok (c.fact 10 rfl)⟩)
  d_Machine_after := (let ⟨fd, hF⟩ := (c.def_ 4 rfl); ⟨_, fd, hF, He.meth_ok (c.fact 11 rfl)⟩)
  d_Machine_lets := (let ⟨fd, hF⟩ := (c.def_ 5 rfl); ⟨_, fd, hF, He.meth_ok (c.fact 12 rfl)⟩)
  cl_12 := He.cls_ok (c.fact 13 rfl)
  nm_12 := rfl
  na_12_table := He.noat_ok (c.fact 14 rfl)
  d_Rule_kinds := (let ⟨fd, hF⟩ := (c.def_ 6 rfl); ⟨_, _, fd, hF, NH.prop_ok (c.fact 15 rfl)⟩)
  d_Rule_after := (let ⟨fd, hF⟩ := (c.def_ 7 rfl); ⟨_, fd, hF, He.meth_ok (c.fact 16 rfl)⟩)
  free_list := He.free_ok X G (c.fact 17 rfl)
  d_first_table := (let ⟨fd, hF⟩ := (c.def_ 8 rfl); ⟨_, fd, hF, (He.glo_ok X G (c.fact 18 rfl))⟩)
  free_min := He.free_ok X G (c.fact 19 rfl)
  d_next_table := (let ⟨fd, hF⟩ := (c.def_ 9 rfl); ⟨_, fd, hF, (He.glo_ok X G (c.fact 20 rfl))⟩)
  cl_13 := He.cls_ok (c.fact 21 rfl)
  nm_13 := rfl
  na_13_system := He.noat_ok (c.fact 22 rfl)
  cl_14 := He.cls_ok (c.fact 23 rfl)
  nm_14 := rfl
  na_14_world := He.noat_ok (c.fact 24 rfl)
  ct_3 := NH.calT_ok rfl (He.glo_ok X G (c.fact 25 rfl)) (c.fact 26 rfl)
  d_check_kinds := (let ⟨fd, hF⟩ := (c.def_ 10 rfl); ⟨_, fd, hF, (He.glo_ok X G (c.fact 27 rfl))⟩)
  int_COST := He.int_ok X G (c.fact 28 rfl)
  d_is_cost := (let ⟨fd, hF⟩ := (c.def_ 11 rfl); ⟨_, fd, hF, (He.glo_ok X G (c.fact 29 rfl))⟩)
  int_PLACES := He.int_ok X G (c.fact 30 rfl)
  d_check_moves := (let ⟨fd, hF⟩ := (c.def_ 12 rfl); ⟨_, fd, hF, (He.glo_ok X G (c.fact 31 rfl))⟩)
  int_KINDS := He.int_ok X G (c.fact 32 rfl)
  d_check_asks := (let ⟨fd, hF⟩ := (c.def_ 13 rfl); ⟨_, fd, hF, (He.glo_ok X G (c.fact 33 rfl))⟩)
  free_tuple := He.free_ok X G (c.fact 34 rfl)
  d_closed := (let ⟨fd, hF⟩ := (c.def_ 14 rfl); ⟨_, fd, hF, (He.glo_ok X G (c.fact 35 rfl))⟩)
  d_System_init := (let ⟨fd, hF⟩ := (c.def_ 15 rfl); ⟨_, fd, hF, (He.glo_ok X G (c.fact 36 rfl)), He.mkr_ok (c.fact 37 rfl)⟩)
  int_STATES := He.int_ok X G (c.fact 38 rfl)
  d_check_arrows := (let ⟨fd, hF⟩ := (c.def_ 16 rfl); ⟨_, fd, hF, (He.glo_ok X G (c.fact 39 rfl))⟩)
  d_Machine_init := (let ⟨fd, hF⟩ := (c.def_ 17 rfl); ⟨_, fd, hF, (He.glo_ok X G (c.fact 40 rfl)), He.mkr_ok (c.fact 41 rfl)⟩)
  d_good_memory := (let ⟨fd, hF⟩ := (c.def_ 18 rfl); ⟨_, fd, hF, (He.glo_ok X G (c.fact 42 rfl))⟩)
  cv_12_MEMORIES := (let ⟨mc, u, h1, h2⟩ := NH.cval_ok (c.fact 43 rfl); ⟨mc, u, (He.glo_ok X G (c.fact 44 rfl)), h1, h2⟩)
  d_check_rule := (let ⟨fd, hF⟩ := (c.def_ 19 rfl); ⟨_, fd, hF, (He.glo_ok X G (c.fact 45 rfl))⟩)
  na_12_places := He.noat_ok (c.fact 46 rfl)
  d_Rule_init := (let ⟨fd, hF⟩ := (c.def_ 20 rfl); ⟨_, fd, hF, (He.glo_ok X G (c.fact 44 rfl)), He.mkr_ok (c.fact 47 rfl)⟩)
  na_13_machine := He.noat_ok (c.fact 48 rfl)
  na_13_place := He.noat_ok (c.fact 49 rfl)
  d_World_init := (let ⟨fd, hF⟩ := (c.def_ 21 rfl); ⟨_, fd, hF, (He.glo_ok X G (c.fact 50 rfl)), He.mkr_ok (c.fact 51 rfl)⟩)
  na_14_row := He.noat_ok (c.fact 52 rfl)
  na_14_way := He.noat_ok (c.fact 53 rfl)
  na_14_pairs := He.noat_ok (c.fact 54 rfl)
  na_14_paid := He.noat_ok (c.fact 55 rfl)
  na_14_turns := He.noat_ok (c.fact 56 rfl)
  na_14_moments := He.noat_ok (c.fact 57 rfl)
  na_14_state := He.noat_ok (c.fact 58 rfl)
  na_14_table := He.noat_ok (c.fact 59 rfl)
  d_Seen_init := (let ⟨fd, hF⟩ := (c.def_ 22 rfl); ⟨_, fd, hF, (He.glo_ok X G (c.fact 60 rfl)), He.mkr_ok (c.fact 61 rfl)⟩)
  d_Seen_note := (let ⟨fd, hF⟩ := (c.def_ 23 rfl); ⟨_, fd, hF, He.meth_ok (c.fact 62 rfl)⟩)
  free_zip := He.free_ok X G (c.fact 63 rfl)
  d_Seen_fits := (let ⟨fd, hF⟩ := (c.def_ 24 rfl); ⟨_, fd, hF, He.meth_ok (c.fact 64 rfl)⟩)
  d_Seen_twin := (let ⟨fd, hF⟩ := (c.def_ 25 rfl); ⟨_, fd, hF, He.meth_ok (c.fact 65 rfl)⟩)
  free_enumerate := He.free_ok X G (c.fact 66 rfl)
  d_fitting := (let ⟨fd, hF⟩ := (c.def_ 26 rfl); ⟨_, fd, hF, (He.glo_ok X G (c.fact 67 rfl))⟩)
  d_memory_after := (let ⟨fd, hF⟩ := (c.def_ 27 rfl); ⟨_, fd, hF, (He.glo_ok X G (c.fact 68 rfl))⟩)
  d_are_apart := (let ⟨fd, hF⟩ := (c.def_ 28 rfl); ⟨_, fd, hF, (He.glo_ok X G (c.fact 69 rfl))⟩)
  d_next_apart := (let ⟨fd, hF⟩ := (c.def_ 29 rfl); ⟨_, fd, hF, (He.glo_ok X G (c.fact 70 rfl))⟩)
  free_int := He.free_ok X G (c.fact 71 rfl)
  d__law_cell := (let ⟨fd, hF⟩ := (c.def_ 30 rfl); ⟨_, fd, hF, (He.glo_ok X G (c.fact 72 rfl))⟩)
  free_abs := He.free_ok X G (c.fact 73 rfl)
  d__law_numbers := (let ⟨fd, hF⟩ := (c.def_ 31 rfl); ⟨_, fd, hF, (He.glo_ok X G (c.fact 74 rfl))⟩)
  free_isinstance := He.free_ok X G (c.fact 75 rfl)
  free_bool := He.free_ok X G (c.fact 76 rfl)
  free_str := He.free_ok X G (c.fact 77 rfl)
  d__law_alike := (let ⟨fd, hF⟩ := (c.def_ 32 rfl); ⟨_, fd, hF, (He.glo_ok X G (c.fact 78 rfl))⟩)
  d__law_moves := (let ⟨fd, hF⟩ := (c.def_ 33 rfl); ⟨_, fd, hF, (He.glo_ok X G (c.fact 79 rfl))⟩)
  d__law_asks := (let ⟨fd, hF⟩ := (c.def_ 34 rfl); ⟨_, fd, hF, (He.glo_ok X G (c.fact 80 rfl))⟩)
  d__law_arrows := (let ⟨fd, hF⟩ := (c.def_ 35 rfl); ⟨_, fd, hF, (He.glo_ok X G (c.fact 81 rfl))⟩)
  d__law_row := (let ⟨fd, hF⟩ := (c.def_ 36 rfl); ⟨_, fd, hF, (He.glo_ok X G (c.fact 82 rfl))⟩)
  d__law_rule := (let ⟨fd, hF⟩ := (c.def_ 37 rfl); ⟨_, fd, hF, (He.glo_ok X G (c.fact 83 rfl))⟩)
  d__law_chain := (let ⟨fd, hF⟩ := (c.def_ 38 rfl); ⟨_, fd, hF, (He.glo_ok X G (c.fact 84 rfl))⟩)
  d__law_bent := (let ⟨fd, hF⟩ := (c.def_ 39 rfl); ⟨_, fd, hF, (He.glo_ok X G (c.fact 85 rfl))⟩)
  d__law_rules := (let ⟨fd, hF⟩ := (c.def_ 40 rfl); ⟨_, fd, hF, (He.glo_ok X G (c.fact 86 rfl))⟩)
  d__law_walked := (let ⟨fd, hF⟩ := (c.def_ 41 rfl); ⟨_, fd, hF, (He.glo_ok X G (c.fact 87 rfl))⟩)
  d__law_fits := (let ⟨fd, hF⟩ := (c.def_ 42 rfl); ⟨_, fd, hF, (He.glo_ok X G (c.fact 88 rfl))⟩)
  d__law_next := (let ⟨fd, hF⟩ := (c.def_ 43 rfl); ⟨_, fd, hF, (He.glo_ok X G (c.fact 89 rfl))⟩)
  xf_9 := NH.xf_ok (c.fact 90 rfl)
  xn_9_ask := He.noat_ok (c.fact 91 rfl)
  nm_9 := rfl
  xn_9_memory := He.noat_ok (c.fact 92 rfl)
  gc_0 := (He.glo_ok X G (c.fact 93 rfl))
  ts_0 := (fun cc b h => by
      unfold ts_0 at h
      split at h
      · cases h; exact He.exm_ok (c.fact 94 rfl)
      · cases h; exact He.exm_ok (c.fact 95 rfl)
      · cases h)
  noexc := fun _ _ _ h => h
  gc_3 := (He.glo_ok X G (c.fact 25 rfl))
  ts_3 := (fun cc b h => by
      unfold ts_3 at h
      split at h
      · cases h; exact He.exm_ok (c.fact 96 rfl)
      · cases h; exact He.exm_ok (c.fact 97 rfl)
      · cases h)
  gc_9 := (He.glo_ok X G (c.fact 98 rfl))
  ts_9 := (fun cc b h => by
      unfold ts_9 at h
      split at h
      · cases h; exact He.exm_ok (c.fact 99 rfl)
      · cases h; exact He.exm_ok (c.fact 100 rfl)
      · cases h)
  d__law_asked := (let ⟨fd, hF⟩ := (c.def_ 44 rfl); ⟨_, fd, hF, (He.glo_ok X G (c.fact 101 rfl))⟩)
  xi_3 := NH.xi_ok (c.fact 102 rfl)
  xk_3_ValueError := NH.kitT_ok (c.fact 103 rfl)
  free_ValueError := He.free_ok X G (c.fact 104 rfl)
  xk_3_9 := NH.kitC_ok (c.fact 105 rfl)
  d__law_fitted := (let ⟨fd, hF⟩ := (c.def_ 45 rfl); ⟨_, fd, hF, (He.glo_ok X G (c.fact 106 rfl))⟩)
  d__law_due := (let ⟨fd, hF⟩ := (c.def_ 46 rfl); ⟨_, fd, hF, (He.glo_ok X G (c.fact 107 rfl))⟩)
  d__law_checked := (let ⟨fd, hF⟩ := (c.def_ 47 rfl); ⟨_, fd, hF, (He.glo_ok X G (c.fact 108 rfl))⟩)
  d__law_parted := (let ⟨fd, hF⟩ := (c.def_ 48 rfl); ⟨_, fd, hF, (He.glo_ok X G (c.fact 109 rfl))⟩)
  d_law := (let ⟨fd, hF⟩ := (c.def_ 49 rfl); ⟨_, fd, hF, (He.glo_ok X G (c.fact 110 rfl))⟩)
  dx_9 := (let ⟨fd, hF⟩ := (c.def_ 50 rfl); let ⟨a, b, e⟩ := NH.oex_ok (c.fact 111 rfl); ⟨_, fd, hF, a, b, e, (He.glo_ok X G (c.fact 98 rfl))⟩)
end
abbrev RR : PySem.W.OpenRow := PySem.W.OpenLaw.row PySem.Challenge.rw_neverworsethan_k79_rules_that_fit_runs
abbrev hk : PySem.W.Hook := NH.hookK 1500 fa fn
def ob (s : PySem.W.SharedT) : NH.AlK := NH.obsKG 1500 fa fn (HandSHeadRun.getT s)
theorem ob_eq (s : PySem.W.SharedT) : ob s = hk.obs s.abs := NH.obsKG_eq (HandSHeadRun.getT_eq s)
theorem run (w : World) : HandSHeadRun.RunEq RR (PySem.W.view RR.prog [65]) hk ob 30000 loose w := by
  intro os
  kernel_rfl
end K79
end

section
set_option Elab.async false
set_option linter.all false
set_option maxRecDepth 100000
set_option maxHeartbeats 0
/-! K79z: the law from its plain part. -/
namespace K79
open PySem PySem.Spec PyProof.Rows L2 NW
/-- the plain part -/
def Plain : Prop := ∀ ns : List Int, ns.length ≤ 63 → m_law [.scr ns] = .ok (.bl true)
theorem law_sp {K : PySem.W.Frag} {H : Hp} {a : Addr} {ns : List Int} (math : Plain) (hl : ns.length ≤ 63) (hS : SqL K H a (ns.map V.int)) :
    spP K (gb K) 1 .fz m_law [.ref a] H (fun v _ => v = .bl true) (fun _ _ _ => False) := by
  have key : ∀ F : Fr, FI F H → ((F a ∧ Rd H a (.lst (ns.map V.int))) ∨ LstK K a (ns.map V.int)) → spP K (gb K) 1 .fz m_law [.ref a] H (fun v _ => v = .bl true) (fun _ _ _ => False) := fun F fi h => by
    refine ⟨F, [.scr ns], fi, rfl, ?_, ?_⟩
    · unfold Rps
      refine ⟨.ref a, [], rfl, ?_, rps_nil⟩
      unfold Rp
      exact ⟨a, rfl, h⟩
    · rw [math ns hl]
      exact fun F' H' v A e r _ _ => r.bl_
  rcases hS with hS | hS
  · refine key (fun b => b = a) (fun b hb => ?_) (.inl ⟨rfl, hS⟩)
    subst hb
    rcases hS with hS | ⟨o, hS⟩
    · exact ⟨_, hS⟩
    · exact ⟨_, hS⟩
  · exact key (fun _ => False) (fun b hb => hb.elim) (.inr hS)
/-- what may be let out, whatever the world -/
def CXA : CXT := fun outer H s E e s' => ∃ P w, L2.CX P w outer H s E e s'
theorem FnOk.any {P : Program} {w : World} {K : PySem.W.Frag} {mg : Str → Option Value} {base : Heap} {k : Nat} {f : Addr} {fd : FuncData} {ps : List Str} {sp : Sp} (F : FnOk P w K mg base (L2.CX P w) k f fd ps sp) : FnOk P w K mg base CXA k f fd ps sp :=
  ⟨F.len, fun A outer s H args us vs Q E h1 h2 h3 h4 h5 => codeAny_mono (F.run A outer s H args us vs Q E h1 h2 h3 h4 h5) fun r s' hq => by
    cases r with
    | error e => exact ⟨P, w, hq⟩
    | ok fl => cases fl <;> exact hq⟩
end K79
open PySem PySem.W PySem.Calls PyProof.Rows
theorem K79.holds (math : K79.Plain) : PySem.Challenge.rw_neverworsethan_k79_rules_that_fit_runs.Holds := by
  w_on; o_law
  refine HandSHeadRun.head_any (r := K79.RR) (q := view K79.RR.prog [65]) (H := K79.hk) (ob := K79.ob) (M := 30000) (loose := K79.loose) (d := HandSHeadRun.topDef K79.RR.prog 65) (kwd := []) K79.ob_eq
    (by kernel_rfl) (fun s => by kernel_rfl) K79.run (by kernel_rfl) (by kernel_rfl) (by kernel_rfl) (by rfl) (by first | assumption | decide +kernel) (by decide +kernel) ⟨rfl, rfl, rfl, rfl, rfl, by decide +kernel⟩ ?hw ?hc
  case hw => w_witness2
  case hc =>
    refine L2.walk_ofE (l := PySem.Challenge.rw_neverworsethan_k79_rules_that_fit_runs) (n := 63) (k := 10) (x := "script") (CX := K79.CXA) rfl (by decide) (by kernel_rfl) ⟨rfl, by decide, by decide⟩ ?F (fun _ _ _ _ z => by
      obtain ⟨_, _, _, _, _, _, _, _, _, _, _, _, _, _, z⟩ := z
      exact z)
    intro w mg fa h Y G hmg0
    obtain ⟨K, KX, c⟩ := Y
    have hmg : mg ("law" : PySem.Str) = some (.ref fa) := by
      have e : (HandSHeadRun.topDef K79.RR.prog 65).name = ("law" : PySem.Str) := by kernel_rfl
      rw [← e]
      exact hmg0
    have fx := K79.fx_of KX G c
    obtain ⟨f, fd, F, gl⟩ := fx.d_law
    have e := hmg.symm.trans gl
    cases e
    refine ⟨K, fd, _, KX, ?_, fun H a ns hl _ hS => K79.law_sp math hl hS, fun base hB GB => ?_⟩
    · have b := L2.FunD.bindsA (ps := ["script"]) F fun _ _ _ _ _ _ us hl => match us, hl with | [_], _ => rfl
      exact fun s v => b s [v] rfl
    · exact K79.FnOk.any (K79.c_law (P := PySem.Challenge.rw_neverworsethan_k79_rules_that_fit_runs.prog) (w := w) (base := base) fx F)
end

theorem PySem.Challenge.cw_neverworsethan_k79_rules_that_fit_runs_holds : PySem.Challenge.rw_neverworsethan_k79_rules_that_fit_runs.Holds := by
  exact K79.holds K79.PL.plain
