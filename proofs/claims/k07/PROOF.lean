import PyProof.Rows.All
import Wide.All
import OpenK.AllK
import Wide.FinOn
import HandS.Base
import HandS.Call
import HandS.List
import HandS.Exc
import HandS.ExcOwn
import HandS.Words
import HandS.WordsExc
import HandS.Flow
import HandS.HeadHook1
import HandS.Wide
import HandS.TupAny
import HandS.TupLe
import HandS.Style
import HandS.Conv
import HandS.Text
import HandS.Deep
import HandS.IsInst
import HandS.Iter
import HandS.TryOnly
import HandS.Comp
import HandS.Defaults
import HandS.HeadHook2
import HandS.HeadEnd
import HandS.Head0
import HandS.Head1
import HandS.Head2
import KE.SortData
import KE.KStateDown
import PySem.Challenge.RW_gapsittings_k07_one_event_more
set_option Elab.async false
set_option linter.all false
set_option maxRecDepth 100000
set_option maxHeartbeats 4000000
/-! The data layer: values as trees, with what is owned marked. -/
namespace DL
open PySem PySem.Spec PyProof.Rows L2

/-- data: a list is owned (true: nobody else holds it) or frozen (nobody will change it) -/
inductive D where
  | non
  | bl (b : Bool)
  | int (i : Int)
  | str (x : Str)
  | tup (xs : List D)
  | lst (o : Bool) (xs : List D)
  | ins (c : Str) (ns : List Str) (xs : List D)
  | scr (ns : List Int)
  | adr (a : Addr)
  | cls (c : Str)
  deriving Inhabited
abbrev Fp := List Addr
/-- an outcome: a value, an exception (its class, its fields), or nothing that is known -/
inductive Ou (α : Type) where
  | ok (a : α)
  | ex (c : Str) (ns : List Str) (xs : List D)
  | bad
def Ou.bind {α β : Type} : Ou α → (α → Ou β) → Ou β
  | .ok a, f => f a
  | .ex c ns xs, _ => .ex c ns xs
  | .bad, _ => .bad
instance : Monad Ou where
  pure := .ok
  bind := Ou.bind
@[simp] theorem bind_ok {α β : Type} (a : α) (f : α → Ou β) : (Ou.ok a >>= f) = f a := (rfl)
@[simp] theorem bind_ex {α β : Type} (c : Str) (ns : List Str) (xs : List D) (f : α → Ou β) : (Ou.ex c ns xs >>= f) = .ex c ns xs := (rfl)
@[simp] theorem bind_bad {α β : Type} (f : α → Ou β) : (Ou.bad >>= f) = .bad := (rfl)
@[simp] theorem pure_ou {α : Type} (a : α) : (pure a : Ou α) = .ok a := (rfl)

mutual
/-- nothing owned within -/
def D.fz : D → Bool
  | .tup xs => D.fzs xs
  | .lst o _ => !o
  | _ => true
def D.fzs : List D → Bool
  | [] => true
  | d :: ds => d.fz && D.fzs ds
end
mutual
def D.frz : D → D
  | .tup xs => .tup (D.frzs xs)
  | .lst true xs => .lst false (D.frzs xs)
  | d => d
def D.frzs : List D → List D
  | [] => []
  | d :: ds => d.frz :: D.frzs ds
end
mutual
/-- no frozen list within -/
def D.cln : D → Bool
  | .tup xs => D.clns xs
  | .lst true xs => D.clns xs
  | .lst false _ => false
  | .scr _ => false
  | .ins _ _ xs => D.clns xs
  | _ => true
def D.clns : List D → Bool
  | [] => true
  | d :: ds => d.cln && D.clns ds
end

def Ex (H H' : Hp) : Prop := ∀ a o, H a = some o → H' a = some o
theorem Ex.refl (H : Hp) : Ex H H := fun _ _ h => h
theorem Ex.trans {H H1 H2 : Hp} (a : Ex H H1) (b : Ex H1 H2) : Ex H H2 := fun x o h => b x o (a x o h)
theorem Ex.new {H : Hp} {p : Addr} {o : HO} (h : H p = none) : Ex H (upd H p o) := fun a u e => by
  rw [upd_ne (ne_of_none e h)]; exact e
theorem Ex.mut {H H' : Hp} {p : Addr} {o : HO} (e : Ex H H') (h : H p = none) : Ex H (upd H' p o) := fun a u ha => by
  rw [upd_ne (ne_of_none ha h)]; exact e a u ha
theorem Ex.rd {H H' : Hp} {a : Addr} {u : HO} (e : Ex H H') (h : Rd H a u) : Rd H' a u := by
  rcases h with h | ⟨o, h⟩
  · exact .inl (e a _ h)
  · exact .inr ⟨o, e a _ h⟩
theorem Ex.sqL {K : PySem.W.Frag} {H H' : Hp} {a : Addr} {xs : List V} (e : Ex H H') (h : SqL K H a xs) : SqL K H' a xs := by
  rcases h with h | h
  · exact .inl (e.rd h)
  · exact .inr h
theorem Ex.sqT {K : PySem.W.Frag} {H H' : Hp} {a : Addr} {xs : List V} (e : Ex H H') (h : SqT K H a xs) : SqT K H' a xs := by
  rcases h with h | h
  · exact .inl (e.rd h)
  · exact .inr h
theorem Ex.back {H H' : Hp} {p : Addr} (e : Ex H H') (h : H' p = none) : H p = none := by
  cases h1 : H p with
  | none => rfl
  | some o => rw [e p o h1] at h; cases h

section
variable (K : PySem.W.Frag) (cl : Str → Addr)
mutual
/-- v denotes d: what is frozen lies in Z, what is owned in H, at the addresses fp -/
def Den (Z H : Hp) : D → V → Fp → Prop
  | .non, v, fp => v = .non ∧ fp = []
  | .bl b, v, fp => v = .bl b ∧ fp = []
  | .int i, v, fp => v = .int i ∧ fp = []
  | .str x, v, fp => v = .str x ∧ fp = []
  | .tup ds, v, fp => ∃ a vs, v = .ref a ∧ SqT K Z a vs ∧ Dens Z H ds vs fp
  | .lst true ds, v, fp => ∃ a vs fq, v = .ref a ∧ fp = a :: fq ∧ Z a = none ∧ H a = some (.lst vs) ∧ Dens Z H ds vs fq
  | .lst false ds, v, fp => ∃ a vs, v = .ref a ∧ fp = [] ∧ Z a = some (.lst vs) ∧ Dens Z H ds vs []
  | .ins c ns ds, v, fp => ∃ a dx vs, v = .ref a ∧ fp = [] ∧ Z a = some (.ins (cl c) dx (ns.zip vs)) ∧ ns.length = ds.length ∧ Dens Z H ds vs []
  | .scr ns, v, fp => ∃ a, v = .ref a ∧ fp = [] ∧ SqL K Z a (ns.map V.int)
  | .adr _, v, fp => (∃ a, v = .ref a) ∧ fp = []
  | .cls c, v, fp => v = .ref (cl c) ∧ fp = []
def Dens (Z H : Hp) : List D → List V → Fp → Prop
  | [], vs, fp => vs = [] ∧ fp = []
  | d :: ds, vs, fp => ∃ v vr f1 f2, vs = v :: vr ∧ fp = f1 ++ f2 ∧ Den Z H d v f1 ∧ Dens Z H ds vr f2
end
end

section
variable {K : PySem.W.Frag} {cl : Str → Addr}
mutual
theorem Den.mono {Z H Y H' : Hp} (e : Ex Z Y) : ∀ (d : D) (v : V) (fp : Fp), (∀ a ∈ fp, Y a = none ∧ H' a = H a) → Den K cl Z H d v fp → Den K cl Y H' d v fp
  | .non, _, _, _, h => h
  | .bl _, _, _, _, h => h
  | .int _, _, _, _, h => h
  | .str _, _, _, _, h => h
  | .tup ds, v, fp, k, h => by
    simp only [Den] at h ⊢
    obtain ⟨a, vs, e1, q, r⟩ := h
    exact ⟨a, vs, e1, e.sqT q, Dens.mono e ds vs fp k r⟩
  | .lst true ds, v, fp, k, h => by
    simp only [Den] at h ⊢
    obtain ⟨a, vs, fq, e1, e2, z, q, r⟩ := h
    subst e2
    have ka := k a List.mem_cons_self
    exact ⟨a, vs, fq, e1, rfl, ka.1, by rw [ka.2]; exact q, Dens.mono e ds vs fq (fun b hb => k b (List.mem_cons_of_mem _ hb)) r⟩
  | .lst false ds, v, fp, k, h => by
    simp only [Den] at h ⊢
    obtain ⟨a, vs, e1, e2, q, r⟩ := h
    exact ⟨a, vs, e1, e2, e _ _ q, Dens.mono e ds vs [] (fun _ hb => nomatch hb) r⟩
  | .ins c ns ds, v, fp, k, h => by
    simp only [Den] at h ⊢
    obtain ⟨a, dx, vs, e1, e2, q, l, r⟩ := h
    exact ⟨a, dx, vs, e1, e2, e _ _ q, l, Dens.mono e ds vs [] (fun _ hb => nomatch hb) r⟩
  | .scr ns, v, fp, k, h => by
    simp only [Den] at h ⊢
    obtain ⟨a, e1, e2, q⟩ := h
    exact ⟨a, e1, e2, e.sqL q⟩
  | .adr _, _, _, _, h => h
  | .cls _, _, _, _, h => h
theorem Dens.mono {Z H Y H' : Hp} (e : Ex Z Y) : ∀ (ds : List D) (vs : List V) (fp : Fp), (∀ a ∈ fp, Y a = none ∧ H' a = H a) → Dens K cl Z H ds vs fp → Dens K cl Y H' ds vs fp
  | [], _, _, _, h => h
  | d :: ds, vs, fp, k, h => by
    simp only [Dens] at h ⊢
    obtain ⟨v, vr, f1, f2, e1, e2, q, r⟩ := h
    subst e2
    exact ⟨v, vr, f1, f2, e1, rfl, Den.mono e d v f1 (fun b hb => k b (List.mem_append_left _ hb)) q, Dens.mono e ds vr f2 (fun b hb => k b (List.mem_append_right _ hb)) r⟩
end
mutual
/-- frozen: into Y, which has what was owned -/
theorem Den.freeze {Z H Y H' : Hp} (e : Ex Z Y) : ∀ (d : D) (v : V) (fp : Fp), (∀ a ∈ fp, Y a = H a) → Den K cl Z H d v fp → Den K cl Y H' d.frz v []
  | .non, _, _, _, h => ⟨h.1, rfl⟩
  | .bl _, _, _, _, h => ⟨h.1, rfl⟩
  | .int _, _, _, _, h => ⟨h.1, rfl⟩
  | .str _, _, _, _, h => ⟨h.1, rfl⟩
  | .tup ds, v, fp, k, h => by
    simp only [Den] at h
    simp only [D.frz, Den]
    obtain ⟨a, vs, e1, q, r⟩ := h
    exact ⟨a, vs, e1, e.sqT q, Dens.freeze e ds vs fp k r⟩
  | .lst true ds, v, fp, k, h => by
    simp only [Den] at h
    simp only [D.frz, Den]
    obtain ⟨a, vs, fq, e1, e2, z, q, r⟩ := h
    subst e2
    exact ⟨a, vs, e1, trivial, (k a List.mem_cons_self).trans q, Dens.freeze e ds vs fq (fun b hb => k b (List.mem_cons_of_mem _ hb)) r⟩
  | .lst false ds, v, fp, k, h => by
    simp only [Den] at h
    simp only [D.frz, Den]
    obtain ⟨a, vs, e1, e2, q, r⟩ := h
    exact ⟨a, vs, e1, trivial, e _ _ q, Dens.mono e ds vs [] (fun _ hb => nomatch hb) r⟩
  | .ins c ns ds, v, fp, k, h => by
    simp only [Den] at h
    simp only [D.frz, Den]
    obtain ⟨a, dx, vs, e1, e2, q, l, r⟩ := h
    exact ⟨a, dx, vs, e1, trivial, e _ _ q, l, Dens.mono e ds vs [] (fun _ hb => nomatch hb) r⟩
  | .scr ns, v, fp, k, h => by
    simp only [Den] at h
    simp only [D.frz, Den]
    obtain ⟨a, e1, e2, q⟩ := h
    exact ⟨a, e1, trivial, e.sqL q⟩
  | .adr _, _, _, _, h => ⟨h.1, rfl⟩
  | .cls _, _, _, _, h => ⟨h.1, rfl⟩
theorem Dens.freeze {Z H Y H' : Hp} (e : Ex Z Y) : ∀ (ds : List D) (vs : List V) (fp : Fp), (∀ a ∈ fp, Y a = H a) → Dens K cl Z H ds vs fp → Dens K cl Y H' (D.frzs ds) vs []
  | [], _, _, _, h => ⟨h.1, rfl⟩
  | d :: ds, vs, fp, k, h => by
    simp only [Dens] at h
    simp only [D.frzs, Dens]
    obtain ⟨v, vr, f1, f2, e1, e2, q, r⟩ := h
    subst e2
    exact ⟨v, vr, [], [], e1, rfl, Den.freeze e d v f1 (fun b hb => k b (List.mem_append_left _ hb)) q, Dens.freeze e ds vr f2 (fun b hb => k b (List.mem_append_right _ hb)) r⟩
end
mutual
/-- what has no frozen list does not lean on the lists of Y -/
theorem Den.clean {Z H Y : Hp} (k : ∀ a, Z a = Y a ∨ (Z a = none ∧ ∃ xs, Y a = some (.lst xs))) : ∀ (d : D) (v : V) (fp : Fp), d.cln = true → Den K cl Y H d v fp → Den K cl Z H d v fp
  | .non, _, _, _, h => h
  | .bl _, _, _, _, h => h
  | .int _, _, _, _, h => h
  | .str _, _, _, _, h => h
  | .tup ds, v, fp, c, h => by
    simp only [Den] at h ⊢
    obtain ⟨a, vs, e1, q, r⟩ := h
    refine ⟨a, vs, e1, ?_, Dens.clean k ds vs fp c r⟩
    rcases k a with z | ⟨_, xs, z⟩
    · rcases q with q | q
      · left
        rcases q with q | ⟨o, q⟩
        · exact .inl (z.trans q)
        · exact .inr ⟨o, z.trans q⟩
      · exact .inr q
    · rcases q with q | q
      · rcases q with q | ⟨o, q⟩
        · rw [z] at q; cases q
        · rw [z] at q; cases q
      · exact .inr q
  | .lst true ds, v, fp, c, h => by
    simp only [Den] at h ⊢
    obtain ⟨a, vs, fq, e1, e2, z, q, r⟩ := h
    refine ⟨a, vs, fq, e1, e2, ?_, q, Dens.clean k ds vs fq c r⟩
    rcases k a with y | ⟨y, _⟩
    · exact y.trans z
    · exact y
  | .lst false ds, v, fp, c, h => by
    have c' : false = true := c
    cases c'
  | .ins cn ns ds, v, fp, c, h => by
    simp only [Den] at h ⊢
    obtain ⟨a, dx, vs, e1, e2, q, l, r⟩ := h
    refine ⟨a, dx, vs, e1, e2, ?_, l, Dens.clean k ds vs [] c r⟩
    rcases k a with z | ⟨_, xs, z⟩
    · exact z.trans q
    · rw [z] at q; cases q
  | .scr ns, v, fp, c, h => by
    have c' : false = true := c
    cases c'
  | .adr _, _, _, _, h => h
  | .cls _, _, _, _, h => h
theorem Dens.clean {Z H Y : Hp} (k : ∀ a, Z a = Y a ∨ (Z a = none ∧ ∃ xs, Y a = some (.lst xs))) : ∀ (ds : List D) (vs : List V) (fp : Fp), D.clns ds = true → Dens K cl Y H ds vs fp → Dens K cl Z H ds vs fp
  | [], _, _, _, h => h
  | d :: ds, vs, fp, c, h => by
    simp only [Dens] at h ⊢
    have c2 : d.cln = true ∧ D.clns ds = true := Bool.and_eq_true_iff.mp c
    obtain ⟨v, vr, f1, f2, e1, e2, q, r⟩ := h
    exact ⟨v, vr, f1, f2, e1, e2, Den.clean k d v f1 c2.1 q, Dens.clean k ds vr f2 c2.2 r⟩
end
mutual
theorem Den.fz {Z H : Hp} : ∀ (d : D) (v : V) (fp : Fp), d.fz = true → Den K cl Z H d v fp → fp = []
  | .non, _, _, _, h => h.2
  | .bl _, _, _, _, h => h.2
  | .int _, _, _, _, h => h.2
  | .str _, _, _, _, h => h.2
  | .tup ds, v, fp, c, h => by
    simp only [Den] at h
    obtain ⟨a, vs, e1, q, r⟩ := h
    exact Dens.fz ds vs fp c r
  | .lst true ds, v, fp, c, h => by
    have c' : false = true := c
    cases c'
  | .lst false ds, v, fp, c, h => by
    simp only [Den] at h
    obtain ⟨a, vs, e1, e2, _⟩ := h
    exact e2
  | .ins cn ns ds, v, fp, c, h => by
    simp only [Den] at h
    obtain ⟨a, dx, vs, e1, e2, _⟩ := h
    exact e2
  | .scr ns, v, fp, c, h => by
    simp only [Den] at h
    obtain ⟨a, e1, e2, _⟩ := h
    exact e2
  | .adr _, _, _, _, h => h.2
  | .cls _, _, _, _, h => h.2
theorem Dens.fz {Z H : Hp} : ∀ (ds : List D) (vs : List V) (fp : Fp), D.fzs ds = true → Dens K cl Z H ds vs fp → fp = []
  | [], _, _, _, h => h.2
  | d :: ds, vs, fp, c, h => by
    simp only [Dens] at h
    have c2 : d.fz = true ∧ D.fzs ds = true := Bool.and_eq_true_iff.mp c
    obtain ⟨v, vr, f1, f2, e1, e2, q, r⟩ := h
    rw [e2, Den.fz d v f1 c2.1 q, Dens.fz ds vr f2 c2.2 r]
    rfl
end
mutual
/-- the owned addresses: lists in H, not in Z -/
theorem Den.own {Z H : Hp} : ∀ (d : D) (v : V) (fp : Fp), Den K cl Z H d v fp → ∀ a ∈ fp, Z a = none ∧ ∃ xs, H a = some (.lst xs)
  | .non, _, _, h, _, ha => by rw [h.2] at ha; cases ha
  | .bl _, _, _, h, _, ha => by rw [h.2] at ha; cases ha
  | .int _, _, _, h, _, ha => by rw [h.2] at ha; cases ha
  | .str _, _, _, h, _, ha => by rw [h.2] at ha; cases ha
  | .tup ds, v, fp, h, b, hb => by
    simp only [Den] at h
    obtain ⟨a, vs, e1, q, r⟩ := h
    exact Dens.own ds vs fp r b hb
  | .lst true ds, v, fp, h, b, hb => by
    simp only [Den] at h
    obtain ⟨a, vs, fq, e1, e2, z, q, r⟩ := h
    subst e2
    rcases List.mem_cons.mp hb with hb | hb
    · subst hb; exact ⟨z, vs, q⟩
    · exact Dens.own ds vs fq r b hb
  | .lst false ds, v, fp, h, b, hb => by
    simp only [Den] at h
    obtain ⟨a, vs, e1, e2, _⟩ := h
    rw [e2] at hb; cases hb
  | .ins cn ns ds, v, fp, h, b, hb => by
    simp only [Den] at h
    obtain ⟨a, dx, vs, e1, e2, _⟩ := h
    rw [e2] at hb; cases hb
  | .scr ns, v, fp, h, b, hb => by
    simp only [Den] at h
    obtain ⟨a, e1, e2, _⟩ := h
    rw [e2] at hb; cases hb
  | .adr _, _, _, h, _, ha => by rw [h.2] at ha; cases ha
  | .cls _, _, _, h, _, ha => by rw [h.2] at ha; cases ha
theorem Dens.own {Z H : Hp} : ∀ (ds : List D) (vs : List V) (fp : Fp), Dens K cl Z H ds vs fp → ∀ a ∈ fp, Z a = none ∧ ∃ xs, H a = some (.lst xs)
  | [], _, _, h, _, ha => by rw [h.2] at ha; cases ha
  | d :: ds, vs, fp, h, b, hb => by
    simp only [Dens] at h
    obtain ⟨v, vr, f1, f2, e1, e2, q, r⟩ := h
    subst e2
    rcases List.mem_append.mp hb with hb | hb
    · exact Den.own d v f1 q b hb
    · exact Dens.own ds vr f2 r b hb
end
theorem Dens.length {Z H : Hp} : ∀ {ds : List D} {vs : List V} {fp : Fp}, Dens K cl Z H ds vs fp → vs.length = ds.length
  | [], _, _, h => by rw [h.1]; rfl
  | d :: ds, vs, fp, h => by
    simp only [Dens] at h
    obtain ⟨v, vr, f1, f2, e1, e2, q, r⟩ := h
    rw [e1, List.length_cons, List.length_cons, Dens.length r]
theorem Dens.get {Z H : Hp} : ∀ {ds : List D} {vs : List V} {fp : Fp} {i : Nat} {d : D}, Dens K cl Z H ds vs fp → ds[i]? = some d → ∃ v f, vs[i]? = some v ∧ Den K cl Z H d v f ∧ (∀ a ∈ f, a ∈ fp) ∧ f.Sublist fp
  | [], _, _, _, _, _, e => by simp at e
  | d :: ds, vs, fp, 0, x, h, e => by
    simp only [Dens] at h
    obtain ⟨v, vr, f1, f2, e1, e2, q, r⟩ := h
    have e' : d = x := by simpa using e
    subst e' e1 e2
    exact ⟨v, f1, rfl, q, fun a ha => List.mem_append_left _ ha, List.sublist_append_left _ _⟩
  | d :: ds, vs, fp, i + 1, x, h, e => by
    simp only [Dens] at h
    obtain ⟨v, vr, f1, f2, e1, e2, q, r⟩ := h
    subst e1 e2
    obtain ⟨u, f, h1, h2, h3, h4⟩ := Dens.get (i := i) r (by simpa using e)
    exact ⟨u, f, by simpa using h1, h2, fun a ha => List.mem_append_right _ (h3 a ha), h4.trans (List.sublist_append_right _ _)⟩
theorem Dens.append {Z H : Hp} : ∀ {ds es : List D} {vs us : List V} {f g : Fp}, Dens K cl Z H ds vs f → Dens K cl Z H es us g → Dens K cl Z H (ds ++ es) (vs ++ us) (f ++ g)
  | [], es, vs, us, f, g, h, k => by
    obtain ⟨e1, e2⟩ := h
    subst e1 e2
    exact k
  | d :: ds, es, vs, us, f, g, h, k => by
    simp only [Dens] at h
    obtain ⟨v, vr, f1, f2, e1, e2, q, r⟩ := h
    subst e1 e2
    show Dens K cl Z H (d :: (ds ++ es)) _ _
    simp only [Dens]
    exact ⟨v, vr ++ us, f1, f2 ++ g, rfl, by rw [List.append_assoc], q, Dens.append r k⟩
theorem Dens.one {Z H : Hp} {d : D} {v : V} {f : Fp} (h : Den K cl Z H d v f) : Dens K cl Z H [d] [v] f := by
  simp only [Dens]
  exact ⟨v, [], f, [], rfl, by simp, h, rfl, rfl⟩
theorem Dens.cons {Z H : Hp} {d : D} {ds : List D} {v : V} {vs : List V} {f g : Fp} (h : Den K cl Z H d v f) (k : Dens K cl Z H ds vs g) : Dens K cl Z H (d :: ds) (v :: vs) (f ++ g) := by
  simp only [Dens]
  exact ⟨v, vs, f, g, rfl, rfl, h, k⟩
end
end DL

namespace DL
open PySem PySem.Spec PyProof.Rows L2

abbrev Env := List (Option D)

/-! ### growth -/
structure Gr (Z H Z' H' : Hp) : Prop where
  z : Ex Z Z'
  h : Ex H H'
  s : Ex Z' H'
  n : ∀ a, H a ≠ none → Z a = none → Z' a = none
theorem Gr.refl {Z H : Hp} (s : Ex Z H) : Gr Z H Z H := ⟨Ex.refl _, Ex.refl _, s, fun _ _ h => h⟩
theorem some_of_ne {H : Hp} {a : Addr} (h : H a ≠ none) : ∃ o, H a = some o := by
  cases e : H a with
  | none => exact absurd e h
  | some o => exact ⟨o, rfl⟩
theorem Ex.ne {H H' : Hp} (e : Ex H H') {a : Addr} (h : H a ≠ none) : H' a ≠ none := by
  obtain ⟨o, q⟩ := some_of_ne h
  rw [e a o q]; exact fun z => nomatch z
theorem Gr.trans {Z H Z1 H1 Z2 H2 : Hp} (a : Gr Z H Z1 H1) (b : Gr Z1 H1 Z2 H2) : Gr Z H Z2 H2 :=
  ⟨a.z.trans b.z, a.h.trans b.h, b.s, fun x hx hz => b.n x (a.h.ne hx) (a.n x hx hz)⟩
/-- a new object, frozen at once -/
theorem Gr.new {Z H : Hp} {p : Addr} {o : HO} (s : Ex Z H) (hp : H p = none) : Gr Z H (upd Z p o) (upd H p o) := by
  have zp : Z p = none := s.back hp
  refine ⟨Ex.new zp, Ex.new hp, fun a u e => ?_, fun a ha hz => ?_⟩
  · by_cases c : a = p
    · subst c; rw [upd_same] at e ⊢; exact e
    · rw [upd_ne c] at e ⊢; exact s a u e
  · have c : a ≠ p := fun c => ha (by rw [c]; exact hp)
    rw [upd_ne c]; exact hz
/-- a new object, owned -/
theorem Gr.newO {Z H : Hp} {p : Addr} {o : HO} (s : Ex Z H) (hp : H p = none) : Gr Z H Z (upd H p o) :=
  ⟨Ex.refl _, Ex.new hp, s.trans (Ex.new hp), fun _ _ h => h⟩

section
variable {K : PySem.W.Frag} {cl : Str → Addr} {Z H Z' H' : Hp}
theorem Gr.den (g : Gr Z H Z' H') {d : D} {v : V} {fp : Fp} (h : Den K cl Z H d v fp) : Den K cl Z' H' d v fp :=
  Den.mono g.z d v fp (fun a ha => by
    obtain ⟨z, xs, q⟩ := Den.own d v fp h a ha
    exact ⟨g.n a (by rw [q]; exact fun z => nomatch z) z, by rw [q]; exact g.h a _ q⟩) h
theorem Gr.dens (g : Gr Z H Z' H') {d : List D} {v : List V} {fp : Fp} (h : Dens K cl Z H d v fp) : Dens K cl Z' H' d v fp :=
  Dens.mono g.z d v fp (fun a ha => by
    obtain ⟨z, xs, q⟩ := Dens.own d v fp h a ha
    exact ⟨g.n a (by rw [q]; exact fun z => nomatch z) z, by rw [q]; exact g.h a _ q⟩) h

/-! ### the slots -/
variable (K cl) in
def Slots (Z H : Hp) : Env → L2.St → Fp → Prop
  | [], σ, fp => σ = [] ∧ fp = []
  | none :: ρ, σ, fp => ∃ o σ', σ = o :: σ' ∧ Slots Z H ρ σ' fp
  | some d :: ρ, σ, fp => ∃ v σ' f1 f2, σ = some v :: σ' ∧ fp = f1 ++ f2 ∧ Den K cl Z H d v f1 ∧ Slots Z H ρ σ' f2
theorem Slots.mono {Y H' : Hp} (e : Ex Z Y) : ∀ {ρ : Env} {σ : L2.St} {fp : Fp}, (∀ a ∈ fp, Y a = none ∧ H' a = H a) → Slots K cl Z H ρ σ fp → Slots K cl Y H' ρ σ fp
  | [], _, _, _, h => h
  | none :: ρ, σ, fp, k, h => by
    obtain ⟨o, σ', e1, r⟩ := h
    exact ⟨o, σ', e1, Slots.mono e k r⟩
  | some d :: ρ, σ, fp, k, h => by
    obtain ⟨v, σ', f1, f2, e1, e2, q, r⟩ := h
    subst e2
    exact ⟨v, σ', f1, f2, e1, rfl, Den.mono e d v f1 (fun b hb => k b (List.mem_append_left _ hb)) q, Slots.mono e (fun b hb => k b (List.mem_append_right _ hb)) r⟩
theorem Slots.own : ∀ {ρ : Env} {σ : L2.St} {fp : Fp}, Slots K cl Z H ρ σ fp → ∀ a ∈ fp, Z a = none ∧ ∃ xs, H a = some (.lst xs)
  | [], _, _, h, _, ha => by rw [h.2] at ha; cases ha
  | none :: ρ, σ, fp, h, b, hb => by
    obtain ⟨o, σ', e1, r⟩ := h
    exact Slots.own r b hb
  | some d :: ρ, σ, fp, h, b, hb => by
    obtain ⟨v, σ', f1, f2, e1, e2, q, r⟩ := h
    subst e2
    rcases List.mem_append.mp hb with hb | hb
    · exact Den.own d v f1 q b hb
    · exact Slots.own r b hb
theorem Slots.get : ∀ {ρ : Env} {σ : L2.St} {fp : Fp} {i : Nat} {d : D}, Slots K cl Z H ρ σ fp → ρ[i]? = some (some d) →
    ∃ v f, σ[i]? = some (some v) ∧ Den K cl Z H d v f ∧ f.Sublist fp
  | [], _, _, _, _, _, e => by simp at e
  | none :: ρ, σ, fp, 0, d, h, e => by simp at e
  | none :: ρ, σ, fp, i + 1, d, h, e => by
    obtain ⟨o, σ', e1, r⟩ := h
    subst e1
    obtain ⟨v, f, h1, h2, h3⟩ := Slots.get (i := i) r (by simpa using e)
    exact ⟨v, f, by simpa using h1, h2, h3⟩
  | some x :: ρ, σ, fp, 0, d, h, e => by
    obtain ⟨v, σ', f1, f2, e1, e2, q, r⟩ := h
    have e' : x = d := by simpa using e
    subst e' e1 e2
    exact ⟨v, f1, rfl, q, List.sublist_append_left _ _⟩
  | some x :: ρ, σ, fp, i + 1, d, h, e => by
    obtain ⟨v, σ', f1, f2, e1, e2, q, r⟩ := h
    subst e1 e2
    obtain ⟨u, f, h1, h2, h3⟩ := Slots.get (i := i) r (by simpa using e)
    exact ⟨u, f, by simpa using h1, h2, h3.trans (List.sublist_append_right _ _)⟩
theorem Slots.length : ∀ {ρ : Env} {σ : L2.St} {fp : Fp}, Slots K cl Z H ρ σ fp → σ.length = ρ.length
  | [], _, _, h => by rw [h.1]; rfl
  | none :: ρ, σ, fp, h => by
    obtain ⟨o, σ', e1, r⟩ := h
    subst e1
    show σ'.length + 1 = ρ.length + 1
    rw [Slots.length r]
  | some x :: ρ, σ, fp, h => by
    obtain ⟨v, σ', f1, f2, e1, e2, q, r⟩ := h
    subst e1
    show σ'.length + 1 = ρ.length + 1
    rw [Slots.length r]
theorem app_nd {f1 f2 g : Fp} (h : (f1 ++ f2).Nodup) (hg : g.Nodup) (d : ∀ a ∈ g, a ∉ f2) : (g ++ f2).Nodup := by
  rw [List.nodup_append] at h ⊢
  exact ⟨hg, h.2.1, fun a ha b hb e => d a ha (e ▸ hb)⟩
/-- a slot is stored: what it holds is disjoint of the others -/
theorem Slots.set : ∀ {ρ : Env} {σ : L2.St} {fp : Fp} {i : Nat} {d : D} {v : V} {g : Fp}, Slots K cl Z H ρ σ fp → fp.Nodup → Den K cl Z H d v g → g.Nodup → (∀ a ∈ g, a ∉ fp) → i < ρ.length →
    ∃ fp', Slots K cl Z H (ρ.set i (some d)) (σ.set i (some v)) fp' ∧ fp'.Nodup ∧ ∀ a ∈ fp', a ∈ fp ∨ a ∈ g
  | [], _, _, _, _, _, _, _, _, _, _, _, hi => absurd hi (Nat.not_lt_zero _)
  | none :: ρ, σ, fp, 0, d, v, g, h, nd, hd, ng, dj, _ => by
    obtain ⟨o, σ', e1, r⟩ := h
    subst e1
    refine ⟨g ++ fp, ⟨v, σ', g, fp, rfl, rfl, hd, r⟩, ?_, fun a ha => (List.mem_append.mp ha).symm⟩
    rw [List.nodup_append]
    exact ⟨ng, nd, fun a ha b hb e => dj a ha (e ▸ hb)⟩
  | none :: ρ, σ, fp, i + 1, d, v, g, h, nd, hd, ng, dj, hi => by
    obtain ⟨o, σ', e1, r⟩ := h
    subst e1
    obtain ⟨fp', h1, h2, h3⟩ := Slots.set (i := i) r nd hd ng dj (Nat.lt_of_succ_lt_succ hi)
    exact ⟨fp', ⟨o, _, rfl, h1⟩, h2, h3⟩
  | some x :: ρ, σ, fp, 0, d, v, g, h, nd, hd, ng, dj, _ => by
    obtain ⟨u, σ', f1, f2, e1, e2, q, r⟩ := h
    subst e1 e2
    refine ⟨g ++ f2, ⟨v, σ', g, f2, rfl, rfl, hd, r⟩, app_nd nd ng fun a ha hb => dj a ha (List.mem_append_right _ hb), fun a ha => ?_⟩
    rcases List.mem_append.mp ha with z | z
    · exact .inr z
    · exact .inl (List.mem_append_right _ z)
  | some x :: ρ, σ, fp, i + 1, d, v, g, h, nd, hd, ng, dj, hi => by
    obtain ⟨u, σ', f1, f2, e1, e2, q, r⟩ := h
    subst e1 e2
    have nd' := List.nodup_append.mp nd
    obtain ⟨fp', h1, h2, h3⟩ := Slots.set (i := i) r nd'.2.1 hd ng (fun a ha hb => dj a ha (List.mem_append_right _ hb)) (Nat.lt_of_succ_lt_succ hi)
    refine ⟨f1 ++ fp', ⟨u, _, f1, fp', rfl, rfl, q, h1⟩, ?_, fun a ha => ?_⟩
    · rw [List.nodup_append]
      refine ⟨nd'.1, h2, fun a ha b hb e => ?_⟩
      subst e
      rcases h3 a hb with z | z
      · exact nd'.2.2 a ha a z rfl
      · exact dj a z (List.mem_append_left _ ha)
    · rcases List.mem_append.mp ha with z | z
      · exact .inl (List.mem_append_left _ z)
      · rcases h3 a z with z | z
        · exact .inl (List.mem_append_right _ z)
        · exact .inr z
/-- what a slot held is known no more -/
theorem Slots.drop : ∀ {ρ : Env} {σ : L2.St} {fp : Fp} {i : Nat} {o : Option V}, Slots K cl Z H ρ σ fp → fp.Nodup →
    ∃ fp', Slots K cl Z H (ρ.set i none) (σ.set i o) fp' ∧ fp'.Nodup ∧ ∀ a ∈ fp', a ∈ fp
  | [], σ, fp, i, o, h, nd => by
    obtain ⟨e1, e2⟩ := h
    subst e1 e2
    exact ⟨[], ⟨rfl, rfl⟩, nd, fun _ z => z⟩
  | none :: ρ, σ, fp, 0, o, h, nd => by
    obtain ⟨p, σ', e1, r⟩ := h
    subst e1
    exact ⟨fp, ⟨o, σ', rfl, r⟩, nd, fun _ z => z⟩
  | none :: ρ, σ, fp, i + 1, o, h, nd => by
    obtain ⟨p, σ', e1, r⟩ := h
    subst e1
    obtain ⟨fp', h1, h2, h3⟩ := Slots.drop (i := i) (o := o) r nd
    exact ⟨fp', ⟨p, _, rfl, h1⟩, h2, h3⟩
  | some x :: ρ, σ, fp, 0, o, h, nd => by
    obtain ⟨u, σ', f1, f2, e1, e2, q, r⟩ := h
    subst e1 e2
    exact ⟨f2, ⟨o, σ', rfl, r⟩, (List.nodup_append.mp nd).2.1, fun a ha => List.mem_append_right _ ha⟩
  | some x :: ρ, σ, fp, i + 1, o, h, nd => by
    obtain ⟨u, σ', f1, f2, e1, e2, q, r⟩ := h
    subst e1 e2
    have nd' := List.nodup_append.mp nd
    obtain ⟨fp', h1, h2, h3⟩ := Slots.drop (i := i) (o := o) r nd'.2.1
    refine ⟨f1 ++ fp', ⟨u, _, f1, fp', rfl, rfl, q, h1⟩, ?_, fun a ha => ?_⟩
    · rw [List.nodup_append]
      exact ⟨nd'.1, h2, fun a ha b hb e => nd'.2.2 a ha b (h3 b hb) e⟩
    · rcases List.mem_append.mp ha with z | z
      · exact List.mem_append_left _ z
      · exact List.mem_append_right _ (h3 a z)
/-- a slot is frozen -/
theorem Slots.frz {Y : Hp} (e : Ex Z Y) : ∀ {ρ : Env} {σ : L2.St} {fp : Fp} {i : Nat} {d : D}, Slots K cl Z H ρ σ fp → fp.Nodup → ρ[i]? = some (some d) →
    ∃ (f fp' : Fp), (∀ a ∈ f, a ∈ fp) ∧ ((∀ a, Y a = if a ∈ f then H a else Z a) → Slots K cl Y H (ρ.set i (some d.frz)) σ fp') ∧ fp'.Nodup ∧ (∀ a ∈ fp', a ∈ fp) ∧ ∀ a ∈ fp', a ∉ f
  | [], _, _, _, _, _, _, e => by simp at e
  | none :: ρ, σ, fp, 0, d, h, nd, e' => by simp at e'
  | none :: ρ, σ, fp, i + 1, d, h, nd, e' => by
    obtain ⟨o, σ', e1, r⟩ := h
    subst e1
    obtain ⟨f, fp', h0, h1, h2, h3, h4⟩ := Slots.frz e (i := i) r nd (by simpa using e')
    exact ⟨f, fp', h0, fun y => ⟨o, _, rfl, h1 y⟩, h2, h3, h4⟩
  | some x :: ρ, σ, fp, 0, d, h, nd, e' => by
    obtain ⟨v, σ', f1, f2, e1, e2, q, r⟩ := h
    have ex : x = d := by simpa using e'
    subst ex e1 e2
    have nd' := List.nodup_append.mp nd
    refine ⟨f1, f2, fun a ha => List.mem_append_left _ ha, fun y => ⟨v, σ', [], f2, rfl, rfl, ?_, ?_⟩, nd'.2.1, fun a ha => List.mem_append_right _ ha, fun a ha hb => nd'.2.2 a hb a ha rfl⟩
    · exact Den.freeze e x v f1 (fun a ha => by rw [y a, if_pos ha]) q
    · refine Slots.mono e (fun a ha => ⟨?_, rfl⟩) r
      rw [y a, if_neg fun hb => nd'.2.2 a hb a ha rfl]
      exact (Slots.own r a ha).1
  | some x :: ρ, σ, fp, i + 1, d, h, nd, e' => by
    obtain ⟨v, σ', f1, f2, e1, e2, q, r⟩ := h
    subst e1 e2
    have nd' := List.nodup_append.mp nd
    obtain ⟨f, fp', h0, h1, h2, h3, h4⟩ := Slots.frz e (i := i) r nd'.2.1 (by simpa using e')
    refine ⟨f, f1 ++ fp', fun a ha => List.mem_append_right _ (h0 a ha), fun y => ⟨v, σ', f1, fp', rfl, rfl, ?_, h1 y⟩, ?_, fun a ha => ?_, fun a ha hb => ?_⟩
    · refine Den.mono e x v f1 (fun a ha => ⟨?_, rfl⟩) q
      rw [y a, if_neg fun hb => nd'.2.2 a ha a (h0 a hb) rfl]
      exact (Den.own x v f1 q a ha).1
    · rw [List.nodup_append]
      exact ⟨nd'.1, h2, fun a ha b hb e => nd'.2.2 a ha b (h3 b hb) e⟩
    · rcases List.mem_append.mp ha with z | z
      · exact List.mem_append_left _ z
      · exact List.mem_append_right _ (h3 a z)
    · rcases List.mem_append.mp ha with z | z
      · exact nd'.2.2 a z a (h0 a hb) rfl
      · exact h4 a z hb
end

/-! ### readings -/
section
variable (K : PySem.W.Frag) (cl : Str → Addr)
structure RelS (Z H : Hp) (σ : L2.St) (ρ : Env) : Prop where
  s : Ex Z H
  e : ∃ fp, Slots K cl Z H ρ σ fp ∧ fp.Nodup
/-- a value that nobody else holds the owned parts of -/
def PostV (Z H : Hp) (d : D) (Q : VK) : Prop := ∀ v Z' H' fp, Gr Z H Z' H' → Den K cl Z' H' d v fp → fp.Nodup → (∀ a ∈ fp, H a = none) → Q v H'
/-- a value, perhaps another's -/
def PostB (Z H : Hp) (d : D) (Q : VK) : Prop := ∀ v Z' H' fp, Gr Z H Z' H' → Den K cl Z' H' d v fp → Q v H'
/-- an exception's own dict -/
def ExD (Z H : Hp) (ns : List Str) (xs : List D) (dc : Option Addr) : Prop :=
  (ns = [] ∧ xs = [] ∧ dc = none) ∨ ∃ d vs, dc = some d ∧ Z d = some (.xd (ns.zip vs)) ∧ ns.length = xs.length ∧ Dens K cl Z H xs vs []
def PostX (W : WX) (Z H : Hp) (σ : L2.St) (c : Str) (ns : List Str) (xs : List D) : Prop := ∀ dc Z' H', Gr Z H Z' H' → ExD K cl Z' H' ns xs dc → W (.ref (cl c)) dc σ H'
def PostO (W : WX) (Z H : Hp) (σ : L2.St) (o : Ou D) (Q : VK) : Prop := match o with
  | .ok d => PostV K cl Z H d Q
  | .ex c ns xs => PostX K cl W Z H σ c ns xs
  | .bad => False
def PostOB (W : WX) (Z H : Hp) (σ : L2.St) (o : Ou D) (Q : VK) : Prop := match o with
  | .ok d => PostB K cl Z H d Q
  | .ex c ns xs => PostX K cl W Z H σ c ns xs
  | .bad => False
def PostT (W : WX) (Z H : Hp) (σ : L2.St) (o : Ou Bool) (Q : Bool → Hp → Prop) : Prop := match o with
  | .ok b => ∀ Z' H', Gr Z H Z' H' → Q b H'
  | .ex c ns xs => PostX K cl W Z H σ c ns xs
  | .bad => False
def PostA (W : WX) (Z H : Hp) (σ : L2.St) (o : Ou (List D)) (Q : List V → Hp → Prop) : Prop := match o with
  | .ok ds => ∀ vs Z' H' fp, Gr Z H Z' H' → Dens K cl Z' H' ds vs fp → fp.Nodup → (∀ a ∈ fp, H a = none) → Q vs H'
  | .ex c ns xs => PostX K cl W Z H σ c ns xs
  | .bad => False
def PostAB (W : WX) (Z H : Hp) (σ : L2.St) (o : Ou (List D)) (Q : List V → Hp → Prop) : Prop := match o with
  | .ok ds => ∀ vs Z' H' fp, Gr Z H Z' H' → Dens K cl Z' H' ds vs fp → Q vs H'
  | .ex c ns xs => PostX K cl W Z H σ c ns xs
  | .bad => False
def tD (W : WX) (f : Env → Ou D) : TE := fun σ H Q => ∃ Z ρ, RelS K cl Z H σ ρ ∧ PostO K cl W Z H σ (f ρ) Q
def tV (W : WX) (f : Env → Ou D) : TE := fun σ H Q => ∃ Z ρ, RelS K cl Z H σ ρ ∧ PostOB K cl W Z H σ (f ρ) Q
def tT (W : WX) (f : Env → Ou Bool) : TT := fun σ H Q => ∃ Z ρ, RelS K cl Z H σ ρ ∧ PostT K cl W Z H σ (f ρ) Q
def tDs (W : WX) (f : Env → Ou (List D)) : TA := fun σ H Q => ∃ Z ρ, RelS K cl Z H σ ρ ∧ PostA K cl W Z H σ (f ρ) Q
def tVs (W : WX) (f : Env → Ou (List D)) : TA := fun σ H Q => ∃ Z ρ, RelS K cl Z H σ ρ ∧ PostAB K cl W Z H σ (f ρ) Q
end
section
variable {K : PySem.W.Frag} {cl : Str → Addr} {Z H Z' H' : Hp} {σ : L2.St} {ρ : Env} {W : WX}
theorem RelS.gr (r : RelS K cl Z H σ ρ) (g : Gr Z H Z' H') : RelS K cl Z' H' σ ρ := by
  obtain ⟨s, fp, h, nd⟩ := r
  exact ⟨g.s, fp, Slots.mono g.z (fun a ha => by
    obtain ⟨z, xs, q⟩ := Slots.own h a ha
    exact ⟨g.n a (by rw [q]; exact fun z => nomatch z) z, by rw [q]; exact g.h a _ q⟩) h, nd⟩
theorem PostV.gr {d : D} {Q : VK} (q : PostV K cl Z H d Q) (g : Gr Z H Z' H') : PostV K cl Z' H' d Q := fun v Z2 H2 fp g2 h nd fr => q v Z2 H2 fp (g.trans g2) h nd fun a ha => g.h.back (fr a ha)
theorem PostB.gr {d : D} {Q : VK} (q : PostB K cl Z H d Q) (g : Gr Z H Z' H') : PostB K cl Z' H' d Q := fun v Z2 H2 fp g2 h => q v Z2 H2 fp (g.trans g2) h
theorem PostX.gr {c : Str} {ns : List Str} {xs : List D} (q : PostX K cl W Z H σ c ns xs) (g : Gr Z H Z' H') : PostX K cl W Z' H' σ c ns xs := fun dc Z2 H2 g2 h => q dc Z2 H2 (g.trans g2) h
theorem PostO.gr {o : Ou D} {Q : VK} (q : PostO K cl W Z H σ o Q) (g : Gr Z H Z' H') : PostO K cl W Z' H' σ o Q := by
  cases o with
  | ok d => exact PostV.gr q g
  | ex c ns xs => exact PostX.gr q g
  | bad => exact q
theorem PostOB.gr {o : Ou D} {Q : VK} (q : PostOB K cl W Z H σ o Q) (g : Gr Z H Z' H') : PostOB K cl W Z' H' σ o Q := by
  cases o with
  | ok d => exact PostB.gr q g
  | ex c ns xs => exact PostX.gr q g
  | bad => exact q
theorem PostT.gr {o : Ou Bool} {Q : Bool → Hp → Prop} (q : PostT K cl W Z H σ o Q) (g : Gr Z H Z' H') : PostT K cl W Z' H' σ o Q := by
  cases o with
  | ok d => exact fun Z2 H2 g2 => q Z2 H2 (g.trans g2)
  | ex c ns xs => exact PostX.gr q g
  | bad => exact q
theorem PostA.gr {o : Ou (List D)} {Q : List V → Hp → Prop} (q : PostA K cl W Z H σ o Q) (g : Gr Z H Z' H') : PostA K cl W Z' H' σ o Q := by
  cases o with
  | ok d => exact fun v Z2 H2 fp g2 h nd fr => q v Z2 H2 fp (g.trans g2) h nd fun a ha => g.h.back (fr a ha)
  | ex c ns xs => exact PostX.gr q g
  | bad => exact q
theorem PostAB.gr {o : Ou (List D)} {Q : List V → Hp → Prop} (q : PostAB K cl W Z H σ o Q) (g : Gr Z H Z' H') : PostAB K cl W Z' H' σ o Q := by
  cases o with
  | ok d => exact fun v Z2 H2 fp g2 h => q v Z2 H2 fp (g.trans g2) h
  | ex c ns xs => exact PostX.gr q g
  | bad => exact q
/-- a wish about an outcome, whatever its form -/
class PostLike (α : Type) where
  dummy : Unit := ()
theorem tV_bind {f : Env → Ou D} {β : Type} {k : D → Ou β} {R : VK} {P : Hp → Hp → Ou β → Prop} (r : RelS K cl Z H σ ρ) (px : ∀ c ns xs, P Z H (.ex c ns xs) → PostX K cl W Z H σ c ns xs) (pb : ¬ P Z H .bad)
    (q : P Z H (f ρ >>= k)) (h : ∀ d v Z' H' fp, f ρ = .ok d → Gr Z H Z' H' → Den K cl Z' H' d v fp → P Z H (k d) → R v H') : tV K cl W f σ H R := by
  refine ⟨Z, ρ, r, ?_⟩
  cases e : f ρ with
  | ok d =>
    rw [e] at q
    exact fun v Z' H' fp g dn => h d v Z' H' fp e g dn q
  | ex c ns xs =>
    rw [e] at q
    exact px c ns xs q
  | bad =>
    rw [e] at q
    exact pb q
theorem tD_bind {f : Env → Ou D} {β : Type} {k : D → Ou β} {R : VK} {P : Hp → Hp → Ou β → Prop} (r : RelS K cl Z H σ ρ) (px : ∀ c ns xs, P Z H (.ex c ns xs) → PostX K cl W Z H σ c ns xs) (pb : ¬ P Z H .bad)
    (q : P Z H (f ρ >>= k)) (h : ∀ d v Z' H' fp, f ρ = .ok d → Gr Z H Z' H' → Den K cl Z' H' d v fp → fp.Nodup → (∀ a ∈ fp, H a = none) → P Z H (k d) → R v H') : tD K cl W f σ H R := by
  refine ⟨Z, ρ, r, ?_⟩
  cases e : f ρ with
  | ok d =>
    rw [e] at q
    exact fun v Z' H' fp g dn nd fr => h d v Z' H' fp e g dn nd fr q
  | ex c ns xs =>
    rw [e] at q
    exact px c ns xs q
  | bad =>
    rw [e] at q
    exact pb q
theorem tVs_bind {f : Env → Ou (List D)} {β : Type} {k : List D → Ou β} {R : List V → Hp → Prop} {P : Hp → Hp → Ou β → Prop} (r : RelS K cl Z H σ ρ) (px : ∀ c ns xs, P Z H (.ex c ns xs) → PostX K cl W Z H σ c ns xs) (pb : ¬ P Z H .bad)
    (q : P Z H (f ρ >>= k)) (h : ∀ d v Z' H' fp, f ρ = .ok d → Gr Z H Z' H' → Dens K cl Z' H' d v fp → P Z H (k d) → R v H') : tVs K cl W f σ H R := by
  refine ⟨Z, ρ, r, ?_⟩
  cases e : f ρ with
  | ok d =>
    rw [e] at q
    exact fun v Z' H' fp g dn => h d v Z' H' fp e g dn q
  | ex c ns xs =>
    rw [e] at q
    exact px c ns xs q
  | bad =>
    rw [e] at q
    exact pb q
theorem tDs_bind {f : Env → Ou (List D)} {β : Type} {k : List D → Ou β} {R : List V → Hp → Prop} {P : Hp → Hp → Ou β → Prop} (r : RelS K cl Z H σ ρ) (px : ∀ c ns xs, P Z H (.ex c ns xs) → PostX K cl W Z H σ c ns xs) (pb : ¬ P Z H .bad)
    (q : P Z H (f ρ >>= k)) (h : ∀ d v Z' H' fp, f ρ = .ok d → Gr Z H Z' H' → Dens K cl Z' H' d v fp → fp.Nodup → (∀ a ∈ fp, H a = none) → P Z H (k d) → R v H') : tDs K cl W f σ H R := by
  refine ⟨Z, ρ, r, ?_⟩
  cases e : f ρ with
  | ok d =>
    rw [e] at q
    exact fun v Z' H' fp g dn nd fr => h d v Z' H' fp e g dn nd fr q
  | ex c ns xs =>
    rw [e] at q
    exact px c ns xs q
  | bad =>
    rw [e] at q
    exact pb q
theorem tT_bind {f : Env → Ou Bool} {β : Type} {k : Bool → Ou β} {R : Bool → Hp → Prop} {P : Hp → Hp → Ou β → Prop} (r : RelS K cl Z H σ ρ) (px : ∀ c ns xs, P Z H (.ex c ns xs) → PostX K cl W Z H σ c ns xs) (pb : ¬ P Z H .bad)
    (q : P Z H (f ρ >>= k)) (h : ∀ b Z' H', f ρ = .ok b → Gr Z H Z' H' → P Z H (k b) → R b H') : tT K cl W f σ H R := by
  refine ⟨Z, ρ, r, ?_⟩
  cases e : f ρ with
  | ok d =>
    rw [e] at q
    exact fun Z' H' g => h d Z' H' e g q
  | ex c ns xs =>
    rw [e] at q
    exact px c ns xs q
  | bad =>
    rw [e] at q
    exact pb q
end
end DL

namespace DL
open PySem PySem.Spec PyProof.Rows L2

/-! ### judgements -/
structure DE (X : Cx) (W : WX) (e : Expr) (f : Env → Ou D) : Prop where
  run : PE X e (tD X.K (He.ga X.K) W f)
structure DB (X : Cx) (W : WX) (e : Expr) (f : Env → Ou D) : Prop where
  run : PE X e (tV X.K (He.ga X.K) W f)
structure DT (X : Cx) (W : WX) (e : Expr) (f : Env → Ou Bool) : Prop where
  run : PT X e (tT X.K (He.ga X.K) W f)
structure DW (X : Cx) (W : WX) (e : Expr) (f : Env → Ou Bool) : Prop where
  run : PW X e (tT X.K (He.ga X.K) W f)
structure DA (X : Cx) (W : WX) (es : List Expr) (f : Env → Ou (List D)) : Prop where
  run : PA X es (tDs X.K (He.ga X.K) W f)
structure DAB (X : Cx) (W : WX) (es : List Expr) (f : Env → Ou (List D)) : Prop where
  run : PA X es (tVs X.K (He.ga X.K) W f)
  len : ∀ ρ ds, f ρ = .ok ds → ds.length = es.length
theorem PE.weak {X : Cx} {e : Expr} {t t' : TE} (h : PE X e t) (k : ∀ σ H Q, t' σ H Q → t σ H Q) : PE X e t' := ⟨fun pins s σ H Q I q => h.run pins s σ H Q I (k σ H Q q)⟩
theorem PT.weak {X : Cx} {e : Expr} {t t' : TT} (h : PT X e t) (k : ∀ σ H Q, t' σ H Q → t σ H Q) : PT X e t' := ⟨fun pins s σ H Q I q => h.run pins s σ H Q I (k σ H Q q)⟩
theorem PW.weak {X : Cx} {e : Expr} {t t' : TT} (h : PW X e t) (k : ∀ σ H Q, t' σ H Q → t σ H Q) : PW X e t' := ⟨fun wh pins s σ H Q I q => h.run wh pins s σ H Q I (k σ H Q q)⟩
theorem PA.weak {X : Cx} {es : List Expr} {t t' : TA} (h : PA X es t) (k : ∀ σ H Q, t' σ H Q → t σ H Q) : PA X es t' := ⟨fun pos pins s σ H Q I q => h.run pos pins s σ H Q I (k σ H Q q)⟩

/-! ### what operations are, by data -/
def ofO {α : Type} : Option α → Ou α
  | some a => .ok a
  | none => .bad
@[simp] theorem ofO_some {α : Type} (a : α) : ofO (some a) = .ok a := (rfl)
@[simp] theorem ofO_none {α : Type} : ofO (none : Option α) = .bad := (rfl)
section
variable (K : PySem.W.Frag) (cl : Str → Addr)
def Op2 (r : R2) (op : D → D → Option D) : Prop := ∀ (Z H : Hp) (x y d : D) (v u : V) (fx fy : Fp) (Q : VK), Ex Z H → Den K cl Z H x v fx → Den K cl Z H y u fy → op x y = some d → PostV K cl Z H d Q → r v u H Q
/-- .. as a borrowed value -/
def Op2V (r : R2) (op : D → D → Option D) : Prop := ∀ (Z H : Hp) (x y d : D) (v u : V) (fx fy : Fp) (Q : VK), Ex Z H → Den K cl Z H x v fx → Den K cl Z H y u fy → op x y = some d → PostB K cl Z H d Q → r v u H Q
def Op2B (r : R2) (op : D → D → Option Bool) : Prop := ∀ (Z H : Hp) (x y : D) (b : Bool) (v u : V) (fx fy : Fp) (Q : VK), Ex Z H → Den K cl Z H x v fx → Den K cl Z H y u fy → op x y = some b → Q (.bl b) H → r v u H Q
def Op1 (r : V → Hp → VK → Prop) (op : D → Option D) : Prop := ∀ (Z H : Hp) (x d : D) (v : V) (fx : Fp) (Q : VK), Ex Z H → Den K cl Z H x v fx → op x = some d → PostV K cl Z H d Q → r v H Q
def OpN (r : List V → Hp → VK → Prop) (op : List D → Option D) : Prop := ∀ (Z H : Hp) (xs : List D) (d : D) (vs : List V) (fp : Fp) (Q : VK), Ex Z H → Dens K cl Z H xs vs fp → op xs = some d → PostV K cl Z H d Q → r vs H Q
end
section
variable {K : PySem.W.Frag} {cl : Str → Addr} {Z H Z' H' : Hp}
theorem PostV.val {d : D} {v : V} {Q : VK} (s : Ex Z H) (h : Den K cl Z H d v []) (q : PostV K cl Z H d Q) : Q v H := q v Z H [] (Gr.refl s) h List.nodup_nil fun _ z => nomatch z
theorem PostV.int {i : Int} {Q : VK} (s : Ex Z H) (q : PostV K cl Z H (.int i) Q) : Q (.int i) H := PostV.val (d := .int i) s ⟨rfl, rfl⟩ q
theorem PostV.bl {b : Bool} {Q : VK} (s : Ex Z H) (q : PostV K cl Z H (.bl b) Q) : Q (.bl b) H := PostV.val (d := .bl b) s ⟨rfl, rfl⟩ q
theorem PostV.str {x : Str} {Q : VK} (s : Ex Z H) (q : PostV K cl Z H (.str x) Q) : Q (.str x) H := PostV.val (d := .str x) s ⟨rfl, rfl⟩ q
theorem PostV.non {Q : VK} (s : Ex Z H) (q : PostV K cl Z H .non Q) : Q .non H := PostV.val (d := .non) s ⟨rfl, rfl⟩ q
theorem PostV.toB {d : D} {Q : VK} (q : PostB K cl Z H d Q) : PostV K cl Z H d Q := fun v Z' H' fp g h _ _ => q v Z' H' fp g h
theorem PostOB.toO {W : WX} {σ : L2.St} {o : Ou D} {Q : VK} (q : PostOB K cl W Z H σ o Q) : PostO K cl W Z H σ o Q := by
  cases o with
  | ok d => exact PostV.toB q
  | ex c ns xs => exact q
  | bad => exact q
/-- a new tuple of items that nobody else holds -/
theorem PostV.tup {ds : List D} {vs : List V} {fp : Fp} {Q : VK} {Z0 H0 : Hp} (q : PostV K cl Z0 H0 (.tup ds) Q) (g : Gr Z0 H0 Z H) (h : Dens K cl Z H ds vs fp) (nd : fp.Nodup) (fr : ∀ a ∈ fp, H0 a = none) (p : Addr) (hp : H p = none) :
    Q (.ref p) (upd H p (.tup vs)) := by
  have g1 : Gr Z H (upd Z p (.tup vs)) (upd H p (.tup vs)) := Gr.new g.s hp
  refine q (.ref p) _ _ fp (g.trans g1) ?_ nd fr
  simp only [Den]
  exact ⟨p, vs, rfl, .inl (.inl upd_same), g1.dens h⟩
theorem PostV.lst {ds : List D} {vs : List V} {fp : Fp} {Q : VK} {Z0 H0 : Hp} (q : PostV K cl Z0 H0 (.lst true ds) Q) (g : Gr Z0 H0 Z H) (h : Dens K cl Z H ds vs fp) (nd : fp.Nodup) (fr : ∀ a ∈ fp, H0 a = none) (p : Addr) (hp : H p = none) :
    Q (.ref p) (upd H p (.lst vs)) := by
  have g1 : Gr Z H Z (upd H p (.lst vs)) := Gr.newO g.s hp
  have np : p ∉ fp := fun hm => by
    obtain ⟨_, xs, e⟩ := Dens.own ds vs fp h p hm
    rw [hp] at e; cases e
  refine q (.ref p) Z _ (p :: fp) (g.trans g1) ?_ (List.nodup_cons.mpr ⟨np, nd⟩) fun a ha => ?_
  · simp only [Den]
    exact ⟨p, vs, fp, rfl, rfl, g.s.back hp, upd_same, g1.dens h⟩
  · rcases List.mem_cons.mp ha with e | e
    · subst e; exact g.h.back hp
    · exact fr a e
/-- .. of frozen items, seen from here -/
theorem PostV.tup0 {ds : List D} {vs : List V} {Q : VK} (q : PostV K cl Z H (.tup ds) Q) (s : Ex Z H) (h : Dens K cl Z H ds vs []) (p : Addr) (hp : H p = none) : Q (.ref p) (upd H p (.tup vs)) :=
  q.tup (Gr.refl s) h List.nodup_nil (fun _ z => nomatch z) p hp
theorem PostV.lst0 {ds : List D} {vs : List V} {Q : VK} (q : PostV K cl Z H (.lst true ds) Q) (s : Ex Z H) (h : Dens K cl Z H ds vs []) (p : Addr) (hp : H p = none) : Q (.ref p) (upd H p (.lst vs)) :=
  q.lst (Gr.refl s) h List.nodup_nil (fun _ z => nomatch z) p hp
theorem Den.lstH {o : Bool} {ds : List D} {v : V} {fp : Fp} (s : Ex Z H) (h : Den K cl Z H (.lst o ds) v fp) : ∃ a vs f, v = .ref a ∧ H a = some (.lst vs) ∧ Dens K cl Z H ds vs f ∧ (∀ b ∈ f, b ∈ fp) ∧ f.Sublist fp := by
  cases o with
  | true =>
    simp only [Den] at h
    obtain ⟨a, vs, fq, e1, e2, z, q, r⟩ := h
    subst e2
    exact ⟨a, vs, fq, e1, q, r, fun b hb => List.mem_cons_of_mem _ hb, List.sublist_cons_self _ _⟩
  | false =>
    simp only [Den] at h
    obtain ⟨a, vs, e1, e2, q, r⟩ := h
    exact ⟨a, vs, [], e1, s _ _ q, r, (fun _ z => nomatch z), List.nil_sublist _⟩
theorem Den.tupH {ds : List D} {v : V} {fp : Fp} (s : Ex Z H) (h : Den K cl Z H (.tup ds) v fp) : ∃ a vs, v = .ref a ∧ SqT K H a vs ∧ SqT K Z a vs ∧ Dens K cl Z H ds vs fp := by
  simp only [Den] at h
  obtain ⟨a, vs, e1, q, r⟩ := h
  exact ⟨a, vs, e1, s.sqT q, q, r⟩
theorem Den.int {i : Int} {v : V} {fp : Fp} (h : Den K cl Z H (.int i) v fp) : v = .int i := h.1
end

/-! ### the small rules -/
def dC (d : D) : Env → Ou D := fun _ => .ok d
def dVar (i : Nat) : Env → Ou D := fun ρ => match ρ[i]? with
  | some (some d) => .ok d
  | _ => .bad
def dFz (f : Env → Ou D) : Env → Ou D := fun ρ => f ρ >>= fun d => if d.fz then .ok d else .bad
def d1 (op : D → Option D) (f : Env → Ou D) : Env → Ou D := fun ρ => f ρ >>= fun x => ofO (op x)
def d2 (op : D → D → Option D) (f g : Env → Ou D) : Env → Ou D := fun ρ => f ρ >>= fun x => g ρ >>= fun y => ofO (op x y)
def b2 (op : D → D → Option Bool) (f g : Env → Ou D) : Env → Ou Bool := fun ρ => f ρ >>= fun x => g ρ >>= fun y => ofO (op x y)
def dN (op : List D → Option D) (f : Env → Ou (List D)) : Env → Ou D := fun ρ => f ρ >>= fun xs => ofO (op xs)
def dBl (f : Env → Ou Bool) : Env → Ou D := fun ρ => f ρ >>= fun b => .ok (.bl b)
def aNil : Env → Ou (List D) := fun _ => .ok []
def aCons (f : Env → Ou D) (g : Env → Ou (List D)) : Env → Ou (List D) := fun ρ => f ρ >>= fun x => g ρ >>= fun xs => .ok (x :: xs)
def LIM : Nat := 1000000
theorem lim_le {n : Nat} (h : n ≤ LIM) : n ≤ sizeLine := Nat.le_trans h (by decide)
theorem lim_lt {n : Nat} (h : n < LIM) : n < sizeLine := Nat.lt_of_lt_of_le h (by decide)
def dTup (f : Env → Ou (List D)) : Env → Ou D := fun ρ => f ρ >>= fun xs => if xs.length ≤ LIM then .ok (.tup xs) else .bad
def dLst (f : Env → Ou (List D)) : Env → Ou D := fun ρ => f ρ >>= fun xs => if xs.length ≤ LIM then .ok (.lst true xs) else .bad

section
variable {X : Cx} {W : WX} {a b e : Expr} {f g : Env → Ou D} {pos : Pos}
theorem DB.ofE (h : DE X W e f) : DB X W e f := ⟨PE.weak h.run fun σ H Q ⟨Z, ρ, r, q⟩ => ⟨Z, ρ, r, q.toO⟩⟩
theorem DE.ofB (h : DB X W e f) : DE X W e (dFz f) := by
  refine ⟨PE.weak h.run fun σ H Q hq => ?_⟩
  obtain ⟨Z, ρ, r, q⟩ := hq
  refine tV_bind (P := fun Z H o => PostO X.K (He.ga X.K) W Z H σ o Q) r (fun _ _ _ z => z) (fun z => z) q fun d v Z' H' fp ed gr dn q => ?_
  by_cases c : d.fz = true
  · rw [if_pos c] at q
    have e := Den.fz d v fp c dn
    subst e
    exact q v Z' H' [] gr dn List.nodup_nil fun _ z => nomatch z
  · rw [if_neg c] at q
    exact q.elim
theorem DE.int {i j p} : DE X W (.Constant (.int i) j p) (dC (.int i)) := ⟨PE.weak pe_int fun σ H Q ⟨Z, ρ, r, q⟩ => PostV.int r.s q⟩
theorem DE.bl {b j p} : DE X W (.Constant (.bool b) j p) (dC (.bl b)) := ⟨PE.weak pe_bl fun σ H Q ⟨Z, ρ, r, q⟩ => PostV.bl r.s q⟩
theorem DE.non {j p} : DE X W (.Constant .none j p) (dC .non) := ⟨PE.weak pe_non fun σ H Q ⟨Z, ρ, r, q⟩ => PostV.non r.s q⟩
theorem DE.str {x j p} : DE X W (.Constant (.str x) j p) (dC (.str x)) := ⟨PE.weak pe_str fun σ H Q ⟨Z, ρ, r, q⟩ => PostV.str r.s q⟩
theorem DB.var (i : Nat) {x : Str} {p : Pos} (hN : X.N[i]? = some x := by rfl) (hv : Vis X.env.scope x := by first | exact Or.inl rfl | exact Or.inr (Or.inl rfl) | exact Or.inr (Or.inr rfl)) (hd : (x == ("__debug__" : Str)) = false := by decide)
    (hcd : (x == ("__classdict__" : Str)) = false := by decide) : DB X W (.Name x p) (dVar i) := by
  refine ⟨PE.weak (pv i hN hv hd hcd) fun σ H Q hq => ?_⟩
  obtain ⟨Z, ρ, ⟨s, fp, sl, nd⟩, q⟩ := hq
  unfold dVar at q
  match e : ρ[i]? with
  | some (some d) =>
    rw [e] at q
    obtain ⟨v, f, h1, h2, h3⟩ := Slots.get sl e
    exact ⟨v, h1, q v Z H f (Gr.refl s) h2⟩
  | some none => rw [e] at q; exact q.elim
  | none => rw [e] at q; exact q.elim
theorem DE.op2 {op : Operator} {r : R2} {k : D → D → Option D} (ho : OpR X (binaryOp op) r) (hk : Op2 X.K (He.ga X.K) r k) (ha : DB X W a f) (hb : DB X W b g) : DE X W (.BinOp a op b pos) (d2 k f g) := by
  refine ⟨PE.weak (pe_op ho ha.run hb.run) fun σ H Q hq => ?_⟩
  obtain ⟨Z, ρ, r, q⟩ := hq
  refine tV_bind (P := fun Z H o => PostO X.K (He.ga X.K) W Z H σ o Q) r (fun _ _ _ z => z) (fun z => z) q fun x v Z1 H1 fx ex g1 dx q => ?_
  refine tV_bind (P := fun Z H o => PostO X.K (He.ga X.K) W Z H σ o Q) (r.gr g1) (fun _ _ _ z => z) (fun z => z) (q.gr g1) fun y u Z2 H2 fy ey g2 dy q => ?_
  have q := PostO.gr q g2
  match e : k x y with
  | some d =>
    rw [e] at q
    exact hk Z2 H2 x y d v u fx fy Q g2.s (g2.den dx) dy e q
  | none => rw [e] at q; exact q.elim
theorem DE.op1 {op : UnaryOp} {r : V → Hp → VK → Prop} {k : D → Option D} (ho : UnR X (unaryOp op) r) (hk : Op1 X.K (He.ga X.K) r k) (ha : DB X W a f) : DE X W (.UnaryOp op a pos) (d1 k f) := by
  refine ⟨PE.weak (pe_un ho ha.run) fun σ H Q hq => ?_⟩
  obtain ⟨Z, ρ, r, q⟩ := hq
  refine tV_bind (P := fun Z H o => PostO X.K (He.ga X.K) W Z H σ o Q) r (fun _ _ _ z => z) (fun z => z) q fun x v Z1 H1 fx ex g1 dx q => ?_
  have q := PostO.gr q g1
  match e : k x with
  | some d =>
    rw [e] at q
    exact hk Z1 H1 x d v fx Q g1.s dx e q
  | none => rw [e] at q; exact q.elim
theorem DE.cmp {op : CmpOp} {r : R2} {k : D → D → Option Bool} (ho : OpR X (compareOp op) r) (hk : Op2B X.K (He.ga X.K) r k) (ha : DB X W a f) (hb : DB X W b g) (hm : behindInMarks op b = false) : DE X W (.Compare a [op] [b] pos) (dBl (b2 k f g)) := by
  refine ⟨PE.weak (pe_cmpR ho ha.run hb.run hm) fun σ H Q hq => ?_⟩
  obtain ⟨Z, ρ, r, q⟩ := hq
  have e0 : dBl (b2 k f g) ρ = (f ρ >>= fun x => g ρ >>= fun y => ofO (k x y) >>= fun b => .ok (.bl b)) := by
    unfold dBl b2
    cases f ρ with
    | ok x => cases g ρ <;> rfl
    | ex => rfl
    | bad => rfl
  rw [e0] at q
  refine tV_bind (P := fun Z H o => PostO X.K (He.ga X.K) W Z H σ o Q) r (fun _ _ _ z => z) (fun z => z) q fun x v Z1 H1 fx ex g1 dx q => ?_
  refine tV_bind (P := fun Z H o => PostO X.K (He.ga X.K) W Z H σ o Q) (r.gr g1) (fun _ _ _ z => z) (fun z => z) (q.gr g1) fun y u Z2 H2 fy ey g2 dy q => ?_
  have q := PostO.gr q g2
  match e : k x y with
  | some b =>
    rw [e] at q
    exact hk Z2 H2 x y b v u fx fy Q g2.s (g2.den dx) dy e (PostV.bl g2.s q)
  | none => rw [e] at q; exact q.elim
theorem DT.cmp {op : CmpOp} {r : R2} {k : D → D → Option Bool} (ho : OpR X (compareOp op) r) (hk : Op2B X.K (He.ga X.K) r k) (ha : DB X W a f) (hb : DB X W b g) (hm : behindInMarks op b = false) : DT X W (.Compare a [op] [b] pos) (b2 k f g) := by
  refine ⟨PT.weak (pt_cmpR ho ha.run hb.run hm) fun σ H Q hq => ?_⟩
  obtain ⟨Z, ρ, r, q⟩ := hq
  refine tV_bind (P := fun Z H o => PostT X.K (He.ga X.K) W Z H σ o Q) r (fun _ _ _ z => z) (fun z => z) q fun x v Z1 H1 fx ex g1 dx q => ?_
  refine tV_bind (P := fun Z H o => PostT X.K (He.ga X.K) W Z H σ o Q) (r.gr g1) (fun _ _ _ z => z) (fun z => z) (q.gr g1) fun y u Z2 H2 fy ey g2 dy q => ?_
  have q := PostT.gr q g2
  match e : k x y with
  | some b =>
    rw [e] at q
    exact hk Z2 H2 x y b v u fx fy _ g2.s (g2.den dx) dy e ⟨b, rfl, q Z2 H2 (Gr.refl g2.s)⟩
  | none => rw [e] at q; exact q.elim
/-! ### argument lists -/
variable {es : List Expr} {t : Env → Ou (List D)}
theorem DA.nil : DA X W [] aNil := ⟨PA.weak pa_nil fun σ H Q ⟨Z, ρ, r, q⟩ => q [] Z H [] (Gr.refl r.s) ⟨rfl, rfl⟩ List.nodup_nil fun _ z => nomatch z⟩
theorem DAB.nil : DAB X W [] aNil := ⟨PA.weak pa_nil fun σ H Q ⟨Z, ρ, r, q⟩ => q [] Z H [] (Gr.refl r.s) ⟨rfl, rfl⟩, fun ρ ds e => by cases e; rfl⟩
theorem DA.cons (h : DE X W e f) (hr : DA X W es t) (hs : starEach (e :: es) X.env = (false, eval e X.env) :: starEach es X.env := by rfl) : DA X W (e :: es) (aCons f t) := by
  refine ⟨PA.weak (pa_cons h.run hr.run hs) fun σ H Q hq => ?_⟩
  obtain ⟨Z, ρ, r, q⟩ := hq
  refine tD_bind (P := fun Z H o => PostA X.K (He.ga X.K) W Z H σ o Q) r (fun _ _ _ z => z) (fun z => z) q fun x v Z1 H1 fx ex g1 dx nx fx' q => ?_
  refine ⟨Z1, ρ, r.gr g1, ?_⟩
  match e : t ρ with
  | .ok ds =>
    rw [e] at q
    refine fun vs Z2 H2 fp g2 dn nd fr => q (v :: vs) Z2 H2 (fx ++ fp) (g1.trans g2) (Dens.cons (g2.den dx) dn) ?_ fun a ha => ?_
    · rw [List.nodup_append]
      refine ⟨nx, nd, fun a ha b hb e => ?_⟩
      subst e
      obtain ⟨_, xs, q1⟩ := Den.own x v fx dx a ha
      rw [fr a hb] at q1; cases q1
    · rcases List.mem_append.mp ha with z | z
      · exact fx' a z
      · exact g1.h.back (fr a z)
  | .ex c ns xs =>
    rw [e] at q
    exact PostX.gr q g1
  | .bad =>
    rw [e] at q
    exact q.elim
theorem DAB.cons (h : DB X W e f) (hr : DAB X W es t) (hs : starEach (e :: es) X.env = (false, eval e X.env) :: starEach es X.env := by rfl) : DAB X W (e :: es) (aCons f t) := by
  refine ⟨PA.weak (pa_cons h.run hr.run hs) fun σ H Q hq => ?_, fun ρ ds e => ?_⟩
  rotate_left
  · unfold aCons at e
    cases e1 : f ρ with
    | ok x =>
      rw [e1] at e
      cases e2 : t ρ with
      | ok xs =>
        have e : (t ρ >>= fun xs => Ou.ok (x :: xs)) = .ok ds := e
        rw [e2] at e
        cases e
        exact congrArg (· + 1) (hr.len ρ xs e2)
      | ex c ns xs =>
        have e : (t ρ >>= fun xs => Ou.ok (x :: xs)) = .ok ds := e
        rw [e2] at e
        cases e
      | bad =>
        have e : (t ρ >>= fun xs => Ou.ok (x :: xs)) = .ok ds := e
        rw [e2] at e
        cases e
    | ex c ns xs => rw [e1] at e; cases e
    | bad => rw [e1] at e; cases e
  obtain ⟨Z, ρ, r, q⟩ := hq
  refine tV_bind (P := fun Z H o => PostAB X.K (He.ga X.K) W Z H σ o Q) r (fun _ _ _ z => z) (fun z => z) q fun x v Z1 H1 fx ex g1 dx q => ?_
  refine ⟨Z1, ρ, r.gr g1, ?_⟩
  match e : t ρ with
  | .ok ds =>
    rw [e] at q
    exact fun vs Z2 H2 fp g2 dn => q (v :: vs) Z2 H2 (fx ++ fp) (g1.trans g2) (Dens.cons (g2.den dx) dn)
  | .ex c ns xs =>
    rw [e] at q
    exact PostX.gr q g1
  | .bad =>
    rw [e] at q
    exact q.elim
theorem DE.tup {x1} (h : DA X W es t) : DE X W (.Tuple es x1 pos) (dTup t) := by
  refine ⟨PE.weak (pe_tup h.run) fun σ H Q hq => ?_⟩
  obtain ⟨Z, ρ, r, q⟩ := hq
  refine tDs_bind (P := fun Z H o => PostO X.K (He.ga X.K) W Z H σ o Q) r (fun _ _ _ z => z) (fun z => z) q fun ds vs Z1 H1 fp ex g1 dn nd fr q => ?_
  by_cases c : ds.length ≤ LIM
  · rw [if_pos c] at q
    exact ⟨by rw [dn.length]; exact lim_le c, fun p hp => PostV.tup q g1 dn nd fr p hp⟩
  · rw [if_neg c] at q; exact q.elim
theorem DE.lst (h : DA X W es t) : DE X W (.List es pos) (dLst t) := by
  refine ⟨PE.weak (pe_lst h.run) fun σ H Q hq => ?_⟩
  obtain ⟨Z, ρ, r, q⟩ := hq
  refine tDs_bind (P := fun Z H o => PostO X.K (He.ga X.K) W Z H σ o Q) r (fun _ _ _ z => z) (fun z => z) q fun ds vs Z1 H1 fp ex g1 dn nd fr q => ?_
  by_cases c : ds.length ≤ LIM
  · rw [if_pos c] at q
    exact ⟨by rw [dn.length]; exact lim_le c, fun p hp => PostV.lst q g1 dn nd fr p hp⟩
  · rw [if_neg c] at q; exact q.elim
end

/-! ### tests -/
def tru : D → Option Bool
  | .non => some false
  | .bl b => some b
  | .int i => some (i != 0)
  | .str x => if x.length ≤ LIM then some ((x.length : Int) != 0) else none
  | .tup xs => some (!xs.isEmpty)
  | .lst _ xs => some (!xs.isEmpty)
  | _ => none
def bTru (f : Env → Ou D) : Env → Ou Bool := fun ρ => f ρ >>= fun d => ofO (tru d)
def bNot (f : Env → Ou Bool) : Env → Ou Bool := fun ρ => f ρ >>= fun b => .ok (!b)
def bAnd (f g : Env → Ou Bool) : Env → Ou Bool := fun ρ => f ρ >>= fun b => if b then g ρ else .ok false
def bOr (f g : Env → Ou Bool) : Env → Ou Bool := fun ρ => f ρ >>= fun b => if b then .ok true else g ρ
def dAnd (f g : Env → Ou D) : Env → Ou D := fun ρ => f ρ >>= fun d => ofO (tru d) >>= fun b => if b then g ρ else .ok d
def dOr (f g : Env → Ou D) : Env → Ou D := fun ρ => f ρ >>= fun d => ofO (tru d) >>= fun b => if b then .ok d else g ρ
def dNot (f : Env → Ou D) : Env → Ou D := fun ρ => f ρ >>= fun d => ofO (tru d) >>= fun b => .ok (.bl (!b))
def dIf (c : Env → Ou Bool) (f g : Env → Ou D) : Env → Ou D := fun ρ => c ρ >>= fun b => if b then f ρ else g ρ
theorem tru_ok' {K : PySem.W.Frag} {cl : Str → Addr} {Z H : Hp} (s : Ex Z H) : ∀ {d : D} {v : V} {fp : Fp} {b : Bool}, Den K cl Z H d v fp → tru d = some b → TruV K v H b
  | .non, v, fp, b, h, e => by
    rw [h.1]; exact (Option.some.inj e).symm
  | .bl c, v, fp, b, h, e => by
    rw [h.1]; exact (Option.some.inj e).symm
  | .int i, v, fp, b, h, e => by
    rw [h.1]; exact (Option.some.inj e).symm
  | .str x, v, fp, b, h, e => by
    rw [h.1]
    have e : (if x.length ≤ LIM then some ((x.length : Int) != 0) else none) = some b := e
    by_cases c : x.length ≤ LIM
    · rw [if_pos c] at e
      exact ⟨lim_le c, (Option.some.inj e).symm⟩
    · rw [if_neg c] at e; cases e
  | .tup xs, v, fp, b, h, e => by
    obtain ⟨a, vs, e1, q, _, r⟩ := h.tupH s
    subst e1
    have e' : (!xs.isEmpty) = b := Option.some.inj e
    refine .inr (.inl ⟨vs, q, ?_⟩)
    rw [← e']
    have l := r.length
    cases vs <;> cases xs <;> simp_all
  | .lst o xs, v, fp, b, h, e => by
    obtain ⟨a, vs, f, e1, q, r, _⟩ := h.lstH s
    subst e1
    have e' : (!xs.isEmpty) = b := Option.some.inj e
    refine .inl ⟨vs, .inl (.inl q), ?_⟩
    rw [← e']
    have l := r.length
    cases vs <;> cases xs <;> simp_all
  | .ins _ _ _, _, _, _, _, e => nomatch e
  | .scr _, _, _, _, _, e => nomatch e
  | .adr _, _, _, _, _, e => nomatch e
  | .cls _, _, _, _, _, e => nomatch e
section
variable {X : Cx} {W : WX} {a b c e : Expr} {f g : Env → Ou D} {p q : Env → Ou Bool} {pos : Pos} {rest : List Expr}
theorem DT.tru (h : DB X W e f) (he : ∀ whole, isTrue e X.env whole = (do let v ← whole; standAt e.pos; holding [v] (truthy v)) := by intro _; rfl) : DT X W e (bTru f) := by
  refine ⟨PT.weak (pt_truth h.run he) fun σ H Q hq => ?_⟩
  obtain ⟨Z, ρ, r, q⟩ := hq
  refine tV_bind (P := fun Z H o => PostT X.K (He.ga X.K) W Z H σ o Q) r (fun _ _ _ z => z) (fun z => z) q fun x v Z1 H1 fx ex g1 dx q => ?_
  match e : DL.tru x with
  | some b =>
    rw [e] at q
    exact ⟨b, tru_ok' g1.s dx e, q Z1 H1 g1⟩
  | none => rw [e] at q; exact q.elim
theorem DT.not (h : DT X W a p) : DT X W (.UnaryOp .Not a pos) (bNot p) := by
  refine ⟨PT.weak (pt_not h.run) fun σ H Q hq => ?_⟩
  obtain ⟨Z, ρ, r, q⟩ := hq
  exact tT_bind (P := fun Z H o => PostT X.K (He.ga X.K) W Z H σ o Q) r (fun _ _ _ z => z) (fun z => z) q fun b Z1 H1 eb g1 q => q Z1 H1 g1
theorem DT.ofW (h : DW X W e p) : DT X W e p := ⟨h.run.pt⟩
theorem DW.and1 (h : DT X W a p) : DW X W (.BoolOp .And [a] pos) p := ⟨pw_and1 h.run⟩
theorem DW.or1 (h : DT X W a p) : DW X W (.BoolOp .Or [a] pos) p := ⟨pw_or1 h.run⟩
theorem DW.and (h : DT X W a p) (k : DW X W (.BoolOp .And (b :: rest) pos) q) : DW X W (.BoolOp .And (a :: b :: rest) pos) (bAnd p q) := by
  refine ⟨PW.weak (pw_and h.run k.run) fun σ H Q hq => ?_⟩
  obtain ⟨Z, ρ, r, h⟩ := hq
  refine tT_bind (P := fun Z H o => PostT X.K (He.ga X.K) W Z H σ o Q) r (fun _ _ _ z => z) (fun z => z) h fun b Z1 H1 eb g1 h => ?_
  cases b with
  | true => exact ⟨Z1, ρ, r.gr g1, PostT.gr h g1⟩
  | false => exact h Z1 H1 g1
theorem DW.or (h : DT X W a p) (k : DW X W (.BoolOp .Or (b :: rest) pos) q) : DW X W (.BoolOp .Or (a :: b :: rest) pos) (bOr p q) := by
  refine ⟨PW.weak (pw_or h.run k.run) fun σ H Q hq => ?_⟩
  obtain ⟨Z, ρ, r, h⟩ := hq
  refine tT_bind (P := fun Z H o => PostT X.K (He.ga X.K) W Z H σ o Q) r (fun _ _ _ z => z) (fun z => z) h fun b Z1 H1 eb g1 h => ?_
  cases b with
  | true => exact h Z1 H1 g1
  | false => exact ⟨Z1, ρ, r.gr g1, PostT.gr h g1⟩
theorem DE.one {op} (h : DE X W a f) : DE X W (.BoolOp op [a] pos) f := ⟨pe_one h.run⟩
theorem DE.and (h : DE X W a f) (k : DE X W (.BoolOp .And (b :: rest) pos) g) : DE X W (.BoolOp .And (a :: b :: rest) pos) (dAnd f g) := by
  refine ⟨PE.weak (pe_andT h.run k.run) fun σ H Q hq => ?_⟩
  obtain ⟨Z, ρ, r, h⟩ := hq
  refine tD_bind (P := fun Z H o => PostO X.K (He.ga X.K) W Z H σ o Q) r (fun _ _ _ z => z) (fun z => z) h fun d v Z1 H1 fp eb g1 dn nd fr h => ?_
  match e : DL.tru d with
  | some b =>
    rw [e] at h
    refine ⟨b, tru_ok' g1.s dn e, ?_⟩
    cases b with
    | true => exact ⟨Z1, ρ, r.gr g1, PostO.gr h g1⟩
    | false => exact h v Z1 H1 fp g1 dn nd fr
  | none => rw [e] at h; exact h.elim
theorem DE.or (h : DE X W a f) (k : DE X W (.BoolOp .Or (b :: rest) pos) g) : DE X W (.BoolOp .Or (a :: b :: rest) pos) (dOr f g) := by
  refine ⟨PE.weak (pe_orT h.run k.run) fun σ H Q hq => ?_⟩
  obtain ⟨Z, ρ, r, h⟩ := hq
  refine tD_bind (P := fun Z H o => PostO X.K (He.ga X.K) W Z H σ o Q) r (fun _ _ _ z => z) (fun z => z) h fun d v Z1 H1 fp eb g1 dn nd fr h => ?_
  match e : DL.tru d with
  | some b =>
    rw [e] at h
    refine ⟨b, tru_ok' g1.s dn e, ?_⟩
    cases b with
    | true => exact h v Z1 H1 fp g1 dn nd fr
    | false => exact ⟨Z1, ρ, r.gr g1, PostO.gr h g1⟩
  | none => rw [e] at h; exact h.elim
theorem DE.not (h : DB X W a f) : DE X W (.UnaryOp .Not a pos) (dNot f) := by
  refine ⟨PE.weak (pe_notT h.run) fun σ H Q hq => ?_⟩
  obtain ⟨Z, ρ, r, h⟩ := hq
  refine tV_bind (P := fun Z H o => PostO X.K (He.ga X.K) W Z H σ o Q) r (fun _ _ _ z => z) (fun z => z) h fun d v Z1 H1 fp eb g1 dn h => ?_
  match e : DL.tru d with
  | some b =>
    rw [e] at h
    exact ⟨b, tru_ok' g1.s dn e, PostV.bl g1.s (PostO.gr h g1)⟩
  | none => rw [e] at h; exact h.elim
theorem DE.ifx (h : DT X W c p) (ha : DE X W a f) (hb : DE X W b g) : DE X W (.IfExp c a b pos) (dIf p f g) := by
  refine ⟨PE.weak (pe_ifExp h.run ha.run hb.run) fun σ H Q hq => ?_⟩
  obtain ⟨Z, ρ, r, h⟩ := hq
  refine tT_bind (P := fun Z H o => PostO X.K (He.ga X.K) W Z H σ o Q) r (fun _ _ _ z => z) (fun z => z) h fun b Z1 H1 eb g1 h => ?_
  cases b with
  | true => exact ⟨Z1, ρ, r.gr g1, PostO.gr h g1⟩
  | false => exact ⟨Z1, ρ, r.gr g1, PostO.gr h g1⟩
end
end DL

namespace DL
open PySem PySem.Spec PyProof.Rows L2

/-! ### arithmetic -/
def rAddA (K : PySem.W.Frag) : R2 := fun x y H Q => (((rI0 fun i j => .int (i + j)) x y H Q ∨ (fun x y H Q => ∃ i j, x = .str i ∧ y = .str j ∧ i.length + j.length ≤ sizeLine ∧ Q (.str (i ++ j)) H) x y H Q) ∨ rCat x y H Q) ∨ rCatA K x y H Q
theorem op_addA {X : Cx} : OpR X (binaryOp .Add) (rAddA X.K) := ((op_add.or op_add_str).or op_cat).or op_catA
def addD : D → D → Option D
  | .int i, .int j => some (.int (i + j))
  | .str x, .str y => if x.length + y.length ≤ LIM then some (.str (x ++ y)) else none
  | .lst _ xs, .lst _ ys => if D.fzs xs && D.fzs ys && decide (xs.length + ys.length ≤ LIM) then some (.lst true (xs ++ ys)) else none
  | .tup xs, .tup ys => if D.fzs xs && D.fzs ys && decide (xs.length + ys.length ≤ LIM) then some (.tup (xs ++ ys)) else none
  | _, _ => none
def subD : D → D → Option D
  | .int i, .int j => some (.int (i - j))
  | _, _ => none
def mulOk (i j : Int) : Bool := decide ((-18446744073709551616 < i ∧ i < 18446744073709551616) ∨ (-18446744073709551616 < j ∧ j < 18446744073709551616))
def mulD : D → D → Option D
  | .int i, .int j => if mulOk i j then some (.int (i * j)) else none
  | .lst _ xs, .int k => if D.fzs xs && decide (-1000000 ≤ k) && decide (k ≤ 1000000) && decide (xs.length * k.toNat ≤ LIM) then some (.lst true (List.replicate k.toNat xs).flatten) else none
  | _, _ => none
def divOk (j : Int) : Bool := decide (0 < j ∧ j < 1000000000000000000000000000000)
def fdivD : D → D → Option D
  | .int i, .int j => if divOk j then some (.int (i / j)) else none
  | _, _ => none
def modD : D → D → Option D
  | .int i, .int j => if 0 < j then some (.int (i % j)) else none
  | _, _ => none
def powD : D → D → Option D
  | .int i, .int j => if decide (0 ≤ j ∧ j ≤ 1000000 ∧ i.natAbs < 18446744073709551616) then some (.int (i ^ j.toNat)) else none
  | _, _ => none
def negD : D → Option D
  | .int i => some (.int (-i))
  | _ => none
theorem fzs_app {xs ys : List D} : D.fzs (xs ++ ys) = (D.fzs xs && D.fzs ys) := by
  induction xs with
  | nil => rfl
  | cons x xs ih => show (x.fz && D.fzs (xs ++ ys)) = ((x.fz && D.fzs xs) && D.fzs ys); rw [ih, Bool.and_assoc]
section
variable {K : PySem.W.Frag} {cl : Str → Addr} {Z H Z' H' : Hp}
theorem Dens.fz0 {ds : List D} {vs : List V} {fp : Fp} (c : D.fzs ds = true) (h : Dens K cl Z H ds vs fp) : Dens K cl Z H ds vs [] := by
  have e := Dens.fz ds vs fp c h
  subst e
  exact h
theorem band {a b : Bool} (h : (a && b) = true) : a = true ∧ b = true := Bool.and_eq_true_iff.mp h
theorem op_addD : Op2 K cl (rAddA K) addD := by
  intro Z H x y d v u fx fy Q s hx hy e q
  unfold addD at e
  split at e
  · rename_i i j
    cases e
    rw [hx.1, hy.1]
    exact .inl (.inl (.inl ⟨i, j, rfl, rfl, PostV.int s q⟩))
  · rename_i i j
    split at e
    · rename_i c
      cases e
      rw [hx.1, hy.1]
      exact .inl (.inl (.inr ⟨i, j, rfl, rfl, lim_le c, PostV.str s q⟩))
    · cases e
  · rename_i o xs o2 ys
    split at e
    · rename_i c
      cases e
      obtain ⟨c1, c3⟩ := band c
      obtain ⟨c1, c2⟩ := band c1
      have c3 := of_decide_eq_true c3
      obtain ⟨a, vs, f, rfl, qa, da, _⟩ := hx.lstH s
      obtain ⟨b, us, g, rfl, qb, db, _⟩ := hy.lstH s
      have da := da.fz0 c1
      have db := db.fz0 c2
      exact .inl (.inr ⟨a, b, vs, us, rfl, rfl, qa, qb, by rw [da.length, db.length]; exact lim_le c3, fun p hp => PostV.lst0 q s (da.append db) p hp⟩)
    · cases e
  · rename_i xs ys
    split at e
    · rename_i c
      cases e
      obtain ⟨c1, c3⟩ := band c
      obtain ⟨c1, c2⟩ := band c1
      have c3 := of_decide_eq_true c3
      obtain ⟨a, vs, rfl, qa, za, da⟩ := hx.tupH s
      obtain ⟨b, us, rfl, qb, zb, db⟩ := hy.tupH s
      have da := da.fz0 c1
      have db := db.fz0 c2
      refine .inr ⟨a, b, vs, us, rfl, rfl, qa, qb, by rw [da.length, db.length]; exact lim_le c3, fun e0 => ?_, fun _ e0 => ?_, fun _ _ p hp => PostV.tup0 q s (da.append db) p hp⟩
      · subst e0
        refine PostV.val s ?_ q
        simp only [Den]
        exact ⟨b, us, rfl, zb, da.append db⟩
      · subst e0
        refine PostV.val s ?_ q
        simp only [Den]
        exact ⟨a, vs, rfl, za, by simpa using da.append db⟩
    · cases e
  · cases e
theorem op_subD : Op2 K cl (rI0 fun i j => .int (i - j)) subD := by
  intro Z H x y d v u fx fy Q s hx hy e q
  unfold subD at e
  split at e
  · rename_i i j
    cases e
    rw [hx.1, hy.1]
    exact ⟨i, j, rfl, rfl, PostV.int s q⟩
  · cases e
def rMulA : R2 := fun x y H Q => rI CMul (fun i j => .int (i * j)) x y H Q ∨ rRep x y H Q
theorem op_mulA {X : Cx} : OpR X (binaryOp .Mult) rMulA := op_mul.or op_rep
theorem Dens.rep {ds : List D} {vs : List V} (h : Dens K cl Z H ds vs []) : ∀ k : Nat, Dens K cl Z H (List.replicate k ds).flatten (List.replicate k vs).flatten []
  | 0 => ⟨rfl, rfl⟩
  | k + 1 => by
    rw [List.replicate_succ, List.flatten_cons, List.replicate_succ, List.flatten_cons]
    exact h.append (Dens.rep h k)
theorem op_mulD : Op2 K cl rMulA mulD := by
  intro Z H x y d v u fx fy Q s hx hy e q
  unfold mulD at e
  split at e
  · rename_i i j
    split at e
    · rename_i c
      cases e
      rw [hx.1, hy.1]
      have c : (-18446744073709551616 < i ∧ i < 18446744073709551616) ∨ (-18446744073709551616 < j ∧ j < 18446744073709551616) := of_decide_eq_true c
      exact .inl ⟨i, j, rfl, rfl, c, PostV.int s q⟩
    · cases e
  · rename_i o xs k
    split at e
    · rename_i c
      cases e
      obtain ⟨c, c4⟩ := band c
      obtain ⟨c, c3⟩ := band c
      obtain ⟨c1, c2⟩ := band c
      have c2 := of_decide_eq_true c2
      have c3 := of_decide_eq_true c3
      have c4 := of_decide_eq_true c4
      obtain ⟨a, vs, f, rfl, qa, da, _⟩ := hx.lstH s
      have da := da.fz0 c1
      rw [hy.1]
      exact .inr ⟨a, k, vs, rfl, rfl, qa, by omega, by omega, by rw [da.length]; exact lim_le c4, fun p hp => PostV.lst0 q s (da.rep k.toNat) p hp⟩
    · cases e
  · cases e
theorem op_fdivD : Op2 K cl (rI CDivW fun i j => .int (i / j)) fdivD := by
  intro Z H x y d v u fx fy Q s hx hy e q
  unfold fdivD at e
  split at e
  · rename_i i j
    split at e
    · rename_i c
      cases e
      obtain ⟨c1, c2⟩ := of_decide_eq_true c
      rw [hx.1, hy.1]
      exact ⟨i, j, rfl, rfl, wide_div (i := i) (b := 100) c1 (by have : (2 : Nat) ^ 100 = 1267650600228229401496703205376 := by decide
                                                                 omega) (by decide) (by decide), PostV.int s q⟩
    · cases e
  · cases e
theorem op_modD : Op2 K cl (rI (fun _ j => 0 < j) fun i j => .int (i % j)) modD := by
  intro Z H x y d v u fx fy Q s hx hy e q
  unfold modD at e
  split at e
  · rename_i i j
    split at e
    · rename_i c
      cases e
      rw [hx.1, hy.1]
      exact ⟨i, j, rfl, rfl, c, PostV.int s q⟩
    · cases e
  · cases e
theorem op_powD : Op2 K cl (rI CPow fun i j => .int (i ^ j.toNat)) powD := by
  intro Z H x y d v u fx fy Q s hx hy e q
  unfold powD at e
  split at e
  · rename_i i j
    split at e
    · rename_i c
      cases e
      rw [hx.1, hy.1]
      have c := of_decide_eq_true c
      exact ⟨i, j, rfl, rfl, ⟨c.1, c.2.1, c.2.2⟩, PostV.int s q⟩
    · cases e
  · cases e
theorem op_negD : Op1 K cl (rU fun i => .int (-i)) negD := by
  intro Z H x d v fx Q s hx e q
  unfold negD at e
  split at e
  · rename_i i
    cases e
    rw [hx.1]
    exact ⟨i, rfl, PostV.int s q⟩
  · cases e
end

/-! ### equality of data -/
mutual
def D.py : D → PyData
  | .bl b => .bool b
  | .int i => .int i
  | .str x => .str x
  | .tup xs => .tuple (D.pys xs)
  | .lst _ xs => .list (D.pys xs)
  | _ => .none
def D.pys : List D → List PyData
  | [] => []
  | d :: ds => d.py :: D.pys ds
end
mutual
/-- plain data of depth at most n -/
def D.okd : D → Nat → Bool
  | .non, _ => true
  | .bl _, _ => true
  | .int _, _ => true
  | .str x, _ => PyData.strOk x
  | .tup xs, n => match n with
    | 0 => false
    | m + 1 => D.okds xs m
  | .lst _ xs, n => match n with
    | 0 => false
    | m + 1 => D.okds xs m
  | _, _ => false
def D.okds : List D → Nat → Bool
  | [], _ => true
  | d :: ds, n => d.okd n && D.okds ds n
end
mutual
theorem okd_lay : ∀ (d : D) (n : Nat), d.okd n = true → d.py.canLay0 = true ∧ d.py.depth ≤ n
  | .non, n, _ => ⟨rfl, Nat.zero_le _⟩
  | .bl _, n, _ => ⟨rfl, Nat.zero_le _⟩
  | .int _, n, _ => ⟨rfl, Nat.zero_le _⟩
  | .str x, n, h => ⟨by simp only [D.py, PyData.canLay0]; exact h, Nat.zero_le _⟩
  | .tup xs, 0, h => by
    have h' : false = true := h
    cases h'
  | .tup xs, n + 1, h => by
    obtain ⟨h1, h2⟩ := okds_lay xs n h
    simp only [D.py, PyData.canLay0, PyData.depth]
    exact ⟨h1, Nat.succ_le_succ h2⟩
  | .lst o xs, 0, h => by
    have h' : false = true := h
    cases h'
  | .lst o xs, n + 1, h => by
    obtain ⟨h1, h2⟩ := okds_lay xs n h
    simp only [D.py, PyData.canLay0, PyData.depth]
    exact ⟨h1, Nat.succ_le_succ h2⟩
  | .ins _ _ _, n, h => by
    have h' : false = true := h
    cases h'
  | .scr _, n, h => by
    have h' : false = true := h
    cases h'
  | .adr _, n, h => by
    have h' : false = true := h
    cases h'
  | .cls _, n, h => by
    have h' : false = true := h
    cases h'
theorem okds_lay : ∀ (ds : List D) (n : Nat), D.okds ds n = true → PyData.canLayAll0 (D.pys ds) = true ∧ PyData.depthAll (D.pys ds) ≤ n
  | [], n, _ => ⟨by simp only [D.pys, PyData.canLayAll0], Nat.zero_le _⟩
  | d :: ds, n, h => by
    obtain ⟨h1, h2⟩ := band (show (d.okd n && D.okds ds n) = true from h)
    obtain ⟨a1, a2⟩ := okd_lay d n h1
    obtain ⟨b1, b2⟩ := okds_lay ds n h2
    simp only [D.pys, PyData.canLayAll0, PyData.depthAll]
    exact ⟨by rw [a1, b1]; rfl, Nat.max_le.mpr ⟨a2, b2⟩⟩
end
def DEP : Nat := 20
theorem okd_shaped {d : D} (h : d.okd DEP = true) : SeqAt.shaped d.py = true := by
  obtain ⟨h1, h2⟩ := okd_lay d DEP h
  unfold SeqAt.shaped
  rw [h1, decide_eq_true (Nat.le_trans h2 (by decide))] <;> rfl
section
variable {K : PySem.W.Frag} {cl : Str → Addr} {Z H Z' H' : Hp}
mutual
theorem Den.dp (s : Ex Z H) : ∀ (d : D) (n : Nat) (v : V) (fp : Fp), d.okd n = true → Den K cl Z H d v fp → Dp K H v d.py
  | .non, n, v, fp, _, h => by rw [h.1]; exact .non
  | .bl b, n, v, fp, _, h => by rw [h.1]; exact .bl b
  | .int i, n, v, fp, _, h => by rw [h.1]; exact .int i
  | .str x, n, v, fp, _, h => by rw [h.1]; exact .str x
  | .tup xs, 0, v, fp, c, h => by
    have h' : false = true := c
    cases h'
  | .tup xs, n + 1, v, fp, c, h => by
    obtain ⟨a, vs, e, q, z, r⟩ := h.tupH s
    rw [e]
    exact .tup q (Dens.dp s xs n vs fp c r)
  | .lst o xs, 0, v, fp, c, h => by
    have h' : false = true := c
    cases h'
  | .lst o xs, n + 1, v, fp, c, h => by
    obtain ⟨a, vs, f, e, q, r, _⟩ := h.lstH s
    rw [e]
    exact .lst (.inl (.inl q)) (Dens.dp s xs n vs f c r)
  | .ins _ _ _, n, v, fp, c, h => by
    have h' : false = true := c
    cases h'
  | .scr _, n, v, fp, c, h => by
    have h' : false = true := c
    cases h'
  | .adr _, n, v, fp, c, h => by
    have h' : false = true := c
    cases h'
  | .cls _, n, v, fp, c, h => by
    have h' : false = true := c
    cases h'
theorem Dens.dp (s : Ex Z H) : ∀ (ds : List D) (n : Nat) (vs : List V) (fp : Fp), D.okds ds n = true → Dens K cl Z H ds vs fp → DpAll K H vs (D.pys ds)
  | [], n, vs, fp, _, h => by rw [h.1]; exact .nil
  | d :: ds, n, vs, fp, c, h => by
    obtain ⟨c1, c2⟩ := band (show (d.okd n && D.okds ds n) = true from c)
    simp only [Dens] at h
    obtain ⟨v, vr, f1, f2, e1, e2, q, r⟩ := h
    rw [e1]
    exact .cons (Den.dp s d n v f1 c1 q) (Dens.dp s ds n vr f2 c2 r)
end
def eqD (x y : D) : Option Bool := if x.okd DEP && y.okd DEP then some (PyData.eqv x.py y.py) else none
def neD (x y : D) : Option Bool := if x.okd DEP && y.okd DEP then some (!PyData.eqv x.py y.py) else none
theorem op_eqDD : Op2B K cl (rEqD K) eqD := by
  intro Z H x y b v u fx fy Q s hx hy e q
  unfold eqD at e
  split at e
  · rename_i c
    obtain ⟨c1, c2⟩ := band c
    cases e
    exact ⟨x.py, y.py, Den.dp s x DEP v fx c1 hx, Den.dp s y DEP u fy c2 hy, okd_shaped c1, okd_shaped c2, q⟩
  · cases e
theorem op_neDD : Op2B K cl (rNeD K) neD := by
  intro Z H x y b v u fx fy Q s hx hy e q
  unfold neD at e
  split at e
  · rename_i c
    obtain ⟨c1, c2⟩ := band c
    cases e
    exact ⟨x.py, y.py, Den.dp s x DEP v fx c1 hx, Den.dp s y DEP u fy c2 hy, okd_shaped c1, okd_shaped c2, q⟩
  · cases e
/-! ### is None -/
def isN : D → Bool
  | .non => true
  | _ => false
def isND (x y : D) : Option Bool := if isN y then some (isN x) else none
def notND (x y : D) : Option Bool := if isN y then some (!isN x) else none
theorem Den.ref {d : D} {v : V} {fp : Fp} (h : Den K cl Z H d v fp) : (∃ a, v = .ref a) ∨ d.fz = true := by
  cases d with
  | tup xs => simp only [Den] at h; obtain ⟨a, vs, e, _⟩ := h; exact .inl ⟨a, e⟩
  | lst o xs => cases o <;> (simp only [Den] at h) <;> first | (obtain ⟨a, vs, f, e, _⟩ := h; exact .inl ⟨a, e⟩) | (obtain ⟨a, vs, e, _⟩ := h; exact .inl ⟨a, e⟩)
  | _ => exact .inr rfl
theorem dec_ref {v : V} {a : Addr} (e : v = .ref a) : decide (v = .non) = false := by rw [e]; rfl
theorem Den.nn {d : D} {v : V} {fp : Fp} (h : Den K cl Z H d v fp) : decide (v = .non) = isN d := by
  cases d with
  | non => exact decide_eq_true h.1
  | bl b => have e : v = .bl b := h.1; rw [e]; rfl
  | int i => have e : v = .int i := h.1; rw [e]; rfl
  | str x => have e : v = .str x := h.1; rw [e]; rfl
  | tup xs => simp only [Den] at h; obtain ⟨a, vs, e, _⟩ := h; exact dec_ref e
  | lst o xs => cases o <;> (simp only [Den] at h) <;> first | (obtain ⟨a, vs, f, e, _⟩ := h; exact dec_ref e) | (obtain ⟨a, vs, e, _⟩ := h; exact dec_ref e)
  | ins c ns xs => simp only [Den] at h; obtain ⟨a, dx, vs, e, _⟩ := h; exact dec_ref e
  | scr ns => simp only [Den] at h; obtain ⟨a, e, _⟩ := h; exact dec_ref e
  | adr a => obtain ⟨b, e⟩ := h.1; exact dec_ref e
  | cls c => exact dec_ref h.1
theorem isN_eq {y : D} (h : isN y = true) : y = .non := by cases y <;> first | rfl | cases h
theorem op_isND : Op2B K cl (fun x y H Q => y = .non ∧ Q (.bl (decide (x = .non))) H) isND := by
  intro Z H x y b v u fx fy Q s hx hy e q
  unfold isND at e
  split at e
  · rename_i c
    cases e
    have e := isN_eq c
    subst e
    refine ⟨hy.1, ?_⟩
    rw [hx.nn]; exact q
  · cases e
theorem op_notND : Op2B K cl (fun x y H Q => y = .non ∧ Q (.bl (!decide (x = .non))) H) notND := by
  intro Z H x y b v u fx fy Q s hx hy e q
  unfold notND at e
  split at e
  · rename_i c
    cases e
    have e := isN_eq c
    subst e
    refine ⟨hy.1, ?_⟩
    rw [hx.nn]; exact q
  · cases e
/-! ### order of ints -/
def ltD : D → D → Option Bool
  | .int i, .int j => some (decide (i < j))
  | _, _ => none
def leD : D → D → Option Bool
  | .int i, .int j => some (decide (i ≤ j))
  | _, _ => none
def gtD : D → D → Option Bool
  | .int i, .int j => some (decide (j < i))
  | _, _ => none
def geD : D → D → Option Bool
  | .int i, .int j => some (decide (j ≤ i))
  | _, _ => none
theorem op_ltD : Op2B K cl (rI0 fun i j => .bl (decide (i < j))) ltD := by
  intro Z H x y b v u fx fy Q s hx hy e q
  unfold ltD at e
  split at e
  · cases e
    rw [hx.1, hy.1]
    exact ⟨_, _, rfl, rfl, q⟩
  · cases e
theorem op_leD : Op2B K cl (rI0 fun i j => .bl (decide (i ≤ j))) leD := by
  intro Z H x y b v u fx fy Q s hx hy e q
  unfold leD at e
  split at e
  · cases e
    rw [hx.1, hy.1]
    exact ⟨_, _, rfl, rfl, q⟩
  · cases e
theorem op_gtD : Op2B K cl (rI0 fun i j => .bl (decide (j < i))) gtD := by
  intro Z H x y b v u fx fy Q s hx hy e q
  unfold gtD at e
  split at e
  · cases e
    rw [hx.1, hy.1]
    exact ⟨_, _, rfl, rfl, q⟩
  · cases e
theorem op_geD : Op2B K cl (rI0 fun i j => .bl (decide (j ≤ i))) geD := by
  intro Z H x y b v u fx fy Q s hx hy e q
  unfold geD at e
  split at e
  · cases e
    rw [hx.1, hy.1]
    exact ⟨_, _, rfl, rfl, q⟩
  · cases e
end
end DL

namespace DL
open PySem PySem.Spec PyProof.Rows L2

/-! ### built-in calls -/
def intsOf : List D → Option (List Int)
  | [] => some []
  | .int i :: r => (intsOf r).map (i :: ·)
  | _ :: _ => none
def boolsOf : List D → Option (List Bool)
  | [] => some []
  | .bl b :: r => (boolsOf r).map (b :: ·)
  | _ :: _ => none
def lenN : List D → Option D
  | [.str x] => if x.length ≤ LIM then some (.int x.length) else none
  | [.tup xs] => some (.int xs.length)
  | [.lst _ xs] => some (.int xs.length)
  | [.scr ns] => some (.int ns.length)
  | _ => none
def absN : List D → Option D
  | [.int i] => some (.int (if i < 0 then -i else i))
  | _ => none
def intN : List D → Option D
  | [.int i] => some (.int i)
  | [.bl b] => some (.int (if b then 1 else 0))
  | _ => none
def intTN : List D → Option D
  | [.str x] => if x.length ≤ 640 then (PySem.intText? x).map .int else none
  | _ => none
def max2N : List D → Option D
  | [.int i, .int j] => some (.int (if j > i then j else i))
  | _ => none
def min2N : List D → Option D
  | [.int i, .int j] => some (.int (if j < i then j else i))
  | _ => none
def sumN : List D → Option D
  | [.lst _ xs] => (intsOf xs).map fun ns => .int ns.sum
  | _ => none
def allN : List D → Option D
  | [.lst _ xs] => (boolsOf xs).map fun bs => .bl (bs.all id)
  | _ => none
def anyN : List D → Option D
  | [.lst _ xs] => (boolsOf xs).map fun bs => .bl (bs.any id)
  | _ => none
def maxI : List Int → Int
  | [] => 0
  | [i] => i
  | i :: r => max i (maxI r)
def minI : List Int → Int
  | [] => 0
  | [i] => i
  | i :: r => min i (minI r)
def maxN : List D → Option D
  | [.lst _ (x :: xs)] => (intsOf (x :: xs)).map fun ns => .int (maxI ns)
  | _ => none
def minN : List D → Option D
  | [.lst _ (x :: xs)] => (intsOf (x :: xs)).map fun ns => .int (minI ns)
  | _ => none
def listN : List D → Option D
  | [.lst _ xs] => if D.fzs xs then some (.lst true xs) else none
  | [.tup xs] => if D.fzs xs then some (.lst true xs) else none
  | _ => none
def tupleN : List D → Option D
  | [.lst _ xs] => if D.fzs xs then some (.tup xs) else none
  | [.tup xs] => if D.fzs xs then some (.tup xs) else none
  | _ => none
def strI (i : Int) : Bool := decide (i.natAbs < 10000000000000000000000000000000000000000000000000000000000000000000000000000000000000000000000000000)
def strN : List D → Option D
  | [.int i] => if strI i then some (.str (toString i)) else none
  | _ => none
theorem maxI_le : ∀ (ns : List Int) (y : Int), y ∈ ns → y ≤ maxI ns
  | [], y, h => nomatch h
  | [i], y, h => by
    rcases List.mem_cons.mp h with e | e
    · subst e; exact Int.le_refl _
    · cases e
  | i :: j :: r, y, h => by
    show y ≤ max i (maxI (j :: r))
    rcases List.mem_cons.mp h with e | e
    · subst e; exact Int.le_max_left _ _
    · exact Int.le_trans (maxI_le (j :: r) y e) (Int.le_max_right _ _)
theorem maxI_mem : ∀ (ns : List Int), ns ≠ [] → maxI ns ∈ ns
  | [], h => absurd rfl h
  | [i], _ => List.mem_cons_self
  | i :: j :: r, _ => by
    show max i (maxI (j :: r)) ∈ _
    have ih := maxI_mem (j :: r) (List.cons_ne_nil _ _)
    by_cases c : i ≤ maxI (j :: r)
    · rw [Int.max_eq_right c]; exact List.mem_cons_of_mem _ ih
    · rw [Int.max_eq_left (by omega)]; exact List.mem_cons_self
theorem minI_le : ∀ (ns : List Int) (y : Int), y ∈ ns → minI ns ≤ y
  | [], y, h => nomatch h
  | [i], y, h => by
    rcases List.mem_cons.mp h with e | e
    · subst e; exact Int.le_refl _
    · cases e
  | i :: j :: r, y, h => by
    show min i (minI (j :: r)) ≤ y
    rcases List.mem_cons.mp h with e | e
    · subst e; exact Int.min_le_left _ _
    · exact Int.le_trans (Int.min_le_right _ _) (minI_le (j :: r) y e)
theorem minI_mem : ∀ (ns : List Int), ns ≠ [] → minI ns ∈ ns
  | [], h => absurd rfl h
  | [i], _ => List.mem_cons_self
  | i :: j :: r, _ => by
    show min i (minI (j :: r)) ∈ _
    have ih := minI_mem (j :: r) (List.cons_ne_nil _ _)
    by_cases c : i ≤ minI (j :: r)
    · rw [Int.min_eq_left c]; exact List.mem_cons_self
    · rw [Int.min_eq_right (by omega)]; exact List.mem_cons_of_mem _ ih
section
variable {K : PySem.W.Frag} {cl : Str → Addr} {Z H Z' H' : Hp}
theorem Dens.nil' {vs : List V} {fp : Fp} (h : Dens K cl Z H [] vs fp) : vs = [] := h.1
theorem Dens.cons' {d : D} {ds : List D} {vs : List V} {fp : Fp} (h : Dens K cl Z H (d :: ds) vs fp) : ∃ v vr f1 f2, vs = v :: vr ∧ fp = f1 ++ f2 ∧ Den K cl Z H d v f1 ∧ Dens K cl Z H ds vr f2 := by
  simp only [Dens] at h
  exact h
theorem Dens.one' {d : D} {vs : List V} {fp : Fp} (h : Dens K cl Z H [d] vs fp) : ∃ v, vs = [v] ∧ Den K cl Z H d v fp := by
  obtain ⟨v, vr, f1, f2, e1, e2, q, r⟩ := h.cons'
  obtain ⟨r1, r2⟩ := r
  subst r1 r2 e2
  exact ⟨v, e1, by simpa using q⟩
theorem Dens.two' {d e : D} {vs : List V} {fp : Fp} (h : Dens K cl Z H [d, e] vs fp) : ∃ v u f g, vs = [v, u] ∧ Den K cl Z H d v f ∧ Den K cl Z H e u g := by
  obtain ⟨v, vr, f1, f2, e1, e2, q, r⟩ := h.cons'
  obtain ⟨u, e3, r2⟩ := r.one'
  subst e3
  exact ⟨v, u, _, _, e1, q, r2⟩
theorem ints_of : ∀ {ds : List D} {ns : List Int} {vs : List V} {fp : Fp}, intsOf ds = some ns → Dens K cl Z H ds vs fp → vs = ns.map V.int ∧ ns.length = ds.length
  | [], ns, vs, fp, e, h => by
    cases e
    exact ⟨h.1, rfl⟩
  | d :: ds, ns, vs, fp, e, h => by
    cases d with
    | int i =>
      have e' : (intsOf ds).map (i :: ·) = some ns := e
      obtain ⟨ms, e1, e2⟩ := Option.map_eq_some_iff.mp e'
      obtain ⟨v, vr, f1, f2, h1, h2, q, r⟩ := h.cons'
      obtain ⟨r1, r2⟩ := ints_of e1 r
      subst e2 h1 r1
      rw [q.1]
      exact ⟨rfl, congrArg (· + 1) r2⟩
    | _ => cases e
theorem bools_of : ∀ {ds : List D} {ns : List Bool} {vs : List V} {fp : Fp}, boolsOf ds = some ns → Dens K cl Z H ds vs fp → vs = ns.map V.bl ∧ ns.length = ds.length
  | [], ns, vs, fp, e, h => by
    cases e
    exact ⟨h.1, rfl⟩
  | d :: ds, ns, vs, fp, e, h => by
    cases d with
    | bl i =>
      have e' : (boolsOf ds).map (i :: ·) = some ns := e
      obtain ⟨ms, e1, e2⟩ := Option.map_eq_some_iff.mp e'
      obtain ⟨v, vr, f1, f2, h1, h2, q, r⟩ := h.cons'
      obtain ⟨r1, r2⟩ := bools_of e1 r
      subst e2 h1 r1
      rw [q.1]
      exact ⟨rfl, congrArg (· + 1) r2⟩
    | _ => cases e
theorem opN_len : OpN K cl (fun xs H Q => ∃ x n, xs = [x] ∧ LenV K x H n ∧ Q (.int n) H) lenN := by
  intro Z H xs d vs fp Q s h e q
  unfold lenN at e
  split at e
  · rename_i x
    split at e
    · rename_i c
      cases e
      obtain ⟨v, rfl, hv⟩ := h.one'
      rw [hv.1]
      exact ⟨_, x.length, rfl, ⟨lim_le c, rfl⟩, PostV.int s q⟩
    · cases e
  · rename_i xs
    cases e
    obtain ⟨v, rfl, hv⟩ := h.one'
    obtain ⟨a, vs, rfl, qa, _, r⟩ := hv.tupH s
    exact ⟨_, xs.length, rfl, .inr ⟨vs, qa, r.length.symm⟩, PostV.int s q⟩
  · rename_i o xs
    cases e
    obtain ⟨v, rfl, hv⟩ := h.one'
    obtain ⟨a, vs, f, rfl, qa, r, _⟩ := hv.lstH s
    exact ⟨_, xs.length, rfl, .inl ⟨vs, .inl (.inl qa), r.length.symm⟩, PostV.int s q⟩
  · rename_i ns
    cases e
    obtain ⟨v, rfl, hv⟩ := h.one'
    simp only [Den] at hv
    obtain ⟨a, rfl, _, qa⟩ := hv
    exact ⟨_, ns.length, rfl, .inl ⟨_, s.sqL qa, by rw [List.length_map]⟩, PostV.int s q⟩
  · cases e
theorem opN_abs : OpN K cl (fun xs H Q => ∃ i, xs = [.int i] ∧ Q (.int (if i < 0 then -i else i)) H) absN := by
  intro Z H xs d vs fp Q s h e q
  unfold absN at e
  split at e
  · rename_i i
    cases e
    obtain ⟨v, rfl, hv⟩ := h.one'
    rw [hv.1]
    exact ⟨i, rfl, PostV.int s q⟩
  · cases e
theorem opN_int : OpN K cl (fun xs H Q => (∃ i, xs = [.int i] ∧ Q (.int i) H) ∨ ∃ k, xs = [.bl k] ∧ Q (.int (if k then 1 else 0)) H) intN := by
  intro Z H xs d vs fp Q s h e q
  unfold intN at e
  split at e
  · rename_i i
    cases e
    obtain ⟨v, rfl, hv⟩ := h.one'
    rw [hv.1]
    exact .inl ⟨i, rfl, PostV.int s q⟩
  · rename_i i
    cases e
    obtain ⟨v, rfl, hv⟩ := h.one'
    rw [hv.1]
    exact .inr ⟨i, rfl, PostV.int s q⟩
  · cases e
theorem opN_intT : OpN K cl (fun xs H Q => ∃ a n, xs = [.str a] ∧ PySem.intText? a = some n ∧ a.length ≤ 640 ∧ Q (.int n) H) intTN := by
  intro Z H xs d vs fp Q s h e q
  unfold intTN at e
  split at e
  · rename_i x
    split at e
    · rename_i c
      obtain ⟨n, e1, e2⟩ := Option.map_eq_some_iff.mp e
      subst e2
      obtain ⟨v, rfl, hv⟩ := h.one'
      rw [hv.1]
      exact ⟨x, n, rfl, e1, c, PostV.int s q⟩
    · cases e
  · cases e
theorem opN_max2 : OpN K cl (fun xs H Q => ∃ i j, xs = [.int i, .int j] ∧ Q (.int (if j > i then j else i)) H) max2N := by
  intro Z H xs d vs fp Q s h e q
  unfold max2N at e
  split at e
  · rename_i i j
    cases e
    obtain ⟨v, u, f, g, rfl, h1, h2⟩ := h.two'
    rw [h1.1, h2.1]
    exact ⟨i, j, rfl, PostV.int s q⟩
  · cases e
theorem opN_min2 : OpN K cl (fun xs H Q => ∃ i j, xs = [.int i, .int j] ∧ Q (.int (if j < i then j else i)) H) min2N := by
  intro Z H xs d vs fp Q s h e q
  unfold min2N at e
  split at e
  · rename_i i j
    cases e
    obtain ⟨v, u, f, g, rfl, h1, h2⟩ := h.two'
    rw [h1.1, h2.1]
    exact ⟨i, j, rfl, PostV.int s q⟩
  · cases e
theorem opN_sum : OpN K cl (rSum K) sumN := by
  intro Z H xs d vs fp Q s h e q
  unfold sumN at e
  split at e
  · rename_i o xs
    obtain ⟨ns, e1, e2⟩ := Option.map_eq_some_iff.mp e
    subst e2
    obtain ⟨v, rfl, hv⟩ := h.one'
    obtain ⟨a, vs, f, rfl, qa, r, _⟩ := hv.lstH s
    obtain ⟨e3, _⟩ := ints_of e1 r
    subst e3
    exact ⟨a, ns, rfl, .inl (.inl qa), PostV.int s q⟩
  · cases e
theorem opN_all : OpN K cl (rAll K) allN := by
  intro Z H xs d vs fp Q s h e q
  unfold allN at e
  split at e
  · rename_i o xs
    obtain ⟨ns, e1, e2⟩ := Option.map_eq_some_iff.mp e
    subst e2
    obtain ⟨v, rfl, hv⟩ := h.one'
    obtain ⟨a, vs, f, rfl, qa, r, _⟩ := hv.lstH s
    obtain ⟨e3, _⟩ := bools_of e1 r
    subst e3
    exact ⟨a, ns, rfl, .inl (.inl qa), PostV.bl s q⟩
  · cases e
theorem opN_any : OpN K cl (rAny K) anyN := by
  intro Z H xs d vs fp Q s h e q
  unfold anyN at e
  split at e
  · rename_i o xs
    obtain ⟨ns, e1, e2⟩ := Option.map_eq_some_iff.mp e
    subst e2
    obtain ⟨v, rfl, hv⟩ := h.one'
    obtain ⟨a, vs, f, rfl, qa, r, _⟩ := hv.lstH s
    obtain ⟨e3, _⟩ := bools_of e1 r
    subst e3
    exact ⟨a, ns, rfl, .inl (.inl qa), PostV.bl s q⟩
  · cases e
theorem opN_max : OpN K cl (rMax K) maxN := by
  intro Z H xs d vs fp Q s h e q
  unfold maxN at e
  split at e
  · rename_i o x xs
    obtain ⟨ns, e1, e2⟩ := Option.map_eq_some_iff.mp e
    subst e2
    obtain ⟨v, rfl, hv⟩ := h.one'
    obtain ⟨a, vs, f, rfl, qa, r, _⟩ := hv.lstH s
    obtain ⟨e3, e4⟩ := ints_of e1 r
    subst e3
    have h0 : 0 < ns.length := by rw [e4]; exact Nat.succ_pos _
    refine ⟨a, ns, rfl, .inl (.inl qa), h0, fun m hm hy => ?_⟩
    have e5 : m = maxI ns := Int.le_antisymm (maxI_le ns m hm) (hy _ (maxI_mem ns (List.ne_nil_of_length_pos h0)))
    subst e5
    exact PostV.int s q
  · cases e
theorem opN_min : OpN K cl (rMin K) minN := by
  intro Z H xs d vs fp Q s h e q
  unfold minN at e
  split at e
  · rename_i o x xs
    obtain ⟨ns, e1, e2⟩ := Option.map_eq_some_iff.mp e
    subst e2
    obtain ⟨v, rfl, hv⟩ := h.one'
    obtain ⟨a, vs, f, rfl, qa, r, _⟩ := hv.lstH s
    obtain ⟨e3, e4⟩ := ints_of e1 r
    subst e3
    have h0 : 0 < ns.length := by rw [e4]; exact Nat.succ_pos _
    refine ⟨a, ns, rfl, .inl (.inl qa), h0, fun m hm hy => ?_⟩
    have e5 : m = minI ns := Int.le_antisymm (hy _ (minI_mem ns (List.ne_nil_of_length_pos h0))) (minI_le ns m hm)
    subst e5
    exact PostV.int s q
  · cases e
theorem opN_list : OpN K cl (fun xs H Q => ∃ p ys, xs = [.ref p] ∧ (SqL K H p ys ∨ SqT K H p ys) ∧ ∀ l, H l = none → Q (.ref l) (upd H l (.lst ys))) listN := by
  intro Z H xs d vs fp Q s h e q
  unfold listN at e
  split at e
  · rename_i o xs
    split at e
    · rename_i c
      cases e
      obtain ⟨v, rfl, hv⟩ := h.one'
      obtain ⟨a, vs, f, rfl, qa, r, _⟩ := hv.lstH s
      exact ⟨a, vs, rfl, .inl (.inl (.inl qa)), fun p hp => PostV.lst0 q s (r.fz0 c) p hp⟩
    · cases e
  · rename_i xs
    split at e
    · rename_i c
      cases e
      obtain ⟨v, rfl, hv⟩ := h.one'
      obtain ⟨a, vs, rfl, qa, _, r⟩ := hv.tupH s
      exact ⟨a, vs, rfl, .inr qa, fun p hp => PostV.lst0 q s (r.fz0 c) p hp⟩
    · cases e
  · cases e
theorem opN_tuple : OpN K cl (fun xs H Q => ∃ p ys, xs = [.ref p] ∧ ((SqL K H p ys ∧ ∀ l, H l = none → Q (.ref l) (upd H l (.tup ys))) ∨ (SqT K H p ys ∧ Q (.ref p) H))) tupleN := by
  intro Z H xs d vs fp Q s h e q
  unfold tupleN at e
  split at e
  · rename_i o xs
    split at e
    · rename_i c
      cases e
      obtain ⟨v, rfl, hv⟩ := h.one'
      obtain ⟨a, vs, f, rfl, qa, r, _⟩ := hv.lstH s
      exact ⟨a, vs, rfl, .inl ⟨.inl (.inl qa), fun p hp => PostV.tup0 q s (r.fz0 c) p hp⟩⟩
    · cases e
  · rename_i xs
    split at e
    · rename_i c
      cases e
      obtain ⟨v, rfl, hv⟩ := h.one'
      obtain ⟨a, vs, rfl, qa, za, r⟩ := hv.tupH s
      refine ⟨a, vs, rfl, .inr ⟨qa, PostV.val s ?_ q⟩⟩
      simp only [Den]
      exact ⟨a, vs, rfl, za, r.fz0 c⟩
    · cases e
  · cases e
theorem strI_log {i : Int} (h : strI i = true) : i.natAbs.log2 < 1920 := by
  have h' := of_decide_eq_true h
  by_cases z : i.natAbs = 0
  · rw [z]; decide
  · refine (Nat.log2_lt z).mpr (Nat.lt_trans h' ?_)
    decide +kernel
theorem opN_str : OpN K cl (fun xs H Q => ∃ i, xs = [.int i] ∧ i.natAbs.log2 < 1920 ∧ Q (.str (toString i)) H) strN := by
  intro Z H xs d vs fp Q s h e q
  unfold strN at e
  split at e
  · rename_i i
    split at e
    · rename_i c
      cases e
      obtain ⟨v, rfl, hv⟩ := h.one'
      rw [hv.1]
      exact ⟨i, rfl, strI_log c, PostV.str s q⟩
    · cases e
  · cases e

/-! ### index, slice, in -/
def ixD : D → D → Option D
  | .lst _ xs, .int i => atI xs i
  | .tup xs, .int i => atI xs i
  | .str z, .int i => if z.length ≤ LIM then (atI z.cps.toList i).map fun c => .str ⟨#[c]⟩ else none
  | .scr ns, .int i => (atI ns i).map .int
  | _, _ => none
theorem Dens.at {ds : List D} {vs : List V} {fp : Fp} {i : Int} {d : D} (h : Dens K cl Z H ds vs fp) (e : atI ds i = some d) : ∃ v f, atI vs i = some v ∧ Den K cl Z H d v f ∧ f.Sublist fp := by
  unfold atI at e ⊢
  rw [h.length]
  cases c : ixN ds.length i with
  | none => rw [c] at e; cases e
  | some j =>
    rw [c] at e
    obtain ⟨v, f, h1, h2, h3, h4⟩ := h.get (i := j) (show ds[j]? = some d from e)
    exact ⟨v, f, h1, h2, h4⟩
theorem PostB.val {d : D} {v : V} {fp : Fp} {Q : VK} (s : Ex Z H) (h : Den K cl Z H d v fp) (q : PostB K cl Z H d Q) : Q v H := q v Z H fp (Gr.refl s) h
theorem op_ixD : Op2V K cl (rIx K) ixD := by
  intro Z H x y d v u fx fy Q s hx hy e q
  unfold ixD at e
  split at e
  · rename_i o xs i
    obtain ⟨a, vs, f, rfl, qa, r, _⟩ := hx.lstH s
    obtain ⟨w, g, h1, h2, _⟩ := r.at e
    rw [hy.1]
    exact .inl ⟨a, vs, i, w, rfl, rfl, .inl (.inl qa), h1, PostB.val s h2 q⟩
  · rename_i xs i
    obtain ⟨a, vs, rfl, qa, _, r⟩ := hx.tupH s
    obtain ⟨w, g, h1, h2, _⟩ := r.at e
    rw [hy.1]
    exact .inr (.inl ⟨a, vs, i, w, rfl, rfl, qa, h1, PostB.val s h2 q⟩)
  · rename_i z i
    split at e
    · rename_i c
      obtain ⟨k, e1, e2⟩ := Option.map_eq_some_iff.mp e
      subst e2
      rw [hx.1, hy.1]
      exact .inr (.inr ⟨z, i, k, rfl, rfl, lim_le c, e1, PostB.val (d := .str ⟨#[k]⟩) (fp := []) s ⟨rfl, rfl⟩ q⟩)
    · cases e
  · rename_i ns i
    obtain ⟨k, e1, e2⟩ := Option.map_eq_some_iff.mp e
    subst e2
    simp only [Den] at hx
    obtain ⟨a, rfl, _, qa⟩ := hx
    rw [hy.1]
    refine .inl ⟨a, ns.map V.int, i, .int k, rfl, rfl, s.sqL qa, ?_, PostB.val (d := .int k) (fp := []) s ⟨rfl, rfl⟩ q⟩
    unfold atI at e1 ⊢
    rw [List.length_map]
    cases c : ixN ns.length i with
    | none => rw [c] at e1; cases e1
    | some j =>
      rw [c] at e1
      show (ns.map V.int)[j]? = _
      rw [List.getElem?_map, show ns[j]? = some k from e1] <;> rfl
  · cases e
/-- a slice's bound -/
def cutD {α : Type} (xs : List α) (lo hi : Option Int) : List α := (xs.drop (HT.sIx xs.length 0 lo)).take (HT.sIx xs.length xs.length hi - HT.sIx xs.length 0 lo)
def slD (d : D) (lo hi : Option Int) : Option D := match d with
  | .lst _ xs => if D.fzs xs then some (.lst true (cutD xs lo hi)) else none
  | .tup xs => if D.fzs xs then some (.tup (cutD xs lo hi)) else none
  | .str z => if z.length ≤ LIM then some (.str (cutS z lo hi)) else none
  | _ => none
theorem Dens.take {ds : List D} {vs : List V} (h : Dens K cl Z H ds vs []) : ∀ (n : Nat), Dens K cl Z H (ds.take n) (vs.take n) [] := by
  induction ds generalizing vs with
  | nil => intro n; rw [h.1]; rw [List.take_nil, List.take_nil]; exact ⟨rfl, rfl⟩
  | cons d ds ih =>
    intro n
    obtain ⟨v, vr, f1, f2, e1, e2, q, r⟩ := h.cons'
    obtain ⟨e3, e4⟩ := List.append_eq_nil_iff.mp e2.symm
    subst e1 e3 e4
    cases n with
    | zero => exact ⟨rfl, rfl⟩
    | succ n => exact Dens.cons q (ih r n)
theorem Dens.drop {ds : List D} {vs : List V} (h : Dens K cl Z H ds vs []) : ∀ (n : Nat), Dens K cl Z H (ds.drop n) (vs.drop n) [] := by
  induction ds generalizing vs with
  | nil => intro n; rw [h.1]; rw [List.drop_nil, List.drop_nil]; exact ⟨rfl, rfl⟩
  | cons d ds ih =>
    intro n
    obtain ⟨v, vr, f1, f2, e1, e2, q, r⟩ := h.cons'
    obtain ⟨e3, e4⟩ := List.append_eq_nil_iff.mp e2.symm
    subst e1 e3 e4
    cases n with
    | zero => exact Dens.cons q r
    | succ n => exact ih r n
theorem Dens.reverse {ds : List D} {vs : List V} (h : Dens K cl Z H ds vs []) : Dens K cl Z H ds.reverse vs.reverse [] := by
  induction ds generalizing vs with
  | nil => rw [h.1]; exact ⟨rfl, rfl⟩
  | cons d ds ih =>
    obtain ⟨v, vr, f1, f2, e1, e2, q, r⟩ := h.cons'
    obtain ⟨e3, e4⟩ := List.append_eq_nil_iff.mp e2.symm
    subst e1 e3 e4
    rw [List.reverse_cons, List.reverse_cons]
    exact (ih r).append (Dens.one q)
theorem Dens.cut {ds : List D} {vs : List V} (h : Dens K cl Z H ds vs []) (lo hi : Option Int) : Dens K cl Z H (cutD ds lo hi) (cutV vs lo hi) [] := by
  unfold cutD cutV
  rw [h.length]
  exact (h.drop _).take _
def rSlX (K : PySem.W.Frag) : V → Option Int → Option Int → Hp → VK → Prop := fun x lo hi H Q => (rSlL K x lo hi H Q ∨ rSlA K x lo hi H Q) ∨ rSlS x lo hi H Q
theorem sl_any {X : Cx} : SlR X (rSlX X.K) := (sl_list.or sl_tupA).or sl_str
theorem cut_all {α : Type} (xs : List α) (lo hi : Option Int) (h : HT.sIx xs.length 0 lo = 0 ∧ HT.sIx xs.length xs.length hi = xs.length) : cutD xs lo hi = xs := by
  unfold cutD
  rw [h.1, h.2, List.drop_zero, Nat.sub_zero, List.take_length]
theorem op_slD {d d' : D} {lo hi : Option Int} {v : V} {fx : Fp} {Q : VK} (s : Ex Z H) (hx : Den K cl Z H d v fx) (e : slD d lo hi = some d') (q : PostV K cl Z H d' Q) : rSlX K v lo hi H Q := by
  unfold slD at e
  split at e
  · rename_i o xs
    split at e
    · rename_i c
      cases e
      obtain ⟨a, vs, f, rfl, qa, r, _⟩ := hx.lstH s
      exact .inl (.inl ⟨a, vs, rfl, .inl (.inl qa), fun p hp => PostV.lst0 q s ((r.fz0 c).cut lo hi) p hp⟩)
    · cases e
  · rename_i xs
    split at e
    · rename_i c
      cases e
      obtain ⟨a, vs, rfl, qa, za, r⟩ := hx.tupH s
      refine .inl (.inr ⟨a, vs, rfl, qa, fun w => ?_, fun _ p hp => PostV.tup0 q s ((r.fz0 c).cut lo hi) p hp⟩)
      rw [r.length] at w
      rw [cut_all xs lo hi w] at q
      refine PostV.val s ?_ q
      simp only [Den]
      exact ⟨a, vs, rfl, za, r.fz0 c⟩
    · cases e
  · rename_i z
    split at e
    · rename_i c
      cases e
      rw [hx.1]
      exact .inr ⟨z, rfl, lim_le c, PostV.str s q⟩
    · cases e
  · cases e
/-! ### in -/
def flatD : D → Option V
  | .non => some .non
  | .bl b => some (.bl b)
  | .int i => some (.int i)
  | .str x => some (.str x)
  | _ => none
def flats : List D → Option (List V)
  | [] => some []
  | d :: ds => match flatD d, flats ds with
    | some v, some vs => some (v :: vs)
    | _, _ => none
theorem flatD_of {d : D} {v u : V} {fp : Fp} (e : flatD d = some v) (h : Den K cl Z H d u fp) : u = v ∧ flatV v = true := by
  cases d with
  | non => cases e; exact ⟨h.1, rfl⟩
  | bl b => cases e; exact ⟨h.1, rfl⟩
  | int i => cases e; exact ⟨h.1, rfl⟩
  | str x => cases e; exact ⟨h.1, rfl⟩
  | _ => cases e
theorem flats_of : ∀ {ds : List D} {vs us : List V} {fp : Fp}, flats ds = some vs → Dens K cl Z H ds us fp → us = vs ∧ vs.all flatV = true
  | [], vs, us, fp, e, h => by cases e; exact ⟨h.1, rfl⟩
  | d :: ds, vs, us, fp, e, h => by
    obtain ⟨v, vr, f1, f2, e1, e2, q, r⟩ := h.cons'
    unfold flats at e
    split at e
    · rename_i a as ea eb
      cases e
      obtain ⟨r1, r2⟩ := flatD_of ea q
      obtain ⟨r3, r4⟩ := flats_of eb r
      subst e1 r1 r3
      exact ⟨rfl, by rw [List.all_cons, r2, r4]; rfl⟩
    · cases e
def inD (x y : D) : Option Bool := match y with
  | .lst _ ys => if x.okd DEP && (D.lst true ys).okd DEP then some ((D.pys ys).any fun z => PyData.eqv z x.py) else none
  | .tup ys => (flatD x).bind fun v => (flats ys).map fun vs => inV v vs
  | .str z => match x with
    | .str w => match w.cps.toList with
      | [c] => some (decide (c ∈ z.cps.toList))
      | _ => none
    | _ => none
  | _ => none
def notInD (x y : D) : Option Bool := (inD x y).map not
def rInA (K : PySem.W.Frag) : R2 := fun x y H Q => (rInD K x y H Q ∨ rIn K false x y H Q) ∨ (fun x y H Q => ∃ (c : Nat) (z : Str), x = .str ⟨#[c]⟩ ∧ y = .str z ∧ Q (.bl (decide (c ∈ z.cps.toList))) H) x y H Q
def rNotInA (K : PySem.W.Frag) : R2 := fun x y H Q => (rNotInD K x y H Q ∨ rIn K true x y H Q) ∨ (fun x y H Q => ∃ (c : Nat) (z : Str), x = .str ⟨#[c]⟩ ∧ y = .str z ∧ Q (.bl (!decide (c ∈ z.cps.toList))) H) x y H Q
theorem op_inA {X : Cx} (hu : X.A.units + 65 < cLine) : OpR X (compareOp .In) (rInA X.K) := ((op_inD hu).or op_in_seq).or op_in_sign
theorem op_notInA {X : Cx} (hu : X.A.units + 65 < cLine) : OpR X (compareOp .NotIn) (rNotInA X.K) := ((op_notInD hu).or op_notIn_seq).or op_notIn_sign
theorem str_one {w : Str} {c : Nat} (h : w.cps.toList = [c]) : w = ⟨#[c]⟩ := by
  obtain ⟨a⟩ := w
  have : a = #[c] := by
    have h' : a.toList = [c] := h
    rw [← Array.toArray_toList (xs := a), h']
  rw [this]
theorem in_core {x y : D} {b : Bool} {v u : V} {fx fy : Fp} (s : Ex Z H) (hx : Den K cl Z H x v fx) (hy : Den K cl Z H y u fy) (e : inD x y = some b) (R : Bool → Prop)
    (h1 : ∀ d ds, Dp K H v d → Dp K H u (.list ds) → SeqAt.shaped d = true → SeqAt.shaped (.list ds) = true → b = (ds.any fun z => PyData.eqv z d) → R b)
    (h2 : ∀ p xs, u = .ref p → SqT K H p xs → flatV v = true → xs.all flatV = true → b = inV v xs → R b)
    (h3 : ∀ (c : Nat) (z : Str), v = .str ⟨#[c]⟩ → u = .str z → b = decide (c ∈ z.cps.toList) → R b) : R b := by
  unfold inD at e
  split at e
  · rename_i o ys
    split at e
    · rename_i c
      obtain ⟨c1, c2⟩ := band c
      cases e
      have hy' : Dp K H u (.list (D.pys ys)) := by
        have hy2 := Den.dp s (.lst o ys) DEP u fy (by exact c2) hy
        simpa only [D.py] using hy2
      exact h1 x.py (D.pys ys) (Den.dp s x DEP v fx c1 hx) hy' (okd_shaped c1) (by have := okd_shaped c2; simpa only [D.py] using this) rfl
    · cases e
  · rename_i ys
    obtain ⟨w, ew, e⟩ := Option.bind_eq_some_iff.mp e
    obtain ⟨ws, ews, e⟩ := Option.map_eq_some_iff.mp e
    subst e
    obtain ⟨a, vs, rfl, qa, _, r⟩ := hy.tupH s
    obtain ⟨r1, r2⟩ := flatD_of ew hx
    obtain ⟨r3, r4⟩ := flats_of ews r
    subst r1 r3
    exact h2 a vs rfl qa r2 r4 rfl
  · rename_i z
    split at e
    · rename_i w
      split at e
      · rename_i c ec
        cases e
        rw [str_one ec] at hx
        exact h3 c z hx.1 hy.1 rfl
      · cases e
    · cases e
  · cases e
theorem op_inDD : Op2B K cl (rInA K) inD := by
  intro Z H x y b v u fx fy Q s hx hy e q
  refine in_core s hx hy e (fun _ => rInA K v u H Q) (fun d ds a1 a2 a3 a4 eb => ?_) (fun p xs a1 a2 a3 a4 eb => ?_) fun c z a1 a2 eb => ?_
  · subst eb; exact .inl (.inl ⟨d, ds, a1, a2, a3, a4, q⟩)
  · subst eb; exact .inl (.inr ⟨p, xs, a1, .inr a2, a3, a4, q⟩)
  · subst eb; exact .inr ⟨c, z, a1, a2, q⟩
theorem op_notInDD : Op2B K cl (rNotInA K) notInD := by
  intro Z H x y b v u fx fy Q s hx hy e q
  obtain ⟨b', e2, eb'⟩ := Option.map_eq_some_iff.mp e
  subst eb'
  refine in_core s hx hy e2 (fun _ => rNotInA K v u H Q) (fun d ds a1 a2 a3 a4 eb => ?_) (fun p xs a1 a2 a3 a4 eb => ?_) fun c z a1 a2 eb => ?_
  · subst eb; exact .inl (.inl ⟨d, ds, a1, a2, a3, a4, q⟩)
  · subst eb; exact .inl (.inr ⟨p, xs, a1, .inr a2, a3, a4, q⟩)
  · subst eb; exact .inr ⟨c, z, a1, a2, q⟩
end

/-! ### the rules -/
section
variable {X : Cx} {W : WX} {a b e : Expr} {f g : Env → Ou D} {es : List Expr} {t : Env → Ou (List D)} {pos p : Pos} {x : Str}
theorem DE.callB {id : String} {r : List V → Hp → VK → Prop} {op : List D → Option D} (hc : CallR X (.builtin id) r) (hk : OpN X.K (He.ga X.K) r op) (hg : Gl X x) (hm : X.mg x = none) (hv : bootBuiltins x = some (.builtin id)) (ha : DAB X W (e :: es) t) (hn : x ≠ "__name__" := by decide) (hdb : (x == ("__debug__" : Str)) = false := by decide)
    (he : starEach (e :: es) X.env = (false, eval e X.env) :: starEach es X.env := by rfl) (hpl : (backTo pos (starEach es X.env)).any (·.1) = false := by rfl) : DE X W (.Call (.Name x p) (e :: es) [] pos) (dN op t) := by
  refine ⟨PE.weak (pe_callB hc hg hm hv ha.run hn hdb he hpl) fun σ H Q hq => ?_⟩
  obtain ⟨Z, ρ, r, q⟩ := hq
  refine tVs_bind (P := fun Z H o => PostO X.K (He.ga X.K) W Z H σ o Q) r (fun _ _ _ z => z) (fun z => z) q fun ds vs Z1 H1 fp ex g1 dn q => ?_
  have q := PostO.gr q g1
  match ec : op ds with
  | some d => rw [ec] at q; exact hk Z1 H1 ds d vs fp Q g1.s dn ec q
  | none => rw [ec] at q; exact q.elim
theorem DE.callTy {T : String} {r : List V → Hp → VK → Prop} {op : List D → Option D} (hc : CallR X (.type T) r) (hk : OpN X.K (He.ga X.K) r op) (hg : Gl X x) (hm : X.mg x = none) (hv : bootBuiltins x = some (.type T)) (ha : DAB X W (e :: es) t) (hn : x ≠ "__name__" := by decide) (hdb : (x == ("__debug__" : Str)) = false := by decide)
    (he : starEach (e :: es) X.env = (false, eval e X.env) :: starEach es X.env := by rfl) (hpl : (backTo pos (starEach es X.env)).any (·.1) = false := by rfl) : DE X W (.Call (.Name x p) (e :: es) [] pos) (dN op t) := by
  refine ⟨PE.weak (pe_callTy hc hg hm hv ha.run hn hdb he hpl) fun σ H Q hq => ?_⟩
  obtain ⟨Z, ρ, r, q⟩ := hq
  refine tVs_bind (P := fun Z H o => PostO X.K (He.ga X.K) W Z H σ o Q) r (fun _ _ _ z => z) (fun z => z) q fun ds vs Z1 H1 fp ex g1 dn q => ?_
  have q := PostO.gr q g1
  match ec : op ds with
  | some d => rw [ec] at q; exact hk Z1 H1 ds d vs fp Q g1.s dn ec q
  | none => rw [ec] at q; exact q.elim
theorem DB.ix (ha : DB X W a f) (hb : DB X W b g) (hs : PlainIx b := by exact fun _ _ => rfl) : DB X W (.Subscript a b pos) (d2 ixD f g) := by
  refine ⟨PE.weak (pe_ix ix_seq ha.run hb.run hs) fun σ H Q hq => ?_⟩
  obtain ⟨Z, ρ, r, q⟩ := hq
  refine tV_bind (P := fun Z H o => PostOB X.K (He.ga X.K) W Z H σ o Q) r (fun _ _ _ z => z) (fun z => z) q fun x v Z1 H1 fx ex g1 dx q => ?_
  refine tV_bind (P := fun Z H o => PostOB X.K (He.ga X.K) W Z H σ o Q) (r.gr g1) (fun _ _ _ z => z) (fun z => z) (q.gr g1) fun y u Z2 H2 fy ey g2 dy q => ?_
  have q := PostOB.gr q g2
  match e : ixD x y with
  | some d =>
    rw [e] at q
    exact op_ixD Z2 H2 x y d v u fx fy Q g2.s (g2.den dx) dy e q
  | none => rw [e] at q; exact q.elim
/-- a slice's part -/
def pNone : Env → Ou (Option Int) := fun _ => .ok none
def pSome (f : Env → Ou D) : Env → Ou (Option Int) := fun ρ => f ρ >>= fun d => match d with
  | .int i => .ok (some i)
  | _ => .bad
def dSl (f : Env → Ou D) (lo hi : Env → Ou (Option Int)) : Env → Ou D := fun ρ => f ρ >>= fun d => lo ρ >>= fun l => hi ρ >>= fun h => ofO (slD d l h)
def PostP (K : PySem.W.Frag) (cl : Str → Addr) (W : WX) (Z H : Hp) (σ : L2.St) (o : Ou (Option Int)) (Q : Option Int → Hp → Prop) : Prop := match o with
  | .ok b => ∀ Z' H', Gr Z H Z' H' → Q b H'
  | .ex c ns xs => PostX K cl W Z H σ c ns xs
  | .bad => False
structure DO (X : Cx) (W : WX) (e : Option Expr) (f : Env → Ou (Option Int)) : Prop where
  run : PO X e (fun σ H Q => ∃ Z ρ, RelS X.K (He.ga X.K) Z H σ ρ ∧ PostP X.K (He.ga X.K) W Z H σ (f ρ) Q)
theorem PO.weak {e : Option Expr} {t t' : TO} (h : PO X e t) (k : ∀ σ H Q, t' σ H Q → t σ H Q) : PO X e t' := ⟨fun pins s σ H Q I q => h.run pins s σ H Q I (k σ H Q q)⟩
theorem DO.none : DO X W none pNone := ⟨PO.weak po_none fun σ H Q ⟨Z, ρ, r, q⟩ => q Z H (Gr.refl r.s)⟩
theorem DO.some (h : DB X W e f) : DO X W (some e) (pSome f) := by
  refine ⟨PO.weak (po_some h.run) fun σ H Q hq => ?_⟩
  obtain ⟨Z, ρ, r, q⟩ := hq
  refine tV_bind (P := fun Z H o => PostP X.K (He.ga X.K) W Z H σ o Q) r (fun _ _ _ z => z) (fun z => z) q fun x v Z1 H1 fx ex g1 dx q => ?_
  cases x with
  | int i => rw [dx.1]; exact ⟨i, rfl, q Z1 H1 g1⟩
  | _ => exact q.elim
theorem DE.slice {lo hi : Option Expr} {l h : Env → Ou (Option Int)} {p2 : Pos} (ha : DB X W a f) (hl : DO X W lo l) (hh : DO X W hi h) : DE X W (.Subscript a (.Slice lo hi Option.none p2) pos) (dSl f l h) := by
  refine ⟨PE.weak (pe_slice sl_any ha.run hl.run hh.run) fun σ H Q hq => ?_⟩
  obtain ⟨Z, ρ, r, q⟩ := hq
  refine tV_bind (P := fun Z H o => PostO X.K (He.ga X.K) W Z H σ o Q) r (fun _ _ _ z => z) (fun z => z) q fun x v Z1 H1 fx ex g1 dx q => ?_
  have q := PostO.gr q g1
  refine ⟨Z1, ρ, r.gr g1, ?_⟩
  match e1 : l ρ with
  | .ok i =>
    rw [e1] at q
    intro Z2 H2 g2
    have q := PostO.gr q g2
    refine ⟨Z2, ρ, (r.gr g1).gr g2, ?_⟩
    match e2 : h ρ with
    | .ok j =>
      rw [e2] at q
      intro Z3 H3 g3
      have q := PostO.gr q g3
      match e3 : slD x i j with
      | .some d =>
        have q : PostO X.K (He.ga X.K) W Z3 H3 σ (ofO (slD x i j)) Q := q
        rw [e3] at q
        exact op_slD g3.s (g3.den (g2.den dx)) e3 q
      | .none =>
        have q : PostO X.K (He.ga X.K) W Z3 H3 σ (ofO (slD x i j)) Q := q
        rw [e3] at q
        exact q.elim
    | .ex c ns xs => rw [e2] at q; exact q
    | .bad => rw [e2] at q; exact q.elim
  | .ex c ns xs => rw [e1] at q; exact q
  | .bad => rw [e1] at q; exact q.elim
def revD : D → Option D
  | .lst _ xs => if D.fzs xs then .some (.lst true xs.reverse) else .none
  | _ => .none
theorem DE.rev {k : Nat} {p1 p2 p3 : Pos} (ha : DB X W a f) : DE X W (.Subscript a (.Slice Option.none Option.none (.some (.UnaryOp .USub (.Constant (.int 1) k p1) p2)) p3) pos) (d1 revD f) := by
  refine ⟨PE.weak (pe_revL ha.run) fun σ H Q hq => ?_⟩
  obtain ⟨Z, ρ, r, q⟩ := hq
  refine tV_bind (P := fun Z H o => PostO X.K (He.ga X.K) W Z H σ o Q) r (fun _ _ _ z => z) (fun z => z) q fun x v Z1 H1 fx ex g1 dx q => ?_
  have q := PostO.gr q g1
  cases x with
  | lst o xs =>
    by_cases c : D.fzs xs = true
    · have e : revD (.lst o xs) = .some (.lst true xs.reverse) := if_pos c
      rw [e] at q
      obtain ⟨a, vs, f, rfl, qa, rr, _⟩ := dx.lstH g1.s
      exact ⟨a, vs, rfl, .inl (.inl qa), fun p hp => PostV.lst0 q g1.s (rr.fz0 c).reverse p hp⟩
    · have e : revD (.lst o xs) = Option.none := if_neg c
      rw [e] at q
      exact q.elim
  | _ => exact q.elim
end
end DL

namespace DL
open PySem PySem.Spec PyProof.Rows L2

/-! ### statements -/
/-- how a statement ends -/
inductive Os where
  | nx (ρ : Env)
  | rt (d : D)
  | bk (ρ : Env)
  | ct (ρ : Env)
  | ex (c : Str) (ns : List Str) (xs : List D) (ρ : Env)
  | bad
def ofU {α : Type} (o : Ou α) (ρ : Env) (k : α → Os) : Os := match o with
  | .ok a => k a
  | .ex c ns xs => .ex c ns xs ρ
  | .bad => .bad
@[simp] theorem ofU_ok {α : Type} (a : α) (ρ : Env) (k : α → Os) : ofU (.ok a) ρ k = k a := (rfl)
@[simp] theorem ofU_ex {α : Type} (c : Str) (ns : List Str) (xs : List D) (ρ : Env) (k : α → Os) : ofU (.ex c ns xs) ρ k = .ex c ns xs ρ := (rfl)
@[simp] theorem ofU_bad {α : Type} (ρ : Env) (k : α → Os) : ofU (.bad : Ou α) ρ k = .bad := (rfl)
def frzH (Z H : Hp) (fp : Fp) : Hp := fun a => if a ∈ fp then H a else Z a
def cutH (H : Hp) (fp : Fp) : Hp := fun a => if a ∈ fp then none else H a
section
variable (K : PySem.W.Frag) (cl : Str → Addr)
/-- the state of a def's body: (Z0, H0) at its entry -/
structure Sta (Z0 H0 Z H : Hp) (σ : L2.St) (ρ : Env) : Prop where
  g : Gr Z0 H0 Z H
  e : ∃ fp, Slots K cl Z H ρ σ fp ∧ fp.Nodup ∧ ∀ a ∈ fp, H0 a = none
def PostS (W : WX) (Z0 H0 : Hp) (E : Ends) (r : Os) : Prop := match r with
  | .nx ρ => ∀ σ Z H, Sta K cl Z0 H0 Z H σ ρ → E.nx σ H
  | .rt d => ∀ v Z H fp, Gr Z0 H0 Z H → Den K cl Z H d v fp → fp.Nodup → (∀ a ∈ fp, H0 a = none) → E.rt v H
  | .bk ρ => ∀ σ Z H, Sta K cl Z0 H0 Z H σ ρ → E.bk σ H
  | .ct ρ => ∀ σ Z H, Sta K cl Z0 H0 Z H σ ρ → E.ct σ H
  | .ex c ns xs ρ => ∀ dc σ Z H, Sta K cl Z0 H0 Z H σ ρ → ExD K cl Z H ns xs dc → W (.ref (cl c)) dc σ H
  | .bad => False
def tS (W : WX) (Z0 H0 : Hp) (g : Env → Os) : TS := fun E σ H => ∃ Z ρ, Sta K cl Z0 H0 Z H σ ρ ∧ PostS K cl W Z0 H0 E (g ρ)
end
section
variable {K : PySem.W.Frag} {cl : Str → Addr} {Z H Z' H' Z0 H0 Z1 H1 : Hp} {σ : L2.St} {ρ : Env} {W : WX}
theorem Sta.rel (s : Sta K cl Z0 H0 Z H σ ρ) : RelS K cl Z H σ ρ := let ⟨fp, h, nd, _⟩ := s.e; ⟨s.g.s, fp, h, nd⟩
theorem Sta.gr (s : Sta K cl Z0 H0 Z H σ ρ) (g : Gr Z H Z' H') : Sta K cl Z0 H0 Z' H' σ ρ := by
  obtain ⟨fp, h, nd, fr⟩ := s.e
  exact ⟨s.g.trans g, fp, Slots.mono g.z (fun a ha => by
    obtain ⟨z, xs, q⟩ := Slots.own h a ha
    exact ⟨g.n a (by rw [q]; exact fun z => nomatch z) z, by rw [q]; exact g.h a _ q⟩) h, nd, fr⟩
theorem Sta.unbase (g : Gr Z0 H0 Z1 H1) (s : Sta K cl Z1 H1 Z H σ ρ) : Sta K cl Z0 H0 Z H σ ρ := by
  obtain ⟨fp, h, nd, fr⟩ := s.e
  exact ⟨g.trans s.g, fp, h, nd, fun a ha => g.h.back (fr a ha)⟩
theorem PostS.unbase {E : Ends} {r : Os} (g : Gr Z0 H0 Z1 H1) (q : PostS K cl W Z0 H0 E r) : PostS K cl W Z1 H1 E r := by
  cases r with
  | nx ρ => exact fun σ Z H s => q σ Z H (s.unbase g)
  | rt d => exact fun v Z H fp g1 h nd fr => q v Z H fp (g.trans g1) h nd fun a ha => g.h.back (fr a ha)
  | bk ρ => exact fun σ Z H s => q σ Z H (s.unbase g)
  | ct ρ => exact fun σ Z H s => q σ Z H (s.unbase g)
  | ex c ns xs ρ => exact fun dc σ Z H s h => q dc σ Z H (s.unbase g) h
  | bad => exact q
/-- all but the owned is the frame -/
theorem Sta.rebase (s : Sta K cl Z0 H0 Z H σ ρ) : ∃ Hl, Gr Z0 H0 Z Hl ∧ Sta K cl Z Hl Z H σ ρ ∧ Ex Hl H ∧ (∀ a, Hl a = none → H a ≠ none → Z a = none) := by
  obtain ⟨fp, h, nd, fr⟩ := s.e
  have zo : ∀ a ∈ fp, Z a = none := fun a ha => (Slots.own h a ha).1
  refine ⟨cutH H fp, ⟨s.g.z, fun a o e => ?_, fun a o e => ?_, s.g.n⟩, ⟨⟨Ex.refl _, fun a o e => ?_, s.g.s, fun _ _ z => z⟩, fp, h, nd, fun a ha => if_pos ha⟩, fun a o e => ?_, fun a e1 e2 => ?_⟩
  · have na : a ∉ fp := fun hm => by rw [fr a hm] at e; cases e
    exact (if_neg na).trans (s.g.h a o e)
  · have na : a ∉ fp := fun hm => by rw [zo a hm] at e; cases e
    exact (if_neg na).trans (s.g.s a o e)
  · unfold cutH at e
    split at e
    · cases e
    · exact e
  · unfold cutH at e
    split at e
    · cases e
    · exact e
  · unfold cutH at e1
    split at e1
    · rename_i hm; exact zo a hm
    · exact absurd e1 e2
theorem Gr.frz (g : Gr Z H Z' H') {fp : Fp} (own : ∀ a ∈ fp, Z' a = none) (fr : ∀ a ∈ fp, H a = none) : Gr Z H (frzH Z' H' fp) H' := by
  refine ⟨fun a o e => ?_, g.h, fun a o e => ?_, fun a h1 h2 => ?_⟩
  · have na : a ∉ fp := fun hm => by
      have := own a hm
      rw [g.z a o e] at this; cases this
    exact (if_neg na).trans (g.z a o e)
  · unfold frzH at e
    split at e
    · exact e
    · exact g.s a o e
  · have na : a ∉ fp := fun hm => h1 (fr a hm)
    exact (if_neg na).trans (g.n a h1 h2)
theorem frzH_ex {fp : Fp} (own : ∀ a ∈ fp, Z a = none) : Ex Z (frzH Z H fp) := fun a o e => by
  have na : a ∉ fp := fun hm => by rw [own a hm] at e; cases e
  exact (if_neg na).trans e
/-- a slot taken out and put back, perhaps changed -/
theorem Slots.split : ∀ {ρ : Env} {σ : L2.St} {fp : Fp} {i : Nat} {d : D}, Slots K cl Z H ρ σ fp → ρ[i]? = some (some d) →
    ∃ (v : V) (f rest : Fp), σ[i]? = some (some v) ∧ Den K cl Z H d v f ∧ fp.Perm (f ++ rest) ∧
      ∀ (Y H' : Hp) (d' : D) (f' : Fp), Ex Z Y → (∀ a ∈ rest, Y a = none ∧ H' a = H a) → Den K cl Y H' d' v f' → ∃ fp', Slots K cl Y H' (ρ.set i (some d')) σ fp' ∧ fp'.Perm (f' ++ rest)
  | [], _, _, _, _, _, e => by simp at e
  | none :: ρ, σ, fp, 0, d, h, e => by simp at e
  | none :: ρ, σ, fp, i + 1, d, h, e => by
    obtain ⟨o, σ', e1, r⟩ := h
    subst e1
    obtain ⟨v, f, rest, h1, h2, h3, h4⟩ := Slots.split (i := i) r (by simpa using e)
    refine ⟨v, f, rest, by simpa using h1, h2, h3, fun Y H' d' f' ey k q => ?_⟩
    obtain ⟨fp', a1, a2⟩ := h4 Y H' d' f' ey k q
    exact ⟨fp', ⟨o, σ', rfl, a1⟩, a2⟩
  | some x :: ρ, σ, fp, 0, d, h, e => by
    obtain ⟨v, σ', f1, f2, e1, e2, q, r⟩ := h
    have e' : x = d := by simpa using e
    subst e' e1 e2
    exact ⟨v, f1, f2, rfl, q, List.Perm.refl _, fun Y H' d' f' ey k q' => ⟨f' ++ f2, ⟨v, σ', f', f2, rfl, rfl, q', Slots.mono ey k r⟩, List.Perm.refl _⟩⟩
  | some x :: ρ, σ, fp, i + 1, d, h, e => by
    obtain ⟨v, σ', f1, f2, e1, e2, q, r⟩ := h
    subst e1 e2
    obtain ⟨u, f, rest, h1, h2, h3, h4⟩ := Slots.split (i := i) r (by simpa using e)
    have pp : ∀ (f' f2' : Fp), f2'.Perm (f' ++ rest) → (f1 ++ f2').Perm (f' ++ (f1 ++ rest)) := fun f' f2' p => by
      refine (List.Perm.append_left f1 p).trans ?_
      rw [← List.append_assoc, ← List.append_assoc]
      exact List.Perm.append_right rest List.perm_append_comm
    refine ⟨u, f, f1 ++ rest, by simpa using h1, h2, pp f f2 h3, fun Y H' d' f' ey k q' => ?_⟩
    obtain ⟨fp', a1, a2⟩ := h4 Y H' d' f' ey (fun a ha => k a (List.mem_append_right _ ha)) q'
    exact ⟨f1 ++ fp', ⟨v, σ', f1, fp', rfl, rfl, Den.mono ey x v f1 (fun a ha => k a (List.mem_append_left _ ha)) q, a1⟩, pp f' fp' a2⟩
theorem Dens.split : ∀ {ds : List D} {vs : List V} {fp : Fp} {i : Nat} {d : D}, Dens K cl Z H ds vs fp → ds[i]? = some d →
    ∃ (v : V) (f rest : Fp), vs[i]? = some v ∧ Den K cl Z H d v f ∧ fp.Perm (f ++ rest) ∧
      ∀ (Y H' : Hp) (d' : D) (v' : V) (f' : Fp), Ex Z Y → (∀ a ∈ rest, Y a = none ∧ H' a = H a) → Den K cl Y H' d' v' f' → ∃ fp', Dens K cl Y H' (ds.set i d') (vs.set i v') fp' ∧ fp'.Perm (f' ++ rest)
  | [], _, _, _, _, _, e => by simp at e
  | x :: ds, vs, fp, 0, d, h, e => by
    obtain ⟨v, vr, f1, f2, e1, e2, q, r⟩ := h.cons'
    have e' : x = d := by simpa using e
    subst e' e1 e2
    exact ⟨v, f1, f2, rfl, q, List.Perm.refl _, fun Y H' d' v' f' ey k q' => ⟨f' ++ f2, Dens.cons q' (Dens.mono ey ds vr f2 k r), List.Perm.refl _⟩⟩
  | x :: ds, vs, fp, i + 1, d, h, e => by
    obtain ⟨v, vr, f1, f2, e1, e2, q, r⟩ := h.cons'
    subst e1 e2
    obtain ⟨u, f, rest, h1, h2, h3, h4⟩ := Dens.split (i := i) r (by simpa using e)
    have pp : ∀ (f' f2' : Fp), f2'.Perm (f' ++ rest) → (f1 ++ f2').Perm (f' ++ (f1 ++ rest)) := fun f' f2' p => by
      refine (List.Perm.append_left f1 p).trans ?_
      rw [← List.append_assoc, ← List.append_assoc]
      exact List.Perm.append_right rest List.perm_append_comm
    refine ⟨u, f, f1 ++ rest, by simpa using h1, h2, pp f f2 h3, fun Y H' d' v' f' ey k q' => ?_⟩
    obtain ⟨fp', a1, a2⟩ := h4 Y H' d' v' f' ey (fun a ha => k a (List.mem_append_right _ ha)) q'
    exact ⟨f1 ++ fp', Dens.cons (Den.mono ey x v f1 (fun a ha => k a (List.mem_append_left _ ha)) q) a1, pp f' fp' a2⟩
/-- the slot's list is written: its footprint f becomes f' -/
theorem Sta.write {i : Nat} {d d' : D} {a : Addr} {o : HO} {rest : Fp} {v : V} {f f' fp : Fp} (s : Gr Z0 H0 Z H) (h : Slots K cl Z H ρ σ fp) (nd : fp.Nodup) (fr : ∀ b ∈ fp, H0 b = none)
    (pm : fp.Perm (f ++ rest)) (ha : a ∈ f) (nf : f'.Nodup) (h0 : ∀ b ∈ f', H0 b = none) (hr : ∀ b ∈ f', b ∉ rest)
    (k : (∀ b ∈ rest, Z b = none ∧ upd H a o b = H b) → ∃ fp', Slots K cl Z (upd H a o) (ρ.set i (some d')) σ fp' ∧ fp'.Perm (f' ++ rest)) : Sta K cl Z0 H0 Z (upd H a o) σ (ρ.set i (some d')) := by
  have af : a ∈ fp := pm.symm.mem_iff.mp (List.mem_append_left _ ha)
  have za : Z a = none := (Slots.own h a af).1
  have nd2 : (f ++ rest).Nodup := pm.nodup_iff.mp nd
  obtain ⟨fp', k1, k2⟩ := k fun b hb => ⟨(Slots.own h b (pm.symm.mem_iff.mp (List.mem_append_right _ hb))).1, upd_ne fun c => (List.nodup_append.mp nd2).2.2 a ha b hb c.symm⟩
  refine ⟨⟨s.z, s.h.mut (fr a af), fun b u e => ?_, s.n⟩, fp', k1, ?_, fun b hb => ?_⟩
  · rw [upd_ne (fun c => by rw [c, za] at e; cases e)]
    exact s.s b u e
  · refine k2.symm.nodup_iff.mp ?_
    rw [List.nodup_append]
    exact ⟨nf, (List.nodup_append.mp nd2).2.1, fun x hx y hy e => hr x hx (e ▸ hy)⟩
  · rcases List.mem_append.mp (k2.mem_iff.mp hb) with z | z
    · exact h0 b z
    · exact fr b (pm.symm.mem_iff.mp (List.mem_append_right _ z))
end

structure DS (X : Cx) (W : WX) (st : Stmt) (g : Env → Os) : Prop where
  run : ∀ Z0 H0, PS X st (tS X.K (He.ga X.K) W Z0 H0 g)
structure DSs (X : Cx) (W : WX) (st : List Stmt) (g : Env → Os) : Prop where
  run : ∀ Z0 H0, PSs X st (tS X.K (He.ga X.K) W Z0 H0 g)
theorem PS.weak {X : Cx} {st : Stmt} {t t' : TS} (h : PS X st t) (k : ∀ E σ H, t' E σ H → t E σ H) : PS X st t' := ⟨fun pins s σ H E I q => h.run pins s σ H E I (k E σ H q)⟩
theorem PSs.weak {X : Cx} {st : List Stmt} {t t' : TS} (h : PSs X st t) (k : ∀ E σ H, t' E σ H → t E σ H) : PSs X st t' := ⟨fun pins s σ H E I q => h.run pins s σ H E I (k E σ H q)⟩

def sNil : Env → Os := fun ρ => .nx ρ
def andThen (r : Os) (h : Env → Os) : Os := match r with
  | .nx ρ => h ρ
  | .rt d => .rt d
  | .bk ρ => .bk ρ
  | .ct ρ => .ct ρ
  | .ex c ns xs ρ => .ex c ns xs ρ
  | .bad => .bad
@[simp] theorem andThen_nx (ρ : Env) (h : Env → Os) : andThen (.nx ρ) h = h ρ := (rfl)
@[simp] theorem andThen_rt (d : D) (h : Env → Os) : andThen (.rt d) h = .rt d := (rfl)
@[simp] theorem andThen_bk (ρ : Env) (h : Env → Os) : andThen (.bk ρ) h = .bk ρ := (rfl)
@[simp] theorem andThen_ct (ρ : Env) (h : Env → Os) : andThen (.ct ρ) h = .ct ρ := (rfl)
@[simp] theorem andThen_ex (c : Str) (ns : List Str) (xs : List D) (ρ : Env) (h : Env → Os) : andThen (.ex c ns xs ρ) h = .ex c ns xs ρ := (rfl)
@[simp] theorem andThen_bad (h : Env → Os) : andThen .bad h = .bad := (rfl)
def sSeq (g h : Env → Os) : Env → Os := fun ρ => andThen (g ρ) h
def sDrop (f : Env → Ou D) : Env → Os := fun ρ => ofU (f ρ) ρ fun _ => .nx ρ
def sRet (f : Env → Ou D) : Env → Os := fun ρ => ofU (f ρ) ρ fun d => .rt d
def sRetV (i : Nat) : Env → Os := fun ρ => match ρ[i]? with
  | some (some d) => .rt d
  | _ => .bad
def sIf (c : Env → Ou Bool) (g h : Env → Os) : Env → Os := fun ρ => ofU (c ρ) ρ fun b => if b then g ρ else h ρ
def sSet (i : Nat) (f : Env → Ou D) : Env → Os := fun ρ => ofU (f ρ) ρ fun d => if i < ρ.length then .nx (ρ.set i (some d)) else .bad
def sFrz (i : Nat) (g : Env → Os) : Env → Os := fun ρ => match ρ[i]? with
  | some (some d) => g (ρ.set i (some d.frz))
  | _ => g ρ
def sAug (i : Nat) (op : D → D → Option D) (f : Env → Ou D) : Env → Os := fun ρ => match ρ[i]? with
  | some (some x) => ofU (f ρ) ρ fun y => match op x y with
    | some d => .nx (ρ.set i (some d))
    | none => .bad
  | _ => .bad
def sBrk : Env → Os := fun ρ => .bk ρ
def sCont : Env → Os := fun ρ => .ct ρ
/-- x.append(e) -/
def sApp (i : Nat) (f : Env → Ou D) : Env → Os := fun ρ => match ρ[i]? with
  | some (some (.lst true xs)) => ofU (f ρ) ρ fun d => if xs.length < LIM then .nx (ρ.set i (some (.lst true (xs ++ [d])))) else .bad
  | _ => .bad
section
variable {X : Cx} {W : WX} {st : Stmt} {rest : List Stmt} {a b e c : Expr} {f : Env → Ou D} {g h : Env → Os} {p : Env → Ou Bool} {pos : Pos}
theorem DSs.nil : DSs X W [] sNil := ⟨fun Z0 H0 => PSs.weak pss_nil fun E σ H ⟨Z, ρ, s, q⟩ => q σ Z H s⟩
theorem DSs.cons (h1 : DS X W st g) (h2 : DSs X W rest h) : DSs X W (st :: rest) (sSeq g h) := by
  refine ⟨fun Z0 H0 => PSs.weak (pss_cons (h1.run Z0 H0) (h2.run Z0 H0)) fun E σ H hq => ?_⟩
  obtain ⟨Z, ρ, s, q⟩ := hq
  refine ⟨Z, ρ, s, ?_⟩
  unfold sSeq at q
  cases e : g ρ with
  | nx ρ' =>
    rw [e] at q
    exact fun σ' Z' H' s' => ⟨Z', ρ', s', q⟩
  | rt d => rw [e] at q; exact q
  | bk ρ' => rw [e] at q; exact q
  | ct ρ' => rw [e] at q; exact q
  | ex c ns xs ρ' => rw [e] at q; exact q
  | bad => rw [e] at q; exact q
theorem DSs.one (h1 : DS X W st g) : DSs X W [st] g := ⟨fun Z0 H0 => pss_one (h1.run Z0 H0)⟩
theorem DS.pass : DS X W (.Pass pos) sNil := ⟨fun Z0 H0 => PS.weak ps_pass fun E σ H ⟨Z, ρ, s, q⟩ => q σ Z H s⟩
theorem DS.brk : DS X W (.Break pos) sBrk := ⟨fun Z0 H0 => PS.weak ps_break fun E σ H ⟨Z, ρ, s, q⟩ => q σ Z H s⟩
theorem DS.cont : DS X W (.Continue pos) sCont := ⟨fun Z0 H0 => PS.weak ps_continue fun E σ H ⟨Z, ρ, s, q⟩ => q σ Z H s⟩
theorem DS.drop (he : DB X W e f) (hs : swapsWith e none pos.line X.env = pure false := by rfl) : DS X W (.Expr e pos) (sDrop f) := by
  refine ⟨fun Z0 H0 => PS.weak (ps_expr he.run hs) fun E σ H hq => ?_⟩
  obtain ⟨Z, ρ, s, q⟩ := hq
  refine ⟨Z, ρ, s.rel, ?_⟩
  unfold sDrop at q
  cases ec : f ρ with
  | ok d => rw [ec] at q; exact fun v Z' H' fp g1 dn => q σ Z' H' (s.gr g1)
  | ex c ns xs => rw [ec] at q; exact fun dc Z' H' g1 x => q dc σ Z' H' (s.gr g1) x
  | bad => rw [ec] at q; exact q
theorem DS.ret (he : DE X W e f) : DS X W (.Return (some e) pos) (sRet f) := by
  refine ⟨fun Z0 H0 => PS.weak (ps_ret he.run) fun E σ H hq => ?_⟩
  obtain ⟨Z, ρ, s, q⟩ := hq
  refine ⟨Z, ρ, s.rel, ?_⟩
  unfold sRet at q
  cases ec : f ρ with
  | ok d => rw [ec] at q; exact fun v Z' H' fp g1 dn nd fr => q v Z' H' fp (s.g.trans g1) dn nd fun a ha => s.g.h.back (fr a ha)
  | ex c ns xs => rw [ec] at q; exact fun dc Z' H' g1 x => q dc σ Z' H' (s.gr g1) x
  | bad => rw [ec] at q; exact q
theorem DS.retN : DS X W (.Return none pos) (sRet (dC .non)) := by
  refine ⟨fun Z0 H0 => PS.weak ps_retN fun E σ H hq => ?_⟩
  obtain ⟨Z, ρ, s, q⟩ := hq
  exact q .non Z H [] s.g ⟨rfl, rfl⟩ List.nodup_nil fun _ z => nomatch z
theorem DS.retV (i : Nat) {x : Str} {p : Pos} (hN : X.N[i]? = some x := by rfl) (hv : Vis X.env.scope x := by first | exact Or.inl rfl | exact Or.inr (Or.inl rfl) | exact Or.inr (Or.inr rfl)) (hd : (x == ("__debug__" : Str)) = false := by decide)
    (hcd : (x == ("__classdict__" : Str)) = false := by decide) : DS X W (.Return (some (.Name x p)) pos) (sRetV i) := by
  refine ⟨fun Z0 H0 => PS.weak (ps_ret (pv i hN hv hd hcd)) fun E σ H hq => ?_⟩
  obtain ⟨Z, ρ, s, q⟩ := hq
  obtain ⟨fp, sl, nd, fr⟩ := s.e
  unfold sRetV at q
  match e : ρ[i]? with
  | some (some d) =>
    rw [e] at q
    obtain ⟨v, f, h1, h2, h3⟩ := Slots.get sl e
    exact ⟨v, h1, q v Z H f s.g h2 (h3.nodup nd) fun a ha => fr a (h3.subset ha)⟩
  | some none => rw [e] at q; exact q.elim
  | none => rw [e] at q; exact q.elim
theorem DS.if_ (hc : DT X W c p) (ha : DSs X W rest g) {els : List Stmt} (hb : DSs X W els h) : DS X W (.If c rest els pos) (sIf p g h) := by
  refine ⟨fun Z0 H0 => PS.weak (ps_if hc.run (ha.run Z0 H0) (hb.run Z0 H0)) fun E σ H hq => ?_⟩
  obtain ⟨Z, ρ, s, q⟩ := hq
  refine ⟨Z, ρ, s.rel, ?_⟩
  unfold sIf at q
  cases ec : p ρ with
  | ok d =>
    rw [ec] at q
    intro Z' H' g1
    cases d with
    | true => exact ⟨Z', ρ, s.gr g1, q⟩
    | false => exact ⟨Z', ρ, s.gr g1, q⟩
  | ex c ns xs => rw [ec] at q; exact fun dc Z' H' g1 x => q dc σ Z' H' (s.gr g1) x
  | bad => rw [ec] at q; exact q
theorem Sta.set {K : PySem.W.Frag} {cl : Str → Addr} {Z0 H0 Z H Z' H' : Hp} {σ : L2.St} {ρ : Env} {d : D} {v : V} {fp : Fp} {i : Nat} (s : Sta K cl Z0 H0 Z H σ ρ) (g1 : Gr Z H Z' H') (dn : Den K cl Z' H' d v fp) (nd : fp.Nodup) (fr : ∀ a ∈ fp, H a = none) (hi : i < ρ.length) :
    Sta K cl Z0 H0 Z' H' (σ.set i (some v)) (ρ.set i (some d)) := by
  have s1 := s.gr g1
  obtain ⟨fq, sl, n0, f0⟩ := s1.e
  obtain ⟨fp0, sl0, _, _⟩ := s.e
  obtain ⟨fq1, sl1, n1, f1⟩ := s.e
  have dj : ∀ a ∈ fp, a ∉ fq1 := fun a ha hb => by
    obtain ⟨_, xs, e⟩ := Slots.own sl1 a hb
    rw [fr a ha] at e; cases e
  have sl2 : Slots K cl Z' H' ρ σ fq1 := Slots.mono g1.z (fun a ha => by
    obtain ⟨z, xs, q⟩ := Slots.own sl1 a ha
    exact ⟨g1.n a (by rw [q]; exact fun z => nomatch z) z, by rw [q]; exact g1.h a _ q⟩) sl1
  obtain ⟨fp', a1, a2, a3⟩ := Slots.set (i := i) sl2 n1 dn nd dj hi
  refine ⟨s1.g, fp', a1, a2, fun a ha => ?_⟩
  rcases a3 a ha with z | z
  · exact f1 a z
  · exact s.g.h.back (fr a z)
theorem DS.set (i : Nat) {x : Str} {pos' : Pos} (he : DE X W e f) (hN : X.N.Nodup) (hi : X.N[i]? = some x := by rfl) (hx : Loc X.env.scope x := by first | exact Or.inl rfl | exact Or.inr rfl) (hs : swapsWith e (some (.Name x pos')) pos.line X.env = pure false := by rfl)
    (hf : X.fn x = true ∨ X.env.scope.names.lookup x = some .local := by first | exact .inl rfl | exact .inr rfl | assumption) : DS X W (.Assign [.Name x pos'] e pos) (sSet i f) := by
  refine ⟨fun Z0 H0 => PS.weak (ps_set (i := i) hN hi hx he.run hs hf) fun E σ H hq => ?_⟩
  obtain ⟨Z, ρ, s, q⟩ := hq
  refine ⟨Z, ρ, s.rel, ?_⟩
  unfold sSet at q
  cases ec : f ρ with
  | ok d =>
    rw [ec] at q
    intro v Z' H' fp g1 dn nd fr
    have q : PostS X.K (He.ga X.K) W Z0 H0 E (if i < ρ.length then .nx (ρ.set i (some d)) else .bad) := q
    by_cases c : i < ρ.length
    · rw [if_pos c] at q
      exact q _ Z' H' (s.set g1 dn nd fr c)
    · rw [if_neg c] at q; exact q.elim
  | ex c ns xs => rw [ec] at q; exact fun dc Z' H' g1 x => q dc σ Z' H' (s.gr g1) x
  | bad => rw [ec] at q; exact q
/-- a slot is frozen, unseen -/
theorem Sta.frz {K : PySem.W.Frag} {cl : Str → Addr} {Z0 H0 Z H : Hp} {σ : L2.St} {ρ : Env} {d : D} {i : Nat} (s : Sta K cl Z0 H0 Z H σ ρ) (e : ρ[i]? = some (some d)) : ∃ Z', Sta K cl Z0 H0 Z' H σ (ρ.set i (some d.frz)) := by
  obtain ⟨fp, sl, nd, fr⟩ := s.e
  obtain ⟨v, f, rest, h1, h2, h3, h4⟩ := sl.split e
  have hm : ∀ a ∈ f, a ∈ fp := fun a ha => h3.symm.mem_iff.mp (List.mem_append_left _ ha)
  have zo : ∀ a ∈ f, Z a = none := fun a ha => (Slots.own sl a (hm a ha)).1
  have nd2 : (f ++ rest).Nodup := h3.nodup_iff.mp nd
  have ez : Ex Z (frzH Z H f) := frzH_ex zo
  have es : Ex (frzH Z H f) H := fun a o e => by
    unfold frzH at e
    split at e
    · exact e
    · exact s.g.s a o e
  obtain ⟨fp', k1, k2⟩ := h4 (frzH Z H f) H d.frz [] ez (fun a ha => ⟨by
    have na : a ∉ f := fun hb => (List.nodup_append.mp nd2).2.2 a hb a ha rfl
    exact (if_neg na).trans (Slots.own sl a (h3.symm.mem_iff.mp (List.mem_append_right _ ha))).1, rfl⟩) (Den.freeze ez d v f (fun a ha => if_pos ha) h2)
  refine ⟨frzH Z H f, ?_, fp', k1, ?_, fun a ha => ?_⟩
  · refine ⟨s.g.z.trans ez, s.g.h, es, fun a h1 h2 => ?_⟩
    have na : a ∉ f := fun hb => h1 (fr a (hm a hb))
    exact (if_neg na).trans (s.g.n a h1 h2)
  · refine k2.symm.nodup_iff.mp ?_
    exact (List.nodup_append.mp nd2).2.1
  · have := k2.mem_iff.mp ha
    exact fr a (h3.symm.mem_iff.mp (List.mem_append_right _ (by simpa using this)))
end
end DL

namespace DL
open PySem PySem.Spec PyProof.Rows L2
section
variable {K : PySem.W.Frag} {cl : Str → Addr} {Z H Z' H' Z0 H0 Z1 H1 : Hp} {σ : L2.St} {ρ : Env} {W : WX}
theorem Gr.own (g : Gr Z H Z1 H1) {b : Addr} (z : Z b = none) (q : ∃ xs, H b = some (.lst xs)) : Z1 b = none ∧ H1 b = H b := by
  obtain ⟨xs, q⟩ := q
  exact ⟨g.n b (by rw [q]; exact fun z => nomatch z) z, by rw [q]; exact g.h b _ q⟩
/-- an owned list in a slot, and how it is written, later too -/
theorem Sta.list {i : Nat} {xs : List D} (s : Sta K cl Z0 H0 Z H σ ρ) (e : ρ[i]? = some (some (.lst true xs))) :
    ∃ (a : Addr) (vs : List V) (fq rest : Fp), σ[i]? = some (some (.ref a)) ∧ H a = some (.lst vs) ∧ Dens K cl Z H xs vs fq ∧ (a :: (fq ++ rest)).Nodup ∧ (∀ b ∈ a :: (fq ++ rest), H b ≠ none ∧ H0 b = none ∧ Z b = none) ∧
      ∀ (Z1 H1 : Hp) (vs' : List V) (ds' : List D) (fq' : Fp), Gr Z H Z1 H1 → fq'.Nodup → (∀ b ∈ fq', b ≠ a ∧ b ∉ rest ∧ H0 b = none) → Dens K cl Z1 (upd H1 a (.lst vs')) ds' vs' fq' → Sta K cl Z0 H0 Z1 (upd H1 a (.lst vs')) σ (ρ.set i (some (.lst true ds'))) := by
  obtain ⟨fp, sl, nd, fr⟩ := s.e
  obtain ⟨v, f, rest, h1, h2, h3, h4⟩ := sl.split e
  simp only [Den] at h2
  obtain ⟨a, vs, fq, e1, e2, za, q, r⟩ := h2
  subst e1 e2
  have nd2 : (a :: (fq ++ rest)).Nodup := h3.nodup_iff.mp nd
  have mm : ∀ b ∈ a :: (fq ++ rest), b ∈ fp := fun b hb => h3.symm.mem_iff.mp hb
  have ow : ∀ b ∈ a :: (fq ++ rest), Z b = none ∧ ∃ xs, H b = some (.lst xs) := fun b hb => Slots.own sl b (mm b hb)
  refine ⟨a, vs, fq, rest, h1, q, r, nd2, fun b hb => ?_, fun Z1 H1 vs' ds' fq' g nf dj dn => ?_⟩
  · obtain ⟨z, xs, q'⟩ := ow b hb
    exact ⟨by rw [q']; exact (fun z => nomatch z), fr b (mm b hb), z⟩
  · have a1 := g.own za ⟨vs, q⟩
    have s1 := s.gr g
    have na : ∀ b ∈ rest, b ≠ a := fun b hb c => by
      have := List.nodup_cons.mp nd2
      exact this.1 (c ▸ List.mem_append_right _ hb)
    have hr : ∀ b ∈ rest, Z1 b = none ∧ upd H1 a (.lst vs') b = H b := fun b hb => by
      obtain ⟨z, q'⟩ := ow b (List.mem_cons_of_mem _ (List.mem_append_right _ hb))
      obtain ⟨b1, b2⟩ := g.own z q'
      exact ⟨b1, by rw [upd_ne (na b hb)]; exact b2⟩
    obtain ⟨fp', k1, k2⟩ := h4 Z1 (upd H1 a (.lst vs')) (.lst true ds') (a :: fq') g.z hr (by
      simp only [Den]
      exact ⟨a, vs', fq', rfl, rfl, a1.1, upd_same, dn⟩)
    refine ⟨⟨s1.g.z, s1.g.h.mut (fr a (mm a List.mem_cons_self)), fun b u e => ?_, s1.g.n⟩, fp', k1, ?_, fun b hb => ?_⟩
    · rw [upd_ne (fun c => by rw [c, a1.1] at e; cases e)]
      exact s1.g.s b u e
    · refine k2.symm.nodup_iff.mp ?_
      have n3 := List.nodup_cons.mp nd2
      show (a :: (fq' ++ rest)).Nodup
      rw [List.nodup_cons, List.nodup_append]
      refine ⟨fun hm => ?_, nf, (List.nodup_append.mp n3.2).2.1, fun x hx y hy c => (dj x hx).2.1 (c ▸ hy)⟩
      rcases List.mem_append.mp hm with z | z
      · exact (dj a z).1 rfl
      · exact n3.1 (List.mem_append_right _ z)
    · have hb' : b ∈ a :: (fq' ++ rest) := k2.mem_iff.mp hb
      rcases List.mem_cons.mp hb' with z | z
      · subst z; exact fr b (mm b List.mem_cons_self)
      · rcases List.mem_append.mp z with z | z
        · exact (dj b z).2.2
        · exact fr b (mm b (List.mem_cons_of_mem _ (List.mem_append_right _ z)))
/-- what stands stays at another object's change -/
theorem Dens.upd {ds : List D} {vs : List V} {fp : Fp} {a : Addr} {o : HO} (h : Dens K cl Z H ds vs fp) (na : a ∉ fp) : Dens K cl Z (L2.upd H a o) ds vs fp :=
  Dens.mono (Ex.refl _) ds vs fp (fun b hb => ⟨(Dens.own ds vs fp h b hb).1, upd_ne fun c => na (c ▸ hb)⟩) h
theorem Den.upd {d : D} {v : V} {fp : Fp} {a : Addr} {o : HO} (h : Den K cl Z H d v fp) (na : a ∉ fp) : Den K cl Z (L2.upd H a o) d v fp :=
  Den.mono (Ex.refl _) d v fp (fun b hb => ⟨(Den.own d v fp h b hb).1, upd_ne fun c => na (c ▸ hb)⟩) h
end

/-- x[g].append(e) -/
def sAppAt (i : Nat) (g f : Env → Ou D) : Env → Os := fun ρ => match ρ[i]? with
  | some (some (.lst true xs)) => ofU (g ρ) ρ fun k => match k with
    | .int k => match ixN xs.length k with
      | some j => match xs[j]? with
        | some (.lst true ys) => ofU (f ρ) ρ fun d => if ys.length < LIM then .nx (ρ.set i (some (.lst true (xs.set j (.lst true (ys ++ [d])))))) else .bad
        | _ => .bad
      | none => .bad
    | _ => .bad
  | _ => .bad
/-- x[g] = f -/
def sSetAt (i : Nat) (g f : Env → Ou D) : Env → Os := fun ρ => ofU (f ρ) ρ fun d => match ρ[i]? with
  | some (some (.lst true xs)) => ofU (g ρ) ρ fun k => match k with
    | .int k => match ixN xs.length k with
      | some j => .nx (ρ.set i (some (.lst true (xs.set j d))))
      | none => .bad
    | _ => .bad
  | _ => .bad
/-- x += f, lists -/
def sExt (i : Nat) (f : Env → Ou D) : Env → Os := fun ρ => match ρ[i]? with
  | some (some (.lst true xs)) => ofU (f ρ) ρ fun d => match d with
    | .lst _ ys => if D.fzs ys && decide (xs.length + ys.length ≤ LIM) then .nx (ρ.set i (some (.lst true (xs ++ ys)))) else .bad
    | _ => .bad
  | _ => .bad
section
variable {X : Cx} {W : WX} {st : Stmt} {rest : List Stmt} {a b e c : Expr} {f g : Env → Ou D} {k h : Env → Os} {p : Env → Ou Bool} {pos : Pos}
theorem DSs.frz (i : Nat) (h : DSs X W rest k) : DSs X W rest (sFrz i k) := by
  refine ⟨fun Z0 H0 => PSs.weak (h.run Z0 H0) fun E σ H hq => ?_⟩
  obtain ⟨Z, ρ, s, q⟩ := hq
  unfold sFrz at q
  split at q
  · rename_i d ec
    obtain ⟨Z', s'⟩ := s.frz ec
    exact ⟨Z', _, s', q⟩
  · exact ⟨Z, ρ, s, q⟩
theorem DS.aug (i : Nat) {x : Str} {op : Operator} {pos' : Pos} {r : R2} {o : D → D → Option D} (ho : OpR X (inplaceOp op) r) (hk : Op2 X.K (He.ga X.K) r o) (he : DB X W e f) (hN : X.N.Nodup) (hi : X.N[i]? = some x := by rfl) (hx : Loc X.env.scope x := by first | exact Or.inl rfl | exact Or.inr rfl)
    (hf : X.fn x = true ∨ X.env.scope.names.lookup x = some .local := by first | exact .inl rfl | exact .inr rfl | assumption) : DS X W (.AugAssign (.Name x pos') op e pos) (sAug i o f) := by
  refine ⟨fun Z0 H0 => PS.weak (ps_aug (i := i) (ti := r) hN hi hx he.run (fun pins s σ H x y v u Q I r1 r2 h => ho pins s σ H x y v u Q I r1 r2 h) hf) fun E σ H hq => ?_⟩
  obtain ⟨Z, ρ, s, q⟩ := hq
  unfold sAug at q
  split at q
  · rename_i x0 ec
    obtain ⟨fp, sl, nd, fr⟩ := s.e
    obtain ⟨v, fx, h1, h2, h3⟩ := Slots.get sl ec
    refine ⟨v, h1, Z, ρ, s.rel, ?_⟩
    cases ef : f ρ with
    | ok y =>
      rw [ef] at q
      intro u Z1 H1 fy g1 dy
      have q : PostS X.K (He.ga X.K) W Z0 H0 E (match o x0 y with
        | some d => .nx (ρ.set i (some d))
        | none => .bad) := q
      cases eo : o x0 y with
      | some d =>
        rw [eo] at q
        refine hk Z1 H1 x0 y d v u fx fy _ g1.s (g1.den h2) dy eo fun w Z2 H2 fw g2 dw nw fw' => ?_
        have hi : i < ρ.length := by
          rcases Nat.lt_or_ge i ρ.length with c | c
          · exact c
          · rw [List.getElem?_eq_none c] at ec; cases ec
        exact q _ Z2 H2 ((s.gr g1).set g2 dw nw fw' hi)
      | none => rw [eo] at q; exact q.elim
    | ex c ns xs => rw [ef] at q; exact fun dc Z' H' g1 x => q dc σ Z' H' (s.gr g1) x
    | bad => rw [ef] at q; exact q
  · exact q.elim
theorem DS.ext (i : Nat) {x : Str} {pos' : Pos} (he : DB X W e f) (hN : X.N.Nodup) (hi : X.N[i]? = some x := by rfl) (hx : Loc X.env.scope x := by first | exact Or.inl rfl | exact Or.inr rfl)
    (hf : X.fn x = true ∨ X.env.scope.names.lookup x = some .local := by first | exact .inl rfl | exact .inr rfl | assumption) : DS X W (.AugAssign (.Name x pos') .Add e pos) (sExt i f) := by
  refine ⟨fun Z0 H0 => PS.weak (ps_aug (i := i) (ti := rExt2) hN hi hx he.run (fun pins s σ H x y v u Q I r1 r2 h => iop_ext pins s σ H x y v u Q I r1 r2 h) hf) fun E σ H hq => ?_⟩
  obtain ⟨Z, ρ, s, q⟩ := hq
  unfold sExt at q
  split at q
  · rename_i xs ec
    obtain ⟨l, vs, fq, rs, h1, h2, h3, h4, h5, h6⟩ := s.list ec
    refine ⟨.ref l, h1, Z, ρ, s.rel, ?_⟩
    cases ef : f ρ with
    | ok y =>
      rw [ef] at q
      intro u Z1 H1 fy g1 dy
      cases y with
      | lst o ys =>
        have q : PostS X.K (He.ga X.K) W Z0 H0 E (if D.fzs ys && decide (xs.length + ys.length ≤ LIM) then .nx (ρ.set i (some (.lst true (xs ++ ys)))) else .bad) := q
        split at q
        · rename_i c
          obtain ⟨c1, c2⟩ := band c
          have c2 := of_decide_eq_true c2
          obtain ⟨b, us, fb, rfl, qb, db, _⟩ := dy.lstH g1.s
          have db := db.fz0 c1
          have d1 := g1.dens h3
          have hl : H1 l = some (.lst vs) := g1.h l _ h2
          have nl := List.nodup_cons.mp h4
          refine ⟨l, b, vs, us, rfl, rfl, hl, qb, by rw [d1.length, db.length]; exact lim_le c2, ?_⟩
          have nfq : l ∉ fq := fun hm => nl.1 (List.mem_append_left _ hm)
          have z := h6 Z1 H1 (vs ++ us) (xs ++ ys) (fq ++ []) g1 (by simpa using (List.nodup_append.mp nl.2).1) (fun b hb => by
            have hb : b ∈ fq := by simpa using hb
            refine ⟨fun c => nfq (c ▸ hb), fun hm => (List.nodup_append.mp nl.2).2.2 b hb b hm rfl, (h5 b (List.mem_cons_of_mem _ (List.mem_append_left _ hb))).2.1⟩) ((d1.upd nfq).append (db.upd (fun z => nomatch z)))
          have e1 : σ.set i (some (.ref l)) = σ := by
            apply List.ext_getElem?
            intro j
            by_cases cj : i = j
            · subst cj
              rcases Nat.lt_or_ge i σ.length with c | c
              · rw [List.getElem?_set_self c, h1]
              · rw [List.getElem?_eq_none c] at h1; cases h1
            · rw [List.getElem?_set_ne cj]
          show E.nx (σ.set i (some (.ref l))) _
          rw [e1]
          exact q _ Z1 _ z
        · exact q.elim
      | _ => exact q.elim
    | ex c ns xs => rw [ef] at q; exact fun dc Z' H' g1 x => q dc σ Z' H' (s.gr g1) x
    | bad => rw [ef] at q; exact q
  · exact q.elim
theorem DS.app (i : Nat) {x : Str} {p1 apos cpos : Pos} (he : DE X W e f) (hN : X.N[i]? = some x := by rfl) (hv : Vis X.env.scope x := by first | exact Or.inl rfl | exact Or.inr (Or.inl rfl) | exact Or.inr (Or.inr rfl)) (hd : (x == ("__debug__" : Str)) = false := by decide)
    (hcd : (x == ("__classdict__" : Str)) = false := by decide) (hs : swapsWith (.Call (.Attribute (.Name x p1) "append" apos) [e] [] cpos) none pos.line X.env = pure false := by rfl)
    (hbase : attributeBase (.Name x p1) "append" X.env (eval (.Name x p1) X.env) = eval (.Name x p1) X.env := by rfl)
    (hfew : ((backTo cpos (starEach [e] X.env)).all (fun x => !x.1) && (backToKw cpos (keywordEach [] X.env)).all (fun x => x.1.isSome)
      && decide ([e].length + ([] : List Keyword).length + (if ([] : List Keyword).isEmpty then 0 else 1) < 30)) = true := by rfl)
    (hline : (apos.endLine == cpos.line) = true := by rfl) (hst : starEach [e] X.env = (false, eval e X.env) :: starEach [] X.env := by rfl) (hplain : (backTo cpos (starEach [] X.env)).any (·.1) = false := by rfl) :
    DS X W (.Expr (.Call (.Attribute (.Name x p1) "append" apos) [e] [] cpos) pos) (sApp i f) := by
  refine ⟨fun Z0 H0 => PS.weak (ps_expr (pe_bm PySem.F.plainAttrs_list PySem.F.slot_list_append PySem.F.type_list_append mt_append (pv i hN hv hd hcd) (pa_cons he.run pa_nil hst) hbase hfew hline hst hplain) hs) fun E σ H hq => ?_⟩
  obtain ⟨Z, ρ, s, q⟩ := hq
  unfold sApp at q
  split at q
  · rename_i xs ec
    obtain ⟨l, vs, fq, rs, h1, h2, h3, h4, h5, h6⟩ := s.list ec
    refine ⟨.ref l, h1, .inl ⟨rfl, _, .inl (.inl h2)⟩, Z, ρ, s.rel, ?_⟩
    cases ef : f ρ with
    | ok y =>
      rw [ef] at q
      intro u Z1 H1 fy g1 dy ny fy'
      have q : PostS X.K (He.ga X.K) W Z0 H0 E (if xs.length < LIM then .nx (ρ.set i (some (.lst true (xs ++ [y])))) else .bad) := q
      split at q
      · rename_i c
        have d1 := g1.dens h3
        have hl : H1 l = some (.lst vs) := g1.h l _ h2
        have nl := List.nodup_cons.mp h4
        refine ⟨l, vs, u, rfl, rfl, hl, by rw [d1.length]; exact lim_lt c, ?_⟩
        have nfq : l ∉ fq := fun hm => nl.1 (List.mem_append_left _ hm)
        have nfy : l ∉ fy := fun hm => (h5 l List.mem_cons_self).1 (fy' l hm)
        refine q _ Z1 _ (h6 Z1 H1 (vs ++ [u]) (xs ++ [y]) (fq ++ fy) g1 ?_ (fun b hb => ?_) ((d1.upd nfq).append (Dens.one (dy.upd nfy))))
        · rw [List.nodup_append]
          exact ⟨(List.nodup_append.mp nl.2).1, ny, fun a ha b hb c => (h5 a (List.mem_cons_of_mem _ (List.mem_append_left _ ha))).1 (fy' a (c ▸ hb))⟩
        · rcases List.mem_append.mp hb with hb | hb
          · exact ⟨fun c => nfq (c ▸ hb), fun hm => (List.nodup_append.mp nl.2).2.2 b hb b hm rfl, (h5 b (List.mem_cons_of_mem _ (List.mem_append_left _ hb))).2.1⟩
          · exact ⟨fun c => nfy (c ▸ hb), fun hm => (h5 b (List.mem_cons_of_mem _ (List.mem_append_right _ hm))).1 (fy' b hb), s.g.h.back (fy' b hb)⟩
      · exact q.elim
    | ex c ns xs => rw [ef] at q; exact fun dc Z' H' g1 x => q dc σ Z' H' (s.gr g1) x
    | bad => rw [ef] at q; exact q
  · exact q.elim
theorem DS.setAt (i : Nat) {x : Str} {p1 tpos : Pos} {ix : Expr} (he : DE X W e f) (hix : DB X W ix g) (hN : X.N[i]? = some x := by rfl) (hv : Vis X.env.scope x := by first | exact Or.inl rfl | exact Or.inr (Or.inl rfl) | exact Or.inr (Or.inr rfl)) (hd : (x == ("__debug__" : Str)) = false := by decide)
    (hcd : (x == ("__classdict__" : Str)) = false := by decide) (ha : ∀ v, assign (.Subscript (.Name x p1) ix tpos) X.env v = (do
      let ov ← holding [v] (eval (.Name x p1) X.env)
      let iv ← holding [v, ov] (eval ix X.env)
      standAt tpos
      holding [v, ov, iv] (setItem ov iv v)
      release [v, ov, iv] []) := by intro _; rfl)
    (hs : swapsWithSole [.Subscript (.Name x p1) ix tpos] e pos.line X.env = pure false := by rfl) (hw : swappedStores [.Subscript (.Name x p1) ix tpos] e X.env = pure none := by rfl)
    (h1 : (assignEach [.Subscript (.Name x p1) ix tpos] X.env).map (·.2) = [assign (.Subscript (.Name x p1) ix tpos) X.env] := by rfl) :
    DS X W (.Assign [.Subscript (.Name x p1) ix tpos] e pos) (sSetAt i g f) := by
  refine ⟨fun Z0 H0 => PS.weak (ps_asg he.run (pg_sub (pv i hN hv hd hcd) hix.run set_list ha) hs hw h1) fun E σ H hq => ?_⟩
  obtain ⟨Z, ρ, s, q⟩ := hq
  refine ⟨Z, ρ, s.rel, ?_⟩
  unfold sSetAt at q
  cases ef : f ρ with
  | ok y =>
    rw [ef] at q
    intro u Z1 H1 fy g1 dy ny fy'
    have q : PostS X.K (He.ga X.K) W Z0 H0 E (match ρ[i]? with
      | some (some (.lst true xs)) => ofU (g ρ) ρ fun k => match k with
        | .int k => match ixN xs.length k with
          | some j => .nx (ρ.set i (some (.lst true (xs.set j y))))
          | none => .bad
        | _ => .bad
      | _ => .bad) := q
    split at q
    · rename_i xs ec
      obtain ⟨l, vs, fq, rs, h1, h2, h3, h4, h5, h6⟩ := s.list ec
      refine ⟨.ref l, h1, Z1, ρ, (s.gr g1).rel, ?_⟩
      cases eg : g ρ with
      | ok kk =>
        rw [eg] at q
        intro w Z2 H2 fw g2 dw
        cases kk with
        | int k =>
          have q : PostS X.K (He.ga X.K) W Z0 H0 E (match ixN xs.length k with
            | some j => .nx (ρ.set i (some (.lst true (xs.set j y))))
            | none => .bad) := q
          split at q
          · rename_i j ej
            have g12 := g1.trans g2
            have d2 := g12.dens h3
            have hl : H2 l = some (.lst vs) := g12.h l _ h2
            have nl := List.nodup_cons.mp h4
            rw [dw.1]
            refine ⟨l, vs, k, j, rfl, rfl, hl, by rw [d2.length]; exact ej, ?_⟩
            have nfq : l ∉ fq := fun hm => nl.1 (List.mem_append_left _ hm)
            have nfy : l ∉ fy := fun hm => (h5 l List.mem_cons_self).1 (fy' l hm)
            have hj : j < xs.length := (ixN_seq ej).2.1
            obtain ⟨v0, f0, r0, k1, k2, k3, k4⟩ := Dens.split (i := j) d2 (List.getElem?_eq_getElem hj)
            have dy2 := g2.den dy
            obtain ⟨fq', k5, k6⟩ := k4 Z2 (L2.upd H2 l (.lst (vs.set j u))) y u fy (Ex.refl _) (fun b hb => ⟨(Dens.own xs vs fq d2 b (k3.symm.mem_iff.mp (List.mem_append_right _ hb))).1, upd_ne fun c => nfq (c ▸ k3.symm.mem_iff.mp (List.mem_append_right _ hb))⟩) (dy2.upd nfy)
            have hm : ∀ b ∈ fq', b ∈ fy ∨ b ∈ fq := fun b hb => by
              rcases List.mem_append.mp (k6.mem_iff.mp hb) with z | z
              · exact .inl z
              · exact .inr (k3.symm.mem_iff.mp (List.mem_append_right _ z))
            refine q _ Z2 _ (h6 Z2 H2 (vs.set j u) (xs.set j y) fq' g12 ?_ (fun b hb => ?_) k5)
            · refine k6.symm.nodup_iff.mp ?_
              rw [List.nodup_append]
              have n0 : (f0 ++ r0).Nodup := k3.nodup_iff.mp (List.nodup_append.mp nl.2).1
              refine ⟨ny, (List.nodup_append.mp n0).2.1, fun a ha b hb c => ?_⟩
              subst c
              exact (h5 a (List.mem_cons_of_mem _ (List.mem_append_left _ (k3.symm.mem_iff.mp (List.mem_append_right _ hb))))).1 (fy' a ha)
            · rcases hm b hb with hb | hb
              · exact ⟨fun c => nfy (c ▸ hb), fun hm => (h5 b (List.mem_cons_of_mem _ (List.mem_append_right _ hm))).1 (fy' b hb), s.g.h.back (fy' b hb)⟩
              · exact ⟨fun c => nfq (c ▸ hb), fun hm => (List.nodup_append.mp nl.2).2.2 b hb b hm rfl, (h5 b (List.mem_cons_of_mem _ (List.mem_append_left _ hb))).2.1⟩
          · exact q.elim
        | _ => exact q.elim
      | ex c ns xs => rw [eg] at q; exact fun dc Z' H' g2 x => q dc σ Z' H' ((s.gr g1).gr g2) x
      | bad => rw [eg] at q; exact q
    · exact q.elim
  | ex c ns xs => rw [ef] at q; exact fun dc Z' H' g1 x => q dc σ Z' H' (s.gr g1) x
  | bad => rw [ef] at q; exact q
end
end DL

namespace DL
open PySem PySem.Spec PyProof.Rows L2

structure Ctx (X : Cx) (W : WX) (k : Nat) : Prop where
  calm : X.calm = true
  hr : Room k X.A
  po : PassesOwn (model X.prog X.w) X.A X.env X.xe
  tk : Takes X W
  nd : X.N.Nodup
def W0 : WX := fun _ _ _ _ => False
theorem Ctx.blk {X : Cx} {W : WX} {k : Nat} (C : Ctx X W k) (s : Shared) (H : Hp) (scope : Scope) (cenv : PySem.Env) (fp : List Addr) : Ctx (X.blk s H scope cenv fp) W0 k :=
  ⟨C.calm, C.hr, PassesOwn.never, takes0, C.nd⟩
theorem Ctx.mono {X : Cx} {W : WX} {j k : Nat} (C : Ctx X W k) (h : j ≤ k) : Ctx X W j := ⟨C.calm, C.hr.mono h, C.po, C.tk, C.nd⟩

/-! ### what is walked -/
/-- a walk that gives ds (frozen in Z) as long as Y stands -/
structure Wk (K : PySem.W.Frag) (cl : Str → Addr) (J : It) (Y Z : Hp) (ds : List D) : Prop where
  go : ∀ i H, Ex Y H → i < ds.length → J.go i H
  yld : ∀ i H x H', Ex Y H → i < ds.length → J.yld i H x H' → H' = H ∧ ∃ d, ds[i]? = some d ∧ Den K cl Z H d x []
  stop : ∀ H, Ex Y H → J.stop ds.length H
theorem Wk.wide {K : PySem.W.Frag} {cl : Str → Addr} {J : It} {Y Y' Z : Hp} {ds : List D} (w : Wk K cl J Y Z ds) (e : Ex Y Y') : Wk K cl J Y' Z ds :=
  ⟨fun i H h => w.go i H (e.trans h), fun i H x H' h => w.yld i H x H' (e.trans h), fun H h => w.stop H (e.trans h)⟩
def PostI (K : PySem.W.Frag) (cl : Str → Addr) (W : WX) (Z H : Hp) (σ : L2.St) (o : Ou (List D)) (R : It → Hp → Prop) : Prop := match o with
  | .ok ds => ∀ J Z' H', Gr Z H Z' H' → Wk K cl J Z' Z' ds → R J H'
  | .ex c ns xs => PostX K cl W Z H σ c ns xs
  | .bad => False
def tI (K : PySem.W.Frag) (cl : Str → Addr) (W : WX) (f : Env → Ou (List D)) : TI := fun σ H R => ∃ Z ρ, RelS K cl Z H σ ρ ∧ PostI K cl W Z H σ (f ρ) R
def PostIB (K : PySem.W.Frag) (cl : Str → Addr) (W : WX) (Z H : Hp) (σ : L2.St) (o : Ou (List D)) (R : It → Hp → Prop) : Prop := match o with
  | .ok ds => ∀ J Z' H', Gr Z H Z' H' → Wk K cl J H' Z' ds → R J H'
  | .ex c ns xs => PostX K cl W Z H σ c ns xs
  | .bad => False
def tIB (K : PySem.W.Frag) (cl : Str → Addr) (W : WX) (f : Env → Ou (List D)) : TI := fun σ H R => ∃ Z ρ, RelS K cl Z H σ ρ ∧ PostIB K cl W Z H σ (f ρ) R
/-- .. for a comprehension, in which nothing is changed -/
structure DIB (X : Cx) (W : WX) (tg iter : Expr) (f : Env → Ou (List D)) : Prop where
  run : PI X tg iter (tIB X.K (He.ga X.K) W f)
structure DI (X : Cx) (W : WX) (tg iter : Expr) (f : Env → Ou (List D)) : Prop where
  run : PI X tg iter (tI X.K (He.ga X.K) W f)
theorem PI.weak {X : Cx} {tg iter : Expr} {t t' : TI} (h : PI X tg iter t) (k : ∀ σ H R, t' σ H R → t σ H R) : PI X tg iter t' := ⟨fun pins s σ H R I q => h.run pins s σ H R I (k σ H R q)⟩
theorem PI.or {X : Cx} {tg iter : Expr} {t t' : TI} (h : PI X tg iter t) (h' : PI X tg iter t') : PI X tg iter (fun σ H R => t σ H R ∨ t' σ H R) :=
  ⟨fun pins s σ H R I q => q.elim (h.run pins s σ H R I) (h'.run pins s σ H R I)⟩
def seqOf : D → Ou (List D)
  | .lst _ xs => .ok (D.frzs xs)
  | .tup xs => .ok (D.frzs xs)
  | _ => .bad
def seqOfB : D → Ou (List D)
  | .lst _ xs => if D.fzs xs then .ok xs else .bad
  | .tup xs => if D.fzs xs then .ok xs else .bad
  | _ => .bad
def iSeqB (f : Env → Ou D) : Env → Ou (List D) := fun ρ => f ρ >>= seqOfB
def iSeq (f : Env → Ou D) : Env → Ou (List D) := fun ρ => f ρ >>= seqOf
def rng0 (n : Nat) : List D := (List.range n).map fun (i : Nat) => D.int (i : Int)
def rngL (lo : Int) (n : Nat) : List D := (List.range n).map fun (i : Nat) => D.int (lo + (i : Int))
def rng1Of : List D → Option (List D)
  | [.int n] => if decide (-1000000 < n ∧ n < 1000000) then some (rng0 n.toNat) else none
  | _ => none
def rng2Of : List D → Option (List D)
  | [.int a, .int b] => if decide (-1000000 < a ∧ a < 1000000 ∧ -1000000 < b ∧ b < 1000000) then some (rngL a (b - a).toNat) else none
  | _ => none
theorem rng1Of_inv {ds l : List D} (h : rng1Of ds = some l) : ∃ n : Int, ds = [.int n] ∧ (-1000000 < n ∧ n < 1000000) ∧ l = rng0 n.toNat := by
  unfold rng1Of at h
  split at h
  · rename_i n
    split at h
    · rename_i c
      exact ⟨n, rfl, of_decide_eq_true c, (Option.some.inj h).symm⟩
    · cases h
  · cases h
theorem rng2Of_inv {ds l : List D} (h : rng2Of ds = some l) : ∃ a b : Int, ds = [.int a, .int b] ∧ (-1000000 < a ∧ a < 1000000 ∧ -1000000 < b ∧ b < 1000000) ∧ l = rngL a (b - a).toNat := by
  unfold rng2Of at h
  split at h
  · rename_i a b
    split at h
    · rename_i c
      exact ⟨a, b, rfl, of_decide_eq_true c, (Option.some.inj h).symm⟩
    · cases h
  · cases h
def iRng1 (t : Env → Ou (List D)) : Env → Ou (List D) := fun ρ => t ρ >>= fun ds => ofO (rng1Of ds)
def iRng2 (t : Env → Ou (List D)) : Env → Ou (List D) := fun ρ => t ρ >>= fun ds => ofO (rng2Of ds)
def chrsOf : D → Ou (List D)
  | .str x => .ok (x.cps.toList.map fun c => .str ⟨#[c]⟩)
  | _ => .bad
def iChr (f : Env → Ou D) : Env → Ou (List D) := fun ρ => f ρ >>= chrsOf
section
variable {K : PySem.W.Frag} {cl : Str → Addr} {Z H Z' H' Z0 H0 Z1 H1 : Hp} {σ : L2.St} {ρ : Env} {W : WX}
theorem PostI.gr {o : Ou (List D)} {R : It → Hp → Prop} (q : PostI K cl W Z H σ o R) (g : Gr Z H Z' H') : PostI K cl W Z' H' σ o R := by
  cases o with
  | ok d => exact fun J Z2 H2 g2 w => q J Z2 H2 (g.trans g2) w
  | ex c ns xs => exact PostX.gr q g
  | bad => exact q
theorem Dens.frzs_len : ∀ (ds : List D), (D.frzs ds).length = ds.length
  | [] => rfl
  | d :: ds => congrArg (· + 1) (Dens.frzs_len ds)
theorem wk_list {Y : Hp} {a : Addr} {vs : List V} {ds : List D} (q : Y a = some (.lst vs)) (h : Dens K cl Z H ds vs []) : Wk K cl (Itl K a) Y Z ds where
  go i H' e hi := by
    obtain ⟨v, f, h1, _⟩ := h.get (List.getElem?_eq_getElem hi)
    exact ⟨vs, v, .inl (.inl (e a _ q)), h1⟩
  yld i H' x H2 e hi y := by
    obtain ⟨e1, y⟩ := y
    obtain ⟨v, f, h1, h2, h3, _⟩ := h.get (List.getElem?_eq_getElem hi)
    have ex := y vs (.inl (.inl (e a _ q)))
    rw [h1] at ex
    have ex := Option.some.inj ex
    subst ex
    refine ⟨e1, _, List.getElem?_eq_getElem hi, ?_⟩
    have ef : f = [] := List.eq_nil_iff_forall_not_mem.mpr fun b hb => nomatch h3 b hb
    subst ef
    exact Den.mono (Ex.refl _) _ _ [] (fun _ z => nomatch z) h2
  stop H' e := ⟨vs, .inl (.inl (e a _ q)), by rw [h.length]; exact Nat.le_refl _⟩
theorem wk_tup {Y : Hp} {a : Addr} {vs : List V} {ds : List D} (q : SqT K Y a vs) (h : Dens K cl Z H ds vs []) : Wk K cl (Itt K a) Y Z ds where
  go i H' e hi := by
    obtain ⟨v, f, h1, _⟩ := h.get (List.getElem?_eq_getElem hi)
    exact ⟨vs, v, e.sqT q, h1⟩
  yld i H' x H2 e hi y := by
    obtain ⟨e1, y⟩ := y
    obtain ⟨v, f, h1, h2, h3, _⟩ := h.get (List.getElem?_eq_getElem hi)
    have ex := y vs (e.sqT q)
    rw [h1] at ex
    have ex := Option.some.inj ex
    subst ex
    refine ⟨e1, _, List.getElem?_eq_getElem hi, ?_⟩
    have ef : f = [] := List.eq_nil_iff_forall_not_mem.mpr fun b hb => nomatch h3 b hb
    subst ef
    exact Den.mono (Ex.refl _) _ _ [] (fun _ z => nomatch z) h2
  stop H' e := ⟨vs, e.sqT q, by rw [h.length]; exact Nat.le_refl _⟩
theorem rngL_len (lo : Int) (n : Nat) : (rngL lo n).length = n := by simp [rngL]
theorem rng0_eq (n : Nat) : rng0 n = rngL 0 n := by
  unfold rng0 rngL
  refine List.map_congr_left fun i _ => ?_
  rw [Int.zero_add]
theorem wk_rng {Y : Hp} (lo : Int) (n : Nat) : Wk K cl (Itr lo n) Y Z (rngL lo n) where
  go i H' e hi := by rw [rngL_len] at hi; exact hi
  yld i H' x H2 e hi y := by
    obtain ⟨e1, e2⟩ := y
    rw [rngL_len] at hi
    refine ⟨e1, .int (lo + i), ?_, e2, rfl⟩
    unfold rngL
    rw [List.getElem?_map, List.getElem?_range hi] <;> rfl
  stop H' e := by rw [rngL_len]; exact Nat.le_refl _
theorem wk_rng0 {Y : Hp} (n : Nat) : Wk K cl (Itr 0 n) Y Z (rng0 n) := by rw [rng0_eq]; exact wk_rng 0 n
theorem wk_chr {Y : Hp} (x : Str) : Wk K cl (Its x) Y Z (x.cps.toList.map fun c => .str ⟨#[c]⟩) where
  go i H' e hi := by simpa [Its] using hi
  yld i H' v H2 e hi y := by
    obtain ⟨e1, c, e2, e3⟩ := y
    refine ⟨e1, .str ⟨#[c]⟩, ?_, e3, rfl⟩
    rw [List.getElem?_map, Array.getElem?_toList, e2] <;> rfl
  stop H' e := by simp [Its]
end
section
variable {X : Cx} {W : WX} {k : Nat} {tg e a b iter : Expr} {f : Env → Ou D} {t : Env → Ou (List D)} {pos p : Pos}
theorem DI.seq (h : DE X W e f) : DI X W tg e (iSeq f) := by
  refine ⟨PI.weak (PI.or (pi_list h.run) (pi_tup h.run)) fun σ H R hq => ?_⟩
  obtain ⟨Z, ρ, r, q⟩ := hq
  unfold iSeq at q
  cases ef : f ρ with
  | ok d =>
    rw [ef] at q
    cases d with
    | lst o xs =>
      refine .inl ⟨Z, ρ, r, ?_⟩
      rw [ef]
      intro v Z' H' fp g dn nd fr
      obtain ⟨a, vs, f1, rfl, qa, dd, hf, _⟩ := dn.lstH g.s
      have own : ∀ b ∈ fp, Z' b = none := fun b hb => (Den.own _ _ _ dn b hb).1
      refine ⟨a, rfl, ⟨vs, .inl (.inl qa)⟩, q _ (frzH Z' H' fp) H' (g.frz own fr) (wk_list (H := H') ?_ (Dens.freeze (frzH_ex own) xs vs f1 (fun b hb => if_pos (hf b hb)) dd))⟩
      cases o with
      | true =>
        simp only [Den] at dn
        obtain ⟨a', vs', fq, e1, e2, _⟩ := dn
        cases e1
        subst e2
        exact (if_pos List.mem_cons_self).trans qa
      | false =>
        simp only [Den] at dn
        obtain ⟨a', vs', e1, e2, e3, _⟩ := dn
        cases e1
        have na : a ∉ fp := fun hm => by rw [e2] at hm; cases hm
        refine (if_neg na).trans ?_
        rw [e3, ← g.s a _ e3, qa]
    | tup xs =>
      refine .inr ⟨Z, ρ, r, ?_⟩
      rw [ef]
      intro v Z' H' fp g dn nd fr
      obtain ⟨a, vs, rfl, qa, za, dd⟩ := dn.tupH g.s
      have own : ∀ b ∈ fp, Z' b = none := fun b hb => (Den.own _ _ _ dn b hb).1
      exact ⟨a, rfl, ⟨vs, qa⟩, q _ (frzH Z' H' fp) H' (g.frz own fr) (wk_tup (H := H') ((frzH_ex own).sqT za) (Dens.freeze (frzH_ex own) xs vs fp (fun b hb => if_pos hb) dd))⟩
    | _ => exact q.elim
  | ex c ns xs =>
    rw [ef] at q
    refine .inl ⟨Z, ρ, r, ?_⟩
    rw [ef]
    exact q
  | bad => rw [ef] at q; exact q.elim
theorem DI.rng1 (h : DAB X W [a] t) (hm : X.mg "range" = none) (hg : Gl X "range" := by rfl) (hs : starEach [a] X.env = [(false, eval a X.env)] := by rfl) : DI X W tg (.Call (.Name "range" p) [a] [] pos) (DL.iRng1 t) := by
  refine ⟨PI.weak (pi_range1 hg hm h.run hs) fun σ H R hq => ?_⟩
  obtain ⟨Z, ρ, r, q⟩ := hq
  refine tVs_bind (P := fun Z H o => PostI X.K (He.ga X.K) W Z H σ o R) r (fun _ _ _ z => z) (fun z => z) q fun ds vs Z1 H1 fp ex g1 dn q => ?_
  have q := PostI.gr q g1
  match e : rng1Of ds with
  | some l =>
    rw [e] at q
    obtain ⟨n, e1, c, e2⟩ := rng1Of_inv e
    subst e1 e2
    obtain ⟨v, rfl, hv⟩ := dn.one'
    rw [hv.1]
    exact ⟨n, rfl, by omega, by omega, q _ Z1 H1 (Gr.refl g1.s) (wk_rng0 n.toNat)⟩
  | none => rw [e] at q; exact q.elim
theorem DI.rng2 (h : DAB X W [a, b] t) (hm : X.mg "range" = none) (hg : Gl X "range" := by rfl) (hs : starEach [a, b] X.env = [(false, eval a X.env), (false, eval b X.env)] := by rfl) (hs2 : starEach [b] X.env = [(false, eval b X.env)] := by rfl) : DI X W tg (.Call (.Name "range" p) [a, b] [] pos) (DL.iRng2 t) := by
  refine ⟨PI.weak (pi_range2 hg hm h.run hs hs2) fun σ H R hq => ?_⟩
  obtain ⟨Z, ρ, r, q⟩ := hq
  refine tVs_bind (P := fun Z H o => PostI X.K (He.ga X.K) W Z H σ o R) r (fun _ _ _ z => z) (fun z => z) q fun ds vs Z1 H1 fp ex g1 dn q => ?_
  have q := PostI.gr q g1
  match e : rng2Of ds with
  | some l =>
    rw [e] at q
    obtain ⟨n, m, e1, c, e2⟩ := rng2Of_inv e
    subst e1 e2
    obtain ⟨v, u, f1, g2, rfl, hv, hu⟩ := dn.two'
    rw [hv.1, hu.1]
    exact ⟨n, m, rfl, ⟨by omega, by omega, by omega, by omega⟩, q _ Z1 H1 (Gr.refl g1.s) (wk_rng n (m - n).toNat)⟩
  | none => rw [e] at q; exact q.elim
theorem DI.chr (h : DB X W e f) : DI X W tg e (iChr f) := by
  refine ⟨PI.weak (pi_str h.run) fun σ H R hq => ?_⟩
  obtain ⟨Z, ρ, r, q⟩ := hq
  refine tV_bind (P := fun Z H o => PostI X.K (He.ga X.K) W Z H σ o R) r (fun _ _ _ z => z) (fun z => z) q fun d vs Z1 H1 fp ex g1 dn q => ?_
  have q := PostI.gr q g1
  cases d with
  | str x =>
    rw [dn.1]
    exact ⟨x, rfl, q _ Z1 H1 (Gr.refl g1.s) (wk_chr x)⟩
  | _ => exact q.elim

theorem DIB.of {fi : Env → Ou (List D)} (h : DI X W tg e fi) : DIB X W tg e fi := by
  refine ⟨PI.weak h.run fun σ H R hq => ?_⟩
  obtain ⟨Z, ρ, r, q⟩ := hq
  refine ⟨Z, ρ, r, ?_⟩
  cases ef : fi ρ with
  | ok ds => rw [ef] at q; exact fun J Z' H' g w => q J Z' H' g (w.wide g.s)
  | ex c ns xs => rw [ef] at q; exact q
  | bad => rw [ef] at q; exact q
theorem DIB.seq (h : DB X W e f) : DIB X W tg e (iSeqB f) := by
  refine ⟨PI.weak (PI.or (pi_list h.run) (pi_tup h.run)) fun σ H R hq => ?_⟩
  obtain ⟨Z, ρ, r, q⟩ := hq
  unfold iSeqB at q
  cases ef : f ρ with
  | ok d =>
    rw [ef] at q
    cases d with
    | lst o xs =>
      have q : PostIB X.K (He.ga X.K) W Z H σ (if D.fzs xs then .ok xs else .bad) R := q
      split at q
      · rename_i c
        refine .inl ⟨Z, ρ, r, ?_⟩
        rw [ef]
        intro v Z' H' fp g dn
        obtain ⟨a, vs, f1, rfl, qa, dd, hf, _⟩ := dn.lstH g.s
        exact ⟨a, rfl, ⟨vs, .inl (.inl qa)⟩, q _ Z' H' g (wk_list qa (dd.fz0 c))⟩
      · exact q.elim
    | tup xs =>
      have q : PostIB X.K (He.ga X.K) W Z H σ (if D.fzs xs then .ok xs else .bad) R := q
      split at q
      · rename_i c
        refine .inr ⟨Z, ρ, r, ?_⟩
        rw [ef]
        intro v Z' H' fp g dn
        obtain ⟨a, vs, rfl, qa, za, dd⟩ := dn.tupH g.s
        exact ⟨a, rfl, ⟨vs, qa⟩, q _ Z' H' g (wk_tup qa (dd.fz0 c))⟩
      · exact q.elim
    | _ => exact q.elim
  | ex c ns xs =>
    rw [ef] at q
    refine .inl ⟨Z, ρ, r, ?_⟩
    rw [ef]
    exact q
  | bad => rw [ef] at q; exact q.elim

/-! ### for -/
/-- a target: it stores what it is given -/
def tgN (i : Nat) : D → Env → Option Env := fun d ρ => if i < ρ.length then some (ρ.set i (some d)) else none
def gT (K : PySem.W.Frag) (cl : Str → Addr) (tg : D → Env → Option Env) : TG := fun v σ H Q => ∃ Z0 H0 Z ρ d ρ', Sta K cl Z0 H0 Z H σ ρ ∧ Den K cl Z H d v [] ∧ tg d ρ = some ρ' ∧ ∀ σ', Sta K cl Z0 H0 Z H σ' ρ' → Q σ' H
structure DG (X : Cx) (e : Expr) (tg : D → Env → Option Env) : Prop where
  run : PG X e (gT X.K (He.ga X.K) tg)
theorem PG.weak {X : Cx} {e : Expr} {t t' : TG} (h : PG X e t) (k : ∀ v σ H Q, t' v σ H Q → t v σ H Q) : PG X e t' := ⟨fun pins s σ H v u Q I r q => h.run pins s σ H v u Q I r (k v σ H Q q)⟩
theorem DG.name (i : Nat) {x : Str} (hN : X.N.Nodup) (hi : X.N[i]? = some x := by rfl) (hx : Loc X.env.scope x := by first | exact Or.inl rfl | exact Or.inr rfl) (hf : X.fn x = true ∨ X.env.scope.names.lookup x = some .local := by first | exact .inl rfl | exact .inr rfl | assumption) : DG X (.Name x pos) (tgN i) := by
  refine ⟨PG.weak (pg_name (i := i) hN hi hx hf) fun v σ H Q hq => ?_⟩
  obtain ⟨Z0, H0, Z, ρ, d, ρ', s, dn, e, q⟩ := hq
  unfold tgN at e
  split at e
  · rename_i c
    cases e
    exact q _ (s.set (Gr.refl s.g.s) dn List.nodup_nil (fun _ z => nomatch z) c)
  · cases e
def loopS (tg : D → Env → Option Env) (body : Env → Os) : List D → Env → Os
  | [], ρ => .nx ρ
  | d :: ds, ρ => match tg d ρ with
    | none => .bad
    | some ρ1 => match body ρ1 with
      | .nx ρ2 => loopS tg body ds ρ2
      | .ct ρ2 => loopS tg body ds ρ2
      | .bk ρ2 => .nx ρ2
      | .rt d => .rt d
      | .ex c ns xs ρ2 => .ex c ns xs ρ2
      | .bad => .bad
def sFor (fi : Env → Ou (List D)) (tg : D → Env → Option Env) (body : Env → Os) : Env → Os := fun ρ => ofU (fi ρ) ρ fun ds => loopS tg body ds ρ
theorem DS.for_ {iter : Expr} {body : List Stmt} {fi : Env → Ou (List D)} {tgt : D → Env → Option Env} {g : Env → Os} (C : Ctx X W k) (hi : DI X W tg iter fi) (ht : DG X tg tgt) (hb : DSs X W body g) (hs : ∀ x, foldedSetIterable iter X.env x = pure x := by intro _; rfl) :
    DS X W (.For tg iter body [] pos) (sFor fi tgt g) := by
  refine ⟨fun Z0 H0 => PS.weak (ps_for C.po C.calm hi.run ht.run (tb := fun E σ H => ∃ Zl Hl, tS X.K (He.ga X.K) W Zl Hl g E σ H) ⟨fun pins s σ H E I ⟨Zl, Hl, q⟩ => (hb.run Zl Hl).run pins s σ H E I q⟩ hs) fun E σ H hq => ?_⟩
  obtain ⟨Z, ρ, st, q⟩ := hq
  refine ⟨Z, ρ, st.rel, ?_⟩
  unfold sFor at q
  cases ef : fi ρ with
  | ex c ns xs => rw [ef] at q; exact fun dc Z' H' g1 x => q dc σ Z' H' (st.gr g1) x
  | bad => rw [ef] at q; exact q
  | ok ds =>
    rw [ef] at q
    intro J Z1 H1 g1 wk
    obtain ⟨Hl, gl, stl, _, _⟩ := (st.gr g1).rebase
    refine ⟨fun i m σ' H' => m = ds.length - i ∧ i ≤ ds.length ∧ ∃ Z' ρ', Sta X.K (He.ga X.K) Z1 Hl Z' H' σ' ρ' ∧ PostS X.K (He.ga X.K) W Z0 H0 E (loopS tgt g (ds.drop i) ρ'), ⟨ds.length, by simp, Nat.zero_le _, Z1, ρ, stl, q⟩, ?_⟩
    rintro i m σ' H' ⟨rfl, hi', Z', ρ', st', q'⟩
    have ez : Ex Z1 H' := st'.g.z.trans st'.g.s
    by_cases hlt : i < ds.length
    · refine .inr ⟨wk.go i H' ez hlt, fun σ2 H2 => ∃ Z' ρ', Sta X.K (He.ga X.K) Z1 Hl Z' H2 σ2 ρ' ∧ PostS X.K (He.ga X.K) W Z0 H0 E (loopS tgt g (ds.drop (i + 1)) ρ'), fun σ2 H2 n2 => ⟨ds.length - (i + 1), by omega, rfl, hlt, n2⟩, fun x H2 y => ?_⟩
      obtain ⟨e1, d, ed, dn⟩ := wk.yld i H' x H2 ez hlt y
      subst e1
      have ed' : ds[i] = d := by rw [List.getElem?_eq_getElem hlt] at ed; exact Option.some.inj ed
      rw [List.drop_eq_getElem_cons hlt, ed'] at q'
      unfold loopS at q'
      cases et : tgt d ρ' with
      | none => rw [et] at q'; exact q'.elim
      | some ρ1 =>
        rw [et] at q'
        refine ⟨Z1, Hl, Z', ρ', d, ρ1, st', Den.mono st'.g.z d x [] (fun _ z => nomatch z) dn, et, fun σ2 st2 => ⟨Z1, Hl, Z', ρ1, st2, ?_⟩⟩
        have q' : PostS X.K (He.ga X.K) W Z0 H0 E (match g ρ1 with
          | .nx ρ2 => loopS tgt g (ds.drop (i + 1)) ρ2
          | .ct ρ2 => loopS tgt g (ds.drop (i + 1)) ρ2
          | .bk ρ2 => .nx ρ2
          | .rt d => .rt d
          | .ex c ns xs ρ2 => .ex c ns xs ρ2
          | .bad => .bad) := q'
        cases eg : g ρ1 with
        | nx ρ2 => rw [eg] at q'; exact fun σ3 Z3 H3 st3 => ⟨Z3, ρ2, st3, q'⟩
        | ct ρ2 => rw [eg] at q'; exact fun σ3 Z3 H3 st3 => ⟨Z3, ρ2, st3, q'⟩
        | bk ρ2 => rw [eg] at q'; exact fun σ3 Z3 H3 st3 => q' σ3 Z3 H3 (st3.unbase gl)
        | rt d => rw [eg] at q'; exact fun v Z3 H3 fp g3 h nd fr => q' v Z3 H3 fp (gl.trans g3) h nd fun a ha => gl.h.back (fr a ha)
        | ex c ns xs ρ2 => rw [eg] at q'; exact fun dc σ3 Z3 H3 st3 h => q' dc σ3 Z3 H3 (st3.unbase gl) h
        | bad => rw [eg] at q'; exact q'.elim
    · have e : i = ds.length := by omega
      subst e
      refine .inl ⟨wk.stop H' ez, ?_⟩
      rw [List.drop_length] at q'
      exact q' σ' Z' H' (st'.unbase gl)

/-! ### list comprehensions -/
def wipeE (ρ : Env) : List Nat → Env
  | [] => ρ
  | v :: vs => (wipeE ρ vs).set v none
/-- the loop of a comprehension: j the target's slot -/
def compG (j : Nat) (tt : Env → Ou Bool) (te : Env → Ou D) (ρ : Env) : List D → List D → Option (List D)
  | [], acc => some acc
  | d :: ds, acc => if j < ρ.length then (match tt (ρ.set j (some d)) with
    | .ok true => (match te (ρ.set j (some d)) with
      | .ok y => if acc.length < LIM then compG j tt te ρ ds (acc ++ [y]) else none
      | _ => none)
    | .ok false => compG j tt te ρ ds acc
    | _ => none) else none
def dLc (fi : Env → Ou (List D)) (j : Nat) (vs : List Nat) (tt : Env → Ou Bool) (te : Env → Ou D) : Env → Ou D := fun ρ => fi ρ >>= fun ds => ofO ((compG j tt te (wipeE ρ vs) ds []).map (D.lst true))
def bYes : Env → Ou Bool := fun _ => .ok true
theorem RelS.wipe {K : PySem.W.Frag} {cl : Str → Addr} {Z H : Hp} {σ : L2.St} {ρ : Env} (r : RelS K cl Z H σ ρ) : ∀ vs : List Nat, RelS K cl Z H (wipe σ vs) (wipeE ρ vs)
  | [] => r
  | v :: vs => by
    obtain ⟨s, fp, sl, nd⟩ := RelS.wipe r vs
    obtain ⟨fp', a1, a2, _⟩ := Slots.drop (i := v) (o := none) sl nd
    exact ⟨s, fp', a1, a2⟩
theorem wipe_get (σ : L2.St) : ∀ (vs : List Nat) (i : Nat), (wipe σ vs)[i]? = if i ∈ vs then (if i < σ.length then some none else none) else σ[i]?
  | [], i => by simp [wipe]
  | v :: vs, i => by
    show ((wipe σ vs).set v none)[i]? = _
    rw [List.getElem?_set]
    by_cases c : v = i
    · subst c
      rw [if_pos rfl, if_pos List.mem_cons_self, wipe_length]
    · rw [if_neg c, wipe_get σ vs i]
      by_cases h : i ∈ vs
      · rw [if_pos h, if_pos (List.mem_cons_of_mem _ h)]
      · rw [if_neg h, if_neg (fun hm => (List.mem_cons.mp hm).elim (fun e => c e.symm) h)]
theorem wipe_set {σ : L2.St} {vs : List Nat} {j : Nat} (hj : j ∈ vs) (o : Option V) : wipe ((wipe σ vs).set j o) vs = wipe σ vs := by
  apply List.ext_getElem?
  intro i
  rw [wipe_get, wipe_get, List.length_set, wipe_length]
  by_cases h : i ∈ vs
  · rw [if_pos h, if_pos h]
  · rw [if_neg h, if_neg h, List.getElem?_set_ne (fun c => h (by rw [← c]; exact hj)), wipe_get, if_neg h]
structure DTs (X : Cx) (W : WX) (ifs : List Expr) (f : Env → Ou Bool) : Prop where
  run : PTs X ifs (tT X.K (He.ga X.K) W f)
theorem DTs.nil : DTs X W [] bYes := ⟨⟨fun pins s σ H Q I ⟨Z, ρ, r, q⟩ => pts_nil.run pins s σ H Q I (q Z H (Gr.refl r.s))⟩⟩
theorem DTs.one {c : Expr} {f : Env → Ou Bool} (h : DT X W c f) : DTs X W [c] f := ⟨pts_one h.run⟩
theorem RelS.set {K : PySem.W.Frag} {cl : Str → Addr} {Z H : Hp} {σ : L2.St} {ρ : Env} {d : D} {v : V} {i : Nat} (r : RelS K cl Z H σ ρ) (dn : Den K cl Z H d v []) (hi : i < ρ.length) : RelS K cl Z H (σ.set i (some v)) (ρ.set i (some d)) := by
  obtain ⟨s, fp, sl, nd⟩ := r
  obtain ⟨fp', a1, a2, _⟩ := Slots.set (i := i) sl nd dn List.nodup_nil (fun _ z => nomatch z) hi
  exact ⟨s, fp', a1, a2⟩
theorem tLc_of {W : WX} {K : PySem.W.Frag} {cl : Str → Addr} {fi : Env → Ou (List D)} {tt : Env → Ou Bool} {te : Env → Ou D} {j : Nat} {vs : List Nat} (hj : j ∈ vs) (σ : L2.St) (H : Hp) (Q : VK) (hq : tD K cl W (dLc fi j vs tt te) σ H Q) :
    tLc (tIB K cl W fi) (gName j) (tT K cl W0 tt) (tD K cl W0 te) vs σ H Q := by
  obtain ⟨Z, ρ, r, q⟩ := hq
  refine ⟨Z, ρ, r, ?_⟩
  unfold dLc at q
  cases ef : fi ρ with
  | ex c ns xs => rw [ef] at q; exact q
  | bad => rw [ef] at q; exact q
  | ok ds =>
    rw [ef] at q
    intro J Z1 H1 g1 wk Dl hD
    have q : PostO K cl W Z H σ (ofO ((compG j tt te (wipeE ρ vs) ds []).map (D.lst true))) Q := q
    cases ec : compG j tt te (wipeE ρ vs) ds [] with
    | none => rw [ec] at q; exact q.elim
    | some ys =>
      rw [ec] at q
      have q : PostV K cl Z H (.lst true ys) Q := q
      have rw0 := (r.gr g1).wipe vs
      let Wd : Nat → Hp → Prop := fun i H' => ∃ (Z' : Hp) (acc : List D) (vsA : List V) (fp : Fp), Gr Z1 H1 Z' H' ∧ Z' Dl = none ∧ H' Dl = some (.lst vsA) ∧ Dens K cl Z' H' acc vsA fp ∧ fp.Nodup ∧ Dl ∉ fp ∧ (∀ a ∈ fp, H1 a = none) ∧ compG j tt te (wipeE ρ vs) (ds.drop i) acc = some ys
      refine ⟨fun i m H' => m = ds.length - i ∧ i ≤ ds.length ∧ Wd i H', ⟨ds.length, by simp, Nat.zero_le _, Z1, [], [], [], Gr.newO g1.s hD, g1.s.back hD, upd_same, ⟨rfl, rfl⟩, List.nodup_nil, (fun z => nomatch z), (fun _ z => nomatch z), ec⟩, ?_⟩
      rintro i m H' ⟨rfl, hi', Z', acc, vsA, fp, g', zD, hDl, dn, nd, nD, fr, ecc⟩
      have ez : Ex H1 H' := g'.h
      by_cases hlt : i < ds.length
      · refine .inr ⟨wk.go i H' ez hlt, Wd (i + 1), fun H2 n2 => ⟨ds.length - (i + 1), by omega, rfl, hlt, n2⟩, fun x H2 y => ?_⟩
        obtain ⟨e1, d, ed, dx⟩ := wk.yld i H' x H2 ez hlt y
        subst e1
        have ed' : ds[i] = d := by rw [List.getElem?_eq_getElem hlt] at ed; exact Option.some.inj ed
        rw [List.drop_eq_getElem_cons hlt, ed'] at ecc
        unfold compG at ecc
        split at ecc
        · rename_i hjl
          have dx' : Den K cl Z' H2 d x [] := Den.mono g'.z d x [] (fun _ z => nomatch z) dx
          have r2 := (rw0.gr g').set dx' hjl
          refine ⟨wipe_set hj _, Z', _, r2, ?_⟩
          cases et : tt ((wipeE ρ vs).set j (some d)) with
          | ex c ns xs => rw [et] at ecc; cases ecc
          | bad => rw [et] at ecc; cases ecc
          | ok b =>
            rw [et] at ecc
            intro Z2 H3 g2
            have n2 : H2 Dl ≠ none := by rw [hDl]; exact fun z => nomatch z
            have zD2 := g2.n Dl n2 zD
            have hD2 := g2.h Dl _ hDl
            cases b with
            | false => exact ⟨Z2, acc, vsA, fp, g'.trans g2, zD2, hD2, g2.dens dn, nd, nD, fr, ecc⟩
            | true =>
              refine ⟨Z2, _, r2.gr g2, ?_⟩
              have ecc : (match te ((wipeE ρ vs).set j (some d)) with
                | .ok y => if acc.length < LIM then compG j tt te (wipeE ρ vs) (ds.drop (i + 1)) (acc ++ [y]) else none
                | _ => none) = some ys := ecc
              cases ee : te ((wipeE ρ vs).set j (some d)) with
              | ex c ns xs => rw [ee] at ecc; cases ecc
              | bad => rw [ee] at ecc; cases ecc
              | ok y =>
                rw [ee] at ecc
                intro u Z3 H4 fy g3 dy ny fy'
                have ecc : (if acc.length < LIM then compG j tt te (wipeE ρ vs) (ds.drop (i + 1)) (acc ++ [y]) else none) = some ys := ecc
                by_cases hlim : acc.length < LIM
                · rw [if_pos hlim] at ecc
                  have n3 : H3 Dl ≠ none := by rw [hD2]; exact fun z => nomatch z
                  have g23 := (g'.trans g2).trans g3
                  have nfy : Dl ∉ fy := fun hm => n3 (fy' Dl hm)
                  have d3 := g3.dens (g2.dens dn)
                  refine ⟨vsA, g3.h Dl _ hD2, by rw [dn.length]; exact lim_lt hlim, Z3, acc ++ [y], vsA ++ [u], fp ++ fy, ⟨g23.z, g23.h.mut hD, fun b o e => ?_, g23.n⟩, g3.n Dl n3 zD2, upd_same, (d3.upd nD).append (Dens.one (dy.upd nfy)), ?_, ?_, ?_, ecc⟩
                  · rw [upd_ne (fun c => by rw [c, g3.n Dl n3 zD2] at e; cases e)]
                    exact g23.s b o e
                  · rw [List.nodup_append]
                    refine ⟨nd, ny, fun a ha b hb c => ?_⟩
                    subst c
                    obtain ⟨_, xs, qa⟩ := Dens.own acc vsA fp (g2.dens dn) a ha
                    rw [fy' a hb] at qa; cases qa
                  · exact fun hm => (List.mem_append.mp hm).elim nD nfy
                  · intro a ha
                    rcases List.mem_append.mp ha with z | z
                    · exact fr a z
                    · exact (g'.trans g2).h.back (fy' a z)
                · rw [if_neg hlim] at ecc; cases ecc
        · cases ecc
      · have e : i = ds.length := by omega
        subst e
        rw [List.drop_length] at ecc
        unfold compG at ecc
        have ey := Option.some.inj ecc
        subst ey
        refine .inl ⟨wk.stop H' ez, q (.ref Dl) Z' H' (Dl :: fp) (g1.trans g') ?_ (List.nodup_cons.mpr ⟨nD, nd⟩) fun a ha => ?_⟩
        · simp only [Den]
          exact ⟨Dl, vsA, fp, rfl, rfl, zD, hDl, dn⟩
        · rcases List.mem_cons.mp ha with z | z
          · subst z; exact g1.h.back hD
          · exact g1.h.back (fr a z)
theorem DE.lc {elt : Expr} {ifs : List Expr} {scope : Scope} {own : List (Str × Nat)} {fi : Env → Ou (List D)} {tt : Env → Ou Bool} {te : Env → Ou D} {j : Nat} (Cc : Ctx X W k) (hi : DIB X W tg iter fi) (ok : BlkOk X.N X.env.scope scope own)
    (hg : ∀ (s : Shared) (H : Hp) (C : Addr) (cl : List (Str × Addr)) (fp : List Addr), PG (X.blk s H scope (compEnvC scope cl C X.env) fp) tg (gName j))
    (ht : ∀ (s : Shared) (H : Hp) (C : Addr) (cl : List (Str × Addr)) (fp : List Addr), DTs (X.blk s H scope (compEnvC scope cl C X.env) fp) W0 ifs tt)
    (he : ∀ (s : Shared) (H : Hp) (C : Addr) (cl : List (Str × Addr)) (fp : List Addr), DE (X.blk s H scope (compEnvC scope cl C X.env) fp) W0 elt te) (hj : j ∈ own.map (·.2) := by decide) (hs : ∀ x, foldedSetIterable iter X.env x = pure x := by intro _; rfl) :
    DE X W (.ListComp elt [⟨tg, iter, ifs, 0⟩] scope pos) (dLc fi j (own.map (·.2)) tt te) :=
  ⟨PE.weak (pe_lc (te := tD X.K (He.ga X.K) W0 te) (tt := tT X.K (He.ga X.K) W0 tt) Cc.calm Cc.nd hi.run ok hg (fun s H C cl fp => (ht s H C cl fp).run) (fun s H C cl fp => (he s H C cl fp).run) hs) (tLc_of hj)⟩
/-- name = [..] on one line, the name a local -/
theorem DS.setLc {i : Nat} {y : Str} {py spos : Pos} {elt : Expr} {ifs : List Expr} {scope : Scope} {own : List (Str × Nat)} {fi : Env → Ou (List D)} {tt : Env → Ou Bool} {te : Env → Ou D} {j : Nat} (Cc : Ctx X W k) (hi : DIB X W tg iter fi) (ok : BlkOk X.N X.env.scope scope own)
    (hg : ∀ (s : Shared) (H : Hp) (C : Addr) (cl : List (Str × Addr)) (fp : List Addr), PG (X.blk s H scope (compEnvC scope cl C X.env) fp) tg (gName j))
    (ht : ∀ (s : Shared) (H : Hp) (C : Addr) (cl : List (Str × Addr)) (fp : List Addr), DTs (X.blk s H scope (compEnvC scope cl C X.env) fp) W0 ifs tt)
    (he : ∀ (s : Shared) (H : Hp) (C : Addr) (cl : List (Str × Addr)) (fp : List Addr), DE (X.blk s H scope (compEnvC scope cl C X.env) fp) W0 elt te) (hy : X.N[i]? = some y := by rfl) (hyl : X.env.scope.names.lookup y = some .local := by rfl)
    (hsw : swapsWith (.ListComp elt [⟨tg, iter, ifs, 0⟩] scope pos) (some (.Name y py)) spos.line X.env = pure true := by exact sw_true rfl rfl rfl (by decide +kernel)) (hj : j ∈ own.map (·.2) := by decide) (hs : ∀ x, foldedSetIterable iter X.env x = pure x := by intro _; rfl) :
    DS X W (.Assign [.Name y py] (.ListComp elt [⟨tg, iter, ifs, 0⟩] scope pos) spos) (sSet i (dLc fi j (own.map (·.2)) tt te)) := by
  refine ⟨fun Z0 H0 => PS.weak (ps_setLc (te := tD X.K (He.ga X.K) W0 te) (tt := tT X.K (He.ga X.K) W0 tt) Cc.calm Cc.nd hy hyl hsw hi.run ok hg (fun s H C cl fp => (ht s H C cl fp).run) (fun s H C cl fp => (he s H C cl fp).run) hs) fun E σ H hq => ?_⟩
  obtain ⟨Z, ρ, s, q⟩ := hq
  refine tLc_of hj σ H _ ⟨Z, ρ, s.rel, ?_⟩
  unfold sSet at q
  cases ec : dLc fi j (own.map (·.2)) tt te ρ with
  | ok d =>
    rw [ec] at q
    intro v Z' H' fp g1 dn nd fr
    have q : PostS X.K (He.ga X.K) W Z0 H0 E (if i < ρ.length then .nx (ρ.set i (some d)) else .bad) := q
    by_cases c : i < ρ.length
    · rw [if_pos c] at q
      exact q _ Z' H' (s.set g1 dn nd fr c)
    · rw [if_neg c] at q; exact q.elim
  | ex c ns xs => rw [ec] at q; exact fun dc Z' H' g1 x => q dc σ Z' H' (s.gr g1) x
  | bad => rw [ec] at q; exact q
end
end DL

namespace DL
open PySem PySem.Spec PyProof.Rows L2

/-! ### defs -/
def endF (r : Os) : Ou D := match r with
  | .nx _ => .ok .non
  | .rt d => .ok d
  | .ex c ns xs _ => .ex c ns xs
  | _ => .bad
/-- a def's body, n names in all -/
def runF (n : Nat) (g : Env → Os) (ds : List D) : Ou D := endF (g (ds.map some ++ List.replicate (n - ds.length) none))
def PostF (K : PySem.W.Frag) (cl : Str → Addr) (Z H : Hp) (o : Ou D) (Q : VK) (E : XK) : Prop := match o with
  | .ok d => PostV K cl Z H d Q
  | .ex c ns xs => ∀ dc Z' H', Gr Z H Z' H' → ExD K cl Z' H' ns xs dc → E (.ref (cl c)) dc H'
  | .bad => False
/-- the promise: frozen arguments in, F's answer out -/
def spF (K : PySem.W.Frag) (n : Nat) (F : List D → Ou D) : Sp := fun vs H Q E => vs.length = n ∧ ∃ Z ds, Ex Z H ∧ Dens K (He.ga K) Z H ds vs [] ∧ PostF K (He.ga K) Z H (F ds) Q E
/-- a def of the module, by its name -/
structure Dn (P : Program) (w : World) (K : PySem.W.Frag) (mg : Str → Option Value) (base : Heap) (k : Nat) (x : Str) (n : Nat) (F : List D → Ou D) : Prop where
  ex : ∃ (f : Addr) (fd : FuncData) (ps : List Str), mg x = some (.ref f) ∧ FnOk P w K mg base (L2.CX P w) k f fd ps (spF K n F) ∧ PySem.W.keepIn K (.ref f) = true ∧ Binds K fd ps []
section
variable {K : PySem.W.Frag} {cl : Str → Addr} {Z H Z' H' Z0 H0 : Hp}
theorem Slots.start : ∀ {ds : List D} {vs : List V} {fp : Fp} (m : Nat), Dens K cl Z H ds vs fp → Slots K cl Z H (ds.map some ++ List.replicate m none) (vs.map some ++ List.replicate m none) fp
  | [], vs, fp, m, h => by
    obtain ⟨e1, e2⟩ := h
    subst e1 e2
    induction m with
    | zero => exact ⟨rfl, rfl⟩
    | succ m ih => exact ⟨none, _, rfl, ih⟩
  | d :: ds, vs, fp, m, h => by
    obtain ⟨v, vr, f1, f2, e1, e2, q, r⟩ := h.cons'
    subst e1
    exact ⟨v, _, f1, f2, rfl, e2, q, Slots.start m r⟩
end
/-- THE RULE for a def -/
theorem fnF {P : Program} {w : World} {K : PySem.W.Frag} {mg : Str → Option Value} {base : Heap} {x qual : Str} {params : Arguments} {body : List Stmt} {scope : Scope} {dvs : List V} {kws : List (Str × V)} {f : Addr} {fd : FuncData} {N ps : List Str} {k : Nat} {g : Env → Os}
    (F : FunD K x qual params body scope dvs kws f fd) (S : FnScope N ps scope)
    (hb : ∀ (cdv : Value) (A : Around) (outer : List PySem.Env) (s : Shared) (H : Hp) (E : XK), Ctx (cxOf (L2.CX P w) P w K mg base N qual scope f cdv A outer s H E) (fun cls d _ H => E cls d H) k →
      DSs (cxOf (L2.CX P w) P w K mg base N qual scope f cdv A outer s H E) (fun cls d _ H => E cls d H) body g) : FnOk P w K mg base (L2.CX P w) (k + 1) f fd ps (spF K ps.length (runF N.length g)) := by
  refine F.ok S (fun vs H Q E h => h.1) fun cdv A outer s H vs Q E hr hsp => ?_
  obtain ⟨hl, Z, ds, ez, dn, q⟩ := hsp
  have C : Ctx (cxOf (L2.CX P w) P w K mg base N qual scope f cdv A outer s H E) (fun cls d _ H => E cls d H) k := ⟨rfl, hr, passes_of rfl, takes_of rfl rfl rfl rfl, S.nd⟩
  refine ⟨_, (hb cdv A outer s H E C).run Z H, Z, ds.map some ++ List.replicate (N.length - ds.length) none, ⟨Gr.refl ez, [], ?_, List.nodup_nil, fun _ z => nomatch z⟩, ?_⟩
  · have e : vs.length = ds.length := dn.length
    show Slots _ _ _ _ _ (vs.map some ++ List.replicate (N.length - vs.length) none) _
    rw [e]
    exact Slots.start _ dn
  · unfold runF at q
    cases e : g (ds.map some ++ List.replicate (N.length - ds.length) none) with
    | nx ρ => rw [e] at q; exact fun σ Z' H' s' => q .non Z' H' [] s'.g ⟨rfl, rfl⟩ List.nodup_nil fun _ z => nomatch z
    | rt d => rw [e] at q; exact fun v Z' H' fp g1 h nd fr => q v Z' H' fp g1 h nd fr
    | ex c ns xs ρ => rw [e] at q; exact fun dc σ Z' H' s' x => q dc Z' H' s'.g x
    | bk ρ => rw [e] at q; exact q.elim
    | ct ρ => rw [e] at q; exact q.elim
    | bad => rw [e] at q; exact q.elim
theorem dn_of {P : Program} {w : World} {K : PySem.W.Frag} {mg : Str → Option Value} {base : Heap} {x : Str} {params : Arguments} {body : List Stmt} {scope : Scope} {f : Addr} {fd : FuncData} {N ps : List Str} {k : Nat} {g : Env → Os}
    (F : FunD K x x params body scope [] [] f fd) (hm : mg x = some (.ref f)) (S : FnScope N ps scope)
    (hbi : ∀ (kV doc pm : Value) (an : Option Addr) (cdv ct : Value) (us : List Value), us.length = ps.length → bindArgs (PySem.W.fnOf x x params body scope .none kV doc pm an cdv ct) ⟨us, []⟩ = pure (ps.zip us))
    (hb : ∀ (cdv : Value) (A : Around) (outer : List PySem.Env) (s : Shared) (H : Hp) (E : XK), Ctx (cxOf (L2.CX P w) P w K mg base N x scope f cdv A outer s H E) (fun cls d _ H => E cls d H) k →
      DSs (cxOf (L2.CX P w) P w K mg base N x scope f cdv A outer s H E) (fun cls d _ H => E cls d H) body g) : Dn P w K mg base (k + 1) x ps.length (runF N.length g) :=
  ⟨f, fd, ps, hm, fnF F S hb, F.kp, F.bindsN hbi⟩

/-! ### calls -/
def callR (F : List D → Ou D) (ds : List D) : Ou D := match F (D.frzs ds) with
  | .ok d => if D.fzs ds || d.cln then .ok d else .bad
  | .ex c ns xs => if D.fzs ds || D.clns xs then .ex c ns xs else .bad
  | .bad => .bad
def dCall (F : List D → Ou D) (t : Env → Ou (List D)) : Env → Ou D := fun ρ => t ρ >>= callR F
mutual
theorem frz_fz : ∀ d : D, d.fz = true → d.frz = d
  | .non, _ => rfl
  | .bl _, _ => rfl
  | .int _, _ => rfl
  | .str _, _ => rfl
  | .tup xs, h => by
    simp only [D.frz]
    rw [frzs_fzs xs h]
  | .lst true xs, h => by
    have h' : false = true := h
    cases h'
  | .lst false xs, h => rfl
  | .ins _ _ _, _ => rfl
  | .scr _, _ => rfl
  | .adr _, _ => rfl
  | .cls _, _ => rfl
theorem frzs_fzs : ∀ ds : List D, D.fzs ds = true → D.frzs ds = ds
  | [], _ => rfl
  | d :: ds, h => by
    obtain ⟨h1, h2⟩ := band (show (d.fz && D.fzs ds) = true from h)
    simp only [D.frzs]
    rw [frz_fz d h1, frzs_fzs ds h2]
end
section
variable {K : PySem.W.Frag} {cl : Str → Addr} {Z H Z' H' Z0 H0 : Hp}
theorem ExD.clean {Y : Hp} {ns : List Str} {xs : List D} {dc : Option Addr} (k : ∀ a, Z a = Y a ∨ (Z a = none ∧ ∃ xs, Y a = some (.lst xs))) (c : D.clns xs = true) (h : ExD K cl Y H ns xs dc) : ExD K cl Z H ns xs dc := by
  rcases h with h | ⟨d, vs, e1, e2, e3, e4⟩
  · exact .inl h
  · refine .inr ⟨d, vs, e1, ?_, e3, Dens.clean k xs vs [] c e4⟩
    rcases k d with z | ⟨_, ys, z⟩
    · exact z.trans e2
    · rw [z] at e2; cases e2
/-- the arguments may be borrowed: frozen for the call's time -/
theorem spF_of {n : Nat} {F : List D → Ou D} {ds : List D} {vs : List V} {fp : Fp} {Q : VK} {W : WX} {σ : L2.St} (s : Ex Z H) (dn : Dens K (He.ga K) Z H ds vs fp) (hn : vs.length = n) (q : PostO K (He.ga K) W Z H σ (callR F ds) Q) : spF K n F vs H Q (WE W σ) := by
  have own : ∀ a ∈ fp, Z a = none := fun a ha => (Dens.own ds vs fp dn a ha).1
  have own2 : ∀ a ∈ fp, ∃ xs, H a = some (.lst xs) := fun a ha => (Dens.own ds vs fp dn a ha).2
  have ez := frzH_ex (H := H) own
  have es : Ex (frzH Z H fp) H := fun a o e => by
    unfold frzH at e
    split at e
    · exact e
    · exact s a o e
  refine ⟨hn, frzH Z H fp, D.frzs ds, es, Dens.freeze ez ds vs fp (fun a ha => if_pos ha) dn, ?_⟩
  -- back from a state over the frozen one
  have back : ∀ {Z2 H2 : Hp}, Gr (frzH Z H fp) H Z2 H2 → Gr Z H (cutH Z2 fp) H2 ∧ ∀ a, cutH Z2 fp a = Z2 a ∨ (cutH Z2 fp a = none ∧ ∃ xs, Z2 a = some (.lst xs)) := fun {Z2 H2} g => by
    refine ⟨⟨fun a o e => ?_, g.h, fun a o e => ?_, fun a h1 h2 => ?_⟩, fun a => ?_⟩
    · have na : a ∉ fp := fun hm => by rw [own a hm] at e; cases e
      exact (if_neg na).trans (g.z a o ((if_neg na).trans e))
    · unfold cutH at e
      split at e
      · cases e
      · exact g.s a o e
    · by_cases hm : a ∈ fp
      · exact if_pos hm
      · exact (if_neg hm).trans (g.n a h1 ((if_neg hm).trans h2))
    · by_cases hm : a ∈ fp
      · obtain ⟨xs, e⟩ := own2 a hm
        exact .inr ⟨if_pos hm, xs, g.z a _ ((if_pos hm).trans e)⟩
      · exact .inl (if_neg hm)
  have fz0 : D.fzs ds = true → fp = [] := fun c => Dens.fz ds vs fp c dn
  have cut0 : ∀ {Z2 : Hp}, fp = [] → cutH Z2 fp = Z2 := fun {Z2} e => by
    subst e
    funext a
    exact if_neg (fun z => nomatch z)
  unfold callR at q
  cases e : F (D.frzs ds) with
  | bad => rw [e] at q; exact q.elim
  | ok d =>
    rw [e] at q
    have q : PostO K (He.ga K) W Z H σ (if D.fzs ds || d.cln then .ok d else .bad) Q := q
    split at q
    · rename_i c
      intro v Z2 H2 f g dd nd fr
      obtain ⟨g', kk⟩ := back g
      refine q v (cutH Z2 fp) H2 f g' ?_ nd fr
      rcases Bool.or_eq_true_iff.mp c with c | c
      · rw [cut0 (fz0 c)]; exact dd
      · exact Den.clean kk d v f c dd
    · exact q.elim
  | ex c ns xs =>
    rw [e] at q
    have q : PostO K (He.ga K) W Z H σ (if D.fzs ds || D.clns xs then .ex c ns xs else .bad) Q := q
    split at q
    · rename_i cc
      intro dc Z2 H2 g x
      obtain ⟨g', kk⟩ := back g
      refine q dc (cutH Z2 fp) H2 g' ?_
      rcases Bool.or_eq_true_iff.mp cc with c | c
      · rw [cut0 (fz0 c)]; exact x
      · exact ExD.clean kk c x
    · exact q.elim
end
section
variable {X : Cx} {W : WX} {k j n : Nat} {e : Expr} {es : List Expr} {t : Env → Ou (List D)} {pos p : Pos} {x : Str} {F : List D → Ou D}
theorem DE.call (C : Ctx X W k) (G : Dn X.prog X.w X.K X.mg X.base j x n F) (ha : DAB X W (e :: es) t) (hk : j ≤ k := by decide) (hn : ((e :: es).length == n) = true := by rfl) (hg : Gl X x := by rfl)
    (hdb : (x == ("__debug__" : Str)) = false := by decide) (he : starEach (e :: es) X.env = (false, eval e X.env) :: starEach es X.env := by rfl) (hpl : (backTo pos (starEach es X.env)).any (·.1) = false := by rfl) : DE X W (.Call (.Name x p) (e :: es) [] pos) (dCall F t) := by
  obtain ⟨f, fd, ps, hm, ok, kp, hb⟩ := G.ex
  refine ⟨PE.weak (pe_callS ok (C.hr.mono hk) hg hm kp hb (fun σ => passAt C.tk σ) ha.run hdb he hpl) fun σ H Q hq => ?_⟩
  obtain ⟨Z, ρ, r, q⟩ := hq
  refine tVs_bind (P := fun Z H o => PostO X.K (He.ga X.K) W Z H σ o Q) r (fun _ _ _ z => z) (fun z => z) q fun ds vs Z1 H1 fp ex g1 dn q => ?_
  refine spF_of g1.s dn ?_ (PostO.gr q g1)
  rw [dn.length, ha.len ρ ds ex]
  exact beq_iff_eq.mp hn
end

/-! ### isinstance of a built-in class -/
inductive BT where
  | int | bool | tuple | list | str
def BT.nm : BT → String
  | .int => "int"
  | .bool => "bool"
  | .tuple => "tuple"
  | .list => "list"
  | .str => "str"
def BT.st : BT → Str
  | .int => "int"
  | .bool => "bool"
  | .tuple => "tuple"
  | .list => "list"
  | .str => "str"
theorem BT.boot : ∀ b : BT, bootBuiltins b.st = some (.type b.nm)
  | .int => boot_int
  | .bool => boot_bool
  | .tuple => boot_tuple
  | .list => boot_list
  | .str => boot_str
theorem BT.ne : ∀ b : BT, b.st ≠ "__name__" := by intro b; cases b <;> decide
theorem BT.nd : ∀ b : BT, (b.st == ("__debug__" : Str)) = false := by intro b; cases b <;> decide
def isiD : BT → D → Option Bool
  | .int, .int _ => some true
  | .int, .bl _ => some true
  | .bool, .bl _ => some true
  | .tuple, .tup _ => some true
  | .list, .lst _ _ => some true
  | .str, .str _ => some true
  | _, .non => some false
  | _, .int _ => some false
  | _, .bl _ => some false
  | _, .tup _ => some false
  | _, .lst _ _ => some false
  | _, .str _ => some false
  | _, _ => none
def dIsi (b : BT) (f : Env → Ou D) : Env → Ou D := fun ρ => f ρ >>= fun d => ofO ((isiD b d).map .bl)
theorem tyx_tup {K : PySem.W.Frag} {H : Hp} {a : Addr} {vs : List V} (h : SqT K H a vs) : TyX K H (.ref a) (.type "tuple") := by
  rcases h with (h | ⟨o, h⟩) | ⟨o, its, n, h1, h2, _⟩
  · exact .base (.tup h)
  · exact .fTuple h
  · exact .kTuple h1 h2
theorem isi_core {K : PySem.W.Frag} {cl : Str → Addr} {Z H : Hp} {d : D} {v : V} {fp : Fp} (s : Ex Z H) (h : Den K cl Z H d v fp) (b : BT) {r : Bool} (e : isiD b d = some r) :
    ∃ t, TyX K H v (.type t) ∧ PySem.W.kitOne K (.type t) (.type b.nm) = some r := by
  cases d with
  | non =>
    rw [h.1]
    refine ⟨"NoneType", .base .non, kit_ty ?_⟩
    cases b <;> cases e <;> decide +kernel
  | bl c =>
    rw [h.1]
    refine ⟨"bool", .base (.bl c), kit_ty ?_⟩
    cases b <;> cases e <;> decide +kernel
  | int i =>
    rw [h.1]
    refine ⟨"int", .base (.int i), kit_ty ?_⟩
    cases b <;> cases e <;> decide +kernel
  | str x =>
    rw [h.1]
    refine ⟨"str", .base (.str x), kit_ty ?_⟩
    cases b <;> cases e <;> decide +kernel
  | tup xs =>
    obtain ⟨a, vs, rfl, q, _⟩ := h.tupH s
    refine ⟨"tuple", tyx_tup q, kit_ty ?_⟩
    cases b <;> cases e <;> decide +kernel
  | lst o xs =>
    obtain ⟨a, vs, f, rfl, q, _⟩ := h.lstH s
    refine ⟨"list", .base (.lst q), kit_ty ?_⟩
    cases b <;> cases e <;> decide +kernel
  | ins c ns xs => cases b <;> cases e
  | scr ns => cases b <;> cases e
  | adr a => cases b <;> cases e
  | cls c => cases b <;> cases e
theorem DE.isi {X : Cx} {W : WX} {a : Expr} {f : Env → Ou D} {pos p q : Pos} (b : BT) (ha : DB X W a f) (hm : X.mg "isinstance" = none) (hmb : X.mg b.st = none) (hg : Gl X "isinstance" := by rfl) (hgb : Gl X b.st := by rfl)
    (he : starEach [a, .Name b.st q] X.env = (false, eval a X.env) :: starEach [.Name b.st q] X.env := by rfl) (he2 : starEach [.Name b.st q] X.env = (false, eval (.Name b.st q) X.env) :: starEach [] X.env := by rfl) (hpl : (backTo pos (starEach [.Name b.st q] X.env)).any (·.1) = false := by rfl) :
    DE X W (.Call (.Name "isinstance" p) [a, .Name b.st q] [] pos) (dIsi b f) := by
  refine ⟨PE.weak (pe_callB call_isi hg hm boot_isinstance (pa_cons ha.run (pa_cons (pe_bltn (v := .ty b.nm) hgb hmb b.boot rfl b.ne b.nd) pa_nil he2) he) (by decide) (by decide) he hpl) fun σ H Q hq => ?_⟩
  obtain ⟨Z, ρ, r, q⟩ := hq
  refine tV_bind (P := fun Z H o => PostO X.K (He.ga X.K) W Z H σ o Q) r (fun _ _ _ z => z) (fun z => z) q fun d v Z1 H1 fx ex g1 dx q => ?_
  have q := PostO.gr q g1
  match e : isiD b d with
  | some c =>
    rw [e] at q
    obtain ⟨t, h1, h2⟩ := isi_core g1.s dx b e
    exact ⟨v, .ty b.nm, _, _, c, rfl, .ty _, h1, h2, PostV.bl g1.s q⟩
  | none => rw [e] at q; exact q.elim
end DL

namespace DL
open PySem PySem.Spec PyProof.Rows L2
theorem _root_.L2.Room.units65 {k : Nat} {A : Around} (r : Room k A) : A.units + 65 < cLine := by have := r.un; omega
/-- a law's call over a head by facts, errors by L2.CX -/
theorem walk_ofX {l : PySem.W.OpenLaw} {n k : Nat} {q : Program} {loose : List Str} {XP : (Str → Option Value) → Heap → Prop} {YP : World → Heap → Prop} {d : DefRec} {x : Str} {F : List D → Ou D}
    (hn : l.most = some n) (hn2 : n ≤ sizeLine) (hdf : d.params.defaults = []) (hr : Room k callerA)
    (hF : ∀ (w : World) (mg : Str → Option Value) (fa : Addr) (h : Heap), YP w h → h.Ns mainGlobals mg → mg d.name = some (.ref fa) →
      ∃ (K : PySem.W.Frag) (fd : FuncData), K.In h ∧ (∀ (s : Shared) (u : Value), BindsTo s fd ⟨[u], []⟩ [(x, u)]) ∧
        ∀ base : Heap, K.In base → base.Ns mainGlobals mg → FnOk l.prog w K mg base (L2.CX l.prog w) k fa fd [x] (spF K 1 F))
    (hp : ∀ ns : List Int, ns.length ≤ n → F [.scr ns] = .ok (.bl true)) :
    PySem.W.WalkO q loose XP YP l.row.toRowW d [] (fun f vs => PySem.call f vs) := by
  refine Att.attach_call hn hdf fun w s₀ s₁ mg mb fa o pm cd doc a vs ns G Y ho hd hcd hmg hobj hints hlen hg => ?_
  obtain ⟨K, fd, KX, hb, hok⟩ := hF w mg fa _ Y G.T.g hmg
  refine law_call KX G.T.g G.T.b G.T.builtins G.T.nolimit hg hobj hints (Nat.le_trans hlen hn2) hr hok hb (fun H hO hS => ?_) fun H e s' z => ?_
  · refine ⟨rfl, H, [.scr ns], Ex.refl H, ⟨_, [], [], [], rfl, rfl, ⟨a, rfl, rfl, hS⟩, ⟨rfl, rfl⟩⟩, ?_⟩
    rw [hp ns hlen]
    intro v Z' H' fp g h _ _
    exact h.1
  · obtain ⟨_, _, _, _, _, _, _, _, _, _, _, _, z⟩ := z
    exact z
end DL

namespace DL
open PySem PySem.Spec PyProof.Rows L2

/-! ### sorted(xs): any data that can be compared -/
/-- the order of data -/
def pyLe (x y : PyData) : Bool := PySem.W.dataLe false (id : PyData → PyData) x y
def leB (x y : D) : Bool := pyLe x.py y.py
def pyTup1 : PyData → Bool
  | .tuple (_ :: _) => true
  | _ => false
def pyTupNone : PyData → Bool
  | .none => true
  | .tuple _ => true
  | _ => false
def sortOkP (ds : List PyData) : Bool := (ds.all fun x => ds.all fun y => PySem.W.alike x y) && (ds.all pyTup1 || ds.all fun d => !pyTupNone d)
def sortOk (xs : List D) : Bool := D.okds xs DEP && sortOkP (D.pys xs)
def sortL (xs : List D) : List D := xs.mergeSort leB
def sortN : List D → Option D
  | [.lst _ xs] => if D.fzs xs && sortOk xs && decide (xs.length ≤ LIM) then some (.lst true (sortL xs)) else none
  | _ => none
theorem sortOkP_ok {ds : List PyData} (h : sortOkP ds = true) : PySem.W.AllAlike ds ∧ PySem.W.Sortable ds := by
  obtain ⟨h1, h2⟩ := band h
  refine ⟨fun d hd d' hd' => List.all_eq_true.mp (List.all_eq_true.mp h1 d hd) d' hd', ?_⟩
  rcases Bool.or_eq_true_iff.mp h2 with h2 | h2
  · refine .inl fun d hd => ?_
    have q := List.all_eq_true.mp h2 d hd
    cases d with
    | tuple xs =>
      cases xs with
      | nil => cases q
      | cons x r => exact ⟨x, r, rfl⟩
    | _ => cases q
  · refine .inr fun d hd => ?_
    have q := List.all_eq_true.mp h2 d hd
    constructor
    · rintro rfl; cases q
    · rintro xs rfl; cases q
theorem pys_map : ∀ ds : List D, D.pys ds = ds.map D.py
  | [] => rfl
  | d :: ds => congrArg (d.py :: ·) (pys_map ds)
def rSortD (K : PySem.W.Frag) : List V → Hp → VK → Prop := fun vs H Q => ∃ (a : Addr) (ys : List V) (ds : List PyData), vs = [V.ref a] ∧ SqL K H a ys ∧ DpAll K H ys ds ∧ sortOkP ds = true ∧ (∀ d ∈ ds, d.depth ≤ DEP) ∧
  ∀ p, H p = none → Q (.ref p) (upd H p (.lst (((ys.zip ds).mergeSort (PySem.W.dataLe false fun p : V × PyData => p.2)).map (·.1))))
section
variable {X : Cx} {pins : List (Addr × Obj)} {σ : L2.St} {H : Hp} {s : Shared}
theorem sort_each (I : Inv X pins σ H s) : ∀ {ys : List V} {ds : List PyData} {its : List Value}, DpAll X.K H ys ds → Vals ys its →
    PySem.W.EachIs (fun (v : Value) (p : V × PyData) => RelV p.1 v) its (ys.zip ds) ∧ PySem.W.EachIs (fun (v : Value) (p : V × PyData) => ∃ as, Reads s.heap v p.2 as) its (ys.zip ds) ∧ (ys.zip ds).map (·.2) = ds ∧ ys.length = ds.length
  | _, _, _, .nil, h => by
    cases h
    exact ⟨.nil, .nil, rfl, rfl⟩
  | _, _, _, .cons (v := v) (vs := vs) (d := d) (ds := ds) h1 h2, h => by
    cases h with
    | cons r rs =>
      obtain ⟨q1, q2, q3, q4⟩ := sort_each I h2 rs
      exact ⟨.cons r q1, .cons (Dp.reads I _ _ _ h1 r) q2, congrArg (d :: ·) q3, congrArg (· + 1) q4⟩
theorem vals_out : ∀ {out : List Value} {ps : List (V × PyData)}, PySem.W.EachIs (fun (v : Value) (p : V × PyData) => RelV p.1 v) out ps → Vals (ps.map (·.1)) out
  | _, _, .nil => .nil
  | _, _, .cons r rs => .cons r (vals_out rs)
theorem call_sortD {X : Cx} (hu : X.A.units + 65 < cLine) : CallR X (.builtin "sorted") (rSortD X.K) := by
  intro pins s σ H vs us Q I r h
  obtain ⟨a, ys, ds, rfl, hs, hd, hok, hdep, q⟩ := h
  obtain ⟨its, rv, hl, hz⟩ := I.list hs
  rw [Vals.ref1 r]
  obtain ⟨e1, e2, e3, e4⟩ := sort_each I hd rv
  obtain ⟨o1, o2⟩ := sortOkP_ok hok
  have hzl : (ys.zip ds).length = ys.length := by rw [List.length_zip, e4, Nat.min_self]
  refine PySem.W.sorted_data (enc := fun p : V × PyData => p.2) hl.isList e1 e2 (by rw [e3]; exact o1) (by rw [e3]; exact o2) (by rw [hzl]; exact hz) (fun p hp => ?_) fun out h1 h2 => ?_
  · have hm : p.2 ∈ ds := by rw [← e3]; exact List.mem_map_of_mem hp
    have := hdep _ hm
    have : DEP = 20 := rfl
    omega
  · obtain ⟨ep, he'⟩ := PyProof.Rows.sortedAll_at s.heap its out.toArray
    have rv' := vals_out h2
    refine ⟨.ref _, upd H (s.heap.objs.size + 1) (.lst (((ys.zip ds).mergeSort (PySem.W.dataLe false fun p : V × PyData => p.2)).map (·.1))),
      I.laid (t' := s.toks) (fun _ _ => PyProof.Rows.sortedAll_old) (Nat.le_succ _) ⟨?_, out, ep, rv', he'⟩, rfl, q _ (I.hok.fresh (Nat.le_succ _))⟩
    rw [List.length_map, List.length_mergeSort, hzl]
    exact hz
end
section
variable {K : PySem.W.Frag} {cl : Str → Addr} {Z H Z' H' : Hp}
theorem dens_perm : ∀ {ps qs : List (V × D)}, ps.Perm qs → (∀ p ∈ ps, Den K cl Z H p.2 p.1 []) → Dens K cl Z H (qs.map (·.2)) (qs.map (·.1)) [] := by
  intro ps qs hp h
  have h' : ∀ p ∈ qs, Den K cl Z H p.2 p.1 [] := fun p m => h p (hp.mem_iff.mpr m)
  clear h hp
  induction qs with
  | nil => exact ⟨rfl, rfl⟩
  | cons q qs ih => exact ⟨q.1, qs.map (·.1), [], [], rfl, rfl, h' q (List.mem_cons_self ..), ih fun p m => h' p (List.mem_cons_of_mem _ m)⟩
theorem dens_zip : ∀ {ds : List D} {vs : List V}, Dens K cl Z H ds vs [] → ∀ p ∈ vs.zip ds, Den K cl Z H p.2 p.1 []
  | [], vs, h, p, m => by
    rw [h.1] at m
    cases m
  | d :: ds, vs, h, p, m => by
    obtain ⟨v, vr, f1, f2, e1, e2, q, r⟩ := h.cons'
    subst e1
    have ef := List.append_eq_nil_iff.mp e2.symm
    obtain ⟨rfl, rfl⟩ := ef
    rcases List.mem_cons.mp m with rfl | m
    · exact q
    · exact dens_zip r p m
theorem zip_py : ∀ (ds : List D) (vs : List V), vs.length = ds.length → (vs.zip ds).map (fun p => (p.1, p.2.py)) = vs.zip (D.pys ds)
  | [], vs, h => by cases vs <;> rfl
  | d :: ds, [], h => by cases h
  | d :: ds, v :: vs, h => congrArg ((v, d.py) :: ·) (zip_py ds vs (Nat.succ.inj h))
theorem depth_all : ∀ {ds : List PyData} {n : Nat}, PyData.depthAll ds ≤ n → ∀ d ∈ ds, d.depth ≤ n
  | [], n, h, d, m => nomatch m
  | x :: xs, n, h, d, m => by
    simp only [PyData.depthAll] at h
    rcases List.mem_cons.mp m with rfl | m
    · exact Nat.le_trans (Nat.le_max_left _ _) h
    · exact depth_all (Nat.le_trans (Nat.le_max_right _ _) h) d m
theorem opN_sort : OpN K cl (rSortD K) sortN := by
  intro Z H xs d vs fp Q s h e q
  unfold sortN at e
  split at e
  · rename_i o xs
    split at e
    · rename_i c
      cases e
      obtain ⟨c, c3⟩ := band c
      obtain ⟨c1, c2⟩ := band c
      obtain ⟨c2, c4⟩ := band c2
      obtain ⟨v, rfl, hv⟩ := h.one'
      obtain ⟨a, ys, f, rfl, hq, hd, _⟩ := hv.lstH s
      have hd := Dens.fz0 c1 hd
      refine ⟨a, ys, D.pys xs, rfl, .inl (.inl hq), Dens.dp s xs DEP ys [] c2 hd, c4, depth_all (okds_lay xs DEP c2).2, fun p hp => ?_⟩
      have el : ys.length = xs.length := hd.length
      have em : ((ys.zip xs).mergeSort (fun p q => leB p.2 q.2)).map (fun p => (p.1, p.2.py)) = (ys.zip (D.pys xs)).mergeSort (PySem.W.dataLe false fun p : V × PyData => p.2) := by
        rw [← zip_py xs ys el]
        exact List.map_mergeSort fun a _ b _ => rfl
      have e1 : ((ys.zip (D.pys xs)).mergeSort (PySem.W.dataLe false fun p : V × PyData => p.2)).map (·.1) = ((ys.zip xs).mergeSort (fun p q => leB p.2 q.2)).map (·.1) := by
        rw [← em, List.map_map]
        rfl
      have e2 : ((ys.zip xs).mergeSort (fun p q => leB p.2 q.2)).map (·.2) = sortL xs := by
        have : ((ys.zip xs).mergeSort (fun p q => leB p.2 q.2)).map (·.2) = ((ys.zip xs).map (·.2)).mergeSort leB := List.map_mergeSort fun a _ b _ => rfl
        rw [this, List.map_snd_zip (by rw [el]; exact Nat.le_refl _)]
        rfl
      rw [e1]
      have r := dens_perm (List.mergeSort_perm (ys.zip xs) (fun p q => leB p.2 q.2)).symm (dens_zip hd)
      rw [e2] at r
      exact PostV.lst0 q s r p hp
    · cases e
  · cases e
end
end DL

namespace DL
open PySem PySem.Spec PyProof.Rows L2
section
variable {K : PySem.W.Frag} {cl : Str → Addr} {Z H Z' H' Z0 H0 Z1 H1 : Hp} {σ : L2.St} {ρ : Env} {W : WX}
/-- an owned list in an owned list in a slot, and how it is written, later too -/
theorem Sta.list2 {i j : Nat} {xs ys : List D} (s : Sta K cl Z0 H0 Z H σ ρ) (e : ρ[i]? = some (some (.lst true xs))) (e2 : xs[j]? = some (.lst true ys)) :
    ∃ (a : Addr) (vs : List V) (b : Addr) (ws : List V) (fq rest : Fp), σ[i]? = some (some (.ref a)) ∧ H a = some (.lst vs) ∧ vs.length = xs.length ∧ vs[j]? = some (.ref b) ∧ H b = some (.lst ws) ∧ Dens K cl Z H ys ws fq ∧ (b :: (fq ++ rest)).Nodup ∧
      (∀ c ∈ b :: (fq ++ rest), H c ≠ none ∧ H0 c = none ∧ Z c = none) ∧
      ∀ (Z1 H1 : Hp) (ws' : List V) (ys' : List D) (fq' : Fp), Gr Z H Z1 H1 → fq'.Nodup → (∀ c ∈ fq', c ≠ b ∧ c ∉ rest ∧ H0 c = none) → Dens K cl Z1 (upd H1 b (.lst ws')) ys' ws' fq' →
        Sta K cl Z0 H0 Z1 (upd H1 b (.lst ws')) σ (ρ.set i (some (.lst true (xs.set j (.lst true ys'))))) := by
  obtain ⟨fp, sl, nd, fr⟩ := s.e
  obtain ⟨v, f, rest0, h1, h2, h3, h4⟩ := sl.split e
  simp only [Den] at h2
  obtain ⟨a, vs, fq0, e1, ef, za, q, r⟩ := h2
  subst e1 ef
  obtain ⟨u, f2, rest1, k1, k2, k3, k4⟩ := Dens.split r e2
  simp only [Den] at k2
  obtain ⟨b, ws, fq, e3, ef2, zb, qb, rb⟩ := k2
  subst e3 ef2
  have pm : fp.Perm (b :: (fq ++ (a :: (rest1 ++ rest0)))) := by
    refine h3.trans ?_
    show (a :: (fq0 ++ rest0)).Perm _
    refine (List.Perm.cons a (List.Perm.append_right rest0 k3)).trans ?_
    show (a :: (b :: (fq ++ rest1) ++ rest0)).Perm _
    have p1 : (a :: (b :: (fq ++ rest1) ++ rest0)).Perm (b :: (a :: (fq ++ rest1) ++ rest0)) := List.Perm.swap b a _
    refine p1.trans (List.Perm.cons b ?_)
    show (a :: (fq ++ rest1 ++ rest0)).Perm _
    rw [List.append_assoc]
    exact List.perm_middle.symm
  have nd2 : (b :: (fq ++ (a :: (rest1 ++ rest0)))).Nodup := pm.nodup_iff.mp nd
  have mm : ∀ c ∈ b :: (fq ++ (a :: (rest1 ++ rest0))), c ∈ fp := fun c hc => pm.symm.mem_iff.mp hc
  have ow : ∀ c ∈ b :: (fq ++ (a :: (rest1 ++ rest0))), Z c = none ∧ ∃ xs, H c = some (.lst xs) := fun c hc => Slots.own sl c (mm c hc)
  have mrest : ∀ c ∈ a :: (rest1 ++ rest0), c ∈ b :: (fq ++ (a :: (rest1 ++ rest0))) := fun c hc => List.mem_cons_of_mem _ (List.mem_append_right _ hc)
  refine ⟨a, vs, b, ws, fq, a :: (rest1 ++ rest0), h1, q, r.length, k1, qb, rb, nd2, fun c hc => ?_, fun Z1 H1 ws' ys' fq' g nf dj dn => ?_⟩
  · obtain ⟨z, xs, q'⟩ := ow c hc
    exact ⟨by rw [q']; exact (fun z => nomatch z), fr c (mm c hc), z⟩
  · have ndb := List.nodup_cons.mp nd2
    have s1 := s.gr g
    have nb : ∀ c ∈ a :: (rest1 ++ rest0), c ≠ b := fun c hc z => ndb.1 (z ▸ List.mem_append_right _ hc)
    have hr : ∀ c ∈ a :: (rest1 ++ rest0), Z1 c = none ∧ upd H1 b (.lst ws') c = H c := fun c hc => by
      obtain ⟨z, q'⟩ := ow c (mrest c hc)
      obtain ⟨b1, b2⟩ := g.own z q'
      exact ⟨b1, by rw [upd_ne (nb c hc)]; exact b2⟩
    have zb1 := (g.own zb ⟨ws, qb⟩).1
    obtain ⟨fq1, m1, m2⟩ := k4 Z1 (upd H1 b (.lst ws')) (.lst true ys') (.ref b) (b :: fq') g.z (fun c hc => hr c (List.mem_cons_of_mem _ (List.mem_append_left _ hc))) (by
      simp only [Den]
      exact ⟨b, ws', fq', rfl, rfl, zb1, upd_same, dn⟩)
    have evs : vs.set j (.ref b) = vs := by
      apply List.ext_getElem?
      intro n
      by_cases c : j = n
      · subst c
        by_cases c2 : j < vs.length
        · rw [List.getElem?_set_self c2, k1]
        · rw [List.getElem?_eq_none (by omega)] at k1; cases k1
      · rw [List.getElem?_set_ne c]
    rw [evs] at m1
    have ha := hr a List.mem_cons_self
    obtain ⟨fp', n1, n2⟩ := h4 Z1 (upd H1 b (.lst ws')) (.lst true (xs.set j (.lst true ys'))) (a :: fq1) g.z (fun c hc => hr c (List.mem_cons_of_mem _ (List.mem_append_right _ hc))) (by
      simp only [Den]
      exact ⟨a, vs, fq1, rfl, rfl, ha.1, ha.2.trans q, m1⟩)
    have pm' : fp'.Perm (b :: (fq' ++ (a :: (rest1 ++ rest0)))) := by
      refine n2.trans ?_
      show (a :: (fq1 ++ rest0)).Perm _
      refine (List.Perm.cons a (List.Perm.append_right rest0 m2)).trans ?_
      show (a :: (b :: (fq' ++ rest1) ++ rest0)).Perm _
      have p1 : (a :: (b :: (fq' ++ rest1) ++ rest0)).Perm (b :: (a :: (fq' ++ rest1) ++ rest0)) := List.Perm.swap b a _
      refine p1.trans (List.Perm.cons b ?_)
      show (a :: (fq' ++ rest1 ++ rest0)).Perm _
      rw [List.append_assoc]
      exact List.perm_middle.symm
    refine ⟨⟨s1.g.z, s1.g.h.mut (fr b (mm b List.mem_cons_self)), fun c u e => ?_, s1.g.n⟩, fp', n1, ?_, fun c hc => ?_⟩
    · rw [upd_ne (fun z => by rw [z, zb1] at e; cases e)]
      exact s1.g.s c u e
    · refine pm'.symm.nodup_iff.mp ?_
      rw [List.nodup_cons, List.nodup_append]
      refine ⟨fun hm => ?_, nf, (List.nodup_append.mp ndb.2).2.1, fun x hx y hy c => (dj x hx).2.1 (c ▸ hy)⟩
      rcases List.mem_append.mp hm with z | z
      · exact (dj b z).1 rfl
      · exact ndb.1 (List.mem_append_right _ z)
    · rcases List.mem_cons.mp (pm'.mem_iff.mp hc) with z | z
      · subst z; exact fr c (mm c List.mem_cons_self)
      · rcases List.mem_append.mp z with z | z
        · exact (dj c z).2.2
        · exact fr c (mm c (mrest c z))
/-- an inner list moves out, into a slot -/
theorem Sta.move {i j m : Nat} {xs ys : List D} (s : Sta K cl Z0 H0 Z H σ ρ) (e : ρ[i]? = some (some (.lst true xs))) (e2 : xs[j]? = some (.lst true ys)) (hm : m < ρ.length) :
    ∃ (a : Addr) (vs : List V) (b : Addr), σ[i]? = some (some (.ref a)) ∧ H a = some (.lst vs) ∧ vs.length = xs.length ∧ vs[j]? = some (.ref b) ∧
      Sta K cl Z0 H0 Z H (σ.set m (some (.ref b))) ((ρ.set i (some (.lst true (xs.set j (.adr 0))))).set m (some (.lst true ys))) := by
  obtain ⟨fp, sl, nd, fr⟩ := s.e
  obtain ⟨v, f, rest0, h1, h2, h3, h4⟩ := sl.split e
  simp only [Den] at h2
  obtain ⟨a, vs, fq0, e1, ef, za, q, r⟩ := h2
  subst e1 ef
  obtain ⟨u, f2, rest1, k1, k2, k3, k4⟩ := Dens.split r e2
  have k2' := k2
  simp only [Den] at k2
  obtain ⟨b, ws, fq, e3, ef2, zb, qb, rb⟩ := k2
  subst e3 ef2
  have pm : fp.Perm ((b :: fq) ++ (a :: (rest1 ++ rest0))) := by
    refine h3.trans ?_
    show (a :: (fq0 ++ rest0)).Perm _
    refine (List.Perm.cons a (List.Perm.append_right rest0 k3)).trans ?_
    show (a :: ((b :: fq) ++ rest1 ++ rest0)).Perm _
    rw [List.append_assoc]
    exact List.perm_middle.symm
  have nd2 : ((b :: fq) ++ (a :: (rest1 ++ rest0))).Nodup := pm.nodup_iff.mp nd
  have own : ∀ c ∈ fp, Z c = none ∧ H c = H c := fun c hc => ⟨(Slots.own sl c hc).1, rfl⟩
  have inr : ∀ c ∈ a :: (rest1 ++ rest0), c ∈ fp := fun c hc => pm.symm.mem_iff.mp (List.mem_append_right _ hc)
  obtain ⟨fq1, m1, m2⟩ := k4 Z H (.adr 0) (.ref b) [] (Ex.refl Z) (fun c hc => own c (inr c (List.mem_cons_of_mem _ (List.mem_append_left _ hc)))) ⟨⟨b, rfl⟩, rfl⟩
  have evs : vs.set j (.ref b) = vs := by
    apply List.ext_getElem?
    intro n
    by_cases c : j = n
    · subst c
      by_cases c2 : j < vs.length
      · rw [List.getElem?_set_self c2, k1]
      · rw [List.getElem?_eq_none (by omega)] at k1; cases k1
    · rw [List.getElem?_set_ne c]
  rw [evs] at m1
  obtain ⟨fp', n1, n2⟩ := h4 Z H (.lst true (xs.set j (.adr 0))) (a :: fq1) (Ex.refl Z) (fun c hc => own c (inr c (List.mem_cons_of_mem _ (List.mem_append_right _ hc)))) (by
    simp only [Den]
    exact ⟨a, vs, fq1, rfl, rfl, za, q, m1⟩)
  have pm' : fp'.Perm (a :: (rest1 ++ rest0)) := by
    refine n2.trans ?_
    show (a :: (fq1 ++ rest0)).Perm _
    exact List.Perm.cons a (List.Perm.append_right rest0 m2)
  have ndA := List.nodup_append.mp nd2
  obtain ⟨fp2, o1, o2, o3⟩ := Slots.set (i := m) n1 (pm'.symm.nodup_iff.mp ndA.2.1) k2' ndA.1 (fun c hc hc' => ndA.2.2 c hc c (pm'.mem_iff.mp hc') rfl) (by rw [List.length_set]; exact hm)
  refine ⟨a, vs, b, h1, q, r.length, k1, s.g, fp2, o1, o2, fun c hc => ?_⟩
  rcases o3 c hc with z | z
  · exact fr c (inr c (pm'.mem_iff.mp z))
  · exact fr c (pm.symm.mem_iff.mp (List.mem_append_left _ z))
end
section
variable {X : Cx} {W : WX} {st : Stmt} {rest : List Stmt} {a b e c : Expr} {f g : Env → Ou D} {k h : Env → Os} {p : Env → Ou Bool} {pos : Pos}
theorem atI_of {α : Type} {xs : List α} {n : Nat} {k : Int} {j : Nat} {x : α} (hn : xs.length = n) (e : ixN n k = some j) (h : xs[j]? = some x) : atI xs k = some x := by
  unfold atI
  rw [hn, e]
  exact h
theorem DS.appAt (i : Nat) {x : Str} {p1 p2 apos cpos : Pos} {ix : Expr} (hix : DB X W ix g) (he : DE X W e f) (hN : X.N[i]? = some x := by rfl) (hv : Vis X.env.scope x := by first | exact Or.inl rfl | exact Or.inr (Or.inl rfl) | exact Or.inr (Or.inr rfl)) (hd : (x == ("__debug__" : Str)) = false := by decide)
    (hcd : (x == ("__classdict__" : Str)) = false := by decide) (hp : PlainIx ix := by exact fun _ _ => rfl) (hs : swapsWith (.Call (.Attribute (.Subscript (.Name x p1) ix p2) "append" apos) [e] [] cpos) none pos.line X.env = pure false := by rfl)
    (hbase : attributeBase (.Subscript (.Name x p1) ix p2) "append" X.env (eval (.Subscript (.Name x p1) ix p2) X.env) = eval (.Subscript (.Name x p1) ix p2) X.env := by rfl)
    (hfew : ((backTo cpos (starEach [e] X.env)).all (fun x => !x.1) && (backToKw cpos (keywordEach [] X.env)).all (fun x => x.1.isSome)
      && decide ([e].length + ([] : List Keyword).length + (if ([] : List Keyword).isEmpty then 0 else 1) < 30)) = true := by rfl)
    (hline : (apos.endLine == cpos.line) = true := by rfl) (hst : starEach [e] X.env = (false, eval e X.env) :: starEach [] X.env := by rfl) (hplain : (backTo cpos (starEach [] X.env)).any (·.1) = false := by rfl) :
    DS X W (.Expr (.Call (.Attribute (.Subscript (.Name x p1) ix p2) "append" apos) [e] [] cpos) pos) (sAppAt i g f) := by
  refine ⟨fun Z0 H0 => PS.weak (ps_expr (pe_bm PySem.F.plainAttrs_list PySem.F.slot_list_append PySem.F.type_list_append mt_append (pe_ix ix_seq (pv i hN hv hd hcd) hix.run hp) (pa_cons he.run pa_nil hst) hbase hfew hline hst hplain) hs) fun E σ H hq => ?_⟩
  obtain ⟨Z, ρ, s, q⟩ := hq
  unfold sAppAt at q
  split at q
  · rename_i xs ec
    obtain ⟨l0, vs0, _, _, h1, h2, _⟩ := s.list ec
    refine ⟨.ref l0, h1, Z, ρ, s.rel, ?_⟩
    cases eg : g ρ with
    | ok kk =>
      rw [eg] at q
      intro w Z2 H2 fw g2 dw
      cases kk with
      | int k =>
        have q : PostS X.K (He.ga X.K) W Z0 H0 E (match ixN xs.length k with
          | some j => match xs[j]? with
            | some (.lst true ys) => ofU (f ρ) ρ fun d => if ys.length < LIM then .nx (ρ.set i (some (.lst true (xs.set j (.lst true (ys ++ [d])))))) else .bad
            | _ => .bad
          | none => .bad) := q
        split at q
        · rename_i j ej
          split at q
          · rename_i ys ey
            have s2 := s.gr g2
            obtain ⟨l, vs, b, ws, fq, rest, m1, m2, m3, m4, m5, m6, m7, m8, m9⟩ := s2.list2 ec ey
            have el : l = l0 := by
              rw [h1] at m1
              have := Option.some.inj (Option.some.inj m1)
              cases this; rfl
            subst el
            rw [dw.1]
            refine .inl ⟨l, vs, k, .ref b, rfl, rfl, .inl (.inl m2), atI_of m3 ej m4, .inl ⟨rfl, _, .inl (.inl m5)⟩, Z2, ρ, s2.rel, ?_⟩
            cases ef : f ρ with
            | ok y =>
              rw [ef] at q
              intro u Z1 H1 fy g1 dy ny fy'
              have q : PostS X.K (He.ga X.K) W Z0 H0 E (if ys.length < LIM then .nx (ρ.set i (some (.lst true (xs.set j (.lst true (ys ++ [y])))))) else .bad) := q
              split at q
              · rename_i c
                have d1 := g1.dens m6
                have hl : H1 b = some (.lst ws) := g1.h b _ m5
                have nl := List.nodup_cons.mp m7
                refine ⟨b, ws, u, rfl, rfl, hl, by rw [d1.length]; exact lim_lt c, ?_⟩
                have nfq : b ∉ fq := fun hm => nl.1 (List.mem_append_left _ hm)
                have nfy : b ∉ fy := fun hm => (m8 b List.mem_cons_self).1 (fy' b hm)
                refine q _ Z1 _ (m9 Z1 H1 (ws ++ [u]) (ys ++ [y]) (fq ++ fy) g1 ?_ (fun d hb => ?_) ((d1.upd nfq).append (Dens.one (dy.upd nfy))))
                · rw [List.nodup_append]
                  exact ⟨(List.nodup_append.mp nl.2).1, ny, fun a ha b hb c => (m8 a (List.mem_cons_of_mem _ (List.mem_append_left _ ha))).1 (fy' a (c ▸ hb))⟩
                · rcases List.mem_append.mp hb with hb | hb
                  · exact ⟨fun c => nfq (c ▸ hb), fun hm => (List.nodup_append.mp nl.2).2.2 d hb d hm rfl, (m8 d (List.mem_cons_of_mem _ (List.mem_append_left _ hb))).2.1⟩
                  · exact ⟨fun c => nfy (c ▸ hb), fun hm => (m8 d (List.mem_cons_of_mem _ (List.mem_append_right _ hm))).1 (fy' d hb), s2.g.h.back (fy' d hb)⟩
              · exact q.elim
            | ex c ns xs => rw [ef] at q; exact fun dc Z' H' g1 x => q dc σ Z' H' (s2.gr g1) x
            | bad => rw [ef] at q; exact q
          · exact q.elim
        · exact q.elim
      | _ => exact q.elim
    | ex c ns xs => rw [eg] at q; exact fun dc Z' H' g1 x => q dc σ Z' H' (s.gr g1) x
    | bad => rw [eg] at q; exact q
  · exact q.elim
/-- m = x[g], the inner list moved out -/
def sMove (m i : Nat) (g : Env → Ou D) : Env → Os := fun ρ => match ρ[i]? with
  | some (some (.lst true xs)) => ofU (g ρ) ρ fun k => match k with
    | .int k => match ixN xs.length k with
      | some j => match xs[j]? with
        | some (.lst true ys) => if m < ρ.length then .nx ((ρ.set i (some (.lst true (xs.set j (.adr 0))))).set m (some (.lst true ys))) else .bad
        | _ => .bad
      | none => .bad
    | _ => .bad
  | _ => .bad
theorem DS.move (m i : Nat) {x y : Str} {p1 p2 pos' : Pos} {ix : Expr} (hix : DB X W ix g) (nd : X.N.Nodup) (hi : X.N[m]? = some y := by rfl) (hx : Loc X.env.scope y := by first | exact Or.inl rfl | exact Or.inr rfl)
    (hN : X.N[i]? = some x := by rfl) (hv : Vis X.env.scope x := by first | exact Or.inl rfl | exact Or.inr (Or.inl rfl) | exact Or.inr (Or.inr rfl)) (hd : (x == ("__debug__" : Str)) = false := by decide)
    (hcd : (x == ("__classdict__" : Str)) = false := by decide) (hp : PlainIx ix := by exact fun _ _ => rfl) (hs : swapsWith (.Subscript (.Name x p1) ix p2) (some (.Name y pos')) pos.line X.env = pure false := by rfl)
    (hf : X.fn y = true ∨ X.env.scope.names.lookup y = some .local := by first | exact .inl rfl | exact .inr rfl | assumption) :
    DS X W (.Assign [.Name y pos'] (.Subscript (.Name x p1) ix p2) pos) (sMove m i g) := by
  refine ⟨fun Z0 H0 => PS.weak (ps_set (i := m) nd hi hx (pe_ix ix_seq (pv i hN hv hd hcd) hix.run hp) hs hf) fun E σ H hq => ?_⟩
  obtain ⟨Z, ρ, s, q⟩ := hq
  unfold sMove at q
  split at q
  · rename_i xs ec
    obtain ⟨l0, vs0, _, _, h1, h2, _⟩ := s.list ec
    refine ⟨.ref l0, h1, Z, ρ, s.rel, ?_⟩
    cases eg : g ρ with
    | ok kk =>
      rw [eg] at q
      intro w Z2 H2 fw g2 dw
      cases kk with
      | int k =>
        have q : PostS X.K (He.ga X.K) W Z0 H0 E (match ixN xs.length k with
          | some j => match xs[j]? with
            | some (.lst true ys) => if m < ρ.length then .nx ((ρ.set i (some (.lst true (xs.set j (.adr 0))))).set m (some (.lst true ys))) else .bad
            | _ => .bad
          | none => .bad) := q
        split at q
        · rename_i j ej
          split at q
          · rename_i ys ey
            split at q
            · rename_i c
              obtain ⟨l, vs, b, m1, m2, m3, m4, m5⟩ := (s.gr g2).move ec ey c
              have el : l = l0 := by
                rw [h1] at m1
                have := Option.some.inj (Option.some.inj m1)
                cases this; rfl
              subst el
              rw [dw.1]
              exact .inl ⟨l, vs, k, .ref b, rfl, rfl, .inl (.inl m2), atI_of m3 ej m4, q _ Z2 H2 m5⟩
            · exact q.elim
          · exact q.elim
        · exact q.elim
      | _ => exact q.elim
    | ex c ns xs => rw [eg] at q; exact fun dc Z' H' g1 x => q dc σ Z' H' (s.gr g1) x
    | bad => rw [eg] at q; exact q
  · exact q.elim
end
end DL

namespace DL
open PySem hiding Env
open PySem.Spec PyProof.Rows L2
/-! ### what the words compute: one row each, for simp -/
section
variable (ρ : Env) (f g : Env → Ou D) (p q : Env → Ou Bool) (s t : Env → Os) (fs : Env → Ou (List D)) (i : Nat)
@[simp] theorem x_dC (d : D) : dC d ρ = .ok d := (rfl)
@[simp] theorem x_dVar0 (d : D) : dVar 0 (some d :: ρ) = .ok d := (rfl)
@[simp] theorem x_dVarS (o : Option D) (n : Nat) : dVar (n + 1) (o :: ρ) = dVar n ρ := (rfl)
theorem lit_succ (n : Nat) (o : Option D) : dVar (OfNat.ofNat (n + 1)) (o :: ρ) = dVar n ρ := (rfl)
@[simp] theorem x_dVar1 (o : Option D) : dVar 1 (o :: ρ) = dVar 0 ρ := (rfl)
@[simp] theorem x_dVar2 (o : Option D) : dVar 2 (o :: ρ) = dVar 1 ρ := (rfl)
@[simp] theorem x_dVar3 (o : Option D) : dVar 3 (o :: ρ) = dVar 2 ρ := (rfl)
@[simp] theorem x_dVar4 (o : Option D) : dVar 4 (o :: ρ) = dVar 3 ρ := (rfl)
@[simp] theorem x_dVar5 (o : Option D) : dVar 5 (o :: ρ) = dVar 4 ρ := (rfl)
@[simp] theorem x_dVar6 (o : Option D) : dVar 6 (o :: ρ) = dVar 5 ρ := (rfl)
@[simp] theorem x_dVar7 (o : Option D) : dVar 7 (o :: ρ) = dVar 6 ρ := (rfl)
@[simp] theorem x_dVar8 (o : Option D) : dVar 8 (o :: ρ) = dVar 7 ρ := (rfl)
@[simp] theorem x_dVar9 (o : Option D) : dVar 9 (o :: ρ) = dVar 8 ρ := (rfl)
@[simp] theorem x_dVar10 (o : Option D) : dVar 10 (o :: ρ) = dVar 9 ρ := (rfl)
@[simp] theorem x_dVar11 (o : Option D) : dVar 11 (o :: ρ) = dVar 10 ρ := (rfl)
@[simp] theorem x_dVar12 (o : Option D) : dVar 12 (o :: ρ) = dVar 11 ρ := (rfl)
@[simp] theorem x_dVar13 (o : Option D) : dVar 13 (o :: ρ) = dVar 12 ρ := (rfl)
@[simp] theorem x_dVar14 (o : Option D) : dVar 14 (o :: ρ) = dVar 13 ρ := (rfl)
@[simp] theorem x_dVar15 (o : Option D) : dVar 15 (o :: ρ) = dVar 14 ρ := (rfl)
@[simp] theorem x_dVar16 (o : Option D) : dVar 16 (o :: ρ) = dVar 15 ρ := (rfl)
@[simp] theorem x_dVar17 (o : Option D) : dVar 17 (o :: ρ) = dVar 16 ρ := (rfl)
@[simp] theorem x_dVar18 (o : Option D) : dVar 18 (o :: ρ) = dVar 17 ρ := (rfl)
@[simp] theorem x_dVar19 (o : Option D) : dVar 19 (o :: ρ) = dVar 18 ρ := (rfl)
@[simp] theorem x_dVar20 (o : Option D) : dVar 20 (o :: ρ) = dVar 19 ρ := (rfl)
@[simp] theorem x_dVar21 (o : Option D) : dVar 21 (o :: ρ) = dVar 20 ρ := (rfl)
@[simp] theorem x_dVar22 (o : Option D) : dVar 22 (o :: ρ) = dVar 21 ρ := (rfl)
@[simp] theorem x_dVar23 (o : Option D) : dVar 23 (o :: ρ) = dVar 22 ρ := (rfl)
@[simp] theorem x_dVar24 (o : Option D) : dVar 24 (o :: ρ) = dVar 23 ρ := (rfl)
@[simp] theorem x_dVar25 (o : Option D) : dVar 25 (o :: ρ) = dVar 24 ρ := (rfl)
@[simp] theorem x_dVar26 (o : Option D) : dVar 26 (o :: ρ) = dVar 25 ρ := (rfl)
@[simp] theorem x_dVar27 (o : Option D) : dVar 27 (o :: ρ) = dVar 26 ρ := (rfl)
@[simp] theorem x_dVar28 (o : Option D) : dVar 28 (o :: ρ) = dVar 27 ρ := (rfl)
@[simp] theorem x_dVar29 (o : Option D) : dVar 29 (o :: ρ) = dVar 28 ρ := (rfl)
@[simp] theorem x_dVar30 (o : Option D) : dVar 30 (o :: ρ) = dVar 29 ρ := (rfl)
@[simp] theorem x_dVar31 (o : Option D) : dVar 31 (o :: ρ) = dVar 30 ρ := (rfl)
@[simp] theorem x_dVar32 (o : Option D) : dVar 32 (o :: ρ) = dVar 31 ρ := (rfl)
@[simp] theorem x_dVar33 (o : Option D) : dVar 33 (o :: ρ) = dVar 32 ρ := (rfl)
@[simp] theorem x_dVar34 (o : Option D) : dVar 34 (o :: ρ) = dVar 33 ρ := (rfl)
@[simp] theorem x_dVar35 (o : Option D) : dVar 35 (o :: ρ) = dVar 34 ρ := (rfl)
@[simp] theorem x_dVar36 (o : Option D) : dVar 36 (o :: ρ) = dVar 35 ρ := (rfl)
@[simp] theorem x_dVar37 (o : Option D) : dVar 37 (o :: ρ) = dVar 36 ρ := (rfl)
@[simp] theorem x_dVar38 (o : Option D) : dVar 38 (o :: ρ) = dVar 37 ρ := (rfl)
@[simp] theorem x_dVar39 (o : Option D) : dVar 39 (o :: ρ) = dVar 38 ρ := (rfl)
@[simp] theorem x_dVar40 (o : Option D) : dVar 40 (o :: ρ) = dVar 39 ρ := (rfl)
@[simp] theorem x_dVar41 (o : Option D) : dVar 41 (o :: ρ) = dVar 40 ρ := (rfl)
@[simp] theorem x_dVar42 (o : Option D) : dVar 42 (o :: ρ) = dVar 41 ρ := (rfl)
@[simp] theorem x_dVar43 (o : Option D) : dVar 43 (o :: ρ) = dVar 42 ρ := (rfl)
@[simp] theorem x_dVar44 (o : Option D) : dVar 44 (o :: ρ) = dVar 43 ρ := (rfl)
@[simp] theorem x_dVar45 (o : Option D) : dVar 45 (o :: ρ) = dVar 44 ρ := (rfl)
@[simp] theorem x_dVar46 (o : Option D) : dVar 46 (o :: ρ) = dVar 45 ρ := (rfl)
@[simp] theorem x_dVar47 (o : Option D) : dVar 47 (o :: ρ) = dVar 46 ρ := (rfl)
@[simp] theorem x_dFz : dFz f ρ = (f ρ >>= fun d => if d.fz then .ok d else .bad) := (rfl)
@[simp] theorem x_d1 (op : D → Option D) : d1 op f ρ = (f ρ >>= fun x => ofO (op x)) := (rfl)
@[simp] theorem x_d2 (op : D → D → Option D) : d2 op f g ρ = (f ρ >>= fun x => g ρ >>= fun y => ofO (op x y)) := (rfl)
@[simp] theorem x_b2 (op : D → D → Option Bool) : b2 op f g ρ = (f ρ >>= fun x => g ρ >>= fun y => ofO (op x y)) := (rfl)
@[simp] theorem x_dN (op : List D → Option D) : dN op fs ρ = (fs ρ >>= fun xs => ofO (op xs)) := (rfl)
@[simp] theorem x_dBl : dBl p ρ = (p ρ >>= fun b => .ok (.bl b)) := (rfl)
@[simp] theorem x_aNil : aNil ρ = .ok [] := (rfl)
@[simp] theorem x_aCons : aCons f fs ρ = (f ρ >>= fun x => fs ρ >>= fun xs => .ok (x :: xs)) := (rfl)
@[simp] theorem x_dTup : dTup fs ρ = (fs ρ >>= fun xs => if xs.length ≤ LIM then .ok (.tup xs) else .bad) := (rfl)
@[simp] theorem x_dLst : dLst fs ρ = (fs ρ >>= fun xs => if xs.length ≤ LIM then .ok (.lst true xs) else .bad) := (rfl)
@[simp] theorem x_bTru : bTru f ρ = (f ρ >>= fun d => ofO (tru d)) := (rfl)
@[simp] theorem x_bNot : bNot p ρ = (p ρ >>= fun b => .ok (!b)) := (rfl)
@[simp] theorem x_bAnd : bAnd p q ρ = (p ρ >>= fun b => if b then q ρ else .ok false) := (rfl)
@[simp] theorem x_bOr : bOr p q ρ = (p ρ >>= fun b => if b then .ok true else q ρ) := (rfl)
@[simp] theorem x_dAnd : dAnd f g ρ = (f ρ >>= fun d => ofO (tru d) >>= fun b => if b then g ρ else .ok d) := (rfl)
@[simp] theorem x_dOr : dOr f g ρ = (f ρ >>= fun d => ofO (tru d) >>= fun b => if b then .ok d else g ρ) := (rfl)
@[simp] theorem x_dNot : dNot f ρ = (f ρ >>= fun d => ofO (tru d) >>= fun b => .ok (.bl (!b))) := (rfl)
@[simp] theorem x_dIf : dIf p f g ρ = (p ρ >>= fun b => if b then f ρ else g ρ) := (rfl)
@[simp] theorem x_dCall (F : List D → Ou D) : dCall F fs ρ = (fs ρ >>= callR F) := (rfl)
@[simp] theorem x_dIsi (b : BT) : dIsi b f ρ = (f ρ >>= fun d => ofO ((isiD b d).map .bl)) := (rfl)
@[simp] theorem x_pNone : pNone ρ = .ok none := (rfl)
@[simp] theorem x_pSome : pSome f ρ = (f ρ >>= fun d => match d with
  | .int i => .ok (some i)
  | _ => .bad) := (rfl)
@[simp] theorem x_dSl (lo hi : Env → Ou (Option Int)) : dSl f lo hi ρ = (f ρ >>= fun d => lo ρ >>= fun l => hi ρ >>= fun h => ofO (slD d l h)) := (rfl)
@[simp] theorem x_iSeq : iSeq f ρ = (f ρ >>= seqOf) := (rfl)
@[simp] theorem x_iSeqB : iSeqB f ρ = (f ρ >>= seqOfB) := (rfl)
@[simp] theorem x_iRng1 : DL.iRng1 fs ρ = (fs ρ >>= fun ds => ofO (rng1Of ds)) := (rfl)
@[simp] theorem x_iRng2 : DL.iRng2 fs ρ = (fs ρ >>= fun ds => ofO (rng2Of ds)) := (rfl)
@[simp] theorem x_bYes : bYes ρ = .ok true := (rfl)
@[simp] theorem x_dLc (fi : Env → Ou (List D)) (j : Nat) (vs : List Nat) (tt : Env → Ou Bool) (te : Env → Ou D) : dLc fi j vs tt te ρ = (fi ρ >>= fun ds => ofO ((compG j tt te (wipeE ρ vs) ds []).map (D.lst true))) := (rfl)
@[simp] theorem x_sNil : sNil ρ = .nx ρ := (rfl)
@[simp] theorem x_sBrk : sBrk ρ = .bk ρ := (rfl)
@[simp] theorem x_sCont : sCont ρ = .ct ρ := (rfl)
@[simp] theorem x_sSeq : sSeq s t ρ = andThen (s ρ) t := (rfl)
@[simp] theorem x_sDrop : sDrop f ρ = ofU (f ρ) ρ fun _ => .nx ρ := (rfl)
@[simp] theorem x_sRet : sRet f ρ = ofU (f ρ) ρ fun d => .rt d := (rfl)
@[simp] theorem x_sRetV (d : D) (h : ρ[i]? = some (some d)) : sRetV i ρ = .rt d := by unfold sRetV; rw [h]
@[simp] theorem x_sIf : sIf p s t ρ = ofU (p ρ) ρ fun b => if b then s ρ else t ρ := (rfl)
@[simp] theorem x_sSet : sSet i f ρ = ofU (f ρ) ρ fun d => if i < ρ.length then .nx (ρ.set i (some d)) else .bad := (rfl)
@[simp] theorem x_sFrz (d : D) (h : ρ[i]? = some (some d)) : sFrz i s ρ = s (ρ.set i (some d.frz)) := by unfold sFrz; rw [h]
@[simp] theorem x_sApp (xs : List D) (h : ρ[i]? = some (some (.lst true xs))) : sApp i f ρ = ofU (f ρ) ρ fun d => if xs.length < LIM then .nx (ρ.set i (some (.lst true (xs ++ [d])))) else .bad := by unfold sApp; rw [h]
@[simp] theorem x_sExt (xs : List D) (h : ρ[i]? = some (some (.lst true xs))) : sExt i f ρ = ofU (f ρ) ρ fun d => match d with
    | .lst _ ys => if D.fzs ys && decide (xs.length + ys.length ≤ LIM) then .nx (ρ.set i (some (.lst true (xs ++ ys)))) else .bad
    | _ => .bad := by unfold sExt; rw [h] <;> rfl
@[simp] theorem x_sAug (op : D → D → Option D) (x : D) (h : ρ[i]? = some (some x)) : sAug i op f ρ = ofU (f ρ) ρ fun y => match op x y with
    | some d => .nx (ρ.set i (some d))
    | none => .bad := by unfold sAug; rw [h] <;> rfl
@[simp] theorem x_sAppAt (g : Env → Ou D) (xs : List D) (h : ρ[i]? = some (some (.lst true xs))) : sAppAt i g f ρ = ofU (g ρ) ρ fun k => match k with
    | .int k => match ixN xs.length k with
      | some j => match xs[j]? with
        | some (.lst true ys) => ofU (f ρ) ρ fun d => if ys.length < LIM then .nx (ρ.set i (some (.lst true (xs.set j (.lst true (ys ++ [d])))))) else .bad
        | _ => .bad
      | none => .bad
    | _ => .bad := by unfold sAppAt; rw [h] <;> rfl
@[simp] theorem x_sMove (m : Nat) (g : Env → Ou D) (xs : List D) (h : ρ[i]? = some (some (.lst true xs))) : sMove m i g ρ = ofU (g ρ) ρ fun k => match k with
    | .int k => match ixN xs.length k with
      | some j => match xs[j]? with
        | some (.lst true ys) => if m < ρ.length then .nx ((ρ.set i (some (.lst true (xs.set j (.adr 0))))).set m (some (.lst true ys))) else .bad
        | _ => .bad
      | none => .bad
    | _ => .bad := by unfold sMove; rw [h] <;> rfl
@[simp] theorem x_sFor (fi : Env → Ou (List D)) (tg : D → Env → Option Env) (body : Env → Os) : sFor fi tg body ρ = ofU (fi ρ) ρ fun ds => loopS tg body ds ρ := (rfl)
end
@[simp] theorem x_ofO_some {α : Type} (a : α) : ofO (some a) = .ok a := (rfl)
@[simp] theorem x_ofO_none {α : Type} : (ofO (none : Option α)) = .bad := (rfl)
@[simp] theorem x_endF_nx (ρ : Env) : endF (.nx ρ) = .ok .non := (rfl)
@[simp] theorem x_endF_rt (d : D) : endF (.rt d) = .ok d := (rfl)
@[simp] theorem x_endF_ex (c : Str) (ns : List Str) (xs : List D) (ρ : Env) : endF (.ex c ns xs ρ) = .ex c ns xs := (rfl)
@[simp] theorem x_add (i j : Int) : addD (.int i) (.int j) = some (.int (i + j)) := (rfl)
@[simp] theorem x_sub (i j : Int) : subD (.int i) (.int j) = some (.int (i - j)) := (rfl)
@[simp] theorem x_neg (i : Int) : negD (.int i) = some (.int (-i)) := (rfl)
@[simp] theorem x_lt (i j : Int) : ltD (.int i) (.int j) = some (decide (i < j)) := (rfl)
@[simp] theorem x_le (i j : Int) : leD (.int i) (.int j) = some (decide (i ≤ j)) := (rfl)
@[simp] theorem x_gt (i j : Int) : gtD (.int i) (.int j) = some (decide (j < i)) := (rfl)
@[simp] theorem x_ge (i j : Int) : geD (.int i) (.int j) = some (decide (j ≤ i)) := (rfl)
@[simp] theorem x_eqI (i j : Int) : eqD (.int i) (.int j) = some (decide (i = j)) := by
  show some _ = some _
  congr 1
@[simp] theorem x_neI (i j : Int) : neD (.int i) (.int j) = some (!decide (i = j)) := by
  show some _ = some _
  congr 1
@[simp] theorem x_absN (i : Int) : absN [.int i] = some (.int (if i < 0 then -i else i)) := (rfl)
@[simp] theorem x_intN (i : Int) : intN [.int i] = some (.int i) := (rfl)
@[simp] theorem x_intB (b : Bool) : intN [.bl b] = some (.int (if b then 1 else 0)) := (rfl)
@[simp] theorem x_max2 (i j : Int) : max2N [.int i, .int j] = some (.int (max i j)) := by
  show some (D.int (if j > i then j else i)) = _
  congr 2
  omega
@[simp] theorem x_min2 (i j : Int) : min2N [.int i, .int j] = some (.int (min i j)) := by
  show some (D.int (if j < i then j else i)) = _
  congr 2
  omega
@[simp] theorem x_lenL (o : Bool) (xs : List D) : lenN [.lst o xs] = some (.int xs.length) := (rfl)
@[simp] theorem x_lenT (xs : List D) : lenN [.tup xs] = some (.int xs.length) := (rfl)
@[simp] theorem x_lenS (ns : List Int) : lenN [.scr ns] = some (.int ns.length) := (rfl)
@[simp] theorem x_truB (b : Bool) : tru (.bl b) = some b := (rfl)
@[simp] theorem x_tgN (i : Nat) (d : D) (ρ : Env) : tgN i d ρ = if i < ρ.length then some (ρ.set i (some d)) else none := (rfl)
@[simp] theorem x_fzI (i : Int) : (D.int i).fz = true := (rfl)
@[simp] theorem x_fzB (b : Bool) : (D.bl b).fz = true := (rfl)
@[simp] theorem x_fzS (x : Str) : (D.str x).fz = true := (rfl)
@[simp] theorem x_fzN : D.non.fz = true := (rfl)
theorem x_mod {i j : Int} (h : 0 < j) : modD (.int i) (.int j) = some (.int (i % j)) := if_pos h
theorem x_fdiv {i j : Int} (h : 0 < j) (h2 : j < 1000000000000000000000000000000) : fdivD (.int i) (.int j) = some (.int (i / j)) := by
  show (if divOk j = true then _ else _) = _
  rw [if_pos]
  exact decide_eq_true ⟨h, h2⟩
def B64 (i : Int) : Prop := -18446744073709551616 < i ∧ i < 18446744073709551616
theorem x_mulL {i j : Int} (h : B64 i) : mulD (.int i) (.int j) = some (.int (i * j)) := by
  show (if mulOk i j = true then _ else _) = _
  rw [if_pos]
  exact decide_eq_true (.inl h)
theorem x_mulR {i j : Int} (h : B64 j) : mulD (.int i) (.int j) = some (.int (i * j)) := by
  show (if mulOk i j = true then _ else _) = _
  rw [if_pos]
  exact decide_eq_true (.inr h)
theorem x_pow {i j : Int} (h : 0 ≤ j ∧ j ≤ 1000000 ∧ i.natAbs < 18446744073709551616) : powD (.int i) (.int j) = some (.int (i ^ j.toNat)) := by
  show (if _ then _ else _) = _
  rw [if_pos (decide_eq_true h)]
@[simp] theorem p_9 : powD (.int 10) (.int 9) = some (.int 1000000000) := by rw [x_pow (by decide)]; rfl
@[simp] theorem p_15 : powD (.int 10) (.int 15) = some (.int 1000000000000000) := by rw [x_pow (by decide)]; rfl
@[simp] theorem p_18 : powD (.int 10) (.int 18) = some (.int 1000000000000000000) := by rw [x_pow (by decide)]; rfl
@[simp] theorem p_20 : powD (.int 10) (.int 20) = some (.int 100000000000000000000) := by rw [x_pow (by decide)]; rfl
theorem x_ix {i : Int} {xs : List D} {o : Bool} (h0 : 0 ≤ i) (h : i < xs.length) : ixD (.lst o xs) (.int i) = xs[i.toNat]? := by
  show (ixN xs.length i).bind _ = _
  unfold ixN
  rw [if_pos h0, if_pos h]
  rfl
/-- the n-th number, 0 behind the end -/
def at0 (ns : List Int) (i : Nat) : Int := ns.getD i 0
theorem x_ixS {i : Int} {ns : List Int} (h0 : 0 ≤ i) (h : i < ns.length) : ixD (.scr ns) (.int i) = some (.int (at0 ns i.toNat)) := by
  show ((ixN ns.length i).bind _).map D.int = _
  unfold ixN
  rw [if_pos h0, if_pos h]
  have e : i.toNat < ns.length := by omega
  simp [at0, List.getD, List.getElem?_eq_getElem e]
/-- the ints of a list -/
def I (ns : List Int) : List D := ns.map D.int
@[simp] theorem I_len (ns : List Int) : (I ns).length = ns.length := by simp [I]
@[simp] theorem I_fzs (ns : List Int) : D.fzs (I ns) = true := by
  induction ns with
  | nil => rfl
  | cons n ns ih => exact ih
@[simp] theorem I_frzs (ns : List Int) : D.frzs (I ns) = I ns := frzs_fzs _ (I_fzs ns)
@[simp] theorem I_app (a b : List Int) : I a ++ I b = I (a ++ b) := by simp [I]
theorem x_ixI {i : Int} {ns : List Int} {o : Bool} (h0 : 0 ≤ i) (h : i < ns.length) : ixD (.lst o (I ns)) (.int i) = some (.int (at0 ns i.toNat)) := by
  rw [x_ix h0 (by simpa using h)]
  have e : i.toNat < ns.length := by omega
  simp [at0, I, List.getD, List.getElem?_eq_getElem e]
@[simp] theorem x_callR {F : List D → Ou D} {ds : List D} {d : D} (h : F (D.frzs ds) = .ok d) (hf : (D.fzs ds || d.cln) = true) : callR F ds = .ok d := by
  unfold callR
  rw [h]
  exact if_pos hf
theorem callR_ex {F : List D → Ou D} {ds : List D} {c : Str} {ns : List Str} {xs : List D} (h : F (D.frzs ds) = .ex c ns xs) (hf : (D.fzs ds || D.clns xs) = true) : callR F ds = .ex c ns xs := by
  unfold callR
  rw [h]
  exact if_pos hf
/-! ### loops -/
theorem loop_nil (tg : D → Env → Option Env) (body : Env → Os) (ρ : Env) : loopS tg body [] ρ = .nx ρ := (rfl)
theorem loop_nx {tg : D → Env → Option Env} {body : Env → Os} {d : D} {ds : List D} {ρ ρ1 ρ2 : Env} (h1 : tg d ρ = some ρ1) (h2 : body ρ1 = .nx ρ2) : loopS tg body (d :: ds) ρ = loopS tg body ds ρ2 := by
  simp only [loopS, h1, h2]
theorem loop_ct {tg : D → Env → Option Env} {body : Env → Os} {d : D} {ds : List D} {ρ ρ1 ρ2 : Env} (h1 : tg d ρ = some ρ1) (h2 : body ρ1 = .ct ρ2) : loopS tg body (d :: ds) ρ = loopS tg body ds ρ2 := by
  simp only [loopS, h1, h2]
/-- a loop with an invariant: I n ρ at the n-th turn -/
theorem loop_inv {tg : D → Env → Option Env} {body : Env → Os} (Inv : Nat → Env → Prop) : ∀ (ds : List D) (n : Nat) (ρ : Env), Inv n ρ →
    (∀ j d ρ, ds[j]? = some d → Inv (n + j) ρ → ∃ ρ1 ρ2, tg d ρ = some ρ1 ∧ (body ρ1 = .nx ρ2 ∨ body ρ1 = .ct ρ2) ∧ Inv (n + j + 1) ρ2) → ∃ ρ', loopS tg body ds ρ = .nx ρ' ∧ Inv (n + ds.length) ρ'
  | [], n, ρ, h, k => ⟨ρ, rfl, h⟩
  | d :: ds, n, ρ, h, k => by
    obtain ⟨ρ1, ρ2, h1, h2, h3⟩ := k 0 d ρ rfl h
    obtain ⟨ρ', e, z⟩ := loop_inv Inv ds (n + 1) ρ2 h3 fun j d ρ e i => by
      have e2 : n + 1 + j = n + (j + 1) := by omega
      rw [e2] at i ⊢
      exact k (j + 1) d ρ e i
    refine ⟨ρ', ?_, ?_⟩
    · rcases h2 with h2 | h2
      · rw [loop_nx h1 h2]; exact e
      · rw [loop_ct h1 h2]; exact e
    · have e2 : n + (d :: ds).length = n + 1 + ds.length := by simp only [List.length_cons]; omega
      rw [e2]; exact z
theorem loop_inv0 {tg : D → Env → Option Env} {body : Env → Os} (Inv : Nat → Env → Prop) (ds : List D) (ρ : Env) (h : Inv 0 ρ)
    (k : ∀ j d ρ, ds[j]? = some d → Inv j ρ → ∃ ρ1 ρ2, tg d ρ = some ρ1 ∧ (body ρ1 = .nx ρ2 ∨ body ρ1 = .ct ρ2) ∧ Inv (j + 1) ρ2) : ∃ ρ', loopS tg body ds ρ = .nx ρ' ∧ Inv ds.length ρ' := by
  have := loop_inv Inv ds 0 ρ h (by simpa using k)
  simpa using this
theorem rng0_get {n j : Nat} {d : D} (h : (rng0 n)[j]? = some d) : d = .int j ∧ j < n := by
  unfold rng0 at h
  rw [List.getElem?_map] at h
  by_cases c : j < n
  · rw [List.getElem?_range c] at h
    exact ⟨(Option.some.inj h).symm, c⟩
  · rw [List.getElem?_eq_none (by simpa using c)] at h
    cases h
theorem rng0_len (n : Nat) : (rng0 n).length = n := by simp [rng0]
theorem x_rng1 {n : Int} (h0 : -1000000 < n) (h : n < 1000000) : rng1Of [.int n] = some (rng0 n.toNat) := if_pos (decide_eq_true ⟨h0, h⟩)
theorem x_rng2 {a b : Int} (h0 : -1000000 < a ∧ a < 1000000 ∧ -1000000 < b ∧ b < 1000000) : rng2Of [.int a, .int b] = some (rngL a (b - a).toNat) := if_pos (decide_eq_true h0)
end DL
namespace DL
open PySem hiding Env
open PySem.Spec PyProof.Rows L2
def callK (b : Bool) (r : Ou D) : Ou D := match r with
  | .ok d => if b || d.cln then .ok d else .bad
  | .ex c ns xs => if b || D.clns xs then .ex c ns xs else .bad
  | .bad => .bad
@[simp] theorem callR_eq (F : List D → Ou D) (ds : List D) : callR F ds = callK (D.fzs ds) (F (D.frzs ds)) := by
  unfold callR callK
  cases F (D.frzs ds) <;> rfl
@[simp] theorem callK_ok (b : Bool) (d : D) : callK b (.ok d) = if b || d.cln then .ok d else .bad := (rfl)
@[simp] theorem callK_ex (b : Bool) (c : Str) (ns : List Str) (xs : List D) : callK b (.ex c ns xs) = if b || D.clns xs then .ex c ns xs else .bad := (rfl)
@[simp] theorem fz_int (i : Int) : (D.int i).frz = .int i := (rfl)
@[simp] theorem fz_bl (i : Bool) : (D.bl i).frz = .bl i := (rfl)
@[simp] theorem fz_str (i : Str) : (D.str i).frz = .str i := (rfl)
@[simp] theorem fz_non : D.non.frz = .non := (rfl)
@[simp] theorem fz_scr (ns : List Int) : (D.scr ns).frz = .scr ns := (rfl)
@[simp] theorem fz_lstT (xs : List D) : (D.lst true xs).frz = .lst false (D.frzs xs) := (rfl)
@[simp] theorem fz_lstF (xs : List D) : (D.lst false xs).frz = .lst false xs := (rfl)
@[simp] theorem fz_tup (xs : List D) : (D.tup xs).frz = .tup (D.frzs xs) := (rfl)
@[simp] theorem frzs_nil : D.frzs [] = [] := (rfl)
@[simp] theorem frzs_cons (d : D) (ds : List D) : D.frzs (d :: ds) = d.frz :: D.frzs ds := (rfl)
@[simp] theorem fzs_nil : D.fzs [] = true := (rfl)
@[simp] theorem fzs_cons (d : D) (ds : List D) : D.fzs (d :: ds) = (d.fz && D.fzs ds) := (rfl)
@[simp] theorem fzz_tup (xs : List D) : (D.tup xs).fz = D.fzs xs := (rfl)
@[simp] theorem fzz_lst (o : Bool) (xs : List D) : (D.lst o xs).fz = !o := (rfl)
@[simp] theorem fzz_scr (ns : List Int) : (D.scr ns).fz = true := (rfl)
@[simp] theorem cln_int (i : Int) : (D.int i).cln = true := (rfl)
@[simp] theorem cln_bl (i : Bool) : (D.bl i).cln = true := (rfl)
@[simp] theorem cln_str (i : Str) : (D.str i).cln = true := (rfl)
@[simp] theorem cln_non : D.non.cln = true := (rfl)
@[simp] theorem clns_nil : D.clns [] = true := (rfl)
@[simp] theorem clns_cons (d : D) (ds : List D) : D.clns (d :: ds) = (d.cln && D.clns ds) := (rfl)
theorem lt_lim' {n : Nat} (h : n < 1000000) : n < LIM := h
theorem le_lim' {n : Nat} (h : n ≤ 1000000) : n ≤ LIM := h
@[simp] theorem lim0 : 0 ≤ LIM := Nat.zero_le _
@[simp] theorem isi_int_int (i : Int) : isiD .int (.int i) = some true := (rfl)
@[simp] theorem isi_bool_int (i : Int) : isiD .bool (.int i) = some false := (rfl)
@[simp] theorem isi_int_bl (i : Bool) : isiD .int (.bl i) = some true := (rfl)
@[simp] theorem isi_bool_bl (i : Bool) : isiD .bool (.bl i) = some true := (rfl)
@[simp] theorem isi_tup_tup (xs : List D) : isiD .tuple (.tup xs) = some true := (rfl)
@[simp] theorem isi_lst_lst (o : Bool) (xs : List D) : isiD .list (.lst o xs) = some true := (rfl)
@[simp] theorem isi_str_str (x : Str) : isiD .str (.str x) = some true := (rfl)
@[simp] theorem x_eqB (a b : Bool) : eqD (.bl a) (.bl b) = some (decide (a = b)) := by
  cases a <;> cases b <;> rfl
@[simp] theorem x_neB (a b : Bool) : neD (.bl a) (.bl b) = some (!decide (a = b)) := by
  cases a <;> cases b <;> rfl
end DL

namespace DL
open PySem hiding Env
open PySem.Spec PyProof.Rows L2
/-! ### typed data -/
mutual
theorem okd_mono : ∀ (d : D) (n m : Nat), n ≤ m → d.okd n = true → d.okd m = true
  | .non, _, _, _, _ => rfl
  | .bl _, _, _, _, _ => rfl
  | .int _, _, _, _, _ => rfl
  | .str _, _, _, _, h => h
  | .tup xs, 0, m, _, h => by
    have h' : false = true := h
    cases h'
  | .tup xs, n + 1, 0, l, h => absurd l (by omega)
  | .tup xs, n + 1, m + 1, l, h => okds_mono xs n m (by omega) h
  | .lst _ xs, 0, m, _, h => by
    have h' : false = true := h
    cases h'
  | .lst _ xs, n + 1, 0, l, h => absurd l (by omega)
  | .lst _ xs, n + 1, m + 1, l, h => okds_mono xs n m (by omega) h
  | .ins _ _ _, _, _, _, h => by
    have h' : false = true := h
    cases h'
  | .scr _, _, _, _, h => by
    have h' : false = true := h
    cases h'
  | .adr _, _, _, _, h => by
    have h' : false = true := h
    cases h'
  | .cls _, _, _, _, h => by
    have h' : false = true := h
    cases h'
theorem okds_mono : ∀ (ds : List D) (n m : Nat), n ≤ m → D.okds ds n = true → D.okds ds m = true
  | [], _, _, _, _ => rfl
  | d :: ds, n, m, l, h => by
    obtain ⟨h1, h2⟩ := band (show (d.okd n && D.okds ds n) = true from h)
    exact Bool.and_eq_true_iff.mpr ⟨okd_mono d n m l h1, okds_mono ds n m l h2⟩
end
class Dm (α : Type) where
  d : α → D
  dep : Nat
  fz : ∀ a, (d a).fz = true
  cln : ∀ a, (d a).cln = true
  okd : ∀ a, (d a).okd dep = true
  eqv : ∀ a b, PyData.eqv (d a).py (d b).py = true ↔ a = b
instance : Dm Int where
  d := D.int
  dep := 0
  fz _ := rfl
  cln _ := rfl
  okd _ := rfl
  eqv a b := by
    show (a == b) = true ↔ a = b
    exact beq_iff_eq
def Ds {α : Type} [Dm α] (xs : List α) : List D := xs.map Dm.d
section
variable {α : Type} [Dm α]
@[simp] theorem Ds_len (xs : List α) : (Ds xs).length = xs.length := by simp [Ds]
@[simp] theorem Ds_nil : Ds ([] : List α) = [] := (rfl)
theorem Ds_cons (x : α) (xs : List α) : Ds (x :: xs) = Dm.d x :: Ds xs := (rfl)
theorem Ds_app (a b : List α) : Ds a ++ Ds b = Ds (a ++ b) := by simp [Ds]
theorem Ds_snoc (a : List α) (x : α) : Ds a ++ [Dm.d x] = Ds (a ++ [x]) := by simp [Ds]
@[simp] theorem Dm_fz (a : α) : (Dm.d a).fz = true := Dm.fz a
@[simp] theorem Dm_cln (a : α) : (Dm.d a).cln = true := Dm.cln a
@[simp] theorem Dm_frz (a : α) : (Dm.d a).frz = Dm.d a := frz_fz _ (Dm.fz a)
@[simp] theorem Ds_fzs (xs : List α) : D.fzs (Ds xs) = true := by
  induction xs with
  | nil => rfl
  | cons x xs ih => exact Bool.and_eq_true_iff.mpr ⟨Dm.fz x, ih⟩
@[simp] theorem Ds_clns (xs : List α) : D.clns (Ds xs) = true := by
  induction xs with
  | nil => rfl
  | cons x xs ih => exact Bool.and_eq_true_iff.mpr ⟨Dm.cln x, ih⟩
@[simp] theorem Ds_frzs (xs : List α) : D.frzs (Ds xs) = Ds xs := frzs_fzs _ (Ds_fzs xs)
theorem Ds_okds (xs : List α) {n : Nat} (h : Dm.dep α ≤ n) : D.okds (Ds xs) n = true := by
  induction xs with
  | nil => rfl
  | cons x xs ih => exact Bool.and_eq_true_iff.mpr ⟨okd_mono _ _ _ h (Dm.okd x), ih⟩
theorem Ds_eqv : ∀ (xs ys : List α), PyData.eqvAll (D.pys (Ds xs)) (D.pys (Ds ys)) = true ↔ xs = ys
  | [], [] => by simp [Ds, D.pys, PyData.eqvAll]
  | x :: xs, [] => by simp [Ds, D.pys, PyData.eqvAll]
  | [], y :: ys => by simp [Ds, D.pys, PyData.eqvAll]
  | x :: xs, y :: ys => by
    simp only [Ds_cons, D.pys, PyData.eqvAll, Bool.and_eq_true, Dm.eqv, Ds_eqv xs ys, List.cons.injEq]
end
instance {α β : Type} [Dm α] [Dm β] : Dm (α × β) where
  d p := .tup [Dm.d p.1, Dm.d p.2]
  dep := max (Dm.dep α) (Dm.dep β) + 1
  fz p := by simp
  cln p := by
    show ((Dm.d p.1).cln && ((Dm.d p.2).cln && true)) = true
    simp
  okd p := by
    show ((Dm.d p.1).okd _ && ((Dm.d p.2).okd _ && true)) = true
    rw [okd_mono _ _ _ (Nat.le_max_left _ _) (Dm.okd p.1), okd_mono _ _ _ (Nat.le_max_right _ _) (Dm.okd p.2)]
    rfl
  eqv a b := by
    simp only [D.py, D.pys, PyData.eqv, PyData.eqvAll, Bool.and_eq_true, Dm.eqv, Prod.ext_iff, and_true]
/-- a list as a tuple -/
structure Tp (α : Type) where
  l : List α
@[ext] theorem Tp.ext' {α : Type} {a b : Tp α} (h : a.l = b.l) : a = b := by cases a; cases b; cases h; rfl
instance {α : Type} [Dm α] : Dm (Tp α) where
  d p := .tup (Ds p.l)
  dep := Dm.dep α + 1
  fz p := by simp
  cln p := Ds_clns p.l
  okd p := Ds_okds p.l (Nat.le_refl _)
  eqv a b := by
    simp only [D.py, PyData.eqv, Ds_eqv]
    exact ⟨Tp.ext', fun h => h ▸ rfl⟩
section
variable {α : Type} [Dm α]
theorem eqD_of {a b : D} {c : Bool} (h1 : a.okd DEP = true) (h2 : b.okd DEP = true) (h : PyData.eqv a.py b.py = c) : eqD a b = some c := by
  unfold eqD
  rw [h1, h2, h] <;> rfl
theorem neD_of {a b : D} {c : Bool} (h1 : a.okd DEP = true) (h2 : b.okd DEP = true) (h : PyData.eqv a.py b.py = c) : neD a b = some (!c) := by
  unfold neD
  rw [h1, h2, h] <;> rfl
theorem decide_iff {p : Bool} {q : Prop} [Decidable q] (h : p = true ↔ q) : p = decide q := by
  by_cases c : q
  · rw [decide_eq_true c]; exact h.mpr c
  · rw [decide_eq_false c]
    cases p with
    | true => exact absurd (h.mp rfl) c
    | false => rfl
theorem eqD_dm [DecidableEq α] (hd : Dm.dep α ≤ 20) (a b : α) : eqD (Dm.d a) (Dm.d b) = some (decide (a = b)) :=
  eqD_of (okd_mono _ _ _ hd (Dm.okd a)) (okd_mono _ _ _ hd (Dm.okd b)) (decide_iff (Dm.eqv a b))
theorem neD_dm [DecidableEq α] (hd : Dm.dep α ≤ 20) (a b : α) : neD (Dm.d a) (Dm.d b) = some (!decide (a = b)) :=
  neD_of (okd_mono _ _ _ hd (Dm.okd a)) (okd_mono _ _ _ hd (Dm.okd b)) (decide_iff (Dm.eqv a b))
theorem eqD_Ds [DecidableEq α] (hd : Dm.dep α ≤ 19) (o o' : Bool) (a b : List α) : eqD (.lst o (Ds a)) (.lst o' (Ds b)) = some (decide (a = b)) :=
  eqD_of (Ds_okds a hd) (Ds_okds b hd) (decide_iff (Ds_eqv a b))
theorem neD_Ds [DecidableEq α] (hd : Dm.dep α ≤ 19) (o o' : Bool) (a b : List α) : neD (.lst o (Ds a)) (.lst o' (Ds b)) = some (!decide (a = b)) :=
  neD_of (Ds_okds a hd) (Ds_okds b hd) (decide_iff (Ds_eqv a b))
theorem eqD_Ts [DecidableEq α] (hd : Dm.dep α ≤ 19) (a b : List α) : eqD (.tup (Ds a)) (.tup (Ds b)) = some (decide (a = b)) :=
  eqD_of (Ds_okds a hd) (Ds_okds b hd) (decide_iff (Ds_eqv a b))
theorem neD_Ts [DecidableEq α] (hd : Dm.dep α ≤ 19) (a b : List α) : neD (.tup (Ds a)) (.tup (Ds b)) = some (!decide (a = b)) :=
  neD_of (Ds_okds a hd) (Ds_okds b hd) (decide_iff (Ds_eqv a b))
theorem x_ixD {i : Int} {xs : List α} {o : Bool} (h0 : 0 ≤ i) (h : i.toNat < xs.length) : ixD (.lst o (Ds xs)) (.int i) = some (Dm.d (xs[i.toNat])) := by
  rw [x_ix h0 (by rw [Ds_len]; omega)]
  simp [Ds, List.getElem?_eq_getElem h]
theorem x_ixT {i : Int} {xs : List α} (h0 : 0 ≤ i) (h : i.toNat < xs.length) : ixD (.tup (Ds xs)) (.int i) = some (Dm.d (xs[i.toNat])) := by
  show (ixN (Ds xs).length i).bind _ = _
  unfold ixN
  rw [if_pos h0, if_pos (by rw [Ds_len]; omega)]
  show (Ds xs)[i.toNat]? = _
  simp [Ds, List.getElem?_eq_getElem h]
theorem x_ixL1 {xs : List α} {o : Bool} (h : xs ≠ []) : ixD (.lst o (Ds xs)) (.int (-1)) = some (Dm.d (xs.getLast h)) := by
  have hl : 0 < xs.length := List.length_pos_iff.mpr h
  show (ixN (Ds xs).length (-1)).bind _ = _
  unfold ixN
  rw [if_neg (by decide), if_pos (by rw [Ds_len]; omega)]
  show (Ds xs)[(-1 + ((Ds xs).length : Int)).toNat]? = _
  rw [Ds_len, show (-1 + (xs.length : Int)).toNat = xs.length - 1 by omega]
  simp [Ds, List.getLast_eq_getElem, List.getElem?_eq_getElem (show xs.length - 1 < xs.length by omega)]
theorem any_eqv [DecidableEq α] (x : α) : ∀ ys : List α, ((D.pys (Ds ys)).any fun z => PyData.eqv z (Dm.d x).py) = decide (x ∈ ys)
  | [] => by simp [Ds, D.pys]
  | y :: ys => by
    rw [Ds_cons]
    show (PyData.eqv (Dm.d y).py (Dm.d x).py || (D.pys (Ds ys)).any _) = _
    rw [any_eqv x ys, decide_iff (Dm.eqv y x)]
    by_cases c : y = x
    · subst c; simp
    · simp [c, Ne.symm c]
theorem inD_Ds [DecidableEq α] (hd : Dm.dep α ≤ 19) (x : α) (o : Bool) (ys : List α) : inD (Dm.d x) (.lst o (Ds ys)) = some (decide (x ∈ ys)) := by
  show (if _ then _ else _) = _
  rw [if_pos, any_eqv]
  rw [okd_mono _ _ _ (show Dm.dep α ≤ DEP by show Dm.dep α ≤ 20; omega) (Dm.okd x)]
  show (true && D.okds (Ds ys) 19) = true
  rw [Ds_okds ys hd]
  rfl
theorem notInD_Ds [DecidableEq α] (hd : Dm.dep α ≤ 19) (x : α) (o : Bool) (ys : List α) : notInD (Dm.d x) (.lst o (Ds ys)) = some (!decide (x ∈ ys)) := by
  unfold notInD
  rw [inD_Ds hd]
  rfl
theorem listN_Ds (o : Bool) (xs : List α) : listN [.lst o (Ds xs)] = some (.lst true (Ds xs)) := if_pos (Ds_fzs xs)
theorem listN_Ts (xs : List α) : listN [.tup (Ds xs)] = some (.lst true (Ds xs)) := if_pos (Ds_fzs xs)
theorem tupleN_Ds (o : Bool) (xs : List α) : tupleN [.lst o (Ds xs)] = some (.tup (Ds xs)) := if_pos (Ds_fzs xs)
theorem tupleN_Ts (xs : List α) : tupleN [.tup (Ds xs)] = some (.tup (Ds xs)) := if_pos (Ds_fzs xs)
theorem addD_Ds (o o' : Bool) (a b : List α) (h : a.length + b.length ≤ 1000000) : addD (.lst o (Ds a)) (.lst o' (Ds b)) = some (.lst true (Ds (a ++ b))) := by
  show (if _ then _ else _) = _
  rw [if_pos, Ds_app]
  rw [Ds_fzs, Ds_fzs, decide_eq_true (by simpa using le_lim' h)] <;> rfl
theorem addD_Ts (a b : List α) (h : a.length + b.length ≤ 1000000) : addD (.tup (Ds a)) (.tup (Ds b)) = some (.tup (Ds (a ++ b))) := by
  show (if _ then _ else _) = _
  rw [if_pos, Ds_app]
  rw [Ds_fzs, Ds_fzs, decide_eq_true (by simpa using le_lim' h)] <;> rfl
theorem seqOf_Ds (o : Bool) (xs : List α) : seqOf (.lst o (Ds xs)) = .ok (Ds xs) := by
  show Ou.ok (D.frzs (Ds xs)) = _
  rw [Ds_frzs]
theorem seqOf_Ts (xs : List α) : seqOf (.tup (Ds xs)) = .ok (Ds xs) := by
  show Ou.ok (D.frzs (Ds xs)) = _
  rw [Ds_frzs]
theorem seqOfB_Ds (o : Bool) (xs : List α) : seqOfB (.lst o (Ds xs)) = .ok (Ds xs) := if_pos (Ds_fzs xs)
theorem seqOfB_Ts (xs : List α) : seqOfB (.tup (Ds xs)) = .ok (Ds xs) := if_pos (Ds_fzs xs)
theorem Ds_get {xs : List α} {j : Nat} {d : D} (h : (Ds xs)[j]? = some d) : ∃ h : j < xs.length, d = Dm.d xs[j] := by
  unfold Ds at h
  rw [List.getElem?_map] at h
  by_cases c : j < xs.length
  · rw [List.getElem?_eq_getElem c] at h
    exact ⟨c, (Option.some.inj h).symm⟩
  · rw [List.getElem?_eq_none (by omega)] at h
    cases h
theorem revD_Ds (o : Bool) (xs : List α) (h : xs.length ≤ 1000000) : revD (.lst o (Ds xs)) = some (.lst true (Ds xs.reverse)) := by
  show (if _ then _ else _) = _
  rw [if_pos (Ds_fzs xs)]
  unfold Ds
  rw [List.map_reverse]
theorem slD_Ds (o : Bool) (xs : List α) (lo hi : Option Int) : slD (.lst o (Ds xs)) lo hi = some (.lst true (Ds (cutD xs lo hi))) := by
  unfold slD
  simp only [Ds_fzs]
  unfold cutD Ds
  simp [List.map_take, List.map_drop]
end
theorem cut_from {α : Type} (xs : List α) (k : Nat) (h : k ≤ xs.length) : DL.cutD xs (some (k : Int)) none = xs.drop k := by
  unfold DL.cutD
  rw [HT.sIx_nat, HT.sIx_none, Nat.min_eq_left h]
  exact List.take_of_length_le (by rw [List.length_drop]; exact Nat.le_refl _)
theorem cut_to {α : Type} (xs : List α) (k : Nat) (h : k ≤ xs.length) : DL.cutD xs none (some (k : Int)) = xs.take k := by
  unfold DL.cutD
  rw [HT.sIx_nat, HT.sIx_none, Nat.min_eq_left h]
  rfl
/-! ### comprehensions -/
theorem comp_map {j : Nat} {te : Env → Ou D} {ρ : Env} (hj : j < ρ.length) (h : D → D) : ∀ (ds acc : List D), (∀ d ∈ ds, te (ρ.set j (some d)) = .ok (h d)) → acc.length + ds.length ≤ 1000000 → compG j bYes te ρ ds acc = some (acc ++ ds.map h)
  | [], acc, _, _ => by simp [compG]
  | d :: ds, acc, k, l => by
    have e : te (ρ.set j (some d)) = .ok (h d) := k d (List.mem_cons_self ..)
    have l' : acc.length + ds.length + 1 ≤ 1000000 := by simp only [List.length_cons] at l; omega
    unfold compG
    simp only [if_pos hj, x_bYes, e, if_pos (lt_lim' (show acc.length < 1000000 by omega))]
    rw [comp_map hj h ds (acc ++ [h d]) (fun x m => k x (List.mem_cons_of_mem _ m)) (by simp only [List.length_append, List.length_singleton]; omega)]
    simp
theorem comp_filter {j : Nat} {tt : Env → Ou Bool} {te : Env → Ou D} {ρ : Env} (hj : j < ρ.length) (p : D → Bool) (h : D → D) : ∀ (ds acc : List D), (∀ d ∈ ds, tt (ρ.set j (some d)) = .ok (p d)) → (∀ d ∈ ds, p d = true → te (ρ.set j (some d)) = .ok (h d)) → acc.length + ds.length ≤ 1000000 →
    compG j tt te ρ ds acc = some (acc ++ (ds.filter p).map h)
  | [], acc, _, _, _ => by simp [compG]
  | d :: ds, acc, kp, k, l => by
    have e1 := kp d (List.mem_cons_self ..)
    have l' : acc.length + ds.length + 1 ≤ 1000000 := by simp only [List.length_cons] at l; omega
    unfold compG
    cases c : p d with
    | true =>
      have e := k d (List.mem_cons_self ..) c
      simp only [if_pos hj, e1, c, e, if_pos (lt_lim' (show acc.length < 1000000 by omega))]
      rw [comp_filter hj p h ds (acc ++ [h d]) (fun x m => kp x (List.mem_cons_of_mem _ m)) (fun x m => k x (List.mem_cons_of_mem _ m)) (by simp only [List.length_append, List.length_singleton]; omega)]
      simp [c]
    | false =>
      simp only [if_pos hj, e1, c]
      rw [comp_filter hj p h ds acc (fun x m => kp x (List.mem_cons_of_mem _ m)) (fun x m => k x (List.mem_cons_of_mem _ m)) (by omega)]
      simp [c]
theorem rng0_mem {n : Nat} {d : D} (h : d ∈ rng0 n) : ∃ j : Nat, d = .int j ∧ j < n := by
  obtain ⟨j, hj, e⟩ := List.getElem_of_mem h
  have q := rng0_get (n := n) (j := j) (d := d) (by rw [List.getElem?_eq_getElem hj, e])
  exact ⟨j, q.1, q.2⟩
theorem allN_true (o : Bool) {α : Type} (xs : List α) : allN [.lst o (xs.map fun _ => .bl true)] = some (.bl true) := by
  have : ∀ ys : List α, ∃ bs : List Bool, boolsOf (ys.map fun _ => D.bl true) = some bs ∧ bs.all id = true := by
    intro ys
    induction ys with
    | nil => exact ⟨[], rfl, rfl⟩
    | cons y ys ih =>
      obtain ⟨bs, h1, h2⟩ := ih
      refine ⟨true :: bs, ?_, by simpa using h2⟩
      show (boolsOf (ys.map fun _ => D.bl true)).map (true :: ·) = _
      rw [h1]; rfl
  obtain ⟨bs, h1, h2⟩ := this xs
  show (boolsOf _).map _ = _
  rw [h1]
  simp only [Option.map_some, h2]
end DL

namespace DL
open PySem hiding Env
open PySem.Spec PyProof.Rows L2
/-! ### helpers that the laws share -/
def g__law_cell : Env → Os := (sSeq (sIf (b2 ltD (dVar 1) (dN lenN (aCons (dVar 0) aNil))) (sRet (dN intN (aCons (d2 ixD (dVar 0) (dVar 1)) aNil))) sNil)
    (sRet (dC (.int 0))))
def F__law_cell : List D → Ou D := runF 2 g__law_cell
def b1__law_row : Env → Os := (sSeq (sApp 3 (d2 modD (dN intN (aCons (dVar 2) aNil)) (dC (.int 1000))))
    (sSet 2 (d2 fdivD (dVar 2) (dC (.int 1000)))))
def b2__law_row : Env → Os := (sSeq (sSet 6 (d2 modD (dN intN (aCons (d2 mulD (dVar 5) (d2 addD (d2 addD (dC (.int 48271)) (d2 mulD (d2 mulD (dC (.int 66)) (dVar 4)) (dVar 4))) (d2 mulD (dC (.int 14)) (dVar 4)))) aNil)) (dC (.int 2147483647))))
    (sSeq (sSet 6 (d2 modD (dN intN (aCons (d2 addD (d2 mulD (dVar 6) (dVar 6)) (d2 mulD (dVar 6) (d2 addD (dVar 4) (dC (.int 1))))) aNil)) (dC (.int 2147483629))))
    (sApp 3 (d2 modD (dN intN (aCons (dVar 6) aNil)) (dC (.int 1000))))))
def g__law_row : Env → Os := (sSeq (sSet 2 (dN absN (aCons (dVar 0) aNil)))
    (sSeq (sSet 3 (dLst aNil))
    (sSeq (sIf (b2 geD (dVar 2) (d2 powD (dC (.int 10)) (dC (.int 18)))) (sSeq (sFor (DL.iRng1 (aCons (dVar 1) aNil)) (tgN 4) b1__law_row)
    (sRetV 3)) sNil)
    (sSeq (sSet 5 (d2 addD (d2 mulD (dC (.int 2)) (dVar 2)) (dN intN (aCons (dBl (b2 ltD (dVar 0) (dC (.int 0)))) aNil))))
    (sSeq (sFor (DL.iRng1 (aCons (dVar 1) aNil)) (tgN 4) b2__law_row)
    (sRetV 3))))))
def F__law_row : List D → Ou D := runF 7 g__law_row
def g__law_big : Env → Os := (sSeq (sSet 1 (d2 modD (dN intN (aCons (dN absN (aCons (dVar 0) aNil)) aNil)) (d2 powD (dC (.int 10)) (dC (.int 20)))))
    (sSeq (sIf (b2 ltD (dVar 0) (dC (.int 0))) (sRet (d1 negD (dVar 1))) sNil)
    (sRetV 1)))
def F__law_big : List D → Ou D := runF 2 g__law_big
def g__law_gap : Env → Os := (sRet (dFz (d2 ixD (dLst (aCons (dC (.int 1)) (aCons (dC (.int 2)) (aCons (dC (.int 3)) (aCons (dC (.int 5)) (aCons (dC (.int 4)) (aCons (d2 powD (dC (.int 10)) (dC (.int 9))) (aCons (dC (.int 7)) (aCons (d2 addD (d2 powD (dC (.int 10)) (dC (.int 15))) (dC (.int 7))) aNil))))))))) (d2 modD (dN intN (aCons (dVar 0) aNil)) (dC (.int 8))))))
def F__law_gap : List D → Ou D := runF 1 g__law_gap
def g__law_is_integer : Env → Os := (sRet (dAnd (dIsi .int (dVar 0)) (dNot (dIsi .bool (dVar 0)))))
def F__law_is_integer : List D → Ou D := runF 1 g__law_is_integer
def g_hops : Env → Os := (sRet (d2 fdivD (d2 subD (d2 addD (d2 subD (dVar 1) (dVar 0)) (dVar 2)) (dC (.int 1))) (dVar 2)))
def F_hops : List D → Ou D := runF 3 g_hops
theorem cell_ok (ns : List Int) (i : Nat) : F__law_cell [.scr ns, .int i] = .ok (.int (at0 ns i)) := by
  by_cases h : i < ns.length
  · have h' : (i : Int) < ns.length := by omega
    simp [F__law_cell, g__law_cell, runF, h', x_ixS (Int.natCast_nonneg i) h']
  · have h' : ¬ (i : Int) < ns.length := by omega
    simp [F__law_cell, g__law_cell, runF, h', at0, List.getD, List.getElem?_eq_none (show ns.length ≤ i by omega)]
theorem big_ok (i : Int) : ∃ j : Int, F__law_big [.int i] = .ok (.int j) ∧ -100000000000000000000 < j ∧ j < 100000000000000000000 := by
  have h1 := Int.emod_nonneg (if i < 0 then -i else i) (show (100000000000000000000 : Int) ≠ 0 by decide)
  have h2 := Int.emod_lt_of_pos (if i < 0 then -i else i) (show (0 : Int) < 100000000000000000000 by decide)
  by_cases h : i < 0
  · refine ⟨-((if i < 0 then -i else i) % 100000000000000000000), ?_, by omega, by omega⟩
    simp [F__law_big, g__law_big, runF, x_mod, h]
  · refine ⟨((if i < 0 then -i else i) % 100000000000000000000), ?_, by omega, by omega⟩
    simp [F__law_big, g__law_big, runF, x_mod, h]
theorem gap_ok (i : Int) : ∃ j : Int, F__law_gap [.int i] = .ok (.int j) ∧ 1 ≤ j ∧ j ≤ 1000000000000007 := by
  have h1 := Int.emod_nonneg i (show (8 : Int) ≠ 0 by decide)
  have h2 := Int.emod_lt_of_pos i (show (0 : Int) < 8 by decide)
  obtain ⟨k, hk⟩ : ∃ k : Nat, i % 8 = k := ⟨(i % 8).toNat, by omega⟩
  have e : F__law_gap [.int i] = .ok (.int (at0 [1, 2, 3, 5, 4, 1000000000, 7, 1000000000000007] k)) := by
    have hl : (k : Int) < (I [1, 2, 3, 5, 4, 1000000000, 7, 1000000000000007]).length := by simp [I]; omega
    have q := x_ixI (i := (k : Int)) (ns := [1, 2, 3, 5, 4, 1000000000, 7, 1000000000000007]) (o := true) (by omega) (by simpa using hl)
    simp only [I, List.map] at q
    simp [F__law_gap, g__law_gap, runF, x_mod, hk, q, LIM]
  refine ⟨_, e, ?_⟩
  have : k < 8 := by omega
  match k, this with
  | 0, _ => decide
  | 1, _ => decide
  | 2, _ => decide
  | 3, _ => decide
  | 4, _ => decide
  | 5, _ => decide
  | 6, _ => decide
  | 7, _ => decide

def Rw (rs : List Int) (n : Nat) : Prop := rs.length = n ∧ ∀ r ∈ rs, 0 ≤ r ∧ r < 1000
theorem Rw.snoc {rs : List Int} {n : Nat} (h : Rw rs n) (i : Int) : Rw (rs ++ [i % 1000]) (n + 1) := by
  refine ⟨by simp [h.1], fun r hr => ?_⟩
  rcases List.mem_append.mp hr with z | z
  · exact h.2 r z
  · rw [List.mem_singleton.mp z]
    exact ⟨Int.emod_nonneg _ (by decide), Int.emod_lt_of_pos _ (by decide)⟩
theorem Rw.at {rs : List Int} {n : Nat} (h : Rw rs n) {i : Nat} (hi : i < n) : 0 ≤ at0 rs i ∧ at0 rs i < 1000 := by
  have e : i < rs.length := by rw [h.1]; exact hi
  have : at0 rs i = rs[i] := by simp [at0, List.getD, List.getElem?_eq_getElem e]
  rw [this]
  exact h.2 _ (List.getElem_mem e)
theorem I_nil : ([] : List D) = I [] := rfl
theorem lt_lim {n : Nat} (h : n < 1000000) : n < LIM := h
theorem row_big (c : Int) (n : Nat) (s0 : Int) (hn : n ≤ 1000) : ∃ (rs : List Int) (s : Int) (o : Option D), loopS (tgN 4) b1__law_row (rng0 n) [some (.int c), some (.int n), some (.int s0), some (.lst true (I [])), none, none, none] = .nx [some (.int c), some (.int n), some (.int s), some (.lst true (I rs)), o, none, none] ∧ Rw rs n := by
  obtain ⟨ρ', e, rs, s, o, hρ, hw⟩ := loop_inv0 (tg := tgN 4) (body := b1__law_row) (fun j ρ => ∃ (rs : List Int) (s : Int) (o : Option D), ρ = [some (.int c), some (.int n), some (.int s), some (.lst true (I rs)), o, none, none] ∧ Rw rs j) (rng0 n)
      [some (.int c), some (.int n), some (.int s0), some (.lst true (I [])), none, none, none] ⟨[], _, _, rfl, rfl, fun _ z => nomatch z⟩ fun j d ρ hd ⟨rs, s, o, hρ, hw⟩ => by
        obtain ⟨rfl, hj⟩ := rng0_get hd
        subst hρ
        refine ⟨_, _, rfl, .inl ?_, rs ++ [s % 1000], s / 1000, some (.int j), rfl, hw.snoc s⟩
        have hl : rs.length < LIM := lt_lim (by rw [hw.1]; omega)
        simp [b1__law_row, x_mod, x_fdiv, hl, I]
  rw [rng0_len] at hw
  exact ⟨rs, s, o, hρ ▸ e, hw⟩
theorem row_small (c : Int) (n : Nat) (z s : Int) (hn : n ≤ 1000) (bs : B64 s) : ∃ (rs : List Int) (m o : Option D), loopS (tgN 4) b2__law_row (rng0 n) [some (.int c), some (.int n), some (.int z), some (.lst true (I [])), none, some (.int s), none] = .nx [some (.int c), some (.int n), some (.int z), some (.lst true (I rs)), o, some (.int s), m] ∧ Rw rs n := by
  obtain ⟨ρ', e, rs, m, o, hρ, hw⟩ := loop_inv0 (tg := tgN 4) (body := b2__law_row) (fun j ρ => ∃ (rs : List Int) (m o : Option D), ρ = [some (.int c), some (.int n), some (.int z), some (.lst true (I rs)), o, some (.int s), m] ∧ Rw rs j) (rng0 n)
      [some (.int c), some (.int n), some (.int z), some (.lst true (I [])), none, some (.int s), none] ⟨[], _, _, rfl, rfl, fun _ z => nomatch z⟩ fun j d ρ hd ⟨rs, m, o, hρ, hw⟩ => by
        obtain ⟨rfl, hj⟩ := rng0_get hd
        subst hρ
        have hl : rs.length < LIM := lt_lim (by rw [hw.1]; omega)
        have bj : B64 (j : Int) := ⟨by omega, by omega⟩
        have b66 : B64 66 := ⟨by decide, by decide⟩
        have b14 : B64 14 := ⟨by decide, by decide⟩
        have hm : ∀ x : Int, B64 (x % 2147483647) := fun x => by
          have h1 := Int.emod_nonneg x (show (2147483647 : Int) ≠ 0 by decide)
          have h2 := Int.emod_lt_of_pos x (show (0 : Int) < 2147483647 by decide)
          exact ⟨by omega, by omega⟩
        obtain ⟨a, ha⟩ : ∃ a, s * (48271 + 66 * (j : Int) * j + 14 * j) % 2147483647 = a := ⟨_, rfl⟩
        have ba : B64 a := ha ▸ hm _
        obtain ⟨b, hb⟩ : ∃ b, (a * a + a * ((j : Int) + 1)) % 2147483629 = b := ⟨_, rfl⟩
        refine ⟨_, _, rfl, .inl ?_, rs ++ [b % 1000], some (.int b), some (.int j), rfl, hw.snoc _⟩
        simp [b2__law_row, x_mod, x_fdiv, hl, I, x_mulL, x_mulR bj, b66, b14, bs, ha, ba, hb]
  rw [rng0_len] at hw
  exact ⟨rs, m, o, hρ ▸ e, hw⟩
theorem row_ok (c : Int) (n : Nat) (hn : n ≤ 1000) : ∃ rs : List Int, F__law_row [.int c, .int n] = .ok (.lst true (I rs)) ∧ Rw rs n := by
  have hr : rng1Of [.int (n : Int)] = some (rng0 n) := x_rng1 (by omega) (by omega)
  have hi : I [] = [] := rfl
  have hz : 0 ≤ LIM := Nat.zero_le _
  by_cases h : (1000000000000000000 : Int) ≤ (if c < 0 then -c else c)
  · obtain ⟨rs, s, o, e, hw⟩ := row_big c n (if c < 0 then -c else c) hn
    rw [hi] at e
    refine ⟨rs, ?_, hw⟩
    simp [F__law_row, g__law_row, runF, h, hr, e, hz]
  · obtain ⟨rs, s, o, e, hw⟩ := row_small c n (if c < 0 then -c else c) (2 * (if c < 0 then -c else c) + (if c < 0 then 1 else 0)) hn ⟨by omega, by omega⟩
    rw [hi] at e
    refine ⟨rs, ?_, hw⟩
    simp [F__law_row, g__law_row, runF, h, hr, hz, x_mulL (show B64 2 from ⟨by decide, by decide⟩), e]

theorem cell_int (ns : List Int) (i : Int) (h : 0 ≤ i) : F__law_cell [.scr ns, .int i] = .ok (.int (at0 ns i.toNat)) := by
  obtain ⟨k, rfl⟩ : ∃ k : Nat, i = k := ⟨i.toNat, by omega⟩
  rw [cell_ok]
  rfl
theorem row_int (c n : Int) (h0 : 0 ≤ n) (hn : n ≤ 1000) : ∃ rs : List Int, F__law_row [.int c, .int n] = .ok (.lst true (I rs)) ∧ Rw rs n.toNat := by
  have e : n = (n.toNat : Int) := by omega
  rw [e]
  exact row_ok c n.toNat (by omega)
theorem is_integer_ok (i : Int) : F__law_is_integer [.int i] = .ok (.bl true) := by simp [F__law_is_integer, g__law_is_integer, runF]
theorem hops_ok (s e g : Int) (h : 0 < g) (h2 : g < 1000000000000000000000000000000) : F_hops [.int s, .int e, .int g] = .ok (.int ((e - s + g - 1) / g)) := by
  simp [F_hops, g_hops, runF, x_fdiv h h2]
end DL

namespace DL
open PySem hiding Env
open PySem.Spec PyProof.Rows L2
/-! ### drawn events -/
def g__law_count : Env → Os := (sSeq (sIf (b2 ltD (dVar 0) (dC (.int 300))) (sRet (d2 fdivD (dVar 0) (dC (.int 100)))) sNil)
    (sRet (d2 addD (dC (.int 2)) (d2 modD (dN intN (aCons (dVar 0) aNil)) (d2 subD (dVar 1) (dC (.int 1)))))))
def F__law_count : List D → Ou D := runF 2 g__law_count
def g__law_value : Env → Os := (sRet (dFz (d2 ixD (dLst (aCons (dC (.int 0)) (aCons (dC (.int 1)) (aCons (dC (.int 2)) (aCons (dC (.int 3)) (aCons (d1 negD (dC (.int 1))) (aCons (dC (.int 1)) (aCons (dC (.int 2)) (aCons (dFz (dVar 1)) (aCons (d1 negD (dVar 1)) (aCons (d2 addD (dVar 2) (dVar 1)) (aCons (d2 subD (dVar 2) (dVar 1)) aNil)))))))))))) (d2 modD (dN intN (aCons (dVar 0) aNil)) (dC (.int 11))))))
def F__law_value : List D → Ou D := runF 3 g__law_value
def b1__law_events : Env → Os := (sSeq (sSet 8 (d2 addD (d2 addD (dVar 3) (d2 fdivD (d2 mulD (d2 modD (dN intN (aCons (d2 ixD (dVar 0) (d2 mulD (dC (.int 4)) (dVar 7))) aNil)) (dVar 4)) (dVar 2)) (dC (.int 2)))) (d2 ixD (dLst (aCons (dC (.int 0)) (aCons (dC (.int 0)) (aCons (dC (.int 0)) (aCons (dC (.int 1)) (aCons (d1 negD (dC (.int 1))) aNil)))))) (d2 modD (dN intN (aCons (d2 ixD (dVar 0) (d2 addD (d2 mulD (dC (.int 4)) (dVar 7)) (dC (.int 1)))) aNil)) (dC (.int 5))))))
    (sApp 6 (dTup (aCons (dFz (dVar 8)) (aCons (dCall F__law_value (aCons (d2 ixD (dVar 0) (d2 addD (d2 mulD (dC (.int 4)) (dVar 7)) (dC (.int 2)))) (aCons (d2 ixD (dVar 0) (d2 addD (d2 mulD (dC (.int 4)) (dVar 7)) (dC (.int 3)))) (aCons (dVar 5) aNil)))) aNil)))))
def g__law_events : Env → Os := (sSeq (sSet 6 (dLst aNil))
    (sSeq (sFor (DL.iRng1 (aCons (dVar 1) aNil)) (tgN 7) b1__law_events)
    (sRetV 6)))
def F__law_events : List D → Ou D := runF 9 g__law_events
def g__law_is_event : Env → Os := (sRet (dAnd (dIsi .tuple (dVar 0)) (dAnd (dBl (b2 eqD (dN lenN (aCons (dVar 0) aNil)) (dC (.int 2)))) (dAnd (dCall F__law_is_integer (aCons (d2 ixD (dVar 0) (dC (.int 0))) aNil)) (dCall F__law_is_integer (aCons (d2 ixD (dVar 0) (dC (.int 1))) aNil))))))
def F__law_is_event : List D → Ou D := runF 1 g__law_is_event
def g_ordered : Env → Os := (sRet (dN sortN (aCons (dVar 0) aNil)))
def F_ordered : List D → Ou D := runF 1 g_ordered

theorem ix_lit {o : Bool} (ns : List Int) {i : Int} (h0 : 0 ≤ i) (h : i < ns.length) : ∃ v, ixD (.lst o (I ns)) (.int i) = some (.int v) ∧ v ∈ ns := by
  refine ⟨_, x_ixI h0 h, ?_⟩
  have e : i.toNat < ns.length := by omega
  have : at0 ns i.toNat = ns[i.toNat] := by simp [at0, List.getD, List.getElem?_eq_getElem e]
  rw [this]
  exact List.getElem_mem e
theorem emod_lt' (x : Int) {m : Int} (h : 0 < m) : 0 ≤ x % m ∧ x % m < m := ⟨Int.emod_nonneg _ (by omega), Int.emod_lt_of_pos _ h⟩
theorem count_ok (n m : Int) (h : 2 ≤ m) (h0 : 0 ≤ n) : ∃ c : Int, F__law_count [.int n, .int m] = .ok (.int c) ∧ 0 ≤ c ∧ c ≤ max 2 m := by
  by_cases c : n < 300
  · refine ⟨n / 100, ?_, Int.ediv_nonneg h0 (by decide), ?_⟩
    · simp [F__law_count, g__law_count, runF, c, x_fdiv]
    · omega
  · have q := emod_lt' n (show 0 < m - 1 by omega)
    refine ⟨2 + n % (m - 1), ?_, by omega, by omega⟩
    simp [F__law_count, g__law_count, runF, c, x_mod (show 0 < m - 1 by omega)]
theorem value_ok (n o b : Int) : ∃ v : Int, F__law_value [.int n, .int o, .int b] = .ok (.int v) ∧ v ∈ [0, 1, 2, 3, -1, 1, 2, o, -o, b + o, b - o] := by
  have q := emod_lt' n (show (0 : Int) < 11 by decide)
  obtain ⟨v, hv, hm⟩ := ix_lit (o := true) [0, 1, 2, 3, -1, 1, 2, o, -o, b + o, b - o] (i := n % 11) q.1 (by simp; omega)
  refine ⟨v, ?_, hm⟩
  simp only [I, List.map] at hv
  simp [F__law_value, g__law_value, runF, x_mod, hv, le_lim']
/-- a pair of integers -/
def P2 (p : Int × Int) : D := .tup [.int p.1, .int p.2]
theorem P2_dm (p : Int × Int) : P2 p = Dm.d p := rfl
abbrev E2 (ps : List (Int × Int)) : List D := Ds ps
@[simp] theorem cln_lstT (xs : List D) : (D.lst true xs).cln = D.clns xs := (rfl)
@[simp] theorem cln_tup (xs : List D) : (D.tup xs).cln = D.clns xs := (rfl)
@[simp] theorem I_clns (ps : List Int) : D.clns (I ps) = true := Ds_clns ps
theorem E2_okds (ps : List (Int × Int)) (n : Nat) : D.okds (E2 ps) (n + 1) = true := Ds_okds ps (by show 1 ≤ n + 1; omega)
theorem E2_pys (ps : List (Int × Int)) : D.pys (E2 ps) = ps.map fun p => .tuple [.int p.1, .int p.2] := by
  induction ps with
  | nil => rfl
  | cons p ps ih => exact congrArg (_ :: ·) ih
/-- the order of pairs -/
def leP (p q : Int × Int) : Bool := decide (p.1 < q.1 ∨ (p.1 = q.1 ∧ p.2 ≤ q.2))
def srt (ps : List (Int × Int)) : List (Int × Int) := ps.mergeSort leP
theorem leB_P2 (p q : Int × Int) : leB (Dm.d p) (Dm.d q) = leP p q := by
  have := congrFun (congrFun (PySem.W.dataLe_ii (β := Int × Int) (·.1) (·.2)) p) q
  exact this
theorem sortL_E2 (ps : List (Int × Int)) : sortL (E2 ps) = E2 (srt ps) := by
  unfold sortL E2 Ds srt
  exact (List.map_mergeSort fun a _ b _ => (leB_P2 a b).symm).symm
theorem E2_sortOk (ps : List (Int × Int)) : sortOk (E2 ps) = true := by
  unfold sortOk
  rw [show DEP = 19 + 1 from rfl, E2_okds, E2_pys]
  unfold sortOkP
  refine Bool.and_eq_true_iff.mpr ⟨rfl, Bool.and_eq_true_iff.mpr ⟨?_, ?_⟩⟩
  · simp only [List.all_map, List.all_eq_true]
    intro x _
    refine List.all_eq_true.mpr fun y _ => ?_
    rfl
  · rw [Bool.or_eq_true_iff]
    left
    simp only [List.all_map, List.all_eq_true]
    intro x _
    rfl
theorem sortN_E2 (o : Bool) (ps : List (Int × Int)) (h : ps.length ≤ 1000000) : sortN [.lst o (E2 ps)] = some (.lst true (E2 (srt ps))) := by
  show (if _ then _ else _) = _
  rw [if_pos, sortL_E2]
  rw [Ds_fzs, E2_sortOk, Ds_len, decide_eq_true (le_lim' h)] <;> rfl
theorem leP_trans (a b c : Int × Int) (h1 : leP a b = true) (h2 : leP b c = true) : leP a c = true := by
  unfold leP at *
  simp only [decide_eq_true_eq] at *
  omega
theorem leP_total (a b : Int × Int) : (leP a b || leP b a) = true := by
  unfold leP
  simp only [Bool.or_eq_true, decide_eq_true_eq]
  omega
theorem leP_anti (a b : Int × Int) (h1 : leP a b = true) (h2 : leP b a = true) : a = b := by
  unfold leP at *
  simp only [decide_eq_true_eq] at *
  exact Prod.ext (by omega) (by omega)
theorem srt_perm (ps : List (Int × Int)) : (srt ps).Perm ps := List.mergeSort_perm ps leP
theorem srt_len (ps : List (Int × Int)) : (srt ps).length = ps.length := (srt_perm ps).length_eq
theorem srt_pw (ps : List (Int × Int)) : (srt ps).Pairwise fun a b => leP a b = true := List.pairwise_mergeSort leP_trans leP_total ps
theorem srt_eq {ps qs : List (Int × Int)} (h : ps.Perm qs) : srt ps = srt qs :=
  List.Perm.eq_of_pairwise (le := fun a b => leP a b = true) (fun a b _ _ h1 h2 => leP_anti a b h1 h2) (srt_pw ps) (srt_pw qs) ((srt_perm ps).trans (h.trans (srt_perm qs).symm))
theorem ix_P0 (p : Int × Int) : ixD (Dm.d p) (.int 0) = some (.int p.1) := rfl
theorem ix_P1 (p : Int × Int) : ixD (Dm.d p) (.int 1) = some (.int p.2) := rfl
theorem lenN_P2 (p : Int × Int) : lenN [Dm.d p] = some (.int 2) := rfl
theorem isi_P2 (p : Int × Int) : isiD .tuple (Dm.d p) = some true := rfl
theorem is_event_ok (p : Int × Int) : F__law_is_event [Dm.d p] = .ok (.bl true) := by
  simp [F__law_is_event, g__law_is_event, runF, ix_P0, ix_P1, lenN_P2, isi_P2, is_integer_ok]
theorem ordered_ok (o : Bool) (ps : List (Int × Int)) (h : ps.length ≤ 1000000) : F_ordered [.lst o (E2 ps)] = .ok (.lst true (E2 (srt ps))) := by
  simp [F_ordered, g_ordered, runF, sortN_E2 o ps h]
theorem events_ok (rs : List Int) (o : Bool) (c : Nat) (g start room big : Int) (hc : c ≤ 1000) (hl : 4 * c ≤ rs.length) (hr : 1 ≤ room) (hr2 : room ≤ 100000) :
    ∃ evs : List (Int × Int), F__law_events [.lst o (I rs), .int c, .int g, .int start, .int room, .int big] = .ok (.lst true (E2 evs)) ∧ evs.length = c := by
  have hrng : rng1Of [.int (c : Int)] = some (rng0 c) := x_rng1 (by omega) (by omega)
  obtain ⟨ρ', e, evs, o7, o8, hρ, hlen⟩ := loop_inv0 (tg := tgN 7) (body := b1__law_events) (fun j ρ => ∃ (evs : List (Int × Int)) (o7 o8 : Option D), ρ = [some (.lst o (I rs)), some (.int c), some (.int g), some (.int start), some (.int room), some (.int big), some (.lst true (E2 evs)), o7, o8] ∧ evs.length = j) (rng0 c)
      [some (.lst o (I rs)), some (.int c), some (.int g), some (.int start), some (.int room), some (.int big), some (.lst true []), none, none] ⟨[], _, _, rfl, rfl⟩ fun j d ρ hd ⟨evs, o7, o8, hρ, hlen⟩ => by
        obtain ⟨rfl, hj⟩ := rng0_get hd
        subst hρ
        have b4 : B64 4 := ⟨by decide, by decide⟩
        have i0 := x_ixI (ns := rs) (o := o) (i := 4 * (j : Int)) (by omega) (by omega)
        have i1 := x_ixI (ns := rs) (o := o) (i := 4 * (j : Int) + 1) (by omega) (by omega)
        have i2 := x_ixI (ns := rs) (o := o) (i := 4 * (j : Int) + 2) (by omega) (by omega)
        have i3 := x_ixI (ns := rs) (o := o) (i := 4 * (j : Int) + 3) (by omega) (by omega)
        obtain ⟨r0, e0⟩ : ∃ r, at0 rs (4 * (j : Int)).toNat = r := ⟨_, rfl⟩
        obtain ⟨r1, e1⟩ : ∃ r, at0 rs (4 * (j : Int) + 1).toNat = r := ⟨_, rfl⟩
        obtain ⟨r2, e2⟩ : ∃ r, at0 rs (4 * (j : Int) + 2).toNat = r := ⟨_, rfl⟩
        obtain ⟨r3, e3⟩ : ∃ r, at0 rs (4 * (j : Int) + 3).toNat = r := ⟨_, rfl⟩
        rw [e0] at i0
        rw [e1] at i1
        rw [e2] at i2
        rw [e3] at i3
        have q0 := emod_lt' r0 (show 0 < room by omega)
        have br : B64 (r0 % room) := ⟨by omega, by omega⟩
        have q1 := emod_lt' r1 (show (0 : Int) < 5 by decide)
        obtain ⟨w, hw, _⟩ := ix_lit (o := true) [0, 0, 0, 1, -1] (i := r1 % 5) q1.1 (by simp; omega)
        simp only [I, List.map] at hw
        obtain ⟨v, hv, _⟩ := value_ok r2 r3 big
        have hl : evs.length < LIM := lt_lim (by omega)
        refine ⟨_, _, rfl, .inl ?_, evs ++ [(start + r0 % room * g / 2 + w, v)], some (.int j), some (.int (start + r0 % room * g / 2 + w)), rfl, by simp [hlen]⟩
        simp [b1__law_events, x_mulL, b4, i0, i1, i2, i3, x_mod (show 0 < room by omega), x_mod, br, x_fdiv, hw, hv, hl, le_lim']
        exact Ds_snoc evs (start + r0 % room * g / 2 + w, v)
  refine ⟨evs, ?_, by rw [rng0_len] at hlen; exact hlen⟩
  subst hρ
  simp [F__law_events, g__law_events, runF, hrng, e]
end DL

namespace DL
open PySem hiding Env
open PySem.Spec PyProof.Rows L2
/-! ### runs -/
def b1_cut_runs : Env → Os := (sIf (bAnd (bTru (dVar 2)) (b2 leD (d2 subD (d2 ixD (dVar 3) (dC (.int 0))) (d2 ixD (d2 ixD (d2 ixD (dVar 2) (d1 negD (dC (.int 1)))) (d1 negD (dC (.int 1)))) (dC (.int 0)))) (dVar 1))) (sAppAt 2 (d1 negD (dC (.int 1))) (dFz (dVar 3))) (sApp 2 (dLst (aCons (dFz (dVar 3)) aNil))))
def g_cut_runs : Env → Os := (sSeq (sSet 2 (dLst aNil))
    (sSeq (sFor (iSeq (dCall F_ordered (aCons (dVar 0) aNil))) (tgN 3) b1_cut_runs)
    (sRetV 2)))
def F_cut_runs : List D → Ou D := runF 4 g_cut_runs

theorem comp_mapE {α : Type} {j : Nat} {te : Env → Ou D} {ρ : Env} (hj : j < ρ.length) (enc h : α → D) : ∀ (xs : List α) (acc : List D), (∀ x ∈ xs, te (ρ.set j (some (enc x))) = .ok (h x)) → acc.length + xs.length ≤ 1000000 → compG j bYes te ρ (xs.map enc) acc = some (acc ++ xs.map h)
  | [], acc, _, _ => by simp [compG]
  | d :: ds, acc, k, l => by
    have e : te (ρ.set j (some (enc d))) = .ok (h d) := k d (List.mem_cons_self ..)
    have l' : acc.length + ds.length + 1 ≤ 1000000 := by simp only [List.length_cons] at l; omega
    rw [List.map_cons]
    unfold compG
    simp only [if_pos hj, x_bYes, e, if_pos (lt_lim' (show acc.length < 1000000 by omega))]
    rw [comp_mapE hj enc h ds (acc ++ [h d]) (fun x m => k x (List.mem_cons_of_mem _ m)) (by simp only [List.length_append, List.length_singleton]; omega)]
    simp
theorem comp_filterE {α : Type} {j : Nat} {tt : Env → Ou Bool} {te : Env → Ou D} {ρ : Env} (hj : j < ρ.length) (enc : α → D) (p : α → Bool) (h : α → D) : ∀ (xs : List α) (acc : List D), (∀ d ∈ xs, tt (ρ.set j (some (enc d))) = .ok (p d)) → (∀ d ∈ xs, p d = true → te (ρ.set j (some (enc d))) = .ok (h d)) → acc.length + xs.length ≤ 1000000 →
    compG j tt te ρ (xs.map enc) acc = some (acc ++ (xs.filter p).map h)
  | [], acc, _, _, _ => by simp [compG]
  | d :: ds, acc, kp, k, l => by
    have e1 := kp d (List.mem_cons_self ..)
    have l' : acc.length + ds.length + 1 ≤ 1000000 := by simp only [List.length_cons] at l; omega
    rw [List.map_cons]
    unfold compG
    cases c : p d with
    | true =>
      have e := k d (List.mem_cons_self ..) c
      simp only [if_pos hj, e1, c, e, if_pos (lt_lim' (show acc.length < 1000000 by omega))]
      rw [comp_filterE hj enc p h ds (acc ++ [h d]) (fun x m => kp x (List.mem_cons_of_mem _ m)) (fun x m => k x (List.mem_cons_of_mem _ m)) (by simp only [List.length_append, List.length_singleton]; omega)]
      simp [c]
    | false =>
      simp only [if_pos hj, e1, c]
      rw [comp_filterE hj enc p h ds acc (fun x m => kp x (List.mem_cons_of_mem _ m)) (fun x m => k x (List.mem_cons_of_mem _ m)) (by omega)]
      simp [c]
theorem anyN_false (o : Bool) {α : Type} (xs : List α) : anyN [.lst o (xs.map fun _ => .bl false)] = some (.bl false) := by
  have : ∀ ys : List α, ∃ bs : List Bool, boolsOf (ys.map fun _ => D.bl false) = some bs ∧ bs.any id = false := by
    intro ys
    induction ys with
    | nil => exact ⟨[], rfl, rfl⟩
    | cons y ys ih =>
      obtain ⟨bs, h1, h2⟩ := ih
      refine ⟨false :: bs, ?_, by simpa using h2⟩
      show (boolsOf (ys.map fun _ => D.bl false)).map (false :: ·) = _
      rw [h1]; rfl
  obtain ⟨bs, h1, h2⟩ := this xs
  show (boolsOf _).map _ = _
  rw [h1]
  simp only [Option.map_some, h2]
@[simp] theorem tru_lst (o : Bool) (xs : List D) : tru (.lst o xs) = some (!xs.isEmpty) := by cases xs <;> rfl
/-- the lists of a list -/
def RD (o : Bool) (R : List (List (Int × Int))) : List D := R.map fun r => .lst o (E2 r)
@[simp] theorem RD_len (o : Bool) (R : List (List (Int × Int))) : (RD o R).length = R.length := by simp [RD]
theorem RD_app (o : Bool) (a b : List (List (Int × Int))) : RD o a ++ RD o b = RD o (a ++ b) := by simp [RD]
@[simp] theorem RD_frzs (o : Bool) : ∀ R : List (List (Int × Int)), D.frzs (RD o R) = RD false R
  | [] => rfl
  | r :: R => by
    show (D.lst o (E2 r)).frz :: D.frzs (RD o R) = _
    rw [RD_frzs o R]
    cases o
    · rfl
    · rw [fz_lstT, Ds_frzs]; rfl
@[simp] theorem RD_clns : ∀ R : List (List (Int × Int)), D.clns (RD true R) = true
  | [] => rfl
  | r :: R => by
    show ((D.lst true (E2 r)).cln && D.clns (RD true R)) = true
    rw [RD_clns R, cln_lstT, Ds_clns] <;> rfl
theorem ix_last {xs : List D} {o : Bool} {d : D} : ixD (.lst o (xs ++ [d])) (.int (-1)) = some d := by
  show (ixN (xs ++ [d]).length (-1)).bind _ = _
  unfold ixN
  rw [if_neg (by decide), if_pos (by simp; omega)]
  show (xs ++ [d])[(-1 + ((xs ++ [d]).length : Int)).toNat]? = _
  rw [show (-1 + ((xs ++ [d]).length : Int)).toNat = xs.length by simp; omega]
  simp
theorem ixN_last {n : Nat} : ixN (n + 1) (-1) = some n := by
  unfold ixN
  rw [if_neg (by decide), if_pos (by omega)]
  congr 1
  omega
/-- the runs behind a run cur ++ [q] that is begun -/
def cutFrom (g : Int) : List (Int × Int) → (Int × Int) → List (Int × Int) → List (List (Int × Int))
  | cur, q, [] => [cur ++ [q]]
  | cur, q, p :: ps => if p.1 - q.1 ≤ g then cutFrom g (cur ++ [q]) p ps else (cur ++ [q]) :: cutFrom g [] p ps
def cutR (g : Int) : List (Int × Int) → List (List (Int × Int))
  | [] => []
  | p :: ps => cutFrom g [] p ps
theorem cut_loop (x0 : Option D) (g : Int) : ∀ (ps : List (Int × Int)) (don : List (List (Int × Int))) (cur : List (Int × Int)) (q : Int × Int) (o : Option D), don.length + cur.length + ps.length ≤ 100000 →
    ∃ o', loopS (tgN 3) b1_cut_runs (E2 ps) [x0, some (.int g), some (.lst true (RD true (don ++ [cur ++ [q]]))), o] = .nx [x0, some (.int g), some (.lst true (RD true (don ++ cutFrom g cur q ps))), o']
  | [], don, cur, q, o, _ => ⟨o, rfl⟩
  | p :: ps, don, cur, q, o, hl => by
    simp only [List.length_cons] at hl
    have eR : ∀ r, RD true (don ++ [r]) = RD true don ++ [.lst true (E2 r)] := fun r => by simp [RD]
    have eE : E2 (cur ++ [q]) = E2 cur ++ [Dm.d q] := (Ds_snoc cur q).symm
    have i1 : ixD (.lst true (RD true (don ++ [cur ++ [q]]))) (.int (-1)) = some (.lst true (E2 (cur ++ [q]))) := by rw [eR]; exact ix_last
    have i2 : ixD (.lst true (E2 (cur ++ [q]))) (.int (-1)) = some (Dm.d q) := by rw [eE]; exact ix_last
    have ht : tru (.lst true (RD true (don ++ [cur ++ [q]]))) = some true := by rw [eR]; simp
    by_cases c : p.1 - q.1 ≤ g
    · obtain ⟨o', e⟩ := cut_loop x0 g ps don (cur ++ [q]) p (some (Dm.d p)) (by simp; omega)
      refine ⟨o', ?_⟩
      have ecut : cutFrom g cur q (p :: ps) = cutFrom g (cur ++ [q]) p ps := by rw [cutFrom, if_pos c]
      rw [ecut, ← e]
      refine loop_nx rfl ?_
      have hn : ixN (RD true (don ++ [cur ++ [q]])).length (-1) = some don.length := by
        rw [RD_len, List.length_append]; exact ixN_last
      have hg : (RD true (don ++ [cur ++ [q]]))[don.length]? = some (.lst true (E2 (cur ++ [q]))) := by
        rw [eR, List.getElem?_append_right (by simp)]; simp
      have hs : (RD true (don ++ [cur ++ [q]])).set don.length (.lst true (E2 (cur ++ [q]) ++ [Dm.d p])) = RD true (don ++ [cur ++ [q] ++ [p]]) := by
        rw [eR, eR, List.set_append_right _ _ (by simp), Ds_snoc]; simp
      have hb : (E2 (cur ++ [q])).length < LIM := lt_lim (by simp; omega)
      simp [b1_cut_runs, ht, i1, i2, ix_P0, c, hn, hg, hb, hs, -Ds_len, -List.append_assoc]
      rw [ixN_last]
      simp only [hg, if_pos hb, hs]
    · obtain ⟨o', e⟩ := cut_loop x0 g ps (don ++ [cur ++ [q]]) [] p (some (Dm.d p)) (by simp; omega)
      refine ⟨o', ?_⟩
      have ecut : don ++ cutFrom g cur q (p :: ps) = don ++ [cur ++ [q]] ++ cutFrom g [] p ps := by rw [cutFrom, if_neg c]; simp
      rw [ecut, ← e]
      refine loop_nx rfl ?_
      have hb : (RD true (don ++ [cur ++ [q]])).length < LIM := lt_lim (by simp; omega)
      have hs : RD true (don ++ [cur ++ [q]]) ++ [.lst true [Dm.d p]] = RD true (don ++ [cur ++ [q]] ++ [[] ++ [p]]) := by
        rw [← RD_app true (don ++ [cur ++ [q]]) [[] ++ [p]]]
        rfl
      simp [b1_cut_runs, ht, i1, i2, ix_P0, c, hb, le_lim', -RD_len, -List.append_assoc]
      exact hs
theorem cut_runs_ok (o : Bool) (ps : List (Int × Int)) (g : Int) (h : ps.length ≤ 1000) : F_cut_runs [.lst o (E2 ps), .int g] = .ok (.lst true (RD true (cutR g (srt ps)))) := by
  have hl := srt_len ps
  have ho := ordered_ok false ps (by omega)
  have hf : (D.lst o (E2 ps)).frz = .lst false (E2 ps) := by
    cases o
    · rfl
    · rw [fz_lstT, Ds_frzs]
  suffices ∃ o', loopS (tgN 3) b1_cut_runs (E2 (srt ps)) [some (.lst o (E2 ps)), some (.int g), some (.lst true []), none] = .nx [some (.lst o (E2 ps)), some (.int g), some (.lst true (RD true (cutR g (srt ps)))), o'] by
    obtain ⟨o', e⟩ := this
    simp [F_cut_runs, g_cut_runs, runF, hf, ho, seqOf_Ds, e]
  cases e : srt ps with
  | nil => exact ⟨none, rfl⟩
  | cons p qs =>
    rw [e] at hl
    simp only [List.length_cons] at hl
    obtain ⟨o', e1⟩ := cut_loop (some (.lst o (E2 ps))) g qs [] [] p (some (Dm.d p)) (by simp; omega)
    refine ⟨o', ?_⟩
    rw [show cutR g (p :: qs) = [] ++ cutFrom g [] p qs from rfl, ← e1]
    refine loop_nx rfl ?_
    simp [b1_cut_runs, le_lim', lt_lim']
    rfl
/-! what they are -/
abbrev Ev := Int × Int
def Wi (g : Int) (r : List Ev) : Prop := ∀ j (h : j + 1 < r.length), (r[j + 1]).1 - (r[j]).1 ≤ g
def hd0 (r : List Ev) : Ev := r.headD (0, 0)
def ls0 (r : List Ev) : Ev := r.getLastD (0, 0)
def GoodR (g : Int) : List (List Ev) → Prop
  | [] => True
  | [r] => r ≠ [] ∧ Wi g r
  | r :: r2 :: R => r ≠ [] ∧ Wi g r ∧ g < (hd0 r2).1 - (ls0 r).1 ∧ GoodR g (r2 :: R)
theorem Wi.snoc {g : Int} {r : List Ev} {q p : Ev} (h : Wi g (r ++ [q])) (c : p.1 - q.1 ≤ g) : Wi g (r ++ [q] ++ [p]) := by
  intro j hj
  simp only [List.length_append, List.length_singleton] at hj
  by_cases e : j + 1 < (r ++ [q]).length
  · rw [List.getElem_append_left e, List.getElem_append_left (show j < (r ++ [q]).length by omega)]
    exact h j e
  · simp only [List.length_append, List.length_singleton] at e
    have e2 : j = r.length := by omega
    subst e2
    simpa using c
theorem cutFrom_head (g : Int) : ∀ (ps cur : List Ev) (q : Ev), ∃ t R, cutFrom g cur q ps = (cur ++ [q] ++ t) :: R
  | [], cur, q => ⟨[], [], by simp [cutFrom]⟩
  | p :: ps, cur, q => by
    by_cases c : p.1 - q.1 ≤ g
    · obtain ⟨t, R, e⟩ := cutFrom_head g ps (cur ++ [q]) p
      exact ⟨p :: t, R, by rw [cutFrom, if_pos c, e]; simp⟩
    · exact ⟨[], cutFrom g [] p ps, by rw [cutFrom, if_neg c]; simp⟩
theorem cutFrom_good (g : Int) : ∀ (ps cur : List Ev) (q : Ev), Wi g (cur ++ [q]) → GoodR g (cutFrom g cur q ps)
  | [], cur, q, h => ⟨by simp, h⟩
  | p :: ps, cur, q, h => by
    by_cases c : p.1 - q.1 ≤ g
    · rw [cutFrom, if_pos c]
      exact cutFrom_good g ps (cur ++ [q]) p (h.snoc c)
    · rw [cutFrom, if_neg c]
      have ih := cutFrom_good g ps [] p (fun j hj => by simp at hj)
      obtain ⟨t, R, e⟩ := cutFrom_head g ps [] p
      rw [e] at ih ⊢
      refine ⟨by simp, h, ?_, ih⟩
      simp [hd0, ls0]
      omega
theorem cutFrom_flat (g : Int) : ∀ (ps cur : List Ev) (q : Ev), (cutFrom g cur q ps).flatten = cur ++ q :: ps
  | [], cur, q => by simp [cutFrom]
  | p :: ps, cur, q => by
    by_cases c : p.1 - q.1 ≤ g
    · rw [cutFrom, if_pos c, cutFrom_flat g ps]; simp
    · rw [cutFrom, if_neg c, List.flatten_cons, cutFrom_flat g ps]; simp
theorem cutR_good (g : Int) (ps : List Ev) : GoodR g (cutR g ps) := by
  cases ps with
  | nil => exact trivial
  | cons p ps => exact cutFrom_good g ps [] p (fun j hj => by simp at hj)
theorem cutR_flat (g : Int) (ps : List Ev) : (cutR g ps).flatten = ps := by
  cases ps with
  | nil => rfl
  | cons p ps => exact cutFrom_flat g ps [] p
theorem GoodR.tail {g : Int} {r : List Ev} {R : List (List Ev)} (h : GoodR g (r :: R)) : GoodR g R := by
  cases R with
  | nil => exact trivial
  | cons r2 R => exact h.2.2.2
theorem GoodR.at {g : Int} : ∀ {R : List (List Ev)}, GoodR g R → ∀ k (h : k < R.length), R[k] ≠ [] ∧ Wi g R[k]
  | r :: R, h, 0, _ => by
    cases R with
    | nil => exact h
    | cons r2 R => exact ⟨h.1, h.2.1⟩
  | r :: R, h, k + 1, hk => GoodR.at h.tail k (by simpa using hk)
theorem GoodR.step {g : Int} : ∀ {R : List (List Ev)}, GoodR g R → ∀ k (h : k + 1 < R.length), g < (hd0 R[k + 1]).1 - (ls0 R[k]).1
  | [r], _, k, hk => by simp at hk
  | r :: r2 :: R, h, 0, _ => h.2.2.1
  | r :: r2 :: R, h, k + 1, hk => GoodR.step h.2.2.2 k (by simpa using hk)
theorem GoodR.len {g : Int} : ∀ {R : List (List Ev)}, GoodR g R → R.length ≤ R.flatten.length
  | [], _ => Nat.le_refl _
  | r :: R, h => by
    have h1 := (GoodR.at h 0 (by simp)).1
    have h2 := GoodR.len h.tail
    have : 0 < r.length := List.length_pos_iff.mpr h1
    simp only [List.length_cons, List.flatten_cons, List.length_append]
    omega
end DL

namespace DL
open PySem hiding Env
open PySem.Spec PyProof.Rows L2
/-! ### told sessions -/
def b1__law_runs : Env → Os := (sIf (bAnd (b2 gtD (dN lenN (aCons (dVar 2) aNil)) (dC (.int 0))) (b2 leD (d2 subD (d2 ixD (dVar 3) (dC (.int 0))) (d2 ixD (d2 ixD (d2 ixD (dVar 2) (d1 negD (dC (.int 1)))) (d1 negD (dC (.int 1)))) (dC (.int 0)))) (dVar 1))) (sAppAt 2 (d1 negD (dC (.int 1))) (dFz (dVar 3))) (sApp 2 (dLst (aCons (dFz (dVar 3)) aNil))))
def g__law_runs : Env → Os := (sSeq (sSet 2 (dLst aNil))
    (sSeq (sFor (iSeq (dN sortN (aCons (dVar 0) aNil))) (tgN 3) b1__law_runs)
    (sRetV 2)))
def F__law_runs : List D → Ou D := runF 4 g__law_runs
def e1_plain_sessions : Env → Ou D := (dFz (d2 ixD (dVar 5) (dC (.int 1))))
def b1_plain_sessions : Env → Os := (sSeq (sSet 4 (dN tupleN (aCons (dLc (iSeqB (dVar 3)) 5 [5] bYes e1_plain_sessions) aNil)))
    (sApp 2 (dTup (aCons (dFz (d2 ixD (d2 ixD (dVar 3) (dC (.int 0))) (dC (.int 0)))) (aCons (dFz (d2 ixD (d2 ixD (dVar 3) (d1 negD (dC (.int 1)))) (dC (.int 0)))) (aCons (dFz (dVar 4)) aNil))))))
def g_plain_sessions : Env → Os := (sSeq (sSet 2 (dLst aNil))
    (sSeq (sFor (iSeq (dCall F_cut_runs (aCons (dVar 0) (aCons (dVar 1) aNil)))) (tgN 3) b1_plain_sessions)
    (sRetV 2)))
def F_plain_sessions : List D → Ou D := runF 6 g_plain_sessions
def e1__law_is_word : Env → Ou D := (dCall F__law_is_integer (aCons (dVar 1) aNil))
def g__law_is_word : Env → Os := (sRet (dAnd (dIsi .tuple (dVar 0)) (dN allN (aCons (dLc (iSeqB (dVar 0)) 1 [1] bYes e1__law_is_word) aNil))))
def F__law_is_word : List D → Ou D := runF 2 g__law_is_word
def g__law_is_told : Env → Os := (sRet (dAnd (dIsi .tuple (dVar 0)) (dAnd (dBl (b2 eqD (dN lenN (aCons (dVar 0) aNil)) (dC (.int 3)))) (dAnd (dCall F__law_is_integer (aCons (d2 ixD (dVar 0) (dC (.int 0))) aNil)) (dAnd (dCall F__law_is_integer (aCons (d2 ixD (dVar 0) (dC (.int 1))) aNil)) (dCall F__law_is_word (aCons (d2 ixD (dVar 0) (dC (.int 2))) aNil)))))))
def F__law_is_told : List D → Ou D := runF 1 g__law_is_told
theorem law_runs_loop (x0 : Option D) (g : Int) : ∀ (ps : List (Int × Int)) (don : List (List (Int × Int))) (cur : List (Int × Int)) (q : Int × Int) (o : Option D), don.length + cur.length + ps.length ≤ 100000 →
    ∃ o', loopS (tgN 3) b1__law_runs (E2 ps) [x0, some (.int g), some (.lst true (RD true (don ++ [cur ++ [q]]))), o] = .nx [x0, some (.int g), some (.lst true (RD true (don ++ cutFrom g cur q ps))), o']
  | [], don, cur, q, o, _ => ⟨o, rfl⟩
  | p :: ps, don, cur, q, o, hl => by
    simp only [List.length_cons] at hl
    have eR : ∀ r, RD true (don ++ [r]) = RD true don ++ [.lst true (E2 r)] := fun r => by simp [RD]
    have eE : E2 (cur ++ [q]) = E2 cur ++ [Dm.d q] := (Ds_snoc cur q).symm
    have i1 : ixD (.lst true (RD true (don ++ [cur ++ [q]]))) (.int (-1)) = some (.lst true (E2 (cur ++ [q]))) := by rw [eR]; exact ix_last
    have i2 : ixD (.lst true (E2 (cur ++ [q]))) (.int (-1)) = some (Dm.d q) := by rw [eE]; exact ix_last
    have ht : tru (.lst true (RD true (don ++ [cur ++ [q]]))) = some true := by rw [eR]; simp
    by_cases c : p.1 - q.1 ≤ g
    · obtain ⟨o', e⟩ := law_runs_loop x0 g ps don (cur ++ [q]) p (some (Dm.d p)) (by simp; omega)
      refine ⟨o', ?_⟩
      have ecut : cutFrom g cur q (p :: ps) = cutFrom g (cur ++ [q]) p ps := by rw [cutFrom, if_pos c]
      rw [ecut, ← e]
      refine loop_nx rfl ?_
      have hn : ixN (RD true (don ++ [cur ++ [q]])).length (-1) = some don.length := by
        rw [RD_len, List.length_append]; exact ixN_last
      have hg : (RD true (don ++ [cur ++ [q]]))[don.length]? = some (.lst true (E2 (cur ++ [q]))) := by
        rw [eR, List.getElem?_append_right (by simp)]; simp
      have hs : (RD true (don ++ [cur ++ [q]])).set don.length (.lst true (E2 (cur ++ [q]) ++ [Dm.d p])) = RD true (don ++ [cur ++ [q] ++ [p]]) := by
        rw [eR, eR, List.set_append_right _ _ (by simp), Ds_snoc]; simp
      have hb : (E2 (cur ++ [q])).length < LIM := lt_lim (by simp; omega)
      simp [b1__law_runs, ht, i1, i2, ix_P0, c, hn, hg, hb, hs, -Ds_len, -List.append_assoc]
      rw [ixN_last]
      simp only [hg, if_pos hb, hs]
    · obtain ⟨o', e⟩ := law_runs_loop x0 g ps (don ++ [cur ++ [q]]) [] p (some (Dm.d p)) (by simp; omega)
      refine ⟨o', ?_⟩
      have ecut : don ++ cutFrom g cur q (p :: ps) = don ++ [cur ++ [q]] ++ cutFrom g [] p ps := by rw [cutFrom, if_neg c]; simp
      rw [ecut, ← e]
      refine loop_nx rfl ?_
      have hb : (RD true (don ++ [cur ++ [q]])).length < LIM := lt_lim (by simp; omega)
      have hs : RD true (don ++ [cur ++ [q]]) ++ [.lst true [Dm.d p]] = RD true (don ++ [cur ++ [q]] ++ [[] ++ [p]]) := by
        rw [← RD_app true (don ++ [cur ++ [q]]) [[] ++ [p]]]
        rfl
      simp [b1__law_runs, ht, i1, i2, ix_P0, c, show don.length + 1 < LIM from lt_lim (by omega), le_lim', -List.append_assoc]
      exact hs
theorem law_runs_ok (o : Bool) (ps : List (Int × Int)) (g : Int) (h : ps.length ≤ 1000) : F__law_runs [.lst o (E2 ps), .int g] = .ok (.lst true (RD true (cutR g (srt ps)))) := by
  have hl := srt_len ps
  suffices ∃ o', loopS (tgN 3) b1__law_runs (E2 (srt ps)) [some (.lst o (E2 ps)), some (.int g), some (.lst true []), none] = .nx [some (.lst o (E2 ps)), some (.int g), some (.lst true (RD true (cutR g (srt ps)))), o'] by
    obtain ⟨o', e⟩ := this
    simp [F__law_runs, g__law_runs, runF, sortN_E2 o ps (by omega), seqOf_Ds, e]
  cases e : srt ps with
  | nil => exact ⟨none, rfl⟩
  | cons p qs =>
    rw [e] at hl
    simp only [List.length_cons] at hl
    obtain ⟨o', e1⟩ := law_runs_loop (some (.lst o (E2 ps))) g qs [] [] p (some (Dm.d p)) (by simp; omega)
    refine ⟨o', ?_⟩
    rw [show cutR g (p :: qs) = [] ++ cutFrom g [] p qs from rfl, ← e1]
    refine loop_nx rfl ?_
    simp [b1__law_runs, le_lim', lt_lim']
    rfl

/-- a told session: its first time, its last time, its word -/
structure Told where
  a : Int
  b : Int
  w : List Int
deriving DecidableEq
instance : Dm Told where
  d t := .tup [.int t.a, .int t.b, .tup (Ds t.w)]
  dep := 2
  fz t := by simp
  cln t := by
    show (true && (true && (D.clns (Ds t.w) && true))) = true
    simp
  okd t := by
    show (true && (true && (D.okds (Ds t.w) 0 && true))) = true
    rw [Ds_okds t.w (Nat.le_refl 0)]
    rfl
  eqv s t := by
    obtain ⟨a, b, w⟩ := s
    obtain ⟨a', b', w'⟩ := t
    simp only [D.py, D.pys, PyData.eqv, PyData.eqvAll, Bool.and_eq_true, Ds_eqv, Told.mk.injEq, and_true, beq_iff_eq]
def toldR (r : List Ev) : Told := ⟨(hd0 r).1, (ls0 r).1, r.map (·.2)⟩
theorem ix_T0 (t : Told) : ixD (Dm.d t) (.int 0) = some (.int t.a) := rfl
theorem ix_T1 (t : Told) : ixD (Dm.d t) (.int 1) = some (.int t.b) := rfl
theorem ix_T2 (t : Told) : ixD (Dm.d t) (.int 2) = some (.tup (Ds t.w)) := rfl
theorem is_word_ok (w : List Int) (h : w.length ≤ 100000) : F__law_is_word [.tup (Ds w)] = .ok (.bl true) := by
  have c1 : compG 1 bYes e1__law_is_word [some (.tup (Ds w)), none] (Ds w) [] = some ([] ++ w.map fun _ => .bl true) :=
    comp_mapE (by simp) Dm.d (fun _ => .bl true) w [] (fun p _ => by
      show e1__law_is_word [some (.tup (Ds w)), some (.int p)] = _
      simp [e1__law_is_word, is_integer_ok]) (by simp; omega)
  simp [F__law_is_word, g__law_is_word, runF, seqOfB_Ts, wipeE, c1, allN_true]
theorem is_told_ok (t : Told) (h : t.w.length ≤ 100000) : F__law_is_told [Dm.d t] = .ok (.bl true) := by
  have h1 : isiD .tuple (Dm.d t) = some true := rfl
  have h2 : lenN [Dm.d t] = some (.int 3) := rfl
  simp [F__law_is_told, g__law_is_told, runF, h1, h2, ix_T0, ix_T1, ix_T2, is_integer_ok, is_word_ok t.w h]
theorem first_run {r : List Ev} (h : r ≠ []) (o : Bool) : ixD (.lst o (E2 r)) (.int 0) = some (Dm.d (hd0 r)) := by
  cases r with
  | nil => exact absurd rfl h
  | cons p r => exact x_ixD (xs := p :: r) (o := o) (i := 0) (by decide) (by simp)
theorem last_run {r : List Ev} (h : r ≠ []) (o : Bool) : ixD (.lst o (E2 r)) (.int (-1)) = some (Dm.d (ls0 r)) := by
  rw [x_ixL1 h]
  unfold ls0
  rw [List.getLastD_eq_getLast?, List.getLast?_eq_some_getLast h]
  rfl
theorem ps_loop (x0 x1 : Option D) : ∀ (R : List (List Ev)) (acc : List Told) (o3 o4 : Option D), (∀ r ∈ R, r ≠ [] ∧ r.length ≤ 100000) → acc.length + R.length ≤ 100000 →
    ∃ o3' o4', loopS (tgN 3) b1_plain_sessions (RD false R) [x0, x1, some (.lst true (Ds acc)), o3, o4, none] = .nx [x0, x1, some (.lst true (Ds (acc ++ R.map toldR))), o3', o4', none]
  | [], acc, o3, o4, _, _ => ⟨o3, o4, by simp [RD, loopS]⟩
  | r :: R, acc, o3, o4, h, hl => by
    simp only [List.length_cons] at hl
    obtain ⟨hr, hr2⟩ := h r (List.mem_cons_self ..)
    obtain ⟨a, b, e⟩ := ps_loop x0 x1 R (acc ++ [toldR r]) (some (.lst false (E2 r))) (some (.tup (Ds (r.map (·.2))))) (fun x m => h x (List.mem_cons_of_mem _ m)) (by rw [List.length_append]; simp; omega)
    refine ⟨a, b, ?_⟩
    rw [show acc ++ (r :: R).map toldR = acc ++ [toldR r] ++ R.map toldR by simp, ← e]
    refine loop_nx rfl ?_
    have c1 : compG 5 bYes e1_plain_sessions [x0, x1, some (.lst true (Ds acc)), some (.lst false (E2 r)), o4, none] (E2 r) [] = some ([] ++ r.map fun p => .int p.2) :=
      comp_mapE (by simp) Dm.d (fun p => .int p.2) r [] (fun p _ => by simp [e1_plain_sessions, ix_P1]) (by simp; omega)
    have eI : (r.map fun p => D.int p.2) = Ds (r.map (·.2)) := by simp [Ds, Dm.d]
    have hb : acc.length < LIM := lt_lim (by omega)
    simp [b1_plain_sessions, seqOfB_Ds, wipeE, c1, eI, tupleN_Ds, first_run hr, last_run hr, ix_P0, le_lim', hb]
    exact Ds_snoc acc (toldR r)
def sess (g : Int) (ps : List Ev) : List Told := (cutR g (srt ps)).map toldR
theorem cut_runs_le (g : Int) (ps : List Ev) : ∀ r ∈ cutR g ps, r ≠ [] ∧ r.length ≤ ps.length := fun r hr => by
  obtain ⟨k, hk, e⟩ := List.getElem_of_mem hr
  refine ⟨e ▸ ((cutR_good g ps).at k hk).1, ?_⟩
  have : r.length ≤ (cutR g ps).flatten.length := (List.sublist_flatten_of_mem hr).length_le
  rwa [cutR_flat] at this
theorem cutR_len (g : Int) (ps : List Ev) : (cutR g ps).length ≤ ps.length := by
  have := (cutR_good g ps).len
  rwa [cutR_flat] at this
theorem plain_sessions_ok (o : Bool) (ps : List Ev) (g : Int) (h : ps.length ≤ 1000) : F_plain_sessions [.lst o (E2 ps), .int g] = .ok (.lst true (Ds (sess g ps))) := by
  have hl := srt_len ps
  have hc := cut_runs_ok false ps g h
  have hf : (D.lst o (E2 ps)).frz = .lst false (E2 ps) := by
    cases o
    · rfl
    · rw [fz_lstT, Ds_frzs]
  have hg := cutR_len g (srt ps)
  obtain ⟨a, b, e⟩ := ps_loop (some (.lst o (E2 ps))) (some (.int g)) (cutR g (srt ps)) [] none none (fun r hr => ⟨(cut_runs_le g _ r hr).1, by have := (cut_runs_le g _ r hr).2; omega⟩) (by simp; omega)
  have sq : seqOf (.lst true (RD true (cutR g (srt ps)))) = .ok (RD false (cutR g (srt ps))) := by
    show Ou.ok (D.frzs (RD true _)) = _
    rw [RD_frzs]
  simp only [Ds_nil] at e
  simp [F_plain_sessions, g_plain_sessions, runF, hf, hc, sq, e, sess]
theorem sess_w (g : Int) (ps : List Ev) (t : Told) (h : t ∈ sess g ps) : t.w.length ≤ ps.length := by
  obtain ⟨r, hr, rfl⟩ := List.mem_map.mp h
  have := (cut_runs_le g _ r hr).2
  rw [srt_len] at this
  simpa [toldR] using this
theorem sess_len (g : Int) (ps : List Ev) : (sess g ps).length ≤ ps.length := by
  have := cutR_len g (srt ps)
  rw [srt_len] at this
  simpa [sess] using this
end DL

namespace DL
open PySem hiding Env
open PySem.Spec PyProof.Rows L2
/-! ### the theory of runs: chains, uniqueness, one event more (no program in sight) -/
/-- steps of at most g -/
def Ch (g : Int) : List Ev → Prop
  | [] => True
  | [_] => True
  | a :: b :: l => b.1 - a.1 ≤ g ∧ Ch g (b :: l)
theorem Ch.tail {g : Int} {a : Ev} {l : List Ev} (h : Ch g (a :: l)) : Ch g l := by
  cases l with
  | nil => trivial
  | cons b l => exact h.2
theorem Ch_of_Wi {g : Int} : ∀ {r : List Ev}, Wi g r → Ch g r
  | [], _ => trivial
  | [_], _ => trivial
  | a :: b :: l, h => ⟨h 0 (by simp), Ch_of_Wi fun j hj => h (j + 1) (by simp at hj ⊢; omega)⟩
theorem Wi_of_Ch {g : Int} : ∀ {r : List Ev}, Ch g r → Wi g r
  | [], _, j, hj => by simp at hj
  | [_], _, j, hj => by simp at hj
  | a :: b :: l, h, 0, hj => h.1
  | a :: b :: l, h, j + 1, hj => Wi_of_Ch h.2 j (by simp at hj ⊢; omega)
theorem Ch_app {g : Int} : ∀ {l m : List Ev}, Ch g (l ++ m) ↔ Ch g l ∧ Ch g m ∧ (l ≠ [] → m ≠ [] → (hd0 m).1 - (ls0 l).1 ≤ g)
  | [], m => by simp [Ch]
  | [a], [] => by simp [Ch]
  | [a], b :: m => by
    simp [Ch, hd0, ls0]
    exact And.comm
  | a :: b :: l, m => by
    have ih := Ch_app (g := g) (l := b :: l) (m := m)
    show (b.1 - a.1 ≤ g ∧ Ch g (b :: l ++ m)) ↔ _
    rw [ih]
    have e : ls0 (a :: b :: l) = ls0 (b :: l) := by simp [ls0]
    rw [e]
    simp only [Ch, ne_eq, reduceCtorEq, not_false_eq_true, true_implies]
    constructor
    · rintro ⟨h1, h2, h3, h4⟩; exact ⟨⟨h1, h2⟩, h3, h4⟩
    · rintro ⟨⟨h1, h2⟩, h3, h4⟩; exact ⟨h1, h2, h3, h4⟩
theorem hd0_app {l m : List Ev} (h : l ≠ []) : hd0 (l ++ m) = hd0 l := by
  cases l with
  | nil => exact absurd rfl h
  | cons a l => rfl
theorem ls0_app {l m : List Ev} (h : m ≠ []) : ls0 (l ++ m) = ls0 m := by
  unfold ls0
  rw [List.getLastD_eq_getLast?, List.getLastD_eq_getLast?, List.getLast?_append, List.getLast?_eq_some_getLast h]
  rfl
theorem ls0_cons {a : Ev} {m : List Ev} (h : m ≠ []) : ls0 (a :: m) = ls0 m := ls0_app (l := [a]) h
theorem hd0_mem {l : List Ev} (h : l ≠ []) : hd0 l ∈ l := by
  cases l with
  | nil => exact absurd rfl h
  | cons a l => exact List.mem_cons_self ..
theorem ls0_mem {l : List Ev} (h : l ≠ []) : ls0 l ∈ l := by
  unfold ls0
  rw [List.getLastD_eq_getLast?, List.getLast?_eq_some_getLast h]
  exact List.getLast_mem h
theorem GoodR_cons {g : Int} {r : List Ev} {R : List (List Ev)} : GoodR g (r :: R) ↔ r ≠ [] ∧ Wi g r ∧ (R ≠ [] → g < (hd0 (R.headD [])).1 - (ls0 r).1) ∧ GoodR g R := by
  cases R with
  | nil => simp [GoodR]
  | cons r2 R => simp [GoodR]
/-- the partition into runs is the only one -/
theorem cutFrom_eq {g : Int} : ∀ (t cur : List Ev) (q : Ev) (R : List (List Ev)), Ch g (q :: t) → GoodR g R → (R ≠ [] → g < (hd0 (R.headD [])).1 - (ls0 (q :: t)).1) →
    (∀ p ps, R.flatten = p :: ps → cutFrom g [] p ps = R) → cutFrom g cur q (t ++ R.flatten) = (cur ++ q :: t) :: R
  | [], cur, q, [], _, _, _, _ => by simp [cutFrom]
  | [], cur, q, r :: R, _, h, hg, ih => by
    obtain ⟨p, ps, e⟩ : ∃ p ps, (r :: R).flatten = p :: ps := by
      cases r with
      | nil => exact absurd rfl (GoodR_cons.mp h).1
      | cons p ps => exact ⟨p, ps ++ R.flatten, rfl⟩
    have e1 : hd0 r = p := by
      cases r with
      | nil => exact absurd rfl (GoodR_cons.mp h).1
      | cons p' ps' =>
        simp only [List.flatten_cons, List.cons_append, List.cons.injEq] at e
        exact e.1
    have hg := hg (by simp)
    simp only [List.headD_cons, e1] at hg
    rw [List.nil_append, e, cutFrom, if_neg (by simp [ls0] at hg; omega), ih p ps e]
  | p :: t, cur, q, R, hc, h, hg, ih => by
    have := cutFrom_eq t (cur ++ [q]) p R hc.2 h (fun z => by
      have := hg z
      rwa [ls0_cons (by simp)] at this) ih
    rw [List.cons_append, cutFrom, if_pos hc.1, this]
    simp
theorem cutR_eq {g : Int} : ∀ {R : List (List Ev)}, GoodR g R → cutR g R.flatten = R
  | [], _ => rfl
  | r :: R, h => by
    obtain ⟨h1, h2, h3, h4⟩ := GoodR_cons.mp h
    have ih := cutR_eq h4
    cases r with
    | nil => exact absurd rfl h1
    | cons q t =>
      show cutFrom g [] q (t ++ R.flatten) = _
      rw [cutFrom_eq t [] q R (Ch_of_Wi h2) h4 h3 fun p ps e => by rw [e] at ih; exact ih]
      simp
theorem GoodR_app {g : Int} : ∀ {A B : List (List Ev)}, GoodR g (A ++ B) ↔ GoodR g A ∧ GoodR g B ∧ (A ≠ [] → B ≠ [] → g < (hd0 (B.headD [])).1 - (ls0 (A.getLastD [])).1)
  | [], B => by simp [GoodR]
  | [a], B => by
    rw [show [a] ++ B = a :: B from rfl, GoodR_cons]
    cases B with
    | nil => simp [GoodR]
    | cons b B =>
      simp [GoodR]
      constructor
      · rintro ⟨h1, h2, h3, h4⟩; exact ⟨⟨h1, h2⟩, h4, h3⟩
      · rintro ⟨⟨h1, h2⟩, h4, h3⟩; exact ⟨h1, h2, h3, h4⟩
  | a :: a2 :: A, B => by
    have ih := GoodR_app (g := g) (A := a2 :: A) (B := B)
    rw [show a :: a2 :: A ++ B = a :: (a2 :: A ++ B) from rfl, GoodR_cons, ih, GoodR_cons (r := a) (R := a2 :: A)]
    simp
    constructor
    · rintro ⟨h1, h2, h3, h4, h5, h6⟩; exact ⟨⟨h1, h2, h3, h4⟩, h5, h6⟩
    · rintro ⟨⟨h1, h2, h3, h4⟩, h5, h6⟩; exact ⟨h1, h2, h3, h4, h5, h6⟩
/-- ascending -/
abbrev Asc (l : List Ev) : Prop := l.Pairwise fun a b => leP a b = true
theorem leP_le {a b : Ev} (h : leP a b = true) : a.1 ≤ b.1 := by
  unfold leP at h
  simp only [decide_eq_true_eq] at h
  omega
theorem srt_of {l m : List Ev} (h : Asc l) (p : l.Perm m) : srt m = l :=
  List.Perm.eq_of_pairwise (le := fun a b => leP a b = true) (fun a b _ _ h1 h2 => leP_anti a b h1 h2) (srt_pw m) h ((srt_perm m).trans p.symm)
theorem Asc.hd {l : List Ev} (h : Asc l) {x : Ev} (hx : x ∈ l) : (hd0 l).1 ≤ x.1 := by
  cases l with
  | nil => cases hx
  | cons a l =>
    rcases List.mem_cons.mp hx with rfl | hx
    · exact Int.le_refl _
    · exact leP_le ((List.pairwise_cons.mp h).1 x hx)
theorem Asc.ls : ∀ {l : List Ev}, Asc l → ∀ {x : Ev}, x ∈ l → x.1 ≤ (ls0 l).1
  | [a], _, x, hx => by
    rw [List.mem_singleton.mp hx]
    exact Int.le_refl _
  | a :: b :: l, h, x, hx => by
    rw [ls0_cons (by simp)]
    rcases List.mem_cons.mp hx with rfl | hx
    · have h1 := leP_le ((List.pairwise_cons.mp h).1 b (List.mem_cons_self ..))
      have h2 := Asc.ls (List.pairwise_cons.mp h).2 (List.mem_cons_self (a := b) (l := l))
      omega
    · exact Asc.ls (List.pairwise_cons.mp h).2 hx
theorem Asc.app {l m : List Ev} : Asc (l ++ m) ↔ Asc l ∧ Asc m ∧ ∀ a ∈ l, ∀ b ∈ m, leP a b = true := List.pairwise_append
/-- three parts: ended ahead of t, met by t, begun behind t -/
theorem split3 {g t : Int} (hg : 0 ≤ g) : ∀ {R : List (List Ev)}, GoodR g R → Asc R.flatten → ∃ A M B, R = A ++ M ++ B ∧ (∀ r ∈ A, (ls0 r).1 + g < t) ∧ (∀ r ∈ M, (hd0 r).1 - g ≤ t ∧ t ≤ (ls0 r).1 + g) ∧ (∀ r ∈ B, t < (hd0 r).1 - g)
  | [], _, _ => ⟨[], [], [], rfl, by simp, by simp, by simp⟩
  | r :: R, h, ha => by
    obtain ⟨h1, h2, h3, h4⟩ := GoodR_cons.mp h
    rw [List.flatten_cons, Asc.app] at ha
    obtain ⟨a1, a2, a3⟩ := ha
    obtain ⟨A, M, B, e, hA, hM, hB⟩ := split3 hg h4 a2
    by_cases c1 : (ls0 r).1 + g < t
    · refine ⟨r :: A, M, B, by rw [e]; rfl, fun x hx => ?_, hM, hB⟩
      rcases List.mem_cons.mp hx with rfl | hx
      · exact c1
      · exact hA x hx
    · -- no run behind r has ended ahead of t
      have nA : A = [] := by
        cases A with
        | nil => rfl
        | cons x A =>
          exfalso
          have hx := hA x (List.mem_cons_self ..)
          have hne : R ≠ [] := by rw [e]; simp
          have h3 := h3 hne
          have eh : R.headD [] = x := by rw [e]; rfl
          rw [eh] at h3
          have xne : x ≠ [] := by
            rw [e] at h4
            exact (GoodR_cons.mp h4).1
          have xa : Asc x := by
            rw [e] at a2
            exact (Asc.app.mp a2).1
          have := xa.ls (hd0_mem xne)
          omega
      subst nA
      by_cases c2 : (hd0 r).1 - g ≤ t
      · refine ⟨[], r :: M, B, by rw [e]; rfl, by simp, fun x hx => ?_, hB⟩
        rcases List.mem_cons.mp hx with rfl | hx
        · exact ⟨c2, by omega⟩
        · exact hM x hx
      · have nM : M = [] := by
          cases M with
          | nil => rfl
          | cons x M =>
            exfalso
            have hx := hM x (List.mem_cons_self ..)
            have hne : R ≠ [] := by rw [e]; simp
            have h3 := h3 hne
            have eh : R.headD [] = x := by rw [e]; rfl
            rw [eh] at h3
            have := a1.ls (hd0_mem h1)
            omega
        subst nM
        refine ⟨[], [], r :: B, by rw [e]; rfl, by simp, by simp, fun x hx => ?_⟩
        rcases List.mem_cons.mp hx with rfl | hx
        · omega
        · exact hB x hx
theorem mem_run {x : Ev} {R : List (List Ev)} (h : x ∈ R.flatten) : ∃ r ∈ R, x ∈ r := by
  obtain ⟨r, h1, h2⟩ := List.mem_flatten.mp h
  exact ⟨r, h1, h2⟩
/-- what lies in different parts lies further apart than the gap -/
theorem GoodR.far {g : Int} : ∀ {A N : List (List Ev)}, GoodR g (A ++ N) → Asc (A ++ N).flatten → 0 ≤ g → ∀ y ∈ A.flatten, ∀ x ∈ N.flatten, g < x.1 - y.1
  | [], N, _, _, _, y, hy, _, _ => by cases hy
  | a :: A, N, h, ha, hg, y, hy, x, hx => by
    rw [List.cons_append] at h ha
    obtain ⟨h1, h2, h3, h4⟩ := GoodR_cons.mp h
    rw [List.flatten_cons, Asc.app] at ha
    obtain ⟨a1, a2, a3⟩ := ha
    rw [List.flatten_cons] at hy
    rcases List.mem_append.mp hy with hy | hy
    · have hx2 : x ∈ (A ++ N).flatten := by
        rw [List.flatten_append]
        exact List.mem_append_right _ hx
      have hne : A ++ N ≠ [] := fun z => by rw [z] at hx2; cases hx2
      have h3 := h3 hne
      have hy2 := a1.ls hy
      obtain ⟨r, R, e⟩ : ∃ r R, A ++ N = r :: R := by
        cases e : A ++ N with
        | nil => exact absurd e hne
        | cons r R => exact ⟨r, R, rfl⟩
      rw [e] at h3 h4 hx2 a2
      have rne := (GoodR_cons.mp h4).1
      have := a2.hd hx2
      rw [List.flatten_cons, hd0_app rne] at this
      simp only [List.headD_cons] at h3
      omega
    · exact GoodR.far h4 a2 hg y hy x hx
theorem GoodR.ne {g : Int} {R : List (List Ev)} (h : GoodR g R) {r : List Ev} (hr : r ∈ R) : r ≠ [] := by
  obtain ⟨k, hk, e⟩ := List.getElem_of_mem hr
  exact e ▸ (h.at k hk).1
theorem GoodR.join {g : Int} {A N : List (List Ev)} (hA : GoodR g A) (hN : GoodR g N) (hf : ∀ y ∈ A.flatten, ∀ x ∈ N.flatten, g < x.1 - y.1) : GoodR g (A ++ N) := by
  refine GoodR_app.mpr ⟨hA, hN, fun a b => ?_⟩
  have m1 : A.getLastD [] ∈ A := by
    rw [List.getLastD_eq_getLast?, List.getLast?_eq_some_getLast a]
    exact List.getLast_mem a
  have m2 : N.headD [] ∈ N := by
    cases N with
    | nil => exact absurd rfl b
    | cons n N => exact List.mem_cons_self ..
  exact hf _ (List.mem_flatten.mpr ⟨_, m1, ls0_mem (hA.ne m1)⟩) _ (List.mem_flatten.mpr ⟨_, m2, hd0_mem (hN.ne m2)⟩)
theorem asc_split (e : Ev) : ∀ {r : List Ev}, Asc r → ∃ L H, r = L ++ H ∧ (∀ x ∈ L, leP x e = true) ∧ ∀ x ∈ H, leP e x = true
  | [], _ => ⟨[], [], rfl, by simp, by simp⟩
  | a :: r, h => by
    obtain ⟨h1, h2⟩ := List.pairwise_cons.mp h
    by_cases c : leP a e = true
    · obtain ⟨L, H, e1, e2, e3⟩ := asc_split e h2
      refine ⟨a :: L, H, by rw [e1]; rfl, fun x hx => ?_, e3⟩
      rcases List.mem_cons.mp hx with rfl | hx
      · exact c
      · exact e2 x hx
    · have c2 : leP e a = true := by
        have := leP_total a e
        rw [Bool.or_eq_true_iff] at this
        exact this.resolve_left c
      refine ⟨[], a :: r, rfl, by simp, fun x hx => ?_⟩
      rcases List.mem_cons.mp hx with rfl | hx
      · exact c2
      · exact leP_trans _ _ _ c2 (h1 x hx)
theorem ne_nil_of {l : List Ev} {x : Ev} (h : x ∈ l) : l ≠ [] := fun z => by rw [z] at h; cases h
/-- the met runs and the event as one chain -/
theorem merge_met {g : Int} (hg : 0 ≤ g) (e : Ev) {M : List (List Ev)} (h : GoodR g M) (ha : Asc M.flatten) (hm : ∀ r ∈ M, (hd0 r).1 - g ≤ e.1 ∧ e.1 ≤ (ls0 r).1 + g) :
    M.length ≤ 2 ∧ ∃ L H, M.flatten = L ++ H ∧ (∀ x ∈ L, leP x e = true) ∧ (∀ x ∈ H, leP e x = true) ∧ Ch g (L ++ e :: H) := by
  match M, h, ha, hm with
  | [], _, _, _ => exact ⟨by simp, [], [], rfl, by simp, by simp, trivial⟩
  | [r], h, ha, hm =>
    have ha : Asc r := by simpa using ha
    obtain ⟨m1, m2⟩ := hm r (List.mem_cons_self ..)
    obtain ⟨L, H, e1, e2, e3⟩ := asc_split e ha
    have hc : Ch g (L ++ H) := e1 ▸ Ch_of_Wi h.2
    obtain ⟨c1, c2, c3⟩ := Ch_app.mp hc
    refine ⟨by simp, L, H, by simp [e1], e2, e3, ?_⟩
    have cH : Ch g (e :: H) := by
      refine (Ch_app (l := [e]) (m := H)).mpr ⟨trivial, c2, fun _ hH => ?_⟩
      show (hd0 H).1 - e.1 ≤ g
      by_cases z : L = []
      · have : hd0 r = hd0 H := by rw [e1, z]; rfl
        rw [this] at m1
        omega
      · have := c3 z hH
        have := leP_le (e2 _ (ls0_mem z))
        omega
    refine Ch_app.mpr ⟨c1, cH, fun hL _ => ?_⟩
    show e.1 - (ls0 L).1 ≤ g
    by_cases z : H = []
    · have : ls0 r = ls0 L := by rw [e1, z, List.append_nil]
      rw [this] at m2
      omega
    · have := c3 hL z
      have := leP_le (e3 _ (hd0_mem z))
      omega
  | [r1, r2], h, ha, hm =>
    obtain ⟨n1, w1, st, n2, w2⟩ := h
    obtain ⟨m1, m2⟩ := hm r1 (List.mem_cons_self ..)
    obtain ⟨m3, m4⟩ := hm r2 (List.mem_cons_of_mem _ (List.mem_cons_self ..))
    have ha : Asc (r1 ++ r2) := by simpa using ha
    obtain ⟨a1, a2, _⟩ := Asc.app.mp ha
    refine ⟨by simp, r1, r2, by simp, fun x hx => ?_, fun x hx => ?_, ?_⟩
    · have := a1.ls hx
      unfold leP
      rw [decide_eq_true_eq]
      omega
    · have := a2.hd hx
      unfold leP
      rw [decide_eq_true_eq]
      omega
    · refine Ch_app.mpr ⟨Ch_of_Wi w1, (Ch_app (l := [e]) (m := r2)).mpr ⟨trivial, Ch_of_Wi w2, fun _ _ => ?_⟩, fun _ _ => ?_⟩
      · show (hd0 r2).1 - e.1 ≤ g
        omega
      · show e.1 - (ls0 r1).1 ≤ g
        omega
  | r1 :: r2 :: r3 :: M, h, ha, hm =>
    exfalso
    obtain ⟨n1, w1, st, h⟩ := h
    obtain ⟨n2, w2, st2, _⟩ := GoodR_cons.mp h
    have st2 := st2 (by simp)
    simp only [List.headD_cons] at st2
    obtain ⟨m1, m2⟩ := hm r1 (List.mem_cons_self ..)
    obtain ⟨m3, m4⟩ := hm r3 (by simp)
    have a2 : Asc r2 := by
      simp only [List.flatten_cons, Asc.app] at ha
      exact ha.2.1.1
    have := a2.ls (hd0_mem n2)
    omega
theorem GoodR.one {g : Int} {r : List Ev} (h : r ≠ []) (c : Ch g r) : GoodR g [r] := ⟨h, Wi_of_Ch c⟩
/-- ONE EVENT MORE -/
theorem insert_run {g : Int} (hg : 0 ≤ g) (e : Ev) {A M B : List (List Ev)} (h : GoodR g (A ++ M ++ B)) (ha : Asc (A ++ M ++ B).flatten)
    (hA : ∀ r ∈ A, (ls0 r).1 + g < e.1) (hM : ∀ r ∈ M, (hd0 r).1 - g ≤ e.1 ∧ e.1 ≤ (ls0 r).1 + g) (hB : ∀ r ∈ B, e.1 < (hd0 r).1 - g) :
    M.length ≤ 2 ∧ ∃ mg, GoodR g (A ++ [mg] ++ B) ∧ Asc (A ++ [mg] ++ B).flatten ∧ Asc mg ∧ mg.Perm (e :: M.flatten) ∧ mg ≠ [] ∧
      (∀ y ∈ A.flatten, ∀ x ∈ mg, g < x.1 - y.1) ∧ (∀ y ∈ mg, ∀ x ∈ B.flatten, g < x.1 - y.1) := by
  have h1 := (GoodR_app.mp h).1
  have hB' := (GoodR_app.mp h).2.1
  obtain ⟨hA', hM', _⟩ := GoodR_app.mp h1
  have ha2 := ha
  rw [List.flatten_append, List.flatten_append, Asc.app, Asc.app] at ha2
  obtain ⟨⟨aA, aM, _⟩, aB, _⟩ := ha2
  obtain ⟨len, L, H, eM, e2, e3, hc⟩ := merge_met hg e hM' aM hM
  rw [eM, Asc.app] at aM
  obtain ⟨aL, aH, aLH⟩ := aM
  have fAM : ∀ y ∈ A.flatten, ∀ x ∈ (M ++ B).flatten, g < x.1 - y.1 := by
    rw [List.append_assoc] at h ha
    exact h.far ha hg
  have fMB : ∀ y ∈ (A ++ M).flatten, ∀ x ∈ B.flatten, g < x.1 - y.1 := h.far ha hg
  have memg : ∀ x ∈ L ++ e :: H, x = e ∨ x ∈ M.flatten := fun x hx => by
    rw [eM]
    rcases List.mem_append.mp hx with z | z
    · exact .inr (List.mem_append_left _ z)
    · rcases List.mem_cons.mp z with z | z
      · exact .inl z
      · exact .inr (List.mem_append_right _ z)
  have f1 : ∀ y ∈ A.flatten, ∀ x ∈ L ++ e :: H, g < x.1 - y.1 := fun y hy x hx => by
    rcases memg x hx with rfl | hx
    · obtain ⟨r, hr, hy⟩ := mem_run hy
      have ar : Asc r := List.Pairwise.sublist (List.sublist_flatten_of_mem hr) aA
      have := ar.ls hy
      have := hA r hr
      omega
    · exact fAM y hy x (by rw [List.flatten_append]; exact List.mem_append_left _ hx)
  have f2 : ∀ y ∈ L ++ e :: H, ∀ x ∈ B.flatten, g < x.1 - y.1 := fun y hy x hx => by
    rcases memg y hy with rfl | hy
    · obtain ⟨r, hr, hx⟩ := mem_run hx
      have ar : Asc r := List.Pairwise.sublist (List.sublist_flatten_of_mem hr) aB
      have := ar.hd hx
      have := hB r hr
      omega
    · exact fMB y (by rw [List.flatten_append]; exact List.mem_append_right _ hy) x hx
  have f3 : ∀ y ∈ A.flatten, ∀ x ∈ B.flatten, g < x.1 - y.1 := fun y hy x hx => fMB y (by rw [List.flatten_append]; exact List.mem_append_left _ hy) x hx
  have am : Asc (L ++ e :: H) := by
    rw [Asc.app]
    refine ⟨aL, List.pairwise_cons.mpr ⟨e3, aH⟩, fun a ha b hb => ?_⟩
    rcases List.mem_cons.mp hb with rfl | hb
    · exact e2 a ha
    · exact aLH a ha b hb
  have lt : ∀ {a b : Ev}, g < b.1 - a.1 → leP a b = true := fun {a b} h => by
    unfold leP
    rw [decide_eq_true_eq]
    omega
  refine ⟨len, L ++ e :: H, ?_, ?_, am, ?_, by simp, f1, f2⟩
  · refine GoodR.join (GoodR.join hA' (GoodR.one (by simp) hc) ?_) hB' ?_
    · simpa using f1
    · intro y hy x hx
      rw [List.flatten_append] at hy
      rcases List.mem_append.mp hy with hy | hy
      · exact f3 y hy x hx
      · exact f2 y (by simpa using hy) x hx
  · rw [List.flatten_append, List.flatten_append, Asc.app, Asc.app]
    refine ⟨⟨aA, by simpa using am, fun a ha b hb => lt (f1 a ha b (by simpa using hb))⟩, aB, fun a ha b hb => ?_⟩
    rcases List.mem_append.mp ha with ha | ha
    · exact lt (f3 a ha b hb)
    · exact lt (f2 a (by simpa using ha) b hb)
  · rw [eM]
    exact List.perm_middle
end DL

namespace Lw
open PySem hiding Env
open PySem.Spec PyProof.Rows L2 DL

/-! ### the program's text -/
def topS (i : Nat) : Stmt := PySem.Challenge.pw_gapsittings_k07_one_event_more.main.body.getD i (.Pass ⟨0, 0, 0, 0⟩)
abbrev FnP (K : PySem.W.Frag) (x : Str) (st : Stmt) (f : Addr) (fd : FuncData) : Prop := FunD K x x (defArgs st) (defBody st) (defScope st) [] [] f fd
theorem sc__law_row : FnScope ["_law_cell_here", "_law_count_here", "_law_size", "_law_row_here", "_law_k", "_law_seed", "_law_mixed"] ["_law_cell_here", "_law_count_here"] (defScope (topS 6)) := ⟨rfl, rfl, rfl, by decide +kernel, rfl, by decide +kernel, by decide +kernel⟩

theorem sc__law_count : FnScope ["_law_number", "_law_most"] ["_law_number", "_law_most"] (defScope (topS 8)) := ⟨rfl, rfl, rfl, by decide +kernel, rfl, by decide +kernel, by decide +kernel⟩

theorem sc__law_gap : FnScope ["_law_number"] ["_law_number"] (defScope (topS 9)) := ⟨rfl, rfl, rfl, by decide +kernel, rfl, by decide +kernel, by decide +kernel⟩

theorem sc__law_big : FnScope ["_law_cell_here", "_law_number"] ["_law_cell_here"] (defScope (topS 7)) := ⟨rfl, rfl, rfl, by decide +kernel, rfl, by decide +kernel, by decide +kernel⟩

theorem sc__law_value : FnScope ["_law_number", "_law_other", "_law_big_here"] ["_law_number", "_law_other", "_law_big_here"] (defScope (topS 10)) := ⟨rfl, rfl, rfl, by decide +kernel, rfl, by decide +kernel, by decide +kernel⟩

theorem sc__law_events : FnScope ["_law_row_here", "_law_count_here", "_law_g", "_law_start", "_law_room", "_law_big_here", "_law_events_here", "_law_k", "_law_time"] ["_law_row_here", "_law_count_here", "_law_g", "_law_start", "_law_room", "_law_big_here"] (defScope (topS 11)) := ⟨rfl, rfl, rfl, by decide +kernel, rfl, by decide +kernel, by decide +kernel⟩

theorem sc_ordered : FnScope ["events"] ["events"] (defScope (topS 1)) := ⟨rfl, rfl, rfl, by decide +kernel, rfl, by decide +kernel, by decide +kernel⟩

theorem sc_cut_runs : FnScope ["events", "gap", "runs", "event"] ["events", "gap"] (defScope (topS 2)) := ⟨rfl, rfl, rfl, by decide +kernel, rfl, by decide +kernel, by decide +kernel⟩

theorem sc_plain_sessions : FnScope ["events", "gap", "rows", "run", "word", "event"] ["events", "gap"] (defScope (topS 3)) := ⟨rfl, rfl, rfl, by decide +kernel, rfl, by decide +kernel, by decide +kernel⟩

theorem sc__law_cell : FnScope ["_law_script", "_law_k"] ["_law_script", "_law_k"] (defScope (topS 5)) := ⟨rfl, rfl, rfl, by decide +kernel, rfl, by decide +kernel, by decide +kernel⟩

theorem sc__law_is_integer : FnScope ["_law_x"] ["_law_x"] (defScope (topS 12)) := ⟨rfl, rfl, rfl, by decide +kernel, rfl, by decide +kernel, by decide +kernel⟩

theorem sc__law_is_word : FnScope ["_law_x", "_law_part"] ["_law_x"] (defScope (topS 13)) := ⟨rfl, rfl, rfl, by decide +kernel, rfl, by decide +kernel, by decide +kernel⟩

theorem sc__law_is_told : FnScope ["_law_x"] ["_law_x"] (defScope (topS 14)) := ⟨rfl, rfl, rfl, by decide +kernel, rfl, by decide +kernel, by decide +kernel⟩

theorem sc__law_are_told : FnScope ["_law_rows", "_law_row_here"] ["_law_rows"] (defScope (topS 15)) := ⟨rfl, rfl, rfl, by decide +kernel, rfl, by decide +kernel, by decide +kernel⟩
def e1__law_are_told : Env → Ou D := (dCall F__law_is_told (aCons (dVar 1) aNil))
def g__law_are_told : Env → Os := (sRet (dAnd (dIsi .list (dVar 0)) (dN allN (aCons (dLc (iSeqB (dVar 0)) 1 [1] bYes e1__law_are_told) aNil))))
def F__law_are_told : List D → Ou D := runF 2 g__law_are_told
theorem sc_law : FnScope ["_law_script", "_law_main", "_law_count_here", "_law_g", "_law_row_here", "_law_start", "_law_big_here", "_law_room", "_law_events_here", "_law_time", "_law_event", "_law_before", "_law_after", "_law_gone", "_law_come", "_law_low", "_law_high", "_law_told", "_law_met", "_law_inside", "_law_other"] ["_law_script"] (defScope (topS 16)) := ⟨rfl, rfl, rfl, by decide +kernel, rfl, by decide +kernel, by decide +kernel⟩
def e1_law : Env → Ou D := (dFz (dVar 17))
def e2_law : Env → Ou D := (dFz (dVar 17))
def b1_law : Env → Os := (sSeq (sSet 18 (dAnd (dBl (b2 leD (d2 subD (d2 ixD (dVar 17) (dC (.int 0))) (dVar 3)) (dVar 9))) (dBl (b2 leD (dVar 9) (d2 addD (d2 ixD (dVar 17) (dC (.int 1))) (dVar 3))))))
    (sSeq (sIf (b2 neD (dVar 18) (dBl (b2 inD (dVar 17) (dVar 13)))) (sRet (dC (.bl false))) sNil)
    (sIf (bTru (dVar 18)) (sSeq (sSet 15 (dN min2N (aCons (dVar 15) (aCons (d2 ixD (dVar 17) (dC (.int 0))) aNil))))
    (sSet 16 (dN max2N (aCons (dVar 16) (aCons (d2 ixD (dVar 17) (dC (.int 1))) aNil))))) sNil)))
def e3_law : Env → Ou D := (dFz (dVar 20))
def e4_law : Env → Ou D := (dFz (d2 ixD (dVar 20) (dC (.int 1))))
def t22_law : Env → Os := (sRet (dBl (b2 eqD (d2 ixD (dVar 14) (dC (.int 0))) (dTup (aCons (dFz (dVar 15)) (aCons (dFz (dVar 16)) (aCons (dN tupleN (aCons (dLc (iSeqB (dVar 19)) 20 [20] bYes e4_law) aNil)) aNil)))))))
def t21_law : Env → Os := (sSeq (sSet 19 (dN sortN (aCons (d2 addD (dLc (iSeqB (dVar 8)) 20 [20] (bAnd (b2 leD (dVar 15) (d2 ixD (dVar 20) (dC (.int 0)))) (b2 leD (d2 ixD (dVar 20) (dC (.int 0))) (dVar 16))) e3_law) (dLst (aCons (dFz (dVar 10)) aNil))) aNil)))
    t22_law)
def t20_law : Env → Os := (sFrz 11 (sSeq (sFor (iSeq (dFz (dVar 11))) (tgN 17) b1_law)
    t21_law))
def t19_law : Env → Os := (sSeq (sSet 16 (dFz (dVar 9)))
    t20_law)
def t18_law : Env → Os := (sSeq (sSet 15 (dFz (dVar 9)))
    t19_law)
def t17_law : Env → Os := (sSeq (sIf (bOr (b2 neD (dN lenN (aCons (dVar 14) aNil)) (dC (.int 1))) (b2 gtD (dN lenN (aCons (dVar 13) aNil)) (dC (.int 2)))) (sRet (dC (.bl false))) sNil)
    t18_law)
def t16_law : Env → Os := (sSeq (sSet 14 (dLc (iSeqB (dVar 12)) 17 [17] (b2 notInD (dVar 17) (dVar 11)) e2_law))
    t17_law)
def t15_law : Env → Os := (sSeq (sSet 13 (dLc (iSeqB (dVar 11)) 17 [17] (b2 notInD (dVar 17) (dVar 12)) e1_law))
    t16_law)
def t14_law : Env → Os := (sSeq (sIf (bOr (bNot (bTru (dCall F__law_are_told (aCons (dVar 11) aNil)))) (bNot (bTru (dCall F__law_are_told (aCons (dVar 12) aNil))))) (sRet (dC (.bl false))) sNil)
    t15_law)
def t13_law : Env → Os := (sSeq (sSet 12 (dCall F_plain_sessions (aCons (d2 addD (dVar 8) (dLst (aCons (dFz (dVar 10)) aNil))) (aCons (dVar 3) aNil))))
    t14_law)
def t12_law : Env → Os := (sSeq (sSet 11 (dCall F_plain_sessions (aCons (dN listN (aCons (dVar 8) aNil)) (aCons (dVar 3) aNil))))
    t13_law)
def t11_law : Env → Os := (sSeq (sSet 10 (dTup (aCons (dFz (dVar 9)) (aCons (dCall F__law_value (aCons (d2 ixD (dVar 1) (dC (.int 6))) (aCons (d2 ixD (dVar 1) (dC (.int 7))) (aCons (dVar 6) aNil)))) aNil))))
    t12_law)
def t10_law : Env → Os := (sSeq (sIf (bAnd (b2 gtD (dVar 2) (dC (.int 0))) (b2 eqD (d2 modD (dN intN (aCons (d2 ixD (dVar 1) (dC (.int 4))) aNil)) (dC (.int 2))) (dC (.int 1)))) (sFrz 3 (sSet 9 (d2 addD (d2 ixD (d2 ixD (dVar 8) (d2 modD (dN intN (aCons (d2 ixD (dVar 1) (dC (.int 3))) aNil)) (dVar 2))) (dC (.int 0))) (d2 ixD (dLst (aCons (dC (.int 0)) (aCons (dFz (dVar 3)) (aCons (d1 negD (dVar 3)) (aCons (d2 addD (dVar 3) (dC (.int 1))) (aCons (d2 subD (d1 negD (dVar 3)) (dC (.int 1))) (aCons (dC (.int 1)) aNil))))))) (d2 modD (dN intN (aCons (d2 ixD (dVar 1) (dC (.int 5))) aNil)) (dC (.int 6))))))) sNil)
    t11_law)
def t9_law : Env → Os := (sSeq (sSet 9 (d2 addD (dVar 5) (d2 fdivD (d2 mulD (d2 modD (dN intN (aCons (d2 ixD (dVar 1) (dC (.int 3))) aNil)) (dVar 7)) (dVar 3)) (dC (.int 2)))))
    t10_law)
def t8_law : Env → Os := (sSeq (sSet 8 (dCall F__law_events (aCons (dVar 4) (aCons (dVar 2) (aCons (dVar 3) (aCons (dVar 5) (aCons (dVar 7) (aCons (dVar 6) aNil))))))))
    t9_law)
def t7_law : Env → Os := (sSeq (sSet 7 (d2 addD (dC (.int 1)) (d2 modD (dN intN (aCons (d2 ixD (dVar 1) (dC (.int 2))) aNil)) (dC (.int 40)))))
    t8_law)
def t6_law : Env → Os := (sSeq (sSet 6 (dCall F__law_big (aCons (dCall F__law_cell (aCons (dVar 0) (aCons (dC (.int 3)) aNil))) aNil)))
    t7_law)
def t5_law : Env → Os := (sSeq (sSet 5 (dCall F__law_big (aCons (dCall F__law_cell (aCons (dVar 0) (aCons (dC (.int 2)) aNil))) aNil)))
    t6_law)
def t4_law : Env → Os := (sSeq (sSet 4 (dCall F__law_row (aCons (dCall F__law_cell (aCons (dVar 0) (aCons (dC (.int 1)) aNil))) (aCons (d2 mulD (dC (.int 4)) (dVar 2)) aNil))))
    t5_law)
def t3_law : Env → Os := (sSeq (sSet 3 (dCall F__law_gap (aCons (d2 ixD (dVar 1) (dC (.int 1))) aNil)))
    t4_law)
def t2_law : Env → Os := (sSeq (sSet 2 (dCall F__law_count (aCons (d2 ixD (dVar 1) (dC (.int 0))) (aCons (dC (.int 24)) aNil))))
    t3_law)
def t1_law : Env → Os := (sSeq (sSet 1 (dCall F__law_row (aCons (dCall F__law_cell (aCons (dVar 0) (aCons (dC (.int 0)) aNil))) (aCons (dC (.int 8)) aNil))))
    t2_law)
def g_law : Env → Os := t1_law
def F_law : List D → Ou D := runF 21 g_law
section
variable {P : Program} {w : World} {K : PySem.W.Frag} {mg : Str → Option Value} {base : Heap} {f : Addr} {fd : FuncData}
theorem dn__law_row (F : FnP K "_law_row" (topS 6) f fd) (hm : mg "_law_row" = some (.ref f))  (m_abs : mg "abs" = none) (m_range : mg "range" = none) (m_int : mg "int" = none) : Dn P w K mg base 1 "_law_row" 2 F__law_row := by
  refine dn_of (N := ["_law_cell_here", "_law_count_here", "_law_size", "_law_row_here", "_law_k", "_law_seed", "_law_mixed"]) (ps := ["_law_cell_here", "_law_count_here"]) (g := g__law_row) F hm sc__law_row (fun _ _ _ _ _ _ us hl => match us, hl with | [_, _], _ => rfl) fun cdv A outer s H E C => ?_
  have hu := C.hr.units
  have hu65 := C.hr.units65
  refine DSs.cons (DS.set 2 (DE.callB call_abs opN_abs (by rfl) m_abs boot_abs (DAB.cons (DB.var 0) DAB.nil)) C.nd) ?_
  refine DSs.cons (DS.set 3 (DE.lst DA.nil) C.nd) ?_
  refine DSs.cons (DS.if_ (DT.cmp op_ge op_geD (DB.var 2) (DB.ofE (DE.op2 op_pow op_powD (DB.ofE DE.int) (DB.ofE DE.int))) (nomark _)) (DSs.cons (DS.for_ C (DI.rng1 (DAB.cons (DB.var 1) DAB.nil) m_range) (DG.name 4 C.nd) (DSs.cons (DS.app 3 (DE.op2 op_mod op_modD (DB.ofE (DE.callTy call_int1 opN_int (by rfl) m_int boot_int (DAB.cons (DB.var 2) DAB.nil))) (DB.ofE DE.int)))
    (DSs.one (DS.set 2 (DE.op2 op_fdivW op_fdivD (DB.var 2) (DB.ofE DE.int)) C.nd))))
    (DSs.one (DS.retV 3))) DSs.nil) ?_
  refine DSs.cons (DS.set 5 (DE.op2 op_addA op_addD (DB.ofE (DE.op2 op_mulA op_mulD (DB.ofE DE.int) (DB.var 2))) (DB.ofE (DE.callTy call_int1 opN_int (by rfl) m_int boot_int (DAB.cons (DB.ofE (DE.cmp op_lt op_ltD (DB.var 0) (DB.ofE DE.int) (nomark _))) DAB.nil)))) C.nd) ?_
  refine DSs.cons (DS.for_ C (DI.rng1 (DAB.cons (DB.var 1) DAB.nil) m_range) (DG.name 4 C.nd) (DSs.cons (DS.set 6 (DE.op2 op_mod op_modD (DB.ofE (DE.callTy call_int1 opN_int (by rfl) m_int boot_int (DAB.cons (DB.ofE (DE.op2 op_mulA op_mulD (DB.var 5) (DB.ofE (DE.op2 op_addA op_addD (DB.ofE (DE.op2 op_addA op_addD (DB.ofE DE.int) (DB.ofE (DE.op2 op_mulA op_mulD (DB.ofE (DE.op2 op_mulA op_mulD (DB.ofE DE.int) (DB.var 4))) (DB.var 4))))) (DB.ofE (DE.op2 op_mulA op_mulD (DB.ofE DE.int) (DB.var 4))))))) DAB.nil))) (DB.ofE DE.int)) C.nd)
    (DSs.cons (DS.set 6 (DE.op2 op_mod op_modD (DB.ofE (DE.callTy call_int1 opN_int (by rfl) m_int boot_int (DAB.cons (DB.ofE (DE.op2 op_addA op_addD (DB.ofE (DE.op2 op_mulA op_mulD (DB.var 6) (DB.var 6))) (DB.ofE (DE.op2 op_mulA op_mulD (DB.var 6) (DB.ofE (DE.op2 op_addA op_addD (DB.var 4) (DB.ofE DE.int))))))) DAB.nil))) (DB.ofE DE.int)) C.nd)
    (DSs.one (DS.app 3 (DE.op2 op_mod op_modD (DB.ofE (DE.callTy call_int1 opN_int (by rfl) m_int boot_int (DAB.cons (DB.var 6) DAB.nil))) (DB.ofE DE.int))))))) ?_
  exact DSs.one (DS.retV 3)
theorem dn__law_count (F : FnP K "_law_count" (topS 8) f fd) (hm : mg "_law_count" = some (.ref f))  (m_int : mg "int" = none) : Dn P w K mg base 1 "_law_count" 2 F__law_count := by
  refine dn_of (N := ["_law_number", "_law_most"]) (ps := ["_law_number", "_law_most"]) (g := g__law_count) F hm sc__law_count (fun _ _ _ _ _ _ us hl => match us, hl with | [_, _], _ => rfl) fun cdv A outer s H E C => ?_
  have hu := C.hr.units
  have hu65 := C.hr.units65
  refine DSs.cons (DS.if_ (DT.cmp op_lt op_ltD (DB.var 0) (DB.ofE DE.int) (nomark _)) (DSs.one (DS.ret (DE.op2 op_fdivW op_fdivD (DB.var 0) (DB.ofE DE.int)))) DSs.nil) ?_
  exact DSs.one (DS.ret (DE.op2 op_addA op_addD (DB.ofE DE.int) (DB.ofE (DE.op2 op_mod op_modD (DB.ofE (DE.callTy call_int1 opN_int (by rfl) m_int boot_int (DAB.cons (DB.var 0) DAB.nil))) (DB.ofE (DE.op2 op_sub op_subD (DB.var 1) (DB.ofE DE.int)))))))
theorem dn__law_gap (F : FnP K "_law_gap" (topS 9) f fd) (hm : mg "_law_gap" = some (.ref f))  (m_int : mg "int" = none) : Dn P w K mg base 1 "_law_gap" 1 F__law_gap := by
  refine dn_of (N := ["_law_number"]) (ps := ["_law_number"]) (g := g__law_gap) F hm sc__law_gap (fun _ _ _ _ _ _ us hl => match us, hl with | [_], _ => rfl) fun cdv A outer s H E C => ?_
  have hu := C.hr.units
  have hu65 := C.hr.units65
  exact DSs.one (DS.ret (DE.ofB (DB.ix (DB.ofE (DE.lst (DA.cons DE.int (DA.cons DE.int (DA.cons DE.int (DA.cons DE.int (DA.cons DE.int (DA.cons (DE.op2 op_pow op_powD (DB.ofE DE.int) (DB.ofE DE.int)) (DA.cons DE.int (DA.cons (DE.op2 op_addA op_addD (DB.ofE (DE.op2 op_pow op_powD (DB.ofE DE.int) (DB.ofE DE.int))) (DB.ofE DE.int)) DA.nil)))))))))) (DB.ofE (DE.op2 op_mod op_modD (DB.ofE (DE.callTy call_int1 opN_int (by rfl) m_int boot_int (DAB.cons (DB.var 0) DAB.nil))) (DB.ofE DE.int))))))
theorem dn__law_big (F : FnP K "_law_big" (topS 7) f fd) (hm : mg "_law_big" = some (.ref f))  (m_abs : mg "abs" = none) (m_int : mg "int" = none) : Dn P w K mg base 1 "_law_big" 1 F__law_big := by
  refine dn_of (N := ["_law_cell_here", "_law_number"]) (ps := ["_law_cell_here"]) (g := g__law_big) F hm sc__law_big (fun _ _ _ _ _ _ us hl => match us, hl with | [_], _ => rfl) fun cdv A outer s H E C => ?_
  have hu := C.hr.units
  have hu65 := C.hr.units65
  refine DSs.cons (DS.set 1 (DE.op2 op_mod op_modD (DB.ofE (DE.callTy call_int1 opN_int (by rfl) m_int boot_int (DAB.cons (DB.ofE (DE.callB call_abs opN_abs (by rfl) m_abs boot_abs (DAB.cons (DB.var 0) DAB.nil))) DAB.nil))) (DB.ofE (DE.op2 op_pow op_powD (DB.ofE DE.int) (DB.ofE DE.int)))) C.nd) ?_
  refine DSs.cons (DS.if_ (DT.cmp op_lt op_ltD (DB.var 0) (DB.ofE DE.int) (nomark _)) (DSs.one (DS.ret (DE.op1 un_neg op_negD (DB.var 1)))) DSs.nil) ?_
  exact DSs.one (DS.retV 1)
theorem dn__law_value (F : FnP K "_law_value" (topS 10) f fd) (hm : mg "_law_value" = some (.ref f))  (m_int : mg "int" = none) : Dn P w K mg base 1 "_law_value" 3 F__law_value := by
  refine dn_of (N := ["_law_number", "_law_other", "_law_big_here"]) (ps := ["_law_number", "_law_other", "_law_big_here"]) (g := g__law_value) F hm sc__law_value (fun _ _ _ _ _ _ us hl => match us, hl with | [_, _, _], _ => rfl) fun cdv A outer s H E C => ?_
  have hu := C.hr.units
  have hu65 := C.hr.units65
  exact DSs.one (DS.ret (DE.ofB (DB.ix (DB.ofE (DE.lst (DA.cons DE.int (DA.cons DE.int (DA.cons DE.int (DA.cons DE.int (DA.cons (DE.op1 un_neg op_negD (DB.ofE DE.int)) (DA.cons DE.int (DA.cons DE.int (DA.cons (DE.ofB (DB.var 1)) (DA.cons (DE.op1 un_neg op_negD (DB.var 1)) (DA.cons (DE.op2 op_addA op_addD (DB.var 2) (DB.var 1)) (DA.cons (DE.op2 op_sub op_subD (DB.var 2) (DB.var 1)) DA.nil))))))))))))) (DB.ofE (DE.op2 op_mod op_modD (DB.ofE (DE.callTy call_int1 opN_int (by rfl) m_int boot_int (DAB.cons (DB.var 0) DAB.nil))) (DB.ofE DE.int))))))
theorem dn__law_events (F : FnP K "_law_events" (topS 11) f fd) (hm : mg "_law_events" = some (.ref f)) (d__law_value : Dn P w K mg base 1 "_law_value" 3 F__law_value) (m_range : mg "range" = none) (m_int : mg "int" = none) : Dn P w K mg base 2 "_law_events" 6 F__law_events := by
  refine dn_of (N := ["_law_row_here", "_law_count_here", "_law_g", "_law_start", "_law_room", "_law_big_here", "_law_events_here", "_law_k", "_law_time"]) (ps := ["_law_row_here", "_law_count_here", "_law_g", "_law_start", "_law_room", "_law_big_here"]) (g := g__law_events) F hm sc__law_events (fun _ _ _ _ _ _ us hl => match us, hl with | [_, _, _, _, _, _], _ => rfl) fun cdv A outer s H E C => ?_
  have hu := C.hr.units
  have hu65 := C.hr.units65
  refine DSs.cons (DS.set 6 (DE.lst DA.nil) C.nd) ?_
  refine DSs.cons (DS.for_ C (DI.rng1 (DAB.cons (DB.var 1) DAB.nil) m_range) (DG.name 7 C.nd) (DSs.cons (DS.set 8 (DE.op2 op_addA op_addD (DB.ofE (DE.op2 op_addA op_addD (DB.var 3) (DB.ofE (DE.op2 op_fdivW op_fdivD (DB.ofE (DE.op2 op_mulA op_mulD (DB.ofE (DE.op2 op_mod op_modD (DB.ofE (DE.callTy call_int1 opN_int (by rfl) m_int boot_int (DAB.cons (DB.ix (DB.var 0) (DB.ofE (DE.op2 op_mulA op_mulD (DB.ofE DE.int) (DB.var 7)))) DAB.nil))) (DB.var 4))) (DB.var 2))) (DB.ofE DE.int))))) (DB.ix (DB.ofE (DE.lst (DA.cons DE.int (DA.cons DE.int (DA.cons DE.int (DA.cons DE.int (DA.cons (DE.op1 un_neg op_negD (DB.ofE DE.int)) DA.nil))))))) (DB.ofE (DE.op2 op_mod op_modD (DB.ofE (DE.callTy call_int1 opN_int (by rfl) m_int boot_int (DAB.cons (DB.ix (DB.var 0) (DB.ofE (DE.op2 op_addA op_addD (DB.ofE (DE.op2 op_mulA op_mulD (DB.ofE DE.int) (DB.var 7))) (DB.ofE DE.int)))) DAB.nil))) (DB.ofE DE.int))))) C.nd)
    (DSs.one (DS.app 6 (DE.tup (DA.cons (DE.ofB (DB.var 8)) (DA.cons (DE.call C d__law_value (DAB.cons (DB.ix (DB.var 0) (DB.ofE (DE.op2 op_addA op_addD (DB.ofE (DE.op2 op_mulA op_mulD (DB.ofE DE.int) (DB.var 7))) (DB.ofE DE.int)))) (DAB.cons (DB.ix (DB.var 0) (DB.ofE (DE.op2 op_addA op_addD (DB.ofE (DE.op2 op_mulA op_mulD (DB.ofE DE.int) (DB.var 7))) (DB.ofE DE.int)))) (DAB.cons (DB.var 5) DAB.nil)))) DA.nil))))))) ?_
  exact DSs.one (DS.retV 6)
theorem dn_ordered (F : FnP K "ordered" (topS 1) f fd) (hm : mg "ordered" = some (.ref f))  (m_sorted : mg "sorted" = none) : Dn P w K mg base 1 "ordered" 1 F_ordered := by
  refine dn_of (N := ["events"]) (ps := ["events"]) (g := g_ordered) F hm sc_ordered (fun _ _ _ _ _ _ us hl => match us, hl with | [_], _ => rfl) fun cdv A outer s H E C => ?_
  have hu := C.hr.units
  have hu65 := C.hr.units65
  exact DSs.one (DS.ret (DE.callB (call_sortD hu65) opN_sort (by rfl) m_sorted boot_sorted (DAB.cons (DB.var 0) DAB.nil)))
theorem dn_cut_runs (F : FnP K "cut_runs" (topS 2) f fd) (hm : mg "cut_runs" = some (.ref f)) (d_ordered : Dn P w K mg base 1 "ordered" 1 F_ordered)  : Dn P w K mg base 2 "cut_runs" 2 F_cut_runs := by
  refine dn_of (N := ["events", "gap", "runs", "event"]) (ps := ["events", "gap"]) (g := g_cut_runs) F hm sc_cut_runs (fun _ _ _ _ _ _ us hl => match us, hl with | [_, _], _ => rfl) fun cdv A outer s H E C => ?_
  have hu := C.hr.units
  have hu65 := C.hr.units65
  refine DSs.cons (DS.set 2 (DE.lst DA.nil) C.nd) ?_
  refine DSs.cons (DS.for_ C (DI.seq (DE.call C d_ordered (DAB.cons (DB.var 0) DAB.nil))) (DG.name 3 C.nd) (DSs.one (DS.if_ (DT.ofW (DW.and (DT.tru (DB.var 2)) (DW.and1 (DT.cmp op_le op_leD (DB.ofE (DE.op2 op_sub op_subD (DB.ix (DB.var 3) (DB.ofE DE.int)) (DB.ix (DB.ix (DB.ix (DB.var 2) (DB.ofE (DE.op1 un_neg op_negD (DB.ofE DE.int)))) (DB.ofE (DE.op1 un_neg op_negD (DB.ofE DE.int)))) (DB.ofE DE.int)))) (DB.var 1) (nomark _))))) (DSs.one (DS.appAt 2 (DB.ofE (DE.op1 un_neg op_negD (DB.ofE DE.int))) (DE.ofB (DB.var 3)))) (DSs.one (DS.app 2 (DE.lst (DA.cons (DE.ofB (DB.var 3)) DA.nil))))))) ?_
  exact DSs.one (DS.retV 2)
theorem dn_plain_sessions (F : FnP K "plain_sessions" (topS 3) f fd) (hm : mg "plain_sessions" = some (.ref f)) (d_cut_runs : Dn P w K mg base 2 "cut_runs" 2 F_cut_runs) (m_tuple : mg "tuple" = none) : Dn P w K mg base 3 "plain_sessions" 2 F_plain_sessions := by
  refine dn_of (N := ["events", "gap", "rows", "run", "word", "event"]) (ps := ["events", "gap"]) (g := g_plain_sessions) F hm sc_plain_sessions (fun _ _ _ _ _ _ us hl => match us, hl with | [_, _], _ => rfl) fun cdv A outer s H E C => ?_
  have hu := C.hr.units
  have hu65 := C.hr.units65
  refine DSs.cons (DS.set 2 (DE.lst DA.nil) C.nd) ?_
  refine DSs.cons (DS.for_ C (DI.seq (DE.call C d_cut_runs (DAB.cons (DB.var 0) (DAB.cons (DB.var 1) DAB.nil)))) (DG.name 3 C.nd) (DSs.cons (DS.set 4 (DE.callTy call_tuple_of opN_tuple (by rfl) m_tuple boot_tuple (DAB.cons (DB.ofE (DE.lc (own := [("event", 5)]) C (DIB.seq (DB.var 3)) (blkOk_by (by kernel_rfl)) (fun _ _ _ _ _ => pg_name (i:=5) C.nd rfl (Or.inl rfl)) (fun s1 H1 D1 cl1 fp1 => DTs.nil) (fun s1 H1 D1 cl1 fp1 => (DE.ofB (DB.ix (DB.var 5) (DB.ofE DE.int)))))) DAB.nil)) C.nd)
    (DSs.one (DS.app 2 (DE.tup (DA.cons (DE.ofB (DB.ix (DB.ix (DB.var 3) (DB.ofE DE.int)) (DB.ofE DE.int))) (DA.cons (DE.ofB (DB.ix (DB.ix (DB.var 3) (DB.ofE (DE.op1 un_neg op_negD (DB.ofE DE.int)))) (DB.ofE DE.int))) (DA.cons (DE.ofB (DB.var 4)) DA.nil)))))))) ?_
  exact DSs.one (DS.retV 2)
theorem dn__law_cell (F : FnP K "_law_cell" (topS 5) f fd) (hm : mg "_law_cell" = some (.ref f))  (m_len : mg "len" = none) (m_int : mg "int" = none) : Dn P w K mg base 1 "_law_cell" 2 F__law_cell := by
  refine dn_of (N := ["_law_script", "_law_k"]) (ps := ["_law_script", "_law_k"]) (g := g__law_cell) F hm sc__law_cell (fun _ _ _ _ _ _ us hl => match us, hl with | [_, _], _ => rfl) fun cdv A outer s H E C => ?_
  have hu := C.hr.units
  have hu65 := C.hr.units65
  refine DSs.cons (DS.if_ (DT.cmp op_lt op_ltD (DB.var 1) (DB.ofE (DE.callB call_len opN_len (by rfl) m_len boot_len (DAB.cons (DB.var 0) DAB.nil))) (nomark _)) (DSs.one (DS.ret (DE.callTy call_int1 opN_int (by rfl) m_int boot_int (DAB.cons (DB.ix (DB.var 0) (DB.var 1)) DAB.nil)))) DSs.nil) ?_
  exact DSs.one (DS.ret DE.int)
theorem dn__law_is_integer (F : FnP K "_law_is_integer" (topS 12) f fd) (hm : mg "_law_is_integer" = some (.ref f))  (m_isinstance : mg "isinstance" = none) (m_int : mg "int" = none) (m_bool : mg "bool" = none) : Dn P w K mg base 1 "_law_is_integer" 1 F__law_is_integer := by
  refine dn_of (N := ["_law_x"]) (ps := ["_law_x"]) (g := g__law_is_integer) F hm sc__law_is_integer (fun _ _ _ _ _ _ us hl => match us, hl with | [_], _ => rfl) fun cdv A outer s H E C => ?_
  have hu := C.hr.units
  have hu65 := C.hr.units65
  exact DSs.one (DS.ret (DE.and (DE.isi .int (DB.var 0) m_isinstance m_int) (DE.one (DE.not (DB.ofE (DE.isi .bool (DB.var 0) m_isinstance m_bool))))))
theorem dn__law_is_word (F : FnP K "_law_is_word" (topS 13) f fd) (hm : mg "_law_is_word" = some (.ref f)) (d__law_is_integer : Dn P w K mg base 1 "_law_is_integer" 1 F__law_is_integer) (m_isinstance : mg "isinstance" = none) (m_tuple : mg "tuple" = none) (m_all : mg "all" = none) : Dn P w K mg base 2 "_law_is_word" 1 F__law_is_word := by
  refine dn_of (N := ["_law_x", "_law_part"]) (ps := ["_law_x"]) (g := g__law_is_word) F hm sc__law_is_word (fun _ _ _ _ _ _ us hl => match us, hl with | [_], _ => rfl) fun cdv A outer s H E C => ?_
  have hu := C.hr.units
  have hu65 := C.hr.units65
  exact DSs.one (DS.ret (DE.and (DE.isi .tuple (DB.var 0) m_isinstance m_tuple) (DE.one (DE.callB (cr_all C.calm) opN_all (by rfl) m_all boot_all (DAB.cons (DB.ofE (DE.lc (own := [("_law_part", 1)]) C (DIB.seq (DB.var 0)) (blkOk_by (by kernel_rfl)) (fun _ _ _ _ _ => pg_name (i:=1) C.nd rfl (Or.inl rfl)) (fun s1 H1 D1 cl1 fp1 => DTs.nil) (fun s1 H1 D1 cl1 fp1 => (DE.call (Ctx.blk C s1 H1 _ _ fp1) d__law_is_integer (DAB.cons (DB.var 1) DAB.nil))))) DAB.nil)))))
theorem dn__law_is_told (F : FnP K "_law_is_told" (topS 14) f fd) (hm : mg "_law_is_told" = some (.ref f)) (d__law_is_integer : Dn P w K mg base 1 "_law_is_integer" 1 F__law_is_integer) (d__law_is_word : Dn P w K mg base 2 "_law_is_word" 1 F__law_is_word) (m_isinstance : mg "isinstance" = none) (m_tuple : mg "tuple" = none) (m_len : mg "len" = none) : Dn P w K mg base 3 "_law_is_told" 1 F__law_is_told := by
  refine dn_of (N := ["_law_x"]) (ps := ["_law_x"]) (g := g__law_is_told) F hm sc__law_is_told (fun _ _ _ _ _ _ us hl => match us, hl with | [_], _ => rfl) fun cdv A outer s H E C => ?_
  have hu := C.hr.units
  have hu65 := C.hr.units65
  exact DSs.one (DS.ret (DE.and (DE.isi .tuple (DB.var 0) m_isinstance m_tuple) (DE.and (DE.cmp (op_eqD hu) op_eqDD (DB.ofE (DE.callB call_len opN_len (by rfl) m_len boot_len (DAB.cons (DB.var 0) DAB.nil))) (DB.ofE DE.int) (nomark _)) (DE.and (DE.call C d__law_is_integer (DAB.cons (DB.ix (DB.var 0) (DB.ofE DE.int)) DAB.nil)) (DE.and (DE.call C d__law_is_integer (DAB.cons (DB.ix (DB.var 0) (DB.ofE DE.int)) DAB.nil)) (DE.one (DE.call C d__law_is_word (DAB.cons (DB.ix (DB.var 0) (DB.ofE DE.int)) DAB.nil))))))))
theorem dn__law_are_told (F : FnP K "_law_are_told" (topS 15) f fd) (hm : mg "_law_are_told" = some (.ref f)) (d__law_is_told : Dn P w K mg base 3 "_law_is_told" 1 F__law_is_told) (m_isinstance : mg "isinstance" = none) (m_list : mg "list" = none) (m_all : mg "all" = none) : Dn P w K mg base 4 "_law_are_told" 1 F__law_are_told := by
  refine dn_of (N := ["_law_rows", "_law_row_here"]) (ps := ["_law_rows"]) (g := g__law_are_told) F hm sc__law_are_told (fun _ _ _ _ _ _ us hl => match us, hl with | [_], _ => rfl) fun cdv A outer s H E C => ?_
  have hu := C.hr.units
  have hu65 := C.hr.units65
  exact DSs.one (DS.ret (DE.and (DE.isi .list (DB.var 0) m_isinstance m_list) (DE.one (DE.callB (cr_all C.calm) opN_all (by rfl) m_all boot_all (DAB.cons (DB.ofE (DE.lc (own := [("_law_row_here", 1)]) C (DIB.seq (DB.var 0)) (blkOk_by (by kernel_rfl)) (fun _ _ _ _ _ => pg_name (i:=1) C.nd rfl (Or.inl rfl)) (fun s1 H1 D1 cl1 fp1 => DTs.nil) (fun s1 H1 D1 cl1 fp1 => (DE.call (Ctx.blk C s1 H1 _ _ fp1) d__law_is_told (DAB.cons (DB.var 1) DAB.nil))))) DAB.nil)))))
theorem dn_law (F : FnP K "law" (topS 16) f fd) (hm : mg "law" = some (.ref f)) (d__law_cell : Dn P w K mg base 1 "_law_cell" 2 F__law_cell) (d__law_row : Dn P w K mg base 1 "_law_row" 2 F__law_row) (d__law_count : Dn P w K mg base 1 "_law_count" 2 F__law_count) (d__law_gap : Dn P w K mg base 1 "_law_gap" 1 F__law_gap) (d__law_big : Dn P w K mg base 1 "_law_big" 1 F__law_big) (d__law_events : Dn P w K mg base 2 "_law_events" 6 F__law_events) (d__law_value : Dn P w K mg base 1 "_law_value" 3 F__law_value) (d_plain_sessions : Dn P w K mg base 3 "plain_sessions" 2 F_plain_sessions) (d__law_are_told : Dn P w K mg base 4 "_law_are_told" 1 F__law_are_told) (m_int : mg "int" = none) (m_list : mg "list" = none) (m_len : mg "len" = none) (m_min : mg "min" = none) (m_max : mg "max" = none) (m_sorted : mg "sorted" = none) (m_tuple : mg "tuple" = none) : FnOk P w K mg base (L2.CX P w) 5 f fd ["_law_script"] (spF K 1 F_law) := by
  refine fnF (N := ["_law_script", "_law_main", "_law_count_here", "_law_g", "_law_row_here", "_law_start", "_law_big_here", "_law_room", "_law_events_here", "_law_time", "_law_event", "_law_before", "_law_after", "_law_gone", "_law_come", "_law_low", "_law_high", "_law_told", "_law_met", "_law_inside", "_law_other"]) (ps := ["_law_script"]) (g := g_law) F sc_law fun cdv A outer s H E C => ?_
  have hu := C.hr.units
  have hu65 := C.hr.units65
  refine DSs.cons (DS.set 1 (DE.call C d__law_row (DAB.cons (DB.ofE (DE.call C d__law_cell (DAB.cons (DB.var 0) (DAB.cons (DB.ofE DE.int) DAB.nil)))) (DAB.cons (DB.ofE DE.int) DAB.nil))) C.nd) ?_
  refine DSs.cons (DS.set 2 (DE.call C d__law_count (DAB.cons (DB.ix (DB.var 1) (DB.ofE DE.int)) (DAB.cons (DB.ofE DE.int) DAB.nil))) C.nd) ?_
  refine DSs.cons (DS.set 3 (DE.call C d__law_gap (DAB.cons (DB.ix (DB.var 1) (DB.ofE DE.int)) DAB.nil)) C.nd) ?_
  refine DSs.cons (DS.set 4 (DE.call C d__law_row (DAB.cons (DB.ofE (DE.call C d__law_cell (DAB.cons (DB.var 0) (DAB.cons (DB.ofE DE.int) DAB.nil)))) (DAB.cons (DB.ofE (DE.op2 op_mulA op_mulD (DB.ofE DE.int) (DB.var 2))) DAB.nil))) C.nd) ?_
  refine DSs.cons (DS.set 5 (DE.call C d__law_big (DAB.cons (DB.ofE (DE.call C d__law_cell (DAB.cons (DB.var 0) (DAB.cons (DB.ofE DE.int) DAB.nil)))) DAB.nil)) C.nd) ?_
  refine DSs.cons (DS.set 6 (DE.call C d__law_big (DAB.cons (DB.ofE (DE.call C d__law_cell (DAB.cons (DB.var 0) (DAB.cons (DB.ofE DE.int) DAB.nil)))) DAB.nil)) C.nd) ?_
  refine DSs.cons (DS.set 7 (DE.op2 op_addA op_addD (DB.ofE DE.int) (DB.ofE (DE.op2 op_mod op_modD (DB.ofE (DE.callTy call_int1 opN_int (by rfl) m_int boot_int (DAB.cons (DB.ix (DB.var 1) (DB.ofE DE.int)) DAB.nil))) (DB.ofE DE.int)))) C.nd) ?_
  refine DSs.cons (DS.set 8 (DE.call C d__law_events (DAB.cons (DB.var 4) (DAB.cons (DB.var 2) (DAB.cons (DB.var 3) (DAB.cons (DB.var 5) (DAB.cons (DB.var 7) (DAB.cons (DB.var 6) DAB.nil))))))) C.nd) ?_
  refine DSs.cons (DS.set 9 (DE.op2 op_addA op_addD (DB.var 5) (DB.ofE (DE.op2 op_fdivW op_fdivD (DB.ofE (DE.op2 op_mulA op_mulD (DB.ofE (DE.op2 op_mod op_modD (DB.ofE (DE.callTy call_int1 opN_int (by rfl) m_int boot_int (DAB.cons (DB.ix (DB.var 1) (DB.ofE DE.int)) DAB.nil))) (DB.var 7))) (DB.var 3))) (DB.ofE DE.int)))) C.nd) ?_
  refine DSs.cons (DS.if_ (DT.ofW (DW.and (DT.cmp op_gt op_gtD (DB.var 2) (DB.ofE DE.int) (nomark _)) (DW.and1 (DT.cmp (op_eqD hu) op_eqDD (DB.ofE (DE.op2 op_mod op_modD (DB.ofE (DE.callTy call_int1 opN_int (by rfl) m_int boot_int (DAB.cons (DB.ix (DB.var 1) (DB.ofE DE.int)) DAB.nil))) (DB.ofE DE.int))) (DB.ofE DE.int) (nomark _))))) (DSs.frz 3 (DSs.one (DS.set 9 (DE.op2 op_addA op_addD (DB.ix (DB.ix (DB.var 8) (DB.ofE (DE.op2 op_mod op_modD (DB.ofE (DE.callTy call_int1 opN_int (by rfl) m_int boot_int (DAB.cons (DB.ix (DB.var 1) (DB.ofE DE.int)) DAB.nil))) (DB.var 2)))) (DB.ofE DE.int)) (DB.ix (DB.ofE (DE.lst (DA.cons DE.int (DA.cons (DE.ofB (DB.var 3)) (DA.cons (DE.op1 un_neg op_negD (DB.var 3)) (DA.cons (DE.op2 op_addA op_addD (DB.var 3) (DB.ofE DE.int)) (DA.cons (DE.op2 op_sub op_subD (DB.ofE (DE.op1 un_neg op_negD (DB.var 3))) (DB.ofE DE.int)) (DA.cons DE.int DA.nil)))))))) (DB.ofE (DE.op2 op_mod op_modD (DB.ofE (DE.callTy call_int1 opN_int (by rfl) m_int boot_int (DAB.cons (DB.ix (DB.var 1) (DB.ofE DE.int)) DAB.nil))) (DB.ofE DE.int))))) C.nd))) DSs.nil) ?_
  refine DSs.cons (DS.set 10 (DE.tup (DA.cons (DE.ofB (DB.var 9)) (DA.cons (DE.call C d__law_value (DAB.cons (DB.ix (DB.var 1) (DB.ofE DE.int)) (DAB.cons (DB.ix (DB.var 1) (DB.ofE DE.int)) (DAB.cons (DB.var 6) DAB.nil)))) DA.nil))) C.nd) ?_
  refine DSs.cons (DS.set 11 (DE.call C d_plain_sessions (DAB.cons (DB.ofE (DE.callTy call_list_of opN_list (by rfl) m_list boot_list (DAB.cons (DB.var 8) DAB.nil))) (DAB.cons (DB.var 3) DAB.nil))) C.nd) ?_
  refine DSs.cons (DS.set 12 (DE.call C d_plain_sessions (DAB.cons (DB.ofE (DE.op2 op_addA op_addD (DB.var 8) (DB.ofE (DE.lst (DA.cons (DE.ofB (DB.var 10)) DA.nil))))) (DAB.cons (DB.var 3) DAB.nil))) C.nd) ?_
  refine DSs.cons (DS.if_ (DT.ofW (DW.or (DT.not (DT.tru (DB.ofE (DE.call C d__law_are_told (DAB.cons (DB.var 11) DAB.nil))))) (DW.or1 (DT.not (DT.tru (DB.ofE (DE.call C d__law_are_told (DAB.cons (DB.var 12) DAB.nil)))))))) (DSs.one (DS.ret DE.bl)) DSs.nil) ?_
  refine DSs.cons (DS.setLc (own := [("_law_told", 17)]) C (DIB.seq (DB.var 11)) (blkOk_by (by kernel_rfl)) (fun _ _ _ _ _ => pg_name (i:=17) C.nd rfl (Or.inl rfl)) (fun s1 H1 D1 cl1 fp1 => (DTs.one (DT.cmp (op_notInA hu65) op_notInDD (DB.var 17) (DB.var 12) (by with_unfolding_all rfl)))) (fun s1 H1 D1 cl1 fp1 => (DE.ofB (DB.var 17)))) ?_
  refine DSs.cons (DS.setLc (own := [("_law_told", 17)]) C (DIB.seq (DB.var 12)) (blkOk_by (by kernel_rfl)) (fun _ _ _ _ _ => pg_name (i:=17) C.nd rfl (Or.inl rfl)) (fun s2 H2 D2 cl2 fp2 => (DTs.one (DT.cmp (op_notInA hu65) op_notInDD (DB.var 17) (DB.var 11) (by with_unfolding_all rfl)))) (fun s2 H2 D2 cl2 fp2 => (DE.ofB (DB.var 17)))) ?_
  refine DSs.cons (DS.if_ (DT.ofW (DW.or (DT.cmp (op_neD hu) op_neDD (DB.ofE (DE.callB call_len opN_len (by rfl) m_len boot_len (DAB.cons (DB.var 14) DAB.nil))) (DB.ofE DE.int) (nomark _)) (DW.or1 (DT.cmp op_gt op_gtD (DB.ofE (DE.callB call_len opN_len (by rfl) m_len boot_len (DAB.cons (DB.var 13) DAB.nil))) (DB.ofE DE.int) (nomark _))))) (DSs.one (DS.ret DE.bl)) DSs.nil) ?_
  refine DSs.cons (DS.set 15 (DE.ofB (DB.var 9)) C.nd) ?_
  refine DSs.cons (DS.set 16 (DE.ofB (DB.var 9)) C.nd) ?_
  refine DSs.frz 11 ?_
  refine DSs.cons (DS.for_ C (DI.seq (DE.ofB (DB.var 11))) (DG.name 17 C.nd) (DSs.cons (DS.set 18 (DE.and (DE.cmp op_le op_leD (DB.ofE (DE.op2 op_sub op_subD (DB.ix (DB.var 17) (DB.ofE DE.int)) (DB.var 3))) (DB.var 9) (nomark _)) (DE.one (DE.cmp op_le op_leD (DB.var 9) (DB.ofE (DE.op2 op_addA op_addD (DB.ix (DB.var 17) (DB.ofE DE.int)) (DB.var 3))) (nomark _)))) C.nd)
    (DSs.cons (DS.if_ (DT.cmp (op_neD hu) op_neDD (DB.var 18) (DB.ofE (DE.cmp (op_inA hu65) op_inDD (DB.var 17) (DB.var 13) (by with_unfolding_all rfl))) (nomark _)) (DSs.one (DS.ret DE.bl)) DSs.nil)
    (DSs.one (DS.if_ (DT.tru (DB.var 18)) (DSs.cons (DS.set 15 (DE.callB (call_min2 C.calm) opN_min2 (by rfl) m_min boot_min (DAB.cons (DB.var 15) (DAB.cons (DB.ix (DB.var 17) (DB.ofE DE.int)) DAB.nil))) C.nd)
    (DSs.one (DS.set 16 (DE.callB (call_max2 C.calm) opN_max2 (by rfl) m_max boot_max (DAB.cons (DB.var 16) (DAB.cons (DB.ix (DB.var 17) (DB.ofE DE.int)) DAB.nil))) C.nd))) DSs.nil))))) ?_
  refine DSs.cons (DS.set 19 (DE.callB (call_sortD hu65) opN_sort (by rfl) m_sorted boot_sorted (DAB.cons (DB.ofE (DE.op2 op_addA op_addD (DB.ofE (DE.lc (own := [("_law_other", 20)]) C (DIB.seq (DB.var 8)) (blkOk_by (by kernel_rfl)) (fun _ _ _ _ _ => pg_name (i:=20) C.nd rfl (Or.inl rfl)) (fun s3 H3 D3 cl3 fp3 => (DTs.one (DT.ofW (DW.and (DT.cmp op_le op_leD (DB.var 15) (DB.ix (DB.var 20) (DB.ofE DE.int)) (nomark _)) (DW.and1 (DT.cmp op_le op_leD (DB.ix (DB.var 20) (DB.ofE DE.int)) (DB.var 16) (nomark _))))))) (fun s3 H3 D3 cl3 fp3 => (DE.ofB (DB.var 20))))) (DB.ofE (DE.lst (DA.cons (DE.ofB (DB.var 10)) DA.nil))))) DAB.nil)) C.nd) ?_
  exact DSs.one (DS.ret (DE.cmp (op_eqD hu) op_eqDD (DB.ix (DB.var 14) (DB.ofE DE.int)) (DB.ofE (DE.tup (DA.cons (DE.ofB (DB.var 15)) (DA.cons (DE.ofB (DB.var 16)) (DA.cons (DE.callTy call_tuple_of opN_tuple (by rfl) m_tuple boot_tuple (DAB.cons (DB.ofE (DE.lc (own := [("_law_other", 20)]) C (DIB.seq (DB.var 19)) (blkOk_by (by kernel_rfl)) (fun _ _ _ _ _ => pg_name (i:=20) C.nd rfl (Or.inl rfl)) (fun s4 H4 D4 cl4 fp4 => DTs.nil) (fun s4 H4 D4 cl4 fp4 => (DE.ofB (DB.ix (DB.var 20) (DB.ofE DE.int)))))) DAB.nil)) DA.nil))))) (nomark _)))
end
/-! ### the head -/
def hdef0 : He.DefD := ⟨("_law_row", none), "_law_row", "_law_row", defArgs (topS 6), defBody (topS 6), defScope (topS 6), [], []⟩
def hdef1 : He.DefD := ⟨("_law_count", none), "_law_count", "_law_count", defArgs (topS 8), defBody (topS 8), defScope (topS 8), [], []⟩
def hdef2 : He.DefD := ⟨("_law_gap", none), "_law_gap", "_law_gap", defArgs (topS 9), defBody (topS 9), defScope (topS 9), [], []⟩
def hdef3 : He.DefD := ⟨("_law_big", none), "_law_big", "_law_big", defArgs (topS 7), defBody (topS 7), defScope (topS 7), [], []⟩
def hdef4 : He.DefD := ⟨("_law_value", none), "_law_value", "_law_value", defArgs (topS 10), defBody (topS 10), defScope (topS 10), [], []⟩
def hdef5 : He.DefD := ⟨("_law_events", none), "_law_events", "_law_events", defArgs (topS 11), defBody (topS 11), defScope (topS 11), [], []⟩
def hdef6 : He.DefD := ⟨("ordered", none), "ordered", "ordered", defArgs (topS 1), defBody (topS 1), defScope (topS 1), [], []⟩
def hdef7 : He.DefD := ⟨("cut_runs", none), "cut_runs", "cut_runs", defArgs (topS 2), defBody (topS 2), defScope (topS 2), [], []⟩
def hdef8 : He.DefD := ⟨("plain_sessions", none), "plain_sessions", "plain_sessions", defArgs (topS 3), defBody (topS 3), defScope (topS 3), [], []⟩
def hdef9 : He.DefD := ⟨("_law_cell", none), "_law_cell", "_law_cell", defArgs (topS 5), defBody (topS 5), defScope (topS 5), [], []⟩
def hdef10 : He.DefD := ⟨("_law_is_integer", none), "_law_is_integer", "_law_is_integer", defArgs (topS 12), defBody (topS 12), defScope (topS 12), [], []⟩
def hdef11 : He.DefD := ⟨("_law_is_word", none), "_law_is_word", "_law_is_word", defArgs (topS 13), defBody (topS 13), defScope (topS 13), [], []⟩
def hdef12 : He.DefD := ⟨("_law_is_told", none), "_law_is_told", "_law_is_told", defArgs (topS 14), defBody (topS 14), defScope (topS 14), [], []⟩
def hdef13 : He.DefD := ⟨("_law_are_told", none), "_law_are_told", "_law_are_told", defArgs (topS 15), defBody (topS 15), defScope (topS 15), [], []⟩
def hdef14 : He.DefD := ⟨("law", none), "law", "law", defArgs (topS 16), defBody (topS 16), defScope (topS 16), [], []⟩
def fn : List He.DefD := [hdef0, hdef1, hdef2, hdef3, hdef4, hdef5, hdef6, hdef7, hdef8, hdef9, hdef10, hdef11, hdef12, hdef13, hdef14]
def fa : List He.Fa := [.glo "_law_row", .glo "_law_count", .glo "_law_gap", .glo "_law_big", .glo "_law_value", .glo "_law_events", .glo "ordered", .glo "cut_runs", .glo "plain_sessions", .glo "_law_cell", .glo "_law_is_integer", .glo "_law_is_word", .glo "_law_is_told", .glo "_law_are_told", .glo "law", .free "abs", .free "range", .free "int", .free "sorted", .free "tuple", .free "len", .free "isinstance", .free "bool", .free "all", .free "list", .free "min", .free "max"]
abbrev R : PySem.W.OpenRow := PySem.W.OpenLaw.row PySem.Challenge.rw_gapsittings_k07_one_event_more
abbrev hk : PySem.W.Hook := He.hookD 4 fa fn
def ob (s : PySem.W.SharedT) : He.AlD := He.obsDG 4 fa fn (HandSHeadRun.getT s)
theorem ob_eq (s : PySem.W.SharedT) : ob s = hk.obs s.abs := He.obsDG_eq (HandSHeadRun.getT_eq s)
theorem run (w : World) : HandSHeadRun.RunEq R (PySem.W.view R.prog [16]) hk ob 4000 ["ordered", "cut_runs", "plain_sessions", "_law_cell", "_law_row", "_law_big", "_law_count", "_law_gap", "_law_value", "_law_events", "_law_is_integer", "_law_is_word", "_law_is_told", "_law_are_told"] w := by
  intro os
  kernel_rfl
theorem facts {P : Program} {w : World} {K : PySem.W.Frag} {h : Heap} {mg : Str → Option Value} {f : Addr} (X : K.In h) (G : h.Ns mainGlobals mg) (hfa : mg ("law" : Str) = some (.ref f)) (c : He.SaysD fa fn K) :
    ∃ fd : FuncData, (∀ (s : Shared) (v : Value), BindsTo s fd ⟨[v], []⟩ [("_law_script", v)]) ∧ ∀ base : Heap, K.In base → base.Ns mainGlobals mg → FnOk P w K mg base (L2.CX P w) 5 f fd ["_law_script"] (spF K 1 F_law) := by
  obtain ⟨fd0, P0⟩ := c.def_ 0 (d := hdef0) rfl
  obtain ⟨fd1, P1⟩ := c.def_ 1 (d := hdef1) rfl
  obtain ⟨fd2, P2⟩ := c.def_ 2 (d := hdef2) rfl
  obtain ⟨fd3, P3⟩ := c.def_ 3 (d := hdef3) rfl
  obtain ⟨fd4, P4⟩ := c.def_ 4 (d := hdef4) rfl
  obtain ⟨fd5, P5⟩ := c.def_ 5 (d := hdef5) rfl
  obtain ⟨fd6, P6⟩ := c.def_ 6 (d := hdef6) rfl
  obtain ⟨fd7, P7⟩ := c.def_ 7 (d := hdef7) rfl
  obtain ⟨fd8, P8⟩ := c.def_ 8 (d := hdef8) rfl
  obtain ⟨fd9, P9⟩ := c.def_ 9 (d := hdef9) rfl
  obtain ⟨fd10, P10⟩ := c.def_ 10 (d := hdef10) rfl
  obtain ⟨fd11, P11⟩ := c.def_ 11 (d := hdef11) rfl
  obtain ⟨fd12, P12⟩ := c.def_ 12 (d := hdef12) rfl
  obtain ⟨fd13, P13⟩ := c.def_ 13 (d := hdef13) rfl
  obtain ⟨fd14, P14⟩ := c.def_ 14 (d := hdef14) rfl
  have e := hfa.symm.trans (He.glo_ok X G (c.fact 14 (f := .glo "law") rfl))
  cases e
  have b := FunD.bindsA (ps := ["_law_script"]) P14 fun _ _ _ _ _ _ us hl => match us, hl with | [_], _ => rfl
  refine ⟨fd14, fun s v => b s [v] rfl, fun base _ _ => ?_⟩
  have m_abs := He.free_ok X G (c.fact 15 (f := .free "abs") rfl)
  have m_range := He.free_ok X G (c.fact 16 (f := .free "range") rfl)
  have m_int := He.free_ok X G (c.fact 17 (f := .free "int") rfl)
  have m_sorted := He.free_ok X G (c.fact 18 (f := .free "sorted") rfl)
  have m_tuple := He.free_ok X G (c.fact 19 (f := .free "tuple") rfl)
  have m_len := He.free_ok X G (c.fact 20 (f := .free "len") rfl)
  have m_isinstance := He.free_ok X G (c.fact 21 (f := .free "isinstance") rfl)
  have m_bool := He.free_ok X G (c.fact 22 (f := .free "bool") rfl)
  have m_all := He.free_ok X G (c.fact 23 (f := .free "all") rfl)
  have m_list := He.free_ok X G (c.fact 24 (f := .free "list") rfl)
  have m_min := He.free_ok X G (c.fact 25 (f := .free "min") rfl)
  have m_max := He.free_ok X G (c.fact 26 (f := .free "max") rfl)
  have d__law_row : Dn P w K mg base 1 "_law_row" 2 F__law_row := dn__law_row P0 (He.glo_ok X G (c.fact 0 (f := .glo "_law_row") rfl))  m_abs m_range m_int
  have d__law_count : Dn P w K mg base 1 "_law_count" 2 F__law_count := dn__law_count P1 (He.glo_ok X G (c.fact 1 (f := .glo "_law_count") rfl))  m_int
  have d__law_gap : Dn P w K mg base 1 "_law_gap" 1 F__law_gap := dn__law_gap P2 (He.glo_ok X G (c.fact 2 (f := .glo "_law_gap") rfl))  m_int
  have d__law_big : Dn P w K mg base 1 "_law_big" 1 F__law_big := dn__law_big P3 (He.glo_ok X G (c.fact 3 (f := .glo "_law_big") rfl))  m_abs m_int
  have d__law_value : Dn P w K mg base 1 "_law_value" 3 F__law_value := dn__law_value P4 (He.glo_ok X G (c.fact 4 (f := .glo "_law_value") rfl))  m_int
  have d__law_events : Dn P w K mg base 2 "_law_events" 6 F__law_events := dn__law_events P5 (He.glo_ok X G (c.fact 5 (f := .glo "_law_events") rfl)) d__law_value m_range m_int
  have d_ordered : Dn P w K mg base 1 "ordered" 1 F_ordered := dn_ordered P6 (He.glo_ok X G (c.fact 6 (f := .glo "ordered") rfl))  m_sorted
  have d_cut_runs : Dn P w K mg base 2 "cut_runs" 2 F_cut_runs := dn_cut_runs P7 (He.glo_ok X G (c.fact 7 (f := .glo "cut_runs") rfl)) d_ordered 
  have d_plain_sessions : Dn P w K mg base 3 "plain_sessions" 2 F_plain_sessions := dn_plain_sessions P8 (He.glo_ok X G (c.fact 8 (f := .glo "plain_sessions") rfl)) d_cut_runs m_tuple
  have d__law_cell : Dn P w K mg base 1 "_law_cell" 2 F__law_cell := dn__law_cell P9 (He.glo_ok X G (c.fact 9 (f := .glo "_law_cell") rfl))  m_len m_int
  have d__law_is_integer : Dn P w K mg base 1 "_law_is_integer" 1 F__law_is_integer := dn__law_is_integer P10 (He.glo_ok X G (c.fact 10 (f := .glo "_law_is_integer") rfl))  m_isinstance m_int m_bool
  have d__law_is_word : Dn P w K mg base 2 "_law_is_word" 1 F__law_is_word := dn__law_is_word P11 (He.glo_ok X G (c.fact 11 (f := .glo "_law_is_word") rfl)) d__law_is_integer m_isinstance m_tuple m_all
  have d__law_is_told : Dn P w K mg base 3 "_law_is_told" 1 F__law_is_told := dn__law_is_told P12 (He.glo_ok X G (c.fact 12 (f := .glo "_law_is_told") rfl)) d__law_is_integer d__law_is_word m_isinstance m_tuple m_len
  have d__law_are_told : Dn P w K mg base 4 "_law_are_told" 1 F__law_are_told := dn__law_are_told P13 (He.glo_ok X G (c.fact 13 (f := .glo "_law_are_told") rfl)) d__law_is_told m_isinstance m_list m_all
  have d_law : FnOk P w K mg base (L2.CX P w) 5 _ fd14 ["_law_script"] (spF K 1 F_law) := dn_law P14 (He.glo_ok X G (c.fact 14 (f := .glo "law") rfl)) d__law_cell d__law_row d__law_count d__law_gap d__law_big d__law_events d__law_value d_plain_sessions d__law_are_told m_int m_list m_len m_min m_max m_sorted m_tuple
  exact d_law
/-! ### the plain law -/
theorem are_told_ok (o : Bool) (a : List Told) (h : a.length ≤ 1000) (hw : ∀ t ∈ a, t.w.length ≤ 100000) : F__law_are_told [.lst o (Ds a)] = .ok (.bl true) := by
  have hc : compG 1 bYes e1__law_are_told [some (.lst o (Ds a)), none] (Ds a) [] = some ([] ++ a.map fun _ => .bl true) :=
    comp_mapE (by simp) Dm.d (fun _ => .bl true) a [] (fun t ht => by simp [e1__law_are_told, is_told_ok t (hw t ht)]) (by simp; omega)
  simp [F__law_are_told, g__law_are_told, runF, seqOfB_Ds, wipeE, hc, allN_true]
def metT (g t : Int) (x : Told) : Bool := decide (x.a - g ≤ t) && decide (t ≤ x.b + g)
def lowF (g t : Int) : List Told → Int → Int
  | [], l => l
  | x :: xs, l => lowF g t xs (if metT g t x then min l x.a else l)
def highF (g t : Int) : List Told → Int → Int
  | [], l => l
  | x :: xs, l => highF g t xs (if metT g t x then max l x.b else l)
theorem low_loop (x0 x1 x2 x4 x5 x6 x7 x8 x10 x11 x12 x14 x19 x20 : Option D) (g t : Int) (gone : List Told) : ∀ (ts : List Told) (lo hi : Int) (o17 o18 : Option D), (∀ x ∈ ts, metT g t x = decide (x ∈ gone)) →
    ∃ o17' o18', loopS (tgN 17) b1_law (Ds ts) [x0, x1, x2, some (.int g), x4, x5, x6, x7, x8, some (.int t), x10, x11, x12, some (.lst true (Ds gone)), x14, some (.int lo), some (.int hi), o17, o18, x19, x20] =
      .nx [x0, x1, x2, some (.int g), x4, x5, x6, x7, x8, some (.int t), x10, x11, x12, some (.lst true (Ds gone)), x14, some (.int (lowF g t ts lo)), some (.int (highF g t ts hi)), o17', o18', x19, x20]
  | [], lo, hi, o17, o18, _ => ⟨o17, o18, rfl⟩
  | x :: ts, lo, hi, o17, o18, h => by
    have hx := h x (List.mem_cons_self ..)
    have hin := inD_Ds (α := Told) (show 2 ≤ 19 by decide) x true gone
    by_cases c1 : x.a - g ≤ t
    · by_cases c2 : t ≤ x.b + g
      · have m : metT g t x = true := by simp [metT, c1, c2]
        have cg : x ∈ gone := of_decide_eq_true (hx ▸ m)
        obtain ⟨a, b, e⟩ := low_loop x0 x1 x2 x4 x5 x6 x7 x8 x10 x11 x12 x14 x19 x20 g t gone ts (min lo x.a) (max hi x.b) (some (Dm.d x)) (some (.bl true)) (fun y hy => h y (List.mem_cons_of_mem _ hy))
        refine ⟨a, b, ?_⟩
        rw [lowF, highF, if_pos m, if_pos m, ← e]
        refine loop_nx rfl ?_
        simp [b1_law, ix_T0, ix_T1, c1, c2, hin, cg]
      · have m : metT g t x = false := by simp [metT, c2]
        have cg : ¬ x ∈ gone := fun z => by rw [m, decide_eq_true z] at hx; cases hx
        obtain ⟨a, b, e⟩ := low_loop x0 x1 x2 x4 x5 x6 x7 x8 x10 x11 x12 x14 x19 x20 g t gone ts lo hi (some (Dm.d x)) (some (.bl false)) (fun y hy => h y (List.mem_cons_of_mem _ hy))
        refine ⟨a, b, ?_⟩
        rw [lowF, highF, if_neg (by simp [m]), if_neg (by simp [m]), ← e]
        refine loop_nx rfl ?_
        simp [b1_law, ix_T0, ix_T1, c1, c2, hin, cg]
    · have m : metT g t x = false := by simp [metT, c1]
      have cg : ¬ x ∈ gone := fun z => by rw [m, decide_eq_true z] at hx; cases hx
      obtain ⟨a, b, e⟩ := low_loop x0 x1 x2 x4 x5 x6 x7 x8 x10 x11 x12 x14 x19 x20 g t gone ts lo hi (some (Dm.d x)) (some (.bl false)) (fun y hy => h y (List.mem_cons_of_mem _ hy))
      refine ⟨a, b, ?_⟩
      rw [lowF, highF, if_neg (by simp [m]), if_neg (by simp [m]), ← e]
      refine loop_nx rfl ?_
      simp [b1_law, ix_T0, ix_T1, c1, hin, cg]
theorem lowF_spec (g t : Int) : ∀ (ts : List Told) (l : Int), lowF g t ts l ≤ l ∧ (∀ x ∈ ts, metT g t x = true → lowF g t ts l ≤ x.a) ∧ (lowF g t ts l = l ∨ ∃ x ∈ ts, metT g t x = true ∧ lowF g t ts l = x.a)
  | [], l => ⟨Int.le_refl _, by simp, .inl rfl⟩
  | x :: ts, l => by
    rw [lowF]
    by_cases m : metT g t x = true
    · rw [if_pos m]
      obtain ⟨h1, h2, h3⟩ := lowF_spec g t ts (min l x.a)
      refine ⟨by omega, fun y hy my => ?_, ?_⟩
      · rcases List.mem_cons.mp hy with rfl | hy
        · omega
        · exact h2 y hy my
      · rcases h3 with h3 | ⟨y, hy, my, e⟩
        · by_cases c : l ≤ x.a
          · left; omega
          · right; exact ⟨x, List.mem_cons_self .., m, by omega⟩
        · exact .inr ⟨y, List.mem_cons_of_mem _ hy, my, e⟩
    · rw [if_neg m]
      obtain ⟨h1, h2, h3⟩ := lowF_spec g t ts l
      refine ⟨h1, fun y hy my => ?_, ?_⟩
      · rcases List.mem_cons.mp hy with rfl | hy
        · exact absurd my m
        · exact h2 y hy my
      · rcases h3 with h3 | ⟨y, hy, my, e⟩
        · exact .inl h3
        · exact .inr ⟨y, List.mem_cons_of_mem _ hy, my, e⟩
theorem highF_spec (g t : Int) : ∀ (ts : List Told) (l : Int), l ≤ highF g t ts l ∧ (∀ x ∈ ts, metT g t x = true → x.b ≤ highF g t ts l) ∧ (highF g t ts l = l ∨ ∃ x ∈ ts, metT g t x = true ∧ highF g t ts l = x.b)
  | [], l => ⟨Int.le_refl _, by simp, .inl rfl⟩
  | x :: ts, l => by
    rw [highF]
    by_cases m : metT g t x = true
    · rw [if_pos m]
      obtain ⟨h1, h2, h3⟩ := highF_spec g t ts (max l x.b)
      refine ⟨by omega, fun y hy my => ?_, ?_⟩
      · rcases List.mem_cons.mp hy with rfl | hy
        · omega
        · exact h2 y hy my
      · rcases h3 with h3 | ⟨y, hy, my, e⟩
        · by_cases c : x.b ≤ l
          · left; omega
          · right; exact ⟨x, List.mem_cons_self .., m, by omega⟩
        · exact .inr ⟨y, List.mem_cons_of_mem _ hy, my, e⟩
    · rw [if_neg m]
      obtain ⟨h1, h2, h3⟩ := highF_spec g t ts l
      refine ⟨h1, fun y hy my => ?_, ?_⟩
      · rcases List.mem_cons.mp hy with rfl | hy
        · exact absurd my m
        · exact h2 y hy my
      · rcases h3 with h3 | ⟨y, hy, my, e⟩
        · exact .inl h3
        · exact .inr ⟨y, List.mem_cons_of_mem _ hy, my, e⟩
/-- what one event more does to the told sessions -/
theorem more_told {g : Int} (hg : 0 ≤ g) (evs : List Ev) (e : Ev) : ∃ (gone : List Told) (m : Told), gone.length ≤ 2 ∧ (sess g evs).filter (fun t => !decide (t ∈ sess g (evs ++ [e]))) = gone ∧ (sess g (evs ++ [e])).filter (fun t => !decide (t ∈ sess g evs)) = [m] ∧
    (∀ t ∈ sess g evs, metT g e.1 t = decide (t ∈ gone)) ∧ lowF g e.1 (sess g evs) e.1 = m.a ∧ highF g e.1 (sess g evs) e.1 = m.b ∧
    m.w = (srt (evs.filter (fun x => decide (m.a ≤ x.1) && decide (x.1 ≤ m.b)) ++ [e])).map (·.2) := by
  have hR := cutR_good g (srt evs)
  have hf := cutR_flat g (srt evs)
  have hs : sess g evs = (cutR g (srt evs)).map toldR := rfl
  obtain ⟨R, eR⟩ : ∃ R, cutR g (srt evs) = R := ⟨_, rfl⟩
  rw [eR] at hR hf hs
  have hasc : Asc R.flatten := hf ▸ srt_pw evs
  obtain ⟨A, M, B, eAMB, hA, hM, hB⟩ := split3 (t := e.1) hg hR hasc
  subst eAMB
  obtain ⟨len, mg, g1, g2, g3, g4, g5, f1, f2⟩ := insert_run hg e hR hasc hA hM hB
  have pe : (A ++ [mg] ++ B).flatten.Perm (evs ++ [e]) := by
    have p1 : (A ++ [mg] ++ B).flatten.Perm (e :: (A ++ M ++ B).flatten) := by
      simp only [List.flatten_append, List.flatten_cons, List.flatten_nil, List.append_nil]
      refine (List.Perm.append_right _ (List.Perm.append_left _ g4)).trans ?_
      rw [List.append_assoc, List.append_assoc]
      exact List.perm_middle
    refine p1.trans ?_
    rw [hf]
    refine (List.Perm.cons e (srt_perm evs)).trans ?_
    exact (List.perm_append_comm (l₁ := [e]) (l₂ := evs))
  have es : sess g (evs ++ [e]) = (A ++ [mg] ++ B).map toldR := by
    unfold sess
    rw [srt_of g2 pe, cutR_eq g1]
  have far := hR
  have h1 := (GoodR_app.mp hR).1
  obtain ⟨hA', hM', _⟩ := GoodR_app.mp h1
  have hB' := (GoodR_app.mp hR).2.1
  have fAM : ∀ y ∈ A.flatten, ∀ x ∈ M.flatten, g < x.1 - y.1 := by
    have hR' := hR
    have ha' := hasc
    rw [List.append_assoc] at hR' ha'
    exact fun y hy x hx => hR'.far ha' hg y hy x (by rw [List.flatten_append]; exact List.mem_append_left _ hx)
  have fMB : ∀ y ∈ M.flatten, ∀ x ∈ B.flatten, g < x.1 - y.1 := fun y hy x hx => hR.far hasc hg y (by rw [List.flatten_append]; exact List.mem_append_right _ hy) x hx
  have mlen : ∀ r ∈ M, r.length < mg.length := fun r hr => by
    have := (List.sublist_flatten_of_mem hr).length_le
    rw [g4.length_eq, List.length_cons]
    omega
  have mA : ∀ {r : List Ev} {C : List (List Ev)}, GoodR g C → r ∈ C → ls0 r ∈ C.flatten := fun hC hr => List.mem_flatten.mpr ⟨_, hr, ls0_mem (hC.ne hr)⟩
  have nMA : ∀ r ∈ M, ∀ x ∈ A, toldR r ≠ toldR x := fun r hr x hx c => by
    have := fAM _ (mA hA' hx) _ (mA hM' hr)
    have e2 : (ls0 r).1 = (ls0 x).1 := congrArg Told.b c
    omega
  have nMB : ∀ r ∈ M, ∀ x ∈ B, toldR r ≠ toldR x := fun r hr x hx c => by
    have := fMB _ (mA hM' hr) _ (mA hB' hx)
    have e2 : (ls0 r).1 = (ls0 x).1 := congrArg Told.b c
    omega
  have nMm : ∀ r ∈ M, toldR r ≠ toldR mg := fun r hr c => by
    have e2 : (r.map (·.2)).length = (mg.map (·.2)).length := congrArg (fun t : Told => t.w.length) c
    simp only [List.length_map] at e2
    have := mlen r hr
    omega
  have nAm : ∀ x ∈ A, toldR mg ≠ toldR x := fun x hx c => by
    have := f1 _ (mA hA' hx) _ (ls0_mem g5)
    have e2 : (ls0 mg).1 = (ls0 x).1 := congrArg Told.b c
    omega
  have nBm : ∀ x ∈ B, toldR mg ≠ toldR x := fun x hx c => by
    have := f2 _ (ls0_mem g5) _ (mA hB' hx)
    have e2 : (ls0 mg).1 = (ls0 x).1 := congrArg Told.b c
    omega
  have e1 : (sess g evs).filter (fun t => !decide (t ∈ sess g (evs ++ [e]))) = M.map toldR := by
    rw [hs, es]
    simp only [List.map_append, List.filter_append]
    have z1 : (A.map toldR).filter (fun t => !decide (t ∈ A.map toldR ++ [mg].map toldR ++ B.map toldR)) = [] := by
      refine List.filter_eq_nil_iff.mpr fun t ht => ?_
      simp [ht]
    have z2 : (B.map toldR).filter (fun t => !decide (t ∈ A.map toldR ++ [mg].map toldR ++ B.map toldR)) = [] := by
      refine List.filter_eq_nil_iff.mpr fun t ht => ?_
      simp
      intro _ _
      obtain ⟨r, hr, e⟩ := List.mem_map.mp ht
      exact ⟨r, hr, e⟩
    have z3 : (M.map toldR).filter (fun t => !decide (t ∈ A.map toldR ++ [mg].map toldR ++ B.map toldR)) = M.map toldR := by
      refine List.filter_eq_self.mpr fun t ht => ?_
      obtain ⟨r, hr, rfl⟩ := List.mem_map.mp ht
      simp
      exact ⟨fun x hx => Ne.symm (nMA r hr x hx), nMm r hr, fun x hx => Ne.symm (nMB r hr x hx)⟩
    rw [z1, z2, z3]
    simp
  have e2 : (sess g (evs ++ [e])).filter (fun t => !decide (t ∈ sess g evs)) = [toldR mg] := by
    rw [hs, es]
    simp only [List.map_append, List.filter_append]
    have z1 : (A.map toldR).filter (fun t => !decide (t ∈ A.map toldR ++ M.map toldR ++ B.map toldR)) = [] := by
      refine List.filter_eq_nil_iff.mpr fun t ht => ?_
      simp
      intro h
      obtain ⟨r, hr, e⟩ := List.mem_map.mp ht
      exact absurd e (h r hr)
    have z2 : (B.map toldR).filter (fun t => !decide (t ∈ A.map toldR ++ M.map toldR ++ B.map toldR)) = [] := by
      refine List.filter_eq_nil_iff.mpr fun t ht => ?_
      simp
      intro _ _
      obtain ⟨r, hr, e⟩ := List.mem_map.mp ht
      exact ⟨r, hr, e⟩
    have z3 : ([mg].map toldR).filter (fun t => !decide (t ∈ A.map toldR ++ M.map toldR ++ B.map toldR)) = [toldR mg] := by
      refine List.filter_eq_self.mpr fun t ht => ?_
      have : t = toldR mg := by simpa using ht
      subst this
      simp
      exact ⟨fun x hx => Ne.symm (nAm x hx), fun x hx => nMm x hx, fun x hx => Ne.symm (nBm x hx)⟩
    rw [z1, z2, z3]
    simp
  have mm : ∀ r ∈ A ++ M ++ B, metT g e.1 (toldR r) = decide (toldR r ∈ M.map toldR) := fun r hr => by
    rcases List.mem_append.mp hr with hr | hr
    · rcases List.mem_append.mp hr with hr | hr
      · rw [decide_eq_false (fun z => by
          obtain ⟨x, hx, c⟩ := List.mem_map.mp z
          exact nMA x hx r hr c)]
        have := hA r hr
        show (decide ((hd0 r).1 - g ≤ e.1) && decide (e.1 ≤ (ls0 r).1 + g)) = false
        rw [decide_eq_false (show ¬ e.1 ≤ (ls0 r).1 + g by omega), Bool.and_false]
      · rw [decide_eq_true (List.mem_map.mpr ⟨r, hr, rfl⟩)]
        have := hM r hr
        show (decide ((hd0 r).1 - g ≤ e.1) && decide (e.1 ≤ (ls0 r).1 + g)) = true
        rw [decide_eq_true this.1, decide_eq_true this.2]
        rfl
    · rw [decide_eq_false (fun z => by
        obtain ⟨x, hx, c⟩ := List.mem_map.mp z
        exact nMB x hx r hr c)]
      have := hB r hr
      show (decide ((hd0 r).1 - g ≤ e.1) && decide (e.1 ≤ (ls0 r).1 + g)) = false
      rw [decide_eq_false (show ¬ (hd0 r).1 - g ≤ e.1 by omega), Bool.false_and]
  have mt : ∀ t ∈ sess g evs, metT g e.1 t = decide (t ∈ M.map toldR) := fun t ht => by
    rw [hs] at ht
    obtain ⟨r, hr, rfl⟩ := List.mem_map.mp ht
    exact mm r hr
  have emg : e ∈ mg := g4.symm.mem_iff.mp (List.mem_cons_self ..)
  have Mmg : ∀ x ∈ M.flatten, x ∈ mg := fun x hx => g4.symm.mem_iff.mp (List.mem_cons_of_mem _ hx)
  have rM : ∀ t ∈ sess g evs, metT g e.1 t = true → ∃ r ∈ M, t = toldR r := fun t ht m => by
    rw [mt t ht] at m
    obtain ⟨r, hr, c⟩ := List.mem_map.mp (of_decide_eq_true m)
    exact ⟨r, hr, c.symm⟩
  have Mm : ∀ r ∈ M, toldR r ∈ sess g evs ∧ metT g e.1 (toldR r) = true := fun r hr => by
    have hm : r ∈ A ++ M ++ B := List.mem_append_left _ (List.mem_append_right _ hr)
    refine ⟨by rw [hs]; exact List.mem_map.mpr ⟨r, hm, rfl⟩, ?_⟩
    rw [mm r hm]
    exact decide_eq_true (List.mem_map.mpr ⟨r, hr, rfl⟩)
  have aM : ∀ r ∈ M, Asc r := fun r hr => by
    refine List.Pairwise.sublist (List.sublist_flatten_of_mem (show r ∈ A ++ M ++ B from List.mem_append_left _ (List.mem_append_right _ hr))) hasc
  have el : lowF g e.1 (sess g evs) e.1 = (hd0 mg).1 := by
    obtain ⟨l1, l2, l3⟩ := lowF_spec g e.1 (sess g evs) e.1
    have u1 : (hd0 mg).1 ≤ lowF g e.1 (sess g evs) e.1 := by
      rcases l3 with l3 | ⟨t, ht, m, l3⟩
      · rw [l3]; exact g3.hd emg
      · obtain ⟨r, hr, rfl⟩ := rM t ht m
        rw [l3]
        exact g3.hd (Mmg _ (List.mem_flatten.mpr ⟨r, hr, hd0_mem (hM'.ne hr)⟩))
    have u2 : lowF g e.1 (sess g evs) e.1 ≤ (hd0 mg).1 := by
      rcases List.mem_cons.mp (g4.mem_iff.mp (hd0_mem g5)) with z | z
      · rw [z]; exact l1
      · obtain ⟨r, hr, hx⟩ := mem_run z
        have := l2 _ (Mm r hr).1 (Mm r hr).2
        have q := (aM r hr).hd hx
        have : (toldR r).a = (hd0 r).1 := rfl
        omega
    omega
  have eh : highF g e.1 (sess g evs) e.1 = (ls0 mg).1 := by
    obtain ⟨l1, l2, l3⟩ := highF_spec g e.1 (sess g evs) e.1
    have u1 : highF g e.1 (sess g evs) e.1 ≤ (ls0 mg).1 := by
      rcases l3 with l3 | ⟨t, ht, m, l3⟩
      · rw [l3]; exact g3.ls emg
      · obtain ⟨r, hr, rfl⟩ := rM t ht m
        rw [l3]
        exact g3.ls (Mmg _ (List.mem_flatten.mpr ⟨r, hr, ls0_mem (hM'.ne hr)⟩))
    have u2 : (ls0 mg).1 ≤ highF g e.1 (sess g evs) e.1 := by
      rcases List.mem_cons.mp (g4.mem_iff.mp (ls0_mem g5)) with z | z
      · rw [z]; exact l1
      · obtain ⟨r, hr, hx⟩ := mem_run z
        have := l2 _ (Mm r hr).1 (Mm r hr).2
        have q := (aM r hr).ls hx
        have : (toldR r).b = (ls0 r).1 := rfl
        omega
    omega
  refine ⟨M.map toldR, toldR mg, by simpa using len, e1, e2, mt, el, eh, ?_⟩
  have pf : (evs.filter (fun x => decide ((hd0 mg).1 ≤ x.1) && decide (x.1 ≤ (ls0 mg).1))).Perm M.flatten := by
    have p0 : evs.Perm (A ++ M ++ B).flatten := by rw [hf]; exact (srt_perm evs).symm
    refine (p0.filter _).trans ?_
    simp only [List.flatten_append, List.filter_append]
    have z1 : A.flatten.filter (fun x => decide ((hd0 mg).1 ≤ x.1) && decide (x.1 ≤ (ls0 mg).1)) = [] := by
      refine List.filter_eq_nil_iff.mpr fun x hx => ?_
      have := f1 x hx _ (hd0_mem g5)
      simp
      intro _
      omega
    have z2 : B.flatten.filter (fun x => decide ((hd0 mg).1 ≤ x.1) && decide (x.1 ≤ (ls0 mg).1)) = [] := by
      refine List.filter_eq_nil_iff.mpr fun x hx => ?_
      have := f2 _ (ls0_mem g5) x hx
      simp
      intro _
      omega
    have z3 : M.flatten.filter (fun x => decide ((hd0 mg).1 ≤ x.1) && decide (x.1 ≤ (ls0 mg).1)) = M.flatten := by
      refine List.filter_eq_self.mpr fun x hx => ?_
      have q1 := g3.hd (Mmg x hx)
      have q2 := g3.ls (Mmg x hx)
      simp [q1, q2]
    rw [z1, z2, z3]
    simp
  show mg.map (·.2) = _
  have : srt (evs.filter (fun x => decide ((toldR mg).a ≤ x.1) && decide (x.1 ≤ (toldR mg).b)) ++ [e]) = mg := by
    refine srt_of g3 (g4.trans ?_)
    refine (List.Perm.cons e pf.symm).trans ?_
    exact (List.perm_append_comm (l₁ := [e]))
  rw [this]

theorem tail_ok (x0 x1 x2 x4 x5 x6 x7 : Option D) (g : Int) (hg : 0 ≤ g) (evs : List Ev) (e : Ev) (h : evs.length ≤ 500) :
    t12_law [x0, x1, x2, some (.int g), x4, x5, x6, x7, some (.lst true (E2 evs)), some (.int e.1), some (.tup [.int e.1, .int e.2]), none, none, none, none, none, none, none, none, none, none] = .rt (.bl true) := by
  obtain ⟨gone, m, h1, h2, h3, h4, h5, h6, h7⟩ := more_told hg evs e
  have ee : D.tup [.int e.1, .int e.2] = Dm.d e := rfl
  rw [ee]
  have pb := plain_sessions_ok false evs g (by omega)
  have pa := plain_sessions_ok false (evs ++ [e]) g (by simp; omega)
  have ad : addD (.lst true (E2 evs)) (.lst true [Dm.d e]) = some (.lst true (E2 (evs ++ [e]))) := addD_Ds (α := Ev) true true evs [e] (by simp; omega)
  have lb := sess_len g evs
  have la := sess_len g (evs ++ [e])
  have wb := sess_w g evs
  have wa := sess_w g (evs ++ [e])
  have ll : (evs ++ [e]).length ≤ 501 := by simp; omega
  obtain ⟨bf, eb⟩ : ∃ bf, sess g evs = bf := ⟨_, rfl⟩
  obtain ⟨af, ea⟩ : ∃ af, sess g (evs ++ [e]) = af := ⟨_, rfl⟩
  rw [eb] at pb lb wb h2 h3 h4 h5 h6
  rw [ea] at pa la wa h2 h3
  have tb := are_told_ok false bf (by omega) (fun t ht => by have := wb t ht; omega)
  have ta := are_told_ok false af (by omega) (fun t ht => by have := wa t ht; omega)
  have c1 : compG 17 (b2 notInD (dVar 17) (dVar 12)) e1_law [x0, x1, x2, some (.int g), x4, x5, x6, x7, some (.lst true (E2 evs)), some (.int e.1), some (Dm.d e), some (.lst true (Ds bf)), some (.lst true (Ds af)), none, none, none, none, none, none, none, none] (Ds bf) [] = some (Ds gone) := by
    rw [← h2]
    refine (comp_filterE (by simp) Dm.d (fun t => !decide (t ∈ af)) Dm.d bf [] (fun t _ => ?_) (fun t _ _ => ?_) (by simp; omega)).trans rfl
    · simp [notInD_Ds (α := Told) (show 2 ≤ 19 by decide)]
    · simp [e1_law]
  have c2 : compG 17 (b2 notInD (dVar 17) (dVar 11)) e2_law [x0, x1, x2, some (.int g), x4, x5, x6, x7, some (.lst true (E2 evs)), some (.int e.1), some (Dm.d e), some (.lst true (Ds bf)), some (.lst true (Ds af)), some (.lst true (Ds gone)), none, none, none, none, none, none, none] (Ds af) [] = some (Ds [m]) := by
    rw [← h3]
    refine (comp_filterE (by simp) Dm.d (fun t => !decide (t ∈ bf)) Dm.d af [] (fun t _ => ?_) (fun t _ _ => ?_) (by simp; omega)).trans rfl
    · simp [notInD_Ds (α := Told) (show 2 ≤ 19 by decide)]
    · simp [e2_law]
  obtain ⟨o17, o18, el⟩ := low_loop x0 x1 x2 x4 x5 x6 x7 (some (.lst true (E2 evs))) (some (Dm.d e)) (some (.lst false (Ds bf))) (some (.lst true (Ds af))) (some (.lst true (Ds [m]))) none none g e.1 gone bf e.1 e.1 none none h4
  rw [h5, h6] at el
  have c3 : ∀ (a17 a18 : Option D), compG 20 (bAnd (b2 leD (dVar 15) (d2 ixD (dVar 20) (dC (.int 0)))) (b2 leD (d2 ixD (dVar 20) (dC (.int 0))) (dVar 16))) e3_law [x0, x1, x2, some (.int g), x4, x5, x6, x7, some (.lst true (E2 evs)), some (.int e.1), some (Dm.d e), some (.lst false (Ds bf)), some (.lst true (Ds af)), some (.lst true (Ds gone)), some (.lst true (Ds [m])), some (.int m.a), some (.int m.b), a17, a18, none, none] (E2 evs) [] = some (E2 (evs.filter (fun x => decide (m.a ≤ x.1) && decide (x.1 ≤ m.b)))) := fun a17 a18 => by
    refine (comp_filterE (by simp) Dm.d (fun x : Ev => decide (m.a ≤ x.1) && decide (x.1 ≤ m.b)) Dm.d evs [] (fun t _ => ?_) (fun t _ _ => ?_) (by simp; omega)).trans rfl
    · by_cases c : m.a ≤ t.1
      · simp [ix_P0, c]
      · simp [ix_P0, c]
    · simp [e3_law]
  obtain ⟨fl, efl⟩ : ∃ fl, evs.filter (fun x => decide (m.a ≤ x.1) && decide (x.1 ≤ m.b)) = fl := ⟨_, rfl⟩
  rw [efl] at h7 c3
  have lfl : fl.length ≤ 500 := by
    rw [← efl]
    exact Nat.le_trans (List.length_filter_le _ _) h
  have ad2 : addD (.lst true (E2 fl)) (.lst true [Dm.d e]) = some (.lst true (E2 (fl ++ [e]))) := addD_Ds (α := Ev) true true fl [e] (by simp; omega)
  have so := sortN_E2 true (fl ++ [e]) (by simp; omega)
  have c4 : ∀ (a17 a18 : Option D), compG 20 bYes e4_law [x0, x1, x2, some (.int g), x4, x5, x6, x7, some (.lst true (E2 evs)), some (.int e.1), some (Dm.d e), some (.lst false (Ds bf)), some (.lst true (Ds af)), some (.lst true (Ds gone)), some (.lst true (Ds [m])), some (.int m.a), some (.int m.b), a17, a18, some (.lst true (E2 (srt (fl ++ [e])))), none] (E2 (srt (fl ++ [e]))) [] = some (Ds ((srt (fl ++ [e])).map (·.2))) := fun a17 a18 => by
    refine (comp_mapE (by simp) Dm.d (fun p : Ev => .int p.2) (srt (fl ++ [e])) [] (fun t _ => by simp [e4_law, ix_P1]) (by rw [srt_len]; simp; omega)).trans ?_
    simp [Ds, Dm.d]
  have i0 : ixD (.lst true (Ds [m])) (.int 0) = some (Dm.d m) := x_ixD (xs := [m]) (by decide) (by simp)
  have eqm : eqD (Dm.d m) (.tup [.int m.a, .int m.b, .tup (Ds ((srt (fl ++ [e])).map (·.2)))]) = some true := by
    have := eqD_dm (α := Told) (by decide) m m
    simp only [decide_true] at this
    rw [← h7]
    exact this
  have lg : gone.length ≤ 2 := h1
  have sq : seqOf (.lst false (Ds bf)) = .ok (Ds bf) := seqOf_Ds false bf
  have n1 : ¬ (2 : Int) < (gone.length : Int) := by omega
  have len1 : (Ds [m]).length = 1 := rfl
  simp [t12_law, t13_law, t14_law, t15_law, t16_law, t17_law, t18_law, t19_law, t20_law, t21_law, t22_law, listN_Ds, pb, pa, ad, le_lim', tb, ta, seqOfB_Ds, wipeE, c1, c2, n1, lg, el, c3, ad2, so, c4, tupleN_Ds, i0, eqm, sq]
theorem plain_law (ns : List Int) (h : ns.length ≤ 63) : F_law [.scr ns] = .ok (.bl true) := by
  obtain ⟨rs, hrow, hw⟩ := row_int (at0 ns 0) 8 (by decide) (by decide)
  have len : rs.length = 8 := hw.1
  have ix : ∀ i : Int, 0 ≤ i → i < 8 → ixD (.lst true (I rs)) (.int i) = some (.int (at0 rs i.toNat)) := fun i h0 h1 => x_ixI h0 (by rw [len]; exact h1)
  obtain ⟨c, hc, c0, c1⟩ := count_ok (at0 rs 0) 24 (by decide) (hw.at (i := 0) (by decide)).1
  obtain ⟨c, rfl⟩ : ∃ k : Nat, c = k := ⟨c.toNat, by omega⟩
  obtain ⟨rs2, hrow2, hw2⟩ := row_int (at0 ns 1) (4 * (c : Int)) (by omega) (by omega)
  obtain ⟨s, hs, _⟩ := big_ok (at0 ns 2)
  obtain ⟨b, hb, _⟩ := big_ok (at0 ns 3)
  obtain ⟨g, hg, gp, _⟩ := gap_ok (at0 rs 1)
  have q2 := emod_lt' (at0 rs 2) (show (0 : Int) < 40 by decide)
  obtain ⟨room, hroom⟩ : ∃ room, 1 + at0 rs 2 % 40 = room := ⟨_, rfl⟩
  have rp : 0 < room := by omega
  obtain ⟨evs, hev, hlen⟩ := events_ok rs2 false c g s room b (by omega) (by rw [hw2.1]; omega) (by omega) (by omega)
  obtain ⟨v, hv, _⟩ := value_ok (at0 rs 6) (at0 rs 7) b
  have b4 : B64 4 := ⟨by decide, by decide⟩
  have q3 := emod_lt' (at0 rs 3) rp
  have br : B64 (at0 rs 3 % room) := ⟨by omega, by omega⟩
  obtain ⟨t, ht⟩ : ∃ t, t10_law [some (.scr ns), some (.lst true (I rs)), some (.int c), some (.int g), some (.lst true (I rs2)), some (.int s), some (.int b), some (.int room), some (.lst true (E2 evs)), some (.int (s + at0 rs 3 % room * g / 2)), none, none, none, none, none, none, none, none, none, none, none] =
      t11_law [some (.scr ns), some (.lst true (I rs)), some (.int c), some (.int g), some (.lst true (I rs2)), some (.int s), some (.int b), some (.int room), some (.lst true (E2 evs)), some (.int t), none, none, none, none, none, none, none, none, none, none, none] := by
    by_cases c1 : 0 < (c : Int)
    · by_cases c2 : at0 rs 4 % 2 = 1
      · have q4 := emod_lt' (at0 rs 3) c1
        have q5 := emod_lt' (at0 rs 5) (show (0 : Int) < 6 by decide)
        obtain ⟨w, hw', _⟩ := ix_lit (o := true) [0, g, -g, g + 1, -g - 1, 1] (i := at0 rs 5 % 6) q5.1 (by simp; omega)
        simp only [I, List.map] at hw'
        have i1 := x_ixD (xs := evs) (o := true) (i := at0 rs 3 % (c : Int)) q4.1 (by omega)
        obtain ⟨p, hp⟩ : ∃ p, evs[(at0 rs 3 % (c : Int)).toNat]'(by omega) = p := ⟨_, rfl⟩
        rw [hp] at i1
        refine ⟨p.1 + w, ?_⟩
        have c1' : 0 < c := by omega
        simp [t10_law, ix, x_mod, x_mod c1, c1', c2, i1, ix_P0, hw', le_lim']
      · exact ⟨s + at0 rs 3 % room * g / 2, by simp [t10_law, ix, x_mod, c2]⟩
    · exact ⟨s + at0 rs 3 % room * g / 2, by
        have c1' : ¬ 0 < c := by omega
        simp [t10_law, c1']⟩
  have e := tail_ok (some (.scr ns)) (some (.lst true (I rs))) (some (.int c)) (some (.lst true (I rs2))) (some (.int s)) (some (.int b)) (some (.int room)) g (by omega) evs (t, v) (by omega)
  simp [F_law, g_law, runF, t1_law, t2_law, t3_law, t4_law, t5_law, t6_law, t7_law, t8_law, t9_law, cell_int, hrow, hc, x_mulL, b4, hrow2, hs, hb, hg, ix, x_mod, x_mod rp, x_fdiv, hroom, br, hev, ht]
  simp [t11_law, ix, hv, le_lim', e]


end Lw
open PySem PySem.W PySem.Calls PyProof.Rows
theorem PySem.Challenge.cw_gapsittings_k07_one_event_more_holds : PySem.Challenge.rw_gapsittings_k07_one_event_more.Holds := by
  w_on; o_law
  refine HandSHeadRun.head_any (r := OpenLaw.row PySem.Challenge.rw_gapsittings_k07_one_event_more) (q := view (OpenLaw.row PySem.Challenge.rw_gapsittings_k07_one_event_more).prog [16]) (H := Lw.hk) (ob := Lw.ob) (M := 4000) (loose := ["ordered", "cut_runs", "plain_sessions", "_law_cell", "_law_row", "_law_big", "_law_count", "_law_gap", "_law_value", "_law_events", "_law_is_integer", "_law_is_word", "_law_is_told", "_law_are_told"]) (d := HandSHeadRun.topDef (OpenLaw.row PySem.Challenge.rw_gapsittings_k07_one_event_more).prog 16) (kwd := []) Lw.ob_eq
    (by kernel_rfl) (fun s => by kernel_rfl) Lw.run (by kernel_rfl) (by kernel_rfl) (by kernel_rfl) (by rfl) (by first | assumption | decide +kernel) (by decide +kernel) ⟨rfl, rfl, rfl, rfl, rfl, by decide +kernel⟩ ?hw ?hc
  case hw => w_witness2
  case hc =>
    refine DL.walk_ofX (l := PySem.Challenge.rw_gapsittings_k07_one_event_more) (n := 63) (k := 5) (x := "_law_script") (F := Lw.F_law) rfl (by decide) (by kernel_rfl) ⟨rfl, by decide, by decide⟩ ?F Lw.plain_law
    intro w mg fa h Y G hmg0
    obtain ⟨K, KX, c⟩ := Y
    have hmg : mg ("law" : PySem.Str) = some (.ref fa) := by
      have e : (HandSHeadRun.topDef (OpenLaw.row PySem.Challenge.rw_gapsittings_k07_one_event_more).prog 16).name = ("law" : PySem.Str) := by kernel_rfl
      rw [← e]
      exact hmg0
    obtain ⟨fd, hb, hF⟩ := Lw.facts (w := w) KX G hmg c
    exact ⟨K, fd, KX, hb, hF⟩

