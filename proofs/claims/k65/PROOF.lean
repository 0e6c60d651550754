import PyProof.Rows.All
import Wide.All
import OpenK.AllK
import Wide.FinOn
import HandS.Base
import HandS.Call
import HandS.List
import HandS.Lambda
import HandS.HeadHook4
import HandS.ExcInit
import HandS.Exc
import HandS.ExcOwn
import HandS.Words
import HandS.WordsExc
import HandS.Flow
import HandS.HeadHook1
import HandS.Wide
import HandS.TupAny
import HandS.TupLe
import HandS.Style
import HandS.Conv
import HandS.Text
import HandS.Deep
import HandS.IsInst
import HandS.Iter
import HandS.TryOnly
import HandS.Comp
import HandS.Defaults
import HandS.HeadHook2
import HandS.HeadEnd
import HandS.Head0
import HandS.Head1
import HandS.Head2
import HandS.EndTab
import KE.SortData
import HandS.ClsMeth
import KE.KExcSuper
import KE.KSuper
import HandS.ExcField
import HandS.ExcIs
import HandS.TryMany
import KE.KExcIs
import HandS.HeadNt
import KE.SortKeyHeap
import PyProof.Rows.CallKwBuiltin
import KE.DataMinMax
import HandS.CallSlots
import HandS.SetFor
import KE.DataFind
import HandS.MakeKwOnly
import HandS.Property
import HandS.SlotsOwn
import OpenK.KOps
import KE.KOpsOwn
import HandS.Zip
import PyProof.MaxThree
import HandS.SortKw
import HandS.NoneIn
import HandS.More
import KE.KParD
import HandS.Star
import HandS.DictComp
import KE.KDictKeyed
import KE.KeyNested
import KE.KStateDown
import KE.LtData
import PySem.Challenge.RW_gapsittings_k65_difference_and_net
set_option Elab.async false
set_option linter.all false
set_option maxRecDepth 100000
set_option maxHeartbeats 4000000
namespace DL
open PySem PySem.Spec PyProof.Rows L2
inductive D where
  | non
  | bl (b : Bool)
  | int (i : Int)
  | str (x : Str)
  | tup (xs : List D)
  | lst (o : Bool) (xs : List D)
  | ins (c : Str) (ns : List Str) (xs : List D)
  | scr (ns : List Int)
  | adr (a : Addr)
  | cls (c : Str)
  | err (c : Str) (ns : List Str) (xs : List D)
  | own (oa : Option Addr) (c : Str) (ns : List Str) (xs : List D)
  | lsa (a : Addr) (xs : List D)
  | dct (o : Bool) (ks : List L2.Key) (xs : List D)
  /-- a dict that is locked for good -/
  | lok (ks : List L2.Key) (xs : List D)
  | wth (x : D) (ds : List D)
  | pin (a : Addr)
  deriving Inhabited
def mutP : List (List Str) := [["late", "_rows", "_ended", "_span"], ["kind", "watermark", "finished", "_gap", "_gaps", "_lines"]]
def mutN (ns : List Str) : Bool := !ns.isEmpty && mutP.any fun l => ns.isPrefixOf l
inductive Mo where
  | l (xs : List V)
  | i (C dx : Addr) (fs : List (Str × V)) (h : mutN (fs.map Prod.fst) = true)
  | d (kvs : List (L2.Key × V))
def Mo.o : Mo → HO
  | .l xs => .lst xs
  | .i C dx fs _ => .ins C dx fs
  | .d kvs => .dK kvs
abbrev Fp := List Addr
inductive Ou (α : Type) where
  | ok (a : α)
  | ex (c : Str) (ns : List Str) (xs : List D)
  | bad
def Ou.bind {α β : Type} : Ou α → (α → Ou β) → Ou β
  | .ok a, f => f a
  | .ex c ns xs, _ => .ex c ns xs
  | .bad, _ => .bad
instance : Monad Ou where
  pure := .ok
  bind := Ou.bind
@[simp] theorem bind_ok {α β : Type} (a : α) (f : α → Ou β) : (Ou.ok a >>= f) = f a := (rfl)
@[simp] theorem bind_ex {α β : Type} (c : Str) (ns : List Str) (xs : List D) (f : α → Ou β) : (Ou.ex c ns xs >>= f) = .ex c ns xs := (rfl)
@[simp] theorem bind_bad {α β : Type} (f : α → Ou β) : (Ou.bad >>= f) = .bad := (rfl)
@[simp] theorem pure_ou {α : Type} (a : α) : (pure a : Ou α) = .ok a := (rfl)
mutual
def D.fz : D → Bool
  | .tup xs => D.fzs xs
  | .lst o _ => !o
  | .own _ _ _ _ => false
  | .lsa _ _ => false
  | .dct o _ _ => !o
  | .wth _ _ => false
  | _ => true
def D.fzs : List D → Bool
  | [] => true
  | d :: ds => d.fz && D.fzs ds
end
mutual
def D.frz : D → D
  | .tup xs => .tup (D.frzs xs)
  | .lst true xs => .lst false (D.frzs xs)
  | .own _ c ns xs => .ins c ns (D.frzs xs)
  | .lsa _ xs => .lst false (D.frzs xs)
  | .dct true ks xs => .dct false ks (D.frzs xs)
  | .wth x ds => .wth x.frz (D.frzs ds)
  | d => d
def D.frzs : List D → List D
  | [] => []
  | d :: ds => d.frz :: D.frzs ds
end
mutual
def D.cln : D → Bool
  | .tup xs => D.clns xs
  | .lst true xs => D.clns xs
  | .lst false _ => false
  | .scr _ => false
  | .ins _ ns xs => !mutN ns && D.clns xs
  | .err _ _ xs => D.clns xs
  | .own _ _ _ xs => D.clns xs
  | .lok _ xs => D.clns xs
  | .lsa _ xs => D.clns xs
  | .dct o _ xs => o && D.clns xs
  | .wth x ds => x.cln && D.clns ds
  | _ => true
def D.clns : List D → Bool
  | [] => true
  | d :: ds => d.cln && D.clns ds
end
def NoT (o : HO) : Prop := ∀ ps, o ≠ .tbl ps
theorem noT_exo (a C : Addr) (d : Option Addr) : NoT (exo a C d) := fun _ => exo_tbl
theorem noT_exd (a : Addr) (fs : List (Str × V)) : NoT (exd a fs) := fun _ z => by
  have z' : HO.ext _ = HO.tbl _ := z
  cases z'
theorem Mo.noT (y : Mo) : NoT y.o := fun ps z => by cases y <;> cases z
theorem Mo.nCode {y : Mo} {c : Addr} {q : Str} {P : Prop} (e : LamX.CodeO c q = y.o) : P := by
  have e' : HO.ext _ = y.o := e
  cases y <;> cases e'
theorem Mo.nCode' {y : Mo} {c : Addr} {q : Str} {P : Prop} (e : some (LamX.CodeO c q) = some y.o) : P := Mo.nCode (Option.some.inj e)
theorem Mo.nTbl {y : Mo} {ps : Array Value} {P : Prop} (e : some (HO.tbl ps) = some y.o) : P := by
  have e := Option.some.inj e
  cases y <;> cases e
theorem exo_lst {e C : Addr} {d : Option Addr} {xs : List V} : exo e C d ≠ .lst xs := fun z => by
  have z' : HO.ext _ = HO.lst xs := z
  cases z'
theorem exd_lst {e : Addr} {fs : List (Str × V)} {xs : List V} : exd e fs ≠ .lst xs := fun z => by
  have z' : HO.ext _ = HO.lst xs := z
  cases z'
class Tb where
  t : List (Addr × Str)
instance (priority := low) noTb : Tb := ⟨[]⟩
variable [Tb]
structure Ex (H H' : Hp) : Prop where
  at_ : ∀ a o, NoT o → H a = some o → H' a = some o
  ne : ∀ a, H a ≠ none → H' a ≠ none
  tab : ∀ P q, (P, q) ∈ Tb.t → LamX.TabS H P q → LamX.TabS H' P q
theorem Ex.l {H H' : Hp} (e : Ex H H') {a : Addr} {o : HO} (h : H a = some o) (n : NoT o := by first | exact Mo.noT _ | exact fun _ z => nomatch z) : H' a = some o := e.at_ a o n h
theorem Ex.sub {H H' : Hp} (e : ∀ a o, H a = some o → H' a = some o) : Ex H H' := by
  refine ⟨fun a o _ h => e a o h, fun a h => ?_, fun P q _ h => LamX.TabS.ext h e⟩
  cases q : H a with
  | none => exact absurd q h
  | some o => rw [e a o q]; exact fun z => nomatch z
theorem Ex.refl (H : Hp) : Ex H H := .sub fun _ _ h => h
theorem Ex.trans {H H1 H2 : Hp} (a : Ex H H1) (b : Ex H1 H2) : Ex H H2 := ⟨fun x o n h => b.at_ x o n (a.at_ x o n h), fun x h => b.ne x (a.ne x h), fun P q m h => b.tab P q m (a.tab P q m h)⟩
theorem Ex.new {H : Hp} {p : Addr} {o : HO} (h : H p = none) : Ex H (upd H p o) := .sub fun a u e => by
  rw [upd_ne (ne_of_none e h)]; exact e
theorem tabS_ne {H : Hp} {P : Addr} {q : Str} (h : LamX.TabS H P q) : H P ≠ none := by
  obtain ⟨ps, e, _⟩ := h
  rw [e]; exact fun z => nomatch z
theorem Ex.chg {H H1 H2 : Hp} (e : Ex H H1) (k : ∀ a, H2 a = H1 a ∨ (H a = none ∧ ∃ xs : Mo, H1 a = some xs.o)) : Ex H H2 := by
  have same : ∀ a, H a ≠ none → H2 a = H1 a := fun a h => (k a).elim id fun z => absurd z.1 h
  refine ⟨fun a o n h => (same a (by rw [h]; exact fun z => nomatch z)).trans (e.at_ a o n h), fun a h => by rw [same a h]; exact e.ne a h, fun P q m h => ?_⟩
  obtain ⟨ps, h1, h2, h3⟩ := e.tab P q m h
  refine ⟨ps, (same P (tabS_ne h)).trans h1, h2, fun pos cv hc => ?_⟩
  obtain ⟨c, e1, e2⟩ := h3 pos cv hc
  refine ⟨c, e1, ?_⟩
  rcases k c with z | ⟨_, xs, z⟩
  · rw [z]; exact e2
  · rw [e2] at z
    have z' : some (HO.ext _) = some xs.o := z
    cases xs <;> (have z2 := Option.some.inj z'; cases z2)
theorem Ex.mut {H H' : Hp} {p : Addr} {o : HO} (e : Ex H H') (h : H p = none) (hl : ∃ xs : Mo, H' p = some xs.o) : Ex H (upd H' p o) := e.chg fun a => by
  by_cases c : a = p
  · subst c; exact .inr ⟨h, hl⟩
  · exact .inl (upd_ne c)
theorem Ex.rd {H H' : Hp} {a : Addr} {u : HO} (e : Ex H H') (h : Rd H a u) (n : NoT u := by exact fun _ z => nomatch z) : Rd H' a u := by
  rcases h with h | ⟨o, h⟩
  · exact .inl (e.l h n)
  · exact .inr ⟨o, e.l h⟩
theorem Ex.sqL {K : PySem.W.Frag} {H H' : Hp} {a : Addr} {xs : List V} (e : Ex H H') (h : SqL K H a xs) : SqL K H' a xs := by
  rcases h with h | h
  · exact .inl (e.rd h)
  · exact .inr h
theorem Ex.sqT {K : PySem.W.Frag} {H H' : Hp} {a : Addr} {xs : List V} (e : Ex H H') (h : SqT K H a xs) : SqT K H' a xs := by
  rcases h with h | h
  · exact .inl (e.rd h)
  · exact .inr h
theorem Ex.back {H H' : Hp} {p : Addr} (e : Ex H H') (h : H' p = none) : H p = none := by
  cases h1 : H p with
  | none => rfl
  | some o => exact absurd h (e.ne p (by rw [h1]; exact fun z => nomatch z))
def lamDefs : List ((Str × Option Str) × Str) := [(("BagKind", some "keep"), "BagKind.keep.<locals>.<lambda>"), (("joined_rows", none), "joined_rows.<locals>.<lambda>")]
def lamHere (K : PySem.W.Frag) (p : (Str × Option Str) × Str) : Bool := match PySem.W.nsIn K mainGlobals p.1.1 with
  | some (some _) => true
  | _ => false
def lamP (K : PySem.W.Frag) : List ((Str × Option Str) × Str) := lamDefs.filter (lamHere K)
def tabsOf (K : PySem.W.Frag) : List (Addr × Str) := (lamP K).map fun p => ((He.cT K p.1).2, p.2)
def TabsK (_K : PySem.W.Frag) (Z : Hp) : Prop := LamX.Tabs Tb.t Z
theorem TabsK.ex {K : PySem.W.Frag} {Z Z' : Hp} (t : TabsK K Z) (e : Ex Z Z') : TabsK K Z' := fun p hp => e.tab _ _ hp (t p hp)
section
variable (K : PySem.W.Frag) (cl : Str → Addr)
mutual
def Den (Z H : Hp) : D → V → Fp → Prop
  | .non, v, fp => v = .non ∧ fp = []
  | .bl b, v, fp => v = .bl b ∧ fp = []
  | .int i, v, fp => v = .int i ∧ fp = []
  | .str x, v, fp => v = .str x ∧ fp = []
  | .tup ds, v, fp => ∃ a vs, v = .ref a ∧ SqT K Z a vs ∧ Dens Z H ds vs fp
  | .lst true ds, v, fp => ∃ a vs fq, v = .ref a ∧ fp = a :: fq ∧ Z a = none ∧ H a = some (.lst vs) ∧ Dens Z H ds vs fq
  | .lst false ds, v, fp => ∃ a vs, v = .ref a ∧ fp = [] ∧ Z a = some (.lst vs) ∧ Dens Z H ds vs []
  | .ins c ns ds, v, fp => ∃ a dx vs, v = .ref a ∧ fp = [] ∧ Z a = some (.ins (cl c) dx (ns.zip vs)) ∧ ns.length = ds.length ∧ Dens Z H ds vs []
  | .scr ns, v, fp => ∃ a, v = .ref a ∧ fp = [] ∧ SqL K Z a (ns.map V.int)
  | .adr _, v, fp => (∃ a, v = .ref a) ∧ fp = []
  | .cls c, v, fp => v = .ref (cl c) ∧ fp = []
  | .pin a, v, fp => v = .ref a ∧ fp = []
  | .err c ns ds, v, fp => ∃ a dx vs, v = .ref a ∧ fp = [] ∧ Z a = some (exo a (cl c) (some dx)) ∧ Z dx = some (exd dx (ns.zip vs)) ∧ ns.length = ds.length ∧ Dens Z H ds vs []
  | .own oa c ns ds, v, fp => ∃ a dx vs fq, (∀ b, oa = some b → b = a) ∧ v = .ref a ∧ fp = a :: fq ∧ Z a = none ∧ H a = some (.ins (cl c) dx (ns.zip vs)) ∧ mutN ns = true ∧ ns.length = ds.length ∧ Dens Z H ds vs fq
  | .lsa a ds, v, fp => ∃ vs fq, v = .ref a ∧ fp = a :: fq ∧ Z a = none ∧ H a = some (.lst vs) ∧ Dens Z H ds vs fq
  | .dct true ks ds, v, fp => ∃ a vs fq, v = .ref a ∧ fp = a :: fq ∧ Z a = none ∧ H a = some (.dK (ks.zip vs)) ∧ ks.length = ds.length ∧ Dens Z H ds vs fq
  | .dct false ks ds, v, fp => ∃ a vs, v = .ref a ∧ fp = [] ∧ Z a = some (.dK (ks.zip vs)) ∧ ks.length = ds.length ∧ Dens Z H ds vs []
  | .lok ks ds, v, fp => ∃ a od vs, v = .ref a ∧ fp = [] ∧ Z a = some (.frz od (.dK (ks.zip vs))) ∧ ks.length = ds.length ∧ Dens Z H ds vs []
  | .wth x ds, v, fp => ∃ vs f1 f2, fp = f1 ++ f2 ∧ Den Z H x v f1 ∧ Dens Z H ds vs f2
def Dens (Z H : Hp) : List D → List V → Fp → Prop
  | [], vs, fp => vs = [] ∧ fp = []
  | d :: ds, vs, fp => ∃ v vr f1 f2, vs = v :: vr ∧ fp = f1 ++ f2 ∧ Den Z H d v f1 ∧ Dens Z H ds vr f2
end
end
section
variable {K : PySem.W.Frag} {cl : Str → Addr}
mutual
theorem Den.mono {Z H Y H' : Hp} (e : Ex Z Y) : ∀ (d : D) (v : V) (fp : Fp), (∀ a ∈ fp, Y a = none ∧ H' a = H a) → Den K cl Z H d v fp → Den K cl Y H' d v fp
  | .non, _, _, _, h => h
  | .bl _, _, _, _, h => h
  | .int _, _, _, _, h => h
  | .str _, _, _, _, h => h
  | .tup ds, v, fp, k, h => by
    simp only [Den] at h ⊢
    obtain ⟨a, vs, e1, q, r⟩ := h
    exact ⟨a, vs, e1, e.sqT q, Dens.mono e ds vs fp k r⟩
  | .lst true ds, v, fp, k, h => by
    simp only [Den] at h ⊢
    obtain ⟨a, vs, fq, e1, e2, z, q, r⟩ := h
    subst e2
    have ka := k a List.mem_cons_self
    exact ⟨a, vs, fq, e1, rfl, ka.1, by rw [ka.2]; exact q, Dens.mono e ds vs fq (fun b hb => k b (List.mem_cons_of_mem _ hb)) r⟩
  | .lst false ds, v, fp, k, h => by
    simp only [Den] at h ⊢
    obtain ⟨a, vs, e1, e2, q, r⟩ := h
    exact ⟨a, vs, e1, e2, e.l q, Dens.mono e ds vs [] (fun _ hb => nomatch hb) r⟩
  | .ins c ns ds, v, fp, k, h => by
    simp only [Den] at h ⊢
    obtain ⟨a, dx, vs, e1, e2, q, l, r⟩ := h
    exact ⟨a, dx, vs, e1, e2, e.l q, l, Dens.mono e ds vs [] (fun _ hb => nomatch hb) r⟩
  | .scr ns, v, fp, k, h => by
    simp only [Den] at h ⊢
    obtain ⟨a, e1, e2, q⟩ := h
    exact ⟨a, e1, e2, e.sqL q⟩
  | .adr _, _, _, _, h => h
  | .cls _, _, _, _, h => h
  | .pin _, _, _, _, h => h
  | .err c ns ds, v, fp, k, h => by
    simp only [Den] at h ⊢
    obtain ⟨a, dx, vs, e1, e2, q, q2, l, r⟩ := h
    exact ⟨a, dx, vs, e1, e2, e.l q (noT_exo _ _ _), e.l q2 (noT_exd _ _), l, Dens.mono e ds vs [] (fun _ hb => nomatch hb) r⟩
  | .own oa c ns ds, v, fp, k, h => by
    simp only [Den] at h ⊢
    obtain ⟨a, dx, vs, fq, e0, e1, e2, z, q, m, l, r⟩ := h
    subst e2
    exact ⟨a, dx, vs, fq, e0, e1, rfl, (k a List.mem_cons_self).1, (k a List.mem_cons_self).2.trans q, m, l, Dens.mono e ds vs fq (fun b hb => k b (List.mem_cons_of_mem _ hb)) r⟩
  | .lsa a ds, v, fp, k, h => by
    simp only [Den] at h ⊢
    obtain ⟨vs, fq, e1, e2, z, q, r⟩ := h
    subst e2
    exact ⟨vs, fq, e1, rfl, (k a List.mem_cons_self).1, (k a List.mem_cons_self).2.trans q, Dens.mono e ds vs fq (fun b hb => k b (List.mem_cons_of_mem _ hb)) r⟩
  | .dct true ks ds, v, fp, k, h => by
    simp only [Den] at h ⊢
    obtain ⟨a, vs, fq, e1, e2, z, q, l, r⟩ := h
    subst e2
    exact ⟨a, vs, fq, e1, rfl, (k a List.mem_cons_self).1, (k a List.mem_cons_self).2.trans q, l, Dens.mono e ds vs fq (fun b hb => k b (List.mem_cons_of_mem _ hb)) r⟩
  | .dct false ks ds, v, fp, k, h => by
    simp only [Den] at h ⊢
    obtain ⟨a, vs, e1, e2, q, l, r⟩ := h
    exact ⟨a, vs, e1, e2, e.l q, l, Dens.mono e ds vs [] (fun _ hb => nomatch hb) r⟩
  | .lok ks ds, v, fp, k, h => by
    simp only [Den] at h ⊢
    obtain ⟨a, od, vs, e1, e2, q, l, r⟩ := h
    exact ⟨a, od, vs, e1, e2, e.l q, l, Dens.mono e ds vs [] (fun _ hb => nomatch hb) r⟩
  | .wth x ds, v, fp, k, h => by
    simp only [Den] at h ⊢
    obtain ⟨vs, f1, f2, e2, q, r⟩ := h
    subst e2
    exact ⟨vs, f1, f2, rfl, Den.mono e x v f1 (fun b hb => k b (List.mem_append_left _ hb)) q, Dens.mono e ds vs f2 (fun b hb => k b (List.mem_append_right _ hb)) r⟩
theorem Dens.mono {Z H Y H' : Hp} (e : Ex Z Y) : ∀ (ds : List D) (vs : List V) (fp : Fp), (∀ a ∈ fp, Y a = none ∧ H' a = H a) → Dens K cl Z H ds vs fp → Dens K cl Y H' ds vs fp
  | [], _, _, _, h => h
  | d :: ds, vs, fp, k, h => by
    simp only [Dens] at h ⊢
    obtain ⟨v, vr, f1, f2, e1, e2, q, r⟩ := h
    subst e2
    exact ⟨v, vr, f1, f2, e1, rfl, Den.mono e d v f1 (fun b hb => k b (List.mem_append_left _ hb)) q, Dens.mono e ds vr f2 (fun b hb => k b (List.mem_append_right _ hb)) r⟩
end
theorem frzs_len : ∀ ds : List D, (D.frzs ds).length = ds.length
  | [] => rfl
  | d :: ds => by simp only [D.frzs, List.length_cons]; rw [frzs_len ds]
theorem Dens.length {Z H : Hp} : ∀ {ds : List D} {vs : List V} {fp : Fp}, Dens K cl Z H ds vs fp → vs.length = ds.length
  | [], _, _, h => by rw [h.1]; rfl
  | d :: ds, vs, fp, h => by
    simp only [Dens] at h
    obtain ⟨v, vr, f1, f2, e1, e2, q, r⟩ := h
    rw [e1, List.length_cons, List.length_cons, Dens.length r]
theorem zip_fst {α β : Type} : ∀ {ns : List α} {vs : List β}, ns.length = vs.length → (ns.zip vs).map Prod.fst = ns
  | [], _, _ => by simp
  | n :: ns, [], h => by cases h
  | n :: ns, v :: vs, h => by rw [List.zip_cons_cons, List.map_cons, zip_fst (Nat.succ.inj h)]
theorem Mo.nlst {y : Mo} {o : HO} (e : some y.o = some o) : (∃ xs, o = .lst xs) ∨ (∃ C dx fs, o = .ins C dx fs ∧ mutN (fs.map Prod.fst) = true) ∨ ∃ kvs, o = .dK kvs := by
  have e := Option.some.inj e
  cases y with
  | l xs => exact .inl ⟨xs, e.symm⟩
  | i C dx fs h => exact .inr (.inl ⟨C, dx, fs, e.symm, h⟩)
  | d kvs => exact .inr (.inr ⟨kvs, e.symm⟩)
theorem Mo.ne {y : Mo} {o : HO} {P : Prop} (e : some y.o = some o) (h1 : ∀ xs, o ≠ .lst xs := by exact fun _ z => nomatch z) (h2 : ∀ C dx fs, o ≠ .ins C dx fs := by exact fun _ _ _ z => nomatch z) (h3 : ∀ kvs, o ≠ .dK kvs := by exact fun _ z => nomatch z) : P := by
  rcases Mo.nlst e with ⟨xs, z⟩ | ⟨C, dx, fs, z, _⟩ | ⟨kvs, z⟩
  · exact absurd z (h1 xs)
  · exact absurd z (h2 C dx fs)
  · exact absurd z (h3 kvs)
mutual
theorem Den.freeze {Z H Y H' : Hp} (e : Ex Z Y) : ∀ (d : D) (v : V) (fp : Fp), (∀ a ∈ fp, Y a = H a) → Den K cl Z H d v fp → Den K cl Y H' d.frz v []
  | .non, _, _, _, h => ⟨h.1, rfl⟩
  | .bl _, _, _, _, h => ⟨h.1, rfl⟩
  | .int _, _, _, _, h => ⟨h.1, rfl⟩
  | .str _, _, _, _, h => ⟨h.1, rfl⟩
  | .tup ds, v, fp, k, h => by
    simp only [Den] at h
    simp only [D.frz, Den]
    obtain ⟨a, vs, e1, q, r⟩ := h
    exact ⟨a, vs, e1, e.sqT q, Dens.freeze e ds vs fp k r⟩
  | .lst true ds, v, fp, k, h => by
    simp only [Den] at h
    simp only [D.frz, Den]
    obtain ⟨a, vs, fq, e1, e2, z, q, r⟩ := h
    subst e2
    exact ⟨a, vs, e1, trivial, (k a List.mem_cons_self).trans q, Dens.freeze e ds vs fq (fun b hb => k b (List.mem_cons_of_mem _ hb)) r⟩
  | .lst false ds, v, fp, k, h => by
    simp only [Den] at h
    simp only [D.frz, Den]
    obtain ⟨a, vs, e1, e2, q, r⟩ := h
    exact ⟨a, vs, e1, trivial, e.l q, Dens.mono e ds vs [] (fun _ hb => nomatch hb) r⟩
  | .ins c ns ds, v, fp, k, h => by
    simp only [Den] at h
    simp only [D.frz, Den]
    obtain ⟨a, dx, vs, e1, e2, q, l, r⟩ := h
    exact ⟨a, dx, vs, e1, trivial, e.l q, l, Dens.mono e ds vs [] (fun _ hb => nomatch hb) r⟩
  | .scr ns, v, fp, k, h => by
    simp only [Den] at h
    simp only [D.frz, Den]
    obtain ⟨a, e1, e2, q⟩ := h
    exact ⟨a, e1, trivial, e.sqL q⟩
  | .adr _, _, _, _, h => ⟨h.1, rfl⟩
  | .cls _, _, _, _, h => ⟨h.1, rfl⟩
  | .pin _, _, _, _, h => ⟨h.1, rfl⟩
  | .err c ns ds, v, fp, k, h => by
    simp only [Den] at h
    simp only [D.frz, Den]
    obtain ⟨a, dx, vs, e1, e2, q, q2, l, r⟩ := h
    exact ⟨a, dx, vs, e1, trivial, e.l q (noT_exo _ _ _), e.l q2 (noT_exd _ _), l, Dens.mono e ds vs [] (fun _ hb => nomatch hb) r⟩
  | .own oa c ns ds, v, fp, k, h => by
    simp only [Den] at h
    simp only [D.frz, Den]
    obtain ⟨a, dx, vs, fq, e0, e1, e2, z, q, m, l, r⟩ := h
    subst e2
    exact ⟨a, dx, vs, e1, trivial, (k a List.mem_cons_self).trans q, l.trans (frzs_len ds).symm, Dens.freeze e ds vs fq (fun b hb => k b (List.mem_cons_of_mem _ hb)) r⟩
  | .lsa a ds, v, fp, k, h => by
    simp only [Den] at h
    simp only [D.frz, Den]
    obtain ⟨vs, fq, e1, e2, z, q, r⟩ := h
    subst e2
    exact ⟨a, vs, e1, trivial, (k a List.mem_cons_self).trans q, Dens.freeze e ds vs fq (fun b hb => k b (List.mem_cons_of_mem _ hb)) r⟩
  | .dct true ks ds, v, fp, k, h => by
    simp only [Den] at h
    simp only [D.frz, Den]
    obtain ⟨a, vs, fq, e1, e2, z, q, l, r⟩ := h
    subst e2
    exact ⟨a, vs, e1, trivial, (k a List.mem_cons_self).trans q, l.trans (frzs_len ds).symm, Dens.freeze e ds vs fq (fun b hb => k b (List.mem_cons_of_mem _ hb)) r⟩
  | .dct false ks ds, v, fp, k, h => by
    simp only [Den] at h
    simp only [D.frz, Den]
    obtain ⟨a, vs, e1, e2, q, l, r⟩ := h
    exact ⟨a, vs, e1, trivial, e.l q, l, Dens.mono e ds vs [] (fun _ hb => nomatch hb) r⟩
  | .lok ks ds, v, fp, k, h => by
    simp only [Den] at h
    simp only [D.frz, Den]
    obtain ⟨a, od, vs, e1, e2, q, l, r⟩ := h
    exact ⟨a, od, vs, e1, trivial, e.l q, l, Dens.mono e ds vs [] (fun _ hb => nomatch hb) r⟩
  | .wth x ds, v, fp, k, h => by
    simp only [Den] at h
    simp only [D.frz, Den]
    obtain ⟨vs, f1, f2, e2, q, r⟩ := h
    subst e2
    exact ⟨vs, [], [], rfl, Den.freeze e x v f1 (fun b hb => k b (List.mem_append_left _ hb)) q, Dens.freeze e ds vs f2 (fun b hb => k b (List.mem_append_right _ hb)) r⟩
theorem Dens.freeze {Z H Y H' : Hp} (e : Ex Z Y) : ∀ (ds : List D) (vs : List V) (fp : Fp), (∀ a ∈ fp, Y a = H a) → Dens K cl Z H ds vs fp → Dens K cl Y H' (D.frzs ds) vs []
  | [], _, _, _, h => ⟨h.1, rfl⟩
  | d :: ds, vs, fp, k, h => by
    simp only [Dens] at h
    simp only [D.frzs, Dens]
    obtain ⟨v, vr, f1, f2, e1, e2, q, r⟩ := h
    subst e2
    exact ⟨v, vr, [], [], e1, rfl, Den.freeze e d v f1 (fun b hb => k b (List.mem_append_left _ hb)) q, Dens.freeze e ds vr f2 (fun b hb => k b (List.mem_append_right _ hb)) r⟩
end
mutual
theorem Den.clean {Z H Y : Hp} (k : ∀ a, Z a = Y a ∨ (Z a = none ∧ ∃ xs : Mo, Y a = some xs.o)) : ∀ (d : D) (v : V) (fp : Fp), d.cln = true → Den K cl Y H d v fp → Den K cl Z H d v fp
  | .non, _, _, _, h => h
  | .bl _, _, _, _, h => h
  | .int _, _, _, _, h => h
  | .str _, _, _, _, h => h
  | .tup ds, v, fp, c, h => by
    simp only [Den] at h ⊢
    obtain ⟨a, vs, e1, q, r⟩ := h
    refine ⟨a, vs, e1, ?_, Dens.clean k ds vs fp c r⟩
    rcases k a with z | ⟨_, xs, z⟩
    · rcases q with q | q
      · left
        rcases q with q | ⟨o, q⟩
        · exact .inl (z.trans q)
        · exact .inr ⟨o, z.trans q⟩
      · exact .inr q
    · rcases q with q | q
      · rcases q with q | ⟨o, q⟩
        · rw [z] at q; exact Mo.ne q
        · rw [z] at q; exact Mo.ne q
      · exact .inr q
  | .lst true ds, v, fp, c, h => by
    simp only [Den] at h ⊢
    obtain ⟨a, vs, fq, e1, e2, z, q, r⟩ := h
    refine ⟨a, vs, fq, e1, e2, ?_, q, Dens.clean k ds vs fq c r⟩
    rcases k a with y | ⟨y, _⟩
    · exact y.trans z
    · exact y
  | .lst false ds, v, fp, c, h => by
    have c' : false = true := c
    cases c'
  | .ins cn ns ds, v, fp, c, h => by
    simp only [Den] at h ⊢
    obtain ⟨a, dx, vs, e1, e2, q, l, r⟩ := h
    have c2 : (!mutN ns && D.clns ds) = true := c
    obtain ⟨c3, c4⟩ := Bool.and_eq_true_iff.mp c2
    refine ⟨a, dx, vs, e1, e2, ?_, l, Dens.clean k ds vs [] c4 r⟩
    rcases k a with z | ⟨_, xs, z⟩
    · exact z.trans q
    · rw [z] at q
      rcases Mo.nlst q with ⟨xs, z⟩ | ⟨C, dx, fs, z, hm⟩ | ⟨kvs, z⟩
      · cases z
      · cases z
        rw [zip_fst (l.trans r.length.symm)] at hm
        rw [hm] at c3
        cases c3
      · cases z
  | .scr ns, v, fp, c, h => by
    have c' : false = true := c
    cases c'
  | .adr _, _, _, _, h => h
  | .cls _, _, _, _, h => h
  | .pin _, _, _, _, h => h
  | .err cn ns ds, v, fp, c, h => by
    simp only [Den] at h ⊢
    obtain ⟨a, dx, vs, e1, e2, q, q2, l, r⟩ := h
    refine ⟨a, dx, vs, e1, e2, ?_, ?_, l, Dens.clean k ds vs [] c r⟩
    · rcases k a with z | ⟨_, xs, z⟩
      · exact z.trans q
      · rw [z] at q; exact Mo.ne q (fun _ => exo_lst) (fun _ _ _ z => by have z' : HO.ext _ = HO.ins _ _ _ := z; cases z') (fun _ z => by have z' : HO.ext _ = HO.dK _ := z; cases z')
    · rcases k dx with z | ⟨_, xs, z⟩
      · exact z.trans q2
      · rw [z] at q2; exact Mo.ne q2 (fun _ => exd_lst) (fun _ _ _ z => by have z' : HO.ext _ = HO.ins _ _ _ := z; cases z') (fun _ z => by have z' : HO.ext _ = HO.dK _ := z; cases z')
  | .own oa cn ns ds, v, fp, c, h => by
    simp only [Den] at h ⊢
    obtain ⟨a, dx, vs, fq, e0, e1, e2, z, q, m, l, r⟩ := h
    refine ⟨a, dx, vs, fq, e0, e1, e2, ?_, q, m, l, Dens.clean k ds vs fq c r⟩
    rcases k a with y | ⟨y, _⟩
    · exact y.trans z
    · exact y
  | .lsa a ds, v, fp, c, h => by
    simp only [Den] at h ⊢
    obtain ⟨vs, fq, e1, e2, z, q, r⟩ := h
    refine ⟨vs, fq, e1, e2, ?_, q, Dens.clean k ds vs fq c r⟩
    rcases k a with y | ⟨y, _⟩
    · exact y.trans z
    · exact y
  | .dct true ks ds, v, fp, c, h => by
    simp only [Den] at h ⊢
    obtain ⟨a, vs, fq, e1, e2, z, q, l, r⟩ := h
    refine ⟨a, vs, fq, e1, e2, ?_, q, l, Dens.clean k ds vs fq c r⟩
    rcases k a with y | ⟨y, _⟩
    · exact y.trans z
    · exact y
  | .dct false ks ds, v, fp, c, h => by
    have c' : false = true := c
    cases c'
  | .lok ks ds, v, fp, c, h => by
    simp only [Den] at h ⊢
    obtain ⟨a, od, vs, e1, e2, q, l, r⟩ := h
    refine ⟨a, od, vs, e1, e2, ?_, l, Dens.clean k ds vs [] c r⟩
    rcases k a with y | ⟨_, xs, y⟩
    · exact y.trans q
    · rw [q] at y; cases xs <;> cases y
  | .wth x ds, v, fp, c, h => by
    simp only [Den] at h ⊢
    have c2 : x.cln = true ∧ D.clns ds = true := Bool.and_eq_true_iff.mp c
    obtain ⟨vs, f1, f2, e2, q, r⟩ := h
    exact ⟨vs, f1, f2, e2, Den.clean k x v f1 c2.1 q, Dens.clean k ds vs f2 c2.2 r⟩
theorem Dens.clean {Z H Y : Hp} (k : ∀ a, Z a = Y a ∨ (Z a = none ∧ ∃ xs : Mo, Y a = some xs.o)) : ∀ (ds : List D) (vs : List V) (fp : Fp), D.clns ds = true → Dens K cl Y H ds vs fp → Dens K cl Z H ds vs fp
  | [], _, _, _, h => h
  | d :: ds, vs, fp, c, h => by
    simp only [Dens] at h ⊢
    have c2 : d.cln = true ∧ D.clns ds = true := Bool.and_eq_true_iff.mp c
    obtain ⟨v, vr, f1, f2, e1, e2, q, r⟩ := h
    exact ⟨v, vr, f1, f2, e1, e2, Den.clean k d v f1 c2.1 q, Dens.clean k ds vr f2 c2.2 r⟩
end
mutual
theorem Den.fz {Z H : Hp} : ∀ (d : D) (v : V) (fp : Fp), d.fz = true → Den K cl Z H d v fp → fp = []
  | .non, _, _, _, h => h.2
  | .bl _, _, _, _, h => h.2
  | .int _, _, _, _, h => h.2
  | .str _, _, _, _, h => h.2
  | .tup ds, v, fp, c, h => by
    simp only [Den] at h
    obtain ⟨a, vs, e1, q, r⟩ := h
    exact Dens.fz ds vs fp c r
  | .lst true ds, v, fp, c, h => by
    have c' : false = true := c
    cases c'
  | .lst false ds, v, fp, c, h => by
    simp only [Den] at h
    obtain ⟨a, vs, e1, e2, _⟩ := h
    exact e2
  | .ins cn ns ds, v, fp, c, h => by
    simp only [Den] at h
    obtain ⟨a, dx, vs, e1, e2, _⟩ := h
    exact e2
  | .scr ns, v, fp, c, h => by
    simp only [Den] at h
    obtain ⟨a, e1, e2, _⟩ := h
    exact e2
  | .adr _, _, _, _, h => h.2
  | .cls _, _, _, _, h => h.2
  | .pin _, _, _, _, h => h.2
  | .err cn ns ds, v, fp, c, h => by
    simp only [Den] at h
    obtain ⟨a, dx, vs, e1, e2, _⟩ := h
    exact e2
  | .own oa cn ns ds, v, fp, c, h => by
    have c' : false = true := c
    cases c'
  | .lsa a ds, v, fp, c, h => by
    have c' : false = true := c
    cases c'
  | .dct true ks ds, v, fp, c, h => by
    have c' : false = true := c
    cases c'
  | .dct false ks ds, v, fp, c, h => by
    simp only [Den] at h
    obtain ⟨a, vs, e1, e2, _⟩ := h
    exact e2
  | .lok ks ds, v, fp, c, h => by
    simp only [Den] at h
    obtain ⟨a, od, vs, e1, e2, _⟩ := h
    exact e2
  | .wth x ds, v, fp, c, h => by
    have c' : false = true := c
    cases c'
theorem Dens.fz {Z H : Hp} : ∀ (ds : List D) (vs : List V) (fp : Fp), D.fzs ds = true → Dens K cl Z H ds vs fp → fp = []
  | [], _, _, _, h => h.2
  | d :: ds, vs, fp, c, h => by
    simp only [Dens] at h
    have c2 : d.fz = true ∧ D.fzs ds = true := Bool.and_eq_true_iff.mp c
    obtain ⟨v, vr, f1, f2, e1, e2, q, r⟩ := h
    rw [e2, Den.fz d v f1 c2.1 q, Dens.fz ds vr f2 c2.2 r]
    rfl
end
mutual
theorem Den.own {Z H : Hp} : ∀ (d : D) (v : V) (fp : Fp), Den K cl Z H d v fp → ∀ a ∈ fp, Z a = none ∧ ∃ xs : Mo, H a = some xs.o
  | .non, _, _, h, _, ha => by rw [h.2] at ha; cases ha
  | .bl _, _, _, h, _, ha => by rw [h.2] at ha; cases ha
  | .int _, _, _, h, _, ha => by rw [h.2] at ha; cases ha
  | .str _, _, _, h, _, ha => by rw [h.2] at ha; cases ha
  | .tup ds, v, fp, h, b, hb => by
    simp only [Den] at h
    obtain ⟨a, vs, e1, q, r⟩ := h
    exact Dens.own ds vs fp r b hb
  | .lst true ds, v, fp, h, b, hb => by
    simp only [Den] at h
    obtain ⟨a, vs, fq, e1, e2, z, q, r⟩ := h
    subst e2
    rcases List.mem_cons.mp hb with hb | hb
    · subst hb; exact ⟨z, .l vs, q⟩
    · exact Dens.own ds vs fq r b hb
  | .lst false ds, v, fp, h, b, hb => by
    simp only [Den] at h
    obtain ⟨a, vs, e1, e2, _⟩ := h
    rw [e2] at hb; cases hb
  | .ins cn ns ds, v, fp, h, b, hb => by
    simp only [Den] at h
    obtain ⟨a, dx, vs, e1, e2, _⟩ := h
    rw [e2] at hb; cases hb
  | .scr ns, v, fp, h, b, hb => by
    simp only [Den] at h
    obtain ⟨a, e1, e2, _⟩ := h
    rw [e2] at hb; cases hb
  | .adr _, _, _, h, _, ha => by rw [h.2] at ha; cases ha
  | .cls _, _, _, h, _, ha => by rw [h.2] at ha; cases ha
  | .pin _, _, _, h, _, ha => by rw [h.2] at ha; cases ha
  | .err cn ns ds, v, fp, h, b, hb => by
    simp only [Den] at h
    obtain ⟨a, dx, vs, e1, e2, _⟩ := h
    rw [e2] at hb; cases hb
  | .own oa cn ns ds, v, fp, h, b, hb => by
    simp only [Den] at h
    obtain ⟨a, dx, vs, fq, e0, e1, e2, z, q, m, l, r⟩ := h
    subst e2
    rcases List.mem_cons.mp hb with hb | hb
    · subst hb; exact ⟨z, .i (cl cn) dx (ns.zip vs) (by rw [zip_fst (l.trans r.length.symm)]; exact m), q⟩
    · exact Dens.own ds vs fq r b hb
  | .lsa a ds, v, fp, h, b, hb => by
    simp only [Den] at h
    obtain ⟨vs, fq, e1, e2, z, q, r⟩ := h
    subst e2
    rcases List.mem_cons.mp hb with hb | hb
    · subst hb; exact ⟨z, .l vs, q⟩
    · exact Dens.own ds vs fq r b hb
  | .dct true ks ds, v, fp, h, b, hb => by
    simp only [Den] at h
    obtain ⟨a, vs, fq, e1, e2, z, q, l, r⟩ := h
    subst e2
    rcases List.mem_cons.mp hb with hb | hb
    · subst hb; exact ⟨z, .d (ks.zip vs), q⟩
    · exact Dens.own ds vs fq r b hb
  | .dct false ks ds, v, fp, h, b, hb => by
    simp only [Den] at h
    obtain ⟨a, vs, e1, e2, _⟩ := h
    rw [e2] at hb; cases hb
  | .lok ks ds, v, fp, h, b, hb => by
    simp only [Den] at h
    obtain ⟨a, od, vs, e1, e2, _⟩ := h
    rw [e2] at hb; cases hb
  | .wth x ds, v, fp, h, b, hb => by
    simp only [Den] at h
    obtain ⟨vs, f1, f2, e2, q, r⟩ := h
    subst e2
    rcases List.mem_append.mp hb with hb | hb
    · exact Den.own x v f1 q b hb
    · exact Dens.own ds vs f2 r b hb
theorem Dens.own {Z H : Hp} : ∀ (ds : List D) (vs : List V) (fp : Fp), Dens K cl Z H ds vs fp → ∀ a ∈ fp, Z a = none ∧ ∃ xs : Mo, H a = some xs.o
  | [], _, _, h, _, ha => by rw [h.2] at ha; cases ha
  | d :: ds, vs, fp, h, b, hb => by
    simp only [Dens] at h
    obtain ⟨v, vr, f1, f2, e1, e2, q, r⟩ := h
    subst e2
    rcases List.mem_append.mp hb with hb | hb
    · exact Den.own d v f1 q b hb
    · exact Dens.own ds vr f2 r b hb
end
theorem Dens.get {Z H : Hp} : ∀ {ds : List D} {vs : List V} {fp : Fp} {i : Nat} {d : D}, Dens K cl Z H ds vs fp → ds[i]? = some d → ∃ v f, vs[i]? = some v ∧ Den K cl Z H d v f ∧ (∀ a ∈ f, a ∈ fp) ∧ f.Sublist fp
  | [], _, _, _, _, _, e => by simp at e
  | d :: ds, vs, fp, 0, x, h, e => by
    simp only [Dens] at h
    obtain ⟨v, vr, f1, f2, e1, e2, q, r⟩ := h
    have e' : d = x := by simpa using e
    subst e' e1 e2
    exact ⟨v, f1, rfl, q, fun a ha => List.mem_append_left _ ha, List.sublist_append_left _ _⟩
  | d :: ds, vs, fp, i + 1, x, h, e => by
    simp only [Dens] at h
    obtain ⟨v, vr, f1, f2, e1, e2, q, r⟩ := h
    subst e1 e2
    obtain ⟨u, f, h1, h2, h3, h4⟩ := Dens.get (i := i) r (by simpa using e)
    exact ⟨u, f, by simpa using h1, h2, fun a ha => List.mem_append_right _ (h3 a ha), h4.trans (List.sublist_append_right _ _)⟩
theorem Dens.append {Z H : Hp} : ∀ {ds es : List D} {vs us : List V} {f g : Fp}, Dens K cl Z H ds vs f → Dens K cl Z H es us g → Dens K cl Z H (ds ++ es) (vs ++ us) (f ++ g)
  | [], es, vs, us, f, g, h, k => by
    obtain ⟨e1, e2⟩ := h
    subst e1 e2
    exact k
  | d :: ds, es, vs, us, f, g, h, k => by
    simp only [Dens] at h
    obtain ⟨v, vr, f1, f2, e1, e2, q, r⟩ := h
    subst e1 e2
    show Dens K cl Z H (d :: (ds ++ es)) _ _
    simp only [Dens]
    exact ⟨v, vr ++ us, f1, f2 ++ g, rfl, by rw [List.append_assoc], q, Dens.append r k⟩
theorem Dens.one {Z H : Hp} {d : D} {v : V} {f : Fp} (h : Den K cl Z H d v f) : Dens K cl Z H [d] [v] f := by
  simp only [Dens]
  exact ⟨v, [], f, [], rfl, by simp, h, rfl, rfl⟩
theorem Dens.cons {Z H : Hp} {d : D} {ds : List D} {v : V} {vs : List V} {f g : Fp} (h : Den K cl Z H d v f) (k : Dens K cl Z H ds vs g) : Dens K cl Z H (d :: ds) (v :: vs) (f ++ g) := by
  simp only [Dens]
  exact ⟨v, vs, f, g, rfl, rfl, h, k⟩
end
end DL
namespace DL
open PySem PySem.Spec PyProof.Rows L2
variable [Tb]
abbrev Env := List (Option D)
structure Gr (Z H Z' H' : Hp) : Prop where
  z : Ex Z Z'
  h : Ex H H'
  s : Ex Z' H'
  n : ∀ a, H a ≠ none → Z a = none → Z' a = none
theorem Gr.refl {Z H : Hp} (s : Ex Z H) : Gr Z H Z H := ⟨Ex.refl _, Ex.refl _, s, fun _ _ h => h⟩
theorem Gr.trans {Z H Z1 H1 Z2 H2 : Hp} (a : Gr Z H Z1 H1) (b : Gr Z1 H1 Z2 H2) : Gr Z H Z2 H2 :=
  ⟨a.z.trans b.z, a.h.trans b.h, b.s, fun x hx hz => b.n x (a.h.ne x hx) (a.n x hx hz)⟩
theorem Gr.new {Z H : Hp} {p : Addr} {o : HO} (s : Ex Z H) (hp : H p = none) (no : NoT o := by exact fun _ z => nomatch z) (nx : ∀ φ, o ≠ .ext φ := by exact fun _ z => nomatch z) : Gr Z H (upd Z p o) (upd H p o) := by
  have zp : Z p = none := s.back hp
  have hs : Ex H (upd H p o) := Ex.new hp
  refine ⟨Ex.new zp, hs, ⟨fun a u n e => ?_, fun a e => ?_, fun P q m h => ?_⟩, fun a ha hz => ?_⟩
  · by_cases c : a = p
    · subst c; rw [upd_same] at e ⊢; exact e
    · rw [upd_ne c] at e ⊢; exact s.at_ a u n e
  · by_cases c : a = p
    · subst c; rw [upd_same]; exact fun z => nomatch z
    · rw [upd_ne c] at e ⊢; exact s.ne a e
  · refine hs.tab P q m (s.tab P q m ?_)
    obtain ⟨ps, h1, h2, h3⟩ := h
    have cP : P ≠ p := fun c => by
      rw [c, upd_same] at h1
      exact no ps (Option.some.inj h1)
    refine ⟨ps, by rw [upd_ne cP] at h1; exact h1, h2, fun pos cv hc => ?_⟩
    obtain ⟨c, e1, e2⟩ := h3 pos cv hc
    refine ⟨c, e1, ?_⟩
    by_cases cc : c = p
    · rw [cc, upd_same] at e2
      exact absurd (Option.some.inj e2) (nx _)
    · rw [upd_ne cc] at e2; exact e2
  · have c : a ≠ p := fun c => ha (by rw [c]; exact hp)
    rw [upd_ne c]; exact hz
theorem Gr.newO {Z H : Hp} {p : Addr} {o : HO} (s : Ex Z H) (hp : H p = none) : Gr Z H Z (upd H p o) :=
  ⟨Ex.refl _, Ex.new hp, s.trans (Ex.new hp), fun _ _ h => h⟩
section
variable {K : PySem.W.Frag} {cl : Str → Addr} {Z H Z' H' : Hp}
theorem Gr.den (g : Gr Z H Z' H') {d : D} {v : V} {fp : Fp} (h : Den K cl Z H d v fp) : Den K cl Z' H' d v fp :=
  Den.mono g.z d v fp (fun a ha => by
    obtain ⟨z, xs, q⟩ := Den.own d v fp h a ha
    exact ⟨g.n a (by rw [q]; exact Option.some_ne_none _) z, by rw [q]; exact g.h.l q⟩) h
theorem Gr.dens (g : Gr Z H Z' H') {d : List D} {v : List V} {fp : Fp} (h : Dens K cl Z H d v fp) : Dens K cl Z' H' d v fp :=
  Dens.mono g.z d v fp (fun a ha => by
    obtain ⟨z, xs, q⟩ := Dens.own d v fp h a ha
    exact ⟨g.n a (by rw [q]; exact Option.some_ne_none _) z, by rw [q]; exact g.h.l q⟩) h
variable (K cl) in
def Slots (Z H : Hp) : Env → L2.St → Fp → Prop
  | [], σ, fp => σ = [] ∧ fp = []
  | none :: ρ, σ, fp => ∃ o σ', σ = o :: σ' ∧ Slots Z H ρ σ' fp
  | some d :: ρ, σ, fp => ∃ v σ' f1 f2, σ = some v :: σ' ∧ fp = f1 ++ f2 ∧ Den K cl Z H d v f1 ∧ Slots Z H ρ σ' f2
theorem Slots.mono {Y H' : Hp} (e : Ex Z Y) : ∀ {ρ : Env} {σ : L2.St} {fp : Fp}, (∀ a ∈ fp, Y a = none ∧ H' a = H a) → Slots K cl Z H ρ σ fp → Slots K cl Y H' ρ σ fp
  | [], _, _, _, h => h
  | none :: ρ, σ, fp, k, h => by
    obtain ⟨o, σ', e1, r⟩ := h
    exact ⟨o, σ', e1, Slots.mono e k r⟩
  | some d :: ρ, σ, fp, k, h => by
    obtain ⟨v, σ', f1, f2, e1, e2, q, r⟩ := h
    subst e2
    exact ⟨v, σ', f1, f2, e1, rfl, Den.mono e d v f1 (fun b hb => k b (List.mem_append_left _ hb)) q, Slots.mono e (fun b hb => k b (List.mem_append_right _ hb)) r⟩
theorem Slots.own : ∀ {ρ : Env} {σ : L2.St} {fp : Fp}, Slots K cl Z H ρ σ fp → ∀ a ∈ fp, Z a = none ∧ ∃ xs : Mo, H a = some xs.o
  | [], _, _, h, _, ha => by rw [h.2] at ha; cases ha
  | none :: ρ, σ, fp, h, b, hb => by
    obtain ⟨o, σ', e1, r⟩ := h
    exact Slots.own r b hb
  | some d :: ρ, σ, fp, h, b, hb => by
    obtain ⟨v, σ', f1, f2, e1, e2, q, r⟩ := h
    subst e2
    rcases List.mem_append.mp hb with hb | hb
    · exact Den.own d v f1 q b hb
    · exact Slots.own r b hb
theorem Slots.get : ∀ {ρ : Env} {σ : L2.St} {fp : Fp} {i : Nat} {d : D}, Slots K cl Z H ρ σ fp → ρ[i]? = some (some d) →
    ∃ v f, σ[i]? = some (some v) ∧ Den K cl Z H d v f ∧ f.Sublist fp
  | [], _, _, _, _, _, e => by simp at e
  | none :: ρ, σ, fp, 0, d, h, e => by simp at e
  | none :: ρ, σ, fp, i + 1, d, h, e => by
    obtain ⟨o, σ', e1, r⟩ := h
    subst e1
    obtain ⟨v, f, h1, h2, h3⟩ := Slots.get (i := i) r (by simpa using e)
    exact ⟨v, f, by simpa using h1, h2, h3⟩
  | some x :: ρ, σ, fp, 0, d, h, e => by
    obtain ⟨v, σ', f1, f2, e1, e2, q, r⟩ := h
    have e' : x = d := by simpa using e
    subst e' e1 e2
    exact ⟨v, f1, rfl, q, List.sublist_append_left _ _⟩
  | some x :: ρ, σ, fp, i + 1, d, h, e => by
    obtain ⟨v, σ', f1, f2, e1, e2, q, r⟩ := h
    subst e1 e2
    obtain ⟨u, f, h1, h2, h3⟩ := Slots.get (i := i) r (by simpa using e)
    exact ⟨u, f, by simpa using h1, h2, h3.trans (List.sublist_append_right _ _)⟩
theorem Slots.length : ∀ {ρ : Env} {σ : L2.St} {fp : Fp}, Slots K cl Z H ρ σ fp → σ.length = ρ.length
  | [], _, _, h => by rw [h.1]; rfl
  | none :: ρ, σ, fp, h => by
    obtain ⟨o, σ', e1, r⟩ := h
    subst e1
    show σ'.length + 1 = ρ.length + 1
    rw [Slots.length r]
  | some x :: ρ, σ, fp, h => by
    obtain ⟨v, σ', f1, f2, e1, e2, q, r⟩ := h
    subst e1
    show σ'.length + 1 = ρ.length + 1
    rw [Slots.length r]
theorem app_nd {f1 f2 g : Fp} (h : (f1 ++ f2).Nodup) (hg : g.Nodup) (d : ∀ a ∈ g, a ∉ f2) : (g ++ f2).Nodup := by
  rw [List.nodup_append] at h ⊢
  exact ⟨hg, h.2.1, fun a ha b hb e => d a ha (e ▸ hb)⟩
theorem Slots.set : ∀ {ρ : Env} {σ : L2.St} {fp : Fp} {i : Nat} {d : D} {v : V} {g : Fp}, Slots K cl Z H ρ σ fp → fp.Nodup → Den K cl Z H d v g → g.Nodup → (∀ a ∈ g, a ∉ fp) → i < ρ.length →
    ∃ fp', Slots K cl Z H (ρ.set i (some d)) (σ.set i (some v)) fp' ∧ fp'.Nodup ∧ ∀ a ∈ fp', a ∈ fp ∨ a ∈ g
  | [], _, _, _, _, _, _, _, _, _, _, _, hi => absurd hi (Nat.not_lt_zero _)
  | none :: ρ, σ, fp, 0, d, v, g, h, nd, hd, ng, dj, _ => by
    obtain ⟨o, σ', e1, r⟩ := h
    subst e1
    refine ⟨g ++ fp, ⟨v, σ', g, fp, rfl, rfl, hd, r⟩, ?_, fun a ha => (List.mem_append.mp ha).symm⟩
    rw [List.nodup_append]
    exact ⟨ng, nd, fun a ha b hb e => dj a ha (e ▸ hb)⟩
  | none :: ρ, σ, fp, i + 1, d, v, g, h, nd, hd, ng, dj, hi => by
    obtain ⟨o, σ', e1, r⟩ := h
    subst e1
    obtain ⟨fp', h1, h2, h3⟩ := Slots.set (i := i) r nd hd ng dj (Nat.lt_of_succ_lt_succ hi)
    exact ⟨fp', ⟨o, _, rfl, h1⟩, h2, h3⟩
  | some x :: ρ, σ, fp, 0, d, v, g, h, nd, hd, ng, dj, _ => by
    obtain ⟨u, σ', f1, f2, e1, e2, q, r⟩ := h
    subst e1 e2
    refine ⟨g ++ f2, ⟨v, σ', g, f2, rfl, rfl, hd, r⟩, app_nd nd ng fun a ha hb => dj a ha (List.mem_append_right _ hb), fun a ha => ?_⟩
    rcases List.mem_append.mp ha with z | z
    · exact .inr z
    · exact .inl (List.mem_append_right _ z)
  | some x :: ρ, σ, fp, i + 1, d, v, g, h, nd, hd, ng, dj, hi => by
    obtain ⟨u, σ', f1, f2, e1, e2, q, r⟩ := h
    subst e1 e2
    have nd' := List.nodup_append.mp nd
    obtain ⟨fp', h1, h2, h3⟩ := Slots.set (i := i) r nd'.2.1 hd ng (fun a ha hb => dj a ha (List.mem_append_right _ hb)) (Nat.lt_of_succ_lt_succ hi)
    refine ⟨f1 ++ fp', ⟨u, _, f1, fp', rfl, rfl, q, h1⟩, ?_, fun a ha => ?_⟩
    · rw [List.nodup_append]
      refine ⟨nd'.1, h2, fun a ha b hb e => ?_⟩
      subst e
      rcases h3 a hb with z | z
      · exact nd'.2.2 a ha a z rfl
      · exact dj a z (List.mem_append_left _ ha)
    · rcases List.mem_append.mp ha with z | z
      · exact .inl (List.mem_append_left _ z)
      · rcases h3 a z with z | z
        · exact .inl (List.mem_append_right _ z)
        · exact .inr z
theorem Slots.drop : ∀ {ρ : Env} {σ : L2.St} {fp : Fp} {i : Nat} {o : Option V}, Slots K cl Z H ρ σ fp → fp.Nodup →
    ∃ fp', Slots K cl Z H (ρ.set i none) (σ.set i o) fp' ∧ fp'.Nodup ∧ ∀ a ∈ fp', a ∈ fp
  | [], σ, fp, i, o, h, nd => by
    obtain ⟨e1, e2⟩ := h
    subst e1 e2
    exact ⟨[], ⟨rfl, rfl⟩, nd, fun _ z => z⟩
  | none :: ρ, σ, fp, 0, o, h, nd => by
    obtain ⟨p, σ', e1, r⟩ := h
    subst e1
    exact ⟨fp, ⟨o, σ', rfl, r⟩, nd, fun _ z => z⟩
  | none :: ρ, σ, fp, i + 1, o, h, nd => by
    obtain ⟨p, σ', e1, r⟩ := h
    subst e1
    obtain ⟨fp', h1, h2, h3⟩ := Slots.drop (i := i) (o := o) r nd
    exact ⟨fp', ⟨p, _, rfl, h1⟩, h2, h3⟩
  | some x :: ρ, σ, fp, 0, o, h, nd => by
    obtain ⟨u, σ', f1, f2, e1, e2, q, r⟩ := h
    subst e1 e2
    exact ⟨f2, ⟨o, σ', rfl, r⟩, (List.nodup_append.mp nd).2.1, fun a ha => List.mem_append_right _ ha⟩
  | some x :: ρ, σ, fp, i + 1, o, h, nd => by
    obtain ⟨u, σ', f1, f2, e1, e2, q, r⟩ := h
    subst e1 e2
    have nd' := List.nodup_append.mp nd
    obtain ⟨fp', h1, h2, h3⟩ := Slots.drop (i := i) (o := o) r nd'.2.1
    refine ⟨f1 ++ fp', ⟨u, _, f1, fp', rfl, rfl, q, h1⟩, ?_, fun a ha => ?_⟩
    · rw [List.nodup_append]
      exact ⟨nd'.1, h2, fun a ha b hb e => nd'.2.2 a ha b (h3 b hb) e⟩
    · rcases List.mem_append.mp ha with z | z
      · exact List.mem_append_left _ z
      · exact List.mem_append_right _ (h3 a z)
theorem Slots.frz {Y : Hp} (e : Ex Z Y) : ∀ {ρ : Env} {σ : L2.St} {fp : Fp} {i : Nat} {d : D}, Slots K cl Z H ρ σ fp → fp.Nodup → ρ[i]? = some (some d) →
    ∃ (f fp' : Fp), (∀ a ∈ f, a ∈ fp) ∧ ((∀ a, Y a = if a ∈ f then H a else Z a) → Slots K cl Y H (ρ.set i (some d.frz)) σ fp') ∧ fp'.Nodup ∧ (∀ a ∈ fp', a ∈ fp) ∧ ∀ a ∈ fp', a ∉ f
  | [], _, _, _, _, _, _, e => by simp at e
  | none :: ρ, σ, fp, 0, d, h, nd, e' => by simp at e'
  | none :: ρ, σ, fp, i + 1, d, h, nd, e' => by
    obtain ⟨o, σ', e1, r⟩ := h
    subst e1
    obtain ⟨f, fp', h0, h1, h2, h3, h4⟩ := Slots.frz e (i := i) r nd (by simpa using e')
    exact ⟨f, fp', h0, fun y => ⟨o, _, rfl, h1 y⟩, h2, h3, h4⟩
  | some x :: ρ, σ, fp, 0, d, h, nd, e' => by
    obtain ⟨v, σ', f1, f2, e1, e2, q, r⟩ := h
    have ex : x = d := by simpa using e'
    subst ex e1 e2
    have nd' := List.nodup_append.mp nd
    refine ⟨f1, f2, fun a ha => List.mem_append_left _ ha, fun y => ⟨v, σ', [], f2, rfl, rfl, ?_, ?_⟩, nd'.2.1, fun a ha => List.mem_append_right _ ha, fun a ha hb => nd'.2.2 a hb a ha rfl⟩
    · exact Den.freeze e x v f1 (fun a ha => by rw [y a, if_pos ha]) q
    · refine Slots.mono e (fun a ha => ⟨?_, rfl⟩) r
      rw [y a, if_neg fun hb => nd'.2.2 a hb a ha rfl]
      exact (Slots.own r a ha).1
  | some x :: ρ, σ, fp, i + 1, d, h, nd, e' => by
    obtain ⟨v, σ', f1, f2, e1, e2, q, r⟩ := h
    subst e1 e2
    have nd' := List.nodup_append.mp nd
    obtain ⟨f, fp', h0, h1, h2, h3, h4⟩ := Slots.frz e (i := i) r nd'.2.1 (by simpa using e')
    refine ⟨f, f1 ++ fp', fun a ha => List.mem_append_right _ (h0 a ha), fun y => ⟨v, σ', f1, fp', rfl, rfl, ?_, h1 y⟩, ?_, fun a ha => ?_, fun a ha hb => ?_⟩
    · refine Den.mono e x v f1 (fun a ha => ⟨?_, rfl⟩) q
      rw [y a, if_neg fun hb => nd'.2.2 a ha a (h0 a hb) rfl]
      exact (Den.own x v f1 q a ha).1
    · rw [List.nodup_append]
      exact ⟨nd'.1, h2, fun a ha b hb e => nd'.2.2 a ha b (h3 b hb) e⟩
    · rcases List.mem_append.mp ha with z | z
      · exact List.mem_append_left _ z
      · exact List.mem_append_right _ (h3 a z)
    · rcases List.mem_append.mp ha with z | z
      · exact nd'.2.2 a z a (h0 a hb) rfl
      · exact h4 a z hb
end
section
variable (K : PySem.W.Frag) (cl : Str → Addr)
structure RelS (Z H : Hp) (σ : L2.St) (ρ : Env) : Prop where
  s : Ex Z H
  t : TabsK K Z
  e : ∃ fp, Slots K cl Z H ρ σ fp ∧ fp.Nodup
def PostV (Z H : Hp) (d : D) (Q : VK) : Prop := ∀ v Z' H' fp, Gr Z H Z' H' → Den K cl Z' H' d v fp → fp.Nodup → (∀ a ∈ fp, H a = none) → Q v H'
def PostB (Z H : Hp) (d : D) (Q : VK) : Prop := ∀ v Z' H' fp, Gr Z H Z' H' → Den K cl Z' H' d v fp → Q v H'
def ExD (Z H : Hp) (ns : List Str) (xs : List D) (dc : Option Addr) : Prop :=
  (ns = [] ∧ xs = [] ∧ dc = none) ∨ ∃ d vs, dc = some d ∧ Z d = some (.xd (ns.zip vs)) ∧ ns.length = xs.length ∧ Dens K cl Z H xs vs []
def PostX (W : WX) (Z H : Hp) (σ : L2.St) (c : Str) (ns : List Str) (xs : List D) : Prop := ∀ dc Z' H', Gr Z H Z' H' → ExD K cl Z' H' ns xs dc → W (.ref (cl c)) dc σ H'
def PostO (W : WX) (Z H : Hp) (σ : L2.St) (o : Ou D) (Q : VK) : Prop := match o with
  | .ok d => PostV K cl Z H d Q
  | .ex c ns xs => PostX K cl W Z H σ c ns xs
  | .bad => False
def PostOB (W : WX) (Z H : Hp) (σ : L2.St) (o : Ou D) (Q : VK) : Prop := match o with
  | .ok d => PostB K cl Z H d Q
  | .ex c ns xs => PostX K cl W Z H σ c ns xs
  | .bad => False
def PostT (W : WX) (Z H : Hp) (σ : L2.St) (o : Ou Bool) (Q : Bool → Hp → Prop) : Prop := match o with
  | .ok b => ∀ Z' H', Gr Z H Z' H' → Q b H'
  | .ex c ns xs => PostX K cl W Z H σ c ns xs
  | .bad => False
def PostA (W : WX) (Z H : Hp) (σ : L2.St) (o : Ou (List D)) (Q : List V → Hp → Prop) : Prop := match o with
  | .ok ds => ∀ vs Z' H' fp, Gr Z H Z' H' → Dens K cl Z' H' ds vs fp → fp.Nodup → (∀ a ∈ fp, H a = none) → Q vs H'
  | .ex c ns xs => PostX K cl W Z H σ c ns xs
  | .bad => False
def PostAB (W : WX) (Z H : Hp) (σ : L2.St) (o : Ou (List D)) (Q : List V → Hp → Prop) : Prop := match o with
  | .ok ds => ∀ vs Z' H' fp, Gr Z H Z' H' → Dens K cl Z' H' ds vs fp → Q vs H'
  | .ex c ns xs => PostX K cl W Z H σ c ns xs
  | .bad => False
def tD (W : WX) (f : Env → Ou D) : TE := fun σ H Q => ∃ Z ρ, RelS K cl Z H σ ρ ∧ PostO K cl W Z H σ (f ρ) Q
def tV (W : WX) (f : Env → Ou D) : TE := fun σ H Q => ∃ Z ρ, RelS K cl Z H σ ρ ∧ PostOB K cl W Z H σ (f ρ) Q
def tT (W : WX) (f : Env → Ou Bool) : TT := fun σ H Q => ∃ Z ρ, RelS K cl Z H σ ρ ∧ PostT K cl W Z H σ (f ρ) Q
def tDs (W : WX) (f : Env → Ou (List D)) : TA := fun σ H Q => ∃ Z ρ, RelS K cl Z H σ ρ ∧ PostA K cl W Z H σ (f ρ) Q
def tVs (W : WX) (f : Env → Ou (List D)) : TA := fun σ H Q => ∃ Z ρ, RelS K cl Z H σ ρ ∧ PostAB K cl W Z H σ (f ρ) Q
end
section
variable {K : PySem.W.Frag} {cl : Str → Addr} {Z H Z' H' : Hp} {σ : L2.St} {ρ : Env} {W : WX}
theorem RelS.gr (r : RelS K cl Z H σ ρ) (g : Gr Z H Z' H') : RelS K cl Z' H' σ ρ := by
  obtain ⟨s, t, fp, h, nd⟩ := r
  exact ⟨g.s, t.ex g.z, fp, Slots.mono g.z (fun a ha => by
    obtain ⟨z, xs, q⟩ := Slots.own h a ha
    exact ⟨g.n a (by rw [q]; exact Option.some_ne_none _) z, by rw [q]; exact g.h.l q⟩) h, nd⟩
theorem PostV.gr {d : D} {Q : VK} (q : PostV K cl Z H d Q) (g : Gr Z H Z' H') : PostV K cl Z' H' d Q := fun v Z2 H2 fp g2 h nd fr => q v Z2 H2 fp (g.trans g2) h nd fun a ha => g.h.back (fr a ha)
theorem PostB.gr {d : D} {Q : VK} (q : PostB K cl Z H d Q) (g : Gr Z H Z' H') : PostB K cl Z' H' d Q := fun v Z2 H2 fp g2 h => q v Z2 H2 fp (g.trans g2) h
theorem PostX.gr {c : Str} {ns : List Str} {xs : List D} (q : PostX K cl W Z H σ c ns xs) (g : Gr Z H Z' H') : PostX K cl W Z' H' σ c ns xs := fun dc Z2 H2 g2 h => q dc Z2 H2 (g.trans g2) h
theorem PostO.gr {o : Ou D} {Q : VK} (q : PostO K cl W Z H σ o Q) (g : Gr Z H Z' H') : PostO K cl W Z' H' σ o Q := by
  cases o with
  | ok d => exact PostV.gr q g
  | ex c ns xs => exact PostX.gr q g
  | bad => exact q
theorem PostOB.gr {o : Ou D} {Q : VK} (q : PostOB K cl W Z H σ o Q) (g : Gr Z H Z' H') : PostOB K cl W Z' H' σ o Q := by
  cases o with
  | ok d => exact PostB.gr q g
  | ex c ns xs => exact PostX.gr q g
  | bad => exact q
theorem PostT.gr {o : Ou Bool} {Q : Bool → Hp → Prop} (q : PostT K cl W Z H σ o Q) (g : Gr Z H Z' H') : PostT K cl W Z' H' σ o Q := by
  cases o with
  | ok d => exact fun Z2 H2 g2 => q Z2 H2 (g.trans g2)
  | ex c ns xs => exact PostX.gr q g
  | bad => exact q
theorem PostA.gr {o : Ou (List D)} {Q : List V → Hp → Prop} (q : PostA K cl W Z H σ o Q) (g : Gr Z H Z' H') : PostA K cl W Z' H' σ o Q := by
  cases o with
  | ok d => exact fun v Z2 H2 fp g2 h nd fr => q v Z2 H2 fp (g.trans g2) h nd fun a ha => g.h.back (fr a ha)
  | ex c ns xs => exact PostX.gr q g
  | bad => exact q
theorem PostAB.gr {o : Ou (List D)} {Q : List V → Hp → Prop} (q : PostAB K cl W Z H σ o Q) (g : Gr Z H Z' H') : PostAB K cl W Z' H' σ o Q := by
  cases o with
  | ok d => exact fun v Z2 H2 fp g2 h => q v Z2 H2 fp (g.trans g2) h
  | ex c ns xs => exact PostX.gr q g
  | bad => exact q
class PostLike (α : Type) where
  dummy : Unit := ()
theorem tV_bind {f : Env → Ou D} {β : Type} {k : D → Ou β} {R : VK} {P : Hp → Hp → Ou β → Prop} (r : RelS K cl Z H σ ρ) (px : ∀ c ns xs, P Z H (.ex c ns xs) → PostX K cl W Z H σ c ns xs) (pb : ¬ P Z H .bad)
    (q : P Z H (f ρ >>= k)) (h : ∀ d v Z' H' fp, f ρ = .ok d → Gr Z H Z' H' → Den K cl Z' H' d v fp → P Z H (k d) → R v H') : tV K cl W f σ H R := by
  refine ⟨Z, ρ, r, ?_⟩
  cases e : f ρ with
  | ok d =>
    rw [e] at q
    exact fun v Z' H' fp g dn => h d v Z' H' fp e g dn q
  | ex c ns xs =>
    rw [e] at q
    exact px c ns xs q
  | bad =>
    rw [e] at q
    exact pb q
theorem tD_bind {f : Env → Ou D} {β : Type} {k : D → Ou β} {R : VK} {P : Hp → Hp → Ou β → Prop} (r : RelS K cl Z H σ ρ) (px : ∀ c ns xs, P Z H (.ex c ns xs) → PostX K cl W Z H σ c ns xs) (pb : ¬ P Z H .bad)
    (q : P Z H (f ρ >>= k)) (h : ∀ d v Z' H' fp, f ρ = .ok d → Gr Z H Z' H' → Den K cl Z' H' d v fp → fp.Nodup → (∀ a ∈ fp, H a = none) → P Z H (k d) → R v H') : tD K cl W f σ H R := by
  refine ⟨Z, ρ, r, ?_⟩
  cases e : f ρ with
  | ok d =>
    rw [e] at q
    exact fun v Z' H' fp g dn nd fr => h d v Z' H' fp e g dn nd fr q
  | ex c ns xs =>
    rw [e] at q
    exact px c ns xs q
  | bad =>
    rw [e] at q
    exact pb q
theorem tVs_bind {f : Env → Ou (List D)} {β : Type} {k : List D → Ou β} {R : List V → Hp → Prop} {P : Hp → Hp → Ou β → Prop} (r : RelS K cl Z H σ ρ) (px : ∀ c ns xs, P Z H (.ex c ns xs) → PostX K cl W Z H σ c ns xs) (pb : ¬ P Z H .bad)
    (q : P Z H (f ρ >>= k)) (h : ∀ d v Z' H' fp, f ρ = .ok d → Gr Z H Z' H' → Dens K cl Z' H' d v fp → P Z H (k d) → R v H') : tVs K cl W f σ H R := by
  refine ⟨Z, ρ, r, ?_⟩
  cases e : f ρ with
  | ok d =>
    rw [e] at q
    exact fun v Z' H' fp g dn => h d v Z' H' fp e g dn q
  | ex c ns xs =>
    rw [e] at q
    exact px c ns xs q
  | bad =>
    rw [e] at q
    exact pb q
theorem tDs_bind {f : Env → Ou (List D)} {β : Type} {k : List D → Ou β} {R : List V → Hp → Prop} {P : Hp → Hp → Ou β → Prop} (r : RelS K cl Z H σ ρ) (px : ∀ c ns xs, P Z H (.ex c ns xs) → PostX K cl W Z H σ c ns xs) (pb : ¬ P Z H .bad)
    (q : P Z H (f ρ >>= k)) (h : ∀ d v Z' H' fp, f ρ = .ok d → Gr Z H Z' H' → Dens K cl Z' H' d v fp → fp.Nodup → (∀ a ∈ fp, H a = none) → P Z H (k d) → R v H') : tDs K cl W f σ H R := by
  refine ⟨Z, ρ, r, ?_⟩
  cases e : f ρ with
  | ok d =>
    rw [e] at q
    exact fun v Z' H' fp g dn nd fr => h d v Z' H' fp e g dn nd fr q
  | ex c ns xs =>
    rw [e] at q
    exact px c ns xs q
  | bad =>
    rw [e] at q
    exact pb q
theorem tT_bind {f : Env → Ou Bool} {β : Type} {k : Bool → Ou β} {R : Bool → Hp → Prop} {P : Hp → Hp → Ou β → Prop} (r : RelS K cl Z H σ ρ) (px : ∀ c ns xs, P Z H (.ex c ns xs) → PostX K cl W Z H σ c ns xs) (pb : ¬ P Z H .bad)
    (q : P Z H (f ρ >>= k)) (h : ∀ b Z' H', f ρ = .ok b → Gr Z H Z' H' → P Z H (k b) → R b H') : tT K cl W f σ H R := by
  refine ⟨Z, ρ, r, ?_⟩
  cases e : f ρ with
  | ok d =>
    rw [e] at q
    exact fun Z' H' g => h d Z' H' e g q
  | ex c ns xs =>
    rw [e] at q
    exact px c ns xs q
  | bad =>
    rw [e] at q
    exact pb q
end
end DL
namespace DL
open PySem PySem.Spec PyProof.Rows L2
variable [Tb]
structure DE (X : Cx) (W : WX) (e : Expr) (f : Env → Ou D) : Prop where
  run : PE X e (tD X.K (He.ga X.K) W f)
structure DB (X : Cx) (W : WX) (e : Expr) (f : Env → Ou D) : Prop where
  run : PE X e (tV X.K (He.ga X.K) W f)
structure DT (X : Cx) (W : WX) (e : Expr) (f : Env → Ou Bool) : Prop where
  run : PT X e (tT X.K (He.ga X.K) W f)
structure DW (X : Cx) (W : WX) (e : Expr) (f : Env → Ou Bool) : Prop where
  run : PW X e (tT X.K (He.ga X.K) W f)
structure DA (X : Cx) (W : WX) (es : List Expr) (f : Env → Ou (List D)) : Prop where
  run : PA X es (tDs X.K (He.ga X.K) W f)
structure DAB (X : Cx) (W : WX) (es : List Expr) (f : Env → Ou (List D)) : Prop where
  run : PA X es (tVs X.K (He.ga X.K) W f)
  len : ∀ ρ ds, f ρ = .ok ds → ds.length = es.length
theorem PE.weak {X : Cx} {e : Expr} {t t' : TE} (h : PE X e t) (k : ∀ σ H Q, t' σ H Q → t σ H Q) : PE X e t' := ⟨fun pins s σ H Q I q => h.run pins s σ H Q I (k σ H Q q)⟩
theorem PT.weak {X : Cx} {e : Expr} {t t' : TT} (h : PT X e t) (k : ∀ σ H Q, t' σ H Q → t σ H Q) : PT X e t' := ⟨fun pins s σ H Q I q => h.run pins s σ H Q I (k σ H Q q)⟩
theorem PW.weak {X : Cx} {e : Expr} {t t' : TT} (h : PW X e t) (k : ∀ σ H Q, t' σ H Q → t σ H Q) : PW X e t' := ⟨fun wh pins s σ H Q I q => h.run wh pins s σ H Q I (k σ H Q q)⟩
theorem PA.weak {X : Cx} {es : List Expr} {t t' : TA} (h : PA X es t) (k : ∀ σ H Q, t' σ H Q → t σ H Q) : PA X es t' := ⟨fun pos pins s σ H Q I q => h.run pos pins s σ H Q I (k σ H Q q)⟩
def ofO {α : Type} : Option α → Ou α
  | some a => .ok a
  | none => .bad
@[simp] theorem ofO_some {α : Type} (a : α) : ofO (some a) = .ok a := (rfl)
@[simp] theorem ofO_none {α : Type} : ofO (none : Option α) = .bad := (rfl)
section
variable (K : PySem.W.Frag) (cl : Str → Addr)
def Op2 (r : R2) (op : D → D → Option D) : Prop := ∀ (Z H : Hp) (x y d : D) (v u : V) (fx fy : Fp) (Q : VK), Ex Z H → Den K cl Z H x v fx → Den K cl Z H y u fy → op x y = some d → PostV K cl Z H d Q → r v u H Q
def Op2V (r : R2) (op : D → D → Option D) : Prop := ∀ (Z H : Hp) (x y d : D) (v u : V) (fx fy : Fp) (Q : VK), Ex Z H → Den K cl Z H x v fx → Den K cl Z H y u fy → op x y = some d → PostB K cl Z H d Q → r v u H Q
def Op2B (r : R2) (op : D → D → Option Bool) : Prop := ∀ (Z H : Hp) (x y : D) (b : Bool) (v u : V) (fx fy : Fp) (Q : VK), Ex Z H → Den K cl Z H x v fx → Den K cl Z H y u fy → op x y = some b → Q (.bl b) H → r v u H Q
def Op1 (r : V → Hp → VK → Prop) (op : D → Option D) : Prop := ∀ (Z H : Hp) (x d : D) (v : V) (fx : Fp) (Q : VK), Ex Z H → Den K cl Z H x v fx → op x = some d → PostV K cl Z H d Q → r v H Q
def OpN (r : List V → Hp → VK → Prop) (op : List D → Option D) : Prop := ∀ (Z H : Hp) (xs : List D) (d : D) (vs : List V) (fp : Fp) (Q : VK), Ex Z H → Dens K cl Z H xs vs fp → op xs = some d → PostV K cl Z H d Q → r vs H Q
end
section
variable {K : PySem.W.Frag} {cl : Str → Addr} {Z H Z' H' : Hp}
theorem PostV.val {d : D} {v : V} {Q : VK} (s : Ex Z H) (h : Den K cl Z H d v []) (q : PostV K cl Z H d Q) : Q v H := q v Z H [] (Gr.refl s) h List.nodup_nil fun _ z => nomatch z
theorem PostV.int {i : Int} {Q : VK} (s : Ex Z H) (q : PostV K cl Z H (.int i) Q) : Q (.int i) H := PostV.val (d := .int i) s ⟨rfl, rfl⟩ q
theorem PostV.bl {b : Bool} {Q : VK} (s : Ex Z H) (q : PostV K cl Z H (.bl b) Q) : Q (.bl b) H := PostV.val (d := .bl b) s ⟨rfl, rfl⟩ q
theorem PostV.str {x : Str} {Q : VK} (s : Ex Z H) (q : PostV K cl Z H (.str x) Q) : Q (.str x) H := PostV.val (d := .str x) s ⟨rfl, rfl⟩ q
theorem PostV.non {Q : VK} (s : Ex Z H) (q : PostV K cl Z H .non Q) : Q .non H := PostV.val (d := .non) s ⟨rfl, rfl⟩ q
theorem PostV.toB {d : D} {Q : VK} (q : PostB K cl Z H d Q) : PostV K cl Z H d Q := fun v Z' H' fp g h _ _ => q v Z' H' fp g h
theorem PostOB.toO {W : WX} {σ : L2.St} {o : Ou D} {Q : VK} (q : PostOB K cl W Z H σ o Q) : PostO K cl W Z H σ o Q := by
  cases o with
  | ok d => exact PostV.toB q
  | ex c ns xs => exact q
  | bad => exact q
theorem PostV.tup {ds : List D} {vs : List V} {fp : Fp} {Q : VK} {Z0 H0 : Hp} (q : PostV K cl Z0 H0 (.tup ds) Q) (g : Gr Z0 H0 Z H) (h : Dens K cl Z H ds vs fp) (nd : fp.Nodup) (fr : ∀ a ∈ fp, H0 a = none) (p : Addr) (hp : H p = none) :
    Q (.ref p) (upd H p (.tup vs)) := by
  have g1 : Gr Z H (upd Z p (.tup vs)) (upd H p (.tup vs)) := Gr.new g.s hp
  refine q (.ref p) _ _ fp (g.trans g1) ?_ nd fr
  simp only [Den]
  exact ⟨p, vs, rfl, .inl (.inl upd_same), g1.dens h⟩
theorem PostV.lst {ds : List D} {vs : List V} {fp : Fp} {Q : VK} {Z0 H0 : Hp} (q : PostV K cl Z0 H0 (.lst true ds) Q) (g : Gr Z0 H0 Z H) (h : Dens K cl Z H ds vs fp) (nd : fp.Nodup) (fr : ∀ a ∈ fp, H0 a = none) (p : Addr) (hp : H p = none) :
    Q (.ref p) (upd H p (.lst vs)) := by
  have g1 : Gr Z H Z (upd H p (.lst vs)) := Gr.newO g.s hp
  have np : p ∉ fp := fun hm => by
    obtain ⟨_, xs, e⟩ := Dens.own ds vs fp h p hm
    rw [hp] at e; cases e
  refine q (.ref p) Z _ (p :: fp) (g.trans g1) ?_ (List.nodup_cons.mpr ⟨np, nd⟩) fun a ha => ?_
  · simp only [Den]
    exact ⟨p, vs, fp, rfl, rfl, g.s.back hp, upd_same, g1.dens h⟩
  · rcases List.mem_cons.mp ha with e | e
    · subst e; exact g.h.back hp
    · exact fr a e
theorem PostV.tup0 {ds : List D} {vs : List V} {Q : VK} (q : PostV K cl Z H (.tup ds) Q) (s : Ex Z H) (h : Dens K cl Z H ds vs []) (p : Addr) (hp : H p = none) : Q (.ref p) (upd H p (.tup vs)) :=
  q.tup (Gr.refl s) h List.nodup_nil (fun _ z => nomatch z) p hp
theorem PostV.lst0 {ds : List D} {vs : List V} {Q : VK} (q : PostV K cl Z H (.lst true ds) Q) (s : Ex Z H) (h : Dens K cl Z H ds vs []) (p : Addr) (hp : H p = none) : Q (.ref p) (upd H p (.lst vs)) :=
  q.lst (Gr.refl s) h List.nodup_nil (fun _ z => nomatch z) p hp
theorem Den.lstH {o : Bool} {ds : List D} {v : V} {fp : Fp} (s : Ex Z H) (h : Den K cl Z H (.lst o ds) v fp) : ∃ a vs f, v = .ref a ∧ H a = some (.lst vs) ∧ Dens K cl Z H ds vs f ∧ (∀ b ∈ f, b ∈ fp) ∧ f.Sublist fp := by
  cases o with
  | true =>
    simp only [Den] at h
    obtain ⟨a, vs, fq, e1, e2, z, q, r⟩ := h
    subst e2
    exact ⟨a, vs, fq, e1, q, r, fun b hb => List.mem_cons_of_mem _ hb, List.sublist_cons_self _ _⟩
  | false =>
    simp only [Den] at h
    obtain ⟨a, vs, e1, e2, q, r⟩ := h
    exact ⟨a, vs, [], e1, s.l q, r, (fun _ z => nomatch z), List.nil_sublist _⟩
theorem Den.tupH {ds : List D} {v : V} {fp : Fp} (s : Ex Z H) (h : Den K cl Z H (.tup ds) v fp) : ∃ a vs, v = .ref a ∧ SqT K H a vs ∧ SqT K Z a vs ∧ Dens K cl Z H ds vs fp := by
  simp only [Den] at h
  obtain ⟨a, vs, e1, q, r⟩ := h
  exact ⟨a, vs, e1, s.sqT q, q, r⟩
theorem Den.int {i : Int} {v : V} {fp : Fp} (h : Den K cl Z H (.int i) v fp) : v = .int i := h.1
end
def dC (d : D) : Env → Ou D := fun _ => .ok d
def dVar (i : Nat) : Env → Ou D := fun ρ => match ρ[i]? with
  | some (some d) => .ok d
  | _ => .bad
def dFz (f : Env → Ou D) : Env → Ou D := fun ρ => f ρ >>= fun d => if d.fz then .ok d else .bad
def d1 (op : D → Option D) (f : Env → Ou D) : Env → Ou D := fun ρ => f ρ >>= fun x => ofO (op x)
def d2 (op : D → D → Option D) (f g : Env → Ou D) : Env → Ou D := fun ρ => f ρ >>= fun x => g ρ >>= fun y => ofO (op x y)
def b2 (op : D → D → Option Bool) (f g : Env → Ou D) : Env → Ou Bool := fun ρ => f ρ >>= fun x => g ρ >>= fun y => ofO (op x y)
def dN (op : List D → Option D) (f : Env → Ou (List D)) : Env → Ou D := fun ρ => f ρ >>= fun xs => ofO (op xs)
def dBl (f : Env → Ou Bool) : Env → Ou D := fun ρ => f ρ >>= fun b => .ok (.bl b)
def aNil : Env → Ou (List D) := fun _ => .ok []
def aCons (f : Env → Ou D) (g : Env → Ou (List D)) : Env → Ou (List D) := fun ρ => f ρ >>= fun x => g ρ >>= fun xs => .ok (x :: xs)
def LIM : Nat := 1000000
theorem lim_le {n : Nat} (h : n ≤ LIM) : n ≤ sizeLine := Nat.le_trans h (by decide)
theorem lim_lt {n : Nat} (h : n < LIM) : n < sizeLine := Nat.lt_of_lt_of_le h (by decide)
def dTup (f : Env → Ou (List D)) : Env → Ou D := fun ρ => f ρ >>= fun xs => if xs.length ≤ LIM then .ok (.tup xs) else .bad
def dLst (f : Env → Ou (List D)) : Env → Ou D := fun ρ => f ρ >>= fun xs => if xs.length ≤ LIM then .ok (.lst true xs) else .bad
section
variable {X : Cx} {W : WX} {a b e : Expr} {f g : Env → Ou D} {pos : Pos}
theorem DB.ofE (h : DE X W e f) : DB X W e f := ⟨PE.weak h.run fun σ H Q ⟨Z, ρ, r, q⟩ => ⟨Z, ρ, r, q.toO⟩⟩
theorem DE.ofB (h : DB X W e f) : DE X W e (dFz f) := by
  refine ⟨PE.weak h.run fun σ H Q hq => ?_⟩
  obtain ⟨Z, ρ, r, q⟩ := hq
  refine tV_bind (P := fun Z H o => PostO X.K (He.ga X.K) W Z H σ o Q) r (fun _ _ _ z => z) (fun z => z) q fun d v Z' H' fp ed gr dn q => ?_
  by_cases c : d.fz = true
  · rw [if_pos c] at q
    have e := Den.fz d v fp c dn
    subst e
    exact q v Z' H' [] gr dn List.nodup_nil fun _ z => nomatch z
  · rw [if_neg c] at q
    exact q.elim
theorem DE.int {i j p} : DE X W (.Constant (.int i) j p) (dC (.int i)) := ⟨PE.weak pe_int fun σ H Q ⟨Z, ρ, r, q⟩ => PostV.int r.s q⟩
theorem DE.bl {b j p} : DE X W (.Constant (.bool b) j p) (dC (.bl b)) := ⟨PE.weak pe_bl fun σ H Q ⟨Z, ρ, r, q⟩ => PostV.bl r.s q⟩
theorem DE.non {j p} : DE X W (.Constant .none j p) (dC .non) := ⟨PE.weak pe_non fun σ H Q ⟨Z, ρ, r, q⟩ => PostV.non r.s q⟩
theorem DE.str {x j p} : DE X W (.Constant (.str x) j p) (dC (.str x)) := ⟨PE.weak pe_str fun σ H Q ⟨Z, ρ, r, q⟩ => PostV.str r.s q⟩
theorem DB.var (i : Nat) {x : Str} {p : Pos} (hN : X.N[i]? = some x := by rfl) (hv : Vis X.env.scope x := by first | exact Or.inl rfl | exact Or.inr (Or.inl rfl) | exact Or.inr (Or.inr rfl)) (hd : (x == ("__debug__" : Str)) = false := by decide)
    (hcd : (x == ("__classdict__" : Str)) = false := by decide) : DB X W (.Name x p) (dVar i) := by
  refine ⟨PE.weak (pv i hN hv hd hcd) fun σ H Q hq => ?_⟩
  obtain ⟨Z, ρ, ⟨s, tk, fp, sl, nd⟩, q⟩ := hq
  unfold dVar at q
  match e : ρ[i]? with
  | some (some d) =>
    rw [e] at q
    obtain ⟨v, f, h1, h2, h3⟩ := Slots.get sl e
    exact ⟨v, h1, q v Z H f (Gr.refl s) h2⟩
  | some none => rw [e] at q; exact q.elim
  | none => rw [e] at q; exact q.elim
theorem DE.op2 {op : Operator} {r : R2} {k : D → D → Option D} (ho : OpR X (binaryOp op) r) (hk : Op2 X.K (He.ga X.K) r k) (ha : DB X W a f) (hb : DB X W b g) : DE X W (.BinOp a op b pos) (d2 k f g) := by
  refine ⟨PE.weak (pe_op ho ha.run hb.run) fun σ H Q hq => ?_⟩
  obtain ⟨Z, ρ, r, q⟩ := hq
  refine tV_bind (P := fun Z H o => PostO X.K (He.ga X.K) W Z H σ o Q) r (fun _ _ _ z => z) (fun z => z) q fun x v Z1 H1 fx ex g1 dx q => ?_
  refine tV_bind (P := fun Z H o => PostO X.K (He.ga X.K) W Z H σ o Q) (r.gr g1) (fun _ _ _ z => z) (fun z => z) (q.gr g1) fun y u Z2 H2 fy ey g2 dy q => ?_
  have q := PostO.gr q g2
  match e : k x y with
  | some d =>
    rw [e] at q
    exact hk Z2 H2 x y d v u fx fy Q g2.s (g2.den dx) dy e q
  | none => rw [e] at q; exact q.elim
theorem DE.op1 {op : UnaryOp} {r : V → Hp → VK → Prop} {k : D → Option D} (ho : UnR X (unaryOp op) r) (hk : Op1 X.K (He.ga X.K) r k) (ha : DB X W a f) : DE X W (.UnaryOp op a pos) (d1 k f) := by
  refine ⟨PE.weak (pe_un ho ha.run) fun σ H Q hq => ?_⟩
  obtain ⟨Z, ρ, r, q⟩ := hq
  refine tV_bind (P := fun Z H o => PostO X.K (He.ga X.K) W Z H σ o Q) r (fun _ _ _ z => z) (fun z => z) q fun x v Z1 H1 fx ex g1 dx q => ?_
  have q := PostO.gr q g1
  match e : k x with
  | some d =>
    rw [e] at q
    exact hk Z1 H1 x d v fx Q g1.s dx e q
  | none => rw [e] at q; exact q.elim
theorem DE.cmp {op : CmpOp} {r : R2} {k : D → D → Option Bool} (ho : OpR X (compareOp op) r) (hk : Op2B X.K (He.ga X.K) r k) (ha : DB X W a f) (hb : DB X W b g) (hm : behindInMarks op b = false) : DE X W (.Compare a [op] [b] pos) (dBl (b2 k f g)) := by
  refine ⟨PE.weak (pe_cmpR ho ha.run hb.run hm) fun σ H Q hq => ?_⟩
  obtain ⟨Z, ρ, r, q⟩ := hq
  have e0 : dBl (b2 k f g) ρ = (f ρ >>= fun x => g ρ >>= fun y => ofO (k x y) >>= fun b => .ok (.bl b)) := by
    unfold dBl b2
    cases f ρ with
    | ok x => cases g ρ <;> rfl
    | ex => rfl
    | bad => rfl
  rw [e0] at q
  refine tV_bind (P := fun Z H o => PostO X.K (He.ga X.K) W Z H σ o Q) r (fun _ _ _ z => z) (fun z => z) q fun x v Z1 H1 fx ex g1 dx q => ?_
  refine tV_bind (P := fun Z H o => PostO X.K (He.ga X.K) W Z H σ o Q) (r.gr g1) (fun _ _ _ z => z) (fun z => z) (q.gr g1) fun y u Z2 H2 fy ey g2 dy q => ?_
  have q := PostO.gr q g2
  match e : k x y with
  | some b =>
    rw [e] at q
    exact hk Z2 H2 x y b v u fx fy Q g2.s (g2.den dx) dy e (PostV.bl g2.s q)
  | none => rw [e] at q; exact q.elim
theorem DT.cmp {op : CmpOp} {r : R2} {k : D → D → Option Bool} (ho : OpR X (compareOp op) r) (hk : Op2B X.K (He.ga X.K) r k) (ha : DB X W a f) (hb : DB X W b g) (hm : behindInMarks op b = false) : DT X W (.Compare a [op] [b] pos) (b2 k f g) := by
  refine ⟨PT.weak (pt_cmpR ho ha.run hb.run hm) fun σ H Q hq => ?_⟩
  obtain ⟨Z, ρ, r, q⟩ := hq
  refine tV_bind (P := fun Z H o => PostT X.K (He.ga X.K) W Z H σ o Q) r (fun _ _ _ z => z) (fun z => z) q fun x v Z1 H1 fx ex g1 dx q => ?_
  refine tV_bind (P := fun Z H o => PostT X.K (He.ga X.K) W Z H σ o Q) (r.gr g1) (fun _ _ _ z => z) (fun z => z) (q.gr g1) fun y u Z2 H2 fy ey g2 dy q => ?_
  have q := PostT.gr q g2
  match e : k x y with
  | some b =>
    rw [e] at q
    exact hk Z2 H2 x y b v u fx fy _ g2.s (g2.den dx) dy e ⟨b, rfl, q Z2 H2 (Gr.refl g2.s)⟩
  | none => rw [e] at q; exact q.elim
variable {es : List Expr} {t : Env → Ou (List D)}
theorem DA.nil : DA X W [] aNil := ⟨PA.weak pa_nil fun σ H Q ⟨Z, ρ, r, q⟩ => q [] Z H [] (Gr.refl r.s) ⟨rfl, rfl⟩ List.nodup_nil fun _ z => nomatch z⟩
theorem DAB.nil : DAB X W [] aNil := ⟨PA.weak pa_nil fun σ H Q ⟨Z, ρ, r, q⟩ => q [] Z H [] (Gr.refl r.s) ⟨rfl, rfl⟩, fun ρ ds e => by cases e; rfl⟩
theorem DA.cons (h : DE X W e f) (hr : DA X W es t) (hs : starEach (e :: es) X.env = (false, eval e X.env) :: starEach es X.env := by rfl) : DA X W (e :: es) (aCons f t) := by
  refine ⟨PA.weak (pa_cons h.run hr.run hs) fun σ H Q hq => ?_⟩
  obtain ⟨Z, ρ, r, q⟩ := hq
  refine tD_bind (P := fun Z H o => PostA X.K (He.ga X.K) W Z H σ o Q) r (fun _ _ _ z => z) (fun z => z) q fun x v Z1 H1 fx ex g1 dx nx fx' q => ?_
  refine ⟨Z1, ρ, r.gr g1, ?_⟩
  match e : t ρ with
  | .ok ds =>
    rw [e] at q
    refine fun vs Z2 H2 fp g2 dn nd fr => q (v :: vs) Z2 H2 (fx ++ fp) (g1.trans g2) (Dens.cons (g2.den dx) dn) ?_ fun a ha => ?_
    · rw [List.nodup_append]
      refine ⟨nx, nd, fun a ha b hb e => ?_⟩
      subst e
      obtain ⟨_, xs, q1⟩ := Den.own x v fx dx a ha
      rw [fr a hb] at q1; cases q1
    · rcases List.mem_append.mp ha with z | z
      · exact fx' a z
      · exact g1.h.back (fr a z)
  | .ex c ns xs =>
    rw [e] at q
    exact PostX.gr q g1
  | .bad =>
    rw [e] at q
    exact q.elim
theorem DAB.cons (h : DB X W e f) (hr : DAB X W es t) (hs : starEach (e :: es) X.env = (false, eval e X.env) :: starEach es X.env := by rfl) : DAB X W (e :: es) (aCons f t) := by
  refine ⟨PA.weak (pa_cons h.run hr.run hs) fun σ H Q hq => ?_, fun ρ ds e => ?_⟩
  rotate_left
  · unfold aCons at e
    cases e1 : f ρ with
    | ok x =>
      rw [e1] at e
      cases e2 : t ρ with
      | ok xs =>
        have e : (t ρ >>= fun xs => Ou.ok (x :: xs)) = .ok ds := e
        rw [e2] at e
        cases e
        exact congrArg (· + 1) (hr.len ρ xs e2)
      | ex c ns xs =>
        have e : (t ρ >>= fun xs => Ou.ok (x :: xs)) = .ok ds := e
        rw [e2] at e
        cases e
      | bad =>
        have e : (t ρ >>= fun xs => Ou.ok (x :: xs)) = .ok ds := e
        rw [e2] at e
        cases e
    | ex c ns xs => rw [e1] at e; cases e
    | bad => rw [e1] at e; cases e
  obtain ⟨Z, ρ, r, q⟩ := hq
  refine tV_bind (P := fun Z H o => PostAB X.K (He.ga X.K) W Z H σ o Q) r (fun _ _ _ z => z) (fun z => z) q fun x v Z1 H1 fx ex g1 dx q => ?_
  refine ⟨Z1, ρ, r.gr g1, ?_⟩
  match e : t ρ with
  | .ok ds =>
    rw [e] at q
    exact fun vs Z2 H2 fp g2 dn => q (v :: vs) Z2 H2 (fx ++ fp) (g1.trans g2) (Dens.cons (g2.den dx) dn)
  | .ex c ns xs =>
    rw [e] at q
    exact PostX.gr q g1
  | .bad =>
    rw [e] at q
    exact q.elim
theorem DE.tup {x1} (h : DA X W es t) : DE X W (.Tuple es x1 pos) (dTup t) := by
  refine ⟨PE.weak (pe_tup h.run) fun σ H Q hq => ?_⟩
  obtain ⟨Z, ρ, r, q⟩ := hq
  refine tDs_bind (P := fun Z H o => PostO X.K (He.ga X.K) W Z H σ o Q) r (fun _ _ _ z => z) (fun z => z) q fun ds vs Z1 H1 fp ex g1 dn nd fr q => ?_
  by_cases c : ds.length ≤ LIM
  · rw [if_pos c] at q
    exact ⟨by rw [dn.length]; exact lim_le c, fun p hp => PostV.tup q g1 dn nd fr p hp⟩
  · rw [if_neg c] at q; exact q.elim
theorem DE.lst (h : DA X W es t) : DE X W (.List es pos) (dLst t) := by
  refine ⟨PE.weak (pe_lst h.run) fun σ H Q hq => ?_⟩
  obtain ⟨Z, ρ, r, q⟩ := hq
  refine tDs_bind (P := fun Z H o => PostO X.K (He.ga X.K) W Z H σ o Q) r (fun _ _ _ z => z) (fun z => z) q fun ds vs Z1 H1 fp ex g1 dn nd fr q => ?_
  by_cases c : ds.length ≤ LIM
  · rw [if_pos c] at q
    exact ⟨by rw [dn.length]; exact lim_le c, fun p hp => PostV.lst q g1 dn nd fr p hp⟩
  · rw [if_neg c] at q; exact q.elim
end
def tru : D → Option Bool
  | .non => some false
  | .bl b => some b
  | .int i => some (i != 0)
  | .str x => if x.length ≤ LIM then some ((x.length : Int) != 0) else none
  | .tup xs => some (!xs.isEmpty)
  | .lst _ xs => some (!xs.isEmpty)
  | _ => none
def bTru (f : Env → Ou D) : Env → Ou Bool := fun ρ => f ρ >>= fun d => ofO (tru d)
def bNot (f : Env → Ou Bool) : Env → Ou Bool := fun ρ => f ρ >>= fun b => .ok (!b)
def bAnd (f g : Env → Ou Bool) : Env → Ou Bool := fun ρ => f ρ >>= fun b => if b then g ρ else .ok false
def bOr (f g : Env → Ou Bool) : Env → Ou Bool := fun ρ => f ρ >>= fun b => if b then .ok true else g ρ
def dAnd (f g : Env → Ou D) : Env → Ou D := fun ρ => f ρ >>= fun d => ofO (tru d) >>= fun b => if b then g ρ else .ok d
def dOr (f g : Env → Ou D) : Env → Ou D := fun ρ => f ρ >>= fun d => ofO (tru d) >>= fun b => if b then .ok d else g ρ
def dNot (f : Env → Ou D) : Env → Ou D := fun ρ => f ρ >>= fun d => ofO (tru d) >>= fun b => .ok (.bl (!b))
def dIf (c : Env → Ou Bool) (f g : Env → Ou D) : Env → Ou D := fun ρ => c ρ >>= fun b => if b then f ρ else g ρ
theorem tru_ok' {K : PySem.W.Frag} {cl : Str → Addr} {Z H : Hp} (s : Ex Z H) : ∀ {d : D} {v : V} {fp : Fp} {b : Bool}, Den K cl Z H d v fp → tru d = some b → TruV K v H b
  | .non, v, fp, b, h, e => by
    rw [h.1]; exact (Option.some.inj e).symm
  | .bl c, v, fp, b, h, e => by
    rw [h.1]; exact (Option.some.inj e).symm
  | .int i, v, fp, b, h, e => by
    rw [h.1]; exact (Option.some.inj e).symm
  | .str x, v, fp, b, h, e => by
    rw [h.1]
    have e : (if x.length ≤ LIM then some ((x.length : Int) != 0) else none) = some b := e
    by_cases c : x.length ≤ LIM
    · rw [if_pos c] at e
      exact ⟨lim_le c, (Option.some.inj e).symm⟩
    · rw [if_neg c] at e; cases e
  | .tup xs, v, fp, b, h, e => by
    obtain ⟨a, vs, e1, q, _, r⟩ := h.tupH s
    subst e1
    have e' : (!xs.isEmpty) = b := Option.some.inj e
    refine .inr (.inl ⟨vs, q, ?_⟩)
    rw [← e']
    have l := r.length
    cases vs <;> cases xs <;> simp_all
  | .lst o xs, v, fp, b, h, e => by
    obtain ⟨a, vs, f, e1, q, r, _⟩ := h.lstH s
    subst e1
    have e' : (!xs.isEmpty) = b := Option.some.inj e
    refine .inl ⟨vs, .inl (.inl q), ?_⟩
    rw [← e']
    have l := r.length
    cases vs <;> cases xs <;> simp_all
  | .ins _ _ _, _, _, _, _, e => nomatch e
  | .scr _, _, _, _, _, e => nomatch e
  | .adr _, _, _, _, _, e => nomatch e
  | .cls _, _, _, _, _, e => nomatch e
  | .pin _, _, _, _, _, e => nomatch e
  | .err _ _ _, _, _, _, _, e => nomatch e
  | .own _ _ _ _, _, _, _, _, e => nomatch e
  | .lsa _ _, _, _, _, _, e => nomatch e
  | .dct _ _ _, _, _, _, _, e => nomatch e
  | .lok _ _, _, _, _, _, e => nomatch e
  | .wth _ _, _, _, _, _, e => nomatch e
section
variable {X : Cx} {W : WX} {a b c e : Expr} {f g : Env → Ou D} {p q : Env → Ou Bool} {pos : Pos} {rest : List Expr}
theorem DT.tru (h : DB X W e f) (he : ∀ whole, isTrue e X.env whole = (do let v ← whole; standAt e.pos; holding [v] (truthy v)) := by intro _; rfl) : DT X W e (bTru f) := by
  refine ⟨PT.weak (pt_truth h.run he) fun σ H Q hq => ?_⟩
  obtain ⟨Z, ρ, r, q⟩ := hq
  refine tV_bind (P := fun Z H o => PostT X.K (He.ga X.K) W Z H σ o Q) r (fun _ _ _ z => z) (fun z => z) q fun x v Z1 H1 fx ex g1 dx q => ?_
  match e : DL.tru x with
  | some b =>
    rw [e] at q
    exact ⟨b, tru_ok' g1.s dx e, q Z1 H1 g1⟩
  | none => rw [e] at q; exact q.elim
theorem DT.not (h : DT X W a p) : DT X W (.UnaryOp .Not a pos) (bNot p) := by
  refine ⟨PT.weak (pt_not h.run) fun σ H Q hq => ?_⟩
  obtain ⟨Z, ρ, r, q⟩ := hq
  exact tT_bind (P := fun Z H o => PostT X.K (He.ga X.K) W Z H σ o Q) r (fun _ _ _ z => z) (fun z => z) q fun b Z1 H1 eb g1 q => q Z1 H1 g1
theorem DT.ofW (h : DW X W e p) : DT X W e p := ⟨h.run.pt⟩
theorem DW.or1 (h : DT X W a p) : DW X W (.BoolOp .Or [a] pos) p := ⟨pw_or1 h.run⟩
theorem DW.and (h : DT X W a p) (k : DW X W (.BoolOp .And (b :: rest) pos) q) : DW X W (.BoolOp .And (a :: b :: rest) pos) (bAnd p q) := by
  refine ⟨PW.weak (pw_and h.run k.run) fun σ H Q hq => ?_⟩
  obtain ⟨Z, ρ, r, h⟩ := hq
  refine tT_bind (P := fun Z H o => PostT X.K (He.ga X.K) W Z H σ o Q) r (fun _ _ _ z => z) (fun z => z) h fun b Z1 H1 eb g1 h => ?_
  cases b with
  | true => exact ⟨Z1, ρ, r.gr g1, PostT.gr h g1⟩
  | false => exact h Z1 H1 g1
theorem DW.or (h : DT X W a p) (k : DW X W (.BoolOp .Or (b :: rest) pos) q) : DW X W (.BoolOp .Or (a :: b :: rest) pos) (bOr p q) := by
  refine ⟨PW.weak (pw_or h.run k.run) fun σ H Q hq => ?_⟩
  obtain ⟨Z, ρ, r, h⟩ := hq
  refine tT_bind (P := fun Z H o => PostT X.K (He.ga X.K) W Z H σ o Q) r (fun _ _ _ z => z) (fun z => z) h fun b Z1 H1 eb g1 h => ?_
  cases b with
  | true => exact h Z1 H1 g1
  | false => exact ⟨Z1, ρ, r.gr g1, PostT.gr h g1⟩
theorem DE.one {op} (h : DE X W a f) : DE X W (.BoolOp op [a] pos) f := ⟨pe_one h.run⟩
theorem DE.and (h : DE X W a f) (k : DE X W (.BoolOp .And (b :: rest) pos) g) : DE X W (.BoolOp .And (a :: b :: rest) pos) (dAnd f g) := by
  refine ⟨PE.weak (pe_andT h.run k.run) fun σ H Q hq => ?_⟩
  obtain ⟨Z, ρ, r, h⟩ := hq
  refine tD_bind (P := fun Z H o => PostO X.K (He.ga X.K) W Z H σ o Q) r (fun _ _ _ z => z) (fun z => z) h fun d v Z1 H1 fp eb g1 dn nd fr h => ?_
  match e : DL.tru d with
  | some b =>
    rw [e] at h
    refine ⟨b, tru_ok' g1.s dn e, ?_⟩
    cases b with
    | true => exact ⟨Z1, ρ, r.gr g1, PostO.gr h g1⟩
    | false => exact h v Z1 H1 fp g1 dn nd fr
  | none => rw [e] at h; exact h.elim
theorem DE.or (h : DE X W a f) (k : DE X W (.BoolOp .Or (b :: rest) pos) g) : DE X W (.BoolOp .Or (a :: b :: rest) pos) (dOr f g) := by
  refine ⟨PE.weak (pe_orT h.run k.run) fun σ H Q hq => ?_⟩
  obtain ⟨Z, ρ, r, h⟩ := hq
  refine tD_bind (P := fun Z H o => PostO X.K (He.ga X.K) W Z H σ o Q) r (fun _ _ _ z => z) (fun z => z) h fun d v Z1 H1 fp eb g1 dn nd fr h => ?_
  match e : DL.tru d with
  | some b =>
    rw [e] at h
    refine ⟨b, tru_ok' g1.s dn e, ?_⟩
    cases b with
    | true => exact h v Z1 H1 fp g1 dn nd fr
    | false => exact ⟨Z1, ρ, r.gr g1, PostO.gr h g1⟩
  | none => rw [e] at h; exact h.elim
theorem DE.not (h : DB X W a f) : DE X W (.UnaryOp .Not a pos) (dNot f) := by
  refine ⟨PE.weak (pe_notT h.run) fun σ H Q hq => ?_⟩
  obtain ⟨Z, ρ, r, h⟩ := hq
  refine tV_bind (P := fun Z H o => PostO X.K (He.ga X.K) W Z H σ o Q) r (fun _ _ _ z => z) (fun z => z) h fun d v Z1 H1 fp eb g1 dn h => ?_
  match e : DL.tru d with
  | some b =>
    rw [e] at h
    exact ⟨b, tru_ok' g1.s dn e, PostV.bl g1.s (PostO.gr h g1)⟩
  | none => rw [e] at h; exact h.elim
end
end DL
namespace DL
open PySem PySem.Spec PyProof.Rows L2
variable [Tb]
def rAddA (K : PySem.W.Frag) : R2 := fun x y H Q => (((rI0 fun i j => .int (i + j)) x y H Q ∨ (fun x y H Q => ∃ i j, x = .str i ∧ y = .str j ∧ i.length + j.length ≤ sizeLine ∧ Q (.str (i ++ j)) H) x y H Q) ∨ rCat x y H Q) ∨ rCatA K x y H Q
theorem op_addA {X : Cx} : OpR X (binaryOp .Add) (rAddA X.K) := ((op_add.or op_add_str).or op_cat).or op_catA
def addD : D → D → Option D
  | .int i, .int j => some (.int (i + j))
  | .str x, .str y => if x.length + y.length ≤ LIM then some (.str (x ++ y)) else none
  | .lst _ xs, .lst _ ys => if D.fzs xs && D.fzs ys && decide (xs.length + ys.length ≤ LIM) then some (.lst true (xs ++ ys)) else none
  | .tup xs, .tup ys => if D.fzs xs && D.fzs ys && decide (xs.length + ys.length ≤ LIM) then some (.tup (xs ++ ys)) else none
  | _, _ => none
def subD : D → D → Option D
  | .int i, .int j => some (.int (i - j))
  | _, _ => none
def mulOk (i j : Int) : Bool := decide ((-18446744073709551616 < i ∧ i < 18446744073709551616) ∨ (-18446744073709551616 < j ∧ j < 18446744073709551616))
def mulD : D → D → Option D
  | .int i, .int j => if mulOk i j then some (.int (i * j)) else none
  | .lst _ xs, .int k => if D.fzs xs && decide (-1000000 ≤ k) && decide (k ≤ 1000000) && decide (xs.length * k.toNat ≤ LIM) then some (.lst true (List.replicate k.toNat xs).flatten) else none
  | _, _ => none
def divOk (j : Int) : Bool := decide (0 < j ∧ j < 1000000000000000000000000000000)
def fdivD : D → D → Option D
  | .int i, .int j => if divOk j then some (.int (i / j)) else none
  | _, _ => none
def modD : D → D → Option D
  | .int i, .int j => if 0 < j then some (.int (i % j)) else none
  | _, _ => none
def powD : D → D → Option D
  | .int i, .int j => if decide (0 ≤ j ∧ j ≤ 1000000 ∧ i.natAbs < 18446744073709551616) then some (.int (i ^ j.toNat)) else none
  | _, _ => none
def negD : D → Option D
  | .int i => some (.int (-i))
  | _ => none
section
variable {K : PySem.W.Frag} {cl : Str → Addr} {Z H Z' H' : Hp}
theorem Dens.fz0 {ds : List D} {vs : List V} {fp : Fp} (c : D.fzs ds = true) (h : Dens K cl Z H ds vs fp) : Dens K cl Z H ds vs [] := by
  have e := Dens.fz ds vs fp c h
  subst e
  exact h
theorem band {a b : Bool} (h : (a && b) = true) : a = true ∧ b = true := Bool.and_eq_true_iff.mp h
theorem op_addD : Op2 K cl (rAddA K) addD := by
  intro Z H x y d v u fx fy Q s hx hy e q
  unfold addD at e
  split at e
  · rename_i i j
    cases e
    rw [hx.1, hy.1]
    exact .inl (.inl (.inl ⟨i, j, rfl, rfl, PostV.int s q⟩))
  · rename_i i j
    split at e
    · rename_i c
      cases e
      rw [hx.1, hy.1]
      exact .inl (.inl (.inr ⟨i, j, rfl, rfl, lim_le c, PostV.str s q⟩))
    · cases e
  · rename_i o xs o2 ys
    split at e
    · rename_i c
      cases e
      obtain ⟨c1, c3⟩ := band c
      obtain ⟨c1, c2⟩ := band c1
      have c3 := of_decide_eq_true c3
      obtain ⟨a, vs, f, rfl, qa, da, _⟩ := hx.lstH s
      obtain ⟨b, us, g, rfl, qb, db, _⟩ := hy.lstH s
      have da := da.fz0 c1
      have db := db.fz0 c2
      exact .inl (.inr ⟨a, b, vs, us, rfl, rfl, qa, qb, by rw [da.length, db.length]; exact lim_le c3, fun p hp => PostV.lst0 q s (da.append db) p hp⟩)
    · cases e
  · rename_i xs ys
    split at e
    · rename_i c
      cases e
      obtain ⟨c1, c3⟩ := band c
      obtain ⟨c1, c2⟩ := band c1
      have c3 := of_decide_eq_true c3
      obtain ⟨a, vs, rfl, qa, za, da⟩ := hx.tupH s
      obtain ⟨b, us, rfl, qb, zb, db⟩ := hy.tupH s
      have da := da.fz0 c1
      have db := db.fz0 c2
      refine .inr ⟨a, b, vs, us, rfl, rfl, qa, qb, by rw [da.length, db.length]; exact lim_le c3, fun e0 => ?_, fun _ e0 => ?_, fun _ _ p hp => PostV.tup0 q s (da.append db) p hp⟩
      · subst e0
        refine PostV.val s ?_ q
        simp only [Den]
        exact ⟨b, us, rfl, zb, da.append db⟩
      · subst e0
        refine PostV.val s ?_ q
        simp only [Den]
        exact ⟨a, vs, rfl, za, by simpa using da.append db⟩
    · cases e
  · cases e
theorem op_subD : Op2 K cl (rI0 fun i j => .int (i - j)) subD := by
  intro Z H x y d v u fx fy Q s hx hy e q
  unfold subD at e
  split at e
  · rename_i i j
    cases e
    rw [hx.1, hy.1]
    exact ⟨i, j, rfl, rfl, PostV.int s q⟩
  · cases e
def rMulA : R2 := fun x y H Q => rI CMul (fun i j => .int (i * j)) x y H Q ∨ rRep x y H Q
theorem op_mulA {X : Cx} : OpR X (binaryOp .Mult) rMulA := op_mul.or op_rep
theorem Dens.rep {ds : List D} {vs : List V} (h : Dens K cl Z H ds vs []) : ∀ k : Nat, Dens K cl Z H (List.replicate k ds).flatten (List.replicate k vs).flatten []
  | 0 => ⟨rfl, rfl⟩
  | k + 1 => by
    rw [List.replicate_succ, List.flatten_cons, List.replicate_succ, List.flatten_cons]
    exact h.append (Dens.rep h k)
theorem op_mulD : Op2 K cl rMulA mulD := by
  intro Z H x y d v u fx fy Q s hx hy e q
  unfold mulD at e
  split at e
  · rename_i i j
    split at e
    · rename_i c
      cases e
      rw [hx.1, hy.1]
      have c : (-18446744073709551616 < i ∧ i < 18446744073709551616) ∨ (-18446744073709551616 < j ∧ j < 18446744073709551616) := of_decide_eq_true c
      exact .inl ⟨i, j, rfl, rfl, c, PostV.int s q⟩
    · cases e
  · rename_i o xs k
    split at e
    · rename_i c
      cases e
      obtain ⟨c, c4⟩ := band c
      obtain ⟨c, c3⟩ := band c
      obtain ⟨c1, c2⟩ := band c
      have c2 := of_decide_eq_true c2
      have c3 := of_decide_eq_true c3
      have c4 := of_decide_eq_true c4
      obtain ⟨a, vs, f, rfl, qa, da, _⟩ := hx.lstH s
      have da := da.fz0 c1
      rw [hy.1]
      exact .inr ⟨a, k, vs, rfl, rfl, qa, by omega, by omega, by rw [da.length]; exact lim_le c4, fun p hp => PostV.lst0 q s (da.rep k.toNat) p hp⟩
    · cases e
  · cases e
theorem op_fdivD : Op2 K cl (rI CDivW fun i j => .int (i / j)) fdivD := by
  intro Z H x y d v u fx fy Q s hx hy e q
  unfold fdivD at e
  split at e
  · rename_i i j
    split at e
    · rename_i c
      cases e
      obtain ⟨c1, c2⟩ := of_decide_eq_true c
      rw [hx.1, hy.1]
      exact ⟨i, j, rfl, rfl, wide_div (i := i) (b := 100) c1 (by have : (2 : Nat) ^ 100 = 1267650600228229401496703205376 := by decide
                                                                 omega) (by decide) (by decide), PostV.int s q⟩
    · cases e
  · cases e
theorem op_modD : Op2 K cl (rI (fun _ j => 0 < j) fun i j => .int (i % j)) modD := by
  intro Z H x y d v u fx fy Q s hx hy e q
  unfold modD at e
  split at e
  · rename_i i j
    split at e
    · rename_i c
      cases e
      rw [hx.1, hy.1]
      exact ⟨i, j, rfl, rfl, c, PostV.int s q⟩
    · cases e
  · cases e
theorem op_powD : Op2 K cl (rI CPow fun i j => .int (i ^ j.toNat)) powD := by
  intro Z H x y d v u fx fy Q s hx hy e q
  unfold powD at e
  split at e
  · rename_i i j
    split at e
    · rename_i c
      cases e
      rw [hx.1, hy.1]
      have c := of_decide_eq_true c
      exact ⟨i, j, rfl, rfl, ⟨c.1, c.2.1, c.2.2⟩, PostV.int s q⟩
    · cases e
  · cases e
theorem op_negD : Op1 K cl (rU fun i => .int (-i)) negD := by
  intro Z H x d v fx Q s hx e q
  unfold negD at e
  split at e
  · rename_i i
    cases e
    rw [hx.1]
    exact ⟨i, rfl, PostV.int s q⟩
  · cases e
end
mutual
def D.py : D → PyData
  | .bl b => .bool b
  | .int i => .int i
  | .str x => .str x
  | .tup xs => .tuple (D.pys xs)
  | .lst _ xs => .list (D.pys xs)
  | _ => .none
def D.pys : List D → List PyData
  | [] => []
  | d :: ds => d.py :: D.pys ds
end
mutual
def D.okd : D → Nat → Bool
  | .non, _ => true
  | .bl _, _ => true
  | .int _, _ => true
  | .str x, _ => PyData.strOk x
  | .tup xs, n => match n with
    | 0 => false
    | m + 1 => D.okds xs m
  | .lst _ xs, n => match n with
    | 0 => false
    | m + 1 => D.okds xs m
  | _, _ => false
def D.okds : List D → Nat → Bool
  | [], _ => true
  | d :: ds, n => d.okd n && D.okds ds n
end
mutual
theorem okd_lay : ∀ (d : D) (n : Nat), d.okd n = true → d.py.canLay0 = true ∧ d.py.depth ≤ n
  | .non, n, _ => ⟨rfl, Nat.zero_le _⟩
  | .bl _, n, _ => ⟨rfl, Nat.zero_le _⟩
  | .int _, n, _ => ⟨rfl, Nat.zero_le _⟩
  | .str x, n, h => ⟨by simp only [D.py, PyData.canLay0]; exact h, Nat.zero_le _⟩
  | .tup xs, 0, h => by
    have h' : false = true := h
    cases h'
  | .tup xs, n + 1, h => by
    obtain ⟨h1, h2⟩ := okds_lay xs n h
    simp only [D.py, PyData.canLay0, PyData.depth]
    exact ⟨h1, Nat.succ_le_succ h2⟩
  | .lst o xs, 0, h => by
    have h' : false = true := h
    cases h'
  | .lst o xs, n + 1, h => by
    obtain ⟨h1, h2⟩ := okds_lay xs n h
    simp only [D.py, PyData.canLay0, PyData.depth]
    exact ⟨h1, Nat.succ_le_succ h2⟩
  | .ins _ _ _, n, h => by
    have h' : false = true := h
    cases h'
  | .scr _, n, h => by
    have h' : false = true := h
    cases h'
  | .adr _, n, h => by
    have h' : false = true := h
    cases h'
  | .cls _, n, h => by
    have h' : false = true := h
    cases h'
  | .pin _, n, h => by
    have h' : false = true := h
    cases h'
  | .err _ _ _, n, h => by
    have h' : false = true := h
    cases h'
  | .own _ _ _ _, n, h => by
    have h' : false = true := h
    cases h'
  | .lsa _ _, n, h => by
    have h' : false = true := h
    cases h'
  | .dct _ _ _, n, h => by
    have h' : false = true := h
    cases h'
  | .lok _ _, n, h => by
    have h' : false = true := h
    cases h'
  | .wth _ _, n, h => by
    have h' : false = true := h
    cases h'
theorem okds_lay : ∀ (ds : List D) (n : Nat), D.okds ds n = true → PyData.canLayAll0 (D.pys ds) = true ∧ PyData.depthAll (D.pys ds) ≤ n
  | [], n, _ => ⟨by simp only [D.pys, PyData.canLayAll0], Nat.zero_le _⟩
  | d :: ds, n, h => by
    obtain ⟨h1, h2⟩ := band (show (d.okd n && D.okds ds n) = true from h)
    obtain ⟨a1, a2⟩ := okd_lay d n h1
    obtain ⟨b1, b2⟩ := okds_lay ds n h2
    simp only [D.pys, PyData.canLayAll0, PyData.depthAll]
    exact ⟨by rw [a1, b1]; rfl, Nat.max_le.mpr ⟨a2, b2⟩⟩
end
def DEP : Nat := 20
theorem okd_shaped {d : D} (h : d.okd DEP = true) : SeqAt.shaped d.py = true := by
  obtain ⟨h1, h2⟩ := okd_lay d DEP h
  unfold SeqAt.shaped
  rw [h1, decide_eq_true (Nat.le_trans h2 (by decide))] <;> rfl
section
variable {K : PySem.W.Frag} {cl : Str → Addr} {Z H Z' H' : Hp}
mutual
theorem Den.dp (s : Ex Z H) : ∀ (d : D) (n : Nat) (v : V) (fp : Fp), d.okd n = true → Den K cl Z H d v fp → Dp K H v d.py
  | .non, n, v, fp, _, h => by rw [h.1]; exact .non
  | .bl b, n, v, fp, _, h => by rw [h.1]; exact .bl b
  | .int i, n, v, fp, _, h => by rw [h.1]; exact .int i
  | .str x, n, v, fp, _, h => by rw [h.1]; exact .str x
  | .tup xs, 0, v, fp, c, h => by
    have h' : false = true := c
    cases h'
  | .tup xs, n + 1, v, fp, c, h => by
    obtain ⟨a, vs, e, q, z, r⟩ := h.tupH s
    rw [e]
    exact .tup q (Dens.dp s xs n vs fp c r)
  | .lst o xs, 0, v, fp, c, h => by
    have h' : false = true := c
    cases h'
  | .lst o xs, n + 1, v, fp, c, h => by
    obtain ⟨a, vs, f, e, q, r, _⟩ := h.lstH s
    rw [e]
    exact .lst (.inl (.inl q)) (Dens.dp s xs n vs f c r)
  | .ins _ _ _, n, v, fp, c, h => by
    have h' : false = true := c
    cases h'
  | .scr _, n, v, fp, c, h => by
    have h' : false = true := c
    cases h'
  | .adr _, n, v, fp, c, h => by
    have h' : false = true := c
    cases h'
  | .cls _, n, v, fp, c, h => by
    have h' : false = true := c
    cases h'
  | .pin _, n, v, fp, c, h => by
    have h' : false = true := c
    cases h'
  | .err _ _ _, n, v, fp, c, h => by
    have h' : false = true := c
    cases h'
  | .own _ _ _ _, n, v, fp, c, h => by
    have h' : false = true := c
    cases h'
  | .lsa _ _, n, v, fp, c, h => by
    have h' : false = true := c
    cases h'
  | .dct _ _ _, n, v, fp, c, h => by
    have h' : false = true := c
    cases h'
  | .lok _ _, n, v, fp, c, h => by
    have h' : false = true := c
    cases h'
  | .wth _ _, n, v, fp, c, h => by
    have h' : false = true := c
    cases h'
theorem Dens.dp (s : Ex Z H) : ∀ (ds : List D) (n : Nat) (vs : List V) (fp : Fp), D.okds ds n = true → Dens K cl Z H ds vs fp → DpAll K H vs (D.pys ds)
  | [], n, vs, fp, _, h => by rw [h.1]; exact .nil
  | d :: ds, n, vs, fp, c, h => by
    obtain ⟨c1, c2⟩ := band (show (d.okd n && D.okds ds n) = true from c)
    simp only [Dens] at h
    obtain ⟨v, vr, f1, f2, e1, e2, q, r⟩ := h
    rw [e1]
    exact .cons (Den.dp s d n v f1 c1 q) (Dens.dp s ds n vr f2 c2 r)
end
def eqD (x y : D) : Option Bool := if x.okd DEP && y.okd DEP then some (PyData.eqv x.py y.py) else none
def neD (x y : D) : Option Bool := if x.okd DEP && y.okd DEP then some (!PyData.eqv x.py y.py) else none
theorem op_eqDD : Op2B K cl (rEqD K) eqD := by
  intro Z H x y b v u fx fy Q s hx hy e q
  unfold eqD at e
  split at e
  · rename_i c
    obtain ⟨c1, c2⟩ := band c
    cases e
    exact ⟨x.py, y.py, Den.dp s x DEP v fx c1 hx, Den.dp s y DEP u fy c2 hy, okd_shaped c1, okd_shaped c2, q⟩
  · cases e
theorem op_neDD : Op2B K cl (rNeD K) neD := by
  intro Z H x y b v u fx fy Q s hx hy e q
  unfold neD at e
  split at e
  · rename_i c
    obtain ⟨c1, c2⟩ := band c
    cases e
    exact ⟨x.py, y.py, Den.dp s x DEP v fx c1 hx, Den.dp s y DEP u fy c2 hy, okd_shaped c1, okd_shaped c2, q⟩
  · cases e
def isN : D → Bool
  | .non => true
  | .wth x _ => isN x
  | _ => false
def isND (x y : D) : Option Bool := if isN y then some (isN x) else none
def notND (x y : D) : Option Bool := if isN y then some (!isN x) else none
def ltD : D → D → Option Bool
  | .int i, .int j => some (decide (i < j))
  | _, _ => none
def leD : D → D → Option Bool
  | .int i, .int j => some (decide (i ≤ j))
  | _, _ => none
def gtD : D → D → Option Bool
  | .int i, .int j => some (decide (j < i))
  | _, _ => none
def geD : D → D → Option Bool
  | .int i, .int j => some (decide (j ≤ i))
  | _, _ => none
theorem op_ltD : Op2B K cl (rI0 fun i j => .bl (decide (i < j))) ltD := by
  intro Z H x y b v u fx fy Q s hx hy e q
  unfold ltD at e
  split at e
  · cases e
    rw [hx.1, hy.1]
    exact ⟨_, _, rfl, rfl, q⟩
  · cases e
theorem op_gtD : Op2B K cl (rI0 fun i j => .bl (decide (j < i))) gtD := by
  intro Z H x y b v u fx fy Q s hx hy e q
  unfold gtD at e
  split at e
  · cases e
    rw [hx.1, hy.1]
    exact ⟨_, _, rfl, rfl, q⟩
  · cases e
theorem op_geD : Op2B K cl (rI0 fun i j => .bl (decide (j ≤ i))) geD := by
  intro Z H x y b v u fx fy Q s hx hy e q
  unfold geD at e
  split at e
  · cases e
    rw [hx.1, hy.1]
    exact ⟨_, _, rfl, rfl, q⟩
  · cases e
end
end DL
namespace DL
open PySem PySem.Spec PyProof.Rows L2
variable [Tb]
def intsOf : List D → Option (List Int)
  | [] => some []
  | .int i :: r => (intsOf r).map (i :: ·)
  | _ :: _ => none
def boolsOf : List D → Option (List Bool)
  | [] => some []
  | .bl b :: r => (boolsOf r).map (b :: ·)
  | _ :: _ => none
def lenN : List D → Option D
  | [.str x] => if x.length ≤ LIM then some (.int x.length) else none
  | [.tup xs] => some (.int xs.length)
  | [.lst _ xs] => some (.int xs.length)
  | [.scr ns] => some (.int ns.length)
  | _ => none
def absN : List D → Option D
  | [.int i] => some (.int (if i < 0 then -i else i))
  | _ => none
def intN : List D → Option D
  | [.int i] => some (.int i)
  | [.bl b] => some (.int (if b then 1 else 0))
  | _ => none
def intTN : List D → Option D
  | [.str x] => if x.length ≤ 640 then (PySem.intText? x).map .int else none
  | _ => none
def max2N : List D → Option D
  | [.int i, .int j] => some (.int (if j > i then j else i))
  | _ => none
def min2N : List D → Option D
  | [.int i, .int j] => some (.int (if j < i then j else i))
  | _ => none
def sumN : List D → Option D
  | [.lst _ xs] => (intsOf xs).map fun ns => .int ns.sum
  | _ => none
def allN : List D → Option D
  | [.lst _ xs] => (boolsOf xs).map fun bs => .bl (bs.all id)
  | _ => none
def anyN : List D → Option D
  | [.lst _ xs] => (boolsOf xs).map fun bs => .bl (bs.any id)
  | _ => none
def maxI : List Int → Int
  | [] => 0
  | [i] => i
  | i :: r => max i (maxI r)
def minI : List Int → Int
  | [] => 0
  | [i] => i
  | i :: r => min i (minI r)
def maxN : List D → Option D
  | [.lst _ (x :: xs)] => (intsOf (x :: xs)).map fun ns => .int (maxI ns)
  | _ => none
def minN : List D → Option D
  | [.lst _ (x :: xs)] => (intsOf (x :: xs)).map fun ns => .int (minI ns)
  | _ => none
def listN : List D → Option D
  | [.lst _ xs] => if D.fzs xs then some (.lst true xs) else none
  | [.tup xs] => if D.fzs xs then some (.lst true xs) else none
  | _ => none
def tupleN : List D → Option D
  | [.lst _ xs] => if D.fzs xs then some (.tup xs) else none
  | [.tup xs] => if D.fzs xs then some (.tup xs) else none
  | _ => none
def strI (i : Int) : Bool := decide (i.natAbs < 10000000000000000000000000000000000000000000000000000000000000000000000000000000000000000000000000000)
def strN : List D → Option D
  | [.int i] => if strI i then some (.str (toString i)) else none
  | _ => none
section
variable {K : PySem.W.Frag} {cl : Str → Addr} {Z H Z' H' : Hp}
theorem Dens.cons' {d : D} {ds : List D} {vs : List V} {fp : Fp} (h : Dens K cl Z H (d :: ds) vs fp) : ∃ v vr f1 f2, vs = v :: vr ∧ fp = f1 ++ f2 ∧ Den K cl Z H d v f1 ∧ Dens K cl Z H ds vr f2 := by
  simp only [Dens] at h
  exact h
theorem Dens.one' {d : D} {vs : List V} {fp : Fp} (h : Dens K cl Z H [d] vs fp) : ∃ v, vs = [v] ∧ Den K cl Z H d v fp := by
  obtain ⟨v, vr, f1, f2, e1, e2, q, r⟩ := h.cons'
  obtain ⟨r1, r2⟩ := r
  subst r1 r2 e2
  exact ⟨v, e1, by simpa using q⟩
theorem opN_len : OpN K cl (fun xs H Q => ∃ x n, xs = [x] ∧ LenV K x H n ∧ Q (.int n) H) lenN := by
  intro Z H xs d vs fp Q s h e q
  unfold lenN at e
  split at e
  · rename_i x
    split at e
    · rename_i c
      cases e
      obtain ⟨v, rfl, hv⟩ := h.one'
      rw [hv.1]
      exact ⟨_, x.length, rfl, ⟨lim_le c, rfl⟩, PostV.int s q⟩
    · cases e
  · rename_i xs
    cases e
    obtain ⟨v, rfl, hv⟩ := h.one'
    obtain ⟨a, vs, rfl, qa, _, r⟩ := hv.tupH s
    exact ⟨_, xs.length, rfl, .inr ⟨vs, qa, r.length.symm⟩, PostV.int s q⟩
  · rename_i o xs
    cases e
    obtain ⟨v, rfl, hv⟩ := h.one'
    obtain ⟨a, vs, f, rfl, qa, r, _⟩ := hv.lstH s
    exact ⟨_, xs.length, rfl, .inl ⟨vs, .inl (.inl qa), r.length.symm⟩, PostV.int s q⟩
  · rename_i ns
    cases e
    obtain ⟨v, rfl, hv⟩ := h.one'
    simp only [Den] at hv
    obtain ⟨a, rfl, _, qa⟩ := hv
    exact ⟨_, ns.length, rfl, .inl ⟨_, s.sqL qa, by rw [List.length_map]⟩, PostV.int s q⟩
  · cases e
theorem opN_abs : OpN K cl (fun xs H Q => ∃ i, xs = [.int i] ∧ Q (.int (if i < 0 then -i else i)) H) absN := by
  intro Z H xs d vs fp Q s h e q
  unfold absN at e
  split at e
  · rename_i i
    cases e
    obtain ⟨v, rfl, hv⟩ := h.one'
    rw [hv.1]
    exact ⟨i, rfl, PostV.int s q⟩
  · cases e
theorem opN_int : OpN K cl (fun xs H Q => (∃ i, xs = [.int i] ∧ Q (.int i) H) ∨ ∃ k, xs = [.bl k] ∧ Q (.int (if k then 1 else 0)) H) intN := by
  intro Z H xs d vs fp Q s h e q
  unfold intN at e
  split at e
  · rename_i i
    cases e
    obtain ⟨v, rfl, hv⟩ := h.one'
    rw [hv.1]
    exact .inl ⟨i, rfl, PostV.int s q⟩
  · rename_i i
    cases e
    obtain ⟨v, rfl, hv⟩ := h.one'
    rw [hv.1]
    exact .inr ⟨i, rfl, PostV.int s q⟩
  · cases e
theorem opN_list : OpN K cl (fun xs H Q => ∃ p ys, xs = [.ref p] ∧ (SqL K H p ys ∨ SqT K H p ys) ∧ ∀ l, H l = none → Q (.ref l) (upd H l (.lst ys))) listN := by
  intro Z H xs d vs fp Q s h e q
  unfold listN at e
  split at e
  · rename_i o xs
    split at e
    · rename_i c
      cases e
      obtain ⟨v, rfl, hv⟩ := h.one'
      obtain ⟨a, vs, f, rfl, qa, r, _⟩ := hv.lstH s
      exact ⟨a, vs, rfl, .inl (.inl (.inl qa)), fun p hp => PostV.lst0 q s (r.fz0 c) p hp⟩
    · cases e
  · rename_i xs
    split at e
    · rename_i c
      cases e
      obtain ⟨v, rfl, hv⟩ := h.one'
      obtain ⟨a, vs, rfl, qa, _, r⟩ := hv.tupH s
      exact ⟨a, vs, rfl, .inr qa, fun p hp => PostV.lst0 q s (r.fz0 c) p hp⟩
    · cases e
  · cases e
def ixD : D → D → Option D
  | .lst _ xs, .int i => atI xs i
  | .tup xs, .int i => atI xs i
  | .str z, .int i => if z.length ≤ LIM then (atI z.cps.toList i).map fun c => .str ⟨#[c]⟩ else none
  | .scr ns, .int i => (atI ns i).map .int
  | _, _ => none
theorem Dens.at {ds : List D} {vs : List V} {fp : Fp} {i : Int} {d : D} (h : Dens K cl Z H ds vs fp) (e : atI ds i = some d) : ∃ v f, atI vs i = some v ∧ Den K cl Z H d v f ∧ f.Sublist fp := by
  unfold atI at e ⊢
  rw [h.length]
  cases c : ixN ds.length i with
  | none => rw [c] at e; cases e
  | some j =>
    rw [c] at e
    obtain ⟨v, f, h1, h2, h3, h4⟩ := h.get (i := j) (show ds[j]? = some d from e)
    exact ⟨v, f, h1, h2, h4⟩
theorem PostB.val {d : D} {v : V} {fp : Fp} {Q : VK} (s : Ex Z H) (h : Den K cl Z H d v fp) (q : PostB K cl Z H d Q) : Q v H := q v Z H fp (Gr.refl s) h
theorem op_ixD : Op2V K cl (rIx K) ixD := by
  intro Z H x y d v u fx fy Q s hx hy e q
  unfold ixD at e
  split at e
  · rename_i o xs i
    obtain ⟨a, vs, f, rfl, qa, r, _⟩ := hx.lstH s
    obtain ⟨w, g, h1, h2, _⟩ := r.at e
    rw [hy.1]
    exact .inl ⟨a, vs, i, w, rfl, rfl, .inl (.inl qa), h1, PostB.val s h2 q⟩
  · rename_i xs i
    obtain ⟨a, vs, rfl, qa, _, r⟩ := hx.tupH s
    obtain ⟨w, g, h1, h2, _⟩ := r.at e
    rw [hy.1]
    exact .inr (.inl ⟨a, vs, i, w, rfl, rfl, qa, h1, PostB.val s h2 q⟩)
  · rename_i z i
    split at e
    · rename_i c
      obtain ⟨k, e1, e2⟩ := Option.map_eq_some_iff.mp e
      subst e2
      rw [hx.1, hy.1]
      exact .inr (.inr ⟨z, i, k, rfl, rfl, lim_le c, e1, PostB.val (d := .str ⟨#[k]⟩) (fp := []) s ⟨rfl, rfl⟩ q⟩)
    · cases e
  · rename_i ns i
    obtain ⟨k, e1, e2⟩ := Option.map_eq_some_iff.mp e
    subst e2
    simp only [Den] at hx
    obtain ⟨a, rfl, _, qa⟩ := hx
    rw [hy.1]
    refine .inl ⟨a, ns.map V.int, i, .int k, rfl, rfl, s.sqL qa, ?_, PostB.val (d := .int k) (fp := []) s ⟨rfl, rfl⟩ q⟩
    unfold atI at e1 ⊢
    rw [List.length_map]
    cases c : ixN ns.length i with
    | none => rw [c] at e1; cases e1
    | some j =>
      rw [c] at e1
      show (ns.map V.int)[j]? = _
      rw [List.getElem?_map, show ns[j]? = some k from e1] <;> rfl
  · cases e
def cutD {α : Type} (xs : List α) (lo hi : Option Int) : List α := (xs.drop (HT.sIx xs.length 0 lo)).take (HT.sIx xs.length xs.length hi - HT.sIx xs.length 0 lo)
def slD (d : D) (lo hi : Option Int) : Option D := match d with
  | .lst _ xs => if D.fzs xs then some (.lst true (cutD xs lo hi)) else none
  | .tup xs => if D.fzs xs then some (.tup (cutD xs lo hi)) else none
  | .str z => if z.length ≤ LIM then some (.str (cutS z lo hi)) else none
  | .scr ns => some (.lst true ((cutD ns lo hi).map D.int))
  | _ => none
theorem Dens.ints : ∀ ms : List Int, Dens K cl Z H (ms.map D.int) (ms.map V.int) []
  | [] => ⟨rfl, rfl⟩
  | m :: ms => by
    simp only [List.map_cons, Dens]
    exact ⟨_, _, [], [], rfl, rfl, ⟨rfl, rfl⟩, Dens.ints ms⟩
theorem cutD_map {α β : Type} (f : α → β) (xs : List α) (lo hi : Option Int) : cutD (xs.map f) lo hi = (cutD xs lo hi).map f := by
  unfold cutD
  rw [List.length_map, List.map_take, List.map_drop]
theorem Dens.take {ds : List D} {vs : List V} (h : Dens K cl Z H ds vs []) : ∀ (n : Nat), Dens K cl Z H (ds.take n) (vs.take n) [] := by
  induction ds generalizing vs with
  | nil => intro n; rw [h.1]; rw [List.take_nil, List.take_nil]; exact ⟨rfl, rfl⟩
  | cons d ds ih =>
    intro n
    obtain ⟨v, vr, f1, f2, e1, e2, q, r⟩ := h.cons'
    obtain ⟨e3, e4⟩ := List.append_eq_nil_iff.mp e2.symm
    subst e1 e3 e4
    cases n with
    | zero => exact ⟨rfl, rfl⟩
    | succ n => exact Dens.cons q (ih r n)
theorem Dens.drop {ds : List D} {vs : List V} (h : Dens K cl Z H ds vs []) : ∀ (n : Nat), Dens K cl Z H (ds.drop n) (vs.drop n) [] := by
  induction ds generalizing vs with
  | nil => intro n; rw [h.1]; rw [List.drop_nil, List.drop_nil]; exact ⟨rfl, rfl⟩
  | cons d ds ih =>
    intro n
    obtain ⟨v, vr, f1, f2, e1, e2, q, r⟩ := h.cons'
    obtain ⟨e3, e4⟩ := List.append_eq_nil_iff.mp e2.symm
    subst e1 e3 e4
    cases n with
    | zero => exact Dens.cons q r
    | succ n => exact ih r n
theorem Dens.reverse {ds : List D} {vs : List V} (h : Dens K cl Z H ds vs []) : Dens K cl Z H ds.reverse vs.reverse [] := by
  induction ds generalizing vs with
  | nil => rw [h.1]; exact ⟨rfl, rfl⟩
  | cons d ds ih =>
    obtain ⟨v, vr, f1, f2, e1, e2, q, r⟩ := h.cons'
    obtain ⟨e3, e4⟩ := List.append_eq_nil_iff.mp e2.symm
    subst e1 e3 e4
    rw [List.reverse_cons, List.reverse_cons]
    exact (ih r).append (Dens.one q)
theorem Dens.cut {ds : List D} {vs : List V} (h : Dens K cl Z H ds vs []) (lo hi : Option Int) : Dens K cl Z H (cutD ds lo hi) (cutV vs lo hi) [] := by
  unfold cutD cutV
  rw [h.length]
  exact (h.drop _).take _
def rSlX (K : PySem.W.Frag) : V → Option Int → Option Int → Hp → VK → Prop := fun x lo hi H Q => (rSlL K x lo hi H Q ∨ rSlA K x lo hi H Q) ∨ rSlS x lo hi H Q
theorem sl_any {X : Cx} : SlR X (rSlX X.K) := (sl_list.or sl_tupA).or sl_str
theorem cut_all {α : Type} (xs : List α) (lo hi : Option Int) (h : HT.sIx xs.length 0 lo = 0 ∧ HT.sIx xs.length xs.length hi = xs.length) : cutD xs lo hi = xs := by
  unfold cutD
  rw [h.1, h.2, List.drop_zero, Nat.sub_zero, List.take_length]
theorem op_slD {d d' : D} {lo hi : Option Int} {v : V} {fx : Fp} {Q : VK} (s : Ex Z H) (hx : Den K cl Z H d v fx) (e : slD d lo hi = some d') (q : PostV K cl Z H d' Q) : rSlX K v lo hi H Q := by
  unfold slD at e
  split at e
  · rename_i o xs
    split at e
    · rename_i c
      cases e
      obtain ⟨a, vs, f, rfl, qa, r, _⟩ := hx.lstH s
      exact .inl (.inl ⟨a, vs, rfl, .inl (.inl qa), fun p hp => PostV.lst0 q s ((r.fz0 c).cut lo hi) p hp⟩)
    · cases e
  · rename_i xs
    split at e
    · rename_i c
      cases e
      obtain ⟨a, vs, rfl, qa, za, r⟩ := hx.tupH s
      refine .inl (.inr ⟨a, vs, rfl, qa, fun w => ?_, fun _ p hp => PostV.tup0 q s ((r.fz0 c).cut lo hi) p hp⟩)
      rw [r.length] at w
      rw [cut_all xs lo hi w] at q
      refine PostV.val s ?_ q
      simp only [Den]
      exact ⟨a, vs, rfl, za, r.fz0 c⟩
    · cases e
  · rename_i z
    split at e
    · rename_i c
      cases e
      rw [hx.1]
      exact .inr ⟨z, rfl, lim_le c, PostV.str s q⟩
    · cases e
  · rename_i ns
    cases e
    simp only [Den] at hx
    obtain ⟨a, rfl, _, qa⟩ := hx
    exact .inl (.inl ⟨a, ns.map V.int, rfl, s.sqL qa, fun p hp => PostV.lst0 q s (by rw [← cutD_map]; exact (Dens.ints ns).cut lo hi) p hp⟩)
  · cases e
def flatD : D → Option V
  | .non => some .non
  | .bl b => some (.bl b)
  | .int i => some (.int i)
  | .str x => some (.str x)
  | _ => none
def flats : List D → Option (List V)
  | [] => some []
  | d :: ds => match flatD d, flats ds with
    | some v, some vs => some (v :: vs)
    | _, _ => none
theorem flatD_of {d : D} {v u : V} {fp : Fp} (e : flatD d = some v) (h : Den K cl Z H d u fp) : u = v ∧ flatV v = true := by
  cases d with
  | non => cases e; exact ⟨h.1, rfl⟩
  | bl b => cases e; exact ⟨h.1, rfl⟩
  | int i => cases e; exact ⟨h.1, rfl⟩
  | str x => cases e; exact ⟨h.1, rfl⟩
  | _ => cases e
theorem flats_of : ∀ {ds : List D} {vs us : List V} {fp : Fp}, flats ds = some vs → Dens K cl Z H ds us fp → us = vs ∧ vs.all flatV = true
  | [], vs, us, fp, e, h => by cases e; exact ⟨h.1, rfl⟩
  | d :: ds, vs, us, fp, e, h => by
    obtain ⟨v, vr, f1, f2, e1, e2, q, r⟩ := h.cons'
    unfold flats at e
    split at e
    · rename_i a as ea eb
      cases e
      obtain ⟨r1, r2⟩ := flatD_of ea q
      obtain ⟨r3, r4⟩ := flats_of eb r
      subst e1 r1 r3
      exact ⟨rfl, by rw [List.all_cons, r2, r4]; rfl⟩
    · cases e
def inD (x y : D) : Option Bool := match y with
  | .lst _ ys => if x.okd DEP && (D.lst true ys).okd DEP then some ((D.pys ys).any fun z => PyData.eqv z x.py) else none
  | .tup ys => (flatD x).bind fun v => (flats ys).map fun vs => inV v vs
  | .str z => match x with
    | .str w => match w.cps.toList with
      | [c] => some (decide (c ∈ z.cps.toList))
      | _ => none
    | _ => none
  | _ => none
def notInD (x y : D) : Option Bool := (inD x y).map not
def rInA (K : PySem.W.Frag) : R2 := fun x y H Q => (rInD K x y H Q ∨ rIn K false x y H Q) ∨ (fun x y H Q => ∃ (c : Nat) (z : Str), x = .str ⟨#[c]⟩ ∧ y = .str z ∧ Q (.bl (decide (c ∈ z.cps.toList))) H) x y H Q
def rNotInA (K : PySem.W.Frag) : R2 := fun x y H Q => (rNotInD K x y H Q ∨ rIn K true x y H Q) ∨ (fun x y H Q => ∃ (c : Nat) (z : Str), x = .str ⟨#[c]⟩ ∧ y = .str z ∧ Q (.bl (!decide (c ∈ z.cps.toList))) H) x y H Q
theorem op_notInA {X : Cx} (hu : X.A.units + 65 < cLine) : OpR X (compareOp .NotIn) (rNotInA X.K) := ((op_notInD hu).or op_notIn_seq).or op_notIn_sign
theorem str_one {w : Str} {c : Nat} (h : w.cps.toList = [c]) : w = ⟨#[c]⟩ := by
  obtain ⟨a⟩ := w
  have : a = #[c] := by
    have h' : a.toList = [c] := h
    rw [← Array.toArray_toList (xs := a), h']
  rw [this]
theorem in_core {x y : D} {b : Bool} {v u : V} {fx fy : Fp} (s : Ex Z H) (hx : Den K cl Z H x v fx) (hy : Den K cl Z H y u fy) (e : inD x y = some b) (R : Bool → Prop)
    (h1 : ∀ d ds, Dp K H v d → Dp K H u (.list ds) → SeqAt.shaped d = true → SeqAt.shaped (.list ds) = true → b = (ds.any fun z => PyData.eqv z d) → R b)
    (h2 : ∀ p xs, u = .ref p → SqT K H p xs → flatV v = true → xs.all flatV = true → b = inV v xs → R b)
    (h3 : ∀ (c : Nat) (z : Str), v = .str ⟨#[c]⟩ → u = .str z → b = decide (c ∈ z.cps.toList) → R b) : R b := by
  unfold inD at e
  split at e
  · rename_i o ys
    split at e
    · rename_i c
      obtain ⟨c1, c2⟩ := band c
      cases e
      have hy' : Dp K H u (.list (D.pys ys)) := by
        have hy2 := Den.dp s (.lst o ys) DEP u fy (by exact c2) hy
        simpa only [D.py] using hy2
      exact h1 x.py (D.pys ys) (Den.dp s x DEP v fx c1 hx) hy' (okd_shaped c1) (by have := okd_shaped c2; simpa only [D.py] using this) rfl
    · cases e
  · rename_i ys
    obtain ⟨w, ew, e⟩ := Option.bind_eq_some_iff.mp e
    obtain ⟨ws, ews, e⟩ := Option.map_eq_some_iff.mp e
    subst e
    obtain ⟨a, vs, rfl, qa, _, r⟩ := hy.tupH s
    obtain ⟨r1, r2⟩ := flatD_of ew hx
    obtain ⟨r3, r4⟩ := flats_of ews r
    subst r1 r3
    exact h2 a vs rfl qa r2 r4 rfl
  · rename_i z
    split at e
    · rename_i w
      split at e
      · rename_i c ec
        cases e
        rw [str_one ec] at hx
        exact h3 c z hx.1 hy.1 rfl
      · cases e
    · cases e
  · cases e
theorem op_notInDD : Op2B K cl (rNotInA K) notInD := by
  intro Z H x y b v u fx fy Q s hx hy e q
  obtain ⟨b', e2, eb'⟩ := Option.map_eq_some_iff.mp e
  subst eb'
  refine in_core s hx hy e2 (fun _ => rNotInA K v u H Q) (fun d ds a1 a2 a3 a4 eb => ?_) (fun p xs a1 a2 a3 a4 eb => ?_) fun c z a1 a2 eb => ?_
  · subst eb; exact .inl (.inl ⟨d, ds, a1, a2, a3, a4, q⟩)
  · subst eb; exact .inl (.inr ⟨p, xs, a1, .inr a2, a3, a4, q⟩)
  · subst eb; exact .inr ⟨c, z, a1, a2, q⟩
end
section
variable {X : Cx} {W : WX} {a b e : Expr} {f g : Env → Ou D} {es : List Expr} {t : Env → Ou (List D)} {pos p : Pos} {x : Str}
theorem DE.callB {id : String} {r : List V → Hp → VK → Prop} {op : List D → Option D} (hc : CallR X (.builtin id) r) (hk : OpN X.K (He.ga X.K) r op) (hg : Gl X x) (hm : X.mg x = none) (hv : bootBuiltins x = some (.builtin id)) (ha : DAB X W (e :: es) t) (hn : x ≠ "__name__" := by decide) (hdb : (x == ("__debug__" : Str)) = false := by decide)
    (he : starEach (e :: es) X.env = (false, eval e X.env) :: starEach es X.env := by rfl) (hpl : (backTo pos (starEach es X.env)).any (·.1) = false := by rfl) : DE X W (.Call (.Name x p) (e :: es) [] pos) (dN op t) := by
  refine ⟨PE.weak (pe_callB hc hg hm hv ha.run hn hdb he hpl) fun σ H Q hq => ?_⟩
  obtain ⟨Z, ρ, r, q⟩ := hq
  refine tVs_bind (P := fun Z H o => PostO X.K (He.ga X.K) W Z H σ o Q) r (fun _ _ _ z => z) (fun z => z) q fun ds vs Z1 H1 fp ex g1 dn q => ?_
  have q := PostO.gr q g1
  match ec : op ds with
  | some d => rw [ec] at q; exact hk Z1 H1 ds d vs fp Q g1.s dn ec q
  | none => rw [ec] at q; exact q.elim
theorem DE.callTy {T : String} {r : List V → Hp → VK → Prop} {op : List D → Option D} (hc : CallR X (.type T) r) (hk : OpN X.K (He.ga X.K) r op) (hg : Gl X x) (hm : X.mg x = none) (hv : bootBuiltins x = some (.type T)) (ha : DAB X W (e :: es) t) (hn : x ≠ "__name__" := by decide) (hdb : (x == ("__debug__" : Str)) = false := by decide)
    (he : starEach (e :: es) X.env = (false, eval e X.env) :: starEach es X.env := by rfl) (hpl : (backTo pos (starEach es X.env)).any (·.1) = false := by rfl) : DE X W (.Call (.Name x p) (e :: es) [] pos) (dN op t) := by
  refine ⟨PE.weak (pe_callTy hc hg hm hv ha.run hn hdb he hpl) fun σ H Q hq => ?_⟩
  obtain ⟨Z, ρ, r, q⟩ := hq
  refine tVs_bind (P := fun Z H o => PostO X.K (He.ga X.K) W Z H σ o Q) r (fun _ _ _ z => z) (fun z => z) q fun ds vs Z1 H1 fp ex g1 dn q => ?_
  have q := PostO.gr q g1
  match ec : op ds with
  | some d => rw [ec] at q; exact hk Z1 H1 ds d vs fp Q g1.s dn ec q
  | none => rw [ec] at q; exact q.elim
theorem DB.ix (ha : DB X W a f) (hb : DB X W b g) (hs : PlainIx b := by exact fun _ _ => rfl) : DB X W (.Subscript a b pos) (d2 ixD f g) := by
  refine ⟨PE.weak (pe_ix ix_seq ha.run hb.run hs) fun σ H Q hq => ?_⟩
  obtain ⟨Z, ρ, r, q⟩ := hq
  refine tV_bind (P := fun Z H o => PostOB X.K (He.ga X.K) W Z H σ o Q) r (fun _ _ _ z => z) (fun z => z) q fun x v Z1 H1 fx ex g1 dx q => ?_
  refine tV_bind (P := fun Z H o => PostOB X.K (He.ga X.K) W Z H σ o Q) (r.gr g1) (fun _ _ _ z => z) (fun z => z) (q.gr g1) fun y u Z2 H2 fy ey g2 dy q => ?_
  have q := PostOB.gr q g2
  match e : ixD x y with
  | some d =>
    rw [e] at q
    exact op_ixD Z2 H2 x y d v u fx fy Q g2.s (g2.den dx) dy e q
  | none => rw [e] at q; exact q.elim
def pNone : Env → Ou (Option Int) := fun _ => .ok none
def pSome (f : Env → Ou D) : Env → Ou (Option Int) := fun ρ => f ρ >>= fun d => match d with
  | .int i => .ok (some i)
  | _ => .bad
def dSl (f : Env → Ou D) (lo hi : Env → Ou (Option Int)) : Env → Ou D := fun ρ => f ρ >>= fun d => lo ρ >>= fun l => hi ρ >>= fun h => ofO (slD d l h)
def PostP (K : PySem.W.Frag) (cl : Str → Addr) (W : WX) (Z H : Hp) (σ : L2.St) (o : Ou (Option Int)) (Q : Option Int → Hp → Prop) : Prop := match o with
  | .ok b => ∀ Z' H', Gr Z H Z' H' → Q b H'
  | .ex c ns xs => PostX K cl W Z H σ c ns xs
  | .bad => False
structure DO (X : Cx) (W : WX) (e : Option Expr) (f : Env → Ou (Option Int)) : Prop where
  run : PO X e (fun σ H Q => ∃ Z ρ, RelS X.K (He.ga X.K) Z H σ ρ ∧ PostP X.K (He.ga X.K) W Z H σ (f ρ) Q)
theorem PO.weak {e : Option Expr} {t t' : TO} (h : PO X e t) (k : ∀ σ H Q, t' σ H Q → t σ H Q) : PO X e t' := ⟨fun pins s σ H Q I q => h.run pins s σ H Q I (k σ H Q q)⟩
theorem DO.none : DO X W none pNone := ⟨PO.weak po_none fun σ H Q ⟨Z, ρ, r, q⟩ => q Z H (Gr.refl r.s)⟩
theorem DO.some (h : DB X W e f) : DO X W (some e) (pSome f) := by
  refine ⟨PO.weak (po_some h.run) fun σ H Q hq => ?_⟩
  obtain ⟨Z, ρ, r, q⟩ := hq
  refine tV_bind (P := fun Z H o => PostP X.K (He.ga X.K) W Z H σ o Q) r (fun _ _ _ z => z) (fun z => z) q fun x v Z1 H1 fx ex g1 dx q => ?_
  cases x with
  | int i => rw [dx.1]; exact ⟨i, rfl, q Z1 H1 g1⟩
  | _ => exact q.elim
theorem DE.slice {lo hi : Option Expr} {l h : Env → Ou (Option Int)} {p2 : Pos} (ha : DB X W a f) (hl : DO X W lo l) (hh : DO X W hi h) : DE X W (.Subscript a (.Slice lo hi Option.none p2) pos) (dSl f l h) := by
  refine ⟨PE.weak (pe_slice sl_any ha.run hl.run hh.run) fun σ H Q hq => ?_⟩
  obtain ⟨Z, ρ, r, q⟩ := hq
  refine tV_bind (P := fun Z H o => PostO X.K (He.ga X.K) W Z H σ o Q) r (fun _ _ _ z => z) (fun z => z) q fun x v Z1 H1 fx ex g1 dx q => ?_
  have q := PostO.gr q g1
  refine ⟨Z1, ρ, r.gr g1, ?_⟩
  match e1 : l ρ with
  | .ok i =>
    rw [e1] at q
    intro Z2 H2 g2
    have q := PostO.gr q g2
    refine ⟨Z2, ρ, (r.gr g1).gr g2, ?_⟩
    match e2 : h ρ with
    | .ok j =>
      rw [e2] at q
      intro Z3 H3 g3
      have q := PostO.gr q g3
      match e3 : slD x i j with
      | .some d =>
        have q : PostO X.K (He.ga X.K) W Z3 H3 σ (ofO (slD x i j)) Q := q
        rw [e3] at q
        exact op_slD g3.s (g3.den (g2.den dx)) e3 q
      | .none =>
        have q : PostO X.K (He.ga X.K) W Z3 H3 σ (ofO (slD x i j)) Q := q
        rw [e3] at q
        exact q.elim
    | .ex c ns xs => rw [e2] at q; exact q
    | .bad => rw [e2] at q; exact q.elim
  | .ex c ns xs => rw [e1] at q; exact q
  | .bad => rw [e1] at q; exact q.elim
def revD : D → Option D
  | .lst _ xs => if D.fzs xs then .some (.lst true xs.reverse) else .none
  | _ => .none
theorem DE.rev {k : Nat} {p1 p2 p3 : Pos} (ha : DB X W a f) : DE X W (.Subscript a (.Slice Option.none Option.none (.some (.UnaryOp .USub (.Constant (.int 1) k p1) p2)) p3) pos) (d1 revD f) := by
  refine ⟨PE.weak (pe_revL ha.run) fun σ H Q hq => ?_⟩
  obtain ⟨Z, ρ, r, q⟩ := hq
  refine tV_bind (P := fun Z H o => PostO X.K (He.ga X.K) W Z H σ o Q) r (fun _ _ _ z => z) (fun z => z) q fun x v Z1 H1 fx ex g1 dx q => ?_
  have q := PostO.gr q g1
  cases x with
  | lst o xs =>
    by_cases c : D.fzs xs = true
    · have e : revD (.lst o xs) = .some (.lst true xs.reverse) := if_pos c
      rw [e] at q
      obtain ⟨a, vs, f, rfl, qa, rr, _⟩ := dx.lstH g1.s
      exact ⟨a, vs, rfl, .inl (.inl qa), fun p hp => PostV.lst0 q g1.s (rr.fz0 c).reverse p hp⟩
    · have e : revD (.lst o xs) = Option.none := if_neg c
      rw [e] at q
      exact q.elim
  | _ => exact q.elim
end
end DL
namespace DL
open PySem PySem.Spec PyProof.Rows L2
variable [Tb]
inductive Os where
  | nx (ρ : Env)
  | rt (d : D)
  | bk (ρ : Env)
  | ct (ρ : Env)
  | ex (c : Str) (ns : List Str) (xs : List D) (ρ : Env)
  | bad
def ofU {α : Type} (o : Ou α) (ρ : Env) (k : α → Os) : Os := match o with
  | .ok a => k a
  | .ex c ns xs => .ex c ns xs ρ
  | .bad => .bad
@[simp] theorem ofU_ok {α : Type} (a : α) (ρ : Env) (k : α → Os) : ofU (.ok a) ρ k = k a := (rfl)
@[simp] theorem ofU_ex {α : Type} (c : Str) (ns : List Str) (xs : List D) (ρ : Env) (k : α → Os) : ofU (.ex c ns xs) ρ k = .ex c ns xs ρ := (rfl)
@[simp] theorem ofU_bad {α : Type} (ρ : Env) (k : α → Os) : ofU (.bad : Ou α) ρ k = .bad := (rfl)
def frzH (Z H : Hp) (fp : Fp) : Hp := fun a => if a ∈ fp then H a else Z a
def cutH (H : Hp) (fp : Fp) : Hp := fun a => if a ∈ fp then none else H a
section
variable (K : PySem.W.Frag) (cl : Str → Addr)
structure Sta (Z0 H0 Z H : Hp) (σ : L2.St) (ρ : Env) : Prop where
  g : Gr Z0 H0 Z H
  t : TabsK K Z
  e : ∃ fp, Slots K cl Z H ρ σ fp ∧ fp.Nodup ∧ ∀ a ∈ fp, H0 a = none
def PostS (W : WX) (Z0 H0 : Hp) (E : Ends) (r : Os) : Prop := match r with
  | .nx ρ => ∀ σ Z H, Sta K cl Z0 H0 Z H σ ρ → E.nx σ H
  | .rt d => ∀ v Z H fp, Gr Z0 H0 Z H → Den K cl Z H d v fp → fp.Nodup → (∀ a ∈ fp, H0 a = none) → E.rt v H
  | .bk ρ => ∀ σ Z H, Sta K cl Z0 H0 Z H σ ρ → E.bk σ H
  | .ct ρ => ∀ σ Z H, Sta K cl Z0 H0 Z H σ ρ → E.ct σ H
  | .ex c ns xs ρ => ∀ dc σ Z H, Sta K cl Z0 H0 Z H σ ρ → ExD K cl Z H ns xs dc → W (.ref (cl c)) dc σ H
  | .bad => False
def tS (W : WX) (Z0 H0 : Hp) (g : Env → Os) : TS := fun E σ H => ∃ Z ρ, Sta K cl Z0 H0 Z H σ ρ ∧ PostS K cl W Z0 H0 E (g ρ)
end
section
variable {K : PySem.W.Frag} {cl : Str → Addr} {Z H Z' H' Z0 H0 Z1 H1 : Hp} {σ : L2.St} {ρ : Env} {W : WX}
theorem Sta.rel (s : Sta K cl Z0 H0 Z H σ ρ) : RelS K cl Z H σ ρ := let ⟨fp, h, nd, _⟩ := s.e; ⟨s.g.s, s.t, fp, h, nd⟩
theorem Sta.gr (s : Sta K cl Z0 H0 Z H σ ρ) (g : Gr Z H Z' H') : Sta K cl Z0 H0 Z' H' σ ρ := by
  obtain ⟨fp, h, nd, fr⟩ := s.e
  exact ⟨s.g.trans g, s.t.ex g.z, fp, Slots.mono g.z (fun a ha => by
    obtain ⟨z, xs, q⟩ := Slots.own h a ha
    exact ⟨g.n a (by rw [q]; exact Option.some_ne_none _) z, by rw [q]; exact g.h.l q⟩) h, nd, fr⟩
theorem Sta.unbase (g : Gr Z0 H0 Z1 H1) (s : Sta K cl Z1 H1 Z H σ ρ) : Sta K cl Z0 H0 Z H σ ρ := by
  obtain ⟨fp, h, nd, fr⟩ := s.e
  exact ⟨g.trans s.g, s.t, fp, h, nd, fun a ha => g.h.back (fr a ha)⟩
theorem PostS.unbase {E : Ends} {r : Os} (g : Gr Z0 H0 Z1 H1) (q : PostS K cl W Z0 H0 E r) : PostS K cl W Z1 H1 E r := by
  cases r with
  | nx ρ => exact fun σ Z H s => q σ Z H (s.unbase g)
  | rt d => exact fun v Z H fp g1 h nd fr => q v Z H fp (g.trans g1) h nd fun a ha => g.h.back (fr a ha)
  | bk ρ => exact fun σ Z H s => q σ Z H (s.unbase g)
  | ct ρ => exact fun σ Z H s => q σ Z H (s.unbase g)
  | ex c ns xs ρ => exact fun dc σ Z H s h => q dc σ Z H (s.unbase g) h
  | bad => exact q
theorem Sta.rebase (s : Sta K cl Z0 H0 Z H σ ρ) : ∃ Hl, Gr Z0 H0 Z Hl ∧ Sta K cl Z Hl Z H σ ρ ∧ Ex Hl H ∧ (∀ a, Hl a = none → H a ≠ none → Z a = none) := by
  obtain ⟨fp, h, nd, fr⟩ := s.e
  have zo : ∀ a ∈ fp, Z a = none := fun a ha => (Slots.own h a ha).1
  have lo : ∀ a ∈ fp, ∃ xs : Mo, H a = some xs.o := fun a ha => (Slots.own h a ha).2
  have cut : ∀ {Y : Hp}, Ex Y H → (∀ a ∈ fp, Y a = none) → Ex Y (cutH H fp) := fun {Y} e k => e.chg fun a => by
    by_cases m : a ∈ fp
    · exact .inr ⟨k a m, lo a m⟩
    · exact .inl (if_neg m)
  have sub : Ex (cutH H fp) H := .sub fun a o e => by
    unfold cutH at e
    split at e
    · cases e
    · exact e
  refine ⟨cutH H fp, ⟨s.g.z, cut s.g.h fr, cut s.g.s zo, s.g.n⟩, ⟨⟨Ex.refl _, sub, s.g.s, fun _ _ z => z⟩, s.t, fp, h, nd, fun a ha => if_pos ha⟩, sub, fun a e1 e2 => ?_⟩
  unfold cutH at e1
  split at e1
  · rename_i hm; exact zo a hm
  · exact absurd e1 e2
theorem frzH_ex {fp : Fp} (own : ∀ a ∈ fp, Z a = none) : Ex Z (frzH Z H fp) := .sub fun a o e => by
  have na : a ∉ fp := fun hm => by rw [own a hm] at e; cases e
  exact (if_neg na).trans e
theorem frzH_to {fp : Fp} (s : Ex Z H) (lo : ∀ a ∈ fp, ∃ xs : Mo, H a = some xs.o) : Ex (frzH Z H fp) H := by
  have in_ : ∀ {a}, a ∈ fp → frzH Z H fp a = H a := fun m => if_pos m
  have out : ∀ {a}, a ∉ fp → frzH Z H fp a = Z a := fun m => if_neg m
  refine ⟨fun a o n e => ?_, fun a e => ?_, fun P q m h => s.tab P q m ?_⟩
  · by_cases m : a ∈ fp
    · rw [in_ m] at e; exact e
    · rw [out m] at e; exact s.at_ a o n e
  · by_cases m : a ∈ fp
    · rw [in_ m] at e; exact e
    · rw [out m] at e; exact s.ne a e
  · obtain ⟨ps, h1, h2, h3⟩ := h
    have nP : P ∉ fp := fun m => by
      obtain ⟨xs, z⟩ := lo P m
      rw [in_ m, z] at h1; exact Mo.nTbl h1.symm
    refine ⟨ps, by rw [out nP] at h1; exact h1, h2, fun pos cv hc => ?_⟩
    obtain ⟨c, e1, e2⟩ := h3 pos cv hc
    refine ⟨c, e1, ?_⟩
    have nc : c ∉ fp := fun m => by
      obtain ⟨xs, z⟩ := lo c m
      rw [in_ m, z] at e2; exact Mo.nCode' e2.symm
    rw [out nc] at e2; exact e2
theorem Gr.frz (g : Gr Z H Z' H') {fp : Fp} (own : ∀ a ∈ fp, Z' a = none) (fr : ∀ a ∈ fp, H a = none) (lo : ∀ a ∈ fp, ∃ xs : Mo, H' a = some xs.o) : Gr Z H (frzH Z' H' fp) H' := by
  refine ⟨g.z.trans (frzH_ex own), g.h, frzH_to g.s lo, fun a h1 h2 => ?_⟩
  have na : a ∉ fp := fun hm => h1 (fr a hm)
  exact (if_neg na).trans (g.n a h1 h2)
theorem Slots.split : ∀ {ρ : Env} {σ : L2.St} {fp : Fp} {i : Nat} {d : D}, Slots K cl Z H ρ σ fp → ρ[i]? = some (some d) →
    ∃ (v : V) (f rest : Fp), σ[i]? = some (some v) ∧ Den K cl Z H d v f ∧ fp.Perm (f ++ rest) ∧
      ∀ (Y H' : Hp) (d' : D) (f' : Fp), Ex Z Y → (∀ a ∈ rest, Y a = none ∧ H' a = H a) → Den K cl Y H' d' v f' → ∃ fp', Slots K cl Y H' (ρ.set i (some d')) σ fp' ∧ fp'.Perm (f' ++ rest)
  | [], _, _, _, _, _, e => by simp at e
  | none :: ρ, σ, fp, 0, d, h, e => by simp at e
  | none :: ρ, σ, fp, i + 1, d, h, e => by
    obtain ⟨o, σ', e1, r⟩ := h
    subst e1
    obtain ⟨v, f, rest, h1, h2, h3, h4⟩ := Slots.split (i := i) r (by simpa using e)
    refine ⟨v, f, rest, by simpa using h1, h2, h3, fun Y H' d' f' ey k q => ?_⟩
    obtain ⟨fp', a1, a2⟩ := h4 Y H' d' f' ey k q
    exact ⟨fp', ⟨o, σ', rfl, a1⟩, a2⟩
  | some x :: ρ, σ, fp, 0, d, h, e => by
    obtain ⟨v, σ', f1, f2, e1, e2, q, r⟩ := h
    have e' : x = d := by simpa using e
    subst e' e1 e2
    exact ⟨v, f1, f2, rfl, q, List.Perm.refl _, fun Y H' d' f' ey k q' => ⟨f' ++ f2, ⟨v, σ', f', f2, rfl, rfl, q', Slots.mono ey k r⟩, List.Perm.refl _⟩⟩
  | some x :: ρ, σ, fp, i + 1, d, h, e => by
    obtain ⟨v, σ', f1, f2, e1, e2, q, r⟩ := h
    subst e1 e2
    obtain ⟨u, f, rest, h1, h2, h3, h4⟩ := Slots.split (i := i) r (by simpa using e)
    have pp : ∀ (f' f2' : Fp), f2'.Perm (f' ++ rest) → (f1 ++ f2').Perm (f' ++ (f1 ++ rest)) := fun f' f2' p => by
      refine (List.Perm.append_left f1 p).trans ?_
      rw [← List.append_assoc, ← List.append_assoc]
      exact List.Perm.append_right rest List.perm_append_comm
    refine ⟨u, f, f1 ++ rest, by simpa using h1, h2, pp f f2 h3, fun Y H' d' f' ey k q' => ?_⟩
    obtain ⟨fp', a1, a2⟩ := h4 Y H' d' f' ey (fun a ha => k a (List.mem_append_right _ ha)) q'
    exact ⟨f1 ++ fp', ⟨v, σ', f1, fp', rfl, rfl, Den.mono ey x v f1 (fun a ha => k a (List.mem_append_left _ ha)) q, a1⟩, pp f' fp' a2⟩
theorem Dens.split : ∀ {ds : List D} {vs : List V} {fp : Fp} {i : Nat} {d : D}, Dens K cl Z H ds vs fp → ds[i]? = some d →
    ∃ (v : V) (f rest : Fp), vs[i]? = some v ∧ Den K cl Z H d v f ∧ fp.Perm (f ++ rest) ∧
      ∀ (Y H' : Hp) (d' : D) (v' : V) (f' : Fp), Ex Z Y → (∀ a ∈ rest, Y a = none ∧ H' a = H a) → Den K cl Y H' d' v' f' → ∃ fp', Dens K cl Y H' (ds.set i d') (vs.set i v') fp' ∧ fp'.Perm (f' ++ rest)
  | [], _, _, _, _, _, e => by simp at e
  | x :: ds, vs, fp, 0, d, h, e => by
    obtain ⟨v, vr, f1, f2, e1, e2, q, r⟩ := h.cons'
    have e' : x = d := by simpa using e
    subst e' e1 e2
    exact ⟨v, f1, f2, rfl, q, List.Perm.refl _, fun Y H' d' v' f' ey k q' => ⟨f' ++ f2, Dens.cons q' (Dens.mono ey ds vr f2 k r), List.Perm.refl _⟩⟩
  | x :: ds, vs, fp, i + 1, d, h, e => by
    obtain ⟨v, vr, f1, f2, e1, e2, q, r⟩ := h.cons'
    subst e1 e2
    obtain ⟨u, f, rest, h1, h2, h3, h4⟩ := Dens.split (i := i) r (by simpa using e)
    have pp : ∀ (f' f2' : Fp), f2'.Perm (f' ++ rest) → (f1 ++ f2').Perm (f' ++ (f1 ++ rest)) := fun f' f2' p => by
      refine (List.Perm.append_left f1 p).trans ?_
      rw [← List.append_assoc, ← List.append_assoc]
      exact List.Perm.append_right rest List.perm_append_comm
    refine ⟨u, f, f1 ++ rest, by simpa using h1, h2, pp f f2 h3, fun Y H' d' v' f' ey k q' => ?_⟩
    obtain ⟨fp', a1, a2⟩ := h4 Y H' d' v' f' ey (fun a ha => k a (List.mem_append_right _ ha)) q'
    exact ⟨f1 ++ fp', Dens.cons (Den.mono ey x v f1 (fun a ha => k a (List.mem_append_left _ ha)) q) a1, pp f' fp' a2⟩
end
structure DS (X : Cx) (W : WX) (st : Stmt) (g : Env → Os) : Prop where
  run : ∀ Z0 H0, PS X st (tS X.K (He.ga X.K) W Z0 H0 g)
structure DSs (X : Cx) (W : WX) (st : List Stmt) (g : Env → Os) : Prop where
  run : ∀ Z0 H0, PSs X st (tS X.K (He.ga X.K) W Z0 H0 g)
theorem PS.weak {X : Cx} {st : Stmt} {t t' : TS} (h : PS X st t) (k : ∀ E σ H, t' E σ H → t E σ H) : PS X st t' := ⟨fun pins s σ H E I q => h.run pins s σ H E I (k E σ H q)⟩
theorem PSs.weak {X : Cx} {st : List Stmt} {t t' : TS} (h : PSs X st t) (k : ∀ E σ H, t' E σ H → t E σ H) : PSs X st t' := ⟨fun pins s σ H E I q => h.run pins s σ H E I (k E σ H q)⟩
def sNil : Env → Os := fun ρ => .nx ρ
def andThen (r : Os) (h : Env → Os) : Os := match r with
  | .nx ρ => h ρ
  | .rt d => .rt d
  | .bk ρ => .bk ρ
  | .ct ρ => .ct ρ
  | .ex c ns xs ρ => .ex c ns xs ρ
  | .bad => .bad
@[simp] theorem andThen_nx (ρ : Env) (h : Env → Os) : andThen (.nx ρ) h = h ρ := (rfl)
@[simp] theorem andThen_rt (d : D) (h : Env → Os) : andThen (.rt d) h = .rt d := (rfl)
@[simp] theorem andThen_bk (ρ : Env) (h : Env → Os) : andThen (.bk ρ) h = .bk ρ := (rfl)
@[simp] theorem andThen_ct (ρ : Env) (h : Env → Os) : andThen (.ct ρ) h = .ct ρ := (rfl)
@[simp] theorem andThen_ex (c : Str) (ns : List Str) (xs : List D) (ρ : Env) (h : Env → Os) : andThen (.ex c ns xs ρ) h = .ex c ns xs ρ := (rfl)
@[simp] theorem andThen_bad (h : Env → Os) : andThen .bad h = .bad := (rfl)
def sSeq (g h : Env → Os) : Env → Os := fun ρ => andThen (g ρ) h
def sDrop (f : Env → Ou D) : Env → Os := fun ρ => ofU (f ρ) ρ fun _ => .nx ρ
def sRet (f : Env → Ou D) : Env → Os := fun ρ => ofU (f ρ) ρ fun d => .rt d
def sRetV (i : Nat) : Env → Os := fun ρ => match ρ[i]? with
  | some (some d) => .rt d
  | _ => .bad
def sIf (c : Env → Ou Bool) (g h : Env → Os) : Env → Os := fun ρ => ofU (c ρ) ρ fun b => if b then g ρ else h ρ
def sSet (i : Nat) (f : Env → Ou D) : Env → Os := fun ρ => ofU (f ρ) ρ fun d => if i < ρ.length then .nx (ρ.set i (some d)) else .bad
def sFrz (i : Nat) (g : Env → Os) : Env → Os := fun ρ => match ρ[i]? with
  | some (some d) => g (ρ.set i (some d.frz))
  | _ => g ρ
def sAug (i : Nat) (op : D → D → Option D) (f : Env → Ou D) : Env → Os := fun ρ => match ρ[i]? with
  | some (some x) => ofU (f ρ) ρ fun y => match op x y with
    | some d => .nx (ρ.set i (some d))
    | none => .bad
  | _ => .bad
def sBrk : Env → Os := fun ρ => .bk ρ
def sCont : Env → Os := fun ρ => .ct ρ
def sApp (i : Nat) (f : Env → Ou D) : Env → Os := fun ρ => match ρ[i]? with
  | some (some (.lst true xs)) => ofU (f ρ) ρ fun d => if xs.length < LIM then .nx (ρ.set i (some (.lst true (xs ++ [d])))) else .bad
  | _ => .bad
section
variable {X : Cx} {W : WX} {st : Stmt} {rest : List Stmt} {a b e c : Expr} {f : Env → Ou D} {g h : Env → Os} {p : Env → Ou Bool} {pos : Pos}
theorem DSs.nil : DSs X W [] sNil := ⟨fun Z0 H0 => PSs.weak pss_nil fun E σ H ⟨Z, ρ, s, q⟩ => q σ Z H s⟩
theorem DSs.cons (h1 : DS X W st g) (h2 : DSs X W rest h) : DSs X W (st :: rest) (sSeq g h) := by
  refine ⟨fun Z0 H0 => PSs.weak (pss_cons (h1.run Z0 H0) (h2.run Z0 H0)) fun E σ H hq => ?_⟩
  obtain ⟨Z, ρ, s, q⟩ := hq
  refine ⟨Z, ρ, s, ?_⟩
  unfold sSeq at q
  cases e : g ρ with
  | nx ρ' =>
    rw [e] at q
    exact fun σ' Z' H' s' => ⟨Z', ρ', s', q⟩
  | rt d => rw [e] at q; exact q
  | bk ρ' => rw [e] at q; exact q
  | ct ρ' => rw [e] at q; exact q
  | ex c ns xs ρ' => rw [e] at q; exact q
  | bad => rw [e] at q; exact q
theorem DSs.one (h1 : DS X W st g) : DSs X W [st] g := ⟨fun Z0 H0 => pss_one (h1.run Z0 H0)⟩
theorem DS.brk : DS X W (.Break pos) sBrk := ⟨fun Z0 H0 => PS.weak ps_break fun E σ H ⟨Z, ρ, s, q⟩ => q σ Z H s⟩
theorem DS.cont : DS X W (.Continue pos) sCont := ⟨fun Z0 H0 => PS.weak ps_continue fun E σ H ⟨Z, ρ, s, q⟩ => q σ Z H s⟩
theorem DS.drop (he : DB X W e f) (hs : swapsWith e none pos.line X.env = pure false := by rfl) : DS X W (.Expr e pos) (sDrop f) := by
  refine ⟨fun Z0 H0 => PS.weak (ps_expr he.run hs) fun E σ H hq => ?_⟩
  obtain ⟨Z, ρ, s, q⟩ := hq
  refine ⟨Z, ρ, s.rel, ?_⟩
  unfold sDrop at q
  cases ec : f ρ with
  | ok d => rw [ec] at q; exact fun v Z' H' fp g1 dn => q σ Z' H' (s.gr g1)
  | ex c ns xs => rw [ec] at q; exact fun dc Z' H' g1 x => q dc σ Z' H' (s.gr g1) x
  | bad => rw [ec] at q; exact q
theorem DS.ret (he : DE X W e f) : DS X W (.Return (some e) pos) (sRet f) := by
  refine ⟨fun Z0 H0 => PS.weak (ps_ret he.run) fun E σ H hq => ?_⟩
  obtain ⟨Z, ρ, s, q⟩ := hq
  refine ⟨Z, ρ, s.rel, ?_⟩
  unfold sRet at q
  cases ec : f ρ with
  | ok d => rw [ec] at q; exact fun v Z' H' fp g1 dn nd fr => q v Z' H' fp (s.g.trans g1) dn nd fun a ha => s.g.h.back (fr a ha)
  | ex c ns xs => rw [ec] at q; exact fun dc Z' H' g1 x => q dc σ Z' H' (s.gr g1) x
  | bad => rw [ec] at q; exact q
theorem DS.retV (i : Nat) {x : Str} {p : Pos} (hN : X.N[i]? = some x := by rfl) (hv : Vis X.env.scope x := by first | exact Or.inl rfl | exact Or.inr (Or.inl rfl) | exact Or.inr (Or.inr rfl)) (hd : (x == ("__debug__" : Str)) = false := by decide)
    (hcd : (x == ("__classdict__" : Str)) = false := by decide) : DS X W (.Return (some (.Name x p)) pos) (sRetV i) := by
  refine ⟨fun Z0 H0 => PS.weak (ps_ret (pv i hN hv hd hcd)) fun E σ H hq => ?_⟩
  obtain ⟨Z, ρ, s, q⟩ := hq
  obtain ⟨fp, sl, nd, fr⟩ := s.e
  unfold sRetV at q
  match e : ρ[i]? with
  | some (some d) =>
    rw [e] at q
    obtain ⟨v, f, h1, h2, h3⟩ := Slots.get sl e
    exact ⟨v, h1, q v Z H f s.g h2 (h3.nodup nd) fun a ha => fr a (h3.subset ha)⟩
  | some none => rw [e] at q; exact q.elim
  | none => rw [e] at q; exact q.elim
theorem DS.if_ (hc : DT X W c p) (ha : DSs X W rest g) {els : List Stmt} (hb : DSs X W els h) : DS X W (.If c rest els pos) (sIf p g h) := by
  refine ⟨fun Z0 H0 => PS.weak (ps_if hc.run (ha.run Z0 H0) (hb.run Z0 H0)) fun E σ H hq => ?_⟩
  obtain ⟨Z, ρ, s, q⟩ := hq
  refine ⟨Z, ρ, s.rel, ?_⟩
  unfold sIf at q
  cases ec : p ρ with
  | ok d =>
    rw [ec] at q
    intro Z' H' g1
    cases d with
    | true => exact ⟨Z', ρ, s.gr g1, q⟩
    | false => exact ⟨Z', ρ, s.gr g1, q⟩
  | ex c ns xs => rw [ec] at q; exact fun dc Z' H' g1 x => q dc σ Z' H' (s.gr g1) x
  | bad => rw [ec] at q; exact q
theorem Sta.set {K : PySem.W.Frag} {cl : Str → Addr} {Z0 H0 Z H Z' H' : Hp} {σ : L2.St} {ρ : Env} {d : D} {v : V} {fp : Fp} {i : Nat} (s : Sta K cl Z0 H0 Z H σ ρ) (g1 : Gr Z H Z' H') (dn : Den K cl Z' H' d v fp) (nd : fp.Nodup) (fr : ∀ a ∈ fp, H a = none) (hi : i < ρ.length) :
    Sta K cl Z0 H0 Z' H' (σ.set i (some v)) (ρ.set i (some d)) := by
  have s1 := s.gr g1
  obtain ⟨fq, sl, n0, f0⟩ := s1.e
  obtain ⟨fp0, sl0, _, _⟩ := s.e
  obtain ⟨fq1, sl1, n1, f1⟩ := s.e
  have dj : ∀ a ∈ fp, a ∉ fq1 := fun a ha hb => by
    obtain ⟨_, xs, e⟩ := Slots.own sl1 a hb
    rw [fr a ha] at e; cases e
  have sl2 : Slots K cl Z' H' ρ σ fq1 := Slots.mono g1.z (fun a ha => by
    obtain ⟨z, xs, q⟩ := Slots.own sl1 a ha
    exact ⟨g1.n a (by rw [q]; exact Option.some_ne_none _) z, by rw [q]; exact g1.h.l q⟩) sl1
  obtain ⟨fp', a1, a2, a3⟩ := Slots.set (i := i) sl2 n1 dn nd dj hi
  refine ⟨s1.g, s1.t, fp', a1, a2, fun a ha => ?_⟩
  rcases a3 a ha with z | z
  · exact f1 a z
  · exact s.g.h.back (fr a z)
theorem DS.set (i : Nat) {x : Str} {pos' : Pos} (he : DE X W e f) (hN : X.N.Nodup) (hi : X.N[i]? = some x := by rfl) (hx : Loc X.env.scope x := by first | exact Or.inl rfl | exact Or.inr rfl) (hs : swapsWith e (some (.Name x pos')) pos.line X.env = pure false := by rfl)
    (hf : X.fn x = true ∨ X.env.scope.names.lookup x = some .local := by first | exact .inl rfl | exact .inr rfl | assumption) : DS X W (.Assign [.Name x pos'] e pos) (sSet i f) := by
  refine ⟨fun Z0 H0 => PS.weak (ps_set (i := i) hN hi hx he.run hs hf) fun E σ H hq => ?_⟩
  obtain ⟨Z, ρ, s, q⟩ := hq
  refine ⟨Z, ρ, s.rel, ?_⟩
  unfold sSet at q
  cases ec : f ρ with
  | ok d =>
    rw [ec] at q
    intro v Z' H' fp g1 dn nd fr
    have q : PostS X.K (He.ga X.K) W Z0 H0 E (if i < ρ.length then .nx (ρ.set i (some d)) else .bad) := q
    by_cases c : i < ρ.length
    · rw [if_pos c] at q
      exact q _ Z' H' (s.set g1 dn nd fr c)
    · rw [if_neg c] at q; exact q.elim
  | ex c ns xs => rw [ec] at q; exact fun dc Z' H' g1 x => q dc σ Z' H' (s.gr g1) x
  | bad => rw [ec] at q; exact q
theorem Sta.frz {K : PySem.W.Frag} {cl : Str → Addr} {Z0 H0 Z H : Hp} {σ : L2.St} {ρ : Env} {d : D} {i : Nat} (s : Sta K cl Z0 H0 Z H σ ρ) (e : ρ[i]? = some (some d)) : ∃ Z', Sta K cl Z0 H0 Z' H σ (ρ.set i (some d.frz)) := by
  obtain ⟨fp, sl, nd, fr⟩ := s.e
  obtain ⟨v, f, rest, h1, h2, h3, h4⟩ := sl.split e
  have hm : ∀ a ∈ f, a ∈ fp := fun a ha => h3.symm.mem_iff.mp (List.mem_append_left _ ha)
  have zo : ∀ a ∈ f, Z a = none := fun a ha => (Slots.own sl a (hm a ha)).1
  have nd2 : (f ++ rest).Nodup := h3.nodup_iff.mp nd
  have ez : Ex Z (frzH Z H f) := frzH_ex zo
  have es : Ex (frzH Z H f) H := frzH_to s.g.s fun a ha => (Slots.own sl a (hm a ha)).2
  obtain ⟨fp', k1, k2⟩ := h4 (frzH Z H f) H d.frz [] ez (fun a ha => ⟨by
    have na : a ∉ f := fun hb => (List.nodup_append.mp nd2).2.2 a hb a ha rfl
    exact (if_neg na).trans (Slots.own sl a (h3.symm.mem_iff.mp (List.mem_append_right _ ha))).1, rfl⟩) (Den.freeze ez d v f (fun a ha => if_pos ha) h2)
  refine ⟨frzH Z H f, ?_, s.t.ex ez, fp', k1, ?_, fun a ha => ?_⟩
  · refine ⟨s.g.z.trans ez, s.g.h, es, fun a h1 h2 => ?_⟩
    have na : a ∉ f := fun hb => h1 (fr a (hm a hb))
    exact (if_neg na).trans (s.g.n a h1 h2)
  · refine k2.symm.nodup_iff.mp ?_
    exact (List.nodup_append.mp nd2).2.1
  · have := k2.mem_iff.mp ha
    exact fr a (h3.symm.mem_iff.mp (List.mem_append_right _ (by simpa using this)))
end
end DL
namespace DL
open PySem PySem.Spec PyProof.Rows L2
variable [Tb]
section
variable {K : PySem.W.Frag} {cl : Str → Addr} {Z H Z' H' Z0 H0 Z1 H1 : Hp} {σ : L2.St} {ρ : Env} {W : WX}
theorem Gr.own (g : Gr Z H Z1 H1) {b : Addr} (z : Z b = none) (q : ∃ xs : Mo, H b = some xs.o) : Z1 b = none ∧ H1 b = H b := by
  obtain ⟨xs, q⟩ := q
  exact ⟨g.n b (by rw [q]; exact Option.some_ne_none _) z, by rw [q]; exact g.h.l q⟩
theorem Sta.list {i : Nat} {xs : List D} (s : Sta K cl Z0 H0 Z H σ ρ) (e : ρ[i]? = some (some (.lst true xs))) :
    ∃ (a : Addr) (vs : List V) (fq rest : Fp), σ[i]? = some (some (.ref a)) ∧ H a = some (.lst vs) ∧ Dens K cl Z H xs vs fq ∧ (a :: (fq ++ rest)).Nodup ∧ (∀ b ∈ a :: (fq ++ rest), H b ≠ none ∧ H0 b = none ∧ Z b = none) ∧
      ∀ (Z1 H1 : Hp) (vs' : List V) (ds' : List D) (fq' : Fp), Gr Z H Z1 H1 → fq'.Nodup → (∀ b ∈ fq', b ≠ a ∧ b ∉ rest ∧ H0 b = none) → Dens K cl Z1 (upd H1 a (.lst vs')) ds' vs' fq' → Sta K cl Z0 H0 Z1 (upd H1 a (.lst vs')) σ (ρ.set i (some (.lst true ds'))) := by
  obtain ⟨fp, sl, nd, fr⟩ := s.e
  obtain ⟨v, f, rest, h1, h2, h3, h4⟩ := sl.split e
  simp only [Den] at h2
  obtain ⟨a, vs, fq, e1, e2, za, q, r⟩ := h2
  subst e1 e2
  have nd2 : (a :: (fq ++ rest)).Nodup := h3.nodup_iff.mp nd
  have mm : ∀ b ∈ a :: (fq ++ rest), b ∈ fp := fun b hb => h3.symm.mem_iff.mp hb
  have ow : ∀ b ∈ a :: (fq ++ rest), Z b = none ∧ ∃ xs : Mo, H b = some xs.o := fun b hb => Slots.own sl b (mm b hb)
  refine ⟨a, vs, fq, rest, h1, q, r, nd2, fun b hb => ?_, fun Z1 H1 vs' ds' fq' g nf dj dn => ?_⟩
  · obtain ⟨z, xs, q'⟩ := ow b hb
    exact ⟨by rw [q']; exact Option.some_ne_none _, fr b (mm b hb), z⟩
  · have a1 := g.own za ⟨.l vs, q⟩
    have s1 := s.gr g
    have na : ∀ b ∈ rest, b ≠ a := fun b hb c => by
      have := List.nodup_cons.mp nd2
      exact this.1 (c ▸ List.mem_append_right _ hb)
    have hr : ∀ b ∈ rest, Z1 b = none ∧ upd H1 a (.lst vs') b = H b := fun b hb => by
      obtain ⟨z, q'⟩ := ow b (List.mem_cons_of_mem _ (List.mem_append_right _ hb))
      obtain ⟨b1, b2⟩ := g.own z q'
      exact ⟨b1, by rw [upd_ne (na b hb)]; exact b2⟩
    obtain ⟨fp', k1, k2⟩ := h4 Z1 (upd H1 a (.lst vs')) (.lst true ds') (a :: fq') g.z hr (by
      simp only [Den]
      exact ⟨a, vs', fq', rfl, rfl, a1.1, upd_same, dn⟩)
    have la : ∃ xs : Mo, H1 a = some xs.o := ⟨.l vs, g.h.l q⟩
    refine ⟨⟨s1.g.z, s1.g.h.mut (fr a (mm a List.mem_cons_self)) la, s1.g.s.mut a1.1 la, s1.g.n⟩, s1.t, fp', k1, ?_, fun b hb => ?_⟩
    · refine k2.symm.nodup_iff.mp ?_
      have n3 := List.nodup_cons.mp nd2
      show (a :: (fq' ++ rest)).Nodup
      rw [List.nodup_cons, List.nodup_append]
      refine ⟨fun hm => ?_, nf, (List.nodup_append.mp n3.2).2.1, fun x hx y hy c => (dj x hx).2.1 (c ▸ hy)⟩
      rcases List.mem_append.mp hm with z | z
      · exact (dj a z).1 rfl
      · exact n3.1 (List.mem_append_right _ z)
    · have hb' : b ∈ a :: (fq' ++ rest) := k2.mem_iff.mp hb
      rcases List.mem_cons.mp hb' with z | z
      · subst z; exact fr b (mm b List.mem_cons_self)
      · rcases List.mem_append.mp z with z | z
        · exact (dj b z).2.2
        · exact fr b (mm b (List.mem_cons_of_mem _ (List.mem_append_right _ z)))
theorem Dens.upd {ds : List D} {vs : List V} {fp : Fp} {a : Addr} {o : HO} (h : Dens K cl Z H ds vs fp) (na : a ∉ fp) : Dens K cl Z (L2.upd H a o) ds vs fp :=
  Dens.mono (Ex.refl _) ds vs fp (fun b hb => ⟨(Dens.own ds vs fp h b hb).1, upd_ne fun c => na (c ▸ hb)⟩) h
theorem Den.upd {d : D} {v : V} {fp : Fp} {a : Addr} {o : HO} (h : Den K cl Z H d v fp) (na : a ∉ fp) : Den K cl Z (L2.upd H a o) d v fp :=
  Den.mono (Ex.refl _) d v fp (fun b hb => ⟨(Den.own d v fp h b hb).1, upd_ne fun c => na (c ▸ hb)⟩) h
end
def sAppAt (i : Nat) (g f : Env → Ou D) : Env → Os := fun ρ => match ρ[i]? with
  | some (some (.lst true xs)) => ofU (g ρ) ρ fun k => match k with
    | .int k => match ixN xs.length k with
      | some j => match xs[j]? with
        | some (.lst true ys) => ofU (f ρ) ρ fun d => if ys.length < LIM then .nx (ρ.set i (some (.lst true (xs.set j (.lst true (ys ++ [d])))))) else .bad
        | _ => .bad
      | none => .bad
    | _ => .bad
  | _ => .bad
def sSetAt (i : Nat) (g f : Env → Ou D) : Env → Os := fun ρ => ofU (f ρ) ρ fun d => match ρ[i]? with
  | some (some (.lst true xs)) => ofU (g ρ) ρ fun k => match k with
    | .int k => match ixN xs.length k with
      | some j => .nx (ρ.set i (some (.lst true (xs.set j d))))
      | none => .bad
    | _ => .bad
  | _ => .bad
def sExt (i : Nat) (f : Env → Ou D) : Env → Os := fun ρ => match ρ[i]? with
  | some (some (.lst true xs)) => ofU (f ρ) ρ fun d => match d with
    | .lst _ ys => if D.fzs ys && decide (xs.length + ys.length ≤ LIM) then .nx (ρ.set i (some (.lst true (xs ++ ys)))) else .bad
    | _ => .bad
  | _ => .bad
section
variable {X : Cx} {W : WX} {st : Stmt} {rest : List Stmt} {a b e c : Expr} {f g : Env → Ou D} {k h : Env → Os} {p : Env → Ou Bool} {pos : Pos}
theorem DSs.frz (i : Nat) (h : DSs X W rest k) : DSs X W rest (sFrz i k) := by
  refine ⟨fun Z0 H0 => PSs.weak (h.run Z0 H0) fun E σ H hq => ?_⟩
  obtain ⟨Z, ρ, s, q⟩ := hq
  unfold sFrz at q
  split at q
  · rename_i d ec
    obtain ⟨Z', s'⟩ := s.frz ec
    exact ⟨Z', _, s', q⟩
  · exact ⟨Z, ρ, s, q⟩
theorem DS.ext (i : Nat) {x : Str} {pos' : Pos} (he : DB X W e f) (hN : X.N.Nodup) (hi : X.N[i]? = some x := by rfl) (hx : Loc X.env.scope x := by first | exact Or.inl rfl | exact Or.inr rfl)
    (hf : X.fn x = true ∨ X.env.scope.names.lookup x = some .local := by first | exact .inl rfl | exact .inr rfl | assumption) : DS X W (.AugAssign (.Name x pos') .Add e pos) (sExt i f) := by
  refine ⟨fun Z0 H0 => PS.weak (ps_aug (i := i) (ti := rExt2) hN hi hx he.run (fun pins s σ H x y v u Q I r1 r2 h => iop_ext pins s σ H x y v u Q I r1 r2 h) hf) fun E σ H hq => ?_⟩
  obtain ⟨Z, ρ, s, q⟩ := hq
  unfold sExt at q
  split at q
  · rename_i xs ec
    obtain ⟨l, vs, fq, rs, h1, h2, h3, h4, h5, h6⟩ := s.list ec
    refine ⟨.ref l, h1, Z, ρ, s.rel, ?_⟩
    cases ef : f ρ with
    | ok y =>
      rw [ef] at q
      intro u Z1 H1 fy g1 dy
      cases y with
      | lst o ys =>
        have q : PostS X.K (He.ga X.K) W Z0 H0 E (if D.fzs ys && decide (xs.length + ys.length ≤ LIM) then .nx (ρ.set i (some (.lst true (xs ++ ys)))) else .bad) := q
        split at q
        · rename_i c
          obtain ⟨c1, c2⟩ := band c
          have c2 := of_decide_eq_true c2
          obtain ⟨b, us, fb, rfl, qb, db, _⟩ := dy.lstH g1.s
          have db := db.fz0 c1
          have d1 := g1.dens h3
          have hl : H1 l = some (.lst vs) := g1.h.l h2
          have nl := List.nodup_cons.mp h4
          refine ⟨l, b, vs, us, rfl, rfl, hl, qb, by rw [d1.length, db.length]; exact lim_le c2, ?_⟩
          have nfq : l ∉ fq := fun hm => nl.1 (List.mem_append_left _ hm)
          have z := h6 Z1 H1 (vs ++ us) (xs ++ ys) (fq ++ []) g1 (by simpa using (List.nodup_append.mp nl.2).1) (fun b hb => by
            have hb : b ∈ fq := by simpa using hb
            refine ⟨fun c => nfq (c ▸ hb), fun hm => (List.nodup_append.mp nl.2).2.2 b hb b hm rfl, (h5 b (List.mem_cons_of_mem _ (List.mem_append_left _ hb))).2.1⟩) ((d1.upd nfq).append (db.upd (fun z => nomatch z)))
          have e1 : σ.set i (some (.ref l)) = σ := by
            apply List.ext_getElem?
            intro j
            by_cases cj : i = j
            · subst cj
              rcases Nat.lt_or_ge i σ.length with c | c
              · rw [List.getElem?_set_self c, h1]
              · rw [List.getElem?_eq_none c] at h1; cases h1
            · rw [List.getElem?_set_ne cj]
          show E.nx (σ.set i (some (.ref l))) _
          rw [e1]
          exact q _ Z1 _ z
        · exact q.elim
      | _ => exact q.elim
    | ex c ns xs => rw [ef] at q; exact fun dc Z' H' g1 x => q dc σ Z' H' (s.gr g1) x
    | bad => rw [ef] at q; exact q
  · exact q.elim
theorem DS.app (i : Nat) {x : Str} {p1 apos cpos : Pos} (he : DE X W e f) (hN : X.N[i]? = some x := by rfl) (hv : Vis X.env.scope x := by first | exact Or.inl rfl | exact Or.inr (Or.inl rfl) | exact Or.inr (Or.inr rfl)) (hd : (x == ("__debug__" : Str)) = false := by decide)
    (hcd : (x == ("__classdict__" : Str)) = false := by decide) (hs : swapsWith (.Call (.Attribute (.Name x p1) "append" apos) [e] [] cpos) none pos.line X.env = pure false := by rfl)
    (hbase : attributeBase (.Name x p1) "append" X.env (eval (.Name x p1) X.env) = eval (.Name x p1) X.env := by rfl)
    (hfew : ((backTo cpos (starEach [e] X.env)).all (fun x => !x.1) && (backToKw cpos (keywordEach [] X.env)).all (fun x => x.1.isSome)
      && decide ([e].length + ([] : List Keyword).length + (if ([] : List Keyword).isEmpty then 0 else 1) < 30)) = true := by rfl)
    (hline : (apos.endLine == cpos.line) = true := by rfl) (hst : starEach [e] X.env = (false, eval e X.env) :: starEach [] X.env := by rfl) (hplain : (backTo cpos (starEach [] X.env)).any (·.1) = false := by rfl) :
    DS X W (.Expr (.Call (.Attribute (.Name x p1) "append" apos) [e] [] cpos) pos) (sApp i f) := by
  refine ⟨fun Z0 H0 => PS.weak (ps_expr (pe_bm PySem.F.plainAttrs_list PySem.F.slot_list_append PySem.F.type_list_append mt_append (pv i hN hv hd hcd) (pa_cons he.run pa_nil hst) hbase hfew hline hst hplain) hs) fun E σ H hq => ?_⟩
  obtain ⟨Z, ρ, s, q⟩ := hq
  unfold sApp at q
  split at q
  · rename_i xs ec
    obtain ⟨l, vs, fq, rs, h1, h2, h3, h4, h5, h6⟩ := s.list ec
    refine ⟨.ref l, h1, .inl ⟨rfl, _, .inl (.inl h2)⟩, Z, ρ, s.rel, ?_⟩
    cases ef : f ρ with
    | ok y =>
      rw [ef] at q
      intro u Z1 H1 fy g1 dy ny fy'
      have q : PostS X.K (He.ga X.K) W Z0 H0 E (if xs.length < LIM then .nx (ρ.set i (some (.lst true (xs ++ [y])))) else .bad) := q
      split at q
      · rename_i c
        have d1 := g1.dens h3
        have hl : H1 l = some (.lst vs) := g1.h.l h2
        have nl := List.nodup_cons.mp h4
        refine ⟨l, vs, u, rfl, rfl, hl, by rw [d1.length]; exact lim_lt c, ?_⟩
        have nfq : l ∉ fq := fun hm => nl.1 (List.mem_append_left _ hm)
        have nfy : l ∉ fy := fun hm => (h5 l List.mem_cons_self).1 (fy' l hm)
        refine q _ Z1 _ (h6 Z1 H1 (vs ++ [u]) (xs ++ [y]) (fq ++ fy) g1 ?_ (fun b hb => ?_) ((d1.upd nfq).append (Dens.one (dy.upd nfy))))
        · rw [List.nodup_append]
          exact ⟨(List.nodup_append.mp nl.2).1, ny, fun a ha b hb c => (h5 a (List.mem_cons_of_mem _ (List.mem_append_left _ ha))).1 (fy' a (c ▸ hb))⟩
        · rcases List.mem_append.mp hb with hb | hb
          · exact ⟨fun c => nfq (c ▸ hb), fun hm => (List.nodup_append.mp nl.2).2.2 b hb b hm rfl, (h5 b (List.mem_cons_of_mem _ (List.mem_append_left _ hb))).2.1⟩
          · exact ⟨fun c => nfy (c ▸ hb), fun hm => (h5 b (List.mem_cons_of_mem _ (List.mem_append_right _ hm))).1 (fy' b hb), s.g.h.back (fy' b hb)⟩
      · exact q.elim
    | ex c ns xs => rw [ef] at q; exact fun dc Z' H' g1 x => q dc σ Z' H' (s.gr g1) x
    | bad => rw [ef] at q; exact q
  · exact q.elim
end
end DL
namespace DL
open PySem PySem.Spec PyProof.Rows L2
variable [Tb]
structure Ctx (X : Cx) (W : WX) (k : Nat) : Prop where
  calm : X.calm = true
  hr : Room k X.A
  po : PassesOwn (model X.prog X.w) X.A X.env X.xe
  tk : Takes X W
  nd : X.N.Nodup
def W0 : WX := fun _ _ _ _ => False
theorem Ctx.blk {X : Cx} {W : WX} {k : Nat} (C : Ctx X W k) (s : Shared) (H : Hp) (scope : Scope) (cenv : PySem.Env) (fp : List Addr) : Ctx (X.blk s H scope cenv fp) W0 k :=
  ⟨C.calm, C.hr, PassesOwn.never, takes0, C.nd⟩
theorem Ctx.mono {X : Cx} {W : WX} {j k : Nat} (C : Ctx X W k) (h : j ≤ k) : Ctx X W j := ⟨C.calm, C.hr.mono h, C.po, C.tk, C.nd⟩
structure Wk (K : PySem.W.Frag) (cl : Str → Addr) (J : It) (Y Z : Hp) (ds : List D) : Prop where
  go : ∀ i H, Ex Y H → i < ds.length → J.go i H
  yld : ∀ i H x H', Ex Y H → i < ds.length → J.yld i H x H' → H' = H ∧ ∃ d, ds[i]? = some d ∧ Den K cl Z H d x []
  stop : ∀ H, Ex Y H → J.stop ds.length H
theorem Wk.wide {K : PySem.W.Frag} {cl : Str → Addr} {J : It} {Y Y' Z : Hp} {ds : List D} (w : Wk K cl J Y Z ds) (e : Ex Y Y') : Wk K cl J Y' Z ds :=
  ⟨fun i H h => w.go i H (e.trans h), fun i H x H' h => w.yld i H x H' (e.trans h), fun H h => w.stop H (e.trans h)⟩
def PostI (K : PySem.W.Frag) (cl : Str → Addr) (W : WX) (Z H : Hp) (σ : L2.St) (o : Ou (List D)) (R : It → Hp → Prop) : Prop := match o with
  | .ok ds => ∀ J Z' H', Gr Z H Z' H' → Wk K cl J Z' Z' ds → R J H'
  | .ex c ns xs => PostX K cl W Z H σ c ns xs
  | .bad => False
def tI (K : PySem.W.Frag) (cl : Str → Addr) (W : WX) (f : Env → Ou (List D)) : TI := fun σ H R => ∃ Z ρ, RelS K cl Z H σ ρ ∧ PostI K cl W Z H σ (f ρ) R
def PostIB (K : PySem.W.Frag) (cl : Str → Addr) (W : WX) (Z H : Hp) (σ : L2.St) (o : Ou (List D)) (R : It → Hp → Prop) : Prop := match o with
  | .ok ds => ∀ J Z' H', Gr Z H Z' H' → Wk K cl J H' Z' ds → R J H'
  | .ex c ns xs => PostX K cl W Z H σ c ns xs
  | .bad => False
def tIB (K : PySem.W.Frag) (cl : Str → Addr) (W : WX) (f : Env → Ou (List D)) : TI := fun σ H R => ∃ Z ρ, RelS K cl Z H σ ρ ∧ PostIB K cl W Z H σ (f ρ) R
structure DIB (X : Cx) (W : WX) (tg iter : Expr) (f : Env → Ou (List D)) : Prop where
  run : PI X tg iter (tIB X.K (He.ga X.K) W f)
structure DI (X : Cx) (W : WX) (tg iter : Expr) (f : Env → Ou (List D)) : Prop where
  run : PI X tg iter (tI X.K (He.ga X.K) W f)
theorem PI.weak {X : Cx} {tg iter : Expr} {t t' : TI} (h : PI X tg iter t) (k : ∀ σ H R, t' σ H R → t σ H R) : PI X tg iter t' := ⟨fun pins s σ H R I q => h.run pins s σ H R I (k σ H R q)⟩
theorem PI.or {X : Cx} {tg iter : Expr} {t t' : TI} (h : PI X tg iter t) (h' : PI X tg iter t') : PI X tg iter (fun σ H R => t σ H R ∨ t' σ H R) :=
  ⟨fun pins s σ H R I q => q.elim (h.run pins s σ H R I) (h'.run pins s σ H R I)⟩
def seqOf : D → Ou (List D)
  | .lst _ xs => .ok (D.frzs xs)
  | .tup xs => .ok (D.frzs xs)
  | _ => .bad
def seqOfB : D → Ou (List D)
  | .lst _ xs => if D.fzs xs then .ok xs else .bad
  | .tup xs => if D.fzs xs then .ok xs else .bad
  | _ => .bad
def iSeqB (f : Env → Ou D) : Env → Ou (List D) := fun ρ => f ρ >>= seqOfB
def iSeq (f : Env → Ou D) : Env → Ou (List D) := fun ρ => f ρ >>= seqOf
def rng0 (n : Nat) : List D := (List.range n).map fun (i : Nat) => D.int (i : Int)
def rngL (lo : Int) (n : Nat) : List D := (List.range n).map fun (i : Nat) => D.int (lo + (i : Int))
def rng1Of : List D → Option (List D)
  | [.int n] => if decide (-1000000 < n ∧ n < 1000000) then some (rng0 n.toNat) else none
  | _ => none
def rng2Of : List D → Option (List D)
  | [.int a, .int b] => if decide (-1000000 < a ∧ a < 1000000 ∧ -1000000 < b ∧ b < 1000000) then some (rngL a (b - a).toNat) else none
  | _ => none
theorem rng1Of_inv {ds l : List D} (h : rng1Of ds = some l) : ∃ n : Int, ds = [.int n] ∧ (-1000000 < n ∧ n < 1000000) ∧ l = rng0 n.toNat := by
  unfold rng1Of at h
  split at h
  · rename_i n
    split at h
    · rename_i c
      exact ⟨n, rfl, of_decide_eq_true c, (Option.some.inj h).symm⟩
    · cases h
  · cases h
def iRng1 (t : Env → Ou (List D)) : Env → Ou (List D) := fun ρ => t ρ >>= fun ds => ofO (rng1Of ds)
def iRng2 (t : Env → Ou (List D)) : Env → Ou (List D) := fun ρ => t ρ >>= fun ds => ofO (rng2Of ds)
def chrsOf : D → Ou (List D)
  | .str x => .ok (x.cps.toList.map fun c => .str ⟨#[c]⟩)
  | _ => .bad
def iChr (f : Env → Ou D) : Env → Ou (List D) := fun ρ => f ρ >>= chrsOf
section
variable {K : PySem.W.Frag} {cl : Str → Addr} {Z H Z' H' Z0 H0 Z1 H1 : Hp} {σ : L2.St} {ρ : Env} {W : WX}
theorem PostI.gr {o : Ou (List D)} {R : It → Hp → Prop} (q : PostI K cl W Z H σ o R) (g : Gr Z H Z' H') : PostI K cl W Z' H' σ o R := by
  cases o with
  | ok d => exact fun J Z2 H2 g2 w => q J Z2 H2 (g.trans g2) w
  | ex c ns xs => exact PostX.gr q g
  | bad => exact q
theorem Dens.frzs_len : ∀ (ds : List D), (D.frzs ds).length = ds.length
  | [] => rfl
  | d :: ds => congrArg (· + 1) (Dens.frzs_len ds)
theorem wk_list {Y : Hp} {a : Addr} {vs : List V} {ds : List D} (q : Y a = some (.lst vs)) (h : Dens K cl Z H ds vs []) : Wk K cl (Itl K a) Y Z ds where
  go i H' e hi := by
    obtain ⟨v, f, h1, _⟩ := h.get (List.getElem?_eq_getElem hi)
    exact ⟨vs, v, .inl (.inl (e.l q)), h1⟩
  yld i H' x H2 e hi y := by
    obtain ⟨e1, y⟩ := y
    obtain ⟨v, f, h1, h2, h3, _⟩ := h.get (List.getElem?_eq_getElem hi)
    have ex := y vs (.inl (.inl (e.l q)))
    rw [h1] at ex
    have ex := Option.some.inj ex
    subst ex
    refine ⟨e1, _, List.getElem?_eq_getElem hi, ?_⟩
    have ef : f = [] := List.eq_nil_iff_forall_not_mem.mpr fun b hb => nomatch h3 b hb
    subst ef
    exact Den.mono (Ex.refl _) _ _ [] (fun _ z => nomatch z) h2
  stop H' e := ⟨vs, .inl (.inl (e.l q)), by rw [h.length]; exact Nat.le_refl _⟩
theorem wk_tup {Y : Hp} {a : Addr} {vs : List V} {ds : List D} (q : SqT K Y a vs) (h : Dens K cl Z H ds vs []) : Wk K cl (Itt K a) Y Z ds where
  go i H' e hi := by
    obtain ⟨v, f, h1, _⟩ := h.get (List.getElem?_eq_getElem hi)
    exact ⟨vs, v, e.sqT q, h1⟩
  yld i H' x H2 e hi y := by
    obtain ⟨e1, y⟩ := y
    obtain ⟨v, f, h1, h2, h3, _⟩ := h.get (List.getElem?_eq_getElem hi)
    have ex := y vs (e.sqT q)
    rw [h1] at ex
    have ex := Option.some.inj ex
    subst ex
    refine ⟨e1, _, List.getElem?_eq_getElem hi, ?_⟩
    have ef : f = [] := List.eq_nil_iff_forall_not_mem.mpr fun b hb => nomatch h3 b hb
    subst ef
    exact Den.mono (Ex.refl _) _ _ [] (fun _ z => nomatch z) h2
  stop H' e := ⟨vs, e.sqT q, by rw [h.length]; exact Nat.le_refl _⟩
theorem rngL_len (lo : Int) (n : Nat) : (rngL lo n).length = n := by simp [rngL]
theorem rng0_eq (n : Nat) : rng0 n = rngL 0 n := by
  unfold rng0 rngL
  refine List.map_congr_left fun i _ => ?_
  rw [Int.zero_add]
theorem wk_rng {Y : Hp} (lo : Int) (n : Nat) : Wk K cl (Itr lo n) Y Z (rngL lo n) where
  go i H' e hi := by rw [rngL_len] at hi; exact hi
  yld i H' x H2 e hi y := by
    obtain ⟨e1, e2⟩ := y
    rw [rngL_len] at hi
    refine ⟨e1, .int (lo + i), ?_, e2, rfl⟩
    unfold rngL
    rw [List.getElem?_map, List.getElem?_range hi] <;> rfl
  stop H' e := by rw [rngL_len]; exact Nat.le_refl _
theorem wk_rng0 {Y : Hp} (n : Nat) : Wk K cl (Itr 0 n) Y Z (rng0 n) := by rw [rng0_eq]; exact wk_rng 0 n
theorem wk_chr {Y : Hp} (x : Str) : Wk K cl (Its x) Y Z (x.cps.toList.map fun c => .str ⟨#[c]⟩) where
  go i H' e hi := by simpa [Its] using hi
  yld i H' v H2 e hi y := by
    obtain ⟨e1, c, e2, e3⟩ := y
    refine ⟨e1, .str ⟨#[c]⟩, ?_, e3, rfl⟩
    rw [List.getElem?_map, Array.getElem?_toList, e2] <;> rfl
  stop H' e := by simp [Its]
end
section
variable {X : Cx} {W : WX} {k : Nat} {tg e a b iter : Expr} {f : Env → Ou D} {t : Env → Ou (List D)} {pos p : Pos}
theorem DI.seq (h : DE X W e f) : DI X W tg e (iSeq f) := by
  refine ⟨PI.weak (PI.or (pi_list h.run) (pi_tup h.run)) fun σ H R hq => ?_⟩
  obtain ⟨Z, ρ, r, q⟩ := hq
  unfold iSeq at q
  cases ef : f ρ with
  | ok d =>
    rw [ef] at q
    cases d with
    | lst o xs =>
      refine .inl ⟨Z, ρ, r, ?_⟩
      rw [ef]
      intro v Z' H' fp g dn nd fr
      obtain ⟨a, vs, f1, rfl, qa, dd, hf, _⟩ := dn.lstH g.s
      have own : ∀ b ∈ fp, Z' b = none := fun b hb => (Den.own _ _ _ dn b hb).1
      refine ⟨a, rfl, ⟨vs, .inl (.inl qa)⟩, q _ (frzH Z' H' fp) H' (g.frz own fr fun b hb => (Den.own _ _ _ dn b hb).2) (wk_list (H := H') ?_ (Dens.freeze (frzH_ex own) xs vs f1 (fun b hb => if_pos (hf b hb)) dd))⟩
      cases o with
      | true =>
        simp only [Den] at dn
        obtain ⟨a', vs', fq, e1, e2, _⟩ := dn
        cases e1
        subst e2
        exact (if_pos List.mem_cons_self).trans qa
      | false =>
        simp only [Den] at dn
        obtain ⟨a', vs', e1, e2, e3, _⟩ := dn
        cases e1
        have na : a ∉ fp := fun hm => by rw [e2] at hm; cases hm
        refine (if_neg na).trans ?_
        rw [e3, ← g.s.l e3, qa]
    | tup xs =>
      refine .inr ⟨Z, ρ, r, ?_⟩
      rw [ef]
      intro v Z' H' fp g dn nd fr
      obtain ⟨a, vs, rfl, qa, za, dd⟩ := dn.tupH g.s
      have own : ∀ b ∈ fp, Z' b = none := fun b hb => (Den.own _ _ _ dn b hb).1
      exact ⟨a, rfl, ⟨vs, qa⟩, q _ (frzH Z' H' fp) H' (g.frz own fr fun b hb => (Den.own _ _ _ dn b hb).2) (wk_tup (H := H') ((frzH_ex own).sqT za) (Dens.freeze (frzH_ex own) xs vs fp (fun b hb => if_pos hb) dd))⟩
    | _ => exact q.elim
  | ex c ns xs =>
    rw [ef] at q
    refine .inl ⟨Z, ρ, r, ?_⟩
    rw [ef]
    exact q
  | bad => rw [ef] at q; exact q.elim
theorem DI.rng1 (h : DAB X W [a] t) (hm : X.mg "range" = none) (hg : Gl X "range" := by rfl) (hs : starEach [a] X.env = [(false, eval a X.env)] := by rfl) : DI X W tg (.Call (.Name "range" p) [a] [] pos) (DL.iRng1 t) := by
  refine ⟨PI.weak (pi_range1 hg hm h.run hs) fun σ H R hq => ?_⟩
  obtain ⟨Z, ρ, r, q⟩ := hq
  refine tVs_bind (P := fun Z H o => PostI X.K (He.ga X.K) W Z H σ o R) r (fun _ _ _ z => z) (fun z => z) q fun ds vs Z1 H1 fp ex g1 dn q => ?_
  have q := PostI.gr q g1
  match e : rng1Of ds with
  | some l =>
    rw [e] at q
    obtain ⟨n, e1, c, e2⟩ := rng1Of_inv e
    subst e1 e2
    obtain ⟨v, rfl, hv⟩ := dn.one'
    rw [hv.1]
    exact ⟨n, rfl, by omega, by omega, q _ Z1 H1 (Gr.refl g1.s) (wk_rng0 n.toNat)⟩
  | none => rw [e] at q; exact q.elim
theorem DI.chr (h : DB X W e f) : DI X W tg e (iChr f) := by
  refine ⟨PI.weak (pi_str h.run) fun σ H R hq => ?_⟩
  obtain ⟨Z, ρ, r, q⟩ := hq
  refine tV_bind (P := fun Z H o => PostI X.K (He.ga X.K) W Z H σ o R) r (fun _ _ _ z => z) (fun z => z) q fun d vs Z1 H1 fp ex g1 dn q => ?_
  have q := PostI.gr q g1
  cases d with
  | str x =>
    rw [dn.1]
    exact ⟨x, rfl, q _ Z1 H1 (Gr.refl g1.s) (wk_chr x)⟩
  | _ => exact q.elim
theorem DIB.of {fi : Env → Ou (List D)} (h : DI X W tg e fi) : DIB X W tg e fi := by
  refine ⟨PI.weak h.run fun σ H R hq => ?_⟩
  obtain ⟨Z, ρ, r, q⟩ := hq
  refine ⟨Z, ρ, r, ?_⟩
  cases ef : fi ρ with
  | ok ds => rw [ef] at q; exact fun J Z' H' g w => q J Z' H' g (w.wide g.s)
  | ex c ns xs => rw [ef] at q; exact q
  | bad => rw [ef] at q; exact q
theorem DIB.seq (h : DB X W e f) : DIB X W tg e (iSeqB f) := by
  refine ⟨PI.weak (PI.or (pi_list h.run) (pi_tup h.run)) fun σ H R hq => ?_⟩
  obtain ⟨Z, ρ, r, q⟩ := hq
  unfold iSeqB at q
  cases ef : f ρ with
  | ok d =>
    rw [ef] at q
    cases d with
    | lst o xs =>
      have q : PostIB X.K (He.ga X.K) W Z H σ (if D.fzs xs then .ok xs else .bad) R := q
      split at q
      · rename_i c
        refine .inl ⟨Z, ρ, r, ?_⟩
        rw [ef]
        intro v Z' H' fp g dn
        obtain ⟨a, vs, f1, rfl, qa, dd, hf, _⟩ := dn.lstH g.s
        exact ⟨a, rfl, ⟨vs, .inl (.inl qa)⟩, q _ Z' H' g (wk_list qa (dd.fz0 c))⟩
      · exact q.elim
    | tup xs =>
      have q : PostIB X.K (He.ga X.K) W Z H σ (if D.fzs xs then .ok xs else .bad) R := q
      split at q
      · rename_i c
        refine .inr ⟨Z, ρ, r, ?_⟩
        rw [ef]
        intro v Z' H' fp g dn
        obtain ⟨a, vs, rfl, qa, za, dd⟩ := dn.tupH g.s
        exact ⟨a, rfl, ⟨vs, qa⟩, q _ Z' H' g (wk_tup qa (dd.fz0 c))⟩
      · exact q.elim
    | _ => exact q.elim
  | ex c ns xs =>
    rw [ef] at q
    refine .inl ⟨Z, ρ, r, ?_⟩
    rw [ef]
    exact q
  | bad => rw [ef] at q; exact q.elim
def tgN (i : Nat) : D → Env → Option Env := fun d ρ => if i < ρ.length then some (ρ.set i (some d)) else none
def gT (K : PySem.W.Frag) (cl : Str → Addr) (tg : D → Env → Option Env) : TG := fun v σ H Q => ∃ Z0 H0 Z ρ d ρ', Sta K cl Z0 H0 Z H σ ρ ∧ Den K cl Z H d v [] ∧ tg d ρ = some ρ' ∧ ∀ σ', Sta K cl Z0 H0 Z H σ' ρ' → Q σ' H
structure DG (X : Cx) (e : Expr) (tg : D → Env → Option Env) : Prop where
  run : PG X e (gT X.K (He.ga X.K) tg)
theorem PG.weak {X : Cx} {e : Expr} {t t' : TG} (h : PG X e t) (k : ∀ v σ H Q, t' v σ H Q → t v σ H Q) : PG X e t' := ⟨fun pins s σ H v u Q I r q => h.run pins s σ H v u Q I r (k v σ H Q q)⟩
theorem DG.name (i : Nat) {x : Str} (hN : X.N.Nodup) (hi : X.N[i]? = some x := by rfl) (hx : Loc X.env.scope x := by first | exact Or.inl rfl | exact Or.inr rfl) (hf : X.fn x = true ∨ X.env.scope.names.lookup x = some .local := by first | exact .inl rfl | exact .inr rfl | assumption) : DG X (.Name x pos) (tgN i) := by
  refine ⟨PG.weak (pg_name (i := i) hN hi hx hf) fun v σ H Q hq => ?_⟩
  obtain ⟨Z0, H0, Z, ρ, d, ρ', s, dn, e, q⟩ := hq
  unfold tgN at e
  split at e
  · rename_i c
    cases e
    exact q _ (s.set (Gr.refl s.g.s) dn List.nodup_nil (fun _ z => nomatch z) c)
  · cases e
def loopS (tg : D → Env → Option Env) (body : Env → Os) : List D → Env → Os
  | [], ρ => .nx ρ
  | d :: ds, ρ => match tg d ρ with
    | none => .bad
    | some ρ1 => match body ρ1 with
      | .nx ρ2 => loopS tg body ds ρ2
      | .ct ρ2 => loopS tg body ds ρ2
      | .bk ρ2 => .nx ρ2
      | .rt d => .rt d
      | .ex c ns xs ρ2 => .ex c ns xs ρ2
      | .bad => .bad
def sFor (fi : Env → Ou (List D)) (tg : D → Env → Option Env) (body : Env → Os) : Env → Os := fun ρ => ofU (fi ρ) ρ fun ds => loopS tg body ds ρ
theorem DS.for_ {iter : Expr} {body : List Stmt} {fi : Env → Ou (List D)} {tgt : D → Env → Option Env} {g : Env → Os} (C : Ctx X W k) (hi : DI X W tg iter fi) (ht : DG X tg tgt) (hb : DSs X W body g) (hs : ∀ x, foldedSetIterable iter X.env x = pure x := by intro _; rfl) :
    DS X W (.For tg iter body [] pos) (sFor fi tgt g) := by
  refine ⟨fun Z0 H0 => PS.weak (ps_for C.po C.calm hi.run ht.run (tb := fun E σ H => ∃ Zl Hl, tS X.K (He.ga X.K) W Zl Hl g E σ H) ⟨fun pins s σ H E I ⟨Zl, Hl, q⟩ => (hb.run Zl Hl).run pins s σ H E I q⟩ hs) fun E σ H hq => ?_⟩
  obtain ⟨Z, ρ, st, q⟩ := hq
  refine ⟨Z, ρ, st.rel, ?_⟩
  unfold sFor at q
  cases ef : fi ρ with
  | ex c ns xs => rw [ef] at q; exact fun dc Z' H' g1 x => q dc σ Z' H' (st.gr g1) x
  | bad => rw [ef] at q; exact q
  | ok ds =>
    rw [ef] at q
    intro J Z1 H1 g1 wk
    obtain ⟨Hl, gl, stl, _, _⟩ := (st.gr g1).rebase
    refine ⟨fun i m σ' H' => m = ds.length - i ∧ i ≤ ds.length ∧ ∃ Z' ρ', Sta X.K (He.ga X.K) Z1 Hl Z' H' σ' ρ' ∧ PostS X.K (He.ga X.K) W Z0 H0 E (loopS tgt g (ds.drop i) ρ'), ⟨ds.length, by simp, Nat.zero_le _, Z1, ρ, stl, q⟩, ?_⟩
    rintro i m σ' H' ⟨rfl, hi', Z', ρ', st', q'⟩
    have ez : Ex Z1 H' := st'.g.z.trans st'.g.s
    by_cases hlt : i < ds.length
    · refine .inr ⟨wk.go i H' ez hlt, fun σ2 H2 => ∃ Z' ρ', Sta X.K (He.ga X.K) Z1 Hl Z' H2 σ2 ρ' ∧ PostS X.K (He.ga X.K) W Z0 H0 E (loopS tgt g (ds.drop (i + 1)) ρ'), fun σ2 H2 n2 => ⟨ds.length - (i + 1), by omega, rfl, hlt, n2⟩, fun x H2 y => ?_⟩
      obtain ⟨e1, d, ed, dn⟩ := wk.yld i H' x H2 ez hlt y
      subst e1
      have ed' : ds[i] = d := by rw [List.getElem?_eq_getElem hlt] at ed; exact Option.some.inj ed
      rw [List.drop_eq_getElem_cons hlt, ed'] at q'
      unfold loopS at q'
      cases et : tgt d ρ' with
      | none => rw [et] at q'; exact q'.elim
      | some ρ1 =>
        rw [et] at q'
        refine ⟨Z1, Hl, Z', ρ', d, ρ1, st', Den.mono st'.g.z d x [] (fun _ z => nomatch z) dn, et, fun σ2 st2 => ⟨Z1, Hl, Z', ρ1, st2, ?_⟩⟩
        have q' : PostS X.K (He.ga X.K) W Z0 H0 E (match g ρ1 with
          | .nx ρ2 => loopS tgt g (ds.drop (i + 1)) ρ2
          | .ct ρ2 => loopS tgt g (ds.drop (i + 1)) ρ2
          | .bk ρ2 => .nx ρ2
          | .rt d => .rt d
          | .ex c ns xs ρ2 => .ex c ns xs ρ2
          | .bad => .bad) := q'
        cases eg : g ρ1 with
        | nx ρ2 => rw [eg] at q'; exact fun σ3 Z3 H3 st3 => ⟨Z3, ρ2, st3, q'⟩
        | ct ρ2 => rw [eg] at q'; exact fun σ3 Z3 H3 st3 => ⟨Z3, ρ2, st3, q'⟩
        | bk ρ2 => rw [eg] at q'; exact fun σ3 Z3 H3 st3 => q' σ3 Z3 H3 (st3.unbase gl)
        | rt d => rw [eg] at q'; exact fun v Z3 H3 fp g3 h nd fr => q' v Z3 H3 fp (gl.trans g3) h nd fun a ha => gl.h.back (fr a ha)
        | ex c ns xs ρ2 => rw [eg] at q'; exact fun dc σ3 Z3 H3 st3 h => q' dc σ3 Z3 H3 (st3.unbase gl) h
        | bad => rw [eg] at q'; exact q'.elim
    · have e : i = ds.length := by omega
      subst e
      refine .inl ⟨wk.stop H' ez, ?_⟩
      rw [List.drop_length] at q'
      exact q' σ' Z' H' (st'.unbase gl)
def wipeE (ρ : Env) : List Nat → Env
  | [] => ρ
  | v :: vs => (wipeE ρ vs).set v none
def compG (j : Nat) (tt : Env → Ou Bool) (te : Env → Ou D) (ρ : Env) : List D → List D → Option (List D)
  | [], acc => some acc
  | d :: ds, acc => if j < ρ.length then (match tt (ρ.set j (some d)) with
    | .ok true => (match te (ρ.set j (some d)) with
      | .ok y => if acc.length < LIM then compG j tt te ρ ds (acc ++ [y]) else none
      | _ => none)
    | .ok false => compG j tt te ρ ds acc
    | _ => none) else none
def dLc (fi : Env → Ou (List D)) (j : Nat) (vs : List Nat) (tt : Env → Ou Bool) (te : Env → Ou D) : Env → Ou D := fun ρ => fi ρ >>= fun ds => ofO ((compG j tt te (wipeE ρ vs) ds []).map (D.lst true))
def bYes : Env → Ou Bool := fun _ => .ok true
theorem RelS.wipe {K : PySem.W.Frag} {cl : Str → Addr} {Z H : Hp} {σ : L2.St} {ρ : Env} (r : RelS K cl Z H σ ρ) : ∀ vs : List Nat, RelS K cl Z H (wipe σ vs) (wipeE ρ vs)
  | [] => r
  | v :: vs => by
    obtain ⟨s, tk, fp, sl, nd⟩ := RelS.wipe r vs
    obtain ⟨fp', a1, a2, _⟩ := Slots.drop (i := v) (o := none) sl nd
    exact ⟨s, tk, fp', a1, a2⟩
theorem wipe_get (σ : L2.St) : ∀ (vs : List Nat) (i : Nat), (wipe σ vs)[i]? = if i ∈ vs then (if i < σ.length then some none else none) else σ[i]?
  | [], i => by simp [wipe]
  | v :: vs, i => by
    show ((wipe σ vs).set v none)[i]? = _
    rw [List.getElem?_set]
    by_cases c : v = i
    · subst c
      rw [if_pos rfl, if_pos List.mem_cons_self, wipe_length]
    · rw [if_neg c, wipe_get σ vs i]
      by_cases h : i ∈ vs
      · rw [if_pos h, if_pos (List.mem_cons_of_mem _ h)]
      · rw [if_neg h, if_neg (fun hm => (List.mem_cons.mp hm).elim (fun e => c e.symm) h)]
theorem wipe_set {σ : L2.St} {vs : List Nat} {j : Nat} (hj : j ∈ vs) (o : Option V) : wipe ((wipe σ vs).set j o) vs = wipe σ vs := by
  apply List.ext_getElem?
  intro i
  rw [wipe_get, wipe_get, List.length_set, wipe_length]
  by_cases h : i ∈ vs
  · rw [if_pos h, if_pos h]
  · rw [if_neg h, if_neg h, List.getElem?_set_ne (fun c => h (by rw [← c]; exact hj)), wipe_get, if_neg h]
structure DTs (X : Cx) (W : WX) (ifs : List Expr) (f : Env → Ou Bool) : Prop where
  run : PTs X ifs (tT X.K (He.ga X.K) W f)
theorem DTs.nil : DTs X W [] bYes := ⟨⟨fun pins s σ H Q I ⟨Z, ρ, r, q⟩ => pts_nil.run pins s σ H Q I (q Z H (Gr.refl r.s))⟩⟩
theorem DTs.one {c : Expr} {f : Env → Ou Bool} (h : DT X W c f) : DTs X W [c] f := ⟨pts_one h.run⟩
theorem RelS.set {K : PySem.W.Frag} {cl : Str → Addr} {Z H : Hp} {σ : L2.St} {ρ : Env} {d : D} {v : V} {i : Nat} (r : RelS K cl Z H σ ρ) (dn : Den K cl Z H d v []) (hi : i < ρ.length) : RelS K cl Z H (σ.set i (some v)) (ρ.set i (some d)) := by
  obtain ⟨s, tk, fp, sl, nd⟩ := r
  obtain ⟨fp', a1, a2, _⟩ := Slots.set (i := i) sl nd dn List.nodup_nil (fun _ z => nomatch z) hi
  exact ⟨s, tk, fp', a1, a2⟩
theorem tLc_of {W : WX} {K : PySem.W.Frag} {cl : Str → Addr} {fi : Env → Ou (List D)} {tt : Env → Ou Bool} {te : Env → Ou D} {j : Nat} {vs : List Nat} (hj : j ∈ vs) (σ : L2.St) (H : Hp) (Q : VK) (hq : tD K cl W (dLc fi j vs tt te) σ H Q) :
    tLc (tIB K cl W fi) (gName j) (tT K cl W0 tt) (tD K cl W0 te) vs σ H Q := by
  obtain ⟨Z, ρ, r, q⟩ := hq
  refine ⟨Z, ρ, r, ?_⟩
  unfold dLc at q
  cases ef : fi ρ with
  | ex c ns xs => rw [ef] at q; exact q
  | bad => rw [ef] at q; exact q
  | ok ds =>
    rw [ef] at q
    intro J Z1 H1 g1 wk Dl hD
    have q : PostO K cl W Z H σ (ofO ((compG j tt te (wipeE ρ vs) ds []).map (D.lst true))) Q := q
    cases ec : compG j tt te (wipeE ρ vs) ds [] with
    | none => rw [ec] at q; exact q.elim
    | some ys =>
      rw [ec] at q
      have q : PostV K cl Z H (.lst true ys) Q := q
      have rw0 := (r.gr g1).wipe vs
      let Wd : Nat → Hp → Prop := fun i H' => ∃ (Z' : Hp) (acc : List D) (vsA : List V) (fp : Fp), Gr Z1 H1 Z' H' ∧ Z' Dl = none ∧ H' Dl = some (.lst vsA) ∧ Dens K cl Z' H' acc vsA fp ∧ fp.Nodup ∧ Dl ∉ fp ∧ (∀ a ∈ fp, H1 a = none) ∧ compG j tt te (wipeE ρ vs) (ds.drop i) acc = some ys
      refine ⟨fun i m H' => m = ds.length - i ∧ i ≤ ds.length ∧ Wd i H', ⟨ds.length, by simp, Nat.zero_le _, Z1, [], [], [], Gr.newO g1.s hD, g1.s.back hD, upd_same, ⟨rfl, rfl⟩, List.nodup_nil, (fun z => nomatch z), (fun _ z => nomatch z), ec⟩, ?_⟩
      rintro i m H' ⟨rfl, hi', Z', acc, vsA, fp, g', zD, hDl, dn, nd, nD, fr, ecc⟩
      have ez : Ex H1 H' := g'.h
      by_cases hlt : i < ds.length
      · refine .inr ⟨wk.go i H' ez hlt, Wd (i + 1), fun H2 n2 => ⟨ds.length - (i + 1), by omega, rfl, hlt, n2⟩, fun x H2 y => ?_⟩
        obtain ⟨e1, d, ed, dx⟩ := wk.yld i H' x H2 ez hlt y
        subst e1
        have ed' : ds[i] = d := by rw [List.getElem?_eq_getElem hlt] at ed; exact Option.some.inj ed
        rw [List.drop_eq_getElem_cons hlt, ed'] at ecc
        unfold compG at ecc
        split at ecc
        · rename_i hjl
          have dx' : Den K cl Z' H2 d x [] := Den.mono g'.z d x [] (fun _ z => nomatch z) dx
          have r2 := (rw0.gr g').set dx' hjl
          refine ⟨wipe_set hj _, Z', _, r2, ?_⟩
          cases et : tt ((wipeE ρ vs).set j (some d)) with
          | ex c ns xs => rw [et] at ecc; cases ecc
          | bad => rw [et] at ecc; cases ecc
          | ok b =>
            rw [et] at ecc
            intro Z2 H3 g2
            have n2 : H2 Dl ≠ none := by rw [hDl]; exact fun z => nomatch z
            have zD2 := g2.n Dl n2 zD
            have hD2 := g2.h.l hDl
            cases b with
            | false => exact ⟨Z2, acc, vsA, fp, g'.trans g2, zD2, hD2, g2.dens dn, nd, nD, fr, ecc⟩
            | true =>
              refine ⟨Z2, _, r2.gr g2, ?_⟩
              have ecc : (match te ((wipeE ρ vs).set j (some d)) with
                | .ok y => if acc.length < LIM then compG j tt te (wipeE ρ vs) (ds.drop (i + 1)) (acc ++ [y]) else none
                | _ => none) = some ys := ecc
              cases ee : te ((wipeE ρ vs).set j (some d)) with
              | ex c ns xs => rw [ee] at ecc; cases ecc
              | bad => rw [ee] at ecc; cases ecc
              | ok y =>
                rw [ee] at ecc
                intro u Z3 H4 fy g3 dy ny fy'
                have ecc : (if acc.length < LIM then compG j tt te (wipeE ρ vs) (ds.drop (i + 1)) (acc ++ [y]) else none) = some ys := ecc
                by_cases hlim : acc.length < LIM
                · rw [if_pos hlim] at ecc
                  have n3 : H3 Dl ≠ none := by rw [hD2]; exact fun z => nomatch z
                  have g23 := (g'.trans g2).trans g3
                  have nfy : Dl ∉ fy := fun hm => n3 (fy' Dl hm)
                  have d3 := g3.dens (g2.dens dn)
                  refine ⟨vsA, g3.h.l hD2, by rw [dn.length]; exact lim_lt hlim, Z3, acc ++ [y], vsA ++ [u], fp ++ fy, ⟨g23.z, g23.h.mut hD ⟨.l _, g3.h.l hD2⟩, g23.s.mut (g3.n Dl n3 zD2) ⟨.l _, g3.h.l hD2⟩, g23.n⟩, g3.n Dl n3 zD2, upd_same, (d3.upd nD).append (Dens.one (dy.upd nfy)), ?_, ?_, ?_, ecc⟩
                  · rw [List.nodup_append]
                    refine ⟨nd, ny, fun a ha b hb c => ?_⟩
                    subst c
                    obtain ⟨_, xs, qa⟩ := Dens.own acc vsA fp (g2.dens dn) a ha
                    rw [fy' a hb] at qa; cases qa
                  · exact fun hm => (List.mem_append.mp hm).elim nD nfy
                  · intro a ha
                    rcases List.mem_append.mp ha with z | z
                    · exact fr a z
                    · exact (g'.trans g2).h.back (fy' a z)
                · rw [if_neg hlim] at ecc; cases ecc
        · cases ecc
      · have e : i = ds.length := by omega
        subst e
        rw [List.drop_length] at ecc
        unfold compG at ecc
        have ey := Option.some.inj ecc
        subst ey
        refine .inl ⟨wk.stop H' ez, q (.ref Dl) Z' H' (Dl :: fp) (g1.trans g') ?_ (List.nodup_cons.mpr ⟨nD, nd⟩) fun a ha => ?_⟩
        · simp only [Den]
          exact ⟨Dl, vsA, fp, rfl, rfl, zD, hDl, dn⟩
        · rcases List.mem_cons.mp ha with z | z
          · subst z; exact g1.h.back hD
          · exact g1.h.back (fr a z)
theorem DE.lc {elt : Expr} {ifs : List Expr} {scope : Scope} {own : List (Str × Nat)} {fi : Env → Ou (List D)} {tt : Env → Ou Bool} {te : Env → Ou D} {j : Nat} (Cc : Ctx X W k) (hi : DIB X W tg iter fi) (ok : BlkOk X.N X.env.scope scope own)
    (hg : ∀ (s : Shared) (H : Hp) (C : Addr) (cl : List (Str × Addr)) (fp : List Addr), PG (X.blk s H scope (compEnvC scope cl C X.env) fp) tg (gName j))
    (ht : ∀ (s : Shared) (H : Hp) (C : Addr) (cl : List (Str × Addr)) (fp : List Addr), DTs (X.blk s H scope (compEnvC scope cl C X.env) fp) W0 ifs tt)
    (he : ∀ (s : Shared) (H : Hp) (C : Addr) (cl : List (Str × Addr)) (fp : List Addr), DE (X.blk s H scope (compEnvC scope cl C X.env) fp) W0 elt te) (hj : j ∈ own.map (·.2) := by decide) (hs : ∀ x, foldedSetIterable iter X.env x = pure x := by intro _; rfl) :
    DE X W (.ListComp elt [⟨tg, iter, ifs, 0⟩] scope pos) (dLc fi j (own.map (·.2)) tt te) :=
  ⟨PE.weak (pe_lc (te := tD X.K (He.ga X.K) W0 te) (tt := tT X.K (He.ga X.K) W0 tt) Cc.calm Cc.nd hi.run ok hg (fun s H C cl fp => (ht s H C cl fp).run) (fun s H C cl fp => (he s H C cl fp).run) hs) (tLc_of hj)⟩
theorem DS.setLc {i : Nat} {y : Str} {py spos : Pos} {elt : Expr} {ifs : List Expr} {scope : Scope} {own : List (Str × Nat)} {fi : Env → Ou (List D)} {tt : Env → Ou Bool} {te : Env → Ou D} {j : Nat} (Cc : Ctx X W k) (hi : DIB X W tg iter fi) (ok : BlkOk X.N X.env.scope scope own)
    (hg : ∀ (s : Shared) (H : Hp) (C : Addr) (cl : List (Str × Addr)) (fp : List Addr), PG (X.blk s H scope (compEnvC scope cl C X.env) fp) tg (gName j))
    (ht : ∀ (s : Shared) (H : Hp) (C : Addr) (cl : List (Str × Addr)) (fp : List Addr), DTs (X.blk s H scope (compEnvC scope cl C X.env) fp) W0 ifs tt)
    (he : ∀ (s : Shared) (H : Hp) (C : Addr) (cl : List (Str × Addr)) (fp : List Addr), DE (X.blk s H scope (compEnvC scope cl C X.env) fp) W0 elt te) (hy : X.N[i]? = some y := by rfl) (hyl : X.env.scope.names.lookup y = some .local := by rfl)
    (hsw : swapsWith (.ListComp elt [⟨tg, iter, ifs, 0⟩] scope pos) (some (.Name y py)) spos.line X.env = pure true := by exact sw_true rfl rfl rfl (by decide +kernel)) (hj : j ∈ own.map (·.2) := by decide) (hs : ∀ x, foldedSetIterable iter X.env x = pure x := by intro _; rfl) :
    DS X W (.Assign [.Name y py] (.ListComp elt [⟨tg, iter, ifs, 0⟩] scope pos) spos) (sSet i (dLc fi j (own.map (·.2)) tt te)) := by
  refine ⟨fun Z0 H0 => PS.weak (ps_setLc (te := tD X.K (He.ga X.K) W0 te) (tt := tT X.K (He.ga X.K) W0 tt) Cc.calm Cc.nd hy hyl hsw hi.run ok hg (fun s H C cl fp => (ht s H C cl fp).run) (fun s H C cl fp => (he s H C cl fp).run) hs) fun E σ H hq => ?_⟩
  obtain ⟨Z, ρ, s, q⟩ := hq
  refine tLc_of hj σ H _ ⟨Z, ρ, s.rel, ?_⟩
  unfold sSet at q
  cases ec : dLc fi j (own.map (·.2)) tt te ρ with
  | ok d =>
    rw [ec] at q
    intro v Z' H' fp g1 dn nd fr
    have q : PostS X.K (He.ga X.K) W Z0 H0 E (if i < ρ.length then .nx (ρ.set i (some d)) else .bad) := q
    by_cases c : i < ρ.length
    · rw [if_pos c] at q
      exact q _ Z' H' (s.set g1 dn nd fr c)
    · rw [if_neg c] at q; exact q.elim
  | ex c ns xs => rw [ec] at q; exact fun dc Z' H' g1 x => q dc σ Z' H' (s.gr g1) x
  | bad => rw [ec] at q; exact q
end
end DL
namespace DL
open PySem PySem.Spec PyProof.Rows L2
variable [Tb]
def endF (r : Os) : Ou D := match r with
  | .nx _ => .ok .non
  | .rt d => .ok d
  | .ex c ns xs _ => .ex c ns xs
  | _ => .bad
def runF (n : Nat) (g : Env → Os) (ds : List D) : Ou D := endF (g (ds.map some ++ List.replicate (n - ds.length) none))
def PostF (K : PySem.W.Frag) (cl : Str → Addr) (Z H : Hp) (o : Ou D) (Q : VK) (E : XK) : Prop := match o with
  | .ok d => PostV K cl Z H d Q
  | .ex c ns xs => ∀ dc Z' H', Gr Z H Z' H' → ExD K cl Z' H' ns xs dc → E (.ref (cl c)) dc H'
  | .bad => False
def spF (K : PySem.W.Frag) (n : Nat) (F : List D → Ou D) : Sp := fun vs H Q E => vs.length = n ∧ ∃ Z ds, Ex Z H ∧ TabsK K Z ∧ Dens K (He.ga K) Z H ds vs [] ∧ PostF K (He.ga K) Z H (F ds) Q E
structure Dn (P : Program) (w : World) (K : PySem.W.Frag) (mg : Str → Option Value) (base : Heap) (k : Nat) (x : Str) (n : Nat) (F : List D → Ou D) : Prop where
  ex : ∃ (f : Addr) (fd : FuncData) (ps : List Str), mg x = some (.ref f) ∧ FnOk P w K mg base (L2.CX P w) k f fd ps (spF K n F) ∧ PySem.W.keepIn K (.ref f) = true ∧ Binds K fd ps []
section
variable {K : PySem.W.Frag} {cl : Str → Addr} {Z H Z' H' Z0 H0 : Hp}
theorem Slots.start : ∀ {ds : List D} {vs : List V} {fp : Fp} (m : Nat), Dens K cl Z H ds vs fp → Slots K cl Z H (ds.map some ++ List.replicate m none) (vs.map some ++ List.replicate m none) fp
  | [], vs, fp, m, h => by
    obtain ⟨e1, e2⟩ := h
    subst e1 e2
    induction m with
    | zero => exact ⟨rfl, rfl⟩
    | succ m ih => exact ⟨none, _, rfl, ih⟩
  | d :: ds, vs, fp, m, h => by
    obtain ⟨v, vr, f1, f2, e1, e2, q, r⟩ := h.cons'
    subst e1
    exact ⟨v, _, f1, f2, rfl, e2, q, Slots.start m r⟩
end
theorem fnF {P : Program} {w : World} {K : PySem.W.Frag} {mg : Str → Option Value} {base : Heap} {x qual : Str} {params : Arguments} {body : List Stmt} {scope : Scope} {dvs : List V} {kws : List (Str × V)} {f : Addr} {fd : FuncData} {N ps : List Str} {k : Nat} {g : Env → Os}
    (F : FunD K x qual params body scope dvs kws f fd) (S : FnScope N ps scope)
    (hb : ∀ (cdv : Value) (A : Around) (outer : List PySem.Env) (s : Shared) (H : Hp) (E : XK), Ctx (cxOf (L2.CX P w) P w K mg base N qual scope f cdv A outer s H E) (fun cls d _ H => E cls d H) k →
      DSs (cxOf (L2.CX P w) P w K mg base N qual scope f cdv A outer s H E) (fun cls d _ H => E cls d H) body g) : FnOk P w K mg base (L2.CX P w) (k + 1) f fd ps (spF K ps.length (runF N.length g)) := by
  refine F.ok S (fun vs H Q E h => h.1) fun cdv A outer s H vs Q E hr hsp => ?_
  obtain ⟨hl, Z, ds, ez, tk, dn, q⟩ := hsp
  have C : Ctx (cxOf (L2.CX P w) P w K mg base N qual scope f cdv A outer s H E) (fun cls d _ H => E cls d H) k := ⟨rfl, hr, passes_of rfl, takes_of rfl rfl rfl rfl, S.nd⟩
  refine ⟨_, (hb cdv A outer s H E C).run Z H, Z, ds.map some ++ List.replicate (N.length - ds.length) none, ⟨Gr.refl ez, tk, [], ?_, List.nodup_nil, fun _ z => nomatch z⟩, ?_⟩
  · have e : vs.length = ds.length := dn.length
    show Slots _ _ _ _ _ (vs.map some ++ List.replicate (N.length - vs.length) none) _
    rw [e]
    exact Slots.start _ dn
  · unfold runF at q
    cases e : g (ds.map some ++ List.replicate (N.length - ds.length) none) with
    | nx ρ => rw [e] at q; exact fun σ Z' H' s' => q .non Z' H' [] s'.g ⟨rfl, rfl⟩ List.nodup_nil fun _ z => nomatch z
    | rt d => rw [e] at q; exact fun v Z' H' fp g1 h nd fr => q v Z' H' fp g1 h nd fr
    | ex c ns xs ρ => rw [e] at q; exact fun dc σ Z' H' s' x => q dc Z' H' s'.g x
    | bk ρ => rw [e] at q; exact q.elim
    | ct ρ => rw [e] at q; exact q.elim
    | bad => rw [e] at q; exact q.elim
theorem dn_of {P : Program} {w : World} {K : PySem.W.Frag} {mg : Str → Option Value} {base : Heap} {x : Str} {params : Arguments} {body : List Stmt} {scope : Scope} {f : Addr} {fd : FuncData} {N ps : List Str} {k : Nat} {g : Env → Os}
    (F : FunD K x x params body scope [] [] f fd) (hm : mg x = some (.ref f)) (S : FnScope N ps scope)
    (hbi : ∀ (kV doc pm : Value) (an : Option Addr) (cdv ct : Value) (us : List Value), us.length = ps.length → bindArgs (PySem.W.fnOf x x params body scope .none kV doc pm an cdv ct) ⟨us, []⟩ = pure (ps.zip us))
    (hb : ∀ (cdv : Value) (A : Around) (outer : List PySem.Env) (s : Shared) (H : Hp) (E : XK), Ctx (cxOf (L2.CX P w) P w K mg base N x scope f cdv A outer s H E) (fun cls d _ H => E cls d H) k →
      DSs (cxOf (L2.CX P w) P w K mg base N x scope f cdv A outer s H E) (fun cls d _ H => E cls d H) body g) : Dn P w K mg base (k + 1) x ps.length (runF N.length g) :=
  ⟨f, fd, ps, hm, fnF F S hb, F.kp, F.bindsN hbi⟩
def callR (F : List D → Ou D) (ds : List D) : Ou D := match F (D.frzs ds) with
  | .ok d => if D.fzs ds || d.cln then .ok d else .bad
  | .ex c ns xs => if D.fzs ds || D.clns xs then .ex c ns xs else .bad
  | .bad => .bad
def dCall (F : List D → Ou D) (t : Env → Ou (List D)) : Env → Ou D := fun ρ => t ρ >>= callR F
mutual
theorem frz_fz : ∀ d : D, d.fz = true → d.frz = d
  | .non, _ => rfl
  | .bl _, _ => rfl
  | .int _, _ => rfl
  | .str _, _ => rfl
  | .tup xs, h => by
    simp only [D.frz]
    rw [frzs_fzs xs h]
  | .lst true xs, h => by
    have h' : false = true := h
    cases h'
  | .lst false xs, h => rfl
  | .ins _ _ _, _ => rfl
  | .scr _, _ => rfl
  | .adr _, _ => rfl
  | .cls _, _ => rfl
  | .pin _, _ => rfl
  | .err _ _ _, _ => rfl
  | .own _ _ _ _, h => by
    have h' : false = true := h
    cases h'
  | .lsa _ _, h => by
    have h' : false = true := h
    cases h'
  | .dct true _ _, h => by
    have h' : false = true := h
    cases h'
  | .dct false _ _, _ => rfl
  | .lok _ _, _ => rfl
  | .wth _ _, h => by
    have h' : false = true := h
    cases h'
theorem frzs_fzs : ∀ ds : List D, D.fzs ds = true → D.frzs ds = ds
  | [], _ => rfl
  | d :: ds, h => by
    obtain ⟨h1, h2⟩ := band (show (d.fz && D.fzs ds) = true from h)
    simp only [D.frzs]
    rw [frz_fz d h1, frzs_fzs ds h2]
end
section
variable {K : PySem.W.Frag} {cl : Str → Addr} {Z H Z' H' Z0 H0 : Hp}
theorem ExD.clean {Y : Hp} {ns : List Str} {xs : List D} {dc : Option Addr} (k : ∀ a, Z a = Y a ∨ (Z a = none ∧ ∃ xs : Mo, Y a = some xs.o)) (c : D.clns xs = true) (h : ExD K cl Y H ns xs dc) : ExD K cl Z H ns xs dc := by
  rcases h with h | ⟨d, vs, e1, e2, e3, e4⟩
  · exact .inl h
  · refine .inr ⟨d, vs, e1, ?_, e3, Dens.clean k xs vs [] c e4⟩
    rcases k d with z | ⟨_, ys, z⟩
    · exact z.trans e2
    · rw [z] at e2; exact Mo.ne e2
theorem spF_of {n : Nat} {F : List D → Ou D} {ds : List D} {vs : List V} {fp : Fp} {Q : VK} {W : WX} {σ : L2.St} (s : Ex Z H) (tk : TabsK K Z) (dn : Dens K (He.ga K) Z H ds vs fp) (hn : vs.length = n) (q : PostO K (He.ga K) W Z H σ (callR F ds) Q) : spF K n F vs H Q (WE W σ) := by
  have own : ∀ a ∈ fp, Z a = none := fun a ha => (Dens.own ds vs fp dn a ha).1
  have own2 : ∀ a ∈ fp, ∃ xs : Mo, H a = some xs.o := fun a ha => (Dens.own ds vs fp dn a ha).2
  have ez := frzH_ex (H := H) own
  have es : Ex (frzH Z H fp) H := frzH_to s own2
  refine ⟨hn, frzH Z H fp, D.frzs ds, es, tk.ex ez, Dens.freeze ez ds vs fp (fun a ha => if_pos ha) dn, ?_⟩
  -- back from a state over the frozen one
  have back : ∀ {Z2 H2 : Hp}, Gr (frzH Z H fp) H Z2 H2 → Gr Z H (cutH Z2 fp) H2 ∧ ∀ a, cutH Z2 fp a = Z2 a ∨ (cutH Z2 fp a = none ∧ ∃ xs : Mo, Z2 a = some xs.o) := fun {Z2 H2} g => by
    have sub : Ex (cutH Z2 fp) Z2 := .sub fun a o e => by
      unfold cutH at e
      split at e
      · cases e
      · exact e
    refine ⟨⟨(ez.trans g.z).chg fun a => ?_, g.h, sub.trans g.s, fun a h1 h2 => ?_⟩, fun a => ?_⟩
    · by_cases hm : a ∈ fp
      · obtain ⟨xs, e⟩ := own2 a hm
        exact .inr ⟨own a hm, xs, g.z.l ((if_pos hm).trans e)⟩
      · exact .inl (if_neg hm)
    · by_cases hm : a ∈ fp
      · exact if_pos hm
      · exact (if_neg hm).trans (g.n a h1 ((if_neg hm).trans h2))
    · by_cases hm : a ∈ fp
      · obtain ⟨xs, e⟩ := own2 a hm
        exact .inr ⟨if_pos hm, xs, g.z.l ((if_pos hm).trans e)⟩
      · exact .inl (if_neg hm)
  have fz0 : D.fzs ds = true → fp = [] := fun c => Dens.fz ds vs fp c dn
  have cut0 : ∀ {Z2 : Hp}, fp = [] → cutH Z2 fp = Z2 := fun {Z2} e => by
    subst e
    funext a
    exact if_neg (fun z => nomatch z)
  unfold callR at q
  cases e : F (D.frzs ds) with
  | bad => rw [e] at q; exact q.elim
  | ok d =>
    rw [e] at q
    have q : PostO K (He.ga K) W Z H σ (if D.fzs ds || d.cln then .ok d else .bad) Q := q
    split at q
    · rename_i c
      intro v Z2 H2 f g dd nd fr
      obtain ⟨g', kk⟩ := back g
      refine q v (cutH Z2 fp) H2 f g' ?_ nd fr
      rcases Bool.or_eq_true_iff.mp c with c | c
      · rw [cut0 (fz0 c)]; exact dd
      · exact Den.clean kk d v f c dd
    · exact q.elim
  | ex c ns xs =>
    rw [e] at q
    have q : PostO K (He.ga K) W Z H σ (if D.fzs ds || D.clns xs then .ex c ns xs else .bad) Q := q
    split at q
    · rename_i cc
      intro dc Z2 H2 g x
      obtain ⟨g', kk⟩ := back g
      refine q dc (cutH Z2 fp) H2 g' ?_
      rcases Bool.or_eq_true_iff.mp cc with c | c
      · rw [cut0 (fz0 c)]; exact x
      · exact ExD.clean kk c x
    · exact q.elim
end
section
variable {X : Cx} {W : WX} {k j n : Nat} {e : Expr} {es : List Expr} {t : Env → Ou (List D)} {pos p : Pos} {x : Str} {F : List D → Ou D}
theorem DE.call (C : Ctx X W k) (G : Dn X.prog X.w X.K X.mg X.base j x n F) (ha : DAB X W (e :: es) t) (hk : j ≤ k := by decide) (hn : ((e :: es).length == n) = true := by rfl) (hg : Gl X x := by rfl)
    (hdb : (x == ("__debug__" : Str)) = false := by decide) (he : starEach (e :: es) X.env = (false, eval e X.env) :: starEach es X.env := by rfl) (hpl : (backTo pos (starEach es X.env)).any (·.1) = false := by rfl) : DE X W (.Call (.Name x p) (e :: es) [] pos) (dCall F t) := by
  obtain ⟨f, fd, ps, hm, ok, kp, hb⟩ := G.ex
  refine ⟨PE.weak (pe_callS ok (C.hr.mono hk) hg hm kp hb (fun σ => passAt C.tk σ) ha.run hdb he hpl) fun σ H Q hq => ?_⟩
  obtain ⟨Z, ρ, r, q⟩ := hq
  refine tVs_bind (P := fun Z H o => PostO X.K (He.ga X.K) W Z H σ o Q) r (fun _ _ _ z => z) (fun z => z) q fun ds vs Z1 H1 fp ex g1 dn q => ?_
  refine spF_of g1.s (r.t.ex g1.z) dn ?_ (PostO.gr q g1)
  rw [dn.length, ha.len ρ ds ex]
  exact beq_iff_eq.mp hn
end
inductive BT where
  | int | bool | tuple | list | str
def BT.nm : BT → String
  | .int => "int"
  | .bool => "bool"
  | .tuple => "tuple"
  | .list => "list"
  | .str => "str"
def BT.st : BT → Str
  | .int => "int"
  | .bool => "bool"
  | .tuple => "tuple"
  | .list => "list"
  | .str => "str"
theorem BT.boot : ∀ b : BT, bootBuiltins b.st = some (.type b.nm)
  | .int => boot_int
  | .bool => boot_bool
  | .tuple => boot_tuple
  | .list => boot_list
  | .str => boot_str
theorem BT.ne : ∀ b : BT, b.st ≠ "__name__" := by intro b; cases b <;> decide
theorem BT.nd : ∀ b : BT, (b.st == ("__debug__" : Str)) = false := by intro b; cases b <;> decide
def isiD : BT → D → Option Bool
  | .int, .int _ => some true
  | .int, .bl _ => some true
  | .bool, .bl _ => some true
  | .tuple, .tup _ => some true
  | .list, .lst _ _ => some true
  | .str, .str _ => some true
  | _, .non => some false
  | _, .int _ => some false
  | _, .bl _ => some false
  | _, .tup _ => some false
  | _, .lst _ _ => some false
  | _, .str _ => some false
  | _, _ => none
def dIsi (b : BT) (f : Env → Ou D) : Env → Ou D := fun ρ => f ρ >>= fun d => ofO ((isiD b d).map .bl)
theorem tyx_tup {K : PySem.W.Frag} {H : Hp} {a : Addr} {vs : List V} (h : SqT K H a vs) : TyX K H (.ref a) (.type "tuple") := by
  rcases h with (h | ⟨o, h⟩) | ⟨o, its, n, h1, h2, _⟩
  · exact .base (.tup h)
  · exact .fTuple h
  · exact .kTuple h1 h2
theorem isi_core {K : PySem.W.Frag} {cl : Str → Addr} {Z H : Hp} {d : D} {v : V} {fp : Fp} (s : Ex Z H) (h : Den K cl Z H d v fp) (b : BT) {r : Bool} (e : isiD b d = some r) :
    ∃ t, TyX K H v (.type t) ∧ PySem.W.kitOne K (.type t) (.type b.nm) = some r := by
  cases d with
  | non =>
    rw [h.1]
    refine ⟨"NoneType", .base .non, kit_ty ?_⟩
    cases b <;> cases e <;> decide +kernel
  | bl c =>
    rw [h.1]
    refine ⟨"bool", .base (.bl c), kit_ty ?_⟩
    cases b <;> cases e <;> decide +kernel
  | int i =>
    rw [h.1]
    refine ⟨"int", .base (.int i), kit_ty ?_⟩
    cases b <;> cases e <;> decide +kernel
  | str x =>
    rw [h.1]
    refine ⟨"str", .base (.str x), kit_ty ?_⟩
    cases b <;> cases e <;> decide +kernel
  | tup xs =>
    obtain ⟨a, vs, rfl, q, _⟩ := h.tupH s
    refine ⟨"tuple", tyx_tup q, kit_ty ?_⟩
    cases b <;> cases e <;> decide +kernel
  | lst o xs =>
    obtain ⟨a, vs, f, rfl, q, _⟩ := h.lstH s
    refine ⟨"list", .base (.lst q), kit_ty ?_⟩
    cases b <;> cases e <;> decide +kernel
  | ins c ns xs => cases b <;> cases e
  | scr ns => cases b <;> cases e
  | adr a => cases b <;> cases e
  | cls c => cases b <;> cases e
  | pin a => cases b <;> cases e
  | err c ns xs => cases b <;> cases e
  | own oa c ns xs => cases b <;> cases e
  | lsa a xs => cases b <;> cases e
  | dct o ks xs => cases b <;> cases e
  | lok ks xs => cases b <;> cases e
  | wth x ds => cases b <;> cases e
theorem DE.isi {X : Cx} {W : WX} {a : Expr} {f : Env → Ou D} {pos p q : Pos} (b : BT) (ha : DB X W a f) (hm : X.mg "isinstance" = none) (hmb : X.mg b.st = none) (hg : Gl X "isinstance" := by rfl) (hgb : Gl X b.st := by rfl)
    (he : starEach [a, .Name b.st q] X.env = (false, eval a X.env) :: starEach [.Name b.st q] X.env := by rfl) (he2 : starEach [.Name b.st q] X.env = (false, eval (.Name b.st q) X.env) :: starEach [] X.env := by rfl) (hpl : (backTo pos (starEach [.Name b.st q] X.env)).any (·.1) = false := by rfl) :
    DE X W (.Call (.Name "isinstance" p) [a, .Name b.st q] [] pos) (dIsi b f) := by
  refine ⟨PE.weak (pe_callB call_isi hg hm boot_isinstance (pa_cons ha.run (pa_cons (pe_bltn (v := .ty b.nm) hgb hmb b.boot rfl b.ne b.nd) pa_nil he2) he) (by decide) (by decide) he hpl) fun σ H Q hq => ?_⟩
  obtain ⟨Z, ρ, r, q⟩ := hq
  refine tV_bind (P := fun Z H o => PostO X.K (He.ga X.K) W Z H σ o Q) r (fun _ _ _ z => z) (fun z => z) q fun d v Z1 H1 fx ex g1 dx q => ?_
  have q := PostO.gr q g1
  match e : isiD b d with
  | some c =>
    rw [e] at q
    obtain ⟨t, h1, h2⟩ := isi_core g1.s dx b e
    exact ⟨v, .ty b.nm, _, _, c, rfl, .ty _, h1, h2, PostV.bl g1.s q⟩
  | none => rw [e] at q; exact q.elim
end DL
namespace DL
open PySem PySem.Spec PyProof.Rows L2
variable [Tb]
theorem _root_.L2.Room.units65 {k : Nat} {A : Around} (r : Room k A) : A.units + 65 < cLine := by have := r.un; omega
def TabsH (K : PySem.W.Frag) (h : Heap) : Prop := ∀ p ∈ lamP K, PySem.W.CodeHd h (He.cT K p.1).1 (He.cT K p.1).2 ∧ K.lookup (He.cT K p.1).2 = none ∧ h.get? (He.cT K p.1).2 = some { cls := .none, data := .fields #[] }
def TabsB (K : PySem.W.Frag) (mg : Str → Option Value) (base : Heap) : Prop := ∀ p ∈ lamP K, LamX.TabB base mg (He.cT K p.1).1 (He.cT K p.1).2
theorem walk_ofX {l : PySem.W.OpenLaw} {n k : Nat} {q : Program} {loose : List Str} {XP : (Str → Option Value) → Heap → Prop} {YP : World → Heap → Prop} {d : DefRec} {x : Str} {F : List D → Ou D}
    (hn : l.most = some n) (hn2 : n ≤ sizeLine) (hdf : d.params.defaults = []) (hr : Room k callerA)
    (hF : ∀ (w : World) (mg : Str → Option Value) (fa : Addr) (h : Heap), YP w h → h.Ns mainGlobals mg → mg d.name = some (.ref fa) →
      ∃ (K : PySem.W.Frag) (fd : FuncData), K.In h ∧ TabsH K h ∧ (∀ (s : Shared) (u : Value), BindsTo s fd ⟨[u], []⟩ [(x, u)]) ∧
        ∀ base : Heap, K.In base → base.Ns mainGlobals mg → TabsB K mg base → FnOk l.prog w K mg base (L2.CX l.prog w) k fa fd [x] (@spF ⟨tabsOf K⟩ K 1 F))
    (hp : ∀ ns : List Int, ns.length ≤ n → F [.scr ns] = .ok (.bl true)) :
    PySem.W.WalkO q loose XP YP l.row.toRowW d [] (fun f vs => PySem.call f vs) := by
  refine Att.attach_callB hn hdf fun w s₀ s₁ mg mb fa o pm cd doc a vs ns G Y ho hd hcd hmg hobj hints hlen hbits hg => ?_
  obtain ⟨K, fd, KX, hT, hb, hok⟩ := hF w mg fa _ Y G.T.g hmg
  letI : Tb := ⟨tabsOf K⟩
  have mem : ∀ c ∈ (lamP K).map (fun p => He.cT K p.1), ∃ p ∈ lamP K, He.cT K p.1 = c := fun c hc => List.mem_map.mp hc
  refine LamX.law_callTs (cs := (lamP K).map fun p => He.cT K p.1) KX G.T.g G.T.b G.T.builtins G.T.nolimit hg (fun c hc => ?_) (fun c hc => ?_) (fun c hc => ?_) G.T.bmain hobj hints (Nat.le_trans hlen hn2) hr
    (fun base h1 h2 h3 => hok base h1 h2 fun p hp => h3 _ (List.mem_map.mpr ⟨p, hp, rfl⟩)) hb (fun H hH hS => ?_) fun H e s' z => ?_
  · obtain ⟨p, hp, rfl⟩ := mem c hc
    exact (hT p hp).2.2
  · obtain ⟨p, hp, rfl⟩ := mem c hc
    exact (hT p hp).2.1
  · obtain ⟨p, hp, rfl⟩ := mem c hc
    exact (hT p hp).1
  · refine ⟨rfl, H, [.scr ns], Ex.refl H, fun p hp => ?_, ⟨_, [], [], [], rfl, rfl, ⟨a, rfl, rfl, hS⟩, ⟨rfl, rfl⟩⟩, ?_⟩
    · obtain ⟨p', hp', rfl⟩ := List.mem_map.mp hp
      exact LamX.TabS.nil (hH _ (List.mem_map.mpr ⟨p', hp', rfl⟩))
    · rw [hp ns hlen]
      intro v Z' H' fp g h _ _
      exact h.1
  · obtain ⟨_, _, _, _, _, _, _, _, _, _, _, _, z⟩ := z
    exact z
end DL
namespace DL
open PySem PySem.Spec PyProof.Rows L2
variable [Tb]
def pyLe (x y : PyData) : Bool := PySem.W.dataLe false (id : PyData → PyData) x y
def leB (x y : D) : Bool := pyLe x.py y.py
def pyTup1 : PyData → Bool
  | .tuple (_ :: _) => true
  | _ => false
def pyTupNone : PyData → Bool
  | .none => true
  | .tuple _ => true
  | _ => false
def sortOkP (ds : List PyData) : Bool := (ds.all fun x => ds.all fun y => PySem.W.alike x y) && (ds.all pyTup1 || ds.all fun d => !pyTupNone d)
def sortOk (xs : List D) : Bool := D.okds xs DEP && sortOkP (D.pys xs)
def sortL (xs : List D) : List D := xs.mergeSort leB
def sortN : List D → Option D
  | [.lst _ xs] => if D.fzs xs && sortOk xs && decide (xs.length ≤ LIM) then some (.lst true (sortL xs)) else none
  | _ => none
theorem sortOkP_ok {ds : List PyData} (h : sortOkP ds = true) : PySem.W.AllAlike ds ∧ PySem.W.Sortable ds := by
  obtain ⟨h1, h2⟩ := band h
  refine ⟨fun d hd d' hd' => List.all_eq_true.mp (List.all_eq_true.mp h1 d hd) d' hd', ?_⟩
  rcases Bool.or_eq_true_iff.mp h2 with h2 | h2
  · refine .inl fun d hd => ?_
    have q := List.all_eq_true.mp h2 d hd
    cases d with
    | tuple xs =>
      cases xs with
      | nil => cases q
      | cons x r => exact ⟨x, r, rfl⟩
    | _ => cases q
  · refine .inr fun d hd => ?_
    have q := List.all_eq_true.mp h2 d hd
    constructor
    · rintro rfl; cases q
    · rintro xs rfl; cases q
theorem pys_map : ∀ ds : List D, D.pys ds = ds.map D.py
  | [] => rfl
  | d :: ds => congrArg (d.py :: ·) (pys_map ds)
def rSortD (K : PySem.W.Frag) : List V → Hp → VK → Prop := fun vs H Q => ∃ (a : Addr) (ys : List V) (ds : List PyData), vs = [V.ref a] ∧ SqL K H a ys ∧ DpAll K H ys ds ∧ sortOkP ds = true ∧ (∀ d ∈ ds, d.depth ≤ DEP) ∧
  ∀ p, H p = none → Q (.ref p) (upd H p (.lst (((ys.zip ds).mergeSort (PySem.W.dataLe false fun p : V × PyData => p.2)).map (·.1))))
section
variable {X : Cx} {pins : List (Addr × Obj)} {σ : L2.St} {H : Hp} {s : Shared}
theorem sort_each (I : Inv X pins σ H s) : ∀ {ys : List V} {ds : List PyData} {its : List Value}, DpAll X.K H ys ds → Vals ys its →
    PySem.W.EachIs (fun (v : Value) (p : V × PyData) => RelV p.1 v) its (ys.zip ds) ∧ PySem.W.EachIs (fun (v : Value) (p : V × PyData) => ∃ as, Reads s.heap v p.2 as) its (ys.zip ds) ∧ (ys.zip ds).map (·.2) = ds ∧ ys.length = ds.length
  | _, _, _, .nil, h => by
    cases h
    exact ⟨.nil, .nil, rfl, rfl⟩
  | _, _, _, .cons (v := v) (vs := vs) (d := d) (ds := ds) h1 h2, h => by
    cases h with
    | cons r rs =>
      obtain ⟨q1, q2, q3, q4⟩ := sort_each I h2 rs
      exact ⟨.cons r q1, .cons (Dp.reads I _ _ _ h1 r) q2, congrArg (d :: ·) q3, congrArg (· + 1) q4⟩
theorem vals_out : ∀ {out : List Value} {ps : List (V × PyData)}, PySem.W.EachIs (fun (v : Value) (p : V × PyData) => RelV p.1 v) out ps → Vals (ps.map (·.1)) out
  | _, _, .nil => .nil
  | _, _, .cons r rs => .cons r (vals_out rs)
theorem call_sortD {X : Cx} (hu : X.A.units + 65 < cLine) : CallR X (.builtin "sorted") (rSortD X.K) := by
  intro pins s σ H vs us Q I r h
  obtain ⟨a, ys, ds, rfl, hs, hd, hok, hdep, q⟩ := h
  obtain ⟨its, rv, hl, hz⟩ := I.list hs
  rw [Vals.ref1 r]
  obtain ⟨e1, e2, e3, e4⟩ := sort_each I hd rv
  obtain ⟨o1, o2⟩ := sortOkP_ok hok
  have hzl : (ys.zip ds).length = ys.length := by rw [List.length_zip, e4, Nat.min_self]
  refine PySem.W.sorted_data (enc := fun p : V × PyData => p.2) hl.isList e1 e2 (by rw [e3]; exact o1) (by rw [e3]; exact o2) (by rw [hzl]; exact hz) (fun p hp => ?_) fun out h1 h2 => ?_
  · have hm : p.2 ∈ ds := by rw [← e3]; exact List.mem_map_of_mem hp
    have := hdep _ hm
    have : DEP = 20 := rfl
    omega
  · obtain ⟨ep, he'⟩ := PyProof.Rows.sortedAll_at s.heap its out.toArray
    have rv' := vals_out h2
    refine ⟨.ref _, upd H (s.heap.objs.size + 1) (.lst (((ys.zip ds).mergeSort (PySem.W.dataLe false fun p : V × PyData => p.2)).map (·.1))),
      I.laid (t' := s.toks) (fun _ _ => PyProof.Rows.sortedAll_old) (Nat.le_succ _) ⟨?_, out, ep, rv', he'⟩, rfl, q _ (I.hok.fresh (Nat.le_succ _))⟩
    rw [List.length_map, List.length_mergeSort, hzl]
    exact hz
end
section
variable {K : PySem.W.Frag} {cl : Str → Addr} {Z H Z' H' : Hp}
theorem dens_perm : ∀ {ps qs : List (V × D)}, ps.Perm qs → (∀ p ∈ ps, Den K cl Z H p.2 p.1 []) → Dens K cl Z H (qs.map (·.2)) (qs.map (·.1)) [] := by
  intro ps qs hp h
  have h' : ∀ p ∈ qs, Den K cl Z H p.2 p.1 [] := fun p m => h p (hp.mem_iff.mpr m)
  clear h hp
  induction qs with
  | nil => exact ⟨rfl, rfl⟩
  | cons q qs ih => exact ⟨q.1, qs.map (·.1), [], [], rfl, rfl, h' q (List.mem_cons_self ..), ih fun p m => h' p (List.mem_cons_of_mem _ m)⟩
theorem dens_zip : ∀ {ds : List D} {vs : List V}, Dens K cl Z H ds vs [] → ∀ p ∈ vs.zip ds, Den K cl Z H p.2 p.1 []
  | [], vs, h, p, m => by
    rw [h.1] at m
    cases m
  | d :: ds, vs, h, p, m => by
    obtain ⟨v, vr, f1, f2, e1, e2, q, r⟩ := h.cons'
    subst e1
    have ef := List.append_eq_nil_iff.mp e2.symm
    obtain ⟨rfl, rfl⟩ := ef
    rcases List.mem_cons.mp m with rfl | m
    · exact q
    · exact dens_zip r p m
theorem zip_py : ∀ (ds : List D) (vs : List V), vs.length = ds.length → (vs.zip ds).map (fun p => (p.1, p.2.py)) = vs.zip (D.pys ds)
  | [], vs, h => by cases vs <;> rfl
  | d :: ds, [], h => by cases h
  | d :: ds, v :: vs, h => congrArg ((v, d.py) :: ·) (zip_py ds vs (Nat.succ.inj h))
theorem depth_all : ∀ {ds : List PyData} {n : Nat}, PyData.depthAll ds ≤ n → ∀ d ∈ ds, d.depth ≤ n
  | [], n, h, d, m => nomatch m
  | x :: xs, n, h, d, m => by
    simp only [PyData.depthAll] at h
    rcases List.mem_cons.mp m with rfl | m
    · exact Nat.le_trans (Nat.le_max_left _ _) h
    · exact depth_all (Nat.le_trans (Nat.le_max_right _ _) h) d m
theorem opN_sort : OpN K cl (rSortD K) sortN := by
  intro Z H xs d vs fp Q s h e q
  unfold sortN at e
  split at e
  · rename_i o xs
    split at e
    · rename_i c
      cases e
      obtain ⟨c, c3⟩ := band c
      obtain ⟨c1, c2⟩ := band c
      obtain ⟨c2, c4⟩ := band c2
      obtain ⟨v, rfl, hv⟩ := h.one'
      obtain ⟨a, ys, f, rfl, hq, hd, _⟩ := hv.lstH s
      have hd := Dens.fz0 c1 hd
      refine ⟨a, ys, D.pys xs, rfl, .inl (.inl hq), Dens.dp s xs DEP ys [] c2 hd, c4, depth_all (okds_lay xs DEP c2).2, fun p hp => ?_⟩
      have el : ys.length = xs.length := hd.length
      have em : ((ys.zip xs).mergeSort (fun p q => leB p.2 q.2)).map (fun p => (p.1, p.2.py)) = (ys.zip (D.pys xs)).mergeSort (PySem.W.dataLe false fun p : V × PyData => p.2) := by
        rw [← zip_py xs ys el]
        exact List.map_mergeSort fun a _ b _ => rfl
      have e1 : ((ys.zip (D.pys xs)).mergeSort (PySem.W.dataLe false fun p : V × PyData => p.2)).map (·.1) = ((ys.zip xs).mergeSort (fun p q => leB p.2 q.2)).map (·.1) := by
        rw [← em, List.map_map]
        rfl
      have e2 : ((ys.zip xs).mergeSort (fun p q => leB p.2 q.2)).map (·.2) = sortL xs := by
        have : ((ys.zip xs).mergeSort (fun p q => leB p.2 q.2)).map (·.2) = ((ys.zip xs).map (·.2)).mergeSort leB := List.map_mergeSort fun a _ b _ => rfl
        rw [this, List.map_snd_zip (by rw [el]; exact Nat.le_refl _)]
        rfl
      rw [e1]
      have r := dens_perm (List.mergeSort_perm (ys.zip xs) (fun p q => leB p.2 q.2)).symm (dens_zip hd)
      rw [e2] at r
      exact PostV.lst0 q s r p hp
    · cases e
  · cases e
end
end DL
namespace DL
open PySem PySem.Spec PyProof.Rows L2
variable [Tb]
section
variable {K : PySem.W.Frag} {cl : Str → Addr} {Z H Z' H' Z0 H0 Z1 H1 : Hp} {σ : L2.St} {ρ : Env} {W : WX}
theorem Sta.list2 {i j : Nat} {xs ys : List D} (s : Sta K cl Z0 H0 Z H σ ρ) (e : ρ[i]? = some (some (.lst true xs))) (e2 : xs[j]? = some (.lst true ys)) :
    ∃ (a : Addr) (vs : List V) (b : Addr) (ws : List V) (fq rest : Fp), σ[i]? = some (some (.ref a)) ∧ H a = some (.lst vs) ∧ vs.length = xs.length ∧ vs[j]? = some (.ref b) ∧ H b = some (.lst ws) ∧ Dens K cl Z H ys ws fq ∧ (b :: (fq ++ rest)).Nodup ∧
      (∀ c ∈ b :: (fq ++ rest), H c ≠ none ∧ H0 c = none ∧ Z c = none) ∧
      ∀ (Z1 H1 : Hp) (ws' : List V) (ys' : List D) (fq' : Fp), Gr Z H Z1 H1 → fq'.Nodup → (∀ c ∈ fq', c ≠ b ∧ c ∉ rest ∧ H0 c = none) → Dens K cl Z1 (upd H1 b (.lst ws')) ys' ws' fq' →
        Sta K cl Z0 H0 Z1 (upd H1 b (.lst ws')) σ (ρ.set i (some (.lst true (xs.set j (.lst true ys'))))) := by
  obtain ⟨fp, sl, nd, fr⟩ := s.e
  obtain ⟨v, f, rest0, h1, h2, h3, h4⟩ := sl.split e
  simp only [Den] at h2
  obtain ⟨a, vs, fq0, e1, ef, za, q, r⟩ := h2
  subst e1 ef
  obtain ⟨u, f2, rest1, k1, k2, k3, k4⟩ := Dens.split r e2
  simp only [Den] at k2
  obtain ⟨b, ws, fq, e3, ef2, zb, qb, rb⟩ := k2
  subst e3 ef2
  have pm : fp.Perm (b :: (fq ++ (a :: (rest1 ++ rest0)))) := by
    refine h3.trans ?_
    show (a :: (fq0 ++ rest0)).Perm _
    refine (List.Perm.cons a (List.Perm.append_right rest0 k3)).trans ?_
    show (a :: (b :: (fq ++ rest1) ++ rest0)).Perm _
    have p1 : (a :: (b :: (fq ++ rest1) ++ rest0)).Perm (b :: (a :: (fq ++ rest1) ++ rest0)) := List.Perm.swap b a _
    refine p1.trans (List.Perm.cons b ?_)
    show (a :: (fq ++ rest1 ++ rest0)).Perm _
    rw [List.append_assoc]
    exact List.perm_middle.symm
  have nd2 : (b :: (fq ++ (a :: (rest1 ++ rest0)))).Nodup := pm.nodup_iff.mp nd
  have mm : ∀ c ∈ b :: (fq ++ (a :: (rest1 ++ rest0))), c ∈ fp := fun c hc => pm.symm.mem_iff.mp hc
  have ow : ∀ c ∈ b :: (fq ++ (a :: (rest1 ++ rest0))), Z c = none ∧ ∃ xs : Mo, H c = some xs.o := fun c hc => Slots.own sl c (mm c hc)
  have mrest : ∀ c ∈ a :: (rest1 ++ rest0), c ∈ b :: (fq ++ (a :: (rest1 ++ rest0))) := fun c hc => List.mem_cons_of_mem _ (List.mem_append_right _ hc)
  refine ⟨a, vs, b, ws, fq, a :: (rest1 ++ rest0), h1, q, r.length, k1, qb, rb, nd2, fun c hc => ?_, fun Z1 H1 ws' ys' fq' g nf dj dn => ?_⟩
  · obtain ⟨z, xs, q'⟩ := ow c hc
    exact ⟨by rw [q']; exact Option.some_ne_none _, fr c (mm c hc), z⟩
  · have ndb := List.nodup_cons.mp nd2
    have s1 := s.gr g
    have nb : ∀ c ∈ a :: (rest1 ++ rest0), c ≠ b := fun c hc z => ndb.1 (z ▸ List.mem_append_right _ hc)
    have hr : ∀ c ∈ a :: (rest1 ++ rest0), Z1 c = none ∧ upd H1 b (.lst ws') c = H c := fun c hc => by
      obtain ⟨z, q'⟩ := ow c (mrest c hc)
      obtain ⟨b1, b2⟩ := g.own z q'
      exact ⟨b1, by rw [upd_ne (nb c hc)]; exact b2⟩
    have zb1 := (g.own zb ⟨.l ws, qb⟩).1
    obtain ⟨fq1, m1, m2⟩ := k4 Z1 (upd H1 b (.lst ws')) (.lst true ys') (.ref b) (b :: fq') g.z (fun c hc => hr c (List.mem_cons_of_mem _ (List.mem_append_left _ hc))) (by
      simp only [Den]
      exact ⟨b, ws', fq', rfl, rfl, zb1, upd_same, dn⟩)
    have evs : vs.set j (.ref b) = vs := by
      apply List.ext_getElem?
      intro n
      by_cases c : j = n
      · subst c
        by_cases c2 : j < vs.length
        · rw [List.getElem?_set_self c2, k1]
        · rw [List.getElem?_eq_none (by omega)] at k1; cases k1
      · rw [List.getElem?_set_ne c]
    rw [evs] at m1
    have ha := hr a List.mem_cons_self
    obtain ⟨fp', n1, n2⟩ := h4 Z1 (upd H1 b (.lst ws')) (.lst true (xs.set j (.lst true ys'))) (a :: fq1) g.z (fun c hc => hr c (List.mem_cons_of_mem _ (List.mem_append_right _ hc))) (by
      simp only [Den]
      exact ⟨a, vs, fq1, rfl, rfl, ha.1, ha.2.trans q, m1⟩)
    have pm' : fp'.Perm (b :: (fq' ++ (a :: (rest1 ++ rest0)))) := by
      refine n2.trans ?_
      show (a :: (fq1 ++ rest0)).Perm _
      refine (List.Perm.cons a (List.Perm.append_right rest0 m2)).trans ?_
      show (a :: (b :: (fq' ++ rest1) ++ rest0)).Perm _
      have p1 : (a :: (b :: (fq' ++ rest1) ++ rest0)).Perm (b :: (a :: (fq' ++ rest1) ++ rest0)) := List.Perm.swap b a _
      refine p1.trans (List.Perm.cons b ?_)
      show (a :: (fq' ++ rest1 ++ rest0)).Perm _
      rw [List.append_assoc]
      exact List.perm_middle.symm
    have lb : ∃ xs : Mo, H1 b = some xs.o := ⟨.l ws, g.h.l qb⟩
    refine ⟨⟨s1.g.z, s1.g.h.mut (fr b (mm b List.mem_cons_self)) lb, s1.g.s.mut zb1 lb, s1.g.n⟩, s1.t, fp', n1, ?_, fun c hc => ?_⟩
    · refine pm'.symm.nodup_iff.mp ?_
      rw [List.nodup_cons, List.nodup_append]
      refine ⟨fun hm => ?_, nf, (List.nodup_append.mp ndb.2).2.1, fun x hx y hy c => (dj x hx).2.1 (c ▸ hy)⟩
      rcases List.mem_append.mp hm with z | z
      · exact (dj b z).1 rfl
      · exact ndb.1 (List.mem_append_right _ z)
    · rcases List.mem_cons.mp (pm'.mem_iff.mp hc) with z | z
      · subst z; exact fr c (mm c List.mem_cons_self)
      · rcases List.mem_append.mp z with z | z
        · exact (dj c z).2.2
        · exact fr c (mm c (mrest c z))
end
section
variable {X : Cx} {W : WX} {st : Stmt} {rest : List Stmt} {a b e c : Expr} {f g : Env → Ou D} {k h : Env → Os} {p : Env → Ou Bool} {pos : Pos}
theorem atI_of {α : Type} {xs : List α} {n : Nat} {k : Int} {j : Nat} {x : α} (hn : xs.length = n) (e : ixN n k = some j) (h : xs[j]? = some x) : atI xs k = some x := by
  unfold atI
  rw [hn, e]
  exact h
def sMove (m i : Nat) (g : Env → Ou D) : Env → Os := fun ρ => match ρ[i]? with
  | some (some (.lst true xs)) => ofU (g ρ) ρ fun k => match k with
    | .int k => match ixN xs.length k with
      | some j => match xs[j]? with
        | some (.lst true ys) => if m < ρ.length then .nx ((ρ.set i (some (.lst true (xs.set j (.adr 0))))).set m (some (.lst true ys))) else .bad
        | _ => .bad
      | none => .bad
    | _ => .bad
  | _ => .bad
end
end DL
namespace DL
open PySem PySem.Spec PyProof.Rows L2
variable [Tb]
def setAllE : Env → List Nat → List D → Env
  | ρ, i :: is, d :: ds => setAllE (ρ.set i (some d)) is ds
  | ρ, _, _ => ρ
def setAllV : L2.St → List Nat → List V → L2.St
  | σ, i :: is, v :: vs => setAllV (σ.set i (some v)) is vs
  | σ, _, _ => σ
def gAll : List Nat → TGs
  | [] => gNil
  | i :: is => gCons (gName i) (gAll is)
theorem gAll_of : ∀ (is : List Nat) (vs : List V) (σ : L2.St) (H : Hp) (Q : L2.St → Hp → Prop), vs.length = is.length → Q (setAllV σ is vs) H → gAll is vs σ H Q
  | [], [], σ, H, Q, _, q => ⟨rfl, q⟩
  | i :: is, v :: vs, σ, H, Q, l, q => ⟨v, vs, rfl, gAll_of is vs _ H Q (Nat.succ.inj l) q⟩
section
variable {K : PySem.W.Frag} {cl : Str → Addr} {Z H Z' H' Z0 H0 : Hp}
theorem Slots.setAll : ∀ {is : List Nat} {ds : List D} {vs : List V} {ρ : Env} {σ : L2.St} {fp g : Fp}, Slots K cl Z H ρ σ fp → fp.Nodup → Dens K cl Z H ds vs g → g.Nodup → (∀ a ∈ g, a ∉ fp) → ds.length = is.length → (∀ i ∈ is, i < ρ.length) →
    ∃ fp', Slots K cl Z H (setAllE ρ is ds) (setAllV σ is vs) fp' ∧ fp'.Nodup ∧ ∀ a ∈ fp', a ∈ fp ∨ a ∈ g
  | [], [], vs, ρ, σ, fp, g, s, nd, d, ng, dj, _, _ => ⟨fp, by simpa [setAllE, setAllV] using s, nd, fun a h => .inl h⟩
  | i :: is, x :: ds, vs, ρ, σ, fp, g, s, nd, d, ng, dj, hl, hi => by
    obtain ⟨v, vr, g1, g2, e1, e2, q, r⟩ := d.cons'
    subst e1 e2
    have ng' := List.nodup_append.mp ng
    obtain ⟨fp1, a1, a2, a3⟩ := Slots.set (i := i) s nd q ng'.1 (fun a ha => dj a (List.mem_append_left _ ha)) (hi i List.mem_cons_self)
    obtain ⟨fp2, b1, b2, b3⟩ := Slots.setAll a1 a2 r ng'.2.1 (fun a ha hb => by
      rcases a3 a hb with z | z
      · exact dj a (List.mem_append_right _ ha) z
      · exact ng'.2.2 a z a ha rfl) (Nat.succ.inj hl) (fun j hj => by rw [List.length_set]; exact hi j (List.mem_cons_of_mem _ hj))
    refine ⟨fp2, b1, b2, fun a ha => ?_⟩
    rcases b3 a ha with z | z
    · rcases a3 a z with z | z
      · exact .inl z
      · exact .inr (List.mem_append_left _ z)
    · exact .inr (List.mem_append_right _ z)
theorem Sta.setAll {σ : L2.St} {ρ : Env} {ds : List D} {vs : List V} {fp : Fp} {is : List Nat} (s : Sta K cl Z0 H0 Z H σ ρ) (g1 : Gr Z H Z' H') (dn : Dens K cl Z' H' ds vs fp) (nd : fp.Nodup) (fr : ∀ a ∈ fp, H a = none) (hl : ds.length = is.length) (hi : ∀ i ∈ is, i < ρ.length) :
    Sta K cl Z0 H0 Z' H' (setAllV σ is vs) (setAllE ρ is ds) := by
  have s1 := s.gr g1
  obtain ⟨fq1, sl1, n1, f1⟩ := s.e
  have dj : ∀ a ∈ fp, a ∉ fq1 := fun a ha hb => by
    obtain ⟨_, xs, e⟩ := Slots.own sl1 a hb
    rw [fr a ha] at e; cases e
  have sl2 : Slots K cl Z' H' ρ σ fq1 := Slots.mono g1.z (fun a ha => by
    obtain ⟨z, xs, q⟩ := Slots.own sl1 a ha
    exact ⟨g1.n a (by rw [q]; exact Option.some_ne_none _) z, by rw [q]; exact g1.h.l q⟩) sl1
  obtain ⟨fp', a1, a2, a3⟩ := Slots.setAll sl2 n1 dn nd dj hl hi
  refine ⟨s1.g, s1.t, fp', a1, a2, fun a ha => ?_⟩
  rcases a3 a ha with z | z
  · exact f1 a z
  · exact s.g.h.back (fr a z)
end
def sTup (is : List Nat) (f : Env → Ou D) : Env → Os := fun ρ => ofU (f ρ) ρ fun d => match d with
  | .tup ds => if decide (ds.length = is.length) && is.all (fun i => decide (i < ρ.length)) then .nx (setAllE ρ is ds) else .bad
  | _ => .bad
section
variable {X : Cx} {W : WX} {e : Expr} {f : Env → Ou D} {pos p : Pos}
theorem GN.nil : PGs X [] (gAll []) := pgs_nil
theorem GN.cons (i : Nat) {is : List Nat} {x : Str} {es : List Expr} (hN : X.N.Nodup) (h : PGs X es (gAll is)) (hi : X.N[i]? = some x := by rfl) (hx : Loc X.env.scope x := by first | exact Or.inl rfl | exact Or.inr rfl) (hf : X.fn x = true ∨ X.env.scope.names.lookup x = some .local := by first | exact .inl rfl | exact .inr rfl | assumption)
    (hs : (assignEach (.Name x p :: es) X.env).map (·.2) = assign (.Name x p) X.env :: (assignEach es X.env).map (·.2) := by rfl) : PGs X (.Name x p :: es) (gAll (i :: is)) := pgs_cons (pg_name hN hi hx hf) h hs
end
def anyOf : D → Ou (List D)
  | .str x => chrsOf (.str x)
  | d => seqOf d
def anyOfB : D → Ou (List D)
  | .str x => chrsOf (.str x)
  | d => seqOfB d
def iAny (f : Env → Ou D) : Env → Ou (List D) := fun ρ => f ρ >>= anyOf
def iAnyB (f : Env → Ou D) : Env → Ou (List D) := fun ρ => f ρ >>= anyOfB
section
variable {X : Cx} {W : WX} {tg e : Expr} {f : Env → Ou D}
theorem DI.any (h : DE X W e f) : DI X W tg e (iAny f) := by
  refine ⟨PI.weak (DL.PI.or (DI.seq (tg := tg) h).run (DI.chr (tg := tg) (DB.ofE h)).run) fun σ H R hq => ?_⟩
  obtain ⟨Z, ρ, r, q⟩ := hq
  unfold iAny at q
  cases ef : f ρ with
  | ok d =>
    cases d with
    | str x =>
      refine .inr ⟨Z, ρ, r, ?_⟩
      unfold iChr
      rw [ef] at q ⊢
      exact q
    | _ =>
      refine .inl ⟨Z, ρ, r, ?_⟩
      unfold iSeq
      rw [ef] at q ⊢
      exact q
  | ex c ns xs =>
    refine .inl ⟨Z, ρ, r, ?_⟩
    unfold iSeq
    rw [ef] at q ⊢
    exact q
  | bad => rw [ef] at q; exact q.elim
theorem DIB.any (h : DB X W e f) : DIB X W tg e (iAnyB f) := by
  refine ⟨PI.weak (DL.PI.or (DIB.seq (tg := tg) h).run (DIB.of (DI.chr (tg := tg) h)).run) fun σ H R hq => ?_⟩
  obtain ⟨Z, ρ, r, q⟩ := hq
  unfold iAnyB at q
  cases ef : f ρ with
  | ok d =>
    cases d with
    | str x =>
      refine .inr ⟨Z, ρ, r, ?_⟩
      unfold iChr
      rw [ef] at q ⊢
      exact q
    | _ =>
      refine .inl ⟨Z, ρ, r, ?_⟩
      unfold iSeqB
      rw [ef] at q ⊢
      exact q
  | ex c ns xs =>
    refine .inl ⟨Z, ρ, r, ?_⟩
    unfold iSeqB
    rw [ef] at q ⊢
    exact q
  | bad => rw [ef] at q; exact q.elim
end
end DL
namespace DL
open PySem hiding Env
open PySem.Spec PyProof.Rows L2
section
variable (ρ : Env) (f g : Env → Ou D) (p q : Env → Ou Bool) (s t : Env → Os) (fs : Env → Ou (List D)) (i : Nat)
@[simp] theorem x_dC (d : D) : dC d ρ = .ok d := (rfl)
@[simp] theorem x_dVar0 (d : D) : dVar 0 (some d :: ρ) = .ok d := (rfl)
@[simp] theorem x_dVarS (o : Option D) (n : Nat) : dVar (n + 1) (o :: ρ) = dVar n ρ := (rfl)
@[simp] theorem x_dVar1 (o : Option D) : dVar 1 (o :: ρ) = dVar 0 ρ := (rfl)
@[simp] theorem x_dVar2 (o : Option D) : dVar 2 (o :: ρ) = dVar 1 ρ := (rfl)
@[simp] theorem x_dVar3 (o : Option D) : dVar 3 (o :: ρ) = dVar 2 ρ := (rfl)
@[simp] theorem x_dVar4 (o : Option D) : dVar 4 (o :: ρ) = dVar 3 ρ := (rfl)
@[simp] theorem x_dVar5 (o : Option D) : dVar 5 (o :: ρ) = dVar 4 ρ := (rfl)
@[simp] theorem x_dVar6 (o : Option D) : dVar 6 (o :: ρ) = dVar 5 ρ := (rfl)
@[simp] theorem x_dVar7 (o : Option D) : dVar 7 (o :: ρ) = dVar 6 ρ := (rfl)
@[simp] theorem x_dVar8 (o : Option D) : dVar 8 (o :: ρ) = dVar 7 ρ := (rfl)
@[simp] theorem x_dVar9 (o : Option D) : dVar 9 (o :: ρ) = dVar 8 ρ := (rfl)
@[simp] theorem x_dVar10 (o : Option D) : dVar 10 (o :: ρ) = dVar 9 ρ := (rfl)
@[simp] theorem x_dVar11 (o : Option D) : dVar 11 (o :: ρ) = dVar 10 ρ := (rfl)
@[simp] theorem x_dVar12 (o : Option D) : dVar 12 (o :: ρ) = dVar 11 ρ := (rfl)
@[simp] theorem x_dVar13 (o : Option D) : dVar 13 (o :: ρ) = dVar 12 ρ := (rfl)
@[simp] theorem x_dVar14 (o : Option D) : dVar 14 (o :: ρ) = dVar 13 ρ := (rfl)
@[simp] theorem x_dVar15 (o : Option D) : dVar 15 (o :: ρ) = dVar 14 ρ := (rfl)
@[simp] theorem x_dVar16 (o : Option D) : dVar 16 (o :: ρ) = dVar 15 ρ := (rfl)
@[simp] theorem x_dVar17 (o : Option D) : dVar 17 (o :: ρ) = dVar 16 ρ := (rfl)
@[simp] theorem x_dVar18 (o : Option D) : dVar 18 (o :: ρ) = dVar 17 ρ := (rfl)
@[simp] theorem x_dVar19 (o : Option D) : dVar 19 (o :: ρ) = dVar 18 ρ := (rfl)
@[simp] theorem x_dVar20 (o : Option D) : dVar 20 (o :: ρ) = dVar 19 ρ := (rfl)
@[simp] theorem x_dVar21 (o : Option D) : dVar 21 (o :: ρ) = dVar 20 ρ := (rfl)
@[simp] theorem x_dVar22 (o : Option D) : dVar 22 (o :: ρ) = dVar 21 ρ := (rfl)
@[simp] theorem x_dVar23 (o : Option D) : dVar 23 (o :: ρ) = dVar 22 ρ := (rfl)
@[simp] theorem x_dVar24 (o : Option D) : dVar 24 (o :: ρ) = dVar 23 ρ := (rfl)
@[simp] theorem x_dVar25 (o : Option D) : dVar 25 (o :: ρ) = dVar 24 ρ := (rfl)
@[simp] theorem x_dVar26 (o : Option D) : dVar 26 (o :: ρ) = dVar 25 ρ := (rfl)
@[simp] theorem x_dVar27 (o : Option D) : dVar 27 (o :: ρ) = dVar 26 ρ := (rfl)
@[simp] theorem x_dVar28 (o : Option D) : dVar 28 (o :: ρ) = dVar 27 ρ := (rfl)
@[simp] theorem x_dVar29 (o : Option D) : dVar 29 (o :: ρ) = dVar 28 ρ := (rfl)
@[simp] theorem x_dVar30 (o : Option D) : dVar 30 (o :: ρ) = dVar 29 ρ := (rfl)
@[simp] theorem x_dVar31 (o : Option D) : dVar 31 (o :: ρ) = dVar 30 ρ := (rfl)
@[simp] theorem x_dVar32 (o : Option D) : dVar 32 (o :: ρ) = dVar 31 ρ := (rfl)
@[simp] theorem x_dVar33 (o : Option D) : dVar 33 (o :: ρ) = dVar 32 ρ := (rfl)
@[simp] theorem x_dVar34 (o : Option D) : dVar 34 (o :: ρ) = dVar 33 ρ := (rfl)
@[simp] theorem x_dVar35 (o : Option D) : dVar 35 (o :: ρ) = dVar 34 ρ := (rfl)
@[simp] theorem x_dVar36 (o : Option D) : dVar 36 (o :: ρ) = dVar 35 ρ := (rfl)
@[simp] theorem x_dVar37 (o : Option D) : dVar 37 (o :: ρ) = dVar 36 ρ := (rfl)
@[simp] theorem x_dVar38 (o : Option D) : dVar 38 (o :: ρ) = dVar 37 ρ := (rfl)
@[simp] theorem x_dVar39 (o : Option D) : dVar 39 (o :: ρ) = dVar 38 ρ := (rfl)
@[simp] theorem x_dVar40 (o : Option D) : dVar 40 (o :: ρ) = dVar 39 ρ := (rfl)
@[simp] theorem x_dVar41 (o : Option D) : dVar 41 (o :: ρ) = dVar 40 ρ := (rfl)
@[simp] theorem x_dVar42 (o : Option D) : dVar 42 (o :: ρ) = dVar 41 ρ := (rfl)
@[simp] theorem x_dVar43 (o : Option D) : dVar 43 (o :: ρ) = dVar 42 ρ := (rfl)
@[simp] theorem x_dVar44 (o : Option D) : dVar 44 (o :: ρ) = dVar 43 ρ := (rfl)
@[simp] theorem x_dVar45 (o : Option D) : dVar 45 (o :: ρ) = dVar 44 ρ := (rfl)
@[simp] theorem x_dVar46 (o : Option D) : dVar 46 (o :: ρ) = dVar 45 ρ := (rfl)
@[simp] theorem x_dVar47 (o : Option D) : dVar 47 (o :: ρ) = dVar 46 ρ := (rfl)
@[simp] theorem x_dFz : dFz f ρ = (f ρ >>= fun d => if d.fz then .ok d else .bad) := (rfl)
@[simp] theorem x_d1 (op : D → Option D) : d1 op f ρ = (f ρ >>= fun x => ofO (op x)) := (rfl)
@[simp] theorem x_d2 (op : D → D → Option D) : d2 op f g ρ = (f ρ >>= fun x => g ρ >>= fun y => ofO (op x y)) := (rfl)
@[simp] theorem x_b2 (op : D → D → Option Bool) : b2 op f g ρ = (f ρ >>= fun x => g ρ >>= fun y => ofO (op x y)) := (rfl)
@[simp] theorem x_dN (op : List D → Option D) : dN op fs ρ = (fs ρ >>= fun xs => ofO (op xs)) := (rfl)
@[simp] theorem x_dBl : dBl p ρ = (p ρ >>= fun b => .ok (.bl b)) := (rfl)
@[simp] theorem x_aNil : aNil ρ = .ok [] := (rfl)
@[simp] theorem x_aCons : aCons f fs ρ = (f ρ >>= fun x => fs ρ >>= fun xs => .ok (x :: xs)) := (rfl)
@[simp] theorem x_dTup : dTup fs ρ = (fs ρ >>= fun xs => if xs.length ≤ LIM then .ok (.tup xs) else .bad) := (rfl)
@[simp] theorem x_dLst : dLst fs ρ = (fs ρ >>= fun xs => if xs.length ≤ LIM then .ok (.lst true xs) else .bad) := (rfl)
@[simp] theorem x_bTru : bTru f ρ = (f ρ >>= fun d => ofO (tru d)) := (rfl)
@[simp] theorem x_bNot : bNot p ρ = (p ρ >>= fun b => .ok (!b)) := (rfl)
@[simp] theorem x_bAnd : bAnd p q ρ = (p ρ >>= fun b => if b then q ρ else .ok false) := (rfl)
@[simp] theorem x_bOr : bOr p q ρ = (p ρ >>= fun b => if b then .ok true else q ρ) := (rfl)
@[simp] theorem x_dAnd : dAnd f g ρ = (f ρ >>= fun d => ofO (tru d) >>= fun b => if b then g ρ else .ok d) := (rfl)
@[simp] theorem x_dOr : dOr f g ρ = (f ρ >>= fun d => ofO (tru d) >>= fun b => if b then .ok d else g ρ) := (rfl)
@[simp] theorem x_dNot : dNot f ρ = (f ρ >>= fun d => ofO (tru d) >>= fun b => .ok (.bl (!b))) := (rfl)
@[simp] theorem x_dIf : dIf p f g ρ = (p ρ >>= fun b => if b then f ρ else g ρ) := (rfl)
@[simp] theorem x_dCall (F : List D → Ou D) : dCall F fs ρ = (fs ρ >>= callR F) := (rfl)
@[simp] theorem x_dIsi (b : BT) : dIsi b f ρ = (f ρ >>= fun d => ofO ((isiD b d).map .bl)) := (rfl)
@[simp] theorem x_pNone : pNone ρ = .ok none := (rfl)
@[simp] theorem x_pSome : pSome f ρ = (f ρ >>= fun d => match d with
  | .int i => .ok (some i)
  | _ => .bad) := (rfl)
@[simp] theorem x_dSl (lo hi : Env → Ou (Option Int)) : dSl f lo hi ρ = (f ρ >>= fun d => lo ρ >>= fun l => hi ρ >>= fun h => ofO (slD d l h)) := (rfl)
@[simp] theorem x_iSeq : iSeq f ρ = (f ρ >>= seqOf) := (rfl)
@[simp] theorem x_iSeqB : iSeqB f ρ = (f ρ >>= seqOfB) := (rfl)
@[simp] theorem x_iRng1 : DL.iRng1 fs ρ = (fs ρ >>= fun ds => ofO (rng1Of ds)) := (rfl)
@[simp] theorem x_iRng2 : DL.iRng2 fs ρ = (fs ρ >>= fun ds => ofO (rng2Of ds)) := (rfl)
@[simp] theorem x_bYes : bYes ρ = .ok true := (rfl)
@[simp] theorem x_dLc (fi : Env → Ou (List D)) (j : Nat) (vs : List Nat) (tt : Env → Ou Bool) (te : Env → Ou D) : dLc fi j vs tt te ρ = (fi ρ >>= fun ds => ofO ((compG j tt te (wipeE ρ vs) ds []).map (D.lst true))) := (rfl)
@[simp] theorem x_sNil : sNil ρ = .nx ρ := (rfl)
@[simp] theorem x_sBrk : sBrk ρ = .bk ρ := (rfl)
@[simp] theorem x_sCont : sCont ρ = .ct ρ := (rfl)
@[simp] theorem x_sSeq : sSeq s t ρ = andThen (s ρ) t := (rfl)
@[simp] theorem x_sDrop : sDrop f ρ = ofU (f ρ) ρ fun _ => .nx ρ := (rfl)
@[simp] theorem x_sRet : sRet f ρ = ofU (f ρ) ρ fun d => .rt d := (rfl)
@[simp] theorem x_sRetV (d : D) (h : ρ[i]? = some (some d)) : sRetV i ρ = .rt d := by unfold sRetV; rw [h]
@[simp] theorem x_sIf : sIf p s t ρ = ofU (p ρ) ρ fun b => if b then s ρ else t ρ := (rfl)
@[simp] theorem x_sSet : sSet i f ρ = ofU (f ρ) ρ fun d => if i < ρ.length then .nx (ρ.set i (some d)) else .bad := (rfl)
@[simp] theorem x_sFrz (d : D) (h : ρ[i]? = some (some d)) : sFrz i s ρ = s (ρ.set i (some d.frz)) := by unfold sFrz; rw [h]
@[simp] theorem x_sApp (xs : List D) (h : ρ[i]? = some (some (.lst true xs))) : sApp i f ρ = ofU (f ρ) ρ fun d => if xs.length < LIM then .nx (ρ.set i (some (.lst true (xs ++ [d])))) else .bad := by unfold sApp; rw [h]
@[simp] theorem x_sExt (xs : List D) (h : ρ[i]? = some (some (.lst true xs))) : sExt i f ρ = ofU (f ρ) ρ fun d => match d with
    | .lst _ ys => if D.fzs ys && decide (xs.length + ys.length ≤ LIM) then .nx (ρ.set i (some (.lst true (xs ++ ys)))) else .bad
    | _ => .bad := by unfold sExt; rw [h] <;> rfl
@[simp] theorem x_sAug (op : D → D → Option D) (x : D) (h : ρ[i]? = some (some x)) : sAug i op f ρ = ofU (f ρ) ρ fun y => match op x y with
    | some d => .nx (ρ.set i (some d))
    | none => .bad := by unfold sAug; rw [h] <;> rfl
@[simp] theorem x_sAppAt (g : Env → Ou D) (xs : List D) (h : ρ[i]? = some (some (.lst true xs))) : sAppAt i g f ρ = ofU (g ρ) ρ fun k => match k with
    | .int k => match ixN xs.length k with
      | some j => match xs[j]? with
        | some (.lst true ys) => ofU (f ρ) ρ fun d => if ys.length < LIM then .nx (ρ.set i (some (.lst true (xs.set j (.lst true (ys ++ [d])))))) else .bad
        | _ => .bad
      | none => .bad
    | _ => .bad := by unfold sAppAt; rw [h] <;> rfl
@[simp] theorem x_sMove (m : Nat) (g : Env → Ou D) (xs : List D) (h : ρ[i]? = some (some (.lst true xs))) : sMove m i g ρ = ofU (g ρ) ρ fun k => match k with
    | .int k => match ixN xs.length k with
      | some j => match xs[j]? with
        | some (.lst true ys) => if m < ρ.length then .nx ((ρ.set i (some (.lst true (xs.set j (.adr 0))))).set m (some (.lst true ys))) else .bad
        | _ => .bad
      | none => .bad
    | _ => .bad := by unfold sMove; rw [h] <;> rfl
@[simp] theorem x_sTup (is : List Nat) : sTup is f ρ = ofU (f ρ) ρ fun d => match d with
    | .tup ds => if decide (ds.length = is.length) && is.all (fun i => decide (i < ρ.length)) then .nx (setAllE ρ is ds) else .bad
    | _ => .bad := (rfl)
@[simp] theorem x_setAll1 (i : Nat) (is : List Nat) (d : D) (ds : List D) : setAllE ρ (i :: is) (d :: ds) = setAllE (ρ.set i (some d)) is ds := (rfl)
@[simp] theorem x_setAll0 (ds : List D) : setAllE ρ [] ds = ρ := by cases ds <;> rfl
@[simp] theorem x_sFor (fi : Env → Ou (List D)) (tg : D → Env → Option Env) (body : Env → Os) : sFor fi tg body ρ = ofU (fi ρ) ρ fun ds => loopS tg body ds ρ := (rfl)
end
@[simp] theorem x_ofO_some {α : Type} (a : α) : ofO (some a) = .ok a := (rfl)
@[simp] theorem x_ofO_none {α : Type} : (ofO (none : Option α)) = .bad := (rfl)
@[simp] theorem x_endF_nx (ρ : Env) : endF (.nx ρ) = .ok .non := (rfl)
@[simp] theorem x_endF_rt (d : D) : endF (.rt d) = .ok d := (rfl)
@[simp] theorem x_endF_ex (c : Str) (ns : List Str) (xs : List D) (ρ : Env) : endF (.ex c ns xs ρ) = .ex c ns xs := (rfl)
@[simp] theorem x_add (i j : Int) : addD (.int i) (.int j) = some (.int (i + j)) := (rfl)
@[simp] theorem x_sub (i j : Int) : subD (.int i) (.int j) = some (.int (i - j)) := (rfl)
@[simp] theorem x_neg (i : Int) : negD (.int i) = some (.int (-i)) := (rfl)
@[simp] theorem x_lt (i j : Int) : ltD (.int i) (.int j) = some (decide (i < j)) := (rfl)
@[simp] theorem x_le (i j : Int) : leD (.int i) (.int j) = some (decide (i ≤ j)) := (rfl)
@[simp] theorem x_gt (i j : Int) : gtD (.int i) (.int j) = some (decide (j < i)) := (rfl)
@[simp] theorem x_ge (i j : Int) : geD (.int i) (.int j) = some (decide (j ≤ i)) := (rfl)
@[simp] theorem x_eqI (i j : Int) : eqD (.int i) (.int j) = some (decide (i = j)) := by
  show some _ = some _
  congr 1
@[simp] theorem x_neI (i j : Int) : neD (.int i) (.int j) = some (!decide (i = j)) := by
  show some _ = some _
  congr 1
@[simp] theorem x_absN (i : Int) : absN [.int i] = some (.int (if i < 0 then -i else i)) := (rfl)
@[simp] theorem x_intN (i : Int) : intN [.int i] = some (.int i) := (rfl)
@[simp] theorem x_intB (b : Bool) : intN [.bl b] = some (.int (if b then 1 else 0)) := (rfl)
@[simp] theorem x_max2 (i j : Int) : max2N [.int i, .int j] = some (.int (max i j)) := by
  show some (D.int (if j > i then j else i)) = _
  congr 2
  omega
@[simp] theorem x_min2 (i j : Int) : min2N [.int i, .int j] = some (.int (min i j)) := by
  show some (D.int (if j < i then j else i)) = _
  congr 2
  omega
@[simp] theorem x_lenL (o : Bool) (xs : List D) : lenN [.lst o xs] = some (.int xs.length) := (rfl)
@[simp] theorem x_lenT (xs : List D) : lenN [.tup xs] = some (.int xs.length) := (rfl)
@[simp] theorem x_lenS (ns : List Int) : lenN [.scr ns] = some (.int ns.length) := (rfl)
@[simp] theorem x_truB (b : Bool) : tru (.bl b) = some b := (rfl)
@[simp] theorem x_tgN (i : Nat) (d : D) (ρ : Env) : tgN i d ρ = if i < ρ.length then some (ρ.set i (some d)) else none := (rfl)
@[simp] theorem x_fzI (i : Int) : (D.int i).fz = true := (rfl)
@[simp] theorem x_fzB (b : Bool) : (D.bl b).fz = true := (rfl)
@[simp] theorem x_fzS (x : Str) : (D.str x).fz = true := (rfl)
@[simp] theorem x_fzN : D.non.fz = true := (rfl)
theorem x_mod {i j : Int} (h : 0 < j) : modD (.int i) (.int j) = some (.int (i % j)) := if_pos h
theorem x_fdiv {i j : Int} (h : 0 < j) (h2 : j < 1000000000000000000000000000000) : fdivD (.int i) (.int j) = some (.int (i / j)) := by
  show (if divOk j = true then _ else _) = _
  rw [if_pos]
  exact decide_eq_true ⟨h, h2⟩
def B64 (i : Int) : Prop := -18446744073709551616 < i ∧ i < 18446744073709551616
theorem x_mulL {i j : Int} (h : B64 i) : mulD (.int i) (.int j) = some (.int (i * j)) := by
  show (if mulOk i j = true then _ else _) = _
  rw [if_pos]
  exact decide_eq_true (.inl h)
theorem x_mulR {i j : Int} (h : B64 j) : mulD (.int i) (.int j) = some (.int (i * j)) := by
  show (if mulOk i j = true then _ else _) = _
  rw [if_pos]
  exact decide_eq_true (.inr h)
theorem x_pow {i j : Int} (h : 0 ≤ j ∧ j ≤ 1000000 ∧ i.natAbs < 18446744073709551616) : powD (.int i) (.int j) = some (.int (i ^ j.toNat)) := by
  show (if _ then _ else _) = _
  rw [if_pos (decide_eq_true h)]
@[simp] theorem p_9 : powD (.int 10) (.int 9) = some (.int 1000000000) := by rw [x_pow (by decide)]; rfl
@[simp] theorem p_15 : powD (.int 10) (.int 15) = some (.int 1000000000000000) := by rw [x_pow (by decide)]; rfl
@[simp] theorem p_18 : powD (.int 10) (.int 18) = some (.int 1000000000000000000) := by rw [x_pow (by decide)]; rfl
@[simp] theorem p_20 : powD (.int 10) (.int 20) = some (.int 100000000000000000000) := by rw [x_pow (by decide)]; rfl
theorem x_ix {i : Int} {xs : List D} {o : Bool} (h0 : 0 ≤ i) (h : i < xs.length) : ixD (.lst o xs) (.int i) = xs[i.toNat]? := by
  show (ixN xs.length i).bind _ = _
  unfold ixN
  rw [if_pos h0, if_pos h]
  rfl
def at0 (ns : List Int) (i : Nat) : Int := ns.getD i 0
theorem x_ixS {i : Int} {ns : List Int} (h0 : 0 ≤ i) (h : i < ns.length) : ixD (.scr ns) (.int i) = some (.int (at0 ns i.toNat)) := by
  show ((ixN ns.length i).bind _).map D.int = _
  unfold ixN
  rw [if_pos h0, if_pos h]
  have e : i.toNat < ns.length := by omega
  simp [at0, List.getD, List.getElem?_eq_getElem e]
def I (ns : List Int) : List D := ns.map D.int
@[simp] theorem I_len (ns : List Int) : (I ns).length = ns.length := by simp [I]
@[simp] theorem I_fzs (ns : List Int) : D.fzs (I ns) = true := by
  induction ns with
  | nil => rfl
  | cons n ns ih => exact ih
@[simp] theorem I_frzs (ns : List Int) : D.frzs (I ns) = I ns := frzs_fzs _ (I_fzs ns)
@[simp] theorem I_app (a b : List Int) : I a ++ I b = I (a ++ b) := by simp [I]
theorem x_ixI {i : Int} {ns : List Int} {o : Bool} (h0 : 0 ≤ i) (h : i < ns.length) : ixD (.lst o (I ns)) (.int i) = some (.int (at0 ns i.toNat)) := by
  rw [x_ix h0 (by simpa using h)]
  have e : i.toNat < ns.length := by omega
  simp [at0, I, List.getD, List.getElem?_eq_getElem e]
@[simp] theorem x_callR {F : List D → Ou D} {ds : List D} {d : D} (h : F (D.frzs ds) = .ok d) (hf : (D.fzs ds || d.cln) = true) : callR F ds = .ok d := by
  unfold callR
  rw [h]
  exact if_pos hf
theorem loop_nx {tg : D → Env → Option Env} {body : Env → Os} {d : D} {ds : List D} {ρ ρ1 ρ2 : Env} (h1 : tg d ρ = some ρ1) (h2 : body ρ1 = .nx ρ2) : loopS tg body (d :: ds) ρ = loopS tg body ds ρ2 := by
  simp only [loopS, h1, h2]
theorem loop_ct {tg : D → Env → Option Env} {body : Env → Os} {d : D} {ds : List D} {ρ ρ1 ρ2 : Env} (h1 : tg d ρ = some ρ1) (h2 : body ρ1 = .ct ρ2) : loopS tg body (d :: ds) ρ = loopS tg body ds ρ2 := by
  simp only [loopS, h1, h2]
theorem loop_inv {tg : D → Env → Option Env} {body : Env → Os} (Inv : Nat → Env → Prop) : ∀ (ds : List D) (n : Nat) (ρ : Env), Inv n ρ →
    (∀ j d ρ, ds[j]? = some d → Inv (n + j) ρ → ∃ ρ1 ρ2, tg d ρ = some ρ1 ∧ (body ρ1 = .nx ρ2 ∨ body ρ1 = .ct ρ2) ∧ Inv (n + j + 1) ρ2) → ∃ ρ', loopS tg body ds ρ = .nx ρ' ∧ Inv (n + ds.length) ρ'
  | [], n, ρ, h, k => ⟨ρ, rfl, h⟩
  | d :: ds, n, ρ, h, k => by
    obtain ⟨ρ1, ρ2, h1, h2, h3⟩ := k 0 d ρ rfl h
    obtain ⟨ρ', e, z⟩ := loop_inv Inv ds (n + 1) ρ2 h3 fun j d ρ e i => by
      have e2 : n + 1 + j = n + (j + 1) := by omega
      rw [e2] at i ⊢
      exact k (j + 1) d ρ e i
    refine ⟨ρ', ?_, ?_⟩
    · rcases h2 with h2 | h2
      · rw [loop_nx h1 h2]; exact e
      · rw [loop_ct h1 h2]; exact e
    · have e2 : n + (d :: ds).length = n + 1 + ds.length := by simp only [List.length_cons]; omega
      rw [e2]; exact z
theorem loop_inv0 {tg : D → Env → Option Env} {body : Env → Os} (Inv : Nat → Env → Prop) (ds : List D) (ρ : Env) (h : Inv 0 ρ)
    (k : ∀ j d ρ, ds[j]? = some d → Inv j ρ → ∃ ρ1 ρ2, tg d ρ = some ρ1 ∧ (body ρ1 = .nx ρ2 ∨ body ρ1 = .ct ρ2) ∧ Inv (j + 1) ρ2) : ∃ ρ', loopS tg body ds ρ = .nx ρ' ∧ Inv ds.length ρ' := by
  have := loop_inv Inv ds 0 ρ h (by simpa using k)
  simpa using this
theorem rng0_get {n j : Nat} {d : D} (h : (rng0 n)[j]? = some d) : d = .int j ∧ j < n := by
  unfold rng0 at h
  rw [List.getElem?_map] at h
  by_cases c : j < n
  · rw [List.getElem?_range c] at h
    exact ⟨(Option.some.inj h).symm, c⟩
  · rw [List.getElem?_eq_none (by simpa using c)] at h
    cases h
theorem rng0_len (n : Nat) : (rng0 n).length = n := by simp [rng0]
theorem x_rng1 {n : Int} (h0 : -1000000 < n) (h : n < 1000000) : rng1Of [.int n] = some (rng0 n.toNat) := if_pos (decide_eq_true ⟨h0, h⟩)
end DL
namespace DL
open PySem hiding Env
open PySem.Spec PyProof.Rows L2
def callK (b : Bool) (r : Ou D) : Ou D := match r with
  | .ok d => if b || d.cln then .ok d else .bad
  | .ex c ns xs => if b || D.clns xs then .ex c ns xs else .bad
  | .bad => .bad
@[simp] theorem callR_eq (F : List D → Ou D) (ds : List D) : callR F ds = callK (D.fzs ds) (F (D.frzs ds)) := by
  unfold callR callK
  cases F (D.frzs ds) <;> rfl
@[simp] theorem callK_ok (b : Bool) (d : D) : callK b (.ok d) = if b || d.cln then .ok d else .bad := (rfl)
@[simp] theorem callK_ex (b : Bool) (c : Str) (ns : List Str) (xs : List D) : callK b (.ex c ns xs) = if b || D.clns xs then .ex c ns xs else .bad := (rfl)
@[simp] theorem fz_int (i : Int) : (D.int i).frz = .int i := (rfl)
@[simp] theorem fz_bl (i : Bool) : (D.bl i).frz = .bl i := (rfl)
@[simp] theorem fz_str (i : Str) : (D.str i).frz = .str i := (rfl)
@[simp] theorem fz_non : D.non.frz = .non := (rfl)
@[simp] theorem fz_scr (ns : List Int) : (D.scr ns).frz = .scr ns := (rfl)
@[simp] theorem fz_lstT (xs : List D) : (D.lst true xs).frz = .lst false (D.frzs xs) := (rfl)
@[simp] theorem fz_lstF (xs : List D) : (D.lst false xs).frz = .lst false xs := (rfl)
@[simp] theorem fz_tup (xs : List D) : (D.tup xs).frz = .tup (D.frzs xs) := (rfl)
@[simp] theorem frzs_nil : D.frzs [] = [] := (rfl)
@[simp] theorem frzs_cons (d : D) (ds : List D) : D.frzs (d :: ds) = d.frz :: D.frzs ds := (rfl)
@[simp] theorem fzs_nil : D.fzs [] = true := (rfl)
@[simp] theorem fzs_cons (d : D) (ds : List D) : D.fzs (d :: ds) = (d.fz && D.fzs ds) := (rfl)
@[simp] theorem fzz_tup (xs : List D) : (D.tup xs).fz = D.fzs xs := (rfl)
@[simp] theorem fzz_lst (o : Bool) (xs : List D) : (D.lst o xs).fz = !o := (rfl)
@[simp] theorem fzz_scr (ns : List Int) : (D.scr ns).fz = true := (rfl)
@[simp] theorem cln_int (i : Int) : (D.int i).cln = true := (rfl)
@[simp] theorem cln_bl (i : Bool) : (D.bl i).cln = true := (rfl)
@[simp] theorem cln_str (i : Str) : (D.str i).cln = true := (rfl)
@[simp] theorem cln_non : D.non.cln = true := (rfl)
@[simp] theorem clns_nil : D.clns [] = true := (rfl)
@[simp] theorem clns_cons (d : D) (ds : List D) : D.clns (d :: ds) = (d.cln && D.clns ds) := (rfl)
theorem lt_lim' {n : Nat} (h : n < 1000000) : n < LIM := h
theorem le_lim' {n : Nat} (h : n ≤ 1000000) : n ≤ LIM := h
@[simp] theorem lim0 : 0 ≤ LIM := Nat.zero_le _
@[simp] theorem isi_int_int (i : Int) : isiD .int (.int i) = some true := (rfl)
@[simp] theorem isi_bool_int (i : Int) : isiD .bool (.int i) = some false := (rfl)
@[simp] theorem isi_int_bl (i : Bool) : isiD .int (.bl i) = some true := (rfl)
@[simp] theorem isi_bool_bl (i : Bool) : isiD .bool (.bl i) = some true := (rfl)
@[simp] theorem isi_tup_tup (xs : List D) : isiD .tuple (.tup xs) = some true := (rfl)
@[simp] theorem isi_lst_lst (o : Bool) (xs : List D) : isiD .list (.lst o xs) = some true := (rfl)
@[simp] theorem isi_str_str (x : Str) : isiD .str (.str x) = some true := (rfl)
@[simp] theorem x_eqB (a b : Bool) : eqD (.bl a) (.bl b) = some (decide (a = b)) := by
  cases a <;> cases b <;> rfl
@[simp] theorem x_neB (a b : Bool) : neD (.bl a) (.bl b) = some (!decide (a = b)) := by
  cases a <;> cases b <;> rfl
end DL
namespace DL
open PySem hiding Env
open PySem.Spec PyProof.Rows L2
mutual
theorem okd_mono : ∀ (d : D) (n m : Nat), n ≤ m → d.okd n = true → d.okd m = true
  | .non, _, _, _, _ => rfl
  | .bl _, _, _, _, _ => rfl
  | .int _, _, _, _, _ => rfl
  | .str _, _, _, _, h => h
  | .tup xs, 0, m, _, h => by
    have h' : false = true := h
    cases h'
  | .tup xs, n + 1, 0, l, h => absurd l (by omega)
  | .tup xs, n + 1, m + 1, l, h => okds_mono xs n m (by omega) h
  | .lst _ xs, 0, m, _, h => by
    have h' : false = true := h
    cases h'
  | .lst _ xs, n + 1, 0, l, h => absurd l (by omega)
  | .lst _ xs, n + 1, m + 1, l, h => okds_mono xs n m (by omega) h
  | .ins _ _ _, _, _, _, h => by
    have h' : false = true := h
    cases h'
  | .scr _, _, _, _, h => by
    have h' : false = true := h
    cases h'
  | .adr _, _, _, _, h => by
    have h' : false = true := h
    cases h'
  | .cls _, _, _, _, h => by
    have h' : false = true := h
    cases h'
  | .pin _, _, _, _, h => by
    have h' : false = true := h
    cases h'
  | .err _ _ _, _, _, _, h => by
    have h' : false = true := h
    cases h'
  | .own _ _ _ _, _, _, _, h => by
    have h' : false = true := h
    cases h'
  | .lsa _ _, _, _, _, h => by
    have h' : false = true := h
    cases h'
  | .dct _ _ _, _, _, _, h => by
    have h' : false = true := h
    cases h'
  | .lok _ _, _, _, _, h => by
    have h' : false = true := h
    cases h'
  | .wth _ _, _, _, _, h => by
    have h' : false = true := h
    cases h'
theorem okds_mono : ∀ (ds : List D) (n m : Nat), n ≤ m → D.okds ds n = true → D.okds ds m = true
  | [], _, _, _, _ => rfl
  | d :: ds, n, m, l, h => by
    obtain ⟨h1, h2⟩ := band (show (d.okd n && D.okds ds n) = true from h)
    exact Bool.and_eq_true_iff.mpr ⟨okd_mono d n m l h1, okds_mono ds n m l h2⟩
end
class Dm (α : Type) where
  d : α → D
  dep : Nat
  fz : ∀ a, (d a).fz = true
  cln : ∀ a, (d a).cln = true
  okd : ∀ a, (d a).okd dep = true
  eqv : ∀ a b, PyData.eqv (d a).py (d b).py = true ↔ a = b
instance : Dm Int where
  d := D.int
  dep := 0
  fz _ := rfl
  cln _ := rfl
  okd _ := rfl
  eqv a b := by
    show (a == b) = true ↔ a = b
    exact beq_iff_eq
def Ds {α : Type} [Dm α] (xs : List α) : List D := xs.map Dm.d
section
variable {α : Type} [Dm α]
@[simp] theorem Ds_len (xs : List α) : (Ds xs).length = xs.length := by simp [Ds]
@[simp] theorem Ds_nil : Ds ([] : List α) = [] := (rfl)
theorem Ds_cons (x : α) (xs : List α) : Ds (x :: xs) = Dm.d x :: Ds xs := (rfl)
theorem Ds_app (a b : List α) : Ds a ++ Ds b = Ds (a ++ b) := by simp [Ds]
theorem Ds_snoc (a : List α) (x : α) : Ds a ++ [Dm.d x] = Ds (a ++ [x]) := by simp [Ds]
@[simp] theorem Dm_fz (a : α) : (Dm.d a).fz = true := Dm.fz a
@[simp] theorem Dm_cln (a : α) : (Dm.d a).cln = true := Dm.cln a
@[simp] theorem Dm_frz (a : α) : (Dm.d a).frz = Dm.d a := frz_fz _ (Dm.fz a)
@[simp] theorem Ds_fzs (xs : List α) : D.fzs (Ds xs) = true := by
  induction xs with
  | nil => rfl
  | cons x xs ih => exact Bool.and_eq_true_iff.mpr ⟨Dm.fz x, ih⟩
@[simp] theorem Ds_clns (xs : List α) : D.clns (Ds xs) = true := by
  induction xs with
  | nil => rfl
  | cons x xs ih => exact Bool.and_eq_true_iff.mpr ⟨Dm.cln x, ih⟩
@[simp] theorem Ds_frzs (xs : List α) : D.frzs (Ds xs) = Ds xs := frzs_fzs _ (Ds_fzs xs)
theorem Ds_okds (xs : List α) {n : Nat} (h : Dm.dep α ≤ n) : D.okds (Ds xs) n = true := by
  induction xs with
  | nil => rfl
  | cons x xs ih => exact Bool.and_eq_true_iff.mpr ⟨okd_mono _ _ _ h (Dm.okd x), ih⟩
theorem Ds_eqv : ∀ (xs ys : List α), PyData.eqvAll (D.pys (Ds xs)) (D.pys (Ds ys)) = true ↔ xs = ys
  | [], [] => by simp [Ds, D.pys, PyData.eqvAll]
  | x :: xs, [] => by simp [Ds, D.pys, PyData.eqvAll]
  | [], y :: ys => by simp [Ds, D.pys, PyData.eqvAll]
  | x :: xs, y :: ys => by
    simp only [Ds_cons, D.pys, PyData.eqvAll, Bool.and_eq_true, Dm.eqv, Ds_eqv xs ys, List.cons.injEq]
end
instance {α β : Type} [Dm α] [Dm β] : Dm (α × β) where
  d p := .tup [Dm.d p.1, Dm.d p.2]
  dep := max (Dm.dep α) (Dm.dep β) + 1
  fz p := by simp
  cln p := by
    show ((Dm.d p.1).cln && ((Dm.d p.2).cln && true)) = true
    simp
  okd p := by
    show ((Dm.d p.1).okd _ && ((Dm.d p.2).okd _ && true)) = true
    rw [okd_mono _ _ _ (Nat.le_max_left _ _) (Dm.okd p.1), okd_mono _ _ _ (Nat.le_max_right _ _) (Dm.okd p.2)]
    rfl
  eqv a b := by
    simp only [D.py, D.pys, PyData.eqv, PyData.eqvAll, Bool.and_eq_true, Dm.eqv, Prod.ext_iff, and_true]
structure Tp (α : Type) where
  l : List α
@[ext] theorem Tp.ext' {α : Type} {a b : Tp α} (h : a.l = b.l) : a = b := by cases a; cases b; cases h; rfl
instance {α : Type} [Dm α] : Dm (Tp α) where
  d p := .tup (Ds p.l)
  dep := Dm.dep α + 1
  fz p := by simp
  cln p := Ds_clns p.l
  okd p := Ds_okds p.l (Nat.le_refl _)
  eqv a b := by
    simp only [D.py, PyData.eqv, Ds_eqv]
    exact ⟨Tp.ext', fun h => h ▸ rfl⟩
section
variable {α : Type} [Dm α]
theorem eqD_of {a b : D} {c : Bool} (h1 : a.okd DEP = true) (h2 : b.okd DEP = true) (h : PyData.eqv a.py b.py = c) : eqD a b = some c := by
  unfold eqD
  rw [h1, h2, h] <;> rfl
theorem neD_of {a b : D} {c : Bool} (h1 : a.okd DEP = true) (h2 : b.okd DEP = true) (h : PyData.eqv a.py b.py = c) : neD a b = some (!c) := by
  unfold neD
  rw [h1, h2, h] <;> rfl
theorem decide_iff {p : Bool} {q : Prop} [Decidable q] (h : p = true ↔ q) : p = decide q := by
  by_cases c : q
  · rw [decide_eq_true c]; exact h.mpr c
  · rw [decide_eq_false c]
    cases p with
    | true => exact absurd (h.mp rfl) c
    | false => rfl
theorem eqD_Ds [DecidableEq α] (hd : Dm.dep α ≤ 19) (o o' : Bool) (a b : List α) : eqD (.lst o (Ds a)) (.lst o' (Ds b)) = some (decide (a = b)) :=
  eqD_of (Ds_okds a hd) (Ds_okds b hd) (decide_iff (Ds_eqv a b))
theorem neD_Ds [DecidableEq α] (hd : Dm.dep α ≤ 19) (o o' : Bool) (a b : List α) : neD (.lst o (Ds a)) (.lst o' (Ds b)) = some (!decide (a = b)) :=
  neD_of (Ds_okds a hd) (Ds_okds b hd) (decide_iff (Ds_eqv a b))
theorem x_ixD {i : Int} {xs : List α} {o : Bool} (h0 : 0 ≤ i) (h : i.toNat < xs.length) : ixD (.lst o (Ds xs)) (.int i) = some (Dm.d (xs[i.toNat])) := by
  rw [x_ix h0 (by rw [Ds_len]; omega)]
  simp [Ds, List.getElem?_eq_getElem h]
theorem any_eqv [DecidableEq α] (x : α) : ∀ ys : List α, ((D.pys (Ds ys)).any fun z => PyData.eqv z (Dm.d x).py) = decide (x ∈ ys)
  | [] => by simp [Ds, D.pys]
  | y :: ys => by
    rw [Ds_cons]
    show (PyData.eqv (Dm.d y).py (Dm.d x).py || (D.pys (Ds ys)).any _) = _
    rw [any_eqv x ys, decide_iff (Dm.eqv y x)]
    by_cases c : y = x
    · subst c; simp
    · simp [c, Ne.symm c]
theorem inD_Ds [DecidableEq α] (hd : Dm.dep α ≤ 19) (x : α) (o : Bool) (ys : List α) : inD (Dm.d x) (.lst o (Ds ys)) = some (decide (x ∈ ys)) := by
  show (if _ then _ else _) = _
  rw [if_pos, any_eqv]
  rw [okd_mono _ _ _ (show Dm.dep α ≤ DEP by show Dm.dep α ≤ 20; omega) (Dm.okd x)]
  show (true && D.okds (Ds ys) 19) = true
  rw [Ds_okds ys hd]
  rfl
theorem notInD_Ds [DecidableEq α] (hd : Dm.dep α ≤ 19) (x : α) (o : Bool) (ys : List α) : notInD (Dm.d x) (.lst o (Ds ys)) = some (!decide (x ∈ ys)) := by
  unfold notInD
  rw [inD_Ds hd]
  rfl
theorem listN_Ds (o : Bool) (xs : List α) : listN [.lst o (Ds xs)] = some (.lst true (Ds xs)) := if_pos (Ds_fzs xs)
theorem seqOf_Ds (o : Bool) (xs : List α) : seqOf (.lst o (Ds xs)) = .ok (Ds xs) := by
  show Ou.ok (D.frzs (Ds xs)) = _
  rw [Ds_frzs]
theorem seqOfB_Ds (o : Bool) (xs : List α) : seqOfB (.lst o (Ds xs)) = .ok (Ds xs) := if_pos (Ds_fzs xs)
theorem slD_Ds (o : Bool) (xs : List α) (lo hi : Option Int) : slD (.lst o (Ds xs)) lo hi = some (.lst true (Ds (cutD xs lo hi))) := by
  unfold slD
  simp only [Ds_fzs]
  unfold cutD Ds
  simp [List.map_take, List.map_drop]
end
theorem cut_from {α : Type} (xs : List α) (k : Nat) (h : k ≤ xs.length) : DL.cutD xs (some (k : Int)) none = xs.drop k := by
  unfold DL.cutD
  rw [HT.sIx_nat, HT.sIx_none, Nat.min_eq_left h]
  exact List.take_of_length_le (by rw [List.length_drop]; exact Nat.le_refl _)
theorem cut_to {α : Type} (xs : List α) (k : Nat) (h : k ≤ xs.length) : DL.cutD xs none (some (k : Int)) = xs.take k := by
  unfold DL.cutD
  rw [HT.sIx_nat, HT.sIx_none, Nat.min_eq_left h]
  rfl
end DL
namespace DL
open PySem PySem.Spec PyProof.Rows L2
variable [Tb]
theorem cells_app (cl : List (Str × Addr)) : ∀ (names : List (Str × NameKind)) (n : Nat) (acc : List (Str × Addr)), cellsFrom n names (acc ++ cl) = cellsFrom n names acc ++ cl
  | [], _, _ => rfl
  | (x, k) :: r, n, acc => by
    unfold cellsFrom
    split
    · exact cells_app cl r (n + 1) ((x, n) :: acc)
    · exact cells_app cl r n acc
theorem loc_store (L : Addr) (env : PySem.Env) (hL : env.locals = L) (hk : env.scope.kind = .function) (g : Str × Value → PUnit → Sem (ForInStep PUnit)) (hg : ∀ n v u, g (n, v) u = (do storeName env n v; pure (.yield ⟨⟩))) {M : Model} {A : Around} {E : Value → Shared → Prop} :
    ∀ (binds done : List (Str × Value)) (h0 : Heap) (s : Shared) (Q : PUnit → Shared → Prop), s.heap.Ns L (fun y => done.reverse.lookup y) → Heap.SameBut L h0 s.heap → (∀ x ∈ binds, env.kindOf x.1 = some .local) →
      (∀ (h' : Heap) (t : Nat), h'.Ns L (fun y => (done ++ binds).reverse.lookup y) → Heap.SameBut L h0 h' → Q ⟨⟩ { s with heap := h', toks := t }) → wpAny M A (forIn binds ⟨⟩ g) Q E s
  | [], done, h0, s, Q, hn, hs, _, q => by
    rw [List.forIn_nil]
    rw [List.append_nil] at q
    exact wpAny_pure (q s.heap s.toks hn hs)
  | (n, v) :: r, done, h0, s, Q, hn, hs, hl, q => by
    rw [List.forIn_cons, hg]
    have hcls : (env.scope.kind == .class || (env.scope.kind == .module && env.locals != env.globals)) = false := by rw [hk]; rfl
    refine wpAny_bind (wpAny_bind (wpAny_storeName_local (hl (n, v) List.mem_cons_self) (by rw [hL]; exact hn) (fun h' hn' hs' => wpAny_pure ?_) hcls))
    rw [hL] at hn' hs'
    refine loc_store L env hL hk g hg r (done ++ [(n, v)]) h0 _ Q ?_ (hs.trans hs') (fun x hx => hl x (List.mem_cons_of_mem _ hx)) (fun h2 t2 a b => ?_)
    · have e : (fun y => (done ++ [(n, v)]).reverse.lookup y) = fun y => if y = n then some v else done.reverse.lookup y := lookup_reverse_snoc done n v
      rw [e]
      exact hn'
    · rw [List.append_assoc] at a
      exact q h2 t2 a b
theorem newEnv_cells {scope : Scope} {closure : List (Str × Addr)} {binds : List (Str × Value)} {qual : Str} {f : Addr} {code : Value} {M : Model} {A : Around} {E : Value → Shared → Prop} {s : Shared} {Q : PySem.Env → Shared → Prop}
    (hk : scope.kind = .function) (hl : ∀ x ∈ binds, scope.names.lookup x.1 = some .local)
    (q : ∀ (h' : Heap) (t : Nat), h'.Ns s.heap.objs.size (fun y => binds.reverse.lookup y) → (∀ b o, s.heap.get? b = some o → h'.get? b = some o) →
      (∀ n c, (n, c) ∈ cellsFrom (s.heap.objs.size + 1) scope.names [] → h'.IsCell c none ∧ s.heap.objs.size < c) → (cellsFrom (s.heap.objs.size + 1) scope.names []).Pairwise (fun x y => x.2 ≠ y.2) →
      Q (PySem.W.envX qual scope s.heap.objs.size f code (cellsFrom (s.heap.objs.size + 1) scope.names [] ++ closure)) { s with heap := h', toks := t }) :
    wpAny M A (newFunctionEnv scope mainGlobals closure binds (qual ++ ".<locals>.") (some f) code none builtinsNs) Q E s := by
  simp only [newFunctionEnv, Option.isSome_none, Bool.false_eq_true, if_false]
  refine wpAny_bind (wpAny_alloc ?_)
  refine wpAny_bind (wpAny_layCells _ (fun name kind cells => by cases hkc : kind == NameKind.cell <;> simp [hkc]) _ _ _ _ ?_)
  have ok := cellsFrom_ok scope.names (s.heap.push { cls := .type "frame", data := .dict #[] }) (s.heap.objs.size + 1) [] ⟨fun _ _ hm => (nomatch hm), List.Pairwise.nil⟩ (by rw [Heap.size_push]; exact Nat.le_refl _)
  rw [Heap.size_push] at ok
  have e1 : ({ s with heap := s.heap.push { cls := .type "frame", data := .dict #[] } } : Shared).heap.objs.size = s.heap.objs.size + 1 := Heap.size_push ..
  rw [e1]
  have e2 := cells_app closure scope.names (s.heap.objs.size + 1) []
  rw [List.nil_append] at e2
  rw [e2]
  have hn0 : (pushCells (s.heap.push { cls := .type "frame", data := .dict #[] }) scope.names).Ns s.heap.objs.size (fun y => ([] : List (Str × Value)).reverse.lookup y) := (Heap.Ns.new s.heap (.type "frame")).keeps (pushCells_keeps _ _)
  refine wpAny_bind (loc_store s.heap.objs.size (PySem.W.envX qual scope s.heap.objs.size f code (cellsFrom (s.heap.objs.size + 1) scope.names [] ++ closure)) rfl hk _ (fun _ _ _ => rfl) binds [] _ _ _ hn0 (Heap.SameBut.refl ..) hl fun h' t hn hs => wpAny_pure ?_)
  refine q h' t hn (fun b o e => ?_) (fun n c hm => ?_) ok.apart
  · exact hs.extBut b o (Nat.ne_of_lt (Heap.lt_size e)) (pushCells_keeps _ _ b o (Heap.get?_push_of_some _ e))
  · obtain ⟨c1, c2⟩ := ok.empty n c hm
    exact ⟨c1.sameBut hs (Nat.ne_of_gt c2), c2⟩
structure FunC (K : PySem.W.Frag) (x qual : Str) (params : Arguments) (body : List Stmt) (scope : Scope) (D : Addr) (file : Str) (f : Addr) (fd : FuncData) : Prop where
  ex : ∃ (oc : Value) (od : Option Addr) (kV doc pm : Value) (an : Option Addr) (cda : Addr) (ct : Value) (osl : Array (Option Value)) (cc : Addr) (ccl : Value) (cdd : Option Addr) (vs : Array Value) (ccs : Array (Option Value)) (tf : Tok) (cl : Value) (cld : Option Addr) (csl : Array (Option Value)),
    fd = PySem.W.fnX x qual params body scope [(("__class__" : Str), cc)] .none kV doc pm an (.ref cda) ct ∧ K.lookup f = some ⟨oc, od, .func fd, osl⟩ ∧ PySem.W.codeIn K (.ref cda) qual = true ∧
      K.lookup cda = some ⟨ccl, cdd, .fields vs, ccs⟩ ∧ vs[2]? = some (.str file tf) ∧ K.lookup cc = some ⟨cl, cld, .cell (some (.ref D)), csl⟩
  kp : PySem.W.keepIn K (.ref f) = true
structure FnScopeX (N P : List Str) (sc : Scope) : Prop where
  kind : sc.kind = .function
  co : sc.isCoroutine = false
  gen : sc.isGenerator = false
  nd : N.Nodup
  pre : N.take P.length = P
  par : ∀ x ∈ P, sc.names.lookup x = some .local
  nofree : ∀ y ∈ sc.names, y.2 = .free → y.1 = "__class__"
  nocls : sc.names.lookup ("__class__" : Str) = some .free
  nocN : ∀ x ∈ N, x ≠ "__class__"
  nocellcls : ∀ y ∈ sc.names, y.2 = .cell → y.1 = "__class__" → False
def fsxB (N P : List Str) (sc : Scope) : Bool :=
  decide (sc.kind = .function) && !sc.isCoroutine && !sc.isGenerator && decide N.Nodup && decide (N.take P.length = P) && P.all (fun x => decide (sc.names.lookup x = some .local)) && sc.names.all (fun y => !decide (y.2 = .free) || decide (y.1 = ("__class__" : Str))) && decide (sc.names.lookup ("__class__" : Str) = some .free) && N.all (fun x => !decide (x = ("__class__" : Str))) && sc.names.all (fun y => !decide (y.2 = .cell) || !decide (y.1 = ("__class__" : Str)))
abbrev envSX (qual : Str) (scope : Scope) (L f : Addr) (cd : Value) (cc : Addr) : PySem.Env := PySem.W.envX qual scope L f cd (cellsFrom (L + 1) scope.names [] ++ [(("__class__" : Str), cc)])
def cxX (CX : CXT) (P : Program) (w : World) (K : PySem.W.Frag) (mg : Str → Option Value) (base : Heap) (N : List Str) (qual : Str) (scope : Scope) (f : Addr) (cd : Value) (cc : Addr) (A : Around) (outer : List PySem.Env) (s : Shared) (H : Hp) (E : XK) : Cx where
  prog := P
  w := w
  K := K
  mg := mg
  base := base
  A := A.deeper (envSX qual scope s.heap.objs.size f cd cc)
  N := N
  s_0 := s
  H_0 := H
  env := envSX qual scope s.heap.objs.size f cd cc
  outer := outer
  stack := envSX qual scope s.heap.objs.size f cd cc :: outer
  ex := []
  calm := true
  fn := fun x => !decide (x = ("__class__" : Str))
  pn := []
  xe := fun e s' => wpAny (model P w) (A.deeper (envSX qual scope s.heap.objs.size f cd cc)) (leaving (envSX qual scope s.heap.objs.size f cd cc) e) (fun _ s'' => CX outer H s E e s'') (fun e' s'' => CX outer H s E e' s'') s'
theorem zip_lk : ∀ {ps : List Str} {us : List Value} {i : Nat} {x : Str} {u : Value}, ps.Nodup → ps[i]? = some x → us[i]? = some u → (ps.zip us).reverse.lookup x = some u
  | [], _, _, _, _, _, h, _ => by simp at h
  | _ :: _, [], _, _, _, _, _, h => by simp at h
  | p :: ps, v :: us, 0, x, u, nd, h1, h2 => by
    simp at h1 h2
    subst h1
    subst h2
    have hn : (ps.zip us).reverse.lookup p = none := by
      cases e : (ps.zip us).reverse.lookup p with
      | none => rfl
      | some v => exact absurd (List.of_mem_zip (List.mem_reverse.mp (PySem.mem_of_lookup e))).1 (List.nodup_cons.mp nd).1
    rw [List.zip_cons_cons, List.reverse_cons, List.lookup_append, hn]
    simp [List.lookup]
  | p :: ps, v :: us, i + 1, x, u, nd, h1, h2 => by
    have e : (ps.zip us).reverse.lookup x = some u := zip_lk (i := i) (List.nodup_cons.mp nd).2 (by simpa using h1) (by simpa using h2)
    rw [List.zip_cons_cons, List.reverse_cons, List.lookup_append, e]
    rfl
section
variable {CX : CXT} {P : Program} {w : World} {K : PySem.W.Frag} {mg : Str → Option Value} {base : Heap} {N ps : List Str} {qual : Str} {scope : Scope} {f D cc : Addr} {cd : Value} {A : Around} {outer : List PySem.Env} {s : Shared} {H : Hp} {E : XK} {us : List Value} {vs : List V}
theorem lk_app {α : Type} {l r : List (Str × α)} {x : Str} {c : α} (h : (l ++ r).lookup x = some c) : l.lookup x = some c ∨ (l.lookup x = none ∧ r.lookup x = some c) := by
  rw [List.lookup_append] at h
  cases e : l.lookup x with
  | some v => rw [e] at h; exact .inl h
  | none => rw [e] at h; exact .inr ⟨rfl, h⟩
theorem lk_one {x : Str} {c cc : Addr} (h : ([(("__class__" : Str), cc)] : List (Str × Addr)).lookup x = some c) : x = "__class__" ∧ c = cc := by
  rw [List.lookup_cons] at h
  cases e : (x == ("__class__" : Str)) with
  | true => rw [e] at h; cases h; exact ⟨beq_iff_eq.mp e, rfl⟩
  | false => rw [e] at h; cases h
theorem own_kind (S : FnScopeX N ps scope) {n : Nat} {x : Str} {c : Addr} (h : (cellsFrom n scope.names []).lookup x = some c) : x ≠ "__class__" := fun e => by
  have key : ∀ (names : List (Str × NameKind)) (n : Nat) (acc : List (Str × Addr)), (x, c) ∈ cellsFrom n names acc → (x, c) ∈ acc ∨ (x, NameKind.cell) ∈ names := by
    intro names
    induction names with
    | nil => intro n acc h; exact .inl h
    | cons y r ih =>
      obtain ⟨y, k⟩ := y
      intro n acc h
      unfold cellsFrom at h
      split at h
      · rename_i hk
        rcases ih _ _ h with z | z
        · rcases List.mem_cons.mp z with z | z
          · cases z
            have hk : k = NameKind.cell := by simpa using hk
            rw [hk]
            exact .inr List.mem_cons_self
          · exact .inl z
        · exact .inr (List.mem_cons_of_mem _ z)
      · rcases ih _ _ h with z | z
        · exact .inl z
        · exact .inr (List.mem_cons_of_mem _ z)
  rcases key scope.names n [] (PySem.mem_of_lookup h) with z | z
  · cases z
  · rw [e] at z
    exact S.nocellcls _ z rfl rfl
theorem invX {h1 : Heap} {tk : Nat} (S : FnScopeX N ps scope) (hd : A.handled = none) (e0 : Env0 P w K mg base A outer s H) (hl : vs.length = ps.length) (r : Vals vs us) (hcc : s.heap.IsCell cc (some (.ref D))) (hccH : H cc = none)
    (hns : h1.Ns s.heap.objs.size fun y => (ps.zip us).reverse.lookup y) (kp : ∀ b o, s.heap.get? b = some o → h1.get? b = some o)
    (own : ∀ n c, (n, c) ∈ cellsFrom (s.heap.objs.size + 1) scope.names [] → h1.IsCell c none ∧ s.heap.objs.size < c) (ap : (cellsFrom (s.heap.objs.size + 1) scope.names []).Pairwise fun x y => x.2 ≠ y.2) :
    Inv (cxX CX P w K mg base N qual scope f cd cc A outer s H E) [] (start N vs) H { s with heap := h1, toks := tk } := by
  have hpl : ps.length ≤ N.length := by have := congrArg List.length S.pre; rw [List.length_take] at this; omega
  have noA : ∀ b : Addr, b ∉ (cxX CX P w K mg base N qual scope f cd cc A outer s H E).ex := fun b z => absurd (show b ∈ ([] : List Addr) from z) (by simp)
  have ccl : cc < s.heap.objs.size := hcc.lt
  have lk : ∀ {x c}, (cxX CX P w K mg base N qual scope f cd cc A outer s H E).env.cells.lookup x = some c → ((cellsFrom (s.heap.objs.size + 1) scope.names []).lookup x = some c ∧ s.heap.objs.size < c ∧ x ≠ "__class__") ∨ (x = "__class__" ∧ c = cc) := fun {x c} h => by
    have h : (cellsFrom (s.heap.objs.size + 1) scope.names [] ++ [(("__class__" : Str), cc)]).lookup x = some c := h
    rcases lk_app h with z | ⟨_, z⟩
    · exact .inl ⟨z, (own x c (PySem.mem_of_lookup z)).2, own_kind S z⟩
    · exact .inr (lk_one z)
  have cellH : ∀ x c, (cxX CX P w K mg base N qual scope f cd cc A outer s H E).env.cells.lookup x = some c → (∃ v, h1.IsCell c v) ∧ H c = none := fun x c h => by
    rcases lk h with ⟨z, z2, _⟩ | ⟨_, z⟩
    · exact ⟨⟨none, (own x c (PySem.mem_of_lookup z)).1⟩, e0.hok.fresh (Nat.le_of_lt z2)⟩
    · subst z
      obtain ⟨o, ho, hd⟩ := hcc
      exact ⟨⟨_, o, kp _ _ ho, hd⟩, hccH⟩
  refine ⟨⟨e0.mod, S.kind, rfl, rfl, Nat.le_refl _, fun x y c h1 h2 => ?_, fun y hy => ?_, fun y c hf h => ?_, fun _ => hd, Around.frames_deeper e0.frames, .inr ⟨rfl, rfl⟩, fun b z => absurd z (noA b), e0.bs, e0.bsz, fun b _ _ => noA b, fun b z => absurd z (noA b), e0.funs, e0.frf⟩,
    rfl, e0.bare, Un.kept kp, ⟨_, hns, fun i y v h1 h2 h3 => ?_⟩, fun y c h => (cellH y c h).1, e0.hok.fresh (Nat.le_refl _), fun y c h => (cellH y c h).2, fun p hp => absurd (show p ∈ ([] : List (Addr × Obj)) from hp) (by simp), e0.hok.kept kp, ?_⟩
  · rcases lk h1 with ⟨a1, a2, _⟩ | ⟨a1, a2⟩ <;> rcases lk h2 with ⟨b1, b2, _⟩ | ⟨b1, b2⟩
    · exact name_of_addr ap (PySem.mem_of_lookup a1) (PySem.mem_of_lookup b1)
    · exact absurd (b2 ▸ ccl : c < s.heap.objs.size) (Nat.lt_asymm a2)
    · exact absurd (a2 ▸ ccl : c < s.heap.objs.size) (Nat.lt_asymm b2)
    · rw [a1, b1]
  · have hy : scope.names.lookup y = some .cell ∨ scope.names.lookup y = some .free := hy
    show ∃ c, (cellsFrom (s.heap.objs.size + 1) scope.names [] ++ [(("__class__" : Str), cc)]).lookup y = some c
    rcases hy with hy | hy
    · obtain ⟨c, hc⟩ := cell_has (n := s.heap.objs.size + 1) hy
      exact ⟨c, by rw [List.lookup_append, hc]; rfl⟩
    · have e := S.nofree _ (PySem.mem_of_lookup hy) rfl
      rw [List.lookup_append]
      cases q : (cellsFrom (s.heap.objs.size + 1) scope.names []).lookup y with
      | some c => exact ⟨c, rfl⟩
      | none =>
        refine ⟨cc, ?_⟩
        have e : y = "__class__" := e
        show (none.or (([(("__class__" : Str), cc)] : List (Str × Addr)).lookup y)) = some cc
        rw [e]
        rfl
  · rcases lk h with ⟨_, z, _⟩ | ⟨z, _⟩
    · exact Nat.le_of_lt z
    · have hf : (!decide (y = ("__class__" : Str))) = true := hf
      rw [z] at hf
      simp at hf
  · have hi : i < vs.length := by
      unfold L2.start at h2
      by_cases hi : i < vs.length
      · exact hi
      · rw [List.getElem?_append_right (by simpa using hi)] at h2
        rw [List.getElem?_replicate] at h2
        split at h2 <;> cases h2
    have ha : vs[i]? = some v := by
      unfold L2.start at h2
      rw [List.getElem?_append_left (by simpa using hi), List.getElem?_map] at h2
      cases e : vs[i]? with
      | none => rw [e] at h2; cases h2
      | some a => rw [e] at h2; cases h2; rfl
    obtain ⟨u, hu, rv⟩ := r.get ha
    have hp : ps[i]? = some y := by
      rw [← S.pre, List.getElem?_take_of_lt (by omega)]; exact h1
    have ndP : ps.Nodup := by rw [← S.pre]; exact S.nd.sublist (List.take_sublist _ _)
    exact ⟨u, rv, .inl ⟨S.par y (List.mem_of_getElem? hp), zip_lk ndP hp hu⟩⟩
  · unfold L2.start
    show _ = N.length
    rw [List.length_append, List.length_map, List.length_replicate]
    omega
end
structure PSsA (X : Cx) (b st : List Stmt) (t : TS) : Prop where
  run : ∀ (pins : List (Addr × Obj)) (s : Shared) (σ : L2.St) (H : Hp) (D : Ends), Inv X pins σ H s → t D σ H → _root_.PySem.wpAt (model X.prog X.w) X.A (.func b X.env) (execs st X.env) (SP X pins D) X.xe s
structure PSA (X : Cx) (b : List Stmt) (st : Stmt) (t : TS) : Prop where
  run : ∀ (pins : List (Addr × Obj)) (s : Shared) (σ : L2.St) (H : Hp) (D : Ends), Inv X pins σ H s → t D σ H → _root_.PySem.wpAt (model X.prog X.w) X.A (.func b X.env) (exec st X.env) (SP X pins D) X.xe s
structure PEA (X : Cx) (b : List Stmt) (e : Expr) (t : TE) : Prop where
  run : ∀ (pins : List (Addr × Obj)) (s : Shared) (σ : L2.St) (H : Hp) (Q : VK), Inv X pins σ H s → t σ H Q → _root_.PySem.wpAt (model X.prog X.w) X.A (.func b X.env) (eval e X.env) (EP X pins σ Q) X.xe s
theorem PSsA.of {X : Cx} {b st : List Stmt} {t : TS} (h : PSs X st t) : PSsA X b st t := ⟨fun pins s σ H D I q => _root_.PySem.wpAt_of_wpAny (h.run pins s σ H D I q)⟩
theorem PSA.of {X : Cx} {b : List Stmt} {st : Stmt} {t : TS} (h : PS X st t) : PSA X b st t := ⟨fun pins s σ H D I q => _root_.PySem.wpAt_of_wpAny (h.run pins s σ H D I q)⟩
theorem PEA.of {X : Cx} {b : List Stmt} {e : Expr} {t : TE} (h : PE X e t) : PEA X b e t := ⟨fun pins s σ H Q I q => _root_.PySem.wpAt_of_wpAny (h.run pins s σ H Q I q)⟩
theorem PSA.weak {X : Cx} {b : List Stmt} {st : Stmt} {t t' : TS} (h : PSA X b st t) (k : ∀ E σ H, t' E σ H → t E σ H) : PSA X b st t' := ⟨fun pins s σ H E I q => h.run pins s σ H E I (k E σ H q)⟩
theorem PSsA.weak {X : Cx} {b st : List Stmt} {t t' : TS} (h : PSsA X b st t) (k : ∀ E σ H, t' E σ H → t E σ H) : PSsA X b st t' := ⟨fun pins s σ H E I q => h.run pins s σ H E I (k E σ H q)⟩
theorem PEA.weak {X : Cx} {b : List Stmt} {e : Expr} {t t' : TE} (h : PEA X b e t) (k : ∀ σ H Q, t' σ H Q → t σ H Q) : PEA X b e t' := ⟨fun pins s σ H Q I q => h.run pins s σ H Q I (k σ H Q q)⟩
theorem FunC.ok {P : Program} {w : World} {K : PySem.W.Frag} {mg : Str → Option Value} {base : Heap} {x qual file : Str} {params : Arguments} {body : List Stmt} {scope : Scope} {D f : Addr} {fd : FuncData} {CX : CXT} {N ps : List Str} {k : Nat} {sp : Sp}
    (F : FunC K x qual params body scope D file f fd) (S : FnScopeX N ps scope) (hbi : ∀ (kV doc pm : Value) (an : Option Addr) (cdv ct : Value) (cl : List (Str × Addr)) (us : List Value), us.length = ps.length → bindArgs (PySem.W.fnX x qual params body scope cl .none kV doc pm an cdv ct) ⟨us, []⟩ = pure (ps.zip us))
    (len : ∀ vs H Q E, sp vs H Q E → vs.length = ps.length)
    (hbody : ∀ (cda cc : Addr) (A : Around) (outer : List PySem.Env) (s : Shared) (H : Hp) (vs : List V) (Q : VK) (E : XK), (∃ (ccl : Value) (cdd : Option Addr) (vs : Array Value) (ccs : Array (Option Value)) (tf : Tok) (oc : Value) (od : Option Addr) (osl : Array (Option Value)) (cl : Value) (cld : Option Addr) (csl : Array (Option Value)),
        K.lookup f = some ⟨oc, od, .func fd, osl⟩ ∧ K.lookup cda = some ⟨ccl, cdd, .fields vs, ccs⟩ ∧ vs[2]? = some (.str file tf) ∧ K.lookup cc = some ⟨cl, cld, .cell (some (.ref D)), csl⟩ ∧ fd.code = .ref cda) →
      Room k (A.deeper (envSX qual scope s.heap.objs.size f (.ref cda) cc)) → sp vs H Q E →
      ∃ t, PSsA (cxX CX P w K mg base N qual scope f (.ref cda) cc A outer s H E) body body t ∧ t { nx := fun _ H' => Q .non H', rt := Q } (start N vs) H) : FnOk P w K mg base CX (k + 1) f fd ps sp ∧ Binds K fd ps [] := by
  obtain ⟨oc, od, kV, doc, pm, an, cda, ct, osl, cc, ccl, cdd, vs0, ccs, tf, cl, cld, csl, rfl, lk, hcd, h4, h5, h6⟩ := F.ex
  refine ⟨⟨len, fun A outer s H args us vs Q E hr e0 hb r hsp => ?_⟩, .all fun us hl => hbi kV doc pm an _ ct _ us hl⟩
  have hl := len _ _ _ _ hsp
  have KX : K.In s.heap := e0.mod.kin.keeps fun b o e => (e0.bs b o e).1
  have lim : s.heap.NoLimit := e0.mod.nolimit.keeps fun b o e => (e0.bs b o e).1
  have hkind : ∀ y ∈ ps.zip us, scope.names.lookup y.1 = some .local := fun ⟨n, v⟩ hy => S.par n (List.of_mem_zip hy).1
  refine codeAny_call_function hr.depth (KX _ _ lk) rfl S.co S.gen rfl (PySem.W.codeRec_of KX hcd) (hb _ _ _ _ ?_)
  refine newEnv_cells S.kind hkind fun h1 t1 hns kp own ap => ⟨lim.keeps kp, ks_codeAny_funcAt ?_⟩
  obtain ⟨t, ht, hq⟩ := hbody cda cc A outer s H vs Q E ⟨ccl, cdd, vs0, ccs, tf, oc, od, osl, cl, cld, csl, lk, h4, h5, h6, rfl⟩ (hr.deeper _) hsp
  have hcc : s.heap.IsCell cc (some (.ref D)) := ⟨_, KX _ _ h6, rfl⟩
  have I : Inv (cxX CX P w K mg base N qual scope f (.ref cda) cc A outer s H E) [] (start N vs) H { s with heap := h1, toks := t1 } := invX S hr.hd e0 hl r hcc ((e0.bs _ _ (e0.mod.kin _ _ h6)).2) hns kp own ap
  refine _root_.PySem.wpAt_mono (ht.run [] _ (start N vs) H _ I hq) (fun fl s' hs => ?_) fun e s' hs => hs
  have fin : ∀ {σ' : L2.St} {H' : Hp} {v : V} {u : Value}, Inv (cxX CX P w K mg base N qual scope f (.ref cda) cc A outer s H E) [] σ' H' s' → RelV v u → Q v H' → CE outer P w H s Q u s' :=
    fun {σ' H' v u} J rv q => ⟨v, H', J.os, J.bare, J.base, J.hok, rv, q⟩
  cases fl with
  | ret u =>
    obtain ⟨v, σ', H', J, rv, q⟩ := hs
    exact fin J rv q
  | next =>
    obtain ⟨σ', H', J, q⟩ := hs
    exact fin (v := V.non) (u := Value.none) J rfl q
  | brk =>
    obtain ⟨_, _, _, q⟩ := hs
    exact False.elim q
  | cont =>
    obtain ⟨_, _, _, q⟩ := hs
    exact False.elim q
end DL
namespace DL
open PySem PySem.Spec PyProof.Rows L2 ClX
variable [Tb]
structure SupX (X : Cx) (D : Addr) : Prop where
  ks : X.env.kindOf "super" = some .globalImplicit
  kc : X.env.kindOf "__class__" = some .free
  fn : ∃ f oc od osl fd ar, X.env.func = some f ∧ X.K.lookup f = some ⟨oc, od, .func fd, osl⟩ ∧ (fd.params.posonlyargs ++ fd.params.args).head? = some ar ∧ X.N[0]? = some ar.arg ∧ X.env.kindOf ar.arg = some .local
  code : ∃ cda ccl cdd vs ccs file tf, X.env.code = .ref cda ∧ X.K.lookup cda = some ⟨ccl, cdd, .fields vs, ccs⟩ ∧ vs[2]? = some (.str file tf) ∧ ((X.prog.main.file : Str) == file) = true
  cell : ∃ cc cl cld csl, X.env.cells.lookup ("__class__" : Str) = some cc ∧ X.K.lookup cc = some ⟨cl, cld, .cell (some (.ref D)), csl⟩
  top : (X.prog.main.scope.names.lookup ("super" : Str)).isSome = false
  free : X.mg "super" = none
  isc : PySem.W.isClsIn X.K D = true
  pc : ∀ p : Str × Option Str, X.env.func = some (He.fAd X.K p) → X.env.code = .ref (He.codeOf X.K p)
section
variable {X : Cx} {pins : List (Addr × Obj)} {σ : L2.St} {H : Hp} {s : Shared} {D C x : Addr} {b : List Stmt}
theorem cls_data (I : Inv X pins σ H s) (h : PySem.W.isClsIn X.K D = true) : ∃ oD cdD, s.heap.get? D = some oD ∧ oD.data = .cls cdD := by
  obtain ⟨cd, hcd⟩ := Option.isSome_iff_exists.mp (show (PySem.W.clsIn X.K D).isSome = true from h)
  unfold PySem.W.clsIn at hcd
  split at hcd
  · rename_i c d cd' sl ho
    cases hcd
    exact ⟨_, _, I.kIn _ _ ho, rfl⟩
  · cases hcd
theorem super_base {p0 p1 : Pos} {attr : Str} {whole : Sem Value} {ox : Obj} {od : Option Obj} {Q : Value → Shared → Prop} (U : SupX X D) (I : Inv X pins σ H s) (hx : σ[0]? = some (some (.ref x))) (J : PySem.W.InstAt s.heap x ox C od)
    (hsub : PySem.W.mroIn X.K C (.ref D) = some true) (hat : (attr == ("__class__" : Str)) = false)
    (h : ∀ so h', Inv X ((so, PySem.W.ks_superObj D x C) :: pins) σ H { s with heap := h' } → (∀ y o, s.heap.get? y = some o → h'.get? y = some o) → Q (.ref so) { s with heap := h' }) :
    _root_.PySem.wpAt (model X.prog X.w) X.A (.func b X.env) (attributeBase (.Call (.Name "super" p0) [] [] p1) attr X.env whole) Q X.xe s := by
  obtain ⟨f, oc, odf, osl, fd, ar, f1, f2, f3, f4, f5⟩ := U.fn
  obtain ⟨cda, ccl, cdd, vs, ccs, file, tf, c1, c2, c3, c4⟩ := U.code
  obtain ⟨cc, cl, cld, csl, e1, e2⟩ := U.cell
  obtain ⟨oD, cdD, hD1, hD2⟩ := cls_data I U.isc
  obtain ⟨mb, b1, b2⟩ := I.mod.blt
  obtain ⟨m, hn, hl⟩ := I.loc
  obtain ⟨u, ru, lu⟩ := hl 0 ar.arg (.ref x) f4 hx (.inl f5)
  obtain rfl : u = Value.ref x := ru
  have hm : m ar.arg = some (.ref x) := by
    rcases lu with ⟨_, z⟩ | ⟨z, _⟩
    · exact z
    · rcases z with z | z <;> (rw [f5] at z; cases z)
  refine ks_wpAt_super_base (env := X.env) U.ks U.kc hat f1 (I.kIn _ _ f2) rfl f3 c1 (I.kIn _ _ c2) rfl c3 c4 U.top ?_
  refine PySem.W.ks_loadName_global I.ok.kind U.ks (Calls.loadGlobal_builtin (by rw [I.ok.glob]; exact I.mod.glob.keeps I.bk) U.free (by rw [I.ok.blt]; exact b1.keeps I.bk) ((b2 _ (by decide)).trans (by decide +kernel)) ⟨rfl, ?_⟩)
  refine wpAny_loadName_free I.ok.kind U.kc e1 ⟨_, I.kIn _ _ e2, rfl⟩ ?_
  refine wpAny_loadName_local I.ok.kind f5 hn hm ?_
  refine ks_wpAny_isType_cls hD1 hD2 ⟨rfl, ?_⟩
  refine ks_wpAny_call_super hD1 hD2 J.at_ J.cls (fun c e => ?_) (PySem.W.looks_mroIn I.kIn hsub) (fun h' e k => ?_)
  · have := J.no
    unfold PySem.W.notCls at this
    rw [e] at this
    exact Bool.noConfusion this
  · exact h _ h' (pin_new (t' := s.toks) I k (Nat.le_refl _) e (fun v z => nomatch z)) k
theorem super_get {name : Str} {pl : Sem Bool} {ox : Obj} {od : Option Obj} {so f2 : Addr} {A : Around} {E : Value → Shared → Prop} {Q : Value × List Value → Shared → Prop} (I : Inv X ((so, PySem.W.ks_superObj D x C) :: pins) σ H s) (J : PySem.W.InstAt s.heap x ox C od) (ho : PySem.W.nsIn X.K cStatics "thirdparty.any" = some none)
    (hm : PySem.W.ks_superIn X.K C D name = some (some (.ref f2))) (ht : PySem.W.typeIn X.K (.ref f2) = some (.type "function")) (hn : (name == ("__class__" : Str)) = false)
    (h : ∀ q s', Inv X ((q, PySem.W.methodObj (.ref f2) (.ref x)) :: (so, PySem.W.ks_superObj D x C) :: pins) σ H s' → s.heap.objs.size ≤ q → Q (.ref q, []) s') : wpAny (model X.prog X.w) A (getMethod (.ref so) name pl) Q E s := by
  have KX := I.kIn
  have hso := pin_at I
  have met := fun (g : Addr) => met_new (g := g) (C := x) I
  have hlt : s.heap.objs.size ≤ s.heap.objs.size := Nat.le_refl _
  obtain ⟨hh, g, d, t, os⟩ := s
  cases hc : PySem.W.clsIn X.K C with
  | none => unfold PySem.W.ks_superIn at hm; rw [hc] at hm; cases hm
  | some cd =>
    unfold PySem.W.ks_superIn at hm
    rw [hc] at hm
    obtain ⟨of, hof, hofc⟩ : ∃ of, hh.get? f2 = some of ∧ of.cls = .type "function" := by
      have ht' : (X.K.lookup f2).map (·.cls) = some (.type "function") := ht
      cases z : X.K.lookup f2 with
      | none => rw [z] at ht'; cases ht'
      | some of => rw [z] at ht'; exact ⟨of, KX _ _ z, Option.some.inj ht'⟩
    refine ks_wpAny_getMethod_super hso (PySem.W.looks_opaque KX ho) (l₀ := cd.mro) ?_ rfl KX hm hof hofc (PySem.W.ks_ne KX J hc) hn ?_
    · exact fun A Q E s k q => wpAny_bind ((PySem.W.looks_clsIn KX hc) A _ E s k (wpAny_pure q))
    · exact h _ _ (met f2) hlt
theorem unpin2 {p q : Addr × Obj} {Q : VK} {u : Value} {s' : Shared} (h : EP X (p :: q :: pins) σ Q u s') : EP X pins σ Q u s' := unpinE (unpinE h)
def tSup (K : PySem.W.Frag) (D : Addr) (m : Str) (k : Nat) (Fo : Addr → Addr → Sp → Prop) (E : XK) (t : TA) : TE := fun σ H Q => ∃ x C dx fs f2 sp, σ[0]? = some (some (.ref x)) ∧ H x = some (.ins C dx fs) ∧ PySem.W.mroIn K C (.ref D) = some true ∧ PySem.W.ks_superIn K C D m = some (some (.ref f2)) ∧
  PySem.W.typeIn K (.ref f2) = some (.type "function") ∧ PySem.W.fnIn K f2 = true ∧ Fo C f2 sp ∧ t σ H fun vs H2 => sp (.ref x :: vs) H2 Q E
theorem pea_super {m : Str} {p0 p1 apos pos : Pos} {e : Expr} {es : List Expr} {t : TA} {k : Nat} {CX : CXT} {E : XK} {pl : Sem Bool} {Fo : Addr → Addr → Sp → Prop} (U : SupX X D) (ho : PySem.W.nsIn X.K cStatics "thirdparty.any" = some none) (hat : (m == ("__class__" : Str)) = false)
    (hF : ∀ C f2 sp, Fo C f2 sp → ∃ fd ps, FnOk X.prog X.w X.K X.mg X.base CX k f2 fd ps sp ∧ Binds X.K fd ps []) (hr : Room k X.A) (hx : Passes CX X E) (ha : PA X (e :: es) t)
    (hst : starEach (e :: es) X.env = (false, eval e X.env) :: starEach es X.env := by rfl) (hpl : (backTo pos (starEach es X.env)).any (·.1) = false := by rfl)
    (ht : eval (.Call (.Attribute (.Call (.Name "super" p0) [] [] p1) m apos) (e :: es) [] pos) X.env = (do
      let ov ← attributeBase (.Call (.Name "super" p0) [] [] p1) m X.env (eval (.Call (.Name "super" p0) [] [] p1) X.env)
      standAt apos.atName
      let (f, first) ← holding [ov] (getMethod ov m pl)
      callWith pos f first (backTo pos (starEach (e :: es) X.env)) []) := by rfl) :
    PEA X b (.Call (.Attribute (.Call (.Name "super" p0) [] [] p1) m apos) (e :: es) [] pos) (tSup X.K D m k Fo E t) := by
  refine ⟨fun pins s σ H Q I hq => ?_⟩
  obtain ⟨x, C, dx, fs, f2, sp, h0, hins, hsub, hsup, hty, hfi, fo, hq⟩ := hq
  refine ks_wpAt_MethodCall ?_ ht
  obtain ⟨mA, O, _⟩ := ins_get I.hok hins
  obtain ⟨od, J, _⟩ := O.look
  refine super_base U I h0 J hsub hat fun so h' I1 kp => ?_
  obtain ⟨mA1, O1, _⟩ := ins_get I1.hok hins
  obtain ⟨od1, J1, _⟩ := O1.look
  refine super_get I1 J1 ho hsup hty hat fun q s2 I2 hge => ?_
  have hqb : X.base.get? q = none := base_none I1 hge
  refine callwith_cm I2 hqb hfi (thn (ha.run pos _ s2 σ H _ I2 hq) fun us s3 ⟨vs, H2, I3, rv, q2⟩ => ⟨⟨pin_at I3, I3.kIn⟩, ?_⟩) hst hpl
  obtain ⟨fd, ps, F, hb⟩ := hF C f2 sp fo
  have z : wpAny (model X.prog X.w) X.A (call (.ref q) us) (EP X ((q, PySem.W.methodObj (.ref f2) (.ref x)) :: (so, PySem.W.ks_superObj D x C) :: pins) σ Q) X.xe s3 := by
    refine wpAny_call (PySem.W.method_call (pin_at I3) ?_)
    have r2 : Vals (.ref x :: vs) (.ref x :: us) := .cons rfl rv
    have hl : (Value.ref x :: us ++ []).length = ps.length := by
      rw [List.append_nil, ← r2.length]
      exact F.len _ _ _ _ q2
    have hb2 := hb s3 (Value.ref x :: us) I3.kIn hl
    rw [List.append_nil] at hb2
    refine codeAny_mono (F.run X.A X.stack s3 H2 ⟨Value.ref x :: us, []⟩ (Value.ref x :: us) (.ref x :: vs) Q E hr I3.env0 hb2 r2 q2) fun r s' hq => ?_
    cases r with
    | error e => exact hx _ σ H2 s3 e s' I3 hq
    | ok fl =>
      cases fl with
      | ret u => exact I3.after hq
      | next => exact False.elim hq
      | brk => exact False.elim hq
      | cont => exact False.elim hq
  exact thn z fun _ _ y => unpin2 y
end
structure PrOk (P : Program) (file : Str) : Prop where
  file : ((P.main.file : Str) == file) = true
  top : (P.main.scope.names.lookup ("super" : Str)).isSome = false
structure SupD (params : Arguments) (scope : Scope) (N : List Str) : Prop where
  ks : scope.names.lookup ("super" : Str) = some .globalImplicit
  kc : scope.names.lookup ("__class__" : Str) = some .free
  fn : ∃ ar, (params.posonlyargs ++ params.args).head? = some ar ∧ N[0]? = some ar.arg ∧ scope.names.lookup ar.arg = some .local
section
variable {X : Cx} {b rest : List Stmt} {st : Stmt} {e : Expr} {te : TE} {t u : TS} {pos : Pos}
theorem psa_cons (h1 : PSA X b st t) (h2 : PSsA X b rest u) : PSsA X b (st :: rest) (fun D σ H => t { D with nx := u D } σ H) := by
  refine ⟨fun pins s σ H D I h => ks_wpAt_execs_cons (_root_.PySem.wpAt_mono (h1.run pins s σ H _ I h) (fun f s' hs => ?_) fun _ _ x => x)⟩
  cases f with
  | next => obtain ⟨σ', H', J, q⟩ := hs; exact h2.run pins s' σ' H' D J q
  | brk => exact hs
  | cont => exact hs
  | ret v => exact hs
theorem psa_ret (he : PEA X b e te) : PSA X b (.Return (some e) pos) (fun D σ H => te σ H D.rt) :=
  ⟨fun pins s σ H D I h => ks_wpAt_Return_some (_root_.PySem.wpAt_mono (he.run pins s σ H _ I h) (fun v s1 ⟨x, H1, I1, r1, q1⟩ => ⟨x, σ, H1, I1, r1, q1⟩) fun _ _ x => x)⟩
theorem psa_set {i : Nat} {x : Str} {pos' : Pos} (hN : X.N.Nodup) (hi : X.N[i]? = some x) (hx : Loc X.env.scope x) (he : PEA X b e te) (hs : swapsWith e (some (.Name x pos')) pos.line X.env = pure false := by rfl) (hf : X.fn x = true ∨ X.env.scope.names.lookup x = some .local := by first | exact .inl rfl | exact .inr rfl | assumption) :
    PSA X b (.Assign [.Name x pos'] e pos) (fun D σ H => te σ H fun v H' => D.nx (σ.set i (some v)) H') := by
  refine ⟨fun pins s σ H D I h => ?_⟩
  refine ks_wpAt_Assign_Name (_root_.PySem.wpAt_mono (he.run pins s σ H _ I h) (fun v s1 ⟨y, H1, I1, r1, q1⟩ => ?_) fun _ _ x => x) hs
  exact store_ok I1 hN hi hx r1 (fun s2 I2 => ⟨_, H1, I2, q1⟩) hf
end
end DL
namespace DL
open PySem PySem.Spec PyProof.Rows L2 ClX
variable [Tb]
section
variable {prog : Program} {w : World} {A : Around} {E : Value → Shared → Prop} {h : Heap} {g : Array GenState} {d : Drawn} {t : Nat} {os : OsState} {nm q : Str} {C N : Addr} {bs bm : List Value} {hdct : Bool} {sn : List Str} {sub : List Value} {ab : Bool} {col : Option Bool} {dd : Option Addr} {k0 k1 k2 k3 k5 : Option Value}
end
section
variable {X : Cx} {pins : List (Addr × Obj)} {σ : L2.St} {H : Hp} {s : Shared} {D C x : Addr} {b : List Stmt}
def tSupI (K : PySem.W.Frag) (D : Addr) (t : TA) : TE := fun σ H Q => ∃ x C, σ[0]? = some (some (.ref x)) ∧ H x = some (exo x C none) ∧ OexC K C ∧ PySem.W.mroIn K C (.ref D) = some true ∧ PySem.W.ks_superIn K C D "__init__" = some (some (.builtin "ValueError.__init__")) ∧
  PySem.W.subIn K (.ref C) (.type "ValueError") = some true ∧ t σ H fun vs H2 => vs.length ≤ 1000 ∧ H2 x = some (exo x C none) ∧ Q .non H2
end
structure ExcK (K : PySem.W.Frag) (C : Addr) : Prop where
  oex : OexC K C
  self : PySem.W.mroIn K C (.ref C) = some true
  sup : PySem.W.ks_superIn K C C "__init__" = some (some (.builtin "ValueError.__init__"))
  ve : PySem.W.subIn K (.ref C) (.type "ValueError") = some true
  isc : PySem.W.isClsIn K C = true
  any : PySem.W.nsIn K cStatics "thirdparty.any" = some none
def spXi (C : Addr) (fs : List Str) : Sp := fun vs H Q _ => ∃ (a : Addr) (ws : List V), vs = .ref a :: ws ∧ ws.length = fs.length ∧ H a = some (exo a C none) ∧
  ∀ dx, H dx = none → dx ≠ a → Q .non (upd (upd H dx (exd dx (fs.zip ws).reverse)) a (exo a C (some dx)))
section
variable {P : Program} {w : World} {K : PySem.W.Frag} {mg : Str → Option Value} {base : Heap} {qual file : Str} {params : Arguments} {scope : Scope} {C f : Addr} {fd : FuncData} {CX : CXT} {sf n1 n2 f1 f2 txt : Str} {j : Nat} {p0 p1 p2 p3 p4 p5 p6 p7 p8 p9 pa pb pc pd : Pos} {body : List Stmt} {pl : Sem Bool}
end
end DL
namespace DL
open PySem PySem.Spec PyProof.Rows L2 ClX
variable [Tb]
def oexB (K : PySem.W.Frag) (C : Addr) : Bool := match K.lookup C with
  | some ⟨.type t, _, .cls cd, sl⟩ => (match cd.mro, sl.toList with
    | .ref C' :: bm, [_, _, _, _, some (.builtin n), _] => t == "type" && (C' == C && (n == "ValueError.__new__" && (!cd.hasDel && (cd.hasDict && PySem.HandSPX.refsVE bm))))
    | _, _ => false)
  | _ => false
def opV (a b : Option Value) : Bool := decide (a = b)
def ooV (a b : Option (Option Value)) : Bool := decide (a = b)
def obB (a b : Option Bool) : Bool := decide (a = b)
def oexcB (K : PySem.W.Frag) (C : Addr) : Bool := oexB K C && (ooV (PySem.W.findIn K (.ref C) "__setattr__") (some (some (.builtin "object.__setattr__"))) && (obB (PySem.W.subIn K (.ref C) (.type "BaseException")) (some true) && (opV (PySem.W.typeIn K (.ref C)) (some (.type "type")) && PySem.W.keepIn K (.ref C))))
def excKB (K : PySem.W.Frag) (C : Addr) : Bool := oexcB K C && (obB (PySem.W.mroIn K C (.ref C)) (some true) && (ooV (PySem.W.ks_superIn K C C "__init__") (some (some (.builtin "ValueError.__init__"))) && (obB (PySem.W.subIn K (.ref C) (.type "ValueError")) (some true) && (PySem.W.isClsIn K C && ooV (PySem.W.nsIn K cStatics "thirdparty.any") (some none)))))
structure ExcR (K : PySem.W.Frag) (C : Addr) : Prop where
  xf : XfC K C
  ec : ExcC K C
def excRB (K : PySem.W.Frag) (C : Addr) : Bool := xfB K C && (ooV (PySem.W.findIn K (.ref C) "__class__") (some (some (.builtin "object.__class__"))) && (ooV (PySem.W.specialIn K (.builtin "object.__class__") "__get__") (some (some (.builtin "getset_descriptor.__get__"))) && (obB (PySem.W.takesIn K (.builtin "object.__class__")) (some true) && obB (PySem.W.mroIn K C (.type "object")) (some true))))
structure XMk (P : Program) (w : World) (K : PySem.W.Frag) (mg : Str → Option Value) (base : Heap) (c : Str) (fs : List Str) : Prop where
  T : ExcK K (He.ga K c)
  m : mg c = some (.ref (He.ga K c))
  ini : ∃ fI fd ps, PySem.W.findIn K (.ref (He.ga K c)) "__init__" = some (some (.ref fI)) ∧ PySem.W.typeIn K (.ref fI) = some (.type "function") ∧ FnOk P w K mg base (L2.CX P w) 1 fI fd ps (spXi (He.ga K c) fs) ∧ Binds K fd ps []
def sRaise (c : Str) (fs : List Str) (t : Env → Ou (List D)) : Env → Os := fun ρ => ofU (t ρ) ρ fun ds => if D.fzs ds && decide (ds.length = fs.length) && decide (fs.length ≤ 900) then .ex c fs.reverse ds.reverse ρ else .bad
def sRaise0 (c : Str) : Env → Os := fun ρ => .ex c [] [] ρ
section
variable {K : PySem.W.Frag} {cl : Str → Addr} {Z H Z' H' Z0 H0 Z1 H1 : Hp} {σ : L2.St} {ρ : Env} {W : WX}
theorem ExD.gr {ns : List Str} {xs : List D} {dc : Option Addr} (g : Gr Z H Z' H') (h : ExD K cl Z H ns xs dc) : ExD K cl Z' H' ns xs dc := by
  rcases h with h | ⟨d, vs, e1, e2, e3, e4⟩
  · exact .inl h
  · exact .inr ⟨d, vs, e1, g.z.l e2, e3, g.dens e4⟩
end
section
variable {X : Cx} {W : WX} {k : Nat} {e : Expr} {es : List Expr} {t : Env → Ou (List D)} {pos p p2 rpos : Pos} {x m : Str} {fs : List Str} {j : Nat}
structure XMk0 (K : PySem.W.Frag) (mg : Str → Option Value) (c : Str) : Prop where
  x : PySem.W.excIn K (He.ga K c) He.veBase "ValueError.__new__" = true
  k : PySem.W.keepIn K (.ref (He.ga K c)) = true
  b : PySem.W.subIn K (.ref (He.ga K c)) (.type "BaseException") = some true
  t : PySem.W.typeIn K (.ref (He.ga K c)) = some (.type "type")
  m : mg c = some (.ref (He.ga K c))
end
end DL
namespace DL
open PySem PySem.Spec PyProof.Rows L2 ClX
variable [Tb]
theorem kit_excD {K : PySem.W.Frag} {D x : Addr} {ox : Obj} {od : Option Obj} (C : ExcC K D) : PySem.W.KitX K (.ref x) (.ref D) (fun h => PySem.W.InstAt h x ox D od) where
  ty := fun _ _ _ I => I.type
  it := fun M h X _ => by
    obtain ⟨cdD, hcD, _⟩ := PySem.W.any_some C.hd
    unfold PySem.W.clsIn at hcD
    split at hcD
    · rename_i c' d' cd' sl' ho
      intro A' Q' E' s' k q
      unfold isType loadHead
      exact wpAny_bind (wpAny_loadPart (k _ _ (X _ _ ho)) (wpAny_pure q))
    · cases hcD
  ne := fun h tp dd its n sl X htp => (PySem.W.handS_kitx_exc (x := x) (ox := ox) C.hg C.hk C.hs C.hd C.ha C.hn C.ht C.hm).ne h tp dd its n sl X htp
  ca := fun X I k => PySem.W.kx_classE X I C.hg C.hk C.hs (PySem.W.findObj_dataE (by obtain ⟨cd, hc, _⟩ := PySem.W.any_some C.hd; rw [hc]; rfl) C.ha C.hn C.ht) C.hm k
def rIsE2 (K : PySem.W.Frag) (D a : Addr) (d : Option Addr) : List V → Hp → VK → Prop := fun xs H Q => ∃ (c : V) (cv : Value) (b : Bool), xs = [.ref a, c] ∧ (∀ u, RelV c u → u = cv) ∧ PySem.W.kitOne K (.ref D) cv = some b ∧ (∀ dd, d = some dd → ∃ fs, H dd = some (.xd fs)) ∧ Q (.bl b) H
theorem call_isE2 {X : Cx} {a D : Addr} {oe : Obj} {d : Option Addr} {pn : List (Addr × Obj)} (C : ExcC X.K D) (hz : Zc (.ref D) d oe) (hf : ∃ vs, oe.data = .fields vs) : CallR (X.suite a ((a, oe) :: pn)) (.builtin "isinstance") (rIsE2 X.K D a d) := by
  intro pins s σ H xs us Q I r h
  obtain ⟨c, cv, b, rfl, hcv, e, hd, q⟩ := h
  cases r with
  | cons rx rr =>
    cases rr with
    | cons rt rr =>
      cases rr
      cases rx
      have ec := hcv _ rt
      subst ec
      obtain ⟨hget, _⟩ := I.pin (a, oe) (List.mem_append.mpr (.inl List.mem_cons_self))
      obtain ⟨vs, hv⟩ := hf
      have J : ∃ od, PySem.W.InstAt s.heap a oe D od := by
        obtain ⟨oc, od, oda, osl⟩ := oe
        obtain ⟨h1, h2⟩ := hz
        dsimp only at h1 h2 hv
        subst h1 h2 hv
        cases od with
        | none => exact ⟨none, hget, rfl, rfl, trivial⟩
        | some dd =>
          obtain ⟨fs, hx⟩ := hd dd rfl
          have hx2 : ObjOk X.prog X.w H s.heap dd (.xd fs) := I.hok dd _ hx
          obtain ⟨mA, ⟨o, es, ep, ho, _⟩, _⟩ := hx2
          exact ⟨some o, hget, rfl, rfl, ho⟩
      obtain ⟨od, J⟩ := J
      exact PySem.W.kia_one (kit_excD C) I.kIn J e (fun z => nomatch z) fun tk => ⟨.bl b, H, I.kept (t' := tk) fun _ _ z => z, rfl, q⟩
structure DX (X : Cx) (i : Nat) (a : Addr) (d : Option Addr) (ns : List Str) (xs : List D) (e : Expr) (f : Env → Ou D) : Prop where
  run : PE X e (fun σ H Q => σ[i]? = some (some (.ref a)) ∧ ∃ Z ρ, RelS X.K (He.ga X.K) Z H σ ρ ∧ ExD X.K (He.ga X.K) Z H ns xs d ∧ PostO X.K (He.ga X.K) W0 Z H σ (f ρ) Q)
structure DXs (X : Cx) (i : Nat) (a : Addr) (d : Option Addr) (ns : List Str) (xs : List D) (es : List Expr) (f : Env → Ou (List D)) : Prop where
  run : PA X es (fun σ H Q => σ[i]? = some (some (.ref a)) ∧ ∃ Z ρ, RelS X.K (He.ga X.K) Z H σ ρ ∧ ExD X.K (He.ga X.K) Z H ns xs d ∧ PostA X.K (He.ga X.K) W0 Z H σ (f ρ) Q)
def fldOf (ns : List Str) (xs : List D) (f : Str) : Env → Ou D := fun _ => match (ns.zip xs).lookup f with
  | some d => .ok d
  | none => .bad
section
variable {X : Cx} {i : Nat} {a C : Addr} {oe : Obj} {d : Option Addr} {pn : List (Addr × Obj)} {ns : List Str} {xs : List D} {e b : Expr} {es : List Expr} {f g : Env → Ou D} {t : Env → Ou (List D)} {pos p q : Pos} {n x fl : Str} {rest : List Expr}
theorem DX.of (h : DE X W0 e f) : DX X i a d ns xs e f := ⟨PE.weak h.run fun σ H Q ⟨_, Z, ρ, r, _, q⟩ => ⟨Z, ρ, r, q⟩⟩
structure IsiC (X : Cx) (x : Str) (C : Addr) (r : Bool) : Prop where
  ex : ∃ (cV : V) (cv : Value), (∀ {σ : L2.St} {H : Hp} {pos : Pos}, PE X (.Name x pos) (tC cV)) ∧ (∀ u, RelV cV u → u = cv) ∧ PySem.W.kitOne X.K (.ref C) cv = some r
theorem DX.isi {r : Bool} {p3 : Pos} (T : ExcC X.K C) (I : IsiC (X.suite a ((a, oe) :: pn)) x C r) (hz : Zc (.ref C) d oe) (hf : ∃ vs, oe.data = .fields vs) (hm : X.mg "isinstance" = none) (hg : Gl X "isinstance" := by rfl) (hN : X.N[i]? = some n := by rfl) (hv : Vis X.env.scope n := by first | exact Or.inl rfl | exact Or.inr (Or.inl rfl)) (hd : (n == ("__debug__" : Str)) = false := by decide) (hcd : (n == ("__classdict__" : Str)) = false := by decide)
    (he : starEach [.Name n p, .Name x q] X.env = (false, eval (.Name n p) X.env) :: starEach [.Name x q] X.env := by rfl) (he2 : starEach [.Name x q] X.env = (false, eval (.Name x q) X.env) :: starEach [] X.env := by rfl) (hpl : (backTo pos (starEach [.Name x q] X.env)).any (·.1) = false := by rfl) :
    DX (X.suite a ((a, oe) :: pn)) i a d ns xs (.Call (.Name "isinstance" p3) [.Name n p, .Name x q] [] pos) (dC (.bl r)) := by
  obtain ⟨cV, cv, h1, h2, h3⟩ := I.ex
  refine ⟨PE.weak (pe_callB (call_isE2 T hz hf) hg hm boot_isinstance (pa_cons (pv (X := X.suite a ((a, oe) :: pn)) i hN hv hd hcd) (pa_cons (h1 (σ := []) (H := fun _ => none)) pa_nil he2) he) (by decide) (by decide) he hpl) fun σ H Q hq => ?_⟩
  obtain ⟨h0, Z, ρ, r, ex, q⟩ := hq
  refine ⟨.ref a, h0, cV, cv, _, rfl, h2, h3, fun dd ed => ?_, PostV.bl r.s q⟩
  rcases ex with ⟨_, _, e3⟩ | ⟨d2, vs, e1, e2, e3, e4⟩
  · rw [ed] at e3; cases e3
  · rw [ed] at e1; cases e1
    exact ⟨_, r.s.l e2⟩
end
section
variable {X : Cx} {i : Nat} {a C : Addr} {oe : Obj} {d : Option Addr} {pn : List (Addr × Obj)} {ns : List Str} {xs : List D} {e b : Expr} {es : List Expr} {f g : Env → Ou D} {t : Env → Ou (List D)} {pos p q : Pos} {n x fl : Str} {rest : List Expr}
theorem DXs.nil : DXs X i a d ns xs [] aNil := ⟨PA.weak pa_nil fun σ H Q ⟨_, Z, ρ, r, _, q⟩ => q [] Z H [] (Gr.refl r.s) ⟨rfl, rfl⟩ List.nodup_nil fun _ z => nomatch z⟩
theorem DXs.cons (h : DX X i a d ns xs e f) (hr : DXs X i a d ns xs es t) (hs : starEach (e :: es) X.env = (false, eval e X.env) :: starEach es X.env := by rfl) : DXs X i a d ns xs (e :: es) (aCons f t) := by
  refine ⟨PA.weak (pa_cons h.run hr.run hs) fun σ H Q hq => ?_⟩
  obtain ⟨h0, Z, ρ, r, ex, q⟩ := hq
  refine ⟨h0, Z, ρ, r, ex, ?_⟩
  unfold aCons at q
  cases ef : f ρ with
  | ex c ns xs => rw [ef] at q; exact q
  | bad => rw [ef] at q; exact q
  | ok x =>
    rw [ef] at q
    intro v Z1 H1 fx g1 dx nx fx'
    refine ⟨h0, Z1, ρ, r.gr g1, ex.gr g1, ?_⟩
    have q : PostA X.K (He.ga X.K) W0 Z H σ (t ρ >>= fun xs => .ok (x :: xs)) Q := q
    match e : t ρ with
    | .ok ds =>
      rw [e] at q
      refine fun vs Z2 H2 fp g2 dn nd fr => q (v :: vs) Z2 H2 (fx ++ fp) (g1.trans g2) (Dens.cons (g2.den dx) dn) ?_ fun a ha => ?_
      · rw [List.nodup_append]
        refine ⟨nx, nd, fun a ha b hb e => ?_⟩
        subst e
        obtain ⟨_, xs, q1⟩ := Den.own x v fx dx a ha
        rw [fr a hb] at q1; cases q1
      · rcases List.mem_append.mp ha with z | z
        · exact fx' a z
        · exact g1.h.back (fr a z)
    | .ex c ns xs => rw [e] at q; exact PostX.gr q g1
    | .bad => rw [e] at q; exact q.elim
theorem DX.tup {x1} (h : DXs X i a d ns xs es t) : DX X i a d ns xs (.Tuple es x1 pos) (dTup t) := by
  refine ⟨PE.weak (pe_tup h.run) fun σ H Q hq => ?_⟩
  obtain ⟨h0, Z, ρ, r, ex, q⟩ := hq
  refine ⟨h0, Z, ρ, r, ex, ?_⟩
  unfold dTup at q
  cases et : t ρ with
  | ex c ns xs => rw [et] at q; exact q
  | bad => rw [et] at q; exact q
  | ok ds =>
    rw [et] at q
    intro vs Z1 H1 fp g1 dn nd fr
    have q : PostO X.K (He.ga X.K) W0 Z H σ (if ds.length ≤ LIM then .ok (.tup ds) else .bad) Q := q
    by_cases c : ds.length ≤ LIM
    · rw [if_pos c] at q
      exact ⟨by rw [dn.length]; exact lim_le c, fun p hp => PostV.tup q g1 dn nd fr p hp⟩
    · rw [if_neg c] at q; exact q.elim
theorem DX.lst (h : DXs X i a d ns xs es t) : DX X i a d ns xs (.List es pos) (dLst t) := by
  refine ⟨PE.weak (pe_lst h.run) fun σ H Q hq => ?_⟩
  obtain ⟨h0, Z, ρ, r, ex, q⟩ := hq
  refine ⟨h0, Z, ρ, r, ex, ?_⟩
  unfold dLst at q
  cases et : t ρ with
  | ex c ns xs => rw [et] at q; exact q
  | bad => rw [et] at q; exact q
  | ok ds =>
    rw [et] at q
    intro vs Z1 H1 fp g1 dn nd fr
    have q : PostO X.K (He.ga X.K) W0 Z H σ (if ds.length ≤ LIM then .ok (.lst true ds) else .bad) Q := q
    by_cases c : ds.length ≤ LIM
    · rw [if_pos c] at q
      exact ⟨by rw [dn.length]; exact lim_le c, fun p hp => PostV.lst q g1 dn nd fr p hp⟩
    · rw [if_neg c] at q; exact q.elim
theorem DX.one {op} (h : DX X i a d ns xs e f) : DX X i a d ns xs (.BoolOp op [e] pos) f := ⟨pe_one h.run⟩
theorem DX.or (h : DX X i a d ns xs e f) (k : DX X i a d ns xs (.BoolOp .Or (b :: rest) pos) g) : DX X i a d ns xs (.BoolOp .Or (e :: b :: rest) pos) (dOr f g) := by
  refine ⟨PE.weak (pe_orT h.run k.run) fun σ H Q hq => ?_⟩
  obtain ⟨h0, Z, ρ, r, ex, q⟩ := hq
  refine ⟨h0, Z, ρ, r, ex, ?_⟩
  unfold dOr at q
  cases ef : f ρ with
  | ex c ns xs => rw [ef] at q; exact q
  | bad => rw [ef] at q; exact q
  | ok x =>
    rw [ef] at q
    intro v Z1 H1 fp g1 dn nd fr
    have q : PostO X.K (He.ga X.K) W0 Z H σ (ofO (tru x) >>= fun b => if b then .ok x else g ρ) Q := q
    match e : DL.tru x with
    | some b =>
      rw [e] at q
      refine ⟨b, tru_ok' g1.s dn e, ?_⟩
      cases b with
      | true => exact q v Z1 H1 fp g1 dn nd fr
      | false => exact ⟨h0, Z1, ρ, r.gr g1, ex.gr g1, PostO.gr q g1⟩
    | none => rw [e] at q; exact q.elim
end
structure DSX (X : Cx) (i : Nat) (a : Addr) (d : Option Addr) (ns : List Str) (xs : List D) (st : List Stmt) (g : Env → Os) : Prop where
  run : ∀ Z0 H0, PSs X st (fun E σ H => σ[i]? = some (some (.ref a)) ∧ ∃ Z ρ, Sta X.K (He.ga X.K) Z0 H0 Z H σ ρ ∧ ExD X.K (He.ga X.K) Z H ns xs d ∧ PostS X.K (He.ga X.K) W0 Z0 H0 E (g ρ))
section
variable {X : Cx} {i : Nat} {a : Addr} {d : Option Addr} {ns : List Str} {xs : List D} {e : Expr} {f : Env → Ou D} {g : Env → Os} {pos pos' : Pos} {x : Str} {rest : List Stmt}
theorem DSX.of (h : DSs X W0 rest g) : DSX X i a d ns xs rest g := ⟨fun Z0 H0 => PSs.weak (h.run Z0 H0) fun E σ H ⟨_, Z, ρ, s, _, q⟩ => ⟨Z, ρ, s, q⟩⟩
theorem DSX.set (j : Nat) (he : DX X i a d ns xs e f) (hr : DSX X i a d ns xs rest g) (hN : X.N.Nodup) (hne : j ≠ i := by decide) (hj : X.N[j]? = some x := by rfl) (hx : Loc X.env.scope x := by first | exact Or.inl rfl | exact Or.inr rfl) (hs : swapsWith e (some (.Name x pos')) pos.line X.env = pure false := by rfl)
    (hf : X.fn x = true ∨ X.env.scope.names.lookup x = some .local := by first | exact .inl rfl | exact .inr rfl | assumption) : DSX X i a d ns xs (.Assign [.Name x pos'] e pos :: rest) (sSeq (sSet j f) g) := by
  refine ⟨fun Z0 H0 => PSs.weak (pss_cons (ps_set (i := j) hN hj hx he.run hs hf) (hr.run Z0 H0)) fun E σ H hq => ?_⟩
  obtain ⟨h0, Z, ρ, s, ex, q⟩ := hq
  refine ⟨h0, Z, ρ, s.rel, ex, ?_⟩
  unfold sSeq sSet at q
  cases ec : f ρ with
  | ex c ns xs => rw [ec] at q; exact fun dc Z' H' g1 x => q dc σ Z' H' (s.gr g1) x
  | bad => rw [ec] at q; exact q
  | ok y =>
    rw [ec] at q
    intro v Z' H' fp g1 dn nd fr
    have q : PostS X.K (He.ga X.K) W0 Z0 H0 E (andThen (if j < ρ.length then .nx (ρ.set j (some y)) else .bad) g) := q
    by_cases c : j < ρ.length
    · rw [if_pos c] at q
      refine ⟨?_, Z', _, s.set g1 dn nd fr c, ex.gr g1, q⟩
      rw [List.getElem?_set_ne hne]
      exact h0
    · rw [if_neg c] at q; exact q.elim
theorem DSX.nil : DSX X i a d ns xs [] sNil := DSX.of DSs.nil
end
def HitOk (K : PySem.W.Frag) (cls : Value) (hit : Str → Option Bool) : Prop := ∀ c b, hit c = some b → PySem.W.exmOne K (.ref (He.ga K c)) cls = some b
def undo (i : Nat) : Os → Os
  | .nx ρ => .nx (ρ.set i none)
  | .rt d => .rt d
  | .bk ρ => .bk (ρ.set i none)
  | .ct ρ => .ct (ρ.set i none)
  | _ => .bad
def sTry (hit : Str → Option Bool) (body : Env → Os) (suite : Str → List Str → List D → Env → Os) : Env → Os := fun ρ => match body ρ with
  | .ex c ns xs ρ' => match hit c with
    | some true => suite c ns xs ρ'
    | some false => .ex c ns xs ρ'
    | none => .bad
  | r => r
def sAs (i : Nat) (suite : List Str → List D → Env → Os) : Str → List Str → List D → Env → Os := fun _ ns xs ρ => if i < ρ.length then undo i (suite ns xs (ρ.set i none)) else .bad
theorem Sta.drop {K : PySem.W.Frag} {cl : Str → Addr} {Z0 H0 Z H : Hp} {σ : L2.St} {ρ : Env} {i : Nat} {o : Option V} (s : Sta K cl Z0 H0 Z H σ ρ) : Sta K cl Z0 H0 Z H (σ.set i o) (ρ.set i none) := by
  obtain ⟨fp, sl, nd, fr⟩ := s.e
  obtain ⟨fp', a1, a2, a3⟩ := Slots.drop (i := i) (o := o) sl nd
  exact ⟨s.g, s.t, fp', a1, a2, fun a ha => fr a (a3 a ha)⟩
theorem Sta.len {K : PySem.W.Frag} {cl : Str → Addr} {Z0 H0 Z H : Hp} {σ : L2.St} {ρ : Env} (s : Sta K cl Z0 H0 Z H σ ρ) : σ.length = ρ.length := let ⟨_, sl, _⟩ := s.e; sl.length
section
variable {X : Cx} {W : WX} {k i : Nat} {x n : Str} {cls : Value} {hit : Str → Option Bool} {body suite : List Stmt} {b₀ : Stmt} {np pos pos' : Pos} {gb : Env → Os}
end
end DL
namespace DL
open PySem PySem.Spec PyProof.Rows L2 ClX
variable [Tb]
structure Mk0 (K : PySem.W.Frag) (C : Addr) : Prop where
  makes : PySem.W.makesIn K C = true
  init : PySem.W.findIn K (.ref C) "__init__" = some (some (.builtin "object.__init__"))
  kp : PySem.W.keepIn K (.ref C) = true
def mk0B (K : PySem.W.Frag) (C : Addr) : Bool := PySem.W.makesIn K C && (ooV (PySem.W.findIn K (.ref C) "__init__") (some (some (.builtin "object.__init__"))) && PySem.W.keepIn K (.ref C))
def dNew (c : Str) : Env → Ou D := fun _ => .ok (.ins c [] [])
def clsB (K : PySem.W.Frag) (C : Addr) : Bool := PySem.W.plainGet K C Str.empty && (PySem.W.hasDictIn K C && (PySem.W.plainOver K C && ooV (PySem.W.findIn K (.ref C) "__setattr__") (some (some (.builtin "object.__setattr__")))))
theorem clsB_ok {K : PySem.W.Frag} {C : Addr} (h : clsB K C = true) : Cls K C := by
  obtain ⟨h1, h⟩ := band h
  obtain ⟨h2, h⟩ := band h
  obtain ⟨h3, h4⟩ := band h
  exact ⟨h1, h2, h3, of_decide_eq_true h4⟩
inductive Kv where
  | str (x : Str) | bl (b : Bool) | int (i : Int) | tup (xs : List Str)
def Kv.d : Kv → D
  | .str x => .str x
  | .bl b => .bl b
  | .int i => .int i
  | .tup xs => .tup (xs.map D.str)
def isTupB (K : PySem.W.Frag) (a : Addr) (vs : List V) : Bool := match K.lookup a with
  | some ⟨.type c, _, .seq its _, _⟩ => decide (c = "tuple") && (decide (its.size ≤ sizeLine) && He.relAll vs its.toList)
  | _ => false
def conV (K : PySem.W.Frag) (u : Value) : Kv → Bool
  | .str x => He.relB (.str x) u
  | .bl b => He.relB (.bl b) u
  | .int i => He.relB (.int i) u
  | .tup xs => match u with
    | .ref a => isTupB K a (xs.map V.str)
    | _ => false
def conB (K : PySem.W.Frag) (C : Addr) (f : Str) (v : Kv) : Bool := match PySem.W.findIn K (.ref C) f with
  | some (some u) => conV K u v && (ooV (PySem.W.specialIn K u "__get__") (some none) && !PySem.W.copiedNames.contains f)
  | _ => false
abbrev KTab := List (Str × Kv)
def ktB (K : PySem.W.Frag) (f : Str) (t : KTab) : Bool := t.all fun p => clsB K (He.ga K p.1) && conB K (He.ga K p.1) f p.2
def ConOk (K : PySem.W.Frag) (f : Str) (t : KTab) : Prop := ktB K f t = true
def conD (f : Str) (t : KTab) : D → Option D
  | .ins c ns _ => if ns.contains f then none else (t.lookup c).map Kv.d
  | _ => none
def dCon (f : Str) (t : KTab) (e : Env → Ou D) : Env → Ou D := fun ρ => e ρ >>= fun d => ofO (conD f t d)
theorem zip_nolook {f : Str} : ∀ {ns : List Str} {vs : List V}, ns.contains f = false → (ns.zip vs).lookup f = none
  | [], vs, _ => rfl
  | n :: ns, [], _ => rfl
  | n :: ns, v :: vs, h => by
    rw [List.contains_cons, Bool.or_eq_false_iff] at h
    rw [List.zip_cons_cons, List.lookup_cons, h.1]
    exact zip_nolook h.2
section
variable {X : Cx} {W : WX} {k j n : Nat} {e o : Expr} {es : List Expr} {f : Env → Ou D} {t : Env → Ou (List D)} {pos apos p : Pos} {x m fl : Str}
structure Mt (P : Program) (w : World) (K : PySem.W.Frag) (mg : Str → Option Value) (base : Heap) (k : Nat) (m : Str) (n : Nat) (tb : Str → Option (List D → Ou D)) : Prop where
  ok : ∀ c F, tb c = some F → Cls K (He.ga K c) ∧ ∃ (g : Addr) (fd : FuncData) (ps : List Str), Meth K (He.ga K c) m g ∧ FnOk P w K mg base (L2.CX P w) k g fd ps (spF K n F) ∧ Binds K fd ps []
def methF (m : Str) (tb : Str → Option (List D → Ou D)) (d : D) : Ou (List D → Ou D) := match d with
  | .ins c ns _ => if ns.contains m then .bad else match tb c with
    | some F => .ok fun ds => callR F (d :: ds)
    | none => .bad
  | _ => .bad
def dMeth (m : Str) (tb : Str → Option (List D → Ou D)) (f : Env → Ou D) (t : Env → Ou (List D)) : Env → Ou D := fun ρ => f ρ >>= fun d => methF m tb d >>= fun F => t ρ >>= F
theorem methF_inv {m : Str} {tb : Str → Option (List D → Ou D)} {d : D} {F : List D → Ou D} (h : methF m tb d = .ok F) : ∃ c ns xs G, d = .ins c ns xs ∧ ns.contains m = false ∧ tb c = some G ∧ F = fun ds => callR G (d :: ds) := by
  unfold methF at h
  split at h
  · rename_i c ns xs
    split at h
    · cases h
    · rename_i hn
      split at h
      · rename_i G eG
        cases h
        exact ⟨c, ns, xs, G, rfl, by simpa using hn, eG, rfl⟩
      · cases h
  · cases h
theorem methF_nex {m : Str} {tb : Str → Option (List D → Ou D)} {d : D} : ∀ {c : Str} {ns : List Str} {xs : List D}, methF m tb d ≠ .ex c ns xs := by
  intro c ns xs h
  unfold methF at h
  split at h
  · split at h
    · cases h
    · split at h <;> cases h
  · cases h
theorem DE.meth {tb : Str → Option (List D → Ou D)} {pl : Sem Bool} (C : Ctx X W k) (G : Mt X.prog X.w X.K X.mg X.base j m n tb) (ho : DB X W o f) (ha : DAB X W (e :: es) t) (hk : j ≤ k := by decide) (hn : ((e :: es).length + 1 == n) = true := by rfl)
    (hst : starEach (e :: es) X.env = (false, eval e X.env) :: starEach es X.env := by rfl) (hpl : (backTo pos (starEach es X.env)).any (·.1) = false := by rfl)
    (ht : eval (.Call (.Attribute o m apos) (e :: es) [] pos) X.env = (do
      let ov ← eval o X.env
      standAt apos.atName
      let (f, first) ← holding [ov] (getMethod ov m pl)
      callWith pos f first (backTo pos (starEach (e :: es) X.env)) (backToKw pos (keywordEach [] X.env))) := by rfl) :
    DE X W (.Call (.Attribute o m apos) (e :: es) [] pos) (dMeth m tb f t) := by
  refine ⟨⟨fun pins s σ H Q I hq => ?_⟩⟩
  refine methcall_of (pl := pl) ho.run I ?_ ht
  obtain ⟨Z, ρ, r, q⟩ := hq
  refine tV_bind (P := fun Z H o => PostO X.K (He.ga X.K) W Z H σ o Q) r (fun _ _ _ z => z) (fun z => z) q fun d v Z1 H1 fx ex g1 dx q => ?_
  have q := PostO.gr q g1
  cases em : methF m tb d with
  | bad => rw [em] at q; exact q.elim
  | ex c ns xs => exact absurd em methF_nex
  | ok F =>
    rw [em] at q
    have q3 : PostO X.K (He.ga X.K) W Z1 H1 σ (t ρ >>= F) Q := q
    obtain ⟨c, ns, xs, G1, ed, hnc, etb, eF⟩ := methF_inv em
    subst ed
    obtain ⟨hc, g, fd, ps, hm, ok, hb⟩ := G.ok c G1 etb
    have dx0 := dx
    simp only [Den] at dx
    obtain ⟨a, dxa, vs, e1, e2, z, l, ds⟩ := dx
    subst e1 e2
    refine ⟨a, He.ga X.K c, dxa, _, g, rfl, g1.s.l z, hc, hm, zip_nolook hnc, fun s1 I1 => ?_⟩
    refine PySem.W.callWith_K (first := [.ref a]) (h₀ := X.base) I1.ok.mod.kin hm.kp ?_ hst hpl
    have r1 : RelS X.K (He.ga X.K) Z1 H1 σ ρ := r.gr g1
    refine thn (ha.run.run pos pins s1 σ H1 (fun vs2 H2 => spF X.K n G1 (.ref a :: vs2) H2 Q (WE W σ)) I1 ?_) fun us s2 ⟨vs2, H2, I2, rv, q2⟩ => ⟨I2.kIn, ?_⟩
    · refine tVs_bind (P := fun Z H o => PostO X.K (He.ga X.K) W Z H σ o Q) r1 (fun _ _ _ z => z) (fun z => z) q3 fun ds2 vs2 Z2 H2 fp2 ex2 g2 dn q => ?_
      have q := PostO.gr q g2
      subst eF
      have dn2 : Dens X.K (He.ga X.K) Z2 H2 (.ins c ns xs :: ds2) (.ref a :: vs2) fp2 := by
        have := Dens.cons (g2.den dx0) dn
        simpa using this
      refine spF_of g2.s (r1.t.ex g2.z) dn2 ?_ q
      rw [dn2.length]
      show ds2.length + 1 = n
      rw [ha.len ρ ds2 ex2]
      exact beq_iff_eq.mp hn
    · show wpAny _ _ (PySem.call (.ref g) (.ref a :: us)) _ _ _
      exact run_fnS (E := fun σ => WE W σ) (us := .ref a :: us) (vs := .ref a :: vs2) ok (C.hr.mono hk) hb (passAt C.tk σ) I2 (.cons rfl rv) q2
end
end DL
namespace DL
open PySem PySem.Spec PyProof.Rows L2 ClX
variable [Tb]
abbrev FnY : Type := Option (Str × Str × Arguments × FuncBody × Scope × Addr × List Str × Addr)
def fnY (K : PySem.W.Frag) (a : Addr) : FnY := match K.lookup a with
  | some ⟨_, _, .func fd, _⟩ => some (fd.name, fd.qualname, fd.params, fd.body, fd.scope, fd.globals, fd.closure.map (·.1), fd.builtins)
  | _ => none
structure DefY where
  at_ : Str × Option Str
  name : Str
  qual : Str
  params : Arguments
  body : List Stmt
  scope : Scope
  dfl : List He.Dv := []
  kwd : List (Str × He.Dv) := []
  cell : Option (Str × Str) := none
  wrap : Option String := none
def cellNs : Option (Str × Str) → List Str
  | none => []
  | some _ => ["__class__"]
def DefY.val (d : DefY) : FnY := some (d.name, d.qual, d.params, .stmts d.body, d.scope, mainGlobals, cellNs d.cell, builtinsNs)
def DefY.dvs (K : PySem.W.Frag) (d : DefY) : List V := d.dfl.map (He.Dv.v K)
def DefY.kws (K : PySem.W.Frag) (d : DefY) : List (Str × V) := d.kwd.map fun q => (q.1, q.2.v K)
def cellHas (K : PySem.W.Frag) (cc D : Addr) : Bool := match K.lookup cc with
  | some ⟨_, _, .cell (some (.ref a)), _⟩ => a == D
  | _ => false
def codeFile (K : PySem.W.Frag) (v : Value) (file : Str) : Bool := match v with
  | .ref c => (match K.lookup c with
    | some ⟨_, _, .fields vs, _⟩ => (match vs[2]? with
      | some (Value.str f _) => decide (f = file)
      | _ => false)
    | _ => false)
  | _ => false
def isNoneV : Value → Bool
  | .none => true
  | _ => false
def cellOk (K : PySem.W.Frag) (fd : FuncData) : Option (Str × Str) → Bool
  | none => true
  | some (D, file) => (match fd.closure with
    | [(_, cc)] => cellHas K cc (He.ga K D)
    | _ => false) && (codeFile K fd.code file && isNoneV fd.defaults)
def DefY.addr (K : PySem.W.Frag) (d : DefY) : Addr := match d.wrap with
  | none => He.fAd K d.at_
  | some T => He5.wf K (He.ga K d.at_.1) T (d.at_.2.getD Str.empty)
def DefY.ok (K : PySem.W.Frag) (d : DefY) : Bool := PySem.W.keepIn K (.ref (d.addr K)) && (match K.lookup (d.addr K) with
  | some ⟨_, _, .func fd, _⟩ => PySem.W.codeIn K fd.code d.qual && (He.dflB K fd.defaults (d.dvs K) && (He.kwdB K fd.kwdefaults (d.kws K) && cellOk K fd d.cell))
  | _ => false)
theorem DefY.funD {K : PySem.W.Frag} {d : DefY} (hc : d.cell = none) (e : fnY K (d.addr K) = d.val) (c : d.ok K = true) : ∃ fd, FunD K d.name d.qual d.params d.body d.scope (d.dvs K) (d.kws K) (d.addr K) fd := by
  obtain ⟨kp, c2⟩ := band c
  unfold fnY at e
  cases q : K.lookup (d.addr K) with
  | none => rw [q] at c2; cases c2
  | some o =>
    obtain ⟨oc, od, dt, osl⟩ := o
    rw [q] at c2 e
    cases dt with
    | func fd =>
      obtain ⟨n1, n2, n3, n4, n5, n6, n7, n8, n9, n10, n11, n12, n13, n14, n15⟩ := fd
      have e2 : (some (n1, n2, n3, n4, n5, n6, n7.map (·.1), n15) : FnY) = some (d.name, d.qual, d.params, .stmts d.body, d.scope, mainGlobals, cellNs d.cell, builtinsNs) := e
      simp only [Option.some.injEq, Prod.mk.injEq] at e2
      obtain ⟨h1, h2, h3, h4, h5, h6, h7, h8⟩ := e2
      rw [hc] at h7
      have h7 : n7 = [] := List.map_eq_nil_iff.mp h7
      subst h1 h2 h3 h4 h5 h6 h7 h8
      obtain ⟨k1, k2⟩ := band (show (PySem.W.codeIn K n13 d.qual && (He.dflB K n8 (d.dvs K) && (He.kwdB K n9 (d.kws K) && _))) = true from c2)
      obtain ⟨k3, k4⟩ := band k2
      obtain ⟨k4, _⟩ := band k4
      exact ⟨_, ⟨oc, od, n8, n9, n10, n11, n12, n13, n14, osl, rfl, q, k1, He.dflB_ok k3, He.kwdB_ok k4⟩, kp⟩
    | _ => cases c2
abbrev AlY : Type := Bool × List FnY
abbrev Chk : Type := PySem.W.Frag → Bool
def obsY (fa : List Chk) (fn : List DefY) (K : PySem.W.Frag) : AlY := ((fa.all fun f => f K) && fn.all fun d => d.ok K, fn.map fun d => fnY K (d.addr K))
def valY (fn : List DefY) : AlY := (true, fn.map DefY.val)
def SaysY (fa : List Chk) (fn : List DefY) (K : PySem.W.Frag) : Prop := obsY fa fn K = valY fn
def putA {β : Type} (k : Nat → List Addr → β) : List Addr → Nat → List Addr → β
  | [], seen, out => k seen out
  | a :: r, seen, out => HandSHeadRun.frNat a fun a => match Nat.beq (Nat.land (Nat.shiftRight seen a) 1) 1 with
    | true => putA k r seen out
    | false => HandSHeadRun.frNat (Nat.lor seen (Nat.shiftLeft 1 a)) fun seen => putA k r seen (a :: out)
def refsF {β : Type} (g : Addr → Option Obj) (k : Nat → List Addr → β) : List Addr → Nat → List Addr → β
  | [], seen, out => k seen out
  | a :: fr, seen, out => match g a with
    | some o => putA (fun seen out => refsF g k fr seen out) (He.refsD o) seen out
    | none => refsF g k fr seen out
def asF (g : Addr → Option Obj) : Nat → Nat → List Addr → List Addr
  | 0, _, fr => fr
  | n + 1, seen, fr => fr ++ refsF g (fun seen nx => asF g n seen nx) fr seen []
def frY (n : Nat) (g : Addr → Option Obj) : PySem.W.Frag := He.frT g (cStatics :: asF g n (Nat.shiftLeft 1 mainGlobals) [mainGlobals])
def obsYG (n : Nat) (fa : List Chk) (fn : List DefY) (g : Addr → Option Obj) : AlY := ((obsY fa fn (frY n g)).1 && He.tabsB g ((lamP (frY n g)).map (·.1)) (frY n g), (obsY fa fn (frY n g)).2)
theorem saysY_of {n : Nat} {fa : List Chk} {fn : List DefY} {h : Heap} (e : obsYG n fa fn h.get? = valY fn) : SaysY fa fn (frY n h.get?) ∧ TabsH (frY n h.get?) h := by
  obtain ⟨h1, h2⟩ := band (show ((obsY fa fn (frY n h.get?)).1 && He.tabsB h.get? ((lamP (frY n h.get?)).map (·.1)) (frY n h.get?)) = true from congrArg (fun z : AlY => z.1) e)
  have e2 : (obsY fa fn (frY n h.get?)).2 = (valY fn).2 := by
    have q := congrArg (fun z : AlY => z.2) e
    exact q
  refine ⟨Prod.ext h1 e2, fun p hp => ?_⟩
  obtain ⟨h3, h4⟩ := band (List.all_eq_true.mp h2 p.1 (List.mem_map.mpr ⟨p, hp, rfl⟩))
  cases q : h.get? (He.cT (frY n h.get?) p.1).2 with
  | none =>
    rw [q] at h4
    cases h4
  | some o =>
    rw [q] at h4
    exact ⟨PySem.W.codeHd_of_K He.frT_in h3, He.frT_none q h4, by rw [He.emptyTab_eq h4]⟩
def hookY (n : Nat) (fa : List Chk) (fn : List DefY) : PySem.W.Hook where
  α := AlY
  obs := fun s => obsYG n fa fn s.heap.get?
  val := fun _ => valY fn
  says := fun _ h => ∃ K : PySem.W.Frag, K.In h ∧ SaysY fa fn K ∧ TabsH K h
  of := fun _ _ e => ⟨_, He.frT_in, (saysY_of e).1, (saysY_of e).2⟩
  keeps := fun _ _ _ ⟨K, hK, c, t⟩ k => ⟨K, PySem.W.Frag.In.keeps hK k, c, fun p hp => ⟨(t p hp).1.keeps k, (t p hp).2.1, k _ _ (t p hp).2.2⟩⟩
theorem obsYG_eq {n : Nat} {fa : List Chk} {fn : List DefY} {g : Addr → Option Obj} {s : Shared} (h : ∀ a, g a = s.heap.get? a) : obsYG n fa fn g = (hookY n fa fn).obs s := by
  have e : g = s.heap.get? := funext h
  rw [e] <;> rfl
section
variable {fa : List Chk} {fn : List DefY} {K : PySem.W.Frag}
theorem SaysY.fact (c : SaysY fa fn K) (i : Nat) {f : Chk} (h : fa[i]? = some f := by rfl) : f K = true := by
  have c1 := (band (show ((fa.all fun f => f K) && fn.all fun d => d.ok K) = true from congrArg (fun z : AlY => z.1) c)).1
  exact List.all_eq_true.mp c1 f (List.mem_of_getElem? h)
theorem SaysY.defE (c : SaysY fa fn K) (i : Nat) {d : DefY} (h : fn[i]? = some d) : fnY K (d.addr K) = d.val ∧ d.ok K = true := by
  have c2 := (band (show ((fa.all fun f => f K) && fn.all fun d => d.ok K) = true from congrArg (fun z : AlY => z.1) c)).2
  have e : fn.map (fun d => fnY K (d.addr K)) = fn.map DefY.val := congrArg (fun z : AlY => z.2) c
  have e2 : (fn.map fun d => fnY K (d.addr K))[i]? = (fn.map DefY.val)[i]? := by rw [e]
  rw [List.getElem?_map, List.getElem?_map, h] at e2
  exact ⟨Option.some.inj e2, List.all_eq_true.mp c2 d (List.mem_of_getElem? h)⟩
theorem SaysY.def_ (c : SaysY fa fn K) (i : Nat) {d : DefY} (h : fn[i]? = some d := by rfl) (hc : d.cell = none := by rfl) : ∃ fd, FunD K d.name d.qual d.params d.body d.scope (d.dvs K) (d.kws K) (d.addr K) fd :=
  DefY.funD hc (c.defE i h).1 (c.defE i h).2
end
def chkF (f : He.Fa) : Chk := fun K => f.ok K
def chkExc (x : Str) : Chk := fun K => excKB K (He.ga K x)
def chkExcR (x : Str) : Chk := fun K => excRB K (He.ga K x)
def chkNo (x f : Str) : Chk := fun K => ooV (PySem.W.findIn K (.ref (He.ga K x)) f) (some none)
def chkMk0 (x : Str) : Chk := fun K => mk0B K (He.ga K x)
def chkCon (f : Str) (t : KTab) : Chk := fun K => ktB K f t
def chkCls (x : Str) : Chk := fun K => clsB K (He.ga K x)
def chkKit (c x : Str) (r : Bool) : Chk := fun K => obB (PySem.W.kitOne K (.ref (He.ga K c)) (.ref (He.ga K x))) (some r)
def chkKitB (c : Str) (T : String) (r : Bool) : Chk := fun K => obB (PySem.W.kitOne K (.ref (He.ga K c)) (.type T)) (some r)
abbrev HTab := List (Str × Bool)
def chkHit (h : Str) (t : HTab) : Chk := fun K => t.all fun p => obB (PySem.W.exmOne K (.ref (He.ga K p.1)) (.ref (He.ga K h))) (some p.2)
def hitF (t : HTab) : Str → Option Bool := fun c => t.lookup c
section
variable {X : Cx} {x : Str} {C : Addr} {r : Bool}
end
def clsBody (s : Stmt) : List Stmt := match s with
  | .ClassDef _ _ _ b _ _ _ _ _ _ _ => b
  | _ => []
def rIadd : R2 := fun x y H Q => (rI0 fun i j => .int (i + j)) x y H Q ∨ (fun x y H Q => ∃ i j, x = .str i ∧ y = .str j ∧ i.length + j.length ≤ sizeLine ∧ Q (.str (i ++ j)) H) x y H Q
def iaddD : D → D → Option D
  | .int i, .int j => some (.int (i + j))
  | .str x, .str y => if x.length + y.length ≤ LIM then some (.str (x ++ y)) else none
  | _, _ => none
def imulD : D → D → Option D
  | .int i, .int j => if mulOk i j then some (.int (i * j)) else none
  | _, _ => none
section
variable {K : PySem.W.Frag} {cl : Str → Addr}
end
end DL
namespace DL
open PySem PySem.Spec PyProof.Rows L2 ClX
variable [Tb]
structure DEA (X : Cx) (W : WX) (b : List Stmt) (e : Expr) (f : Env → Ou D) : Prop where
  run : PEA X b e (tD X.K (He.ga X.K) W f)
structure DSA (X : Cx) (W : WX) (b : List Stmt) (st : Stmt) (g : Env → Os) : Prop where
  run : ∀ Z0 H0, PSA X b st (tS X.K (He.ga X.K) W Z0 H0 g)
structure DSsA (X : Cx) (W : WX) (b st : List Stmt) (g : Env → Os) : Prop where
  run : ∀ Z0 H0, PSsA X b st (tS X.K (He.ga X.K) W Z0 H0 g)
section
variable {X : Cx} {W : WX} {b rest : List Stmt} {st : Stmt} {e : Expr} {f : Env → Ou D} {g h : Env → Os} {pos : Pos}
theorem DSsA.of (h : DSs X W rest g) : DSsA X W b rest g := ⟨fun Z0 H0 => .of (h.run Z0 H0)⟩
theorem DSA.of (h : DS X W st g) : DSA X W b st g := ⟨fun Z0 H0 => .of (h.run Z0 H0)⟩
theorem DSsA.cons (h1 : DSA X W b st g) (h2 : DSsA X W b rest h) : DSsA X W b (st :: rest) (sSeq g h) := by
  refine ⟨fun Z0 H0 => PSsA.weak (psa_cons (h1.run Z0 H0) (h2.run Z0 H0)) fun E σ H hq => ?_⟩
  obtain ⟨Z, ρ, s, q⟩ := hq
  refine ⟨Z, ρ, s, ?_⟩
  unfold sSeq at q
  cases e : g ρ with
  | nx ρ' => rw [e] at q; exact fun σ' Z' H' s' => ⟨Z', ρ', s', q⟩
  | rt d => rw [e] at q; exact q
  | bk ρ' => rw [e] at q; exact q
  | ct ρ' => rw [e] at q; exact q
  | ex c ns xs ρ' => rw [e] at q; exact q
  | bad => rw [e] at q; exact q
theorem DSsA.one (h1 : DSA X W b st g) : DSsA X W b [st] g := by
  refine ⟨fun Z0 H0 => PSsA.weak (psa_cons (h1.run Z0 H0) (.of pss_nil)) fun E σ H hq => ?_⟩
  obtain ⟨Z, ρ, s, q⟩ := hq
  refine ⟨Z, ρ, s, ?_⟩
  cases e : g ρ <;> (rw [e] at q; exact q)
theorem DSsA.frz (i : Nat) (h : DSsA X W b rest g) : DSsA X W b rest (sFrz i g) := by
  refine ⟨fun Z0 H0 => PSsA.weak (h.run Z0 H0) fun E σ H hq => ?_⟩
  obtain ⟨Z, ρ, s, q⟩ := hq
  unfold sFrz at q
  split at q
  · rename_i d ec
    obtain ⟨Z', s'⟩ := s.frz ec
    exact ⟨Z', _, s', q⟩
  · exact ⟨Z, ρ, s, q⟩
theorem DSA.ret (he : DEA X W b e f) : DSA X W b (.Return (some e) pos) (sRet f) := by
  refine ⟨fun Z0 H0 => PSA.weak (psa_ret he.run) fun E σ H hq => ?_⟩
  obtain ⟨Z, ρ, s, q⟩ := hq
  refine ⟨Z, ρ, s.rel, ?_⟩
  unfold sRet at q
  cases ec : f ρ with
  | ok d => rw [ec] at q; exact fun v Z' H' fp g1 dn nd fr => q v Z' H' fp (s.g.trans g1) dn nd fun a ha => s.g.h.back (fr a ha)
  | ex c ns xs => rw [ec] at q; exact fun dc Z' H' g1 x => q dc σ Z' H' (s.gr g1) x
  | bad => rw [ec] at q; exact q
theorem DSA.set (i : Nat) {x : Str} {pos' : Pos} (he : DEA X W b e f) (hN : X.N.Nodup) (hi : X.N[i]? = some x := by rfl) (hx : Loc X.env.scope x := by first | exact Or.inl rfl | exact Or.inr rfl) (hs : swapsWith e (some (.Name x pos')) pos.line X.env = pure false := by rfl)
    (hf : X.fn x = true ∨ X.env.scope.names.lookup x = some .local := by first | exact .inl rfl | exact .inr rfl | assumption) : DSA X W b (.Assign [.Name x pos'] e pos) (sSet i f) := by
  refine ⟨fun Z0 H0 => PSA.weak (psa_set (i := i) hN hi hx he.run hs hf) fun E σ H hq => ?_⟩
  obtain ⟨Z, ρ, s, q⟩ := hq
  refine ⟨Z, ρ, s.rel, ?_⟩
  unfold sSet at q
  cases ec : f ρ with
  | ok d =>
    rw [ec] at q
    intro v Z' H' fp g1 dn nd fr
    have q : PostS X.K (He.ga X.K) W Z0 H0 E (if i < ρ.length then .nx (ρ.set i (some d)) else .bad) := q
    by_cases c : i < ρ.length
    · rw [if_pos c] at q
      exact q _ Z' H' (s.set g1 dn nd fr c)
    · rw [if_neg c] at q; exact q.elim
  | ex c ns xs => rw [ec] at q; exact fun dc Z' H' g1 x => q dc σ Z' H' (s.gr g1) x
  | bad => rw [ec] at q; exact q
structure SupT (P : Program) (w : World) (K : PySem.W.Frag) (mg : Str → Option Value) (base : Heap) (k : Nat) (m : Str) (n : Nat) (D : Str) (al : List Str) (F : List DL.D → Ou DL.D) : Prop where
  any : PySem.W.nsIn K cStatics "thirdparty.any" = some none
  ok : ∀ c ∈ al, PySem.W.mroIn K (He.ga K c) (.ref (He.ga K D)) = some true ∧ ∃ (f2 : Addr) (fd : FuncData) (ps : List Str), PySem.W.ks_superIn K (He.ga K c) (He.ga K D) m = some (some (.ref f2)) ∧ PySem.W.typeIn K (.ref f2) = some (.type "function") ∧ PySem.W.fnIn K f2 = true ∧ FnOk P w K mg base (L2.CX P w) k f2 fd ps (spF K n F) ∧ Binds K fd ps []
def okOnly : Ou D → Ou D
  | .ok d => .ok d
  | _ => .bad
def supSelf (al : List Str) (ρ : Env) : Ou D := match (ρ[0]? : Option (Option D)) with
  | some (some (D.ins c ns xs)) => if al.contains c then .ok (.ins c ns xs) else .bad
  | _ => .bad
def dSup (al : List Str) (F : List D → Ou D) (t : Env → Ou (List D)) : Env → Ou D := fun ρ => supSelf al ρ >>= fun d => t ρ >>= fun ds => okOnly (callR F (d :: ds))
theorem supSelf_inv {al : List Str} {ρ : Env} {d : D} (h : supSelf al ρ = .ok d) : ∃ c ns xs, d = .ins c ns xs ∧ ρ[0]? = some (some d) ∧ c ∈ al := by
  unfold supSelf at h
  split at h
  · rename_i c ns xs e
    split at h
    · rename_i hc
      cases h
      exact ⟨c, ns, xs, rfl, e, by simpa using hc⟩
    · cases h
  · cases h
theorem supSelf_nex {al : List Str} {ρ : Env} : ∀ {c : Str} {ns : List Str} {xs : List D}, supSelf al ρ ≠ .ex c ns xs := by
  intro c ns xs h
  unfold supSelf at h
  split at h
  · split at h <;> cases h
  · cases h
theorem DEA.super {k j n : Nat} {es : List Expr} {t : Env → Ou (List D)} {m Dn : Str} {p0 p1 apos : Pos} {al : List Str} {F : List D → Ou D} {pl : Sem Bool} (C : Ctx X W k) (U : SupX X (He.ga X.K Dn)) (G : SupT X.prog X.w X.K X.mg X.base j m n Dn al F) (ha : DAB X W (e :: es) t)
    (hk : j ≤ k := by decide) (hn : ((e :: es).length + 1 == n) = true := by rfl) (hat : (m == ("__class__" : Str)) = false := by decide)
    (hst : starEach (e :: es) X.env = (false, eval e X.env) :: starEach es X.env := by rfl) (hpl : (backTo pos (starEach es X.env)).any (·.1) = false := by rfl)
    (ht : eval (.Call (.Attribute (.Call (.Name "super" p0) [] [] p1) m apos) (e :: es) [] pos) X.env = (do
      let ov ← attributeBase (.Call (.Name "super" p0) [] [] p1) m X.env (eval (.Call (.Name "super" p0) [] [] p1) X.env)
      standAt apos.atName
      let (f, first) ← holding [ov] (getMethod ov m pl)
      callWith pos f first (backTo pos (starEach (e :: es) X.env)) []) := by rfl) :
    DEA X W b (.Call (.Attribute (.Call (.Name "super" p0) [] [] p1) m apos) (e :: es) [] pos) (dSup al F t) := by
  refine ⟨PEA.weak (pea_super (k := j) (CX := L2.CX X.prog X.w) (E := fun _ _ _ => False) (pl := pl) (Fo := fun C f2 sp => sp = spF X.K n F ∧ ∃ fd ps, FnOk X.prog X.w X.K X.mg X.base (L2.CX X.prog X.w) j f2 fd ps (spF X.K n F) ∧ Binds X.K fd ps []) U G.any hat
    (fun C f2 sp h => by obtain ⟨e, fd, ps, h1, h2⟩ := h; subst e; exact ⟨fd, ps, h1, h2⟩) (C.hr.mono hk) (passes_call C.tk fun _ _ _ _ z => z.elim) ha.run hst hpl ht) fun σ H Q hq => ?_⟩
  obtain ⟨Z, ρ, r, q⟩ := hq
  unfold dSup at q
  cases es0 : supSelf al ρ with
  | bad => rw [es0] at q; exact q.elim
  | ex c ns xs => exact absurd es0 supSelf_nex
  | ok d =>
    rw [es0] at q
    obtain ⟨c, ns, xs, ed, e0, hc⟩ := supSelf_inv es0
    subst ed
    obtain ⟨h1, f2, fd, ps, h2, h3, h4, h5, h6⟩ := G.ok c hc
    obtain ⟨s, tk, fp, sl, nd⟩ := id r
    obtain ⟨v, fd0, g1, g2, g3⟩ := Slots.get sl e0
    have dx0 := g2
    simp only [Den] at g2
    obtain ⟨a, dxa, vs, e1, e2, z, l, ds⟩ := g2
    subst e1 e2
    refine ⟨a, He.ga X.K c, dxa, _, f2, _, g1, s.l z, h1, h2, h3, h4, ⟨rfl, fd, ps, h5, h6⟩, ?_⟩
    have q3 : PostO X.K (He.ga X.K) W Z H σ (t ρ >>= fun ds => okOnly (callR F (.ins c ns xs :: ds))) Q := q
    refine tVs_bind (P := fun Z H o => PostO X.K (He.ga X.K) W Z H σ o Q) r (fun _ _ _ z => z) (fun z => z) q3 fun ds2 vs2 Z2 H2 fp2 ex2 gg dn q => ?_
    have q := PostO.gr q gg
    have dn2 : Dens X.K (He.ga X.K) Z2 H2 (.ins c ns xs :: ds2) (.ref a :: vs2) fp2 := by
      have := Dens.cons (gg.den dx0) dn
      simpa using this
    have hlen : (V.ref a :: vs2).length = n := by
      rw [dn2.length]
      show ds2.length + 1 = n
      rw [ha.len ρ ds2 ex2]
      exact beq_iff_eq.mp hn
    refine spF_of (W := W0) (σ := σ) gg.s (r.t.ex gg.z) dn2 hlen ?_
    cases er : callR F (.ins c ns xs :: ds2) with
    | ok d => rw [er] at q; exact q
    | ex c ns xs => rw [er] at q; exact q.elim
    | bad => rw [er] at q; exact q.elim
end
end DL
namespace DL
open PySem PySem.Spec PyProof.Rows L2 ClX
variable [Tb]
section
variable {M : Model} {A : Around} {c : Code} {E : Value → Shared → Prop} {s : Shared} {env : PySem.Env}
theorem at_For {target iter body orelse pos} {Q : Flow → Shared → Prop}
    (h : _root_.PySem.wpAt M A c (eval iter env) (fun x s₁ => wpAny M A (pyIter x) (fun it s₂ =>
      codeAny M A (.forLoop target it body orelse env) (fun r s' => match r with | .ok f => Q f s' | .error e => cameBackBy M A env E e s') s₂) E s₁) E s)
    (hs : ∀ x, foldedSetIterable iter env x = pure x) : _root_.PySem.wpAt M A c (exec (.For target iter body orelse pos) env) Q E s := by
  rw [exec_For]
  exact _root_.PySem.wpAt_bind (_root_.PySem.wpAt_of_wpAny (wpAny_standAt (_root_.PySem.wpAt_bind (_root_.PySem.wpAt_mono h (fun x s₁ h₁ => _root_.PySem.wpAt_of_wpAny (wpAny_bind (wpAny_of_eq (hs x) (wpAny_bind (wpAny_standAt (wpAny_bind (wpAny_holding
    (wpAny_mono h₁ (fun it s₂ h₂ => wpAny_runOwn h₂) fun _ _ h' => h')))))))) fun _ _ h' => h'))))
theorem at_Subscript {value slice pos} {Q : Value → Shared → Prop}
    (h : _root_.PySem.wpAt M A c (eval value env) (fun o s₁ => wpAny M A (eval slice env) (fun i s₂ => wpAny M A (subscriptTail value slice o i) Q E s₂) E s₁) E s) :
    _root_.PySem.wpAt M A c (eval (.Subscript value slice pos) env) Q E s := by
  rw [eval_Subscript]
  exact _root_.PySem.wpAt_bind (_root_.PySem.wpAt_mono h (fun o s₁ h₁ => _root_.PySem.wpAt_of_wpAny (wpAny_bind (wpAny_holding (wpAny_mono h₁ (fun i s₂ h₂ => wpAny_bind (wpAny_standAt h₂)) fun _ _ x => x)))) fun _ _ x => x)
end
section
variable {X : Cx} {b : List Stmt} {tg e l iter : Expr} {te tl : TE} {pos p2 : Pos}
structure PIA (X : Cx) (b : List Stmt) (tg iter : Expr) (wi : TI) : Prop where
  run : ∀ (pins : List (Addr × Obj)) (s : Shared) (σ : L2.St) (H : Hp) (R : It → Hp → Prop), Inv X pins σ H s → wi σ H R →
    _root_.PySem.wpAt (model X.prog X.w) X.A (.func b X.env) (eval iter X.env) (fun v s1 => wpAny (model X.prog X.w) X.A (pyIter v) (PIE X pins σ tg R) X.xe s1) X.xe s
theorem PIA.weak {t t' : TI} (h : PIA X b tg e t) (k : ∀ σ H R, t' σ H R → t σ H R) : PIA X b tg e t' := ⟨fun pins s σ H R I q => h.run pins s σ H R I (k σ H R q)⟩
theorem PIA.or {t t' : TI} (h : PIA X b tg e t) (h' : PIA X b tg e t') : PIA X b tg e (fun σ H R => t σ H R ∨ t' σ H R) :=
  ⟨fun pins s σ H R I q => q.elim (h.run pins s σ H R I) (h'.run pins s σ H R I)⟩
theorem pia_list (hl : PEA X b l tl) : PIA X b tg l (iList X.K tl) := by
  refine ⟨fun pins s σ H R I h => ?_⟩
  refine _root_.PySem.wpAt_mono (hl.run pins s σ H _ I h) (fun v s1 ⟨x, H1, I1, r1, q1⟩ => ?_) fun _ _ x => x
  obtain ⟨a, e, ⟨xs, hq⟩, q⟩ := q1
  subst e
  cases r1
  obtain ⟨its, rv, p, hz⟩ := I1.list hq
  refine wpAny_pyIter_list p.isList ?_
  refine ⟨s1.heap.objs.size, [s1.heap.objs.size], _, _, H1, rfl, I1.kept (t' := s1.toks) fun b o e => Heap.get?_push_of_some _ e, turn_list a _, ⟨_, Heap.get?_push_size _ rfl, rfl, rfl⟩, fun b hb => ?_, q⟩
  have e : b = s1.heap.objs.size := by simpa using hb
  subst e
  exact I1.fpOk (Nat.le_refl _) (I1.hok.fresh (Nat.le_refl _))
theorem pia_tup (hl : PEA X b l tl) : PIA X b tg l (iTup X.K tl) := by
  refine ⟨fun pins s σ H R I h => ?_⟩
  refine _root_.PySem.wpAt_mono (hl.run pins s σ H _ I h) (fun v s1 ⟨x, H1, I1, r1, q1⟩ => ?_) fun _ _ x => x
  obtain ⟨a, e, ⟨xs, hq⟩, q⟩ := q1
  subst e
  cases r1
  obtain ⟨its, rv, p, hz⟩ := I1.tuple hq
  refine wpAny_pyIter_tuple (show s1.heap.IsTuple a its.toArray from p) ?_
  refine ⟨s1.heap.objs.size, [s1.heap.objs.size], _, _, H1, rfl, I1.kept (t' := s1.toks) fun b o e => Heap.get?_push_of_some _ e, turn_tuple a _, ⟨_, Heap.get?_push_size _ rfl, rfl, rfl⟩, fun b hb => ?_, q⟩
  have e : b = s1.heap.objs.size := by simpa using hb
  subst e
  exact I1.fpOk (Nat.le_refl _) (I1.hok.fresh (Nat.le_refl _))
theorem psa_for {body : List Stmt} {wi : TI} {g : TG} {tb : TS} (hp : PassesOwn (model X.prog X.w) X.A X.env X.xe) (hc : X.calm = true) (hi : PIA X b tg iter wi) (hg : PG X tg g) (hb : PSs X body tb)
    (hs : ∀ x, foldedSetIterable iter X.env x = pure x) : PSA X b (.For tg iter body [] pos) (tFor wi g tb) := by
  refine ⟨fun pins s σ H D I h => ?_⟩
  refine at_For (_root_.PySem.wpAt_mono (hi.run pins s σ H _ I h) (fun v s1 h1 => thn h1 fun itv s2 h2 => ?_) fun _ _ x => x) hs
  obtain ⟨it, fp, tn, J, H2, e, I2, T, st2, f2, W, ⟨m0, w0⟩, turn⟩ := h2
  subst e
  have stat : ∀ {H' : Hp}, (∀ b ∈ fp, H' b = none) → ∀ b ∈ fp, FpOk X pins H' b := fun hn b hb => ⟨hn b hb, (f2 b hb).2⟩
  refine codeAny_forLoop_any (fun n s' => ∃ i σ' H', Inv X pins σ' H' s' ∧ tn i s'.heap ∧ (∀ b ∈ fp, H' b = none) ∧ W i n σ' H') ?_ m0 ⟨0, σ, H2, I2, st2, fun b hb => (f2 b hb).1, w0⟩
  rintro n s3 ⟨i, σ3, H3, I3, st3, fr3, w3⟩
  rcases turn i n σ3 H3 w3 with ⟨stop, qn⟩ | ⟨go, N, hN, step⟩
  · refine wpAny_passesOwn hp (thn (T.done X rfl rfl rfl hc i pins s3 σ3 H3 X.xe I3 (stat fr3) st3 stop) fun r s4 ⟨hr, I4⟩ => ?_)
    subst hr
    exact wpAny_execs_nil ⟨σ3, H3, I4, qn⟩
  · refine wpAny_passesOwn hp (thn (T.item X rfl rfl rfl hc i pins s3 σ3 H3 X.xe I3 (stat fr3) st3 go) fun r s4 ⟨u, hr, h4⟩ => ?_)
    subst hr
    refine wpAny_passesOwn hp (thn h4 fun _ s5 ⟨x, H5, I5, r5, y5, st5, fr5⟩ => ?_)
    have I5' := I5.pinned (stat fr5) (T.obj _ _ st5)
    refine wpAny_passesOwn hp (thn (hg.run _ s5 σ3 H5 x u _ I5' r5 (step x H5 y5)) fun _ s6 ⟨σ6, H6, I6, q6⟩ => ?_)
    refine wpAny_passesOwn hp (thn (hb.run _ s6 σ6 H6 _ I6 q6) fun f s7 q7 => ?_)
    have again : ∀ {σ7 : L2.St} {H7 : Hp}, Inv X (pins ++ pinsAt fp s5.heap) σ7 H7 s7 → N σ7 H7 → ∃ m, m < n ∧ ∃ i σ' H', Inv X pins σ' H' s7 ∧ tn i s7.heap ∧ (∀ b ∈ fp, H' b = none) ∧ W i m σ' H' := fun {σ7 H7} I7 n7 => by
      obtain ⟨m', hm, w7⟩ := hN σ7 H7 n7
      refine ⟨m', hm, i + 1, σ7, H7, I7.unpinned, T.keep _ _ _ st5 fun b hb o e => (I7.pin (b, o) (List.mem_append_right _ (List.mem_append_right _ (mem_pinsAt hb e)))).1, fun b hb => ?_, w7⟩
      obtain ⟨o, e, d⟩ := T.obj _ _ st5 b hb
      exact (I7.pin (b, o) (List.mem_append_right _ (List.mem_append_right _ (mem_pinsAt hb e)))).2.1
    cases f with
    | next => obtain ⟨σ7, H7, I7, n7⟩ := q7; exact again I7 n7
    | cont => obtain ⟨σ7, H7, I7, n7⟩ := q7; exact again I7 n7
    | brk => obtain ⟨σ7, H7, I7, q7⟩ := q7; exact ⟨σ7, H7, I7.unpinned, q7⟩
    | ret v => obtain ⟨x7, σ7, H7, I7, r7, q7⟩ := q7; exact ⟨x7, σ7, H7, I7.unpinned, r7, q7⟩
theorem pea_slice {r : V → Option Int → Option Int → Hp → VK → Prop} {lo hi : Option Expr} {tl th : TO} (hr : SlR X r) (he : PEA X b e te) (hl : PO X lo tl) (hu : PO X hi th) : PEA X b (.Subscript e (.Slice lo hi none p2) pos) (tSl r te tl th) := by
  refine ⟨fun pins s σ H Q I h => ?_⟩
  refine at_Subscript (_root_.PySem.wpAt_mono (he.run pins s σ H _ I h) (fun v s1 ⟨x, H1, I1, r1, q1⟩ => ?_) fun _ _ x => x)
  refine wpAny_Slice (thn (hl.run pins s1 σ H1 _ I1 q1) fun vl s2 ⟨l, H2, I2, pl, q2⟩ => thn (hu.run pins s2 σ H2 _ I2 q2) fun vu s3 ⟨u, H3, I3, pu, q3⟩ => ?_)
  rw [evalPart_none]
  refine wpAny_pure ?_
  have I4 : Inv X pins σ H3 { s3 with heap := s3.heap.push { cls := .type "slice", data := .fields #[vl, vu, .none] } } := I3.kept (t' := s3.toks) fun b ob q => Heap.get?_push_of_some _ q
  obtain ⟨T, id, hT, ht, hg⟩ := hr pins { s3 with heap := s3.heap.push { cls := .type "slice", data := .fields #[vl, vu, .none] } } σ H3 x v vl vu l u s3.heap.objs.size Q I4 r1 (Heap.IsSliceOf.new ..) pl pu q3
  show wpAny (model X.prog X.w) X.A (subscriptTail e (.Slice lo hi none p2) v (.ref s3.heap.objs.size)) (EP X pins σ Q) X.xe { s3 with heap := s3.heap.push { cls := .type "slice", data := .fields #[vl, vu, .none] } }
  exact tail_any (ops := [.ref s3.heap.objs.size, v]) ht hT hg (by with_unfolding_all rfl)
end
section
variable {X : Cx} {W : WX} {k : Nat} {b : List Stmt} {tg a e iter : Expr} {f : Env → Ou D} {pos : Pos}
theorem DEA.runB (h : DEA X W b e f) : PEA X b e (tV X.K (He.ga X.K) W f) := PEA.weak h.run fun σ H Q ⟨Z, ρ, r, q⟩ => ⟨Z, ρ, r, q.toO⟩
structure DIA (X : Cx) (W : WX) (b : List Stmt) (tg iter : Expr) (fi : Env → Ou (List D)) : Prop where
  run : PIA X b tg iter (tI X.K (He.ga X.K) W fi)
theorem DIA.seq (h : DEA X W b e f) : DIA X W b tg e (iSeq f) := by
  refine ⟨PIA.weak (PIA.or (pia_list h.run) (pia_tup h.run)) fun σ H R hq => ?_⟩
  obtain ⟨Z, ρ, r, q⟩ := hq
  unfold iSeq at q
  cases ef : f ρ with
  | ok d =>
    rw [ef] at q
    cases d with
    | lst o xs =>
      refine .inl ⟨Z, ρ, r, ?_⟩
      rw [ef]
      intro v Z' H' fp g dn nd fr
      obtain ⟨a, vs, f1, rfl, qa, dd, hf, _⟩ := dn.lstH g.s
      have own : ∀ b ∈ fp, Z' b = none := fun b hb => (Den.own _ _ _ dn b hb).1
      refine ⟨a, rfl, ⟨vs, .inl (.inl qa)⟩, q _ (frzH Z' H' fp) H' (g.frz own fr fun b hb => (Den.own _ _ _ dn b hb).2) (wk_list (H := H') ?_ (Dens.freeze (frzH_ex own) xs vs f1 (fun b hb => if_pos (hf b hb)) dd))⟩
      cases o with
      | true =>
        simp only [Den] at dn
        obtain ⟨a', vs', fq, e1, e2, _⟩ := dn
        cases e1
        subst e2
        exact (if_pos List.mem_cons_self).trans qa
      | false =>
        simp only [Den] at dn
        obtain ⟨a', vs', e1, e2, e3, _⟩ := dn
        cases e1
        have na : a ∉ fp := fun hm => by rw [e2] at hm; cases hm
        refine (if_neg na).trans ?_
        rw [e3, ← g.s.l e3, qa]
    | tup xs =>
      refine .inr ⟨Z, ρ, r, ?_⟩
      rw [ef]
      intro v Z' H' fp g dn nd fr
      obtain ⟨a, vs, rfl, qa, za, dd⟩ := dn.tupH g.s
      have own : ∀ b ∈ fp, Z' b = none := fun b hb => (Den.own _ _ _ dn b hb).1
      exact ⟨a, rfl, ⟨vs, qa⟩, q _ (frzH Z' H' fp) H' (g.frz own fr fun b hb => (Den.own _ _ _ dn b hb).2) (wk_tup (H := H') ((frzH_ex own).sqT za) (Dens.freeze (frzH_ex own) xs vs fp (fun b hb => if_pos hb) dd))⟩
    | _ => exact q.elim
  | ex c ns xs =>
    rw [ef] at q
    refine .inl ⟨Z, ρ, r, ?_⟩
    rw [ef]
    exact q
  | bad => rw [ef] at q; exact q.elim
theorem DSA.for_ {iter : Expr} {body : List Stmt} {fi : Env → Ou (List D)} {tgt : D → Env → Option Env} {g : Env → Os} (C : Ctx X W k) (hi : DIA X W b tg iter fi) (ht : DG X tg tgt) (hb : DSs X W body g) (hs : ∀ x, foldedSetIterable iter X.env x = pure x := by intro _; rfl) :
    DSA X W b (.For tg iter body [] pos) (sFor fi tgt g) := by
  refine ⟨fun Z0 H0 => PSA.weak (psa_for C.po C.calm hi.run ht.run (tb := fun E σ H => ∃ Zl Hl, tS X.K (He.ga X.K) W Zl Hl g E σ H) ⟨fun pins s σ H E I ⟨Zl, Hl, q⟩ => (hb.run Zl Hl).run pins s σ H E I q⟩ hs) fun E σ H hq => ?_⟩
  obtain ⟨Z, ρ, st, q⟩ := hq
  refine ⟨Z, ρ, st.rel, ?_⟩
  unfold sFor at q
  cases ef : fi ρ with
  | ex c ns xs => rw [ef] at q; exact fun dc Z' H' g1 x => q dc σ Z' H' (st.gr g1) x
  | bad => rw [ef] at q; exact q
  | ok ds =>
    rw [ef] at q
    intro J Z1 H1 g1 wk
    obtain ⟨Hl, gl, stl, _, _⟩ := (st.gr g1).rebase
    refine ⟨fun i m σ' H' => m = ds.length - i ∧ i ≤ ds.length ∧ ∃ Z' ρ', Sta X.K (He.ga X.K) Z1 Hl Z' H' σ' ρ' ∧ PostS X.K (He.ga X.K) W Z0 H0 E (loopS tgt g (ds.drop i) ρ'), ⟨ds.length, by simp, Nat.zero_le _, Z1, ρ, stl, q⟩, ?_⟩
    rintro i m σ' H' ⟨rfl, hi', Z', ρ', st', q'⟩
    have ez : Ex Z1 H' := st'.g.z.trans st'.g.s
    by_cases hlt : i < ds.length
    · refine .inr ⟨wk.go i H' ez hlt, fun σ2 H2 => ∃ Z' ρ', Sta X.K (He.ga X.K) Z1 Hl Z' H2 σ2 ρ' ∧ PostS X.K (He.ga X.K) W Z0 H0 E (loopS tgt g (ds.drop (i + 1)) ρ'), fun σ2 H2 n2 => ⟨ds.length - (i + 1), by omega, rfl, hlt, n2⟩, fun x H2 y => ?_⟩
      obtain ⟨e1, d, ed, dn⟩ := wk.yld i H' x H2 ez hlt y
      subst e1
      have ed' : ds[i] = d := by rw [List.getElem?_eq_getElem hlt] at ed; exact Option.some.inj ed
      rw [List.drop_eq_getElem_cons hlt, ed'] at q'
      unfold loopS at q'
      cases et : tgt d ρ' with
      | none => rw [et] at q'; exact q'.elim
      | some ρ1 =>
        rw [et] at q'
        refine ⟨Z1, Hl, Z', ρ', d, ρ1, st', Den.mono st'.g.z d x [] (fun _ z => nomatch z) dn, et, fun σ2 st2 => ⟨Z1, Hl, Z', ρ1, st2, ?_⟩⟩
        have q' : PostS X.K (He.ga X.K) W Z0 H0 E (match g ρ1 with
          | .nx ρ2 => loopS tgt g (ds.drop (i + 1)) ρ2
          | .ct ρ2 => loopS tgt g (ds.drop (i + 1)) ρ2
          | .bk ρ2 => .nx ρ2
          | .rt d => .rt d
          | .ex c ns xs ρ2 => .ex c ns xs ρ2
          | .bad => .bad) := q'
        cases eg : g ρ1 with
        | nx ρ2 => rw [eg] at q'; exact fun σ3 Z3 H3 st3 => ⟨Z3, ρ2, st3, q'⟩
        | ct ρ2 => rw [eg] at q'; exact fun σ3 Z3 H3 st3 => ⟨Z3, ρ2, st3, q'⟩
        | bk ρ2 => rw [eg] at q'; exact fun σ3 Z3 H3 st3 => q' σ3 Z3 H3 (st3.unbase gl)
        | rt d => rw [eg] at q'; exact fun v Z3 H3 fp g3 h nd fr => q' v Z3 H3 fp (gl.trans g3) h nd fun a ha => gl.h.back (fr a ha)
        | ex c ns xs ρ2 => rw [eg] at q'; exact fun dc σ3 Z3 H3 st3 h => q' dc σ3 Z3 H3 (st3.unbase gl) h
        | bad => rw [eg] at q'; exact q'.elim
    · have e : i = ds.length := by omega
      subst e
      refine .inl ⟨wk.stop H' ez, ?_⟩
      rw [List.drop_length] at q'
      exact q' σ' Z' H' (st'.unbase gl)
theorem DEA.slice {lo hi : Option Expr} {l h : Env → Ou (Option Int)} {p2 : Pos} (ha : DEA X W b a f) (hl : DO X W lo l) (hh : DO X W hi h) : DEA X W b (.Subscript a (.Slice lo hi Option.none p2) pos) (dSl f l h) := by
  refine ⟨PEA.weak (pea_slice sl_any ha.runB hl.run hh.run) fun σ H Q hq => ?_⟩
  obtain ⟨Z, ρ, r, q⟩ := hq
  refine tV_bind (P := fun Z H o => PostO X.K (He.ga X.K) W Z H σ o Q) r (fun _ _ _ z => z) (fun z => z) q fun x v Z1 H1 fx ex g1 dx q => ?_
  have q := PostO.gr q g1
  refine ⟨Z1, ρ, r.gr g1, ?_⟩
  match e1 : l ρ with
  | .ok i =>
    rw [e1] at q
    intro Z2 H2 g2
    have q := PostO.gr q g2
    refine ⟨Z2, ρ, (r.gr g1).gr g2, ?_⟩
    match e2 : h ρ with
    | .ok j =>
      rw [e2] at q
      intro Z3 H3 g3
      have q := PostO.gr q g3
      match e3 : slD x i j with
      | .some d =>
        have q : PostO X.K (He.ga X.K) W Z3 H3 σ (ofO (slD x i j)) Q := q
        rw [e3] at q
        exact op_slD g3.s (g3.den (g2.den dx)) e3 q
      | .none =>
        have q : PostO X.K (He.ga X.K) W Z3 H3 σ (ofO (slD x i j)) Q := q
        rw [e3] at q
        exact q.elim
    | .ex c ns xs => rw [e2] at q; exact q
    | .bad => rw [e2] at q; exact q.elim
  | .ex c ns xs => rw [e1] at q; exact q
  | .bad => rw [e1] at q; exact q.elim
end
end DL
namespace DL
open PySem PySem.Spec PyProof.Rows L2 ClX
variable [Tb]
abbrev MTab := List (Str × (List D → Ou D))
def mtF (t : MTab) : Str → Option (List D → Ou D) := fun c => t.lookup c
abbrev MOk (P : Program) (w : World) (K : PySem.W.Frag) (mg : Str → Option Value) (base : Heap) (k : Nat) (f : Addr) (fd : FuncData) (ps : List Str) (n : Nat) (F : List D → Ou D) : Prop :=
  FnOk P w K mg base (L2.CX P w) k f fd ps (spF K n F) ∧ Binds K fd ps []
section
variable {P : Program} {w : World} {K : PySem.W.Frag} {mg : Str → Option Value} {base : Heap} {j k n : Nat} {c C m : Str} {F : List D → Ou D} {fd : FuncData} {ps : List Str}
def chkSame (c C m : Str) : Chk := fun K => clsB K (He.ga K c) && He.ma K (He.ga K c) m == He.fAd K (C, some m)
structure MtE (P : Program) (w : World) (K : PySem.W.Frag) (mg : Str → Option Value) (base : Heap) (k : Nat) (m : Str) (n : Nat) (c : Str) (F : List D → Ou D) : Prop where
  ok : Cls K (He.ga K c) ∧ ∃ (g : Addr) (fd : FuncData) (ps : List Str), Meth K (He.ga K c) m g ∧ FnOk P w K mg base (L2.CX P w) k g fd ps (spF K n F) ∧ Binds K fd ps []
theorem Mt.of {t : MTab} (h : ∀ p ∈ t, MtE P w K mg base k m n p.1 p.2) : Mt P w K mg base k m n (mtF t) :=
  ⟨fun c F e => (h (c, F) (PySem.mem_of_lookup e)).ok⟩
def chkAny : Chk := fun K => ooV (PySem.W.nsIn K cStatics "thirdparty.any") (some none)
def chkIs (c : Str) : Chk := fun K => PySem.W.isClsIn K (He.ga K c)
def chkFn (C m : Str) : Chk := fun K => opV (PySem.W.typeIn K (.ref (He.fAd K (C, some m)))) (some (.type "function")) && PySem.W.fnIn K (He.fAd K (C, some m))
def chkSup (al : List Str) (Dn m C : Str) : Chk := fun K => al.all fun c => obB (PySem.W.mroIn K (He.ga K c) (.ref (He.ga K Dn))) (some true) && ooV (PySem.W.ks_superIn K (He.ga K c) (He.ga K Dn) m) (some (some (.ref (He.fAd K (C, some m)))))
theorem SupT.of {al : List Str} {Dn : Str} (h0 : chkAny K = true) (h1 : chkFn C m K = true) (h2 : chkSup al Dn m C K = true) (ok : MOk P w K mg base k (He.fAd K (C, some m)) fd ps n F) : SupT P w K mg base k m n Dn al F := by
  obtain ⟨h3, h4⟩ := band h1
  refine ⟨of_decide_eq_true h0, fun c hc => ?_⟩
  obtain ⟨h5, h6⟩ := band (List.all_eq_true.mp h2 c hc)
  exact ⟨of_decide_eq_true h5, He.fAd K (C, some m), fd, ps, of_decide_eq_true h6, of_decide_eq_true h3, h4, ok.1, ok.2⟩
end
end DL
namespace DL
open PySem PySem.Spec PyProof.Rows L2 ClX
variable [Tb]
section
variable {X : Cx} {pins : List (Addr × Obj)} {σ : L2.St} {H : Hp} {s : Shared}
end
def lamYB (scope : Scope) (y : Str) : Bool := decide (scope.kind = .function) && !scope.isCoroutine && !scope.isGenerator && scope.names.all (fun z => !decide (z.2 = .cell) && !decide (z.2 = .free)) && decide (scope.names.lookup y = some .local)
structure LamY (scope : Scope) (y : Str) : Prop where
  kind : scope.kind = .function
  co : scope.isCoroutine = false
  gen : scope.isGenerator = false
  cell : ∀ z ∈ scope.names, z.2 ≠ .cell
  free : ∀ z ∈ scope.names, z.2 ≠ .free
  loc : scope.names.lookup y = some .local
section
variable {M : Model} {A : Around} {c : Code} {E : Value → Shared → Prop} {s : Shared} {env : PySem.Env}
end
def keyOf (j : Nat) : D → Option Int
  | .tup ds => match ds[j]? with
    | some (.int z) => some z
    | _ => none
  | _ => none
def keyZ (j : Nat) (d : D) : Int := (keyOf j d).getD 0
def leKey (j : Nat) (a b : D) : Bool := PySem.W.dataLe false (fun d => PyData.int (keyZ j d)) a b
def sortKeyD (j : Nat) : D → Option D
  | .lst _ xs => if D.fzs xs && (xs.all fun d => (keyOf j d).isSome) && decide (xs.length ≤ LIM) then some (.lst true (xs.mergeSort (leKey j))) else none
  | _ => none
section
variable {K : PySem.W.Frag} {cl : Str → Addr} {Z H : Hp}
theorem Dens.at_ : ∀ {ds : List D} {vs : List V} {fp : Fp} {j : Nat} {d : D}, Dens K cl Z H ds vs fp → ds[j]? = some d → ∃ v f, vs[j]? = some v ∧ Den K cl Z H d v f
  | [], _, _, _, _, _, e => by simp at e
  | x :: ds, vs, fp, 0, d, h, e => by
    obtain ⟨v, vr, f1, f2, e1, e2, q, r⟩ := h.cons'
    have e' : x = d := by simpa using e
    subst e' e1
    exact ⟨v, f1, rfl, q⟩
  | x :: ds, vs, fp, j + 1, d, h, e => by
    obtain ⟨v, vr, f1, f2, e1, e2, q, r⟩ := h.cons'
    subst e1
    obtain ⟨u, f, h1, h2⟩ := Dens.at_ (j := j) r (by simpa using e)
    exact ⟨u, f, by simpa using h1, h2⟩
end
structure KeyR (h : Heap) (j : Nat) (v : Value) (p : V × D) : Prop where
  rel : RelV p.1 v
  tup : ∃ (t : Addr) (its : List Value) (u : Tok), v = .ref t ∧ IsTup h t its.toArray ∧ its[j]? = some (.int (keyZ j p.2) u)
section
variable {X : Cx} {W : WX} {k : Nat} {b : List Stmt} {e : Expr} {f : Env → Ou D}
end
structure LamAt (K : PySem.W.Frag) (mg : Str → Option Value) (base : Heap) (p : Str × Option Str) (nm : Str) : Prop where
  tb : LamX.TabB base mg (He.cT K p).1 (He.cT K p).2
  mem : ((He.cT K p).2, nm) ∈ Tb.t
  uniq : ∀ q ∈ Tb.t, q.1 = (He.cT K p).2 → q.2 = nm
def chkLam (p : Str × Option Str) (nm : Str) : Chk := fun K => lamHere K (p, nm) && (lamP K).all fun q => !((He.cT K q.1).2 == (He.cT K p).2) || decide (q.2 = nm)
theorem LamAt.of {K : PySem.W.Frag} {mg : Str → Option Value} {base : Heap} {p : Str × Option Str} {nm : Str} (hTb : Tb.t = tabsOf K) (TB : TabsB K mg base) (hd : (p, nm) ∈ lamDefs) (c : chkLam p nm K = true) : LamAt K mg base p nm := by
  obtain ⟨c1, c2⟩ := band c
  have hm : (p, nm) ∈ lamP K := List.mem_filter.mpr ⟨hd, c1⟩
  refine ⟨TB _ hm, by rw [hTb]; exact List.mem_map.mpr ⟨_, hm, rfl⟩, fun q hq hq2 => ?_⟩
  rw [hTb] at hq
  obtain ⟨x, hx, rfl⟩ := List.mem_map.mp hq
  have := List.all_eq_true.mp c2 x hx
  rcases Bool.or_eq_true_iff.mp this with h | h
  · have hq2 : (He.cT K x.1).2 = (He.cT K p).2 := hq2
    rw [hq2] at h
    simp at h
  · exact of_decide_eq_true h
end DL
namespace PySem
open PySem.Calls PySem.W PyProof.Rows
section
variable {prog : Program} {w : World} {A : Around} {E : Value → Shared → Prop} {s : Shared}
end
end PySem
namespace DL
open PySem PySem.Spec PyProof.Rows L2 ClX
open PySem.W (dataLt alike)
variable [Tb]
def pyNone : PyData → Bool
  | .none => true
  | _ => false
def rMinD (K : PySem.W.Frag) : List V → Hp → VK → Prop := fun vs H Q => ∃ (v u : V) (x y : PyData), vs = [v, u] ∧ Dp K H v x ∧ Dp K H u y ∧ PySem.W.AlikeAll [x, y] ∧ PyData.depthAll [x, y] ≤ DEP ∧ Q (if dataLt y x then u else v) H
def al2  (x y : D) : Bool := alike x.py y.py && (alike y.py x.py && (alike x.py x.py && (alike y.py y.py && (!pyNone x.py && !pyNone y.py))))
def rMaxD (K : PySem.W.Frag) : List V → Hp → VK → Prop := fun vs H Q => ∃ (v u : V) (x y : PyData), vs = [v, u] ∧ Dp K H v x ∧ Dp K H u y ∧ PySem.W.AlikeAll [x, y] ∧ PyData.depthAll [x, y] ≤ DEP ∧ Q (if dataLt x y then u else v) H
def mnN : List D → Option D
  | [.int i, .int j] => some (.int (if j < i then j else i))
  | [x, y] => if x.okd DEP && y.okd DEP && x.fz && y.fz && al2 x y then some (if dataLt y.py x.py then y else x) else none
  | _ => none
def mxN : List D → Option D
  | [.int i, .int j] => some (.int (if j > i then j else i))
  | [x, y] => if x.okd DEP && y.okd DEP && x.fz && y.fz && al2 x y then some (if dataLt x.py y.py then y else x) else none
  | _ => none
section
variable {K : PySem.W.Frag} {cl : Str → Addr}
end
structure DnD (P : Program) (w : World) (K : PySem.W.Frag) (mg : Str → Option Value) (base : Heap) (k : Nat) (x : Str) (n : Nat) (F : List D → Ou D) (ds : List D) : Prop where
  ex : ∃ (f : Addr) (fd : FuncData) (ps : List Str) (dvs : List V) (vals : List Value), mg x = some (.ref f) ∧ FnOk P w K mg base (L2.CX P w) k f fd ps (spF K n F) ∧ PySem.W.keepIn K (.ref f) = true ∧ Vals dvs vals ∧ Binds K fd ps vals ∧ ∀ Z H, Dens K (He.ga K) Z H ds dvs []
theorem DnD.of {P : Program} {w : World} {K : PySem.W.Frag} {mg : Str → Option Value} {base : Heap} {k n : Nat} {x : Str} {F : List D → Ou D} {ds : List D} {dvs : List V} {f : Addr} {fd : FuncData} {ps : List Str} (hm : mg x = some (.ref f)) (ok : FnOk P w K mg base (L2.CX P w) k f fd ps (spF K n F))
    (kp : PySem.W.keepIn K (.ref f) = true) (hb : ∃ vals, Vals dvs vals ∧ Binds K fd ps vals) (hd : ∀ Z H, Dens K (He.ga K) Z H ds dvs []) : DnD P w K mg base k x n F ds := by
  obtain ⟨vals, h1, h2⟩ := hb
  exact ⟨f, fd, ps, dvs, vals, hm, ok, kp, h1, h2, hd⟩
theorem Dn.ofB {P : Program} {w : World} {K : PySem.W.Frag} {mg : Str → Option Value} {base : Heap} {k n : Nat} {x : Str} {F : List D → Ou D} {f : Addr} {fd : FuncData} {ps : List Str} (hm : mg x = some (.ref f)) (ok : FnOk P w K mg base (L2.CX P w) k f fd ps (spF K n F))
    (kp : PySem.W.keepIn K (.ref f) = true) (hb : ∃ vals, Vals [] vals ∧ Binds K fd ps vals) : Dn P w K mg base k x n F := by
  obtain ⟨vals, h1, h2⟩ := hb
  cases h1
  exact ⟨f, fd, ps, hm, ok, kp, h2⟩
def dCallD (F : List D → Ou D) (ds : List D) (t : Env → Ou (List D)) : Env → Ou D := fun ρ => t ρ >>= fun as => callR F (as ++ ds)
end DL
namespace DL
open PySem PySem.Spec PyProof.Rows L2
variable [Tb]
def isLstD : D → Bool
  | .lst _ _ => true
  | _ => false
def dML (op : D → D → Option D) (f g : Env → Ou D) : Env → Ou D := fun ρ => f ρ >>= fun x => if isLstD x then (g ρ >>= fun y => ofO (op x y)) else .bad
@[simp] theorem x_dML (op : D → D → Option D) (f g : Env → Ou D) (ρ : Env) : dML op f g ρ = (f ρ >>= fun x => if isLstD x then (g ρ >>= fun y => ofO (op x y)) else .bad) := (rfl)
def fstI (p : PyData → Bool) : List PyData → Option Nat
  | [] => none
  | z :: zs => if p z then some 0 else (fstI p zs).map (· + 1)
def indexD (x y : D) : Option D := match x with
  | .lst _ xs => if y.okd DEP && (D.lst true xs).okd DEP then (fstI (fun z => PyData.eqv z y.py) (D.pys xs)).map fun j => .int (j : Nat) else none
  | _ => none
section
variable {X : Cx} {W : WX} {a b : Expr} {f g : Env → Ou D} {pos apos : Pos}
end
end DL
namespace DL
open PySem PySem.Spec PyProof.Rows L2 ClX
variable [Tb]
def chkTup (x : Str) (xs : List Str) : Chk := fun K => (He.Fa.glo x).ok K && isTupB K (He.ga K x) (xs.map V.str)
structure GTup (K : PySem.W.Frag) (mg : Str → Option Value) (x : Str) (xs : List Str) : Prop where
  m : mg x = some (.ref (He.ga K x))
  t : isTupB K (He.ga K x) (xs.map V.str) = true
theorem GTup.of {K : PySem.W.Frag} {h : Heap} {mg : Str → Option Value} {x : Str} {xs : List Str} (X : K.In h) (G : h.Ns mainGlobals mg) (c : chkTup x xs K = true) : GTup K mg x xs := by
  obtain ⟨c1, c2⟩ := band c
  exact ⟨He.glo_ok X G c1, c2⟩
def rCountD (K : PySem.W.Frag) : V → List V → Hp → VK → Prop := fun x xs H Q => ∃ (a : Addr) (y : V) (d : PyData) (ds : List PyData), x = V.ref a ∧ xs = [y] ∧ Dp K H (V.ref a) (.list ds) ∧ Dp K H y d ∧
  SeqAt.shaped (.list ds) = true ∧ SeqAt.shaped d = true ∧ Q (.int ((ds.countP fun z => PyData.eqv z d : Nat) : Int)) H
def countD (x y : D) : Option D := match x with
  | .lst _ xs => if y.okd DEP && (D.lst true xs).okd DEP then some (.int (((D.pys xs).countP fun z => PyData.eqv z y.py : Nat) : Int)) else none
  | _ => none
def sTryB (hit : Str → Option Bool) (body : Env → Os) : Env → Os := fun ρ => match body ρ with
  | .ex c ns xs ρ' => match hit c with
    | some false => .ex c ns xs ρ'
    | _ => .bad
  | r => r
section
variable {X : Cx} {W : WX} {k i : Nat} {x n : Str} {cls : Value} {hit : Str → Option Bool} {body suite : List Stmt} {b₀ : Stmt} {np pos pos' : Pos} {gb : Env → Os}
end
def tryBK (hit : Str → Option Bool) : Os → Os
  | .ex c ns xs ρ' => match hit c with
    | some false => .ex c ns xs ρ'
    | _ => .bad
  | r => r
section
variable {ρ : Env} {hit : Str → Option Bool} {body : Env → Os}
@[simp] theorem x_sTryB : sTryB hit body ρ = tryBK hit (body ρ) := by
  unfold sTryB tryBK
  cases body ρ <;> rfl
@[simp] theorem x_tryBK_nx : tryBK hit (.nx ρ) = .nx ρ := (rfl)
@[simp] theorem x_tryBK_rt (d : D) : tryBK hit (.rt d) = .rt d := (rfl)
@[simp] theorem x_tryBK_bk : tryBK hit (.bk ρ) = .bk ρ := (rfl)
@[simp] theorem x_tryBK_ct : tryBK hit (.ct ρ) = .ct ρ := (rfl)
end
end DL
namespace DL
open PySem PySem.Spec PyProof.Rows L2 ClX
variable [Tb]
theorem Ex.mutI {H H' : Hp} {p C dx : Addr} {o : HO} {fs : List (Str × V)} (e : Ex H H') (h : H p = none) (hl : H' p = some (.ins C dx fs)) : Ex H (upd H' p o) := by
  have same : ∀ a, H a ≠ none → upd H' p o a = H' a := fun a ha => upd_ne fun c => ha (by rw [c]; exact h)
  refine ⟨fun a u n hu => (same a (by rw [hu]; exact fun z => nomatch z)).trans (e.at_ a u n hu), fun a ha => by rw [same a ha]; exact e.ne a ha, fun P q m ht => ?_⟩
  obtain ⟨ps, h1, h2, h3⟩ := e.tab P q m ht
  refine ⟨ps, (same P (tabS_ne ht)).trans h1, h2, fun pos cv hc => ?_⟩
  obtain ⟨c, e1, e2⟩ := h3 pos cv hc
  refine ⟨c, e1, ?_⟩
  have cp : c ≠ p := fun z => by
    rw [z, hl] at e2
    cases e2
  exact (upd_ne cp).trans e2
theorem Gr.mutI {Z0 H0 Z H : Hp} {p C dx : Addr} {o : HO} {fs : List (Str × V)} (g : Gr Z0 H0 Z H) (h0 : H0 p = none) (z : Z p = none) (hl : H p = some (.ins C dx fs)) : Gr Z0 H0 Z (upd H p o) :=
  ⟨g.z, g.h.mutI h0 hl, g.s.mutI z hl, g.n⟩
structure StaI (K : PySem.W.Frag) (cl : Str → Addr) (c : Str) (a dx : Addr) (Z0 H0 Z H : Hp) (σ : L2.St) (ρ : DL.Env) (ns : List Str) (ds : List D) : Prop where
  g : Gr Z0 H0 Z H
  t : TabsK K Z
  e : ∃ fp, Slots K cl Z H ρ σ fp ∧ fp.Nodup ∧ a ∉ fp
  za : Z a = none
  h0 : H0 a = none
  s0 : σ[0]? = some (some (.ref a))
  i : ∃ vs, H a = some (.ins (cl c) dx (ns.zip vs)) ∧ Dens K cl Z H ds vs []
  l : ns.length = ds.length
section
variable {K : PySem.W.Frag} {cl : Str → Addr} {c : Str} {a dx : Addr} {Z0 H0 Z H Z' H' : Hp} {σ : L2.St} {ρ : DL.Env} {ns : List Str} {ds : List D}
theorem StaI.rel (s : StaI K cl c a dx Z0 H0 Z H σ ρ ns ds) : RelS K cl Z H σ ρ := let ⟨fp, h, nd, _⟩ := s.e; ⟨s.g.s, s.t, fp, h, nd⟩
theorem StaI.gr (s : StaI K cl c a dx Z0 H0 Z H σ ρ ns ds) (g : Gr Z H Z' H') : StaI K cl c a dx Z0 H0 Z' H' σ ρ ns ds := by
  obtain ⟨fp, h, nd, naf⟩ := s.e
  obtain ⟨vs, i1, i2⟩ := s.i
  refine ⟨s.g.trans g, s.t.ex g.z, ⟨fp, Slots.mono g.z (fun b hb => ?_) h, nd, naf⟩, g.n a (by rw [i1]; exact fun z => nomatch z) s.za, s.h0, s.s0, ⟨vs, g.h.l i1, g.dens i2⟩, s.l⟩
  obtain ⟨z, xs, q⟩ := Slots.own h b hb
  exact ⟨g.n b (by rw [q]; exact Option.some_ne_none _) z, by rw [q]; exact g.h.l q⟩
theorem zip_put {f : Str} {v : V} : ∀ {ns : List Str} {vs : List V}, f ∉ ns → ns.length = vs.length → putF f v (ns.zip vs) = (ns ++ [f]).zip (vs ++ [v])
  | [], [], _, _ => rfl
  | n :: ns, [], _, h => by cases h
  | [], v :: vs, _, h => by cases h
  | n :: ns, u :: vs, hn, h => by
    have h1 : n ≠ f := fun z => hn (by rw [z]; exact List.mem_cons_self)
    show (if n = f then (n, v) :: ns.zip vs else (n, u) :: putF f v (ns.zip vs)) = _
    rw [if_neg h1, zip_put (fun m => hn (List.mem_cons_of_mem _ m)) (Nat.succ.inj h)]
    rfl
theorem StaI.put {f : Str} {d : D} {v : V} {fp : Fp} (s : StaI K cl c a dx Z0 H0 Z H σ ρ ns ds) (g : Gr Z H Z' H') (dn : Den K cl Z' H' d v fp) (nd : fp.Nodup) (fr : ∀ b ∈ fp, H b = none) (hf : f ∉ ns) :
    ∃ fs, H' a = some (.ins (cl c) dx fs) ∧ fs.length = ns.length ∧ StaI K cl c a dx Z0 H0 (frzH Z' H' fp) (upd H' a (.ins (cl c) dx (putF f v fs))) σ ρ (ns ++ [f]) (ds ++ [d.frz]) := by
  obtain ⟨vs, i1, i2⟩ := s.i
  obtain ⟨fq, sl, ndq, naf⟩ := s.e
  have own : ∀ b ∈ fp, Z' b = none := fun b hb => (Den.own d v fp dn b hb).1
  have lo : ∀ b ∈ fp, ∃ xs : Mo, H' b = some xs.o := fun b hb => (Den.own d v fp dn b hb).2
  have g2 := g.frz own fr lo
  have ez := frzH_ex (H := H') own
  have ia : H' a = some (.ins (cl c) dx (ns.zip vs)) := g.h.l i1
  have na : a ∉ fp := fun hm => by
    rw [fr a hm] at i1
    cases i1
  have za : frzH Z' H' fp a = none := (if_neg na).trans (g.n a (by rw [i1]; exact fun z => nomatch z) s.za)
  have lv : ns.length = vs.length := s.l.trans i2.length.symm
  refine ⟨ns.zip vs, ia, by rw [List.length_zip, lv, Nat.min_self], (s.g.trans g2).mutI s.h0 za ia, s.t.ex (g.z.trans ez), ⟨fq, Slots.mono (g.z.trans ez) (fun b hb => ?_) sl, ndq, naf⟩, za, s.h0, s.s0, ⟨vs ++ [v], ?_, ?_⟩, by simp [s.l]⟩
  · obtain ⟨z, xs, q⟩ := Slots.own sl b hb
    have nb : b ∉ fp := fun hm => by
      rw [fr b hm] at q
      cases q
    have ba : b ≠ a := fun e => naf (e ▸ hb)
    exact ⟨(if_neg nb).trans (g.n b (by rw [q]; exact Option.some_ne_none _) z), by rw [upd_ne ba, q]; exact g.h.l q⟩
  · rw [upd_same, zip_put hf lv]
  · refine Dens.append (f := []) (g := []) (Dens.mono (g.z.trans ez) ds vs [] (fun _ z => nomatch z) i2) (Dens.one ?_)
    exact Den.freeze ez d v fp (fun b hb => if_pos hb) dn
end
def PostN (K : PySem.W.Frag) (cl : Str → Addr) (W : WX) (c : Str) (a dx : Addr) (Z0 H0 : Hp) (σ : L2.St) (ρ : DL.Env) (ns : List Str) (ds : List D) (fs : List Str) (o : Ou (List D)) (E : Ends) : Prop := match o with
  | .ok es => ∀ Z H, StaI K cl c a dx Z0 H0 Z H σ ρ (ns ++ fs) (ds ++ es) → E.nx σ H
  | .ex c ns xs => ∀ dc Z H, Gr Z0 H0 Z H → ExD K cl Z H ns xs dc → W (.ref (cl c)) dc σ H
  | .bad => False
structure DSI (X : Cx) (W : WX) (c : Str) (st : List Stmt) (fs : List Str) (t : DL.Env → Ou (List D)) : Prop where
  run : ∀ (a dx : Addr) (Z0 H0 : Hp) (ns : List Str) (ds : List D), (∀ f ∈ fs, f ∉ ns) → ns.length + fs.length < 1000 →
    PSs X st fun E σ H => ∃ Z ρ, StaI X.K (He.ga X.K) c a dx Z0 H0 Z H σ ρ ns ds ∧ PostN X.K (He.ga X.K) W c a dx Z0 H0 σ ρ ns ds fs (t ρ) E
def iNil : DL.Env → Ou (List D) := fun _ => .ok []
def iFld (g : DL.Env → Ou D) (t : DL.Env → Ou (List D)) : DL.Env → Ou (List D) := fun ρ => g ρ >>= fun d => t ρ >>= fun es => .ok (d.frz :: es)
def iDrop (g : DL.Env → Ou D) (t : DL.Env → Ou (List D)) : DL.Env → Ou (List D) := fun ρ => g ρ >>= fun _ => t ρ
@[simp] theorem x_iNil (ρ : DL.Env) : iNil ρ = .ok [] := (rfl)
@[simp] theorem x_iFld (ρ : DL.Env) (g : DL.Env → Ou D) (t : DL.Env → Ou (List D)) : iFld g t ρ = (g ρ >>= fun d => t ρ >>= fun es => .ok (d.frz :: es)) := (rfl)
@[simp] theorem x_iDrop (ρ : DL.Env) (g : DL.Env → Ou D) (t : DL.Env → Ou (List D)) : iDrop g t ρ = (g ρ >>= fun _ => t ρ) := (rfl)
section
variable {X : Cx} {W : WX} {c f sf : Str} {st : List Stmt} {fs : List Str} {g : DL.Env → Ou D} {t : DL.Env → Ou (List D)} {e : Expr} {p1 p2 p3 pos : Pos}
theorem DSI.nil : DSI X W c [] [] iNil := ⟨fun a dx Z0 H0 ns ds _ _ => PSs.weak pss_nil fun E σ H hq => by
  obtain ⟨Z, ρ, s, q⟩ := hq
  have q : ∀ Z H, StaI X.K (He.ga X.K) c a dx Z0 H0 Z H σ ρ (ns ++ []) (ds ++ []) → E.nx σ H := q
  rw [List.append_nil, List.append_nil] at q
  exact q Z H s⟩
theorem DSI.drop (he : DE X W e g) (h : DSI X W c st fs t) (hs : swapsWith e none pos.line X.env = pure false := by rfl) : DSI X W c (.Expr e pos :: st) fs (iDrop g t) := by
  refine ⟨fun a dx Z0 H0 ns ds h1 h2 => PSs.weak (pss_cons (ps_expr he.run hs) (h.run a dx Z0 H0 ns ds h1 h2)) fun E σ H hq => ?_⟩
  obtain ⟨Z, ρ, s, q⟩ := hq
  refine ⟨Z, ρ, s.rel, ?_⟩
  unfold iDrop at q
  cases ec : g ρ with
  | ok d =>
    rw [ec] at q
    exact fun v Z' H' fp g1 dn nd fr => ⟨Z', ρ, s.gr g1, q⟩
  | ex cn ns xs => rw [ec] at q; exact fun dc Z' H' g1 x => q dc Z' H' (s.g.trans g1) x
  | bad => rw [ec] at q; exact q
end
def spI (K : PySem.W.Frag) (c : Str) (n : Nat) (F : List D → Ou D) : Sp := fun vs H Q E => ∃ a dx ws H0, vs = .ref a :: ws ∧ ws.length = n ∧ H = upd (upd H0 dx (.own a)) a (.ins (He.ga K c) dx []) ∧ H0 a = none ∧ H0 dx = none ∧ dx ≠ a ∧ spF K n F ws H0 (fun v H' => v = .ref a → Q .non H') E
def runI (n : Nat) (c : Str) (fs : List Str) (t : DL.Env → Ou (List D)) (ds : List D) : Ou D := t (some (.adr 0) :: (ds.map some ++ List.replicate (n - (ds.length + 1)) none)) >>= fun es => .ok (.ins c fs es)
structure DnI (P : Program) (w : World) (K : PySem.W.Frag) (mg : Str → Option Value) (base : Heap) (k : Nat) (c : Str) (n : Nat) (F : List D → Ou D) : Prop where
  ex : ∃ (f : Addr) (fd : FuncData) (ps : List Str), Mk K (He.ga K c) f ∧ FnOk P w K mg base (L2.CX P w) k f fd ps (spI K c n F) ∧ Binds K fd ps []
def mkB (K : PySem.W.Frag) (C f : Addr) : Bool := PySem.W.makesIn K C && (ooV (PySem.W.findIn K (.ref C) "__init__") (some (some (.ref f))) && (PySem.W.isFn K (.ref f) && PySem.W.keepIn K (.ref C)))
theorem mkB_ok {K : PySem.W.Frag} {C f : Addr} (h : mkB K C f = true) : Mk K C f := by
  obtain ⟨h1, h⟩ := band h
  obtain ⟨h2, h⟩ := band h
  obtain ⟨h3, h4⟩ := band h
  exact ⟨h1, of_decide_eq_true h2, h3, h4⟩
def chkMk (c : Str) (fs : List Str) : Chk := fun K => mkB K (He.ga K c) (He.fAd K (c, some "__init__")) && (clsB K (He.ga K c) && fs.all fun f => ooV (PySem.W.findIn K (.ref (He.ga K c)) f) (some none))
theorem chkMk_mk {K : PySem.W.Frag} {c : Str} {fs : List Str} (h : chkMk c fs K = true) : Mk K (He.ga K c) (He.fAd K (c, some "__init__")) := mkB_ok (band h).1
theorem chkMk_cls {K : PySem.W.Frag} {c : Str} {fs : List Str} (h : chkMk c fs K = true) : Cls K (He.ga K c) := clsB_ok (band (band h).2).1
theorem chkMk_no {K : PySem.W.Frag} {c : Str} {fs : List Str} (h : chkMk c fs K = true) {f : Str} (hf : f ∈ fs) : NoAttr K (He.ga K c) f := show PySem.W.findIn K (.ref (He.ga K c)) f = some none from of_decide_eq_true (List.all_eq_true.mp (band (band h).2).2 f hf)
theorem DnI.of {P : Program} {w : World} {K : PySem.W.Frag} {mg : Str → Option Value} {base : Heap} {k n : Nat} {c : Str} {F : List D → Ou D} {fd : FuncData} {ps fs : List Str} (h : chkMk c fs K = true) (ok : FnOk P w K mg base (L2.CX P w) k (He.fAd K (c, some "__init__")) fd ps (spI K c n F)) (hb : Binds K fd ps []) : DnI P w K mg base k c n F :=
  ⟨_, fd, ps, chkMk_mk h, ok, hb⟩
section
variable {X : Cx} {CX : CXT} {k : Nat} {f C : Addr} {fd : FuncData} {ps : List Str} {sp : Sp} {E : XK} {dvs : List V} {ds : List Value}
end
theorem spF.mono {K : PySem.W.Frag} {n : Nat} {F : List D → Ou D} {vs : List V} {H : Hp} {Q Q' : VK} {E : XK} (k : ∀ v H', Q v H' → Q' v H') (h : spF K n F vs H Q E) : spF K n F vs H Q' E := by
  obtain ⟨hl, Z, ds, ez, tk, dn, q⟩ := h
  refine ⟨hl, Z, ds, ez, tk, dn, ?_⟩
  cases e : F ds with
  | ok d => rw [e] at q; exact fun v Z' H' fp g h nd fr => k v H' (q v Z' H' fp g h nd fr)
  | ex c ns xs => rw [e] at q; exact q
  | bad => rw [e] at q; exact q.elim
section
variable {X : Cx} {W : WX} {k j n : Nat} {e o : Expr} {es : List Expr} {t : DL.Env → Ou (List D)} {pos p apos : Pos} {x m fl : Str} {F : List D → Ou D} {f : DL.Env → Ou D}
def FldOk (K : PySem.W.Frag) (f : Str) (al : List Str) : Prop := ∀ c ∈ al, Cls K (He.ga K c) ∧ NoAttr K (He.ga K c) f
def fldD (f : Str) (al : List Str) : D → Option D
  | .ins c ns xs => if al.contains c then (ns.zip xs).lookup f else none
  | _ => none
theorem Dens.look {K : PySem.W.Frag} {cl : Str → Addr} {Z H : Hp} {f : Str} {d : D} : ∀ {ns : List Str} {ds : List D} {vs : List V}, Dens K cl Z H ds vs [] → (ns.zip ds).lookup f = some d → ∃ v, (ns.zip vs).lookup f = some v ∧ Den K cl Z H d v []
  | [], ds, vs, _, e => by simp at e
  | n :: ns, [], vs, _, e => by simp at e
  | n :: ns, x :: ds, vs, h, e => by
    obtain ⟨v, vr, f1, f2, e1, e2, q, r⟩ := h.cons'
    have e2' : f1 ++ f2 = [] := e2.symm
    obtain ⟨rfl, rfl⟩ := List.append_eq_nil_iff.mp e2'
    subst e1
    rw [List.zip_cons_cons, List.lookup_cons] at e ⊢
    cases c : f == n with
    | true =>
      rw [c] at e
      have e : some x = some d := e
      cases e
      exact ⟨v, rfl, q⟩
    | false =>
      rw [c] at e
      exact Dens.look r e
end
end DL
namespace DL
open PySem PySem.Spec PyProof.Rows L2 ClX
variable [Tb]
structure DKB (X : Cx) (W : WX) (kws : List Keyword) (f : DL.Env → Ou (List D)) : Prop where
  run : PK X kws (tVs X.K (He.ga X.K) W f)
  len : ∀ ρ ds, f ρ = .ok ds → ds.length = kws.length
section
variable {X : Cx} {W : WX} {kws : List Keyword} {e : Expr} {f : DL.Env → Ou D} {t : DL.Env → Ou (List D)} {nm : Option Str} {kpos : Pos}
theorem DKB.nil : DKB X W [] aNil := ⟨⟨fun pos pins s σ H Q I hq => by
  obtain ⟨Z, ρ, r, q⟩ := hq
  exact pk_nil.run pos pins s σ H Q I (q [] Z H [] (Gr.refl r.s) ⟨rfl, rfl⟩)⟩, fun ρ ds e => by cases e; rfl⟩
theorem DKB.cons (h : DB X W e f) (hr : DKB X W kws t) : DKB X W (⟨nm, e, kpos⟩ :: kws) (aCons f t) := by
  refine ⟨⟨fun pos pins s σ H Q I hq => (pk_cons h.run hr.run).run pos pins s σ H Q I ?_⟩, fun ρ ds e => ?_⟩
  rotate_left
  · unfold aCons at e
    cases e1 : f ρ with
    | ok x =>
      rw [e1] at e
      cases e2 : t ρ with
      | ok xs =>
        have e : (t ρ >>= fun xs => Ou.ok (x :: xs)) = .ok ds := e
        rw [e2] at e
        cases e
        exact congrArg (· + 1) (hr.len ρ xs e2)
      | ex c ns xs =>
        have e : (t ρ >>= fun xs => Ou.ok (x :: xs)) = .ok ds := e
        rw [e2] at e
        cases e
      | bad =>
        have e : (t ρ >>= fun xs => Ou.ok (x :: xs)) = .ok ds := e
        rw [e2] at e
        cases e
    | ex c ns xs => rw [e1] at e; cases e
    | bad => rw [e1] at e; cases e
  obtain ⟨Z, ρ, r, q⟩ := hq
  refine tV_bind (P := fun Z H o => PostAB X.K (He.ga X.K) W Z H σ o Q) r (fun _ _ _ z => z) (fun z => z) q fun x v Z1 H1 fx ex g1 dx q => ?_
  refine ⟨Z1, ρ, r.gr g1, ?_⟩
  match e : t ρ with
  | .ok ds =>
    rw [e] at q
    intro vs Z2 H2 fp g2 dn
    exact q (v :: vs) Z2 H2 (fx ++ fp) (g1.trans g2) (Dens.cons (g2.den dx) dn)
  | .ex c ns xs => rw [e] at q; exact fun dc Z2 H2 g2 x => q dc Z2 H2 (g1.trans g2) x
  | .bad => rw [e] at q; exact q.elim
end
structure DnK (P : Program) (w : World) (K : PySem.W.Frag) (mg : Str → Option Value) (base : Heap) (k : Nat) (x : Str) (np : Nat) (ks : List Str) (ds : List D) (F : List D → Ou D) : Prop where
  ex : ∃ (f : Addr) (fd : FuncData) (ps : List Str) (dvs : List V) (g : List Value → List Value → List Value), mg x = some (.ref f) ∧ FnOk P w K mg base (L2.CX P w) k f fd ps (spF K (np + (ks.length + ds.length)) F) ∧ PySem.W.keepIn K (.ref f) = true ∧
    KBn K fd ps np ks g (fun vs zs => vs ++ (zs ++ dvs)) ∧ ∀ Z H, Dens K (He.ga K) Z H ds dvs []
theorem DnK.of {P : Program} {w : World} {K : PySem.W.Frag} {mg : Str → Option Value} {base : Heap} {k np n : Nat} {x : Str} {ks : List Str} {F : List D → Ou D} {ds : List D} {f : Addr} {fd : FuncData} {ps : List Str} {ms : List (Str × V)}
    (hm : mg x = some (.ref f)) (ok : FnOk P w K mg base (L2.CX P w) k f fd ps (spF K n F)) (kp : PySem.W.keepIn K (.ref f) = true)
    (hb : ∃ mv : List Value, KBn K fd ps np ks (fun us ws => us ++ (ws ++ mv)) (fun vs zs => vs ++ (zs ++ ms.map (·.2)))) (hd : ∀ Z H, Dens K (He.ga K) Z H ds (ms.map (·.2)) []) (hn : np + (ks.length + ds.length) = n) : DnK P w K mg base k x np ks ds F := by
  obtain ⟨mv, h⟩ := hb
  subst hn
  exact ⟨f, fd, ps, ms.map (·.2), _, hm, ok, kp, h, hd⟩
def dCallK (F : List D → Ou D) (ds : List D) (t tk : DL.Env → Ou (List D)) : DL.Env → Ou D := fun ρ => t ρ >>= fun as => tk ρ >>= fun bs => callR F (as ++ (bs ++ ds))
@[simp] theorem x_dCallK (ρ : DL.Env) (F : List D → Ou D) (ds : List D) (t tk : DL.Env → Ou (List D)) : dCallK F ds t tk ρ = (t ρ >>= fun as => tk ρ >>= fun bs => callR F (as ++ (bs ++ ds))) := (rfl)
section
variable {X : Cx} {CX : CXT} {k n : Nat} {f : Addr} {fd : FuncData} {ps ks : List Str} {sp : Sp} {E : XK} {x : Str} {g : List Value → List Value → List Value} {gV : List V → List V → List V}
theorem run_fnNS {pins : List (Addr × Obj)} {σ : L2.St} {H : Hp} {s : Shared} {Q : VK} {us ws : List Value} {vs zs : List V} (F : FnOk X.prog X.w X.K X.mg X.base CX k f fd ps sp) (hr : Room k X.A) (hb : KBn X.K fd ps n ks g gV) (hx : PassesAt CX X σ E)
    (I : Inv X pins σ H s) (r : Vals vs us) (rz : Vals zs ws) (l1 : vs.length = n) (l2 : zs.length = ks.length) (h : sp (gV vs zs) H Q E) : wpAny (model X.prog X.w) X.A (call (.ref f) us (ks.zip ws)) (EP X pins σ Q) X.xe s := by
  have r2 := hb.rel r rz
  refine wpAny_call (codeAny_mono (F.run X.A X.stack s H ⟨us, ks.zip ws⟩ (g us ws) (gV vs zs) Q E hr I.env0 (hb.to s us ws I.kIn (r.length.symm.trans l1) (rz.length.symm.trans l2)) r2 h) fun r s' hq => ?_)
  cases r with
  | error e => exact hx pins H s e s' I hq
  | ok fl =>
    cases fl with
    | ret u => exact I.after hq
    | next => exact False.elim hq
    | brk => exact False.elim hq
    | cont => exact False.elim hq
end
section
variable {X : Cx} {W : WX} {k j np : Nat} {e : Expr} {es : List Expr} {kws : List Keyword} {t tk : DL.Env → Ou (List D)} {pos p : Pos} {x : Str} {F : List D → Ou D} {ks : List Str} {ds : List D}
theorem DE.callK (C : Ctx X W k) (G : DnK X.prog X.w X.K X.mg X.base j x np ks ds F) (ha : DAB X W (e :: es) t) (hkw : DKB X W kws tk) (hk : j ≤ k := by decide) (hn : ((e :: es).length == np) = true := by rfl) (hnk : (kws.length == ks.length) = true := by rfl) (hg : Gl X x := by rfl)
    (hall : (backToKw pos (keywordEach kws X.env)).all (·.1.isSome) = true := by rfl) (hks : (backToKw pos (keywordEach kws X.env)).filterMap (·.1) = ks := by rfl)
    (hdb : (x == ("__debug__" : Str)) = false := by decide) (he : starEach (e :: es) X.env = (false, eval e X.env) :: starEach es X.env := by rfl)
    (hpl : ((backTo pos (starEach (e :: es) X.env)).any (·.1) || (backToKw pos (keywordEach kws X.env)).any (·.1.isNone)) = false := by rfl) : DE X W (.Call (.Name x p) (e :: es) kws pos) (dCallK F ds t tk) := by
  obtain ⟨f, fd, ps, dvs, g, hm, ok, kp, hb, hd⟩ := G.ex
  refine ⟨⟨fun pins s σ H Q I hq => ?_⟩⟩
  obtain ⟨Z, ρ, r, q⟩ := hq
  refine wpAny_Call_Name_kw (ld_glob I hg hm ?_ hdb)
  refine PySem.W.callWith_KW (h₀ := X.base) I.ok.mod.kin kp hall (thn (ha.run.run pos pins s σ H (fun vs H1 => ∃ as Z1 f1, RelS X.K (He.ga X.K) Z1 H1 σ ρ ∧ Dens X.K (He.ga X.K) Z1 H1 as vs f1 ∧ as.length = np ∧ PostO X.K (He.ga X.K) W Z1 H1 σ (tk ρ >>= fun bs => callR F (as ++ (bs ++ ds))) Q) I ?_) fun us s1 ⟨vs, H1, I1, r1, as, Z1, f1, rs1, dn1, l1, q1⟩ => ?_) hpl he
  · refine tVs_bind (P := fun Z H o => PostO X.K (He.ga X.K) W Z H σ o Q) r (fun _ _ _ z => z) (fun z => z) q fun as vs Z1 H1 fp ex g1 dn q => ?_
    exact ⟨as, Z1, fp, r.gr g1, dn, (ha.len ρ as ex).trans (beq_iff_eq.mp hn), PostO.gr q g1⟩
  refine thn (hkw.run.run pos pins s1 σ H1 (fun zs H2 => zs.length = ks.length ∧ spF X.K (np + (ks.length + ds.length)) F (vs ++ (zs ++ dvs)) H2 Q (WE W σ)) I1 ?_) fun ws s2 ⟨zs, H2, I2, rz, l2, q2⟩ => ⟨I2.kIn, ?_⟩
  · refine tVs_bind (P := fun Z H o => PostO X.K (He.ga X.K) W Z H σ o Q) rs1 (fun _ _ _ z => z) (fun z => z) q1 fun bs zs Z2 H2 fp ex g2 dn2 q2 => ?_
    have lb : bs.length = ks.length := (hkw.len ρ bs ex).trans (beq_iff_eq.mp hnk)
    have dn3 : Dens X.K (He.ga X.K) Z2 H2 (as ++ (bs ++ ds)) (vs ++ (zs ++ dvs)) (f1 ++ (fp ++ [])) := (g2.dens dn1).append (dn2.append (hd Z2 H2))
    refine ⟨dn2.length.trans lb, spF_of g2.s ((rs1.gr g2).t) dn3 ?_ (PostO.gr q2 g2)⟩
    rw [dn3.length, List.length_append, List.length_append, l1, lb]
  · rw [hks]
    exact run_fnNS ok (C.hr.mono hk) hb (passAt C.tk σ) I2 r1 rz (dn1.length.trans l1) l2 q2
end
end DL
namespace DL
open PySem PySem.Spec PyProof.Rows L2 ClX
variable [Tb]
section
variable {X : Cx} {W : WX} {x : Str} {p : Pos}
end
def isCls (c : Str) : D → Bool
  | .cls c' => c' == c
  | _ => false
def isIns (c : Str) : D → Bool
  | .ins c' _ _ => c' == c
  | _ => false
@[simp] theorem x_isCls (c c' : Str) : isCls c (.cls c') = (c' == c) := (rfl)
@[simp] theorem x_isIns (c c' : Str) (ns : List Str) (xs : List D) : isIns c (.ins c' ns xs) = (c' == c) := (rfl)
def dMkV (c : Str) (F : List D → Ou D) (f : DL.Env → Ou D) (t : DL.Env → Ou (List D)) : DL.Env → Ou D := fun ρ => f ρ >>= fun d => if isCls c d = true then t ρ >>= fun as => callR F as else .bad
@[simp] theorem x_dMkV (ρ : DL.Env) (c : Str) (F : List D → Ou D) (f : DL.Env → Ou D) (t : DL.Env → Ou (List D)) : dMkV c F f t ρ = (f ρ >>= fun d => if isCls c d = true then t ρ >>= fun as => callR F as else .bad) := (rfl)
structure CmK (P : Program) (w : World) (K : PySem.W.Frag) (mg : Str → Option Value) (base : Heap) (k : Nat) (c m : Str) (np : Nat) (ks : List Str) (ds : List D) (F : List D → Ou D) : Prop where
  ex : ∃ (mc : Value) (p g : Addr) (fd : FuncData) (ps : List Str) (dvs : List V) (gB : List Value → List Value → List Value), CRead K (He.ga K c) mc ∧ CMet K (He.ga K c) mc m p g ∧
    FnOk P w K mg base (L2.CX P w) k g fd ps (spF K (np + 1 + (ks.length + ds.length)) F) ∧ KBn K fd ps (np + 1) ks gB (fun vs zs => vs ++ (zs ++ dvs)) ∧ ∀ Z H, Dens K (He.ga K) Z H ds dvs []
theorem KBn.plain {K : PySem.W.Frag} {fd : FuncData} {ps : List Str} {n : Nat} (hb : Binds K fd ps []) (hn : n = ps.length) : KBn K fd ps n [] (fun us ws => us ++ (ws ++ [])) (fun vs zs => vs ++ (zs ++ [])) := by
  refine ⟨fun s us ws X l1 l2 => ?_, fun h1 h2 => h1.append (h2.append .nil)⟩
  cases ws with
  | nil =>
    have := hb s us X (by rw [List.append_nil, l1, hn])
    simpa using this
  | cons w ws => cases l2
def dCm (c : Str) (F : List D → Ou D) (ds : List D) (f : DL.Env → Ou D) (t tk : DL.Env → Ou (List D)) : DL.Env → Ou D := fun ρ => f ρ >>= fun d => if isCls c d = true then t ρ >>= fun as => tk ρ >>= fun bs => callR F (.cls c :: (as ++ (bs ++ ds))) else .bad
@[simp] theorem x_dCm (ρ : DL.Env) (c : Str) (F : List D → Ou D) (ds : List D) (f : DL.Env → Ou D) (t tk : DL.Env → Ou (List D)) : dCm c F ds f t tk ρ = (f ρ >>= fun d => if isCls c d = true then t ρ >>= fun as => tk ρ >>= fun bs => callR F (.cls c :: (as ++ (bs ++ ds))) else .bad) := (rfl)
section
variable {X : Cx} {CX : CXT} {k n : Nat} {g q C : Addr} {fd : FuncData} {ps ks : List Str} {sp : Sp} {E : XK} {gB : List Value → List Value → List Value} {gV : List V → List V → List V}
end
section
variable {X : Cx} {W : WX} {k j np : Nat} {o e : Expr} {es : List Expr} {kws : List Keyword} {f : DL.Env → Ou D} {t tk : DL.Env → Ou (List D)} {pos apos p : Pos} {c m : Str} {F : List D → Ou D} {ks : List Str} {ds : List D} {pl : Sem Bool}
end
section
variable {X : Cx} {W : WX} {k j n : Nat} {e o : Expr} {es : List Expr} {t : DL.Env → Ou (List D)} {f : DL.Env → Ou D} {pos p apos : Pos} {x c fl : Str} {F : List D → Ou D}
end
structure PrK (P : Program) (w : World) (K : PySem.W.Frag) (mg : Str → Option Value) (base : Heap) (k : Nat) (c f : Str) (F : List D → Ou D) : Prop where
  ex : ∃ (p g : Addr) (fd : FuncData) (ps : List Str), Cls K (He.ga K c) ∧ PropOf K (He.ga K c) f p g ∧ FnOk P w K mg base (L2.CX P w) k g fd ps (spF K 1 F) ∧ Binds K fd ps []
def noEx : Ou D → Ou D
  | .ex _ _ _ => .bad
  | o => o
@[simp] theorem x_noEx_ok (d : D) : noEx (.ok d) = .ok d := (rfl)
def dProp (c : Str) (F : List D → Ou D) (f : DL.Env → Ou D) : DL.Env → Ou D := fun ρ => f ρ >>= fun d => if isIns c d = true then noEx (callR F [d]) else .bad
@[simp] theorem x_dProp (ρ : DL.Env) (c : Str) (F : List D → Ou D) (f : DL.Env → Ou D) : dProp c F f ρ = (f ρ >>= fun d => if isIns c d = true then noEx (callR F [d]) else .bad) := (rfl)
def InsF (K : PySem.W.Frag) (c : Str) (F : List D → Ou D) (v : V) (H : Hp) (Q : VK) (E : XK) : Prop := ∃ a dx fs, v = .ref a ∧ H a = some (.ins (He.ga K c) dx fs) ∧ spF K 1 F [.ref a] H Q E
section
variable {X : Cx} {W : WX} {k j n : Nat} {e o a b : Expr} {f g : DL.Env → Ou D} {pos p apos : Pos} {x c fl : Str} {F : List D → Ou D}
end
structure OpK (P : Program) (w : World) (K : PySem.W.Frag) (mg : Str → Option Value) (base : Heap) (k : Nat) (c m : Str) (n : Nat) (F : List D → Ou D) : Prop where
  ex : ∃ (g : Addr) (fd : FuncData) (ps : List Str), Meth K (He.ga K c) m g ∧ FnOk P w K mg base (L2.CX P w) k g fd ps (spF K n F) ∧ Binds K fd ps []
def lenR : Ou D → Ou D
  | .ok (.int n) => if 0 ≤ n ∧ n < 9223372036854775808 then .ok (.int n) else .bad
  | _ => .bad
def dLenO (c : Str) (F : List D → Ou D) (f : DL.Env → Ou D) : DL.Env → Ou D := fun ρ => f ρ >>= fun d => if isIns c d = true then lenR (callR F [d]) else .bad
@[simp] theorem x_dLenO (ρ : DL.Env) (c : Str) (F : List D → Ou D) (f : DL.Env → Ou D) : dLenO c F f ρ = (f ρ >>= fun d => if isIns c d = true then lenR (callR F [d]) else .bad) := (rfl)
def rLenO (K : PySem.W.Frag) (c : Str) (F : List D → Ou D) : List V → Hp → VK → Prop := fun xs H Q => ∃ v, xs = [v] ∧ ∃ σ, InsF K c F v H (fun z H' => ∃ n : Int, z = .int n ∧ (0 ≤ n ∧ n < 2 ^ 63) ∧ Q z H') (WE W0 σ)
section
variable {X : Cx} {W : WX} {k j n : Nat} {e a b : Expr} {f g : DL.Env → Ou D} {pos p : Pos} {c : Str} {F : List D → Ou D}
def dOp2 (c : Str) (F : List D → Ou D) (f g : DL.Env → Ou D) : DL.Env → Ou D := fun ρ => f ρ >>= fun x => g ρ >>= fun y => if (isIns c x && isIns c y) = true then callR F [x, y] else .bad
@[simp] theorem x_dOp2 (ρ : DL.Env) (c : Str) (F : List D → Ou D) (f g : DL.Env → Ou D) : dOp2 c F f g ρ = (f ρ >>= fun x => g ρ >>= fun y => if (isIns c x && isIns c y) = true then callR F [x, y] else .bad) := (rfl)
def InsF2 (K : PySem.W.Frag) (c : Str) (F : List D → Ou D) (v u : V) (H : Hp) (Q : VK) (E : XK) : Prop := ∃ a dx fs b dy gs, v = .ref a ∧ H a = some (.ins (He.ga K c) dx fs) ∧ u = .ref b ∧ H b = some (.ins (He.ga K c) dy gs) ∧ spF K 2 F [.ref a, .ref b] H Q E
end
def isiOD (t : List (Str × Bool)) : D → Option Bool
  | .ins c _ _ => t.lookup c
  | .non => some false
  | .int _ => some false
  | .bl _ => some false
  | .str _ => some false
  | .tup _ => some false
  | .lst _ _ => some false
  | _ => none
end DL
namespace DL
open PySem PySem.Spec PyProof.Rows L2 ClX
variable [Tb]
section
variable {P : Program} {w : World} {K : PySem.W.Frag} {mg : Str → Option Value} {base : Heap} {j k n np : Nat} {c m f x : Str} {F : List D → Ou D} {fd : FuncData} {ps ks fs : List Str} {ds : List D}
def chkCm (c m : Str) : Chk := fun K => PySem.W.readsIn K (He.ga K c) (.type "type") && (ooV (PySem.W.specialIn K (.ref (He.ga K c)) "__getattribute__") (some (some (.builtin "type.__getattribute__"))) && (He5.wrapB K (He.ga K c) "classmethod" "classmethod.__get__" m && PySem.W.fnIn K (He5.wf K (He.ga K c) "classmethod" m)))
theorem CmK.of {ms : List (Str × V)} (h : chkCm c m K = true) (ok : FnOk P w K mg base (L2.CX P w) k (He5.wf K (He.ga K c) "classmethod" m) fd ps (spF K n F)) (hb : ∃ mv : List Value, KBn K fd ps (np + 1) ks (fun us ws => us ++ (ws ++ mv)) (fun vs zs => vs ++ (zs ++ ms.map (·.2))))
    (hd : ∀ Z H, Dens K (He.ga K) Z H ds (ms.map (·.2)) []) (hn : np + 1 + (ks.length + ds.length) = n) : CmK P w K mg base k c m np ks ds F := by
  obtain ⟨h1, h⟩ := band h
  obtain ⟨h2, h⟩ := band h
  obtain ⟨h3, h4⟩ := band h
  obtain ⟨w1, w2⟩ := He5.wrapB_ok h3
  obtain ⟨mv, hb⟩ := hb
  subst hn
  exact ⟨.type "type", He.ma K (He.ga K c) m, He5.wf K (He.ga K c) "classmethod" m, fd, ps, ms.map (·.2), _, ⟨h1, of_decide_eq_true h2⟩, ⟨w1, w2, h4⟩, ok, hb, hd⟩
theorem CmK.plain (h : chkCm c m K = true) (ok : MOk P w K mg base k (He5.wf K (He.ga K c) "classmethod" m) fd ps n F) (hn : n = ps.length) (hp : np + 1 = n) : CmK P w K mg base k c m np [] [] F := by
  subst hp
  exact CmK.of (ms := []) (n := np + 1) h ok.1 ⟨[], KBn.plain ok.2 hn⟩ (fun _ _ => ⟨rfl, rfl⟩) rfl
def chkPr (c f : Str) : Chk := fun K => clsB K (He.ga K c) && (ooV (PySem.W.findIn K (.ref (He.ga K c)) f) (some (some (.ref (He.ma K (He.ga K c) f)))) && (ooV (PySem.W.specialIn K (.ref (He.ma K (He.ga K c) f)) "__get__") (some (some (.builtin "property.__get__"))) &&
  (obB (PySem.W.takesIn K (.ref (He.ma K (He.ga K c) f))) (some true) && (match PySem.W.recIn K (He.ma K (He.ga K c) f) "property" with
    | some (.ref _ :: _) => true
    | _ => false))))
theorem PrK.of (h : chkPr c f K = true) (ok : MOk P w K mg base k (He5.wf K (He.ga K c) "property" f) fd ps 1 F) : PrK P w K mg base k c f F := by
  obtain ⟨h1, h⟩ := band h
  obtain ⟨h2, h⟩ := band h
  obtain ⟨h3, h⟩ := band h
  obtain ⟨h4, h5⟩ := band h
  refine ⟨He.ma K (He.ga K c) f, He5.wf K (He.ga K c) "property" f, fd, ps, clsB_ok h1, ⟨of_decide_eq_true h2, of_decide_eq_true h3, of_decide_eq_true h4, ?_⟩, ok.1, ok.2⟩
  unfold He5.wf
  split at h5
  · rename_i g r e
    exact ⟨r, by rw [e]⟩
  · cases h5
theorem OpK.of (h : (He.Fa.meth c m).ok K = true) (ok : MOk P w K mg base k (He.fAd K (c, some m)) fd ps n F) : OpK P w K mg base k c m n F := ⟨He.fAd K (c, some m), fd, ps, He.meth_ok h, ok.1, ok.2⟩
def chkSelf (c : Str) : Chk := fun K => PySem.W.selfFirst K (He.ga K c)
theorem FldOk.one (h : chkMk c fs K = true) (hf : f ∈ fs) : FldOk K f [c] := fun c' hc => by
  rw [List.mem_singleton.mp hc]
  exact ⟨chkMk_cls h, chkMk_no h hf⟩
end
def isiNames : List String := ["NoneType", "int", "bool", "str", "tuple", "list"]
def chkIsi (x : Str) (t : HTab) : Chk := fun K => (t.all fun p => clsB K (He.ga K p.1) && (ooV (PySem.W.findIn K (.ref (He.ga K p.1)) "__class__") (some (some (.builtin "object.__class__"))) && (ooV (PySem.W.specialIn K (.builtin "object.__class__") "__get__") (some (some (.builtin "getset_descriptor.__get__"))) &&
  (obB (PySem.W.takesIn K (.builtin "object.__class__")) (some true) && (obB (PySem.W.mroIn K (He.ga K p.1) (.type "object")) (some true) && obB (PySem.W.kitOne K (.ref (He.ga K p.1)) (.ref (He.ga K x))) (some p.2)))))) &&
  isiNames.all fun T => obB (PySem.W.kitOne K (.type T) (.ref (He.ga K x))) (some false)
def dIsiO (t : HTab) (f : Env → Ou D) : Env → Ou D := fun ρ => f ρ >>= fun d => ofO ((isiOD t d).map .bl)
@[simp] theorem x_dIsiO (ρ : Env) (t : HTab) (f : Env → Ou D) : dIsiO t f ρ = (f ρ >>= fun d => ofO ((isiOD t d).map .bl)) := (rfl)
end DL
namespace DL
open PySem PySem.Spec PyProof.Rows L2 ClX
variable [Tb]
def cvalB (K : PySem.W.Frag) (C : Addr) (f : Str) (v : Kv) : Bool := PySem.W.readsIn K C (.type "type") && (ooV (PySem.W.specialIn K (.ref C) "__getattribute__") (some (some (.builtin "type.__getattribute__"))) && (match PySem.W.findCls K (.ref C) (.type "type") f with
  | some (.val u) => conV K u v
  | _ => false))
def chkCv (f : Str) (t : KTab) : Chk := fun K => t.all fun p => cvalB K (He.ga K p.1) f p.2
def cvD (t : KTab) : D → Option D
  | .cls c => (t.lookup c).map Kv.d
  | _ => none
section
variable {X : Cx} {W : WX} {e : Expr} {f : Env → Ou D} {pos : Pos} {fl : Str}
end
end DL
namespace DL
open PySem PySem.Spec PyProof.Rows L2
variable [Tb]
def compG2 (j : Nat) (tt : DL.Env → Ou Bool) (fi1 : DL.Env → Ou (List D)) (j1 : Nat) (vs1 : List Nat) (tt1 : DL.Env → Ou Bool) (te : DL.Env → Ou D) (ρ : DL.Env) : List D → List D → Option (List D)
  | [], acc => some acc
  | d :: ds, acc => if j < ρ.length then
      match tt (ρ.set j (some d)) with
      | .ok true => match fi1 (ρ.set j (some d)) with
        | .ok es => match compG j1 tt1 te (wipeE (ρ.set j (some d)) vs1) es acc with
          | some acc' => compG2 j tt fi1 j1 vs1 tt1 te ρ ds acc'
          | none => none
        | _ => none
      | .ok false => compG2 j tt fi1 j1 vs1 tt1 te ρ ds acc
      | _ => none
    else none
def dLc2 (fi : DL.Env → Ou (List D)) (j : Nat) (vs : List Nat) (tt : DL.Env → Ou Bool) (fi1 : DL.Env → Ou (List D)) (j1 : Nat) (vs1 : List Nat) (tt1 : DL.Env → Ou Bool) (te : DL.Env → Ou D) : DL.Env → Ou D :=
  fun ρ => fi ρ >>= fun ds => ofO ((compG2 j tt fi1 j1 vs1 tt1 te (wipeE ρ vs) ds []).map (D.lst true))
@[simp] theorem x_dLc2 (ρ : DL.Env) (fi : DL.Env → Ou (List D)) (j : Nat) (vs : List Nat) (tt : DL.Env → Ou Bool) (fi1 : DL.Env → Ou (List D)) (j1 : Nat) (vs1 : List Nat) (tt1 : DL.Env → Ou Bool) (te : DL.Env → Ou D) :
    dLc2 fi j vs tt fi1 j1 vs1 tt1 te ρ = (fi ρ >>= fun ds => ofO ((compG2 j tt fi1 j1 vs1 tt1 te (wipeE ρ vs) ds []).map (D.lst true))) := (rfl)
section
variable {X : Cx} {W : WX} {k : Nat} {tg iter tg1 iter1 : Expr} {pos : Pos}
end
end DL
namespace DL
open PySem PySem.Spec PyProof.Rows L2
variable [Tb]
def Al (y x : Nat) (σ : L2.St) (H : Hp) (ρ : DL.Env) : Prop := ∀ j, ρ[y]? = some (some (.adr j)) → ∃ a b vs, σ[x]? = some (some (.ref a)) ∧ H a = some (.lst vs) ∧ vs[j]? = some (.ref b) ∧ σ[y]? = some (some (.ref b))
section
variable {K : PySem.W.Frag} {cl : Str → Addr} {Z H Z' H' Z0 H0 Z1 H1 : Hp} {σ : L2.St} {ρ : DL.Env} {W : WX}
theorem Al.gr {y x : Nat} (al : Al y x σ H ρ) (e : Ex H H') : Al y x σ H' ρ := fun j hj => by
  obtain ⟨a, b, vs, h1, h2, h3, h4⟩ := al j hj
  exact ⟨a, b, vs, h1, e.l h2, h3, h4⟩
theorem Al.none {y x : Nat} (h : ρ[y]? = some none) : Al y x σ H ρ := fun j hj => by rw [h] at hj; cases hj
theorem Sta.ne2 {i j : Nat} {xs ys : List D} {a b : Addr} {vs : List V} (s : Sta K cl Z0 H0 Z H σ ρ) (e : ρ[i]? = some (some (.lst true xs))) (e2 : xs[j]? = some (.lst true ys)) (h1 : σ[i]? = some (some (.ref a))) (h2 : H a = some (.lst vs)) (h3 : vs[j]? = some (.ref b)) : a ≠ b := by
  obtain ⟨fp, sl, nd, fr⟩ := s.e
  obtain ⟨v, f, rest0, k1, k2, k3, k4⟩ := sl.split e
  rw [h1] at k1
  have := Option.some.inj (Option.some.inj k1)
  subst this
  simp only [Den] at k2
  obtain ⟨a', vs', fq0, e1, ef, za, q, r⟩ := k2
  cases e1
  rw [h2] at q
  cases q
  obtain ⟨u, f2, rest1, m1, m2, m3, m4⟩ := Dens.split r e2
  rw [h3] at m1
  cases m1
  simp only [Den] at m2
  obtain ⟨b', ws, fq, e3, ef2, zb, qb, rb⟩ := m2
  cases e3
  subst ef ef2
  have nd2 := k3.nodup_iff.mp nd
  have nd3 := (List.nodup_append.mp nd2).1
  have nd4 := List.nodup_cons.mp nd3
  intro c
  exact nd4.1 (c ▸ m3.symm.mem_iff.mp (List.mem_append_left _ List.mem_cons_self))
def PostSV (K : PySem.W.Frag) (cl : Str → Addr) (W : WX) (Z0 H0 : Hp) (y x : Nat) (E : Ends) (r : Os) : Prop := match r with
  | .nx ρ => ∀ σ Z H, Sta K cl Z0 H0 Z H σ ρ → Al y x σ H ρ → E.nx σ H
  | .rt d => PostS K cl W Z0 H0 E (.rt d)
  | .bk ρ => PostS K cl W Z0 H0 E (.bk ρ)
  | .ct ρ => PostS K cl W Z0 H0 E (.ct ρ)
  | .ex c ns xs ρ => PostS K cl W Z0 H0 E (.ex c ns xs ρ)
  | .bad => False
theorem PostSV.of {y x : Nat} {E : Ends} {r : Os} (q : PostS K cl W Z0 H0 E r) : PostSV K cl W Z0 H0 y x E r := by
  cases r with
  | nx ρ => exact fun σ Z H s _ => q σ Z H s
  | _ => exact q
def tSV (K : PySem.W.Frag) (cl : Str → Addr) (W : WX) (Z0 H0 : Hp) (y x : Nat) (g : DL.Env → Os) : TS := fun E σ H => ∃ Z ρ, Sta K cl Z0 H0 Z H σ ρ ∧ Al y x σ H ρ ∧ PostSV K cl W Z0 H0 y x E (g ρ)
end
structure DSV (X : Cx) (W : WX) (y x : Nat) (st : Stmt) (g : DL.Env → Os) : Prop where
  run : ∀ Z0 H0, PS X st (tSV X.K (He.ga X.K) W Z0 H0 y x g)
structure DSVs (X : Cx) (W : WX) (y x : Nat) (st : List Stmt) (g : DL.Env → Os) : Prop where
  run : ∀ Z0 H0, PSs X st (tSV X.K (He.ga X.K) W Z0 H0 y x g)
def sView (y x : Nat) (g : DL.Env → Ou D) (k : DL.Env → Os) : DL.Env → Os := fun ρ => match ρ[x]? with
  | some (some (.lst true xs)) => ofU (g ρ) ρ fun kk => match kk with
    | .int n => match ixN xs.length n with
      | some j => match xs[j]? with
        | some (.lst true ys) => if y < ρ.length then k (ρ.set y (some (.adr j))) else .bad
        | _ => .bad
      | none => .bad
    | _ => .bad
  | _ => .bad
def viewOf (y x : Nat) (ρ : DL.Env) : Option (Nat × List D × List D) := match ρ[y]? with
  | some (some (.adr j)) => match ρ[x]? with
    | some (some (.lst true xs)) => match xs[j]? with
      | some (.lst true ys) => some (j, xs, ys)
      | _ => none
    | _ => none
  | _ => none
def sSetV (y x : Nat) (g f : DL.Env → Ou D) : DL.Env → Os := fun ρ => ofU (f ρ) ρ fun d => match viewOf y x ρ with
  | some (j, xs, ys) => ofU (g ρ) ρ fun kk => match kk with
    | .int n => match ixN ys.length n with
      | some i => .nx (ρ.set x (some (.lst true (xs.set j (.lst true (ys.set i d))))))
      | none => .bad
    | _ => .bad
  | none => .bad
def sAppV (y x : Nat) (f : DL.Env → Ou D) : DL.Env → Os := fun ρ => match viewOf y x ρ with
  | some (j, xs, ys) => ofU (f ρ) ρ fun d => if ys.length < LIM then .nx (ρ.set x (some (.lst true (xs.set j (.lst true (ys ++ [d])))))) else .bad
  | none => .bad
def sAppX (y x : Nat) (f : DL.Env → Ou D) : DL.Env → Os := sApp x f
def sSetX (y x : Nat) (g f : DL.Env → Ou D) : DL.Env → Os := fun ρ => match viewOf y x ρ with
  | some (j, xs, ys) => ofU (f ((ρ.set x (some (.lst true (xs.set j (.adr 0))))).set y (some (.lst true ys)))) ρ fun d => ofU (g ρ) ρ fun kk => match kk with
    | .int n => match ixN xs.length n with
      | some i => .nx ((ρ.set x (some (.lst true (xs.set i d)))).set y none)
      | none => .bad
    | _ => .bad
  | none => .bad
def fgt (y : Nat) (k : DL.Env → Os) : DL.Env → Os := fun ρ => match k ρ with
  | .nx ρ' => .nx (ρ'.set y none)
  | r => r
def noNx (g : DL.Env → Os) : DL.Env → Os := fun ρ => match g ρ with
  | .nx _ => .bad
  | r => r
@[simp] theorem x_noNx (g : DL.Env → Os) (ρ : DL.Env) : noNx g ρ = (match g ρ with | .nx _ => .bad | r => r) := (rfl)
@[simp] theorem x_fgt (y : Nat) (g : DL.Env → Os) (ρ : DL.Env) : fgt y g ρ = (match g ρ with | .nx ρ' => .nx (ρ'.set y none) | r => r) := (rfl)
@[simp] theorem x_sView {y x : Nat} {g : DL.Env → Ou D} {k : DL.Env → Os} {ρ : DL.Env} {xs : List D} (h : ρ[x]? = some (some (.lst true xs))) : sView y x g k ρ = ofU (g ρ) ρ fun kk => match kk with
    | .int n => match ixN xs.length n with
      | some j => match xs[j]? with
        | some (.lst true ys) => if y < ρ.length then k (ρ.set y (some (.adr j))) else .bad
        | _ => .bad
      | none => .bad
    | _ => .bad := by
  unfold sView
  rw [h]
section
variable {X : Cx} {W : WX} {st : Stmt} {rest : List Stmt} {e c : Expr} {f g : DL.Env → Ou D} {k h : DL.Env → Os} {p : DL.Env → Ou Bool} {pos : Pos} {y x : Nat}
theorem viewOf_inv {ρ : DL.Env} {j : Nat} {xs ys : List D} (e : viewOf y x ρ = some (j, xs, ys)) : ρ[y]? = some (some (.adr j)) ∧ ρ[x]? = some (some (.lst true xs)) ∧ xs[j]? = some (.lst true ys) := by
  unfold viewOf at e
  split at e
  · split at e
    · split at e
      · rename_i h1 _ _ h2 _ _ h3
        cases e
        exact ⟨h1, h2, h3⟩
      · cases e
    · cases e
  · cases e
theorem DSVs.nil : DSVs X W y x [] sNil := ⟨fun Z0 H0 => PSs.weak pss_nil fun E σ H ⟨Z, ρ, s, al, q⟩ => q σ Z H s al⟩
theorem DSVs.cons (h1 : DSV X W y x st k) (h2 : DSVs X W y x rest h) : DSVs X W y x (st :: rest) (sSeq k h) := by
  refine ⟨fun Z0 H0 => PSs.weak (pss_cons (h1.run Z0 H0) (h2.run Z0 H0)) fun E σ H hq => ?_⟩
  obtain ⟨Z, ρ, s, al, q⟩ := hq
  refine ⟨Z, ρ, s, al, ?_⟩
  unfold sSeq at q
  cases e : k ρ with
  | nx ρ' =>
    rw [e] at q
    exact fun σ' Z' H' s' al' => ⟨Z', ρ', s', al', q⟩
  | rt d => rw [e] at q; exact q
  | bk ρ' => rw [e] at q; exact q
  | ct ρ' => rw [e] at q; exact q
  | ex c ns xs ρ' => rw [e] at q; exact q
  | bad => rw [e] at q; exact q
theorem DSVs.one (h1 : DSV X W y x st k) : DSVs X W y x [st] k := ⟨fun Z0 H0 => pss_one (h1.run Z0 H0)⟩
theorem DSV.if_ {body els : List Stmt} (hc : DT X W c p) (ha : DSVs X W y x body k) (hb : DSVs X W y x els h) : DSV X W y x (.If c body els pos) (sIf p k h) := by
  refine ⟨fun Z0 H0 => PS.weak (ps_if hc.run (ha.run Z0 H0) (hb.run Z0 H0)) fun E σ H hq => ?_⟩
  obtain ⟨Z, ρ, s, al, q⟩ := hq
  refine ⟨Z, ρ, s.rel, ?_⟩
  unfold sIf at q
  cases ec : p ρ with
  | ok d =>
    rw [ec] at q
    intro Z' H' g1
    cases d with
    | true => exact ⟨Z', ρ, s.gr g1, al.gr g1.h, q⟩
    | false => exact ⟨Z', ρ, s.gr g1, al.gr g1.h, q⟩
  | ex c ns xs => rw [ec] at q; exact fun dc Z' H' g1 x => q dc σ Z' H' (s.gr g1) x
  | bad => rw [ec] at q; exact q
theorem DSs.view (y x : Nat) {xn yn : Str} {p1 p2 pos' : Pos} {ix : Expr} (hix : DB X W ix g) (nd : X.N.Nodup) (hr : DSVs X W y x rest k) (hyx : y ≠ x := by decide) (hi : X.N[y]? = some yn := by rfl) (hx : Loc X.env.scope yn := by first | exact Or.inl rfl | exact Or.inr rfl)
    (hN : X.N[x]? = some xn := by rfl) (hv : Vis X.env.scope xn := by first | exact Or.inl rfl | exact Or.inr (Or.inl rfl) | exact Or.inr (Or.inr rfl)) (hd : (xn == ("__debug__" : Str)) = false := by decide)
    (hcd : (xn == ("__classdict__" : Str)) = false := by decide) (hp : PlainIx ix := by exact fun _ _ => rfl) (hs : swapsWith (.Subscript (.Name xn p1) ix p2) (some (.Name yn pos')) pos.line X.env = pure false := by rfl)
    (hf : X.fn yn = true ∨ X.env.scope.names.lookup yn = some .local := by first | exact .inl rfl | exact .inr rfl | assumption) :
    DSs X W (.Assign [.Name yn pos'] (.Subscript (.Name xn p1) ix p2) pos :: rest) (sView y x g k) := by
  refine ⟨fun Z0 H0 => PSs.weak (pss_cons (ps_set (i := y) nd hi hx (pe_ix ix_seq (pv x hN hv hd hcd) hix.run hp) hs hf) (hr.run Z0 H0)) fun E σ H hq => ?_⟩
  obtain ⟨Z, ρ, s, q⟩ := hq
  unfold sView at q
  split at q
  · rename_i xs ec
    obtain ⟨l0, vs0, _, _, h1, h2, _⟩ := s.list ec
    refine ⟨.ref l0, h1, Z, ρ, s.rel, ?_⟩
    cases eg : g ρ with
    | ok kk =>
      rw [eg] at q
      intro w Z2 H2 fw g2 dw
      cases kk with
      | int n =>
        have q : PostS X.K (He.ga X.K) W Z0 H0 E (match ixN xs.length n with
          | some j => match xs[j]? with
            | some (.lst true ys) => if y < ρ.length then k (ρ.set y (some (.adr j))) else .bad
            | _ => .bad
          | none => .bad) := q
        split at q
        · rename_i j ej
          split at q
          · rename_i ys ey
            split at q
            · rename_i c
              have s2 := s.gr g2
              obtain ⟨l, vs, b, ws, fq, rs, m1, m2, m3, m4, m5, m6, m7, m8, m9⟩ := s2.list2 ec ey
              have el : l = l0 := by
                rw [h1] at m1
                have := Option.some.inj (Option.some.inj m1)
                cases this; rfl
              subst el
              rw [dw.1]
              have lσ : y < σ.length := by
                obtain ⟨fp, sl, _⟩ := s.e
                rw [sl.length]; exact c
              refine .inl ⟨l, vs, n, .ref b, rfl, rfl, .inl (.inl m2), atI_of m3 ej m4, Z2, ρ.set y (some (.adr j)), s2.set (v := .ref b) (fp := []) (Gr.refl s2.g.s) ⟨⟨b, rfl⟩, rfl⟩ List.nodup_nil (fun _ z => nomatch z) c, fun j' hj' => ?_, ?_⟩
              · rw [List.getElem?_set_self c] at hj'
                cases hj'
                exact ⟨l, b, vs, by rw [List.getElem?_set_ne hyx]; exact m1, m2, m4, List.getElem?_set_self lσ⟩
              · exact PostSV.of q
            · exact q.elim
          · exact q.elim
        · exact q.elim
      | _ => exact q.elim
    | ex c ns xs => rw [eg] at q; exact fun dc Z' H' g1 x => q dc σ Z' H' (s.gr g1) x
    | bad => rw [eg] at q; exact q
  · exact q.elim
theorem Sta.view {K : PySem.W.Frag} {cl : Str → Addr} {Z0 H0 Z H : Hp} {σ : L2.St} {ρ : DL.Env} {j : Nat} {xs ys : List D} (s : Sta K cl Z0 H0 Z H σ ρ) (al : Al y x σ H ρ) (ev : viewOf y x ρ = some (j, xs, ys)) :
    ∃ (a : Addr) (vs : List V) (b : Addr) (ws : List V) (fq rest : Fp), σ[x]? = some (some (.ref a)) ∧ H a = some (.lst vs) ∧ a ≠ b ∧ vs[j]? = some (.ref b) ∧ σ[y]? = some (some (.ref b)) ∧ H b = some (.lst ws) ∧ Dens K cl Z H ys ws fq ∧ (b :: (fq ++ rest)).Nodup ∧
      (∀ c ∈ b :: (fq ++ rest), H c ≠ none ∧ H0 c = none ∧ Z c = none) ∧
      ∀ (Z1 H1 : Hp) (ws' : List V) (ys' : List D) (fq' : Fp), Gr Z H Z1 H1 → fq'.Nodup → (∀ c ∈ fq', c ≠ b ∧ c ∉ rest ∧ H0 c = none) → Dens K cl Z1 (upd H1 b (.lst ws')) ys' ws' fq' →
        Sta K cl Z0 H0 Z1 (upd H1 b (.lst ws')) σ (ρ.set x (some (.lst true (xs.set j (.lst true ys'))))) := by
  obtain ⟨e1, e2, e3⟩ := viewOf_inv ev
  obtain ⟨l, vs, b, ws, fq, rs, m1, m2, m3, m4, m5, m6, m7, m8, m9⟩ := s.list2 e2 e3
  have ne := s.ne2 e2 e3 m1 m2 m4
  obtain ⟨a', b', vs', h1, h2, h3, h4⟩ := al j e1
  rw [h1] at m1
  have := Option.some.inj (Option.some.inj m1)
  cases this
  rw [h2] at m2
  cases m2
  rw [h3] at m4
  cases m4
  exact ⟨l, vs, b, ws, fq, rs, h1, h2, ne, h3, h4, m5, m6, m7, m8, m9⟩
theorem DSV.set (i : Nat) {xn : Str} {pos' : Pos} (he : DE X W e f) (hN : X.N.Nodup) (hiy : i ≠ y := by decide) (hix : i ≠ x := by decide) (hi : X.N[i]? = some xn := by rfl) (hx : Loc X.env.scope xn := by first | exact Or.inl rfl | exact Or.inr rfl) (hs : swapsWith e (some (.Name xn pos')) pos.line X.env = pure false := by rfl)
    (hf : X.fn xn = true ∨ X.env.scope.names.lookup xn = some .local := by first | exact .inl rfl | exact .inr rfl | assumption) : DSV X W y x (.Assign [.Name xn pos'] e pos) (sSet i f) := by
  refine ⟨fun Z0 H0 => PS.weak (ps_set (i := i) hN hi hx he.run hs hf) fun E σ H hq => ?_⟩
  obtain ⟨Z, ρ, s, al, q⟩ := hq
  refine ⟨Z, ρ, s.rel, ?_⟩
  unfold sSet at q
  cases ec : f ρ with
  | ok d =>
    rw [ec] at q
    intro v Z' H' fp g1 dn nd fr
    have q : PostSV X.K (He.ga X.K) W Z0 H0 y x E (if i < ρ.length then .nx (ρ.set i (some d)) else .bad) := q
    by_cases c : i < ρ.length
    · rw [if_pos c] at q
      refine q _ Z' H' (s.set g1 dn nd fr c) fun j' hj' => ?_
      rw [List.getElem?_set_ne hiy] at hj'
      obtain ⟨a, b, vs, k1, k2, k3, k4⟩ := (al.gr g1.h) j' hj'
      exact ⟨a, b, vs, by rw [List.getElem?_set_ne hix]; exact k1, k2, k3, by rw [List.getElem?_set_ne hiy]; exact k4⟩
    · rw [if_neg c] at q; exact q.elim
  | ex c ns xs => rw [ec] at q; exact fun dc Z' H' g1 x => q dc σ Z' H' (s.gr g1) x
  | bad => rw [ec] at q; exact q
end
end DL
namespace DL
open PySem PySem.Spec PyProof.Rows L2 ClX
variable [Tb]
section
variable {Z Y H : Hp} {fp : Fp}
theorem cutH_sub : Ex (cutH Z fp) Z := .sub fun a o e => by
  unfold cutH at e
  split at e
  · cases e
  · exact e
theorem cutH_in {a : Addr} (h : a ∈ fp) : cutH Z fp a = none := if_pos h
theorem cutH_out {a : Addr} (h : a ∉ fp) : cutH Z fp a = Z a := if_neg h
theorem cutH_ex (e : Ex Z Y) (hl : ∀ a ∈ fp, ∃ xs : Mo, Y a = some xs.o) : Ex (cutH Z fp) (cutH Y fp) := (cutH_sub.trans e).chg fun a => by
  by_cases m : a ∈ fp
  · exact .inr ⟨cutH_in m, hl a m⟩
  · exact .inl (cutH_out m)
theorem cutH_kk (hl : ∀ a ∈ fp, ∃ xs : Mo, Y a = some xs.o) : ∀ a, cutH Y fp a = Y a ∨ (cutH Y fp a = none ∧ ∃ xs : Mo, Y a = some xs.o) := fun a => by
  by_cases m : a ∈ fp
  · exact .inr ⟨cutH_in m, hl a m⟩
  · exact .inl (cutH_out m)
end
structure StaJ (K : PySem.W.Frag) (cl : Str → Addr) (c : Str) (a dx : Addr) (Z0 H0 : Hp) (fp0 : Fp) (Z H : Hp) (σ : L2.St) (ρ : DL.Env) (ns : List Str) (ds : List D) (cb : Bool) : Prop where
  b : StaI K cl c a dx Z0 H0 Z H σ ρ ns ds
  l0 : ∀ x ∈ fp0, ∃ xs : Mo, Z0 x = some xs.o
  cu : cb = true → ∃ vs, H a = some (.ins (cl c) dx (ns.zip vs)) ∧ Dens K cl (cutH Z fp0) H ds vs []
section
variable {K : PySem.W.Frag} {cl : Str → Addr} {c : Str} {a dx : Addr} {Z0 H0 Z H Z' H' : Hp} {fp0 : Fp} {σ : L2.St} {ρ : DL.Env} {ns : List Str} {ds : List D} {cb : Bool}
theorem StaJ.lz (s : StaJ K cl c a dx Z0 H0 fp0 Z H σ ρ ns ds cb) : ∀ x ∈ fp0, ∃ xs : Mo, Z x = some xs.o := fun x hx => by
  obtain ⟨xs, e⟩ := s.l0 x hx
  exact ⟨xs, s.b.g.z.l e⟩
theorem StaJ.gr (s : StaJ K cl c a dx Z0 H0 fp0 Z H σ ρ ns ds cb) (g : Gr Z H Z' H') : StaJ K cl c a dx Z0 H0 fp0 Z' H' σ ρ ns ds cb := by
  refine ⟨s.b.gr g, s.l0, fun hc => ?_⟩
  obtain ⟨vs, i1, i2⟩ := s.cu hc
  refine ⟨vs, g.h.l i1, Dens.mono (cutH_ex g.z fun x hx => ?_) ds vs [] (fun _ z => nomatch z) i2⟩
  obtain ⟨xs, e⟩ := s.lz x hx
  exact ⟨xs, g.z.l e⟩
theorem StaJ.put {f : Str} {d : D} {v : V} {fp : Fp} (s : StaJ K cl c a dx Z0 H0 fp0 Z H σ ρ ns ds cb) (g : Gr Z H Z' H') (dn : Den K cl Z' H' d v fp) (nd : fp.Nodup) (fr : ∀ b ∈ fp, H b = none) (hf : f ∉ ns) :
    ∃ fs, H' a = some (.ins (cl c) dx fs) ∧ fs.length = ns.length ∧ StaJ K cl c a dx Z0 H0 fp0 (frzH Z' H' fp) (upd H' a (.ins (cl c) dx (putF f v fs))) σ ρ (ns ++ [f]) (ds ++ [d.frz]) (cb && d.cln) := by
  obtain ⟨fs, e1, e2, s'⟩ := s.b.put (f := f) g dn nd fr hf
  refine ⟨fs, e1, e2, s', s.l0, fun hc => ?_⟩
  obtain ⟨hc1, hc2⟩ := band hc
  obtain ⟨vs, i1, i2⟩ := s.cu hc1
  have ia : H' a = some (.ins (cl c) dx (ns.zip vs)) := g.h.l i1
  have efs : fs = ns.zip vs := by
    rw [ia] at e1
    cases e1
    rfl
  have lv : ns.length = vs.length := s.b.l.trans i2.length.symm
  have own : ∀ b ∈ fp, Z' b = none := fun b hb => (Den.own d v fp dn b hb).1
  have lo : ∀ b ∈ fp, ∃ xs : Mo, H' b = some xs.o := fun b hb => (Den.own d v fp dn b hb).2
  have ez := frzH_ex (H := H') own
  have lz' : ∀ x ∈ fp0, ∃ xs : Mo, Z' x = some xs.o := fun x hx => by
    obtain ⟨xs, e⟩ := s.lz x hx
    exact ⟨xs, g.z.l e⟩
  have nfp : ∀ x ∈ fp0, x ∉ fp := fun x hx hm => by
    obtain ⟨xs, e⟩ := s.lz x hx
    have := s.b.g.s.l e
    rw [fr x hm] at this
    cases this
  have lzf : ∀ x ∈ fp0, ∃ xs : Mo, frzH Z' H' fp x = some xs.o := fun x hx => by
    obtain ⟨xs, e⟩ := lz' x hx
    exact ⟨xs, (if_neg (nfp x hx)).trans e⟩
  refine ⟨vs ++ [v], ?_, ?_⟩
  · rw [upd_same, efs, zip_put hf lv]
  · refine Dens.append (f := []) (g := []) (Dens.mono (cutH_ex (g.z.trans ez) lzf) ds vs [] (fun _ z => nomatch z) i2) (Dens.one ?_)
    have dc := Den.clean (cutH_kk lz') d v fp hc2 dn
    exact Den.freeze (cutH_ex ez lzf) d v fp (fun b hb => (cutH_out fun hm => nfp b hm hb).trans (if_pos hb)) dc
end
def clO (o : Ou (List D)) : Bool := match o with
  | .ok es => D.clns es
  | _ => false
def PostJ (K : PySem.W.Frag) (cl : Str → Addr) (W : WX) (c : Str) (a dx : Addr) (Z0 H0 : Hp) (fp0 : Fp) (σ : L2.St) (ρ : DL.Env) (ns : List Str) (ds : List D) (cb : Bool) (fs : List Str) (o o0 : Ou (List D)) (E : Ends) : Prop := match o with
  | .ok es => ∀ Z H, StaJ K cl c a dx Z0 H0 fp0 Z H σ ρ (ns ++ fs) (ds ++ es) (cb && clO o0) → E.nx σ H
  | .ex c ns xs => ∀ dc Z H, Gr Z0 H0 Z H → ExD K cl Z H ns xs dc → W (.ref (cl c)) dc σ H
  | .bad => False
structure DSJ (X : Cx) (W : WX) (c : Str) (st : List Stmt) (fs : List Str) (t t0 : DL.Env → Ou (List D)) : Prop where
  run : ∀ (a dx : Addr) (Z0 H0 : Hp) (fp0 : Fp) (ns : List Str) (ds : List D) (cb : Bool), (∀ f ∈ fs, f ∉ ns) → ns.length + fs.length < 1000 →
    PSs X st fun E σ H => ∃ Z ρ, StaJ X.K (He.ga X.K) c a dx Z0 H0 fp0 Z H σ ρ ns ds cb ∧ PostJ X.K (He.ga X.K) W c a dx Z0 H0 fp0 σ ρ ns ds cb fs (t ρ) (t0 ρ) E
def iFldU (g : DL.Env → Ou D) (t : DL.Env → Ou (List D)) : DL.Env → Ou (List D) := fun ρ => g ρ >>= fun d => t ρ >>= fun es => .ok (d :: es)
@[simp] theorem x_iFldU (ρ : DL.Env) (g : DL.Env → Ou D) (t : DL.Env → Ou (List D)) : iFldU g t ρ = (g ρ >>= fun d => t ρ >>= fun es => .ok (d :: es)) := (rfl)
section
variable {X : Cx} {W : WX} {c f sf : Str} {st : List Stmt} {fs : List Str} {g : DL.Env → Ou D} {t t0 : DL.Env → Ou (List D)} {e : Expr} {p1 p2 p3 pos : Pos}
theorem DSJ.nil : DSJ X W c [] [] iNil iNil := ⟨fun a dx Z0 H0 fp0 ns ds cb _ _ => PSs.weak pss_nil fun E σ H hq => by
  obtain ⟨Z, ρ, s, q⟩ := hq
  have q : ∀ Z H, StaJ X.K (He.ga X.K) c a dx Z0 H0 fp0 Z H σ ρ (ns ++ []) (ds ++ []) (cb && true) → E.nx σ H := q
  rw [List.append_nil, List.append_nil, Bool.and_true] at q
  exact q Z H s⟩
theorem DSJ.drop (he : DE X W e g) (h : DSJ X W c st fs t t0) (hs : swapsWith e none pos.line X.env = pure false := by rfl) : DSJ X W c (.Expr e pos :: st) fs (iDrop g t) (iDrop g t0) := by
  refine ⟨fun a dx Z0 H0 fp0 ns ds cb h1 h2 => PSs.weak (pss_cons (ps_expr he.run hs) (h.run a dx Z0 H0 fp0 ns ds cb h1 h2)) fun E σ H hq => ?_⟩
  obtain ⟨Z, ρ, s, q⟩ := hq
  refine ⟨Z, ρ, s.b.rel, ?_⟩
  unfold iDrop at q
  cases ec : g ρ with
  | ok d =>
    rw [ec] at q
    exact fun v Z' H' fp g1 dn nd fr => ⟨Z', ρ, s.gr g1, q⟩
  | ex cn ns xs => rw [ec] at q; exact fun dc Z' H' g1 x => q dc Z' H' (s.b.g.trans g1) x
  | bad => rw [ec] at q; exact q
end
def PostFJ (K : PySem.W.Frag) (cl : Str → Addr) (Z H : Hp) (fp0 : Fp) (o : Ou D) (cb : Bool) (Q : VK) (E : XK) : Prop := match o with
  | .ok d => ∀ v Z' H', Gr Z H Z' H' → Den K cl Z' H' d v [] → (cb = true → Den K cl (cutH Z' fp0) H' d v []) → Q v H'
  | .ex c ns xs => ∀ dc Z' H', Gr Z H Z' H' → ExD K cl Z' H' ns xs dc → E (.ref (cl c)) dc H'
  | .bad => False
def spFJ (K : PySem.W.Frag) (n : Nat) (F : List D → Ou D) (C : List D → Bool) : Sp := fun vs H Q E => vs.length = n ∧ ∃ Z ds fp0, Ex Z H ∧ TabsK K Z ∧ Dens K (He.ga K) Z H ds vs [] ∧ (∀ x ∈ fp0, ∃ xs : Mo, Z x = some xs.o) ∧ PostFJ K (He.ga K) Z H fp0 (F ds) (C ds) Q E
def spJ (K : PySem.W.Frag) (c : Str) (n : Nat) (F : List D → Ou D) (C : List D → Bool) : Sp := fun vs H Q E => ∃ a dx ws H0, vs = .ref a :: ws ∧ ws.length = n ∧ H = upd (upd H0 dx (.own a)) a (.ins (He.ga K c) dx []) ∧ H0 a = none ∧ H0 dx = none ∧ dx ≠ a ∧ spFJ K n F C ws H0 (fun v H' => v = .ref a → Q .non H') E
def runC (n : Nat) (t0 : DL.Env → Ou (List D)) (ds : List D) : Bool := clO (t0 (some (.adr 0) :: (ds.map some ++ List.replicate (n - (ds.length + 1)) none)))
structure DnJ (P : Program) (w : World) (K : PySem.W.Frag) (mg : Str → Option Value) (base : Heap) (k : Nat) (c : Str) (n : Nat) (F : List D → Ou D) (C : List D → Bool) : Prop where
  ex : ∃ (f : Addr) (fd : FuncData) (ps : List Str), Mk K (He.ga K c) f ∧ FnOk P w K mg base (L2.CX P w) k f fd ps (spJ K c n F C) ∧ Binds K fd ps []
theorem DnJ.of {P : Program} {w : World} {K : PySem.W.Frag} {mg : Str → Option Value} {base : Heap} {k n : Nat} {c : Str} {F : List D → Ou D} {C : List D → Bool} {fd : FuncData} {ps fs : List Str} (h : chkMk c fs K = true) (ok : FnOk P w K mg base (L2.CX P w) k (He.fAd K (c, some "__init__")) fd ps (spJ K c n F C)) (hb : Binds K fd ps []) : DnJ P w K mg base k c n F C :=
  ⟨_, fd, ps, chkMk_mk h, ok, hb⟩
def callRJ (F : List D → Ou D) (C : List D → Bool) (ds : List D) : Ou D := match F (D.frzs ds) with
  | .ok d => if D.fzs ds || d.cln || (C (D.frzs ds) && d.fz) then .ok d else .bad
  | .ex c ns xs => if D.fzs ds || D.clns xs then .ex c ns xs else .bad
  | .bad => .bad
def dCallJ (F : List D → Ou D) (C : List D → Bool) (t : DL.Env → Ou (List D)) : DL.Env → Ou D := fun ρ => t ρ >>= callRJ F C
@[simp] theorem x_dCallJ (ρ : DL.Env) (F : List D → Ou D) (C : List D → Bool) (t : DL.Env → Ou (List D)) : dCallJ F C t ρ = (t ρ >>= callRJ F C) := (rfl)
theorem spFJ.mono {K : PySem.W.Frag} {n : Nat} {F : List D → Ou D} {C : List D → Bool} {vs : List V} {H : Hp} {Q Q' : VK} {E : XK} (k : ∀ v H', Q v H' → Q' v H') (h : spFJ K n F C vs H Q E) : spFJ K n F C vs H Q' E := by
  obtain ⟨hl, Z, ds, fp0, ez, tk, dn, lf, q⟩ := h
  refine ⟨hl, Z, ds, fp0, ez, tk, dn, lf, ?_⟩
  cases e : F ds with
  | ok d => rw [e] at q; exact fun v Z' H' g h1 h2 => k v H' (q v Z' H' g h1 h2)
  | ex c ns xs => rw [e] at q; exact q
  | bad => rw [e] at q; exact q.elim
section
variable {X : Cx} {W : WX} {k j n : Nat} {e : Expr} {es : List Expr} {t : DL.Env → Ou (List D)} {pos p : Pos} {x : Str} {F : List D → Ou D} {Cn : List D → Bool}
end
end DL
namespace DL
open PySem PySem.Spec PyProof.Rows L2
variable [Tb]
def sMvN (m i : Nat) : Env → Os := fun ρ => match ρ[i]? with
  | some (some (.lst true xs)) => if m < ρ.length then .nx ((ρ.set i (some (.adr 0))).set m (some (.lst true xs))) else .bad
  | _ => .bad
section
variable {K : PySem.W.Frag} {cl : Str → Addr} {Z0 H0 Z H : Hp} {σ : L2.St} {ρ : Env}
end
section
variable {X : Cx} {W : WX} {pos : Pos}
end
end DL
namespace DL
open PySem PySem.Spec PyProof.Rows L2
variable [Tb]
def frzO : Option D → Option D := fun o => o.map D.frz
def frzE (ρ : Env) : Env := ρ.map frzO
@[simp] theorem frzE_nil : frzE [] = [] := (rfl)
@[simp] theorem frzE_cons (o : Option D) (ρ : Env) : frzE (o :: ρ) = frzO o :: frzE ρ := (rfl)
@[simp] theorem frzO_none : frzO none = none := (rfl)
@[simp] theorem frzO_some (d : D) : frzO (some d) = some d.frz := (rfl)
section
variable {K : PySem.W.Frag} {cl : Str → Addr} {Z H Z' H' Z0 H0 : Hp} {σ : L2.St}
theorem Slots.frzAll {Y : Hp} (e : Ex Z Y) : ∀ {ρ : Env} {σ : L2.St} {fp : Fp}, (∀ a ∈ fp, Y a = H a) → Slots K cl Z H ρ σ fp → Slots K cl Y H' (frzE ρ) σ []
  | [], _, _, _, h => ⟨h.1, rfl⟩
  | none :: ρ, σ, fp, k, h => by
    obtain ⟨o, σ', e1, r⟩ := h
    exact ⟨o, σ', e1, Slots.frzAll e k r⟩
  | some d :: ρ, σ, fp, k, h => by
    obtain ⟨v, σ', f1, f2, e1, e2, q, r⟩ := h
    subst e2
    exact ⟨v, σ', [], [], e1, rfl, Den.freeze e d v f1 (fun a ha => k a (List.mem_append_left _ ha)) q, Slots.frzAll e (fun a ha => k a (List.mem_append_right _ ha)) r⟩
theorem Gr.thaw {fp : Fp} {Z2 H2 : Hp} (own : ∀ a ∈ fp, Z a = none) (own2 : ∀ a ∈ fp, ∃ xs : Mo, H a = some xs.o) (g : Gr (frzH Z H fp) H Z2 H2) :
    Gr Z H (cutH Z2 fp) H2 ∧ ∀ a, cutH Z2 fp a = Z2 a ∨ (cutH Z2 fp a = none ∧ ∃ xs : Mo, Z2 a = some xs.o) := by
  have ez := frzH_ex (H := H) own
  refine ⟨⟨(ez.trans g.z).chg fun a => ?_, g.h, cutH_sub.trans g.s, fun a h1 h2 => ?_⟩, fun a => ?_⟩
  · by_cases hm : a ∈ fp
    · obtain ⟨xs, e⟩ := own2 a hm
      exact .inr ⟨own a hm, xs, g.z.l ((if_pos hm).trans e)⟩
    · exact .inl (if_neg hm)
  · by_cases hm : a ∈ fp
    · exact if_pos hm
    · exact (if_neg hm).trans (g.n a h1 ((if_neg hm).trans h2))
  · by_cases hm : a ∈ fp
    · obtain ⟨xs, e⟩ := own2 a hm
      exact .inr ⟨if_pos hm, xs, g.z.l ((if_pos hm).trans e)⟩
    · exact .inl (if_neg hm)
theorem Slots.own1 {ρ : Env} {fp : Fp} (h : Slots K cl Z H ρ σ fp) : ∀ a ∈ fp, Z a = none := fun a ha => (Slots.own h a ha).1
theorem Slots.own2 {ρ : Env} {fp : Fp} (h : Slots K cl Z H ρ σ fp) : ∀ a ∈ fp, ∃ xs : Mo, H a = some xs.o := fun a ha => (Slots.own h a ha).2
end
def dSnap (f : Env → Ou D) : Env → Ou D := fun ρ => match f (frzE ρ) with
  | .ok d => if d.cln then .ok d else .bad
  | .ex c ns xs => if D.clns xs then .ex c ns xs else .bad
  | .bad => .bad
def bSnap (f : Env → Ou Bool) : Env → Ou Bool := fun ρ => match f (frzE ρ) with
  | .ok d => .ok d
  | .ex c ns xs => if D.clns xs then .ex c ns xs else .bad
  | .bad => .bad
section
variable {X : Cx} {W : WX} {e : Expr} {f : Env → Ou D} {b : Env → Ou Bool}
end
section
variable {K : PySem.W.Frag} {cl : Str → Addr} {Z H Z' H' Z0 H0 : Hp}
theorem Slots.out1 : ∀ {ρ : Env} {σ : L2.St} {fp : Fp} {i : Nat} {d : D}, Slots K cl Z H ρ σ fp → ρ[i]? = some (some d) →
    ∃ (v : V) (f rest : Fp), σ[i]? = some (some v) ∧ Den K cl Z H d v f ∧ fp.Perm (f ++ rest) ∧ Slots K cl Z H (ρ.set i none) σ rest
  | [], _, _, _, _, _, e => by simp at e
  | none :: ρ, σ, fp, 0, d, h, e => by simp at e
  | none :: ρ, σ, fp, i + 1, d, h, e => by
    obtain ⟨o, σ', e1, r⟩ := h
    subst e1
    obtain ⟨v, f, rest, h1, h2, h3, h4⟩ := Slots.out1 (i := i) r (by simpa using e)
    exact ⟨v, f, rest, by simpa using h1, h2, h3, o, σ', rfl, h4⟩
  | some x :: ρ, σ, fp, 0, d, h, e => by
    obtain ⟨v, σ', f1, f2, e1, e2, q, r⟩ := h
    have e' : x = d := by simpa using e
    subst e' e1 e2
    exact ⟨v, f1, f2, rfl, q, List.Perm.refl _, some v, σ', rfl, r⟩
  | some x :: ρ, σ, fp, i + 1, d, h, e => by
    obtain ⟨v, σ', f1, f2, e1, e2, q, r⟩ := h
    subst e1 e2
    obtain ⟨u, f, rest, h1, h2, h3, h4⟩ := Slots.out1 (i := i) r (by simpa using e)
    refine ⟨u, f, f1 ++ rest, by simpa using h1, h2, ?_, v, σ', f1, rest, rfl, rfl, q, h4⟩
    refine (List.Perm.append_left f1 h3).trans ?_
    rw [← List.append_assoc, ← List.append_assoc]
    exact List.Perm.append_right rest List.perm_append_comm
theorem Slots.in1 : ∀ {ρ : Env} {σ : L2.St} {rest : Fp} {i : Nat} {d : D} {v : V} {f : Fp}, Slots K cl Z H ρ σ rest → ρ[i]? = some none → σ[i]? = some (some v) → Den K cl Z H d v f →
    ∃ fp', Slots K cl Z H (ρ.set i (some d)) σ fp' ∧ fp'.Perm (f ++ rest)
  | [], _, _, _, _, _, _, _, e, _, _ => by simp at e
  | none :: ρ, σ, fp, 0, d, v, f, h, e, e2, q => by
    obtain ⟨o, σ', e1, r⟩ := h
    subst e1
    have e3 : o = some v := by simpa using e2
    subst e3
    exact ⟨f ++ fp, ⟨v, σ', f, fp, rfl, rfl, q, r⟩, List.Perm.refl _⟩
  | none :: ρ, σ, fp, i + 1, d, v, f, h, e, e2, q => by
    obtain ⟨o, σ', e1, r⟩ := h
    subst e1
    obtain ⟨fp', h1, h2⟩ := Slots.in1 (i := i) r (by simpa using e) (by simpa using e2) q
    exact ⟨fp', ⟨o, σ', rfl, h1⟩, h2⟩
  | some x :: ρ, σ, fp, 0, d, v, f, h, e, e2, q => by simp at e
  | some x :: ρ, σ, fp, i + 1, d, v, f, h, e, e2, q => by
    obtain ⟨u, σ', f1, f2, e1, e3, q1, r⟩ := h
    subst e1 e3
    obtain ⟨fp', h1, h2⟩ := Slots.in1 (i := i) r (by simpa using e) (by simpa using e2) q
    refine ⟨f1 ++ fp', ⟨u, σ', f1, fp', rfl, rfl, q1, h1⟩, ?_⟩
    refine (List.Perm.append_left f1 h2).trans ?_
    rw [← List.append_assoc, ← List.append_assoc]
    exact List.Perm.append_right f2 List.perm_append_comm
end
def takeL : List Nat → Env → Option (List D × Env)
  | [], ρ => some ([], ρ)
  | i :: io, ρ => match ρ[i]? with
    | some (some d) => (takeL io (ρ.set i none)).map fun p => (d :: p.1, p.2)
    | _ => none
def putL : List Nat → List D → Env → Env
  | i :: io, d :: ds, ρ => putL io ds (ρ.set i (some d))
  | _, _, ρ => ρ
def ValsAt (σ : L2.St) : List Nat → List V → Prop
  | [], vs => vs = []
  | i :: io, vs => ∃ v vr, vs = v :: vr ∧ σ[i]? = some (some v) ∧ ValsAt σ io vr
section
variable {K : PySem.W.Frag} {cl : Str → Addr} {Z H Z' H' Z0 H0 : Hp} {σ : L2.St}
theorem takeL_none : ∀ {io : List Nat} {ρ ρ' : Env} {ds : List D}, takeL io ρ = some (ds, ρ') → ρ'.length = ρ.length ∧ (∀ i : Nat, ρ[i]? = some none → ρ'[i]? = some none) ∧ (∀ i ∈ io, ρ'[i]? = some none) ∧ (∀ i ∈ io, ρ[i]? ≠ some none) ∧ io.Nodup
  | [], ρ, ρ', ds, h => by
    cases h
    exact ⟨rfl, fun _ h => h, by simp, by simp, List.nodup_nil⟩
  | i :: io, ρ, ρ', ds, h => by
    unfold takeL at h
    split at h
    · rename_i d e
      match e2 : takeL io (ρ.set i none) with
      | none => rw [e2] at h; cases h
      | some (ds2, ρ2) =>
        rw [e2] at h
        cases h
        obtain ⟨h1, h2, h3, h4, h5⟩ := takeL_none e2
        have li : i < ρ.length := by
          rcases Nat.lt_or_ge i ρ.length with h | h
          · exact h
          · rw [List.getElem?_eq_none h] at e; cases e
        refine ⟨by rw [h1, List.length_set], fun j hj => h2 j ?_, fun j hj => ?_, fun j hj => ?_, List.nodup_cons.mpr ⟨fun hm => h4 i hm ?_, h5⟩⟩
        · by_cases c : i = j
          · subst c; rw [e] at hj; cases hj
          · rw [List.getElem?_set_ne c]; exact hj
        · rcases List.mem_cons.mp hj with c | c
          · subst c
            exact h2 j (by rw [List.getElem?_set_self li])
          · exact h3 j c
        · rcases List.mem_cons.mp hj with c | c
          · subst c; rw [e]; exact fun z => nomatch z
          · have := h4 j c
            by_cases c2 : i = j
            · subst c2; rw [e]; exact fun z => nomatch z
            · rw [List.getElem?_set_ne c2] at this; exact this
        · rw [List.getElem?_set_self li]
    · cases h
theorem Slots.outs : ∀ {io : List Nat} {ρ ρ' : Env} {ds : List D} {fp : Fp}, takeL io ρ = some (ds, ρ') → Slots K cl Z H ρ σ fp →
    ∃ vs fi fo, fp.Perm (fi ++ fo) ∧ ValsAt σ io vs ∧ Dens K cl Z H ds vs fi ∧ Slots K cl Z H ρ' σ fo
  | [], ρ, ρ', ds, fp, h, s => by
    cases h
    exact ⟨[], [], fp, List.Perm.refl _, rfl, ⟨rfl, rfl⟩, s⟩
  | i :: io, ρ, ρ', ds, fp, h, s => by
    unfold takeL at h
    split at h
    · rename_i d e
      match e2 : takeL io (ρ.set i none) with
      | none => rw [e2] at h; cases h
      | some (ds2, ρ2) =>
        rw [e2] at h
        cases h
        obtain ⟨v, f, rest, h1, h2, h3, h4⟩ := s.out1 e
        obtain ⟨vs, fi, fo, k1, k2, k3, k4⟩ := Slots.outs e2 h4
        exact ⟨v :: vs, f ++ fi, fo, by
          rw [List.append_assoc]
          exact h3.trans (List.Perm.append_left f k1), ⟨v, vs, rfl, h1, k2⟩, Dens.cons h2 k3, k4⟩
    · cases h
theorem Slots.ins : ∀ {io : List Nat} {ρ : Env} {ds : List D} {vs : List V} {fi fo : Fp}, (∀ i ∈ io, ρ[i]? = some none) → io.Nodup → ValsAt σ io vs → Dens K cl Z H ds vs fi → Slots K cl Z H ρ σ fo →
    ∃ fp, Slots K cl Z H (putL io ds ρ) σ fp ∧ fp.Perm (fi ++ fo)
  | [], ρ, ds, vs, fi, fo, _, _, hv, hd, s => by
    have hv : vs = [] := hv
    subst hv
    cases ds with
    | nil =>
      have : fi = [] := hd.2
      subst this
      exact ⟨fo, s, List.Perm.refl _⟩
    | cons d ds => exact absurd hd.length (by simp)
  | i :: io, ρ, ds, vs, fi, fo, hn, nd, hv, hd, s => by
    obtain ⟨v, vr, e1, e2, hv⟩ := hv
    subst e1
    cases ds with
    | nil => exact absurd hd.length (by simp)
    | cons d ds =>
      obtain ⟨u, ur, f1, f2, e3, e4, q, r⟩ := hd.cons'
      cases e3
      subst e4
      obtain ⟨nd1, nd2⟩ := List.nodup_cons.mp nd
      obtain ⟨fp1, s1, p1⟩ := s.in1 (hn i List.mem_cons_self) e2 q
      obtain ⟨fp2, s2, p2⟩ := Slots.ins (io := io) (ρ := ρ.set i (some d)) (fun j hj => by
        rw [List.getElem?_set_ne (fun (c : i = j) => nd1 (c ▸ hj))]
        exact hn j (List.mem_cons_of_mem _ hj)) nd2 hv r s1
      refine ⟨fp2, s2, p2.trans ?_⟩
      refine (List.Perm.append_left f2 p1).trans ?_
      rw [← List.append_assoc]
      exact List.Perm.append_right fo List.perm_append_comm
end
end DL
namespace DL
open PySem PySem.Spec PyProof.Rows L2
variable [Tb]
def adr1 (a : Addr) : D → D
  | .own _ c ns xs => .own (some a) c ns xs
  | .lst true xs => .lsa a xs
  | .lsa _ xs => .lsa a xs
  | d => d
def adrL : List Addr → List D → List D
  | a :: as, d :: ds => adr1 a d :: adrL as ds
  | _, _ => []
def can : D → Option D
  | .own _ c ns xs => some (.own none c ns xs)
  | .lst true xs => some (.lst true xs)
  | .lsa _ xs => some (.lst true xs)
  | _ => none
def canL : List D → Option (List D)
  | [] => some []
  | d :: ds => match can d, canL ds with
    | some c, some cs => some (c :: cs)
    | _, _ => none
def back : D → D → D
  | .own oa _ _ _, .own none c ns xs => .own oa c ns xs
  | .lsa a _, .lst true xs => .lsa a xs
  | _, d => d
def backL : List D → List D → List D
  | x :: xs, d :: ds => back x d :: backL xs ds
  | _, _ => []
section
variable {K : PySem.W.Frag} {cl : Str → Addr} {Z H Z' H' Z0 H0 : Hp} {σ : L2.St}
theorem Den.adr1 {d c : D} {v : V} {f : Fp} (hc : can d = some c) (h : Den K cl Z H d v f) : ∃ a, v = .ref a ∧ Den K cl Z H (adr1 a c) v f := by
  cases d with
  | own oa c1 ns xs =>
    cases hc
    simp only [Den] at h
    obtain ⟨a, dx, vs, fq, e0, e1, e2, z, q, m, l, r⟩ := h
    refine ⟨a, e1, ?_⟩
    unfold DL.adr1
    simp only [Den]
    exact ⟨a, dx, vs, fq, fun b hb => (Option.some.inj hb).symm, e1, e2, z, q, m, l, r⟩
  | lst o xs =>
    cases o with
    | false => cases hc
    | true =>
      cases hc
      simp only [Den] at h
      obtain ⟨a, vs, fq, e1, e2, z, q, r⟩ := h
      refine ⟨a, e1, ?_⟩
      unfold DL.adr1
      simp only [Den]
      exact ⟨vs, fq, e1, e2, z, q, r⟩
  | lsa a xs =>
    cases hc
    simp only [Den] at h
    obtain ⟨vs, fq, e1, e2, z, q, r⟩ := h
    refine ⟨a, e1, ?_⟩
    unfold DL.adr1
    simp only [Den]
    exact ⟨vs, fq, e1, e2, z, q, r⟩
  | _ => cases hc
theorem Dens.adrL : ∀ {ds cs : List D} {vs : List V} {f : Fp}, canL ds = some cs → Dens K cl Z H ds vs f → ∃ as : List Addr, as.length = cs.length ∧ vs = as.map V.ref ∧ Dens K cl Z H (adrL as cs) vs f
  | [], cs, vs, f, hc, h => by
    cases hc
    exact ⟨[], rfl, h.1, h⟩
  | d :: ds, cs, vs, f, hc, h => by
    unfold canL at hc
    cases e1 : can d with
    | none => rw [e1] at hc; cases hc
    | some c =>
      cases e2 : canL ds with
      | none => rw [e1, e2] at hc; cases hc
      | some cr =>
        rw [e1, e2] at hc
        cases hc
        obtain ⟨v, vr, f1, f2, e3, e4, q, r⟩ := h.cons'
        subst e3 e4
        obtain ⟨a, ea, qa⟩ := q.adr1 e1
        obtain ⟨as, el, ev, ra⟩ := Dens.adrL e2 r
        exact ⟨a :: as, by rw [List.length_cons, List.length_cons, el], by rw [ea, ev]; rfl, Dens.cons qa ra⟩
theorem Den.back {x d c : D} {v u : V} {a : Addr} {f g : Fp} {Y G : Hp} (hc : can d = some d) (hx : can x = some c) (h0 : Den K cl Y G x v g) (ev : v = .ref a) (h : Den K cl Z H (DL.adr1 a d) u f) : u = v ∧ Den K cl Z H (back x d) v f := by
  cases d with
  | own oa c1 ns xs =>
    have e0 : oa = none := by
      have := Option.some.inj hc
      injection this with h1
      exact h1.symm
    subst e0
    have h2 : Den K cl Z H (.own (some a) c1 ns xs) u f := h
    simp only [Den] at h2
    obtain ⟨b, dx, vs, fq, e0, e1, e2, z, q, m, l, r⟩ := h2
    have eb : a = b := e0 a rfl
    subst eb
    refine ⟨e1.trans ev.symm, ?_⟩
    cases x with
    | own ox cx nx yx =>
      unfold DL.back
      simp only [Den] at h0 ⊢
      obtain ⟨b, dx2, vs2, fq2, k0, k1, _⟩ := h0
      have eb : a = b := by rw [ev] at k1; cases k1; rfl
      subst eb
      exact ⟨a, dx, vs, fq, k0, ev, e2, z, q, m, l, r⟩
    | lst o ys =>
      have : DL.back (.lst o ys) (.own none c1 ns xs) = .own none c1 ns xs := rfl
      rw [this]
      simp only [Den]
      exact ⟨a, dx, vs, fq, by simp, ev, e2, z, q, m, l, r⟩
    | lsa b ys =>
      have : DL.back (.lsa b ys) (.own none c1 ns xs) = .own none c1 ns xs := rfl
      rw [this]
      simp only [Den]
      exact ⟨a, dx, vs, fq, by simp, ev, e2, z, q, m, l, r⟩
    | _ => cases hx
  | lst o xs =>
    cases o with
    | false => cases hc
    | true =>
      have h2 : Den K cl Z H (.lsa a xs) u f := h
      simp only [Den] at h2
      obtain ⟨vs, fq, e1, e2, z, q, r⟩ := h2
      refine ⟨e1.trans ev.symm, ?_⟩
      cases x with
      | own ox cx nx yx =>
        have : DL.back (.own ox cx nx yx) (.lst true xs) = .lst true xs := rfl
        rw [this]
        simp only [Den]
        exact ⟨a, vs, fq, ev, e2, z, q, r⟩
      | lst o ys =>
        have : DL.back (.lst o ys) (.lst true xs) = .lst true xs := by cases o <;> rfl
        rw [this]
        simp only [Den]
        exact ⟨a, vs, fq, ev, e2, z, q, r⟩
      | lsa b ys =>
        unfold DL.back
        simp only [Den] at h0 ⊢
        obtain ⟨vs2, fq2, k1, _⟩ := h0
        have eb : a = b := by rw [ev] at k1; cases k1; rfl
        subst eb
        exact ⟨vs, fq, ev, e2, z, q, r⟩
      | _ => cases hx
  | lsa b xs => cases hc
  | _ => cases hc
theorem Dens.back : ∀ {xs ds cs : List D} {vs us : List V} {as : List Addr} {f g : Fp} {Y G : Hp}, canL ds = some ds → canL xs = some cs → Dens K cl Y G xs vs g → vs = as.map V.ref → ds.length = xs.length → Dens K cl Z H (DL.adrL as ds) us f → us = vs ∧ Dens K cl Z H (backL xs ds) vs f
  | [], ds, cs, vs, us, as, f, g, Y, G, hc, hx, h0, ev, hl, h => by
    have e : ds = [] := List.length_eq_zero_iff.mp hl
    subst e
    have ev0 : vs = [] := h0.1
    subst ev0
    have ea : as = [] := by simpa using ev.symm
    subst ea
    exact ⟨h.1, rfl, h.2⟩
  | x :: xs, [], _, _, _, _, _, _, _, _, _, _, _, _, hl, _ => by cases hl
  | x :: xs, d :: ds, cs, vs, us, as, f, g, Y, G, hc, hx, h0, ev, hl, h => by
    obtain ⟨v, vr, g1, g2, k1, k2, q0, r0⟩ := h0.cons'
    subst k1 k2
    cases as with
    | nil => cases ev
    | cons a as =>
      have ev1 : v = .ref a ∧ vr = as.map V.ref := by simpa using ev
      have h2 : Dens K cl Z H (DL.adr1 a d :: DL.adrL as ds) us f := h
      obtain ⟨u, ur, f1, f2, e1, e2, q, r⟩ := h2.cons'
      subst e1 e2
      unfold canL at hc hx
      cases c1 : can d with
      | none => rw [c1] at hc; cases hc
      | some c =>
        cases c2 : canL ds with
        | none => rw [c1, c2] at hc; cases hc
        | some cr =>
          rw [c1, c2] at hc
          have hc' := Option.some.inj hc
          injection hc' with h5 h6
          subst h5 h6
          cases c3 : can x with
          | none => rw [c3] at hx; cases hx
          | some y =>
            cases c4 : canL xs with
            | none => rw [c3, c4] at hx; cases hx
            | some yr =>
              obtain ⟨a1, a2⟩ := Den.back c1 c3 q0 ev1.1 q
              obtain ⟨b1, b2⟩ := Dens.back c2 c4 r0 ev1.2 (Nat.succ.inj hl) r
              subst a1 b1
              exact ⟨rfl, Dens.cons a2 b2⟩
end
def mix {α : Type} : List Bool → List α → List α → List α
  | true :: b, i :: is, as => i :: mix b is as
  | false :: b, is, a :: as => a :: mix b is as
  | _, _, _ => []
def mixOk : List Bool → Nat → Nat → Bool
  | [], 0, 0 => true
  | true :: b, n + 1, m => mixOk b n m
  | false :: b, n, m + 1 => mixOk b n m
  | _, _, _ => false
section
variable {K : PySem.W.Frag} {cl : Str → Addr} {Z H Z' H' Z0 H0 : Hp} {σ : L2.St}
theorem Dens.mix : ∀ {b : List Bool} {is as : List D} {vs us : List V} {f : Fp}, mixOk b is.length as.length = true → Dens K cl Z H is vs f → Dens K cl Z H as us [] → Dens K cl Z H (DL.mix b is as) (DL.mix b vs us) f
  | [], is, as, vs, us, f, hm, hi, ha => by
    cases is with
    | cons => cases hm
    | nil => exact ⟨rfl, hi.2⟩
  | true :: b, [], as, vs, us, f, hm, hi, ha => by cases as <;> cases hm
  | true :: b, i :: is, as, vs, us, f, hm, hi, ha => by
    obtain ⟨v, vr, f1, f2, e1, e2, q, r⟩ := hi.cons'
    subst e1 e2
    exact Dens.cons q (Dens.mix hm r ha)
  | false :: b, is, [], vs, us, f, hm, hi, ha => by cases is <;> cases hm
  | false :: b, is, a :: as, vs, us, f, hm, hi, ha => by
    obtain ⟨v, vr, f1, f2, e1, e2, q, r⟩ := ha.cons'
    obtain ⟨e3, e4⟩ := List.append_eq_nil_iff.mp e2.symm
    subst e1 e3 e4
    exact Dens.cons (f := []) q (Dens.mix (b := b) hm hi r)
theorem mix_len {α : Type} : ∀ {b : List Bool} {is as : List α}, mixOk b is.length as.length = true → (mix b is as).length = b.length
  | [], is, as, h => rfl
  | true :: b, [], as, h => by cases as <;> cases h
  | true :: b, i :: is, as, h => by show (mix b is as).length + 1 = _; rw [mix_len (b := b) h]; rfl
  | false :: b, is, [], h => by cases is <;> cases h
  | false :: b, is, a :: as, h => by show (mix b is as).length + 1 = _; rw [mix_len (b := b) h]; rfl
end
def PostFM (K : PySem.W.Frag) (cl : Str → Addr) (Z H0 : Hp) (ios : List D) (ivs : List V) (o : Ou D) (Q : VK) (E : XK) : Prop := match o with
  | .ok d => PostV K cl Z H0 d Q
  | .ex c ns xs => ∀ dc Z' H' fp, Gr Z H0 Z' H' → ExD K cl Z' H' ns xs dc → Dens K cl Z' H' ios ivs fp → fp.Nodup → (∀ a ∈ fp, H0 a = none) → E (.ref (cl c)) dc H'
  | .bad => False
def spM (K : PySem.W.Frag) (b : List Bool) (F : List D → Ou D) : Sp := fun vs H Q E => vs.length = b.length ∧ ∃ Z as cs args avs fi, Ex Z H ∧ TabsK K Z ∧ canL cs = some cs ∧ as.length = cs.length ∧ mixOk b cs.length args.length = true ∧ vs = mix b (as.map V.ref) avs ∧
  Dens K (He.ga K) Z H (adrL as cs) (as.map V.ref) fi ∧ fi.Nodup ∧ Dens K (He.ga K) Z H args avs [] ∧ PostFM K (He.ga K) Z (cutH H fi) (adrL as cs) (as.map V.ref) (F (mix b (adrL as cs) args)) Q E
inductive MR where
  | ok (d : D) (os : List D)
  | ex (c : Str) (ns : List Str) (xs : List D)
  | bad
def isMR (b : List Bool) (F : List D → Ou D) (cs args : List D) (r : MR) : Prop := ∀ as : List Addr, as.length = cs.length → match r with
  | .ok d os => os.length = cs.length ∧ canL os = some os ∧ F (mix b (adrL as cs) args) = .ok (.wth d (adrL as os))
  | .ex c ns xs => F (mix b (adrL as cs) args) = .ex c ns xs
  | .bad => False
open Classical in
noncomputable def callM (b : List Bool) (F : List D → Ou D) (cs args : List D) : MR := if h : ∃ r, isMR b F cs args r then Classical.choose h else .bad
theorem callM_is {b : List Bool} {F : List D → Ou D} {cs args : List D} (h : callM b F cs args ≠ .bad) : isMR b F cs args (callM b F cs args) := by
  unfold callM at h ⊢
  split
  · rename_i hh
    exact Classical.choose_spec hh
  · rename_i hh
    rw [dif_neg hh] at h
    exact absurd rfl h
end DL
namespace DL
open PySem PySem.Spec PyProof.Rows L2
variable [Tb]
inductive OuM where
  | ok (d : D) (ρ : Env)
  | ex (c : Str) (ns : List Str) (xs : List D) (ρ : Env)
  | bad
def OuM.bind (o : OuM) (k : D → Env → OuM) : OuM := match o with
  | .ok d ρ => k d ρ
  | .ex c ns xs ρ => .ex c ns xs ρ
  | .bad => .bad
@[simp] theorem bindM_ok (d : D) (ρ : Env) (k : D → Env → OuM) : OuM.bind (.ok d ρ) k = k d ρ := (rfl)
@[simp] theorem bindM_ex (c : Str) (ns : List Str) (xs : List D) (ρ : Env) (k : D → Env → OuM) : OuM.bind (.ex c ns xs ρ) k = .ex c ns xs ρ := (rfl)
@[simp] theorem bindM_bad (k : D → Env → OuM) : OuM.bind .bad k = .bad := (rfl)
structure StaV (K : PySem.W.Frag) (cl : Str → Addr) (Z0 H0 Z H : Hp) (σ : L2.St) (ρ : Env) (d : D) (v : V) : Prop where
  g : Gr Z0 H0 Z H
  t : TabsK K Z
  e : ∃ fp fq, Slots K cl Z H ρ σ fp ∧ Den K cl Z H d v fq ∧ (fp ++ fq).Nodup ∧ ∀ a ∈ fp ++ fq, H0 a = none
def PostEM (K : PySem.W.Frag) (cl : Str → Addr) (W : WX) (Z0 H0 : Hp) (σ : L2.St) (o : OuM) (Q : VK) : Prop := match o with
  | .ok d ρ => ∀ v Z H, StaV K cl Z0 H0 Z H σ ρ d v → Q v H
  | .ex c ns xs ρ => ∀ dc Z H, Sta K cl Z0 H0 Z H σ ρ → ExD K cl Z H ns xs dc → W (.ref (cl c)) dc σ H
  | .bad => False
def tEM (K : PySem.W.Frag) (cl : Str → Addr) (W : WX) (Z0 H0 : Hp) (f : Env → OuM) : TE := fun σ H Q => ∃ Z ρ, Sta K cl Z0 H0 Z H σ ρ ∧ PostEM K cl W Z0 H0 σ (f ρ) Q
structure DEM (X : Cx) (W : WX) (e : Expr) (f : Env → OuM) : Prop where
  run : ∀ Z0 H0, PE X e (tEM X.K (He.ga X.K) W Z0 H0 f)
section
variable {K : PySem.W.Frag} {cl : Str → Addr} {Z H Z' H' Z0 H0 Z1 H1 Z2 H2 : Hp} {σ : L2.St} {ρ ρ1 : Env}
theorem StaV.sta {d : D} {v : V} (s : StaV K cl Z0 H0 Z H σ ρ d v) : Sta K cl Z0 H0 Z H σ ρ := by
  obtain ⟨g, t, fp, fq, h1, h2, h3, h4⟩ := s
  exact ⟨g, t, fp, h1, (List.nodup_append.mp h3).1, fun a ha => h4 a (List.mem_append_left _ ha)⟩
theorem StaV.gr {d : D} {v : V} (s : StaV K cl Z0 H0 Z H σ ρ d v) (g1 : Gr Z H Z' H') : StaV K cl Z0 H0 Z' H' σ ρ d v := by
  obtain ⟨g, t, fp, fq, h1, h2, h3, h4⟩ := s
  exact ⟨g.trans g1, t.ex g1.z, fp, fq, Slots.mono g1.z (fun a ha => by
    obtain ⟨z, xs, q⟩ := Slots.own h1 a ha
    exact ⟨g1.n a (by rw [q]; exact Option.some_ne_none _) z, by rw [q]; exact g1.h.l q⟩) h1, g1.den h2, h3, h4⟩
theorem adr1_cln (a : Addr) : ∀ d : D, (adr1 a d).cln = d.cln := by
  intro d
  cases d with
  | lst o xs => cases o <;> rfl
  | _ => rfl
theorem adrL_clns : ∀ {as : List Addr} {ds : List D}, as.length = ds.length → D.clns (adrL as ds) = D.clns ds
  | [], [], _ => rfl
  | a :: as, d :: ds, h => by
    show ((adr1 a d).cln && D.clns (adrL as ds)) = (d.cln && D.clns ds)
    rw [adr1_cln, adrL_clns (Nat.succ.inj h)]
  | [], d :: ds, h => by cases h
  | a :: as, [], h => by cases h
theorem can_can {d c : D} (h : can d = some c) : can c = some c := by
  cases d with
  | own oa c1 ns xs => cases h; rfl
  | lst o xs => cases o <;> cases h; rfl
  | lsa a xs => cases h; rfl
  | _ => cases h
theorem canL_can : ∀ {ds cs : List D}, canL ds = some cs → canL cs = some cs ∧ cs.length = ds.length
  | [], cs, h => by cases h; exact ⟨rfl, rfl⟩
  | d :: ds, cs, h => by
    unfold canL at h
    cases c1 : can d with
    | none => rw [c1] at h; cases h
    | some c =>
      cases c2 : canL ds with
      | none => rw [c1, c2] at h; cases h
      | some cr =>
        rw [c1, c2] at h
        cases h
        obtain ⟨k1, k2⟩ := canL_can c2
        exact ⟨by unfold canL; rw [can_can c1, k1], by rw [List.length_cons, List.length_cons, k2]⟩
theorem thawM {fp fi fo fa : Fp} (s : Sta K cl Z0 H0 Z H σ ρ) (hp : fp.Perm (fi ++ fo)) (nd : fp.Nodup) (fr : ∀ a ∈ fp, H0 a = none) (li : ∀ a ∈ fi, ∃ xs : Mo, H a = some xs.o) (so : Slots K cl Z H ρ1 σ fo)
    (g1 : Gr (frzH Z H fo) H Z1 H1) (own : ∀ a ∈ fa, Z1 a = none ∧ ∃ xs : Mo, H1 a = some xs.o) (fra : ∀ a ∈ fa, H a = none) (g2 : Gr (frzH Z1 H1 fa) (cutH H1 fi) Z2 H2) :
    Gr Z0 H0 (cutH Z2 (fo ++ fa)) H2 ∧ TabsK K (cutH Z2 (fo ++ fa)) ∧ Slots K cl (cutH Z2 (fo ++ fa)) H2 ρ1 σ fo ∧ ∀ a, cutH Z2 (fo ++ fa) a = Z2 a ∨ (cutH Z2 (fo ++ fa) a = none ∧ ∃ xs : Mo, Z2 a = some xs.o) := by
  have nd2 : (fi ++ fo).Nodup := hp.nodup_iff.mp nd
  have ndA := List.nodup_append.mp nd2
  have ezs := frzH_ex (H := H) so.own1
  have ezb := frzH_ex (H := H1) fun a ha => (own a ha).1
  have mofo : ∀ a ∈ fo, ∃ xs : Mo, Z2 a = some xs.o := fun a ha => by
    obtain ⟨xs, e⟩ := so.own2 a ha
    exact ⟨xs, g2.z.l (ezb.l (g1.z.l ((if_pos ha).trans e)))⟩
  have mofa : ∀ a ∈ fa, ∃ xs : Mo, Z2 a = some xs.o := fun a ha => by
    obtain ⟨xs, e⟩ := (own a ha).2
    exact ⟨xs, g2.z.l ((if_pos ha).trans e)⟩
  have moff : ∀ a ∈ fo ++ fa, ∃ xs : Mo, Z2 a = some xs.o := fun a ha => (List.mem_append.mp ha).elim (mofo a) (mofa a)
  have exff : ∀ {Y : Hp}, Ex Y Z → Ex Y (cutH Z2 (fo ++ fa)) := fun {Y} e => ((((e.trans ezs).trans g1.z).trans ezb).trans g2.z).chg fun a => by
    by_cases m : a ∈ fo ++ fa
    · refine .inr ⟨?_, moff a m⟩
      rcases List.mem_append.mp m with m | m
      · exact e.back (so.own1 a m)
      · exact e.back (s.g.s.back (fra a m))
    · exact .inl (if_neg m)
  have kk : ∀ a, cutH Z2 (fo ++ fa) a = Z2 a ∨ (cutH Z2 (fo ++ fa) a = none ∧ ∃ xs : Mo, Z2 a = some xs.o) := fun a => by
    by_cases m : a ∈ fo ++ fa
    · exact .inr ⟨if_pos m, moff a m⟩
    · exact .inl (if_neg m)
  have exZ : Ex Z (cutH Z2 (fo ++ fa)) := exff (Ex.refl _)
  have exH : Ex H0 (cutH H1 fi) := (s.g.h.trans g1.h).chg fun a => by
    by_cases m : a ∈ fi
    · obtain ⟨xs, e⟩ := li a m
      exact .inr ⟨fr a (hp.symm.mem_iff.mp (List.mem_append_left _ m)), xs, g1.h.l e⟩
    · exact .inl (if_neg m)
  refine ⟨⟨exff s.g.z, exH.trans g2.h, cutH_sub.trans g2.s, fun a h1 h2 => ?_⟩, s.t.ex exZ, ?_, kk⟩
  · by_cases m : a ∈ fo ++ fa
    · exact if_pos m
    · have nfo : a ∉ fo := fun z => m (List.mem_append_left _ z)
      have nfa : a ∉ fa := fun z => m (List.mem_append_right _ z)
      have z1 : Z a = none := s.g.n a h1 h2
      have z2 : Z1 a = none := g1.n a (s.g.h.ne a h1) ((if_neg nfo).trans z1)
      refine (if_neg m).trans (g2.n a (exH.ne a h1) ((if_neg nfa).trans z2))
  · refine Slots.mono exZ (fun a ha => ⟨if_pos (List.mem_append_left _ ha), ?_⟩) so
    obtain ⟨xs, e⟩ := so.own2 a ha
    have nfi : a ∉ fi := fun z => ndA.2.2 a z a ha rfl
    rw [e]
    exact g2.h.l ((if_neg nfi).trans (g1.h.l e))
end
noncomputable def afterM (b : List Bool) (F : List D → Ou D) (io : List Nat) (ios : List D) (ρ1 : Env) (ds : List D) : OuM := match canL ios with
  | none => .bad
  | some cs => match callM b F cs (D.frzs ds) with
    | .ok d os => if d.cln && D.clns os then .ok d (putL io (backL ios os) ρ1) else .bad
    | .ex c ns xs => if D.clns xs && D.clns cs then .ex c ns xs (putL io (backL ios cs) ρ1) else .bad
    | .bad => .bad
section
variable {K : PySem.W.Frag} {Z H Z' H' Z0 H0 Z1 H1 Z2 H2 : Hp} {σ : L2.St} {ρ ρ1 : Env} {W : WX}
theorem spM_of {b : List Bool} {F : List D → Ou D} {io : List Nat} {ios ds : List D} {ivs avs : List V} {fp fi fo fa : Fp} {Q : VK} (s : Sta K (He.ga K) Z0 H0 Z H σ ρ) (ht : takeL io ρ = some (ios, ρ1)) (hp : fp.Perm (fi ++ fo)) (nd : fp.Nodup) (fr : ∀ a ∈ fp, H0 a = none)
    (hv : ValsAt σ io ivs) (di : Dens K (He.ga K) Z H ios ivs fi) (so : Slots K (He.ga K) Z H ρ1 σ fo)
    (g1 : Gr (frzH Z H fo) H Z1 H1) (da : Dens K (He.ga K) Z1 H1 ds avs fa) (na : fa.Nodup) (fra : ∀ a ∈ fa, H a = none) (hm : mixOk b io.length ds.length = true)
    (q : PostEM K (He.ga K) W Z0 H0 σ (afterM b F io ios ρ1 ds) Q) : spM K b F (mix b ivs avs) H1 Q (WE W σ) := by
  have nd2 : (fi ++ fo).Nodup := hp.nodup_iff.mp nd
  have ndA := List.nodup_append.mp nd2
  have own : ∀ a ∈ fa, Z1 a = none ∧ ∃ xs : Mo, H1 a = some xs.o := Dens.own ds avs fa da
  have ezs := frzH_ex (H := H) so.own1
  have ezb := frzH_ex (H := H1) fun a ha => (own a ha).1
  have sZb : Ex (frzH Z1 H1 fa) H1 := frzH_to g1.s fun a ha => (own a ha).2
  have oi := Dens.own ios ivs fi di
  have li : ∀ a ∈ fi, ∃ xs : Mo, H a = some xs.o := fun a ha => (oi a ha).2
  have nfa : ∀ a ∈ fi, a ∉ fa := fun a ha hb => by
    obtain ⟨xs, e⟩ := li a ha
    rw [fra a hb] at e; cases e
  have d1 : Dens K (He.ga K) (frzH Z H fo) H ios ivs fi := Dens.mono ezs ios ivs fi (fun a ha => ⟨(if_neg fun z => ndA.2.2 a ha a z rfl).trans (oi a ha).1, rfl⟩) di
  have d2 := g1.dens d1
  have o2 := Dens.own ios ivs fi d2
  have d3 : Dens K (He.ga K) (frzH Z1 H1 fa) H1 ios ivs fi := Dens.mono ezb ios ivs fi (fun a ha => ⟨(if_neg (nfa a ha)).trans (o2 a ha).1, rfl⟩) d2
  have tkb : TabsK K (frzH Z1 H1 fa) := s.t.ex ((ezs.trans g1.z).trans ezb)
  unfold afterM at q
  cases hc : canL ios with
  | none => rw [hc] at q; exact q.elim
  | some cs =>
    rw [hc] at q
    dsimp only at q
    obtain ⟨hcc, hcl⟩ := canL_can hc
    obtain ⟨as, el, ev, da3⟩ := Dens.adrL hc d3
    subst ev
    have liv : ios.length = io.length := by
      have : ∀ {io : List Nat} {ρ ρ1 : Env} {ios : List D}, takeL io ρ = some (ios, ρ1) → ios.length = io.length := by
        intro io
        induction io with
        | nil => intro ρ ρ1 ios h; cases h; rfl
        | cons i io ih =>
          intro ρ ρ1 ios h
          unfold takeL at h
          split at h
          · rename_i d e
            match e2 : takeL io (ρ.set i none) with
            | none => rw [e2] at h; cases h
            | some (ds2, ρ2) =>
              rw [e2] at h
              cases h
              rw [List.length_cons, List.length_cons, ih e2]
          · cases h
      exact this ht
    have hm1 : mixOk b cs.length (D.frzs ds).length = true := by rw [hcl, liv, frzs_len]; exact hm
    have hm2 : mixOk b (as.map V.ref).length avs.length = true := by rw [List.length_map, el, hcl, liv, da.length]; exact hm
    refine ⟨mix_len hm2, frzH Z1 H1 fa, as, cs, D.frzs ds, avs, fi, sZb, tkb, hcc, el, hm1, rfl, da3, ndA.1, Dens.freeze ezb ds avs fa (fun a ha => if_pos ha) da, ?_⟩
    have pr : ∀ a, cutH H1 fi a = none → a ∈ fi ∨ H1 a = none := fun a e => by
      by_cases m : a ∈ fi
      · exact .inl m
      · exact .inr ((if_neg m).symm.trans e)
    have fr0 : ∀ a, cutH H1 fi a = none → H0 a = none := fun a e => (pr a e).elim (fun m => fr a (hp.symm.mem_iff.mp (List.mem_append_left _ m))) fun m => s.g.h.back (g1.h.back m)
    have nfo : ∀ a, cutH H1 fi a = none → a ∉ fo := fun a e hb => (pr a e).elim (fun m => ndA.2.2 a m a hb rfl) fun m => by
      obtain ⟨xs, e1⟩ := so.own2 a hb
      rw [g1.h.back m] at e1; cases e1
    have frfo : ∀ a ∈ fo, H0 a = none := fun a ha => fr a (hp.symm.mem_iff.mp (List.mem_append_right _ ha))
    obtain ⟨_, _, tn, _, tio⟩ := takeL_none ht
    cases hr : callM b F cs (D.frzs ds) with
    | bad => rw [hr] at q; exact q.elim
    | ok d os =>
      have r := callM_is (b := b) (F := F) (cs := cs) (args := D.frzs ds) (by rw [hr]; exact fun z => nomatch z)
      rw [hr] at r
      obtain ⟨r1, r2, r3⟩ := r as el
      rw [r3]
      rw [hr] at q
      have q : PostEM K (He.ga K) W Z0 H0 σ (if d.cln && D.clns os then .ok d (putL io (backL ios os) ρ1) else .bad) Q := q
      split at q
      · rename_i cc
        obtain ⟨cc1, cc2⟩ := Bool.and_eq_true_iff.mp cc
        intro v Z2 H2 fp2 g2 dn nd2 fr2
        simp only [Den] at dn
        obtain ⟨vs', f1, f2, e, dd, dos⟩ := dn
        subst e
        obtain ⟨k1, k2, k3, k4⟩ := thawM s hp nd fr li so g1 own fra g2
        have dd' := Den.clean k4 d v f1 cc1 dd
        have dos' := Dens.clean k4 (adrL as os) vs' f2 (by rw [adrL_clns (el.trans r1.symm)]; exact cc2) dos
        obtain ⟨_, dos2⟩ := Dens.back r2 hc d3 rfl (r1.trans hcl) dos'
        obtain ⟨fp3, s3, p3⟩ := Slots.ins (io := io) (ρ := ρ1) tn tio hv dos2 k3
        have ndq := List.nodup_append.mp nd2
        refine q v _ H2 ⟨k1, k2, fp3, f1, s3, dd', ?_, fun a ha => ?_⟩
        · have : (fp3 ++ f1).Perm (f1 ++ (f2 ++ fo)) := List.perm_append_comm.trans (List.Perm.append_left f1 p3)
          refine this.symm.nodup_iff.mp ?_
          rw [← List.append_assoc, List.nodup_append]
          exact ⟨nd2, ndA.2.1, fun a ha b hb e => nfo a (fr2 a ha) (e ▸ hb)⟩
        · rcases List.mem_append.mp ha with m | m
          · rcases List.mem_append.mp (p3.mem_iff.mp m) with m | m
            · exact fr0 a (fr2 a (List.mem_append_right _ m))
            · exact frfo a m
          · exact fr0 a (fr2 a (List.mem_append_left _ m))
      · exact q.elim
    | ex c ns xs =>
      have r := callM_is (b := b) (F := F) (cs := cs) (args := D.frzs ds) (by rw [hr]; exact fun z => nomatch z)
      rw [hr] at r
      have r3 : F (mix b (adrL as cs) (D.frzs ds)) = .ex c ns xs := r as el
      rw [r3]
      rw [hr] at q
      have q : PostEM K (He.ga K) W Z0 H0 σ (if D.clns xs && D.clns cs then .ex c ns xs (putL io (backL ios cs) ρ1) else .bad) Q := q
      split at q
      · rename_i cc
        obtain ⟨cc1, cc2⟩ := Bool.and_eq_true_iff.mp cc
        intro dc Z2 H2 f2 g2 x dos nd2 fr2
        obtain ⟨k1, k2, k3, k4⟩ := thawM s hp nd fr li so g1 own fra g2
        have dos' := Dens.clean k4 (adrL as cs) _ f2 (by rw [adrL_clns el]; exact cc2) dos
        obtain ⟨_, dos2⟩ := Dens.back hcc hc d3 rfl hcl dos'
        obtain ⟨fp3, s3, p3⟩ := Slots.ins (io := io) (ρ := ρ1) tn tio hv dos2 k3
        refine q dc _ H2 ⟨k1, k2, fp3, s3, ?_, fun a ha => ?_⟩ (ExD.clean k4 cc1 x)
        · refine p3.symm.nodup_iff.mp ?_
          rw [List.nodup_append]
          exact ⟨nd2, ndA.2.1, fun a ha b hb e => nfo a (fr2 a ha) (e ▸ hb)⟩
        · rcases List.mem_append.mp (p3.mem_iff.mp ha) with m | m
          · exact fr0 a (fr2 a m)
          · exact frfo a m
      · exact q.elim
end
end DL
namespace DL
open PySem PySem.Spec PyProof.Rows L2
variable [Tb]
def PostAL (K : PySem.W.Frag) (cl : Str → Addr) (W : WX) (Z H : Hp) (σ : L2.St) (b : List Bool) (io : List Nat) (o : Ou (List D)) (Q : List V → Hp → Prop) : Prop := match o with
  | .ok ds => ∀ ivs avs Z' H' fa, ValsAt σ io ivs → Gr Z H Z' H' → Dens K cl Z' H' ds avs fa → fa.Nodup → (∀ a ∈ fa, H a = none) → Q (mix b ivs avs) H'
  | .ex c ns xs => PostX K cl W Z H σ c ns xs
  | .bad => False
def tAL (K : PySem.W.Frag) (cl : Str → Addr) (W : WX) (b : List Bool) (io : List Nat) (t : Env → Ou (List D)) : TA := fun σ H Q => ∃ Z ρ, RelS K cl Z H σ ρ ∧ (∃ ivs, ValsAt σ io ivs) ∧ PostAL K cl W Z H σ b io (t ρ) Q
structure DAL (X : Cx) (W : WX) (es : List Expr) (b : List Bool) (io : List Nat) (t : Env → Ou (List D)) : Prop where
  run : PA X es (tAL X.K (He.ga X.K) W b io t)
  len : ∀ ρ ds, t ρ = .ok ds → mixOk b io.length ds.length = true
section
variable {X : Cx} {W : WX} {e : Expr} {es : List Expr} {f : Env → Ou D} {t : Env → Ou (List D)} {b : List Bool} {io : List Nat}
theorem DAL.nil : DAL X W [] [] [] aNil := by
  refine ⟨PA.weak pa_nil fun σ H Q ⟨Z, ρ, r, _, q⟩ => ?_, fun ρ ds e => by cases e; rfl⟩
  exact q [] [] Z H [] rfl (Gr.refl r.s) ⟨rfl, rfl⟩ List.nodup_nil fun _ z => nomatch z
theorem DAL.ex (h : DE X W e f) (hr : DAL X W es b io t) (hs : starEach (e :: es) X.env = (false, eval e X.env) :: starEach es X.env := by rfl) : DAL X W (e :: es) (false :: b) io (aCons f t) := by
  refine ⟨PA.weak (pa_cons h.run hr.run hs) fun σ H Q hq => ?_, fun ρ ds e => ?_⟩
  · obtain ⟨Z, ρ, r, vv, q⟩ := hq
    refine tD_bind (P := fun Z H o => PostAL X.K (He.ga X.K) W Z H σ (false :: b) io o Q) r (fun _ _ _ z => z) (fun z => z) q fun x v Z1 H1 fx ex g1 dx nx fx' q => ?_
    refine ⟨Z1, ρ, r.gr g1, vv, ?_⟩
    match e : t ρ with
    | .ok ds =>
      rw [e] at q
      refine fun ivs avs Z2 H2 fp hv g2 dn nd fr => q ivs (v :: avs) Z2 H2 (fx ++ fp) hv (g1.trans g2) (Dens.cons (g2.den dx) dn) ?_ fun a ha => ?_
      · rw [List.nodup_append]
        refine ⟨nx, nd, fun a ha b hb e => ?_⟩
        subst e
        obtain ⟨_, xs, q1⟩ := Den.own x v fx dx a ha
        rw [fr a hb] at q1; cases q1
      · rcases List.mem_append.mp ha with z | z
        · exact fx' a z
        · exact g1.h.back (fr a z)
    | .ex c ns xs => rw [e] at q; exact fun dc Z2 H2 g2 x => q dc Z2 H2 (g1.trans g2) x
    | .bad => rw [e] at q; exact q.elim
  · unfold aCons at e
    cases ef : f ρ with
    | ok x =>
      rw [ef] at e
      cases et : t ρ with
      | ok xs =>
        rw [et] at e
        cases e
        exact hr.len ρ xs et
      | ex c ns xs => rw [et] at e; cases e
      | bad => rw [et] at e; cases e
    | ex c ns xs => rw [ef] at e; cases e
    | bad => rw [ef] at e; cases e
end
structure DnM (P : Program) (w : World) (K : PySem.W.Frag) (mg : Str → Option Value) (base : Heap) (k : Nat) (x : Str) (b : List Bool) (F : List D → Ou D) : Prop where
  ex : ∃ (f : Addr) (fd : FuncData) (ps : List Str), mg x = some (.ref f) ∧ FnOk P w K mg base (L2.CX P w) k f fd ps (spM K b F) ∧ PySem.W.keepIn K (.ref f) = true ∧ Binds K fd ps []
structure MtM (P : Program) (w : World) (K : PySem.W.Frag) (mg : Str → Option Value) (base : Heap) (k : Nat) (c m : Str) (b : List Bool) (F : List D → Ou D) : Prop where
  cls : Cls K (He.ga K c)
  ex : ∃ (f : Addr) (fd : FuncData) (ps : List Str), Meth K (He.ga K c) m f ∧ FnOk P w K mg base (L2.CX P w) k f fd ps (spM K b F) ∧ Binds K fd ps []
noncomputable def dCallM (b : List Bool) (F : List D → Ou D) (io : List Nat) (t : Env → Ou (List D)) : Env → OuM := fun ρ => match takeL io ρ with
  | none => .bad
  | some (ios, ρ1) => match t (frzE ρ1) with
    | .ok ds => afterM b F io ios ρ1 ds
    | .ex c ns xs => if D.clns xs then .ex c ns xs ρ else .bad
    | .bad => .bad
def isOwn (c m : Str) : List D → Bool
  | .own _ c' ns _ :: _ => c' == c && !ns.contains m
  | _ => false
noncomputable def dMethM (c m : Str) (b : List Bool) (F : List D → Ou D) (io : List Nat) (t : Env → Ou (List D)) : Env → OuM := fun ρ => match takeL io ρ with
  | none => .bad
  | some (ios, ρ1) => if isOwn c m ios then match t (frzE ρ1) with
    | .ok ds => afterM b F io ios ρ1 ds
    | .ex c ns xs => if D.clns xs then .ex c ns xs ρ else .bad
    | .bad => .bad else .bad
section
variable {X : Cx} {W : WX} {k j n : Nat} {e : Expr} {es : List Expr} {t : Env → Ou (List D)} {pos p apos : Pos} {x c m : Str} {F : List D → Ou D} {b : List Bool} {io : List Nat}
theorem argsM {Z0 H0 Z H : Hp} {σ : L2.St} {ρ ρ1 : Env} {ios : List D} {Q : VK} {R : List V → Hp → Prop} (s : Sta X.K (He.ga X.K) Z0 H0 Z H σ ρ) (ht : takeL io ρ = some (ios, ρ1)) (hlen : ∀ ρ ds, t ρ = .ok ds → mixOk b io.length ds.length = true)
    (q : PostEM X.K (He.ga X.K) W Z0 H0 σ (match t (frzE ρ1) with
      | .ok ds => afterM b F io ios ρ1 ds
      | .ex c ns xs => if D.clns xs then .ex c ns xs ρ else .bad
      | .bad => .bad) Q) (hR : ∀ vs H1, spM X.K b F vs H1 Q (WE W σ) → R vs H1) : tAL X.K (He.ga X.K) W b io t σ H R := by
  obtain ⟨fp, sl, nd, fr⟩ := s.e
  obtain ⟨ivs, fi, fo, hp, hv, di, so⟩ := Slots.outs ht sl
  have ezs := frzH_ex (H := H) so.own1
  refine ⟨frzH Z H fo, frzE ρ1, ⟨frzH_to s.g.s so.own2, s.t.ex ezs, [], Slots.frzAll ezs (fun a ha => if_pos ha) so, List.nodup_nil⟩, ⟨ivs, hv⟩, ?_⟩
  cases et : t (frzE ρ1) with
  | ok ds =>
    rw [et] at q
    intro ivs2 avs Z1 H1 fa hv2 g1 da na fra
    have ei : ivs2 = ivs := by
      have : ∀ {io : List Nat} {a b : List V}, ValsAt σ io a → ValsAt σ io b → a = b := by
        intro io
        induction io with
        | nil => intro a b h1 h2; exact (show a = [] from h1).trans (show b = [] from h2).symm
        | cons i io ih =>
          intro a b h1 h2
          obtain ⟨v, vr, e1, e2, e3⟩ := h1
          obtain ⟨u, ur, k1, k2, k3⟩ := h2
          rw [e2] at k2
          cases k2
          rw [e1, k1, ih e3 k3]
      exact this hv2 hv
    subst ei
    exact hR _ _ (spM_of s ht hp nd fr hv di so g1 da na fra (hlen _ _ et) q)
  | ex c ns xs =>
    rw [et] at q
    have q : PostEM X.K (He.ga X.K) W Z0 H0 σ (if D.clns xs then .ex c ns xs ρ else .bad) Q := q
    split at q
    · rename_i cc
      intro dc Z1 H1 g1 x
      obtain ⟨g', kk⟩ := g1.thaw so.own1 so.own2
      exact q dc _ H1 (s.gr g') (ExD.clean kk cc x)
    · exact q.elim
  | bad => rw [et] at q; exact q.elim
theorem DEM.call (C : Ctx X W k) (G : DnM X.prog X.w X.K X.mg X.base j x b F) (ha : DAL X W (e :: es) b io t) (hk : j ≤ k := by decide) (hg : Gl X x := by rfl)
    (hdb : (x == ("__debug__" : Str)) = false := by decide) (he : starEach (e :: es) X.env = (false, eval e X.env) :: starEach es X.env := by rfl) (hpl : (backTo pos (starEach es X.env)).any (·.1) = false := by rfl) : DEM X W (.Call (.Name x p) (e :: es) [] pos) (dCallM b F io t) := by
  obtain ⟨f, fd, ps, hm, ok, kp, hb⟩ := G.ex
  refine ⟨fun Z0 H0 => PE.weak (pe_callS ok (C.hr.mono hk) hg hm kp hb (fun σ => passAt C.tk σ) ha.run hdb he hpl) fun σ H Q hq => ?_⟩
  obtain ⟨Z, ρ, s, q⟩ := hq
  unfold dCallM at q
  cases ht : takeL io ρ with
  | none => rw [ht] at q; exact q.elim
  | some pr =>
    obtain ⟨ios, ρ1⟩ := pr
    rw [ht] at q
    exact argsM s ht ha.len q fun vs H1 h => h
theorem isOwn_inv {ios : List D} (h : isOwn c m ios = true) : ∃ oa ns xs r, ios = .own oa c ns xs :: r ∧ ns.contains m = false := by
  unfold isOwn at h
  split at h
  · rename_i oa c' ns xs r
    obtain ⟨h1, h2⟩ := band h
    rw [beq_iff_eq.mp h1]
    exact ⟨oa, ns, xs, r, rfl, by simpa using h2⟩
  · cases h
theorem takeL_head {i : Nat} {ρ ρ1 : Env} {d : D} {r : List D} (h : takeL (i :: io) ρ = some (d :: r, ρ1)) : ρ[i]? = some (some d) := by
  unfold takeL at h
  split at h
  · rename_i d2 e
    match e2 : takeL io (ρ.set i none) with
    | none => rw [e2] at h; cases h
    | some (ds2, ρ2) =>
      rw [e2] at h
      cases h
      exact e
  · cases h
theorem DEM.meth {pl : Sem Bool} (i : Nat) (C : Ctx X W k) (G : MtM X.prog X.w X.K X.mg X.base j c m (true :: b) F) (ha : DAL X W (e :: es) b io t) (hk : j ≤ k := by decide)
    (hN : X.N[i]? = some x := by rfl) (hv : Vis X.env.scope x := by first | exact Or.inl rfl | exact Or.inr (Or.inl rfl) | exact Or.inr (Or.inr rfl)) (hd : (x == ("__debug__" : Str)) = false := by decide) (hcd : (x == ("__classdict__" : Str)) = false := by decide)
    (hst : starEach (e :: es) X.env = (false, eval e X.env) :: starEach es X.env := by rfl) (hpl : (backTo pos (starEach es X.env)).any (·.1) = false := by rfl)
    (ht : eval (.Call (.Attribute (.Name x p) m apos) (e :: es) [] pos) X.env = (do
      let ov ← eval (.Name x p) X.env
      standAt apos.atName
      let (f, first) ← holding [ov] (getMethod ov m pl)
      callWith pos f first (backTo pos (starEach (e :: es) X.env)) (backToKw pos (keywordEach [] X.env))) := by rfl) :
    DEM X W (.Call (.Attribute (.Name x p) m apos) (e :: es) [] pos) (dMethM c m (true :: b) F (i :: io) t) := by
  refine ⟨fun Z0 H0 => ⟨fun pins s σ H Q I hq => ?_⟩⟩
  refine methcall_of (pl := pl) (pv i hN hv hd hcd) I ?_ ht
  obtain ⟨Z, ρ, so, q⟩ := hq
  unfold dMethM at q
  cases htk : takeL (i :: io) ρ with
  | none => rw [htk] at q; exact q.elim
  | some pr =>
    obtain ⟨ios, ρ1⟩ := pr
    rw [htk] at q
    dsimp only at q
    split at q
    · rename_i ho
      obtain ⟨oa, ns, xs, r, rfl, hnc⟩ := isOwn_inv ho
      have hi := takeL_head htk
      obtain ⟨fp, sl, _, _⟩ := so.e
      obtain ⟨v, f, h1, h2, _⟩ := sl.get hi
      simp only [Den] at h2
      obtain ⟨a, dx, vs, fq, e0, e1, e2, z, hq, _⟩ := h2
      subst e1
      obtain ⟨g, fd, ps, hm, ok, hb⟩ := G.ex
      refine ⟨.ref a, h1, a, He.ga X.K c, dx, _, g, rfl, hq, G.cls, hm, zip_nolook hnc, fun s1 I1 => ?_⟩
      refine PySem.W.callWith_K (first := [.ref a]) (h₀ := X.base) I1.ok.mod.kin hm.kp ?_ hst hpl
      have hA : tAL X.K (He.ga X.K) W (true :: b) (i :: io) t σ H fun vs2 H2 => ∃ vr, vs2 = .ref a :: vr ∧ spM X.K (true :: b) F (.ref a :: vr) H2 Q (WE W σ) := by
        have := argsM (X := X) (W := W) (b := true :: b) (F := F) (R := fun vs2 H2 => spM X.K (true :: b) F vs2 H2 Q (WE W σ)) so htk (fun ρ ds e => ha.len ρ ds e) q fun vs H1 h => h
        obtain ⟨Z1, ρ1', r1, vv, q1⟩ := this
        refine ⟨Z1, ρ1', r1, vv, ?_⟩
        match et : t ρ1' with
        | .ok ds =>
          rw [et] at q1
          intro ivs avs Z' H' fa hv2 g1 dn nd fr
          have h3 := q1 ivs avs Z' H' fa hv2 g1 dn nd fr
          obtain ⟨v2, vr2, k1, k2, _⟩ := hv2
          rw [h1] at k2
          cases k2
          subst k1
          exact ⟨mix b vr2 avs, rfl, h3⟩
        | .ex c ns xs => rw [et] at q1; exact q1
        | .bad => rw [et] at q1; exact q1.elim
      have hA' : tAL X.K (He.ga X.K) W b io t σ H fun vr H2 => spM X.K (true :: b) F (.ref a :: vr) H2 Q (WE W σ) := by
        obtain ⟨Z1, ρ1', r1, ⟨ivs, vv⟩, q1⟩ := hA
        obtain ⟨v2, vr2, k1, k2, k3⟩ := vv
        refine ⟨Z1, ρ1', r1, ⟨vr2, k3⟩, ?_⟩
        match et : t ρ1' with
        | .ok ds =>
          rw [et] at q1
          intro ivs' avs Z' H' fa hv2 g1 dn nd fr
          obtain ⟨vr, e1, h3⟩ := q1 (.ref a :: ivs') avs Z' H' fa ⟨_, _, rfl, h1, hv2⟩ g1 dn nd fr
          have e1' : V.ref a :: mix b ivs' avs = .ref a :: vr := e1
          injection e1' with _ e2
          rw [e2]
          exact h3
        | .ex c ns xs => rw [et] at q1; exact q1
        | .bad => rw [et] at q1; exact q1.elim
      refine thn (ha.run.run pos pins s1 σ H _ I1 hA') fun us s2 ⟨vs2, H2, I2, rv, q2⟩ => ⟨I2.kIn, ?_⟩
      show wpAny _ _ (PySem.call (.ref g) (.ref a :: us)) _ _ _
      exact run_fnS (E := fun σ => WE W σ) (us := .ref a :: us) (vs := .ref a :: vs2) ok (C.hr.mono hk) hb (passAt C.tk σ) I2 (.cons rfl rv) q2
    · exact q.elim
end
end DL
namespace DL
open PySem PySem.Spec PyProof.Rows L2
variable [Tb]
def outsE : List Bool → Env → Option (List D)
  | true :: b, some d :: ρ => (outsE b ρ).map (d :: ·)
  | false :: b, _ :: ρ => outsE b ρ
  | [], _ => some []
  | _, _ => none
section
variable {K : PySem.W.Frag} {cl : Str → Addr} {Z H Z' H' Z0 H0 : Hp} {σ : L2.St}
theorem Slots.outsE : ∀ {b : List Bool} {ρ : Env} {σ : L2.St} {fp : Fp} {os : List D}, DL.outsE b ρ = some os → Slots K cl Z H ρ σ fp → ∃ vs f, Dens K cl Z H os vs f ∧ f.Sublist fp
  | [], ρ, σ, fp, os, h, s => by
    cases h
    exact ⟨[], [], ⟨rfl, rfl⟩, List.nil_sublist _⟩
  | true :: b, [], σ, fp, os, h, s => by cases h
  | true :: b, none :: ρ, σ, fp, os, h, s => by cases h
  | true :: b, some d :: ρ, σ, fp, os, h, s => by
    obtain ⟨v, σ', f1, f2, e1, e2, q, r⟩ := s
    have h : (DL.outsE b ρ).map (d :: ·) = some os := h
    cases e : DL.outsE b ρ with
    | none => rw [e] at h; cases h
    | some or =>
      rw [e] at h
      cases h
      obtain ⟨vs, f, h1, h2⟩ := Slots.outsE e r
      subst e2
      exact ⟨v :: vs, f1 ++ f, Dens.cons q h1, List.Sublist.append (List.Sublist.refl _) h2⟩
  | false :: b, [], σ, fp, os, h, s => by cases h
  | false :: b, none :: ρ, σ, fp, os, h, s => by
    obtain ⟨o, σ', e1, r⟩ := s
    exact Slots.outsE (b := b) h r
  | false :: b, some d :: ρ, σ, fp, os, h, s => by
    obtain ⟨v, σ', f1, f2, e1, e2, q, r⟩ := s
    obtain ⟨vs, f, h1, h2⟩ := Slots.outsE (b := b) h r
    subst e2
    exact ⟨vs, f, h1, h2.trans (List.sublist_append_right _ _)⟩
end
open Classical in
noncomputable def endM (b : List Bool) (ds : List D) (r : Os) : Ou D := match r with
  | .nx ρ => match outsE b ρ with
    | some os => .ok (.wth .non os)
    | none => .bad
  | .rt d => .ok d
  | .ex c ns xs ρ => if outsE b ρ = outsE b (ds.map some) then .ex c ns xs else .bad
  | _ => .bad
noncomputable def runM (n : Nat) (b : List Bool) (g : Env → Os) (ds : List D) : Ou D := endM b ds (g (ds.map some ++ List.replicate (n - ds.length) none))
def sRetM (b : List Bool) (f : Env → Ou D) : Env → Os := fun ρ => ofU (f ρ) ρ fun d => match outsE b ρ with
  | some os => .rt (.wth d os)
  | none => .bad
def sDropM (f : Env → OuM) : Env → Os := fun ρ => match f ρ with
  | .ok _ ρ' => .nx ρ'
  | .ex c ns xs ρ' => .ex c ns xs ρ'
  | .bad => .bad
def sSetM (i : Nat) (f : Env → OuM) : Env → Os := fun ρ => match f ρ with
  | .ok d ρ' => if i < ρ'.length then .nx (ρ'.set i (some d)) else .bad
  | .ex c ns xs ρ' => .ex c ns xs ρ'
  | .bad => .bad
inductive OuB where
  | ok (b : Bool) (ρ : Env)
  | ex (c : Str) (ns : List Str) (xs : List D) (ρ : Env)
  | bad
def PostTM (K : PySem.W.Frag) (cl : Str → Addr) (W : WX) (Z0 H0 : Hp) (σ : L2.St) (o : OuB) (Q : Bool → Hp → Prop) : Prop := match o with
  | .ok b ρ => ∀ Z H, Sta K cl Z0 H0 Z H σ ρ → Q b H
  | .ex c ns xs ρ => ∀ dc Z H, Sta K cl Z0 H0 Z H σ ρ → ExD K cl Z H ns xs dc → W (.ref (cl c)) dc σ H
  | .bad => False
structure DTM (X : Cx) (W : WX) (e : Expr) (f : Env → OuB) : Prop where
  run : ∀ Z0 H0, PT X e fun σ H Q => ∃ Z ρ, Sta X.K (He.ga X.K) Z0 H0 Z H σ ρ ∧ PostTM X.K (He.ga X.K) W Z0 H0 σ (f ρ) Q
def tCmpM (k : D → D → Option Bool) (f : Env → OuM) (g : Env → Ou D) : Env → OuB := fun ρ => match f ρ with
  | .ok d ρ' => match g ρ' with
    | .ok y => match k d y with
      | some b => .ok b ρ'
      | none => .bad
    | .ex c ns xs => .ex c ns xs ρ'
    | .bad => .bad
  | .ex c ns xs ρ' => .ex c ns xs ρ'
  | .bad => .bad
def sIfM (c : Env → OuB) (g h : Env → Os) : Env → Os := fun ρ => match c ρ with
  | .ok b ρ' => if b then g ρ' else h ρ'
  | .ex c ns xs ρ' => .ex c ns xs ρ'
  | .bad => .bad
def dPairM (x : Str) (f : Env → OuM) : Env → OuM := fun ρ => match f ρ with
  | .ok d ρ' => .ok (.lst true [.str x, d]) ρ'
  | .ex c ns xs ρ' => .ex c ns xs ρ'
  | .bad => .bad
section
variable {X : Cx} {W : WX} {e a : Expr} {f : Env → Ou D} {fm : Env → OuM} {tm : Env → OuB} {pos : Pos} {b : List Bool} {rest els : List Stmt} {g h : Env → Os}
theorem DTM.cmp {op : CmpOp} {r : R2} {k : D → D → Option Bool} {c : Expr} {f2 : Env → Ou D} (ho : OpR X (compareOp op) r) (hk : Op2B X.K (He.ga X.K) r k) (ha : DEM X W a fm) (hb : DB X W c f2) (hm : behindInMarks op c = false) : DTM X W (.Compare a [op] [c] pos) (tCmpM k fm f2) := by
  refine ⟨fun Z0 H0 => PT.weak (pt_cmpR ho (ha.run Z0 H0) hb.run hm) fun σ H Q hq => ?_⟩
  obtain ⟨Z, ρ, s, q⟩ := hq
  refine ⟨Z, ρ, s, ?_⟩
  unfold tCmpM at q
  cases e1 : fm ρ with
  | bad => rw [e1] at q; exact q.elim
  | ex c ns xs ρ' => rw [e1] at q; exact fun dc Z' H' s' x => q dc Z' H' s' x
  | ok d ρ' =>
    rw [e1] at q
    dsimp only at q
    intro v Z1 H1 s1
    refine ⟨Z1, ρ', s1.sta.rel, ?_⟩
    cases e2 : f2 ρ' with
    | bad => rw [e2] at q; exact q.elim
    | ex c ns xs => rw [e2] at q; exact fun dc Z' H' g1 x => q dc Z' H' (s1.sta.gr g1) x
    | ok y =>
      rw [e2] at q
      dsimp only at q
      intro u Z2 H2 fy g2 dy
      have s2 := s1.gr g2
      obtain ⟨g, t, fp, fq, h1, h2, h3, h4⟩ := s2
      cases e3 : k d y with
      | none => rw [e3] at q; exact q.elim
      | some b =>
        rw [e3] at q
        refine hk Z2 H2 d y b v u fq fy _ g.s h2 dy e3 ?_
        exact ⟨b, rfl, q Z2 H2 (s1.gr g2).sta⟩
end
end DL
namespace DL
open PySem PySem.Spec PyProof.Rows L2
variable [Tb]
def putD (f : Str) (d : D) : List Str → List D → List D
  | n :: ns, x :: xs => if n = f then d :: xs else x :: putD f d ns xs
  | _, xs => xs
def putNs (f : Str) (ns : List Str) : List Str := if ns.contains f then ns else ns ++ [f]
def putXs (f : Str) (d : D) (ns : List Str) (xs : List D) : List D := if ns.contains f then putD f d ns xs else xs ++ [d]
section
variable {K : PySem.W.Frag} {cl : Str → Addr} {Z H Z0 H0 Z' H' : Hp} {σ : L2.St} {ρ : Env}
theorem Sta.val {d : D} {v : V} {fd : Fp} (s : Sta K cl Z0 H0 Z H σ ρ) (g : Gr Z H Z' H') (dn : Den K cl Z' H' d v fd) (nd : fd.Nodup) (fr : ∀ a ∈ fd, H a = none) : StaV K cl Z0 H0 Z' H' σ ρ d v := by
  obtain ⟨fp, sl, n0, f0⟩ := s.e
  refine ⟨s.g.trans g, s.t.ex g.z, fp, fd, Slots.mono g.z (fun a ha => by
    obtain ⟨z, xs, q⟩ := Slots.own sl a ha
    exact ⟨g.n a (by rw [q]; exact Option.some_ne_none _) z, by rw [q]; exact g.h.l q⟩) sl, dn, ?_, fun a ha => ?_⟩
  · rw [List.nodup_append]
    refine ⟨n0, nd, fun a ha b hb e => ?_⟩
    subst e
    obtain ⟨xs, q⟩ := sl.own2 a ha
    rw [fr a hb] at q; cases q
  · rcases List.mem_append.mp ha with z | z
    · exact f0 a z
    · exact s.g.h.back (fr a z)
theorem Sta.mv {j : Nat} {d : D} (s : Sta K cl Z0 H0 Z H σ ρ) (hj : ρ[j]? = some (some d)) : ∃ v, σ[j]? = some (some v) ∧ StaV K cl Z0 H0 Z H σ (ρ.set j none) d v := by
  obtain ⟨fp, sl, n0, f0⟩ := s.e
  obtain ⟨v, f, rest, h1, h2, h3, h4⟩ := sl.out1 hj
  have p : fp.Perm (rest ++ f) := h3.trans List.perm_append_comm
  exact ⟨v, h1, s.g, s.t, rest, f, h4, h2, p.nodup_iff.mp n0, fun a ha => f0 a (p.symm.mem_iff.mp ha)⟩
end
def putO (c f : Str) (i : Nat) (ρ : Env) (d : D) : Os := match ρ[i]? with
  | some (some (.own oa c' ns xs)) => if c' == c && mutN (putNs f ns) && decide (ns.length < 900) then .nx (ρ.set i (some (.own oa c' (putNs f ns) (putXs f d ns xs)))) else .bad
  | _ => .bad
def sFldO (c f : Str) (i : Nat) (g : Env → Ou D) : Env → Os := fun ρ => ofU (g ρ) ρ fun d => putO c f i ρ d
def sFldV (c f : Str) (i j : Nat) : Env → Os := fun ρ => match ρ[j]? with
  | some (some d) => putO c f i (ρ.set j none) d
  | _ => .bad
def sFldA (c f : Str) (i : Nat) (op : Int → Int → Int) (g : Env → Ou D) : Env → Os := fun ρ => match ρ[i]? with
  | some (some (.own _ c' ns xs)) => if c' == c then match (ns.zip xs).lookup f with
    | some (.int a) => ofU (g ρ) ρ fun d => match d with
      | .int b => putO c f i ρ (.int (op a b))
      | _ => .bad
    | _ => .bad else .bad
  | _ => .bad
section
variable {X : Cx} {W : WX} {e : Expr} {g : Env → Ou D} {pos pos' p p2 : Pos} {x y f c : Str}
end
end DL
namespace DL
open PySem PySem.Spec PyProof.Rows L2
variable [Tb]
def rRemD (K : PySem.W.Frag) : V → List V → Hp → VK → Prop := fun x xs H Q => ∃ (a : Addr) (y : V) (vs : List V) (d : PyData) (ds : List PyData) (j : Nat) (z : PyData), x = V.ref a ∧ xs = [y] ∧ H a = some (.lst vs) ∧ DpAll K H vs ds ∧ Dp K H y d ∧
  SeqAt.shaped (.list ds) = true ∧ SeqAt.shaped d = true ∧ ds[j]? = some z ∧ PyData.eqv z d = true ∧ (∀ (m : Nat) (z' : PyData), m < j → ds[m]? = some z' → PyData.eqv z' d = false) ∧ Q .non (upd H a (.lst (vs.eraseIdx j)))
def lsOf : D → Option (List D)
  | .lst true xs => some xs
  | .lsa _ xs => some xs
  | _ => none
def reL : D → List D → D
  | .lsa a _, ys => .lsa a ys
  | _, ys => .lst true ys
section
variable {K : PySem.W.Frag} {cl : Str → Addr} {Z H Z0 H0 Z' H' : Hp} {σ : L2.St} {ρ : Env}
end
def sAppA (i : Nat) (f : Env → Ou D) : Env → Os := fun ρ => match ρ[i]? with
  | some (some (.lsa a xs)) => ofU (f ρ) ρ fun d => if xs.length < LIM then .nx (ρ.set i (some (.lsa a (xs ++ [d])))) else .bad
  | _ => .bad
def remD (xs : List D) (y : D) : Option (List D) := if y.okd DEP && (D.lst true xs).okd DEP then (fstI (fun z => PyData.eqv z y.py) (D.pys xs)).map fun j => xs.eraseIdx j else none
def sRem (i : Nat) (f : Env → Ou D) : Env → Os := fun ρ => match ρ[i]? with
  | some (some x) => match lsOf x with
    | some xs => ofU (f ρ) ρ fun d => match remD xs d with
      | some ys => .nx (ρ.set i (some (reL x ys)))
      | none => .bad
    | none => .bad
  | _ => .bad
section
variable {X : Cx} {W : WX} {k : Nat} {e : Expr} {f : Env → Ou D} {pos : Pos}
end
end DL
namespace DL
open PySem PySem.Spec PyProof.Rows L2 ClX
variable [Tb]
open Classical in
noncomputable def chA (F : Addr → List D → Ou D) (ds : List D) : Ou D := if h : ∃ r, ∀ a, F a ds = r then Classical.choose h else .bad
theorem chA_is {F : Addr → List D → Ou D} {ds : List D} (h : chA F ds ≠ .bad) (a : Addr) : F a ds = chA F ds := by
  unfold chA at h ⊢
  split
  · rename_i hh
    exact Classical.choose_spec hh a
  · rename_i hh
    rw [dif_neg hh] at h
    exact absurd rfl h
def PostNA (K : PySem.W.Frag) (cl : Str → Addr) (W : WX) (Z0 H0 : Hp) (a : Addr) (o : Ou D) (E : Ends) : Prop := match o with
  | .ok d => ∀ σ Z H fp, Gr Z0 H0 Z H → Den K cl Z H d (.ref a) fp → fp.Nodup → (∀ b ∈ fp, H0 b = none) → E.nx σ H
  | .ex c ns xs => ∀ dc σ Z H, Gr Z0 H0 Z H → ExD K cl Z H ns xs dc → W (.ref (cl c)) dc σ H
  | .bad => False
structure StaN (K : PySem.W.Frag) (cl : Str → Addr) (c : Str) (a dx : Addr) (Z0 Hb Z H : Hp) (σ : L2.St) (ρ : Env) : Prop where
  s : Sta K cl Z0 (upd Hb a (.ins (cl c) dx [])) Z H σ ρ
  hb : Hb a = none
  z0 : Z0 a = none
structure DSN (X : Cx) (W : WX) (c : Str) (st : List Stmt) (t : Addr → Env → Ou D) : Prop where
  run : ∀ (a dx : Addr) (Z0 Hb : Hp), PSs X st fun E σ H => ∃ Z ρ, StaN X.K (He.ga X.K) c a dx Z0 Hb Z H σ ρ ∧ PostNA X.K (He.ga X.K) W Z0 Hb a (t a ρ) E
def nPre (g : Env → Os) (t : Addr → Env → Ou D) : Addr → Env → Ou D := fun a ρ => match g ρ with
  | .nx ρ' => t a ρ'
  | .ex c ns xs _ => .ex c ns xs
  | _ => .bad
open Classical in
noncomputable def nFld (c f : Str) (g : Env → Ou D) (h : Env → Os) : Addr → Env → Ou D := fun a ρ => if ρ[0]? = some (some (.pin a)) then (g ρ >>= fun d => match h (ρ.set 0 (some (.own (some a) c [f] [d]))) with
  | .nx ρ2 => match (ρ2[0]? : Option (Option D)) with
    | some (some (D.own (some b) c' ns xs)) => if b = a ∧ c' = c then .ok (.own none c ns xs) else .bad
    | _ => .bad
  | .ex c ns xs _ => .ex c ns xs
  | _ => .bad) else .bad
section
variable {K : PySem.W.Frag} {cl : Str → Addr} {c f : Str} {a dx : Addr} {Z0 Hb Z H Z' H' : Hp} {σ : L2.St} {ρ : Env} {d : D} {v : V} {fd : Fp}
theorem StaN.base (s : StaN K cl c a dx Z0 Hb Z H σ ρ) (g : Gr Z0 (upd Hb a (.ins (cl c) dx [])) Z' H') : Gr Z0 Hb Z' H' :=
  ⟨g.z, (Ex.new s.hb).trans g.h, g.s, fun b h1 h2 => g.n b ((Ex.new s.hb).ne b h1) h2⟩
end
section
variable {X : Cx} {W : WX} {c f sf : Str} {st : Stmt} {rest : List Stmt} {g : Env → Os} {ge : Env → Ou D} {h : Env → Os} {t : Addr → Env → Ou D} {e : Expr} {p1 p2 p3 : Pos}
theorem DSN.pre (h1 : DS X W st g) (h2 : DSN X W c rest t) : DSN X W c (st :: rest) (nPre g t) := by
  refine ⟨fun a dx Z0 Hb => PSs.weak (pss_cons (h1.run Z0 (upd Hb a (.ins (He.ga X.K c) dx []))) (h2.run a dx Z0 Hb)) fun E σ H hq => ?_⟩
  obtain ⟨Z, ρ, s, q⟩ := hq
  refine ⟨Z, ρ, s.s, ?_⟩
  unfold nPre at q
  cases eg : g ρ with
  | nx ρ' => rw [eg] at q; exact fun σ' Z' H' s' => ⟨Z', ρ', ⟨s', s.hb, s.z0⟩, q⟩
  | ex c ns xs ρ' => rw [eg] at q; exact fun dc σ' Z' H' s' x => q dc σ' Z' H' (s.base s'.g) x
  | rt d => rw [eg] at q; exact q.elim
  | bk ρ' => rw [eg] at q; exact q.elim
  | ct ρ' => rw [eg] at q; exact q.elim
  | bad => rw [eg] at q; exact q.elim
end
def spO (K : PySem.W.Frag) (c : Str) (n : Nat) (F : Addr → List D → Ou D) : Sp := fun vs H Q E => ∃ a dx ws H0, vs = .ref a :: ws ∧ ws.length = n ∧ H = upd (upd H0 dx (.own a)) a (.ins (He.ga K c) dx []) ∧ H0 a = none ∧ H0 dx = none ∧ dx ≠ a ∧ spF K n (F a) ws H0 (fun v H' => v = .ref a → Q .non H') E
def runO (n : Nat) (t : Addr → Env → Ou D) (a : Addr) (ds : List D) : Ou D := t a (some (.pin a) :: (ds.map some ++ List.replicate (n - (ds.length + 1)) none))
structure DnO (P : Program) (w : World) (K : PySem.W.Frag) (mg : Str → Option Value) (base : Heap) (k : Nat) (c : Str) (n : Nat) (F : Addr → List D → Ou D) : Prop where
  ex : ∃ (f : Addr) (fd : FuncData) (ps : List Str), Mk K (He.ga K c) f ∧ FnOk P w K mg base (L2.CX P w) k f fd ps (spO K c n F) ∧ Binds K fd ps []
theorem DnO.of {P : Program} {w : World} {K : PySem.W.Frag} {mg : Str → Option Value} {base : Heap} {k n : Nat} {c : Str} {F : Addr → List D → Ou D} {fd : FuncData} {ps fs : List Str} (h : chkMk c fs K = true) (ok : FnOk P w K mg base (L2.CX P w) k (He.fAd K (c, some "__init__")) fd ps (spO K c n F)) (hb : Binds K fd ps []) : DnO P w K mg base k c n F :=
  ⟨_, fd, ps, chkMk_mk h, ok, hb⟩
theorem spF.chA {K : PySem.W.Frag} {n : Nat} {F : Addr → List D → Ou D} {vs : List V} {H : Hp} {Q : VK} {E : XK} (a : Addr) (h : spF K n (DL.chA F) vs H Q E) : spF K n (F a) vs H Q E := by
  obtain ⟨hl, Z, ds, ez, tk, dn, q⟩ := h
  refine ⟨hl, Z, ds, ez, tk, dn, ?_⟩
  have e : F a ds = DL.chA F ds := chA_is (fun z => by rw [z] at q; exact q) a
  rw [e]
  exact q
section
variable {X : Cx} {W : WX} {k j n : Nat} {e : Expr} {es : List Expr} {t : Env → Ou (List D)} {pos p : Pos} {x : Str} {F : Addr → List D → Ou D}
end
end DL
namespace DL
open PySem PySem.Spec PyProof.Rows L2 ClX
variable [Tb]
def blR : Ou D → Ou D
  | .ok (.bl b) => .ok (.bl b)
  | .ex c ns xs => .ex c ns xs
  | _ => .bad
def dInO (c : Str) (F : List D → Ou D) (f g : DL.Env → Ou D) : DL.Env → Ou D := fun ρ => f ρ >>= fun x => g ρ >>= fun y => blR (if isIns c y = true then callR F [y, x] else .bad)
@[simp] theorem x_dInO (ρ : DL.Env) (c : Str) (F : List D → Ou D) (f g : DL.Env → Ou D) : dInO c F f g ρ = (f ρ >>= fun x => g ρ >>= fun y => blR (if isIns c y = true then callR F [y, x] else .bad)) := (rfl)
def InsC (K : PySem.W.Frag) (c : Str) (F : List D → Ou D) (v u : V) (H : Hp) (Q : VK) (E : XK) : Prop := ∃ a dx fs, v = .ref a ∧ H a = some (.ins (He.ga K c) dx fs) ∧ spF K 2 F [.ref a, u] H Q E
section
variable {X : Cx} {W : WX} {k j n : Nat} {e a b : Expr} {f g : DL.Env → Ou D} {pos p : Pos} {c : Str} {F : List D → Ou D}
def tInO (c : Str) (F : List D → Ou D) (f g : DL.Env → Ou D) : DL.Env → Ou Bool := fun ρ => f ρ >>= fun x => g ρ >>= fun y => match blR (if isIns c y = true then callR F [y, x] else .bad) with
  | .ok (.bl b) => .ok b
  | .ex c ns xs => .ex c ns xs
  | _ => .bad
@[simp] theorem x_tInO (ρ : DL.Env) (c : Str) (F : List D → Ou D) (f g : DL.Env → Ou D) : tInO c F f g ρ = (f ρ >>= fun x => g ρ >>= fun y => match blR (if isIns c y = true then callR F [y, x] else .bad) with
  | .ok (.bl b) => .ok b
  | .ex c ns xs => .ex c ns xs
  | _ => .bad) := (rfl)
end
def selfF (F : List D → Ou D) (ds : List D) : Ou D := match F ds, ds with
  | .ok (.wth (.pin p) os), .own (some a) _ _ _ :: _ => if p = a then .ok (.wth .non os) else .bad
  | .ex c ns xs, _ => .ex c ns xs
  | _, _ => .bad
theorem spM.self {K : PySem.W.Frag} {b : List Bool} {F : List D → Ou D} {v0 : V} {vs : List V} {H : Hp} {Q : VK} {E : XK} (h : spM K (true :: b) (selfF F) (v0 :: vs) H (fun _ H' => Q v0 H') E) : spM K (true :: b) F (v0 :: vs) H Q E := by
  obtain ⟨hl, Z, as, cs, args, avs, fi, ez, tk, hcc, el, hm, ev, di, nf, da, q⟩ := h
  refine ⟨hl, Z, as, cs, args, avs, fi, ez, tk, hcc, el, hm, ev, di, nf, da, ?_⟩
  unfold selfF at q
  cases as with
  | nil =>
    cases cs with
    | nil => cases args <;> cases hm
    | cons => cases el
  | cons a as =>
    cases cs with
    | nil => cases el
    | cons c cs =>
      have ev0 : v0 = .ref a := by
        have : v0 :: vs = V.ref a :: mix b (as.map V.ref) avs := ev
        injection this
      have em : mix (true :: b) (adrL (a :: as) (c :: cs)) args = adr1 a c :: mix b (adrL as cs) args := rfl
      rw [em] at q ⊢
      cases eF : F (adr1 a c :: mix b (adrL as cs) args) with
      | bad => rw [eF] at q; exact q.elim
      | ex c2 ns xs => rw [eF] at q; exact q
      | ok d =>
        rw [eF] at q
        split at q
        · rename_i p os a2 _ _ _ r e1 e2
          cases e1
          injection e2 with e3 e4
          have ea : a2 = a := by
            cases c with
            | own oa c1 ns xs => unfold adr1 at e3; injection e3 with e5; injection e5 with e6; exact e6.symm
            | lst o xs => cases o <;> cases e3
            | lsa b xs => cases e3
            | _ => cases e3
          subst ea
          split at q
          · rename_i ep
            subst ep
            subst ev0
            intro v Z' H' fp g dn nd fr
            simp only [Den] at dn
            obtain ⟨vs', f1, f2, e, ⟨e7, e8⟩, dos⟩ := dn
            subst e7 e8
            refine q .non Z' H' fp g ?_ nd fr
            simp only [Den]
            exact ⟨vs', [], f2, e, ⟨trivial, rfl⟩, dos⟩
          · exact q.elim
        · rename_i e1; cases e1
        · exact q.elim
def sRetSelf (b : List Bool) (i : Nat) : Env → Os := fun ρ => match ρ[i]? with
  | some (some (.own (some a) _ _ _)) => match outsE b ρ with
    | some os => .rt (.wth (.pin a) os)
    | none => .bad
  | _ => .bad
section
variable {X : Cx} {W : WX} {k j n : Nat} {e : Expr} {f : DL.Env → Ou D} {pos p pos' : Pos} {c x : Str} {F : List D → Ou D} {b : List Bool}
end
end DL
namespace DL
open PySem PySem.Spec PyProof.Rows L2 ClX
variable [Tb]
abbrev MOkM (P : Program) (w : World) (K : PySem.W.Frag) (mg : Str → Option Value) (base : Heap) (k : Nat) (f : Addr) (fd : FuncData) (ps : List Str) (b : List Bool) (F : List D → Ou D) : Prop :=
  FnOk P w K mg base (L2.CX P w) k f fd ps (spM K b F) ∧ Binds K fd ps []
theorem MtM.of {P : Program} {w : World} {K : PySem.W.Frag} {mg : Str → Option Value} {base : Heap} {k : Nat} {c m : Str} {fd : FuncData} {ps : List Str} {b : List Bool} {F : List D → Ou D} (hc : Cls K (He.ga K c)) (h : (He.Fa.meth c m).ok K = true) (ok : MOkM P w K mg base k (He.fAd K (c, some m)) fd ps b F) : MtM P w K mg base k c m b F :=
  ⟨hc, He.fAd K (c, some m), fd, ps, He.meth_ok h, ok.1, ok.2⟩
def sRetVM (b : List Bool) (i : Nat) : Env → Os := fun ρ => match ρ[i]? with
  | some (some d) => match outsE b (ρ.set i none) with
    | some os => .rt (.wth d os)
    | none => .bad
  | _ => .bad
end DL
namespace PySem.W
open PySem PyProof.Rows
section
variable {prog : Program} {w : World} {A : Around} {E : Value → Shared → Prop} {s : Shared} {κ : PyProof.Rows.KeyKind}
end
section
variable {prog : Program} {w : World} {A : Around} {E : Value → Shared → Prop} {s : Shared} {β : Type} {vs : List Value} {bs : List β} {enc : β → PyData} {R : Value → β → Prop}
end
end PySem.W
namespace DL
open PySem PySem.Spec PyProof.Rows L2
variable [Tb]
def sortTN : List D → Option D
  | [.tup xs] => if D.fzs xs && sortOk xs && decide (xs.length ≤ LIM) then some (.lst true (sortL xs)) else none
  | _ => none
def rSortTD (K : PySem.W.Frag) : List V → Hp → VK → Prop := fun vs H Q => ∃ (a : Addr) (ys : List V) (ds : List PyData), vs = [V.ref a] ∧ SqT K H a ys ∧ DpAll K H ys ds ∧ sortOkP ds = true ∧ (∀ d ∈ ds, d.depth ≤ DEP) ∧
  ∀ p, H p = none → Q (.ref p) (upd H p (.lst (((ys.zip ds).mergeSort (PySem.W.dataLe false fun p : V × PyData => p.2)).map (·.1))))
section
variable {K : PySem.W.Frag} {cl : Str → Addr}
end
end DL
namespace DL
open PySem PySem.Spec PyProof.Rows L2
variable [Tb]
def nubI : List Int → List Int
  | [] => []
  | x :: xs => if x ∈ xs then nubI xs else x :: nubI xs
def tLenSetT (K : PySem.W.Frag) (ta : TE) : TE := fun σ H Q => ta σ H fun x H1 => ∃ (l : Addr) (ns : List Int), x = .ref l ∧ SqT K H1 l (ns.map V.int) ∧ ns.length ≤ 1000 ∧ Q (.int ((nubI ns).length : Nat)) H1
def intsT : List D → Option (List Int)
  | [] => some []
  | .int i :: ds => (intsT ds).map (i :: ·)
  | _ :: _ => none
def lenSetD : D → Option D
  | .tup ds => match intsT ds with
    | some ns => if decide (ns.length ≤ 1000) then some (.int (nubI ns).length) else none
    | none => none
  | _ => none
def lexLE (ns ms : List Int) : Bool := Ob.lexAt (fun j => decide (ns.getD j 0 = ms.getD j 0)) (fun j => decide (ns.getD j 0 ≤ ms.getD j 0)) (decide (ns.length ≤ ms.length)) 0 (min ns.length ms.length)
def leTD : D → D → Option Bool
  | .int i, .int j => some (decide (i ≤ j))
  | .tup xs, .tup ys => match intsT xs, intsT ys with
    | some ns, some ms => some (lexLE ns ms)
    | _, _ => none
  | _, _ => none
def rLeA (K : PySem.W.Frag) : R2 := fun x y H Q => (rI0 fun i j => .bl (decide (i ≤ j))) x y H Q ∨ rLeT K x y H Q
@[simp] theorem x_leT_int (i j : Int) : leTD (.int i) (.int j) = some (decide (i ≤ j)) := (rfl)
def min3N : List D → Option D
  | [.int i, .int j, .int k] => some (.int (min (min i j) k))
  | _ => none
def rMin3 : List V → Hp → VK → Prop := fun xs H Q => ∃ i j k, xs = [.int i, .int j, .int k] ∧ Q (.int (min (min i j) k)) H
@[simp] theorem x_min3 (i j k : Int) : min3N [.int i, .int j, .int k] = some (.int (min (min i j) k)) := (rfl)
def lexGT (ns ms : List Int) : Bool := Ob.lexAt (fun j => decide (ns.getD j 0 = ms.getD j 0)) (fun j => decide (ms.getD j 0 < ns.getD j 0)) (decide (ns.length > ms.length)) 0 (min ns.length ms.length)
def rGtT (K : PySem.W.Frag) : R2 := fun x y H Q => ∃ (a b : Addr) (ns ms : List Int), x = .ref a ∧ y = .ref b ∧ SqT K H a (ns.map V.int) ∧ SqT K H b (ms.map V.int) ∧ Q (.bl (lexGT ns ms)) H
def gtTD : D → D → Option Bool
  | .int i, .int j => some (decide (j < i))
  | .tup xs, .tup ys => match intsT xs, intsT ys with
    | some ns, some ms => some (lexGT ns ms)
    | _, _ => none
  | _, _ => none
def rGtA (K : PySem.W.Frag) : R2 := fun x y H Q => (rI0 fun i j => .bl (decide (j < i))) x y H Q ∨ rGtT K x y H Q
@[simp] theorem x_gtT_int (i j : Int) : gtTD (.int i) (.int j) = some (decide (j < i)) := (rfl)
end DL
namespace PySem.W
open PySem PyProof.Rows
section
variable {prog : Program} {w : World} {A : Around} {E : Value → Shared → Prop} {s : Shared} {β : Type} {vs : List Value} {bs : List β} {R : Value → β → Prop}
end
end PySem.W
namespace DL
open PySem PySem.Spec PyProof.Rows L2 ClX
variable [Tb]
def sortKeyTD (j : Nat) : D → Option D
  | .tup xs => if D.fzs xs && (xs.all fun d => (keyOf j d).isSome) && decide (xs.length ≤ LIM) then some (.lst true (xs.mergeSort (leKey j))) else none
  | _ => none
section
variable {X : Cx} {W : WX} {k : Nat} {e : Expr} {f : Env → Ou D}
end
end DL
namespace DL
open PySem PySem.Spec PyProof.Rows L2
variable [Tb]
def isStrD : D → Bool
  | .str _ => true
  | _ => false
def dM1 (op : D → D → Option D) (f g : Env → Ou D) : Env → Ou D := fun ρ => f ρ >>= fun x => if isStrD x then (g ρ >>= fun y => ofO (op x y)) else .bad
section
variable {X : Cx} {W : WX} {a b : Expr} {f g : Env → Ou D} {pos apos : Pos}
theorem DE.m1 {id : String} {name : Str} {r : V → List V → Hp → VK → Prop} {op : D → D → Option D} (slot : Slot "str" name id) (ty : typeOf (.builtin id) = pure (.type "method_descriptor")) (rule : MtR X id r)
    (hk : Op2 X.K (He.ga X.K) (fun x y H Q => r x [y] H Q) op) (ha : DB X W a f) (hb : DB X W b g)
    (hs : starEach [b] X.env = [(false, eval b X.env)] := by rfl) (hbase : attributeBase a name X.env (eval a X.env) = eval a X.env := by rfl) (hline : (apos.endLine == pos.line) = true := by rfl) :
    DE X W (.Call (.Attribute a name apos) [b] [] pos) (dM1 op f g) := by
  refine ⟨PE.weak (pe_m1 slot ty rule ha.run hb.run hs hbase hline) fun σ H Q hq => ?_⟩
  obtain ⟨Z, ρ, r, q⟩ := hq
  refine tV_bind (P := fun Z H o => PostO X.K (He.ga X.K) W Z H σ o Q) r (fun _ _ _ z => z) (fun z => z) q fun x v Z1 H1 fx ex g1 dx q => ?_
  cases x with
  | str s =>
    refine ⟨?_, ?_⟩
    · exact ⟨s, dx.1⟩
    refine tV_bind (P := fun Z H o => PostO X.K (He.ga X.K) W Z H σ o Q) (r.gr g1) (fun _ _ _ z => z) (fun z => z) (q.gr g1) fun y u Z2 H2 fy ey g2 dy q => ?_
    have q := PostO.gr q g2
    match e : op (.str s) y with
    | some d =>
      rw [e] at q
      exact hk Z2 H2 _ y d v u fx fy Q g2.s (g2.den dx) dy e q
    | none => rw [e] at q; exact q.elim
  | _ => exact q.elim
def findD : D → D → Option D
  | .str a, .str b => some (.int (Txt.find a b))
  | _, _ => none
def splitD : D → D → Option D
  | .str a, .str b => if (b.length == 0) == false && decide (a.length + 2 ≤ 1000000) then some (.lst true ((Txt.split a b).map D.str)) else none
  | _, _ => none
end
end DL
namespace DL
open PySem PySem.Spec PyProof.Rows L2
variable [Tb]
def isBD : D → D → Option Bool
  | .bl a, .bl b => some (decide (a = b))
  | _, _ => none
def notBD : D → D → Option Bool
  | .bl a, .bl b => some (!decide (a = b))
  | _, _ => none
@[simp] theorem x_isB (a b : Bool) : isBD (.bl a) (.bl b) = some (decide (a = b)) := (rfl)
@[simp] theorem x_notB (a b : Bool) : notBD (.bl a) (.bl b) = some (!decide (a = b)) := (rfl)
end DL
namespace DL
open PySem PySem.Spec PyProof.Rows L2
variable [Tb]
def sUnp (is : List Nat) (f : Env → Ou D) : Env → Os := fun ρ => ofU (f ρ) ρ fun d => match d with
  | .lst _ ds => if decide (ds.length = is.length) && is.all (fun i => decide (i < ρ.length)) then .nx (setAllE ρ is ds) else .bad
  | _ => .bad
@[simp] theorem x_sUnp (ρ : Env) (is : List Nat) (f : Env → Ou D) : sUnp is f ρ = ofU (f ρ) ρ fun d => match d with
  | .lst _ ds => if decide (ds.length = is.length) && is.all (fun i => decide (i < ρ.length)) then .nx (setAllE ρ is ds) else .bad
  | _ => .bad := (rfl)
section
variable {X : Cx} {W : WX} {e : Expr} {f : Env → Ou D} {pos p : Pos}
end
end DL
namespace DL
open PySem PySem.Spec PyProof.Rows L2 ClX
variable [Tb]
def keyD : D → Option L2.Key
  | .int i => some (.inl i)
  | .str x => some (.inr x)
  | _ => none
def dKey : L2.Key → D
  | .inl i => .int i
  | .inr x => .str x
@[simp] theorem keyD_int (i : Int) : keyD (.int i) = some (.inl i) := (rfl)
@[simp] theorem keyD_str (x : Str) : keyD (.str x) = some (.inr x) := (rfl)
@[simp] theorem dKey_inl (i : Int) : dKey (.inl i) = .int i := (rfl)
@[simp] theorem dKey_inr (x : Str) : dKey (.inr x) = .str x := (rfl)
def lkD : List L2.Key → List D → L2.Key → Option D
  | k :: ks, x :: xs, j => if k = j then some x else lkD ks xs j
  | _, _, _ => none
section
variable {K : PySem.W.Frag} {cl : Str → Addr} {Z H : Hp} {o : Bool} {ks : List L2.Key} {xs : List D} {v : V} {f : Fp}
theorem keyD_den {d : D} {k : L2.Key} (e : keyD d = some k) (h : Den K cl Z H d v f) : v = L2.kV k := by
  cases d <;> cases e <;> exact h.1
theorem dKey_den (k : L2.Key) : Den K cl Z H (dKey k) (L2.kV k) [] := by
  cases k <;> exact ⟨rfl, rfl⟩
theorem Den.lokH (s : Ex Z H) (h : Den K cl Z H (.lok ks xs) v f) : ∃ a od vs, v = .ref a ∧ H a = some (.frz od (.dK (ks.zip vs))) ∧ ks.length = xs.length ∧ Dens K cl Z H xs vs [] := by
  simp only [Den] at h
  obtain ⟨a, od, vs, e1, e2, q, l, r⟩ := h
  exact ⟨a, od, vs, e1, s.l q, l, r⟩
end
def dctP : D → Option (List L2.Key × List D)
  | .dct _ ks xs => some (ks, xs)
  | .lok ks xs => some (ks, xs)
  | _ => none
section
variable {K : PySem.W.Frag} {cl : Str → Addr} {Z H : Hp} {x y : D} {ks : List L2.Key} {xs : List D} {v u : V} {f fy : Fp} {k : L2.Key}
end
def dgetD (x y : D) : Option D := (dctP x).bind fun p => (keyD y).bind fun k => lkD p.1 p.2 k
def dinD (x y : D) : Option Bool := (dctP x).bind fun p => (keyD y).map fun k => (lkD p.1 p.2 k).isSome
def dgdD (x y z : D) : Option D := (dctP x).bind fun p => (keyD y).map fun k => (lkD p.1 p.2 k).getD z
def dGet2 (f g h : Env → Ou D) : Env → Ou D := fun ρ => f ρ >>= fun x => if (dctP x).isSome then (g ρ >>= fun y => h ρ >>= fun z => ofO (dgdD x y z)) else .bad
section
variable {X : Cx} {W : WX} {a b c : Expr} {f g h : Env → Ou D} {pos apos : Pos}
def dkinD (x y : D) : Option Bool := dinD y x
def dkniD (x y : D) : Option Bool := (dinD y x).map (!·)
def keysD : List D → Option D
  | [x] => (dctP x).map fun p => .lst true (p.1.map dKey)
  | _ => none
def iLok (f : Env → Ou D) : Env → Ou (List D) := fun ρ => f ρ >>= fun d => match d with
  | .lok ks _ => .ok (ks.map dKey)
  | _ => .bad
theorem wk_keys {K : PySem.W.Frag} {cl : Str → Addr} {Y Z : Hp} {a : Addr} {od : Obj} {kvs : List (L2.Key × V)} {ks : List L2.Key} (q : Y a = some (.frz od (.dK kvs))) (e : kvs.map Prod.fst = ks) : Wk K cl (Itk a od kvs) Y Z (ks.map dKey) where
  go i H' ex hi := by
    subst e
    exact ⟨ex.l q, by simpa using hi⟩
  yld i H' x H2 ex hi y := by
    obtain ⟨e1, k, v, e2, e3⟩ := y
    subst e e3
    refine ⟨e1, dKey k, ?_, dKey_den k⟩
    rw [List.getElem?_map, List.getElem?_map, e2]
    rfl
  stop H' ex := by
    subst e
    exact ⟨ex.l q, by simp⟩
theorem DI.lok {tg : Expr} (ha : DB X W a f) : DI X W tg a (iLok f) := by
  refine ⟨PI.weak (pi_keys ha.run) fun σ H R hq => ?_⟩
  obtain ⟨Z, ρ, r, q⟩ := hq
  refine tV_bind (P := fun Z H o => PostI X.K (He.ga X.K) W Z H σ o R) r (fun _ _ _ z => z) (fun z => z) q fun d v Z1 H1 fx ex g1 dx q => ?_
  have q := PostI.gr q g1
  cases d with
  | lok ks xs =>
    obtain ⟨a, od, vs, e1, q1, l, dw⟩ := Den.lokH g1.s dx
    simp only [Den] at dx
    obtain ⟨a', od', vs', e1', e2', q', l', dw'⟩ := dx
    rw [e1] at e1'
    cases e1'
    refine ⟨a, od', e1, .inl ⟨_, g1.s.l q', q _ Z1 H1 (Gr.refl g1.s) (wk_keys q' ?_)⟩⟩
    rw [List.map_fst_zip (by rw [dw'.length, ← l']; exact Nat.le_refl _)]
  | _ => exact q.elim
end
end DL
namespace DL
open PySem PySem.Spec PyProof.Rows L2 ClX
variable [Tb]
def keyIn (k : L2.Key) (ks : List L2.Key) : Bool := ks.any fun j => decide (j = k)
def putKs (k : L2.Key) (ks : List L2.Key) : List L2.Key := if keyIn k ks then ks else ks ++ [k]
def putVs (d : D) (k : L2.Key) (ks : List L2.Key) (xs : List D) : List D := if keyIn k ks then List.zipWith (fun j x => if j = k then d else x) ks xs else xs ++ [d]
section
variable {K : PySem.W.Frag} {cl : Str → Addr} {Z H Z0 H0 Z' H' : Hp} {σ : L2.St} {ρ : Env}
theorem any_keys {k : L2.Key} : ∀ {ks : List L2.Key} {vs : List V}, ks.length = vs.length → ((ks.zip vs).any fun kv => decide (kv.1 = k)) = keyIn k ks
  | [], _, _ => rfl
  | j :: ks, [], h => by cases h
  | j :: ks, v :: vs, h => by
    rw [List.zip_cons_cons, List.any_cons, any_keys (Nat.succ.inj h)]
    rfl
theorem map_keys {k : L2.Key} {v : V} {d : D} (hd : Den K cl Z H d v []) : ∀ {ks : List L2.Key} {xs : List D} {vs : List V}, ks.length = xs.length → Dens K cl Z H xs vs [] →
    ∃ vs', ((ks.zip vs).map fun kv => if kv.1 = k then (kv.1, v) else kv) = ks.zip vs' ∧ Dens K cl Z H (List.zipWith (fun j x => if j = k then d else x) ks xs) vs' [] ∧ ks.length = (List.zipWith (fun j x => if j = k then d else x) ks xs).length
  | [], [], vs, _, h => by
    obtain ⟨e, _⟩ := h
    subst e
    exact ⟨[], rfl, ⟨rfl, rfl⟩, rfl⟩
  | [], _ :: _, _, h, _ => by cases h
  | _ :: _, [], _, h, _ => by cases h
  | j :: ks, x :: xs, vs, l, h => by
    obtain ⟨w, vr, f1, f2, e1, e2, q, r⟩ := h.cons'
    obtain ⟨z1, z2⟩ := List.append_eq_nil_iff.mp e2.symm
    subst e1 z1 z2
    obtain ⟨vs', a1, a2, a3⟩ := map_keys hd (k := k) (Nat.succ.inj l) r
    rw [List.zip_cons_cons, List.map_cons, List.zipWith_cons_cons, a1]
    by_cases c : j = k
    · refine ⟨v :: vs', ?_, ?_, congrArg (· + 1) a3⟩
      · rw [if_pos (show (j, w).1 = k from c)]; rfl
      · rw [if_pos c]; exact Dens.cons (f := []) (g := []) hd a2
    · refine ⟨w :: vs', ?_, ?_, congrArg (· + 1) a3⟩
      · rw [if_neg (show ¬ (j, w).1 = k from c)]; rfl
      · rw [if_neg c]; exact Dens.cons (f := []) (g := []) q a2
theorem put_keys {k : L2.Key} {v : V} {d : D} (hd : Den K cl Z H d v []) {ks : List L2.Key} {xs : List D} {vs : List V} (l : ks.length = xs.length) (h : Dens K cl Z H xs vs []) :
    ∃ vs', putK (ks.zip vs) k v = (putKs k ks).zip vs' ∧ Dens K cl Z H (putVs d k ks xs) vs' [] ∧ (putKs k ks).length = (putVs d k ks xs).length := by
  unfold putK putKs putVs
  rw [any_keys (l.trans h.length.symm)]
  by_cases c : keyIn k ks = true
  · rw [if_pos c, if_pos c, if_pos c]
    exact map_keys hd l h
  · rw [if_neg c, if_neg c, if_neg c]
    refine ⟨vs ++ [v], ?_, Dens.append (f := []) (g := []) h (Dens.one hd), by simp [l]⟩
    rw [List.zip_append (l.trans h.length.symm)]
    rfl
theorem Dens.out1 : ∀ {xs : List D} {vs : List V} {fq : Fp} {n : Nat} {x : D}, Dens K cl Z H xs vs fq → xs[n]? = some x → ∃ w fx fr, vs[n]? = some w ∧ Den K cl Z H x w fx ∧ fq.Perm (fx ++ fr) ∧
    ∀ (G : Hp) x' fx', (∀ b ∈ fr, Z b = none ∧ G b = H b) → Den K cl Z G x' w fx' → ∃ fq', Dens K cl Z G (xs.set n x') vs fq' ∧ fq'.Perm (fx' ++ fr)
  | [], _, _, _, _, _, h => by cases h
  | y :: xs, vs, fq, 0, x, h, e => by
    obtain ⟨w, vr, f1, f2, e1, e2, q, r⟩ := h.cons'
    subst e1 e2
    cases e
    refine ⟨w, f1, f2, rfl, q, List.Perm.refl _, fun G x' fx' k1 k2 => ⟨fx' ++ f2, Dens.cons k2 (Dens.mono (Ex.refl _) _ _ _ k1 r), List.Perm.refl _⟩⟩
  | y :: xs, vs, fq, n + 1, x, h, e => by
    obtain ⟨w, vr, f1, f2, e1, e2, q, r⟩ := h.cons'
    subst e1 e2
    obtain ⟨w', fx, fr, a1, a2, a3, a4⟩ := Dens.out1 r (show xs[n]? = some x from e)
    refine ⟨w', fx, f1 ++ fr, a1, a2, ?_, fun G x' fx' k1 k2 => ?_⟩
    · refine (List.Perm.append_left f1 a3).trans ?_
      rw [← List.append_assoc, ← List.append_assoc]
      exact List.Perm.append_right fr List.perm_append_comm
    · obtain ⟨fq', b1, b2⟩ := a4 G x' fx' (fun b hb => k1 b (List.mem_append_right _ hb)) k2
      refine ⟨f1 ++ fq', Dens.cons (Den.mono (Ex.refl _) _ _ _ (fun b hb => k1 b (List.mem_append_left _ hb)) q) b1, ?_⟩
      refine (List.Perm.append_left f1 b2).trans ?_
      rw [← List.append_assoc, ← List.append_assoc]
      exact List.Perm.append_right fr List.perm_append_comm
theorem zip_look {fl : Str} : ∀ {ns : List Str} {xs : List D} {vs : List V} {fq : Fp} {x : D}, ns.length = xs.length → Dens K cl Z H xs vs fq → (ns.zip xs).lookup fl = some x → ∃ n, xs[n]? = some x ∧ ns[n]? = some fl ∧ ns.idxOf fl = n ∧ ∀ w, vs[n]? = some w → (ns.zip vs).lookup fl = some w
  | [], _, _, _, _, _, _, h => by cases h
  | _ :: _, [], _, _, _, h, _, _ => by cases h
  | m :: ns, y :: xs, vs, fq, x, l, h, e => by
    obtain ⟨w, vr, f1, f2, e1, e2, q, r⟩ := h.cons'
    subst e1 e2
    rw [List.zip_cons_cons, List.lookup_cons] at e
    by_cases c : fl = m
    · subst c
      rw [beq_self_eq_true] at e
      cases e
      refine ⟨0, rfl, rfl, by simp, fun w' hw => ?_⟩
      cases hw
      rw [List.zip_cons_cons, List.lookup_cons, beq_self_eq_true]
    · have cb : (fl == m) = false := beq_eq_false_iff_ne.mpr c
      rw [cb] at e
      obtain ⟨n, a1, a2, a3, a4⟩ := zip_look (Nat.succ.inj l) r e
      refine ⟨n + 1, a1, a2, ?_, fun w' hw => ?_⟩
      · have cb2 : (m == fl) = false := beq_eq_false_iff_ne.mpr fun z => c z.symm
        rw [List.idxOf_cons, cb2, cond_false, a3]
      · rw [List.zip_cons_cons, List.lookup_cons, cb]
        exact a4 w' hw
theorem StaV.dput {i : Nat} {oa : Option Addr} {c fl : Str} {ns : List Str} {xs ls : List D} {ks : List L2.Key} {d : D} {v : V} {k : L2.Key} (s : StaV K cl Z0 H0 Z H σ ρ d v) (hd : d.fz = true) (hl : D.fzs ls = true)
    (hi : ρ[i]? = some (some (.own oa c ns xs))) (hf : (ns.zip xs).lookup fl = some (.dct true ks ls)) :
    ∃ a dx fs da vs, σ[i]? = some (some (.ref a)) ∧ H a = some (.ins (cl c) dx fs) ∧ fs.lookup fl = some (.ref da) ∧ H da = some (.dK (ks.zip vs)) ∧ vs.length = ks.length ∧
      Sta K cl Z0 H0 Z (upd H da (.dK (putK (ks.zip vs) k v))) σ (ρ.set i (some (.own oa c ns (xs.set (ns.idxOf fl) (.dct true (putKs k ks) (putVs d k ks ls)))))) := by
  obtain ⟨g, t, fp, fd, sl, dn, nd, fr⟩ := s
  have efd : fd = [] := Den.fz _ _ _ hd dn
  subst efd
  rw [List.append_nil] at nd fr
  obtain ⟨w, fi, rest, h1, h2, h3, h4⟩ := sl.out1 hi
  simp only [Den] at h2
  obtain ⟨a, dx, vs, fq, e0, e1, e2, za, q, m, l, r⟩ := h2
  subst e1 e2
  obtain ⟨n, n1, n2, n3, n4⟩ := zip_look l r hf
  obtain ⟨w, fx, fr2, b1, b2, b3, b4⟩ := Dens.out1 r n1
  simp only [Den] at b2
  obtain ⟨da, us, fu, c1, c2, zd, qd, ld, rd⟩ := b2
  have efu : fu = [] := Dens.fz _ _ _ hl rd
  subst efu c1 c2
  obtain ⟨us', p1, p2, p3⟩ := put_keys (k := k) dn ld rd
  have ps : fp.Perm (a :: ([da] ++ fr2 ++ rest)) := h3.trans (List.Perm.cons a (List.Perm.append_right rest b3))
  have nd2 := ps.nodup_iff.mp nd
  have fr3 : ∀ b ∈ a :: ([da] ++ fr2 ++ rest), H0 b = none := fun b hb => fr b (ps.symm.mem_iff.mp hb)
  have nda := List.nodup_cons.mp nd2
  have nad : da ≠ a := fun e => nda.1 (by rw [← e]; simp)
  have ndd := List.nodup_cons.mp (show (da :: (fr2 ++ rest)).Nodup from by simpa using nda.2)
  have nd' : ∀ b ∈ fr2 ++ rest, b ≠ da := fun b hb e => ndd.1 (e ▸ hb)
  have la : ∃ y : Mo, H da = some y.o := ⟨.d _, qd⟩
  have own := Dens.own _ _ _ r
  obtain ⟨fq', b5, b6⟩ := b4 (upd H da (.dK (putK (ks.zip us) k v))) (.dct true (putKs k ks) (putVs d k ks ls)) [da] (fun b hb => ⟨(own b (b3.symm.mem_iff.mp (List.mem_append_right _ hb))).1, upd_ne (nd' b (List.mem_append_left _ hb))⟩) (by
    simp only [Den]
    exact ⟨da, us', [], rfl, rfl, zd, by rw [upd_same, p1], p3, Dens.mono (Ex.refl _) _ _ _ (fun _ z => nomatch z) p2⟩)
  have dq : Den K cl Z (upd H da (.dK (putK (ks.zip us) k v))) (.own oa c ns (xs.set n (.dct true (putKs k ks) (putVs d k ks ls)))) (.ref a) (a :: fq') := by
    simp only [Den]
    exact ⟨a, dx, vs, fq', e0, rfl, rfl, za, by rw [upd_ne (fun z => nad z.symm)]; exact q, m, by rw [List.length_set]; exact l, b5⟩
  have sl2 : Slots K cl Z (upd H da (.dK (putK (ks.zip us) k v))) (ρ.set i none) σ rest := Slots.mono (Ex.refl _) (fun b hb => ⟨h4.own1 b hb, upd_ne (nd' b (List.mem_append_right _ hb))⟩) h4
  have li : i < ρ.length := by
    rcases Nat.lt_or_ge i ρ.length with h | h
    · exact h
    · rw [List.getElem?_eq_none h] at hi; cases hi
  obtain ⟨fp', s3, q3⟩ := sl2.in1 (by rw [List.getElem?_set_self li]) h1 dq
  rw [List.set_set] at s3
  have pf : fp'.Perm fp := by
    refine q3.trans ?_
    refine List.Perm.trans ?_ ps.symm
    show (a :: (fq' ++ rest)).Perm _
    exact List.Perm.cons a (List.Perm.append_right rest b6)
  rw [n3]
  have hz0 : H0 da = none := fr3 da (by simp)
  refine ⟨a, dx, ns.zip vs, da, us, h1, q, n4 _ b1, qd, (ld.trans rd.length.symm).symm, ⟨g.z, g.h.mut hz0 la, g.s.mut zd la, g.n⟩, t, fp', s3, pf.symm.nodup_iff.mp nd, fun b hb => fr b (pf.mem_iff.mp hb)⟩
end
def putFO (c fl : Str) (i : Nat) (gk : Env → Ou D) (ρ : Env) (d : D) : Os := match ρ[i]? with
  | some (some (.own oa c' ns xs)) => if c' == c && d.fz then match (ns.zip xs).lookup fl with
    | some (.dct true ks ls) => if D.fzs ls && decide (ks.length < 900) then ofU (gk ρ) ρ fun dk => match keyD dk with
      | some k => .nx (ρ.set i (some (.own oa c' ns (xs.set (ns.idxOf fl) (.dct true (putKs k ks) (putVs d k ks ls))))))
      | none => .bad else .bad
    | _ => .bad else .bad
  | _ => .bad
def sPutF (c fl : Str) (i : Nat) (gk ge : Env → Ou D) : Env → Os := fun ρ => ofU (ge ρ) ρ fun d => putFO c fl i gk ρ d
section
variable {X : Cx} {W : WX} {e ek : Expr} {ge gk : Env → Ou D} {pos pos' p p2 : Pos} {x f c : Str}
theorem DS.putF (C : Ctx X W n) (i : Nat) (he : DE X W e ge) (hk : DB X W ek gk) (T : FldOk X.K f [c]) (hN : X.N[i]? = some x := by rfl) (hv : Vis X.env.scope x := by first | exact Or.inl rfl | exact Or.inr (Or.inl rfl))
    (hd : (x == ("__debug__" : Str)) = false := by decide) (hcd : (x == ("__classdict__" : Str)) = false := by decide) (hs : swapsWith e (some (.Subscript (.Attribute (.Name x p) f p2) ek pos')) pos.line X.env = pure false := by rfl)
    (hb : attributeBase (.Name x p) f X.env (eval (.Name x p) X.env) = eval (.Name x p) X.env := by rfl) :
    DS X W (.Assign [.Subscript (.Attribute (.Name x p) f p2) ek pos'] e pos) (sPutF c f i gk ge) := by
  obtain ⟨T1, T2⟩ := T c List.mem_cons_self
  refine ⟨fun Z0 H0 => PS.weak (ps_dput (by have := C.hr.un; omega) (pe_fld (pv i hN hv hd hcd) hb) hk.run he.run hs) fun E σ H hq => ?_⟩
  obtain ⟨Z, ρ, s, q⟩ := hq
  refine ⟨Z, ρ, s.rel, ?_⟩
  unfold sPutF at q
  cases ec : ge ρ with
  | ok d =>
    rw [ec] at q
    intro v Z1 H1 fp g1 dn nd fr
    have sv := s.val g1 dn nd fr
    replace q : PostS X.K (He.ga X.K) W Z0 H0 E (putFO c f i gk ρ d) := q
    unfold putFO at q
    split at q
    case h_2 => exact q.elim
    rename_i oa c' ns xs hi
    split at q
    case isFalse => exact q.elim
    rename_i cc
    obtain ⟨c1, c2⟩ := band cc
    have c1 := beq_iff_eq.mp c1
    subst c1
    split at q
    case h_2 => exact q.elim
    rename_i ks ls hf
    by_cases cd : (D.fzs ls && decide (ks.length < 900)) = true
    case neg => rw [if_neg cd] at q; exact q.elim
    rw [if_pos cd] at q
    obtain ⟨c3, c4⟩ := band cd
    have c4 := of_decide_eq_true c4
    obtain ⟨a, dx, fs, da, us, b1, b2, b3, b4, b5, _⟩ := sv.dput (k := .inl 0) c2 c3 hi hf
    refine ⟨.ref a, b1, a, _, dx, fs, .ref da, rfl, b2, T1, T2, b3, Z1, ρ, sv.sta.rel, ?_⟩
    cases ek : gk ρ with
    | ok dk =>
      rw [ek] at q
      intro y Z2 H2 f2 g2 dk2
      have q : PostS X.K (He.ga X.K) W Z0 H0 E (match keyD dk with
          | some k => .nx (ρ.set i (some (.own oa c' ns (xs.set (ns.idxOf f) (.dct true (putKs k ks) (putVs d k ks ls))))))
          | none => .bad) := q
      cases e3 : keyD dk with
      | none => rw [e3] at q; exact q.elim
      | some kk =>
        rw [e3] at q
        obtain ⟨a', dx', fs', da', us', d1, d2, d3, d4, d5, d6⟩ := (sv.gr g2).dput (k := kk) c2 c3 hi hf
        rw [b1] at d1
        cases d1
        have e4 := g2.h.l b2
        rw [d2] at e4
        cases e4
        rw [b3] at d3
        cases d3
        refine ⟨da, _, rfl, .inl ⟨_, kk, d4, keyD_den e3 dk2, ?_, rfl⟩, q σ Z2 _ d6⟩
        rw [List.length_zip, d5, Nat.min_self]
        have := sizeLine_eq
        omega
    | ex cn ns' xs' => rw [ek] at q; exact fun dc Z' H' g2 x => q dc σ Z' H' (sv.sta.gr g2) x
    | bad => rw [ek] at q; exact q.elim
  | ex c ns xs => rw [ec] at q; exact fun dc Z' H' g1 x => q dc σ Z' H' (s.gr g1) x
  | bad => rw [ec] at q; exact q
end
end DL
namespace DL
open PySem PySem.Spec PyProof.Rows L2 ClX
variable [Tb]
abbrev dOb (es : List DictEntry) (n : Nat) : Obj := { cls := .type "dict", data := .dict es.toArray n }
section
variable {prog : Program} {w : World} {A : Around} {E : Value → Shared → Prop}
end
def KwCh {α : Type} (D : Addr) : List (Str × Value) → Sem α → Sem α → Prop
  | [], t, r => t = r
  | q :: l, t, r => ∃ (β γ : Type) (k1 : Option Value → Sem β) (k2 : β → Sem γ) (k3 : γ → Sem α) (a : β), t = ((nsGet D q.1 >>= k1) >>= k2) >>= k3 ∧ k1 (some q.2) = pure a ∧ KwCh D l (k2 a >>= k3) r
theorem KwCh.run {α : Type} {K : PySem.W.Frag} {M : Model} {A : Around} {E : Value → Shared → Prop} {D : Addr} {s : Shared} {Q : α → Shared → Prop} (X : K.In s.heap) : ∀ {l : List (Str × Value)} {t r : Sem α}, (∀ q ∈ l, PySem.W.nsIn K D q.1 = some (some q.2)) → KwCh D l t r → wpAny M A r Q E s → wpAny M A t Q E s
  | [], t, r, _, e, q => by
    have e : t = r := e
    rw [e]
    exact q
  | p :: l, t, r, hl, e, q => by
    obtain ⟨β, γ, k1, k2, k3, a, e1, e2, e3⟩ := e
    have l1 : PySem.W.Looks M s.heap (nsGet D p.1 >>= k1) a := (PySem.W.looks_nsIn X (hl p (List.mem_cons_self ..))).andThen (PySem.W.Looks.of_pure e2)
    rw [e1, bind_assoc]
    exact wpAny_bind (l1.here (KwCh.run X (fun p hp => hl p (List.mem_cons_of_mem _ hp)) e3 q))
structure DnOK (P : Program) (w : World) (K : PySem.W.Frag) (mg : Str → Option Value) (base : Heap) (k : Nat) (c : Str) (np : Nat) (ks : List Str) (F : Addr → List D → Ou D) : Prop where
  ex : ∃ f : Addr, Mk K (He.ga K c) f ∧ ∀ (A : Around) (outer : List PySem.Env) (s : Shared) (H : Hp) (us ws : List Value) (vs zs : List V) (Q : VK) (E : XK), Room k A → Env0 P w K mg base A outer s H → Vals vs us → Vals zs ws → vs.length = np + 1 → zs.length = ks.length →
    spO K c (np + ks.length) F (vs ++ zs) H Q E → codeAny (model P w) A (.call (.ref f) ⟨us, ks.zip ws⟩) (CR (L2.CX P w) outer P w H s Q E) s
def kwD (np m : Nat) (dms : List D) (xks : List Str) (ds : List D) : List D := ds.take np ++ ((ds.drop np).take m ++ dms) ++ [.lok (xks.map Sum.inr) (ds.drop (np + m))]
def runOK (n np m : Nat) (dms : List D) (xks : List Str) (t : Addr → Env → Ou D) (a : Addr) (ds : List D) : Ou D := runO n t a (kwD np m dms xks ds)
section
variable {X : Cx} {k np : Nat} {f : Addr} {c : Str} {ks : List Str} {F : Addr → List D → Ou D} {E : XK}
end
section
variable {X : Cx} {W : WX} {k j np : Nat} {e : Expr} {es : List Expr} {kws : List Keyword} {t tk : DL.Env → Ou (List D)} {pos p : Pos} {x : Str} {F : Addr → List D → Ou D} {ks : List Str}
end
end DL
namespace DL
open PySem PySem.Spec PyProof.Rows L2 ClX
variable [Tb]
def compD (j : Nat) (tt : Env → Ou Bool) (tk te : Env → Ou D) (ρ : Env) : List D → List L2.Key → List D → Option (List L2.Key × List D)
  | [], ks, xs => some (ks, xs)
  | d :: ds, ks, xs => if j < ρ.length then (match tt (ρ.set j (some d)) with
    | .ok true => (match tk (ρ.set j (some d)) with
      | .ok y => (match keyD y with
        | some k => (match te (ρ.set j (some d)) with
          | .ok z => if z.fz && decide (ks.length < LIM) then compD j tt tk te ρ ds (putKs k ks) (putVs z k ks xs) else none
          | _ => none)
        | none => none)
      | _ => none)
    | .ok false => compD j tt tk te ρ ds ks xs
    | _ => none) else none
def dDc (fi : Env → Ou (List D)) (j : Nat) (vs : List Nat) (tt : Env → Ou Bool) (tk te : Env → Ou D) : Env → Ou D := fun ρ => fi ρ >>= fun ds => ofO ((compD j tt tk te (wipeE ρ vs) ds [] []).map fun p => D.dct true p.1 p.2)
theorem tDc_of {W : WX} {K : PySem.W.Frag} {cl : Str → Addr} {fi : Env → Ou (List D)} {tt : Env → Ou Bool} {tk te : Env → Ou D} {j : Nat} {vs : List Nat} (hj : j ∈ vs) (σ : L2.St) (H : Hp) (Q : VK) (hq : tD K cl W (dDc fi j vs tt tk te) σ H Q) :
    tDc (tIB K cl W fi) (gName j) (tT K cl W0 tt) (tV K cl W0 tk) (tV K cl W0 te) vs σ H Q := by
  obtain ⟨Z, ρ, r, q⟩ := hq
  refine ⟨Z, ρ, r, ?_⟩
  unfold dDc at q
  cases ef : fi ρ with
  | ex c ns xs => rw [ef] at q; exact q
  | bad => rw [ef] at q; exact q
  | ok ds =>
    rw [ef] at q
    intro J Z1 H1 g1 wk Dl hD
    have q : PostO K cl W Z H σ (ofO ((compD j tt tk te (wipeE ρ vs) ds [] []).map fun p => D.dct true p.1 p.2)) Q := q
    cases ec : compD j tt tk te (wipeE ρ vs) ds [] [] with
    | none => rw [ec] at q; exact q.elim
    | some ys =>
      rw [ec] at q
      have q : PostV K cl Z H (.dct true ys.1 ys.2) Q := q
      have rw0 := (r.gr g1).wipe vs
      let Wd : Nat → Hp → Prop := fun i H' => ∃ (Z' : Hp) (ks : List L2.Key) (xs : List D) (vsA : List V), Gr Z1 H1 Z' H' ∧ Z' Dl = none ∧ H' Dl = some (.dK (ks.zip vsA)) ∧ ks.length = xs.length ∧ Dens K cl Z' H' xs vsA [] ∧ compD j tt tk te (wipeE ρ vs) (ds.drop i) ks xs = some ys
      refine ⟨fun i m H' => m = ds.length - i ∧ i ≤ ds.length ∧ Wd i H', ⟨ds.length, by simp, Nat.zero_le _, Z1, [], [], [], Gr.newO g1.s hD, g1.s.back hD, upd_same, rfl, ⟨rfl, rfl⟩, ec⟩, ?_⟩
      rintro i m H' ⟨rfl, hi', Z', ks, xs, vsA, g', zD, hDl, hl, dn, ecc⟩
      have ez : Ex H1 H' := g'.h
      by_cases hlt : i < ds.length
      · refine .inr ⟨wk.go i H' ez hlt, Wd (i + 1), fun H2 n2 => ⟨ds.length - (i + 1), by omega, rfl, hlt, n2⟩, fun x H2 y => ?_⟩
        obtain ⟨e1, d, ed, dx⟩ := wk.yld i H' x H2 ez hlt y
        subst e1
        have ed' : ds[i] = d := by rw [List.getElem?_eq_getElem hlt] at ed; exact Option.some.inj ed
        rw [List.drop_eq_getElem_cons hlt, ed'] at ecc
        unfold compD at ecc
        split at ecc
        · rename_i hjl
          have dx' : Den K cl Z' H2 d x [] := Den.mono g'.z d x [] (fun _ z => nomatch z) dx
          have r2 := (rw0.gr g').set dx' hjl
          refine ⟨wipe_set hj _, Z', _, r2, ?_⟩
          cases et : tt ((wipeE ρ vs).set j (some d)) with
          | ex c ns xs => rw [et] at ecc; cases ecc
          | bad => rw [et] at ecc; cases ecc
          | ok b =>
            rw [et] at ecc
            intro Z2 H3 g2
            have n2 : H2 Dl ≠ none := by rw [hDl]; exact fun z => nomatch z
            have zD2 := g2.n Dl n2 zD
            have hD2 := g2.h.l hDl
            cases b with
            | false => exact ⟨Z2, ks, xs, vsA, g'.trans g2, zD2, hD2, hl, g2.dens dn, ecc⟩
            | true =>
              refine ⟨Z2, _, r2.gr g2, ?_⟩
              cases ek : tk ((wipeE ρ vs).set j (some d)) with
              | ex c ns xs => rw [ek] at ecc; cases ecc
              | bad => rw [ek] at ecc; cases ecc
              | ok y =>
                rw [ek] at ecc
                dsimp only at ecc
                intro w Z3 H4 fy g3 dy
                cases eky : keyD y with
                | none => rw [eky] at ecc; cases ecc
                | some kk =>
                  rw [eky] at ecc
                  dsimp only at ecc
                  refine ⟨Z3, _, (r2.gr g2).gr g3, ?_⟩
                  cases ee : te ((wipeE ρ vs).set j (some d)) with
                  | ex c ns xs => rw [ee] at ecc; cases ecc
                  | bad => rw [ee] at ecc; cases ecc
                  | ok z =>
                    rw [ee] at ecc
                    dsimp only at ecc
                    intro u Z4 H5 fz g4 dz
                    by_cases hc : (z.fz && decide (ks.length < LIM)) = true
                    · rw [if_pos hc] at ecc
                      obtain ⟨c1, c2⟩ := band hc
                      have c2 := of_decide_eq_true c2
                      have efz := Den.fz _ _ _ c1 dz
                      subst efz
                      have g234 := ((g'.trans g2).trans g3).trans g4
                      have n3 : H3 Dl ≠ none := by rw [hD2]; exact fun z => nomatch z
                      have hD3 := g3.h.l hD2
                      have n4 : H4 Dl ≠ none := by rw [hD3]; exact fun z => nomatch z
                      have hD4 := g4.h.l hD3
                      have zD4 := g4.n Dl n4 (g3.n Dl n3 zD2)
                      obtain ⟨us', p1, p2, p3⟩ := put_keys (k := kk) dz hl (g4.dens (g3.dens (g2.dens dn)))
                      refine ⟨_, kk, keyD_den eky dy, hD4, ?_, Z4, putKs kk ks, putVs z kk ks xs, us', ⟨g234.z, g234.h.mut hD ⟨.d _, hD4⟩, g234.s.mut zD4 ⟨.d _, hD4⟩, g234.n⟩, zD4, by rw [upd_same, p1], p3, Dens.mono (Ex.refl _) _ _ [] (fun _ z => nomatch z) p2, ecc⟩
                      rw [List.length_zip, dn.length, hl, Nat.min_self]
                      rw [hl] at c2
                      exact lim_lt c2
                    · rw [if_neg hc] at ecc; cases ecc
        · cases ecc
      · have e : i = ds.length := by omega
        subst e
        rw [List.drop_length] at ecc
        unfold compD at ecc
        have ey := Option.some.inj ecc
        subst ey
        refine .inl ⟨wk.stop H' ez, q (.ref Dl) Z' H' [Dl] (g1.trans g') ?_ (List.nodup_cons.mpr ⟨by simp, List.nodup_nil⟩) fun a ha => ?_⟩
        · simp only [Den]
          exact ⟨Dl, vsA, [], rfl, rfl, zD, hDl, hl, dn⟩
        · cases List.mem_singleton.mp ha
          exact g1.h.back hD
theorem DE.dc {X : Cx} {W : WX} {k : Nat} {tg iter kx vx : Expr} {pos : Pos} {ifs : List Expr} {scope : Scope} {own : List (Str × Nat)} {fi : Env → Ou (List D)} {tt : Env → Ou Bool} {tk te : Env → Ou D} {j : Nat} (Cc : Ctx X W k) (hi : DIB X W tg iter fi) (ok : BlkOk X.N X.env.scope scope own)
    (hg : ∀ (s : Shared) (H : Hp) (C : Addr) (cl : List (Str × Addr)) (fp : List Addr), PG (X.blk s H scope (compEnvC scope cl C X.env) fp) tg (gName j))
    (ht : ∀ (s : Shared) (H : Hp) (C : Addr) (cl : List (Str × Addr)) (fp : List Addr), DTs (X.blk s H scope (compEnvC scope cl C X.env) fp) W0 ifs tt)
    (hk : ∀ (s : Shared) (H : Hp) (C : Addr) (cl : List (Str × Addr)) (fp : List Addr), DB (X.blk s H scope (compEnvC scope cl C X.env) fp) W0 kx tk)
    (he : ∀ (s : Shared) (H : Hp) (C : Addr) (cl : List (Str × Addr)) (fp : List Addr), DB (X.blk s H scope (compEnvC scope cl C X.env) fp) W0 vx te) (hj : j ∈ own.map (·.2) := by decide) (hs : ∀ x, foldedSetIterable iter X.env x = pure x := by intro _; rfl) :
    DE X W (.DictComp kx vx [⟨tg, iter, ifs, 0⟩] scope pos) (dDc fi j (own.map (·.2)) tt tk te) :=
  ⟨PE.weak (pe_dc (tk := tV X.K (He.ga X.K) W0 tk) (tv := tV X.K (He.ga X.K) W0 te) (tt := tT X.K (He.ga X.K) W0 tt) Cc.calm Cc.nd hi.run ok hg (fun s H C cl fp => (ht s H C cl fp).run) (fun s H C cl fp => (hk s H C cl fp).run) (fun s H C cl fp => (he s H C cl fp).run) hs) (tDc_of hj)⟩
end DL
namespace DL
open PySem PySem.Spec PyProof.Rows L2 ClX
variable [Tb]
def tTruM (f : Env → OuM) : Env → OuB := fun ρ => match f ρ with
  | .ok d ρ' => match tru d with
    | some b => .ok b ρ'
    | none => .bad
  | .ex c ns xs ρ' => .ex c ns xs ρ'
  | .bad => .bad
def tNotM (t : Env → OuB) : Env → OuB := fun ρ => match t ρ with
  | .ok b ρ' => .ok (!b) ρ'
  | .ex c ns xs ρ' => .ex c ns xs ρ'
  | .bad => .bad
def tOfM (p : Env → Ou Bool) : Env → OuB := fun ρ => match p ρ with
  | .ok b => .ok b ρ
  | .ex c ns xs => .ex c ns xs ρ
  | .bad => .bad
def tOrM (t u : Env → OuB) : Env → OuB := fun ρ => match t ρ with
  | .ok b ρ' => if b then .ok true ρ' else u ρ'
  | .ex c ns xs ρ' => .ex c ns xs ρ'
  | .bad => .bad
def tAndM (t u : Env → OuB) : Env → OuB := fun ρ => match t ρ with
  | .ok b ρ' => if b then u ρ' else .ok false ρ'
  | .ex c ns xs ρ' => .ex c ns xs ρ'
  | .bad => .bad
structure DWM (X : Cx) (W : WX) (e : Expr) (f : Env → OuB) : Prop where
  run : ∀ Z0 H0, PW X e fun σ H Q => ∃ Z ρ, Sta X.K (He.ga X.K) Z0 H0 Z H σ ρ ∧ PostTM X.K (He.ga X.K) W Z0 H0 σ (f ρ) Q
section
variable {X : Cx} {W : WX} {e a b : Expr} {fm : Env → OuM} {t u : Env → OuB} {p : Env → Ou Bool} {pos : Pos} {rest : List Expr}
theorem DTM.tru (h : DEM X W e fm) (he : ∀ whole, isTrue e X.env whole = (do let v ← whole; standAt e.pos; holding [v] (truthy v)) := by intro _; rfl) : DTM X W e (tTruM fm) := by
  refine ⟨fun Z0 H0 => PT.weak (pt_truth (h.run Z0 H0) he) fun σ H Q hq => ?_⟩
  obtain ⟨Z, ρ, s, q⟩ := hq
  refine ⟨Z, ρ, s, ?_⟩
  unfold tTruM at q
  cases e1 : fm ρ with
  | bad => rw [e1] at q; exact q.elim
  | ex c ns xs ρ' => rw [e1] at q; exact fun dc Z' H' s' x => q dc Z' H' s' x
  | ok d ρ' =>
    rw [e1] at q
    dsimp only at q
    intro v Z1 H1 s1
    cases e2 : DL.tru d with
    | none => rw [e2] at q; exact q.elim
    | some b =>
      rw [e2] at q
      obtain ⟨g, tt, fp, fq, h1, h2, h3, h4⟩ := s1
      exact ⟨b, tru_ok' g.s h2 e2, q Z1 H1 (StaV.sta ⟨g, tt, fp, fq, h1, h2, h3, h4⟩)⟩
theorem DTM.not (h : DTM X W a t) : DTM X W (.UnaryOp .Not a pos) (tNotM t) := by
  refine ⟨fun Z0 H0 => PT.weak (pt_not (h.run Z0 H0)) fun σ H Q hq => ?_⟩
  obtain ⟨Z, ρ, s, q⟩ := hq
  refine ⟨Z, ρ, s, ?_⟩
  unfold tNotM at q
  cases e1 : t ρ with
  | bad => rw [e1] at q; exact q.elim
  | ex c ns xs ρ' => rw [e1] at q; exact q
  | ok b ρ' => rw [e1] at q; exact q
theorem DTM.of (h : DT X W a p) : DTM X W a (tOfM p) := by
  refine ⟨fun Z0 H0 => PT.weak h.run fun σ H Q hq => ?_⟩
  obtain ⟨Z, ρ, s, q⟩ := hq
  refine ⟨Z, ρ, s.rel, ?_⟩
  unfold tOfM at q
  cases e1 : p ρ with
  | bad => rw [e1] at q; exact q.elim
  | ex c ns xs => rw [e1] at q; exact fun dc Z' H' g1 x => q dc Z' H' (s.gr g1) x
  | ok b => rw [e1] at q; exact fun Z' H' g1 => q Z' H' (s.gr g1)
theorem DTM.ofW (h : DWM X W e t) : DTM X W e t := ⟨fun Z0 H0 => (h.run Z0 H0).pt⟩
theorem DWM.or1 (h : DTM X W a t) : DWM X W (.BoolOp .Or [a] pos) t := ⟨fun Z0 H0 => pw_or1 (h.run Z0 H0)⟩
theorem DWM.or (h : DTM X W a t) (k : DWM X W (.BoolOp .Or (b :: rest) pos) u) : DWM X W (.BoolOp .Or (a :: b :: rest) pos) (tOrM t u) := by
  refine ⟨fun Z0 H0 => PW.weak (pw_or (h.run Z0 H0) (k.run Z0 H0)) fun σ H Q hq => ?_⟩
  obtain ⟨Z, ρ, s, q⟩ := hq
  refine ⟨Z, ρ, s, ?_⟩
  unfold tOrM at q
  cases e1 : t ρ with
  | bad => rw [e1] at q; exact q.elim
  | ex c ns xs ρ' => rw [e1] at q; exact q
  | ok b ρ' =>
    rw [e1] at q
    intro Z1 H1 s1
    cases b with
    | true => exact q Z1 H1 s1
    | false => exact ⟨Z1, ρ', s1, q⟩
theorem DWM.and (h : DTM X W a t) (k : DWM X W (.BoolOp .And (b :: rest) pos) u) : DWM X W (.BoolOp .And (a :: b :: rest) pos) (tAndM t u) := by
  refine ⟨fun Z0 H0 => PW.weak (pw_and (h.run Z0 H0) (k.run Z0 H0)) fun σ H Q hq => ?_⟩
  obtain ⟨Z, ρ, s, q⟩ := hq
  refine ⟨Z, ρ, s, ?_⟩
  unfold tAndM at q
  cases e1 : t ρ with
  | bad => rw [e1] at q; exact q.elim
  | ex c ns xs ρ' => rw [e1] at q; exact q
  | ok b ρ' =>
    rw [e1] at q
    intro Z1 H1 s1
    cases b with
    | true => exact ⟨Z1, ρ', s1, q⟩
    | false => exact q Z1 H1 s1
end
end DL
namespace DL
open PySem PySem.Spec PyProof.Rows L2 ClX
variable [Tb]
section
variable {X : Cx} {W : WX} {tg iter : Expr} {k : Nat}
end
end DL
namespace DL
open PySem PySem.Spec PyProof.Rows L2 ClX
variable [Tb]
noncomputable def dMethE (c m : Str) (F : List D → Ou D) (i : Nat) (f : Env → OuM) : Env → OuM := fun ρ => match takeL [i] ρ with
  | none => .bad
  | some (ios, _) => if isOwn c m ios then match f ρ with
    | .ok d ρ' => match takeL [i] ρ' with
      | none => .bad
      | some (ios', ρ1) => afterM [true, false] F [i] ios' ρ1 [d]
    | .ex c ns xs ρ' => .ex c ns xs ρ'
    | .bad => .bad else .bad
section
variable {X : Cx} {W : WX} {k j n : Nat} {e : Expr} {pos p apos : Pos} {x c m : Str} {F : List D → Ou D} {f : Env → OuM}
end
end DL
namespace DL
open PySem PySem.Spec PyProof.Rows L2 ClX
variable [Tb]
section
variable {K : PySem.W.Frag} {cl : Str → Addr} {Z H Z' H' Z0 H0 : Hp} {σ : L2.St} {ρ : Env} {d : D} {v : V} {fq : Fp}
theorem Sta.withV (s : Sta K cl Z0 H0 Z H σ ρ) (g1 : Gr Z H Z' H') (dn : Den K cl Z' H' d v fq) (nd : fq.Nodup) (fr : ∀ a ∈ fq, H a = none) : StaV K cl Z0 H0 Z' H' σ ρ d v := by
  obtain ⟨g, t, fp, sl, ndp, frp⟩ := s
  have sl1 : Slots K cl Z' H' ρ σ fp := Slots.mono g1.z (fun a ha => by
    obtain ⟨z, xs, q⟩ := Slots.own sl a ha
    exact ⟨g1.n a (by rw [q]; exact Option.some_ne_none _) z, by rw [q]; exact g1.h.l q⟩) sl
  refine ⟨g.trans g1, t.ex g1.z, fp, fq, sl1, dn, ?_, fun a ha => ?_⟩
  · rw [List.nodup_append]
    refine ⟨ndp, nd, fun a ha b hb e => ?_⟩
    subst e
    obtain ⟨z, xs, q⟩ := Slots.own sl a ha
    rw [fr a hb] at q; cases q
  · rcases List.mem_append.mp ha with m | m
    · exact frp a m
    · exact g.h.back (fr a m)
end
def dCmpM (k : D → D → Option Bool) (f : Env → OuM) (g : Env → Ou D) : Env → OuM := fun ρ => match f ρ with
  | .ok d ρ' => match g ρ' with
    | .ok y => match k d y with
      | some b => .ok (.bl b) ρ'
      | none => .bad
    | .ex c ns xs => .ex c ns xs ρ'
    | .bad => .bad
  | .ex c ns xs ρ' => .ex c ns xs ρ'
  | .bad => .bad
def sRetE (f : Env → OuM) : Env → Os := fun ρ => match f ρ with
  | .ok d _ => .rt d
  | .ex c ns xs ρ' => .ex c ns xs ρ'
  | .bad => .bad
def sRetME (b : List Bool) (f : Env → OuM) : Env → Os := fun ρ => match f ρ with
  | .ok d ρ' => match outsE b ρ' with
    | some os => .rt (.wth d os)
    | none => .bad
  | .ex c ns xs ρ' => .ex c ns xs ρ'
  | .bad => .bad
def dCallE (F : List D → Ou D) (f : Env → OuM) : Env → OuM := fun ρ => match f ρ with
  | .ok d ρ' => match callR F [d] with
    | .ok d2 => .ok d2 ρ'
    | .ex c ns xs => .ex c ns xs ρ'
    | .bad => .bad
  | .ex c ns xs ρ' => .ex c ns xs ρ'
  | .bad => .bad
def dBinN (k : D → D → Option D) (i : Nat) (f : Env → OuM) : Env → OuM := fun ρ => match ρ[i]? with
  | some (some _) => match f ρ with
    | .ok y ρ' => match ρ'[i]? with
      | some (some x) => match k x y with
        | some d => .ok d ρ'
        | none => .bad
      | _ => .bad
    | .ex c ns xs ρ' => .ex c ns xs ρ'
    | .bad => .bad
  | _ => .bad
section
variable {X : Cx} {W : WX} {k j n : Nat} {e a : Expr} {pos p : Pos} {x : Str} {F : List D → Ou D} {fm : Env → OuM}
theorem DEM.cmp {op : CmpOp} {r : R2} {k : D → D → Option Bool} {c : Expr} {f2 : Env → Ou D} (ho : OpR X (compareOp op) r) (hk : Op2B X.K (He.ga X.K) r k) (ha : DEM X W a fm) (hb : DB X W c f2) (hm : behindInMarks op c = false) : DEM X W (.Compare a [op] [c] pos) (dCmpM k fm f2) := by
  refine ⟨fun Z0 H0 => PE.weak (pe_cmpR ho (ha.run Z0 H0) hb.run hm) fun σ H Q hq => ?_⟩
  obtain ⟨Z, ρ, s, q⟩ := hq
  refine ⟨Z, ρ, s, ?_⟩
  unfold dCmpM at q
  cases e1 : fm ρ with
  | bad => rw [e1] at q; exact q.elim
  | ex c ns xs ρ' => rw [e1] at q; exact fun dc Z' H' s' x => q dc Z' H' s' x
  | ok d ρ' =>
    rw [e1] at q
    dsimp only at q
    intro v Z1 H1 s1
    refine ⟨Z1, ρ', s1.sta.rel, ?_⟩
    cases e2 : f2 ρ' with
    | bad => rw [e2] at q; exact q.elim
    | ex c ns xs => rw [e2] at q; exact fun dc Z' H' g1 x => q dc Z' H' (s1.sta.gr g1) x
    | ok y =>
      rw [e2] at q
      dsimp only at q
      intro u Z2 H2 fy g2 dy
      have s2 := s1.gr g2
      obtain ⟨g, t, fp, fq, h1, h2, h3, h4⟩ := s2
      cases e3 : k d y with
      | none => rw [e3] at q; exact q.elim
      | some b =>
        rw [e3] at q
        refine hk Z2 H2 d y b v u fq fy _ g.s h2 dy e3 ?_
        exact q _ Z2 H2 (Sta.withV (s1.gr g2).sta (Gr.refl g.s) (show Den X.K (He.ga X.K) Z2 H2 (.bl b) (.bl b) [] from ⟨rfl, rfl⟩) List.nodup_nil fun _ z => nomatch z)
end
end DL
namespace DL
open PySem PySem.Spec PyProof.Rows L2 ClX
variable [Tb]
def LoopP (i : Nat) (a : Addr) (xs : List D) (tg : D → Env → Option Env) (body : Env → Os) : List D → Env → Os → Prop
  | [], ρ, o => ρ[i]? = some (some (.lsa a xs)) ∧ o = .nx (ρ.set i (some (.lst true xs)))
  | d :: ds, ρ, o => ρ[i]? = some (some (.lsa a xs)) ∧ ∃ ρ1, tg d ρ = some ρ1 ∧ match body ρ1 with
    | .nx ρ2 => LoopP i a xs tg body ds ρ2 o
    | .ct ρ2 => LoopP i a xs tg body ds ρ2 o
    | .bk ρ2 => ρ2[i]? = some (some (.lsa a xs)) ∧ o = .nx (ρ2.set i (some (.lst true xs)))
    | .rt d => o = .rt d
    | .ex c ns es ρ2 => ρ2[i]? = some (some (.lsa a xs)) ∧ o = .ex c ns es (ρ2.set i (some (.lst true xs)))
    | .bad => False
def LoopX (i : Nat) (xs : List D) (tg : D → Env → Option Env) (body : Env → Os) (ρ : Env) (o : Os) : Prop := D.fzs xs = true ∧ ∀ a, LoopP i a xs tg body xs (ρ.set i (some (.lsa a xs))) o
open Classical in
noncomputable def sForL (i : Nat) (tg : D → Env → Option Env) (body : Env → Os) : Env → Os := fun ρ => match ρ[i]? with
  | some (some (.lst true xs)) => if h : ∃ o, LoopX i xs tg body ρ o then Classical.choose h else .bad
  | _ => .bad
section
variable {K : PySem.W.Frag} {cl : Str → Addr} {Z H Z' H' Z0 H0 : Hp} {σ : L2.St} {ρ : Env} {d d' : D} {v : V} {fq : Fp}
theorem Slots.put : ∀ {ρ : Env} {σ : L2.St} {fp : Fp} {i : Nat}, Slots K cl Z H ρ σ fp → ρ[i]? = some (some d) → (∀ v f, σ[i]? = some (some v) → Den K cl Z H d v f → Den K cl Z H d' v f) → Slots K cl Z H (ρ.set i (some d')) σ fp
  | [], _, _, _, _, e, _ => by simp at e
  | none :: ρ, σ, fp, 0, _, e, _ => by simp at e
  | none :: ρ, σ, fp, i + 1, h, e, k => by
    obtain ⟨o, σ', e1, r⟩ := h
    subst e1
    exact ⟨o, σ', rfl, Slots.put (i := i) r (by simpa using e) fun v f hv => k v f (by simpa using hv)⟩
  | some d0 :: ρ, σ, fp, 0, h, e, k => by
    obtain ⟨v, σ', f1, f2, e1, e2, q, r⟩ := h
    subst e1
    have e : d0 = d := by simpa using e
    subst e
    exact ⟨v, σ', f1, f2, rfl, e2, k v f1 rfl q, r⟩
  | some d0 :: ρ, σ, fp, i + 1, h, e, k => by
    obtain ⟨v, σ', f1, f2, e1, e2, q, r⟩ := h
    subst e1
    exact ⟨v, σ', f1, f2, rfl, e2, q, Slots.put (i := i) r (by simpa using e) fun v f hv => k v f (by simpa using hv)⟩
theorem Sta.put {i : Nat} (s : Sta K cl Z0 H0 Z H σ ρ) (e : ρ[i]? = some (some d)) (k : ∀ v f, σ[i]? = some (some v) → Den K cl Z H d v f → Den K cl Z H d' v f) : Sta K cl Z0 H0 Z H σ (ρ.set i (some d')) := by
  obtain ⟨g, t, fp, sl, nd, fr⟩ := s
  exact ⟨g, t, fp, sl.put e k, nd, fr⟩
end
section
variable {X : Cx} {W : WX} {k : Nat} {tg : Expr}
end
end DL
namespace DL
open PySem PySem.Spec PyProof.Rows L2 ClX
variable [Tb]
structure DTX (X : Cx) (i : Nat) (a : Addr) (d : Option Addr) (ns : List Str) (xs : List D) (e : Expr) (p : Env → Ou Bool) : Prop where
  run : PT X e (fun σ H Q => σ[i]? = some (some (.ref a)) ∧ ∃ Z ρ, RelS X.K (He.ga X.K) Z H σ ρ ∧ ExD X.K (He.ga X.K) Z H ns xs d ∧ PostT X.K (He.ga X.K) W0 Z H σ (p ρ) Q)
structure DWX (X : Cx) (i : Nat) (a : Addr) (d : Option Addr) (ns : List Str) (xs : List D) (e : Expr) (p : Env → Ou Bool) : Prop where
  run : PW X e (fun σ H Q => σ[i]? = some (some (.ref a)) ∧ ∃ Z ρ, RelS X.K (He.ga X.K) Z H σ ρ ∧ ExD X.K (He.ga X.K) Z H ns xs d ∧ PostT X.K (He.ga X.K) W0 Z H σ (p ρ) Q)
section
variable {X : Cx} {i : Nat} {ad : Addr} {dd : Option Addr} {ns : List Str} {xs : List D} {e a b : Expr} {f g : Env → Ou D} {t u : Env → Ou Bool} {pos : Pos} {rest : List Expr}
theorem DTX.of (h : DT X W0 e t) : DTX X i ad dd ns xs e t := ⟨PT.weak h.run fun σ H Q ⟨_, Z, ρ, r, _, q⟩ => ⟨Z, ρ, r, q⟩⟩
theorem DTX.tru (h : DX X i ad dd ns xs e f) (he : ∀ whole, isTrue e X.env whole = (do let v ← whole; standAt e.pos; holding [v] (truthy v)) := by intro _; rfl) : DTX X i ad dd ns xs e (bTru f) := by
  refine ⟨PT.weak (pt_truth h.run he) fun σ H Q hq => ?_⟩
  obtain ⟨h0, Z, ρ, r, ex, q⟩ := hq
  refine ⟨h0, Z, ρ, r, ex, ?_⟩
  unfold bTru at q
  cases ef : f ρ with
  | ex c ns xs => rw [ef] at q; exact q
  | bad => rw [ef] at q; exact q
  | ok x =>
    rw [ef] at q
    intro v Z1 H1 fp g1 dn nd fr
    have q : PostT X.K (He.ga X.K) W0 Z H σ (ofO (DL.tru x)) Q := q
    match e : DL.tru x with
    | some b =>
      rw [e] at q
      exact ⟨b, tru_ok' g1.s dn e, q Z1 H1 g1⟩
    | none => rw [e] at q; exact q.elim
theorem DTX.not (h : DTX X i ad dd ns xs a t) : DTX X i ad dd ns xs (.UnaryOp .Not a pos) (bNot t) := by
  refine ⟨PT.weak (pt_not h.run) fun σ H Q hq => ?_⟩
  obtain ⟨h0, Z, ρ, r, ex, q⟩ := hq
  refine ⟨h0, Z, ρ, r, ex, ?_⟩
  unfold bNot at q
  cases ef : t ρ with
  | ex c ns xs => rw [ef] at q; exact q
  | bad => rw [ef] at q; exact q
  | ok x => rw [ef] at q; exact fun Z1 H1 g1 => q Z1 H1 g1
theorem DTX.ofW (h : DWX X i ad dd ns xs e t) : DTX X i ad dd ns xs e t := ⟨h.run.pt⟩
theorem DWX.or1 (h : DTX X i ad dd ns xs a t) : DWX X i ad dd ns xs (.BoolOp .Or [a] pos) t := ⟨pw_or1 h.run⟩
theorem DWX.or (h : DTX X i ad dd ns xs a t) (k : DWX X i ad dd ns xs (.BoolOp .Or (b :: rest) pos) u) : DWX X i ad dd ns xs (.BoolOp .Or (a :: b :: rest) pos) (bOr t u) := by
  refine ⟨PW.weak (pw_or h.run k.run) fun σ H Q hq => ?_⟩
  obtain ⟨h0, Z, ρ, r, ex, q⟩ := hq
  refine ⟨h0, Z, ρ, r, ex, ?_⟩
  unfold bOr at q
  cases ef : t ρ with
  | ex c ns xs => rw [ef] at q; exact q
  | bad => rw [ef] at q; exact q
  | ok x =>
    rw [ef] at q
    intro Z1 H1 g1
    cases x with
    | true => exact q Z1 H1 g1
    | false => exact ⟨h0, Z1, ρ, r.gr g1, ex.gr g1, PostT.gr q g1⟩
theorem DSX.if_ {st sf : List Stmt} {g h : Env → Os} (hc : DTX X i ad dd ns xs a t) (ha : DSX X i ad dd ns xs st g) (hb : DSX X i ad dd ns xs sf h) : DSX X i ad dd ns xs [.If a st sf pos] (sIf t g h) := by
  refine ⟨fun Z0 H0 => PSs.weak (pss_cons (ps_if hc.run (ha.run Z0 H0) (hb.run Z0 H0)) pss_nil) fun E σ H hq => ?_⟩
  obtain ⟨h0, Z, ρ, s, ex, q⟩ := hq
  refine ⟨h0, Z, ρ, s.rel, ex, ?_⟩
  unfold sIf at q
  cases ec : t ρ with
  | ex c ns xs => rw [ec] at q; exact fun dc Z' H' g1 x => q dc σ Z' H' (s.gr g1) x
  | bad => rw [ec] at q; exact q
  | ok d =>
    rw [ec] at q
    intro Z' H' g1
    cases d with
    | true => exact ⟨h0, Z', ρ, s.gr g1, ex.gr g1, q⟩
    | false => exact ⟨h0, Z', ρ, s.gr g1, ex.gr g1, q⟩
end
def dOfM (f : Env → Ou D) : Env → OuM := fun ρ => match f ρ with
  | .ok d => .ok d ρ
  | .ex c ns xs => .ex c ns xs ρ
  | .bad => .bad
def dAndM (f g : Env → OuM) : Env → OuM := fun ρ => match f ρ with
  | .ok d ρ' => match DL.tru d with
    | some true => g ρ'
    | some false => .ok d ρ'
    | none => .bad
  | .ex c ns xs ρ' => .ex c ns xs ρ'
  | .bad => .bad
noncomputable def dCallT (F : List D → Ou D) (f : Env → OuM) (g : Env → Ou D) : Env → OuM := fun ρ => match f ρ with
  | .ok d ρ1 => match g (frzE ρ1) with
    | .ok y => match canL [d] with
      | none => .bad
      | some cs => match callM [true, false] F cs (D.frzs [y]) with
        | .ok d2 os => if d2.cln && D.clns os then .ok d2 ρ1 else .bad
        | .ex c ns xs => if D.clns xs && D.clns cs then .ex c ns xs ρ1 else .bad
        | .bad => .bad
    | .ex c ns xs => if D.clns xs then .ex c ns xs ρ1 else .bad
    | .bad => .bad
  | .ex c ns xs ρ' => .ex c ns xs ρ'
  | .bad => .bad
section
variable {X : Cx} {W : WX} {k j : Nat} {e a b : Expr} {pos p : Pos} {x : Str} {F : List D → Ou D} {fm gm : Env → OuM} {f g : Env → Ou D} {rest : List Expr}
theorem DEM.ofE (h : DE X W e f) : DEM X W e (dOfM f) := by
  refine ⟨fun Z0 H0 => PE.weak h.run fun σ H Q hq => ?_⟩
  obtain ⟨Z, ρ, s, q⟩ := hq
  refine ⟨Z, ρ, s.rel, ?_⟩
  unfold dOfM at q
  cases e1 : f ρ with
  | bad => rw [e1] at q; exact q.elim
  | ex c ns xs => rw [e1] at q; exact fun dc Z' H' g1 x => q dc Z' H' (s.gr g1) x
  | ok d => rw [e1] at q; exact fun v Z' H' fp g1 dn nd fr => q v Z' H' (s.withV g1 dn nd fr)
theorem DEM.one {op} (h : DEM X W e fm) : DEM X W (.BoolOp op [e] pos) fm := ⟨fun Z0 H0 => pe_one (h.run Z0 H0)⟩
theorem DEM.and (h : DEM X W a fm) (k : DEM X W (.BoolOp .And (b :: rest) pos) gm) : DEM X W (.BoolOp .And (a :: b :: rest) pos) (dAndM fm gm) := by
  refine ⟨fun Z0 H0 => PE.weak (pe_andT (h.run Z0 H0) (k.run Z0 H0)) fun σ H Q hq => ?_⟩
  obtain ⟨Z, ρ, s, q⟩ := hq
  refine ⟨Z, ρ, s, ?_⟩
  unfold dAndM at q
  cases e1 : fm ρ with
  | bad => rw [e1] at q; exact q.elim
  | ex c ns xs ρ' => rw [e1] at q; exact q
  | ok d ρ' =>
    rw [e1] at q
    dsimp only at q
    intro v Z1 H1 s1
    have s1' := s1
    obtain ⟨g, t, fp, fq, h1, h2, h3, h4⟩ := s1'
    cases e2 : DL.tru d with
    | none => rw [e2] at q; exact q.elim
    | some b =>
      rw [e2] at q
      refine ⟨b, tru_ok' g.s h2 e2, ?_⟩
      cases b with
      | true => exact ⟨Z1, ρ', s1.sta, q⟩
      | false => exact q v Z1 H1 s1
end
end DL
namespace DL
open PySem PySem.Spec PyProof.Rows L2 ClX
variable [Tb]
abbrev NK := PySem.NestedKey
abbrev NKV := List (NK × Addr × V)
abbrev NX : NKV → List (NK × Addr × Value) → Prop := Paired fun (p : NK × Addr × V) (q : NK × Addr × Value) => p.1 = q.1 ∧ p.2.1 = q.2.1 ∧ RelV p.2.2 q.2.2
def NdP (P : Program) (w : World) (a : Addr) (kvs : NKV) (h : Heap) : Prop := kvs.length ≤ sizeLine ∧ (a == sysModules) = false ∧ ∃ xs, NX kvs xs ∧ ∃ o es ep, h.get? a = some o ∧ o.ExactDict ∧ o.data = .dict es ep ∧ es.toList = xs.map (entryOfKey (nestedKind P w)) ∧ (xs.map (·.1)).Nodup
def NdO (P : Program) (w : World) (a : Addr) (kvs : NKV) : HO := .ext (NdP P w a kvs)
def NkOk (P : Program) (w : World) (h : Heap) (kvs : NKV) : Prop := ∀ p ∈ kvs, (nestedKind P w).is h p.1 p.2.1
def lookN (kvs : NKV) (k : NK) : Option V := (kvs.find? fun p => decide (p.1 = k)).map (·.2.2)
def putNn (kvs : NKV) (k : NK) (a : Addr) (v : V) : NKV := if (lookN kvs k).isSome then kvs.map (fun p => if p.1 = k then (p.1, p.2.1, v) else p) else kvs ++ [(k, a, v)]
section
variable {P : Program} {w : World} {H : Hp} {h : Heap} {a : Addr} {kvs : NKV}
theorem nd_ok (p : NdP P w a kvs h) : ObjOk P w H h a (NdO P w a kvs) := by
  refine ⟨p, ?_, fun h1 h2 p1 k => ?_⟩
  · obtain ⟨_, _, _, _, o, _, _, e, _⟩ := p
    exact ⟨o, e⟩
  · obtain ⟨z, y, xs, r, o, es, ep, e, c⟩ := p1
    exact ⟨z, y, xs, r, o, es, ep, k _ e, c⟩
theorem nd_of (ok : HOk P w H h) (e : Rd H a (NdO P w a kvs)) : NdP P w a kvs h := by
  have q : ObjOk P w H h a (NdO P w a kvs) := e.ok ok
  exact q.1
theorem NX.is {xs : List (NK × Addr × Value)} (r : NX kvs xs) (k : NkOk P w h kvs) : ∀ x ∈ xs, (nestedKind P w).is h x.1 x.2.1 := by
  induction r with
  | nil => intro x hx; exact nomatch hx
  | @cons p q ps qs hq t ih =>
    intro x hx
    rcases List.mem_cons.mp hx with e | hx
    · subst e
      have := k p List.mem_cons_self
      rw [hq.1, hq.2.1] at this
      exact this
    · exact ih (fun p hp => k p (List.mem_cons_of_mem _ hp)) x hx
theorem nd_dict (p : NdP P w a kvs h) (k : NkOk P w h kvs) : ∃ xs, NX kvs xs ∧ h.DictOfH (nestedKind P w) a xs := by
  obtain ⟨_, _, xs, r, o, es, ep, h1, h2, h3, h4, h5⟩ := p
  exact ⟨xs, r, o, es, ep, h1, h2, h3, h4, r.is k, h5⟩
theorem NX.val {xs : List (NK × Addr × Value)} (r : NX kvs xs) (k : NK) : RelO (lookN kvs k) ((atKey xs k).map (·.2)) := by
  induction r with
  | nil => exact True.intro
  | @cons p q ps qs h t ih =>
    obtain ⟨h1, _, h2⟩ := h
    by_cases e : p.1 = k
    · have e' : q.1 = k := h1.symm.trans e
      have b : atKey (q :: qs) k = some q.2 := by simp [atKey, List.find?_cons, e']
      have b2 : lookN (p :: ps) k = some p.2.2 := by simp [lookN, List.find?_cons, e]
      rw [b2, b]; exact h2
    · have e' : ¬ q.1 = k := fun z => e (h1.trans z)
      have b : atKey (q :: qs) k = atKey qs k := by simp [atKey, List.find?_cons, e']
      have b2 : lookN (p :: ps) k = lookN ps k := by simp [lookN, List.find?_cons, e]
      rw [b2, b]; exact ih
theorem NX.repl {xs : List (NK × Addr × Value)} (r : NX kvs xs) (k : NK) {y : V} {u : Value} (ry : RelV y u) :
    NX (kvs.map fun p => if p.1 = k then (p.1, p.2.1, y) else p) (xs.map (putAt k u)) := by
  induction r with
  | nil => exact .nil
  | @cons p q ps qs h t ih =>
    rw [List.map_cons, List.map_cons]
    refine .cons ?_ ih
    obtain ⟨h1, h2, h3⟩ := h
    unfold putAt
    by_cases e : p.1 = k
    · rw [if_pos e, if_pos (h1.symm.trans e)]; exact ⟨h1, h2, ry⟩
    · rw [if_neg e, if_neg (fun z => e (h1.trans z))]; exact ⟨h1, h2, h3⟩
theorem NX.put {xs : List (NK × Addr × Value)} (r : NX kvs xs) (k : NK) {b : Addr} {y : V} {u : Value} (ry : RelV y u) : NX (putNn kvs k b y) (storedH xs k b u) := by
  have e : (lookN kvs k).isSome = (atKey xs k).isSome := by
    rw [(r.val k).isSome_eq, Option.isSome_map]
  unfold putNn storedH
  rw [e]
  by_cases q : (atKey xs k).isSome = true
  · rw [if_pos q, if_pos q]; exact r.repl k ry
  · rw [if_neg q, if_neg q]; exact Paired.snoc r ⟨rfl, rfl, ry⟩
theorem putNn_len (k : NK) (b : Addr) (y : V) : (putNn kvs k b y).length ≤ kvs.length + 1 := by
  unfold putNn
  split
  · rw [List.length_map]; omega
  · rw [List.length_append]; simp
theorem nd_empty (h : Heap) (hb : sysModules < h.objs.size) : NdP P w h.objs.size [] (h.push { cls := .type "dict", data := .dict #[] }) :=
  ⟨Nat.zero_le _, beq_eq_false_iff_ne.mpr (Ne.symm (Nat.ne_of_lt hb)), [], .nil, _, #[], 0, Heap.get?_push_size _ rfl, ⟨rfl, rfl, rfl⟩, rfl, rfl, List.nodup_nil⟩
end
section
variable {X : Cx} {pins : List (Addr × Obj)} {σ : L2.St} {H : Hp} {s : Shared} {a b : Addr} {d v : V} {u r : Value} {kvs : NKV} {k : NK} {A : Around} {E : Value → Shared → Prop}
theorem nroom (hu : A.units + 65 < cLine) : (nestedKind X.prog X.w).room A.in1 := by
  show A.units + 1 + 8 < cLine
  omega
theorem n_getItem {Q : Value → Shared → Prop} (hu : A.units + 65 < cLine) (I : Inv X pins σ H s) (e : Rd H a (NdO X.prog X.w a kvs)) (ks : NkOk X.prog X.w s.heap kvs) (kb : (nestedKind X.prog X.w).is s.heap k b) (l : lookN kvs k = some v) (h : ∀ w' s', Inv X pins σ H s' → RelV v w' → Q w' s') :
    wpAny (model X.prog X.w) A (getItem (.ref a) (.ref b)) Q E s := by
  obtain ⟨xs, rel, dd⟩ := nd_dict (nd_of I.hok e) ks
  obtain ⟨w', hw, rw'⟩ := RelO.some_of (v := v) (o := (atKey xs k).map (·.2)) (by rw [← l]; exact rel.val k)
  obtain ⟨p, hp, hp2⟩ := Option.map_eq_some_iff.mp hw
  refine wpAny_getItem_heap (nroom hu) kb dd hp ?_
  rw [hp2]
  exact h w' _ (I.tok _) rw'
theorem n_get2 {Q : Value → Shared → Prop} (hu : A.units + 65 < cLine) (I : Inv X pins σ H s) (e : Rd H a (NdO X.prog X.w a kvs)) (ks : NkOk X.prog X.w s.heap kvs) (kb : (nestedKind X.prog X.w).is s.heap k b) (rd : RelV d r) (h : ∀ w' s', Inv X pins σ H s' → RelV ((lookN kvs k).getD d) w' → Q w' s') :
    wpAny (model X.prog X.w) A (call (.builtin "dict.get") [.ref a, .ref b, r]) Q E s := by
  have p := nd_of I.hok e
  obtain ⟨xs, rel, dd⟩ := nd_dict p ks
  refine call_meetsIn PySem.F.slot_dict_get dd.typeIs PySem.F.entry_dict_get (PySem.F.args_dict_get_3 _ _ _) (meetsH_dict_get_default (nestedKind X.prog X.w) a b p.2.1 r) ⟨nroom hu, k, xs, kb, dd, h _ _ (I.tok _) ?_⟩
  exact (rel.val k).getD rd
theorem n_setItem {Q : Unit → Shared → Prop} (hu : A.units + 65 < cLine) (I : Inv X pins σ H s) (e : H a = some (NdO X.prog X.w a kvs)) (ks : NkOk X.prog X.w s.heap kvs) (kb : (nestedKind X.prog X.w).is s.heap k b) (hl : kvs.length < sizeLine) (rv : RelV v r)
    (h : ∀ s', Inv X pins σ (upd H a (NdO X.prog X.w a (putNn kvs k b v))) s' → Q () s') : wpAny (model X.prog X.w) A (setItem (.ref a) (.ref b) r) Q E s := by
  have p := nd_of I.hok (.inl e)
  obtain ⟨xs, rel, dd⟩ := nd_dict p ks
  have hz : xs.length ≤ sizeLine := by rw [← Paired.length rel]; omega
  refine wpAny_setItem_heap (hsz := hz) (nroom hu) kb dd fun h' dd' hs => h _ ?_
  obtain ⟨q, es, ep, hq, h2, h3, h4, _, h5⟩ := dd'
  refine d_write I (by rw [e]; exact True.intro) hs ⟨q, hq⟩ (nd_ok ⟨?_, p.2.1, _, rel.put k rv, q, es, ep, hq, h2, h3, h4, h5⟩)
  have := putNn_len (kvs := kvs) k b v
  omega
theorem n_new {pos : Pos} : PE X (.Dict [] [] pos) (fun _ H Q => ∀ p, H p = none → (∃ h, NdP X.prog X.w p [] h) → Q (.ref p) (upd H p (NdO X.prog X.w p []))) := ⟨fun pins s σ H Q I h =>
  wpAny_Dict_empty ⟨.ref s.heap.objs.size, _, I.laid (a := s.heap.objs.size) (o := NdO X.prog X.w s.heap.objs.size []) (t' := s.toks) (fun _ _ q => Heap.get?_push_of_some _ q) (Nat.le_refl _) (nd_ok (nd_empty s.heap I.big)), rfl, h _ (I.hok.fresh (Nat.le_refl _)) ⟨_, nd_empty s.heap I.big⟩⟩⟩
end
end DL
namespace DL
open PySem PySem.Spec PyProof.Rows L2 ClX
variable [Tb]
mutual
def nkOf : D → Option NK
  | .non => some .none
  | .bl b => some (.num (if b = true then 1 else 0))
  | .int i => some (.num i)
  | .str x => some (.text x)
  | .tup ds => (nksOf ds).map .tup
  | _ => none
def nksOf : List D → Option (List NK)
  | [] => some []
  | d :: ds => match nkOf d, nksOf ds with
    | some k, some ks => some (k :: ks)
    | _, _ => none
end
mutual
theorem nk_fz : ∀ (d : D) (k : NK), nkOf d = some k → d.fz = true
  | .non, _, _ => rfl
  | .bl _, _, _ => rfl
  | .int _, _, _ => rfl
  | .str _, _, _ => rfl
  | .tup ds, k, h => by
    unfold nkOf at h
    obtain ⟨ks, h1, _⟩ := Option.map_eq_some_iff.mp h
    exact nks_fz ds ks h1
  | .lst _ _, _, h => nomatch h
  | .ins _ _ _, _, h => nomatch h
  | .scr _, _, h => nomatch h
  | .adr _, _, h => nomatch h
  | .cls _, _, h => nomatch h
  | .err _ _ _, _, h => nomatch h
  | .own _ _ _ _, _, h => nomatch h
  | .lsa _ _, _, h => nomatch h
  | .dct _ _ _, _, h => nomatch h
  | .lok _ _, _, h => nomatch h
  | .wth _ _, _, h => nomatch h
  | .pin _, _, h => nomatch h
theorem nks_fz : ∀ (ds : List D) (ks : List NK), nksOf ds = some ks → D.fzs ds = true
  | [], _, _ => rfl
  | d :: ds, ks, h => by
    unfold nksOf at h
    cases e1 : nkOf d with
    | none => rw [e1] at h; cases h
    | some k =>
      cases e2 : nksOf ds with
      | none => rw [e1, e2] at h; cases h
      | some ks2 =>
        show (d.fz && D.fzs ds) = true
        rw [nk_fz d k e1, nks_fz ds ks2 e2]; rfl
end
section
variable {X : Cx} {pins : List (Addr × Obj)} {σ : L2.St} {H Z : Hp} {s : Shared} {cl : Str → Addr}
mutual
theorem nk_is (I : Inv X pins σ H s) (ez : Ex Z H) : ∀ (d : D) (k : NK) (v : V) (u : Value), Den X.K cl Z H d v [] → nkOf d = some k → RelV v u → NestedIs s.heap k u
  | .non, k, v, u, h, e, r => by
    cases e
    obtain ⟨rfl, _⟩ := h
    cases (show u = Value.none from r)
    exact .none
  | .bl b, k, v, u, h, e, r => by
    cases e
    obtain ⟨rfl, _⟩ := h
    cases (show u = Value.bool b from r)
    exact .bool rfl
  | .int i, k, v, u, h, e, r => by
    cases e
    obtain ⟨rfl, _⟩ := h
    obtain ⟨t, e2⟩ := (show ∃ t, u = Value.int i t from r)
    subst e2
    exact .int i t
  | .str x, k, v, u, h, e, r => by
    cases e
    obtain ⟨rfl, _⟩ := h
    obtain ⟨t, e2⟩ := (show ∃ t, u = Value.str x t from r)
    subst e2
    exact .text x t
  | .tup ds, k, v, u, h, e, r => by
    unfold nkOf at e
    obtain ⟨ks, e1, e2⟩ := Option.map_eq_some_iff.mp e
    subst e2
    simp only [Den] at h
    obtain ⟨a, vs, e3, sq, dn⟩ := h
    subst e3
    cases (show u = Value.ref a from r)
    obtain ⟨its, rr, ⟨o, h1, h2, n, h3⟩, _⟩ := I.tuple (ez.sqT sq)
    exact .tup h1 h2 h3 (nks_is I ez ds ks vs its dn e1 rr)
  | .lst _ _, _, _, _, _, e, _ => nomatch e
  | .ins _ _ _, _, _, _, _, e, _ => nomatch e
  | .scr _, _, _, _, _, e, _ => nomatch e
  | .adr _, _, _, _, _, e, _ => nomatch e
  | .cls _, _, _, _, _, e, _ => nomatch e
  | .err _ _ _, _, _, _, _, e, _ => nomatch e
  | .own _ _ _ _, _, _, _, _, e, _ => nomatch e
  | .lsa _ _, _, _, _, _, e, _ => nomatch e
  | .dct _ _ _, _, _, _, _, e, _ => nomatch e
  | .lok _ _, _, _, _, _, e, _ => nomatch e
  | .wth _ _, _, _, _, _, e, _ => nomatch e
  | .pin _, _, _, _, _, e, _ => nomatch e
theorem nks_is (I : Inv X pins σ H s) (ez : Ex Z H) : ∀ (ds : List D) (ks : List NK) (vs : List V) (us : List Value), Dens X.K cl Z H ds vs [] → nksOf ds = some ks → Vals vs us → NestedAll s.heap ks us
  | [], ks, vs, us, h, e, r => by
    cases e
    have h1 : vs = [] := h.1
    subst h1
    cases r
    exact .nil
  | d :: ds, ks, vs, us, h, e, r => by
    obtain ⟨v, vr, f1, f2, e1, e2, q, t⟩ := h.cons'
    obtain ⟨e3, e4⟩ := List.append_eq_nil_iff.mp e2.symm
    subst e1 e3 e4
    unfold nksOf at e
    cases k1 : nkOf d with
    | none => rw [k1] at e; cases e
    | some k =>
      cases k2 : nksOf ds with
      | none => rw [k1, k2] at e; cases e
      | some ks2 =>
        rw [k1, k2] at e
        cases e
        cases r with
        | cons r1 r2 => exact .cons (nk_is I ez d k v _ q k1 r1) (nks_is I ez ds ks2 vr _ t k2 r2)
end
end
theorem Ex.chgC {H H1 H2 : Hp} (e : Ex H H1) (k : ∀ a, H2 a = H1 a ∨ (H a = none ∧ ∀ q, H1 a ≠ some (LamX.CodeO a q))) : Ex H H2 := by
  have same : ∀ a, H a ≠ none → H2 a = H1 a := fun a h => (k a).elim id fun z => absurd z.1 h
  refine ⟨fun a o n h => (same a (by rw [h]; exact fun z => nomatch z)).trans (e.at_ a o n h), fun a h => by rw [same a h]; exact e.ne a h, fun P q m h => ?_⟩
  obtain ⟨ps, h1, h2, h3⟩ := e.tab P q m h
  refine ⟨ps, (same P (tabS_ne h)).trans h1, h2, fun pos cv hc => ?_⟩
  obtain ⟨c, e1, e2⟩ := h3 pos cv hc
  refine ⟨c, e1, ?_⟩
  rcases k c with z | ⟨_, z⟩
  · rw [z]; exact e2
  · exact absurd e2 (z q)
theorem nd_noC {P : Program} {w : World} {d : Addr} {kvs : NKV} (hh : ∃ h, NdP P w d kvs h) (q : Str) : some (NdO P w d kvs) ≠ some (LamX.CodeO d q) := fun e => by
  obtain ⟨h, p⟩ := hh
  have e := Option.some.inj e
  unfold NdO LamX.CodeO at e
  have e := HO.ext.inj e
  have p2 := p
  rw [e] at p2
  obtain ⟨_, _, xs, _, o, es, ep, h1, _, h3, _⟩ := p
  obtain ⟨oc, vs, t, k1, k2, _⟩ := p2
  rw [h1] at k1
  cases k1
  rw [h3] at k2
  cases k2
abbrev KD := List (NK × D × Int)
def kvsOf (kd : KD) (qs : List Addr) : NKV := (kd.zip qs).map fun p => (p.1.1, p.2, V.int p.1.2.2)
def lookNk (kd : KD) (k : NK) : Option Int := (kd.find? fun p => decide (p.1 = k)).map (·.2.2)
def putNk (kd : KD) (k : NK) (x : D) (n : Int) : KD := if (lookNk kd k).isSome then kd.map (fun p => if p.1 = k then (p.1, p.2.1, n) else p) else kd ++ [(k, x, n)]
def KdOk (kd : KD) : Prop := ∀ p ∈ kd, nkOf p.2.1 = some p.1 ∧ p.1.depth ≤ 8
theorem kvs_cons (p : NK × D × Int) (kd : KD) (q : Addr) (qs : List Addr) : kvsOf (p :: kd) (q :: qs) = (p.1, q, V.int p.2.2) :: kvsOf kd qs := rfl
theorem look_kvs (k : NK) : ∀ (kd : KD) (qs : List Addr), qs.length = kd.length → lookN (kvsOf kd qs) k = (lookNk kd k).map V.int
  | [], qs, _ => rfl
  | p :: kd, [], h => by cases h
  | p :: kd, q :: qs, h => by
    have ih := look_kvs k kd qs (Nat.succ.inj h)
    rw [kvs_cons]
    by_cases e : p.1 = k
    · simp [lookN, lookNk, List.find?_cons, e]
    · have a : lookN ((p.1, q, V.int p.2.2) :: kvsOf kd qs) k = lookN (kvsOf kd qs) k := by simp [lookN, List.find?_cons, e]
      have b : lookNk (p :: kd) k = lookNk kd k := by simp [lookNk, List.find?_cons, e]
      rw [a, b, ih]
theorem repl_kvs (k : NK) (n : Int) : ∀ (kd : KD) (qs : List Addr), (kvsOf kd qs).map (fun p => if p.1 = k then (p.1, p.2.1, V.int n) else p) = kvsOf (kd.map fun p => if p.1 = k then (p.1, p.2.1, n) else p) qs
  | [], qs => rfl
  | p :: kd, [] => by simp [kvsOf]
  | p :: kd, q :: qs => by
    rw [kvs_cons, List.map_cons, List.map_cons, repl_kvs k n kd qs]
    by_cases e : p.1 = k
    · rw [if_pos e, if_pos e]; rfl
    · rw [if_neg e, if_neg e]; rfl
theorem put_kvs (k : NK) (b : Addr) (x : D) (n : Int) (kd : KD) (qs : List Addr) (h : qs.length = kd.length) : ∃ qs', putNn (kvsOf kd qs) k b (.int n) = kvsOf (putNk kd k x n) qs' ∧ qs'.length = (putNk kd k x n).length ∧ (((lookNk kd k).isSome = true ∧ qs' = qs) ∨ ((lookNk kd k).isSome = false ∧ qs' = qs ++ [b])) := by
  unfold putNn putNk
  rw [look_kvs k kd qs h, Option.isSome_map]
  cases c : (lookNk kd k).isSome with
  | true =>
    rw [if_pos rfl, if_pos rfl]
    exact ⟨qs, repl_kvs k n kd qs, by rw [List.length_map]; exact h, .inl ⟨rfl, rfl⟩⟩
  | false =>
    rw [if_neg Bool.false_ne_true, if_neg Bool.false_ne_true]
    refine ⟨qs ++ [b], ?_, by rw [List.length_append, List.length_append, h]; rfl, .inr ⟨rfl, rfl⟩⟩
    unfold kvsOf
    rw [List.zip_append h.symm, List.map_append]
    rfl
theorem kd_put {kd : KD} (h : KdOk kd) {k : NK} {x : D} (n : Int) (hx : nkOf x = some k) (hk : k.depth ≤ 8) : KdOk (putNk kd k x n) := by
  unfold putNk
  split
  · intro p hp
    obtain ⟨p0, h0, e⟩ := List.mem_map.mp hp
    have := h p0 h0
    split at e
    · subst e; exact this
    · subst e; exact this
  · intro p hp
    rcases List.mem_append.mp hp with m | m
    · exact h p m
    · cases List.mem_singleton.mp m
      exact ⟨hx, hk⟩
theorem put_keys2 {kd : KD} {k : NK} {x : D} (n : Int) : (lookNk kd k).isSome = true → (putNk kd k x n).map (·.2.1) = kd.map (·.2.1) := fun h => by
  unfold putNk
  rw [if_pos h, List.map_map]
  apply List.map_congr_left
  intro p _
  show (if p.1 = k then (p.1, p.2.1, n) else p).2.1 = p.2.1
  split <;> rfl
theorem put_keys3 {kd : KD} {k : NK} {x : D} (n : Int) : (lookNk kd k).isSome = false → (putNk kd k x n).map (·.2.1) = kd.map (·.2.1) ++ [x] := fun h => by
  unfold putNk
  rw [if_neg (by rw [h]; exact Bool.false_ne_true), List.map_append]
  rfl
structure HidK (X : Cx) (Z0 H0 Z H : Hp) (ρ : Env) (i : Nat) (kd : KD) (d : Addr) (qs : List Addr) : Prop where
  pin : ρ[i]? = some (some (.pin d))
  z : Z d = none
  h0 : H0 d = none
  h : H d = some (NdO X.prog X.w d (kvsOf kd qs))
  hh : ∃ h, NdP X.prog X.w d (kvsOf kd qs) h
  len : qs.length = kd.length
  keys : Dens X.K (He.ga X.K) Z H (kd.map (·.2.1)) (qs.map V.ref) []
  ok : KdOk kd
structure StaK (X : Cx) (Z0 H0 Z H : Hp) (σ : L2.St) (ρ : Env) (i : Nat) (kd : KD) : Prop where
  s : Sta X.K (He.ga X.K) Z0 H0 Z H σ ρ
  e : ∃ d qs, HidK X Z0 H0 Z H ρ i kd d qs
section
variable {X : Cx} {pins : List (Addr × Obj)} {Z0 H0 Z H Z' H' : Hp} {σ σ' : L2.St} {ρ ρ' : Env} {i : Nat} {kd : KD} {d : Addr} {qs : List Addr} {s : Shared}
theorem HidK.gr (k : HidK X Z0 H0 Z H ρ i kd d qs) (g : Gr Z H Z' H') : HidK X Z0 H0 Z' H' ρ i kd d qs :=
  ⟨k.pin, g.n d (by rw [k.h]; exact fun z => nomatch z) k.z, k.h0, g.h.l k.h, k.hh, k.len, g.dens k.keys, k.ok⟩
theorem StaK.gr (st : StaK X Z0 H0 Z H σ ρ i kd) (g : Gr Z H Z' H') : StaK X Z0 H0 Z' H' σ ρ i kd := by
  obtain ⟨d, qs, k⟩ := st.e
  exact ⟨st.s.gr g, d, qs, k.gr g⟩
theorem HidK.env (k : HidK X Z0 H0 Z H ρ i kd d qs) (e : ρ'[i]? = ρ[i]?) : HidK X Z0 H0 Z H ρ' i kd d qs := ⟨e.trans k.pin, k.z, k.h0, k.h, k.hh, k.len, k.keys, k.ok⟩
theorem kvs_is (I : Inv X pins σ H s) (ez : Ex Z H) : ∀ (kd : KD) (qs : List Addr), KdOk kd → Dens X.K (He.ga X.K) Z H (kd.map (·.2.1)) (qs.map V.ref) [] → NkOk X.prog X.w s.heap (kvsOf kd qs)
  | [], qs, _, _ => fun p hp => by cases hp
  | p :: kd, [], _, dn => by
    obtain ⟨v, vr, f1, f2, e1, e2, q, t⟩ := dn.cons'
    cases e1
  | p :: kd, q :: qs, ok, dn => by
    obtain ⟨v, vr, f1, f2, e1, e2, dq, t⟩ := dn.cons'
    obtain ⟨e3, e4⟩ := List.append_eq_nil_iff.mp e2.symm
    subst e3 e4
    have e1 : V.ref q :: qs.map V.ref = v :: vr := e1
    injection e1 with e5 e6
    subst e5 e6
    intro y hy
    rw [kvs_cons] at hy
    rcases List.mem_cons.mp hy with m | m
    · subst m
      obtain ⟨o1, o2⟩ := ok p List.mem_cons_self
      exact ⟨nk_is I ez p.2.1 p.1 (.ref q) (.ref q) dq o1 rfl, o2⟩
    · exact kvs_is I ez kd qs (fun z hz => ok z (List.mem_cons_of_mem _ hz)) t y m
theorem StaK.put {k : NK} {x : D} {b : Addr} (st : Sta X.K (He.ga X.K) Z0 H0 Z H σ ρ) (hd : HidK X Z0 H0 Z H ρ i kd d qs) (n : Int) (dx : Den X.K (He.ga X.K) Z H x (.ref b) []) (hx : nkOf x = some k) (hk : k.depth ≤ 8) (hn : ∃ h, NdP X.prog X.w d (putNn (kvsOf kd qs) k b (.int n)) h) :
    StaK X Z0 H0 Z (upd H d (NdO X.prog X.w d (putNn (kvsOf kd qs) k b (.int n)))) σ ρ i (putNk kd k x n) := by
  obtain ⟨qs', e1, e2, e3⟩ := put_kvs k b x n kd qs hd.len
  rw [e1] at hn ⊢
  obtain ⟨g, t, fp, sl, nd, fr⟩ := st
  have noc : ∀ q, H d ≠ some (LamX.CodeO d q) := fun q => by rw [hd.h]; exact nd_noC hd.hh q
  have chg : ∀ {Y : Hp}, Ex Y H → Y d = none → Ex Y (upd H d (NdO X.prog X.w d (kvsOf (putNk kd k x n) qs'))) := fun {Y} e y => e.chgC fun a => by
    by_cases c : a = d
    · subst c; exact .inr ⟨y, noc⟩
    · exact .inl (upd_ne c)
  have nin : d ∉ fp := fun m => by
    obtain ⟨_, xs, e⟩ := Slots.own sl d m
    rw [hd.h] at e
    have e := Option.some.inj e
    cases xs <;> cases e
  have mono : ∀ {ds vs}, Dens X.K (He.ga X.K) Z H ds vs [] → Dens X.K (He.ga X.K) Z (upd H d (NdO X.prog X.w d (kvsOf (putNk kd k x n) qs'))) ds vs [] := fun h => Dens.mono (Ex.refl Z) _ _ [] (fun _ z => nomatch z) h
  refine ⟨⟨⟨g.z, chg g.h hd.h0, chg g.s hd.z, g.n⟩, t, fp, Slots.mono (Ex.refl Z) (fun a ha => ⟨(Slots.own sl a ha).1, upd_ne fun c => nin (c ▸ ha)⟩) sl, nd, fr⟩, d, qs', hd.pin, hd.z, hd.h0, upd_same, hn, e2, ?_, kd_put hd.ok n hx hk⟩
  rcases e3 with ⟨c, rfl⟩ | ⟨c, rfl⟩
  · rw [put_keys2 n c]
    exact mono hd.keys
  · rw [put_keys3 n c, List.map_append]
    have := hd.keys.append (Dens.cons dx (show Dens X.K (He.ga X.K) Z H [] [] [] from ⟨rfl, rfl⟩))
    exact mono (by simpa using this)
theorem StaK.rebase (st : StaK X Z0 H0 Z H σ ρ i kd) : ∃ Hl, Gr Z0 H0 Z Hl ∧ StaK X Z Hl Z H σ ρ i kd := by
  obtain ⟨⟨g, t, fp, sl, nd, fr⟩, d, qs, hd⟩ := st
  have noc : ∀ q, H d ≠ some (LamX.CodeO d q) := fun q => by rw [hd.h]; exact nd_noC hd.hh q
  have cut : ∀ {Y : Hp}, Ex Y H → (∀ a ∈ d :: fp, Y a = none) → Ex Y (cutH H (d :: fp)) := fun {Y} e k => e.chgC fun a => by
    by_cases m : a ∈ d :: fp
    · refine .inr ⟨k a m, fun q => ?_⟩
      rcases List.mem_cons.mp m with c | c
      · subst c; exact noc q
      · obtain ⟨_, xs, e⟩ := Slots.own sl a c
        rw [e]
        exact fun z => Mo.nCode' z.symm
    · exact .inl (if_neg m)
  have sub : Ex (cutH H (d :: fp)) H := cutH_sub
  have nin : d ∉ fp := fun m => by
    obtain ⟨_, xs, e⟩ := Slots.own sl d m
    rw [hd.h] at e
    have e := Option.some.inj e
    cases xs <;> cases e
  refine ⟨cutH H (d :: fp), ⟨g.z, cut g.h (fun a ha => ?_), cut g.s (fun a ha => ?_), g.n⟩, ⟨⟨Ex.refl _, sub, g.s, fun _ _ z => z⟩, t, fp, sl, nd, fun a ha => if_pos (List.mem_cons_of_mem _ ha)⟩, d, qs, hd.pin, hd.z, if_pos List.mem_cons_self, hd.h, hd.hh, hd.len, hd.keys, hd.ok⟩
  · rcases List.mem_cons.mp ha with c | c
    · subst c; exact hd.h0
    · exact fr a c
  · rcases List.mem_cons.mp ha with c | c
    · subst c; exact hd.z
    · exact (Slots.own sl a c).1
theorem StaK.unbase (g : Gr Z0 H0 Z' H') (st : StaK X Z' H' Z H σ ρ i kd) : StaK X Z0 H0 Z H σ ρ i kd := by
  obtain ⟨s, d, qs, hd⟩ := st
  exact ⟨s.unbase g, d, qs, hd.pin, hd.z, g.h.back hd.h0, hd.h, hd.hh, hd.len, hd.keys, hd.ok⟩
end
end DL
namespace DL
open PySem PySem.Spec PyProof.Rows L2 ClX
variable [Tb]
abbrev GK := Env → KD → Option (Env × KD)
def tK (X : Cx) (Z0 H0 : Hp) (i : Nat) (g : GK) : TS := fun E σ H => ∃ Z ρ kd, StaK X Z0 H0 Z H σ ρ i kd ∧ ∃ ρ' kd', g ρ kd = some (ρ', kd') ∧ ∀ σ' Z' H', StaK X Z0 H0 Z' H' σ' ρ' i kd' → E.nx σ' H'
structure DSK (X : Cx) (i : Nat) (st : Stmt) (g : GK) : Prop where
  run : ∀ Z0 H0, PS X st (tK X Z0 H0 i g)
structure DSKl (X : Cx) (i : Nat) (sts : List Stmt) (g : GK) : Prop where
  run : ∀ Z0 H0, PSs X sts (tK X Z0 H0 i g)
def hkNil : GK := fun ρ kd => some (ρ, kd)
def gSeq (g h : GK) : GK := fun ρ kd => (g ρ kd).bind fun p => h p.1 p.2
def gIf (p : Env → Ou Bool) (g h : GK) : GK := fun ρ kd => match p ρ with
  | .ok b => if b then g ρ kd else h ρ kd
  | _ => none
def loopK (tg : D → Env → Option Env) (body : GK) : List D → GK
  | [], ρ, kd => some (ρ, kd)
  | d :: ds, ρ, kd => (tg d ρ).bind fun ρ1 => (body ρ1 kd).bind fun p => loopK tg body ds p.1 p.2
def gFor (fi : Env → Ou (List D)) (tg : D → Env → Option Env) (body : GK) : GK := fun ρ kd => match fi ρ with
  | .ok ds => loopK tg body ds ρ kd
  | _ => none
section
variable {X : Cx} {W : WX} {k i : Nat} {g h : GK} {st : Stmt} {rest sa sb : List Stmt} {c tg iter : Expr} {p : Env → Ou Bool} {pos : Pos}
theorem DSKl.nil : DSKl X i [] hkNil := ⟨fun Z0 H0 => PSs.weak pss_nil fun E σ H ⟨Z, ρ, kd, s, ρ', kd', e, q⟩ => by
  cases e
  exact q σ Z H s⟩
theorem DSKl.cons (h1 : DSK X i st g) (h2 : DSKl X i rest h) : DSKl X i (st :: rest) (gSeq g h) := by
  refine ⟨fun Z0 H0 => PSs.weak (pss_cons (h1.run Z0 H0) (h2.run Z0 H0)) fun E σ H hq => ?_⟩
  obtain ⟨Z, ρ, kd, s, ρ', kd', e, q⟩ := hq
  unfold gSeq at e
  obtain ⟨⟨ρ1, kd1⟩, e1, e2⟩ := Option.bind_eq_some_iff.mp e
  exact ⟨Z, ρ, kd, s, ρ1, kd1, e1, fun σ' Z' H' s' => ⟨Z', ρ1, kd1, s', ρ', kd', e2, q⟩⟩
theorem DSK.if_ (hc : DT X W0 c p) (ha : DSKl X i sa g) (hb : DSKl X i sb h) : DSK X i (.If c sa sb pos) (gIf p g h) := by
  refine ⟨fun Z0 H0 => PS.weak (ps_if hc.run (ha.run Z0 H0) (hb.run Z0 H0)) fun E σ H hq => ?_⟩
  obtain ⟨Z, ρ, kd, s, ρ', kd', e, q⟩ := hq
  refine ⟨Z, ρ, s.s.rel, ?_⟩
  unfold gIf at e
  cases ec : p ρ with
  | ok b =>
    rw [ec] at e
    intro Z' H' g1
    cases b with
    | true => exact ⟨Z', ρ, kd, s.gr g1, ρ', kd', e, q⟩
    | false => exact ⟨Z', ρ, kd, s.gr g1, ρ', kd', e, q⟩
  | ex c ns xs => rw [ec] at e; cases e
  | bad => rw [ec] at e; cases e
theorem DSK.for_ {body : List Stmt} {fi : Env → Ou (List D)} {tgt : D → Env → Option Env} (C : Ctx X W k) (hi : DI X W tg iter fi) (ht : DG X tg tgt) (hT : ∀ d ρ ρ1, tgt d ρ = some ρ1 → ρ1[i]? = ρ[i]?) (hb : DSKl X i body g) (hs : ∀ x, foldedSetIterable iter X.env x = pure x := by intro _; rfl) :
    DSK X i (.For tg iter body [] pos) (gFor fi tgt g) := by
  refine ⟨fun Z0 H0 => PS.weak (ps_for C.po C.calm hi.run ht.run (tb := fun E σ H => ∃ Zl Hl, tK X Zl Hl i g E σ H) ⟨fun pins s σ H E I ⟨Zl, Hl, q⟩ => (hb.run Zl Hl).run pins s σ H E I q⟩ hs) fun E σ H hq => ?_⟩
  obtain ⟨Z, ρ, kd, st, ρe, kde, eg, q⟩ := hq
  refine ⟨Z, ρ, st.s.rel, ?_⟩
  unfold gFor at eg
  cases ef : fi ρ with
  | ex c ns xs => rw [ef] at eg; cases eg
  | bad => rw [ef] at eg; cases eg
  | ok ds =>
    rw [ef] at eg
    intro J Z1 H1 g1 wk
    obtain ⟨Hl, gl, stl⟩ := (st.gr g1).rebase
    refine ⟨fun j m σ' H' => m = ds.length - j ∧ j ≤ ds.length ∧ ∃ Z' ρ' kd', StaK X Z1 Hl Z' H' σ' ρ' i kd' ∧ loopK tgt g (ds.drop j) ρ' kd' = some (ρe, kde), ⟨ds.length, by simp, Nat.zero_le _, Z1, ρ, kd, stl, eg⟩, ?_⟩
    rintro j m σ' H' ⟨rfl, hj', Z', ρ', kd', st', q'⟩
    have ez : Ex Z1 H' := st'.s.g.z.trans st'.s.g.s
    by_cases hlt : j < ds.length
    · refine .inr ⟨wk.go j H' ez hlt, fun σ2 H2 => ∃ Z' ρ' kd', StaK X Z1 Hl Z' H2 σ2 ρ' i kd' ∧ loopK tgt g (ds.drop (j + 1)) ρ' kd' = some (ρe, kde), fun σ2 H2 n2 => ⟨ds.length - (j + 1), by omega, rfl, hlt, n2⟩, fun x H2 y => ?_⟩
      obtain ⟨e1, d, ed, dn⟩ := wk.yld j H' x H2 ez hlt y
      subst e1
      have ed' : ds[j] = d := by rw [List.getElem?_eq_getElem hlt] at ed; exact Option.some.inj ed
      rw [List.drop_eq_getElem_cons hlt, ed'] at q'
      unfold loopK at q'
      obtain ⟨ρ1, et, q'⟩ := Option.bind_eq_some_iff.mp q'
      obtain ⟨⟨ρ2, kd2⟩, eg2, q'⟩ := Option.bind_eq_some_iff.mp q'
      obtain ⟨dd, qs, hd⟩ := st'.e
      exact ⟨Z1, Hl, Z', ρ', d, ρ1, st'.s, Den.mono st'.s.g.z d x [] (fun _ z => nomatch z) dn, et, fun σ2 st2 => ⟨Z1, Hl, Z', ρ1, kd', ⟨st2, dd, qs, hd.env (hT _ _ _ et)⟩, ρ2, kd2, eg2, fun σ3 Z3 H3 st3 => ⟨Z3, ρ2, kd2, st3, q'⟩⟩⟩
    · have e : j = ds.length := by omega
      subst e
      rw [List.drop_length] at q'
      cases q'
      exact .inl ⟨wk.stop H' ez, q σ' Z' H' (st'.unbase gl)⟩
end
def NRd (X : Cx) (σ : L2.St) (H : Hp) (a : Addr) (kvs : NKV) (k : NK) (y : V) : Prop := Rd H a (NdO X.prog X.w a kvs) ∧ ∃ b, y = .ref b ∧ ∀ pins s, Inv X pins σ H s → NkOk X.prog X.w s.heap kvs ∧ (nestedKind X.prog X.w).is s.heap k b
section
variable {X : Cx} {o e f i : Expr} {apos cpos pos : Pos} {td ty tx : TE}
theorem nd_typeIs {pins : List (Addr × Obj)} {σ : L2.St} {H : Hp} {s : Shared} {a : Addr} {kvs : NKV} (I : Inv X pins σ H s) (e : Rd H a (NdO X.prog X.w a kvs)) : s.TypeIs (.ref a) "dict" ∧ (∀ b, Value.ref a = .ref b → ∃ ob, s.heap.get? b = some ob ∧ ob.dict = none) := by
  obtain ⟨_, _, xs, _, ob, _, _, h1, h2, _⟩ := nd_of I.hok e
  refine ⟨⟨ob, h1, h2.1⟩, fun b q => ?_⟩
  cases q
  exact ⟨ob, h1, h2.2.1⟩
def tNGet2 (X : Cx) (td ty tx : TE) : TE := fun σ H Q => td σ H fun x H1 => ∃ a, x = .ref a ∧ (∃ kvs, Rd H1 a (NdO X.prog X.w a kvs)) ∧ ty σ H1 fun y H2 => tx σ H2 fun z H3 => ∃ kvs k, NRd X σ H3 a kvs k y ∧ Q ((lookN kvs k).getD z) H3
theorem pe_nget2 (hu : X.A.units + 65 < cLine) (ho : PE X o td) (he : PE X e ty) (hf : PE X f tx) (m : M2 X o "get" apos e f cpos) : PE X (.Call (.Attribute o "get" apos) [e, f] [] cpos) (tNGet2 X td ty tx) := by
  refine ⟨fun pins s σ H Q I h => ?_⟩
  refine wpAny_Call_method m.base m.few m.line PySem.F.plainAttrs_dict PySem.F.slot_dict_get PySem.F.type_dict_get (thn (ho.run pins s σ H _ I h) fun u s1 ⟨x, H1, I1, rx, a, ex, ⟨kvs0, d⟩, q1⟩ => ?_)
  subst ex
  obtain rfl : u = Value.ref a := rx
  obtain ⟨t1, t2⟩ := nd_typeIs I1 d
  refine ⟨t1, t2, ?_⟩
  rw [m.trees]
  refine Calls.callWith_builtin rfl (Calls.evalArgs_plain (Calls.spliced_cons (thn (he.run pins s1 σ H1 _ I1 q1) fun iv s2 ⟨y, H2, I2, ry, q2⟩ =>
    Calls.spliced_cons (thn (hf.run pins s2 σ H2 _ I2 q2) fun fv s3 ⟨z, H3, I3, rz, kvs, k, ⟨rd, b, ey, kf⟩, q3⟩ => Calls.spliced_nil ?_))))
  subst ey
  obtain rfl : iv = Value.ref b := ry
  obtain ⟨k1, k2⟩ := kf pins s3 I3
  exact n_get2 hu I3 rd k1 k2 rz fun w' s4 I4 rw' => ⟨_, H3, I4, rw', q3⟩
def tNGet (X : Cx) (td ty : TE) : TE := fun σ H Q => td σ H fun x H1 => ty σ H1 fun y H2 => ∃ a kvs k v, x = .ref a ∧ NRd X σ H2 a kvs k y ∧ lookN kvs k = some v ∧ Q v H2
theorem pe_nget (hu : X.A.units + 65 < cLine) (ho : PE X o td) (hi : PE X i ty) (hs : NoSl i) : PE X (.Subscript o i pos) (tNGet X td ty) := by
  refine ⟨fun pins s σ H Q I h => ?_⟩
  refine subD_of PySem.F.slot_dict_getitem.lookup hs (thn (ho.run pins s σ H _ I h) fun u s1 ⟨x, H1, I1, rx, q1⟩ => thn (hi.run pins s1 σ H1 _ I1 q1) fun iv s2 ⟨y, H2, I2, ry, a, kvs, k, v, ex, ⟨rd, b, ey, kf⟩, l, q2⟩ => ?_)
  subst ex ey
  obtain rfl : u = Value.ref a := rx
  obtain rfl : iv = Value.ref b := ry
  obtain ⟨k1, k2⟩ := kf pins s2 I2
  exact ⟨(nd_typeIs I2 rd).1, n_getItem hu I2 rd k1 k2 l fun w' s3 I3 rw' => ⟨v, H2, I3, rw', q2⟩⟩
def sNPut (X : Cx) (td ty tv : TE) : TS := fun D σ H => tv σ H fun v H1 => td σ H1 fun x H2 => ty σ H2 fun y H3 => ∃ a kvs k b, x = .ref a ∧ H3 a = some (NdO X.prog X.w a kvs) ∧ y = .ref b ∧ kvs.length < sizeLine ∧ (∀ pins s, Inv X pins σ H3 s → NkOk X.prog X.w s.heap kvs ∧ (nestedKind X.prog X.w).is s.heap k b) ∧
  ((∃ h, NdP X.prog X.w a (putNn kvs k b v) h) → D.nx σ (upd H3 a (NdO X.prog X.w a (putNn kvs k b v))))
theorem ps_nput {value : Expr} {tv : TE} {pos' : Pos} (hu : X.A.units + 65 < cLine) (ho : PE X o td) (hi : PE X i ty) (hv : PE X value tv) (hs : swapsWith value (some (.Subscript o i pos')) pos.line X.env = pure false) :
    PS X (.Assign [.Subscript o i pos'] value pos) (sNPut X td ty tv) := by
  refine ⟨fun pins s σ H D I h => ?_⟩
  refine wpAny_Assign_Subscript (thn (hv.run pins s σ H _ I h) fun r s1 ⟨v, H1, I1, rv, q1⟩ => thn (ho.run pins s1 σ H1 _ I1 q1) fun u s2 ⟨x, H2, I2, rx, q2⟩ => thn (hi.run pins s2 σ H2 _ I2 q2) fun iv s3 ⟨y, H3, I3, ry, a, kvs, k, b, ex, hd, ey, hl, kf, q3⟩ => ?_) hs
  subst ex ey
  obtain rfl : u = Value.ref a := rx
  obtain rfl : iv = Value.ref b := ry
  obtain ⟨k1, k2⟩ := kf pins s3 I3
  exact n_setItem hu I3 hd k1 k2 hl rv fun s4 I4 => ⟨σ, _, I4, q3 ⟨_, nd_of I4.hok (.inl upd_same)⟩⟩
end
def gAdd (op : D → D → Option D) (c : Int) (f : Env → Ou D) : GK := fun ρ kd => match f ρ with
  | .ok (.tup ds) => match nkOf (.tup ds) with
    | some k => if k.depth ≤ 8 ∧ kd.length < LIM then match op (.int ((lookNk kd k).getD 0)) (.int c) with
      | some (.int n) => some (ρ, putNk kd k (.tup ds) n)
      | _ => none else none
    | none => none
  | _ => none
section
variable {X : Cx} {W : WX}
theorem DSK.add {op : Operator} {r : R2} {kk : D → D → Option D} {ke ke2 : Expr} {f : Env → Ou D} {x : Str} {c : Int} {p1 p2 p3 p4 p5 p6 p7 apos cpos : Pos} {j1 j2 : Nat} (i : Nat) (hu : X.A.units + 65 < cLine) (ho : OpR X (binaryOp op) r) (hkk : Op2 X.K (He.ga X.K) r kk) (hk : DE X W0 ke f) (hk2 : DE X W0 ke2 f)
    (m : M2 X (.Name x p2) "get" apos ke2 (.Constant (.int 0) j1 p5) cpos) (hs : swapsWith (.BinOp (.Call (.Attribute (.Name x p2) "get" apos) [ke2, .Constant (.int 0) j1 p5] [] cpos) op (.Constant (.int c) j2 p6) p7) (some (.Subscript (.Name x p1) ke p3)) p4.line X.env = pure false)
    (hN : X.N[i]? = some x := by rfl) (hv : Vis X.env.scope x := by first | exact Or.inl rfl | exact Or.inr (Or.inl rfl) | exact Or.inr (Or.inr rfl)) (hd : (x == ("__debug__" : Str)) = false := by decide) (hcd : (x == ("__classdict__" : Str)) = false := by decide) :
    DSK X i (.Assign [.Subscript (.Name x p1) ke p3] (.BinOp (.Call (.Attribute (.Name x p2) "get" apos) [ke2, .Constant (.int 0) j1 p5] [] cpos) op (.Constant (.int c) j2 p6) p7) p4) (gAdd kk c f) := by
  refine ⟨fun Z0 H0 => PS.weak (ps_nput hu (pv i hN hv hd hcd) hk.run (pe_op ho (pe_nget2 hu (pv i hN hv hd hcd) hk2.run pe_int m) pe_int) hs) fun E σ H hq => ?_⟩
  obtain ⟨Z, ρ, kd, st, ρ', kd', e, q⟩ := hq
  unfold gAdd at e
  split at e
  · rename_i ds hf
    split at e
    · rename_i key hkey
      split at e
      · rename_i hc
        obtain ⟨hdep, hlen⟩ := hc
        split at e
        · rename_i n hn
          cases e
          have var : ∀ {Z H}, StaK X Z0 H0 Z H σ ρ i kd → ∃ d qs, σ[i]? = some (some (.ref d)) ∧ HidK X Z0 H0 Z H ρ i kd d qs := fun {Z H} st => by
            obtain ⟨d, qs, hd⟩ := st.e
            obtain ⟨fp, sl, _, _⟩ := st.s.e
            obtain ⟨v, f0, h1, h2, _⟩ := sl.get hd.pin
            simp only [Den] at h2
            obtain ⟨h2, _⟩ := h2
            subst h2
            exact ⟨d, qs, h1, hd⟩
          have keyv : ∀ {Z H v fp}, Den X.K (He.ga X.K) Z H (.tup ds) v fp → ∃ b, v = .ref b ∧ Den X.K (He.ga X.K) Z H (.tup ds) (.ref b) [] := fun {Z H v fp} h => by
            have ef := Den.fz _ _ _ (nk_fz _ _ hkey) h
            subst ef
            have h2 := h
            simp only [Den] at h2
            obtain ⟨b, vs, eb, _⟩ := h2
            subst eb
            exact ⟨b, rfl, h⟩
          obtain ⟨d, qs, hσ, hd⟩ := var st
          -- the value
          refine ⟨.ref d, hσ, d, rfl, ⟨_, .inl hd.h⟩, Z, ρ, st.s.rel, ?_⟩
          rw [hf]
          intro v1 Z1 H1 f1 g1 dn1 nd1 fr1
          obtain ⟨b1, eb1, dk1⟩ := keyv dn1
          subst eb1
          have st1 := st.gr g1
          have hd1 := hd.gr g1
          refine ⟨_, key, ⟨.inl hd1.h, b1, rfl, fun pins s I => ⟨kvs_is I st1.s.g.s kd qs hd1.ok hd1.keys, nk_is I st1.s.g.s _ _ _ _ dk1 hkey rfl, hdep⟩⟩, ?_⟩
          rw [look_kvs key kd qs hd.len]
          have e0 : ((lookNk kd key).map V.int).getD (V.int 0) = V.int ((lookNk kd key).getD 0) := by cases lookNk kd key <;> rfl
          show r (((lookNk kd key).map V.int).getD (V.int 0)) (V.int c) H1 _
          rw [e0]
          refine hkk Z1 H1 (.int ((lookNk kd key).getD 0)) (.int c) (.int n) _ _ [] [] _ st1.s.g.s ⟨rfl, rfl⟩ ⟨rfl, rfl⟩ hn ?_
          intro v2 Z2 H2 f2 g2 dn2 _ _
          have e2 : v2 = .int n := dn2.1
          subst e2
          have st2 := st1.gr g2
          have hd2 := hd1.gr g2
          -- the target
          refine ⟨.ref d, hσ, Z2, ρ, st2.s.rel, ?_⟩
          rw [hf]
          intro v3 Z3 H3 f3 g3 dn3 nd3 fr3
          obtain ⟨b3, eb3, dk3⟩ := keyv dn3
          subst eb3
          have st3 := st2.gr g3
          have hd3 := hd2.gr g3
          refine ⟨d, _, key, b3, rfl, hd3.h, rfl, ?_, fun pins s I => ⟨kvs_is I st3.s.g.s kd qs hd3.ok hd3.keys, nk_is I st3.s.g.s _ _ _ _ dk3 hkey rfl, hdep⟩, fun hn2 => q σ Z3 _ (StaK.put st3.s hd3 n dk3 hkey hdep hn2)⟩
          have : (kvsOf kd qs).length = kd.length := by unfold kvsOf; rw [List.length_map, List.length_zip, hd.len, Nat.min_self]
          rw [this]
          exact lim_lt hlen
        · cases e
      · cases e
    · cases e
  · cases e
end
end DL
namespace L2
open PySem PySem.Spec PyProof.Rows DL
section
variable {X : Cx} {pins : List (Addr × Obj)} {σ : St} {H : Hp} {s : Shared} {d : Addr} {o : Obj} {kvs : NKV}
theorem Inv.frzN (I : Inv X pins σ H s) (h : H d = some (.frz o (NdO X.prog X.w d kvs))) :
    (d == sysModules) = false ∧ s.heap.get? d = some o ∧ o.ExactDict ∧ ∃ (es : Array DictEntry) (ep : Nat), o.data = .dict es ep ∧ es.size = kvs.length ∧
      ∀ (i : Nat) (p : NK × Addr × V), kvs[i]? = some p → ∃ (en : DictEntry), es[i]? = some en ∧ en.key = .ref p.2.1 := by
  obtain ⟨hd, q⟩ := I.hok d _ h
  have q : ObjOk X.prog X.w H s.heap d (NdO X.prog X.w d kvs) := q
  obtain ⟨z, hs, xs, pr, o', es, ep, ho, hx, hdt, he, _⟩ := q.1
  rw [hd] at ho
  cases ho
  refine ⟨hs, hd, hx, es, ep, hdt, ?_, fun i p e => ?_⟩
  · have l1 : es.size = xs.length := size_of_entries he
    have l2 : kvs.length = xs.length := Paired.length pr
    omega
  · obtain ⟨b, hb, e1, e2, _⟩ := paired_get pr e
    have q := entry_at he i
    rw [hb] at q
    exact ⟨_, q, by rw [e2]; rfl⟩
end
def ItNk (P : Program) (w : World) (d : Addr) (o : Obj) (kvs : NKV) : It :=
  ⟨fun i H => H d = some (.frz o (NdO P w d kvs)) ∧ i < kvs.length, fun i H x H' => H' = H ∧ ∃ p : NK × Addr × V, kvs[i]? = some p ∧ x = .ref p.2.1, fun i H => H d = some (.frz o (NdO P w d kvs)) ∧ kvs.length ≤ i⟩
section
variable {P : Program} {w : World} {K : PySem.W.Frag} {tg : Expr} {d : Addr} {o : Obj} {es : Array DictEntry} {ep : Nat}
theorem turn_keysN {kvs : NKV} (it : Addr) (hod : o.data = .dict es ep) : Turn P w K tg (ItNk P w d o kvs) [it] it (fun i h => h.IsKeyIter it d i kvs.length ep) where
  mem := by simp
  obj := fun i h st b hb => by
    have e : b = it := by simpa using hb
    subst e
    obtain ⟨oi, e, c, dd⟩ := st
    exact ⟨oi, e, fun v z => by rw [dd] at z; cases z⟩
  keep := fun i h h' st k => st.at fun oi e => k it (by simp) oi e
  item := by
    intro X hP hw hK hc i pins s σ H E I hf st hg
    subst hP hw hK
    obtain ⟨hd, hi⟩ := hg
    obtain ⟨f0, f1, f2, f3, f4, f5⟩ := hf it (by simp)
    obtain ⟨hs, hgd, hx, es', ep', hdt, hsz, ent⟩ := I.frzN hd
    obtain ⟨rfl, rfl⟩ := dict_ep hod hdt
    obtain ⟨p, hkv⟩ : ∃ p, kvs[i]? = some p := ⟨kvs[i], List.getElem?_eq_getElem hi⟩
    obtain ⟨en, hen, hkey⟩ := ent i p hkv
    refine next_key_item st hgd hdt hsz hen fun h' st' sb => ?_
    have I1 : Inv X pins σ H { s with heap := h' } := I.turned (t' := s.toks) (fun b ob hb e => (sb.2 b hb).trans e) f0 f1 f3 f4 f5
    obtain ⟨oi, e, c, dd⟩ := id st'
    exact ⟨en.key, rfl, go_of (s := { s with heap := h' }) e c dd (by decide) ⟨.ref p.2.1, H, I1, hkey, ⟨rfl, p, hkv, rfl⟩, st', fun b hb => (hf b hb).1⟩⟩
  done := by
    intro X hP hw hK hc i pins s σ H E I hf st hg
    subst hP hw hK
    obtain ⟨hd, hi⟩ := hg
    obtain ⟨f0, f1, f2, f3, f4, f5⟩ := hf it (by simp)
    obtain ⟨hs, hgd, hx, es', ep', hdt, hsz, ent⟩ := I.frzN hd
    obtain ⟨rfl, rfl⟩ := dict_ep hod hdt
    exact next_key_end (I.ok.hd hc) st hgd hdt hsz hi fun h' eb => ⟨rfl, I.turned (t' := s.toks) (fun b ob hb e => eb b ob hb e) f0 f1 f3 f4 f5⟩
  self := fun A i s Q E st h => by
    refine wpAny_pyIter_slot st.typeIs F.slot_dict_keyiterator_iter (wpAny_call_entry F.slot_dict_keyiterator_iter st.typeIs F.entry_dict_keyiterator_iter ?_ (F.args_dict_keyiterator_iter_1 _))
    show wpAny _ _ (ret (.ref it)) _ _ s
    exact wpAny_pure ⟨_, rfl, "dict_keyiterator", _, st.typeIs, F.slot_dict_keyiterator_next.lookup, h⟩
end
section
variable {X : Cx} {tg e : Expr} {td : TE}
def iKeysN (P : Program) (w : World) (td : TE) : TI := fun σ H R => td σ H fun x H1 => ∃ d o kvs, x = .ref d ∧ H1 d = some (.frz o (NdO P w d kvs)) ∧ R (ItNk P w d o kvs) H1
theorem pi_keysN (he : PE X e td) : PI X tg e (iKeysN X.prog X.w td) := by
  refine ⟨fun pins s σ H R I h => ?_⟩
  refine thn (he.run pins s σ H _ I h) fun u s1 ⟨x, H1, I1, rx, d, o, kvs, ex, hd, q⟩ => ?_
  subst ex
  obtain rfl : u = Value.ref d := rx
  obtain ⟨hs, hgd, hx, es, ep, hdt, hsz, ent⟩ := I1.frzN hd
  refine iter_keys hs hgd hx hdt (pi_one (tk := s1.toks) I1 _ (turn_keysN _ hdt) ⟨_, Heap.get?_push_size _ rfl, rfl, ?_⟩ q)
  rw [hsz] <;> rfl
end
end L2
namespace DL
open PySem PySem.Spec PyProof.Rows L2 ClX
variable [Tb]
structure StaL (X : Cx) (Z0 H0 Z H : Hp) (σ : L2.St) (ρ : Env) (i : Nat) (kd : KD) : Prop where
  s : Sta X.K (He.ga X.K) Z0 H0 Z H σ ρ
  e : ∃ d od qs, ρ[i]? = some (some (.pin d)) ∧ Z d = some (.frz od (NdO X.prog X.w d (kvsOf kd qs))) ∧ qs.length = kd.length ∧ Dens X.K (He.ga X.K) Z H (kd.map (·.2.1)) (qs.map V.ref) [] ∧ KdOk kd
theorem Ex.sealN {Z H : Hp} {d : Addr} {od : Obj} {u : HO} (s : Ex Z H) (z : Z d = none) (noc : ∀ q, H d ≠ some (LamX.CodeO d q)) (nt : ∀ ps, H d ≠ some (.tbl ps)) : Ex (upd Z d (.frz od u)) (upd H d (.frz od u)) := by
  refine ⟨fun a o n e => ?_, fun a e => ?_, fun P q m ht => ?_⟩
  · by_cases c : a = d
    · subst c; rw [upd_same] at e ⊢; exact e
    · rw [upd_ne c] at e ⊢; exact s.at_ a o n e
  · by_cases c : a = d
    · subst c; rw [upd_same]; exact fun z => nomatch z
    · rw [upd_ne c] at e ⊢; exact s.ne a e
  · obtain ⟨ps, h1, h2, h3⟩ := ht
    have hP : P ≠ d := fun c => by rw [c, upd_same] at h1; cases h1
    have tz : LamX.TabS Z P q := ⟨ps, by rw [upd_ne hP] at h1; exact h1, h2, fun pos cv hc => by
      obtain ⟨c, f1, f2⟩ := h3 pos cv hc
      have hc' : c ≠ d := fun e => by
        rw [e, upd_same] at f2
        have := Option.some.inj f2
        unfold LamX.CodeO at this
        cases this
      rw [upd_ne hc'] at f2
      exact ⟨c, f1, f2⟩⟩
    obtain ⟨ps2, k1, k2, k3⟩ := s.tab P q m tz
    refine ⟨ps2, (upd_ne hP).trans k1, k2, fun pos cv hc => ?_⟩
    obtain ⟨c, f1, f2⟩ := k3 pos cv hc
    have hc' : c ≠ d := fun e => by rw [e] at f2; exact noc q f2
    exact ⟨c, f1, (upd_ne hc').trans f2⟩
section
variable {X : Cx} {W : WX} {k i : Nat} {Z0 H0 Z H Z' H' : Hp} {σ : L2.St} {ρ : Env} {kd : KD}
theorem StaK.lock {d : Addr} {qs : List Addr} (od : Obj) (st : Sta X.K (He.ga X.K) Z0 H0 Z H σ ρ) (hd : HidK X Z0 H0 Z H ρ i kd d qs) :
    StaL X Z0 H0 (upd Z d (.frz od (NdO X.prog X.w d (kvsOf kd qs)))) (upd H d (.frz od (NdO X.prog X.w d (kvsOf kd qs)))) σ ρ i kd := by
  obtain ⟨g, t, fp, sl, nd, fr⟩ := st
  have noc : ∀ q, H d ≠ some (LamX.CodeO d q) := fun q => by rw [hd.h]; exact nd_noC hd.hh q
  have nin : d ∉ fp := fun m => by
    obtain ⟨_, xs, e⟩ := Slots.own sl d m
    rw [hd.h] at e
    have e := Option.some.inj e
    cases xs <;> cases e
  have ez : Ex Z (upd Z d (.frz od (NdO X.prog X.w d (kvsOf kd qs)))) := Ex.new hd.z
  refine ⟨⟨⟨g.z.trans ez, g.h.chgC fun a => ?_, g.s.sealN hd.z noc (fun ps => by rw [hd.h]; exact fun z => nomatch z), fun a h1 h2 => ?_⟩, t.ex ez, fp, Slots.mono ez (fun a ha => ⟨?_, upd_ne fun c => nin (c ▸ ha)⟩) sl, nd, fr⟩, d, od, qs, hd.pin, upd_same, hd.len, Dens.mono ez _ _ [] (fun _ z => nomatch z) hd.keys, hd.ok⟩
  · by_cases c : a = d
    · subst c; exact .inr ⟨hd.h0, noc⟩
    · exact .inl (upd_ne c)
  · have : a ≠ d := fun c => by subst c; exact h1 hd.h0
    rw [upd_ne this]
    exact g.n a h1 h2
  · rw [upd_ne fun c => nin (by subst c; exact ha)]
    exact (Slots.own sl a ha).1
structure DSF (X : Cx) (W : WX) (i : Nat) (sts : List Stmt) (g : Env → KD → Os) : Prop where
  run : ∀ Z0 H0, PSs X sts (fun E σ H => ∃ Z ρ kd, StaK X Z0 H0 Z H σ ρ i kd ∧ PostS X.K (He.ga X.K) W Z0 H0 E (g ρ kd))
structure DSL (X : Cx) (W : WX) (i : Nat) (sts : List Stmt) (g : Env → KD → Os) : Prop where
  run : ∀ Z0 H0, PSs X sts (fun E σ H => ∃ Z ρ kd, StaL X Z0 H0 Z H σ ρ i kd ∧ PostS X.K (He.ga X.K) W Z0 H0 E (g ρ kd))
variable {st : Stmt} {rest : List Stmt} {g : GK} {gf : Env → KD → Os} {gs : Env → Os} {pos : Pos}
theorem DSL.of (h : DSs X W rest gs) : DSL X W i rest (fun ρ _ => gs ρ) := ⟨fun Z0 H0 => PSs.weak (h.run Z0 H0) fun E σ H ⟨Z, ρ, kd, s, q⟩ => ⟨Z, ρ, s.s, q⟩⟩
theorem DSF.lock (h : DSL X W i rest gf) : DSF X W i rest gf := ⟨fun Z0 H0 => ⟨fun pins s σ H D I ⟨Z, ρ, kd, st, q⟩ => by
  obtain ⟨d, qs, hd⟩ := st.e
  obtain ⟨od, I1⟩ := I.lock hd.h (by unfold NdO; exact True.intro)
  exact (h.run Z0 H0).run pins s σ _ D I1 ⟨_, ρ, kd, StaK.lock od st.s hd, q⟩⟩⟩
def fSeq (g : GK) (h : Env → KD → Os) : Env → KD → Os := fun ρ kd => match g ρ kd with
  | some p => h p.1 p.2
  | none => .bad
theorem DSF.cons (h1 : DSK X i st g) (h2 : DSF X W i rest gf) : DSF X W i (st :: rest) (fSeq g gf) := by
  refine ⟨fun Z0 H0 => PSs.weak (pss_cons (h1.run Z0 H0) (h2.run Z0 H0)) fun E σ H hq => ?_⟩
  obtain ⟨Z, ρ, kd, s, q⟩ := hq
  unfold fSeq at q
  cases e : g ρ kd with
  | none => rw [e] at q; exact q.elim
  | some p =>
    rw [e] at q
    exact ⟨Z, ρ, kd, s, p.1, p.2, e, fun σ' Z' H' s' => ⟨Z', p.1, p.2, s', q⟩⟩
open Classical in
noncomputable def sNewK (i : Nat) (g : Env → KD → Os) : Env → Os := fun ρ => if i < ρ.length then (if h : ∃ o, ∀ d, g (ρ.set i (some (.pin d))) [] = o then Classical.choose h else .bad) else .bad
open Classical in
theorem x_sNewK {i : Nat} {g : Env → KD → Os} {ρ : Env} {o : Os} (hi : i < ρ.length) (h : ∀ d, g (ρ.set i (some (.pin d))) [] = o) : sNewK i g ρ = o := by
  unfold sNewK
  have hh : ∃ o, ∀ d, g (ρ.set i (some (.pin d))) [] = o := ⟨o, h⟩
  rw [if_pos hi, dif_pos hh, ← Classical.choose_spec hh 0, h]
theorem DSs.newK (i : Nat) {x : Str} {p1 p2 p3 : Pos} (hr : DSF X W i rest gf) (hN : X.N.Nodup) (hi : X.N[i]? = some x := by rfl) (hx : Loc X.env.scope x := by first | exact Or.inl rfl | exact Or.inr rfl) (hs : swapsWith (.Dict [] [] p2) (some (.Name x p1)) p3.line X.env = pure false := by rfl)
    (hf : X.fn x = true ∨ X.env.scope.names.lookup x = some .local := by first | exact .inl rfl | exact .inr rfl | assumption) : DSs X W (.Assign [.Name x p1] (.Dict [] [] p2) p3 :: rest) (sNewK i gf) := by
  refine ⟨fun Z0 H0 => PSs.weak (pss_cons (ps_set (i := i) hN hi hx n_new hs hf) (hr.run Z0 H0)) fun E σ H hq => ?_⟩
  obtain ⟨Z, ρ, s, q⟩ := hq
  intro p hp hnd
  unfold sNewK at q
  split at q
  · rename_i hl
    split at q
    · rename_i hh
      rw [← Classical.choose_spec hh p] at q
      have zp : Z p = none := s.g.s.back hp
      have g1 : Gr Z H Z (upd H p (NdO X.prog X.w p [])) := Gr.newO s.g.s hp
      refine ⟨Z, _, [], ⟨s.set (d := .pin p) (v := .ref p) (fp := []) g1 (show Den X.K (He.ga X.K) Z _ (.pin p) (.ref p) [] by simp [Den]) List.nodup_nil (fun _ z => nomatch z) hl, p, [], ?_, zp, s.g.h.back hp, upd_same, hnd, rfl, ⟨rfl, rfl⟩, fun _ z => nomatch z⟩, q⟩
      rw [List.getElem?_set_self hl]
    · exact q.elim
  · exact q.elim
end
end DL
namespace DL
open PySem PySem.Spec PyProof.Rows L2 ClX
variable [Tb]
def tNk (P : Program) (w : World) (K : PySem.W.Frag) (i j : Nat) (r : R2) (c : Int) : TT := fun σ H Q => ∃ Z d od kd qs key kD b n, σ[i]? = some (some (.ref d)) ∧ H d = some (.frz od (NdO P w d (kvsOf kd qs))) ∧ Ex Z H ∧ Dens K (He.ga K) Z H (kd.map (·.2.1)) (qs.map V.ref) [] ∧ KdOk kd ∧ qs.length = kd.length ∧
  σ[j]? = some (some (.ref b)) ∧ Den K (He.ga K) Z H kD (.ref b) [] ∧ nkOf kD = some key ∧ key.depth ≤ 8 ∧ lookNk kd key = some n ∧ r (.int n) (.int c) H (fun v H' => ∃ b, v = .bl b ∧ Q b H')
theorem pt_nk {X : Cx} {op : CmpOp} {r : R2} {x y : Str} {c : Int} {j1 : Nat} {p1 p2 p3 p4 p5 : Pos} (i j : Nat) (hu : X.A.units + 65 < cLine) (ho : OpR X (compareOp op) r)
    (hN : X.N[i]? = some x) (hv : Vis X.env.scope x) (hd : (x == ("__debug__" : Str)) = false) (hcd : (x == ("__classdict__" : Str)) = false)
    (hN2 : X.N[j]? = some y) (hv2 : Vis X.env.scope y) (hd2 : (y == ("__debug__" : Str)) = false) (hcd2 : (y == ("__classdict__" : Str)) = false) (hm : behindInMarks op (.Constant (.int c) j1 p5) = false) :
    PT X (.Compare (.Subscript (.Name x p1) (.Name y p2) p3) [op] [.Constant (.int c) j1 p5] p4) (tNk X.prog X.w X.K i j r c) := by
  refine PT.weak (pt_cmpR ho (pe_nget hu (pv i hN hv hd hcd) (pv j hN2 hv2 hd2 hcd2) (fun _ _ => rfl)) pe_int hm) fun σ H Q hq => ?_
  obtain ⟨Z, d, od, kd, qs, key, kD, b, n, h1, h2, ez, dk, ok, hl, h3, dn, hk, hdep, hlook, q⟩ := hq
  refine ⟨.ref d, h1, .ref b, h3, d, kvsOf kd qs, key, .int n, rfl, ⟨.inr ⟨od, h2⟩, b, rfl, fun pins s I => ⟨kvs_is I ez kd qs ok dk, nk_is I ez _ _ _ _ dn hk rfl, hdep⟩⟩, ?_, q⟩
  rw [look_kvs key kd qs hl, hlook]
  rfl
def lcK (kk : D → D → Option Bool) (c : Int) (kd0 : KD) : KD → List D → Option (List D)
  | [], acc => some acc
  | p :: kd, acc => match lookNk kd0 p.1 with
    | some n => match kk (.int n) (.int c) with
      | some true => if acc.length < LIM then lcK kk c kd0 kd (acc ++ [p.2.1]) else none
      | some false => lcK kk c kd0 kd acc
      | none => none
    | none => none
def fLc (yi j : Nat) (kk : D → D → Option Bool) (c : Int) (h : Env → KD → Os) : Env → KD → Os := fun ρ kd => if j < ρ.length ∧ yi < ρ.length then (match lcK kk c kd kd [] with
  | some xs => h (ρ.set yi (some (.lst true xs))) kd
  | none => .bad) else .bad
theorem kd_at {K : PySem.W.Frag} {cl : Str → Addr} {Z H : Hp} : ∀ {kd : KD} {qs : List Addr} {n : Nat} {p : NK × Addr × V}, Dens K cl Z H (kd.map (·.2.1)) (qs.map V.ref) [] → (kvsOf kd qs)[n]? = some p → ∃ e, kd[n]? = some e ∧ p.1 = e.1 ∧ Den K cl Z H e.2.1 (.ref p.2.1) []
  | [], qs, n, p, _, h => by simp [kvsOf] at h
  | e :: kd, [], n, p, _, h => by simp [kvsOf] at h
  | e :: kd, q :: qs, n, p, dn, h => by
    obtain ⟨v, vr, f1, f2, e1, e2, dq, t⟩ := dn.cons'
    obtain ⟨e3, e4⟩ := List.append_eq_nil_iff.mp e2.symm
    subst e3 e4
    have e1 : V.ref q :: qs.map V.ref = v :: vr := e1
    injection e1 with e5 e6
    subst e5 e6
    rw [kvs_cons] at h
    cases n with
    | zero =>
      have h := Option.some.inj h
      subst h
      exact ⟨e, rfl, rfl, dq⟩
    | succ n => exact kd_at (n := n) t h
section
variable {X : Cx} {W : WX} {k : Nat} {rest : List Stmt} {gf : Env → KD → Os}
theorem DSL.lc {op : CmpOp} {r : R2} {kk : D → D → Option Bool} {c : Int} {x y rw_ : Str} {j1 : Nat} {p0 p1 p2 p3 p4 p5 p6 px py spos pos : Pos} {scope : Scope} {own : List (Str × Nat)} (i j yi : Nat) (Cc : Ctx X W k) (hkk : Op2B X.K (He.ga X.K) r kk) (hr : DSL X W i rest gf)
    (ok : BlkOk X.N X.env.scope scope own)
    (hg : ∀ (s : Shared) (H : Hp) (C : Addr) (cl : List (Str × Addr)) (fp : List Addr), PG (X.blk s H scope (compEnvC scope cl C X.env) fp) (.Name rw_ p0) (gName j))
    (ht : ∀ (s : Shared) (H : Hp) (C : Addr) (cl : List (Str × Addr)) (fp : List Addr), PT (X.blk s H scope (compEnvC scope cl C X.env) fp) (.Compare (.Subscript (.Name x p1) (.Name rw_ p2) p3) [op] [.Constant (.int c) j1 p5] p4) (tNk X.prog X.w X.K i j r c))
    (he : ∀ (s : Shared) (H : Hp) (C : Addr) (cl : List (Str × Addr)) (fp : List Addr), PE (X.blk s H scope (compEnvC scope cl C X.env) fp) (.Name rw_ p6) (tVar j))
    (hN : X.N[i]? = some x := by rfl) (hv : Vis X.env.scope x := by first | exact Or.inl rfl | exact Or.inr (Or.inl rfl) | exact Or.inr (Or.inr rfl)) (hd : (x == ("__debug__" : Str)) = false := by decide) (hcd : (x == ("__classdict__" : Str)) = false := by decide)
    (hy : X.N[yi]? = some y := by rfl) (hyl : X.env.scope.names.lookup y = some .local := by rfl)
    (hsw : swapsWith (.ListComp (.Name rw_ p6) [⟨.Name rw_ p0, .Name x px, [.Compare (.Subscript (.Name x p1) (.Name rw_ p2) p3) [op] [.Constant (.int c) j1 p5] p4], 0⟩] scope pos) (some (.Name y py)) spos.line X.env = pure true := by exact sw_true rfl rfl rfl (by decide +kernel))
    (hj : j ∈ own.map (·.2) := by decide) (hi : i ∉ own.map (·.2) := by decide) (hyi : yi ≠ i := by decide) (hs : ∀ z, foldedSetIterable (.Name x px) X.env z = pure z := by intro _; rfl) :
    DSL X W i (.Assign [.Name y py] (.ListComp (.Name rw_ p6) [⟨.Name rw_ p0, .Name x px, [.Compare (.Subscript (.Name x p1) (.Name rw_ p2) p3) [op] [.Constant (.int c) j1 p5] p4], 0⟩] scope pos) spos :: rest) (fLc yi j kk c gf) := by
  refine ⟨fun Z0 H0 => PSs.weak (pss_cons (ps_setLc (te := tVar j) (tt := tNk X.prog X.w X.K i j r c) Cc.calm Cc.nd hy hyl hsw (pi_keysN (pv i hN hv hd hcd)) ok hg (fun s H C cl fp => pts_one (ht s H C cl fp)) he hs) (hr.run Z0 H0)) fun E σ H hq => ?_⟩
  obtain ⟨Z, ρ, kd, st, q⟩ := hq
  unfold fLc at q
  split at q
  · rename_i hlen
    obtain ⟨hjl, hyl2⟩ := hlen
    obtain ⟨d, od, qs, hp, hz, hl, dk, okd⟩ := st.e
    obtain ⟨fp0, sl0, _, _⟩ := st.s.e
    obtain ⟨v0, f0, hσ, h2, _⟩ := sl0.get hp
    simp only [Den] at h2
    obtain ⟨h2, _⟩ := h2
    subst h2
    have hσl : σ.length = ρ.length := sl0.length
    have hH : H d = some (.frz od (NdO X.prog X.w d (kvsOf kd qs))) := st.s.g.s.l hz
    have hkl : (kvsOf kd qs).length = kd.length := by unfold kvsOf; rw [List.length_map, List.length_zip, hl, Nat.min_self]
    cases ec : lcK kk c kd kd [] with
    | none => rw [ec] at q; exact q.elim
    | some ys =>
      rw [ec] at q
      refine ⟨.ref d, hσ, d, od, kvsOf kd qs, rfl, hH, fun Dl hD => ?_⟩
      let Wd : Nat → Hp → Prop := fun n H' => ∃ (Z' : Hp) (acc : List D) (vsA : List V), Gr Z H Z' H' ∧ Z' Dl = none ∧ H' Dl = some (.lst vsA) ∧ Dens X.K (He.ga X.K) Z' H' acc vsA [] ∧ lcK kk c kd (kd.drop n) acc = some ys
      refine ⟨fun n m H' => m = kd.length - n ∧ n ≤ kd.length ∧ Wd n H', ⟨kd.length, by simp, Nat.zero_le _, Z, [], [], Gr.newO st.s.g.s hD, st.s.g.s.back hD, upd_same, ⟨rfl, rfl⟩, ec⟩, ?_⟩
      rintro n m H' ⟨rfl, hn', Z', acc, vsA, g', zD, hDl, dn, ecc⟩
      have hH' : H' d = some (.frz od (NdO X.prog X.w d (kvsOf kd qs))) := g'.h.l hH
      by_cases hlt : n < kd.length
      · refine .inr ⟨⟨hH', by rw [hkl]; exact hlt⟩, Wd (n + 1), fun H2 n2 => ⟨kd.length - (n + 1), by omega, rfl, hlt, n2⟩, fun xv H2 yv => ?_⟩
        obtain ⟨e1, p, hp2, e2⟩ := yv
        subst e1 e2
        have dk' := g'.dens dk
        obtain ⟨e, he1, he2, dq⟩ := kd_at dk' hp2
        have he' : kd[n] = e := by rw [List.getElem?_eq_getElem hlt] at he1; exact Option.some.inj he1
        rw [List.drop_eq_getElem_cons hlt, he'] at ecc
        unfold lcK at ecc
        have em : e ∈ kd := by rw [← he']; exact List.getElem_mem hlt
        obtain ⟨o1, o2⟩ := okd e em
        cases eln : lookNk kd e.1 with
        | none => rw [eln] at ecc; cases ecc
        | some nv =>
          rw [eln] at ecc
          dsimp only at ecc
          have hij : j ≠ i := fun z => hi (z ▸ hj)
          have s2i : ((wipe σ (own.map (·.2))).set j (some (V.ref p.2.1)))[i]? = some (some (.ref d)) := by
            rw [List.getElem?_set_ne hij, wipe_get, if_neg hi]
            exact hσ
          have s2j : ((wipe σ (own.map (·.2))).set j (some (V.ref p.2.1)))[j]? = some (some (.ref p.2.1)) := by
            rw [List.getElem?_set_self]
            rw [wipe_length, hσl]
            exact hjl
          refine ⟨wipe_set hj _, Z', d, od, kd, qs, e.1, e.2.1, p.2.1, nv, s2i, hH', g'.s, dk', okd, hl, s2j, dq, o1, o2, eln, ?_⟩
          cases ek : kk (.int nv) (.int c) with
          | none => rw [ek] at ecc; cases ecc
          | some bb =>
            rw [ek] at ecc
            refine hkk Z' _ (.int nv) (.int c) bb _ _ [] [] _ g'.s ⟨rfl, rfl⟩ ⟨rfl, rfl⟩ ek ⟨bb, rfl, ?_⟩
            cases bb with
            | false => exact ⟨Z', acc, vsA, g', zD, hDl, dn, ecc⟩
            | true =>
              dsimp only at ecc
              by_cases hlim : acc.length < LIM
              · rw [if_pos hlim] at ecc
                refine ⟨.ref p.2.1, s2j, vsA, hDl, by rw [dn.length]; exact lim_lt hlim, Z', acc ++ [e.2.1], vsA ++ [.ref p.2.1], ⟨g'.z, g'.h.mut hD ⟨.l _, hDl⟩, g'.s.mut zD ⟨.l _, hDl⟩, g'.n⟩, zD, upd_same, ?_, ecc⟩
                have := dn.append (Dens.one dq)
                exact Dens.mono (Ex.refl Z') _ _ [] (fun _ z => nomatch z) this
              · rw [if_neg hlim] at ecc; cases ecc
      · have e : n = kd.length := by omega
        subst e
        rw [List.drop_length] at ecc
        unfold lcK at ecc
        have ey := Option.some.inj ecc
        subst ey
        refine .inl ⟨⟨hH', by rw [hkl]; exact Nat.le_refl _⟩, Z', _, kd, ⟨st.s.set (d := .lst true acc) (v := .ref Dl) (fp := [Dl]) g' ?_ (List.nodup_cons.mpr ⟨by simp, List.nodup_nil⟩) (fun a ha => ?_) hyl2, d, od, qs, ?_, g'.z.l hz, hl, g'.dens dk, okd⟩, q⟩
        · simp only [Den]
          exact ⟨Dl, vsA, [], rfl, rfl, zD, hDl, dn⟩
        · cases List.mem_singleton.mp ha
          exact hD
        · rw [List.getElem?_set_ne hyi]
          exact hp
  · exact q.elim
end
end DL
namespace DL
open PySem PySem.Spec PyProof.Rows L2 ClX
variable [Tb]
section
variable {K : PySem.W.Frag} {cl : Str → Addr} {Z H : Hp}
theorem op_ixO {x y d : D} {v u : V} {fx fy : Fp} {Q : VK} (s : Ex Z H) (hx : Den K cl Z H x v fx) (hy : Den K cl Z H y u fy) (e : ixD x y = some d) (q : ∀ w f, Den K cl Z H d w f → f.Sublist fx → Q w H) : rIx K v u H Q := by
  unfold ixD at e
  split at e
  · rename_i o xs i
    obtain ⟨a, vs, f, rfl, qa, r, _, sl⟩ := hx.lstH s
    obtain ⟨w, g, h1, h2, h3⟩ := r.at e
    rw [hy.1]
    exact .inl ⟨a, vs, i, w, rfl, rfl, .inl (.inl qa), h1, q w g h2 (h3.trans sl)⟩
  · rename_i xs i
    obtain ⟨a, vs, rfl, qa, _, r⟩ := hx.tupH s
    obtain ⟨w, g, h1, h2, h3⟩ := r.at e
    rw [hy.1]
    exact .inr (.inl ⟨a, vs, i, w, rfl, rfl, qa, h1, q w g h2 h3⟩)
  · rename_i z i
    split at e
    · rename_i c
      obtain ⟨k, e1, e2⟩ := Option.map_eq_some_iff.mp e
      subst e2
      rw [hx.1, hy.1]
      exact .inr (.inr ⟨z, i, k, rfl, rfl, lim_le c, e1, q _ [] ⟨rfl, rfl⟩ (List.nil_sublist _)⟩)
    · cases e
  · rename_i ns i
    obtain ⟨k, e1, e2⟩ := Option.map_eq_some_iff.mp e
    subst e2
    simp only [Den] at hx
    obtain ⟨a, rfl, _, qa⟩ := hx
    rw [hy.1]
    refine .inl ⟨a, ns.map V.int, i, .int k, rfl, rfl, s.sqL qa, ?_, q _ [] ⟨rfl, rfl⟩ (List.nil_sublist _)⟩
    unfold atI at e1 ⊢
    rw [List.length_map]
    cases c : ixN ns.length i with
    | none => rw [c] at e1; cases e1
    | some j =>
      rw [c] at e1
      show (ns.map V.int)[j]? = _
      rw [List.getElem?_map, show ns[j]? = some k from e1] <;> rfl
  · cases e
end
section
variable {X : Cx} {W : WX} {a b e : Expr} {f g : Env → Ou D} {pos : Pos}
theorem DE.ixO (ha : DE X W a f) (hb : DB X W b g) (hs : PlainIx b := by exact fun _ _ => rfl) : DE X W (.Subscript a b pos) (d2 ixD f g) := by
  refine ⟨PE.weak (pe_ix ix_seq ha.run hb.run hs) fun σ H Q hq => ?_⟩
  obtain ⟨Z, ρ, r, q⟩ := hq
  refine tD_bind (P := fun Z H o => PostO X.K (He.ga X.K) W Z H σ o Q) r (fun _ _ _ z => z) (fun z => z) q fun x v Z1 H1 fx ex g1 dx nd fr q => ?_
  refine tV_bind (P := fun _ _ o => PostO X.K (He.ga X.K) W Z H σ o Q) (r.gr g1) (fun _ _ _ z => PostX.gr z g1) (fun z => z) q fun y u Z2 H2 fy ey g2 dy q => ?_
  match e : ixD x y with
  | some d =>
    have q : PostO X.K (He.ga X.K) W Z H σ (ofO (ixD x y)) Q := q
    rw [e] at q
    exact op_ixO g2.s (g2.den dx) dy e fun w f0 hw sl => q w Z2 H2 f0 (g1.trans g2) hw (sl.nodup nd) fun a0 ha0 => fr a0 (sl.subset ha0)
  | none =>
    have q : PostO X.K (He.ga X.K) W Z H σ (ofO (ixD x y)) Q := q
    rw [e] at q
    exact q.elim
end
section
variable {X : Cx} {W : WX} {a b : Expr} {f g : DL.Env → Ou D} {pos : Pos} {j k : Nat} {c : Str} {F : List D → Ou D}
end
end DL
namespace DL
open PySem PySem.Spec PyProof.Rows L2
variable [Tb]
def sAppPop (i j : Nat) (g : Env → Ou D) : Env → Os := fun ρ => match ρ[i]?, ρ[j]? with
  | some (some (.lst true xs)), some (some (.lst true ys)) => ofU (g ρ) ρ fun k => match k with
    | .int k => match ixN ys.length k with
      | some n => match ys[n]? with
        | some y => if D.fzs ys && (decide (xs.length < LIM) && (decide (ys.length ≤ LIM) && decide (i ≠ j))) then .nx ((ρ.set j (some (.lst true (ys.eraseIdx n)))).set i (some (.lst true (xs ++ [y])))) else .bad
        | _ => .bad
      | none => .bad
    | _ => .bad
  | _, _ => .bad
theorem Dens.erase {K : PySem.W.Frag} {cl : Str → Addr} {Z H : Hp} : ∀ {ds : List D} {vs : List V}, Dens K cl Z H ds vs [] → ∀ n, Dens K cl Z H (ds.eraseIdx n) (vs.eraseIdx n) []
  | [], vs, h, n => by
    rw [h.1]
    exact ⟨rfl, rfl⟩
  | d :: ds, vs, h, n => by
    simp only [Dens] at h
    obtain ⟨v, vr, f1, f2, e1, e2, q, r⟩ := h
    subst e1
    obtain ⟨z1, z2⟩ := List.append_eq_nil_iff.mp e2.symm
    subst z1 z2
    cases n with
    | zero => exact r
    | succ n =>
      simp only [List.eraseIdx_cons_succ, Dens]
      exact ⟨v, _, [], [], rfl, rfl, q, Dens.erase r n⟩
section
variable {X : Cx} {W : WX} {e : Expr} {g : Env → Ou D} {pos : Pos}
end
end DL
namespace DL
open PySem PySem.Spec PyProof.Rows L2
variable [Tb]
def spS (K : PySem.W.Frag) (np : Nat) (F : List D → Ou D) : Sp := fun vs H Q E => ∃ ws rest, vs = ws ++ rest ∧ ws.length = np ∧ rest.length ≤ sizeLine ∧ ∀ p, H p = Option.none → spF K (np + 1) F (ws ++ [V.ref p]) (upd H p (.tup rest)) Q E
def starF (np : Nat) (F : List D → Ou D) : List D → Ou D := fun ds => if np ≤ ds.length ∧ ds.length ≤ LIM then F (ds.take np ++ [.tup (ds.drop np)]) else .bad
theorem PostF.gr {K : PySem.W.Frag} {cl : Str → Addr} {Z H Z' H' : Hp} {o : Ou D} {Q : VK} {E : XK} (q : PostF K cl Z H o Q E) (g : Gr Z H Z' H') : PostF K cl Z' H' o Q E := by
  cases o with
  | ok d => exact PostV.gr q g
  | ex c ns xs => exact fun dc Z2 H2 g2 x => q dc Z2 H2 (g.trans g2) x
  | bad => exact q
theorem Dens.dropE {K : PySem.W.Frag} {cl : Str → Addr} {Z H : Hp} : ∀ {ds : List D} {vs : List V}, Dens K cl Z H ds vs [] → ∀ n, Dens K cl Z H (ds.drop n) (vs.drop n) []
  | [], vs, h, n => by
    rw [h.1]
    simp only [List.drop_nil]
    exact ⟨rfl, rfl⟩
  | d :: ds, vs, h, 0 => h
  | d :: ds, vs, h, n + 1 => by
    simp only [Dens] at h
    obtain ⟨v, vr, f1, f2, e1, e2, q, r⟩ := h
    subst e1
    obtain ⟨z1, z2⟩ := List.append_eq_nil_iff.mp e2.symm
    subst z1 z2
    exact Dens.dropE r n
theorem spS_of {K : PySem.W.Frag} {np : Nat} {F : List D → Ou D} {vs : List V} {H : Hp} {Q : VK} {E : XK} (h : spF K vs.length (starF np F) vs H Q E) : spS K np F vs H Q E := by
  obtain ⟨_, Z, ds, ez, tk, dn, q⟩ := h
  unfold starF at q
  by_cases c : np ≤ ds.length ∧ ds.length ≤ LIM
  · rw [if_pos c] at q
    have hl := dn.length
    refine ⟨vs.take np, vs.drop np, (List.take_append_drop np vs).symm, by rw [List.length_take]; omega, ?_, fun p hp => ?_⟩
    · have : (vs.drop np).length ≤ LIM := by rw [List.length_drop]; omega
      exact lim_le this
    · have zp : Z p = Option.none := ez.back hp
      have e1 : Ex Z (upd Z p (.tup (vs.drop np))) := Ex.new zp
      have e2 : Ex H (upd H p (.tup (vs.drop np))) := Ex.new hp
      have e3 : Ex (upd Z p (.tup (vs.drop np))) (upd H p (.tup (vs.drop np))) := by
        refine ⟨fun a o n hz => ?_, fun a hz => ?_, fun P q m ht => ?_⟩
        · by_cases ca : a = p
          · subst ca
            rw [upd_same] at hz ⊢
            exact hz
          · rw [upd_ne ca] at hz ⊢
            exact ez.at_ a o n hz
        · by_cases ca : a = p
          · subst ca
            rw [upd_same]
            exact fun z => nomatch z
          · rw [upd_ne ca] at hz ⊢
            exact ez.ne a hz
        · have hne : P ≠ p := fun z => by
            obtain ⟨ps, e, _⟩ := ht
            rw [z, upd_same] at e
            cases e
          refine e2.tab P q m (ez.tab P q m ?_)
          obtain ⟨ps, h1, h2, h3⟩ := ht
          refine ⟨ps, by rw [← h1, upd_ne hne], h2, fun pos cv hc => ?_⟩
          obtain ⟨cc, f1, f2⟩ := h3 pos cv hc
          refine ⟨cc, f1, ?_⟩
          have : cc ≠ p := fun z => by
            rw [z, upd_same] at f2
            have f3 := Option.some.inj f2
            unfold LamX.CodeO at f3
            cases f3
          rw [← f2, upd_ne this]
      have gr : Gr Z H (upd Z p (.tup (vs.drop np))) (upd H p (.tup (vs.drop np))) := ⟨e1, e2, e3, fun a ha hz => by
        have : a ≠ p := fun z => ha (z ▸ hp)
        rw [upd_ne this]
        exact hz⟩
      refine ⟨by rw [List.length_append, List.length_take]; simp; omega, _, ds.take np ++ [.tup (ds.drop np)], e3, tk.ex e1, ?_, q.gr gr⟩
      have d2 := gr.dens dn
      have t1 := Dens.take d2 np
      have t2 : Den K (He.ga K) (upd Z p (.tup (vs.drop np))) (upd H p (.tup (vs.drop np))) (.tup (ds.drop np)) (.ref p) [] := by
        simp only [Den]
        exact ⟨p, vs.drop np, rfl, .inl (.inl (upd_same ..)), Dens.dropE d2 np⟩
      exact t1.append (Dens.one t2)
  · rw [if_neg c] at q
    exact q.elim
theorem fnS {P : Program} {w : World} {K : PySem.W.Frag} {mg : Str → Option Value} {base : Heap} {x qual pv : Str} {params : Arguments} {body : List Stmt} {scope : Scope} {f : Addr} {fd : FuncData} {N ps : List Str} {k : Nat} {g : Env → Os}
    (F : FunD K x qual params body scope [] [] f fd) (S : FnScope N (ps ++ [pv]) scope)
    (hbi : ∀ (kV doc pm : Value) (an : Option Addr) (cdv ct : Value) (us rest : List Value), us.length = ps.length → bindArgs (PySem.W.fnOf x qual params body scope .none kV doc pm an cdv ct) ⟨us ++ rest, []⟩ = (newTuple rest >>= fun t => pure (ps.zip us ++ [(pv, t)])))
    (hb : ∀ (cdv : Value) (A : Around) (outer : List PySem.Env) (s : Shared) (H : Hp) (E : XK), Ctx (cxOf (L2.CX P w) P w K mg base N qual scope f cdv A outer s H E) (fun cls d _ H => E cls d H) k →
      DSs (cxOf (L2.CX P w) P w K mg base N qual scope f cdv A outer s H E) (fun cls d _ H => E cls d H) body g) : FnR P w K mg base (L2.CX P w) (k + 1) f (spS K ps.length (runF N.length g)) := by
  obtain ⟨oc, od, dV, kV, doc, pm, an, cdv, ct, osl, rfl, lk, hcd, hD, _⟩ := F.ex
  have eD : dV = .none := by
    rcases hD with ⟨_, e⟩ | ⟨e, _⟩
    · exact e
    · exact absurd rfl e
  subst eD
  refine StX.fn_star (sp := spF K (ps.length + 1) (runF N.length g)) lk hcd S StX.cxUp (hbi kV doc pm an cdv ct) fun A outer s H vs Q E hr hsp => ?_
  obtain ⟨hl, Z, ds, ez, tk, dn, q⟩ := hsp
  have C : Ctx (cxOf (L2.CX P w) P w K mg base N qual scope f cdv A outer s H E) (fun cls d _ H => E cls d H) k := ⟨rfl, hr, passes_of rfl, takes_of rfl rfl rfl rfl, S.nd⟩
  refine ⟨_, (hb cdv A outer s H E C).run Z H, Z, ds.map some ++ List.replicate (N.length - ds.length) none, ⟨Gr.refl ez, tk, [], ?_, List.nodup_nil, fun _ z => nomatch z⟩, ?_⟩
  · have e : vs.length = ds.length := dn.length
    show Slots _ _ _ _ _ (vs.map some ++ List.replicate (N.length - vs.length) none) _
    rw [e]
    exact Slots.start _ dn
  · unfold runF at q
    cases e : g (ds.map some ++ List.replicate (N.length - ds.length) none) with
    | nx ρ => rw [e] at q; exact fun σ Z' H' s' => q .non Z' H' [] s'.g ⟨rfl, rfl⟩ List.nodup_nil fun _ z => nomatch z
    | rt d => rw [e] at q; exact fun v Z' H' fp g1 h nd fr => q v Z' H' fp g1 h nd fr
    | ex c ns xs ρ => rw [e] at q; exact fun dc σ Z' H' s' x => q dc Z' H' s'.g x
    | bk ρ => rw [e] at q; exact q.elim
    | ct ρ => rw [e] at q; exact q.elim
    | bad => rw [e] at q; exact q.elim
structure DnS (P : Program) (w : World) (K : PySem.W.Frag) (mg : Str → Option Value) (base : Heap) (k : Nat) (x : Str) (np : Nat) (F : List D → Ou D) : Prop where
  ex : ∃ f : Addr, mg x = some (.ref f) ∧ FnR P w K mg base (L2.CX P w) k f (spS K np F) ∧ PySem.W.keepIn K (.ref f) = true
theorem dns_of {P : Program} {w : World} {K : PySem.W.Frag} {mg : Str → Option Value} {base : Heap} {x pv : Str} {params : Arguments} {body : List Stmt} {scope : Scope} {f : Addr} {fd : FuncData} {N ps : List Str} {k : Nat} {g : Env → Os}
    (F : FunD K x x params body scope [] [] f fd) (hm : mg x = some (.ref f)) (S : FnScope N (ps ++ [pv]) scope)
    (hbi : ∀ (kV doc pm : Value) (an : Option Addr) (cdv ct : Value) (us rest : List Value), us.length = ps.length → bindArgs (PySem.W.fnOf x x params body scope .none kV doc pm an cdv ct) ⟨us ++ rest, []⟩ = (newTuple rest >>= fun t => pure (ps.zip us ++ [(pv, t)])))
    (hb : ∀ (cdv : Value) (A : Around) (outer : List PySem.Env) (s : Shared) (H : Hp) (E : XK), Ctx (cxOf (L2.CX P w) P w K mg base N x scope f cdv A outer s H E) (fun cls d _ H => E cls d H) k →
      DSs (cxOf (L2.CX P w) P w K mg base N x scope f cdv A outer s H E) (fun cls d _ H => E cls d H) body g) : DnS P w K mg base (k + 1) x ps.length (runF N.length g) :=
  ⟨f, hm, fnS F S hbi hb, F.kp⟩
section
variable {X : Cx} {CX : CXT} {k : Nat} {f : Addr} {sp : Sp} {E : L2.St → XK} {x : Str} {p pos : Pos} {e : Expr} {es : List Expr} {t : TA}
theorem run_fnRS {pins : List (Addr × Obj)} {σ : L2.St} {H : Hp} {s : Shared} {Q : VK} {us : List Value} {vs : List V} (F : FnR X.prog X.w X.K X.mg X.base CX k f sp) (hr : Room k X.A) (hx : PassesAt CX X σ (E σ))
    (I : Inv X pins σ H s) (r : Vals vs us) (h : sp vs H Q (E σ)) : wpAny (model X.prog X.w) X.A (call (.ref f) us) (EP X pins σ Q) X.xe s := by
  refine wpAny_call (codeAny_mono (F X.A X.stack s H us vs Q (E σ) hr I.env0 r h) fun r s' hq => ?_)
  cases r with
  | error e => exact hx pins H s e s' I hq
  | ok fl =>
    cases fl with
    | ret u => exact I.after hq
    | next => exact False.elim hq
    | brk => exact False.elim hq
    | cont => exact False.elim hq
theorem pe_callSR (F : FnR X.prog X.w X.K X.mg X.base CX k f sp) (hr : Room k X.A) (hg : Gl X x) (hm : X.mg x = some (.ref f)) (hk : PySem.W.keepIn X.K (.ref f) = true) (hx : ∀ σ, PassesAt CX X σ (E σ))
    (ha : PA X (e :: es) t) (hdb : (x == ("__debug__" : Str)) = false := by decide) (he : starEach (e :: es) X.env = (false, eval e X.env) :: starEach es X.env := by rfl) (hpl : (backTo pos (starEach es X.env)).any (·.1) = false := by rfl) :
    PE X (.Call (.Name x p) (e :: es) [] pos) (tCallS sp E t) := by
  refine ⟨fun pins s σ H Q I h => ?_⟩
  refine wpAny_Call_Name_kw (ld_glob I hg hm ?_ hdb)
  refine PySem.W.callWith_K (h₀ := X.base) I.ok.mod.kin hk (thn (ha.run pos pins s σ H _ I h) fun us s1 ⟨vs, H1, I1, r, q⟩ => ⟨I1.kIn, ?_⟩) he hpl
  exact run_fnRS F hr (hx σ) I1 r q
end
section
variable {X : Cx} {W : WX} {k j np : Nat} {x : Str} {p pos : Pos} {e : Expr} {es : List Expr} {t : Env → Ou (List D)} {F : List D → Ou D}
theorem DE.callS (C : Ctx X W k) (G : DnS X.prog X.w X.K X.mg X.base j x np F) (ha : DAB X W (e :: es) t) (hk : j ≤ k := by decide) (hg : Gl X x := by rfl)
    (hdb : (x == ("__debug__" : Str)) = false := by decide) (he : starEach (e :: es) X.env = (false, eval e X.env) :: starEach es X.env := by rfl) (hpl : (backTo pos (starEach es X.env)).any (·.1) = false := by rfl) : DE X W (.Call (.Name x p) (e :: es) [] pos) (dCall (starF np F) t) := by
  obtain ⟨f, hm, ok, kp⟩ := G.ex
  refine ⟨PE.weak (pe_callSR ok (C.hr.mono hk) hg hm kp (fun σ => passAt C.tk σ) ha.run hdb he hpl) fun σ H Q hq => ?_⟩
  obtain ⟨Z, ρ, r, q⟩ := hq
  refine tVs_bind (P := fun Z H o => PostO X.K (He.ga X.K) W Z H σ o Q) r (fun _ _ _ z => z) (fun z => z) q fun ds vs Z1 H1 fp ex g1 dn q => ?_
  exact spS_of (spF_of g1.s (r.t.ex g1.z) dn rfl (PostO.gr q g1))
end
def stopX : Os → Os
  | .ex _ _ _ _ => .bad
  | r => r
def sOnly (gs : Env → Os) : Str → List Str → List D → Env → Os := fun _ _ _ ρ => stopX (gs ρ)
section
variable {X : Cx} {W : WX} {k : Nat} {x : Str} {cls : Value} {hit : Str → Option Bool} {body suite : List Stmt} {b₀ : Stmt} {np pos pos' : Pos} {gb gs : Env → Os}
end
end DL
namespace DL
open PySem PySem.Spec PyProof.Rows L2 ClX
variable [Tb]
theorem tgN_ne {i j : Nat} (h : j ≠ i) {d : D} {ρ ρ1 : Env} (e : tgN j d ρ = some ρ1) : ρ1[i]? = ρ[i]? := by
  unfold tgN at e
  split at e
  · cases e
    exact List.getElem?_set_ne h
  · cases e
theorem bind_star0 {B : List Value → Sem (List (Str × Value))} {pv : Str} (h0 : B [] = (newTuple [] >>= fun t => pure [(pv, t)])) (h1 : ∀ r rs, B (r :: rs) = (newTuple (r :: rs) >>= fun t => pure [(pv, t)])) :
    ∀ us rest : List Value, us.length = ([] : List Str).length → B (us ++ rest) = (newTuple rest >>= fun t => pure (([] : List Str).zip us ++ [(pv, t)]))
  | [], [], _ => h0
  | [], r :: rs, _ => h1 r rs
section
variable {X : Cx} {CX : CXT} {W : WX} {k j np : Nat} {x : Str} {p pos : Pos} {F : List D → Ou D} {f : Addr} {sp : Sp} {E : L2.St → XK}
theorem pe_callSR0 (F : FnR X.prog X.w X.K X.mg X.base CX k f sp) (hr : Room k X.A) (hg : Gl X x) (hm : X.mg x = some (.ref f)) (hk : PySem.W.keepIn X.K (.ref f) = true) (hx : ∀ σ, PassesAt CX X σ (E σ)) (hdb : (x == ("__debug__" : Str)) = false := by decide) :
    PE X (.Call (.Name x p) [] [] pos) (fun σ H Q => sp [] H Q (E σ)) := by
  refine ⟨fun pins s σ H Q I h => ?_⟩
  refine wpAny_Call_Name_kw (ld_glob I hg hm ?_ hdb)
  refine PySem.W.callWith_K0 (first := []) I.kIn hk ?_
  exact run_fnRS F hr (hx σ) I .nil h
theorem DE.callS0 (C : Ctx X W k) (G : DnS X.prog X.w X.K X.mg X.base j x np F) (hk : j ≤ k := by decide) (hg : Gl X x := by rfl) (hdb : (x == ("__debug__" : Str)) = false := by decide) : DE X W (.Call (.Name x p) [] [] pos) (dCall (starF np F) aNil) := by
  obtain ⟨f, hm, ok, kp⟩ := G.ex
  refine ⟨PE.weak (pe_callSR0 ok (C.hr.mono hk) hg hm kp (fun σ => passAt C.tk σ) hdb) fun σ H Q hq => ?_⟩
  obtain ⟨Z, ρ, r, q⟩ := hq
  exact spS_of (spF_of (ds := []) (vs := []) (fp := []) r.s r.t ⟨rfl, rfl⟩ rfl q)
end
end DL
namespace DL
open PySem PySem.Spec PyProof.Rows L2
variable [Tb]
def sAppTp (i : Nat) (g f : Env → Ou D) : Env → Os := fun ρ => match ρ[i]? with
  | some (some (.tup xs)) => ofU (g ρ) ρ fun k => match k with
    | .int k => match ixN xs.length k with
      | some j => match xs[j]? with
        | some (.lst true ys) => ofU (f ρ) ρ fun d => if ys.length < LIM then .nx (ρ.set i (some (.tup (xs.set j (.lst true (ys ++ [d])))))) else .bad
        | _ => .bad
      | none => .bad
    | _ => .bad
  | _ => .bad
section
variable {K : PySem.W.Frag} {cl : Str → Addr} {Z H Z' H' Z0 H0 Z1 H1 : Hp} {σ : L2.St} {ρ : Env} {W : WX}
theorem Sta.tup1 {i : Nat} {xs : List D} (s : Sta K cl Z0 H0 Z H σ ρ) (e : ρ[i]? = some (some (.tup xs))) : ∃ a : Addr, σ[i]? = some (some (.ref a)) := by
  obtain ⟨fp, sl, nd, fr⟩ := s.e
  obtain ⟨v, f, rest0, h1, h2, h3, h4⟩ := sl.split e
  simp only [Den] at h2
  obtain ⟨a, vs, e1, q, r⟩ := h2
  subst e1
  exact ⟨a, h1⟩
theorem Sta.tup2 {i j : Nat} {xs ys : List D} (s : Sta K cl Z0 H0 Z H σ ρ) (e : ρ[i]? = some (some (.tup xs))) (e2 : xs[j]? = some (.lst true ys)) :
    ∃ (a : Addr) (vs : List V) (b : Addr) (ws : List V) (fq rest : Fp), σ[i]? = some (some (.ref a)) ∧ SqT K Z a vs ∧ vs.length = xs.length ∧ vs[j]? = some (.ref b) ∧ H b = some (.lst ws) ∧ Dens K cl Z H ys ws fq ∧ (b :: (fq ++ rest)).Nodup ∧
      (∀ c ∈ b :: (fq ++ rest), H c ≠ none ∧ H0 c = none ∧ Z c = none) ∧
      ∀ (Z1 H1 : Hp) (ws' : List V) (ys' : List D) (fq' : Fp), Gr Z H Z1 H1 → fq'.Nodup → (∀ c ∈ fq', c ≠ b ∧ c ∉ rest ∧ H0 c = none) → Dens K cl Z1 (upd H1 b (.lst ws')) ys' ws' fq' →
        Sta K cl Z0 H0 Z1 (upd H1 b (.lst ws')) σ (ρ.set i (some (.tup (xs.set j (.lst true ys'))))) := by
  obtain ⟨fp, sl, nd, fr⟩ := s.e
  obtain ⟨v, f, rest0, h1, h2, h3, h4⟩ := sl.split e
  simp only [Den] at h2
  obtain ⟨a, vs, e1, q, r⟩ := h2
  subst e1
  obtain ⟨u, f2, rest1, k1, k2, k3, k4⟩ := Dens.split r e2
  simp only [Den] at k2
  obtain ⟨b, ws, fq, e3, ef2, zb, qb, rb⟩ := k2
  subst e3 ef2
  have pm : fp.Perm (b :: (fq ++ (rest1 ++ rest0))) := by
    refine h3.trans ?_
    refine (List.Perm.append_right rest0 k3).trans ?_
    show (b :: (fq ++ rest1 ++ rest0)).Perm _
    rw [List.append_assoc]
  have nd2 : (b :: (fq ++ (rest1 ++ rest0))).Nodup := pm.nodup_iff.mp nd
  have mm : ∀ c ∈ b :: (fq ++ (rest1 ++ rest0)), c ∈ fp := fun c hc => pm.symm.mem_iff.mp hc
  have ow : ∀ c ∈ b :: (fq ++ (rest1 ++ rest0)), Z c = none ∧ ∃ xs : Mo, H c = some xs.o := fun c hc => Slots.own sl c (mm c hc)
  have mrest : ∀ c ∈ rest1 ++ rest0, c ∈ b :: (fq ++ (rest1 ++ rest0)) := fun c hc => List.mem_cons_of_mem _ (List.mem_append_right _ hc)
  refine ⟨a, vs, b, ws, fq, rest1 ++ rest0, h1, q, r.length, k1, qb, rb, nd2, fun c hc => ?_, fun Z1 H1 ws' ys' fq' g nf dj dn => ?_⟩
  · obtain ⟨z, xs, q'⟩ := ow c hc
    exact ⟨by rw [q']; exact Option.some_ne_none _, fr c (mm c hc), z⟩
  · have ndb := List.nodup_cons.mp nd2
    have s1 := s.gr g
    have nb : ∀ c ∈ rest1 ++ rest0, c ≠ b := fun c hc z => ndb.1 (z ▸ List.mem_append_right _ hc)
    have hr : ∀ c ∈ rest1 ++ rest0, Z1 c = none ∧ upd H1 b (.lst ws') c = H c := fun c hc => by
      obtain ⟨z, q'⟩ := ow c (mrest c hc)
      obtain ⟨b1, b2⟩ := g.own z q'
      exact ⟨b1, by rw [upd_ne (nb c hc)]; exact b2⟩
    have zb1 := (g.own zb ⟨.l ws, qb⟩).1
    obtain ⟨fq1, m1, m2⟩ := k4 Z1 (upd H1 b (.lst ws')) (.lst true ys') (.ref b) (b :: fq') g.z (fun c hc => hr c (List.mem_append_left _ hc)) (by
      simp only [Den]
      exact ⟨b, ws', fq', rfl, rfl, zb1, upd_same, dn⟩)
    have evs : vs.set j (.ref b) = vs := by
      apply List.ext_getElem?
      intro n
      by_cases c : j = n
      · subst c
        by_cases c2 : j < vs.length
        · rw [List.getElem?_set_self c2, k1]
        · rw [List.getElem?_eq_none (by omega)] at k1; cases k1
      · rw [List.getElem?_set_ne c]
    rw [evs] at m1
    obtain ⟨fp', n1, n2⟩ := h4 Z1 (upd H1 b (.lst ws')) (.tup (xs.set j (.lst true ys'))) fq1 g.z (fun c hc => hr c (List.mem_append_right _ hc)) (by
      simp only [Den]
      exact ⟨a, vs, rfl, g.z.sqT q, m1⟩)
    have pm' : fp'.Perm (b :: (fq' ++ (rest1 ++ rest0))) := by
      refine n2.trans ?_
      refine (List.Perm.append_right rest0 m2).trans ?_
      show (b :: (fq' ++ rest1 ++ rest0)).Perm _
      rw [List.append_assoc]
    have lb : ∃ xs : Mo, H1 b = some xs.o := ⟨.l ws, g.h.l qb⟩
    refine ⟨⟨s1.g.z, s1.g.h.mut (fr b (mm b List.mem_cons_self)) lb, s1.g.s.mut zb1 lb, s1.g.n⟩, s1.t, fp', n1, ?_, fun c hc => ?_⟩
    · refine pm'.symm.nodup_iff.mp ?_
      rw [List.nodup_cons, List.nodup_append]
      refine ⟨fun hm => ?_, nf, (List.nodup_append.mp ndb.2).2.1, fun x hx y hy c => (dj x hx).2.1 (c ▸ hy)⟩
      rcases List.mem_append.mp hm with z | z
      · exact (dj b z).1 rfl
      · exact ndb.1 (List.mem_append_right _ z)
    · rcases List.mem_cons.mp (pm'.mem_iff.mp hc) with z | z
      · subst z; exact fr c (mm c List.mem_cons_self)
      · rcases List.mem_append.mp z with z | z
        · exact (dj c z).2.2
        · exact fr c (mm c (mrest c z))
end
section
variable {X : Cx} {W : WX} {a b e c : Expr} {f g : Env → Ou D} {pos : Pos}
theorem DS.appTp (i : Nat) {x : Str} {p1 p2 apos cpos : Pos} {ix : Expr} (hix : DB X W ix g) (he : DE X W e f) (hN : X.N[i]? = some x := by rfl) (hv : Vis X.env.scope x := by first | exact Or.inl rfl | exact Or.inr (Or.inl rfl) | exact Or.inr (Or.inr rfl)) (hd : (x == ("__debug__" : Str)) = false := by decide)
    (hcd : (x == ("__classdict__" : Str)) = false := by decide) (hp : PlainIx ix := by exact fun _ _ => rfl) (hs : swapsWith (.Call (.Attribute (.Subscript (.Name x p1) ix p2) "append" apos) [e] [] cpos) none pos.line X.env = pure false := by rfl)
    (hbase : attributeBase (.Subscript (.Name x p1) ix p2) "append" X.env (eval (.Subscript (.Name x p1) ix p2) X.env) = eval (.Subscript (.Name x p1) ix p2) X.env := by rfl)
    (hfew : ((backTo cpos (starEach [e] X.env)).all (fun x => !x.1) && (backToKw cpos (keywordEach [] X.env)).all (fun x => x.1.isSome)
      && decide ([e].length + ([] : List Keyword).length + (if ([] : List Keyword).isEmpty then 0 else 1) < 30)) = true := by rfl)
    (hline : (apos.endLine == cpos.line) = true := by rfl) (hst : starEach [e] X.env = (false, eval e X.env) :: starEach [] X.env := by rfl) (hplain : (backTo cpos (starEach [] X.env)).any (·.1) = false := by rfl) :
    DS X W (.Expr (.Call (.Attribute (.Subscript (.Name x p1) ix p2) "append" apos) [e] [] cpos) pos) (sAppTp i g f) := by
  refine ⟨fun Z0 H0 => PS.weak (ps_expr (pe_bm PySem.F.plainAttrs_list PySem.F.slot_list_append PySem.F.type_list_append mt_append (pe_ix ix_seq (pv i hN hv hd hcd) hix.run hp) (pa_cons he.run pa_nil hst) hbase hfew hline hst hplain) hs) fun E σ H hq => ?_⟩
  obtain ⟨Z, ρ, s, q⟩ := hq
  unfold sAppTp at q
  split at q
  · rename_i xs ec
    obtain ⟨l0, h1⟩ := s.tup1 ec
    refine ⟨.ref l0, h1, Z, ρ, s.rel, ?_⟩
    cases eg : g ρ with
    | ok kk =>
      rw [eg] at q
      intro w Z2 H2 fw g2 dw
      cases kk with
      | int k =>
        have q : PostS X.K (He.ga X.K) W Z0 H0 E (match ixN xs.length k with
          | some j => match xs[j]? with
            | some (.lst true ys) => ofU (f ρ) ρ fun d => if ys.length < LIM then .nx (ρ.set i (some (.tup (xs.set j (.lst true (ys ++ [d])))))) else .bad
            | _ => .bad
          | none => .bad) := q
        split at q
        · rename_i j ej
          split at q
          · rename_i ys ey
            have s2 := s.gr g2
            obtain ⟨l, vs, b, ws, fq, rest, m1, m2, m3, m4, m5, m6, m7, m8, m9⟩ := s2.tup2 ec ey
            have el : l = l0 := by
              rw [h1] at m1
              have := Option.some.inj (Option.some.inj m1)
              cases this; rfl
            subst el
            rw [dw.1]
            refine .inr (.inl ⟨l, vs, k, .ref b, rfl, rfl, s2.g.s.sqT m2, atI_of m3 ej m4, .inl ⟨rfl, _, .inl (.inl m5)⟩, Z2, ρ, s2.rel, ?_⟩)
            cases ef : f ρ with
            | ok y =>
              rw [ef] at q
              intro u Z1 H1 fy g1 dy ny fy'
              have q : PostS X.K (He.ga X.K) W Z0 H0 E (if ys.length < LIM then .nx (ρ.set i (some (.tup (xs.set j (.lst true (ys ++ [y])))))) else .bad) := q
              split at q
              · rename_i c
                have d1 := g1.dens m6
                have hl : H1 b = some (.lst ws) := g1.h.l m5
                have nl := List.nodup_cons.mp m7
                refine ⟨b, ws, u, rfl, rfl, hl, by rw [d1.length]; exact lim_lt c, ?_⟩
                have nfq : b ∉ fq := fun hm => nl.1 (List.mem_append_left _ hm)
                have nfy : b ∉ fy := fun hm => (m8 b List.mem_cons_self).1 (fy' b hm)
                refine q _ Z1 _ (m9 Z1 H1 (ws ++ [u]) (ys ++ [y]) (fq ++ fy) g1 ?_ (fun d hb => ?_) ((d1.upd nfq).append (Dens.one (dy.upd nfy))))
                · rw [List.nodup_append]
                  exact ⟨(List.nodup_append.mp nl.2).1, ny, fun a ha b hb c => (m8 a (List.mem_cons_of_mem _ (List.mem_append_left _ ha))).1 (fy' a (c ▸ hb))⟩
                · rcases List.mem_append.mp hb with hb | hb
                  · exact ⟨fun c => nfq (c ▸ hb), fun hm => (List.nodup_append.mp nl.2).2.2 d hb d hm rfl, (m8 d (List.mem_cons_of_mem _ (List.mem_append_left _ hb))).2.1⟩
                  · exact ⟨fun c => nfy (c ▸ hb), fun hm => (m8 d (List.mem_cons_of_mem _ (List.mem_append_right _ hm))).1 (fy' d hb), s2.g.h.back (fy' d hb)⟩
              · exact q.elim
            | ex c ns xs => rw [ef] at q; exact fun dc Z' H' g1 x => q dc σ Z' H' (s2.gr g1) x
            | bad => rw [ef] at q; exact q
          · exact q.elim
        · exact q.elim
      | _ => exact q.elim
    | ex c ns xs => rw [eg] at q; exact fun dc Z' H' g1 x => q dc σ Z' H' (s.gr g1) x
    | bad => rw [eg] at q; exact q
  · exact q.elim
end
section
variable {ρ : Env} {i : Nat} {f : Env → Ou D}
@[simp] theorem x_sAppTp (g : Env → Ou D) (xs : List D) (h : ρ[i]? = some (some (.tup xs))) : sAppTp i g f ρ = ofU (g ρ) ρ fun k => match k with
    | .int k => match ixN xs.length k with
      | some j => match xs[j]? with
        | some (.lst true ys) => ofU (f ρ) ρ fun d => if ys.length < LIM then .nx (ρ.set i (some (.tup (xs.set j (.lst true (ys ++ [d])))))) else .bad
        | _ => .bad
      | none => .bad
    | _ => .bad := by unfold sAppTp; rw [h] <;> rfl
end
end DL
namespace DL
open PySem PySem.Spec PyProof.Rows L2
variable [Tb]
def tgU (is : List Nat) : D → Env → Option Env := fun d ρ => match d with
  | .tup ds => if decide (ds.length = is.length) && is.all (fun i => decide (i < ρ.length)) then some (setAllE ρ is ds) else none
  | _ => none
theorem DG.tup {X : Cx} (is : List Nat) {es : List Expr} {k : Nat} {p2 : Pos} (C : X.calm = true) (hg : PGs X es (gAll is)) (hn : (assignEach es X.env).length = is.length := by rfl) (hst : (assignEach es X.env).findIdx? (·.1) = none := by rfl) : DG X (.Tuple es k p2) (tgU is) := by
  refine ⟨PG.weak (pg_tup C hg hn hst) fun v σ H Q hq => ?_⟩
  obtain ⟨Z0, H0, Z, ρ, d, ρ', s, dn, e, q⟩ := hq
  unfold tgU at e
  cases d with
  | tup ds =>
    by_cases c : (decide (ds.length = is.length) && is.all (fun i => decide (i < ρ.length))) = true
    · have e : (if decide (ds.length = is.length) && is.all (fun i => decide (i < ρ.length)) then some (setAllE ρ is ds) else none) = some ρ' := e
      rw [if_pos c] at e
      cases e
      obtain ⟨c1, c2⟩ := band c
      have c1 := of_decide_eq_true c1
      have c2 : ∀ i ∈ is, i < ρ.length := fun i hi => of_decide_eq_true (List.all_eq_true.mp c2 i hi)
      obtain ⟨a, vs, e1, h2, _, h3⟩ := dn.tupH s.g.s
      refine ⟨a, vs, e1, h2, by rw [h3.length]; exact c1, gAll_of is vs σ H _ (by rw [h3.length]; exact c1) ?_⟩
      exact q _ (s.setAll (Gr.refl s.g.s) h3 List.nodup_nil (fun _ z => nomatch z) c1 c2)
    · have e : (if decide (ds.length = is.length) && is.all (fun i => decide (i < ρ.length)) then some (setAllE ρ is ds) else none) = some ρ' := e
      rw [if_neg c] at e
      cases e
  | _ => cases e
end DL
namespace Lw
open PySem hiding Env
open PySem.Spec PyProof.Rows L2 DL
noncomputable section
def topS (i : Nat) : Stmt := PySem.Challenge.pw_gapsittings_k65_difference_and_net.main.body.getD i (.Pass ⟨0, 0, 0, 0⟩)
abbrev FnP (K : PySem.W.Frag) (x : Str) (st : Stmt) (f : Addr) (fd : FuncData) : Prop := FunD K x x (defArgs st) (defBody st) (defScope st) [] [] f fd
def hdef0 : DefY := ⟨("_law_row", none), "_law_row", "_law_row", defArgs (topS 5), defBody (topS 5), defScope (topS 5), [], [], none, none⟩
def hdef1 : DefY := ⟨("_law_big", none), "_law_big", "_law_big", defArgs (topS 6), defBody (topS 6), defScope (topS 6), [], [], none, none⟩
def hdef2 : DefY := ⟨("_law_value", none), "_law_value", "_law_value", defArgs (topS 8), defBody (topS 8), defScope (topS 8), [], [], none, none⟩
def hdef3 : DefY := ⟨("_law_pool", none), "_law_pool", "_law_pool", defArgs (topS 10), defBody (topS 10), defScope (topS 10), [], [], none, none⟩
def hdef4 : DefY := ⟨("difference", none), "difference", "difference", defArgs (topS 1), defBody (topS 1), defScope (topS 1), [], [], none, none⟩
def hdef5 : DefY := ⟨("_law_words_of", none), "_law_words_of", "_law_words_of", defArgs (topS 11), defBody (topS 11), defScope (topS 11), [], [], none, none⟩
def hdef6 : DefY := ⟨("_law_rounds", none), "_law_rounds", "_law_rounds", defArgs (topS 12), defBody (topS 12), defScope (topS 12), [], [], none, none⟩
def hdef7 : DefY := ⟨("_law_pair_of", none), "_law_pair_of", "_law_pair_of", defArgs (topS 9), defBody (topS 9), defScope (topS 9), [], [], none, none⟩
def hdef8 : DefY := ⟨("_law_cell", none), "_law_cell", "_law_cell", defArgs (topS 4), defBody (topS 4), defScope (topS 4), [], [], none, none⟩
def hdef9 : DefY := ⟨("_law_count", none), "_law_count", "_law_count", defArgs (topS 7), defBody (topS 7), defScope (topS 7), [], [], none, none⟩
def hdef10 : DefY := ⟨("net", none), "net", "net", defArgs (topS 2), defBody (topS 2), defScope (topS 2), [], [], none, none⟩
def hdef11 : DefY := ⟨("law", none), "law", "law", defArgs (topS 13), defBody (topS 13), defScope (topS 13), [], [], none, none⟩
def fn : List DefY := [hdef0, hdef1, hdef2, hdef3, hdef4, hdef5, hdef6, hdef7, hdef8, hdef9, hdef10, hdef11]
def fa : List Chk := [chkF (.free "abs"), chkF (.free "range"), chkF (.free "int"), chkF (.free "sorted"), chkF (.free "len"), chkF (.free "isinstance"), chkF (.free "tuple"), chkF (.free "list"), chkF (.glo "_law_row"), chkF (.glo "_law_big"), chkF (.glo "_law_value"), chkF (.glo "_law_pool"), chkF (.glo "difference"), chkF (.glo "_law_words_of"), chkF (.glo "_law_rounds"), chkF (.glo "_law_pair_of"), chkF (.glo "_law_cell"), chkF (.glo "_law_count"), chkF (.glo "net"), chkF (.glo "law")]
abbrev R : PySem.W.OpenRow := PySem.W.OpenLaw.row PySem.Challenge.rw_gapsittings_k65_difference_and_net
abbrev hk : PySem.W.Hook := hookY 4 fa fn
def ob (s : PySem.W.SharedT) : AlY := obsYG 4 fa fn (HandSHeadRun.getT s)
theorem ob_eq (s : PySem.W.SharedT) : ob s = hk.obs s.abs := obsYG_eq (HandSHeadRun.getT_eq s)
theorem run (w : World) : HandSHeadRun.RunEq R (PySem.W.view R.prog [13]) hk ob 12000 [("difference" : PySem.Str), ("net" : PySem.Str), ("_law_cell" : PySem.Str), ("_law_row" : PySem.Str), ("_law_big" : PySem.Str), ("_law_count" : PySem.Str), ("_law_value" : PySem.Str), ("_law_pair_of" : PySem.Str), ("_law_pool" : PySem.Str), ("_law_words_of" : PySem.Str), ("_law_rounds" : PySem.Str)] w := by
  intro os
  kernel_rfl
end
end Lw
namespace DL
open PySem hiding Env
open PySem.Spec PyProof.Rows L2
def g__law_cell : Env → Os := (sSeq (sIf (b2 ltD (dVar 1) (dN lenN (aCons (dVar 0) aNil))) (sRet (dN intN (aCons (d2 ixD (dVar 0) (dVar 1)) aNil))) sNil)
    (sRet (dC (.int 0))))
def F__law_cell : List D → Ou D := runF 2 g__law_cell
def b1__law_row : Env → Os := (sSeq (sApp 3 (d2 modD (dN intN (aCons (dVar 2) aNil)) (dC (.int 1000))))
    (sSet 2 (d2 fdivD (dVar 2) (dC (.int 1000)))))
def b2__law_row : Env → Os := (sSeq (sSet 6 (d2 modD (dN intN (aCons (d2 mulD (dVar 5) (d2 addD (d2 addD (dC (.int 48271)) (d2 mulD (d2 mulD (dC (.int 66)) (dVar 4)) (dVar 4))) (d2 mulD (dC (.int 14)) (dVar 4)))) aNil)) (dC (.int 2147483647))))
    (sSeq (sSet 6 (d2 modD (dN intN (aCons (d2 addD (d2 mulD (dVar 6) (dVar 6)) (d2 mulD (dVar 6) (d2 addD (dVar 4) (dC (.int 1))))) aNil)) (dC (.int 2147483629))))
    (sApp 3 (d2 modD (dN intN (aCons (dVar 6) aNil)) (dC (.int 1000))))))
def g__law_row : Env → Os := (sSeq (sSet 2 (dN absN (aCons (dVar 0) aNil)))
    (sSeq (sSet 3 (dLst aNil))
    (sSeq (sIf (b2 geD (dVar 2) (d2 powD (dC (.int 10)) (dC (.int 18)))) (sSeq (sFor (DL.iRng1 (aCons (dVar 1) aNil)) (tgN 4) b1__law_row)
    (sRetV 3)) sNil)
    (sSeq (sSet 5 (d2 addD (d2 mulD (dC (.int 2)) (dVar 2)) (dN intN (aCons (dBl (b2 ltD (dVar 0) (dC (.int 0)))) aNil))))
    (sSeq (sFor (DL.iRng1 (aCons (dVar 1) aNil)) (tgN 4) b2__law_row)
    (sRetV 3))))))
def F__law_row : List D → Ou D := runF 7 g__law_row
def g__law_big : Env → Os := (sSeq (sSet 1 (d2 modD (dN intN (aCons (dN absN (aCons (dVar 0) aNil)) aNil)) (d2 powD (dC (.int 10)) (dC (.int 20)))))
    (sSeq (sIf (b2 ltD (dVar 0) (dC (.int 0))) (sRet (d1 negD (dVar 1))) sNil)
    (sRetV 1)))
def F__law_big : List D → Ou D := runF 2 g__law_big
def g__law_gap : Env → Os := (sRet (dFz (d2 ixD (dLst (aCons (dC (.int 1)) (aCons (dC (.int 2)) (aCons (dC (.int 3)) (aCons (dC (.int 5)) (aCons (dC (.int 4)) (aCons (d2 powD (dC (.int 10)) (dC (.int 9))) (aCons (dC (.int 7)) (aCons (d2 addD (d2 powD (dC (.int 10)) (dC (.int 15))) (dC (.int 7))) aNil))))))))) (d2 modD (dN intN (aCons (dVar 0) aNil)) (dC (.int 8))))))
def F__law_gap : List D → Ou D := runF 1 g__law_gap
def g__law_is_integer : Env → Os := (sRet (dAnd (dIsi .int (dVar 0)) (dNot (dIsi .bool (dVar 0)))))
def F__law_is_integer : List D → Ou D := runF 1 g__law_is_integer
def g_hops : Env → Os := (sRet (d2 fdivD (d2 subD (d2 addD (d2 subD (dVar 1) (dVar 0)) (dVar 2)) (dC (.int 1))) (dVar 2)))
def F_hops : List D → Ou D := runF 3 g_hops
theorem cell_ok (ns : List Int) (i : Nat) : F__law_cell [.scr ns, .int i] = .ok (.int (at0 ns i)) := by
  by_cases h : i < ns.length
  · have h' : (i : Int) < ns.length := by omega
    simp [F__law_cell, g__law_cell, runF, h', x_ixS (Int.natCast_nonneg i) h']
  · have h' : ¬ (i : Int) < ns.length := by omega
    simp [F__law_cell, g__law_cell, runF, h', at0, List.getD, List.getElem?_eq_none (show ns.length ≤ i by omega)]
theorem big_ok (i : Int) : ∃ j : Int, F__law_big [.int i] = .ok (.int j) ∧ -100000000000000000000 < j ∧ j < 100000000000000000000 := by
  have h1 := Int.emod_nonneg (if i < 0 then -i else i) (show (100000000000000000000 : Int) ≠ 0 by decide)
  have h2 := Int.emod_lt_of_pos (if i < 0 then -i else i) (show (0 : Int) < 100000000000000000000 by decide)
  by_cases h : i < 0
  · refine ⟨-((if i < 0 then -i else i) % 100000000000000000000), ?_, by omega, by omega⟩
    simp [F__law_big, g__law_big, runF, x_mod, h]
  · refine ⟨((if i < 0 then -i else i) % 100000000000000000000), ?_, by omega, by omega⟩
    simp [F__law_big, g__law_big, runF, x_mod, h]
def Rw (rs : List Int) (n : Nat) : Prop := rs.length = n ∧ ∀ r ∈ rs, 0 ≤ r ∧ r < 1000
theorem Rw.snoc {rs : List Int} {n : Nat} (h : Rw rs n) (i : Int) : Rw (rs ++ [i % 1000]) (n + 1) := by
  refine ⟨by simp [h.1], fun r hr => ?_⟩
  rcases List.mem_append.mp hr with z | z
  · exact h.2 r z
  · rw [List.mem_singleton.mp z]
    exact ⟨Int.emod_nonneg _ (by decide), Int.emod_lt_of_pos _ (by decide)⟩
theorem Rw.at {rs : List Int} {n : Nat} (h : Rw rs n) {i : Nat} (hi : i < n) : 0 ≤ at0 rs i ∧ at0 rs i < 1000 := by
  have e : i < rs.length := by rw [h.1]; exact hi
  have : at0 rs i = rs[i] := by simp [at0, List.getD, List.getElem?_eq_getElem e]
  rw [this]
  exact h.2 _ (List.getElem_mem e)
theorem lt_lim {n : Nat} (h : n < 1000000) : n < LIM := h
theorem row_big (c : Int) (n : Nat) (s0 : Int) (hn : n ≤ 1000) : ∃ (rs : List Int) (s : Int) (o : Option D), loopS (tgN 4) b1__law_row (rng0 n) [some (.int c), some (.int n), some (.int s0), some (.lst true (I [])), none, none, none] = .nx [some (.int c), some (.int n), some (.int s), some (.lst true (I rs)), o, none, none] ∧ Rw rs n := by
  obtain ⟨ρ', e, rs, s, o, hρ, hw⟩ := loop_inv0 (tg := tgN 4) (body := b1__law_row) (fun j ρ => ∃ (rs : List Int) (s : Int) (o : Option D), ρ = [some (.int c), some (.int n), some (.int s), some (.lst true (I rs)), o, none, none] ∧ Rw rs j) (rng0 n)
      [some (.int c), some (.int n), some (.int s0), some (.lst true (I [])), none, none, none] ⟨[], _, _, rfl, rfl, fun _ z => nomatch z⟩ fun j d ρ hd ⟨rs, s, o, hρ, hw⟩ => by
        obtain ⟨rfl, hj⟩ := rng0_get hd
        subst hρ
        refine ⟨_, _, rfl, .inl ?_, rs ++ [s % 1000], s / 1000, some (.int j), rfl, hw.snoc s⟩
        have hl : rs.length < LIM := lt_lim (by rw [hw.1]; omega)
        simp [b1__law_row, x_mod, x_fdiv, hl, I]
  rw [rng0_len] at hw
  exact ⟨rs, s, o, hρ ▸ e, hw⟩
theorem row_small (c : Int) (n : Nat) (z s : Int) (hn : n ≤ 1000) (bs : B64 s) : ∃ (rs : List Int) (m o : Option D), loopS (tgN 4) b2__law_row (rng0 n) [some (.int c), some (.int n), some (.int z), some (.lst true (I [])), none, some (.int s), none] = .nx [some (.int c), some (.int n), some (.int z), some (.lst true (I rs)), o, some (.int s), m] ∧ Rw rs n := by
  obtain ⟨ρ', e, rs, m, o, hρ, hw⟩ := loop_inv0 (tg := tgN 4) (body := b2__law_row) (fun j ρ => ∃ (rs : List Int) (m o : Option D), ρ = [some (.int c), some (.int n), some (.int z), some (.lst true (I rs)), o, some (.int s), m] ∧ Rw rs j) (rng0 n)
      [some (.int c), some (.int n), some (.int z), some (.lst true (I [])), none, some (.int s), none] ⟨[], _, _, rfl, rfl, fun _ z => nomatch z⟩ fun j d ρ hd ⟨rs, m, o, hρ, hw⟩ => by
        obtain ⟨rfl, hj⟩ := rng0_get hd
        subst hρ
        have hl : rs.length < LIM := lt_lim (by rw [hw.1]; omega)
        have bj : B64 (j : Int) := ⟨by omega, by omega⟩
        have b66 : B64 66 := ⟨by decide, by decide⟩
        have b14 : B64 14 := ⟨by decide, by decide⟩
        have hm : ∀ x : Int, B64 (x % 2147483647) := fun x => by
          have h1 := Int.emod_nonneg x (show (2147483647 : Int) ≠ 0 by decide)
          have h2 := Int.emod_lt_of_pos x (show (0 : Int) < 2147483647 by decide)
          exact ⟨by omega, by omega⟩
        obtain ⟨a, ha⟩ : ∃ a, s * (48271 + 66 * (j : Int) * j + 14 * j) % 2147483647 = a := ⟨_, rfl⟩
        have ba : B64 a := ha ▸ hm _
        obtain ⟨b, hb⟩ : ∃ b, (a * a + a * ((j : Int) + 1)) % 2147483629 = b := ⟨_, rfl⟩
        refine ⟨_, _, rfl, .inl ?_, rs ++ [b % 1000], some (.int b), some (.int j), rfl, hw.snoc _⟩
        simp [b2__law_row, x_mod, x_fdiv, hl, I, x_mulL, x_mulR bj, b66, b14, bs, ha, ba, hb]
  rw [rng0_len] at hw
  exact ⟨rs, m, o, hρ ▸ e, hw⟩
theorem row_ok (c : Int) (n : Nat) (hn : n ≤ 1000) : ∃ rs : List Int, F__law_row [.int c, .int n] = .ok (.lst true (I rs)) ∧ Rw rs n := by
  have hr : rng1Of [.int (n : Int)] = some (rng0 n) := x_rng1 (by omega) (by omega)
  have hi : I [] = [] := rfl
  have hz : 0 ≤ LIM := Nat.zero_le _
  by_cases h : (1000000000000000000 : Int) ≤ (if c < 0 then -c else c)
  · obtain ⟨rs, s, o, e, hw⟩ := row_big c n (if c < 0 then -c else c) hn
    rw [hi] at e
    refine ⟨rs, ?_, hw⟩
    simp [F__law_row, g__law_row, runF, h, hr, e, hz]
  · obtain ⟨rs, s, o, e, hw⟩ := row_small c n (if c < 0 then -c else c) (2 * (if c < 0 then -c else c) + (if c < 0 then 1 else 0)) hn ⟨by omega, by omega⟩
    rw [hi] at e
    refine ⟨rs, ?_, hw⟩
    simp [F__law_row, g__law_row, runF, h, hr, hz, x_mulL (show B64 2 from ⟨by decide, by decide⟩), e]
theorem cell_int (ns : List Int) (i : Int) (h : 0 ≤ i) : F__law_cell [.scr ns, .int i] = .ok (.int (at0 ns i.toNat)) := by
  obtain ⟨k, rfl⟩ : ∃ k : Nat, i = k := ⟨i.toNat, by omega⟩
  rw [cell_ok]
  rfl
theorem row_int (c n : Int) (h0 : 0 ≤ n) (hn : n ≤ 1000) : ∃ rs : List Int, F__law_row [.int c, .int n] = .ok (.lst true (I rs)) ∧ Rw rs n.toNat := by
  have e : n = (n.toNat : Int) := by omega
  rw [e]
  exact row_ok c n.toNat (by omega)
end DL
namespace DL
open PySem hiding Env
open PySem.Spec PyProof.Rows L2
def g__law_count : Env → Os := (sSeq (sIf (b2 ltD (dVar 0) (dC (.int 300))) (sRet (d2 fdivD (dVar 0) (dC (.int 100)))) sNil)
    (sRet (d2 addD (dC (.int 2)) (d2 modD (dN intN (aCons (dVar 0) aNil)) (d2 subD (dVar 1) (dC (.int 1)))))))
def F__law_count : List D → Ou D := runF 2 g__law_count
def g__law_value : Env → Os := (sRet (dFz (d2 ixD (dLst (aCons (dC (.int 0)) (aCons (dC (.int 1)) (aCons (dC (.int 2)) (aCons (dC (.int 3)) (aCons (d1 negD (dC (.int 1))) (aCons (dC (.int 1)) (aCons (dC (.int 2)) (aCons (dFz (dVar 1)) (aCons (d1 negD (dVar 1)) (aCons (d2 addD (dVar 2) (dVar 1)) (aCons (d2 subD (dVar 2) (dVar 1)) aNil)))))))))))) (d2 modD (dN intN (aCons (dVar 0) aNil)) (dC (.int 11))))))
def F__law_value : List D → Ou D := runF 3 g__law_value
def b1__law_events : Env → Os := (sSeq (sSet 8 (d2 addD (d2 addD (dVar 3) (d2 fdivD (d2 mulD (d2 modD (dN intN (aCons (d2 ixD (dVar 0) (d2 mulD (dC (.int 4)) (dVar 7))) aNil)) (dVar 4)) (dVar 2)) (dC (.int 2)))) (d2 ixD (dLst (aCons (dC (.int 0)) (aCons (dC (.int 0)) (aCons (dC (.int 0)) (aCons (dC (.int 1)) (aCons (d1 negD (dC (.int 1))) aNil)))))) (d2 modD (dN intN (aCons (d2 ixD (dVar 0) (d2 addD (d2 mulD (dC (.int 4)) (dVar 7)) (dC (.int 1)))) aNil)) (dC (.int 5))))))
    (sApp 6 (dTup (aCons (dFz (dVar 8)) (aCons (dCall F__law_value (aCons (d2 ixD (dVar 0) (d2 addD (d2 mulD (dC (.int 4)) (dVar 7)) (dC (.int 2)))) (aCons (d2 ixD (dVar 0) (d2 addD (d2 mulD (dC (.int 4)) (dVar 7)) (dC (.int 3)))) (aCons (dVar 5) aNil)))) aNil)))))
def g__law_events : Env → Os := (sSeq (sSet 6 (dLst aNil))
    (sSeq (sFor (DL.iRng1 (aCons (dVar 1) aNil)) (tgN 7) b1__law_events)
    (sRetV 6)))
def F__law_events : List D → Ou D := runF 9 g__law_events
def g__law_is_event : Env → Os := (sRet (dAnd (dIsi .tuple (dVar 0)) (dAnd (dBl (b2 eqD (dN lenN (aCons (dVar 0) aNil)) (dC (.int 2)))) (dAnd (dCall F__law_is_integer (aCons (d2 ixD (dVar 0) (dC (.int 0))) aNil)) (dCall F__law_is_integer (aCons (d2 ixD (dVar 0) (dC (.int 1))) aNil))))))
def F__law_is_event : List D → Ou D := runF 1 g__law_is_event
def g_ordered : Env → Os := (sRet (dN sortN (aCons (dVar 0) aNil)))
def F_ordered : List D → Ou D := runF 1 g_ordered
theorem ix_lit {o : Bool} (ns : List Int) {i : Int} (h0 : 0 ≤ i) (h : i < ns.length) : ∃ v, ixD (.lst o (I ns)) (.int i) = some (.int v) ∧ v ∈ ns := by
  refine ⟨_, x_ixI h0 h, ?_⟩
  have e : i.toNat < ns.length := by omega
  have : at0 ns i.toNat = ns[i.toNat] := by simp [at0, List.getD, List.getElem?_eq_getElem e]
  rw [this]
  exact List.getElem_mem e
theorem emod_lt' (x : Int) {m : Int} (h : 0 < m) : 0 ≤ x % m ∧ x % m < m := ⟨Int.emod_nonneg _ (by omega), Int.emod_lt_of_pos _ h⟩
theorem count_ok (n m : Int) (h : 2 ≤ m) (h0 : 0 ≤ n) : ∃ c : Int, F__law_count [.int n, .int m] = .ok (.int c) ∧ 0 ≤ c ∧ c ≤ max 2 m := by
  by_cases c : n < 300
  · refine ⟨n / 100, ?_, Int.ediv_nonneg h0 (by decide), ?_⟩
    · simp [F__law_count, g__law_count, runF, c, x_fdiv]
    · omega
  · have q := emod_lt' n (show 0 < m - 1 by omega)
    refine ⟨2 + n % (m - 1), ?_, by omega, by omega⟩
    simp [F__law_count, g__law_count, runF, c, x_mod (show 0 < m - 1 by omega)]
theorem value_ok (n o b : Int) : ∃ v : Int, F__law_value [.int n, .int o, .int b] = .ok (.int v) ∧ v ∈ [0, 1, 2, 3, -1, 1, 2, o, -o, b + o, b - o] := by
  have q := emod_lt' n (show (0 : Int) < 11 by decide)
  obtain ⟨v, hv, hm⟩ := ix_lit (o := true) [0, 1, 2, 3, -1, 1, 2, o, -o, b + o, b - o] (i := n % 11) q.1 (by simp; omega)
  refine ⟨v, ?_, hm⟩
  simp only [I, List.map] at hv
  simp [F__law_value, g__law_value, runF, x_mod, hv, le_lim']
def P2 (p : Int × Int) : D := .tup [.int p.1, .int p.2]
abbrev E2 (ps : List (Int × Int)) : List D := Ds ps
@[simp] theorem cln_lstT (xs : List D) : (D.lst true xs).cln = D.clns xs := (rfl)
@[simp] theorem cln_tup (xs : List D) : (D.tup xs).cln = D.clns xs := (rfl)
@[simp] theorem I_clns (ps : List Int) : D.clns (I ps) = true := Ds_clns ps
def leP (p q : Int × Int) : Bool := decide (p.1 < q.1 ∨ (p.1 = q.1 ∧ p.2 ≤ q.2))
def srt (ps : List (Int × Int)) : List (Int × Int) := ps.mergeSort leP
theorem leP_trans (a b c : Int × Int) (h1 : leP a b = true) (h2 : leP b c = true) : leP a c = true := by
  unfold leP at *
  simp only [decide_eq_true_eq] at *
  omega
theorem leP_total (a b : Int × Int) : (leP a b || leP b a) = true := by
  unfold leP
  simp only [Bool.or_eq_true, decide_eq_true_eq]
  omega
theorem srt_perm (ps : List (Int × Int)) : (srt ps).Perm ps := List.mergeSort_perm ps leP
theorem srt_len (ps : List (Int × Int)) : (srt ps).length = ps.length := (srt_perm ps).length_eq
theorem srt_pw (ps : List (Int × Int)) : (srt ps).Pairwise fun a b => leP a b = true := List.pairwise_mergeSort leP_trans leP_total ps
end DL
namespace DL
open PySem hiding Env
open PySem.Spec PyProof.Rows L2
def b1_cut_runs : Env → Os := (sIf (bAnd (bTru (dVar 2)) (b2 leD (d2 subD (d2 ixD (dVar 3) (dC (.int 0))) (d2 ixD (d2 ixD (d2 ixD (dVar 2) (d1 negD (dC (.int 1)))) (d1 negD (dC (.int 1)))) (dC (.int 0)))) (dVar 1))) (sAppAt 2 (d1 negD (dC (.int 1))) (dFz (dVar 3))) (sApp 2 (dLst (aCons (dFz (dVar 3)) aNil))))
def g_cut_runs : Env → Os := (sSeq (sSet 2 (dLst aNil))
    (sSeq (sFor (iSeq (dCall F_ordered (aCons (dVar 0) aNil))) (tgN 3) b1_cut_runs)
    (sRetV 2)))
def F_cut_runs : List D → Ou D := runF 4 g_cut_runs
theorem comp_mapE {α : Type} {j : Nat} {te : Env → Ou D} {ρ : Env} (hj : j < ρ.length) (enc h : α → D) : ∀ (xs : List α) (acc : List D), (∀ x ∈ xs, te (ρ.set j (some (enc x))) = .ok (h x)) → acc.length + xs.length ≤ 1000000 → compG j bYes te ρ (xs.map enc) acc = some (acc ++ xs.map h)
  | [], acc, _, _ => by simp [compG]
  | d :: ds, acc, k, l => by
    have e : te (ρ.set j (some (enc d))) = .ok (h d) := k d (List.mem_cons_self ..)
    have l' : acc.length + ds.length + 1 ≤ 1000000 := by simp only [List.length_cons] at l; omega
    rw [List.map_cons]
    unfold compG
    simp only [if_pos hj, x_bYes, e, if_pos (lt_lim' (show acc.length < 1000000 by omega))]
    rw [comp_mapE hj enc h ds (acc ++ [h d]) (fun x m => k x (List.mem_cons_of_mem _ m)) (by simp only [List.length_append, List.length_singleton]; omega)]
    simp
theorem comp_filterE {α : Type} {j : Nat} {tt : Env → Ou Bool} {te : Env → Ou D} {ρ : Env} (hj : j < ρ.length) (enc : α → D) (p : α → Bool) (h : α → D) : ∀ (xs : List α) (acc : List D), (∀ d ∈ xs, tt (ρ.set j (some (enc d))) = .ok (p d)) → (∀ d ∈ xs, p d = true → te (ρ.set j (some (enc d))) = .ok (h d)) → acc.length + xs.length ≤ 1000000 →
    compG j tt te ρ (xs.map enc) acc = some (acc ++ (xs.filter p).map h)
  | [], acc, _, _, _ => by simp [compG]
  | d :: ds, acc, kp, k, l => by
    have e1 := kp d (List.mem_cons_self ..)
    have l' : acc.length + ds.length + 1 ≤ 1000000 := by simp only [List.length_cons] at l; omega
    rw [List.map_cons]
    unfold compG
    cases c : p d with
    | true =>
      have e := k d (List.mem_cons_self ..) c
      simp only [if_pos hj, e1, c, e, if_pos (lt_lim' (show acc.length < 1000000 by omega))]
      rw [comp_filterE hj enc p h ds (acc ++ [h d]) (fun x m => kp x (List.mem_cons_of_mem _ m)) (fun x m => k x (List.mem_cons_of_mem _ m)) (by simp only [List.length_append, List.length_singleton]; omega)]
      simp [c]
    | false =>
      simp only [if_pos hj, e1, c]
      rw [comp_filterE hj enc p h ds acc (fun x m => kp x (List.mem_cons_of_mem _ m)) (fun x m => k x (List.mem_cons_of_mem _ m)) (by omega)]
      simp [c]
@[simp] theorem tru_lst (o : Bool) (xs : List D) : tru (.lst o xs) = some (!xs.isEmpty) := by cases xs <;> rfl
def RD (o : Bool) (R : List (List (Int × Int))) : List D := R.map fun r => .lst o (E2 r)
@[simp] theorem RD_len (o : Bool) (R : List (List (Int × Int))) : (RD o R).length = R.length := by simp [RD]
@[simp] theorem RD_frzs (o : Bool) : ∀ R : List (List (Int × Int)), D.frzs (RD o R) = RD false R
  | [] => rfl
  | r :: R => by
    show (D.lst o (E2 r)).frz :: D.frzs (RD o R) = _
    rw [RD_frzs o R]
    cases o
    · rfl
    · rw [fz_lstT, Ds_frzs]; rfl
@[simp] theorem RD_clns : ∀ R : List (List (Int × Int)), D.clns (RD true R) = true
  | [] => rfl
  | r :: R => by
    show ((D.lst true (E2 r)).cln && D.clns (RD true R)) = true
    rw [RD_clns R, cln_lstT, Ds_clns] <;> rfl
def cutFrom (g : Int) : List (Int × Int) → (Int × Int) → List (Int × Int) → List (List (Int × Int))
  | cur, q, [] => [cur ++ [q]]
  | cur, q, p :: ps => if p.1 - q.1 ≤ g then cutFrom g (cur ++ [q]) p ps else (cur ++ [q]) :: cutFrom g [] p ps
def cutR (g : Int) : List (Int × Int) → List (List (Int × Int))
  | [] => []
  | p :: ps => cutFrom g [] p ps
abbrev Ev := Int × Int
def Wi (g : Int) (r : List Ev) : Prop := ∀ j (h : j + 1 < r.length), (r[j + 1]).1 - (r[j]).1 ≤ g
def hd0 (r : List Ev) : Ev := r.headD (0, 0)
def ls0 (r : List Ev) : Ev := r.getLastD (0, 0)
def GoodR (g : Int) : List (List Ev) → Prop
  | [] => True
  | [r] => r ≠ [] ∧ Wi g r
  | r :: r2 :: R => r ≠ [] ∧ Wi g r ∧ g < (hd0 r2).1 - (ls0 r).1 ∧ GoodR g (r2 :: R)
theorem Wi.snoc {g : Int} {r : List Ev} {q p : Ev} (h : Wi g (r ++ [q])) (c : p.1 - q.1 ≤ g) : Wi g (r ++ [q] ++ [p]) := by
  intro j hj
  simp only [List.length_append, List.length_singleton] at hj
  by_cases e : j + 1 < (r ++ [q]).length
  · rw [List.getElem_append_left e, List.getElem_append_left (show j < (r ++ [q]).length by omega)]
    exact h j e
  · simp only [List.length_append, List.length_singleton] at e
    have e2 : j = r.length := by omega
    subst e2
    simpa using c
theorem GoodR.tail {g : Int} {r : List Ev} {R : List (List Ev)} (h : GoodR g (r :: R)) : GoodR g R := by
  cases R with
  | nil => exact trivial
  | cons r2 R => exact h.2.2.2
theorem GoodR.at {g : Int} : ∀ {R : List (List Ev)}, GoodR g R → ∀ k (h : k < R.length), R[k] ≠ [] ∧ Wi g R[k]
  | r :: R, h, 0, _ => by
    cases R with
    | nil => exact h
    | cons r2 R => exact ⟨h.1, h.2.1⟩
  | r :: R, h, k + 1, hk => GoodR.at h.tail k (by simpa using hk)
theorem GoodR.step {g : Int} : ∀ {R : List (List Ev)}, GoodR g R → ∀ k (h : k + 1 < R.length), g < (hd0 R[k + 1]).1 - (ls0 R[k]).1
  | [r], _, k, hk => by simp at hk
  | r :: r2 :: R, h, 0, _ => h.2.2.1
  | r :: r2 :: R, h, k + 1, hk => GoodR.step h.2.2.2 k (by simpa using hk)
theorem GoodR.len {g : Int} : ∀ {R : List (List Ev)}, GoodR g R → R.length ≤ R.flatten.length
  | [], _ => Nat.le_refl _
  | r :: R, h => by
    have h1 := (GoodR.at h 0 (by simp)).1
    have h2 := GoodR.len h.tail
    have : 0 < r.length := List.length_pos_iff.mpr h1
    simp only [List.length_cons, List.flatten_cons, List.length_append]
    omega
end DL
namespace DL
open PySem hiding Env
open PySem.Spec PyProof.Rows L2
def b1__law_runs : Env → Os := (sIf (bAnd (b2 gtD (dN lenN (aCons (dVar 2) aNil)) (dC (.int 0))) (b2 leD (d2 subD (d2 ixD (dVar 3) (dC (.int 0))) (d2 ixD (d2 ixD (d2 ixD (dVar 2) (d1 negD (dC (.int 1)))) (d1 negD (dC (.int 1)))) (dC (.int 0)))) (dVar 1))) (sAppAt 2 (d1 negD (dC (.int 1))) (dFz (dVar 3))) (sApp 2 (dLst (aCons (dFz (dVar 3)) aNil))))
def g__law_runs : Env → Os := (sSeq (sSet 2 (dLst aNil))
    (sSeq (sFor (iSeq (dN sortN (aCons (dVar 0) aNil))) (tgN 3) b1__law_runs)
    (sRetV 2)))
def F__law_runs : List D → Ou D := runF 4 g__law_runs
def e1_plain_sessions : Env → Ou D := (dFz (d2 ixD (dVar 5) (dC (.int 1))))
def b1_plain_sessions : Env → Os := (sSeq (sSet 4 (dN tupleN (aCons (dLc (iSeqB (dVar 3)) 5 [5] bYes e1_plain_sessions) aNil)))
    (sApp 2 (dTup (aCons (dFz (d2 ixD (d2 ixD (dVar 3) (dC (.int 0))) (dC (.int 0)))) (aCons (dFz (d2 ixD (d2 ixD (dVar 3) (d1 negD (dC (.int 1)))) (dC (.int 0)))) (aCons (dFz (dVar 4)) aNil))))))
def g_plain_sessions : Env → Os := (sSeq (sSet 2 (dLst aNil))
    (sSeq (sFor (iSeq (dCall F_cut_runs (aCons (dVar 0) (aCons (dVar 1) aNil)))) (tgN 3) b1_plain_sessions)
    (sRetV 2)))
def F_plain_sessions : List D → Ou D := runF 6 g_plain_sessions
def e1__law_is_word : Env → Ou D := (dCall F__law_is_integer (aCons (dVar 1) aNil))
def g__law_is_word : Env → Os := (sRet (dAnd (dIsi .tuple (dVar 0)) (dN allN (aCons (dLc (iSeqB (dVar 0)) 1 [1] bYes e1__law_is_word) aNil))))
def F__law_is_word : List D → Ou D := runF 2 g__law_is_word
def g__law_is_told : Env → Os := (sRet (dAnd (dIsi .tuple (dVar 0)) (dAnd (dBl (b2 eqD (dN lenN (aCons (dVar 0) aNil)) (dC (.int 3)))) (dAnd (dCall F__law_is_integer (aCons (d2 ixD (dVar 0) (dC (.int 0))) aNil)) (dAnd (dCall F__law_is_integer (aCons (d2 ixD (dVar 0) (dC (.int 1))) aNil)) (dCall F__law_is_word (aCons (d2 ixD (dVar 0) (dC (.int 2))) aNil)))))))
def F__law_is_told : List D → Ou D := runF 1 g__law_is_told
structure Told where
  a : Int
  b : Int
  w : List Int
deriving DecidableEq
instance : Dm Told where
  d t := .tup [.int t.a, .int t.b, .tup (Ds t.w)]
  dep := 2
  fz t := by simp
  cln t := by
    show (true && (true && (D.clns (Ds t.w) && true))) = true
    simp
  okd t := by
    show (true && (true && (D.okds (Ds t.w) 0 && true))) = true
    rw [Ds_okds t.w (Nat.le_refl 0)]
    rfl
  eqv s t := by
    obtain ⟨a, b, w⟩ := s
    obtain ⟨a', b', w'⟩ := t
    simp only [D.py, D.pys, PyData.eqv, PyData.eqvAll, Bool.and_eq_true, Ds_eqv, Told.mk.injEq, and_true, beq_iff_eq]
def toldR (r : List Ev) : Told := ⟨(hd0 r).1, (ls0 r).1, r.map (·.2)⟩
def sess (g : Int) (ps : List Ev) : List Told := (cutR g (srt ps)).map toldR
end DL
namespace DL
open PySem hiding Env
open PySem.Spec PyProof.Rows L2
theorem strOk_lit (s : String) : PyData.strOk (Str.ofString s) = true := by
  rw [Str.ofString_eq_toList]
  unfold PyData.strOk
  rw [← Array.all_toList, List.toList_toArray, List.all_eq_true]
  intro c hc
  obtain ⟨k, _, rfl⟩ := List.mem_map.mp hc
  have := k.valid
  refine decide_eq_true ?_
  have h2 : k.val.toNat < 1114112 := by
    rcases this with h | h
    · exact Nat.lt_trans h (by decide)
    · exact h.2
  exact h2
theorem ofString_inj {a b : String} : (Str.ofString a = Str.ofString b) ↔ a = b := by
  constructor
  · intro h
    rw [Str.ofString_eq_toList, Str.ofString_eq_toList] at h
    have h1 : (a.toList.map Char.toNat).toArray = (b.toList.map Char.toNat).toArray := congrArg Str.cps h
    have h2 : a.toList.map Char.toNat = b.toList.map Char.toNat := by
      have := congrArg Array.toList h1
      simpa using this
    have h3 : a.toList = b.toList := by
      have inj : ∀ (l m : List Char), l.map Char.toNat = m.map Char.toNat → l = m := by
        intro l
        induction l with
        | nil => intro m h; cases m with
          | nil => rfl
          | cons _ _ => cases h
        | cons x l ih => intro m h; cases m with
          | nil => cases h
          | cons y m =>
            have h' := List.cons.inj h
            have e1 : x = y := by
              have : x.val.toNat = y.val.toNat := h'.1
              exact Char.ext (UInt32.toNat_inj.mp this)
            rw [e1, ih m h'.2]
      exact inj _ _ h2
    exact String.toList_inj.mp h3
  · intro h; rw [h]
theorem eqD_S {a b : Str} (ha : PyData.strOk a = true) (hb : PyData.strOk b = true) : eqD (.str a) (.str b) = some (decide (a = b)) := by
  refine eqD_of (by simp [D.okd, ha]) (by simp [D.okd, hb]) ?_
  simp [D.py, PyData.eqv]
  by_cases h : a = b <;> simp [h]
theorem neD_S {a b : Str} (ha : PyData.strOk a = true) (hb : PyData.strOk b = true) : neD (.str a) (.str b) = some (!decide (a = b)) := by
  refine neD_of (by simp [D.okd, ha]) (by simp [D.okd, hb]) ?_
  simp [D.py, PyData.eqv]
  by_cases h : a = b <;> simp [h]
@[simp] theorem eqD_L (a b : String) : eqD (.str (Str.ofString a)) (.str (Str.ofString b)) = some (decide (a = b)) := by
  rw [eqD_S (strOk_lit a) (strOk_lit b)]
  simp [ofString_inj]
@[simp] theorem neD_L (a b : String) : neD (.str (Str.ofString a)) (.str (Str.ofString b)) = some (!decide (a = b)) := by
  rw [neD_S (strOk_lit a) (strOk_lit b)]
  simp [ofString_inj]
section
variable (ρ : Env) (f g : Env → Ou D) (fs : Env → Ou (List D)) (i : Nat)
@[simp] theorem x_dNew (c : Str) : dNew c ρ = .ok (.ins c [] []) := (rfl)
@[simp] theorem x_dCon (x : Str) (t : KTab) : dCon x t f ρ = (f ρ >>= fun d => ofO (conD x t d)) := (rfl)
@[simp] theorem x_dMeth (m : Str) (tb : Str → Option (List D → Ou D)) : dMeth m tb f fs ρ = (f ρ >>= fun d => methF m tb d >>= fun F => fs ρ >>= F) := (rfl)
@[simp] theorem x_sRaise (c : Str) (ns : List Str) : sRaise c ns fs ρ = ofU (fs ρ) ρ fun ds => if D.fzs ds && decide (ds.length = ns.length) && decide (ns.length ≤ 900) then .ex c ns.reverse ds.reverse ρ else .bad := (rfl)
@[simp] theorem x_sRaise0 (c : Str) : sRaise0 c ρ = .ex c [] [] ρ := (rfl)
end
def tryK (hit : Str → Option Bool) (su : Str → List Str → List D → Env → Os) (r : Os) : Os := match r with
  | .ex c ns xs ρ' => match hit c with
    | some true => su c ns xs ρ'
    | some false => .ex c ns xs ρ'
    | none => .bad
  | r => r
@[simp] theorem x_sTry (hit : Str → Option Bool) (b : Env → Os) (su : Str → List Str → List D → Env → Os) (ρ : Env) : sTry hit b su ρ = tryK hit su (b ρ) := (rfl)
@[simp] theorem tryK_nx (hit : Str → Option Bool) (su : Str → List Str → List D → Env → Os) (ρ : Env) : tryK hit su (.nx ρ) = .nx ρ := (rfl)
@[simp] theorem tryK_rt (hit : Str → Option Bool) (su : Str → List Str → List D → Env → Os) (d : D) : tryK hit su (.rt d) = .rt d := (rfl)
@[simp] theorem x_sAs (i : Nat) (su : List Str → List D → Env → Os) (c : Str) (ns : List Str) (xs : List D) (ρ : Env) : sAs i su c ns xs ρ = if i < ρ.length then undo i (su ns xs (ρ.set i none)) else .bad := (rfl)
@[simp] theorem undo_nx (i : Nat) (ρ : Env) : undo i (.nx ρ) = .nx (ρ.set i none) := (rfl)
@[simp] theorem undo_rt (i : Nat) (d : D) : undo i (.rt d) = .rt d := (rfl)
@[simp] theorem x_fldOf1 (n f : String) (x : D) (ρ : Env) : fldOf [Str.ofString n] [x] (Str.ofString f) ρ = if f = n then .ok x else .bad := by
  unfold fldOf
  rw [List.zip_cons_cons, List.lookup_cons]
  by_cases h : f = n
  · subst h
    simp
  · have : (Str.ofString f == Str.ofString n) = false := by simp [ofString_inj, h]
    simp [this, h]
@[simp] theorem fz_ins (c : Str) (ns : List Str) (xs : List D) : (D.ins c ns xs).frz = .ins c ns xs := (rfl)
@[simp] theorem fzz_ins (c : Str) (ns : List Str) (xs : List D) : (D.ins c ns xs).fz = true := (rfl)
@[simp] theorem cln_ins (c : Str) (ns : List Str) (xs : List D) : (D.ins c ns xs).cln = (!mutN ns && D.clns xs) := by rw [D.cln]
@[simp] theorem mutN_0 : mutN [] = false := (rfl)
@[simp] theorem mutN_line : mutN ["kind", "gap", "watermark", "sessions"] = false := by decide +kernel
@[simp] theorem mutN_table : mutN ["size", "_rows"] = false := by decide +kernel
@[simp] theorem x_imul {i j : Int} (h : B64 j) : imulD (.int i) (.int j) = some (.int (i * j)) := by
  have m : mulOk i j = true := decide_eq_true (.inr h)
  show (if mulOk i j then some (D.int (i * j)) else none) = _
  rw [if_pos m]
@[simp] theorem x_isN (d : D) : isND d .non = some (isN d) := (rfl)
@[simp] theorem x_notN (d : D) : notND d .non = some (!isN d) := (rfl)
@[simp] theorem isN_non : isN .non = true := (rfl)
@[simp] theorem isN_int (i : Int) : isN (.int i) = false := (rfl)
@[simp] theorem isN_tup (xs : List D) : isN (.tup xs) = false := (rfl)
@[simp] theorem isN_str (x : Str) : isN (.str x) = false := (rfl)
@[simp] theorem isN_lst (o : Bool) (xs : List D) : isN (.lst o xs) = false := (rfl)
@[simp] theorem seqOf_lst (o : Bool) (xs : List D) : seqOf (.lst o xs) = .ok (D.frzs xs) := (rfl)
@[simp] theorem seqOf_tup (xs : List D) : seqOf (.tup xs) = .ok (D.frzs xs) := (rfl)
end DL
namespace DL
open PySem hiding Env
open PySem.Spec PyProof.Rows L2
@[simp] theorem x_dSup (al : List Str) (F : List D → Ou D) (t : Env → Ou (List D)) (ρ : Env) : dSup al F t ρ = (supSelf al ρ >>= fun d => t ρ >>= fun ds => okOnly (callR F (d :: ds))) := (rfl)
@[simp] theorem x_okOnly (d : D) : okOnly (.ok d) = .ok d := (rfl)
end DL
namespace DL
open PySem hiding Env
open PySem.Spec PyProof.Rows L2
@[simp] theorem x_dCallD (F : List D → Ou D) (ds : List D) (fs : Env → Ou (List D)) (ρ : Env) : dCallD F ds fs ρ = (fs ρ >>= fun as => callR F (as ++ ds)) := (rfl)
@[simp] theorem x_mn (i j : Int) : mnN [.int i, .int j] = some (.int (min i j)) := by
  show some (D.int (if j < i then j else i)) = _
  congr 2
  omega
@[simp] theorem x_mx (i j : Int) : mxN [.int i, .int j] = some (.int (max i j)) := by
  show some (D.int (if j > i then j else i)) = _
  congr 2
  omega
end DL
namespace DL
open PySem hiding Env
open PySem.Spec PyProof.Rows L2
theorem lex_nil_lt (p : Int ⊕ List Nat) (l : List (Int ⊕ List Nat)) : PyProof.Rows.lexLt PyProof.Rows.itemOrd [] (p :: l) = true := rfl
theorem eqv_of_toks {x y : PyData} (h : PySem.W.alike x y = true) (e : PySem.W.keyToks x = PySem.W.keyToks y) : PyData.eqv x y = true := by
  cases c : PyData.eqv x y with
  | true => rfl
  | false =>
    have := (PySem.W.toks_eqv x y h).2 c [] [Sum.inl 0]
    rw [e, PySem.W.lex_pre, PyProof.Rows.lex_irrefl (O := PyProof.Rows.itemOrd), lex_nil_lt] at this
    cases this
class Sb (α : Type) [Dm α] : Prop where
  al : ∀ a b : α, PySem.W.alike (Dm.d a : D).py (Dm.d b : D).py = true
  tp : (∀ a : α, pyTup1 (Dm.d a : D).py = true) ∨ ∀ a : α, pyTupNone (Dm.d a : D).py = false
section
variable {α : Type} [Dm α] [Sb α]
def leM (a b : α) : Bool := leB (Dm.d a) (Dm.d b)
theorem leM_not (a b : α) : leM a b = !PySem.W.dataLt (Dm.d b : D).py (Dm.d a : D).py := rfl
theorem leM_total (a b : α) : (leM a b || leM b a) = true := by
  rw [leM_not, leM_not]
  cases h1 : PySem.W.dataLt (Dm.d b : D).py (Dm.d a : D).py with
  | false => rfl
  | true =>
    cases h2 : PySem.W.dataLt (Dm.d a : D).py (Dm.d b : D).py with
    | false => rfl
    | true =>
      have := PyProof.Rows.lex_trans (O := PyProof.Rows.itemOrd) _ _ _ h1 h2
      rw [PyProof.Rows.lex_irrefl] at this
      cases this
theorem leM_trans (a b c : α) (h1 : leM a b = true) (h2 : leM b c = true) : leM a c = true := by
  rw [leM_not] at *
  have h1' : PySem.W.dataLt (Dm.d b : D).py (Dm.d a : D).py = false := by simpa using h1
  have h2' : PySem.W.dataLt (Dm.d c : D).py (Dm.d b : D).py = false := by simpa using h2
  cases h3 : PySem.W.dataLt (Dm.d c : D).py (Dm.d a : D).py with
  | false => rfl
  | true =>
    rcases PyProof.Rows.lex_negTrans (O := PyProof.Rows.itemOrd) _ (PySem.W.keyToks (Dm.d b : D).py) _ h3 with z | z
    · exact absurd (h2'.symm.trans z) (by simp)
    · exact absurd (h1'.symm.trans z) (by simp)
theorem leM_anti (a b : α) (h1 : leM a b = true) (h2 : leM b a = true) : a = b := by
  rw [leM_not] at *
  have h1' : PySem.W.dataLt (Dm.d b : D).py (Dm.d a : D).py = false := by simpa using h1
  have h2' : PySem.W.dataLt (Dm.d a : D).py (Dm.d b : D).py = false := by simpa using h2
  exact (Dm.eqv a b).mp (eqv_of_toks (Sb.al a b) (PyProof.Rows.lex_total (O := PyProof.Rows.itemOrd) _ _ h2' h1'))
def srtD (xs : List α) : List α := xs.mergeSort leM
theorem srtD_perm (xs : List α) : (srtD xs).Perm xs := List.mergeSort_perm xs leM
theorem srtD_pw (xs : List α) : (srtD xs).Pairwise fun a b => leM a b = true := List.pairwise_mergeSort leM_trans leM_total xs
theorem srtD_eq {xs ys : List α} (h : xs.Perm ys) : srtD xs = srtD ys :=
  List.Perm.eq_of_pairwise (le := fun a b => leM a b = true) (fun a b _ _ h1 h2 => leM_anti a b h1 h2) (srtD_pw xs) (srtD_pw ys) ((srtD_perm xs).trans (h.trans (srtD_perm ys).symm))
theorem sortL_dm (xs : List α) : sortL (Ds xs) = Ds (srtD xs) := by
  unfold sortL Ds srtD
  exact (List.map_mergeSort (f := Dm.d) (r := leM) (s := leB) fun a _ b _ => rfl).symm
theorem sortOk_dm (hd : Dm.dep α ≤ 20) (xs : List α) : sortOk (Ds xs) = true := by
  unfold sortOk
  refine Bool.and_eq_true_iff.mpr ⟨Ds_okds xs hd, ?_⟩
  rw [pys_map]
  unfold sortOkP Ds
  refine Bool.and_eq_true_iff.mpr ⟨?_, ?_⟩
  · simp only [List.all_map, List.all_eq_true]
    intro x _
    refine List.all_eq_true.mpr fun y _ => ?_
    exact Sb.al x y
  · rw [Bool.or_eq_true_iff]
    rcases Sb.tp (α := α) with h | h
    · left
      simp only [List.all_map, List.all_eq_true]
      intro x _
      exact h x
    · right
      simp only [List.all_map, List.all_eq_true]
      intro x _
      show (!pyTupNone _) = true
      rw [h x]
      rfl
theorem sortN_dm (hd : Dm.dep α ≤ 20) (o : Bool) (xs : List α) (h : xs.length ≤ 1000000) : sortN [.lst o (Ds xs)] = some (.lst true (Ds (srtD xs))) := by
  show (if _ then _ else _) = _
  rw [if_pos, sortL_dm]
  rw [Ds_fzs, sortOk_dm hd, Ds_len, decide_eq_true (le_lim' h)] <;> rfl
end
structure Ks where
  s : Str
  ok : PyData.strOk s = true
instance : DecidableEq Ks := fun a b => decidable_of_iff (a.s = b.s) ⟨fun h => by cases a; cases b; cases h; rfl, fun h => by rw [h]⟩
structure Sn where
  k : Ks
  f : Int
  l : Int
  w : List Int
  deriving DecidableEq
theorem Ks.ext {a b : Ks} (h : a.s = b.s) : a = b := by cases a; cases b; cases h; rfl
instance : Dm Sn where
  d s := .tup [.str s.k.s, .int s.f, .int s.l, .tup (Ds s.w)]
  dep := 2
  fz s := by
    show (true && (true && (true && (D.fzs (Ds s.w) && true)))) = true
    rw [Ds_fzs]; rfl
  cln s := by
    show (true && (true && (true && (D.clns (Ds s.w) && true)))) = true
    rw [Ds_clns]; rfl
  okd s := by
    show (PyData.strOk s.k.s && (true && (true && (D.okds (Ds s.w) 0 && true)))) = true
    rw [Ds_okds s.w (Nat.le_refl 0), s.k.ok]; rfl
  eqv a b := by
    obtain ⟨k, f, l, w⟩ := a
    obtain ⟨k2, f2, l2, w2⟩ := b
    simp only [D.py, D.pys, PyData.eqv, PyData.eqvAll, Bool.and_eq_true, Ds_eqv, and_true, beq_iff_eq, Sn.mk.injEq]
    exact ⟨fun ⟨h1, h2⟩ => ⟨Ks.ext h1, h2⟩, fun ⟨h1, h2⟩ => ⟨by rw [h1], h2⟩⟩
theorem alike_Is : ∀ xs ys : List Int, PySem.W.alikeAll (D.pys (Ds xs)) (D.pys (Ds ys)) = true
  | [], [] => rfl
  | [], _ :: _ => rfl
  | _ :: _, [] => rfl
  | x :: xs, y :: ys => by
    rw [Ds_cons, Ds_cons]
    show (true && PySem.W.alikeAll (D.pys (Ds xs)) (D.pys (Ds ys))) = true
    rw [alike_Is xs ys]; rfl
instance : Sb Sn where
  al a b := by
    show (true && (true && (true && (PySem.W.alikeAll (D.pys (Ds a.w)) (D.pys (Ds b.w)) && true)))) = true
    rw [alike_Is]; rfl
  tp := .inl fun a => rfl
inductive Sg where
  | tell
  | retract
  | final
  deriving DecidableEq
def Sg.s : Sg → Str
  | .tell => "tell"
  | .retract => "retract"
  | .final => "final"
theorem Sg.ok (x : Sg) : PyData.strOk x.s = true := by cases x <;> decide +kernel
theorem Sg.inj {a b : Sg} (h : a.s = b.s) : a = b := by cases a <;> cases b <;> first | rfl | exact absurd h (by decide)
inductive Wd where
  | late (k : Ks) (t v : Int)
  | say (x : Sg) (s : Sn)
  deriving DecidableEq
def Wd.d : Wd → D
  | .late k t v => .tup [.str "late", .str k.s, .int t, .int v]
  | .say x s => .tup [.str x.s, .str s.k.s, .int s.f, .int s.l, .tup (Ds s.w)]
instance : Dm Wd where
  d := Wd.d
  dep := 2
  fz w := by
    cases w with
    | late k t v => rfl
    | say x s =>
      show (true && (true && (true && (true && (D.fzs (Ds s.w) && true))))) = true
      rw [Ds_fzs]; rfl
  cln w := by
    cases w with
    | late k t v => rfl
    | say x s =>
      show (true && (true && (true && (true && (D.clns (Ds s.w) && true))))) = true
      rw [Ds_clns]; rfl
  okd w := by
    cases w with
    | late k t v =>
      show (PyData.strOk (Str.ofString "late") && (PyData.strOk k.s && (true && (true && true)))) = true
      rw [k.ok]; decide +kernel
    | say x s =>
      show (PyData.strOk x.s && (PyData.strOk s.k.s && (true && (true && (D.okds (Ds s.w) 0 && true))))) = true
      rw [Ds_okds s.w (Nat.le_refl 0), s.k.ok, x.ok]; rfl
  eqv a b := by
    cases a with
    | late k t v =>
      cases b with
      | late k2 t2 v2 =>
        simp only [Wd.d, D.py, D.pys, PyData.eqv, PyData.eqvAll, Bool.and_eq_true, and_true, beq_iff_eq, Wd.late.injEq, true_and]
        exact ⟨fun ⟨h1, h2⟩ => ⟨Ks.ext h1, h2⟩, fun ⟨h1, h2⟩ => ⟨by rw [h1], h2⟩⟩
      | say x s => simp [Wd.d, D.py, D.pys, PyData.eqv, PyData.eqvAll]
    | say x s =>
      cases b with
      | late k2 t2 v2 => simp [Wd.d, D.py, D.pys, PyData.eqv, PyData.eqvAll]
      | say x2 s2 =>
        obtain ⟨k, f, l, w⟩ := s
        obtain ⟨k2, f2, l2, w2⟩ := s2
        simp only [Wd.d, D.py, D.pys, PyData.eqv, PyData.eqvAll, Bool.and_eq_true, Ds_eqv, and_true, beq_iff_eq, Wd.say.injEq, Sn.mk.injEq]
        exact ⟨fun ⟨h0, h1, h2⟩ => ⟨Sg.inj h0, Ks.ext h1, h2⟩, fun ⟨h0, h1, h2⟩ => ⟨by rw [h0], by rw [h1], h2⟩⟩
theorem d_sn (s : Sn) : (Dm.d s : D) = .tup [.str s.k.s, .int s.f, .int s.l, .tup (Ds s.w)] := rfl
theorem d_say (x : Sg) (s : Sn) : (Dm.d (Wd.say x s) : D) = .tup [.str x.s, .str s.k.s, .int s.f, .int s.l, .tup (Ds s.w)] := rfl
@[simp] theorem frz_own (oa : Option Addr) (c : Str) (ns : List Str) (xs : List D) : (D.own oa c ns xs).frz = .ins c ns (D.frzs xs) := by rw [D.frz]
@[simp] theorem frz_lsa (a : Addr) (xs : List D) : (D.lsa a xs).frz = .lst false (D.frzs xs) := by rw [D.frz]
@[simp] theorem cln_own (oa : Option Addr) (c : Str) (ns : List Str) (xs : List D) : (D.own oa c ns xs).cln = D.clns xs := by rw [D.cln]
@[simp] theorem x_sRetM (ρ : Env) (b : List Bool) (f : Env → Ou D) : sRetM b f ρ = ofU (f ρ) ρ fun d => match outsE b ρ with
  | some os => .rt (.wth d os)
  | none => .bad := (rfl)
@[simp] theorem x_sDropM (ρ : Env) (f : Env → OuM) : sDropM f ρ = match f ρ with
  | .ok _ ρ' => .nx ρ'
  | .ex c ns xs ρ' => .ex c ns xs ρ'
  | .bad => .bad := (rfl)
@[simp] theorem x_sSetM (ρ : Env) (i : Nat) (f : Env → OuM) : sSetM i f ρ = match f ρ with
  | .ok d ρ' => if i < ρ'.length then .nx (ρ'.set i (some d)) else .bad
  | .ex c ns xs ρ' => .ex c ns xs ρ'
  | .bad => .bad := (rfl)
@[simp] theorem x_dPairM (ρ : Env) (x : Str) (f : Env → OuM) : dPairM x f ρ = match f ρ with
  | .ok d ρ' => .ok (.lst true [.str x, d]) ρ'
  | .ex c ns xs ρ' => .ex c ns xs ρ'
  | .bad => .bad := (rfl)
@[simp] theorem x_dSnap' (f : Env → Ou D) (ρ : Env) : dSnap f ρ = match f (frzE ρ) with
  | .ok d => if d.cln then .ok d else .bad
  | .ex c ns xs => if D.clns xs then .ex c ns xs else .bad
  | .bad => .bad := (rfl)
@[simp] theorem x_bSnap (f : Env → Ou Bool) (ρ : Env) : bSnap f ρ = match f (frzE ρ) with
  | .ok d => .ok d
  | .ex c ns xs => if D.clns xs then .ex c ns xs else .bad
  | .bad => .bad := (rfl)
@[simp] theorem x_sFldO (ρ : Env) (c f : Str) (i : Nat) (g : Env → Ou D) : sFldO c f i g ρ = ofU (g ρ) ρ fun d => putO c f i ρ d := (rfl)
@[simp] theorem x_sFldV (ρ : Env) (c f : Str) (i j : Nat) : sFldV c f i j ρ = match ρ[j]? with
  | some (some d) => putO c f i (ρ.set j none) d
  | _ => .bad := (rfl)
end DL
namespace DL
open PySem hiding Env
open PySem.Spec PyProof.Rows L2
def Ch (g : Int) : List Ev → Prop
  | [] => True
  | [_] => True
  | a :: b :: l => b.1 - a.1 ≤ g ∧ Ch g (b :: l)
theorem Ch.tail {g : Int} {a : Ev} {l : List Ev} (h : Ch g (a :: l)) : Ch g l := by
  cases l with
  | nil => trivial
  | cons b l => exact h.2
theorem Wi_of_Ch {g : Int} : ∀ {r : List Ev}, Ch g r → Wi g r
  | [], _, j, hj => by simp at hj
  | [_], _, j, hj => by simp at hj
  | a :: b :: l, h, 0, hj => h.1
  | a :: b :: l, h, j + 1, hj => Wi_of_Ch h.2 j (by simp at hj ⊢; omega)
theorem ls0_app {l m : List Ev} (h : m ≠ []) : ls0 (l ++ m) = ls0 m := by
  unfold ls0
  rw [List.getLastD_eq_getLast?, List.getLastD_eq_getLast?, List.getLast?_append, List.getLast?_eq_some_getLast h]
  rfl
theorem ls0_cons {a : Ev} {m : List Ev} (h : m ≠ []) : ls0 (a :: m) = ls0 m := ls0_app (l := [a]) h
abbrev Asc (l : List Ev) : Prop := l.Pairwise fun a b => leP a b = true
theorem leP_le {a b : Ev} (h : leP a b = true) : a.1 ≤ b.1 := by
  unfold leP at h
  simp only [decide_eq_true_eq] at h
  omega
theorem Asc.hd {l : List Ev} (h : Asc l) {x : Ev} (hx : x ∈ l) : (hd0 l).1 ≤ x.1 := by
  cases l with
  | nil => cases hx
  | cons a l =>
    rcases List.mem_cons.mp hx with rfl | hx
    · exact Int.le_refl _
    · exact leP_le ((List.pairwise_cons.mp h).1 x hx)
theorem Asc.ls : ∀ {l : List Ev}, Asc l → ∀ {x : Ev}, x ∈ l → x.1 ≤ (ls0 l).1
  | [a], _, x, hx => by
    rw [List.mem_singleton.mp hx]
    exact Int.le_refl _
  | a :: b :: l, h, x, hx => by
    rw [ls0_cons (by simp)]
    rcases List.mem_cons.mp hx with rfl | hx
    · have h1 := leP_le ((List.pairwise_cons.mp h).1 b (List.mem_cons_self ..))
      have h2 := Asc.ls (List.pairwise_cons.mp h).2 (List.mem_cons_self (a := b) (l := l))
      omega
    · exact Asc.ls (List.pairwise_cons.mp h).2 hx
theorem Asc.app {l m : List Ev} : Asc (l ++ m) ↔ Asc l ∧ Asc m ∧ ∀ a ∈ l, ∀ b ∈ m, leP a b = true := List.pairwise_append
theorem GoodR.ne {g : Int} {R : List (List Ev)} (h : GoodR g R) {r : List Ev} (hr : r ∈ R) : r ≠ [] := by
  obtain ⟨k, hk, e⟩ := List.getElem_of_mem hr
  exact e ▸ (h.at k hk).1
theorem GoodR.one {g : Int} {r : List Ev} (h : r ≠ []) (c : Ch g r) : GoodR g [r] := ⟨h, Wi_of_Ch c⟩
end DL
namespace DL
open PySem hiding Env
open PySem.Spec PyProof.Rows L2
section
variable {α : Type} (v : α → Int)
def hStep (acc : List α) (e : α) : List α := if v e ∈ acc.map v then acc else acc ++ [e]
def heads (xs : List α) : List α := xs.foldl (hStep v) []
def tStep (acc : List α) (e : α) : List α := acc.filter (fun o => decide (v o ≠ v e)) ++ [e]
def tails (xs : List α) : List α := xs.foldl (tStep v) []
end
instance : Dm (Option Int) where
  d o := match o with
    | none => .non
    | some i => .int i
  dep := 0
  fz o := by cases o <;> rfl
  cln o := by cases o <;> rfl
  okd o := by cases o <;> rfl
  eqv a b := by
    cases a with
    | none =>
      cases b with
      | none => exact Iff.intro (fun _ => rfl) (fun _ => rfl)
      | some j => exact Iff.intro (fun h => Bool.noConfusion h) (fun h => nomatch h)
    | some i =>
      cases b with
      | none => exact Iff.intro (fun h => Bool.noConfusion h) (fun h => nomatch h)
      | some j =>
        show (i == j) = true ↔ _
        simp
abbrev En := Option Int × Int
end DL
namespace DL
open PySem hiding Env
open PySem.Spec PyProof.Rows L2
def b1__law_entries : Env → Os := (sSeq (sSet 5 (dC .non))
    (sSeq (sIf (b2 gtD (d2 modD (dN intN (aCons (d2 ixD (dVar 0) (d2 mulD (dC (.int 3)) (dVar 4))) aNil)) (dC (.int 3))) (dC (.int 0))) (sSet 5 (d2 subD (d2 ixD (dVar 0) (d2 addD (d2 mulD (dC (.int 3)) (dVar 4)) (dC (.int 1)))) (dC (.int 500)))) sNil)
    (sApp 3 (dTup (aCons (dFz (dVar 5)) (aCons (dCall F__law_value (aCons (d2 ixD (dVar 0) (d2 addD (d2 mulD (dC (.int 3)) (dVar 4)) (dC (.int 2)))) (aCons (d2 ixD (dVar 0) (d2 addD (d2 mulD (dC (.int 3)) (dVar 4)) (dC (.int 1)))) (aCons (dVar 2) aNil)))) aNil))))))
def g__law_entries : Env → Os := (sSeq (sSet 3 (dLst aNil))
    (sSeq (sFor (DL.iRng1 (aCons (dVar 1) aNil)) (tgN 4) b1__law_entries)
    (sRetV 3)))
def F__law_entries : List D → Ou D := runF 6 g__law_entries
def g_Kind_keep : Env → Os := (sRet (dN listN (aCons (dVar 1) aNil)))
def F_Kind_keep : List D → Ou D := runF 2 g_Kind_keep
def g_BagKind_keep : Env → Os := (sRet (d1 (sortKeyD 1) (dSup ["BagKind", "SetKind"] F_Kind_keep (aCons (dVar 1) aNil))))
def F_BagKind_keep : List D → Ou D := runF 2 g_BagKind_keep
def b1_SetKind_keep : Env → Os := (sIf (bOr (bNot (bTru (dVar 2))) (b2 neD (d2 ixD (d2 ixD (dVar 2) (d1 negD (dC (.int 1)))) (dC (.int 1))) (d2 ixD (dVar 3) (dC (.int 1))))) (sApp 2 (dFz (dVar 3))) sNil)
def g_SetKind_keep : Env → Os := (sSeq (sSet 2 (dLst aNil))
    (sSeq (sFor (iSeq (dSup ["SetKind"] F_BagKind_keep (aCons (dVar 1) aNil))) (tgN 3) b1_SetKind_keep)
    (sRetV 2)))
def F_SetKind_keep : List D → Ou D := runF 4 g_SetKind_keep
def e1_HeadsKind_keep : Env → Ou D := (dFz (d2 ixD (dVar 4) (dC (.int 1))))
def b1_HeadsKind_keep : Env → Os := (sIf (b2 notInD (d2 ixD (dVar 3) (dC (.int 1))) (dLc (iSeqB (dVar 2)) 4 [4] bYes e1_HeadsKind_keep)) (sApp 2 (dFz (dVar 3))) sNil)
def g_HeadsKind_keep : Env → Os := (sSeq (sSet 2 (dLst aNil))
    (sSeq (sFor (iSeq (dSup ["HeadsKind", "FirstKind"] F_Kind_keep (aCons (dVar 1) aNil))) (tgN 3) b1_HeadsKind_keep)
    (sRetV 2)))
def F_HeadsKind_keep : List D → Ou D := runF 5 g_HeadsKind_keep
def g_FirstKind_keep : Env → Os := (sRet (dSl (dSup ["FirstKind"] F_HeadsKind_keep (aCons (dVar 1) aNil)) pNone (pSome (dC (.int 1)))))
def F_FirstKind_keep : List D → Ou D := runF 2 g_FirstKind_keep
def e1_TailsKind_keep : Env → Ou D := (dFz (dVar 4))
def b1_TailsKind_keep : Env → Os := (sSeq (sSet 2 (dLc (iSeqB (dVar 2)) 4 [4] (b2 neD (d2 ixD (dVar 4) (dC (.int 1))) (d2 ixD (dVar 3) (dC (.int 1)))) e1_TailsKind_keep))
    (sApp 2 (dFz (dVar 3))))
def g_TailsKind_keep : Env → Os := (sSeq (sSet 2 (dLst aNil))
    (sSeq (sFor (iSeq (dSup ["TailsKind", "LastKind"] F_Kind_keep (aCons (dVar 1) aNil))) (tgN 3) b1_TailsKind_keep)
    (sRetV 2)))
def F_TailsKind_keep : List D → Ou D := runF 5 g_TailsKind_keep
def g_LastKind_keep : Env → Os := (sRet (dSl (dSup ["LastKind"] F_TailsKind_keep (aCons (dVar 1) aNil)) (pSome (d1 negD (dC (.int 1)))) pNone))
def F_LastKind_keep : List D → Ou D := runF 2 g_LastKind_keep
def g_EndsKind_keep : Env → Os := (sSeq (sSet 2 (dSup ["EndsKind"] F_Kind_keep (aCons (dVar 1) aNil)))
    (sRet (dLst (aCons (dFz (d2 ixD (dVar 2) (dC (.int 0)))) (aCons (dFz (d2 ixD (dVar 2) (d1 negD (dC (.int 1))))) aNil)))))
def F_EndsKind_keep : List D → Ou D := runF 3 g_EndsKind_keep
def e1__law_keep : Env → Ou D := (dTup (aCons (dFz (d2 ixD (d2 ixD (dVar 1) (dVar 8)) (dC (.int 1)))) (aCons (dFz (dVar 8)) aNil)))
def b1__law_keep : Env → Os := (sIf (bOr (b2 eqD (dVar 0) (dC (.str ("bag" : Str)))) (bOr (b2 eqD (dN lenN (aCons (dVar 2) aNil)) (dC (.int 0))) (b2 neD (d2 ixD (d2 ixD (dVar 2) (d1 negD (dC (.int 1)))) (dC (.int 1))) (d2 ixD (dVar 4) (dC (.int 0)))))) (sApp 2 (dFz (d2 ixD (dVar 1) (d2 ixD (dVar 4) (dC (.int 1)))))) sNil)
def b2__law_keep : Env → Os := (sIf (b2 notInD (d2 ixD (dVar 7) (dC (.int 1))) (dVar 6)) (sSeq (sApp 6 (dFz (d2 ixD (dVar 7) (dC (.int 1)))))
    (sApp 2 (dFz (dVar 7)))) sNil)
def g__law_keep : Env → Os := (sSeq (sIf (b2 eqD (dVar 0) (dC (.str ("list" : Str)))) (sRet (dN listN (aCons (dVar 1) aNil))) sNil)
    (sSeq (sIf (b2 eqD (dVar 0) (dC (.str ("first" : Str)))) (sRet (dSl (dVar 1) pNone (pSome (dC (.int 1))))) sNil)
    (sSeq (sIf (b2 eqD (dVar 0) (dC (.str ("last" : Str)))) (sRet (dSl (dVar 1) (pSome (d1 negD (dC (.int 1)))) pNone)) sNil)
    (sSeq (sIf (b2 eqD (dVar 0) (dC (.str ("ends" : Str)))) (sRet (dLst (aCons (dFz (d2 ixD (dVar 1) (dC (.int 0)))) (aCons (dFz (d2 ixD (dVar 1) (d1 negD (dC (.int 1))))) aNil)))) sNil)
    (sSeq (sSet 2 (dLst aNil))
    (sSeq (sIf (bOr (b2 eqD (dVar 0) (dC (.str ("bag" : Str)))) (b2 eqD (dVar 0) (dC (.str ("set" : Str))))) (sSeq (sSet 3 (dN sortN (aCons (dLc (DL.iRng1 (aCons (dN lenN (aCons (dVar 1) aNil)) aNil)) 8 [8] bYes e1__law_keep) aNil)))
    (sFrz 3 (sSeq (sFor (iSeq (dFz (dVar 3))) (tgN 4) b1__law_keep)
    (sRetV 2)))) sNil)
    (sSeq (sSet 5 (dN listN (aCons (dVar 1) aNil)))
    (sSeq (sIf (b2 eqD (dVar 0) (dC (.str ("tails" : Str)))) (sSet 5 (d1 revD (dVar 5))) sNil)
    (sSeq (sSet 6 (dLst aNil))
    (sFrz 5 (sSeq (sFor (iSeq (dFz (dVar 5))) (tgN 7) b2__law_keep)
    (sSeq (sIf (b2 eqD (dVar 0) (dC (.str ("tails" : Str)))) (sRet (d1 revD (dVar 2))) sNil)
    (sRetV 2)))))))))))))
def F__law_keep : List D → Ou D := runF 9 g__law_keep
def g__law_is_entry : Env → Os := (sSeq (sIf (bOr (bNot (bTru (dIsi .tuple (dVar 0)))) (b2 neD (dN lenN (aCons (dVar 0) aNil)) (dC (.int 2)))) (sRet (dC (.bl false))) sNil)
    (sRet (dAnd (dOr (dBl (b2 isND (d2 ixD (dVar 0) (dC (.int 0))) (dC .non))) (dCall F__law_is_integer (aCons (d2 ixD (dVar 0) (dC (.int 0))) aNil))) (dCall F__law_is_integer (aCons (d2 ixD (dVar 0) (dC (.int 1))) aNil)))))
def F__law_is_entry : List D → Ou D := runF 1 g__law_is_entry
def mt_keep : MTab := [("Kind", F_Kind_keep), ("BagKind", F_BagKind_keep), ("SetKind", F_SetKind_keep), ("HeadsKind", F_HeadsKind_keep), ("FirstKind", F_FirstKind_keep), ("TailsKind", F_TailsKind_keep), ("LastKind", F_LastKind_keep), ("EndsKind", F_EndsKind_keep)]
section
variable {A : Type} [Dm A]
def vle (a b : A × Int) : Bool := decide (a.2 ≤ b.2)
def bagL (es : List (A × Int)) : List (A × Int) := es.mergeSort vle
def setStep (acc : List (A × Int)) (e : A × Int) : List (A × Int) := match acc.getLast? with
  | none => acc ++ [e]
  | some l => if l.2 ≠ e.2 then acc ++ [e] else acc
def setL (es : List (A × Int)) : List (A × Int) := (bagL es).foldl setStep []
def lastL (es : List (A × Int)) : List (A × Int) := es.drop (es.length - 1)
def endsL (es : List (A × Int)) : List (A × Int) := es.take 1 ++ es.drop (es.length - 1)
def keepK (s : String) (es : List (A × Int)) : List (A × Int) :=
  if s = "list" then es else if s = "bag" then bagL es else if s = "set" then setL es else if s = "first" then es.take 1 else if s = "last" then lastL es else if s = "ends" then endsL es else if s = "heads" then heads (·.2) es else tails (·.2) es
end
def KN : List (String × String × Bool) := [("list", "Kind", true), ("bag", "BagKind", false), ("set", "SetKind", false), ("first", "FirstKind", false), ("last", "LastKind", false), ("ends", "EndsKind", false), ("heads", "HeadsKind", true), ("tails", "TailsKind", true)]
end DL
namespace DL
open PySem hiding Env
open PySem.Spec PyProof.Rows L2
def g__law_name : Env → Os := (sRet (dFz (d2 ixD (dLst (aCons (dC (.str ("list" : Str))) (aCons (dC (.str ("bag" : Str))) (aCons (dC (.str ("set" : Str))) (aCons (dC (.str ("first" : Str))) (aCons (dC (.str ("last" : Str))) (aCons (dC (.str ("ends" : Str))) (aCons (dC (.str ("heads" : Str))) (aCons (dC (.str ("tails" : Str))) aNil))))))))) (d2 modD (dN intN (aCons (dVar 0) aNil)) (dC (.int 8))))))
def F__law_name : List D → Ou D := runF 1 g__law_name
def e1__law_word : Env → Ou D := (dCall F__law_value (aCons (d2 ixD (dVar 3) (d2 mulD (dC (.int 2)) (dVar 4))) (aCons (d2 ixD (dVar 3) (d2 addD (d2 mulD (dC (.int 2)) (dVar 4)) (dC (.int 1)))) (aCons (dVar 2) aNil))))
def g__law_word : Env → Os := (sSeq (sSet 3 (dCall F__law_row (aCons (dVar 0) (aCons (d2 mulD (dC (.int 2)) (dVar 1)) aNil))))
    (sRet (dLc (DL.iRng1 (aCons (dVar 1) aNil)) 4 [4] bYes e1__law_word)))
def F__law_word : List D → Ou D := runF 5 g__law_word
def g_kind_named : Env → Os := (sSeq (sIf (b2 eqD (dVar 0) (dC (.str ("list" : Str)))) (sRet (dNew "Kind")) sNil)
    (sSeq (sIf (b2 eqD (dVar 0) (dC (.str ("bag" : Str)))) (sRet (dNew "BagKind")) sNil)
    (sSeq (sIf (b2 eqD (dVar 0) (dC (.str ("set" : Str)))) (sRet (dNew "SetKind")) sNil)
    (sSeq (sIf (b2 eqD (dVar 0) (dC (.str ("first" : Str)))) (sRet (dNew "FirstKind")) sNil)
    (sSeq (sIf (b2 eqD (dVar 0) (dC (.str ("last" : Str)))) (sRet (dNew "LastKind")) sNil)
    (sSeq (sIf (b2 eqD (dVar 0) (dC (.str ("ends" : Str)))) (sRet (dNew "EndsKind")) sNil)
    (sSeq (sIf (b2 eqD (dVar 0) (dC (.str ("heads" : Str)))) (sRet (dNew "HeadsKind")) sNil)
    (sSeq (sIf (b2 eqD (dVar 0) (dC (.str ("tails" : Str)))) (sRet (dNew "TailsKind")) sNil)
    (sRaise "BadKind" ["name"] (aCons (dVar 0) aNil))))))))))
def F_kind_named : List D → Ou D := runF 1 g_kind_named
def e1_Kind_plain : Env → Ou D := (dTup (aCons (dFz (dVar 3)) (aCons (dFz (d2 ixD (dVar 1) (dVar 3))) aNil)))
def e2_Kind_plain : Env → Ou D := (dFz (d2 ixD (dVar 4) (dC (.int 1))))
def g_Kind_plain : Env → Os := (sSeq (sSet 2 (dLc (DL.iRng1 (aCons (dN lenN (aCons (dVar 1) aNil)) aNil)) 3 [3] bYes e1_Kind_plain))
    (sRet (dN tupleN (aCons (dLc (iSeqB (dMeth "keep" (mtF mt_keep) (dVar 0) (aCons (dVar 2) aNil))) 4 [4] bYes e2_Kind_plain) aNil))))
def F_Kind_plain : List D → Ou D := runF 5 g_Kind_plain
def e1__law_plain : Env → Ou D := (dTup (aCons (dC (.int 0)) (aCons (dFz (dVar 3)) aNil)))
def e2__law_plain : Env → Ou D := (dFz (d2 ixD (dVar 2) (dC (.int 1))))
def g__law_plain : Env → Os := (sRet (dN tupleN (aCons (dLc (iSeqB (dCall F__law_keep (aCons (dVar 0) (aCons (dLc (iSeqB (dVar 1)) 3 [3] bYes e1__law_plain) aNil)))) 2 [2] bYes e2__law_plain) aNil)))
def F__law_plain : List D → Ou D := runF 4 g__law_plain
def mt_plain : MTab := [("Kind", F_Kind_plain), ("BagKind", F_Kind_plain), ("SetKind", F_Kind_plain), ("HeadsKind", F_Kind_plain), ("FirstKind", F_Kind_plain), ("TailsKind", F_Kind_plain), ("LastKind", F_Kind_plain), ("EndsKind", F_Kind_plain)]
def g_plain_value : Env → Os := (sRet (dMeth "plain" (mtF mt_plain) (dCall F_kind_named (aCons (dVar 0) aNil)) (aCons (dVar 1) aNil)))
def F_plain_value : List D → Ou D := runF 2 g_plain_value
def ileB (a b : Int) : Bool := decide (a ≤ b)
def sStep (acc : List Int) (e : Int) : List Int := match acc.getLast? with
  | none => acc ++ [e]
  | some l => if l ≠ e then acc ++ [e] else acc
def plV (s : String) (xs : List Int) : List Int :=
  if s = "list" then xs else if s = "bag" then xs.mergeSort ileB else if s = "set" then (xs.mergeSort ileB).foldl sStep [] else if s = "first" then xs.take 1 else if s = "last" then xs.drop (xs.length - 1) else if s = "ends" then xs.take 1 ++ xs.drop (xs.length - 1) else if s = "heads" then heads id xs else tails id xs
section
variable {A : Type}
end
def setI (xs : List Int) : List Int := (xs.mergeSort ileB).foldl sStep []
def endsI (xs : List Int) : List Int := xs.take 1 ++ xs.drop (xs.length - 1)
section
variable {A : Type} [Dm A]
def zi (es : List (A × Int)) : List (Int × Int) := es.zipIdx.map fun p => (p.1.2, (p.2 : Int))
def rk (es : List (A × Int)) : List ((A × Int) × Nat) := es.zipIdx.mergeSort (List.zipIdxLE vle)
end
def placed (xs : List Int) : List (Int × Int) := xs.zipIdx.map fun p => ((p.2 : Int), p.1)
structure IsW (w : D) (xs : List Int) : Prop where
  len : lenN [w] = some (.int xs.length)
  ix : ∀ (j : Nat) (h : j < xs.length), ixD w (.int j) = some (.int xs[j])
end DL
namespace DL
open PySem hiding Env
open PySem.Spec PyProof.Rows L2
def g_is_settled : Env → Os := (sSeq (sIf (b2 isND (dVar 0) (dC .non)) (sRet (dC (.bl true))) sNil)
    (sRet (dAnd (dBl (b2 notND (dVar 1) (dC .non))) (dBl (b2 ltD (dVar 0) (dVar 1))))))
def F_is_settled : List D → Ou D := runF 2 g_is_settled
def con_TIMED : KTab := [("Kind", .bl true), ("BagKind", .bl false), ("SetKind", .bl false), ("HeadsKind", .bl true), ("FirstKind", .bl false), ("TailsKind", .bl true), ("LastKind", .bl false), ("EndsKind", .bl false)]
def e1_pack_state : Env → Ou D := (dFz (d2 ixD (dVar 7) (dC (.int 1))))
def e2_pack_state : Env → Ou D := (dFz (d2 ixD (dVar 7) (dC (.int 1))))
def e3_pack_state : Env → Ou D := (dFz (dVar 7))
def g_pack_state : Env → Os := (sSeq (sIf (bNot (bTru (dCon "TIMED" con_TIMED (dVar 0)))) (sRet (dTup (aCons (dFz (dVar 1)) (aCons (dFz (dVar 2)) (aCons (dN tupleN (aCons (dLc (iSeqB (dVar 3)) 7 [7] bYes e1_pack_state) aNil)) (aCons (dTup aNil) aNil)))))) sNil)
    (sSeq (sSet 5 (dN tupleN (aCons (dLc (iSeqB (dVar 3)) 7 [7] (bTru (dCall F_is_settled (aCons (d2 ixD (dVar 7) (dC (.int 0))) (aCons (dVar 4) aNil)))) e2_pack_state) aNil)))
    (sSeq (sSet 6 (dN tupleN (aCons (dLc (iSeqB (dVar 3)) 7 [7] (bNot (bTru (dCall F_is_settled (aCons (d2 ixD (dVar 7) (dC (.int 0))) (aCons (dVar 4) aNil))))) e3_pack_state) aNil)))
    (sRet (dTup (aCons (dFz (dVar 1)) (aCons (dFz (dVar 2)) (aCons (dFz (dVar 5)) (aCons (dFz (dVar 6)) aNil)))))))))
def F_pack_state : List D → Ou D := runF 8 g_pack_state
def g_unit_state : Env → Os := (sSeq (sSet 3 (dCall F_kind_named (aCons (dVar 0) aNil)))
    (sRet (dCall F_pack_state (aCons (dVar 3) (aCons (dVar 1) (aCons (dVar 1) (aCons (dMeth "keep" (mtF mt_keep) (dVar 3) (aCons (dLst (aCons (dTup (aCons (dFz (dVar 1)) (aCons (dFz (dVar 2)) aNil))) aNil)) aNil)) (aCons (dC .non) aNil))))))))
def F_unit_state : List D → Ou D := runF 4 g_unit_state
def e1_value_of : Env → Ou D := (dFz (d2 ixD (dVar 1) (dC (.int 1))))
def g_value_of : Env → Os := (sRet (d2 addD (d2 ixD (dVar 0) (dC (.int 2))) (dN tupleN (aCons (dLc (iSeqB (d2 ixD (dVar 0) (dC (.int 3)))) 1 [1] bYes e1_value_of) aNil))))
def F_value_of : List D → Ou D := runF 2 g_value_of
def g_state_of : Env → Os := (sSeq (sSet 3 (dCall F_kind_named (aCons (dVar 0) aNil)))
    (sSeq (sSet 4 (dN sortN (aCons (dVar 1) aNil)))
    (sRet (dCall F_pack_state (aCons (dVar 3) (aCons (d2 ixD (d2 ixD (dVar 4) (dC (.int 0))) (dC (.int 0))) (aCons (d2 ixD (d2 ixD (dVar 4) (d1 negD (dC (.int 1)))) (dC (.int 0))) (aCons (dMeth "keep" (mtF mt_keep) (dVar 3) (aCons (dVar 4) aNil)) (aCons (dVar 2) aNil)))))))))
def F_state_of : List D → Ou D := runF 5 g_state_of
def con_NAME : KTab := [("Kind", .str ("list" : Str)), ("BagKind", .str ("bag" : Str)), ("SetKind", .str ("set" : Str)), ("HeadsKind", .str ("heads" : Str)), ("FirstKind", .str ("first" : Str)), ("TailsKind", .str ("tails" : Str)), ("LastKind", .str ("last" : Str)), ("EndsKind", .str ("ends" : Str))]
def e1_join_untimed : Env → Ou D := (dTup (aCons (dC .non) (aCons (dFz (dVar 6)) aNil)))
def e2_join_untimed : Env → Ou D := (dFz (d2 ixD (dVar 7) (dC (.int 1))))
def g_join_untimed : Env → Os := (sSeq (sSet 3 (dN mnN (aCons (dTup (aCons (dFz (d2 ixD (dVar 1) (dC (.int 0)))) (aCons (dFz (d2 ixD (d2 ixD (dVar 1) (dC (.int 2))) (dC (.int 0)))) aNil))) (aCons (dTup (aCons (dFz (d2 ixD (dVar 2) (dC (.int 0)))) (aCons (dFz (d2 ixD (d2 ixD (dVar 2) (dC (.int 2))) (dC (.int 0)))) aNil))) aNil))))
    (sSeq (sSet 4 (dN mxN (aCons (dTup (aCons (dFz (d2 ixD (dVar 1) (dC (.int 1)))) (aCons (dFz (d2 ixD (d2 ixD (dVar 1) (dC (.int 2))) (d1 negD (dC (.int 1))))) aNil))) (aCons (dTup (aCons (dFz (d2 ixD (dVar 2) (dC (.int 1)))) (aCons (dFz (d2 ixD (d2 ixD (dVar 2) (dC (.int 2))) (d1 negD (dC (.int 1))))) aNil))) aNil))))
    (sSeq (sIf (b2 eqD (dCon "NAME" con_NAME (dVar 0)) (dC (.str ("first" : Str)))) (sRet (dTup (aCons (dFz (d2 ixD (dVar 3) (dC (.int 1)))) aNil))) sNil)
    (sSeq (sIf (b2 eqD (dCon "NAME" con_NAME (dVar 0)) (dC (.str ("last" : Str)))) (sRet (dTup (aCons (dFz (d2 ixD (dVar 4) (dC (.int 1)))) aNil))) sNil)
    (sSeq (sIf (b2 eqD (dCon "NAME" con_NAME (dVar 0)) (dC (.str ("ends" : Str)))) (sRet (dTup (aCons (dFz (d2 ixD (dVar 3) (dC (.int 1)))) (aCons (dFz (d2 ixD (dVar 4) (dC (.int 1)))) aNil)))) sNil)
    (sSeq (sSet 5 (dMeth "keep" (mtF mt_keep) (dVar 0) (aCons (dLc (iSeqB (d2 addD (d2 ixD (dVar 1) (dC (.int 2))) (d2 ixD (dVar 2) (dC (.int 2))))) 6 [6] bYes e1_join_untimed) aNil)))
    (sRet (dN tupleN (aCons (dLc (iSeqB (dVar 5)) 7 [7] bYes e2_join_untimed) aNil)))))))))
def F_join_untimed : List D → Ou D := runF 8 g_join_untimed
def e1_join_states : Env → Ou D := (dTup (aCons (dC .non) (aCons (dFz (dVar 8)) aNil)))
def g_join_states : Env → Os := (sSeq (sSet 3 (dCall F_kind_named (aCons (dVar 0) aNil)))
    (sSeq (sSet 4 (dN mnN (aCons (d2 ixD (dVar 1) (dC (.int 0))) (aCons (d2 ixD (dVar 2) (dC (.int 0))) aNil))))
    (sSeq (sSet 5 (dN mxN (aCons (d2 ixD (dVar 1) (dC (.int 1))) (aCons (d2 ixD (dVar 2) (dC (.int 1))) aNil))))
    (sSeq (sIf (bNot (bTru (dCon "TIMED" con_TIMED (dVar 3)))) (sRet (dTup (aCons (dFz (dVar 4)) (aCons (dFz (dVar 5)) (aCons (dCall F_join_untimed (aCons (dVar 3) (aCons (dVar 1) (aCons (dVar 2) aNil)))) (aCons (dTup aNil) aNil)))))) sNil)
    (sSeq (sSet 6 (dLc (iSeqB (d2 addD (d2 ixD (dVar 1) (dC (.int 2))) (d2 ixD (dVar 2) (dC (.int 2))))) 8 [8] bYes e1_join_states))
    (sSeq (sSet 7 (dMeth "keep" (mtF mt_keep) (dVar 3) (aCons (d2 addD (dVar 6) (dN sortN (aCons (d2 addD (d2 ixD (dVar 1) (dC (.int 3))) (d2 ixD (dVar 2) (dC (.int 3)))) aNil))) aNil)))
    (sRet (dCall F_pack_state (aCons (dVar 3) (aCons (dVar 4) (aCons (dVar 5) (aCons (dVar 7) (aCons (dC .non) aNil)))))))))))))
def F_join_states : List D → Ou D := runF 9 g_join_states
def e1_entries_of : Env → Ou D := (dTup (aCons (dC .non) (aCons (dFz (dVar 1)) aNil)))
def g_entries_of : Env → Os := (sRet (d2 addD (dLc (iSeqB (d2 ixD (dVar 0) (dC (.int 2)))) 1 [1] bYes e1_entries_of) (dN listN (aCons (d2 ixD (dVar 0) (dC (.int 3))) aNil))))
def F_entries_of : List D → Ou D := runF 2 g_entries_of
def g_settle_state : Env → Os := (sSeq (sSet 3 (dCall F_kind_named (aCons (dVar 0) aNil)))
    (sSeq (sIf (bNot (bTru (dCon "TIMED" con_TIMED (dVar 3)))) (sRetV 1) sNil)
    (sRet (dCall F_pack_state (aCons (dVar 3) (aCons (d2 ixD (dVar 1) (dC (.int 0))) (aCons (d2 ixD (dVar 1) (dC (.int 1))) (aCons (dCall F_entries_of (aCons (dVar 1) aNil)) (aCons (dVar 2) aNil)))))))))
def F_settle_state : List D → Ou D := runF 4 g_settle_state
def e1__law_is_state : Env → Ou D := (dCall F__law_is_event (aCons (dVar 1) aNil))
def g__law_is_state : Env → Os := (sSeq (sIf (bOr (bNot (bTru (dIsi .tuple (dVar 0)))) (b2 neD (dN lenN (aCons (dVar 0) aNil)) (dC (.int 4)))) (sRet (dC (.bl false))) sNil)
    (sSeq (sIf (bOr (bNot (bTru (dCall F__law_is_integer (aCons (d2 ixD (dVar 0) (dC (.int 0))) aNil)))) (bOr (bNot (bTru (dCall F__law_is_integer (aCons (d2 ixD (dVar 0) (dC (.int 1))) aNil)))) (bNot (bTru (dCall F__law_is_word (aCons (d2 ixD (dVar 0) (dC (.int 2))) aNil)))))) (sRet (dC (.bl false))) sNil)
    (sRet (dAnd (dIsi .tuple (d2 ixD (dVar 0) (dC (.int 3)))) (dN allN (aCons (dLc (iSeqB (d2 ixD (dVar 0) (dC (.int 3)))) 1 [1] bYes e1__law_is_state) aNil))))))
def F__law_is_state : List D → Ou D := runF 2 g__law_is_state
structure Stt where
  a : Int
  b : Int
  se : List Int
  ti : List (Int × Int)
@[ext] theorem Stt.ext' {x y : Stt} (h1 : x.a = y.a) (h2 : x.b = y.b) (h3 : x.se = y.se) (h4 : x.ti = y.ti) : x = y := by cases x; cases y; cases h1; cases h2; cases h3; cases h4; rfl
instance : DecidableEq Stt := fun x y => decidable_of_iff (x.a = y.a ∧ x.b = y.b ∧ x.se = y.se ∧ x.ti = y.ti) ⟨fun h => Stt.ext' h.1 h.2.1 h.2.2.1 h.2.2.2, fun h => by subst h; exact ⟨rfl, rfl, rfl, rfl⟩⟩
instance : Dm Stt where
  d s := .tup [.int s.a, .int s.b, .tup (Ds s.se), .tup (Ds s.ti)]
  dep := 3
  fz s := by simp
  cln s := by
    show (true && (true && (D.clns (Ds s.se) && (D.clns (Ds s.ti) && true)))) = true
    simp
  okd s := by
    show (true && (true && (D.okds (Ds s.se) 1 && (D.okds (Ds s.ti) 1 && true)))) = true
    rw [Ds_okds s.se (by decide), Ds_okds s.ti (by decide)]
    rfl
  eqv x y := by
    simp only [D.py, D.pys, PyData.eqv, PyData.eqvAll, Bool.and_eq_true, Ds_eqv, and_true]
    constructor
    · rintro ⟨h1, h2, h3, h4⟩
      exact Stt.ext' (by simpa using h1) (by simpa using h2) h3 h4
    · rintro rfl
      exact ⟨by simp, by simp, rfl, rfl⟩
def up (p : Int × Int) : En := (some p.1, p.2)
def isSet (wm t : Option Int) : Bool := match t with
  | none => true
  | some t => match wm with
    | none => false
    | some w => decide (t < w)
def timedOf (wm : Option Int) (es : List En) : List (Int × Int) := es.filterMap fun e => match e.1 with
  | none => none
  | some t => if isSet wm (some t) then none else some (t, e.2)
def packS (timed : Bool) (a b : Int) (es : List En) (wm : Option Int) : Stt :=
  if timed then ⟨a, b, (es.filter fun e => isSet wm e.1).map (·.2), timedOf wm es⟩ else ⟨a, b, es.map (·.2), []⟩
def unitS (s : String) (b : Bool) (t v : Int) : Stt := packS b t t (keepK s [(some t, v)]) none
theorem srt_ne {ps : List (Int × Int)} (h : ps ≠ []) : srt ps ≠ [] := by
  intro z
  have := srt_len ps
  rw [z] at this
  exact h (List.length_eq_zero_iff.mp this.symm)
def stateS (s : String) (b : Bool) (ps : List (Int × Int)) (h : ps ≠ []) (wm : Option Int) : Stt :=
  packS b ((srt ps).head (srt_ne h)).1 ((srt ps).getLast (srt_ne h)).1 (keepK s ((srt ps).map up)) wm
end DL
namespace DL
open PySem hiding Env
open PySem.Spec PyProof.Rows L2
def g__law_mark : Env → Os := (sSeq (sSet 4 (d2 modD (dN intN (aCons (dVar 1) aNil)) (dC (.int 6))))
    (sSeq (sIf (b2 eqD (dVar 4) (dC (.int 0))) (sRet (dC .non)) sNil)
    (sRet (d2 addD (d2 ixD (d2 ixD (dVar 0) (d2 modD (dN intN (aCons (dVar 2) aNil)) (dN lenN (aCons (dVar 0) aNil)))) (dC (.int 0))) (d2 ixD (dLst (aCons (dC (.int 0)) (aCons (dC (.int 0)) (aCons (dC (.int 1)) (aCons (d1 negD (dC (.int 1))) (aCons (dFz (dVar 3)) (aCons (d2 subD (d1 negD (dVar 3)) (dC (.int 5))) aNil))))))) (dVar 4))))))
def F__law_mark : List D → Ou D := runF 5 g__law_mark
def e1__law_state : Env → Ou D := (dFz (d2 ixD (dVar 7) (dC (.int 1))))
def b1__law_state : Env → Os := (sIf (bAnd (b2 notND (dVar 2) (dC .non)) (b2 ltD (d2 ixD (dVar 7) (dC (.int 0))) (dVar 2))) (sApp 5 (dFz (d2 ixD (dVar 7) (dC (.int 1))))) (sApp 6 (dFz (dVar 7))))
def g__law_state : Env → Os := (sSeq (sSet 3 (dN sortN (aCons (dVar 1) aNil)))
    (sSeq (sSet 4 (dCall F__law_keep (aCons (dVar 0) (aCons (dVar 3) aNil))))
    (sSeq (sIf (bAnd (b2 neD (dVar 0) (dC (.str ("list" : Str)))) (bAnd (b2 neD (dVar 0) (dC (.str ("heads" : Str)))) (b2 neD (dVar 0) (dC (.str ("tails" : Str)))))) (sRet (dTup (aCons (dFz (d2 ixD (d2 ixD (dVar 3) (dC (.int 0))) (dC (.int 0)))) (aCons (dFz (d2 ixD (d2 ixD (dVar 3) (d1 negD (dC (.int 1)))) (dC (.int 0)))) (aCons (dN tupleN (aCons (dLc (iSeqB (dVar 4)) 7 [7] bYes e1__law_state) aNil)) (aCons (dTup aNil) aNil)))))) sNil)
    (sSeq (sSet 5 (dLst aNil))
    (sSeq (sSet 6 (dLst aNil))
    (sFrz 4 (sSeq (sFor (iSeq (dFz (dVar 4))) (tgN 7) b1__law_state)
    (sRet (dTup (aCons (dFz (d2 ixD (d2 ixD (dVar 3) (dC (.int 0))) (dC (.int 0)))) (aCons (dFz (d2 ixD (d2 ixD (dVar 3) (d1 negD (dC (.int 1)))) (dC (.int 0)))) (aCons (dN tupleN (aCons (dVar 5) aNil)) (aCons (dN tupleN (aCons (dVar 6) aNil)) aNil)))))))))))))
def F__law_state : List D → Ou D := runF 8 g__law_state
def isOld (wm : Option Int) (t : Int) : Bool := match wm with
  | none => false
  | some w => decide (t < w)
end DL
namespace DL
open PySem hiding Env
open PySem.Spec PyProof.Rows L2
section
variable {α : Type} (v : α → Int)
end
theorem srt_time (ps : List (Int × Int)) : (srt ps).Pairwise fun a b => a.1 ≤ b.1 :=
  (srt_pw ps).imp fun {a b} h => by
    unfold leP at h
    simp only [decide_eq_true_eq] at h
    omega
def maxO (wm : Option Int) (w : Int) : Int := match wm with
  | none => w
  | some m => max m w
def entriesS (st : Stt) : List En := st.se.map (fun v => ((none : Option Int), v)) ++ st.ti.map up
def settleS (b : Bool) (st : Stt) (w : Int) : Stt := if b then packS true st.a st.b (entriesS st) (some w) else st
def toldS (st : Stt) : List Int := st.se ++ st.ti.map (·.2)
end DL
namespace DL
open PySem hiding Env
open PySem.Spec PyProof.Rows L2
def e1_join_states_2 : Env → Ou D := (dTup (aCons (dC .non) (aCons (dFz (dVar 8)) aNil)))
def g_join_states_2 : Env → Os := (sSeq (sSet 3 (dCall F_kind_named (aCons (dVar 0) aNil)))
    (sSeq (sSet 4 (dN mnN (aCons (d2 ixD (dVar 1) (dC (.int 0))) (aCons (d2 ixD (dVar 2) (dC (.int 0))) aNil))))
    (sSeq (sSet 5 (dN mxN (aCons (d2 ixD (dVar 1) (dC (.int 1))) (aCons (d2 ixD (dVar 2) (dC (.int 1))) aNil))))
    (sSeq (sIf (bNot (bTru (dCon "TIMED" con_TIMED (dVar 3)))) (sRet (dTup (aCons (dFz (dVar 4)) (aCons (dFz (dVar 5)) (aCons (dCall F_join_untimed (aCons (dVar 3) (aCons (dVar 1) (aCons (dVar 2) aNil)))) (aCons (dTup aNil) aNil)))))) sNil)
    (sSeq (sSet 6 (dLc (iSeqB (d2 addD (d2 ixD (dVar 1) (dC (.int 2))) (d2 ixD (dVar 2) (dC (.int 2))))) 8 [8] bYes e1_join_states_2))
    (sSeq (sSet 7 (dMeth "keep" (mtF mt_keep) (dVar 3) (aCons (d2 addD (dVar 6) (dN sortTN (aCons (d2 addD (d2 ixD (dVar 1) (dC (.int 3))) (d2 ixD (dVar 2) (dC (.int 3)))) aNil))) aNil)))
    (sRet (dCall F_pack_state (aCons (dVar 3) (aCons (dVar 4) (aCons (dVar 5) (aCons (dVar 7) (aCons (dC .non) aNil)))))))))))))
def F_join_states_2 : List D → Ou D := runF 9 g_join_states_2
section
variable {α : Type} (v : α → Int)
end
def minP (p q : Int × Int) : Int × Int := if leP p q then p else q
def maxP (p q : Int × Int) : Int × Int := if leP q p then p else q
def hdI (vs : List Int) : Int := vs.headD 0
def lsI (vs : List Int) : Int := vs.getLastD 0
def lowP (x y : Stt) : Int × Int := minP (x.a, hdI x.se) (y.a, hdI y.se)
def highP (x y : Stt) : Int × Int := maxP (x.b, lsI x.se) (y.b, lsI y.se)
def joinU (s : String) (x y : Stt) : List Int :=
  if s = "first" then [(lowP x y).2] else if s = "last" then [(highP x y).2] else if s = "ends" then [(lowP x y).2, (highP x y).2] else plV s (x.se ++ y.se)
def nonE (vs : List Int) : List En := vs.map fun v => ((none : Option Int), v)
def joinE (x y : Stt) : List En := nonE (x.se ++ y.se) ++ (srt (x.ti ++ y.ti)).map up
def joinS (s : String) (b : Bool) (x y : Stt) : Stt :=
  if b then packS true (min x.a y.a) (max x.b y.b) (keepK s (joinE x y)) none else ⟨min x.a y.a, max x.b y.b, joinU s x y, []⟩
def mk (wm : Option Int) (e : Int × Int) : En := if isOld wm e.1 then (none, e.2) else up e
def absK (s : String) : Bool := s != "list" && s != "bag"
def staysB (s : String) (x : Stt) (e : Int × Int) : Bool :=
  if s = "set" then decide (e.2 ∈ x.se) else if s = "first" then decide (x.a < e.1) || decide (hdI x.se ≤ e.2) else if s = "last" then decide (e.1 < x.b) || decide (e.2 ≤ hdI x.se)
  else if s = "ends" then (decide (x.a < e.1) || decide (hdI x.se ≤ e.2)) && (decide (e.1 < x.b) || decide (e.2 ≤ lsI x.se))
  else if s = "heads" then decide (e.2 ∈ x.se) || x.ti.any (fun k => decide (k.2 = e.2) && decide (k.1 ≤ e.1)) else if s = "tails" then x.ti.any (fun k => decide (k.2 = e.2) && decide (e.1 ≤ k.1)) else false
end DL
namespace DL
open PySem hiding Env
open PySem.Spec PyProof.Rows L2
def g_begins_fresh : Env → Os := (sRet (dOr (dBl (b2 isND (dVar 1) (dC .non))) (dBl (b2 geD (d2 ixD (dVar 0) (dC (.int 0))) (dVar 1)))))
def F_begins_fresh : List D → Ou D := runF 2 g_begins_fresh
def g_all_different : Env → Os := (sRet (dBl (b2 eqD (d1 lenSetD (dVar 0)) (dN lenN (aCons (dVar 0) aNil)))))
def F_all_different : List D → Ou D := runF 1 g_all_different
def e1_descents : Env → Ou D := (dN intN (aCons (dBl (b2 gtD (d2 ixD (dVar 0) (dVar 1)) (d2 ixD (dVar 0) (d2 addD (dVar 1) (dC (.int 1)))))) aNil))
def g_descents : Env → Os := (sRet (dN sumN (aCons (dLc (DL.iRng1 (aCons (d2 subD (dN lenN (aCons (dVar 0) aNil)) (dC (.int 1))) aNil)) 1 [1] bYes e1_descents) aNil)))
def F_descents : List D → Ou D := runF 2 g_descents
def e1_tails_fits : Env → Ou D := (dBl (b2 geD (d2 ixD (dVar 6) (dC (.int 0))) (dVar 2)))
def g_tails_fits : Env → Os := (sSeq (sTup [2, 3, 4, 5] (dFz (dVar 0)))
    (sSeq (sIf (bOr (bNot (bTru (dCall F_all_different (aCons (dCall F_value_of (aCons (dVar 0) aNil)) aNil)))) (bNot (bTru (dN allN (aCons (dLc (iSeqB (dVar 5)) 6 [6] bYes e1_tails_fits) aNil))))) (sRet (dC (.bl false))) sNil)
    (sSeq (sIf (bOr (b2 isND (dVar 1) (dC .non)) (b2 geD (dVar 3) (dVar 1))) (sIf (bOr (b2 eqD (dVar 5) (dTup aNil)) (b2 neD (d2 ixD (d2 ixD (dVar 5) (d1 negD (dC (.int 1)))) (dC (.int 0))) (dVar 3))) (sRet (dC (.bl false))) sNil) (sIf (bOr (b2 neD (dVar 5) (dTup aNil)) (b2 eqD (dVar 4) (dTup aNil))) (sRet (dC (.bl false))) sNil))
    (sSeq (sIf (bTru (dCall F_begins_fresh (aCons (dVar 0) (aCons (dVar 1) aNil)))) (sRet (dBl (b2 eqD (dVar 4) (dTup aNil)))) sNil)
    (sRet (dOr (dBl (b2 eqD (dVar 4) (dTup aNil))) (dBl (b2 leD (d2 addD (dVar 2) (dCall F_descents (aCons (dVar 4) aNil))) (dN mnN (aCons (d2 subD (dVar 1) (dC (.int 1))) (aCons (dVar 3) aNil)))))))))))
def F_tails_fits : List D → Ou D := runF 7 g_tails_fits
def e1_rising : Env → Ou D := (dBl (b2 leTD (d2 ixD (dVar 0) (dVar 1)) (d2 ixD (dVar 0) (d2 addD (dVar 1) (dC (.int 1))))))
def g_rising : Env → Os := (sRet (dN allN (aCons (dLc (DL.iRng1 (aCons (d2 subD (dN lenN (aCons (dVar 0) aNil)) (dC (.int 1))) aNil)) 1 [1] bYes e1_rising) aNil)))
def F_rising : List D → Ou D := runF 2 g_rising
def g_untimed_fits : Env → Os := (sSeq (sTup [3, 4, 5, 6] (dFz (dVar 1)))
    (sSeq (sIf (bOr (b2 neD (dVar 6) (dTup aNil)) (b2 eqD (dVar 5) (dTup aNil))) (sRet (dC (.bl false))) sNil)
    (sSeq (sIf (b2 eqD (dVar 0) (dC (.str ("bag" : Str)))) (sRet (dAnd (dCall F_rising (aCons (dVar 5) aNil)) (dBl (b2 gtD (dN lenN (aCons (dVar 5) aNil)) (dCall F_hops (aCons (dVar 3) (aCons (dVar 4) (aCons (dVar 2) aNil)))))))) sNil)
    (sSeq (sIf (b2 eqD (dVar 0) (dC (.str ("set" : Str)))) (sRet (dAnd (dCall F_rising (aCons (dVar 5) aNil)) (dCall F_all_different (aCons (dVar 5) aNil)))) sNil)
    (sSeq (sIf (b2 eqD (dVar 0) (dC (.str ("ends" : Str)))) (sRet (dAnd (dBl (b2 eqD (dN lenN (aCons (dVar 5) aNil)) (dC (.int 2)))) (dOr (dBl (b2 ltD (dVar 3) (dVar 4))) (dCall F_rising (aCons (dVar 5) aNil))))) sNil)
    (sRet (dBl (b2 eqD (dN lenN (aCons (dVar 5) aNil)) (dC (.int 1))))))))))
def F_untimed_fits : List D → Ou D := runF 7 g_untimed_fits
def e1_list_fits : Env → Ou D := (dBl (b2 leD (d2 subD (d2 ixD (d2 ixD (dVar 6) (d2 addD (dVar 9) (dC (.int 1)))) (dC (.int 0))) (d2 ixD (d2 ixD (dVar 6) (dVar 9)) (dC (.int 0)))) (dVar 1)))
def g_list_fits : Env → Os := (sSeq (sTup [3, 4, 5, 6] (dFz (dVar 0)))
    (sSeq (sIf (bNot (bTru (dN allN (aCons (dLc (DL.iRng1 (aCons (d2 subD (dN lenN (aCons (dVar 6) aNil)) (dC (.int 1))) aNil)) 9 [9] bYes e1_list_fits) aNil)))) (sRet (dC (.bl false))) sNil)
    (sSeq (sIf (bTru (dCall F_begins_fresh (aCons (dVar 0) (aCons (dVar 2) aNil)))) (sRet (dAnd (dBl (b2 eqD (dVar 5) (dTup aNil))) (dAnd (dBl (b2 neD (dVar 6) (dTup aNil))) (dAnd (dBl (b2 eqD (d2 ixD (d2 ixD (dVar 6) (dC (.int 0))) (dC (.int 0))) (dVar 3))) (dBl (b2 eqD (d2 ixD (d2 ixD (dVar 6) (d1 negD (dC (.int 1)))) (dC (.int 0))) (dVar 4))))))) sNil)
    (sSeq (sSet 7 (d2 addD (dVar 3) (dCall F_descents (aCons (dVar 5) aNil))))
    (sSeq (sSet 8 (d2 addD (dVar 3) (d2 mulD (d2 subD (dN lenN (aCons (dVar 5) aNil)) (dC (.int 1))) (dVar 1))))
    (sSeq (sIf (b2 eqD (dVar 5) (dTup aNil)) (sRet (dC (.bl false))) sNil)
    (sSeq (sIf (b2 eqD (dVar 6) (dTup aNil)) (sRet (dAnd (dBl (b2 ltD (dVar 4) (dVar 2))) (dAnd (dBl (b2 leD (dVar 7) (dVar 4))) (dBl (b2 leD (dVar 4) (dVar 8)))))) sNil)
    (sRet (dAnd (dBl (b2 eqD (d2 ixD (d2 ixD (dVar 6) (d1 negD (dC (.int 1)))) (dC (.int 0))) (dVar 4))) (dBl (b2 leD (dN mxN (aCons (dVar 7) (aCons (d2 subD (d2 ixD (d2 ixD (dVar 6) (dC (.int 0))) (dC (.int 0))) (dVar 1)) aNil))) (dN mnN (aCons (dVar 8) (aCons (d2 subD (dVar 2) (dC (.int 1))) aNil))))))))))))))
def F_list_fits : List D → Ou D := runF 10 g_list_fits
def e1_heads_fits : Env → Ou D := (dBl (b2 leD (d2 ixD (dVar 6) (dC (.int 0))) (dVar 3)))
def g_heads_fits : Env → Os := (sSeq (sTup [2, 3, 4, 5] (dFz (dVar 0)))
    (sSeq (sIf (bOr (bNot (bTru (dCall F_all_different (aCons (dCall F_value_of (aCons (dVar 0) aNil)) aNil)))) (bNot (bTru (dN allN (aCons (dLc (iSeqB (dVar 5)) 6 [6] bYes e1_heads_fits) aNil))))) (sRet (dC (.bl false))) sNil)
    (sSeq (sIf (bTru (dCall F_begins_fresh (aCons (dVar 0) (aCons (dVar 1) aNil)))) (sRet (dAnd (dBl (b2 eqD (dVar 4) (dTup aNil))) (dAnd (dBl (b2 neD (dVar 5) (dTup aNil))) (dBl (b2 eqD (d2 ixD (d2 ixD (dVar 5) (dC (.int 0))) (dC (.int 0))) (dVar 2)))))) sNil)
    (sRet (dAnd (dBl (b2 neD (dVar 4) (dTup aNil))) (dBl (b2 leD (d2 addD (dVar 2) (dCall F_descents (aCons (dVar 4) aNil))) (dN mnN (aCons (d2 subD (dVar 1) (dC (.int 1))) (aCons (dVar 3) aNil))))))))))
def F_heads_fits : List D → Ou D := runF 7 g_heads_fits
def e1_possible : Env → Ou D := (dBl (b2 geD (d2 ixD (dVar 9) (dC (.int 0))) (dVar 3)))
def g_possible : Env → Os := (sSeq (sSet 4 (dCall F_kind_named (aCons (dVar 0) aNil)))
    (sSeq (sTup [5, 6, 7, 8] (dFz (dVar 1)))
    (sSeq (sIf (bOr (b2 gtD (dVar 5) (dVar 6)) (bAnd (b2 notND (dVar 3) (dC .non)) (b2 ltD (d2 addD (dVar 6) (dVar 2)) (dVar 3)))) (sRet (dC (.bl false))) sNil)
    (sSeq (sIf (bNot (bTru (dCon "TIMED" con_TIMED (dVar 4)))) (sRet (dCall F_untimed_fits (aCons (dVar 0) (aCons (dVar 1) (aCons (dVar 2) aNil))))) sNil)
    (sSeq (sIf (bNot (bTru (dCall F_rising (aCons (dVar 8) aNil)))) (sRet (dC (.bl false))) sNil)
    (sSeq (sIf (bAnd (b2 notND (dVar 3) (dC .non)) (bNot (bTru (dN allN (aCons (dLc (iSeqB (dVar 8)) 9 [9] bYes e1_possible) aNil))))) (sRet (dC (.bl false))) sNil)
    (sSeq (sIf (b2 eqD (dVar 0) (dC (.str ("list" : Str)))) (sRet (dCall F_list_fits (aCons (dVar 1) (aCons (dVar 2) (aCons (dVar 3) aNil))))) sNil)
    (sSeq (sIf (b2 eqD (dVar 0) (dC (.str ("heads" : Str)))) (sRet (dCall F_heads_fits (aCons (dVar 1) (aCons (dVar 3) aNil)))) sNil)
    (sRet (dCall F_tails_fits (aCons (dVar 1) (aCons (dVar 3) aNil))))))))))))
def F_possible : List D → Ou D := runF 10 g_possible
def g_fewest_untimed : Env → Os := (sSeq (sTup [3, 4, 5, 6] (dFz (dVar 1)))
    (sSeq (sIf (bAnd (b2 eqD (dVar 0) (dC (.str ("ends" : Str)))) (b2 eqD (dVar 3) (dVar 4))) (sRet (d1 lenSetD (dVar 5))) sNil)
    (sSeq (sSet 7 (d2 addD (dCall F_hops (aCons (dVar 3) (aCons (dVar 4) (aCons (dVar 2) aNil)))) (dC (.int 1))))
    (sSeq (sIf (bOr (b2 eqD (dVar 0) (dC (.str ("bag" : Str)))) (b2 eqD (dVar 0) (dC (.str ("set" : Str))))) (sRet (dN mxN (aCons (dN lenN (aCons (dVar 5) aNil)) (aCons (dVar 7) aNil)))) sNil)
    (sRetV 7)))))
def F_fewest_untimed : List D → Ou D := runF 8 g_fewest_untimed
def g_settled_end : Env → Os := (sSeq (sTup [3, 4, 5, 6] (dFz (dVar 0)))
    (sRet (dN min3N (aCons (d2 subD (dVar 2) (dC (.int 1))) (aCons (dVar 4) (aCons (d2 addD (dVar 3) (d2 mulD (d2 subD (dN lenN (aCons (dVar 5) aNil)) (dC (.int 1))) (dVar 1))) aNil))))))
def F_settled_end : List D → Ou D := runF 7 g_settled_end
def g_between : Env → Os := (sRet (dN mxN (aCons (dC (.int 0)) (aCons (d2 subD (dCall F_hops (aCons (dVar 0) (aCons (dVar 1) (aCons (dVar 2) aNil)))) (dC (.int 1))) aNil))))
def F_between : List D → Ou D := runF 3 g_between
def e1_inner_fillers : Env → Ou D := (dCall F_between (aCons (d2 ixD (d2 ixD (dVar 0) (dVar 2)) (dC (.int 0))) (aCons (d2 ixD (d2 ixD (dVar 0) (d2 addD (dVar 2) (dC (.int 1)))) (dC (.int 0))) (aCons (dVar 1) aNil))))
def g_inner_fillers : Env → Os := (sRet (dN sumN (aCons (dLc (DL.iRng1 (aCons (d2 subD (dN lenN (aCons (dVar 0) aNil)) (dC (.int 1))) aNil)) 2 [2] bYes e1_inner_fillers) aNil)))
def F_inner_fillers : List D → Ou D := runF 3 g_inner_fillers
def g_fewest_heads : Env → Os := (sSeq (sTup [3, 4, 5, 6] (dFz (dVar 0)))
    (sSeq (sSet 7 (d2 addD (dN lenN (aCons (dVar 5) aNil)) (dN lenN (aCons (dVar 6) aNil))))
    (sSeq (sSet 8 (dFz (dVar 3)))
    (sSeq (sIf (b2 neD (dVar 5) (dTup aNil)) (sSet 8 (dCall F_settled_end (aCons (dVar 0) (aCons (dVar 1) (aCons (dVar 2) aNil))))) sNil)
    (sSeq (sIf (b2 eqD (dVar 6) (dTup aNil)) (sRet (d2 addD (dVar 7) (dCall F_hops (aCons (dVar 8) (aCons (dVar 4) (aCons (dVar 1) aNil)))))) sNil)
    (sSeq (sSet 9 (d2 addD (dCall F_between (aCons (dVar 8) (aCons (d2 ixD (d2 ixD (dVar 6) (dC (.int 0))) (dC (.int 0))) (aCons (dVar 1) aNil)))) (dCall F_inner_fillers (aCons (dVar 6) (aCons (dVar 1) aNil)))))
    (sRet (d2 addD (d2 addD (dVar 7) (dVar 9)) (dCall F_hops (aCons (d2 ixD (d2 ixD (dVar 6) (d1 negD (dC (.int 1)))) (dC (.int 0))) (aCons (dVar 4) (aCons (dVar 1) aNil))))))))))))
def F_fewest_heads : List D → Ou D := runF 10 g_fewest_heads
def g_fewest_tails : Env → Os := (sSeq (sTup [3, 4, 5, 6] (dFz (dVar 0)))
    (sSeq (sIf (b2 eqD (dVar 6) (dTup aNil)) (sRet (dN mxN (aCons (dN lenN (aCons (dVar 5) aNil)) (aCons (d2 addD (dCall F_hops (aCons (dVar 3) (aCons (dVar 4) (aCons (dVar 1) aNil)))) (dC (.int 1))) aNil)))) sNil)
    (sSeq (sSet 7 (d2 addD (d2 addD (dN lenN (aCons (dVar 5) aNil)) (dN lenN (aCons (dVar 6) aNil))) (dCall F_inner_fillers (aCons (dVar 6) (aCons (dVar 1) aNil)))))
    (sSeq (sIf (b2 eqD (dVar 5) (dTup aNil)) (sRet (d2 addD (dVar 7) (dCall F_hops (aCons (dVar 3) (aCons (d2 ixD (d2 ixD (dVar 6) (dC (.int 0))) (dC (.int 0))) (aCons (dVar 1) aNil)))))) sNil)
    (sRet (d2 addD (dVar 7) (dCall F_between (aCons (dCall F_settled_end (aCons (dVar 0) (aCons (dVar 1) (aCons (dVar 2) aNil)))) (aCons (d2 ixD (d2 ixD (dVar 6) (dC (.int 0))) (dC (.int 0))) (aCons (dVar 1) aNil))))))))))
def F_fewest_tails : List D → Ou D := runF 8 g_fewest_tails
def g_fewest_events : Env → Os := (sSeq (sIf (bNot (bTru (dCallK F_possible [] (aCons (dVar 0) (aCons (dVar 1) aNil)) (aCons (dVar 2) (aCons (dVar 3) aNil))))) (sRaise "NoHistory" ["index"] (aCons (dC (.int 0)) aNil)) sNil)
    (sSeq (sIf (b2 eqD (dVar 0) (dC (.str ("list" : Str)))) (sRet (d2 addD (dN lenN (aCons (d2 ixD (dVar 1) (dC (.int 2))) aNil)) (dN lenN (aCons (d2 ixD (dVar 1) (dC (.int 3))) aNil)))) sNil)
    (sSeq (sIf (b2 eqD (dVar 0) (dC (.str ("heads" : Str)))) (sRet (dCall F_fewest_heads (aCons (dVar 1) (aCons (dVar 2) (aCons (dVar 3) aNil))))) sNil)
    (sSeq (sIf (b2 eqD (dVar 0) (dC (.str ("tails" : Str)))) (sRet (dCall F_fewest_tails (aCons (dVar 1) (aCons (dVar 2) (aCons (dVar 3) aNil))))) sNil)
    (sRet (dCall F_fewest_untimed (aCons (dVar 0) (aCons (dVar 1) (aCons (dVar 2) aNil)))))))))
def F_fewest_events : List D → Ou D := runF 4 g_fewest_events
def adjL {α β : Type} (f : α → α → β) : List α → List β
  | x :: y :: r => f x y :: adjL f (y :: r)
  | _ => []
def descI (vs : List Int) : Int := (adjL (fun x y => if y < x then (1 : Int) else 0) vs).sum
def risI (vs : List Int) : Bool := (adjL (fun x y => decide (x ≤ y)) vs).all id
def risP (ps : List (Int × Int)) : Bool := (adjL leP ps).all id
def diffI (vs : List Int) : Bool := decide ((nubI vs).length = vs.length)
def freshB (x : Stt) (wm : Option Int) : Bool := match wm with
  | none => true
  | some w => decide (w ≤ x.a)
def hopsI (a b g : Int) : Int := (b - a + g - 1) / g
def untB (s : String) (x : Stt) (g : Int) : Bool :=
  if x.ti ≠ [] ∨ x.se = [] then false else if s = "bag" then risI x.se && decide (hopsI x.a x.b g < x.se.length) else if s = "set" then risI x.se && diffI x.se else if s = "ends" then decide (x.se.length = 2) && (decide (x.a < x.b) || risI x.se) else decide (x.se.length = 1)
def hdT (x : Stt) : Int := (x.ti.headD (0, 0)).1
def lsT (x : Stt) : Int := (x.ti.getLastD (0, 0)).1
def listB (x : Stt) (g : Int) (wm : Option Int) : Bool :=
  if (adjL (fun p q : Int × Int => decide (q.1 - p.1 ≤ g)) x.ti).all id = false then false
  else if freshB x wm = true then decide (x.se = []) && (!decide (x.ti = []) && (decide (hdT x = x.a) && decide (lsT x = x.b)))
  else match wm with
    | none => false
    | some w => if x.se = [] then false
      else if x.ti = [] then decide (x.b < w) && (decide (x.a + descI x.se ≤ x.b) && decide (x.b ≤ x.a + ((x.se.length : Int) - 1) * g))
      else decide (lsT x = x.b) && decide (max (x.a + descI x.se) (hdT x - g) ≤ min (x.a + ((x.se.length : Int) - 1) * g) (w - 1))
def headsB (x : Stt) (wm : Option Int) : Bool :=
  if (!diffI (toldS x) || !(x.ti.all fun p => decide (p.1 ≤ x.b))) = true then false
  else if freshB x wm = true then decide (x.se = []) && (!decide (x.ti = []) && decide (hdT x = x.a))
  else match wm with
    | none => false
    | some w => !decide (x.se = []) && decide (x.a + descI x.se ≤ min (w - 1) x.b)
def tailsB (x : Stt) (wm : Option Int) : Bool := diffI (toldS x) && ((x.ti.all fun p => decide (x.a ≤ p.1)) && (match wm with
  | none => (!decide (x.ti = []) && decide (lsT x = x.b)) && decide (x.se = [])
  | some w => (if decide (w ≤ x.b) = true then !decide (x.ti = []) && decide (lsT x = x.b) else decide (x.ti = []) && !decide (x.se = [])) && (decide (x.se = []) || !freshB x (some w) && decide (x.a + descI x.se ≤ min (w - 1) x.b))))
def deadB (x : Stt) (g : Int) (wm : Option Int) : Bool := decide (x.b < x.a) || (match wm with
  | none => false
  | some w => decide (x.b + g < w))
def markB (x : Stt) (wm : Option Int) : Bool := match wm with
  | none => true
  | some w => x.ti.all fun p => decide (w ≤ p.1)
def timB (s : String) (x : Stt) (g : Int) (wm : Option Int) : Bool := if s = "list" then listB x g wm else if s = "heads" then headsB x wm else tailsB x wm
def possB (s : String) (b : Bool) (x : Stt) (g : Int) (wm : Option Int) : Bool := !deadB x g wm && (if b = true then risP x.ti && (markB x wm && timB s x g wm) else untB s x g)
def fewU (s : String) (x : Stt) (g : Int) : Int := if s = "ends" ∧ x.a = x.b then (nubI x.se).length else if s = "bag" ∨ s = "set" then max (x.se.length : Int) (hopsI x.a x.b g + 1) else hopsI x.a x.b g + 1
def betwI (a b g : Int) : Int := max 0 (hopsI a b g - 1)
def fillI (g : Int) (ti : List (Int × Int)) : Int := (adjL (fun p q : Int × Int => betwI p.1 q.1 g) ti).sum
def endI (x : Stt) (g w : Int) : Int := min (min (w - 1) x.b) (x.a + ((x.se.length : Int) - 1) * g)
def plcI (x : Stt) (g : Int) (wm : Option Int) : Int := if x.se = [] then x.a else match wm with
  | none => x.a
  | some w => endI x g w
def fewH (x : Stt) (g : Int) (wm : Option Int) : Int :=
  if x.ti = [] then ((x.se.length : Int) + x.ti.length) + hopsI (plcI x g wm) x.b g else ((x.se.length : Int) + x.ti.length) + (betwI (plcI x g wm) (hdT x) g + fillI g x.ti) + hopsI (lsT x) x.b g
def fewT (x : Stt) (g : Int) (wm : Option Int) : Int :=
  if x.ti = [] then max (x.se.length : Int) (hopsI x.a x.b g + 1) else if x.se = [] then ((x.se.length : Int) + x.ti.length + fillI g x.ti) + hopsI x.a (hdT x) g else ((x.se.length : Int) + x.ti.length + fillI g x.ti) + betwI (plcI x g wm) (hdT x) g
def fewV (s : String) (b : Bool) (x : Stt) (g : Int) (wm : Option Int) : Int := if b = false then fewU s x g else if s = "list" then (x.se.length : Int) + x.ti.length else if s = "heads" then fewH x g wm else fewT x g wm
end DL
namespace DL
open PySem hiding Env
open PySem.Spec PyProof.Rows L2
def atB (bs : List Bool) (d : D) : Bool := match d with
  | .int i => bs.getD i.toNat false
  | _ => false
def preS (xs : List Int) (j : Nat) : Int := (xs.take j).sum
def fallL (vs : List Int) : List Int := adjL (fun x y => if y < x then (1 : Int) else 0) vs
end DL
namespace DL
open PySem hiding Env
open PySem.Spec PyProof.Rows L2
def b1__law_pool : Env → Os := (sSeq (sSet 6 (dCall F__law_value (aCons (d2 ixD (dVar 0) (d2 mulD (dC (.int 2)) (dVar 5))) (aCons (d2 ixD (dVar 0) (d2 addD (d2 mulD (dC (.int 2)) (dVar 5)) (dC (.int 1)))) (aCons (dVar 2) aNil)))))
    (sIf (bOr (bTru (dVar 3)) (b2 notInD (dVar 6) (dVar 4))) (sFrz 6 (sApp 4 (dFz (dVar 6)))) sNil))
def g__law_pool : Env → Os := (sSeq (sSet 4 (dLst aNil))
    (sSeq (sFor (DL.iRng1 (aCons (dVar 1) aNil)) (tgN 5) b1__law_pool)
    (sRetV 4)))
def F__law_pool : List D → Ou D := runF 7 g__law_pool
def twL (vs : List Int) : List Bool := (List.range vs.length).map fun j => decide (vs.getD j 0 ∈ vs.take j)
def tmR (late : Int × Int → Bool) : Option (Int × Int) → List (Int × Int) → List Bool
  | _, [] => []
  | pr, p :: r => (late p || (match pr with
    | none => false
    | some q => !leP q p)) :: tmR late (some p) r
theorem modK (i m : Int) (h : 0 < m) : ∃ k : Nat, modD (.int i) (.int m) = some (.int k) ∧ (k : Int) < m := by
  have h1 := Int.emod_nonneg i (show m ≠ 0 by omega)
  have h2 := Int.emod_lt_of_pos i h
  refine ⟨(i % m).toNat, ?_, by omega⟩
  rw [x_mod h, show (((i % m).toNat : Nat) : Int) = i % m by omega]
end DL
namespace DL
open PySem hiding Env
open PySem.Spec PyProof.Rows L2
structure Parts (s : String) (ps : List Ev) (h : ps ≠ []) (wm : Option Int) (O N : List Ev) : Prop where
  st : stateS s true ps h wm = ⟨(hd0 (srt ps)).1, (ls0 (srt ps)).1, O.map (·.2), N⟩
  k : keepK s (srt ps) = O ++ N
  old : ∀ e ∈ O, isOld wm e.1 = true
  new : ∀ e ∈ N, isOld wm e.1 = false
end DL
namespace DL
open PySem hiding Env
open PySem.Spec PyProof.Rows L2
def Dens0 (g : Int) (l : List Ev) : Prop := ∀ t, (hd0 l).1 ≤ t → t < (ls0 l).1 → ∃ y ∈ l, t < y.1 ∧ y.1 ≤ t + g
structure Blk (g : Int) (B : List Ev) : Prop where
  ne : B ≠ []
  asc : Asc B
  ch : Ch g B
def foldB (g : Int) : List (List Ev) → List Ev → List (List Ev)
  | [], cur => [cur]
  | B :: Bs, cur => if (hd0 B).1 ≤ (ls0 cur).1 + g then foldB g Bs (srt (cur ++ B)) else cur :: foldB g Bs B
def stE (s : String) (b : Bool) (wm : Option Int) (r : List Ev) : Stt := if h : r ≠ [] then stateS s b r h wm else ⟨0, 0, [], []⟩
def foldS (s : String) (b : Bool) (g : Int) : List Stt → Stt → List Stt
  | [], cur => [cur]
  | x :: xs, cur => if x.a ≤ cur.b + g then foldS s b g xs (joinS s b cur x) else cur :: foldS s b g xs x
def joinedS (s : String) (b : Bool) (g : Int) : List Stt → List Stt
  | [] => []
  | x :: xs => foldS s b g xs x
def Fresh (wm : Option Int) (B : List Ev) : Prop := ∀ e ∈ B, isOld wm e.1 = false
def liveB (g : Int) (wm : Option Int) (r : List Ev) : Bool := match wm with
  | none => true
  | some w => decide (w ≤ (ls0 r).1 + g)
def liveR (g : Int) (wm : Option Int) (P : List Ev) : List (List Ev) := (cutR g (srt P)).filter (liveB g wm)
def rowsS (s : String) (b : Bool) (g : Int) (wm : Option Int) (P : List Ev) : List Stt := (liveR g wm P).map (stE s b wm)
end DL
namespace DL
open PySem hiding Env
open PySem.Spec PyProof.Rows L2
def b1__law_session : Env → Os := (sSeq (sApp 5 (dTup (aCons (dFz (dVar 6)) (aCons (dCall F__law_value (aCons (d2 ixD (dVar 0) (d2 addD (d2 mulD (dC (.int 3)) (dVar 7)) (dC (.int 1)))) (aCons (d2 ixD (dVar 0) (d2 addD (d2 mulD (dC (.int 3)) (dVar 7)) (dC (.int 2)))) (aCons (dVar 4) aNil)))) aNil))))
    (sSet 6 (d2 addD (dVar 6) (d2 ixD (dLst (aCons (dC (.int 0)) (aCons (dC (.int 1)) (aCons (dFz (dVar 2)) (aCons (d2 fdivD (dVar 2) (dC (.int 2))) (aCons (d2 subD (dVar 2) (dC (.int 1))) (aCons (dC (.int 0)) aNil))))))) (d2 modD (dN intN (aCons (d2 ixD (dVar 0) (d2 mulD (dC (.int 3)) (dVar 7))) aNil)) (dC (.int 6)))))))
def g__law_session : Env → Os := (sSeq (sSet 5 (dLst aNil))
    (sSeq (sSet 6 (dFz (dVar 3)))
    (sSeq (sFor (DL.iRng1 (aCons (dVar 1) aNil)) (tgN 7) b1__law_session)
    (sRetV 5))))
def F__law_session : List D → Ou D := runF 8 g__law_session
def g__law_live_mark : Env → Os := (sSeq (sSet 4 (d2 modD (dN intN (aCons (dVar 1) aNil)) (dC (.int 6))))
    (sSeq (sIf (b2 eqD (dVar 4) (dC (.int 0))) (sRet (dC .non)) sNil)
    (sSeq (sSet 5 (dFz (d2 ixD (d2 ixD (dVar 0) (d1 negD (dC (.int 1)))) (dC (.int 0)))))
    (sSeq (sSet 6 (d2 addD (d2 ixD (d2 ixD (dVar 0) (d2 modD (dN intN (aCons (dVar 2) aNil)) (dN lenN (aCons (dVar 0) aNil)))) (dC (.int 0))) (d2 ixD (dLst (aCons (dC (.int 0)) (aCons (dC (.int 0)) (aCons (dC (.int 1)) (aCons (d1 negD (dC (.int 1))) (aCons (dC (.int 0)) (aCons (dC (.int 0)) aNil))))))) (dVar 4))))
    (sSeq (sIf (b2 eqD (dVar 4) (dC (.int 4))) (sSet 6 (d2 addD (dVar 5) (dVar 3))) sNil)
    (sSeq (sIf (b2 eqD (dVar 4) (dC (.int 5))) (sSet 6 (d2 addD (dVar 5) (dC (.int 1)))) sNil)
    (sRet (dN mnN (aCons (dVar 6) (aCons (d2 addD (dVar 5) (dVar 3)) aNil))))))))))
def F__law_live_mark : List D → Ou D := runF 7 g__law_live_mark
theorem ch_times {g : Int} : ∀ {l m : List Ev}, l.map (·.1) = m.map (·.1) → Ch g l → Ch g m
  | [], [], _, _ => trivial
  | [_], [_], _, _ => trivial
  | x :: y :: t, x' :: y' :: t', e, h => by
    rw [List.map_cons, List.map_cons, List.map_cons, List.map_cons] at e
    obtain ⟨e1, e⟩ := List.cons.inj e
    have e2 := (List.cons.inj e).1
    have h1 : y.1 - x.1 ≤ g := h.1
    exact ⟨show y'.1 - x'.1 ≤ g by omega, ch_times (l := y :: t) (m := y' :: t') (by rw [List.map_cons, List.map_cons]; exact e) h.2⟩
  | [], _ :: _, e, _ => nomatch e
  | _ :: _, [], e, _ => nomatch e
  | [_], _ :: _ :: _, e, _ => by simp at e
  | _ :: _ :: _, [_], e, _ => by simp at e
theorem srt_times (ps : List Ev) (h : ps.Pairwise fun a b => a.1 ≤ b.1) : (srt ps).map (·.1) = ps.map (·.1) := by
  have p : ((srt ps).map (·.1)).Perm (ps.map (·.1)) := (srt_perm ps).map _
  have a : ((srt ps).map (·.1)).Pairwise (· ≤ ·) := List.pairwise_map.mpr (srt_time ps)
  have b : (ps.map (·.1)).Pairwise (· ≤ ·) := List.pairwise_map.mpr h
  exact p.eq_of_pairwise (fun x y _ _ h1 h2 => Int.le_antisymm h1 h2) a b
def StepL (g : Int) : List Ev → Prop
  | x :: y :: t => (x.1 ≤ y.1 ∧ y.1 - x.1 ≤ g) ∧ StepL g (y :: t)
  | _ => True
theorem StepL.ch {g : Int} : ∀ {l : List Ev}, StepL g l → Ch g l
  | [], _ => trivial
  | [_], _ => trivial
  | _ :: _ :: _, h => ⟨h.1.2, StepL.ch h.2⟩
theorem StepL.pw {g : Int} : ∀ {l : List Ev}, StepL g l → l.Pairwise fun a b => a.1 ≤ b.1
  | [], _ => List.Pairwise.nil
  | [_], _ => List.pairwise_singleton _ _
  | x :: y :: t, h => by
    have ih := StepL.pw h.2
    refine List.pairwise_cons.mpr ⟨fun z hz => ?_, ih⟩
    rcases List.mem_cons.mp hz with rfl | hz
    · exact h.1.1
    · exact Int.le_trans h.1.1 ((List.pairwise_cons.mp ih).1 z hz)
theorem StepL.snoc {g : Int} : ∀ {l : List Ev} {e : Ev}, StepL g l → (l ≠ [] → (ls0 l).1 ≤ e.1 ∧ e.1 - (ls0 l).1 ≤ g) → StepL g (l ++ [e])
  | [], _, _, _ => trivial
  | [x], e, _, h => ⟨h (by simp), trivial⟩
  | x :: y :: t, e, h, k => ⟨h.1, StepL.snoc (l := y :: t) h.2 fun _ => by
      have := k (by simp)
      rwa [ls0_cons (by simp)] at this⟩
theorem StepL.srt {g : Int} {l : List Ev} (h : StepL g l) : Ch g (srt l) := ch_times (srt_times l h.pw).symm h.ch
end DL
namespace DL
open PySem hiding Env
open PySem.Spec PyProof.Rows L2
def g_Line_lets_in : Env → Os := (sRet (dOr (dBl (b2 isND (d1 (fldD "watermark" ["Line"]) (dVar 0)) (dC .non))) (dBl (b2 geD (dVar 1) (d1 (fldD "watermark" ["Line"]) (dVar 0))))))
def F_Line_lets_in : List D → Ou D := runF 2 g_Line_lets_in
def b1_joined_rows : Env → Os := (sIf (bAnd (bTru (dVar 3)) (b2 leD (d2 ixD (dVar 4) (dC (.int 0))) (d2 addD (d2 ixD (d2 ixD (dVar 3) (d1 negD (dC (.int 1)))) (dC (.int 1))) (dVar 1)))) (sSetAt 3 (d1 negD (dC (.int 1))) (dCall F_join_states_2 (aCons (dVar 0) (aCons (d2 ixD (dVar 3) (d1 negD (dC (.int 1)))) (aCons (dVar 4) aNil))))) (sApp 3 (dFz (dVar 4))))
def g_joined_rows : Env → Os := (sSeq (sSet 3 (dLst aNil))
    (sSeq (sFor (iSeq (d1 (sortKeyTD 0) (dVar 2))) (tgN 4) b1_joined_rows)
    (sRet (dN tupleN (aCons (dVar 3) aNil)))))
def F_joined_rows : List D → Ou D := runF 5 g_joined_rows
def g_Line___init__ : Env → Ou (List D) := (iFld (dFz (dVar 1))
    (iFld (dFz (dVar 2))
    (iFld (dFz (dVar 3))
    (iFld (dFz (dVar 4))
    iNil))))
def F_Line___init__ : List D → Ou D := runI 5 "Line" ["kind", "gap", "watermark", "sessions"] g_Line___init__
def mt_lets_in : MTab := [("Line", F_Line_lets_in)]
def g_Line_with_event : Env → Os := (sSeq (sIf (bNot (bTru (dMeth "lets_in" (mtF mt_lets_in) (dVar 0) (aCons (dVar 1) aNil)))) (sRaise "LateEvent" ["time", "watermark"] (aCons (dVar 1) (aCons (d1 (fldD "watermark" ["Line"]) (dVar 0)) aNil))) sNil)
    (sSeq (sSet 3 (d2 addD (d1 (fldD "sessions" ["Line"]) (dVar 0)) (dTup (aCons (dCall F_unit_state (aCons (d1 (fldD "kind" ["Line"]) (dVar 0)) (aCons (dVar 1) (aCons (dVar 2) aNil)))) aNil))))
    (sRet (dCall F_Line___init__ (aCons (d1 (fldD "kind" ["Line"]) (dVar 0)) (aCons (d1 (fldD "gap" ["Line"]) (dVar 0)) (aCons (d1 (fldD "watermark" ["Line"]) (dVar 0)) (aCons (dCall F_joined_rows (aCons (d1 (fldD "kind" ["Line"]) (dVar 0)) (aCons (d1 (fldD "gap" ["Line"]) (dVar 0)) (aCons (dVar 3) aNil)))) aNil))))))))
def F_Line_with_event : List D → Ou D := runF 4 g_Line_with_event
def e1_Line_advanced : Env → Ou D := (dFz (dVar 4))
def e2_Line_advanced : Env → Ou D := (dCall F_settle_state (aCons (d1 (fldD "kind" ["Line"]) (dVar 0)) (aCons (dVar 4) (aCons (dVar 1) aNil))))
def g_Line_advanced : Env → Os := (sSeq (sIf (bAnd (b2 notND (d1 (fldD "watermark" ["Line"]) (dVar 0)) (dC .non)) (b2 leD (dVar 1) (d1 (fldD "watermark" ["Line"]) (dVar 0)))) (sRetV 0) sNil)
    (sSeq (sSet 2 (dLc (iSeqB (d1 (fldD "sessions" ["Line"]) (dVar 0))) 4 [4] (b2 geD (d2 addD (d2 ixD (dVar 4) (dC (.int 1))) (d1 (fldD "gap" ["Line"]) (dVar 0))) (dVar 1)) e1_Line_advanced))
    (sSeq (sSet 3 (dN tupleN (aCons (dLc (iSeqB (dVar 2)) 4 [4] bYes e2_Line_advanced) aNil)))
    (sRet (dCall F_Line___init__ (aCons (d1 (fldD "kind" ["Line"]) (dVar 0)) (aCons (d1 (fldD "gap" ["Line"]) (dVar 0)) (aCons (dVar 1) (aCons (dVar 3) aNil)))))))))
def F_Line_advanced : List D → Ou D := runF 5 g_Line_advanced
def b1_Line_made : Env → Os := (sSeq (sIf (bNot (bTru (dCallK F_possible [] (aCons (dVar 1) (aCons (d2 ixD (dVar 2) (dVar 5)) aNil)) (aCons (dVar 3) (aCons (dVar 4) aNil))))) (sRaise "NoHistory" ["index"] (aCons (dVar 5) aNil)) sNil)
    (sIf (bAnd (b2 gtD (dVar 5) (dC (.int 0))) (b2 leD (d2 ixD (d2 ixD (dVar 2) (dVar 5)) (dC (.int 0))) (d2 addD (d2 ixD (d2 ixD (dVar 2) (d2 subD (dVar 5) (dC (.int 1)))) (dC (.int 1))) (dVar 3)))) (sRaise "NoHistory" ["index"] (aCons (dVar 5) aNil)) sNil))
def g_Line_made : Env → Os := (sSeq (sDrop (dCall F_kind_named (aCons (dVar 1) aNil)))
    (sSeq (sIf (b2 ltD (dVar 3) (dC (.int 1))) (sRaise "BadGap" ["gap"] (aCons (dVar 3) aNil)) sNil)
    (sSeq (sFor (DL.iRng1 (aCons (dN lenN (aCons (dVar 2) aNil)) aNil)) (tgN 5) b1_Line_made)
    (sRet (dMkV "Line" F_Line___init__ (dVar 0) (aCons (dVar 1) (aCons (dVar 3) (aCons (dVar 4) (aCons (dN tupleN (aCons (dVar 2) aNil)) aNil)))))))))
def F_Line_made : List D → Ou D := runF 6 g_Line_made
def g_Line_empty : Env → Os := (sRet (dCm "Line" F_Line_made [.non] (dVar 0) (aCons (dVar 1) (aCons (dLst aNil) aNil)) (aCons (dVar 2) aNil)))
def F_Line_empty : List D → Ou D := runF 3 g_Line_empty
def mt_with_event : MTab := [("Line", F_Line_with_event)]
def mt_advanced : MTab := [("Line", F_Line_advanced)]
def b1__law_built : Env → Os := (sSet 4 (dMeth "with_event" (mtF mt_with_event) (dVar 4) (aCons (d2 ixD (dVar 5) (dC (.int 0))) (aCons (d2 ixD (dVar 5) (dC (.int 1))) aNil))))
def g__law_built : Env → Os := (sSeq (sSet 4 (dCm "Line" F_Line_empty [] (dC (.cls "Line")) (aCons (dVar 0) aNil) (aCons (dVar 2) aNil)))
    (sSeq (sFor (iSeq (dFz (dVar 1))) (tgN 5) b1__law_built)
    (sSeq (sIf (b2 notND (dVar 3) (dC .non)) (sSet 4 (dMeth "advanced" (mtF mt_advanced) (dVar 4) (aCons (dVar 3) aNil))) sNil)
    (sRetV 4))))
def F__law_built : List D → Ou D := runF 6 g__law_built
def b1__law_live : Env → Os := (sIf (bOr (b2 isND (dVar 3) (dC .non)) (b2 geD (d2 addD (d2 ixD (d2 ixD (dVar 5) (d1 negD (dC (.int 1)))) (dC (.int 0))) (dVar 2)) (dVar 3))) (sApp 4 (dCall F__law_state (aCons (dVar 0) (aCons (dVar 5) (aCons (dVar 3) aNil))))) sNil)
def g__law_live : Env → Os := (sSeq (sSet 4 (dLst aNil))
    (sSeq (sFor (iSeq (dCall F__law_runs (aCons (dVar 1) (aCons (dVar 2) aNil)))) (tgN 5) b1__law_live)
    (sRetV 4)))
def F__law_live : List D → Ou D := runF 6 g__law_live
def isi_Line : HTab := [("Line", true)]
def e1__law_is_line : Env → Ou D := (dCall F__law_is_state (aCons (dVar 5) aNil))
def g__law_is_line : Env → Os := (sSeq (sIf (bOr (bNot (bTru (dIsiO isi_Line (dVar 0)))) (bNot (bTru (dIsi .tuple (d1 (fldD "sessions" ["Line"]) (dVar 0)))))) (sRet (dC (.bl false))) sNil)
    (sSeq (sIf (bOr (b2 neD (d1 (fldD "kind" ["Line"]) (dVar 0)) (dVar 1)) (bOr (b2 neD (d1 (fldD "gap" ["Line"]) (dVar 0)) (dVar 2)) (b2 neD (d1 (fldD "watermark" ["Line"]) (dVar 0)) (dVar 3)))) (sRet (dC (.bl false))) sNil)
    (sRet (dAnd (dN allN (aCons (dLc (iSeqB (d1 (fldD "sessions" ["Line"]) (dVar 0))) 5 [5] bYes e1__law_is_line) aNil)) (dBl (b2 eqD (dN listN (aCons (d1 (fldD "sessions" ["Line"]) (dVar 0)) aNil)) (dVar 4)))))))
def F__law_is_line : List D → Ou D := runF 6 g__law_is_line
def e1_Line_fresh : Env → Ou D := (dCall F_begins_fresh (aCons (dVar 1) (aCons (d1 (fldD "watermark" ["Line"]) (dVar 0)) aNil)))
def g_Line_fresh : Env → Os := (sRet (dN allN (aCons (dLc (iSeqB (d1 (fldD "sessions" ["Line"]) (dVar 0))) 1 [1] bYes e1_Line_fresh) aNil)))
def F_Line_fresh : List D → Ou D := runF 2 g_Line_fresh
def g_Line___add__ : Env → Os := (sSeq (sIf (bOr (b2 neD (d1 (fldD "kind" ["Line"]) (dVar 0)) (d1 (fldD "kind" ["Line"]) (dVar 1))) (bOr (b2 neD (d1 (fldD "gap" ["Line"]) (dVar 0)) (d1 (fldD "gap" ["Line"]) (dVar 1))) (b2 neD (d1 (fldD "watermark" ["Line"]) (dVar 0)) (d1 (fldD "watermark" ["Line"]) (dVar 1))))) (sRaise0 "OtherLine") sNil)
    (sSeq (sIf (bAnd (bNot (bTru (dProp "Line" F_Line_fresh (dVar 0)))) (bNot (bTru (dProp "Line" F_Line_fresh (dVar 1))))) (sRaise0 "NotFresh") sNil)
    (sSeq (sSet 2 (dCall F_joined_rows (aCons (d1 (fldD "kind" ["Line"]) (dVar 0)) (aCons (d1 (fldD "gap" ["Line"]) (dVar 0)) (aCons (d2 addD (d1 (fldD "sessions" ["Line"]) (dVar 0)) (d1 (fldD "sessions" ["Line"]) (dVar 1))) aNil)))))
    (sRet (dCall F_Line___init__ (aCons (d1 (fldD "kind" ["Line"]) (dVar 0)) (aCons (d1 (fldD "gap" ["Line"]) (dVar 0)) (aCons (d1 (fldD "watermark" ["Line"]) (dVar 0)) (aCons (dVar 2) aNil)))))))))
def F_Line___add__ : List D → Ou D := runF 3 g_Line___add__
def g_Line___eq__ : Env → Os := (sRet (dAnd (dIsiO isi_Line (dVar 1)) (dAnd (dBl (b2 eqD (d1 (fldD "kind" ["Line"]) (dVar 0)) (d1 (fldD "kind" ["Line"]) (dVar 1)))) (dAnd (dBl (b2 eqD (d1 (fldD "gap" ["Line"]) (dVar 0)) (d1 (fldD "gap" ["Line"]) (dVar 1)))) (dAnd (dBl (b2 eqD (d1 (fldD "watermark" ["Line"]) (dVar 0)) (d1 (fldD "watermark" ["Line"]) (dVar 1)))) (dBl (b2 eqD (d1 (fldD "sessions" ["Line"]) (dVar 0)) (d1 (fldD "sessions" ["Line"]) (dVar 1)))))))))
def F_Line___eq__ : List D → Ou D := runF 2 g_Line___eq__
def lineD (s : String) (g : Int) (wm : Option Int) (X : List Stt) : D := .ins "Line" ["kind", "gap", "watermark", "sessions"] [.str (Str.ofString s), .int g, Dm.d wm, .tup (Ds X)]
section
variable (s : String) (g : Int) (wm : Option Int) (X : List Stt)
theorem ln_fz : (lineD s g wm X).fz = true := by simp [lineD]
theorem ln_frz : (lineD s g wm X).frz = lineD s g wm X := frz_fz _ (ln_fz s g wm X)
theorem ln_cln : (lineD s g wm X).cln = true := by simp [lineD]
end
def leH (a b : List Ev) : Bool := decide ((hd0 a).1 ≤ (hd0 b).1)
def srtB (L : List (List Ev)) : List (List Ev) := L.mergeSort leH
end DL
namespace DL
open PySem hiding Env
open PySem.Spec PyProof.Rows L2
def b1__law_worked : Env → Os := (sSet 4 (dMeth "with_event" (mtF mt_with_event) (dVar 4) (aCons (d2 ixD (dVar 5) (dC (.int 0))) (aCons (d2 ixD (dVar 5) (dC (.int 1))) aNil))))
def g__law_worked : Env → Os := (sSeq (sSet 4 (dCm "Line" F_Line_empty [] (dC (.cls "Line")) (aCons (dVar 0) aNil) (aCons (dVar 2) aNil)))
    (sSeq (sIf (b2 notND (dVar 3) (dC .non)) (sSet 4 (dMeth "advanced" (mtF mt_advanced) (dVar 4) (aCons (dVar 3) aNil))) sNil)
    (sSeq (sFor (iSeq (dFz (dVar 1))) (tgN 5) b1__law_worked)
    (sRetV 4))))
def F__law_worked : List D → Ou D := runF 6 g__law_worked
end DL
namespace DL
open PySem hiding Env
open PySem.Spec PyProof.Rows L2
def e1__law_told : Env → Ou D := (dFz (d2 ixD (dVar 2) (dC (.int 1))))
def e2__law_told : Env → Ou D := (dTup (aCons (dFz (d2 ixD (dVar 1) (dC (.int 0)))) (aCons (dFz (d2 ixD (dVar 1) (dC (.int 1)))) (aCons (d2 addD (d2 ixD (dVar 1) (dC (.int 2))) (dN tupleN (aCons (dLc (iSeqB (d2 ixD (dVar 1) (dC (.int 3)))) 2 [2] bYes e1__law_told) aNil))) aNil))))
def g__law_told : Env → Os := (sRet (dLc (iSeqB (dVar 0)) 1 [1] bYes e2__law_told))
def F__law_told : List D → Ou D := runF 3 g__law_told
def g_told_row : Env → Os := (sRet (dTup (aCons (dFz (d2 ixD (dVar 0) (dC (.int 0)))) (aCons (dFz (d2 ixD (dVar 0) (dC (.int 1)))) (aCons (dCall F_value_of (aCons (dVar 0) aNil)) aNil)))))
def F_told_row : List D → Ou D := runF 1 g_told_row
def e1_Line_finals : Env → Ou D := (dCall F_told_row (aCons (dVar 2) aNil))
def g_Line_finals : Env → Os := (sRet (dLc (iSeqB (d1 (fldD "sessions" ["Line"]) (dVar 0))) 2 [2] (b2 ltD (d2 addD (d2 ixD (dVar 2) (dC (.int 1))) (d1 (fldD "gap" ["Line"]) (dVar 0))) (dVar 1)) e1_Line_finals))
def F_Line_finals : List D → Ou D := runF 3 g_Line_finals
def e1_Line_told : Env → Ou D := (dCall F_told_row (aCons (dVar 1) aNil))
def g_Line_told : Env → Os := (sRet (dLc (iSeqB (d1 (fldD "sessions" ["Line"]) (dVar 0))) 1 [1] bYes e1_Line_told))
def F_Line_told : List D → Ou D := runF 2 g_Line_told
def mt_finals : MTab := [("Line", F_Line_finals)]
def mt_told : MTab := [("Line", F_Line_told)]
def tellS (x : Stt) : Told := ⟨x.a, x.b, toldS x⟩
end DL
namespace DL
open PySem hiding Env
open PySem.Spec PyProof.Rows L2
def g__law_rules : Env → Os := (sSeq (sIf (b2 eqD (dVar 0) (dC (.str ("list" : Str)))) (sRet (dTup aNil)) sNil)
    (sSeq (sIf (b2 eqD (dVar 0) (dC (.str ("bag" : Str)))) (sRet (dTup (aCons (dC (.str ("12=21" : Str))) aNil))) sNil)
    (sSeq (sIf (b2 eqD (dVar 0) (dC (.str ("set" : Str)))) (sRet (dTup (aCons (dC (.str ("12=21" : Str))) (aCons (dC (.str ("11=1" : Str))) aNil)))) sNil)
    (sSeq (sIf (b2 eqD (dVar 0) (dC (.str ("first" : Str)))) (sRet (dTup (aCons (dC (.str ("12=1" : Str))) aNil))) sNil)
    (sSeq (sIf (b2 eqD (dVar 0) (dC (.str ("last" : Str)))) (sRet (dTup (aCons (dC (.str ("12=2" : Str))) aNil))) sNil)
    (sSeq (sIf (b2 eqD (dVar 0) (dC (.str ("ends" : Str)))) (sRet (dTup (aCons (dC (.str ("11=1" : Str))) (aCons (dC (.str ("123=13" : Str))) aNil)))) sNil)
    (sSeq (sIf (b2 eqD (dVar 0) (dC (.str ("heads" : Str)))) (sRet (dTup (aCons (dC (.str ("11=1" : Str))) (aCons (dC (.str ("121=12" : Str))) aNil)))) sNil)
    (sRet (dTup (aCons (dC (.str ("11=1" : Str))) (aCons (dC (.str ("121=21" : Str))) aNil)))))))))))
def F__law_rules : List D → Ou D := runF 1 g__law_rules
def g__law_changed : Env → Os := (sSeq (sIf (b2 eqD (dVar 2) (dC (.int 1))) (sRet (dN listN (aCons (dCall F__law_plain (aCons (dVar 0) (aCons (dVar 1) aNil))) aNil))) sNil)
    (sSeq (sIf (bAnd (b2 eqD (dVar 2) (dC (.int 2))) (b2 gtD (dVar 3) (dC (.int 0)))) (sRet (d2 addD (d2 addD (dSl (dVar 1) pNone (pSome (d2 subD (dVar 3) (dC (.int 1))))) (dLst (aCons (dFz (d2 ixD (dVar 1) (dVar 3))) (aCons (dFz (d2 ixD (dVar 1) (d2 subD (dVar 3) (dC (.int 1))))) aNil)))) (dSl (dVar 1) (pSome (d2 addD (dVar 3) (dC (.int 1)))) pNone))) sNil)
    (sSeq (sIf (b2 eqD (dVar 2) (dC (.int 3))) (sRet (d2 addD (d2 addD (dSl (dVar 1) pNone (pSome (dVar 3))) (dLst (aCons (dFz (d2 ixD (dVar 1) (dVar 3))) aNil))) (dSl (dVar 1) (pSome (dVar 3)) pNone))) sNil)
    (sSeq (sIf (bAnd (b2 eqD (dVar 2) (dC (.int 4))) (b2 gtD (dN lenN (aCons (dVar 1) aNil)) (dC (.int 1)))) (sRet (d2 addD (dSl (dVar 1) pNone (pSome (dVar 3))) (dSl (dVar 1) (pSome (d2 addD (dVar 3) (dC (.int 1)))) pNone))) sNil)
    (sRet (dN listN (aCons (dVar 1) aNil)))))))
def F__law_changed : List D → Ou D := runF 4 g__law_changed
def g_alike : Env → Os := (sSeq (sSet 3 (dCall F_kind_named (aCons (dVar 0) aNil)))
    (sRet (dBl (b2 eqD (dMeth "plain" (mtF mt_plain) (dVar 3) (aCons (dVar 1) aNil)) (dMeth "plain" (mtF mt_plain) (dVar 3) (aCons (dVar 2) aNil))))))
def F_alike : List D → Ou D := runF 4 g_alike
def rulesV (s : String) : List Str :=
  if s = "list" then [] else if s = "bag" then ["12=21"] else if s = "set" then ["12=21", "11=1"] else if s = "first" then ["12=1"] else if s = "last" then ["12=2"] else if s = "ends" then ["11=1", "123=13"] else if s = "heads" then ["11=1", "121=12"] else ["11=1", "121=21"]
end DL
namespace DL
open PySem hiding Env
open PySem.Spec PyProof.Rows L2
def e1__law_sides : Env → Ou D := (dN intTN (aCons (dVar 2) aNil))
def e2__law_sides : Env → Ou D := (dN intTN (aCons (dVar 2) aNil))
def g__law_sides : Env → Os := (sSeq (sSet 1 (dM1 splitD (dVar 0) (dC (.str ("=" : Str)))))
    (sRet (dLst (aCons (dLc (iAnyB (d2 ixD (dVar 1) (dC (.int 0)))) 2 [2] bYes e1__law_sides) (aCons (dLc (iAnyB (d2 ixD (dVar 1) (dC (.int 1)))) 2 [2] bYes e2__law_sides) aNil)))))
def F__law_sides : List D → Ou D := runF 3 g__law_sides
def b1__law_broken : Env → Os := (sSeq (sSet 3 (dCall F__law_sides (aCons (dVar 2) aNil)))
    (sIf (b2 neD (dCall F__law_plain (aCons (dVar 0) (aCons (d2 ixD (dVar 3) (dC (.int 0))) aNil))) (dCall F__law_plain (aCons (dVar 0) (aCons (d2 ixD (dVar 3) (dC (.int 1))) aNil)))) (sRetV 2) sNil))
def g__law_broken : Env → Os := (sSeq (sFor (iSeq (dCall F__law_rules (aCons (dVar 1) aNil))) (tgN 2) b1__law_broken)
    (sRet (dC .non)))
def F__law_broken : List D → Ou D := runF 4 g__law_broken
def e1_rule_words : Env → Ou D := (dN intTN (aCons (dVar 3) aNil))
def e2_rule_words : Env → Ou D := (dLc (iAnyB (dVar 2)) 3 [3] bYes e1_rule_words)
def g_rule_words : Env → Os := (sSeq (sSet 1 (dM1 splitD (dVar 0) (dC (.str ("=" : Str)))))
    (sRet (dLc (iSeqB (dVar 1)) 2 [2] bYes e2_rule_words)))
def F_rule_words : List D → Ou D := runF 4 g_rule_words
def con_RULES : KTab := [("Kind", .tup []), ("BagKind", .tup [("12=21" : Str)]), ("SetKind", .tup [("12=21" : Str), ("11=1" : Str)]), ("HeadsKind", .tup [("11=1" : Str), ("121=12" : Str)]), ("FirstKind", .tup [("12=1" : Str)]), ("TailsKind", .tup [("11=1" : Str), ("121=21" : Str)]), ("LastKind", .tup [("12=2" : Str)]), ("EndsKind", .tup [("11=1" : Str), ("123=13" : Str)])]
def b1_broken_rule : Env → Os := (sSeq (sUnp [5, 6] (dCall F_rule_words (aCons (dVar 4) aNil)))
    (sIf (b2 neD (dMeth "plain" (mtF mt_plain) (dVar 2) (aCons (dVar 5) aNil)) (dMeth "plain" (mtF mt_plain) (dVar 2) (aCons (dVar 6) aNil))) (sRetV 4) sNil))
def g_broken_rule : Env → Os := (sSeq (sSet 2 (dCall F_kind_named (aCons (dVar 0) aNil)))
    (sSeq (sSet 3 (dCall F_kind_named (aCons (dVar 1) aNil)))
    (sSeq (sFor (iSeq (dFz (dCon "RULES" con_RULES (dVar 3)))) (tgN 4) b1_broken_rule)
    (sRet (dC .non)))))
def F_broken_rule : List D → Ou D := runF 7 g_broken_rule
def g_under : Env → Os := (sRet (dBl (b2 isND (dCall F_broken_rule (aCons (dVar 0) (aCons (dVar 1) aNil))) (dC .non))))
def F_under : List D → Ou D := runF 2 g_under
def g__law_below : Env → Os := (sSeq (sIf (bOr (b2 eqD (dVar 0) (dVar 1)) (b2 eqD (dVar 1) (dC (.str ("list" : Str))))) (sRet (dC (.bl true))) sNil)
    (sSeq (sSet 2 (dLst (aCons (dTup (aCons (dC (.str ("set" : Str))) (aCons (dC (.str ("bag" : Str))) aNil))) (aCons (dTup (aCons (dC (.str ("set" : Str))) (aCons (dC (.str ("heads" : Str))) aNil))) (aCons (dTup (aCons (dC (.str ("set" : Str))) (aCons (dC (.str ("tails" : Str))) aNil))) (aCons (dTup (aCons (dC (.str ("first" : Str))) (aCons (dC (.str ("ends" : Str))) aNil))) (aCons (dTup (aCons (dC (.str ("first" : Str))) (aCons (dC (.str ("heads" : Str))) aNil))) (aCons (dTup (aCons (dC (.str ("last" : Str))) (aCons (dC (.str ("ends" : Str))) aNil))) aNil))))))))
    (sRet (dOr (dBl (b2 inD (dTup (aCons (dFz (dVar 0)) (aCons (dFz (dVar 1)) aNil))) (dVar 2))) (dBl (b2 eqD (dTup (aCons (dFz (dVar 0)) (aCons (dFz (dVar 1)) aNil))) (dTup (aCons (dC (.str ("last" : Str))) (aCons (dC (.str ("tails" : Str))) aNil)))))))))
def F__law_below : List D → Ou D := runF 3 g__law_below
def sidesN (t : Str) : List Nat × List Nat :=
  if t = "12=21" then ([0, 1], [1, 0]) else if t = "11=1" then ([0, 0], [0]) else if t = "12=1" then ([0, 1], [0]) else if t = "12=2" then ([0, 1], [1]) else if t = "123=13" then ([0, 1, 2], [0, 2]) else if t = "121=12" then ([0, 1, 0], [0, 1]) else ([0, 1, 0], [1, 0])
def putN (a b c : List Int) : List Nat → List Int
  | [] => []
  | 0 :: ns => a ++ putN a b c ns
  | 1 :: ns => b ++ putN a b c ns
  | _ :: ns => c ++ putN a b c ns
def allRules : List Str := ["12=21", "11=1", "12=1", "12=2", "123=13", "121=12", "121=21"]
def sideW (t : Str) : List Int × List Int := ((sidesN t).1.map fun n : Nat => (n : Int) + 1, (sidesN t).2.map fun n : Nat => (n : Int) + 1)
def breaks (s : String) (t : Str) : Bool := !decide (plV s (sideW t).1 = plV s (sideW t).2)
def brokenV (s s2 : String) : Option Str := (rulesV s2).find? (breaks s)
def oStr : Option Str → D
  | some t => .str t
  | none => .non
def belowB (s s2 : String) : Bool := decide (s = s2) || decide (s2 = "list") || decide ((s, s2) ∈ [("set", "bag"), ("set", "heads"), ("set", "tails"), ("first", "ends"), ("first", "heads"), ("last", "ends"), ("last", "tails")])
def kNames : List String := ["list", "bag", "set", "first", "last", "ends", "heads", "tails"]
def insI (x : Int) : List Int → List Int
  | [] => [x]
  | y :: ys => if x ≤ y then x :: y :: ys else y :: insI x ys
def isI : List Int → List Int
  | [] => []
  | x :: xs => insI x (isI xs)
def plC (s : String) (xs : List Int) : List Int :=
  if s = "list" then xs else if s = "bag" then isI xs else if s = "set" then (isI xs).foldl sStep [] else if s = "first" then xs.take 1 else if s = "last" then xs.drop (xs.length - 1) else if s = "ends" then xs.take 1 ++ xs.drop (xs.length - 1) else if s = "heads" then heads id xs else tails id xs
end DL
namespace DL
open PySem hiding Env
open PySem.Spec PyProof.Rows L2
def g_greater_time : Env → Os := (sSeq (sIf (bOr (b2 isND (dVar 0) (dC .non)) (bAnd (b2 notND (dVar 1) (dC .non)) (b2 gtD (dVar 1) (dVar 0)))) (sRetV 1) sNil)
    (sRetV 0))
def F_greater_time : List D → Ou D := runF 2 g_greater_time
def b1_parting_event : Env → Os := (sIf (b2 neD (d2 ixD (dVar 2) (dVar 4)) (d2 ixD (dVar 3) (dVar 4))) (sSeq (sSet 5 (dCall F_greater_time (aCons (d2 ixD (d2 ixD (dVar 2) (dVar 4)) (dC (.int 0))) (aCons (d2 ixD (d2 ixD (dVar 3) (dVar 4)) (dC (.int 0))) aNil))))
    (sFrz 5 (sRet (dTup (aCons (dFz (dVar 5)) (aCons (d2 subD (dN minN (aCons (dN listN (aCons (dCall F_value_of (aCons (dVar 0) aNil)) aNil)) aNil)) (dC (.int 1))) aNil)))))) sNil)
def g_parting_event : Env → Os := (sSeq (sSet 2 (dCall F_entries_of (aCons (dVar 0) aNil)))
    (sSeq (sSet 3 (dCall F_entries_of (aCons (dVar 1) aNil)))
    (sSeq (sFor (DL.iRng1 (aCons (dN lenN (aCons (dVar 2) aNil)) aNil)) (tgN 4) b1_parting_event)
    (sRet (dC .non)))))
def F_parting_event : List D → Ou D := runF 6 g_parting_event
def g_Line___len__ : Env → Os := (sRet (dN lenN (aCons (d1 (fldD "sessions" ["Line"]) (dVar 0)) aNil)))
def F_Line___len__ : List D → Ou D := runF 1 g_Line___len__
def e1_parting : Env → Ou D := (dFz (dVar 3))
def g_parting : Env → Os := (sSeq (sIf (bOr (b2 neD (d1 (fldD "kind" ["Line"]) (dVar 0)) (d1 (fldD "kind" ["Line"]) (dVar 1))) (b2 neD (d1 (fldD "gap" ["Line"]) (dVar 0)) (d1 (fldD "gap" ["Line"]) (dVar 1)))) (sRaise0 "OtherLine") sNil)
    (sSeq (sIf (bTru (dOp2 "Line" F_Line___eq__ (dVar 0) (dVar 1))) (sRet (dC .non)) sNil)
    (sSeq (sIf (b2 neD (dMeth "told" (mtF mt_told) (dVar 0) aNil) (dMeth "told" (mtF mt_told) (dVar 1) aNil)) (sRet (dLst aNil)) sNil)
    (sSeq (sIf (b2 neD (d1 (fldD "watermark" ["Line"]) (dVar 0)) (d1 (fldD "watermark" ["Line"]) (dVar 1))) (sRet (dLst (aCons (dTup (aCons (d2 subD (dCall F_greater_time (aCons (d1 (fldD "watermark" ["Line"]) (dVar 0)) (aCons (d1 (fldD "watermark" ["Line"]) (dVar 1)) aNil))) (dC (.int 1))) (aCons (dC (.int 0)) aNil))) aNil))) sNil)
    (sSeq (sSet 2 (dLc (DL.iRng1 (aCons (dLenO "Line" F_Line___len__ (dVar 0)) aNil)) 3 [3] (b2 neD (d2 ixD (d1 (fldD "sessions" ["Line"]) (dVar 0)) (dVar 3)) (d2 ixD (d1 (fldD "sessions" ["Line"]) (dVar 1)) (dVar 3))) e1_parting))
    (sRet (dLst (aCons (dCall F_parting_event (aCons (d2 ixD (d1 (fldD "sessions" ["Line"]) (dVar 0)) (d2 ixD (dVar 2) (dC (.int 0)))) (aCons (d2 ixD (d1 (fldD "sessions" ["Line"]) (dVar 1)) (d2 ixD (dVar 2) (dC (.int 0)))) aNil))) aNil))))))))
def F_parting : List D → Ou D := runF 4 g_parting
def g__law_later : Env → Os := (sSeq (sIf (b2 isND (dVar 0) (dC .non)) (sRetV 1) sNil)
    (sSeq (sIf (b2 isND (dVar 1) (dC .non)) (sRetV 0) sNil)
    (sRet (dN mxN (aCons (dVar 0) (aCons (dVar 1) aNil))))))
def F__law_later : List D → Ou D := runF 2 g__law_later
def hit_LateEvent : HTab := [("SessionError", false), ("BadNumber", false), ("BadKind", false), ("BadGap", false), ("NoHistory", false), ("TooMany", false), ("LateEvent", true), ("OtherLine", false), ("NotFresh", false), ("BadText", false)]
def b1__law_late : Env → Os := (sDrop (dMeth "with_event" (mtF mt_with_event) (dVar 0) (aCons (dVar 1) (aCons (dC (.int 0)) aNil))))
def b2__law_late (ns : List Str) (xs : List D) : Env → Os := (sSeq (sSet 3 (dLst (aCons (fldOf ns xs "time") (aCons (fldOf ns xs "watermark") aNil)))) sNil)
def g__law_late : Env → Os := (sSeq (sSet 3 (dC .non))
    (sSeq (sTry (hitF hit_LateEvent) b1__law_late (sAs 4 b2__law_late))
    (sRet (dAnd (dBl (b2 eqD (dVar 3) (dLst (aCons (dFz (dVar 1)) (aCons (dFz (dVar 2)) aNil))))) (dBl (b2 isBD (dMeth "lets_in" (mtF mt_lets_in) (dVar 0) (aCons (dVar 1) aNil)) (dC (.bl false))))))))
def F__law_late : List D → Ou D := runF 5 g__law_late
def grT : Option Int → Option Int → Option Int
  | none, b => b
  | some a, none => some a
  | some a, some b => some (max a b)
def fstP {α : Type} [DecidableEq α] (xs ys : List α) : Option (α × α) := (xs.zip ys).find? fun p => decide (p.1 ≠ p.2)
def pevS (x y : Stt) : Int × Int := ((match fstP (entriesS x) (entriesS y) with
  | some p => (grT p.1.1 p.2.1).getD 0
  | none => 0), minI (toldS x) - 1)
def partS (wm wm' : Option Int) (X X' : List Stt) : Option (List Ev) :=
  if wm = wm' ∧ X = X' then none else if X.map tellS ≠ X'.map tellS then some [] else if wm ≠ wm' then some [((grT wm wm').getD 0 - 1, 0)] else
    some [match fstP X X' with
      | some p => pevS p.1 p.2
      | none => (0, 0)]
def partD : Option (List Ev) → D
  | none => .non
  | some es => .lst true (E2 es)
def SttOk (x : Stt) : Prop := toldS x ≠ [] ∧ x.se.length + x.ti.length ≤ 900
@[simp] theorem x_fldOf2 (n m f : String) (x y : D) (ρ : Env) : fldOf [Str.ofString n, Str.ofString m] [x, y] (Str.ofString f) ρ = if f = n then .ok x else if f = m then .ok y else .bad := by
  unfold fldOf
  rw [List.zip_cons_cons, List.lookup_cons, List.zip_cons_cons, List.lookup_cons]
  by_cases h : f = n
  · subst h
    simp
  · have e : (Str.ofString f == Str.ofString n) = false := by simp [ofString_inj, h]
    by_cases h2 : f = m
    · subst h2
      simp [e, h]
    · have e2 : (Str.ofString f == Str.ofString m) = false := by simp [ofString_inj, h2]
      simp [e, e2, h, h2]
end DL
namespace DL
open PySem hiding Env
open PySem.Spec PyProof.Rows L2
def e1__law_all_sessions : Env → Ou D := (dFz (d2 ixD (dVar 5) (dC (.int 1))))
def b1__law_all_sessions : Env → Os := (sApp 3 (dTup (aCons (dFz (d2 ixD (d2 ixD (dVar 4) (dC (.int 0))) (dC (.int 0)))) (aCons (dFz (d2 ixD (d2 ixD (dVar 4) (d1 negD (dC (.int 1)))) (dC (.int 0)))) (aCons (dCall F__law_plain (aCons (dVar 0) (aCons (dLc (iSeqB (dVar 4)) 5 [5] bYes e1__law_all_sessions) aNil))) aNil)))))
def g__law_all_sessions : Env → Os := (sSeq (sSet 3 (dLst aNil))
    (sSeq (sFor (iSeq (dCall F__law_runs (aCons (dVar 1) (aCons (dVar 2) aNil)))) (tgN 4) b1__law_all_sessions)
    (sRetV 3)))
def F__law_all_sessions : List D → Ou D := runF 6 g__law_all_sessions
def runT (s : String) (r : List Ev) : Told := ⟨(hd0 r).1, (ls0 r).1, plV s (r.map (·.2))⟩
def allT (s : String) (g : Int) (P : List Ev) : List Told := (cutR g (srt P)).map (runT s)
def deadT (s : String) (g : Int) (wm : Option Int) (P : List Ev) : List Told := ((cutR g (srt P)).filter fun r => !liveB g wm r).map (runT s)
end DL
namespace DL
open PySem hiding Env
open PySem.Spec PyProof.Rows L2
noncomputable section
def b1_is_key : Env → Os := (sIf (b2 notInD (dVar 1) (dC (.str ("abcdefghijklmnopqrstuvwxyz" : Str)))) (sRet (dC (.bl false))) sNil)
def g_is_key : Env → Os := (sSeq (sFor (iAny (dFz (dVar 0))) (tgN 1) b1_is_key)
    (sRet (dAnd (dBl (b2 neD (dVar 0) (dC (.str ("" : Str))))) (dBl (b2 leD (dN lenN (aCons (dVar 0) aNil)) (dC (.int 20)))))))
def F_is_key : List D → Ou D := runF 2 g_is_key
def g_check_key : Env → Os := (sIf (bNot (bTru (dCall F_is_key (aCons (dVar 0) aNil)))) (sRaise "BadKey" ["key"] (aCons (dVar 0) aNil)) sNil)
def F_check_key : List D → Ou D := runF 1 g_check_key
def g_Engine_gap_of : Env → Os := (sRet (dFz (dGet2 (d1 (fldD "_gaps" ["Engine"]) (dVar 0)) (dVar 1) (d1 (fldD "_gap" ["Engine"]) (dVar 0)))))
def F_Engine_gap_of : List D → Ou D := runF 2 g_Engine_gap_of
def mt_gap_of : MTab := [("Engine", F_Engine_gap_of)]
def g_Engine_line : Env → Os := (sSeq (sDrop (dCall F_check_key (aCons (dVar 1) aNil)))
    (sSeq (sIf (b2 dkinD (dVar 1) (d1 (fldD "_lines" ["Engine"]) (dVar 0))) (sRet (dFz (d2 dgetD (d1 (fldD "_lines" ["Engine"]) (dVar 0)) (dVar 1)))) sNil)
    (sSeq (sSet 2 (dCm "Line" F_Line_empty [] (dC (.cls "Line")) (aCons (d1 (fldD "kind" ["Engine"]) (dVar 0)) aNil) (aCons (dMeth "gap_of" (mtF mt_gap_of) (dVar 0) (aCons (dVar 1) aNil)) aNil)))
    (sSeq (sIf (b2 notND (d1 (fldD "watermark" ["Engine"]) (dVar 0)) (dC .non)) (sSet 2 (dMeth "advanced" (mtF mt_advanced) (dVar 2) (aCons (d1 (fldD "watermark" ["Engine"]) (dVar 0)) aNil))) sNil)
    (sRetV 2)))))
def F_Engine_line : List D → Ou D := runF 3 g_Engine_line
def e1_difference : Env → Ou D := (dFz (dVar 4))
def e2_difference : Env → Ou D := (dFz (dVar 4))
def g_difference : Env → Os := (sSeq (sSet 2 (dLc (iSeqB (dVar 0)) 4 [4] (b2 notInD (dVar 4) (dVar 1)) e1_difference))
    (sSeq (sSet 3 (dLc (iSeqB (dVar 1)) 4 [4] (b2 notInD (dVar 4) (dVar 0)) e2_difference))
    (sRet (dTup (aCons (dN sortN (aCons (dVar 2) aNil)) (aCons (dN sortN (aCons (dVar 3) aNil)) aNil))))))
def F_difference : List D → Ou D := runF 5 g_difference
def e1_keyed : Env → Ou D := (dTup (aCons (dFz (dVar 0)) (aCons (dFz (d2 ixD (dVar 2) (dC (.int 0)))) (aCons (dFz (d2 ixD (dVar 2) (dC (.int 1)))) (aCons (dFz (d2 ixD (dVar 2) (dC (.int 2)))) aNil)))))
def g_keyed : Env → Os := (sRet (dLc (iSeqB (dVar 1)) 2 [2] bYes e1_keyed))
def F_keyed : List D → Ou D := runF 3 g_keyed
def g_Engine_check_going : Env → Os := (sIf (bTru (d1 (fldD "finished" ["Engine"]) (dVar 0))) (sRaise0 "Finished") sNil)
def F_Engine_check_going : List D → Ou D := runF 1 g_Engine_check_going
def mt_check_going : MTab := [("Engine", F_Engine_check_going)]
def mt_line : MTab := [("Engine", F_Engine_line)]
def e1_Engine_event : Env → Ou D := (d2 addD (dTup (aCons (dC (.str ("retract" : Str))) aNil)) (dVar 8))
def e2_Engine_event : Env → Ou D := (d2 addD (dTup (aCons (dC (.str ("tell" : Str))) aNil)) (dVar 8))
def g_Engine_event : Env → Os := (sSeq (sDrop (dSnap (dMeth "check_going" (mtF mt_check_going) (dVar 0) aNil)))
    (sSeq (sSet 4 (dSnap (dMeth "line" (mtF mt_line) (dVar 0) (aCons (dVar 1) aNil))))
    (sSeq (sIf (bNot (bTru (dMeth "lets_in" (mtF mt_lets_in) (dVar 4) (aCons (dVar 2) aNil)))) (sRetM [true, false, false, false] (dLst (aCons (dTup (aCons (dC (.str ("late" : Str))) (aCons (dFz (dVar 1)) (aCons (dFz (dVar 2)) (aCons (dFz (dVar 3)) aNil))))) aNil))) sNil)
    (sSeq (sSet 5 (dMeth "with_event" (mtF mt_with_event) (dVar 4) (aCons (dVar 2) (aCons (dVar 3) aNil))))
    (sSeq (sPutF "Engine" "_lines" 0 (dVar 1) (dFz (dVar 5)))
    (sSeq (sTup [6, 7] (dCall F_difference (aCons (dCall F_keyed (aCons (dVar 1) (aCons (dMeth "told" (mtF mt_told) (dVar 4) aNil) aNil))) (aCons (dCall F_keyed (aCons (dVar 1) (aCons (dMeth "told" (mtF mt_told) (dVar 5) aNil) aNil))) aNil))))
    (sRetM [true, false, false, false] (d2 addD (dLc (iSeqB (dVar 6)) 8 [8] bYes e1_Engine_event) (dLc (iSeqB (dVar 7)) 8 [8] bYes e2_Engine_event)))))))))
def F_Engine_event : List D → Ou D := runM 9 [true, false, false, false] g_Engine_event
def b1_Engine_told : Env → Os := (sExt 1 (dCall F_keyed (aCons (dVar 2) (aCons (dMeth "told" (mtF mt_told) (d2 dgetD (d1 (fldD "_lines" ["Engine"]) (dVar 0)) (dVar 2)) aNil) aNil))))
def g_Engine_told : Env → Os := (sSeq (sSet 1 (dLst aNil))
    (sSeq (sFor (iSeq (dN sortN (aCons (dN keysD (aCons (d1 (fldD "_lines" ["Engine"]) (dVar 0)) aNil)) aNil))) (tgN 2) b1_Engine_told)
    (sRetV 1)))
def F_Engine_told : List D → Ou D := runF 3 g_Engine_told
def mt_told_2 : MTab := [("Engine", F_Engine_told)]
def e1_Engine_advance : Env → Ou D := (d2 addD (dTup (aCons (dC (.str ("final" : Str))) aNil)) (dVar 5))
def b1_Engine_advance : Env → Os := (sSeq (sSet 4 (dSnap (dFz (d2 dgetD (d1 (fldD "_lines" ["Engine"]) (dVar 0)) (dVar 3)))))
    (sSeq (sExt 2 (dLc (iSeqB (dCall F_keyed (aCons (dVar 3) (aCons (dMeth "finals" (mtF mt_finals) (dVar 4) (aCons (dVar 1) aNil)) aNil)))) 5 [5] bYes e1_Engine_advance))
    (sPutF "Engine" "_lines" 0 (dVar 3) (dMeth "advanced" (mtF mt_advanced) (dVar 4) (aCons (dVar 1) aNil)))))
def g_Engine_advance : Env → Os := (sSeq (sDrop (dSnap (dMeth "check_going" (mtF mt_check_going) (dVar 0) aNil)))
    (sSeq (sIf (bSnap (bAnd (b2 notND (d1 (fldD "watermark" ["Engine"]) (dVar 0)) (dC .non)) (b2 leD (dVar 1) (d1 (fldD "watermark" ["Engine"]) (dVar 0))))) (sRetM [true, false] (dLst aNil)) sNil)
    (sSeq (sSet 2 (dLst aNil))
    (sSeq (sFor (iSeq (dSnap (dN sortN (aCons (dN keysD (aCons (d1 (fldD "_lines" ["Engine"]) (dVar 0)) aNil)) aNil)))) (tgN 3) b1_Engine_advance)
    (sSeq (sFldO "Engine" "watermark" 0 (dFz (dVar 1)))
    (sRetVM [true, false] 2))))))
def F_Engine_advance : List D → Ou D := runM 6 [true, false] g_Engine_advance
def h_Engine___init__ : Env → Os := (sSeq (sFldO "Engine" "watermark" 0 (dC .non))
    (sSeq (sFldO "Engine" "finished" 0 (dC (.bl false)))
    (sSeq (sFldO "Engine" "_gap" 0 (dFz (dVar 2)))
    (sSeq (sFldO "Engine" "_gaps" 0 (dDc (iLok (dVar 3)) 5 [5] (bTru (dCall F_is_key (aCons (dVar 5) aNil))) (dVar 5) (d2 dgetD (dVar 3) (dVar 5))))
    (sFldO "Engine" "_lines" 0 (dC (.dct true [] [])))))))
def e1_Engine___init__ : Env → Ou D := (dFz (d2 dgetD (dVar 3) (dVar 5)))
def b1_Engine___init__ : Env → Os := (sIf (b2 ltD (dVar 4) (dC (.int 1))) (sRaise "BadGap" ["gap"] (aCons (dVar 4) aNil)) sNil)
def g_Engine___init__ : Addr → Env → Ou D := (nPre (sDrop (dCall F_kind_named (aCons (dVar 1) aNil))) (nPre (sFor (iSeq (d2 addD (dLst (aCons (dFz (dVar 2)) aNil)) (dLc (iLok (dVar 3)) 5 [5] bYes e1_Engine___init__))) (tgN 4) b1_Engine___init__) (nFld "Engine" "kind" (dFz (dVar 1)) h_Engine___init__)))
@[simp] theorem x_dGet2 (ρ : Env) (f g h : Env → Ou D) : dGet2 f g h ρ = (f ρ >>= fun x => if (dctP x).isSome then (g ρ >>= fun y => h ρ >>= fun z => ofO (dgdD x y z)) else .bad) := (rfl)
@[simp] theorem x_iLok (ρ : Env) (f : Env → Ou D) : iLok f ρ = (f ρ >>= fun d => match d with
  | .lok ks _ => .ok (ks.map dKey)
  | _ => .bad) := (rfl)
@[simp] theorem x_dDc (ρ : Env) (fi : Env → Ou (List D)) (j : Nat) (vs : List Nat) (tt : Env → Ou Bool) (tk te : Env → Ou D) : dDc fi j vs tt tk te ρ = (fi ρ >>= fun ds => ofO ((compD j tt tk te (wipeE ρ vs) ds [] []).map fun p => D.dct true p.1 p.2)) := (rfl)
@[simp] theorem x_sPutF (ρ : Env) (c fl : Str) (i : Nat) (gk ge : Env → Ou D) : sPutF c fl i gk ge ρ = ofU (ge ρ) ρ fun d => putFO c fl i gk ρ d := (rfl)
@[simp] theorem frz_dct (ks : List L2.Key) (xs : List D) : (D.dct true ks xs).frz = .dct false ks (D.frzs xs) := by rw [D.frz]
@[simp] theorem dctP_dct (o : Bool) (ks : List L2.Key) (xs : List D) : dctP (.dct o ks xs) = some (ks, xs) := (rfl)
@[simp] theorem dctP_lok (ks : List L2.Key) (xs : List D) : dctP (.lok ks xs) = some (ks, xs) := (rfl)
instance : Dm Ks where
  d k := .str k.s
  dep := 0
  fz _ := rfl
  cln _ := rfl
  okd k := by
    show PyData.strOk k.s = true
    exact k.ok
  eqv a b := by
    simp only [D.py, PyData.eqv, beq_iff_eq]
    exact ⟨fun h => Ks.ext h, fun h => by rw [h]⟩
instance : Sb Ks where
  al a b := rfl
  tp := .inr fun a => rfl
def gOf (gs : List (Str × Int)) (g : Int) (k : Str) : Int := (gs.lookup k).getD g
abbrev eNs : List Str := ["kind", "watermark", "finished", "_gap", "_gaps", "_lines"]
structure EnS where
  s : String
  b : Bool
  wm : Option Int
  fin : Bool
  g : Int
  gs : List (Str × Int)
  ls : List (Ks × List Ev)
def EnS.gp (E : EnS) (k : Ks) : Int := gOf E.gs E.g k.s
def EnS.rows (E : EnS) (k : Ks) (P : List Ev) : List Stt := rowsS E.s E.b (E.gp k) E.wm P
def EnS.ln (E : EnS) (e : Ks × List Ev) : D := lineD E.s (E.gp e.1) E.wm (E.rows e.1 e.2)
def EnS.ks (E : EnS) : List L2.Key := E.ls.map fun e => .inr e.1.s
def EnS.gks (E : EnS) : List L2.Key := E.gs.map fun e => .inr e.1
def EnS.gvs (E : EnS) : List D := Ds (E.gs.map fun e => e.2)
def EnS.lv (E : EnS) : List D := E.ls.map E.ln
def EnS.own (E : EnS) (oa : Option Addr) : D := .own oa "Engine" ["kind", "watermark", "finished", "_gap", "_gaps", "_lines"] [.str (Str.ofString E.s), Dm.d E.wm, .bl E.fin, .int E.g, .dct true E.gks E.gvs, .dct true E.ks E.lv]
def EnS.f (E : EnS) : D := .ins "Engine" ["kind", "watermark", "finished", "_gap", "_gaps", "_lines"] [.str (Str.ofString E.s), Dm.d E.wm, .bl E.fin, .int E.g, .dct false E.gks E.gvs, .dct false E.ks E.lv]
theorem lv_frzs (E : EnS) : D.frzs E.lv = E.lv := by
  unfold EnS.lv
  generalize E.ls = L
  induction L with
  | nil => rfl
  | cons e L ih => rw [List.map_cons, D.frzs, ih]; rw [show (E.ln e).frz = E.ln e from ln_frz _ _ _ _]
theorem lv_clns (E : EnS) : D.clns E.lv = true := by
  unfold EnS.lv
  generalize E.ls = L
  induction L with
  | nil => rfl
  | cons e L ih => rw [List.map_cons, D.clns, ih]; rw [show (E.ln e).cln = true from ln_cln _ _ _ _]; rfl
@[simp] theorem en_frz (E : EnS) (oa : Option Addr) : (E.own oa).frz = E.f := by
  unfold EnS.own EnS.f
  simp [lv_frzs, EnS.gvs, Ds_frzs]
@[simp] theorem en_cln (E : EnS) (oa : Option Addr) : (E.own oa).cln = true := by
  unfold EnS.own
  rw [cln_own]
  show (true && ((Dm.d E.wm : D).cln && (true && (true && ((true && D.clns E.gvs) && ((true && D.clns E.lv) && true)))))) = true
  rw [lv_clns, Dm.cln, EnS.gvs, Ds_clns]; rfl
@[simp] theorem enf_frz (E : EnS) : E.f.frz = E.f := rfl
@[simp] theorem enf_fz (E : EnS) : E.f.fz = true := rfl
section
variable (E : EnS)
end
def EnS.ev (E : EnS) (k : Ks) : List Ev := match E.ls.find? fun e => decide (e.1 = k) with
  | some e => e.2
  | none => []
theorem cl1 (c : Str) : (D.cls c).fz = true := rfl
theorem cl2 (c : Str) : (D.cls c).frz = .cls c := rfl
def keyS (k : Ks) (t : Told) : Sn := ⟨k, t.a, t.b, t.w⟩
theorem difference_ok (o o2 : Bool) (X Y : List Sn) (hx : X.length ≤ 100000) (hy : Y.length ≤ 100000) :
    F_difference [.lst o (Ds X), .lst o2 (Ds Y)] = .ok (.tup [.lst true (Ds (srtD (X.filter fun x => !decide (x ∈ Y)))), .lst true (Ds (srtD (Y.filter fun x => !decide (x ∈ X))))]) := by
  have hd : Dm.dep Sn ≤ 19 := by decide
  have sX : seqOfB (.lst o (Ds X)) = .ok (Ds X) := seqOfB_Ds o X
  have sY : seqOfB (.lst o2 (Ds Y)) = .ok (Ds Y) := seqOfB_Ds o2 Y
  have f1 : ∀ {te : Env → Ou D} (a2 a3 : Option D), (∀ (d : D), te [some (.lst o (Ds X)), some (.lst o2 (Ds Y)), a2, a3, some d] = (if d.fz then .ok d else .bad)) → compG 4 (b2 notInD (dVar 4) (dVar 1)) te [some (.lst o (Ds X)), some (.lst o2 (Ds Y)), a2, a3, none] (Ds X) [] = some (Ds (X.filter fun x => !decide (x ∈ Y))) := fun {te} a2 a3 ht => by
    have := comp_filterE (j := 4) (tt := b2 notInD (dVar 4) (dVar 1)) (te := te) (ρ := [some (.lst o (Ds X)), some (.lst o2 (Ds Y)), a2, a3, none]) (by simp) Dm.d (fun x : Sn => !decide (x ∈ Y)) Dm.d X [] (fun x hx => by
      simp [notInD_Ds hd]) (fun x hx _ => by
      have z : (Dm.d x : D).fz = true := Dm.fz x
      show te [some (.lst o (Ds X)), some (.lst o2 (Ds Y)), a2, a3, some (Dm.d x)] = _
      rw [ht, z]; rfl) (by simp; omega)
    exact this.trans (by simp [Ds])
  have f2 : ∀ {te : Env → Ou D} (a2 a3 : Option D), (∀ (d : D), te [some (.lst o (Ds X)), some (.lst o2 (Ds Y)), a2, a3, some d] = (if d.fz then .ok d else .bad)) → compG 4 (b2 notInD (dVar 4) (dVar 0)) te [some (.lst o (Ds X)), some (.lst o2 (Ds Y)), a2, a3, none] (Ds Y) [] = some (Ds (Y.filter fun x => !decide (x ∈ X))) := fun {te} a2 a3 ht => by
    have := comp_filterE (j := 4) (tt := b2 notInD (dVar 4) (dVar 0)) (te := te) (ρ := [some (.lst o (Ds X)), some (.lst o2 (Ds Y)), a2, a3, none]) (by simp) Dm.d (fun x : Sn => !decide (x ∈ X)) Dm.d Y [] (fun x hx => by
      simp [notInD_Ds hd]) (fun x hx _ => by
      have z : (Dm.d x : D).fz = true := Dm.fz x
      show te [some (.lst o (Ds X)), some (.lst o2 (Ds Y)), a2, a3, some (Dm.d x)] = _
      rw [ht, z]; rfl) (by simp; omega)
    exact this.trans (by simp [Ds])
  have t1 : ∀ (a2 a3 : Option D) (d : D), e1_difference [some (.lst o (Ds X)), some (.lst o2 (Ds Y)), a2, a3, some d] = (if d.fz then .ok d else .bad) := fun a2 a3 d => by
    simp only [e1_difference]
    show (if d.fz = true then _ else _) = _
    by_cases c : d.fz = true
    · rw [if_pos c]
    · rw [if_neg c]
  have t2 : ∀ (a2 a3 : Option D) (d : D), e2_difference [some (.lst o (Ds X)), some (.lst o2 (Ds Y)), a2, a3, some d] = (if d.fz then .ok d else .bad) := fun a2 a3 d => by
    simp only [e2_difference]
    show (if d.fz = true then _ else _) = _
    by_cases c : d.fz = true
    · rw [if_pos c]
    · rw [if_neg c]
  have l1 : (X.filter fun x => !decide (x ∈ Y)).length ≤ 1000000 := Nat.le_trans (List.length_filter_le _ _) (by omega)
  have l2 : (Y.filter fun x => !decide (x ∈ X)).length ≤ 1000000 := Nat.le_trans (List.length_filter_le _ _) (by omega)
  have F1 := fun a2 a3 => f1 a2 a3 (t1 a2 a3)
  have F2 := fun a2 a3 => f2 a2 a3 (t2 a2 a3)
  simp [F_difference, g_difference, runF, sX, sY, wipeE, F1, F2, LIM, sortN_dm (show Dm.dep Sn ≤ 20 by decide) _ _ l1, sortN_dm (show Dm.dep Sn ≤ 20 by decide) _ _ l2]
def EnS.tell (E : EnS) (k : Ks) : List Sn := ((E.rows k (E.ev k)).map tellS).map (keyS k)
def EnS.keys (E : EnS) : List Ks := srtD (E.ls.map fun e => e.1)
def EnS.told (E : EnS) : List Sn := E.keys.flatMap E.tell
def EnS.put (E : EnS) (k : Ks) (P : List Ev) : EnS := { E with ls := if E.ls.any (fun e => decide (e.1 = k)) then E.ls.map (fun e => if e.1 = k then (k, P) else e) else E.ls ++ [(k, P)] }
theorem say_add (x : Sg) (s : Sn) : addD (.tup [.str x.s]) (Dm.d s) = some (Dm.d (Wd.say x s)) := by
  rw [d_sn, d_say]
  show (if (D.fzs [.str x.s] && D.fzs [.str s.k.s, .int s.f, .int s.l, .tup (Ds s.w)] && _) = true then _ else _) = _
  rw [if_pos]
  · rfl
  · have : D.fzs [.str s.k.s, .int s.f, .int s.l, .tup (Ds s.w)] = true := by show (true && (true && (true && (D.fzs (Ds s.w) && true)))) = true; rw [Ds_fzs]; rfl
    rw [this]
    show (true && true && decide (1 + 4 ≤ LIM)) = true
    decide
def evW (k : Ks) (A B : List Sn) : List Wd := (srtD (A.filter fun x => !decide (x ∈ B))).map (Wd.say .retract) ++ (srtD (B.filter fun x => !decide (x ∈ A))).map (Wd.say .tell)
def EnS.ownH (E : EnS) (oa : Option Addr) (wm : Option Int) (h : Ks × List Ev → D) : D := .own oa "Engine" ["kind", "watermark", "finished", "_gap", "_gaps", "_lines"] [.str (Str.ofString E.s), Dm.d wm, .bl E.fin, .int E.g, .dct true E.gks E.gvs, .dct true E.ks (E.ls.map h)]
def EnS.fH (E : EnS) (wm : Option Int) (h : Ks × List Ev → D) : D := .ins "Engine" ["kind", "watermark", "finished", "_gap", "_gaps", "_lines"] [.str (Str.ofString E.s), Dm.d wm, .bl E.fin, .int E.g, .dct false E.gks E.gvs, .dct false E.ks (E.ls.map h)]
def EnS.endK (E : EnS) (t : Int) (k : Ks) : List Sn := (((E.rows k (E.ev k)).filter fun x => decide (x.b + E.gp k < t)).map tellS).map (keyS k)
def EnS.ends (E : EnS) (t : Int) : List Sn := E.keys.flatMap (E.endK t)
def EnS.adv (E : EnS) (t : Int) : EnS := { E with wm := some t }
def advH (E : EnS) (t : Int) (h : Ks × List Ev → D) (ks : List Ks) : Ks × List Ev → D := fun e => if e.1 ∈ ks then (E.adv t).ln e else h e
def gLok (xs : List (Str × Int)) : D := .lok (xs.map fun e => .inr e.1) (Ds (xs.map fun e => e.2))
def newE (s : String) (b : Bool) (g : Int) (gs : List (Str × Int)) : EnS := ⟨s, b, none, false, g, gs, []⟩
def EnS.evR (E : EnS) (k : Ks) (t v : Int) : List Wd × EnS := if isOld E.wm t then ([Wd.late k t v], E) else (evW k (E.tell k) ((E.put k (E.ev k ++ [(t, v)])).tell k), E.put k (E.ev k ++ [(t, v)]))
def EnS.adR (E : EnS) (t : Int) : List Wd × EnS := if (match E.wm with | some w => decide (t ≤ w) | none => false) then ([], E) else ((E.ends t).map (Wd.say .final), E.adv t)
theorem srtD_id {α : Type} [Dm α] [Sb α] {xs : List α} (h : xs.Pairwise fun a b => leM a b = true) : srtD xs = xs :=
  List.Perm.eq_of_pairwise (le := fun a b => leM a b = true) (fun a b _ _ h1 h2 => leM_anti a b h1 h2) (srtD_pw xs) h (srtD_perm xs)
def toldT (s : String) (b : Bool) (g : Int) (wm : Option Int) (P : List Ev) : List Told := (rowsS s b g wm P).map tellS
end
end DL
namespace DL
open PySem hiding Env
open PySem.Spec PyProof.Rows L2
noncomputable section
def g_Board_rows : Env → Os := (sRet (dN listN (aCons (d1 (fldD "_rows" ["Board"]) (dVar 0)) aNil)))
def F_Board_rows : List D → Ou D := runF 1 g_Board_rows
def g_Board_ended : Env → Os := (sRet (dN listN (aCons (d1 (fldD "_ended" ["Board"]) (dVar 0)) aNil)))
def F_Board_ended : List D → Ou D := runF 1 g_Board_ended
def g_Board___len__ : Env → Os := (sRet (dN lenN (aCons (d1 (fldD "_rows" ["Board"]) (dVar 0)) aNil)))
def F_Board___len__ : List D → Ou D := runF 1 g_Board___len__
def g_Board_span : Env → Os := (sRet (dFz (d1 (fldD "_span" ["Board"]) (dVar 0))))
def F_Board_span : List D → Ou D := runF 1 g_Board_span
def g_Board___contains__ : Env → Os := (sRet (dBl (b2 inD (dVar 1) (d1 (fldD "_rows" ["Board"]) (dVar 0)))))
def F_Board___contains__ : List D → Ou D := runF 2 g_Board___contains__
def g_span_of : Env → Os := (sRet (d2 subD (d2 ixD (dVar 0) (dC (.int 2))) (d2 ixD (dVar 0) (dC (.int 1)))))
def F_span_of : List D → Ou D := runF 1 g_span_of
def b1_Board_take : Env → Os := (sSeq (sSet 7 (dSl (dVar 6) (pSome (dC (.int 1))) pNone))
    (sIf (b2 eqD (d2 ixD (dVar 6) (dC (.int 0))) (dC (.str ("late" : Str)))) (sAug 4 iaddD (dC (.int 1))) (sIf (b2 eqD (d2 ixD (dVar 6) (dC (.int 0))) (dC (.str ("tell" : Str)))) (sSeq (sIf (b2 inD (dVar 7) (dVar 2)) (sRaise "StandsAlready" ["session"] (aCons (dVar 7) aNil)) sNil)
    (sFrz 7 (sSeq (sApp 2 (dFz (dVar 7)))
    (sAug 5 iaddD (dCall F_span_of (aCons (dVar 7) aNil)))))) (sSeq (sIf (b2 notInD (dVar 7) (dVar 2)) (sRaise "NotStanding" ["session"] (aCons (dVar 7) aNil)) sNil)
    (sFrz 7 (sSeq (sRem 2 (dFz (dVar 7)))
    (sSeq (sAug 5 subD (dCall F_span_of (aCons (dVar 7) aNil)))
    (sIf (b2 eqD (d2 ixD (dVar 6) (dC (.int 0))) (dC (.str ("final" : Str)))) (sFrz 7 (sApp 3 (dFz (dVar 7)))) sNil))))))))
def g_Board_take : Env → Os := (sSeq (sSet 2 (dSnap (dN listN (aCons (d1 (fldD "_rows" ["Board"]) (dVar 0)) aNil))))
    (sSeq (sSet 3 (dSnap (dN listN (aCons (d1 (fldD "_ended" ["Board"]) (dVar 0)) aNil))))
    (sSeq (sSet 4 (dC (.int 0)))
    (sSeq (sSet 5 (dSnap (dFz (d1 (fldD "_span" ["Board"]) (dVar 0)))))
    (sSeq (sFor (iSeq (dFz (dVar 1))) (tgN 6) b1_Board_take)
    (sSeq (sFldA "Board" "late" 0 (· + ·) (dVar 4))
    (sSeq (sFldO "Board" "_rows" 0 (dN sortN (aCons (dVar 2) aNil)))
    (sSeq (sFldV "Board" "_ended" 0 3)
    (sFldO "Board" "_span" 0 (dFz (dVar 5)))))))))))
def F_Board_take : List D → Ou D := runM 8 [true, false] g_Board_take
def g_Board___iadd__ : Env → Os := (sSeq (sDropM (dMethM "Board" "take" [true, false] F_Board_take [0] (aCons (dFz (dVar 1)) aNil)))
    (sRetSelf [true, false] 0))
def F_Board___iadd__ : List D → Ou D := runM 2 [true, false] g_Board___iadd__
def h_Board___init__ : Env → Os := (sSeq (sFldO "Board" "_rows" 0 (dLst aNil))
    (sSeq (sFldO "Board" "_ended" 0 (dLst aNil))
    (sFldO "Board" "_span" 0 (dC (.int 0)))))
def g_Board___init__ : Addr → Env → Ou D := (nFld "Board" "late" (dC (.int 0)) h_Board___init__)
def F_Board___init__ : Addr → List D → Ou D := runO 1 g_Board___init__
def bNs : List Str := ["late", "_rows", "_ended", "_span"]
def bd (oa : Option Addr) (late : Int) (R E : List Sn) (span : Int) : D := .own oa "Board" ["late", "_rows", "_ended", "_span"] [.int late, .lst true (Ds R), .lst true (Ds E), .int span]
def bf (late : Int) (R E : List Sn) (span : Int) : D := .ins "Board" ["late", "_rows", "_ended", "_span"] [.int late, .lst false (Ds R), .lst false (Ds E), .int span]
@[simp] theorem bd_frz (oa : Option Addr) (late : Int) (R E : List Sn) (span : Int) : (bd oa late R E span).frz = bf late R E span := by
  unfold bd bf
  simp
@[simp] theorem bd_cln (oa : Option Addr) (late : Int) (R E : List Sn) (span : Int) : (bd oa late R E span).cln = true := by
  unfold bd
  rw [cln_own]
  show (true && (D.clns (Ds R) && (D.clns (Ds E) && (true && true)))) = true
  rw [Ds_clns, Ds_clns]; rfl
@[simp] theorem bf_frz (late : Int) (R E : List Sn) (span : Int) : (bf late R E span).frz = bf late R E span := rfl
@[simp] theorem bf_fz (late : Int) (R E : List Sn) (span : Int) : (bf late R E span).fz = true := rfl
section
variable (late : Int) (R E : List Sn) (span : Int)
end
inductive TR where
  | ok (R E : List Sn) (late span : Int)
  | stands (s : Sn)
  | not (s : Sn)
def takeR : List Wd → List Sn → List Sn → Int → Int → TR
  | [], R, E, l, p => .ok R E l p
  | .late _ _ _ :: ws, R, E, l, p => takeR ws R E (l + 1) p
  | .say x s :: ws, R, E, l, p => if x = .tell then (if s ∈ R then .stands s else takeR ws (R ++ [s]) E l (p + (s.l - s.f)))
    else if s ∈ R then takeR ws (R.erase s) (if x = .final then E ++ [s] else E) l (p - (s.l - s.f)) else .not s
def sesOf : Wd → D
  | .late k t v => .tup [.str k.s, .int t, .int v]
  | .say _ s => Dm.d s
theorem sl_w (w : Wd) : slD (Dm.d w) (some 1) none = some (sesOf w) := by
  cases w with
  | late k t v => rfl
  | say x s =>
    show (if D.fzs [.str x.s, .str s.k.s, .int s.f, .int s.l, .tup (Ds s.w)] = true then _ else _) = _
    rw [if_pos (by show (true && (true && (true && (true && (D.fzs (Ds s.w) && true))))) = true; rw [Ds_fzs]; rfl)]
    rfl
@[simp] theorem ses_fz (w : Wd) : (sesOf w).fz = true := by
  cases w with
  | late k t v => rfl
  | say x s => exact Dm.fz s
@[simp] theorem ses_cln (w : Wd) : (sesOf w).cln = true := by
  cases w with
  | late k t v => rfl
  | say x s => exact Dm.cln s
theorem sg_tell (x : Sg) : eqD (.str x.s) (.str "tell") = some (decide (x = .tell)) := by cases x <;> decide +kernel
def endT (a0 a1 o6 o7 : Option D) : TR → Os → Prop
  | .ok R E l p, o => ∃ o6 o7, o = .nx [a0, a1, some (.lst true (Ds R)), some (.lst true (Ds E)), some (.int l), some (.int p), o6, o7]
  | .stands s, o => ∃ r2 r3 r4 r5 r6 r7, o = .ex "StandsAlready" ["session"] [Dm.d s] [a0, a1, r2, r3, r4, r5, r6, r7]
  | .not s, o => ∃ r2 r3 r4 r5 r6 r7, o = .ex "NotStanding" ["session"] [Dm.d s] [a0, a1, r2, r3, r4, r5, r6, r7]
section
variable (oa : Option Addr) (late : Int) (R E : List Sn) (span : Int)
end
def takeA (a : Addr) (l0 : Int) : TR → Ou D
  | .ok R E l p => .ok (.wth .non [bd (some a) (l0 + l) (srtD R) E p])
  | .stands s => .ex "StandsAlready" ["session"] [Dm.d s]
  | .not s => .ex "NotStanding" ["session"] [Dm.d s]
def TRlen (a b : Nat) : TR → Prop
  | .ok R E _ _ => R.length ≤ a ∧ E.length ≤ b
  | _ => True
theorem TRlen.mono {a b a2 b2 : Nat} (h1 : a ≤ a2) (h2 : b ≤ b2) : ∀ {r : TR}, TRlen a b r → TRlen a2 b2 r
  | .ok _ _ _ _, h => ⟨Nat.le_trans h.1 h1, Nat.le_trans h.2 h2⟩
  | .stands _, _ => trivial
  | .not _, _ => trivial
def takeM (l0 : Int) : TR → MR
  | .ok R E l p => .ok .non [bd none (l0 + l) (srtD R) E p]
  | .stands s => .ex "StandsAlready" ["session"] [Dm.d s]
  | .not s => .ex "NotStanding" ["session"] [Dm.d s]
@[simp] theorem can_bd (oa : Option Addr) (l0 : Int) (R E : List Sn) (p : Int) : canL [bd oa l0 R E p] = some [bd none l0 R E p] := rfl
def iaddA (a : Addr) (l0 : Int) : TR → Ou D
  | .ok R E l p => .ok (.wth (.pin a) [bd (some a) (l0 + l) (srtD R) E p])
  | .stands s => .ex "StandsAlready" ["session"] [Dm.d s]
  | .not s => .ex "NotStanding" ["session"] [Dm.d s]
end
end DL
namespace DL
open PySem hiding Env
open PySem.Spec PyProof.Rows L2
noncomputable section
def b1__law_keyed_deeds : Env → Os := (sSeq (sSet 11 (d2 addD (d2 addD (dVar 2) (d2 fdivD (d2 mulD (dN lenN (aCons (dVar 7) aNil)) (dVar 1)) (dC (.int 4)))) (d2 fdivD (d2 mulD (d2 modD (dN intN (aCons (d2 ixD (dVar 9) (d2 addD (d2 mulD (dC (.int 7)) (dVar 10)) (dC (.int 1)))) aNil)) (dVar 3)) (dVar 1)) (dC (.int 2)))))
    (sSeq (sSet 11 (d2 addD (dVar 11) (d2 ixD (dLst (aCons (dC (.int 0)) (aCons (dC (.int 0)) (aCons (dC (.int 0)) (aCons (dC (.int 1)) (aCons (d1 negD (dC (.int 1))) aNil)))))) (d2 modD (dN intN (aCons (d2 ixD (dVar 9) (d2 addD (d2 mulD (dC (.int 7)) (dVar 10)) (dC (.int 2)))) aNil)) (dC (.int 5))))))
    (sIf (b2 eqD (d2 modD (dN intN (aCons (d2 ixD (dVar 9) (d2 mulD (dC (.int 7)) (dVar 10))) aNil)) (dC (.int 6))) (dC (.int 5))) (sApp 7 (dTup (aCons (dC (.str ("advance" : Str))) (aCons (d2 subD (dVar 11) (d2 fdivD (d2 mulD (dVar 4) (dVar 1)) (dC (.int 2)))) aNil)))) (sSeq (sSet 12 (dFz (d2 ixD (dLst (aCons (dC (.str ("a" : Str))) (aCons (dC (.str ("ab" : Str))) (aCons (dC (.str ("b" : Str))) (aCons (dC (.str ("bb" : Str))) aNil))))) (d2 modD (dN intN (aCons (d2 ixD (dVar 9) (d2 addD (d2 mulD (dC (.int 7)) (dVar 10)) (dC (.int 5)))) aNil)) (dC (.int 4))))))
    (sApp 7 (dTup (aCons (dC (.str ("event" : Str))) (aCons (dFz (dVar 12)) (aCons (dFz (dVar 11)) (aCons (dCall F__law_value (aCons (d2 ixD (dVar 9) (d2 addD (d2 mulD (dC (.int 7)) (dVar 10)) (dC (.int 3)))) (aCons (d2 ixD (dVar 9) (d2 addD (d2 mulD (dC (.int 7)) (dVar 10)) (dC (.int 4)))) (aCons (dVar 5) aNil)))) aNil))))))))))
def b2__law_keyed_deeds : Env → Os := (sSeq (sSet 9 (dCall F__law_row (aCons (dN intN (aCons (dVar 8) aNil)) (aCons (d2 mulD (dC (.int 7)) (dVar 6)) aNil))))
    (sFor (DL.iRng1 (aCons (dVar 6) aNil)) (tgN 10) b1__law_keyed_deeds))
def g__law_keyed_deeds : Env → Os := (sSeq (sSet 6 (dC (.int 1)))
    (sSeq (sIf (b2 leD (dN lenN (aCons (dVar 0) aNil)) (dC (.int 20))) (sSet 6 (dC (.int 3))) sNil)
    (sSeq (sSet 7 (dLst aNil))
    (sSeq (sFor (iSeq (dFz (dVar 0))) (tgN 8) b2__law_keyed_deeds)
    (sRetV 7)))))
def F__law_keyed_deeds : List D → Ou D := runF 13 g__law_keyed_deeds
def b1__law_joined : Env → Os := (sSet 1 (d2 addD (dVar 1) (dVar 2)))
def g__law_joined : Env → Os := (sSeq (sSet 1 (dLst aNil))
    (sSeq (sFor (iSeq (dFz (dVar 0))) (tgN 2) b1__law_joined)
    (sRetV 1)))
def F__law_joined : List D → Ou D := runF 3 g__law_joined
def e1__law_key_told : Env → Ou D := (d2 addD (dTup (aCons (dFz (dVar 0)) aNil)) (dVar 5))
def g__law_key_told : Env → Os := (sRet (dLc (iSeqB (dCall F__law_told (aCons (dCall F__law_live (aCons (dVar 1) (aCons (dVar 2) (aCons (dVar 3) (aCons (dVar 4) aNil))))) aNil))) 5 [5] bYes e1__law_key_told))
def F__law_key_told : List D → Ou D := runF 6 g__law_key_told
def e1_Engine_finish : Env → Ou D := (d2 addD (dTup (aCons (dC (.str ("final" : Str))) aNil)) (dVar 2))
def g_Engine_finish : Env → Os := (sSeq (sDrop (dSnap (dMeth "check_going" (mtF mt_check_going) (dVar 0) aNil)))
    (sSeq (sSet 1 (dSnap (dLc (iSeqB (dMeth "told" (mtF mt_told_2) (dVar 0) aNil)) 2 [2] bYes e1_Engine_finish)))
    (sSeq (sFldO "Engine" "_lines" 0 (dC (.dct true [] [])))
    (sSeq (sFldO "Engine" "finished" 0 (dC (.bl true)))
    (sRetVM [true] 1)))))
def F_Engine_finish : List D → Ou D := runM 3 [true] g_Engine_finish
def LL {α : Type} [Dm α] (Ls : List (List α)) : List D := Ls.map fun l => .lst false (Ds l)
theorem LL_fzs {α : Type} [Dm α] : ∀ Ls : List (List α), D.fzs (LL Ls) = true
  | [] => rfl
  | l :: Ls => by show (true && D.fzs (LL Ls)) = true; rw [LL_fzs Ls]; rfl
theorem LL_frzs {α : Type} [Dm α] (Ls : List (List α)) : D.frzs (LL Ls) = LL Ls := frzs_fzs _ (LL_fzs Ls)
def EnS.done (E : EnS) : EnS := { E with ls := [], fin := true }
def kA : Ks := ⟨"a", by decide +kernel⟩
def kAB : Ks := ⟨"ab", by decide +kernel⟩
def kC : Ks := ⟨"b", by decide +kernel⟩
def kBB : Ks := ⟨"bb", by decide +kernel⟩
def KS : List Ks := [kA, kAB, kC, kBB]
structure Ek (E : EnS) : Prop where
  nd : (E.ls.map fun e => e.1).Nodup
  sub : ∀ k ∈ E.ls.map fun e => e.1, k ∈ KS
def sp : List Sn → Int
  | [] => 0
  | s :: S => (s.l - s.f) + sp S
inductive Dd where
  | adv (t : Int)
  | ev (k : Ks) (t v : Int)
  deriving DecidableEq
def Dd.d : Dd → D
  | .adv t => .tup [.str "advance", .int t]
  | .ev k t v => .tup [.str "event", .str k.s, .int t, .int v]
instance : Dm Dd where
  d := Dd.d
  dep := 2
  fz w := by cases w <;> rfl
  cln w := by cases w <;> rfl
  okd w := by
    cases w with
    | adv t =>
      show (PyData.strOk (Str.ofString "advance") && (true && true)) = true
      decide +kernel
    | ev k t v =>
      show (PyData.strOk (Str.ofString "event") && (PyData.strOk k.s && (true && (true && true)))) = true
      rw [k.ok]; decide +kernel
  eqv a b := by
    cases a with
    | adv t =>
      cases b with
      | adv t2 => simp [Dd.d, D.py, D.pys, PyData.eqv, PyData.eqvAll]
      | ev k t v => simp [Dd.d, D.py, D.pys, PyData.eqv, PyData.eqvAll]
    | ev k t v =>
      cases b with
      | adv t2 => simp [Dd.d, D.py, D.pys, PyData.eqv, PyData.eqvAll]
      | ev k2 t2 v2 =>
        simp only [Dd.d, D.py, D.pys, PyData.eqv, PyData.eqvAll, Bool.and_eq_true, and_true, beq_iff_eq, Dd.ev.injEq, true_and]
        exact ⟨fun ⟨h1, h2⟩ => ⟨Ks.ext h1, h2⟩, fun ⟨h1, h2⟩ => ⟨by rw [h1], h2⟩⟩
def Dd.ok : Dd → Prop
  | .adv _ => True
  | .ev k _ _ => k ∈ KS
def gsAB (ga gb : Int) : List (Str × Int) := [("a", ga), ("bb", gb)]
def gapK (g ga gb : Int) (k : Ks) : Int := gOf (gsAB ga gb) g k.s
def Over (E : EnS) (Ed : List Sn) : Prop := Ed.Nodup ∧ ∀ s ∈ Ed, ∃ w, E.wm = some w ∧ s.l + E.gp s.k < w
structure Eg (s : String) (b : Bool) (g ga gb : Int) (n : Nat) (E : EnS) : Prop where
  s : E.s = s
  b : E.b = b
  gp : ∀ k, E.gp k = gapK g ga gb k
  fin : E.fin = false
  ek : Ek E
  len : ∀ k, (E.ev k).length ≤ n
theorem Eg.up {s : String} {b : Bool} {g ga gb : Int} {n m : Nat} {E : EnS} (h : Eg s b g ga gb n E) (hm : n ≤ m) : Eg s b g ga gb m E := ⟨h.s, h.b, h.gp, h.fin, h.ek, fun k => Nat.le_trans (h.len k) hm⟩
theorem sg_lateN (x : Sg) : neD (.str x.s) (.str "late") = some true := by cases x <;> decide +kernel
theorem late_lateN : neD (.str "late") (.str "late") = some false := by decide +kernel
theorem w_ix0 (x : Sg) (s : Sn) : ixD (Dm.d (Wd.say x s)) (.int 0) = some (.str x.s) := rfl
theorem w_late0 (k : Ks) (t v : Int) : ixD (Dm.d (Wd.late k t v)) (.int 0) = some (.str "late") := rfl
end
end DL
namespace DL
open PySem hiding Env
open PySem.Spec PyProof.Rows L2
noncomputable section
def b1_net : GK := (gSeq (gIf (b2 eqD (d2 ixD (dVar 3) (dC (.int 0))) (dC (.str ("tell" : Str)))) (gSeq (gAdd addD 1 (dSl (dVar 3) (pSome (dC (.int 1))) pNone)) hkNil) (gSeq (gIf (b2 neD (d2 ixD (dVar 3) (dC (.int 0))) (dC (.str ("late" : Str)))) (gSeq (gAdd subD 1 (dSl (dVar 3) (pSome (dC (.int 1))) pNone)) hkNil) hkNil) hkNil)) hkNil)
def b2_net : GK := (gSeq (gFor (iSeq (dFz (dVar 2))) (tgN 3) b1_net) hkNil)
def g_net : Env → Os := (sNewK 1 (fSeq (gFor (iSeq (dFz (dVar 0))) (tgN 2) b2_net) (fLc 4 6 ltD 0 (fLc 5 6 gtD 0 (fun ρ _ => (sRet (dTup (aCons (dN sortN (aCons (dVar 4) aNil)) (aCons (dN sortN (aCons (dVar 5) aNil)) aNil)))) ρ)))))
def F_net : List D → Ou D := runF 7 g_net
def nkS (s : Sn) : NK := .tup [.text s.k.s, .num s.f, .num s.l, .tup (s.w.map .num)]
theorem nks_w : ∀ w : List Int, nksOf (Ds w) = some (w.map .num)
  | [] => rfl
  | x :: w => by
    show (match nkOf (.int x), nksOf (Ds w) with | some k, some ks => some (k :: ks) | _, _ => none) = _
    rw [nks_w w]
    rfl
theorem dSn (s : Sn) : (Dm.d s : D) = .tup [.str s.k.s, .int s.f, .int s.l, .tup (Ds s.w)] := rfl
theorem nk_sn (s : Sn) : nkOf (Dm.d s) = some (nkS s) := by
  rw [dSn]
  simp [nkOf, nksOf, nks_w, nkS]
theorem num_inj : ∀ {a b : List Int}, a.map PySem.NestedKey.num = b.map .num → a = b
  | [], [], _ => rfl
  | [], b :: bs, h => by cases h
  | a :: as, [], h => by cases h
  | a :: as, b :: bs, h => by
    rw [List.map_cons, List.map_cons] at h
    injection h with h1 h2
    injection h1 with h3
    rw [h3, num_inj h2]
theorem nkS_inj {a b : Sn} (h : nkS a = nkS b) : a = b := by
  unfold nkS at h
  injection h with h
  injection h with h1 h
  injection h with h2 h
  injection h with h3 h
  injection h with h4 _
  injection h1 with h1
  injection h2 with h2
  injection h3 with h3
  injection h4 with h4
  have h5 := num_inj h4
  clear h4
  obtain ⟨⟨ks, ko⟩, f, l, w⟩ := a
  obtain ⟨⟨ks2, ko2⟩, f2, l2, w2⟩ := b
  dsimp only at h1 h2 h3 h5
  subst h1 h2 h3 h5
  rfl
theorem dep_w : ∀ w : List Int, PySem.NestedKey.depthAll (w.map .num) = 0
  | [] => rfl
  | x :: w => by
    show max 0 (PySem.NestedKey.depthAll (w.map .num)) = 0
    rw [dep_w w]
    rfl
theorem nkS_dep (s : Sn) : (nkS s).depth ≤ 8 := by
  simp [nkS, PySem.NestedKey.depth, PySem.NestedKey.depthAll, dep_w]
abbrev Cm := List (Sn × Int)
def kdOf (m : Cm) : KD := m.map fun p => (nkS p.1, Dm.d p.1, p.2)
def getM (m : Cm) (s : Sn) : Option Int := (m.find? fun p => decide (p.1 = s)).map (·.2)
def putM (m : Cm) (s : Sn) (n : Int) : Cm := if (getM m s).isSome then m.map (fun p => if p.1 = s then (p.1, n) else p) else m ++ [(s, n)]
theorem look_kd (s : Sn) : ∀ m : Cm, lookNk (kdOf m) (nkS s) = getM m s
  | [] => rfl
  | p :: m => by
    have ih := look_kd s m
    unfold lookNk getM kdOf at ih ⊢
    rw [List.map_cons, List.find?_cons, List.find?_cons]
    by_cases c : p.1 = s
    · rw [decide_eq_true c, decide_eq_true (congrArg nkS c)]
      rfl
    · rw [decide_eq_false c, decide_eq_false (fun z => c (nkS_inj z))]
      exact ih
theorem put_kd (s : Sn) (n : Int) (m : Cm) : putNk (kdOf m) (nkS s) (Dm.d s) n = kdOf (putM m s n) := by
  unfold putNk putM
  rw [look_kd]
  split
  · unfold kdOf
    rw [List.map_map, List.map_map]
    apply List.map_congr_left
    intro p _
    show (if nkS p.1 = nkS s then (nkS p.1, Dm.d p.1, n) else (nkS p.1, Dm.d p.1, p.2)) = (nkS (if p.1 = s then (p.1, n) else p).1, Dm.d (if p.1 = s then (p.1, n) else p).1, (if p.1 = s then (p.1, n) else p).2)
    by_cases c : p.1 = s
    · rw [if_pos c, if_pos (congrArg nkS c)]
    · rw [if_neg c, if_neg (fun z => c (nkS_inj z))]
  · unfold kdOf
    rw [List.map_append]
    rfl
theorem get_cons (p : Sn × Int) (m : Cm) (s : Sn) : getM (p :: m) s = if p.1 = s then some p.2 else getM m s := by
  unfold getM
  rw [List.find?_cons]
  by_cases c : p.1 = s
  · rw [decide_eq_true c, if_pos c]; rfl
  · rw [decide_eq_false c, if_neg c]
theorem get_map (s : Sn) (n : Int) (t : Sn) : ∀ m : Cm, getM (m.map fun p => if p.1 = s then (p.1, n) else p) t = if t = s then (getM m t).map (fun _ => n) else getM m t
  | [] => by simp [getM]
  | p :: m => by
    rw [List.map_cons, get_cons, get_cons, get_map s n t m]
    by_cases c : p.1 = s
    · rw [if_pos c]
      by_cases d : p.1 = t
      · have e : t = s := d.symm.trans c
        rw [if_pos d, if_pos e, if_pos d]; rfl
      · rw [if_neg d, if_neg d]
    · rw [if_neg c]
      by_cases d : p.1 = t
      · have e : t ≠ s := fun z => c (d.trans z)
        rw [if_pos d, if_neg e, if_pos d]
      · rw [if_neg d, if_neg d]
theorem get_app (t : Sn) (a : Sn × Int) : ∀ m : Cm, getM (m ++ [a]) t = match getM m t with | some v => some v | none => if a.1 = t then some a.2 else none
  | [] => by
    show getM [a] t = if a.1 = t then some a.2 else none
    rw [get_cons]; rfl
  | p :: m => by
    rw [List.cons_append, get_cons, get_cons, get_app t a m]
    by_cases d : p.1 = t
    · rw [if_pos d, if_pos d]
    · rw [if_neg d, if_neg d]
theorem get_put (m : Cm) (s t : Sn) (n : Int) : getM (putM m s n) t = if t = s then some n else getM m t := by
  unfold putM
  cases c : getM m s with
  | some v =>
    rw [if_pos Option.isSome_some, get_map]
    by_cases e : t = s
    · rw [if_pos e, if_pos e, e, c]; rfl
    · rw [if_neg e, if_neg e]
  | none =>
    rw [if_neg (by simp), get_app]
    by_cases e : t = s
    · rw [if_pos e, e, c]
      dsimp only
      rw [if_pos rfl]
    · rw [if_neg e]
      cases getM m t with
      | some v => rfl
      | none =>
        dsimp only
        rw [if_neg (fun z => e z.symm)]
theorem get_mem {m : Cm} {s : Sn} : s ∈ m.map (·.1) ↔ (getM m s).isSome = true := by
  induction m with
  | nil => simp [getM]
  | cons p m ih =>
    rw [List.map_cons, List.mem_cons, get_cons]
    by_cases d : p.1 = s
    · rw [if_pos d]; simp [d]
    · rw [if_neg d, ← ih]
      constructor
      · rintro (z | z)
        · exact absurd z.symm d
        · exact z
      · exact .inr
theorem cmPut_nd {m : Cm} (h : (m.map (·.1)).Nodup) (s : Sn) (n : Int) : ((putM m s n).map (·.1)).Nodup := by
  unfold putM
  cases c : getM m s with
  | some v =>
    rw [if_pos Option.isSome_some, List.map_map]
    have : ((fun x : Sn × Int => x.1) ∘ fun p => if p.1 = s then (p.1, n) else p) = fun p : Sn × Int => p.1 := by
      funext p
      show (if p.1 = s then (p.1, n) else p).1 = p.1
      split <;> rfl
    rw [this]
    exact h
  | none =>
    rw [if_neg (by simp), List.map_append, List.nodup_append]
    refine ⟨h, by simp, fun a ha b hb e => ?_⟩
    have hb : b = s := by simpa using hb
    subst e hb
    rw [get_mem, c] at ha
    cases ha
theorem putM_len (m : Cm) (s : Sn) (n : Int) : (putM m s n).length ≤ m.length + 1 := by
  unfold putM
  split
  · rw [List.length_map]; omega
  · rw [List.length_append]; simp
def sgN : Sg → Int
  | .tell => 1
  | _ => -1
def cnt : List Wd → Sn → Int
  | [], _ => 0
  | .late _ _ _ :: W, s => cnt W s
  | .say x t :: W, s => (if t = s then sgN x else 0) + cnt W s
def foldM : List Wd → Cm → Cm
  | [], m => m
  | .late _ _ _ :: W, m => foldM W m
  | .say x t :: W, m => foldM W (putM m t ((getM m t).getD 0 + sgN x))
theorem cnt_app (s : Sn) : ∀ A B : List Wd, cnt (A ++ B) s = cnt A s + cnt B s
  | [], B => by show cnt B s = 0 + cnt B s; omega
  | .late _ _ _ :: A, B => cnt_app s A B
  | .say x t :: A, B => by
    show (if t = s then sgN x else 0) + cnt (A ++ B) s = (if t = s then sgN x else 0) + cnt A s + cnt B s
    rw [cnt_app s A B]; omega
theorem fold_app : ∀ (A B : List Wd) (m : Cm), foldM (A ++ B) m = foldM B (foldM A m)
  | [], B, m => rfl
  | .late _ _ _ :: A, B, m => fold_app A B m
  | .say x t :: A, B, m => fold_app A B _
theorem fold_get (s : Sn) : ∀ (W : List Wd) (m : Cm), (getM (foldM W m) s).getD 0 = (getM m s).getD 0 + cnt W s
  | [], m => by show _ = _ + 0; rw [Int.add_zero]; rfl
  | .late _ _ _ :: W, m => fold_get s W m
  | .say x t :: W, m => by
    have ih := fold_get s W (putM m t ((getM m t).getD 0 + sgN x))
    show (getM (foldM W (putM m t ((getM m t).getD 0 + sgN x))) s).getD 0 = _ + ((if t = s then sgN x else 0) + cnt W s)
    rw [ih, get_put]
    by_cases e : t = s
    · subst e
      rw [if_pos rfl, if_pos rfl]
      show (getM m t).getD 0 + sgN x + cnt W t = _
      omega
    · rw [if_neg (fun z => e z.symm), if_neg e]
      omega
theorem fold_nd : ∀ (W : List Wd) (m : Cm), (m.map (·.1)).Nodup → ((foldM W m).map (·.1)).Nodup
  | [], m, h => h
  | .late _ _ _ :: W, m, h => fold_nd W m h
  | .say x t :: W, m, h => fold_nd W _ (cmPut_nd h t _)
theorem cmFold_len : ∀ (W : List Wd) (m : Cm), (foldM W m).length ≤ m.length + W.length
  | [], m => Nat.le_refl _
  | .late _ _ _ :: W, m => by have := cmFold_len W m; simp; show (foldM W m).length ≤ _; omega
  | .say x t :: W, m => by
    have := cmFold_len W (putM m t ((getM m t).getD 0 + sgN x))
    have h2 := putM_len m t ((getM m t).getD 0 + sgN x)
    show (foldM W (putM m t ((getM m t).getD 0 + sgN x))).length ≤ _
    rw [List.length_cons]; omega
theorem gAdd_ok {kk : D → D → Option D} {c : Int} {f : Env → Ou D} {ρ : Env} {s : Sn} {m : Cm} {n : Int} (hf : f ρ = .ok (Dm.d s)) (hn : kk (.int ((getM m s).getD 0)) (.int c) = some (.int n)) (hl : m.length < 1000000) : gAdd kk c f ρ (kdOf m) = some (ρ, kdOf (putM m s n)) := by
  unfold gAdd
  rw [hf, dSn]
  dsimp only
  rw [show nkOf (D.tup [.str s.k.s, .int s.f, .int s.l, .tup (Ds s.w)]) = some (nkS s) from nk_sn s]
  dsimp only
  rw [if_pos ⟨nkS_dep s, by unfold kdOf; rw [List.length_map]; exact lt_lim hl⟩, look_kd, hn]
  dsimp only
  rw [← dSn, put_kd]
theorem net_in (x0 x1 x2 x4 x5 x6 : Option D) : ∀ (W : List Wd) (m : Cm) (x3 : Option D), m.length + W.length ≤ 500000 →
    ∃ x3', loopK (tgN 3) b1_net (Ds W) [x0, x1, x2, x3, x4, x5, x6] (kdOf m) = some ([x0, x1, x2, x3', x4, x5, x6], kdOf (foldM W m))
  | [], m, x3, _ => ⟨x3, rfl⟩
  | .late k t v :: W, m, x3, h => by
    obtain ⟨y3, ih⟩ := net_in x0 x1 x2 x4 x5 x6 W m (some (Dm.d (Wd.late k t v))) (by simp at h; omega)
    refine ⟨y3, ?_⟩
    rw [Ds_cons]
    have n1 : eqD (.str "late") (.str "tell") = some false := by decide +kernel
    have b : b1_net [x0, x1, x2, some (Dm.d (Wd.late k t v)), x4, x5, x6] (kdOf m) = some ([x0, x1, x2, some (Dm.d (Wd.late k t v)), x4, x5, x6], kdOf m) := by
      simp [b1_net, gSeq, gIf, hkNil, w_late0, n1, late_lateN]
    show ((tgN 3 _ [x0, x1, x2, x3, x4, x5, x6]).bind fun ρ1 => (b1_net ρ1 (kdOf m)).bind fun p => loopK (tgN 3) b1_net (Ds W) p.1 p.2) = _
    rw [show tgN 3 (Dm.d (Wd.late k t v)) [x0, x1, x2, x3, x4, x5, x6] = some [x0, x1, x2, some (Dm.d (Wd.late k t v)), x4, x5, x6] from rfl]
    rw [Option.bind_some, b, Option.bind_some, ih]
    rfl
  | .say x s :: W, m, x3, h => by
    have hl := putM_len m s ((getM m s).getD 0 + sgN x)
    obtain ⟨y3, ih⟩ := net_in x0 x1 x2 x4 x5 x6 W (putM m s ((getM m s).getD 0 + sgN x)) (some (Dm.d (Wd.say x s))) (by simp at h; omega)
    refine ⟨y3, ?_⟩
    rw [Ds_cons]
    have b : b1_net [x0, x1, x2, some (Dm.d (Wd.say x s)), x4, x5, x6] (kdOf m) = some ([x0, x1, x2, some (Dm.d (Wd.say x s)), x4, x5, x6], kdOf (putM m s ((getM m s).getD 0 + sgN x))) := by
      have hs : (dSl (dVar 3) (pSome (dC (.int 1))) pNone) [x0, x1, x2, some (Dm.d (Wd.say x s)), x4, x5, x6] = .ok (Dm.d s) := by simp [sl_w, sesOf]
      have a1 := gAdd_ok (kk := addD) (c := 1) (m := m) hs (n := (getM m s).getD 0 + 1) (by simp) (by simp at h; omega)
      have a2 := gAdd_ok (kk := subD) (c := 1) (m := m) hs (n := (getM m s).getD 0 - 1) (by simp) (by simp at h; omega)
      by_cases c : x = .tell
      · subst c
        simp [b1_net, gSeq, gIf, hkNil, w_ix0, sg_tell, a1, sgN]
      · have e : sgN x = -1 := by cases x <;> simp_all [sgN]
        rw [e]
        simp [b1_net, gSeq, gIf, hkNil, w_ix0, sg_tell, c, sg_lateN, a2, Int.sub_eq_add_neg]
    show ((tgN 3 _ [x0, x1, x2, x3, x4, x5, x6]).bind fun ρ1 => (b1_net ρ1 (kdOf m)).bind fun p => loopK (tgN 3) b1_net (Ds W) p.1 p.2) = _
    rw [show tgN 3 (Dm.d (Wd.say x s)) [x0, x1, x2, x3, x4, x5, x6] = some [x0, x1, x2, some (Dm.d (Wd.say x s)), x4, x5, x6] from rfl]
    rw [Option.bind_some, b, Option.bind_some, ih]
    rfl
theorem net_out (x0 x1 x4 x5 x6 : Option D) : ∀ (Ls : List (List Wd)) (m : Cm) (x2 x3 : Option D), m.length + Ls.flatten.length ≤ 500000 →
    ∃ x2' x3', loopK (tgN 2) b2_net (LL Ls) [x0, x1, x2, x3, x4, x5, x6] (kdOf m) = some ([x0, x1, x2', x3', x4, x5, x6], kdOf (foldM Ls.flatten m))
  | [], m, x2, x3, _ => ⟨x2, x3, rfl⟩
  | W :: Ls, m, x2, x3, h => by
    rw [List.flatten_cons, List.length_append] at h
    obtain ⟨y3, e1⟩ := net_in x0 x1 (some (.lst false (Ds W))) x4 x5 x6 W m x3 (by omega)
    have hl := cmFold_len W m
    obtain ⟨z2, z3, ih⟩ := net_out x0 x1 x4 x5 x6 Ls (foldM W m) (some (.lst false (Ds W))) y3 (by omega)
    refine ⟨z2, z3, ?_⟩
    have sq : seqOf (.lst false (Ds W)) = .ok (Ds W) := seqOf_Ds _ _
    have b : b2_net [x0, x1, some (.lst false (Ds W)), x3, x4, x5, x6] (kdOf m) = some ([x0, x1, some (.lst false (Ds W)), y3, x4, x5, x6], kdOf (foldM W m)) := by
      simp [b2_net, gSeq, gFor, hkNil, sq, e1]
    show ((tgN 2 (.lst false (Ds W)) [x0, x1, x2, x3, x4, x5, x6]).bind fun ρ1 => (b2_net ρ1 (kdOf m)).bind fun p => loopK (tgN 2) b2_net (LL Ls) p.1 p.2) = _
    rw [show tgN 2 (.lst false (Ds W)) [x0, x1, x2, x3, x4, x5, x6] = some [x0, x1, some (.lst false (Ds W)), x3, x4, x5, x6] from rfl]
    rw [Option.bind_some, b, Option.bind_some, ih, List.flatten_cons, fold_app]
theorem lc_kd {kk : D → D → Option Bool} {p : Int → Bool} (hk : ∀ n, kk (.int n) (.int 0) = some (p n)) (m : Cm) (hl : m.length ≤ 1000000) : ∀ (r : Cm) (acc : List Sn), (∀ x ∈ r, getM m x.1 = some x.2) → acc.length + r.length ≤ 1000000 →
    lcK kk 0 (kdOf m) (kdOf r) (Ds acc) = some (Ds (acc ++ (r.filter fun x => p x.2).map (·.1)))
  | [], acc, _, _ => by show some (Ds acc) = _; simp
  | x :: r, acc, h, hb => by
    show (match lookNk (kdOf m) (nkS x.1) with
      | some n => match kk (.int n) (.int 0) with
        | some true => if (Ds acc).length < LIM then lcK kk 0 (kdOf m) (kdOf r) (Ds acc ++ [Dm.d x.1]) else none
        | some false => lcK kk 0 (kdOf m) (kdOf r) (Ds acc)
        | none => none
      | none => none) = _
    rw [look_kd, h x List.mem_cons_self]
    dsimp only
    rw [hk]
    have h2 := fun y hy => h y (List.mem_cons_of_mem _ hy)
    rw [List.length_cons] at hb
    rw [List.filter_cons]
    cases c : p x.2 with
    | true =>
      dsimp only
      rw [if_pos (by rw [Ds_len]; exact lt_lim (by omega)), if_pos rfl, show (Ds acc ++ [Dm.d x.1] : List D) = Ds (acc ++ [x.1]) from (Ds_snoc acc x.1), lc_kd hk m hl r (acc ++ [x.1]) h2 (by rw [List.length_append]; simp; omega), List.map_cons, List.append_assoc]
      rfl
    | false =>
      dsimp only
      rw [if_neg Bool.false_ne_true, lc_kd hk m hl r acc h2 (by omega)]
theorem get_of_mem {m : Cm} (nd : (m.map (·.1)).Nodup) : ∀ x ∈ m, getM m x.1 = some x.2 := by
  induction m with
  | nil => intro x hx; cases hx
  | cons p m ih =>
    intro x hx
    rw [List.map_cons, List.nodup_cons] at nd
    rw [get_cons]
    rcases List.mem_cons.mp hx with e | hx
    · subst e
      rw [if_pos rfl]
    · rw [if_neg (fun z => nd.1 (by rw [z]; exact List.mem_map_of_mem hx)), ih nd.2 x hx]
def netL (p : Int → Bool) (Ls : List (List Wd)) : List Sn := ((foldM Ls.flatten []).filter fun x => p x.2).map (·.1)
theorem netL_mem (p : Int → Bool) (h0 : p 0 = false) (Ls : List (List Wd)) (s : Sn) : s ∈ netL p Ls ↔ p (cnt Ls.flatten s) = true := by
  have nd : ((foldM Ls.flatten []).map (·.1)).Nodup := fold_nd _ _ (by simp)
  have g := fold_get s Ls.flatten []
  rw [show getM [] s = none from rfl] at g
  have g : (getM (foldM Ls.flatten []) s).getD 0 = 0 + cnt Ls.flatten s := g
  rw [Int.zero_add] at g
  unfold netL
  rw [List.mem_map]
  constructor
  · rintro ⟨x, hx, rfl⟩
    obtain ⟨h1, h2⟩ := List.mem_filter.mp hx
    rw [get_of_mem nd x h1] at g
    rw [← g]
    exact h2
  · intro h
    rw [← g] at h
    cases c : getM (foldM Ls.flatten []) s with
    | none =>
      rw [c] at h
      have h : p 0 = true := h
      rw [h0] at h
      cases h
    | some v =>
      rw [c] at h
      have hm : s ∈ (foldM Ls.flatten []).map (·.1) := get_mem.mpr (by rw [c]; rfl)
      obtain ⟨x, hx, e⟩ := List.mem_map.mp hm
      have := get_of_mem nd x hx
      rw [e, c] at this
      have e2 := Option.some.inj this
      refine ⟨x, List.mem_filter.mpr ⟨hx, ?_⟩, e⟩
      rw [← e2]
      exact h
theorem netL_nd (p : Int → Bool) (Ls : List (List Wd)) : (netL p Ls).Nodup := by
  have nd : ((foldM Ls.flatten []).map (·.1)).Nodup := fold_nd _ _ (by simp)
  exact List.Nodup.sublist (List.Sublist.map _ List.filter_sublist) nd
theorem netL_len (p : Int → Bool) (Ls : List (List Wd)) : (netL p Ls).length ≤ Ls.flatten.length := by
  unfold netL
  rw [List.length_map]
  have := cmFold_len Ls.flatten []
  refine Nat.le_trans (List.length_filter_le _ _) ?_
  simpa using this
theorem net_ok (Ls : List (List Wd)) (h : Ls.flatten.length ≤ 400000) : F_net [.tup (LL Ls)] = .ok (.tup [.lst true (Ds (srtD (netL (fun n => decide (n < 0)) Ls))), .lst true (Ds (srtD (netL (fun n => decide (0 < n)) Ls)))]) := by
  have key : ∀ d, (fSeq (gFor (iSeq (dFz (dVar 0))) (tgN 2) b2_net) (fLc 4 6 ltD 0 (fLc 5 6 gtD 0 (fun ρ _ => (sRet (dTup (aCons (dN sortN (aCons (dVar 4) aNil)) (aCons (dN sortN (aCons (dVar 5) aNil)) aNil)))) ρ)))) [some (.tup (LL Ls)), some (.pin d), none, none, none, none, none] [] =
      .rt (.tup [.lst true (Ds (srtD (netL (fun n => decide (n < 0)) Ls))), .lst true (Ds (srtD (netL (fun n => decide (0 < n)) Ls)))]) := fun d => by
    obtain ⟨x2, x3, e⟩ := net_out (some (.tup (LL Ls))) (some (.pin d)) none none none Ls [] none none (by rw [List.length_nil]; omega)
    have sq : seqOf (.tup (LL Ls)) = .ok (LL Ls) := by
      show Ou.ok (D.frzs (LL Ls)) = _
      rw [LL_frzs]
    have hl := cmFold_len Ls.flatten []
    have hl : (foldM Ls.flatten []).length ≤ Ls.flatten.length := by simpa using hl
    have nd : ((foldM Ls.flatten []).map (·.1)).Nodup := fold_nd _ _ (by simp)
    have g1 : gFor (iSeq (dFz (dVar 0))) (tgN 2) b2_net [some (.tup (LL Ls)), some (.pin d), none, none, none, none, none] [] = some ([some (.tup (LL Ls)), some (.pin d), x2, x3, none, none, none], kdOf (foldM Ls.flatten [])) := by
      rw [show kdOf ([] : Cm) = [] from rfl] at e
      have fz : D.fzs (LL Ls) = true := LL_fzs Ls
      have fr : D.frzs (LL Ls) = LL Ls := LL_frzs Ls
      simp [gFor, sq, fz, fr, e]
    have c1 := lc_kd (kk := ltD) (p := fun n => decide (n < 0)) (fun n => by simp) (foldM Ls.flatten []) (by omega) (foldM Ls.flatten []) [] (get_of_mem nd) (by simp; omega)
    have c2 := lc_kd (kk := gtD) (p := fun n => decide (0 < n)) (fun n => by simp) (foldM Ls.flatten []) (by omega) (foldM Ls.flatten []) [] (get_of_mem nd) (by simp; omega)
    rw [List.nil_append, show (Ds ([] : List Sn)) = [] from rfl] at c1 c2
    have c1 : lcK ltD 0 (kdOf (foldM Ls.flatten [])) (kdOf (foldM Ls.flatten [])) [] = some (Ds (netL (fun n => decide (n < 0)) Ls)) := c1
    have c2 : lcK gtD 0 (kdOf (foldM Ls.flatten [])) (kdOf (foldM Ls.flatten [])) [] = some (Ds (netL (fun n => decide (0 < n)) Ls)) := c2
    have s1 := sortN_dm (α := Sn) (show Dm.dep Sn ≤ 20 by decide) true (netL (fun n => decide (n < 0)) Ls) (by have := netL_len (fun n => decide (n < 0)) Ls; omega)
    have s2 := sortN_dm (α := Sn) (show Dm.dep Sn ≤ 20 by decide) true (netL (fun n => decide (0 < n)) Ls) (by have := netL_len (fun n => decide (0 < n)) Ls; omega)
    simp [fSeq, g1, fLc, c1, c2, s1, s2, LIM]
  have e := x_sNewK (i := 1) (ρ := [some (.tup (LL Ls)), none, none, none, none, none, none]) (by simp) key
  simp only [F_net, runF, g_net]
  show endF (sNewK 1 _ [some (.tup (LL Ls)), none, none, none, none, none, none]) = _
  rw [e]
  rfl
theorem star_net (Ls : List (List Wd)) (h : Ls.flatten.length ≤ 400000) (hl : Ls.length ≤ 1000) : starF 0 F_net (LL Ls) = .ok (.tup [.lst true (Ds (srtD (netL (fun n => decide (n < 0)) Ls))), .lst true (Ds (srtD (netL (fun n => decide (0 < n)) Ls)))]) := by
  unfold starF
  rw [if_pos ⟨Nat.zero_le _, by unfold LL LIM; rw [List.length_map]; omega⟩]
  exact net_ok Ls h
end
end DL
namespace Lw
open PySem hiding Env
open PySem.Spec PyProof.Rows L2 DL
noncomputable section
theorem sc__law_row : FnScope ["_law_cell_here", "_law_count_here", "_law_size", "_law_row_here", "_law_k", "_law_seed", "_law_mixed"] ["_law_cell_here", "_law_count_here"] (defScope (topS 5)) := ⟨rfl, rfl, rfl, by decide +kernel, rfl, by decide +kernel, by decide +kernel⟩
theorem sc__law_big : FnScope ["_law_cell_here", "_law_number"] ["_law_cell_here"] (defScope (topS 6)) := ⟨rfl, rfl, rfl, by decide +kernel, rfl, by decide +kernel, by decide +kernel⟩
theorem sc__law_value : FnScope ["_law_number", "_law_other", "_law_big_here"] ["_law_number", "_law_other", "_law_big_here"] (defScope (topS 8)) := ⟨rfl, rfl, rfl, by decide +kernel, rfl, by decide +kernel, by decide +kernel⟩
theorem sc__law_pool : FnScope ["_law_row_here", "_law_count_here", "_law_base", "_law_big_here", "_law_pool_here", "_law_k", "_law_part", "_law_key", "_law_first", "_law_word", "_law_session", "_law_entry"] ["_law_row_here", "_law_count_here", "_law_base", "_law_big_here"] (defScope (topS 10)) := ⟨rfl, rfl, rfl, by decide +kernel, rfl, by decide +kernel, by decide +kernel⟩
def e1__law_pool_2 : Env → Ou D := (dFz (d2 ixD (dVar 11) (dC (.int 0))))
def b1__law_pool_2 : Env → Os := (sSeq (sSet 6 (dSl (dVar 0) (pSome (d2 mulD (dC (.int 6)) (dVar 5))) (pSome (d2 addD (d2 mulD (dC (.int 6)) (dVar 5)) (dC (.int 6))))))
    (sSeq (sSet 7 (dFz (d2 ixD (dLst (aCons (dC (.str ("b" : Str))) (aCons (dC (.str ("aa" : Str))) (aCons (dC (.str ("ab" : Str))) (aCons (dC (.str ("a" : Str))) aNil))))) (d2 modD (dN intN (aCons (d2 ixD (dVar 6) (dC (.int 0))) aNil)) (dC (.int 4))))))
    (sSeq (sSet 8 (d2 addD (dVar 2) (d2 modD (d2 fdivD (dN intN (aCons (d2 ixD (dVar 6) (dC (.int 1))) aNil)) (dC (.int 3))) (dC (.int 4)))))
    (sSeq (sSet 9 (dTup (aCons (dCall F__law_value (aCons (d2 ixD (dVar 6) (dC (.int 2))) (aCons (d2 ixD (dVar 6) (dC (.int 3))) (aCons (dVar 3) aNil)))) (aCons (dCall F__law_value (aCons (d2 ixD (dVar 6) (dC (.int 3))) (aCons (d2 ixD (dVar 6) (dC (.int 2))) (aCons (dVar 3) aNil)))) aNil))))
    (sSeq (sIf (b2 eqD (d2 modD (d2 fdivD (dN intN (aCons (d2 ixD (dVar 6) (dC (.int 0))) aNil)) (dC (.int 4))) (dC (.int 2))) (dC (.int 0))) (sSet 9 (dSl (dVar 9) pNone (pSome (dC (.int 1))))) sNil)
    (sFrz 9 (sSeq (sSet 10 (dTup (aCons (dFz (dVar 7)) (aCons (dFz (dVar 8)) (aCons (d2 addD (dVar 8) (d2 modD (dN intN (aCons (d2 ixD (dVar 6) (dC (.int 1))) aNil)) (dC (.int 3)))) (aCons (dFz (dVar 9)) aNil))))))
    (sIf (b2 notInD (dVar 10) (dLc (iSeqB (dVar 4)) 11 [11] bYes e1__law_pool_2)) (sApp 4 (dTup (aCons (dFz (dVar 10)) (aCons (d2 modD (dN intN (aCons (d2 ixD (dVar 6) (dC (.int 4))) aNil)) (dC (.int 4))) (aCons (d2 modD (dN intN (aCons (d2 ixD (dVar 6) (dC (.int 5))) aNil)) (dC (.int 6))) aNil))))) sNil))))))))
def g__law_pool_2 : Env → Os := (sSeq (sSet 4 (dLst aNil))
    (sSeq (sFor (DL.iRng1 (aCons (dVar 1) aNil)) (tgN 5) b1__law_pool_2)
    (sRetV 4)))
def F__law_pool_2 : List D → Ou D := runF 12 g__law_pool_2
theorem sc_difference : FnScope ["before", "after", "gone", "come", "row"] ["before", "after"] (defScope (topS 1)) := ⟨rfl, rfl, rfl, by decide +kernel, rfl, by decide +kernel, by decide +kernel⟩
theorem sc__law_words_of : FnScope ["_law_session", "_law_pattern", "_law_tell", "_law_retract", "_law_final"] ["_law_session", "_law_pattern"] (defScope (topS 11)) := ⟨rfl, rfl, rfl, by decide +kernel, rfl, by decide +kernel, by decide +kernel⟩
def g__law_words_of : Env → Os := (sSeq (sSet 2 (d2 addD (dTup (aCons (dC (.str ("tell" : Str))) aNil)) (dVar 0)))
    (sSeq (sSet 3 (d2 addD (dTup (aCons (dC (.str ("retract" : Str))) aNil)) (dVar 0)))
    (sSeq (sSet 4 (d2 addD (dTup (aCons (dC (.str ("final" : Str))) aNil)) (dVar 0)))
    (sRet (d2 ixD (dLst (aCons (dLst (aCons (dFz (dVar 2)) aNil)) (aCons (dLst (aCons (dFz (dVar 3)) aNil)) (aCons (dLst (aCons (dFz (dVar 4)) aNil)) (aCons (dLst (aCons (dFz (dVar 2)) (aCons (dFz (dVar 3)) aNil))) (aCons (dLst (aCons (dFz (dVar 3)) (aCons (dFz (dVar 2)) aNil))) (aCons (dLst (aCons (dFz (dVar 2)) (aCons (dFz (dVar 3)) (aCons (dFz (dVar 2)) aNil)))) aNil))))))) (dVar 1))))))
def F__law_words_of : List D → Ou D := runF 5 g__law_words_of
theorem sc__law_rounds : FnScope ["_law_pool_here", "_law_late", "_law_words", "_law_turn", "_law_session", "_law_place", "_law_pattern", "_law_lot", "_law_k"] ["_law_pool_here", "_law_late"] (defScope (topS 12)) := ⟨rfl, rfl, rfl, by decide +kernel, rfl, by decide +kernel, by decide +kernel⟩
def b1__law_rounds : Env → Os := (sSeq (sSet 7 (dCall F__law_words_of (aCons (dVar 4) (aCons (dVar 6) aNil))))
    (sIf (b2 ltD (dVar 3) (dN lenN (aCons (dVar 7) aNil))) (sApp 2 (dFz (d2 ixD (dVar 7) (dVar 3)))) sNil))
def b2__law_rounds : Env → Os := (sApp 2 (dTup (aCons (dC (.str ("late" : Str))) (aCons (dC (.str ("b" : Str))) (aCons (dFz (dVar 8)) (aCons (dFz (dVar 3)) aNil))))))
def b3__law_rounds : Env → Os := (sSeq (sFor (iSeq (dFz (dVar 0))) (tgU [4, 5, 6]) b1__law_rounds)
    (sFor (DL.iRng1 (aCons (dVar 1) aNil)) (tgN 8) b2__law_rounds))
def g__law_rounds : Env → Os := (sSeq (sSet 2 (dLst aNil))
    (sSeq (sFor (DL.iRng1 (aCons (dC (.int 3)) aNil)) (tgN 3) b3__law_rounds)
    (sRetV 2)))
def F__law_rounds : List D → Ou D := runF 9 g__law_rounds
theorem sc__law_pair_of : FnScope ["_law_got", "_law_gone", "_law_come"] ["_law_got", "_law_gone", "_law_come"] (defScope (topS 9)) := ⟨rfl, rfl, rfl, by decide +kernel, rfl, by decide +kernel, by decide +kernel⟩
def g__law_pair_of : Env → Os := (sSeq (sIf (bOr (bNot (bTru (dIsi .tuple (dVar 0)))) (bOr (b2 neD (dN lenN (aCons (dVar 0) aNil)) (dC (.int 2))) (bOr (bNot (bTru (dIsi .list (d2 ixD (dVar 0) (dC (.int 0)))))) (bNot (bTru (dIsi .list (d2 ixD (dVar 0) (dC (.int 1))))))))) (sRet (dC (.bl false))) sNil)
    (sRet (dAnd (dBl (b2 eqD (d2 ixD (dVar 0) (dC (.int 0))) (dVar 1))) (dBl (b2 eqD (d2 ixD (dVar 0) (dC (.int 1))) (dVar 2))))))
def F__law_pair_of : List D → Ou D := runF 3 g__law_pair_of
theorem sc__law_cell : FnScope ["_law_script", "_law_k"] ["_law_script", "_law_k"] (defScope (topS 4)) := ⟨rfl, rfl, rfl, by decide +kernel, rfl, by decide +kernel, by decide +kernel⟩
theorem sc__law_count : FnScope ["_law_number", "_law_most"] ["_law_number", "_law_most"] (defScope (topS 7)) := ⟨rfl, rfl, rfl, by decide +kernel, rfl, by decide +kernel, by decide +kernel⟩
theorem sc_net : FnScope ["lots", "counts", "words", "word", "gone", "come", "row"] ["lots"] (defScope (topS 2)) := ⟨rfl, rfl, rfl, by decide +kernel, rfl, by decide +kernel, by decide +kernel⟩
theorem sc_law : FnScope ["_law_script", "_law_d", "_law_base", "_law_big_here", "_law_pool_here", "_law_before", "_law_after", "_law_gone", "_law_come", "_law_handed", "_law_got", "_law_words", "_law_lost", "_law_won", "_law_given", "_law_one", "_law_two", "_law_entry"] ["_law_script"] (defScope (topS 13)) := ⟨rfl, rfl, rfl, by decide +kernel, rfl, by decide +kernel, by decide +kernel⟩
def e1_law : Env → Ou D := (dFz (d2 ixD (dVar 17) (dC (.int 0))))
def e2_law : Env → Ou D := (dFz (d2 ixD (dVar 17) (dC (.int 0))))
def e3_law : Env → Ou D := (dFz (d2 ixD (dVar 17) (dC (.int 0))))
def e4_law : Env → Ou D := (dFz (d2 ixD (dVar 17) (dC (.int 0))))
def e5_law : Env → Ou D := (dFz (d2 ixD (dVar 17) (dC (.int 0))))
def e6_law : Env → Ou D := (dFz (d2 ixD (dVar 17) (dC (.int 0))))
def t23_law : Env → Os := (sRet (dCall F__law_pair_of (aCons (dCall (starF 0 F_net) (aCons (dSl (dVar 11) pNone (pSome (dVar 15))) (aCons (dSl (dVar 11) (pSome (dVar 15)) (pSome (dVar 16))) (aCons (dLst aNil) (aCons (dSl (dVar 11) (pSome (dVar 16)) pNone) aNil))))) (aCons (dVar 12) (aCons (dVar 13) aNil)))))
def t22_law : Env → Os := (sSeq (sIf (bNot (bTru (dCall F__law_pair_of (aCons (dCall (starF 0 F_net) (aCons (dSl (dVar 11) pNone (pSome (dVar 15))) (aCons (dSl (dVar 11) (pSome (dVar 15)) pNone) aNil))) (aCons (dVar 12) (aCons (dVar 13) aNil)))))) (sRet (dC (.bl false))) sNil)
    t23_law)
def t21_law : Env → Os := (sSeq (sSet 16 (d2 addD (dVar 15) (d2 modD (dN intN (aCons (d2 ixD (dVar 1) (dC (.int 5))) aNil)) (d2 subD (d2 addD (dN lenN (aCons (dVar 11) aNil)) (dC (.int 1))) (dVar 15)))))
    t22_law)
def t20_law : Env → Os := (sSeq (sSet 15 (d2 modD (dN intN (aCons (d2 ixD (dVar 1) (dC (.int 4))) aNil)) (d2 addD (dN lenN (aCons (dVar 11) aNil)) (dC (.int 1)))))
    t21_law)
def t19_law : Env → Os := (sSeq (sIf (bOr (bNot (bTru (dCall F__law_pair_of (aCons (dCall (starF 0 F_net) (aCons (dVar 14) aNil)) (aCons (dVar 12) (aCons (dVar 13) aNil)))))) (bOr (b2 neD (dVar 14) (dVar 11)) (bNot (bTru (dCall F__law_pair_of (aCons (dCall (starF 0 F_net) aNil) (aCons (dLst aNil) (aCons (dLst aNil) aNil)))))))) (sRet (dC (.bl false))) sNil)
    t20_law)
def t18_law : Env → Os := (sSeq (sSet 14 (dN listN (aCons (dVar 11) aNil)))
    t19_law)
def t17_law : Env → Os := (sSeq (sSet 13 (dN sortN (aCons (dLc (iSeqB (dVar 4)) 17 [17] (bOr (b2 eqD (d2 ixD (dVar 17) (dC (.int 2))) (dC (.int 0))) (b2 eqD (d2 ixD (dVar 17) (dC (.int 2))) (dC (.int 5)))) e6_law) aNil)))
    t18_law)
def t16_law : Env → Os := (sSeq (sSet 12 (dN sortN (aCons (dLc (iSeqB (dVar 4)) 17 [17] (bOr (b2 eqD (d2 ixD (dVar 17) (dC (.int 2))) (dC (.int 1))) (b2 eqD (d2 ixD (dVar 17) (dC (.int 2))) (dC (.int 2)))) e5_law) aNil)))
    t17_law)
def t15_law : Env → Os := (sSeq (sSet 11 (dCall F__law_rounds (aCons (dVar 4) (aCons (d2 modD (dN intN (aCons (d2 ixD (dVar 1) (dC (.int 3))) aNil)) (dC (.int 3))) aNil))))
    t16_law)
def t14_law : Env → Os := (sSeq (sIf (bOr (bNot (bTru (dCall F__law_pair_of (aCons (dCall F_difference (aCons (dVar 6) (aCons (dVar 5) aNil))) (aCons (dVar 8) (aCons (dVar 7) aNil)))))) (bNot (bTru (dCall F__law_pair_of (aCons (dCall F_difference (aCons (dVar 5) (aCons (dVar 6) aNil))) (aCons (dVar 7) (aCons (dVar 8) aNil))))))) (sRet (dC (.bl false))) sNil)
    t15_law)
def t13_law : Env → Os := (sSeq (sAppTp 10 (dC (.int 1)) (dC (.int 1)))
    t14_law)
def t12_law : Env → Os := (sSeq (sAppTp 10 (dC (.int 0)) (dC (.int 1)))
    t13_law)
def t11_law : Env → Os := (sFrz 6 (sFrz 5 (sSeq (sIf (bOr (bNot (bTru (dCall F__law_pair_of (aCons (dVar 10) (aCons (dVar 7) (aCons (dVar 8) aNil)))))) (b2 neD (dVar 9) (dLst (aCons (dFz (dVar 5)) (aCons (dFz (dVar 6)) aNil))))) (sRet (dC (.bl false))) sNil)
    t12_law)))
def t10_law : Env → Os := (sSeq (sSet 10 (dCall F_difference (aCons (d2 ixD (dVar 9) (dC (.int 0))) (aCons (d2 ixD (dVar 9) (dC (.int 1))) aNil))))
    t11_law)
def t9_law : Env → Os := (sSeq (sSet 9 (dLst (aCons (dN listN (aCons (dVar 5) aNil)) (aCons (dN listN (aCons (dVar 6) aNil)) aNil))))
    t10_law)
def t8_law : Env → Os := (sSeq (sSet 8 (dN sortN (aCons (dLc (iSeqB (dVar 4)) 17 [17] (b2 eqD (d2 ixD (dVar 17) (dC (.int 1))) (dC (.int 1))) e4_law) aNil)))
    t9_law)
def t7_law : Env → Os := (sSeq (sSet 7 (dN sortN (aCons (dLc (iSeqB (dVar 4)) 17 [17] (b2 eqD (d2 ixD (dVar 17) (dC (.int 1))) (dC (.int 0))) e3_law) aNil)))
    t8_law)
def t6_law : Env → Os := (sSeq (sSet 6 (d1 revD (dLc (iSeqB (dVar 4)) 17 [17] (bOr (b2 eqD (d2 ixD (dVar 17) (dC (.int 1))) (dC (.int 1))) (b2 eqD (d2 ixD (dVar 17) (dC (.int 1))) (dC (.int 2)))) e2_law)))
    t7_law)
def t5_law : Env → Os := (sSeq (sSet 5 (dLc (iSeqB (dVar 4)) 17 [17] (bOr (b2 eqD (d2 ixD (dVar 17) (dC (.int 1))) (dC (.int 0))) (b2 eqD (d2 ixD (dVar 17) (dC (.int 1))) (dC (.int 2)))) e1_law))
    t6_law)
def t4_law : Env → Os := (sSeq (sSet 4 (dCall F__law_pool_2 (aCons (dCall F__law_row (aCons (dCall F__law_cell (aCons (dVar 0) (aCons (dC (.int 1)) aNil))) (aCons (dC (.int 72)) aNil))) (aCons (dCall F__law_count (aCons (d2 ixD (dVar 1) (dC (.int 1))) (aCons (dC (.int 12)) aNil))) (aCons (dVar 2) (aCons (dVar 3) aNil))))))
    t5_law)
def t3_law : Env → Os := (sSeq (sSet 3 (dCall F__law_big (aCons (dCall F__law_cell (aCons (dVar 0) (aCons (dC (.int 3)) aNil))) aNil)))
    t4_law)
def t2_law : Env → Os := (sSeq (sSet 2 (dCall F__law_big (aCons (dCall F__law_cell (aCons (dVar 0) (aCons (dC (.int 2)) aNil))) aNil)))
    t3_law)
def t1_law : Env → Os := (sSeq (sSet 1 (dCall F__law_row (aCons (dCall F__law_cell (aCons (dVar 0) (aCons (dC (.int 0)) aNil))) (aCons (dC (.int 8)) aNil))))
    t2_law)
def g_law : Env → Os := t1_law
def F_law : List D → Ou D := runF 18 g_law
section
variable [Tb] {P : Program} {w : World} {K : PySem.W.Frag} {mg : Str → Option Value} {base : Heap} {f : Addr} {fd : FuncData}
theorem dn__law_row (F : FnP K "_law_row" (topS 5) f fd) (hm : mg "_law_row" = some (.ref f))  (m_abs : mg "abs" = none) (m_range : mg "range" = none) (m_int : mg "int" = none) : Dn P w K mg base 1 "_law_row" 2 F__law_row := by
  refine dn_of (N := ["_law_cell_here", "_law_count_here", "_law_size", "_law_row_here", "_law_k", "_law_seed", "_law_mixed"]) (ps := ["_law_cell_here", "_law_count_here"]) (g := g__law_row) F hm sc__law_row (fun _ _ _ _ _ _ us hl => match us, hl with | [_, _], _ => rfl) fun cdv A outer s H E C => ?_
  have hu := C.hr.units
  have hu65 := C.hr.units65
  refine DSs.cons (DS.set 2 (DE.callB call_abs opN_abs (by rfl) m_abs boot_abs (DAB.cons (DB.var 0) DAB.nil)) C.nd) ?_
  refine DSs.cons (DS.set 3 (DE.lst DA.nil) C.nd) ?_
  refine DSs.cons (DS.if_ (DT.cmp op_ge op_geD (DB.var 2) (DB.ofE (DE.op2 op_pow op_powD (DB.ofE DE.int) (DB.ofE DE.int))) (nomark _)) (DSs.cons (DS.for_ C (DI.rng1 (DAB.cons (DB.var 1) DAB.nil) m_range) (DG.name 4 C.nd) (DSs.cons (DS.app 3 (DE.op2 op_mod op_modD (DB.ofE (DE.callTy call_int1 opN_int (by rfl) m_int boot_int (DAB.cons (DB.var 2) DAB.nil))) (DB.ofE DE.int)))
    (DSs.one (DS.set 2 (DE.op2 op_fdivW op_fdivD (DB.var 2) (DB.ofE DE.int)) C.nd))))
    (DSs.one (DS.retV 3))) DSs.nil) ?_
  refine DSs.cons (DS.set 5 (DE.op2 op_addA op_addD (DB.ofE (DE.op2 op_mulA op_mulD (DB.ofE DE.int) (DB.var 2))) (DB.ofE (DE.callTy call_int1 opN_int (by rfl) m_int boot_int (DAB.cons (DB.ofE (DE.cmp op_lt op_ltD (DB.var 0) (DB.ofE DE.int) (nomark _))) DAB.nil)))) C.nd) ?_
  refine DSs.cons (DS.for_ C (DI.rng1 (DAB.cons (DB.var 1) DAB.nil) m_range) (DG.name 4 C.nd) (DSs.cons (DS.set 6 (DE.op2 op_mod op_modD (DB.ofE (DE.callTy call_int1 opN_int (by rfl) m_int boot_int (DAB.cons (DB.ofE (DE.op2 op_mulA op_mulD (DB.var 5) (DB.ofE (DE.op2 op_addA op_addD (DB.ofE (DE.op2 op_addA op_addD (DB.ofE DE.int) (DB.ofE (DE.op2 op_mulA op_mulD (DB.ofE (DE.op2 op_mulA op_mulD (DB.ofE DE.int) (DB.var 4))) (DB.var 4))))) (DB.ofE (DE.op2 op_mulA op_mulD (DB.ofE DE.int) (DB.var 4))))))) DAB.nil))) (DB.ofE DE.int)) C.nd)
    (DSs.cons (DS.set 6 (DE.op2 op_mod op_modD (DB.ofE (DE.callTy call_int1 opN_int (by rfl) m_int boot_int (DAB.cons (DB.ofE (DE.op2 op_addA op_addD (DB.ofE (DE.op2 op_mulA op_mulD (DB.var 6) (DB.var 6))) (DB.ofE (DE.op2 op_mulA op_mulD (DB.var 6) (DB.ofE (DE.op2 op_addA op_addD (DB.var 4) (DB.ofE DE.int))))))) DAB.nil))) (DB.ofE DE.int)) C.nd)
    (DSs.one (DS.app 3 (DE.op2 op_mod op_modD (DB.ofE (DE.callTy call_int1 opN_int (by rfl) m_int boot_int (DAB.cons (DB.var 6) DAB.nil))) (DB.ofE DE.int))))))) ?_
  exact DSs.one (DS.retV 3)
theorem dn__law_big (F : FnP K "_law_big" (topS 6) f fd) (hm : mg "_law_big" = some (.ref f))  (m_abs : mg "abs" = none) (m_int : mg "int" = none) : Dn P w K mg base 1 "_law_big" 1 F__law_big := by
  refine dn_of (N := ["_law_cell_here", "_law_number"]) (ps := ["_law_cell_here"]) (g := g__law_big) F hm sc__law_big (fun _ _ _ _ _ _ us hl => match us, hl with | [_], _ => rfl) fun cdv A outer s H E C => ?_
  have hu := C.hr.units
  have hu65 := C.hr.units65
  refine DSs.cons (DS.set 1 (DE.op2 op_mod op_modD (DB.ofE (DE.callTy call_int1 opN_int (by rfl) m_int boot_int (DAB.cons (DB.ofE (DE.callB call_abs opN_abs (by rfl) m_abs boot_abs (DAB.cons (DB.var 0) DAB.nil))) DAB.nil))) (DB.ofE (DE.op2 op_pow op_powD (DB.ofE DE.int) (DB.ofE DE.int)))) C.nd) ?_
  refine DSs.cons (DS.if_ (DT.cmp op_lt op_ltD (DB.var 0) (DB.ofE DE.int) (nomark _)) (DSs.one (DS.ret (DE.op1 un_neg op_negD (DB.var 1)))) DSs.nil) ?_
  exact DSs.one (DS.retV 1)
theorem dn__law_value (F : FnP K "_law_value" (topS 8) f fd) (hm : mg "_law_value" = some (.ref f))  (m_int : mg "int" = none) : Dn P w K mg base 1 "_law_value" 3 F__law_value := by
  refine dn_of (N := ["_law_number", "_law_other", "_law_big_here"]) (ps := ["_law_number", "_law_other", "_law_big_here"]) (g := g__law_value) F hm sc__law_value (fun _ _ _ _ _ _ us hl => match us, hl with | [_, _, _], _ => rfl) fun cdv A outer s H E C => ?_
  have hu := C.hr.units
  have hu65 := C.hr.units65
  exact DSs.one (DS.ret (DE.ofB (DB.ix (DB.ofE (DE.lst (DA.cons DE.int (DA.cons DE.int (DA.cons DE.int (DA.cons DE.int (DA.cons (DE.op1 un_neg op_negD (DB.ofE DE.int)) (DA.cons DE.int (DA.cons DE.int (DA.cons (DE.ofB (DB.var 1)) (DA.cons (DE.op1 un_neg op_negD (DB.var 1)) (DA.cons (DE.op2 op_addA op_addD (DB.var 2) (DB.var 1)) (DA.cons (DE.op2 op_sub op_subD (DB.var 2) (DB.var 1)) DA.nil))))))))))))) (DB.ofE (DE.op2 op_mod op_modD (DB.ofE (DE.callTy call_int1 opN_int (by rfl) m_int boot_int (DAB.cons (DB.var 0) DAB.nil))) (DB.ofE DE.int))))))
theorem dn__law_pool (F : FnP K "_law_pool" (topS 10) f fd) (hm : mg "_law_pool" = some (.ref f)) (d__law_value : Dn P w K mg base 1 "_law_value" 3 F__law_value) (m_range : mg "range" = none) (m_int : mg "int" = none) : Dn P w K mg base 2 "_law_pool" 4 F__law_pool_2 := by
  refine dn_of (N := ["_law_row_here", "_law_count_here", "_law_base", "_law_big_here", "_law_pool_here", "_law_k", "_law_part", "_law_key", "_law_first", "_law_word", "_law_session", "_law_entry"]) (ps := ["_law_row_here", "_law_count_here", "_law_base", "_law_big_here"]) (g := g__law_pool_2) F hm sc__law_pool (fun _ _ _ _ _ _ us hl => match us, hl with | [_, _, _, _], _ => rfl) fun cdv A outer s H E C => ?_
  have hu := C.hr.units
  have hu65 := C.hr.units65
  refine DSs.cons (DS.set 4 (DE.lst DA.nil) C.nd) ?_
  refine DSs.cons (DS.for_ C (DI.rng1 (DAB.cons (DB.var 1) DAB.nil) m_range) (DG.name 5 C.nd) (DSs.cons (DS.set 6 (DE.slice (DB.var 0) (DO.some (DB.ofE (DE.op2 op_mulA op_mulD (DB.ofE DE.int) (DB.var 5)))) (DO.some (DB.ofE (DE.op2 op_addA op_addD (DB.ofE (DE.op2 op_mulA op_mulD (DB.ofE DE.int) (DB.var 5))) (DB.ofE DE.int))))) C.nd)
    (DSs.cons (DS.set 7 (DE.ofB (DB.ix (DB.ofE (DE.lst (DA.cons DE.str (DA.cons DE.str (DA.cons DE.str (DA.cons DE.str DA.nil)))))) (DB.ofE (DE.op2 op_mod op_modD (DB.ofE (DE.callTy call_int1 opN_int (by rfl) m_int boot_int (DAB.cons (DB.ix (DB.var 6) (DB.ofE DE.int)) DAB.nil))) (DB.ofE DE.int))))) C.nd)
    (DSs.cons (DS.set 8 (DE.op2 op_addA op_addD (DB.var 2) (DB.ofE (DE.op2 op_mod op_modD (DB.ofE (DE.op2 op_fdivW op_fdivD (DB.ofE (DE.callTy call_int1 opN_int (by rfl) m_int boot_int (DAB.cons (DB.ix (DB.var 6) (DB.ofE DE.int)) DAB.nil))) (DB.ofE DE.int))) (DB.ofE DE.int)))) C.nd)
    (DSs.cons (DS.set 9 (DE.tup (DA.cons (DE.call C d__law_value (DAB.cons (DB.ix (DB.var 6) (DB.ofE DE.int)) (DAB.cons (DB.ix (DB.var 6) (DB.ofE DE.int)) (DAB.cons (DB.var 3) DAB.nil)))) (DA.cons (DE.call C d__law_value (DAB.cons (DB.ix (DB.var 6) (DB.ofE DE.int)) (DAB.cons (DB.ix (DB.var 6) (DB.ofE DE.int)) (DAB.cons (DB.var 3) DAB.nil)))) DA.nil))) C.nd)
    (DSs.cons (DS.if_ (DT.cmp (op_eqD hu) op_eqDD (DB.ofE (DE.op2 op_mod op_modD (DB.ofE (DE.op2 op_fdivW op_fdivD (DB.ofE (DE.callTy call_int1 opN_int (by rfl) m_int boot_int (DAB.cons (DB.ix (DB.var 6) (DB.ofE DE.int)) DAB.nil))) (DB.ofE DE.int))) (DB.ofE DE.int))) (DB.ofE DE.int) (nomark _)) (DSs.one (DS.set 9 (DE.slice (DB.var 9) DO.none (DO.some (DB.ofE DE.int))) C.nd)) DSs.nil)
    (DSs.frz 9 (DSs.cons (DS.set 10 (DE.tup (DA.cons (DE.ofB (DB.var 7)) (DA.cons (DE.ofB (DB.var 8)) (DA.cons (DE.op2 op_addA op_addD (DB.var 8) (DB.ofE (DE.op2 op_mod op_modD (DB.ofE (DE.callTy call_int1 opN_int (by rfl) m_int boot_int (DAB.cons (DB.ix (DB.var 6) (DB.ofE DE.int)) DAB.nil))) (DB.ofE DE.int)))) (DA.cons (DE.ofB (DB.var 9)) DA.nil))))) C.nd)
    (DSs.one (DS.if_ (DT.cmp (op_notInA hu65) op_notInDD (DB.var 10) (DB.ofE (DE.lc (own := [("_law_entry", 11)]) C (DIB.seq (DB.var 4)) (blkOk_by (by kernel_rfl)) (fun _ _ _ _ _ => pg_name (i:=11) C.nd rfl (Or.inl rfl)) (fun s1 H1 D1 cl1 fp1 => DTs.nil) (fun s1 H1 D1 cl1 fp1 => (DE.ofB (DB.ix (DB.var 11) (DB.ofE DE.int)))))) (by with_unfolding_all rfl)) (DSs.one (DS.app 4 (DE.tup (DA.cons (DE.ofB (DB.var 10)) (DA.cons (DE.op2 op_mod op_modD (DB.ofE (DE.callTy call_int1 opN_int (by rfl) m_int boot_int (DAB.cons (DB.ix (DB.var 6) (DB.ofE DE.int)) DAB.nil))) (DB.ofE DE.int)) (DA.cons (DE.op2 op_mod op_modD (DB.ofE (DE.callTy call_int1 opN_int (by rfl) m_int boot_int (DAB.cons (DB.ix (DB.var 6) (DB.ofE DE.int)) DAB.nil))) (DB.ofE DE.int)) DA.nil)))))) DSs.nil)))))))))) ?_
  exact DSs.one (DS.retV 4)
theorem dn_difference (F : FnP K "difference" (topS 1) f fd) (hm : mg "difference" = some (.ref f))  (m_sorted : mg "sorted" = none) : Dn P w K mg base 1 "difference" 2 F_difference := by
  refine dn_of (N := ["before", "after", "gone", "come", "row"]) (ps := ["before", "after"]) (g := g_difference) F hm sc_difference (fun _ _ _ _ _ _ us hl => match us, hl with | [_, _], _ => rfl) fun cdv A outer s H E C => ?_
  have hu := C.hr.units
  have hu65 := C.hr.units65
  refine DSs.cons (DS.setLc (own := [("row", 4)]) C (DIB.seq (DB.var 0)) (blkOk_by (by kernel_rfl)) (fun _ _ _ _ _ => pg_name (i:=4) C.nd rfl (Or.inl rfl)) (fun s1 H1 D1 cl1 fp1 => (DTs.one (DT.cmp (op_notInA hu65) op_notInDD (DB.var 4) (DB.var 1) (by with_unfolding_all rfl)))) (fun s1 H1 D1 cl1 fp1 => (DE.ofB (DB.var 4)))) ?_
  refine DSs.cons (DS.setLc (own := [("row", 4)]) C (DIB.seq (DB.var 1)) (blkOk_by (by kernel_rfl)) (fun _ _ _ _ _ => pg_name (i:=4) C.nd rfl (Or.inl rfl)) (fun s2 H2 D2 cl2 fp2 => (DTs.one (DT.cmp (op_notInA hu65) op_notInDD (DB.var 4) (DB.var 0) (by with_unfolding_all rfl)))) (fun s2 H2 D2 cl2 fp2 => (DE.ofB (DB.var 4)))) ?_
  exact DSs.one (DS.ret (DE.tup (DA.cons (DE.callB (call_sortD hu65) opN_sort (by rfl) m_sorted boot_sorted (DAB.cons (DB.var 2) DAB.nil)) (DA.cons (DE.callB (call_sortD hu65) opN_sort (by rfl) m_sorted boot_sorted (DAB.cons (DB.var 3) DAB.nil)) DA.nil))))
theorem dn__law_words_of (F : FnP K "_law_words_of" (topS 11) f fd) (hm : mg "_law_words_of" = some (.ref f))   : Dn P w K mg base 1 "_law_words_of" 2 F__law_words_of := by
  refine dn_of (N := ["_law_session", "_law_pattern", "_law_tell", "_law_retract", "_law_final"]) (ps := ["_law_session", "_law_pattern"]) (g := g__law_words_of) F hm sc__law_words_of (fun _ _ _ _ _ _ us hl => match us, hl with | [_, _], _ => rfl) fun cdv A outer s H E C => ?_
  have hu := C.hr.units
  have hu65 := C.hr.units65
  refine DSs.cons (DS.set 2 (DE.op2 op_addA op_addD (DB.ofE (DE.tup (DA.cons DE.str DA.nil))) (DB.var 0)) C.nd) ?_
  refine DSs.cons (DS.set 3 (DE.op2 op_addA op_addD (DB.ofE (DE.tup (DA.cons DE.str DA.nil))) (DB.var 0)) C.nd) ?_
  refine DSs.cons (DS.set 4 (DE.op2 op_addA op_addD (DB.ofE (DE.tup (DA.cons DE.str DA.nil))) (DB.var 0)) C.nd) ?_
  exact DSs.one (DS.ret (DE.ixO (DE.lst (DA.cons (DE.lst (DA.cons (DE.ofB (DB.var 2)) DA.nil)) (DA.cons (DE.lst (DA.cons (DE.ofB (DB.var 3)) DA.nil)) (DA.cons (DE.lst (DA.cons (DE.ofB (DB.var 4)) DA.nil)) (DA.cons (DE.lst (DA.cons (DE.ofB (DB.var 2)) (DA.cons (DE.ofB (DB.var 3)) DA.nil))) (DA.cons (DE.lst (DA.cons (DE.ofB (DB.var 3)) (DA.cons (DE.ofB (DB.var 2)) DA.nil))) (DA.cons (DE.lst (DA.cons (DE.ofB (DB.var 2)) (DA.cons (DE.ofB (DB.var 3)) (DA.cons (DE.ofB (DB.var 2)) DA.nil)))) DA.nil))))))) (DB.var 1)))
theorem dn__law_rounds (F : FnP K "_law_rounds" (topS 12) f fd) (hm : mg "_law_rounds" = some (.ref f)) (d__law_words_of : Dn P w K mg base 1 "_law_words_of" 2 F__law_words_of) (m_range : mg "range" = none) (m_len : mg "len" = none) : Dn P w K mg base 2 "_law_rounds" 2 F__law_rounds := by
  refine dn_of (N := ["_law_pool_here", "_law_late", "_law_words", "_law_turn", "_law_session", "_law_place", "_law_pattern", "_law_lot", "_law_k"]) (ps := ["_law_pool_here", "_law_late"]) (g := g__law_rounds) F hm sc__law_rounds (fun _ _ _ _ _ _ us hl => match us, hl with | [_, _], _ => rfl) fun cdv A outer s H E C => ?_
  have hu := C.hr.units
  have hu65 := C.hr.units65
  refine DSs.cons (DS.set 2 (DE.lst DA.nil) C.nd) ?_
  refine DSs.cons (DS.for_ C (DI.rng1 (DAB.cons (DB.ofE DE.int) DAB.nil) m_range) (DG.name 3 C.nd) (DSs.cons (DS.for_ C (DI.seq (DE.ofB (DB.var 0))) (DG.tup [4, 5, 6] C.calm (GN.cons 4 C.nd (GN.cons 5 C.nd (GN.cons 6 C.nd GN.nil)))) (DSs.cons (DS.set 7 (DE.call C d__law_words_of (DAB.cons (DB.var 4) (DAB.cons (DB.var 6) DAB.nil))) C.nd)
    (DSs.one (DS.if_ (DT.cmp op_lt op_ltD (DB.var 3) (DB.ofE (DE.callB call_len opN_len (by rfl) m_len boot_len (DAB.cons (DB.var 7) DAB.nil))) (nomark _)) (DSs.one (DS.app 2 (DE.ofB (DB.ix (DB.var 7) (DB.var 3))))) DSs.nil))))
    (DSs.one (DS.for_ C (DI.rng1 (DAB.cons (DB.var 1) DAB.nil) m_range) (DG.name 8 C.nd) (DSs.one (DS.app 2 (DE.tup (DA.cons DE.str (DA.cons DE.str (DA.cons (DE.ofB (DB.var 8)) (DA.cons (DE.ofB (DB.var 3)) DA.nil))))))))))) ?_
  exact DSs.one (DS.retV 2)
theorem dn__law_pair_of (F : FnP K "_law_pair_of" (topS 9) f fd) (hm : mg "_law_pair_of" = some (.ref f))  (m_isinstance : mg "isinstance" = none) (m_tuple : mg "tuple" = none) (m_len : mg "len" = none) (m_list : mg "list" = none) : Dn P w K mg base 1 "_law_pair_of" 3 F__law_pair_of := by
  refine dn_of (N := ["_law_got", "_law_gone", "_law_come"]) (ps := ["_law_got", "_law_gone", "_law_come"]) (g := g__law_pair_of) F hm sc__law_pair_of (fun _ _ _ _ _ _ us hl => match us, hl with | [_, _, _], _ => rfl) fun cdv A outer s H E C => ?_
  have hu := C.hr.units
  have hu65 := C.hr.units65
  refine DSs.cons (DS.if_ (DT.ofW (DW.or (DT.not (DT.tru (DB.ofE (DE.isi .tuple (DB.var 0) m_isinstance m_tuple)))) (DW.or (DT.cmp (op_neD hu) op_neDD (DB.ofE (DE.callB call_len opN_len (by rfl) m_len boot_len (DAB.cons (DB.var 0) DAB.nil))) (DB.ofE DE.int) (nomark _)) (DW.or (DT.not (DT.tru (DB.ofE (DE.isi .list (DB.ix (DB.var 0) (DB.ofE DE.int)) m_isinstance m_list)))) (DW.or1 (DT.not (DT.tru (DB.ofE (DE.isi .list (DB.ix (DB.var 0) (DB.ofE DE.int)) m_isinstance m_list))))))))) (DSs.one (DS.ret DE.bl)) DSs.nil) ?_
  exact DSs.one (DS.ret (DE.and (DE.cmp (op_eqD hu) op_eqDD (DB.ix (DB.var 0) (DB.ofE DE.int)) (DB.var 1) (nomark _)) (DE.one (DE.cmp (op_eqD hu) op_eqDD (DB.ix (DB.var 0) (DB.ofE DE.int)) (DB.var 2) (nomark _)))))
theorem dn__law_cell (F : FnP K "_law_cell" (topS 4) f fd) (hm : mg "_law_cell" = some (.ref f))  (m_len : mg "len" = none) (m_int : mg "int" = none) : Dn P w K mg base 1 "_law_cell" 2 F__law_cell := by
  refine dn_of (N := ["_law_script", "_law_k"]) (ps := ["_law_script", "_law_k"]) (g := g__law_cell) F hm sc__law_cell (fun _ _ _ _ _ _ us hl => match us, hl with | [_, _], _ => rfl) fun cdv A outer s H E C => ?_
  have hu := C.hr.units
  have hu65 := C.hr.units65
  refine DSs.cons (DS.if_ (DT.cmp op_lt op_ltD (DB.var 1) (DB.ofE (DE.callB call_len opN_len (by rfl) m_len boot_len (DAB.cons (DB.var 0) DAB.nil))) (nomark _)) (DSs.one (DS.ret (DE.callTy call_int1 opN_int (by rfl) m_int boot_int (DAB.cons (DB.ix (DB.var 0) (DB.var 1)) DAB.nil)))) DSs.nil) ?_
  exact DSs.one (DS.ret DE.int)
theorem dn__law_count (F : FnP K "_law_count" (topS 7) f fd) (hm : mg "_law_count" = some (.ref f))  (m_int : mg "int" = none) : Dn P w K mg base 1 "_law_count" 2 F__law_count := by
  refine dn_of (N := ["_law_number", "_law_most"]) (ps := ["_law_number", "_law_most"]) (g := g__law_count) F hm sc__law_count (fun _ _ _ _ _ _ us hl => match us, hl with | [_, _], _ => rfl) fun cdv A outer s H E C => ?_
  have hu := C.hr.units
  have hu65 := C.hr.units65
  refine DSs.cons (DS.if_ (DT.cmp op_lt op_ltD (DB.var 0) (DB.ofE DE.int) (nomark _)) (DSs.one (DS.ret (DE.op2 op_fdivW op_fdivD (DB.var 0) (DB.ofE DE.int)))) DSs.nil) ?_
  exact DSs.one (DS.ret (DE.op2 op_addA op_addD (DB.ofE DE.int) (DB.ofE (DE.op2 op_mod op_modD (DB.ofE (DE.callTy call_int1 opN_int (by rfl) m_int boot_int (DAB.cons (DB.var 0) DAB.nil))) (DB.ofE (DE.op2 op_sub op_subD (DB.var 1) (DB.ofE DE.int)))))))
theorem dn_net (F : FnP K "net" (topS 2) f fd) (hm : mg "net" = some (.ref f))  (m_sorted : mg "sorted" = none) : DnS P w K mg base 1 "net" 0 F_net := by
  refine dns_of (N := ["lots", "counts", "words", "word", "gone", "come", "row"]) (ps := []) (pv := "lots") (g := g_net) F hm sc_net (fun kV doc pm an cdv ct => bind_star0 (B := fun as => bindArgs (PySem.W.fnOf "net" "net" (defArgs (topS 2)) (defBody (topS 2)) (defScope (topS 2)) .none kV doc pm an cdv ct) ⟨as, []⟩) rfl (fun _ _ => rfl)) fun cdv A outer s H E C => ?_
  have hu := C.hr.units
  have hu65 := C.hr.units65
  exact (DSs.newK 1 (DSF.cons (DSK.for_ C (DI.seq (DE.ofB (DB.var 0))) (DG.name 2 C.nd) (fun _ _ _ e => tgN_ne (by decide) e) (DSKl.cons (DSK.for_ C (DI.seq (DE.ofB (DB.var 2))) (DG.name 3 C.nd) (fun _ _ _ e => tgN_ne (by decide) e) (DSKl.cons (DSK.if_ (DT.cmp (op_eqD hu) op_eqDD (DB.ix (DB.var 3) (DB.ofE DE.int)) (DB.ofE DE.str) (nomark _)) (DSKl.cons (DSK.add 1 hu65 op_addA op_addD (DE.slice (DB.var 3) (DO.some (DB.ofE DE.int)) DO.none) (DE.slice (DB.var 3) (DO.some (DB.ofE DE.int)) DO.none) ⟨rfl, rfl, rfl, rfl⟩ rfl) DSKl.nil) (DSKl.cons (DSK.if_ (DT.cmp (op_neD hu) op_neDD (DB.ix (DB.var 3) (DB.ofE DE.int)) (DB.ofE DE.str) (nomark _)) (DSKl.cons (DSK.add 1 hu65 op_sub op_subD (DE.slice (DB.var 3) (DO.some (DB.ofE DE.int)) DO.none) (DE.slice (DB.var 3) (DO.some (DB.ofE DE.int)) DO.none) ⟨rfl, rfl, rfl, rfl⟩ rfl) DSKl.nil) DSKl.nil) DSKl.nil)) DSKl.nil)) DSKl.nil)) (DSF.lock (DSL.lc (own := [("row", 6)]) 1 6 4 C op_ltD (DSL.lc (own := [("row", 6)]) 1 6 5 C op_gtD (DSL.of (DSs.one (DS.ret (DE.tup (DA.cons (DE.callB (call_sortD hu65) opN_sort (by rfl) m_sorted boot_sorted (DAB.cons (DB.var 4) DAB.nil)) (DA.cons (DE.callB (call_sortD hu65) opN_sort (by rfl) m_sorted boot_sorted (DAB.cons (DB.var 5) DAB.nil)) DA.nil)))))) (blkOk_by (by kernel_rfl)) (fun _ _ _ _ _ => pg_name (i:=6) C.nd rfl (Or.inl rfl)) (fun s1 H1 D1 cl1 fp1 => pt_nk 1 6 (Ctx.blk C s1 H1 _ _ fp1).hr.units65 op_gt rfl (by first | exact Or.inl rfl | exact Or.inr (Or.inl rfl) | exact Or.inr (Or.inr rfl)) (by decide) (by decide) rfl (by first | exact Or.inl rfl | exact Or.inr (Or.inl rfl) | exact Or.inr (Or.inr rfl)) (by decide) (by decide) (nomark _)) (fun _ _ _ _ _ => pv 6 rfl (by first | exact Or.inl rfl | exact Or.inr (Or.inl rfl) | exact Or.inr (Or.inr rfl)) (by decide) (by decide))) (blkOk_by (by kernel_rfl)) (fun _ _ _ _ _ => pg_name (i:=6) C.nd rfl (Or.inl rfl)) (fun s1 H1 D1 cl1 fp1 => pt_nk 1 6 (Ctx.blk C s1 H1 _ _ fp1).hr.units65 op_lt rfl (by first | exact Or.inl rfl | exact Or.inr (Or.inl rfl) | exact Or.inr (Or.inr rfl)) (by decide) (by decide) rfl (by first | exact Or.inl rfl | exact Or.inr (Or.inl rfl) | exact Or.inr (Or.inr rfl)) (by decide) (by decide) (nomark _)) (fun _ _ _ _ _ => pv 6 rfl (by first | exact Or.inl rfl | exact Or.inr (Or.inl rfl) | exact Or.inr (Or.inr rfl)) (by decide) (by decide))))) C.nd)
theorem dn_law (F : FnP K "law" (topS 13) f fd) (hm : mg "law" = some (.ref f)) (d__law_cell : Dn P w K mg base 1 "_law_cell" 2 F__law_cell) (d__law_row : Dn P w K mg base 1 "_law_row" 2 F__law_row) (d__law_big : Dn P w K mg base 1 "_law_big" 1 F__law_big) (d__law_count : Dn P w K mg base 1 "_law_count" 2 F__law_count) (d__law_pool : Dn P w K mg base 2 "_law_pool" 4 F__law_pool_2) (d_difference : Dn P w K mg base 1 "difference" 2 F_difference) (d__law_pair_of : Dn P w K mg base 1 "_law_pair_of" 3 F__law_pair_of) (d__law_rounds : Dn P w K mg base 2 "_law_rounds" 2 F__law_rounds) (d_net : DnS P w K mg base 1 "net" 0 F_net) (m_sorted : mg "sorted" = none) (m_list : mg "list" = none) (m_int : mg "int" = none) (m_len : mg "len" = none) : FnOk P w K mg base (L2.CX P w) 3 f fd ["_law_script"] (spF K 1 F_law) := by
  refine fnF (N := ["_law_script", "_law_d", "_law_base", "_law_big_here", "_law_pool_here", "_law_before", "_law_after", "_law_gone", "_law_come", "_law_handed", "_law_got", "_law_words", "_law_lost", "_law_won", "_law_given", "_law_one", "_law_two", "_law_entry"]) (ps := ["_law_script"]) (g := g_law) F sc_law fun cdv A outer s H E C => ?_
  have hu := C.hr.units
  have hu65 := C.hr.units65
  refine DSs.cons (DS.set 1 (DE.call C d__law_row (DAB.cons (DB.ofE (DE.call C d__law_cell (DAB.cons (DB.var 0) (DAB.cons (DB.ofE DE.int) DAB.nil)))) (DAB.cons (DB.ofE DE.int) DAB.nil))) C.nd) ?_
  refine DSs.cons (DS.set 2 (DE.call C d__law_big (DAB.cons (DB.ofE (DE.call C d__law_cell (DAB.cons (DB.var 0) (DAB.cons (DB.ofE DE.int) DAB.nil)))) DAB.nil)) C.nd) ?_
  refine DSs.cons (DS.set 3 (DE.call C d__law_big (DAB.cons (DB.ofE (DE.call C d__law_cell (DAB.cons (DB.var 0) (DAB.cons (DB.ofE DE.int) DAB.nil)))) DAB.nil)) C.nd) ?_
  refine DSs.cons (DS.set 4 (DE.call C d__law_pool (DAB.cons (DB.ofE (DE.call C d__law_row (DAB.cons (DB.ofE (DE.call C d__law_cell (DAB.cons (DB.var 0) (DAB.cons (DB.ofE DE.int) DAB.nil)))) (DAB.cons (DB.ofE DE.int) DAB.nil)))) (DAB.cons (DB.ofE (DE.call C d__law_count (DAB.cons (DB.ix (DB.var 1) (DB.ofE DE.int)) (DAB.cons (DB.ofE DE.int) DAB.nil)))) (DAB.cons (DB.var 2) (DAB.cons (DB.var 3) DAB.nil))))) C.nd) ?_
  refine DSs.cons (DS.setLc (own := [("_law_entry", 17)]) C (DIB.seq (DB.var 4)) (blkOk_by (by kernel_rfl)) (fun _ _ _ _ _ => pg_name (i:=17) C.nd rfl (Or.inl rfl)) (fun s1 H1 D1 cl1 fp1 => (DTs.one (DT.ofW (DW.or (DT.cmp (op_eqD hu) op_eqDD (DB.ix (DB.var 17) (DB.ofE DE.int)) (DB.ofE DE.int) (nomark _)) (DW.or1 (DT.cmp (op_eqD hu) op_eqDD (DB.ix (DB.var 17) (DB.ofE DE.int)) (DB.ofE DE.int) (nomark _))))))) (fun s1 H1 D1 cl1 fp1 => (DE.ofB (DB.ix (DB.var 17) (DB.ofE DE.int))))) ?_
  refine DSs.cons (DS.set 6 (DE.rev (DB.ofE (DE.lc (own := [("_law_entry", 17)]) C (DIB.seq (DB.var 4)) (blkOk_by (by kernel_rfl)) (fun _ _ _ _ _ => pg_name (i:=17) C.nd rfl (Or.inl rfl)) (fun s2 H2 D2 cl2 fp2 => (DTs.one (DT.ofW (DW.or (DT.cmp (op_eqD hu) op_eqDD (DB.ix (DB.var 17) (DB.ofE DE.int)) (DB.ofE DE.int) (nomark _)) (DW.or1 (DT.cmp (op_eqD hu) op_eqDD (DB.ix (DB.var 17) (DB.ofE DE.int)) (DB.ofE DE.int) (nomark _))))))) (fun s2 H2 D2 cl2 fp2 => (DE.ofB (DB.ix (DB.var 17) (DB.ofE DE.int))))))) C.nd) ?_
  refine DSs.cons (DS.set 7 (DE.callB (call_sortD hu65) opN_sort (by rfl) m_sorted boot_sorted (DAB.cons (DB.ofE (DE.lc (own := [("_law_entry", 17)]) C (DIB.seq (DB.var 4)) (blkOk_by (by kernel_rfl)) (fun _ _ _ _ _ => pg_name (i:=17) C.nd rfl (Or.inl rfl)) (fun s3 H3 D3 cl3 fp3 => (DTs.one (DT.cmp (op_eqD hu) op_eqDD (DB.ix (DB.var 17) (DB.ofE DE.int)) (DB.ofE DE.int) (nomark _)))) (fun s3 H3 D3 cl3 fp3 => (DE.ofB (DB.ix (DB.var 17) (DB.ofE DE.int)))))) DAB.nil)) C.nd) ?_
  refine DSs.cons (DS.set 8 (DE.callB (call_sortD hu65) opN_sort (by rfl) m_sorted boot_sorted (DAB.cons (DB.ofE (DE.lc (own := [("_law_entry", 17)]) C (DIB.seq (DB.var 4)) (blkOk_by (by kernel_rfl)) (fun _ _ _ _ _ => pg_name (i:=17) C.nd rfl (Or.inl rfl)) (fun s4 H4 D4 cl4 fp4 => (DTs.one (DT.cmp (op_eqD hu) op_eqDD (DB.ix (DB.var 17) (DB.ofE DE.int)) (DB.ofE DE.int) (nomark _)))) (fun s4 H4 D4 cl4 fp4 => (DE.ofB (DB.ix (DB.var 17) (DB.ofE DE.int)))))) DAB.nil)) C.nd) ?_
  refine DSs.cons (DS.set 9 (DE.lst (DA.cons (DE.callTy call_list_of opN_list (by rfl) m_list boot_list (DAB.cons (DB.var 5) DAB.nil)) (DA.cons (DE.callTy call_list_of opN_list (by rfl) m_list boot_list (DAB.cons (DB.var 6) DAB.nil)) DA.nil))) C.nd) ?_
  refine DSs.cons (DS.set 10 (DE.call C d_difference (DAB.cons (DB.ix (DB.var 9) (DB.ofE DE.int)) (DAB.cons (DB.ix (DB.var 9) (DB.ofE DE.int)) DAB.nil))) C.nd) ?_
  refine DSs.frz 6 ?_
  refine DSs.frz 5 ?_
  refine DSs.cons (DS.if_ (DT.ofW (DW.or (DT.not (DT.tru (DB.ofE (DE.call C d__law_pair_of (DAB.cons (DB.var 10) (DAB.cons (DB.var 7) (DAB.cons (DB.var 8) DAB.nil))))))) (DW.or1 (DT.cmp (op_neD hu) op_neDD (DB.var 9) (DB.ofE (DE.lst (DA.cons (DE.ofB (DB.var 5)) (DA.cons (DE.ofB (DB.var 6)) DA.nil)))) (nomark _))))) (DSs.one (DS.ret DE.bl)) DSs.nil) ?_
  refine DSs.cons (DS.appTp 10 (DB.ofE DE.int) DE.int) ?_
  refine DSs.cons (DS.appTp 10 (DB.ofE DE.int) DE.int) ?_
  refine DSs.cons (DS.if_ (DT.ofW (DW.or (DT.not (DT.tru (DB.ofE (DE.call C d__law_pair_of (DAB.cons (DB.ofE (DE.call C d_difference (DAB.cons (DB.var 6) (DAB.cons (DB.var 5) DAB.nil)))) (DAB.cons (DB.var 8) (DAB.cons (DB.var 7) DAB.nil))))))) (DW.or1 (DT.not (DT.tru (DB.ofE (DE.call C d__law_pair_of (DAB.cons (DB.ofE (DE.call C d_difference (DAB.cons (DB.var 5) (DAB.cons (DB.var 6) DAB.nil)))) (DAB.cons (DB.var 7) (DAB.cons (DB.var 8) DAB.nil)))))))))) (DSs.one (DS.ret DE.bl)) DSs.nil) ?_
  refine DSs.cons (DS.set 11 (DE.call C d__law_rounds (DAB.cons (DB.var 4) (DAB.cons (DB.ofE (DE.op2 op_mod op_modD (DB.ofE (DE.callTy call_int1 opN_int (by rfl) m_int boot_int (DAB.cons (DB.ix (DB.var 1) (DB.ofE DE.int)) DAB.nil))) (DB.ofE DE.int))) DAB.nil))) C.nd) ?_
  refine DSs.cons (DS.set 12 (DE.callB (call_sortD hu65) opN_sort (by rfl) m_sorted boot_sorted (DAB.cons (DB.ofE (DE.lc (own := [("_law_entry", 17)]) C (DIB.seq (DB.var 4)) (blkOk_by (by kernel_rfl)) (fun _ _ _ _ _ => pg_name (i:=17) C.nd rfl (Or.inl rfl)) (fun s5 H5 D5 cl5 fp5 => (DTs.one (DT.ofW (DW.or (DT.cmp (op_eqD hu) op_eqDD (DB.ix (DB.var 17) (DB.ofE DE.int)) (DB.ofE DE.int) (nomark _)) (DW.or1 (DT.cmp (op_eqD hu) op_eqDD (DB.ix (DB.var 17) (DB.ofE DE.int)) (DB.ofE DE.int) (nomark _))))))) (fun s5 H5 D5 cl5 fp5 => (DE.ofB (DB.ix (DB.var 17) (DB.ofE DE.int)))))) DAB.nil)) C.nd) ?_
  refine DSs.cons (DS.set 13 (DE.callB (call_sortD hu65) opN_sort (by rfl) m_sorted boot_sorted (DAB.cons (DB.ofE (DE.lc (own := [("_law_entry", 17)]) C (DIB.seq (DB.var 4)) (blkOk_by (by kernel_rfl)) (fun _ _ _ _ _ => pg_name (i:=17) C.nd rfl (Or.inl rfl)) (fun s6 H6 D6 cl6 fp6 => (DTs.one (DT.ofW (DW.or (DT.cmp (op_eqD hu) op_eqDD (DB.ix (DB.var 17) (DB.ofE DE.int)) (DB.ofE DE.int) (nomark _)) (DW.or1 (DT.cmp (op_eqD hu) op_eqDD (DB.ix (DB.var 17) (DB.ofE DE.int)) (DB.ofE DE.int) (nomark _))))))) (fun s6 H6 D6 cl6 fp6 => (DE.ofB (DB.ix (DB.var 17) (DB.ofE DE.int)))))) DAB.nil)) C.nd) ?_
  refine DSs.cons (DS.set 14 (DE.callTy call_list_of opN_list (by rfl) m_list boot_list (DAB.cons (DB.var 11) DAB.nil)) C.nd) ?_
  refine DSs.cons (DS.if_ (DT.ofW (DW.or (DT.not (DT.tru (DB.ofE (DE.call C d__law_pair_of (DAB.cons (DB.ofE (DE.callS C d_net (DAB.cons (DB.var 14) DAB.nil))) (DAB.cons (DB.var 12) (DAB.cons (DB.var 13) DAB.nil))))))) (DW.or (DT.cmp (op_neD hu) op_neDD (DB.var 14) (DB.var 11) (nomark _)) (DW.or1 (DT.not (DT.tru (DB.ofE (DE.call C d__law_pair_of (DAB.cons (DB.ofE (DE.callS0 C d_net)) (DAB.cons (DB.ofE (DE.lst DA.nil)) (DAB.cons (DB.ofE (DE.lst DA.nil)) DAB.nil))))))))))) (DSs.one (DS.ret DE.bl)) DSs.nil) ?_
  refine DSs.cons (DS.set 15 (DE.op2 op_mod op_modD (DB.ofE (DE.callTy call_int1 opN_int (by rfl) m_int boot_int (DAB.cons (DB.ix (DB.var 1) (DB.ofE DE.int)) DAB.nil))) (DB.ofE (DE.op2 op_addA op_addD (DB.ofE (DE.callB call_len opN_len (by rfl) m_len boot_len (DAB.cons (DB.var 11) DAB.nil))) (DB.ofE DE.int)))) C.nd) ?_
  refine DSs.cons (DS.set 16 (DE.op2 op_addA op_addD (DB.var 15) (DB.ofE (DE.op2 op_mod op_modD (DB.ofE (DE.callTy call_int1 opN_int (by rfl) m_int boot_int (DAB.cons (DB.ix (DB.var 1) (DB.ofE DE.int)) DAB.nil))) (DB.ofE (DE.op2 op_sub op_subD (DB.ofE (DE.op2 op_addA op_addD (DB.ofE (DE.callB call_len opN_len (by rfl) m_len boot_len (DAB.cons (DB.var 11) DAB.nil))) (DB.ofE DE.int))) (DB.var 15)))))) C.nd) ?_
  refine DSs.cons (DS.if_ (DT.not (DT.tru (DB.ofE (DE.call C d__law_pair_of (DAB.cons (DB.ofE (DE.callS C d_net (DAB.cons (DB.ofE (DE.slice (DB.var 11) DO.none (DO.some (DB.var 15)))) (DAB.cons (DB.ofE (DE.slice (DB.var 11) (DO.some (DB.var 15)) DO.none)) DAB.nil)))) (DAB.cons (DB.var 12) (DAB.cons (DB.var 13) DAB.nil))))))) (DSs.one (DS.ret DE.bl)) DSs.nil) ?_
  exact DSs.one (DS.ret (DE.call C d__law_pair_of (DAB.cons (DB.ofE (DE.callS C d_net (DAB.cons (DB.ofE (DE.slice (DB.var 11) DO.none (DO.some (DB.var 15)))) (DAB.cons (DB.ofE (DE.slice (DB.var 11) (DO.some (DB.var 15)) (DO.some (DB.var 16)))) (DAB.cons (DB.ofE (DE.lst DA.nil)) (DAB.cons (DB.ofE (DE.slice (DB.var 11) (DO.some (DB.var 16)) DO.none)) DAB.nil)))))) (DAB.cons (DB.var 12) (DAB.cons (DB.var 13) DAB.nil)))))
end
theorem facts [Tb] {P : Program} {w : World} {K : PySem.W.Frag} {h : Heap} {mg : Str → Option Value} {f : Addr} (hTb : Tb.t = tabsOf K) (PO : PrOk P "/claim/cut.py") (X : K.In h) (G : h.Ns mainGlobals mg) (hfa : mg ("law" : Str) = some (.ref f)) (c : SaysY fa fn K) :
    ∃ fd : FuncData, (∀ (s : Shared) (v : Value), BindsTo s fd ⟨[v], []⟩ [("_law_script", v)]) ∧ ∀ base : Heap, K.In base → base.Ns mainGlobals mg → TabsB K mg base → FnOk P w K mg base (L2.CX P w) 3 f fd ["_law_script"] (spF K 1 F_law) := by
  obtain ⟨fd0, P0⟩ := c.def_ 0 (d := hdef0) rfl rfl
  obtain ⟨fd1, P1⟩ := c.def_ 1 (d := hdef1) rfl rfl
  obtain ⟨fd2, P2⟩ := c.def_ 2 (d := hdef2) rfl rfl
  obtain ⟨fd3, P3⟩ := c.def_ 3 (d := hdef3) rfl rfl
  obtain ⟨fd4, P4⟩ := c.def_ 4 (d := hdef4) rfl rfl
  obtain ⟨fd5, P5⟩ := c.def_ 5 (d := hdef5) rfl rfl
  obtain ⟨fd6, P6⟩ := c.def_ 6 (d := hdef6) rfl rfl
  obtain ⟨fd7, P7⟩ := c.def_ 7 (d := hdef7) rfl rfl
  obtain ⟨fd8, P8⟩ := c.def_ 8 (d := hdef8) rfl rfl
  obtain ⟨fd9, P9⟩ := c.def_ 9 (d := hdef9) rfl rfl
  obtain ⟨fd10, P10⟩ := c.def_ 10 (d := hdef10) rfl rfl
  obtain ⟨fd11, P11⟩ := c.def_ 11 (d := hdef11) rfl rfl
  have e := hfa.symm.trans (He.glo_ok X G (c.fact 19 (f := chkF (.glo "law")) rfl))
  cases e
  have b := FunD.bindsA (ps := ["_law_script"]) P11 fun _ _ _ _ _ _ us hl => match us, hl with | [_], _ => rfl
  refine ⟨fd11, fun s v => b s [v] rfl, fun base _ _ TB => ?_⟩
  have m_abs : mg "abs" = none := He.free_ok X G (c.fact 0 (f := chkF (.free "abs")) rfl)
  have m_range : mg "range" = none := He.free_ok X G (c.fact 1 (f := chkF (.free "range")) rfl)
  have m_int : mg "int" = none := He.free_ok X G (c.fact 2 (f := chkF (.free "int")) rfl)
  have d__law_row : Dn P w K mg base 1 "_law_row" 2 F__law_row := dn__law_row P0 (He.glo_ok X G (c.fact 8 (f := chkF (.glo "_law_row")) rfl))  m_abs m_range m_int
  have d__law_big : Dn P w K mg base 1 "_law_big" 1 F__law_big := dn__law_big P1 (He.glo_ok X G (c.fact 9 (f := chkF (.glo "_law_big")) rfl))  m_abs m_int
  have d__law_value : Dn P w K mg base 1 "_law_value" 3 F__law_value := dn__law_value P2 (He.glo_ok X G (c.fact 10 (f := chkF (.glo "_law_value")) rfl))  m_int
  have d__law_pool : Dn P w K mg base 2 "_law_pool" 4 F__law_pool_2 := dn__law_pool P3 (He.glo_ok X G (c.fact 11 (f := chkF (.glo "_law_pool")) rfl)) d__law_value m_range m_int
  have m_sorted : mg "sorted" = none := He.free_ok X G (c.fact 3 (f := chkF (.free "sorted")) rfl)
  have d_difference : Dn P w K mg base 1 "difference" 2 F_difference := dn_difference P4 (He.glo_ok X G (c.fact 12 (f := chkF (.glo "difference")) rfl))  m_sorted
  have d__law_words_of : Dn P w K mg base 1 "_law_words_of" 2 F__law_words_of := dn__law_words_of P5 (He.glo_ok X G (c.fact 13 (f := chkF (.glo "_law_words_of")) rfl))  
  have m_len : mg "len" = none := He.free_ok X G (c.fact 4 (f := chkF (.free "len")) rfl)
  have d__law_rounds : Dn P w K mg base 2 "_law_rounds" 2 F__law_rounds := dn__law_rounds P6 (He.glo_ok X G (c.fact 14 (f := chkF (.glo "_law_rounds")) rfl)) d__law_words_of m_range m_len
  have m_isinstance : mg "isinstance" = none := He.free_ok X G (c.fact 5 (f := chkF (.free "isinstance")) rfl)
  have m_tuple : mg "tuple" = none := He.free_ok X G (c.fact 6 (f := chkF (.free "tuple")) rfl)
  have m_list : mg "list" = none := He.free_ok X G (c.fact 7 (f := chkF (.free "list")) rfl)
  have d__law_pair_of : Dn P w K mg base 1 "_law_pair_of" 3 F__law_pair_of := dn__law_pair_of P7 (He.glo_ok X G (c.fact 15 (f := chkF (.glo "_law_pair_of")) rfl))  m_isinstance m_tuple m_len m_list
  have d__law_cell : Dn P w K mg base 1 "_law_cell" 2 F__law_cell := dn__law_cell P8 (He.glo_ok X G (c.fact 16 (f := chkF (.glo "_law_cell")) rfl))  m_len m_int
  have d__law_count : Dn P w K mg base 1 "_law_count" 2 F__law_count := dn__law_count P9 (He.glo_ok X G (c.fact 17 (f := chkF (.glo "_law_count")) rfl))  m_int
  have d_net : DnS P w K mg base 1 "net" 0 F_net := dn_net P10 (He.glo_ok X G (c.fact 18 (f := chkF (.glo "net")) rfl))  m_sorted
  have d_law : FnOk P w K mg base (L2.CX P w) 3 _ fd11 ["_law_script"] (spF K 1 F_law) := dn_law P11 (He.glo_ok X G (c.fact 19 (f := chkF (.glo "law")) rfl)) d__law_cell d__law_row d__law_big d__law_count d__law_pool d_difference d__law_pair_of d__law_rounds d_net m_sorted m_list m_int m_len
  exact d_law
structure Pe where
  s : Sn
  p : Int
  q : Int
def pd (e : Pe) : D := .tup [Dm.d e.s, .int e.p, .int e.q]
def Pds (P : List Pe) : List D := P.map pd
theorem pd_fz (e : Pe) : (pd e).fz = true := by
  show ((Dm.d e.s : D).fz && _) = true
  rw [Dm_fz]; rfl
theorem Pds_fzs : ∀ P : List Pe, D.fzs (Pds P) = true
  | [] => rfl
  | e :: P => by
    show ((pd e).fz && D.fzs (Pds P)) = true
    rw [pd_fz, Pds_fzs P]; rfl
theorem pd_0 (e : Pe) : ixD (pd e) (.int 0) = some (Dm.d e.s) := rfl
theorem pd_1 (e : Pe) : ixD (pd e) (.int 1) = some (.int e.p) := rfl
theorem pd_2 (e : Pe) : ixD (pd e) (.int 2) = some (.int e.q) := rfl
def kAA : Ks := ⟨"aa", by decide +kernel⟩
theorem pickKey {i : Int} (h0 : 0 ≤ i) (h4 : i < 4) : ∃ k : Ks, ixD (.lst true [.str ("b" : Str), .str ("aa" : Str), .str ("ab" : Str), .str ("a" : Str)]) (.int i) = some (.str k.s) := by
  have h : i = 0 ∨ i = 1 ∨ i = 2 ∨ i = 3 := by omega
  rcases h with rfl | rfl | rfl | rfl
  · exact ⟨kC, rfl⟩
  · exact ⟨kAA, rfl⟩
  · exact ⟨kAB, rfl⟩
  · exact ⟨kA, rfl⟩
theorem cut6 (rs : List Int) (o : Bool) (j : Nat) (h : 6 * j + 6 ≤ rs.length) : ∃ p0 p1 p2 p3 p4 p5 : Int, slD (.lst o (I rs)) (some (6 * (j : Int))) (some (6 * (j : Int) + 6)) = some (.lst true (I [p0, p1, p2, p3, p4, p5])) := by
  have e : slD (.lst o (I rs)) (some (6 * (j : Int))) (some (6 * (j : Int) + 6)) = some (.lst true (Ds (DL.cutD rs (some (6 * (j : Int))) (some (6 * (j : Int) + 6))))) := slD_Ds o rs _ _
  have l : (DL.cutD rs (some (6 * (j : Int))) (some (6 * (j : Int) + 6))).length = 6 := by
    unfold DL.cutD
    rw [show (6 * (j : Int)) = ((6 * j : Nat) : Int) by omega, show (((6 * j : Nat) : Int) + 6) = ((6 * j + 6 : Nat) : Int) by omega, HT.sIx_nat, HT.sIx_nat, List.length_take, List.length_drop]
    omega
  obtain ⟨p0, p1, p2, p3, p4, p5, e3⟩ : ∃ p0 p1 p2 p3 p4 p5, DL.cutD rs (some (6 * (j : Int))) (some (6 * (j : Int) + 6)) = [p0, p1, p2, p3, p4, p5] := by
    generalize DL.cutD rs (some (6 * (j : Int))) (some (6 * (j : Int) + 6)) = q at l
    match q, l with
    | [a, b, c, d, e, f], _ => exact ⟨a, b, c, d, e, f, rfl⟩
  rw [e, e3]
  exact ⟨p0, p1, p2, p3, p4, p5, rfl⟩
theorem comp_sn (j : Nat) {te : Env → Ou D} {ρ : Env} (hj : j < ρ.length) (P : List Pe) (hl : P.length ≤ 100000) (ht : ∀ e : Pe, te (ρ.set j (some (pd e))) = .ok (Dm.d e.s)) : compG j bYes te ρ (Pds P) [] = some (Ds (P.map (·.s))) := by
  have := comp_mapE (j := j) (te := te) (ρ := ρ) hj pd (fun e : Pe => Dm.d e.s) P [] (fun e _ => ht e) (by simp; omega)
  exact this.trans (by simp [Ds])
theorem pool2_ok (rs : List Int) (o : Bool) (c : Nat) (base big : Int) (hc : c ≤ 12) (hl : 6 * c ≤ rs.length) :
    ∃ P : List Pe, F__law_pool_2 [.lst o (I rs), .int c, .int base, .int big] = .ok (.lst true (Pds P)) ∧ P.length ≤ 12 ∧ (P.map (·.s)).Nodup ∧ ∀ e ∈ P, 0 ≤ e.q ∧ e.q < 6 := by
  have hrng : rng1Of [.int (c : Int)] = some (rng0 c) := x_rng1 (by omega) (by omega)
  obtain ⟨ρ', e, P, o5, o6, o7, o8, o9, o10, hρ, hlen, hnd, hq⟩ := loop_inv0 (tg := tgN 5) (body := b1__law_pool_2) (fun j ρ => ∃ (P : List Pe) (o5 o6 o7 o8 o9 o10 : Option D), ρ = [some (.lst o (I rs)), some (.int c), some (.int base), some (.int big), some (.lst true (Pds P)), o5, o6, o7, o8, o9, o10, none] ∧ P.length ≤ j ∧ (P.map (·.s)).Nodup ∧ ∀ e ∈ P, 0 ≤ e.q ∧ e.q < 6) (rng0 c)
      [some (.lst o (I rs)), some (.int c), some (.int base), some (.int big), some (.lst true []), none, none, none, none, none, none, none] ⟨[], _, _, _, _, _, _, rfl, by simp, by simp, by simp⟩ fun j d ρ hd ⟨P, o5, o6, o7, o8, o9, o10, hρ, hlen, hnd, hq⟩ => by
        obtain ⟨rfl, hj⟩ := rng0_get hd
        subst hρ
        have b6 : B64 6 := ⟨by decide, by decide⟩
        obtain ⟨p0, p1, p2, p3, p4, p5, hcut⟩ := cut6 rs o j (by omega)
        have i0 : ixD (.lst true (I [p0, p1, p2, p3, p4, p5])) (.int 0) = some (.int p0) := rfl
        have i1 : ixD (.lst true (I [p0, p1, p2, p3, p4, p5])) (.int 1) = some (.int p1) := rfl
        have i2 : ixD (.lst true (I [p0, p1, p2, p3, p4, p5])) (.int 2) = some (.int p2) := rfl
        have i3 : ixD (.lst true (I [p0, p1, p2, p3, p4, p5])) (.int 3) = some (.int p3) := rfl
        have i4 : ixD (.lst true (I [p0, p1, p2, p3, p4, p5])) (.int 4) = some (.int p4) := rfl
        have i5 : ixD (.lst true (I [p0, p1, p2, p3, p4, p5])) (.int 5) = some (.int p5) := rfl
        generalize hpart : (D.lst true (I [p0, p1, p2, p3, p4, p5])) = part at *
        have q0 := emod_lt' p0 (show (0 : Int) < 4 by decide)
        have q5 := emod_lt' p5 (show (0 : Int) < 6 by decide)
        obtain ⟨k, hk⟩ := pickKey q0.1 q0.2
        obtain ⟨v1, hv1, _⟩ := value_ok p2 p3 big
        obtain ⟨v2, hv2, _⟩ := value_ok p3 p2 big
        have hlt : (Pds P).length < 1000000 := by unfold Pds; rw [List.length_map]; omega
        have sP : seqOfB (.lst true (Pds P)) = .ok (Pds P) := if_pos (Pds_fzs P)
        have c1 : ∀ (a0 a1 a2 a3 a4 a5 a6 a7 a8 a9 a10 : Option D), compG 11 bYes e1__law_pool_2 [a0, a1, a2, a3, a4, a5, a6, a7, a8, a9, a10, none] (Pds P) [] = some (Ds (P.map (·.s))) := fun a0 a1 a2 a3 a4 a5 a6 a7 a8 a9 a10 => comp_sn 11 (by simp) P (by omega) fun e => by
          have z : (Dm.d e.s : D).frz = Dm.d e.s := Dm_frz e.s
          simp [e1__law_pool_2, pd_0, z]
        have cs : slD (.tup [.int v1, .int v2]) none (some 1) = some (.tup [.int v1]) := rfl
        obtain ⟨w, hw, hwv⟩ : ∃ w : List Int, (if p0 / 4 % 2 = 0 then [v1] else [v1, v2]) = w ∧ True := ⟨_, rfl, trivial⟩
        obtain ⟨s, hs⟩ : ∃ s : Sn, (⟨k, base + p1 / 3 % 4, base + p1 / 3 % 4 + p1 % 3, w⟩ : Sn) = s := ⟨_, rfl⟩
        have hd : Dm.d s = D.tup [.str k.s, .int (base + p1 / 3 % 4), .int (base + p1 / 3 % 4 + p1 % 3), .tup (Ds w)] := by rw [← hs]; rfl
        have nI := notInD_Ds (show Dm.dep Sn ≤ 19 by decide) s true (P.map (·.s))
        rw [hd] at nI
        have zs : (D.tup [.str k.s, .int (base + p1 / 3 % 4), .int (base + p1 / 3 % 4 + p1 % 3), .tup (Ds w)]).fz = true := by rw [← hd]; exact Dm_fz s
        have zr : (D.tup [.str k.s, .int (base + p1 / 3 % 4), .int (base + p1 / 3 % 4 + p1 % 3), .tup (Ds w)]).frz = D.tup [.str k.s, .int (base + p1 / 3 % 4), .int (base + p1 / 3 % 4 + p1 % 3), .tup (Ds w)] := by rw [← hd]; exact Dm_frz s
        have sn : Pds (P ++ [⟨s, p4 % 4, p5 % 6⟩]) = Pds P ++ [.tup [.tup [.str k.s, .int (base + p1 / 3 % 4), .int (base + p1 / 3 % 4 + p1 % 3), .tup (Ds w)], .int (p4 % 4), .int (p5 % 6)]] := by
          unfold Pds
          rw [List.map_append]
          show _ ++ [pd ⟨s, p4 % 4, p5 % 6⟩] = _
          unfold pd
          rw [hd]
        by_cases cin : s ∈ P.map (·.s)
        · rw [decide_eq_true cin] at nI
          refine ⟨_, _, rfl, .inl ?_, P, some (.int j), some part, some (.str k.s), some (.int (base + p1 / 3 % 4)), some (.tup (Ds w)), some (Dm.d s), rfl, by omega, hnd, hq⟩
          rw [hd]
          by_cases cw : p0 / 4 % 2 = 0
          · rw [if_pos cw] at hw
            subst hw
            have dw : (Ds [v1] : List D) = [.int v1] := rfl
            rw [dw] at nI ⊢
            simp [b1__law_pool_2, x_mulL, b6, hcut, i0, i1, i2, i3, i4, i5, x_mod, x_fdiv, hk, hv1, hv2, cw, cs, sP, c1, nI, wipeE, LIM]
          · rw [if_neg cw] at hw
            subst hw
            have dw : (Ds [v1, v2] : List D) = [.int v1, .int v2] := rfl
            rw [dw] at nI ⊢
            simp [b1__law_pool_2, x_mulL, b6, hcut, i0, i1, i2, i3, i4, i5, x_mod, x_fdiv, hk, hv1, hv2, cw, sP, c1, nI, wipeE, LIM]
        · rw [decide_eq_false cin] at nI
          refine ⟨_, _, rfl, .inl ?_, P ++ [⟨s, p4 % 4, p5 % 6⟩], some (.int j), some part, some (.str k.s), some (.int (base + p1 / 3 % 4)), some (.tup (Ds w)), some (Dm.d s), rfl, by simp; omega, ?_, ?_⟩
          · rw [hd, sn]
            by_cases cw : p0 / 4 % 2 = 0
            · rw [if_pos cw] at hw
              subst hw
              have dw : (Ds [v1] : List D) = [.int v1] := rfl
              rw [dw] at nI ⊢
              simp [b1__law_pool_2, x_mulL, b6, hcut, i0, i1, i2, i3, i4, i5, x_mod, x_fdiv, hk, hv1, hv2, cw, cs, sP, c1, nI, hlt, wipeE, LIM]
            · rw [if_neg cw] at hw
              subst hw
              have dw : (Ds [v1, v2] : List D) = [.int v1, .int v2] := rfl
              rw [dw] at nI ⊢
              simp [b1__law_pool_2, x_mulL, b6, hcut, i0, i1, i2, i3, i4, i5, x_mod, x_fdiv, hk, hv1, hv2, cw, sP, c1, nI, hlt, wipeE, LIM]
          · rw [List.map_append, List.nodup_append]
            refine ⟨hnd, by simp, fun a ha b hb e => ?_⟩
            have hb : b = s := by simpa using hb
            subst e hb
            exact cin ha
          · intro e he
            rcases List.mem_append.mp he with z | z
            · exact hq e z
            · cases List.mem_singleton.mp z
              exact q5
  refine ⟨P, ?_, by rw [rng0_len] at hlen; omega, hnd, hq⟩
  subst hρ
  simp [F__law_pool_2, g__law_pool_2, runF, hrng, e]
def pat (q : Int) : List Sg := if q = 0 then [.tell] else if q = 1 then [.retract] else if q = 2 then [.final] else if q = 3 then [.tell, .retract] else if q = 4 then [.retract, .tell] else [.tell, .retract, .tell]
theorem words_of_ok (s : Sn) (q : Int) (h0 : 0 ≤ q) (h6 : q < 6) : F__law_words_of [Dm.d s, .int q] = .ok (.lst true (Ds ((pat q).map fun x => Wd.say x s))) := by
  have a1 := say_add .tell s
  have a2 := say_add .retract s
  have a3 := say_add .final s
  simp only [Sg.s] at a1 a2 a3
  have z1 : (Dm.d (Wd.say .tell s) : D).frz = Dm.d (Wd.say .tell s) := Dm_frz _
  have z2 : (Dm.d (Wd.say .retract s) : D).frz = Dm.d (Wd.say .retract s) := Dm_frz _
  have z3 : (Dm.d (Wd.say .final s) : D).frz = Dm.d (Wd.say .final s) := Dm_frz _
  have y1 : (Dm.d (Wd.say .tell s) : D).fz = true := Dm_fz _
  have y2 : (Dm.d (Wd.say .retract s) : D).fz = true := Dm_fz _
  have y3 : (Dm.d (Wd.say .final s) : D).fz = true := Dm_fz _
  have ix : ∀ A B C E F G : D, ixD (.lst true [A, B, C, E, F, G]) (.int 0) = some A ∧ ixD (.lst true [A, B, C, E, F, G]) (.int 1) = some B ∧ ixD (.lst true [A, B, C, E, F, G]) (.int 2) = some C ∧ ixD (.lst true [A, B, C, E, F, G]) (.int 3) = some E ∧ ixD (.lst true [A, B, C, E, F, G]) (.int 4) = some F ∧ ixD (.lst true [A, B, C, E, F, G]) (.int 5) = some G := fun _ _ _ _ _ _ => ⟨rfl, rfl, rfl, rfl, rfl, rfl⟩
  have hq : q = 0 ∨ q = 1 ∨ q = 2 ∨ q = 3 ∨ q = 4 ∨ q = 5 := by omega
  rcases hq with rfl | rfl | rfl | rfl | rfl | rfl <;> simp [F__law_words_of, g__law_words_of, runF, a1, a2, a3, z1, z2, z3, y1, y2, y3, ix, pat, Ds, LIM]
def turnW (t : Nat) (P : List Pe) : List Wd := P.filterMap fun e => ((pat e.q)[t]?).map fun x => Wd.say x e.s
theorem turnW_len (t : Nat) (P : List Pe) : (turnW t P).length ≤ P.length := List.length_filterMap_le _ _
theorem turn_loop (t : Nat) (x0 x1 o8 : Option D) : ∀ (P : List Pe) (acc : List Wd) (o4 o5 o6 o7 : Option D), (∀ e ∈ P, 0 ≤ e.q ∧ e.q < 6) → acc.length + P.length ≤ 1000 →
    ∃ o4' o5' o6' o7', loopS (tgU [4, 5, 6]) b1__law_rounds (Pds P) [x0, x1, some (.lst true (Ds acc)), some (.int t), o4, o5, o6, o7, o8] = .nx [x0, x1, some (.lst true (Ds (acc ++ turnW t P))), some (.int t), o4', o5', o6', o7', o8]
  | [], acc, o4, o5, o6, o7, _, _ => ⟨o4, o5, o6, o7, by simp [Pds, loopS, turnW]⟩
  | e :: P, acc, o4, o5, o6, o7, h, hl => by
    obtain ⟨h0, h6⟩ := h e List.mem_cons_self
    have wo := words_of_ok e.s e.q h0 h6
    have sz : (Dm.d e.s : D).fz = true := Dm_fz _
    have sr : (Dm.d e.s : D).frz = Dm.d e.s := Dm_frz _
    have ln : lenN [.lst true (Ds ((pat e.q).map fun x => Wd.say x e.s))] = some (.int ((pat e.q).length : Int)) := by simp
    rw [List.length_cons] at hl
    cases hx : (pat e.q)[t]? with
    | none =>
      obtain ⟨p4, p5, p6, p7, ih⟩ := turn_loop t x0 x1 o8 P acc (some (Dm.d e.s)) (some (.int e.p)) (some (.int e.q)) (some (.lst true (Ds ((pat e.q).map fun x => Wd.say x e.s)))) (fun z hz => h z (List.mem_cons_of_mem _ hz)) (by omega)
      refine ⟨p4, p5, p6, p7, ?_⟩
      have hlt : ¬ (t : Int) < ((pat e.q).length : Int) := by
        have := List.getElem?_eq_none_iff.mp hx
        omega
      have b : b1__law_rounds [x0, x1, some (.lst true (Ds acc)), some (.int t), some (Dm.d e.s), some (.int e.p), some (.int e.q), o7, o8] = .nx [x0, x1, some (.lst true (Ds acc)), some (.int t), some (Dm.d e.s), some (.int e.p), some (.int e.q), some (.lst true (Ds ((pat e.q).map fun x => Wd.say x e.s))), o8] := by
        generalize hN : ((pat e.q).length : Int) = N at *
        simp [b1__law_rounds, wo, sz, sr, ln, hlt]
      have e2 : turnW t (e :: P) = turnW t P := by unfold turnW; rw [List.filterMap_cons, hx]; rfl
      rw [e2, ← ih]
      exact loop_nx rfl b
    | some x =>
      obtain ⟨p4, p5, p6, p7, ih⟩ := turn_loop t x0 x1 o8 P (acc ++ [Wd.say x e.s]) (some (Dm.d e.s)) (some (.int e.p)) (some (.int e.q)) (some (.lst true (Ds ((pat e.q).map fun x => Wd.say x e.s)))) (fun z hz => h z (List.mem_cons_of_mem _ hz)) (by rw [List.length_append]; simp; omega)
      refine ⟨p4, p5, p6, p7, ?_⟩
      obtain ⟨ht, hx2⟩ := List.getElem?_eq_some_iff.mp hx
      have hlt : (t : Int) < ((pat e.q).length : Int) := by omega
      have hix := x_ixD (xs := (pat e.q).map fun x => Wd.say x e.s) (o := true) (i := (t : Int)) (by omega) (by simpa using ht)
      have e3 : ((pat e.q).map fun x => Wd.say x e.s)[(t : Int).toNat]'(by simpa using ht) = Wd.say x e.s := by simp [hx2]
      rw [e3] at hix
      have z1 : (Dm.d (Wd.say x e.s) : D).frz = Dm.d (Wd.say x e.s) := Dm_frz _
      have z2 : (Dm.d (Wd.say x e.s) : D).fz = true := Dm_fz _
      have la : acc.length < 1000000 := by omega
      have sn : (Ds (acc ++ [Wd.say x e.s]) : List D) = Ds acc ++ [Dm.d (Wd.say x e.s)] := (Ds_app acc [Wd.say x e.s]).symm
      have b : b1__law_rounds [x0, x1, some (.lst true (Ds acc)), some (.int t), some (Dm.d e.s), some (.int e.p), some (.int e.q), o7, o8] = .nx [x0, x1, some (.lst true (Ds (acc ++ [Wd.say x e.s]))), some (.int t), some (Dm.d e.s), some (.int e.p), some (.int e.q), some (.lst true (Ds ((pat e.q).map fun x => Wd.say x e.s))), o8] := by
        rw [sn]
        generalize hN : ((pat e.q).length : Int) = N at *
        simp [b1__law_rounds, wo, sz, sr, ln, hlt, hix, z1, z2, la, LIM]
      have e2 : acc ++ turnW t (e :: P) = acc ++ [Wd.say x e.s] ++ turnW t P := by unfold turnW; rw [List.filterMap_cons, hx]; simp
      rw [e2, ← ih]
      exact loop_nx rfl b
def lateW (t n : Nat) : List Wd := (List.range n).map fun (j : Nat) => Wd.late kC (j : Int) (t : Int)
theorem late_loop (t n : Nat) (hn : n ≤ 3) (x0 x1 o4 o5 o6 o7 o8 : Option D) (acc : List Wd) (hl : acc.length ≤ 1000) :
    ∃ o8', loopS (tgN 8) b2__law_rounds (rng0 n) [x0, x1, some (.lst true (Ds acc)), some (.int t), o4, o5, o6, o7, o8] = .nx [x0, x1, some (.lst true (Ds (acc ++ lateW t n))), some (.int t), o4, o5, o6, o7, o8'] := by
  obtain ⟨ρ', e, o8', hρ⟩ := loop_inv0 (tg := tgN 8) (body := b2__law_rounds) (fun j ρ => ∃ o8 : Option D, ρ = [x0, x1, some (.lst true (Ds (acc ++ lateW t j))), some (.int t), o4, o5, o6, o7, o8]) (rng0 n)
    [x0, x1, some (.lst true (Ds acc)), some (.int t), o4, o5, o6, o7, o8] ⟨o8, by simp [lateW]⟩ fun j d ρ hd ⟨o8, hρ⟩ => by
      obtain ⟨rfl, hj⟩ := rng0_get hd
      subst hρ
      have la : (acc ++ lateW t j).length < 1000000 := by rw [List.length_append]; unfold lateW; rw [List.length_map, List.length_range]; omega
      have e1 : acc ++ lateW t (j + 1) = (acc ++ lateW t j) ++ [Wd.late kC (j : Int) (t : Int)] := by unfold lateW; rw [List.range_succ, List.map_append]; simp
      have sn : (Ds ((acc ++ lateW t j) ++ [Wd.late kC (j : Int) (t : Int)]) : List D) = Ds (acc ++ lateW t j) ++ [.tup [.str "late", .str ("b" : Str), .int j, .int t]] := (Ds_app (acc ++ lateW t j) [Wd.late kC (j : Int) (t : Int)]).symm
      refine ⟨_, _, rfl, .inl ?_, some (.int j), rfl⟩
      rw [e1, sn]
      generalize acc ++ lateW t j = A at *
      simp [b2__law_rounds, la, LIM]
  rw [rng0_len] at hρ
  exact ⟨o8', e.trans (by rw [hρ])⟩
def roundsW (P : List Pe) (n : Nat) : List Wd := turnW 0 P ++ lateW 0 n ++ turnW 1 P ++ lateW 1 n ++ turnW 2 P ++ lateW 2 n
theorem late_len (t n : Nat) : (lateW t n).length = n := by unfold lateW; rw [List.length_map, List.length_range]
theorem rounds_len (P : List Pe) (n : Nat) (hP : P.length ≤ 12) (hn : n ≤ 3) : (roundsW P n).length ≤ 45 := by
  unfold roundsW
  simp only [List.length_append, late_len]
  have a := turnW_len 0 P
  have b := turnW_len 1 P
  have c := turnW_len 2 P
  omega
theorem one_turn (P : List Pe) (n : Nat) (t : Nat) (hP : P.length ≤ 12) (hn : n ≤ 3) (hq : ∀ e ∈ P, 0 ≤ e.q ∧ e.q < 6) (o4 o5 o6 o7 o8 : Option D) (acc : List Wd) (hl : acc.length ≤ 500) :
    ∃ o4' o5' o6' o7' o8', b3__law_rounds [some (.lst false (Pds P)), some (.int n), some (.lst true (Ds acc)), some (.int t), o4, o5, o6, o7, o8] = .nx [some (.lst false (Pds P)), some (.int n), some (.lst true (Ds (acc ++ turnW t P ++ lateW t n))), some (.int t), o4', o5', o6', o7', o8'] := by
  obtain ⟨p4, p5, p6, p7, e1⟩ := turn_loop t (some (.lst false (Pds P))) (some (.int n)) o8 P acc o4 o5 o6 o7 hq (by omega)
  have lt := turnW_len t P
  obtain ⟨p8, e2⟩ := late_loop t n hn (some (.lst false (Pds P))) (some (.int n)) p4 p5 p6 p7 o8 (acc ++ turnW t P) (by rw [List.length_append]; omega)
  refine ⟨p4, p5, p6, p7, p8, ?_⟩
  have sq : seqOf (.lst false (Pds P)) = .ok (Pds P) := by
    show Ou.ok (D.frzs (Pds P)) = _
    rw [frzs_fzs _ (Pds_fzs P)]
  have rg : rng1Of [.int (n : Int)] = some (rng0 n) := x_rng1 (by omega) (by omega)
  simp [b3__law_rounds, sq, e1, rg, e2]
theorem rounds_ok (P : List Pe) (n : Nat) (hP : P.length ≤ 12) (hn : n ≤ 3) (hq : ∀ e ∈ P, 0 ≤ e.q ∧ e.q < 6) : F__law_rounds [.lst false (Pds P), .int n] = .ok (.lst true (Ds (roundsW P n))) := by
  have rg3 : rng1Of [.int 3] = some [.int 0, .int 1, .int 2] := rfl
  have l0 := turnW_len 0 P
  have l1 := turnW_len 1 P
  obtain ⟨a4, a5, a6, a7, a8, e1⟩ := one_turn P n 0 hP hn hq none none none none none [] (by simp)
  obtain ⟨b4, b5, b6, b7, b8, e2⟩ := one_turn P n 1 hP hn hq a4 a5 a6 a7 a8 ([] ++ turnW 0 P ++ lateW 0 n) (by simp only [List.length_append, late_len, List.length_nil]; omega)
  obtain ⟨c4, c5, c6, c7, c8, e3⟩ := one_turn P n 2 hP hn hq b4 b5 b6 b7 b8 ([] ++ turnW 0 P ++ lateW 0 n ++ turnW 1 P ++ lateW 1 n) (by simp only [List.length_append, late_len, List.length_nil]; omega)
  have lp : _ = Os.nx _ := (loop_nx (tg := tgN 3) (d := .int 0) (ds := [.int 1, .int 2]) (ρ := [some (.lst false (Pds P)), some (.int n), some (.lst true (Ds ([] : List Wd))), none, none, none, none, none, none]) rfl e1).trans ((loop_nx rfl e2).trans ((loop_nx rfl e3).trans rfl))
  rw [show (Ds ([] : List Wd)) = [] from rfl, List.nil_append] at lp
  rw [show roundsW P n = turnW 0 P ++ lateW 0 n ++ turnW 1 P ++ lateW 1 n ++ turnW 2 P ++ lateW 2 n from rfl]
  simp only [F__law_rounds, runF, g__law_rounds]
  simp [rg3, lp, LIM]
def sgO (o : Option Sg) : Int := match o with
  | some x => sgN x
  | none => 0
def totQ (q : Int) : Int := sgO (pat q)[0]? + sgO (pat q)[1]? + sgO (pat q)[2]?
theorem cnt_late (t n : Nat) (s : Sn) : cnt (lateW t n) s = 0 := by
  unfold lateW
  generalize List.range n = L
  induction L with
  | nil => rfl
  | cons x L ih => exact ih
theorem cnt_turn (t : Nat) (s : Sn) : ∀ P : List Pe, cnt (turnW t P) s = (P.map fun e => if e.s = s then sgO (pat e.q)[t]? else 0).sum
  | [] => rfl
  | e :: P => by
    have ih := cnt_turn t s P
    unfold turnW at ih ⊢
    rw [List.filterMap_cons, List.map_cons, List.sum_cons, ← ih]
    cases hx : (pat e.q)[t]? with
    | none =>
      dsimp only [Option.map]
      show _ = (if e.s = s then 0 else 0) + _
      rw [ite_self, Int.zero_add]
    | some x =>
      show (if e.s = s then sgN x else 0) + _ = _
      rfl
theorem cnt_rounds (P : List Pe) (n : Nat) (s : Sn) : cnt (roundsW P n) s = (P.map fun e => if e.s = s then totQ e.q else 0).sum := by
  unfold roundsW
  simp only [cnt_app, cnt_late, cnt_turn]
  induction P with
  | nil => rfl
  | cons e P ih =>
    simp only [List.map_cons, List.sum_cons]
    rw [← ih]
    by_cases c : e.s = s
    · simp only [if_pos c, totQ]; omega
    · simp only [if_neg c]; omega
theorem sum_none (s : Sn) (f : Pe → Int) : ∀ P : List Pe, s ∉ P.map (·.s) → (P.map fun e => if e.s = s then f e else 0).sum = 0
  | [], _ => rfl
  | e :: P, h => by
    rw [List.map_cons, List.mem_cons] at h
    have h1 : e.s ≠ s := fun z => h (.inl z.symm)
    rw [List.map_cons, List.sum_cons, if_neg h1, sum_none s f P (fun z => h (.inr z))]
    rfl
theorem sum_one (f : Pe → Int) : ∀ P : List Pe, (P.map (·.s)).Nodup → ∀ e ∈ P, (P.map fun z => if z.s = e.s then f z else 0).sum = f e
  | [], _, e, he => by cases he
  | x :: P, nd, e, he => by
    rw [List.map_cons, List.nodup_cons] at nd
    rw [List.map_cons, List.sum_cons]
    rcases List.mem_cons.mp he with c | c
    · subst c
      rw [if_pos rfl, sum_none e.s f P nd.1, Int.add_zero]
    · have : x.s ≠ e.s := fun z => nd.1 (by rw [z]; exact List.mem_map_of_mem c)
      rw [if_neg this, sum_one f P nd.2 e c, Int.zero_add]
theorem net_rounds (P : List Pe) (n : Nat) (nd : (P.map (·.s)).Nodup) (p : Int → Bool) (h0 : p 0 = false) (Ls : List (List Wd)) (hL : Ls.flatten = roundsW P n) (t : Pe → Bool) (ht : ∀ e ∈ P, p (totQ e.q) = t e) : (netL p Ls).Perm ((P.filter t).map (·.s)) := by
  refine (List.perm_ext_iff_of_nodup (netL_nd p Ls) (List.Nodup.sublist (List.Sublist.map _ List.filter_sublist) nd)).mpr fun s => ?_
  rw [netL_mem p h0, hL, cnt_rounds]
  constructor
  · intro h
    by_cases c : s ∈ P.map (·.s)
    · obtain ⟨e, he, rfl⟩ := List.mem_map.mp c
      rw [sum_one (fun e => totQ e.q) P nd e he] at h
      exact List.mem_map_of_mem (List.mem_filter.mpr ⟨he, by rw [← ht e he]; exact h⟩)
    · rw [sum_none s (fun e => totQ e.q) P c, h0] at h
      cases h
  · intro h
    obtain ⟨e, he, rfl⟩ := List.mem_map.mp h
    obtain ⟨h1, h2⟩ := List.mem_filter.mp he
    rw [sum_one (fun e => totQ e.q) P nd e h1, ht e h1]
    exact h2
theorem totQ_neg {q : Int} (h0 : 0 ≤ q) (h6 : q < 6) : decide (totQ q < 0) = (decide (q = 1) || decide (q = 2)) := by
  have hq : q = 0 ∨ q = 1 ∨ q = 2 ∨ q = 3 ∨ q = 4 ∨ q = 5 := by omega
  rcases hq with rfl | rfl | rfl | rfl | rfl | rfl <;> decide
theorem totQ_pos {q : Int} (h0 : 0 ≤ q) (h6 : q < 6) : decide (0 < totQ q) = (decide (q = 0) || decide (q = 5)) := by
  have hq : q = 0 ∨ q = 1 ∨ q = 2 ∨ q = 3 ∨ q = 4 ∨ q = 5 := by omega
  rcases hq with rfl | rfl | rfl | rfl | rfl | rfl <;> decide
theorem pair_ok (A B : List Sn) : F__law_pair_of [.tup [.lst false (Ds A), .lst false (Ds B)], .lst false (Ds A), .lst false (Ds B)] = .ok (.bl true) := by
  have e1 := eqD_Ds (show Dm.dep Sn ≤ 19 by decide) false false A A
  have e2 := eqD_Ds (show Dm.dep Sn ≤ 19 by decide) false false B B
  rw [decide_eq_true rfl] at e1 e2
  have i0 : ixD (.tup [.lst false (Ds A), .lst false (Ds B)]) (.int 0) = some (.lst false (Ds A)) := rfl
  have i1 : ixD (.tup [.lst false (Ds A), .lst false (Ds B)]) (.int 1) = some (.lst false (Ds B)) := rfl
  have it : isiD .tuple (.tup [.lst false (Ds A), .lst false (Ds B)]) = some true := rfl
  have ln : lenN [.tup [.lst false (Ds A), .lst false (Ds B)]] = some (.int 2) := rfl
  simp [F__law_pair_of, g__law_pair_of, runF, i0, i1, it, ln, e1, e2]
theorem cut_midL {α : Type} (xs : List α) (a b : Nat) (h : a ≤ b) (hb : b ≤ xs.length) : DL.cutD xs (some (a : Int)) (some (b : Int)) = (xs.drop a).take (b - a) := by
  unfold DL.cutD
  rw [HT.sIx_nat, HT.sIx_nat, Nat.min_eq_left (show a ≤ xs.length by omega), Nat.min_eq_left hb]
theorem comp_pe {j : Nat} {tt : Env → Ou Bool} {te : Env → Ou D} {ρ : Env} (hj : j < ρ.length) (p : Pe → Bool) (P : List Pe) (hl : P.length ≤ 100000) (hp : ∀ e : Pe, tt (ρ.set j (some (pd e))) = .ok (p e)) (ht : ∀ e : Pe, te (ρ.set j (some (pd e))) = .ok (Dm.d e.s)) : compG j tt te ρ (Pds P) [] = some (Ds ((P.filter p).map (·.s))) := by
  have := comp_filterE (j := j) (tt := tt) (te := te) (ρ := ρ) hj pd p (fun e : Pe => Dm.d e.s) P [] (fun e _ => hp e) (fun e _ _ => ht e) (by simp; omega)
  exact this.trans (by simp [Ds])
theorem flt_not (P : List Pe) (nd : (P.map (·.s)).Nodup) (f g h : Pe → Bool) (hh : ∀ e ∈ P, h e = (f e && !g e)) : (((P.filter f).map (·.s)).filter fun s => !decide (s ∈ (P.filter g).map (·.s))).Perm ((P.filter h).map (·.s)) := by
  have sub : ∀ f : Pe → Bool, ((P.filter f).map (·.s)).Nodup := fun f => List.Nodup.sublist (List.Sublist.map _ List.filter_sublist) nd
  have inj : ∀ e ∈ P, ∀ e2 ∈ P, e.s = e2.s → e = e2 := fun e he e2 he2 h => by
    clear sub hh
    induction P with
    | nil => cases he
    | cons x P ih =>
      rw [List.map_cons, List.nodup_cons] at nd
      rcases List.mem_cons.mp he with c | c
      · rcases List.mem_cons.mp he2 with c2 | c2
        · rw [c, c2]
        · exact absurd (by rw [← c, h]; exact List.mem_map_of_mem c2) nd.1
      · rcases List.mem_cons.mp he2 with c2 | c2
        · exact absurd (by rw [← c2, ← h]; exact List.mem_map_of_mem c) nd.1
        · exact ih nd.2 c c2
  refine (List.perm_ext_iff_of_nodup (List.Nodup.sublist List.filter_sublist (sub f)) (sub h)).mpr fun s => ?_
  rw [List.mem_filter]
  constructor
  · rintro ⟨hm, hn⟩
    obtain ⟨e, he, rfl⟩ := List.mem_map.mp hm
    obtain ⟨h1, h2⟩ := List.mem_filter.mp he
    refine List.mem_map_of_mem (List.mem_filter.mpr ⟨h1, ?_⟩)
    rw [hh e h1, h2, Bool.true_and]
    cases c : g e with
    | false => rfl
    | true =>
      have : e.s ∈ (P.filter g).map (·.s) := List.mem_map_of_mem (List.mem_filter.mpr ⟨h1, c⟩)
      rw [decide_eq_true this] at hn
      cases hn
  · intro hm
    obtain ⟨e, he, rfl⟩ := List.mem_map.mp hm
    obtain ⟨h1, h2⟩ := List.mem_filter.mp he
    rw [hh e h1] at h2
    obtain ⟨h3, h4⟩ := Bool.and_eq_true_iff.mp h2
    refine ⟨List.mem_map_of_mem (List.mem_filter.mpr ⟨h1, h3⟩), ?_⟩
    rw [Bool.not_eq_true'] at h4 ⊢
    refine decide_eq_false fun hm => ?_
    obtain ⟨e2, he2, e3⟩ := List.mem_map.mp hm
    obtain ⟨k1, k2⟩ := List.mem_filter.mp he2
    rw [inj e2 k1 e h1 e3, h4] at k2
    cases k2
theorem neD_py {x y : D} (hx : x.okd DEP = true) (hy : y.okd DEP = true) (e : x.py = y.py) : neD x y = some false := neD_of (c := true) hx hy (by rw [e]; exact PySem.SeqAt.eqv_refl y.py (okd_lay y DEP hy).1)
theorem ne_two (A B : List Sn) (o1 o2 : Bool) : neD (.lst true [.lst true (Ds B), .lst true (Ds A)]) (.lst true [.lst o1 (Ds B), .lst o2 (Ds A)]) = some false := by
  have ok : ∀ (o1 o2 : Bool), (D.lst true [.lst o1 (Ds B), .lst o2 (Ds A)]).okd DEP = true := fun o1 o2 => by
    have h1 : D.okds (Ds B) 18 = true := Ds_okds B (by decide)
    have h2 : D.okds (Ds A) 18 = true := Ds_okds A (by decide)
    show (D.okds (Ds B) 18 && (D.okds (Ds A) 18 && true)) = true
    rw [h1, h2]; rfl
  exact neD_py (ok _ _) (ok _ _) rfl
theorem Pds_clns : ∀ P : List Pe, D.clns (Pds P) = true
  | [] => rfl
  | e :: P => by
    have h : ((Dm.d e.s : D).cln && true) = true := Ds_clns [e.s]
    rw [Bool.and_true] at h
    show (((Dm.d e.s : D).cln && true) && D.clns (Pds P)) = true
    rw [h, Pds_clns P]; rfl
theorem net_nil (p : Int → Bool) : srtD (netL p []) = [] := by
  show srtD ([] : List Sn) = []
  exact srtD_id List.Pairwise.nil
theorem rest_ok (ns ds : List Int) (base big : Int) (P : List Pe) (hP : P.length ≤ 12) (nd : (P.map (·.s)).Nodup) (hq : ∀ e ∈ P, 0 ≤ e.q ∧ e.q < 6) (dl : ds.length = 8) : t5_law [some (.scr ns), some (.lst true (I ds)), some (.int base), some (.int big), some (.lst true (Pds P)), none, none, none, none, none, none, none, none, none, none, none, none, none] = .rt (.bl true) := by
  have i3 := x_ixI (ns := ds) (o := true) (i := 3) (by decide) (by omega)
  have i4 := x_ixI (ns := ds) (o := true) (i := 4) (by decide) (by omega)
  have i5 := x_ixI (ns := ds) (o := true) (i := 5) (by decide) (by omega)
  have sP : seqOfB (.lst true (Pds P)) = .ok (Pds P) := if_pos (Pds_fzs P)
  have lf : ∀ f : Pe → Bool, ((P.filter f).map (·.s)).length ≤ 12 := fun f => by rw [List.length_map]; exact Nat.le_trans (List.length_filter_le _ _) hP
  have c1 : ∀ (a0 a1 a2 a3 a4 a5 a6 a7 a8 a9 a10 a11 a12 a13 a14 a15 a16 : Option D), compG 17 (bOr (b2 eqD (d2 ixD (dVar 17) (dC (.int 1))) (dC (.int 0))) (b2 eqD (d2 ixD (dVar 17) (dC (.int 1))) (dC (.int 2)))) e1_law [a0, a1, a2, a3, a4, a5, a6, a7, a8, a9, a10, a11, a12, a13, a14, a15, a16, none] (Pds P) [] = some (Ds ((P.filter fun e => decide (e.p = 0) || decide (e.p = 2)).map (·.s))) := fun a0 a1 a2 a3 a4 a5 a6 a7 a8 a9 a10 a11 a12 a13 a14 a15 a16 => comp_pe (by simp) (fun e => decide (e.p = 0) || decide (e.p = 2)) P (by omega) (fun e => by
    have z := pd_1 e
    have z2 := pd_2 e
    simp [z, z2] <;> (split <;> simp [*])) fun e => by
    have z : (Dm.d e.s : D).frz = Dm.d e.s := Dm_frz e.s
    simp [e1_law, pd_0, z]
  have c2 : ∀ (a0 a1 a2 a3 a4 a5 a6 a7 a8 a9 a10 a11 a12 a13 a14 a15 a16 : Option D), compG 17 (bOr (b2 eqD (d2 ixD (dVar 17) (dC (.int 1))) (dC (.int 1))) (b2 eqD (d2 ixD (dVar 17) (dC (.int 1))) (dC (.int 2)))) e2_law [a0, a1, a2, a3, a4, a5, a6, a7, a8, a9, a10, a11, a12, a13, a14, a15, a16, none] (Pds P) [] = some (Ds ((P.filter fun e => decide (e.p = 1) || decide (e.p = 2)).map (·.s))) := fun a0 a1 a2 a3 a4 a5 a6 a7 a8 a9 a10 a11 a12 a13 a14 a15 a16 => comp_pe (by simp) (fun e => decide (e.p = 1) || decide (e.p = 2)) P (by omega) (fun e => by
    have z := pd_1 e
    have z2 := pd_2 e
    simp [z, z2] <;> (split <;> simp [*])) fun e => by
    have z : (Dm.d e.s : D).frz = Dm.d e.s := Dm_frz e.s
    simp [e2_law, pd_0, z]
  have c3 : ∀ (a0 a1 a2 a3 a4 a5 a6 a7 a8 a9 a10 a11 a12 a13 a14 a15 a16 : Option D), compG 17 (b2 eqD (d2 ixD (dVar 17) (dC (.int 1))) (dC (.int 0))) e3_law [a0, a1, a2, a3, a4, a5, a6, a7, a8, a9, a10, a11, a12, a13, a14, a15, a16, none] (Pds P) [] = some (Ds ((P.filter fun e => decide (e.p = 0)).map (·.s))) := fun a0 a1 a2 a3 a4 a5 a6 a7 a8 a9 a10 a11 a12 a13 a14 a15 a16 => comp_pe (by simp) (fun e => decide (e.p = 0)) P (by omega) (fun e => by
    have z := pd_1 e
    have z2 := pd_2 e
    simp [z, z2] <;> (split <;> simp [*])) fun e => by
    have z : (Dm.d e.s : D).frz = Dm.d e.s := Dm_frz e.s
    simp [e3_law, pd_0, z]
  have c4 : ∀ (a0 a1 a2 a3 a4 a5 a6 a7 a8 a9 a10 a11 a12 a13 a14 a15 a16 : Option D), compG 17 (b2 eqD (d2 ixD (dVar 17) (dC (.int 1))) (dC (.int 1))) e4_law [a0, a1, a2, a3, a4, a5, a6, a7, a8, a9, a10, a11, a12, a13, a14, a15, a16, none] (Pds P) [] = some (Ds ((P.filter fun e => decide (e.p = 1)).map (·.s))) := fun a0 a1 a2 a3 a4 a5 a6 a7 a8 a9 a10 a11 a12 a13 a14 a15 a16 => comp_pe (by simp) (fun e => decide (e.p = 1)) P (by omega) (fun e => by
    have z := pd_1 e
    have z2 := pd_2 e
    simp [z, z2] <;> (split <;> simp [*])) fun e => by
    have z : (Dm.d e.s : D).frz = Dm.d e.s := Dm_frz e.s
    simp [e4_law, pd_0, z]
  have c5 : ∀ (a0 a1 a2 a3 a4 a5 a6 a7 a8 a9 a10 a11 a12 a13 a14 a15 a16 : Option D), compG 17 (bOr (b2 eqD (d2 ixD (dVar 17) (dC (.int 2))) (dC (.int 1))) (b2 eqD (d2 ixD (dVar 17) (dC (.int 2))) (dC (.int 2)))) e5_law [a0, a1, a2, a3, a4, a5, a6, a7, a8, a9, a10, a11, a12, a13, a14, a15, a16, none] (Pds P) [] = some (Ds ((P.filter fun e => decide (e.q = 1) || decide (e.q = 2)).map (·.s))) := fun a0 a1 a2 a3 a4 a5 a6 a7 a8 a9 a10 a11 a12 a13 a14 a15 a16 => comp_pe (by simp) (fun e => decide (e.q = 1) || decide (e.q = 2)) P (by omega) (fun e => by
    have z := pd_1 e
    have z2 := pd_2 e
    simp [z, z2] <;> (split <;> simp [*])) fun e => by
    have z : (Dm.d e.s : D).frz = Dm.d e.s := Dm_frz e.s
    simp [e5_law, pd_0, z]
  have c6 : ∀ (a0 a1 a2 a3 a4 a5 a6 a7 a8 a9 a10 a11 a12 a13 a14 a15 a16 : Option D), compG 17 (bOr (b2 eqD (d2 ixD (dVar 17) (dC (.int 2))) (dC (.int 0))) (b2 eqD (d2 ixD (dVar 17) (dC (.int 2))) (dC (.int 5)))) e6_law [a0, a1, a2, a3, a4, a5, a6, a7, a8, a9, a10, a11, a12, a13, a14, a15, a16, none] (Pds P) [] = some (Ds ((P.filter fun e => decide (e.q = 0) || decide (e.q = 5)).map (·.s))) := fun a0 a1 a2 a3 a4 a5 a6 a7 a8 a9 a10 a11 a12 a13 a14 a15 a16 => comp_pe (by simp) (fun e => decide (e.q = 0) || decide (e.q = 5)) P (by omega) (fun e => by
    have z := pd_1 e
    have z2 := pd_2 e
    simp [z, z2] <;> (split <;> simp [*])) fun e => by
    have z : (Dm.d e.s : D).frz = Dm.d e.s := Dm_frz e.s
    simp [e6_law, pd_0, z]
  have d1 := flt_not P nd (fun e => decide (e.p = 0) || decide (e.p = 2)) (fun e => decide (e.p = 1) || decide (e.p = 2)) (fun e => decide (e.p = 0)) (fun e _ => by
    by_cases z0 : e.p = 0
    · simp [z0]
    · by_cases z2 : e.p = 2 <;> simp [z0, z2])
  have d2 := flt_not P nd (fun e => decide (e.p = 1) || decide (e.p = 2)) (fun e => decide (e.p = 0) || decide (e.p = 2)) (fun e => decide (e.p = 1)) (fun e _ => by
    by_cases z0 : e.p = 1
    · simp [z0]
    · by_cases z2 : e.p = 2 <;> simp [z0, z2])
  have l1 := lf fun e => decide (e.p = 0) || decide (e.p = 2)
  have l2 := lf fun e => decide (e.p = 1) || decide (e.p = 2)
  have so3 := sortN_dm (α := Sn) (show Dm.dep Sn ≤ 20 by decide) true ((P.filter fun e => decide (e.p = 0)).map (·.s)) (by have := lf fun e => decide (e.p = 0); omega)
  have so4 := sortN_dm (α := Sn) (show Dm.dep Sn ≤ 20 by decide) true ((P.filter fun e => decide (e.p = 1)).map (·.s)) (by have := lf fun e => decide (e.p = 1); omega)
  have so5 := sortN_dm (α := Sn) (show Dm.dep Sn ≤ 20 by decide) true ((P.filter fun e => decide (e.q = 1) || decide (e.q = 2)).map (·.s)) (by have := lf fun e => decide (e.q = 1) || decide (e.q = 2); omega)
  have so6 := sortN_dm (α := Sn) (show Dm.dep Sn ≤ 20 by decide) true ((P.filter fun e => decide (e.q = 0) || decide (e.q = 5)).map (·.s)) (by have := lf fun e => decide (e.q = 0) || decide (e.q = 5); omega)
  obtain ⟨B, hB⟩ : ∃ B, (P.filter fun e => decide (e.p = 0) || decide (e.p = 2)).map (·.s) = B := ⟨_, rfl⟩
  obtain ⟨A0, hA0⟩ : ∃ A, (P.filter fun e => decide (e.p = 1) || decide (e.p = 2)).map (·.s) = A := ⟨_, rfl⟩
  obtain ⟨A, hA⟩ : ∃ A, A0.reverse = A := ⟨_, rfl⟩
  obtain ⟨G, hG⟩ : ∃ G, srtD ((P.filter fun e => decide (e.p = 0)).map (·.s)) = G := ⟨_, rfl⟩
  obtain ⟨C, hC⟩ : ∃ C, srtD ((P.filter fun e => decide (e.p = 1)).map (·.s)) = C := ⟨_, rfl⟩
  obtain ⟨LO, hLO⟩ : ∃ G, srtD ((P.filter fun e => decide (e.q = 1) || decide (e.q = 2)).map (·.s)) = G := ⟨_, rfl⟩
  obtain ⟨WO, hWO⟩ : ∃ G, srtD ((P.filter fun e => decide (e.q = 0) || decide (e.q = 5)).map (·.s)) = G := ⟨_, rfl⟩
  have mA : ∀ s : Sn, s ∈ A ↔ s ∈ A0 := fun s => by rw [← hA, List.mem_reverse]
  rw [hB, hA0] at d1 d2
  have dG : srtD (B.filter fun x => !decide (x ∈ A)) = G := by
    rw [← hG]
    refine srtD_eq (List.Perm.trans (List.Perm.of_eq (List.filter_congr fun x _ => ?_)) d1)
    simp only [mA]
  have dC : srtD (A.filter fun x => !decide (x ∈ B)) = C := by
    rw [← hC]
    refine srtD_eq (List.Perm.trans (List.Perm.filter _ ?_) d2)
    rw [← hA]
    exact List.reverse_perm A0
  have lA : A.length ≤ 12 := by rw [← hA, List.length_reverse, ← hA0]; exact l2
  have lB : B.length ≤ 12 := by rw [← hB]; exact l1
  have df1 := difference_ok false false B A (by omega) (by omega)
  have df2 := difference_ok false false A B (by omega) (by omega)
  rw [dG, dC] at df1
  rw [dG, dC] at df2
  rw [hG] at so3
  rw [hC] at so4
  rw [hLO] at so5
  rw [hWO] at so6
  rw [hB] at c1
  rw [hA0] at c2
  obtain ⟨kl, ekl, lkl⟩ := modK (at0 ds 3) 3 (by decide)
  have ro := rounds_ok P kl hP (by omega) hq
  have rl := rounds_len P kl hP (by omega)
  obtain ⟨W, hW⟩ : ∃ W, roundsW P kl = W := ⟨_, rfl⟩
  have key : ∀ Ls : List (List Wd), Ls.flatten = W → Ls.length ≤ 10 → starF 0 F_net (LL Ls) = .ok (.tup [.lst true (Ds LO), .lst true (Ds WO)]) := fun Ls hL hl => by
    have n1 := net_rounds P kl nd (fun n => decide (n < 0)) rfl Ls (hL.trans hW.symm) (fun e => decide (e.q = 1) || decide (e.q = 2)) (fun e he => totQ_neg (hq e he).1 (hq e he).2)
    have n2 := net_rounds P kl nd (fun n => decide (0 < n)) rfl Ls (hL.trans hW.symm) (fun e => decide (e.q = 0) || decide (e.q = 5)) (fun e he => totQ_pos (hq e he).1 (hq e he).2)
    have := star_net Ls (by rw [hL, ← hW]; omega) (by omega)
    rw [srtD_eq n1, srtD_eq n2, hLO, hWO] at this
    exact this
  rw [hW] at ro rl
  have po1 := pair_ok G C
  have po2 := pair_ok C G
  have po3 := pair_ok LO WO
  have po0 := pair_ok [] []
  have zB : D.frzs (Ds B) = Ds B := frzs_fzs _ (Ds_fzs _)
  have zA : D.frzs (Ds A) = Ds A := frzs_fzs _ (Ds_fzs _)
  have lsB : listN [.lst true (Ds B)] = some (.lst true (Ds B)) := listN_Ds true B
  have lsA : listN [.lst true (Ds A)] = some (.lst true (Ds A)) := listN_Ds true A
  have lsW : listN [.lst true (Ds W)] = some (.lst true (Ds W)) := listN_Ds true W
  have rv : revD (.lst true (Ds A0)) = some (.lst true (Ds A)) := by
    show (if D.fzs (Ds A0) = true then some (D.lst true (Ds A0).reverse) else none) = _
    rw [if_pos (Ds_fzs A0), ← hA, show (Ds A0 : List D).reverse = Ds A0.reverse from by simp [Ds]]
  have n2 := ne_two A B
  have h0 : ∀ a b : D, ixD (.lst true [a, b]) (.int 0) = some a := fun _ _ => rfl
  have h1 : ∀ a b : D, ixD (.lst true [a, b]) (.int 1) = some b := fun _ _ => rfl
  have zP : D.frzs (Pds P) = Pds P := frzs_fzs _ (Pds_fzs P)
  have s5 : t5_law [some (.scr ns), some (.lst true (I ds)), some (.int base), some (.int big), some (.lst true (Pds P)), none, none, none, none, none, none, none, none, none, none, none, none, none] = t6_law [some (.scr ns), some (.lst true (I ds)), some (.int base), some (.int big), some (.lst true (Pds P)), some (.lst true (Ds B)), none, none, none, none, none, none, none, none, none, none, none, none] := by
    simp [t5_law, sP, c1, wipeE]
  have s6 : t6_law [some (.scr ns), some (.lst true (I ds)), some (.int base), some (.int big), some (.lst true (Pds P)), some (.lst true (Ds B)), none, none, none, none, none, none, none, none, none, none, none, none] = t7_law [some (.scr ns), some (.lst true (I ds)), some (.int base), some (.int big), some (.lst true (Pds P)), some (.lst true (Ds B)), some (.lst true (Ds A)), none, none, none, none, none, none, none, none, none, none, none] := by
    simp [t6_law, sP, c2, rv, wipeE]
  have s7 : t7_law [some (.scr ns), some (.lst true (I ds)), some (.int base), some (.int big), some (.lst true (Pds P)), some (.lst true (Ds B)), some (.lst true (Ds A)), none, none, none, none, none, none, none, none, none, none, none] = t8_law [some (.scr ns), some (.lst true (I ds)), some (.int base), some (.int big), some (.lst true (Pds P)), some (.lst true (Ds B)), some (.lst true (Ds A)), some (.lst true (Ds G)), none, none, none, none, none, none, none, none, none, none] := by
    simp [t7_law, sP, c3, so3, wipeE]
  have s8 : t8_law [some (.scr ns), some (.lst true (I ds)), some (.int base), some (.int big), some (.lst true (Pds P)), some (.lst true (Ds B)), some (.lst true (Ds A)), some (.lst true (Ds G)), none, none, none, none, none, none, none, none, none, none] = t9_law [some (.scr ns), some (.lst true (I ds)), some (.int base), some (.int big), some (.lst true (Pds P)), some (.lst true (Ds B)), some (.lst true (Ds A)), some (.lst true (Ds G)), some (.lst true (Ds C)), none, none, none, none, none, none, none, none, none] := by
    simp [t8_law, sP, c4, so4, wipeE]
  have s9 : t9_law [some (.scr ns), some (.lst true (I ds)), some (.int base), some (.int big), some (.lst true (Pds P)), some (.lst true (Ds B)), some (.lst true (Ds A)), some (.lst true (Ds G)), some (.lst true (Ds C)), none, none, none, none, none, none, none, none, none] = t10_law [some (.scr ns), some (.lst true (I ds)), some (.int base), some (.int big), some (.lst true (Pds P)), some (.lst true (Ds B)), some (.lst true (Ds A)), some (.lst true (Ds G)), some (.lst true (Ds C)), some (.lst true [.lst true (Ds B), .lst true (Ds A)]), none, none, none, none, none, none, none, none] := by
    simp [t9_law, lsB, lsA, LIM]
  have s10 : t10_law [some (.scr ns), some (.lst true (I ds)), some (.int base), some (.int big), some (.lst true (Pds P)), some (.lst true (Ds B)), some (.lst true (Ds A)), some (.lst true (Ds G)), some (.lst true (Ds C)), some (.lst true [.lst true (Ds B), .lst true (Ds A)]), none, none, none, none, none, none, none, none] = t11_law [some (.scr ns), some (.lst true (I ds)), some (.int base), some (.int big), some (.lst true (Pds P)), some (.lst true (Ds B)), some (.lst true (Ds A)), some (.lst true (Ds G)), some (.lst true (Ds C)), some (.lst true [.lst true (Ds B), .lst true (Ds A)]), some (.tup [.lst true (Ds G), .lst true (Ds C)]), none, none, none, none, none, none, none] := by
    simp [t10_law, h0, h1, df1]
  have s11 : t11_law [some (.scr ns), some (.lst true (I ds)), some (.int base), some (.int big), some (.lst true (Pds P)), some (.lst true (Ds B)), some (.lst true (Ds A)), some (.lst true (Ds G)), some (.lst true (Ds C)), some (.lst true [.lst true (Ds B), .lst true (Ds A)]), some (.tup [.lst true (Ds G), .lst true (Ds C)]), none, none, none, none, none, none, none] = t12_law [some (.scr ns), some (.lst true (I ds)), some (.int base), some (.int big), some (.lst true (Pds P)), some (.lst false (Ds B)), some (.lst false (Ds A)), some (.lst true (Ds G)), some (.lst true (Ds C)), some (.lst true [.lst true (Ds B), .lst true (Ds A)]), some (.tup [.lst true (Ds G), .lst true (Ds C)]), none, none, none, none, none, none, none] := by
    simp [t11_law, po1, n2, zA, zB, LIM]
  have lG : G.length ≤ 12 := by rw [← hG, (srtD_perm _).length_eq]; exact lf _
  have lC : C.length ≤ 12 := by rw [← hC, (srtD_perm _).length_eq]; exact lf _
  have ix0 : ixN 2 (0 : Int) = some 0 := by decide
  have ix1 : ixN 2 (1 : Int) = some 1 := by decide
  have qG : G.length < 1000000 := by omega
  have qC : C.length < 1000000 := by omega
  have s12 : t12_law [some (.scr ns), some (.lst true (I ds)), some (.int base), some (.int big), some (.lst true (Pds P)), some (.lst false (Ds B)), some (.lst false (Ds A)), some (.lst true (Ds G)), some (.lst true (Ds C)), some (.lst true [.lst true (Ds B), .lst true (Ds A)]), some (.tup [.lst true (Ds G), .lst true (Ds C)]), none, none, none, none, none, none, none] = t13_law [some (.scr ns), some (.lst true (I ds)), some (.int base), some (.int big), some (.lst true (Pds P)), some (.lst false (Ds B)), some (.lst false (Ds A)), some (.lst true (Ds G)), some (.lst true (Ds C)), some (.lst true [.lst true (Ds B), .lst true (Ds A)]), some (.tup [.lst true (Ds G ++ [.int 1]), .lst true (Ds C)]), none, none, none, none, none, none, none] := by
    simp [t12_law, ix0, qG, LIM]
  have s13 : t13_law [some (.scr ns), some (.lst true (I ds)), some (.int base), some (.int big), some (.lst true (Pds P)), some (.lst false (Ds B)), some (.lst false (Ds A)), some (.lst true (Ds G)), some (.lst true (Ds C)), some (.lst true [.lst true (Ds B), .lst true (Ds A)]), some (.tup [.lst true (Ds G ++ [.int 1]), .lst true (Ds C)]), none, none, none, none, none, none, none] = t14_law [some (.scr ns), some (.lst true (I ds)), some (.int base), some (.int big), some (.lst true (Pds P)), some (.lst false (Ds B)), some (.lst false (Ds A)), some (.lst true (Ds G)), some (.lst true (Ds C)), some (.lst true [.lst true (Ds B), .lst true (Ds A)]), some (.tup [.lst true (Ds G ++ [.int 1]), .lst true (Ds C ++ [.int 1])]), none, none, none, none, none, none, none] := by
    simp [t13_law, ix1, qC, LIM]
  have s14 : t14_law [some (.scr ns), some (.lst true (I ds)), some (.int base), some (.int big), some (.lst true (Pds P)), some (.lst false (Ds B)), some (.lst false (Ds A)), some (.lst true (Ds G)), some (.lst true (Ds C)), some (.lst true [.lst true (Ds B), .lst true (Ds A)]), some (.tup [.lst true (Ds G ++ [.int 1]), .lst true (Ds C ++ [.int 1])]), none, none, none, none, none, none, none] = t15_law [some (.scr ns), some (.lst true (I ds)), some (.int base), some (.int big), some (.lst true (Pds P)), some (.lst false (Ds B)), some (.lst false (Ds A)), some (.lst true (Ds G)), some (.lst true (Ds C)), some (.lst true [.lst true (Ds B), .lst true (Ds A)]), some (.tup [.lst true (Ds G ++ [.int 1]), .lst true (Ds C ++ [.int 1])]), none, none, none, none, none, none, none] := by
    simp [t14_law, df1, df2, po1, po2]
  have s15 : t15_law [some (.scr ns), some (.lst true (I ds)), some (.int base), some (.int big), some (.lst true (Pds P)), some (.lst false (Ds B)), some (.lst false (Ds A)), some (.lst true (Ds G)), some (.lst true (Ds C)), some (.lst true [.lst true (Ds B), .lst true (Ds A)]), some (.tup [.lst true (Ds G ++ [.int 1]), .lst true (Ds C ++ [.int 1])]), none, none, none, none, none, none, none] = t16_law [some (.scr ns), some (.lst true (I ds)), some (.int base), some (.int big), some (.lst true (Pds P)), some (.lst false (Ds B)), some (.lst false (Ds A)), some (.lst true (Ds G)), some (.lst true (Ds C)), some (.lst true [.lst true (Ds B), .lst true (Ds A)]), some (.tup [.lst true (Ds G ++ [.int 1]), .lst true (Ds C ++ [.int 1])]), some (.lst true (Ds W)), none, none, none, none, none, none] := by
    simp [t15_law, i3, ekl, ro, zP]
  have s16 : t16_law [some (.scr ns), some (.lst true (I ds)), some (.int base), some (.int big), some (.lst true (Pds P)), some (.lst false (Ds B)), some (.lst false (Ds A)), some (.lst true (Ds G)), some (.lst true (Ds C)), some (.lst true [.lst true (Ds B), .lst true (Ds A)]), some (.tup [.lst true (Ds G ++ [.int 1]), .lst true (Ds C ++ [.int 1])]), some (.lst true (Ds W)), none, none, none, none, none, none] = t17_law [some (.scr ns), some (.lst true (I ds)), some (.int base), some (.int big), some (.lst true (Pds P)), some (.lst false (Ds B)), some (.lst false (Ds A)), some (.lst true (Ds G)), some (.lst true (Ds C)), some (.lst true [.lst true (Ds B), .lst true (Ds A)]), some (.tup [.lst true (Ds G ++ [.int 1]), .lst true (Ds C ++ [.int 1])]), some (.lst true (Ds W)), some (.lst true (Ds LO)), none, none, none, none, none] := by
    simp [t16_law, sP, c5, so5, wipeE]
  have s17 : t17_law [some (.scr ns), some (.lst true (I ds)), some (.int base), some (.int big), some (.lst true (Pds P)), some (.lst false (Ds B)), some (.lst false (Ds A)), some (.lst true (Ds G)), some (.lst true (Ds C)), some (.lst true [.lst true (Ds B), .lst true (Ds A)]), some (.tup [.lst true (Ds G ++ [.int 1]), .lst true (Ds C ++ [.int 1])]), some (.lst true (Ds W)), some (.lst true (Ds LO)), none, none, none, none, none] = t18_law [some (.scr ns), some (.lst true (I ds)), some (.int base), some (.int big), some (.lst true (Pds P)), some (.lst false (Ds B)), some (.lst false (Ds A)), some (.lst true (Ds G)), some (.lst true (Ds C)), some (.lst true [.lst true (Ds B), .lst true (Ds A)]), some (.tup [.lst true (Ds G ++ [.int 1]), .lst true (Ds C ++ [.int 1])]), some (.lst true (Ds W)), some (.lst true (Ds LO)), some (.lst true (Ds WO)), none, none, none, none] := by
    simp [t17_law, sP, c6, so6, wipeE]
  have s18 : t18_law [some (.scr ns), some (.lst true (I ds)), some (.int base), some (.int big), some (.lst true (Pds P)), some (.lst false (Ds B)), some (.lst false (Ds A)), some (.lst true (Ds G)), some (.lst true (Ds C)), some (.lst true [.lst true (Ds B), .lst true (Ds A)]), some (.tup [.lst true (Ds G ++ [.int 1]), .lst true (Ds C ++ [.int 1])]), some (.lst true (Ds W)), some (.lst true (Ds LO)), some (.lst true (Ds WO)), none, none, none, none] = t19_law [some (.scr ns), some (.lst true (I ds)), some (.int base), some (.int big), some (.lst true (Pds P)), some (.lst false (Ds B)), some (.lst false (Ds A)), some (.lst true (Ds G)), some (.lst true (Ds C)), some (.lst true [.lst true (Ds B), .lst true (Ds A)]), some (.tup [.lst true (Ds G ++ [.int 1]), .lst true (Ds C ++ [.int 1])]), some (.lst true (Ds W)), some (.lst true (Ds LO)), some (.lst true (Ds WO)), some (.lst true (Ds W)), none, none, none] := by
    simp [t18_law, lsW]
  have fW : ∀ V : List Wd, D.frzs (Ds V) = Ds V := fun V => frzs_fzs _ (Ds_fzs _)
  have k1 : starF 0 F_net [.lst false (Ds W)] = _ := key [W] (by simp) (by simp)
  have k0 : starF 0 F_net [] = .ok (.tup [.lst true [], .lst true []]) := by
    have := star_net [] (by simp) (by simp)
    rw [net_nil, net_nil] at this
    exact this
  have nW := neD_Ds (show Dm.dep Wd ≤ 19 by decide) true true W W
  rw [decide_eq_true rfl] at nW
  rw [show (Ds ([] : List Sn)) = [] from rfl] at po0
  have s19 : t19_law [some (.scr ns), some (.lst true (I ds)), some (.int base), some (.int big), some (.lst true (Pds P)), some (.lst false (Ds B)), some (.lst false (Ds A)), some (.lst true (Ds G)), some (.lst true (Ds C)), some (.lst true [.lst true (Ds B), .lst true (Ds A)]), some (.tup [.lst true (Ds G ++ [.int 1]), .lst true (Ds C ++ [.int 1])]), some (.lst true (Ds W)), some (.lst true (Ds LO)), some (.lst true (Ds WO)), some (.lst true (Ds W)), none, none, none] = t20_law [some (.scr ns), some (.lst true (I ds)), some (.int base), some (.int big), some (.lst true (Pds P)), some (.lst false (Ds B)), some (.lst false (Ds A)), some (.lst true (Ds G)), some (.lst true (Ds C)), some (.lst true [.lst true (Ds B), .lst true (Ds A)]), some (.tup [.lst true (Ds G ++ [.int 1]), .lst true (Ds C ++ [.int 1])]), some (.lst true (Ds W)), some (.lst true (Ds LO)), some (.lst true (Ds WO)), some (.lst true (Ds W)), none, none, none] := by
    simp [t19_law, k1, k0, po3, po0, nW, LIM]
  have lW : lenN [.lst true (Ds W)] = some (.int (W.length : Int)) := by simp
  obtain ⟨k1, ek1, lk1⟩ := modK (at0 ds 4) ((W.length : Int) + 1) (by omega)
  obtain ⟨j2, ej2, lj2⟩ := modK (at0 ds 5) ((W.length : Int) + 1 - (k1 : Int)) (by omega)
  obtain ⟨k2, hk2⟩ : ∃ k2 : Nat, (k1 : Int) + (j2 : Int) = (k2 : Int) := ⟨k1 + j2, by omega⟩
  have sl1 : slD (.lst true (Ds W)) none (some (k1 : Int)) = some (.lst true (Ds (W.take k1))) := (slD_Ds true W none (some (k1 : Int))).trans (by rw [cut_to W k1 (by omega)])
  have sl2 : slD (.lst true (Ds W)) (some (k1 : Int)) none = some (.lst true (Ds (W.drop k1))) := (slD_Ds true W (some (k1 : Int)) none).trans (by rw [cut_from W k1 (by omega)])
  have sl3 : slD (.lst true (Ds W)) (some (k2 : Int)) none = some (.lst true (Ds (W.drop k2))) := (slD_Ds true W (some (k2 : Int)) none).trans (by rw [cut_from W k2 (by omega)])
  have sl4 : slD (.lst true (Ds W)) (some (k1 : Int)) (some (k2 : Int)) = some (.lst true (Ds ((W.drop k1).take (k2 - k1)))) := (slD_Ds true W (some (k1 : Int)) (some (k2 : Int))).trans (by rw [cut_midL W k1 k2 (by omega) (by omega)])
  have kk2 : starF 0 F_net [.lst false (Ds (W.take k1)), .lst false (Ds (W.drop k1))] = _ := key [W.take k1, W.drop k1] (by simp) (by simp)
  have kk4 : starF 0 F_net [.lst false (Ds (W.take k1)), .lst false (Ds ((W.drop k1).take (k2 - k1))), .lst false [], .lst false (Ds (W.drop k2))] = _ := key [W.take k1, (W.drop k1).take (k2 - k1), [], W.drop k2] (by
    have e : W.drop k2 = (W.drop k1).drop (k2 - k1) := by rw [List.drop_drop]; congr 1; omega
    simp only [List.flatten_cons, List.flatten_nil, List.nil_append, List.append_nil]
    rw [e, List.take_append_drop, List.take_append_drop]) (by simp)
  have s20 : t20_law [some (.scr ns), some (.lst true (I ds)), some (.int base), some (.int big), some (.lst true (Pds P)), some (.lst false (Ds B)), some (.lst false (Ds A)), some (.lst true (Ds G)), some (.lst true (Ds C)), some (.lst true [.lst true (Ds B), .lst true (Ds A)]), some (.tup [.lst true (Ds G ++ [.int 1]), .lst true (Ds C ++ [.int 1])]), some (.lst true (Ds W)), some (.lst true (Ds LO)), some (.lst true (Ds WO)), some (.lst true (Ds W)), none, none, none] = t21_law [some (.scr ns), some (.lst true (I ds)), some (.int base), some (.int big), some (.lst true (Pds P)), some (.lst false (Ds B)), some (.lst false (Ds A)), some (.lst true (Ds G)), some (.lst true (Ds C)), some (.lst true [.lst true (Ds B), .lst true (Ds A)]), some (.tup [.lst true (Ds G ++ [.int 1]), .lst true (Ds C ++ [.int 1])]), some (.lst true (Ds W)), some (.lst true (Ds LO)), some (.lst true (Ds WO)), some (.lst true (Ds W)), some (.int (k1 : Int)), none, none] := by
    simp [t20_law, i4, lW, ek1]
  have s21 : t21_law [some (.scr ns), some (.lst true (I ds)), some (.int base), some (.int big), some (.lst true (Pds P)), some (.lst false (Ds B)), some (.lst false (Ds A)), some (.lst true (Ds G)), some (.lst true (Ds C)), some (.lst true [.lst true (Ds B), .lst true (Ds A)]), some (.tup [.lst true (Ds G ++ [.int 1]), .lst true (Ds C ++ [.int 1])]), some (.lst true (Ds W)), some (.lst true (Ds LO)), some (.lst true (Ds WO)), some (.lst true (Ds W)), some (.int (k1 : Int)), none, none] = t22_law [some (.scr ns), some (.lst true (I ds)), some (.int base), some (.int big), some (.lst true (Pds P)), some (.lst false (Ds B)), some (.lst false (Ds A)), some (.lst true (Ds G)), some (.lst true (Ds C)), some (.lst true [.lst true (Ds B), .lst true (Ds A)]), some (.tup [.lst true (Ds G ++ [.int 1]), .lst true (Ds C ++ [.int 1])]), some (.lst true (Ds W)), some (.lst true (Ds LO)), some (.lst true (Ds WO)), some (.lst true (Ds W)), some (.int (k1 : Int)), some (.int (k2 : Int)), none] := by
    simp [t21_law, i5, lW, ej2, hk2]
  have s22 : t22_law [some (.scr ns), some (.lst true (I ds)), some (.int base), some (.int big), some (.lst true (Pds P)), some (.lst false (Ds B)), some (.lst false (Ds A)), some (.lst true (Ds G)), some (.lst true (Ds C)), some (.lst true [.lst true (Ds B), .lst true (Ds A)]), some (.tup [.lst true (Ds G ++ [.int 1]), .lst true (Ds C ++ [.int 1])]), some (.lst true (Ds W)), some (.lst true (Ds LO)), some (.lst true (Ds WO)), some (.lst true (Ds W)), some (.int (k1 : Int)), some (.int (k2 : Int)), none] = t23_law [some (.scr ns), some (.lst true (I ds)), some (.int base), some (.int big), some (.lst true (Pds P)), some (.lst false (Ds B)), some (.lst false (Ds A)), some (.lst true (Ds G)), some (.lst true (Ds C)), some (.lst true [.lst true (Ds B), .lst true (Ds A)]), some (.tup [.lst true (Ds G ++ [.int 1]), .lst true (Ds C ++ [.int 1])]), some (.lst true (Ds W)), some (.lst true (Ds LO)), some (.lst true (Ds WO)), some (.lst true (Ds W)), some (.int (k1 : Int)), some (.int (k2 : Int)), none] := by
    simp [t22_law, sl1, sl2, fW, kk2, po3]
  rw [s5, s6, s7, s8, s9, s10, s11, s12, s13, s14, s15, s16, s17, s18, s19, s20, s21, s22]
  simp [t23_law, sl1, sl3, sl4, fW, kk4, po3, LIM]
theorem plain_law (ns : List Int) (h : ns.length ≤ 63) : F_law [.scr ns] = .ok (.bl true) := by
  obtain ⟨ds, hds, dw⟩ := row_int (at0 ns 0) 8 (by decide) (by decide)
  have dl : ds.length = 8 := dw.1
  have i1 := x_ixI (ns := ds) (o := true) (i := 1) (by decide) (by omega)
  have j1 := dw.at (i := 1) (by decide)
  obtain ⟨c', hc, c0, c1⟩ := count_ok (at0 ds 1) 12 (by decide) (by omega)
  obtain ⟨c, rfl⟩ : ∃ n : Nat, c' = n := ⟨c'.toNat, by omega⟩
  obtain ⟨base, hb, _⟩ := big_ok (at0 ns 2)
  obtain ⟨big, hbg, _⟩ := big_ok (at0 ns 3)
  obtain ⟨rs, hrs, rw_⟩ := row_int (at0 ns 1) 72 (by decide) (by decide)
  obtain ⟨P, hp, lP, nd, hq⟩ := pool2_ok rs false c base big (by omega) (by rw [rw_.1]; simp; omega)
  have re := rest_ok ns ds base big P lP nd hq dl
  have cl := Pds_clns P
  simp [F_law, g_law, runF, t1_law, t2_law, t3_law, t4_law, cell_int, hds, i1, hc, hb, hbg, hrs, hp, cl, re]
end
end Lw
open PySem PySem.W PySem.Calls PyProof.Rows
theorem PySem.Challenge.cw_gapsittings_k65_difference_and_net_holds : PySem.Challenge.rw_gapsittings_k65_difference_and_net.Holds := by
  w_on; o_law
  refine HandSHeadRun.head_any (r := OpenLaw.row PySem.Challenge.rw_gapsittings_k65_difference_and_net) (q := view (OpenLaw.row PySem.Challenge.rw_gapsittings_k65_difference_and_net).prog [13]) (H := Lw.hk) (ob := Lw.ob) (M := 12000) (loose := [("difference" : PySem.Str), ("net" : PySem.Str), ("_law_cell" : PySem.Str), ("_law_row" : PySem.Str), ("_law_big" : PySem.Str), ("_law_count" : PySem.Str), ("_law_value" : PySem.Str), ("_law_pair_of" : PySem.Str), ("_law_pool" : PySem.Str), ("_law_words_of" : PySem.Str), ("_law_rounds" : PySem.Str)]) (d := HandSHeadRun.topDef (OpenLaw.row PySem.Challenge.rw_gapsittings_k65_difference_and_net).prog 13) (kwd := []) Lw.ob_eq
    (by kernel_rfl) (fun s => by kernel_rfl) Lw.run (by kernel_rfl) (by kernel_rfl) (by kernel_rfl) (by rfl) (by first | assumption | decide +kernel) (by decide +kernel) ⟨rfl, rfl, rfl, rfl, rfl, by decide +kernel⟩ ?hw ?hc
  case hw => w_witness2
  case hc =>
    refine DL.walk_ofX (l := PySem.Challenge.rw_gapsittings_k65_difference_and_net) (n := 63) (k := 3) (x := "_law_script") (F := Lw.F_law) rfl (by decide) (by kernel_rfl) ⟨rfl, by decide, by decide⟩ ?F Lw.plain_law
    intro w mg fa h Y G hmg0
    obtain ⟨K, KX, c, TH⟩ := Y
    have hmg : mg ("law" : PySem.Str) = some (.ref fa) := by
      have e : (HandSHeadRun.topDef (OpenLaw.row PySem.Challenge.rw_gapsittings_k65_difference_and_net).prog 13).name = ("law" : PySem.Str) := by kernel_rfl
      rw [← e]
      exact hmg0
    letI : DL.Tb := ⟨DL.tabsOf K⟩
    obtain ⟨fd, hb, hF⟩ := Lw.facts rfl (P := (PySem.Challenge.rw_gapsittings_k65_difference_and_net : PySem.W.OpenLaw).prog) (w := w) ⟨by decide +kernel, by decide +kernel⟩ KX G hmg c
    exact ⟨K, fd, KX, TH, hb, hF⟩
