import PyProof.Rows.All
import Wide.All
import OpenK.AllK
import Wide.FinOn
import HandS.Base
import HandS.Call
import HandS.List
import HandS.Lambda
import HandS.HeadHook4
import HandS.ExcInit
import HandS.Exc
import HandS.ExcOwn
import HandS.Words
import HandS.WordsExc
import HandS.Flow
import HandS.HeadHook1
import HandS.Wide
import HandS.TupAny
import HandS.TupLe
import HandS.Style
import HandS.Conv
import HandS.Text
import HandS.Deep
import HandS.IsInst
import HandS.Iter
import HandS.TryOnly
import HandS.Comp
import HandS.Defaults
import HandS.HeadHook2
import HandS.HeadEnd
import HandS.Head0
import HandS.Head1
import HandS.Head2
import HandS.EndTab
import KE.SortData
import HandS.ClsMeth
import KE.KExcSuper
import KE.KSuper
import HandS.ExcField
import HandS.ExcIs
import HandS.TryMany
import KE.KExcIs
import HandS.HeadNt
import KE.SortKeyHeap
import PyProof.Rows.CallKwBuiltin
import KE.DataMinMax
import HandS.CallSlots
import HandS.SetFor
import KE.DataFind
import HandS.MakeKwOnly
import HandS.Property
import HandS.SlotsOwn
import OpenK.KOps
import KE.KOpsOwn
import HandS.Star
import HandS.NoneIn
import HandS.FStr
import PyProof.FString3
import PyProof.Rows.StrIntSpec
import PyProof.StrBlock
import HandS.StrMore
import HandS.IterVal
import HandS.OwnIter
import KE.KStateDown
import HandS.Codes
import KE.LtData
import PySem.Challenge.RW_gapsittings_k67_board_shown
set_option Elab.async false
set_option linter.all false
set_option maxRecDepth 100000
set_option maxHeartbeats 4000000
namespace DL
open PySem PySem.Spec PyProof.Rows L2
inductive D where
  | non
  | bl (b : Bool)
  | int (i : Int)
  | str (x : Str)
  | tup (xs : List D)
  | lst (o : Bool) (xs : List D)
  | ins (c : Str) (ns : List Str) (xs : List D)
  | scr (ns : List Int)
  | adr (a : Addr)
  | cls (c : Str)
  | err (c : Str) (ns : List Str) (xs : List D)
  | own (oa : Option Addr) (c : Str) (ns : List Str) (xs : List D)
  | lsa (a : Addr) (xs : List D)
  | dct (o : Bool) (ks : List L2.Key) (xs : List D)
  /-- a dict that is locked for good -/
  | lok (ks : List L2.Key) (xs : List D)
  | wth (x : D) (ds : List D)
  | pin (a : Addr)
  deriving Inhabited
def mutP : List (List Str) := [["late", "_rows", "_ended", "_span"], ["kind", "watermark", "finished", "_gap", "_gaps", "_lines"]]
def mutN (ns : List Str) : Bool := !ns.isEmpty && mutP.any fun l => ns.isPrefixOf l
inductive Mo where
  | l (xs : List V)
  | i (C dx : Addr) (fs : List (Str × V)) (h : mutN (fs.map Prod.fst) = true)
  | d (kvs : List (L2.Key × V))
def Mo.o : Mo → HO
  | .l xs => .lst xs
  | .i C dx fs _ => .ins C dx fs
  | .d kvs => .dK kvs
abbrev Fp := List Addr
inductive Ou (α : Type) where
  | ok (a : α)
  | ex (c : Str) (ns : List Str) (xs : List D)
  | bad
def Ou.bind {α β : Type} : Ou α → (α → Ou β) → Ou β
  | .ok a, f => f a
  | .ex c ns xs, _ => .ex c ns xs
  | .bad, _ => .bad
instance : Monad Ou where
  pure := .ok
  bind := Ou.bind
@[simp] theorem bind_ok {α β : Type} (a : α) (f : α → Ou β) : (Ou.ok a >>= f) = f a := (rfl)
@[simp] theorem bind_ex {α β : Type} (c : Str) (ns : List Str) (xs : List D) (f : α → Ou β) : (Ou.ex c ns xs >>= f) = .ex c ns xs := (rfl)
@[simp] theorem bind_bad {α β : Type} (f : α → Ou β) : (Ou.bad >>= f) = .bad := (rfl)
@[simp] theorem pure_ou {α : Type} (a : α) : (pure a : Ou α) = .ok a := (rfl)
mutual
def D.fz : D → Bool
  | .tup xs => D.fzs xs
  | .lst o _ => !o
  | .own _ _ _ _ => false
  | .lsa _ _ => false
  | .dct o _ _ => !o
  | .wth _ _ => false
  | _ => true
def D.fzs : List D → Bool
  | [] => true
  | d :: ds => d.fz && D.fzs ds
end
mutual
def D.frz : D → D
  | .tup xs => .tup (D.frzs xs)
  | .lst true xs => .lst false (D.frzs xs)
  | .own _ c ns xs => .ins c ns (D.frzs xs)
  | .lsa _ xs => .lst false (D.frzs xs)
  | .dct true ks xs => .dct false ks (D.frzs xs)
  | .wth x ds => .wth x.frz (D.frzs ds)
  | d => d
def D.frzs : List D → List D
  | [] => []
  | d :: ds => d.frz :: D.frzs ds
end
mutual
def D.cln : D → Bool
  | .tup xs => D.clns xs
  | .lst true xs => D.clns xs
  | .lst false _ => false
  | .scr _ => false
  | .ins _ ns xs => !mutN ns && D.clns xs
  | .err _ _ xs => D.clns xs
  | .own _ _ _ xs => D.clns xs
  | .lok _ xs => D.clns xs
  | .lsa _ xs => D.clns xs
  | .dct o _ xs => o && D.clns xs
  | .wth x ds => x.cln && D.clns ds
  | _ => true
def D.clns : List D → Bool
  | [] => true
  | d :: ds => d.cln && D.clns ds
end
def NoT (o : HO) : Prop := ∀ ps, o ≠ .tbl ps
theorem noT_exo (a C : Addr) (d : Option Addr) : NoT (exo a C d) := fun _ => exo_tbl
theorem noT_exd (a : Addr) (fs : List (Str × V)) : NoT (exd a fs) := fun _ z => by
  have z' : HO.ext _ = HO.tbl _ := z
  cases z'
theorem Mo.noT (y : Mo) : NoT y.o := fun ps z => by cases y <;> cases z
theorem Mo.nCode {y : Mo} {c : Addr} {q : Str} {P : Prop} (e : LamX.CodeO c q = y.o) : P := by
  have e' : HO.ext _ = y.o := e
  cases y <;> cases e'
theorem Mo.nCode' {y : Mo} {c : Addr} {q : Str} {P : Prop} (e : some (LamX.CodeO c q) = some y.o) : P := Mo.nCode (Option.some.inj e)
theorem Mo.nTbl {y : Mo} {ps : Array Value} {P : Prop} (e : some (HO.tbl ps) = some y.o) : P := by
  have e := Option.some.inj e
  cases y <;> cases e
theorem exo_lst {e C : Addr} {d : Option Addr} {xs : List V} : exo e C d ≠ .lst xs := fun z => by
  have z' : HO.ext _ = HO.lst xs := z
  cases z'
theorem exd_lst {e : Addr} {fs : List (Str × V)} {xs : List V} : exd e fs ≠ .lst xs := fun z => by
  have z' : HO.ext _ = HO.lst xs := z
  cases z'
class Tb where
  t : List (Addr × Str)
instance (priority := low) noTb : Tb := ⟨[]⟩
variable [Tb]
structure Ex (H H' : Hp) : Prop where
  at_ : ∀ a o, NoT o → H a = some o → H' a = some o
  ne : ∀ a, H a ≠ none → H' a ≠ none
  tab : ∀ P q, (P, q) ∈ Tb.t → LamX.TabS H P q → LamX.TabS H' P q
theorem Ex.l {H H' : Hp} (e : Ex H H') {a : Addr} {o : HO} (h : H a = some o) (n : NoT o := by first | exact Mo.noT _ | exact fun _ z => nomatch z) : H' a = some o := e.at_ a o n h
theorem Ex.sub {H H' : Hp} (e : ∀ a o, H a = some o → H' a = some o) : Ex H H' := by
  refine ⟨fun a o _ h => e a o h, fun a h => ?_, fun P q _ h => LamX.TabS.ext h e⟩
  cases q : H a with
  | none => exact absurd q h
  | some o => rw [e a o q]; exact fun z => nomatch z
theorem Ex.refl (H : Hp) : Ex H H := .sub fun _ _ h => h
theorem Ex.trans {H H1 H2 : Hp} (a : Ex H H1) (b : Ex H1 H2) : Ex H H2 := ⟨fun x o n h => b.at_ x o n (a.at_ x o n h), fun x h => b.ne x (a.ne x h), fun P q m h => b.tab P q m (a.tab P q m h)⟩
theorem Ex.new {H : Hp} {p : Addr} {o : HO} (h : H p = none) : Ex H (upd H p o) := .sub fun a u e => by
  rw [upd_ne (ne_of_none e h)]; exact e
theorem tabS_ne {H : Hp} {P : Addr} {q : Str} (h : LamX.TabS H P q) : H P ≠ none := by
  obtain ⟨ps, e, _⟩ := h
  rw [e]; exact fun z => nomatch z
theorem Ex.chg {H H1 H2 : Hp} (e : Ex H H1) (k : ∀ a, H2 a = H1 a ∨ (H a = none ∧ ∃ xs : Mo, H1 a = some xs.o)) : Ex H H2 := by
  have same : ∀ a, H a ≠ none → H2 a = H1 a := fun a h => (k a).elim id fun z => absurd z.1 h
  refine ⟨fun a o n h => (same a (by rw [h]; exact fun z => nomatch z)).trans (e.at_ a o n h), fun a h => by rw [same a h]; exact e.ne a h, fun P q m h => ?_⟩
  obtain ⟨ps, h1, h2, h3⟩ := e.tab P q m h
  refine ⟨ps, (same P (tabS_ne h)).trans h1, h2, fun pos cv hc => ?_⟩
  obtain ⟨c, e1, e2⟩ := h3 pos cv hc
  refine ⟨c, e1, ?_⟩
  rcases k c with z | ⟨_, xs, z⟩
  · rw [z]; exact e2
  · rw [e2] at z
    have z' : some (HO.ext _) = some xs.o := z
    cases xs <;> (have z2 := Option.some.inj z'; cases z2)
theorem Ex.mut {H H' : Hp} {p : Addr} {o : HO} (e : Ex H H') (h : H p = none) (hl : ∃ xs : Mo, H' p = some xs.o) : Ex H (upd H' p o) := e.chg fun a => by
  by_cases c : a = p
  · subst c; exact .inr ⟨h, hl⟩
  · exact .inl (upd_ne c)
theorem Ex.rd {H H' : Hp} {a : Addr} {u : HO} (e : Ex H H') (h : Rd H a u) (n : NoT u := by exact fun _ z => nomatch z) : Rd H' a u := by
  rcases h with h | ⟨o, h⟩
  · exact .inl (e.l h n)
  · exact .inr ⟨o, e.l h⟩
theorem Ex.sqL {K : PySem.W.Frag} {H H' : Hp} {a : Addr} {xs : List V} (e : Ex H H') (h : SqL K H a xs) : SqL K H' a xs := by
  rcases h with h | h
  · exact .inl (e.rd h)
  · exact .inr h
theorem Ex.sqT {K : PySem.W.Frag} {H H' : Hp} {a : Addr} {xs : List V} (e : Ex H H') (h : SqT K H a xs) : SqT K H' a xs := by
  rcases h with h | h
  · exact .inl (e.rd h)
  · exact .inr h
theorem Ex.back {H H' : Hp} {p : Addr} (e : Ex H H') (h : H' p = none) : H p = none := by
  cases h1 : H p with
  | none => rfl
  | some o => exact absurd h (e.ne p (by rw [h1]; exact fun z => nomatch z))
def lamDefs : List ((Str × Option Str) × Str) := [(("BagKind", some "keep"), "BagKind.keep.<locals>.<lambda>"), (("joined_rows", none), "joined_rows.<locals>.<lambda>")]
def lamHere (K : PySem.W.Frag) (p : (Str × Option Str) × Str) : Bool := match PySem.W.nsIn K mainGlobals p.1.1 with
  | some (some _) => true
  | _ => false
def lamP (K : PySem.W.Frag) : List ((Str × Option Str) × Str) := lamDefs.filter (lamHere K)
def tabsOf (K : PySem.W.Frag) : List (Addr × Str) := (lamP K).map fun p => ((He.cT K p.1).2, p.2)
def TabsK (_K : PySem.W.Frag) (Z : Hp) : Prop := LamX.Tabs Tb.t Z
theorem TabsK.ex {K : PySem.W.Frag} {Z Z' : Hp} (t : TabsK K Z) (e : Ex Z Z') : TabsK K Z' := fun p hp => e.tab _ _ hp (t p hp)
section
variable (K : PySem.W.Frag) (cl : Str → Addr)
mutual
def Den (Z H : Hp) : D → V → Fp → Prop
  | .non, v, fp => v = .non ∧ fp = []
  | .bl b, v, fp => v = .bl b ∧ fp = []
  | .int i, v, fp => v = .int i ∧ fp = []
  | .str x, v, fp => v = .str x ∧ fp = []
  | .tup ds, v, fp => ∃ a vs, v = .ref a ∧ SqT K Z a vs ∧ Dens Z H ds vs fp
  | .lst true ds, v, fp => ∃ a vs fq, v = .ref a ∧ fp = a :: fq ∧ Z a = none ∧ H a = some (.lst vs) ∧ Dens Z H ds vs fq
  | .lst false ds, v, fp => ∃ a vs, v = .ref a ∧ fp = [] ∧ Z a = some (.lst vs) ∧ Dens Z H ds vs []
  | .ins c ns ds, v, fp => ∃ a dx vs, v = .ref a ∧ fp = [] ∧ Z a = some (.ins (cl c) dx (ns.zip vs)) ∧ ns.length = ds.length ∧ Dens Z H ds vs []
  | .scr ns, v, fp => ∃ a, v = .ref a ∧ fp = [] ∧ SqL K Z a (ns.map V.int)
  | .adr _, v, fp => (∃ a, v = .ref a) ∧ fp = []
  | .cls c, v, fp => v = .ref (cl c) ∧ fp = []
  | .pin a, v, fp => v = .ref a ∧ fp = []
  | .err c ns ds, v, fp => ∃ a dx vs, v = .ref a ∧ fp = [] ∧ Z a = some (exo a (cl c) (some dx)) ∧ Z dx = some (exd dx (ns.zip vs)) ∧ ns.length = ds.length ∧ Dens Z H ds vs []
  | .own oa c ns ds, v, fp => ∃ a dx vs fq, (∀ b, oa = some b → b = a) ∧ v = .ref a ∧ fp = a :: fq ∧ Z a = none ∧ H a = some (.ins (cl c) dx (ns.zip vs)) ∧ mutN ns = true ∧ ns.length = ds.length ∧ Dens Z H ds vs fq
  | .lsa a ds, v, fp => ∃ vs fq, v = .ref a ∧ fp = a :: fq ∧ Z a = none ∧ H a = some (.lst vs) ∧ Dens Z H ds vs fq
  | .dct true ks ds, v, fp => ∃ a vs fq, v = .ref a ∧ fp = a :: fq ∧ Z a = none ∧ H a = some (.dK (ks.zip vs)) ∧ ks.length = ds.length ∧ Dens Z H ds vs fq
  | .dct false ks ds, v, fp => ∃ a vs, v = .ref a ∧ fp = [] ∧ Z a = some (.dK (ks.zip vs)) ∧ ks.length = ds.length ∧ Dens Z H ds vs []
  | .lok ks ds, v, fp => ∃ a od vs, v = .ref a ∧ fp = [] ∧ Z a = some (.frz od (.dK (ks.zip vs))) ∧ ks.length = ds.length ∧ Dens Z H ds vs []
  | .wth x ds, v, fp => ∃ vs f1 f2, fp = f1 ++ f2 ∧ Den Z H x v f1 ∧ Dens Z H ds vs f2
def Dens (Z H : Hp) : List D → List V → Fp → Prop
  | [], vs, fp => vs = [] ∧ fp = []
  | d :: ds, vs, fp => ∃ v vr f1 f2, vs = v :: vr ∧ fp = f1 ++ f2 ∧ Den Z H d v f1 ∧ Dens Z H ds vr f2
end
end
section
variable {K : PySem.W.Frag} {cl : Str → Addr}
mutual
theorem Den.mono {Z H Y H' : Hp} (e : Ex Z Y) : ∀ (d : D) (v : V) (fp : Fp), (∀ a ∈ fp, Y a = none ∧ H' a = H a) → Den K cl Z H d v fp → Den K cl Y H' d v fp
  | .non, _, _, _, h => h
  | .bl _, _, _, _, h => h
  | .int _, _, _, _, h => h
  | .str _, _, _, _, h => h
  | .tup ds, v, fp, k, h => by
    simp only [Den] at h ⊢
    obtain ⟨a, vs, e1, q, r⟩ := h
    exact ⟨a, vs, e1, e.sqT q, Dens.mono e ds vs fp k r⟩
  | .lst true ds, v, fp, k, h => by
    simp only [Den] at h ⊢
    obtain ⟨a, vs, fq, e1, e2, z, q, r⟩ := h
    subst e2
    have ka := k a List.mem_cons_self
    exact ⟨a, vs, fq, e1, rfl, ka.1, by rw [ka.2]; exact q, Dens.mono e ds vs fq (fun b hb => k b (List.mem_cons_of_mem _ hb)) r⟩
  | .lst false ds, v, fp, k, h => by
    simp only [Den] at h ⊢
    obtain ⟨a, vs, e1, e2, q, r⟩ := h
    exact ⟨a, vs, e1, e2, e.l q, Dens.mono e ds vs [] (fun _ hb => nomatch hb) r⟩
  | .ins c ns ds, v, fp, k, h => by
    simp only [Den] at h ⊢
    obtain ⟨a, dx, vs, e1, e2, q, l, r⟩ := h
    exact ⟨a, dx, vs, e1, e2, e.l q, l, Dens.mono e ds vs [] (fun _ hb => nomatch hb) r⟩
  | .scr ns, v, fp, k, h => by
    simp only [Den] at h ⊢
    obtain ⟨a, e1, e2, q⟩ := h
    exact ⟨a, e1, e2, e.sqL q⟩
  | .adr _, _, _, _, h => h
  | .cls _, _, _, _, h => h
  | .pin _, _, _, _, h => h
  | .err c ns ds, v, fp, k, h => by
    simp only [Den] at h ⊢
    obtain ⟨a, dx, vs, e1, e2, q, q2, l, r⟩ := h
    exact ⟨a, dx, vs, e1, e2, e.l q (noT_exo _ _ _), e.l q2 (noT_exd _ _), l, Dens.mono e ds vs [] (fun _ hb => nomatch hb) r⟩
  | .own oa c ns ds, v, fp, k, h => by
    simp only [Den] at h ⊢
    obtain ⟨a, dx, vs, fq, e0, e1, e2, z, q, m, l, r⟩ := h
    subst e2
    exact ⟨a, dx, vs, fq, e0, e1, rfl, (k a List.mem_cons_self).1, (k a List.mem_cons_self).2.trans q, m, l, Dens.mono e ds vs fq (fun b hb => k b (List.mem_cons_of_mem _ hb)) r⟩
  | .lsa a ds, v, fp, k, h => by
    simp only [Den] at h ⊢
    obtain ⟨vs, fq, e1, e2, z, q, r⟩ := h
    subst e2
    exact ⟨vs, fq, e1, rfl, (k a List.mem_cons_self).1, (k a List.mem_cons_self).2.trans q, Dens.mono e ds vs fq (fun b hb => k b (List.mem_cons_of_mem _ hb)) r⟩
  | .dct true ks ds, v, fp, k, h => by
    simp only [Den] at h ⊢
    obtain ⟨a, vs, fq, e1, e2, z, q, l, r⟩ := h
    subst e2
    exact ⟨a, vs, fq, e1, rfl, (k a List.mem_cons_self).1, (k a List.mem_cons_self).2.trans q, l, Dens.mono e ds vs fq (fun b hb => k b (List.mem_cons_of_mem _ hb)) r⟩
  | .dct false ks ds, v, fp, k, h => by
    simp only [Den] at h ⊢
    obtain ⟨a, vs, e1, e2, q, l, r⟩ := h
    exact ⟨a, vs, e1, e2, e.l q, l, Dens.mono e ds vs [] (fun _ hb => nomatch hb) r⟩
  | .lok ks ds, v, fp, k, h => by
    simp only [Den] at h ⊢
    obtain ⟨a, od, vs, e1, e2, q, l, r⟩ := h
    exact ⟨a, od, vs, e1, e2, e.l q, l, Dens.mono e ds vs [] (fun _ hb => nomatch hb) r⟩
  | .wth x ds, v, fp, k, h => by
    simp only [Den] at h ⊢
    obtain ⟨vs, f1, f2, e2, q, r⟩ := h
    subst e2
    exact ⟨vs, f1, f2, rfl, Den.mono e x v f1 (fun b hb => k b (List.mem_append_left _ hb)) q, Dens.mono e ds vs f2 (fun b hb => k b (List.mem_append_right _ hb)) r⟩
theorem Dens.mono {Z H Y H' : Hp} (e : Ex Z Y) : ∀ (ds : List D) (vs : List V) (fp : Fp), (∀ a ∈ fp, Y a = none ∧ H' a = H a) → Dens K cl Z H ds vs fp → Dens K cl Y H' ds vs fp
  | [], _, _, _, h => h
  | d :: ds, vs, fp, k, h => by
    simp only [Dens] at h ⊢
    obtain ⟨v, vr, f1, f2, e1, e2, q, r⟩ := h
    subst e2
    exact ⟨v, vr, f1, f2, e1, rfl, Den.mono e d v f1 (fun b hb => k b (List.mem_append_left _ hb)) q, Dens.mono e ds vr f2 (fun b hb => k b (List.mem_append_right _ hb)) r⟩
end
theorem frzs_len : ∀ ds : List D, (D.frzs ds).length = ds.length
  | [] => rfl
  | d :: ds => by simp only [D.frzs, List.length_cons]; rw [frzs_len ds]
theorem Dens.length {Z H : Hp} : ∀ {ds : List D} {vs : List V} {fp : Fp}, Dens K cl Z H ds vs fp → vs.length = ds.length
  | [], _, _, h => by rw [h.1]; rfl
  | d :: ds, vs, fp, h => by
    simp only [Dens] at h
    obtain ⟨v, vr, f1, f2, e1, e2, q, r⟩ := h
    rw [e1, List.length_cons, List.length_cons, Dens.length r]
theorem zip_fst {α β : Type} : ∀ {ns : List α} {vs : List β}, ns.length = vs.length → (ns.zip vs).map Prod.fst = ns
  | [], _, _ => by simp
  | n :: ns, [], h => by cases h
  | n :: ns, v :: vs, h => by rw [List.zip_cons_cons, List.map_cons, zip_fst (Nat.succ.inj h)]
theorem Mo.nlst {y : Mo} {o : HO} (e : some y.o = some o) : (∃ xs, o = .lst xs) ∨ (∃ C dx fs, o = .ins C dx fs ∧ mutN (fs.map Prod.fst) = true) ∨ ∃ kvs, o = .dK kvs := by
  have e := Option.some.inj e
  cases y with
  | l xs => exact .inl ⟨xs, e.symm⟩
  | i C dx fs h => exact .inr (.inl ⟨C, dx, fs, e.symm, h⟩)
  | d kvs => exact .inr (.inr ⟨kvs, e.symm⟩)
theorem Mo.ne {y : Mo} {o : HO} {P : Prop} (e : some y.o = some o) (h1 : ∀ xs, o ≠ .lst xs := by exact fun _ z => nomatch z) (h2 : ∀ C dx fs, o ≠ .ins C dx fs := by exact fun _ _ _ z => nomatch z) (h3 : ∀ kvs, o ≠ .dK kvs := by exact fun _ z => nomatch z) : P := by
  rcases Mo.nlst e with ⟨xs, z⟩ | ⟨C, dx, fs, z, _⟩ | ⟨kvs, z⟩
  · exact absurd z (h1 xs)
  · exact absurd z (h2 C dx fs)
  · exact absurd z (h3 kvs)
mutual
theorem Den.freeze {Z H Y H' : Hp} (e : Ex Z Y) : ∀ (d : D) (v : V) (fp : Fp), (∀ a ∈ fp, Y a = H a) → Den K cl Z H d v fp → Den K cl Y H' d.frz v []
  | .non, _, _, _, h => ⟨h.1, rfl⟩
  | .bl _, _, _, _, h => ⟨h.1, rfl⟩
  | .int _, _, _, _, h => ⟨h.1, rfl⟩
  | .str _, _, _, _, h => ⟨h.1, rfl⟩
  | .tup ds, v, fp, k, h => by
    simp only [Den] at h
    simp only [D.frz, Den]
    obtain ⟨a, vs, e1, q, r⟩ := h
    exact ⟨a, vs, e1, e.sqT q, Dens.freeze e ds vs fp k r⟩
  | .lst true ds, v, fp, k, h => by
    simp only [Den] at h
    simp only [D.frz, Den]
    obtain ⟨a, vs, fq, e1, e2, z, q, r⟩ := h
    subst e2
    exact ⟨a, vs, e1, trivial, (k a List.mem_cons_self).trans q, Dens.freeze e ds vs fq (fun b hb => k b (List.mem_cons_of_mem _ hb)) r⟩
  | .lst false ds, v, fp, k, h => by
    simp only [Den] at h
    simp only [D.frz, Den]
    obtain ⟨a, vs, e1, e2, q, r⟩ := h
    exact ⟨a, vs, e1, trivial, e.l q, Dens.mono e ds vs [] (fun _ hb => nomatch hb) r⟩
  | .ins c ns ds, v, fp, k, h => by
    simp only [Den] at h
    simp only [D.frz, Den]
    obtain ⟨a, dx, vs, e1, e2, q, l, r⟩ := h
    exact ⟨a, dx, vs, e1, trivial, e.l q, l, Dens.mono e ds vs [] (fun _ hb => nomatch hb) r⟩
  | .scr ns, v, fp, k, h => by
    simp only [Den] at h
    simp only [D.frz, Den]
    obtain ⟨a, e1, e2, q⟩ := h
    exact ⟨a, e1, trivial, e.sqL q⟩
  | .adr _, _, _, _, h => ⟨h.1, rfl⟩
  | .cls _, _, _, _, h => ⟨h.1, rfl⟩
  | .pin _, _, _, _, h => ⟨h.1, rfl⟩
  | .err c ns ds, v, fp, k, h => by
    simp only [Den] at h
    simp only [D.frz, Den]
    obtain ⟨a, dx, vs, e1, e2, q, q2, l, r⟩ := h
    exact ⟨a, dx, vs, e1, trivial, e.l q (noT_exo _ _ _), e.l q2 (noT_exd _ _), l, Dens.mono e ds vs [] (fun _ hb => nomatch hb) r⟩
  | .own oa c ns ds, v, fp, k, h => by
    simp only [Den] at h
    simp only [D.frz, Den]
    obtain ⟨a, dx, vs, fq, e0, e1, e2, z, q, m, l, r⟩ := h
    subst e2
    exact ⟨a, dx, vs, e1, trivial, (k a List.mem_cons_self).trans q, l.trans (frzs_len ds).symm, Dens.freeze e ds vs fq (fun b hb => k b (List.mem_cons_of_mem _ hb)) r⟩
  | .lsa a ds, v, fp, k, h => by
    simp only [Den] at h
    simp only [D.frz, Den]
    obtain ⟨vs, fq, e1, e2, z, q, r⟩ := h
    subst e2
    exact ⟨a, vs, e1, trivial, (k a List.mem_cons_self).trans q, Dens.freeze e ds vs fq (fun b hb => k b (List.mem_cons_of_mem _ hb)) r⟩
  | .dct true ks ds, v, fp, k, h => by
    simp only [Den] at h
    simp only [D.frz, Den]
    obtain ⟨a, vs, fq, e1, e2, z, q, l, r⟩ := h
    subst e2
    exact ⟨a, vs, e1, trivial, (k a List.mem_cons_self).trans q, l.trans (frzs_len ds).symm, Dens.freeze e ds vs fq (fun b hb => k b (List.mem_cons_of_mem _ hb)) r⟩
  | .dct false ks ds, v, fp, k, h => by
    simp only [Den] at h
    simp only [D.frz, Den]
    obtain ⟨a, vs, e1, e2, q, l, r⟩ := h
    exact ⟨a, vs, e1, trivial, e.l q, l, Dens.mono e ds vs [] (fun _ hb => nomatch hb) r⟩
  | .lok ks ds, v, fp, k, h => by
    simp only [Den] at h
    simp only [D.frz, Den]
    obtain ⟨a, od, vs, e1, e2, q, l, r⟩ := h
    exact ⟨a, od, vs, e1, trivial, e.l q, l, Dens.mono e ds vs [] (fun _ hb => nomatch hb) r⟩
  | .wth x ds, v, fp, k, h => by
    simp only [Den] at h
    simp only [D.frz, Den]
    obtain ⟨vs, f1, f2, e2, q, r⟩ := h
    subst e2
    exact ⟨vs, [], [], rfl, Den.freeze e x v f1 (fun b hb => k b (List.mem_append_left _ hb)) q, Dens.freeze e ds vs f2 (fun b hb => k b (List.mem_append_right _ hb)) r⟩
theorem Dens.freeze {Z H Y H' : Hp} (e : Ex Z Y) : ∀ (ds : List D) (vs : List V) (fp : Fp), (∀ a ∈ fp, Y a = H a) → Dens K cl Z H ds vs fp → Dens K cl Y H' (D.frzs ds) vs []
  | [], _, _, _, h => ⟨h.1, rfl⟩
  | d :: ds, vs, fp, k, h => by
    simp only [Dens] at h
    simp only [D.frzs, Dens]
    obtain ⟨v, vr, f1, f2, e1, e2, q, r⟩ := h
    subst e2
    exact ⟨v, vr, [], [], e1, rfl, Den.freeze e d v f1 (fun b hb => k b (List.mem_append_left _ hb)) q, Dens.freeze e ds vr f2 (fun b hb => k b (List.mem_append_right _ hb)) r⟩
end
mutual
theorem Den.clean {Z H Y : Hp} (k : ∀ a, Z a = Y a ∨ (Z a = none ∧ ∃ xs : Mo, Y a = some xs.o)) : ∀ (d : D) (v : V) (fp : Fp), d.cln = true → Den K cl Y H d v fp → Den K cl Z H d v fp
  | .non, _, _, _, h => h
  | .bl _, _, _, _, h => h
  | .int _, _, _, _, h => h
  | .str _, _, _, _, h => h
  | .tup ds, v, fp, c, h => by
    simp only [Den] at h ⊢
    obtain ⟨a, vs, e1, q, r⟩ := h
    refine ⟨a, vs, e1, ?_, Dens.clean k ds vs fp c r⟩
    rcases k a with z | ⟨_, xs, z⟩
    · rcases q with q | q
      · left
        rcases q with q | ⟨o, q⟩
        · exact .inl (z.trans q)
        · exact .inr ⟨o, z.trans q⟩
      · exact .inr q
    · rcases q with q | q
      · rcases q with q | ⟨o, q⟩
        · rw [z] at q; exact Mo.ne q
        · rw [z] at q; exact Mo.ne q
      · exact .inr q
  | .lst true ds, v, fp, c, h => by
    simp only [Den] at h ⊢
    obtain ⟨a, vs, fq, e1, e2, z, q, r⟩ := h
    refine ⟨a, vs, fq, e1, e2, ?_, q, Dens.clean k ds vs fq c r⟩
    rcases k a with y | ⟨y, _⟩
    · exact y.trans z
    · exact y
  | .lst false ds, v, fp, c, h => by
    have c' : false = true := c
    cases c'
  | .ins cn ns ds, v, fp, c, h => by
    simp only [Den] at h ⊢
    obtain ⟨a, dx, vs, e1, e2, q, l, r⟩ := h
    have c2 : (!mutN ns && D.clns ds) = true := c
    obtain ⟨c3, c4⟩ := Bool.and_eq_true_iff.mp c2
    refine ⟨a, dx, vs, e1, e2, ?_, l, Dens.clean k ds vs [] c4 r⟩
    rcases k a with z | ⟨_, xs, z⟩
    · exact z.trans q
    · rw [z] at q
      rcases Mo.nlst q with ⟨xs, z⟩ | ⟨C, dx, fs, z, hm⟩ | ⟨kvs, z⟩
      · cases z
      · cases z
        rw [zip_fst (l.trans r.length.symm)] at hm
        rw [hm] at c3
        cases c3
      · cases z
  | .scr ns, v, fp, c, h => by
    have c' : false = true := c
    cases c'
  | .adr _, _, _, _, h => h
  | .cls _, _, _, _, h => h
  | .pin _, _, _, _, h => h
  | .err cn ns ds, v, fp, c, h => by
    simp only [Den] at h ⊢
    obtain ⟨a, dx, vs, e1, e2, q, q2, l, r⟩ := h
    refine ⟨a, dx, vs, e1, e2, ?_, ?_, l, Dens.clean k ds vs [] c r⟩
    · rcases k a with z | ⟨_, xs, z⟩
      · exact z.trans q
      · rw [z] at q; exact Mo.ne q (fun _ => exo_lst) (fun _ _ _ z => by have z' : HO.ext _ = HO.ins _ _ _ := z; cases z') (fun _ z => by have z' : HO.ext _ = HO.dK _ := z; cases z')
    · rcases k dx with z | ⟨_, xs, z⟩
      · exact z.trans q2
      · rw [z] at q2; exact Mo.ne q2 (fun _ => exd_lst) (fun _ _ _ z => by have z' : HO.ext _ = HO.ins _ _ _ := z; cases z') (fun _ z => by have z' : HO.ext _ = HO.dK _ := z; cases z')
  | .own oa cn ns ds, v, fp, c, h => by
    simp only [Den] at h ⊢
    obtain ⟨a, dx, vs, fq, e0, e1, e2, z, q, m, l, r⟩ := h
    refine ⟨a, dx, vs, fq, e0, e1, e2, ?_, q, m, l, Dens.clean k ds vs fq c r⟩
    rcases k a with y | ⟨y, _⟩
    · exact y.trans z
    · exact y
  | .lsa a ds, v, fp, c, h => by
    simp only [Den] at h ⊢
    obtain ⟨vs, fq, e1, e2, z, q, r⟩ := h
    refine ⟨vs, fq, e1, e2, ?_, q, Dens.clean k ds vs fq c r⟩
    rcases k a with y | ⟨y, _⟩
    · exact y.trans z
    · exact y
  | .dct true ks ds, v, fp, c, h => by
    simp only [Den] at h ⊢
    obtain ⟨a, vs, fq, e1, e2, z, q, l, r⟩ := h
    refine ⟨a, vs, fq, e1, e2, ?_, q, l, Dens.clean k ds vs fq c r⟩
    rcases k a with y | ⟨y, _⟩
    · exact y.trans z
    · exact y
  | .dct false ks ds, v, fp, c, h => by
    have c' : false = true := c
    cases c'
  | .lok ks ds, v, fp, c, h => by
    simp only [Den] at h ⊢
    obtain ⟨a, od, vs, e1, e2, q, l, r⟩ := h
    refine ⟨a, od, vs, e1, e2, ?_, l, Dens.clean k ds vs [] c r⟩
    rcases k a with y | ⟨_, xs, y⟩
    · exact y.trans q
    · rw [q] at y; cases xs <;> cases y
  | .wth x ds, v, fp, c, h => by
    simp only [Den] at h ⊢
    have c2 : x.cln = true ∧ D.clns ds = true := Bool.and_eq_true_iff.mp c
    obtain ⟨vs, f1, f2, e2, q, r⟩ := h
    exact ⟨vs, f1, f2, e2, Den.clean k x v f1 c2.1 q, Dens.clean k ds vs f2 c2.2 r⟩
theorem Dens.clean {Z H Y : Hp} (k : ∀ a, Z a = Y a ∨ (Z a = none ∧ ∃ xs : Mo, Y a = some xs.o)) : ∀ (ds : List D) (vs : List V) (fp : Fp), D.clns ds = true → Dens K cl Y H ds vs fp → Dens K cl Z H ds vs fp
  | [], _, _, _, h => h
  | d :: ds, vs, fp, c, h => by
    simp only [Dens] at h ⊢
    have c2 : d.cln = true ∧ D.clns ds = true := Bool.and_eq_true_iff.mp c
    obtain ⟨v, vr, f1, f2, e1, e2, q, r⟩ := h
    exact ⟨v, vr, f1, f2, e1, e2, Den.clean k d v f1 c2.1 q, Dens.clean k ds vr f2 c2.2 r⟩
end
mutual
theorem Den.fz {Z H : Hp} : ∀ (d : D) (v : V) (fp : Fp), d.fz = true → Den K cl Z H d v fp → fp = []
  | .non, _, _, _, h => h.2
  | .bl _, _, _, _, h => h.2
  | .int _, _, _, _, h => h.2
  | .str _, _, _, _, h => h.2
  | .tup ds, v, fp, c, h => by
    simp only [Den] at h
    obtain ⟨a, vs, e1, q, r⟩ := h
    exact Dens.fz ds vs fp c r
  | .lst true ds, v, fp, c, h => by
    have c' : false = true := c
    cases c'
  | .lst false ds, v, fp, c, h => by
    simp only [Den] at h
    obtain ⟨a, vs, e1, e2, _⟩ := h
    exact e2
  | .ins cn ns ds, v, fp, c, h => by
    simp only [Den] at h
    obtain ⟨a, dx, vs, e1, e2, _⟩ := h
    exact e2
  | .scr ns, v, fp, c, h => by
    simp only [Den] at h
    obtain ⟨a, e1, e2, _⟩ := h
    exact e2
  | .adr _, _, _, _, h => h.2
  | .cls _, _, _, _, h => h.2
  | .pin _, _, _, _, h => h.2
  | .err cn ns ds, v, fp, c, h => by
    simp only [Den] at h
    obtain ⟨a, dx, vs, e1, e2, _⟩ := h
    exact e2
  | .own oa cn ns ds, v, fp, c, h => by
    have c' : false = true := c
    cases c'
  | .lsa a ds, v, fp, c, h => by
    have c' : false = true := c
    cases c'
  | .dct true ks ds, v, fp, c, h => by
    have c' : false = true := c
    cases c'
  | .dct false ks ds, v, fp, c, h => by
    simp only [Den] at h
    obtain ⟨a, vs, e1, e2, _⟩ := h
    exact e2
  | .lok ks ds, v, fp, c, h => by
    simp only [Den] at h
    obtain ⟨a, od, vs, e1, e2, _⟩ := h
    exact e2
  | .wth x ds, v, fp, c, h => by
    have c' : false = true := c
    cases c'
theorem Dens.fz {Z H : Hp} : ∀ (ds : List D) (vs : List V) (fp : Fp), D.fzs ds = true → Dens K cl Z H ds vs fp → fp = []
  | [], _, _, _, h => h.2
  | d :: ds, vs, fp, c, h => by
    simp only [Dens] at h
    have c2 : d.fz = true ∧ D.fzs ds = true := Bool.and_eq_true_iff.mp c
    obtain ⟨v, vr, f1, f2, e1, e2, q, r⟩ := h
    rw [e2, Den.fz d v f1 c2.1 q, Dens.fz ds vr f2 c2.2 r]
    rfl
end
mutual
theorem Den.own {Z H : Hp} : ∀ (d : D) (v : V) (fp : Fp), Den K cl Z H d v fp → ∀ a ∈ fp, Z a = none ∧ ∃ xs : Mo, H a = some xs.o
  | .non, _, _, h, _, ha => by rw [h.2] at ha; cases ha
  | .bl _, _, _, h, _, ha => by rw [h.2] at ha; cases ha
  | .int _, _, _, h, _, ha => by rw [h.2] at ha; cases ha
  | .str _, _, _, h, _, ha => by rw [h.2] at ha; cases ha
  | .tup ds, v, fp, h, b, hb => by
    simp only [Den] at h
    obtain ⟨a, vs, e1, q, r⟩ := h
    exact Dens.own ds vs fp r b hb
  | .lst true ds, v, fp, h, b, hb => by
    simp only [Den] at h
    obtain ⟨a, vs, fq, e1, e2, z, q, r⟩ := h
    subst e2
    rcases List.mem_cons.mp hb with hb | hb
    · subst hb; exact ⟨z, .l vs, q⟩
    · exact Dens.own ds vs fq r b hb
  | .lst false ds, v, fp, h, b, hb => by
    simp only [Den] at h
    obtain ⟨a, vs, e1, e2, _⟩ := h
    rw [e2] at hb; cases hb
  | .ins cn ns ds, v, fp, h, b, hb => by
    simp only [Den] at h
    obtain ⟨a, dx, vs, e1, e2, _⟩ := h
    rw [e2] at hb; cases hb
  | .scr ns, v, fp, h, b, hb => by
    simp only [Den] at h
    obtain ⟨a, e1, e2, _⟩ := h
    rw [e2] at hb; cases hb
  | .adr _, _, _, h, _, ha => by rw [h.2] at ha; cases ha
  | .cls _, _, _, h, _, ha => by rw [h.2] at ha; cases ha
  | .pin _, _, _, h, _, ha => by rw [h.2] at ha; cases ha
  | .err cn ns ds, v, fp, h, b, hb => by
    simp only [Den] at h
    obtain ⟨a, dx, vs, e1, e2, _⟩ := h
    rw [e2] at hb; cases hb
  | .own oa cn ns ds, v, fp, h, b, hb => by
    simp only [Den] at h
    obtain ⟨a, dx, vs, fq, e0, e1, e2, z, q, m, l, r⟩ := h
    subst e2
    rcases List.mem_cons.mp hb with hb | hb
    · subst hb; exact ⟨z, .i (cl cn) dx (ns.zip vs) (by rw [zip_fst (l.trans r.length.symm)]; exact m), q⟩
    · exact Dens.own ds vs fq r b hb
  | .lsa a ds, v, fp, h, b, hb => by
    simp only [Den] at h
    obtain ⟨vs, fq, e1, e2, z, q, r⟩ := h
    subst e2
    rcases List.mem_cons.mp hb with hb | hb
    · subst hb; exact ⟨z, .l vs, q⟩
    · exact Dens.own ds vs fq r b hb
  | .dct true ks ds, v, fp, h, b, hb => by
    simp only [Den] at h
    obtain ⟨a, vs, fq, e1, e2, z, q, l, r⟩ := h
    subst e2
    rcases List.mem_cons.mp hb with hb | hb
    · subst hb; exact ⟨z, .d (ks.zip vs), q⟩
    · exact Dens.own ds vs fq r b hb
  | .dct false ks ds, v, fp, h, b, hb => by
    simp only [Den] at h
    obtain ⟨a, vs, e1, e2, _⟩ := h
    rw [e2] at hb; cases hb
  | .lok ks ds, v, fp, h, b, hb => by
    simp only [Den] at h
    obtain ⟨a, od, vs, e1, e2, _⟩ := h
    rw [e2] at hb; cases hb
  | .wth x ds, v, fp, h, b, hb => by
    simp only [Den] at h
    obtain ⟨vs, f1, f2, e2, q, r⟩ := h
    subst e2
    rcases List.mem_append.mp hb with hb | hb
    · exact Den.own x v f1 q b hb
    · exact Dens.own ds vs f2 r b hb
theorem Dens.own {Z H : Hp} : ∀ (ds : List D) (vs : List V) (fp : Fp), Dens K cl Z H ds vs fp → ∀ a ∈ fp, Z a = none ∧ ∃ xs : Mo, H a = some xs.o
  | [], _, _, h, _, ha => by rw [h.2] at ha; cases ha
  | d :: ds, vs, fp, h, b, hb => by
    simp only [Dens] at h
    obtain ⟨v, vr, f1, f2, e1, e2, q, r⟩ := h
    subst e2
    rcases List.mem_append.mp hb with hb | hb
    · exact Den.own d v f1 q b hb
    · exact Dens.own ds vr f2 r b hb
end
theorem Dens.get {Z H : Hp} : ∀ {ds : List D} {vs : List V} {fp : Fp} {i : Nat} {d : D}, Dens K cl Z H ds vs fp → ds[i]? = some d → ∃ v f, vs[i]? = some v ∧ Den K cl Z H d v f ∧ (∀ a ∈ f, a ∈ fp) ∧ f.Sublist fp
  | [], _, _, _, _, _, e => by simp at e
  | d :: ds, vs, fp, 0, x, h, e => by
    simp only [Dens] at h
    obtain ⟨v, vr, f1, f2, e1, e2, q, r⟩ := h
    have e' : d = x := by simpa using e
    subst e' e1 e2
    exact ⟨v, f1, rfl, q, fun a ha => List.mem_append_left _ ha, List.sublist_append_left _ _⟩
  | d :: ds, vs, fp, i + 1, x, h, e => by
    simp only [Dens] at h
    obtain ⟨v, vr, f1, f2, e1, e2, q, r⟩ := h
    subst e1 e2
    obtain ⟨u, f, h1, h2, h3, h4⟩ := Dens.get (i := i) r (by simpa using e)
    exact ⟨u, f, by simpa using h1, h2, fun a ha => List.mem_append_right _ (h3 a ha), h4.trans (List.sublist_append_right _ _)⟩
theorem Dens.append {Z H : Hp} : ∀ {ds es : List D} {vs us : List V} {f g : Fp}, Dens K cl Z H ds vs f → Dens K cl Z H es us g → Dens K cl Z H (ds ++ es) (vs ++ us) (f ++ g)
  | [], es, vs, us, f, g, h, k => by
    obtain ⟨e1, e2⟩ := h
    subst e1 e2
    exact k
  | d :: ds, es, vs, us, f, g, h, k => by
    simp only [Dens] at h
    obtain ⟨v, vr, f1, f2, e1, e2, q, r⟩ := h
    subst e1 e2
    show Dens K cl Z H (d :: (ds ++ es)) _ _
    simp only [Dens]
    exact ⟨v, vr ++ us, f1, f2 ++ g, rfl, by rw [List.append_assoc], q, Dens.append r k⟩
theorem Dens.one {Z H : Hp} {d : D} {v : V} {f : Fp} (h : Den K cl Z H d v f) : Dens K cl Z H [d] [v] f := by
  simp only [Dens]
  exact ⟨v, [], f, [], rfl, by simp, h, rfl, rfl⟩
theorem Dens.cons {Z H : Hp} {d : D} {ds : List D} {v : V} {vs : List V} {f g : Fp} (h : Den K cl Z H d v f) (k : Dens K cl Z H ds vs g) : Dens K cl Z H (d :: ds) (v :: vs) (f ++ g) := by
  simp only [Dens]
  exact ⟨v, vs, f, g, rfl, rfl, h, k⟩
end
end DL
namespace DL
open PySem PySem.Spec PyProof.Rows L2
variable [Tb]
abbrev Env := List (Option D)
structure Gr (Z H Z' H' : Hp) : Prop where
  z : Ex Z Z'
  h : Ex H H'
  s : Ex Z' H'
  n : ∀ a, H a ≠ none → Z a = none → Z' a = none
theorem Gr.refl {Z H : Hp} (s : Ex Z H) : Gr Z H Z H := ⟨Ex.refl _, Ex.refl _, s, fun _ _ h => h⟩
theorem Gr.trans {Z H Z1 H1 Z2 H2 : Hp} (a : Gr Z H Z1 H1) (b : Gr Z1 H1 Z2 H2) : Gr Z H Z2 H2 :=
  ⟨a.z.trans b.z, a.h.trans b.h, b.s, fun x hx hz => b.n x (a.h.ne x hx) (a.n x hx hz)⟩
theorem Gr.new {Z H : Hp} {p : Addr} {o : HO} (s : Ex Z H) (hp : H p = none) (no : NoT o := by exact fun _ z => nomatch z) (nx : ∀ φ, o ≠ .ext φ := by exact fun _ z => nomatch z) : Gr Z H (upd Z p o) (upd H p o) := by
  have zp : Z p = none := s.back hp
  have hs : Ex H (upd H p o) := Ex.new hp
  refine ⟨Ex.new zp, hs, ⟨fun a u n e => ?_, fun a e => ?_, fun P q m h => ?_⟩, fun a ha hz => ?_⟩
  · by_cases c : a = p
    · subst c; rw [upd_same] at e ⊢; exact e
    · rw [upd_ne c] at e ⊢; exact s.at_ a u n e
  · by_cases c : a = p
    · subst c; rw [upd_same]; exact fun z => nomatch z
    · rw [upd_ne c] at e ⊢; exact s.ne a e
  · refine hs.tab P q m (s.tab P q m ?_)
    obtain ⟨ps, h1, h2, h3⟩ := h
    have cP : P ≠ p := fun c => by
      rw [c, upd_same] at h1
      exact no ps (Option.some.inj h1)
    refine ⟨ps, by rw [upd_ne cP] at h1; exact h1, h2, fun pos cv hc => ?_⟩
    obtain ⟨c, e1, e2⟩ := h3 pos cv hc
    refine ⟨c, e1, ?_⟩
    by_cases cc : c = p
    · rw [cc, upd_same] at e2
      exact absurd (Option.some.inj e2) (nx _)
    · rw [upd_ne cc] at e2; exact e2
  · have c : a ≠ p := fun c => ha (by rw [c]; exact hp)
    rw [upd_ne c]; exact hz
theorem Gr.newO {Z H : Hp} {p : Addr} {o : HO} (s : Ex Z H) (hp : H p = none) : Gr Z H Z (upd H p o) :=
  ⟨Ex.refl _, Ex.new hp, s.trans (Ex.new hp), fun _ _ h => h⟩
section
variable {K : PySem.W.Frag} {cl : Str → Addr} {Z H Z' H' : Hp}
theorem Gr.den (g : Gr Z H Z' H') {d : D} {v : V} {fp : Fp} (h : Den K cl Z H d v fp) : Den K cl Z' H' d v fp :=
  Den.mono g.z d v fp (fun a ha => by
    obtain ⟨z, xs, q⟩ := Den.own d v fp h a ha
    exact ⟨g.n a (by rw [q]; exact Option.some_ne_none _) z, by rw [q]; exact g.h.l q⟩) h
theorem Gr.dens (g : Gr Z H Z' H') {d : List D} {v : List V} {fp : Fp} (h : Dens K cl Z H d v fp) : Dens K cl Z' H' d v fp :=
  Dens.mono g.z d v fp (fun a ha => by
    obtain ⟨z, xs, q⟩ := Dens.own d v fp h a ha
    exact ⟨g.n a (by rw [q]; exact Option.some_ne_none _) z, by rw [q]; exact g.h.l q⟩) h
variable (K cl) in
def Slots (Z H : Hp) : Env → L2.St → Fp → Prop
  | [], σ, fp => σ = [] ∧ fp = []
  | none :: ρ, σ, fp => ∃ o σ', σ = o :: σ' ∧ Slots Z H ρ σ' fp
  | some d :: ρ, σ, fp => ∃ v σ' f1 f2, σ = some v :: σ' ∧ fp = f1 ++ f2 ∧ Den K cl Z H d v f1 ∧ Slots Z H ρ σ' f2
theorem Slots.mono {Y H' : Hp} (e : Ex Z Y) : ∀ {ρ : Env} {σ : L2.St} {fp : Fp}, (∀ a ∈ fp, Y a = none ∧ H' a = H a) → Slots K cl Z H ρ σ fp → Slots K cl Y H' ρ σ fp
  | [], _, _, _, h => h
  | none :: ρ, σ, fp, k, h => by
    obtain ⟨o, σ', e1, r⟩ := h
    exact ⟨o, σ', e1, Slots.mono e k r⟩
  | some d :: ρ, σ, fp, k, h => by
    obtain ⟨v, σ', f1, f2, e1, e2, q, r⟩ := h
    subst e2
    exact ⟨v, σ', f1, f2, e1, rfl, Den.mono e d v f1 (fun b hb => k b (List.mem_append_left _ hb)) q, Slots.mono e (fun b hb => k b (List.mem_append_right _ hb)) r⟩
theorem Slots.own : ∀ {ρ : Env} {σ : L2.St} {fp : Fp}, Slots K cl Z H ρ σ fp → ∀ a ∈ fp, Z a = none ∧ ∃ xs : Mo, H a = some xs.o
  | [], _, _, h, _, ha => by rw [h.2] at ha; cases ha
  | none :: ρ, σ, fp, h, b, hb => by
    obtain ⟨o, σ', e1, r⟩ := h
    exact Slots.own r b hb
  | some d :: ρ, σ, fp, h, b, hb => by
    obtain ⟨v, σ', f1, f2, e1, e2, q, r⟩ := h
    subst e2
    rcases List.mem_append.mp hb with hb | hb
    · exact Den.own d v f1 q b hb
    · exact Slots.own r b hb
theorem Slots.get : ∀ {ρ : Env} {σ : L2.St} {fp : Fp} {i : Nat} {d : D}, Slots K cl Z H ρ σ fp → ρ[i]? = some (some d) →
    ∃ v f, σ[i]? = some (some v) ∧ Den K cl Z H d v f ∧ f.Sublist fp
  | [], _, _, _, _, _, e => by simp at e
  | none :: ρ, σ, fp, 0, d, h, e => by simp at e
  | none :: ρ, σ, fp, i + 1, d, h, e => by
    obtain ⟨o, σ', e1, r⟩ := h
    subst e1
    obtain ⟨v, f, h1, h2, h3⟩ := Slots.get (i := i) r (by simpa using e)
    exact ⟨v, f, by simpa using h1, h2, h3⟩
  | some x :: ρ, σ, fp, 0, d, h, e => by
    obtain ⟨v, σ', f1, f2, e1, e2, q, r⟩ := h
    have e' : x = d := by simpa using e
    subst e' e1 e2
    exact ⟨v, f1, rfl, q, List.sublist_append_left _ _⟩
  | some x :: ρ, σ, fp, i + 1, d, h, e => by
    obtain ⟨v, σ', f1, f2, e1, e2, q, r⟩ := h
    subst e1 e2
    obtain ⟨u, f, h1, h2, h3⟩ := Slots.get (i := i) r (by simpa using e)
    exact ⟨u, f, by simpa using h1, h2, h3.trans (List.sublist_append_right _ _)⟩
theorem Slots.length : ∀ {ρ : Env} {σ : L2.St} {fp : Fp}, Slots K cl Z H ρ σ fp → σ.length = ρ.length
  | [], _, _, h => by rw [h.1]; rfl
  | none :: ρ, σ, fp, h => by
    obtain ⟨o, σ', e1, r⟩ := h
    subst e1
    show σ'.length + 1 = ρ.length + 1
    rw [Slots.length r]
  | some x :: ρ, σ, fp, h => by
    obtain ⟨v, σ', f1, f2, e1, e2, q, r⟩ := h
    subst e1
    show σ'.length + 1 = ρ.length + 1
    rw [Slots.length r]
theorem app_nd {f1 f2 g : Fp} (h : (f1 ++ f2).Nodup) (hg : g.Nodup) (d : ∀ a ∈ g, a ∉ f2) : (g ++ f2).Nodup := by
  rw [List.nodup_append] at h ⊢
  exact ⟨hg, h.2.1, fun a ha b hb e => d a ha (e ▸ hb)⟩
theorem Slots.set : ∀ {ρ : Env} {σ : L2.St} {fp : Fp} {i : Nat} {d : D} {v : V} {g : Fp}, Slots K cl Z H ρ σ fp → fp.Nodup → Den K cl Z H d v g → g.Nodup → (∀ a ∈ g, a ∉ fp) → i < ρ.length →
    ∃ fp', Slots K cl Z H (ρ.set i (some d)) (σ.set i (some v)) fp' ∧ fp'.Nodup ∧ ∀ a ∈ fp', a ∈ fp ∨ a ∈ g
  | [], _, _, _, _, _, _, _, _, _, _, _, hi => absurd hi (Nat.not_lt_zero _)
  | none :: ρ, σ, fp, 0, d, v, g, h, nd, hd, ng, dj, _ => by
    obtain ⟨o, σ', e1, r⟩ := h
    subst e1
    refine ⟨g ++ fp, ⟨v, σ', g, fp, rfl, rfl, hd, r⟩, ?_, fun a ha => (List.mem_append.mp ha).symm⟩
    rw [List.nodup_append]
    exact ⟨ng, nd, fun a ha b hb e => dj a ha (e ▸ hb)⟩
  | none :: ρ, σ, fp, i + 1, d, v, g, h, nd, hd, ng, dj, hi => by
    obtain ⟨o, σ', e1, r⟩ := h
    subst e1
    obtain ⟨fp', h1, h2, h3⟩ := Slots.set (i := i) r nd hd ng dj (Nat.lt_of_succ_lt_succ hi)
    exact ⟨fp', ⟨o, _, rfl, h1⟩, h2, h3⟩
  | some x :: ρ, σ, fp, 0, d, v, g, h, nd, hd, ng, dj, _ => by
    obtain ⟨u, σ', f1, f2, e1, e2, q, r⟩ := h
    subst e1 e2
    refine ⟨g ++ f2, ⟨v, σ', g, f2, rfl, rfl, hd, r⟩, app_nd nd ng fun a ha hb => dj a ha (List.mem_append_right _ hb), fun a ha => ?_⟩
    rcases List.mem_append.mp ha with z | z
    · exact .inr z
    · exact .inl (List.mem_append_right _ z)
  | some x :: ρ, σ, fp, i + 1, d, v, g, h, nd, hd, ng, dj, hi => by
    obtain ⟨u, σ', f1, f2, e1, e2, q, r⟩ := h
    subst e1 e2
    have nd' := List.nodup_append.mp nd
    obtain ⟨fp', h1, h2, h3⟩ := Slots.set (i := i) r nd'.2.1 hd ng (fun a ha hb => dj a ha (List.mem_append_right _ hb)) (Nat.lt_of_succ_lt_succ hi)
    refine ⟨f1 ++ fp', ⟨u, _, f1, fp', rfl, rfl, q, h1⟩, ?_, fun a ha => ?_⟩
    · rw [List.nodup_append]
      refine ⟨nd'.1, h2, fun a ha b hb e => ?_⟩
      subst e
      rcases h3 a hb with z | z
      · exact nd'.2.2 a ha a z rfl
      · exact dj a z (List.mem_append_left _ ha)
    · rcases List.mem_append.mp ha with z | z
      · exact .inl (List.mem_append_left _ z)
      · rcases h3 a z with z | z
        · exact .inl (List.mem_append_right _ z)
        · exact .inr z
theorem Slots.drop : ∀ {ρ : Env} {σ : L2.St} {fp : Fp} {i : Nat} {o : Option V}, Slots K cl Z H ρ σ fp → fp.Nodup →
    ∃ fp', Slots K cl Z H (ρ.set i none) (σ.set i o) fp' ∧ fp'.Nodup ∧ ∀ a ∈ fp', a ∈ fp
  | [], σ, fp, i, o, h, nd => by
    obtain ⟨e1, e2⟩ := h
    subst e1 e2
    exact ⟨[], ⟨rfl, rfl⟩, nd, fun _ z => z⟩
  | none :: ρ, σ, fp, 0, o, h, nd => by
    obtain ⟨p, σ', e1, r⟩ := h
    subst e1
    exact ⟨fp, ⟨o, σ', rfl, r⟩, nd, fun _ z => z⟩
  | none :: ρ, σ, fp, i + 1, o, h, nd => by
    obtain ⟨p, σ', e1, r⟩ := h
    subst e1
    obtain ⟨fp', h1, h2, h3⟩ := Slots.drop (i := i) (o := o) r nd
    exact ⟨fp', ⟨p, _, rfl, h1⟩, h2, h3⟩
  | some x :: ρ, σ, fp, 0, o, h, nd => by
    obtain ⟨u, σ', f1, f2, e1, e2, q, r⟩ := h
    subst e1 e2
    exact ⟨f2, ⟨o, σ', rfl, r⟩, (List.nodup_append.mp nd).2.1, fun a ha => List.mem_append_right _ ha⟩
  | some x :: ρ, σ, fp, i + 1, o, h, nd => by
    obtain ⟨u, σ', f1, f2, e1, e2, q, r⟩ := h
    subst e1 e2
    have nd' := List.nodup_append.mp nd
    obtain ⟨fp', h1, h2, h3⟩ := Slots.drop (i := i) (o := o) r nd'.2.1
    refine ⟨f1 ++ fp', ⟨u, _, f1, fp', rfl, rfl, q, h1⟩, ?_, fun a ha => ?_⟩
    · rw [List.nodup_append]
      exact ⟨nd'.1, h2, fun a ha b hb e => nd'.2.2 a ha b (h3 b hb) e⟩
    · rcases List.mem_append.mp ha with z | z
      · exact List.mem_append_left _ z
      · exact List.mem_append_right _ (h3 a z)
theorem Slots.frz {Y : Hp} (e : Ex Z Y) : ∀ {ρ : Env} {σ : L2.St} {fp : Fp} {i : Nat} {d : D}, Slots K cl Z H ρ σ fp → fp.Nodup → ρ[i]? = some (some d) →
    ∃ (f fp' : Fp), (∀ a ∈ f, a ∈ fp) ∧ ((∀ a, Y a = if a ∈ f then H a else Z a) → Slots K cl Y H (ρ.set i (some d.frz)) σ fp') ∧ fp'.Nodup ∧ (∀ a ∈ fp', a ∈ fp) ∧ ∀ a ∈ fp', a ∉ f
  | [], _, _, _, _, _, _, e => by simp at e
  | none :: ρ, σ, fp, 0, d, h, nd, e' => by simp at e'
  | none :: ρ, σ, fp, i + 1, d, h, nd, e' => by
    obtain ⟨o, σ', e1, r⟩ := h
    subst e1
    obtain ⟨f, fp', h0, h1, h2, h3, h4⟩ := Slots.frz e (i := i) r nd (by simpa using e')
    exact ⟨f, fp', h0, fun y => ⟨o, _, rfl, h1 y⟩, h2, h3, h4⟩
  | some x :: ρ, σ, fp, 0, d, h, nd, e' => by
    obtain ⟨v, σ', f1, f2, e1, e2, q, r⟩ := h
    have ex : x = d := by simpa using e'
    subst ex e1 e2
    have nd' := List.nodup_append.mp nd
    refine ⟨f1, f2, fun a ha => List.mem_append_left _ ha, fun y => ⟨v, σ', [], f2, rfl, rfl, ?_, ?_⟩, nd'.2.1, fun a ha => List.mem_append_right _ ha, fun a ha hb => nd'.2.2 a hb a ha rfl⟩
    · exact Den.freeze e x v f1 (fun a ha => by rw [y a, if_pos ha]) q
    · refine Slots.mono e (fun a ha => ⟨?_, rfl⟩) r
      rw [y a, if_neg fun hb => nd'.2.2 a hb a ha rfl]
      exact (Slots.own r a ha).1
  | some x :: ρ, σ, fp, i + 1, d, h, nd, e' => by
    obtain ⟨v, σ', f1, f2, e1, e2, q, r⟩ := h
    subst e1 e2
    have nd' := List.nodup_append.mp nd
    obtain ⟨f, fp', h0, h1, h2, h3, h4⟩ := Slots.frz e (i := i) r nd'.2.1 (by simpa using e')
    refine ⟨f, f1 ++ fp', fun a ha => List.mem_append_right _ (h0 a ha), fun y => ⟨v, σ', f1, fp', rfl, rfl, ?_, h1 y⟩, ?_, fun a ha => ?_, fun a ha hb => ?_⟩
    · refine Den.mono e x v f1 (fun a ha => ⟨?_, rfl⟩) q
      rw [y a, if_neg fun hb => nd'.2.2 a ha a (h0 a hb) rfl]
      exact (Den.own x v f1 q a ha).1
    · rw [List.nodup_append]
      exact ⟨nd'.1, h2, fun a ha b hb e => nd'.2.2 a ha b (h3 b hb) e⟩
    · rcases List.mem_append.mp ha with z | z
      · exact List.mem_append_left _ z
      · exact List.mem_append_right _ (h3 a z)
    · rcases List.mem_append.mp ha with z | z
      · exact nd'.2.2 a z a (h0 a hb) rfl
      · exact h4 a z hb
end
section
variable (K : PySem.W.Frag) (cl : Str → Addr)
structure RelS (Z H : Hp) (σ : L2.St) (ρ : Env) : Prop where
  s : Ex Z H
  t : TabsK K Z
  e : ∃ fp, Slots K cl Z H ρ σ fp ∧ fp.Nodup
def PostV (Z H : Hp) (d : D) (Q : VK) : Prop := ∀ v Z' H' fp, Gr Z H Z' H' → Den K cl Z' H' d v fp → fp.Nodup → (∀ a ∈ fp, H a = none) → Q v H'
def PostB (Z H : Hp) (d : D) (Q : VK) : Prop := ∀ v Z' H' fp, Gr Z H Z' H' → Den K cl Z' H' d v fp → Q v H'
def ExD (Z H : Hp) (ns : List Str) (xs : List D) (dc : Option Addr) : Prop :=
  (ns = [] ∧ xs = [] ∧ dc = none) ∨ ∃ d vs, dc = some d ∧ Z d = some (.xd (ns.zip vs)) ∧ ns.length = xs.length ∧ Dens K cl Z H xs vs []
def PostX (W : WX) (Z H : Hp) (σ : L2.St) (c : Str) (ns : List Str) (xs : List D) : Prop := ∀ dc Z' H', Gr Z H Z' H' → ExD K cl Z' H' ns xs dc → W (.ref (cl c)) dc σ H'
def PostO (W : WX) (Z H : Hp) (σ : L2.St) (o : Ou D) (Q : VK) : Prop := match o with
  | .ok d => PostV K cl Z H d Q
  | .ex c ns xs => PostX K cl W Z H σ c ns xs
  | .bad => False
def PostOB (W : WX) (Z H : Hp) (σ : L2.St) (o : Ou D) (Q : VK) : Prop := match o with
  | .ok d => PostB K cl Z H d Q
  | .ex c ns xs => PostX K cl W Z H σ c ns xs
  | .bad => False
def PostT (W : WX) (Z H : Hp) (σ : L2.St) (o : Ou Bool) (Q : Bool → Hp → Prop) : Prop := match o with
  | .ok b => ∀ Z' H', Gr Z H Z' H' → Q b H'
  | .ex c ns xs => PostX K cl W Z H σ c ns xs
  | .bad => False
def PostA (W : WX) (Z H : Hp) (σ : L2.St) (o : Ou (List D)) (Q : List V → Hp → Prop) : Prop := match o with
  | .ok ds => ∀ vs Z' H' fp, Gr Z H Z' H' → Dens K cl Z' H' ds vs fp → fp.Nodup → (∀ a ∈ fp, H a = none) → Q vs H'
  | .ex c ns xs => PostX K cl W Z H σ c ns xs
  | .bad => False
def PostAB (W : WX) (Z H : Hp) (σ : L2.St) (o : Ou (List D)) (Q : List V → Hp → Prop) : Prop := match o with
  | .ok ds => ∀ vs Z' H' fp, Gr Z H Z' H' → Dens K cl Z' H' ds vs fp → Q vs H'
  | .ex c ns xs => PostX K cl W Z H σ c ns xs
  | .bad => False
def tD (W : WX) (f : Env → Ou D) : TE := fun σ H Q => ∃ Z ρ, RelS K cl Z H σ ρ ∧ PostO K cl W Z H σ (f ρ) Q
def tV (W : WX) (f : Env → Ou D) : TE := fun σ H Q => ∃ Z ρ, RelS K cl Z H σ ρ ∧ PostOB K cl W Z H σ (f ρ) Q
def tT (W : WX) (f : Env → Ou Bool) : TT := fun σ H Q => ∃ Z ρ, RelS K cl Z H σ ρ ∧ PostT K cl W Z H σ (f ρ) Q
def tDs (W : WX) (f : Env → Ou (List D)) : TA := fun σ H Q => ∃ Z ρ, RelS K cl Z H σ ρ ∧ PostA K cl W Z H σ (f ρ) Q
def tVs (W : WX) (f : Env → Ou (List D)) : TA := fun σ H Q => ∃ Z ρ, RelS K cl Z H σ ρ ∧ PostAB K cl W Z H σ (f ρ) Q
end
section
variable {K : PySem.W.Frag} {cl : Str → Addr} {Z H Z' H' : Hp} {σ : L2.St} {ρ : Env} {W : WX}
theorem RelS.gr (r : RelS K cl Z H σ ρ) (g : Gr Z H Z' H') : RelS K cl Z' H' σ ρ := by
  obtain ⟨s, t, fp, h, nd⟩ := r
  exact ⟨g.s, t.ex g.z, fp, Slots.mono g.z (fun a ha => by
    obtain ⟨z, xs, q⟩ := Slots.own h a ha
    exact ⟨g.n a (by rw [q]; exact Option.some_ne_none _) z, by rw [q]; exact g.h.l q⟩) h, nd⟩
theorem PostV.gr {d : D} {Q : VK} (q : PostV K cl Z H d Q) (g : Gr Z H Z' H') : PostV K cl Z' H' d Q := fun v Z2 H2 fp g2 h nd fr => q v Z2 H2 fp (g.trans g2) h nd fun a ha => g.h.back (fr a ha)
theorem PostB.gr {d : D} {Q : VK} (q : PostB K cl Z H d Q) (g : Gr Z H Z' H') : PostB K cl Z' H' d Q := fun v Z2 H2 fp g2 h => q v Z2 H2 fp (g.trans g2) h
theorem PostX.gr {c : Str} {ns : List Str} {xs : List D} (q : PostX K cl W Z H σ c ns xs) (g : Gr Z H Z' H') : PostX K cl W Z' H' σ c ns xs := fun dc Z2 H2 g2 h => q dc Z2 H2 (g.trans g2) h
theorem PostO.gr {o : Ou D} {Q : VK} (q : PostO K cl W Z H σ o Q) (g : Gr Z H Z' H') : PostO K cl W Z' H' σ o Q := by
  cases o with
  | ok d => exact PostV.gr q g
  | ex c ns xs => exact PostX.gr q g
  | bad => exact q
theorem PostOB.gr {o : Ou D} {Q : VK} (q : PostOB K cl W Z H σ o Q) (g : Gr Z H Z' H') : PostOB K cl W Z' H' σ o Q := by
  cases o with
  | ok d => exact PostB.gr q g
  | ex c ns xs => exact PostX.gr q g
  | bad => exact q
theorem PostT.gr {o : Ou Bool} {Q : Bool → Hp → Prop} (q : PostT K cl W Z H σ o Q) (g : Gr Z H Z' H') : PostT K cl W Z' H' σ o Q := by
  cases o with
  | ok d => exact fun Z2 H2 g2 => q Z2 H2 (g.trans g2)
  | ex c ns xs => exact PostX.gr q g
  | bad => exact q
theorem PostA.gr {o : Ou (List D)} {Q : List V → Hp → Prop} (q : PostA K cl W Z H σ o Q) (g : Gr Z H Z' H') : PostA K cl W Z' H' σ o Q := by
  cases o with
  | ok d => exact fun v Z2 H2 fp g2 h nd fr => q v Z2 H2 fp (g.trans g2) h nd fun a ha => g.h.back (fr a ha)
  | ex c ns xs => exact PostX.gr q g
  | bad => exact q
theorem PostAB.gr {o : Ou (List D)} {Q : List V → Hp → Prop} (q : PostAB K cl W Z H σ o Q) (g : Gr Z H Z' H') : PostAB K cl W Z' H' σ o Q := by
  cases o with
  | ok d => exact fun v Z2 H2 fp g2 h => q v Z2 H2 fp (g.trans g2) h
  | ex c ns xs => exact PostX.gr q g
  | bad => exact q
class PostLike (α : Type) where
  dummy : Unit := ()
theorem tV_bind {f : Env → Ou D} {β : Type} {k : D → Ou β} {R : VK} {P : Hp → Hp → Ou β → Prop} (r : RelS K cl Z H σ ρ) (px : ∀ c ns xs, P Z H (.ex c ns xs) → PostX K cl W Z H σ c ns xs) (pb : ¬ P Z H .bad)
    (q : P Z H (f ρ >>= k)) (h : ∀ d v Z' H' fp, f ρ = .ok d → Gr Z H Z' H' → Den K cl Z' H' d v fp → P Z H (k d) → R v H') : tV K cl W f σ H R := by
  refine ⟨Z, ρ, r, ?_⟩
  cases e : f ρ with
  | ok d =>
    rw [e] at q
    exact fun v Z' H' fp g dn => h d v Z' H' fp e g dn q
  | ex c ns xs =>
    rw [e] at q
    exact px c ns xs q
  | bad =>
    rw [e] at q
    exact pb q
theorem tD_bind {f : Env → Ou D} {β : Type} {k : D → Ou β} {R : VK} {P : Hp → Hp → Ou β → Prop} (r : RelS K cl Z H σ ρ) (px : ∀ c ns xs, P Z H (.ex c ns xs) → PostX K cl W Z H σ c ns xs) (pb : ¬ P Z H .bad)
    (q : P Z H (f ρ >>= k)) (h : ∀ d v Z' H' fp, f ρ = .ok d → Gr Z H Z' H' → Den K cl Z' H' d v fp → fp.Nodup → (∀ a ∈ fp, H a = none) → P Z H (k d) → R v H') : tD K cl W f σ H R := by
  refine ⟨Z, ρ, r, ?_⟩
  cases e : f ρ with
  | ok d =>
    rw [e] at q
    exact fun v Z' H' fp g dn nd fr => h d v Z' H' fp e g dn nd fr q
  | ex c ns xs =>
    rw [e] at q
    exact px c ns xs q
  | bad =>
    rw [e] at q
    exact pb q
theorem tVs_bind {f : Env → Ou (List D)} {β : Type} {k : List D → Ou β} {R : List V → Hp → Prop} {P : Hp → Hp → Ou β → Prop} (r : RelS K cl Z H σ ρ) (px : ∀ c ns xs, P Z H (.ex c ns xs) → PostX K cl W Z H σ c ns xs) (pb : ¬ P Z H .bad)
    (q : P Z H (f ρ >>= k)) (h : ∀ d v Z' H' fp, f ρ = .ok d → Gr Z H Z' H' → Dens K cl Z' H' d v fp → P Z H (k d) → R v H') : tVs K cl W f σ H R := by
  refine ⟨Z, ρ, r, ?_⟩
  cases e : f ρ with
  | ok d =>
    rw [e] at q
    exact fun v Z' H' fp g dn => h d v Z' H' fp e g dn q
  | ex c ns xs =>
    rw [e] at q
    exact px c ns xs q
  | bad =>
    rw [e] at q
    exact pb q
theorem tDs_bind {f : Env → Ou (List D)} {β : Type} {k : List D → Ou β} {R : List V → Hp → Prop} {P : Hp → Hp → Ou β → Prop} (r : RelS K cl Z H σ ρ) (px : ∀ c ns xs, P Z H (.ex c ns xs) → PostX K cl W Z H σ c ns xs) (pb : ¬ P Z H .bad)
    (q : P Z H (f ρ >>= k)) (h : ∀ d v Z' H' fp, f ρ = .ok d → Gr Z H Z' H' → Dens K cl Z' H' d v fp → fp.Nodup → (∀ a ∈ fp, H a = none) → P Z H (k d) → R v H') : tDs K cl W f σ H R := by
  refine ⟨Z, ρ, r, ?_⟩
  cases e : f ρ with
  | ok d =>
    rw [e] at q
    exact fun v Z' H' fp g dn nd fr => h d v Z' H' fp e g dn nd fr q
  | ex c ns xs =>
    rw [e] at q
    exact px c ns xs q
  | bad =>
    rw [e] at q
    exact pb q
theorem tT_bind {f : Env → Ou Bool} {β : Type} {k : Bool → Ou β} {R : Bool → Hp → Prop} {P : Hp → Hp → Ou β → Prop} (r : RelS K cl Z H σ ρ) (px : ∀ c ns xs, P Z H (.ex c ns xs) → PostX K cl W Z H σ c ns xs) (pb : ¬ P Z H .bad)
    (q : P Z H (f ρ >>= k)) (h : ∀ b Z' H', f ρ = .ok b → Gr Z H Z' H' → P Z H (k b) → R b H') : tT K cl W f σ H R := by
  refine ⟨Z, ρ, r, ?_⟩
  cases e : f ρ with
  | ok d =>
    rw [e] at q
    exact fun Z' H' g => h d Z' H' e g q
  | ex c ns xs =>
    rw [e] at q
    exact px c ns xs q
  | bad =>
    rw [e] at q
    exact pb q
end
end DL
namespace DL
open PySem PySem.Spec PyProof.Rows L2
variable [Tb]
structure DE (X : Cx) (W : WX) (e : Expr) (f : Env → Ou D) : Prop where
  run : PE X e (tD X.K (He.ga X.K) W f)
structure DB (X : Cx) (W : WX) (e : Expr) (f : Env → Ou D) : Prop where
  run : PE X e (tV X.K (He.ga X.K) W f)
structure DT (X : Cx) (W : WX) (e : Expr) (f : Env → Ou Bool) : Prop where
  run : PT X e (tT X.K (He.ga X.K) W f)
structure DW (X : Cx) (W : WX) (e : Expr) (f : Env → Ou Bool) : Prop where
  run : PW X e (tT X.K (He.ga X.K) W f)
structure DA (X : Cx) (W : WX) (es : List Expr) (f : Env → Ou (List D)) : Prop where
  run : PA X es (tDs X.K (He.ga X.K) W f)
structure DAB (X : Cx) (W : WX) (es : List Expr) (f : Env → Ou (List D)) : Prop where
  run : PA X es (tVs X.K (He.ga X.K) W f)
  len : ∀ ρ ds, f ρ = .ok ds → ds.length = es.length
theorem PE.weak {X : Cx} {e : Expr} {t t' : TE} (h : PE X e t) (k : ∀ σ H Q, t' σ H Q → t σ H Q) : PE X e t' := ⟨fun pins s σ H Q I q => h.run pins s σ H Q I (k σ H Q q)⟩
theorem PT.weak {X : Cx} {e : Expr} {t t' : TT} (h : PT X e t) (k : ∀ σ H Q, t' σ H Q → t σ H Q) : PT X e t' := ⟨fun pins s σ H Q I q => h.run pins s σ H Q I (k σ H Q q)⟩
theorem PW.weak {X : Cx} {e : Expr} {t t' : TT} (h : PW X e t) (k : ∀ σ H Q, t' σ H Q → t σ H Q) : PW X e t' := ⟨fun wh pins s σ H Q I q => h.run wh pins s σ H Q I (k σ H Q q)⟩
theorem PA.weak {X : Cx} {es : List Expr} {t t' : TA} (h : PA X es t) (k : ∀ σ H Q, t' σ H Q → t σ H Q) : PA X es t' := ⟨fun pos pins s σ H Q I q => h.run pos pins s σ H Q I (k σ H Q q)⟩
def ofO {α : Type} : Option α → Ou α
  | some a => .ok a
  | none => .bad
@[simp] theorem ofO_some {α : Type} (a : α) : ofO (some a) = .ok a := (rfl)
@[simp] theorem ofO_none {α : Type} : ofO (none : Option α) = .bad := (rfl)
section
variable (K : PySem.W.Frag) (cl : Str → Addr)
def Op2 (r : R2) (op : D → D → Option D) : Prop := ∀ (Z H : Hp) (x y d : D) (v u : V) (fx fy : Fp) (Q : VK), Ex Z H → Den K cl Z H x v fx → Den K cl Z H y u fy → op x y = some d → PostV K cl Z H d Q → r v u H Q
def Op2V (r : R2) (op : D → D → Option D) : Prop := ∀ (Z H : Hp) (x y d : D) (v u : V) (fx fy : Fp) (Q : VK), Ex Z H → Den K cl Z H x v fx → Den K cl Z H y u fy → op x y = some d → PostB K cl Z H d Q → r v u H Q
def Op2B (r : R2) (op : D → D → Option Bool) : Prop := ∀ (Z H : Hp) (x y : D) (b : Bool) (v u : V) (fx fy : Fp) (Q : VK), Ex Z H → Den K cl Z H x v fx → Den K cl Z H y u fy → op x y = some b → Q (.bl b) H → r v u H Q
def Op1 (r : V → Hp → VK → Prop) (op : D → Option D) : Prop := ∀ (Z H : Hp) (x d : D) (v : V) (fx : Fp) (Q : VK), Ex Z H → Den K cl Z H x v fx → op x = some d → PostV K cl Z H d Q → r v H Q
def OpN (r : List V → Hp → VK → Prop) (op : List D → Option D) : Prop := ∀ (Z H : Hp) (xs : List D) (d : D) (vs : List V) (fp : Fp) (Q : VK), Ex Z H → Dens K cl Z H xs vs fp → op xs = some d → PostV K cl Z H d Q → r vs H Q
end
section
variable {K : PySem.W.Frag} {cl : Str → Addr} {Z H Z' H' : Hp}
theorem PostV.val {d : D} {v : V} {Q : VK} (s : Ex Z H) (h : Den K cl Z H d v []) (q : PostV K cl Z H d Q) : Q v H := q v Z H [] (Gr.refl s) h List.nodup_nil fun _ z => nomatch z
theorem PostV.int {i : Int} {Q : VK} (s : Ex Z H) (q : PostV K cl Z H (.int i) Q) : Q (.int i) H := PostV.val (d := .int i) s ⟨rfl, rfl⟩ q
theorem PostV.bl {b : Bool} {Q : VK} (s : Ex Z H) (q : PostV K cl Z H (.bl b) Q) : Q (.bl b) H := PostV.val (d := .bl b) s ⟨rfl, rfl⟩ q
theorem PostV.str {x : Str} {Q : VK} (s : Ex Z H) (q : PostV K cl Z H (.str x) Q) : Q (.str x) H := PostV.val (d := .str x) s ⟨rfl, rfl⟩ q
theorem PostV.non {Q : VK} (s : Ex Z H) (q : PostV K cl Z H .non Q) : Q .non H := PostV.val (d := .non) s ⟨rfl, rfl⟩ q
theorem PostV.toB {d : D} {Q : VK} (q : PostB K cl Z H d Q) : PostV K cl Z H d Q := fun v Z' H' fp g h _ _ => q v Z' H' fp g h
theorem PostOB.toO {W : WX} {σ : L2.St} {o : Ou D} {Q : VK} (q : PostOB K cl W Z H σ o Q) : PostO K cl W Z H σ o Q := by
  cases o with
  | ok d => exact PostV.toB q
  | ex c ns xs => exact q
  | bad => exact q
theorem PostV.tup {ds : List D} {vs : List V} {fp : Fp} {Q : VK} {Z0 H0 : Hp} (q : PostV K cl Z0 H0 (.tup ds) Q) (g : Gr Z0 H0 Z H) (h : Dens K cl Z H ds vs fp) (nd : fp.Nodup) (fr : ∀ a ∈ fp, H0 a = none) (p : Addr) (hp : H p = none) :
    Q (.ref p) (upd H p (.tup vs)) := by
  have g1 : Gr Z H (upd Z p (.tup vs)) (upd H p (.tup vs)) := Gr.new g.s hp
  refine q (.ref p) _ _ fp (g.trans g1) ?_ nd fr
  simp only [Den]
  exact ⟨p, vs, rfl, .inl (.inl upd_same), g1.dens h⟩
theorem PostV.lst {ds : List D} {vs : List V} {fp : Fp} {Q : VK} {Z0 H0 : Hp} (q : PostV K cl Z0 H0 (.lst true ds) Q) (g : Gr Z0 H0 Z H) (h : Dens K cl Z H ds vs fp) (nd : fp.Nodup) (fr : ∀ a ∈ fp, H0 a = none) (p : Addr) (hp : H p = none) :
    Q (.ref p) (upd H p (.lst vs)) := by
  have g1 : Gr Z H Z (upd H p (.lst vs)) := Gr.newO g.s hp
  have np : p ∉ fp := fun hm => by
    obtain ⟨_, xs, e⟩ := Dens.own ds vs fp h p hm
    rw [hp] at e; cases e
  refine q (.ref p) Z _ (p :: fp) (g.trans g1) ?_ (List.nodup_cons.mpr ⟨np, nd⟩) fun a ha => ?_
  · simp only [Den]
    exact ⟨p, vs, fp, rfl, rfl, g.s.back hp, upd_same, g1.dens h⟩
  · rcases List.mem_cons.mp ha with e | e
    · subst e; exact g.h.back hp
    · exact fr a e
theorem PostV.tup0 {ds : List D} {vs : List V} {Q : VK} (q : PostV K cl Z H (.tup ds) Q) (s : Ex Z H) (h : Dens K cl Z H ds vs []) (p : Addr) (hp : H p = none) : Q (.ref p) (upd H p (.tup vs)) :=
  q.tup (Gr.refl s) h List.nodup_nil (fun _ z => nomatch z) p hp
theorem PostV.lst0 {ds : List D} {vs : List V} {Q : VK} (q : PostV K cl Z H (.lst true ds) Q) (s : Ex Z H) (h : Dens K cl Z H ds vs []) (p : Addr) (hp : H p = none) : Q (.ref p) (upd H p (.lst vs)) :=
  q.lst (Gr.refl s) h List.nodup_nil (fun _ z => nomatch z) p hp
theorem Den.lstH {o : Bool} {ds : List D} {v : V} {fp : Fp} (s : Ex Z H) (h : Den K cl Z H (.lst o ds) v fp) : ∃ a vs f, v = .ref a ∧ H a = some (.lst vs) ∧ Dens K cl Z H ds vs f ∧ (∀ b ∈ f, b ∈ fp) ∧ f.Sublist fp := by
  cases o with
  | true =>
    simp only [Den] at h
    obtain ⟨a, vs, fq, e1, e2, z, q, r⟩ := h
    subst e2
    exact ⟨a, vs, fq, e1, q, r, fun b hb => List.mem_cons_of_mem _ hb, List.sublist_cons_self _ _⟩
  | false =>
    simp only [Den] at h
    obtain ⟨a, vs, e1, e2, q, r⟩ := h
    exact ⟨a, vs, [], e1, s.l q, r, (fun _ z => nomatch z), List.nil_sublist _⟩
theorem Den.tupH {ds : List D} {v : V} {fp : Fp} (s : Ex Z H) (h : Den K cl Z H (.tup ds) v fp) : ∃ a vs, v = .ref a ∧ SqT K H a vs ∧ SqT K Z a vs ∧ Dens K cl Z H ds vs fp := by
  simp only [Den] at h
  obtain ⟨a, vs, e1, q, r⟩ := h
  exact ⟨a, vs, e1, s.sqT q, q, r⟩
theorem Den.int {i : Int} {v : V} {fp : Fp} (h : Den K cl Z H (.int i) v fp) : v = .int i := h.1
end
def dC (d : D) : Env → Ou D := fun _ => .ok d
def dVar (i : Nat) : Env → Ou D := fun ρ => match ρ[i]? with
  | some (some d) => .ok d
  | _ => .bad
def dFz (f : Env → Ou D) : Env → Ou D := fun ρ => f ρ >>= fun d => if d.fz then .ok d else .bad
def d1 (op : D → Option D) (f : Env → Ou D) : Env → Ou D := fun ρ => f ρ >>= fun x => ofO (op x)
def d2 (op : D → D → Option D) (f g : Env → Ou D) : Env → Ou D := fun ρ => f ρ >>= fun x => g ρ >>= fun y => ofO (op x y)
def b2 (op : D → D → Option Bool) (f g : Env → Ou D) : Env → Ou Bool := fun ρ => f ρ >>= fun x => g ρ >>= fun y => ofO (op x y)
def dN (op : List D → Option D) (f : Env → Ou (List D)) : Env → Ou D := fun ρ => f ρ >>= fun xs => ofO (op xs)
def dBl (f : Env → Ou Bool) : Env → Ou D := fun ρ => f ρ >>= fun b => .ok (.bl b)
def aNil : Env → Ou (List D) := fun _ => .ok []
def aCons (f : Env → Ou D) (g : Env → Ou (List D)) : Env → Ou (List D) := fun ρ => f ρ >>= fun x => g ρ >>= fun xs => .ok (x :: xs)
def LIM : Nat := 1000000
theorem lim_le {n : Nat} (h : n ≤ LIM) : n ≤ sizeLine := Nat.le_trans h (by decide)
theorem lim_lt {n : Nat} (h : n < LIM) : n < sizeLine := Nat.lt_of_lt_of_le h (by decide)
def dTup (f : Env → Ou (List D)) : Env → Ou D := fun ρ => f ρ >>= fun xs => if xs.length ≤ LIM then .ok (.tup xs) else .bad
def dLst (f : Env → Ou (List D)) : Env → Ou D := fun ρ => f ρ >>= fun xs => if xs.length ≤ LIM then .ok (.lst true xs) else .bad
section
variable {X : Cx} {W : WX} {a b e : Expr} {f g : Env → Ou D} {pos : Pos}
theorem DB.ofE (h : DE X W e f) : DB X W e f := ⟨PE.weak h.run fun σ H Q ⟨Z, ρ, r, q⟩ => ⟨Z, ρ, r, q.toO⟩⟩
theorem DE.ofB (h : DB X W e f) : DE X W e (dFz f) := by
  refine ⟨PE.weak h.run fun σ H Q hq => ?_⟩
  obtain ⟨Z, ρ, r, q⟩ := hq
  refine tV_bind (P := fun Z H o => PostO X.K (He.ga X.K) W Z H σ o Q) r (fun _ _ _ z => z) (fun z => z) q fun d v Z' H' fp ed gr dn q => ?_
  by_cases c : d.fz = true
  · rw [if_pos c] at q
    have e := Den.fz d v fp c dn
    subst e
    exact q v Z' H' [] gr dn List.nodup_nil fun _ z => nomatch z
  · rw [if_neg c] at q
    exact q.elim
theorem DE.int {i j p} : DE X W (.Constant (.int i) j p) (dC (.int i)) := ⟨PE.weak pe_int fun σ H Q ⟨Z, ρ, r, q⟩ => PostV.int r.s q⟩
theorem DE.bl {b j p} : DE X W (.Constant (.bool b) j p) (dC (.bl b)) := ⟨PE.weak pe_bl fun σ H Q ⟨Z, ρ, r, q⟩ => PostV.bl r.s q⟩
theorem DE.non {j p} : DE X W (.Constant .none j p) (dC .non) := ⟨PE.weak pe_non fun σ H Q ⟨Z, ρ, r, q⟩ => PostV.non r.s q⟩
theorem DE.str {x j p} : DE X W (.Constant (.str x) j p) (dC (.str x)) := ⟨PE.weak pe_str fun σ H Q ⟨Z, ρ, r, q⟩ => PostV.str r.s q⟩
theorem DB.var (i : Nat) {x : Str} {p : Pos} (hN : X.N[i]? = some x := by rfl) (hv : Vis X.env.scope x := by first | exact Or.inl rfl | exact Or.inr (Or.inl rfl) | exact Or.inr (Or.inr rfl)) (hd : (x == ("__debug__" : Str)) = false := by decide)
    (hcd : (x == ("__classdict__" : Str)) = false := by decide) : DB X W (.Name x p) (dVar i) := by
  refine ⟨PE.weak (pv i hN hv hd hcd) fun σ H Q hq => ?_⟩
  obtain ⟨Z, ρ, ⟨s, tk, fp, sl, nd⟩, q⟩ := hq
  unfold dVar at q
  match e : ρ[i]? with
  | some (some d) =>
    rw [e] at q
    obtain ⟨v, f, h1, h2, h3⟩ := Slots.get sl e
    exact ⟨v, h1, q v Z H f (Gr.refl s) h2⟩
  | some none => rw [e] at q; exact q.elim
  | none => rw [e] at q; exact q.elim
theorem DE.op2 {op : Operator} {r : R2} {k : D → D → Option D} (ho : OpR X (binaryOp op) r) (hk : Op2 X.K (He.ga X.K) r k) (ha : DB X W a f) (hb : DB X W b g) : DE X W (.BinOp a op b pos) (d2 k f g) := by
  refine ⟨PE.weak (pe_op ho ha.run hb.run) fun σ H Q hq => ?_⟩
  obtain ⟨Z, ρ, r, q⟩ := hq
  refine tV_bind (P := fun Z H o => PostO X.K (He.ga X.K) W Z H σ o Q) r (fun _ _ _ z => z) (fun z => z) q fun x v Z1 H1 fx ex g1 dx q => ?_
  refine tV_bind (P := fun Z H o => PostO X.K (He.ga X.K) W Z H σ o Q) (r.gr g1) (fun _ _ _ z => z) (fun z => z) (q.gr g1) fun y u Z2 H2 fy ey g2 dy q => ?_
  have q := PostO.gr q g2
  match e : k x y with
  | some d =>
    rw [e] at q
    exact hk Z2 H2 x y d v u fx fy Q g2.s (g2.den dx) dy e q
  | none => rw [e] at q; exact q.elim
theorem DE.op1 {op : UnaryOp} {r : V → Hp → VK → Prop} {k : D → Option D} (ho : UnR X (unaryOp op) r) (hk : Op1 X.K (He.ga X.K) r k) (ha : DB X W a f) : DE X W (.UnaryOp op a pos) (d1 k f) := by
  refine ⟨PE.weak (pe_un ho ha.run) fun σ H Q hq => ?_⟩
  obtain ⟨Z, ρ, r, q⟩ := hq
  refine tV_bind (P := fun Z H o => PostO X.K (He.ga X.K) W Z H σ o Q) r (fun _ _ _ z => z) (fun z => z) q fun x v Z1 H1 fx ex g1 dx q => ?_
  have q := PostO.gr q g1
  match e : k x with
  | some d =>
    rw [e] at q
    exact hk Z1 H1 x d v fx Q g1.s dx e q
  | none => rw [e] at q; exact q.elim
theorem DE.cmp {op : CmpOp} {r : R2} {k : D → D → Option Bool} (ho : OpR X (compareOp op) r) (hk : Op2B X.K (He.ga X.K) r k) (ha : DB X W a f) (hb : DB X W b g) (hm : behindInMarks op b = false) : DE X W (.Compare a [op] [b] pos) (dBl (b2 k f g)) := by
  refine ⟨PE.weak (pe_cmpR ho ha.run hb.run hm) fun σ H Q hq => ?_⟩
  obtain ⟨Z, ρ, r, q⟩ := hq
  have e0 : dBl (b2 k f g) ρ = (f ρ >>= fun x => g ρ >>= fun y => ofO (k x y) >>= fun b => .ok (.bl b)) := by
    unfold dBl b2
    cases f ρ with
    | ok x => cases g ρ <;> rfl
    | ex => rfl
    | bad => rfl
  rw [e0] at q
  refine tV_bind (P := fun Z H o => PostO X.K (He.ga X.K) W Z H σ o Q) r (fun _ _ _ z => z) (fun z => z) q fun x v Z1 H1 fx ex g1 dx q => ?_
  refine tV_bind (P := fun Z H o => PostO X.K (He.ga X.K) W Z H σ o Q) (r.gr g1) (fun _ _ _ z => z) (fun z => z) (q.gr g1) fun y u Z2 H2 fy ey g2 dy q => ?_
  have q := PostO.gr q g2
  match e : k x y with
  | some b =>
    rw [e] at q
    exact hk Z2 H2 x y b v u fx fy Q g2.s (g2.den dx) dy e (PostV.bl g2.s q)
  | none => rw [e] at q; exact q.elim
theorem DT.cmp {op : CmpOp} {r : R2} {k : D → D → Option Bool} (ho : OpR X (compareOp op) r) (hk : Op2B X.K (He.ga X.K) r k) (ha : DB X W a f) (hb : DB X W b g) (hm : behindInMarks op b = false) : DT X W (.Compare a [op] [b] pos) (b2 k f g) := by
  refine ⟨PT.weak (pt_cmpR ho ha.run hb.run hm) fun σ H Q hq => ?_⟩
  obtain ⟨Z, ρ, r, q⟩ := hq
  refine tV_bind (P := fun Z H o => PostT X.K (He.ga X.K) W Z H σ o Q) r (fun _ _ _ z => z) (fun z => z) q fun x v Z1 H1 fx ex g1 dx q => ?_
  refine tV_bind (P := fun Z H o => PostT X.K (He.ga X.K) W Z H σ o Q) (r.gr g1) (fun _ _ _ z => z) (fun z => z) (q.gr g1) fun y u Z2 H2 fy ey g2 dy q => ?_
  have q := PostT.gr q g2
  match e : k x y with
  | some b =>
    rw [e] at q
    exact hk Z2 H2 x y b v u fx fy _ g2.s (g2.den dx) dy e ⟨b, rfl, q Z2 H2 (Gr.refl g2.s)⟩
  | none => rw [e] at q; exact q.elim
variable {es : List Expr} {t : Env → Ou (List D)}
theorem DA.nil : DA X W [] aNil := ⟨PA.weak pa_nil fun σ H Q ⟨Z, ρ, r, q⟩ => q [] Z H [] (Gr.refl r.s) ⟨rfl, rfl⟩ List.nodup_nil fun _ z => nomatch z⟩
theorem DAB.nil : DAB X W [] aNil := ⟨PA.weak pa_nil fun σ H Q ⟨Z, ρ, r, q⟩ => q [] Z H [] (Gr.refl r.s) ⟨rfl, rfl⟩, fun ρ ds e => by cases e; rfl⟩
theorem DA.cons (h : DE X W e f) (hr : DA X W es t) (hs : starEach (e :: es) X.env = (false, eval e X.env) :: starEach es X.env := by rfl) : DA X W (e :: es) (aCons f t) := by
  refine ⟨PA.weak (pa_cons h.run hr.run hs) fun σ H Q hq => ?_⟩
  obtain ⟨Z, ρ, r, q⟩ := hq
  refine tD_bind (P := fun Z H o => PostA X.K (He.ga X.K) W Z H σ o Q) r (fun _ _ _ z => z) (fun z => z) q fun x v Z1 H1 fx ex g1 dx nx fx' q => ?_
  refine ⟨Z1, ρ, r.gr g1, ?_⟩
  match e : t ρ with
  | .ok ds =>
    rw [e] at q
    refine fun vs Z2 H2 fp g2 dn nd fr => q (v :: vs) Z2 H2 (fx ++ fp) (g1.trans g2) (Dens.cons (g2.den dx) dn) ?_ fun a ha => ?_
    · rw [List.nodup_append]
      refine ⟨nx, nd, fun a ha b hb e => ?_⟩
      subst e
      obtain ⟨_, xs, q1⟩ := Den.own x v fx dx a ha
      rw [fr a hb] at q1; cases q1
    · rcases List.mem_append.mp ha with z | z
      · exact fx' a z
      · exact g1.h.back (fr a z)
  | .ex c ns xs =>
    rw [e] at q
    exact PostX.gr q g1
  | .bad =>
    rw [e] at q
    exact q.elim
theorem DAB.cons (h : DB X W e f) (hr : DAB X W es t) (hs : starEach (e :: es) X.env = (false, eval e X.env) :: starEach es X.env := by rfl) : DAB X W (e :: es) (aCons f t) := by
  refine ⟨PA.weak (pa_cons h.run hr.run hs) fun σ H Q hq => ?_, fun ρ ds e => ?_⟩
  rotate_left
  · unfold aCons at e
    cases e1 : f ρ with
    | ok x =>
      rw [e1] at e
      cases e2 : t ρ with
      | ok xs =>
        have e : (t ρ >>= fun xs => Ou.ok (x :: xs)) = .ok ds := e
        rw [e2] at e
        cases e
        exact congrArg (· + 1) (hr.len ρ xs e2)
      | ex c ns xs =>
        have e : (t ρ >>= fun xs => Ou.ok (x :: xs)) = .ok ds := e
        rw [e2] at e
        cases e
      | bad =>
        have e : (t ρ >>= fun xs => Ou.ok (x :: xs)) = .ok ds := e
        rw [e2] at e
        cases e
    | ex c ns xs => rw [e1] at e; cases e
    | bad => rw [e1] at e; cases e
  obtain ⟨Z, ρ, r, q⟩ := hq
  refine tV_bind (P := fun Z H o => PostAB X.K (He.ga X.K) W Z H σ o Q) r (fun _ _ _ z => z) (fun z => z) q fun x v Z1 H1 fx ex g1 dx q => ?_
  refine ⟨Z1, ρ, r.gr g1, ?_⟩
  match e : t ρ with
  | .ok ds =>
    rw [e] at q
    exact fun vs Z2 H2 fp g2 dn => q (v :: vs) Z2 H2 (fx ++ fp) (g1.trans g2) (Dens.cons (g2.den dx) dn)
  | .ex c ns xs =>
    rw [e] at q
    exact PostX.gr q g1
  | .bad =>
    rw [e] at q
    exact q.elim
theorem DE.tup {x1} (h : DA X W es t) : DE X W (.Tuple es x1 pos) (dTup t) := by
  refine ⟨PE.weak (pe_tup h.run) fun σ H Q hq => ?_⟩
  obtain ⟨Z, ρ, r, q⟩ := hq
  refine tDs_bind (P := fun Z H o => PostO X.K (He.ga X.K) W Z H σ o Q) r (fun _ _ _ z => z) (fun z => z) q fun ds vs Z1 H1 fp ex g1 dn nd fr q => ?_
  by_cases c : ds.length ≤ LIM
  · rw [if_pos c] at q
    exact ⟨by rw [dn.length]; exact lim_le c, fun p hp => PostV.tup q g1 dn nd fr p hp⟩
  · rw [if_neg c] at q; exact q.elim
theorem DE.lst (h : DA X W es t) : DE X W (.List es pos) (dLst t) := by
  refine ⟨PE.weak (pe_lst h.run) fun σ H Q hq => ?_⟩
  obtain ⟨Z, ρ, r, q⟩ := hq
  refine tDs_bind (P := fun Z H o => PostO X.K (He.ga X.K) W Z H σ o Q) r (fun _ _ _ z => z) (fun z => z) q fun ds vs Z1 H1 fp ex g1 dn nd fr q => ?_
  by_cases c : ds.length ≤ LIM
  · rw [if_pos c] at q
    exact ⟨by rw [dn.length]; exact lim_le c, fun p hp => PostV.lst q g1 dn nd fr p hp⟩
  · rw [if_neg c] at q; exact q.elim
end
def tru : D → Option Bool
  | .non => some false
  | .bl b => some b
  | .int i => some (i != 0)
  | .str x => if x.length ≤ LIM then some ((x.length : Int) != 0) else none
  | .tup xs => some (!xs.isEmpty)
  | .lst _ xs => some (!xs.isEmpty)
  | _ => none
def bTru (f : Env → Ou D) : Env → Ou Bool := fun ρ => f ρ >>= fun d => ofO (tru d)
def bNot (f : Env → Ou Bool) : Env → Ou Bool := fun ρ => f ρ >>= fun b => .ok (!b)
def bAnd (f g : Env → Ou Bool) : Env → Ou Bool := fun ρ => f ρ >>= fun b => if b then g ρ else .ok false
def bOr (f g : Env → Ou Bool) : Env → Ou Bool := fun ρ => f ρ >>= fun b => if b then .ok true else g ρ
def dAnd (f g : Env → Ou D) : Env → Ou D := fun ρ => f ρ >>= fun d => ofO (tru d) >>= fun b => if b then g ρ else .ok d
def dOr (f g : Env → Ou D) : Env → Ou D := fun ρ => f ρ >>= fun d => ofO (tru d) >>= fun b => if b then .ok d else g ρ
def dNot (f : Env → Ou D) : Env → Ou D := fun ρ => f ρ >>= fun d => ofO (tru d) >>= fun b => .ok (.bl (!b))
def dIf (c : Env → Ou Bool) (f g : Env → Ou D) : Env → Ou D := fun ρ => c ρ >>= fun b => if b then f ρ else g ρ
theorem tru_ok' {K : PySem.W.Frag} {cl : Str → Addr} {Z H : Hp} (s : Ex Z H) : ∀ {d : D} {v : V} {fp : Fp} {b : Bool}, Den K cl Z H d v fp → tru d = some b → TruV K v H b
  | .non, v, fp, b, h, e => by
    rw [h.1]; exact (Option.some.inj e).symm
  | .bl c, v, fp, b, h, e => by
    rw [h.1]; exact (Option.some.inj e).symm
  | .int i, v, fp, b, h, e => by
    rw [h.1]; exact (Option.some.inj e).symm
  | .str x, v, fp, b, h, e => by
    rw [h.1]
    have e : (if x.length ≤ LIM then some ((x.length : Int) != 0) else none) = some b := e
    by_cases c : x.length ≤ LIM
    · rw [if_pos c] at e
      exact ⟨lim_le c, (Option.some.inj e).symm⟩
    · rw [if_neg c] at e; cases e
  | .tup xs, v, fp, b, h, e => by
    obtain ⟨a, vs, e1, q, _, r⟩ := h.tupH s
    subst e1
    have e' : (!xs.isEmpty) = b := Option.some.inj e
    refine .inr (.inl ⟨vs, q, ?_⟩)
    rw [← e']
    have l := r.length
    cases vs <;> cases xs <;> simp_all
  | .lst o xs, v, fp, b, h, e => by
    obtain ⟨a, vs, f, e1, q, r, _⟩ := h.lstH s
    subst e1
    have e' : (!xs.isEmpty) = b := Option.some.inj e
    refine .inl ⟨vs, .inl (.inl q), ?_⟩
    rw [← e']
    have l := r.length
    cases vs <;> cases xs <;> simp_all
  | .ins _ _ _, _, _, _, _, e => nomatch e
  | .scr _, _, _, _, _, e => nomatch e
  | .adr _, _, _, _, _, e => nomatch e
  | .cls _, _, _, _, _, e => nomatch e
  | .pin _, _, _, _, _, e => nomatch e
  | .err _ _ _, _, _, _, _, e => nomatch e
  | .own _ _ _ _, _, _, _, _, e => nomatch e
  | .lsa _ _, _, _, _, _, e => nomatch e
  | .dct _ _ _, _, _, _, _, e => nomatch e
  | .lok _ _, _, _, _, _, e => nomatch e
  | .wth _ _, _, _, _, _, e => nomatch e
section
variable {X : Cx} {W : WX} {a b c e : Expr} {f g : Env → Ou D} {p q : Env → Ou Bool} {pos : Pos} {rest : List Expr}
theorem DT.tru (h : DB X W e f) (he : ∀ whole, isTrue e X.env whole = (do let v ← whole; standAt e.pos; holding [v] (truthy v)) := by intro _; rfl) : DT X W e (bTru f) := by
  refine ⟨PT.weak (pt_truth h.run he) fun σ H Q hq => ?_⟩
  obtain ⟨Z, ρ, r, q⟩ := hq
  refine tV_bind (P := fun Z H o => PostT X.K (He.ga X.K) W Z H σ o Q) r (fun _ _ _ z => z) (fun z => z) q fun x v Z1 H1 fx ex g1 dx q => ?_
  match e : DL.tru x with
  | some b =>
    rw [e] at q
    exact ⟨b, tru_ok' g1.s dx e, q Z1 H1 g1⟩
  | none => rw [e] at q; exact q.elim
theorem DT.not (h : DT X W a p) : DT X W (.UnaryOp .Not a pos) (bNot p) := by
  refine ⟨PT.weak (pt_not h.run) fun σ H Q hq => ?_⟩
  obtain ⟨Z, ρ, r, q⟩ := hq
  exact tT_bind (P := fun Z H o => PostT X.K (He.ga X.K) W Z H σ o Q) r (fun _ _ _ z => z) (fun z => z) q fun b Z1 H1 eb g1 q => q Z1 H1 g1
theorem DT.ofW (h : DW X W e p) : DT X W e p := ⟨h.run.pt⟩
theorem DW.or1 (h : DT X W a p) : DW X W (.BoolOp .Or [a] pos) p := ⟨pw_or1 h.run⟩
theorem DW.and (h : DT X W a p) (k : DW X W (.BoolOp .And (b :: rest) pos) q) : DW X W (.BoolOp .And (a :: b :: rest) pos) (bAnd p q) := by
  refine ⟨PW.weak (pw_and h.run k.run) fun σ H Q hq => ?_⟩
  obtain ⟨Z, ρ, r, h⟩ := hq
  refine tT_bind (P := fun Z H o => PostT X.K (He.ga X.K) W Z H σ o Q) r (fun _ _ _ z => z) (fun z => z) h fun b Z1 H1 eb g1 h => ?_
  cases b with
  | true => exact ⟨Z1, ρ, r.gr g1, PostT.gr h g1⟩
  | false => exact h Z1 H1 g1
theorem DW.or (h : DT X W a p) (k : DW X W (.BoolOp .Or (b :: rest) pos) q) : DW X W (.BoolOp .Or (a :: b :: rest) pos) (bOr p q) := by
  refine ⟨PW.weak (pw_or h.run k.run) fun σ H Q hq => ?_⟩
  obtain ⟨Z, ρ, r, h⟩ := hq
  refine tT_bind (P := fun Z H o => PostT X.K (He.ga X.K) W Z H σ o Q) r (fun _ _ _ z => z) (fun z => z) h fun b Z1 H1 eb g1 h => ?_
  cases b with
  | true => exact h Z1 H1 g1
  | false => exact ⟨Z1, ρ, r.gr g1, PostT.gr h g1⟩
theorem DE.one {op} (h : DE X W a f) : DE X W (.BoolOp op [a] pos) f := ⟨pe_one h.run⟩
theorem DE.and (h : DE X W a f) (k : DE X W (.BoolOp .And (b :: rest) pos) g) : DE X W (.BoolOp .And (a :: b :: rest) pos) (dAnd f g) := by
  refine ⟨PE.weak (pe_andT h.run k.run) fun σ H Q hq => ?_⟩
  obtain ⟨Z, ρ, r, h⟩ := hq
  refine tD_bind (P := fun Z H o => PostO X.K (He.ga X.K) W Z H σ o Q) r (fun _ _ _ z => z) (fun z => z) h fun d v Z1 H1 fp eb g1 dn nd fr h => ?_
  match e : DL.tru d with
  | some b =>
    rw [e] at h
    refine ⟨b, tru_ok' g1.s dn e, ?_⟩
    cases b with
    | true => exact ⟨Z1, ρ, r.gr g1, PostO.gr h g1⟩
    | false => exact h v Z1 H1 fp g1 dn nd fr
  | none => rw [e] at h; exact h.elim
theorem DE.or (h : DE X W a f) (k : DE X W (.BoolOp .Or (b :: rest) pos) g) : DE X W (.BoolOp .Or (a :: b :: rest) pos) (dOr f g) := by
  refine ⟨PE.weak (pe_orT h.run k.run) fun σ H Q hq => ?_⟩
  obtain ⟨Z, ρ, r, h⟩ := hq
  refine tD_bind (P := fun Z H o => PostO X.K (He.ga X.K) W Z H σ o Q) r (fun _ _ _ z => z) (fun z => z) h fun d v Z1 H1 fp eb g1 dn nd fr h => ?_
  match e : DL.tru d with
  | some b =>
    rw [e] at h
    refine ⟨b, tru_ok' g1.s dn e, ?_⟩
    cases b with
    | true => exact h v Z1 H1 fp g1 dn nd fr
    | false => exact ⟨Z1, ρ, r.gr g1, PostO.gr h g1⟩
  | none => rw [e] at h; exact h.elim
theorem DE.not (h : DB X W a f) : DE X W (.UnaryOp .Not a pos) (dNot f) := by
  refine ⟨PE.weak (pe_notT h.run) fun σ H Q hq => ?_⟩
  obtain ⟨Z, ρ, r, h⟩ := hq
  refine tV_bind (P := fun Z H o => PostO X.K (He.ga X.K) W Z H σ o Q) r (fun _ _ _ z => z) (fun z => z) h fun d v Z1 H1 fp eb g1 dn h => ?_
  match e : DL.tru d with
  | some b =>
    rw [e] at h
    exact ⟨b, tru_ok' g1.s dn e, PostV.bl g1.s (PostO.gr h g1)⟩
  | none => rw [e] at h; exact h.elim
end
end DL
namespace DL
open PySem PySem.Spec PyProof.Rows L2
variable [Tb]
def rAddA (K : PySem.W.Frag) : R2 := fun x y H Q => (((rI0 fun i j => .int (i + j)) x y H Q ∨ (fun x y H Q => ∃ i j, x = .str i ∧ y = .str j ∧ i.length + j.length ≤ sizeLine ∧ Q (.str (i ++ j)) H) x y H Q) ∨ rCat x y H Q) ∨ rCatA K x y H Q
theorem op_addA {X : Cx} : OpR X (binaryOp .Add) (rAddA X.K) := ((op_add.or op_add_str).or op_cat).or op_catA
def addD : D → D → Option D
  | .int i, .int j => some (.int (i + j))
  | .str x, .str y => if x.length + y.length ≤ LIM then some (.str (x ++ y)) else none
  | .lst _ xs, .lst _ ys => if D.fzs xs && D.fzs ys && decide (xs.length + ys.length ≤ LIM) then some (.lst true (xs ++ ys)) else none
  | .tup xs, .tup ys => if D.fzs xs && D.fzs ys && decide (xs.length + ys.length ≤ LIM) then some (.tup (xs ++ ys)) else none
  | _, _ => none
def subD : D → D → Option D
  | .int i, .int j => some (.int (i - j))
  | _, _ => none
def mulOk (i j : Int) : Bool := decide ((-18446744073709551616 < i ∧ i < 18446744073709551616) ∨ (-18446744073709551616 < j ∧ j < 18446744073709551616))
def mulD : D → D → Option D
  | .int i, .int j => if mulOk i j then some (.int (i * j)) else none
  | .lst _ xs, .int k => if D.fzs xs && decide (-1000000 ≤ k) && decide (k ≤ 1000000) && decide (xs.length * k.toNat ≤ LIM) then some (.lst true (List.replicate k.toNat xs).flatten) else none
  | _, _ => none
def divOk (j : Int) : Bool := decide (0 < j ∧ j < 1000000000000000000000000000000)
def fdivD : D → D → Option D
  | .int i, .int j => if divOk j then some (.int (i / j)) else none
  | _, _ => none
def modD : D → D → Option D
  | .int i, .int j => if 0 < j then some (.int (i % j)) else none
  | _, _ => none
def powD : D → D → Option D
  | .int i, .int j => if decide (0 ≤ j ∧ j ≤ 1000000 ∧ i.natAbs < 18446744073709551616) then some (.int (i ^ j.toNat)) else none
  | _, _ => none
def negD : D → Option D
  | .int i => some (.int (-i))
  | _ => none
section
variable {K : PySem.W.Frag} {cl : Str → Addr} {Z H Z' H' : Hp}
theorem Dens.fz0 {ds : List D} {vs : List V} {fp : Fp} (c : D.fzs ds = true) (h : Dens K cl Z H ds vs fp) : Dens K cl Z H ds vs [] := by
  have e := Dens.fz ds vs fp c h
  subst e
  exact h
theorem band {a b : Bool} (h : (a && b) = true) : a = true ∧ b = true := Bool.and_eq_true_iff.mp h
theorem op_addD : Op2 K cl (rAddA K) addD := by
  intro Z H x y d v u fx fy Q s hx hy e q
  unfold addD at e
  split at e
  · rename_i i j
    cases e
    rw [hx.1, hy.1]
    exact .inl (.inl (.inl ⟨i, j, rfl, rfl, PostV.int s q⟩))
  · rename_i i j
    split at e
    · rename_i c
      cases e
      rw [hx.1, hy.1]
      exact .inl (.inl (.inr ⟨i, j, rfl, rfl, lim_le c, PostV.str s q⟩))
    · cases e
  · rename_i o xs o2 ys
    split at e
    · rename_i c
      cases e
      obtain ⟨c1, c3⟩ := band c
      obtain ⟨c1, c2⟩ := band c1
      have c3 := of_decide_eq_true c3
      obtain ⟨a, vs, f, rfl, qa, da, _⟩ := hx.lstH s
      obtain ⟨b, us, g, rfl, qb, db, _⟩ := hy.lstH s
      have da := da.fz0 c1
      have db := db.fz0 c2
      exact .inl (.inr ⟨a, b, vs, us, rfl, rfl, qa, qb, by rw [da.length, db.length]; exact lim_le c3, fun p hp => PostV.lst0 q s (da.append db) p hp⟩)
    · cases e
  · rename_i xs ys
    split at e
    · rename_i c
      cases e
      obtain ⟨c1, c3⟩ := band c
      obtain ⟨c1, c2⟩ := band c1
      have c3 := of_decide_eq_true c3
      obtain ⟨a, vs, rfl, qa, za, da⟩ := hx.tupH s
      obtain ⟨b, us, rfl, qb, zb, db⟩ := hy.tupH s
      have da := da.fz0 c1
      have db := db.fz0 c2
      refine .inr ⟨a, b, vs, us, rfl, rfl, qa, qb, by rw [da.length, db.length]; exact lim_le c3, fun e0 => ?_, fun _ e0 => ?_, fun _ _ p hp => PostV.tup0 q s (da.append db) p hp⟩
      · subst e0
        refine PostV.val s ?_ q
        simp only [Den]
        exact ⟨b, us, rfl, zb, da.append db⟩
      · subst e0
        refine PostV.val s ?_ q
        simp only [Den]
        exact ⟨a, vs, rfl, za, by simpa using da.append db⟩
    · cases e
  · cases e
theorem op_subD : Op2 K cl (rI0 fun i j => .int (i - j)) subD := by
  intro Z H x y d v u fx fy Q s hx hy e q
  unfold subD at e
  split at e
  · rename_i i j
    cases e
    rw [hx.1, hy.1]
    exact ⟨i, j, rfl, rfl, PostV.int s q⟩
  · cases e
def rMulA : R2 := fun x y H Q => rI CMul (fun i j => .int (i * j)) x y H Q ∨ rRep x y H Q
theorem op_mulA {X : Cx} : OpR X (binaryOp .Mult) rMulA := op_mul.or op_rep
theorem Dens.rep {ds : List D} {vs : List V} (h : Dens K cl Z H ds vs []) : ∀ k : Nat, Dens K cl Z H (List.replicate k ds).flatten (List.replicate k vs).flatten []
  | 0 => ⟨rfl, rfl⟩
  | k + 1 => by
    rw [List.replicate_succ, List.flatten_cons, List.replicate_succ, List.flatten_cons]
    exact h.append (Dens.rep h k)
theorem op_mulD : Op2 K cl rMulA mulD := by
  intro Z H x y d v u fx fy Q s hx hy e q
  unfold mulD at e
  split at e
  · rename_i i j
    split at e
    · rename_i c
      cases e
      rw [hx.1, hy.1]
      have c : (-18446744073709551616 < i ∧ i < 18446744073709551616) ∨ (-18446744073709551616 < j ∧ j < 18446744073709551616) := of_decide_eq_true c
      exact .inl ⟨i, j, rfl, rfl, c, PostV.int s q⟩
    · cases e
  · rename_i o xs k
    split at e
    · rename_i c
      cases e
      obtain ⟨c, c4⟩ := band c
      obtain ⟨c, c3⟩ := band c
      obtain ⟨c1, c2⟩ := band c
      have c2 := of_decide_eq_true c2
      have c3 := of_decide_eq_true c3
      have c4 := of_decide_eq_true c4
      obtain ⟨a, vs, f, rfl, qa, da, _⟩ := hx.lstH s
      have da := da.fz0 c1
      rw [hy.1]
      exact .inr ⟨a, k, vs, rfl, rfl, qa, by omega, by omega, by rw [da.length]; exact lim_le c4, fun p hp => PostV.lst0 q s (da.rep k.toNat) p hp⟩
    · cases e
  · cases e
theorem op_fdivD : Op2 K cl (rI CDivW fun i j => .int (i / j)) fdivD := by
  intro Z H x y d v u fx fy Q s hx hy e q
  unfold fdivD at e
  split at e
  · rename_i i j
    split at e
    · rename_i c
      cases e
      obtain ⟨c1, c2⟩ := of_decide_eq_true c
      rw [hx.1, hy.1]
      exact ⟨i, j, rfl, rfl, wide_div (i := i) (b := 100) c1 (by have : (2 : Nat) ^ 100 = 1267650600228229401496703205376 := by decide
                                                                 omega) (by decide) (by decide), PostV.int s q⟩
    · cases e
  · cases e
theorem op_modD : Op2 K cl (rI (fun _ j => 0 < j) fun i j => .int (i % j)) modD := by
  intro Z H x y d v u fx fy Q s hx hy e q
  unfold modD at e
  split at e
  · rename_i i j
    split at e
    · rename_i c
      cases e
      rw [hx.1, hy.1]
      exact ⟨i, j, rfl, rfl, c, PostV.int s q⟩
    · cases e
  · cases e
theorem op_powD : Op2 K cl (rI CPow fun i j => .int (i ^ j.toNat)) powD := by
  intro Z H x y d v u fx fy Q s hx hy e q
  unfold powD at e
  split at e
  · rename_i i j
    split at e
    · rename_i c
      cases e
      rw [hx.1, hy.1]
      have c := of_decide_eq_true c
      exact ⟨i, j, rfl, rfl, ⟨c.1, c.2.1, c.2.2⟩, PostV.int s q⟩
    · cases e
  · cases e
theorem op_negD : Op1 K cl (rU fun i => .int (-i)) negD := by
  intro Z H x d v fx Q s hx e q
  unfold negD at e
  split at e
  · rename_i i
    cases e
    rw [hx.1]
    exact ⟨i, rfl, PostV.int s q⟩
  · cases e
end
mutual
def D.py : D → PyData
  | .bl b => .bool b
  | .int i => .int i
  | .str x => .str x
  | .tup xs => .tuple (D.pys xs)
  | .lst _ xs => .list (D.pys xs)
  | _ => .none
def D.pys : List D → List PyData
  | [] => []
  | d :: ds => d.py :: D.pys ds
end
mutual
def D.okd : D → Nat → Bool
  | .non, _ => true
  | .bl _, _ => true
  | .int _, _ => true
  | .str x, _ => PyData.strOk x
  | .tup xs, n => match n with
    | 0 => false
    | m + 1 => D.okds xs m
  | .lst _ xs, n => match n with
    | 0 => false
    | m + 1 => D.okds xs m
  | _, _ => false
def D.okds : List D → Nat → Bool
  | [], _ => true
  | d :: ds, n => d.okd n && D.okds ds n
end
mutual
theorem okd_lay : ∀ (d : D) (n : Nat), d.okd n = true → d.py.canLay0 = true ∧ d.py.depth ≤ n
  | .non, n, _ => ⟨rfl, Nat.zero_le _⟩
  | .bl _, n, _ => ⟨rfl, Nat.zero_le _⟩
  | .int _, n, _ => ⟨rfl, Nat.zero_le _⟩
  | .str x, n, h => ⟨by simp only [D.py, PyData.canLay0]; exact h, Nat.zero_le _⟩
  | .tup xs, 0, h => by
    have h' : false = true := h
    cases h'
  | .tup xs, n + 1, h => by
    obtain ⟨h1, h2⟩ := okds_lay xs n h
    simp only [D.py, PyData.canLay0, PyData.depth]
    exact ⟨h1, Nat.succ_le_succ h2⟩
  | .lst o xs, 0, h => by
    have h' : false = true := h
    cases h'
  | .lst o xs, n + 1, h => by
    obtain ⟨h1, h2⟩ := okds_lay xs n h
    simp only [D.py, PyData.canLay0, PyData.depth]
    exact ⟨h1, Nat.succ_le_succ h2⟩
  | .ins _ _ _, n, h => by
    have h' : false = true := h
    cases h'
  | .scr _, n, h => by
    have h' : false = true := h
    cases h'
  | .adr _, n, h => by
    have h' : false = true := h
    cases h'
  | .cls _, n, h => by
    have h' : false = true := h
    cases h'
  | .pin _, n, h => by
    have h' : false = true := h
    cases h'
  | .err _ _ _, n, h => by
    have h' : false = true := h
    cases h'
  | .own _ _ _ _, n, h => by
    have h' : false = true := h
    cases h'
  | .lsa _ _, n, h => by
    have h' : false = true := h
    cases h'
  | .dct _ _ _, n, h => by
    have h' : false = true := h
    cases h'
  | .lok _ _, n, h => by
    have h' : false = true := h
    cases h'
  | .wth _ _, n, h => by
    have h' : false = true := h
    cases h'
theorem okds_lay : ∀ (ds : List D) (n : Nat), D.okds ds n = true → PyData.canLayAll0 (D.pys ds) = true ∧ PyData.depthAll (D.pys ds) ≤ n
  | [], n, _ => ⟨by simp only [D.pys, PyData.canLayAll0], Nat.zero_le _⟩
  | d :: ds, n, h => by
    obtain ⟨h1, h2⟩ := band (show (d.okd n && D.okds ds n) = true from h)
    obtain ⟨a1, a2⟩ := okd_lay d n h1
    obtain ⟨b1, b2⟩ := okds_lay ds n h2
    simp only [D.pys, PyData.canLayAll0, PyData.depthAll]
    exact ⟨by rw [a1, b1]; rfl, Nat.max_le.mpr ⟨a2, b2⟩⟩
end
def DEP : Nat := 20
theorem okd_shaped {d : D} (h : d.okd DEP = true) : SeqAt.shaped d.py = true := by
  obtain ⟨h1, h2⟩ := okd_lay d DEP h
  unfold SeqAt.shaped
  rw [h1, decide_eq_true (Nat.le_trans h2 (by decide))] <;> rfl
section
variable {K : PySem.W.Frag} {cl : Str → Addr} {Z H Z' H' : Hp}
mutual
theorem Den.dp (s : Ex Z H) : ∀ (d : D) (n : Nat) (v : V) (fp : Fp), d.okd n = true → Den K cl Z H d v fp → Dp K H v d.py
  | .non, n, v, fp, _, h => by rw [h.1]; exact .non
  | .bl b, n, v, fp, _, h => by rw [h.1]; exact .bl b
  | .int i, n, v, fp, _, h => by rw [h.1]; exact .int i
  | .str x, n, v, fp, _, h => by rw [h.1]; exact .str x
  | .tup xs, 0, v, fp, c, h => by
    have h' : false = true := c
    cases h'
  | .tup xs, n + 1, v, fp, c, h => by
    obtain ⟨a, vs, e, q, z, r⟩ := h.tupH s
    rw [e]
    exact .tup q (Dens.dp s xs n vs fp c r)
  | .lst o xs, 0, v, fp, c, h => by
    have h' : false = true := c
    cases h'
  | .lst o xs, n + 1, v, fp, c, h => by
    obtain ⟨a, vs, f, e, q, r, _⟩ := h.lstH s
    rw [e]
    exact .lst (.inl (.inl q)) (Dens.dp s xs n vs f c r)
  | .ins _ _ _, n, v, fp, c, h => by
    have h' : false = true := c
    cases h'
  | .scr _, n, v, fp, c, h => by
    have h' : false = true := c
    cases h'
  | .adr _, n, v, fp, c, h => by
    have h' : false = true := c
    cases h'
  | .cls _, n, v, fp, c, h => by
    have h' : false = true := c
    cases h'
  | .pin _, n, v, fp, c, h => by
    have h' : false = true := c
    cases h'
  | .err _ _ _, n, v, fp, c, h => by
    have h' : false = true := c
    cases h'
  | .own _ _ _ _, n, v, fp, c, h => by
    have h' : false = true := c
    cases h'
  | .lsa _ _, n, v, fp, c, h => by
    have h' : false = true := c
    cases h'
  | .dct _ _ _, n, v, fp, c, h => by
    have h' : false = true := c
    cases h'
  | .lok _ _, n, v, fp, c, h => by
    have h' : false = true := c
    cases h'
  | .wth _ _, n, v, fp, c, h => by
    have h' : false = true := c
    cases h'
theorem Dens.dp (s : Ex Z H) : ∀ (ds : List D) (n : Nat) (vs : List V) (fp : Fp), D.okds ds n = true → Dens K cl Z H ds vs fp → DpAll K H vs (D.pys ds)
  | [], n, vs, fp, _, h => by rw [h.1]; exact .nil
  | d :: ds, n, vs, fp, c, h => by
    obtain ⟨c1, c2⟩ := band (show (d.okd n && D.okds ds n) = true from c)
    simp only [Dens] at h
    obtain ⟨v, vr, f1, f2, e1, e2, q, r⟩ := h
    rw [e1]
    exact .cons (Den.dp s d n v f1 c1 q) (Dens.dp s ds n vr f2 c2 r)
end
def eqD (x y : D) : Option Bool := if x.okd DEP && y.okd DEP then some (PyData.eqv x.py y.py) else none
def neD (x y : D) : Option Bool := if x.okd DEP && y.okd DEP then some (!PyData.eqv x.py y.py) else none
theorem op_eqDD : Op2B K cl (rEqD K) eqD := by
  intro Z H x y b v u fx fy Q s hx hy e q
  unfold eqD at e
  split at e
  · rename_i c
    obtain ⟨c1, c2⟩ := band c
    cases e
    exact ⟨x.py, y.py, Den.dp s x DEP v fx c1 hx, Den.dp s y DEP u fy c2 hy, okd_shaped c1, okd_shaped c2, q⟩
  · cases e
theorem op_neDD : Op2B K cl (rNeD K) neD := by
  intro Z H x y b v u fx fy Q s hx hy e q
  unfold neD at e
  split at e
  · rename_i c
    obtain ⟨c1, c2⟩ := band c
    cases e
    exact ⟨x.py, y.py, Den.dp s x DEP v fx c1 hx, Den.dp s y DEP u fy c2 hy, okd_shaped c1, okd_shaped c2, q⟩
  · cases e
def isN : D → Bool
  | .non => true
  | .wth x _ => isN x
  | _ => false
def isND (x y : D) : Option Bool := if isN y then some (isN x) else none
def notND (x y : D) : Option Bool := if isN y then some (!isN x) else none
def ltD : D → D → Option Bool
  | .int i, .int j => some (decide (i < j))
  | _, _ => none
def leD : D → D → Option Bool
  | .int i, .int j => some (decide (i ≤ j))
  | _, _ => none
def gtD : D → D → Option Bool
  | .int i, .int j => some (decide (j < i))
  | _, _ => none
def geD : D → D → Option Bool
  | .int i, .int j => some (decide (j ≤ i))
  | _, _ => none
theorem op_ltD : Op2B K cl (rI0 fun i j => .bl (decide (i < j))) ltD := by
  intro Z H x y b v u fx fy Q s hx hy e q
  unfold ltD at e
  split at e
  · cases e
    rw [hx.1, hy.1]
    exact ⟨_, _, rfl, rfl, q⟩
  · cases e
theorem op_gtD : Op2B K cl (rI0 fun i j => .bl (decide (j < i))) gtD := by
  intro Z H x y b v u fx fy Q s hx hy e q
  unfold gtD at e
  split at e
  · cases e
    rw [hx.1, hy.1]
    exact ⟨_, _, rfl, rfl, q⟩
  · cases e
theorem op_geD : Op2B K cl (rI0 fun i j => .bl (decide (j ≤ i))) geD := by
  intro Z H x y b v u fx fy Q s hx hy e q
  unfold geD at e
  split at e
  · cases e
    rw [hx.1, hy.1]
    exact ⟨_, _, rfl, rfl, q⟩
  · cases e
end
end DL
namespace DL
open PySem PySem.Spec PyProof.Rows L2
variable [Tb]
def intsOf : List D → Option (List Int)
  | [] => some []
  | .int i :: r => (intsOf r).map (i :: ·)
  | _ :: _ => none
def boolsOf : List D → Option (List Bool)
  | [] => some []
  | .bl b :: r => (boolsOf r).map (b :: ·)
  | _ :: _ => none
def lenN : List D → Option D
  | [.str x] => if x.length ≤ LIM then some (.int x.length) else none
  | [.tup xs] => some (.int xs.length)
  | [.lst _ xs] => some (.int xs.length)
  | [.scr ns] => some (.int ns.length)
  | _ => none
def absN : List D → Option D
  | [.int i] => some (.int (if i < 0 then -i else i))
  | _ => none
def intN : List D → Option D
  | [.int i] => some (.int i)
  | [.bl b] => some (.int (if b then 1 else 0))
  | _ => none
def intTN : List D → Option D
  | [.str x] => if x.length ≤ 640 then (PySem.intText? x).map .int else none
  | _ => none
def max2N : List D → Option D
  | [.int i, .int j] => some (.int (if j > i then j else i))
  | _ => none
def min2N : List D → Option D
  | [.int i, .int j] => some (.int (if j < i then j else i))
  | _ => none
def sumN : List D → Option D
  | [.lst _ xs] => (intsOf xs).map fun ns => .int ns.sum
  | _ => none
def allN : List D → Option D
  | [.lst _ xs] => (boolsOf xs).map fun bs => .bl (bs.all id)
  | _ => none
def anyN : List D → Option D
  | [.lst _ xs] => (boolsOf xs).map fun bs => .bl (bs.any id)
  | _ => none
def maxI : List Int → Int
  | [] => 0
  | [i] => i
  | i :: r => max i (maxI r)
def minI : List Int → Int
  | [] => 0
  | [i] => i
  | i :: r => min i (minI r)
def maxN : List D → Option D
  | [.lst _ (x :: xs)] => (intsOf (x :: xs)).map fun ns => .int (maxI ns)
  | _ => none
def minN : List D → Option D
  | [.lst _ (x :: xs)] => (intsOf (x :: xs)).map fun ns => .int (minI ns)
  | _ => none
def listN : List D → Option D
  | [.lst _ xs] => if D.fzs xs then some (.lst true xs) else none
  | [.tup xs] => if D.fzs xs then some (.lst true xs) else none
  | _ => none
def tupleN : List D → Option D
  | [.lst _ xs] => if D.fzs xs then some (.tup xs) else none
  | [.tup xs] => if D.fzs xs then some (.tup xs) else none
  | _ => none
def strI (i : Int) : Bool := decide (i.natAbs < 10000000000000000000000000000000000000000000000000000000000000000000000000000000000000000000000000000)
def strN : List D → Option D
  | [.int i] => if strI i then some (.str (toString i)) else none
  | _ => none
section
variable {K : PySem.W.Frag} {cl : Str → Addr} {Z H Z' H' : Hp}
theorem Dens.cons' {d : D} {ds : List D} {vs : List V} {fp : Fp} (h : Dens K cl Z H (d :: ds) vs fp) : ∃ v vr f1 f2, vs = v :: vr ∧ fp = f1 ++ f2 ∧ Den K cl Z H d v f1 ∧ Dens K cl Z H ds vr f2 := by
  simp only [Dens] at h
  exact h
theorem Dens.one' {d : D} {vs : List V} {fp : Fp} (h : Dens K cl Z H [d] vs fp) : ∃ v, vs = [v] ∧ Den K cl Z H d v fp := by
  obtain ⟨v, vr, f1, f2, e1, e2, q, r⟩ := h.cons'
  obtain ⟨r1, r2⟩ := r
  subst r1 r2 e2
  exact ⟨v, e1, by simpa using q⟩
theorem bools_of : ∀ {ds : List D} {ns : List Bool} {vs : List V} {fp : Fp}, boolsOf ds = some ns → Dens K cl Z H ds vs fp → vs = ns.map V.bl ∧ ns.length = ds.length
  | [], ns, vs, fp, e, h => by
    cases e
    exact ⟨h.1, rfl⟩
  | d :: ds, ns, vs, fp, e, h => by
    cases d with
    | bl i =>
      have e' : (boolsOf ds).map (i :: ·) = some ns := e
      obtain ⟨ms, e1, e2⟩ := Option.map_eq_some_iff.mp e'
      obtain ⟨v, vr, f1, f2, h1, h2, q, r⟩ := h.cons'
      obtain ⟨r1, r2⟩ := bools_of e1 r
      subst e2 h1 r1
      rw [q.1]
      exact ⟨rfl, congrArg (· + 1) r2⟩
    | _ => cases e
theorem opN_len : OpN K cl (fun xs H Q => ∃ x n, xs = [x] ∧ LenV K x H n ∧ Q (.int n) H) lenN := by
  intro Z H xs d vs fp Q s h e q
  unfold lenN at e
  split at e
  · rename_i x
    split at e
    · rename_i c
      cases e
      obtain ⟨v, rfl, hv⟩ := h.one'
      rw [hv.1]
      exact ⟨_, x.length, rfl, ⟨lim_le c, rfl⟩, PostV.int s q⟩
    · cases e
  · rename_i xs
    cases e
    obtain ⟨v, rfl, hv⟩ := h.one'
    obtain ⟨a, vs, rfl, qa, _, r⟩ := hv.tupH s
    exact ⟨_, xs.length, rfl, .inr ⟨vs, qa, r.length.symm⟩, PostV.int s q⟩
  · rename_i o xs
    cases e
    obtain ⟨v, rfl, hv⟩ := h.one'
    obtain ⟨a, vs, f, rfl, qa, r, _⟩ := hv.lstH s
    exact ⟨_, xs.length, rfl, .inl ⟨vs, .inl (.inl qa), r.length.symm⟩, PostV.int s q⟩
  · rename_i ns
    cases e
    obtain ⟨v, rfl, hv⟩ := h.one'
    simp only [Den] at hv
    obtain ⟨a, rfl, _, qa⟩ := hv
    exact ⟨_, ns.length, rfl, .inl ⟨_, s.sqL qa, by rw [List.length_map]⟩, PostV.int s q⟩
  · cases e
theorem opN_abs : OpN K cl (fun xs H Q => ∃ i, xs = [.int i] ∧ Q (.int (if i < 0 then -i else i)) H) absN := by
  intro Z H xs d vs fp Q s h e q
  unfold absN at e
  split at e
  · rename_i i
    cases e
    obtain ⟨v, rfl, hv⟩ := h.one'
    rw [hv.1]
    exact ⟨i, rfl, PostV.int s q⟩
  · cases e
theorem opN_int : OpN K cl (fun xs H Q => (∃ i, xs = [.int i] ∧ Q (.int i) H) ∨ ∃ k, xs = [.bl k] ∧ Q (.int (if k then 1 else 0)) H) intN := by
  intro Z H xs d vs fp Q s h e q
  unfold intN at e
  split at e
  · rename_i i
    cases e
    obtain ⟨v, rfl, hv⟩ := h.one'
    rw [hv.1]
    exact .inl ⟨i, rfl, PostV.int s q⟩
  · rename_i i
    cases e
    obtain ⟨v, rfl, hv⟩ := h.one'
    rw [hv.1]
    exact .inr ⟨i, rfl, PostV.int s q⟩
  · cases e
theorem opN_all : OpN K cl (rAll K) allN := by
  intro Z H xs d vs fp Q s h e q
  unfold allN at e
  split at e
  · rename_i o xs
    obtain ⟨ns, e1, e2⟩ := Option.map_eq_some_iff.mp e
    subst e2
    obtain ⟨v, rfl, hv⟩ := h.one'
    obtain ⟨a, vs, f, rfl, qa, r, _⟩ := hv.lstH s
    obtain ⟨e3, _⟩ := bools_of e1 r
    subst e3
    exact ⟨a, ns, rfl, .inl (.inl qa), PostV.bl s q⟩
  · cases e
theorem opN_list : OpN K cl (fun xs H Q => ∃ p ys, xs = [.ref p] ∧ (SqL K H p ys ∨ SqT K H p ys) ∧ ∀ l, H l = none → Q (.ref l) (upd H l (.lst ys))) listN := by
  intro Z H xs d vs fp Q s h e q
  unfold listN at e
  split at e
  · rename_i o xs
    split at e
    · rename_i c
      cases e
      obtain ⟨v, rfl, hv⟩ := h.one'
      obtain ⟨a, vs, f, rfl, qa, r, _⟩ := hv.lstH s
      exact ⟨a, vs, rfl, .inl (.inl (.inl qa)), fun p hp => PostV.lst0 q s (r.fz0 c) p hp⟩
    · cases e
  · rename_i xs
    split at e
    · rename_i c
      cases e
      obtain ⟨v, rfl, hv⟩ := h.one'
      obtain ⟨a, vs, rfl, qa, _, r⟩ := hv.tupH s
      exact ⟨a, vs, rfl, .inr qa, fun p hp => PostV.lst0 q s (r.fz0 c) p hp⟩
    · cases e
  · cases e
theorem opN_tuple : OpN K cl (fun xs H Q => ∃ p ys, xs = [.ref p] ∧ ((SqL K H p ys ∧ ∀ l, H l = none → Q (.ref l) (upd H l (.tup ys))) ∨ (SqT K H p ys ∧ Q (.ref p) H))) tupleN := by
  intro Z H xs d vs fp Q s h e q
  unfold tupleN at e
  split at e
  · rename_i o xs
    split at e
    · rename_i c
      cases e
      obtain ⟨v, rfl, hv⟩ := h.one'
      obtain ⟨a, vs, f, rfl, qa, r, _⟩ := hv.lstH s
      exact ⟨a, vs, rfl, .inl ⟨.inl (.inl qa), fun p hp => PostV.tup0 q s (r.fz0 c) p hp⟩⟩
    · cases e
  · rename_i xs
    split at e
    · rename_i c
      cases e
      obtain ⟨v, rfl, hv⟩ := h.one'
      obtain ⟨a, vs, rfl, qa, za, r⟩ := hv.tupH s
      refine ⟨a, vs, rfl, .inr ⟨qa, PostV.val s ?_ q⟩⟩
      simp only [Den]
      exact ⟨a, vs, rfl, za, r.fz0 c⟩
    · cases e
  · cases e
theorem strI_log {i : Int} (h : strI i = true) : i.natAbs.log2 < 1920 := by
  have h' := of_decide_eq_true h
  by_cases z : i.natAbs = 0
  · rw [z]; decide
  · refine (Nat.log2_lt z).mpr (Nat.lt_trans h' ?_)
    decide +kernel
theorem opN_str : OpN K cl (fun xs H Q => ∃ i, xs = [.int i] ∧ i.natAbs.log2 < 1920 ∧ Q (.str (toString i)) H) strN := by
  intro Z H xs d vs fp Q s h e q
  unfold strN at e
  split at e
  · rename_i i
    split at e
    · rename_i c
      cases e
      obtain ⟨v, rfl, hv⟩ := h.one'
      rw [hv.1]
      exact ⟨i, rfl, strI_log c, PostV.str s q⟩
    · cases e
  · cases e
def ixD : D → D → Option D
  | .lst _ xs, .int i => atI xs i
  | .tup xs, .int i => atI xs i
  | .str z, .int i => if z.length ≤ LIM then (atI z.cps.toList i).map fun c => .str ⟨#[c]⟩ else none
  | .scr ns, .int i => (atI ns i).map .int
  | _, _ => none
theorem Dens.at {ds : List D} {vs : List V} {fp : Fp} {i : Int} {d : D} (h : Dens K cl Z H ds vs fp) (e : atI ds i = some d) : ∃ v f, atI vs i = some v ∧ Den K cl Z H d v f ∧ f.Sublist fp := by
  unfold atI at e ⊢
  rw [h.length]
  cases c : ixN ds.length i with
  | none => rw [c] at e; cases e
  | some j =>
    rw [c] at e
    obtain ⟨v, f, h1, h2, h3, h4⟩ := h.get (i := j) (show ds[j]? = some d from e)
    exact ⟨v, f, h1, h2, h4⟩
theorem PostB.val {d : D} {v : V} {fp : Fp} {Q : VK} (s : Ex Z H) (h : Den K cl Z H d v fp) (q : PostB K cl Z H d Q) : Q v H := q v Z H fp (Gr.refl s) h
theorem op_ixD : Op2V K cl (rIx K) ixD := by
  intro Z H x y d v u fx fy Q s hx hy e q
  unfold ixD at e
  split at e
  · rename_i o xs i
    obtain ⟨a, vs, f, rfl, qa, r, _⟩ := hx.lstH s
    obtain ⟨w, g, h1, h2, _⟩ := r.at e
    rw [hy.1]
    exact .inl ⟨a, vs, i, w, rfl, rfl, .inl (.inl qa), h1, PostB.val s h2 q⟩
  · rename_i xs i
    obtain ⟨a, vs, rfl, qa, _, r⟩ := hx.tupH s
    obtain ⟨w, g, h1, h2, _⟩ := r.at e
    rw [hy.1]
    exact .inr (.inl ⟨a, vs, i, w, rfl, rfl, qa, h1, PostB.val s h2 q⟩)
  · rename_i z i
    split at e
    · rename_i c
      obtain ⟨k, e1, e2⟩ := Option.map_eq_some_iff.mp e
      subst e2
      rw [hx.1, hy.1]
      exact .inr (.inr ⟨z, i, k, rfl, rfl, lim_le c, e1, PostB.val (d := .str ⟨#[k]⟩) (fp := []) s ⟨rfl, rfl⟩ q⟩)
    · cases e
  · rename_i ns i
    obtain ⟨k, e1, e2⟩ := Option.map_eq_some_iff.mp e
    subst e2
    simp only [Den] at hx
    obtain ⟨a, rfl, _, qa⟩ := hx
    rw [hy.1]
    refine .inl ⟨a, ns.map V.int, i, .int k, rfl, rfl, s.sqL qa, ?_, PostB.val (d := .int k) (fp := []) s ⟨rfl, rfl⟩ q⟩
    unfold atI at e1 ⊢
    rw [List.length_map]
    cases c : ixN ns.length i with
    | none => rw [c] at e1; cases e1
    | some j =>
      rw [c] at e1
      show (ns.map V.int)[j]? = _
      rw [List.getElem?_map, show ns[j]? = some k from e1] <;> rfl
  · cases e
def cutD {α : Type} (xs : List α) (lo hi : Option Int) : List α := (xs.drop (HT.sIx xs.length 0 lo)).take (HT.sIx xs.length xs.length hi - HT.sIx xs.length 0 lo)
def slD (d : D) (lo hi : Option Int) : Option D := match d with
  | .lst _ xs => if D.fzs xs then some (.lst true (cutD xs lo hi)) else none
  | .tup xs => if D.fzs xs then some (.tup (cutD xs lo hi)) else none
  | .str z => if z.length ≤ LIM then some (.str (cutS z lo hi)) else none
  | .scr ns => some (.lst true ((cutD ns lo hi).map D.int))
  | _ => none
theorem Dens.ints : ∀ ms : List Int, Dens K cl Z H (ms.map D.int) (ms.map V.int) []
  | [] => ⟨rfl, rfl⟩
  | m :: ms => by
    simp only [List.map_cons, Dens]
    exact ⟨_, _, [], [], rfl, rfl, ⟨rfl, rfl⟩, Dens.ints ms⟩
theorem cutD_map {α β : Type} (f : α → β) (xs : List α) (lo hi : Option Int) : cutD (xs.map f) lo hi = (cutD xs lo hi).map f := by
  unfold cutD
  rw [List.length_map, List.map_take, List.map_drop]
theorem Dens.take {ds : List D} {vs : List V} (h : Dens K cl Z H ds vs []) : ∀ (n : Nat), Dens K cl Z H (ds.take n) (vs.take n) [] := by
  induction ds generalizing vs with
  | nil => intro n; rw [h.1]; rw [List.take_nil, List.take_nil]; exact ⟨rfl, rfl⟩
  | cons d ds ih =>
    intro n
    obtain ⟨v, vr, f1, f2, e1, e2, q, r⟩ := h.cons'
    obtain ⟨e3, e4⟩ := List.append_eq_nil_iff.mp e2.symm
    subst e1 e3 e4
    cases n with
    | zero => exact ⟨rfl, rfl⟩
    | succ n => exact Dens.cons q (ih r n)
theorem Dens.drop {ds : List D} {vs : List V} (h : Dens K cl Z H ds vs []) : ∀ (n : Nat), Dens K cl Z H (ds.drop n) (vs.drop n) [] := by
  induction ds generalizing vs with
  | nil => intro n; rw [h.1]; rw [List.drop_nil, List.drop_nil]; exact ⟨rfl, rfl⟩
  | cons d ds ih =>
    intro n
    obtain ⟨v, vr, f1, f2, e1, e2, q, r⟩ := h.cons'
    obtain ⟨e3, e4⟩ := List.append_eq_nil_iff.mp e2.symm
    subst e1 e3 e4
    cases n with
    | zero => exact Dens.cons q r
    | succ n => exact ih r n
theorem Dens.reverse {ds : List D} {vs : List V} (h : Dens K cl Z H ds vs []) : Dens K cl Z H ds.reverse vs.reverse [] := by
  induction ds generalizing vs with
  | nil => rw [h.1]; exact ⟨rfl, rfl⟩
  | cons d ds ih =>
    obtain ⟨v, vr, f1, f2, e1, e2, q, r⟩ := h.cons'
    obtain ⟨e3, e4⟩ := List.append_eq_nil_iff.mp e2.symm
    subst e1 e3 e4
    rw [List.reverse_cons, List.reverse_cons]
    exact (ih r).append (Dens.one q)
theorem Dens.cut {ds : List D} {vs : List V} (h : Dens K cl Z H ds vs []) (lo hi : Option Int) : Dens K cl Z H (cutD ds lo hi) (cutV vs lo hi) [] := by
  unfold cutD cutV
  rw [h.length]
  exact (h.drop _).take _
def rSlX (K : PySem.W.Frag) : V → Option Int → Option Int → Hp → VK → Prop := fun x lo hi H Q => (rSlL K x lo hi H Q ∨ rSlA K x lo hi H Q) ∨ rSlS x lo hi H Q
theorem sl_any {X : Cx} : SlR X (rSlX X.K) := (sl_list.or sl_tupA).or sl_str
theorem cut_all {α : Type} (xs : List α) (lo hi : Option Int) (h : HT.sIx xs.length 0 lo = 0 ∧ HT.sIx xs.length xs.length hi = xs.length) : cutD xs lo hi = xs := by
  unfold cutD
  rw [h.1, h.2, List.drop_zero, Nat.sub_zero, List.take_length]
theorem op_slD {d d' : D} {lo hi : Option Int} {v : V} {fx : Fp} {Q : VK} (s : Ex Z H) (hx : Den K cl Z H d v fx) (e : slD d lo hi = some d') (q : PostV K cl Z H d' Q) : rSlX K v lo hi H Q := by
  unfold slD at e
  split at e
  · rename_i o xs
    split at e
    · rename_i c
      cases e
      obtain ⟨a, vs, f, rfl, qa, r, _⟩ := hx.lstH s
      exact .inl (.inl ⟨a, vs, rfl, .inl (.inl qa), fun p hp => PostV.lst0 q s ((r.fz0 c).cut lo hi) p hp⟩)
    · cases e
  · rename_i xs
    split at e
    · rename_i c
      cases e
      obtain ⟨a, vs, rfl, qa, za, r⟩ := hx.tupH s
      refine .inl (.inr ⟨a, vs, rfl, qa, fun w => ?_, fun _ p hp => PostV.tup0 q s ((r.fz0 c).cut lo hi) p hp⟩)
      rw [r.length] at w
      rw [cut_all xs lo hi w] at q
      refine PostV.val s ?_ q
      simp only [Den]
      exact ⟨a, vs, rfl, za, r.fz0 c⟩
    · cases e
  · rename_i z
    split at e
    · rename_i c
      cases e
      rw [hx.1]
      exact .inr ⟨z, rfl, lim_le c, PostV.str s q⟩
    · cases e
  · rename_i ns
    cases e
    simp only [Den] at hx
    obtain ⟨a, rfl, _, qa⟩ := hx
    exact .inl (.inl ⟨a, ns.map V.int, rfl, s.sqL qa, fun p hp => PostV.lst0 q s (by rw [← cutD_map]; exact (Dens.ints ns).cut lo hi) p hp⟩)
  · cases e
def flatD : D → Option V
  | .non => some .non
  | .bl b => some (.bl b)
  | .int i => some (.int i)
  | .str x => some (.str x)
  | _ => none
def flats : List D → Option (List V)
  | [] => some []
  | d :: ds => match flatD d, flats ds with
    | some v, some vs => some (v :: vs)
    | _, _ => none
theorem flatD_of {d : D} {v u : V} {fp : Fp} (e : flatD d = some v) (h : Den K cl Z H d u fp) : u = v ∧ flatV v = true := by
  cases d with
  | non => cases e; exact ⟨h.1, rfl⟩
  | bl b => cases e; exact ⟨h.1, rfl⟩
  | int i => cases e; exact ⟨h.1, rfl⟩
  | str x => cases e; exact ⟨h.1, rfl⟩
  | _ => cases e
theorem flats_of : ∀ {ds : List D} {vs us : List V} {fp : Fp}, flats ds = some vs → Dens K cl Z H ds us fp → us = vs ∧ vs.all flatV = true
  | [], vs, us, fp, e, h => by cases e; exact ⟨h.1, rfl⟩
  | d :: ds, vs, us, fp, e, h => by
    obtain ⟨v, vr, f1, f2, e1, e2, q, r⟩ := h.cons'
    unfold flats at e
    split at e
    · rename_i a as ea eb
      cases e
      obtain ⟨r1, r2⟩ := flatD_of ea q
      obtain ⟨r3, r4⟩ := flats_of eb r
      subst e1 r1 r3
      exact ⟨rfl, by rw [List.all_cons, r2, r4]; rfl⟩
    · cases e
def inD (x y : D) : Option Bool := match y with
  | .lst _ ys => if x.okd DEP && (D.lst true ys).okd DEP then some ((D.pys ys).any fun z => PyData.eqv z x.py) else none
  | .tup ys => (flatD x).bind fun v => (flats ys).map fun vs => inV v vs
  | .str z => match x with
    | .str w => match w.cps.toList with
      | [c] => some (decide (c ∈ z.cps.toList))
      | _ => none
    | _ => none
  | _ => none
def notInD (x y : D) : Option Bool := (inD x y).map not
def rInA (K : PySem.W.Frag) : R2 := fun x y H Q => (rInD K x y H Q ∨ rIn K false x y H Q) ∨ (fun x y H Q => ∃ (c : Nat) (z : Str), x = .str ⟨#[c]⟩ ∧ y = .str z ∧ Q (.bl (decide (c ∈ z.cps.toList))) H) x y H Q
def rNotInA (K : PySem.W.Frag) : R2 := fun x y H Q => (rNotInD K x y H Q ∨ rIn K true x y H Q) ∨ (fun x y H Q => ∃ (c : Nat) (z : Str), x = .str ⟨#[c]⟩ ∧ y = .str z ∧ Q (.bl (!decide (c ∈ z.cps.toList))) H) x y H Q
theorem op_inA {X : Cx} (hu : X.A.units + 65 < cLine) : OpR X (compareOp .In) (rInA X.K) := ((op_inD hu).or op_in_seq).or op_in_sign
theorem op_notInA {X : Cx} (hu : X.A.units + 65 < cLine) : OpR X (compareOp .NotIn) (rNotInA X.K) := ((op_notInD hu).or op_notIn_seq).or op_notIn_sign
theorem str_one {w : Str} {c : Nat} (h : w.cps.toList = [c]) : w = ⟨#[c]⟩ := by
  obtain ⟨a⟩ := w
  have : a = #[c] := by
    have h' : a.toList = [c] := h
    rw [← Array.toArray_toList (xs := a), h']
  rw [this]
theorem in_core {x y : D} {b : Bool} {v u : V} {fx fy : Fp} (s : Ex Z H) (hx : Den K cl Z H x v fx) (hy : Den K cl Z H y u fy) (e : inD x y = some b) (R : Bool → Prop)
    (h1 : ∀ d ds, Dp K H v d → Dp K H u (.list ds) → SeqAt.shaped d = true → SeqAt.shaped (.list ds) = true → b = (ds.any fun z => PyData.eqv z d) → R b)
    (h2 : ∀ p xs, u = .ref p → SqT K H p xs → flatV v = true → xs.all flatV = true → b = inV v xs → R b)
    (h3 : ∀ (c : Nat) (z : Str), v = .str ⟨#[c]⟩ → u = .str z → b = decide (c ∈ z.cps.toList) → R b) : R b := by
  unfold inD at e
  split at e
  · rename_i o ys
    split at e
    · rename_i c
      obtain ⟨c1, c2⟩ := band c
      cases e
      have hy' : Dp K H u (.list (D.pys ys)) := by
        have hy2 := Den.dp s (.lst o ys) DEP u fy (by exact c2) hy
        simpa only [D.py] using hy2
      exact h1 x.py (D.pys ys) (Den.dp s x DEP v fx c1 hx) hy' (okd_shaped c1) (by have := okd_shaped c2; simpa only [D.py] using this) rfl
    · cases e
  · rename_i ys
    obtain ⟨w, ew, e⟩ := Option.bind_eq_some_iff.mp e
    obtain ⟨ws, ews, e⟩ := Option.map_eq_some_iff.mp e
    subst e
    obtain ⟨a, vs, rfl, qa, _, r⟩ := hy.tupH s
    obtain ⟨r1, r2⟩ := flatD_of ew hx
    obtain ⟨r3, r4⟩ := flats_of ews r
    subst r1 r3
    exact h2 a vs rfl qa r2 r4 rfl
  · rename_i z
    split at e
    · rename_i w
      split at e
      · rename_i c ec
        cases e
        rw [str_one ec] at hx
        exact h3 c z hx.1 hy.1 rfl
      · cases e
    · cases e
  · cases e
theorem op_inDD : Op2B K cl (rInA K) inD := by
  intro Z H x y b v u fx fy Q s hx hy e q
  refine in_core s hx hy e (fun _ => rInA K v u H Q) (fun d ds a1 a2 a3 a4 eb => ?_) (fun p xs a1 a2 a3 a4 eb => ?_) fun c z a1 a2 eb => ?_
  · subst eb; exact .inl (.inl ⟨d, ds, a1, a2, a3, a4, q⟩)
  · subst eb; exact .inl (.inr ⟨p, xs, a1, .inr a2, a3, a4, q⟩)
  · subst eb; exact .inr ⟨c, z, a1, a2, q⟩
theorem op_notInDD : Op2B K cl (rNotInA K) notInD := by
  intro Z H x y b v u fx fy Q s hx hy e q
  obtain ⟨b', e2, eb'⟩ := Option.map_eq_some_iff.mp e
  subst eb'
  refine in_core s hx hy e2 (fun _ => rNotInA K v u H Q) (fun d ds a1 a2 a3 a4 eb => ?_) (fun p xs a1 a2 a3 a4 eb => ?_) fun c z a1 a2 eb => ?_
  · subst eb; exact .inl (.inl ⟨d, ds, a1, a2, a3, a4, q⟩)
  · subst eb; exact .inl (.inr ⟨p, xs, a1, .inr a2, a3, a4, q⟩)
  · subst eb; exact .inr ⟨c, z, a1, a2, q⟩
end
section
variable {X : Cx} {W : WX} {a b e : Expr} {f g : Env → Ou D} {es : List Expr} {t : Env → Ou (List D)} {pos p : Pos} {x : Str}
theorem DE.callB {id : String} {r : List V → Hp → VK → Prop} {op : List D → Option D} (hc : CallR X (.builtin id) r) (hk : OpN X.K (He.ga X.K) r op) (hg : Gl X x) (hm : X.mg x = none) (hv : bootBuiltins x = some (.builtin id)) (ha : DAB X W (e :: es) t) (hn : x ≠ "__name__" := by decide) (hdb : (x == ("__debug__" : Str)) = false := by decide)
    (he : starEach (e :: es) X.env = (false, eval e X.env) :: starEach es X.env := by rfl) (hpl : (backTo pos (starEach es X.env)).any (·.1) = false := by rfl) : DE X W (.Call (.Name x p) (e :: es) [] pos) (dN op t) := by
  refine ⟨PE.weak (pe_callB hc hg hm hv ha.run hn hdb he hpl) fun σ H Q hq => ?_⟩
  obtain ⟨Z, ρ, r, q⟩ := hq
  refine tVs_bind (P := fun Z H o => PostO X.K (He.ga X.K) W Z H σ o Q) r (fun _ _ _ z => z) (fun z => z) q fun ds vs Z1 H1 fp ex g1 dn q => ?_
  have q := PostO.gr q g1
  match ec : op ds with
  | some d => rw [ec] at q; exact hk Z1 H1 ds d vs fp Q g1.s dn ec q
  | none => rw [ec] at q; exact q.elim
theorem DE.callTy {T : String} {r : List V → Hp → VK → Prop} {op : List D → Option D} (hc : CallR X (.type T) r) (hk : OpN X.K (He.ga X.K) r op) (hg : Gl X x) (hm : X.mg x = none) (hv : bootBuiltins x = some (.type T)) (ha : DAB X W (e :: es) t) (hn : x ≠ "__name__" := by decide) (hdb : (x == ("__debug__" : Str)) = false := by decide)
    (he : starEach (e :: es) X.env = (false, eval e X.env) :: starEach es X.env := by rfl) (hpl : (backTo pos (starEach es X.env)).any (·.1) = false := by rfl) : DE X W (.Call (.Name x p) (e :: es) [] pos) (dN op t) := by
  refine ⟨PE.weak (pe_callTy hc hg hm hv ha.run hn hdb he hpl) fun σ H Q hq => ?_⟩
  obtain ⟨Z, ρ, r, q⟩ := hq
  refine tVs_bind (P := fun Z H o => PostO X.K (He.ga X.K) W Z H σ o Q) r (fun _ _ _ z => z) (fun z => z) q fun ds vs Z1 H1 fp ex g1 dn q => ?_
  have q := PostO.gr q g1
  match ec : op ds with
  | some d => rw [ec] at q; exact hk Z1 H1 ds d vs fp Q g1.s dn ec q
  | none => rw [ec] at q; exact q.elim
theorem DB.ix (ha : DB X W a f) (hb : DB X W b g) (hs : PlainIx b := by exact fun _ _ => rfl) : DB X W (.Subscript a b pos) (d2 ixD f g) := by
  refine ⟨PE.weak (pe_ix ix_seq ha.run hb.run hs) fun σ H Q hq => ?_⟩
  obtain ⟨Z, ρ, r, q⟩ := hq
  refine tV_bind (P := fun Z H o => PostOB X.K (He.ga X.K) W Z H σ o Q) r (fun _ _ _ z => z) (fun z => z) q fun x v Z1 H1 fx ex g1 dx q => ?_
  refine tV_bind (P := fun Z H o => PostOB X.K (He.ga X.K) W Z H σ o Q) (r.gr g1) (fun _ _ _ z => z) (fun z => z) (q.gr g1) fun y u Z2 H2 fy ey g2 dy q => ?_
  have q := PostOB.gr q g2
  match e : ixD x y with
  | some d =>
    rw [e] at q
    exact op_ixD Z2 H2 x y d v u fx fy Q g2.s (g2.den dx) dy e q
  | none => rw [e] at q; exact q.elim
def pNone : Env → Ou (Option Int) := fun _ => .ok none
def pSome (f : Env → Ou D) : Env → Ou (Option Int) := fun ρ => f ρ >>= fun d => match d with
  | .int i => .ok (some i)
  | _ => .bad
def dSl (f : Env → Ou D) (lo hi : Env → Ou (Option Int)) : Env → Ou D := fun ρ => f ρ >>= fun d => lo ρ >>= fun l => hi ρ >>= fun h => ofO (slD d l h)
def PostP (K : PySem.W.Frag) (cl : Str → Addr) (W : WX) (Z H : Hp) (σ : L2.St) (o : Ou (Option Int)) (Q : Option Int → Hp → Prop) : Prop := match o with
  | .ok b => ∀ Z' H', Gr Z H Z' H' → Q b H'
  | .ex c ns xs => PostX K cl W Z H σ c ns xs
  | .bad => False
structure DO (X : Cx) (W : WX) (e : Option Expr) (f : Env → Ou (Option Int)) : Prop where
  run : PO X e (fun σ H Q => ∃ Z ρ, RelS X.K (He.ga X.K) Z H σ ρ ∧ PostP X.K (He.ga X.K) W Z H σ (f ρ) Q)
theorem PO.weak {e : Option Expr} {t t' : TO} (h : PO X e t) (k : ∀ σ H Q, t' σ H Q → t σ H Q) : PO X e t' := ⟨fun pins s σ H Q I q => h.run pins s σ H Q I (k σ H Q q)⟩
theorem DO.none : DO X W none pNone := ⟨PO.weak po_none fun σ H Q ⟨Z, ρ, r, q⟩ => q Z H (Gr.refl r.s)⟩
theorem DO.some (h : DB X W e f) : DO X W (some e) (pSome f) := by
  refine ⟨PO.weak (po_some h.run) fun σ H Q hq => ?_⟩
  obtain ⟨Z, ρ, r, q⟩ := hq
  refine tV_bind (P := fun Z H o => PostP X.K (He.ga X.K) W Z H σ o Q) r (fun _ _ _ z => z) (fun z => z) q fun x v Z1 H1 fx ex g1 dx q => ?_
  cases x with
  | int i => rw [dx.1]; exact ⟨i, rfl, q Z1 H1 g1⟩
  | _ => exact q.elim
theorem DE.slice {lo hi : Option Expr} {l h : Env → Ou (Option Int)} {p2 : Pos} (ha : DB X W a f) (hl : DO X W lo l) (hh : DO X W hi h) : DE X W (.Subscript a (.Slice lo hi Option.none p2) pos) (dSl f l h) := by
  refine ⟨PE.weak (pe_slice sl_any ha.run hl.run hh.run) fun σ H Q hq => ?_⟩
  obtain ⟨Z, ρ, r, q⟩ := hq
  refine tV_bind (P := fun Z H o => PostO X.K (He.ga X.K) W Z H σ o Q) r (fun _ _ _ z => z) (fun z => z) q fun x v Z1 H1 fx ex g1 dx q => ?_
  have q := PostO.gr q g1
  refine ⟨Z1, ρ, r.gr g1, ?_⟩
  match e1 : l ρ with
  | .ok i =>
    rw [e1] at q
    intro Z2 H2 g2
    have q := PostO.gr q g2
    refine ⟨Z2, ρ, (r.gr g1).gr g2, ?_⟩
    match e2 : h ρ with
    | .ok j =>
      rw [e2] at q
      intro Z3 H3 g3
      have q := PostO.gr q g3
      match e3 : slD x i j with
      | .some d =>
        have q : PostO X.K (He.ga X.K) W Z3 H3 σ (ofO (slD x i j)) Q := q
        rw [e3] at q
        exact op_slD g3.s (g3.den (g2.den dx)) e3 q
      | .none =>
        have q : PostO X.K (He.ga X.K) W Z3 H3 σ (ofO (slD x i j)) Q := q
        rw [e3] at q
        exact q.elim
    | .ex c ns xs => rw [e2] at q; exact q
    | .bad => rw [e2] at q; exact q.elim
  | .ex c ns xs => rw [e1] at q; exact q
  | .bad => rw [e1] at q; exact q.elim
def revD : D → Option D
  | .lst _ xs => if D.fzs xs then .some (.lst true xs.reverse) else .none
  | _ => .none
theorem DE.rev {k : Nat} {p1 p2 p3 : Pos} (ha : DB X W a f) : DE X W (.Subscript a (.Slice Option.none Option.none (.some (.UnaryOp .USub (.Constant (.int 1) k p1) p2)) p3) pos) (d1 revD f) := by
  refine ⟨PE.weak (pe_revL ha.run) fun σ H Q hq => ?_⟩
  obtain ⟨Z, ρ, r, q⟩ := hq
  refine tV_bind (P := fun Z H o => PostO X.K (He.ga X.K) W Z H σ o Q) r (fun _ _ _ z => z) (fun z => z) q fun x v Z1 H1 fx ex g1 dx q => ?_
  have q := PostO.gr q g1
  cases x with
  | lst o xs =>
    by_cases c : D.fzs xs = true
    · have e : revD (.lst o xs) = .some (.lst true xs.reverse) := if_pos c
      rw [e] at q
      obtain ⟨a, vs, f, rfl, qa, rr, _⟩ := dx.lstH g1.s
      exact ⟨a, vs, rfl, .inl (.inl qa), fun p hp => PostV.lst0 q g1.s (rr.fz0 c).reverse p hp⟩
    · have e : revD (.lst o xs) = Option.none := if_neg c
      rw [e] at q
      exact q.elim
  | _ => exact q.elim
end
end DL
namespace DL
open PySem PySem.Spec PyProof.Rows L2
variable [Tb]
inductive Os where
  | nx (ρ : Env)
  | rt (d : D)
  | bk (ρ : Env)
  | ct (ρ : Env)
  | ex (c : Str) (ns : List Str) (xs : List D) (ρ : Env)
  | bad
def ofU {α : Type} (o : Ou α) (ρ : Env) (k : α → Os) : Os := match o with
  | .ok a => k a
  | .ex c ns xs => .ex c ns xs ρ
  | .bad => .bad
@[simp] theorem ofU_ok {α : Type} (a : α) (ρ : Env) (k : α → Os) : ofU (.ok a) ρ k = k a := (rfl)
@[simp] theorem ofU_ex {α : Type} (c : Str) (ns : List Str) (xs : List D) (ρ : Env) (k : α → Os) : ofU (.ex c ns xs) ρ k = .ex c ns xs ρ := (rfl)
@[simp] theorem ofU_bad {α : Type} (ρ : Env) (k : α → Os) : ofU (.bad : Ou α) ρ k = .bad := (rfl)
def frzH (Z H : Hp) (fp : Fp) : Hp := fun a => if a ∈ fp then H a else Z a
def cutH (H : Hp) (fp : Fp) : Hp := fun a => if a ∈ fp then none else H a
section
variable (K : PySem.W.Frag) (cl : Str → Addr)
structure Sta (Z0 H0 Z H : Hp) (σ : L2.St) (ρ : Env) : Prop where
  g : Gr Z0 H0 Z H
  t : TabsK K Z
  e : ∃ fp, Slots K cl Z H ρ σ fp ∧ fp.Nodup ∧ ∀ a ∈ fp, H0 a = none
def PostS (W : WX) (Z0 H0 : Hp) (E : Ends) (r : Os) : Prop := match r with
  | .nx ρ => ∀ σ Z H, Sta K cl Z0 H0 Z H σ ρ → E.nx σ H
  | .rt d => ∀ v Z H fp, Gr Z0 H0 Z H → Den K cl Z H d v fp → fp.Nodup → (∀ a ∈ fp, H0 a = none) → E.rt v H
  | .bk ρ => ∀ σ Z H, Sta K cl Z0 H0 Z H σ ρ → E.bk σ H
  | .ct ρ => ∀ σ Z H, Sta K cl Z0 H0 Z H σ ρ → E.ct σ H
  | .ex c ns xs ρ => ∀ dc σ Z H, Sta K cl Z0 H0 Z H σ ρ → ExD K cl Z H ns xs dc → W (.ref (cl c)) dc σ H
  | .bad => False
def tS (W : WX) (Z0 H0 : Hp) (g : Env → Os) : TS := fun E σ H => ∃ Z ρ, Sta K cl Z0 H0 Z H σ ρ ∧ PostS K cl W Z0 H0 E (g ρ)
end
section
variable {K : PySem.W.Frag} {cl : Str → Addr} {Z H Z' H' Z0 H0 Z1 H1 : Hp} {σ : L2.St} {ρ : Env} {W : WX}
theorem Sta.rel (s : Sta K cl Z0 H0 Z H σ ρ) : RelS K cl Z H σ ρ := let ⟨fp, h, nd, _⟩ := s.e; ⟨s.g.s, s.t, fp, h, nd⟩
theorem Sta.gr (s : Sta K cl Z0 H0 Z H σ ρ) (g : Gr Z H Z' H') : Sta K cl Z0 H0 Z' H' σ ρ := by
  obtain ⟨fp, h, nd, fr⟩ := s.e
  exact ⟨s.g.trans g, s.t.ex g.z, fp, Slots.mono g.z (fun a ha => by
    obtain ⟨z, xs, q⟩ := Slots.own h a ha
    exact ⟨g.n a (by rw [q]; exact Option.some_ne_none _) z, by rw [q]; exact g.h.l q⟩) h, nd, fr⟩
theorem Sta.unbase (g : Gr Z0 H0 Z1 H1) (s : Sta K cl Z1 H1 Z H σ ρ) : Sta K cl Z0 H0 Z H σ ρ := by
  obtain ⟨fp, h, nd, fr⟩ := s.e
  exact ⟨g.trans s.g, s.t, fp, h, nd, fun a ha => g.h.back (fr a ha)⟩
theorem PostS.unbase {E : Ends} {r : Os} (g : Gr Z0 H0 Z1 H1) (q : PostS K cl W Z0 H0 E r) : PostS K cl W Z1 H1 E r := by
  cases r with
  | nx ρ => exact fun σ Z H s => q σ Z H (s.unbase g)
  | rt d => exact fun v Z H fp g1 h nd fr => q v Z H fp (g.trans g1) h nd fun a ha => g.h.back (fr a ha)
  | bk ρ => exact fun σ Z H s => q σ Z H (s.unbase g)
  | ct ρ => exact fun σ Z H s => q σ Z H (s.unbase g)
  | ex c ns xs ρ => exact fun dc σ Z H s h => q dc σ Z H (s.unbase g) h
  | bad => exact q
theorem Sta.rebase (s : Sta K cl Z0 H0 Z H σ ρ) : ∃ Hl, Gr Z0 H0 Z Hl ∧ Sta K cl Z Hl Z H σ ρ ∧ Ex Hl H ∧ (∀ a, Hl a = none → H a ≠ none → Z a = none) := by
  obtain ⟨fp, h, nd, fr⟩ := s.e
  have zo : ∀ a ∈ fp, Z a = none := fun a ha => (Slots.own h a ha).1
  have lo : ∀ a ∈ fp, ∃ xs : Mo, H a = some xs.o := fun a ha => (Slots.own h a ha).2
  have cut : ∀ {Y : Hp}, Ex Y H → (∀ a ∈ fp, Y a = none) → Ex Y (cutH H fp) := fun {Y} e k => e.chg fun a => by
    by_cases m : a ∈ fp
    · exact .inr ⟨k a m, lo a m⟩
    · exact .inl (if_neg m)
  have sub : Ex (cutH H fp) H := .sub fun a o e => by
    unfold cutH at e
    split at e
    · cases e
    · exact e
  refine ⟨cutH H fp, ⟨s.g.z, cut s.g.h fr, cut s.g.s zo, s.g.n⟩, ⟨⟨Ex.refl _, sub, s.g.s, fun _ _ z => z⟩, s.t, fp, h, nd, fun a ha => if_pos ha⟩, sub, fun a e1 e2 => ?_⟩
  unfold cutH at e1
  split at e1
  · rename_i hm; exact zo a hm
  · exact absurd e1 e2
theorem frzH_ex {fp : Fp} (own : ∀ a ∈ fp, Z a = none) : Ex Z (frzH Z H fp) := .sub fun a o e => by
  have na : a ∉ fp := fun hm => by rw [own a hm] at e; cases e
  exact (if_neg na).trans e
theorem frzH_to {fp : Fp} (s : Ex Z H) (lo : ∀ a ∈ fp, ∃ xs : Mo, H a = some xs.o) : Ex (frzH Z H fp) H := by
  have in_ : ∀ {a}, a ∈ fp → frzH Z H fp a = H a := fun m => if_pos m
  have out : ∀ {a}, a ∉ fp → frzH Z H fp a = Z a := fun m => if_neg m
  refine ⟨fun a o n e => ?_, fun a e => ?_, fun P q m h => s.tab P q m ?_⟩
  · by_cases m : a ∈ fp
    · rw [in_ m] at e; exact e
    · rw [out m] at e; exact s.at_ a o n e
  · by_cases m : a ∈ fp
    · rw [in_ m] at e; exact e
    · rw [out m] at e; exact s.ne a e
  · obtain ⟨ps, h1, h2, h3⟩ := h
    have nP : P ∉ fp := fun m => by
      obtain ⟨xs, z⟩ := lo P m
      rw [in_ m, z] at h1; exact Mo.nTbl h1.symm
    refine ⟨ps, by rw [out nP] at h1; exact h1, h2, fun pos cv hc => ?_⟩
    obtain ⟨c, e1, e2⟩ := h3 pos cv hc
    refine ⟨c, e1, ?_⟩
    have nc : c ∉ fp := fun m => by
      obtain ⟨xs, z⟩ := lo c m
      rw [in_ m, z] at e2; exact Mo.nCode' e2.symm
    rw [out nc] at e2; exact e2
theorem Gr.frz (g : Gr Z H Z' H') {fp : Fp} (own : ∀ a ∈ fp, Z' a = none) (fr : ∀ a ∈ fp, H a = none) (lo : ∀ a ∈ fp, ∃ xs : Mo, H' a = some xs.o) : Gr Z H (frzH Z' H' fp) H' := by
  refine ⟨g.z.trans (frzH_ex own), g.h, frzH_to g.s lo, fun a h1 h2 => ?_⟩
  have na : a ∉ fp := fun hm => h1 (fr a hm)
  exact (if_neg na).trans (g.n a h1 h2)
theorem Slots.split : ∀ {ρ : Env} {σ : L2.St} {fp : Fp} {i : Nat} {d : D}, Slots K cl Z H ρ σ fp → ρ[i]? = some (some d) →
    ∃ (v : V) (f rest : Fp), σ[i]? = some (some v) ∧ Den K cl Z H d v f ∧ fp.Perm (f ++ rest) ∧
      ∀ (Y H' : Hp) (d' : D) (f' : Fp), Ex Z Y → (∀ a ∈ rest, Y a = none ∧ H' a = H a) → Den K cl Y H' d' v f' → ∃ fp', Slots K cl Y H' (ρ.set i (some d')) σ fp' ∧ fp'.Perm (f' ++ rest)
  | [], _, _, _, _, _, e => by simp at e
  | none :: ρ, σ, fp, 0, d, h, e => by simp at e
  | none :: ρ, σ, fp, i + 1, d, h, e => by
    obtain ⟨o, σ', e1, r⟩ := h
    subst e1
    obtain ⟨v, f, rest, h1, h2, h3, h4⟩ := Slots.split (i := i) r (by simpa using e)
    refine ⟨v, f, rest, by simpa using h1, h2, h3, fun Y H' d' f' ey k q => ?_⟩
    obtain ⟨fp', a1, a2⟩ := h4 Y H' d' f' ey k q
    exact ⟨fp', ⟨o, σ', rfl, a1⟩, a2⟩
  | some x :: ρ, σ, fp, 0, d, h, e => by
    obtain ⟨v, σ', f1, f2, e1, e2, q, r⟩ := h
    have e' : x = d := by simpa using e
    subst e' e1 e2
    exact ⟨v, f1, f2, rfl, q, List.Perm.refl _, fun Y H' d' f' ey k q' => ⟨f' ++ f2, ⟨v, σ', f', f2, rfl, rfl, q', Slots.mono ey k r⟩, List.Perm.refl _⟩⟩
  | some x :: ρ, σ, fp, i + 1, d, h, e => by
    obtain ⟨v, σ', f1, f2, e1, e2, q, r⟩ := h
    subst e1 e2
    obtain ⟨u, f, rest, h1, h2, h3, h4⟩ := Slots.split (i := i) r (by simpa using e)
    have pp : ∀ (f' f2' : Fp), f2'.Perm (f' ++ rest) → (f1 ++ f2').Perm (f' ++ (f1 ++ rest)) := fun f' f2' p => by
      refine (List.Perm.append_left f1 p).trans ?_
      rw [← List.append_assoc, ← List.append_assoc]
      exact List.Perm.append_right rest List.perm_append_comm
    refine ⟨u, f, f1 ++ rest, by simpa using h1, h2, pp f f2 h3, fun Y H' d' f' ey k q' => ?_⟩
    obtain ⟨fp', a1, a2⟩ := h4 Y H' d' f' ey (fun a ha => k a (List.mem_append_right _ ha)) q'
    exact ⟨f1 ++ fp', ⟨v, σ', f1, fp', rfl, rfl, Den.mono ey x v f1 (fun a ha => k a (List.mem_append_left _ ha)) q, a1⟩, pp f' fp' a2⟩
theorem Dens.split : ∀ {ds : List D} {vs : List V} {fp : Fp} {i : Nat} {d : D}, Dens K cl Z H ds vs fp → ds[i]? = some d →
    ∃ (v : V) (f rest : Fp), vs[i]? = some v ∧ Den K cl Z H d v f ∧ fp.Perm (f ++ rest) ∧
      ∀ (Y H' : Hp) (d' : D) (v' : V) (f' : Fp), Ex Z Y → (∀ a ∈ rest, Y a = none ∧ H' a = H a) → Den K cl Y H' d' v' f' → ∃ fp', Dens K cl Y H' (ds.set i d') (vs.set i v') fp' ∧ fp'.Perm (f' ++ rest)
  | [], _, _, _, _, _, e => by simp at e
  | x :: ds, vs, fp, 0, d, h, e => by
    obtain ⟨v, vr, f1, f2, e1, e2, q, r⟩ := h.cons'
    have e' : x = d := by simpa using e
    subst e' e1 e2
    exact ⟨v, f1, f2, rfl, q, List.Perm.refl _, fun Y H' d' v' f' ey k q' => ⟨f' ++ f2, Dens.cons q' (Dens.mono ey ds vr f2 k r), List.Perm.refl _⟩⟩
  | x :: ds, vs, fp, i + 1, d, h, e => by
    obtain ⟨v, vr, f1, f2, e1, e2, q, r⟩ := h.cons'
    subst e1 e2
    obtain ⟨u, f, rest, h1, h2, h3, h4⟩ := Dens.split (i := i) r (by simpa using e)
    have pp : ∀ (f' f2' : Fp), f2'.Perm (f' ++ rest) → (f1 ++ f2').Perm (f' ++ (f1 ++ rest)) := fun f' f2' p => by
      refine (List.Perm.append_left f1 p).trans ?_
      rw [← List.append_assoc, ← List.append_assoc]
      exact List.Perm.append_right rest List.perm_append_comm
    refine ⟨u, f, f1 ++ rest, by simpa using h1, h2, pp f f2 h3, fun Y H' d' v' f' ey k q' => ?_⟩
    obtain ⟨fp', a1, a2⟩ := h4 Y H' d' v' f' ey (fun a ha => k a (List.mem_append_right _ ha)) q'
    exact ⟨f1 ++ fp', Dens.cons (Den.mono ey x v f1 (fun a ha => k a (List.mem_append_left _ ha)) q) a1, pp f' fp' a2⟩
theorem Sta.write {i : Nat} {d d' : D} {a : Addr} {o : HO} {rest : Fp} {v : V} {f f' fp : Fp} (s : Gr Z0 H0 Z H) (tk : TabsK K Z) (h : Slots K cl Z H ρ σ fp) (nd : fp.Nodup) (fr : ∀ b ∈ fp, H0 b = none)
    (pm : fp.Perm (f ++ rest)) (ha : a ∈ f) (nf : f'.Nodup) (h0 : ∀ b ∈ f', H0 b = none) (hr : ∀ b ∈ f', b ∉ rest)
    (k : (∀ b ∈ rest, Z b = none ∧ upd H a o b = H b) → ∃ fp', Slots K cl Z (upd H a o) (ρ.set i (some d')) σ fp' ∧ fp'.Perm (f' ++ rest)) : Sta K cl Z0 H0 Z (upd H a o) σ (ρ.set i (some d')) := by
  have af : a ∈ fp := pm.symm.mem_iff.mp (List.mem_append_left _ ha)
  have za : Z a = none := (Slots.own h a af).1
  have nd2 : (f ++ rest).Nodup := pm.nodup_iff.mp nd
  obtain ⟨fp', k1, k2⟩ := k fun b hb => ⟨(Slots.own h b (pm.symm.mem_iff.mp (List.mem_append_right _ hb))).1, upd_ne fun c => (List.nodup_append.mp nd2).2.2 a ha b hb c.symm⟩
  have la := (Slots.own h a af).2
  refine ⟨⟨s.z, s.h.mut (fr a af) la, s.s.mut za la, s.n⟩, tk, fp', k1, ?_, fun b hb => ?_⟩
  · refine k2.symm.nodup_iff.mp ?_
    rw [List.nodup_append]
    exact ⟨nf, (List.nodup_append.mp nd2).2.1, fun x hx y hy e => hr x hx (e ▸ hy)⟩
  · rcases List.mem_append.mp (k2.mem_iff.mp hb) with z | z
    · exact h0 b z
    · exact fr b (pm.symm.mem_iff.mp (List.mem_append_right _ z))
end
structure DS (X : Cx) (W : WX) (st : Stmt) (g : Env → Os) : Prop where
  run : ∀ Z0 H0, PS X st (tS X.K (He.ga X.K) W Z0 H0 g)
structure DSs (X : Cx) (W : WX) (st : List Stmt) (g : Env → Os) : Prop where
  run : ∀ Z0 H0, PSs X st (tS X.K (He.ga X.K) W Z0 H0 g)
theorem PS.weak {X : Cx} {st : Stmt} {t t' : TS} (h : PS X st t) (k : ∀ E σ H, t' E σ H → t E σ H) : PS X st t' := ⟨fun pins s σ H E I q => h.run pins s σ H E I (k E σ H q)⟩
theorem PSs.weak {X : Cx} {st : List Stmt} {t t' : TS} (h : PSs X st t) (k : ∀ E σ H, t' E σ H → t E σ H) : PSs X st t' := ⟨fun pins s σ H E I q => h.run pins s σ H E I (k E σ H q)⟩
def sNil : Env → Os := fun ρ => .nx ρ
def andThen (r : Os) (h : Env → Os) : Os := match r with
  | .nx ρ => h ρ
  | .rt d => .rt d
  | .bk ρ => .bk ρ
  | .ct ρ => .ct ρ
  | .ex c ns xs ρ => .ex c ns xs ρ
  | .bad => .bad
@[simp] theorem andThen_nx (ρ : Env) (h : Env → Os) : andThen (.nx ρ) h = h ρ := (rfl)
@[simp] theorem andThen_rt (d : D) (h : Env → Os) : andThen (.rt d) h = .rt d := (rfl)
@[simp] theorem andThen_bk (ρ : Env) (h : Env → Os) : andThen (.bk ρ) h = .bk ρ := (rfl)
@[simp] theorem andThen_ct (ρ : Env) (h : Env → Os) : andThen (.ct ρ) h = .ct ρ := (rfl)
@[simp] theorem andThen_ex (c : Str) (ns : List Str) (xs : List D) (ρ : Env) (h : Env → Os) : andThen (.ex c ns xs ρ) h = .ex c ns xs ρ := (rfl)
@[simp] theorem andThen_bad (h : Env → Os) : andThen .bad h = .bad := (rfl)
def sSeq (g h : Env → Os) : Env → Os := fun ρ => andThen (g ρ) h
def sDrop (f : Env → Ou D) : Env → Os := fun ρ => ofU (f ρ) ρ fun _ => .nx ρ
def sRet (f : Env → Ou D) : Env → Os := fun ρ => ofU (f ρ) ρ fun d => .rt d
def sRetV (i : Nat) : Env → Os := fun ρ => match ρ[i]? with
  | some (some d) => .rt d
  | _ => .bad
def sIf (c : Env → Ou Bool) (g h : Env → Os) : Env → Os := fun ρ => ofU (c ρ) ρ fun b => if b then g ρ else h ρ
def sSet (i : Nat) (f : Env → Ou D) : Env → Os := fun ρ => ofU (f ρ) ρ fun d => if i < ρ.length then .nx (ρ.set i (some d)) else .bad
def sFrz (i : Nat) (g : Env → Os) : Env → Os := fun ρ => match ρ[i]? with
  | some (some d) => g (ρ.set i (some d.frz))
  | _ => g ρ
def sAug (i : Nat) (op : D → D → Option D) (f : Env → Ou D) : Env → Os := fun ρ => match ρ[i]? with
  | some (some x) => ofU (f ρ) ρ fun y => match op x y with
    | some d => .nx (ρ.set i (some d))
    | none => .bad
  | _ => .bad
def sBrk : Env → Os := fun ρ => .bk ρ
def sCont : Env → Os := fun ρ => .ct ρ
def sApp (i : Nat) (f : Env → Ou D) : Env → Os := fun ρ => match ρ[i]? with
  | some (some (.lst true xs)) => ofU (f ρ) ρ fun d => if xs.length < LIM then .nx (ρ.set i (some (.lst true (xs ++ [d])))) else .bad
  | _ => .bad
section
variable {X : Cx} {W : WX} {st : Stmt} {rest : List Stmt} {a b e c : Expr} {f : Env → Ou D} {g h : Env → Os} {p : Env → Ou Bool} {pos : Pos}
theorem DSs.nil : DSs X W [] sNil := ⟨fun Z0 H0 => PSs.weak pss_nil fun E σ H ⟨Z, ρ, s, q⟩ => q σ Z H s⟩
theorem DSs.cons (h1 : DS X W st g) (h2 : DSs X W rest h) : DSs X W (st :: rest) (sSeq g h) := by
  refine ⟨fun Z0 H0 => PSs.weak (pss_cons (h1.run Z0 H0) (h2.run Z0 H0)) fun E σ H hq => ?_⟩
  obtain ⟨Z, ρ, s, q⟩ := hq
  refine ⟨Z, ρ, s, ?_⟩
  unfold sSeq at q
  cases e : g ρ with
  | nx ρ' =>
    rw [e] at q
    exact fun σ' Z' H' s' => ⟨Z', ρ', s', q⟩
  | rt d => rw [e] at q; exact q
  | bk ρ' => rw [e] at q; exact q
  | ct ρ' => rw [e] at q; exact q
  | ex c ns xs ρ' => rw [e] at q; exact q
  | bad => rw [e] at q; exact q
theorem DSs.one (h1 : DS X W st g) : DSs X W [st] g := ⟨fun Z0 H0 => pss_one (h1.run Z0 H0)⟩
theorem DS.brk : DS X W (.Break pos) sBrk := ⟨fun Z0 H0 => PS.weak ps_break fun E σ H ⟨Z, ρ, s, q⟩ => q σ Z H s⟩
theorem DS.cont : DS X W (.Continue pos) sCont := ⟨fun Z0 H0 => PS.weak ps_continue fun E σ H ⟨Z, ρ, s, q⟩ => q σ Z H s⟩
theorem DS.drop (he : DB X W e f) (hs : swapsWith e none pos.line X.env = pure false := by rfl) : DS X W (.Expr e pos) (sDrop f) := by
  refine ⟨fun Z0 H0 => PS.weak (ps_expr he.run hs) fun E σ H hq => ?_⟩
  obtain ⟨Z, ρ, s, q⟩ := hq
  refine ⟨Z, ρ, s.rel, ?_⟩
  unfold sDrop at q
  cases ec : f ρ with
  | ok d => rw [ec] at q; exact fun v Z' H' fp g1 dn => q σ Z' H' (s.gr g1)
  | ex c ns xs => rw [ec] at q; exact fun dc Z' H' g1 x => q dc σ Z' H' (s.gr g1) x
  | bad => rw [ec] at q; exact q
theorem DS.ret (he : DE X W e f) : DS X W (.Return (some e) pos) (sRet f) := by
  refine ⟨fun Z0 H0 => PS.weak (ps_ret he.run) fun E σ H hq => ?_⟩
  obtain ⟨Z, ρ, s, q⟩ := hq
  refine ⟨Z, ρ, s.rel, ?_⟩
  unfold sRet at q
  cases ec : f ρ with
  | ok d => rw [ec] at q; exact fun v Z' H' fp g1 dn nd fr => q v Z' H' fp (s.g.trans g1) dn nd fun a ha => s.g.h.back (fr a ha)
  | ex c ns xs => rw [ec] at q; exact fun dc Z' H' g1 x => q dc σ Z' H' (s.gr g1) x
  | bad => rw [ec] at q; exact q
theorem DS.retV (i : Nat) {x : Str} {p : Pos} (hN : X.N[i]? = some x := by rfl) (hv : Vis X.env.scope x := by first | exact Or.inl rfl | exact Or.inr (Or.inl rfl) | exact Or.inr (Or.inr rfl)) (hd : (x == ("__debug__" : Str)) = false := by decide)
    (hcd : (x == ("__classdict__" : Str)) = false := by decide) : DS X W (.Return (some (.Name x p)) pos) (sRetV i) := by
  refine ⟨fun Z0 H0 => PS.weak (ps_ret (pv i hN hv hd hcd)) fun E σ H hq => ?_⟩
  obtain ⟨Z, ρ, s, q⟩ := hq
  obtain ⟨fp, sl, nd, fr⟩ := s.e
  unfold sRetV at q
  match e : ρ[i]? with
  | some (some d) =>
    rw [e] at q
    obtain ⟨v, f, h1, h2, h3⟩ := Slots.get sl e
    exact ⟨v, h1, q v Z H f s.g h2 (h3.nodup nd) fun a ha => fr a (h3.subset ha)⟩
  | some none => rw [e] at q; exact q.elim
  | none => rw [e] at q; exact q.elim
theorem DS.if_ (hc : DT X W c p) (ha : DSs X W rest g) {els : List Stmt} (hb : DSs X W els h) : DS X W (.If c rest els pos) (sIf p g h) := by
  refine ⟨fun Z0 H0 => PS.weak (ps_if hc.run (ha.run Z0 H0) (hb.run Z0 H0)) fun E σ H hq => ?_⟩
  obtain ⟨Z, ρ, s, q⟩ := hq
  refine ⟨Z, ρ, s.rel, ?_⟩
  unfold sIf at q
  cases ec : p ρ with
  | ok d =>
    rw [ec] at q
    intro Z' H' g1
    cases d with
    | true => exact ⟨Z', ρ, s.gr g1, q⟩
    | false => exact ⟨Z', ρ, s.gr g1, q⟩
  | ex c ns xs => rw [ec] at q; exact fun dc Z' H' g1 x => q dc σ Z' H' (s.gr g1) x
  | bad => rw [ec] at q; exact q
theorem Sta.set {K : PySem.W.Frag} {cl : Str → Addr} {Z0 H0 Z H Z' H' : Hp} {σ : L2.St} {ρ : Env} {d : D} {v : V} {fp : Fp} {i : Nat} (s : Sta K cl Z0 H0 Z H σ ρ) (g1 : Gr Z H Z' H') (dn : Den K cl Z' H' d v fp) (nd : fp.Nodup) (fr : ∀ a ∈ fp, H a = none) (hi : i < ρ.length) :
    Sta K cl Z0 H0 Z' H' (σ.set i (some v)) (ρ.set i (some d)) := by
  have s1 := s.gr g1
  obtain ⟨fq, sl, n0, f0⟩ := s1.e
  obtain ⟨fp0, sl0, _, _⟩ := s.e
  obtain ⟨fq1, sl1, n1, f1⟩ := s.e
  have dj : ∀ a ∈ fp, a ∉ fq1 := fun a ha hb => by
    obtain ⟨_, xs, e⟩ := Slots.own sl1 a hb
    rw [fr a ha] at e; cases e
  have sl2 : Slots K cl Z' H' ρ σ fq1 := Slots.mono g1.z (fun a ha => by
    obtain ⟨z, xs, q⟩ := Slots.own sl1 a ha
    exact ⟨g1.n a (by rw [q]; exact Option.some_ne_none _) z, by rw [q]; exact g1.h.l q⟩) sl1
  obtain ⟨fp', a1, a2, a3⟩ := Slots.set (i := i) sl2 n1 dn nd dj hi
  refine ⟨s1.g, s1.t, fp', a1, a2, fun a ha => ?_⟩
  rcases a3 a ha with z | z
  · exact f1 a z
  · exact s.g.h.back (fr a z)
theorem DS.set (i : Nat) {x : Str} {pos' : Pos} (he : DE X W e f) (hN : X.N.Nodup) (hi : X.N[i]? = some x := by rfl) (hx : Loc X.env.scope x := by first | exact Or.inl rfl | exact Or.inr rfl) (hs : swapsWith e (some (.Name x pos')) pos.line X.env = pure false := by rfl)
    (hf : X.fn x = true ∨ X.env.scope.names.lookup x = some .local := by first | exact .inl rfl | exact .inr rfl | assumption) : DS X W (.Assign [.Name x pos'] e pos) (sSet i f) := by
  refine ⟨fun Z0 H0 => PS.weak (ps_set (i := i) hN hi hx he.run hs hf) fun E σ H hq => ?_⟩
  obtain ⟨Z, ρ, s, q⟩ := hq
  refine ⟨Z, ρ, s.rel, ?_⟩
  unfold sSet at q
  cases ec : f ρ with
  | ok d =>
    rw [ec] at q
    intro v Z' H' fp g1 dn nd fr
    have q : PostS X.K (He.ga X.K) W Z0 H0 E (if i < ρ.length then .nx (ρ.set i (some d)) else .bad) := q
    by_cases c : i < ρ.length
    · rw [if_pos c] at q
      exact q _ Z' H' (s.set g1 dn nd fr c)
    · rw [if_neg c] at q; exact q.elim
  | ex c ns xs => rw [ec] at q; exact fun dc Z' H' g1 x => q dc σ Z' H' (s.gr g1) x
  | bad => rw [ec] at q; exact q
theorem Sta.frz {K : PySem.W.Frag} {cl : Str → Addr} {Z0 H0 Z H : Hp} {σ : L2.St} {ρ : Env} {d : D} {i : Nat} (s : Sta K cl Z0 H0 Z H σ ρ) (e : ρ[i]? = some (some d)) : ∃ Z', Sta K cl Z0 H0 Z' H σ (ρ.set i (some d.frz)) := by
  obtain ⟨fp, sl, nd, fr⟩ := s.e
  obtain ⟨v, f, rest, h1, h2, h3, h4⟩ := sl.split e
  have hm : ∀ a ∈ f, a ∈ fp := fun a ha => h3.symm.mem_iff.mp (List.mem_append_left _ ha)
  have zo : ∀ a ∈ f, Z a = none := fun a ha => (Slots.own sl a (hm a ha)).1
  have nd2 : (f ++ rest).Nodup := h3.nodup_iff.mp nd
  have ez : Ex Z (frzH Z H f) := frzH_ex zo
  have es : Ex (frzH Z H f) H := frzH_to s.g.s fun a ha => (Slots.own sl a (hm a ha)).2
  obtain ⟨fp', k1, k2⟩ := h4 (frzH Z H f) H d.frz [] ez (fun a ha => ⟨by
    have na : a ∉ f := fun hb => (List.nodup_append.mp nd2).2.2 a hb a ha rfl
    exact (if_neg na).trans (Slots.own sl a (h3.symm.mem_iff.mp (List.mem_append_right _ ha))).1, rfl⟩) (Den.freeze ez d v f (fun a ha => if_pos ha) h2)
  refine ⟨frzH Z H f, ?_, s.t.ex ez, fp', k1, ?_, fun a ha => ?_⟩
  · refine ⟨s.g.z.trans ez, s.g.h, es, fun a h1 h2 => ?_⟩
    have na : a ∉ f := fun hb => h1 (fr a (hm a hb))
    exact (if_neg na).trans (s.g.n a h1 h2)
  · refine k2.symm.nodup_iff.mp ?_
    exact (List.nodup_append.mp nd2).2.1
  · have := k2.mem_iff.mp ha
    exact fr a (h3.symm.mem_iff.mp (List.mem_append_right _ (by simpa using this)))
end
end DL
namespace DL
open PySem PySem.Spec PyProof.Rows L2
variable [Tb]
section
variable {K : PySem.W.Frag} {cl : Str → Addr} {Z H Z' H' Z0 H0 Z1 H1 : Hp} {σ : L2.St} {ρ : Env} {W : WX}
theorem Gr.own (g : Gr Z H Z1 H1) {b : Addr} (z : Z b = none) (q : ∃ xs : Mo, H b = some xs.o) : Z1 b = none ∧ H1 b = H b := by
  obtain ⟨xs, q⟩ := q
  exact ⟨g.n b (by rw [q]; exact Option.some_ne_none _) z, by rw [q]; exact g.h.l q⟩
theorem Sta.list {i : Nat} {xs : List D} (s : Sta K cl Z0 H0 Z H σ ρ) (e : ρ[i]? = some (some (.lst true xs))) :
    ∃ (a : Addr) (vs : List V) (fq rest : Fp), σ[i]? = some (some (.ref a)) ∧ H a = some (.lst vs) ∧ Dens K cl Z H xs vs fq ∧ (a :: (fq ++ rest)).Nodup ∧ (∀ b ∈ a :: (fq ++ rest), H b ≠ none ∧ H0 b = none ∧ Z b = none) ∧
      ∀ (Z1 H1 : Hp) (vs' : List V) (ds' : List D) (fq' : Fp), Gr Z H Z1 H1 → fq'.Nodup → (∀ b ∈ fq', b ≠ a ∧ b ∉ rest ∧ H0 b = none) → Dens K cl Z1 (upd H1 a (.lst vs')) ds' vs' fq' → Sta K cl Z0 H0 Z1 (upd H1 a (.lst vs')) σ (ρ.set i (some (.lst true ds'))) := by
  obtain ⟨fp, sl, nd, fr⟩ := s.e
  obtain ⟨v, f, rest, h1, h2, h3, h4⟩ := sl.split e
  simp only [Den] at h2
  obtain ⟨a, vs, fq, e1, e2, za, q, r⟩ := h2
  subst e1 e2
  have nd2 : (a :: (fq ++ rest)).Nodup := h3.nodup_iff.mp nd
  have mm : ∀ b ∈ a :: (fq ++ rest), b ∈ fp := fun b hb => h3.symm.mem_iff.mp hb
  have ow : ∀ b ∈ a :: (fq ++ rest), Z b = none ∧ ∃ xs : Mo, H b = some xs.o := fun b hb => Slots.own sl b (mm b hb)
  refine ⟨a, vs, fq, rest, h1, q, r, nd2, fun b hb => ?_, fun Z1 H1 vs' ds' fq' g nf dj dn => ?_⟩
  · obtain ⟨z, xs, q'⟩ := ow b hb
    exact ⟨by rw [q']; exact Option.some_ne_none _, fr b (mm b hb), z⟩
  · have a1 := g.own za ⟨.l vs, q⟩
    have s1 := s.gr g
    have na : ∀ b ∈ rest, b ≠ a := fun b hb c => by
      have := List.nodup_cons.mp nd2
      exact this.1 (c ▸ List.mem_append_right _ hb)
    have hr : ∀ b ∈ rest, Z1 b = none ∧ upd H1 a (.lst vs') b = H b := fun b hb => by
      obtain ⟨z, q'⟩ := ow b (List.mem_cons_of_mem _ (List.mem_append_right _ hb))
      obtain ⟨b1, b2⟩ := g.own z q'
      exact ⟨b1, by rw [upd_ne (na b hb)]; exact b2⟩
    obtain ⟨fp', k1, k2⟩ := h4 Z1 (upd H1 a (.lst vs')) (.lst true ds') (a :: fq') g.z hr (by
      simp only [Den]
      exact ⟨a, vs', fq', rfl, rfl, a1.1, upd_same, dn⟩)
    have la : ∃ xs : Mo, H1 a = some xs.o := ⟨.l vs, g.h.l q⟩
    refine ⟨⟨s1.g.z, s1.g.h.mut (fr a (mm a List.mem_cons_self)) la, s1.g.s.mut a1.1 la, s1.g.n⟩, s1.t, fp', k1, ?_, fun b hb => ?_⟩
    · refine k2.symm.nodup_iff.mp ?_
      have n3 := List.nodup_cons.mp nd2
      show (a :: (fq' ++ rest)).Nodup
      rw [List.nodup_cons, List.nodup_append]
      refine ⟨fun hm => ?_, nf, (List.nodup_append.mp n3.2).2.1, fun x hx y hy c => (dj x hx).2.1 (c ▸ hy)⟩
      rcases List.mem_append.mp hm with z | z
      · exact (dj a z).1 rfl
      · exact n3.1 (List.mem_append_right _ z)
    · have hb' : b ∈ a :: (fq' ++ rest) := k2.mem_iff.mp hb
      rcases List.mem_cons.mp hb' with z | z
      · subst z; exact fr b (mm b List.mem_cons_self)
      · rcases List.mem_append.mp z with z | z
        · exact (dj b z).2.2
        · exact fr b (mm b (List.mem_cons_of_mem _ (List.mem_append_right _ z)))
theorem Dens.upd {ds : List D} {vs : List V} {fp : Fp} {a : Addr} {o : HO} (h : Dens K cl Z H ds vs fp) (na : a ∉ fp) : Dens K cl Z (L2.upd H a o) ds vs fp :=
  Dens.mono (Ex.refl _) ds vs fp (fun b hb => ⟨(Dens.own ds vs fp h b hb).1, upd_ne fun c => na (c ▸ hb)⟩) h
theorem Den.upd {d : D} {v : V} {fp : Fp} {a : Addr} {o : HO} (h : Den K cl Z H d v fp) (na : a ∉ fp) : Den K cl Z (L2.upd H a o) d v fp :=
  Den.mono (Ex.refl _) d v fp (fun b hb => ⟨(Den.own d v fp h b hb).1, upd_ne fun c => na (c ▸ hb)⟩) h
end
def sAppAt (i : Nat) (g f : Env → Ou D) : Env → Os := fun ρ => match ρ[i]? with
  | some (some (.lst true xs)) => ofU (g ρ) ρ fun k => match k with
    | .int k => match ixN xs.length k with
      | some j => match xs[j]? with
        | some (.lst true ys) => ofU (f ρ) ρ fun d => if ys.length < LIM then .nx (ρ.set i (some (.lst true (xs.set j (.lst true (ys ++ [d])))))) else .bad
        | _ => .bad
      | none => .bad
    | _ => .bad
  | _ => .bad
def sSetAt (i : Nat) (g f : Env → Ou D) : Env → Os := fun ρ => ofU (f ρ) ρ fun d => match ρ[i]? with
  | some (some (.lst true xs)) => ofU (g ρ) ρ fun k => match k with
    | .int k => match ixN xs.length k with
      | some j => .nx (ρ.set i (some (.lst true (xs.set j d))))
      | none => .bad
    | _ => .bad
  | _ => .bad
def sExt (i : Nat) (f : Env → Ou D) : Env → Os := fun ρ => match ρ[i]? with
  | some (some (.lst true xs)) => ofU (f ρ) ρ fun d => match d with
    | .lst _ ys => if D.fzs ys && decide (xs.length + ys.length ≤ LIM) then .nx (ρ.set i (some (.lst true (xs ++ ys)))) else .bad
    | _ => .bad
  | _ => .bad
section
variable {X : Cx} {W : WX} {st : Stmt} {rest : List Stmt} {a b e c : Expr} {f g : Env → Ou D} {k h : Env → Os} {p : Env → Ou Bool} {pos : Pos}
theorem DSs.frz (i : Nat) (h : DSs X W rest k) : DSs X W rest (sFrz i k) := by
  refine ⟨fun Z0 H0 => PSs.weak (h.run Z0 H0) fun E σ H hq => ?_⟩
  obtain ⟨Z, ρ, s, q⟩ := hq
  unfold sFrz at q
  split at q
  · rename_i d ec
    obtain ⟨Z', s'⟩ := s.frz ec
    exact ⟨Z', _, s', q⟩
  · exact ⟨Z, ρ, s, q⟩
theorem DS.aug (i : Nat) {x : Str} {op : Operator} {pos' : Pos} {r : R2} {o : D → D → Option D} (ho : OpR X (inplaceOp op) r) (hk : Op2 X.K (He.ga X.K) r o) (he : DB X W e f) (hN : X.N.Nodup) (hi : X.N[i]? = some x := by rfl) (hx : Loc X.env.scope x := by first | exact Or.inl rfl | exact Or.inr rfl)
    (hf : X.fn x = true ∨ X.env.scope.names.lookup x = some .local := by first | exact .inl rfl | exact .inr rfl | assumption) : DS X W (.AugAssign (.Name x pos') op e pos) (sAug i o f) := by
  refine ⟨fun Z0 H0 => PS.weak (ps_aug (i := i) (ti := r) hN hi hx he.run (fun pins s σ H x y v u Q I r1 r2 h => ho pins s σ H x y v u Q I r1 r2 h) hf) fun E σ H hq => ?_⟩
  obtain ⟨Z, ρ, s, q⟩ := hq
  unfold sAug at q
  split at q
  · rename_i x0 ec
    obtain ⟨fp, sl, nd, fr⟩ := s.e
    obtain ⟨v, fx, h1, h2, h3⟩ := Slots.get sl ec
    refine ⟨v, h1, Z, ρ, s.rel, ?_⟩
    cases ef : f ρ with
    | ok y =>
      rw [ef] at q
      intro u Z1 H1 fy g1 dy
      have q : PostS X.K (He.ga X.K) W Z0 H0 E (match o x0 y with
        | some d => .nx (ρ.set i (some d))
        | none => .bad) := q
      cases eo : o x0 y with
      | some d =>
        rw [eo] at q
        refine hk Z1 H1 x0 y d v u fx fy _ g1.s (g1.den h2) dy eo fun w Z2 H2 fw g2 dw nw fw' => ?_
        have hi : i < ρ.length := by
          rcases Nat.lt_or_ge i ρ.length with c | c
          · exact c
          · rw [List.getElem?_eq_none c] at ec; cases ec
        exact q _ Z2 H2 ((s.gr g1).set g2 dw nw fw' hi)
      | none => rw [eo] at q; exact q.elim
    | ex c ns xs => rw [ef] at q; exact fun dc Z' H' g1 x => q dc σ Z' H' (s.gr g1) x
    | bad => rw [ef] at q; exact q
  · exact q.elim
theorem DS.ext (i : Nat) {x : Str} {pos' : Pos} (he : DB X W e f) (hN : X.N.Nodup) (hi : X.N[i]? = some x := by rfl) (hx : Loc X.env.scope x := by first | exact Or.inl rfl | exact Or.inr rfl)
    (hf : X.fn x = true ∨ X.env.scope.names.lookup x = some .local := by first | exact .inl rfl | exact .inr rfl | assumption) : DS X W (.AugAssign (.Name x pos') .Add e pos) (sExt i f) := by
  refine ⟨fun Z0 H0 => PS.weak (ps_aug (i := i) (ti := rExt2) hN hi hx he.run (fun pins s σ H x y v u Q I r1 r2 h => iop_ext pins s σ H x y v u Q I r1 r2 h) hf) fun E σ H hq => ?_⟩
  obtain ⟨Z, ρ, s, q⟩ := hq
  unfold sExt at q
  split at q
  · rename_i xs ec
    obtain ⟨l, vs, fq, rs, h1, h2, h3, h4, h5, h6⟩ := s.list ec
    refine ⟨.ref l, h1, Z, ρ, s.rel, ?_⟩
    cases ef : f ρ with
    | ok y =>
      rw [ef] at q
      intro u Z1 H1 fy g1 dy
      cases y with
      | lst o ys =>
        have q : PostS X.K (He.ga X.K) W Z0 H0 E (if D.fzs ys && decide (xs.length + ys.length ≤ LIM) then .nx (ρ.set i (some (.lst true (xs ++ ys)))) else .bad) := q
        split at q
        · rename_i c
          obtain ⟨c1, c2⟩ := band c
          have c2 := of_decide_eq_true c2
          obtain ⟨b, us, fb, rfl, qb, db, _⟩ := dy.lstH g1.s
          have db := db.fz0 c1
          have d1 := g1.dens h3
          have hl : H1 l = some (.lst vs) := g1.h.l h2
          have nl := List.nodup_cons.mp h4
          refine ⟨l, b, vs, us, rfl, rfl, hl, qb, by rw [d1.length, db.length]; exact lim_le c2, ?_⟩
          have nfq : l ∉ fq := fun hm => nl.1 (List.mem_append_left _ hm)
          have z := h6 Z1 H1 (vs ++ us) (xs ++ ys) (fq ++ []) g1 (by simpa using (List.nodup_append.mp nl.2).1) (fun b hb => by
            have hb : b ∈ fq := by simpa using hb
            refine ⟨fun c => nfq (c ▸ hb), fun hm => (List.nodup_append.mp nl.2).2.2 b hb b hm rfl, (h5 b (List.mem_cons_of_mem _ (List.mem_append_left _ hb))).2.1⟩) ((d1.upd nfq).append (db.upd (fun z => nomatch z)))
          have e1 : σ.set i (some (.ref l)) = σ := by
            apply List.ext_getElem?
            intro j
            by_cases cj : i = j
            · subst cj
              rcases Nat.lt_or_ge i σ.length with c | c
              · rw [List.getElem?_set_self c, h1]
              · rw [List.getElem?_eq_none c] at h1; cases h1
            · rw [List.getElem?_set_ne cj]
          show E.nx (σ.set i (some (.ref l))) _
          rw [e1]
          exact q _ Z1 _ z
        · exact q.elim
      | _ => exact q.elim
    | ex c ns xs => rw [ef] at q; exact fun dc Z' H' g1 x => q dc σ Z' H' (s.gr g1) x
    | bad => rw [ef] at q; exact q
  · exact q.elim
theorem DS.app (i : Nat) {x : Str} {p1 apos cpos : Pos} (he : DE X W e f) (hN : X.N[i]? = some x := by rfl) (hv : Vis X.env.scope x := by first | exact Or.inl rfl | exact Or.inr (Or.inl rfl) | exact Or.inr (Or.inr rfl)) (hd : (x == ("__debug__" : Str)) = false := by decide)
    (hcd : (x == ("__classdict__" : Str)) = false := by decide) (hs : swapsWith (.Call (.Attribute (.Name x p1) "append" apos) [e] [] cpos) none pos.line X.env = pure false := by rfl)
    (hbase : attributeBase (.Name x p1) "append" X.env (eval (.Name x p1) X.env) = eval (.Name x p1) X.env := by rfl)
    (hfew : ((backTo cpos (starEach [e] X.env)).all (fun x => !x.1) && (backToKw cpos (keywordEach [] X.env)).all (fun x => x.1.isSome)
      && decide ([e].length + ([] : List Keyword).length + (if ([] : List Keyword).isEmpty then 0 else 1) < 30)) = true := by rfl)
    (hline : (apos.endLine == cpos.line) = true := by rfl) (hst : starEach [e] X.env = (false, eval e X.env) :: starEach [] X.env := by rfl) (hplain : (backTo cpos (starEach [] X.env)).any (·.1) = false := by rfl) :
    DS X W (.Expr (.Call (.Attribute (.Name x p1) "append" apos) [e] [] cpos) pos) (sApp i f) := by
  refine ⟨fun Z0 H0 => PS.weak (ps_expr (pe_bm PySem.F.plainAttrs_list PySem.F.slot_list_append PySem.F.type_list_append mt_append (pv i hN hv hd hcd) (pa_cons he.run pa_nil hst) hbase hfew hline hst hplain) hs) fun E σ H hq => ?_⟩
  obtain ⟨Z, ρ, s, q⟩ := hq
  unfold sApp at q
  split at q
  · rename_i xs ec
    obtain ⟨l, vs, fq, rs, h1, h2, h3, h4, h5, h6⟩ := s.list ec
    refine ⟨.ref l, h1, .inl ⟨rfl, _, .inl (.inl h2)⟩, Z, ρ, s.rel, ?_⟩
    cases ef : f ρ with
    | ok y =>
      rw [ef] at q
      intro u Z1 H1 fy g1 dy ny fy'
      have q : PostS X.K (He.ga X.K) W Z0 H0 E (if xs.length < LIM then .nx (ρ.set i (some (.lst true (xs ++ [y])))) else .bad) := q
      split at q
      · rename_i c
        have d1 := g1.dens h3
        have hl : H1 l = some (.lst vs) := g1.h.l h2
        have nl := List.nodup_cons.mp h4
        refine ⟨l, vs, u, rfl, rfl, hl, by rw [d1.length]; exact lim_lt c, ?_⟩
        have nfq : l ∉ fq := fun hm => nl.1 (List.mem_append_left _ hm)
        have nfy : l ∉ fy := fun hm => (h5 l List.mem_cons_self).1 (fy' l hm)
        refine q _ Z1 _ (h6 Z1 H1 (vs ++ [u]) (xs ++ [y]) (fq ++ fy) g1 ?_ (fun b hb => ?_) ((d1.upd nfq).append (Dens.one (dy.upd nfy))))
        · rw [List.nodup_append]
          exact ⟨(List.nodup_append.mp nl.2).1, ny, fun a ha b hb c => (h5 a (List.mem_cons_of_mem _ (List.mem_append_left _ ha))).1 (fy' a (c ▸ hb))⟩
        · rcases List.mem_append.mp hb with hb | hb
          · exact ⟨fun c => nfq (c ▸ hb), fun hm => (List.nodup_append.mp nl.2).2.2 b hb b hm rfl, (h5 b (List.mem_cons_of_mem _ (List.mem_append_left _ hb))).2.1⟩
          · exact ⟨fun c => nfy (c ▸ hb), fun hm => (h5 b (List.mem_cons_of_mem _ (List.mem_append_right _ hm))).1 (fy' b hb), s.g.h.back (fy' b hb)⟩
      · exact q.elim
    | ex c ns xs => rw [ef] at q; exact fun dc Z' H' g1 x => q dc σ Z' H' (s.gr g1) x
    | bad => rw [ef] at q; exact q
  · exact q.elim
end
end DL
namespace DL
open PySem PySem.Spec PyProof.Rows L2
variable [Tb]
structure Ctx (X : Cx) (W : WX) (k : Nat) : Prop where
  calm : X.calm = true
  hr : Room k X.A
  po : PassesOwn (model X.prog X.w) X.A X.env X.xe
  tk : Takes X W
  nd : X.N.Nodup
def W0 : WX := fun _ _ _ _ => False
theorem Ctx.blk {X : Cx} {W : WX} {k : Nat} (C : Ctx X W k) (s : Shared) (H : Hp) (scope : Scope) (cenv : PySem.Env) (fp : List Addr) : Ctx (X.blk s H scope cenv fp) W0 k :=
  ⟨C.calm, C.hr, PassesOwn.never, takes0, C.nd⟩
theorem Ctx.mono {X : Cx} {W : WX} {j k : Nat} (C : Ctx X W k) (h : j ≤ k) : Ctx X W j := ⟨C.calm, C.hr.mono h, C.po, C.tk, C.nd⟩
structure Wk (K : PySem.W.Frag) (cl : Str → Addr) (J : It) (Y Z : Hp) (ds : List D) : Prop where
  go : ∀ i H, Ex Y H → i < ds.length → J.go i H
  yld : ∀ i H x H', Ex Y H → i < ds.length → J.yld i H x H' → H' = H ∧ ∃ d, ds[i]? = some d ∧ Den K cl Z H d x []
  stop : ∀ H, Ex Y H → J.stop ds.length H
theorem Wk.wide {K : PySem.W.Frag} {cl : Str → Addr} {J : It} {Y Y' Z : Hp} {ds : List D} (w : Wk K cl J Y Z ds) (e : Ex Y Y') : Wk K cl J Y' Z ds :=
  ⟨fun i H h => w.go i H (e.trans h), fun i H x H' h => w.yld i H x H' (e.trans h), fun H h => w.stop H (e.trans h)⟩
def PostI (K : PySem.W.Frag) (cl : Str → Addr) (W : WX) (Z H : Hp) (σ : L2.St) (o : Ou (List D)) (R : It → Hp → Prop) : Prop := match o with
  | .ok ds => ∀ J Z' H', Gr Z H Z' H' → Wk K cl J Z' Z' ds → R J H'
  | .ex c ns xs => PostX K cl W Z H σ c ns xs
  | .bad => False
def tI (K : PySem.W.Frag) (cl : Str → Addr) (W : WX) (f : Env → Ou (List D)) : TI := fun σ H R => ∃ Z ρ, RelS K cl Z H σ ρ ∧ PostI K cl W Z H σ (f ρ) R
def PostIB (K : PySem.W.Frag) (cl : Str → Addr) (W : WX) (Z H : Hp) (σ : L2.St) (o : Ou (List D)) (R : It → Hp → Prop) : Prop := match o with
  | .ok ds => ∀ J Z' H', Gr Z H Z' H' → Wk K cl J H' Z' ds → R J H'
  | .ex c ns xs => PostX K cl W Z H σ c ns xs
  | .bad => False
def tIB (K : PySem.W.Frag) (cl : Str → Addr) (W : WX) (f : Env → Ou (List D)) : TI := fun σ H R => ∃ Z ρ, RelS K cl Z H σ ρ ∧ PostIB K cl W Z H σ (f ρ) R
structure DIB (X : Cx) (W : WX) (tg iter : Expr) (f : Env → Ou (List D)) : Prop where
  run : PI X tg iter (tIB X.K (He.ga X.K) W f)
structure DI (X : Cx) (W : WX) (tg iter : Expr) (f : Env → Ou (List D)) : Prop where
  run : PI X tg iter (tI X.K (He.ga X.K) W f)
theorem PI.weak {X : Cx} {tg iter : Expr} {t t' : TI} (h : PI X tg iter t) (k : ∀ σ H R, t' σ H R → t σ H R) : PI X tg iter t' := ⟨fun pins s σ H R I q => h.run pins s σ H R I (k σ H R q)⟩
theorem PI.or {X : Cx} {tg iter : Expr} {t t' : TI} (h : PI X tg iter t) (h' : PI X tg iter t') : PI X tg iter (fun σ H R => t σ H R ∨ t' σ H R) :=
  ⟨fun pins s σ H R I q => q.elim (h.run pins s σ H R I) (h'.run pins s σ H R I)⟩
def seqOf : D → Ou (List D)
  | .lst _ xs => .ok (D.frzs xs)
  | .tup xs => .ok (D.frzs xs)
  | _ => .bad
def seqOfB : D → Ou (List D)
  | .lst _ xs => if D.fzs xs then .ok xs else .bad
  | .tup xs => if D.fzs xs then .ok xs else .bad
  | _ => .bad
def iSeqB (f : Env → Ou D) : Env → Ou (List D) := fun ρ => f ρ >>= seqOfB
def iSeq (f : Env → Ou D) : Env → Ou (List D) := fun ρ => f ρ >>= seqOf
def rng0 (n : Nat) : List D := (List.range n).map fun (i : Nat) => D.int (i : Int)
def rngL (lo : Int) (n : Nat) : List D := (List.range n).map fun (i : Nat) => D.int (lo + (i : Int))
def rng1Of : List D → Option (List D)
  | [.int n] => if decide (-1000000 < n ∧ n < 1000000) then some (rng0 n.toNat) else none
  | _ => none
def rng2Of : List D → Option (List D)
  | [.int a, .int b] => if decide (-1000000 < a ∧ a < 1000000 ∧ -1000000 < b ∧ b < 1000000) then some (rngL a (b - a).toNat) else none
  | _ => none
theorem rng1Of_inv {ds l : List D} (h : rng1Of ds = some l) : ∃ n : Int, ds = [.int n] ∧ (-1000000 < n ∧ n < 1000000) ∧ l = rng0 n.toNat := by
  unfold rng1Of at h
  split at h
  · rename_i n
    split at h
    · rename_i c
      exact ⟨n, rfl, of_decide_eq_true c, (Option.some.inj h).symm⟩
    · cases h
  · cases h
def iRng1 (t : Env → Ou (List D)) : Env → Ou (List D) := fun ρ => t ρ >>= fun ds => ofO (rng1Of ds)
def iRng2 (t : Env → Ou (List D)) : Env → Ou (List D) := fun ρ => t ρ >>= fun ds => ofO (rng2Of ds)
def chrsOf : D → Ou (List D)
  | .str x => .ok (x.cps.toList.map fun c => .str ⟨#[c]⟩)
  | _ => .bad
def iChr (f : Env → Ou D) : Env → Ou (List D) := fun ρ => f ρ >>= chrsOf
section
variable {K : PySem.W.Frag} {cl : Str → Addr} {Z H Z' H' Z0 H0 Z1 H1 : Hp} {σ : L2.St} {ρ : Env} {W : WX}
theorem PostI.gr {o : Ou (List D)} {R : It → Hp → Prop} (q : PostI K cl W Z H σ o R) (g : Gr Z H Z' H') : PostI K cl W Z' H' σ o R := by
  cases o with
  | ok d => exact fun J Z2 H2 g2 w => q J Z2 H2 (g.trans g2) w
  | ex c ns xs => exact PostX.gr q g
  | bad => exact q
theorem Dens.frzs_len : ∀ (ds : List D), (D.frzs ds).length = ds.length
  | [] => rfl
  | d :: ds => congrArg (· + 1) (Dens.frzs_len ds)
theorem wk_list {Y : Hp} {a : Addr} {vs : List V} {ds : List D} (q : Y a = some (.lst vs)) (h : Dens K cl Z H ds vs []) : Wk K cl (Itl K a) Y Z ds where
  go i H' e hi := by
    obtain ⟨v, f, h1, _⟩ := h.get (List.getElem?_eq_getElem hi)
    exact ⟨vs, v, .inl (.inl (e.l q)), h1⟩
  yld i H' x H2 e hi y := by
    obtain ⟨e1, y⟩ := y
    obtain ⟨v, f, h1, h2, h3, _⟩ := h.get (List.getElem?_eq_getElem hi)
    have ex := y vs (.inl (.inl (e.l q)))
    rw [h1] at ex
    have ex := Option.some.inj ex
    subst ex
    refine ⟨e1, _, List.getElem?_eq_getElem hi, ?_⟩
    have ef : f = [] := List.eq_nil_iff_forall_not_mem.mpr fun b hb => nomatch h3 b hb
    subst ef
    exact Den.mono (Ex.refl _) _ _ [] (fun _ z => nomatch z) h2
  stop H' e := ⟨vs, .inl (.inl (e.l q)), by rw [h.length]; exact Nat.le_refl _⟩
theorem wk_tup {Y : Hp} {a : Addr} {vs : List V} {ds : List D} (q : SqT K Y a vs) (h : Dens K cl Z H ds vs []) : Wk K cl (Itt K a) Y Z ds where
  go i H' e hi := by
    obtain ⟨v, f, h1, _⟩ := h.get (List.getElem?_eq_getElem hi)
    exact ⟨vs, v, e.sqT q, h1⟩
  yld i H' x H2 e hi y := by
    obtain ⟨e1, y⟩ := y
    obtain ⟨v, f, h1, h2, h3, _⟩ := h.get (List.getElem?_eq_getElem hi)
    have ex := y vs (e.sqT q)
    rw [h1] at ex
    have ex := Option.some.inj ex
    subst ex
    refine ⟨e1, _, List.getElem?_eq_getElem hi, ?_⟩
    have ef : f = [] := List.eq_nil_iff_forall_not_mem.mpr fun b hb => nomatch h3 b hb
    subst ef
    exact Den.mono (Ex.refl _) _ _ [] (fun _ z => nomatch z) h2
  stop H' e := ⟨vs, e.sqT q, by rw [h.length]; exact Nat.le_refl _⟩
theorem rngL_len (lo : Int) (n : Nat) : (rngL lo n).length = n := by simp [rngL]
theorem rng0_eq (n : Nat) : rng0 n = rngL 0 n := by
  unfold rng0 rngL
  refine List.map_congr_left fun i _ => ?_
  rw [Int.zero_add]
theorem wk_rng {Y : Hp} (lo : Int) (n : Nat) : Wk K cl (Itr lo n) Y Z (rngL lo n) where
  go i H' e hi := by rw [rngL_len] at hi; exact hi
  yld i H' x H2 e hi y := by
    obtain ⟨e1, e2⟩ := y
    rw [rngL_len] at hi
    refine ⟨e1, .int (lo + i), ?_, e2, rfl⟩
    unfold rngL
    rw [List.getElem?_map, List.getElem?_range hi] <;> rfl
  stop H' e := by rw [rngL_len]; exact Nat.le_refl _
theorem wk_rng0 {Y : Hp} (n : Nat) : Wk K cl (Itr 0 n) Y Z (rng0 n) := by rw [rng0_eq]; exact wk_rng 0 n
theorem wk_chr {Y : Hp} (x : Str) : Wk K cl (Its x) Y Z (x.cps.toList.map fun c => .str ⟨#[c]⟩) where
  go i H' e hi := by simpa [Its] using hi
  yld i H' v H2 e hi y := by
    obtain ⟨e1, c, e2, e3⟩ := y
    refine ⟨e1, .str ⟨#[c]⟩, ?_, e3, rfl⟩
    rw [List.getElem?_map, Array.getElem?_toList, e2] <;> rfl
  stop H' e := by simp [Its]
end
section
variable {X : Cx} {W : WX} {k : Nat} {tg e a b iter : Expr} {f : Env → Ou D} {t : Env → Ou (List D)} {pos p : Pos}
theorem DI.seq (h : DE X W e f) : DI X W tg e (iSeq f) := by
  refine ⟨PI.weak (PI.or (pi_list h.run) (pi_tup h.run)) fun σ H R hq => ?_⟩
  obtain ⟨Z, ρ, r, q⟩ := hq
  unfold iSeq at q
  cases ef : f ρ with
  | ok d =>
    rw [ef] at q
    cases d with
    | lst o xs =>
      refine .inl ⟨Z, ρ, r, ?_⟩
      rw [ef]
      intro v Z' H' fp g dn nd fr
      obtain ⟨a, vs, f1, rfl, qa, dd, hf, _⟩ := dn.lstH g.s
      have own : ∀ b ∈ fp, Z' b = none := fun b hb => (Den.own _ _ _ dn b hb).1
      refine ⟨a, rfl, ⟨vs, .inl (.inl qa)⟩, q _ (frzH Z' H' fp) H' (g.frz own fr fun b hb => (Den.own _ _ _ dn b hb).2) (wk_list (H := H') ?_ (Dens.freeze (frzH_ex own) xs vs f1 (fun b hb => if_pos (hf b hb)) dd))⟩
      cases o with
      | true =>
        simp only [Den] at dn
        obtain ⟨a', vs', fq, e1, e2, _⟩ := dn
        cases e1
        subst e2
        exact (if_pos List.mem_cons_self).trans qa
      | false =>
        simp only [Den] at dn
        obtain ⟨a', vs', e1, e2, e3, _⟩ := dn
        cases e1
        have na : a ∉ fp := fun hm => by rw [e2] at hm; cases hm
        refine (if_neg na).trans ?_
        rw [e3, ← g.s.l e3, qa]
    | tup xs =>
      refine .inr ⟨Z, ρ, r, ?_⟩
      rw [ef]
      intro v Z' H' fp g dn nd fr
      obtain ⟨a, vs, rfl, qa, za, dd⟩ := dn.tupH g.s
      have own : ∀ b ∈ fp, Z' b = none := fun b hb => (Den.own _ _ _ dn b hb).1
      exact ⟨a, rfl, ⟨vs, qa⟩, q _ (frzH Z' H' fp) H' (g.frz own fr fun b hb => (Den.own _ _ _ dn b hb).2) (wk_tup (H := H') ((frzH_ex own).sqT za) (Dens.freeze (frzH_ex own) xs vs fp (fun b hb => if_pos hb) dd))⟩
    | _ => exact q.elim
  | ex c ns xs =>
    rw [ef] at q
    refine .inl ⟨Z, ρ, r, ?_⟩
    rw [ef]
    exact q
  | bad => rw [ef] at q; exact q.elim
theorem DI.rng1 (h : DAB X W [a] t) (hm : X.mg "range" = none) (hg : Gl X "range" := by rfl) (hs : starEach [a] X.env = [(false, eval a X.env)] := by rfl) : DI X W tg (.Call (.Name "range" p) [a] [] pos) (DL.iRng1 t) := by
  refine ⟨PI.weak (pi_range1 hg hm h.run hs) fun σ H R hq => ?_⟩
  obtain ⟨Z, ρ, r, q⟩ := hq
  refine tVs_bind (P := fun Z H o => PostI X.K (He.ga X.K) W Z H σ o R) r (fun _ _ _ z => z) (fun z => z) q fun ds vs Z1 H1 fp ex g1 dn q => ?_
  have q := PostI.gr q g1
  match e : rng1Of ds with
  | some l =>
    rw [e] at q
    obtain ⟨n, e1, c, e2⟩ := rng1Of_inv e
    subst e1 e2
    obtain ⟨v, rfl, hv⟩ := dn.one'
    rw [hv.1]
    exact ⟨n, rfl, by omega, by omega, q _ Z1 H1 (Gr.refl g1.s) (wk_rng0 n.toNat)⟩
  | none => rw [e] at q; exact q.elim
theorem DI.chr (h : DB X W e f) : DI X W tg e (iChr f) := by
  refine ⟨PI.weak (pi_str h.run) fun σ H R hq => ?_⟩
  obtain ⟨Z, ρ, r, q⟩ := hq
  refine tV_bind (P := fun Z H o => PostI X.K (He.ga X.K) W Z H σ o R) r (fun _ _ _ z => z) (fun z => z) q fun d vs Z1 H1 fp ex g1 dn q => ?_
  have q := PostI.gr q g1
  cases d with
  | str x =>
    rw [dn.1]
    exact ⟨x, rfl, q _ Z1 H1 (Gr.refl g1.s) (wk_chr x)⟩
  | _ => exact q.elim
theorem DIB.of {fi : Env → Ou (List D)} (h : DI X W tg e fi) : DIB X W tg e fi := by
  refine ⟨PI.weak h.run fun σ H R hq => ?_⟩
  obtain ⟨Z, ρ, r, q⟩ := hq
  refine ⟨Z, ρ, r, ?_⟩
  cases ef : fi ρ with
  | ok ds => rw [ef] at q; exact fun J Z' H' g w => q J Z' H' g (w.wide g.s)
  | ex c ns xs => rw [ef] at q; exact q
  | bad => rw [ef] at q; exact q
theorem DIB.seq (h : DB X W e f) : DIB X W tg e (iSeqB f) := by
  refine ⟨PI.weak (PI.or (pi_list h.run) (pi_tup h.run)) fun σ H R hq => ?_⟩
  obtain ⟨Z, ρ, r, q⟩ := hq
  unfold iSeqB at q
  cases ef : f ρ with
  | ok d =>
    rw [ef] at q
    cases d with
    | lst o xs =>
      have q : PostIB X.K (He.ga X.K) W Z H σ (if D.fzs xs then .ok xs else .bad) R := q
      split at q
      · rename_i c
        refine .inl ⟨Z, ρ, r, ?_⟩
        rw [ef]
        intro v Z' H' fp g dn
        obtain ⟨a, vs, f1, rfl, qa, dd, hf, _⟩ := dn.lstH g.s
        exact ⟨a, rfl, ⟨vs, .inl (.inl qa)⟩, q _ Z' H' g (wk_list qa (dd.fz0 c))⟩
      · exact q.elim
    | tup xs =>
      have q : PostIB X.K (He.ga X.K) W Z H σ (if D.fzs xs then .ok xs else .bad) R := q
      split at q
      · rename_i c
        refine .inr ⟨Z, ρ, r, ?_⟩
        rw [ef]
        intro v Z' H' fp g dn
        obtain ⟨a, vs, rfl, qa, za, dd⟩ := dn.tupH g.s
        exact ⟨a, rfl, ⟨vs, qa⟩, q _ Z' H' g (wk_tup qa (dd.fz0 c))⟩
      · exact q.elim
    | _ => exact q.elim
  | ex c ns xs =>
    rw [ef] at q
    refine .inl ⟨Z, ρ, r, ?_⟩
    rw [ef]
    exact q
  | bad => rw [ef] at q; exact q.elim
def tgN (i : Nat) : D → Env → Option Env := fun d ρ => if i < ρ.length then some (ρ.set i (some d)) else none
def gT (K : PySem.W.Frag) (cl : Str → Addr) (tg : D → Env → Option Env) : TG := fun v σ H Q => ∃ Z0 H0 Z ρ d ρ', Sta K cl Z0 H0 Z H σ ρ ∧ Den K cl Z H d v [] ∧ tg d ρ = some ρ' ∧ ∀ σ', Sta K cl Z0 H0 Z H σ' ρ' → Q σ' H
structure DG (X : Cx) (e : Expr) (tg : D → Env → Option Env) : Prop where
  run : PG X e (gT X.K (He.ga X.K) tg)
theorem PG.weak {X : Cx} {e : Expr} {t t' : TG} (h : PG X e t) (k : ∀ v σ H Q, t' v σ H Q → t v σ H Q) : PG X e t' := ⟨fun pins s σ H v u Q I r q => h.run pins s σ H v u Q I r (k v σ H Q q)⟩
theorem DG.name (i : Nat) {x : Str} (hN : X.N.Nodup) (hi : X.N[i]? = some x := by rfl) (hx : Loc X.env.scope x := by first | exact Or.inl rfl | exact Or.inr rfl) (hf : X.fn x = true ∨ X.env.scope.names.lookup x = some .local := by first | exact .inl rfl | exact .inr rfl | assumption) : DG X (.Name x pos) (tgN i) := by
  refine ⟨PG.weak (pg_name (i := i) hN hi hx hf) fun v σ H Q hq => ?_⟩
  obtain ⟨Z0, H0, Z, ρ, d, ρ', s, dn, e, q⟩ := hq
  unfold tgN at e
  split at e
  · rename_i c
    cases e
    exact q _ (s.set (Gr.refl s.g.s) dn List.nodup_nil (fun _ z => nomatch z) c)
  · cases e
def loopS (tg : D → Env → Option Env) (body : Env → Os) : List D → Env → Os
  | [], ρ => .nx ρ
  | d :: ds, ρ => match tg d ρ with
    | none => .bad
    | some ρ1 => match body ρ1 with
      | .nx ρ2 => loopS tg body ds ρ2
      | .ct ρ2 => loopS tg body ds ρ2
      | .bk ρ2 => .nx ρ2
      | .rt d => .rt d
      | .ex c ns xs ρ2 => .ex c ns xs ρ2
      | .bad => .bad
def sFor (fi : Env → Ou (List D)) (tg : D → Env → Option Env) (body : Env → Os) : Env → Os := fun ρ => ofU (fi ρ) ρ fun ds => loopS tg body ds ρ
theorem DS.for_ {iter : Expr} {body : List Stmt} {fi : Env → Ou (List D)} {tgt : D → Env → Option Env} {g : Env → Os} (C : Ctx X W k) (hi : DI X W tg iter fi) (ht : DG X tg tgt) (hb : DSs X W body g) (hs : ∀ x, foldedSetIterable iter X.env x = pure x := by intro _; rfl) :
    DS X W (.For tg iter body [] pos) (sFor fi tgt g) := by
  refine ⟨fun Z0 H0 => PS.weak (ps_for C.po C.calm hi.run ht.run (tb := fun E σ H => ∃ Zl Hl, tS X.K (He.ga X.K) W Zl Hl g E σ H) ⟨fun pins s σ H E I ⟨Zl, Hl, q⟩ => (hb.run Zl Hl).run pins s σ H E I q⟩ hs) fun E σ H hq => ?_⟩
  obtain ⟨Z, ρ, st, q⟩ := hq
  refine ⟨Z, ρ, st.rel, ?_⟩
  unfold sFor at q
  cases ef : fi ρ with
  | ex c ns xs => rw [ef] at q; exact fun dc Z' H' g1 x => q dc σ Z' H' (st.gr g1) x
  | bad => rw [ef] at q; exact q
  | ok ds =>
    rw [ef] at q
    intro J Z1 H1 g1 wk
    obtain ⟨Hl, gl, stl, _, _⟩ := (st.gr g1).rebase
    refine ⟨fun i m σ' H' => m = ds.length - i ∧ i ≤ ds.length ∧ ∃ Z' ρ', Sta X.K (He.ga X.K) Z1 Hl Z' H' σ' ρ' ∧ PostS X.K (He.ga X.K) W Z0 H0 E (loopS tgt g (ds.drop i) ρ'), ⟨ds.length, by simp, Nat.zero_le _, Z1, ρ, stl, q⟩, ?_⟩
    rintro i m σ' H' ⟨rfl, hi', Z', ρ', st', q'⟩
    have ez : Ex Z1 H' := st'.g.z.trans st'.g.s
    by_cases hlt : i < ds.length
    · refine .inr ⟨wk.go i H' ez hlt, fun σ2 H2 => ∃ Z' ρ', Sta X.K (He.ga X.K) Z1 Hl Z' H2 σ2 ρ' ∧ PostS X.K (He.ga X.K) W Z0 H0 E (loopS tgt g (ds.drop (i + 1)) ρ'), fun σ2 H2 n2 => ⟨ds.length - (i + 1), by omega, rfl, hlt, n2⟩, fun x H2 y => ?_⟩
      obtain ⟨e1, d, ed, dn⟩ := wk.yld i H' x H2 ez hlt y
      subst e1
      have ed' : ds[i] = d := by rw [List.getElem?_eq_getElem hlt] at ed; exact Option.some.inj ed
      rw [List.drop_eq_getElem_cons hlt, ed'] at q'
      unfold loopS at q'
      cases et : tgt d ρ' with
      | none => rw [et] at q'; exact q'.elim
      | some ρ1 =>
        rw [et] at q'
        refine ⟨Z1, Hl, Z', ρ', d, ρ1, st', Den.mono st'.g.z d x [] (fun _ z => nomatch z) dn, et, fun σ2 st2 => ⟨Z1, Hl, Z', ρ1, st2, ?_⟩⟩
        have q' : PostS X.K (He.ga X.K) W Z0 H0 E (match g ρ1 with
          | .nx ρ2 => loopS tgt g (ds.drop (i + 1)) ρ2
          | .ct ρ2 => loopS tgt g (ds.drop (i + 1)) ρ2
          | .bk ρ2 => .nx ρ2
          | .rt d => .rt d
          | .ex c ns xs ρ2 => .ex c ns xs ρ2
          | .bad => .bad) := q'
        cases eg : g ρ1 with
        | nx ρ2 => rw [eg] at q'; exact fun σ3 Z3 H3 st3 => ⟨Z3, ρ2, st3, q'⟩
        | ct ρ2 => rw [eg] at q'; exact fun σ3 Z3 H3 st3 => ⟨Z3, ρ2, st3, q'⟩
        | bk ρ2 => rw [eg] at q'; exact fun σ3 Z3 H3 st3 => q' σ3 Z3 H3 (st3.unbase gl)
        | rt d => rw [eg] at q'; exact fun v Z3 H3 fp g3 h nd fr => q' v Z3 H3 fp (gl.trans g3) h nd fun a ha => gl.h.back (fr a ha)
        | ex c ns xs ρ2 => rw [eg] at q'; exact fun dc σ3 Z3 H3 st3 h => q' dc σ3 Z3 H3 (st3.unbase gl) h
        | bad => rw [eg] at q'; exact q'.elim
    · have e : i = ds.length := by omega
      subst e
      refine .inl ⟨wk.stop H' ez, ?_⟩
      rw [List.drop_length] at q'
      exact q' σ' Z' H' (st'.unbase gl)
def wipeE (ρ : Env) : List Nat → Env
  | [] => ρ
  | v :: vs => (wipeE ρ vs).set v none
def compG (j : Nat) (tt : Env → Ou Bool) (te : Env → Ou D) (ρ : Env) : List D → List D → Option (List D)
  | [], acc => some acc
  | d :: ds, acc => if j < ρ.length then (match tt (ρ.set j (some d)) with
    | .ok true => (match te (ρ.set j (some d)) with
      | .ok y => if acc.length < LIM then compG j tt te ρ ds (acc ++ [y]) else none
      | _ => none)
    | .ok false => compG j tt te ρ ds acc
    | _ => none) else none
def dLc (fi : Env → Ou (List D)) (j : Nat) (vs : List Nat) (tt : Env → Ou Bool) (te : Env → Ou D) : Env → Ou D := fun ρ => fi ρ >>= fun ds => ofO ((compG j tt te (wipeE ρ vs) ds []).map (D.lst true))
def bYes : Env → Ou Bool := fun _ => .ok true
theorem RelS.wipe {K : PySem.W.Frag} {cl : Str → Addr} {Z H : Hp} {σ : L2.St} {ρ : Env} (r : RelS K cl Z H σ ρ) : ∀ vs : List Nat, RelS K cl Z H (wipe σ vs) (wipeE ρ vs)
  | [] => r
  | v :: vs => by
    obtain ⟨s, tk, fp, sl, nd⟩ := RelS.wipe r vs
    obtain ⟨fp', a1, a2, _⟩ := Slots.drop (i := v) (o := none) sl nd
    exact ⟨s, tk, fp', a1, a2⟩
theorem wipe_get (σ : L2.St) : ∀ (vs : List Nat) (i : Nat), (wipe σ vs)[i]? = if i ∈ vs then (if i < σ.length then some none else none) else σ[i]?
  | [], i => by simp [wipe]
  | v :: vs, i => by
    show ((wipe σ vs).set v none)[i]? = _
    rw [List.getElem?_set]
    by_cases c : v = i
    · subst c
      rw [if_pos rfl, if_pos List.mem_cons_self, wipe_length]
    · rw [if_neg c, wipe_get σ vs i]
      by_cases h : i ∈ vs
      · rw [if_pos h, if_pos (List.mem_cons_of_mem _ h)]
      · rw [if_neg h, if_neg (fun hm => (List.mem_cons.mp hm).elim (fun e => c e.symm) h)]
theorem wipe_set {σ : L2.St} {vs : List Nat} {j : Nat} (hj : j ∈ vs) (o : Option V) : wipe ((wipe σ vs).set j o) vs = wipe σ vs := by
  apply List.ext_getElem?
  intro i
  rw [wipe_get, wipe_get, List.length_set, wipe_length]
  by_cases h : i ∈ vs
  · rw [if_pos h, if_pos h]
  · rw [if_neg h, if_neg h, List.getElem?_set_ne (fun c => h (by rw [← c]; exact hj)), wipe_get, if_neg h]
structure DTs (X : Cx) (W : WX) (ifs : List Expr) (f : Env → Ou Bool) : Prop where
  run : PTs X ifs (tT X.K (He.ga X.K) W f)
theorem DTs.nil : DTs X W [] bYes := ⟨⟨fun pins s σ H Q I ⟨Z, ρ, r, q⟩ => pts_nil.run pins s σ H Q I (q Z H (Gr.refl r.s))⟩⟩
theorem DTs.one {c : Expr} {f : Env → Ou Bool} (h : DT X W c f) : DTs X W [c] f := ⟨pts_one h.run⟩
theorem RelS.set {K : PySem.W.Frag} {cl : Str → Addr} {Z H : Hp} {σ : L2.St} {ρ : Env} {d : D} {v : V} {i : Nat} (r : RelS K cl Z H σ ρ) (dn : Den K cl Z H d v []) (hi : i < ρ.length) : RelS K cl Z H (σ.set i (some v)) (ρ.set i (some d)) := by
  obtain ⟨s, tk, fp, sl, nd⟩ := r
  obtain ⟨fp', a1, a2, _⟩ := Slots.set (i := i) sl nd dn List.nodup_nil (fun _ z => nomatch z) hi
  exact ⟨s, tk, fp', a1, a2⟩
theorem tLc_of {W : WX} {K : PySem.W.Frag} {cl : Str → Addr} {fi : Env → Ou (List D)} {tt : Env → Ou Bool} {te : Env → Ou D} {j : Nat} {vs : List Nat} (hj : j ∈ vs) (σ : L2.St) (H : Hp) (Q : VK) (hq : tD K cl W (dLc fi j vs tt te) σ H Q) :
    tLc (tIB K cl W fi) (gName j) (tT K cl W0 tt) (tD K cl W0 te) vs σ H Q := by
  obtain ⟨Z, ρ, r, q⟩ := hq
  refine ⟨Z, ρ, r, ?_⟩
  unfold dLc at q
  cases ef : fi ρ with
  | ex c ns xs => rw [ef] at q; exact q
  | bad => rw [ef] at q; exact q
  | ok ds =>
    rw [ef] at q
    intro J Z1 H1 g1 wk Dl hD
    have q : PostO K cl W Z H σ (ofO ((compG j tt te (wipeE ρ vs) ds []).map (D.lst true))) Q := q
    cases ec : compG j tt te (wipeE ρ vs) ds [] with
    | none => rw [ec] at q; exact q.elim
    | some ys =>
      rw [ec] at q
      have q : PostV K cl Z H (.lst true ys) Q := q
      have rw0 := (r.gr g1).wipe vs
      let Wd : Nat → Hp → Prop := fun i H' => ∃ (Z' : Hp) (acc : List D) (vsA : List V) (fp : Fp), Gr Z1 H1 Z' H' ∧ Z' Dl = none ∧ H' Dl = some (.lst vsA) ∧ Dens K cl Z' H' acc vsA fp ∧ fp.Nodup ∧ Dl ∉ fp ∧ (∀ a ∈ fp, H1 a = none) ∧ compG j tt te (wipeE ρ vs) (ds.drop i) acc = some ys
      refine ⟨fun i m H' => m = ds.length - i ∧ i ≤ ds.length ∧ Wd i H', ⟨ds.length, by simp, Nat.zero_le _, Z1, [], [], [], Gr.newO g1.s hD, g1.s.back hD, upd_same, ⟨rfl, rfl⟩, List.nodup_nil, (fun z => nomatch z), (fun _ z => nomatch z), ec⟩, ?_⟩
      rintro i m H' ⟨rfl, hi', Z', acc, vsA, fp, g', zD, hDl, dn, nd, nD, fr, ecc⟩
      have ez : Ex H1 H' := g'.h
      by_cases hlt : i < ds.length
      · refine .inr ⟨wk.go i H' ez hlt, Wd (i + 1), fun H2 n2 => ⟨ds.length - (i + 1), by omega, rfl, hlt, n2⟩, fun x H2 y => ?_⟩
        obtain ⟨e1, d, ed, dx⟩ := wk.yld i H' x H2 ez hlt y
        subst e1
        have ed' : ds[i] = d := by rw [List.getElem?_eq_getElem hlt] at ed; exact Option.some.inj ed
        rw [List.drop_eq_getElem_cons hlt, ed'] at ecc
        unfold compG at ecc
        split at ecc
        · rename_i hjl
          have dx' : Den K cl Z' H2 d x [] := Den.mono g'.z d x [] (fun _ z => nomatch z) dx
          have r2 := (rw0.gr g').set dx' hjl
          refine ⟨wipe_set hj _, Z', _, r2, ?_⟩
          cases et : tt ((wipeE ρ vs).set j (some d)) with
          | ex c ns xs => rw [et] at ecc; cases ecc
          | bad => rw [et] at ecc; cases ecc
          | ok b =>
            rw [et] at ecc
            intro Z2 H3 g2
            have n2 : H2 Dl ≠ none := by rw [hDl]; exact fun z => nomatch z
            have zD2 := g2.n Dl n2 zD
            have hD2 := g2.h.l hDl
            cases b with
            | false => exact ⟨Z2, acc, vsA, fp, g'.trans g2, zD2, hD2, g2.dens dn, nd, nD, fr, ecc⟩
            | true =>
              refine ⟨Z2, _, r2.gr g2, ?_⟩
              have ecc : (match te ((wipeE ρ vs).set j (some d)) with
                | .ok y => if acc.length < LIM then compG j tt te (wipeE ρ vs) (ds.drop (i + 1)) (acc ++ [y]) else none
                | _ => none) = some ys := ecc
              cases ee : te ((wipeE ρ vs).set j (some d)) with
              | ex c ns xs => rw [ee] at ecc; cases ecc
              | bad => rw [ee] at ecc; cases ecc
              | ok y =>
                rw [ee] at ecc
                intro u Z3 H4 fy g3 dy ny fy'
                have ecc : (if acc.length < LIM then compG j tt te (wipeE ρ vs) (ds.drop (i + 1)) (acc ++ [y]) else none) = some ys := ecc
                by_cases hlim : acc.length < LIM
                · rw [if_pos hlim] at ecc
                  have n3 : H3 Dl ≠ none := by rw [hD2]; exact fun z => nomatch z
                  have g23 := (g'.trans g2).trans g3
                  have nfy : Dl ∉ fy := fun hm => n3 (fy' Dl hm)
                  have d3 := g3.dens (g2.dens dn)
                  refine ⟨vsA, g3.h.l hD2, by rw [dn.length]; exact lim_lt hlim, Z3, acc ++ [y], vsA ++ [u], fp ++ fy, ⟨g23.z, g23.h.mut hD ⟨.l _, g3.h.l hD2⟩, g23.s.mut (g3.n Dl n3 zD2) ⟨.l _, g3.h.l hD2⟩, g23.n⟩, g3.n Dl n3 zD2, upd_same, (d3.upd nD).append (Dens.one (dy.upd nfy)), ?_, ?_, ?_, ecc⟩
                  · rw [List.nodup_append]
                    refine ⟨nd, ny, fun a ha b hb c => ?_⟩
                    subst c
                    obtain ⟨_, xs, qa⟩ := Dens.own acc vsA fp (g2.dens dn) a ha
                    rw [fy' a hb] at qa; cases qa
                  · exact fun hm => (List.mem_append.mp hm).elim nD nfy
                  · intro a ha
                    rcases List.mem_append.mp ha with z | z
                    · exact fr a z
                    · exact (g'.trans g2).h.back (fy' a z)
                · rw [if_neg hlim] at ecc; cases ecc
        · cases ecc
      · have e : i = ds.length := by omega
        subst e
        rw [List.drop_length] at ecc
        unfold compG at ecc
        have ey := Option.some.inj ecc
        subst ey
        refine .inl ⟨wk.stop H' ez, q (.ref Dl) Z' H' (Dl :: fp) (g1.trans g') ?_ (List.nodup_cons.mpr ⟨nD, nd⟩) fun a ha => ?_⟩
        · simp only [Den]
          exact ⟨Dl, vsA, fp, rfl, rfl, zD, hDl, dn⟩
        · rcases List.mem_cons.mp ha with z | z
          · subst z; exact g1.h.back hD
          · exact g1.h.back (fr a z)
theorem DE.lc {elt : Expr} {ifs : List Expr} {scope : Scope} {own : List (Str × Nat)} {fi : Env → Ou (List D)} {tt : Env → Ou Bool} {te : Env → Ou D} {j : Nat} (Cc : Ctx X W k) (hi : DIB X W tg iter fi) (ok : BlkOk X.N X.env.scope scope own)
    (hg : ∀ (s : Shared) (H : Hp) (C : Addr) (cl : List (Str × Addr)) (fp : List Addr), PG (X.blk s H scope (compEnvC scope cl C X.env) fp) tg (gName j))
    (ht : ∀ (s : Shared) (H : Hp) (C : Addr) (cl : List (Str × Addr)) (fp : List Addr), DTs (X.blk s H scope (compEnvC scope cl C X.env) fp) W0 ifs tt)
    (he : ∀ (s : Shared) (H : Hp) (C : Addr) (cl : List (Str × Addr)) (fp : List Addr), DE (X.blk s H scope (compEnvC scope cl C X.env) fp) W0 elt te) (hj : j ∈ own.map (·.2) := by decide) (hs : ∀ x, foldedSetIterable iter X.env x = pure x := by intro _; rfl) :
    DE X W (.ListComp elt [⟨tg, iter, ifs, 0⟩] scope pos) (dLc fi j (own.map (·.2)) tt te) :=
  ⟨PE.weak (pe_lc (te := tD X.K (He.ga X.K) W0 te) (tt := tT X.K (He.ga X.K) W0 tt) Cc.calm Cc.nd hi.run ok hg (fun s H C cl fp => (ht s H C cl fp).run) (fun s H C cl fp => (he s H C cl fp).run) hs) (tLc_of hj)⟩
theorem DS.setLc {i : Nat} {y : Str} {py spos : Pos} {elt : Expr} {ifs : List Expr} {scope : Scope} {own : List (Str × Nat)} {fi : Env → Ou (List D)} {tt : Env → Ou Bool} {te : Env → Ou D} {j : Nat} (Cc : Ctx X W k) (hi : DIB X W tg iter fi) (ok : BlkOk X.N X.env.scope scope own)
    (hg : ∀ (s : Shared) (H : Hp) (C : Addr) (cl : List (Str × Addr)) (fp : List Addr), PG (X.blk s H scope (compEnvC scope cl C X.env) fp) tg (gName j))
    (ht : ∀ (s : Shared) (H : Hp) (C : Addr) (cl : List (Str × Addr)) (fp : List Addr), DTs (X.blk s H scope (compEnvC scope cl C X.env) fp) W0 ifs tt)
    (he : ∀ (s : Shared) (H : Hp) (C : Addr) (cl : List (Str × Addr)) (fp : List Addr), DE (X.blk s H scope (compEnvC scope cl C X.env) fp) W0 elt te) (hy : X.N[i]? = some y := by rfl) (hyl : X.env.scope.names.lookup y = some .local := by rfl)
    (hsw : swapsWith (.ListComp elt [⟨tg, iter, ifs, 0⟩] scope pos) (some (.Name y py)) spos.line X.env = pure true := by exact sw_true rfl rfl rfl (by decide +kernel)) (hj : j ∈ own.map (·.2) := by decide) (hs : ∀ x, foldedSetIterable iter X.env x = pure x := by intro _; rfl) :
    DS X W (.Assign [.Name y py] (.ListComp elt [⟨tg, iter, ifs, 0⟩] scope pos) spos) (sSet i (dLc fi j (own.map (·.2)) tt te)) := by
  refine ⟨fun Z0 H0 => PS.weak (ps_setLc (te := tD X.K (He.ga X.K) W0 te) (tt := tT X.K (He.ga X.K) W0 tt) Cc.calm Cc.nd hy hyl hsw hi.run ok hg (fun s H C cl fp => (ht s H C cl fp).run) (fun s H C cl fp => (he s H C cl fp).run) hs) fun E σ H hq => ?_⟩
  obtain ⟨Z, ρ, s, q⟩ := hq
  refine tLc_of hj σ H _ ⟨Z, ρ, s.rel, ?_⟩
  unfold sSet at q
  cases ec : dLc fi j (own.map (·.2)) tt te ρ with
  | ok d =>
    rw [ec] at q
    intro v Z' H' fp g1 dn nd fr
    have q : PostS X.K (He.ga X.K) W Z0 H0 E (if i < ρ.length then .nx (ρ.set i (some d)) else .bad) := q
    by_cases c : i < ρ.length
    · rw [if_pos c] at q
      exact q _ Z' H' (s.set g1 dn nd fr c)
    · rw [if_neg c] at q; exact q.elim
  | ex c ns xs => rw [ec] at q; exact fun dc Z' H' g1 x => q dc σ Z' H' (s.gr g1) x
  | bad => rw [ec] at q; exact q
end
end DL
namespace DL
open PySem PySem.Spec PyProof.Rows L2
variable [Tb]
def endF (r : Os) : Ou D := match r with
  | .nx _ => .ok .non
  | .rt d => .ok d
  | .ex c ns xs _ => .ex c ns xs
  | _ => .bad
def runF (n : Nat) (g : Env → Os) (ds : List D) : Ou D := endF (g (ds.map some ++ List.replicate (n - ds.length) none))
def PostF (K : PySem.W.Frag) (cl : Str → Addr) (Z H : Hp) (o : Ou D) (Q : VK) (E : XK) : Prop := match o with
  | .ok d => PostV K cl Z H d Q
  | .ex c ns xs => ∀ dc Z' H', Gr Z H Z' H' → ExD K cl Z' H' ns xs dc → E (.ref (cl c)) dc H'
  | .bad => False
def spF (K : PySem.W.Frag) (n : Nat) (F : List D → Ou D) : Sp := fun vs H Q E => vs.length = n ∧ ∃ Z ds, Ex Z H ∧ TabsK K Z ∧ Dens K (He.ga K) Z H ds vs [] ∧ PostF K (He.ga K) Z H (F ds) Q E
structure Dn (P : Program) (w : World) (K : PySem.W.Frag) (mg : Str → Option Value) (base : Heap) (k : Nat) (x : Str) (n : Nat) (F : List D → Ou D) : Prop where
  ex : ∃ (f : Addr) (fd : FuncData) (ps : List Str), mg x = some (.ref f) ∧ FnOk P w K mg base (L2.CX P w) k f fd ps (spF K n F) ∧ PySem.W.keepIn K (.ref f) = true ∧ Binds K fd ps []
section
variable {K : PySem.W.Frag} {cl : Str → Addr} {Z H Z' H' Z0 H0 : Hp}
theorem Slots.start : ∀ {ds : List D} {vs : List V} {fp : Fp} (m : Nat), Dens K cl Z H ds vs fp → Slots K cl Z H (ds.map some ++ List.replicate m none) (vs.map some ++ List.replicate m none) fp
  | [], vs, fp, m, h => by
    obtain ⟨e1, e2⟩ := h
    subst e1 e2
    induction m with
    | zero => exact ⟨rfl, rfl⟩
    | succ m ih => exact ⟨none, _, rfl, ih⟩
  | d :: ds, vs, fp, m, h => by
    obtain ⟨v, vr, f1, f2, e1, e2, q, r⟩ := h.cons'
    subst e1
    exact ⟨v, _, f1, f2, rfl, e2, q, Slots.start m r⟩
end
theorem fnF {P : Program} {w : World} {K : PySem.W.Frag} {mg : Str → Option Value} {base : Heap} {x qual : Str} {params : Arguments} {body : List Stmt} {scope : Scope} {dvs : List V} {kws : List (Str × V)} {f : Addr} {fd : FuncData} {N ps : List Str} {k : Nat} {g : Env → Os}
    (F : FunD K x qual params body scope dvs kws f fd) (S : FnScope N ps scope)
    (hb : ∀ (cdv : Value) (A : Around) (outer : List PySem.Env) (s : Shared) (H : Hp) (E : XK), Ctx (cxOf (L2.CX P w) P w K mg base N qual scope f cdv A outer s H E) (fun cls d _ H => E cls d H) k →
      DSs (cxOf (L2.CX P w) P w K mg base N qual scope f cdv A outer s H E) (fun cls d _ H => E cls d H) body g) : FnOk P w K mg base (L2.CX P w) (k + 1) f fd ps (spF K ps.length (runF N.length g)) := by
  refine F.ok S (fun vs H Q E h => h.1) fun cdv A outer s H vs Q E hr hsp => ?_
  obtain ⟨hl, Z, ds, ez, tk, dn, q⟩ := hsp
  have C : Ctx (cxOf (L2.CX P w) P w K mg base N qual scope f cdv A outer s H E) (fun cls d _ H => E cls d H) k := ⟨rfl, hr, passes_of rfl, takes_of rfl rfl rfl rfl, S.nd⟩
  refine ⟨_, (hb cdv A outer s H E C).run Z H, Z, ds.map some ++ List.replicate (N.length - ds.length) none, ⟨Gr.refl ez, tk, [], ?_, List.nodup_nil, fun _ z => nomatch z⟩, ?_⟩
  · have e : vs.length = ds.length := dn.length
    show Slots _ _ _ _ _ (vs.map some ++ List.replicate (N.length - vs.length) none) _
    rw [e]
    exact Slots.start _ dn
  · unfold runF at q
    cases e : g (ds.map some ++ List.replicate (N.length - ds.length) none) with
    | nx ρ => rw [e] at q; exact fun σ Z' H' s' => q .non Z' H' [] s'.g ⟨rfl, rfl⟩ List.nodup_nil fun _ z => nomatch z
    | rt d => rw [e] at q; exact fun v Z' H' fp g1 h nd fr => q v Z' H' fp g1 h nd fr
    | ex c ns xs ρ => rw [e] at q; exact fun dc σ Z' H' s' x => q dc Z' H' s'.g x
    | bk ρ => rw [e] at q; exact q.elim
    | ct ρ => rw [e] at q; exact q.elim
    | bad => rw [e] at q; exact q.elim
theorem dn_of {P : Program} {w : World} {K : PySem.W.Frag} {mg : Str → Option Value} {base : Heap} {x : Str} {params : Arguments} {body : List Stmt} {scope : Scope} {f : Addr} {fd : FuncData} {N ps : List Str} {k : Nat} {g : Env → Os}
    (F : FunD K x x params body scope [] [] f fd) (hm : mg x = some (.ref f)) (S : FnScope N ps scope)
    (hbi : ∀ (kV doc pm : Value) (an : Option Addr) (cdv ct : Value) (us : List Value), us.length = ps.length → bindArgs (PySem.W.fnOf x x params body scope .none kV doc pm an cdv ct) ⟨us, []⟩ = pure (ps.zip us))
    (hb : ∀ (cdv : Value) (A : Around) (outer : List PySem.Env) (s : Shared) (H : Hp) (E : XK), Ctx (cxOf (L2.CX P w) P w K mg base N x scope f cdv A outer s H E) (fun cls d _ H => E cls d H) k →
      DSs (cxOf (L2.CX P w) P w K mg base N x scope f cdv A outer s H E) (fun cls d _ H => E cls d H) body g) : Dn P w K mg base (k + 1) x ps.length (runF N.length g) :=
  ⟨f, fd, ps, hm, fnF F S hb, F.kp, F.bindsN hbi⟩
def callR (F : List D → Ou D) (ds : List D) : Ou D := match F (D.frzs ds) with
  | .ok d => if D.fzs ds || d.cln then .ok d else .bad
  | .ex c ns xs => if D.fzs ds || D.clns xs then .ex c ns xs else .bad
  | .bad => .bad
def dCall (F : List D → Ou D) (t : Env → Ou (List D)) : Env → Ou D := fun ρ => t ρ >>= callR F
mutual
theorem frz_fz : ∀ d : D, d.fz = true → d.frz = d
  | .non, _ => rfl
  | .bl _, _ => rfl
  | .int _, _ => rfl
  | .str _, _ => rfl
  | .tup xs, h => by
    simp only [D.frz]
    rw [frzs_fzs xs h]
  | .lst true xs, h => by
    have h' : false = true := h
    cases h'
  | .lst false xs, h => rfl
  | .ins _ _ _, _ => rfl
  | .scr _, _ => rfl
  | .adr _, _ => rfl
  | .cls _, _ => rfl
  | .pin _, _ => rfl
  | .err _ _ _, _ => rfl
  | .own _ _ _ _, h => by
    have h' : false = true := h
    cases h'
  | .lsa _ _, h => by
    have h' : false = true := h
    cases h'
  | .dct true _ _, h => by
    have h' : false = true := h
    cases h'
  | .dct false _ _, _ => rfl
  | .lok _ _, _ => rfl
  | .wth _ _, h => by
    have h' : false = true := h
    cases h'
theorem frzs_fzs : ∀ ds : List D, D.fzs ds = true → D.frzs ds = ds
  | [], _ => rfl
  | d :: ds, h => by
    obtain ⟨h1, h2⟩ := band (show (d.fz && D.fzs ds) = true from h)
    simp only [D.frzs]
    rw [frz_fz d h1, frzs_fzs ds h2]
end
section
variable {K : PySem.W.Frag} {cl : Str → Addr} {Z H Z' H' Z0 H0 : Hp}
theorem ExD.clean {Y : Hp} {ns : List Str} {xs : List D} {dc : Option Addr} (k : ∀ a, Z a = Y a ∨ (Z a = none ∧ ∃ xs : Mo, Y a = some xs.o)) (c : D.clns xs = true) (h : ExD K cl Y H ns xs dc) : ExD K cl Z H ns xs dc := by
  rcases h with h | ⟨d, vs, e1, e2, e3, e4⟩
  · exact .inl h
  · refine .inr ⟨d, vs, e1, ?_, e3, Dens.clean k xs vs [] c e4⟩
    rcases k d with z | ⟨_, ys, z⟩
    · exact z.trans e2
    · rw [z] at e2; exact Mo.ne e2
theorem spF_of {n : Nat} {F : List D → Ou D} {ds : List D} {vs : List V} {fp : Fp} {Q : VK} {W : WX} {σ : L2.St} (s : Ex Z H) (tk : TabsK K Z) (dn : Dens K (He.ga K) Z H ds vs fp) (hn : vs.length = n) (q : PostO K (He.ga K) W Z H σ (callR F ds) Q) : spF K n F vs H Q (WE W σ) := by
  have own : ∀ a ∈ fp, Z a = none := fun a ha => (Dens.own ds vs fp dn a ha).1
  have own2 : ∀ a ∈ fp, ∃ xs : Mo, H a = some xs.o := fun a ha => (Dens.own ds vs fp dn a ha).2
  have ez := frzH_ex (H := H) own
  have es : Ex (frzH Z H fp) H := frzH_to s own2
  refine ⟨hn, frzH Z H fp, D.frzs ds, es, tk.ex ez, Dens.freeze ez ds vs fp (fun a ha => if_pos ha) dn, ?_⟩
  -- back from a state over the frozen one
  have back : ∀ {Z2 H2 : Hp}, Gr (frzH Z H fp) H Z2 H2 → Gr Z H (cutH Z2 fp) H2 ∧ ∀ a, cutH Z2 fp a = Z2 a ∨ (cutH Z2 fp a = none ∧ ∃ xs : Mo, Z2 a = some xs.o) := fun {Z2 H2} g => by
    have sub : Ex (cutH Z2 fp) Z2 := .sub fun a o e => by
      unfold cutH at e
      split at e
      · cases e
      · exact e
    refine ⟨⟨(ez.trans g.z).chg fun a => ?_, g.h, sub.trans g.s, fun a h1 h2 => ?_⟩, fun a => ?_⟩
    · by_cases hm : a ∈ fp
      · obtain ⟨xs, e⟩ := own2 a hm
        exact .inr ⟨own a hm, xs, g.z.l ((if_pos hm).trans e)⟩
      · exact .inl (if_neg hm)
    · by_cases hm : a ∈ fp
      · exact if_pos hm
      · exact (if_neg hm).trans (g.n a h1 ((if_neg hm).trans h2))
    · by_cases hm : a ∈ fp
      · obtain ⟨xs, e⟩ := own2 a hm
        exact .inr ⟨if_pos hm, xs, g.z.l ((if_pos hm).trans e)⟩
      · exact .inl (if_neg hm)
  have fz0 : D.fzs ds = true → fp = [] := fun c => Dens.fz ds vs fp c dn
  have cut0 : ∀ {Z2 : Hp}, fp = [] → cutH Z2 fp = Z2 := fun {Z2} e => by
    subst e
    funext a
    exact if_neg (fun z => nomatch z)
  unfold callR at q
  cases e : F (D.frzs ds) with
  | bad => rw [e] at q; exact q.elim
  | ok d =>
    rw [e] at q
    have q : PostO K (He.ga K) W Z H σ (if D.fzs ds || d.cln then .ok d else .bad) Q := q
    split at q
    · rename_i c
      intro v Z2 H2 f g dd nd fr
      obtain ⟨g', kk⟩ := back g
      refine q v (cutH Z2 fp) H2 f g' ?_ nd fr
      rcases Bool.or_eq_true_iff.mp c with c | c
      · rw [cut0 (fz0 c)]; exact dd
      · exact Den.clean kk d v f c dd
    · exact q.elim
  | ex c ns xs =>
    rw [e] at q
    have q : PostO K (He.ga K) W Z H σ (if D.fzs ds || D.clns xs then .ex c ns xs else .bad) Q := q
    split at q
    · rename_i cc
      intro dc Z2 H2 g x
      obtain ⟨g', kk⟩ := back g
      refine q dc (cutH Z2 fp) H2 g' ?_
      rcases Bool.or_eq_true_iff.mp cc with c | c
      · rw [cut0 (fz0 c)]; exact x
      · exact ExD.clean kk c x
    · exact q.elim
end
section
variable {X : Cx} {W : WX} {k j n : Nat} {e : Expr} {es : List Expr} {t : Env → Ou (List D)} {pos p : Pos} {x : Str} {F : List D → Ou D}
theorem DE.call (C : Ctx X W k) (G : Dn X.prog X.w X.K X.mg X.base j x n F) (ha : DAB X W (e :: es) t) (hk : j ≤ k := by decide) (hn : ((e :: es).length == n) = true := by rfl) (hg : Gl X x := by rfl)
    (hdb : (x == ("__debug__" : Str)) = false := by decide) (he : starEach (e :: es) X.env = (false, eval e X.env) :: starEach es X.env := by rfl) (hpl : (backTo pos (starEach es X.env)).any (·.1) = false := by rfl) : DE X W (.Call (.Name x p) (e :: es) [] pos) (dCall F t) := by
  obtain ⟨f, fd, ps, hm, ok, kp, hb⟩ := G.ex
  refine ⟨PE.weak (pe_callS ok (C.hr.mono hk) hg hm kp hb (fun σ => passAt C.tk σ) ha.run hdb he hpl) fun σ H Q hq => ?_⟩
  obtain ⟨Z, ρ, r, q⟩ := hq
  refine tVs_bind (P := fun Z H o => PostO X.K (He.ga X.K) W Z H σ o Q) r (fun _ _ _ z => z) (fun z => z) q fun ds vs Z1 H1 fp ex g1 dn q => ?_
  refine spF_of g1.s (r.t.ex g1.z) dn ?_ (PostO.gr q g1)
  rw [dn.length, ha.len ρ ds ex]
  exact beq_iff_eq.mp hn
end
inductive BT where
  | int | bool | tuple | list | str
def BT.nm : BT → String
  | .int => "int"
  | .bool => "bool"
  | .tuple => "tuple"
  | .list => "list"
  | .str => "str"
def BT.st : BT → Str
  | .int => "int"
  | .bool => "bool"
  | .tuple => "tuple"
  | .list => "list"
  | .str => "str"
theorem BT.boot : ∀ b : BT, bootBuiltins b.st = some (.type b.nm)
  | .int => boot_int
  | .bool => boot_bool
  | .tuple => boot_tuple
  | .list => boot_list
  | .str => boot_str
theorem BT.ne : ∀ b : BT, b.st ≠ "__name__" := by intro b; cases b <;> decide
theorem BT.nd : ∀ b : BT, (b.st == ("__debug__" : Str)) = false := by intro b; cases b <;> decide
def isiD : BT → D → Option Bool
  | .int, .int _ => some true
  | .int, .bl _ => some true
  | .bool, .bl _ => some true
  | .tuple, .tup _ => some true
  | .list, .lst _ _ => some true
  | .str, .str _ => some true
  | _, .non => some false
  | _, .int _ => some false
  | _, .bl _ => some false
  | _, .tup _ => some false
  | _, .lst _ _ => some false
  | _, .str _ => some false
  | _, _ => none
def dIsi (b : BT) (f : Env → Ou D) : Env → Ou D := fun ρ => f ρ >>= fun d => ofO ((isiD b d).map .bl)
theorem tyx_tup {K : PySem.W.Frag} {H : Hp} {a : Addr} {vs : List V} (h : SqT K H a vs) : TyX K H (.ref a) (.type "tuple") := by
  rcases h with (h | ⟨o, h⟩) | ⟨o, its, n, h1, h2, _⟩
  · exact .base (.tup h)
  · exact .fTuple h
  · exact .kTuple h1 h2
theorem isi_core {K : PySem.W.Frag} {cl : Str → Addr} {Z H : Hp} {d : D} {v : V} {fp : Fp} (s : Ex Z H) (h : Den K cl Z H d v fp) (b : BT) {r : Bool} (e : isiD b d = some r) :
    ∃ t, TyX K H v (.type t) ∧ PySem.W.kitOne K (.type t) (.type b.nm) = some r := by
  cases d with
  | non =>
    rw [h.1]
    refine ⟨"NoneType", .base .non, kit_ty ?_⟩
    cases b <;> cases e <;> decide +kernel
  | bl c =>
    rw [h.1]
    refine ⟨"bool", .base (.bl c), kit_ty ?_⟩
    cases b <;> cases e <;> decide +kernel
  | int i =>
    rw [h.1]
    refine ⟨"int", .base (.int i), kit_ty ?_⟩
    cases b <;> cases e <;> decide +kernel
  | str x =>
    rw [h.1]
    refine ⟨"str", .base (.str x), kit_ty ?_⟩
    cases b <;> cases e <;> decide +kernel
  | tup xs =>
    obtain ⟨a, vs, rfl, q, _⟩ := h.tupH s
    refine ⟨"tuple", tyx_tup q, kit_ty ?_⟩
    cases b <;> cases e <;> decide +kernel
  | lst o xs =>
    obtain ⟨a, vs, f, rfl, q, _⟩ := h.lstH s
    refine ⟨"list", .base (.lst q), kit_ty ?_⟩
    cases b <;> cases e <;> decide +kernel
  | ins c ns xs => cases b <;> cases e
  | scr ns => cases b <;> cases e
  | adr a => cases b <;> cases e
  | cls c => cases b <;> cases e
  | pin a => cases b <;> cases e
  | err c ns xs => cases b <;> cases e
  | own oa c ns xs => cases b <;> cases e
  | lsa a xs => cases b <;> cases e
  | dct o ks xs => cases b <;> cases e
  | lok ks xs => cases b <;> cases e
  | wth x ds => cases b <;> cases e
theorem DE.isi {X : Cx} {W : WX} {a : Expr} {f : Env → Ou D} {pos p q : Pos} (b : BT) (ha : DB X W a f) (hm : X.mg "isinstance" = none) (hmb : X.mg b.st = none) (hg : Gl X "isinstance" := by rfl) (hgb : Gl X b.st := by rfl)
    (he : starEach [a, .Name b.st q] X.env = (false, eval a X.env) :: starEach [.Name b.st q] X.env := by rfl) (he2 : starEach [.Name b.st q] X.env = (false, eval (.Name b.st q) X.env) :: starEach [] X.env := by rfl) (hpl : (backTo pos (starEach [.Name b.st q] X.env)).any (·.1) = false := by rfl) :
    DE X W (.Call (.Name "isinstance" p) [a, .Name b.st q] [] pos) (dIsi b f) := by
  refine ⟨PE.weak (pe_callB call_isi hg hm boot_isinstance (pa_cons ha.run (pa_cons (pe_bltn (v := .ty b.nm) hgb hmb b.boot rfl b.ne b.nd) pa_nil he2) he) (by decide) (by decide) he hpl) fun σ H Q hq => ?_⟩
  obtain ⟨Z, ρ, r, q⟩ := hq
  refine tV_bind (P := fun Z H o => PostO X.K (He.ga X.K) W Z H σ o Q) r (fun _ _ _ z => z) (fun z => z) q fun d v Z1 H1 fx ex g1 dx q => ?_
  have q := PostO.gr q g1
  match e : isiD b d with
  | some c =>
    rw [e] at q
    obtain ⟨t, h1, h2⟩ := isi_core g1.s dx b e
    exact ⟨v, .ty b.nm, _, _, c, rfl, .ty _, h1, h2, PostV.bl g1.s q⟩
  | none => rw [e] at q; exact q.elim
end DL
namespace DL
open PySem PySem.Spec PyProof.Rows L2
variable [Tb]
theorem _root_.L2.Room.units65 {k : Nat} {A : Around} (r : Room k A) : A.units + 65 < cLine := by have := r.un; omega
def TabsH (K : PySem.W.Frag) (h : Heap) : Prop := ∀ p ∈ lamP K, PySem.W.CodeHd h (He.cT K p.1).1 (He.cT K p.1).2 ∧ K.lookup (He.cT K p.1).2 = none ∧ h.get? (He.cT K p.1).2 = some { cls := .none, data := .fields #[] }
def TabsB (K : PySem.W.Frag) (mg : Str → Option Value) (base : Heap) : Prop := ∀ p ∈ lamP K, LamX.TabB base mg (He.cT K p.1).1 (He.cT K p.1).2
theorem walk_ofX {l : PySem.W.OpenLaw} {n k : Nat} {q : Program} {loose : List Str} {XP : (Str → Option Value) → Heap → Prop} {YP : World → Heap → Prop} {d : DefRec} {x : Str} {F : List D → Ou D}
    (hn : l.most = some n) (hn2 : n ≤ sizeLine) (hdf : d.params.defaults = []) (hr : Room k callerA)
    (hF : ∀ (w : World) (mg : Str → Option Value) (fa : Addr) (h : Heap), YP w h → h.Ns mainGlobals mg → mg d.name = some (.ref fa) →
      ∃ (K : PySem.W.Frag) (fd : FuncData), K.In h ∧ TabsH K h ∧ (∀ (s : Shared) (u : Value), BindsTo s fd ⟨[u], []⟩ [(x, u)]) ∧
        ∀ base : Heap, K.In base → base.Ns mainGlobals mg → TabsB K mg base → FnOk l.prog w K mg base (L2.CX l.prog w) k fa fd [x] (@spF ⟨tabsOf K⟩ K 1 F))
    (hp : ∀ ns : List Int, ns.length ≤ n → F [.scr ns] = .ok (.bl true)) :
    PySem.W.WalkO q loose XP YP l.row.toRowW d [] (fun f vs => PySem.call f vs) := by
  refine Att.attach_callB hn hdf fun w s₀ s₁ mg mb fa o pm cd doc a vs ns G Y ho hd hcd hmg hobj hints hlen hbits hg => ?_
  obtain ⟨K, fd, KX, hT, hb, hok⟩ := hF w mg fa _ Y G.T.g hmg
  letI : Tb := ⟨tabsOf K⟩
  have mem : ∀ c ∈ (lamP K).map (fun p => He.cT K p.1), ∃ p ∈ lamP K, He.cT K p.1 = c := fun c hc => List.mem_map.mp hc
  refine LamX.law_callTs (cs := (lamP K).map fun p => He.cT K p.1) KX G.T.g G.T.b G.T.builtins G.T.nolimit hg (fun c hc => ?_) (fun c hc => ?_) (fun c hc => ?_) G.T.bmain hobj hints (Nat.le_trans hlen hn2) hr
    (fun base h1 h2 h3 => hok base h1 h2 fun p hp => h3 _ (List.mem_map.mpr ⟨p, hp, rfl⟩)) hb (fun H hH hS => ?_) fun H e s' z => ?_
  · obtain ⟨p, hp, rfl⟩ := mem c hc
    exact (hT p hp).2.2
  · obtain ⟨p, hp, rfl⟩ := mem c hc
    exact (hT p hp).2.1
  · obtain ⟨p, hp, rfl⟩ := mem c hc
    exact (hT p hp).1
  · refine ⟨rfl, H, [.scr ns], Ex.refl H, fun p hp => ?_, ⟨_, [], [], [], rfl, rfl, ⟨a, rfl, rfl, hS⟩, ⟨rfl, rfl⟩⟩, ?_⟩
    · obtain ⟨p', hp', rfl⟩ := List.mem_map.mp hp
      exact LamX.TabS.nil (hH _ (List.mem_map.mpr ⟨p', hp', rfl⟩))
    · rw [hp ns hlen]
      intro v Z' H' fp g h _ _
      exact h.1
  · obtain ⟨_, _, _, _, _, _, _, _, _, _, _, _, z⟩ := z
    exact z
end DL
namespace DL
open PySem PySem.Spec PyProof.Rows L2
variable [Tb]
def pyLe (x y : PyData) : Bool := PySem.W.dataLe false (id : PyData → PyData) x y
def leB (x y : D) : Bool := pyLe x.py y.py
def pyTup1 : PyData → Bool
  | .tuple (_ :: _) => true
  | _ => false
def pyTupNone : PyData → Bool
  | .none => true
  | .tuple _ => true
  | _ => false
def sortOkP (ds : List PyData) : Bool := (ds.all fun x => ds.all fun y => PySem.W.alike x y) && (ds.all pyTup1 || ds.all fun d => !pyTupNone d)
def sortOk (xs : List D) : Bool := D.okds xs DEP && sortOkP (D.pys xs)
def sortL (xs : List D) : List D := xs.mergeSort leB
def sortN : List D → Option D
  | [.lst _ xs] => if D.fzs xs && sortOk xs && decide (xs.length ≤ LIM) then some (.lst true (sortL xs)) else none
  | _ => none
theorem sortOkP_ok {ds : List PyData} (h : sortOkP ds = true) : PySem.W.AllAlike ds ∧ PySem.W.Sortable ds := by
  obtain ⟨h1, h2⟩ := band h
  refine ⟨fun d hd d' hd' => List.all_eq_true.mp (List.all_eq_true.mp h1 d hd) d' hd', ?_⟩
  rcases Bool.or_eq_true_iff.mp h2 with h2 | h2
  · refine .inl fun d hd => ?_
    have q := List.all_eq_true.mp h2 d hd
    cases d with
    | tuple xs =>
      cases xs with
      | nil => cases q
      | cons x r => exact ⟨x, r, rfl⟩
    | _ => cases q
  · refine .inr fun d hd => ?_
    have q := List.all_eq_true.mp h2 d hd
    constructor
    · rintro rfl; cases q
    · rintro xs rfl; cases q
theorem pys_map : ∀ ds : List D, D.pys ds = ds.map D.py
  | [] => rfl
  | d :: ds => congrArg (d.py :: ·) (pys_map ds)
def rSortD (K : PySem.W.Frag) : List V → Hp → VK → Prop := fun vs H Q => ∃ (a : Addr) (ys : List V) (ds : List PyData), vs = [V.ref a] ∧ SqL K H a ys ∧ DpAll K H ys ds ∧ sortOkP ds = true ∧ (∀ d ∈ ds, d.depth ≤ DEP) ∧
  ∀ p, H p = none → Q (.ref p) (upd H p (.lst (((ys.zip ds).mergeSort (PySem.W.dataLe false fun p : V × PyData => p.2)).map (·.1))))
section
variable {X : Cx} {pins : List (Addr × Obj)} {σ : L2.St} {H : Hp} {s : Shared}
theorem sort_each (I : Inv X pins σ H s) : ∀ {ys : List V} {ds : List PyData} {its : List Value}, DpAll X.K H ys ds → Vals ys its →
    PySem.W.EachIs (fun (v : Value) (p : V × PyData) => RelV p.1 v) its (ys.zip ds) ∧ PySem.W.EachIs (fun (v : Value) (p : V × PyData) => ∃ as, Reads s.heap v p.2 as) its (ys.zip ds) ∧ (ys.zip ds).map (·.2) = ds ∧ ys.length = ds.length
  | _, _, _, .nil, h => by
    cases h
    exact ⟨.nil, .nil, rfl, rfl⟩
  | _, _, _, .cons (v := v) (vs := vs) (d := d) (ds := ds) h1 h2, h => by
    cases h with
    | cons r rs =>
      obtain ⟨q1, q2, q3, q4⟩ := sort_each I h2 rs
      exact ⟨.cons r q1, .cons (Dp.reads I _ _ _ h1 r) q2, congrArg (d :: ·) q3, congrArg (· + 1) q4⟩
theorem vals_out : ∀ {out : List Value} {ps : List (V × PyData)}, PySem.W.EachIs (fun (v : Value) (p : V × PyData) => RelV p.1 v) out ps → Vals (ps.map (·.1)) out
  | _, _, .nil => .nil
  | _, _, .cons r rs => .cons r (vals_out rs)
theorem call_sortD {X : Cx} (hu : X.A.units + 65 < cLine) : CallR X (.builtin "sorted") (rSortD X.K) := by
  intro pins s σ H vs us Q I r h
  obtain ⟨a, ys, ds, rfl, hs, hd, hok, hdep, q⟩ := h
  obtain ⟨its, rv, hl, hz⟩ := I.list hs
  rw [Vals.ref1 r]
  obtain ⟨e1, e2, e3, e4⟩ := sort_each I hd rv
  obtain ⟨o1, o2⟩ := sortOkP_ok hok
  have hzl : (ys.zip ds).length = ys.length := by rw [List.length_zip, e4, Nat.min_self]
  refine PySem.W.sorted_data (enc := fun p : V × PyData => p.2) hl.isList e1 e2 (by rw [e3]; exact o1) (by rw [e3]; exact o2) (by rw [hzl]; exact hz) (fun p hp => ?_) fun out h1 h2 => ?_
  · have hm : p.2 ∈ ds := by rw [← e3]; exact List.mem_map_of_mem hp
    have := hdep _ hm
    have : DEP = 20 := rfl
    omega
  · obtain ⟨ep, he'⟩ := PyProof.Rows.sortedAll_at s.heap its out.toArray
    have rv' := vals_out h2
    refine ⟨.ref _, upd H (s.heap.objs.size + 1) (.lst (((ys.zip ds).mergeSort (PySem.W.dataLe false fun p : V × PyData => p.2)).map (·.1))),
      I.laid (t' := s.toks) (fun _ _ => PyProof.Rows.sortedAll_old) (Nat.le_succ _) ⟨?_, out, ep, rv', he'⟩, rfl, q _ (I.hok.fresh (Nat.le_succ _))⟩
    rw [List.length_map, List.length_mergeSort, hzl]
    exact hz
end
section
variable {K : PySem.W.Frag} {cl : Str → Addr} {Z H Z' H' : Hp}
theorem dens_perm : ∀ {ps qs : List (V × D)}, ps.Perm qs → (∀ p ∈ ps, Den K cl Z H p.2 p.1 []) → Dens K cl Z H (qs.map (·.2)) (qs.map (·.1)) [] := by
  intro ps qs hp h
  have h' : ∀ p ∈ qs, Den K cl Z H p.2 p.1 [] := fun p m => h p (hp.mem_iff.mpr m)
  clear h hp
  induction qs with
  | nil => exact ⟨rfl, rfl⟩
  | cons q qs ih => exact ⟨q.1, qs.map (·.1), [], [], rfl, rfl, h' q (List.mem_cons_self ..), ih fun p m => h' p (List.mem_cons_of_mem _ m)⟩
theorem dens_zip : ∀ {ds : List D} {vs : List V}, Dens K cl Z H ds vs [] → ∀ p ∈ vs.zip ds, Den K cl Z H p.2 p.1 []
  | [], vs, h, p, m => by
    rw [h.1] at m
    cases m
  | d :: ds, vs, h, p, m => by
    obtain ⟨v, vr, f1, f2, e1, e2, q, r⟩ := h.cons'
    subst e1
    have ef := List.append_eq_nil_iff.mp e2.symm
    obtain ⟨rfl, rfl⟩ := ef
    rcases List.mem_cons.mp m with rfl | m
    · exact q
    · exact dens_zip r p m
theorem zip_py : ∀ (ds : List D) (vs : List V), vs.length = ds.length → (vs.zip ds).map (fun p => (p.1, p.2.py)) = vs.zip (D.pys ds)
  | [], vs, h => by cases vs <;> rfl
  | d :: ds, [], h => by cases h
  | d :: ds, v :: vs, h => congrArg ((v, d.py) :: ·) (zip_py ds vs (Nat.succ.inj h))
theorem depth_all : ∀ {ds : List PyData} {n : Nat}, PyData.depthAll ds ≤ n → ∀ d ∈ ds, d.depth ≤ n
  | [], n, h, d, m => nomatch m
  | x :: xs, n, h, d, m => by
    simp only [PyData.depthAll] at h
    rcases List.mem_cons.mp m with rfl | m
    · exact Nat.le_trans (Nat.le_max_left _ _) h
    · exact depth_all (Nat.le_trans (Nat.le_max_right _ _) h) d m
theorem opN_sort : OpN K cl (rSortD K) sortN := by
  intro Z H xs d vs fp Q s h e q
  unfold sortN at e
  split at e
  · rename_i o xs
    split at e
    · rename_i c
      cases e
      obtain ⟨c, c3⟩ := band c
      obtain ⟨c1, c2⟩ := band c
      obtain ⟨c2, c4⟩ := band c2
      obtain ⟨v, rfl, hv⟩ := h.one'
      obtain ⟨a, ys, f, rfl, hq, hd, _⟩ := hv.lstH s
      have hd := Dens.fz0 c1 hd
      refine ⟨a, ys, D.pys xs, rfl, .inl (.inl hq), Dens.dp s xs DEP ys [] c2 hd, c4, depth_all (okds_lay xs DEP c2).2, fun p hp => ?_⟩
      have el : ys.length = xs.length := hd.length
      have em : ((ys.zip xs).mergeSort (fun p q => leB p.2 q.2)).map (fun p => (p.1, p.2.py)) = (ys.zip (D.pys xs)).mergeSort (PySem.W.dataLe false fun p : V × PyData => p.2) := by
        rw [← zip_py xs ys el]
        exact List.map_mergeSort fun a _ b _ => rfl
      have e1 : ((ys.zip (D.pys xs)).mergeSort (PySem.W.dataLe false fun p : V × PyData => p.2)).map (·.1) = ((ys.zip xs).mergeSort (fun p q => leB p.2 q.2)).map (·.1) := by
        rw [← em, List.map_map]
        rfl
      have e2 : ((ys.zip xs).mergeSort (fun p q => leB p.2 q.2)).map (·.2) = sortL xs := by
        have : ((ys.zip xs).mergeSort (fun p q => leB p.2 q.2)).map (·.2) = ((ys.zip xs).map (·.2)).mergeSort leB := List.map_mergeSort fun a _ b _ => rfl
        rw [this, List.map_snd_zip (by rw [el]; exact Nat.le_refl _)]
        rfl
      rw [e1]
      have r := dens_perm (List.mergeSort_perm (ys.zip xs) (fun p q => leB p.2 q.2)).symm (dens_zip hd)
      rw [e2] at r
      exact PostV.lst0 q s r p hp
    · cases e
  · cases e
end
end DL
namespace DL
open PySem PySem.Spec PyProof.Rows L2
variable [Tb]
section
variable {K : PySem.W.Frag} {cl : Str → Addr} {Z H Z' H' Z0 H0 Z1 H1 : Hp} {σ : L2.St} {ρ : Env} {W : WX}
theorem Sta.list2 {i j : Nat} {xs ys : List D} (s : Sta K cl Z0 H0 Z H σ ρ) (e : ρ[i]? = some (some (.lst true xs))) (e2 : xs[j]? = some (.lst true ys)) :
    ∃ (a : Addr) (vs : List V) (b : Addr) (ws : List V) (fq rest : Fp), σ[i]? = some (some (.ref a)) ∧ H a = some (.lst vs) ∧ vs.length = xs.length ∧ vs[j]? = some (.ref b) ∧ H b = some (.lst ws) ∧ Dens K cl Z H ys ws fq ∧ (b :: (fq ++ rest)).Nodup ∧
      (∀ c ∈ b :: (fq ++ rest), H c ≠ none ∧ H0 c = none ∧ Z c = none) ∧
      ∀ (Z1 H1 : Hp) (ws' : List V) (ys' : List D) (fq' : Fp), Gr Z H Z1 H1 → fq'.Nodup → (∀ c ∈ fq', c ≠ b ∧ c ∉ rest ∧ H0 c = none) → Dens K cl Z1 (upd H1 b (.lst ws')) ys' ws' fq' →
        Sta K cl Z0 H0 Z1 (upd H1 b (.lst ws')) σ (ρ.set i (some (.lst true (xs.set j (.lst true ys'))))) := by
  obtain ⟨fp, sl, nd, fr⟩ := s.e
  obtain ⟨v, f, rest0, h1, h2, h3, h4⟩ := sl.split e
  simp only [Den] at h2
  obtain ⟨a, vs, fq0, e1, ef, za, q, r⟩ := h2
  subst e1 ef
  obtain ⟨u, f2, rest1, k1, k2, k3, k4⟩ := Dens.split r e2
  simp only [Den] at k2
  obtain ⟨b, ws, fq, e3, ef2, zb, qb, rb⟩ := k2
  subst e3 ef2
  have pm : fp.Perm (b :: (fq ++ (a :: (rest1 ++ rest0)))) := by
    refine h3.trans ?_
    show (a :: (fq0 ++ rest0)).Perm _
    refine (List.Perm.cons a (List.Perm.append_right rest0 k3)).trans ?_
    show (a :: (b :: (fq ++ rest1) ++ rest0)).Perm _
    have p1 : (a :: (b :: (fq ++ rest1) ++ rest0)).Perm (b :: (a :: (fq ++ rest1) ++ rest0)) := List.Perm.swap b a _
    refine p1.trans (List.Perm.cons b ?_)
    show (a :: (fq ++ rest1 ++ rest0)).Perm _
    rw [List.append_assoc]
    exact List.perm_middle.symm
  have nd2 : (b :: (fq ++ (a :: (rest1 ++ rest0)))).Nodup := pm.nodup_iff.mp nd
  have mm : ∀ c ∈ b :: (fq ++ (a :: (rest1 ++ rest0))), c ∈ fp := fun c hc => pm.symm.mem_iff.mp hc
  have ow : ∀ c ∈ b :: (fq ++ (a :: (rest1 ++ rest0))), Z c = none ∧ ∃ xs : Mo, H c = some xs.o := fun c hc => Slots.own sl c (mm c hc)
  have mrest : ∀ c ∈ a :: (rest1 ++ rest0), c ∈ b :: (fq ++ (a :: (rest1 ++ rest0))) := fun c hc => List.mem_cons_of_mem _ (List.mem_append_right _ hc)
  refine ⟨a, vs, b, ws, fq, a :: (rest1 ++ rest0), h1, q, r.length, k1, qb, rb, nd2, fun c hc => ?_, fun Z1 H1 ws' ys' fq' g nf dj dn => ?_⟩
  · obtain ⟨z, xs, q'⟩ := ow c hc
    exact ⟨by rw [q']; exact Option.some_ne_none _, fr c (mm c hc), z⟩
  · have ndb := List.nodup_cons.mp nd2
    have s1 := s.gr g
    have nb : ∀ c ∈ a :: (rest1 ++ rest0), c ≠ b := fun c hc z => ndb.1 (z ▸ List.mem_append_right _ hc)
    have hr : ∀ c ∈ a :: (rest1 ++ rest0), Z1 c = none ∧ upd H1 b (.lst ws') c = H c := fun c hc => by
      obtain ⟨z, q'⟩ := ow c (mrest c hc)
      obtain ⟨b1, b2⟩ := g.own z q'
      exact ⟨b1, by rw [upd_ne (nb c hc)]; exact b2⟩
    have zb1 := (g.own zb ⟨.l ws, qb⟩).1
    obtain ⟨fq1, m1, m2⟩ := k4 Z1 (upd H1 b (.lst ws')) (.lst true ys') (.ref b) (b :: fq') g.z (fun c hc => hr c (List.mem_cons_of_mem _ (List.mem_append_left _ hc))) (by
      simp only [Den]
      exact ⟨b, ws', fq', rfl, rfl, zb1, upd_same, dn⟩)
    have evs : vs.set j (.ref b) = vs := by
      apply List.ext_getElem?
      intro n
      by_cases c : j = n
      · subst c
        by_cases c2 : j < vs.length
        · rw [List.getElem?_set_self c2, k1]
        · rw [List.getElem?_eq_none (by omega)] at k1; cases k1
      · rw [List.getElem?_set_ne c]
    rw [evs] at m1
    have ha := hr a List.mem_cons_self
    obtain ⟨fp', n1, n2⟩ := h4 Z1 (upd H1 b (.lst ws')) (.lst true (xs.set j (.lst true ys'))) (a :: fq1) g.z (fun c hc => hr c (List.mem_cons_of_mem _ (List.mem_append_right _ hc))) (by
      simp only [Den]
      exact ⟨a, vs, fq1, rfl, rfl, ha.1, ha.2.trans q, m1⟩)
    have pm' : fp'.Perm (b :: (fq' ++ (a :: (rest1 ++ rest0)))) := by
      refine n2.trans ?_
      show (a :: (fq1 ++ rest0)).Perm _
      refine (List.Perm.cons a (List.Perm.append_right rest0 m2)).trans ?_
      show (a :: (b :: (fq' ++ rest1) ++ rest0)).Perm _
      have p1 : (a :: (b :: (fq' ++ rest1) ++ rest0)).Perm (b :: (a :: (fq' ++ rest1) ++ rest0)) := List.Perm.swap b a _
      refine p1.trans (List.Perm.cons b ?_)
      show (a :: (fq' ++ rest1 ++ rest0)).Perm _
      rw [List.append_assoc]
      exact List.perm_middle.symm
    have lb : ∃ xs : Mo, H1 b = some xs.o := ⟨.l ws, g.h.l qb⟩
    refine ⟨⟨s1.g.z, s1.g.h.mut (fr b (mm b List.mem_cons_self)) lb, s1.g.s.mut zb1 lb, s1.g.n⟩, s1.t, fp', n1, ?_, fun c hc => ?_⟩
    · refine pm'.symm.nodup_iff.mp ?_
      rw [List.nodup_cons, List.nodup_append]
      refine ⟨fun hm => ?_, nf, (List.nodup_append.mp ndb.2).2.1, fun x hx y hy c => (dj x hx).2.1 (c ▸ hy)⟩
      rcases List.mem_append.mp hm with z | z
      · exact (dj b z).1 rfl
      · exact ndb.1 (List.mem_append_right _ z)
    · rcases List.mem_cons.mp (pm'.mem_iff.mp hc) with z | z
      · subst z; exact fr c (mm c List.mem_cons_self)
      · rcases List.mem_append.mp z with z | z
        · exact (dj c z).2.2
        · exact fr c (mm c (mrest c z))
end
section
variable {X : Cx} {W : WX} {st : Stmt} {rest : List Stmt} {a b e c : Expr} {f g : Env → Ou D} {k h : Env → Os} {p : Env → Ou Bool} {pos : Pos}
theorem atI_of {α : Type} {xs : List α} {n : Nat} {k : Int} {j : Nat} {x : α} (hn : xs.length = n) (e : ixN n k = some j) (h : xs[j]? = some x) : atI xs k = some x := by
  unfold atI
  rw [hn, e]
  exact h
def sMove (m i : Nat) (g : Env → Ou D) : Env → Os := fun ρ => match ρ[i]? with
  | some (some (.lst true xs)) => ofU (g ρ) ρ fun k => match k with
    | .int k => match ixN xs.length k with
      | some j => match xs[j]? with
        | some (.lst true ys) => if m < ρ.length then .nx ((ρ.set i (some (.lst true (xs.set j (.adr 0))))).set m (some (.lst true ys))) else .bad
        | _ => .bad
      | none => .bad
    | _ => .bad
  | _ => .bad
end
end DL
namespace DL
open PySem PySem.Spec PyProof.Rows L2
variable [Tb]
def setAllE : Env → List Nat → List D → Env
  | ρ, i :: is, d :: ds => setAllE (ρ.set i (some d)) is ds
  | ρ, _, _ => ρ
def setAllV : L2.St → List Nat → List V → L2.St
  | σ, i :: is, v :: vs => setAllV (σ.set i (some v)) is vs
  | σ, _, _ => σ
def gAll : List Nat → TGs
  | [] => gNil
  | i :: is => gCons (gName i) (gAll is)
theorem gAll_of : ∀ (is : List Nat) (vs : List V) (σ : L2.St) (H : Hp) (Q : L2.St → Hp → Prop), vs.length = is.length → Q (setAllV σ is vs) H → gAll is vs σ H Q
  | [], [], σ, H, Q, _, q => ⟨rfl, q⟩
  | i :: is, v :: vs, σ, H, Q, l, q => ⟨v, vs, rfl, gAll_of is vs _ H Q (Nat.succ.inj l) q⟩
section
variable {K : PySem.W.Frag} {cl : Str → Addr} {Z H Z' H' Z0 H0 : Hp}
theorem Slots.setAll : ∀ {is : List Nat} {ds : List D} {vs : List V} {ρ : Env} {σ : L2.St} {fp g : Fp}, Slots K cl Z H ρ σ fp → fp.Nodup → Dens K cl Z H ds vs g → g.Nodup → (∀ a ∈ g, a ∉ fp) → ds.length = is.length → (∀ i ∈ is, i < ρ.length) →
    ∃ fp', Slots K cl Z H (setAllE ρ is ds) (setAllV σ is vs) fp' ∧ fp'.Nodup ∧ ∀ a ∈ fp', a ∈ fp ∨ a ∈ g
  | [], [], vs, ρ, σ, fp, g, s, nd, d, ng, dj, _, _ => ⟨fp, by simpa [setAllE, setAllV] using s, nd, fun a h => .inl h⟩
  | i :: is, x :: ds, vs, ρ, σ, fp, g, s, nd, d, ng, dj, hl, hi => by
    obtain ⟨v, vr, g1, g2, e1, e2, q, r⟩ := d.cons'
    subst e1 e2
    have ng' := List.nodup_append.mp ng
    obtain ⟨fp1, a1, a2, a3⟩ := Slots.set (i := i) s nd q ng'.1 (fun a ha => dj a (List.mem_append_left _ ha)) (hi i List.mem_cons_self)
    obtain ⟨fp2, b1, b2, b3⟩ := Slots.setAll a1 a2 r ng'.2.1 (fun a ha hb => by
      rcases a3 a hb with z | z
      · exact dj a (List.mem_append_right _ ha) z
      · exact ng'.2.2 a z a ha rfl) (Nat.succ.inj hl) (fun j hj => by rw [List.length_set]; exact hi j (List.mem_cons_of_mem _ hj))
    refine ⟨fp2, b1, b2, fun a ha => ?_⟩
    rcases b3 a ha with z | z
    · rcases a3 a z with z | z
      · exact .inl z
      · exact .inr (List.mem_append_left _ z)
    · exact .inr (List.mem_append_right _ z)
theorem Sta.setAll {σ : L2.St} {ρ : Env} {ds : List D} {vs : List V} {fp : Fp} {is : List Nat} (s : Sta K cl Z0 H0 Z H σ ρ) (g1 : Gr Z H Z' H') (dn : Dens K cl Z' H' ds vs fp) (nd : fp.Nodup) (fr : ∀ a ∈ fp, H a = none) (hl : ds.length = is.length) (hi : ∀ i ∈ is, i < ρ.length) :
    Sta K cl Z0 H0 Z' H' (setAllV σ is vs) (setAllE ρ is ds) := by
  have s1 := s.gr g1
  obtain ⟨fq1, sl1, n1, f1⟩ := s.e
  have dj : ∀ a ∈ fp, a ∉ fq1 := fun a ha hb => by
    obtain ⟨_, xs, e⟩ := Slots.own sl1 a hb
    rw [fr a ha] at e; cases e
  have sl2 : Slots K cl Z' H' ρ σ fq1 := Slots.mono g1.z (fun a ha => by
    obtain ⟨z, xs, q⟩ := Slots.own sl1 a ha
    exact ⟨g1.n a (by rw [q]; exact Option.some_ne_none _) z, by rw [q]; exact g1.h.l q⟩) sl1
  obtain ⟨fp', a1, a2, a3⟩ := Slots.setAll sl2 n1 dn nd dj hl hi
  refine ⟨s1.g, s1.t, fp', a1, a2, fun a ha => ?_⟩
  rcases a3 a ha with z | z
  · exact f1 a z
  · exact s.g.h.back (fr a z)
end
def sTup (is : List Nat) (f : Env → Ou D) : Env → Os := fun ρ => ofU (f ρ) ρ fun d => match d with
  | .tup ds => if decide (ds.length = is.length) && is.all (fun i => decide (i < ρ.length)) then .nx (setAllE ρ is ds) else .bad
  | _ => .bad
section
variable {X : Cx} {W : WX} {e : Expr} {f : Env → Ou D} {pos p : Pos}
theorem GN.nil : PGs X [] (gAll []) := pgs_nil
theorem GN.cons (i : Nat) {is : List Nat} {x : Str} {es : List Expr} (hN : X.N.Nodup) (h : PGs X es (gAll is)) (hi : X.N[i]? = some x := by rfl) (hx : Loc X.env.scope x := by first | exact Or.inl rfl | exact Or.inr rfl) (hf : X.fn x = true ∨ X.env.scope.names.lookup x = some .local := by first | exact .inl rfl | exact .inr rfl | assumption)
    (hs : (assignEach (.Name x p :: es) X.env).map (·.2) = assign (.Name x p) X.env :: (assignEach es X.env).map (·.2) := by rfl) : PGs X (.Name x p :: es) (gAll (i :: is)) := pgs_cons (pg_name hN hi hx hf) h hs
end
def anyOf : D → Ou (List D)
  | .str x => chrsOf (.str x)
  | d => seqOf d
def anyOfB : D → Ou (List D)
  | .str x => chrsOf (.str x)
  | d => seqOfB d
def iAny (f : Env → Ou D) : Env → Ou (List D) := fun ρ => f ρ >>= anyOf
def iAnyB (f : Env → Ou D) : Env → Ou (List D) := fun ρ => f ρ >>= anyOfB
section
variable {X : Cx} {W : WX} {tg e : Expr} {f : Env → Ou D}
theorem DI.any (h : DE X W e f) : DI X W tg e (iAny f) := by
  refine ⟨PI.weak (DL.PI.or (DI.seq (tg := tg) h).run (DI.chr (tg := tg) (DB.ofE h)).run) fun σ H R hq => ?_⟩
  obtain ⟨Z, ρ, r, q⟩ := hq
  unfold iAny at q
  cases ef : f ρ with
  | ok d =>
    cases d with
    | str x =>
      refine .inr ⟨Z, ρ, r, ?_⟩
      unfold iChr
      rw [ef] at q ⊢
      exact q
    | _ =>
      refine .inl ⟨Z, ρ, r, ?_⟩
      unfold iSeq
      rw [ef] at q ⊢
      exact q
  | ex c ns xs =>
    refine .inl ⟨Z, ρ, r, ?_⟩
    unfold iSeq
    rw [ef] at q ⊢
    exact q
  | bad => rw [ef] at q; exact q.elim
theorem DIB.any (h : DB X W e f) : DIB X W tg e (iAnyB f) := by
  refine ⟨PI.weak (DL.PI.or (DIB.seq (tg := tg) h).run (DIB.of (DI.chr (tg := tg) h)).run) fun σ H R hq => ?_⟩
  obtain ⟨Z, ρ, r, q⟩ := hq
  unfold iAnyB at q
  cases ef : f ρ with
  | ok d =>
    cases d with
    | str x =>
      refine .inr ⟨Z, ρ, r, ?_⟩
      unfold iChr
      rw [ef] at q ⊢
      exact q
    | _ =>
      refine .inl ⟨Z, ρ, r, ?_⟩
      unfold iSeqB
      rw [ef] at q ⊢
      exact q
  | ex c ns xs =>
    refine .inl ⟨Z, ρ, r, ?_⟩
    unfold iSeqB
    rw [ef] at q ⊢
    exact q
  | bad => rw [ef] at q; exact q.elim
end
end DL
namespace DL
open PySem hiding Env
open PySem.Spec PyProof.Rows L2
section
variable (ρ : Env) (f g : Env → Ou D) (p q : Env → Ou Bool) (s t : Env → Os) (fs : Env → Ou (List D)) (i : Nat)
@[simp] theorem x_dC (d : D) : dC d ρ = .ok d := (rfl)
@[simp] theorem x_dVar0 (d : D) : dVar 0 (some d :: ρ) = .ok d := (rfl)
@[simp] theorem x_dVarS (o : Option D) (n : Nat) : dVar (n + 1) (o :: ρ) = dVar n ρ := (rfl)
@[simp] theorem x_dVar1 (o : Option D) : dVar 1 (o :: ρ) = dVar 0 ρ := (rfl)
@[simp] theorem x_dVar2 (o : Option D) : dVar 2 (o :: ρ) = dVar 1 ρ := (rfl)
@[simp] theorem x_dVar3 (o : Option D) : dVar 3 (o :: ρ) = dVar 2 ρ := (rfl)
@[simp] theorem x_dVar4 (o : Option D) : dVar 4 (o :: ρ) = dVar 3 ρ := (rfl)
@[simp] theorem x_dVar5 (o : Option D) : dVar 5 (o :: ρ) = dVar 4 ρ := (rfl)
@[simp] theorem x_dVar6 (o : Option D) : dVar 6 (o :: ρ) = dVar 5 ρ := (rfl)
@[simp] theorem x_dVar7 (o : Option D) : dVar 7 (o :: ρ) = dVar 6 ρ := (rfl)
@[simp] theorem x_dVar8 (o : Option D) : dVar 8 (o :: ρ) = dVar 7 ρ := (rfl)
@[simp] theorem x_dVar9 (o : Option D) : dVar 9 (o :: ρ) = dVar 8 ρ := (rfl)
@[simp] theorem x_dVar10 (o : Option D) : dVar 10 (o :: ρ) = dVar 9 ρ := (rfl)
@[simp] theorem x_dVar11 (o : Option D) : dVar 11 (o :: ρ) = dVar 10 ρ := (rfl)
@[simp] theorem x_dVar12 (o : Option D) : dVar 12 (o :: ρ) = dVar 11 ρ := (rfl)
@[simp] theorem x_dVar13 (o : Option D) : dVar 13 (o :: ρ) = dVar 12 ρ := (rfl)
@[simp] theorem x_dVar14 (o : Option D) : dVar 14 (o :: ρ) = dVar 13 ρ := (rfl)
@[simp] theorem x_dVar15 (o : Option D) : dVar 15 (o :: ρ) = dVar 14 ρ := (rfl)
@[simp] theorem x_dVar16 (o : Option D) : dVar 16 (o :: ρ) = dVar 15 ρ := (rfl)
@[simp] theorem x_dVar17 (o : Option D) : dVar 17 (o :: ρ) = dVar 16 ρ := (rfl)
@[simp] theorem x_dVar18 (o : Option D) : dVar 18 (o :: ρ) = dVar 17 ρ := (rfl)
@[simp] theorem x_dVar19 (o : Option D) : dVar 19 (o :: ρ) = dVar 18 ρ := (rfl)
@[simp] theorem x_dVar20 (o : Option D) : dVar 20 (o :: ρ) = dVar 19 ρ := (rfl)
@[simp] theorem x_dVar21 (o : Option D) : dVar 21 (o :: ρ) = dVar 20 ρ := (rfl)
@[simp] theorem x_dVar22 (o : Option D) : dVar 22 (o :: ρ) = dVar 21 ρ := (rfl)
@[simp] theorem x_dVar23 (o : Option D) : dVar 23 (o :: ρ) = dVar 22 ρ := (rfl)
@[simp] theorem x_dVar24 (o : Option D) : dVar 24 (o :: ρ) = dVar 23 ρ := (rfl)
@[simp] theorem x_dVar25 (o : Option D) : dVar 25 (o :: ρ) = dVar 24 ρ := (rfl)
@[simp] theorem x_dVar26 (o : Option D) : dVar 26 (o :: ρ) = dVar 25 ρ := (rfl)
@[simp] theorem x_dVar27 (o : Option D) : dVar 27 (o :: ρ) = dVar 26 ρ := (rfl)
@[simp] theorem x_dVar28 (o : Option D) : dVar 28 (o :: ρ) = dVar 27 ρ := (rfl)
@[simp] theorem x_dVar29 (o : Option D) : dVar 29 (o :: ρ) = dVar 28 ρ := (rfl)
@[simp] theorem x_dVar30 (o : Option D) : dVar 30 (o :: ρ) = dVar 29 ρ := (rfl)
@[simp] theorem x_dVar31 (o : Option D) : dVar 31 (o :: ρ) = dVar 30 ρ := (rfl)
@[simp] theorem x_dVar32 (o : Option D) : dVar 32 (o :: ρ) = dVar 31 ρ := (rfl)
@[simp] theorem x_dVar33 (o : Option D) : dVar 33 (o :: ρ) = dVar 32 ρ := (rfl)
@[simp] theorem x_dVar34 (o : Option D) : dVar 34 (o :: ρ) = dVar 33 ρ := (rfl)
@[simp] theorem x_dVar35 (o : Option D) : dVar 35 (o :: ρ) = dVar 34 ρ := (rfl)
@[simp] theorem x_dVar36 (o : Option D) : dVar 36 (o :: ρ) = dVar 35 ρ := (rfl)
@[simp] theorem x_dVar37 (o : Option D) : dVar 37 (o :: ρ) = dVar 36 ρ := (rfl)
@[simp] theorem x_dVar38 (o : Option D) : dVar 38 (o :: ρ) = dVar 37 ρ := (rfl)
@[simp] theorem x_dVar39 (o : Option D) : dVar 39 (o :: ρ) = dVar 38 ρ := (rfl)
@[simp] theorem x_dVar40 (o : Option D) : dVar 40 (o :: ρ) = dVar 39 ρ := (rfl)
@[simp] theorem x_dVar41 (o : Option D) : dVar 41 (o :: ρ) = dVar 40 ρ := (rfl)
@[simp] theorem x_dVar42 (o : Option D) : dVar 42 (o :: ρ) = dVar 41 ρ := (rfl)
@[simp] theorem x_dVar43 (o : Option D) : dVar 43 (o :: ρ) = dVar 42 ρ := (rfl)
@[simp] theorem x_dVar44 (o : Option D) : dVar 44 (o :: ρ) = dVar 43 ρ := (rfl)
@[simp] theorem x_dVar45 (o : Option D) : dVar 45 (o :: ρ) = dVar 44 ρ := (rfl)
@[simp] theorem x_dVar46 (o : Option D) : dVar 46 (o :: ρ) = dVar 45 ρ := (rfl)
@[simp] theorem x_dVar47 (o : Option D) : dVar 47 (o :: ρ) = dVar 46 ρ := (rfl)
@[simp] theorem x_dFz : dFz f ρ = (f ρ >>= fun d => if d.fz then .ok d else .bad) := (rfl)
@[simp] theorem x_d1 (op : D → Option D) : d1 op f ρ = (f ρ >>= fun x => ofO (op x)) := (rfl)
@[simp] theorem x_d2 (op : D → D → Option D) : d2 op f g ρ = (f ρ >>= fun x => g ρ >>= fun y => ofO (op x y)) := (rfl)
@[simp] theorem x_b2 (op : D → D → Option Bool) : b2 op f g ρ = (f ρ >>= fun x => g ρ >>= fun y => ofO (op x y)) := (rfl)
@[simp] theorem x_dN (op : List D → Option D) : dN op fs ρ = (fs ρ >>= fun xs => ofO (op xs)) := (rfl)
@[simp] theorem x_dBl : dBl p ρ = (p ρ >>= fun b => .ok (.bl b)) := (rfl)
@[simp] theorem x_aNil : aNil ρ = .ok [] := (rfl)
@[simp] theorem x_aCons : aCons f fs ρ = (f ρ >>= fun x => fs ρ >>= fun xs => .ok (x :: xs)) := (rfl)
@[simp] theorem x_dTup : dTup fs ρ = (fs ρ >>= fun xs => if xs.length ≤ LIM then .ok (.tup xs) else .bad) := (rfl)
@[simp] theorem x_dLst : dLst fs ρ = (fs ρ >>= fun xs => if xs.length ≤ LIM then .ok (.lst true xs) else .bad) := (rfl)
@[simp] theorem x_bTru : bTru f ρ = (f ρ >>= fun d => ofO (tru d)) := (rfl)
@[simp] theorem x_bNot : bNot p ρ = (p ρ >>= fun b => .ok (!b)) := (rfl)
@[simp] theorem x_bAnd : bAnd p q ρ = (p ρ >>= fun b => if b then q ρ else .ok false) := (rfl)
@[simp] theorem x_bOr : bOr p q ρ = (p ρ >>= fun b => if b then .ok true else q ρ) := (rfl)
@[simp] theorem x_dAnd : dAnd f g ρ = (f ρ >>= fun d => ofO (tru d) >>= fun b => if b then g ρ else .ok d) := (rfl)
@[simp] theorem x_dOr : dOr f g ρ = (f ρ >>= fun d => ofO (tru d) >>= fun b => if b then .ok d else g ρ) := (rfl)
@[simp] theorem x_dNot : dNot f ρ = (f ρ >>= fun d => ofO (tru d) >>= fun b => .ok (.bl (!b))) := (rfl)
@[simp] theorem x_dIf : dIf p f g ρ = (p ρ >>= fun b => if b then f ρ else g ρ) := (rfl)
@[simp] theorem x_dCall (F : List D → Ou D) : dCall F fs ρ = (fs ρ >>= callR F) := (rfl)
@[simp] theorem x_dIsi (b : BT) : dIsi b f ρ = (f ρ >>= fun d => ofO ((isiD b d).map .bl)) := (rfl)
@[simp] theorem x_pNone : pNone ρ = .ok none := (rfl)
@[simp] theorem x_pSome : pSome f ρ = (f ρ >>= fun d => match d with
  | .int i => .ok (some i)
  | _ => .bad) := (rfl)
@[simp] theorem x_dSl (lo hi : Env → Ou (Option Int)) : dSl f lo hi ρ = (f ρ >>= fun d => lo ρ >>= fun l => hi ρ >>= fun h => ofO (slD d l h)) := (rfl)
@[simp] theorem x_iSeq : iSeq f ρ = (f ρ >>= seqOf) := (rfl)
@[simp] theorem x_iSeqB : iSeqB f ρ = (f ρ >>= seqOfB) := (rfl)
@[simp] theorem x_iRng1 : DL.iRng1 fs ρ = (fs ρ >>= fun ds => ofO (rng1Of ds)) := (rfl)
@[simp] theorem x_iRng2 : DL.iRng2 fs ρ = (fs ρ >>= fun ds => ofO (rng2Of ds)) := (rfl)
@[simp] theorem x_bYes : bYes ρ = .ok true := (rfl)
@[simp] theorem x_dLc (fi : Env → Ou (List D)) (j : Nat) (vs : List Nat) (tt : Env → Ou Bool) (te : Env → Ou D) : dLc fi j vs tt te ρ = (fi ρ >>= fun ds => ofO ((compG j tt te (wipeE ρ vs) ds []).map (D.lst true))) := (rfl)
@[simp] theorem x_sNil : sNil ρ = .nx ρ := (rfl)
@[simp] theorem x_sBrk : sBrk ρ = .bk ρ := (rfl)
@[simp] theorem x_sCont : sCont ρ = .ct ρ := (rfl)
@[simp] theorem x_sSeq : sSeq s t ρ = andThen (s ρ) t := (rfl)
@[simp] theorem x_sDrop : sDrop f ρ = ofU (f ρ) ρ fun _ => .nx ρ := (rfl)
@[simp] theorem x_sRet : sRet f ρ = ofU (f ρ) ρ fun d => .rt d := (rfl)
@[simp] theorem x_sRetV (d : D) (h : ρ[i]? = some (some d)) : sRetV i ρ = .rt d := by unfold sRetV; rw [h]
@[simp] theorem x_sIf : sIf p s t ρ = ofU (p ρ) ρ fun b => if b then s ρ else t ρ := (rfl)
@[simp] theorem x_sSet : sSet i f ρ = ofU (f ρ) ρ fun d => if i < ρ.length then .nx (ρ.set i (some d)) else .bad := (rfl)
@[simp] theorem x_sFrz (d : D) (h : ρ[i]? = some (some d)) : sFrz i s ρ = s (ρ.set i (some d.frz)) := by unfold sFrz; rw [h]
@[simp] theorem x_sApp (xs : List D) (h : ρ[i]? = some (some (.lst true xs))) : sApp i f ρ = ofU (f ρ) ρ fun d => if xs.length < LIM then .nx (ρ.set i (some (.lst true (xs ++ [d])))) else .bad := by unfold sApp; rw [h]
@[simp] theorem x_sExt (xs : List D) (h : ρ[i]? = some (some (.lst true xs))) : sExt i f ρ = ofU (f ρ) ρ fun d => match d with
    | .lst _ ys => if D.fzs ys && decide (xs.length + ys.length ≤ LIM) then .nx (ρ.set i (some (.lst true (xs ++ ys)))) else .bad
    | _ => .bad := by unfold sExt; rw [h] <;> rfl
@[simp] theorem x_sAug (op : D → D → Option D) (x : D) (h : ρ[i]? = some (some x)) : sAug i op f ρ = ofU (f ρ) ρ fun y => match op x y with
    | some d => .nx (ρ.set i (some d))
    | none => .bad := by unfold sAug; rw [h] <;> rfl
@[simp] theorem x_sAppAt (g : Env → Ou D) (xs : List D) (h : ρ[i]? = some (some (.lst true xs))) : sAppAt i g f ρ = ofU (g ρ) ρ fun k => match k with
    | .int k => match ixN xs.length k with
      | some j => match xs[j]? with
        | some (.lst true ys) => ofU (f ρ) ρ fun d => if ys.length < LIM then .nx (ρ.set i (some (.lst true (xs.set j (.lst true (ys ++ [d])))))) else .bad
        | _ => .bad
      | none => .bad
    | _ => .bad := by unfold sAppAt; rw [h] <;> rfl
@[simp] theorem x_sMove (m : Nat) (g : Env → Ou D) (xs : List D) (h : ρ[i]? = some (some (.lst true xs))) : sMove m i g ρ = ofU (g ρ) ρ fun k => match k with
    | .int k => match ixN xs.length k with
      | some j => match xs[j]? with
        | some (.lst true ys) => if m < ρ.length then .nx ((ρ.set i (some (.lst true (xs.set j (.adr 0))))).set m (some (.lst true ys))) else .bad
        | _ => .bad
      | none => .bad
    | _ => .bad := by unfold sMove; rw [h] <;> rfl
@[simp] theorem x_sTup (is : List Nat) : sTup is f ρ = ofU (f ρ) ρ fun d => match d with
    | .tup ds => if decide (ds.length = is.length) && is.all (fun i => decide (i < ρ.length)) then .nx (setAllE ρ is ds) else .bad
    | _ => .bad := (rfl)
@[simp] theorem x_setAll1 (i : Nat) (is : List Nat) (d : D) (ds : List D) : setAllE ρ (i :: is) (d :: ds) = setAllE (ρ.set i (some d)) is ds := (rfl)
@[simp] theorem x_setAll0 (ds : List D) : setAllE ρ [] ds = ρ := by cases ds <;> rfl
@[simp] theorem x_sFor (fi : Env → Ou (List D)) (tg : D → Env → Option Env) (body : Env → Os) : sFor fi tg body ρ = ofU (fi ρ) ρ fun ds => loopS tg body ds ρ := (rfl)
end
@[simp] theorem x_ofO_some {α : Type} (a : α) : ofO (some a) = .ok a := (rfl)
@[simp] theorem x_ofO_none {α : Type} : (ofO (none : Option α)) = .bad := (rfl)
@[simp] theorem x_endF_nx (ρ : Env) : endF (.nx ρ) = .ok .non := (rfl)
@[simp] theorem x_endF_rt (d : D) : endF (.rt d) = .ok d := (rfl)
@[simp] theorem x_endF_ex (c : Str) (ns : List Str) (xs : List D) (ρ : Env) : endF (.ex c ns xs ρ) = .ex c ns xs := (rfl)
@[simp] theorem x_add (i j : Int) : addD (.int i) (.int j) = some (.int (i + j)) := (rfl)
@[simp] theorem x_sub (i j : Int) : subD (.int i) (.int j) = some (.int (i - j)) := (rfl)
@[simp] theorem x_neg (i : Int) : negD (.int i) = some (.int (-i)) := (rfl)
@[simp] theorem x_lt (i j : Int) : ltD (.int i) (.int j) = some (decide (i < j)) := (rfl)
@[simp] theorem x_le (i j : Int) : leD (.int i) (.int j) = some (decide (i ≤ j)) := (rfl)
@[simp] theorem x_gt (i j : Int) : gtD (.int i) (.int j) = some (decide (j < i)) := (rfl)
@[simp] theorem x_ge (i j : Int) : geD (.int i) (.int j) = some (decide (j ≤ i)) := (rfl)
@[simp] theorem x_eqI (i j : Int) : eqD (.int i) (.int j) = some (decide (i = j)) := by
  show some _ = some _
  congr 1
@[simp] theorem x_neI (i j : Int) : neD (.int i) (.int j) = some (!decide (i = j)) := by
  show some _ = some _
  congr 1
@[simp] theorem x_absN (i : Int) : absN [.int i] = some (.int (if i < 0 then -i else i)) := (rfl)
@[simp] theorem x_intN (i : Int) : intN [.int i] = some (.int i) := (rfl)
@[simp] theorem x_intB (b : Bool) : intN [.bl b] = some (.int (if b then 1 else 0)) := (rfl)
@[simp] theorem x_max2 (i j : Int) : max2N [.int i, .int j] = some (.int (max i j)) := by
  show some (D.int (if j > i then j else i)) = _
  congr 2
  omega
@[simp] theorem x_min2 (i j : Int) : min2N [.int i, .int j] = some (.int (min i j)) := by
  show some (D.int (if j < i then j else i)) = _
  congr 2
  omega
@[simp] theorem x_lenL (o : Bool) (xs : List D) : lenN [.lst o xs] = some (.int xs.length) := (rfl)
@[simp] theorem x_lenT (xs : List D) : lenN [.tup xs] = some (.int xs.length) := (rfl)
@[simp] theorem x_lenS (ns : List Int) : lenN [.scr ns] = some (.int ns.length) := (rfl)
@[simp] theorem x_truB (b : Bool) : tru (.bl b) = some b := (rfl)
@[simp] theorem x_tgN (i : Nat) (d : D) (ρ : Env) : tgN i d ρ = if i < ρ.length then some (ρ.set i (some d)) else none := (rfl)
@[simp] theorem x_fzI (i : Int) : (D.int i).fz = true := (rfl)
@[simp] theorem x_fzB (b : Bool) : (D.bl b).fz = true := (rfl)
@[simp] theorem x_fzS (x : Str) : (D.str x).fz = true := (rfl)
@[simp] theorem x_fzN : D.non.fz = true := (rfl)
theorem x_mod {i j : Int} (h : 0 < j) : modD (.int i) (.int j) = some (.int (i % j)) := if_pos h
theorem x_fdiv {i j : Int} (h : 0 < j) (h2 : j < 1000000000000000000000000000000) : fdivD (.int i) (.int j) = some (.int (i / j)) := by
  show (if divOk j = true then _ else _) = _
  rw [if_pos]
  exact decide_eq_true ⟨h, h2⟩
def B64 (i : Int) : Prop := -18446744073709551616 < i ∧ i < 18446744073709551616
theorem x_mulL {i j : Int} (h : B64 i) : mulD (.int i) (.int j) = some (.int (i * j)) := by
  show (if mulOk i j = true then _ else _) = _
  rw [if_pos]
  exact decide_eq_true (.inl h)
theorem x_mulR {i j : Int} (h : B64 j) : mulD (.int i) (.int j) = some (.int (i * j)) := by
  show (if mulOk i j = true then _ else _) = _
  rw [if_pos]
  exact decide_eq_true (.inr h)
theorem x_pow {i j : Int} (h : 0 ≤ j ∧ j ≤ 1000000 ∧ i.natAbs < 18446744073709551616) : powD (.int i) (.int j) = some (.int (i ^ j.toNat)) := by
  show (if _ then _ else _) = _
  rw [if_pos (decide_eq_true h)]
@[simp] theorem p_9 : powD (.int 10) (.int 9) = some (.int 1000000000) := by rw [x_pow (by decide)]; rfl
@[simp] theorem p_15 : powD (.int 10) (.int 15) = some (.int 1000000000000000) := by rw [x_pow (by decide)]; rfl
@[simp] theorem p_18 : powD (.int 10) (.int 18) = some (.int 1000000000000000000) := by rw [x_pow (by decide)]; rfl
@[simp] theorem p_20 : powD (.int 10) (.int 20) = some (.int 100000000000000000000) := by rw [x_pow (by decide)]; rfl
theorem x_ix {i : Int} {xs : List D} {o : Bool} (h0 : 0 ≤ i) (h : i < xs.length) : ixD (.lst o xs) (.int i) = xs[i.toNat]? := by
  show (ixN xs.length i).bind _ = _
  unfold ixN
  rw [if_pos h0, if_pos h]
  rfl
def at0 (ns : List Int) (i : Nat) : Int := ns.getD i 0
theorem x_ixS {i : Int} {ns : List Int} (h0 : 0 ≤ i) (h : i < ns.length) : ixD (.scr ns) (.int i) = some (.int (at0 ns i.toNat)) := by
  show ((ixN ns.length i).bind _).map D.int = _
  unfold ixN
  rw [if_pos h0, if_pos h]
  have e : i.toNat < ns.length := by omega
  simp [at0, List.getD, List.getElem?_eq_getElem e]
def I (ns : List Int) : List D := ns.map D.int
@[simp] theorem I_len (ns : List Int) : (I ns).length = ns.length := by simp [I]
@[simp] theorem I_fzs (ns : List Int) : D.fzs (I ns) = true := by
  induction ns with
  | nil => rfl
  | cons n ns ih => exact ih
@[simp] theorem I_frzs (ns : List Int) : D.frzs (I ns) = I ns := frzs_fzs _ (I_fzs ns)
@[simp] theorem I_app (a b : List Int) : I a ++ I b = I (a ++ b) := by simp [I]
theorem x_ixI {i : Int} {ns : List Int} {o : Bool} (h0 : 0 ≤ i) (h : i < ns.length) : ixD (.lst o (I ns)) (.int i) = some (.int (at0 ns i.toNat)) := by
  rw [x_ix h0 (by simpa using h)]
  have e : i.toNat < ns.length := by omega
  simp [at0, I, List.getD, List.getElem?_eq_getElem e]
@[simp] theorem x_callR {F : List D → Ou D} {ds : List D} {d : D} (h : F (D.frzs ds) = .ok d) (hf : (D.fzs ds || d.cln) = true) : callR F ds = .ok d := by
  unfold callR
  rw [h]
  exact if_pos hf
theorem loop_nx {tg : D → Env → Option Env} {body : Env → Os} {d : D} {ds : List D} {ρ ρ1 ρ2 : Env} (h1 : tg d ρ = some ρ1) (h2 : body ρ1 = .nx ρ2) : loopS tg body (d :: ds) ρ = loopS tg body ds ρ2 := by
  simp only [loopS, h1, h2]
theorem loop_ct {tg : D → Env → Option Env} {body : Env → Os} {d : D} {ds : List D} {ρ ρ1 ρ2 : Env} (h1 : tg d ρ = some ρ1) (h2 : body ρ1 = .ct ρ2) : loopS tg body (d :: ds) ρ = loopS tg body ds ρ2 := by
  simp only [loopS, h1, h2]
theorem loop_inv {tg : D → Env → Option Env} {body : Env → Os} (Inv : Nat → Env → Prop) : ∀ (ds : List D) (n : Nat) (ρ : Env), Inv n ρ →
    (∀ j d ρ, ds[j]? = some d → Inv (n + j) ρ → ∃ ρ1 ρ2, tg d ρ = some ρ1 ∧ (body ρ1 = .nx ρ2 ∨ body ρ1 = .ct ρ2) ∧ Inv (n + j + 1) ρ2) → ∃ ρ', loopS tg body ds ρ = .nx ρ' ∧ Inv (n + ds.length) ρ'
  | [], n, ρ, h, k => ⟨ρ, rfl, h⟩
  | d :: ds, n, ρ, h, k => by
    obtain ⟨ρ1, ρ2, h1, h2, h3⟩ := k 0 d ρ rfl h
    obtain ⟨ρ', e, z⟩ := loop_inv Inv ds (n + 1) ρ2 h3 fun j d ρ e i => by
      have e2 : n + 1 + j = n + (j + 1) := by omega
      rw [e2] at i ⊢
      exact k (j + 1) d ρ e i
    refine ⟨ρ', ?_, ?_⟩
    · rcases h2 with h2 | h2
      · rw [loop_nx h1 h2]; exact e
      · rw [loop_ct h1 h2]; exact e
    · have e2 : n + (d :: ds).length = n + 1 + ds.length := by simp only [List.length_cons]; omega
      rw [e2]; exact z
theorem loop_inv0 {tg : D → Env → Option Env} {body : Env → Os} (Inv : Nat → Env → Prop) (ds : List D) (ρ : Env) (h : Inv 0 ρ)
    (k : ∀ j d ρ, ds[j]? = some d → Inv j ρ → ∃ ρ1 ρ2, tg d ρ = some ρ1 ∧ (body ρ1 = .nx ρ2 ∨ body ρ1 = .ct ρ2) ∧ Inv (j + 1) ρ2) : ∃ ρ', loopS tg body ds ρ = .nx ρ' ∧ Inv ds.length ρ' := by
  have := loop_inv Inv ds 0 ρ h (by simpa using k)
  simpa using this
theorem rng0_get {n j : Nat} {d : D} (h : (rng0 n)[j]? = some d) : d = .int j ∧ j < n := by
  unfold rng0 at h
  rw [List.getElem?_map] at h
  by_cases c : j < n
  · rw [List.getElem?_range c] at h
    exact ⟨(Option.some.inj h).symm, c⟩
  · rw [List.getElem?_eq_none (by simpa using c)] at h
    cases h
theorem rng0_len (n : Nat) : (rng0 n).length = n := by simp [rng0]
theorem x_rng1 {n : Int} (h0 : -1000000 < n) (h : n < 1000000) : rng1Of [.int n] = some (rng0 n.toNat) := if_pos (decide_eq_true ⟨h0, h⟩)
end DL
namespace DL
open PySem hiding Env
open PySem.Spec PyProof.Rows L2
def callK (b : Bool) (r : Ou D) : Ou D := match r with
  | .ok d => if b || d.cln then .ok d else .bad
  | .ex c ns xs => if b || D.clns xs then .ex c ns xs else .bad
  | .bad => .bad
@[simp] theorem callR_eq (F : List D → Ou D) (ds : List D) : callR F ds = callK (D.fzs ds) (F (D.frzs ds)) := by
  unfold callR callK
  cases F (D.frzs ds) <;> rfl
@[simp] theorem callK_ok (b : Bool) (d : D) : callK b (.ok d) = if b || d.cln then .ok d else .bad := (rfl)
@[simp] theorem callK_ex (b : Bool) (c : Str) (ns : List Str) (xs : List D) : callK b (.ex c ns xs) = if b || D.clns xs then .ex c ns xs else .bad := (rfl)
@[simp] theorem fz_int (i : Int) : (D.int i).frz = .int i := (rfl)
@[simp] theorem fz_bl (i : Bool) : (D.bl i).frz = .bl i := (rfl)
@[simp] theorem fz_str (i : Str) : (D.str i).frz = .str i := (rfl)
@[simp] theorem fz_non : D.non.frz = .non := (rfl)
@[simp] theorem fz_scr (ns : List Int) : (D.scr ns).frz = .scr ns := (rfl)
@[simp] theorem fz_lstT (xs : List D) : (D.lst true xs).frz = .lst false (D.frzs xs) := (rfl)
@[simp] theorem fz_lstF (xs : List D) : (D.lst false xs).frz = .lst false xs := (rfl)
@[simp] theorem fz_tup (xs : List D) : (D.tup xs).frz = .tup (D.frzs xs) := (rfl)
@[simp] theorem frzs_nil : D.frzs [] = [] := (rfl)
@[simp] theorem frzs_cons (d : D) (ds : List D) : D.frzs (d :: ds) = d.frz :: D.frzs ds := (rfl)
@[simp] theorem fzs_nil : D.fzs [] = true := (rfl)
@[simp] theorem fzs_cons (d : D) (ds : List D) : D.fzs (d :: ds) = (d.fz && D.fzs ds) := (rfl)
@[simp] theorem fzz_tup (xs : List D) : (D.tup xs).fz = D.fzs xs := (rfl)
@[simp] theorem fzz_lst (o : Bool) (xs : List D) : (D.lst o xs).fz = !o := (rfl)
@[simp] theorem fzz_scr (ns : List Int) : (D.scr ns).fz = true := (rfl)
@[simp] theorem cln_int (i : Int) : (D.int i).cln = true := (rfl)
@[simp] theorem cln_bl (i : Bool) : (D.bl i).cln = true := (rfl)
@[simp] theorem cln_str (i : Str) : (D.str i).cln = true := (rfl)
@[simp] theorem cln_non : D.non.cln = true := (rfl)
@[simp] theorem clns_nil : D.clns [] = true := (rfl)
@[simp] theorem clns_cons (d : D) (ds : List D) : D.clns (d :: ds) = (d.cln && D.clns ds) := (rfl)
theorem lt_lim' {n : Nat} (h : n < 1000000) : n < LIM := h
theorem le_lim' {n : Nat} (h : n ≤ 1000000) : n ≤ LIM := h
@[simp] theorem lim0 : 0 ≤ LIM := Nat.zero_le _
@[simp] theorem isi_int_int (i : Int) : isiD .int (.int i) = some true := (rfl)
@[simp] theorem isi_bool_int (i : Int) : isiD .bool (.int i) = some false := (rfl)
@[simp] theorem isi_int_bl (i : Bool) : isiD .int (.bl i) = some true := (rfl)
@[simp] theorem isi_bool_bl (i : Bool) : isiD .bool (.bl i) = some true := (rfl)
@[simp] theorem isi_tup_tup (xs : List D) : isiD .tuple (.tup xs) = some true := (rfl)
@[simp] theorem isi_lst_lst (o : Bool) (xs : List D) : isiD .list (.lst o xs) = some true := (rfl)
@[simp] theorem isi_str_str (x : Str) : isiD .str (.str x) = some true := (rfl)
@[simp] theorem x_eqB (a b : Bool) : eqD (.bl a) (.bl b) = some (decide (a = b)) := by
  cases a <;> cases b <;> rfl
@[simp] theorem x_neB (a b : Bool) : neD (.bl a) (.bl b) = some (!decide (a = b)) := by
  cases a <;> cases b <;> rfl
end DL
namespace DL
open PySem hiding Env
open PySem.Spec PyProof.Rows L2
mutual
theorem okd_mono : ∀ (d : D) (n m : Nat), n ≤ m → d.okd n = true → d.okd m = true
  | .non, _, _, _, _ => rfl
  | .bl _, _, _, _, _ => rfl
  | .int _, _, _, _, _ => rfl
  | .str _, _, _, _, h => h
  | .tup xs, 0, m, _, h => by
    have h' : false = true := h
    cases h'
  | .tup xs, n + 1, 0, l, h => absurd l (by omega)
  | .tup xs, n + 1, m + 1, l, h => okds_mono xs n m (by omega) h
  | .lst _ xs, 0, m, _, h => by
    have h' : false = true := h
    cases h'
  | .lst _ xs, n + 1, 0, l, h => absurd l (by omega)
  | .lst _ xs, n + 1, m + 1, l, h => okds_mono xs n m (by omega) h
  | .ins _ _ _, _, _, _, h => by
    have h' : false = true := h
    cases h'
  | .scr _, _, _, _, h => by
    have h' : false = true := h
    cases h'
  | .adr _, _, _, _, h => by
    have h' : false = true := h
    cases h'
  | .cls _, _, _, _, h => by
    have h' : false = true := h
    cases h'
  | .pin _, _, _, _, h => by
    have h' : false = true := h
    cases h'
  | .err _ _ _, _, _, _, h => by
    have h' : false = true := h
    cases h'
  | .own _ _ _ _, _, _, _, h => by
    have h' : false = true := h
    cases h'
  | .lsa _ _, _, _, _, h => by
    have h' : false = true := h
    cases h'
  | .dct _ _ _, _, _, _, h => by
    have h' : false = true := h
    cases h'
  | .lok _ _, _, _, _, h => by
    have h' : false = true := h
    cases h'
  | .wth _ _, _, _, _, h => by
    have h' : false = true := h
    cases h'
theorem okds_mono : ∀ (ds : List D) (n m : Nat), n ≤ m → D.okds ds n = true → D.okds ds m = true
  | [], _, _, _, _ => rfl
  | d :: ds, n, m, l, h => by
    obtain ⟨h1, h2⟩ := band (show (d.okd n && D.okds ds n) = true from h)
    exact Bool.and_eq_true_iff.mpr ⟨okd_mono d n m l h1, okds_mono ds n m l h2⟩
end
class Dm (α : Type) where
  d : α → D
  dep : Nat
  fz : ∀ a, (d a).fz = true
  cln : ∀ a, (d a).cln = true
  okd : ∀ a, (d a).okd dep = true
  eqv : ∀ a b, PyData.eqv (d a).py (d b).py = true ↔ a = b
instance : Dm Int where
  d := D.int
  dep := 0
  fz _ := rfl
  cln _ := rfl
  okd _ := rfl
  eqv a b := by
    show (a == b) = true ↔ a = b
    exact beq_iff_eq
def Ds {α : Type} [Dm α] (xs : List α) : List D := xs.map Dm.d
section
variable {α : Type} [Dm α]
@[simp] theorem Ds_len (xs : List α) : (Ds xs).length = xs.length := by simp [Ds]
@[simp] theorem Ds_nil : Ds ([] : List α) = [] := (rfl)
theorem Ds_cons (x : α) (xs : List α) : Ds (x :: xs) = Dm.d x :: Ds xs := (rfl)
theorem Ds_snoc (a : List α) (x : α) : Ds a ++ [Dm.d x] = Ds (a ++ [x]) := by simp [Ds]
@[simp] theorem Dm_fz (a : α) : (Dm.d a).fz = true := Dm.fz a
@[simp] theorem Dm_cln (a : α) : (Dm.d a).cln = true := Dm.cln a
@[simp] theorem Dm_frz (a : α) : (Dm.d a).frz = Dm.d a := frz_fz _ (Dm.fz a)
@[simp] theorem Ds_fzs (xs : List α) : D.fzs (Ds xs) = true := by
  induction xs with
  | nil => rfl
  | cons x xs ih => exact Bool.and_eq_true_iff.mpr ⟨Dm.fz x, ih⟩
@[simp] theorem Ds_clns (xs : List α) : D.clns (Ds xs) = true := by
  induction xs with
  | nil => rfl
  | cons x xs ih => exact Bool.and_eq_true_iff.mpr ⟨Dm.cln x, ih⟩
@[simp] theorem Ds_frzs (xs : List α) : D.frzs (Ds xs) = Ds xs := frzs_fzs _ (Ds_fzs xs)
theorem Ds_okds (xs : List α) {n : Nat} (h : Dm.dep α ≤ n) : D.okds (Ds xs) n = true := by
  induction xs with
  | nil => rfl
  | cons x xs ih => exact Bool.and_eq_true_iff.mpr ⟨okd_mono _ _ _ h (Dm.okd x), ih⟩
theorem Ds_eqv : ∀ (xs ys : List α), PyData.eqvAll (D.pys (Ds xs)) (D.pys (Ds ys)) = true ↔ xs = ys
  | [], [] => by simp [Ds, D.pys, PyData.eqvAll]
  | x :: xs, [] => by simp [Ds, D.pys, PyData.eqvAll]
  | [], y :: ys => by simp [Ds, D.pys, PyData.eqvAll]
  | x :: xs, y :: ys => by
    simp only [Ds_cons, D.pys, PyData.eqvAll, Bool.and_eq_true, Dm.eqv, Ds_eqv xs ys, List.cons.injEq]
end
instance {α β : Type} [Dm α] [Dm β] : Dm (α × β) where
  d p := .tup [Dm.d p.1, Dm.d p.2]
  dep := max (Dm.dep α) (Dm.dep β) + 1
  fz p := by simp
  cln p := by
    show ((Dm.d p.1).cln && ((Dm.d p.2).cln && true)) = true
    simp
  okd p := by
    show ((Dm.d p.1).okd _ && ((Dm.d p.2).okd _ && true)) = true
    rw [okd_mono _ _ _ (Nat.le_max_left _ _) (Dm.okd p.1), okd_mono _ _ _ (Nat.le_max_right _ _) (Dm.okd p.2)]
    rfl
  eqv a b := by
    simp only [D.py, D.pys, PyData.eqv, PyData.eqvAll, Bool.and_eq_true, Dm.eqv, Prod.ext_iff, and_true]
structure Tp (α : Type) where
  l : List α
@[ext] theorem Tp.ext' {α : Type} {a b : Tp α} (h : a.l = b.l) : a = b := by cases a; cases b; cases h; rfl
instance {α : Type} [Dm α] : Dm (Tp α) where
  d p := .tup (Ds p.l)
  dep := Dm.dep α + 1
  fz p := by simp
  cln p := Ds_clns p.l
  okd p := Ds_okds p.l (Nat.le_refl _)
  eqv a b := by
    simp only [D.py, PyData.eqv, Ds_eqv]
    exact ⟨Tp.ext', fun h => h ▸ rfl⟩
section
variable {α : Type} [Dm α]
theorem eqD_of {a b : D} {c : Bool} (h1 : a.okd DEP = true) (h2 : b.okd DEP = true) (h : PyData.eqv a.py b.py = c) : eqD a b = some c := by
  unfold eqD
  rw [h1, h2, h] <;> rfl
theorem neD_of {a b : D} {c : Bool} (h1 : a.okd DEP = true) (h2 : b.okd DEP = true) (h : PyData.eqv a.py b.py = c) : neD a b = some (!c) := by
  unfold neD
  rw [h1, h2, h] <;> rfl
theorem decide_iff {p : Bool} {q : Prop} [Decidable q] (h : p = true ↔ q) : p = decide q := by
  by_cases c : q
  · rw [decide_eq_true c]; exact h.mpr c
  · rw [decide_eq_false c]
    cases p with
    | true => exact absurd (h.mp rfl) c
    | false => rfl
theorem neD_dm [DecidableEq α] (hd : Dm.dep α ≤ 20) (a b : α) : neD (Dm.d a) (Dm.d b) = some (!decide (a = b)) :=
  neD_of (okd_mono _ _ _ hd (Dm.okd a)) (okd_mono _ _ _ hd (Dm.okd b)) (decide_iff (Dm.eqv a b))
theorem eqD_Ds [DecidableEq α] (hd : Dm.dep α ≤ 19) (o o' : Bool) (a b : List α) : eqD (.lst o (Ds a)) (.lst o' (Ds b)) = some (decide (a = b)) :=
  eqD_of (Ds_okds a hd) (Ds_okds b hd) (decide_iff (Ds_eqv a b))
theorem neD_Ds [DecidableEq α] (hd : Dm.dep α ≤ 19) (o o' : Bool) (a b : List α) : neD (.lst o (Ds a)) (.lst o' (Ds b)) = some (!decide (a = b)) :=
  neD_of (Ds_okds a hd) (Ds_okds b hd) (decide_iff (Ds_eqv a b))
theorem x_ixD {i : Int} {xs : List α} {o : Bool} (h0 : 0 ≤ i) (h : i.toNat < xs.length) : ixD (.lst o (Ds xs)) (.int i) = some (Dm.d (xs[i.toNat])) := by
  rw [x_ix h0 (by rw [Ds_len]; omega)]
  simp [Ds, List.getElem?_eq_getElem h]
theorem any_eqv [DecidableEq α] (x : α) : ∀ ys : List α, ((D.pys (Ds ys)).any fun z => PyData.eqv z (Dm.d x).py) = decide (x ∈ ys)
  | [] => by simp [Ds, D.pys]
  | y :: ys => by
    rw [Ds_cons]
    show (PyData.eqv (Dm.d y).py (Dm.d x).py || (D.pys (Ds ys)).any _) = _
    rw [any_eqv x ys, decide_iff (Dm.eqv y x)]
    by_cases c : y = x
    · subst c; simp
    · simp [c, Ne.symm c]
theorem inD_Ds [DecidableEq α] (hd : Dm.dep α ≤ 19) (x : α) (o : Bool) (ys : List α) : inD (Dm.d x) (.lst o (Ds ys)) = some (decide (x ∈ ys)) := by
  show (if _ then _ else _) = _
  rw [if_pos, any_eqv]
  rw [okd_mono _ _ _ (show Dm.dep α ≤ DEP by show Dm.dep α ≤ 20; omega) (Dm.okd x)]
  show (true && D.okds (Ds ys) 19) = true
  rw [Ds_okds ys hd]
  rfl
theorem notInD_Ds [DecidableEq α] (hd : Dm.dep α ≤ 19) (x : α) (o : Bool) (ys : List α) : notInD (Dm.d x) (.lst o (Ds ys)) = some (!decide (x ∈ ys)) := by
  unfold notInD
  rw [inD_Ds hd]
  rfl
theorem listN_Ds (o : Bool) (xs : List α) : listN [.lst o (Ds xs)] = some (.lst true (Ds xs)) := if_pos (Ds_fzs xs)
theorem tupleN_Ds (o : Bool) (xs : List α) : tupleN [.lst o (Ds xs)] = some (.tup (Ds xs)) := if_pos (Ds_fzs xs)
theorem seqOf_Ds (o : Bool) (xs : List α) : seqOf (.lst o (Ds xs)) = .ok (Ds xs) := by
  show Ou.ok (D.frzs (Ds xs)) = _
  rw [Ds_frzs]
theorem seqOfB_Ds (o : Bool) (xs : List α) : seqOfB (.lst o (Ds xs)) = .ok (Ds xs) := if_pos (Ds_fzs xs)
theorem seqOfB_Ts (xs : List α) : seqOfB (.tup (Ds xs)) = .ok (Ds xs) := if_pos (Ds_fzs xs)
theorem revD_Ds (o : Bool) (xs : List α) (h : xs.length ≤ 1000000) : revD (.lst o (Ds xs)) = some (.lst true (Ds xs.reverse)) := by
  show (if _ then _ else _) = _
  rw [if_pos (Ds_fzs xs)]
  unfold Ds
  rw [List.map_reverse]
theorem slD_Ds (o : Bool) (xs : List α) (lo hi : Option Int) : slD (.lst o (Ds xs)) lo hi = some (.lst true (Ds (cutD xs lo hi))) := by
  unfold slD
  simp only [Ds_fzs]
  unfold cutD Ds
  simp [List.map_take, List.map_drop]
end
theorem cut_from {α : Type} (xs : List α) (k : Nat) (h : k ≤ xs.length) : DL.cutD xs (some (k : Int)) none = xs.drop k := by
  unfold DL.cutD
  rw [HT.sIx_nat, HT.sIx_none, Nat.min_eq_left h]
  exact List.take_of_length_le (by rw [List.length_drop]; exact Nat.le_refl _)
theorem cut_to {α : Type} (xs : List α) (k : Nat) (h : k ≤ xs.length) : DL.cutD xs none (some (k : Int)) = xs.take k := by
  unfold DL.cutD
  rw [HT.sIx_nat, HT.sIx_none, Nat.min_eq_left h]
  rfl
theorem allN_true (o : Bool) {α : Type} (xs : List α) : allN [.lst o (xs.map fun _ => .bl true)] = some (.bl true) := by
  have : ∀ ys : List α, ∃ bs : List Bool, boolsOf (ys.map fun _ => D.bl true) = some bs ∧ bs.all id = true := by
    intro ys
    induction ys with
    | nil => exact ⟨[], rfl, rfl⟩
    | cons y ys ih =>
      obtain ⟨bs, h1, h2⟩ := ih
      refine ⟨true :: bs, ?_, by simpa using h2⟩
      show (boolsOf (ys.map fun _ => D.bl true)).map (true :: ·) = _
      rw [h1]; rfl
  obtain ⟨bs, h1, h2⟩ := this xs
  show (boolsOf _).map _ = _
  rw [h1]
  simp only [Option.map_some, h2]
end DL
namespace DL
open PySem PySem.Spec PyProof.Rows L2
variable [Tb]
theorem cells_app (cl : List (Str × Addr)) : ∀ (names : List (Str × NameKind)) (n : Nat) (acc : List (Str × Addr)), cellsFrom n names (acc ++ cl) = cellsFrom n names acc ++ cl
  | [], _, _ => rfl
  | (x, k) :: r, n, acc => by
    unfold cellsFrom
    split
    · exact cells_app cl r (n + 1) ((x, n) :: acc)
    · exact cells_app cl r n acc
theorem loc_store (L : Addr) (env : PySem.Env) (hL : env.locals = L) (hk : env.scope.kind = .function) (g : Str × Value → PUnit → Sem (ForInStep PUnit)) (hg : ∀ n v u, g (n, v) u = (do storeName env n v; pure (.yield ⟨⟩))) {M : Model} {A : Around} {E : Value → Shared → Prop} :
    ∀ (binds done : List (Str × Value)) (h0 : Heap) (s : Shared) (Q : PUnit → Shared → Prop), s.heap.Ns L (fun y => done.reverse.lookup y) → Heap.SameBut L h0 s.heap → (∀ x ∈ binds, env.kindOf x.1 = some .local) →
      (∀ (h' : Heap) (t : Nat), h'.Ns L (fun y => (done ++ binds).reverse.lookup y) → Heap.SameBut L h0 h' → Q ⟨⟩ { s with heap := h', toks := t }) → wpAny M A (forIn binds ⟨⟩ g) Q E s
  | [], done, h0, s, Q, hn, hs, _, q => by
    rw [List.forIn_nil]
    rw [List.append_nil] at q
    exact wpAny_pure (q s.heap s.toks hn hs)
  | (n, v) :: r, done, h0, s, Q, hn, hs, hl, q => by
    rw [List.forIn_cons, hg]
    have hcls : (env.scope.kind == .class || (env.scope.kind == .module && env.locals != env.globals)) = false := by rw [hk]; rfl
    refine wpAny_bind (wpAny_bind (wpAny_storeName_local (hl (n, v) List.mem_cons_self) (by rw [hL]; exact hn) (fun h' hn' hs' => wpAny_pure ?_) hcls))
    rw [hL] at hn' hs'
    refine loc_store L env hL hk g hg r (done ++ [(n, v)]) h0 _ Q ?_ (hs.trans hs') (fun x hx => hl x (List.mem_cons_of_mem _ hx)) (fun h2 t2 a b => ?_)
    · have e : (fun y => (done ++ [(n, v)]).reverse.lookup y) = fun y => if y = n then some v else done.reverse.lookup y := lookup_reverse_snoc done n v
      rw [e]
      exact hn'
    · rw [List.append_assoc] at a
      exact q h2 t2 a b
theorem newEnv_cells {scope : Scope} {closure : List (Str × Addr)} {binds : List (Str × Value)} {qual : Str} {f : Addr} {code : Value} {M : Model} {A : Around} {E : Value → Shared → Prop} {s : Shared} {Q : PySem.Env → Shared → Prop}
    (hk : scope.kind = .function) (hl : ∀ x ∈ binds, scope.names.lookup x.1 = some .local)
    (q : ∀ (h' : Heap) (t : Nat), h'.Ns s.heap.objs.size (fun y => binds.reverse.lookup y) → (∀ b o, s.heap.get? b = some o → h'.get? b = some o) →
      (∀ n c, (n, c) ∈ cellsFrom (s.heap.objs.size + 1) scope.names [] → h'.IsCell c none ∧ s.heap.objs.size < c) → (cellsFrom (s.heap.objs.size + 1) scope.names []).Pairwise (fun x y => x.2 ≠ y.2) →
      Q (PySem.W.envX qual scope s.heap.objs.size f code (cellsFrom (s.heap.objs.size + 1) scope.names [] ++ closure)) { s with heap := h', toks := t }) :
    wpAny M A (newFunctionEnv scope mainGlobals closure binds (qual ++ ".<locals>.") (some f) code none builtinsNs) Q E s := by
  simp only [newFunctionEnv, Option.isSome_none, Bool.false_eq_true, if_false]
  refine wpAny_bind (wpAny_alloc ?_)
  refine wpAny_bind (wpAny_layCells _ (fun name kind cells => by cases hkc : kind == NameKind.cell <;> simp [hkc]) _ _ _ _ ?_)
  have ok := cellsFrom_ok scope.names (s.heap.push { cls := .type "frame", data := .dict #[] }) (s.heap.objs.size + 1) [] ⟨fun _ _ hm => (nomatch hm), List.Pairwise.nil⟩ (by rw [Heap.size_push]; exact Nat.le_refl _)
  rw [Heap.size_push] at ok
  have e1 : ({ s with heap := s.heap.push { cls := .type "frame", data := .dict #[] } } : Shared).heap.objs.size = s.heap.objs.size + 1 := Heap.size_push ..
  rw [e1]
  have e2 := cells_app closure scope.names (s.heap.objs.size + 1) []
  rw [List.nil_append] at e2
  rw [e2]
  have hn0 : (pushCells (s.heap.push { cls := .type "frame", data := .dict #[] }) scope.names).Ns s.heap.objs.size (fun y => ([] : List (Str × Value)).reverse.lookup y) := (Heap.Ns.new s.heap (.type "frame")).keeps (pushCells_keeps _ _)
  refine wpAny_bind (loc_store s.heap.objs.size (PySem.W.envX qual scope s.heap.objs.size f code (cellsFrom (s.heap.objs.size + 1) scope.names [] ++ closure)) rfl hk _ (fun _ _ _ => rfl) binds [] _ _ _ hn0 (Heap.SameBut.refl ..) hl fun h' t hn hs => wpAny_pure ?_)
  refine q h' t hn (fun b o e => ?_) (fun n c hm => ?_) ok.apart
  · exact hs.extBut b o (Nat.ne_of_lt (Heap.lt_size e)) (pushCells_keeps _ _ b o (Heap.get?_push_of_some _ e))
  · obtain ⟨c1, c2⟩ := ok.empty n c hm
    exact ⟨c1.sameBut hs (Nat.ne_of_gt c2), c2⟩
structure FunC (K : PySem.W.Frag) (x qual : Str) (params : Arguments) (body : List Stmt) (scope : Scope) (D : Addr) (file : Str) (f : Addr) (fd : FuncData) : Prop where
  ex : ∃ (oc : Value) (od : Option Addr) (kV doc pm : Value) (an : Option Addr) (cda : Addr) (ct : Value) (osl : Array (Option Value)) (cc : Addr) (ccl : Value) (cdd : Option Addr) (vs : Array Value) (ccs : Array (Option Value)) (tf : Tok) (cl : Value) (cld : Option Addr) (csl : Array (Option Value)),
    fd = PySem.W.fnX x qual params body scope [(("__class__" : Str), cc)] .none kV doc pm an (.ref cda) ct ∧ K.lookup f = some ⟨oc, od, .func fd, osl⟩ ∧ PySem.W.codeIn K (.ref cda) qual = true ∧
      K.lookup cda = some ⟨ccl, cdd, .fields vs, ccs⟩ ∧ vs[2]? = some (.str file tf) ∧ K.lookup cc = some ⟨cl, cld, .cell (some (.ref D)), csl⟩
  kp : PySem.W.keepIn K (.ref f) = true
structure FnScopeX (N P : List Str) (sc : Scope) : Prop where
  kind : sc.kind = .function
  co : sc.isCoroutine = false
  gen : sc.isGenerator = false
  nd : N.Nodup
  pre : N.take P.length = P
  par : ∀ x ∈ P, sc.names.lookup x = some .local
  nofree : ∀ y ∈ sc.names, y.2 = .free → y.1 = "__class__"
  nocls : sc.names.lookup ("__class__" : Str) = some .free
  nocN : ∀ x ∈ N, x ≠ "__class__"
  nocellcls : ∀ y ∈ sc.names, y.2 = .cell → y.1 = "__class__" → False
def fsxB (N P : List Str) (sc : Scope) : Bool :=
  decide (sc.kind = .function) && !sc.isCoroutine && !sc.isGenerator && decide N.Nodup && decide (N.take P.length = P) && P.all (fun x => decide (sc.names.lookup x = some .local)) && sc.names.all (fun y => !decide (y.2 = .free) || decide (y.1 = ("__class__" : Str))) && decide (sc.names.lookup ("__class__" : Str) = some .free) && N.all (fun x => !decide (x = ("__class__" : Str))) && sc.names.all (fun y => !decide (y.2 = .cell) || !decide (y.1 = ("__class__" : Str)))
theorem fsx_by {N P : List Str} {sc : Scope} (h : fsxB N P sc = true) : FnScopeX N P sc := by
  unfold fsxB at h
  simp only [Bool.and_eq_true, Bool.not_eq_true', decide_eq_true_eq, List.all_eq_true, Bool.or_eq_true, decide_eq_false_iff_not] at h
  obtain ⟨⟨⟨⟨⟨⟨⟨⟨⟨h1, h2⟩, h3⟩, h4⟩, h5⟩, h6⟩, h7⟩, h8⟩, h9⟩, h10⟩ := h
  exact ⟨h1, h2, h3, h4, h5, h6, fun y hy e => (h7 y hy).elim (fun z => absurd e z) id, h8, h9, fun y hy e e2 => (h10 y hy).elim (fun z => z e) fun z => z e2⟩
abbrev envSX (qual : Str) (scope : Scope) (L f : Addr) (cd : Value) (cc : Addr) : PySem.Env := PySem.W.envX qual scope L f cd (cellsFrom (L + 1) scope.names [] ++ [(("__class__" : Str), cc)])
def cxX (CX : CXT) (P : Program) (w : World) (K : PySem.W.Frag) (mg : Str → Option Value) (base : Heap) (N : List Str) (qual : Str) (scope : Scope) (f : Addr) (cd : Value) (cc : Addr) (A : Around) (outer : List PySem.Env) (s : Shared) (H : Hp) (E : XK) : Cx where
  prog := P
  w := w
  K := K
  mg := mg
  base := base
  A := A.deeper (envSX qual scope s.heap.objs.size f cd cc)
  N := N
  s_0 := s
  H_0 := H
  env := envSX qual scope s.heap.objs.size f cd cc
  outer := outer
  stack := envSX qual scope s.heap.objs.size f cd cc :: outer
  ex := []
  calm := true
  fn := fun x => !decide (x = ("__class__" : Str))
  pn := []
  xe := fun e s' => wpAny (model P w) (A.deeper (envSX qual scope s.heap.objs.size f cd cc)) (leaving (envSX qual scope s.heap.objs.size f cd cc) e) (fun _ s'' => CX outer H s E e s'') (fun e' s'' => CX outer H s E e' s'') s'
theorem zip_lk : ∀ {ps : List Str} {us : List Value} {i : Nat} {x : Str} {u : Value}, ps.Nodup → ps[i]? = some x → us[i]? = some u → (ps.zip us).reverse.lookup x = some u
  | [], _, _, _, _, _, h, _ => by simp at h
  | _ :: _, [], _, _, _, _, _, h => by simp at h
  | p :: ps, v :: us, 0, x, u, nd, h1, h2 => by
    simp at h1 h2
    subst h1
    subst h2
    have hn : (ps.zip us).reverse.lookup p = none := by
      cases e : (ps.zip us).reverse.lookup p with
      | none => rfl
      | some v => exact absurd (List.of_mem_zip (List.mem_reverse.mp (PySem.mem_of_lookup e))).1 (List.nodup_cons.mp nd).1
    rw [List.zip_cons_cons, List.reverse_cons, List.lookup_append, hn]
    simp [List.lookup]
  | p :: ps, v :: us, i + 1, x, u, nd, h1, h2 => by
    have e : (ps.zip us).reverse.lookup x = some u := zip_lk (i := i) (List.nodup_cons.mp nd).2 (by simpa using h1) (by simpa using h2)
    rw [List.zip_cons_cons, List.reverse_cons, List.lookup_append, e]
    rfl
section
variable {CX : CXT} {P : Program} {w : World} {K : PySem.W.Frag} {mg : Str → Option Value} {base : Heap} {N ps : List Str} {qual : Str} {scope : Scope} {f D cc : Addr} {cd : Value} {A : Around} {outer : List PySem.Env} {s : Shared} {H : Hp} {E : XK} {us : List Value} {vs : List V}
theorem lk_app {α : Type} {l r : List (Str × α)} {x : Str} {c : α} (h : (l ++ r).lookup x = some c) : l.lookup x = some c ∨ (l.lookup x = none ∧ r.lookup x = some c) := by
  rw [List.lookup_append] at h
  cases e : l.lookup x with
  | some v => rw [e] at h; exact .inl h
  | none => rw [e] at h; exact .inr ⟨rfl, h⟩
theorem lk_one {x : Str} {c cc : Addr} (h : ([(("__class__" : Str), cc)] : List (Str × Addr)).lookup x = some c) : x = "__class__" ∧ c = cc := by
  rw [List.lookup_cons] at h
  cases e : (x == ("__class__" : Str)) with
  | true => rw [e] at h; cases h; exact ⟨beq_iff_eq.mp e, rfl⟩
  | false => rw [e] at h; cases h
theorem own_kind (S : FnScopeX N ps scope) {n : Nat} {x : Str} {c : Addr} (h : (cellsFrom n scope.names []).lookup x = some c) : x ≠ "__class__" := fun e => by
  have key : ∀ (names : List (Str × NameKind)) (n : Nat) (acc : List (Str × Addr)), (x, c) ∈ cellsFrom n names acc → (x, c) ∈ acc ∨ (x, NameKind.cell) ∈ names := by
    intro names
    induction names with
    | nil => intro n acc h; exact .inl h
    | cons y r ih =>
      obtain ⟨y, k⟩ := y
      intro n acc h
      unfold cellsFrom at h
      split at h
      · rename_i hk
        rcases ih _ _ h with z | z
        · rcases List.mem_cons.mp z with z | z
          · cases z
            have hk : k = NameKind.cell := by simpa using hk
            rw [hk]
            exact .inr List.mem_cons_self
          · exact .inl z
        · exact .inr (List.mem_cons_of_mem _ z)
      · rcases ih _ _ h with z | z
        · exact .inl z
        · exact .inr (List.mem_cons_of_mem _ z)
  rcases key scope.names n [] (PySem.mem_of_lookup h) with z | z
  · cases z
  · rw [e] at z
    exact S.nocellcls _ z rfl rfl
theorem invX {h1 : Heap} {tk : Nat} (S : FnScopeX N ps scope) (hd : A.handled = none) (e0 : Env0 P w K mg base A outer s H) (hl : vs.length = ps.length) (r : Vals vs us) (hcc : s.heap.IsCell cc (some (.ref D))) (hccH : H cc = none)
    (hns : h1.Ns s.heap.objs.size fun y => (ps.zip us).reverse.lookup y) (kp : ∀ b o, s.heap.get? b = some o → h1.get? b = some o)
    (own : ∀ n c, (n, c) ∈ cellsFrom (s.heap.objs.size + 1) scope.names [] → h1.IsCell c none ∧ s.heap.objs.size < c) (ap : (cellsFrom (s.heap.objs.size + 1) scope.names []).Pairwise fun x y => x.2 ≠ y.2) :
    Inv (cxX CX P w K mg base N qual scope f cd cc A outer s H E) [] (start N vs) H { s with heap := h1, toks := tk } := by
  have hpl : ps.length ≤ N.length := by have := congrArg List.length S.pre; rw [List.length_take] at this; omega
  have noA : ∀ b : Addr, b ∉ (cxX CX P w K mg base N qual scope f cd cc A outer s H E).ex := fun b z => absurd (show b ∈ ([] : List Addr) from z) (by simp)
  have ccl : cc < s.heap.objs.size := hcc.lt
  have lk : ∀ {x c}, (cxX CX P w K mg base N qual scope f cd cc A outer s H E).env.cells.lookup x = some c → ((cellsFrom (s.heap.objs.size + 1) scope.names []).lookup x = some c ∧ s.heap.objs.size < c ∧ x ≠ "__class__") ∨ (x = "__class__" ∧ c = cc) := fun {x c} h => by
    have h : (cellsFrom (s.heap.objs.size + 1) scope.names [] ++ [(("__class__" : Str), cc)]).lookup x = some c := h
    rcases lk_app h with z | ⟨_, z⟩
    · exact .inl ⟨z, (own x c (PySem.mem_of_lookup z)).2, own_kind S z⟩
    · exact .inr (lk_one z)
  have cellH : ∀ x c, (cxX CX P w K mg base N qual scope f cd cc A outer s H E).env.cells.lookup x = some c → (∃ v, h1.IsCell c v) ∧ H c = none := fun x c h => by
    rcases lk h with ⟨z, z2, _⟩ | ⟨_, z⟩
    · exact ⟨⟨none, (own x c (PySem.mem_of_lookup z)).1⟩, e0.hok.fresh (Nat.le_of_lt z2)⟩
    · subst z
      obtain ⟨o, ho, hd⟩ := hcc
      exact ⟨⟨_, o, kp _ _ ho, hd⟩, hccH⟩
  refine ⟨⟨e0.mod, S.kind, rfl, rfl, Nat.le_refl _, fun x y c h1 h2 => ?_, fun y hy => ?_, fun y c hf h => ?_, fun _ => hd, Around.frames_deeper e0.frames, .inr ⟨rfl, rfl⟩, fun b z => absurd z (noA b), e0.bs, e0.bsz, fun b _ _ => noA b, fun b z => absurd z (noA b), e0.funs, e0.frf⟩,
    rfl, e0.bare, Un.kept kp, ⟨_, hns, fun i y v h1 h2 h3 => ?_⟩, fun y c h => (cellH y c h).1, e0.hok.fresh (Nat.le_refl _), fun y c h => (cellH y c h).2, fun p hp => absurd (show p ∈ ([] : List (Addr × Obj)) from hp) (by simp), e0.hok.kept kp, ?_⟩
  · rcases lk h1 with ⟨a1, a2, _⟩ | ⟨a1, a2⟩ <;> rcases lk h2 with ⟨b1, b2, _⟩ | ⟨b1, b2⟩
    · exact name_of_addr ap (PySem.mem_of_lookup a1) (PySem.mem_of_lookup b1)
    · exact absurd (b2 ▸ ccl : c < s.heap.objs.size) (Nat.lt_asymm a2)
    · exact absurd (a2 ▸ ccl : c < s.heap.objs.size) (Nat.lt_asymm b2)
    · rw [a1, b1]
  · have hy : scope.names.lookup y = some .cell ∨ scope.names.lookup y = some .free := hy
    show ∃ c, (cellsFrom (s.heap.objs.size + 1) scope.names [] ++ [(("__class__" : Str), cc)]).lookup y = some c
    rcases hy with hy | hy
    · obtain ⟨c, hc⟩ := cell_has (n := s.heap.objs.size + 1) hy
      exact ⟨c, by rw [List.lookup_append, hc]; rfl⟩
    · have e := S.nofree _ (PySem.mem_of_lookup hy) rfl
      rw [List.lookup_append]
      cases q : (cellsFrom (s.heap.objs.size + 1) scope.names []).lookup y with
      | some c => exact ⟨c, rfl⟩
      | none =>
        refine ⟨cc, ?_⟩
        have e : y = "__class__" := e
        show (none.or (([(("__class__" : Str), cc)] : List (Str × Addr)).lookup y)) = some cc
        rw [e]
        rfl
  · rcases lk h with ⟨_, z, _⟩ | ⟨z, _⟩
    · exact Nat.le_of_lt z
    · have hf : (!decide (y = ("__class__" : Str))) = true := hf
      rw [z] at hf
      simp at hf
  · have hi : i < vs.length := by
      unfold L2.start at h2
      by_cases hi : i < vs.length
      · exact hi
      · rw [List.getElem?_append_right (by simpa using hi)] at h2
        rw [List.getElem?_replicate] at h2
        split at h2 <;> cases h2
    have ha : vs[i]? = some v := by
      unfold L2.start at h2
      rw [List.getElem?_append_left (by simpa using hi), List.getElem?_map] at h2
      cases e : vs[i]? with
      | none => rw [e] at h2; cases h2
      | some a => rw [e] at h2; cases h2; rfl
    obtain ⟨u, hu, rv⟩ := r.get ha
    have hp : ps[i]? = some y := by
      rw [← S.pre, List.getElem?_take_of_lt (by omega)]; exact h1
    have ndP : ps.Nodup := by rw [← S.pre]; exact S.nd.sublist (List.take_sublist _ _)
    exact ⟨u, rv, .inl ⟨S.par y (List.mem_of_getElem? hp), zip_lk ndP hp hu⟩⟩
  · unfold L2.start
    show _ = N.length
    rw [List.length_append, List.length_map, List.length_replicate]
    omega
end
structure PSsA (X : Cx) (b st : List Stmt) (t : TS) : Prop where
  run : ∀ (pins : List (Addr × Obj)) (s : Shared) (σ : L2.St) (H : Hp) (D : Ends), Inv X pins σ H s → t D σ H → _root_.PySem.wpAt (model X.prog X.w) X.A (.func b X.env) (execs st X.env) (SP X pins D) X.xe s
structure PSA (X : Cx) (b : List Stmt) (st : Stmt) (t : TS) : Prop where
  run : ∀ (pins : List (Addr × Obj)) (s : Shared) (σ : L2.St) (H : Hp) (D : Ends), Inv X pins σ H s → t D σ H → _root_.PySem.wpAt (model X.prog X.w) X.A (.func b X.env) (exec st X.env) (SP X pins D) X.xe s
structure PEA (X : Cx) (b : List Stmt) (e : Expr) (t : TE) : Prop where
  run : ∀ (pins : List (Addr × Obj)) (s : Shared) (σ : L2.St) (H : Hp) (Q : VK), Inv X pins σ H s → t σ H Q → _root_.PySem.wpAt (model X.prog X.w) X.A (.func b X.env) (eval e X.env) (EP X pins σ Q) X.xe s
theorem PSsA.of {X : Cx} {b st : List Stmt} {t : TS} (h : PSs X st t) : PSsA X b st t := ⟨fun pins s σ H D I q => _root_.PySem.wpAt_of_wpAny (h.run pins s σ H D I q)⟩
theorem PSA.of {X : Cx} {b : List Stmt} {st : Stmt} {t : TS} (h : PS X st t) : PSA X b st t := ⟨fun pins s σ H D I q => _root_.PySem.wpAt_of_wpAny (h.run pins s σ H D I q)⟩
theorem PEA.of {X : Cx} {b : List Stmt} {e : Expr} {t : TE} (h : PE X e t) : PEA X b e t := ⟨fun pins s σ H Q I q => _root_.PySem.wpAt_of_wpAny (h.run pins s σ H Q I q)⟩
theorem PSA.weak {X : Cx} {b : List Stmt} {st : Stmt} {t t' : TS} (h : PSA X b st t) (k : ∀ E σ H, t' E σ H → t E σ H) : PSA X b st t' := ⟨fun pins s σ H E I q => h.run pins s σ H E I (k E σ H q)⟩
theorem PSsA.weak {X : Cx} {b st : List Stmt} {t t' : TS} (h : PSsA X b st t) (k : ∀ E σ H, t' E σ H → t E σ H) : PSsA X b st t' := ⟨fun pins s σ H E I q => h.run pins s σ H E I (k E σ H q)⟩
theorem PEA.weak {X : Cx} {b : List Stmt} {e : Expr} {t t' : TE} (h : PEA X b e t) (k : ∀ σ H Q, t' σ H Q → t σ H Q) : PEA X b e t' := ⟨fun pins s σ H Q I q => h.run pins s σ H Q I (k σ H Q q)⟩
theorem FunC.ok {P : Program} {w : World} {K : PySem.W.Frag} {mg : Str → Option Value} {base : Heap} {x qual file : Str} {params : Arguments} {body : List Stmt} {scope : Scope} {D f : Addr} {fd : FuncData} {CX : CXT} {N ps : List Str} {k : Nat} {sp : Sp}
    (F : FunC K x qual params body scope D file f fd) (S : FnScopeX N ps scope) (hbi : ∀ (kV doc pm : Value) (an : Option Addr) (cdv ct : Value) (cl : List (Str × Addr)) (us : List Value), us.length = ps.length → bindArgs (PySem.W.fnX x qual params body scope cl .none kV doc pm an cdv ct) ⟨us, []⟩ = pure (ps.zip us))
    (len : ∀ vs H Q E, sp vs H Q E → vs.length = ps.length)
    (hbody : ∀ (cda cc : Addr) (A : Around) (outer : List PySem.Env) (s : Shared) (H : Hp) (vs : List V) (Q : VK) (E : XK), (∃ (ccl : Value) (cdd : Option Addr) (vs : Array Value) (ccs : Array (Option Value)) (tf : Tok) (oc : Value) (od : Option Addr) (osl : Array (Option Value)) (cl : Value) (cld : Option Addr) (csl : Array (Option Value)),
        K.lookup f = some ⟨oc, od, .func fd, osl⟩ ∧ K.lookup cda = some ⟨ccl, cdd, .fields vs, ccs⟩ ∧ vs[2]? = some (.str file tf) ∧ K.lookup cc = some ⟨cl, cld, .cell (some (.ref D)), csl⟩ ∧ fd.code = .ref cda) →
      Room k (A.deeper (envSX qual scope s.heap.objs.size f (.ref cda) cc)) → sp vs H Q E →
      ∃ t, PSsA (cxX CX P w K mg base N qual scope f (.ref cda) cc A outer s H E) body body t ∧ t { nx := fun _ H' => Q .non H', rt := Q } (start N vs) H) : FnOk P w K mg base CX (k + 1) f fd ps sp ∧ Binds K fd ps [] := by
  obtain ⟨oc, od, kV, doc, pm, an, cda, ct, osl, cc, ccl, cdd, vs0, ccs, tf, cl, cld, csl, rfl, lk, hcd, h4, h5, h6⟩ := F.ex
  refine ⟨⟨len, fun A outer s H args us vs Q E hr e0 hb r hsp => ?_⟩, .all fun us hl => hbi kV doc pm an _ ct _ us hl⟩
  have hl := len _ _ _ _ hsp
  have KX : K.In s.heap := e0.mod.kin.keeps fun b o e => (e0.bs b o e).1
  have lim : s.heap.NoLimit := e0.mod.nolimit.keeps fun b o e => (e0.bs b o e).1
  have hkind : ∀ y ∈ ps.zip us, scope.names.lookup y.1 = some .local := fun ⟨n, v⟩ hy => S.par n (List.of_mem_zip hy).1
  refine codeAny_call_function hr.depth (KX _ _ lk) rfl S.co S.gen rfl (PySem.W.codeRec_of KX hcd) (hb _ _ _ _ ?_)
  refine newEnv_cells S.kind hkind fun h1 t1 hns kp own ap => ⟨lim.keeps kp, ks_codeAny_funcAt ?_⟩
  obtain ⟨t, ht, hq⟩ := hbody cda cc A outer s H vs Q E ⟨ccl, cdd, vs0, ccs, tf, oc, od, osl, cl, cld, csl, lk, h4, h5, h6, rfl⟩ (hr.deeper _) hsp
  have hcc : s.heap.IsCell cc (some (.ref D)) := ⟨_, KX _ _ h6, rfl⟩
  have I : Inv (cxX CX P w K mg base N qual scope f (.ref cda) cc A outer s H E) [] (start N vs) H { s with heap := h1, toks := t1 } := invX S hr.hd e0 hl r hcc ((e0.bs _ _ (e0.mod.kin _ _ h6)).2) hns kp own ap
  refine _root_.PySem.wpAt_mono (ht.run [] _ (start N vs) H _ I hq) (fun fl s' hs => ?_) fun e s' hs => hs
  have fin : ∀ {σ' : L2.St} {H' : Hp} {v : V} {u : Value}, Inv (cxX CX P w K mg base N qual scope f (.ref cda) cc A outer s H E) [] σ' H' s' → RelV v u → Q v H' → CE outer P w H s Q u s' :=
    fun {σ' H' v u} J rv q => ⟨v, H', J.os, J.bare, J.base, J.hok, rv, q⟩
  cases fl with
  | ret u =>
    obtain ⟨v, σ', H', J, rv, q⟩ := hs
    exact fin J rv q
  | next =>
    obtain ⟨σ', H', J, q⟩ := hs
    exact fin (v := V.non) (u := Value.none) J rfl q
  | brk =>
    obtain ⟨_, _, _, q⟩ := hs
    exact False.elim q
  | cont =>
    obtain ⟨_, _, _, q⟩ := hs
    exact False.elim q
end DL
namespace DL
open PySem PySem.Spec PyProof.Rows L2 ClX
variable [Tb]
structure SupX (X : Cx) (D : Addr) : Prop where
  ks : X.env.kindOf "super" = some .globalImplicit
  kc : X.env.kindOf "__class__" = some .free
  fn : ∃ f oc od osl fd ar, X.env.func = some f ∧ X.K.lookup f = some ⟨oc, od, .func fd, osl⟩ ∧ (fd.params.posonlyargs ++ fd.params.args).head? = some ar ∧ X.N[0]? = some ar.arg ∧ X.env.kindOf ar.arg = some .local
  code : ∃ cda ccl cdd vs ccs file tf, X.env.code = .ref cda ∧ X.K.lookup cda = some ⟨ccl, cdd, .fields vs, ccs⟩ ∧ vs[2]? = some (.str file tf) ∧ ((X.prog.main.file : Str) == file) = true
  cell : ∃ cc cl cld csl, X.env.cells.lookup ("__class__" : Str) = some cc ∧ X.K.lookup cc = some ⟨cl, cld, .cell (some (.ref D)), csl⟩
  top : (X.prog.main.scope.names.lookup ("super" : Str)).isSome = false
  free : X.mg "super" = none
  isc : PySem.W.isClsIn X.K D = true
  pc : ∀ p : Str × Option Str, X.env.func = some (He.fAd X.K p) → X.env.code = .ref (He.codeOf X.K p)
section
variable {X : Cx} {pins : List (Addr × Obj)} {σ : L2.St} {H : Hp} {s : Shared} {D C x : Addr} {b : List Stmt}
theorem cls_data (I : Inv X pins σ H s) (h : PySem.W.isClsIn X.K D = true) : ∃ oD cdD, s.heap.get? D = some oD ∧ oD.data = .cls cdD := by
  obtain ⟨cd, hcd⟩ := Option.isSome_iff_exists.mp (show (PySem.W.clsIn X.K D).isSome = true from h)
  unfold PySem.W.clsIn at hcd
  split at hcd
  · rename_i c d cd' sl ho
    cases hcd
    exact ⟨_, _, I.kIn _ _ ho, rfl⟩
  · cases hcd
theorem super_base {p0 p1 : Pos} {attr : Str} {whole : Sem Value} {ox : Obj} {od : Option Obj} {Q : Value → Shared → Prop} (U : SupX X D) (I : Inv X pins σ H s) (hx : σ[0]? = some (some (.ref x))) (J : PySem.W.InstAt s.heap x ox C od)
    (hsub : PySem.W.mroIn X.K C (.ref D) = some true) (hat : (attr == ("__class__" : Str)) = false)
    (h : ∀ so h', Inv X ((so, PySem.W.ks_superObj D x C) :: pins) σ H { s with heap := h' } → (∀ y o, s.heap.get? y = some o → h'.get? y = some o) → Q (.ref so) { s with heap := h' }) :
    _root_.PySem.wpAt (model X.prog X.w) X.A (.func b X.env) (attributeBase (.Call (.Name "super" p0) [] [] p1) attr X.env whole) Q X.xe s := by
  obtain ⟨f, oc, odf, osl, fd, ar, f1, f2, f3, f4, f5⟩ := U.fn
  obtain ⟨cda, ccl, cdd, vs, ccs, file, tf, c1, c2, c3, c4⟩ := U.code
  obtain ⟨cc, cl, cld, csl, e1, e2⟩ := U.cell
  obtain ⟨oD, cdD, hD1, hD2⟩ := cls_data I U.isc
  obtain ⟨mb, b1, b2⟩ := I.mod.blt
  obtain ⟨m, hn, hl⟩ := I.loc
  obtain ⟨u, ru, lu⟩ := hl 0 ar.arg (.ref x) f4 hx (.inl f5)
  obtain rfl : u = Value.ref x := ru
  have hm : m ar.arg = some (.ref x) := by
    rcases lu with ⟨_, z⟩ | ⟨z, _⟩
    · exact z
    · rcases z with z | z <;> (rw [f5] at z; cases z)
  refine ks_wpAt_super_base (env := X.env) U.ks U.kc hat f1 (I.kIn _ _ f2) rfl f3 c1 (I.kIn _ _ c2) rfl c3 c4 U.top ?_
  refine PySem.W.ks_loadName_global I.ok.kind U.ks (Calls.loadGlobal_builtin (by rw [I.ok.glob]; exact I.mod.glob.keeps I.bk) U.free (by rw [I.ok.blt]; exact b1.keeps I.bk) ((b2 _ (by decide)).trans (by decide +kernel)) ⟨rfl, ?_⟩)
  refine wpAny_loadName_free I.ok.kind U.kc e1 ⟨_, I.kIn _ _ e2, rfl⟩ ?_
  refine wpAny_loadName_local I.ok.kind f5 hn hm ?_
  refine ks_wpAny_isType_cls hD1 hD2 ⟨rfl, ?_⟩
  refine ks_wpAny_call_super hD1 hD2 J.at_ J.cls (fun c e => ?_) (PySem.W.looks_mroIn I.kIn hsub) (fun h' e k => ?_)
  · have := J.no
    unfold PySem.W.notCls at this
    rw [e] at this
    exact Bool.noConfusion this
  · exact h _ h' (pin_new (t' := s.toks) I k (Nat.le_refl _) e (fun v z => nomatch z)) k
theorem super_get {name : Str} {pl : Sem Bool} {ox : Obj} {od : Option Obj} {so f2 : Addr} {A : Around} {E : Value → Shared → Prop} {Q : Value × List Value → Shared → Prop} (I : Inv X ((so, PySem.W.ks_superObj D x C) :: pins) σ H s) (J : PySem.W.InstAt s.heap x ox C od) (ho : PySem.W.nsIn X.K cStatics "thirdparty.any" = some none)
    (hm : PySem.W.ks_superIn X.K C D name = some (some (.ref f2))) (ht : PySem.W.typeIn X.K (.ref f2) = some (.type "function")) (hn : (name == ("__class__" : Str)) = false)
    (h : ∀ q s', Inv X ((q, PySem.W.methodObj (.ref f2) (.ref x)) :: (so, PySem.W.ks_superObj D x C) :: pins) σ H s' → s.heap.objs.size ≤ q → Q (.ref q, []) s') : wpAny (model X.prog X.w) A (getMethod (.ref so) name pl) Q E s := by
  have KX := I.kIn
  have hso := pin_at I
  have met := fun (g : Addr) => met_new (g := g) (C := x) I
  have hlt : s.heap.objs.size ≤ s.heap.objs.size := Nat.le_refl _
  obtain ⟨hh, g, d, t, os⟩ := s
  cases hc : PySem.W.clsIn X.K C with
  | none => unfold PySem.W.ks_superIn at hm; rw [hc] at hm; cases hm
  | some cd =>
    unfold PySem.W.ks_superIn at hm
    rw [hc] at hm
    obtain ⟨of, hof, hofc⟩ : ∃ of, hh.get? f2 = some of ∧ of.cls = .type "function" := by
      have ht' : (X.K.lookup f2).map (·.cls) = some (.type "function") := ht
      cases z : X.K.lookup f2 with
      | none => rw [z] at ht'; cases ht'
      | some of => rw [z] at ht'; exact ⟨of, KX _ _ z, Option.some.inj ht'⟩
    refine ks_wpAny_getMethod_super hso (PySem.W.looks_opaque KX ho) (l₀ := cd.mro) ?_ rfl KX hm hof hofc (PySem.W.ks_ne KX J hc) hn ?_
    · exact fun A Q E s k q => wpAny_bind ((PySem.W.looks_clsIn KX hc) A _ E s k (wpAny_pure q))
    · exact h _ _ (met f2) hlt
theorem unpin2 {p q : Addr × Obj} {Q : VK} {u : Value} {s' : Shared} (h : EP X (p :: q :: pins) σ Q u s') : EP X pins σ Q u s' := unpinE (unpinE h)
def tSup (K : PySem.W.Frag) (D : Addr) (m : Str) (k : Nat) (Fo : Addr → Addr → Sp → Prop) (E : XK) (t : TA) : TE := fun σ H Q => ∃ x C dx fs f2 sp, σ[0]? = some (some (.ref x)) ∧ H x = some (.ins C dx fs) ∧ PySem.W.mroIn K C (.ref D) = some true ∧ PySem.W.ks_superIn K C D m = some (some (.ref f2)) ∧
  PySem.W.typeIn K (.ref f2) = some (.type "function") ∧ PySem.W.fnIn K f2 = true ∧ Fo C f2 sp ∧ t σ H fun vs H2 => sp (.ref x :: vs) H2 Q E
theorem pea_super {m : Str} {p0 p1 apos pos : Pos} {e : Expr} {es : List Expr} {t : TA} {k : Nat} {CX : CXT} {E : XK} {pl : Sem Bool} {Fo : Addr → Addr → Sp → Prop} (U : SupX X D) (ho : PySem.W.nsIn X.K cStatics "thirdparty.any" = some none) (hat : (m == ("__class__" : Str)) = false)
    (hF : ∀ C f2 sp, Fo C f2 sp → ∃ fd ps, FnOk X.prog X.w X.K X.mg X.base CX k f2 fd ps sp ∧ Binds X.K fd ps []) (hr : Room k X.A) (hx : Passes CX X E) (ha : PA X (e :: es) t)
    (hst : starEach (e :: es) X.env = (false, eval e X.env) :: starEach es X.env := by rfl) (hpl : (backTo pos (starEach es X.env)).any (·.1) = false := by rfl)
    (ht : eval (.Call (.Attribute (.Call (.Name "super" p0) [] [] p1) m apos) (e :: es) [] pos) X.env = (do
      let ov ← attributeBase (.Call (.Name "super" p0) [] [] p1) m X.env (eval (.Call (.Name "super" p0) [] [] p1) X.env)
      standAt apos.atName
      let (f, first) ← holding [ov] (getMethod ov m pl)
      callWith pos f first (backTo pos (starEach (e :: es) X.env)) []) := by rfl) :
    PEA X b (.Call (.Attribute (.Call (.Name "super" p0) [] [] p1) m apos) (e :: es) [] pos) (tSup X.K D m k Fo E t) := by
  refine ⟨fun pins s σ H Q I hq => ?_⟩
  obtain ⟨x, C, dx, fs, f2, sp, h0, hins, hsub, hsup, hty, hfi, fo, hq⟩ := hq
  refine ks_wpAt_MethodCall ?_ ht
  obtain ⟨mA, O, _⟩ := ins_get I.hok hins
  obtain ⟨od, J, _⟩ := O.look
  refine super_base U I h0 J hsub hat fun so h' I1 kp => ?_
  obtain ⟨mA1, O1, _⟩ := ins_get I1.hok hins
  obtain ⟨od1, J1, _⟩ := O1.look
  refine super_get I1 J1 ho hsup hty hat fun q s2 I2 hge => ?_
  have hqb : X.base.get? q = none := base_none I1 hge
  refine callwith_cm I2 hqb hfi (thn (ha.run pos _ s2 σ H _ I2 hq) fun us s3 ⟨vs, H2, I3, rv, q2⟩ => ⟨⟨pin_at I3, I3.kIn⟩, ?_⟩) hst hpl
  obtain ⟨fd, ps, F, hb⟩ := hF C f2 sp fo
  have z : wpAny (model X.prog X.w) X.A (call (.ref q) us) (EP X ((q, PySem.W.methodObj (.ref f2) (.ref x)) :: (so, PySem.W.ks_superObj D x C) :: pins) σ Q) X.xe s3 := by
    refine wpAny_call (PySem.W.method_call (pin_at I3) ?_)
    have r2 : Vals (.ref x :: vs) (.ref x :: us) := .cons rfl rv
    have hl : (Value.ref x :: us ++ []).length = ps.length := by
      rw [List.append_nil, ← r2.length]
      exact F.len _ _ _ _ q2
    have hb2 := hb s3 (Value.ref x :: us) I3.kIn hl
    rw [List.append_nil] at hb2
    refine codeAny_mono (F.run X.A X.stack s3 H2 ⟨Value.ref x :: us, []⟩ (Value.ref x :: us) (.ref x :: vs) Q E hr I3.env0 hb2 r2 q2) fun r s' hq => ?_
    cases r with
    | error e => exact hx _ σ H2 s3 e s' I3 hq
    | ok fl =>
      cases fl with
      | ret u => exact I3.after hq
      | next => exact False.elim hq
      | brk => exact False.elim hq
      | cont => exact False.elim hq
  exact thn z fun _ _ y => unpin2 y
end
structure PrOk (P : Program) (file : Str) : Prop where
  file : ((P.main.file : Str) == file) = true
  top : (P.main.scope.names.lookup ("super" : Str)).isSome = false
structure SupD (params : Arguments) (scope : Scope) (N : List Str) : Prop where
  ks : scope.names.lookup ("super" : Str) = some .globalImplicit
  kc : scope.names.lookup ("__class__" : Str) = some .free
  fn : ∃ ar, (params.posonlyargs ++ params.args).head? = some ar ∧ N[0]? = some ar.arg ∧ scope.names.lookup ar.arg = some .local
theorem FunC.ok2 {P : Program} {w : World} {K : PySem.W.Frag} {mg : Str → Option Value} {base : Heap} {x qual file : Str} {params : Arguments} {body : List Stmt} {scope : Scope} {D f : Addr} {fd : FuncData} {CX : CXT} {N ps : List Str} {k : Nat} {sp : Sp}
    (F : FunC K x qual params body scope D file f fd) (S : FnScopeX N ps scope) (SD : SupD params scope N) (PO : PrOk P file) (hfree : mg "super" = none) (hisc : PySem.W.isClsIn K D = true)
    (hbi : ∀ (kV doc pm : Value) (an : Option Addr) (cdv ct : Value) (cl : List (Str × Addr)) (us : List Value), us.length = ps.length → bindArgs (PySem.W.fnX x qual params body scope cl .none kV doc pm an cdv ct) ⟨us, []⟩ = pure (ps.zip us))
    (len : ∀ vs H Q E, sp vs H Q E → vs.length = ps.length)
    (hbody : ∀ (cda cc : Addr) (A : Around) (outer : List PySem.Env) (s : Shared) (H : Hp) (vs : List V) (Q : VK) (E : XK), SupX (cxX CX P w K mg base N qual scope f (.ref cda) cc A outer s H E) D → Room k (A.deeper (envSX qual scope s.heap.objs.size f (.ref cda) cc)) → sp vs H Q E →
      ∃ t, PSsA (cxX CX P w K mg base N qual scope f (.ref cda) cc A outer s H E) body body t ∧ t { nx := fun _ H' => Q .non H', rt := Q } (L2.start N vs) H) : FnOk P w K mg base CX (k + 1) f fd ps sp ∧ Binds K fd ps [] := by
  obtain ⟨_, _, _, _, _, _, _, _, _, _, _, _, _, _, _, _, _, _, efd, _⟩ := id F.ex
  refine F.ok S hbi len fun cda cc A outer s H vs Q E hx hr hsp => hbody cda cc A outer s H vs Q E ?_ hr hsp
  obtain ⟨ccl, cdd, vs, ccs, tf, oc, od, osl, cl, cld, csl, h1, h2, h3, h4, h5⟩ := hx
  obtain ⟨ar, a1, a2, a3⟩ := SD.fn
  refine ⟨SD.ks, SD.kc, ⟨f, oc, od, osl, fd, ar, rfl, h1, by rw [efd]; exact a1, a2, a3⟩, ⟨cda, ccl, cdd, vs, ccs, file, tf, rfl, h2, h3, PO.file⟩, ⟨cc, cl, cld, csl, ?_, h4⟩, PO.top, hfree, hisc, fun p hp => ?_⟩
  show (cellsFrom (s.heap.objs.size + 1) scope.names [] ++ [(("__class__" : Str), cc)]).lookup ("__class__" : Str) = some cc
  rw [List.lookup_append]
  cases q : (cellsFrom (s.heap.objs.size + 1) scope.names []).lookup ("__class__" : Str) with
  | some c => exact absurd rfl (own_kind S q)
  | none => rfl
  have hp : f = He.fAd K p := Option.some.inj hp
  subst hp
  exact congrArg Value.ref (He.codeOf_eq h1 h5).symm
section
variable {X : Cx} {b rest : List Stmt} {st : Stmt} {e : Expr} {te : TE} {t u : TS} {pos : Pos}
theorem psa_cons (h1 : PSA X b st t) (h2 : PSsA X b rest u) : PSsA X b (st :: rest) (fun D σ H => t { D with nx := u D } σ H) := by
  refine ⟨fun pins s σ H D I h => ks_wpAt_execs_cons (_root_.PySem.wpAt_mono (h1.run pins s σ H _ I h) (fun f s' hs => ?_) fun _ _ x => x)⟩
  cases f with
  | next => obtain ⟨σ', H', J, q⟩ := hs; exact h2.run pins s' σ' H' D J q
  | brk => exact hs
  | cont => exact hs
  | ret v => exact hs
theorem psa_expr (he : PEA X b e te) (hs : swapsWith e none pos.line X.env = pure false := by rfl) : PSA X b (.Expr e pos) (fun D σ H => te σ H fun _ H' => D.nx σ H') :=
  ⟨fun pins s σ H D I h => ks_wpAt_Expr_any (_root_.PySem.wpAt_mono (he.run pins s σ H _ I h) (fun v s1 ⟨x, H1, I1, r1, q1⟩ => ⟨σ, H1, I1, q1⟩) fun _ _ x => x) I.quiet hs⟩
theorem psa_ret (he : PEA X b e te) : PSA X b (.Return (some e) pos) (fun D σ H => te σ H D.rt) :=
  ⟨fun pins s σ H D I h => ks_wpAt_Return_some (_root_.PySem.wpAt_mono (he.run pins s σ H _ I h) (fun v s1 ⟨x, H1, I1, r1, q1⟩ => ⟨x, σ, H1, I1, r1, q1⟩) fun _ _ x => x)⟩
theorem psa_set {i : Nat} {x : Str} {pos' : Pos} (hN : X.N.Nodup) (hi : X.N[i]? = some x) (hx : Loc X.env.scope x) (he : PEA X b e te) (hs : swapsWith e (some (.Name x pos')) pos.line X.env = pure false := by rfl) (hf : X.fn x = true ∨ X.env.scope.names.lookup x = some .local := by first | exact .inl rfl | exact .inr rfl | assumption) :
    PSA X b (.Assign [.Name x pos'] e pos) (fun D σ H => te σ H fun v H' => D.nx (σ.set i (some v)) H') := by
  refine ⟨fun pins s σ H D I h => ?_⟩
  refine ks_wpAt_Assign_Name (_root_.PySem.wpAt_mono (he.run pins s σ H _ I h) (fun v s1 ⟨y, H1, I1, r1, q1⟩ => ?_) fun _ _ x => x) hs
  exact store_ok I1 hN hi hx r1 (fun s2 I2 => ⟨_, H1, I2, q1⟩) hf
end
end DL
namespace DL
open PySem PySem.Spec PyProof.Rows L2 ClX
variable [Tb]
section
variable {prog : Program} {w : World} {A : Around} {E : Value → Shared → Prop} {h : Heap} {g : Array GenState} {d : Drawn} {t : Nat} {os : OsState} {nm q : Str} {C N : Addr} {bs bm : List Value} {hdct : Bool} {sn : List Str} {sub : List Value} {ab : Bool} {col : Option Bool} {dd : Option Addr} {k0 k1 k2 k3 k5 : Option Value}
theorem call_mw {u e t0 : Addr} {rest : List Value} {Q : Value → Shared → Prop}
    (hC : h.get? C = some (excClassObj nm q C N bs bm hdct sn sub ab col dd k0 k1 k2 k3 k5 "ValueError.__new__")) (he : h.get? e = some (HandSPX.excO C t0)) (hu : h.get? u = some (PySem.W.kxs_mw "ValueError.__init__" e)) (hrest : rest.length ≤ sizeLine)
    (hq : ∀ h' t1, (∀ b o, b ≠ e → h.get? b = some o → h'.get? b = some o) → h'.get? e = some (HandSPX.excO C t1) → Q .none ⟨h', g, d, t, os⟩) :
    wpAny (model prog w) A (call (.ref u) rest) Q E ⟨h, g, d, t, os⟩ := by
  refine wpAny_call (codeAny_of_tree ?_)
  show wpAny _ A.in1 (callAny (.ref u) ⟨rest, []⟩) _ _ _
  simp only [callAny]
  refine wpAny_bind (wpAny_load hu ?_)
  simp only [PySem.W.kxs_mw, show (Value.type "method-wrapper" == Value.type "method" || Value.type "method-wrapper" == Value.type "builtin_function_or_method" || Value.type "method-wrapper" == Value.type "method-wrapper") = true by decide, if_true]
  refine PySem.W.KFB.if_so (by decide) ?_
  refine wpAny_bind (PySem.W.check_bound_init PySem.F.excBase_ValueError.toExcCallFacts hC he rfl ?_)
  refine wpAny_bind (wpAny_pure (wpAny_pure ?_))
  refine ⟨Code.quiet_builtin _ (by decide +kernel), codeAny_builtin PySem.F.excBase_ValueError.initEntry ?_⟩
  rw [Around.under_plainId PySem.F.excBase_ValueError.init.plain _]
  wp_walk
  refine hq _ h.objs.size (fun b o hb ho => ?_) ?_
  · rw [Heap.get?_update_other _ _ (Ne.symm hb)]
    exact Heap.get?_push_of_some _ ho
  · rw [Heap.get?_update_self _ (Heap.get?_push_of_some _ he) rfl]
    rfl
end
section
variable {X : Cx} {pins : List (Addr × Obj)} {σ : L2.St} {H : Hp} {s : Shared} {D C x : Addr} {b : List Stmt}
theorem exo_inst {d : Option Addr} (I : Inv X pins σ H s) (e : H x = some (exo x C none)) : ∃ t0, s.heap.get? x = some (HandSPX.excO C t0) ∧ PySem.W.InstAt s.heap x (HandSPX.excO C t0) C none := by
  obtain ⟨t1, ho⟩ := exo_at I.hok e
  exact ⟨t1, ho, ho, rfl, rfl, trivial⟩
def tSupI (K : PySem.W.Frag) (D : Addr) (t : TA) : TE := fun σ H Q => ∃ x C, σ[0]? = some (some (.ref x)) ∧ H x = some (exo x C none) ∧ OexC K C ∧ PySem.W.mroIn K C (.ref D) = some true ∧ PySem.W.ks_superIn K C D "__init__" = some (some (.builtin "ValueError.__init__")) ∧
  PySem.W.subIn K (.ref C) (.type "ValueError") = some true ∧ t σ H fun vs H2 => vs.length ≤ 1000 ∧ H2 x = some (exo x C none) ∧ Q .non H2
theorem pea_superI {p0 p1 apos pos : Pos} {e : Expr} {es : List Expr} {t : TA} {pl : Sem Bool} (U : SupX X D) (ho : PySem.W.nsIn X.K cStatics "thirdparty.any" = some none) (ha : PA X (e :: es) t)
    (hst : starEach (e :: es) X.env = (false, eval e X.env) :: starEach es X.env := by rfl) (hpl : (backTo pos (starEach es X.env)).any (·.1) = false := by rfl)
    (ht : eval (.Call (.Attribute (.Call (.Name "super" p0) [] [] p1) "__init__" apos) (e :: es) [] pos) X.env = (do
      let ov ← attributeBase (.Call (.Name "super" p0) [] [] p1) "__init__" X.env (eval (.Call (.Name "super" p0) [] [] p1) X.env)
      standAt apos.atName
      let (f, first) ← holding [ov] (getMethod ov "__init__" pl)
      callWith pos f first (backTo pos (starEach (e :: es) X.env)) []) := by rfl) :
    PEA X b (.Call (.Attribute (.Call (.Name "super" p0) [] [] p1) "__init__" apos) (e :: es) [] pos) (tSupI X.K D t) := by
  refine ⟨fun pins s σ H Q I hq => ?_⟩
  obtain ⟨x, C, h0, hex, T, hsub, hsup, hve, hq⟩ := hq
  obtain ⟨nm, q, N, bs, bm, sn, sub, ab, col, dd, k0, k1, k2, k3, k5, hC, hbm⟩ := T.cls
  refine ks_wpAt_MethodCall ?_ ht
  obtain ⟨t0, hx0, J⟩ := exo_inst (d := none) I hex
  refine super_base U I h0 J hsub (by decide) fun so h' I1 kp => ?_
  obtain ⟨t1, hx1, J1⟩ := exo_inst (d := none) I1 hex
  have KX := I1.kIn
  have hso := pin_at I1
  have newp := fun (tt : Nat) => pin_new (t' := tt) (h' := h'.push (PySem.W.kxs_mw "ValueError.__init__" x)) (o := PySem.W.kxs_mw "ValueError.__init__" x) I1 (fun b u z => Heap.get?_push_of_some _ z) (Nat.le_refl _) (Heap.get?_push_size _ rfl) (fun v z => nomatch z)
  have hqb : X.base.get? h'.objs.size = none := base_none I1 (Nat.le_refl _)
  cases hc : PySem.W.clsIn X.K C with
  | none => unfold PySem.W.ks_superIn at hsup; rw [hc] at hsup; cases hsup
  | some cd =>
    unfold PySem.W.ks_superIn at hsup
    rw [hc] at hsup
    have hI : PySem.W.Looks (model X.prog X.w) h' (isInstance (.ref x) (.type "ValueError")) true := J1.type.andThen (PySem.W.looks_subIn KX hve)
    obtain ⟨hh, g, d, tk, os⟩ := s
    refine PySem.W.kxs_getMethod PySem.W.kxs_ValueError hso (PySem.W.looks_opaque KX ho) (l₀ := cd.mro) ?_ rfl KX hsup hI (PySem.W.ks_ne KX J1 hc) (by decide) ?_
    · exact fun A Q E s k q => wpAny_bind ((PySem.W.looks_clsIn KX hc) A _ E s k (wpAny_pure q))
    · have I2 := newp (tk + 1)
      have hst2 := hst
      rw [hst]
      refine PySem.W.kxs_callWith (i := "ValueError.__init__") (x := x) (u := h'.objs.size) (by show (false || (backTo pos (starEach es X.env)).any (·.1)) = false; rw [hpl]; rfl) ?_
      refine Calls.evalArgs_plain ?_
      have hpa := ha.run pos _ _ σ H _ I2 hq
      rw [hst2] at hpa
      refine thn hpa fun us s3 ⟨vs, H2, I3, rv, hl, hx2, q2⟩ => ⟨pin_at I3, ?_⟩
      obtain ⟨t3, hx3, J3⟩ := exo_inst (d := none) I3 hx2
      have hu3 := pin_at I3
      have pin3 := I3.pin
      obtain ⟨h3, g3, d3, tk3, os3⟩ := s3
      show wpAny (model X.prog X.w) X.A (call (.ref h'.objs.size) ([] ++ us)) _ _ _
      rw [List.nil_append]
      have hlen : us.length ≤ sizeLine := by
        rw [← Paired.length rv, sizeLine_eq]
        omega
      refine call_mw (I3.kIn _ _ hC) hx3 hu3 hlen fun h4 t4 k4 hx4 => ?_
      have J4 := I3.write (t' := tk3) (x := x) (e := x) (o := exo x C none) (by rw [hx2]; exact True.intro) (.inl rfl) k4 ⟨_, hx4⟩ (exo_ok hx4)
      have eu : upd H2 x (exo x C none) = H2 := by
        funext b
        by_cases hb : b = x
        · rw [hb, upd_same, hx2]
        · rw [upd_ne hb]
      rw [eu] at J4
      exact ⟨.non, H2, unpin (unpin J4), rfl, q2⟩
end
structure ExcK (K : PySem.W.Frag) (C : Addr) : Prop where
  oex : OexC K C
  self : PySem.W.mroIn K C (.ref C) = some true
  sup : PySem.W.ks_superIn K C C "__init__" = some (some (.builtin "ValueError.__init__"))
  ve : PySem.W.subIn K (.ref C) (.type "ValueError") = some true
  isc : PySem.W.isClsIn K C = true
  any : PySem.W.nsIn K cStatics "thirdparty.any" = some none
def spXi (C : Addr) (fs : List Str) : Sp := fun vs H Q _ => ∃ (a : Addr) (ws : List V), vs = .ref a :: ws ∧ ws.length = fs.length ∧ H a = some (exo a C none) ∧
  ∀ dx, H dx = none → dx ≠ a → Q .non (upd (upd H dx (exd dx (fs.zip ws).reverse)) a (exo a C (some dx)))
section
variable {P : Program} {w : World} {K : PySem.W.Frag} {mg : Str → Option Value} {base : Heap} {qual file : Str} {params : Arguments} {scope : Scope} {C f : Addr} {fd : FuncData} {CX : CXT} {sf n1 n2 f1 f2 txt : Str} {j : Nat} {p0 p1 p2 p3 p4 p5 p6 p7 p8 p9 pa pb pc pd : Pos} {body : List Stmt} {pl : Sem Bool}
theorem exi1 (F : FunC K "__init__" qual params body scope C file f fd) (hb : body = [.Expr (.Call (.Attribute (.Call (.Name "super" p0) [] [] p1) "__init__" p2) [.Constant (.str txt) j p3] [] p4) p5, .Assign [.Attribute (.Name sf p6) f1 p7] (.Name n1 p8) p9])
    (ht : ∀ env : PySem.Env, eval (.Call (.Attribute (.Call (.Name "super" p0) [] [] p1) "__init__" p2) [.Constant (.str txt) j p3] [] p4) env = (do
      let ov ← attributeBase (.Call (.Name "super" p0) [] [] p1) "__init__" env (eval (.Call (.Name "super" p0) [] [] p1) env)
      standAt p2.atName
      let (f, first) ← holding [ov] (getMethod ov "__init__" pl)
      callWith p4 f first (backTo p4 (starEach [.Constant (.str txt) j p3] env)) []))
    (S : FnScopeX [sf, n1] [sf, n1] scope) (SD : SupD params scope [sf, n1]) (PO : PrOk P file) (hfree : mg "super" = none) (T : ExcK K C) (h1 : PySem.W.findIn K (.ref C) f1 = some none)
    (hd0 : (sf == ("__debug__" : Str)) = false) (hd1 : (n1 == ("__debug__" : Str)) = false) (hc0 : (sf == ("__classdict__" : Str)) = false) (hc1 : (n1 == ("__classdict__" : Str)) = false)
    (hbi : ∀ (kV doc pm : Value) (an : Option Addr) (cdv ct : Value) (cl : List (Str × Addr)) (us : List Value), us.length = 2 → bindArgs (PySem.W.fnX "__init__" qual params body scope cl .none kV doc pm an cdv ct) ⟨us, []⟩ = pure ([sf, n1].zip us)) :
    FnOk P w K mg base CX 1 f fd [sf, n1] (spXi C [f1]) ∧ Binds K fd [sf, n1] [] := by
  subst hb
  refine F.ok2 S SD PO hfree T.isc hbi (fun vs H Q E h => ?_) fun cda cc A outer s H vs Q E U hr hsp => ?_
  · obtain ⟨a, ws, rfl, hl, _⟩ := h
    show ws.length + 1 = 2
    rw [hl]
    rfl
  · obtain ⟨a, ws, rfl, hl, hex, q⟩ := hsp
    match ws, hl with
    | [v], _ =>
      have hv0 : Vis scope sf := .inl (S.par sf List.mem_cons_self)
      have hv1 : Vis scope n1 := .inl (S.par n1 (List.mem_cons_of_mem _ List.mem_cons_self))
      refine ⟨_, psa_cons (psa_expr (pea_superI (D := C) (pl := pl) U T.any (pa_cons pe_str pa_nil) rfl rfl (ht _))) (PSsA.of (pss_one (ps_ost (pe_var (i := 0) rfl hv0 hd0 hc0) (pe_var (i := 1) rfl hv1 hd1 hc1)))), ?_⟩
      refine ⟨a, C, rfl, hex, T.oex, T.self, T.sup, T.ve, ?_⟩
      refine ⟨Nat.le_add_left 1 999, hex, v, rfl, .ref a, rfl, a, C, rfl, T.oex, h1, .inl ⟨hex, fun dx n ne => q dx n ne⟩⟩
end
end DL
namespace DL
open PySem PySem.Spec PyProof.Rows L2 ClX
variable [Tb]
def oexB (K : PySem.W.Frag) (C : Addr) : Bool := match K.lookup C with
  | some ⟨.type t, _, .cls cd, sl⟩ => (match cd.mro, sl.toList with
    | .ref C' :: bm, [_, _, _, _, some (.builtin n), _] => t == "type" && (C' == C && (n == "ValueError.__new__" && (!cd.hasDel && (cd.hasDict && PySem.HandSPX.refsVE bm))))
    | _, _ => false)
  | _ => false
theorem oexB_ok {K : PySem.W.Frag} {C : Addr} (q : oexB K C = true) : ∃ nm qq N bs bm sn sub ab col dd k0 k1 k2 k3 k5, K.lookup C = some (excClassObj nm qq C N bs bm true sn sub ab col dd k0 k1 k2 k3 k5 "ValueError.__new__") ∧ PySem.HandSPX.refsVE bm = true := by
  unfold oexB at q
  split at q
  · rename_i t dd cd sl ho
    split at q
    · rename_i C' bm k0 k1 k2 k3 n k5 hm hs
      simp only [Bool.and_eq_true, beq_iff_eq, Bool.not_eq_true'] at q
      obtain ⟨rfl, rfl, rfl, hdel, hd, ht⟩ := q
      obtain ⟨nm, bs, mro, ns, qn, hdd, sn, sub, ab, col, del⟩ := cd
      dsimp only at hm hdel hd
      subst hm hdel hd
      obtain ⟨l⟩ := sl
      have hl : l = [k0, k1, k2, k3, some (.builtin "ValueError.__new__"), k5] := hs
      subst hl
      exact ⟨nm, qn, ns, bs, bm, sn, sub, ab, col, dd, k0, k1, k2, k3, k5, ho, ht⟩
    · cases q
  · cases q
def opV (a b : Option Value) : Bool := decide (a = b)
def ooV (a b : Option (Option Value)) : Bool := decide (a = b)
def obB (a b : Option Bool) : Bool := decide (a = b)
def oexcB (K : PySem.W.Frag) (C : Addr) : Bool := oexB K C && (ooV (PySem.W.findIn K (.ref C) "__setattr__") (some (some (.builtin "object.__setattr__"))) && (obB (PySem.W.subIn K (.ref C) (.type "BaseException")) (some true) && (opV (PySem.W.typeIn K (.ref C)) (some (.type "type")) && PySem.W.keepIn K (.ref C))))
theorem oexcB_ok {K : PySem.W.Frag} {C : Addr} (h : oexcB K C = true) : OexC K C := by
  obtain ⟨h1, h⟩ := band h
  obtain ⟨h2, h⟩ := band h
  obtain ⟨h3, h⟩ := band h
  obtain ⟨h4, h5⟩ := band h
  exact ⟨oexB_ok h1, of_decide_eq_true h2, of_decide_eq_true h3, of_decide_eq_true h4, h5⟩
def excKB (K : PySem.W.Frag) (C : Addr) : Bool := oexcB K C && (obB (PySem.W.mroIn K C (.ref C)) (some true) && (ooV (PySem.W.ks_superIn K C C "__init__") (some (some (.builtin "ValueError.__init__"))) && (obB (PySem.W.subIn K (.ref C) (.type "ValueError")) (some true) && (PySem.W.isClsIn K C && ooV (PySem.W.nsIn K cStatics "thirdparty.any") (some none)))))
theorem excKB_ok {K : PySem.W.Frag} {C : Addr} (h : excKB K C = true) : ExcK K C := by
  obtain ⟨h1, h⟩ := band h
  obtain ⟨h2, h⟩ := band h
  obtain ⟨h3, h⟩ := band h
  obtain ⟨h4, h⟩ := band h
  obtain ⟨h5, h6⟩ := band h
  exact ⟨oexcB_ok h1, of_decide_eq_true h2, of_decide_eq_true h3, of_decide_eq_true h4, h5, of_decide_eq_true h6⟩
structure ExcR (K : PySem.W.Frag) (C : Addr) : Prop where
  xf : XfC K C
  ec : ExcC K C
def excRB (K : PySem.W.Frag) (C : Addr) : Bool := xfB K C && (ooV (PySem.W.findIn K (.ref C) "__class__") (some (some (.builtin "object.__class__"))) && (ooV (PySem.W.specialIn K (.builtin "object.__class__") "__get__") (some (some (.builtin "getset_descriptor.__get__"))) && (obB (PySem.W.takesIn K (.builtin "object.__class__")) (some true) && obB (PySem.W.mroIn K C (.type "object")) (some true))))
structure XMk (P : Program) (w : World) (K : PySem.W.Frag) (mg : Str → Option Value) (base : Heap) (c : Str) (fs : List Str) : Prop where
  T : ExcK K (He.ga K c)
  m : mg c = some (.ref (He.ga K c))
  ini : ∃ fI fd ps, PySem.W.findIn K (.ref (He.ga K c)) "__init__" = some (some (.ref fI)) ∧ PySem.W.typeIn K (.ref fI) = some (.type "function") ∧ FnOk P w K mg base (L2.CX P w) 1 fI fd ps (spXi (He.ga K c) fs) ∧ Binds K fd ps []
def sRaise (c : Str) (fs : List Str) (t : Env → Ou (List D)) : Env → Os := fun ρ => ofU (t ρ) ρ fun ds => if D.fzs ds && decide (ds.length = fs.length) && decide (fs.length ≤ 900) then .ex c fs.reverse ds.reverse ρ else .bad
def sRaise0 (c : Str) : Env → Os := fun ρ => .ex c [] [] ρ
section
variable {K : PySem.W.Frag} {cl : Str → Addr} {Z H Z' H' Z0 H0 Z1 H1 : Hp} {σ : L2.St} {ρ : Env} {W : WX}
theorem ExD.gr {ns : List Str} {xs : List D} {dc : Option Addr} (g : Gr Z H Z' H') (h : ExD K cl Z H ns xs dc) : ExD K cl Z' H' ns xs dc := by
  rcases h with h | ⟨d, vs, e1, e2, e3, e4⟩
  · exact .inl h
  · exact .inr ⟨d, vs, e1, g.z.l e2, e3, g.dens e4⟩
theorem zip_rev {α β : Type} : ∀ {xs : List α} {ys : List β}, xs.length = ys.length → (xs.zip ys).reverse = xs.reverse.zip ys.reverse
  | [], [], _ => rfl
  | [], _ :: _, h => nomatch h
  | _ :: _, [], h => nomatch h
  | x :: xs, y :: ys, h => by
    have h' : xs.length = ys.length := Nat.succ.inj h
    rw [List.zip_cons_cons, List.reverse_cons, List.reverse_cons, List.reverse_cons, zip_rev h', List.zip_append (by rw [List.length_reverse, List.length_reverse, h'])]
    rfl
end
section
variable {X : Cx} {W : WX} {k : Nat} {e : Expr} {es : List Expr} {t : Env → Ou (List D)} {pos p p2 rpos : Pos} {x m : Str} {fs : List Str} {j : Nat}
theorem DS.raise (C : Ctx X W k) (G : XMk X.prog X.w X.K X.mg X.base x fs) (ha : DAB X W (e :: es) t) (hk : 2 ≤ k := by decide) (hg : Gl X x := by rfl) (hdb : (x == ("__debug__" : Str)) = false := by decide)
    (he : starEach (e :: es) X.env = (false, eval e X.env) :: starEach es X.env := by rfl) (hpl : (backTo pos (starEach es X.env)).any (·.1) = false := by rfl) :
    DS X W (.Raise (some (.Call (.Name x p) (e :: es) [] pos)) none rpos) (sRaise x fs t) := by
  obtain ⟨fI, fd, ps, h1, h2, ok, hb⟩ := G.ini
  refine ⟨fun Z0 H0 => PS.weak (ps_raise C.calm C.tk (pmk_oex (ds := []) (dvs := []) G.T.oex h1 h2 ok (C.hr.mono hk) hb .nil (passes_call C.tk fun _ _ _ _ z => z.elim) hg G.m ha.run hdb he hpl)) fun E σ H hq => ?_⟩
  obtain ⟨Z, ρ, s, q⟩ := hq
  refine ⟨Z, ρ, s.rel, ?_⟩
  unfold sRaise at q
  cases ec : t ρ with
  | ex c ns xs => rw [ec] at q; exact fun dc Z' H' g1 x => q dc σ Z' H' (s.gr g1) x
  | bad => rw [ec] at q; exact q
  | ok ds =>
    rw [ec] at q
    intro vs Z1 H1 fp g1 dn
    have q : PostS X.K (He.ga X.K) W Z0 H0 E (if D.fzs ds && decide (ds.length = fs.length) && decide (fs.length ≤ 900) then .ex x fs.reverse ds.reverse ρ else .bad) := q
    split at q
    · rename_i c
      obtain ⟨c1, c3⟩ := band c
      obtain ⟨c1, c2⟩ := band c1
      have c2 := of_decide_eq_true c2
      have c3 := of_decide_eq_true c3
      have dn := dn.fz0 c1
      have hvl : vs.length = fs.length := by rw [dn.length]; exact c2
      refine ⟨by rw [hvl]; omega, fun a na => ?_⟩
      refine ⟨a, vs, by rw [List.append_nil], hvl, upd_same, fun dx n ne => ⟨rfl, dx, (fs.zip vs).reverse, upd_same, ?_, ?_, ?_⟩⟩
      · rw [upd_ne ne, upd_same]
      · rw [upd_ne ne] at n
        exact n
      · rw [upd_ne ne] at n
        have eH : upd (del (upd (upd (upd H1 a (exo a (He.ga X.K x) none)) dx (exd dx (fs.zip vs).reverse)) a (exo a (He.ga X.K x) (some dx))) a) dx (.xd (fs.zip vs).reverse) = upd H1 dx (.xd (fs.zip vs).reverse) := by
          funext b
          by_cases hb : b = dx
          · subst hb; rw [upd_same, upd_same]
          · rw [upd_ne hb, upd_ne hb]
            by_cases ha : b = a
            · subst ha; rw [del_same, na]
            · rw [del_ne ha, upd_ne ha, upd_ne hb, upd_ne ha]
        rw [eH]
        have g2 : Gr Z1 H1 (upd Z1 dx (.xd (fs.zip vs).reverse)) (upd H1 dx (.xd (fs.zip vs).reverse)) := Gr.new g1.s n
        refine q (some dx) σ _ _ ((s.gr g1).gr g2) (.inr ⟨dx, vs.reverse, rfl, ?_, by rw [List.length_reverse, List.length_reverse, c2], ?_⟩)
        · rw [upd_same, zip_rev hvl.symm]
        · exact (g2.dens dn).reverse
    · exact q.elim
structure XMk0 (K : PySem.W.Frag) (mg : Str → Option Value) (c : Str) : Prop where
  x : PySem.W.excIn K (He.ga K c) He.veBase "ValueError.__new__" = true
  k : PySem.W.keepIn K (.ref (He.ga K c)) = true
  b : PySem.W.subIn K (.ref (He.ga K c)) (.type "BaseException") = some true
  t : PySem.W.typeIn K (.ref (He.ga K c)) = some (.type "type")
  m : mg c = some (.ref (He.ga K c))
end
end DL
namespace DL
open PySem PySem.Spec PyProof.Rows L2 ClX
variable [Tb]
theorem kit_excD {K : PySem.W.Frag} {D x : Addr} {ox : Obj} {od : Option Obj} (C : ExcC K D) : PySem.W.KitX K (.ref x) (.ref D) (fun h => PySem.W.InstAt h x ox D od) where
  ty := fun _ _ _ I => I.type
  it := fun M h X _ => by
    obtain ⟨cdD, hcD, _⟩ := PySem.W.any_some C.hd
    unfold PySem.W.clsIn at hcD
    split at hcD
    · rename_i c' d' cd' sl' ho
      intro A' Q' E' s' k q
      unfold isType loadHead
      exact wpAny_bind (wpAny_loadPart (k _ _ (X _ _ ho)) (wpAny_pure q))
    · cases hcD
  ne := fun h tp dd its n sl X htp => (PySem.W.handS_kitx_exc (x := x) (ox := ox) C.hg C.hk C.hs C.hd C.ha C.hn C.ht C.hm).ne h tp dd its n sl X htp
  ca := fun X I k => PySem.W.kx_classE X I C.hg C.hk C.hs (PySem.W.findObj_dataE (by obtain ⟨cd, hc, _⟩ := PySem.W.any_some C.hd; rw [hc]; rfl) C.ha C.hn C.ht) C.hm k
def rIsE2 (K : PySem.W.Frag) (D a : Addr) (d : Option Addr) : List V → Hp → VK → Prop := fun xs H Q => ∃ (c : V) (cv : Value) (b : Bool), xs = [.ref a, c] ∧ (∀ u, RelV c u → u = cv) ∧ PySem.W.kitOne K (.ref D) cv = some b ∧ (∀ dd, d = some dd → ∃ fs, H dd = some (.xd fs)) ∧ Q (.bl b) H
theorem call_isE2 {X : Cx} {a D : Addr} {oe : Obj} {d : Option Addr} {pn : List (Addr × Obj)} (C : ExcC X.K D) (hz : Zc (.ref D) d oe) (hf : ∃ vs, oe.data = .fields vs) : CallR (X.suite a ((a, oe) :: pn)) (.builtin "isinstance") (rIsE2 X.K D a d) := by
  intro pins s σ H xs us Q I r h
  obtain ⟨c, cv, b, rfl, hcv, e, hd, q⟩ := h
  cases r with
  | cons rx rr =>
    cases rr with
    | cons rt rr =>
      cases rr
      cases rx
      have ec := hcv _ rt
      subst ec
      obtain ⟨hget, _⟩ := I.pin (a, oe) (List.mem_append.mpr (.inl List.mem_cons_self))
      obtain ⟨vs, hv⟩ := hf
      have J : ∃ od, PySem.W.InstAt s.heap a oe D od := by
        obtain ⟨oc, od, oda, osl⟩ := oe
        obtain ⟨h1, h2⟩ := hz
        dsimp only at h1 h2 hv
        subst h1 h2 hv
        cases od with
        | none => exact ⟨none, hget, rfl, rfl, trivial⟩
        | some dd =>
          obtain ⟨fs, hx⟩ := hd dd rfl
          have hx2 : ObjOk X.prog X.w H s.heap dd (.xd fs) := I.hok dd _ hx
          obtain ⟨mA, ⟨o, es, ep, ho, _⟩, _⟩ := hx2
          exact ⟨some o, hget, rfl, rfl, ho⟩
      obtain ⟨od, J⟩ := J
      exact PySem.W.kia_one (kit_excD C) I.kIn J e (fun z => nomatch z) fun tk => ⟨.bl b, H, I.kept (t' := tk) fun _ _ z => z, rfl, q⟩
structure DX (X : Cx) (i : Nat) (a : Addr) (d : Option Addr) (ns : List Str) (xs : List D) (e : Expr) (f : Env → Ou D) : Prop where
  run : PE X e (fun σ H Q => σ[i]? = some (some (.ref a)) ∧ ∃ Z ρ, RelS X.K (He.ga X.K) Z H σ ρ ∧ ExD X.K (He.ga X.K) Z H ns xs d ∧ PostO X.K (He.ga X.K) W0 Z H σ (f ρ) Q)
structure DXs (X : Cx) (i : Nat) (a : Addr) (d : Option Addr) (ns : List Str) (xs : List D) (es : List Expr) (f : Env → Ou (List D)) : Prop where
  run : PA X es (fun σ H Q => σ[i]? = some (some (.ref a)) ∧ ∃ Z ρ, RelS X.K (He.ga X.K) Z H σ ρ ∧ ExD X.K (He.ga X.K) Z H ns xs d ∧ PostA X.K (He.ga X.K) W0 Z H σ (f ρ) Q)
def fldOf (ns : List Str) (xs : List D) (f : Str) : Env → Ou D := fun _ => match (ns.zip xs).lookup f with
  | some d => .ok d
  | none => .bad
theorem zip_lookup {K : PySem.W.Frag} {cl : Str → Addr} {Z H : Hp} {f : Str} {x : D} : ∀ {ns : List Str} {xs : List D} {vs : List V}, Dens K cl Z H xs vs [] → (ns.zip xs).lookup f = some x → ∃ v, (ns.zip vs).lookup f = some v ∧ Den K cl Z H x v []
  | [], xs, vs, h, e => by cases xs <;> cases e
  | n :: ns, [], vs, h, e => by cases e
  | n :: ns, y :: xs, vs, h, e => by
    obtain ⟨v, vr, f1, f2, e1, e2, q, r⟩ := h.cons'
    obtain ⟨e3, e4⟩ := List.append_eq_nil_iff.mp e2.symm
    subst e1 e3 e4
    rw [List.zip_cons_cons, List.lookup_cons] at e ⊢
    cases c : (f == n) with
    | true =>
      rw [c] at e
      cases e
      exact ⟨v, rfl, q⟩
    | false =>
      rw [c] at e
      exact zip_lookup r e
section
variable {X : Cx} {i : Nat} {a C : Addr} {oe : Obj} {d : Option Addr} {pn : List (Addr × Obj)} {ns : List Str} {xs : List D} {e b : Expr} {es : List Expr} {f g : Env → Ou D} {t : Env → Ou (List D)} {pos p q : Pos} {n x fl : Str} {rest : List Expr}
theorem DX.of (h : DE X W0 e f) : DX X i a d ns xs e f := ⟨PE.weak h.run fun σ H Q ⟨_, Z, ρ, r, _, q⟩ => ⟨Z, ρ, r, q⟩⟩
theorem DX.fld (T : XfC X.K C) (hno : PySem.W.findIn X.K (.ref C) fl = some none) (hz : Zc (.ref C) d oe) (hf : ∃ vs, oe.data = .fields vs) (hN : X.N[i]? = some n := by rfl) (hv : Vis X.env.scope n := by first | exact Or.inl rfl | exact Or.inr (Or.inl rfl)) (hd : (n == ("__debug__" : Str)) = false := by decide) (hcd : (n == ("__classdict__" : Str)) = false := by decide)
    (hb : attributeBase (.Name n p) fl X.env (eval (.Name n p) X.env) = eval (.Name n p) X.env := by rfl) : DX (X.suite a ((a, oe) :: pn)) i a d ns xs (.Attribute (.Name n p) fl pos) (fldOf ns xs fl) := by
  refine ⟨PE.weak (pe_xf T hno hz hf (pv (X := X.suite a ((a, oe) :: pn)) i hN hv hd hcd) hb) fun σ H Q hq => ?_⟩
  obtain ⟨h0, Z, ρ, r, ex, q⟩ := hq
  refine ⟨.ref a, h0, rfl, rfl, ?_⟩
  unfold fldOf at q
  split at q
  · rename_i x hx
    rcases ex with ⟨e1, e2, e3⟩ | ⟨dd, vs, e1, e2, e3, e4⟩
    · subst e1
      cases hx
    · obtain ⟨v, k1, k2⟩ := zip_lookup e4 hx
      exact ⟨dd, _, v, e1, r.s.l e2, k1, q v Z H [] (Gr.refl r.s) k2 List.nodup_nil fun _ z => nomatch z⟩
  · exact q.elim
structure IsiC (X : Cx) (x : Str) (C : Addr) (r : Bool) : Prop where
  ex : ∃ (cV : V) (cv : Value), (∀ {σ : L2.St} {H : Hp} {pos : Pos}, PE X (.Name x pos) (tC cV)) ∧ (∀ u, RelV cV u → u = cv) ∧ PySem.W.kitOne X.K (.ref C) cv = some r
theorem DX.isi {r : Bool} {p3 : Pos} (T : ExcC X.K C) (I : IsiC (X.suite a ((a, oe) :: pn)) x C r) (hz : Zc (.ref C) d oe) (hf : ∃ vs, oe.data = .fields vs) (hm : X.mg "isinstance" = none) (hg : Gl X "isinstance" := by rfl) (hN : X.N[i]? = some n := by rfl) (hv : Vis X.env.scope n := by first | exact Or.inl rfl | exact Or.inr (Or.inl rfl)) (hd : (n == ("__debug__" : Str)) = false := by decide) (hcd : (n == ("__classdict__" : Str)) = false := by decide)
    (he : starEach [.Name n p, .Name x q] X.env = (false, eval (.Name n p) X.env) :: starEach [.Name x q] X.env := by rfl) (he2 : starEach [.Name x q] X.env = (false, eval (.Name x q) X.env) :: starEach [] X.env := by rfl) (hpl : (backTo pos (starEach [.Name x q] X.env)).any (·.1) = false := by rfl) :
    DX (X.suite a ((a, oe) :: pn)) i a d ns xs (.Call (.Name "isinstance" p3) [.Name n p, .Name x q] [] pos) (dC (.bl r)) := by
  obtain ⟨cV, cv, h1, h2, h3⟩ := I.ex
  refine ⟨PE.weak (pe_callB (call_isE2 T hz hf) hg hm boot_isinstance (pa_cons (pv (X := X.suite a ((a, oe) :: pn)) i hN hv hd hcd) (pa_cons (h1 (σ := []) (H := fun _ => none)) pa_nil he2) he) (by decide) (by decide) he hpl) fun σ H Q hq => ?_⟩
  obtain ⟨h0, Z, ρ, r, ex, q⟩ := hq
  refine ⟨.ref a, h0, cV, cv, _, rfl, h2, h3, fun dd ed => ?_, PostV.bl r.s q⟩
  rcases ex with ⟨_, _, e3⟩ | ⟨d2, vs, e1, e2, e3, e4⟩
  · rw [ed] at e3; cases e3
  · rw [ed] at e1; cases e1
    exact ⟨_, r.s.l e2⟩
end
section
variable {X : Cx} {i : Nat} {a C : Addr} {oe : Obj} {d : Option Addr} {pn : List (Addr × Obj)} {ns : List Str} {xs : List D} {e b : Expr} {es : List Expr} {f g : Env → Ou D} {t : Env → Ou (List D)} {pos p q : Pos} {n x fl : Str} {rest : List Expr}
theorem DXs.nil : DXs X i a d ns xs [] aNil := ⟨PA.weak pa_nil fun σ H Q ⟨_, Z, ρ, r, _, q⟩ => q [] Z H [] (Gr.refl r.s) ⟨rfl, rfl⟩ List.nodup_nil fun _ z => nomatch z⟩
theorem DXs.cons (h : DX X i a d ns xs e f) (hr : DXs X i a d ns xs es t) (hs : starEach (e :: es) X.env = (false, eval e X.env) :: starEach es X.env := by rfl) : DXs X i a d ns xs (e :: es) (aCons f t) := by
  refine ⟨PA.weak (pa_cons h.run hr.run hs) fun σ H Q hq => ?_⟩
  obtain ⟨h0, Z, ρ, r, ex, q⟩ := hq
  refine ⟨h0, Z, ρ, r, ex, ?_⟩
  unfold aCons at q
  cases ef : f ρ with
  | ex c ns xs => rw [ef] at q; exact q
  | bad => rw [ef] at q; exact q
  | ok x =>
    rw [ef] at q
    intro v Z1 H1 fx g1 dx nx fx'
    refine ⟨h0, Z1, ρ, r.gr g1, ex.gr g1, ?_⟩
    have q : PostA X.K (He.ga X.K) W0 Z H σ (t ρ >>= fun xs => .ok (x :: xs)) Q := q
    match e : t ρ with
    | .ok ds =>
      rw [e] at q
      refine fun vs Z2 H2 fp g2 dn nd fr => q (v :: vs) Z2 H2 (fx ++ fp) (g1.trans g2) (Dens.cons (g2.den dx) dn) ?_ fun a ha => ?_
      · rw [List.nodup_append]
        refine ⟨nx, nd, fun a ha b hb e => ?_⟩
        subst e
        obtain ⟨_, xs, q1⟩ := Den.own x v fx dx a ha
        rw [fr a hb] at q1; cases q1
      · rcases List.mem_append.mp ha with z | z
        · exact fx' a z
        · exact g1.h.back (fr a z)
    | .ex c ns xs => rw [e] at q; exact PostX.gr q g1
    | .bad => rw [e] at q; exact q.elim
theorem DX.tup {x1} (h : DXs X i a d ns xs es t) : DX X i a d ns xs (.Tuple es x1 pos) (dTup t) := by
  refine ⟨PE.weak (pe_tup h.run) fun σ H Q hq => ?_⟩
  obtain ⟨h0, Z, ρ, r, ex, q⟩ := hq
  refine ⟨h0, Z, ρ, r, ex, ?_⟩
  unfold dTup at q
  cases et : t ρ with
  | ex c ns xs => rw [et] at q; exact q
  | bad => rw [et] at q; exact q
  | ok ds =>
    rw [et] at q
    intro vs Z1 H1 fp g1 dn nd fr
    have q : PostO X.K (He.ga X.K) W0 Z H σ (if ds.length ≤ LIM then .ok (.tup ds) else .bad) Q := q
    by_cases c : ds.length ≤ LIM
    · rw [if_pos c] at q
      exact ⟨by rw [dn.length]; exact lim_le c, fun p hp => PostV.tup q g1 dn nd fr p hp⟩
    · rw [if_neg c] at q; exact q.elim
theorem DX.lst (h : DXs X i a d ns xs es t) : DX X i a d ns xs (.List es pos) (dLst t) := by
  refine ⟨PE.weak (pe_lst h.run) fun σ H Q hq => ?_⟩
  obtain ⟨h0, Z, ρ, r, ex, q⟩ := hq
  refine ⟨h0, Z, ρ, r, ex, ?_⟩
  unfold dLst at q
  cases et : t ρ with
  | ex c ns xs => rw [et] at q; exact q
  | bad => rw [et] at q; exact q
  | ok ds =>
    rw [et] at q
    intro vs Z1 H1 fp g1 dn nd fr
    have q : PostO X.K (He.ga X.K) W0 Z H σ (if ds.length ≤ LIM then .ok (.lst true ds) else .bad) Q := q
    by_cases c : ds.length ≤ LIM
    · rw [if_pos c] at q
      exact ⟨by rw [dn.length]; exact lim_le c, fun p hp => PostV.lst q g1 dn nd fr p hp⟩
    · rw [if_neg c] at q; exact q.elim
theorem DX.one {op} (h : DX X i a d ns xs e f) : DX X i a d ns xs (.BoolOp op [e] pos) f := ⟨pe_one h.run⟩
theorem DX.or (h : DX X i a d ns xs e f) (k : DX X i a d ns xs (.BoolOp .Or (b :: rest) pos) g) : DX X i a d ns xs (.BoolOp .Or (e :: b :: rest) pos) (dOr f g) := by
  refine ⟨PE.weak (pe_orT h.run k.run) fun σ H Q hq => ?_⟩
  obtain ⟨h0, Z, ρ, r, ex, q⟩ := hq
  refine ⟨h0, Z, ρ, r, ex, ?_⟩
  unfold dOr at q
  cases ef : f ρ with
  | ex c ns xs => rw [ef] at q; exact q
  | bad => rw [ef] at q; exact q
  | ok x =>
    rw [ef] at q
    intro v Z1 H1 fp g1 dn nd fr
    have q : PostO X.K (He.ga X.K) W0 Z H σ (ofO (tru x) >>= fun b => if b then .ok x else g ρ) Q := q
    match e : DL.tru x with
    | some b =>
      rw [e] at q
      refine ⟨b, tru_ok' g1.s dn e, ?_⟩
      cases b with
      | true => exact q v Z1 H1 fp g1 dn nd fr
      | false => exact ⟨h0, Z1, ρ, r.gr g1, ex.gr g1, PostO.gr q g1⟩
    | none => rw [e] at q; exact q.elim
end
structure DSX (X : Cx) (i : Nat) (a : Addr) (d : Option Addr) (ns : List Str) (xs : List D) (st : List Stmt) (g : Env → Os) : Prop where
  run : ∀ Z0 H0, PSs X st (fun E σ H => σ[i]? = some (some (.ref a)) ∧ ∃ Z ρ, Sta X.K (He.ga X.K) Z0 H0 Z H σ ρ ∧ ExD X.K (He.ga X.K) Z H ns xs d ∧ PostS X.K (He.ga X.K) W0 Z0 H0 E (g ρ))
section
variable {X : Cx} {i : Nat} {a : Addr} {d : Option Addr} {ns : List Str} {xs : List D} {e : Expr} {f : Env → Ou D} {g : Env → Os} {pos pos' : Pos} {x : Str} {rest : List Stmt}
theorem DSX.of (h : DSs X W0 rest g) : DSX X i a d ns xs rest g := ⟨fun Z0 H0 => PSs.weak (h.run Z0 H0) fun E σ H ⟨_, Z, ρ, s, _, q⟩ => ⟨Z, ρ, s, q⟩⟩
theorem DSX.set (j : Nat) (he : DX X i a d ns xs e f) (hr : DSX X i a d ns xs rest g) (hN : X.N.Nodup) (hne : j ≠ i := by decide) (hj : X.N[j]? = some x := by rfl) (hx : Loc X.env.scope x := by first | exact Or.inl rfl | exact Or.inr rfl) (hs : swapsWith e (some (.Name x pos')) pos.line X.env = pure false := by rfl)
    (hf : X.fn x = true ∨ X.env.scope.names.lookup x = some .local := by first | exact .inl rfl | exact .inr rfl | assumption) : DSX X i a d ns xs (.Assign [.Name x pos'] e pos :: rest) (sSeq (sSet j f) g) := by
  refine ⟨fun Z0 H0 => PSs.weak (pss_cons (ps_set (i := j) hN hj hx he.run hs hf) (hr.run Z0 H0)) fun E σ H hq => ?_⟩
  obtain ⟨h0, Z, ρ, s, ex, q⟩ := hq
  refine ⟨h0, Z, ρ, s.rel, ex, ?_⟩
  unfold sSeq sSet at q
  cases ec : f ρ with
  | ex c ns xs => rw [ec] at q; exact fun dc Z' H' g1 x => q dc σ Z' H' (s.gr g1) x
  | bad => rw [ec] at q; exact q
  | ok y =>
    rw [ec] at q
    intro v Z' H' fp g1 dn nd fr
    have q : PostS X.K (He.ga X.K) W0 Z0 H0 E (andThen (if j < ρ.length then .nx (ρ.set j (some y)) else .bad) g) := q
    by_cases c : j < ρ.length
    · rw [if_pos c] at q
      refine ⟨?_, Z', _, s.set g1 dn nd fr c, ex.gr g1, q⟩
      rw [List.getElem?_set_ne hne]
      exact h0
    · rw [if_neg c] at q; exact q.elim
theorem DSX.nil : DSX X i a d ns xs [] sNil := DSX.of DSs.nil
end
def HitOk (K : PySem.W.Frag) (cls : Value) (hit : Str → Option Bool) : Prop := ∀ c b, hit c = some b → PySem.W.exmOne K (.ref (He.ga K c)) cls = some b
def undo (i : Nat) : Os → Os
  | .nx ρ => .nx (ρ.set i none)
  | .rt d => .rt d
  | .bk ρ => .bk (ρ.set i none)
  | .ct ρ => .ct (ρ.set i none)
  | _ => .bad
def sTry (hit : Str → Option Bool) (body : Env → Os) (suite : Str → List Str → List D → Env → Os) : Env → Os := fun ρ => match body ρ with
  | .ex c ns xs ρ' => match hit c with
    | some true => suite c ns xs ρ'
    | some false => .ex c ns xs ρ'
    | none => .bad
  | r => r
def sAs (i : Nat) (suite : List Str → List D → Env → Os) : Str → List Str → List D → Env → Os := fun _ ns xs ρ => if i < ρ.length then undo i (suite ns xs (ρ.set i none)) else .bad
theorem Sta.drop {K : PySem.W.Frag} {cl : Str → Addr} {Z0 H0 Z H : Hp} {σ : L2.St} {ρ : Env} {i : Nat} {o : Option V} (s : Sta K cl Z0 H0 Z H σ ρ) : Sta K cl Z0 H0 Z H (σ.set i o) (ρ.set i none) := by
  obtain ⟨fp, sl, nd, fr⟩ := s.e
  obtain ⟨fp', a1, a2, a3⟩ := Slots.drop (i := i) (o := o) sl nd
  exact ⟨s.g, s.t, fp', a1, a2, fun a ha => fr a (a3 a ha)⟩
theorem Sta.len {K : PySem.W.Frag} {cl : Str → Addr} {Z0 H0 Z H : Hp} {σ : L2.St} {ρ : Env} (s : Sta K cl Z0 H0 Z H σ ρ) : σ.length = ρ.length := let ⟨_, sl, _⟩ := s.e; sl.length
section
variable {X : Cx} {W : WX} {k i : Nat} {x n : Str} {cls : Value} {hit : Str → Option Bool} {body suite : List Stmt} {b₀ : Stmt} {np pos pos' : Pos} {gb : Env → Os}
end
end DL
namespace DL
open PySem PySem.Spec PyProof.Rows L2 ClX
variable [Tb]
structure Mk0 (K : PySem.W.Frag) (C : Addr) : Prop where
  makes : PySem.W.makesIn K C = true
  init : PySem.W.findIn K (.ref C) "__init__" = some (some (.builtin "object.__init__"))
  kp : PySem.W.keepIn K (.ref C) = true
def mk0B (K : PySem.W.Frag) (C : Addr) : Bool := PySem.W.makesIn K C && (ooV (PySem.W.findIn K (.ref C) "__init__") (some (some (.builtin "object.__init__"))) && PySem.W.keepIn K (.ref C))
def dNew (c : Str) : Env → Ou D := fun _ => .ok (.ins c [] [])
def clsB (K : PySem.W.Frag) (C : Addr) : Bool := PySem.W.plainGet K C Str.empty && (PySem.W.hasDictIn K C && (PySem.W.plainOver K C && ooV (PySem.W.findIn K (.ref C) "__setattr__") (some (some (.builtin "object.__setattr__")))))
theorem clsB_ok {K : PySem.W.Frag} {C : Addr} (h : clsB K C = true) : Cls K C := by
  obtain ⟨h1, h⟩ := band h
  obtain ⟨h2, h⟩ := band h
  obtain ⟨h3, h4⟩ := band h
  exact ⟨h1, h2, h3, of_decide_eq_true h4⟩
inductive Kv where
  | str (x : Str) | bl (b : Bool) | int (i : Int) | tup (xs : List Str)
def Kv.d : Kv → D
  | .str x => .str x
  | .bl b => .bl b
  | .int i => .int i
  | .tup xs => .tup (xs.map D.str)
def isTupB (K : PySem.W.Frag) (a : Addr) (vs : List V) : Bool := match K.lookup a with
  | some ⟨.type c, _, .seq its _, _⟩ => decide (c = "tuple") && (decide (its.size ≤ sizeLine) && He.relAll vs its.toList)
  | _ => false
def conV (K : PySem.W.Frag) (u : Value) : Kv → Bool
  | .str x => He.relB (.str x) u
  | .bl b => He.relB (.bl b) u
  | .int i => He.relB (.int i) u
  | .tup xs => match u with
    | .ref a => isTupB K a (xs.map V.str)
    | _ => false
def conB (K : PySem.W.Frag) (C : Addr) (f : Str) (v : Kv) : Bool := match PySem.W.findIn K (.ref C) f with
  | some (some u) => conV K u v && (ooV (PySem.W.specialIn K u "__get__") (some none) && !PySem.W.copiedNames.contains f)
  | _ => false
abbrev KTab := List (Str × Kv)
def ktB (K : PySem.W.Frag) (f : Str) (t : KTab) : Bool := t.all fun p => clsB K (He.ga K p.1) && conB K (He.ga K p.1) f p.2
def ConOk (K : PySem.W.Frag) (f : Str) (t : KTab) : Prop := ktB K f t = true
def conD (f : Str) (t : KTab) : D → Option D
  | .ins c ns _ => if ns.contains f then none else (t.lookup c).map Kv.d
  | _ => none
def dCon (f : Str) (t : KTab) (e : Env → Ou D) : Env → Ou D := fun ρ => e ρ >>= fun d => ofO (conD f t d)
theorem zip_nolook {f : Str} : ∀ {ns : List Str} {vs : List V}, ns.contains f = false → (ns.zip vs).lookup f = none
  | [], vs, _ => rfl
  | n :: ns, [], _ => rfl
  | n :: ns, v :: vs, h => by
    rw [List.contains_cons, Bool.or_eq_false_iff] at h
    rw [List.zip_cons_cons, List.lookup_cons, h.1]
    exact zip_nolook h.2
section
variable {X : Cx} {W : WX} {k j n : Nat} {e o : Expr} {es : List Expr} {f : Env → Ou D} {t : Env → Ou (List D)} {pos apos p : Pos} {x m fl : Str}
structure Mt (P : Program) (w : World) (K : PySem.W.Frag) (mg : Str → Option Value) (base : Heap) (k : Nat) (m : Str) (n : Nat) (tb : Str → Option (List D → Ou D)) : Prop where
  ok : ∀ c F, tb c = some F → Cls K (He.ga K c) ∧ ∃ (g : Addr) (fd : FuncData) (ps : List Str), Meth K (He.ga K c) m g ∧ FnOk P w K mg base (L2.CX P w) k g fd ps (spF K n F) ∧ Binds K fd ps []
def methF (m : Str) (tb : Str → Option (List D → Ou D)) (d : D) : Ou (List D → Ou D) := match d with
  | .ins c ns _ => if ns.contains m then .bad else match tb c with
    | some F => .ok fun ds => callR F (d :: ds)
    | none => .bad
  | _ => .bad
def dMeth (m : Str) (tb : Str → Option (List D → Ou D)) (f : Env → Ou D) (t : Env → Ou (List D)) : Env → Ou D := fun ρ => f ρ >>= fun d => methF m tb d >>= fun F => t ρ >>= F
theorem methF_inv {m : Str} {tb : Str → Option (List D → Ou D)} {d : D} {F : List D → Ou D} (h : methF m tb d = .ok F) : ∃ c ns xs G, d = .ins c ns xs ∧ ns.contains m = false ∧ tb c = some G ∧ F = fun ds => callR G (d :: ds) := by
  unfold methF at h
  split at h
  · rename_i c ns xs
    split at h
    · cases h
    · rename_i hn
      split at h
      · rename_i G eG
        cases h
        exact ⟨c, ns, xs, G, rfl, by simpa using hn, eG, rfl⟩
      · cases h
  · cases h
theorem methF_nex {m : Str} {tb : Str → Option (List D → Ou D)} {d : D} : ∀ {c : Str} {ns : List Str} {xs : List D}, methF m tb d ≠ .ex c ns xs := by
  intro c ns xs h
  unfold methF at h
  split at h
  · split at h
    · cases h
    · split at h <;> cases h
  · cases h
theorem DE.meth {tb : Str → Option (List D → Ou D)} {pl : Sem Bool} (C : Ctx X W k) (G : Mt X.prog X.w X.K X.mg X.base j m n tb) (ho : DB X W o f) (ha : DAB X W (e :: es) t) (hk : j ≤ k := by decide) (hn : ((e :: es).length + 1 == n) = true := by rfl)
    (hst : starEach (e :: es) X.env = (false, eval e X.env) :: starEach es X.env := by rfl) (hpl : (backTo pos (starEach es X.env)).any (·.1) = false := by rfl)
    (ht : eval (.Call (.Attribute o m apos) (e :: es) [] pos) X.env = (do
      let ov ← eval o X.env
      standAt apos.atName
      let (f, first) ← holding [ov] (getMethod ov m pl)
      callWith pos f first (backTo pos (starEach (e :: es) X.env)) (backToKw pos (keywordEach [] X.env))) := by rfl) :
    DE X W (.Call (.Attribute o m apos) (e :: es) [] pos) (dMeth m tb f t) := by
  refine ⟨⟨fun pins s σ H Q I hq => ?_⟩⟩
  refine methcall_of (pl := pl) ho.run I ?_ ht
  obtain ⟨Z, ρ, r, q⟩ := hq
  refine tV_bind (P := fun Z H o => PostO X.K (He.ga X.K) W Z H σ o Q) r (fun _ _ _ z => z) (fun z => z) q fun d v Z1 H1 fx ex g1 dx q => ?_
  have q := PostO.gr q g1
  cases em : methF m tb d with
  | bad => rw [em] at q; exact q.elim
  | ex c ns xs => exact absurd em methF_nex
  | ok F =>
    rw [em] at q
    have q3 : PostO X.K (He.ga X.K) W Z1 H1 σ (t ρ >>= F) Q := q
    obtain ⟨c, ns, xs, G1, ed, hnc, etb, eF⟩ := methF_inv em
    subst ed
    obtain ⟨hc, g, fd, ps, hm, ok, hb⟩ := G.ok c G1 etb
    have dx0 := dx
    simp only [Den] at dx
    obtain ⟨a, dxa, vs, e1, e2, z, l, ds⟩ := dx
    subst e1 e2
    refine ⟨a, He.ga X.K c, dxa, _, g, rfl, g1.s.l z, hc, hm, zip_nolook hnc, fun s1 I1 => ?_⟩
    refine PySem.W.callWith_K (first := [.ref a]) (h₀ := X.base) I1.ok.mod.kin hm.kp ?_ hst hpl
    have r1 : RelS X.K (He.ga X.K) Z1 H1 σ ρ := r.gr g1
    refine thn (ha.run.run pos pins s1 σ H1 (fun vs2 H2 => spF X.K n G1 (.ref a :: vs2) H2 Q (WE W σ)) I1 ?_) fun us s2 ⟨vs2, H2, I2, rv, q2⟩ => ⟨I2.kIn, ?_⟩
    · refine tVs_bind (P := fun Z H o => PostO X.K (He.ga X.K) W Z H σ o Q) r1 (fun _ _ _ z => z) (fun z => z) q3 fun ds2 vs2 Z2 H2 fp2 ex2 g2 dn q => ?_
      have q := PostO.gr q g2
      subst eF
      have dn2 : Dens X.K (He.ga X.K) Z2 H2 (.ins c ns xs :: ds2) (.ref a :: vs2) fp2 := by
        have := Dens.cons (g2.den dx0) dn
        simpa using this
      refine spF_of g2.s (r1.t.ex g2.z) dn2 ?_ q
      rw [dn2.length]
      show ds2.length + 1 = n
      rw [ha.len ρ ds2 ex2]
      exact beq_iff_eq.mp hn
    · show wpAny _ _ (PySem.call (.ref g) (.ref a :: us)) _ _ _
      exact run_fnS (E := fun σ => WE W σ) (us := .ref a :: us) (vs := .ref a :: vs2) ok (C.hr.mono hk) hb (passAt C.tk σ) I2 (.cons rfl rv) q2
end
end DL
namespace DL
open PySem PySem.Spec PyProof.Rows L2 ClX
variable [Tb]
abbrev FnY : Type := Option (Str × Str × Arguments × FuncBody × Scope × Addr × List Str × Addr)
def fnY (K : PySem.W.Frag) (a : Addr) : FnY := match K.lookup a with
  | some ⟨_, _, .func fd, _⟩ => some (fd.name, fd.qualname, fd.params, fd.body, fd.scope, fd.globals, fd.closure.map (·.1), fd.builtins)
  | _ => none
structure DefY where
  at_ : Str × Option Str
  name : Str
  qual : Str
  params : Arguments
  body : List Stmt
  scope : Scope
  dfl : List He.Dv := []
  kwd : List (Str × He.Dv) := []
  cell : Option (Str × Str) := none
  wrap : Option String := none
def cellNs : Option (Str × Str) → List Str
  | none => []
  | some _ => ["__class__"]
def DefY.val (d : DefY) : FnY := some (d.name, d.qual, d.params, .stmts d.body, d.scope, mainGlobals, cellNs d.cell, builtinsNs)
def DefY.dvs (K : PySem.W.Frag) (d : DefY) : List V := d.dfl.map (He.Dv.v K)
def DefY.kws (K : PySem.W.Frag) (d : DefY) : List (Str × V) := d.kwd.map fun q => (q.1, q.2.v K)
def cellHas (K : PySem.W.Frag) (cc D : Addr) : Bool := match K.lookup cc with
  | some ⟨_, _, .cell (some (.ref a)), _⟩ => a == D
  | _ => false
def codeFile (K : PySem.W.Frag) (v : Value) (file : Str) : Bool := match v with
  | .ref c => (match K.lookup c with
    | some ⟨_, _, .fields vs, _⟩ => (match vs[2]? with
      | some (Value.str f _) => decide (f = file)
      | _ => false)
    | _ => false)
  | _ => false
def isNoneV : Value → Bool
  | .none => true
  | _ => false
def cellOk (K : PySem.W.Frag) (fd : FuncData) : Option (Str × Str) → Bool
  | none => true
  | some (D, file) => (match fd.closure with
    | [(_, cc)] => cellHas K cc (He.ga K D)
    | _ => false) && (codeFile K fd.code file && isNoneV fd.defaults)
def DefY.addr (K : PySem.W.Frag) (d : DefY) : Addr := match d.wrap with
  | none => He.fAd K d.at_
  | some T => He5.wf K (He.ga K d.at_.1) T (d.at_.2.getD Str.empty)
def DefY.ok (K : PySem.W.Frag) (d : DefY) : Bool := PySem.W.keepIn K (.ref (d.addr K)) && (match K.lookup (d.addr K) with
  | some ⟨_, _, .func fd, _⟩ => PySem.W.codeIn K fd.code d.qual && (He.dflB K fd.defaults (d.dvs K) && (He.kwdB K fd.kwdefaults (d.kws K) && cellOk K fd d.cell))
  | _ => false)
theorem DefY.funD {K : PySem.W.Frag} {d : DefY} (hc : d.cell = none) (e : fnY K (d.addr K) = d.val) (c : d.ok K = true) : ∃ fd, FunD K d.name d.qual d.params d.body d.scope (d.dvs K) (d.kws K) (d.addr K) fd := by
  obtain ⟨kp, c2⟩ := band c
  unfold fnY at e
  cases q : K.lookup (d.addr K) with
  | none => rw [q] at c2; cases c2
  | some o =>
    obtain ⟨oc, od, dt, osl⟩ := o
    rw [q] at c2 e
    cases dt with
    | func fd =>
      obtain ⟨n1, n2, n3, n4, n5, n6, n7, n8, n9, n10, n11, n12, n13, n14, n15⟩ := fd
      have e2 : (some (n1, n2, n3, n4, n5, n6, n7.map (·.1), n15) : FnY) = some (d.name, d.qual, d.params, .stmts d.body, d.scope, mainGlobals, cellNs d.cell, builtinsNs) := e
      simp only [Option.some.injEq, Prod.mk.injEq] at e2
      obtain ⟨h1, h2, h3, h4, h5, h6, h7, h8⟩ := e2
      rw [hc] at h7
      have h7 : n7 = [] := List.map_eq_nil_iff.mp h7
      subst h1 h2 h3 h4 h5 h6 h7 h8
      obtain ⟨k1, k2⟩ := band (show (PySem.W.codeIn K n13 d.qual && (He.dflB K n8 (d.dvs K) && (He.kwdB K n9 (d.kws K) && _))) = true from c2)
      obtain ⟨k3, k4⟩ := band k2
      obtain ⟨k4, _⟩ := band k4
      exact ⟨_, ⟨oc, od, n8, n9, n10, n11, n12, n13, n14, osl, rfl, q, k1, He.dflB_ok k3, He.kwdB_ok k4⟩, kp⟩
    | _ => cases c2
theorem DefY.funC {K : PySem.W.Frag} {d : DefY} {D file : Str} (hc : d.cell = some (D, file)) (e : fnY K (d.addr K) = d.val) (c : d.ok K = true) : ∃ fd, FunC K d.name d.qual d.params d.body d.scope (He.ga K D) file (d.addr K) fd := by
  obtain ⟨kp, c2⟩ := band c
  unfold fnY at e
  cases q : K.lookup (d.addr K) with
  | none => rw [q] at c2; cases c2
  | some o =>
    obtain ⟨oc, od, dt, osl⟩ := o
    rw [q] at c2 e
    cases dt with
    | func fd =>
      obtain ⟨n1, n2, n3, n4, n5, n6, n7, n8, n9, n10, n11, n12, n13, n14, n15⟩ := fd
      have e2 : (some (n1, n2, n3, n4, n5, n6, n7.map (·.1), n15) : FnY) = some (d.name, d.qual, d.params, .stmts d.body, d.scope, mainGlobals, cellNs d.cell, builtinsNs) := e
      simp only [Option.some.injEq, Prod.mk.injEq] at e2
      obtain ⟨h1, h2, h3, h4, h5, h6, h7, h8⟩ := e2
      rw [hc] at h7
      subst h1 h2 h3 h4 h5 h6 h8
      obtain ⟨k1, k2⟩ := band (show (PySem.W.codeIn K n13 d.qual && (He.dflB K n8 (d.dvs K) && (He.kwdB K n9 (d.kws K) && cellOk K _ d.cell))) = true from c2)
      obtain ⟨k3, k4⟩ := band k2
      obtain ⟨k4, k5⟩ := band k4
      rw [hc] at k5
      obtain ⟨m1, m0⟩ := band k5
      obtain ⟨m2, m3⟩ := band m0
      clear m0 k5 c2 k2
      dsimp only at m1 m2 m3
      match n7, h7, m1 with
      | [(nm, cc)], h7, m1 =>
        have hnm : nm = "__class__" := by
          have h7 : [nm] = [("__class__" : Str)] := h7
          exact (List.cons.inj h7).1
        subst hnm
        have m1 : cellHas K cc (He.ga K D) = true := m1
        have hd : n8 = .none := by
          cases n8 with
          | none => rfl
          | _ => cases m3
        subst hd
        unfold codeFile at m2
        split at m2
        · rename_i cda
          split at m2
          · rename_i ccl cdd vs ccs hcda
            split at m2
            · rename_i f2 tf hvs
              have hf := of_decide_eq_true m2
              subst hf
              unfold cellHas at m1
              split at m1
              · rename_i cl cld a csl hcc
                have ha : a = He.ga K D := by simpa using m1
                subst ha
                exact ⟨_, ⟨oc, od, n9, n10, n11, n12, cda, n14, osl, cc, ccl, cdd, vs, ccs, tf, cl, cld, csl, rfl, q, k1, hcda, hvs, hcc⟩, kp⟩
              · cases m1
            · cases m2
          · cases m2
        · cases m2
    | _ => cases c2
abbrev AlY : Type := Bool × List FnY
abbrev Chk : Type := PySem.W.Frag → Bool
def obsY (fa : List Chk) (fn : List DefY) (K : PySem.W.Frag) : AlY := ((fa.all fun f => f K) && fn.all fun d => d.ok K, fn.map fun d => fnY K (d.addr K))
def valY (fn : List DefY) : AlY := (true, fn.map DefY.val)
def SaysY (fa : List Chk) (fn : List DefY) (K : PySem.W.Frag) : Prop := obsY fa fn K = valY fn
def putA {β : Type} (k : Nat → List Addr → β) : List Addr → Nat → List Addr → β
  | [], seen, out => k seen out
  | a :: r, seen, out => HandSHeadRun.frNat a fun a => match Nat.beq (Nat.land (Nat.shiftRight seen a) 1) 1 with
    | true => putA k r seen out
    | false => HandSHeadRun.frNat (Nat.lor seen (Nat.shiftLeft 1 a)) fun seen => putA k r seen (a :: out)
def refsF {β : Type} (g : Addr → Option Obj) (k : Nat → List Addr → β) : List Addr → Nat → List Addr → β
  | [], seen, out => k seen out
  | a :: fr, seen, out => match g a with
    | some o => putA (fun seen out => refsF g k fr seen out) (He.refsD o) seen out
    | none => refsF g k fr seen out
def asF (g : Addr → Option Obj) : Nat → Nat → List Addr → List Addr
  | 0, _, fr => fr
  | n + 1, seen, fr => fr ++ refsF g (fun seen nx => asF g n seen nx) fr seen []
def frY (n : Nat) (g : Addr → Option Obj) : PySem.W.Frag := He.frT g (cStatics :: asF g n (Nat.shiftLeft 1 mainGlobals) [mainGlobals])
def obsYG (n : Nat) (fa : List Chk) (fn : List DefY) (g : Addr → Option Obj) : AlY := ((obsY fa fn (frY n g)).1 && He.tabsB g ((lamP (frY n g)).map (·.1)) (frY n g), (obsY fa fn (frY n g)).2)
theorem saysY_of {n : Nat} {fa : List Chk} {fn : List DefY} {h : Heap} (e : obsYG n fa fn h.get? = valY fn) : SaysY fa fn (frY n h.get?) ∧ TabsH (frY n h.get?) h := by
  obtain ⟨h1, h2⟩ := band (show ((obsY fa fn (frY n h.get?)).1 && He.tabsB h.get? ((lamP (frY n h.get?)).map (·.1)) (frY n h.get?)) = true from congrArg (fun z : AlY => z.1) e)
  have e2 : (obsY fa fn (frY n h.get?)).2 = (valY fn).2 := by
    have q := congrArg (fun z : AlY => z.2) e
    exact q
  refine ⟨Prod.ext h1 e2, fun p hp => ?_⟩
  obtain ⟨h3, h4⟩ := band (List.all_eq_true.mp h2 p.1 (List.mem_map.mpr ⟨p, hp, rfl⟩))
  cases q : h.get? (He.cT (frY n h.get?) p.1).2 with
  | none =>
    rw [q] at h4
    cases h4
  | some o =>
    rw [q] at h4
    exact ⟨PySem.W.codeHd_of_K He.frT_in h3, He.frT_none q h4, by rw [He.emptyTab_eq h4]⟩
def hookY (n : Nat) (fa : List Chk) (fn : List DefY) : PySem.W.Hook where
  α := AlY
  obs := fun s => obsYG n fa fn s.heap.get?
  val := fun _ => valY fn
  says := fun _ h => ∃ K : PySem.W.Frag, K.In h ∧ SaysY fa fn K ∧ TabsH K h
  of := fun _ _ e => ⟨_, He.frT_in, (saysY_of e).1, (saysY_of e).2⟩
  keeps := fun _ _ _ ⟨K, hK, c, t⟩ k => ⟨K, PySem.W.Frag.In.keeps hK k, c, fun p hp => ⟨(t p hp).1.keeps k, (t p hp).2.1, k _ _ (t p hp).2.2⟩⟩
theorem obsYG_eq {n : Nat} {fa : List Chk} {fn : List DefY} {g : Addr → Option Obj} {s : Shared} (h : ∀ a, g a = s.heap.get? a) : obsYG n fa fn g = (hookY n fa fn).obs s := by
  have e : g = s.heap.get? := funext h
  rw [e] <;> rfl
section
variable {fa : List Chk} {fn : List DefY} {K : PySem.W.Frag}
theorem SaysY.fact (c : SaysY fa fn K) (i : Nat) {f : Chk} (h : fa[i]? = some f := by rfl) : f K = true := by
  have c1 := (band (show ((fa.all fun f => f K) && fn.all fun d => d.ok K) = true from congrArg (fun z : AlY => z.1) c)).1
  exact List.all_eq_true.mp c1 f (List.mem_of_getElem? h)
theorem SaysY.defE (c : SaysY fa fn K) (i : Nat) {d : DefY} (h : fn[i]? = some d) : fnY K (d.addr K) = d.val ∧ d.ok K = true := by
  have c2 := (band (show ((fa.all fun f => f K) && fn.all fun d => d.ok K) = true from congrArg (fun z : AlY => z.1) c)).2
  have e : fn.map (fun d => fnY K (d.addr K)) = fn.map DefY.val := congrArg (fun z : AlY => z.2) c
  have e2 : (fn.map fun d => fnY K (d.addr K))[i]? = (fn.map DefY.val)[i]? := by rw [e]
  rw [List.getElem?_map, List.getElem?_map, h] at e2
  exact ⟨Option.some.inj e2, List.all_eq_true.mp c2 d (List.mem_of_getElem? h)⟩
theorem SaysY.def_ (c : SaysY fa fn K) (i : Nat) {d : DefY} (h : fn[i]? = some d := by rfl) (hc : d.cell = none := by rfl) : ∃ fd, FunD K d.name d.qual d.params d.body d.scope (d.dvs K) (d.kws K) (d.addr K) fd :=
  DefY.funD hc (c.defE i h).1 (c.defE i h).2
theorem SaysY.defC (c : SaysY fa fn K) (i : Nat) {d : DefY} {D file : Str} (h : fn[i]? = some d := by rfl) (hc : d.cell = some (D, file) := by rfl) : ∃ fd, FunC K d.name d.qual d.params d.body d.scope (He.ga K D) file (d.addr K) fd :=
  DefY.funC hc (c.defE i h).1 (c.defE i h).2
end
def chkF (f : He.Fa) : Chk := fun K => f.ok K
def chkExc (x : Str) : Chk := fun K => excKB K (He.ga K x)
def chkExcR (x : Str) : Chk := fun K => excRB K (He.ga K x)
def chkNo (x f : Str) : Chk := fun K => ooV (PySem.W.findIn K (.ref (He.ga K x)) f) (some none)
def chkMk0 (x : Str) : Chk := fun K => mk0B K (He.ga K x)
def chkCon (f : Str) (t : KTab) : Chk := fun K => ktB K f t
def chkCls (x : Str) : Chk := fun K => clsB K (He.ga K x)
def chkKit (c x : Str) (r : Bool) : Chk := fun K => obB (PySem.W.kitOne K (.ref (He.ga K c)) (.ref (He.ga K x))) (some r)
def chkKitB (c : Str) (T : String) (r : Bool) : Chk := fun K => obB (PySem.W.kitOne K (.ref (He.ga K c)) (.type T)) (some r)
abbrev HTab := List (Str × Bool)
def chkHit (h : Str) (t : HTab) : Chk := fun K => t.all fun p => obB (PySem.W.exmOne K (.ref (He.ga K p.1)) (.ref (He.ga K h))) (some p.2)
def hitF (t : HTab) : Str → Option Bool := fun c => t.lookup c
section
variable {X : Cx} {x : Str} {C : Addr} {r : Bool}
end
theorem xmk {P : Program} {w : World} {K : PySem.W.Frag} {mg : Str → Option Value} {base : Heap} {c : Str} {fs ps : List Str} {fd : FuncData} (hT : ExcK K (He.ga K c)) (hm : mg c = some (.ref (He.ga K c))) (me : Meth K (He.ga K c) "__init__" (He.ma K (He.ga K c) "__init__"))
    (ok : FnOk P w K mg base (L2.CX P w) 1 (He.ma K (He.ga K c) "__init__") fd ps (spXi (He.ga K c) fs) ∧ Binds K fd ps []) : XMk P w K mg base c fs :=
  ⟨hT, hm, _, fd, ps, me.at_, beq_iff_eq.mp me.fn, ok.1, ok.2⟩
def clsBody (s : Stmt) : List Stmt := match s with
  | .ClassDef _ _ _ b _ _ _ _ _ _ _ => b
  | _ => []
def rIadd : R2 := fun x y H Q => (rI0 fun i j => .int (i + j)) x y H Q ∨ (fun x y H Q => ∃ i j, x = .str i ∧ y = .str j ∧ i.length + j.length ≤ sizeLine ∧ Q (.str (i ++ j)) H) x y H Q
theorem op_iaddI {X : Cx} : OpR X (inplaceOp .Add) rIadd := iop_add.or iop_add_str
def iaddD : D → D → Option D
  | .int i, .int j => some (.int (i + j))
  | .str x, .str y => if x.length + y.length ≤ LIM then some (.str (x ++ y)) else none
  | _, _ => none
def imulD : D → D → Option D
  | .int i, .int j => if mulOk i j then some (.int (i * j)) else none
  | _, _ => none
section
variable {K : PySem.W.Frag} {cl : Str → Addr}
theorem op_iaddID : Op2 K cl rIadd iaddD := by
  intro Z H x y d v u fx fy Q s hx hy e q
  unfold iaddD at e
  split at e
  · cases e
    rw [hx.1, hy.1]
    exact .inl ⟨_, _, rfl, rfl, PostV.int s q⟩
  · split at e
    · rename_i c
      cases e
      rw [hx.1, hy.1]
      exact .inr ⟨_, _, rfl, rfl, lim_le c, PostV.str s q⟩
    · cases e
  · cases e
theorem op_isub {X : Cx} : OpR X (inplaceOp .Sub) (rI0 fun i j => .int (i - j)) := iop_sub
theorem op_isubID : Op2 K cl (rI0 fun i j => .int (i - j)) subD := op_subD
end
end DL
namespace DL
open PySem PySem.Spec PyProof.Rows L2 ClX
variable [Tb]
structure DEA (X : Cx) (W : WX) (b : List Stmt) (e : Expr) (f : Env → Ou D) : Prop where
  run : PEA X b e (tD X.K (He.ga X.K) W f)
structure DSA (X : Cx) (W : WX) (b : List Stmt) (st : Stmt) (g : Env → Os) : Prop where
  run : ∀ Z0 H0, PSA X b st (tS X.K (He.ga X.K) W Z0 H0 g)
structure DSsA (X : Cx) (W : WX) (b st : List Stmt) (g : Env → Os) : Prop where
  run : ∀ Z0 H0, PSsA X b st (tS X.K (He.ga X.K) W Z0 H0 g)
section
variable {X : Cx} {W : WX} {b rest : List Stmt} {st : Stmt} {e : Expr} {f : Env → Ou D} {g h : Env → Os} {pos : Pos}
theorem DSsA.of (h : DSs X W rest g) : DSsA X W b rest g := ⟨fun Z0 H0 => .of (h.run Z0 H0)⟩
theorem DSA.of (h : DS X W st g) : DSA X W b st g := ⟨fun Z0 H0 => .of (h.run Z0 H0)⟩
theorem DSsA.cons (h1 : DSA X W b st g) (h2 : DSsA X W b rest h) : DSsA X W b (st :: rest) (sSeq g h) := by
  refine ⟨fun Z0 H0 => PSsA.weak (psa_cons (h1.run Z0 H0) (h2.run Z0 H0)) fun E σ H hq => ?_⟩
  obtain ⟨Z, ρ, s, q⟩ := hq
  refine ⟨Z, ρ, s, ?_⟩
  unfold sSeq at q
  cases e : g ρ with
  | nx ρ' => rw [e] at q; exact fun σ' Z' H' s' => ⟨Z', ρ', s', q⟩
  | rt d => rw [e] at q; exact q
  | bk ρ' => rw [e] at q; exact q
  | ct ρ' => rw [e] at q; exact q
  | ex c ns xs ρ' => rw [e] at q; exact q
  | bad => rw [e] at q; exact q
theorem DSsA.one (h1 : DSA X W b st g) : DSsA X W b [st] g := by
  refine ⟨fun Z0 H0 => PSsA.weak (psa_cons (h1.run Z0 H0) (.of pss_nil)) fun E σ H hq => ?_⟩
  obtain ⟨Z, ρ, s, q⟩ := hq
  refine ⟨Z, ρ, s, ?_⟩
  cases e : g ρ <;> (rw [e] at q; exact q)
theorem DSsA.frz (i : Nat) (h : DSsA X W b rest g) : DSsA X W b rest (sFrz i g) := by
  refine ⟨fun Z0 H0 => PSsA.weak (h.run Z0 H0) fun E σ H hq => ?_⟩
  obtain ⟨Z, ρ, s, q⟩ := hq
  unfold sFrz at q
  split at q
  · rename_i d ec
    obtain ⟨Z', s'⟩ := s.frz ec
    exact ⟨Z', _, s', q⟩
  · exact ⟨Z, ρ, s, q⟩
theorem DSA.ret (he : DEA X W b e f) : DSA X W b (.Return (some e) pos) (sRet f) := by
  refine ⟨fun Z0 H0 => PSA.weak (psa_ret he.run) fun E σ H hq => ?_⟩
  obtain ⟨Z, ρ, s, q⟩ := hq
  refine ⟨Z, ρ, s.rel, ?_⟩
  unfold sRet at q
  cases ec : f ρ with
  | ok d => rw [ec] at q; exact fun v Z' H' fp g1 dn nd fr => q v Z' H' fp (s.g.trans g1) dn nd fun a ha => s.g.h.back (fr a ha)
  | ex c ns xs => rw [ec] at q; exact fun dc Z' H' g1 x => q dc σ Z' H' (s.gr g1) x
  | bad => rw [ec] at q; exact q
theorem DSA.set (i : Nat) {x : Str} {pos' : Pos} (he : DEA X W b e f) (hN : X.N.Nodup) (hi : X.N[i]? = some x := by rfl) (hx : Loc X.env.scope x := by first | exact Or.inl rfl | exact Or.inr rfl) (hs : swapsWith e (some (.Name x pos')) pos.line X.env = pure false := by rfl)
    (hf : X.fn x = true ∨ X.env.scope.names.lookup x = some .local := by first | exact .inl rfl | exact .inr rfl | assumption) : DSA X W b (.Assign [.Name x pos'] e pos) (sSet i f) := by
  refine ⟨fun Z0 H0 => PSA.weak (psa_set (i := i) hN hi hx he.run hs hf) fun E σ H hq => ?_⟩
  obtain ⟨Z, ρ, s, q⟩ := hq
  refine ⟨Z, ρ, s.rel, ?_⟩
  unfold sSet at q
  cases ec : f ρ with
  | ok d =>
    rw [ec] at q
    intro v Z' H' fp g1 dn nd fr
    have q : PostS X.K (He.ga X.K) W Z0 H0 E (if i < ρ.length then .nx (ρ.set i (some d)) else .bad) := q
    by_cases c : i < ρ.length
    · rw [if_pos c] at q
      exact q _ Z' H' (s.set g1 dn nd fr c)
    · rw [if_neg c] at q; exact q.elim
  | ex c ns xs => rw [ec] at q; exact fun dc Z' H' g1 x => q dc σ Z' H' (s.gr g1) x
  | bad => rw [ec] at q; exact q
structure SupT (P : Program) (w : World) (K : PySem.W.Frag) (mg : Str → Option Value) (base : Heap) (k : Nat) (m : Str) (n : Nat) (D : Str) (al : List Str) (F : List DL.D → Ou DL.D) : Prop where
  any : PySem.W.nsIn K cStatics "thirdparty.any" = some none
  ok : ∀ c ∈ al, PySem.W.mroIn K (He.ga K c) (.ref (He.ga K D)) = some true ∧ ∃ (f2 : Addr) (fd : FuncData) (ps : List Str), PySem.W.ks_superIn K (He.ga K c) (He.ga K D) m = some (some (.ref f2)) ∧ PySem.W.typeIn K (.ref f2) = some (.type "function") ∧ PySem.W.fnIn K f2 = true ∧ FnOk P w K mg base (L2.CX P w) k f2 fd ps (spF K n F) ∧ Binds K fd ps []
def okOnly : Ou D → Ou D
  | .ok d => .ok d
  | _ => .bad
def supSelf (al : List Str) (ρ : Env) : Ou D := match (ρ[0]? : Option (Option D)) with
  | some (some (D.ins c ns xs)) => if al.contains c then .ok (.ins c ns xs) else .bad
  | _ => .bad
def dSup (al : List Str) (F : List D → Ou D) (t : Env → Ou (List D)) : Env → Ou D := fun ρ => supSelf al ρ >>= fun d => t ρ >>= fun ds => okOnly (callR F (d :: ds))
theorem supSelf_inv {al : List Str} {ρ : Env} {d : D} (h : supSelf al ρ = .ok d) : ∃ c ns xs, d = .ins c ns xs ∧ ρ[0]? = some (some d) ∧ c ∈ al := by
  unfold supSelf at h
  split at h
  · rename_i c ns xs e
    split at h
    · rename_i hc
      cases h
      exact ⟨c, ns, xs, rfl, e, by simpa using hc⟩
    · cases h
  · cases h
theorem supSelf_nex {al : List Str} {ρ : Env} : ∀ {c : Str} {ns : List Str} {xs : List D}, supSelf al ρ ≠ .ex c ns xs := by
  intro c ns xs h
  unfold supSelf at h
  split at h
  · split at h <;> cases h
  · cases h
theorem DEA.super {k j n : Nat} {es : List Expr} {t : Env → Ou (List D)} {m Dn : Str} {p0 p1 apos : Pos} {al : List Str} {F : List D → Ou D} {pl : Sem Bool} (C : Ctx X W k) (U : SupX X (He.ga X.K Dn)) (G : SupT X.prog X.w X.K X.mg X.base j m n Dn al F) (ha : DAB X W (e :: es) t)
    (hk : j ≤ k := by decide) (hn : ((e :: es).length + 1 == n) = true := by rfl) (hat : (m == ("__class__" : Str)) = false := by decide)
    (hst : starEach (e :: es) X.env = (false, eval e X.env) :: starEach es X.env := by rfl) (hpl : (backTo pos (starEach es X.env)).any (·.1) = false := by rfl)
    (ht : eval (.Call (.Attribute (.Call (.Name "super" p0) [] [] p1) m apos) (e :: es) [] pos) X.env = (do
      let ov ← attributeBase (.Call (.Name "super" p0) [] [] p1) m X.env (eval (.Call (.Name "super" p0) [] [] p1) X.env)
      standAt apos.atName
      let (f, first) ← holding [ov] (getMethod ov m pl)
      callWith pos f first (backTo pos (starEach (e :: es) X.env)) []) := by rfl) :
    DEA X W b (.Call (.Attribute (.Call (.Name "super" p0) [] [] p1) m apos) (e :: es) [] pos) (dSup al F t) := by
  refine ⟨PEA.weak (pea_super (k := j) (CX := L2.CX X.prog X.w) (E := fun _ _ _ => False) (pl := pl) (Fo := fun C f2 sp => sp = spF X.K n F ∧ ∃ fd ps, FnOk X.prog X.w X.K X.mg X.base (L2.CX X.prog X.w) j f2 fd ps (spF X.K n F) ∧ Binds X.K fd ps []) U G.any hat
    (fun C f2 sp h => by obtain ⟨e, fd, ps, h1, h2⟩ := h; subst e; exact ⟨fd, ps, h1, h2⟩) (C.hr.mono hk) (passes_call C.tk fun _ _ _ _ z => z.elim) ha.run hst hpl ht) fun σ H Q hq => ?_⟩
  obtain ⟨Z, ρ, r, q⟩ := hq
  unfold dSup at q
  cases es0 : supSelf al ρ with
  | bad => rw [es0] at q; exact q.elim
  | ex c ns xs => exact absurd es0 supSelf_nex
  | ok d =>
    rw [es0] at q
    obtain ⟨c, ns, xs, ed, e0, hc⟩ := supSelf_inv es0
    subst ed
    obtain ⟨h1, f2, fd, ps, h2, h3, h4, h5, h6⟩ := G.ok c hc
    obtain ⟨s, tk, fp, sl, nd⟩ := id r
    obtain ⟨v, fd0, g1, g2, g3⟩ := Slots.get sl e0
    have dx0 := g2
    simp only [Den] at g2
    obtain ⟨a, dxa, vs, e1, e2, z, l, ds⟩ := g2
    subst e1 e2
    refine ⟨a, He.ga X.K c, dxa, _, f2, _, g1, s.l z, h1, h2, h3, h4, ⟨rfl, fd, ps, h5, h6⟩, ?_⟩
    have q3 : PostO X.K (He.ga X.K) W Z H σ (t ρ >>= fun ds => okOnly (callR F (.ins c ns xs :: ds))) Q := q
    refine tVs_bind (P := fun Z H o => PostO X.K (He.ga X.K) W Z H σ o Q) r (fun _ _ _ z => z) (fun z => z) q3 fun ds2 vs2 Z2 H2 fp2 ex2 gg dn q => ?_
    have q := PostO.gr q gg
    have dn2 : Dens X.K (He.ga X.K) Z2 H2 (.ins c ns xs :: ds2) (.ref a :: vs2) fp2 := by
      have := Dens.cons (gg.den dx0) dn
      simpa using this
    have hlen : (V.ref a :: vs2).length = n := by
      rw [dn2.length]
      show ds2.length + 1 = n
      rw [ha.len ρ ds2 ex2]
      exact beq_iff_eq.mp hn
    refine spF_of (W := W0) (σ := σ) gg.s (r.t.ex gg.z) dn2 hlen ?_
    cases er : callR F (.ins c ns xs :: ds2) with
    | ok d => rw [er] at q; exact q
    | ex c ns xs => rw [er] at q; exact q.elim
    | bad => rw [er] at q; exact q.elim
end
end DL
namespace DL
open PySem PySem.Spec PyProof.Rows L2 ClX
variable [Tb]
section
variable {M : Model} {A : Around} {c : Code} {E : Value → Shared → Prop} {s : Shared} {env : PySem.Env}
theorem at_For {target iter body orelse pos} {Q : Flow → Shared → Prop}
    (h : _root_.PySem.wpAt M A c (eval iter env) (fun x s₁ => wpAny M A (pyIter x) (fun it s₂ =>
      codeAny M A (.forLoop target it body orelse env) (fun r s' => match r with | .ok f => Q f s' | .error e => cameBackBy M A env E e s') s₂) E s₁) E s)
    (hs : ∀ x, foldedSetIterable iter env x = pure x) : _root_.PySem.wpAt M A c (exec (.For target iter body orelse pos) env) Q E s := by
  rw [exec_For]
  exact _root_.PySem.wpAt_bind (_root_.PySem.wpAt_of_wpAny (wpAny_standAt (_root_.PySem.wpAt_bind (_root_.PySem.wpAt_mono h (fun x s₁ h₁ => _root_.PySem.wpAt_of_wpAny (wpAny_bind (wpAny_of_eq (hs x) (wpAny_bind (wpAny_standAt (wpAny_bind (wpAny_holding
    (wpAny_mono h₁ (fun it s₂ h₂ => wpAny_runOwn h₂) fun _ _ h' => h')))))))) fun _ _ h' => h'))))
theorem at_Subscript {value slice pos} {Q : Value → Shared → Prop}
    (h : _root_.PySem.wpAt M A c (eval value env) (fun o s₁ => wpAny M A (eval slice env) (fun i s₂ => wpAny M A (subscriptTail value slice o i) Q E s₂) E s₁) E s) :
    _root_.PySem.wpAt M A c (eval (.Subscript value slice pos) env) Q E s := by
  rw [eval_Subscript]
  exact _root_.PySem.wpAt_bind (_root_.PySem.wpAt_mono h (fun o s₁ h₁ => _root_.PySem.wpAt_of_wpAny (wpAny_bind (wpAny_holding (wpAny_mono h₁ (fun i s₂ h₂ => wpAny_bind (wpAny_standAt h₂)) fun _ _ x => x)))) fun _ _ x => x)
end
section
variable {X : Cx} {b : List Stmt} {tg e l iter : Expr} {te tl : TE} {pos p2 : Pos}
structure PIA (X : Cx) (b : List Stmt) (tg iter : Expr) (wi : TI) : Prop where
  run : ∀ (pins : List (Addr × Obj)) (s : Shared) (σ : L2.St) (H : Hp) (R : It → Hp → Prop), Inv X pins σ H s → wi σ H R →
    _root_.PySem.wpAt (model X.prog X.w) X.A (.func b X.env) (eval iter X.env) (fun v s1 => wpAny (model X.prog X.w) X.A (pyIter v) (PIE X pins σ tg R) X.xe s1) X.xe s
theorem PIA.weak {t t' : TI} (h : PIA X b tg e t) (k : ∀ σ H R, t' σ H R → t σ H R) : PIA X b tg e t' := ⟨fun pins s σ H R I q => h.run pins s σ H R I (k σ H R q)⟩
theorem PIA.or {t t' : TI} (h : PIA X b tg e t) (h' : PIA X b tg e t') : PIA X b tg e (fun σ H R => t σ H R ∨ t' σ H R) :=
  ⟨fun pins s σ H R I q => q.elim (h.run pins s σ H R I) (h'.run pins s σ H R I)⟩
theorem pia_list (hl : PEA X b l tl) : PIA X b tg l (iList X.K tl) := by
  refine ⟨fun pins s σ H R I h => ?_⟩
  refine _root_.PySem.wpAt_mono (hl.run pins s σ H _ I h) (fun v s1 ⟨x, H1, I1, r1, q1⟩ => ?_) fun _ _ x => x
  obtain ⟨a, e, ⟨xs, hq⟩, q⟩ := q1
  subst e
  cases r1
  obtain ⟨its, rv, p, hz⟩ := I1.list hq
  refine wpAny_pyIter_list p.isList ?_
  refine ⟨s1.heap.objs.size, [s1.heap.objs.size], _, _, H1, rfl, I1.kept (t' := s1.toks) fun b o e => Heap.get?_push_of_some _ e, turn_list a _, ⟨_, Heap.get?_push_size _ rfl, rfl, rfl⟩, fun b hb => ?_, q⟩
  have e : b = s1.heap.objs.size := by simpa using hb
  subst e
  exact I1.fpOk (Nat.le_refl _) (I1.hok.fresh (Nat.le_refl _))
theorem pia_tup (hl : PEA X b l tl) : PIA X b tg l (iTup X.K tl) := by
  refine ⟨fun pins s σ H R I h => ?_⟩
  refine _root_.PySem.wpAt_mono (hl.run pins s σ H _ I h) (fun v s1 ⟨x, H1, I1, r1, q1⟩ => ?_) fun _ _ x => x
  obtain ⟨a, e, ⟨xs, hq⟩, q⟩ := q1
  subst e
  cases r1
  obtain ⟨its, rv, p, hz⟩ := I1.tuple hq
  refine wpAny_pyIter_tuple (show s1.heap.IsTuple a its.toArray from p) ?_
  refine ⟨s1.heap.objs.size, [s1.heap.objs.size], _, _, H1, rfl, I1.kept (t' := s1.toks) fun b o e => Heap.get?_push_of_some _ e, turn_tuple a _, ⟨_, Heap.get?_push_size _ rfl, rfl, rfl⟩, fun b hb => ?_, q⟩
  have e : b = s1.heap.objs.size := by simpa using hb
  subst e
  exact I1.fpOk (Nat.le_refl _) (I1.hok.fresh (Nat.le_refl _))
theorem psa_for {body : List Stmt} {wi : TI} {g : TG} {tb : TS} (hp : PassesOwn (model X.prog X.w) X.A X.env X.xe) (hc : X.calm = true) (hi : PIA X b tg iter wi) (hg : PG X tg g) (hb : PSs X body tb)
    (hs : ∀ x, foldedSetIterable iter X.env x = pure x) : PSA X b (.For tg iter body [] pos) (tFor wi g tb) := by
  refine ⟨fun pins s σ H D I h => ?_⟩
  refine at_For (_root_.PySem.wpAt_mono (hi.run pins s σ H _ I h) (fun v s1 h1 => thn h1 fun itv s2 h2 => ?_) fun _ _ x => x) hs
  obtain ⟨it, fp, tn, J, H2, e, I2, T, st2, f2, W, ⟨m0, w0⟩, turn⟩ := h2
  subst e
  have stat : ∀ {H' : Hp}, (∀ b ∈ fp, H' b = none) → ∀ b ∈ fp, FpOk X pins H' b := fun hn b hb => ⟨hn b hb, (f2 b hb).2⟩
  refine codeAny_forLoop_any (fun n s' => ∃ i σ' H', Inv X pins σ' H' s' ∧ tn i s'.heap ∧ (∀ b ∈ fp, H' b = none) ∧ W i n σ' H') ?_ m0 ⟨0, σ, H2, I2, st2, fun b hb => (f2 b hb).1, w0⟩
  rintro n s3 ⟨i, σ3, H3, I3, st3, fr3, w3⟩
  rcases turn i n σ3 H3 w3 with ⟨stop, qn⟩ | ⟨go, N, hN, step⟩
  · refine wpAny_passesOwn hp (thn (T.done X rfl rfl rfl hc i pins s3 σ3 H3 X.xe I3 (stat fr3) st3 stop) fun r s4 ⟨hr, I4⟩ => ?_)
    subst hr
    exact wpAny_execs_nil ⟨σ3, H3, I4, qn⟩
  · refine wpAny_passesOwn hp (thn (T.item X rfl rfl rfl hc i pins s3 σ3 H3 X.xe I3 (stat fr3) st3 go) fun r s4 ⟨u, hr, h4⟩ => ?_)
    subst hr
    refine wpAny_passesOwn hp (thn h4 fun _ s5 ⟨x, H5, I5, r5, y5, st5, fr5⟩ => ?_)
    have I5' := I5.pinned (stat fr5) (T.obj _ _ st5)
    refine wpAny_passesOwn hp (thn (hg.run _ s5 σ3 H5 x u _ I5' r5 (step x H5 y5)) fun _ s6 ⟨σ6, H6, I6, q6⟩ => ?_)
    refine wpAny_passesOwn hp (thn (hb.run _ s6 σ6 H6 _ I6 q6) fun f s7 q7 => ?_)
    have again : ∀ {σ7 : L2.St} {H7 : Hp}, Inv X (pins ++ pinsAt fp s5.heap) σ7 H7 s7 → N σ7 H7 → ∃ m, m < n ∧ ∃ i σ' H', Inv X pins σ' H' s7 ∧ tn i s7.heap ∧ (∀ b ∈ fp, H' b = none) ∧ W i m σ' H' := fun {σ7 H7} I7 n7 => by
      obtain ⟨m', hm, w7⟩ := hN σ7 H7 n7
      refine ⟨m', hm, i + 1, σ7, H7, I7.unpinned, T.keep _ _ _ st5 fun b hb o e => (I7.pin (b, o) (List.mem_append_right _ (List.mem_append_right _ (mem_pinsAt hb e)))).1, fun b hb => ?_, w7⟩
      obtain ⟨o, e, d⟩ := T.obj _ _ st5 b hb
      exact (I7.pin (b, o) (List.mem_append_right _ (List.mem_append_right _ (mem_pinsAt hb e)))).2.1
    cases f with
    | next => obtain ⟨σ7, H7, I7, n7⟩ := q7; exact again I7 n7
    | cont => obtain ⟨σ7, H7, I7, n7⟩ := q7; exact again I7 n7
    | brk => obtain ⟨σ7, H7, I7, q7⟩ := q7; exact ⟨σ7, H7, I7.unpinned, q7⟩
    | ret v => obtain ⟨x7, σ7, H7, I7, r7, q7⟩ := q7; exact ⟨x7, σ7, H7, I7.unpinned, r7, q7⟩
theorem pea_slice {r : V → Option Int → Option Int → Hp → VK → Prop} {lo hi : Option Expr} {tl th : TO} (hr : SlR X r) (he : PEA X b e te) (hl : PO X lo tl) (hu : PO X hi th) : PEA X b (.Subscript e (.Slice lo hi none p2) pos) (tSl r te tl th) := by
  refine ⟨fun pins s σ H Q I h => ?_⟩
  refine at_Subscript (_root_.PySem.wpAt_mono (he.run pins s σ H _ I h) (fun v s1 ⟨x, H1, I1, r1, q1⟩ => ?_) fun _ _ x => x)
  refine wpAny_Slice (thn (hl.run pins s1 σ H1 _ I1 q1) fun vl s2 ⟨l, H2, I2, pl, q2⟩ => thn (hu.run pins s2 σ H2 _ I2 q2) fun vu s3 ⟨u, H3, I3, pu, q3⟩ => ?_)
  rw [evalPart_none]
  refine wpAny_pure ?_
  have I4 : Inv X pins σ H3 { s3 with heap := s3.heap.push { cls := .type "slice", data := .fields #[vl, vu, .none] } } := I3.kept (t' := s3.toks) fun b ob q => Heap.get?_push_of_some _ q
  obtain ⟨T, id, hT, ht, hg⟩ := hr pins { s3 with heap := s3.heap.push { cls := .type "slice", data := .fields #[vl, vu, .none] } } σ H3 x v vl vu l u s3.heap.objs.size Q I4 r1 (Heap.IsSliceOf.new ..) pl pu q3
  show wpAny (model X.prog X.w) X.A (subscriptTail e (.Slice lo hi none p2) v (.ref s3.heap.objs.size)) (EP X pins σ Q) X.xe { s3 with heap := s3.heap.push { cls := .type "slice", data := .fields #[vl, vu, .none] } }
  exact tail_any (ops := [.ref s3.heap.objs.size, v]) ht hT hg (by with_unfolding_all rfl)
end
section
variable {X : Cx} {W : WX} {k : Nat} {b : List Stmt} {tg a e iter : Expr} {f : Env → Ou D} {pos : Pos}
theorem DEA.runB (h : DEA X W b e f) : PEA X b e (tV X.K (He.ga X.K) W f) := PEA.weak h.run fun σ H Q ⟨Z, ρ, r, q⟩ => ⟨Z, ρ, r, q.toO⟩
structure DIA (X : Cx) (W : WX) (b : List Stmt) (tg iter : Expr) (fi : Env → Ou (List D)) : Prop where
  run : PIA X b tg iter (tI X.K (He.ga X.K) W fi)
theorem DIA.seq (h : DEA X W b e f) : DIA X W b tg e (iSeq f) := by
  refine ⟨PIA.weak (PIA.or (pia_list h.run) (pia_tup h.run)) fun σ H R hq => ?_⟩
  obtain ⟨Z, ρ, r, q⟩ := hq
  unfold iSeq at q
  cases ef : f ρ with
  | ok d =>
    rw [ef] at q
    cases d with
    | lst o xs =>
      refine .inl ⟨Z, ρ, r, ?_⟩
      rw [ef]
      intro v Z' H' fp g dn nd fr
      obtain ⟨a, vs, f1, rfl, qa, dd, hf, _⟩ := dn.lstH g.s
      have own : ∀ b ∈ fp, Z' b = none := fun b hb => (Den.own _ _ _ dn b hb).1
      refine ⟨a, rfl, ⟨vs, .inl (.inl qa)⟩, q _ (frzH Z' H' fp) H' (g.frz own fr fun b hb => (Den.own _ _ _ dn b hb).2) (wk_list (H := H') ?_ (Dens.freeze (frzH_ex own) xs vs f1 (fun b hb => if_pos (hf b hb)) dd))⟩
      cases o with
      | true =>
        simp only [Den] at dn
        obtain ⟨a', vs', fq, e1, e2, _⟩ := dn
        cases e1
        subst e2
        exact (if_pos List.mem_cons_self).trans qa
      | false =>
        simp only [Den] at dn
        obtain ⟨a', vs', e1, e2, e3, _⟩ := dn
        cases e1
        have na : a ∉ fp := fun hm => by rw [e2] at hm; cases hm
        refine (if_neg na).trans ?_
        rw [e3, ← g.s.l e3, qa]
    | tup xs =>
      refine .inr ⟨Z, ρ, r, ?_⟩
      rw [ef]
      intro v Z' H' fp g dn nd fr
      obtain ⟨a, vs, rfl, qa, za, dd⟩ := dn.tupH g.s
      have own : ∀ b ∈ fp, Z' b = none := fun b hb => (Den.own _ _ _ dn b hb).1
      exact ⟨a, rfl, ⟨vs, qa⟩, q _ (frzH Z' H' fp) H' (g.frz own fr fun b hb => (Den.own _ _ _ dn b hb).2) (wk_tup (H := H') ((frzH_ex own).sqT za) (Dens.freeze (frzH_ex own) xs vs fp (fun b hb => if_pos hb) dd))⟩
    | _ => exact q.elim
  | ex c ns xs =>
    rw [ef] at q
    refine .inl ⟨Z, ρ, r, ?_⟩
    rw [ef]
    exact q
  | bad => rw [ef] at q; exact q.elim
theorem DSA.for_ {iter : Expr} {body : List Stmt} {fi : Env → Ou (List D)} {tgt : D → Env → Option Env} {g : Env → Os} (C : Ctx X W k) (hi : DIA X W b tg iter fi) (ht : DG X tg tgt) (hb : DSs X W body g) (hs : ∀ x, foldedSetIterable iter X.env x = pure x := by intro _; rfl) :
    DSA X W b (.For tg iter body [] pos) (sFor fi tgt g) := by
  refine ⟨fun Z0 H0 => PSA.weak (psa_for C.po C.calm hi.run ht.run (tb := fun E σ H => ∃ Zl Hl, tS X.K (He.ga X.K) W Zl Hl g E σ H) ⟨fun pins s σ H E I ⟨Zl, Hl, q⟩ => (hb.run Zl Hl).run pins s σ H E I q⟩ hs) fun E σ H hq => ?_⟩
  obtain ⟨Z, ρ, st, q⟩ := hq
  refine ⟨Z, ρ, st.rel, ?_⟩
  unfold sFor at q
  cases ef : fi ρ with
  | ex c ns xs => rw [ef] at q; exact fun dc Z' H' g1 x => q dc σ Z' H' (st.gr g1) x
  | bad => rw [ef] at q; exact q
  | ok ds =>
    rw [ef] at q
    intro J Z1 H1 g1 wk
    obtain ⟨Hl, gl, stl, _, _⟩ := (st.gr g1).rebase
    refine ⟨fun i m σ' H' => m = ds.length - i ∧ i ≤ ds.length ∧ ∃ Z' ρ', Sta X.K (He.ga X.K) Z1 Hl Z' H' σ' ρ' ∧ PostS X.K (He.ga X.K) W Z0 H0 E (loopS tgt g (ds.drop i) ρ'), ⟨ds.length, by simp, Nat.zero_le _, Z1, ρ, stl, q⟩, ?_⟩
    rintro i m σ' H' ⟨rfl, hi', Z', ρ', st', q'⟩
    have ez : Ex Z1 H' := st'.g.z.trans st'.g.s
    by_cases hlt : i < ds.length
    · refine .inr ⟨wk.go i H' ez hlt, fun σ2 H2 => ∃ Z' ρ', Sta X.K (He.ga X.K) Z1 Hl Z' H2 σ2 ρ' ∧ PostS X.K (He.ga X.K) W Z0 H0 E (loopS tgt g (ds.drop (i + 1)) ρ'), fun σ2 H2 n2 => ⟨ds.length - (i + 1), by omega, rfl, hlt, n2⟩, fun x H2 y => ?_⟩
      obtain ⟨e1, d, ed, dn⟩ := wk.yld i H' x H2 ez hlt y
      subst e1
      have ed' : ds[i] = d := by rw [List.getElem?_eq_getElem hlt] at ed; exact Option.some.inj ed
      rw [List.drop_eq_getElem_cons hlt, ed'] at q'
      unfold loopS at q'
      cases et : tgt d ρ' with
      | none => rw [et] at q'; exact q'.elim
      | some ρ1 =>
        rw [et] at q'
        refine ⟨Z1, Hl, Z', ρ', d, ρ1, st', Den.mono st'.g.z d x [] (fun _ z => nomatch z) dn, et, fun σ2 st2 => ⟨Z1, Hl, Z', ρ1, st2, ?_⟩⟩
        have q' : PostS X.K (He.ga X.K) W Z0 H0 E (match g ρ1 with
          | .nx ρ2 => loopS tgt g (ds.drop (i + 1)) ρ2
          | .ct ρ2 => loopS tgt g (ds.drop (i + 1)) ρ2
          | .bk ρ2 => .nx ρ2
          | .rt d => .rt d
          | .ex c ns xs ρ2 => .ex c ns xs ρ2
          | .bad => .bad) := q'
        cases eg : g ρ1 with
        | nx ρ2 => rw [eg] at q'; exact fun σ3 Z3 H3 st3 => ⟨Z3, ρ2, st3, q'⟩
        | ct ρ2 => rw [eg] at q'; exact fun σ3 Z3 H3 st3 => ⟨Z3, ρ2, st3, q'⟩
        | bk ρ2 => rw [eg] at q'; exact fun σ3 Z3 H3 st3 => q' σ3 Z3 H3 (st3.unbase gl)
        | rt d => rw [eg] at q'; exact fun v Z3 H3 fp g3 h nd fr => q' v Z3 H3 fp (gl.trans g3) h nd fun a ha => gl.h.back (fr a ha)
        | ex c ns xs ρ2 => rw [eg] at q'; exact fun dc σ3 Z3 H3 st3 h => q' dc σ3 Z3 H3 (st3.unbase gl) h
        | bad => rw [eg] at q'; exact q'.elim
    · have e : i = ds.length := by omega
      subst e
      refine .inl ⟨wk.stop H' ez, ?_⟩
      rw [List.drop_length] at q'
      exact q' σ' Z' H' (st'.unbase gl)
theorem DEA.slice {lo hi : Option Expr} {l h : Env → Ou (Option Int)} {p2 : Pos} (ha : DEA X W b a f) (hl : DO X W lo l) (hh : DO X W hi h) : DEA X W b (.Subscript a (.Slice lo hi Option.none p2) pos) (dSl f l h) := by
  refine ⟨PEA.weak (pea_slice sl_any ha.runB hl.run hh.run) fun σ H Q hq => ?_⟩
  obtain ⟨Z, ρ, r, q⟩ := hq
  refine tV_bind (P := fun Z H o => PostO X.K (He.ga X.K) W Z H σ o Q) r (fun _ _ _ z => z) (fun z => z) q fun x v Z1 H1 fx ex g1 dx q => ?_
  have q := PostO.gr q g1
  refine ⟨Z1, ρ, r.gr g1, ?_⟩
  match e1 : l ρ with
  | .ok i =>
    rw [e1] at q
    intro Z2 H2 g2
    have q := PostO.gr q g2
    refine ⟨Z2, ρ, (r.gr g1).gr g2, ?_⟩
    match e2 : h ρ with
    | .ok j =>
      rw [e2] at q
      intro Z3 H3 g3
      have q := PostO.gr q g3
      match e3 : slD x i j with
      | .some d =>
        have q : PostO X.K (He.ga X.K) W Z3 H3 σ (ofO (slD x i j)) Q := q
        rw [e3] at q
        exact op_slD g3.s (g3.den (g2.den dx)) e3 q
      | .none =>
        have q : PostO X.K (He.ga X.K) W Z3 H3 σ (ofO (slD x i j)) Q := q
        rw [e3] at q
        exact q.elim
    | .ex c ns xs => rw [e2] at q; exact q
    | .bad => rw [e2] at q; exact q.elim
  | .ex c ns xs => rw [e1] at q; exact q
  | .bad => rw [e1] at q; exact q.elim
end
end DL
namespace DL
open PySem PySem.Spec PyProof.Rows L2 ClX
variable [Tb]
abbrev MTab := List (Str × (List D → Ou D))
def mtF (t : MTab) : Str → Option (List D → Ou D) := fun c => t.lookup c
abbrev MOk (P : Program) (w : World) (K : PySem.W.Frag) (mg : Str → Option Value) (base : Heap) (k : Nat) (f : Addr) (fd : FuncData) (ps : List Str) (n : Nat) (F : List D → Ou D) : Prop :=
  FnOk P w K mg base (L2.CX P w) k f fd ps (spF K n F) ∧ Binds K fd ps []
section
variable {P : Program} {w : World} {K : PySem.W.Frag} {mg : Str → Option Value} {base : Heap} {j k n : Nat} {c C m : Str} {F : List D → Ou D} {fd : FuncData} {ps : List Str}
def chkSame (c C m : Str) : Chk := fun K => clsB K (He.ga K c) && He.ma K (He.ga K c) m == He.fAd K (C, some m)
structure MtE (P : Program) (w : World) (K : PySem.W.Frag) (mg : Str → Option Value) (base : Heap) (k : Nat) (m : Str) (n : Nat) (c : Str) (F : List D → Ou D) : Prop where
  ok : Cls K (He.ga K c) ∧ ∃ (g : Addr) (fd : FuncData) (ps : List Str), Meth K (He.ga K c) m g ∧ FnOk P w K mg base (L2.CX P w) k g fd ps (spF K n F) ∧ Binds K fd ps []
theorem mtE (h1 : (He.Fa.meth c m).ok K = true) (h2 : chkSame c C m K = true) (ok : MOk P w K mg base j (He.fAd K (C, some m)) fd ps n F) (hk : j ≤ k) : MtE P w K mg base k m n c F := by
  obtain ⟨h3, h4⟩ := band h2
  have e : He.ma K (He.ga K c) m = He.fAd K (C, some m) := beq_iff_eq.mp h4
  exact ⟨clsB_ok h3, He.fAd K (C, some m), fd, ps, e ▸ He.meth_ok h1, ok.1.mono hk, ok.2⟩
theorem Mt.of {t : MTab} (h : ∀ p ∈ t, MtE P w K mg base k m n p.1 p.2) : Mt P w K mg base k m n (mtF t) :=
  ⟨fun c F e => (h (c, F) (PySem.mem_of_lookup e)).ok⟩
theorem mtNil : ∀ p ∈ ([] : MTab), MtE P w K mg base k m n p.1 p.2 := fun _ h => nomatch h
theorem mtCons {t : MTab} (h : MtE P w K mg base k m n c F) (hs : ∀ p ∈ t, MtE P w K mg base k m n p.1 p.2) : ∀ p ∈ (c, F) :: t, MtE P w K mg base k m n p.1 p.2 :=
  List.forall_mem_cons.mpr ⟨h, hs⟩
def chkAny : Chk := fun K => ooV (PySem.W.nsIn K cStatics "thirdparty.any") (some none)
def chkIs (c : Str) : Chk := fun K => PySem.W.isClsIn K (He.ga K c)
def chkFn (C m : Str) : Chk := fun K => opV (PySem.W.typeIn K (.ref (He.fAd K (C, some m)))) (some (.type "function")) && PySem.W.fnIn K (He.fAd K (C, some m))
def chkSup (al : List Str) (Dn m C : Str) : Chk := fun K => al.all fun c => obB (PySem.W.mroIn K (He.ga K c) (.ref (He.ga K Dn))) (some true) && ooV (PySem.W.ks_superIn K (He.ga K c) (He.ga K Dn) m) (some (some (.ref (He.fAd K (C, some m)))))
theorem SupT.of {al : List Str} {Dn : Str} (h0 : chkAny K = true) (h1 : chkFn C m K = true) (h2 : chkSup al Dn m C K = true) (ok : MOk P w K mg base k (He.fAd K (C, some m)) fd ps n F) : SupT P w K mg base k m n Dn al F := by
  obtain ⟨h3, h4⟩ := band h1
  refine ⟨of_decide_eq_true h0, fun c hc => ?_⟩
  obtain ⟨h5, h6⟩ := band (List.all_eq_true.mp h2 c hc)
  exact ⟨of_decide_eq_true h5, He.fAd K (C, some m), fd, ps, of_decide_eq_true h6, of_decide_eq_true h3, h4, ok.1, ok.2⟩
end
end DL
namespace DL
open PySem PySem.Spec PyProof.Rows L2 ClX
variable [Tb]
section
variable {X : Cx} {pins : List (Addr × Obj)} {σ : L2.St} {H : Hp} {s : Shared}
end
def lamYB (scope : Scope) (y : Str) : Bool := decide (scope.kind = .function) && !scope.isCoroutine && !scope.isGenerator && scope.names.all (fun z => !decide (z.2 = .cell) && !decide (z.2 = .free)) && decide (scope.names.lookup y = some .local)
structure LamY (scope : Scope) (y : Str) : Prop where
  kind : scope.kind = .function
  co : scope.isCoroutine = false
  gen : scope.isGenerator = false
  cell : ∀ z ∈ scope.names, z.2 ≠ .cell
  free : ∀ z ∈ scope.names, z.2 ≠ .free
  loc : scope.names.lookup y = some .local
section
variable {M : Model} {A : Around} {c : Code} {E : Value → Shared → Prop} {s : Shared} {env : PySem.Env}
end
def keyOf (j : Nat) : D → Option Int
  | .tup ds => match ds[j]? with
    | some (.int z) => some z
    | _ => none
  | _ => none
def keyZ (j : Nat) (d : D) : Int := (keyOf j d).getD 0
def leKey (j : Nat) (a b : D) : Bool := PySem.W.dataLe false (fun d => PyData.int (keyZ j d)) a b
def sortKeyD (j : Nat) : D → Option D
  | .lst _ xs => if D.fzs xs && (xs.all fun d => (keyOf j d).isSome) && decide (xs.length ≤ LIM) then some (.lst true (xs.mergeSort (leKey j))) else none
  | _ => none
section
variable {K : PySem.W.Frag} {cl : Str → Addr} {Z H : Hp}
theorem Dens.at_ : ∀ {ds : List D} {vs : List V} {fp : Fp} {j : Nat} {d : D}, Dens K cl Z H ds vs fp → ds[j]? = some d → ∃ v f, vs[j]? = some v ∧ Den K cl Z H d v f
  | [], _, _, _, _, _, e => by simp at e
  | x :: ds, vs, fp, 0, d, h, e => by
    obtain ⟨v, vr, f1, f2, e1, e2, q, r⟩ := h.cons'
    have e' : x = d := by simpa using e
    subst e' e1
    exact ⟨v, f1, rfl, q⟩
  | x :: ds, vs, fp, j + 1, d, h, e => by
    obtain ⟨v, vr, f1, f2, e1, e2, q, r⟩ := h.cons'
    subst e1
    obtain ⟨u, f, h1, h2⟩ := Dens.at_ (j := j) r (by simpa using e)
    exact ⟨u, f, by simpa using h1, h2⟩
end
structure KeyR (h : Heap) (j : Nat) (v : Value) (p : V × D) : Prop where
  rel : RelV p.1 v
  tup : ∃ (t : Addr) (its : List Value) (u : Tok), v = .ref t ∧ IsTup h t its.toArray ∧ its[j]? = some (.int (keyZ j p.2) u)
section
variable {X : Cx} {W : WX} {k : Nat} {b : List Stmt} {e : Expr} {f : Env → Ou D}
end
structure LamAt (K : PySem.W.Frag) (mg : Str → Option Value) (base : Heap) (p : Str × Option Str) (nm : Str) : Prop where
  tb : LamX.TabB base mg (He.cT K p).1 (He.cT K p).2
  mem : ((He.cT K p).2, nm) ∈ Tb.t
  uniq : ∀ q ∈ Tb.t, q.1 = (He.cT K p).2 → q.2 = nm
def chkLam (p : Str × Option Str) (nm : Str) : Chk := fun K => lamHere K (p, nm) && (lamP K).all fun q => !((He.cT K q.1).2 == (He.cT K p).2) || decide (q.2 = nm)
theorem LamAt.of {K : PySem.W.Frag} {mg : Str → Option Value} {base : Heap} {p : Str × Option Str} {nm : Str} (hTb : Tb.t = tabsOf K) (TB : TabsB K mg base) (hd : (p, nm) ∈ lamDefs) (c : chkLam p nm K = true) : LamAt K mg base p nm := by
  obtain ⟨c1, c2⟩ := band c
  have hm : (p, nm) ∈ lamP K := List.mem_filter.mpr ⟨hd, c1⟩
  refine ⟨TB _ hm, by rw [hTb]; exact List.mem_map.mpr ⟨_, hm, rfl⟩, fun q hq hq2 => ?_⟩
  rw [hTb] at hq
  obtain ⟨x, hx, rfl⟩ := List.mem_map.mp hq
  have := List.all_eq_true.mp c2 x hx
  rcases Bool.or_eq_true_iff.mp this with h | h
  · have hq2 : (He.cT K x.1).2 = (He.cT K p).2 := hq2
    rw [hq2] at h
    simp at h
  · exact of_decide_eq_true h
end DL
namespace PySem
open PySem.Calls PySem.W PyProof.Rows
section
variable {prog : Program} {w : World} {A : Around} {E : Value → Shared → Prop} {s : Shared}
end
end PySem
namespace DL
open PySem PySem.Spec PyProof.Rows L2 ClX
open PySem.W (dataLt alike)
variable [Tb]
def pyNone : PyData → Bool
  | .none => true
  | _ => false
def rMinD (K : PySem.W.Frag) : List V → Hp → VK → Prop := fun vs H Q => ∃ (v u : V) (x y : PyData), vs = [v, u] ∧ Dp K H v x ∧ Dp K H u y ∧ PySem.W.AlikeAll [x, y] ∧ PyData.depthAll [x, y] ≤ DEP ∧ Q (if dataLt y x then u else v) H
def al2  (x y : D) : Bool := alike x.py y.py && (alike y.py x.py && (alike x.py x.py && (alike y.py y.py && (!pyNone x.py && !pyNone y.py))))
def rMaxD (K : PySem.W.Frag) : List V → Hp → VK → Prop := fun vs H Q => ∃ (v u : V) (x y : PyData), vs = [v, u] ∧ Dp K H v x ∧ Dp K H u y ∧ PySem.W.AlikeAll [x, y] ∧ PyData.depthAll [x, y] ≤ DEP ∧ Q (if dataLt x y then u else v) H
def mnN : List D → Option D
  | [.int i, .int j] => some (.int (if j < i then j else i))
  | [x, y] => if x.okd DEP && y.okd DEP && x.fz && y.fz && al2 x y then some (if dataLt y.py x.py then y else x) else none
  | _ => none
def mxN : List D → Option D
  | [.int i, .int j] => some (.int (if j > i then j else i))
  | [x, y] => if x.okd DEP && y.okd DEP && x.fz && y.fz && al2 x y then some (if dataLt x.py y.py then y else x) else none
  | _ => none
section
variable {K : PySem.W.Frag} {cl : Str → Addr}
end
structure DnD (P : Program) (w : World) (K : PySem.W.Frag) (mg : Str → Option Value) (base : Heap) (k : Nat) (x : Str) (n : Nat) (F : List D → Ou D) (ds : List D) : Prop where
  ex : ∃ (f : Addr) (fd : FuncData) (ps : List Str) (dvs : List V) (vals : List Value), mg x = some (.ref f) ∧ FnOk P w K mg base (L2.CX P w) k f fd ps (spF K n F) ∧ PySem.W.keepIn K (.ref f) = true ∧ Vals dvs vals ∧ Binds K fd ps vals ∧ ∀ Z H, Dens K (He.ga K) Z H ds dvs []
theorem DnD.of {P : Program} {w : World} {K : PySem.W.Frag} {mg : Str → Option Value} {base : Heap} {k n : Nat} {x : Str} {F : List D → Ou D} {ds : List D} {dvs : List V} {f : Addr} {fd : FuncData} {ps : List Str} (hm : mg x = some (.ref f)) (ok : FnOk P w K mg base (L2.CX P w) k f fd ps (spF K n F))
    (kp : PySem.W.keepIn K (.ref f) = true) (hb : ∃ vals, Vals dvs vals ∧ Binds K fd ps vals) (hd : ∀ Z H, Dens K (He.ga K) Z H ds dvs []) : DnD P w K mg base k x n F ds := by
  obtain ⟨vals, h1, h2⟩ := hb
  exact ⟨f, fd, ps, dvs, vals, hm, ok, kp, h1, h2, hd⟩
theorem Dn.ofB {P : Program} {w : World} {K : PySem.W.Frag} {mg : Str → Option Value} {base : Heap} {k n : Nat} {x : Str} {F : List D → Ou D} {f : Addr} {fd : FuncData} {ps : List Str} (hm : mg x = some (.ref f)) (ok : FnOk P w K mg base (L2.CX P w) k f fd ps (spF K n F))
    (kp : PySem.W.keepIn K (.ref f) = true) (hb : ∃ vals, Vals [] vals ∧ Binds K fd ps vals) : Dn P w K mg base k x n F := by
  obtain ⟨vals, h1, h2⟩ := hb
  cases h1
  exact ⟨f, fd, ps, hm, ok, kp, h2⟩
def dCallD (F : List D → Ou D) (ds : List D) (t : Env → Ou (List D)) : Env → Ou D := fun ρ => t ρ >>= fun as => callR F (as ++ ds)
end DL
namespace DL
open PySem PySem.Spec PyProof.Rows L2
variable [Tb]
def isStrD : D → Bool
  | .str _ => true
  | _ => false
def dM1 (op : D → D → Option D) (f g : Env → Ou D) : Env → Ou D := fun ρ => f ρ >>= fun x => if isStrD x then (g ρ >>= fun y => ofO (op x y)) else .bad
section
variable {X : Cx} {W : WX} {a b : Expr} {f g : Env → Ou D} {pos apos : Pos}
theorem DE.m1 {id : String} {name : Str} {r : V → List V → Hp → VK → Prop} {op : D → D → Option D} (slot : Slot "str" name id) (ty : typeOf (.builtin id) = pure (.type "method_descriptor")) (rule : MtR X id r)
    (hk : Op2 X.K (He.ga X.K) (fun x y H Q => r x [y] H Q) op) (ha : DB X W a f) (hb : DB X W b g)
    (hs : starEach [b] X.env = [(false, eval b X.env)] := by rfl) (hbase : attributeBase a name X.env (eval a X.env) = eval a X.env := by rfl) (hline : (apos.endLine == pos.line) = true := by rfl) :
    DE X W (.Call (.Attribute a name apos) [b] [] pos) (dM1 op f g) := by
  refine ⟨PE.weak (pe_m1 slot ty rule ha.run hb.run hs hbase hline) fun σ H Q hq => ?_⟩
  obtain ⟨Z, ρ, r, q⟩ := hq
  refine tV_bind (P := fun Z H o => PostO X.K (He.ga X.K) W Z H σ o Q) r (fun _ _ _ z => z) (fun z => z) q fun x v Z1 H1 fx ex g1 dx q => ?_
  cases x with
  | str s =>
    refine ⟨?_, ?_⟩
    · exact ⟨s, dx.1⟩
    refine tV_bind (P := fun Z H o => PostO X.K (He.ga X.K) W Z H σ o Q) (r.gr g1) (fun _ _ _ z => z) (fun z => z) (q.gr g1) fun y u Z2 H2 fy ey g2 dy q => ?_
    have q := PostO.gr q g2
    match e : op (.str s) y with
    | some d =>
      rw [e] at q
      exact hk Z2 H2 _ y d v u fx fy Q g2.s (g2.den dx) dy e q
    | none => rw [e] at q; exact q.elim
  | _ => exact q.elim
def findD : D → D → Option D
  | .str a, .str b => some (.int (Txt.find a b))
  | _, _ => none
def splitD : D → D → Option D
  | .str a, .str b => if (b.length == 0) == false && decide (a.length + 2 ≤ 1000000) then some (.lst true ((Txt.split a b).map D.str)) else none
  | _, _ => none
end
end DL
namespace DL
open PySem PySem.Spec PyProof.Rows L2
variable [Tb]
def isLstD : D → Bool
  | .lst _ _ => true
  | _ => false
def dML (op : D → D → Option D) (f g : Env → Ou D) : Env → Ou D := fun ρ => f ρ >>= fun x => if isLstD x then (g ρ >>= fun y => ofO (op x y)) else .bad
@[simp] theorem x_dML (op : D → D → Option D) (f g : Env → Ou D) (ρ : Env) : dML op f g ρ = (f ρ >>= fun x => if isLstD x then (g ρ >>= fun y => ofO (op x y)) else .bad) := (rfl)
def fstI (p : PyData → Bool) : List PyData → Option Nat
  | [] => none
  | z :: zs => if p z then some 0 else (fstI p zs).map (· + 1)
theorem fstI_at {p : PyData → Bool} : ∀ {zs : List PyData} {j : Nat}, fstI p zs = some j → (∃ z, zs[j]? = some z ∧ p z = true) ∧ ∀ (m : Nat) (z' : PyData), m < j → zs[m]? = some z' → p z' = false
  | [], j, h => by cases h
  | z :: zs, j, h => by
    unfold fstI at h
    split at h
    · rename_i c
      cases h
      exact ⟨⟨z, rfl, c⟩, fun m z' hm => absurd hm (Nat.not_lt_zero _)⟩
    · rename_i c
      obtain ⟨i, hi, rfl⟩ := Option.map_eq_some_iff.mp h
      obtain ⟨⟨y, h1, h2⟩, h3⟩ := fstI_at hi
      refine ⟨⟨y, by simpa using h1, h2⟩, fun m z' hm hz => ?_⟩
      cases m with
      | zero =>
        have : z = z' := by simpa using hz
        subst this
        exact Bool.eq_false_iff.mpr c
      | succ m => exact h3 m z' (by omega) (by simpa using hz)
def indexD (x y : D) : Option D := match x with
  | .lst _ xs => if y.okd DEP && (D.lst true xs).okd DEP then (fstI (fun z => PyData.eqv z y.py) (D.pys xs)).map fun j => .int (j : Nat) else none
  | _ => none
section
variable {X : Cx} {W : WX} {a b : Expr} {f g : Env → Ou D} {pos apos : Pos}
theorem DE.ml {id : String} {name : Str} {r : V → List V → Hp → VK → Prop} {op : D → D → Option D} (slot : Slot "list" name id) (ty : typeOf (.builtin id) = pure (.type "method_descriptor")) (rule : MtR X id r)
    (hk : Op2 X.K (He.ga X.K) (fun x y H Q => r x [y] H Q) op) (ha : DB X W a f) (hb : DB X W b g)
    (hbase : attributeBase a name X.env (eval a X.env) = eval a X.env := by rfl)
    (hfew : ((backTo pos (starEach [b] X.env)).all (fun x => !x.1) && (backToKw pos (keywordEach [] X.env)).all (fun x => x.1.isSome)
      && decide ([b].length + ([] : List Keyword).length + (if ([] : List Keyword).isEmpty then 0 else 1) < 30)) = true := by rfl)
    (hline : (apos.endLine == pos.line) = true := by rfl) (hst : starEach [b] X.env = (false, eval b X.env) :: starEach [] X.env := by rfl) (hplain : (backTo pos (starEach [] X.env)).any (·.1) = false := by rfl) :
    DE X W (.Call (.Attribute a name apos) [b] [] pos) (dML op f g) := by
  refine ⟨PE.weak (pe_bm PySem.F.plainAttrs_list slot ty rule ha.run (pa_cons hb.run pa_nil hst) hbase hfew hline hst hplain) fun σ H Q hq => ?_⟩
  obtain ⟨Z, ρ, r, q⟩ := hq
  refine tV_bind (P := fun Z H o => PostO X.K (He.ga X.K) W Z H σ o Q) r (fun _ _ _ z => z) (fun z => z) q fun x v Z1 H1 fx ex g1 dx q => ?_
  cases x with
  | lst o xs =>
    obtain ⟨l, vs, _, rfl, hl, _⟩ := dx.lstH g1.s
    refine ⟨.inl ⟨rfl, _, .inl (.inl hl)⟩, ?_⟩
    refine tV_bind (P := fun Z H o => PostO X.K (He.ga X.K) W Z H σ o Q) (r.gr g1) (fun _ _ _ z => z) (fun z => z) (q.gr g1) fun y u Z2 H2 fy ey g2 dy q => ?_
    have q := PostO.gr q g2
    match e : op (.lst o xs) y with
    | some d =>
      rw [e] at q
      exact hk Z2 H2 _ y d _ u fx fy Q g2.s (g2.den dx) dy e q
    | none => rw [e] at q; exact q.elim
  | _ => exact q.elim
end
end DL
namespace DL
open PySem PySem.Spec PyProof.Rows L2 ClX
variable [Tb]
def chkTup (x : Str) (xs : List Str) : Chk := fun K => (He.Fa.glo x).ok K && isTupB K (He.ga K x) (xs.map V.str)
structure GTup (K : PySem.W.Frag) (mg : Str → Option Value) (x : Str) (xs : List Str) : Prop where
  m : mg x = some (.ref (He.ga K x))
  t : isTupB K (He.ga K x) (xs.map V.str) = true
theorem GTup.of {K : PySem.W.Frag} {h : Heap} {mg : Str → Option Value} {x : Str} {xs : List Str} (X : K.In h) (G : h.Ns mainGlobals mg) (c : chkTup x xs K = true) : GTup K mg x xs := by
  obtain ⟨c1, c2⟩ := band c
  exact ⟨He.glo_ok X G c1, c2⟩
def rCountD (K : PySem.W.Frag) : V → List V → Hp → VK → Prop := fun x xs H Q => ∃ (a : Addr) (y : V) (d : PyData) (ds : List PyData), x = V.ref a ∧ xs = [y] ∧ Dp K H (V.ref a) (.list ds) ∧ Dp K H y d ∧
  SeqAt.shaped (.list ds) = true ∧ SeqAt.shaped d = true ∧ Q (.int ((ds.countP fun z => PyData.eqv z d : Nat) : Int)) H
def countD (x y : D) : Option D := match x with
  | .lst _ xs => if y.okd DEP && (D.lst true xs).okd DEP then some (.int (((D.pys xs).countP fun z => PyData.eqv z y.py : Nat) : Int)) else none
  | _ => none
def sTryB (hit : Str → Option Bool) (body : Env → Os) : Env → Os := fun ρ => match body ρ with
  | .ex c ns xs ρ' => match hit c with
    | some false => .ex c ns xs ρ'
    | _ => .bad
  | r => r
section
variable {X : Cx} {W : WX} {k i : Nat} {x n : Str} {cls : Value} {hit : Str → Option Bool} {body suite : List Stmt} {b₀ : Stmt} {np pos pos' : Pos} {gb : Env → Os}
end
def tryBK (hit : Str → Option Bool) : Os → Os
  | .ex c ns xs ρ' => match hit c with
    | some false => .ex c ns xs ρ'
    | _ => .bad
  | r => r
section
variable {ρ : Env} {hit : Str → Option Bool} {body : Env → Os}
@[simp] theorem x_sTryB : sTryB hit body ρ = tryBK hit (body ρ) := by
  unfold sTryB tryBK
  cases body ρ <;> rfl
@[simp] theorem x_tryBK_nx : tryBK hit (.nx ρ) = .nx ρ := (rfl)
@[simp] theorem x_tryBK_rt (d : D) : tryBK hit (.rt d) = .rt d := (rfl)
@[simp] theorem x_tryBK_bk : tryBK hit (.bk ρ) = .bk ρ := (rfl)
@[simp] theorem x_tryBK_ct : tryBK hit (.ct ρ) = .ct ρ := (rfl)
end
end DL
namespace DL
open PySem PySem.Spec PyProof.Rows L2 ClX
variable [Tb]
theorem Ex.mutI {H H' : Hp} {p C dx : Addr} {o : HO} {fs : List (Str × V)} (e : Ex H H') (h : H p = none) (hl : H' p = some (.ins C dx fs)) : Ex H (upd H' p o) := by
  have same : ∀ a, H a ≠ none → upd H' p o a = H' a := fun a ha => upd_ne fun c => ha (by rw [c]; exact h)
  refine ⟨fun a u n hu => (same a (by rw [hu]; exact fun z => nomatch z)).trans (e.at_ a u n hu), fun a ha => by rw [same a ha]; exact e.ne a ha, fun P q m ht => ?_⟩
  obtain ⟨ps, h1, h2, h3⟩ := e.tab P q m ht
  refine ⟨ps, (same P (tabS_ne ht)).trans h1, h2, fun pos cv hc => ?_⟩
  obtain ⟨c, e1, e2⟩ := h3 pos cv hc
  refine ⟨c, e1, ?_⟩
  have cp : c ≠ p := fun z => by
    rw [z, hl] at e2
    cases e2
  exact (upd_ne cp).trans e2
theorem Gr.mutI {Z0 H0 Z H : Hp} {p C dx : Addr} {o : HO} {fs : List (Str × V)} (g : Gr Z0 H0 Z H) (h0 : H0 p = none) (z : Z p = none) (hl : H p = some (.ins C dx fs)) : Gr Z0 H0 Z (upd H p o) :=
  ⟨g.z, g.h.mutI h0 hl, g.s.mutI z hl, g.n⟩
structure StaI (K : PySem.W.Frag) (cl : Str → Addr) (c : Str) (a dx : Addr) (Z0 H0 Z H : Hp) (σ : L2.St) (ρ : DL.Env) (ns : List Str) (ds : List D) : Prop where
  g : Gr Z0 H0 Z H
  t : TabsK K Z
  e : ∃ fp, Slots K cl Z H ρ σ fp ∧ fp.Nodup ∧ a ∉ fp
  za : Z a = none
  h0 : H0 a = none
  s0 : σ[0]? = some (some (.ref a))
  i : ∃ vs, H a = some (.ins (cl c) dx (ns.zip vs)) ∧ Dens K cl Z H ds vs []
  l : ns.length = ds.length
section
variable {K : PySem.W.Frag} {cl : Str → Addr} {c : Str} {a dx : Addr} {Z0 H0 Z H Z' H' : Hp} {σ : L2.St} {ρ : DL.Env} {ns : List Str} {ds : List D}
theorem StaI.rel (s : StaI K cl c a dx Z0 H0 Z H σ ρ ns ds) : RelS K cl Z H σ ρ := let ⟨fp, h, nd, _⟩ := s.e; ⟨s.g.s, s.t, fp, h, nd⟩
theorem StaI.gr (s : StaI K cl c a dx Z0 H0 Z H σ ρ ns ds) (g : Gr Z H Z' H') : StaI K cl c a dx Z0 H0 Z' H' σ ρ ns ds := by
  obtain ⟨fp, h, nd, naf⟩ := s.e
  obtain ⟨vs, i1, i2⟩ := s.i
  refine ⟨s.g.trans g, s.t.ex g.z, ⟨fp, Slots.mono g.z (fun b hb => ?_) h, nd, naf⟩, g.n a (by rw [i1]; exact fun z => nomatch z) s.za, s.h0, s.s0, ⟨vs, g.h.l i1, g.dens i2⟩, s.l⟩
  obtain ⟨z, xs, q⟩ := Slots.own h b hb
  exact ⟨g.n b (by rw [q]; exact Option.some_ne_none _) z, by rw [q]; exact g.h.l q⟩
theorem zip_put {f : Str} {v : V} : ∀ {ns : List Str} {vs : List V}, f ∉ ns → ns.length = vs.length → putF f v (ns.zip vs) = (ns ++ [f]).zip (vs ++ [v])
  | [], [], _, _ => rfl
  | n :: ns, [], _, h => by cases h
  | [], v :: vs, _, h => by cases h
  | n :: ns, u :: vs, hn, h => by
    have h1 : n ≠ f := fun z => hn (by rw [z]; exact List.mem_cons_self)
    show (if n = f then (n, v) :: ns.zip vs else (n, u) :: putF f v (ns.zip vs)) = _
    rw [if_neg h1, zip_put (fun m => hn (List.mem_cons_of_mem _ m)) (Nat.succ.inj h)]
    rfl
theorem StaI.put {f : Str} {d : D} {v : V} {fp : Fp} (s : StaI K cl c a dx Z0 H0 Z H σ ρ ns ds) (g : Gr Z H Z' H') (dn : Den K cl Z' H' d v fp) (nd : fp.Nodup) (fr : ∀ b ∈ fp, H b = none) (hf : f ∉ ns) :
    ∃ fs, H' a = some (.ins (cl c) dx fs) ∧ fs.length = ns.length ∧ StaI K cl c a dx Z0 H0 (frzH Z' H' fp) (upd H' a (.ins (cl c) dx (putF f v fs))) σ ρ (ns ++ [f]) (ds ++ [d.frz]) := by
  obtain ⟨vs, i1, i2⟩ := s.i
  obtain ⟨fq, sl, ndq, naf⟩ := s.e
  have own : ∀ b ∈ fp, Z' b = none := fun b hb => (Den.own d v fp dn b hb).1
  have lo : ∀ b ∈ fp, ∃ xs : Mo, H' b = some xs.o := fun b hb => (Den.own d v fp dn b hb).2
  have g2 := g.frz own fr lo
  have ez := frzH_ex (H := H') own
  have ia : H' a = some (.ins (cl c) dx (ns.zip vs)) := g.h.l i1
  have na : a ∉ fp := fun hm => by
    rw [fr a hm] at i1
    cases i1
  have za : frzH Z' H' fp a = none := (if_neg na).trans (g.n a (by rw [i1]; exact fun z => nomatch z) s.za)
  have lv : ns.length = vs.length := s.l.trans i2.length.symm
  refine ⟨ns.zip vs, ia, by rw [List.length_zip, lv, Nat.min_self], (s.g.trans g2).mutI s.h0 za ia, s.t.ex (g.z.trans ez), ⟨fq, Slots.mono (g.z.trans ez) (fun b hb => ?_) sl, ndq, naf⟩, za, s.h0, s.s0, ⟨vs ++ [v], ?_, ?_⟩, by simp [s.l]⟩
  · obtain ⟨z, xs, q⟩ := Slots.own sl b hb
    have nb : b ∉ fp := fun hm => by
      rw [fr b hm] at q
      cases q
    have ba : b ≠ a := fun e => naf (e ▸ hb)
    exact ⟨(if_neg nb).trans (g.n b (by rw [q]; exact Option.some_ne_none _) z), by rw [upd_ne ba, q]; exact g.h.l q⟩
  · rw [upd_same, zip_put hf lv]
  · refine Dens.append (f := []) (g := []) (Dens.mono (g.z.trans ez) ds vs [] (fun _ z => nomatch z) i2) (Dens.one ?_)
    exact Den.freeze ez d v fp (fun b hb => if_pos hb) dn
end
def PostN (K : PySem.W.Frag) (cl : Str → Addr) (W : WX) (c : Str) (a dx : Addr) (Z0 H0 : Hp) (σ : L2.St) (ρ : DL.Env) (ns : List Str) (ds : List D) (fs : List Str) (o : Ou (List D)) (E : Ends) : Prop := match o with
  | .ok es => ∀ Z H, StaI K cl c a dx Z0 H0 Z H σ ρ (ns ++ fs) (ds ++ es) → E.nx σ H
  | .ex c ns xs => ∀ dc Z H, Gr Z0 H0 Z H → ExD K cl Z H ns xs dc → W (.ref (cl c)) dc σ H
  | .bad => False
structure DSI (X : Cx) (W : WX) (c : Str) (st : List Stmt) (fs : List Str) (t : DL.Env → Ou (List D)) : Prop where
  run : ∀ (a dx : Addr) (Z0 H0 : Hp) (ns : List Str) (ds : List D), (∀ f ∈ fs, f ∉ ns) → ns.length + fs.length < 1000 →
    PSs X st fun E σ H => ∃ Z ρ, StaI X.K (He.ga X.K) c a dx Z0 H0 Z H σ ρ ns ds ∧ PostN X.K (He.ga X.K) W c a dx Z0 H0 σ ρ ns ds fs (t ρ) E
def iNil : DL.Env → Ou (List D) := fun _ => .ok []
def iFld (g : DL.Env → Ou D) (t : DL.Env → Ou (List D)) : DL.Env → Ou (List D) := fun ρ => g ρ >>= fun d => t ρ >>= fun es => .ok (d.frz :: es)
def iDrop (g : DL.Env → Ou D) (t : DL.Env → Ou (List D)) : DL.Env → Ou (List D) := fun ρ => g ρ >>= fun _ => t ρ
@[simp] theorem x_iNil (ρ : DL.Env) : iNil ρ = .ok [] := (rfl)
@[simp] theorem x_iFld (ρ : DL.Env) (g : DL.Env → Ou D) (t : DL.Env → Ou (List D)) : iFld g t ρ = (g ρ >>= fun d => t ρ >>= fun es => .ok (d.frz :: es)) := (rfl)
@[simp] theorem x_iDrop (ρ : DL.Env) (g : DL.Env → Ou D) (t : DL.Env → Ou (List D)) : iDrop g t ρ = (g ρ >>= fun _ => t ρ) := (rfl)
section
variable {X : Cx} {W : WX} {c f sf : Str} {st : List Stmt} {fs : List Str} {g : DL.Env → Ou D} {t : DL.Env → Ou (List D)} {e : Expr} {p1 p2 p3 pos : Pos}
theorem DSI.nil : DSI X W c [] [] iNil := ⟨fun a dx Z0 H0 ns ds _ _ => PSs.weak pss_nil fun E σ H hq => by
  obtain ⟨Z, ρ, s, q⟩ := hq
  have q : ∀ Z H, StaI X.K (He.ga X.K) c a dx Z0 H0 Z H σ ρ (ns ++ []) (ds ++ []) → E.nx σ H := q
  rw [List.append_nil, List.append_nil] at q
  exact q Z H s⟩
theorem DSI.drop (he : DE X W e g) (h : DSI X W c st fs t) (hs : swapsWith e none pos.line X.env = pure false := by rfl) : DSI X W c (.Expr e pos :: st) fs (iDrop g t) := by
  refine ⟨fun a dx Z0 H0 ns ds h1 h2 => PSs.weak (pss_cons (ps_expr he.run hs) (h.run a dx Z0 H0 ns ds h1 h2)) fun E σ H hq => ?_⟩
  obtain ⟨Z, ρ, s, q⟩ := hq
  refine ⟨Z, ρ, s.rel, ?_⟩
  unfold iDrop at q
  cases ec : g ρ with
  | ok d =>
    rw [ec] at q
    exact fun v Z' H' fp g1 dn nd fr => ⟨Z', ρ, s.gr g1, q⟩
  | ex cn ns xs => rw [ec] at q; exact fun dc Z' H' g1 x => q dc Z' H' (s.g.trans g1) x
  | bad => rw [ec] at q; exact q
theorem DSI.fld (hc : Cls X.K (He.ga X.K c)) (hn : NoAttr X.K (He.ga X.K c) f) (he : DE X W e g) (h : DSI X W c st fs t) (hsf : PE X (.Name sf p1) (tVar 0)) (hff : f ∉ fs)
    (hs : swapsWith e (some (.Attribute (.Name sf p1) f p2)) p3.line X.env = pure false := by rfl) : DSI X W c (.Assign [.Attribute (.Name sf p1) f p2] e p3 :: st) (f :: fs) (iFld g t) := by
  refine ⟨fun a dx Z0 H0 ns ds h1 h2 => ?_⟩
  have P : PSs X st fun E σ H => ∃ Z ρ d, StaI X.K (He.ga X.K) c a dx Z0 H0 Z H σ ρ (ns ++ [f]) (ds ++ [d]) ∧ PostN X.K (He.ga X.K) W c a dx Z0 H0 σ ρ (ns ++ [f]) (ds ++ [d]) fs (t ρ) E := by
    refine ⟨fun pins s σ H E I hq => ?_⟩
    obtain ⟨Z, ρ, d, s1, q⟩ := hq
    refine (h.run a dx Z0 H0 (ns ++ [f]) (ds ++ [d]) (fun x hx hm => ?_) (by simp only [List.length_append, List.length_cons, List.length_nil] at h2 ⊢; omega)).run pins s σ H E I ⟨Z, ρ, s1, q⟩
    rcases List.mem_append.mp hm with hm | hm
    · exact h1 x (List.mem_cons_of_mem _ hx) hm
    · exact hff ((List.mem_singleton.mp hm) ▸ hx)
  refine PSs.weak (pss_cons (ps_fld hsf he.run hs) P) ?_
  · intro E σ H hq
    obtain ⟨Z, ρ, s, q⟩ := hq
    refine ⟨Z, ρ, s.rel, ?_⟩
    unfold iFld at q
    cases ec : g ρ with
    | ok d =>
      rw [ec] at q
      intro v Z' H' fp g1 dn nd fr
      obtain ⟨fs', e1, e2, s'⟩ := s.put (f := f) g1 dn nd fr (h1 f List.mem_cons_self)
      refine ⟨.ref a, s.s0, a, He.ga X.K c, dx, fs', rfl, e1, hc, hn, by rw [e2]; simp only [List.length_cons] at h2; omega, frzH Z' H' fp, ρ, d.frz, s', ?_⟩
      have q : PostN X.K (He.ga X.K) W c a dx Z0 H0 σ ρ ns ds (f :: fs) (t ρ >>= fun es => .ok (d.frz :: es)) E := q
      cases et : t ρ with
      | ok es =>
        rw [et] at q
        have q : ∀ Z H, StaI X.K (He.ga X.K) c a dx Z0 H0 Z H σ ρ (ns ++ (f :: fs)) (ds ++ (d.frz :: es)) → E.nx σ H := q
        rw [List.append_cons, List.append_cons ds] at q
        exact q
      | ex cn ms xs => rw [et] at q; exact q
      | bad => rw [et] at q; exact q.elim
    | ex cn ms xs => rw [ec] at q; exact fun dc Z' H' g1 x => q dc Z' H' (s.g.trans g1) x
    | bad => rw [ec] at q; exact q
end
def spI (K : PySem.W.Frag) (c : Str) (n : Nat) (F : List D → Ou D) : Sp := fun vs H Q E => ∃ a dx ws H0, vs = .ref a :: ws ∧ ws.length = n ∧ H = upd (upd H0 dx (.own a)) a (.ins (He.ga K c) dx []) ∧ H0 a = none ∧ H0 dx = none ∧ dx ≠ a ∧ spF K n F ws H0 (fun v H' => v = .ref a → Q .non H') E
def runI (n : Nat) (c : Str) (fs : List Str) (t : DL.Env → Ou (List D)) (ds : List D) : Ou D := t (some (.adr 0) :: (ds.map some ++ List.replicate (n - (ds.length + 1)) none)) >>= fun es => .ok (.ins c fs es)
structure DnI (P : Program) (w : World) (K : PySem.W.Frag) (mg : Str → Option Value) (base : Heap) (k : Nat) (c : Str) (n : Nat) (F : List D → Ou D) : Prop where
  ex : ∃ (f : Addr) (fd : FuncData) (ps : List Str), Mk K (He.ga K c) f ∧ FnOk P w K mg base (L2.CX P w) k f fd ps (spI K c n F) ∧ Binds K fd ps []
def mkB (K : PySem.W.Frag) (C f : Addr) : Bool := PySem.W.makesIn K C && (ooV (PySem.W.findIn K (.ref C) "__init__") (some (some (.ref f))) && (PySem.W.isFn K (.ref f) && PySem.W.keepIn K (.ref C)))
theorem mkB_ok {K : PySem.W.Frag} {C f : Addr} (h : mkB K C f = true) : Mk K C f := by
  obtain ⟨h1, h⟩ := band h
  obtain ⟨h2, h⟩ := band h
  obtain ⟨h3, h4⟩ := band h
  exact ⟨h1, of_decide_eq_true h2, h3, h4⟩
def chkMk (c : Str) (fs : List Str) : Chk := fun K => mkB K (He.ga K c) (He.fAd K (c, some "__init__")) && (clsB K (He.ga K c) && fs.all fun f => ooV (PySem.W.findIn K (.ref (He.ga K c)) f) (some none))
theorem chkMk_mk {K : PySem.W.Frag} {c : Str} {fs : List Str} (h : chkMk c fs K = true) : Mk K (He.ga K c) (He.fAd K (c, some "__init__")) := mkB_ok (band h).1
theorem chkMk_cls {K : PySem.W.Frag} {c : Str} {fs : List Str} (h : chkMk c fs K = true) : Cls K (He.ga K c) := clsB_ok (band (band h).2).1
theorem chkMk_no {K : PySem.W.Frag} {c : Str} {fs : List Str} (h : chkMk c fs K = true) {f : Str} (hf : f ∈ fs) : NoAttr K (He.ga K c) f := show PySem.W.findIn K (.ref (He.ga K c)) f = some none from of_decide_eq_true (List.all_eq_true.mp (band (band h).2).2 f hf)
theorem DnI.of {P : Program} {w : World} {K : PySem.W.Frag} {mg : Str → Option Value} {base : Heap} {k n : Nat} {c : Str} {F : List D → Ou D} {fd : FuncData} {ps fs : List Str} (h : chkMk c fs K = true) (ok : FnOk P w K mg base (L2.CX P w) k (He.fAd K (c, some "__init__")) fd ps (spI K c n F)) (hb : Binds K fd ps []) : DnI P w K mg base k c n F :=
  ⟨_, fd, ps, chkMk_mk h, ok, hb⟩
section
variable {X : Cx} {CX : CXT} {k : Nat} {f C : Addr} {fd : FuncData} {ps : List Str} {sp : Sp} {E : XK} {dvs : List V} {ds : List Value}
theorem run_makeS {pins : List (Addr × Obj)} {σ : L2.St} {H : Hp} {s : Shared} {Q : VK} {us : List Value} {vs : List V} (M : Mk X.K C f) (F : FnOk X.prog X.w X.K X.mg X.base CX k f fd ps sp) (hr : Room (k + 1) X.A) (hb : Binds X.K fd ps ds) (hd : Vals dvs ds)
    (hx : PassesAt CX X σ E) (I : Inv X pins σ H s) (r : Vals vs us)
    (h : ∀ x dx, H x = none → H dx = none → dx ≠ x → sp (.ref x :: (vs ++ dvs)) (upd (upd H dx (.own x)) x (.ins C dx [])) (fun v H2 => v = .non ∧ Q (.ref x) H2) E) :
    wpAny (model X.prog X.w) X.A (call (.ref C) us) (EP X pins σ Q) X.xe s := by
  have hq := h (s.heap.objs.size + 1) s.heap.objs.size (I.hok.fresh (Nat.le_succ _)) (I.hok.fresh (Nat.le_refl _)) (Nat.ne_of_lt (Nat.lt_succ_self _))
  have I2 := Inv.made (C := C) I
  have r2 : Vals (V.ref (s.heap.objs.size + 1) :: (vs ++ dvs)) (Value.ref (s.heap.objs.size + 1) :: (us ++ ds)) := .cons rfl (r.append hd)
  have hl : (Value.ref (s.heap.objs.size + 1) :: us ++ ds).length = ps.length := by
    have e := r2.length
    rw [F.len _ _ _ _ hq] at e
    exact e.symm
  refine wpAny_call (make_map (f := f) I.kIn M.makes M.init (beq_iff_eq.mp M.fn) (codeAny_mono (F.run _ X.stack _ _ ⟨Value.ref (s.heap.objs.size + 1) :: us, []⟩ (Value.ref (s.heap.objs.size + 1) :: (us ++ ds)) _ _ E (hr.make C us [])
    (I2.env0.make C us []) (hb _ (Value.ref (s.heap.objs.size + 1) :: us) I2.kIn hl) r2 hq) fun r s' hq' => ?_))
  cases r with
  | error e => exact hx pins _ _ e s' I2 hq'
  | ok fl =>
    cases fl with
    | ret u =>
      obtain ⟨v, H', I3, rv, ev, q3⟩ := I2.after hq'
      subst ev
      exact ⟨rv, ⟨V.ref (s.heap.objs.size + 1), H', I3, rfl, q3⟩⟩
    | next => exact False.elim hq'
    | brk => exact False.elim hq'
    | cont => exact False.elim hq'
end
theorem spF.mono {K : PySem.W.Frag} {n : Nat} {F : List D → Ou D} {vs : List V} {H : Hp} {Q Q' : VK} {E : XK} (k : ∀ v H', Q v H' → Q' v H') (h : spF K n F vs H Q E) : spF K n F vs H Q' E := by
  obtain ⟨hl, Z, ds, ez, tk, dn, q⟩ := h
  refine ⟨hl, Z, ds, ez, tk, dn, ?_⟩
  cases e : F ds with
  | ok d => rw [e] at q; exact fun v Z' H' fp g h nd fr => k v H' (q v Z' H' fp g h nd fr)
  | ex c ns xs => rw [e] at q; exact q
  | bad => rw [e] at q; exact q.elim
section
variable {X : Cx} {W : WX} {k j n : Nat} {e o : Expr} {es : List Expr} {t : DL.Env → Ou (List D)} {pos p apos : Pos} {x m fl : Str} {F : List D → Ou D} {f : DL.Env → Ou D}
theorem DE.make (C : Ctx X W k) (G : DnI X.prog X.w X.K X.mg X.base j x n F) (hm : X.mg x = some (.ref (He.ga X.K x))) (ha : DAB X W (e :: es) t) (hk : j + 1 ≤ k := by decide) (hn : ((e :: es).length == n) = true := by rfl) (hg : Gl X x := by rfl)
    (hdb : (x == ("__debug__" : Str)) = false := by decide) (he : starEach (e :: es) X.env = (false, eval e X.env) :: starEach es X.env := by rfl) (hpl : (backTo pos (starEach es X.env)).any (·.1) = false := by rfl) : DE X W (.Call (.Name x p) (e :: es) [] pos) (dCall F t) := by
  obtain ⟨f, fd, ps, M, ok, hb⟩ := G.ex
  refine ⟨⟨fun pins s σ H Q I hq => ?_⟩⟩
  obtain ⟨Z, ρ, r, q⟩ := hq
  refine wpAny_Call_Name_kw (ld_glob I hg hm ?_ hdb)
  refine PySem.W.callWith_K (h₀ := X.base) I.ok.mod.kin M.kp (thn (ha.run.run pos pins s σ H (fun vs H1 => vs.length = n ∧ spF X.K n F vs H1 Q (WE W σ)) I ?_) fun us s1 ⟨vs, H1, I1, r, hl, q⟩ => ⟨I1.kIn, ?_⟩) he hpl
  · refine tVs_bind (P := fun Z H o => PostO X.K (He.ga X.K) W Z H σ o Q) r (fun _ _ _ z => z) (fun z => z) q fun ds vs Z1 H1 fp ex g1 dn q => ?_
    have hl : vs.length = n := by
      rw [dn.length, ha.len ρ ds ex]
      exact beq_iff_eq.mp hn
    exact ⟨hl, spF_of g1.s (r.t.ex g1.z) dn hl (PostO.gr q g1)⟩
  · refine run_makeS (dvs := []) (ds := []) M ok (C.hr.mono hk) hb .nil (passAt C.tk σ) I1 r fun x dx hx hdx ne => ?_
    rw [List.append_nil]
    exact ⟨x, dx, vs, H1, rfl, hl, rfl, hx, hdx, ne, spF.mono (fun v H' qv ev => ⟨rfl, ev ▸ qv⟩) q⟩
def FldOk (K : PySem.W.Frag) (f : Str) (al : List Str) : Prop := ∀ c ∈ al, Cls K (He.ga K c) ∧ NoAttr K (He.ga K c) f
def fldD (f : Str) (al : List Str) : D → Option D
  | .ins c ns xs => if al.contains c then (ns.zip xs).lookup f else none
  | _ => none
theorem Dens.look {K : PySem.W.Frag} {cl : Str → Addr} {Z H : Hp} {f : Str} {d : D} : ∀ {ns : List Str} {ds : List D} {vs : List V}, Dens K cl Z H ds vs [] → (ns.zip ds).lookup f = some d → ∃ v, (ns.zip vs).lookup f = some v ∧ Den K cl Z H d v []
  | [], ds, vs, _, e => by simp at e
  | n :: ns, [], vs, _, e => by simp at e
  | n :: ns, x :: ds, vs, h, e => by
    obtain ⟨v, vr, f1, f2, e1, e2, q, r⟩ := h.cons'
    have e2' : f1 ++ f2 = [] := e2.symm
    obtain ⟨rfl, rfl⟩ := List.append_eq_nil_iff.mp e2'
    subst e1
    rw [List.zip_cons_cons, List.lookup_cons] at e ⊢
    cases c : f == n with
    | true =>
      rw [c] at e
      have e : some x = some d := e
      cases e
      exact ⟨v, rfl, q⟩
    | false =>
      rw [c] at e
      exact Dens.look r e
theorem DB.fld {al : List Str} (T : FldOk X.K fl al) (he : DB X W e f) (hb : attributeBase e fl X.env (eval e X.env) = eval e X.env := by rfl) : DB X W (.Attribute e fl pos) (d1 (fldD fl al) f) := by
  refine ⟨PE.weak (pe_fld he.run hb) fun σ H Q hq => ?_⟩
  obtain ⟨Z, ρ, r, q⟩ := hq
  refine tV_bind (P := fun Z H o => PostOB X.K (He.ga X.K) W Z H σ o Q) r (fun _ _ _ z => z) (fun z => z) q fun x v Z1 H1 fx ex g1 dx q => ?_
  have q := PostOB.gr q g1
  cases x with
  | ins c ns xs =>
    have q : PostOB X.K (He.ga X.K) W Z1 H1 σ (ofO (if al.contains c then (ns.zip xs).lookup fl else none)) Q := q
    split at q
    · rename_i hc
      match e : (ns.zip xs).lookup fl with
      | some d =>
        rw [e] at q
        obtain ⟨h1, h2⟩ := T c (by simpa using hc)
        simp only [Den] at dx
        obtain ⟨a, dxa, vs, e1, e2, z, l, ds⟩ := dx
        obtain ⟨u, l2, dn⟩ := Dens.look ds e
        exact ⟨a, He.ga X.K c, dxa, _, u, e1, g1.s.l z, h1, h2, l2, q u Z1 H1 [] (Gr.refl g1.s) dn⟩
      | none => rw [e] at q; exact q.elim
    · exact q.elim
  | _ => exact q.elim
theorem DE.meth0 {tb : Str → Option (List D → Ou D)} {pl : Sem Bool} (C : Ctx X W k) (G : Mt X.prog X.w X.K X.mg X.base j m 1 tb) (ho : DB X W o f) (hk : j ≤ k := by decide)
    (ht : eval (.Call (.Attribute o m apos) [] [] pos) X.env = (do
      let ov ← eval o X.env
      standAt apos.atName
      let (f, first) ← holding [ov] (getMethod ov m pl)
      callWith pos f first (backTo pos (starEach [] X.env)) (backToKw pos (keywordEach [] X.env))) := by rfl) :
    DE X W (.Call (.Attribute o m apos) [] [] pos) (dMeth m tb f aNil) := by
  refine ⟨⟨fun pins s σ H Q I hq => ?_⟩⟩
  refine methcall_of (pl := pl) ho.run I ?_ ht
  obtain ⟨Z, ρ, r, q⟩ := hq
  refine tV_bind (P := fun Z H o => PostO X.K (He.ga X.K) W Z H σ o Q) r (fun _ _ _ z => z) (fun z => z) q fun d v Z1 H1 fx ex g1 dx q => ?_
  have q := PostO.gr q g1
  cases em : methF m tb d with
  | bad => rw [em] at q; exact q.elim
  | ex c ns xs => exact absurd em methF_nex
  | ok F =>
    rw [em] at q
    have q3 : PostO X.K (He.ga X.K) W Z1 H1 σ (F []) Q := q
    obtain ⟨c, ns, xs, G1, ed, hnc, etb, eF⟩ := methF_inv em
    subst ed
    obtain ⟨hc, g, fd, ps, hm, ok, hb⟩ := G.ok c G1 etb
    have dx0 := dx
    simp only [Den] at dx
    obtain ⟨a, dxa, vs, e1, e2, z, l, ds⟩ := dx
    subst e1 e2
    refine ⟨a, He.ga X.K c, dxa, _, g, rfl, g1.s.l z, hc, hm, zip_nolook hnc, fun s1 I1 => ?_⟩
    refine PySem.W.callWith_K0 (first := [.ref a]) I1.kIn hm.kp ?_
    have r1 : RelS X.K (He.ga X.K) Z1 H1 σ ρ := r.gr g1
    subst eF
    have dn2 : Dens X.K (He.ga X.K) Z1 H1 [.ins c ns xs] [.ref a] [] := Dens.one dx0
    exact run_fnS (E := fun σ => WE W σ) (us := [.ref a]) (vs := [.ref a]) ok (C.hr.mono hk) hb (passAt C.tk σ) I1 (.cons rfl .nil) (spF_of g1.s r1.t dn2 rfl q3)
end
end DL
namespace DL
open PySem PySem.Spec PyProof.Rows L2 ClX
variable [Tb]
structure DKB (X : Cx) (W : WX) (kws : List Keyword) (f : DL.Env → Ou (List D)) : Prop where
  run : PK X kws (tVs X.K (He.ga X.K) W f)
  len : ∀ ρ ds, f ρ = .ok ds → ds.length = kws.length
section
variable {X : Cx} {W : WX} {kws : List Keyword} {e : Expr} {f : DL.Env → Ou D} {t : DL.Env → Ou (List D)} {nm : Option Str} {kpos : Pos}
theorem DKB.nil : DKB X W [] aNil := ⟨⟨fun pos pins s σ H Q I hq => by
  obtain ⟨Z, ρ, r, q⟩ := hq
  exact pk_nil.run pos pins s σ H Q I (q [] Z H [] (Gr.refl r.s) ⟨rfl, rfl⟩)⟩, fun ρ ds e => by cases e; rfl⟩
theorem DKB.cons (h : DB X W e f) (hr : DKB X W kws t) : DKB X W (⟨nm, e, kpos⟩ :: kws) (aCons f t) := by
  refine ⟨⟨fun pos pins s σ H Q I hq => (pk_cons h.run hr.run).run pos pins s σ H Q I ?_⟩, fun ρ ds e => ?_⟩
  rotate_left
  · unfold aCons at e
    cases e1 : f ρ with
    | ok x =>
      rw [e1] at e
      cases e2 : t ρ with
      | ok xs =>
        have e : (t ρ >>= fun xs => Ou.ok (x :: xs)) = .ok ds := e
        rw [e2] at e
        cases e
        exact congrArg (· + 1) (hr.len ρ xs e2)
      | ex c ns xs =>
        have e : (t ρ >>= fun xs => Ou.ok (x :: xs)) = .ok ds := e
        rw [e2] at e
        cases e
      | bad =>
        have e : (t ρ >>= fun xs => Ou.ok (x :: xs)) = .ok ds := e
        rw [e2] at e
        cases e
    | ex c ns xs => rw [e1] at e; cases e
    | bad => rw [e1] at e; cases e
  obtain ⟨Z, ρ, r, q⟩ := hq
  refine tV_bind (P := fun Z H o => PostAB X.K (He.ga X.K) W Z H σ o Q) r (fun _ _ _ z => z) (fun z => z) q fun x v Z1 H1 fx ex g1 dx q => ?_
  refine ⟨Z1, ρ, r.gr g1, ?_⟩
  match e : t ρ with
  | .ok ds =>
    rw [e] at q
    intro vs Z2 H2 fp g2 dn
    exact q (v :: vs) Z2 H2 (fx ++ fp) (g1.trans g2) (Dens.cons (g2.den dx) dn)
  | .ex c ns xs => rw [e] at q; exact fun dc Z2 H2 g2 x => q dc Z2 H2 (g1.trans g2) x
  | .bad => rw [e] at q; exact q.elim
end
structure DnK (P : Program) (w : World) (K : PySem.W.Frag) (mg : Str → Option Value) (base : Heap) (k : Nat) (x : Str) (np : Nat) (ks : List Str) (ds : List D) (F : List D → Ou D) : Prop where
  ex : ∃ (f : Addr) (fd : FuncData) (ps : List Str) (dvs : List V) (g : List Value → List Value → List Value), mg x = some (.ref f) ∧ FnOk P w K mg base (L2.CX P w) k f fd ps (spF K (np + (ks.length + ds.length)) F) ∧ PySem.W.keepIn K (.ref f) = true ∧
    KBn K fd ps np ks g (fun vs zs => vs ++ (zs ++ dvs)) ∧ ∀ Z H, Dens K (He.ga K) Z H ds dvs []
theorem DnK.of {P : Program} {w : World} {K : PySem.W.Frag} {mg : Str → Option Value} {base : Heap} {k np n : Nat} {x : Str} {ks : List Str} {F : List D → Ou D} {ds : List D} {f : Addr} {fd : FuncData} {ps : List Str} {ms : List (Str × V)}
    (hm : mg x = some (.ref f)) (ok : FnOk P w K mg base (L2.CX P w) k f fd ps (spF K n F)) (kp : PySem.W.keepIn K (.ref f) = true)
    (hb : ∃ mv : List Value, KBn K fd ps np ks (fun us ws => us ++ (ws ++ mv)) (fun vs zs => vs ++ (zs ++ ms.map (·.2)))) (hd : ∀ Z H, Dens K (He.ga K) Z H ds (ms.map (·.2)) []) (hn : np + (ks.length + ds.length) = n) : DnK P w K mg base k x np ks ds F := by
  obtain ⟨mv, h⟩ := hb
  subst hn
  exact ⟨f, fd, ps, ms.map (·.2), _, hm, ok, kp, h, hd⟩
def dCallK (F : List D → Ou D) (ds : List D) (t tk : DL.Env → Ou (List D)) : DL.Env → Ou D := fun ρ => t ρ >>= fun as => tk ρ >>= fun bs => callR F (as ++ (bs ++ ds))
@[simp] theorem x_dCallK (ρ : DL.Env) (F : List D → Ou D) (ds : List D) (t tk : DL.Env → Ou (List D)) : dCallK F ds t tk ρ = (t ρ >>= fun as => tk ρ >>= fun bs => callR F (as ++ (bs ++ ds))) := (rfl)
section
variable {X : Cx} {CX : CXT} {k n : Nat} {f : Addr} {fd : FuncData} {ps ks : List Str} {sp : Sp} {E : XK} {x : Str} {g : List Value → List Value → List Value} {gV : List V → List V → List V}
theorem run_fnNS {pins : List (Addr × Obj)} {σ : L2.St} {H : Hp} {s : Shared} {Q : VK} {us ws : List Value} {vs zs : List V} (F : FnOk X.prog X.w X.K X.mg X.base CX k f fd ps sp) (hr : Room k X.A) (hb : KBn X.K fd ps n ks g gV) (hx : PassesAt CX X σ E)
    (I : Inv X pins σ H s) (r : Vals vs us) (rz : Vals zs ws) (l1 : vs.length = n) (l2 : zs.length = ks.length) (h : sp (gV vs zs) H Q E) : wpAny (model X.prog X.w) X.A (call (.ref f) us (ks.zip ws)) (EP X pins σ Q) X.xe s := by
  have r2 := hb.rel r rz
  refine wpAny_call (codeAny_mono (F.run X.A X.stack s H ⟨us, ks.zip ws⟩ (g us ws) (gV vs zs) Q E hr I.env0 (hb.to s us ws I.kIn (r.length.symm.trans l1) (rz.length.symm.trans l2)) r2 h) fun r s' hq => ?_)
  cases r with
  | error e => exact hx pins H s e s' I hq
  | ok fl =>
    cases fl with
    | ret u => exact I.after hq
    | next => exact False.elim hq
    | brk => exact False.elim hq
    | cont => exact False.elim hq
end
section
variable {X : Cx} {W : WX} {k j np : Nat} {e : Expr} {es : List Expr} {kws : List Keyword} {t tk : DL.Env → Ou (List D)} {pos p : Pos} {x : Str} {F : List D → Ou D} {ks : List Str} {ds : List D}
theorem DE.callK (C : Ctx X W k) (G : DnK X.prog X.w X.K X.mg X.base j x np ks ds F) (ha : DAB X W (e :: es) t) (hkw : DKB X W kws tk) (hk : j ≤ k := by decide) (hn : ((e :: es).length == np) = true := by rfl) (hnk : (kws.length == ks.length) = true := by rfl) (hg : Gl X x := by rfl)
    (hall : (backToKw pos (keywordEach kws X.env)).all (·.1.isSome) = true := by rfl) (hks : (backToKw pos (keywordEach kws X.env)).filterMap (·.1) = ks := by rfl)
    (hdb : (x == ("__debug__" : Str)) = false := by decide) (he : starEach (e :: es) X.env = (false, eval e X.env) :: starEach es X.env := by rfl)
    (hpl : ((backTo pos (starEach (e :: es) X.env)).any (·.1) || (backToKw pos (keywordEach kws X.env)).any (·.1.isNone)) = false := by rfl) : DE X W (.Call (.Name x p) (e :: es) kws pos) (dCallK F ds t tk) := by
  obtain ⟨f, fd, ps, dvs, g, hm, ok, kp, hb, hd⟩ := G.ex
  refine ⟨⟨fun pins s σ H Q I hq => ?_⟩⟩
  obtain ⟨Z, ρ, r, q⟩ := hq
  refine wpAny_Call_Name_kw (ld_glob I hg hm ?_ hdb)
  refine PySem.W.callWith_KW (h₀ := X.base) I.ok.mod.kin kp hall (thn (ha.run.run pos pins s σ H (fun vs H1 => ∃ as Z1 f1, RelS X.K (He.ga X.K) Z1 H1 σ ρ ∧ Dens X.K (He.ga X.K) Z1 H1 as vs f1 ∧ as.length = np ∧ PostO X.K (He.ga X.K) W Z1 H1 σ (tk ρ >>= fun bs => callR F (as ++ (bs ++ ds))) Q) I ?_) fun us s1 ⟨vs, H1, I1, r1, as, Z1, f1, rs1, dn1, l1, q1⟩ => ?_) hpl he
  · refine tVs_bind (P := fun Z H o => PostO X.K (He.ga X.K) W Z H σ o Q) r (fun _ _ _ z => z) (fun z => z) q fun as vs Z1 H1 fp ex g1 dn q => ?_
    exact ⟨as, Z1, fp, r.gr g1, dn, (ha.len ρ as ex).trans (beq_iff_eq.mp hn), PostO.gr q g1⟩
  refine thn (hkw.run.run pos pins s1 σ H1 (fun zs H2 => zs.length = ks.length ∧ spF X.K (np + (ks.length + ds.length)) F (vs ++ (zs ++ dvs)) H2 Q (WE W σ)) I1 ?_) fun ws s2 ⟨zs, H2, I2, rz, l2, q2⟩ => ⟨I2.kIn, ?_⟩
  · refine tVs_bind (P := fun Z H o => PostO X.K (He.ga X.K) W Z H σ o Q) rs1 (fun _ _ _ z => z) (fun z => z) q1 fun bs zs Z2 H2 fp ex g2 dn2 q2 => ?_
    have lb : bs.length = ks.length := (hkw.len ρ bs ex).trans (beq_iff_eq.mp hnk)
    have dn3 : Dens X.K (He.ga X.K) Z2 H2 (as ++ (bs ++ ds)) (vs ++ (zs ++ dvs)) (f1 ++ (fp ++ [])) := (g2.dens dn1).append (dn2.append (hd Z2 H2))
    refine ⟨dn2.length.trans lb, spF_of g2.s ((rs1.gr g2).t) dn3 ?_ (PostO.gr q2 g2)⟩
    rw [dn3.length, List.length_append, List.length_append, l1, lb]
  · rw [hks]
    exact run_fnNS ok (C.hr.mono hk) hb (passAt C.tk σ) I2 r1 rz (dn1.length.trans l1) l2 q2
end
end DL
namespace DL
open PySem PySem.Spec PyProof.Rows L2 ClX
variable [Tb]
section
variable {X : Cx} {W : WX} {x : Str} {p : Pos}
end
def isCls (c : Str) : D → Bool
  | .cls c' => c' == c
  | _ => false
def isIns (c : Str) : D → Bool
  | .ins c' _ _ => c' == c
  | _ => false
@[simp] theorem x_isCls (c c' : Str) : isCls c (.cls c') = (c' == c) := (rfl)
@[simp] theorem x_isIns (c c' : Str) (ns : List Str) (xs : List D) : isIns c (.ins c' ns xs) = (c' == c) := (rfl)
theorem isIns_inv {c : Str} {d : D} (h : isIns c d = true) : ∃ ns xs, d = .ins c ns xs := by
  unfold isIns at h
  split at h
  · rw [beq_iff_eq.mp h]
    exact ⟨_, _, rfl⟩
  · cases h
def dMkV (c : Str) (F : List D → Ou D) (f : DL.Env → Ou D) (t : DL.Env → Ou (List D)) : DL.Env → Ou D := fun ρ => f ρ >>= fun d => if isCls c d = true then t ρ >>= fun as => callR F as else .bad
@[simp] theorem x_dMkV (ρ : DL.Env) (c : Str) (F : List D → Ou D) (f : DL.Env → Ou D) (t : DL.Env → Ou (List D)) : dMkV c F f t ρ = (f ρ >>= fun d => if isCls c d = true then t ρ >>= fun as => callR F as else .bad) := (rfl)
structure CmK (P : Program) (w : World) (K : PySem.W.Frag) (mg : Str → Option Value) (base : Heap) (k : Nat) (c m : Str) (np : Nat) (ks : List Str) (ds : List D) (F : List D → Ou D) : Prop where
  ex : ∃ (mc : Value) (p g : Addr) (fd : FuncData) (ps : List Str) (dvs : List V) (gB : List Value → List Value → List Value), CRead K (He.ga K c) mc ∧ CMet K (He.ga K c) mc m p g ∧
    FnOk P w K mg base (L2.CX P w) k g fd ps (spF K (np + 1 + (ks.length + ds.length)) F) ∧ KBn K fd ps (np + 1) ks gB (fun vs zs => vs ++ (zs ++ dvs)) ∧ ∀ Z H, Dens K (He.ga K) Z H ds dvs []
theorem KBn.plain {K : PySem.W.Frag} {fd : FuncData} {ps : List Str} {n : Nat} (hb : Binds K fd ps []) (hn : n = ps.length) : KBn K fd ps n [] (fun us ws => us ++ (ws ++ [])) (fun vs zs => vs ++ (zs ++ [])) := by
  refine ⟨fun s us ws X l1 l2 => ?_, fun h1 h2 => h1.append (h2.append .nil)⟩
  cases ws with
  | nil =>
    have := hb s us X (by rw [List.append_nil, l1, hn])
    simpa using this
  | cons w ws => cases l2
def dCm (c : Str) (F : List D → Ou D) (ds : List D) (f : DL.Env → Ou D) (t tk : DL.Env → Ou (List D)) : DL.Env → Ou D := fun ρ => f ρ >>= fun d => if isCls c d = true then t ρ >>= fun as => tk ρ >>= fun bs => callR F (.cls c :: (as ++ (bs ++ ds))) else .bad
@[simp] theorem x_dCm (ρ : DL.Env) (c : Str) (F : List D → Ou D) (ds : List D) (f : DL.Env → Ou D) (t tk : DL.Env → Ou (List D)) : dCm c F ds f t tk ρ = (f ρ >>= fun d => if isCls c d = true then t ρ >>= fun as => tk ρ >>= fun bs => callR F (.cls c :: (as ++ (bs ++ ds))) else .bad) := (rfl)
section
variable {X : Cx} {CX : CXT} {k n : Nat} {g q C : Addr} {fd : FuncData} {ps ks : List Str} {sp : Sp} {E : XK} {gB : List Value → List Value → List Value} {gV : List V → List V → List V}
end
section
variable {X : Cx} {W : WX} {k j np : Nat} {o e : Expr} {es : List Expr} {kws : List Keyword} {f : DL.Env → Ou D} {t tk : DL.Env → Ou (List D)} {pos apos p : Pos} {c m : Str} {F : List D → Ou D} {ks : List Str} {ds : List D} {pl : Sem Bool}
end
section
variable {X : Cx} {W : WX} {k j n : Nat} {e o : Expr} {es : List Expr} {t : DL.Env → Ou (List D)} {f : DL.Env → Ou D} {pos p apos : Pos} {x c fl : Str} {F : List D → Ou D}
end
structure PrK (P : Program) (w : World) (K : PySem.W.Frag) (mg : Str → Option Value) (base : Heap) (k : Nat) (c f : Str) (F : List D → Ou D) : Prop where
  ex : ∃ (p g : Addr) (fd : FuncData) (ps : List Str), Cls K (He.ga K c) ∧ PropOf K (He.ga K c) f p g ∧ FnOk P w K mg base (L2.CX P w) k g fd ps (spF K 1 F) ∧ Binds K fd ps []
def noEx : Ou D → Ou D
  | .ex _ _ _ => .bad
  | o => o
@[simp] theorem x_noEx_ok (d : D) : noEx (.ok d) = .ok d := (rfl)
def dProp (c : Str) (F : List D → Ou D) (f : DL.Env → Ou D) : DL.Env → Ou D := fun ρ => f ρ >>= fun d => if isIns c d = true then noEx (callR F [d]) else .bad
@[simp] theorem x_dProp (ρ : DL.Env) (c : Str) (F : List D → Ou D) (f : DL.Env → Ou D) : dProp c F f ρ = (f ρ >>= fun d => if isIns c d = true then noEx (callR F [d]) else .bad) := (rfl)
theorem postO_noEx {K : PySem.W.Frag} {cl : Str → Addr} {W : WX} {Z H : Hp} {σ : L2.St} {o : Ou D} {Q : VK} (h : PostO K cl W Z H σ (noEx o) Q) : PostO K cl W0 Z H σ o Q := by
  cases o with
  | ok d => exact h
  | ex c ns xs => exact h.elim
  | bad => exact h
theorem noErr {X : Cx} {σ : L2.St} : Passes (L2.CX X.prog X.w) X (WE W0 σ) := fun _ _ _ _ _ _ _ h => let ⟨_, _, _, _, _, _, _, _, _, _, _, _, e⟩ := h; e.elim
theorem noErrN {X : Cx} {σ : L2.St} : Passes (L2.CX X.prog X.w) X.nox (WE W0 σ) := fun _ _ _ _ _ _ _ h => let ⟨_, _, _, _, _, _, _, _, _, _, _, _, e⟩ := h; e.elim
def InsF (K : PySem.W.Frag) (c : Str) (F : List D → Ou D) (v : V) (H : Hp) (Q : VK) (E : XK) : Prop := ∃ a dx fs, v = .ref a ∧ H a = some (.ins (He.ga K c) dx fs) ∧ spF K 1 F [.ref a] H Q E
theorem insF_of {K : PySem.W.Frag} {c : Str} {F : List D → Ou D} {Z H : Hp} {d : D} {v : V} {fp : Fp} {σ : L2.St} {Q : VK} {W : WX} (s : Ex Z H) (tk : TabsK K Z) (dx : Den K (He.ga K) Z H d v fp) (q : PostO K (He.ga K) W Z H σ (if isIns c d = true then callR F [d] else .bad) Q) : InsF K c F v H Q (WE W σ) := by
  by_cases hc : isIns c d = true
  · rw [if_pos hc] at q
    obtain ⟨ns, xs, e⟩ := isIns_inv hc
    subst e
    have dx0 := dx
    simp only [Den] at dx
    obtain ⟨a, dxa, vs, e1, e2, z, l, ds⟩ := dx
    subst e1 e2
    exact ⟨a, dxa, _, rfl, s.l z, spF_of s tk (Dens.one dx0) rfl q⟩
  · rw [if_neg hc] at q
    exact q.elim
theorem ite_noEx {b : Bool} {o : Ou D} : (if b = true then noEx o else Ou.bad) = noEx (if b = true then o else .bad) := by cases b <;> rfl
section
variable {X : Cx} {W : WX} {k j n : Nat} {e o a b : Expr} {f g : DL.Env → Ou D} {pos p apos : Pos} {x c fl : Str} {F : List D → Ou D}
theorem DE.prop (C : Ctx X W k) (G : PrK X.prog X.w X.K X.mg X.base j c fl F) (he : DB X W e f) (hk : j + 1 ≤ k := by decide) (hb : attributeBase e fl X.env (eval e X.env) = eval e X.env := by rfl) : DE X W (.Attribute e fl pos) (dProp c F f) := by
  obtain ⟨p, g, fd, ps, cl, pr, ok, hbn⟩ := G.ex
  refine ⟨⟨fun pins s σ H Q I hq => ?_⟩⟩
  refine attr_of hb (thn (he.run.run pins s σ H (fun v H1 => InsF X.K c F v H1 Q (WE W0 σ)) I ?_) fun u s1 ⟨x, H1, I1, rx, a, dx, fs, ex, ea, q⟩ => ?_)
  · obtain ⟨Z, ρ, r, q⟩ := hq
    refine tV_bind (P := fun Z H o => PostO X.K (He.ga X.K) W Z H σ o Q) r (fun _ _ _ z => z) (fun z => z) q fun d v Z1 H1 fx ed g1 dx q => ?_
    have q5 := PostO.gr q g1
    have q5 : PostO X.K (He.ga X.K) W Z1 H1 σ (if isIns c d = true then noEx (callR F [d]) else .bad) Q := q5
    rw [ite_noEx] at q5
    exact insF_of g1.s (r.t.ex g1.z) dx (postO_noEx q5)
  · subst ex
    obtain rfl : u = Value.ref a := rx
    exact getprop_ok I1 ea cl pr ok (C.hr.mono hk) hbn .nil noErrN q
end
structure OpK (P : Program) (w : World) (K : PySem.W.Frag) (mg : Str → Option Value) (base : Heap) (k : Nat) (c m : Str) (n : Nat) (F : List D → Ou D) : Prop where
  ex : ∃ (g : Addr) (fd : FuncData) (ps : List Str), Meth K (He.ga K c) m g ∧ FnOk P w K mg base (L2.CX P w) k g fd ps (spF K n F) ∧ Binds K fd ps []
def lenR : Ou D → Ou D
  | .ok (.int n) => if 0 ≤ n ∧ n < 9223372036854775808 then .ok (.int n) else .bad
  | _ => .bad
def dLenO (c : Str) (F : List D → Ou D) (f : DL.Env → Ou D) : DL.Env → Ou D := fun ρ => f ρ >>= fun d => if isIns c d = true then lenR (callR F [d]) else .bad
@[simp] theorem x_dLenO (ρ : DL.Env) (c : Str) (F : List D → Ou D) (f : DL.Env → Ou D) : dLenO c F f ρ = (f ρ >>= fun d => if isIns c d = true then lenR (callR F [d]) else .bad) := (rfl)
theorem x_lenR {n : Int} (h : 0 ≤ n ∧ n < 9223372036854775808) : lenR (.ok (.int n)) = .ok (.int n) := by
  unfold lenR
  exact if_pos h
def rLenO (K : PySem.W.Frag) (c : Str) (F : List D → Ou D) : List V → Hp → VK → Prop := fun xs H Q => ∃ v, xs = [v] ∧ ∃ σ, InsF K c F v H (fun z H' => ∃ n : Int, z = .int n ∧ (0 ≤ n ∧ n < 2 ^ 63) ∧ Q z H') (WE W0 σ)
theorem ite_lenR {b : Bool} {o : Ou D} : (if b = true then lenR o else Ou.bad) = lenR (if b = true then o else .bad) := by cases b <;> rfl
theorem postO_lenR {K : PySem.W.Frag} {cl : Str → Addr} {W : WX} {Z H : Hp} {σ : L2.St} {o : Ou D} {Q : VK} (h : PostO K cl W Z H σ (lenR o) Q) : PostO K cl W0 Z H σ o fun z H' => ∃ n : Int, z = .int n ∧ (0 ≤ n ∧ n < 2 ^ 63) ∧ Q z H' := by
  cases o with
  | ok d =>
    cases d with
    | int n =>
      by_cases c : 0 ≤ n ∧ n < 9223372036854775808
      · have e : DL.lenR (.ok (.int n)) = .ok (.int n) := if_pos c
        rw [e] at h
        intro v Z' H' fp g dn nd fr
        refine ⟨n, dn.1, c, h v Z' H' fp g dn nd fr⟩
      · have e : DL.lenR (.ok (.int n)) = .bad := if_neg c
        rw [e] at h
        exact h.elim
    | _ => exact h.elim
  | ex c ns xs => exact h.elim
  | bad => exact h.elim
theorem call_lenO {X : Cx} {c : Str} {k j : Nat} {F : List D → Ou D} (hr : Room (k + 1) X.A) (hk : j ≤ k) (G : OpK X.prog X.w X.K X.mg X.base j c "__len__" 1 F) : CallR X (.builtin "len") (rLenO X.K c F) := by
  intro pins s σ H xs us Q I r h
  obtain ⟨v, rfl, σ', a, dx, fs, rfl, ea, q⟩ := h
  obtain ⟨g, fd, ps, me, ok, hb⟩ := G.ex
  obtain ⟨u, rfl, ru⟩ := r.one
  cases (show u = Value.ref a from ru)
  obtain ⟨mA, J, _⟩ := ins_get I.hok ea
  obtain ⟨od, J, _⟩ := J.look
  obtain ⟨m, hF⟩ := I.fr
  refine PySem.W.len_K hF I.ok.mod.kin J me.at_ me.fn (wpAny_mono (wpAny_call (SlX.run_at (us := [.ref a]) (ws := [.ref a]) ((ok.raw (ds := []) (dvs := []) hb .nil).mono hk) hr.in1 I.env0.in1 noErr I (.cons rfl .nil) (by simpa using q))) (fun w s' z => ?_) fun _ _ x => x)
  obtain ⟨z', H', I', rz, n, ei, hn, qz⟩ := z
  subst ei
  obtain ⟨t, e⟩ := (show ∃ t, w = Value.int n t from rz)
  cases e
  exact ⟨hn, .int n, H', I'.tok _, ⟨s'.toks, rfl⟩, qz⟩
section
variable {X : Cx} {W : WX} {k j n : Nat} {e a b : Expr} {f g : DL.Env → Ou D} {pos p : Pos} {c : Str} {F : List D → Ou D}
theorem DE.lenO (C : Ctx X W k) (G : OpK X.prog X.w X.K X.mg X.base j c "__len__" 1 F) (hm : X.mg "len" = none) (he : DB X W e f) (hk : j + 1 ≤ k := by decide) (hg : Gl X "len" := by rfl)
    (hs : starEach [e] X.env = (false, eval e X.env) :: starEach [] X.env := by rfl) (hpl : (backTo pos (starEach [] X.env)).any (·.1) = false := by rfl) : DE X W (.Call (.Name "len" p) [e] [] pos) (dLenO c F f) := by
  have hr : Room (j + 1) X.A := C.hr.mono hk
  refine ⟨PE.weak (pe_callB (call_lenO hr (Nat.le_refl j) G) hg hm boot_len (pa_cons he.run pa_nil hs) (by decide) (by decide) hs hpl) fun σ H Q hq => ?_⟩
  obtain ⟨Z, ρ, r, q⟩ := hq
  refine tV_bind (P := fun Z H o => PostO X.K (He.ga X.K) W Z H σ o Q) r (fun _ _ _ z => z) (fun z => z) q fun d v Z1 H1 fx ed g1 dx q => ?_
  have q5 := PostO.gr q g1
  have q5 : PostO X.K (He.ga X.K) W Z1 H1 σ (if isIns c d = true then lenR (callR F [d]) else .bad) Q := q5
  rw [ite_lenR] at q5
  exact ⟨v, rfl, σ, insF_of g1.s (r.t.ex g1.z) dx (postO_lenR q5)⟩
def dOp2 (c : Str) (F : List D → Ou D) (f g : DL.Env → Ou D) : DL.Env → Ou D := fun ρ => f ρ >>= fun x => g ρ >>= fun y => if (isIns c x && isIns c y) = true then callR F [x, y] else .bad
@[simp] theorem x_dOp2 (ρ : DL.Env) (c : Str) (F : List D → Ou D) (f g : DL.Env → Ou D) : dOp2 c F f g ρ = (f ρ >>= fun x => g ρ >>= fun y => if (isIns c x && isIns c y) = true then callR F [x, y] else .bad) := (rfl)
def InsF2 (K : PySem.W.Frag) (c : Str) (F : List D → Ou D) (v u : V) (H : Hp) (Q : VK) (E : XK) : Prop := ∃ a dx fs b dy gs, v = .ref a ∧ H a = some (.ins (He.ga K c) dx fs) ∧ u = .ref b ∧ H b = some (.ins (He.ga K c) dy gs) ∧ spF K 2 F [.ref a, .ref b] H Q E
end
def isiOD (t : List (Str × Bool)) : D → Option Bool
  | .ins c _ _ => t.lookup c
  | .non => some false
  | .int _ => some false
  | .bl _ => some false
  | .str _ => some false
  | .tup _ => some false
  | .lst _ _ => some false
  | _ => none
end DL
namespace DL
open PySem PySem.Spec PyProof.Rows L2 ClX
variable [Tb]
section
variable {P : Program} {w : World} {K : PySem.W.Frag} {mg : Str → Option Value} {base : Heap} {j k n np : Nat} {c m f x : Str} {F : List D → Ou D} {fd : FuncData} {ps ks fs : List Str} {ds : List D}
def chkCm (c m : Str) : Chk := fun K => PySem.W.readsIn K (He.ga K c) (.type "type") && (ooV (PySem.W.specialIn K (.ref (He.ga K c)) "__getattribute__") (some (some (.builtin "type.__getattribute__"))) && (He5.wrapB K (He.ga K c) "classmethod" "classmethod.__get__" m && PySem.W.fnIn K (He5.wf K (He.ga K c) "classmethod" m)))
theorem CmK.of {ms : List (Str × V)} (h : chkCm c m K = true) (ok : FnOk P w K mg base (L2.CX P w) k (He5.wf K (He.ga K c) "classmethod" m) fd ps (spF K n F)) (hb : ∃ mv : List Value, KBn K fd ps (np + 1) ks (fun us ws => us ++ (ws ++ mv)) (fun vs zs => vs ++ (zs ++ ms.map (·.2))))
    (hd : ∀ Z H, Dens K (He.ga K) Z H ds (ms.map (·.2)) []) (hn : np + 1 + (ks.length + ds.length) = n) : CmK P w K mg base k c m np ks ds F := by
  obtain ⟨h1, h⟩ := band h
  obtain ⟨h2, h⟩ := band h
  obtain ⟨h3, h4⟩ := band h
  obtain ⟨w1, w2⟩ := He5.wrapB_ok h3
  obtain ⟨mv, hb⟩ := hb
  subst hn
  exact ⟨.type "type", He.ma K (He.ga K c) m, He5.wf K (He.ga K c) "classmethod" m, fd, ps, ms.map (·.2), _, ⟨h1, of_decide_eq_true h2⟩, ⟨w1, w2, h4⟩, ok, hb, hd⟩
theorem CmK.plain (h : chkCm c m K = true) (ok : MOk P w K mg base k (He5.wf K (He.ga K c) "classmethod" m) fd ps n F) (hn : n = ps.length) (hp : np + 1 = n) : CmK P w K mg base k c m np [] [] F := by
  subst hp
  exact CmK.of (ms := []) (n := np + 1) h ok.1 ⟨[], KBn.plain ok.2 hn⟩ (fun _ _ => ⟨rfl, rfl⟩) rfl
def chkPr (c f : Str) : Chk := fun K => clsB K (He.ga K c) && (ooV (PySem.W.findIn K (.ref (He.ga K c)) f) (some (some (.ref (He.ma K (He.ga K c) f)))) && (ooV (PySem.W.specialIn K (.ref (He.ma K (He.ga K c) f)) "__get__") (some (some (.builtin "property.__get__"))) &&
  (obB (PySem.W.takesIn K (.ref (He.ma K (He.ga K c) f))) (some true) && (match PySem.W.recIn K (He.ma K (He.ga K c) f) "property" with
    | some (.ref _ :: _) => true
    | _ => false))))
theorem PrK.of (h : chkPr c f K = true) (ok : MOk P w K mg base k (He5.wf K (He.ga K c) "property" f) fd ps 1 F) : PrK P w K mg base k c f F := by
  obtain ⟨h1, h⟩ := band h
  obtain ⟨h2, h⟩ := band h
  obtain ⟨h3, h⟩ := band h
  obtain ⟨h4, h5⟩ := band h
  refine ⟨He.ma K (He.ga K c) f, He5.wf K (He.ga K c) "property" f, fd, ps, clsB_ok h1, ⟨of_decide_eq_true h2, of_decide_eq_true h3, of_decide_eq_true h4, ?_⟩, ok.1, ok.2⟩
  unfold He5.wf
  split at h5
  · rename_i g r e
    exact ⟨r, by rw [e]⟩
  · cases h5
theorem OpK.of (h : (He.Fa.meth c m).ok K = true) (ok : MOk P w K mg base k (He.fAd K (c, some m)) fd ps n F) : OpK P w K mg base k c m n F := ⟨He.fAd K (c, some m), fd, ps, He.meth_ok h, ok.1, ok.2⟩
def chkSelf (c : Str) : Chk := fun K => PySem.W.selfFirst K (He.ga K c)
theorem FldOk.one (h : chkMk c fs K = true) (hf : f ∈ fs) : FldOk K f [c] := fun c' hc => by
  rw [List.mem_singleton.mp hc]
  exact ⟨chkMk_cls h, chkMk_no h hf⟩
end
def isiNames : List String := ["NoneType", "int", "bool", "str", "tuple", "list"]
def chkIsi (x : Str) (t : HTab) : Chk := fun K => (t.all fun p => clsB K (He.ga K p.1) && (ooV (PySem.W.findIn K (.ref (He.ga K p.1)) "__class__") (some (some (.builtin "object.__class__"))) && (ooV (PySem.W.specialIn K (.builtin "object.__class__") "__get__") (some (some (.builtin "getset_descriptor.__get__"))) &&
  (obB (PySem.W.takesIn K (.builtin "object.__class__")) (some true) && (obB (PySem.W.mroIn K (He.ga K p.1) (.type "object")) (some true) && obB (PySem.W.kitOne K (.ref (He.ga K p.1)) (.ref (He.ga K x))) (some p.2)))))) &&
  isiNames.all fun T => obB (PySem.W.kitOne K (.type T) (.ref (He.ga K x))) (some false)
def dIsiO (t : HTab) (f : Env → Ou D) : Env → Ou D := fun ρ => f ρ >>= fun d => ofO ((isiOD t d).map .bl)
@[simp] theorem x_dIsiO (ρ : Env) (t : HTab) (f : Env → Ou D) : dIsiO t f ρ = (f ρ >>= fun d => ofO ((isiOD t d).map .bl)) := (rfl)
theorem selfV {X : Cx} {x : Str} {pos : Pos} (hN : X.N[0]? = some x) (hv : Vis X.env.scope x := by first | exact Or.inl rfl | exact Or.inr (Or.inl rfl) | exact Or.inr (Or.inr rfl)) (hd : (x == ("__debug__" : Str)) = false := by decide) (hcd : (x == ("__classdict__" : Str)) = false := by decide) : PE X (.Name x pos) (tVar 0) :=
  pe_var hN hv hd hcd
end DL
namespace DL
open PySem PySem.Spec PyProof.Rows L2 ClX
variable [Tb]
def cvalB (K : PySem.W.Frag) (C : Addr) (f : Str) (v : Kv) : Bool := PySem.W.readsIn K C (.type "type") && (ooV (PySem.W.specialIn K (.ref C) "__getattribute__") (some (some (.builtin "type.__getattribute__"))) && (match PySem.W.findCls K (.ref C) (.type "type") f with
  | some (.val u) => conV K u v
  | _ => false))
def chkCv (f : Str) (t : KTab) : Chk := fun K => t.all fun p => cvalB K (He.ga K p.1) f p.2
def cvD (t : KTab) : D → Option D
  | .cls c => (t.lookup c).map Kv.d
  | _ => none
section
variable {X : Cx} {W : WX} {e : Expr} {f : Env → Ou D} {pos : Pos} {fl : Str}
end
end DL
namespace DL
open PySem PySem.Spec PyProof.Rows L2
variable [Tb]
def compG2 (j : Nat) (tt : DL.Env → Ou Bool) (fi1 : DL.Env → Ou (List D)) (j1 : Nat) (vs1 : List Nat) (tt1 : DL.Env → Ou Bool) (te : DL.Env → Ou D) (ρ : DL.Env) : List D → List D → Option (List D)
  | [], acc => some acc
  | d :: ds, acc => if j < ρ.length then
      match tt (ρ.set j (some d)) with
      | .ok true => match fi1 (ρ.set j (some d)) with
        | .ok es => match compG j1 tt1 te (wipeE (ρ.set j (some d)) vs1) es acc with
          | some acc' => compG2 j tt fi1 j1 vs1 tt1 te ρ ds acc'
          | none => none
        | _ => none
      | .ok false => compG2 j tt fi1 j1 vs1 tt1 te ρ ds acc
      | _ => none
    else none
def dLc2 (fi : DL.Env → Ou (List D)) (j : Nat) (vs : List Nat) (tt : DL.Env → Ou Bool) (fi1 : DL.Env → Ou (List D)) (j1 : Nat) (vs1 : List Nat) (tt1 : DL.Env → Ou Bool) (te : DL.Env → Ou D) : DL.Env → Ou D :=
  fun ρ => fi ρ >>= fun ds => ofO ((compG2 j tt fi1 j1 vs1 tt1 te (wipeE ρ vs) ds []).map (D.lst true))
@[simp] theorem x_dLc2 (ρ : DL.Env) (fi : DL.Env → Ou (List D)) (j : Nat) (vs : List Nat) (tt : DL.Env → Ou Bool) (fi1 : DL.Env → Ou (List D)) (j1 : Nat) (vs1 : List Nat) (tt1 : DL.Env → Ou Bool) (te : DL.Env → Ou D) :
    dLc2 fi j vs tt fi1 j1 vs1 tt1 te ρ = (fi ρ >>= fun ds => ofO ((compG2 j tt fi1 j1 vs1 tt1 te (wipeE ρ vs) ds []).map (D.lst true))) := (rfl)
section
variable {X : Cx} {W : WX} {k : Nat} {tg iter tg1 iter1 : Expr} {pos : Pos}
end
end DL
namespace DL
open PySem PySem.Spec PyProof.Rows L2
variable [Tb]
def Al (y x : Nat) (σ : L2.St) (H : Hp) (ρ : DL.Env) : Prop := ∀ j, ρ[y]? = some (some (.adr j)) → ∃ a b vs, σ[x]? = some (some (.ref a)) ∧ H a = some (.lst vs) ∧ vs[j]? = some (.ref b) ∧ σ[y]? = some (some (.ref b))
section
variable {K : PySem.W.Frag} {cl : Str → Addr} {Z H Z' H' Z0 H0 Z1 H1 : Hp} {σ : L2.St} {ρ : DL.Env} {W : WX}
theorem Al.gr {y x : Nat} (al : Al y x σ H ρ) (e : Ex H H') : Al y x σ H' ρ := fun j hj => by
  obtain ⟨a, b, vs, h1, h2, h3, h4⟩ := al j hj
  exact ⟨a, b, vs, h1, e.l h2, h3, h4⟩
theorem Al.none {y x : Nat} (h : ρ[y]? = some none) : Al y x σ H ρ := fun j hj => by rw [h] at hj; cases hj
theorem Sta.ne2 {i j : Nat} {xs ys : List D} {a b : Addr} {vs : List V} (s : Sta K cl Z0 H0 Z H σ ρ) (e : ρ[i]? = some (some (.lst true xs))) (e2 : xs[j]? = some (.lst true ys)) (h1 : σ[i]? = some (some (.ref a))) (h2 : H a = some (.lst vs)) (h3 : vs[j]? = some (.ref b)) : a ≠ b := by
  obtain ⟨fp, sl, nd, fr⟩ := s.e
  obtain ⟨v, f, rest0, k1, k2, k3, k4⟩ := sl.split e
  rw [h1] at k1
  have := Option.some.inj (Option.some.inj k1)
  subst this
  simp only [Den] at k2
  obtain ⟨a', vs', fq0, e1, ef, za, q, r⟩ := k2
  cases e1
  rw [h2] at q
  cases q
  obtain ⟨u, f2, rest1, m1, m2, m3, m4⟩ := Dens.split r e2
  rw [h3] at m1
  cases m1
  simp only [Den] at m2
  obtain ⟨b', ws, fq, e3, ef2, zb, qb, rb⟩ := m2
  cases e3
  subst ef ef2
  have nd2 := k3.nodup_iff.mp nd
  have nd3 := (List.nodup_append.mp nd2).1
  have nd4 := List.nodup_cons.mp nd3
  intro c
  exact nd4.1 (c ▸ m3.symm.mem_iff.mp (List.mem_append_left _ List.mem_cons_self))
def PostSV (K : PySem.W.Frag) (cl : Str → Addr) (W : WX) (Z0 H0 : Hp) (y x : Nat) (E : Ends) (r : Os) : Prop := match r with
  | .nx ρ => ∀ σ Z H, Sta K cl Z0 H0 Z H σ ρ → Al y x σ H ρ → E.nx σ H
  | .rt d => PostS K cl W Z0 H0 E (.rt d)
  | .bk ρ => PostS K cl W Z0 H0 E (.bk ρ)
  | .ct ρ => PostS K cl W Z0 H0 E (.ct ρ)
  | .ex c ns xs ρ => PostS K cl W Z0 H0 E (.ex c ns xs ρ)
  | .bad => False
theorem PostSV.of {y x : Nat} {E : Ends} {r : Os} (q : PostS K cl W Z0 H0 E r) : PostSV K cl W Z0 H0 y x E r := by
  cases r with
  | nx ρ => exact fun σ Z H s _ => q σ Z H s
  | _ => exact q
def tSV (K : PySem.W.Frag) (cl : Str → Addr) (W : WX) (Z0 H0 : Hp) (y x : Nat) (g : DL.Env → Os) : TS := fun E σ H => ∃ Z ρ, Sta K cl Z0 H0 Z H σ ρ ∧ Al y x σ H ρ ∧ PostSV K cl W Z0 H0 y x E (g ρ)
end
structure DSV (X : Cx) (W : WX) (y x : Nat) (st : Stmt) (g : DL.Env → Os) : Prop where
  run : ∀ Z0 H0, PS X st (tSV X.K (He.ga X.K) W Z0 H0 y x g)
structure DSVs (X : Cx) (W : WX) (y x : Nat) (st : List Stmt) (g : DL.Env → Os) : Prop where
  run : ∀ Z0 H0, PSs X st (tSV X.K (He.ga X.K) W Z0 H0 y x g)
def sView (y x : Nat) (g : DL.Env → Ou D) (k : DL.Env → Os) : DL.Env → Os := fun ρ => match ρ[x]? with
  | some (some (.lst true xs)) => ofU (g ρ) ρ fun kk => match kk with
    | .int n => match ixN xs.length n with
      | some j => match xs[j]? with
        | some (.lst true ys) => if y < ρ.length then k (ρ.set y (some (.adr j))) else .bad
        | _ => .bad
      | none => .bad
    | _ => .bad
  | _ => .bad
def viewOf (y x : Nat) (ρ : DL.Env) : Option (Nat × List D × List D) := match ρ[y]? with
  | some (some (.adr j)) => match ρ[x]? with
    | some (some (.lst true xs)) => match xs[j]? with
      | some (.lst true ys) => some (j, xs, ys)
      | _ => none
    | _ => none
  | _ => none
def sSetV (y x : Nat) (g f : DL.Env → Ou D) : DL.Env → Os := fun ρ => ofU (f ρ) ρ fun d => match viewOf y x ρ with
  | some (j, xs, ys) => ofU (g ρ) ρ fun kk => match kk with
    | .int n => match ixN ys.length n with
      | some i => .nx (ρ.set x (some (.lst true (xs.set j (.lst true (ys.set i d))))))
      | none => .bad
    | _ => .bad
  | none => .bad
def sAppV (y x : Nat) (f : DL.Env → Ou D) : DL.Env → Os := fun ρ => match viewOf y x ρ with
  | some (j, xs, ys) => ofU (f ρ) ρ fun d => if ys.length < LIM then .nx (ρ.set x (some (.lst true (xs.set j (.lst true (ys ++ [d])))))) else .bad
  | none => .bad
def sAppX (y x : Nat) (f : DL.Env → Ou D) : DL.Env → Os := sApp x f
def sSetX (y x : Nat) (g f : DL.Env → Ou D) : DL.Env → Os := fun ρ => match viewOf y x ρ with
  | some (j, xs, ys) => ofU (f ((ρ.set x (some (.lst true (xs.set j (.adr 0))))).set y (some (.lst true ys)))) ρ fun d => ofU (g ρ) ρ fun kk => match kk with
    | .int n => match ixN xs.length n with
      | some i => .nx ((ρ.set x (some (.lst true (xs.set i d)))).set y none)
      | none => .bad
    | _ => .bad
  | none => .bad
def fgt (y : Nat) (k : DL.Env → Os) : DL.Env → Os := fun ρ => match k ρ with
  | .nx ρ' => .nx (ρ'.set y none)
  | r => r
def noNx (g : DL.Env → Os) : DL.Env → Os := fun ρ => match g ρ with
  | .nx _ => .bad
  | r => r
@[simp] theorem x_noNx (g : DL.Env → Os) (ρ : DL.Env) : noNx g ρ = (match g ρ with | .nx _ => .bad | r => r) := (rfl)
@[simp] theorem x_fgt (y : Nat) (g : DL.Env → Os) (ρ : DL.Env) : fgt y g ρ = (match g ρ with | .nx ρ' => .nx (ρ'.set y none) | r => r) := (rfl)
@[simp] theorem x_sView {y x : Nat} {g : DL.Env → Ou D} {k : DL.Env → Os} {ρ : DL.Env} {xs : List D} (h : ρ[x]? = some (some (.lst true xs))) : sView y x g k ρ = ofU (g ρ) ρ fun kk => match kk with
    | .int n => match ixN xs.length n with
      | some j => match xs[j]? with
        | some (.lst true ys) => if y < ρ.length then k (ρ.set y (some (.adr j))) else .bad
        | _ => .bad
      | none => .bad
    | _ => .bad := by
  unfold sView
  rw [h]
section
variable {X : Cx} {W : WX} {st : Stmt} {rest : List Stmt} {e c : Expr} {f g : DL.Env → Ou D} {k h : DL.Env → Os} {p : DL.Env → Ou Bool} {pos : Pos} {y x : Nat}
theorem viewOf_inv {ρ : DL.Env} {j : Nat} {xs ys : List D} (e : viewOf y x ρ = some (j, xs, ys)) : ρ[y]? = some (some (.adr j)) ∧ ρ[x]? = some (some (.lst true xs)) ∧ xs[j]? = some (.lst true ys) := by
  unfold viewOf at e
  split at e
  · split at e
    · split at e
      · rename_i h1 _ _ h2 _ _ h3
        cases e
        exact ⟨h1, h2, h3⟩
      · cases e
    · cases e
  · cases e
theorem DSVs.nil : DSVs X W y x [] sNil := ⟨fun Z0 H0 => PSs.weak pss_nil fun E σ H ⟨Z, ρ, s, al, q⟩ => q σ Z H s al⟩
theorem DSVs.cons (h1 : DSV X W y x st k) (h2 : DSVs X W y x rest h) : DSVs X W y x (st :: rest) (sSeq k h) := by
  refine ⟨fun Z0 H0 => PSs.weak (pss_cons (h1.run Z0 H0) (h2.run Z0 H0)) fun E σ H hq => ?_⟩
  obtain ⟨Z, ρ, s, al, q⟩ := hq
  refine ⟨Z, ρ, s, al, ?_⟩
  unfold sSeq at q
  cases e : k ρ with
  | nx ρ' =>
    rw [e] at q
    exact fun σ' Z' H' s' al' => ⟨Z', ρ', s', al', q⟩
  | rt d => rw [e] at q; exact q
  | bk ρ' => rw [e] at q; exact q
  | ct ρ' => rw [e] at q; exact q
  | ex c ns xs ρ' => rw [e] at q; exact q
  | bad => rw [e] at q; exact q
theorem DSVs.one (h1 : DSV X W y x st k) : DSVs X W y x [st] k := ⟨fun Z0 H0 => pss_one (h1.run Z0 H0)⟩
theorem DSV.if_ {body els : List Stmt} (hc : DT X W c p) (ha : DSVs X W y x body k) (hb : DSVs X W y x els h) : DSV X W y x (.If c body els pos) (sIf p k h) := by
  refine ⟨fun Z0 H0 => PS.weak (ps_if hc.run (ha.run Z0 H0) (hb.run Z0 H0)) fun E σ H hq => ?_⟩
  obtain ⟨Z, ρ, s, al, q⟩ := hq
  refine ⟨Z, ρ, s.rel, ?_⟩
  unfold sIf at q
  cases ec : p ρ with
  | ok d =>
    rw [ec] at q
    intro Z' H' g1
    cases d with
    | true => exact ⟨Z', ρ, s.gr g1, al.gr g1.h, q⟩
    | false => exact ⟨Z', ρ, s.gr g1, al.gr g1.h, q⟩
  | ex c ns xs => rw [ec] at q; exact fun dc Z' H' g1 x => q dc σ Z' H' (s.gr g1) x
  | bad => rw [ec] at q; exact q
theorem DSs.view (y x : Nat) {xn yn : Str} {p1 p2 pos' : Pos} {ix : Expr} (hix : DB X W ix g) (nd : X.N.Nodup) (hr : DSVs X W y x rest k) (hyx : y ≠ x := by decide) (hi : X.N[y]? = some yn := by rfl) (hx : Loc X.env.scope yn := by first | exact Or.inl rfl | exact Or.inr rfl)
    (hN : X.N[x]? = some xn := by rfl) (hv : Vis X.env.scope xn := by first | exact Or.inl rfl | exact Or.inr (Or.inl rfl) | exact Or.inr (Or.inr rfl)) (hd : (xn == ("__debug__" : Str)) = false := by decide)
    (hcd : (xn == ("__classdict__" : Str)) = false := by decide) (hp : PlainIx ix := by exact fun _ _ => rfl) (hs : swapsWith (.Subscript (.Name xn p1) ix p2) (some (.Name yn pos')) pos.line X.env = pure false := by rfl)
    (hf : X.fn yn = true ∨ X.env.scope.names.lookup yn = some .local := by first | exact .inl rfl | exact .inr rfl | assumption) :
    DSs X W (.Assign [.Name yn pos'] (.Subscript (.Name xn p1) ix p2) pos :: rest) (sView y x g k) := by
  refine ⟨fun Z0 H0 => PSs.weak (pss_cons (ps_set (i := y) nd hi hx (pe_ix ix_seq (pv x hN hv hd hcd) hix.run hp) hs hf) (hr.run Z0 H0)) fun E σ H hq => ?_⟩
  obtain ⟨Z, ρ, s, q⟩ := hq
  unfold sView at q
  split at q
  · rename_i xs ec
    obtain ⟨l0, vs0, _, _, h1, h2, _⟩ := s.list ec
    refine ⟨.ref l0, h1, Z, ρ, s.rel, ?_⟩
    cases eg : g ρ with
    | ok kk =>
      rw [eg] at q
      intro w Z2 H2 fw g2 dw
      cases kk with
      | int n =>
        have q : PostS X.K (He.ga X.K) W Z0 H0 E (match ixN xs.length n with
          | some j => match xs[j]? with
            | some (.lst true ys) => if y < ρ.length then k (ρ.set y (some (.adr j))) else .bad
            | _ => .bad
          | none => .bad) := q
        split at q
        · rename_i j ej
          split at q
          · rename_i ys ey
            split at q
            · rename_i c
              have s2 := s.gr g2
              obtain ⟨l, vs, b, ws, fq, rs, m1, m2, m3, m4, m5, m6, m7, m8, m9⟩ := s2.list2 ec ey
              have el : l = l0 := by
                rw [h1] at m1
                have := Option.some.inj (Option.some.inj m1)
                cases this; rfl
              subst el
              rw [dw.1]
              have lσ : y < σ.length := by
                obtain ⟨fp, sl, _⟩ := s.e
                rw [sl.length]; exact c
              refine .inl ⟨l, vs, n, .ref b, rfl, rfl, .inl (.inl m2), atI_of m3 ej m4, Z2, ρ.set y (some (.adr j)), s2.set (v := .ref b) (fp := []) (Gr.refl s2.g.s) ⟨⟨b, rfl⟩, rfl⟩ List.nodup_nil (fun _ z => nomatch z) c, fun j' hj' => ?_, ?_⟩
              · rw [List.getElem?_set_self c] at hj'
                cases hj'
                exact ⟨l, b, vs, by rw [List.getElem?_set_ne hyx]; exact m1, m2, m4, List.getElem?_set_self lσ⟩
              · exact PostSV.of q
            · exact q.elim
          · exact q.elim
        · exact q.elim
      | _ => exact q.elim
    | ex c ns xs => rw [eg] at q; exact fun dc Z' H' g1 x => q dc σ Z' H' (s.gr g1) x
    | bad => rw [eg] at q; exact q
  · exact q.elim
theorem Sta.view {K : PySem.W.Frag} {cl : Str → Addr} {Z0 H0 Z H : Hp} {σ : L2.St} {ρ : DL.Env} {j : Nat} {xs ys : List D} (s : Sta K cl Z0 H0 Z H σ ρ) (al : Al y x σ H ρ) (ev : viewOf y x ρ = some (j, xs, ys)) :
    ∃ (a : Addr) (vs : List V) (b : Addr) (ws : List V) (fq rest : Fp), σ[x]? = some (some (.ref a)) ∧ H a = some (.lst vs) ∧ a ≠ b ∧ vs[j]? = some (.ref b) ∧ σ[y]? = some (some (.ref b)) ∧ H b = some (.lst ws) ∧ Dens K cl Z H ys ws fq ∧ (b :: (fq ++ rest)).Nodup ∧
      (∀ c ∈ b :: (fq ++ rest), H c ≠ none ∧ H0 c = none ∧ Z c = none) ∧
      ∀ (Z1 H1 : Hp) (ws' : List V) (ys' : List D) (fq' : Fp), Gr Z H Z1 H1 → fq'.Nodup → (∀ c ∈ fq', c ≠ b ∧ c ∉ rest ∧ H0 c = none) → Dens K cl Z1 (upd H1 b (.lst ws')) ys' ws' fq' →
        Sta K cl Z0 H0 Z1 (upd H1 b (.lst ws')) σ (ρ.set x (some (.lst true (xs.set j (.lst true ys'))))) := by
  obtain ⟨e1, e2, e3⟩ := viewOf_inv ev
  obtain ⟨l, vs, b, ws, fq, rs, m1, m2, m3, m4, m5, m6, m7, m8, m9⟩ := s.list2 e2 e3
  have ne := s.ne2 e2 e3 m1 m2 m4
  obtain ⟨a', b', vs', h1, h2, h3, h4⟩ := al j e1
  rw [h1] at m1
  have := Option.some.inj (Option.some.inj m1)
  cases this
  rw [h2] at m2
  cases m2
  rw [h3] at m4
  cases m4
  exact ⟨l, vs, b, ws, fq, rs, h1, h2, ne, h3, h4, m5, m6, m7, m8, m9⟩
theorem DSV.set (i : Nat) {xn : Str} {pos' : Pos} (he : DE X W e f) (hN : X.N.Nodup) (hiy : i ≠ y := by decide) (hix : i ≠ x := by decide) (hi : X.N[i]? = some xn := by rfl) (hx : Loc X.env.scope xn := by first | exact Or.inl rfl | exact Or.inr rfl) (hs : swapsWith e (some (.Name xn pos')) pos.line X.env = pure false := by rfl)
    (hf : X.fn xn = true ∨ X.env.scope.names.lookup xn = some .local := by first | exact .inl rfl | exact .inr rfl | assumption) : DSV X W y x (.Assign [.Name xn pos'] e pos) (sSet i f) := by
  refine ⟨fun Z0 H0 => PS.weak (ps_set (i := i) hN hi hx he.run hs hf) fun E σ H hq => ?_⟩
  obtain ⟨Z, ρ, s, al, q⟩ := hq
  refine ⟨Z, ρ, s.rel, ?_⟩
  unfold sSet at q
  cases ec : f ρ with
  | ok d =>
    rw [ec] at q
    intro v Z' H' fp g1 dn nd fr
    have q : PostSV X.K (He.ga X.K) W Z0 H0 y x E (if i < ρ.length then .nx (ρ.set i (some d)) else .bad) := q
    by_cases c : i < ρ.length
    · rw [if_pos c] at q
      refine q _ Z' H' (s.set g1 dn nd fr c) fun j' hj' => ?_
      rw [List.getElem?_set_ne hiy] at hj'
      obtain ⟨a, b, vs, k1, k2, k3, k4⟩ := (al.gr g1.h) j' hj'
      exact ⟨a, b, vs, by rw [List.getElem?_set_ne hix]; exact k1, k2, k3, by rw [List.getElem?_set_ne hiy]; exact k4⟩
    · rw [if_neg c] at q; exact q.elim
  | ex c ns xs => rw [ec] at q; exact fun dc Z' H' g1 x => q dc σ Z' H' (s.gr g1) x
  | bad => rw [ec] at q; exact q
end
end DL
namespace DL
open PySem PySem.Spec PyProof.Rows L2 ClX
variable [Tb]
section
variable {Z Y H : Hp} {fp : Fp}
theorem cutH_sub : Ex (cutH Z fp) Z := .sub fun a o e => by
  unfold cutH at e
  split at e
  · cases e
  · exact e
theorem cutH_in {a : Addr} (h : a ∈ fp) : cutH Z fp a = none := if_pos h
theorem cutH_out {a : Addr} (h : a ∉ fp) : cutH Z fp a = Z a := if_neg h
theorem cutH_ex (e : Ex Z Y) (hl : ∀ a ∈ fp, ∃ xs : Mo, Y a = some xs.o) : Ex (cutH Z fp) (cutH Y fp) := (cutH_sub.trans e).chg fun a => by
  by_cases m : a ∈ fp
  · exact .inr ⟨cutH_in m, hl a m⟩
  · exact .inl (cutH_out m)
theorem cutH_kk (hl : ∀ a ∈ fp, ∃ xs : Mo, Y a = some xs.o) : ∀ a, cutH Y fp a = Y a ∨ (cutH Y fp a = none ∧ ∃ xs : Mo, Y a = some xs.o) := fun a => by
  by_cases m : a ∈ fp
  · exact .inr ⟨cutH_in m, hl a m⟩
  · exact .inl (cutH_out m)
end
structure StaJ (K : PySem.W.Frag) (cl : Str → Addr) (c : Str) (a dx : Addr) (Z0 H0 : Hp) (fp0 : Fp) (Z H : Hp) (σ : L2.St) (ρ : DL.Env) (ns : List Str) (ds : List D) (cb : Bool) : Prop where
  b : StaI K cl c a dx Z0 H0 Z H σ ρ ns ds
  l0 : ∀ x ∈ fp0, ∃ xs : Mo, Z0 x = some xs.o
  cu : cb = true → ∃ vs, H a = some (.ins (cl c) dx (ns.zip vs)) ∧ Dens K cl (cutH Z fp0) H ds vs []
section
variable {K : PySem.W.Frag} {cl : Str → Addr} {c : Str} {a dx : Addr} {Z0 H0 Z H Z' H' : Hp} {fp0 : Fp} {σ : L2.St} {ρ : DL.Env} {ns : List Str} {ds : List D} {cb : Bool}
theorem StaJ.lz (s : StaJ K cl c a dx Z0 H0 fp0 Z H σ ρ ns ds cb) : ∀ x ∈ fp0, ∃ xs : Mo, Z x = some xs.o := fun x hx => by
  obtain ⟨xs, e⟩ := s.l0 x hx
  exact ⟨xs, s.b.g.z.l e⟩
theorem StaJ.gr (s : StaJ K cl c a dx Z0 H0 fp0 Z H σ ρ ns ds cb) (g : Gr Z H Z' H') : StaJ K cl c a dx Z0 H0 fp0 Z' H' σ ρ ns ds cb := by
  refine ⟨s.b.gr g, s.l0, fun hc => ?_⟩
  obtain ⟨vs, i1, i2⟩ := s.cu hc
  refine ⟨vs, g.h.l i1, Dens.mono (cutH_ex g.z fun x hx => ?_) ds vs [] (fun _ z => nomatch z) i2⟩
  obtain ⟨xs, e⟩ := s.lz x hx
  exact ⟨xs, g.z.l e⟩
theorem StaJ.put {f : Str} {d : D} {v : V} {fp : Fp} (s : StaJ K cl c a dx Z0 H0 fp0 Z H σ ρ ns ds cb) (g : Gr Z H Z' H') (dn : Den K cl Z' H' d v fp) (nd : fp.Nodup) (fr : ∀ b ∈ fp, H b = none) (hf : f ∉ ns) :
    ∃ fs, H' a = some (.ins (cl c) dx fs) ∧ fs.length = ns.length ∧ StaJ K cl c a dx Z0 H0 fp0 (frzH Z' H' fp) (upd H' a (.ins (cl c) dx (putF f v fs))) σ ρ (ns ++ [f]) (ds ++ [d.frz]) (cb && d.cln) := by
  obtain ⟨fs, e1, e2, s'⟩ := s.b.put (f := f) g dn nd fr hf
  refine ⟨fs, e1, e2, s', s.l0, fun hc => ?_⟩
  obtain ⟨hc1, hc2⟩ := band hc
  obtain ⟨vs, i1, i2⟩ := s.cu hc1
  have ia : H' a = some (.ins (cl c) dx (ns.zip vs)) := g.h.l i1
  have efs : fs = ns.zip vs := by
    rw [ia] at e1
    cases e1
    rfl
  have lv : ns.length = vs.length := s.b.l.trans i2.length.symm
  have own : ∀ b ∈ fp, Z' b = none := fun b hb => (Den.own d v fp dn b hb).1
  have lo : ∀ b ∈ fp, ∃ xs : Mo, H' b = some xs.o := fun b hb => (Den.own d v fp dn b hb).2
  have ez := frzH_ex (H := H') own
  have lz' : ∀ x ∈ fp0, ∃ xs : Mo, Z' x = some xs.o := fun x hx => by
    obtain ⟨xs, e⟩ := s.lz x hx
    exact ⟨xs, g.z.l e⟩
  have nfp : ∀ x ∈ fp0, x ∉ fp := fun x hx hm => by
    obtain ⟨xs, e⟩ := s.lz x hx
    have := s.b.g.s.l e
    rw [fr x hm] at this
    cases this
  have lzf : ∀ x ∈ fp0, ∃ xs : Mo, frzH Z' H' fp x = some xs.o := fun x hx => by
    obtain ⟨xs, e⟩ := lz' x hx
    exact ⟨xs, (if_neg (nfp x hx)).trans e⟩
  refine ⟨vs ++ [v], ?_, ?_⟩
  · rw [upd_same, efs, zip_put hf lv]
  · refine Dens.append (f := []) (g := []) (Dens.mono (cutH_ex (g.z.trans ez) lzf) ds vs [] (fun _ z => nomatch z) i2) (Dens.one ?_)
    have dc := Den.clean (cutH_kk lz') d v fp hc2 dn
    exact Den.freeze (cutH_ex ez lzf) d v fp (fun b hb => (cutH_out fun hm => nfp b hm hb).trans (if_pos hb)) dc
end
def clO (o : Ou (List D)) : Bool := match o with
  | .ok es => D.clns es
  | _ => false
def PostJ (K : PySem.W.Frag) (cl : Str → Addr) (W : WX) (c : Str) (a dx : Addr) (Z0 H0 : Hp) (fp0 : Fp) (σ : L2.St) (ρ : DL.Env) (ns : List Str) (ds : List D) (cb : Bool) (fs : List Str) (o o0 : Ou (List D)) (E : Ends) : Prop := match o with
  | .ok es => ∀ Z H, StaJ K cl c a dx Z0 H0 fp0 Z H σ ρ (ns ++ fs) (ds ++ es) (cb && clO o0) → E.nx σ H
  | .ex c ns xs => ∀ dc Z H, Gr Z0 H0 Z H → ExD K cl Z H ns xs dc → W (.ref (cl c)) dc σ H
  | .bad => False
structure DSJ (X : Cx) (W : WX) (c : Str) (st : List Stmt) (fs : List Str) (t t0 : DL.Env → Ou (List D)) : Prop where
  run : ∀ (a dx : Addr) (Z0 H0 : Hp) (fp0 : Fp) (ns : List Str) (ds : List D) (cb : Bool), (∀ f ∈ fs, f ∉ ns) → ns.length + fs.length < 1000 →
    PSs X st fun E σ H => ∃ Z ρ, StaJ X.K (He.ga X.K) c a dx Z0 H0 fp0 Z H σ ρ ns ds cb ∧ PostJ X.K (He.ga X.K) W c a dx Z0 H0 fp0 σ ρ ns ds cb fs (t ρ) (t0 ρ) E
def iFldU (g : DL.Env → Ou D) (t : DL.Env → Ou (List D)) : DL.Env → Ou (List D) := fun ρ => g ρ >>= fun d => t ρ >>= fun es => .ok (d :: es)
@[simp] theorem x_iFldU (ρ : DL.Env) (g : DL.Env → Ou D) (t : DL.Env → Ou (List D)) : iFldU g t ρ = (g ρ >>= fun d => t ρ >>= fun es => .ok (d :: es)) := (rfl)
section
variable {X : Cx} {W : WX} {c f sf : Str} {st : List Stmt} {fs : List Str} {g : DL.Env → Ou D} {t t0 : DL.Env → Ou (List D)} {e : Expr} {p1 p2 p3 pos : Pos}
theorem DSJ.nil : DSJ X W c [] [] iNil iNil := ⟨fun a dx Z0 H0 fp0 ns ds cb _ _ => PSs.weak pss_nil fun E σ H hq => by
  obtain ⟨Z, ρ, s, q⟩ := hq
  have q : ∀ Z H, StaJ X.K (He.ga X.K) c a dx Z0 H0 fp0 Z H σ ρ (ns ++ []) (ds ++ []) (cb && true) → E.nx σ H := q
  rw [List.append_nil, List.append_nil, Bool.and_true] at q
  exact q Z H s⟩
theorem DSJ.drop (he : DE X W e g) (h : DSJ X W c st fs t t0) (hs : swapsWith e none pos.line X.env = pure false := by rfl) : DSJ X W c (.Expr e pos :: st) fs (iDrop g t) (iDrop g t0) := by
  refine ⟨fun a dx Z0 H0 fp0 ns ds cb h1 h2 => PSs.weak (pss_cons (ps_expr he.run hs) (h.run a dx Z0 H0 fp0 ns ds cb h1 h2)) fun E σ H hq => ?_⟩
  obtain ⟨Z, ρ, s, q⟩ := hq
  refine ⟨Z, ρ, s.b.rel, ?_⟩
  unfold iDrop at q
  cases ec : g ρ with
  | ok d =>
    rw [ec] at q
    exact fun v Z' H' fp g1 dn nd fr => ⟨Z', ρ, s.gr g1, q⟩
  | ex cn ns xs => rw [ec] at q; exact fun dc Z' H' g1 x => q dc Z' H' (s.b.g.trans g1) x
  | bad => rw [ec] at q; exact q
theorem DSJ.fld (hc : Cls X.K (He.ga X.K c)) (hn : NoAttr X.K (He.ga X.K c) f) (he : DE X W e g) (h : DSJ X W c st fs t t0) (hsf : PE X (.Name sf p1) (tVar 0)) (hff : f ∉ fs)
    (hs : swapsWith e (some (.Attribute (.Name sf p1) f p2)) p3.line X.env = pure false := by rfl) : DSJ X W c (.Assign [.Attribute (.Name sf p1) f p2] e p3 :: st) (f :: fs) (iFld g t) (iFldU g t0) := by
  refine ⟨fun a dx Z0 H0 fp0 ns ds cb h1 h2 => ?_⟩
  have P : PSs X st fun E σ H => ∃ Z ρ d cb', StaJ X.K (He.ga X.K) c a dx Z0 H0 fp0 Z H σ ρ (ns ++ [f]) (ds ++ [d]) cb' ∧ PostJ X.K (He.ga X.K) W c a dx Z0 H0 fp0 σ ρ (ns ++ [f]) (ds ++ [d]) cb' fs (t ρ) (t0 ρ) E := by
    refine ⟨fun pins s σ H E I hq => ?_⟩
    obtain ⟨Z, ρ, d, cb', s1, q⟩ := hq
    refine (h.run a dx Z0 H0 fp0 (ns ++ [f]) (ds ++ [d]) cb' (fun x hx hm => ?_) (by simp only [List.length_append, List.length_cons, List.length_nil] at h2 ⊢; omega)).run pins s σ H E I ⟨Z, ρ, s1, q⟩
    rcases List.mem_append.mp hm with hm | hm
    · exact h1 x (List.mem_cons_of_mem _ hx) hm
    · exact hff ((List.mem_singleton.mp hm) ▸ hx)
  refine PSs.weak (pss_cons (ps_fld hsf he.run hs) P) ?_
  intro E σ H hq
  obtain ⟨Z, ρ, s, q⟩ := hq
  refine ⟨Z, ρ, s.b.rel, ?_⟩
  unfold iFld iFldU at q
  cases ec : g ρ with
  | ok d =>
    rw [ec] at q
    intro v Z' H' fp g1 dn nd fr
    obtain ⟨fs', e1, e2, s'⟩ := s.put (f := f) g1 dn nd fr (h1 f List.mem_cons_self)
    refine ⟨.ref a, s.b.s0, a, He.ga X.K c, dx, fs', rfl, e1, hc, hn, by rw [e2]; simp only [List.length_cons] at h2; omega, frzH Z' H' fp, ρ, d.frz, _, s', ?_⟩
    have q : PostJ X.K (He.ga X.K) W c a dx Z0 H0 fp0 σ ρ ns ds cb (f :: fs) (t ρ >>= fun es => .ok (d.frz :: es)) (t0 ρ >>= fun es => .ok (d :: es)) E := q
    cases et : t ρ with
    | ok es =>
      rw [et] at q
      have q : ∀ Z H, StaJ X.K (He.ga X.K) c a dx Z0 H0 fp0 Z H σ ρ (ns ++ (f :: fs)) (ds ++ (d.frz :: es)) (cb && clO (t0 ρ >>= fun es => .ok (d :: es))) → E.nx σ H := q
      have ecb : (cb && clO (t0 ρ >>= fun es => .ok (d :: es))) = ((cb && d.cln) && clO (t0 ρ)) := by
        cases t0 ρ with
        | ok es0 => show (cb && (d.cln && D.clns es0)) = _; rw [Bool.and_assoc]; rfl
        | ex c ns xs => show (cb && false) = ((cb && d.cln) && false); simp
        | bad => show (cb && false) = ((cb && d.cln) && false); simp
      rw [List.append_cons, List.append_cons ds, ecb] at q
      exact q
    | ex cn ms xs => rw [et] at q; exact q
    | bad => rw [et] at q; exact q.elim
  | ex cn ms xs => rw [ec] at q; exact fun dc Z' H' g1 x => q dc Z' H' (s.b.g.trans g1) x
  | bad => rw [ec] at q; exact q
end
def PostFJ (K : PySem.W.Frag) (cl : Str → Addr) (Z H : Hp) (fp0 : Fp) (o : Ou D) (cb : Bool) (Q : VK) (E : XK) : Prop := match o with
  | .ok d => ∀ v Z' H', Gr Z H Z' H' → Den K cl Z' H' d v [] → (cb = true → Den K cl (cutH Z' fp0) H' d v []) → Q v H'
  | .ex c ns xs => ∀ dc Z' H', Gr Z H Z' H' → ExD K cl Z' H' ns xs dc → E (.ref (cl c)) dc H'
  | .bad => False
def spFJ (K : PySem.W.Frag) (n : Nat) (F : List D → Ou D) (C : List D → Bool) : Sp := fun vs H Q E => vs.length = n ∧ ∃ Z ds fp0, Ex Z H ∧ TabsK K Z ∧ Dens K (He.ga K) Z H ds vs [] ∧ (∀ x ∈ fp0, ∃ xs : Mo, Z x = some xs.o) ∧ PostFJ K (He.ga K) Z H fp0 (F ds) (C ds) Q E
def spJ (K : PySem.W.Frag) (c : Str) (n : Nat) (F : List D → Ou D) (C : List D → Bool) : Sp := fun vs H Q E => ∃ a dx ws H0, vs = .ref a :: ws ∧ ws.length = n ∧ H = upd (upd H0 dx (.own a)) a (.ins (He.ga K c) dx []) ∧ H0 a = none ∧ H0 dx = none ∧ dx ≠ a ∧ spFJ K n F C ws H0 (fun v H' => v = .ref a → Q .non H') E
def runC (n : Nat) (t0 : DL.Env → Ou (List D)) (ds : List D) : Bool := clO (t0 (some (.adr 0) :: (ds.map some ++ List.replicate (n - (ds.length + 1)) none)))
structure DnJ (P : Program) (w : World) (K : PySem.W.Frag) (mg : Str → Option Value) (base : Heap) (k : Nat) (c : Str) (n : Nat) (F : List D → Ou D) (C : List D → Bool) : Prop where
  ex : ∃ (f : Addr) (fd : FuncData) (ps : List Str), Mk K (He.ga K c) f ∧ FnOk P w K mg base (L2.CX P w) k f fd ps (spJ K c n F C) ∧ Binds K fd ps []
theorem DnJ.of {P : Program} {w : World} {K : PySem.W.Frag} {mg : Str → Option Value} {base : Heap} {k n : Nat} {c : Str} {F : List D → Ou D} {C : List D → Bool} {fd : FuncData} {ps fs : List Str} (h : chkMk c fs K = true) (ok : FnOk P w K mg base (L2.CX P w) k (He.fAd K (c, some "__init__")) fd ps (spJ K c n F C)) (hb : Binds K fd ps []) : DnJ P w K mg base k c n F C :=
  ⟨_, fd, ps, chkMk_mk h, ok, hb⟩
def callRJ (F : List D → Ou D) (C : List D → Bool) (ds : List D) : Ou D := match F (D.frzs ds) with
  | .ok d => if D.fzs ds || d.cln || (C (D.frzs ds) && d.fz) then .ok d else .bad
  | .ex c ns xs => if D.fzs ds || D.clns xs then .ex c ns xs else .bad
  | .bad => .bad
def dCallJ (F : List D → Ou D) (C : List D → Bool) (t : DL.Env → Ou (List D)) : DL.Env → Ou D := fun ρ => t ρ >>= callRJ F C
@[simp] theorem x_dCallJ (ρ : DL.Env) (F : List D → Ou D) (C : List D → Bool) (t : DL.Env → Ou (List D)) : dCallJ F C t ρ = (t ρ >>= callRJ F C) := (rfl)
theorem spFJ.mono {K : PySem.W.Frag} {n : Nat} {F : List D → Ou D} {C : List D → Bool} {vs : List V} {H : Hp} {Q Q' : VK} {E : XK} (k : ∀ v H', Q v H' → Q' v H') (h : spFJ K n F C vs H Q E) : spFJ K n F C vs H Q' E := by
  obtain ⟨hl, Z, ds, fp0, ez, tk, dn, lf, q⟩ := h
  refine ⟨hl, Z, ds, fp0, ez, tk, dn, lf, ?_⟩
  cases e : F ds with
  | ok d => rw [e] at q; exact fun v Z' H' g h1 h2 => k v H' (q v Z' H' g h1 h2)
  | ex c ns xs => rw [e] at q; exact q
  | bad => rw [e] at q; exact q.elim
section
variable {X : Cx} {W : WX} {k j n : Nat} {e : Expr} {es : List Expr} {t : DL.Env → Ou (List D)} {pos p : Pos} {x : Str} {F : List D → Ou D} {Cn : List D → Bool}
end
end DL
namespace DL
open PySem PySem.Spec PyProof.Rows L2
variable [Tb]
def sMvN (m i : Nat) : Env → Os := fun ρ => match ρ[i]? with
  | some (some (.lst true xs)) => if m < ρ.length then .nx ((ρ.set i (some (.adr 0))).set m (some (.lst true xs))) else .bad
  | _ => .bad
section
variable {K : PySem.W.Frag} {cl : Str → Addr} {Z0 H0 Z H : Hp} {σ : L2.St} {ρ : Env}
end
section
variable {X : Cx} {W : WX} {pos : Pos}
end
end DL
namespace DL
open PySem PySem.Spec PyProof.Rows L2
variable [Tb]
def frzO : Option D → Option D := fun o => o.map D.frz
def frzE (ρ : Env) : Env := ρ.map frzO
@[simp] theorem frzE_nil : frzE [] = [] := (rfl)
@[simp] theorem frzE_cons (o : Option D) (ρ : Env) : frzE (o :: ρ) = frzO o :: frzE ρ := (rfl)
@[simp] theorem frzO_none : frzO none = none := (rfl)
@[simp] theorem frzO_some (d : D) : frzO (some d) = some d.frz := (rfl)
section
variable {K : PySem.W.Frag} {cl : Str → Addr} {Z H Z' H' Z0 H0 : Hp} {σ : L2.St}
theorem Slots.frzAll {Y : Hp} (e : Ex Z Y) : ∀ {ρ : Env} {σ : L2.St} {fp : Fp}, (∀ a ∈ fp, Y a = H a) → Slots K cl Z H ρ σ fp → Slots K cl Y H' (frzE ρ) σ []
  | [], _, _, _, h => ⟨h.1, rfl⟩
  | none :: ρ, σ, fp, k, h => by
    obtain ⟨o, σ', e1, r⟩ := h
    exact ⟨o, σ', e1, Slots.frzAll e k r⟩
  | some d :: ρ, σ, fp, k, h => by
    obtain ⟨v, σ', f1, f2, e1, e2, q, r⟩ := h
    subst e2
    exact ⟨v, σ', [], [], e1, rfl, Den.freeze e d v f1 (fun a ha => k a (List.mem_append_left _ ha)) q, Slots.frzAll e (fun a ha => k a (List.mem_append_right _ ha)) r⟩
theorem RelS.snap {ρ : Env} (r : RelS K cl Z H σ ρ) : ∃ fp, Slots K cl Z H ρ σ fp ∧ RelS K cl (frzH Z H fp) H σ (frzE ρ) := by
  obtain ⟨s, t, fp, h, nd⟩ := r
  have own : ∀ a ∈ fp, Z a = none := fun a ha => (Slots.own h a ha).1
  have lo : ∀ a ∈ fp, ∃ xs : Mo, H a = some xs.o := fun a ha => (Slots.own h a ha).2
  have ez := frzH_ex (H := H) own
  exact ⟨fp, h, frzH_to s lo, t.ex ez, [], Slots.frzAll ez (fun a ha => if_pos ha) h, List.nodup_nil⟩
theorem Gr.thaw {fp : Fp} {Z2 H2 : Hp} (own : ∀ a ∈ fp, Z a = none) (own2 : ∀ a ∈ fp, ∃ xs : Mo, H a = some xs.o) (g : Gr (frzH Z H fp) H Z2 H2) :
    Gr Z H (cutH Z2 fp) H2 ∧ ∀ a, cutH Z2 fp a = Z2 a ∨ (cutH Z2 fp a = none ∧ ∃ xs : Mo, Z2 a = some xs.o) := by
  have ez := frzH_ex (H := H) own
  refine ⟨⟨(ez.trans g.z).chg fun a => ?_, g.h, cutH_sub.trans g.s, fun a h1 h2 => ?_⟩, fun a => ?_⟩
  · by_cases hm : a ∈ fp
    · obtain ⟨xs, e⟩ := own2 a hm
      exact .inr ⟨own a hm, xs, g.z.l ((if_pos hm).trans e)⟩
    · exact .inl (if_neg hm)
  · by_cases hm : a ∈ fp
    · exact if_pos hm
    · exact (if_neg hm).trans (g.n a h1 ((if_neg hm).trans h2))
  · by_cases hm : a ∈ fp
    · obtain ⟨xs, e⟩ := own2 a hm
      exact .inr ⟨if_pos hm, xs, g.z.l ((if_pos hm).trans e)⟩
    · exact .inl (if_neg hm)
theorem Slots.own1 {ρ : Env} {fp : Fp} (h : Slots K cl Z H ρ σ fp) : ∀ a ∈ fp, Z a = none := fun a ha => (Slots.own h a ha).1
theorem Slots.own2 {ρ : Env} {fp : Fp} (h : Slots K cl Z H ρ σ fp) : ∀ a ∈ fp, ∃ xs : Mo, H a = some xs.o := fun a ha => (Slots.own h a ha).2
end
def dSnap (f : Env → Ou D) : Env → Ou D := fun ρ => match f (frzE ρ) with
  | .ok d => if d.cln then .ok d else .bad
  | .ex c ns xs => if D.clns xs then .ex c ns xs else .bad
  | .bad => .bad
def bSnap (f : Env → Ou Bool) : Env → Ou Bool := fun ρ => match f (frzE ρ) with
  | .ok d => .ok d
  | .ex c ns xs => if D.clns xs then .ex c ns xs else .bad
  | .bad => .bad
section
variable {X : Cx} {W : WX} {e : Expr} {f : Env → Ou D} {b : Env → Ou Bool}
theorem DE.snap (h : DE X W e f) : DE X W e (dSnap f) := by
  refine ⟨PE.weak h.run fun σ H Q ⟨Z, ρ, r, q⟩ => ?_⟩
  obtain ⟨fp, sl, r1⟩ := r.snap
  refine ⟨_, _, r1, ?_⟩
  unfold dSnap at q
  cases ef : f (frzE ρ) with
  | ok d =>
    rw [ef] at q
    have q : PostO X.K (He.ga X.K) W Z H σ (if d.cln then .ok d else .bad) Q := q
    split at q
    · rename_i c
      intro v Z2 H2 fq g dn nd fr
      obtain ⟨g', kk⟩ := g.thaw sl.own1 sl.own2
      exact q v _ H2 fq g' (Den.clean kk d v fq c dn) nd fr
    · exact q.elim
  | ex c ns xs =>
    rw [ef] at q
    have q : PostO X.K (He.ga X.K) W Z H σ (if D.clns xs then .ex c ns xs else .bad) Q := q
    split at q
    · rename_i cc
      intro dc Z2 H2 g x
      obtain ⟨g', kk⟩ := g.thaw sl.own1 sl.own2
      exact q dc _ H2 g' (ExD.clean kk cc x)
    · exact q.elim
  | bad => rw [ef] at q; exact q.elim
theorem DT.snap (h : DT X W e b) : DT X W e (bSnap b) := by
  refine ⟨PT.weak h.run fun σ H Q ⟨Z, ρ, r, q⟩ => ?_⟩
  obtain ⟨fp, sl, r1⟩ := r.snap
  refine ⟨_, _, r1, ?_⟩
  unfold bSnap at q
  cases ef : b (frzE ρ) with
  | ok d =>
    rw [ef] at q
    intro Z2 H2 g
    obtain ⟨g', kk⟩ := g.thaw sl.own1 sl.own2
    exact q _ H2 g'
  | ex c ns xs =>
    rw [ef] at q
    have q : PostT X.K (He.ga X.K) W Z H σ (if D.clns xs then .ex c ns xs else .bad) Q := q
    split at q
    · rename_i cc
      intro dc Z2 H2 g x
      obtain ⟨g', kk⟩ := g.thaw sl.own1 sl.own2
      exact q dc _ H2 g' (ExD.clean kk cc x)
    · exact q.elim
  | bad => rw [ef] at q; exact q.elim
end
section
variable {K : PySem.W.Frag} {cl : Str → Addr} {Z H Z' H' Z0 H0 : Hp}
theorem Slots.out1 : ∀ {ρ : Env} {σ : L2.St} {fp : Fp} {i : Nat} {d : D}, Slots K cl Z H ρ σ fp → ρ[i]? = some (some d) →
    ∃ (v : V) (f rest : Fp), σ[i]? = some (some v) ∧ Den K cl Z H d v f ∧ fp.Perm (f ++ rest) ∧ Slots K cl Z H (ρ.set i none) σ rest
  | [], _, _, _, _, _, e => by simp at e
  | none :: ρ, σ, fp, 0, d, h, e => by simp at e
  | none :: ρ, σ, fp, i + 1, d, h, e => by
    obtain ⟨o, σ', e1, r⟩ := h
    subst e1
    obtain ⟨v, f, rest, h1, h2, h3, h4⟩ := Slots.out1 (i := i) r (by simpa using e)
    exact ⟨v, f, rest, by simpa using h1, h2, h3, o, σ', rfl, h4⟩
  | some x :: ρ, σ, fp, 0, d, h, e => by
    obtain ⟨v, σ', f1, f2, e1, e2, q, r⟩ := h
    have e' : x = d := by simpa using e
    subst e' e1 e2
    exact ⟨v, f1, f2, rfl, q, List.Perm.refl _, some v, σ', rfl, r⟩
  | some x :: ρ, σ, fp, i + 1, d, h, e => by
    obtain ⟨v, σ', f1, f2, e1, e2, q, r⟩ := h
    subst e1 e2
    obtain ⟨u, f, rest, h1, h2, h3, h4⟩ := Slots.out1 (i := i) r (by simpa using e)
    refine ⟨u, f, f1 ++ rest, by simpa using h1, h2, ?_, v, σ', f1, rest, rfl, rfl, q, h4⟩
    refine (List.Perm.append_left f1 h3).trans ?_
    rw [← List.append_assoc, ← List.append_assoc]
    exact List.Perm.append_right rest List.perm_append_comm
theorem Slots.in1 : ∀ {ρ : Env} {σ : L2.St} {rest : Fp} {i : Nat} {d : D} {v : V} {f : Fp}, Slots K cl Z H ρ σ rest → ρ[i]? = some none → σ[i]? = some (some v) → Den K cl Z H d v f →
    ∃ fp', Slots K cl Z H (ρ.set i (some d)) σ fp' ∧ fp'.Perm (f ++ rest)
  | [], _, _, _, _, _, _, _, e, _, _ => by simp at e
  | none :: ρ, σ, fp, 0, d, v, f, h, e, e2, q => by
    obtain ⟨o, σ', e1, r⟩ := h
    subst e1
    have e3 : o = some v := by simpa using e2
    subst e3
    exact ⟨f ++ fp, ⟨v, σ', f, fp, rfl, rfl, q, r⟩, List.Perm.refl _⟩
  | none :: ρ, σ, fp, i + 1, d, v, f, h, e, e2, q => by
    obtain ⟨o, σ', e1, r⟩ := h
    subst e1
    obtain ⟨fp', h1, h2⟩ := Slots.in1 (i := i) r (by simpa using e) (by simpa using e2) q
    exact ⟨fp', ⟨o, σ', rfl, h1⟩, h2⟩
  | some x :: ρ, σ, fp, 0, d, v, f, h, e, e2, q => by simp at e
  | some x :: ρ, σ, fp, i + 1, d, v, f, h, e, e2, q => by
    obtain ⟨u, σ', f1, f2, e1, e3, q1, r⟩ := h
    subst e1 e3
    obtain ⟨fp', h1, h2⟩ := Slots.in1 (i := i) r (by simpa using e) (by simpa using e2) q
    refine ⟨f1 ++ fp', ⟨u, σ', f1, fp', rfl, rfl, q1, h1⟩, ?_⟩
    refine (List.Perm.append_left f1 h2).trans ?_
    rw [← List.append_assoc, ← List.append_assoc]
    exact List.Perm.append_right f2 List.perm_append_comm
end
def takeL : List Nat → Env → Option (List D × Env)
  | [], ρ => some ([], ρ)
  | i :: io, ρ => match ρ[i]? with
    | some (some d) => (takeL io (ρ.set i none)).map fun p => (d :: p.1, p.2)
    | _ => none
def putL : List Nat → List D → Env → Env
  | i :: io, d :: ds, ρ => putL io ds (ρ.set i (some d))
  | _, _, ρ => ρ
def ValsAt (σ : L2.St) : List Nat → List V → Prop
  | [], vs => vs = []
  | i :: io, vs => ∃ v vr, vs = v :: vr ∧ σ[i]? = some (some v) ∧ ValsAt σ io vr
section
variable {K : PySem.W.Frag} {cl : Str → Addr} {Z H Z' H' Z0 H0 : Hp} {σ : L2.St}
theorem takeL_none : ∀ {io : List Nat} {ρ ρ' : Env} {ds : List D}, takeL io ρ = some (ds, ρ') → ρ'.length = ρ.length ∧ (∀ i : Nat, ρ[i]? = some none → ρ'[i]? = some none) ∧ (∀ i ∈ io, ρ'[i]? = some none) ∧ (∀ i ∈ io, ρ[i]? ≠ some none) ∧ io.Nodup
  | [], ρ, ρ', ds, h => by
    cases h
    exact ⟨rfl, fun _ h => h, by simp, by simp, List.nodup_nil⟩
  | i :: io, ρ, ρ', ds, h => by
    unfold takeL at h
    split at h
    · rename_i d e
      match e2 : takeL io (ρ.set i none) with
      | none => rw [e2] at h; cases h
      | some (ds2, ρ2) =>
        rw [e2] at h
        cases h
        obtain ⟨h1, h2, h3, h4, h5⟩ := takeL_none e2
        have li : i < ρ.length := by
          rcases Nat.lt_or_ge i ρ.length with h | h
          · exact h
          · rw [List.getElem?_eq_none h] at e; cases e
        refine ⟨by rw [h1, List.length_set], fun j hj => h2 j ?_, fun j hj => ?_, fun j hj => ?_, List.nodup_cons.mpr ⟨fun hm => h4 i hm ?_, h5⟩⟩
        · by_cases c : i = j
          · subst c; rw [e] at hj; cases hj
          · rw [List.getElem?_set_ne c]; exact hj
        · rcases List.mem_cons.mp hj with c | c
          · subst c
            exact h2 j (by rw [List.getElem?_set_self li])
          · exact h3 j c
        · rcases List.mem_cons.mp hj with c | c
          · subst c; rw [e]; exact fun z => nomatch z
          · have := h4 j c
            by_cases c2 : i = j
            · subst c2; rw [e]; exact fun z => nomatch z
            · rw [List.getElem?_set_ne c2] at this; exact this
        · rw [List.getElem?_set_self li]
    · cases h
theorem Slots.outs : ∀ {io : List Nat} {ρ ρ' : Env} {ds : List D} {fp : Fp}, takeL io ρ = some (ds, ρ') → Slots K cl Z H ρ σ fp →
    ∃ vs fi fo, fp.Perm (fi ++ fo) ∧ ValsAt σ io vs ∧ Dens K cl Z H ds vs fi ∧ Slots K cl Z H ρ' σ fo
  | [], ρ, ρ', ds, fp, h, s => by
    cases h
    exact ⟨[], [], fp, List.Perm.refl _, rfl, ⟨rfl, rfl⟩, s⟩
  | i :: io, ρ, ρ', ds, fp, h, s => by
    unfold takeL at h
    split at h
    · rename_i d e
      match e2 : takeL io (ρ.set i none) with
      | none => rw [e2] at h; cases h
      | some (ds2, ρ2) =>
        rw [e2] at h
        cases h
        obtain ⟨v, f, rest, h1, h2, h3, h4⟩ := s.out1 e
        obtain ⟨vs, fi, fo, k1, k2, k3, k4⟩ := Slots.outs e2 h4
        exact ⟨v :: vs, f ++ fi, fo, by
          rw [List.append_assoc]
          exact h3.trans (List.Perm.append_left f k1), ⟨v, vs, rfl, h1, k2⟩, Dens.cons h2 k3, k4⟩
    · cases h
theorem Slots.ins : ∀ {io : List Nat} {ρ : Env} {ds : List D} {vs : List V} {fi fo : Fp}, (∀ i ∈ io, ρ[i]? = some none) → io.Nodup → ValsAt σ io vs → Dens K cl Z H ds vs fi → Slots K cl Z H ρ σ fo →
    ∃ fp, Slots K cl Z H (putL io ds ρ) σ fp ∧ fp.Perm (fi ++ fo)
  | [], ρ, ds, vs, fi, fo, _, _, hv, hd, s => by
    have hv : vs = [] := hv
    subst hv
    cases ds with
    | nil =>
      have : fi = [] := hd.2
      subst this
      exact ⟨fo, s, List.Perm.refl _⟩
    | cons d ds => exact absurd hd.length (by simp)
  | i :: io, ρ, ds, vs, fi, fo, hn, nd, hv, hd, s => by
    obtain ⟨v, vr, e1, e2, hv⟩ := hv
    subst e1
    cases ds with
    | nil => exact absurd hd.length (by simp)
    | cons d ds =>
      obtain ⟨u, ur, f1, f2, e3, e4, q, r⟩ := hd.cons'
      cases e3
      subst e4
      obtain ⟨nd1, nd2⟩ := List.nodup_cons.mp nd
      obtain ⟨fp1, s1, p1⟩ := s.in1 (hn i List.mem_cons_self) e2 q
      obtain ⟨fp2, s2, p2⟩ := Slots.ins (io := io) (ρ := ρ.set i (some d)) (fun j hj => by
        rw [List.getElem?_set_ne (fun (c : i = j) => nd1 (c ▸ hj))]
        exact hn j (List.mem_cons_of_mem _ hj)) nd2 hv r s1
      refine ⟨fp2, s2, p2.trans ?_⟩
      refine (List.Perm.append_left f2 p1).trans ?_
      rw [← List.append_assoc]
      exact List.Perm.append_right fo List.perm_append_comm
end
end DL
namespace DL
open PySem PySem.Spec PyProof.Rows L2
variable [Tb]
def adr1 (a : Addr) : D → D
  | .own _ c ns xs => .own (some a) c ns xs
  | .lst true xs => .lsa a xs
  | .lsa _ xs => .lsa a xs
  | d => d
def adrL : List Addr → List D → List D
  | a :: as, d :: ds => adr1 a d :: adrL as ds
  | _, _ => []
def can : D → Option D
  | .own _ c ns xs => some (.own none c ns xs)
  | .lst true xs => some (.lst true xs)
  | .lsa _ xs => some (.lst true xs)
  | _ => none
def canL : List D → Option (List D)
  | [] => some []
  | d :: ds => match can d, canL ds with
    | some c, some cs => some (c :: cs)
    | _, _ => none
def back : D → D → D
  | .own oa _ _ _, .own none c ns xs => .own oa c ns xs
  | .lsa a _, .lst true xs => .lsa a xs
  | _, d => d
def backL : List D → List D → List D
  | x :: xs, d :: ds => back x d :: backL xs ds
  | _, _ => []
section
variable {K : PySem.W.Frag} {cl : Str → Addr} {Z H Z' H' Z0 H0 : Hp} {σ : L2.St}
theorem Den.adr1 {d c : D} {v : V} {f : Fp} (hc : can d = some c) (h : Den K cl Z H d v f) : ∃ a, v = .ref a ∧ Den K cl Z H (adr1 a c) v f := by
  cases d with
  | own oa c1 ns xs =>
    cases hc
    simp only [Den] at h
    obtain ⟨a, dx, vs, fq, e0, e1, e2, z, q, m, l, r⟩ := h
    refine ⟨a, e1, ?_⟩
    unfold DL.adr1
    simp only [Den]
    exact ⟨a, dx, vs, fq, fun b hb => (Option.some.inj hb).symm, e1, e2, z, q, m, l, r⟩
  | lst o xs =>
    cases o with
    | false => cases hc
    | true =>
      cases hc
      simp only [Den] at h
      obtain ⟨a, vs, fq, e1, e2, z, q, r⟩ := h
      refine ⟨a, e1, ?_⟩
      unfold DL.adr1
      simp only [Den]
      exact ⟨vs, fq, e1, e2, z, q, r⟩
  | lsa a xs =>
    cases hc
    simp only [Den] at h
    obtain ⟨vs, fq, e1, e2, z, q, r⟩ := h
    refine ⟨a, e1, ?_⟩
    unfold DL.adr1
    simp only [Den]
    exact ⟨vs, fq, e1, e2, z, q, r⟩
  | _ => cases hc
theorem Dens.adrL : ∀ {ds cs : List D} {vs : List V} {f : Fp}, canL ds = some cs → Dens K cl Z H ds vs f → ∃ as : List Addr, as.length = cs.length ∧ vs = as.map V.ref ∧ Dens K cl Z H (adrL as cs) vs f
  | [], cs, vs, f, hc, h => by
    cases hc
    exact ⟨[], rfl, h.1, h⟩
  | d :: ds, cs, vs, f, hc, h => by
    unfold canL at hc
    cases e1 : can d with
    | none => rw [e1] at hc; cases hc
    | some c =>
      cases e2 : canL ds with
      | none => rw [e1, e2] at hc; cases hc
      | some cr =>
        rw [e1, e2] at hc
        cases hc
        obtain ⟨v, vr, f1, f2, e3, e4, q, r⟩ := h.cons'
        subst e3 e4
        obtain ⟨a, ea, qa⟩ := q.adr1 e1
        obtain ⟨as, el, ev, ra⟩ := Dens.adrL e2 r
        exact ⟨a :: as, by rw [List.length_cons, List.length_cons, el], by rw [ea, ev]; rfl, Dens.cons qa ra⟩
theorem Den.back {x d c : D} {v u : V} {a : Addr} {f g : Fp} {Y G : Hp} (hc : can d = some d) (hx : can x = some c) (h0 : Den K cl Y G x v g) (ev : v = .ref a) (h : Den K cl Z H (DL.adr1 a d) u f) : u = v ∧ Den K cl Z H (back x d) v f := by
  cases d with
  | own oa c1 ns xs =>
    have e0 : oa = none := by
      have := Option.some.inj hc
      injection this with h1
      exact h1.symm
    subst e0
    have h2 : Den K cl Z H (.own (some a) c1 ns xs) u f := h
    simp only [Den] at h2
    obtain ⟨b, dx, vs, fq, e0, e1, e2, z, q, m, l, r⟩ := h2
    have eb : a = b := e0 a rfl
    subst eb
    refine ⟨e1.trans ev.symm, ?_⟩
    cases x with
    | own ox cx nx yx =>
      unfold DL.back
      simp only [Den] at h0 ⊢
      obtain ⟨b, dx2, vs2, fq2, k0, k1, _⟩ := h0
      have eb : a = b := by rw [ev] at k1; cases k1; rfl
      subst eb
      exact ⟨a, dx, vs, fq, k0, ev, e2, z, q, m, l, r⟩
    | lst o ys =>
      have : DL.back (.lst o ys) (.own none c1 ns xs) = .own none c1 ns xs := rfl
      rw [this]
      simp only [Den]
      exact ⟨a, dx, vs, fq, by simp, ev, e2, z, q, m, l, r⟩
    | lsa b ys =>
      have : DL.back (.lsa b ys) (.own none c1 ns xs) = .own none c1 ns xs := rfl
      rw [this]
      simp only [Den]
      exact ⟨a, dx, vs, fq, by simp, ev, e2, z, q, m, l, r⟩
    | _ => cases hx
  | lst o xs =>
    cases o with
    | false => cases hc
    | true =>
      have h2 : Den K cl Z H (.lsa a xs) u f := h
      simp only [Den] at h2
      obtain ⟨vs, fq, e1, e2, z, q, r⟩ := h2
      refine ⟨e1.trans ev.symm, ?_⟩
      cases x with
      | own ox cx nx yx =>
        have : DL.back (.own ox cx nx yx) (.lst true xs) = .lst true xs := rfl
        rw [this]
        simp only [Den]
        exact ⟨a, vs, fq, ev, e2, z, q, r⟩
      | lst o ys =>
        have : DL.back (.lst o ys) (.lst true xs) = .lst true xs := by cases o <;> rfl
        rw [this]
        simp only [Den]
        exact ⟨a, vs, fq, ev, e2, z, q, r⟩
      | lsa b ys =>
        unfold DL.back
        simp only [Den] at h0 ⊢
        obtain ⟨vs2, fq2, k1, _⟩ := h0
        have eb : a = b := by rw [ev] at k1; cases k1; rfl
        subst eb
        exact ⟨vs, fq, ev, e2, z, q, r⟩
      | _ => cases hx
  | lsa b xs => cases hc
  | _ => cases hc
theorem Dens.back : ∀ {xs ds cs : List D} {vs us : List V} {as : List Addr} {f g : Fp} {Y G : Hp}, canL ds = some ds → canL xs = some cs → Dens K cl Y G xs vs g → vs = as.map V.ref → ds.length = xs.length → Dens K cl Z H (DL.adrL as ds) us f → us = vs ∧ Dens K cl Z H (backL xs ds) vs f
  | [], ds, cs, vs, us, as, f, g, Y, G, hc, hx, h0, ev, hl, h => by
    have e : ds = [] := List.length_eq_zero_iff.mp hl
    subst e
    have ev0 : vs = [] := h0.1
    subst ev0
    have ea : as = [] := by simpa using ev.symm
    subst ea
    exact ⟨h.1, rfl, h.2⟩
  | x :: xs, [], _, _, _, _, _, _, _, _, _, _, _, _, hl, _ => by cases hl
  | x :: xs, d :: ds, cs, vs, us, as, f, g, Y, G, hc, hx, h0, ev, hl, h => by
    obtain ⟨v, vr, g1, g2, k1, k2, q0, r0⟩ := h0.cons'
    subst k1 k2
    cases as with
    | nil => cases ev
    | cons a as =>
      have ev1 : v = .ref a ∧ vr = as.map V.ref := by simpa using ev
      have h2 : Dens K cl Z H (DL.adr1 a d :: DL.adrL as ds) us f := h
      obtain ⟨u, ur, f1, f2, e1, e2, q, r⟩ := h2.cons'
      subst e1 e2
      unfold canL at hc hx
      cases c1 : can d with
      | none => rw [c1] at hc; cases hc
      | some c =>
        cases c2 : canL ds with
        | none => rw [c1, c2] at hc; cases hc
        | some cr =>
          rw [c1, c2] at hc
          have hc' := Option.some.inj hc
          injection hc' with h5 h6
          subst h5 h6
          cases c3 : can x with
          | none => rw [c3] at hx; cases hx
          | some y =>
            cases c4 : canL xs with
            | none => rw [c3, c4] at hx; cases hx
            | some yr =>
              obtain ⟨a1, a2⟩ := Den.back c1 c3 q0 ev1.1 q
              obtain ⟨b1, b2⟩ := Dens.back c2 c4 r0 ev1.2 (Nat.succ.inj hl) r
              subst a1 b1
              exact ⟨rfl, Dens.cons a2 b2⟩
end
def mix {α : Type} : List Bool → List α → List α → List α
  | true :: b, i :: is, as => i :: mix b is as
  | false :: b, is, a :: as => a :: mix b is as
  | _, _, _ => []
def mixOk : List Bool → Nat → Nat → Bool
  | [], 0, 0 => true
  | true :: b, n + 1, m => mixOk b n m
  | false :: b, n, m + 1 => mixOk b n m
  | _, _, _ => false
section
variable {K : PySem.W.Frag} {cl : Str → Addr} {Z H Z' H' Z0 H0 : Hp} {σ : L2.St}
theorem Dens.mix : ∀ {b : List Bool} {is as : List D} {vs us : List V} {f : Fp}, mixOk b is.length as.length = true → Dens K cl Z H is vs f → Dens K cl Z H as us [] → Dens K cl Z H (DL.mix b is as) (DL.mix b vs us) f
  | [], is, as, vs, us, f, hm, hi, ha => by
    cases is with
    | cons => cases hm
    | nil => exact ⟨rfl, hi.2⟩
  | true :: b, [], as, vs, us, f, hm, hi, ha => by cases as <;> cases hm
  | true :: b, i :: is, as, vs, us, f, hm, hi, ha => by
    obtain ⟨v, vr, f1, f2, e1, e2, q, r⟩ := hi.cons'
    subst e1 e2
    exact Dens.cons q (Dens.mix hm r ha)
  | false :: b, is, [], vs, us, f, hm, hi, ha => by cases is <;> cases hm
  | false :: b, is, a :: as, vs, us, f, hm, hi, ha => by
    obtain ⟨v, vr, f1, f2, e1, e2, q, r⟩ := ha.cons'
    obtain ⟨e3, e4⟩ := List.append_eq_nil_iff.mp e2.symm
    subst e1 e3 e4
    exact Dens.cons (f := []) q (Dens.mix (b := b) hm hi r)
theorem mix_len {α : Type} : ∀ {b : List Bool} {is as : List α}, mixOk b is.length as.length = true → (mix b is as).length = b.length
  | [], is, as, h => rfl
  | true :: b, [], as, h => by cases as <;> cases h
  | true :: b, i :: is, as, h => by show (mix b is as).length + 1 = _; rw [mix_len (b := b) h]; rfl
  | false :: b, is, [], h => by cases is <;> cases h
  | false :: b, is, a :: as, h => by show (mix b is as).length + 1 = _; rw [mix_len (b := b) h]; rfl
end
def PostFM (K : PySem.W.Frag) (cl : Str → Addr) (Z H0 : Hp) (ios : List D) (ivs : List V) (o : Ou D) (Q : VK) (E : XK) : Prop := match o with
  | .ok d => PostV K cl Z H0 d Q
  | .ex c ns xs => ∀ dc Z' H' fp, Gr Z H0 Z' H' → ExD K cl Z' H' ns xs dc → Dens K cl Z' H' ios ivs fp → fp.Nodup → (∀ a ∈ fp, H0 a = none) → E (.ref (cl c)) dc H'
  | .bad => False
def spM (K : PySem.W.Frag) (b : List Bool) (F : List D → Ou D) : Sp := fun vs H Q E => vs.length = b.length ∧ ∃ Z as cs args avs fi, Ex Z H ∧ TabsK K Z ∧ canL cs = some cs ∧ as.length = cs.length ∧ mixOk b cs.length args.length = true ∧ vs = mix b (as.map V.ref) avs ∧
  Dens K (He.ga K) Z H (adrL as cs) (as.map V.ref) fi ∧ fi.Nodup ∧ Dens K (He.ga K) Z H args avs [] ∧ PostFM K (He.ga K) Z (cutH H fi) (adrL as cs) (as.map V.ref) (F (mix b (adrL as cs) args)) Q E
inductive MR where
  | ok (d : D) (os : List D)
  | ex (c : Str) (ns : List Str) (xs : List D)
  | bad
def isMR (b : List Bool) (F : List D → Ou D) (cs args : List D) (r : MR) : Prop := ∀ as : List Addr, as.length = cs.length → match r with
  | .ok d os => os.length = cs.length ∧ canL os = some os ∧ F (mix b (adrL as cs) args) = .ok (.wth d (adrL as os))
  | .ex c ns xs => F (mix b (adrL as cs) args) = .ex c ns xs
  | .bad => False
open Classical in
noncomputable def callM (b : List Bool) (F : List D → Ou D) (cs args : List D) : MR := if h : ∃ r, isMR b F cs args r then Classical.choose h else .bad
theorem callM_is {b : List Bool} {F : List D → Ou D} {cs args : List D} (h : callM b F cs args ≠ .bad) : isMR b F cs args (callM b F cs args) := by
  unfold callM at h ⊢
  split
  · rename_i hh
    exact Classical.choose_spec hh
  · rename_i hh
    rw [dif_neg hh] at h
    exact absurd rfl h
theorem adrL_len : ∀ {as : List Addr} {ds : List D}, as.length = ds.length → (adrL as ds).length = ds.length
  | [], [], _ => rfl
  | a :: as, d :: ds, h => by show (adrL as ds).length + 1 = _; rw [adrL_len (Nat.succ.inj h)]; rfl
  | [], d :: ds, h => by cases h
  | a :: as, [], h => by cases h
theorem adr1_inj {a : Addr} {d e : D} (hd : can d = some d) (he : can e = some e) (h : adr1 a d = adr1 a e) : d = e := by
  cases d with
  | own oa c ns xs =>
    have e0 : oa = none := by
      have := Option.some.inj hd
      injection this with h1
      exact h1.symm
    subst e0
    cases e with
    | own ob c2 ns2 xs2 =>
      have e0 : ob = none := by
        have := Option.some.inj he
        injection this with h1
        exact h1.symm
      subst e0
      unfold adr1 at h
      injection h with h1 h2 h3 h4
      rw [h2, h3, h4]
    | lst o xs2 => cases o <;> cases he <;> cases h
    | lsa b xs2 => cases he
    | _ => cases he
  | lst o xs =>
    cases o with
    | false => cases hd
    | true =>
      cases e with
      | own ob c2 ns2 xs2 => cases h
      | lst o2 xs2 =>
        cases o2 with
        | false => cases he
        | true =>
          unfold adr1 at h
          injection h with h1 h2
          rw [h2]
      | lsa b xs2 => cases he
      | _ => cases he
  | lsa b xs => cases hd
  | _ => cases hd
theorem canL_cons {d : D} {ds : List D} (h : canL (d :: ds) = some (d :: ds)) : can d = some d ∧ canL ds = some ds := by
  unfold canL at h
  cases c1 : can d with
  | none => rw [c1] at h; cases h
  | some c =>
    cases c2 : canL ds with
    | none => rw [c1, c2] at h; cases h
    | some cr =>
      rw [c1, c2] at h
      have h' := Option.some.inj h
      injection h' with h5 h6
      rw [h5, h6]
      exact ⟨rfl, rfl⟩
theorem adrL_inj : ∀ {as : List Addr} {ds es : List D}, as.length = ds.length → as.length = es.length → canL ds = some ds → canL es = some es → adrL as ds = adrL as es → ds = es
  | [], [], [], _, _, _, _, _ => rfl
  | a :: as, d :: ds, e :: es, h1, h2, hd, he, h => by
    obtain ⟨d1, d2⟩ := canL_cons hd
    obtain ⟨e1, e2⟩ := canL_cons he
    unfold adrL at h
    injection h with k1 k2
    rw [adr1_inj d1 e1 k1, adrL_inj (Nat.succ.inj h1) (Nat.succ.inj h2) d2 e2 k2]
  | [], d :: ds, _, h, _, _, _, _ => by cases h
  | [], [], e :: es, _, h, _, _, _ => by cases h
  | a :: as, [], _, h, _, _, _, _ => by cases h
  | a :: as, d :: ds, [], _, h, _, _, _ => by cases h
theorem callM_ok {b : List Bool} {F : List D → Ou D} {cs args : List D} {d : D} {os : List D} (h : ∀ as : List Addr, as.length = cs.length → F (mix b (adrL as cs) args) = .ok (.wth d (adrL as os))) (hl : os.length = cs.length) (hc : canL os = some os) : callM b F cs args = .ok d os := by
  have hh : ∃ r, isMR b F cs args r := ⟨.ok d os, fun as ha => ⟨hl, hc, h as ha⟩⟩
  have e : callM b F cs args = Classical.choose hh := by unfold callM; rw [dif_pos hh]
  have sp := Classical.choose_spec hh
  rw [e]
  have z := sp (List.replicate cs.length 0) (by simp)
  have z0 := h (List.replicate cs.length 0) (by simp)
  cases er : Classical.choose hh with
  | ok d2 os2 =>
    rw [er] at z
    obtain ⟨z1, z2, z3⟩ := z
    rw [z0] at z3
    have z4 := Ou.ok.inj z3
    injection z4 with z5 z6
    rw [z5, adrL_inj (by simpa using hl.symm) (by simpa using z1.symm) hc z2 z6]
  | ex c ns xs => rw [er] at z; rw [z0] at z; cases z
  | bad => rw [er] at z; exact z.elim
theorem callM_ex {b : List Bool} {F : List D → Ou D} {cs args : List D} {c : Str} {ns : List Str} {xs : List D} (h : ∀ as : List Addr, as.length = cs.length → F (mix b (adrL as cs) args) = .ex c ns xs) : callM b F cs args = .ex c ns xs := by
  have hh : ∃ r, isMR b F cs args r := ⟨.ex c ns xs, fun as ha => h as ha⟩
  have e : callM b F cs args = Classical.choose hh := by unfold callM; rw [dif_pos hh]
  have sp := Classical.choose_spec hh
  rw [e]
  have z := sp (List.replicate cs.length 0) (by simp)
  have z0 := h (List.replicate cs.length 0) (by simp)
  cases er : Classical.choose hh with
  | ok d2 os2 =>
    rw [er] at z
    obtain ⟨z1, z2, z3⟩ := z
    rw [z0] at z3
    cases z3
  | ex c ns xs =>
    rw [er] at z
    have z : F _ = .ex c ns xs := z
    rw [z0] at z
    injection z with z1 z2 z3
    rw [z1, z2, z3]
  | bad => rw [er] at z; exact z.elim
end DL
namespace DL
open PySem PySem.Spec PyProof.Rows L2
variable [Tb]
inductive OuM where
  | ok (d : D) (ρ : Env)
  | ex (c : Str) (ns : List Str) (xs : List D) (ρ : Env)
  | bad
def OuM.bind (o : OuM) (k : D → Env → OuM) : OuM := match o with
  | .ok d ρ => k d ρ
  | .ex c ns xs ρ => .ex c ns xs ρ
  | .bad => .bad
@[simp] theorem bindM_ok (d : D) (ρ : Env) (k : D → Env → OuM) : OuM.bind (.ok d ρ) k = k d ρ := (rfl)
@[simp] theorem bindM_ex (c : Str) (ns : List Str) (xs : List D) (ρ : Env) (k : D → Env → OuM) : OuM.bind (.ex c ns xs ρ) k = .ex c ns xs ρ := (rfl)
@[simp] theorem bindM_bad (k : D → Env → OuM) : OuM.bind .bad k = .bad := (rfl)
structure StaV (K : PySem.W.Frag) (cl : Str → Addr) (Z0 H0 Z H : Hp) (σ : L2.St) (ρ : Env) (d : D) (v : V) : Prop where
  g : Gr Z0 H0 Z H
  t : TabsK K Z
  e : ∃ fp fq, Slots K cl Z H ρ σ fp ∧ Den K cl Z H d v fq ∧ (fp ++ fq).Nodup ∧ ∀ a ∈ fp ++ fq, H0 a = none
def PostEM (K : PySem.W.Frag) (cl : Str → Addr) (W : WX) (Z0 H0 : Hp) (σ : L2.St) (o : OuM) (Q : VK) : Prop := match o with
  | .ok d ρ => ∀ v Z H, StaV K cl Z0 H0 Z H σ ρ d v → Q v H
  | .ex c ns xs ρ => ∀ dc Z H, Sta K cl Z0 H0 Z H σ ρ → ExD K cl Z H ns xs dc → W (.ref (cl c)) dc σ H
  | .bad => False
def tEM (K : PySem.W.Frag) (cl : Str → Addr) (W : WX) (Z0 H0 : Hp) (f : Env → OuM) : TE := fun σ H Q => ∃ Z ρ, Sta K cl Z0 H0 Z H σ ρ ∧ PostEM K cl W Z0 H0 σ (f ρ) Q
structure DEM (X : Cx) (W : WX) (e : Expr) (f : Env → OuM) : Prop where
  run : ∀ Z0 H0, PE X e (tEM X.K (He.ga X.K) W Z0 H0 f)
section
variable {K : PySem.W.Frag} {cl : Str → Addr} {Z H Z' H' Z0 H0 Z1 H1 Z2 H2 : Hp} {σ : L2.St} {ρ ρ1 : Env}
theorem StaV.sta {d : D} {v : V} (s : StaV K cl Z0 H0 Z H σ ρ d v) : Sta K cl Z0 H0 Z H σ ρ := by
  obtain ⟨g, t, fp, fq, h1, h2, h3, h4⟩ := s
  exact ⟨g, t, fp, h1, (List.nodup_append.mp h3).1, fun a ha => h4 a (List.mem_append_left _ ha)⟩
theorem StaV.gr {d : D} {v : V} (s : StaV K cl Z0 H0 Z H σ ρ d v) (g1 : Gr Z H Z' H') : StaV K cl Z0 H0 Z' H' σ ρ d v := by
  obtain ⟨g, t, fp, fq, h1, h2, h3, h4⟩ := s
  exact ⟨g.trans g1, t.ex g1.z, fp, fq, Slots.mono g1.z (fun a ha => by
    obtain ⟨z, xs, q⟩ := Slots.own h1 a ha
    exact ⟨g1.n a (by rw [q]; exact Option.some_ne_none _) z, by rw [q]; exact g1.h.l q⟩) h1, g1.den h2, h3, h4⟩
theorem adr1_cln (a : Addr) : ∀ d : D, (adr1 a d).cln = d.cln := by
  intro d
  cases d with
  | lst o xs => cases o <;> rfl
  | _ => rfl
theorem adrL_clns : ∀ {as : List Addr} {ds : List D}, as.length = ds.length → D.clns (adrL as ds) = D.clns ds
  | [], [], _ => rfl
  | a :: as, d :: ds, h => by
    show ((adr1 a d).cln && D.clns (adrL as ds)) = (d.cln && D.clns ds)
    rw [adr1_cln, adrL_clns (Nat.succ.inj h)]
  | [], d :: ds, h => by cases h
  | a :: as, [], h => by cases h
theorem can_can {d c : D} (h : can d = some c) : can c = some c := by
  cases d with
  | own oa c1 ns xs => cases h; rfl
  | lst o xs => cases o <;> cases h; rfl
  | lsa a xs => cases h; rfl
  | _ => cases h
theorem canL_can : ∀ {ds cs : List D}, canL ds = some cs → canL cs = some cs ∧ cs.length = ds.length
  | [], cs, h => by cases h; exact ⟨rfl, rfl⟩
  | d :: ds, cs, h => by
    unfold canL at h
    cases c1 : can d with
    | none => rw [c1] at h; cases h
    | some c =>
      cases c2 : canL ds with
      | none => rw [c1, c2] at h; cases h
      | some cr =>
        rw [c1, c2] at h
        cases h
        obtain ⟨k1, k2⟩ := canL_can c2
        exact ⟨by unfold canL; rw [can_can c1, k1], by rw [List.length_cons, List.length_cons, k2]⟩
theorem thawM {fp fi fo fa : Fp} (s : Sta K cl Z0 H0 Z H σ ρ) (hp : fp.Perm (fi ++ fo)) (nd : fp.Nodup) (fr : ∀ a ∈ fp, H0 a = none) (li : ∀ a ∈ fi, ∃ xs : Mo, H a = some xs.o) (so : Slots K cl Z H ρ1 σ fo)
    (g1 : Gr (frzH Z H fo) H Z1 H1) (own : ∀ a ∈ fa, Z1 a = none ∧ ∃ xs : Mo, H1 a = some xs.o) (fra : ∀ a ∈ fa, H a = none) (g2 : Gr (frzH Z1 H1 fa) (cutH H1 fi) Z2 H2) :
    Gr Z0 H0 (cutH Z2 (fo ++ fa)) H2 ∧ TabsK K (cutH Z2 (fo ++ fa)) ∧ Slots K cl (cutH Z2 (fo ++ fa)) H2 ρ1 σ fo ∧ ∀ a, cutH Z2 (fo ++ fa) a = Z2 a ∨ (cutH Z2 (fo ++ fa) a = none ∧ ∃ xs : Mo, Z2 a = some xs.o) := by
  have nd2 : (fi ++ fo).Nodup := hp.nodup_iff.mp nd
  have ndA := List.nodup_append.mp nd2
  have ezs := frzH_ex (H := H) so.own1
  have ezb := frzH_ex (H := H1) fun a ha => (own a ha).1
  have mofo : ∀ a ∈ fo, ∃ xs : Mo, Z2 a = some xs.o := fun a ha => by
    obtain ⟨xs, e⟩ := so.own2 a ha
    exact ⟨xs, g2.z.l (ezb.l (g1.z.l ((if_pos ha).trans e)))⟩
  have mofa : ∀ a ∈ fa, ∃ xs : Mo, Z2 a = some xs.o := fun a ha => by
    obtain ⟨xs, e⟩ := (own a ha).2
    exact ⟨xs, g2.z.l ((if_pos ha).trans e)⟩
  have moff : ∀ a ∈ fo ++ fa, ∃ xs : Mo, Z2 a = some xs.o := fun a ha => (List.mem_append.mp ha).elim (mofo a) (mofa a)
  have exff : ∀ {Y : Hp}, Ex Y Z → Ex Y (cutH Z2 (fo ++ fa)) := fun {Y} e => ((((e.trans ezs).trans g1.z).trans ezb).trans g2.z).chg fun a => by
    by_cases m : a ∈ fo ++ fa
    · refine .inr ⟨?_, moff a m⟩
      rcases List.mem_append.mp m with m | m
      · exact e.back (so.own1 a m)
      · exact e.back (s.g.s.back (fra a m))
    · exact .inl (if_neg m)
  have kk : ∀ a, cutH Z2 (fo ++ fa) a = Z2 a ∨ (cutH Z2 (fo ++ fa) a = none ∧ ∃ xs : Mo, Z2 a = some xs.o) := fun a => by
    by_cases m : a ∈ fo ++ fa
    · exact .inr ⟨if_pos m, moff a m⟩
    · exact .inl (if_neg m)
  have exZ : Ex Z (cutH Z2 (fo ++ fa)) := exff (Ex.refl _)
  have exH : Ex H0 (cutH H1 fi) := (s.g.h.trans g1.h).chg fun a => by
    by_cases m : a ∈ fi
    · obtain ⟨xs, e⟩ := li a m
      exact .inr ⟨fr a (hp.symm.mem_iff.mp (List.mem_append_left _ m)), xs, g1.h.l e⟩
    · exact .inl (if_neg m)
  refine ⟨⟨exff s.g.z, exH.trans g2.h, cutH_sub.trans g2.s, fun a h1 h2 => ?_⟩, s.t.ex exZ, ?_, kk⟩
  · by_cases m : a ∈ fo ++ fa
    · exact if_pos m
    · have nfo : a ∉ fo := fun z => m (List.mem_append_left _ z)
      have nfa : a ∉ fa := fun z => m (List.mem_append_right _ z)
      have z1 : Z a = none := s.g.n a h1 h2
      have z2 : Z1 a = none := g1.n a (s.g.h.ne a h1) ((if_neg nfo).trans z1)
      refine (if_neg m).trans (g2.n a (exH.ne a h1) ((if_neg nfa).trans z2))
  · refine Slots.mono exZ (fun a ha => ⟨if_pos (List.mem_append_left _ ha), ?_⟩) so
    obtain ⟨xs, e⟩ := so.own2 a ha
    have nfi : a ∉ fi := fun z => ndA.2.2 a z a ha rfl
    rw [e]
    exact g2.h.l ((if_neg nfi).trans (g1.h.l e))
end
noncomputable def afterM (b : List Bool) (F : List D → Ou D) (io : List Nat) (ios : List D) (ρ1 : Env) (ds : List D) : OuM := match canL ios with
  | none => .bad
  | some cs => match callM b F cs (D.frzs ds) with
    | .ok d os => if d.cln && D.clns os then .ok d (putL io (backL ios os) ρ1) else .bad
    | .ex c ns xs => if D.clns xs && D.clns cs then .ex c ns xs (putL io (backL ios cs) ρ1) else .bad
    | .bad => .bad
section
variable {K : PySem.W.Frag} {Z H Z' H' Z0 H0 Z1 H1 Z2 H2 : Hp} {σ : L2.St} {ρ ρ1 : Env} {W : WX}
theorem spM_of {b : List Bool} {F : List D → Ou D} {io : List Nat} {ios ds : List D} {ivs avs : List V} {fp fi fo fa : Fp} {Q : VK} (s : Sta K (He.ga K) Z0 H0 Z H σ ρ) (ht : takeL io ρ = some (ios, ρ1)) (hp : fp.Perm (fi ++ fo)) (nd : fp.Nodup) (fr : ∀ a ∈ fp, H0 a = none)
    (hv : ValsAt σ io ivs) (di : Dens K (He.ga K) Z H ios ivs fi) (so : Slots K (He.ga K) Z H ρ1 σ fo)
    (g1 : Gr (frzH Z H fo) H Z1 H1) (da : Dens K (He.ga K) Z1 H1 ds avs fa) (na : fa.Nodup) (fra : ∀ a ∈ fa, H a = none) (hm : mixOk b io.length ds.length = true)
    (q : PostEM K (He.ga K) W Z0 H0 σ (afterM b F io ios ρ1 ds) Q) : spM K b F (mix b ivs avs) H1 Q (WE W σ) := by
  have nd2 : (fi ++ fo).Nodup := hp.nodup_iff.mp nd
  have ndA := List.nodup_append.mp nd2
  have own : ∀ a ∈ fa, Z1 a = none ∧ ∃ xs : Mo, H1 a = some xs.o := Dens.own ds avs fa da
  have ezs := frzH_ex (H := H) so.own1
  have ezb := frzH_ex (H := H1) fun a ha => (own a ha).1
  have sZb : Ex (frzH Z1 H1 fa) H1 := frzH_to g1.s fun a ha => (own a ha).2
  have oi := Dens.own ios ivs fi di
  have li : ∀ a ∈ fi, ∃ xs : Mo, H a = some xs.o := fun a ha => (oi a ha).2
  have nfa : ∀ a ∈ fi, a ∉ fa := fun a ha hb => by
    obtain ⟨xs, e⟩ := li a ha
    rw [fra a hb] at e; cases e
  have d1 : Dens K (He.ga K) (frzH Z H fo) H ios ivs fi := Dens.mono ezs ios ivs fi (fun a ha => ⟨(if_neg fun z => ndA.2.2 a ha a z rfl).trans (oi a ha).1, rfl⟩) di
  have d2 := g1.dens d1
  have o2 := Dens.own ios ivs fi d2
  have d3 : Dens K (He.ga K) (frzH Z1 H1 fa) H1 ios ivs fi := Dens.mono ezb ios ivs fi (fun a ha => ⟨(if_neg (nfa a ha)).trans (o2 a ha).1, rfl⟩) d2
  have tkb : TabsK K (frzH Z1 H1 fa) := s.t.ex ((ezs.trans g1.z).trans ezb)
  unfold afterM at q
  cases hc : canL ios with
  | none => rw [hc] at q; exact q.elim
  | some cs =>
    rw [hc] at q
    dsimp only at q
    obtain ⟨hcc, hcl⟩ := canL_can hc
    obtain ⟨as, el, ev, da3⟩ := Dens.adrL hc d3
    subst ev
    have liv : ios.length = io.length := by
      have : ∀ {io : List Nat} {ρ ρ1 : Env} {ios : List D}, takeL io ρ = some (ios, ρ1) → ios.length = io.length := by
        intro io
        induction io with
        | nil => intro ρ ρ1 ios h; cases h; rfl
        | cons i io ih =>
          intro ρ ρ1 ios h
          unfold takeL at h
          split at h
          · rename_i d e
            match e2 : takeL io (ρ.set i none) with
            | none => rw [e2] at h; cases h
            | some (ds2, ρ2) =>
              rw [e2] at h
              cases h
              rw [List.length_cons, List.length_cons, ih e2]
          · cases h
      exact this ht
    have hm1 : mixOk b cs.length (D.frzs ds).length = true := by rw [hcl, liv, frzs_len]; exact hm
    have hm2 : mixOk b (as.map V.ref).length avs.length = true := by rw [List.length_map, el, hcl, liv, da.length]; exact hm
    refine ⟨mix_len hm2, frzH Z1 H1 fa, as, cs, D.frzs ds, avs, fi, sZb, tkb, hcc, el, hm1, rfl, da3, ndA.1, Dens.freeze ezb ds avs fa (fun a ha => if_pos ha) da, ?_⟩
    have pr : ∀ a, cutH H1 fi a = none → a ∈ fi ∨ H1 a = none := fun a e => by
      by_cases m : a ∈ fi
      · exact .inl m
      · exact .inr ((if_neg m).symm.trans e)
    have fr0 : ∀ a, cutH H1 fi a = none → H0 a = none := fun a e => (pr a e).elim (fun m => fr a (hp.symm.mem_iff.mp (List.mem_append_left _ m))) fun m => s.g.h.back (g1.h.back m)
    have nfo : ∀ a, cutH H1 fi a = none → a ∉ fo := fun a e hb => (pr a e).elim (fun m => ndA.2.2 a m a hb rfl) fun m => by
      obtain ⟨xs, e1⟩ := so.own2 a hb
      rw [g1.h.back m] at e1; cases e1
    have frfo : ∀ a ∈ fo, H0 a = none := fun a ha => fr a (hp.symm.mem_iff.mp (List.mem_append_right _ ha))
    obtain ⟨_, _, tn, _, tio⟩ := takeL_none ht
    cases hr : callM b F cs (D.frzs ds) with
    | bad => rw [hr] at q; exact q.elim
    | ok d os =>
      have r := callM_is (b := b) (F := F) (cs := cs) (args := D.frzs ds) (by rw [hr]; exact fun z => nomatch z)
      rw [hr] at r
      obtain ⟨r1, r2, r3⟩ := r as el
      rw [r3]
      rw [hr] at q
      have q : PostEM K (He.ga K) W Z0 H0 σ (if d.cln && D.clns os then .ok d (putL io (backL ios os) ρ1) else .bad) Q := q
      split at q
      · rename_i cc
        obtain ⟨cc1, cc2⟩ := Bool.and_eq_true_iff.mp cc
        intro v Z2 H2 fp2 g2 dn nd2 fr2
        simp only [Den] at dn
        obtain ⟨vs', f1, f2, e, dd, dos⟩ := dn
        subst e
        obtain ⟨k1, k2, k3, k4⟩ := thawM s hp nd fr li so g1 own fra g2
        have dd' := Den.clean k4 d v f1 cc1 dd
        have dos' := Dens.clean k4 (adrL as os) vs' f2 (by rw [adrL_clns (el.trans r1.symm)]; exact cc2) dos
        obtain ⟨_, dos2⟩ := Dens.back r2 hc d3 rfl (r1.trans hcl) dos'
        obtain ⟨fp3, s3, p3⟩ := Slots.ins (io := io) (ρ := ρ1) tn tio hv dos2 k3
        have ndq := List.nodup_append.mp nd2
        refine q v _ H2 ⟨k1, k2, fp3, f1, s3, dd', ?_, fun a ha => ?_⟩
        · have : (fp3 ++ f1).Perm (f1 ++ (f2 ++ fo)) := List.perm_append_comm.trans (List.Perm.append_left f1 p3)
          refine this.symm.nodup_iff.mp ?_
          rw [← List.append_assoc, List.nodup_append]
          exact ⟨nd2, ndA.2.1, fun a ha b hb e => nfo a (fr2 a ha) (e ▸ hb)⟩
        · rcases List.mem_append.mp ha with m | m
          · rcases List.mem_append.mp (p3.mem_iff.mp m) with m | m
            · exact fr0 a (fr2 a (List.mem_append_right _ m))
            · exact frfo a m
          · exact fr0 a (fr2 a (List.mem_append_left _ m))
      · exact q.elim
    | ex c ns xs =>
      have r := callM_is (b := b) (F := F) (cs := cs) (args := D.frzs ds) (by rw [hr]; exact fun z => nomatch z)
      rw [hr] at r
      have r3 : F (mix b (adrL as cs) (D.frzs ds)) = .ex c ns xs := r as el
      rw [r3]
      rw [hr] at q
      have q : PostEM K (He.ga K) W Z0 H0 σ (if D.clns xs && D.clns cs then .ex c ns xs (putL io (backL ios cs) ρ1) else .bad) Q := q
      split at q
      · rename_i cc
        obtain ⟨cc1, cc2⟩ := Bool.and_eq_true_iff.mp cc
        intro dc Z2 H2 f2 g2 x dos nd2 fr2
        obtain ⟨k1, k2, k3, k4⟩ := thawM s hp nd fr li so g1 own fra g2
        have dos' := Dens.clean k4 (adrL as cs) _ f2 (by rw [adrL_clns el]; exact cc2) dos
        obtain ⟨_, dos2⟩ := Dens.back hcc hc d3 rfl hcl dos'
        obtain ⟨fp3, s3, p3⟩ := Slots.ins (io := io) (ρ := ρ1) tn tio hv dos2 k3
        refine q dc _ H2 ⟨k1, k2, fp3, s3, ?_, fun a ha => ?_⟩ (ExD.clean k4 cc1 x)
        · refine p3.symm.nodup_iff.mp ?_
          rw [List.nodup_append]
          exact ⟨nd2, ndA.2.1, fun a ha b hb e => nfo a (fr2 a ha) (e ▸ hb)⟩
        · rcases List.mem_append.mp (p3.mem_iff.mp ha) with m | m
          · exact fr0 a (fr2 a m)
          · exact frfo a m
      · exact q.elim
end
end DL
namespace DL
open PySem PySem.Spec PyProof.Rows L2
variable [Tb]
def PostAL (K : PySem.W.Frag) (cl : Str → Addr) (W : WX) (Z H : Hp) (σ : L2.St) (b : List Bool) (io : List Nat) (o : Ou (List D)) (Q : List V → Hp → Prop) : Prop := match o with
  | .ok ds => ∀ ivs avs Z' H' fa, ValsAt σ io ivs → Gr Z H Z' H' → Dens K cl Z' H' ds avs fa → fa.Nodup → (∀ a ∈ fa, H a = none) → Q (mix b ivs avs) H'
  | .ex c ns xs => PostX K cl W Z H σ c ns xs
  | .bad => False
def tAL (K : PySem.W.Frag) (cl : Str → Addr) (W : WX) (b : List Bool) (io : List Nat) (t : Env → Ou (List D)) : TA := fun σ H Q => ∃ Z ρ, RelS K cl Z H σ ρ ∧ (∃ ivs, ValsAt σ io ivs) ∧ PostAL K cl W Z H σ b io (t ρ) Q
structure DAL (X : Cx) (W : WX) (es : List Expr) (b : List Bool) (io : List Nat) (t : Env → Ou (List D)) : Prop where
  run : PA X es (tAL X.K (He.ga X.K) W b io t)
  len : ∀ ρ ds, t ρ = .ok ds → mixOk b io.length ds.length = true
section
variable {X : Cx} {W : WX} {e : Expr} {es : List Expr} {f : Env → Ou D} {t : Env → Ou (List D)} {b : List Bool} {io : List Nat}
theorem DAL.nil : DAL X W [] [] [] aNil := by
  refine ⟨PA.weak pa_nil fun σ H Q ⟨Z, ρ, r, _, q⟩ => ?_, fun ρ ds e => by cases e; rfl⟩
  exact q [] [] Z H [] rfl (Gr.refl r.s) ⟨rfl, rfl⟩ List.nodup_nil fun _ z => nomatch z
theorem DAL.ex (h : DE X W e f) (hr : DAL X W es b io t) (hs : starEach (e :: es) X.env = (false, eval e X.env) :: starEach es X.env := by rfl) : DAL X W (e :: es) (false :: b) io (aCons f t) := by
  refine ⟨PA.weak (pa_cons h.run hr.run hs) fun σ H Q hq => ?_, fun ρ ds e => ?_⟩
  · obtain ⟨Z, ρ, r, vv, q⟩ := hq
    refine tD_bind (P := fun Z H o => PostAL X.K (He.ga X.K) W Z H σ (false :: b) io o Q) r (fun _ _ _ z => z) (fun z => z) q fun x v Z1 H1 fx ex g1 dx nx fx' q => ?_
    refine ⟨Z1, ρ, r.gr g1, vv, ?_⟩
    match e : t ρ with
    | .ok ds =>
      rw [e] at q
      refine fun ivs avs Z2 H2 fp hv g2 dn nd fr => q ivs (v :: avs) Z2 H2 (fx ++ fp) hv (g1.trans g2) (Dens.cons (g2.den dx) dn) ?_ fun a ha => ?_
      · rw [List.nodup_append]
        refine ⟨nx, nd, fun a ha b hb e => ?_⟩
        subst e
        obtain ⟨_, xs, q1⟩ := Den.own x v fx dx a ha
        rw [fr a hb] at q1; cases q1
      · rcases List.mem_append.mp ha with z | z
        · exact fx' a z
        · exact g1.h.back (fr a z)
    | .ex c ns xs => rw [e] at q; exact fun dc Z2 H2 g2 x => q dc Z2 H2 (g1.trans g2) x
    | .bad => rw [e] at q; exact q.elim
  · unfold aCons at e
    cases ef : f ρ with
    | ok x =>
      rw [ef] at e
      cases et : t ρ with
      | ok xs =>
        rw [et] at e
        cases e
        exact hr.len ρ xs et
      | ex c ns xs => rw [et] at e; cases e
      | bad => rw [et] at e; cases e
    | ex c ns xs => rw [ef] at e; cases e
    | bad => rw [ef] at e; cases e
end
structure DnM (P : Program) (w : World) (K : PySem.W.Frag) (mg : Str → Option Value) (base : Heap) (k : Nat) (x : Str) (b : List Bool) (F : List D → Ou D) : Prop where
  ex : ∃ (f : Addr) (fd : FuncData) (ps : List Str), mg x = some (.ref f) ∧ FnOk P w K mg base (L2.CX P w) k f fd ps (spM K b F) ∧ PySem.W.keepIn K (.ref f) = true ∧ Binds K fd ps []
structure MtM (P : Program) (w : World) (K : PySem.W.Frag) (mg : Str → Option Value) (base : Heap) (k : Nat) (c m : Str) (b : List Bool) (F : List D → Ou D) : Prop where
  cls : Cls K (He.ga K c)
  ex : ∃ (f : Addr) (fd : FuncData) (ps : List Str), Meth K (He.ga K c) m f ∧ FnOk P w K mg base (L2.CX P w) k f fd ps (spM K b F) ∧ Binds K fd ps []
noncomputable def dCallM (b : List Bool) (F : List D → Ou D) (io : List Nat) (t : Env → Ou (List D)) : Env → OuM := fun ρ => match takeL io ρ with
  | none => .bad
  | some (ios, ρ1) => match t (frzE ρ1) with
    | .ok ds => afterM b F io ios ρ1 ds
    | .ex c ns xs => if D.clns xs then .ex c ns xs ρ else .bad
    | .bad => .bad
def isOwn (c m : Str) : List D → Bool
  | .own _ c' ns _ :: _ => c' == c && !ns.contains m
  | _ => false
noncomputable def dMethM (c m : Str) (b : List Bool) (F : List D → Ou D) (io : List Nat) (t : Env → Ou (List D)) : Env → OuM := fun ρ => match takeL io ρ with
  | none => .bad
  | some (ios, ρ1) => if isOwn c m ios then match t (frzE ρ1) with
    | .ok ds => afterM b F io ios ρ1 ds
    | .ex c ns xs => if D.clns xs then .ex c ns xs ρ else .bad
    | .bad => .bad else .bad
section
variable {X : Cx} {W : WX} {k j n : Nat} {e : Expr} {es : List Expr} {t : Env → Ou (List D)} {pos p apos : Pos} {x c m : Str} {F : List D → Ou D} {b : List Bool} {io : List Nat}
theorem argsM {Z0 H0 Z H : Hp} {σ : L2.St} {ρ ρ1 : Env} {ios : List D} {Q : VK} {R : List V → Hp → Prop} (s : Sta X.K (He.ga X.K) Z0 H0 Z H σ ρ) (ht : takeL io ρ = some (ios, ρ1)) (hlen : ∀ ρ ds, t ρ = .ok ds → mixOk b io.length ds.length = true)
    (q : PostEM X.K (He.ga X.K) W Z0 H0 σ (match t (frzE ρ1) with
      | .ok ds => afterM b F io ios ρ1 ds
      | .ex c ns xs => if D.clns xs then .ex c ns xs ρ else .bad
      | .bad => .bad) Q) (hR : ∀ vs H1, spM X.K b F vs H1 Q (WE W σ) → R vs H1) : tAL X.K (He.ga X.K) W b io t σ H R := by
  obtain ⟨fp, sl, nd, fr⟩ := s.e
  obtain ⟨ivs, fi, fo, hp, hv, di, so⟩ := Slots.outs ht sl
  have ezs := frzH_ex (H := H) so.own1
  refine ⟨frzH Z H fo, frzE ρ1, ⟨frzH_to s.g.s so.own2, s.t.ex ezs, [], Slots.frzAll ezs (fun a ha => if_pos ha) so, List.nodup_nil⟩, ⟨ivs, hv⟩, ?_⟩
  cases et : t (frzE ρ1) with
  | ok ds =>
    rw [et] at q
    intro ivs2 avs Z1 H1 fa hv2 g1 da na fra
    have ei : ivs2 = ivs := by
      have : ∀ {io : List Nat} {a b : List V}, ValsAt σ io a → ValsAt σ io b → a = b := by
        intro io
        induction io with
        | nil => intro a b h1 h2; exact (show a = [] from h1).trans (show b = [] from h2).symm
        | cons i io ih =>
          intro a b h1 h2
          obtain ⟨v, vr, e1, e2, e3⟩ := h1
          obtain ⟨u, ur, k1, k2, k3⟩ := h2
          rw [e2] at k2
          cases k2
          rw [e1, k1, ih e3 k3]
      exact this hv2 hv
    subst ei
    exact hR _ _ (spM_of s ht hp nd fr hv di so g1 da na fra (hlen _ _ et) q)
  | ex c ns xs =>
    rw [et] at q
    have q : PostEM X.K (He.ga X.K) W Z0 H0 σ (if D.clns xs then .ex c ns xs ρ else .bad) Q := q
    split at q
    · rename_i cc
      intro dc Z1 H1 g1 x
      obtain ⟨g', kk⟩ := g1.thaw so.own1 so.own2
      exact q dc _ H1 (s.gr g') (ExD.clean kk cc x)
    · exact q.elim
  | bad => rw [et] at q; exact q.elim
theorem DEM.call (C : Ctx X W k) (G : DnM X.prog X.w X.K X.mg X.base j x b F) (ha : DAL X W (e :: es) b io t) (hk : j ≤ k := by decide) (hg : Gl X x := by rfl)
    (hdb : (x == ("__debug__" : Str)) = false := by decide) (he : starEach (e :: es) X.env = (false, eval e X.env) :: starEach es X.env := by rfl) (hpl : (backTo pos (starEach es X.env)).any (·.1) = false := by rfl) : DEM X W (.Call (.Name x p) (e :: es) [] pos) (dCallM b F io t) := by
  obtain ⟨f, fd, ps, hm, ok, kp, hb⟩ := G.ex
  refine ⟨fun Z0 H0 => PE.weak (pe_callS ok (C.hr.mono hk) hg hm kp hb (fun σ => passAt C.tk σ) ha.run hdb he hpl) fun σ H Q hq => ?_⟩
  obtain ⟨Z, ρ, s, q⟩ := hq
  unfold dCallM at q
  cases ht : takeL io ρ with
  | none => rw [ht] at q; exact q.elim
  | some pr =>
    obtain ⟨ios, ρ1⟩ := pr
    rw [ht] at q
    exact argsM s ht ha.len q fun vs H1 h => h
theorem isOwn_inv {ios : List D} (h : isOwn c m ios = true) : ∃ oa ns xs r, ios = .own oa c ns xs :: r ∧ ns.contains m = false := by
  unfold isOwn at h
  split at h
  · rename_i oa c' ns xs r
    obtain ⟨h1, h2⟩ := band h
    rw [beq_iff_eq.mp h1]
    exact ⟨oa, ns, xs, r, rfl, by simpa using h2⟩
  · cases h
theorem takeL_head {i : Nat} {ρ ρ1 : Env} {d : D} {r : List D} (h : takeL (i :: io) ρ = some (d :: r, ρ1)) : ρ[i]? = some (some d) := by
  unfold takeL at h
  split at h
  · rename_i d2 e
    match e2 : takeL io (ρ.set i none) with
    | none => rw [e2] at h; cases h
    | some (ds2, ρ2) =>
      rw [e2] at h
      cases h
      exact e
  · cases h
theorem DEM.meth {pl : Sem Bool} (i : Nat) (C : Ctx X W k) (G : MtM X.prog X.w X.K X.mg X.base j c m (true :: b) F) (ha : DAL X W (e :: es) b io t) (hk : j ≤ k := by decide)
    (hN : X.N[i]? = some x := by rfl) (hv : Vis X.env.scope x := by first | exact Or.inl rfl | exact Or.inr (Or.inl rfl) | exact Or.inr (Or.inr rfl)) (hd : (x == ("__debug__" : Str)) = false := by decide) (hcd : (x == ("__classdict__" : Str)) = false := by decide)
    (hst : starEach (e :: es) X.env = (false, eval e X.env) :: starEach es X.env := by rfl) (hpl : (backTo pos (starEach es X.env)).any (·.1) = false := by rfl)
    (ht : eval (.Call (.Attribute (.Name x p) m apos) (e :: es) [] pos) X.env = (do
      let ov ← eval (.Name x p) X.env
      standAt apos.atName
      let (f, first) ← holding [ov] (getMethod ov m pl)
      callWith pos f first (backTo pos (starEach (e :: es) X.env)) (backToKw pos (keywordEach [] X.env))) := by rfl) :
    DEM X W (.Call (.Attribute (.Name x p) m apos) (e :: es) [] pos) (dMethM c m (true :: b) F (i :: io) t) := by
  refine ⟨fun Z0 H0 => ⟨fun pins s σ H Q I hq => ?_⟩⟩
  refine methcall_of (pl := pl) (pv i hN hv hd hcd) I ?_ ht
  obtain ⟨Z, ρ, so, q⟩ := hq
  unfold dMethM at q
  cases htk : takeL (i :: io) ρ with
  | none => rw [htk] at q; exact q.elim
  | some pr =>
    obtain ⟨ios, ρ1⟩ := pr
    rw [htk] at q
    dsimp only at q
    split at q
    · rename_i ho
      obtain ⟨oa, ns, xs, r, rfl, hnc⟩ := isOwn_inv ho
      have hi := takeL_head htk
      obtain ⟨fp, sl, _, _⟩ := so.e
      obtain ⟨v, f, h1, h2, _⟩ := sl.get hi
      simp only [Den] at h2
      obtain ⟨a, dx, vs, fq, e0, e1, e2, z, hq, _⟩ := h2
      subst e1
      obtain ⟨g, fd, ps, hm, ok, hb⟩ := G.ex
      refine ⟨.ref a, h1, a, He.ga X.K c, dx, _, g, rfl, hq, G.cls, hm, zip_nolook hnc, fun s1 I1 => ?_⟩
      refine PySem.W.callWith_K (first := [.ref a]) (h₀ := X.base) I1.ok.mod.kin hm.kp ?_ hst hpl
      have hA : tAL X.K (He.ga X.K) W (true :: b) (i :: io) t σ H fun vs2 H2 => ∃ vr, vs2 = .ref a :: vr ∧ spM X.K (true :: b) F (.ref a :: vr) H2 Q (WE W σ) := by
        have := argsM (X := X) (W := W) (b := true :: b) (F := F) (R := fun vs2 H2 => spM X.K (true :: b) F vs2 H2 Q (WE W σ)) so htk (fun ρ ds e => ha.len ρ ds e) q fun vs H1 h => h
        obtain ⟨Z1, ρ1', r1, vv, q1⟩ := this
        refine ⟨Z1, ρ1', r1, vv, ?_⟩
        match et : t ρ1' with
        | .ok ds =>
          rw [et] at q1
          intro ivs avs Z' H' fa hv2 g1 dn nd fr
          have h3 := q1 ivs avs Z' H' fa hv2 g1 dn nd fr
          obtain ⟨v2, vr2, k1, k2, _⟩ := hv2
          rw [h1] at k2
          cases k2
          subst k1
          exact ⟨mix b vr2 avs, rfl, h3⟩
        | .ex c ns xs => rw [et] at q1; exact q1
        | .bad => rw [et] at q1; exact q1.elim
      have hA' : tAL X.K (He.ga X.K) W b io t σ H fun vr H2 => spM X.K (true :: b) F (.ref a :: vr) H2 Q (WE W σ) := by
        obtain ⟨Z1, ρ1', r1, ⟨ivs, vv⟩, q1⟩ := hA
        obtain ⟨v2, vr2, k1, k2, k3⟩ := vv
        refine ⟨Z1, ρ1', r1, ⟨vr2, k3⟩, ?_⟩
        match et : t ρ1' with
        | .ok ds =>
          rw [et] at q1
          intro ivs' avs Z' H' fa hv2 g1 dn nd fr
          obtain ⟨vr, e1, h3⟩ := q1 (.ref a :: ivs') avs Z' H' fa ⟨_, _, rfl, h1, hv2⟩ g1 dn nd fr
          have e1' : V.ref a :: mix b ivs' avs = .ref a :: vr := e1
          injection e1' with _ e2
          rw [e2]
          exact h3
        | .ex c ns xs => rw [et] at q1; exact q1
        | .bad => rw [et] at q1; exact q1.elim
      refine thn (ha.run.run pos pins s1 σ H _ I1 hA') fun us s2 ⟨vs2, H2, I2, rv, q2⟩ => ⟨I2.kIn, ?_⟩
      show wpAny _ _ (PySem.call (.ref g) (.ref a :: us)) _ _ _
      exact run_fnS (E := fun σ => WE W σ) (us := .ref a :: us) (vs := .ref a :: vs2) ok (C.hr.mono hk) hb (passAt C.tk σ) I2 (.cons rfl rv) q2
    · exact q.elim
theorem DEM.meth0 {pl : Sem Bool} (i : Nat) (C : Ctx X W k) (G : MtM X.prog X.w X.K X.mg X.base j c m [true] F) (hk : j ≤ k := by decide)
    (hN : X.N[i]? = some x := by rfl) (hv : Vis X.env.scope x := by first | exact Or.inl rfl | exact Or.inr (Or.inl rfl) | exact Or.inr (Or.inr rfl)) (hd : (x == ("__debug__" : Str)) = false := by decide) (hcd : (x == ("__classdict__" : Str)) = false := by decide)
    (ht : eval (.Call (.Attribute (.Name x p) m apos) [] [] pos) X.env = (do
      let ov ← eval (.Name x p) X.env
      standAt apos.atName
      let (f, first) ← holding [ov] (getMethod ov m pl)
      callWith pos f first (backTo pos (starEach [] X.env)) (backToKw pos (keywordEach [] X.env))) := by rfl) :
    DEM X W (.Call (.Attribute (.Name x p) m apos) [] [] pos) (dMethM c m [true] F [i] aNil) := by
  refine ⟨fun Z0 H0 => ⟨fun pins s σ H Q I hq => ?_⟩⟩
  refine methcall_of (pl := pl) (pv i hN hv hd hcd) I ?_ ht
  obtain ⟨Z, ρ, so, q⟩ := hq
  unfold dMethM at q
  cases htk : takeL [i] ρ with
  | none => rw [htk] at q; exact q.elim
  | some pr =>
    obtain ⟨ios, ρ1⟩ := pr
    rw [htk] at q
    dsimp only at q
    split at q
    · rename_i ho
      obtain ⟨oa, ns, xs, r, rfl, hnc⟩ := isOwn_inv ho
      have hi := takeL_head htk
      obtain ⟨fp, sl, _, _⟩ := so.e
      obtain ⟨v, f, h1, h2, _⟩ := sl.get hi
      simp only [Den] at h2
      obtain ⟨a, dx, vs, fq, e0, e1, e2, z, hq, _⟩ := h2
      subst e1
      obtain ⟨g, fd, ps, hm, ok, hb⟩ := G.ex
      refine ⟨.ref a, h1, a, He.ga X.K c, dx, _, g, rfl, hq, G.cls, hm, zip_nolook hnc, fun s1 I1 => ?_⟩
      refine PySem.W.callWith_K0 (first := [.ref a]) I1.kIn hm.kp ?_
      have := argsM (X := X) (W := W) (t := aNil) (b := [true]) (F := F) (R := fun vs2 H2 => H2 = H → spM X.K [true] F vs2 H2 Q (WE W σ)) so htk (fun ρ ds e => by cases e; rfl) q fun vs H1 h _ => h
      obtain ⟨Z1, ρ1', r1, ⟨ivs, vv⟩, q1⟩ := this
      have hq1 : spM X.K [true] F [.ref a] H Q (WE W σ) := by
        have h3 := q1 ivs [] Z1 H [] vv (Gr.refl r1.s) ⟨rfl, rfl⟩ List.nodup_nil (fun _ z => nomatch z) rfl
        obtain ⟨v2, vr2, k1, k2, k3⟩ := vv
        rw [h1] at k2
        cases k2
        subst k1
        exact h3
      exact run_fnS (E := fun σ => WE W σ) (us := [.ref a]) (vs := [.ref a]) ok (C.hr.mono hk) hb (passAt C.tk σ) I1 (.cons rfl .nil) hq1
    · exact q.elim
end
end DL
namespace DL
open PySem PySem.Spec PyProof.Rows L2
variable [Tb]
def outsE : List Bool → Env → Option (List D)
  | true :: b, some d :: ρ => (outsE b ρ).map (d :: ·)
  | false :: b, _ :: ρ => outsE b ρ
  | [], _ => some []
  | _, _ => none
section
variable {K : PySem.W.Frag} {cl : Str → Addr} {Z H Z' H' Z0 H0 : Hp} {σ : L2.St}
theorem Slots.outsE : ∀ {b : List Bool} {ρ : Env} {σ : L2.St} {fp : Fp} {os : List D}, DL.outsE b ρ = some os → Slots K cl Z H ρ σ fp → ∃ vs f, Dens K cl Z H os vs f ∧ f.Sublist fp
  | [], ρ, σ, fp, os, h, s => by
    cases h
    exact ⟨[], [], ⟨rfl, rfl⟩, List.nil_sublist _⟩
  | true :: b, [], σ, fp, os, h, s => by cases h
  | true :: b, none :: ρ, σ, fp, os, h, s => by cases h
  | true :: b, some d :: ρ, σ, fp, os, h, s => by
    obtain ⟨v, σ', f1, f2, e1, e2, q, r⟩ := s
    have h : (DL.outsE b ρ).map (d :: ·) = some os := h
    cases e : DL.outsE b ρ with
    | none => rw [e] at h; cases h
    | some or =>
      rw [e] at h
      cases h
      obtain ⟨vs, f, h1, h2⟩ := Slots.outsE e r
      subst e2
      exact ⟨v :: vs, f1 ++ f, Dens.cons q h1, List.Sublist.append (List.Sublist.refl _) h2⟩
  | false :: b, [], σ, fp, os, h, s => by cases h
  | false :: b, none :: ρ, σ, fp, os, h, s => by
    obtain ⟨o, σ', e1, r⟩ := s
    exact Slots.outsE (b := b) h r
  | false :: b, some d :: ρ, σ, fp, os, h, s => by
    obtain ⟨v, σ', f1, f2, e1, e2, q, r⟩ := s
    obtain ⟨vs, f, h1, h2⟩ := Slots.outsE (b := b) h r
    subst e2
    exact ⟨vs, f, h1, h2.trans (List.sublist_append_right _ _)⟩
theorem outsE_mix : ∀ {b : List Bool} {is as : List D}, mixOk b is.length as.length = true → DL.outsE b ((mix b is as).map some) = some is
  | [], is, as, h => by
    cases is with
    | cons => cases h
    | nil => rfl
  | true :: b, [], as, h => by cases as <;> cases h
  | true :: b, i :: is, as, h => by
    show (DL.outsE b ((mix b is as).map some)).map (i :: ·) = _
    rw [outsE_mix (b := b) h]
    rfl
  | false :: b, is, [], h => by cases is <;> cases h
  | false :: b, is, a :: as, h => outsE_mix (b := b) h
theorem Dens.adrv : ∀ {cs : List D} {as : List Addr} {vs : List V} {f : Fp}, canL cs = some cs → as.length = cs.length → Dens K cl Z H (DL.adrL as cs) vs f → vs = as.map V.ref
  | [], [], vs, f, _, _, h => h.1
  | [], a :: as, vs, f, _, h, _ => by cases h
  | c :: cs, [], vs, f, _, h, _ => by cases h
  | c :: cs, a :: as, vs, f, hc, hl, h => by
    obtain ⟨h1, h2⟩ := canL_cons hc
    have h' : Dens K cl Z H (DL.adr1 a c :: DL.adrL as cs) vs f := h
    obtain ⟨v, vr, f1, f2, e1, e2, q, r⟩ := h'.cons'
    subst e1
    rw [Dens.adrv h2 (Nat.succ.inj hl) r]
    have : v = .ref a := by
      cases c with
      | own oa c1 ns xs =>
        have q : Den K cl Z H (.own (some a) c1 ns xs) v f1 := q
        simp only [Den] at q
        obtain ⟨b, dx, ws, fq, e0, k1, _⟩ := q
        rw [k1, e0 a rfl]
      | lst o xs =>
        cases o with
        | false => cases h1
        | true =>
          have q : Den K cl Z H (.lsa a xs) v f1 := q
          simp only [Den] at q
          obtain ⟨ws, fq, k1, _⟩ := q
          exact k1
      | lsa b xs => cases h1
      | _ => cases h1
    rw [this]
    rfl
end
open Classical in
noncomputable def endM (b : List Bool) (ds : List D) (r : Os) : Ou D := match r with
  | .nx ρ => match outsE b ρ with
    | some os => .ok (.wth .non os)
    | none => .bad
  | .rt d => .ok d
  | .ex c ns xs ρ => if outsE b ρ = outsE b (ds.map some) then .ex c ns xs else .bad
  | _ => .bad
noncomputable def runM (n : Nat) (b : List Bool) (g : Env → Os) (ds : List D) : Ou D := endM b ds (g (ds.map some ++ List.replicate (n - ds.length) none))
theorem fnM {P : Program} {w : World} {K : PySem.W.Frag} {mg : Str → Option Value} {base : Heap} {x qual : Str} {params : Arguments} {body : List Stmt} {scope : Scope} {dvs : List V} {kws : List (Str × V)} {f : Addr} {fd : FuncData} {N ps : List Str} {k : Nat} {g : Env → Os} (b : List Bool)
    (F : FunD K x qual params body scope dvs kws f fd) (S : FnScope N ps scope) (hl : b.length = ps.length)
    (hb : ∀ (cdv : Value) (A : Around) (outer : List PySem.Env) (s : Shared) (H : Hp) (E : XK), Ctx (cxOf (L2.CX P w) P w K mg base N qual scope f cdv A outer s H E) (fun cls d _ H => E cls d H) k →
      DSs (cxOf (L2.CX P w) P w K mg base N qual scope f cdv A outer s H E) (fun cls d _ H => E cls d H) body g) : FnOk P w K mg base (L2.CX P w) (k + 1) f fd ps (spM K b (runM N.length b g)) := by
  refine F.ok S (fun vs H Q E h => h.1.trans hl) fun cdv A outer s H vs Q E hr hsp => ?_
  obtain ⟨_, Z, as, cs, args, avs, fi, ez, tk, hcc, el, hm, ev, di, nf, da, q⟩ := hsp
  have C : Ctx (cxOf (L2.CX P w) P w K mg base N qual scope f cdv A outer s H E) (fun cls d _ H => E cls d H) k := ⟨rfl, hr, passes_of rfl, takes_of rfl rfl rfl rfl, S.nd⟩
  have hm2 : mixOk b (adrL as cs).length args.length = true := by rw [adrL_len el]; exact hm
  have dn := Dens.mix hm2 di da
  rw [← ev] at dn
  have own := Dens.own _ _ _ di
  refine ⟨_, (hb cdv A outer s H E C).run Z (cutH H fi), Z, (mix b (adrL as cs) args).map some ++ List.replicate (N.length - (mix b (adrL as cs) args).length) none, ⟨⟨Ex.refl _, cutH_sub, ez, fun _ _ z => z⟩, tk, fi, ?_, nf, fun a ha => if_pos ha⟩, ?_⟩
  · have e : vs.length = (mix b (adrL as cs) args).length := dn.length
    show Slots _ _ _ _ _ (vs.map some ++ List.replicate (N.length - vs.length) none) _
    rw [e]
    exact Slots.start _ dn
  · unfold runM endM at q
    cases e : g ((mix b (adrL as cs) args).map some ++ List.replicate (N.length - (mix b (adrL as cs) args).length) none) with
    | nx ρ =>
      rw [e] at q
      dsimp only at q
      intro σ Z' H' s'
      cases eo : outsE b ρ with
      | none => rw [eo] at q; exact q.elim
      | some os =>
        rw [eo] at q
        obtain ⟨fp, sl, nd, fr⟩ := s'.e
        obtain ⟨vs', f', h1, h2⟩ := Slots.outsE eo sl
        refine q .non Z' H' f' s'.g ?_ (h2.nodup nd) fun a ha => fr a (h2.subset ha)
        simp only [Den]
        exact ⟨vs', [], f', rfl, ⟨trivial, rfl⟩, h1⟩
    | rt d => rw [e] at q; exact fun v Z' H' fp g1 h nd fr => q v Z' H' fp g1 h nd fr
    | ex c ns xs ρ =>
      rw [e] at q
      dsimp only at q
      intro dc σ Z' H' s' x
      rw [outsE_mix hm2] at q
      split at q
      · rename_i eo
        obtain ⟨fp, sl, nd, fr⟩ := s'.e
        obtain ⟨vs', f', h1, h2⟩ := Slots.outsE eo sl
        have := Dens.adrv hcc el h1
        subst this
        exact q dc Z' H' f' s'.g x h1 (h2.nodup nd) fun a ha => fr a (h2.subset ha)
      · exact q.elim
    | bk ρ => rw [e] at q; exact q.elim
    | ct ρ => rw [e] at q; exact q.elim
    | bad => rw [e] at q; exact q.elim
def sRetM (b : List Bool) (f : Env → Ou D) : Env → Os := fun ρ => ofU (f ρ) ρ fun d => match outsE b ρ with
  | some os => .rt (.wth d os)
  | none => .bad
def sDropM (f : Env → OuM) : Env → Os := fun ρ => match f ρ with
  | .ok _ ρ' => .nx ρ'
  | .ex c ns xs ρ' => .ex c ns xs ρ'
  | .bad => .bad
def sSetM (i : Nat) (f : Env → OuM) : Env → Os := fun ρ => match f ρ with
  | .ok d ρ' => if i < ρ'.length then .nx (ρ'.set i (some d)) else .bad
  | .ex c ns xs ρ' => .ex c ns xs ρ'
  | .bad => .bad
inductive OuB where
  | ok (b : Bool) (ρ : Env)
  | ex (c : Str) (ns : List Str) (xs : List D) (ρ : Env)
  | bad
def PostTM (K : PySem.W.Frag) (cl : Str → Addr) (W : WX) (Z0 H0 : Hp) (σ : L2.St) (o : OuB) (Q : Bool → Hp → Prop) : Prop := match o with
  | .ok b ρ => ∀ Z H, Sta K cl Z0 H0 Z H σ ρ → Q b H
  | .ex c ns xs ρ => ∀ dc Z H, Sta K cl Z0 H0 Z H σ ρ → ExD K cl Z H ns xs dc → W (.ref (cl c)) dc σ H
  | .bad => False
structure DTM (X : Cx) (W : WX) (e : Expr) (f : Env → OuB) : Prop where
  run : ∀ Z0 H0, PT X e fun σ H Q => ∃ Z ρ, Sta X.K (He.ga X.K) Z0 H0 Z H σ ρ ∧ PostTM X.K (He.ga X.K) W Z0 H0 σ (f ρ) Q
def tCmpM (k : D → D → Option Bool) (f : Env → OuM) (g : Env → Ou D) : Env → OuB := fun ρ => match f ρ with
  | .ok d ρ' => match g ρ' with
    | .ok y => match k d y with
      | some b => .ok b ρ'
      | none => .bad
    | .ex c ns xs => .ex c ns xs ρ'
    | .bad => .bad
  | .ex c ns xs ρ' => .ex c ns xs ρ'
  | .bad => .bad
def sIfM (c : Env → OuB) (g h : Env → Os) : Env → Os := fun ρ => match c ρ with
  | .ok b ρ' => if b then g ρ' else h ρ'
  | .ex c ns xs ρ' => .ex c ns xs ρ'
  | .bad => .bad
def dPairM (x : Str) (f : Env → OuM) : Env → OuM := fun ρ => match f ρ with
  | .ok d ρ' => .ok (.lst true [.str x, d]) ρ'
  | .ex c ns xs ρ' => .ex c ns xs ρ'
  | .bad => .bad
section
variable {X : Cx} {W : WX} {e a : Expr} {f : Env → Ou D} {fm : Env → OuM} {tm : Env → OuB} {pos : Pos} {b : List Bool} {rest els : List Stmt} {g h : Env → Os}
theorem DS.dropM (he : DEM X W e fm) (hs : swapsWith e none pos.line X.env = pure false := by rfl) : DS X W (.Expr e pos) (sDropM fm) := by
  refine ⟨fun Z0 H0 => PS.weak (ps_expr (he.run Z0 H0) hs) fun E σ H hq => ?_⟩
  obtain ⟨Z, ρ, s, q⟩ := hq
  refine ⟨Z, ρ, s, ?_⟩
  unfold sDropM at q
  cases ec : fm ρ with
  | ok d ρ' => rw [ec] at q; exact fun v Z' H' s' => q σ Z' H' s'.sta
  | ex c ns xs ρ' => rw [ec] at q; exact fun dc Z' H' s' x => q dc σ Z' H' s' x
  | bad => rw [ec] at q; exact q
theorem DTM.cmp {op : CmpOp} {r : R2} {k : D → D → Option Bool} {c : Expr} {f2 : Env → Ou D} (ho : OpR X (compareOp op) r) (hk : Op2B X.K (He.ga X.K) r k) (ha : DEM X W a fm) (hb : DB X W c f2) (hm : behindInMarks op c = false) : DTM X W (.Compare a [op] [c] pos) (tCmpM k fm f2) := by
  refine ⟨fun Z0 H0 => PT.weak (pt_cmpR ho (ha.run Z0 H0) hb.run hm) fun σ H Q hq => ?_⟩
  obtain ⟨Z, ρ, s, q⟩ := hq
  refine ⟨Z, ρ, s, ?_⟩
  unfold tCmpM at q
  cases e1 : fm ρ with
  | bad => rw [e1] at q; exact q.elim
  | ex c ns xs ρ' => rw [e1] at q; exact fun dc Z' H' s' x => q dc Z' H' s' x
  | ok d ρ' =>
    rw [e1] at q
    dsimp only at q
    intro v Z1 H1 s1
    refine ⟨Z1, ρ', s1.sta.rel, ?_⟩
    cases e2 : f2 ρ' with
    | bad => rw [e2] at q; exact q.elim
    | ex c ns xs => rw [e2] at q; exact fun dc Z' H' g1 x => q dc Z' H' (s1.sta.gr g1) x
    | ok y =>
      rw [e2] at q
      dsimp only at q
      intro u Z2 H2 fy g2 dy
      have s2 := s1.gr g2
      obtain ⟨g, t, fp, fq, h1, h2, h3, h4⟩ := s2
      cases e3 : k d y with
      | none => rw [e3] at q; exact q.elim
      | some b =>
        rw [e3] at q
        refine hk Z2 H2 d y b v u fq fy _ g.s h2 dy e3 ?_
        exact ⟨b, rfl, q Z2 H2 (s1.gr g2).sta⟩
end
end DL
namespace DL
open PySem PySem.Spec PyProof.Rows L2
variable [Tb]
def putD (f : Str) (d : D) : List Str → List D → List D
  | n :: ns, x :: xs => if n = f then d :: xs else x :: putD f d ns xs
  | _, xs => xs
def putNs (f : Str) (ns : List Str) : List Str := if ns.contains f then ns else ns ++ [f]
def putXs (f : Str) (d : D) (ns : List Str) (xs : List D) : List D := if ns.contains f then putD f d ns xs else xs ++ [d]
section
variable {K : PySem.W.Frag} {cl : Str → Addr} {Z H Z0 H0 Z' H' : Hp} {σ : L2.St} {ρ : Env}
theorem put_zipO {f : Str} {d : D} {v : V} {fd : Fp} (hd : Den K cl Z H d v fd) : ∀ {ns : List Str} {xs : List D} {vs : List V} {fq : Fp}, f ∈ ns → ns.length = xs.length → Dens K cl Z H xs vs fq →
    ∃ vs' fq' old, putF f v (ns.zip vs) = ns.zip vs' ∧ Dens K cl Z H (putD f d ns xs) vs' fq' ∧ (putD f d ns xs).length = xs.length ∧ (fd ++ fq).Perm (fq' ++ old)
  | [], _, _, _, h, _, _ => nomatch h
  | _ :: _, [], _, _, _, h, _ => nomatch h
  | n :: ns, x :: xs, vs, fq, h, hl, hx => by
    obtain ⟨w, vr, f1, f2, e1, e2, q, r⟩ := hx.cons'
    subst e1 e2
    rw [List.zip_cons_cons]
    unfold putF putD
    by_cases c : n = f
    · rw [if_pos c, if_pos c]
      exact ⟨v :: vr, fd ++ f2, f1, rfl, Dens.cons hd r, rfl, by
        rw [List.append_assoc]
        exact List.Perm.append_left fd List.perm_append_comm⟩
    · rw [if_neg c, if_neg c]
      have hf : f ∈ ns := by
        rcases List.mem_cons.mp h with z | z
        · exact absurd z.symm c
        · exact z
      obtain ⟨vs', fq', old, h1, h2, h3, h4⟩ := put_zipO hd hf (Nat.succ.inj hl) r
      refine ⟨w :: vs', f1 ++ fq', old, by rw [h1]; rfl, Dens.cons q h2, by rw [List.length_cons, h3]; rfl, ?_⟩
      rw [← List.append_assoc, List.append_assoc f1]
      exact (List.Perm.append_right f2 List.perm_append_comm).trans (by
        rw [List.append_assoc]
        exact List.Perm.append_left f1 h4)
theorem put_fields {f : Str} {d : D} {v : V} {fd : Fp} (hd : Den K cl Z H d v fd) {ns : List Str} {xs : List D} {vs : List V} {fq : Fp} (hl : ns.length = xs.length) (hx : Dens K cl Z H xs vs fq) :
    ∃ vs' fq' old, putF f v (ns.zip vs) = (putNs f ns).zip vs' ∧ Dens K cl Z H (putXs f d ns xs) vs' fq' ∧ (putNs f ns).length = (putXs f d ns xs).length ∧ (fd ++ fq).Perm (fq' ++ old) := by
  unfold putNs putXs
  by_cases c : ns.contains f = true
  · rw [if_pos c, if_pos c]
    obtain ⟨vs', fq', old, h1, h2, h3, h4⟩ := put_zipO hd (by simpa using c) hl hx
    exact ⟨vs', fq', old, h1, h2, by rw [h3]; exact hl, h4⟩
  · rw [if_neg c, if_neg c]
    refine ⟨vs ++ [v], fq ++ fd, [], zip_put (by simpa using c) (hl.trans hx.length.symm), Dens.append hx (Dens.one hd), by simp [hl], ?_⟩
    rw [List.append_nil]
    exact List.perm_append_comm
theorem Sta.val {d : D} {v : V} {fd : Fp} (s : Sta K cl Z0 H0 Z H σ ρ) (g : Gr Z H Z' H') (dn : Den K cl Z' H' d v fd) (nd : fd.Nodup) (fr : ∀ a ∈ fd, H a = none) : StaV K cl Z0 H0 Z' H' σ ρ d v := by
  obtain ⟨fp, sl, n0, f0⟩ := s.e
  refine ⟨s.g.trans g, s.t.ex g.z, fp, fd, Slots.mono g.z (fun a ha => by
    obtain ⟨z, xs, q⟩ := Slots.own sl a ha
    exact ⟨g.n a (by rw [q]; exact Option.some_ne_none _) z, by rw [q]; exact g.h.l q⟩) sl, dn, ?_, fun a ha => ?_⟩
  · rw [List.nodup_append]
    refine ⟨n0, nd, fun a ha b hb e => ?_⟩
    subst e
    obtain ⟨xs, q⟩ := sl.own2 a ha
    rw [fr a hb] at q; cases q
  · rcases List.mem_append.mp ha with z | z
    · exact f0 a z
    · exact s.g.h.back (fr a z)
theorem Sta.mv {j : Nat} {d : D} (s : Sta K cl Z0 H0 Z H σ ρ) (hj : ρ[j]? = some (some d)) : ∃ v, σ[j]? = some (some v) ∧ StaV K cl Z0 H0 Z H σ (ρ.set j none) d v := by
  obtain ⟨fp, sl, n0, f0⟩ := s.e
  obtain ⟨v, f, rest, h1, h2, h3, h4⟩ := sl.out1 hj
  have p : fp.Perm (rest ++ f) := h3.trans List.perm_append_comm
  exact ⟨v, h1, s.g, s.t, rest, f, h4, h2, p.nodup_iff.mp n0, fun a ha => f0 a (p.symm.mem_iff.mp ha)⟩
theorem StaV.fld {i : Nat} {oa : Option Addr} {c f : Str} {ns : List Str} {xs : List D} {d : D} {v : V} (s : StaV K cl Z0 H0 Z H σ ρ d v) (hi : ρ[i]? = some (some (.own oa c ns xs))) (hm : mutN (putNs f ns) = true) :
    ∃ a dx fs, σ[i]? = some (some (.ref a)) ∧ H a = some (.ins (cl c) dx fs) ∧ fs.length = ns.length ∧ Sta K cl Z0 H0 Z (upd H a (.ins (cl c) dx (putF f v fs))) σ (ρ.set i (some (.own oa c (putNs f ns) (putXs f d ns xs)))) := by
  obtain ⟨g, t, fp, fd, sl, dn, nd, fr⟩ := s
  obtain ⟨w, fi, rest, h1, h2, h3, h4⟩ := sl.out1 hi
  simp only [Den] at h2
  obtain ⟨a, dx, vs, fq, e0, e1, e2, za, q, m, l, r⟩ := h2
  subst e1 e2
  have ps : (fp ++ fd).Perm (a :: (fq ++ rest) ++ fd) := List.Perm.append_right fd h3
  have nd2 := ps.nodup_iff.mp nd
  have fr2 : ∀ b ∈ a :: (fq ++ rest) ++ fd, H0 b = none := fun b hb => fr b (ps.symm.mem_iff.mp hb)
  have nda := List.nodup_cons.mp (show (a :: ((fq ++ rest) ++ fd)).Nodup from nd2)
  have na : ∀ b ∈ (fq ++ rest) ++ fd, b ≠ a := fun b hb e => nda.1 (e ▸ hb)
  obtain ⟨vs', fq', old, k1, k2, k3, k4⟩ := put_fields (f := f) dn l r
  have own := Dens.own _ _ _ k2
  have mq : ∀ b ∈ fq', b ∈ fd ++ fq := fun b hb => k4.symm.mem_iff.mp (List.mem_append_left _ hb)
  have mq2 : ∀ b ∈ fq', b ∈ (fq ++ rest) ++ fd := fun b hb => by
    rcases List.mem_append.mp (mq b hb) with z | z
    · exact List.mem_append_right _ z
    · exact List.mem_append_left _ (List.mem_append_left _ z)
  have la : ∃ y : Mo, H a = some y.o := ⟨.i (cl c) dx (ns.zip vs) (by rw [zip_fst (l.trans r.length.symm)]; exact m), q⟩
  have dq : Den K cl Z (upd H a (.ins (cl c) dx (putF f v (ns.zip vs)))) (.own oa c (putNs f ns) (putXs f d ns xs)) (.ref a) (a :: fq') := by
    simp only [Den]
    refine ⟨a, dx, vs', fq', e0, rfl, rfl, za, by rw [upd_same, k1], hm, k3, Dens.mono (Ex.refl _) _ _ _ (fun b hb => ⟨(own b hb).1, upd_ne (na b (mq2 b hb))⟩) k2⟩
  have sl2 : Slots K cl Z (upd H a (.ins (cl c) dx (putF f v (ns.zip vs)))) (ρ.set i none) σ rest := Slots.mono (Ex.refl _) (fun b hb => ⟨h4.own1 b hb, upd_ne (na b (List.mem_append_left _ (List.mem_append_right _ hb)))⟩) h4
  have li : i < ρ.length := by
    rcases Nat.lt_or_ge i ρ.length with h | h
    · exact h
    · rw [List.getElem?_eq_none h] at hi; cases hi
  obtain ⟨fp', s3, p3⟩ := sl2.in1 (by rw [List.getElem?_set_self li]) h1 dq
  rw [List.set_set] at s3
  refine ⟨a, dx, ns.zip vs, h1, q, by rw [List.length_zip, r.length, l, Nat.min_self], ⟨g.z, g.h.mut (fr2 a List.mem_cons_self) la, g.s.mut za la, g.n⟩, t, fp', s3, ?_, fun b hb => ?_⟩
  · refine p3.symm.nodup_iff.mp (List.nodup_cons.mpr ⟨fun hm => ?_, ?_⟩)
    · rcases List.mem_append.mp hm with z | z
      · exact na a (mq2 a z) rfl
      · exact na a (List.mem_append_left _ (List.mem_append_right _ z)) rfl
    · have nq : (fq' ++ old).Nodup := by
        refine k4.nodup_iff.mp ?_
        have p4 : ((fq ++ rest) ++ fd).Perm (rest ++ (fd ++ fq)) := by
          refine (List.Perm.append_right fd List.perm_append_comm).trans ?_
          rw [List.append_assoc]
          exact List.Perm.append_left rest List.perm_append_comm
        exact (List.nodup_append.mp (p4.nodup_iff.mp nda.2)).2.1
      show (fq' ++ rest).Nodup
      rw [List.nodup_append]
      refine ⟨(List.nodup_append.mp nq).1, (List.nodup_append.mp (List.nodup_append.mp nda.2).1).2.1, fun b hb c2 hc e => ?_⟩
      subst e
      rcases List.mem_append.mp (mq b hb) with z | z
      · exact (List.nodup_append.mp nda.2).2.2 b (List.mem_append_right _ hc) b z rfl
      · exact (List.nodup_append.mp (List.nodup_append.mp nda.2).1).2.2 b z b hc rfl
  · rcases List.mem_append.mp (p3.mem_iff.mp hb) with z | z
    · rcases List.mem_cons.mp z with z | z
      · subst z; exact fr2 b List.mem_cons_self
      · exact fr2 b (List.mem_cons_of_mem _ (mq2 b z))
    · exact fr2 b (List.mem_cons_of_mem _ (List.mem_append_left _ (List.mem_append_right _ z)))
end
def putO (c f : Str) (i : Nat) (ρ : Env) (d : D) : Os := match ρ[i]? with
  | some (some (.own oa c' ns xs)) => if c' == c && mutN (putNs f ns) && decide (ns.length < 900) then .nx (ρ.set i (some (.own oa c' (putNs f ns) (putXs f d ns xs)))) else .bad
  | _ => .bad
def sFldO (c f : Str) (i : Nat) (g : Env → Ou D) : Env → Os := fun ρ => ofU (g ρ) ρ fun d => putO c f i ρ d
def sFldV (c f : Str) (i j : Nat) : Env → Os := fun ρ => match ρ[j]? with
  | some (some d) => putO c f i (ρ.set j none) d
  | _ => .bad
def sFldA (c f : Str) (i : Nat) (op : Int → Int → Int) (g : Env → Ou D) : Env → Os := fun ρ => match ρ[i]? with
  | some (some (.own _ c' ns xs)) => if c' == c then match (ns.zip xs).lookup f with
    | some (.int a) => ofU (g ρ) ρ fun d => match d with
      | .int b => putO c f i ρ (.int (op a b))
      | _ => .bad
    | _ => .bad else .bad
  | _ => .bad
section
variable {X : Cx} {W : WX} {e : Expr} {g : Env → Ou D} {pos pos' p p2 : Pos} {x y f c : Str}
theorem putO_ok {K : PySem.W.Frag} {cl : Str → Addr} {Z H Z0 H0 : Hp} {σ : L2.St} {ρ : Env} {d : D} {v : V} {i : Nat} {E : Ends} (s : StaV K cl Z0 H0 Z H σ ρ d v) (q : PostS K cl W Z0 H0 E (putO c f i ρ d)) :
    ∃ a dx fs, σ[i]? = some (some (.ref a)) ∧ H a = some (.ins (cl c) dx fs) ∧ fs.length < 1000 ∧ E.nx σ (upd H a (.ins (cl c) dx (putF f v fs))) := by
  unfold putO at q
  split at q
  · rename_i oa c' ns xs hi
    split at q
    · rename_i cc
      obtain ⟨cc, c3⟩ := band cc
      obtain ⟨c1, c2⟩ := band cc
      have c1 := beq_iff_eq.mp c1
      subst c1
      obtain ⟨a, dx, fs, h1, h2, h3, h4⟩ := s.fld (f := f) hi c2
      have := of_decide_eq_true c3
      exact ⟨a, dx, fs, h1, h2, by omega, q σ Z _ h4⟩
    · exact q.elim
  · exact q.elim
theorem DS.fldO (i : Nat) (he : DE X W e g) (T : FldOk X.K f [c]) (hN : X.N[i]? = some x := by rfl) (hv : Vis X.env.scope x := by first | exact Or.inl rfl | exact Or.inr (Or.inl rfl))
    (hd : (x == ("__debug__" : Str)) = false := by decide) (hcd : (x == ("__classdict__" : Str)) = false := by decide) (hs : swapsWith e (some (.Attribute (.Name x p) f pos')) pos.line X.env = pure false := by rfl) :
    DS X W (.Assign [.Attribute (.Name x p) f pos'] e pos) (sFldO c f i g) := by
  obtain ⟨T1, T2⟩ := T c List.mem_cons_self
  refine ⟨fun Z0 H0 => PS.weak (ps_fld (pv i hN hv hd hcd) he.run hs) fun E σ H hq => ?_⟩
  obtain ⟨Z, ρ, s, q⟩ := hq
  refine ⟨Z, ρ, s.rel, ?_⟩
  unfold sFldO at q
  cases ec : g ρ with
  | ok d =>
    rw [ec] at q
    intro v Z' H' fp g1 dn nd fr
    obtain ⟨a, dx, fs, h1, h2, h3, h4⟩ := putO_ok (s.val g1 dn nd fr) q
    exact ⟨.ref a, h1, a, _, dx, fs, rfl, h2, T1, T2, h3, h4⟩
  | ex c ns xs => rw [ec] at q; exact fun dc Z' H' g1 x => q dc σ Z' H' (s.gr g1) x
  | bad => rw [ec] at q; exact q
theorem DS.fldV (i j : Nat) (T : FldOk X.K f [c]) (hN : X.N[i]? = some x := by rfl) (hv : Vis X.env.scope x := by first | exact Or.inl rfl | exact Or.inr (Or.inl rfl))
    (hNy : X.N[j]? = some y := by rfl) (hvy : Vis X.env.scope y := by first | exact Or.inl rfl | exact Or.inr (Or.inl rfl))
    (hd : (x == ("__debug__" : Str)) = false := by decide) (hcd : (x == ("__classdict__" : Str)) = false := by decide) (hdy : (y == ("__debug__" : Str)) = false := by decide) (hcdy : (y == ("__classdict__" : Str)) = false := by decide)
    (hs : swapsWith (.Name y p2) (some (.Attribute (.Name x p) f pos')) pos.line X.env = pure false := by rfl) :
    DS X W (.Assign [.Attribute (.Name x p) f pos'] (.Name y p2) pos) (sFldV c f i j) := by
  obtain ⟨T1, T2⟩ := T c List.mem_cons_self
  refine ⟨fun Z0 H0 => PS.weak (ps_fld (pv i hN hv hd hcd) (pv j hNy hvy hdy hcdy) hs) fun E σ H hq => ?_⟩
  obtain ⟨Z, ρ, s, q⟩ := hq
  unfold sFldV at q
  split at q
  · rename_i d hj
    obtain ⟨v, hv1, sv⟩ := s.mv hj
    obtain ⟨a, dx, fs, h1, h2, h3, h4⟩ := putO_ok sv q
    exact ⟨v, hv1, .ref a, h1, a, _, dx, fs, rfl, h2, T1, T2, h3, h4⟩
  · exact q.elim
theorem DS.fldA (i : Nat) {op : Operator} {oi : Int → Int → Int} {rd : V → V → Hp → VK → Prop} (he : DB X W e g) (T : FldOk X.K f [c]) (hop : InOp X op rd) (hrd : ∀ (a b : Int) H Q, Q (.int (oi a b)) H → rd (.int a) (.int b) H Q) (hN : X.N[i]? = some x := by rfl) (hv : Vis X.env.scope x := by first | exact Or.inl rfl | exact Or.inr (Or.inl rfl))
    (hd : (x == ("__debug__" : Str)) = false := by decide) (hcd : (x == ("__classdict__" : Str)) = false := by decide) :
    DS X W (.AugAssign (.Attribute (.Name x p) f pos') op e pos) (sFldA c f i oi g) := by
  obtain ⟨T1, T2⟩ := T c List.mem_cons_self
  refine ⟨fun Z0 H0 => PS.weak (ps_fldaug (pv i hN hv hd hcd) he.run hop) fun E σ H hq => ?_⟩
  obtain ⟨Z, ρ, s, q⟩ := hq
  unfold sFldA at q
  split at q
  · rename_i oa c' ns xs hi
    split at q
    case isFalse => exact q.elim
    rename_i hcc
    have hcc := beq_iff_eq.mp hcc
    subst hcc
    split at q
    · rename_i a0 hl
      obtain ⟨fp, sl, _, _⟩ := s.e
      obtain ⟨v, fv, h1, h2, _⟩ := sl.get hi
      simp only [Den] at h2
      obtain ⟨a, dx, vs, fq, e0, e1, e2, za, q0, m, l, r⟩ := h2
      subst e1
      have key : ∀ {ns : List Str} {xs : List D} {vs : List V} {fq : Fp}, Dens X.K (He.ga X.K) Z H xs vs fq → (ns.zip xs).lookup f = some (.int a0) → (ns.zip vs).lookup f = some (.int a0) := by
        intro ns
        induction ns with
        | nil => intro xs vs fq _ h; simp at h
        | cons n ns ih =>
          intro xs vs fq hx h
          cases xs with
          | nil => simp at h
          | cons x xs =>
            obtain ⟨w, vr, f1, f2, k1, k2, k3, k4⟩ := hx.cons'
            subst k1
            rw [List.zip_cons_cons, List.lookup_cons] at h ⊢
            cases cc : f == n with
            | true =>
              rw [cc] at h
              have h := Option.some.inj h
              subst h
              rw [show w = .int a0 from k3.1]
            | false =>
              rw [cc] at h
              exact ih k4 h
      have hlv := key r hl
      cases ec : g ρ with
      | ok d =>
        rw [ec] at q
        cases d with
        | int b =>
          have q : PostS X.K (He.ga X.K) W Z0 H0 E (putO c' f i ρ (.int (oi a0 b))) := q
          refine ⟨.ref a, h1, a, He.ga X.K c', dx, _, .int a0, rfl, q0, T1, T2, hlv, Z, ρ, s.rel, ?_⟩
          rw [ec]
          intro u Z1 H1 fy g1 dy
          have eu : u = .int b := dy.1
          subst eu
          refine hrd a0 b H1 _ ?_
          obtain ⟨a2, dx2, fs2, k1, k2, k3, k4⟩ := putO_ok (s.val (fd := []) (d := .int (oi a0 b)) (v := .int (oi a0 b)) g1 ⟨rfl, rfl⟩ List.nodup_nil (fun _ z => nomatch z)) q
          rw [h1] at k1
          cases k1
          exact ⟨dx2, fs2, k2, k3, k4⟩
        | _ => exact (show False from q).elim
      | ex c2 ns2 xs2 =>
        rw [ec] at q
        refine ⟨.ref a, h1, a, He.ga X.K c', dx, _, .int a0, rfl, q0, T1, T2, hlv, Z, ρ, s.rel, ?_⟩
        rw [ec]
        exact fun dc Z' H' g1 x => q dc σ Z' H' (s.gr g1) x
      | bad => rw [ec] at q; exact q.elim
    · exact q.elim
  · exact q.elim
end
end DL
namespace DL
open PySem PySem.Spec PyProof.Rows L2
variable [Tb]
def rRemD (K : PySem.W.Frag) : V → List V → Hp → VK → Prop := fun x xs H Q => ∃ (a : Addr) (y : V) (vs : List V) (d : PyData) (ds : List PyData) (j : Nat) (z : PyData), x = V.ref a ∧ xs = [y] ∧ H a = some (.lst vs) ∧ DpAll K H vs ds ∧ Dp K H y d ∧
  SeqAt.shaped (.list ds) = true ∧ SeqAt.shaped d = true ∧ ds[j]? = some z ∧ PyData.eqv z d = true ∧ (∀ (m : Nat) (z' : PyData), m < j → ds[m]? = some z' → PyData.eqv z' d = false) ∧ Q .non (upd H a (.lst (vs.eraseIdx j)))
theorem mt_remD {X : Cx} (hu : X.A.units + 65 < cLine) : MtR X "list.remove" (rRemD X.K) := by
  intro pins s σ H x xs v us Q I rx rxs h
  obtain ⟨a, y, vs, d, ds, j, z, rfl, rfl, hH, ha, hy, sl, sd, hz, hzj, hno, q⟩ := h
  cases rx
  cases rxs with
  | cons ry rt =>
    rename_i uy ut
    cases rt
    obtain ⟨bs, r1⟩ := Dp.reads I d y uy hy ry
    have hxs : PyData.canLayAll0 ds = true := SeqAt.canLay_of_shaped sl
    have hroom : X.A.units + 1 + min (PyData.depthAll ds) d.depth < cLine := room_in_shaped sd hu
    obtain ⟨zz, its, n, rv, hlen, ho⟩ := I.lstM hH
    obtain ⟨as, h4⟩ := Dp.readsAll I ds _ its ha rv
    have hn : its.length = ds.length := SeqAt.ReadsAll.length ds its as h4
    have hmap : its.map (SeqAt.readOf s.heap) = ds := SeqAt.readsAll_map ds its as hxs h4
    have hvl := rv.length
    have hsl := sizeLine_eq
    obtain ⟨hjd, _⟩ := List.getElem?_eq_some_iff.mp hz
    have hjl : j < its.length := by omega
    have hj : j < its.toArray.size := by simpa using hjl
    have at_ : ∀ (m : Nat) (hm : m < its.toArray.size) (z' : PyData), ds[m]? = some z' → SeqAt.readOf s.heap its.toArray[m] = z' := by
      intro m hm z' hz'
      have hml : m < its.length := by simpa using hm
      rw [← hmap, List.getElem?_map, List.getElem?_eq_getElem hml] at hz'
      have e1 : SeqAt.readOf s.heap its[m] = z' := Option.some.inj (show some (SeqAt.readOf s.heap its[m]) = some z' from hz')
      simpa using e1
    refine call_meets PySem.F.slot_list_remove ⟨_, ho, rfl⟩ PySem.F.entry_list_remove (PySem.F.args_list_remove_2 _ _)
      (SeqAt.list_removeAt a its.toArray n none #[] uy (fun u => PyData.eqv (SeqAt.readOf s.heap u) d) j hj ?_ ?_ (by rw [List.size_toArray]; omega)) ⟨ho, SeqAt.items_eqAt (vs := its.toArray) (show ReadsAll s.heap its.toArray.toList ds as from h4) r1 hxs (SeqAt.canLay_of_shaped sd) hroom, ?_⟩
    · show PyData.eqv (SeqAt.readOf s.heap its.toArray[j]) d = true
      rw [at_ j hj z hz]
      exact hzj
    · intro m hm hmj
      have hmd : m < ds.length := by omega
      have hz' : ds[m]? = some ds[m] := List.getElem?_eq_getElem hmd
      show PyData.eqv (SeqAt.readOf s.heap its.toArray[m]) d = false
      rw [at_ m hm _ hz']
      exact hno m _ hmj hz'
    · have rr := rv.eraseIdx j
      refine ⟨.non, _, I.lset (its' := its.eraseIdx j) (t' := s.toks) hH ho ?_ rr ?_, rfl, q⟩
      · show its.toArray.eraseIdxIfInBounds j = (its.eraseIdx j).toArray
        rw [List.eraseIdxIfInBounds_toArray]
      · have := List.length_eraseIdx_le vs j
        omega
def lsOf : D → Option (List D)
  | .lst true xs => some xs
  | .lsa _ xs => some xs
  | _ => none
def reL : D → List D → D
  | .lsa a _, ys => .lsa a ys
  | _, ys => .lst true ys
section
variable {K : PySem.W.Frag} {cl : Str → Addr} {Z H Z0 H0 Z' H' : Hp} {σ : L2.St} {ρ : Env}
theorem StaV.lsO {i : Nat} {x d : D} {xs : List D} {v : V} (s : StaV K cl Z0 H0 Z H σ ρ d v) (hi : ρ[i]? = some (some x)) (hx : lsOf x = some xs) :
    ∃ a vs fq fd, σ[i]? = some (some (.ref a)) ∧ H a = some (.lst vs) ∧ Dens K cl Z H xs vs fq ∧ Den K cl Z H d v fd ∧
      ∀ ys us fq' old, Dens K cl Z H ys us fq' → (fd ++ fq).Perm (fq' ++ old) → Sta K cl Z0 H0 Z (upd H a (.lst us)) σ (ρ.set i (some (reL x ys))) := by
  obtain ⟨g, t, fp, fd, sl, dn, nd, fr⟩ := s
  obtain ⟨w, fi, rest, h1, h2, h3, h4⟩ := sl.out1 hi
  have key : ∃ a vs fq, w = .ref a ∧ fi = a :: fq ∧ Z a = none ∧ H a = some (.lst vs) ∧ Dens K cl Z H xs vs fq ∧ ∀ (G : Hp) ys us fq', G a = some (.lst us) → Dens K cl Z G ys us fq' → Den K cl Z G (reL x ys) (.ref a) (a :: fq') := by
    cases x with
    | lst o ls =>
      cases o with
      | false => cases hx
      | true =>
        cases hx
        simp only [Den] at h2
        obtain ⟨a, vs, fq, e1, e2, z, q, r⟩ := h2
        refine ⟨a, vs, fq, e1, e2, z, q, r, fun G ys us fq' hg hd => ?_⟩
        show Den K cl Z G (.lst true ys) _ _
        simp only [Den]
        exact ⟨a, us, fq', rfl, rfl, z, hg, hd⟩
    | lsa b ls =>
      cases hx
      simp only [Den] at h2
      obtain ⟨vs, fq, e1, e2, z, q, r⟩ := h2
      refine ⟨b, vs, fq, e1, e2, z, q, r, fun G ys us fq' hg hd => ?_⟩
      show Den K cl Z G (.lsa b ys) _ _
      simp only [Den]
      exact ⟨us, fq', trivial, rfl, z, hg, hd⟩
    | _ => cases hx
  obtain ⟨a, vs, fq, e1, e2, za, q, r, kd⟩ := key
  subst e1 e2
  refine ⟨a, vs, fq, fd, h1, q, r, dn, fun ys us fq' old k2 k4 => ?_⟩
  have ps : (fp ++ fd).Perm (a :: (fq ++ rest) ++ fd) := List.Perm.append_right fd h3
  have nd2 := ps.nodup_iff.mp nd
  have fr2 : ∀ b ∈ a :: (fq ++ rest) ++ fd, H0 b = none := fun b hb => fr b (ps.symm.mem_iff.mp hb)
  have nda := List.nodup_cons.mp (show (a :: ((fq ++ rest) ++ fd)).Nodup from nd2)
  have na : ∀ b ∈ (fq ++ rest) ++ fd, b ≠ a := fun b hb e => nda.1 (e ▸ hb)
  have own := Dens.own _ _ _ k2
  have mq : ∀ b ∈ fq', b ∈ fd ++ fq := fun b hb => k4.symm.mem_iff.mp (List.mem_append_left _ hb)
  have mq2 : ∀ b ∈ fq', b ∈ (fq ++ rest) ++ fd := fun b hb => by
    rcases List.mem_append.mp (mq b hb) with z | z
    · exact List.mem_append_right _ z
    · exact List.mem_append_left _ (List.mem_append_left _ z)
  have la : ∃ y : Mo, H a = some y.o := ⟨.l vs, q⟩
  have dq : Den K cl Z (upd H a (.lst us)) (reL x ys) (.ref a) (a :: fq') := kd _ ys us fq' upd_same (Dens.mono (Ex.refl _) _ _ _ (fun b hb => ⟨(own b hb).1, upd_ne (na b (mq2 b hb))⟩) k2)
  have sl2 : Slots K cl Z (upd H a (.lst us)) (ρ.set i none) σ rest := Slots.mono (Ex.refl _) (fun b hb => ⟨h4.own1 b hb, upd_ne (na b (List.mem_append_left _ (List.mem_append_right _ hb)))⟩) h4
  have li : i < ρ.length := by
    rcases Nat.lt_or_ge i ρ.length with h | h
    · exact h
    · rw [List.getElem?_eq_none h] at hi; cases hi
  obtain ⟨fp', s3, p3⟩ := sl2.in1 (by rw [List.getElem?_set_self li]) h1 dq
  rw [List.set_set] at s3
  refine ⟨⟨g.z, g.h.mut (fr2 a List.mem_cons_self) la, g.s.mut za la, g.n⟩, t, fp', s3, ?_, fun b hb => ?_⟩
  · refine p3.symm.nodup_iff.mp (List.nodup_cons.mpr ⟨fun hm => ?_, ?_⟩)
    · rcases List.mem_append.mp hm with z | z
      · exact na a (mq2 a z) rfl
      · exact na a (List.mem_append_left _ (List.mem_append_right _ z)) rfl
    · have nq : (fq' ++ old).Nodup := by
        refine k4.nodup_iff.mp ?_
        have p4 : ((fq ++ rest) ++ fd).Perm (rest ++ (fd ++ fq)) := by
          refine (List.Perm.append_right fd List.perm_append_comm).trans ?_
          rw [List.append_assoc]
          exact List.Perm.append_left rest List.perm_append_comm
        exact (List.nodup_append.mp (p4.nodup_iff.mp nda.2)).2.1
      show (fq' ++ rest).Nodup
      rw [List.nodup_append]
      refine ⟨(List.nodup_append.mp nq).1, (List.nodup_append.mp (List.nodup_append.mp nda.2).1).2.1, fun b hb c2 hc e => ?_⟩
      subst e
      rcases List.mem_append.mp (mq b hb) with z | z
      · exact (List.nodup_append.mp nda.2).2.2 b (List.mem_append_right _ hc) b z rfl
      · exact (List.nodup_append.mp (List.nodup_append.mp nda.2).1).2.2 b z b hc rfl
  · rcases List.mem_append.mp (p3.mem_iff.mp hb) with z | z
    · rcases List.mem_cons.mp z with z | z
      · subst z; exact fr2 b List.mem_cons_self
      · exact fr2 b (List.mem_cons_of_mem _ (mq2 b z))
    · exact fr2 b (List.mem_cons_of_mem _ (List.mem_append_left _ (List.mem_append_right _ z)))
theorem Dens.eraseO : ∀ {xs : List D} {vs : List V} {fq : Fp} {j : Nat}, Dens K cl Z H xs vs fq → ∃ fq' old, Dens K cl Z H (xs.eraseIdx j) (vs.eraseIdx j) fq' ∧ fq.Perm (fq' ++ old)
  | [], vs, fq, j, h => by
    obtain ⟨e1, e2⟩ := h
    subst e1 e2
    exact ⟨[], [], ⟨rfl, rfl⟩, List.Perm.refl _⟩
  | x :: xs, vs, fq, 0, h => by
    obtain ⟨v, vr, f1, f2, e1, e2, q, r⟩ := h.cons'
    subst e1 e2
    exact ⟨f2, f1, r, List.perm_append_comm⟩
  | x :: xs, vs, fq, j + 1, h => by
    obtain ⟨v, vr, f1, f2, e1, e2, q, r⟩ := h.cons'
    subst e1 e2
    obtain ⟨fq', old, h1, h2⟩ := Dens.eraseO (j := j) r
    exact ⟨f1 ++ fq', old, Dens.cons q h1, by
      rw [List.append_assoc]
      exact List.Perm.append_left f1 h2⟩
end
def sAppA (i : Nat) (f : Env → Ou D) : Env → Os := fun ρ => match ρ[i]? with
  | some (some (.lsa a xs)) => ofU (f ρ) ρ fun d => if xs.length < LIM then .nx (ρ.set i (some (.lsa a (xs ++ [d])))) else .bad
  | _ => .bad
def remD (xs : List D) (y : D) : Option (List D) := if y.okd DEP && (D.lst true xs).okd DEP then (fstI (fun z => PyData.eqv z y.py) (D.pys xs)).map fun j => xs.eraseIdx j else none
def sRem (i : Nat) (f : Env → Ou D) : Env → Os := fun ρ => match ρ[i]? with
  | some (some x) => match lsOf x with
    | some xs => ofU (f ρ) ρ fun d => match remD xs d with
      | some ys => .nx (ρ.set i (some (reL x ys)))
      | none => .bad
    | none => .bad
  | _ => .bad
section
variable {X : Cx} {W : WX} {k : Nat} {e : Expr} {f : Env → Ou D} {pos : Pos}
theorem DS.rem (C : Ctx X W k) (i : Nat) {x : Str} {p1 apos cpos : Pos} (he : DE X W e f) (hN : X.N[i]? = some x := by rfl) (hv : Vis X.env.scope x := by first | exact Or.inl rfl | exact Or.inr (Or.inl rfl) | exact Or.inr (Or.inr rfl)) (hd : (x == ("__debug__" : Str)) = false := by decide)
    (hcd : (x == ("__classdict__" : Str)) = false := by decide) (hs : swapsWith (.Call (.Attribute (.Name x p1) "remove" apos) [e] [] cpos) none pos.line X.env = pure false := by rfl)
    (hbase : attributeBase (.Name x p1) "remove" X.env (eval (.Name x p1) X.env) = eval (.Name x p1) X.env := by rfl)
    (hfew : ((backTo cpos (starEach [e] X.env)).all (fun x => !x.1) && (backToKw cpos (keywordEach [] X.env)).all (fun x => x.1.isSome)
      && decide ([e].length + ([] : List Keyword).length + (if ([] : List Keyword).isEmpty then 0 else 1) < 30)) = true := by rfl)
    (hline : (apos.endLine == cpos.line) = true := by rfl) (hst : starEach [e] X.env = (false, eval e X.env) :: starEach [] X.env := by rfl) (hplain : (backTo cpos (starEach [] X.env)).any (·.1) = false := by rfl) :
    DS X W (.Expr (.Call (.Attribute (.Name x p1) "remove" apos) [e] [] cpos) pos) (sRem i f) := by
  have hu : X.A.units + 65 < cLine := by have := C.hr.un; omega
  refine ⟨fun Z0 H0 => PS.weak (ps_expr (pe_bm PySem.F.plainAttrs_list PySem.F.slot_list_remove PySem.F.type_list_remove (mt_remD hu) (pv i hN hv hd hcd) (pa_cons he.run pa_nil hst) hbase hfew hline hst hplain) hs) fun E σ H hq => ?_⟩
  obtain ⟨Z, ρ, s, q⟩ := hq
  unfold sRem at q
  split at q
  · rename_i x0 ec
    cases hls : lsOf x0 with
    | none => rw [hls] at q; exact q.elim
    | some xs =>
      rw [hls] at q
      dsimp only at q
      obtain ⟨l1, vs1, fq1, fd1, h1, h2, _⟩ := (s.val (d := .non) (v := .non) (fd := []) (Gr.refl s.g.s) ⟨rfl, rfl⟩ List.nodup_nil (fun _ z => nomatch z)).lsO ec hls
      refine ⟨.ref l1, h1, .inl ⟨rfl, _, .inl (.inl h2)⟩, Z, ρ, s.rel, ?_⟩
      cases ef : f ρ with
      | ok y =>
        rw [ef] at q
        intro u Z1 H1 fy g1 dy ny fy'
        have q : PostS X.K (He.ga X.K) W Z0 H0 E (match remD xs y with | some ys => .nx (ρ.set i (some (reL x0 ys))) | none => .bad) := q
        obtain ⟨l2, vs, fq, fd, k1, k2, k3, k4, k5⟩ := (s.val g1 dy ny fy').lsO ec hls
        rw [h1] at k1
        cases k1
        cases er : remD xs y with
        | none => rw [er] at q; exact q.elim
        | some ys =>
          rw [er] at q
          unfold remD at er
          split at er
          · rename_i c
            obtain ⟨c1, c2⟩ := band c
            obtain ⟨j, hj, rfl⟩ := Option.map_eq_some_iff.mp er
            obtain ⟨⟨z, z1, z2⟩, z3⟩ := fstI_at hj
            have s1 := (s.gr g1).g.s
            have c2' : D.okds xs 19 = true := c2
            have hsh : SeqAt.shaped (.list (D.pys xs)) = true := by have := okd_shaped (d := .lst true xs) c2; simpa only [D.py] using this
            obtain ⟨fq', old, e1, e2⟩ := Dens.eraseO (j := j) k3
            refine ⟨l1, u, vs, y.py, D.pys xs, j, z, rfl, rfl, k2, Dens.dp s1 xs _ vs fq c2' k3, Den.dp s1 y DEP u fy c1 dy, hsh, okd_shaped c1, z1, z2, z3, ?_⟩
            refine q _ Z1 _ (k5 _ _ fq' (old ++ fd) e1 ?_)
            refine List.perm_append_comm.trans ?_
            rw [← List.append_assoc]
            exact List.Perm.append_right fd e2
          · cases er
      | ex c ns xs => rw [ef] at q; exact fun dc Z' H' g1 x => q dc σ Z' H' (s.gr g1) x
      | bad => rw [ef] at q; exact q
  · exact q.elim
end
end DL
namespace DL
open PySem PySem.Spec PyProof.Rows L2 ClX
variable [Tb]
open Classical in
noncomputable def chA (F : Addr → List D → Ou D) (ds : List D) : Ou D := if h : ∃ r, ∀ a, F a ds = r then Classical.choose h else .bad
theorem chA_eq {F : Addr → List D → Ou D} {ds : List D} {r : Ou D} (h : ∀ a, F a ds = r) : chA F ds = r := by
  have hh : ∃ r, ∀ a, F a ds = r := ⟨r, h⟩
  have e : chA F ds = Classical.choose hh := by unfold chA; rw [dif_pos hh]
  rw [e, ← Classical.choose_spec hh 0, h]
theorem chA_is {F : Addr → List D → Ou D} {ds : List D} (h : chA F ds ≠ .bad) (a : Addr) : F a ds = chA F ds := by
  unfold chA at h ⊢
  split
  · rename_i hh
    exact Classical.choose_spec hh a
  · rename_i hh
    rw [dif_neg hh] at h
    exact absurd rfl h
def PostNA (K : PySem.W.Frag) (cl : Str → Addr) (W : WX) (Z0 H0 : Hp) (a : Addr) (o : Ou D) (E : Ends) : Prop := match o with
  | .ok d => ∀ σ Z H fp, Gr Z0 H0 Z H → Den K cl Z H d (.ref a) fp → fp.Nodup → (∀ b ∈ fp, H0 b = none) → E.nx σ H
  | .ex c ns xs => ∀ dc σ Z H, Gr Z0 H0 Z H → ExD K cl Z H ns xs dc → W (.ref (cl c)) dc σ H
  | .bad => False
structure StaN (K : PySem.W.Frag) (cl : Str → Addr) (c : Str) (a dx : Addr) (Z0 Hb Z H : Hp) (σ : L2.St) (ρ : Env) : Prop where
  s : Sta K cl Z0 (upd Hb a (.ins (cl c) dx [])) Z H σ ρ
  hb : Hb a = none
  z0 : Z0 a = none
structure DSN (X : Cx) (W : WX) (c : Str) (st : List Stmt) (t : Addr → Env → Ou D) : Prop where
  run : ∀ (a dx : Addr) (Z0 Hb : Hp), PSs X st fun E σ H => ∃ Z ρ, StaN X.K (He.ga X.K) c a dx Z0 Hb Z H σ ρ ∧ PostNA X.K (He.ga X.K) W Z0 Hb a (t a ρ) E
def nPre (g : Env → Os) (t : Addr → Env → Ou D) : Addr → Env → Ou D := fun a ρ => match g ρ with
  | .nx ρ' => t a ρ'
  | .ex c ns xs _ => .ex c ns xs
  | _ => .bad
open Classical in
noncomputable def nFld (c f : Str) (g : Env → Ou D) (h : Env → Os) : Addr → Env → Ou D := fun a ρ => if ρ[0]? = some (some (.pin a)) then (g ρ >>= fun d => match h (ρ.set 0 (some (.own (some a) c [f] [d]))) with
  | .nx ρ2 => match (ρ2[0]? : Option (Option D)) with
    | some (some (D.own (some b) c' ns xs)) => if b = a ∧ c' = c then .ok (.own none c ns xs) else .bad
    | _ => .bad
  | .ex c ns xs _ => .ex c ns xs
  | _ => .bad) else .bad
section
variable {K : PySem.W.Frag} {cl : Str → Addr} {c f : Str} {a dx : Addr} {Z0 Hb Z H Z' H' : Hp} {σ : L2.St} {ρ : Env} {d : D} {v : V} {fd : Fp}
theorem StaN.base (s : StaN K cl c a dx Z0 Hb Z H σ ρ) (g : Gr Z0 (upd Hb a (.ins (cl c) dx [])) Z' H') : Gr Z0 Hb Z' H' :=
  ⟨g.z, (Ex.new s.hb).trans g.h, g.s, fun b h1 h2 => g.n b ((Ex.new s.hb).ne b h1) h2⟩
theorem StaN.fld (s : StaN K cl c a dx Z0 Hb Z H σ ρ) (hp : ρ[0]? = some (some (.pin a))) (g : Gr Z H Z' H') (dn : Den K cl Z' H' d v fd) (nd : fd.Nodup) (fr : ∀ b ∈ fd, H b = none) (hm : mutN [f] = true) :
    σ[0]? = some (some (.ref a)) ∧ H' a = some (.ins (cl c) dx []) ∧ Sta K cl Z0 Hb Z' (upd H' a (.ins (cl c) dx [(f, v)])) σ (ρ.set 0 (some (.own (some a) c [f] [d]))) := by
  obtain ⟨g2, t2, fp, fd2, sl, dn2, nd2, fr2⟩ := (s.s.val g dn nd fr)
  obtain ⟨w, fi, rest, h1, h2, h3, h4⟩ := sl.out1 hp
  obtain ⟨e1, e2⟩ := h2
  subst e1 e2
  have hH' : H' a = some (.ins (cl c) dx []) := g2.h.l upd_same
  have z' : Z' a = none := g2.n a (by rw [upd_same]; exact Option.some_ne_none _) s.z0
  have p3 : fp.Perm rest := h3
  have na : ∀ b ∈ rest ++ fd2, b ≠ a := fun b hb e => by
    have := fr2 b ((List.Perm.append_right fd2 p3).symm.mem_iff.mp hb)
    rw [e, upd_same] at this
    cases this
  have nd3 : (rest ++ fd2).Nodup := (List.Perm.append_right fd2 p3).nodup_iff.mp nd2
  have own := Dens.own [d] [v] fd2 (Dens.one dn2)
  refine ⟨h1, hH', ?_⟩
  have dq : Den K cl Z' (upd H' a (.ins (cl c) dx [(f, v)])) (.own (some a) c [f] [d]) (.ref a) (a :: fd2) := by
    simp only [Den]
    exact ⟨a, dx, [v], fd2, fun b hb => (Option.some.inj hb).symm, rfl, rfl, z', upd_same, hm, rfl, Dens.one (Den.mono (Ex.refl _) d v fd2 (fun b hb => ⟨(own b hb).1, upd_ne (na b (List.mem_append_right _ hb))⟩) dn2)⟩
  have sl2 : Slots K cl Z' (upd H' a (.ins (cl c) dx [(f, v)])) (ρ.set 0 none) σ rest := Slots.mono (Ex.refl _) (fun b hb => ⟨h4.own1 b hb, upd_ne (na b (List.mem_append_left _ hb))⟩) h4
  have li : 0 < ρ.length := by
    rcases Nat.lt_or_ge 0 ρ.length with h | h
    · exact h
    · rw [List.getElem?_eq_none h] at hp; cases hp
  obtain ⟨fp', s3, p4⟩ := sl2.in1 (by rw [List.getElem?_set_self li]) h1 dq
  rw [List.set_set] at s3
  have gb := s.base g2
  refine ⟨gb.mutI s.hb z' hH', t2, fp', s3, ?_, fun b hb => ?_⟩
  · refine p4.symm.nodup_iff.mp (List.nodup_cons.mpr ⟨fun hm => ?_, ?_⟩)
    · rcases List.mem_append.mp hm with z | z
      · exact na a (List.mem_append_right _ z) rfl
      · exact na a (List.mem_append_left _ z) rfl
    · exact (List.perm_append_comm (l₁ := rest) (l₂ := fd2)).nodup_iff.mp nd3
  · have fr3 : ∀ b ∈ rest ++ fd2, Hb b = none := fun b hb => (Ex.new s.hb).back (fr2 b ((List.Perm.append_right fd2 p3).symm.mem_iff.mp hb))
    rcases List.mem_append.mp (p4.mem_iff.mp hb) with z | z
    · rcases List.mem_cons.mp z with z | z
      · subst z; exact s.hb
      · exact fr3 b (List.mem_append_right _ z)
    · exact fr3 b (List.mem_append_left _ z)
end
section
variable {X : Cx} {W : WX} {c f sf : Str} {st : Stmt} {rest : List Stmt} {g : Env → Os} {ge : Env → Ou D} {h : Env → Os} {t : Addr → Env → Ou D} {e : Expr} {p1 p2 p3 : Pos}
theorem DSN.pre (h1 : DS X W st g) (h2 : DSN X W c rest t) : DSN X W c (st :: rest) (nPre g t) := by
  refine ⟨fun a dx Z0 Hb => PSs.weak (pss_cons (h1.run Z0 (upd Hb a (.ins (He.ga X.K c) dx []))) (h2.run a dx Z0 Hb)) fun E σ H hq => ?_⟩
  obtain ⟨Z, ρ, s, q⟩ := hq
  refine ⟨Z, ρ, s.s, ?_⟩
  unfold nPre at q
  cases eg : g ρ with
  | nx ρ' => rw [eg] at q; exact fun σ' Z' H' s' => ⟨Z', ρ', ⟨s', s.hb, s.z0⟩, q⟩
  | ex c ns xs ρ' => rw [eg] at q; exact fun dc σ' Z' H' s' x => q dc σ' Z' H' (s.base s'.g) x
  | rt d => rw [eg] at q; exact q.elim
  | bk ρ' => rw [eg] at q; exact q.elim
  | ct ρ' => rw [eg] at q; exact q.elim
  | bad => rw [eg] at q; exact q.elim
theorem DSN.fld (hc : Cls X.K (He.ga X.K c)) (hn : NoAttr X.K (He.ga X.K c) f) (he : DE X W e ge) (hr : DSs X W rest h) (hm : mutN [f] = true) (hsf : PE X (.Name sf p1) (tVar 0))
    (hs : swapsWith e (some (.Attribute (.Name sf p1) f p2)) p3.line X.env = pure false := by rfl) : DSN X W c (.Assign [.Attribute (.Name sf p1) f p2] e p3 :: rest) (nFld c f ge h) := by
  refine ⟨fun a dx Z0 Hb => PSs.weak (pss_cons (ps_fld hsf he.run hs) (hr.run Z0 Hb)) fun E σ H hq => ?_⟩
  obtain ⟨Z, ρ, s, q⟩ := hq
  unfold nFld at q
  split at q
  case isFalse => exact q.elim
  rename_i hp
  refine ⟨Z, ρ, s.s.rel, ?_⟩
  cases ec : ge ρ with
  | ok d =>
    rw [ec] at q
    intro v Z' H' fp g1 dn nd fr
    obtain ⟨k1, k2, k3⟩ := s.fld (f := f) hp g1 dn nd fr hm
    refine ⟨.ref a, k1, a, _, dx, [], rfl, k2, hc, hn, by decide, Z', _, k3, ?_⟩
    have q : PostNA X.K (He.ga X.K) W Z0 Hb a (match h (ρ.set 0 (some (.own (some a) c [f] [d]))) with
      | .nx ρ2 => match (ρ2[0]? : Option (Option D)) with
        | some (some (D.own (some b) c' ns xs)) => if b = a ∧ c' = c then .ok (.own none c ns xs) else .bad
        | _ => .bad
      | .ex c ns xs _ => .ex c ns xs
      | _ => .bad) E := q
    cases eh : h (ρ.set 0 (some (.own (some a) c [f] [d]))) with
    | nx ρ2 =>
      rw [eh] at q
      dsimp only at q
      intro σ2 Z2 H2 s2
      split at q
      · rename_i b c' ns xs hi
        split at q
        · rename_i cc
          obtain ⟨c1, c2⟩ := cc
          subst c1 c2
          obtain ⟨fp2, sl, nd2, fr2⟩ := s2.e
          obtain ⟨w, fw, k4, k5, k6⟩ := sl.get hi
          simp only [Den] at k5
          obtain ⟨b2, dx2, vs, fq, e0, e1, e2, z, hq, m, l, r⟩ := k5
          have eb : b = b2 := e0 b rfl
          subst eb
          refine q σ2 Z2 H2 fw s2.g ?_ (k6.nodup nd2) fun x hx => fr2 x (k6.subset hx)
          simp only [Den]
          exact ⟨b, dx2, vs, fq, by simp, rfl, e2, z, hq, m, l, r⟩
        · exact q.elim
      · exact q.elim
    | ex c ns xs ρ2 => rw [eh] at q; exact fun dc σ2 Z2 H2 s2 x => q dc σ2 Z2 H2 s2.g x
    | rt d2 => rw [eh] at q; exact q.elim
    | bk ρ2 => rw [eh] at q; exact q.elim
    | ct ρ2 => rw [eh] at q; exact q.elim
    | bad => rw [eh] at q; exact q.elim
  | ex c ns xs => rw [ec] at q; exact fun dc Z' H' g1 x => q dc σ Z' H' (s.base (s.s.g.trans g1)) x
  | bad => rw [ec] at q; exact q.elim
end
def spO (K : PySem.W.Frag) (c : Str) (n : Nat) (F : Addr → List D → Ou D) : Sp := fun vs H Q E => ∃ a dx ws H0, vs = .ref a :: ws ∧ ws.length = n ∧ H = upd (upd H0 dx (.own a)) a (.ins (He.ga K c) dx []) ∧ H0 a = none ∧ H0 dx = none ∧ dx ≠ a ∧ spF K n (F a) ws H0 (fun v H' => v = .ref a → Q .non H') E
def runO (n : Nat) (t : Addr → Env → Ou D) (a : Addr) (ds : List D) : Ou D := t a (some (.pin a) :: (ds.map some ++ List.replicate (n - (ds.length + 1)) none))
theorem fnO {P : Program} {w : World} {K : PySem.W.Frag} {mg : Str → Option Value} {base : Heap} {x qual c : Str} {params : Arguments} {body : List Stmt} {scope : Scope} {dvs : List V} {kws : List (Str × V)} {f : Addr} {fd : FuncData} {N ps : List Str} {k n : Nat} {t : Addr → Env → Ou D}
    (F : FunD K x qual params body scope dvs kws f fd) (S : FnScope N ps scope) (hn : ps.length = n + 1)
    (hb : ∀ (cdv : Value) (A : Around) (outer : List PySem.Env) (s : Shared) (H : Hp) (E : XK), Ctx (cxOf (L2.CX P w) P w K mg base N qual scope f cdv A outer s H E) (fun cls d _ H => E cls d H) k →
      DSN (cxOf (L2.CX P w) P w K mg base N qual scope f cdv A outer s H E) (fun cls d _ H => E cls d H) c body t) : FnOk P w K mg base (L2.CX P w) (k + 1) f fd ps (spO K c n (runO N.length t)) := by
  refine F.ok S (fun vs H Q E h => ?_) fun cdv A outer s H vs Q E hr hsp => ?_
  · obtain ⟨a, dx, ws, H0, e1, e2, _⟩ := h
    rw [e1, hn, List.length_cons, e2]
  obtain ⟨a, dx, ws, H0, rfl, hl, rfl, h0, hd, ne, _, Z, ds, ez, tk, dn, q⟩ := hsp
  have C : Ctx (cxOf (L2.CX P w) P w K mg base N qual scope f cdv A outer s (upd (upd H0 dx (.own a)) a (.ins (He.ga K c) dx [])) E) (fun cls d _ H => E cls d H) k := ⟨rfl, hr, passes_of rfl, takes_of rfl rfl rfl rfl, S.nd⟩
  have e1 : Ex H0 (upd H0 dx (.own a)) := Ex.new hd
  have h1 : upd H0 dx (.own a) a = none := by rw [upd_ne (fun z => ne z.symm)]; exact h0
  have e2 : Ex H0 (upd (upd H0 dx (.own a)) a (.ins (He.ga K c) dx [])) := e1.trans (Ex.new h1)
  have dn1 : Dens K (He.ga K) Z (upd (upd H0 dx (.own a)) a (.ins (He.ga K c) dx [])) (.pin a :: ds) (.ref a :: ws) [] :=
    Dens.cons (f := []) (g := []) ⟨rfl, rfl⟩ (Dens.mono (Ex.refl _) ds ws [] (fun _ z => nomatch z) dn)
  have el : (V.ref a :: ws).length = (D.pin a :: ds).length := dn1.length
  refine ⟨_, (hb cdv A outer s _ E C).run a dx Z (upd H0 dx (.own a)), Z, some (.pin a) :: (ds.map some ++ List.replicate (N.length - (ds.length + 1)) none), ⟨⟨Gr.refl (ez.trans e2), tk, [], ?_, List.nodup_nil, fun _ z => nomatch z⟩, h1, ez.back h0⟩, ?_⟩
  · show Slots _ _ _ _ _ ((V.ref a :: ws).map some ++ List.replicate (N.length - (V.ref a :: ws).length) none) _
    rw [el]
    exact Slots.start _ dn1
  · unfold runO at q
    cases e : t a (some (.pin a) :: (ds.map some ++ List.replicate (N.length - (ds.length + 1)) none)) with
    | ok d =>
      rw [e] at q
      intro σ Z' H' fp g dd nd fr
      exact q (.ref a) Z' H' fp ⟨g.z, e1.trans g.h, g.s, fun b k1 k2 => g.n b (e1.ne b k1) k2⟩ dd nd (fun b hb => e1.back (fr b hb)) rfl
    | ex cn ns xs => rw [e] at q; exact fun dc σ Z' H' g x => q dc Z' H' ⟨g.z, e1.trans g.h, g.s, fun b k1 k2 => g.n b (e1.ne b k1) k2⟩ x
    | bad => rw [e] at q; exact q.elim
structure DnO (P : Program) (w : World) (K : PySem.W.Frag) (mg : Str → Option Value) (base : Heap) (k : Nat) (c : Str) (n : Nat) (F : Addr → List D → Ou D) : Prop where
  ex : ∃ (f : Addr) (fd : FuncData) (ps : List Str), Mk K (He.ga K c) f ∧ FnOk P w K mg base (L2.CX P w) k f fd ps (spO K c n F) ∧ Binds K fd ps []
theorem DnO.of {P : Program} {w : World} {K : PySem.W.Frag} {mg : Str → Option Value} {base : Heap} {k n : Nat} {c : Str} {F : Addr → List D → Ou D} {fd : FuncData} {ps fs : List Str} (h : chkMk c fs K = true) (ok : FnOk P w K mg base (L2.CX P w) k (He.fAd K (c, some "__init__")) fd ps (spO K c n F)) (hb : Binds K fd ps []) : DnO P w K mg base k c n F :=
  ⟨_, fd, ps, chkMk_mk h, ok, hb⟩
theorem spF.chA {K : PySem.W.Frag} {n : Nat} {F : Addr → List D → Ou D} {vs : List V} {H : Hp} {Q : VK} {E : XK} (a : Addr) (h : spF K n (DL.chA F) vs H Q E) : spF K n (F a) vs H Q E := by
  obtain ⟨hl, Z, ds, ez, tk, dn, q⟩ := h
  refine ⟨hl, Z, ds, ez, tk, dn, ?_⟩
  have e : F a ds = DL.chA F ds := chA_is (fun z => by rw [z] at q; exact q) a
  rw [e]
  exact q
section
variable {X : Cx} {W : WX} {k j n : Nat} {e : Expr} {es : List Expr} {t : Env → Ou (List D)} {pos p : Pos} {x : Str} {F : Addr → List D → Ou D}
theorem DE.makeO0 (C : Ctx X W k) (G : DnO X.prog X.w X.K X.mg X.base j x 0 F) (hm : X.mg x = some (.ref (He.ga X.K x))) (hk : j + 1 ≤ k := by decide) (hg : Gl X x := by rfl)
    (hdb : (x == ("__debug__" : Str)) = false := by decide) : DE X W (.Call (.Name x p) [] [] pos) (dCall (chA F) aNil) := by
  obtain ⟨f, fd, ps, M, ok, hb⟩ := G.ex
  refine ⟨⟨fun pins s σ H Q I hq => ?_⟩⟩
  obtain ⟨Z, ρ, r, q⟩ := hq
  refine wpAny_Call_Name_kw (ld_glob I hg hm ?_ hdb)
  refine PySem.W.callWith_K0 (first := []) I.kIn M.kp ?_
  refine run_makeS (dvs := []) (ds := []) (us := []) (vs := []) M ok (C.hr.mono hk) hb .nil (passAt C.tk σ) I .nil fun x dx hx hdx ne => ?_
  exact ⟨x, dx, [], H, rfl, rfl, rfl, hx, hdx, ne, (spF.mono (fun v H' qv ev => ⟨rfl, ev ▸ qv⟩) (spF_of r.s r.t (ds := []) (fp := []) ⟨rfl, rfl⟩ rfl q)).chA x⟩
end
end DL
namespace DL
open PySem PySem.Spec PyProof.Rows L2 ClX
variable [Tb]
def blR : Ou D → Ou D
  | .ok (.bl b) => .ok (.bl b)
  | .ex c ns xs => .ex c ns xs
  | _ => .bad
def dInO (c : Str) (F : List D → Ou D) (f g : DL.Env → Ou D) : DL.Env → Ou D := fun ρ => f ρ >>= fun x => g ρ >>= fun y => blR (if isIns c y = true then callR F [y, x] else .bad)
@[simp] theorem x_dInO (ρ : DL.Env) (c : Str) (F : List D → Ou D) (f g : DL.Env → Ou D) : dInO c F f g ρ = (f ρ >>= fun x => g ρ >>= fun y => blR (if isIns c y = true then callR F [y, x] else .bad)) := (rfl)
def InsC (K : PySem.W.Frag) (c : Str) (F : List D → Ou D) (v u : V) (H : Hp) (Q : VK) (E : XK) : Prop := ∃ a dx fs, v = .ref a ∧ H a = some (.ins (He.ga K c) dx fs) ∧ spF K 2 F [.ref a, u] H Q E
theorem PostO_blR {K : PySem.W.Frag} {cl : Str → Addr} {W : WX} {Z H : Hp} {σ : L2.St} {o : Ou D} {Q : VK} (s : Ex Z H) (h : PostO K cl W Z H σ (blR o) Q) : PostO K cl W Z H σ o fun z H' => ∃ b : Bool, z = .bl b ∧ Q z H' := by
  cases o with
  | ok d =>
    cases d with
    | bl b => exact fun v Z' H' fp g dn nd fr => ⟨b, dn.1, h v Z' H' fp g dn nd fr⟩
    | _ => exact h.elim
  | ex c ns xs => exact h
  | bad => exact h.elim
section
variable {X : Cx} {W : WX} {k j n : Nat} {e a b : Expr} {f g : DL.Env → Ou D} {pos p : Pos} {c : Str} {F : List D → Ou D}
theorem DE.inO (C : Ctx X W k) (G : OpK X.prog X.w X.K X.mg X.base j c "__contains__" 2 F) (ha : DB X W a f) (hb : DB X W b g) (hm : behindInMarks .In b = false) (hk : j ≤ k := by decide) : DE X W (.Compare a [.In] [b] pos) (dInO c F f g) := by
  obtain ⟨fa, fd, ps, me, ok, hbn⟩ := G.ex
  refine ⟨⟨fun pins s σ H Q I hq => ?_⟩⟩
  refine wpAny_Compare1 (binT (R := fun v u H => InsC X.K c F u v H (fun z H' => ∃ b : Bool, z = .bl b ∧ Q z H') (WE W σ)) ha.run hb.run I ?_ fun v u s2 x y H2 I2 rx ry q => ?_) hm
  · obtain ⟨Z, ρ, r, q⟩ := hq
    refine tV_bind (P := fun Z H o => PostO X.K (He.ga X.K) W Z H σ o Q) r (fun _ _ _ z => z) (fun z => z) q fun d1 v Z1 H1 fx e1 g1 dx q => ?_
    refine tV_bind (P := fun Z H o => PostO X.K (He.ga X.K) W Z H σ o Q) (r.gr g1) (fun _ _ _ z => z) (fun z => z) (PostO.gr q g1) fun d2 u Z2 H2 fy e2 g2 dy q => ?_
    have q := PostO_blR g2.s (PostO.gr q g2)
    by_cases hc : isIns c d2 = true
    · rw [if_pos hc] at q
      obtain ⟨ns, xs, e⟩ := isIns_inv hc
      subst e
      have dy0 := dy
      simp only [Den] at dy
      obtain ⟨a, dxa, vs, e1, e2, z, l, ds⟩ := dy
      subst e1 e2
      have dd : Dens X.K (He.ga X.K) Z2 H2 [.ins c ns xs, d1] [.ref a, v] fx := by
        have := Dens.cons dy0 (Dens.one (g2.den dx))
        simpa using this
      exact ⟨a, dxa, _, rfl, g2.s.l z, spF_of g2.s ((r.gr g1).t.ex g2.z) dd rfl q⟩
    · rw [if_neg hc] at q
      exact q.elim
  · obtain ⟨a1, dx, fs, rfl, hx, q⟩ := q
    cases (show u = Value.ref a1 from ry)
    obtain ⟨mA, J, _⟩ := ins_get I2.hok hx
    obtain ⟨od, J, _⟩ := J.look
    obtain ⟨m, hF⟩ := I2.fr
    refine PySem.W.in_K hF I2.ok.mod.kin J me.at_ me.fn ?_
    refine wpAny_mono (run_fnS (E := fun σ => WE W σ) (us := [.ref a1, v]) (vs := [.ref a1, x]) ok (C.hr.mono hk) hbn (passAt C.tk σ) I2 (.cons rfl (.cons rx .nil)) q) (fun w s' z => ?_) fun _ _ x => x
    obtain ⟨z', H', I', rz, bb, eb, qz⟩ := z
    subst eb
    cases (show w = Value.bool bb from rz)
    exact wpAny_truthy_bool ⟨.bl bb, H', I', rfl, qz⟩
def tInO (c : Str) (F : List D → Ou D) (f g : DL.Env → Ou D) : DL.Env → Ou Bool := fun ρ => f ρ >>= fun x => g ρ >>= fun y => match blR (if isIns c y = true then callR F [y, x] else .bad) with
  | .ok (.bl b) => .ok b
  | .ex c ns xs => .ex c ns xs
  | _ => .bad
@[simp] theorem x_tInO (ρ : DL.Env) (c : Str) (F : List D → Ou D) (f g : DL.Env → Ou D) : tInO c F f g ρ = (f ρ >>= fun x => g ρ >>= fun y => match blR (if isIns c y = true then callR F [y, x] else .bad) with
  | .ok (.bl b) => .ok b
  | .ex c ns xs => .ex c ns xs
  | _ => .bad) := (rfl)
theorem PostT_blR {K : PySem.W.Frag} {cl : Str → Addr} {W : WX} {Z H : Hp} {σ : L2.St} {o : Ou D} {Q : Bool → Hp → Prop} (s : Ex Z H) (h : PostT K cl W Z H σ (match blR o with
  | .ok (.bl b) => .ok b
  | .ex c ns xs => .ex c ns xs
  | _ => .bad) Q) : PostO K cl W Z H σ o fun z H' => ∃ b : Bool, z = .bl b ∧ Q b H' := by
  cases o with
  | ok d =>
    cases d with
    | bl b => exact fun v Z' H' fp g dn nd fr => ⟨b, dn.1, h Z' H' g⟩
    | _ => exact h.elim
  | ex c ns xs => exact h
  | bad => exact h.elim
theorem DT.inO (C : Ctx X W k) (G : OpK X.prog X.w X.K X.mg X.base j c "__contains__" 2 F) (ha : DB X W a f) (hb : DB X W b g) (hm : behindInMarks .In b = false) (hk : j ≤ k := by decide) : DT X W (.Compare a [.In] [b] pos) (tInO c F f g) := by
  obtain ⟨fa, fd, ps, me, ok, hbn⟩ := G.ex
  refine ⟨⟨fun pins s σ H Q I hq => ?_⟩⟩
  refine wpAny_isTrue_Compare1 (binT (R := fun v u H => InsC X.K c F u v H (fun z H' => ∃ b : Bool, z = .bl b ∧ Q b H') (WE W σ)) ha.run hb.run I ?_ fun v u s2 x y H2 I2 rx ry q => ?_) hm
  · obtain ⟨Z, ρ, r, q⟩ := hq
    refine tV_bind (P := fun Z H o => PostT X.K (He.ga X.K) W Z H σ o Q) r (fun _ _ _ z => z) (fun z => z) q fun d1 v Z1 H1 fx e1 g1 dx q => ?_
    refine tV_bind (P := fun Z H o => PostT X.K (He.ga X.K) W Z H σ o Q) (r.gr g1) (fun _ _ _ z => z) (fun z => z) (PostT.gr q g1) fun d2 u Z2 H2 fy e2 g2 dy q => ?_
    have q := PostT_blR g2.s (PostT.gr q g2)
    by_cases hc : isIns c d2 = true
    · rw [if_pos hc] at q
      obtain ⟨ns, xs, e⟩ := isIns_inv hc
      subst e
      have dy0 := dy
      simp only [Den] at dy
      obtain ⟨a, dxa, vs, e1, e2, z, l, ds⟩ := dy
      subst e1 e2
      have dd : Dens X.K (He.ga X.K) Z2 H2 [.ins c ns xs, d1] [.ref a, v] fx := by
        have := Dens.cons dy0 (Dens.one (g2.den dx))
        simpa using this
      exact ⟨a, dxa, _, rfl, g2.s.l z, spF_of g2.s ((r.gr g1).t.ex g2.z) dd rfl q⟩
    · rw [if_neg hc] at q
      exact q.elim
  · obtain ⟨a1, dx, fs, rfl, hx, q⟩ := q
    cases (show u = Value.ref a1 from ry)
    obtain ⟨mA, J, _⟩ := ins_get I2.hok hx
    obtain ⟨od, J, _⟩ := J.look
    obtain ⟨m, hF⟩ := I2.fr
    refine PySem.W.in_K hF I2.ok.mod.kin J me.at_ me.fn ?_
    refine wpAny_mono (run_fnS (E := fun σ => WE W σ) (us := [.ref a1, v]) (vs := [.ref a1, x]) ok (C.hr.mono hk) hbn (passAt C.tk σ) I2 (.cons rfl (.cons rx .nil)) q) (fun w s' z => ?_) fun _ _ x => x
    obtain ⟨z', H', I', rz, bb, eb, qz⟩ := z
    subst eb
    cases (show w = Value.bool bb from rz)
    exact wpAny_truthy_bool (wpAny_truthy_bool ⟨H', I', qz⟩)
end
def selfF (F : List D → Ou D) (ds : List D) : Ou D := match F ds, ds with
  | .ok (.wth (.pin p) os), .own (some a) _ _ _ :: _ => if p = a then .ok (.wth .non os) else .bad
  | .ex c ns xs, _ => .ex c ns xs
  | _, _ => .bad
theorem spM.self {K : PySem.W.Frag} {b : List Bool} {F : List D → Ou D} {v0 : V} {vs : List V} {H : Hp} {Q : VK} {E : XK} (h : spM K (true :: b) (selfF F) (v0 :: vs) H (fun _ H' => Q v0 H') E) : spM K (true :: b) F (v0 :: vs) H Q E := by
  obtain ⟨hl, Z, as, cs, args, avs, fi, ez, tk, hcc, el, hm, ev, di, nf, da, q⟩ := h
  refine ⟨hl, Z, as, cs, args, avs, fi, ez, tk, hcc, el, hm, ev, di, nf, da, ?_⟩
  unfold selfF at q
  cases as with
  | nil =>
    cases cs with
    | nil => cases args <;> cases hm
    | cons => cases el
  | cons a as =>
    cases cs with
    | nil => cases el
    | cons c cs =>
      have ev0 : v0 = .ref a := by
        have : v0 :: vs = V.ref a :: mix b (as.map V.ref) avs := ev
        injection this
      have em : mix (true :: b) (adrL (a :: as) (c :: cs)) args = adr1 a c :: mix b (adrL as cs) args := rfl
      rw [em] at q ⊢
      cases eF : F (adr1 a c :: mix b (adrL as cs) args) with
      | bad => rw [eF] at q; exact q.elim
      | ex c2 ns xs => rw [eF] at q; exact q
      | ok d =>
        rw [eF] at q
        split at q
        · rename_i p os a2 _ _ _ r e1 e2
          cases e1
          injection e2 with e3 e4
          have ea : a2 = a := by
            cases c with
            | own oa c1 ns xs => unfold adr1 at e3; injection e3 with e5; injection e5 with e6; exact e6.symm
            | lst o xs => cases o <;> cases e3
            | lsa b xs => cases e3
            | _ => cases e3
          subst ea
          split at q
          · rename_i ep
            subst ep
            subst ev0
            intro v Z' H' fp g dn nd fr
            simp only [Den] at dn
            obtain ⟨vs', f1, f2, e, ⟨e7, e8⟩, dos⟩ := dn
            subst e7 e8
            refine q .non Z' H' fp g ?_ nd fr
            simp only [Den]
            exact ⟨vs', [], f2, e, ⟨trivial, rfl⟩, dos⟩
          · exact q.elim
        · rename_i e1; cases e1
        · exact q.elim
def sRetSelf (b : List Bool) (i : Nat) : Env → Os := fun ρ => match ρ[i]? with
  | some (some (.own (some a) _ _ _)) => match outsE b ρ with
    | some os => .rt (.wth (.pin a) os)
    | none => .bad
  | _ => .bad
section
variable {X : Cx} {W : WX} {k j n : Nat} {e : Expr} {f : DL.Env → Ou D} {pos p pos' : Pos} {c x : Str} {F : List D → Ou D} {b : List Bool}
theorem DS.retSelf (i : Nat) {x : Str} {p : Pos} (hN : X.N[i]? = some x := by rfl) (hv : Vis X.env.scope x := by first | exact Or.inl rfl | exact Or.inr (Or.inl rfl) | exact Or.inr (Or.inr rfl)) (hd : (x == ("__debug__" : Str)) = false := by decide)
    (hcd : (x == ("__classdict__" : Str)) = false := by decide) : DS X W (.Return (some (.Name x p)) pos) (sRetSelf b i) := by
  refine ⟨fun Z0 H0 => PS.weak (ps_ret (pv i hN hv hd hcd)) fun E σ H hq => ?_⟩
  obtain ⟨Z, ρ, s, q⟩ := hq
  obtain ⟨fp, sl, nd, fr⟩ := s.e
  unfold sRetSelf at q
  split at q
  · rename_i a c2 ns xs hi
    obtain ⟨v, f, h1, h2, h3⟩ := Slots.get sl hi
    simp only [Den] at h2
    obtain ⟨a2, dx, vs, fq, e0, e1, _⟩ := h2
    cases eo : outsE b ρ with
    | none => rw [eo] at q; exact q.elim
    | some os =>
      rw [eo] at q
      obtain ⟨vs', f', k1, k2⟩ := Slots.outsE eo sl
      refine ⟨v, h1, q v Z H f' s.g ?_ (k2.nodup nd) fun x hx => fr x (k2.subset hx)⟩
      simp only [Den]
      exact ⟨vs', [], f', rfl, ⟨by rw [e1, e0 a rfl], rfl⟩, k1⟩
  · exact q.elim
theorem DS.iadd (i : Nat) (C : Ctx X W k) (G : MtM X.prog X.w X.K X.mg X.base j c "__iadd__" [true, false] F) (hf : PySem.W.selfFirst X.K (He.ga X.K c) = true) (he : DE X W e f) (hk : j ≤ k := by decide)
    (hi : X.N[i]? = some x := by rfl) (hx : Loc X.env.scope x := by first | exact Or.inl rfl | exact Or.inr rfl)
    (hff : X.fn x = true ∨ X.env.scope.names.lookup x = some .local := by first | exact .inl rfl | exact .inr rfl | assumption) :
    DS X W (.AugAssign (.Name x pos') .Add e pos) (sDropM (dMethM c "__iadd__" [true, false] (selfF F) [i] (aCons f aNil))) := by
  obtain ⟨g, fd, ps, me, ok, hb⟩ := G.ex
  refine ⟨fun Z0 H0 => ⟨fun pins s σ H E I hq => ?_⟩⟩
  obtain ⟨Z, ρ, so, q⟩ := hq
  have q1 : ∀ a : Addr, PostEM X.K (He.ga X.K) W Z0 H0 σ (dMethM c "__iadd__" [true, false] (selfF F) [i] (aCons f aNil) ρ) fun _ H' => V.ref a = V.ref a ∧ E.nx σ H' := fun a => by
    unfold sDropM at q
    cases ed : dMethM c "__iadd__" [true, false] (selfF F) [i] (aCons f aNil) ρ with
    | ok d ρ' => rw [ed] at q; exact fun v Z' H' s' => ⟨rfl, q σ Z' H' s'.sta⟩
    | ex c ns xs ρ' => rw [ed] at q; exact fun dc Z' H' s' x => q dc σ Z' H' s' x
    | bad => rw [ed] at q; exact q.elim
  unfold dMethM at q1
  cases htk : takeL [i] ρ with
  | none => rw [htk] at q1; exact (q1 0).elim
  | some pr =>
    obtain ⟨ios, ρ1⟩ := pr
    rw [htk] at q1
    dsimp only at q1
    by_cases ho : isOwn c "__iadd__" ios = true
    · rw [if_pos ho] at q1
      obtain ⟨oa, ns, xs, r, rfl, hnc⟩ := isOwn_inv ho
      have hi2 := takeL_head htk
      obtain ⟨fp, sl, _, _⟩ := so.e
      obtain ⟨v, f0, h1, h2, _⟩ := sl.get hi2
      simp only [Den] at h2
      obtain ⟨a, dx, vs, fq, e0, e1, e2, z, hqa, _⟩ := h2
      subst e1
      have hA := argsM (X := X) (W := W) (t := aCons f aNil) (b := [true, false]) (F := selfF F) (R := fun vs2 H2 => spM X.K [true, false] (selfF F) vs2 H2 (fun _ H' => V.ref a = V.ref a ∧ E.nx σ H') (WE W σ)) so htk (fun ρ ds e => by
        unfold aCons at e
        cases ef : f ρ with
        | ok d => rw [ef] at e; cases e; rfl
        | ex c ns xs => rw [ef] at e; cases e
        | bad => rw [ef] at e; cases e) (q1 a) fun vs H1 h => h
      obtain ⟨Z1, ρ1', r1, ⟨ivs, vv⟩, q2⟩ := hA
      have hR : tD X.K (He.ga X.K) W f σ H fun y H1 => H1 a = some (.ins (He.ga X.K c) dx (ns.zip vs)) ∧ spM X.K [true, false] (selfF F) [.ref a, y] H1 (fun _ H' => V.ref a = V.ref a ∧ E.nx σ H') (WE W σ) := by
        refine ⟨Z1, ρ1', r1, ?_⟩
        cases ef : f ρ1' with
        | ok d =>
          have e2 : aCons f aNil ρ1' = .ok [d] := by unfold aCons; rw [ef]; rfl
          rw [e2] at q2
          intro y Z' H' fp' g' dn nd fr
          have h3 := q2 ivs [y] Z' H' fp' vv g' (Dens.one dn) nd fr
          obtain ⟨v2, vr2, k1, k2, k3⟩ := vv
          rw [h1] at k2
          cases k2
          have k3 : vr2 = [] := k3
          subst k3 k1
          exact ⟨g'.h.l hqa, h3⟩
        | ex c ns xs =>
          have e2 : aCons f aNil ρ1' = .ex c ns xs := by unfold aCons; rw [ef]; rfl
          rw [e2] at q2
          exact q2
        | bad =>
          have e2 : aCons f aNil ρ1' = .bad := by unfold aCons; rw [ef]; rfl
          rw [e2] at q2
          exact q2.elim
      obtain ⟨m, hn, hl⟩ := I.loc
      have vis : Vis X.env.scope x := by
        rcases hx with k | k
        · exact .inl k
        · exact .inr (.inl k)
      obtain ⟨u, ru, l⟩ := hl i x _ hi h1 vis
      cases (show u = Value.ref a from ru)
      have hset : σ.set i (some (.ref a)) = σ := by
        apply List.ext_getElem?
        intro n
        by_cases cn : i = n
        · subst cn
          by_cases c2 : i < σ.length
          · rw [List.getElem?_set_self c2, h1]
          · rw [List.getElem?_eq_none (Nat.le_of_not_lt c2)] at h1; cases h1
        · rw [List.getElem?_set_ne cn]
      refine wpAny_AugAssign_Name ?_
      have go : wpAny (model X.prog X.w) X.A (eval e X.env) (fun w s₂ => wpAny (model X.prog X.w) X.A (inplaceOp .Add (.ref a) w) (fun r s₃ => wpAny (model X.prog X.w) X.A (storeName X.env x r) (fun _ => SP X pins E .next) X.xe s₃) X.xe s₂) X.xe s := by
        refine thn (he.run.run pins s σ H _ I hR) fun w s1 ⟨y, H1, I1, r1, q3⟩ => ?_
        obtain ⟨hx1, q3⟩ := q3
        obtain ⟨mA, J, _⟩ := ins_get I1.hok hx1
        obtain ⟨od, J, _⟩ := J.look
        obtain ⟨m1, hF⟩ := I1.fr
        refine PySem.W.ksp_inplace (op := .Add) hF I1.ok.mod.kin J hf me.at_ me.fn ?_
        refine wpAny_mono (run_fnS (E := fun σ => WE W σ) (us := [.ref a, w]) (vs := [.ref a, y]) ok (C.hr.mono hk) hb (passAt C.tk σ) I1 (.cons rfl (.cons r1 .nil)) (spM.self (Q := fun v H' => v = .ref a ∧ E.nx σ H') q3)) (fun w2 s' z => ?_) fun _ _ x => x
        obtain ⟨z', H', I', rz, ez, qz⟩ := z
        subst ez
        refine SlX.cmpback rz ?_
        exact store_ok I' C.nd hi hx rz (fun s3 I3 => ⟨_, H', I3, by rw [hset]; exact qz⟩) hff
      rcases l with ⟨hk, hm⟩ | ⟨hk, c, hc, hcell⟩
      · exact wpAny_loadName_local I.ok.kind hk hn hm go
      · rcases hk with hk | hk
        · exact wpAny_loadName_cell I.ok.kind hk hc hcell go
        · rcases hx with k | k
          · have : X.env.scope.names.lookup x = some .free := hk
            rw [k] at this; cases this
          · have : X.env.scope.names.lookup x = some .free := hk
            rw [k] at this; cases this
    · rw [if_neg ho] at q1
      exact (q1 0).elim
end
end DL
namespace DL
open PySem PySem.Spec PyProof.Rows L2 ClX
variable [Tb]
abbrev MOkM (P : Program) (w : World) (K : PySem.W.Frag) (mg : Str → Option Value) (base : Heap) (k : Nat) (f : Addr) (fd : FuncData) (ps : List Str) (b : List Bool) (F : List D → Ou D) : Prop :=
  FnOk P w K mg base (L2.CX P w) k f fd ps (spM K b F) ∧ Binds K fd ps []
theorem MtM.of {P : Program} {w : World} {K : PySem.W.Frag} {mg : Str → Option Value} {base : Heap} {k : Nat} {c m : Str} {fd : FuncData} {ps : List Str} {b : List Bool} {F : List D → Ou D} (hc : Cls K (He.ga K c)) (h : (He.Fa.meth c m).ok K = true) (ok : MOkM P w K mg base k (He.fAd K (c, some m)) fd ps b F) : MtM P w K mg base k c m b F :=
  ⟨hc, He.fAd K (c, some m), fd, ps, He.meth_ok h, ok.1, ok.2⟩
def sRetVM (b : List Bool) (i : Nat) : Env → Os := fun ρ => match ρ[i]? with
  | some (some d) => match outsE b (ρ.set i none) with
    | some os => .rt (.wth d os)
    | none => .bad
  | _ => .bad
end DL
namespace DL
open PySem PySem.Spec PyProof.Rows L2 ClX
variable [Tb]
section
variable {K : PySem.W.Frag} {cl : Str → Addr} {Z H : Hp}
end
section
variable {X : Cx} {W : WX} {a b e : Expr} {f g : Env → Ou D} {pos : Pos}
end
section
variable {X : Cx} {W : WX} {a b : Expr} {f g : DL.Env → Ou D} {pos : Pos} {j k : Nat} {c : Str} {F : List D → Ou D}
end
end DL
namespace DL
open PySem PySem.Spec PyProof.Rows L2
variable [Tb]
def sAppPop (i j : Nat) (g : Env → Ou D) : Env → Os := fun ρ => match ρ[i]?, ρ[j]? with
  | some (some (.lst true xs)), some (some (.lst true ys)) => ofU (g ρ) ρ fun k => match k with
    | .int k => match ixN ys.length k with
      | some n => match ys[n]? with
        | some y => if D.fzs ys && (decide (xs.length < LIM) && (decide (ys.length ≤ LIM) && decide (i ≠ j))) then .nx ((ρ.set j (some (.lst true (ys.eraseIdx n)))).set i (some (.lst true (xs ++ [y])))) else .bad
        | _ => .bad
      | none => .bad
    | _ => .bad
  | _, _ => .bad
theorem Dens.erase {K : PySem.W.Frag} {cl : Str → Addr} {Z H : Hp} : ∀ {ds : List D} {vs : List V}, Dens K cl Z H ds vs [] → ∀ n, Dens K cl Z H (ds.eraseIdx n) (vs.eraseIdx n) []
  | [], vs, h, n => by
    rw [h.1]
    exact ⟨rfl, rfl⟩
  | d :: ds, vs, h, n => by
    simp only [Dens] at h
    obtain ⟨v, vr, f1, f2, e1, e2, q, r⟩ := h
    subst e1
    obtain ⟨z1, z2⟩ := List.append_eq_nil_iff.mp e2.symm
    subst z1 z2
    cases n with
    | zero => exact r
    | succ n =>
      simp only [List.eraseIdx_cons_succ, Dens]
      exact ⟨v, _, [], [], rfl, rfl, q, Dens.erase r n⟩
section
variable {X : Cx} {W : WX} {e : Expr} {g : Env → Ou D} {pos : Pos}
end
end DL
namespace DL
open PySem PySem.Spec PyProof.Rows L2
variable [Tb]
def spS (K : PySem.W.Frag) (np : Nat) (F : List D → Ou D) : Sp := fun vs H Q E => ∃ ws rest, vs = ws ++ rest ∧ ws.length = np ∧ rest.length ≤ sizeLine ∧ ∀ p, H p = Option.none → spF K (np + 1) F (ws ++ [V.ref p]) (upd H p (.tup rest)) Q E
def starF (np : Nat) (F : List D → Ou D) : List D → Ou D := fun ds => if np ≤ ds.length ∧ ds.length ≤ LIM then F (ds.take np ++ [.tup (ds.drop np)]) else .bad
theorem PostF.gr {K : PySem.W.Frag} {cl : Str → Addr} {Z H Z' H' : Hp} {o : Ou D} {Q : VK} {E : XK} (q : PostF K cl Z H o Q E) (g : Gr Z H Z' H') : PostF K cl Z' H' o Q E := by
  cases o with
  | ok d => exact PostV.gr q g
  | ex c ns xs => exact fun dc Z2 H2 g2 x => q dc Z2 H2 (g.trans g2) x
  | bad => exact q
structure DnS (P : Program) (w : World) (K : PySem.W.Frag) (mg : Str → Option Value) (base : Heap) (k : Nat) (x : Str) (np : Nat) (F : List D → Ou D) : Prop where
  ex : ∃ f : Addr, mg x = some (.ref f) ∧ FnR P w K mg base (L2.CX P w) k f (spS K np F) ∧ PySem.W.keepIn K (.ref f) = true
section
variable {X : Cx} {CX : CXT} {k : Nat} {f : Addr} {sp : Sp} {E : L2.St → XK} {x : Str} {p pos : Pos} {e : Expr} {es : List Expr} {t : TA}
end
section
variable {X : Cx} {W : WX} {k j np : Nat} {x : Str} {p pos : Pos} {e : Expr} {es : List Expr} {t : Env → Ou (List D)} {F : List D → Ou D}
end
def stopX : Os → Os
  | .ex _ _ _ _ => .bad
  | r => r
def sOnly (gs : Env → Os) : Str → List Str → List D → Env → Os := fun _ _ _ ρ => stopX (gs ρ)
section
variable {X : Cx} {W : WX} {k : Nat} {x : Str} {cls : Value} {hit : Str → Option Bool} {body suite : List Stmt} {b₀ : Stmt} {np pos pos' : Pos} {gb gs : Env → Os}
end
end DL
namespace DL
open PySem PySem.Spec PyProof.Rows L2
variable [Tb]
def sAppTp (i : Nat) (g f : Env → Ou D) : Env → Os := fun ρ => match ρ[i]? with
  | some (some (.tup xs)) => ofU (g ρ) ρ fun k => match k with
    | .int k => match ixN xs.length k with
      | some j => match xs[j]? with
        | some (.lst true ys) => ofU (f ρ) ρ fun d => if ys.length < LIM then .nx (ρ.set i (some (.tup (xs.set j (.lst true (ys ++ [d])))))) else .bad
        | _ => .bad
      | none => .bad
    | _ => .bad
  | _ => .bad
section
variable {K : PySem.W.Frag} {cl : Str → Addr} {Z H Z' H' Z0 H0 Z1 H1 : Hp} {σ : L2.St} {ρ : Env} {W : WX}
end
section
variable {X : Cx} {W : WX} {a b e c : Expr} {f g : Env → Ou D} {pos : Pos}
end
section
variable {ρ : Env} {i : Nat} {f : Env → Ou D}
@[simp] theorem x_sAppTp (g : Env → Ou D) (xs : List D) (h : ρ[i]? = some (some (.tup xs))) : sAppTp i g f ρ = ofU (g ρ) ρ fun k => match k with
    | .int k => match ixN xs.length k with
      | some j => match xs[j]? with
        | some (.lst true ys) => ofU (f ρ) ρ fun d => if ys.length < LIM then .nx (ρ.set i (some (.tup (xs.set j (.lst true (ys ++ [d])))))) else .bad
        | _ => .bad
      | none => .bad
    | _ => .bad := by unfold sAppTp; rw [h] <;> rfl
end
end DL
namespace DL
open PySem PySem.Spec PyProof.Rows L2
variable [Tb]
def sUnp (is : List Nat) (f : Env → Ou D) : Env → Os := fun ρ => ofU (f ρ) ρ fun d => match d with
  | .lst _ ds => if decide (ds.length = is.length) && is.all (fun i => decide (i < ρ.length)) then .nx (setAllE ρ is ds) else .bad
  | _ => .bad
@[simp] theorem x_sUnp (ρ : Env) (is : List Nat) (f : Env → Ou D) : sUnp is f ρ = ofU (f ρ) ρ fun d => match d with
  | .lst _ ds => if decide (ds.length = is.length) && is.all (fun i => decide (i < ρ.length)) then .nx (setAllE ρ is ds) else .bad
  | _ => .bad := (rfl)
section
variable {X : Cx} {W : WX} {e : Expr} {f : Env → Ou D} {pos p : Pos}
end
end DL
namespace DL
open PySem PySem.Spec PyProof.Rows L2
variable [Tb]
def tgU (is : List Nat) : D → Env → Option Env := fun d ρ => match d with
  | .tup ds => if decide (ds.length = is.length) && is.all (fun i => decide (i < ρ.length)) then some (setAllE ρ is ds) else none
  | _ => none
theorem DG.tup {X : Cx} (is : List Nat) {es : List Expr} {k : Nat} {p2 : Pos} (C : X.calm = true) (hg : PGs X es (gAll is)) (hn : (assignEach es X.env).length = is.length := by rfl) (hst : (assignEach es X.env).findIdx? (·.1) = none := by rfl) : DG X (.Tuple es k p2) (tgU is) := by
  refine ⟨PG.weak (pg_tup C hg hn hst) fun v σ H Q hq => ?_⟩
  obtain ⟨Z0, H0, Z, ρ, d, ρ', s, dn, e, q⟩ := hq
  unfold tgU at e
  cases d with
  | tup ds =>
    by_cases c : (decide (ds.length = is.length) && is.all (fun i => decide (i < ρ.length))) = true
    · have e : (if decide (ds.length = is.length) && is.all (fun i => decide (i < ρ.length)) then some (setAllE ρ is ds) else none) = some ρ' := e
      rw [if_pos c] at e
      cases e
      obtain ⟨c1, c2⟩ := band c
      have c1 := of_decide_eq_true c1
      have c2 : ∀ i ∈ is, i < ρ.length := fun i hi => of_decide_eq_true (List.all_eq_true.mp c2 i hi)
      obtain ⟨a, vs, e1, h2, _, h3⟩ := dn.tupH s.g.s
      refine ⟨a, vs, e1, h2, by rw [h3.length]; exact c1, gAll_of is vs σ H _ (by rw [h3.length]; exact c1) ?_⟩
      exact q _ (s.setAll (Gr.refl s.g.s) h3 List.nodup_nil (fun _ z => nomatch z) c1 c2)
    · have e : (if decide (ds.length = is.length) && is.all (fun i => decide (i < ρ.length)) then some (setAllE ρ is ds) else none) = some ρ' := e
      rw [if_neg c] at e
      cases e
  | _ => cases e
end DL
namespace DL
open PySem PySem.W PySem.Calls PyProof.Rows HandSHeadRun L2
def RunP {β : Type} (r : OpenRow) (M : Nat) (w : World) (f : SharedT → β) (v : β) : Prop := ∀ os : OsState, (HandSHeadRun.endF (stepQ (denQ tabQ) r.prog w) M r.prog w os).map f = some v
def RunL (r : OpenRow) (q : Program) (M : Nat) (loose : List PySem.Str) (w : World) : Prop := RunP r M w (fun s => (looksF r.prog (boot_heap w.params) s.abs, seenQ q loose (importedModules r.prog.main.body) (fun s => xlAt q [] s && recOk r.toRowW.records s) s.abs)) (true, openGood q loose)
def obF (n : Nat) (fa : List DL.Chk) (s : SharedT) : Bool := fa.all fun f => f (frY n (getT s))
def obN (n : Nat) (fn : List DefY) (s : SharedT) : AlY := ((fn.all fun d => d.ok (frY n (getT s))) && He.tabsB (getT s) ((lamP (frY n (getT s))).map (·.1)) (frY n (getT s)), fn.map fun d => fnY (frY n (getT s)) (d.addr (frY n (getT s))))
theorem ob_join {n : Nat} {fa1 fa2 : List DL.Chk} {fn : List DefY} {s : SharedT} (h1 : obF n fa1 s = true) (h2 : obF n fa2 s = true) (h3 : obN n fn s = valY fn) : obsYG n (fa1 ++ fa2) fn (getT s) = valY fn := by
  unfold obF at h1 h2
  unfold obN at h3
  have a3 := congrArg (fun z : AlY => z.1) h3
  have b3 := congrArg (fun z : AlY => z.2) h3
  obtain ⟨a4, a5⟩ := band a3
  unfold obsYG obsY
  refine Prod.ext ?_ b3
  show ((((fa1 ++ fa2).all fun f => f (frY n (getT s))) && _) && _) = true
  rw [List.all_append, h1, h2, a4, a5]
  rfl
theorem run_join {r : OpenRow} {q : Program} {n M : Nat} {loose : List PySem.Str} {fa1 fa2 : List DL.Chk} {fn : List DefY} {w : World} (h0 : RunL r q M loose w) (h1 : RunP r M w (obF n fa1) true) (h2 : RunP r M w (obF n fa2) true) (h3 : RunP r M w (obN n fn) (valY fn)) :
    RunEq r q (hookY n (fa1 ++ fa2) fn) (fun s => obsYG n (fa1 ++ fa2) fn (getT s)) M loose w := by
  intro os
  have h0 := h0 os
  have h1 := h1 os
  have h2 := h2 os
  have h3 := h3 os
  cases e : HandSHeadRun.endF (stepQ (denQ tabQ) r.prog w) M r.prog w os with
  | none => rw [e] at h1; cases h1
  | some s =>
    rw [e] at h0 h1 h2 h3
    have k0 := Option.some.inj h0
    have k1 : obF n fa1 s = true := Option.some.inj h1
    have k2 : obF n fa2 s = true := Option.some.inj h2
    have k3 : obN n fn s = valY fn := Option.some.inj h3
    show some (_, _, obsYG n (fa1 ++ fa2) fn (getT s)) = some (true, openGood q loose, valY fn)
    rw [ob_join k1 k2 k3]
    have c1 := congrArg (fun z => z.1) k0
    have c2 := congrArg (fun z => z.2) k0
    dsimp only at c1 c2
    rw [c1, c2]
end DL
namespace DL
open PySem PySem.Spec PyProof.Rows L2
variable [Tb]
def strsOf : List D → Option (List Str)
  | [] => some []
  | .str x :: ds => (strsOf ds).map (x :: ·)
  | _ => none
theorem join_dens {K : PySem.W.Frag} {cl : Str → Addr} {Z H : Hp} : ∀ {ds : List D} {ys : List Str} {vs : List V} {f : Fp}, strsOf ds = some ys → Dens K cl Z H ds vs f → vs = ys.map V.str
  | [], ys, vs, f, e, h => by
    cases e
    exact h.1
  | d :: ds, ys, vs, f, e, h => by
    cases d with
    | str x =>
      unfold strsOf at e
      obtain ⟨zs, e1, e2⟩ := Option.map_eq_some_iff.mp e
      subst e2
      obtain ⟨v, vr, f1, f2, e3, e4, q, r⟩ := h.cons'
      subst e3
      rw [join_dens e1 r, q.1]
      rfl
    | _ => cases e
def joinG (a : Str) (ds : List D) : Option D := (strsOf ds).bind fun ys => if (ys.map (·.length)).sum + ys.length * a.length ≤ 16777216 then some (.str (Txt.join a ys)) else none
def joinD : D → D → Option D
  | .str a, .lst _ ds => joinG a ds
  | .str a, .tup ds => joinG a ds
  | _, _ => none
theorem joinG_inv {a : Str} {ds : List D} {d : D} (e : joinG a ds = some d) : ∃ ys, strsOf ds = some ys ∧ (ys.map (·.length)).sum + ys.length * a.length ≤ 16777216 ∧ d = .str (Txt.join a ys) := by
  unfold joinG at e
  cases h : strsOf ds with
  | none => rw [h] at e; cases e
  | some ys =>
    rw [h] at e
    have e : (if (ys.map (·.length)).sum + ys.length * a.length ≤ 16777216 then some (D.str (Txt.join a ys)) else none) = some d := e
    split at e
    · rename_i c
      cases e
      exact ⟨ys, rfl, c, rfl⟩
    · cases e
theorem op_joinD {K : PySem.W.Frag} {cl : Str → Addr} : Op2 K cl (fun x y H Q => ∃ a p, ∃ ys : List Str, x = .str a ∧ [y] = [.ref p] ∧ (SqL K H p (ys.map V.str) ∨ SqT K H p (ys.map V.str)) ∧ (ys.map (·.length)).sum + ys.length * a.length ≤ 16777216 ∧ Q (.str (Txt.join a ys)) H) joinD := by
  intro Z H x y d v u fx fy Q s hx hy e q
  cases x <;> cases y <;> first | (cases e; done) | skip
  · rename_i a ds
    obtain ⟨ys, e1, e2, rfl⟩ := joinG_inv e
    obtain ⟨rfl, _⟩ := hx
    obtain ⟨p, vs, e3, sq, _, dn⟩ := Den.tupH s hy
    subst e3
    have := join_dens e1 dn
    subst this
    exact ⟨a, p, ys, rfl, rfl, .inr sq, e2, PostV.str s q⟩
  · rename_i a o ds
    obtain ⟨ys, e1, e2, rfl⟩ := joinG_inv e
    obtain ⟨rfl, _⟩ := hx
    obtain ⟨p, vs, f, e3, hl, dn, _, _⟩ := Den.lstH s hy
    subst e3
    have := join_dens e1 dn
    subst this
    exact ⟨a, p, ys, rfl, rfl, .inl (.inl (.inl hl)), e2, PostV.str s q⟩
def fmtD : D → Option D
  | .str y => if y.length ≤ LIM then some (.str y) else none
  | .int i => if strI i then some (.str (toString i)) else none
  | _ => none
def fmtE (f : Env → Ou D) : Env → Ou D := fun ρ => f ρ >>= fun d => ofO (fmtD d)
def dJs : List (Env → Ou D) → Str → Env → Ou D
  | [], acc => fun _ => .ok (.str acc)
  | f :: fs, acc => fun ρ => fmtE f ρ >>= fun d => match d with
    | .str y => if (acc ++ y).length ≤ LIM then dJs fs (acc ++ y) ρ else .bad
    | _ => .bad
def dFs (fs : List (Env → Ou D)) : Env → Ou D := dJs fs Str.empty
section
variable {X : Cx} {W : WX} {e : Expr} {es : List Expr} {f : Env → Ou D} {fs : List (Env → Ou D)} {pos : Pos}
inductive DJ (X : Cx) (W : WX) : List Expr → List (Env → Ou D) → Prop where
  | nil : DJ X W [] []
  | cons {e : Expr} {f : Env → Ou D} {es : List Expr} {fs : List (Env → Ou D)} (h : PE X e (tV X.K (He.ga X.K) W (fmtE f))) (r : DJ X W es fs) : DJ X W (e :: es) (f :: fs)
theorem dj_lit (h : DE X W e (dC (.str y))) : PE X e (tV X.K (He.ga X.K) W (fmtE (dC (.str y)))) := by
  refine PE.weak (DB.ofE h).run fun σ H Q hq => ?_
  obtain ⟨Z, ρ, r, q⟩ := hq
  have q : PostOB X.K (He.ga X.K) W Z H σ (ofO (if y.length ≤ LIM then some (D.str y) else none)) Q := q
  by_cases c : y.length ≤ LIM
  · rw [if_pos c] at q
    exact ⟨Z, ρ, r, q⟩
  · rw [if_neg c] at q
    exact q.elim
theorem dj_fv (h : DB X W e f) : PE X (.FormattedValue e (-1) none pos) (tV X.K (He.ga X.K) W (fmtE f)) := by
  refine PE.weak (pe_fmt h.run) fun σ H Q hq => ?_
  obtain ⟨Z, ρ, r, q⟩ := hq
  refine tV_bind (P := fun Z H o => PostOB X.K (He.ga X.K) W Z H σ o Q) r (fun _ _ _ z => z) (fun z => z) q fun d v Z1 H1 fx ed g1 dx q => ?_
  cases d with
  | str y =>
    have q : PostOB X.K (He.ga X.K) W Z H σ (ofO (if y.length ≤ LIM then some (D.str y) else none)) Q := q
    by_cases c : y.length ≤ LIM
    · rw [if_pos c] at q
      refine .inl ⟨y, dx.1, ?_, q (.str y) Z1 H1 [] g1 ⟨rfl, rfl⟩⟩
      rw [sizeLine_eq]
      have c : y.length ≤ 1000000 := c
      omega
    · rw [if_neg c] at q
      exact q.elim
  | int i =>
    have q : PostOB X.K (He.ga X.K) W Z H σ (ofO (if strI i then some (D.str (toString i)) else none)) Q := q
    by_cases c : strI i = true
    · rw [if_pos c] at q
      refine .inr ⟨i, dx.1, ?_, q (.str (toString i)) Z1 H1 [] g1 ⟨rfl, rfl⟩⟩
      exact strI_log c
    · rw [if_neg c] at q
      exact q.elim
  | _ => exact q.elim
theorem dj_run : ∀ (fs : List (Env → Ou D)) (acc : Str) (σ : L2.St) (H Z : Hp) (ρ : Env) (Q : VK), RelS X.K (He.ga X.K) Z H σ ρ → PostO X.K (He.ga X.K) W Z H σ (dJs fs acc ρ) Q → tJs (fs.map fun f => tV X.K (He.ga X.K) W (fmtE f)) acc σ H fun out H1 => Q (.str out) H1
  | [], acc, σ, H, Z, ρ, Q, r, q => PostV.str r.s q
  | f :: fs, acc, σ, H, Z, ρ, Q, r, q => by
    refine tV_bind (P := fun Z H o => PostO X.K (He.ga X.K) W Z H σ o Q) (k := fun d => match d with
      | .str y => if (acc ++ y).length ≤ LIM then dJs fs (acc ++ y) ρ else .bad
      | _ => .bad) r (fun _ _ _ z => z) (fun z => z) q fun d v Z1 H1 fx ed g1 dx q => ?_
    cases d with
    | str y =>
      have q : PostO X.K (He.ga X.K) W Z H σ (if (acc ++ y).length ≤ LIM then dJs fs (acc ++ y) ρ else .bad) Q := q
      by_cases c : (acc ++ y).length ≤ LIM
      · rw [if_pos c] at q
        refine ⟨y, dx.1, ?_, dj_run fs (acc ++ y) σ H1 Z1 ρ Q (r.gr g1) (PostO.gr q g1)⟩
        rw [sizeLine_eq]
        have c : (acc ++ y).length ≤ 1000000 := c
        omega
      · rw [if_neg c] at q
        exact q.elim
    | _ => exact q.elim
theorem DJ.pj {es : List Expr} {fs : List (Env → Ou D)} (h : DJ X W es fs) : PJ X es (fs.map fun f => tV X.K (He.ga X.K) W (fmtE f)) := by
  induction h with
  | nil => exact .nil
  | cons h _ ih => exact .cons h ih
theorem DE.fstr {v1 v2 : Expr} {rest : List Expr} (h : DJ X W (v1 :: v2 :: rest) fs) : DE X W (.JoinedStr (v1 :: v2 :: rest) pos) (dFs fs) := by
  refine ⟨PE.weak (pe_joined h.pj) fun σ H Q hq => ?_⟩
  obtain ⟨Z, ρ, r, q⟩ := hq
  exact dj_run fs Str.empty σ H Z ρ Q r q
end
end DL
namespace FmtS
open PySem Builtin Builtin.Str Builtin.Int Builtin.Float PyProof.Rows
theorem gives_after_typeNameOfCut {v : Value} {T : String} {n : Nat} {k : String → Sem Fin} {m : Made} (hT : ∀ s : Shared, s.TypeIs v T) (hn : (Value.type T == Value.type "builtin_function_or_method") = false)
    (ht : typeNameCut n (.type T) = typeName (.type T)) (hp : typeName (.type T) = pure T) (g : Gives (k T) m) : Gives (do let n ← typeNameOfCut n v; k n) m := by
  intro prog w A R s hq
  unfold typeNameOfCut shownTypeOf
  refine wpAny_bind (wpAny_bind (wpAny_bind (wpAny_typeOf (hT s) ?_)))
  rw [hn]
  refine wpAny_pure ?_
  rw [ht, hp]
  exact wpAny_pure (g prog w A R s hq)
theorem typeName_str' : typeName (.type "str") = pure "str" := by unfold typeName; rw [find?_eq_fast]; kernel_rfl
theorem sp_s (n : String) : parseFormatSpec [60, 56] n 60 = .ok { fill := 32, align := 60, width := some 8 } := by rfl
theorem sp_i (n : String) : parseFormatSpec [62, 56] n 62 = .ok { fill := 32, align := 62, width := some 8 } := by rfl
def spL : Str := ⟨#[60, 56]⟩
def spR : Str := ⟨#[62, 56]⟩
theorem strSub_all (x : Str) : strSub x 0 x.length = x := by
  unfold strSub
  cases x with
  | mk a => simp [Str.length]
theorem strField8 (x : Str) (n : String) : strField x { fill := 32, align := 60, width := some 8 } n = .ok (if 8 ≤ x.length then none else some (Txt.ljust x 8)) := by
  unfold strField
  by_cases h : 8 ≤ x.length
  · have : (Option.all (fun x_1 => decide (x_1 ≤ x.length)) (some 8) && Option.all (fun x_1 => decide (x_1 ≥ x.length)) (none : Option Nat)) = true := by simp [h]
    rw [if_pos h]
    simp [h]
    rfl
  · rw [if_neg h]
    have h2 : ¬ ((8 : Int) ≤ x.length) := by omega
    simp [h, Txt.ljust, h2, strSub_all]
    rfl
theorem ex_ok {ε α β : Type} (a : α) (k : α → Except ε β) : (Except.ok a >>= k) = k a := rfl
theorem ex_pure {ε α : Type} (a : α) : (pure a : Except ε α) = .ok a := rfl
theorem gives_str_fmt8 (x : Str) (t u : Tok) : Gives («str.__format__» ⟨[.str x t, .str spL u], []⟩) (if 8 ≤ x.length then .val (.str x t) else .str (Txt.ljust x 8)) := by
  unfold Builtin.«str.__format__»
  simp only [strOneArg, selfAndOne, noKeywords, textOf, asStr?, List.isEmpty_nil, if_true, pure_bind, bind_assoc]
  rw [show (spL.length == 0) = false from rfl]
  rw [if_neg Bool.false_ne_true, if_neg (show ¬ ((spL.cps.toList.drop 1).any (· ≥ 128) || (spL.cps.getD 0 0 ≥ 128 && !([60, 62, 61, 94] : List Nat).contains (spL.cps.getD 1 0))) = true by decide)]
  refine gives_after_typeNameOfCut (fun s => typeIs_str s _ _) (by decide) rfl typeName_str' ?_
  rw [show spL.cps.toList = [60, 56] from rfl, sp_s]
  simp only [show (spL.cps.back? == some 0) = false from rfl, Bool.and_false, Bool.false_eq_true, if_false, Option.getD_some, show tooLong 8 = false from rfl, strField8, ex_ok, ex_pure]
  by_cases h : 8 ≤ x.length
  · simp only [h, if_true]
    first | exact .rule (.of_eq rfl) | exact .of_eq rfl
  · simp only [h, if_false]
    first | exact .rule (.of_eq rfl) | exact .of_eq rfl
theorem intText8 (a : Int) : intField' { fill := 32, align := 62, width := some 8 } (decide (a < 0)) [] ((Nat.toDigits 10 a.natAbs).map fun c => (if (100 : Nat) == 88 then c.toUpper else c).toNat) [] 3 = Txt.rjust (Str.ofString (toString a)) 8 := by
  have hd : ((Nat.toDigits 10 a.natAbs).map Char.toNat).isEmpty = false := by
    have := tDigits_len_ge 10 a.natAbs
    cases h : Nat.toDigits 10 a.natAbs with
    | nil => rw [h] at this; simp at this
    | cons _ _ => rfl
  have e : ((Nat.toDigits 10 a.natAbs).map fun c => (if (100 : Nat) == 88 then c.toUpper else c).toNat) = (Nat.toDigits 10 a.natAbs).map Char.toNat := rfl
  rw [e]
  have tx : Str.ofString (toString a) = ⟨((if a < 0 then [45] else []) ++ (Nat.toDigits 10 a.natAbs).map Char.toNat).toArray⟩ := by
    cases a with
    | ofNat m => rw [text_ofNat m]; simp
    | negSucc m =>
      show Str.ofString ("-" ++ Nat.repr (m + 1)) = _
      simp [Str.ofString_eq_toList, Nat.repr, Int.negSucc_lt_zero]
  rw [tx]
  unfold intField' Txt.rjust padded
  refine Str.ext' ?_
  generalize (Nat.toDigits 10 a.natAbs).map Char.toNat = ds at hd
  by_cases h : a < 0
  · simp only [h, decide_true, if_true, hd, Bool.false_eq_true, if_false, Str.length, List.size_toArray, List.length_append, List.length_cons, List.length_nil]
    split
    · rename_i c
      simp at c ⊢
    · rename_i c
      simp at c ⊢
      by_cases c2 : 8 ≤ (1 + ds.length : Int)
      · rw [if_pos c2, show 7 - ds.length = 0 by omega]
        simp
      · rw [if_neg c2]
        rw [show 8 - (1 + ds.length) = 7 - ds.length by omega]
        simp
  · simp only [h, decide_false, if_false, hd, Bool.false_eq_true, Str.length, List.size_toArray, List.length_append, List.length_nil]
    split
    · rename_i c
      simp at c ⊢
    · rename_i c
      simp at c ⊢
      by_cases c2 : 8 ≤ (ds.length : Int)
      · rw [if_pos c2, show 8 - ds.length = 0 by omega]
        simp
      · rw [if_neg c2]
        skip
        simp
theorem gives_int_fmt8 (a : Int) (t u : Tok) (h : a.natAbs.log2 < 1920) : Gives («int.__format__» ⟨[.int a t, .str spR u], []⟩) (.str (Txt.rjust (Str.ofString (toString a)) 8)) := by
  unfold Builtin.«int.__format__»
  simp only [selfAndOne, noKeywords, Int.intOfSelf, asInt?, asStr?, List.isEmpty_nil, if_true, pure_bind, bind_assoc, show (Value.str spR u == Value.none) = false from rfl]
  rw [if_neg Bool.false_ne_true]
  refine gives_after_typeNameOf (T := "str") (fun s => typeIs_str s _ _) (by decide) fun _ => ?_
  rw [show (spR.length == 0) = false from rfl]
  rw [if_neg Bool.false_ne_true, if_neg (show ¬ ((spR.cps.toList.drop 1).any (· ≥ 128) || (spR.cps.getD 0 0 ≥ 128 && !([60, 62, 61, 94] : List Nat).contains (spR.cps.getD 1 0))) = true by decide)]
  refine gives_after_typeNameOfCut (fun s => typeIs_int s _ _) (by decide) rfl typeName_int ?_
  rw [show spR.cps.toList = [62, 56] from rfl, sp_i]
  simp only [show (spR.cps.back? == some 0) = false from rfl, Bool.false_eq_true, if_false, Option.getD_none]
  rw [if_pos (by decide)]
  show Gives (do let r ← Builtin.overDigitLimit? a; _) _
  rw [PySem.overDigitLimit_small h, ← intText8]
  exact .of_eq rfl
section
variable {prog : Program} {w : World} {A : Around} {E : Value → Shared → Prop} {s : Shared}
theorem fmt_field {T idf : String} {B : Builtin} {v : Value} {sp : PySem.Str} {m : Made} {Q : Value → Shared → Prop} (hne : (sp.length == 0) = false) (hT : ∀ s' : Shared, s'.TypeIs v T) (slot : Slot T "__format__" idf)
    (entry : entryFor table idf = some B) (args : ∀ a b, argsOk idf ⟨[a, b], []⟩) (g : ∀ u, Gives (B ⟨[v, .str sp u], []⟩) m)
    (h : m.post (fun r s' => ∃ x t, r = .str x t ∧ Q (.str x t) s') { s with toks := s.toks + 1 }) (hsz : sp.length ≤ sizeLine) : wpAny (model prog w) A (formatField v sp) Q E s := by
  have e : formatField v sp = holding [v] (pyFormat v sp) := by
    unfold formatField
    cases v <;> simp only [hne, Bool.false_eq_true, if_false] <;> rfl
  rw [e]
  refine wpAny_holding ?_
  unfold pyFormat
  refine wpAny_bind (wpAny_mkStr ?_ hsz)
  refine wpAny_bind (m := callSpecial? v (PySem.Str.ofString "__format__") [.str sp s.toks]) (wpAny_callSpecial?_slot (name := PySem.Str.ofString "__format__") (hT _) slot
    (wpAny_mono (call_gives slot (hT _) entry (args _ _) (g _) h) (fun r s' hr => ?_) fun _ _ z => z))
  obtain ⟨x, t, rfl, q⟩ := hr
  exact wpAny_bind (wpAny_isInstance (T := "str") (b := true) rfl isSubtype_str_str (wpAny_pure q))
end
end FmtS
namespace DL
open PySem PySem.Spec PyProof.Rows L2
variable [Tb]
section
variable {X : Cx} {W : WX} {e : Expr} {f : Env → Ou D} {p1 p2 pos : Pos}
def tFmtL (te : TE) : TE := fun σ H Q => te σ H fun x H1 => ∃ y : Str, x = .str y ∧ y.length ≤ 1000000 ∧ Q (.str (Txt.ljust y 8)) H1
theorem ljust8_len (y : Str) : (Txt.ljust y 8).length ≤ y.length + 8 := by
  unfold Txt.ljust
  split
  · omega
  · unfold Builtin.Str.padded Str.length
    simp
    try omega
theorem rjust8_len (y : Str) : (Txt.rjust y 8).length ≤ y.length + 8 := by
  unfold Txt.rjust
  split
  · omega
  · unfold Builtin.Str.padded Str.length
    simp
    try omega
theorem int_len {i : Int} (h : strI i = true) : (Str.ofString (toString i)).length ≤ 100000 := by
  have e := int_text_length_le (k := 1920) (by decide) (strI_log h)
  rw [PySem.ofString_length]
  omega
theorem pe_fmtL {te : TE} (he : PE X e te) : PE X (.FormattedValue e (-1) (some (.JoinedStr [.Constant (.str "<8") 0 p1] p2)) pos) (tFmtL te) := by
  refine ⟨fun pins s σ H Q I h => ?_⟩
  refine wpAny_FormattedValue_spec (thn (he.run pins s σ H _ I h) fun v s1 hv => ?_)
  obtain ⟨x, H1, I1, r1, y, rfl, hz, q⟩ := hv
  obtain ⟨t, rfl⟩ := r1
  refine wpAny_JoinedStr_one (wpAny_Constant_str (h := ?_))
  refine ⟨_, _, rfl, ?_⟩
  refine FmtS.fmt_field rfl (fun s' => typeIs_str s' y t) F.slot_str_format F.entry_str_format F.args_str_format_2 (fun u => FmtS.gives_str_fmt8 y t u) ?_ (by rw [sizeLine_eq]; decide)
  by_cases c : 8 ≤ y.length
  · rw [if_pos c]
    have e : Txt.ljust y 8 = y := by
      unfold Txt.ljust
      rw [if_pos (by omega)]
    rw [e] at q
    exact ⟨y, t, rfl, .str y, H1, I1.tok _, ⟨t, rfl⟩, q⟩
  · rw [if_neg c]
    refine ⟨?_, _, _, rfl, .str _, H1, I1.tok _, ⟨_, rfl⟩, q⟩
    have := ljust8_len y
    rw [sizeLine_eq]
    omega
def tFmtR8 (te : TE) : TE := fun σ H Q => te σ H fun x H1 => ∃ i : Int, x = .int i ∧ strI i = true ∧ Q (.str (Txt.rjust (Str.ofString (toString i)) 8)) H1
theorem pe_fmtR8 {te : TE} (he : PE X e te) : PE X (.FormattedValue e (-1) (some (.JoinedStr [.Constant (.str ">8") 0 p1] p2)) pos) (tFmtR8 te) := by
  refine ⟨fun pins s σ H Q I h => ?_⟩
  refine wpAny_FormattedValue_spec (thn (he.run pins s σ H _ I h) fun v s1 hv => ?_)
  obtain ⟨x, H1, I1, r1, i, rfl, hz, q⟩ := hv
  obtain ⟨t, rfl⟩ := r1
  refine wpAny_JoinedStr_one (wpAny_Constant_str (h := ?_))
  refine ⟨_, _, rfl, ?_⟩
  refine FmtS.fmt_field rfl (fun s' => typeIs_int s' i t) F.slot_int_format F.entry_int_format F.args_int_format_2 (fun u => FmtS.gives_int_fmt8 i t u (strI_log hz)) ?_ (by rw [sizeLine_eq]; decide)
  refine ⟨?_, _, _, rfl, .str _, H1, I1.tok _, ⟨_, rfl⟩, q⟩
  have h1 := rjust8_len (Str.ofString (toString i))
  have h2 := int_len hz
  rw [sizeLine_eq]
  omega
def fmtL8 : D → Option D
  | .str y => if y.length + 8 ≤ LIM then some (.str (Txt.ljust y 8)) else none
  | _ => none
def fmtR8 : D → Option D
  | .int i => if strI i then some (.str (Txt.rjust (Str.ofString (toString i)) 8)) else none
  | _ => none
def dFmtL (f : Env → Ou D) : Env → Ou D := fun ρ => f ρ >>= fun d => ofO (fmtL8 d)
def dFmtR (f : Env → Ou D) : Env → Ou D := fun ρ => f ρ >>= fun d => ofO (fmtR8 d)
@[simp] theorem x_dFmtL (f : Env → Ou D) (ρ : Env) : dFmtL f ρ = (f ρ >>= fun d => ofO (fmtL8 d)) := rfl
@[simp] theorem x_dFmtR (f : Env → Ou D) (ρ : Env) : dFmtR f ρ = (f ρ >>= fun d => ofO (fmtR8 d)) := rfl
theorem fmtE_L (f : Env → Ou D) : fmtE (dFmtL f) = dFmtL f := by
  funext ρ
  unfold fmtE dFmtL
  cases f ρ with
  | ok d =>
    cases d with
    | str y =>
      show (ofO (if y.length + 8 ≤ LIM then some (D.str (Txt.ljust y 8)) else none) >>= fun d => ofO (fmtD d)) = ofO (if y.length + 8 ≤ LIM then some (D.str (Txt.ljust y 8)) else none)
      by_cases c : y.length + 8 ≤ LIM
      · rw [if_pos c]
        show ofO (if (Txt.ljust y 8).length ≤ LIM then some (D.str (Txt.ljust y 8)) else none) = _
        rw [if_pos (Nat.le_trans (ljust8_len y) c)]
      · rw [if_neg c]
        rfl
    | _ => rfl
  | ex c ns xs => rfl
  | bad => rfl
theorem fmtE_R (f : Env → Ou D) : fmtE (dFmtR f) = dFmtR f := by
  funext ρ
  unfold fmtE dFmtR
  cases f ρ with
  | ok d =>
    cases d with
    | int i =>
      show (ofO (if strI i then some (D.str (Txt.rjust (Str.ofString (toString i)) 8)) else none) >>= fun d => ofO (fmtD d)) = ofO (if strI i then some (D.str (Txt.rjust (Str.ofString (toString i)) 8)) else none)
      by_cases c : strI i = true
      · rw [if_pos c]
        show ofO (if (Txt.rjust (Str.ofString (toString i)) 8).length ≤ LIM then some (D.str (Txt.rjust (Str.ofString (toString i)) 8)) else none) = _
        rw [if_pos (show (Txt.rjust (Str.ofString (toString i)) 8).length ≤ LIM from by
          have h1 := rjust8_len (Str.ofString (toString i))
          have h2 := int_len c
          have h3 : (Txt.rjust (Str.ofString (toString i)) 8).length ≤ 1000000 := by omega
          exact h3)]
      · rw [if_neg c]
        rfl
    | _ => rfl
  | ex c ns xs => rfl
  | bad => rfl
theorem dj_fL (h : DB X W e f) : PE X (.FormattedValue e (-1) (some (.JoinedStr [.Constant (.str "<8") 0 p1] p2)) pos) (tV X.K (He.ga X.K) W (fmtE (dFmtL f))) := by
  rw [fmtE_L]
  refine PE.weak (pe_fmtL h.run) fun σ H Q hq => ?_
  obtain ⟨Z, ρ, r, q⟩ := hq
  refine tV_bind (P := fun Z H o => PostOB X.K (He.ga X.K) W Z H σ o Q) r (fun _ _ _ z => z) (fun z => z) q fun d v Z1 H1 fx ed g1 dx q => ?_
  cases d with
  | str y =>
    have q : PostOB X.K (He.ga X.K) W Z H σ (ofO (if y.length + 8 ≤ LIM then some (D.str (Txt.ljust y 8)) else none)) Q := q
    by_cases c : y.length + 8 ≤ LIM
    · rw [if_pos c] at q
      refine ⟨y, dx.1, ?_, q (.str _) Z1 H1 [] g1 ⟨rfl, rfl⟩⟩
      have c : y.length + 8 ≤ 1000000 := c
      omega
    · rw [if_neg c] at q
      exact q.elim
  | _ => exact q.elim
theorem dj_fR (h : DB X W e f) : PE X (.FormattedValue e (-1) (some (.JoinedStr [.Constant (.str ">8") 0 p1] p2)) pos) (tV X.K (He.ga X.K) W (fmtE (dFmtR f))) := by
  rw [fmtE_R]
  refine PE.weak (pe_fmtR8 h.run) fun σ H Q hq => ?_
  obtain ⟨Z, ρ, r, q⟩ := hq
  refine tV_bind (P := fun Z H o => PostOB X.K (He.ga X.K) W Z H σ o Q) r (fun _ _ _ z => z) (fun z => z) q fun d v Z1 H1 fx ed g1 dx q => ?_
  cases d with
  | int i =>
    have q : PostOB X.K (He.ga X.K) W Z H σ (ofO (if strI i then some (D.str (Txt.rjust (Str.ofString (toString i)) 8)) else none)) Q := q
    by_cases c : strI i = true
    · rw [if_pos c] at q
      exact ⟨i, dx.1, c, q (.str _) Z1 H1 [] g1 ⟨rfl, rfl⟩⟩
    · rw [if_neg c] at q
      exact q.elim
  | _ => exact q.elim
def ljustD : D → D → Option D
  | .str a, .int i => if i = 8 then some (.str (Txt.ljust a 8)) else none
  | _, _ => none
def rjustD : D → D → Option D
  | .str a, .int i => if i = 8 then some (.str (Txt.rjust a 8)) else none
  | _, _ => none
theorem op_ljustD {K : PySem.W.Frag} {cl : Str → Addr} : Op2 K cl (fun x y H Q => ∃ (a : Str) (i : Int), x = .str a ∧ [y] = [.int i] ∧ PadOk i = true ∧ Q (.str (Txt.ljust a i)) H) ljustD := by
  intro Z H x y d v u fx fy Q s hx hy e q
  cases x <;> cases y <;> first | (cases e; done) | skip
  rename_i a i
  unfold ljustD at e
  dsimp only at e
  split at e
  · rename_i c
    cases e
    subst c
    obtain ⟨rfl, _⟩ := hx
    obtain ⟨rfl, _⟩ := hy
    exact ⟨a, 8, rfl, rfl, by decide, PostV.str s q⟩
  · cases e
theorem op_rjustD {K : PySem.W.Frag} {cl : Str → Addr} : Op2 K cl (fun x y H Q => ∃ (a : Str) (i : Int), x = .str a ∧ [y] = [.int i] ∧ PadOk i = true ∧ Q (.str (Txt.rjust a i)) H) rjustD := by
  intro Z H x y d v u fx fy Q s hx hy e q
  cases x <;> cases y <;> first | (cases e; done) | skip
  rename_i a i
  unfold rjustD at e
  dsimp only at e
  split at e
  · rename_i c
    cases e
    subst c
    obtain ⟨rfl, _⟩ := hx
    obtain ⟨rfl, _⟩ := hy
    exact ⟨a, 8, rfl, rfl, by decide, PostV.str s q⟩
  · cases e
end
end DL
namespace DL
open PySem PySem.Spec PyProof.Rows L2 ClX ItX
variable [Tb]
def ItFn (P : Program) (w : World) (K : PySem.W.Frag) (mg : Str → Option Value) (base : Heap) (k : Nat) (fi : Addr) (fd : FuncData) (C : Addr) (fld : Str) : Prop :=
  ∀ (A : Around) (outer : List PySem.Env) (s : Shared) (H : Hp) (args : Args) (a dx : Addr) (fs : List (Str × V)) (l : Addr) (xs : List V), Room k A → Env0 P w K mg base A outer s H → BindsTo s fd args ([("self" : Str)].zip [Value.ref a]) →
    H a = some (.ins C dx fs) → fs.lookup fld = some (.ref l) → SqL K H l xs →
    codeAny (model P w) A (.call (.ref fi) args) (fun r s' => match r with
      | .ok (.ret u) => ∃ it, s.heap.objs.size ≤ it ∧ H it = none ∧ CE outer P w H s (fun v H' => v = .ref it ∧ H' = upd H it (ItO l it 0)) u s'
      | _ => False) s
structure ItK (P : Program) (w : World) (K : PySem.W.Frag) (mg : Str → Option Value) (base : Heap) (k : Nat) (c fld : Str) : Prop where
  ex : ∃ (g : Addr) (fd : FuncData), Meth K (He.ga K c) "__iter__" g ∧ ItFn P w K mg base k g fd (He.ga K c) fld ∧ Binds K fd [("self" : Str)] []
theorem fn_at {CX : CXT} {P : Program} {w : World} {K : PySem.W.Frag} {mg : Str → Option Value} {base : Heap} {k : Nat} {f : Addr} {fd : FuncData} {name qual : Str} {params : Arguments} {body : List Stmt} {scope : Scope} {N ps : List Str} {A : Around} {outer : List PySem.Env} {s : Shared} {H : Hp}
    {args : Args} {us : List Value} {vs : List V} {Q : VK} {E : XK} (F : FunD K name qual params body scope [] [] f fd) (S : FnScope N ps scope) (hr : Room (k + 1) A) (e0 : Env0 P w K mg base A outer s H) (hb : BindsTo s fd args (ps.zip us)) (r : Vals vs us) (hl : vs.length = ps.length)
    (hbody : ∀ cdv, ∃ t, PSs (cxOf CX P w K mg base N qual scope f cdv A outer s H E) body t ∧ t { nx := fun _ H' => Q .non H', rt := Q } (start N vs) H) :
    codeAny (model P w) A (.call (.ref f) args) (CR CX outer P w H s Q E) s := by
  obtain ⟨oc, od, dV, kV, doc, pm, an, cdv, ct, osl, rfl, lk, hcd, _, _⟩ := F.ex
  have kin : K.In s.heap := e0.mod.kin.keeps fun b o e => (e0.bs b o e).1
  have hkind : ∀ y ∈ ps.zip us, scope.names.lookup y.1 = some .local ∨ (scope.names.lookup y.1 = some .cell ∧ ((cellsFrom (s.heap.objs.size + 1) scope.names []).lookup y.1).isSome = true) := fun y hy => by
    rcases S.par y.1 (List.of_mem_zip (a := y.1) (b := y.2) hy).1 with q | q
    · exact .inl q
    · exact .inr ⟨q, PySem.W.cellsFrom_some _ _ _ (.inl q)⟩
  refine codeAny_call_function hr.depth (kin _ _ lk) rfl S.co S.gen rfl (PySem.W.codeRec_of kin hcd) (hb _ _ _ _ ?_)
  refine wpAny_newFunctionEnv_cells S.kind hkind fun env he s1 x => ?_
  subst he
  refine ⟨(e0.mod.nolimit.keeps fun b o e => (e0.bs b o e).1).keeps x.toInCall.keep, codeAny_func ?_⟩
  obtain ⟨t, ht, hq⟩ := hbody cdv
  refine wpAny_mono (ht.run [] s1 (start N vs) H _ (inv_start S hr.hd e0 hl r x) hq) (fun fl s' hs => ?_) fun e s' hs => hs
  cases fl with
  | ret u =>
    obtain ⟨v, σ', H', J, rv, q⟩ := hs
    exact ⟨v, H', J.os, J.bare, J.base, J.hok, rv, q⟩
  | next =>
    obtain ⟨σ', H', J, q⟩ := hs
    exact ⟨V.non, H', J.os, J.bare, J.base, J.hok, rfl, q⟩
  | brk => exact hs.elim fun _ h => h.elim fun _ h => h.2.elim
  | cont => exact hs.elim fun _ h => h.elim fun _ h => h.2.elim
def itT (K : PySem.W.Frag) (n : Nat) (f : Str) : TS := tRet (tCB (rIterN K n) (tCons (tFld K (tVar 0) f) tNil))
theorem itPS {X : Cx} {fld : Str} {p1 p2 p3 p4 p5 : Pos} (hg : Gl X "iter") (hm : X.mg "iter" = none) (hN : X.N[0]? = some ("self" : Str)) (hv : Vis X.env.scope "self")
    (hb : attributeBase (.Name "self" p2) fld X.env (eval (.Name "self" p2) X.env) = eval (.Name "self" p2) X.env := by rfl)
    (he : starEach [.Attribute (.Name "self" p2) fld p3] X.env = (false, eval (.Attribute (.Name "self" p2) fld p3) X.env) :: starEach [] X.env := by rfl)
    (hpl : (backTo p4 (starEach [] X.env)).any (·.1) = false := by rfl) :
    PSs X [.Return (some (.Call (.Name "iter" p1) [.Attribute (.Name "self" p2) fld p3] [] p4)) p5] (itT X.K X.s_0.heap.objs.size fld) :=
  pss_one (ps_ret (pe_callB call_iterN hg hm (by decide +kernel) (pa_cons (pe_fld (pe_var hN hv) hb) pa_nil he) (by decide) (by decide) he hpl))
theorem itFn {P : Program} {w : World} {K : PySem.W.Frag} {mg : Str → Option Value} {base : Heap} {c fld qual : Str} {params : Arguments} {body : List Stmt} {scope : Scope} {f : Addr} {fd : FuncData} (F : FunD K "__iter__" qual params body scope [] [] f fd) (S : FnScope ["self"] ["self"] scope)
    (T : FldOk K fld [c])
    (hb : ∀ (cdv : Value) (A : Around) (outer : List PySem.Env) (s : Shared) (H : Hp) (E : XK), PSs (cxOf (L2.CX P w) P w K mg base ["self"] qual scope f cdv A outer s H E) body (itT K s.heap.objs.size fld)) : ItFn P w K mg base 1 f fd (He.ga K c) fld := by
  intro A outer s H args a dx fs l xs hr e0 hbi ha hl hq
  obtain ⟨h1, h2⟩ := T c List.mem_cons_self
  refine codeAny_mono (fn_at (CX := L2.CX P w) (us := [.ref a]) (vs := [.ref a]) (Q := fun v H' => ∃ it, s.heap.objs.size ≤ it ∧ H it = none ∧ v = .ref it ∧ H' = upd H it (ItO l it 0)) (E := fun _ _ _ => False) F S hr e0 hbi (.cons rfl .nil) rfl fun cdv => ⟨_, hb cdv A outer s H _, ?_⟩) fun r s' h => ?_
  · exact ⟨.ref a, rfl, a, He.ga K c, dx, fs, .ref l, rfl, ha, h1, h2, hl, l, xs, rfl, hq, fun it hi hn => ⟨it, hn, hi, rfl, rfl⟩⟩
  · cases r with
    | error e =>
      obtain ⟨_, _, _, _, _, _, _, _, _, _, _, _, e⟩ := (show L2.CX P w outer H s (fun _ _ _ => False) e s' from h)
      exact e.elim
    | ok fl =>
      cases fl with
      | next => exact False.elim h
      | brk => exact False.elim h
      | cont => exact False.elim h
      | ret u =>
        obtain ⟨v, H', os, bare, un, hok, rv, it, big, hi, ev, eH⟩ := (show CE outer P w H s _ u s' from h)
        exact ⟨it, big, hi, v, H', os, bare, un, hok, rv, ev, eH⟩
def itsOf (c fld : Str) (d : D) : Ou (List D) := if isIns c d = true then (match fldD fld [c] d with
  | some (.lst false xs) => .ok xs
  | _ => .bad) else .bad
def iOwn (c fld : Str) (f : DL.Env → Ou D) : DL.Env → Ou (List D) := fun ρ => f ρ >>= itsOf c fld
@[simp] theorem x_iOwn (c fld : Str) (f : DL.Env → Ou D) (ρ : DL.Env) : iOwn c fld f ρ = (f ρ >>= itsOf c fld) := rfl
theorem itsOf_inv {c fld : Str} {d : D} {xs : List D} (h : itsOf c fld d = .ok xs) : ∃ ns ys, d = .ins c ns ys ∧ (ns.zip ys).lookup fld = some (.lst false xs) := by
  unfold itsOf at h
  split at h
  · rename_i hc
    obtain ⟨ns, ys, e⟩ := isIns_inv hc
    subst e
    refine ⟨ns, ys, rfl, ?_⟩
    have e : fldD fld [c] (.ins c ns ys) = (ns.zip ys).lookup fld := by
      show (if [c].contains c then _ else _) = _
      rw [if_pos (by simp)]
    rw [e] at h
    split at h
    · rename_i e2
      cases h
      exact e2
    · cases h
  · cases h
theorem itsOf_ex {c fld : Str} {d : D} {c2 : Str} {ns : List Str} {xs : List D} (h : itsOf c fld d = .ex c2 ns xs) : False := by
  unfold itsOf at h
  split at h
  · split at h <;> cases h
  · cases h
def ItAt (K : PySem.W.Frag) (C : Addr) (fld : Str) (v : V) (H : Hp) (l : Addr) (zs : List V) : Prop := ∃ a dx fs, v = .ref a ∧ H a = some (.ins C dx fs) ∧ fs.lookup fld = some (.ref l) ∧ SqL K H l zs
theorem itAt_of {K : PySem.W.Frag} {Z H : Hp} {c fld : Str} {ns : List Str} {ys xs : List D} {v : V} {fx : Fp} (s : Ex Z H) (dx : Den K (He.ga K) Z H (.ins c ns ys) v fx) (e : (ns.zip ys).lookup fld = some (.lst false xs)) :
    ∃ l zs, ItAt K (He.ga K c) fld v H l zs ∧ Z l = some (.lst zs) ∧ Dens K (He.ga K) Z H xs zs [] := by
  simp only [Den] at dx
  obtain ⟨a, dxa, vs, e1, e2, z, l, ds⟩ := dx
  obtain ⟨u, l2, dn⟩ := Dens.look ds e
  simp only [Den] at dn
  obtain ⟨l0, zs, e3, _, zl, dz⟩ := dn
  subst e3
  exact ⟨l0, zs, ⟨a, dxa, _, e1, s.l z, l2, .inl (.inl (s.l zl))⟩, zl, dz⟩
section
variable {X : Cx} {W : WX} {k j n : Nat} {tg e a b : Expr} {f g : DL.Env → Ou D} {pos p : Pos} {c fld : Str} {F : List D → Ou D}
theorem call_itOwn {pins : List (Addr × Obj)} {σ : L2.St} {H : Hp} {s1 : Shared} {fi a1 l : Addr} {fd : FuncData} {dx : Addr} {fs : List (Str × V)} {zs : List V} {A1 : Around} {Q : Value → Shared → Prop} {E1 : Value → Shared → Prop} {C0 : Addr}
    (ok : ItFn X.prog X.w X.K X.mg X.base j fi fd C0 fld) (sb : Sub X j A1) (hbn : Binds X.K fd [("self" : Str)] []) (I : Inv X pins σ H s1)
    (ha : H a1 = some (.ins C0 dx fs)) (hl : fs.lookup fld = some (.ref l)) (hq : SqL X.K H l zs)
    (h : ∀ (it : Addr) (s2 : Shared), s1.heap.objs.size ≤ it → H it = none → Inv X pins σ H s2 → s2.heap.get? it = some (GNX.itObj l 0) → Q (.ref it) s2) :
    wpAny (model X.prog X.w) A1 (call (.ref fi) [.ref a1]) Q E1 s1 := by
  have e0 : Env0 X.prog X.w X.K X.mg X.base A1 X.stack s1 H := by
    have e := I.env0
    exact ⟨by rw [sb.fr]; exact e.frames, e.mod, e.bs, e.bsz, e.funs, e.frf, e.hok, e.bare⟩
  refine wpAny_call (codeAny_mono (ok A1 X.stack s1 H ⟨[.ref a1], []⟩ a1 dx fs l zs sb.room e0 (by
    have := hbn s1 [.ref a1] I.kIn (by rfl)
    simpa using this) ha hl hq) fun r s' hq' => ?_)
  cases r with
  | error e => exact False.elim hq'
  | ok fl =>
    cases fl with
    | next => exact False.elim hq'
    | brk => exact False.elim hq'
    | cont => exact False.elim hq'
    | ret u =>
      obtain ⟨it, big, hi, hce⟩ := hq'
      obtain ⟨v2, H2, I2, rv2, ev2, eH2⟩ := I.after hce
      subst ev2
      subst eH2
      cases rv2
      have eo := itO_get I2 upd_same
      have I3 := inv_drop (φ := fun h => h.get? it = some (GNX.itObj l 0)) I2 upd_same
      rw [dropH_upd hi] at I3
      exact h it s' big hi I3 eo
theorem DI.itO (C : Ctx X W k) (G : ItK X.prog X.w X.K X.mg X.base j c fld) (he : DB X W e f) (hk : j ≤ k := by decide) : DI X W tg e (iOwn c fld f) := by
  obtain ⟨fi, fd, me, ok, hbn⟩ := G.ex
  refine ⟨⟨fun pins s σ H R I hq => ?_⟩⟩
  obtain ⟨Z, ρ, r, q⟩ := hq
  refine thn (he.run.run pins s σ H (fun v H1 => ∃ l zs, ItAt X.K (He.ga X.K c) fld v H1 l zs ∧ R (Itl X.K l) H1) I ?_) fun u s1 ⟨v, H1, I1, rv, l, zs, ⟨a1, dx, fs, ev, ha, hl, hq⟩, hR⟩ => ?_
  · refine tV_bind (P := fun Z H o => PostI X.K (He.ga X.K) W Z H σ o R) r (fun _ _ _ z => z) (fun z => z) q fun d v Z1 H1 fx ed g1 dx q => ?_
    have q2 := PostI.gr q g1
    cases ei : itsOf c fld d with
    | ok xs =>
      rw [ei] at q2
      have q3 : ∀ J Z' H', Gr Z1 H1 Z' H' → Wk X.K (He.ga X.K) J Z' Z' xs → R J H' := q2
      obtain ⟨ns, ys, rfl, el⟩ := itsOf_inv ei
      obtain ⟨l, zs, at_, zl, dz⟩ := itAt_of g1.s dx el
      exact ⟨l, zs, at_, q3 _ Z1 H1 (Gr.refl g1.s) (wk_list zl dz)⟩
    | ex c2 ns xs => exact (itsOf_ex ei).elim
    | bad => rw [ei] at q2; exact q2.elim
  · subst ev
    cases rv
    obtain ⟨mA, J, _⟩ := ins_get I1.hok ha
    obtain ⟨od, J, _⟩ := J.look
    obtain ⟨m, hF⟩ := I1.fr
    refine PySem.W.owit_iter hF I1.ok.mod.kin J me.at_ me.fn ?_
    refine call_itOwn ok ⟨C.hr.mono hk, rfl⟩ hbn I1 ha hl hq fun it s2 big hi I2 eo => ?_
    unfold PySem.W.OwitIt
    have hT : s2.TypeIs (.ref it) "list_iterator" := ⟨_, eo, rfl⟩
    refine wpAny_specialOf (name := Str.ofString "__next__") hT slot_listiter_next.lookup ?_
    refine ⟨it, [it], _, _, H1, rfl, I2, turn_list l it, ⟨_, eo, rfl, rfl⟩, fun b hb => ?_, hR⟩
    have e : b = it := by simpa using hb
    subst e
    exact I1.fpOk big hi
end
def spLn (C : Addr) (f : Str) (K : PySem.W.Frag) : Sp := fun vs H Q _ => ∃ a dx fs l xs, vs = [.ref a] ∧ H a = some (.ins C dx fs) ∧ fs.lookup f = some (.ref l) ∧ SqL K H l xs ∧ Q (.int xs.length) H
structure LnK (P : Program) (w : World) (K : PySem.W.Frag) (mg : Str → Option Value) (base : Heap) (k : Nat) (c fld : Str) : Prop where
  ex : ∃ (g : Addr) (fd : FuncData) (ps : List Str), Meth K (He.ga K c) "__len__" g ∧ FnOk P w K mg base (L2.CX P w) k g fd ps (spLn (He.ga K c) fld K) ∧ Binds K fd ps []
def lnT (K : PySem.W.Frag) (f : Str) : TS := tRet (tCB (fun xs H Q => ∃ x n, xs = [x] ∧ LenV K x H n ∧ Q (.int n) H) (tCons (tFld K (tVar 0) f) tNil))
theorem lnPS {X : Cx} {fld : Str} {p1 p2 p3 p4 p5 : Pos} (hg : Gl X "len") (hm : X.mg "len" = none) (hN : X.N[0]? = some ("self" : Str)) (hv : Vis X.env.scope "self")
    (hb : attributeBase (.Name "self" p2) fld X.env (eval (.Name "self" p2) X.env) = eval (.Name "self" p2) X.env := by rfl)
    (he : starEach [.Attribute (.Name "self" p2) fld p3] X.env = (false, eval (.Attribute (.Name "self" p2) fld p3) X.env) :: starEach [] X.env := by rfl)
    (hpl : (backTo p4 (starEach [] X.env)).any (·.1) = false := by rfl) :
    PSs X [.Return (some (.Call (.Name "len" p1) [.Attribute (.Name "self" p2) fld p3] [] p4)) p5] (lnT X.K fld) :=
  pss_one (ps_ret (pe_callB call_len hg hm boot_len (pa_cons (pe_fld (pe_var hN hv) hb) pa_nil he) (by decide) (by decide) he hpl))
theorem lnFn {P : Program} {w : World} {K : PySem.W.Frag} {mg : Str → Option Value} {base : Heap} {c fld qual : Str} {params : Arguments} {body : List Stmt} {scope : Scope} {f : Addr} {fd : FuncData} (F : FunD K "__len__" qual params body scope [] [] f fd) (S : FnScope ["self"] ["self"] scope)
    (T : FldOk K fld [c])
    (hb : ∀ (cdv : Value) (A : Around) (outer : List PySem.Env) (s : Shared) (H : Hp) (E : XK), PSs (cxOf (L2.CX P w) P w K mg base ["self"] qual scope f cdv A outer s H E) body (lnT K fld)) : FnOk P w K mg base (L2.CX P w) 1 f fd ["self"] (spLn (He.ga K c) fld K) := by
  refine F.ok S (fun vs H Q E h => by obtain ⟨a, dx, fs, l, xs, rfl, _⟩ := h; rfl) fun cdv A outer s H vs Q E hr hsp => ?_
  obtain ⟨a, dx, fs, l, xs, rfl, ha, hl, hq, q⟩ := hsp
  obtain ⟨h1, h2⟩ := T c List.mem_cons_self
  refine ⟨_, hb cdv A outer s H E, ?_⟩
  exact ⟨.ref a, rfl, a, He.ga K c, dx, fs, .ref l, rfl, ha, h1, h2, hl, _, _, rfl, .inl ⟨xs, hq, rfl⟩, q⟩
section
variable {X : Cx} {W : WX} {k j j2 n : Nat} {tg e a b : Expr} {f g : DL.Env → Ou D} {pos p : Pos} {c fld : Str} {F : List D → Ou D}
theorem nofr2 {pins : List (Addr × Obj)} {σ : L2.St} {H : Hp} {s : Shared} (I : Inv X pins σ H s) {b : Addr} (h : s.heap.objs.size ≤ b) : b ∉ frs X.stack := fun hb => by
  obtain ⟨_, o, ho, _⟩ := I.stack.mem hb
  exact absurd (Nat.lt_of_lt_of_le (Heap.lt_size ho) h) (Nat.lt_irrefl _)
theorem call_lnOwn {pins : List (Addr × Obj)} {σ : L2.St} {H : Hp} {s1 : Shared} {fi a1 l : Addr} {fd : FuncData} {ps : List Str} {dx : Addr} {fs : List (Str × V)} {zs : List V} {A1 : Around} {Q : Value → Shared → Prop} {E1 : Value → Shared → Prop} {C0 : Addr}
    (me : Meth X.K C0 "__len__" fi)
    (ok : FnOk X.prog X.w X.K X.mg X.base (L2.CX X.prog X.w) j fi fd ps (spLn C0 fld X.K)) (sb : Sub X (j + 1) A1) (hbn : Binds X.K fd ps []) (I : Inv X pins σ H s1)
    (ha : H a1 = some (.ins C0 dx fs)) (hl : fs.lookup fld = some (.ref l)) (hq : SqL X.K H l zs) (hz : zs.length < 2 ^ 62)
    (h : ∀ (t : Tok) (s2 : Shared), Inv X pins σ H s2 → (∀ b o, s1.heap.get? b = some o → H b = none → b ∉ frs X.stack → s2.heap.get? b = some o) → Q (.int zs.length t) s2) :
    wpAny (model X.prog X.w) A1 (call (.builtin "len") [.ref a1]) Q E1 s1 := by
  obtain ⟨mA, J, _⟩ := ins_get I.hok ha
  obtain ⟨od, J, _⟩ := J.look
  obtain ⟨m, hF⟩ := I.fr
  have e0 : Env0 X.prog X.w X.K X.mg X.base A1.in1 X.stack s1 H := by
    have e := I.env0
    exact ⟨by rw [show A1.in1.frames = A1.frames from rfl, sb.fr]; exact e.frames, e.mod, e.bs, e.bsz, e.funs, e.frf, e.hok, e.bare⟩
  have hsp : spLn C0 fld X.K [.ref a1] H (fun v H' => v = .int zs.length ∧ H' = H) (fun _ _ _ => False) := ⟨a1, dx, fs, l, zs, rfl, ha, hl, hq, rfl, rfl⟩
  have hn := ok.len _ _ _ _ hsp
  have r2 : Vals [V.ref a1] [Value.ref a1] := .cons rfl .nil
  refine PySem.W.len_K hF I.ok.mod.kin J me.at_ me.fn ?_
  refine wpAny_call (codeAny_mono (ok.run A1.in1 X.stack s1 H ⟨[.ref a1], []⟩ [.ref a1] [.ref a1] _ _ sb.room.in1 e0 (by
    have := hbn s1 [.ref a1] I.kIn (by simpa using hn)
    simpa using this) r2 hsp) fun r s' hq' => ?_)
  cases r with
  | error e =>
    obtain ⟨_, _, _, _, _, _, _, _, _, _, _, _, e⟩ := (show L2.CX X.prog X.w X.stack H s1 (fun _ _ _ => False) e s' from hq')
    exact e.elim
  | ok fl =>
    cases fl with
    | next => exact False.elim hq'
    | brk => exact False.elim hq'
    | cont => exact False.elim hq'
    | ret u =>
      obtain ⟨v, H', os, bare, un, hok, rv, ev, eH⟩ := (show CE X.stack X.prog X.w H s1 _ u s' from hq')
      subst ev
      subst eH
      obtain ⟨v2, H2, I2, rv2, ev2, eH2⟩ := I.after (Q := fun v2 H2 => v2 = .int zs.length ∧ H2 = H') ⟨.int zs.length, _, os, bare, un, hok, rv, rfl, rfl⟩
      subst ev2
      subst eH2
      obtain ⟨t, rfl⟩ := (show ∃ t, u = Value.int zs.length t from rv2)
      exact ⟨⟨by omega, by omega⟩, h _ _ (I2.tok _) fun b o h1 h2 h3 => un.keep b o h1 h2 h3 (by simp)⟩
theorem hint_own {M : Model} {A : Around} {E : Value → Shared → Prop} {Q : Bool → Shared → Prop} {a g C : Addr} {s : Shared} {ox : Obj} {od : Option Obj} {n : Nat} (hc : PySem.W.findIn X.K (.ref C) "__len__" = some (some (.ref g))) (hK : X.K.In s.heap) (J : PySem.W.InstAt s.heap a ox C od) (hn : n ≤ 1000000)
    (h : wpAny M A (call (.builtin "len") [.ref a]) (fun r s' => ∃ t, r = .int n t ∧ ∀ b, Q b s') (fun _ _ => False) s) : wpAny M A (Builtin.List.listLengthHint (.ref a)) Q E s := by
  unfold Builtin.List.listLengthHint
  refine wpAny_bind (wpAny_bind (J.type.here ((PySem.W.looks_findIn hK hc).here ?_)))
  refine PySem.W.KFB.if_not rfl ?_
  refine PySem.W.KFB.if_so rfl ?_
  refine wpAny_bind (wpAny_rule (wpAny_bind (wpAny_attempt (wpAny_mono h (fun r s' hr => ?_) fun _ _ z => z.elim))))
  obtain ⟨t, rfl, q⟩ := hr
  refine wpAny_bind (wpAny_of_eq (a := some (n : Int)) rfl ?_)
  refine PySem.W.KFB.if_not ?_ (wpAny_pure (q _))
  unfold Builtin.List.listTooLong
  rw [sizeLine_eq]
  simp
  omega
theorem sqL_upd {K : PySem.W.Frag} {H : Hp} {q l : Addr} {u : HO} {zs : List V} (h : SqL K H l zs) (n : q ≠ l) : SqL K (upd H q u) l zs := by
  have e : upd H q u l = H l := upd_ne (Ne.symm n)
  unfold SqL Rd at h ⊢
  simp only [e]
  exact h
theorem itL_loop {pins : List (Addr × Obj)} {σ : L2.St} {H : Hp} {A1 : Around} {l it q : Addr} {zs : List V} {Rs : Result → Shared → Prop} (hA : A1.handled = none) (hq : SqL X.K H l zs) (hql : q ≠ l) (hz : zs.length < 1000000) (hqi : q ≠ it)
    (hdone : ∀ s, Inv X pins σ (upd H q (.lst zs)) s → Rs (.ok (.ret .none)) s) : ∀ (m i : Nat) (s : Shared), zs.length = i + m → Inv X pins σ (upd H q (.lst (zs.take i))) s → s.heap.IsListIter it l i → FpOk X pins H it →
    codeAny (model X.prog X.w) A1 (.builtin "list.extend.loop" ⟨[.ref q, .ref it, .none], []⟩) Rs s := by
  intro m
  induction m with
  | zero =>
    intro i s hm I hi fp
    have hI : i = zs.length := by omega
    subst hI
    have hl : SqL X.K (upd H q (.lst (zs.take zs.length))) l zs := sqL_upd hq hql
    obtain ⟨its, rv, p, hzz⟩ := I.list hl
    refine codeAny_builtin PySem.F.entry_extend_loop ?_
    rw [Around.under_plainId PySem.F.plain_extend_loop _]
    show wpAny _ A1.in1 (pyNext (.ref it) >>= _) _ _ s
    have hlen := rv.length
    refine wpAny_bind (wpAny_pyNext_list_end (show A1.in1.handled = none from hA) hi p.isList (by simp; omega) fun h' eb => ?_)
    obtain ⟨f0, f1, f2, f3, f4, f5⟩ := fp
    have I1 : Inv X pins σ _ { s with heap := h' } := I.turned (t' := s.toks) (fun b o hb e => eb b o hb e) (by rw [upd_ne hqi.symm]; exact f0) f1 f3 f4 f5
    rw [List.take_length] at I1
    exact wpAny_pure (hdone _ I1)
  | succ m ih =>
    intro i s hm I hi fp
    have hl : SqL X.K (upd H q (.lst (zs.take i))) l zs := sqL_upd hq hql
    obtain ⟨its, rv, p, hzz⟩ := I.list hl
    obtain ⟨x, hx⟩ : ∃ x, zs[i]? = some x := ⟨zs[i], List.getElem?_eq_getElem (by omega)⟩
    obtain ⟨u, hu, ru⟩ := rv.get hx
    refine codeAny_builtin PySem.F.entry_extend_loop ?_
    rw [Around.under_plainId PySem.F.plain_extend_loop _]
    show wpAny _ A1.in1 (pyNext (.ref it) >>= _) _ _ s
    refine wpAny_bind (wpAny_pyNext_list_item hi p.isList (x := u) (by simpa using hu) fun h' st' sb => ?_)
    obtain ⟨f0, f1, f2, f3, f4, f5⟩ := fp
    have I1 : Inv X pins σ _ { s with heap := h' } := I.turned (t' := s.toks) (fun b o hb e => (sb.2 b hb).trans e) (by rw [upd_ne hqi.symm]; exact f0) f1 f3 f4 f5
    show wpAny _ A1.in1 (updateSeq q (·.push u) >>= _) _ _ _
    obtain ⟨z, its2, kk, r2, hl2, e⟩ := I1.lstM upd_same
    have ht : (zs.take i).length = i := by rw [List.length_take]; omega
    have h2 := r2.length
    refine wpAny_bind (wpAny_updateSeq e rfl (wpAny_pure ⟨plainId_quiet PySem.F.plain_extend_loop _, ?_⟩) (by rw [List.size_toArray]; omega) (by show (its2.toArray.push u).size ≤ sizeLine + 1; rw [Array.size_push, List.size_toArray]; omega))
    have I2 := I1.lset (f := (·.push u)) (its' := its2 ++ [u]) (ys := zs.take i ++ [x]) (t' := s.toks) upd_same e (by simp) (r2.append (.cons ru .nil)) (by rw [List.length_append, List.length_singleton, ht, sizeLine_eq]; omega)
    rw [upd_upd] at I2
    have e3 : zs.take i ++ [x] = zs.take (i + 1) := by rw [List.take_add_one, hx]; rfl
    rw [e3] at I2
    refine ih (i + 1) _ (by omega) I2 ?_ ⟨f0, f1, f2, f3, f4, f5⟩
    obtain ⟨o, ho, hc, hd⟩ := st'
    exact ⟨o, (Heap.get?_update_ne _ _ _ _ hqi.symm).trans ho, hc, hd⟩
theorem ext_it {pins : List (Addr × Obj)} {σ : L2.St} {H : Hp} {A1 : Around} {C0 fi fn : Addr} {fdI fdN : FuncData} {psN : List Str} {a l q dx : Addr} {fs : List (Str × V)} {zs : List V} {s : Shared} {Rs : Result → Shared → Prop} {E1 : Value → Shared → Prop}
    (mi : Meth X.K C0 "__iter__" fi) (mn : Meth X.K C0 "__len__" fn) (okI : ItFn X.prog X.w X.K X.mg X.base j fi fdI C0 fld) (bI : Binds X.K fdI [("self" : Str)] [])
    (okN : FnOk X.prog X.w X.K X.mg X.base (L2.CX X.prog X.w) j fn fdN psN (spLn C0 fld X.K)) (bN : Binds X.K fdN psN []) (hA : A1.handled = none) (sb : Sub X (j + 1) A1.in1)
    (I : Inv X pins σ (upd H q (.lst [])) s) (ha : H a = some (.ins C0 dx fs)) (hl : fs.lookup fld = some (.ref l)) (hq : SqL X.K H l zs) (hqa : q ≠ a) (hqn : q ≠ l) (hz : zs.length < 1000000)
    (hdone : ∀ s, Inv X pins σ (upd H q (.lst zs)) s → Rs (.ok (.ret .none)) s) :
    wpAny (model X.prog X.w) A1.in1 (Builtin.List.listExtendWith (.ref q) (.ref a) .none) (fun fin s' => match fin with | .done f => Rs (.ok f) s' | .again c' => c'.quiet = true ∧ codeAny (model X.prog X.w) A1 c' Rs s') E1 s := by
  have ha2 : upd H q (.lst []) a = some (.ins C0 dx fs) := by rw [upd_ne (Ne.symm hqa)]; exact ha
  have hq2 : SqL X.K (upd H q (.lst [])) l zs := sqL_upd hq hqn
  obtain ⟨mA, J, _⟩ := ins_get I.hok ha2
  obtain ⟨od, J, _⟩ := J.look
  obtain ⟨m0, hF⟩ := I.fr
  unfold Builtin.List.listExtendWith
  refine wpAny_bind (J.type.here ?_)
  have h1 : Builtin.List.listSameRef (.ref q) (.ref a) = false := by simp [Builtin.List.listSameRef, hqa]
  have h2 : (Value.ref C0 == Value.type "list") = false := rfl
  have h3 : (Value.ref C0 == Value.type "tuple") = false := rfl
  simp only [h1, h2, h3, Bool.or_false, Bool.false_eq_true, if_false]
  refine wpAny_bind (PySem.W.owit_iter hF I.ok.mod.kin J mi.at_ mi.fn ?_)
  refine call_itOwn okI ⟨sb.room.mono (Nat.le_succ j), sb.fr⟩ bI I ha2 hl hq2 fun it s3 big hi I3 eo => ?_
  unfold PySem.W.OwitIt
  have hT : s3.TypeIs (.ref it) "list_iterator" := ⟨_, eo, rfl⟩
  refine wpAny_specialOf (name := Str.ofString "__next__") hT slot_listiter_next.lookup ?_
  have fp0 : FpOk X pins (upd H q (.lst [])) it := I.fpOk big hi
  have hqi : q ≠ it := fun z => by
    rw [← z, upd_same] at hi
    cases hi
  have fp : FpOk X pins H it := ⟨by rw [upd_ne hqi.symm] at hi; exact hi, fp0.2⟩
  obtain ⟨mA2, J2, _⟩ := ins_get I3.hok ha2
  obtain ⟨od2, J2, _⟩ := J2.look
  refine wpAny_bind (wpAny_holding (hint_own mn.at_ I3.kIn J2 (n := zs.length) (by omega) (call_lnOwn mn okN sb bN I3 ha2 hl hq2 (by omega) fun t s4 I4 keep => ⟨t, rfl, fun b => ?_⟩)))
  have eo4 : s4.heap.get? it = some (GNX.itObj l 0) := keep it _ eo hi (nofr2 I big)
  have lp : ∀ s5, Inv X pins σ (upd H q (.lst [])) s5 → s5.heap.get? it = some (GNX.itObj l 0) → codeAny (model X.prog X.w) A1 (.builtin "list.extend.loop" ⟨[.ref q, .ref it, .none], []⟩) Rs s5 := fun s5 I5 e5 =>
    itL_loop hA hq hqn hz hqi hdone zs.length 0 s5 (by omega) I5 ⟨_, e5, rfl, rfl⟩ fp
  refine wpAny_ite_split (fun _ => ?_) (fun _ => wpAny_pure ⟨plainId_quiet PySem.F.plain_extend_loop _, lp s4 I4 eo4⟩)
  obtain ⟨z, its, kk, r3, hl3, e3⟩ := I4.lstM upd_same
  cases r3
  refine wpAny_bind (wpAny_rule ?_)
  refine wpAny_bind ?_
  show wpAny _ _ (updateSeq q (·.push .none) >>= fun _ => updateSeq q (·.pop)) _ _ _
  refine wpAny_bind (wpAny_updateSeq e3 rfl ?_)
  have I5 := I4.lset (f := (·.push Value.none)) (its' := [Value.none]) (ys := [.non]) (t' := s4.toks) upd_same e3 (by simp) (.cons rfl .nil) (by rw [List.length_singleton, sizeLine_eq]; decide)
  obtain ⟨z4, its4, k4, r4, hl4, e4⟩ := I5.lstM upd_same
  obtain ⟨u4, rfl, ru4⟩ := r4.one
  refine wpAny_updateSeq e4 rfl ?_ (by show 1 ≤ sizeLine; rw [sizeLine_eq]; decide) (by show 0 ≤ sizeLine + 1; exact Nat.zero_le _)
  have I6 := I5.lset (f := (·.pop)) (its := [u4]) (its' := []) (ys := []) (t' := s4.toks) upd_same e4 (by rfl) .nil (Nat.zero_le _)
  rw [upd_upd, upd_upd] at I6
  refine wpAny_pure ⟨plainId_quiet PySem.F.plain_extend_loop _, lp _ I6 ?_⟩
  exact (Heap.get?_update_ne _ _ _ _ hqi.symm).trans ((Heap.get?_update_ne _ _ _ _ hqi.symm).trans eo4)
def rLi (K : PySem.W.Frag) (C : Addr) (fld : Str) : List V → Hp → VK → Prop := fun xs H Q => ∃ v l zs, xs = [v] ∧ ItAt K C fld v H l zs ∧ zs.length < 1000000 ∧ ∀ q, H q = none → Q (.ref q) (upd H q (.lst zs))
theorem call_listIt {C0 fi fn : Addr} {fdI fdN : FuncData} {psN : List Str} (mi : Meth X.K C0 "__iter__" fi) (mn : Meth X.K C0 "__len__" fn) (okI : ItFn X.prog X.w X.K X.mg X.base j fi fdI C0 fld) (bI : Binds X.K fdI [("self" : Str)] [])
    (okN : FnOk X.prog X.w X.K X.mg X.base (L2.CX X.prog X.w) j fn fdN psN (spLn C0 fld X.K)) (bN : Binds X.K fdN psN []) (hc : X.calm = true) (hr : Room (j + 4) X.A) : CallR X (.type "list") (rLi X.K C0 fld) := by
  intro pins s σ H xs us Q I rv h
  obtain ⟨v, l, zs, rfl, ⟨a, dx, fs, rfl, ha, hl, hql⟩, hz, hQ⟩ := h
  obtain ⟨u, rfl, ru⟩ := rv.one
  cases ru
  have sb : Sub X (j + 2) X.A.in1.in1 := (Sub.in1 (Sub.in1 (⟨hr, rfl⟩ : Sub X (j + 4) X.A)))
  refine callType_codes (Q₁ := fun obj s₁ => obj = .ref s.heap.objs.size ∧ s₁ = { s with heap := s.heap.push { cls := .type "list", data := .seq #[] } }) PySem.F.called_list (PySem.F.typeCall_list_1 _) PySem.F.entry_list_init
    (code_list_new _ ⟨rfl, rfl⟩) fun obj s₁ h₁ => ?_
  obtain ⟨rfl, rfl⟩ := h₁
  have hS : (s.heap.push { cls := .type "list", data := .seq #[] }).get? s.heap.objs.size = some { cls := .type "list", data := .seq #[] } := Heap.get?_push_size _ rfl
  refine ⟨⟨_, hS, rfl⟩, PySem.F.args_list_init_2 _ _, ?_⟩
  have fr : H s.heap.objs.size = none := I.hok.fresh (Nat.le_refl _)
  have I1 : Inv X pins σ (upd H s.heap.objs.size (.lst [])) { s with heap := s.heap.push { cls := .type "list", data := .seq #[] } } := I.lnew (its := []) (t' := s.toks) .nil (Nat.zero_le _)
  show wpAny _ _ (do let old ← Builtin.List.listItems (.ref s.heap.objs.size); Builtin.List.listUpdate (.ref s.heap.objs.size) (fun _ => #[]); letGo old.toList.reverse; Builtin.List.listExtendWith (.ref s.heap.objs.size) (.ref a) .none) _ _ _
  refine wpAny_bind ?_
  unfold Builtin.List.listItems
  refine wpAny_bind (wpAny_seqItems hS rfl (wpAny_pure ?_))
  show wpAny _ _ (updateSeq s.heap.objs.size (fun _ => #[]) >>= fun _ => letGo (#[] : Array Value).toList.reverse >>= fun _ => Builtin.List.listExtendWith (.ref s.heap.objs.size) (.ref a) .none) _ _ _
  refine wpAny_bind (wpAny_updateSeq hS rfl ?_)
  have I2 := I1.lset (f := fun _ => #[]) (its := []) (its' := []) (ys := []) (t' := s.toks) upd_same hS rfl .nil (Nat.zero_le _)
  rw [upd_upd] at I2
  refine wpAny_bind (wpAny_letGo ?_)
  have hqa : s.heap.objs.size ≠ a := fun z => by
    rw [z, ha] at fr
    cases fr
  have hqn : s.heap.objs.size ≠ l := fun z => by
    obtain ⟨its, rv, p, _⟩ := I.list hql
    obtain ⟨o, ho, _⟩ := p.isList
    rw [← z] at ho
    exact absurd (Heap.lt_size ho) (Nat.lt_irrefl _)
  exact ext_it (A1 := X.A.in1) (Rs := wants (fun r s₂ => r = .none ∧ EP X pins σ Q (.ref s.heap.objs.size) s₂) X.xe) mi mn okI bI okN bN (I.ok.hd hc) (sb.mono (Nat.le_succ _)) I2 ha hl hql hqa hqn hz
    fun s' I' => ⟨rfl, .ref s.heap.objs.size, _, I', rfl, hQ _ fr⟩
def dListO (c fld : Str) (f : DL.Env → Ou D) : DL.Env → Ou D := fun ρ => f ρ >>= fun d => itsOf c fld d >>= fun xs => if xs.length < 1000000 then .ok (.lst true xs) else .bad
@[simp] theorem x_dListO (c fld : Str) (f : DL.Env → Ou D) (ρ : DL.Env) : dListO c fld f ρ = (f ρ >>= fun d => itsOf c fld d >>= fun xs => if xs.length < 1000000 then .ok (.lst true xs) else .bad) := rfl
theorem DE.listO (C : Ctx X W k) (GI : ItK X.prog X.w X.K X.mg X.base j c fld) (GN : LnK X.prog X.w X.K X.mg X.base j c fld) (hm : X.mg "list" = none) (he : DB X W e f) (hk : j + 4 ≤ k := by decide) (hg : Gl X "list" := by rfl)
    (hs : starEach [e] X.env = (false, eval e X.env) :: starEach [] X.env := by rfl) (hpl : (backTo pos (starEach [] X.env)).any (·.1) = false := by rfl) : DE X W (.Call (.Name "list" p) [e] [] pos) (dListO c fld f) := by
  have hr : Room (j + 4) X.A := C.hr.mono hk
  obtain ⟨fi, fdI, mi, okI, bI⟩ := GI.ex
  obtain ⟨fn, fdN, psN, mn, okN, bN⟩ := GN.ex
  refine ⟨PE.weak (pe_callTy (call_listIt mi mn okI bI okN bN C.calm hr) hg hm boot_list (pa_cons he.run pa_nil hs) (by decide) (by decide) hs hpl) fun σ H Q hq => ?_⟩
  obtain ⟨Z, ρ, r, q⟩ := hq
  refine tV_bind (P := fun Z H o => PostO X.K (He.ga X.K) W Z H σ o Q) r (fun _ _ _ z => z) (fun z => z) q fun d v Z1 H1 fx ed g1 dx q => ?_
  have q2 := PostO.gr q g1
  cases ei : itsOf c fld d with
  | ok xs =>
    rw [ei] at q2
    have q3 : PostO X.K (He.ga X.K) W Z1 H1 σ (if xs.length < 1000000 then .ok (.lst true xs) else .bad) Q := q2
    obtain ⟨ns, ys, rfl, el⟩ := itsOf_inv ei
    obtain ⟨l, zs, at_, zl, dz⟩ := itAt_of g1.s dx el
    have hl := dz.length
    by_cases cc : xs.length < 1000000
    · rw [if_pos cc] at q3
      have q4 : PostV X.K (He.ga X.K) Z1 H1 (.lst true xs) Q := q3
      exact ⟨v, l, zs, rfl, at_, by omega, fun p hp => PostV.lst0 q4 g1.s dz p hp⟩
    · rw [if_neg cc] at q3
      exact q3.elim
  | ex c2 ns xs => exact (itsOf_ex ei).elim
  | bad => rw [ei] at q2; exact q2.elim
end
section
variable {P : Program} {w : World} {K : PySem.W.Frag} {mg : Str → Option Value} {base : Heap} {k : Nat} {c fld : Str} {fd : FuncData} {ps : List Str}
theorem ItK.of (h : (He.Fa.meth c "__iter__").ok K = true) (ok : ItFn P w K mg base k (He.fAd K (c, some "__iter__")) fd (He.ga K c) fld ∧ Binds K fd [("self" : Str)] []) : ItK P w K mg base k c fld := ⟨He.fAd K (c, some "__iter__"), fd, He.meth_ok h, ok.1, ok.2⟩
theorem LnK.of (h : (He.Fa.meth c "__len__").ok K = true) (ok : FnOk P w K mg base (L2.CX P w) k (He.fAd K (c, some "__len__")) fd ps (spLn (He.ga K c) fld K) ∧ Binds K fd ps []) : LnK P w K mg base k c fld := ⟨He.fAd K (c, some "__len__"), fd, ps, He.meth_ok h, ok.1, ok.2⟩
end
end DL
namespace Lw
open PySem hiding Env
open PySem.Spec PyProof.Rows L2 DL
noncomputable section
def topS (i : Nat) : Stmt := PySem.Challenge.pw_gapsittings_k67_board_shown.main.body.getD i (.Pass ⟨0, 0, 0, 0⟩)
abbrev FnP (K : PySem.W.Frag) (x : Str) (st : Stmt) (f : Addr) (fd : FuncData) : Prop := FunD K x x (defArgs st) (defBody st) (defScope st) [] [] f fd
def mS_Board_take : Stmt := (clsBody (topS 6)).getD 1 (.Pass ⟨0, 0, 0, 0⟩)
def mS_Board___iter__ : Stmt := (clsBody (topS 6)).getD 9 (.Pass ⟨0, 0, 0, 0⟩)
def mS_Board_listing : Stmt := (clsBody (topS 6)).getD 5 (.Pass ⟨0, 0, 0, 0⟩)
def mS_Board___len__ : Stmt := (clsBody (topS 6)).getD 7 (.Pass ⟨0, 0, 0, 0⟩)
def mS_Board_rows : Stmt := (clsBody (topS 6)).getD 2 (.Pass ⟨0, 0, 0, 0⟩)
def mS_Board___iadd__ : Stmt := (clsBody (topS 6)).getD 6 (.Pass ⟨0, 0, 0, 0⟩)
def mS_Board___init__ : Stmt := (clsBody (topS 6)).getD 0 (.Pass ⟨0, 0, 0, 0⟩)
def mS_Board___contains__ : Stmt := (clsBody (topS 6)).getD 8 (.Pass ⟨0, 0, 0, 0⟩)
def mS_Board_ended : Stmt := (clsBody (topS 6)).getD 3 (.Pass ⟨0, 0, 0, 0⟩)
def mS_StandsAlready___init__ : Stmt := (clsBody (topS 3)).getD 0 (.Pass ⟨0, 0, 0, 0⟩)
def mS_NotStanding___init__ : Stmt := (clsBody (topS 2)).getD 0 (.Pass ⟨0, 0, 0, 0⟩)
def hdef0 : DefY := ⟨("_law_row", none), "_law_row", "_law_row", defArgs (topS 9), defBody (topS 9), defScope (topS 9), [], [], none, none⟩
def hdef1 : DefY := ⟨("_law_big", none), "_law_big", "_law_big", defArgs (topS 10), defBody (topS 10), defScope (topS 10), [], [], none, none⟩
def hdef2 : DefY := ⟨("_law_value", none), "_law_value", "_law_value", defArgs (topS 12), defBody (topS 12), defScope (topS 12), [], [], none, none⟩
def hdef3 : DefY := ⟨("_law_standing_pool", none), "_law_standing_pool", "_law_standing_pool", defArgs (topS 13), defBody (topS 13), defScope (topS 13), [], [], none, none⟩
def hdef4 : DefY := ⟨("span_of", none), "span_of", "span_of", defArgs (topS 5), defBody (topS 5), defScope (topS 5), [], [], none, none⟩
def hdef5 : DefY := ⟨("Board", some "take"), "take", "Board.take", defArgs mS_Board_take, defBody mS_Board_take, defScope mS_Board_take, [], [], none, none⟩
def hdef6 : DefY := ⟨("_law_cell", none), "_law_cell", "_law_cell", defArgs (topS 8), defBody (topS 8), defScope (topS 8), [], [], none, none⟩
def hdef7 : DefY := ⟨("_law_count", none), "_law_count", "_law_count", defArgs (topS 11), defBody (topS 11), defScope (topS 11), [], [], none, none⟩
def hdef8 : DefY := ⟨("_law_lines", none), "_law_lines", "_law_lines", defArgs (topS 14), defBody (topS 14), defScope (topS 14), [], [], none, none⟩
def hdef9 : DefY := ⟨("Board", some "__iter__"), "__iter__", "Board.__iter__", defArgs mS_Board___iter__, defBody mS_Board___iter__, defScope mS_Board___iter__, [], [], none, none⟩
def hdef10 : DefY := ⟨("Board", some "listing"), "listing", "Board.listing", defArgs mS_Board_listing, defBody mS_Board_listing, defScope mS_Board_listing, [], [], none, none⟩
def hdef11 : DefY := ⟨("Board", some "__len__"), "__len__", "Board.__len__", defArgs mS_Board___len__, defBody mS_Board___len__, defScope mS_Board___len__, [], [], none, none⟩
def hdef12 : DefY := ⟨("Board", some "rows"), "rows", "Board.rows", defArgs mS_Board_rows, defBody mS_Board_rows, defScope mS_Board_rows, [], [], none, some "property"⟩
def hdef13 : DefY := ⟨("_law_shown", none), "_law_shown", "_law_shown", defArgs (topS 15), defBody (topS 15), defScope (topS 15), [], [], none, none⟩
def hdef14 : DefY := ⟨("Board", some "__iadd__"), "__iadd__", "Board.__iadd__", defArgs mS_Board___iadd__, defBody mS_Board___iadd__, defScope mS_Board___iadd__, [], [], none, none⟩
def hdef15 : DefY := ⟨("Board", some "__init__"), "__init__", "Board.__init__", defArgs mS_Board___init__, defBody mS_Board___init__, defScope mS_Board___init__, [], [], none, none⟩
def hdef16 : DefY := ⟨("Board", some "__contains__"), "__contains__", "Board.__contains__", defArgs mS_Board___contains__, defBody mS_Board___contains__, defScope mS_Board___contains__, [], [], none, none⟩
def hdef17 : DefY := ⟨("Board", some "ended"), "ended", "Board.ended", defArgs mS_Board_ended, defBody mS_Board_ended, defScope mS_Board_ended, [], [], none, some "property"⟩
def hdef18 : DefY := ⟨("law", none), "law", "law", defArgs (topS 16), defBody (topS 16), defScope (topS 16), [], [], none, none⟩
def hdef19 : DefY := ⟨("StandsAlready", some "__init__"), "__init__", "StandsAlready.__init__", defArgs mS_StandsAlready___init__, defBody mS_StandsAlready___init__, defScope mS_StandsAlready___init__, [], [], some ("StandsAlready", "/claim/cut.py"), none⟩
def hdef20 : DefY := ⟨("NotStanding", some "__init__"), "__init__", "NotStanding.__init__", defArgs mS_NotStanding___init__, defBody mS_NotStanding___init__, defScope mS_NotStanding___init__, [], [], some ("NotStanding", "/claim/cut.py"), none⟩
def fn : List DefY := [hdef0, hdef1, hdef2, hdef3, hdef4, hdef5, hdef6, hdef7, hdef8, hdef9, hdef10, hdef11, hdef12, hdef13, hdef14, hdef15, hdef16, hdef17, hdef18, hdef19, hdef20]
def fa1 : List DL.Chk := [chkF (.free "abs"), chkF (.free "range"), chkF (.free "int"), chkF (.free "tuple"), chkMk "Board" ["late", "_rows", "_ended", "_span"], chkF (.free "list"), chkNo "StandsAlready" "session", chkF (.free "super"), chkExc "StandsAlready", chkF (.glo "StandsAlready"), chkF (.meth "StandsAlready" "__init__"), chkNo "NotStanding" "session", chkExc "NotStanding", chkF (.glo "NotStanding"), chkF (.meth "NotStanding" "__init__"), chkF (.free "sorted"), chkF (.free "len"), chkF (.free "str"), chkF (.free "iter"), chkF (.meth "Board" "__iter__"), chkF (.meth "Board" "__len__")]
def fa2 : List DL.Chk := [chkF (.meth "Board" "listing"), chkSame "Board" "Board" "listing", chkF (.free "isinstance"), chkF (.free "all"), chkPr "Board" "rows", chkF (.meth "Board" "take"), chkF (.glo "Board"), chkF (.meth "Board" "__iadd__"), chkSelf "Board", chkF (.meth "Board" "__contains__"), chkPr "Board" "ended", chkF (.glo "_law_row"), chkF (.glo "_law_big"), chkF (.glo "_law_value"), chkF (.glo "_law_standing_pool"), chkF (.glo "span_of"), chkF (.glo "_law_cell"), chkF (.glo "_law_count"), chkF (.glo "_law_lines"), chkF (.glo "_law_shown"), chkF (.glo "law")]
def fa : List DL.Chk := fa1 ++ fa2
abbrev R : PySem.W.OpenRow := PySem.W.OpenLaw.row PySem.Challenge.rw_gapsittings_k67_board_shown
abbrev hk : PySem.W.Hook := hookY 6 fa fn
def ob (s : PySem.W.SharedT) : AlY := obsYG 6 fa fn (HandSHeadRun.getT s)
theorem ob_eq (s : PySem.W.SharedT) : ob s = hk.obs s.abs := obsYG_eq (HandSHeadRun.getT_eq s)
theorem runL (w : World) : DL.RunL R (PySem.W.view R.prog [16]) 12000 [("SessionError" : PySem.Str), ("NotStanding" : PySem.Str), ("StandsAlready" : PySem.Str), ("span_of" : PySem.Str), ("Board" : PySem.Str), ("_law_cell" : PySem.Str), ("_law_row" : PySem.Str), ("_law_big" : PySem.Str), ("_law_count" : PySem.Str), ("_law_value" : PySem.Str), ("_law_standing_pool" : PySem.Str), ("_law_lines" : PySem.Str), ("_law_shown" : PySem.Str)] w := by
  intro os
  kernel_rfl
theorem run1 (w : World) : DL.RunP R 12000 w (DL.obF 6 fa1) true := by
  intro os
  kernel_rfl
theorem run2 (w : World) : DL.RunP R 12000 w (DL.obF 6 fa2) true := by
  intro os
  kernel_rfl
theorem run3 (w : World) : DL.RunP R 12000 w (DL.obN 6 fn) (DL.valY fn) := by
  intro os
  kernel_rfl
theorem run (w : World) : HandSHeadRun.RunEq R (PySem.W.view R.prog [16]) hk ob 12000 [("SessionError" : PySem.Str), ("NotStanding" : PySem.Str), ("StandsAlready" : PySem.Str), ("span_of" : PySem.Str), ("Board" : PySem.Str), ("_law_cell" : PySem.Str), ("_law_row" : PySem.Str), ("_law_big" : PySem.Str), ("_law_count" : PySem.Str), ("_law_value" : PySem.Str), ("_law_standing_pool" : PySem.Str), ("_law_lines" : PySem.Str), ("_law_shown" : PySem.Str)] w := DL.run_join (runL w) (run1 w) (run2 w) (run3 w)
end
end Lw
namespace DL
open PySem hiding Env
open PySem.Spec PyProof.Rows L2
def g__law_cell : Env → Os := (sSeq (sIf (b2 ltD (dVar 1) (dN lenN (aCons (dVar 0) aNil))) (sRet (dN intN (aCons (d2 ixD (dVar 0) (dVar 1)) aNil))) sNil)
    (sRet (dC (.int 0))))
def F__law_cell : List D → Ou D := runF 2 g__law_cell
def b1__law_row : Env → Os := (sSeq (sApp 3 (d2 modD (dN intN (aCons (dVar 2) aNil)) (dC (.int 1000))))
    (sSet 2 (d2 fdivD (dVar 2) (dC (.int 1000)))))
def b2__law_row : Env → Os := (sSeq (sSet 6 (d2 modD (dN intN (aCons (d2 mulD (dVar 5) (d2 addD (d2 addD (dC (.int 48271)) (d2 mulD (d2 mulD (dC (.int 66)) (dVar 4)) (dVar 4))) (d2 mulD (dC (.int 14)) (dVar 4)))) aNil)) (dC (.int 2147483647))))
    (sSeq (sSet 6 (d2 modD (dN intN (aCons (d2 addD (d2 mulD (dVar 6) (dVar 6)) (d2 mulD (dVar 6) (d2 addD (dVar 4) (dC (.int 1))))) aNil)) (dC (.int 2147483629))))
    (sApp 3 (d2 modD (dN intN (aCons (dVar 6) aNil)) (dC (.int 1000))))))
def g__law_row : Env → Os := (sSeq (sSet 2 (dN absN (aCons (dVar 0) aNil)))
    (sSeq (sSet 3 (dLst aNil))
    (sSeq (sIf (b2 geD (dVar 2) (d2 powD (dC (.int 10)) (dC (.int 18)))) (sSeq (sFor (DL.iRng1 (aCons (dVar 1) aNil)) (tgN 4) b1__law_row)
    (sRetV 3)) sNil)
    (sSeq (sSet 5 (d2 addD (d2 mulD (dC (.int 2)) (dVar 2)) (dN intN (aCons (dBl (b2 ltD (dVar 0) (dC (.int 0)))) aNil))))
    (sSeq (sFor (DL.iRng1 (aCons (dVar 1) aNil)) (tgN 4) b2__law_row)
    (sRetV 3))))))
def F__law_row : List D → Ou D := runF 7 g__law_row
def g__law_big : Env → Os := (sSeq (sSet 1 (d2 modD (dN intN (aCons (dN absN (aCons (dVar 0) aNil)) aNil)) (d2 powD (dC (.int 10)) (dC (.int 20)))))
    (sSeq (sIf (b2 ltD (dVar 0) (dC (.int 0))) (sRet (d1 negD (dVar 1))) sNil)
    (sRetV 1)))
def F__law_big : List D → Ou D := runF 2 g__law_big
def g__law_gap : Env → Os := (sRet (dFz (d2 ixD (dLst (aCons (dC (.int 1)) (aCons (dC (.int 2)) (aCons (dC (.int 3)) (aCons (dC (.int 5)) (aCons (dC (.int 4)) (aCons (d2 powD (dC (.int 10)) (dC (.int 9))) (aCons (dC (.int 7)) (aCons (d2 addD (d2 powD (dC (.int 10)) (dC (.int 15))) (dC (.int 7))) aNil))))))))) (d2 modD (dN intN (aCons (dVar 0) aNil)) (dC (.int 8))))))
def F__law_gap : List D → Ou D := runF 1 g__law_gap
def g__law_is_integer : Env → Os := (sRet (dAnd (dIsi .int (dVar 0)) (dNot (dIsi .bool (dVar 0)))))
def F__law_is_integer : List D → Ou D := runF 1 g__law_is_integer
def g_hops : Env → Os := (sRet (d2 fdivD (d2 subD (d2 addD (d2 subD (dVar 1) (dVar 0)) (dVar 2)) (dC (.int 1))) (dVar 2)))
def F_hops : List D → Ou D := runF 3 g_hops
theorem cell_ok (ns : List Int) (i : Nat) : F__law_cell [.scr ns, .int i] = .ok (.int (at0 ns i)) := by
  by_cases h : i < ns.length
  · have h' : (i : Int) < ns.length := by omega
    simp [F__law_cell, g__law_cell, runF, h', x_ixS (Int.natCast_nonneg i) h']
  · have h' : ¬ (i : Int) < ns.length := by omega
    simp [F__law_cell, g__law_cell, runF, h', at0, List.getD, List.getElem?_eq_none (show ns.length ≤ i by omega)]
theorem big_ok (i : Int) : ∃ j : Int, F__law_big [.int i] = .ok (.int j) ∧ -100000000000000000000 < j ∧ j < 100000000000000000000 := by
  have h1 := Int.emod_nonneg (if i < 0 then -i else i) (show (100000000000000000000 : Int) ≠ 0 by decide)
  have h2 := Int.emod_lt_of_pos (if i < 0 then -i else i) (show (0 : Int) < 100000000000000000000 by decide)
  by_cases h : i < 0
  · refine ⟨-((if i < 0 then -i else i) % 100000000000000000000), ?_, by omega, by omega⟩
    simp [F__law_big, g__law_big, runF, x_mod, h]
  · refine ⟨((if i < 0 then -i else i) % 100000000000000000000), ?_, by omega, by omega⟩
    simp [F__law_big, g__law_big, runF, x_mod, h]
def Rw (rs : List Int) (n : Nat) : Prop := rs.length = n ∧ ∀ r ∈ rs, 0 ≤ r ∧ r < 1000
theorem Rw.snoc {rs : List Int} {n : Nat} (h : Rw rs n) (i : Int) : Rw (rs ++ [i % 1000]) (n + 1) := by
  refine ⟨by simp [h.1], fun r hr => ?_⟩
  rcases List.mem_append.mp hr with z | z
  · exact h.2 r z
  · rw [List.mem_singleton.mp z]
    exact ⟨Int.emod_nonneg _ (by decide), Int.emod_lt_of_pos _ (by decide)⟩
theorem Rw.at {rs : List Int} {n : Nat} (h : Rw rs n) {i : Nat} (hi : i < n) : 0 ≤ at0 rs i ∧ at0 rs i < 1000 := by
  have e : i < rs.length := by rw [h.1]; exact hi
  have : at0 rs i = rs[i] := by simp [at0, List.getD, List.getElem?_eq_getElem e]
  rw [this]
  exact h.2 _ (List.getElem_mem e)
theorem lt_lim {n : Nat} (h : n < 1000000) : n < LIM := h
theorem row_big (c : Int) (n : Nat) (s0 : Int) (hn : n ≤ 1000) : ∃ (rs : List Int) (s : Int) (o : Option D), loopS (tgN 4) b1__law_row (rng0 n) [some (.int c), some (.int n), some (.int s0), some (.lst true (I [])), none, none, none] = .nx [some (.int c), some (.int n), some (.int s), some (.lst true (I rs)), o, none, none] ∧ Rw rs n := by
  obtain ⟨ρ', e, rs, s, o, hρ, hw⟩ := loop_inv0 (tg := tgN 4) (body := b1__law_row) (fun j ρ => ∃ (rs : List Int) (s : Int) (o : Option D), ρ = [some (.int c), some (.int n), some (.int s), some (.lst true (I rs)), o, none, none] ∧ Rw rs j) (rng0 n)
      [some (.int c), some (.int n), some (.int s0), some (.lst true (I [])), none, none, none] ⟨[], _, _, rfl, rfl, fun _ z => nomatch z⟩ fun j d ρ hd ⟨rs, s, o, hρ, hw⟩ => by
        obtain ⟨rfl, hj⟩ := rng0_get hd
        subst hρ
        refine ⟨_, _, rfl, .inl ?_, rs ++ [s % 1000], s / 1000, some (.int j), rfl, hw.snoc s⟩
        have hl : rs.length < LIM := lt_lim (by rw [hw.1]; omega)
        simp [b1__law_row, x_mod, x_fdiv, hl, I]
  rw [rng0_len] at hw
  exact ⟨rs, s, o, hρ ▸ e, hw⟩
theorem row_small (c : Int) (n : Nat) (z s : Int) (hn : n ≤ 1000) (bs : B64 s) : ∃ (rs : List Int) (m o : Option D), loopS (tgN 4) b2__law_row (rng0 n) [some (.int c), some (.int n), some (.int z), some (.lst true (I [])), none, some (.int s), none] = .nx [some (.int c), some (.int n), some (.int z), some (.lst true (I rs)), o, some (.int s), m] ∧ Rw rs n := by
  obtain ⟨ρ', e, rs, m, o, hρ, hw⟩ := loop_inv0 (tg := tgN 4) (body := b2__law_row) (fun j ρ => ∃ (rs : List Int) (m o : Option D), ρ = [some (.int c), some (.int n), some (.int z), some (.lst true (I rs)), o, some (.int s), m] ∧ Rw rs j) (rng0 n)
      [some (.int c), some (.int n), some (.int z), some (.lst true (I [])), none, some (.int s), none] ⟨[], _, _, rfl, rfl, fun _ z => nomatch z⟩ fun j d ρ hd ⟨rs, m, o, hρ, hw⟩ => by
        obtain ⟨rfl, hj⟩ := rng0_get hd
        subst hρ
        have hl : rs.length < LIM := lt_lim (by rw [hw.1]; omega)
        have bj : B64 (j : Int) := ⟨by omega, by omega⟩
        have b66 : B64 66 := ⟨by decide, by decide⟩
        have b14 : B64 14 := ⟨by decide, by decide⟩
        have hm : ∀ x : Int, B64 (x % 2147483647) := fun x => by
          have h1 := Int.emod_nonneg x (show (2147483647 : Int) ≠ 0 by decide)
          have h2 := Int.emod_lt_of_pos x (show (0 : Int) < 2147483647 by decide)
          exact ⟨by omega, by omega⟩
        obtain ⟨a, ha⟩ : ∃ a, s * (48271 + 66 * (j : Int) * j + 14 * j) % 2147483647 = a := ⟨_, rfl⟩
        have ba : B64 a := ha ▸ hm _
        obtain ⟨b, hb⟩ : ∃ b, (a * a + a * ((j : Int) + 1)) % 2147483629 = b := ⟨_, rfl⟩
        refine ⟨_, _, rfl, .inl ?_, rs ++ [b % 1000], some (.int b), some (.int j), rfl, hw.snoc _⟩
        simp [b2__law_row, x_mod, x_fdiv, hl, I, x_mulL, x_mulR bj, b66, b14, bs, ha, ba, hb]
  rw [rng0_len] at hw
  exact ⟨rs, m, o, hρ ▸ e, hw⟩
theorem row_ok (c : Int) (n : Nat) (hn : n ≤ 1000) : ∃ rs : List Int, F__law_row [.int c, .int n] = .ok (.lst true (I rs)) ∧ Rw rs n := by
  have hr : rng1Of [.int (n : Int)] = some (rng0 n) := x_rng1 (by omega) (by omega)
  have hi : I [] = [] := rfl
  have hz : 0 ≤ LIM := Nat.zero_le _
  by_cases h : (1000000000000000000 : Int) ≤ (if c < 0 then -c else c)
  · obtain ⟨rs, s, o, e, hw⟩ := row_big c n (if c < 0 then -c else c) hn
    rw [hi] at e
    refine ⟨rs, ?_, hw⟩
    simp [F__law_row, g__law_row, runF, h, hr, e, hz]
  · obtain ⟨rs, s, o, e, hw⟩ := row_small c n (if c < 0 then -c else c) (2 * (if c < 0 then -c else c) + (if c < 0 then 1 else 0)) hn ⟨by omega, by omega⟩
    rw [hi] at e
    refine ⟨rs, ?_, hw⟩
    simp [F__law_row, g__law_row, runF, h, hr, hz, x_mulL (show B64 2 from ⟨by decide, by decide⟩), e]
theorem cell_int (ns : List Int) (i : Int) (h : 0 ≤ i) : F__law_cell [.scr ns, .int i] = .ok (.int (at0 ns i.toNat)) := by
  obtain ⟨k, rfl⟩ : ∃ k : Nat, i = k := ⟨i.toNat, by omega⟩
  rw [cell_ok]
  rfl
theorem row_int (c n : Int) (h0 : 0 ≤ n) (hn : n ≤ 1000) : ∃ rs : List Int, F__law_row [.int c, .int n] = .ok (.lst true (I rs)) ∧ Rw rs n.toNat := by
  have e : n = (n.toNat : Int) := by omega
  rw [e]
  exact row_ok c n.toNat (by omega)
end DL
namespace DL
open PySem hiding Env
open PySem.Spec PyProof.Rows L2
def g__law_count : Env → Os := (sSeq (sIf (b2 ltD (dVar 0) (dC (.int 300))) (sRet (d2 fdivD (dVar 0) (dC (.int 100)))) sNil)
    (sRet (d2 addD (dC (.int 2)) (d2 modD (dN intN (aCons (dVar 0) aNil)) (d2 subD (dVar 1) (dC (.int 1)))))))
def F__law_count : List D → Ou D := runF 2 g__law_count
def g__law_value : Env → Os := (sRet (dFz (d2 ixD (dLst (aCons (dC (.int 0)) (aCons (dC (.int 1)) (aCons (dC (.int 2)) (aCons (dC (.int 3)) (aCons (d1 negD (dC (.int 1))) (aCons (dC (.int 1)) (aCons (dC (.int 2)) (aCons (dFz (dVar 1)) (aCons (d1 negD (dVar 1)) (aCons (d2 addD (dVar 2) (dVar 1)) (aCons (d2 subD (dVar 2) (dVar 1)) aNil)))))))))))) (d2 modD (dN intN (aCons (dVar 0) aNil)) (dC (.int 11))))))
def F__law_value : List D → Ou D := runF 3 g__law_value
def b1__law_events : Env → Os := (sSeq (sSet 8 (d2 addD (d2 addD (dVar 3) (d2 fdivD (d2 mulD (d2 modD (dN intN (aCons (d2 ixD (dVar 0) (d2 mulD (dC (.int 4)) (dVar 7))) aNil)) (dVar 4)) (dVar 2)) (dC (.int 2)))) (d2 ixD (dLst (aCons (dC (.int 0)) (aCons (dC (.int 0)) (aCons (dC (.int 0)) (aCons (dC (.int 1)) (aCons (d1 negD (dC (.int 1))) aNil)))))) (d2 modD (dN intN (aCons (d2 ixD (dVar 0) (d2 addD (d2 mulD (dC (.int 4)) (dVar 7)) (dC (.int 1)))) aNil)) (dC (.int 5))))))
    (sApp 6 (dTup (aCons (dFz (dVar 8)) (aCons (dCall F__law_value (aCons (d2 ixD (dVar 0) (d2 addD (d2 mulD (dC (.int 4)) (dVar 7)) (dC (.int 2)))) (aCons (d2 ixD (dVar 0) (d2 addD (d2 mulD (dC (.int 4)) (dVar 7)) (dC (.int 3)))) (aCons (dVar 5) aNil)))) aNil)))))
def g__law_events : Env → Os := (sSeq (sSet 6 (dLst aNil))
    (sSeq (sFor (DL.iRng1 (aCons (dVar 1) aNil)) (tgN 7) b1__law_events)
    (sRetV 6)))
def F__law_events : List D → Ou D := runF 9 g__law_events
def g__law_is_event : Env → Os := (sRet (dAnd (dIsi .tuple (dVar 0)) (dAnd (dBl (b2 eqD (dN lenN (aCons (dVar 0) aNil)) (dC (.int 2)))) (dAnd (dCall F__law_is_integer (aCons (d2 ixD (dVar 0) (dC (.int 0))) aNil)) (dCall F__law_is_integer (aCons (d2 ixD (dVar 0) (dC (.int 1))) aNil))))))
def F__law_is_event : List D → Ou D := runF 1 g__law_is_event
def g_ordered : Env → Os := (sRet (dN sortN (aCons (dVar 0) aNil)))
def F_ordered : List D → Ou D := runF 1 g_ordered
theorem ix_lit {o : Bool} (ns : List Int) {i : Int} (h0 : 0 ≤ i) (h : i < ns.length) : ∃ v, ixD (.lst o (I ns)) (.int i) = some (.int v) ∧ v ∈ ns := by
  refine ⟨_, x_ixI h0 h, ?_⟩
  have e : i.toNat < ns.length := by omega
  have : at0 ns i.toNat = ns[i.toNat] := by simp [at0, List.getD, List.getElem?_eq_getElem e]
  rw [this]
  exact List.getElem_mem e
theorem emod_lt' (x : Int) {m : Int} (h : 0 < m) : 0 ≤ x % m ∧ x % m < m := ⟨Int.emod_nonneg _ (by omega), Int.emod_lt_of_pos _ h⟩
theorem count_ok (n m : Int) (h : 2 ≤ m) (h0 : 0 ≤ n) : ∃ c : Int, F__law_count [.int n, .int m] = .ok (.int c) ∧ 0 ≤ c ∧ c ≤ max 2 m := by
  by_cases c : n < 300
  · refine ⟨n / 100, ?_, Int.ediv_nonneg h0 (by decide), ?_⟩
    · simp [F__law_count, g__law_count, runF, c, x_fdiv]
    · omega
  · have q := emod_lt' n (show 0 < m - 1 by omega)
    refine ⟨2 + n % (m - 1), ?_, by omega, by omega⟩
    simp [F__law_count, g__law_count, runF, c, x_mod (show 0 < m - 1 by omega)]
theorem value_ok (n o b : Int) : ∃ v : Int, F__law_value [.int n, .int o, .int b] = .ok (.int v) ∧ v ∈ [0, 1, 2, 3, -1, 1, 2, o, -o, b + o, b - o] := by
  have q := emod_lt' n (show (0 : Int) < 11 by decide)
  obtain ⟨v, hv, hm⟩ := ix_lit (o := true) [0, 1, 2, 3, -1, 1, 2, o, -o, b + o, b - o] (i := n % 11) q.1 (by simp; omega)
  refine ⟨v, ?_, hm⟩
  simp only [I, List.map] at hv
  simp [F__law_value, g__law_value, runF, x_mod, hv, le_lim']
def P2 (p : Int × Int) : D := .tup [.int p.1, .int p.2]
abbrev E2 (ps : List (Int × Int)) : List D := Ds ps
@[simp] theorem cln_lstT (xs : List D) : (D.lst true xs).cln = D.clns xs := (rfl)
@[simp] theorem cln_tup (xs : List D) : (D.tup xs).cln = D.clns xs := (rfl)
@[simp] theorem I_clns (ps : List Int) : D.clns (I ps) = true := Ds_clns ps
def leP (p q : Int × Int) : Bool := decide (p.1 < q.1 ∨ (p.1 = q.1 ∧ p.2 ≤ q.2))
def srt (ps : List (Int × Int)) : List (Int × Int) := ps.mergeSort leP
end DL
namespace DL
open PySem hiding Env
open PySem.Spec PyProof.Rows L2
theorem strOk_lit (s : String) : PyData.strOk (Str.ofString s) = true := by
  rw [Str.ofString_eq_toList]
  unfold PyData.strOk
  rw [← Array.all_toList, List.toList_toArray, List.all_eq_true]
  intro c hc
  obtain ⟨k, _, rfl⟩ := List.mem_map.mp hc
  have := k.valid
  refine decide_eq_true ?_
  have h2 : k.val.toNat < 1114112 := by
    rcases this with h | h
    · exact Nat.lt_trans h (by decide)
    · exact h.2
  exact h2
theorem ofString_inj {a b : String} : (Str.ofString a = Str.ofString b) ↔ a = b := by
  constructor
  · intro h
    rw [Str.ofString_eq_toList, Str.ofString_eq_toList] at h
    have h1 : (a.toList.map Char.toNat).toArray = (b.toList.map Char.toNat).toArray := congrArg Str.cps h
    have h2 : a.toList.map Char.toNat = b.toList.map Char.toNat := by
      have := congrArg Array.toList h1
      simpa using this
    have h3 : a.toList = b.toList := by
      have inj : ∀ (l m : List Char), l.map Char.toNat = m.map Char.toNat → l = m := by
        intro l
        induction l with
        | nil => intro m h; cases m with
          | nil => rfl
          | cons _ _ => cases h
        | cons x l ih => intro m h; cases m with
          | nil => cases h
          | cons y m =>
            have h' := List.cons.inj h
            have e1 : x = y := by
              have : x.val.toNat = y.val.toNat := h'.1
              exact Char.ext (UInt32.toNat_inj.mp this)
            rw [e1, ih m h'.2]
      exact inj _ _ h2
    exact String.toList_inj.mp h3
  · intro h; rw [h]
theorem eqD_S {a b : Str} (ha : PyData.strOk a = true) (hb : PyData.strOk b = true) : eqD (.str a) (.str b) = some (decide (a = b)) := by
  refine eqD_of (by simp [D.okd, ha]) (by simp [D.okd, hb]) ?_
  simp [D.py, PyData.eqv]
  by_cases h : a = b <;> simp [h]
theorem neD_S {a b : Str} (ha : PyData.strOk a = true) (hb : PyData.strOk b = true) : neD (.str a) (.str b) = some (!decide (a = b)) := by
  refine neD_of (by simp [D.okd, ha]) (by simp [D.okd, hb]) ?_
  simp [D.py, PyData.eqv]
  by_cases h : a = b <;> simp [h]
@[simp] theorem eqD_L (a b : String) : eqD (.str (Str.ofString a)) (.str (Str.ofString b)) = some (decide (a = b)) := by
  rw [eqD_S (strOk_lit a) (strOk_lit b)]
  simp [ofString_inj]
@[simp] theorem neD_L (a b : String) : neD (.str (Str.ofString a)) (.str (Str.ofString b)) = some (!decide (a = b)) := by
  rw [neD_S (strOk_lit a) (strOk_lit b)]
  simp [ofString_inj]
section
variable (ρ : Env) (f g : Env → Ou D) (fs : Env → Ou (List D)) (i : Nat)
@[simp] theorem x_dNew (c : Str) : dNew c ρ = .ok (.ins c [] []) := (rfl)
@[simp] theorem x_dCon (x : Str) (t : KTab) : dCon x t f ρ = (f ρ >>= fun d => ofO (conD x t d)) := (rfl)
@[simp] theorem x_dMeth (m : Str) (tb : Str → Option (List D → Ou D)) : dMeth m tb f fs ρ = (f ρ >>= fun d => methF m tb d >>= fun F => fs ρ >>= F) := (rfl)
@[simp] theorem x_sRaise (c : Str) (ns : List Str) : sRaise c ns fs ρ = ofU (fs ρ) ρ fun ds => if D.fzs ds && decide (ds.length = ns.length) && decide (ns.length ≤ 900) then .ex c ns.reverse ds.reverse ρ else .bad := (rfl)
@[simp] theorem x_sRaise0 (c : Str) : sRaise0 c ρ = .ex c [] [] ρ := (rfl)
end
def tryK (hit : Str → Option Bool) (su : Str → List Str → List D → Env → Os) (r : Os) : Os := match r with
  | .ex c ns xs ρ' => match hit c with
    | some true => su c ns xs ρ'
    | some false => .ex c ns xs ρ'
    | none => .bad
  | r => r
@[simp] theorem x_sTry (hit : Str → Option Bool) (b : Env → Os) (su : Str → List Str → List D → Env → Os) (ρ : Env) : sTry hit b su ρ = tryK hit su (b ρ) := (rfl)
@[simp] theorem tryK_nx (hit : Str → Option Bool) (su : Str → List Str → List D → Env → Os) (ρ : Env) : tryK hit su (.nx ρ) = .nx ρ := (rfl)
@[simp] theorem tryK_rt (hit : Str → Option Bool) (su : Str → List Str → List D → Env → Os) (d : D) : tryK hit su (.rt d) = .rt d := (rfl)
@[simp] theorem x_sAs (i : Nat) (su : List Str → List D → Env → Os) (c : Str) (ns : List Str) (xs : List D) (ρ : Env) : sAs i su c ns xs ρ = if i < ρ.length then undo i (su ns xs (ρ.set i none)) else .bad := (rfl)
@[simp] theorem undo_nx (i : Nat) (ρ : Env) : undo i (.nx ρ) = .nx (ρ.set i none) := (rfl)
@[simp] theorem undo_rt (i : Nat) (d : D) : undo i (.rt d) = .rt d := (rfl)
@[simp] theorem x_fldOf1 (n f : String) (x : D) (ρ : Env) : fldOf [Str.ofString n] [x] (Str.ofString f) ρ = if f = n then .ok x else .bad := by
  unfold fldOf
  rw [List.zip_cons_cons, List.lookup_cons]
  by_cases h : f = n
  · subst h
    simp
  · have : (Str.ofString f == Str.ofString n) = false := by simp [ofString_inj, h]
    simp [this, h]
@[simp] theorem fz_ins (c : Str) (ns : List Str) (xs : List D) : (D.ins c ns xs).frz = .ins c ns xs := (rfl)
@[simp] theorem fzz_ins (c : Str) (ns : List Str) (xs : List D) : (D.ins c ns xs).fz = true := (rfl)
@[simp] theorem cln_ins (c : Str) (ns : List Str) (xs : List D) : (D.ins c ns xs).cln = (!mutN ns && D.clns xs) := by rw [D.cln]
@[simp] theorem mutN_0 : mutN [] = false := (rfl)
@[simp] theorem mutN_line : mutN ["kind", "gap", "watermark", "sessions"] = false := by decide +kernel
@[simp] theorem mutN_table : mutN ["size", "_rows"] = false := by decide +kernel
@[simp] theorem x_imul {i j : Int} (h : B64 j) : imulD (.int i) (.int j) = some (.int (i * j)) := by
  have m : mulOk i j = true := decide_eq_true (.inr h)
  show (if mulOk i j then some (D.int (i * j)) else none) = _
  rw [if_pos m]
@[simp] theorem x_isN (d : D) : isND d .non = some (isN d) := (rfl)
@[simp] theorem x_notN (d : D) : notND d .non = some (!isN d) := (rfl)
@[simp] theorem isN_non : isN .non = true := (rfl)
@[simp] theorem isN_int (i : Int) : isN (.int i) = false := (rfl)
@[simp] theorem isN_tup (xs : List D) : isN (.tup xs) = false := (rfl)
@[simp] theorem isN_str (x : Str) : isN (.str x) = false := (rfl)
@[simp] theorem isN_lst (o : Bool) (xs : List D) : isN (.lst o xs) = false := (rfl)
@[simp] theorem seqOf_lst (o : Bool) (xs : List D) : seqOf (.lst o xs) = .ok (D.frzs xs) := (rfl)
@[simp] theorem seqOf_tup (xs : List D) : seqOf (.tup xs) = .ok (D.frzs xs) := (rfl)
end DL
namespace DL
open PySem hiding Env
open PySem.Spec PyProof.Rows L2
@[simp] theorem x_dSup (al : List Str) (F : List D → Ou D) (t : Env → Ou (List D)) (ρ : Env) : dSup al F t ρ = (supSelf al ρ >>= fun d => t ρ >>= fun ds => okOnly (callR F (d :: ds))) := (rfl)
@[simp] theorem x_okOnly (d : D) : okOnly (.ok d) = .ok d := (rfl)
theorem x_methF {m : Str} {t : MTab} {c : Str} {ns : List Str} {xs : List D} {F : List D → Ou D} (h : ns.contains m = false) (e : t.lookup c = some F) : methF m (mtF t) (.ins c ns xs) = .ok fun ds => callR F (.ins c ns xs :: ds) := by
  show (if ns.contains m = true then _ else _) = _
  rw [if_neg (by rw [h]; exact Bool.false_ne_true)]
  show (match mtF t c with | some F => _ | none => _) = _
  rw [show mtF t c = some F from e]
end DL
namespace DL
open PySem hiding Env
open PySem.Spec PyProof.Rows L2
@[simp] theorem x_dCallD (F : List D → Ou D) (ds : List D) (fs : Env → Ou (List D)) (ρ : Env) : dCallD F ds fs ρ = (fs ρ >>= fun as => callR F (as ++ ds)) := (rfl)
@[simp] theorem x_mn (i j : Int) : mnN [.int i, .int j] = some (.int (min i j)) := by
  show some (D.int (if j < i then j else i)) = _
  congr 2
  omega
@[simp] theorem x_mx (i j : Int) : mxN [.int i, .int j] = some (.int (max i j)) := by
  show some (D.int (if j > i then j else i)) = _
  congr 2
  omega
end DL
namespace DL
open PySem hiding Env
open PySem.Spec PyProof.Rows L2
open SX (S)
def A7 (l : List Nat) : Prop := ∀ c ∈ l, c < 128
instance (l : List Nat) : Decidable (A7 l) := inferInstanceAs (Decidable (∀ c ∈ l, c < 128))
theorem A7.app {a b : List Nat} (ha : A7 a) (hb : A7 b) : A7 (a ++ b) := fun c h => (List.mem_append.mp h).elim (ha c) (hb c)
theorem A7.nil : A7 [] := fun _ h => nomatch h
theorem A7.take {a : List Nat} (h : A7 a) (k : Nat) : A7 (a.take k) := fun c m => h c (List.mem_of_mem_take m)
theorem A7.drop {a : List Nat} (h : A7 a) (k : Nat) : A7 (a.drop k) := fun c m => h c (List.mem_of_mem_drop m)
theorem S_ok {l : List Nat} (h : A7 l) : PyData.strOk (S l) = true := by
  unfold PyData.strOk
  rw [← Array.all_toList, List.all_eq_true]
  intro c hc
  exact decide_eq_true (by have := h c hc; omega)
theorem addS {a b : List Nat} (h : a.length + b.length ≤ 1000000) : addD (.str (S a)) (.str (S b)) = some (.str (S (a ++ b))) := by
  show (if (S a).length + (S b).length ≤ LIM then some (D.str (S a ++ S b)) else none) = _
  rw [if_pos (by rw [SX.S_len, SX.S_len]; exact h), SX.S_cat]
@[simp] theorem x_iAny (f : Env → Ou D) (ρ : Env) : iAny f ρ = (f ρ >>= anyOf) := (rfl)
@[simp] theorem x_iAnyB (f : Env → Ou D) (ρ : Env) : iAnyB f ρ = (f ρ >>= anyOfB) := (rfl)
@[simp] theorem x_dM1 (op : D → D → Option D) (f g : Env → Ou D) (ρ : Env) : dM1 op f g ρ = (f ρ >>= fun x => if isStrD x then (g ρ >>= fun y => ofO (op x y)) else .bad) := (rfl)
@[simp] theorem x_isStrD (x : Str) : isStrD (.str x) = true := (rfl)
def digL : List Nat := [48, 49, 50, 51, 52, 53, 54, 55, 56, 57]
def intL (n : Int) : List Nat := if n < 0 then 45 :: TL.numL n.natAbs else TL.numL n.natAbs
theorem str_int (n : Int) : (toString n : Str) = S (intL n) := by
  refine TL.ext_tl ?_
  cases n with
  | ofNat m =>
    refine (TL.tl_num m).trans ?_
    unfold intL
    rw [if_neg (by exact Int.not_lt.mpr (Int.natCast_nonneg m))]
    rfl
  | negSucc m =>
    unfold intL
    rw [if_pos (Int.negSucc_lt_zero m)]
    show (Str.ofString (toString (Int.negSucc m))).cps.toList = 45 :: TL.numL (m + 1)
    rw [PyProof.Rows.signs_ofString]
    show ("-" ++ Nat.repr (m + 1)).toList.map Char.toNat = _
    rw [String.toList_append, List.map_append, Nat.toList_repr]
    rfl
theorem intL_len {n : Int} {k : Nat} (hk : 0 < k) (h : n.natAbs < 10 ^ k) : (intL n).length ≤ k + 1 := by
  unfold intL
  have := TL.numL_len hk h
  split
  · simp; exact this
  · omega
theorem numL_A7 (n : Nat) : A7 (TL.numL n) := fun c h => by have := TL.numL_digits n c h; omega
theorem intL_A7 (n : Int) : A7 (intL n) := by
  unfold intL
  split
  · intro c h
    rcases List.mem_cons.mp h with e | h
    · omega
    · exact numL_A7 _ c h
  · exact numL_A7 _
theorem strN_S {n : Int} (h : strI n = true) : strN [.int n] = some (.str (S (intL n))) := by
  show (if strI n then some (D.str (toString n)) else none) = _
  rw [if_pos h, str_int]
def digB (l : List Nat) : Bool := l.all fun c => decide (48 ≤ c) && decide (c ≤ 57)
def natB (l : List Nat) : Bool := digB l && (decide (l = [48]) || (decide (l ≠ []) && decide (l.head? ≠ some 48)))
def dvl (l : List Nat) : Nat := NumText.digitsVal l
def rn (l : List Nat) : Option Int :=
  if l.take 1 = [45] then (if l.drop 1 = [48] then none else if natB (l.drop 1) then some (-((dvl (l.drop 1) : Nat) : Int)) else none)
  else if natB l then some ((dvl l : Nat) : Int) else none
end DL
namespace DL
open PySem hiding Env
open PySem.Spec PyProof.Rows L2
def b1_cut_runs : Env → Os := (sIf (bAnd (bTru (dVar 2)) (b2 leD (d2 subD (d2 ixD (dVar 3) (dC (.int 0))) (d2 ixD (d2 ixD (d2 ixD (dVar 2) (d1 negD (dC (.int 1)))) (d1 negD (dC (.int 1)))) (dC (.int 0)))) (dVar 1))) (sAppAt 2 (d1 negD (dC (.int 1))) (dFz (dVar 3))) (sApp 2 (dLst (aCons (dFz (dVar 3)) aNil))))
def g_cut_runs : Env → Os := (sSeq (sSet 2 (dLst aNil))
    (sSeq (sFor (iSeq (dCall F_ordered (aCons (dVar 0) aNil))) (tgN 3) b1_cut_runs)
    (sRetV 2)))
def F_cut_runs : List D → Ou D := runF 4 g_cut_runs
theorem comp_mapE {α : Type} {j : Nat} {te : Env → Ou D} {ρ : Env} (hj : j < ρ.length) (enc h : α → D) : ∀ (xs : List α) (acc : List D), (∀ x ∈ xs, te (ρ.set j (some (enc x))) = .ok (h x)) → acc.length + xs.length ≤ 1000000 → compG j bYes te ρ (xs.map enc) acc = some (acc ++ xs.map h)
  | [], acc, _, _ => by simp [compG]
  | d :: ds, acc, k, l => by
    have e : te (ρ.set j (some (enc d))) = .ok (h d) := k d (List.mem_cons_self ..)
    have l' : acc.length + ds.length + 1 ≤ 1000000 := by simp only [List.length_cons] at l; omega
    rw [List.map_cons]
    unfold compG
    simp only [if_pos hj, x_bYes, e, if_pos (lt_lim' (show acc.length < 1000000 by omega))]
    rw [comp_mapE hj enc h ds (acc ++ [h d]) (fun x m => k x (List.mem_cons_of_mem _ m)) (by simp only [List.length_append, List.length_singleton]; omega)]
    simp
theorem comp_filterE {α : Type} {j : Nat} {tt : Env → Ou Bool} {te : Env → Ou D} {ρ : Env} (hj : j < ρ.length) (enc : α → D) (p : α → Bool) (h : α → D) : ∀ (xs : List α) (acc : List D), (∀ d ∈ xs, tt (ρ.set j (some (enc d))) = .ok (p d)) → (∀ d ∈ xs, p d = true → te (ρ.set j (some (enc d))) = .ok (h d)) → acc.length + xs.length ≤ 1000000 →
    compG j tt te ρ (xs.map enc) acc = some (acc ++ (xs.filter p).map h)
  | [], acc, _, _, _ => by simp [compG]
  | d :: ds, acc, kp, k, l => by
    have e1 := kp d (List.mem_cons_self ..)
    have l' : acc.length + ds.length + 1 ≤ 1000000 := by simp only [List.length_cons] at l; omega
    rw [List.map_cons]
    unfold compG
    cases c : p d with
    | true =>
      have e := k d (List.mem_cons_self ..) c
      simp only [if_pos hj, e1, c, e, if_pos (lt_lim' (show acc.length < 1000000 by omega))]
      rw [comp_filterE hj enc p h ds (acc ++ [h d]) (fun x m => kp x (List.mem_cons_of_mem _ m)) (fun x m => k x (List.mem_cons_of_mem _ m)) (by simp only [List.length_append, List.length_singleton]; omega)]
      simp [c]
    | false =>
      simp only [if_pos hj, e1, c]
      rw [comp_filterE hj enc p h ds acc (fun x m => kp x (List.mem_cons_of_mem _ m)) (fun x m => k x (List.mem_cons_of_mem _ m)) (by omega)]
      simp [c]
@[simp] theorem tru_lst (o : Bool) (xs : List D) : tru (.lst o xs) = some (!xs.isEmpty) := by cases xs <;> rfl
def RD (o : Bool) (R : List (List (Int × Int))) : List D := R.map fun r => .lst o (E2 r)
@[simp] theorem RD_len (o : Bool) (R : List (List (Int × Int))) : (RD o R).length = R.length := by simp [RD]
@[simp] theorem RD_frzs (o : Bool) : ∀ R : List (List (Int × Int)), D.frzs (RD o R) = RD false R
  | [] => rfl
  | r :: R => by
    show (D.lst o (E2 r)).frz :: D.frzs (RD o R) = _
    rw [RD_frzs o R]
    cases o
    · rfl
    · rw [fz_lstT, Ds_frzs]; rfl
@[simp] theorem RD_clns : ∀ R : List (List (Int × Int)), D.clns (RD true R) = true
  | [] => rfl
  | r :: R => by
    show ((D.lst true (E2 r)).cln && D.clns (RD true R)) = true
    rw [RD_clns R, cln_lstT, Ds_clns] <;> rfl
def cutFrom (g : Int) : List (Int × Int) → (Int × Int) → List (Int × Int) → List (List (Int × Int))
  | cur, q, [] => [cur ++ [q]]
  | cur, q, p :: ps => if p.1 - q.1 ≤ g then cutFrom g (cur ++ [q]) p ps else (cur ++ [q]) :: cutFrom g [] p ps
def cutR (g : Int) : List (Int × Int) → List (List (Int × Int))
  | [] => []
  | p :: ps => cutFrom g [] p ps
abbrev Ev := Int × Int
def Wi (g : Int) (r : List Ev) : Prop := ∀ j (h : j + 1 < r.length), (r[j + 1]).1 - (r[j]).1 ≤ g
def hd0 (r : List Ev) : Ev := r.headD (0, 0)
def ls0 (r : List Ev) : Ev := r.getLastD (0, 0)
def GoodR (g : Int) : List (List Ev) → Prop
  | [] => True
  | [r] => r ≠ [] ∧ Wi g r
  | r :: r2 :: R => r ≠ [] ∧ Wi g r ∧ g < (hd0 r2).1 - (ls0 r).1 ∧ GoodR g (r2 :: R)
theorem Wi.snoc {g : Int} {r : List Ev} {q p : Ev} (h : Wi g (r ++ [q])) (c : p.1 - q.1 ≤ g) : Wi g (r ++ [q] ++ [p]) := by
  intro j hj
  simp only [List.length_append, List.length_singleton] at hj
  by_cases e : j + 1 < (r ++ [q]).length
  · rw [List.getElem_append_left e, List.getElem_append_left (show j < (r ++ [q]).length by omega)]
    exact h j e
  · simp only [List.length_append, List.length_singleton] at e
    have e2 : j = r.length := by omega
    subst e2
    simpa using c
theorem GoodR.tail {g : Int} {r : List Ev} {R : List (List Ev)} (h : GoodR g (r :: R)) : GoodR g R := by
  cases R with
  | nil => exact trivial
  | cons r2 R => exact h.2.2.2
theorem GoodR.at {g : Int} : ∀ {R : List (List Ev)}, GoodR g R → ∀ k (h : k < R.length), R[k] ≠ [] ∧ Wi g R[k]
  | r :: R, h, 0, _ => by
    cases R with
    | nil => exact h
    | cons r2 R => exact ⟨h.1, h.2.1⟩
  | r :: R, h, k + 1, hk => GoodR.at h.tail k (by simpa using hk)
theorem GoodR.step {g : Int} : ∀ {R : List (List Ev)}, GoodR g R → ∀ k (h : k + 1 < R.length), g < (hd0 R[k + 1]).1 - (ls0 R[k]).1
  | [r], _, k, hk => by simp at hk
  | r :: r2 :: R, h, 0, _ => h.2.2.1
  | r :: r2 :: R, h, k + 1, hk => GoodR.step h.2.2.2 k (by simpa using hk)
theorem GoodR.len {g : Int} : ∀ {R : List (List Ev)}, GoodR g R → R.length ≤ R.flatten.length
  | [], _ => Nat.le_refl _
  | r :: R, h => by
    have h1 := (GoodR.at h 0 (by simp)).1
    have h2 := GoodR.len h.tail
    have : 0 < r.length := List.length_pos_iff.mpr h1
    simp only [List.length_cons, List.flatten_cons, List.length_append]
    omega
end DL
namespace DL
open PySem hiding Env
open PySem.Spec PyProof.Rows L2
def b1__law_runs : Env → Os := (sIf (bAnd (b2 gtD (dN lenN (aCons (dVar 2) aNil)) (dC (.int 0))) (b2 leD (d2 subD (d2 ixD (dVar 3) (dC (.int 0))) (d2 ixD (d2 ixD (d2 ixD (dVar 2) (d1 negD (dC (.int 1)))) (d1 negD (dC (.int 1)))) (dC (.int 0)))) (dVar 1))) (sAppAt 2 (d1 negD (dC (.int 1))) (dFz (dVar 3))) (sApp 2 (dLst (aCons (dFz (dVar 3)) aNil))))
def g__law_runs : Env → Os := (sSeq (sSet 2 (dLst aNil))
    (sSeq (sFor (iSeq (dN sortN (aCons (dVar 0) aNil))) (tgN 3) b1__law_runs)
    (sRetV 2)))
def F__law_runs : List D → Ou D := runF 4 g__law_runs
def e1_plain_sessions : Env → Ou D := (dFz (d2 ixD (dVar 5) (dC (.int 1))))
def b1_plain_sessions : Env → Os := (sSeq (sSet 4 (dN tupleN (aCons (dLc (iSeqB (dVar 3)) 5 [5] bYes e1_plain_sessions) aNil)))
    (sApp 2 (dTup (aCons (dFz (d2 ixD (d2 ixD (dVar 3) (dC (.int 0))) (dC (.int 0)))) (aCons (dFz (d2 ixD (d2 ixD (dVar 3) (d1 negD (dC (.int 1)))) (dC (.int 0)))) (aCons (dFz (dVar 4)) aNil))))))
def g_plain_sessions : Env → Os := (sSeq (sSet 2 (dLst aNil))
    (sSeq (sFor (iSeq (dCall F_cut_runs (aCons (dVar 0) (aCons (dVar 1) aNil)))) (tgN 3) b1_plain_sessions)
    (sRetV 2)))
def F_plain_sessions : List D → Ou D := runF 6 g_plain_sessions
def e1__law_is_word : Env → Ou D := (dCall F__law_is_integer (aCons (dVar 1) aNil))
def g__law_is_word : Env → Os := (sRet (dAnd (dIsi .tuple (dVar 0)) (dN allN (aCons (dLc (iSeqB (dVar 0)) 1 [1] bYes e1__law_is_word) aNil))))
def F__law_is_word : List D → Ou D := runF 2 g__law_is_word
def g__law_is_told : Env → Os := (sRet (dAnd (dIsi .tuple (dVar 0)) (dAnd (dBl (b2 eqD (dN lenN (aCons (dVar 0) aNil)) (dC (.int 3)))) (dAnd (dCall F__law_is_integer (aCons (d2 ixD (dVar 0) (dC (.int 0))) aNil)) (dAnd (dCall F__law_is_integer (aCons (d2 ixD (dVar 0) (dC (.int 1))) aNil)) (dCall F__law_is_word (aCons (d2 ixD (dVar 0) (dC (.int 2))) aNil)))))))
def F__law_is_told : List D → Ou D := runF 1 g__law_is_told
structure Told where
  a : Int
  b : Int
  w : List Int
deriving DecidableEq
instance : Dm Told where
  d t := .tup [.int t.a, .int t.b, .tup (Ds t.w)]
  dep := 2
  fz t := by simp
  cln t := by
    show (true && (true && (D.clns (Ds t.w) && true))) = true
    simp
  okd t := by
    show (true && (true && (D.okds (Ds t.w) 0 && true))) = true
    rw [Ds_okds t.w (Nat.le_refl 0)]
    rfl
  eqv s t := by
    obtain ⟨a, b, w⟩ := s
    obtain ⟨a', b', w'⟩ := t
    simp only [D.py, D.pys, PyData.eqv, PyData.eqvAll, Bool.and_eq_true, Ds_eqv, Told.mk.injEq, and_true, beq_iff_eq]
def toldR (r : List Ev) : Told := ⟨(hd0 r).1, (ls0 r).1, r.map (·.2)⟩
def sess (g : Int) (ps : List Ev) : List Told := (cutR g (srt ps)).map toldR
end DL
namespace DL
open PySem hiding Env
open PySem.Spec PyProof.Rows L2
theorem lex_nil_lt (p : Int ⊕ List Nat) (l : List (Int ⊕ List Nat)) : PyProof.Rows.lexLt PyProof.Rows.itemOrd [] (p :: l) = true := rfl
theorem eqv_of_toks {x y : PyData} (h : PySem.W.alike x y = true) (e : PySem.W.keyToks x = PySem.W.keyToks y) : PyData.eqv x y = true := by
  cases c : PyData.eqv x y with
  | true => rfl
  | false =>
    have := (PySem.W.toks_eqv x y h).2 c [] [Sum.inl 0]
    rw [e, PySem.W.lex_pre, PyProof.Rows.lex_irrefl (O := PyProof.Rows.itemOrd), lex_nil_lt] at this
    cases this
class Sb (α : Type) [Dm α] : Prop where
  al : ∀ a b : α, PySem.W.alike (Dm.d a : D).py (Dm.d b : D).py = true
  tp : (∀ a : α, pyTup1 (Dm.d a : D).py = true) ∨ ∀ a : α, pyTupNone (Dm.d a : D).py = false
section
variable {α : Type} [Dm α] [Sb α]
def leM (a b : α) : Bool := leB (Dm.d a) (Dm.d b)
theorem leM_not (a b : α) : leM a b = !PySem.W.dataLt (Dm.d b : D).py (Dm.d a : D).py := rfl
theorem leM_total (a b : α) : (leM a b || leM b a) = true := by
  rw [leM_not, leM_not]
  cases h1 : PySem.W.dataLt (Dm.d b : D).py (Dm.d a : D).py with
  | false => rfl
  | true =>
    cases h2 : PySem.W.dataLt (Dm.d a : D).py (Dm.d b : D).py with
    | false => rfl
    | true =>
      have := PyProof.Rows.lex_trans (O := PyProof.Rows.itemOrd) _ _ _ h1 h2
      rw [PyProof.Rows.lex_irrefl] at this
      cases this
theorem leM_trans (a b c : α) (h1 : leM a b = true) (h2 : leM b c = true) : leM a c = true := by
  rw [leM_not] at *
  have h1' : PySem.W.dataLt (Dm.d b : D).py (Dm.d a : D).py = false := by simpa using h1
  have h2' : PySem.W.dataLt (Dm.d c : D).py (Dm.d b : D).py = false := by simpa using h2
  cases h3 : PySem.W.dataLt (Dm.d c : D).py (Dm.d a : D).py with
  | false => rfl
  | true =>
    rcases PyProof.Rows.lex_negTrans (O := PyProof.Rows.itemOrd) _ (PySem.W.keyToks (Dm.d b : D).py) _ h3 with z | z
    · exact absurd (h2'.symm.trans z) (by simp)
    · exact absurd (h1'.symm.trans z) (by simp)
theorem leM_anti (a b : α) (h1 : leM a b = true) (h2 : leM b a = true) : a = b := by
  rw [leM_not] at *
  have h1' : PySem.W.dataLt (Dm.d b : D).py (Dm.d a : D).py = false := by simpa using h1
  have h2' : PySem.W.dataLt (Dm.d a : D).py (Dm.d b : D).py = false := by simpa using h2
  exact (Dm.eqv a b).mp (eqv_of_toks (Sb.al a b) (PyProof.Rows.lex_total (O := PyProof.Rows.itemOrd) _ _ h2' h1'))
def srtD (xs : List α) : List α := xs.mergeSort leM
theorem srtD_perm (xs : List α) : (srtD xs).Perm xs := List.mergeSort_perm xs leM
theorem srtD_len (xs : List α) : (srtD xs).length = xs.length := (srtD_perm xs).length_eq
theorem srtD_pw (xs : List α) : (srtD xs).Pairwise fun a b => leM a b = true := List.pairwise_mergeSort leM_trans leM_total xs
theorem srtD_eq {xs ys : List α} (h : xs.Perm ys) : srtD xs = srtD ys :=
  List.Perm.eq_of_pairwise (le := fun a b => leM a b = true) (fun a b _ _ h1 h2 => leM_anti a b h1 h2) (srtD_pw xs) (srtD_pw ys) ((srtD_perm xs).trans (h.trans (srtD_perm ys).symm))
theorem sortL_dm (xs : List α) : sortL (Ds xs) = Ds (srtD xs) := by
  unfold sortL Ds srtD
  exact (List.map_mergeSort (f := Dm.d) (r := leM) (s := leB) fun a _ b _ => rfl).symm
theorem sortOk_dm (hd : Dm.dep α ≤ 20) (xs : List α) : sortOk (Ds xs) = true := by
  unfold sortOk
  refine Bool.and_eq_true_iff.mpr ⟨Ds_okds xs hd, ?_⟩
  rw [pys_map]
  unfold sortOkP Ds
  refine Bool.and_eq_true_iff.mpr ⟨?_, ?_⟩
  · simp only [List.all_map, List.all_eq_true]
    intro x _
    refine List.all_eq_true.mpr fun y _ => ?_
    exact Sb.al x y
  · rw [Bool.or_eq_true_iff]
    rcases Sb.tp (α := α) with h | h
    · left
      simp only [List.all_map, List.all_eq_true]
      intro x _
      exact h x
    · right
      simp only [List.all_map, List.all_eq_true]
      intro x _
      show (!pyTupNone _) = true
      rw [h x]
      rfl
theorem sortN_dm (hd : Dm.dep α ≤ 20) (o : Bool) (xs : List α) (h : xs.length ≤ 1000000) : sortN [.lst o (Ds xs)] = some (.lst true (Ds (srtD xs))) := by
  show (if _ then _ else _) = _
  rw [if_pos, sortL_dm]
  rw [Ds_fzs, sortOk_dm hd, Ds_len, decide_eq_true (le_lim' h)] <;> rfl
theorem fstI_dm [DecidableEq α] (x : α) : ∀ ys : List α, x ∈ ys → ∃ j, fstI (fun z => PyData.eqv z (Dm.d x : D).py) (D.pys (Ds ys)) = some j ∧ (Ds ys).eraseIdx j = Ds (ys.erase x)
  | [], h => nomatch h
  | y :: ys, h => by
    rw [Ds_cons]
    show ∃ j, (if PyData.eqv (Dm.d y : D).py (Dm.d x : D).py = true then some 0 else (fstI _ (D.pys (Ds ys))).map (· + 1)) = some j ∧ _
    by_cases c : y = x
    · subst c
      rw [if_pos ((Dm.eqv y y).mpr rfl)]
      exact ⟨0, rfl, by simp⟩
    · rw [if_neg (fun z => c ((Dm.eqv y x).mp z))]
      obtain ⟨j, h1, h2⟩ := fstI_dm x ys ((List.mem_cons.mp h).resolve_left (Ne.symm c))
      rw [h1]
      refine ⟨j + 1, rfl, ?_⟩
      rw [List.erase_cons_tail (by simpa using c), Ds_cons, List.eraseIdx_cons_succ, h2]
theorem remD_dm [DecidableEq α] (hd : Dm.dep α ≤ 19) (x : α) (ys : List α) (h : x ∈ ys) : remD (Ds ys) (Dm.d x) = some (Ds (ys.erase x)) := by
  obtain ⟨j, h1, h2⟩ := fstI_dm x ys h
  show (if _ then _ else _) = _
  rw [if_pos, h1, Option.map_some, h2]
  rw [okd_mono _ _ _ (show Dm.dep α ≤ DEP by show Dm.dep α ≤ 20; omega) (Dm.okd x)]
  show (true && D.okds (Ds ys) 19) = true
  rw [Ds_okds ys hd]
  rfl
end
structure Ks where
  s : Str
  ok : PyData.strOk s = true
instance : DecidableEq Ks := fun a b => decidable_of_iff (a.s = b.s) ⟨fun h => by cases a; cases b; cases h; rfl, fun h => by rw [h]⟩
structure Sn where
  k : Ks
  f : Int
  l : Int
  w : List Int
  deriving DecidableEq
theorem Ks.ext {a b : Ks} (h : a.s = b.s) : a = b := by cases a; cases b; cases h; rfl
instance : Dm Sn where
  d s := .tup [.str s.k.s, .int s.f, .int s.l, .tup (Ds s.w)]
  dep := 2
  fz s := by
    show (true && (true && (true && (D.fzs (Ds s.w) && true)))) = true
    rw [Ds_fzs]; rfl
  cln s := by
    show (true && (true && (true && (D.clns (Ds s.w) && true)))) = true
    rw [Ds_clns]; rfl
  okd s := by
    show (PyData.strOk s.k.s && (true && (true && (D.okds (Ds s.w) 0 && true)))) = true
    rw [Ds_okds s.w (Nat.le_refl 0), s.k.ok]; rfl
  eqv a b := by
    obtain ⟨k, f, l, w⟩ := a
    obtain ⟨k2, f2, l2, w2⟩ := b
    simp only [D.py, D.pys, PyData.eqv, PyData.eqvAll, Bool.and_eq_true, Ds_eqv, and_true, beq_iff_eq, Sn.mk.injEq]
    exact ⟨fun ⟨h1, h2⟩ => ⟨Ks.ext h1, h2⟩, fun ⟨h1, h2⟩ => ⟨by rw [h1], h2⟩⟩
theorem alike_Is : ∀ xs ys : List Int, PySem.W.alikeAll (D.pys (Ds xs)) (D.pys (Ds ys)) = true
  | [], [] => rfl
  | [], _ :: _ => rfl
  | _ :: _, [] => rfl
  | x :: xs, y :: ys => by
    rw [Ds_cons, Ds_cons]
    show (true && PySem.W.alikeAll (D.pys (Ds xs)) (D.pys (Ds ys))) = true
    rw [alike_Is xs ys]; rfl
instance : Sb Sn where
  al a b := by
    show (true && (true && (true && (PySem.W.alikeAll (D.pys (Ds a.w)) (D.pys (Ds b.w)) && true)))) = true
    rw [alike_Is]; rfl
  tp := .inl fun a => rfl
inductive Sg where
  | tell
  | retract
  | final
  deriving DecidableEq
def Sg.s : Sg → Str
  | .tell => "tell"
  | .retract => "retract"
  | .final => "final"
theorem Sg.ok (x : Sg) : PyData.strOk x.s = true := by cases x <;> decide +kernel
theorem Sg.inj {a b : Sg} (h : a.s = b.s) : a = b := by cases a <;> cases b <;> first | rfl | exact absurd h (by decide)
inductive Wd where
  | late (k : Ks) (t v : Int)
  | say (x : Sg) (s : Sn)
  deriving DecidableEq
def Wd.d : Wd → D
  | .late k t v => .tup [.str "late", .str k.s, .int t, .int v]
  | .say x s => .tup [.str x.s, .str s.k.s, .int s.f, .int s.l, .tup (Ds s.w)]
instance : Dm Wd where
  d := Wd.d
  dep := 2
  fz w := by
    cases w with
    | late k t v => rfl
    | say x s =>
      show (true && (true && (true && (true && (D.fzs (Ds s.w) && true))))) = true
      rw [Ds_fzs]; rfl
  cln w := by
    cases w with
    | late k t v => rfl
    | say x s =>
      show (true && (true && (true && (true && (D.clns (Ds s.w) && true))))) = true
      rw [Ds_clns]; rfl
  okd w := by
    cases w with
    | late k t v =>
      show (PyData.strOk (Str.ofString "late") && (PyData.strOk k.s && (true && (true && true)))) = true
      rw [k.ok]; decide +kernel
    | say x s =>
      show (PyData.strOk x.s && (PyData.strOk s.k.s && (true && (true && (D.okds (Ds s.w) 0 && true))))) = true
      rw [Ds_okds s.w (Nat.le_refl 0), s.k.ok, x.ok]; rfl
  eqv a b := by
    cases a with
    | late k t v =>
      cases b with
      | late k2 t2 v2 =>
        simp only [Wd.d, D.py, D.pys, PyData.eqv, PyData.eqvAll, Bool.and_eq_true, and_true, beq_iff_eq, Wd.late.injEq, true_and]
        exact ⟨fun ⟨h1, h2⟩ => ⟨Ks.ext h1, h2⟩, fun ⟨h1, h2⟩ => ⟨by rw [h1], h2⟩⟩
      | say x s => simp [Wd.d, D.py, D.pys, PyData.eqv, PyData.eqvAll]
    | say x s =>
      cases b with
      | late k2 t2 v2 => simp [Wd.d, D.py, D.pys, PyData.eqv, PyData.eqvAll]
      | say x2 s2 =>
        obtain ⟨k, f, l, w⟩ := s
        obtain ⟨k2, f2, l2, w2⟩ := s2
        simp only [Wd.d, D.py, D.pys, PyData.eqv, PyData.eqvAll, Bool.and_eq_true, Ds_eqv, and_true, beq_iff_eq, Wd.say.injEq, Sn.mk.injEq]
        exact ⟨fun ⟨h0, h1, h2⟩ => ⟨Sg.inj h0, Ks.ext h1, h2⟩, fun ⟨h0, h1, h2⟩ => ⟨by rw [h0], by rw [h1], h2⟩⟩
theorem d_sn (s : Sn) : (Dm.d s : D) = .tup [.str s.k.s, .int s.f, .int s.l, .tup (Ds s.w)] := rfl
theorem d_say (x : Sg) (s : Sn) : (Dm.d (Wd.say x s) : D) = .tup [.str x.s, .str s.k.s, .int s.f, .int s.l, .tup (Ds s.w)] := rfl
@[simp] theorem frz_own (oa : Option Addr) (c : Str) (ns : List Str) (xs : List D) : (D.own oa c ns xs).frz = .ins c ns (D.frzs xs) := by rw [D.frz]
@[simp] theorem frz_lsa (a : Addr) (xs : List D) : (D.lsa a xs).frz = .lst false (D.frzs xs) := by rw [D.frz]
@[simp] theorem cln_own (oa : Option Addr) (c : Str) (ns : List Str) (xs : List D) : (D.own oa c ns xs).cln = D.clns xs := by rw [D.cln]
@[simp] theorem x_sRetM (ρ : Env) (b : List Bool) (f : Env → Ou D) : sRetM b f ρ = ofU (f ρ) ρ fun d => match outsE b ρ with
  | some os => .rt (.wth d os)
  | none => .bad := (rfl)
@[simp] theorem x_sDropM (ρ : Env) (f : Env → OuM) : sDropM f ρ = match f ρ with
  | .ok _ ρ' => .nx ρ'
  | .ex c ns xs ρ' => .ex c ns xs ρ'
  | .bad => .bad := (rfl)
@[simp] theorem x_sSetM (ρ : Env) (i : Nat) (f : Env → OuM) : sSetM i f ρ = match f ρ with
  | .ok d ρ' => if i < ρ'.length then .nx (ρ'.set i (some d)) else .bad
  | .ex c ns xs ρ' => .ex c ns xs ρ'
  | .bad => .bad := (rfl)
@[simp] theorem x_dPairM (ρ : Env) (x : Str) (f : Env → OuM) : dPairM x f ρ = match f ρ with
  | .ok d ρ' => .ok (.lst true [.str x, d]) ρ'
  | .ex c ns xs ρ' => .ex c ns xs ρ'
  | .bad => .bad := (rfl)
@[simp] theorem x_dSnap' (f : Env → Ou D) (ρ : Env) : dSnap f ρ = match f (frzE ρ) with
  | .ok d => if d.cln then .ok d else .bad
  | .ex c ns xs => if D.clns xs then .ex c ns xs else .bad
  | .bad => .bad := (rfl)
@[simp] theorem x_bSnap (f : Env → Ou Bool) (ρ : Env) : bSnap f ρ = match f (frzE ρ) with
  | .ok d => .ok d
  | .ex c ns xs => if D.clns xs then .ex c ns xs else .bad
  | .bad => .bad := (rfl)
@[simp] theorem x_sFldO (ρ : Env) (c f : Str) (i : Nat) (g : Env → Ou D) : sFldO c f i g ρ = ofU (g ρ) ρ fun d => putO c f i ρ d := (rfl)
@[simp] theorem x_sFldV (ρ : Env) (c f : Str) (i j : Nat) : sFldV c f i j ρ = match ρ[j]? with
  | some (some d) => putO c f i (ρ.set j none) d
  | _ => .bad := (rfl)
theorem x_sFldA {ρ : Env} {c f : Str} {i : Nat} {op : Int → Int → Int} {g : Env → Ou D} {oa : Option Addr} {ns : List Str} {xs : List D} {a b : Int} (h : ρ[i]? = some (some (.own oa c ns xs))) (h1 : (ns.zip xs).lookup f = some (.int a)) (h2 : g ρ = .ok (.int b)) : sFldA c f i op g ρ = putO c f i ρ (.int (op a b)) := by
  unfold sFldA
  rw [h]
  dsimp only
  rw [if_pos (beq_self_eq_true c), h1]
  dsimp only
  rw [h2]
  rfl
theorem x_putO {ρ : Env} {c f : Str} {i : Nat} {oa : Option Addr} {ns : List Str} {xs : List D} {d : D} (h : ρ[i]? = some (some (.own oa c ns xs))) (hm : mutN (putNs f ns) = true) (hl : ns.length < 900) : putO c f i ρ d = .nx (ρ.set i (some (.own oa c (putNs f ns) (putXs f d ns xs)))) := by
  unfold putO
  rw [h]
  dsimp only
  rw [if_pos]
  rw [beq_self_eq_true, hm, decide_eq_true hl] <;> rfl
theorem x_sRem {ρ : Env} {i : Nat} {f : Env → Ou D} {x : D} {xs ys : List D} {d : D} (h : ρ[i]? = some (some x)) (hx : lsOf x = some xs) (h2 : f ρ = .ok d) (h3 : remD xs d = some ys) : sRem i f ρ = .nx (ρ.set i (some (reL x ys))) := by
  unfold sRem
  rw [h]
  dsimp only
  rw [hx]
  dsimp only
  rw [h2]
  show (match remD xs d with
    | some ys => Os.nx (ρ.set i (some (reL x ys)))
    | none => .bad) = _
  rw [h3]
theorem x_dMethM {b : List Bool} {F : List D → Ou D} {io : List Nat} {t : Env → Ou (List D)} {ρ ρ1 : Env} {c m : Str} {ios ds : List D} (h : takeL io ρ = some (ios, ρ1)) (ho : isOwn c m ios = true) (h2 : t (frzE ρ1) = .ok ds) : dMethM c m b F io t ρ = afterM b F io ios ρ1 ds := by
  unfold dMethM
  rw [h]
  dsimp only
  rw [if_pos ho, h2]
theorem afterM_ok {b : List Bool} {F : List D → Ou D} {io : List Nat} {ios cs os ds : List D} {ρ1 : Env} {d : D} (hc : canL ios = some cs) (h : callM b F cs (D.frzs ds) = .ok d os) (h1 : d.cln = true) (h2 : D.clns os = true) : afterM b F io ios ρ1 ds = .ok d (putL io (backL ios os) ρ1) := by
  unfold afterM
  rw [hc]
  dsimp only
  rw [h]
  dsimp only
  rw [h1, h2]
  rfl
theorem afterM_ex {b : List Bool} {F : List D → Ou D} {io : List Nat} {ios cs ds xs : List D} {ρ1 : Env} {c : Str} {ns : List Str} (hc : canL ios = some cs) (h : callM b F cs (D.frzs ds) = .ex c ns xs) (h1 : D.clns xs = true) (h2 : D.clns cs = true) : afterM b F io ios ρ1 ds = .ex c ns xs (putL io (backL ios cs) ρ1) := by
  unfold afterM
  rw [hc]
  dsimp only
  rw [h]
  dsimp only
  rw [h1, h2]
  rfl
end DL
namespace DL
open PySem hiding Env
open PySem.Spec PyProof.Rows L2
noncomputable section
def g_Board_rows : Env → Os := (sRet (dN listN (aCons (d1 (fldD "_rows" ["Board"]) (dVar 0)) aNil)))
def F_Board_rows : List D → Ou D := runF 1 g_Board_rows
def g_Board_ended : Env → Os := (sRet (dN listN (aCons (d1 (fldD "_ended" ["Board"]) (dVar 0)) aNil)))
def F_Board_ended : List D → Ou D := runF 1 g_Board_ended
def g_Board___len__ : Env → Os := (sRet (dN lenN (aCons (d1 (fldD "_rows" ["Board"]) (dVar 0)) aNil)))
def F_Board___len__ : List D → Ou D := runF 1 g_Board___len__
def g_Board_span : Env → Os := (sRet (dFz (d1 (fldD "_span" ["Board"]) (dVar 0))))
def F_Board_span : List D → Ou D := runF 1 g_Board_span
def g_Board___contains__ : Env → Os := (sRet (dBl (b2 inD (dVar 1) (d1 (fldD "_rows" ["Board"]) (dVar 0)))))
def F_Board___contains__ : List D → Ou D := runF 2 g_Board___contains__
def g_span_of : Env → Os := (sRet (d2 subD (d2 ixD (dVar 0) (dC (.int 2))) (d2 ixD (dVar 0) (dC (.int 1)))))
def F_span_of : List D → Ou D := runF 1 g_span_of
def b1_Board_take : Env → Os := (sSeq (sSet 7 (dSl (dVar 6) (pSome (dC (.int 1))) pNone))
    (sIf (b2 eqD (d2 ixD (dVar 6) (dC (.int 0))) (dC (.str ("late" : Str)))) (sAug 4 iaddD (dC (.int 1))) (sIf (b2 eqD (d2 ixD (dVar 6) (dC (.int 0))) (dC (.str ("tell" : Str)))) (sSeq (sIf (b2 inD (dVar 7) (dVar 2)) (sRaise "StandsAlready" ["session"] (aCons (dVar 7) aNil)) sNil)
    (sFrz 7 (sSeq (sApp 2 (dFz (dVar 7)))
    (sAug 5 iaddD (dCall F_span_of (aCons (dVar 7) aNil)))))) (sSeq (sIf (b2 notInD (dVar 7) (dVar 2)) (sRaise "NotStanding" ["session"] (aCons (dVar 7) aNil)) sNil)
    (sFrz 7 (sSeq (sRem 2 (dFz (dVar 7)))
    (sSeq (sAug 5 subD (dCall F_span_of (aCons (dVar 7) aNil)))
    (sIf (b2 eqD (d2 ixD (dVar 6) (dC (.int 0))) (dC (.str ("final" : Str)))) (sFrz 7 (sApp 3 (dFz (dVar 7)))) sNil))))))))
def g_Board_take : Env → Os := (sSeq (sSet 2 (dSnap (dN listN (aCons (d1 (fldD "_rows" ["Board"]) (dVar 0)) aNil))))
    (sSeq (sSet 3 (dSnap (dN listN (aCons (d1 (fldD "_ended" ["Board"]) (dVar 0)) aNil))))
    (sSeq (sSet 4 (dC (.int 0)))
    (sSeq (sSet 5 (dSnap (dFz (d1 (fldD "_span" ["Board"]) (dVar 0)))))
    (sSeq (sFor (iSeq (dFz (dVar 1))) (tgN 6) b1_Board_take)
    (sSeq (sFldA "Board" "late" 0 (· + ·) (dVar 4))
    (sSeq (sFldO "Board" "_rows" 0 (dN sortN (aCons (dVar 2) aNil)))
    (sSeq (sFldV "Board" "_ended" 0 3)
    (sFldO "Board" "_span" 0 (dFz (dVar 5)))))))))))
def F_Board_take : List D → Ou D := runM 8 [true, false] g_Board_take
def g_Board___iadd__ : Env → Os := (sSeq (sDropM (dMethM "Board" "take" [true, false] F_Board_take [0] (aCons (dFz (dVar 1)) aNil)))
    (sRetSelf [true, false] 0))
def F_Board___iadd__ : List D → Ou D := runM 2 [true, false] g_Board___iadd__
def h_Board___init__ : Env → Os := (sSeq (sFldO "Board" "_rows" 0 (dLst aNil))
    (sSeq (sFldO "Board" "_ended" 0 (dLst aNil))
    (sFldO "Board" "_span" 0 (dC (.int 0)))))
def g_Board___init__ : Addr → Env → Ou D := (nFld "Board" "late" (dC (.int 0)) h_Board___init__)
def F_Board___init__ : Addr → List D → Ou D := runO 1 g_Board___init__
def bNs : List Str := ["late", "_rows", "_ended", "_span"]
def bd (oa : Option Addr) (late : Int) (R E : List Sn) (span : Int) : D := .own oa "Board" ["late", "_rows", "_ended", "_span"] [.int late, .lst true (Ds R), .lst true (Ds E), .int span]
def bf (late : Int) (R E : List Sn) (span : Int) : D := .ins "Board" ["late", "_rows", "_ended", "_span"] [.int late, .lst false (Ds R), .lst false (Ds E), .int span]
@[simp] theorem bd_frz (oa : Option Addr) (late : Int) (R E : List Sn) (span : Int) : (bd oa late R E span).frz = bf late R E span := by
  unfold bd bf
  simp
@[simp] theorem bd_cln (oa : Option Addr) (late : Int) (R E : List Sn) (span : Int) : (bd oa late R E span).cln = true := by
  unfold bd
  rw [cln_own]
  show (true && (D.clns (Ds R) && (D.clns (Ds E) && (true && true)))) = true
  rw [Ds_clns, Ds_clns]; rfl
@[simp] theorem bf_frz (late : Int) (R E : List Sn) (span : Int) : (bf late R E span).frz = bf late R E span := rfl
@[simp] theorem bf_fz (late : Int) (R E : List Sn) (span : Int) : (bf late R E span).fz = true := rfl
section
variable (late : Int) (R E : List Sn) (span : Int)
theorem fld_b0 : fldD "late" ["Board"] (bf late R E span) = some (.int late) := by unfold bf; simp [fldD]
theorem fld_b1 : fldD "_rows" ["Board"] (bf late R E span) = some (.lst false (Ds R)) := by
  unfold bf
  simp only [fldD]
  rw [if_pos (by decide +kernel)]
  rfl
theorem fld_b2 : fldD "_ended" ["Board"] (bf late R E span) = some (.lst false (Ds E)) := by
  unfold bf
  simp only [fldD]
  rw [if_pos (by decide +kernel)]
  rfl
theorem fld_b3 : fldD "_span" ["Board"] (bf late R E span) = some (.int span) := by
  unfold bf
  simp only [fldD]
  rw [if_pos (by decide +kernel)]
  rfl
theorem rows_ok : F_Board_rows [bf late R E span] = .ok (.lst true (Ds R)) := by
  simp [F_Board_rows, g_Board_rows, runF, fld_b1, listN_Ds]
theorem ended_ok : F_Board_ended [bf late R E span] = .ok (.lst true (Ds E)) := by
  simp [F_Board_ended, g_Board_ended, runF, fld_b2, listN_Ds]
theorem blen_ok : F_Board___len__ [bf late R E span] = .ok (.int R.length) := by
  simp [F_Board___len__, g_Board___len__, runF, fld_b1]
theorem bin_ok (s : Sn) : F_Board___contains__ [bf late R E span, Dm.d s] = .ok (.bl (decide (s ∈ R))) := by
  simp [F_Board___contains__, g_Board___contains__, runF, fld_b1, inD_Ds (show Dm.dep Sn ≤ 19 by decide)]
end
theorem span_of_ok (s : Sn) : F_span_of [Dm.d s] = .ok (.int (s.l - s.f)) := by
  have i1 : ixD (Dm.d s) (.int 1) = some (.int s.f) := rfl
  have i2 : ixD (Dm.d s) (.int 2) = some (.int s.l) := rfl
  simp [F_span_of, g_span_of, runF, i1, i2]
inductive TR where
  | ok (R E : List Sn) (late span : Int)
  | stands (s : Sn)
  | not (s : Sn)
def takeR : List Wd → List Sn → List Sn → Int → Int → TR
  | [], R, E, l, p => .ok R E l p
  | .late _ _ _ :: ws, R, E, l, p => takeR ws R E (l + 1) p
  | .say x s :: ws, R, E, l, p => if x = .tell then (if s ∈ R then .stands s else takeR ws (R ++ [s]) E l (p + (s.l - s.f)))
    else if s ∈ R then takeR ws (R.erase s) (if x = .final then E ++ [s] else E) l (p - (s.l - s.f)) else .not s
def sesOf : Wd → D
  | .late k t v => .tup [.str k.s, .int t, .int v]
  | .say _ s => Dm.d s
theorem sl_w (w : Wd) : slD (Dm.d w) (some 1) none = some (sesOf w) := by
  cases w with
  | late k t v => rfl
  | say x s =>
    show (if D.fzs [.str x.s, .str s.k.s, .int s.f, .int s.l, .tup (Ds s.w)] = true then _ else _) = _
    rw [if_pos (by show (true && (true && (true && (true && (D.fzs (Ds s.w) && true))))) = true; rw [Ds_fzs]; rfl)]
    rfl
@[simp] theorem ses_fz (w : Wd) : (sesOf w).fz = true := by
  cases w with
  | late k t v => rfl
  | say x s => exact Dm.fz s
@[simp] theorem ses_cln (w : Wd) : (sesOf w).cln = true := by
  cases w with
  | late k t v => rfl
  | say x s => exact Dm.cln s
theorem ix_w0 (w : Wd) : ixD (Dm.d w) (.int 0) = some (.str (match w with
  | .late _ _ _ => "late"
  | .say x _ => x.s)) := by cases w <;> rfl
theorem sg_late (x : Sg) : eqD (.str x.s) (.str "late") = some false := by cases x <;> decide +kernel
theorem sg_tell (x : Sg) : eqD (.str x.s) (.str "tell") = some (decide (x = .tell)) := by cases x <;> decide +kernel
theorem sg_final (x : Sg) : eqD (.str x.s) (.str "final") = some (decide (x = .final)) := by cases x <;> decide +kernel
theorem iadd_ii (a b : Int) : iaddD (.int a) (.int b) = some (.int (a + b)) := rfl
theorem late_late : eqD (.str "late") (.str "late") = some true := by decide +kernel
def endT (a0 a1 o6 o7 : Option D) : TR → Os → Prop
  | .ok R E l p, o => ∃ o6 o7, o = .nx [a0, a1, some (.lst true (Ds R)), some (.lst true (Ds E)), some (.int l), some (.int p), o6, o7]
  | .stands s, o => ∃ r2 r3 r4 r5 r6 r7, o = .ex "StandsAlready" ["session"] [Dm.d s] [a0, a1, r2, r3, r4, r5, r6, r7]
  | .not s, o => ∃ r2 r3 r4 r5 r6 r7, o = .ex "NotStanding" ["session"] [Dm.d s] [a0, a1, r2, r3, r4, r5, r6, r7]
theorem take_loop (a0 a1 : Option D) : ∀ (ws : List Wd) (R E : List Sn) (l p : Int) (o6 o7 : Option D), R.length + ws.length ≤ 100000 → E.length + ws.length ≤ 100000 →
    endT a0 a1 o6 o7 (takeR ws R E l p) (loopS (tgN 6) b1_Board_take (Ds ws) [a0, a1, some (.lst true (Ds R)), some (.lst true (Ds E)), some (.int l), some (.int p), o6, o7])
  | [], R, E, l, p, o6, o7, _, _ => ⟨o6, o7, rfl⟩
  | .late k t v :: ws, R, E, l, p, o6, o7, h1, h2 => by
    have e : b1_Board_take [a0, a1, some (.lst true (Ds R)), some (.lst true (Ds E)), some (.int l), some (.int p), some (Dm.d (Wd.late k t v)), o7] = .nx [a0, a1, some (.lst true (Ds R)), some (.lst true (Ds E)), some (.int (l + 1)), some (.int p), some (Dm.d (Wd.late k t v)), some (sesOf (.late k t v))] := by
      simp [b1_Board_take, sl_w, ix_w0, late_late, iadd_ii]
    rw [Ds_cons, loop_nx (ρ1 := [a0, a1, some (.lst true (Ds R)), some (.lst true (Ds E)), some (.int l), some (.int p), some (Dm.d (Wd.late k t v)), o7]) rfl e]
    exact take_loop a0 a1 ws R E (l + 1) p _ _ (by simp at h1; omega) (by simp at h2; omega)
  | .say x s :: ws, R, E, l, p, o6, o7, h1, h2 => by
    have hd : Dm.dep Sn ≤ 19 := by decide
    have lR : R.length < LIM := lt_lim (by simp at h1; omega)
    have lE : E.length < LIM := lt_lim (by simp at h2; omega)
    unfold takeR
    by_cases cx : x = .tell
    · subst cx
      rw [if_pos rfl]
      by_cases cs : s ∈ R
      · rw [if_pos cs]
        refine ⟨some (.lst true (Ds R)), some (.lst true (Ds E)), some (.int l), some (.int p), some (Dm.d (Wd.say .tell s)), some (Dm.d s), ?_⟩
        rw [Ds_cons]
        unfold loopS
        simp [b1_Board_take, sl_w, ix_w0, sg_late, sg_tell, sesOf, inD_Ds hd, cs]
      · rw [if_neg cs]
        have e : b1_Board_take [a0, a1, some (.lst true (Ds R)), some (.lst true (Ds E)), some (.int l), some (.int p), some (Dm.d (Wd.say .tell s)), o7] = .nx [a0, a1, some (.lst true (Ds (R ++ [s]))), some (.lst true (Ds E)), some (.int l), some (.int (p + (s.l - s.f))), some (Dm.d (Wd.say .tell s)), some (Dm.d s)] := by
          simp [b1_Board_take, sl_w, ix_w0, sg_late, sg_tell, sesOf, inD_Ds hd, cs, lR, Ds_snoc, span_of_ok, iadd_ii]
        rw [Ds_cons, loop_nx (ρ1 := [a0, a1, some (.lst true (Ds R)), some (.lst true (Ds E)), some (.int l), some (.int p), some (Dm.d (Wd.say .tell s)), o7]) rfl e]
        exact take_loop a0 a1 ws (R ++ [s]) E l _ _ _ (by simp at h1 ⊢; omega) (by simp at h2; omega)
    · rw [if_neg cx]
      by_cases cs : s ∈ R
      · rw [if_pos cs]
        have e : b1_Board_take [a0, a1, some (.lst true (Ds R)), some (.lst true (Ds E)), some (.int l), some (.int p), some (Dm.d (Wd.say x s)), o7] = .nx [a0, a1, some (.lst true (Ds (R.erase s))), some (.lst true (Ds (if x = .final then E ++ [s] else E))), some (.int l), some (.int (p - (s.l - s.f))), some (Dm.d (Wd.say x s)), some (Dm.d s)] := by
          have r := fun (x : Sg) (r3 r4 r5 : Option D) => x_sRem (ρ := [a0, a1, some (.lst true (Ds R)), r3, r4, r5, some (Dm.d (Wd.say x s)), some (Dm.d s)]) (i := 2) (f := dFz (dVar 7)) (x := .lst true (Ds R)) (xs := Ds R) (d := Dm.d s) rfl rfl (by simp) (remD_dm hd s R cs)
          by_cases cf : x = .final
          · simp [b1_Board_take, sl_w, ix_w0, sg_late, sg_tell, sg_final, sesOf, notInD_Ds hd, cs, cx, cf, lE, Ds_snoc, span_of_ok, r, reL]
          · simp [b1_Board_take, sl_w, ix_w0, sg_late, sg_tell, sg_final, sesOf, notInD_Ds hd, cs, cx, cf, lE, Ds_snoc, span_of_ok, r, reL]
        rw [Ds_cons, loop_nx (ρ1 := [a0, a1, some (.lst true (Ds R)), some (.lst true (Ds E)), some (.int l), some (.int p), some (Dm.d (Wd.say x s)), o7]) rfl e]
        have le : (R.erase s).length = R.length - 1 := List.length_erase_of_mem cs
        refine take_loop a0 a1 ws (R.erase s) _ l _ _ _ (by simp at h1; omega) ?_
        by_cases cf : x = .final
        · rw [if_pos cf]; simp at h2 ⊢; omega
        · rw [if_neg cf]; simp at h2; omega
      · rw [if_neg cs]
        refine ⟨some (.lst true (Ds R)), some (.lst true (Ds E)), some (.int l), some (.int p), some (Dm.d (Wd.say x s)), some (Dm.d s), ?_⟩
        rw [Ds_cons]
        unfold loopS
        simp [b1_Board_take, sl_w, ix_w0, sg_late, sg_tell, cx, sesOf, notInD_Ds hd, cs]
section
variable (oa : Option Addr) (late : Int) (R E : List Sn) (span : Int)
theorem pN (f : Str) (h : bNs.contains f = true) : putNs f bNs = bNs := by
  unfold putNs
  rw [if_pos h]
theorem put_b0 (x : Int) {ρ : Env} (h : ρ[0]? = some (some (bd oa late R E span))) : putO "Board" "late" 0 ρ (.int x) = .nx (ρ.set 0 (some (bd oa x R E span))) := by
  rw [x_putO (c := "Board") (i := 0) h (by rw [show (["late", "_rows", "_ended", "_span"] : List Str) = bNs from rfl, pN _ (by decide +kernel)]; decide +kernel) (by decide), show (["late", "_rows", "_ended", "_span"] : List Str) = bNs from rfl, pN _ (by decide +kernel)]
  unfold putXs
  rw [if_pos (by decide +kernel)]
  simp [putD, bd, bNs, ofString_inj]
theorem put_b1 (S : List Sn) {ρ : Env} (h : ρ[0]? = some (some (bd oa late R E span))) : putO "Board" "_rows" 0 ρ (.lst true (Ds S)) = .nx (ρ.set 0 (some (bd oa late S E span))) := by
  rw [x_putO (c := "Board") (i := 0) h (by rw [show (["late", "_rows", "_ended", "_span"] : List Str) = bNs from rfl, pN _ (by decide +kernel)]; decide +kernel) (by decide), show (["late", "_rows", "_ended", "_span"] : List Str) = bNs from rfl, pN _ (by decide +kernel)]
  unfold putXs
  rw [if_pos (by decide +kernel)]
  simp [putD, bd, bNs, ofString_inj]
theorem put_b2 (S : List Sn) {ρ : Env} (h : ρ[0]? = some (some (bd oa late R E span))) : putO "Board" "_ended" 0 ρ (.lst true (Ds S)) = .nx (ρ.set 0 (some (bd oa late R S span))) := by
  rw [x_putO (c := "Board") (i := 0) h (by rw [show (["late", "_rows", "_ended", "_span"] : List Str) = bNs from rfl, pN _ (by decide +kernel)]; decide +kernel) (by decide), show (["late", "_rows", "_ended", "_span"] : List Str) = bNs from rfl, pN _ (by decide +kernel)]
  unfold putXs
  rw [if_pos (by decide +kernel)]
  simp [putD, bd, bNs, ofString_inj]
theorem put_b3 (x : Int) {ρ : Env} (h : ρ[0]? = some (some (bd oa late R E span))) : putO "Board" "_span" 0 ρ (.int x) = .nx (ρ.set 0 (some (bd oa late R E x))) := by
  rw [x_putO (c := "Board") (i := 0) h (by rw [show (["late", "_rows", "_ended", "_span"] : List Str) = bNs from rfl, pN _ (by decide +kernel)]; decide +kernel) (by decide), show (["late", "_rows", "_ended", "_span"] : List Str) = bNs from rfl, pN _ (by decide +kernel)]
  unfold putXs
  rw [if_pos (by decide +kernel)]
  simp [putD, bd, bNs, ofString_inj]
end
def takeA (a : Addr) (l0 : Int) : TR → Ou D
  | .ok R E l p => .ok (.wth .non [bd (some a) (l0 + l) (srtD R) E p])
  | .stands s => .ex "StandsAlready" ["session"] [Dm.d s]
  | .not s => .ex "NotStanding" ["session"] [Dm.d s]
def TRlen (a b : Nat) : TR → Prop
  | .ok R E _ _ => R.length ≤ a ∧ E.length ≤ b
  | _ => True
theorem TRlen.mono {a b a2 b2 : Nat} (h1 : a ≤ a2) (h2 : b ≤ b2) : ∀ {r : TR}, TRlen a b r → TRlen a2 b2 r
  | .ok _ _ _ _, h => ⟨Nat.le_trans h.1 h1, Nat.le_trans h.2 h2⟩
  | .stands _, _ => trivial
  | .not _, _ => trivial
theorem takeR_len : ∀ (ws : List Wd) (R E : List Sn) (l p : Int), TRlen (R.length + ws.length) (E.length + ws.length) (takeR ws R E l p)
  | [], R, E, l, p => ⟨Nat.le_refl _, Nat.le_refl _⟩
  | .late _ _ _ :: ws, R, E, l, p => (takeR_len ws R E (l + 1) p).mono (by simp) (by simp)
  | .say x s :: ws, R, E, l, p => by
    unfold takeR
    by_cases cx : x = .tell
    · rw [if_pos cx]
      by_cases cs : s ∈ R
      · rw [if_pos cs]; trivial
      · rw [if_neg cs]
        exact (takeR_len ws (R ++ [s]) E l (p + (s.l - s.f))).mono (by simp; omega) (by simp)
    · rw [if_neg cx]
      by_cases cs : s ∈ R
      · rw [if_pos cs]
        have le : (R.erase s).length ≤ R.length := List.length_erase_le
        have l2 : (if x = .final then E ++ [s] else E).length ≤ E.length + 1 := by split <;> simp
        exact (takeR_len ws (R.erase s) (if x = .final then E ++ [s] else E) l (p - (s.l - s.f))).mono (by simp; omega) (by simp; omega)
      · rw [if_neg cs]; trivial
theorem take_ok (a : Addr) (l0 : Int) (R E : List Sn) (p0 : Int) (ws : List Wd) (h1 : R.length + ws.length ≤ 100000) (h2 : E.length + ws.length ≤ 100000) :
    F_Board_take [bd (some a) l0 R E p0, .lst false (Ds ws)] = takeA a l0 (takeR ws R E 0 p0) := by
  have lp := take_loop (some (bd (some a) l0 R E p0)) (some (.lst false (Ds ws))) ws R E 0 p0 none none h1 h2
  have ln := takeR_len ws R E 0 p0
  unfold F_Board_take runM
  have pre : g_Board_take ([bd (some a) l0 R E p0, .lst false (Ds ws)].map some ++ List.replicate (8 - [bd (some a) l0 R E p0, .lst false (Ds ws)].length) none) =
      andThen (loopS (tgN 6) b1_Board_take (Ds ws) [some (bd (some a) l0 R E p0), some (.lst false (Ds ws)), some (.lst true (Ds R)), some (.lst true (Ds E)), some (.int 0), some (.int p0), none, none])
        (sSeq (sFldA "Board" "late" 0 (· + ·) (dVar 4)) (sSeq (sFldO "Board" "_rows" 0 (dN sortN (aCons (dVar 2) aNil))) (sSeq (sFldV "Board" "_ended" 0 3) (sFldO "Board" "_span" 0 (dFz (dVar 5)))))) := by
    simp [g_Board_take, fld_b1, fld_b2, fld_b3, listN_Ds, seqOf_Ds]
  rw [pre]
  unfold endT at lp
  cases e : takeR ws R E 0 p0 with
  | ok R2 E2 l p =>
    rw [e] at lp ln
    obtain ⟨o6, o7, e2⟩ := lp
    rw [e2]
    have hR : R2.length ≤ 1000000 := by have := ln.1; omega
    have t1 : sFldA "Board" "late" 0 (· + ·) (dVar 4) [some (bd (some a) l0 R E p0), some (.lst false (Ds ws)), some (.lst true (Ds R2)), some (.lst true (Ds E2)), some (.int l), some (.int p), o6, o7] = .nx [some (bd (some a) (l0 + l) R E p0), some (.lst false (Ds ws)), some (.lst true (Ds R2)), some (.lst true (Ds E2)), some (.int l), some (.int p), o6, o7] := by
      rw [x_sFldA (c := "Board") (f := "late") (i := 0) (oa := some a) (ns := ["late", "_rows", "_ended", "_span"]) (xs := [.int l0, .lst true (Ds R), .lst true (Ds E), .int p0]) (a := l0) (b := l) rfl (by simp) (by simp)]
      exact put_b0 (some a) l0 R E p0 (l0 + l) rfl
    show endM _ _ (andThen (.nx _) _) = _
    rw [andThen_nx]
    show endM _ _ (andThen (sFldA "Board" "late" 0 (· + ·) (dVar 4) _) _) = _
    rw [t1, andThen_nx]
    have t2 := put_b1 (some a) (l0 + l) R E p0 (srtD R2) (ρ := [some (bd (some a) (l0 + l) R E p0), some (.lst false (Ds ws)), some (.lst true (Ds R2)), some (.lst true (Ds E2)), some (.int l), some (.int p), o6, o7]) rfl
    have t3 := put_b2 (some a) (l0 + l) (srtD R2) E p0 E2 (ρ := [some (bd (some a) (l0 + l) (srtD R2) E p0), some (.lst false (Ds ws)), some (.lst true (Ds R2)), none, some (.int l), some (.int p), o6, o7]) rfl
    have t4 := put_b3 (some a) (l0 + l) (srtD R2) E2 p0 p (ρ := [some (bd (some a) (l0 + l) (srtD R2) E2 p0), some (.lst false (Ds ws)), some (.lst true (Ds R2)), none, some (.int l), some (.int p), o6, o7]) rfl
    simp [sortN_dm (show Dm.dep Sn ≤ 20 by decide) _ _ hR, t2, t3, t4, endM, outsE, takeA]
  | stands s =>
    rw [e] at lp
    obtain ⟨r2, r3, r4, r5, r6, r7, e2⟩ := lp
    rw [e2]
    simp [endM, outsE, takeA]
  | not s =>
    rw [e] at lp
    obtain ⟨r2, r3, r4, r5, r6, r7, e2⟩ := lp
    rw [e2]
    simp [endM, outsE, takeA]
def takeM (l0 : Int) : TR → MR
  | .ok R E l p => .ok .non [bd none (l0 + l) (srtD R) E p]
  | .stands s => .ex "StandsAlready" ["session"] [Dm.d s]
  | .not s => .ex "NotStanding" ["session"] [Dm.d s]
@[simp] theorem can_bd (oa : Option Addr) (l0 : Int) (R E : List Sn) (p : Int) : canL [bd oa l0 R E p] = some [bd none l0 R E p] := rfl
theorem one_adr {as : List Addr} (h : as.length = 1) : ∃ a, as = [a] := List.length_eq_one_iff.mp h
theorem take_call (l0 : Int) (R E : List Sn) (p0 : Int) (ws : List Wd) (h1 : R.length + ws.length ≤ 100000) (h2 : E.length + ws.length ≤ 100000) :
    callM [true, false] F_Board_take [bd none l0 R E p0] [.lst false (Ds ws)] = takeM l0 (takeR ws R E 0 p0) := by
  have key : ∀ as : List Addr, as.length = 1 → F_Board_take (mix [true, false] (adrL as [bd none l0 R E p0]) [.lst false (Ds ws)]) = takeA (as.headD 0) l0 (takeR ws R E 0 p0) := fun as ha => by
    obtain ⟨a, rfl⟩ := one_adr ha
    exact take_ok a l0 R E p0 ws h1 h2
  cases e : takeR ws R E 0 p0 with
  | ok R2 E2 l p =>
    refine callM_ok (fun as ha => ?_) rfl rfl
    rw [key as ha, e]
    obtain ⟨a, rfl⟩ := one_adr ha
    rfl
  | stands s => exact callM_ex fun as ha => by rw [key as ha, e]; rfl
  | not s => exact callM_ex fun as ha => by rw [key as ha, e]; rfl
def iaddA (a : Addr) (l0 : Int) : TR → Ou D
  | .ok R E l p => .ok (.wth (.pin a) [bd (some a) (l0 + l) (srtD R) E p])
  | .stands s => .ex "StandsAlready" ["session"] [Dm.d s]
  | .not s => .ex "NotStanding" ["session"] [Dm.d s]
theorem isOwn_bd (oa : Option Addr) (l0 : Int) (R E : List Sn) (p : Int) (m : Str) (h : bNs.contains m = false) (r : List D) : isOwn "Board" m (bd oa l0 R E p :: r) = true := by
  show (("Board" : Str) == "Board" && !bNs.contains m) = true
  rw [h, beq_self_eq_true]; rfl
theorem take_meth {ρ ρ1 : Env} {i : Nat} {t : Env → Ou (List D)} {oa : Option Addr} (l0 : Int) (R E : List Sn) (p0 : Int) (o : Bool) (ws : List Wd) (h1 : R.length + ws.length ≤ 100000) (h2 : E.length + ws.length ≤ 100000)
    (ht : takeL [i] ρ = some ([bd oa l0 R E p0], ρ1)) (ha : t (frzE ρ1) = .ok [.lst o (Ds ws)]) :
    dMethM "Board" "take" [true, false] F_Board_take [i] t ρ = match takeR ws R E 0 p0 with
      | .ok R2 E2 l p => .ok .non (putL [i] [bd oa (l0 + l) (srtD R2) E2 p] ρ1)
      | .stands s => .ex "StandsAlready" ["session"] [Dm.d s] (putL [i] [bd oa l0 R E p0] ρ1)
      | .not s => .ex "NotStanding" ["session"] [Dm.d s] (putL [i] [bd oa l0 R E p0] ρ1) := by
  have hc : canL [bd oa l0 R E p0] = some [bd none l0 R E p0] := rfl
  have ef : D.frzs [.lst o (Ds ws)] = [.lst false (Ds ws)] := by cases o <;> simp
  have hcl : D.clns [bd none l0 R E p0] = true := by show ((bd none l0 R E p0).cln && true) = true; rw [bd_cln]; rfl
  have cT := take_call l0 R E p0 ws h1 h2
  rw [x_dMethM ht (isOwn_bd oa l0 R E p0 "take" (by decide +kernel) []) ha]
  cases e : takeR ws R E 0 p0 with
  | ok R2 E2 l p =>
    rw [e] at cT
    rw [afterM_ok hc (by rw [ef]; exact cT) rfl (by show ((bd none (l0 + l) (srtD R2) E2 p).cln && true) = true; rw [bd_cln]; rfl)]
    rfl
  | stands s =>
    rw [e] at cT
    rw [afterM_ex hc (by rw [ef]; exact cT) (by show ((Dm.d s : D).cln && true) = true; rw [Dm_cln]; rfl) hcl]
    rfl
  | not s =>
    rw [e] at cT
    rw [afterM_ex hc (by rw [ef]; exact cT) (by show ((Dm.d s : D).cln && true) = true; rw [Dm_cln]; rfl) hcl]
    rfl
theorem iadd_ok (a : Addr) (l0 : Int) (R E : List Sn) (p0 : Int) (ws : List Wd) (h1 : R.length + ws.length ≤ 100000) (h2 : E.length + ws.length ≤ 100000) :
    F_Board___iadd__ [bd (some a) l0 R E p0, .lst false (Ds ws)] = iaddA a l0 (takeR ws R E 0 p0) := by
  have m := take_meth (ρ := [some (bd (some a) l0 R E p0), some (.lst false (Ds ws))]) (i := 0) (t := aCons (dFz (dVar 1)) aNil) (oa := some a) l0 R E p0 false ws h1 h2 rfl (by simp [frzE])
  unfold F_Board___iadd__ runM
  show endM _ _ (g_Board___iadd__ [some (bd (some a) l0 R E p0), some (.lst false (Ds ws))]) = _
  unfold g_Board___iadd__
  simp only [x_sSeq, x_sDropM, m]
  cases e : takeR ws R E 0 p0 with
  | ok R2 E2 l p => rfl
  | stands s => simp [endM, outsE, iaddA, putL]
  | not s => simp [endM, outsE, iaddA, putL]
theorem iself_ok (a : Addr) (l0 : Int) (R E : List Sn) (p0 : Int) (ws : List Wd) (h1 : R.length + ws.length ≤ 100000) (h2 : E.length + ws.length ≤ 100000) :
    selfF F_Board___iadd__ [bd (some a) l0 R E p0, .lst false (Ds ws)] = takeA a l0 (takeR ws R E 0 p0) := by
  have q := iadd_ok a l0 R E p0 ws h1 h2
  unfold selfF
  rw [q]
  cases takeR ws R E 0 p0 with
  | ok R2 E2 l p => show (if a = a then _ else _) = _; rw [if_pos rfl]; rfl
  | stands s => rfl
  | not s => rfl
theorem iadd_call (l0 : Int) (R E : List Sn) (p0 : Int) (ws : List Wd) (h1 : R.length + ws.length ≤ 100000) (h2 : E.length + ws.length ≤ 100000) :
    callM [true, false] (selfF F_Board___iadd__) [bd none l0 R E p0] [.lst false (Ds ws)] = takeM l0 (takeR ws R E 0 p0) := by
  have key : ∀ as : List Addr, as.length = 1 → selfF F_Board___iadd__ (mix [true, false] (adrL as [bd none l0 R E p0]) [.lst false (Ds ws)]) = takeA (as.headD 0) l0 (takeR ws R E 0 p0) := fun as ha => by
    obtain ⟨a, rfl⟩ := one_adr ha
    exact iself_ok a l0 R E p0 ws h1 h2
  cases e : takeR ws R E 0 p0 with
  | ok R2 E2 l p =>
    refine callM_ok (fun as ha => ?_) rfl rfl
    rw [key as ha, e]
    obtain ⟨a, rfl⟩ := one_adr ha
    rfl
  | stands s => exact callM_ex fun as ha => by rw [key as ha, e]; rfl
  | not s => exact callM_ex fun as ha => by rw [key as ha, e]; rfl
theorem iadd_meth {ρ ρ1 : Env} {i : Nat} {t : Env → Ou (List D)} {oa : Option Addr} (l0 : Int) (R E : List Sn) (p0 : Int) (o : Bool) (ws : List Wd) (h1 : R.length + ws.length ≤ 100000) (h2 : E.length + ws.length ≤ 100000)
    (ht : takeL [i] ρ = some ([bd oa l0 R E p0], ρ1)) (ha : t (frzE ρ1) = .ok [.lst o (Ds ws)]) :
    dMethM "Board" "__iadd__" [true, false] (selfF F_Board___iadd__) [i] t ρ = match takeR ws R E 0 p0 with
      | .ok R2 E2 l p => .ok .non (putL [i] [bd oa (l0 + l) (srtD R2) E2 p] ρ1)
      | .stands s => .ex "StandsAlready" ["session"] [Dm.d s] (putL [i] [bd oa l0 R E p0] ρ1)
      | .not s => .ex "NotStanding" ["session"] [Dm.d s] (putL [i] [bd oa l0 R E p0] ρ1) := by
  have hc : canL [bd oa l0 R E p0] = some [bd none l0 R E p0] := rfl
  have ef : D.frzs [.lst o (Ds ws)] = [.lst false (Ds ws)] := by cases o <;> simp
  have hcl : D.clns [bd none l0 R E p0] = true := by show ((bd none l0 R E p0).cln && true) = true; rw [bd_cln]; rfl
  have cT := iadd_call l0 R E p0 ws h1 h2
  rw [x_dMethM ht (isOwn_bd oa l0 R E p0 "__iadd__" (by decide +kernel) []) ha]
  cases e : takeR ws R E 0 p0 with
  | ok R2 E2 l p =>
    rw [e] at cT
    rw [afterM_ok hc (by rw [ef]; exact cT) rfl (by show ((bd none (l0 + l) (srtD R2) E2 p).cln && true) = true; rw [bd_cln]; rfl)]
    rfl
  | stands s =>
    rw [e] at cT
    rw [afterM_ex hc (by rw [ef]; exact cT) (by show ((Dm.d s : D).cln && true) = true; rw [Dm_cln]; rfl) hcl]
    rfl
  | not s =>
    rw [e] at cT
    rw [afterM_ex hc (by rw [ef]; exact cT) (by show ((Dm.d s : D).cln && true) = true; rw [Dm_cln]; rfl) hcl]
    rfl
theorem binit_ok (a : Addr) : F_Board___init__ a [] = .ok (bd none 0 [] [] 0) := by
  have p1 : putO "Board" "_rows" 0 [some (.own (some a) "Board" ["late"] [.int 0])] (.lst true []) = .nx [some (.own (some a) "Board" ["late", "_rows"] [.int 0, .lst true []])] := by
    rw [x_putO (ns := ["late"]) rfl (by decide +kernel) (by decide), show putNs "_rows" ["late"] = (["late", "_rows"] : List Str) by decide +kernel]
    unfold putXs
    rw [if_neg (by decide +kernel)]
    rfl
  have p2 : putO "Board" "_ended" 0 [some (.own (some a) "Board" ["late", "_rows"] [.int 0, .lst true []])] (.lst true []) = .nx [some (.own (some a) "Board" ["late", "_rows", "_ended"] [.int 0, .lst true [], .lst true []])] := by
    rw [x_putO (ns := ["late", "_rows"]) rfl (by decide +kernel) (by decide), show putNs "_ended" ["late", "_rows"] = (["late", "_rows", "_ended"] : List Str) by decide +kernel]
    unfold putXs
    rw [if_neg (by decide +kernel)]
    rfl
  have p3 : putO "Board" "_span" 0 [some (.own (some a) "Board" ["late", "_rows", "_ended"] [.int 0, .lst true [], .lst true []])] (.int 0) = .nx [some (.own (some a) "Board" ["late", "_rows", "_ended", "_span"] [.int 0, .lst true [], .lst true [], .int 0])] := by
    rw [x_putO (ns := ["late", "_rows", "_ended"]) rfl (by decide +kernel) (by decide), show putNs "_span" ["late", "_rows", "_ended"] = (["late", "_rows", "_ended", "_span"] : List Str) by decide +kernel]
    unfold putXs
    rw [if_neg (by decide +kernel)]
    rfl
  show nFld "Board" "late" (dC (.int 0)) h_Board___init__ a [some (.pin a)] = _
  unfold nFld
  rw [if_pos (show ([some (D.pin a)] : Env)[0]? = some (some (.pin a)) from rfl)]
  have h : h_Board___init__ [some (.own (some a) "Board" ["late"] [.int 0])] = .nx [some (.own (some a) "Board" ["late", "_rows", "_ended", "_span"] [.int 0, .lst true [], .lst true [], .int 0])] := by
    simp [h_Board___init__, p1, p2, p3]
  show (match h_Board___init__ [some (.own (some a) "Board" ["late"] [.int 0])] with
    | .nx ρ2 => _
    | .ex c ns xs _ => Ou.ex c ns xs
    | _ => .bad) = _
  rw [h]
  show (if a = a ∧ ("Board" : Str) = "Board" then _ else _) = _
  rw [if_pos ⟨rfl, rfl⟩]
  rfl
theorem board_new : chA F_Board___init__ [] = .ok (bd none 0 [] [] 0) := chA_eq binit_ok
end
end DL
namespace Lw
open PySem hiding Env
open PySem.Spec PyProof.Rows L2 DL
noncomputable section
theorem sc__law_row : FnScope ["_law_cell_here", "_law_count_here", "_law_size", "_law_row_here", "_law_k", "_law_seed", "_law_mixed"] ["_law_cell_here", "_law_count_here"] (defScope (topS 9)) := ⟨rfl, rfl, rfl, by decide +kernel, rfl, by decide +kernel, by decide +kernel⟩
theorem sc__law_big : FnScope ["_law_cell_here", "_law_number"] ["_law_cell_here"] (defScope (topS 10)) := ⟨rfl, rfl, rfl, by decide +kernel, rfl, by decide +kernel, by decide +kernel⟩
theorem sc__law_value : FnScope ["_law_number", "_law_other", "_law_big_here"] ["_law_number", "_law_other", "_law_big_here"] (defScope (topS 12)) := ⟨rfl, rfl, rfl, by decide +kernel, rfl, by decide +kernel, by decide +kernel⟩
theorem sc__law_standing_pool : FnScope ["_law_row_here", "_law_count_here", "_law_base", "_law_big_here", "_law_pool", "_law_keys", "_law_k", "_law_part", "_law_first", "_law_word", "_law_session", "_law_j"] ["_law_row_here", "_law_count_here", "_law_base", "_law_big_here"] (defScope (topS 13)) := ⟨rfl, rfl, rfl, by decide +kernel, rfl, by decide +kernel, by decide +kernel⟩
def e1__law_standing_pool : Env → Ou D := (dCall F__law_value (aCons (d2 addD (d2 ixD (dVar 7) (dC (.int 2))) (dVar 11)) (aCons (d2 ixD (dVar 7) (dC (.int 3))) (aCons (dVar 3) aNil))))
def b1__law_standing_pool : Env → Os := (sSeq (sSet 7 (dSl (dVar 0) (pSome (d2 mulD (dC (.int 6)) (dVar 6))) (pSome (d2 addD (d2 mulD (dC (.int 6)) (dVar 6)) (dC (.int 6))))))
    (sSeq (sSet 8 (d2 addD (dVar 2) (d2 ixD (dLst (aCons (dC (.int 0)) (aCons (d2 powD (dC (.int 10)) (dC (.int 7))) (aCons (d1 negD (d2 powD (dC (.int 10)) (dC (.int 7)))) (aCons (dC (.int 99999999)) aNil))))) (d2 modD (d2 fdivD (dN intN (aCons (d2 ixD (dVar 7) (dC (.int 1))) aNil)) (dC (.int 3))) (dC (.int 4))))))
    (sSeq (sSet 9 (dN tupleN (aCons (dLc (DL.iRng1 (aCons (d2 addD (dC (.int 1)) (d2 modD (dN intN (aCons (d2 ixD (dVar 7) (dC (.int 4))) aNil)) (dC (.int 3)))) aNil)) 11 [11] bYes e1__law_standing_pool) aNil)))
    (sSeq (sSet 10 (dTup (aCons (dFz (d2 ixD (dVar 5) (d2 modD (dN intN (aCons (d2 ixD (dVar 7) (dC (.int 0))) aNil)) (dC (.int 8))))) (aCons (dFz (dVar 8)) (aCons (d2 addD (dVar 8) (d2 modD (dN intN (aCons (d2 ixD (dVar 7) (dC (.int 1))) aNil)) (dC (.int 3)))) (aCons (dFz (dVar 9)) aNil))))))
    (sIf (b2 notInD (dVar 10) (dVar 4)) (sApp 4 (dFz (dVar 10))) sNil)))))
def g__law_standing_pool : Env → Os := (sSeq (sSet 4 (dLst aNil))
    (sSeq (sSet 5 (dLst (aCons (dC (.str ("b" : Str))) (aCons (dC (.str ("abcdefgh" : Str))) (aCons (dC (.str ("ab" : Str))) (aCons (dC (.str ("abcdefghi" : Str))) (aCons (dC (.str ("z" : Str))) (aCons (dC (.str ("abcdefghijklmnopqrst" : Str))) (aCons (dC (.str ("ba" : Str))) (aCons (dC (.str ("a" : Str))) aNil))))))))))
    (sSeq (sFor (DL.iRng1 (aCons (dVar 1) aNil)) (tgN 6) b1__law_standing_pool)
    (sRetV 4))))
def F__law_standing_pool : List D → Ou D := runF 12 g__law_standing_pool
theorem sc_span_of : FnScope ["session"] ["session"] (defScope (topS 5)) := ⟨rfl, rfl, rfl, by decide +kernel, rfl, by decide +kernel, by decide +kernel⟩
theorem sc_Board_take : FnScope ["self", "words", "rows", "ended", "late", "span", "word", "session"] ["self", "words"] (defScope mS_Board_take) := ⟨rfl, rfl, rfl, by decide +kernel, rfl, by decide +kernel, by decide +kernel⟩
theorem sc__law_cell : FnScope ["_law_script", "_law_k"] ["_law_script", "_law_k"] (defScope (topS 8)) := ⟨rfl, rfl, rfl, by decide +kernel, rfl, by decide +kernel, by decide +kernel⟩
theorem sc__law_count : FnScope ["_law_number", "_law_most"] ["_law_number", "_law_most"] (defScope (topS 11)) := ⟨rfl, rfl, rfl, by decide +kernel, rfl, by decide +kernel, by decide +kernel⟩
theorem sc__law_lines : FnScope ["_law_sessions", "_law_lines_here", "_law_key", "_law_first", "_law_last", "_law_word", "_law_head", "_law_x"] ["_law_sessions"] (defScope (topS 14)) := ⟨rfl, rfl, rfl, by decide +kernel, rfl, by decide +kernel, by decide +kernel⟩
def e1__law_lines : Env → Ou D := (dN strN (aCons (dVar 7) aNil))
def b1__law_lines : Env → Os := (sSeq (sSet 6 (d2 addD (d2 addD (d2 addD (dM1 ljustD (dVar 2) (dC (.int 8))) (dM1 rjustD (dN strN (aCons (dVar 3) aNil)) (dC (.int 8)))) (dM1 rjustD (dN strN (aCons (dVar 4) aNil)) (dC (.int 8)))) (dC (.str ("  " : Str)))))
    (sApp 1 (d2 addD (dVar 6) (dM1 joinD (dC (.str (" " : Str))) (dLc (iSeqB (dVar 5)) 7 [7] bYes e1__law_lines)))))
def g__law_lines : Env → Os := (sSeq (sSet 1 (dLst aNil))
    (sSeq (sFor (iSeq (dN sortN (aCons (dVar 0) aNil))) (tgU [2, 3, 4, 5]) b1__law_lines)
    (sRetV 1)))
def F__law_lines : List D → Ou D := runF 8 g__law_lines
theorem sc_Board___iter__ : FnScope ["self"] ["self"] (defScope mS_Board___iter__) := ⟨rfl, rfl, rfl, by decide +kernel, rfl, by decide +kernel, by decide +kernel⟩
theorem sc_Board_listing : FnScope ["self", "lines", "key", "first", "last", "told", "words", "number"] ["self"] (defScope mS_Board_listing) := ⟨rfl, rfl, rfl, by decide +kernel, rfl, by decide +kernel, by decide +kernel⟩
def e1_Board_listing : Env → Ou D := (dN strN (aCons (dVar 7) aNil))
def b1_Board_listing : Env → Os := (sSeq (sSet 6 (dM1 joinD (dC (.str (" " : Str))) (dLc (iSeqB (dVar 5)) 7 [7] bYes e1_Board_listing)))
    (sApp 1 (dFs [(dFmtL (dVar 2)), (dFmtR (dVar 3)), (dFmtR (dVar 4)), (dC (.str ("  " : Str))), (dVar 6)])))
def g_Board_listing : Env → Os := (sSeq (sSet 1 (dLst aNil))
    (sSeq (sFor (iSeq (dFz (d1 (fldD "_rows" ["Board"]) (dVar 0)))) (tgU [2, 3, 4, 5]) b1_Board_listing)
    (sRetV 1)))
def F_Board_listing : List D → Ou D := runF 8 g_Board_listing
theorem sc_Board___len__ : FnScope ["self"] ["self"] (defScope mS_Board___len__) := ⟨rfl, rfl, rfl, by decide +kernel, rfl, by decide +kernel, by decide +kernel⟩
theorem sc_Board_rows : FnScope ["self"] ["self"] (defScope mS_Board_rows) := ⟨rfl, rfl, rfl, by decide +kernel, rfl, by decide +kernel, by decide +kernel⟩
def mt_listing : MTab := [("Board", F_Board_listing)]
theorem sc__law_shown : FnScope ["_law_board", "_law_sessions", "_law_walked", "_law_session", "_law_lines_here", "_law_line"] ["_law_board", "_law_sessions"] (defScope (topS 15)) := ⟨rfl, rfl, rfl, by decide +kernel, rfl, by decide +kernel, by decide +kernel⟩
def b1__law_shown : Env → Os := (sApp 2 (dFz (dVar 3)))
def e1__law_shown : Env → Ou D := (dIsi .str (dVar 5))
def g__law_shown : Env → Os := (sSeq (sSet 2 (dLst aNil))
    (sSeq (sFor (iOwn "Board" "_rows" (dVar 0)) (tgN 3) b1__law_shown)
    (sSeq (sIf (bOr (b2 neD (dVar 2) (dN sortN (aCons (dVar 1) aNil))) (bOr (b2 neD (dListO "Board" "_rows" (dVar 0)) (dN sortN (aCons (dVar 1) aNil))) (b2 neD (dLenO "Board" F_Board___len__ (dVar 0)) (dN lenN (aCons (dVar 1) aNil))))) (sRet (dC (.bl false))) sNil)
    (sSeq (sSet 4 (dMeth "listing" (mtF mt_listing) (dVar 0) aNil))
    (sSeq (sIf (bOr (bNot (bTru (dIsi .list (dVar 4)))) (bNot (bTru (dN allN (aCons (dLc (iSeqB (dVar 4)) 5 [5] bYes e1__law_shown) aNil))))) (sRet (dC (.bl false))) sNil)
    (sSeq (sIf (b2 neD (dVar 4) (dCall F__law_lines (aCons (dVar 1) aNil))) (sRet (dC (.bl false))) sNil)
    (sSeq (sApp 4 (dC (.str ("" : Str))))
    (sRet (dAnd (dBl (b2 eqD (dMeth "listing" (mtF mt_listing) (dVar 0) aNil) (dCall F__law_lines (aCons (dVar 1) aNil)))) (dBl (b2 eqD (dListO "Board" "_rows" (dVar 0)) (dProp "Board" F_Board_rows (dVar 0)))))))))))))
def F__law_shown : List D → Ou D := runF 6 g__law_shown
theorem sc_Board___iadd__ : FnScope ["self", "words"] ["self", "words"] (defScope mS_Board___iadd__) := ⟨rfl, rfl, rfl, by decide +kernel, rfl, by decide +kernel, by decide +kernel⟩
theorem sc_Board___init__ : FnScope ["self"] ["self"] (defScope mS_Board___init__) := ⟨rfl, rfl, rfl, by decide +kernel, rfl, by decide +kernel, by decide +kernel⟩
theorem sc_Board___contains__ : FnScope ["self", "session"] ["self", "session"] (defScope mS_Board___contains__) := ⟨rfl, rfl, rfl, by decide +kernel, rfl, by decide +kernel, by decide +kernel⟩
theorem sc_Board_ended : FnScope ["self"] ["self"] (defScope mS_Board_ended) := ⟨rfl, rfl, rfl, by decide +kernel, rfl, by decide +kernel, by decide +kernel⟩
theorem sc_law : FnScope ["_law_script", "_law_d", "_law_base", "_law_big_here", "_law_pool", "_law_board", "_law_other", "_law_half", "_law_mine", "_law_yours", "_law_session", "_law_gone", "_law_ended", "_law_word", "_law_x"] ["_law_script"] (defScope (topS 16)) := ⟨rfl, rfl, rfl, by decide +kernel, rfl, by decide +kernel, by decide +kernel⟩
def e1_law : Env → Ou D := (d2 addD (dTup (aCons (dC (.str ("tell" : Str))) aNil)) (dVar 10))
def e2_law : Env → Ou D := (d2 addD (dTup (aCons (dC (.str ("tell" : Str))) aNil)) (dVar 10))
def b1_law : Env → Os := (sIf (bSnap (bOr (b2 neD (dInO "Board" F_Board___contains__ (dVar 10) (dVar 5)) (dBl (b2 inD (dVar 10) (dVar 8)))) (b2 neD (dInO "Board" F_Board___contains__ (dVar 10) (dVar 6)) (dBl (b2 inD (dVar 10) (dVar 9)))))) (sRet (dC (.bl false))) sNil)
def e3_law : Env → Ou D := (dFz (dVar 14))
def e4_law : Env → Ou D := (dFz (dVar 14))
def t16_law : Env → Os := (sRet (dSnap (dAnd (dCall F__law_shown (aCons (dVar 5) (aCons (dVar 8) aNil))) (dAnd (dCall F__law_shown (aCons (dVar 6) (aCons (dVar 9) aNil))) (dBl (b2 eqD (d1 (fldD "late" ["Board"]) (dVar 5)) (dC (.int 0))))))))
def t15_law : Env → Os := (sSeq (sIf (b2 gtD (dN lenN (aCons (dVar 4) aNil)) (dC (.int 0))) (sSeq (sSet 11 (dFz (d2 ixD (dVar 4) (d2 modD (dN intN (aCons (d2 ixD (dVar 1) (dC (.int 2))) aNil)) (dN lenN (aCons (dVar 4) aNil))))))
    (sSeq (sSet 12 (dLst aNil))
    (sSeq (sSet 13 (d2 addD (dTup (aCons (dC (.str ("retract" : Str))) aNil)) (dVar 11)))
    (sSeq (sIf (b2 eqD (d2 modD (dN intN (aCons (d2 ixD (dVar 1) (dC (.int 3))) aNil)) (dC (.int 2))) (dC (.int 0))) (sSeq (sSet 13 (d2 addD (dTup (aCons (dC (.str ("final" : Str))) aNil)) (dVar 11)))
    (sSet 12 (dLst (aCons (dFz (dVar 11)) aNil)))) sNil)
    (sSeq (sIf (b2 inD (dVar 11) (dVar 8)) (sSeq (sDropM (dMethM "Board" "__iadd__" [true, false] (selfF F_Board___iadd__) [5] (aCons (dLst (aCons (dFz (dVar 13)) aNil)) aNil)))
    (sSeq (sSet 8 (dLc (iSeqB (dVar 8)) 14 [14] (b2 neD (dVar 14) (dVar 11)) e3_law))
    (sIf (bSnap (bOr (b2 neD (dProp "Board" F_Board_ended (dVar 5)) (dVar 12)) (b2 neD (dProp "Board" F_Board_ended (dVar 6)) (dLst aNil)))) (sRet (dC (.bl false))) sNil))) (sSeq (sDropM (dMethM "Board" "take" [true, false] F_Board_take [6] (aCons (dLst (aCons (dFz (dVar 13)) aNil)) aNil)))
    (sSeq (sSet 9 (dLc (iSeqB (dVar 9)) 14 [14] (b2 neD (dVar 14) (dVar 11)) e4_law))
    (sIf (bSnap (bOr (b2 neD (dProp "Board" F_Board_ended (dVar 6)) (dVar 12)) (b2 neD (dProp "Board" F_Board_ended (dVar 5)) (dLst aNil)))) (sRet (dC (.bl false))) sNil))))
    (sIf (bSnap (bOr (tInO "Board" F_Board___contains__ (dVar 11) (dVar 5)) (tInO "Board" F_Board___contains__ (dVar 11) (dVar 6)))) (sRet (dC (.bl false))) sNil)))))) sNil)
    t16_law)
def t14_law : Env → Os := (sFrz 4 (sSeq (sFor (iSeq (dFz (dVar 4))) (tgN 10) b1_law)
    t15_law))
def t13_law : Env → Os := (sSeq (sIf (bSnap (tInO "Board" F_Board___contains__ (dTup (aCons (dC (.str ("nobody" : Str))) (aCons (dC (.int 0)) (aCons (dC (.int 0)) (aCons (dTup (aCons (dC (.int 0)) aNil)) aNil))))) (dVar 5))) (sRet (dC (.bl false))) sNil)
    t14_law)
def t12_law : Env → Os := (sSeq (sIf (bSnap (bOr (bNot (bTru (dCall F__law_shown (aCons (dVar 5) (aCons (dVar 8) aNil))))) (bNot (bTru (dCall F__law_shown (aCons (dVar 6) (aCons (dVar 9) aNil))))))) (sRet (dC (.bl false))) sNil)
    t13_law)
def t11_law : Env → Os := (sSeq (sDropM (dMethM "Board" "__iadd__" [true, false] (selfF F_Board___iadd__) [6] (aCons (dLc (iSeqB (dVar 9)) 10 [10] bYes e2_law) aNil)))
    t12_law)
def t10_law : Env → Os := (sSeq (sDropM (dMethM "Board" "take" [true, false] F_Board_take [5] (aCons (dLc (iSeqB (dVar 8)) 10 [10] bYes e1_law) aNil)))
    t11_law)
def t9_law : Env → Os := (sSeq (sSet 9 (d1 revD (dSl (dVar 4) (pSome (dVar 7)) pNone)))
    t10_law)
def t8_law : Env → Os := (sSeq (sSet 8 (dSl (dVar 4) pNone (pSome (dVar 7))))
    t9_law)
def t7_law : Env → Os := (sSeq (sSet 7 (d2 modD (dN intN (aCons (d2 ixD (dVar 1) (dC (.int 1))) aNil)) (d2 addD (dN lenN (aCons (dVar 4) aNil)) (dC (.int 1)))))
    t8_law)
def t6_law : Env → Os := (sSeq (sSet 6 (dCall (chA F_Board___init__) aNil))
    t7_law)
def t5_law : Env → Os := (sSeq (sSet 5 (dCall (chA F_Board___init__) aNil))
    t6_law)
def t4_law : Env → Os := (sSeq (sSet 4 (dCall F__law_standing_pool (aCons (dCall F__law_row (aCons (dCall F__law_cell (aCons (dVar 0) (aCons (dC (.int 1)) aNil))) (aCons (dC (.int 48)) aNil))) (aCons (dCall F__law_count (aCons (d2 ixD (dVar 1) (dC (.int 0))) (aCons (dC (.int 8)) aNil))) (aCons (dVar 2) (aCons (dVar 3) aNil))))))
    t5_law)
def t3_law : Env → Os := (sSeq (sSet 3 (dCall F__law_big (aCons (dCall F__law_cell (aCons (dVar 0) (aCons (dC (.int 3)) aNil))) aNil)))
    t4_law)
def t2_law : Env → Os := (sSeq (sSet 2 (dCall F__law_big (aCons (dCall F__law_cell (aCons (dVar 0) (aCons (dC (.int 2)) aNil))) aNil)))
    t3_law)
def t1_law : Env → Os := (sSeq (sSet 1 (dCall F__law_row (aCons (dCall F__law_cell (aCons (dVar 0) (aCons (dC (.int 0)) aNil))) (aCons (dC (.int 5)) aNil))))
    t2_law)
def g_law : Env → Os := t1_law
def F_law : List D → Ou D := runF 15 g_law
section
variable [Tb] {P : Program} {w : World} {K : PySem.W.Frag} {mg : Str → Option Value} {base : Heap} {f : Addr} {fd : FuncData}
theorem dn__law_row (F : FnP K "_law_row" (topS 9) f fd) (hm : mg "_law_row" = some (.ref f))  (m_abs : mg "abs" = none) (m_range : mg "range" = none) (m_int : mg "int" = none) : Dn P w K mg base 1 "_law_row" 2 F__law_row := by
  refine dn_of (N := ["_law_cell_here", "_law_count_here", "_law_size", "_law_row_here", "_law_k", "_law_seed", "_law_mixed"]) (ps := ["_law_cell_here", "_law_count_here"]) (g := g__law_row) F hm sc__law_row (fun _ _ _ _ _ _ us hl => match us, hl with | [_, _], _ => rfl) fun cdv A outer s H E C => ?_
  have hu := C.hr.units
  have hu65 := C.hr.units65
  refine DSs.cons (DS.set 2 (DE.callB call_abs opN_abs (by rfl) m_abs boot_abs (DAB.cons (DB.var 0) DAB.nil)) C.nd) ?_
  refine DSs.cons (DS.set 3 (DE.lst DA.nil) C.nd) ?_
  refine DSs.cons (DS.if_ (DT.cmp op_ge op_geD (DB.var 2) (DB.ofE (DE.op2 op_pow op_powD (DB.ofE DE.int) (DB.ofE DE.int))) (nomark _)) (DSs.cons (DS.for_ C (DI.rng1 (DAB.cons (DB.var 1) DAB.nil) m_range) (DG.name 4 C.nd) (DSs.cons (DS.app 3 (DE.op2 op_mod op_modD (DB.ofE (DE.callTy call_int1 opN_int (by rfl) m_int boot_int (DAB.cons (DB.var 2) DAB.nil))) (DB.ofE DE.int)))
    (DSs.one (DS.set 2 (DE.op2 op_fdivW op_fdivD (DB.var 2) (DB.ofE DE.int)) C.nd))))
    (DSs.one (DS.retV 3))) DSs.nil) ?_
  refine DSs.cons (DS.set 5 (DE.op2 op_addA op_addD (DB.ofE (DE.op2 op_mulA op_mulD (DB.ofE DE.int) (DB.var 2))) (DB.ofE (DE.callTy call_int1 opN_int (by rfl) m_int boot_int (DAB.cons (DB.ofE (DE.cmp op_lt op_ltD (DB.var 0) (DB.ofE DE.int) (nomark _))) DAB.nil)))) C.nd) ?_
  refine DSs.cons (DS.for_ C (DI.rng1 (DAB.cons (DB.var 1) DAB.nil) m_range) (DG.name 4 C.nd) (DSs.cons (DS.set 6 (DE.op2 op_mod op_modD (DB.ofE (DE.callTy call_int1 opN_int (by rfl) m_int boot_int (DAB.cons (DB.ofE (DE.op2 op_mulA op_mulD (DB.var 5) (DB.ofE (DE.op2 op_addA op_addD (DB.ofE (DE.op2 op_addA op_addD (DB.ofE DE.int) (DB.ofE (DE.op2 op_mulA op_mulD (DB.ofE (DE.op2 op_mulA op_mulD (DB.ofE DE.int) (DB.var 4))) (DB.var 4))))) (DB.ofE (DE.op2 op_mulA op_mulD (DB.ofE DE.int) (DB.var 4))))))) DAB.nil))) (DB.ofE DE.int)) C.nd)
    (DSs.cons (DS.set 6 (DE.op2 op_mod op_modD (DB.ofE (DE.callTy call_int1 opN_int (by rfl) m_int boot_int (DAB.cons (DB.ofE (DE.op2 op_addA op_addD (DB.ofE (DE.op2 op_mulA op_mulD (DB.var 6) (DB.var 6))) (DB.ofE (DE.op2 op_mulA op_mulD (DB.var 6) (DB.ofE (DE.op2 op_addA op_addD (DB.var 4) (DB.ofE DE.int))))))) DAB.nil))) (DB.ofE DE.int)) C.nd)
    (DSs.one (DS.app 3 (DE.op2 op_mod op_modD (DB.ofE (DE.callTy call_int1 opN_int (by rfl) m_int boot_int (DAB.cons (DB.var 6) DAB.nil))) (DB.ofE DE.int))))))) ?_
  exact DSs.one (DS.retV 3)
theorem dn__law_big (F : FnP K "_law_big" (topS 10) f fd) (hm : mg "_law_big" = some (.ref f))  (m_abs : mg "abs" = none) (m_int : mg "int" = none) : Dn P w K mg base 1 "_law_big" 1 F__law_big := by
  refine dn_of (N := ["_law_cell_here", "_law_number"]) (ps := ["_law_cell_here"]) (g := g__law_big) F hm sc__law_big (fun _ _ _ _ _ _ us hl => match us, hl with | [_], _ => rfl) fun cdv A outer s H E C => ?_
  have hu := C.hr.units
  have hu65 := C.hr.units65
  refine DSs.cons (DS.set 1 (DE.op2 op_mod op_modD (DB.ofE (DE.callTy call_int1 opN_int (by rfl) m_int boot_int (DAB.cons (DB.ofE (DE.callB call_abs opN_abs (by rfl) m_abs boot_abs (DAB.cons (DB.var 0) DAB.nil))) DAB.nil))) (DB.ofE (DE.op2 op_pow op_powD (DB.ofE DE.int) (DB.ofE DE.int)))) C.nd) ?_
  refine DSs.cons (DS.if_ (DT.cmp op_lt op_ltD (DB.var 0) (DB.ofE DE.int) (nomark _)) (DSs.one (DS.ret (DE.op1 un_neg op_negD (DB.var 1)))) DSs.nil) ?_
  exact DSs.one (DS.retV 1)
theorem dn__law_value (F : FnP K "_law_value" (topS 12) f fd) (hm : mg "_law_value" = some (.ref f))  (m_int : mg "int" = none) : Dn P w K mg base 1 "_law_value" 3 F__law_value := by
  refine dn_of (N := ["_law_number", "_law_other", "_law_big_here"]) (ps := ["_law_number", "_law_other", "_law_big_here"]) (g := g__law_value) F hm sc__law_value (fun _ _ _ _ _ _ us hl => match us, hl with | [_, _, _], _ => rfl) fun cdv A outer s H E C => ?_
  have hu := C.hr.units
  have hu65 := C.hr.units65
  exact DSs.one (DS.ret (DE.ofB (DB.ix (DB.ofE (DE.lst (DA.cons DE.int (DA.cons DE.int (DA.cons DE.int (DA.cons DE.int (DA.cons (DE.op1 un_neg op_negD (DB.ofE DE.int)) (DA.cons DE.int (DA.cons DE.int (DA.cons (DE.ofB (DB.var 1)) (DA.cons (DE.op1 un_neg op_negD (DB.var 1)) (DA.cons (DE.op2 op_addA op_addD (DB.var 2) (DB.var 1)) (DA.cons (DE.op2 op_sub op_subD (DB.var 2) (DB.var 1)) DA.nil))))))))))))) (DB.ofE (DE.op2 op_mod op_modD (DB.ofE (DE.callTy call_int1 opN_int (by rfl) m_int boot_int (DAB.cons (DB.var 0) DAB.nil))) (DB.ofE DE.int))))))
theorem dn__law_standing_pool (F : FnP K "_law_standing_pool" (topS 13) f fd) (hm : mg "_law_standing_pool" = some (.ref f)) (d__law_value : Dn P w K mg base 1 "_law_value" 3 F__law_value) (m_range : mg "range" = none) (m_int : mg "int" = none) (m_tuple : mg "tuple" = none) : Dn P w K mg base 2 "_law_standing_pool" 4 F__law_standing_pool := by
  refine dn_of (N := ["_law_row_here", "_law_count_here", "_law_base", "_law_big_here", "_law_pool", "_law_keys", "_law_k", "_law_part", "_law_first", "_law_word", "_law_session", "_law_j"]) (ps := ["_law_row_here", "_law_count_here", "_law_base", "_law_big_here"]) (g := g__law_standing_pool) F hm sc__law_standing_pool (fun _ _ _ _ _ _ us hl => match us, hl with | [_, _, _, _], _ => rfl) fun cdv A outer s H E C => ?_
  have hu := C.hr.units
  have hu65 := C.hr.units65
  refine DSs.cons (DS.set 4 (DE.lst DA.nil) C.nd) ?_
  refine DSs.cons (DS.set 5 (DE.lst (DA.cons DE.str (DA.cons DE.str (DA.cons DE.str (DA.cons DE.str (DA.cons DE.str (DA.cons DE.str (DA.cons DE.str (DA.cons DE.str DA.nil))))))))) C.nd) ?_
  refine DSs.cons (DS.for_ C (DI.rng1 (DAB.cons (DB.var 1) DAB.nil) m_range) (DG.name 6 C.nd) (DSs.cons (DS.set 7 (DE.slice (DB.var 0) (DO.some (DB.ofE (DE.op2 op_mulA op_mulD (DB.ofE DE.int) (DB.var 6)))) (DO.some (DB.ofE (DE.op2 op_addA op_addD (DB.ofE (DE.op2 op_mulA op_mulD (DB.ofE DE.int) (DB.var 6))) (DB.ofE DE.int))))) C.nd)
    (DSs.cons (DS.set 8 (DE.op2 op_addA op_addD (DB.var 2) (DB.ix (DB.ofE (DE.lst (DA.cons DE.int (DA.cons (DE.op2 op_pow op_powD (DB.ofE DE.int) (DB.ofE DE.int)) (DA.cons (DE.op1 un_neg op_negD (DB.ofE (DE.op2 op_pow op_powD (DB.ofE DE.int) (DB.ofE DE.int)))) (DA.cons DE.int DA.nil)))))) (DB.ofE (DE.op2 op_mod op_modD (DB.ofE (DE.op2 op_fdivW op_fdivD (DB.ofE (DE.callTy call_int1 opN_int (by rfl) m_int boot_int (DAB.cons (DB.ix (DB.var 7) (DB.ofE DE.int)) DAB.nil))) (DB.ofE DE.int))) (DB.ofE DE.int))))) C.nd)
    (DSs.cons (DS.set 9 (DE.callTy call_tuple_of opN_tuple (by rfl) m_tuple boot_tuple (DAB.cons (DB.ofE (DE.lc (own := [("_law_j", 11)]) C (DIB.of (DI.rng1 (DAB.cons (DB.ofE (DE.op2 op_addA op_addD (DB.ofE DE.int) (DB.ofE (DE.op2 op_mod op_modD (DB.ofE (DE.callTy call_int1 opN_int (by rfl) m_int boot_int (DAB.cons (DB.ix (DB.var 7) (DB.ofE DE.int)) DAB.nil))) (DB.ofE DE.int))))) DAB.nil) m_range)) (blkOk_by (by kernel_rfl)) (fun _ _ _ _ _ => pg_name (i:=11) C.nd rfl (Or.inl rfl)) (fun s1 H1 D1 cl1 fp1 => DTs.nil) (fun s1 H1 D1 cl1 fp1 => (DE.call (Ctx.blk C s1 H1 _ _ fp1) d__law_value (DAB.cons (DB.ofE (DE.op2 op_addA op_addD (DB.ix (DB.var 7) (DB.ofE DE.int)) (DB.var 11))) (DAB.cons (DB.ix (DB.var 7) (DB.ofE DE.int)) (DAB.cons (DB.var 3) DAB.nil))))))) DAB.nil)) C.nd)
    (DSs.cons (DS.set 10 (DE.tup (DA.cons (DE.ofB (DB.ix (DB.var 5) (DB.ofE (DE.op2 op_mod op_modD (DB.ofE (DE.callTy call_int1 opN_int (by rfl) m_int boot_int (DAB.cons (DB.ix (DB.var 7) (DB.ofE DE.int)) DAB.nil))) (DB.ofE DE.int))))) (DA.cons (DE.ofB (DB.var 8)) (DA.cons (DE.op2 op_addA op_addD (DB.var 8) (DB.ofE (DE.op2 op_mod op_modD (DB.ofE (DE.callTy call_int1 opN_int (by rfl) m_int boot_int (DAB.cons (DB.ix (DB.var 7) (DB.ofE DE.int)) DAB.nil))) (DB.ofE DE.int)))) (DA.cons (DE.ofB (DB.var 9)) DA.nil))))) C.nd)
    (DSs.one (DS.if_ (DT.cmp (op_notInA hu65) op_notInDD (DB.var 10) (DB.var 4) (by with_unfolding_all rfl)) (DSs.one (DS.app 4 (DE.ofB (DB.var 10)))) DSs.nil))))))) ?_
  exact DSs.one (DS.retV 4)
theorem dn_span_of (F : FnP K "span_of" (topS 5) f fd) (hm : mg "span_of" = some (.ref f))   : Dn P w K mg base 1 "span_of" 1 F_span_of := by
  refine dn_of (N := ["session"]) (ps := ["session"]) (g := g_span_of) F hm sc_span_of (fun _ _ _ _ _ _ us hl => match us, hl with | [_], _ => rfl) fun cdv A outer s H E C => ?_
  have hu := C.hr.units
  have hu65 := C.hr.units65
  exact DSs.one (DS.ret (DE.op2 op_sub op_subD (DB.ix (DB.var 0) (DB.ofE DE.int)) (DB.ix (DB.var 0) (DB.ofE DE.int))))
theorem dn_Board_take (F : FunD K "take" "Board.take" (defArgs mS_Board_take) (defBody mS_Board_take) (defScope mS_Board_take) [] [] f fd) (d_span_of : Dn P w K mg base 1 "span_of" 1 F_span_of) (fo_Board__rows : FldOk K "_rows" ["Board"]) (m_list : mg "list" = none) (fo_Board__ended : FldOk K "_ended" ["Board"]) (fo_Board__span : FldOk K "_span" ["Board"]) (x_StandsAlready : XMk P w K mg base "StandsAlready" ["session"]) (x_NotStanding : XMk P w K mg base "NotStanding" ["session"]) (fo_Board_late : FldOk K "late" ["Board"]) (m_sorted : mg "sorted" = none) : MOkM P w K mg base 3 f fd ["self", "words"] [true, false] F_Board_take := by
  refine ⟨fnM [true, false] (N := ["self", "words", "rows", "ended", "late", "span", "word", "session"]) (ps := ["self", "words"]) (g := g_Board_take) F sc_Board_take rfl fun cdv A outer s H E C => ?_, FunD.bindsN (ps := ["self", "words"]) F fun _ _ _ _ _ _ us hl => match us, hl with | [_, _], _ => rfl⟩
  have hu := C.hr.units
  have hu65 := C.hr.units65
  refine DSs.cons (DS.set 2 (DE.snap (DE.callTy call_list_of opN_list (by rfl) m_list boot_list (DAB.cons (DB.fld fo_Board__rows (DB.var 0)) DAB.nil))) C.nd) ?_
  refine DSs.cons (DS.set 3 (DE.snap (DE.callTy call_list_of opN_list (by rfl) m_list boot_list (DAB.cons (DB.fld fo_Board__ended (DB.var 0)) DAB.nil))) C.nd) ?_
  refine DSs.cons (DS.set 4 DE.int C.nd) ?_
  refine DSs.cons (DS.set 5 (DE.snap (DE.ofB (DB.fld fo_Board__span (DB.var 0)))) C.nd) ?_
  refine DSs.cons (DS.for_ C (DI.seq (DE.ofB (DB.var 1))) (DG.name 6 C.nd) (DSs.cons (DS.set 7 (DE.slice (DB.var 6) (DO.some (DB.ofE DE.int)) DO.none) C.nd)
    (DSs.one (DS.if_ (DT.cmp (op_eqD hu) op_eqDD (DB.ix (DB.var 6) (DB.ofE DE.int)) (DB.ofE DE.str) (nomark _)) (DSs.one (DS.aug 4 op_iaddI op_iaddID (DB.ofE DE.int) C.nd)) (DSs.one (DS.if_ (DT.cmp (op_eqD hu) op_eqDD (DB.ix (DB.var 6) (DB.ofE DE.int)) (DB.ofE DE.str) (nomark _)) (DSs.cons (DS.if_ (DT.cmp (op_inA hu65) op_inDD (DB.var 7) (DB.var 2) (by with_unfolding_all rfl)) (DSs.one (DS.raise C x_StandsAlready (DAB.cons (DB.var 7) DAB.nil))) DSs.nil)
    (DSs.frz 7 (DSs.cons (DS.app 2 (DE.ofB (DB.var 7)))
    (DSs.one (DS.aug 5 op_iaddI op_iaddID (DB.ofE (DE.call C d_span_of (DAB.cons (DB.var 7) DAB.nil))) C.nd))))) (DSs.cons (DS.if_ (DT.cmp (op_notInA hu65) op_notInDD (DB.var 7) (DB.var 2) (by with_unfolding_all rfl)) (DSs.one (DS.raise C x_NotStanding (DAB.cons (DB.var 7) DAB.nil))) DSs.nil)
    (DSs.frz 7 (DSs.cons (DS.rem C 2 (DE.ofB (DB.var 7)))
    (DSs.cons (DS.aug 5 op_isub op_isubID (DB.ofE (DE.call C d_span_of (DAB.cons (DB.var 7) DAB.nil))) C.nd)
    (DSs.one (DS.if_ (DT.cmp (op_eqD hu) op_eqDD (DB.ix (DB.var 6) (DB.ofE DE.int)) (DB.ofE DE.str) (nomark _)) (DSs.frz 7 (DSs.one (DS.app 3 (DE.ofB (DB.var 7))))) DSs.nil)))))))))))) ?_
  refine DSs.cons (DS.fldA 0 (DB.var 4) fo_Board_late in_add (fun a b H Q q => ⟨a, b, rfl, rfl, q⟩)) ?_
  refine DSs.cons (DS.fldO 0 (DE.callB (call_sortD hu65) opN_sort (by rfl) m_sorted boot_sorted (DAB.cons (DB.var 2) DAB.nil)) fo_Board__rows) ?_
  refine DSs.cons (DS.fldV 0 3 fo_Board__ended) ?_
  exact DSs.one (DS.fldO 0 (DE.ofB (DB.var 5)) fo_Board__span)
theorem dn__law_cell (F : FnP K "_law_cell" (topS 8) f fd) (hm : mg "_law_cell" = some (.ref f))  (m_len : mg "len" = none) (m_int : mg "int" = none) : Dn P w K mg base 1 "_law_cell" 2 F__law_cell := by
  refine dn_of (N := ["_law_script", "_law_k"]) (ps := ["_law_script", "_law_k"]) (g := g__law_cell) F hm sc__law_cell (fun _ _ _ _ _ _ us hl => match us, hl with | [_, _], _ => rfl) fun cdv A outer s H E C => ?_
  have hu := C.hr.units
  have hu65 := C.hr.units65
  refine DSs.cons (DS.if_ (DT.cmp op_lt op_ltD (DB.var 1) (DB.ofE (DE.callB call_len opN_len (by rfl) m_len boot_len (DAB.cons (DB.var 0) DAB.nil))) (nomark _)) (DSs.one (DS.ret (DE.callTy call_int1 opN_int (by rfl) m_int boot_int (DAB.cons (DB.ix (DB.var 0) (DB.var 1)) DAB.nil)))) DSs.nil) ?_
  exact DSs.one (DS.ret DE.int)
theorem dn__law_count (F : FnP K "_law_count" (topS 11) f fd) (hm : mg "_law_count" = some (.ref f))  (m_int : mg "int" = none) : Dn P w K mg base 1 "_law_count" 2 F__law_count := by
  refine dn_of (N := ["_law_number", "_law_most"]) (ps := ["_law_number", "_law_most"]) (g := g__law_count) F hm sc__law_count (fun _ _ _ _ _ _ us hl => match us, hl with | [_, _], _ => rfl) fun cdv A outer s H E C => ?_
  have hu := C.hr.units
  have hu65 := C.hr.units65
  refine DSs.cons (DS.if_ (DT.cmp op_lt op_ltD (DB.var 0) (DB.ofE DE.int) (nomark _)) (DSs.one (DS.ret (DE.op2 op_fdivW op_fdivD (DB.var 0) (DB.ofE DE.int)))) DSs.nil) ?_
  exact DSs.one (DS.ret (DE.op2 op_addA op_addD (DB.ofE DE.int) (DB.ofE (DE.op2 op_mod op_modD (DB.ofE (DE.callTy call_int1 opN_int (by rfl) m_int boot_int (DAB.cons (DB.var 0) DAB.nil))) (DB.ofE (DE.op2 op_sub op_subD (DB.var 1) (DB.ofE DE.int)))))))
theorem dn__law_lines (F : FnP K "_law_lines" (topS 14) f fd) (hm : mg "_law_lines" = some (.ref f))  (m_sorted : mg "sorted" = none) (m_str : mg "str" = none) : Dn P w K mg base 1 "_law_lines" 1 F__law_lines := by
  refine dn_of (N := ["_law_sessions", "_law_lines_here", "_law_key", "_law_first", "_law_last", "_law_word", "_law_head", "_law_x"]) (ps := ["_law_sessions"]) (g := g__law_lines) F hm sc__law_lines (fun _ _ _ _ _ _ us hl => match us, hl with | [_], _ => rfl) fun cdv A outer s H E C => ?_
  have hu := C.hr.units
  have hu65 := C.hr.units65
  refine DSs.cons (DS.set 1 (DE.lst DA.nil) C.nd) ?_
  refine DSs.cons (DS.for_ C (DI.seq (DE.callB (call_sortD hu65) opN_sort (by rfl) m_sorted boot_sorted (DAB.cons (DB.var 0) DAB.nil))) (DG.tup [2, 3, 4, 5] C.calm (GN.cons 2 C.nd (GN.cons 3 C.nd (GN.cons 4 C.nd (GN.cons 5 C.nd GN.nil))))) (DSs.cons (DS.set 6 (DE.op2 op_addA op_addD (DB.ofE (DE.op2 op_addA op_addD (DB.ofE (DE.op2 op_addA op_addD (DB.ofE (DE.m1 PySem.F.slot_str_ljust PySem.F.type_str_ljust mt_ljust op_ljustD (DB.var 2) (DB.ofE DE.int))) (DB.ofE (DE.m1 PySem.F.slot_str_rjust PySem.F.type_str_rjust mt_rjust op_rjustD (DB.ofE (DE.callTy call_str_int opN_str (by rfl) m_str boot_str (DAB.cons (DB.var 3) DAB.nil))) (DB.ofE DE.int))))) (DB.ofE (DE.m1 PySem.F.slot_str_rjust PySem.F.type_str_rjust mt_rjust op_rjustD (DB.ofE (DE.callTy call_str_int opN_str (by rfl) m_str boot_str (DAB.cons (DB.var 4) DAB.nil))) (DB.ofE DE.int))))) (DB.ofE DE.str)) C.nd)
    (DSs.one (DS.app 1 (DE.op2 op_addA op_addD (DB.var 6) (DB.ofE (DE.m1 PySem.F.slot_str_join PySem.F.type_str_join mt_join op_joinD (DB.ofE DE.str) (DB.ofE (DE.lc (own := [("_law_x", 7)]) C (DIB.seq (DB.var 5)) (blkOk_by (by kernel_rfl)) (fun _ _ _ _ _ => pg_name (i:=7) C.nd rfl (Or.inl rfl)) (fun s1 H1 D1 cl1 fp1 => DTs.nil) (fun s1 H1 D1 cl1 fp1 => (DE.callTy call_str_int opN_str (by rfl) m_str boot_str (DAB.cons (DB.var 7) DAB.nil)))))))))))) ?_
  exact DSs.one (DS.retV 1)
theorem dn_Board___iter__ (F : FunD K "__iter__" "Board.__iter__" (defArgs mS_Board___iter__) (defBody mS_Board___iter__) (defScope mS_Board___iter__) [] [] f fd) (fo_Board__rows : FldOk K "_rows" ["Board"]) (m_iter : mg "iter" = none) : ItFn P w K mg base 1 f fd (He.ga K "Board") "_rows" ∧ Binds K fd [("self" : Str)] [] :=
  ⟨itFn (c := "Board") (fld := "_rows") F sc_Board___iter__ fo_Board__rows fun cdv A outer s H E => itPS (by rfl) m_iter rfl (Or.inl rfl), FunD.bindsN (ps := ["self"]) F fun _ _ _ _ _ _ us hl => match us, hl with | [_], _ => rfl⟩
theorem dn_Board_listing (F : FunD K "listing" "Board.listing" (defArgs mS_Board_listing) (defBody mS_Board_listing) (defScope mS_Board_listing) [] [] f fd)  (fo_Board__rows : FldOk K "_rows" ["Board"]) (m_str : mg "str" = none) : MOk P w K mg base 1 f fd ["self"] 1 F_Board_listing := by
  refine ⟨fnF (N := ["self", "lines", "key", "first", "last", "told", "words", "number"]) (ps := ["self"]) (g := g_Board_listing) F sc_Board_listing fun cdv A outer s H E C => ?_, FunD.bindsN (ps := ["self"]) F fun _ _ _ _ _ _ us hl => match us, hl with | [_], _ => rfl⟩
  have hu := C.hr.units
  have hu65 := C.hr.units65
  refine DSs.cons (DS.set 1 (DE.lst DA.nil) C.nd) ?_
  refine DSs.cons (DS.for_ C (DI.seq (DE.ofB (DB.fld fo_Board__rows (DB.var 0)))) (DG.tup [2, 3, 4, 5] C.calm (GN.cons 2 C.nd (GN.cons 3 C.nd (GN.cons 4 C.nd (GN.cons 5 C.nd GN.nil))))) (DSs.cons (DS.set 6 (DE.m1 PySem.F.slot_str_join PySem.F.type_str_join mt_join op_joinD (DB.ofE DE.str) (DB.ofE (DE.lc (own := [("number", 7)]) C (DIB.seq (DB.var 5)) (blkOk_by (by kernel_rfl)) (fun _ _ _ _ _ => pg_name (i:=7) C.nd rfl (Or.inl rfl)) (fun s1 H1 D1 cl1 fp1 => DTs.nil) (fun s1 H1 D1 cl1 fp1 => (DE.callTy call_str_int opN_str (by rfl) m_str boot_str (DAB.cons (DB.var 7) DAB.nil)))))) C.nd)
    (DSs.one (DS.app 1 (DE.fstr (DJ.cons (dj_fL (DB.var 2)) (DJ.cons (dj_fR (DB.var 3)) (DJ.cons (dj_fR (DB.var 4)) (DJ.cons (dj_lit DE.str) (DJ.cons (dj_fv (DB.var 6)) DJ.nil)))))))))) ?_
  exact DSs.one (DS.retV 1)
theorem dnL_Board___len__ (F : FunD K "__len__" "Board.__len__" (defArgs mS_Board___len__) (defBody mS_Board___len__) (defScope mS_Board___len__) [] [] f fd) (fo_Board__rows : FldOk K "_rows" ["Board"]) (m_len : mg "len" = none) : FnOk P w K mg base (L2.CX P w) 1 f fd ["self"] (spLn (He.ga K "Board") "_rows" K) ∧ Binds K fd ["self"] [] :=
  ⟨lnFn (c := "Board") (fld := "_rows") F sc_Board___len__ fo_Board__rows fun cdv A outer s H E => lnPS (by rfl) m_len rfl (Or.inl rfl), FunD.bindsN (ps := ["self"]) F fun _ _ _ _ _ _ us hl => match us, hl with | [_], _ => rfl⟩
theorem dn_Board___len__ (F : FunD K "__len__" "Board.__len__" (defArgs mS_Board___len__) (defBody mS_Board___len__) (defScope mS_Board___len__) [] [] f fd)  (fo_Board__rows : FldOk K "_rows" ["Board"]) (m_len : mg "len" = none) : MOk P w K mg base 1 f fd ["self"] 1 F_Board___len__ := by
  refine ⟨fnF (N := ["self"]) (ps := ["self"]) (g := g_Board___len__) F sc_Board___len__ fun cdv A outer s H E C => ?_, FunD.bindsN (ps := ["self"]) F fun _ _ _ _ _ _ us hl => match us, hl with | [_], _ => rfl⟩
  have hu := C.hr.units
  have hu65 := C.hr.units65
  exact DSs.one (DS.ret (DE.callB call_len opN_len (by rfl) m_len boot_len (DAB.cons (DB.fld fo_Board__rows (DB.var 0)) DAB.nil)))
theorem dn_Board_rows (F : FunD K "rows" "Board.rows" (defArgs mS_Board_rows) (defBody mS_Board_rows) (defScope mS_Board_rows) [] [] f fd)  (fo_Board__rows : FldOk K "_rows" ["Board"]) (m_list : mg "list" = none) : MOk P w K mg base 1 f fd ["self"] 1 F_Board_rows := by
  refine ⟨fnF (N := ["self"]) (ps := ["self"]) (g := g_Board_rows) F sc_Board_rows fun cdv A outer s H E C => ?_, FunD.bindsN (ps := ["self"]) F fun _ _ _ _ _ _ us hl => match us, hl with | [_], _ => rfl⟩
  have hu := C.hr.units
  have hu65 := C.hr.units65
  exact DSs.one (DS.ret (DE.callTy call_list_of opN_list (by rfl) m_list boot_list (DAB.cons (DB.fld fo_Board__rows (DB.var 0)) DAB.nil)))
theorem dn__law_shown (F : FnP K "_law_shown" (topS 15) f fd) (hm : mg "_law_shown" = some (.ref f)) (d__law_lines : Dn P w K mg base 1 "_law_lines" 1 F__law_lines) (it_Board : ItK P w K mg base 1 "Board" "_rows") (m_sorted : mg "sorted" = none) (ln_Board : LnK P w K mg base 1 "Board" "_rows") (m_list : mg "list" = none) (op_Board___len__ : OpK P w K mg base 1 "Board" "__len__" 1 F_Board___len__) (m_len : mg "len" = none) (t_listing : Mt P w K mg base 1 "listing" 1 (mtF mt_listing)) (m_isinstance : mg "isinstance" = none) (m_str : mg "str" = none) (m_all : mg "all" = none) (pr_Board_rows : PrK P w K mg base 1 "Board" "rows" F_Board_rows) : Dn P w K mg base 6 "_law_shown" 2 F__law_shown := by
  refine dn_of (N := ["_law_board", "_law_sessions", "_law_walked", "_law_session", "_law_lines_here", "_law_line"]) (ps := ["_law_board", "_law_sessions"]) (g := g__law_shown) F hm sc__law_shown (fun _ _ _ _ _ _ us hl => match us, hl with | [_, _], _ => rfl) fun cdv A outer s H E C => ?_
  have hu := C.hr.units
  have hu65 := C.hr.units65
  refine DSs.cons (DS.set 2 (DE.lst DA.nil) C.nd) ?_
  refine DSs.cons (DS.for_ C (DI.itO C it_Board (DB.var 0)) (DG.name 3 C.nd) (DSs.one (DS.app 2 (DE.ofB (DB.var 3))))) ?_
  refine DSs.cons (DS.if_ (DT.ofW (DW.or (DT.cmp (op_neD hu) op_neDD (DB.var 2) (DB.ofE (DE.callB (call_sortD hu65) opN_sort (by rfl) m_sorted boot_sorted (DAB.cons (DB.var 1) DAB.nil))) (nomark _)) (DW.or (DT.cmp (op_neD hu) op_neDD (DB.ofE (DE.listO C it_Board ln_Board m_list (DB.var 0))) (DB.ofE (DE.callB (call_sortD hu65) opN_sort (by rfl) m_sorted boot_sorted (DAB.cons (DB.var 1) DAB.nil))) (nomark _)) (DW.or1 (DT.cmp (op_neD hu) op_neDD (DB.ofE (DE.lenO C op_Board___len__ m_len (DB.var 0))) (DB.ofE (DE.callB call_len opN_len (by rfl) m_len boot_len (DAB.cons (DB.var 1) DAB.nil))) (nomark _)))))) (DSs.one (DS.ret DE.bl)) DSs.nil) ?_
  refine DSs.cons (DS.set 4 (DE.meth0 C t_listing (DB.var 0)) C.nd) ?_
  refine DSs.cons (DS.if_ (DT.ofW (DW.or (DT.not (DT.tru (DB.ofE (DE.isi .list (DB.var 4) m_isinstance m_list)))) (DW.or1 (DT.not (DT.tru (DB.ofE (DE.callB (cr_all C.calm) opN_all (by rfl) m_all boot_all (DAB.cons (DB.ofE (DE.lc (own := [("_law_line", 5)]) C (DIB.seq (DB.var 4)) (blkOk_by (by kernel_rfl)) (fun _ _ _ _ _ => pg_name (i:=5) C.nd rfl (Or.inl rfl)) (fun s1 H1 D1 cl1 fp1 => DTs.nil) (fun s1 H1 D1 cl1 fp1 => (DE.isi .str (DB.var 5) m_isinstance m_str)))) DAB.nil)))))))) (DSs.one (DS.ret DE.bl)) DSs.nil) ?_
  refine DSs.cons (DS.if_ (DT.cmp (op_neD hu) op_neDD (DB.var 4) (DB.ofE (DE.call C d__law_lines (DAB.cons (DB.var 1) DAB.nil))) (nomark _)) (DSs.one (DS.ret DE.bl)) DSs.nil) ?_
  refine DSs.cons (DS.app 4 DE.str) ?_
  exact DSs.one (DS.ret (DE.and (DE.cmp (op_eqD hu) op_eqDD (DB.ofE (DE.meth0 C t_listing (DB.var 0))) (DB.ofE (DE.call C d__law_lines (DAB.cons (DB.var 1) DAB.nil))) (nomark _)) (DE.one (DE.cmp (op_eqD hu) op_eqDD (DB.ofE (DE.listO C it_Board ln_Board m_list (DB.var 0))) (DB.ofE (DE.prop C pr_Board_rows (DB.var 0))) (nomark _)))))
theorem dn_Board___iadd__ (F : FunD K "__iadd__" "Board.__iadd__" (defArgs mS_Board___iadd__) (defBody mS_Board___iadd__) (defScope mS_Board___iadd__) [] [] f fd)  (cl_Board : Cls K (He.ga K "Board")) (mm_Board_take : MtM P w K mg base 3 "Board" "take" [true, false] F_Board_take) : MOkM P w K mg base 4 f fd ["self", "words"] [true, false] F_Board___iadd__ := by
  refine ⟨fnM [true, false] (N := ["self", "words"]) (ps := ["self", "words"]) (g := g_Board___iadd__) F sc_Board___iadd__ rfl fun cdv A outer s H E C => ?_, FunD.bindsN (ps := ["self", "words"]) F fun _ _ _ _ _ _ us hl => match us, hl with | [_, _], _ => rfl⟩
  have hu := C.hr.units
  have hu65 := C.hr.units65
  refine DSs.cons (DS.dropM (DEM.meth 0 C mm_Board_take (DAL.ex (DE.ofB (DB.var 1)) DAL.nil))) ?_
  exact DSs.one (DS.retSelf (b := [true, false]) 0)
theorem dn_Board___init__ (F : FunD K "__init__" "Board.__init__" (defArgs mS_Board___init__) (defBody mS_Board___init__) (defScope mS_Board___init__) [] [] f fd)  (cl_Board : Cls K (He.ga K "Board")) (na_Board_late : NoAttr K (He.ga K "Board") "late") (fo_Board__rows : FldOk K "_rows" ["Board"]) (fo_Board__ended : FldOk K "_ended" ["Board"]) (fo_Board__span : FldOk K "_span" ["Board"]) : FnOk P w K mg base (L2.CX P w) 1 f fd ["self"] (spO K "Board" 0 F_Board___init__) := by
  refine fnO (N := ["self"]) (ps := ["self"]) (c := "Board") (t := g_Board___init__) F sc_Board___init__ (by rfl) fun cdv A outer s H E C => ?_
  have hu := C.hr.units
  have hu65 := C.hr.units65
  exact (DSN.fld cl_Board na_Board_late DE.int (DSs.cons (DS.fldO 0 (DE.lst DA.nil) fo_Board__rows)
    (DSs.cons (DS.fldO 0 (DE.lst DA.nil) fo_Board__ended)
    (DSs.one (DS.fldO 0 DE.int fo_Board__span)))) (by decide +kernel) (selfV (by rfl)))
theorem dn_Board___contains__ (F : FunD K "__contains__" "Board.__contains__" (defArgs mS_Board___contains__) (defBody mS_Board___contains__) (defScope mS_Board___contains__) [] [] f fd)  (fo_Board__rows : FldOk K "_rows" ["Board"]) : MOk P w K mg base 1 f fd ["self", "session"] 2 F_Board___contains__ := by
  refine ⟨fnF (N := ["self", "session"]) (ps := ["self", "session"]) (g := g_Board___contains__) F sc_Board___contains__ fun cdv A outer s H E C => ?_, FunD.bindsN (ps := ["self", "session"]) F fun _ _ _ _ _ _ us hl => match us, hl with | [_, _], _ => rfl⟩
  have hu := C.hr.units
  have hu65 := C.hr.units65
  exact DSs.one (DS.ret (DE.cmp (op_inA hu65) op_inDD (DB.var 1) (DB.fld fo_Board__rows (DB.var 0)) (by with_unfolding_all rfl)))
theorem dn_Board_ended (F : FunD K "ended" "Board.ended" (defArgs mS_Board_ended) (defBody mS_Board_ended) (defScope mS_Board_ended) [] [] f fd)  (fo_Board__ended : FldOk K "_ended" ["Board"]) (m_list : mg "list" = none) : MOk P w K mg base 1 f fd ["self"] 1 F_Board_ended := by
  refine ⟨fnF (N := ["self"]) (ps := ["self"]) (g := g_Board_ended) F sc_Board_ended fun cdv A outer s H E C => ?_, FunD.bindsN (ps := ["self"]) F fun _ _ _ _ _ _ us hl => match us, hl with | [_], _ => rfl⟩
  have hu := C.hr.units
  have hu65 := C.hr.units65
  exact DSs.one (DS.ret (DE.callTy call_list_of opN_list (by rfl) m_list boot_list (DAB.cons (DB.fld fo_Board__ended (DB.var 0)) DAB.nil)))
theorem dn_law (F : FnP K "law" (topS 16) f fd) (hm : mg "law" = some (.ref f)) (d__law_cell : Dn P w K mg base 1 "_law_cell" 2 F__law_cell) (d__law_row : Dn P w K mg base 1 "_law_row" 2 F__law_row) (d__law_big : Dn P w K mg base 1 "_law_big" 1 F__law_big) (d__law_count : Dn P w K mg base 1 "_law_count" 2 F__law_count) (d__law_standing_pool : Dn P w K mg base 2 "_law_standing_pool" 4 F__law_standing_pool) (d__law_shown : Dn P w K mg base 6 "_law_shown" 2 F__law_shown) (dO_Board : DnO P w K mg base 1 "Board" 0 F_Board___init__) (g_Board : mg "Board" = some (.ref (He.ga K "Board"))) (m_int : mg "int" = none) (m_len : mg "len" = none) (cl_Board : Cls K (He.ga K "Board")) (mm_Board_take : MtM P w K mg base 3 "Board" "take" [true, false] F_Board_take) (mm_Board___iadd__ : MtM P w K mg base 4 "Board" "__iadd__" [true, false] F_Board___iadd__) (sf_Board : PySem.W.selfFirst K (He.ga K "Board") = true) (op_Board___contains__ : OpK P w K mg base 1 "Board" "__contains__" 2 F_Board___contains__) (pr_Board_ended : PrK P w K mg base 1 "Board" "ended" F_Board_ended) (fo_Board_late : FldOk K "late" ["Board"]) : FnOk P w K mg base (L2.CX P w) 7 f fd ["_law_script"] (spF K 1 F_law) := by
  refine fnF (N := ["_law_script", "_law_d", "_law_base", "_law_big_here", "_law_pool", "_law_board", "_law_other", "_law_half", "_law_mine", "_law_yours", "_law_session", "_law_gone", "_law_ended", "_law_word", "_law_x"]) (ps := ["_law_script"]) (g := g_law) F sc_law fun cdv A outer s H E C => ?_
  have hu := C.hr.units
  have hu65 := C.hr.units65
  refine DSs.cons (DS.set 1 (DE.call C d__law_row (DAB.cons (DB.ofE (DE.call C d__law_cell (DAB.cons (DB.var 0) (DAB.cons (DB.ofE DE.int) DAB.nil)))) (DAB.cons (DB.ofE DE.int) DAB.nil))) C.nd) ?_
  refine DSs.cons (DS.set 2 (DE.call C d__law_big (DAB.cons (DB.ofE (DE.call C d__law_cell (DAB.cons (DB.var 0) (DAB.cons (DB.ofE DE.int) DAB.nil)))) DAB.nil)) C.nd) ?_
  refine DSs.cons (DS.set 3 (DE.call C d__law_big (DAB.cons (DB.ofE (DE.call C d__law_cell (DAB.cons (DB.var 0) (DAB.cons (DB.ofE DE.int) DAB.nil)))) DAB.nil)) C.nd) ?_
  refine DSs.cons (DS.set 4 (DE.call C d__law_standing_pool (DAB.cons (DB.ofE (DE.call C d__law_row (DAB.cons (DB.ofE (DE.call C d__law_cell (DAB.cons (DB.var 0) (DAB.cons (DB.ofE DE.int) DAB.nil)))) (DAB.cons (DB.ofE DE.int) DAB.nil)))) (DAB.cons (DB.ofE (DE.call C d__law_count (DAB.cons (DB.ix (DB.var 1) (DB.ofE DE.int)) (DAB.cons (DB.ofE DE.int) DAB.nil)))) (DAB.cons (DB.var 2) (DAB.cons (DB.var 3) DAB.nil))))) C.nd) ?_
  refine DSs.cons (DS.set 5 (DE.makeO0 C dO_Board g_Board) C.nd) ?_
  refine DSs.cons (DS.set 6 (DE.makeO0 C dO_Board g_Board) C.nd) ?_
  refine DSs.cons (DS.set 7 (DE.op2 op_mod op_modD (DB.ofE (DE.callTy call_int1 opN_int (by rfl) m_int boot_int (DAB.cons (DB.ix (DB.var 1) (DB.ofE DE.int)) DAB.nil))) (DB.ofE (DE.op2 op_addA op_addD (DB.ofE (DE.callB call_len opN_len (by rfl) m_len boot_len (DAB.cons (DB.var 4) DAB.nil))) (DB.ofE DE.int)))) C.nd) ?_
  refine DSs.cons (DS.set 8 (DE.slice (DB.var 4) DO.none (DO.some (DB.var 7))) C.nd) ?_
  refine DSs.cons (DS.set 9 (DE.rev (DB.ofE (DE.slice (DB.var 4) (DO.some (DB.var 7)) DO.none))) C.nd) ?_
  refine DSs.cons (DS.dropM (DEM.meth 5 C mm_Board_take (DAL.ex (DE.lc (own := [("_law_session", 10)]) C (DIB.seq (DB.var 8)) (blkOk_by (by kernel_rfl)) (fun _ _ _ _ _ => pg_name (i:=10) C.nd rfl (Or.inl rfl)) (fun s1 H1 D1 cl1 fp1 => DTs.nil) (fun s1 H1 D1 cl1 fp1 => (DE.op2 op_addA op_addD (DB.ofE (DE.tup (DA.cons DE.str DA.nil))) (DB.var 10)))) DAL.nil))) ?_
  refine DSs.cons (DS.iadd 6 C mm_Board___iadd__ sf_Board (DE.lc (own := [("_law_session", 10)]) C (DIB.seq (DB.var 9)) (blkOk_by (by kernel_rfl)) (fun _ _ _ _ _ => pg_name (i:=10) C.nd rfl (Or.inl rfl)) (fun s2 H2 D2 cl2 fp2 => DTs.nil) (fun s2 H2 D2 cl2 fp2 => (DE.op2 op_addA op_addD (DB.ofE (DE.tup (DA.cons DE.str DA.nil))) (DB.var 10))))) ?_
  refine DSs.cons (DS.if_ (DT.snap (DT.ofW (DW.or (DT.not (DT.tru (DB.ofE (DE.call C d__law_shown (DAB.cons (DB.var 5) (DAB.cons (DB.var 8) DAB.nil)))))) (DW.or1 (DT.not (DT.tru (DB.ofE (DE.call C d__law_shown (DAB.cons (DB.var 6) (DAB.cons (DB.var 9) DAB.nil)))))))))) (DSs.one (DS.ret DE.bl)) DSs.nil) ?_
  refine DSs.cons (DS.if_ (DT.snap (DT.inO C op_Board___contains__ (DB.ofE (DE.tup (DA.cons DE.str (DA.cons DE.int (DA.cons DE.int (DA.cons (DE.tup (DA.cons DE.int DA.nil)) DA.nil)))))) (DB.var 5) (by with_unfolding_all rfl))) (DSs.one (DS.ret DE.bl)) DSs.nil) ?_
  refine DSs.frz 4 ?_
  refine DSs.cons (DS.for_ C (DI.seq (DE.ofB (DB.var 4))) (DG.name 10 C.nd) (DSs.one (DS.if_ (DT.snap (DT.ofW (DW.or (DT.cmp (op_neD hu) op_neDD (DB.ofE (DE.inO C op_Board___contains__ (DB.var 10) (DB.var 5) (by with_unfolding_all rfl))) (DB.ofE (DE.cmp (op_inA hu65) op_inDD (DB.var 10) (DB.var 8) (by with_unfolding_all rfl))) (nomark _)) (DW.or1 (DT.cmp (op_neD hu) op_neDD (DB.ofE (DE.inO C op_Board___contains__ (DB.var 10) (DB.var 6) (by with_unfolding_all rfl))) (DB.ofE (DE.cmp (op_inA hu65) op_inDD (DB.var 10) (DB.var 9) (by with_unfolding_all rfl))) (nomark _)))))) (DSs.one (DS.ret DE.bl)) DSs.nil))) ?_
  refine DSs.cons (DS.if_ (DT.cmp op_gt op_gtD (DB.ofE (DE.callB call_len opN_len (by rfl) m_len boot_len (DAB.cons (DB.var 4) DAB.nil))) (DB.ofE DE.int) (nomark _)) (DSs.cons (DS.set 11 (DE.ofB (DB.ix (DB.var 4) (DB.ofE (DE.op2 op_mod op_modD (DB.ofE (DE.callTy call_int1 opN_int (by rfl) m_int boot_int (DAB.cons (DB.ix (DB.var 1) (DB.ofE DE.int)) DAB.nil))) (DB.ofE (DE.callB call_len opN_len (by rfl) m_len boot_len (DAB.cons (DB.var 4) DAB.nil))))))) C.nd)
    (DSs.cons (DS.set 12 (DE.lst DA.nil) C.nd)
    (DSs.cons (DS.set 13 (DE.op2 op_addA op_addD (DB.ofE (DE.tup (DA.cons DE.str DA.nil))) (DB.var 11)) C.nd)
    (DSs.cons (DS.if_ (DT.cmp (op_eqD hu) op_eqDD (DB.ofE (DE.op2 op_mod op_modD (DB.ofE (DE.callTy call_int1 opN_int (by rfl) m_int boot_int (DAB.cons (DB.ix (DB.var 1) (DB.ofE DE.int)) DAB.nil))) (DB.ofE DE.int))) (DB.ofE DE.int) (nomark _)) (DSs.cons (DS.set 13 (DE.op2 op_addA op_addD (DB.ofE (DE.tup (DA.cons DE.str DA.nil))) (DB.var 11)) C.nd)
    (DSs.one (DS.set 12 (DE.lst (DA.cons (DE.ofB (DB.var 11)) DA.nil)) C.nd))) DSs.nil)
    (DSs.cons (DS.if_ (DT.cmp (op_inA hu65) op_inDD (DB.var 11) (DB.var 8) (by with_unfolding_all rfl)) (DSs.cons (DS.iadd 5 C mm_Board___iadd__ sf_Board (DE.lst (DA.cons (DE.ofB (DB.var 13)) DA.nil)))
    (DSs.cons (DS.setLc (own := [("_law_x", 14)]) C (DIB.seq (DB.var 8)) (blkOk_by (by kernel_rfl)) (fun _ _ _ _ _ => pg_name (i:=14) C.nd rfl (Or.inl rfl)) (fun s3 H3 D3 cl3 fp3 => (DTs.one (DT.cmp (op_neD hu) op_neDD (DB.var 14) (DB.var 11) (nomark _)))) (fun s3 H3 D3 cl3 fp3 => (DE.ofB (DB.var 14))))
    (DSs.one (DS.if_ (DT.snap (DT.ofW (DW.or (DT.cmp (op_neD hu) op_neDD (DB.ofE (DE.prop C pr_Board_ended (DB.var 5))) (DB.var 12) (nomark _)) (DW.or1 (DT.cmp (op_neD hu) op_neDD (DB.ofE (DE.prop C pr_Board_ended (DB.var 6))) (DB.ofE (DE.lst DA.nil)) (nomark _)))))) (DSs.one (DS.ret DE.bl)) DSs.nil)))) (DSs.cons (DS.dropM (DEM.meth 6 C mm_Board_take (DAL.ex (DE.lst (DA.cons (DE.ofB (DB.var 13)) DA.nil)) DAL.nil)))
    (DSs.cons (DS.setLc (own := [("_law_x", 14)]) C (DIB.seq (DB.var 9)) (blkOk_by (by kernel_rfl)) (fun _ _ _ _ _ => pg_name (i:=14) C.nd rfl (Or.inl rfl)) (fun s4 H4 D4 cl4 fp4 => (DTs.one (DT.cmp (op_neD hu) op_neDD (DB.var 14) (DB.var 11) (nomark _)))) (fun s4 H4 D4 cl4 fp4 => (DE.ofB (DB.var 14))))
    (DSs.one (DS.if_ (DT.snap (DT.ofW (DW.or (DT.cmp (op_neD hu) op_neDD (DB.ofE (DE.prop C pr_Board_ended (DB.var 6))) (DB.var 12) (nomark _)) (DW.or1 (DT.cmp (op_neD hu) op_neDD (DB.ofE (DE.prop C pr_Board_ended (DB.var 5))) (DB.ofE (DE.lst DA.nil)) (nomark _)))))) (DSs.one (DS.ret DE.bl)) DSs.nil)))))
    (DSs.one (DS.if_ (DT.snap (DT.ofW (DW.or (DT.inO C op_Board___contains__ (DB.var 11) (DB.var 5) (by with_unfolding_all rfl)) (DW.or1 (DT.inO C op_Board___contains__ (DB.var 11) (DB.var 6) (by with_unfolding_all rfl)))))) (DSs.one (DS.ret DE.bl)) DSs.nil))))))) DSs.nil) ?_
  exact DSs.one (DS.ret (DE.snap (DE.and (DE.call C d__law_shown (DAB.cons (DB.var 5) (DAB.cons (DB.var 8) DAB.nil))) (DE.and (DE.call C d__law_shown (DAB.cons (DB.var 6) (DAB.cons (DB.var 9) DAB.nil))) (DE.one (DE.cmp (op_eqD hu) op_eqDD (DB.fld fo_Board_late (DB.var 5)) (DB.ofE DE.int) (nomark _)))))))
end
theorem facts [Tb] {P : Program} {w : World} {K : PySem.W.Frag} {h : Heap} {mg : Str → Option Value} {f : Addr} (hTb : Tb.t = tabsOf K) (PO : PrOk P "/claim/cut.py") (X : K.In h) (G : h.Ns mainGlobals mg) (hfa : mg ("law" : Str) = some (.ref f)) (c : SaysY fa fn K) :
    ∃ fd : FuncData, (∀ (s : Shared) (v : Value), BindsTo s fd ⟨[v], []⟩ [("_law_script", v)]) ∧ ∀ base : Heap, K.In base → base.Ns mainGlobals mg → TabsB K mg base → FnOk P w K mg base (L2.CX P w) 7 f fd ["_law_script"] (spF K 1 F_law) := by
  obtain ⟨fd0, P0⟩ := c.def_ 0 (d := hdef0) rfl rfl
  obtain ⟨fd1, P1⟩ := c.def_ 1 (d := hdef1) rfl rfl
  obtain ⟨fd2, P2⟩ := c.def_ 2 (d := hdef2) rfl rfl
  obtain ⟨fd3, P3⟩ := c.def_ 3 (d := hdef3) rfl rfl
  obtain ⟨fd4, P4⟩ := c.def_ 4 (d := hdef4) rfl rfl
  obtain ⟨fd5, P5⟩ := c.def_ 5 (d := hdef5) rfl rfl
  obtain ⟨fd6, P6⟩ := c.def_ 6 (d := hdef6) rfl rfl
  obtain ⟨fd7, P7⟩ := c.def_ 7 (d := hdef7) rfl rfl
  obtain ⟨fd8, P8⟩ := c.def_ 8 (d := hdef8) rfl rfl
  obtain ⟨fd9, P9⟩ := c.def_ 9 (d := hdef9) rfl rfl
  obtain ⟨fd10, P10⟩ := c.def_ 10 (d := hdef10) rfl rfl
  obtain ⟨fd11, P11⟩ := c.def_ 11 (d := hdef11) rfl rfl
  obtain ⟨fd12, P12⟩ := c.def_ 12 (d := hdef12) rfl rfl
  obtain ⟨fd13, P13⟩ := c.def_ 13 (d := hdef13) rfl rfl
  obtain ⟨fd14, P14⟩ := c.def_ 14 (d := hdef14) rfl rfl
  obtain ⟨fd15, P15⟩ := c.def_ 15 (d := hdef15) rfl rfl
  obtain ⟨fd16, P16⟩ := c.def_ 16 (d := hdef16) rfl rfl
  obtain ⟨fd17, P17⟩ := c.def_ 17 (d := hdef17) rfl rfl
  obtain ⟨fd18, P18⟩ := c.def_ 18 (d := hdef18) rfl rfl
  obtain ⟨fq0, Q0⟩ := c.defC 19 (d := hdef19) (D := "StandsAlready") (file := "/claim/cut.py") rfl rfl
  obtain ⟨fq1, Q1⟩ := c.defC 20 (d := hdef20) (D := "NotStanding") (file := "/claim/cut.py") rfl rfl
  have e := hfa.symm.trans (He.glo_ok X G (c.fact 41 (f := chkF (.glo "law")) rfl))
  cases e
  have b := FunD.bindsA (ps := ["_law_script"]) P18 fun _ _ _ _ _ _ us hl => match us, hl with | [_], _ => rfl
  refine ⟨fd18, fun s v => b s [v] rfl, fun base _ _ TB => ?_⟩
  have m_abs : mg "abs" = none := He.free_ok X G (c.fact 0 (f := chkF (.free "abs")) rfl)
  have m_range : mg "range" = none := He.free_ok X G (c.fact 1 (f := chkF (.free "range")) rfl)
  have m_int : mg "int" = none := He.free_ok X G (c.fact 2 (f := chkF (.free "int")) rfl)
  have d__law_row : Dn P w K mg base 1 "_law_row" 2 F__law_row := dn__law_row P0 (He.glo_ok X G (c.fact 32 (f := chkF (.glo "_law_row")) rfl))  m_abs m_range m_int
  have d__law_big : Dn P w K mg base 1 "_law_big" 1 F__law_big := dn__law_big P1 (He.glo_ok X G (c.fact 33 (f := chkF (.glo "_law_big")) rfl))  m_abs m_int
  have d__law_value : Dn P w K mg base 1 "_law_value" 3 F__law_value := dn__law_value P2 (He.glo_ok X G (c.fact 34 (f := chkF (.glo "_law_value")) rfl))  m_int
  have m_tuple : mg "tuple" = none := He.free_ok X G (c.fact 3 (f := chkF (.free "tuple")) rfl)
  have d__law_standing_pool : Dn P w K mg base 2 "_law_standing_pool" 4 F__law_standing_pool := dn__law_standing_pool P3 (He.glo_ok X G (c.fact 35 (f := chkF (.glo "_law_standing_pool")) rfl)) d__law_value m_range m_int m_tuple
  have d_span_of : Dn P w K mg base 1 "span_of" 1 F_span_of := dn_span_of P4 (He.glo_ok X G (c.fact 36 (f := chkF (.glo "span_of")) rfl))  
  have fo_Board__rows : FldOk K "_rows" ["Board"] := FldOk.one (fs := ["late", "_rows", "_ended", "_span"]) (c.fact 4 (f := chkMk "Board" ["late", "_rows", "_ended", "_span"]) rfl) (by decide +kernel)
  have m_list : mg "list" = none := He.free_ok X G (c.fact 5 (f := chkF (.free "list")) rfl)
  have fo_Board__ended : FldOk K "_ended" ["Board"] := FldOk.one (fs := ["late", "_rows", "_ended", "_span"]) (c.fact 4 (f := chkMk "Board" ["late", "_rows", "_ended", "_span"]) rfl) (by decide +kernel)
  have fo_Board__span : FldOk K "_span" ["Board"] := FldOk.one (fs := ["late", "_rows", "_ended", "_span"]) (c.fact 4 (f := chkMk "Board" ["late", "_rows", "_ended", "_span"]) rfl) (by decide +kernel)
  have x_StandsAlready : XMk P w K mg base "StandsAlready" ["session"] := xmk (excKB_ok (c.fact 8 (f := chkExc "StandsAlready") rfl)) (He.glo_ok X G (c.fact 9 (f := chkF (.glo "StandsAlready")) rfl)) (He.meth_ok (c.fact 10 (f := chkF (.meth "StandsAlready" "__init__")) rfl)) (exi1 Q0 rfl (fun _ => rfl) (fsx_by (by decide +kernel)) ⟨rfl, rfl, _, rfl, rfl, rfl⟩ PO (He.free_ok X G (c.fact 7 (f := chkF (.free "super")) rfl)) (excKB_ok (c.fact 8 (f := chkExc "StandsAlready") rfl)) (of_decide_eq_true (c.fact 6 (f := chkNo "StandsAlready" "session") rfl)) (by decide) (by decide) (by decide) (by decide) (fun _ _ _ _ _ _ _ us hl => match us, hl with | [_, _], _ => rfl))
  have x_NotStanding : XMk P w K mg base "NotStanding" ["session"] := xmk (excKB_ok (c.fact 12 (f := chkExc "NotStanding") rfl)) (He.glo_ok X G (c.fact 13 (f := chkF (.glo "NotStanding")) rfl)) (He.meth_ok (c.fact 14 (f := chkF (.meth "NotStanding" "__init__")) rfl)) (exi1 Q1 rfl (fun _ => rfl) (fsx_by (by decide +kernel)) ⟨rfl, rfl, _, rfl, rfl, rfl⟩ PO (He.free_ok X G (c.fact 7 (f := chkF (.free "super")) rfl)) (excKB_ok (c.fact 12 (f := chkExc "NotStanding") rfl)) (of_decide_eq_true (c.fact 11 (f := chkNo "NotStanding" "session") rfl)) (by decide) (by decide) (by decide) (by decide) (fun _ _ _ _ _ _ _ us hl => match us, hl with | [_, _], _ => rfl))
  have fo_Board_late : FldOk K "late" ["Board"] := FldOk.one (fs := ["late", "_rows", "_ended", "_span"]) (c.fact 4 (f := chkMk "Board" ["late", "_rows", "_ended", "_span"]) rfl) (by decide +kernel)
  have m_sorted : mg "sorted" = none := He.free_ok X G (c.fact 15 (f := chkF (.free "sorted")) rfl)
  have d_Board_take : MOkM P w K mg base 3 (He.fAd K ("Board", some "take")) fd5 ["self", "words"] [true, false] F_Board_take := dn_Board_take P5 d_span_of fo_Board__rows m_list fo_Board__ended fo_Board__span x_StandsAlready x_NotStanding fo_Board_late m_sorted
  have m_len : mg "len" = none := He.free_ok X G (c.fact 16 (f := chkF (.free "len")) rfl)
  have d__law_cell : Dn P w K mg base 1 "_law_cell" 2 F__law_cell := dn__law_cell P6 (He.glo_ok X G (c.fact 37 (f := chkF (.glo "_law_cell")) rfl))  m_len m_int
  have d__law_count : Dn P w K mg base 1 "_law_count" 2 F__law_count := dn__law_count P7 (He.glo_ok X G (c.fact 38 (f := chkF (.glo "_law_count")) rfl))  m_int
  have m_str : mg "str" = none := He.free_ok X G (c.fact 17 (f := chkF (.free "str")) rfl)
  have d__law_lines : Dn P w K mg base 1 "_law_lines" 1 F__law_lines := dn__law_lines P8 (He.glo_ok X G (c.fact 39 (f := chkF (.glo "_law_lines")) rfl))  m_sorted m_str
  have m_iter : mg "iter" = none := He.free_ok X G (c.fact 18 (f := chkF (.free "iter")) rfl)
  have d_Board___iter__ := dn_Board___iter__ (P := P) (w := w) (mg := mg) (base := base) P9  fo_Board__rows m_iter
  have d_Board_listing : MOk P w K mg base 1 (He.fAd K ("Board", some "listing")) fd10 ["self"] 1 F_Board_listing := dn_Board_listing P10  fo_Board__rows m_str
  have d_Board___len__ : MOk P w K mg base 1 (He.fAd K ("Board", some "__len__")) fd11 ["self"] 1 F_Board___len__ := dn_Board___len__ P11  fo_Board__rows m_len
  have d_Board_rows : MOk P w K mg base 1 (He5.wf K (He.ga K "Board") "property" "rows") fd12 ["self"] 1 F_Board_rows := dn_Board_rows P12  fo_Board__rows m_list
  have it_Board : ItK P w K mg base 1 "Board" "_rows" := ItK.of (c.fact 19 (f := chkF (.meth "Board" "__iter__")) rfl) d_Board___iter__
  have ln_Board : LnK P w K mg base 1 "Board" "_rows" := LnK.of (c.fact 20 (f := chkF (.meth "Board" "__len__")) rfl) (dnL_Board___len__ P11 fo_Board__rows m_len)
  have op_Board___len__ : OpK P w K mg base 1 "Board" "__len__" 1 F_Board___len__ := OpK.of (c.fact 20 (f := chkF (.meth "Board" "__len__")) rfl) d_Board___len__
  have t_listing : Mt P w K mg base 1 "listing" 1 (mtF mt_listing) := Mt.of (mtCons (mtE (c.fact 21 (f := chkF (.meth "Board" "listing")) rfl) (c.fact 22 (f := chkSame "Board" "Board" "listing") rfl) d_Board_listing (by decide)) mtNil)
  have m_isinstance : mg "isinstance" = none := He.free_ok X G (c.fact 23 (f := chkF (.free "isinstance")) rfl)
  have m_all : mg "all" = none := He.free_ok X G (c.fact 24 (f := chkF (.free "all")) rfl)
  have pr_Board_rows : PrK P w K mg base 1 "Board" "rows" F_Board_rows := PrK.of (c.fact 25 (f := chkPr "Board" "rows") rfl) d_Board_rows
  have d__law_shown : Dn P w K mg base 6 "_law_shown" 2 F__law_shown := dn__law_shown P13 (He.glo_ok X G (c.fact 40 (f := chkF (.glo "_law_shown")) rfl)) d__law_lines it_Board m_sorted ln_Board m_list op_Board___len__ m_len t_listing m_isinstance m_str m_all pr_Board_rows
  have cl_Board : Cls K (He.ga K "Board") := chkMk_cls (fs := ["late", "_rows", "_ended", "_span"]) (c.fact 4 (f := chkMk "Board" ["late", "_rows", "_ended", "_span"]) rfl)
  have mm_Board_take : MtM P w K mg base 3 "Board" "take" [true, false] F_Board_take := MtM.of cl_Board (c.fact 26 (f := chkF (.meth "Board" "take")) rfl) d_Board_take
  have d_Board___iadd__ : MOkM P w K mg base 4 (He.fAd K ("Board", some "__iadd__")) fd14 ["self", "words"] [true, false] F_Board___iadd__ := dn_Board___iadd__ P14  cl_Board mm_Board_take
  have na_Board_late : NoAttr K (He.ga K "Board") "late" := chkMk_no (fs := ["late", "_rows", "_ended", "_span"]) (c.fact 4 (f := chkMk "Board" ["late", "_rows", "_ended", "_span"]) rfl) (by decide +kernel)
  have d_Board___init__ : FnOk P w K mg base (L2.CX P w) 1 (He.fAd K ("Board", some "__init__")) fd15 ["self"] (spO K "Board" 0 F_Board___init__) := dn_Board___init__ P15  cl_Board na_Board_late fo_Board__rows fo_Board__ended fo_Board__span
  have bI_Board : Binds K fd15 ["self"] [] := FunD.bindsN (ps := ["self"]) P15 fun _ _ _ _ _ _ us hl => match us, hl with | [_], _ => rfl
  have d_Board___contains__ : MOk P w K mg base 1 (He.fAd K ("Board", some "__contains__")) fd16 ["self", "session"] 2 F_Board___contains__ := dn_Board___contains__ P16  fo_Board__rows
  have d_Board_ended : MOk P w K mg base 1 (He5.wf K (He.ga K "Board") "property" "ended") fd17 ["self"] 1 F_Board_ended := dn_Board_ended P17  fo_Board__ended m_list
  have dO_Board : DnO P w K mg base 1 "Board" 0 F_Board___init__ := DnO.of (fs := ["late", "_rows", "_ended", "_span"]) (c.fact 4 (f := chkMk "Board" ["late", "_rows", "_ended", "_span"]) rfl) d_Board___init__ bI_Board
  have g_Board : mg "Board" = some (.ref (He.ga K "Board")) := He.glo_ok X G (c.fact 27 (f := chkF (.glo "Board")) rfl)
  have mm_Board___iadd__ : MtM P w K mg base 4 "Board" "__iadd__" [true, false] F_Board___iadd__ := MtM.of cl_Board (c.fact 28 (f := chkF (.meth "Board" "__iadd__")) rfl) d_Board___iadd__
  have sf_Board : PySem.W.selfFirst K (He.ga K "Board") = true := (c.fact 29 (f := chkSelf "Board") rfl)
  have op_Board___contains__ : OpK P w K mg base 1 "Board" "__contains__" 2 F_Board___contains__ := OpK.of (c.fact 30 (f := chkF (.meth "Board" "__contains__")) rfl) d_Board___contains__
  have pr_Board_ended : PrK P w K mg base 1 "Board" "ended" F_Board_ended := PrK.of (c.fact 31 (f := chkPr "Board" "ended") rfl) d_Board_ended
  have d_law : FnOk P w K mg base (L2.CX P w) 7 _ fd18 ["_law_script"] (spF K 1 F_law) := dn_law P18 (He.glo_ok X G (c.fact 41 (f := chkF (.glo "law")) rfl)) d__law_cell d__law_row d__law_big d__law_count d__law_standing_pool d__law_shown dO_Board g_Board m_int m_len cl_Board mm_Board_take mm_Board___iadd__ sf_Board op_Board___contains__ pr_Board_ended fo_Board_late
  exact d_law
open SX (S)
theorem strs_S2 (ls : List (List Nat)) : strsOf (ls.map fun l => D.str (S l)) = some (ls.map S) := by
  induction ls with
  | nil => rfl
  | cons l ls ih =>
    show (strsOf (ls.map fun l => D.str (S l))).map (S l :: ·) = _
    rw [ih]
    rfl
theorem join_S2 (c : Nat) (ls : List (List Nat)) : Txt.join (S [c]) (ls.map S) = S (TL.joinL [c] ls) := by
  rw [TL.join_eq]
  refine TL.ext_tl ?_
  rw [TL.tl_join, SX.map_S_tl]
theorem joinD_S2 (c : Nat) (o : Bool) (ls : List (List Nat)) (h : (ls.map (·.length)).sum + ls.length ≤ 16777216) : joinD (.str (S [c])) (.lst o (ls.map fun l => D.str (S l))) = some (.str (S (TL.joinL [c] ls))) := by
  show joinG (S [c]) (ls.map fun l => D.str (S l)) = _
  unfold joinG
  rw [strs_S2]
  show (if _ then some _ else none) = _
  rw [if_pos, join_S2]
  have : (S [c]).length = 1 := SX.S_len [c]
  rw [SX.lens, List.length_map, this, Nat.mul_one]
  exact h
theorem joinL_len2 (c : Nat) : ∀ ls : List (List Nat), (TL.joinL [c] ls).length ≤ (ls.map (·.length)).sum + ls.length
  | [] => Nat.le_refl _
  | [l] => by
    show l.length ≤ (l.length + 0) + 1
    omega
  | l :: l2 :: ls => by
    have ih := joinL_len2 c (l2 :: ls)
    show (l ++ ([c] ++ TL.joinL [c] (l2 :: ls))).length ≤ _
    simp only [List.length_append, List.length_cons, List.length_nil, List.map_cons, List.sum_cons] at ih ⊢
    omega
theorem joinL_A72 {c : Nat} (hc : c < 128) : ∀ {ls : List (List Nat)}, (∀ l ∈ ls, A7 l) → A7 (TL.joinL [c] ls)
  | [], _ => A7.nil
  | [l], h => h l (by simp)
  | l :: l2 :: ls, h => by
    show A7 (l ++ ([c] ++ TL.joinL [c] (l2 :: ls)))
    refine (h l (by simp)).app (A7.app (fun x hx => by simp at hx; omega) ?_)
    exact joinL_A72 hc fun x hx => h x (List.mem_cons_of_mem _ hx)
theorem sum_bound2 (m : Nat) : ∀ ls : List (List Nat), (∀ l ∈ ls, l.length ≤ m) → (ls.map (·.length)).sum ≤ ls.length * m
  | [], _ => Nat.zero_le _
  | l :: ls, h => by
    have ih := sum_bound2 m ls fun x hx => h x (List.mem_cons_of_mem _ hx)
    have := h l (by simp)
    rw [List.map_cons, List.sum_cons, List.length_cons, Nat.add_mul]
    omega
theorem strI_lenL2 {n : Int} (h : strI n = true) : (intL n).length ≤ 101 := by
  unfold strI at h
  have := of_decide_eq_true h
  exact intL_len (k := 100) (by decide) (Nat.lt_of_lt_of_le this (by decide))
def padR (l : List Nat) : List Nat := l ++ List.replicate (8 - l.length) 32
def padL (l : List Nat) : List Nat := List.replicate (8 - l.length) 32 ++ l
theorem padR_len (l : List Nat) : (padR l).length ≤ l.length + 8 := by unfold padR; simp; try omega
theorem padL_len (l : List Nat) : (padL l).length ≤ l.length + 8 := by unfold padL; simp; try omega
theorem rep_A7 (n : Nat) : A7 (List.replicate n 32) := fun c h => by
  have := (List.mem_replicate.mp h).2
  omega
theorem padR_A7 {l : List Nat} (h : A7 l) : A7 (padR l) := h.app (rep_A7 _)
theorem padL_A7 {l : List Nat} (h : A7 l) : A7 (padL l) := (rep_A7 _).app h
theorem ljS (l : List Nat) : Txt.ljust (S l) 8 = S (padR l) := by
  have hl : (S l).length = l.length := SX.S_len l
  unfold Txt.ljust
  rw [hl]
  refine TL.ext_tl ?_
  by_cases h : (8 : Int) ≤ l.length
  · rw [if_pos h]
    unfold padR
    rw [show 8 - l.length = 0 by omega]
    show l = _
    simp
  · rw [if_neg h]
    show (Array.replicate 0 32 ++ l.toArray ++ Array.replicate ((8 : Int).toNat - l.length) 32).toList = padR l
    unfold padR
    simp
theorem rjS (l : List Nat) : Txt.rjust (S l) 8 = S (padL l) := by
  have hl : (S l).length = l.length := SX.S_len l
  unfold Txt.rjust
  rw [hl]
  refine TL.ext_tl ?_
  by_cases h : (8 : Int) ≤ l.length
  · rw [if_pos h]
    unfold padL
    rw [show 8 - l.length = 0 by omega]
    show l = _
    simp
  · rw [if_neg h]
    show (Array.replicate ((8 : Int).toNat - l.length) 32 ++ l.toArray ++ Array.replicate 0 32).toList = padL l
    unfold padL
    simp
def kL (s : Sn) : List Nat := s.k.s.cps.toList
theorem kL_S (s : Sn) : s.k.s = S (kL s) := (SX.S_tl _).symm
structure So (s : Sn) : Prop where
  ka : A7 (kL s)
  kl : (kL s).length ≤ 20
  f : strI s.f = true
  l : strI s.l = true
  w : ∀ v ∈ s.w, strI v = true
  wl : s.w.length ≤ 3
  no : s.k.s ≠ Str.ofString "nobody"
def wdL (s : Sn) : List Nat := TL.joinL [32] (s.w.map intL)
def hdL (s : Sn) : List Nat := ((padR (kL s) ++ padL (intL s.f)) ++ padL (intL s.l)) ++ [32, 32]
def lnL (s : Sn) : List Nat := hdL s ++ wdL s
theorem wdL_len {s : Sn} (h : So s) : (wdL s).length ≤ 400 := by
  have h1 := joinL_len2 32 (s.w.map intL)
  have h2 := sum_bound2 101 (s.w.map intL) fun l hl => by
    obtain ⟨v, hv, rfl⟩ := List.mem_map.mp hl
    exact strI_lenL2 (h.w v hv)
  have h3 := h.wl
  rw [List.length_map] at h1 h2
  unfold wdL
  omega
theorem wdL_A7 (s : Sn) : A7 (wdL s) := joinL_A72 (by decide) fun l hl => by
  obtain ⟨v, _, rfl⟩ := List.mem_map.mp hl
  exact intL_A7 v
theorem lnL_A7 {s : Sn} (h : So s) : A7 (lnL s) :=
  A7.app (A7.app (A7.app (A7.app (padR_A7 h.ka) (padL_A7 (intL_A7 _))) (padL_A7 (intL_A7 _))) (fun c hc => by simp at hc; omega)) (wdL_A7 s)
theorem join_w {s : Sn} (h : So s) (o : Bool) : joinD (.str (Str.ofString " ")) (.lst o ((s.w.map intL).map fun l => D.str (S l))) = some (.str (S (wdL s))) := by
  have h2 := sum_bound2 101 (s.w.map intL) fun l hl => by
    obtain ⟨v, hv, rfl⟩ := List.mem_map.mp hl
    exact strI_lenL2 (h.w v hv)
  have h3 := h.wl
  rw [show (Str.ofString " ") = S [32] by kernel_rfl]
  refine joinD_S2 32 o _ ?_
  rw [List.length_map] at h2 ⊢
  omega
theorem nums_map (w : List Int) : (w.map intL).map (fun l => D.str (S l)) = w.map fun v => D.str (S (intL v)) := by rw [List.map_map]; rfl
theorem lines_step (a0 : Option D) (s : Sn) (h : So s) (X : List D) (hX : X.length < 1000000) (o2 o3 o4 o5 o6 : Option D) :
    ∃ o6', b1__law_lines [a0, some (.lst true X), some (.str s.k.s), some (.int s.f), some (.int s.l), some (.tup (Ds s.w)), o6, none] = .nx [a0, some (.lst true (X ++ [.str (S (lnL s))])), some (.str s.k.s), some (.int s.f), some (.int s.l), some (.tup (Ds s.w)), o6', none] := by
  have lf := strI_lenL2 h.f
  have ll := strI_lenL2 h.l
  have pk := padR_len (kL s)
  have pf := padL_len (intL s.f)
  have pl := padL_len (intL s.l)
  have kk := h.kl
  have wl := wdL_len h
  have hh : (hdL s).length ≤ 300 := by unfold hdL; simp only [List.length_append, List.length_cons, List.length_nil]; omega
  have n1 := strN_S h.f
  have n2 := strN_S h.l
  have j1 : ∀ l, ljustD (.str (S l)) (.int 8) = some (.str (S (padR l))) := fun l => by show (if (8 : Int) = 8 then some (D.str (Txt.ljust (S l) 8)) else none) = _; rw [if_pos rfl, ljS]
  have j2 : ∀ l, rjustD (.str (S l)) (.int 8) = some (.str (S (padL l))) := fun l => by show (if (8 : Int) = 8 then some (D.str (Txt.rjust (S l) 8)) else none) = _; rw [if_pos rfl, rjS]
  have p1 : addD (.str (S (padR (kL s)))) (.str (S (padL (intL s.f)))) = some (.str (S (padR (kL s) ++ padL (intL s.f)))) := addS (by omega)
  have p2 : addD (.str (S (padR (kL s) ++ padL (intL s.f)))) (.str (S (padL (intL s.l)))) = some (.str (S ((padR (kL s) ++ padL (intL s.f)) ++ padL (intL s.l)))) := addS (by simp only [List.length_append]; omega)
  have p3 : addD (.str (S ((padR (kL s) ++ padL (intL s.f)) ++ padL (intL s.l)))) (.str (Str.ofString "  ")) = some (.str (S (hdL s))) := by
    rw [show (Str.ofString "  ") = S [32, 32] by kernel_rfl]
    exact addS (by simp only [List.length_append, List.length_cons, List.length_nil]; omega)
  have p4 : addD (.str (S (hdL s))) (.str (S (wdL s))) = some (.str (S (lnL s))) := addS (by omega)
  have sq : seqOfB (.tup (Ds s.w)) = .ok (Ds s.w) := seqOfB_Ts _
  have cm : ∀ a1 o6, compG 7 bYes e1__law_lines [a0, a1, some (.str s.k.s), some (.int s.f), some (.int s.l), some (.tup (Ds s.w)), o6, none] (Ds s.w) [] = some ((s.w.map intL).map fun l => D.str (S l)) := fun a1 o6 => by
    rw [nums_map]
    have := comp_mapE (α := Int) (j := 7) (te := e1__law_lines) (ρ := [a0, a1, some (.str s.k.s), some (.int s.f), some (.int s.l), some (.tup (Ds s.w)), o6, none]) (by simp) Dm.d (fun v => D.str (S (intL v))) s.w [] (fun v hv => by
      have := strN_S (h.w v hv)
      show e1__law_lines [a0, a1, some (.str s.k.s), some (.int s.f), some (.int s.l), some (.tup (Ds s.w)), o6, some (.int v)] = _
      simp [e1__law_lines, this]) (by have := h.wl; simp; omega)
    exact this
  have jw := join_w h true
  have ks : (S (kL s)) = s.k.s := (kL_S s).symm
  rw [← ks] at cm ⊢
  refine ⟨some (.str (S (hdL s))), ?_⟩
  generalize (padR (kL s) ++ padL (intL s.f)) ++ padL (intL s.l) = L2 at *
  generalize padR (kL s) ++ padL (intL s.f) = L1 at *
  generalize (s.w.map intL).map (fun l => D.str (S l)) = WS at *
  simp [b1__law_lines, n1, n2, j1, j2, p1, p2, p3, p4, sq, cm, jw, wipeE, hX, LIM]
def LD (R : List Sn) : List D := R.map fun s => .str (S (lnL s))
theorem lines_loop (a0 : Option D) : ∀ (R : List Sn) (X : List D) (o2 o3 o4 o5 o6 : Option D), (∀ s ∈ R, So s) → X.length + R.length < 1000000 →
    ∃ o2' o3' o4' o5' o6', loopS (tgU [2, 3, 4, 5]) b1__law_lines (Ds R) [a0, some (.lst true X), o2, o3, o4, o5, o6, none] = .nx [a0, some (.lst true (X ++ LD R)), o2', o3', o4', o5', o6', none]
  | [], X, o2, o3, o4, o5, o6, _, _ => ⟨o2, o3, o4, o5, o6, by simp [LD, loopS]⟩
  | s :: R, X, o2, o3, o4, o5, o6, h, hX => by
    rw [List.length_cons] at hX
    obtain ⟨o6a, e⟩ := lines_step a0 s (h s List.mem_cons_self) X (by omega) none none none none o6
    obtain ⟨p2, p3, p4, p5, p6, ih⟩ := lines_loop a0 R (X ++ [.str (S (lnL s))]) (some (.str s.k.s)) (some (.int s.f)) (some (.int s.l)) (some (.tup (Ds s.w))) o6a (fun x hx => h x (List.mem_cons_of_mem _ hx)) (by simp; omega)
    refine ⟨p2, p3, p4, p5, p6, ?_⟩
    rw [Ds_cons, loop_nx (ρ1 := [a0, some (.lst true X), some (.str s.k.s), some (.int s.f), some (.int s.l), some (.tup (Ds s.w)), o6, none]) rfl e, ih]
    simp [LD]
theorem lines_ok (o : Bool) (M : List Sn) (h : ∀ s ∈ M, So s) (hl : M.length ≤ 1000) : F__law_lines [.lst o (Ds M)] = .ok (.lst true (LD (srtD M))) := by
  have so := sortN_dm (show Dm.dep Sn ≤ 20 by decide) o M (by omega)
  have hs : ∀ s ∈ srtD M, So s := fun s hs => h s ((srtD_perm M).mem_iff.mp hs)
  have hls := srtD_len M
  obtain ⟨o2, o3, o4, o5, o6, lp⟩ := lines_loop (some (.lst o (Ds M))) (srtD M) [] none none none none none hs (by simp; omega)
  have sq : seqOf (.lst true (Ds (srtD M))) = .ok (Ds (srtD M)) := seqOf_Ds _ _
  rw [List.nil_append] at lp
  simp [F__law_lines, g__law_lines, runF, so, sq, lp, sRetV]
theorem listing_step (a0 : Option D) (s : Sn) (h : So s) (X : List D) (hX : X.length < 1000000) (o6 : Option D) :
    ∃ o6', b1_Board_listing [a0, some (.lst true X), some (.str s.k.s), some (.int s.f), some (.int s.l), some (.tup (Ds s.w)), o6, none] = .nx [a0, some (.lst true (X ++ [.str (S (lnL s))])), some (.str s.k.s), some (.int s.f), some (.int s.l), some (.tup (Ds s.w)), o6', none] := by
  have lf := strI_lenL2 h.f
  have ll := strI_lenL2 h.l
  have pk := padR_len (kL s)
  have pf := padL_len (intL s.f)
  have pl := padL_len (intL s.l)
  have kk := h.kl
  have wl := wdL_len h
  have f1 : fmtL8 (.str (S (kL s))) = some (.str (S (padR (kL s)))) := by
    show (if (S (kL s)).length + 8 ≤ LIM then some (D.str (Txt.ljust (S (kL s)) 8)) else none) = _
    rw [if_pos (by rw [SX.S_len]; exact (by omega : (kL s).length + 8 ≤ 1000000)), ljS]
  have f2 : ∀ i, strI i = true → fmtR8 (.int i) = some (.str (S (padL (intL i)))) := fun i hi => by
    show (if strI i then some (D.str (Txt.rjust (Str.ofString (toString i)) 8)) else none) = _
    rw [if_pos hi, ← rjS, ← str_int]
  have f3 := f2 _ h.f
  have f4 := f2 _ h.l
  have fs : ∀ l : List Nat, l.length ≤ 1000 → fmtD (.str (S l)) = some (.str (S l)) := fun l hl => by
    show (if (S l).length ≤ LIM then some (D.str (S l)) else none) = _
    rw [if_pos (by rw [SX.S_len]; exact (by omega : l.length ≤ 1000000))]
  have m1 := fs (padR (kL s)) (by omega)
  have m2 := fs (padL (intL s.f)) (by omega)
  have m3 := fs (padL (intL s.l)) (by omega)
  have m4 := fs [32, 32] (by decide)
  have m5 := fs (wdL s) (by omega)
  have ap : ∀ a b : List Nat, a.length + b.length ≤ 1000000 → (S a ++ S b = S (a ++ b)) ∧ (S (a ++ b)).length ≤ LIM := fun a b hab => ⟨SX.S_cat a b, by rw [SX.S_len, List.length_append]; exact hab⟩
  have e0 : (Str.empty : Str) = S [] := rfl
  have sq : seqOfB (.tup (Ds s.w)) = .ok (Ds s.w) := seqOfB_Ts _
  have cm : ∀ a1 o6, compG 7 bYes e1_Board_listing [a0, a1, some (.str s.k.s), some (.int s.f), some (.int s.l), some (.tup (Ds s.w)), o6, none] (Ds s.w) [] = some ((s.w.map intL).map fun l => D.str (S l)) := fun a1 o6 => by
    rw [nums_map]
    have := comp_mapE (α := Int) (j := 7) (te := e1_Board_listing) (ρ := [a0, a1, some (.str s.k.s), some (.int s.f), some (.int s.l), some (.tup (Ds s.w)), o6, none]) (by simp) Dm.d (fun v => D.str (S (intL v))) s.w [] (fun v hv => by
      have := strN_S (h.w v hv)
      show e1_Board_listing [a0, a1, some (.str s.k.s), some (.int s.f), some (.int s.l), some (.tup (Ds s.w)), o6, some (.int v)] = _
      simp [e1_Board_listing, this]) (by have := h.wl; simp; omega)
    exact this
  have jw := join_w h true
  have ks : (S (kL s)) = s.k.s := (kL_S s).symm
  rw [← ks] at cm ⊢
  refine ⟨some (.str (S (wdL s))), ?_⟩
  have fstr : ∀ a1, dFs [(dFmtL (dVar 2)), (dFmtR (dVar 3)), (dFmtR (dVar 4)), (dC (.str ("  " : Str))), (dVar 6)] [a0, a1, some (.str (S (kL s))), some (.int s.f), some (.int s.l), some (.tup (Ds s.w)), some (.str (S (wdL s))), none] = .ok (.str (S (lnL s))) := fun a1 => by
    have c2 : (Str.ofString "  ") = S [32, 32] := by kernel_rfl
    unfold dFs
    rw [e0, c2]
    have q1 := ap [] (padR (kL s)) (by simp; omega)
    have q2 := ap (padR (kL s)) (padL (intL s.f)) (by omega)
    have q3 := ap (padR (kL s) ++ padL (intL s.f)) (padL (intL s.l)) (by simp only [List.length_append]; omega)
    have q4 := ap ((padR (kL s) ++ padL (intL s.f)) ++ padL (intL s.l)) [32, 32] (by simp only [List.length_append, List.length_cons, List.length_nil]; omega)
    have q5 := ap (hdL s) (wdL s) (by unfold hdL; simp only [List.length_append, List.length_cons, List.length_nil]; omega)
    have q4 : (S ((padR (kL s) ++ padL (intL s.f)) ++ padL (intL s.l)) ++ S [32, 32] = S (hdL s)) ∧ (S (hdL s)).length ≤ LIM := q4
    have q5 : (S (hdL s) ++ S (wdL s) = S (lnL s)) ∧ (S (lnL s)).length ≤ LIM := q5
    have q1 : (S [] ++ S (padR (kL s)) = S (padR (kL s))) ∧ (S (padR (kL s))).length ≤ LIM := q1
    generalize (padR (kL s) ++ padL (intL s.f)) ++ padL (intL s.l) = L2 at *
    generalize padR (kL s) ++ padL (intL s.f) = L1 at *
    simp [dJs, fmtE, f1, f3, f4, m1, m2, m3, m4, m5, q1, q2, q3, q4, q5]
  generalize (s.w.map intL).map (fun l => D.str (S l)) = WS at *
  simp [b1_Board_listing, sq, cm, jw, wipeE, hX, LIM, fstr]
theorem listing_loop (a0 : Option D) : ∀ (R : List Sn) (X : List D) (o2 o3 o4 o5 o6 : Option D), (∀ s ∈ R, So s) → X.length + R.length < 1000000 →
    ∃ o2' o3' o4' o5' o6', loopS (tgU [2, 3, 4, 5]) b1_Board_listing (Ds R) [a0, some (.lst true X), o2, o3, o4, o5, o6, none] = .nx [a0, some (.lst true (X ++ LD R)), o2', o3', o4', o5', o6', none]
  | [], X, o2, o3, o4, o5, o6, _, _ => ⟨o2, o3, o4, o5, o6, by simp [LD, loopS]⟩
  | s :: R, X, o2, o3, o4, o5, o6, h, hX => by
    rw [List.length_cons] at hX
    obtain ⟨o6a, e⟩ := listing_step a0 s (h s List.mem_cons_self) X (by omega) o6
    obtain ⟨p2, p3, p4, p5, p6, ih⟩ := listing_loop a0 R (X ++ [.str (S (lnL s))]) (some (.str s.k.s)) (some (.int s.f)) (some (.int s.l)) (some (.tup (Ds s.w))) o6a (fun x hx => h x (List.mem_cons_of_mem _ hx)) (by simp; omega)
    refine ⟨p2, p3, p4, p5, p6, ?_⟩
    rw [Ds_cons, loop_nx (ρ1 := [a0, some (.lst true X), some (.str s.k.s), some (.int s.f), some (.int s.l), some (.tup (Ds s.w)), o6, none]) rfl e, ih]
    simp [LD]
theorem listing_ok (late : Int) (R E : List Sn) (span : Int) (h : ∀ s ∈ R, So s) (hl : R.length ≤ 1000) : F_Board_listing [bf late R E span] = .ok (.lst true (LD R)) := by
  have gB : fldD "_rows" ["Board"] (bf late R E span) = some (.lst false (Ds R)) := fld_b1 _ _ _ _
  generalize bf late R E span = B at *
  obtain ⟨o2, o3, o4, o5, o6, lp⟩ := listing_loop (some B) R [] none none none none none h (by simp; omega)
  have sq : seqOf (.lst false (Ds R)) = .ok (Ds R) := seqOf_Ds _ _
  rw [List.nil_append] at lp
  simp [F_Board_listing, g_Board_listing, runF, gB, sq, lp, sRetV]
theorem LD_okds : ∀ R : List Sn, (∀ s ∈ R, So s) → D.okds (LD R) 19 = true
  | [], _ => rfl
  | s :: R, h => by
    have h1 := S_ok (lnL_A7 (h s List.mem_cons_self))
    have ih := LD_okds R fun x hx => h x (List.mem_cons_of_mem _ hx)
    show (PyData.strOk (S (lnL s)) && D.okds (LD R) 19) = true
    rw [h1, ih]
    rfl
theorem ne_LD (R : List Sn) (h : ∀ s ∈ R, So s) (o1 o2 : Bool) : neD (.lst o1 (LD R)) (.lst o2 (LD R)) = some false := by
  have ok : ∀ o : Bool, (D.lst o (LD R)).okd DEP = true := fun o => LD_okds R h
  refine neD_of (c := true) (ok _) (ok _) ?_
  exact PySem.SeqAt.eqv_refl (D.lst o1 (LD R)).py (okd_lay _ DEP (ok o1)).1
theorem eq_LD (R : List Sn) (h : ∀ s ∈ R, So s) (o1 o2 : Bool) : eqD (.lst o1 (LD R)) (.lst o2 (LD R)) = some true := by
  have ok : ∀ o : Bool, (D.lst o (LD R)).okd DEP = true := fun o => LD_okds R h
  refine eqD_of (c := true) (ok _) (ok _) ?_
  exact PySem.SeqAt.eqv_refl (D.lst o1 (LD R)).py (okd_lay _ DEP (ok o1)).1
theorem walk_loop (a0 a1 : Option D) : ∀ (R X : List Sn) (o3 : Option D), X.length + R.length < 1000000 →
    ∃ o3', loopS (tgN 3) b1__law_shown (Ds R) [a0, a1, some (.lst true (Ds X)), o3, none, none] = .nx [a0, a1, some (.lst true (Ds (X ++ R))), o3', none, none]
  | [], X, o3, _ => ⟨o3, by simp [loopS]⟩
  | s :: R, X, o3, h => by
    rw [List.length_cons] at h
    obtain ⟨o3', ih⟩ := walk_loop a0 a1 R (X ++ [s]) (some (Dm.d s)) (by simp; omega)
    have lx : X.length < LIM := lt_lim (by omega)
    have e : b1__law_shown [a0, a1, some (.lst true (Ds X)), some (Dm.d s), none, none] = .nx [a0, a1, some (.lst true (Ds (X ++ [s]))), some (Dm.d s), none, none] := by
      have sn := Ds_snoc X s
      simp [b1__law_shown, lx, sn]
    refine ⟨o3', ?_⟩
    rw [Ds_cons, loop_nx (ρ1 := [a0, a1, some (.lst true (Ds X)), some (Dm.d s), none, none]) rfl e, ih, List.append_assoc]
    rfl
theorem LD_fzs : ∀ R : List Sn, D.fzs (LD R) = true
  | [] => rfl
  | s :: R => LD_fzs R
theorem LD_clns : ∀ R : List Sn, D.clns (LD R) = true
  | [] => rfl
  | s :: R => LD_clns R
theorem LD_len (R : List Sn) : (LD R).length = R.length := by unfold LD; rw [List.length_map]
theorem all_str (a0 a1 a2 a3 a4 : Option D) (R : List Sn) (hl : R.length ≤ 1000) : compG 5 bYes e1__law_shown [a0, a1, a2, a3, a4, none] (LD R) [] = some (R.map fun _ => D.bl true) := by
  have := comp_mapE (α := Sn) (j := 5) (te := e1__law_shown) (ρ := [a0, a1, a2, a3, a4, none]) (by simp) (fun s => D.str (S (lnL s))) (fun _ => D.bl true) R [] (fun s _ => by
    show e1__law_shown [a0, a1, a2, a3, a4, some (.str (S (lnL s)))] = _
    rfl) (by simp; omega)
  exact this
theorem shown_ok (late : Int) (E M : List Sn) (span : Int) (h : ∀ s ∈ M, So s) (hl : M.length ≤ 1000) : F__law_shown [bf late (srtD M) E span, .lst false (Ds M)] = .ok (.bl true) := by
  have hs : ∀ s ∈ srtD M, So s := fun s hs => h s ((srtD_perm M).mem_iff.mp hs)
  have hls := srtD_len M
  have so := sortN_dm (show Dm.dep Sn ≤ 20 by decide) false M (by omega)
  have lo := lines_ok false M h hl
  have li := listing_ok late (srtD M) E span hs (by omega)
  have ii : isIns "Board" (bf late (srtD M) E span) = true := by unfold bf; rw [x_isIns]; exact beq_self_eq_true _
  have cR := rows_ok late (srtD M) E span
  have cL := blen_ok late (srtD M) E span
  have gB : fldD "_rows" ["Board"] (bf late (srtD M) E span) = some (.lst false (Ds (srtD M))) := fld_b1 _ _ _ _
  have it : itsOf "Board" "_rows" (bf late (srtD M) E span) = .ok (Ds (srtD M)) := by
    unfold itsOf
    rw [if_pos ii, gB]
  have ml : methF "listing" (mtF mt_listing) (bf late (srtD M) E span) = .ok fun ds => callR F_Board_listing (bf late (srtD M) E span :: ds) := x_methF (by decide +kernel) rfl
  have fB : (bf late (srtD M) E span).fz = true := rfl
  have frB : (bf late (srtD M) E span).frz = bf late (srtD M) E span := rfl
  generalize bf late (srtD M) E span = B at *
  obtain ⟨o3, lp⟩ := walk_loop (some B) (some (.lst false (Ds M))) (srtD M) [] none (by simp; omega)
  rw [List.nil_append, show (Ds ([] : List Sn)) = [] from rfl] at lp
  have n1 := neD_Ds (show Dm.dep Sn ≤ 19 by decide) true true (srtD M) (srtD M)
  have q1 := eqD_Ds (show Dm.dep Sn ≤ 19 by decide) true true (srtD M) (srtD M)
  rw [decide_eq_true rfl] at n1 q1
  have n2 := ne_LD (srtD M) hs true true
  have q2 := eq_LD (srtD M) hs true true
  have lr : lenR (.ok (.int (srtD M).length)) = .ok (.int M.length) := by rw [hls]; exact x_lenR ⟨by omega, by omega⟩
  have nl : neD (.int M.length) (.int M.length) = some false := by
    show some (!_) = _
    simp [PyData.eqv, D.py]
  have lD : (srtD M).length < 1000000 := by omega
  have sL : seqOfB (.lst true (LD (srtD M))) = .ok (LD (srtD M)) := if_pos (LD_fzs _)
  have al := fun a0 a1 a2 a3 a4 => all_str a0 a1 a2 a3 a4 (srtD M) (by omega)
  have at_ := allN_true true (srtD M)
  have lc := LD_clns (srtD M)
  have ll : (LD (srtD M)).length < 1000000 := by rw [LD_len]; omega
  generalize LD (srtD M) = LL1 at *
  generalize (srtD M).map (fun _ => D.bl true) = TT at *
  generalize srtD M = R at *
  simp [F__law_shown, g__law_shown, runF, it, lp, so, n1, lD, ii, fB, frB, cL, lr, nl, ml, li, lc, sL, al, at_, wipeE, n2, lo, ll, LIM, q1, q2, cR]
def keys8 : D := .lst true [.str ("b" : Str), .str ("abcdefgh" : Str), .str ("ab" : Str), .str ("abcdefghi" : Str), .str ("z" : Str), .str ("abcdefghijklmnopqrst" : Str), .str ("ba" : Str), .str ("a" : Str)]
structure Ko (k : Ks) : Prop where
  a : A7 k.s.cps.toList
  l : k.s.cps.toList.length ≤ 20
  n : k.s ≠ Str.ofString "nobody"
theorem key8 {i : Int} (h0 : 0 ≤ i) (h : i < 8) : ∃ k : Ks, ixD keys8 (.int i) = some (.str k.s) ∧ Ko k := by
  have h : i = 0 ∨ i = 1 ∨ i = 2 ∨ i = 3 ∨ i = 4 ∨ i = 5 ∨ i = 6 ∨ i = 7 := by omega
  rcases h with rfl | rfl | rfl | rfl | rfl | rfl | rfl | rfl
  · exact ⟨⟨"b", by decide +kernel⟩, rfl, ⟨by decide +kernel, by decide +kernel, by decide +kernel⟩⟩
  · exact ⟨⟨"abcdefgh", by decide +kernel⟩, rfl, ⟨by decide +kernel, by decide +kernel, by decide +kernel⟩⟩
  · exact ⟨⟨"ab", by decide +kernel⟩, rfl, ⟨by decide +kernel, by decide +kernel, by decide +kernel⟩⟩
  · exact ⟨⟨"abcdefghi", by decide +kernel⟩, rfl, ⟨by decide +kernel, by decide +kernel, by decide +kernel⟩⟩
  · exact ⟨⟨"z", by decide +kernel⟩, rfl, ⟨by decide +kernel, by decide +kernel, by decide +kernel⟩⟩
  · exact ⟨⟨"abcdefghijklmnopqrst", by decide +kernel⟩, rfl, ⟨by decide +kernel, by decide +kernel, by decide +kernel⟩⟩
  · exact ⟨⟨"ba", by decide +kernel⟩, rfl, ⟨by decide +kernel, by decide +kernel, by decide +kernel⟩⟩
  · exact ⟨⟨"a", by decide +kernel⟩, rfl, ⟨by decide +kernel, by decide +kernel, by decide +kernel⟩⟩
theorem off4 {i : Int} (h0 : 0 ≤ i) (h : i < 4) : ∃ o : Int, ixD (.lst true [.int 0, .int 10000000, .int (-10000000), .int 99999999]) (.int i) = some (.int o) ∧ -100000000 < o ∧ o < 100000000 := by
  have h : i = 0 ∨ i = 1 ∨ i = 2 ∨ i = 3 := by omega
  rcases h with rfl | rfl | rfl | rfl
  · exact ⟨_, rfl, by decide, by decide⟩
  · exact ⟨_, rfl, by decide, by decide⟩
  · exact ⟨_, rfl, by decide, by decide⟩
  · exact ⟨_, rfl, by decide, by decide⟩
theorem strI_of {v : Int} (h1 : -1000000000000000000000 < v) (h2 : v < 1000000000000000000000) : strI v = true := decide_eq_true (by omega)
theorem val_ok (n o b : Int) (ho : 0 ≤ o ∧ o < 1000) (hb : -100000000000000000000 < b ∧ b < 100000000000000000000) : ∃ v : Int, F__law_value [.int n, .int o, .int b] = .ok (.int v) ∧ strI v = true := by
  obtain ⟨v, h, hm⟩ := value_ok n o b
  refine ⟨v, h, strI_of ?_ ?_⟩ <;>
  · simp only [List.mem_cons, List.not_mem_nil, or_false] at hm
    omega
theorem cut6r (rs : List Int) (o : Bool) (j : Nat) (h : 6 * j + 6 ≤ rs.length) (hr : ∀ r ∈ rs, 0 ≤ r ∧ r < 1000) : ∃ p0 p1 p2 p3 p4 p5 : Int, slD (.lst o (I rs)) (some (6 * (j : Int))) (some (6 * (j : Int) + 6)) = some (.lst true (I [p0, p1, p2, p3, p4, p5])) ∧ 0 ≤ p3 ∧ p3 < 1000 := by
  have e : slD (.lst o (I rs)) (some (6 * (j : Int))) (some (6 * (j : Int) + 6)) = some (.lst true (Ds (DL.cutD rs (some (6 * (j : Int))) (some (6 * (j : Int) + 6))))) := slD_Ds o rs _ _
  have e2 : DL.cutD rs (some (6 * (j : Int))) (some (6 * (j : Int) + 6)) = (rs.drop (6 * j)).take 6 := by
    unfold DL.cutD
    rw [show (6 * (j : Int)) = ((6 * j : Nat) : Int) by omega, show (((6 * j : Nat) : Int) + 6) = ((6 * j + 6 : Nat) : Int) by omega, HT.sIx_nat, HT.sIx_nat, Nat.min_eq_left (by omega), Nat.min_eq_left (by omega)]
    congr 1
    omega
  have l : ((rs.drop (6 * j)).take 6).length = 6 := by
    rw [List.length_take, List.length_drop]
    omega
  have hm : ∀ x ∈ (rs.drop (6 * j)).take 6, 0 ≤ x ∧ x < 1000 := fun x hx => hr x (List.mem_of_mem_drop (List.mem_of_mem_take hx))
  obtain ⟨p0, p1, p2, p3, p4, p5, e3⟩ : ∃ p0 p1 p2 p3 p4 p5, (rs.drop (6 * j)).take 6 = [p0, p1, p2, p3, p4, p5] := by
    generalize (rs.drop (6 * j)).take 6 = q at l
    match q, l with
    | [a, b, c, d, e, f], _ => exact ⟨a, b, c, d, e, f, rfl⟩
  have h3 := hm p3 (by rw [e3]; simp)
  rw [e, e2, e3]
  exact ⟨p0, p1, p2, p3, p4, p5, rfl, h3.1, h3.2⟩
theorem word_ok (p0 p1 p2 p3 p4 p5 : Int) (n : Nat) (hn : n ≤ 3) (h3 : 0 ≤ p3 ∧ p3 < 1000) (b : Int) (hb : -100000000000000000000 < b ∧ b < 100000000000000000000) :
    ∃ w : List Int, (∀ o8 o9 o10 o0 o1 o2 o4 o5 o6 : Option D, compG 11 bYes e1__law_standing_pool [o0, o1, o2, some (.int b), o4, o5, o6, some (.lst true (I [p0, p1, p2, p3, p4, p5])), o8, o9, o10, none] (rng0 n) [] = some (Ds w)) ∧ w.length = n ∧ ∀ v ∈ w, strI v = true := by
  have hv : ∀ j : Nat, ∃ v : Int, F__law_value [.int (p2 + (j : Int)), .int p3, .int b] = .ok (.int v) ∧ strI v = true := fun j => val_ok _ _ _ h3 hb
  let val : Nat → Int := fun j => Classical.choose (hv j)
  have vs : ∀ j : Nat, F__law_value [.int (p2 + (j : Int)), .int p3, .int b] = .ok (.int (val j)) ∧ strI (val j) = true := fun j => Classical.choose_spec (hv j)
  refine ⟨(List.range n).map val, fun o8 o9 o10 o0 o1 o2 o4 o5 o6 => ?_, by simp, fun v hv => ?_⟩
  · have := comp_mapE (α := Nat) (j := 11) (te := e1__law_standing_pool) (ρ := [o0, o1, o2, some (.int b), o4, o5, o6, some (.lst true (I [p0, p1, p2, p3, p4, p5])), o8, o9, o10, none]) (by simp) (fun i => D.int (i : Int)) (fun i => D.int (val i)) (List.range n) [] (fun i _ => by
      have i2 : ixD (.lst true (I [p0, p1, p2, p3, p4, p5])) (.int 2) = some (.int p2) := rfl
      have i3 : ixD (.lst true (I [p0, p1, p2, p3, p4, p5])) (.int 3) = some (.int p3) := rfl
      have f := (vs i).1
      show e1__law_standing_pool [o0, o1, o2, some (.int b), o4, o5, o6, some (.lst true (I [p0, p1, p2, p3, p4, p5])), o8, o9, o10, some (.int i)] = _
      simp [e1__law_standing_pool, i2, i3, f]) (by simp; omega)
    refine this.trans ?_
    rw [List.nil_append]
    unfold Ds
    rw [List.map_map]
    rfl
  · obtain ⟨j, _, rfl⟩ := List.mem_map.mp hv
    exact (vs j).2
theorem hdS : Dm.dep Sn ≤ 19 := by decide
theorem pool_ok (rs : List Int) (o : Bool) (c : Nat) (base bg : Int) (hc : c ≤ 8) (hl : 6 * c ≤ rs.length) (hr : ∀ r ∈ rs, 0 ≤ r ∧ r < 1000) (hba : -100000000000000000000 < base ∧ base < 100000000000000000000) (hb : -100000000000000000000 < bg ∧ bg < 100000000000000000000) :
    ∃ pool : List Sn, F__law_standing_pool [.lst o (I rs), .int c, .int base, .int bg] = .ok (.lst true (Ds pool)) ∧ pool.length ≤ 8 ∧ pool.Nodup ∧ ∀ s ∈ pool, So s := by
  have hrng : rng1Of [.int (c : Int)] = some (rng0 c) := x_rng1 (by omega) (by omega)
  have pw : powD (.int 10) (.int 7) = some (.int 10000000) := by kernel_rfl
  have ng : negD (.int 10000000) = some (.int (-10000000)) := by kernel_rfl
  obtain ⟨ρ', e, pool, o6, o7, o8, o9, o10, hρ, hlen, hnd, hso⟩ := loop_inv0 (tg := tgN 6) (body := b1__law_standing_pool) (fun j ρ => ∃ (pool : List Sn) (o6 o7 o8 o9 o10 : Option D), ρ = [some (.lst o (I rs)), some (.int c), some (.int base), some (.int bg), some (.lst true (Ds pool)), some keys8, o6, o7, o8, o9, o10, none] ∧ pool.length ≤ j ∧ pool.Nodup ∧ ∀ s ∈ pool, So s) (rng0 c)
      [some (.lst o (I rs)), some (.int c), some (.int base), some (.int bg), some (.lst true []), some keys8, none, none, none, none, none, none] ⟨[], _, _, _, _, _, rfl, by simp, by simp, by simp⟩ fun j d ρ hd ⟨pool, o6, o7, o8, o9, o10, hρ, hlen, hnd, hso⟩ => by
        obtain ⟨rfl, hj⟩ := rng0_get hd
        subst hρ
        have b6 : B64 6 := ⟨by decide, by decide⟩
        obtain ⟨p0, p1, p2, p3, p4, p5, cu, h3⟩ := cut6r rs o j (by omega) hr
        have j0 : ixD (.lst true (I [p0, p1, p2, p3, p4, p5])) (.int 0) = some (.int p0) := rfl
        have j1 : ixD (.lst true (I [p0, p1, p2, p3, p4, p5])) (.int 1) = some (.int p1) := rfl
        have j4 : ixD (.lst true (I [p0, p1, p2, p3, p4, p5])) (.int 4) = some (.int p4) := rfl
        have q0 := emod_lt' p0 (show (0 : Int) < 8 by decide)
        obtain ⟨k, hk, ko⟩ := key8 q0.1 q0.2
        have q1 := emod_lt' (p1 / 3) (show (0 : Int) < 4 by decide)
        obtain ⟨of, hof, of1, of2⟩ := off4 q1.1 q1.2
        have q4 := emod_lt' p4 (show (0 : Int) < 3 by decide)
        have q3 := emod_lt' p1 (show (0 : Int) < 3 by decide)
        obtain ⟨n, hn⟩ : ∃ n : Nat, 1 + p4 % 3 = n := ⟨(1 + p4 % 3).toNat, by omega⟩
        have rn : rng1Of [.int (n : Int)] = some (rng0 n) := x_rng1 (by omega) (by omega)
        obtain ⟨w, wc, wl, ws⟩ := word_ok p0 p1 p2 p3 p4 p5 n (by omega) h3 bg hb
        have tn := tupleN_Ds true w
        have lt : pool.length < 1000000 := by omega
        have so : So ⟨k, base + of, base + of + p1 % 3, w⟩ := ⟨ko.a, ko.l, strI_of (by show _ < base + of; omega) (by show base + of < _; omega), strI_of (by show _ < base + of + p1 % 3; omega) (by show base + of + p1 % 3 < _; omega), ws, by show w.length ≤ 3; omega, ko.n⟩
        have hs : (D.tup [.str k.s, .int (base + of), .int (base + of + p1 % 3), .tup (Ds w)]) = Dm.d (⟨k, base + of, base + of + p1 % 3, w⟩ : Sn) := rfl
        have nI := notInD_Ds hdS (⟨k, base + of, base + of + p1 % 3, w⟩ : Sn) true pool
        have sn := Ds_snoc pool (⟨k, base + of, base + of + p1 % 3, w⟩ : Sn)
        rw [← hs] at nI sn
        have zw : D.fzs (Ds w) = true := Ds_fzs _
        have zw2 : D.frzs (Ds w) = Ds w := frzs_fzs _ zw
        generalize I [p0, p1, p2, p3, p4, p5] = PT at *
        by_cases cs : (⟨k, base + of, base + of + p1 % 3, w⟩ : Sn) ∈ pool
        · refine ⟨_, _, rfl, .inl ?_, pool, some (.int j), some (.lst true PT), some (.int (base + of)), some (.tup (Ds w)), some (.tup [.str k.s, .int (base + of), .int (base + of + p1 % 3), .tup (Ds w)]), rfl, by omega, hnd, hso⟩
          rw [decide_eq_true cs] at nI
          simp [b1__law_standing_pool, x_mulL, b6, cu, j0, j1, j4, x_mod, x_fdiv, pw, ng, hk, hof, hn, rn, wc, tn, zw, zw2, wipeE, nI, LIM]
        · refine ⟨_, _, rfl, .inl ?_, pool ++ [⟨k, base + of, base + of + p1 % 3, w⟩], some (.int j), some (.lst true PT), some (.int (base + of)), some (.tup (Ds w)), some (.tup [.str k.s, .int (base + of), .int (base + of + p1 % 3), .tup (Ds w)]), rfl, by simp; omega, ?_, fun s hs => ?_⟩
          · rw [decide_eq_false cs] at nI
            simp [b1__law_standing_pool, x_mulL, b6, cu, j0, j1, j4, x_mod, x_fdiv, pw, ng, hk, hof, hn, rn, wc, tn, zw, zw2, wipeE, nI, lt, sn, LIM]
          · exact List.nodup_append.mpr ⟨hnd, by simp, fun a ha b hb e => by
              rw [List.mem_singleton] at hb
              subst hb
              subst e
              exact cs ha⟩
          · rcases List.mem_append.mp hs with h | h
            · exact hso s h
            · rw [List.mem_singleton.mp h]
              exact so
  refine ⟨pool, ?_, by rw [rng0_len] at hlen; omega, hnd, hso⟩
  subst hρ
  unfold keys8 at e
  simp [F__law_standing_pool, g__law_standing_pool, runF, hrng, e, sRetV, LIM]
theorem takeR_tell : ∀ (M R E : List Sn) (l p : Int), (R ++ M).Nodup → ∃ p', takeR (M.map (Wd.say .tell)) R E l p = .ok (R ++ M) E l p'
  | [], R, E, l, p, _ => ⟨p, by simp [takeR]⟩
  | s :: M, R, E, l, p, h => by
    have hs : s ∉ R := fun hm => by
      have := (List.nodup_append.mp h).2.2 s hm s List.mem_cons_self
      exact this rfl
    obtain ⟨p', ih⟩ := takeR_tell M (R ++ [s]) E l (p + (s.l - s.f)) (by rw [List.append_assoc]; exact h)
    refine ⟨p', ?_⟩
    show takeR (Wd.say .tell s :: M.map (Wd.say .tell)) R E l p = _
    unfold takeR
    rw [if_pos rfl, if_neg hs, ih, List.append_assoc]
    rfl
theorem takeR_one (x : Sg) (hx : x ≠ .tell) (s : Sn) (R E : List Sn) (l p : Int) (h : s ∈ R) : takeR [Wd.say x s] R E l p = .ok (R.erase s) (if x = .final then E ++ [s] else E) l (p - (s.l - s.f)) := by
  unfold takeR
  rw [if_neg hx, if_pos h]
  unfold takeR
  rfl
theorem add_say (x : Sg) (s : Sn) : addD (.tup [.str x.s]) (Dm.d s) = some (Dm.d (Wd.say x s)) := by
  rw [d_sn, d_say]
  show (if (D.fzs [.str x.s] && D.fzs [.str s.k.s, .int s.f, .int s.l, .tup (Ds s.w)] && _) = true then _ else _) = _
  rw [if_pos]
  · rfl
  · have : D.fzs [.str s.k.s, .int s.f, .int s.l, .tup (Ds s.w)] = true := by show (true && (true && (true && (D.fzs (Ds s.w) && true)))) = true; rw [Ds_fzs]; rfl
    rw [this]
    show (true && true && decide (1 + 4 ≤ LIM)) = true
    decide
theorem frz_bd (oa : Option Addr) (l : Int) (R E : List Sn) (p : Int) : (bd oa l R E p).frz = bf l R E p := by
  have h1 : D.frzs (Ds R) = Ds R := frzs_fzs _ (Ds_fzs R)
  have h2 : D.frzs (Ds E) = Ds E := frzs_fzs _ (Ds_fzs E)
  unfold bd bf
  simp [h1, h2]
theorem tell_comp1 (a0 a1 a2 a3 a4 a5 a6 a7 a8 a9 a11 a12 a13 a14 : Option D) (M : List Sn) (hl : M.length ≤ 1000) : compG 10 bYes e1_law [a0, a1, a2, a3, a4, a5, a6, a7, a8, a9, none, a11, a12, a13, a14] (Ds M) [] = some (Ds (M.map (Wd.say .tell))) := by
  have := comp_mapE (α := Sn) (j := 10) (te := e1_law) (ρ := [a0, a1, a2, a3, a4, a5, a6, a7, a8, a9, none, a11, a12, a13, a14]) (by simp) Dm.d (fun s => Dm.d (Wd.say .tell s)) M [] (fun s _ => by
    have ad := add_say .tell s
    simp only [Sg.s] at ad
    show e1_law [a0, a1, a2, a3, a4, a5, a6, a7, a8, a9, some (Dm.d s), a11, a12, a13, a14] = _
    simp [e1_law, ad, LIM]) (by simp; omega)
  exact this.trans (by simp [Ds])
theorem tell_comp2 (a0 a1 a2 a3 a4 a5 a6 a7 a8 a9 a11 a12 a13 a14 : Option D) (M : List Sn) (hl : M.length ≤ 1000) : compG 10 bYes e2_law [a0, a1, a2, a3, a4, a5, a6, a7, a8, a9, none, a11, a12, a13, a14] (Ds M) [] = some (Ds (M.map (Wd.say .tell))) := tell_comp1 a0 a1 a2 a3 a4 a5 a6 a7 a8 a9 a11 a12 a13 a14 M hl
theorem last_ok (ns ds : List Int) (base bg : Int) (half : Int) (x4 : Option D) (A B E1 E2 : List Sn) (p1 p2 : Int) (hA : ∀ s ∈ A, So s) (hB : ∀ s ∈ B, So s) (lA : A.length ≤ 1000) (lB : B.length ≤ 1000) (x10 x11 x12 x13 : Option D) :
    t16_law [some (.scr ns), some (.lst true (I ds)), some (.int base), some (.int bg), x4, some (bd none 0 (srtD A) E1 p1), some (bd none 0 (srtD B) E2 p2), some (.int half), some (.lst true (Ds A)), some (.lst true (Ds B)), x10, x11, x12, x13, none] = .rt (.bl true) := by
  have s1 := shown_ok 0 E1 A p1 hA lA
  have s2 := shown_ok 0 E2 B p2 hB lB
  have g0 : fldD "late" ["Board"] (bf 0 (srtD A) E1 p1) = some (.int 0) := fld_b0 _ _ _ _
  have z1 := frz_bd none 0 (srtD A) E1 p1
  have z2 := frz_bd none 0 (srtD B) E2 p2
  have fA : (bf 0 (srtD A) E1 p1).fz = true := rfl
  have fB : (bf 0 (srtD B) E2 p2).fz = true := rfl
  have frA : (bf 0 (srtD A) E1 p1).frz = bf 0 (srtD A) E1 p1 := rfl
  have frB : (bf 0 (srtD B) E2 p2).frz = bf 0 (srtD B) E2 p2 := rfl
  have zA : D.frzs (Ds A) = Ds A := frzs_fzs _ (Ds_fzs A)
  have zB : D.frzs (Ds B) = Ds B := frzs_fzs _ (Ds_fzs B)
  generalize bd none 0 (srtD A) E1 p1 = O1 at *
  generalize bd none 0 (srtD B) E2 p2 = O2 at *
  generalize bf 0 (srtD A) E1 p1 = G1 at *
  generalize bf 0 (srtD B) E2 p2 = G2 at *
  simp [t16_law, frzE, z1, z2, zA, zB, s1, s2, g0, fA, fB, frA, frB]
def tl_law : Env → Os := (sSeq (sIf (b2 inD (dVar 11) (dVar 8)) (sSeq (sDropM (dMethM "Board" "__iadd__" [true, false] (selfF F_Board___iadd__) [5] (aCons (dLst (aCons (dFz (dVar 13)) aNil)) aNil)))
    (sSeq (sSet 8 (dLc (iSeqB (dVar 8)) 14 [14] (b2 neD (dVar 14) (dVar 11)) e3_law))
    (sIf (bSnap (bOr (b2 neD (dProp "Board" F_Board_ended (dVar 5)) (dVar 12)) (b2 neD (dProp "Board" F_Board_ended (dVar 6)) (dLst aNil)))) (sRet (dC (.bl false))) sNil))) (sSeq (sDropM (dMethM "Board" "take" [true, false] F_Board_take [6] (aCons (dLst (aCons (dFz (dVar 13)) aNil)) aNil)))
    (sSeq (sSet 9 (dLc (iSeqB (dVar 9)) 14 [14] (b2 neD (dVar 14) (dVar 11)) e4_law))
    (sIf (bSnap (bOr (b2 neD (dProp "Board" F_Board_ended (dVar 6)) (dVar 12)) (b2 neD (dProp "Board" F_Board_ended (dVar 5)) (dLst aNil)))) (sRet (dC (.bl false))) sNil))))
    (sIf (bSnap (bOr (tInO "Board" F_Board___contains__ (dVar 11) (dVar 5)) (tInO "Board" F_Board___contains__ (dVar 11) (dVar 6)))) (sRet (dC (.bl false))) sNil))
theorem t15_split : t15_law = (sSeq (sIf (b2 gtD (dN lenN (aCons (dVar 4) aNil)) (dC (.int 0))) (sSeq (sSet 11 (dFz (d2 ixD (dVar 4) (d2 modD (dN intN (aCons (d2 ixD (dVar 1) (dC (.int 2))) aNil)) (dN lenN (aCons (dVar 4) aNil))))))
    (sSeq (sSet 12 (dLst aNil))
    (sSeq (sSet 13 (d2 addD (dTup (aCons (dC (.str ("retract" : Str))) aNil)) (dVar 11)))
    (sSeq (sIf (b2 eqD (d2 modD (dN intN (aCons (d2 ixD (dVar 1) (dC (.int 3))) aNil)) (dC (.int 2))) (dC (.int 0))) (sSeq (sSet 13 (d2 addD (dTup (aCons (dC (.str ("final" : Str))) aNil)) (dVar 11)))
    (sSet 12 (dLst (aCons (dFz (dVar 11)) aNil)))) sNil)
    tl_law)))) sNil)
    t16_law) := rfl
theorem mem_srt {s : Sn} {M : List Sn} : s ∈ srtD M ↔ s ∈ M := (srtD_perm M).mem_iff
def rid (g : Sn) (M : List Sn) : List Sn := M.filter fun y => !decide (y = g)
theorem rid_mem {g s : Sn} {M : List Sn} : s ∈ rid g M ↔ s ∈ M ∧ s ≠ g := by
  unfold rid
  rw [List.mem_filter]
  simp
theorem rid_erase (g : Sn) : ∀ M : List Sn, M.Nodup → rid g M = M.erase g := fun M nd => by
  rw [nd.erase_eq_filter]
  unfold rid
  refine List.filter_congr fun x _ => ?_
  by_cases e : x = g <;> simp [e]
theorem srt_rid (g : Sn) (M : List Sn) (nd : M.Nodup) : srtD ((srtD M).erase g) = srtD (rid g M) := by
  rw [rid_erase g M nd]
  exact srtD_eq ((srtD_perm M).erase g)
theorem rid_comp (a0 a1 a2 a3 a4 a5 a6 a7 a8 a9 a10 a12 a13 : Option D) (g : Sn) (M : List Sn) (hl : M.length ≤ 1000) : compG 14 (b2 neD (dVar 14) (dVar 11)) e3_law [a0, a1, a2, a3, a4, a5, a6, a7, a8, a9, a10, some (Dm.d g), a12, a13, none] (Ds M) [] = some (Ds (rid g M)) := by
  have := comp_filterE (α := Sn) (j := 14) (tt := b2 neD (dVar 14) (dVar 11)) (te := e3_law) (ρ := [a0, a1, a2, a3, a4, a5, a6, a7, a8, a9, a10, some (Dm.d g), a12, a13, none]) (by simp) Dm.d (fun y : Sn => !decide (y = g)) (fun y => Dm.d y) M [] (fun y _ => by
    have ne := neD_dm (show Dm.dep Sn ≤ 20 by decide) y g
    show b2 neD (dVar 14) (dVar 11) [a0, a1, a2, a3, a4, a5, a6, a7, a8, a9, a10, some (Dm.d g), a12, a13, some (Dm.d y)] = _
    simp [ne]) (fun y _ _ => by
    have z : (Dm.d y : D).fz = true := Dm.fz y
    show e3_law [a0, a1, a2, a3, a4, a5, a6, a7, a8, a9, a10, some (Dm.d g), a12, a13, some (Dm.d y)] = _
    simp [e3_law, z]) (by simp; omega)
  exact this.trans (by simp [Ds, rid])
theorem rid_comp2 (a0 a1 a2 a3 a4 a5 a6 a7 a8 a9 a10 a12 a13 : Option D) (g : Sn) (M : List Sn) (hl : M.length ≤ 1000) : compG 14 (b2 neD (dVar 14) (dVar 11)) e4_law [a0, a1, a2, a3, a4, a5, a6, a7, a8, a9, a10, some (Dm.d g), a12, a13, none] (Ds M) [] = some (Ds (rid g M)) := rid_comp a0 a1 a2 a3 a4 a5 a6 a7 a8 a9 a10 a12 a13 g M hl
theorem x_blR (b : Bool) : blR (.ok (.bl b)) = .ok (.bl b) := rfl
theorem tl_one (ns ds : List Int) (base bg : Int) (half : Int) (x4 : Option D) (A B : List Sn) (p1 p2 : Int) (lA : A.length ≤ 1000) (lB : B.length ≤ 1000) (ndA : A.Nodup) (gone : Sn) (hgA : gone ∈ A) (hgB : gone ∉ B) (x : Sg) (hx : x ≠ .tell) (EL : List Sn) (hE : (if x = .final then [] ++ [gone] else []) = EL) (lE : EL.length ≤ 1) (x10 : Option D) :
    ∃ q, tl_law [some (.scr ns), some (.lst true (I ds)), some (.int base), some (.int bg), x4, some (bd none 0 (srtD A) [] p1), some (bd none 0 (srtD B) [] p2), some (.int half), some (.lst true (Ds A)), some (.lst true (Ds B)), x10, some (Dm.d gone), some (.lst true (Ds EL)), some (Dm.d (Wd.say x gone)), none] = .nx [some (.scr ns), some (.lst true (I ds)), some (.int base), some (.int bg), x4, some (bd none 0 (srtD (rid gone A)) EL q), some (bd none 0 (srtD B) [] p2), some (.int half), some (.lst true (Ds (rid gone A))), some (.lst true (Ds B)), x10, some (Dm.d gone), some (.lst true (Ds EL)), some (Dm.d (Wd.say x gone)), none] := by
  have tk := takeR_one x hx gone (srtD A) [] 0 p1 (mem_srt.mpr hgA)
  rw [hE] at tk
  have sr := srt_rid gone A ndA
  have lS := srtD_len A
  have zw : (Dm.d (Wd.say x gone) : D).fz = true := Dm.fz _
  have zw2 : (Dm.d (Wd.say x gone) : D).frz = Dm.d (Wd.say x gone) := frz_fz _ zw
  have wl : (D.lst true [Dm.d (Wd.say x gone)]) = .lst true (Ds [Wd.say x gone]) := rfl
  have im := iadd_meth (ρ := [some (.scr ns), some (.lst true (I ds)), some (.int base), some (.int bg), x4, some (bd none 0 (srtD A) [] p1), some (bd none 0 (srtD B) [] p2), some (.int half), some (.lst true (Ds A)), some (.lst true (Ds B)), x10, some (Dm.d gone), some (.lst true (Ds EL)), some (Dm.d (Wd.say x gone)), none]) (i := 5) (t := aCons (dLst (aCons (dFz (dVar 13)) aNil)) aNil) (oa := none) 0 (srtD A) [] p1 true [Wd.say x gone] (by simp; omega) (by simp) rfl (by simp [frzE, zw, zw2, LIM]; rfl)
  rw [tk] at im
  simp only [] at im
  rw [sr, show ((0 : Int) + 0) = 0 from rfl] at im
  have ia := inD_Ds hdS gone true A
  rw [decide_eq_true hgA] at ia
  have rc := fun a4 a5 a10 => rid_comp (some (.scr ns)) (some (.lst true (I ds))) (some (.int base)) (some (.int bg)) a4 a5 (some (bd none 0 (srtD B) [] p2)) (some (.int half)) (some (.lst true (Ds A))) (some (.lst true (Ds B))) a10 (some (.lst true (Ds EL))) (some (Dm.d (Wd.say x gone))) gone A lA
  generalize hq : p1 - (gone.l - gone.f) = q at *
  have c1 := bin_ok 0 (srtD (rid gone A)) EL q gone
  have c2 := bin_ok 0 (srtD B) [] p2 gone
  rw [decide_eq_false (fun h => (rid_mem.mp (mem_srt.mp h)).2 rfl)] at c1
  rw [decide_eq_false (fun h => hgB (mem_srt.mp h))] at c2
  have d1 := ended_ok 0 (srtD (rid gone A)) EL q
  have d2 := ended_ok 0 (srtD B) [] p2
  have i1 : isIns "Board" (bf 0 (srtD (rid gone A)) EL q) = true := by unfold bf; rw [x_isIns]; exact beq_self_eq_true _
  have i2 : isIns "Board" (bf 0 (srtD B) [] p2) = true := by unfold bf; rw [x_isIns]; exact beq_self_eq_true _
  have n1 := neD_Ds hdS true false EL EL
  have n2 : neD (.lst true []) (.lst true []) = some false := neD_Ds hdS true true ([] : List Sn) ([] : List Sn)
  rw [decide_eq_true rfl] at n1
  have sq : seqOfB (.lst true (Ds A)) = .ok (Ds A) := seqOfB_Ds _ _
  have zE : D.frzs (Ds EL) = Ds EL := frzs_fzs _ (Ds_fzs _)
  have zg : (Dm.d gone : D).fz = true := Dm.fz _
  have zg2 : (Dm.d gone : D).frz = Dm.d gone := frz_fz _ zg
  have zR : ∀ M : List Sn, D.frzs (Ds M) = Ds M := fun M => frzs_fzs _ (Ds_fzs M)
  have b1 := bd_frz none 0 (srtD (rid gone A)) EL q
  have b2_ := bd_frz none 0 (srtD B) [] p2
  have u1 : (bf 0 (srtD (rid gone A)) EL q).fz = true := rfl
  have u2 : (bf 0 (srtD B) [] p2).fz = true := rfl
  have v1 : (bf 0 (srtD (rid gone A)) EL q).frz = bf 0 (srtD (rid gone A)) EL q := rfl
  have v2 : (bf 0 (srtD B) [] p2).frz = bf 0 (srtD B) [] p2 := rfl
  refine ⟨q, ?_⟩
  generalize hO1 : bd none 0 (srtD (rid gone A)) EL q = O1 at *
  generalize hO2 : bd none 0 (srtD B) [] p2 = O2 at *
  generalize bf 0 (srtD (rid gone A)) EL q = G1 at *
  generalize bf 0 (srtD B) [] p2 = G2 at *
  simp [tl_law, ia, im, putL, sq, rc, wipeE, hO1, b1, b2_, d1, d2, i1, i2, n1, n2, c1, c2, zE, zg, zg2, zR, u1, u2, v1, v2, x_blR]
theorem tl_two (ns ds : List Int) (base bg : Int) (half : Int) (x4 : Option D) (A B : List Sn) (p1 p2 : Int) (lA : A.length ≤ 1000) (lB : B.length ≤ 1000) (ndB : B.Nodup) (gone : Sn) (hgA : gone ∉ A) (hgB : gone ∈ B) (x : Sg) (hx : x ≠ .tell) (EL : List Sn) (hE : (if x = .final then [] ++ [gone] else []) = EL) (lE : EL.length ≤ 1) (x10 : Option D) :
    ∃ q, tl_law [some (.scr ns), some (.lst true (I ds)), some (.int base), some (.int bg), x4, some (bd none 0 (srtD A) [] p1), some (bd none 0 (srtD B) [] p2), some (.int half), some (.lst true (Ds A)), some (.lst true (Ds B)), x10, some (Dm.d gone), some (.lst true (Ds EL)), some (Dm.d (Wd.say x gone)), none] = .nx [some (.scr ns), some (.lst true (I ds)), some (.int base), some (.int bg), x4, some (bd none 0 (srtD A) [] p1), some (bd none 0 (srtD (rid gone B)) EL q), some (.int half), some (.lst true (Ds A)), some (.lst true (Ds (rid gone B))), x10, some (Dm.d gone), some (.lst true (Ds EL)), some (Dm.d (Wd.say x gone)), none] := by
  have tk := takeR_one x hx gone (srtD B) [] 0 p2 (mem_srt.mpr hgB)
  rw [hE] at tk
  have sr := srt_rid gone B ndB
  have lS := srtD_len B
  have zw : (Dm.d (Wd.say x gone) : D).fz = true := Dm.fz _
  have zw2 : (Dm.d (Wd.say x gone) : D).frz = Dm.d (Wd.say x gone) := frz_fz _ zw
  have wl : (D.lst true [Dm.d (Wd.say x gone)]) = .lst true (Ds [Wd.say x gone]) := rfl
  have im := take_meth (ρ := [some (.scr ns), some (.lst true (I ds)), some (.int base), some (.int bg), x4, some (bd none 0 (srtD A) [] p1), some (bd none 0 (srtD B) [] p2), some (.int half), some (.lst true (Ds A)), some (.lst true (Ds B)), x10, some (Dm.d gone), some (.lst true (Ds EL)), some (Dm.d (Wd.say x gone)), none]) (i := 6) (t := aCons (dLst (aCons (dFz (dVar 13)) aNil)) aNil) (oa := none) 0 (srtD B) [] p2 true [Wd.say x gone] (by simp; omega) (by simp) rfl (by simp [frzE, zw, zw2, LIM]; rfl)
  rw [tk] at im
  simp only [] at im
  rw [sr, show ((0 : Int) + 0) = 0 from rfl] at im
  have ia := inD_Ds hdS gone true A
  rw [decide_eq_false hgA] at ia
  have rc := fun a4 a6 a10 => rid_comp2 (some (.scr ns)) (some (.lst true (I ds))) (some (.int base)) (some (.int bg)) a4 (some (bd none 0 (srtD A) [] p1)) a6 (some (.int half)) (some (.lst true (Ds A))) (some (.lst true (Ds B))) a10 (some (.lst true (Ds EL))) (some (Dm.d (Wd.say x gone))) gone B lB
  generalize hq : p2 - (gone.l - gone.f) = q at *
  have c1 := bin_ok 0 (srtD A) [] p1 gone
  have c2 := bin_ok 0 (srtD (rid gone B)) EL q gone
  rw [decide_eq_false (fun h => hgA (mem_srt.mp h))] at c1
  rw [decide_eq_false (fun h => (rid_mem.mp (mem_srt.mp h)).2 rfl)] at c2
  have d1 := ended_ok 0 (srtD A) [] p1
  have d2 := ended_ok 0 (srtD (rid gone B)) EL q
  have i1 : isIns "Board" (bf 0 (srtD A) [] p1) = true := by unfold bf; rw [x_isIns]; exact beq_self_eq_true _
  have i2 : isIns "Board" (bf 0 (srtD (rid gone B)) EL q) = true := by unfold bf; rw [x_isIns]; exact beq_self_eq_true _
  have n1 := neD_Ds hdS true false EL EL
  have n2 : neD (.lst true []) (.lst true []) = some false := neD_Ds hdS true true ([] : List Sn) ([] : List Sn)
  rw [decide_eq_true rfl] at n1
  have sq : seqOfB (.lst true (Ds B)) = .ok (Ds B) := seqOfB_Ds _ _
  have zE : D.frzs (Ds EL) = Ds EL := frzs_fzs _ (Ds_fzs _)
  have zg : (Dm.d gone : D).fz = true := Dm.fz _
  have zg2 : (Dm.d gone : D).frz = Dm.d gone := frz_fz _ zg
  have zR : ∀ M : List Sn, D.frzs (Ds M) = Ds M := fun M => frzs_fzs _ (Ds_fzs M)
  have b1 := bd_frz none 0 (srtD A) [] p1
  have b2_ := bd_frz none 0 (srtD (rid gone B)) EL q
  have u1 : (bf 0 (srtD A) [] p1).fz = true := rfl
  have u2 : (bf 0 (srtD (rid gone B)) EL q).fz = true := rfl
  have v1 : (bf 0 (srtD A) [] p1).frz = bf 0 (srtD A) [] p1 := rfl
  have v2 : (bf 0 (srtD (rid gone B)) EL q).frz = bf 0 (srtD (rid gone B)) EL q := rfl
  refine ⟨q, ?_⟩
  generalize hO1 : bd none 0 (srtD A) [] p1 = O1 at *
  generalize hO2 : bd none 0 (srtD (rid gone B)) EL q = O2 at *
  generalize bf 0 (srtD A) [] p1 = G1 at *
  generalize bf 0 (srtD (rid gone B)) EL q = G2 at *
  simp [tl_law, ia, im, putL, sq, rc, wipeE, hO2, b1, b2_, d1, d2, i1, i2, n1, n2, c1, c2, zE, zg, zg2, zR, u1, u2, v1, v2, x_blR]
theorem go_ok (ns ds : List Int) (base bg : Int) (half : Int) (pool : List Sn) (A B : List Sn) (p1 p2 : Int) (dl : ds.length = 5) (hA : ∀ s ∈ A, So s) (hB : ∀ s ∈ B, So s) (lA : A.length ≤ 8) (lB : B.length ≤ 8) (ndA : A.Nodup) (ndB : B.Nodup) (lP : pool.length ≤ 8)
    (hP : ∀ s, s ∈ pool → s ∈ A ∧ s ∉ B ∨ s ∉ A ∧ s ∈ B) (x10 : Option D) : t15_law [some (.scr ns), some (.lst true (I ds)), some (.int base), some (.int bg), some (.lst false (Ds pool)), some (bd none 0 (srtD A) [] p1), some (bd none 0 (srtD B) [] p2), some (.int half), some (.lst true (Ds A)), some (.lst true (Ds B)), x10, none, none, none, none] = .rt (.bl true) := by
  have i2 := x_ixI (ns := ds) (o := true) (i := 2) (by decide) (by omega)
  have i3 := x_ixI (ns := ds) (o := true) (i := 3) (by decide) (by omega)
  have ln : lenN [.lst false (Ds pool)] = some (.int (pool.length : Int)) := by simp
  by_cases h0 : pool.length = 0
  · have la := last_ok ns ds base bg half (some (.lst false (Ds pool))) A B [] [] p1 p2 hA hB (by omega) (by omega) x10 none none none
    rw [h0] at ln
    have gt : gtD (.int ((0 : Nat) : Int)) (.int 0) = some false := by kernel_rfl
    rw [t15_split]
    simp [ln, gt, la]
  · have gt : gtD (.int (pool.length : Int)) (.int 0) = some true := by
      simp
      omega
    have hpl : (0 : Int) < (pool.length : Int) := by omega
    have qi := emod_lt' (at0 ds 2) hpl
    have ix := x_ixD (xs := pool) (o := false) (i := at0 ds 2 % (pool.length : Int)) qi.1 (by omega)
    obtain ⟨gone, hg⟩ : ∃ s, pool[(at0 ds 2 % (pool.length : Int)).toNat]'(by omega) = s := ⟨_, rfl⟩
    have hm : gone ∈ pool := by rw [← hg]; exact List.getElem_mem _
    rw [hg] at ix
    have zg : (Dm.d gone : D).fz = true := Dm.fz _
    have zg2 : (Dm.d gone : D).frz = Dm.d gone := frz_fz _ zg
    have a1 := add_say .retract gone
    have a2 := add_say .final gone
    simp only [Sg.s] at a1 a2
    have fin : ∀ (x : Sg) (EL : List Sn), x ≠ .tell → (if x = .final then [] ++ [gone] else []) = EL → EL.length ≤ 1 →
        andThen (tl_law [some (.scr ns), some (.lst true (I ds)), some (.int base), some (.int bg), some (.lst false (Ds pool)), some (bd none 0 (srtD A) [] p1), some (bd none 0 (srtD B) [] p2), some (.int half), some (.lst true (Ds A)), some (.lst true (Ds B)), x10, some (Dm.d gone), some (.lst true (Ds EL)), some (Dm.d (Wd.say x gone)), none]) t16_law = .rt (.bl true) := fun x EL hx hE lE => by
      rcases hP gone hm with ⟨g1, g2⟩ | ⟨g1, g2⟩
      · obtain ⟨q, e⟩ := tl_one ns ds base bg half (some (.lst false (Ds pool))) A B p1 p2 (by omega) (by omega) ndA gone g1 g2 x hx EL hE lE x10
        rw [e]
        exact last_ok ns ds base bg half _ (rid gone A) B EL [] q p2 (fun s hs => hA s (rid_mem.mp hs).1) hB (Nat.le_trans (List.length_filter_le _ _) (by omega)) (by omega) x10 _ _ _
      · obtain ⟨q, e⟩ := tl_two ns ds base bg half (some (.lst false (Ds pool))) A B p1 p2 (by omega) (by omega) ndB gone g1 g2 x hx EL hE lE x10
        rw [e]
        exact last_ok ns ds base bg half _ A (rid gone B) [] EL p1 q hA (fun s hs => hB s (rid_mem.mp hs).1) (by omega) (Nat.le_trans (List.length_filter_le _ _) (by omega)) x10 _ _ _
    have f1 := fin .retract [] (by decide) rfl (by simp)
    have f2 := fin .final [gone] (by decide) rfl (by simp)
    have ds0 : (Ds ([] : List Sn) : List D) = [] := rfl
    have ds1 : (Ds [gone] : List D) = [Dm.d gone] := rfl
    rw [ds0] at f1
    rw [ds1] at f2
    rw [t15_split]
    by_cases c : at0 ds 3 % 2 = 0
    · simp [i2, i3, ln, gt, x_mod hpl, x_mod, ix, zg, zg2, a1, a2, c, f2, LIM]
    · have e : eqD (.int (at0 ds 3 % 2)) (.int 0) = some false := by simp [c]
      simp [i2, i3, ln, gt, x_mod hpl, x_mod, ix, zg, zg2, a1, a2, e, f1, LIM]
theorem pool_step (ns ds : List Int) (base bg : Int) (half : Int) (x4 : Option D) (A B : List Sn) (s : Sn) (O1 O2 G1 G2 : D) (b1 : O1.frz = G1) (b2_ : O2.frz = G2) {d1 d2 : Bool} (c1 : F_Board___contains__ [G1, Dm.d s] = .ok (.bl d1)) (c2 : F_Board___contains__ [G2, Dm.d s] = .ok (.bl d2))
    (n1 : inD (Dm.d s) (.lst false (Ds A)) = some d1) (n2 : inD (Dm.d s) (.lst false (Ds B)) = some d2) (i1 : isIns "Board" G1 = true) (i2 : isIns "Board" G2 = true) (u1 : G1.fz = true) (u2 : G2.fz = true) (v1 : G1.frz = G1) (v2 : G2.frz = G2) :
    b1_law [some (.scr ns), some (.lst true (I ds)), some (.int base), some (.int bg), x4, some O1, some O2, some (.int half), some (.lst true (Ds A)), some (.lst true (Ds B)), some (Dm.d s), none, none, none, none] = .nx [some (.scr ns), some (.lst true (I ds)), some (.int base), some (.int bg), x4, some O1, some O2, some (.int half), some (.lst true (Ds A)), some (.lst true (Ds B)), some (Dm.d s), none, none, none, none] := by
  have zR : ∀ M : List Sn, D.frzs (Ds M) = Ds M := fun M => frzs_fzs _ (Ds_fzs M)
  have zg : (Dm.d s : D).fz = true := Dm.fz _
  have zg2 : (Dm.d s : D).frz = Dm.d s := frz_fz _ zg
  have ne : ∀ b : Bool, neD (.bl b) (.bl b) = some false := fun b => by cases b <;> rfl
  simp [b1_law, frzE, b1, b2_, zR, zg, zg2, c1, c2, n1, n2, i1, i2, u1, u2, v1, v2, x_blR, ne]
theorem pool_loop (ns ds : List Int) (base bg : Int) (half : Int) (x4 : Option D) (A B : List Sn) (p1 p2 : Int) : ∀ (L : List Sn) (x10 : Option D), ∃ x10', loopS (tgN 10) b1_law (Ds L) [some (.scr ns), some (.lst true (I ds)), some (.int base), some (.int bg), x4, some (bd none 0 (srtD A) [] p1), some (bd none 0 (srtD B) [] p2), some (.int half), some (.lst true (Ds A)), some (.lst true (Ds B)), x10, none, none, none, none] = .nx [some (.scr ns), some (.lst true (I ds)), some (.int base), some (.int bg), x4, some (bd none 0 (srtD A) [] p1), some (bd none 0 (srtD B) [] p2), some (.int half), some (.lst true (Ds A)), some (.lst true (Ds B)), x10', none, none, none, none]
  | [], x10 => ⟨x10, rfl⟩
  | s :: L, x10 => by
    obtain ⟨x10', ih⟩ := pool_loop ns ds base bg half x4 A B p1 p2 L (some (Dm.d s))
    refine ⟨x10', ?_⟩
    have c1 := bin_ok 0 (srtD A) [] p1 s
    have c2 := bin_ok 0 (srtD B) [] p2 s
    rw [decide_eq_decide.mpr mem_srt] at c1 c2
    have n1 := inD_Ds hdS s false A
    have n2 := inD_Ds hdS s false B
    have i1 : isIns "Board" (bf 0 (srtD A) [] p1) = true := by unfold bf; rw [x_isIns]; exact beq_self_eq_true _
    have i2 : isIns "Board" (bf 0 (srtD B) [] p2) = true := by unfold bf; rw [x_isIns]; exact beq_self_eq_true _
    have b1 := bd_frz none 0 (srtD A) [] p1
    have b2_ := bd_frz none 0 (srtD B) [] p2
    have zR : ∀ M : List Sn, D.frzs (Ds M) = Ds M := fun M => frzs_fzs _ (Ds_fzs M)
    have zg : (Dm.d s : D).fz = true := Dm.fz _
    have zg2 : (Dm.d s : D).frz = Dm.d s := frz_fz _ zg
    have ne : ∀ b : Bool, neD (.bl b) (.bl b) = some false := fun b => by cases b <;> rfl
    have u1 : (bf 0 (srtD A) [] p1).fz = true := rfl
    have u2 : (bf 0 (srtD B) [] p2).fz = true := rfl
    have v1 : (bf 0 (srtD A) [] p1).frz = bf 0 (srtD A) [] p1 := rfl
    have v2 : (bf 0 (srtD B) [] p2).frz = bf 0 (srtD B) [] p2 := rfl
    have e : b1_law [some (.scr ns), some (.lst true (I ds)), some (.int base), some (.int bg), x4, some (bd none 0 (srtD A) [] p1), some (bd none 0 (srtD B) [] p2), some (.int half), some (.lst true (Ds A)), some (.lst true (Ds B)), some (Dm.d s), none, none, none, none] = .nx [some (.scr ns), some (.lst true (I ds)), some (.int base), some (.int bg), x4, some (bd none 0 (srtD A) [] p1), some (bd none 0 (srtD B) [] p2), some (.int half), some (.lst true (Ds A)), some (.lst true (Ds B)), some (Dm.d s), none, none, none, none] := by
      exact pool_step ns ds base bg half x4 A B s _ _ _ _ b1 b2_ c1 c2 n1 n2 i1 i2 u1 u2 v1 v2
    rw [Ds_cons, loop_nx (ρ1 := [some (.scr ns), some (.lst true (I ds)), some (.int base), some (.int bg), x4, some (bd none 0 (srtD A) [] p1), some (bd none 0 (srtD B) [] p2), some (.int half), some (.lst true (Ds A)), some (.lst true (Ds B)), some (Dm.d s), none, none, none, none]) rfl e, ih]
theorem mid_ok (ns ds : List Int) (base bg : Int) (half : Int) (pool : List Sn) (A B : List Sn) (p1 p2 : Int) (dl : ds.length = 5) (hA : ∀ s ∈ A, So s) (hB : ∀ s ∈ B, So s) (lA : A.length ≤ 8) (lB : B.length ≤ 8) (ndA : A.Nodup) (ndB : B.Nodup) (lP : pool.length ≤ 8)
    (hP : ∀ s, s ∈ pool → s ∈ A ∧ s ∉ B ∨ s ∉ A ∧ s ∈ B) : t12_law [some (.scr ns), some (.lst true (I ds)), some (.int base), some (.int bg), some (.lst true (Ds pool)), some (bd none 0 (srtD A) [] p1), some (bd none 0 (srtD B) [] p2), some (.int half), some (.lst true (Ds A)), some (.lst true (Ds B)), none, none, none, none, none] = .rt (.bl true) := by
  have s1 := shown_ok 0 [] A p1 hA (by omega)
  have s2 := shown_ok 0 [] B p2 hB (by omega)
  have b1 := bd_frz none 0 (srtD A) [] p1
  have b2_ := bd_frz none 0 (srtD B) [] p2
  have zR : ∀ M : List Sn, D.frzs (Ds M) = Ds M := fun M => frzs_fzs _ (Ds_fzs M)
  have i1 : isIns "Board" (bf 0 (srtD A) [] p1) = true := by unfold bf; rw [x_isIns]; exact beq_self_eq_true _
  have nb : (⟨⟨"nobody", by decide +kernel⟩, 0, 0, [0]⟩ : Sn) ∉ srtD A := fun h => (hA _ (mem_srt.mp h)).no rfl
  have c1 := bin_ok 0 (srtD A) [] p1 ⟨⟨"nobody", by decide +kernel⟩, 0, 0, [0]⟩
  rw [decide_eq_false nb] at c1
  have c1 : F_Board___contains__ [bf 0 (srtD A) [] p1, .tup [.str ("nobody" : Str), .int 0, .int 0, .tup [.int 0]]] = .ok (.bl false) := c1
  have u1 : (bf 0 (srtD A) [] p1).fz = true := rfl
  have u2 : (bf 0 (srtD B) [] p2).fz = true := rfl
  have v1 : (bf 0 (srtD A) [] p1).frz = bf 0 (srtD A) [] p1 := rfl
  have v2 : (bf 0 (srtD B) [] p2).frz = bf 0 (srtD B) [] p2 := rfl
  obtain ⟨x10', lp⟩ := pool_loop ns ds base bg half (some (.lst false (Ds pool))) A B p1 p2 pool none
  have go := go_ok ns ds base bg half pool A B p1 p2 dl hA hB lA lB ndA ndB lP hP x10'
  have sq : seqOf (.lst false (Ds pool)) = .ok (Ds pool) := seqOf_Ds _ _
  generalize hO1 : bd none 0 (srtD A) [] p1 = O1 at *
  generalize hO2 : bd none 0 (srtD B) [] p2 = O2 at *
  generalize bf 0 (srtD A) [] p1 = G1 at *
  generalize bf 0 (srtD B) [] p2 = G2 at *
  simp [t12_law, t13_law, t14_law, frzE, b1, b2_, zR, s1, s2, i1, c1, u1, u2, v1, v2, x_blR, sq, lp, go, LIM]
theorem modK2 (i m : Int) (h : 0 < m) : ∃ k : Nat, modD (.int i) (.int m) = some (.int k) ∧ (k : Int) < m := by
  have h1 := Int.emod_nonneg i (show m ≠ 0 by omega)
  have h2 := Int.emod_lt_of_pos i h
  refine ⟨(i % m).toNat, ?_, by omega⟩
  rw [x_mod h, show (((i % m).toNat : Nat) : Int) = i % m by omega]
theorem plain_law (ns : List Int) (h : ns.length ≤ 63) : F_law [.scr ns] = .ok (.bl true) := by
  obtain ⟨ds, hds, dw⟩ := row_int (at0 ns 0) 5 (by decide) (by decide)
  have dl : ds.length = 5 := dw.1
  have i0 := x_ixI (ns := ds) (o := true) (i := 0) (by decide) (by omega)
  have i1 := x_ixI (ns := ds) (o := true) (i := 1) (by decide) (by omega)
  obtain ⟨rs, hrs, rw_⟩ := row_int (at0 ns 1) 48 (by decide) (by decide)
  have rl : rs.length = 48 := rw_.1
  obtain ⟨base, hbase, hb1⟩ := big_ok (at0 ns 2)
  obtain ⟨bg, hbg, hb2⟩ := big_ok (at0 ns 3)
  obtain ⟨c, hc, c0, c8⟩ := count_ok (at0 ds 0) 8 (by decide) (dw.2 (at0 ds 0) (by match ds, dl with | a :: _, _ => exact List.mem_cons_self)).1
  obtain ⟨n, hn⟩ : ∃ n : Nat, c = n := ⟨c.toNat, by omega⟩
  subst hn
  obtain ⟨pool, hp, lp, nd, so⟩ := pool_ok rs false n base bg (by omega) (by omega) rw_.2 hb1 hb2
  obtain ⟨k, hk, lk⟩ := modK2 (at0 ds 1) ((pool.length : Int) + 1) (by omega)
  have ln : lenN [.lst true (Ds pool)] = some (.int (pool.length : Int)) := by simp
  have s1 : slD (.lst true (Ds pool)) none (some (k : Int)) = some (.lst true (Ds (pool.take k))) := (slD_Ds true pool none (some (k : Int))).trans (by rw [cut_to pool k (by omega)])
  have s2 : slD (.lst true (Ds pool)) (some (k : Int)) none = some (.lst true (Ds (pool.drop k))) := (slD_Ds true pool (some (k : Int)) none).trans (by rw [cut_from pool k (by omega)])
  have rv := revD_Ds true (pool.drop k) (by rw [List.length_drop]; omega)
  have nds := List.nodup_append.mp (show (pool.take k ++ pool.drop k).Nodup by rw [List.take_append_drop]; exact nd)
  have memA : ∀ s, s ∈ pool.take k → s ∈ pool := fun s hs => List.mem_of_mem_take hs
  have memB : ∀ s, s ∈ (pool.drop k).reverse → s ∈ pool := fun s hs => List.mem_of_mem_drop (List.mem_reverse.mp hs)
  have hP : ∀ s, s ∈ pool → s ∈ pool.take k ∧ s ∉ (pool.drop k).reverse ∨ s ∉ pool.take k ∧ s ∈ (pool.drop k).reverse := fun s hs => by
    rw [← List.take_append_drop k pool] at hs
    rcases List.mem_append.mp hs with h | h
    · exact .inl ⟨h, fun h2 => nds.2.2 s h s (List.mem_reverse.mp h2) rfl⟩
    · exact .inr ⟨fun h2 => nds.2.2 s h2 s h rfl, List.mem_reverse.mpr h⟩
  have lA : (pool.take k).length ≤ 8 := by rw [List.length_take]; omega
  have lB : ((pool.drop k).reverse).length ≤ 8 := by rw [List.length_reverse, List.length_drop]; omega
  have ndA := nds.1
  have ndB : ((pool.drop k).reverse).Nodup := (List.reverse_perm _).nodup_iff.mpr nds.2.1
  generalize pool.take k = A at *
  generalize (pool.drop k).reverse = B at *
  have zR : ∀ M : List Sn, D.frzs (Ds M) = Ds M := fun M => frzs_fzs _ (Ds_fzs M)
  obtain ⟨p1, t1⟩ := takeR_tell A [] [] 0 0 (by simpa using ndA)
  obtain ⟨p2, t2⟩ := takeR_tell B [] [] 0 0 (by simpa using ndB)
  rw [List.nil_append] at t1 t2
  have sqA : seqOfB (.lst false (Ds A)) = .ok (Ds A) := seqOfB_Ds _ _
  have sqB : seqOfB (.lst false (Ds B)) = .ok (Ds B) := seqOfB_Ds _ _
  have tk := take_meth (ρ := [some (.scr ns), some (.lst true (I ds)), some (.int base), some (.int bg), some (.lst true (Ds pool)), some (bd none 0 [] [] 0), some (bd none 0 [] [] 0), some (.int k), some (.lst true (Ds A)), some (.lst true (Ds B)), none, none, none, none, none]) (i := 5) (t := aCons (dLc (iSeqB (dVar 8)) 10 [10] bYes e1_law) aNil) (oa := none) 0 [] [] 0 true (A.map (Wd.say .tell)) (by simp; omega) (by simp; omega) rfl (by
    have cc := fun a0 a1 a2 a3 a4 a5 a6 a7 a8 a9 a11 a12 a13 a14 => tell_comp1 a0 a1 a2 a3 a4 a5 a6 a7 a8 a9 a11 a12 a13 a14 A (by omega)
    simp [frzE, zR, sqA, cc, wipeE])
  have ia := iadd_meth (ρ := [some (.scr ns), some (.lst true (I ds)), some (.int base), some (.int bg), some (.lst true (Ds pool)), some (bd none 0 (srtD A) [] p1), some (bd none 0 [] [] 0), some (.int k), some (.lst true (Ds A)), some (.lst true (Ds B)), none, none, none, none, none]) (i := 6) (t := aCons (dLc (iSeqB (dVar 9)) 10 [10] bYes e2_law) aNil) (oa := none) 0 [] [] 0 true (B.map (Wd.say .tell)) (by simp; omega) (by simp; omega) rfl (by
    have cc := fun a0 a1 a2 a3 a4 a5 a6 a7 a8 a9 a11 a12 a13 a14 => tell_comp2 a0 a1 a2 a3 a4 a5 a6 a7 a8 a9 a11 a12 a13 a14 B (by omega)
    simp [frzE, zR, sqB, cc, wipeE])
  rw [t1] at tk
  rw [t2] at ia
  simp only [] at tk ia
  rw [show ((0 : Int) + 0) = 0 from rfl] at tk ia
  have mi := mid_ok ns ds base bg k pool A B p1 p2 dl (fun s hs => so s (memA s hs)) (fun s hs => so s (memB s hs)) lA lB ndA ndB lp hP
  have bn := board_new
  simp [F_law, g_law, runF, t1_law, t2_law, t3_law, t4_law, t5_law, t6_law, t7_law, t8_law, t9_law, t10_law, t11_law, cell_int, hds, i0, i1, hrs, hbase, hbg, hc, hp, hk, ln, s1, s2, rv, bn, tk, ia, putL, mi, LIM]
end
end Lw
open PySem PySem.W PySem.Calls PyProof.Rows
theorem PySem.Challenge.cw_gapsittings_k67_board_shown_holds : PySem.Challenge.rw_gapsittings_k67_board_shown.Holds := by
  w_on; o_law
  refine HandSHeadRun.head_any (r := OpenLaw.row PySem.Challenge.rw_gapsittings_k67_board_shown) (q := view (OpenLaw.row PySem.Challenge.rw_gapsittings_k67_board_shown).prog [16]) (H := Lw.hk) (ob := Lw.ob) (M := 12000) (loose := [("SessionError" : PySem.Str), ("NotStanding" : PySem.Str), ("StandsAlready" : PySem.Str), ("span_of" : PySem.Str), ("Board" : PySem.Str), ("_law_cell" : PySem.Str), ("_law_row" : PySem.Str), ("_law_big" : PySem.Str), ("_law_count" : PySem.Str), ("_law_value" : PySem.Str), ("_law_standing_pool" : PySem.Str), ("_law_lines" : PySem.Str), ("_law_shown" : PySem.Str)]) (d := HandSHeadRun.topDef (OpenLaw.row PySem.Challenge.rw_gapsittings_k67_board_shown).prog 16) (kwd := []) Lw.ob_eq
    (by kernel_rfl) (fun s => by kernel_rfl) Lw.run (by kernel_rfl) (by kernel_rfl) (by kernel_rfl) (by rfl) (by first | assumption | decide +kernel) (by decide +kernel) ⟨rfl, rfl, rfl, rfl, rfl, by decide +kernel⟩ ?hw ?hc
  case hw => w_witness2
  case hc =>
    refine DL.walk_ofX (l := PySem.Challenge.rw_gapsittings_k67_board_shown) (n := 63) (k := 7) (x := "_law_script") (F := Lw.F_law) rfl (by decide) (by kernel_rfl) ⟨rfl, by decide, by decide⟩ ?F Lw.plain_law
    intro w mg fa h Y G hmg0
    obtain ⟨K, KX, c, TH⟩ := Y
    have hmg : mg ("law" : PySem.Str) = some (.ref fa) := by
      have e : (HandSHeadRun.topDef (OpenLaw.row PySem.Challenge.rw_gapsittings_k67_board_shown).prog 16).name = ("law" : PySem.Str) := by kernel_rfl
      rw [← e]
      exact hmg0
    letI : DL.Tb := ⟨DL.tabsOf K⟩
    obtain ⟨fd, hb, hF⟩ := Lw.facts rfl (P := (PySem.Challenge.rw_gapsittings_k67_board_shown : PySem.W.OpenLaw).prog) (w := w) ⟨by decide +kernel, by decide +kernel⟩ KX G hmg c
    exact ⟨K, fd, KX, TH, hb, hF⟩
