import PyProof.Rows.All
import Wide.All
import OpenK.AllK
import Wide.FinOn
import HandS.ForMost
import HandS.ForExc
import HandS.SetKeys
import HandS.SortInts
import HandS.Codes
import HandS.Wide
import HandS.TupAny
import HandS.Deep
import HandS.TupLe
import PyProof.StrBlock2
import HandS.Flow
import HandS.RaiseMore
import HandS.TupLen
import HandS.WordsDict
import HandS.IsInst
import KE.SortData
import KE.DataMinMax
import HandS.Rev
import HandS.Defaults
import HandS.Head0
import HandS.Head1
import HandS.Head2
import HandS.HeadEnd
import HandS.HeadHook1
import HandS.HeadHook2
import HandS.StrMore
import HandS.Text
import HandS.SetFor
import HandS.Style
import PyProof.SliceStr2
import HandS.Conv
import HandS.List
import HandS.Replace
import HandS.RevRange
import HandS.Zip
import PyProof.ListStr
import KE.GoesMore
import KE.GoesEnum
import HandS.Flt
import KE.KStateDown
import PySem.Challenge.RW_wordlands_k26_whole_steps_and_their_judg
set_option Elab.async false
set_option linter.all false
set_option maxRecDepth 100000
namespace Pv
open PySem PySem.Spec L2

/-! ### values as trees -/
abbrev Tx := List Nat
inductive Ky where
  | i (n : Int)
  | s (t : Tx)
  deriving DecidableEq, Inhabited
def mkS (s : Tx) : Str := ⟨s.toArray⟩
/-- a text as it may stand: not too long, its signs are signs -/
def okT (s : Tx) : Prop := s.length ≤ sizeLine ∧ ∀ c ∈ s, c < 0x110000
def kyK : Ky → Key
  | .i n => .inl n
  | .s t => .inr (mkS t)

inductive PV where
  | non
  | bl (b : Bool)
  | int (i : Int)
  | str (s : Tx)
  | lst (xs : List PV)
  | tup (xs : List PV)
  | fz (xs : List PV)
  | dK (ks : List Ky) (vs : List PV)
  | dT (ks : List (List Ky)) (vs : List PV)
  | sK (ks : List Ky)
  deriving Inhabited

def kyP : Ky → PV
  | .i n => .int n
  | .s t => .str t

mutual
@[simp] def imm : PV → Bool
  | .tup xs => imms xs
  | .non | .bl _ | .int _ | .str _ | .fz _ => true
  | .lst _ | .dK _ _ | .dT _ _ | .sK _ => false
@[simp] def imms : List PV → Bool
  | [] => true
  | x :: xs => imm x && imms xs
end

/-- a list that can't be changed: the script, or one of the program's own -/
def FzL (K : PySem.W.Frag) (H : Hp) (a : Addr) (vs : List V) : Prop := (∃ o, H a = some (.frz o (.lst vs))) ∨
  ∃ (o : Obj) (its : Array Value) (n : Nat), K.lookup a = some o ∧ o.cls = .type "list" ∧ o.dict = none ∧ o.data = .seq its n ∧ its.size ≤ sizeLine ∧ Vals vs its.toList
theorem FzL.sq {K : PySem.W.Frag} {H : Hp} {a : Addr} {vs : List V} (h : FzL K H a vs) : SqL K H a vs := by
  rcases h with ⟨o, h⟩ | h
  · exact .inl (.inr ⟨o, h⟩)
  · exact .inr h
section
variable (K : PySem.W.Frag) (P : Program) (w : World) (H : Hp)
mutual
/-- the tree t is to be read off the value v in the heap; fp: its objects that could be changed -/
def Rep : PV → V → List Addr → Prop
  | .non, v, fp => v = .non ∧ fp = []
  | .bl b, v, fp => v = .bl b ∧ fp = []
  | .int i, v, fp => v = .int i ∧ fp = []
  | .str s, v, fp => v = .str (mkS s) ∧ okT s ∧ fp = []
  | .lst xs, v, fp => ∃ a vs f, v = .ref a ∧ H a = some (.lst vs) ∧ Reps xs vs f ∧ fp = a :: f
  | .fz xs, v, fp => fp = [] ∧ ∃ a vs, v = .ref a ∧ FzL K H a vs ∧ Reps xs vs []
  | .tup xs, v, fp => ∃ a vs, v = .ref a ∧ H a = some (.tup vs) ∧ Reps xs vs fp
  | .dK ks xs, v, fp => ∃ a vs f, v = .ref a ∧ ks.length = xs.length ∧ H a = some (.dK ((ks.map kyK).zip vs)) ∧ Reps xs vs f ∧ fp = a :: f
  | .dT ks xs, v, fp => ∃ a vs f, v = .ref a ∧ ks.length = xs.length ∧ H a = some (.dT ((ks.map (·.map kyK)).zip vs)) ∧ Reps xs vs f ∧ fp = a :: f
  | .sK ks, v, fp => ∃ a, v = .ref a ∧ ks.Nodup ∧ H a = some (SetK P w a (fun (k : Key) => ks.any fun j => decide (kyK j = k)) ks.length) ∧ fp = [a]
def Reps : List PV → List V → List Addr → Prop
  | [], vs, fp => vs = [] ∧ fp = []
  | x :: xs, vs, fp => ∃ v vr f g, vs = v :: vr ∧ Rep x v f ∧ Reps xs vr g ∧ fp = f ++ g
end
end

/-- what is not owned stays -/
def Fr (O : Addr → Prop) (H H' : Hp) : Prop := ∀ a o, H a = some o → ¬ O a → H' a = some o
abbrev Ex (H H' : Hp) : Prop := ∀ a o, H a = some o → H' a = some o
theorem Ex.fr {O : Addr → Prop} {H H' : Hp} (h : Ex H H') : Fr O H H' := fun a o e _ => h a o e
theorem Ex.trans {H H' H'' : Hp} (h : Ex H H') (h' : Ex H' H'') : Ex H H'' := fun a o e => h' a o (h a o e)
theorem Ex.refl {H : Hp} : Ex H H := fun _ _ e => e
theorem Ex.upd {H : Hp} {p : Addr} {o : HO} (h : H p = none) : Ex H (upd H p o) := fun b x e => by
  rw [upd_ne (ne_of_none e h)]; exact e

section
variable {K : PySem.W.Frag} {P : Program} {w : World} {H H' : Hp} {O : Addr → Prop}
theorem Rd.fr {a : Addr} {u : HO} (hO : ∀ a, O a → Mut (H a)) (f : Fr O H H') (h : Rd H a u) (na : ¬ O a) : Rd H' a u := by
  rcases h with h | ⟨o, h⟩
  · exact .inl (f a _ h na)
  · exact .inr ⟨o, f a _ h na⟩
theorem FzL.fr {a : Addr} {vs : List V} (hO : ∀ a, O a → Mut (H a)) (f : Fr O H H') (h : FzL K H a vs) : FzL K H' a vs := by
  rcases h with ⟨o, h⟩ | h
  · exact .inl ⟨o, f a _ h fun z => by have m := hO a z; rw [h] at m; exact m⟩
  · exact .inr h
theorem tup_fr {a : Addr} {vs : List V} (hO : ∀ a, O a → Mut (H a)) (f : Fr O H H') (h : H a = some (.tup vs)) : H' a = some (.tup vs) :=
  f a _ h fun z => by have m := hO a z; rw [h] at m; exact m
mutual
theorem Rep.fr (hO : ∀ a, O a → Mut (H a)) (f : Fr O H H') : ∀ (t : PV) (v : V) (fp : List Addr), Rep K P w H t v fp → (∀ a ∈ fp, ¬ O a) → Rep K P w H' t v fp
  | .non, v, fp, h, _ => by simpa only [Rep] using h
  | .bl _, v, fp, h, _ => by simpa only [Rep] using h
  | .int _, v, fp, h, _ => by simpa only [Rep] using h
  | .str _, v, fp, h, _ => by simpa only [Rep] using h
  | .lst xs, v, fp, h, n => by
    simp only [Rep] at h ⊢
    obtain ⟨a, vs, g, e, q, r, ef⟩ := h
    subst ef
    exact ⟨a, vs, g, e, f a _ q (n a List.mem_cons_self), Reps.fr hO f xs vs g r fun b hb => n b (List.mem_cons_of_mem _ hb), rfl⟩
  | .fz xs, v, fp, h, n => by
    simp only [Rep] at h ⊢
    obtain ⟨e0, a, vs, e, q, r⟩ := h
    exact ⟨e0, a, vs, e, Pv.FzL.fr hO f q, Reps.fr hO f xs vs [] r fun b hb => nomatch hb⟩
  | .tup xs, v, fp, h, n => by
    simp only [Rep] at h ⊢
    obtain ⟨a, vs, e, q, r⟩ := h
    exact ⟨a, vs, e, Pv.tup_fr hO f q, Reps.fr hO f xs vs fp r n⟩
  | .dK ks xs, v, fp, h, n => by
    simp only [Rep] at h ⊢
    obtain ⟨a, vs, g, e, l, q, r, ef⟩ := h
    subst ef
    exact ⟨a, vs, g, e, l, f a _ q (n a List.mem_cons_self), Reps.fr hO f xs vs g r fun b hb => n b (List.mem_cons_of_mem _ hb), rfl⟩
  | .dT ks xs, v, fp, h, n => by
    simp only [Rep] at h ⊢
    obtain ⟨a, vs, g, e, l, q, r, ef⟩ := h
    subst ef
    exact ⟨a, vs, g, e, l, f a _ q (n a List.mem_cons_self), Reps.fr hO f xs vs g r fun b hb => n b (List.mem_cons_of_mem _ hb), rfl⟩
  | .sK ks, v, fp, h, n => by
    simp only [Rep] at h ⊢
    obtain ⟨a, e, nd, q, ef⟩ := h
    subst ef
    exact ⟨a, e, nd, f a _ q (n a List.mem_cons_self), rfl⟩
theorem Reps.fr (hO : ∀ a, O a → Mut (H a)) (f : Fr O H H') : ∀ (ts : List PV) (vs : List V) (fp : List Addr), Reps K P w H ts vs fp → (∀ a ∈ fp, ¬ O a) → Reps K P w H' ts vs fp
  | [], vs, fp, h, _ => by simpa only [Reps] using h
  | t :: ts, vs, fp, h, n => by
    simp only [Reps] at h ⊢
    obtain ⟨v, vr, g, k, e, q, r, ef⟩ := h
    subst ef
    exact ⟨v, vr, g, k, e, Rep.fr hO f t v g q fun b hb => n b (List.mem_append_left _ hb), Reps.fr hO f ts vr k r fun b hb => n b (List.mem_append_right _ hb), rfl⟩
end
theorem Rep.ex {t : PV} {v : V} {fp : List Addr} (h : Rep K P w H t v fp) (x : Ex H H') : Rep K P w H' t v fp :=
  Rep.fr (O := fun _ => False) (fun _ z => z.elim) x.fr t v fp h fun _ _ z => z
theorem Reps.ex {t : List PV} {v : List V} {fp : List Addr} (h : Reps K P w H t v fp) (x : Ex H H') : Reps K P w H' t v fp :=
  Reps.fr (O := fun _ => False) (fun _ z => z.elim) x.fr t v fp h fun _ _ z => z
mutual
theorem imm_fp : ∀ (t : PV) (v : V) (fp : List Addr), imm t = true → Rep K P w H t v fp → fp = []
  | .non, v, fp, _, h => by simp only [Rep] at h; exact h.2
  | .bl _, v, fp, _, h => by simp only [Rep] at h; exact h.2
  | .int _, v, fp, _, h => by simp only [Rep] at h; exact h.2
  | .str _, v, fp, _, h => by simp only [Rep] at h; exact h.2.2
  | .lst xs, v, fp, h, _ => by simp only [imm] at h; cases h
  | .fz xs, v, fp, e, h => by
    simp only [Rep] at h
    exact h.1
  | .tup xs, v, fp, e, h => by
    simp only [Rep] at h
    simp only [imm] at e
    obtain ⟨a, vs, _, _, r⟩ := h
    exact imms_fp xs vs fp e r
  | .dK ks xs, v, fp, h, _ => by simp only [imm] at h; cases h
  | .dT ks xs, v, fp, h, _ => by simp only [imm] at h; cases h
  | .sK ks, v, fp, h, _ => by simp only [imm] at h; cases h
theorem imms_fp : ∀ (t : List PV) (v : List V) (fp : List Addr), imms t = true → Reps K P w H t v fp → fp = []
  | [], v, fp, _, h => by simp only [Reps] at h; exact h.2
  | t :: ts, vs, fp, e, h => by
    simp only [Reps] at h
    simp only [imms, Bool.and_eq_true] at e
    obtain ⟨v, vr, g, k, _, q, r, ef⟩ := h
    rw [ef, imm_fp t v g e.1 q, imms_fp ts vr k e.2 r]
    rfl
end
theorem Reps.length : ∀ {ts : List PV} {vs : List V} {fp : List Addr}, Reps K P w H ts vs fp → vs.length = ts.length
  | [], vs, fp, h => by simp only [Reps] at h; rw [h.1]; rfl
  | t :: ts, vs, fp, h => by
    simp only [Reps] at h
    obtain ⟨v, vr, g, k, e, q, r, ef⟩ := h
    rw [e, List.length_cons, List.length_cons, Reps.length r]
theorem Reps.get : ∀ {ts : List PV} {vs : List V} {fp : List Addr} {i : Nat} {t : PV}, Reps K P w H ts vs fp → ts[i]? = some t → ∃ v f, vs[i]? = some v ∧ Rep K P w H t v f ∧ (∀ a ∈ f, a ∈ fp) ∧ (fp.Nodup → f.Nodup)
  | [], vs, fp, i, t, h, e => by simp at e
  | s :: ts, vs, fp, 0, t, h, e => by
    simp only [Reps] at h
    obtain ⟨v, vr, g, k, e1, q, r, ef⟩ := h
    simp only [List.getElem?_cons_zero, Option.some.injEq] at e
    subst e; subst ef; subst e1
    exact ⟨v, g, rfl, q, fun a ha => List.mem_append_left _ ha, fun n => (List.nodup_append.mp n).1⟩
  | s :: ts, vs, fp, i + 1, t, h, e => by
    simp only [Reps] at h
    obtain ⟨v, vr, g, k, e1, q, r, ef⟩ := h
    simp only [List.getElem?_cons_succ] at e
    obtain ⟨v', f, h1, h2, h3, h4⟩ := Reps.get r e
    subst ef; subst e1
    exact ⟨v', f, by simpa using h1, h2, fun a ha => List.mem_append_right _ (h3 a ha), fun n => h4 (List.nodup_append.mp n).2.1⟩
theorem Reps.append : ∀ {ts us : List PV} {vs ws : List V} {f g : List Addr}, Reps K P w H ts vs f → Reps K P w H us ws g → Reps K P w H (ts ++ us) (vs ++ ws) (f ++ g)
  | [], us, vs, ws, f, g, h, h' => by
    simp only [Reps] at h
    obtain ⟨rfl, rfl⟩ := h
    exact h'
  | t :: ts, us, vs, ws, f, g, h, h' => by
    simp only [Reps] at h
    obtain ⟨v, vr, a, b, rfl, q, r, rfl⟩ := h
    show Reps K P w H (t :: (ts ++ us)) _ _
    simp only [Reps]
    exact ⟨v, vr ++ ws, a, b ++ g, rfl, q, Reps.append r h', by rw [List.append_assoc]⟩
theorem Reps.one {t : PV} {v : V} {f : List Addr} (h : Rep K P w H t v f) : Reps K P w H [t] [v] f := by
  simp only [Reps]
  exact ⟨v, [], f, [], rfl, h, ⟨rfl, rfl⟩, by simp⟩
theorem Reps.cons {t : PV} {ts : List PV} {v : V} {vs : List V} {f g : List Addr} (h : Rep K P w H t v f) (h' : Reps K P w H ts vs g) : Reps K P w H (t :: ts) (v :: vs) (f ++ g) := by
  simp only [Reps]
  exact ⟨v, vs, f, g, rfl, h, h', rfl⟩
mutual
theorem rep_mut : ∀ (t : PV) (v : V) (fp : List Addr), Rep K P w H t v fp → ∀ a ∈ fp, Mut (H a)
  | .non, v, fp, h, a, ha => by simp only [Rep] at h; rw [h.2] at ha; cases ha
  | .bl _, v, fp, h, a, ha => by simp only [Rep] at h; rw [h.2] at ha; cases ha
  | .int _, v, fp, h, a, ha => by simp only [Rep] at h; rw [h.2] at ha; cases ha
  | .str _, v, fp, h, a, ha => by simp only [Rep] at h; rw [h.2.2] at ha; cases ha
  | .fz xs, v, fp, h, a, ha => by simp only [Rep] at h; rw [h.1] at ha; cases ha
  | .lst xs, v, fp, h, a, ha => by
    simp only [Rep] at h
    obtain ⟨b, vs, g, _, q, r, ef⟩ := h
    subst ef
    rcases List.mem_cons.mp ha with z | z
    · rw [z, q]; trivial
    · exact reps_mut xs vs g r a z
  | .tup xs, v, fp, h, a, ha => by
    simp only [Rep] at h
    obtain ⟨b, vs, _, q, r⟩ := h
    exact reps_mut xs vs fp r a ha
  | .dK ks xs, v, fp, h, a, ha => by
    simp only [Rep] at h
    obtain ⟨b, vs, g, _, _, q, r, ef⟩ := h
    subst ef
    rcases List.mem_cons.mp ha with z | z
    · rw [z, q]; trivial
    · exact reps_mut xs vs g r a z
  | .dT ks xs, v, fp, h, a, ha => by
    simp only [Rep] at h
    obtain ⟨b, vs, g, _, _, q, r, ef⟩ := h
    subst ef
    rcases List.mem_cons.mp ha with z | z
    · rw [z, q]; trivial
    · exact reps_mut xs vs g r a z
  | .sK ks, v, fp, h, a, ha => by
    simp only [Rep] at h
    obtain ⟨b, _, _, q, ef⟩ := h
    subst ef
    have : a = b := by simpa using ha
    rw [this, q]; trivial
theorem reps_mut : ∀ (ts : List PV) (vs : List V) (fp : List Addr), Reps K P w H ts vs fp → ∀ a ∈ fp, Mut (H a)
  | [], vs, fp, h, a, ha => by simp only [Reps] at h; rw [h.2] at ha; cases ha
  | t :: ts, vs, fp, h, a, ha => by
    simp only [Reps] at h
    obtain ⟨v, vr, g, k, e, q, r, ef⟩ := h
    subst ef
    rcases List.mem_append.mp ha with z | z
    · exact rep_mut t v g q a z
    · exact reps_mut ts vr k r a z
end
end
end Pv
namespace Pv
open PySem PySem.Spec L2

/-! ### slots, states -/
inductive Sl where
  | un | own (t : PV) | shr (t : PV) | io (t : PV)
  deriving Inhabited
abbrev En := List Sl
/-- own: new, no one else has it; shr: not of a slot's own; view: anything -/
inductive Kd where
  | own | shr | view
  deriving DecidableEq, Inhabited
abbrev PX := En → Option (Kd × PV)

def ow (O : Nat → List Addr) (a : Addr) : Prop := ∃ i, a ∈ O i

structure StR (K : PySem.W.Frag) (P : Program) (w : World) (τ : En) (σ : St) (H : Hp) (O : Nat → List Addr) : Prop where
  len : τ.length = σ.length
  own : ∀ (i : Nat) (t : PV), (τ[i]? = some (Sl.own t) ∨ τ[i]? = some (Sl.io t)) → ∃ v, σ[i]? = some (some v) ∧ Rep K P w H t v (O i)
  shr : ∀ (i : Nat) (t : PV), τ[i]? = some (Sl.shr t) → ∃ v fp, σ[i]? = some (some v) ∧ Rep K P w H t v fp ∧ ∀ a ∈ fp, ¬ ow O a
  nod : ∀ i : Nat, (O i).Nodup
  dis : ∀ (i j : Nat) (a : Addr), a ∈ O i → a ∈ O j → i = j
  mt : ∀ a, ow O a → Mut (H a)

/-- what may have happened -/
structure Step (H : Hp) (O : Nat → List Addr) (H' : Hp) (O' : Nat → List Addr) : Prop where
  fr : Fr (ow O) H H'
  nw : ∀ a, ow O' a → ow O a ∨ H a = none
theorem Step.ex {H H' : Hp} {O : Nat → List Addr} (h : Ex H H') : Step H O H' O := ⟨h.fr, fun _ z => .inl z⟩
theorem Step.refl {H : Hp} {O : Nat → List Addr} : Step H O H O := .ex .refl
theorem Step.trans {H H' H'' : Hp} {O O' O'' : Nat → List Addr} (h : Step H O H' O') (h' : Step H' O' H'' O'') : Step H O H'' O'' := by
  refine ⟨fun a o e n => h'.fr a o (h.fr a o e n) fun z => ?_, fun a z => ?_⟩
  · rcases h.nw a z with z | z
    · exact n z
    · rw [e] at z; cases z
  · rcases h'.nw a z with z | z
    · exact h.nw a z
    · by_cases q : ow O a
      · exact .inl q
      · refine .inr ?_
        cases e : H a with
        | none => rfl
        | some o => have := h.fr a o e q; rw [z] at this; cases this

section
variable {K : PySem.W.Frag} {P : Program} {w : World} {τ : En} {σ : St} {H H' H'' H0 : Hp} {O O' : Nat → List Addr} {t : PV} {v : V} {fp : List Addr}
theorem StR.ex (S : StR K P w τ σ H O) (x : Ex H H') : StR K P w τ σ H' O := by
  refine ⟨S.len, fun i t h => ?_, fun i t h => ?_, S.nod, S.dis, fun a z => ?_⟩
  · obtain ⟨v, e, r⟩ := S.own i t h
    exact ⟨v, e, r.ex x⟩
  · obtain ⟨v, fp, e, r, n⟩ := S.shr i t h
    exact ⟨v, fp, e, r.ex x, n⟩
  · have m := S.mt a z
    cases e : H a with
    | none => rw [e] at m; exact m.elim
    | some o => rw [x a o e]; rw [e] at m; exact m

/-- a result v of tree t: how it stands to the slots' own (O) and to the heap at the start (H0) -/
def RepK (K : PySem.W.Frag) (P : Program) (w : World) (O : Nat → List Addr) (H0 H' : Hp) : Kd → PV → V → Prop
  | .own, t, v => ∃ fp, Rep K P w H' t v fp ∧ fp.Nodup ∧ ∀ a ∈ fp, Mut (H' a) ∧ H0 a = none
  | .shr, t, v => ∃ fp, Rep K P w H' t v fp ∧ ∀ a ∈ fp, ¬ ow O a
  | .view, t, v => ∃ fp, Rep K P w H' t v fp
theorem RepK.any {k : Kd} (h : RepK K P w O H0 H' k t v) : ∃ fp, Rep K P w H' t v fp := by
  cases k with
  | own => obtain ⟨fp, r, _⟩ := h; exact ⟨fp, r⟩
  | shr => obtain ⟨fp, r, _⟩ := h; exact ⟨fp, r⟩
  | view => exact h
theorem RepK.of_imm {k : Kd} (h : Rep K P w H' t v fp) (i : imm t = true) : RepK K P w O H0 H' k t v := by
  have e := imm_fp t v fp i h
  subst e
  cases k with
  | own => exact ⟨[], h, List.nodup_nil, fun _ z => nomatch z⟩
  | shr => exact ⟨[], h, fun _ z => nomatch z⟩
  | view => exact ⟨[], h⟩
theorem mut_ex {a : Addr} (m : Mut (H a)) (x : Ex H H') : Mut (H' a) := by
  cases e : H a with
  | none => rw [e] at m; exact m.elim
  | some o => rw [x a o e]; rw [e] at m; exact m
theorem none_ex {a : Addr} (m : H' a = none) (x : Ex H H') : H a = none := by
  cases e : H a with
  | none => rfl
  | some o => have := x a o e; rw [m] at this; cases this
theorem mut_none {a : Addr} (m : Mut (H a)) (n : H a = none) : False := by rw [n] at m; exact m
theorem RepK.ex {k : Kd} (h : RepK K P w O H0 H' k t v) (x : Ex H' H'') : RepK K P w O H0 H'' k t v := by
  cases k with
  | own => obtain ⟨fp, r, n, m⟩ := h; exact ⟨fp, r.ex x, n, fun a ha => ⟨mut_ex (m a ha).1 x, (m a ha).2⟩⟩
  | shr => obtain ⟨fp, r, n⟩ := h; exact ⟨fp, r.ex x, n⟩
  | view => obtain ⟨fp, r⟩ := h; exact ⟨fp, r.ex x⟩
/-- .. counted from an earlier heap -/
theorem RepK.back {k : Kd} {H1 : Hp} (h : RepK K P w O H1 H' k t v) (x : Ex H0 H1) : RepK K P w O H0 H' k t v := by
  cases k with
  | own => obtain ⟨fp, r, n, m⟩ := h; exact ⟨fp, r, n, fun a ha => ⟨(m a ha).1, none_ex (m a ha).2 x⟩⟩
  | shr => exact h
  | view => exact h
end

/-! ### what the program's defs do, by name -/
structure Tbl where
  /-- from the arguments (shr or io): the result, and what the io ones are then -/
  sem : String → List Sl → Option (Kd × PV × List Sl)
  /-- how many parameters -/
  ar : String → Option (List Str)

/-- a result at the end of a def: own, or not of the slots' own -/
def RepR (K : PySem.W.Frag) (P : Program) (w : World) (H0 : Hp) (O0 : Nat → List Addr) (H' : Hp) (O' : Nat → List Addr) : Kd → PV → V → Prop
  | .own, t, v => ∃ fp, Rep K P w H' t v fp ∧ fp.Nodup ∧ ∀ a ∈ fp, Mut (H' a) ∧ ¬ ow O' a ∧ (ow O0 a ∨ H0 a = none)
  | .shr, t, v => ∃ fp, Rep K P w H' t v fp ∧ ∀ a ∈ fp, ¬ ow O' a
  | .view, t, v => False

def SpG (K : PySem.W.Frag) (P : Program) (w : World) (n : Nat) (sem : List Sl → Option (Kd × PV × List Sl)) : Sp := fun vs H Q _ =>
  vs.length = n ∧ ∃ as O, StR K P w as (vs.map some) H O ∧ ∃ k t bs, sem as = some (k, t, bs) ∧ ∀ v H' O', Step H O H' O' → StR K P w bs (vs.map some) H' O' → RepR K P w H O H' O' k t v → Q v H'

def bltNames : List Str := ["len", "range", "abs", "int", "str", "sorted", "tuple", "list", "set", "dict", "sum", "min", "max", "any", "all", "enumerate", "zip", "reversed", "isinstance", "repr", "ord", "chr", "bool", "type"]

/-- a text's place: its names by slot, its scope, the defs it may call -/
structure Cn where
  N : List Str
  sc : Scope
  fn : Str → Bool
  T : Tbl

structure Gd (C : Cn) (X : Cx) : Prop where
  calm : X.calm = true
  nd : X.N.Nodup
  N : X.N = C.N
  sc : X.env.scope = C.sc
  fn : X.fn = C.fn
  po : PassesOwn (model X.prog X.w) X.A X.env X.xe
  un : X.A.units + 70 < cLine
  blt : ∀ x ∈ bltNames, X.mg x = none
  fns : ∀ x ps, C.T.ar x = some ps → ∃ (k : Nat) (f : Addr) (fd : FuncData), FnOk X.prog X.w X.K X.mg X.base CX0 k f fd ps (SpG X.K X.prog X.w ps.length (C.T.sem x)) ∧ Room k X.A ∧
    X.mg (Str.ofString x) = some (.ref f) ∧ PySem.W.keepIn X.K (.ref f) = true ∧ Binds X.K fd ps []

/-! ### expressions that change nothing -/
def genP (K : PySem.W.Frag) (P : Program) (w : World) (f : PX) : TE := fun σ H Q =>
  ∃ τ O, StR K P w τ σ H O ∧ ∃ k t, f τ = some (k, t) ∧ ∀ v H', Ex H H' → RepK K P w O H H' k t v → Q v H'
abbrev gP (X : Cx) (f : PX) : TE := genP X.K X.prog X.w f
def SndP (C : Cn) (e : Expr) (f : PX) : Prop := ∀ X, Gd C X → PE X e (gP X f)

theorem PE.weak {X : Cx} {e : Expr} {t u : TE} (h : PE X e t) (i : ∀ σ H Q, u σ H Q → t σ H Q) : PE X e u := ⟨fun pins s σ H Q I q => h.run pins s σ H Q I (i σ H Q q)⟩
theorem PT.weak {X : Cx} {e : Expr} {t u : TT} (h : PT X e t) (i : ∀ σ H Q, u σ H Q → t σ H Q) : PT X e u := ⟨fun pins s σ H Q I q => h.run pins s σ H Q I (i σ H Q q)⟩
theorem PW.weak {X : Cx} {e : Expr} {t u : TT} (h : PW X e t) (i : ∀ σ H Q, u σ H Q → t σ H Q) : PW X e u := ⟨fun wh pins s σ H Q I q => h.run wh pins s σ H Q I (i σ H Q q)⟩
theorem PA.weak {X : Cx} {es : List Expr} {t u : TA} (h : PA X es t) (i : ∀ σ H Q, u σ H Q → t σ H Q) : PA X es u := ⟨fun pos pins s σ H Q I q => h.run pos pins s σ H Q I (i σ H Q q)⟩
theorem PS.weak {X : Cx} {st : Stmt} {t u : TS} (h : PS X st t) (i : ∀ D σ H, u D σ H → t D σ H) : PS X st u := ⟨fun pins s σ H D I q => h.run pins s σ H D I (i D σ H q)⟩
theorem PSs.weak {X : Cx} {st : List Stmt} {t u : TS} (h : PSs X st t) (i : ∀ D σ H, u D σ H → t D σ H) : PSs X st u := ⟨fun pins s σ H D I q => h.run pins s σ H D I (i D σ H q)⟩

/-- use: one operand, then the next -/
theorem gP.mono {K : PySem.W.Frag} {P : Program} {w : World} {f : PX} {τ : En} {σ : St} {H : Hp} {O : Nat → List Addr} {k : Kd} {t : PV} {Q : VK} (S : StR K P w τ σ H O) (e : f τ = some (k, t))
    (h : ∀ v H', Ex H H' → StR K P w τ σ H' O → RepK K P w O H H' k t v → Q v H') : genP K P w f σ H Q :=
  ⟨τ, O, S, k, t, e, fun v H' x r => h v H' x (S.ex x) r⟩

def visB (sc : Scope) (x : Str) : Bool := match sc.names.lookup x with | some .local => true | some .cell => true | some .free => true | _ => false
def locB (sc : Scope) (x : Str) : Bool := match sc.names.lookup x with | some .local => true | some .cell => true | _ => false
def glB (sc : Scope) (x : Str) : Bool := match sc.names.lookup x with | some .globalImplicit => true | _ => false
theorem vis_of {sc : Scope} {x : Str} (h : visB sc x = true) : Vis sc x := by
  unfold visB at h
  split at h
  · exact .inl (by assumption)
  · exact .inr (.inl (by assumption))
  · exact .inr (.inr (by assumption))
  · cases h
theorem loc_of {sc : Scope} {x : Str} (h : locB sc x = true) : Loc sc x := by
  unfold locB at h
  split at h
  · exact .inl (by assumption)
  · exact .inr (by assumption)
  · cases h
theorem gl_of {C : Cn} {X : Cx} {x : Str} (G : Gd C X) (h : glB C.sc x = true) : Gl X x := by
  unfold glB at h
  show X.env.scope.names.lookup x = some .globalImplicit
  rw [G.sc]
  split at h
  · assumption
  · cases h

@[simp] def kdOf (t : PV) (k : Kd) : Kd := if imm t then .own else k
@[simp] def eVar (i : Nat) : PX := fun τ => match τ[i]? with
  | some (.own t) => some (kdOf t .view, t)
  | some (.io t) => some (kdOf t .view, t)
  | some (.shr t) => some (kdOf t .shr, t)
  | _ => none
theorem repK_kd {K : PySem.W.Frag} {P : Program} {w : World} {O : Nat → List Addr} {H0 H' : Hp} {k : Kd} {t : PV} {v : V} (h : RepK K P w O H0 H' k t v) : RepK K P w O H0 H' (kdOf t k) t v := by
  unfold kdOf
  split
  · obtain ⟨fp, r⟩ := h.any
    exact RepK.of_imm r (by assumption)
  · exact h
theorem snd_var {C : Cn} (i : Nat) {x : Str} {pos : Pos} (hN : C.N[i]? = some x) (hv : visB C.sc x = true) (hd : (x == ("__debug__" : Str)) = false := by decide) (hcd : (x == ("__classdict__" : Str)) = false := by decide) : SndP C (.Name x pos) (eVar i) := by
  intro X G
  refine PE.weak (pe_var (i := i) (by rw [G.N]; exact hN) (by rw [G.sc]; exact vis_of hv) hd hcd) fun σ H Q h => ?_
  obtain ⟨τ, O, S, k, t, e, q⟩ := h
  unfold eVar at e
  split at e
  · rename_i u hu
    cases e
    obtain ⟨v, ev, r⟩ := S.own i _ (.inl hu)
    exact ⟨v, ev, q v H .refl (repK_kd (k := .view) ⟨_, r⟩)⟩
  · rename_i u hu
    cases e
    obtain ⟨v, ev, r⟩ := S.own i _ (.inr hu)
    exact ⟨v, ev, q v H .refl (repK_kd (k := .view) ⟨_, r⟩)⟩
  · rename_i u hu
    cases e
    obtain ⟨v, fp, ev, r, n⟩ := S.shr i _ hu
    exact ⟨v, ev, q v H .refl (repK_kd (k := .shr) ⟨_, r, n⟩)⟩
  · cases e

/-- constants -/
def eC (t : PV) : PX := fun _ => some (.own, t)
theorem snd_const {C : Cn} {e : Expr} {t : PV} {v : V} (he : ∀ X : Cx, PE X e (tC v)) (hr : ∀ K P w H, Rep K P w H t v []) (hi : imm t = true) : SndP C e (eC t) := by
  intro X G
  refine PE.weak (he X) fun σ H Q h => ?_
  obtain ⟨τ, O, S, k, u, e, q⟩ := h
  cases e
  exact q v H .refl (RepK.of_imm (hr _ _ _ _) hi)
theorem snd_int {C : Cn} {i j pos} : SndP C (.Constant (.int i) j pos) (eC (.int i)) := snd_const (fun _ => pe_int) (fun _ _ _ _ => by simp [Rep]) rfl
theorem snd_bl {C : Cn} {b j pos} : SndP C (.Constant (.bool b) j pos) (eC (.bl b)) := snd_const (fun _ => pe_bl) (fun _ _ _ _ => by simp [Rep]) rfl
theorem snd_non {C : Cn} {j pos} : SndP C (.Constant .none j pos) (eC .non) := snd_const (fun _ => pe_non) (fun _ _ _ _ => by simp [Rep]) rfl
def okTb (s : Tx) : Bool := decide (s.length ≤ 16777216) && s.all fun c => decide (c < 0x110000)
theorem okT_of {s : Tx} (h : okTb s = true) : okT s := by
  unfold okTb at h
  simp only [Bool.and_eq_true, decide_eq_true_eq, List.all_eq_true] at h
  exact ⟨by rw [sizeLine_eq]; exact h.1, h.2⟩
theorem snd_str {C : Cn} {x : Str} {j pos} (s : Tx) (hs : x.cps = s.toArray := by rfl) (ok : okTb s = true := by decide) : SndP C (.Constant (.str x) j pos) (eC (.str s)) :=
  snd_const (v := .str x) (fun _ => pe_str) (fun _ _ _ _ => by simp only [Rep]; refine ⟨?_, okT_of ok, trivial⟩; cases x; unfold mkS; simp only at hs; rw [hs]) rfl

/-! ### operators by values -/
/-- f does on values what g does on trees -/
def OpS (X : Cx) (f : Value → Value → Sem Value) (g : PV → PV → Option (Kd × PV)) : Prop :=
  ∀ (pins : List (Addr × Obj)) (s : Shared) (σ : St) (H : Hp) (x y : V) (v u : Value) (Q : VK) (tx ty t : PV) (k : Kd) (fx fy : List Addr), Inv X pins σ H s → RelV x v → RelV y u →
    Rep X.K X.prog X.w H tx x fx → Rep X.K X.prog X.w H ty y fy → g tx ty = some (k, t) → (∀ z H', Ex H H' → (∀ O, RepK X.K X.prog X.w O H H' k t z) → Q z H') →
    wpAny (model X.prog X.w) X.A (f v u) (EP X pins σ Q) X.xe s
def r2S (X : Cx) (g : PV → PV → Option (Kd × PV)) : R2 := fun x y H Q => ∃ tx ty t k fx fy, Rep X.K X.prog X.w H tx x fx ∧ Rep X.K X.prog X.w H ty y fy ∧ g tx ty = some (k, t) ∧
  ∀ z H', Ex H H' → (∀ O, RepK X.K X.prog X.w O H H' k t z) → Q z H'
theorem OpS.op {X : Cx} {f : Value → Value → Sem Value} {g : PV → PV → Option (Kd × PV)} (h : OpS X f g) : OpR X f (r2S X g) := by
  intro pins s σ H x y v u Q I rx ry q
  obtain ⟨tx, ty, t, k, fx, fy, r1, r2, e, q⟩ := q
  exact h pins s σ H x y v u Q tx ty t k fx fy I rx ry r1 r2 e q
/-- from a rule of the layer -/
theorem OpS.of {X : Cx} {f : Value → Value → Sem Value} {g : PV → PV → Option (Kd × PV)} {r : R2} (ho : OpR X f r)
    (h : ∀ (H : Hp) (x y : V) (Q : VK) (tx ty t : PV) (k : Kd) (fx fy : List Addr), Rep X.K X.prog X.w H tx x fx → Rep X.K X.prog X.w H ty y fy → g tx ty = some (k, t) → (∀ z H', Ex H H' → (∀ O, RepK X.K X.prog X.w O H H' k t z) → Q z H') → r x y H Q) : OpS X f g :=
  fun pins s σ H x y v u Q tx ty t k fx fy I rx ry r1 r2 e q => ho pins s σ H x y v u Q I rx ry (h H x y Q tx ty t k fx fy r1 r2 e q)

def eBin (g : PV → PV → Option (Kd × PV)) (a b : PX) : PX := fun τ => (a τ).bind fun x => (b τ).bind fun y => g x.2 y.2
theorem gP.two {X : Cx} {a b : PX} {g : PV → PV → Option (Kd × PV)} {σ : St} {H : Hp} {Q : VK} (h : gP X (eBin g a b) σ H Q) : tOp (r2S X g) (gP X a) (gP X b) σ H Q := by
  obtain ⟨τ, O, S, k, t, e, q⟩ := h
  unfold eBin at e
  cases ea : a τ with
  | none => rw [ea] at e; cases e
  | some x =>
    rw [ea] at e
    simp only [Option.bind_some] at e
    cases eb : b τ with
    | none => rw [eb] at e; cases e
    | some y =>
      rw [eb] at e
      simp only [Option.bind_some] at e
      refine gP.mono S ea fun v1 H1 x1 S1 r1 => gP.mono S1 eb fun v2 H2 x2 S2 r2 => ?_
      obtain ⟨f1, r1⟩ := r1.any
      obtain ⟨f2, r2⟩ := r2.any
      exact ⟨_, _, t, k, f1, f2, r1.ex x2, r2, e, fun z H' x3 r3 => q z H' ((x1.trans x2).trans x3) ((r3 O).back (x1.trans x2))⟩
theorem snd_bin {C : Cn} {a b : Expr} {op : Operator} {fa fb : PX} {g : PV → PV → Option (Kd × PV)} {pos : Pos} (ho : ∀ X, Gd C X → OpS X (binaryOp op) g) (ha : SndP C a fa) (hb : SndP C b fb) : SndP C (.BinOp a op b pos) (eBin g fa fb) :=
  fun X G => PE.weak (pe_op (ho X G).op (ha X G) (hb X G)) fun _ _ _ h => gP.two h
theorem snd_cmp {C : Cn} {a b : Expr} {op : CmpOp} {fa fb : PX} {g : PV → PV → Option (Kd × PV)} {pos : Pos} (ho : ∀ X, Gd C X → OpS X (compareOp op) g) (ha : SndP C a fa) (hb : SndP C b fb) (hm : behindInMarks op b = false := by rfl) :
    SndP C (.Compare a [op] [b] pos) (eBin g fa fb) :=
  fun X G => PE.weak (pe_cmpR (ho X G).op (ha X G) (hb X G) hm) fun _ _ _ h => gP.two h
/-- one place -/
def UnS (X : Cx) (f : Value → Sem Value) (g : PV → Option (Kd × PV)) : Prop :=
  ∀ (pins : List (Addr × Obj)) (s : Shared) (σ : St) (H : Hp) (x : V) (v : Value) (Q : VK) (tx t : PV) (k : Kd) (fx : List Addr), Inv X pins σ H s → RelV x v →
    Rep X.K X.prog X.w H tx x fx → g tx = some (k, t) → (∀ z H', Ex H H' → (∀ O, RepK X.K X.prog X.w O H H' k t z) → Q z H') →
    wpAny (model X.prog X.w) X.A (f v) (EP X pins σ Q) X.xe s
def r1S (X : Cx) (g : PV → Option (Kd × PV)) : V → Hp → VK → Prop := fun x H Q => ∃ tx t k fx, Rep X.K X.prog X.w H tx x fx ∧ g tx = some (k, t) ∧
  ∀ z H', Ex H H' → (∀ O, RepK X.K X.prog X.w O H H' k t z) → Q z H'
theorem UnS.un {X : Cx} {f : Value → Sem Value} {g : PV → Option (Kd × PV)} (h : UnS X f g) : UnR X f (r1S X g) := by
  intro pins s σ H x v Q I rx q
  obtain ⟨tx, t, k, fx, r1, e, q⟩ := q
  exact h pins s σ H x v Q tx t k fx I rx r1 e q
def eUn (g : PV → Option (Kd × PV)) (a : PX) : PX := fun τ => (a τ).bind fun x => g x.2
theorem gP.one {X : Cx} {a : PX} {g : PV → Option (Kd × PV)} {σ : St} {H : Hp} {Q : VK} (h : gP X (eUn g a) σ H Q) : tUn (r1S X g) (gP X a) σ H Q := by
  obtain ⟨τ, O, S, k, t, e, q⟩ := h
  unfold eUn at e
  cases ea : a τ with
  | none => rw [ea] at e; cases e
  | some x =>
    rw [ea] at e
    simp only [Option.bind_some] at e
    refine gP.mono S ea fun v1 H1 x1 S1 r1 => ?_
    obtain ⟨f1, r1⟩ := r1.any
    exact ⟨_, t, k, f1, r1, e, fun z H' x3 r3 => q z H' (x1.trans x3) ((r3 O).back x1)⟩
theorem snd_un {C : Cn} {a : Expr} {op : UnaryOp} {fa : PX} {g : PV → Option (Kd × PV)} {pos : Pos} (ho : ∀ X, Gd C X → UnS X (unaryOp op) g) (ha : SndP C a fa) : SndP C (.UnaryOp op a pos) (eUn g fa) :=
  fun X G => PE.weak (pe_un (ho X G).un (ha X G)) fun _ _ _ h => gP.one h
end Pv
namespace Pv
open PySem PySem.Spec L2

theorem mkS_len (s : Tx) : (mkS s).length = s.length := by simp [mkS, Str.length]
theorem mkS_app (s u : Tx) : mkS s ++ mkS u = mkS (s ++ u) := by
  show Str.append _ _ = _
  simp [mkS, Str.append]
theorem mkS_inj {s u : Tx} (h : mkS s = mkS u) : s = u := by
  unfold mkS at h
  injection h with h
  have e := congrArg Array.toList h
  simpa using e
theorem mkS_eq (s u : Tx) : (mkS s = mkS u) ↔ s = u := ⟨mkS_inj, fun e => by rw [e]⟩

section
variable {K : PySem.W.Frag} {P : Program} {w : World} {H H' : Hp} {O : Nat → List Addr}
theorem rep_non : Rep K P w H .non .non [] := by simp [Rep]
theorem rep_bl {b} : Rep K P w H (.bl b) (.bl b) [] := by simp [Rep]
theorem rep_int {i} : Rep K P w H (.int i) (.int i) [] := by simp [Rep]
theorem rep_str {s : Tx} (h : okT s) : Rep K P w H (.str s) (.str (mkS s)) [] := by simp [Rep, h]
theorem repK_int {k : Kd} {i} : RepK K P w O H H' k (.int i) (.int i) := RepK.of_imm rep_int rfl
theorem repK_bl {k : Kd} {i} : RepK K P w O H H' k (.bl i) (.bl i) := RepK.of_imm rep_bl rfl
theorem repK_non {k : Kd} : RepK K P w O H H' k .non .non := RepK.of_imm rep_non rfl
theorem repK_str {k : Kd} {s : Tx} (h : okT s) : RepK K P w O H H' k (.str s) (.str (mkS s)) := RepK.of_imm (rep_str h) rfl
theorem okT.app {s u : Tx} (hs : okT s) (hu : okT u) (h : s.length + u.length ≤ sizeLine) : okT (s ++ u) := by
  refine ⟨by rw [List.length_append]; exact h, fun c hc => ?_⟩
  rcases List.mem_append.mp hc with z | z
  · exact hs.2 c z
  · exact hu.2 c z
theorem okT.sub {s u : Tx} (hs : okT s) (hl : u.length ≤ s.length) (h : ∀ c ∈ u, c ∈ s) : okT u := ⟨Nat.le_trans hl hs.1, fun c hc => hs.2 c (h c hc)⟩
/-- a new list of old items -/
theorem repK_lst {xs : List PV} {vs : List V} {f : List Addr} {p : Addr} {k : Kd} (r : Reps K P w H xs vs f) (hp : H p = none) (hk : k = if imms xs then .own else .view) : RepK K P w O H (upd H p (.lst vs)) k (.lst xs) (.ref p) := by
  have r' := r.ex (Ex.upd (o := .lst vs) hp)
  have q : Rep K P w (upd H p (.lst vs)) (.lst xs) (.ref p) (p :: f) := by
    simp only [Rep]
    exact ⟨p, vs, f, rfl, upd_same, r', rfl⟩
  subst hk
  split
  · rename_i hi
    have e := imms_fp xs vs f hi r
    subst e
    refine ⟨[p], q, by simp, fun a ha => ?_⟩
    have : a = p := by simpa using ha
    subst this
    exact ⟨by rw [upd_same]; trivial, hp⟩
  · exact ⟨_, q⟩
theorem repK_tup {xs : List PV} {vs : List V} {f : List Addr} {p : Addr} (r : Reps K P w H xs vs f) (hp : H p = none) : RepK K P w O H (upd H p (.tup vs)) (kdOf (.tup xs) .view) (.tup xs) (.ref p) := by
  have r' := r.ex (Ex.upd (o := .tup vs) hp)
  have q : Rep K P w (upd H p (.tup vs)) (.tup xs) (.ref p) f := by
    simp only [Rep]
    exact ⟨p, vs, rfl, upd_same, r'⟩
  exact repK_kd (k := .view) ⟨_, q⟩
theorem imms_app (xs ys : List PV) : imms (xs ++ ys) = (imms xs && imms ys) := by
  induction xs with
  | nil => simp [imms]
  | cons x xs ih => simp [imms, ih, Bool.and_assoc]
end

/-! ### + -/
@[simp] def gAdd : PV → PV → Option (Kd × PV)
  | .int i, .int j => some (.own, .int (i + j))
  | .str s, .str u => if s.length + u.length ≤ 16777216 then some (.own, .str (s ++ u)) else none
  | .lst xs, .lst ys => if xs.length + ys.length ≤ 16777216 then some (if imms (xs ++ ys) then .own else .view, .lst (xs ++ ys)) else none
  | .tup xs, .tup ys => if xs.length + ys.length ≤ 16777216 then some (kdOf (.tup (xs ++ ys)) .view, .tup (xs ++ ys)) else none
  | _, _ => none
theorem sl_eq : sizeLine = 16777216 := PySem.sizeLine_eq
theorem ops_add {X : Cx} : OpS X (binaryOp .Add) gAdd := by
  refine OpS.of (OpR.or op_add (OpR.or op_add_str (OpR.or op_cat op_catA))) fun H x y Q tx ty t k fx fy rx ry e q => ?_
  unfold gAdd at e
  split at e
  · rename_i i j
    simp only [Rep] at rx ry
    cases e
    exact .inl ⟨i, j, rx.1, ry.1, q _ H .refl fun _ => repK_int⟩
  · rename_i s u
    split at e
    · rename_i hl
      simp only [Rep] at rx ry
      cases e
      have hl' : s.length + u.length ≤ sizeLine := by rw [sl_eq]; exact hl
      refine .inr (.inl ⟨mkS s, mkS u, rx.1, ry.1, by rw [mkS_len, mkS_len]; exact hl', ?_⟩)
      rw [mkS_app]
      exact q _ H .refl fun _ => repK_str (rx.2.1.app ry.2.1 hl')
    · cases e
  · rename_i xs ys
    split at e
    · rename_i hl
      simp only [Rep] at rx ry
      cases e
      obtain ⟨a, vs, f, e1, h1, r1, e2⟩ := rx
      obtain ⟨b, ws, g, e3, h2, r2, e4⟩ := ry
      refine .inr (.inr (.inl ⟨a, b, vs, ws, e1, e3, h1, h2, by rw [r1.length, r2.length, sl_eq]; exact hl, fun p hp => q _ _ (Ex.upd hp) fun _ => repK_lst (r1.append r2) hp rfl⟩))
    · cases e
  · rename_i xs ys
    split at e
    · rename_i hl
      simp only [Rep] at rx ry
      cases e
      obtain ⟨a, vs, e1, h1, r1⟩ := rx
      obtain ⟨b, ws, e3, h2, r2⟩ := ry
      refine .inr (.inr (.inr ⟨a, b, vs, ws, e1, e3, SqT.of h1, SqT.of h2, by rw [r1.length, r2.length, sl_eq]; exact hl, fun z => ?_, fun _ z => ?_, fun _ _ p hp => q _ _ (Ex.upd hp) fun _ => repK_tup (r1.append r2) hp⟩))
      · subst z
        have : xs = [] := by have := r1.length; simpa using this.symm
        subst this
        refine q _ H .refl fun _ => repK_kd (k := .view) ⟨fy, ?_⟩
        simp only [Rep]
        exact ⟨b, ws, rfl, h2, by simpa using r2⟩
      · subst z
        have : ys = [] := by have := r2.length; simpa using this.symm
        subst this
        refine q _ H .refl fun _ => repK_kd (k := .view) ⟨fx, ?_⟩
        simp only [Rep]
        exact ⟨a, vs, rfl, h1, by simpa using r1⟩
    · cases e
  · cases e

/-! ### -, *, //, %, ** -/
@[simp] def gSub : PV → PV → Option (Kd × PV)
  | .int i, .int j => some (.own, .int (i - j))
  | _, _ => none
theorem ops_sub {X : Cx} : OpS X (binaryOp .Sub) gSub := by
  refine OpS.of op_sub fun H x y Q tx ty t k fx fy rx ry e q => ?_
  unfold gSub at e
  split at e
  · rename_i i j
    simp only [Rep] at rx ry
    cases e
    exact ⟨i, j, rx.1, ry.1, q _ H .refl fun _ => repK_int⟩
  · cases e
def mulOk (i j : Int) : Bool := (decide (-(2 ^ 64) < i) && decide (i < 2 ^ 64)) || (decide (-(2 ^ 64) < j) && decide (j < 2 ^ 64)) || decide (i.natAbs.log2 + j.natAbs.log2 < 1000000)
def repT (s : Tx) (n : Nat) : Tx := (List.replicate n s).flatten
def gMul : PV → PV → Option (Kd × PV)
  | .int i, .int j => if mulOk i j then some (.own, .int (i * j)) else none
  | .str s, .int n => if n < 2 ^ 62 && s.length * n.toNat ≤ 16777216 && decide (-(2 ^ 62) < n) then some (.own, .str (repT s n.toNat)) else none
  | .lst xs, .int n => if n < 2 ^ 62 && xs.length * n.toNat ≤ 16777216 && decide (-(2 ^ 62) < n) then some (if imms xs then .own else .view, .lst (List.replicate n.toNat xs).flatten) else none
  | _, _ => none
theorem imms_rep (xs : List PV) (n : Nat) (h : imms xs = true) : imms (List.replicate n xs).flatten = true := by
  induction n with
  | zero => rfl
  | succ n ih => rw [List.replicate_succ, List.flatten_cons, imms_app, h, ih]; rfl
theorem foldl_rep (a : Array Nat) : ∀ (n : Nat) (acc : Array Nat), (List.replicate n a).foldl (· ++ ·) acc = acc ++ (List.replicate n a.toList).flatten.toArray
  | 0, acc => by simp
  | n + 1, acc => by
    rw [List.replicate_succ, List.foldl_cons, foldl_rep a n, List.replicate_succ, List.flatten_cons]
    apply Array.ext'
    simp
theorem mul_txt (s : Tx) (n : Int) : Txt.mul (mkS s) n = mkS (repT s n.toNat) := by
  unfold Txt.mul repT
  split
  · have : n.toNat = 0 := by omega
    rw [this]; rfl
  · split
    · rename_i h
      simp only [Bool.or_eq_true, beq_iff_eq] at h
      rcases h with h | h
      · subst h; simp
      · rw [mkS_len] at h
        have : s = [] := List.eq_nil_of_length_eq_zero h
        subst this
        simp
    · rw [foldl_rep]
      simp [mkS]
theorem op_mul_str {X : Cx} : OpR X (binaryOp .Mult) (fun x y H Q => ∃ (s : Tx) (n : Int), x = .str (mkS s) ∧ y = .int n ∧ n < 2 ^ 62 ∧ s.length * n.toNat ≤ 16777216 ∧ -(2 ^ 62) < n ∧ Q (.str (mkS (repT s n.toNat))) H) := by
  intro pins s σ H x y v u Q I rx ry h
  obtain ⟨z, n, rfl, rfl, h1, h2, h3, q⟩ := h
  obtain ⟨t, rfl⟩ := rx
  obtain ⟨t', rfl⟩ := ry
  have go : ∀ k t', EP X pins σ Q (Value.str (Txt.mul (mkS z) n) t') { s with toks := k } := fun k t' => ⟨.str _, H, I.tok _, ⟨t', rfl⟩, by rw [mul_txt]; exact q⟩
  refine PySem.SB.mul ⟨?_, fun a b => ?_, fun a b => ?_⟩ fun t' k => go k t'
  · simp only [Bool.or_eq_false_iff, decide_eq_false_iff_not]
    constructor <;> omega
  · intro c
    rw [mkS_len] at c b
    have hn : 1 < n := by
      simp only [Bool.or_eq_false_iff, beq_eq_false_iff_ne] at b
      omega
    have h5 : (2 ^ 63 - 1 : Int) / n ≥ 16777216 ∨ True := .inr trivial
    have h6 : z.length * n.toNat ≤ 16777216 := h2
    have : (z.length : Int) * n ≤ 16777216 := by
      have e : (n.toNat : Int) = n := by omega
      have : ((z.length * n.toNat : Nat) : Int) ≤ 16777216 := by omega
      rw [Int.natCast_mul, e] at this
      exact this
    have : (z.length : Int) ≤ (2 ^ 63 - 1) / n := by
      rw [Int.le_ediv_iff_mul_le (by omega)]
      omega
    omega
  · rw [mkS_len]
    unfold Builtin.Str.tooLong
    rw [sl_eq]
    simp only [gt_iff_lt, decide_eq_false_iff_not, Nat.not_lt]
    exact h2

theorem ops_mul {X : Cx} : OpS X (binaryOp .Mult) gMul := by
  refine OpS.of (OpR.or op_mul (OpR.or op_mulW (OpR.or op_mul_str op_rep))) fun H x y Q tx ty t k fx fy rx ry e q => ?_
  unfold gMul at e
  split at e
  · rename_i i j
    split at e
    · rename_i hm
      simp only [Rep] at rx ry
      cases e
      unfold mulOk at hm
      simp only [Bool.or_eq_true, Bool.and_eq_true, decide_eq_true_eq] at hm
      rcases hm with hm | hm
      · exact .inl ⟨i, j, rx.1, ry.1, hm, q _ H .refl fun _ => repK_int⟩
      · exact .inr (.inl ⟨i, j, rx.1, ry.1, hm, q _ H .refl fun _ => repK_int⟩)
    · cases e
  · rename_i s n
    split at e
    · rename_i hm
      simp only [Bool.and_eq_true, decide_eq_true_eq] at hm
      simp only [Rep] at rx ry
      cases e
      refine .inr (.inr (.inl ⟨s, n, rx.1, ry.1, hm.1.1, hm.1.2, hm.2, q _ H .refl fun _ => repK_str ⟨?_, fun c hc => ?_⟩⟩))
      · rw [repT, List.length_flatten, List.map_replicate, List.sum_replicate_nat, sl_eq, Nat.mul_comm]
        exact hm.1.2
      · unfold repT at hc
        rw [List.mem_flatten] at hc
        obtain ⟨l, h1, h2⟩ := hc
        rw [List.mem_replicate] at h1
        rw [h1.2] at h2
        exact rx.2.1.2 c h2
    · cases e
  · rename_i xs n
    split at e
    · rename_i hm
      simp only [Bool.and_eq_true, decide_eq_true_eq] at hm
      simp only [Rep] at rx ry
      cases e
      obtain ⟨a, vs, f, e1, h1, r1, e2⟩ := rx
      refine .inr (.inr (.inr ⟨a, n, vs, e1, ry.1, h1, by omega, by omega, by rw [r1.length, sl_eq]; exact hm.1.2, fun p hp => q _ _ (Ex.upd hp) fun O => ?_⟩))
      have rr : ∀ m : Nat, ∃ g, Reps X.K X.prog X.w H (List.replicate m xs).flatten (List.replicate m vs).flatten g := fun m => by
        induction m with
        | zero => exact ⟨[], by simp [Reps]⟩
        | succ m ih =>
          obtain ⟨g, ih⟩ := ih
          exact ⟨f ++ g, by rw [List.replicate_succ, List.replicate_succ, List.flatten_cons, List.flatten_cons]; exact r1.append ih⟩
      obtain ⟨g, rr⟩ := rr n.toNat
      by_cases hi : imms xs = true
      · rw [if_pos hi]
        exact repK_lst rr hp (by rw [if_pos (imms_rep xs _ hi)])
      · rw [if_neg hi]
        obtain ⟨fp, z⟩ := (repK_lst (O := O) rr hp rfl).any
        exact ⟨fp, z⟩
    · cases e
  · cases e
def gFdiv : PV → PV → Option (Kd × PV)
  | .int i, .int j => if 0 < j && j.natAbs.log2 < 9000 then some (.own, .int (i / j)) else none
  | _, _ => none
theorem ops_fdiv {X : Cx} : OpS X (binaryOp .FloorDiv) gFdiv := by
  refine OpS.of op_fdivW fun H x y Q tx ty t k fx fy rx ry e q => ?_
  unfold gFdiv at e
  split at e
  · rename_i i j
    split at e
    · rename_i hm
      simp only [Bool.and_eq_true, decide_eq_true_eq] at hm
      simp only [Rep] at rx ry
      cases e
      exact ⟨i, j, rx.1, ry.1, hm, q _ H .refl fun _ => repK_int⟩
    · cases e
  · cases e
@[simp] def gMod : PV → PV → Option (Kd × PV)
  | .int i, .int j => if 0 < j then some (.own, .int (i % j)) else none
  | _, _ => none
theorem ops_mod {X : Cx} : OpS X (binaryOp .Mod) gMod := by
  refine OpS.of op_mod fun H x y Q tx ty t k fx fy rx ry e q => ?_
  unfold gMod at e
  split at e
  · rename_i i j
    split at e
    · rename_i hm
      simp only [Rep] at rx ry
      cases e
      exact ⟨i, j, rx.1, ry.1, hm, q _ H .refl fun _ => repK_int⟩
    · cases e
  · cases e
def gPow : PV → PV → Option (Kd × PV)
  | .int i, .int j => if 0 ≤ j && j ≤ 1000000 && i.natAbs < 2 ^ 64 then some (.own, .int (i ^ j.toNat)) else none
  | _, _ => none
theorem ops_pow {X : Cx} : OpS X (binaryOp .Pow) gPow := by
  refine OpS.of op_pow fun H x y Q tx ty t k fx fy rx ry e q => ?_
  unfold gPow at e
  split at e
  · rename_i i j
    split at e
    · rename_i hm
      simp only [Bool.and_eq_true, decide_eq_true_eq] at hm
      simp only [Rep] at rx ry
      cases e
      exact ⟨i, j, rx.1, ry.1, ⟨hm.1.1, hm.1.2, hm.2⟩, q _ H .refl fun _ => repK_int⟩
    · cases e
  · cases e
@[simp] def gNeg : PV → Option (Kd × PV)
  | .int i => some (.own, .int (-i))
  | _ => none
theorem UnS.of {X : Cx} {f : Value → Sem Value} {g : PV → Option (Kd × PV)} {r : V → Hp → VK → Prop} (ho : UnR X f r)
    (h : ∀ (H : Hp) (x : V) (Q : VK) (tx t : PV) (k : Kd) (fx : List Addr), Rep X.K X.prog X.w H tx x fx → g tx = some (k, t) → (∀ z H', Ex H H' → (∀ O, RepK X.K X.prog X.w O H H' k t z) → Q z H') → r x H Q) : UnS X f g :=
  fun pins s σ H x v Q tx t k fx I rx r1 e q => ho pins s σ H x v Q I rx (h H x Q tx t k fx r1 e q)
theorem uns_neg {X : Cx} : UnS X (unaryOp .USub) gNeg := by
  refine UnS.of un_neg fun H x Q tx t k fx rx e q => ?_
  unfold gNeg at e
  split at e
  · rename_i i
    simp only [Rep] at rx
    cases e
    exact ⟨i, rx.1, q _ H .refl fun _ => repK_int⟩
  · cases e

/-! ### <, <=, >, >= -/
@[simp] def gOrd (fi : Int → Int → Bool) (fs : Tx → Tx → Bool) : PV → PV → Option (Kd × PV)
  | .int i, .int j => some (.own, .bl (fi i j))
  | .str s, .str u => some (.own, .bl (fs s u))
  | _, _ => none
@[simp] def gLt := gOrd (fun i j => decide (i < j)) (fun s u => decide (s < u))
@[simp] def gLe := gOrd (fun i j => decide (i ≤ j)) (fun s u => !decide (u < s))
@[simp] def gGt := gOrd (fun i j => decide (j < i)) (fun s u => decide (u < s))
@[simp] def gGe := gOrd (fun i j => decide (j ≤ i)) (fun s u => !decide (s < u))
theorem mkS_toList (s : Tx) : (mkS s).cps.toList = s := by simp [mkS]
theorem ops_ord {X : Cx} {op : CmpOp} {fi : Int → Int → Bool} {fs : Tx → Tx → Bool} (h1 : OpR X (compareOp op) (rI0 fun i j => .bl (fi i j)))
    (h2 : OpR X (compareOp op) (fun x y H Q => ∃ i j, x = .str i ∧ y = .str j ∧ Q (.bl (fs i.cps.toList j.cps.toList)) H)) : OpS X (compareOp op) (gOrd fi fs) := by
  refine OpS.of (OpR.or h1 h2) fun H x y Q tx ty t k fx fy rx ry e q => ?_
  unfold gOrd at e
  split at e
  · rename_i i j
    simp only [Rep] at rx ry
    cases e
    exact .inl ⟨i, j, rx.1, ry.1, q _ H .refl fun _ => repK_bl⟩
  · rename_i i j
    simp only [Rep] at rx ry
    cases e
    exact .inr ⟨mkS i, mkS j, rx.1, ry.1, by rw [mkS_toList, mkS_toList]; exact q _ H .refl fun _ => repK_bl⟩
  · cases e
theorem ops_lt {X : Cx} : OpS X (compareOp .Lt) gLt := ops_ord op_lt op_lt_str
theorem ops_le {X : Cx} : OpS X (compareOp .LtE) gLe := ops_ord op_le op_le_str
theorem ops_gt {X : Cx} : OpS X (compareOp .Gt) gGt := ops_ord op_gt op_gt_str
theorem ops_ge {X : Cx} : OpS X (compareOp .GtE) gGe := ops_ord op_ge op_ge_str

/-! ### ==, != of data -/
mutual
def toD : PV → PyData
  | .non => .none
  | .bl b => .bool b
  | .int i => .int i
  | .str s => .str (mkS s)
  | .lst xs => .list (toDs xs)
  | .fz xs => .list (toDs xs)
  | .tup xs => .tuple (toDs xs)
  | .dK _ _ => .dict []
  | .dT _ _ => .dict []
  | .sK _ => .dict []
def toDs : List PV → List PyData
  | [] => []
  | x :: xs => toD x :: toDs xs
end
mutual
def isData : PV → Bool
  | .non | .bl _ | .int _ | .str _ => true
  | .lst xs | .fz xs | .tup xs => isDatas xs
  | .dK _ _ | .dT _ _ | .sK _ => false
def isDatas : List PV → Bool
  | [] => true
  | x :: xs => isData x && isDatas xs
end
mutual
def dep : PV → Nat
  | .lst xs | .fz xs | .tup xs => deps xs + 1
  | .non | .bl _ | .int _ | .str _ => 0
  | .dK _ _ | .dT _ _ | .sK _ => 1
def deps : List PV → Nat
  | [] => 0
  | x :: xs => max (dep x) (deps xs)
end
/-! == as Python says it -/
mutual
def pyEq : PV → PV → Bool
  | .non, y => match y with | .non => true | _ => false
  | .bl a, y => match y with | .bl b => a == b | .int j => (if a then 1 else 0) == j | _ => false
  | .int i, y => match y with | .int j => i == j | .bl b => i == (if b then 1 else 0) | _ => false
  | .str s, y => match y with | .str u => decide (s = u) | _ => false
  | .lst xs, y => match y with | .lst ys => pyEqs xs ys | .fz ys => pyEqs xs ys | _ => false
  | .fz xs, y => match y with | .lst ys => pyEqs xs ys | .fz ys => pyEqs xs ys | _ => false
  | .tup xs, y => match y with | .tup ys => pyEqs xs ys | _ => false
  | .dK _ _, _ => false
  | .dT _ _, _ => false
  | .sK _, _ => false
def pyEqs : List PV → List PV → Bool
  | [], ys => match ys with | [] => true | _ :: _ => false
  | x :: xs, ys => match ys with | [] => false | y :: ys => pyEq x y && pyEqs xs ys
end
mutual
theorem eqv_toD : ∀ (x y : PV), PyData.eqv (toD x) (toD y) = pyEq x y
  | .non, y => by cases y <;> simp [toD, PyData.eqv, pyEq]
  | .bl a, y => by cases y <;> simp [toD, PyData.eqv, pyEq]
  | .int i, y => by cases y <;> simp [toD, PyData.eqv, pyEq]
  | .str s, y => by
    cases y <;> simp [toD, PyData.eqv, pyEq]
    rename_i u
    by_cases h : s = u
    · simp [h]
    · simp [h, mkS_eq]
  | .lst xs, y => by cases y <;> simp [toD, PyData.eqv, pyEq, eqv_toDs xs]
  | .fz xs, y => by cases y <;> simp [toD, PyData.eqv, pyEq, eqv_toDs xs]
  | .tup xs, y => by cases y <;> simp [toD, PyData.eqv, pyEq, eqv_toDs xs]
  | .dK _ _, y => by cases y <;> simp [toD, PyData.eqv, pyEq]
  | .dT _ _, y => by cases y <;> simp [toD, PyData.eqv, pyEq]
  | .sK _, y => by cases y <;> simp [toD, PyData.eqv, pyEq]
theorem eqv_toDs : ∀ (xs ys : List PV), PyData.eqvAll (toDs xs) (toDs ys) = pyEqs xs ys
  | [], ys => by cases ys <;> simp [toDs, PyData.eqvAll, pyEqs]
  | x :: xs, ys => by cases ys <;> simp [toDs, PyData.eqvAll, pyEqs, eqv_toD x, eqv_toDs xs]
end
mutual
theorem dep_toD : ∀ x : PV, (toD x).depth = dep x
  | .non => by simp [toD, PyData.depth, dep]
  | .bl a => by simp [toD, PyData.depth, dep]
  | .int i => by simp [toD, PyData.depth, dep]
  | .str s => by simp [toD, PyData.depth, dep]
  | .lst xs => by simp [toD, PyData.depth, dep, deps_toD xs]
  | .fz xs => by simp [toD, PyData.depth, dep, deps_toD xs]
  | .tup xs => by simp [toD, PyData.depth, dep, deps_toD xs]
  | .dK _ _ => by simp [toD, PyData.depth, PyData.depthKv, dep]
  | .dT _ _ => by simp [toD, PyData.depth, PyData.depthKv, dep]
  | .sK _ => by simp [toD, PyData.depth, PyData.depthKv, dep]
theorem deps_toD : ∀ x : List PV, PyData.depthAll (toDs x) = deps x
  | [] => by simp [toDs, PyData.depthAll, deps]
  | x :: xs => by simp [toDs, PyData.depthAll, deps, dep_toD x, deps_toD xs]
end

section
variable {K : PySem.W.Frag} {P : Program} {w : World} {H : Hp}
mutual
theorem rep_dp : ∀ (t : PV) (v : V) (fp : List Addr), isData t = true → Rep K P w H t v fp → Dp K H v (toD t) ∧ (toD t).canLay0 = true
  | .non, v, fp, _, h => by simp only [Rep] at h; rw [h.1]; exact ⟨.non, rfl⟩
  | .bl _, v, fp, _, h => by simp only [Rep] at h; rw [h.1]; exact ⟨.bl _, rfl⟩
  | .int _, v, fp, _, h => by simp only [Rep] at h; rw [h.1]; exact ⟨.int _, rfl⟩
  | .str s, v, fp, _, h => by
    simp only [Rep] at h
    rw [h.1]
    refine ⟨.str _, ?_⟩
    show PyData.strOk (mkS s) = true
    unfold PyData.strOk mkS
    simp
    exact h.2.1.2
  | .lst xs, v, fp, d, h => by
    simp only [Rep] at h
    simp only [isData] at d
    obtain ⟨a, vs, f, e, q, r, _⟩ := h
    obtain ⟨r1, r2⟩ := reps_dp xs vs f d r
    rw [e]
    exact ⟨.lst (SqL.of q) r1, r2⟩
  | .fz xs, v, fp, d, h => by
    simp only [Rep] at h
    simp only [isData] at d
    obtain ⟨_, a, vs, e, q, r⟩ := h
    obtain ⟨r1, r2⟩ := reps_dp xs vs [] d r
    rw [e]
    exact ⟨.lst q.sq r1, r2⟩
  | .tup xs, v, fp, d, h => by
    simp only [Rep] at h
    simp only [isData] at d
    obtain ⟨a, vs, e, q, r⟩ := h
    obtain ⟨r1, r2⟩ := reps_dp xs vs fp d r
    rw [e]
    exact ⟨.tup (SqT.of q) r1, r2⟩
  | .dK _ _, v, fp, d, h => by simp [isData] at d
  | .dT _ _, v, fp, d, h => by simp [isData] at d
  | .sK _, v, fp, d, h => by simp [isData] at d
theorem reps_dp : ∀ (ts : List PV) (vs : List V) (fp : List Addr), isDatas ts = true → Reps K P w H ts vs fp → DpAll K H vs (toDs ts) ∧ PyData.canLayAll0 (toDs ts) = true
  | [], vs, fp, _, h => by simp only [Reps] at h; rw [h.1]; exact ⟨.nil, rfl⟩
  | t :: ts, vs, fp, d, h => by
    simp only [Reps] at h
    simp only [isDatas, Bool.and_eq_true] at d
    obtain ⟨v, vr, f, g, e, q, r, _⟩ := h
    obtain ⟨a1, a2⟩ := rep_dp t v f d.1 q
    obtain ⟨b1, b2⟩ := reps_dp ts vr g d.2 r
    rw [e]
    refine ⟨.cons a1 b1, ?_⟩
    show (PyData.canLay0 (toD t) && PyData.canLayAll0 (toDs ts)) = true
    rw [a2, b2]; rfl
end
end
def gEq : PV → PV → Option (Kd × PV) := fun x y => if isData x && isData y && decide (min (dep x) (dep y) ≤ 64) then some (.own, .bl (pyEq x y)) else none
def gNe : PV → PV → Option (Kd × PV) := fun x y => if isData x && isData y && decide (min (dep x) (dep y) ≤ 64) then some (.own, .bl (!pyEq x y)) else none
theorem ops_eq {X : Cx} (hu : X.A.units + 70 < cLine) : OpS X (compareOp .Eq) gEq := by
  intro pins s σ H x y v u Q tx ty t k fx fy I rx ry r1 r2 e q
  unfold gEq at e
  split at e
  · rename_i h
    simp only [Bool.and_eq_true, decide_eq_true_eq] at h
    cases e
    obtain ⟨d1, l1⟩ := rep_dp tx x fx h.1.1 r1
    obtain ⟨d2, l2⟩ := rep_dp ty y fy h.1.2 r2
    obtain ⟨as, q1⟩ := Dp.reads I _ x v d1 rx
    obtain ⟨bs, q2⟩ := Dp.reads I _ y u d2 ry
    refine SeqAt.compareEq_reads q1 q2 l1 l2 (by rw [dep_toD, dep_toD]; have := h.2; omega) ?_
    rw [eqv_toD]
    exact ⟨.bl _, H, I, rfl, q _ H .refl fun _ => repK_bl⟩
  · cases e
theorem ops_ne {X : Cx} (hu : X.A.units + 70 < cLine) : OpS X (compareOp .NotEq) gNe := by
  intro pins s σ H x y v u Q tx ty t k fx fy I rx ry r1 r2 e q
  unfold gNe at e
  split at e
  · rename_i h
    simp only [Bool.and_eq_true, decide_eq_true_eq] at h
    cases e
    obtain ⟨d1, l1⟩ := rep_dp tx x fx h.1.1 r1
    obtain ⟨d2, l2⟩ := rep_dp ty y fy h.1.2 r2
    obtain ⟨as, q1⟩ := Dp.reads I _ x v d1 rx
    obtain ⟨bs, q2⟩ := Dp.reads I _ y u d2 ry
    refine SeqAt.compareNe_reads q1 q2 l1 l2 (by rw [dep_toD, dep_toD]; have := h.2; omega) ?_
    rw [eqv_toD]
    exact ⟨.bl _, H, I, rfl, q _ H .refl fun _ => repK_bl⟩
  · cases e

/-! ### is None, is True, is False -/
@[simp] def isSc : PV → PV → Option Bool
  | x, .non => some (match x with | .non => true | _ => false)
  | x, .bl b => some (match x with | .bl a => a == b | _ => false)
  | _, _ => none
@[simp] def gIs : PV → PV → Option (Kd × PV) := fun x y => (isSc x y).map fun b => (.own, .bl b)
@[simp] def gIsN : PV → PV → Option (Kd × PV) := fun x y => (isSc x y).map fun b => (.own, .bl (!b))
theorem isSc_ok {X : Cx} {H : Hp} {x y : V} {v u : Value} {tx ty : PV} {fx fy : List Addr} {b : Bool} (rx : RelV x v) (ry : RelV y u) (r1 : Rep X.K X.prog X.w H tx x fx) (r2 : Rep X.K X.prog X.w H ty y fy) (e : isSc tx ty = some b) :
    plainIs v u = true ∧ (v == u) = b := by
  have hty : ty = .non ∨ ∃ c, ty = .bl c := by
    cases ty <;> simp [isSc] at e <;> simp
  rcases hty with rfl | ⟨c, rfl⟩
  · simp only [Rep] at r2
    rw [r2.1] at ry
    cases ry
    cases tx <;> simp only [Rep] at r1 <;> simp only [isSc, Option.some.injEq] at e <;> subst e
    · rw [r1.1] at rx; cases rx; exact ⟨rfl, by decide⟩
    · rw [r1.1] at rx; cases rx; exact ⟨rfl, rfl⟩
    · rw [r1.1] at rx; obtain ⟨t, rfl⟩ := rx; exact ⟨rfl, rfl⟩
    · rw [r1.1] at rx; obtain ⟨t, rfl⟩ := rx; exact ⟨rfl, rfl⟩
    · obtain ⟨a, _, _, e, _⟩ := r1; subst e; cases rx; exact ⟨rfl, rfl⟩
    · obtain ⟨a, _, e, _⟩ := r1; subst e; cases rx; exact ⟨rfl, rfl⟩
    · obtain ⟨_, a, _, e, _⟩ := r1; subst e; cases rx; exact ⟨rfl, rfl⟩
    · obtain ⟨a, _, _, e, _⟩ := r1; subst e; cases rx; exact ⟨rfl, rfl⟩
    · obtain ⟨a, _, _, e, _⟩ := r1; subst e; cases rx; exact ⟨rfl, rfl⟩
    · obtain ⟨a, e, _⟩ := r1; subst e; cases rx; exact ⟨rfl, rfl⟩
  · simp only [Rep] at r2
    rw [r2.1] at ry
    cases ry
    cases tx <;> simp only [Rep] at r1 <;> simp only [isSc, Option.some.injEq] at e <;> subst e
    · rw [r1.1] at rx; cases rx; exact ⟨rfl, rfl⟩
    · rename_i a
      rw [r1.1] at rx; cases rx; exact ⟨rfl, by cases a <;> cases c <;> rfl⟩
    · rw [r1.1] at rx; obtain ⟨t, rfl⟩ := rx; exact ⟨rfl, rfl⟩
    · rw [r1.1] at rx; obtain ⟨t, rfl⟩ := rx; exact ⟨rfl, rfl⟩
    · obtain ⟨a, _, _, e, _⟩ := r1; subst e; cases rx; exact ⟨rfl, rfl⟩
    · obtain ⟨a, _, e, _⟩ := r1; subst e; cases rx; exact ⟨rfl, rfl⟩
    · obtain ⟨_, a, _, e, _⟩ := r1; subst e; cases rx; exact ⟨rfl, rfl⟩
    · obtain ⟨a, _, _, e, _⟩ := r1; subst e; cases rx; exact ⟨rfl, rfl⟩
    · obtain ⟨a, _, _, e, _⟩ := r1; subst e; cases rx; exact ⟨rfl, rfl⟩
    · obtain ⟨a, e, _⟩ := r1; subst e; cases rx; exact ⟨rfl, rfl⟩
theorem ops_is {X : Cx} : OpS X (compareOp .Is) gIs := by
  intro pins s σ H x y v u Q tx ty t k fx fy I rx ry r1 r2 e q
  unfold gIs at e
  cases h : isSc tx ty with
  | none => rw [h] at e; cases e
  | some b =>
    rw [h] at e; cases e
    obtain ⟨p, e⟩ := isSc_ok rx ry r1 r2 h
    refine wpAny_is_plain p ?_
    rw [e]
    exact ⟨.bl _, H, I, rfl, q _ H .refl fun _ => repK_bl⟩
theorem ops_isN {X : Cx} : OpS X (compareOp .IsNot) gIsN := by
  intro pins s σ H x y v u Q tx ty t k fx fy I rx ry r1 r2 e q
  unfold gIsN at e
  cases h : isSc tx ty with
  | none => rw [h] at e; cases e
  | some b =>
    rw [h] at e; cases e
    obtain ⟨p, e⟩ := isSc_ok rx ry r1 r2 h
    refine wpAny_isNot_plain p ?_
    rw [e]
    exact ⟨.bl _, H, I, rfl, q _ H .refl fun _ => repK_bl⟩


/-! ### in, not in -/
def isPref : Tx → Tx → Bool
  | [], _ => true
  | _ :: _, [] => false
  | a :: s, b :: u => decide (a = b) && isPref s u
def isSub (s : Tx) : Tx → Bool
  | [] => isPref s []
  | b :: u => isPref s (b :: u) || isSub s u
def anyEq (x : PV) : List PV → Bool
  | [] => false
  | y :: ys => pyEq y x || anyEq x ys
theorem anyEq_toD (x : PV) : ∀ ys : List PV, ((toDs ys).any fun y => PyData.eqv y (toD x)) = anyEq x ys
  | [] => rfl
  | y :: ys => by simp only [toDs, List.any_cons, anyEq, eqv_toD, anyEq_toD x ys]
/-- a value in a dict, by its keys -/
def kyOf : PV → Option Ky
  | .int i => some (.i i)
  | .str s => some (.s s)
  | _ => none
def kysOf : List PV → Option (List Ky)
  | [] => some []
  | x :: xs => (kyOf x).bind fun k => (kysOf xs).map fun ks => k :: ks
def ktOf : PV → Option (List Ky)
  | .tup xs => kysOf xs
  | _ => none
def getKV {κ : Type} [DecidableEq κ] (k : κ) : List κ → List PV → Option PV
  | a :: ks, v :: vs => if a = k then some v else getKV k ks vs
  | _, _ => none
def inD : PV → PV → Option Bool := fun x y => match y with
  | .lst ys => if isData x && isDatas ys && decide (dep x ≤ 64) then some (anyEq x ys) else none
  | .fz ys => if isData x && isDatas ys && decide (dep x ≤ 64) then some (anyEq x ys) else none
  | .tup ys => if isData x && isDatas ys && decide (dep x ≤ 64) then some (anyEq x ys) else none
  | .str u => match x with | .str s => some (isSub s u) | _ => none
  | .dK ks _ => (kyOf x).map fun k => decide (k ∈ ks)
  | .dT ks _ => (ktOf x).map fun k => decide (k ∈ ks)
  | .sK ks => (kyOf x).map fun k => decide (k ∈ ks)
  | _ => none
def gIn : PV → PV → Option (Kd × PV) := fun x y => (inD x y).map fun b => (.own, .bl b)
def gNin : PV → PV → Option (Kd × PV) := fun x y => (inD x y).map fun b => (.own, .bl (!b))
theorem isPref_iff : ∀ (s u : Tx), isPref s u = true ↔ u.take s.length = s
  | [], u => by simp [isPref]
  | a :: s, [] => by simp [isPref]
  | a :: s, b :: u => by
    simp only [isPref, Bool.and_eq_true, decide_eq_true_eq, isPref_iff s u, List.length_cons, List.take_succ_cons, List.cons.injEq]
    constructor
    · rintro ⟨h1, h2⟩; exact ⟨h1.symm, h2⟩
    · rintro ⟨h1, h2⟩; exact ⟨h1.symm, h2⟩
theorem isSub_iff (s : Tx) : ∀ u : Tx, isSub s u = true ↔ ∃ i, i ≤ u.length ∧ (u.drop i).take s.length = s
  | [] => by
    simp only [isSub, isPref_iff]
    constructor
    · intro h; exact ⟨0, Nat.zero_le _, by simpa using h⟩
    · rintro ⟨i, _, h⟩; simpa using h
  | b :: u => by
    simp only [isSub, Bool.or_eq_true, isPref_iff, isSub_iff s u]
    constructor
    · rintro (h | ⟨i, h1, h2⟩)
      · exact ⟨0, Nat.zero_le _, by simpa using h⟩
      · exact ⟨i + 1, by simpa using h1, by simpa using h2⟩
    · rintro ⟨i, h1, h2⟩
      cases i with
      | zero => exact .inl (by simpa using h2)
      | succ i => exact .inr ⟨i, by simpa using h1, by simpa using h2⟩
theorem occ_isSub (s u : Tx) : (!(Builtin.Str.occurrences (mkS u) (mkS s) 0 (mkS u).length 1).isEmpty) = isSub s u := by
  rw [Bool.eq_iff_iff, StrLaws.found_iff, isSub_iff]
  simp only [StrLaws.subAt_eq, mkS_toList, mkS_len, beq_iff_eq]
  constructor
  · rintro ⟨i, h1, h2⟩; exact ⟨i, by omega, h2⟩
  · rintro ⟨i, h1, h2⟩
    refine ⟨i, ?_, h2⟩
    have := congrArg List.length h2
    rw [List.length_take, List.length_drop] at this
    omega
theorem kyK_inj {a b : Ky} (h : kyK a = kyK b) : a = b := by
  cases a <;> cases b <;> simp [kyK] at h
  · rw [h]
  · rw [mkS_inj h]
theorem kyKs_inj : ∀ {a b : List Ky}, a.map kyK = b.map kyK → a = b
  | [], [], _ => rfl
  | x :: a, y :: b, h => by
    simp only [List.map_cons, List.cons.injEq] at h
    rw [kyK_inj h.1, kyKs_inj h.2]
theorem rep_ky {K : PySem.W.Frag} {P : Program} {w : World} {H : Hp} {x : PV} {v : V} {fp : List Addr} {k : Ky} (r : Rep K P w H x v fp) (e : kyOf x = some k) : v = kV (kyK k) := by
  cases x <;> simp [kyOf] at e <;> subst e <;> simp only [Rep] at r
  · exact r.1
  · exact r.1
theorem reps_kys {K : PySem.W.Frag} {P : Program} {w : World} {H : Hp} : ∀ {xs : List PV} {vs : List V} {fp : List Addr} {ks : List Ky}, Reps K P w H xs vs fp → kysOf xs = some ks → vs = (ks.map kyK).map kV
  | [], vs, fp, ks, r, e => by simp [kysOf] at e; subst e; simp only [Reps] at r; rw [r.1]; rfl
  | x :: xs, vs, fp, ks, r, e => by
    simp only [Reps] at r
    obtain ⟨v, vr, f, g, e1, q, r, _⟩ := r
    simp only [kysOf] at e
    cases h1 : kyOf x with
    | none => rw [h1] at e; cases e
    | some k =>
      cases h2 : kysOf xs with
      | none => rw [h1, h2] at e; cases e
      | some kr =>
        rw [h1, h2] at e
        cases e
        rw [e1, rep_ky q h1, reps_kys r h2]
        rfl
theorem valV_zip {κ κ' : Type} [DecidableEq κ] [DecidableEq κ'] (f : κ → κ') (hf : ∀ a b, f a = f b → a = b) (k : κ) : ∀ (ks : List κ) (vs : List V), ks.length = vs.length →
    (valV ((ks.map f).zip vs) (f k)).isSome = decide (k ∈ ks)
  | [], [], _ => by simp [valV]
  | a :: ks, v :: vs, h => by
    by_cases e : a = k
    · subst e
      rw [List.map_cons, List.zip_cons_cons, valV_pos rfl]
      simp
    · rw [List.map_cons, List.zip_cons_cons, valV_neg (fun z => e (hf _ _ z)), valV_zip f hf k ks vs (by simpa using h)]
      simp [Ne.symm e]
theorem ops_in0 {X : Cx} (hu : X.A.units + 70 < cLine) : ∀ (pins : List (Addr × Obj)) (s : Shared) (σ : St) (H : Hp) (x y : V) (v u : Value) (Q : VK) (tx ty : PV) (b : Bool) (fx fy : List Addr), Inv X pins σ H s → RelV x v → RelV y u →
    Rep X.K X.prog X.w H tx x fx → Rep X.K X.prog X.w H ty y fy → inD tx ty = some b →
    (Q (.bl b) H → wpAny (model X.prog X.w) X.A (compareOp .In v u) (EP X pins σ Q) X.xe s) ∧ (Q (.bl (!b)) H → wpAny (model X.prog X.w) X.A (compareOp .NotIn v u) (EP X pins σ Q) X.xe s) := by
  intro pins s σ H x y v u Q tx ty b fx fy I rx ry r1 r2 e
  unfold inD at e
  have lists : ∀ ys, isDatas ys = true → isData tx = true → dep tx ≤ 64 → anyEq tx ys = b → ∀ a vs, y = .ref a → DpAll X.K H vs (toDs ys) → PyData.canLayAll0 (toDs ys) = true → (SqL X.K H a vs ∨ SqT X.K H a vs) →
      (Q (.bl b) H → wpAny (model X.prog X.w) X.A (compareOp .In v u) (EP X pins σ Q) X.xe s) ∧ (Q (.bl (!b)) H → wpAny (model X.prog X.w) X.A (compareOp .NotIn v u) (EP X pins σ Q) X.xe s) := by
    intro ys h1 h2 h3 h4 a vs ey hd hc hs
    obtain ⟨d1, l1⟩ := rep_dp tx x fx h2 r1
    obtain ⟨as, q1⟩ := Dp.reads I _ x v d1 rx
    subst ey
    have hdep : X.A.units + 1 + min (PyData.depthAll (toDs ys)) (toD tx).depth < cLine := by rw [dep_toD]; omega
    rcases hs with hs | hs
    · obtain ⟨bs, q2⟩ := Dp.reads I _ _ u (.lst hs hd) ry
      exact ⟨fun q => SeqAt.in_list_reads q2 q1 hc l1 hdep (by rw [anyEq_toD, h4]; exact ⟨.bl _, H, I, rfl, q⟩), fun q => SeqAt.notIn_list_reads q2 q1 hc l1 hdep (by rw [anyEq_toD, h4]; exact ⟨.bl _, H, I, rfl, q⟩)⟩
    · obtain ⟨bs, q2⟩ := Dp.reads I _ _ u (.tup hs hd) ry
      exact ⟨fun q => SeqAt.in_tuple_reads q2 q1 hc l1 hdep (by rw [anyEq_toD, h4]; exact ⟨.bl _, H, I, rfl, q⟩), fun q => SeqAt.notIn_tuple_reads q2 q1 hc l1 hdep (by rw [anyEq_toD, h4]; exact ⟨.bl _, H, I, rfl, q⟩)⟩
  split at e
  · rename_i ys
    split at e
    · rename_i h
      simp only [Bool.and_eq_true, decide_eq_true_eq] at h
      simp only [Rep] at r2
      obtain ⟨a, vs, f, ey, q, r, _⟩ := r2
      obtain ⟨z1, z2⟩ := reps_dp ys vs f h.1.2 r
      exact lists ys h.1.2 h.1.1 h.2 (Option.some.inj e) a vs ey z1 z2 (.inl (SqL.of q))
    · cases e
  · rename_i ys
    split at e
    · rename_i h
      simp only [Bool.and_eq_true, decide_eq_true_eq] at h
      simp only [Rep] at r2
      obtain ⟨_, a, vs, ey, q, r⟩ := r2
      obtain ⟨z1, z2⟩ := reps_dp ys vs [] h.1.2 r
      exact lists ys h.1.2 h.1.1 h.2 (Option.some.inj e) a vs ey z1 z2 (.inl q.sq)
    · cases e
  · rename_i ys
    split at e
    · rename_i h
      simp only [Bool.and_eq_true, decide_eq_true_eq] at h
      simp only [Rep] at r2
      obtain ⟨a, vs, ey, q, r⟩ := r2
      obtain ⟨z1, z2⟩ := reps_dp ys vs fy h.1.2 r
      exact lists ys h.1.2 h.1.1 h.2 (Option.some.inj e) a vs ey z1 z2 (.inr (SqT.of q))
    · cases e
  · rename_i us
    split at e
    · rename_i ss
      simp only [Rep] at r1 r2
      obtain ⟨e1, _⟩ := r1
      obtain ⟨e2, _⟩ := r2
      cases e
      exact ⟨fun q => op_in_str pins s σ H x y v u Q I rx ry ⟨mkS ss, mkS us, e1, e2, by rw [occ_isSub]; exact q⟩, fun q => op_notIn_str pins s σ H x y v u Q I rx ry ⟨mkS ss, mkS us, e1, e2, by rw [occ_isSub]; exact q⟩⟩
    · cases e
  · rename_i ks xs
    cases hk : kyOf tx with
    | none => rw [hk] at e; cases e
    | some k =>
      rw [hk] at e; cases e
      have ex := rep_ky r1 hk
      simp only [Rep] at r2
      obtain ⟨a, vs, f, ey, hl, q, r, _⟩ := r2
      subst ey
      obtain rfl : u = Value.ref a := ry
      have g : DGet H a x (valV ((ks.map kyK).zip vs) (kyK k)) := .inl ⟨_, _, .inl q, ex, rfl⟩
      have hz := valV_zip kyK (fun _ _ => kyK_inj) k ks vs (by rw [r.length]; exact hl)
      exact ⟨fun q => d_in (by omega) I g rx fun s3 I3 => ⟨.bl _, H, I3, rfl, by rw [hz]; exact q⟩, fun q => d_notIn (by omega) I g rx fun s3 I3 => ⟨.bl _, H, I3, rfl, by rw [hz]; exact q⟩⟩
  · rename_i ks xs
    cases hk : ktOf tx with
    | none => rw [hk] at e; cases e
    | some k =>
      rw [hk] at e; cases e
      have hx : ∃ zs, tx = .tup zs ∧ kysOf zs = some k := by cases tx <;> simp [ktOf] at hk; exact ⟨_, rfl, hk⟩
      obtain ⟨zs, rfl, hk⟩ := hx
      simp only [Rep] at r1 r2
      obtain ⟨c, ws, ex, qc, rc⟩ := r1
      have ews := reps_kys rc hk
      obtain ⟨a, vs, f, ey, hl, q, r, _⟩ := r2
      subst ey
      obtain rfl : u = Value.ref a := ry
      have g : DGet H a x (valV ((ks.map (·.map kyK)).zip vs) (k.map kyK)) := .inr ⟨_, _, c, .inl q, ex, by rw [qc, ews], rfl⟩
      have hz : (valV ((ks.map (·.map kyK)).zip vs) (k.map kyK)).isSome = (fun k => decide (k ∈ ks)) k := by
        have h0 := valV_zip (fun z : List Ky => z.map kyK) (fun _ _ => kyKs_inj) k ks vs (by rw [r.length]; exact hl)
        rw [h0]
        exact decide_eq_decide.mpr Iff.rfl
      exact ⟨fun q => d_in (by omega) I g rx fun s3 I3 => ⟨.bl _, H, I3, rfl, by rw [hz]; exact q⟩, fun q => d_notIn (by omega) I g rx fun s3 I3 => ⟨.bl _, H, I3, rfl, by rw [hz]; exact q⟩⟩
  · rename_i ks
    cases hk : kyOf tx with
    | none => rw [hk] at e; cases e
    | some k =>
      rw [hk] at e; cases e
      have ex := rep_ky r1 hk
      simp only [Rep] at r2
      obtain ⟨a, ey, nd, q, _⟩ := r2
      have hb : (ks.any fun j => decide (kyK j = kyK k)) = decide (k ∈ ks) := by
        rw [Bool.eq_iff_iff]
        simp only [List.any_eq_true, decide_eq_true_eq]
        constructor
        · rintro ⟨j, h1, h2⟩; rw [← kyK_inj h2]; exact h1
        · intro h; exact ⟨k, h, rfl⟩
      · exact ⟨fun q' => or_sinK pins s σ H x y v u Q I rx ry ⟨kyK k, a, _, _, ex, ey, q, by simp only [Bool.false_eq_true, if_false]; rw [hb]; exact q'⟩,
          fun q' => or_snotinK pins s σ H x y v u Q I rx ry ⟨kyK k, a, _, _, ex, ey, q, by simp only [if_true]; rw [hb]; exact q'⟩⟩
  · cases e
theorem ops_in {X : Cx} (hu : X.A.units + 70 < cLine) : OpS X (compareOp .In) gIn := by
  intro pins s σ H x y v u Q tx ty t k fx fy I rx ry r1 r2 e q
  unfold gIn at e
  cases h : inD tx ty with
  | none => rw [h] at e; cases e
  | some b =>
    rw [h] at e; cases e
    exact (ops_in0 hu pins s σ H x y v u Q tx ty b fx fy I rx ry r1 r2 h).1 (q _ H .refl fun _ => repK_bl)
theorem ops_nin {X : Cx} (hu : X.A.units + 70 < cLine) : OpS X (compareOp .NotIn) gNin := by
  intro pins s σ H x y v u Q tx ty t k fx fy I rx ry r1 r2 e q
  unfold gNin at e
  cases h : inD tx ty with
  | none => rw [h] at e; cases e
  | some b =>
    rw [h] at e; cases e
    exact (ops_in0 hu pins s σ H x y v u Q tx ty b fx fy I rx ry r1 r2 h).2 (q _ H .refl fun _ => repK_bl)
end Pv
namespace Pv
open PySem PySem.Spec L2

/-! ### subscripts -/
/-- as r2S, the operands' kinds kept: for operators that hand on a part -/
@[simp] def gIdx (k : Kd) : PV → PV → Option (Kd × PV) := fun x y => match x with
  | .lst xs => match y with | .int i => (atI xs i).map fun t => (kdOf t k, t) | _ => none
  | .fz xs => match y with | .int i => (atI xs i).map fun t => (kdOf t .shr, t) | _ => none
  | .tup xs => match y with | .int i => (atI xs i).map fun t => (kdOf t k, t) | _ => none
  | .str s => match y with | .int i => (atI s i).map fun c => (.own, .str [c]) | _ => none
  | .dK ks vs => (kyOf y).bind fun q => (getKV q ks vs).map fun t => (kdOf t k, t)
  | .dT ks vs => (ktOf y).bind fun q => (getKV q ks vs).map fun t => (kdOf t k, t)
  | _ => none
def eIdx (a b : PX) : PX := fun τ => (a τ).bind fun x => (b τ).bind fun y => gIdx x.1 x.2 y.2

theorem ix_dict {X : Cx} (hu : X.A.units + 1 < cLine) : IxR X (fun x y H Q => ∃ a v, x = .ref a ∧ DGet H a y (some v) ∧ Q v H) := by
  intro value slice pins s σ H x y v u Q I rx ry h hs
  obtain ⟨a, z, ex, g, q⟩ := h
  subst ex
  obtain rfl : v = Value.ref a := rx
  have hT := dict_typeIs I g
  unfold PyProof.Rows.subscriptTail
  refine wpAny_bind ?_
  rw [getitemInPython_of_ne hT.not_modules]
  refine wpAny_bind (wpAny_specialOf hT PySem.F.slot_dict_getitem.lookup ?_)
  have fin : wpAny (model X.prog X.w) X.A (subscripted slice false (.ref a) u) (fun r s₃ => wpAny (model X.prog X.w) X.A (letTemporaryGo value (.ref a) r >>= fun _ => pure r) (EP X pins σ Q) X.xe s₃) X.xe s := by
    rw [hs]
    exact wpAny_operating (wpAny_mono (d_getItem (Q := EP X pins σ Q) hu I g ry fun w' s3 I3 rw' => ⟨z, H, I3, rw', q⟩) (fun r s₃ h₃ => wpAny_bind (wpAny_letTemporaryGo (wpAny_pure h₃))) fun _ _ x => x)
  first
    | exact wpAny_pure (wpAny_bind fin)
    | exact wpAny_bind (wpAny_pure (wpAny_bind fin))
    | exact wpAny_bind fin

section
variable {K : PySem.W.Frag} {P : Program} {w : World} {H H0 H' : Hp} {O : Nat → List Addr}
theorem Reps.atI {xs : List PV} {vs : List V} {fp : List Addr} {i : Int} {t : PV} (r : Reps K P w H xs vs fp) (h : atI xs i = some t) : ∃ v f, L2.atI vs i = some v ∧ Rep K P w H t v f ∧ (∀ a ∈ f, a ∈ fp) ∧ (fp.Nodup → f.Nodup) := by
  unfold L2.atI at h ⊢
  rw [r.length]
  cases e : ixN xs.length i with
  | none => rw [e] at h; cases h
  | some j =>
    rw [e] at h
    exact r.get h
/-- a part of a result is a result -/
theorem RepK.part {k : Kd} {t u : PV} {v z : V} (h : RepK K P w O H0 H' k t v) (p : ∀ fp, Rep K P w H' t v fp → ∃ f, Rep K P w H' u z f ∧ (∀ a ∈ f, a ∈ fp) ∧ (fp.Nodup → f.Nodup)) : RepK K P w O H0 H' k u z := by
  cases k with
  | own =>
    obtain ⟨fp, r, n, m⟩ := h
    obtain ⟨f, r', s, d⟩ := p fp r
    exact ⟨f, r', d n, fun a ha => m a (s a ha)⟩
  | shr =>
    obtain ⟨fp, r, n⟩ := h
    obtain ⟨f, r', s, d⟩ := p fp r
    exact ⟨f, r', fun a ha => n a (s a ha)⟩
  | view =>
    obtain ⟨fp, r⟩ := h
    obtain ⟨f, r', s, d⟩ := p fp r
    exact ⟨f, r'⟩
theorem getKV_get {κ κ' : Type} [DecidableEq κ] [DecidableEq κ'] (f : κ → κ') (hf : ∀ a b, f a = f b → a = b) {k : κ} {t : PV} : ∀ {ks : List κ} {xs : List PV} {vs : List V} {fp : List Addr}, Reps K P w H xs vs fp → getKV k ks xs = some t →
    ∃ v g, valV ((ks.map f).zip vs) (f k) = some v ∧ Rep K P w H t v g ∧ (∀ a ∈ g, a ∈ fp) ∧ (fp.Nodup → g.Nodup)
  | [], xs, vs, fp, r, e => by cases xs <;> simp [getKV] at e
  | a :: ks, [], vs, fp, r, e => by simp [getKV] at e
  | a :: ks, x :: xs, vs, fp, r, e => by
    simp only [Reps] at r
    obtain ⟨v, vr, g, h, e1, q, r, ef⟩ := r
    subst e1; subst ef
    simp only [getKV] at e
    split at e
    · rename_i e0
      subst e0
      cases e
      exact ⟨v, g, by rw [List.map_cons, List.zip_cons_cons, valV_pos rfl], q, fun a ha => List.mem_append_left _ ha, fun n => (List.nodup_append.mp n).1⟩
    · rename_i e0
      obtain ⟨v', g', h1, h2, h3, h4⟩ := getKV_get f hf r e
      exact ⟨v', g', by rw [List.map_cons, List.zip_cons_cons, valV_neg (fun z => e0 (hf _ _ z))]; exact h1, h2, fun a ha => List.mem_append_right _ (h3 a ha), fun n => h4 (List.nodup_append.mp n).2.1⟩
end

theorem rd_dK {H : Hp} {a : Addr} {x y : List (Key × V)} (h : Rd H a (.dK x)) (h' : Rd H a (.dK y)) : x = y := by
  rcases h with h | ⟨o, h⟩ <;> rcases h' with h' | ⟨o', h'⟩
  · exact HO.dK.inj (Option.some.inj (h.symm.trans h'))
  · exact nomatch Option.some.inj (h.symm.trans h')
  · exact nomatch Option.some.inj (h.symm.trans h')
  · have := Option.some.inj (h.symm.trans h')
    injection this with _ z
    injection z
theorem rd_dT {H : Hp} {a : Addr} {x y : List (List Key × V)} (h : Rd H a (.dT x)) (h' : Rd H a (.dT y)) : x = y := by
  rcases h with h | ⟨o, h⟩ <;> rcases h' with h' | ⟨o', h'⟩
  · exact HO.dT.inj (Option.some.inj (h.symm.trans h'))
  · exact nomatch Option.some.inj (h.symm.trans h')
  · exact nomatch Option.some.inj (h.symm.trans h')
  · have := Option.some.inj (h.symm.trans h')
    injection this with _ z
    injection z
def rIxA (K : PySem.W.Frag) : R2 := fun x y H Q => (rIxL K x y H Q ∨ rIxT K x y H Q) ∨ rIxS x y H Q ∨ (∃ a v, x = .ref a ∧ DGet H a y (some v) ∧ Q v H)
theorem ix_all {X : Cx} (hu : X.A.units + 1 < cLine) : IxR X (rIxA X.K) := IxR.or (IxR.or ix_list ix_tup) (IxR.or ix_str (ix_dict hu))
theorem gIdx_ok {K : PySem.W.Frag} {P : Program} {w : World} {O : Nat → List Addr} {H0 H2 : Hp} {k k' : Kd} {tx ty t : PV} {x y : V} {fy : List Addr} {Q : VK} (r1 : RepK K P w O H0 H2 k tx x) (r2 : Rep K P w H2 ty y fy) (e : gIdx k tx ty = some (k', t))
    (q : ∀ z, RepK K P w O H0 H2 k' t z → Q z H2) : rIxA K x y H2 Q := by
  unfold gIdx at e
  split at e
  · rename_i xs
    split at e
    · rename_i i
      cases h : atI xs i with
      | none => rw [h] at e; cases e
      | some u =>
        rw [h] at e; cases e
        obtain ⟨fp, r⟩ := r1.any
        simp only [Rep] at r r2
        obtain ⟨a, vs, f, ex, hl, rs, ef⟩ := r
        obtain ⟨z, g, ez, rz, _, _⟩ := rs.atI h
        refine .inl (.inl ⟨a, vs, i, z, ex, r2.1, SqL.of hl, ez, q z (repK_kd (r1.part fun fp' r' => ?_))⟩)
        simp only [Rep] at r'
        obtain ⟨a', vs', f', ex', hl', rs', ef'⟩ := r'
        subst ex; cases ex'
        rw [hl] at hl'; cases hl'
        obtain ⟨z', g', ez', rz', s1, s2⟩ := rs'.atI h
        rw [ez] at ez'; cases ez'
        subst ef'
        exact ⟨g', rz', fun b hb => List.mem_cons_of_mem _ (s1 b hb), fun n => s2 (List.nodup_cons.mp n).2⟩
    · cases e
  · rename_i xs
    split at e
    · rename_i i
      cases h : atI xs i with
      | none => rw [h] at e; cases e
      | some u =>
        rw [h] at e; cases e
        obtain ⟨fp, r⟩ := r1.any
        simp only [Rep] at r r2
        obtain ⟨_, a, vs, ex, hl, rs⟩ := r
        obtain ⟨z, g, ez, rz, s1, _⟩ := rs.atI h
        refine .inl (.inl ⟨a, vs, i, z, ex, r2.1, hl.sq, ez, q z (repK_kd (k := .shr) ⟨g, rz, fun b hb => nomatch s1 b hb⟩)⟩)
    · cases e
  · rename_i xs
    split at e
    · rename_i i
      cases h : atI xs i with
      | none => rw [h] at e; cases e
      | some u =>
        rw [h] at e; cases e
        obtain ⟨fp, r⟩ := r1.any
        simp only [Rep] at r r2
        obtain ⟨a, vs, ex, hl, rs⟩ := r
        obtain ⟨z, g, ez, rz, _, _⟩ := rs.atI h
        refine .inl (.inr ⟨a, vs, i, z, ex, r2.1, SqT.of hl, ez, q z (repK_kd (r1.part fun fp' r' => ?_))⟩)
        simp only [Rep] at r'
        obtain ⟨a', vs', ex', hl', rs'⟩ := r'
        subst ex; cases ex'
        rw [hl] at hl'; cases hl'
        obtain ⟨z', g', ez', rz', s1, s2⟩ := rs'.atI h
        rw [ez] at ez'; cases ez'
        exact ⟨g', rz', s1, s2⟩
    · cases e
  · rename_i s
    split at e
    · rename_i i
      cases h : atI s i with
      | none => rw [h] at e; cases e
      | some u =>
        rw [h] at e; cases e
        obtain ⟨fp, r⟩ := r1.any
        simp only [Rep] at r r2
        have hu : u ∈ s := by
          unfold atI at h
          cases h2 : ixN s.length i with
          | none => rw [h2] at h; cases h
          | some j => rw [h2] at h; exact List.mem_of_getElem? h
        refine .inr (.inl ⟨mkS s, i, u, r.1, r2.1, by rw [mkS_len]; exact r.2.1.1, by rw [mkS_toList]; exact h, ?_⟩)
        exact q (.str (mkS [u])) (repK_str (r.2.1.sub (by have := List.length_pos_of_mem hu; show 1 ≤ s.length; omega) fun c hc => by simp at hc; rw [hc]; exact hu))
    · cases e
  · rename_i ks xs
    cases hk : kyOf ty with
    | none => rw [hk] at e; cases e
    | some ky =>
      rw [hk] at e
      simp only [Option.bind_some] at e
      cases h : getKV ky ks xs with
      | none => rw [h] at e; cases e
      | some u =>
        rw [h] at e; cases e
        obtain ⟨fp, r⟩ := r1.any
        have ey := rep_ky r2 hk
        simp only [Rep] at r
        obtain ⟨a, vs, f, ex, hl, hr, rs, ef⟩ := r
        obtain ⟨z, g, ez, rz, _, _⟩ := getKV_get kyK (fun _ _ => kyK_inj) rs h
        refine .inr (.inr ⟨a, z, ex, .inl ⟨_, _, .inl hr, ey, ez.symm⟩, q z (repK_kd (r1.part fun fp' r' => ?_))⟩)
        simp only [Rep] at r'
        obtain ⟨a', vs', f', ex', hl', hr', rs', ef'⟩ := r'
        subst ex; cases ex'
        have ev : (ks.map kyK).zip vs = (ks.map kyK).zip vs' := by
          exact rd_dK (.inl hr) (.inl hr')
        obtain ⟨z', g', ez', rz', s1, s2⟩ := getKV_get kyK (fun _ _ => kyK_inj) rs' h
        rw [← ev, ez] at ez'; cases ez'
        subst ef'
        exact ⟨g', rz', fun b hb => List.mem_cons_of_mem _ (s1 b hb), fun n => s2 (List.nodup_cons.mp n).2⟩
  · rename_i ks xs
    cases hk : ktOf ty with
    | none => rw [hk] at e; cases e
    | some ky =>
      rw [hk] at e
      simp only [Option.bind_some] at e
      cases h : getKV ky ks xs with
      | none => rw [h] at e; cases e
      | some u =>
        rw [h] at e; cases e
        obtain ⟨fp, r⟩ := r1.any
        have hx : ∃ zs, ty = .tup zs ∧ kysOf zs = some ky := by cases ty <;> simp [ktOf] at hk; exact ⟨_, rfl, hk⟩
        obtain ⟨zs, rfl, hk⟩ := hx
        simp only [Rep] at r r2
        obtain ⟨c, ws, ey, qc, rc⟩ := r2
        have ews := reps_kys rc hk
        obtain ⟨a, vs, f, ex, hl, hr, rs, ef⟩ := r
        obtain ⟨z, g, ez, rz, _, _⟩ := getKV_get (fun z : List Ky => z.map kyK) (fun _ _ => kyKs_inj) rs h
        refine .inr (.inr ⟨a, z, ex, .inr ⟨_, _, c, .inl hr, ey, by rw [qc, ews], ez.symm⟩, q z (repK_kd (r1.part fun fp' r' => ?_))⟩)
        simp only [Rep] at r'
        obtain ⟨a', vs', f', ex', hl', hr', rs', ef'⟩ := r'
        subst ex; cases ex'
        have ev : (ks.map (·.map kyK)).zip vs = (ks.map (·.map kyK)).zip vs' := by
          exact rd_dT (.inl hr) (.inl hr')
        obtain ⟨z', g', ez', rz', s1, s2⟩ := getKV_get (fun z : List Ky => z.map kyK) (fun _ _ => kyKs_inj) rs' h
        rw [← ev, ez] at ez'; cases ez'
        subst ef'
        exact ⟨g', rz', fun b hb => List.mem_cons_of_mem _ (s1 b hb), fun n => s2 (List.nodup_cons.mp n).2⟩
  · cases e
theorem snd_idx {C : Cn} {a b : Expr} {fa fb : PX} {pos : Pos} (ha : SndP C a fa) (hb : SndP C b fb) (hs : PlainIx b := by exact fun _ _ => rfl) : SndP C (.Subscript a b pos) (eIdx fa fb) := by
  intro X G
  refine PE.weak (pe_ix (ix_all (by have := G.un; omega)) (ha X G) (hb X G) hs) fun σ H Q h => ?_
  obtain ⟨τ, O, S, k, t, e, q⟩ := h
  unfold eIdx at e
  cases ea : fa τ with
  | none => rw [ea] at e; cases e
  | some x =>
    rw [ea] at e
    simp only [Option.bind_some] at e
    cases eb : fb τ with
    | none => rw [eb] at e; cases e
    | some y =>
      rw [eb] at e
      simp only [Option.bind_some] at e
      refine gP.mono S ea fun v1 H1 x1 S1 r1 => gP.mono S1 eb fun v2 H2 x2 S2 r2 => ?_
      obtain ⟨f2, r2⟩ := r2.any
      exact gIdx_ok (r1.ex x2) r2 e fun z rz => q z H2 (x1.trans x2) rz

/-! ### slices -/
def eNP : En → Option (Option Int) := fun _ => some none
def eSP (a : PX) : En → Option (Option Int) := fun τ => (a τ).bind fun x => match x.2 with | .int i => some (some i) | _ => none
def genO (K : PySem.W.Frag) (P : Program) (w : World) (f : En → Option (Option Int)) : TO := fun σ H Q => ∃ τ O, StR K P w τ σ H O ∧ ∃ o, f τ = some o ∧ ∀ H', Ex H H' → Q o H'
def SndO (C : Cn) (e : Option Expr) (f : En → Option (Option Int)) : Prop := ∀ X, Gd C X → PO X e (genO X.K X.prog X.w f)
theorem PO.weak {X : Cx} {e : Option Expr} {t u : TO} (h : PO X e t) (i : ∀ σ H Q, u σ H Q → t σ H Q) : PO X e u := ⟨fun pins s σ H Q I q => h.run pins s σ H Q I (i σ H Q q)⟩
theorem sno_none {C : Cn} : SndO C none eNP := fun X G => PO.weak po_none fun σ H Q h => by
  obtain ⟨τ, O, S, o, e, q⟩ := h
  cases e
  exact q H .refl
theorem sno_some {C : Cn} {e : Expr} {f : PX} (h : SndP C e f) : SndO C (some e) (eSP f) := fun X G => PO.weak (po_some (h X G)) fun σ H Q h => by
  obtain ⟨τ, O, S, o, e, q⟩ := h
  unfold eSP at e
  cases ea : f τ with
  | none => rw [ea] at e; cases e
  | some x =>
    rw [ea] at e
    simp only [Option.bind_some] at e
    refine gP.mono S ea fun v1 H1 x1 S1 r1 => ?_
    obtain ⟨f1, r1⟩ := r1.any
    split at e
    · rename_i i hi
      rw [hi] at r1
      simp only [Rep] at r1
      cases e
      exact ⟨i, r1.1, q H1 x1⟩
    · cases e
def cutL {α : Type} (xs : List α) (lo hi : Option Int) : List α := (xs.drop (HT.sIx xs.length 0 lo)).take (HT.sIx xs.length xs.length hi - HT.sIx xs.length 0 lo)
def gSl (x : PV) (lo hi : Option Int) : Option (Kd × PV) := match x with
  | .str s => some (.own, .str (cutL s lo hi))
  | .lst xs => some (if imms (cutL xs lo hi) then .own else .view, .lst (cutL xs lo hi))
  | .fz xs => some (if imms (cutL xs lo hi) then .own else .view, .lst (cutL xs lo hi))
  | .tup xs => some (kdOf (.tup (cutL xs lo hi)) .view, .tup (cutL xs lo hi))
  | _ => none
def eSl (a : PX) (lo hi : En → Option (Option Int)) : PX := fun τ => (a τ).bind fun x => (lo τ).bind fun l => (hi τ).bind fun h => gSl x.2 l h
section
variable {K : PySem.W.Frag} {P : Program} {w : World} {H H0 H' : Hp} {O : Nat → List Addr}
theorem Reps.drop : ∀ (n : Nat) {xs : List PV} {vs : List V} {fp : List Addr}, Reps K P w H xs vs fp → ∃ g, Reps K P w H (xs.drop n) (vs.drop n) g
  | 0, xs, vs, fp, r => ⟨fp, r⟩
  | n + 1, [], vs, fp, r => by simp only [Reps] at r; rw [r.1]; exact ⟨[], by simp [Reps]⟩
  | n + 1, x :: xs, vs, fp, r => by
    simp only [Reps] at r
    obtain ⟨v, vr, g, h, e1, q, r, ef⟩ := r
    subst e1
    exact Reps.drop n r
theorem Reps.take : ∀ (n : Nat) {xs : List PV} {vs : List V} {fp : List Addr}, Reps K P w H xs vs fp → ∃ g, Reps K P w H (xs.take n) (vs.take n) g
  | 0, xs, vs, fp, r => ⟨[], by simp [Reps]⟩
  | n + 1, [], vs, fp, r => by simp only [Reps] at r; rw [r.1]; exact ⟨[], by simp [Reps]⟩
  | n + 1, x :: xs, vs, fp, r => by
    simp only [Reps] at r
    obtain ⟨v, vr, g, h, e1, q, r, ef⟩ := r
    subst e1
    obtain ⟨g', r'⟩ := Reps.take n r
    exact ⟨g ++ g', Reps.cons q r'⟩
theorem Reps.cut {xs : List PV} {vs : List V} {fp : List Addr} (lo hi : Option Int) (r : Reps K P w H xs vs fp) : ∃ g, Reps K P w H (cutL xs lo hi) (cutV vs lo hi) g := by
  unfold cutL cutV
  rw [r.length]
  obtain ⟨g, r1⟩ := r.drop (HT.sIx xs.length 0 lo)
  exact r1.take _
end
theorem cut_all {α : Type} {xs : List α} {lo hi : Option Int} (h : HT.sIx xs.length 0 lo = 0 ∧ HT.sIx xs.length xs.length hi = xs.length) : cutL xs lo hi = xs := by
  unfold cutL
  rw [h.1, h.2]
  simp
theorem snd_sl {C : Cn} {a : Expr} {lo hi : Option Expr} {fa : PX} {fl fh : En → Option (Option Int)} {pos p2 : Pos} (ha : SndP C a fa) (hl : SndO C lo fl) (hh : SndO C hi fh) : SndP C (.Subscript a (.Slice lo hi none p2) pos) (eSl fa fl fh) := by
  intro X G
  refine PE.weak (pe_slice (SlR.or sl_str (SlR.or sl_list sl_tupA)) (ha X G) (hl X G) (hh X G)) fun σ H Q h => ?_
  obtain ⟨τ, O, S, k, t, e, q⟩ := h
  unfold eSl at e
  cases ea : fa τ with
  | none => rw [ea] at e; cases e
  | some x =>
    rw [ea] at e
    simp only [Option.bind_some] at e
    cases el : fl τ with
    | none => rw [el] at e; cases e
    | some l =>
      rw [el] at e
      simp only [Option.bind_some] at e
      cases eh : fh τ with
      | none => rw [eh] at e; cases e
      | some u =>
        rw [eh] at e
        simp only [Option.bind_some] at e
        refine gP.mono S ea fun v1 H1 x1 S1 r1 => ⟨τ, O, S1, l, el, fun H2 x2 => ⟨τ, O, S1.ex x2, u, eh, fun H3 x3 => ?_⟩⟩
        obtain ⟨f1, r1⟩ := r1.any
        have r1 := r1.ex (x2.trans x3)
        have xx : Ex H H3 := x1.trans (x2.trans x3)
        unfold gSl at e
        split at e
        · rename_i s hs
          rw [hs] at r1
          simp only [Rep] at r1
          cases e
          refine .inl ⟨mkS s, r1.1, by rw [mkS_len]; exact r1.2.1.1, ?_⟩
          have : cutS (mkS s) l u = mkS (cutL s l u) := by unfold cutS cutL mkS; simp [Str.length]
          rw [this]
          refine q _ H3 xx (repK_str (r1.2.1.sub ?_ fun c hc => ?_))
          · unfold cutL; rw [List.length_take, List.length_drop]; omega
          · unfold cutL at hc; exact List.mem_of_mem_drop (List.mem_of_mem_take hc)
        · rename_i xs hs
          rw [hs] at r1
          simp only [Rep] at r1
          cases e
          obtain ⟨a, vs, f, ex, hl, rs, ef⟩ := r1
          obtain ⟨g, rg⟩ := rs.cut l u
          exact .inr (.inl ⟨a, vs, ex, SqL.of hl, fun p hp => q _ _ (xx.trans (Ex.upd hp)) ((repK_lst rg hp rfl).back xx)⟩)
        · rename_i xs hs
          rw [hs] at r1
          simp only [Rep] at r1
          cases e
          obtain ⟨_, a, vs, ex, hl, rs⟩ := r1
          obtain ⟨g, rg⟩ := rs.cut l u
          exact .inr (.inl ⟨a, vs, ex, hl.sq, fun p hp => q _ _ (xx.trans (Ex.upd hp)) ((repK_lst rg hp rfl).back xx)⟩)
        · rename_i xs hs
          rw [hs] at r1
          simp only [Rep] at r1
          cases e
          obtain ⟨a, vs, ex, hl, rs⟩ := r1
          obtain ⟨g, rg⟩ := rs.cut l u
          refine .inr (.inr ⟨a, vs, ex, SqT.of hl, fun hall => ?_, fun _ p hp => q _ _ (xx.trans (Ex.upd hp)) ((repK_tup rg hp).back xx)⟩)
          rw [rs.length] at hall
          rw [cut_all hall] at q
          refine q _ H3 xx (repK_kd (k := .view) ⟨f1, ?_⟩)
          simp only [Rep]
          exact ⟨a, vs, rfl, hl, rs⟩
        · cases e
end Pv
namespace Pv
open PySem PySem.Spec L2

/-! ### truth, tests -/
@[simp] def tru : PV → Option Bool
  | .non => some false
  | .bl b => some b
  | .int i => some (i != 0)
  | .str s => some (!s.isEmpty)
  | .lst xs => some (!xs.isEmpty)
  | .fz xs => some (!xs.isEmpty)
  | .tup xs => some (!xs.isEmpty)
  | _ => none
theorem isEmpty_len {α β : Type} {xs : List α} {ys : List β} (h : xs.length = ys.length) : xs.isEmpty = ys.isEmpty := by
  cases xs <;> cases ys <;> simp at h ⊢
theorem tru_ok' {K : PySem.W.Frag} {P : Program} {w : World} {H : Hp} {t : PV} {v : V} {fp : List Addr} {b : Bool} (r : Rep K P w H t v fp) (e : tru t = some b) : TruV K v H b := by
  cases t <;> simp only [tru, Option.some.injEq, reduceCtorEq] at e <;> subst e <;> simp only [Rep] at r
  · rw [r.1]; rfl
  · rw [r.1]; rfl
  · rw [r.1]; rfl
  · rename_i s
    rw [r.1]
    refine ⟨by rw [mkS_len]; exact r.2.1.1, ?_⟩
    rw [mkS_len]
    cases s with
    | nil => rfl
    | cons c s =>
      rw [List.length_cons]
      show true = _
      symm
      simp only [bne_iff_ne, ne_eq]
      omega
  · obtain ⟨a, vs, f, e, h, r, _⟩ := r
    rw [e]
    exact .inl ⟨vs, SqL.of h, by rw [isEmpty_len r.length]⟩
  · obtain ⟨a, vs, e, h, r⟩ := r
    rw [e]
    exact .inr (.inl ⟨vs, SqT.of h, by rw [isEmpty_len r.length]⟩)
  · obtain ⟨_, a, vs, e, h, r⟩ := r
    rw [e]
    exact .inl ⟨vs, h.sq, by rw [isEmpty_len r.length]⟩

abbrev TX := En → Option Bool
def genT (K : PySem.W.Frag) (P : Program) (w : World) (f : TX) : TT := fun σ H Q => ∃ τ O, StR K P w τ σ H O ∧ ∃ b, f τ = some b ∧ ∀ H', Ex H H' → Q b H'
abbrev gT (X : Cx) (f : TX) : TT := genT X.K X.prog X.w f
def SndT (C : Cn) (e : Expr) (f : TX) : Prop := ∀ X, Gd C X → PT X e (gT X f)
def SndW (C : Cn) (e : Expr) (f : TX) : Prop := ∀ X, Gd C X → PW X e (gT X f)
theorem gT.mono {K : PySem.W.Frag} {P : Program} {w : World} {f : TX} {τ : En} {σ : St} {H : Hp} {O : Nat → List Addr} {b : Bool} {Q : Bool → Hp → Prop} (S : StR K P w τ σ H O) (e : f τ = some b)
    (h : ∀ H', Ex H H' → StR K P w τ σ H' O → Q b H') : genT K P w f σ H Q := ⟨τ, O, S, b, e, fun H' x => h H' x (S.ex x)⟩
def eTru (f : PX) : TX := fun τ => (f τ).bind fun x => tru x.2
/-- an expression as a test -/
theorem snt_val {C : Cn} {e : Expr} {f : PX} (h : SndP C e f) (he : ∀ env whole, isTrue e env whole = (do let v ← whole; standAt e.pos; holding [v] (truthy v)) := by exact fun _ _ => rfl) : SndT C e (eTru f) := fun X G =>
  PT.weak (pt_truth (h X G) (he X.env)) fun σ H Q q => by
    obtain ⟨τ, O, S, b, e, q⟩ := q
    unfold eTru at e
    cases ea : f τ with
    | none => rw [ea] at e; cases e
    | some x =>
      rw [ea] at e
      simp only [Option.bind_some] at e
      refine gP.mono S ea fun v1 H1 x1 S1 r1 => ?_
      obtain ⟨f1, r1⟩ := r1.any
      exact ⟨b, tru_ok' r1 e, q H1 x1⟩
/-- a comparison as a test -/
def eTrB (f : PX) : TX := fun τ => (f τ).bind fun x => match x.2 with | .bl b => some b | _ => none
theorem snt_cmp {C : Cn} {a b : Expr} {op : CmpOp} {fa fb : PX} {g : PV → PV → Option (Kd × PV)} {pos : Pos} (ho : ∀ X, Gd C X → OpS X (compareOp op) g) (ha : SndP C a fa) (hb : SndP C b fb) (hm : behindInMarks op b = false := by rfl) :
    SndT C (.Compare a [op] [b] pos) (eTrB (eBin g fa fb)) := fun X G =>
  PT.weak (pt_cmpR (ho X G).op (ha X G) (hb X G) hm) fun σ H Q q => by
    obtain ⟨τ, O, S, b, e, q⟩ := q
    unfold eTrB at e
    cases ea : eBin g fa fb τ with
    | none => rw [ea] at e; cases e
    | some x =>
      rw [ea] at e
      simp only [Option.bind_some] at e
      split at e
      · rename_i c hc
        cases e
        refine gP.two (X := X) (g := g) ⟨τ, O, S, x.1, x.2, ea, fun v H' x' r => ?_⟩
        rw [hc] at r
        obtain ⟨fp, r⟩ := r.any
        simp only [Rep] at r
        exact ⟨_, r.1, q H' x'⟩
      · cases e
def tNotC (f : TX) : TX := fun τ => (f τ).map (!·)
def tAndC (f g : TX) : TX := fun τ => (f τ).bind fun b => if b then g τ else some false
def tOrC (f g : TX) : TX := fun τ => (f τ).bind fun b => if b then some true else g τ
theorem snt_not {C : Cn} {e : Expr} {f : TX} {pos : Pos} (h : SndT C e f) : SndT C (.UnaryOp .Not e pos) (tNotC f) := fun X G =>
  PT.weak (pt_not (h X G)) fun σ H Q q => by
    obtain ⟨τ, O, S, b, e, q⟩ := q
    unfold tNotC at e
    cases ea : f τ with
    | none => rw [ea] at e; cases e
    | some x =>
      rw [ea] at e; cases e
      exact gT.mono S ea fun H' x' _ => q H' x'
theorem snt_w {C : Cn} {e : Expr} {f : TX} (h : SndW C e f) : SndT C e f := fun X G => (h X G).pt
theorem snw_and1 {C : Cn} {e : Expr} {f : TX} {pos : Pos} (h : SndT C e f) : SndW C (.BoolOp .And [e] pos) f := fun X G => pw_and1 (h X G)
theorem snw_or1 {C : Cn} {e : Expr} {f : TX} {pos : Pos} (h : SndT C e f) : SndW C (.BoolOp .Or [e] pos) f := fun X G => pw_or1 (h X G)
theorem snw_and {C : Cn} {a b : Expr} {rest : List Expr} {f g : TX} {pos : Pos} (ha : SndT C a f) (hb : SndW C (.BoolOp .And (b :: rest) pos) g) : SndW C (.BoolOp .And (a :: b :: rest) pos) (tAndC f g) := fun X G =>
  PW.weak (pw_and (ha X G) (hb X G)) fun σ H Q q => by
    obtain ⟨τ, O, S, b, e, q⟩ := q
    unfold tAndC at e
    cases ea : f τ with
    | none => rw [ea] at e; cases e
    | some x =>
      rw [ea] at e
      simp only [Option.bind_some] at e
      refine gT.mono S ea fun H' x' S' => ?_
      cases x
      · simp only [Bool.false_eq_true, if_false] at e ⊢
        cases e
        exact q H' x'
      · simp only [if_true] at e ⊢
        exact gT.mono S' e fun H'' x'' _ => q H'' (x'.trans x'')
theorem snw_or {C : Cn} {a b : Expr} {rest : List Expr} {f g : TX} {pos : Pos} (ha : SndT C a f) (hb : SndW C (.BoolOp .Or (b :: rest) pos) g) : SndW C (.BoolOp .Or (a :: b :: rest) pos) (tOrC f g) := fun X G =>
  PW.weak (pw_or (ha X G) (hb X G)) fun σ H Q q => by
    obtain ⟨τ, O, S, b, e, q⟩ := q
    unfold tOrC at e
    cases ea : f τ with
    | none => rw [ea] at e; cases e
    | some x =>
      rw [ea] at e
      simp only [Option.bind_some] at e
      refine gT.mono S ea fun H' x' S' => ?_
      cases x
      · simp only [Bool.false_eq_true, if_false] at e ⊢
        exact gT.mono S' e fun H'' x'' _ => q H'' (x'.trans x'')
      · simp only [if_true] at e ⊢
        cases e
        exact q H' x'
/-! ### and, or, not, if .. else as values -/
def eNot (f : PX) : PX := fun τ => (f τ).bind fun x => (tru x.2).map fun b => (.own, .bl (!b))
def eAnd (f g : PX) : PX := fun τ => (f τ).bind fun x => (tru x.2).bind fun b => if b then g τ else some x
def eOr (f g : PX) : PX := fun τ => (f τ).bind fun x => (tru x.2).bind fun b => if b then some x else g τ
theorem snd_not {C : Cn} {e : Expr} {f : PX} {pos : Pos} (h : SndP C e f) : SndP C (.UnaryOp .Not e pos) (eNot f) := fun X G =>
  PE.weak (pe_notT (h X G)) fun σ H Q q => by
    obtain ⟨τ, O, S, k, t, e, q⟩ := q
    unfold eNot at e
    cases ea : f τ with
    | none => rw [ea] at e; cases e
    | some x =>
      rw [ea] at e
      simp only [Option.bind_some] at e
      cases et : tru x.2 with
      | none => rw [et] at e; cases e
      | some b =>
        rw [et] at e; cases e
        refine gP.mono S ea fun v1 H1 x1 S1 r1 => ?_
        obtain ⟨f1, r1⟩ := r1.any
        exact ⟨b, tru_ok' r1 et, q _ H1 x1 repK_bl⟩
theorem snd_one {C : Cn} {op} {e : Expr} {f : PX} {pos : Pos} (h : SndP C e f) : SndP C (.BoolOp op [e] pos) f := fun X G => pe_one (h X G)
theorem snd_and {C : Cn} {a b : Expr} {rest : List Expr} {f g : PX} {pos : Pos} (ha : SndP C a f) (hb : SndP C (.BoolOp .And (b :: rest) pos) g) : SndP C (.BoolOp .And (a :: b :: rest) pos) (eAnd f g) := fun X G =>
  PE.weak (pe_andT (ha X G) (hb X G)) fun σ H Q q => by
    obtain ⟨τ, O, S, k, t, e, q⟩ := q
    unfold eAnd at e
    cases ea : f τ with
    | none => rw [ea] at e; cases e
    | some x =>
      rw [ea] at e
      simp only [Option.bind_some] at e
      cases et : tru x.2 with
      | none => rw [et] at e; cases e
      | some b =>
        rw [et] at e
        simp only [Option.bind_some] at e
        refine gP.mono S ea fun v1 H1 x1 S1 r1 => ?_
        obtain ⟨f1, r1'⟩ := r1.any
        refine ⟨b, tru_ok' r1' et, ?_⟩
        cases b
        · simp only [Bool.false_eq_true, if_false] at e ⊢
          cases e
          exact q v1 H1 x1 r1
        · simp only [if_true] at e ⊢
          exact gP.mono S1 e fun v2 H2 x2 _ r2 => q v2 H2 (x1.trans x2) (r2.back x1)
theorem snd_or {C : Cn} {a b : Expr} {rest : List Expr} {f g : PX} {pos : Pos} (ha : SndP C a f) (hb : SndP C (.BoolOp .Or (b :: rest) pos) g) : SndP C (.BoolOp .Or (a :: b :: rest) pos) (eOr f g) := fun X G =>
  PE.weak (pe_orT (ha X G) (hb X G)) fun σ H Q q => by
    obtain ⟨τ, O, S, k, t, e, q⟩ := q
    unfold eOr at e
    cases ea : f τ with
    | none => rw [ea] at e; cases e
    | some x =>
      rw [ea] at e
      simp only [Option.bind_some] at e
      cases et : tru x.2 with
      | none => rw [et] at e; cases e
      | some b =>
        rw [et] at e
        simp only [Option.bind_some] at e
        refine gP.mono S ea fun v1 H1 x1 S1 r1 => ?_
        obtain ⟨f1, r1'⟩ := r1.any
        refine ⟨b, tru_ok' r1' et, ?_⟩
        cases b
        · simp only [Bool.false_eq_true, if_false] at e ⊢
          exact gP.mono S1 e fun v2 H2 x2 _ r2 => q v2 H2 (x1.trans x2) (r2.back x1)
        · simp only [if_true] at e ⊢
          cases e
          exact q v1 H1 x1 r1
def eIf (c : TX) (f g : PX) : PX := fun τ => (c τ).bind fun b => if b then f τ else g τ
theorem snd_if {C : Cn} {c a b : Expr} {fc : TX} {f g : PX} {pos : Pos} (hc : SndT C c fc) (ha : SndP C a f) (hb : SndP C b g) : SndP C (.IfExp c a b pos) (eIf fc f g) := fun X G =>
  PE.weak (pe_ifExp (hc X G) (ha X G) (hb X G)) fun σ H Q q => by
    obtain ⟨τ, O, S, k, t, e, q⟩ := q
    unfold eIf at e
    cases ea : fc τ with
    | none => rw [ea] at e; cases e
    | some x =>
      rw [ea] at e
      simp only [Option.bind_some] at e
      refine gT.mono S ea fun H1 x1 S1 => ?_
      cases x
      · simp only [Bool.false_eq_true, if_false] at e ⊢
        exact gP.mono S1 e fun v2 H2 x2 _ r2 => q v2 H2 (x1.trans x2) (r2.back x1)
      · simp only [if_true] at e ⊢
        exact gP.mono S1 e fun v2 H2 x2 _ r2 => q v2 H2 (x1.trans x2) (r2.back x1)
/-! ### a < b < c -/
def eChain (g g' : PV → PV → Option (Kd × PV)) (fa fb fc : PX) : PX := fun τ => (fa τ).bind fun x => (fb τ).bind fun y => (g x.2 y.2).bind fun z => match z.2 with
  | .bl true => (fc τ).bind fun u => (g' y.2 u.2).bind fun q => match q.2 with | .bl b => some (.own, .bl b) | _ => none
  | .bl false => some (.own, .bl false)
  | _ => none
theorem gP.chain {X : Cx} {fa fb fc : PX} {g g' : PV → PV → Option (Kd × PV)} {σ : St} {H : Hp} {Q : VK} (q : gP X (eChain g g' fa fb fc) σ H Q) : tChain (r2S X g) (r2S X g') (gP X fa) (gP X fb) (gP X fc) σ H Q := by
  obtain ⟨τ, O, S, k, t, e, q⟩ := q
  unfold eChain at e
  cases ea : fa τ with
  | none => rw [ea] at e; cases e
  | some x =>
    rw [ea] at e
    simp only [Option.bind_some] at e
    cases eb : fb τ with
    | none => rw [eb] at e; cases e
    | some y =>
      rw [eb] at e
      simp only [Option.bind_some] at e
      cases eg : g x.2 y.2 with
      | none => rw [eg] at e; cases e
      | some z =>
        rw [eg] at e
        simp only [Option.bind_some] at e
        refine gP.mono S ea fun v1 H1 x1 S1 r1 => gP.mono S1 eb fun v2 H2 x2 S2 r2 => ?_
        obtain ⟨f1, r1⟩ := r1.any
        obtain ⟨f2, r2⟩ := r2.any
        refine ⟨_, _, z.2, z.1, f1, f2, r1.ex x2, r2, eg, fun v3 H3 x3 r3 => ?_⟩
        obtain ⟨f3, r3⟩ := (r3 fun _ => []).any
        split at e
        · rename_i hz
          rw [hz] at r3
          simp only [Rep] at r3
          refine ⟨true, r3.1, ?_⟩
          simp only [if_true]
          cases ec : fc τ with
          | none => rw [ec] at e; cases e
          | some u =>
            rw [ec] at e
            simp only [Option.bind_some] at e
            refine gP.mono (S2.ex x3) ec fun v4 H4 x4 S4 r4 => ?_
            obtain ⟨f4, r4⟩ := r4.any
            cases eg' : g' y.2 u.2 with
            | none => rw [eg'] at e; cases e
            | some p =>
              rw [eg'] at e
              simp only [Option.bind_some] at e
              split at e
              · rename_i b hb
                cases e
                refine ⟨_, _, p.2, p.1, f2, f4, r2.ex (x3.trans x4), r4, eg', fun v5 H5 x5 r5 => ?_⟩
                obtain ⟨f5, r5⟩ := (r5 fun _ => []).any
                rw [hb] at r5
                have e5 := r5
                simp only [Rep] at e5
                rw [e5.1] at r5 ⊢
                exact q _ H5 (x1.trans (x2.trans (x3.trans (x4.trans x5)))) repK_bl
              · cases e
        · rename_i hz
          rw [hz] at r3
          simp only [Rep] at r3
          refine ⟨false, r3.1, ?_⟩
          simp only [Bool.false_eq_true, if_false]
          cases e
          exact q _ H3 (x1.trans (x2.trans x3)) repK_bl
        · cases e
theorem snd_chain {C : Cn} {a b c : Expr} {op op' : CmpOp} {fa fb fc : PX} {g g' : PV → PV → Option (Kd × PV)} {pos : Pos} (ho : ∀ X, Gd C X → OpS X (compareOp op) g) (ho' : ∀ X, Gd C X → OpS X (compareOp op') g') (ha : SndP C a fa) (hb : SndP C b fb) (hc : SndP C c fc)
    (hm : lastMarks [op, op'] [b, c] = false := by with_unfolding_all rfl) : SndP C (.Compare a [op, op'] [b, c] pos) (eChain g g' fa fb fc) := fun X G =>
  PE.weak (pe_chain (ho X G).op (ho' X G).op (ha X G) (hb X G) (hc X G) hm) fun _ _ _ q => gP.chain q
theorem snt_chain {C : Cn} {a b c : Expr} {op op' : CmpOp} {fa fb fc : PX} {g g' : PV → PV → Option (Kd × PV)} {pos : Pos} (ho : ∀ X, Gd C X → OpS X (compareOp op) g) (ho' : ∀ X, Gd C X → OpS X (compareOp op') g') (ha : SndP C a fa) (hb : SndP C b fb) (hc : SndP C c fc)
    (hm : lastMarks [op, op'] [b, c] = false := by with_unfolding_all rfl) : SndT C (.Compare a [op, op'] [b, c] pos) (eTrB (eChain g g' fa fb fc)) := fun X G =>
  PT.weak (pt_chain (ho X G).op (ho' X G).op (ha X G) (hb X G) (hc X G) hm) fun σ H Q q => by
    obtain ⟨τ, O, S, b, e, q⟩ := q
    unfold eTrB at e
    cases ea : eChain g g' fa fb fc τ with
    | none => rw [ea] at e; cases e
    | some x =>
      rw [ea] at e
      simp only [Option.bind_some] at e
      split at e
      · rename_i c hc
        cases e
        refine gP.chain (X := X) (g := g) (g' := g') ⟨τ, O, S, x.1, x.2, ea, fun v H' x' r => ?_⟩
        rw [hc] at r
        obtain ⟨fp, r⟩ := r.any
        simp only [Rep] at r
        exact ⟨_, r.1, q H' x'⟩
      · cases e
end Pv
namespace Pv
open PySem PySem.Spec L2

/-! ### rows of expressions -/
def evs : List PX → En → Option (List (Kd × PV))
  | [], _ => some []
  | f :: fs, τ => (f τ).bind fun x => (evs fs τ).bind fun r => some (x :: r)
def RepKs (K : PySem.W.Frag) (P : Program) (w : World) (O : Nat → List Addr) : Hp → Hp → List (Kd × PV) → List V → Prop
  | H0, H', [], vs => vs = [] ∧ Ex H0 H'
  | H0, H', x :: xs, vs => ∃ v vr H1, vs = v :: vr ∧ Ex H0 H1 ∧ RepK K P w O H0 H1 x.1 x.2 v ∧ RepKs K P w O H1 H' xs vr
section
variable {K : PySem.W.Frag} {P : Program} {w : World} {O : Nat → List Addr}
theorem RepKs.ext : ∀ {xs : List (Kd × PV)} {vs : List V} {H0 H' : Hp}, RepKs K P w O H0 H' xs vs → Ex H0 H'
  | [], _, _, _, h => h.2
  | _ :: _, _, _, _, h => by
    obtain ⟨v, vr, H1, e, x, r, q⟩ := h
    exact x.trans q.ext
theorem RepKs.all : ∀ {xs : List (Kd × PV)} {vs : List V} {H0 H' : Hp}, RepKs K P w O H0 H' xs vs → ∃ fp, Reps K P w H' (xs.map (·.2)) vs fp
  | [], _, _, _, h => ⟨[], by simp only [List.map_nil, Reps]; exact ⟨h.1, trivial⟩⟩
  | x :: xs, _, _, _, h => by
    obtain ⟨v, vr, H1, e, x, r, q⟩ := h
    obtain ⟨f, r⟩ := r.any
    obtain ⟨g, q'⟩ := q.all
    subst e
    exact ⟨f ++ g, Reps.cons (r.ex q.ext) q'⟩
theorem RepKs.own : ∀ {xs : List (Kd × PV)} {vs : List V} {H0 H' : Hp}, RepKs K P w O H0 H' xs vs → (∀ x ∈ xs, x.1 = .own) → ∃ fp, Reps K P w H' (xs.map (·.2)) vs fp ∧ fp.Nodup ∧ ∀ a ∈ fp, Mut (H' a) ∧ H0 a = none
  | [], _, _, _, h, _ => ⟨[], by simp only [List.map_nil, Reps]; exact ⟨h.1, trivial⟩, List.nodup_nil, fun _ z => nomatch z⟩
  | x :: xs, _, _, _, h, hx => by
    obtain ⟨v, vr, H1, e, x01, r, q⟩ := h
    have hk := hx x List.mem_cons_self
    rw [hk] at r
    obtain ⟨f, r, nf, mf⟩ := r
    obtain ⟨g, q', ng, mg⟩ := q.own fun y hy => hx y (List.mem_cons_of_mem _ hy)
    subst e
    refine ⟨f ++ g, Reps.cons (r.ex q.ext) q', List.nodup_append.mpr ⟨nf, ng, fun a ha b hb e => ?_⟩, fun a ha => ?_⟩
    · subst e
      exact mut_none (mf a ha).1 (mg a hb).2
    · rcases List.mem_append.mp ha with z | z
      · exact ⟨mut_ex (mf a z).1 q.ext, (mf a z).2⟩
      · exact ⟨(mg a z).1, none_ex (mg a z).2 x01⟩
theorem RepKs.shr {τ : En} {σ : St} : ∀ {xs : List (Kd × PV)} {vs : List V} {H0 H' : Hp}, (∀ a, ow O a → Mut (H0 a)) → RepKs K P w O H0 H' xs vs → (∀ x ∈ xs, x.1 ≠ .view) → ∃ fp, Reps K P w H' (xs.map (·.2)) vs fp ∧ ∀ a ∈ fp, ¬ ow O a
  | [], _, _, _, _, h, _ => ⟨[], by simp only [List.map_nil, Reps]; exact ⟨h.1, trivial⟩, fun _ z => nomatch z⟩
  | x :: xs, _, _, _, mO, h, hx => by
    obtain ⟨v, vr, H1, e, x01, r, q⟩ := h
    obtain ⟨g, q', ng⟩ := RepKs.shr (τ := τ) (σ := σ) (fun a ha => mut_ex (mO a ha) x01) q fun y hy => hx y (List.mem_cons_of_mem _ hy)
    subst e
    have : ∃ f, Rep K P w H1 x.2 v f ∧ ∀ a ∈ f, ¬ ow O a := by
      have hk := hx x List.mem_cons_self
      cases e : x.1 with
      | own => rw [e] at r; obtain ⟨f, r, _, m⟩ := r; exact ⟨f, r, fun a ha z => mut_none (mO a z) (m a ha).2⟩
      | shr => rw [e] at r; exact r
      | view => exact absurd e hk
    obtain ⟨f, r, nf⟩ := this
    refine ⟨f ++ g, Reps.cons (r.ex q.ext) q', fun a ha => ?_⟩
    rcases List.mem_append.mp ha with z | z
    · exact nf a z
    · exact ng a z
end
def genA (K : PySem.W.Frag) (P : Program) (w : World) (fs : List PX) : TA := fun σ H Q => ∃ τ O, StR K P w τ σ H O ∧ ∃ rs, evs fs τ = some rs ∧ ∀ vs H', RepKs K P w O H H' rs vs → Q vs H'
def SndA (C : Cn) (es : List Expr) (fs : List PX) : Prop := ∀ X, Gd C X → PA X es (genA X.K X.prog X.w fs)
theorem sna_nil {C : Cn} : SndA C [] [] := fun X G => PA.weak pa_nil fun σ H Q h => by
  obtain ⟨τ, O, S, rs, e, q⟩ := h
  cases e
  exact q [] H ⟨rfl, .refl⟩
theorem sna_cons {C : Cn} {e : Expr} {es : List Expr} {f : PX} {fs : List PX} (h : SndP C e f) (hs : SndA C es fs) (he : ∀ env, starEach (e :: es) env = (false, eval e env) :: starEach es env := by exact fun _ => rfl) : SndA C (e :: es) (f :: fs) := fun X G =>
  PA.weak (pa_cons (h X G) (hs X G) (he X.env)) fun σ H Q q => by
    obtain ⟨τ, O, S, rs, e, q⟩ := q
    simp only [evs] at e
    cases ea : f τ with
    | none => rw [ea] at e; cases e
    | some x =>
      rw [ea] at e
      simp only [Option.bind_some] at e
      cases eb : evs fs τ with
      | none => rw [eb] at e; cases e
      | some r =>
        rw [eb] at e; cases e
        exact gP.mono S ea fun v1 H1 x1 S1 r1 => ⟨τ, O, S1, r, eb, fun vs H2 q2 => q _ _ ⟨v1, vs, H1, rfl, x1, r1, q2⟩⟩

/-! ### displays -/
@[simp] def Kd.max : Kd → Kd → Kd
  | .own, k => k
  | k, .own => k
  | .shr, k => k
  | .view, _ => .view
@[simp] def kds : List (Kd × PV) → Kd
  | [] => .own
  | x :: xs => x.1.max (kds xs)
theorem kds_own : ∀ {xs : List (Kd × PV)}, kds xs = .own → ∀ x ∈ xs, x.1 = .own
  | [], _, x, hx => nomatch hx
  | y :: ys, h, x, hx => by
    simp only [kds] at h
    have : y.1 = .own ∧ kds ys = .own := by
      cases e : y.1 <;> cases e' : kds ys <;> rw [e, e'] at h <;> simp [Kd.max] at h <;> simp
    rcases List.mem_cons.mp hx with z | z
    · rw [z]; exact this.1
    · exact kds_own this.2 x z
theorem kds_shr : ∀ {xs : List (Kd × PV)}, kds xs ≠ .view → ∀ x ∈ xs, x.1 ≠ .view
  | [], _, x, hx => nomatch hx
  | y :: ys, h, x, hx => by
    simp only [kds] at h
    have : y.1 ≠ .view ∧ kds ys ≠ .view := by
      cases e : y.1 <;> cases e' : kds ys <;> rw [e, e'] at h <;> simp [Kd.max] at h <;> simp
    rcases List.mem_cons.mp hx with z | z
    · rw [z]; exact this.1
    · exact kds_shr this.2 x z
def eLst (fs : List PX) : PX := fun τ => (evs fs τ).bind fun rs => some (kds rs, .lst (rs.map (·.2)))
def eTup (fs : List PX) : PX := fun τ => (evs fs τ).bind fun rs => some (kdOf (.tup (rs.map (·.2))) (kds rs), .tup (rs.map (·.2)))
theorem evs_len : ∀ {fs : List PX} {τ : En} {rs : List (Kd × PV)}, evs fs τ = some rs → rs.length = fs.length
  | [], τ, rs, e => by simp only [evs, Option.some.injEq] at e; rw [← e]; rfl
  | f :: fs, τ, rs, e => by
    simp only [evs] at e
    cases ea : f τ with
    | none => rw [ea] at e; cases e
    | some x =>
      rw [ea] at e
      simp only [Option.bind_some] at e
      cases eb : evs fs τ with
      | none => rw [eb] at e; cases e
      | some r =>
        rw [eb] at e; cases e
        rw [List.length_cons, List.length_cons, evs_len eb]
section
variable {K : PySem.W.Frag} {P : Program} {w : World} {O : Nat → List Addr} {H0 H1 : Hp}
theorem disp_lst {τ : En} {σ : St} {rs : List (Kd × PV)} {vs : List V} {p : Addr} (S : StR K P w τ σ H0 O) (h : RepKs K P w O H0 H1 rs vs) (hp : H1 p = none) : RepK K P w O H0 (upd H1 p (.lst vs)) (kds rs) (.lst (rs.map (·.2))) (.ref p) := by
  have mk : ∀ fp, Reps K P w H1 (rs.map (·.2)) vs fp → Rep K P w (upd H1 p (.lst vs)) (.lst (rs.map (·.2))) (.ref p) (p :: fp) := fun fp r => by
    simp only [Rep]
    exact ⟨p, vs, fp, rfl, upd_same, r.ex (Ex.upd hp), rfl⟩
  cases e : kds rs with
  | own =>
    obtain ⟨fp, r, n, m⟩ := h.own (kds_own e)
    refine ⟨p :: fp, mk fp r, List.nodup_cons.mpr ⟨fun z => mut_none (m p z).1 hp, n⟩, fun a ha => ?_⟩
    rcases List.mem_cons.mp ha with z | z
    · rw [z, upd_same]; exact ⟨trivial, none_ex hp h.ext⟩
    · exact ⟨mut_ex (m a z).1 (Ex.upd hp), (m a z).2⟩
  | shr =>
    obtain ⟨fp, r, n⟩ := h.shr (τ := τ) (σ := σ) S.mt (kds_shr (by rw [e]; decide))
    refine ⟨p :: fp, mk fp r, fun a ha z => ?_⟩
    rcases List.mem_cons.mp ha with q | q
    · subst q; exact mut_none (S.mt a z) (none_ex hp h.ext)
    · exact n a q z
  | view =>
    obtain ⟨fp, r⟩ := h.all
    exact ⟨_, mk fp r⟩
theorem disp_tup {τ : En} {σ : St} {rs : List (Kd × PV)} {vs : List V} {p : Addr} (S : StR K P w τ σ H0 O) (h : RepKs K P w O H0 H1 rs vs) (hp : H1 p = none) : RepK K P w O H0 (upd H1 p (.tup vs)) (kdOf (.tup (rs.map (·.2))) (kds rs)) (.tup (rs.map (·.2))) (.ref p) := by
  have mk : ∀ fp, Reps K P w H1 (rs.map (·.2)) vs fp → Rep K P w (upd H1 p (.tup vs)) (.tup (rs.map (·.2))) (.ref p) fp := fun fp r => by
    simp only [Rep]
    exact ⟨p, vs, rfl, upd_same, r.ex (Ex.upd hp)⟩
  refine repK_kd ?_
  cases e : kds rs with
  | own =>
    obtain ⟨fp, r, n, m⟩ := h.own (kds_own e)
    exact ⟨fp, mk fp r, n, fun a ha => ⟨mut_ex (m a ha).1 (Ex.upd hp), (m a ha).2⟩⟩
  | shr =>
    obtain ⟨fp, r, n⟩ := h.shr (τ := τ) (σ := σ) S.mt (kds_shr (by rw [e]; decide))
    exact ⟨fp, mk fp r, n⟩
  | view =>
    obtain ⟨fp, r⟩ := h.all
    exact ⟨_, mk fp r⟩
end
theorem reps_len {K : PySem.W.Frag} {P : Program} {w : World} {O : Nat → List Addr} {H0 H1 : Hp} {rs : List (Kd × PV)} {vs : List V} (h : RepKs K P w O H0 H1 rs vs) : vs.length = rs.length := by
  obtain ⟨fp, r⟩ := h.all
  rw [r.length, List.length_map]
theorem snd_lst {C : Cn} {es : List Expr} {fs : List PX} {pos : Pos} (h : SndA C es fs) (hl : fs.length ≤ 1000 := by exact Nat.le_of_ble_eq_true rfl) : SndP C (.List es pos) (eLst fs) := fun X G =>
  PE.weak (pe_lst (h X G)) fun σ H Q q => by
    obtain ⟨τ, O, S, k, t, e, q⟩ := q
    unfold eLst at e
    cases ea : evs fs τ with
    | none => rw [ea] at e; cases e
    | some rs =>
      rw [ea] at e; cases e
      exact ⟨τ, O, S, rs, ea, fun vs H1 r => ⟨by rw [reps_len r, evs_len ea, sl_eq]; omega, fun p hp => q _ _ (r.ext.trans (Ex.upd hp)) (disp_lst S r hp)⟩⟩
theorem snd_tup {C : Cn} {es : List Expr} {fs : List PX} {k0} {pos : Pos} (h : SndA C es fs) (hl : fs.length ≤ 1000 := by exact Nat.le_of_ble_eq_true rfl) : SndP C (.Tuple es k0 pos) (eTup fs) := fun X G =>
  PE.weak (pe_tup (h X G)) fun σ H Q q => by
    obtain ⟨τ, O, S, k, t, e, q⟩ := q
    unfold eTup at e
    cases ea : evs fs τ with
    | none => rw [ea] at e; cases e
    | some rs =>
      rw [ea] at e; cases e
      exact ⟨τ, O, S, rs, ea, fun vs H1 r => ⟨by rw [reps_len r, evs_len ea, sl_eq]; omega, fun p hp => q _ _ (r.ext.trans (Ex.upd hp)) (disp_tup S r hp)⟩⟩

/-! ### calls of built-ins -/
def CallS (X : Cx) (f : Value) (g : List PV → Option (Kd × PV)) : Prop :=
  ∀ (pins : List (Addr × Obj)) (s : Shared) (σ : St) (H : Hp) (xs : List V) (us : List Value) (Q : VK) (ts : List PV) (t : PV) (k : Kd) (fp : List Addr), Inv X pins σ H s → Vals xs us →
    Reps X.K X.prog X.w H ts xs fp → g ts = some (k, t) → (∀ z H', Ex H H' → (∀ O, RepK X.K X.prog X.w O H H' k t z) → Q z H') →
    wpAny (model X.prog X.w) X.A (call f us) (EP X pins σ Q) X.xe s
def rCS (X : Cx) (g : List PV → Option (Kd × PV)) : List V → Hp → VK → Prop := fun xs H Q => ∃ ts t k fp, Reps X.K X.prog X.w H ts xs fp ∧ g ts = some (k, t) ∧ ∀ z H', Ex H H' → (∀ O, RepK X.K X.prog X.w O H H' k t z) → Q z H'
theorem CallS.call {X : Cx} {f : Value} {g : List PV → Option (Kd × PV)} (h : CallS X f g) : CallR X f (rCS X g) := by
  intro pins s σ H xs us Q I rx q
  obtain ⟨ts, t, k, fp, r, e, q⟩ := q
  exact h pins s σ H xs us Q ts t k fp I rx r e q
theorem CallS.of {X : Cx} {f : Value} {g : List PV → Option (Kd × PV)} {r : List V → Hp → VK → Prop} (ho : CallR X f r)
    (h : ∀ (H : Hp) (xs : List V) (Q : VK) (ts : List PV) (t : PV) (k : Kd) (fp : List Addr), Reps X.K X.prog X.w H ts xs fp → g ts = some (k, t) → (∀ z H', Ex H H' → (∀ O, RepK X.K X.prog X.w O H H' k t z) → Q z H') → r xs H Q) : CallS X f g :=
  fun pins s σ H xs us Q ts t k fp I rx r1 e q => ho pins s σ H xs us Q I rx (h H xs Q ts t k fp r1 e q)
/-- one argument -/
theorem CallS.of1 {X : Cx} {f : Value} {g : PV → Option (Kd × PV)} {r : List V → Hp → VK → Prop} (ho : CallR X f r)
    (h : ∀ (H : Hp) (x : V) (Q : VK) (tx : PV) (t : PV) (k : Kd) (fp : List Addr), Rep X.K X.prog X.w H tx x fp → g tx = some (k, t) → (∀ z H', Ex H H' → (∀ O, RepK X.K X.prog X.w O H H' k t z) → Q z H') → r [x] H Q) : CallS X f (fun ts => match ts with | [x] => g x | _ => none) := by
  refine CallS.of ho fun H xs Q ts t k fp r1 e q => ?_
  split at e
  · simp only [Reps] at r1
    obtain ⟨v, vr, f1, g1, rfl, q1, ⟨rfl, rfl⟩, rfl⟩ := r1
    exact h H v Q _ t k _ q1 e q
  · cases e
@[simp] def g1 (g : PV → Option (Kd × PV)) : List PV → Option (Kd × PV) := fun ts => match ts with | [x] => g x | _ => none
@[simp] def g2 (g : PV → PV → Option (Kd × PV)) : List PV → Option (Kd × PV) := fun ts => match ts with | [x, y] => g x y | _ => none
theorem CallS.of2 {X : Cx} {f : Value} {g : PV → PV → Option (Kd × PV)} {r : List V → Hp → VK → Prop} (ho : CallR X f r)
    (h : ∀ (H : Hp) (x y : V) (Q : VK) (tx ty : PV) (t : PV) (k : Kd) (fp fp' : List Addr), Rep X.K X.prog X.w H tx x fp → Rep X.K X.prog X.w H ty y fp' → g tx ty = some (k, t) → (∀ z H', Ex H H' → (∀ O, RepK X.K X.prog X.w O H H' k t z) → Q z H') → r [x, y] H Q) : CallS X f (g2 g) := by
  refine CallS.of ho fun H xs Q ts t k fp r1 e q => ?_
  unfold g2 at e
  split at e
  · simp only [Reps] at r1
    obtain ⟨v, vr, f1, g1, rfl, q1, ⟨v2, vr2, f2, g2, rfl, q2, ⟨rfl, rfl⟩, rfl⟩, rfl⟩ := r1
    exact h H v v2 Q _ _ t k _ _ q1 q2 e q
  · cases e
def eCB (g : List PV → Option (Kd × PV)) (fs : List PX) : PX := fun τ => (evs fs τ).bind fun rs => g (rs.map (·.2))
theorem gP.cb {X : Cx} {fs : List PX} {g : List PV → Option (Kd × PV)} {σ : St} {H : Hp} {Q : VK} (q : gP X (eCB g fs) σ H Q) : tCB (rCS X g) (genA X.K X.prog X.w fs) σ H Q := by
  obtain ⟨τ, O, S, k, t, e, q⟩ := q
  unfold eCB at e
  cases ea : evs fs τ with
  | none => rw [ea] at e; cases e
  | some rs =>
    rw [ea] at e
    simp only [Option.bind_some] at e
    refine ⟨τ, O, S, rs, ea, fun vs H1 r => ?_⟩
    obtain ⟨fp, r'⟩ := r.all
    exact ⟨_, t, k, fp, r', e, fun z H' x' rz => q z H' (r.ext.trans x') ((rz O).back r.ext)⟩
theorem snd_cb {C : Cn} {x : Str} {id : String} {e : Expr} {es : List Expr} {fs : List PX} {g : List PV → Option (Kd × PV)} {p pos : Pos} (hn : x ∈ bltNames) (hc : ∀ X, Gd C X → CallS X (.builtin id) g) (hg : glB C.sc x = true) (hv : bootBuiltins x = some (.builtin id)) (ha : SndA C (e :: es) fs)
    (h1 : x ≠ "__name__" := by decide) (hdb : (x == ("__debug__" : Str)) = false := by decide)
    (he : ∀ env, starEach (e :: es) env = (false, eval e env) :: starEach es env := by exact fun _ => rfl) (hpl : ∀ env, (backTo pos (starEach es env)).any (·.1) = false := by exact fun _ => rfl) : SndP C (.Call (.Name x p) (e :: es) [] pos) (eCB g fs) := fun X G =>
  PE.weak (pe_callB (hc X G).call (gl_of G hg) (G.blt x hn) hv (ha X G) h1 hdb (he X.env) (hpl X.env)) fun _ _ _ q => gP.cb q
theorem snd_cty {C : Cn} {x : Str} {T : String} {e : Expr} {es : List Expr} {fs : List PX} {g : List PV → Option (Kd × PV)} {p pos : Pos} (hn : x ∈ bltNames) (hc : ∀ X, Gd C X → CallS X (.type T) g) (hg : glB C.sc x = true) (hv : bootBuiltins x = some (.type T)) (ha : SndA C (e :: es) fs)
    (h1 : x ≠ "__name__" := by decide) (hdb : (x == ("__debug__" : Str)) = false := by decide)
    (he : ∀ env, starEach (e :: es) env = (false, eval e env) :: starEach es env := by exact fun _ => rfl) (hpl : ∀ env, (backTo pos (starEach es env)).any (·.1) = false := by exact fun _ => rfl) : SndP C (.Call (.Name x p) (e :: es) [] pos) (eCB g fs) := fun X G =>
  PE.weak (pe_callTy (hc X G).call (gl_of G hg) (G.blt x hn) hv (ha X G) h1 hdb (he X.env) (hpl X.env)) fun _ _ _ q => gP.cb q

/-! ### the program's own defs, called without changing anything -/
def eCall (T : Tbl) (x : String) (fs : List PX) : PX := fun τ => (evs fs τ).bind fun rs => (T.sem x (rs.map fun r => Sl.shr r.2)).bind fun o => some (kdOf o.2.1 (if o.1 = .own then .own else .view), o.2.1)

theorem reps_shr {K : PySem.W.Frag} {P : Program} {w : World} {H : Hp} : ∀ {ts : List PV} {vs : List V} {fp : List Addr} {i : Nat} {t : PV}, Reps K P w H ts vs fp → (ts.map Sl.shr)[i]? = some (Sl.shr t) → ∃ v f, (vs.map some)[i]? = some (some v) ∧ Rep K P w H t v f := fun {ts vs fp i t} r e => by
  rw [List.getElem?_map] at e
  cases h : ts[i]? with
  | none => rw [h] at e; cases e
  | some u =>
    rw [h] at e; cases e
    obtain ⟨v, f, h1, h2, _⟩ := r.get h
    exact ⟨v, f, by rw [List.getElem?_map, h1]; rfl, h2⟩
theorem stR_shr {K : PySem.W.Frag} {P : Program} {w : World} {H : Hp} {ts : List PV} {vs : List V} {fp : List Addr} (r : Reps K P w H ts vs fp) : StR K P w (ts.map Sl.shr) (vs.map some) H fun _ => [] := by
  refine ⟨by rw [List.length_map, List.length_map, r.length], fun i t e => ?_, fun i t e => ?_, fun _ => List.nodup_nil, fun _ _ _ h => (nomatch h), fun a ⟨_, h⟩ => nomatch h⟩
  · rw [List.getElem?_map] at e
    cases h : ts[i]? with
    | none => rw [h] at e; rcases e with e | e <;> cases e
    | some u => rw [h] at e; rcases e with e | e <;> cases e
  · obtain ⟨v, f, h1, h2⟩ := reps_shr r e
    exact ⟨v, f, h1, h2, fun a _ ⟨_, z⟩ => nomatch z⟩
theorem step_ex {H H' : Hp} {O' : Nat → List Addr} (s : Step H (fun _ => []) H' O') : Ex H H' := fun a o e => s.fr a o e fun ⟨_, z⟩ => nomatch z
theorem snd_call {C : Cn} {x : String} {e : Expr} {es : List Expr} {fs : List PX} {ps : List Str} {p pos : Pos} (har : C.T.ar x = some ps) (hl : fs.length = ps.length) (hg : glB C.sc (Str.ofString x) = true) (ha : SndA C (e :: es) fs)
    (hdb : (Str.ofString x == ("__debug__" : Str)) = false := by decide)
    (he : ∀ env, starEach (e :: es) env = (false, eval e env) :: starEach es env := by exact fun _ => rfl) (hpl : ∀ env, (backTo pos (starEach es env)).any (·.1) = false := by exact fun _ => rfl) : SndP C (.Call (.Name (Str.ofString x) p) (e :: es) [] pos) (eCall C.T x fs) := fun X G => by
  obtain ⟨k, f, fd, F, hr, hm, hk, hb⟩ := G.fns x ps har
  refine PE.weak (pe_call (E := E0) F hr (gl_of G hg) hm hk hb .nil pass0 (ha X G) hdb (he X.env) (hpl X.env)) fun σ H Q q => ?_
  obtain ⟨τ, O, S, k, t, e, q⟩ := q
  unfold eCall at e
  cases ea : evs fs τ with
  | none => rw [ea] at e; cases e
  | some rs =>
    rw [ea] at e
    simp only [Option.bind_some] at e
    cases eo : C.T.sem x (rs.map fun r => Sl.shr r.2) with
    | none => rw [eo] at e; cases e
    | some o =>
      rw [eo] at e
      simp only [Option.bind_some] at e
      cases e
      refine ⟨τ, O, S, rs, ea, fun vs H1 r => ?_⟩
      obtain ⟨fp, r'⟩ := r.all
      have hvl : vs.length = ps.length := by rw [reps_len r, evs_len ea, hl]
      rw [List.append_nil]
      refine ⟨hvl, rs.map (fun r => Sl.shr r.2), fun _ => [], ?_, o.1, o.2.1, o.2.2, eo, fun v H' O' st _ rr => ?_⟩
      · have := stR_shr r'
        rw [List.map_map] at this
        exact this
      · have xx := step_ex st
        refine q v H' (r.ext.trans xx) (repK_kd ?_)
        cases hk : o.1 with
        | own =>
          rw [hk] at rr
          obtain ⟨fp, a, b, c⟩ := rr
          rw [if_pos rfl]
          refine ⟨fp, a, b, fun y hy => ⟨(c y hy).1, ?_⟩⟩
          rcases (c y hy).2.2 with ⟨_, z⟩ | z
          · exact nomatch z
          · exact none_ex z r.ext
        | shr =>
          rw [hk] at rr
          rw [if_neg (by decide)]
          obtain ⟨fp, a, _⟩ := rr
          exact ⟨fp, a⟩
        | view => rw [hk] at rr; exact rr.elim
theorem snd_call0 {C : Cn} {x : String} {p pos : Pos} (har : C.T.ar x = some []) (hg : glB C.sc (Str.ofString x) = true)
    (hdb : (Str.ofString x == ("__debug__" : Str)) = false := by decide) : SndP C (.Call (.Name (Str.ofString x) p) [] [] pos) (eCall C.T x []) := fun X G => by
  obtain ⟨k, f, fd, F, hr, hm, hk, hb⟩ := G.fns x [] har
  refine PE.weak (pe_call0 (E := E0) F hr (gl_of G hg) hm hk hb .nil pass0 hdb) fun σ H Q q => ?_
  obtain ⟨τ, O, S, k, t, e, q⟩ := q
  unfold eCall at e
  simp only [evs, Option.bind_some, List.map_nil] at e
  cases eo : C.T.sem x [] with
  | none => rw [eo] at e; cases e
  | some o =>
    rw [eo] at e
    simp only [Option.bind_some] at e
    cases e
    refine ⟨rfl, [], fun _ => [], ?_, o.1, o.2.1, o.2.2, eo, fun v H' O' st _ rr => ?_⟩
    · exact stR_shr (ts := []) (vs := []) (fp := []) (by simp [Reps])
    · have xx := step_ex st
      refine q v H' xx (repK_kd ?_)
      cases hk : o.1 with
      | own =>
        rw [hk] at rr
        obtain ⟨fp, a, b, c⟩ := rr
        rw [if_pos rfl]
        refine ⟨fp, a, b, fun y hy => ⟨(c y hy).1, ?_⟩⟩
        rcases (c y hy).2.2 with ⟨_, z⟩ | z
        · exact nomatch z
        · exact z
      | shr =>
        rw [hk] at rr
        rw [if_neg (by decide)]
        obtain ⟨fp, a, _⟩ := rr
        exact ⟨fp, a⟩
      | view => rw [hk] at rr; exact rr.elim
end Pv
namespace Pv
open PySem PySem.Spec L2

/-! ### len, abs, int, ord, chr, str, repr -/
@[simp] def gLen : PV → Option (Kd × PV)
  | .str s => some (.own, .int s.length)
  | .lst xs => some (.own, .int xs.length)
  | .fz xs => some (.own, .int xs.length)
  | .tup xs => some (.own, .int xs.length)
  | .dK ks _ => some (.own, .int ks.length)
  | .dT ks _ => some (.own, .int ks.length)
  | _ => none
theorem cs_len {X : Cx} : CallS X (.builtin "len") (g1 gLen) := by
  refine CallS.of1 (CallR.or call_len (CallR.or call_lenD call_len_dT)) fun H x Q tx t k fp r e q => ?_
  cases tx <;> simp only [gLen, reduceCtorEq] at e <;> cases e <;> simp only [Rep] at r
  · exact .inl ⟨x, _, rfl, by rw [r.1]; exact ⟨by rw [mkS_len]; exact r.2.1.1, (mkS_len _).symm⟩, q _ H .refl fun _ => repK_int⟩
  · obtain ⟨a, vs, f, e, h, rs, _⟩ := r
    exact .inl ⟨x, _, rfl, by rw [e]; exact .inl ⟨vs, SqL.of h, rs.length.symm⟩, q _ H .refl fun _ => repK_int⟩
  · obtain ⟨a, vs, e, h, rs⟩ := r
    exact .inl ⟨x, _, rfl, by rw [e]; exact .inr ⟨vs, SqT.of h, rs.length.symm⟩, q _ H .refl fun _ => repK_int⟩
  · obtain ⟨_, a, vs, e, h, rs⟩ := r
    exact .inl ⟨x, _, rfl, by rw [e]; exact .inl ⟨vs, h.sq, rs.length.symm⟩, q _ H .refl fun _ => repK_int⟩
  · obtain ⟨a, vs, f, e, hl, h, rs, _⟩ := r
    rw [e]
    refine .inr (.inl ⟨a, _, rfl, h, ?_⟩)
    rw [List.length_zip, List.length_map, rs.length, hl, Nat.min_self, ← hl]
    exact q _ H .refl fun _ => repK_int
  · obtain ⟨a, vs, f, e, hl, h, rs, _⟩ := r
    rw [e]
    refine .inr (.inr ⟨a, _, rfl, h, ?_⟩)
    rw [List.length_zip, List.length_map, rs.length, hl, Nat.min_self, ← hl]
    exact q _ H .refl fun _ => repK_int
@[simp] def gAbs : PV → Option (Kd × PV)
  | .int i => some (.own, .int (if i < 0 then -i else i))
  | _ => none
theorem cs_abs {X : Cx} : CallS X (.builtin "abs") (g1 gAbs) := by
  refine CallS.of1 call_abs fun H x Q tx t k fp r e q => ?_
  cases tx <;> simp only [gAbs, reduceCtorEq] at e <;> cases e <;> simp only [Rep] at r
  exact ⟨_, by rw [r.1], q _ H .refl fun _ => repK_int⟩
@[simp] def gInt : PV → Option (Kd × PV)
  | .int i => some (.own, .int i)
  | .bl b => some (.own, .int (if b then 1 else 0))
  | _ => none
theorem cs_int {X : Cx} : CallS X (.type "int") (g1 gInt) := by
  refine CallS.of1 call_int1 fun H x Q tx t k fp r e q => ?_
  cases tx <;> simp only [gInt, reduceCtorEq] at e <;> cases e <;> simp only [Rep] at r
  · exact .inr ⟨_, by rw [r.1], q _ H .refl fun _ => repK_int⟩
  · exact .inl ⟨_, by rw [r.1], q _ H .refl fun _ => repK_int⟩
def gOrd1 : PV → Option (Kd × PV)
  | .str [c] => some (.own, .int c)
  | _ => none
theorem cs_ord {X : Cx} : CallS X (.builtin "ord") (g1 gOrd1) := by
  refine CallS.of1 call_ord fun H x Q tx t k fp r e q => ?_
  cases tx <;> simp only [gOrd1, reduceCtorEq] at e
  rename_i s
  split at e
  · rename_i c hc
    cases hc
    cases e
    simp only [Rep] at r
    exact ⟨mkS [c], by rw [r.1], rfl, q _ H .refl fun _ => repK_int⟩
  · cases e
def gChr1 : PV → Option (Kd × PV)
  | .int i => if 0 ≤ i && i ≤ 1114111 then some (.own, .str [i.toNat]) else none
  | _ => none
theorem cs_chr {X : Cx} : CallS X (.builtin "chr") (g1 gChr1) := by
  refine CallS.of1 call_chr fun H x Q tx t k fp r e q => ?_
  cases tx <;> simp only [gChr1, reduceCtorEq] at e
  rename_i i
  split at e
  · rename_i h
    simp only [Bool.and_eq_true, decide_eq_true_eq] at h
    cases e
    simp only [Rep] at r
    exact ⟨i, by rw [r.1], h.1, h.2, q (.str (mkS [i.toNat])) H .refl fun _ => repK_str ⟨by rw [sl_eq]; simp, fun c hc => by simp at hc; omega⟩⟩
  · cases e
/-- a number's text -/
def intTx (i : Int) : Tx := (Str.ofString (toString i)).cps.toList
theorem intTx_ok {i : Int} (h : i.natAbs.log2 < 1920) : okT (intTx i) ∧ mkS (intTx i) = Str.ofString (toString i) := by
  have e : mkS (intTx i) = Str.ofString (toString i) := by unfold mkS intTx; simp
  refine ⟨⟨?_, fun c hc => ?_⟩, e⟩
  · rw [← mkS_len, e]
    exact int_text_fits h
  · unfold intTx at hc
    rw [Str.ofString_eq_toList] at hc
    simp only [List.mem_map] at hc
    obtain ⟨ch, _, rfl⟩ := hc
    have := ch.valid
    unfold UInt32.isValidChar Nat.isValidChar at this
    show ch.val.toNat < _
    omega
/-- signs that repr hands on as they are -/
def plainC (c : Nat) : Bool := decide (32 ≤ c) && decide (c < 127) && decide (c ≠ 39) && decide (c ≠ 92)
theorem plain_repr : ∀ c : Nat, plainC c = true → Builtin.Str.reprChar 39 c = [c] := by
  have h : ∀ c : Fin 127, plainC c.val = true → Builtin.Str.reprChar 39 c.val = [c.val] := by decide +kernel
  intro c hc
  have hc' : c < 127 := by
    unfold plainC at hc
    simp only [Bool.and_eq_true, decide_eq_true_eq] at hc
    exact hc.1.1.2
  exact h ⟨c, hc'⟩ hc
theorem repr_plain {s : Tx} (h : s.all plainC = true) : reprText (mkS s) = mkS (39 :: s ++ [39]) := by
  have hq : reprQuote (mkS s) = 39 := by
    unfold reprQuote
    rw [if_neg]
    simp only [Bool.and_eq_true, not_and]
    intro hc
    exfalso
    rw [Array.contains_iff_mem] at hc
    have hc : 39 ∈ s := by unfold mkS at hc; simpa using hc
    have := List.all_eq_true.mp h 39 hc
    exact absurd this (by decide)
  unfold reprText
  rw [hq]
  have key : ∀ (l : List Nat) (acc : Array Nat), l.all plainC = true → l.foldl (fun out c => out ++ (Builtin.Str.reprChar 39 c).toArray) acc = acc ++ l.toArray := by
    intro l
    induction l with
    | nil => intro acc _; simp
    | cons c l ih =>
      intro acc hl
      simp only [List.all_cons, Bool.and_eq_true] at hl
      rw [List.foldl_cons, ih _ hl.2, plain_repr c hl.1]
      simp
  unfold mkS
  rw [← Array.foldl_toList]
  simp only
  rw [key s _ h]
  simp
def gRepr : PV → Option (Kd × PV)
  | .int i => if i.natAbs.log2 < 1920 then some (.own, .str (intTx i)) else none
  | .str s => if s.all plainC && decide (s.length ≤ 16777000) then some (.own, .str (39 :: s ++ [39])) else none
  | _ => none
theorem call_repr_str {X : Cx} : CallR X (.builtin "repr") (fun xs H Q => ∃ s : Tx, xs = [.str (mkS s)] ∧ s.all plainC = true ∧ s.length ≤ 16777000 ∧ Q (.str (mkS (39 :: s ++ [39]))) H) := by
  intro pins s σ H xs us Q I r h
  obtain ⟨z, rfl, hz, hl, q⟩ := h
  obtain ⟨u, rfl, t, rfl⟩ := Vals.one r
  have e := repr_plain hz
  refine PySem.P.repr_of_str ?_ ?_
  · rw [e]
    exact ⟨.str _, H, I.tok _, ⟨_, rfl⟩, q⟩
  · rw [e, mkS_len, sl_eq]
    simp
    omega
theorem cs_repr {X : Cx} : CallS X (.builtin "repr") (g1 gRepr) := by
  refine CallS.of1 (CallR.or SkE.call_repr_int call_repr_str) fun H x Q tx t k fp r e q => ?_
  cases tx <;> simp only [gRepr, reduceCtorEq] at e
  · rename_i i
    split at e
    · rename_i h
      cases e
      simp only [Rep] at r
      obtain ⟨o, e⟩ := intTx_ok h
      refine .inl ⟨i, by rw [r.1], h, ?_⟩
      rw [← e]
      exact q _ H .refl fun _ => repK_str o
    · cases e
  · rename_i s
    split at e
    · rename_i h
      simp only [Bool.and_eq_true, decide_eq_true_eq] at h
      cases e
      simp only [Rep] at r
      refine .inr ⟨s, by rw [r.1], h.1, h.2, q _ H .refl fun _ => repK_str ⟨by rw [sl_eq]; simp; omega, fun c hc => ?_⟩⟩
      rcases List.mem_append.mp hc with z | z
      · rcases List.mem_cons.mp z with z | z
        · omega
        · exact r.2.1.2 c z
      · simp at z; omega
    · cases e
def gStr : PV → Option (Kd × PV)
  | .int i => if i.natAbs.log2 < 1920 then some (.own, .str (intTx i)) else none
  | .str s => some (.own, .str s)
  | _ => none
theorem cs_str {X : Cx} : CallS X (.type "str") (g1 gStr) := by
  refine CallS.of1 (CallR.or call_str_int SkE.call_str_str) fun H x Q tx t k fp r e q => ?_
  cases tx <;> simp only [gStr, reduceCtorEq] at e
  · rename_i i
    split at e
    · rename_i h
      cases e
      simp only [Rep] at r
      obtain ⟨o, e⟩ := intTx_ok h
      refine .inl ⟨i, by rw [r.1], h, ?_⟩
      rw [← e]
      exact q _ H .refl fun _ => repK_str o
    · cases e
  · cases e
    simp only [Rep] at r
    exact .inr ⟨_, by rw [r.1], q _ H .refl fun _ => repK_str r.2.1⟩

/-! ### isinstance -/
def tyN : PV → Option String
  | .non => some "NoneType"
  | .bl _ => some "bool"
  | .int _ => some "int"
  | .str _ => some "str"
  | .lst _ => some "list"
  | .fz _ => some "list"
  | .tup _ => some "tuple"
  | .dK _ _ => some "dict"
  | .dT _ _ => some "dict"
  | .sK _ => none
@[simp] def isiB (T : String) : PV → Option Bool
  | .non => some (T == "NoneType")
  | .bl _ => some (T == "bool" || T == "int")
  | .int _ => some (T == "int")
  | .str _ => some (T == "str")
  | .lst _ => some (T == "list")
  | .fz _ => some (T == "list")
  | .tup _ => some (T == "tuple")
  | .dK _ _ => some (T == "dict")
  | .dT _ _ => some (T == "dict")
  | .sK _ => none
def isiT : List String := ["int", "str", "list", "tuple", "bool", "dict"]
theorem isi_kit : ∀ T ∈ isiT, ∀ t n b, tyN t = some n → isiB T t = some b → kitB n T = some b := by
  intro T hT t n b h1 h2
  simp only [isiT, List.mem_cons, List.not_mem_nil, or_false] at hT
  rcases hT with rfl | rfl | rfl | rfl | rfl | rfl <;> cases t <;> simp only [tyN, Option.some.injEq, reduceCtorEq] at h1 <;> subst h1 <;> simp only [isiB, Option.some.injEq] at h2 <;> subst h2 <;> decide +kernel
def eIsi (T : String) (f : PX) : PX := fun τ => (f τ).bind fun x => (isiB T x.2).map fun b => (.own, .bl b)
theorem ty_of {K : PySem.W.Frag} {P : Program} {w : World} {H : Hp} {t : PV} {v : V} {fp : List Addr} {n : String} (r : Rep K P w H t v fp) (h : tyN t = some n) : TyX K H v (.type n) := by
  cases t <;> simp only [tyN, Option.some.injEq, reduceCtorEq] at h <;> subst h <;> simp only [Rep] at r
  · rw [r.1]; exact .base .non
  · rw [r.1]; exact .base (.bl _)
  · rw [r.1]; exact .base (.int _)
  · rw [r.1]; exact .base (.str _)
  · obtain ⟨a, vs, f, e, h, _⟩ := r; rw [e]; exact .base (.lst h)
  · obtain ⟨a, vs, e, h, _⟩ := r; rw [e]; exact .base (.tup h)
  · obtain ⟨_, a, vs, e, h, _⟩ := r
    rw [e]
    rcases h with ⟨o, h⟩ | ⟨o, its, n, h1, h2, _⟩
    · exact .base (.frz h)
    · exact .kList h1 h2
  · obtain ⟨a, vs, f, e, _, h, _⟩ := r; rw [e]; exact .base (.dK h)
  · obtain ⟨a, vs, f, e, _, h, _⟩ := r; rw [e]; exact .base (.dT h)
theorem snd_isi {C : Cn} {e : Expr} {f : PX} {T : String} {p p2 pos : Pos} (hT : T ∈ isiT) (hx : Str.ofString T ∈ bltNames) (hg : glB C.sc "isinstance" = true) (hg2 : glB C.sc (Str.ofString T) = true) (hv : bootBuiltins (Str.ofString T) = some (.type T)) (ha : SndP C e f)
    (hn : Str.ofString T ≠ "__name__") (hd : (Str.ofString T == ("__debug__" : Str)) = false)
    (he : ∀ env, starEach [e, .Name (Str.ofString T) p2] env = (false, eval e env) :: starEach [.Name (Str.ofString T) p2] env := by exact fun _ => rfl) : SndP C (.Call (.Name "isinstance" p) [e, .Name (Str.ofString T) p2] [] pos) (eIsi T f) := fun X G => by
  refine PE.weak (pe_callB call_isi (gl_of G hg) (G.blt _ (by decide +kernel)) (by decide +kernel) (pa_cons (ha X G) (pa_cons (pe_bltn (v := .ty T) (gl_of G hg2) (G.blt _ hx) hv rfl hn hd) pa_nil) (he X.env)) (by decide) (by decide) (he X.env) rfl) fun σ H Q q => ?_
  obtain ⟨τ, O, S, k, t, e', q⟩ := q
  unfold eIsi at e'
  cases ea : f τ with
  | none => rw [ea] at e'; cases e'
  | some x =>
    rw [ea] at e'
    simp only [Option.bind_some] at e'
    cases eb : isiB T x.2 with
    | none => rw [eb] at e'; cases e'
    | some b =>
      rw [eb] at e'; cases e'
      refine gP.mono S ea fun v1 H1 x1 S1 r1 => ?_
      obtain ⟨f1, r1⟩ := r1.any
      have : ∃ n, tyN x.2 = some n := by
        cases h : x.2 <;> rw [h] at eb <;> simp only [isiB, reduceCtorEq] at eb <;> exact ⟨_, rfl⟩
      obtain ⟨n, hn⟩ := this
      exact ⟨v1, .ty T, _, _, b, rfl, .ty T, ty_of r1 hn, kit_ty (isi_kit T hT x.2 n b hn eb), q _ H1 x1 repK_bl⟩

/-! ### sorted -/
def ltD (x y : PV) : Bool := PySem.W.dataLt (toD x) (toD y)
def leD (x y : PV) : Bool := !ltD y x
mutual
def alk : PV → PV → Bool
  | .bl _, y => match y with | .bl _ => true | _ => false
  | .int _, y => match y with | .int _ => true | _ => false
  | .str _, y => match y with | .str _ => true | _ => false
  | .lst xs, y => match y with | .lst ys => alks xs ys | _ => false
  | .tup xs, y => match y with | .tup ys => alks xs ys | _ => false
  | .non, y => match y with | .non => true | _ => false
  | _, _ => false
def alks : List PV → List PV → Bool
  | [], _ => true
  | x :: xs, ys => match ys with | [] => true | y :: ys => alk x y && alks xs ys
end
mutual
theorem alk_toD : ∀ x y : PV, alk x y = true → PySem.W.alike (toD x) (toD y) = true
  | .non, y, h => by cases y <;> simp [alk] at h <;> simp [toD, PySem.W.alike]
  | .bl _, y, h => by cases y <;> simp [alk] at h <;> simp [toD, PySem.W.alike]
  | .int _, y, h => by cases y <;> simp [alk] at h <;> simp [toD, PySem.W.alike]
  | .str _, y, h => by cases y <;> simp [alk] at h <;> simp [toD, PySem.W.alike]
  | .lst xs, y, h => by cases y <;> simp [alk] at h <;> simp [toD, PySem.W.alike, alks_toD xs _ h]
  | .tup xs, y, h => by cases y <;> simp [alk] at h <;> simp [toD, PySem.W.alike, alks_toD xs _ h]
  | .fz _, y, h => by simp [alk] at h
  | .dK _ _, y, h => by simp [alk] at h
  | .dT _ _, y, h => by simp [alk] at h
  | .sK _, y, h => by simp [alk] at h
theorem alks_toD : ∀ xs ys : List PV, alks xs ys = true → PySem.W.alikeAll (toDs xs) (toDs ys) = true
  | [], ys, _ => by cases ys <;> simp [toDs, PySem.W.alikeAll]
  | x :: xs, [], _ => by simp [toDs, PySem.W.alikeAll]
  | x :: xs, y :: ys, h => by
    simp only [alks, Bool.and_eq_true] at h
    simp [toDs, PySem.W.alikeAll, alk_toD x y h.1, alks_toD xs ys h.2]
end
/-- the items can be put in order: data of one make, no None, no empty tuple among tuples -/
def isTup1 : PV → Bool | .tup (_ :: _) => true | _ => false
def notTN : PV → Bool | .tup _ => false | .non => false | _ => true
def srtOk (xs : List PV) : Bool := isDatas xs && (xs.all fun x => xs.all fun y => alk x y) && decide (deps xs ≤ 60) && (xs.all isTup1 || xs.all notTN)
def gSorted : PV → Option (Kd × PV)
  | .lst xs => if srtOk xs then some (if imms (xs.mergeSort leD) then .own else .view, .lst (xs.mergeSort leD)) else none
  | _ => none
theorem toDs_map : ∀ xs : List PV, toDs xs = xs.map toD
  | [] => rfl
  | x :: xs => by simp [toDs, toDs_map xs]
theorem isDatas_mem : ∀ {xs : List PV}, isDatas xs = true → ∀ x ∈ xs, isData x = true
  | [], _, x, hx => nomatch hx
  | y :: ys, h, x, hx => by
    simp only [isDatas, Bool.and_eq_true] at h
    rcases List.mem_cons.mp hx with z | z
    · rw [z]; exact h.1
    · exact isDatas_mem h.2 x z
theorem deps_mem : ∀ {xs : List PV} {x : PV}, x ∈ xs → dep x ≤ deps xs
  | y :: ys, x, hx => by
    simp only [deps]
    rcases List.mem_cons.mp hx with z | z
    · rw [z]; exact Nat.le_max_left _ _
    · exact Nat.le_trans (deps_mem z) (Nat.le_max_right _ _)
/-- the values that stand for trees -/
def RV (K : PySem.W.Frag) (P : Program) (w : World) (H : Hp) (v : Value) (t : PV) : Prop := ∃ x f, RelV x v ∧ Rep K P w H t x f
theorem each_of {K : PySem.W.Frag} {P : Program} {w : World} {H : Hp} : ∀ {ts : List PV} {vs : List V} {us : List Value} {fp : List Addr}, Reps K P w H ts vs fp → Vals vs us → PySem.W.EachIs (RV K P w H) us ts
  | [], vs, us, fp, r, q => by simp only [Reps] at r; rw [r.1] at q; cases q; exact .nil
  | t :: ts, vs, us, fp, r, q => by
    simp only [Reps] at r
    obtain ⟨v, vr, f, g, e, r1, r2, _⟩ := r
    subst e
    cases q with
    | cons q1 q2 => exact .cons ⟨v, f, q1, r1⟩ (each_of r2 q2)
theorem of_each {K : PySem.W.Frag} {P : Program} {w : World} {H : Hp} : ∀ {ts : List PV} {us : List Value}, PySem.W.EachIs (RV K P w H) us ts → ∃ vs fp, Reps K P w H ts vs fp ∧ Vals vs us
  | _, _, .nil => ⟨[], [], by simp [Reps], .nil⟩
  | _, _, .cons ⟨x, f, q1, r1⟩ h => by
    obtain ⟨vs, fp, r2, q2⟩ := of_each h
    exact ⟨x :: vs, f ++ fp, Reps.cons r1 r2, .cons q1 q2⟩
theorem leD_le : leD = PySem.W.dataLe false toD := by
  funext a b
  rw [PySem.W.dataLe_eq]
  rfl
theorem cs_sorted {X : Cx} (hu : X.A.units + 70 < cLine) : CallS X (.builtin "sorted") (g1 gSorted) := by
  intro pins s σ H xs us Q ts t k fp I rx r e q
  unfold g1 at e
  split at e
  · rename_i tx
    simp only [Reps] at r
    obtain ⟨v, vr, f1, h1, rfl, r, ⟨rfl, rfl⟩, rfl⟩ := r
    cases tx <;> simp only [gSorted, reduceCtorEq] at e
    rename_i zs
    split at e
    · rename_i ok
      cases e
      simp only [Rep] at r
      obtain ⟨a, vs, f, ev, hl, rs, _⟩ := r
      subst ev
      obtain ⟨u, rfl, ru⟩ := Vals.one rx
      obtain rfl : u = Value.ref a := ru
      obtain ⟨its, rv, pl, hz⟩ := I.list (SqL.of hl)
      simp only [srtOk, Bool.and_eq_true, List.all_eq_true, decide_eq_true_eq, Bool.or_eq_true] at ok
      obtain ⟨⟨⟨ok1, ok2⟩, ok3⟩, ok4⟩ := ok
      have each := each_of rs rv
      have hlen : zs.length ≤ sizeLine := by rw [← rs.length]; exact hz
      refine PySem.W.sorted_data (R := RV X.K X.prog X.w H) (enc := toD) (bs := zs) pl.isList each ?_ ?_ ?_ hlen (fun b hb => ?_) fun out ho he => ?_
      · refine (PySem.W.each_mem each).mono fun v b ⟨⟨x, f, rx, rr⟩, hb⟩ => ?_
        exact Dp.reads I _ x v (rep_dp b x f (isDatas_mem ok1 b hb) rr).1 rx
      · intro d hd d' hd'
        obtain ⟨b, hb, rfl⟩ := List.mem_map.mp hd
        obtain ⟨b', hb', rfl⟩ := List.mem_map.mp hd'
        exact alk_toD b b' (ok2 b hb b' hb')
      · rcases ok4 with ok4 | ok4
        · refine .inl fun d hd => ?_
          obtain ⟨b, hb, rfl⟩ := List.mem_map.mp hd
          have := ok4 b hb
          unfold isTup1 at this
          split at this
          · exact ⟨_, _, rfl⟩
          · cases this
        · refine .inr fun d hd => ?_
          obtain ⟨b, hb, rfl⟩ := List.mem_map.mp hd
          have := ok4 b hb
          cases b <;> simp [notTN] at this <;> simp [toD]
      · rw [dep_toD]
        have := deps_mem hb
        omega
      · rw [← leD_le] at he
        obtain ⟨ws, fp', rw', vw⟩ := of_each he
        obtain ⟨ep, hat⟩ := PyProof.Rows.sortedAll_at s.heap its out.toArray
        have hp : H (s.heap.objs.size + 1) = none := I.hok.fresh (Nat.le_succ _)
        have hwl : ws.length ≤ sizeLine := by rw [rw'.length, List.length_mergeSort]; exact hlen
        exact ⟨.ref (s.heap.objs.size + 1), upd H (s.heap.objs.size + 1) (.lst ws), I.laid (t' := s.toks) (fun b o e => PyProof.Rows.sortedAll_old e) (Nat.le_succ _) ⟨hwl, out, ep, vw, hat⟩, rfl, q _ _ (Ex.upd hp) fun O => repK_lst rw' hp rfl⟩
    · cases e
  · cases e
end Pv
namespace Pv
open PySem PySem.Spec L2

/-! ### statements -/
inductive Out where
  | nx | bk | ct | ret (k : Kd) (t : PV)
  deriving Inhabited
abbrev SX := En → Option (Out × En)
def IoOk (τ τ' : En) (σ σ' : St) : Prop := ∀ (i : Nat) (t : PV), τ[i]? = some (Sl.io t) → (∃ t', τ'[i]? = some (Sl.io t')) ∧ σ'[i]? = σ[i]?
theorem IoOk.refl {τ : En} {σ : St} : IoOk τ τ σ σ := fun i t e => ⟨⟨t, e⟩, rfl⟩
theorem IoOk.trans {τ τ' τ'' : En} {σ σ' σ'' : St} (h : IoOk τ τ' σ σ') (h' : IoOk τ' τ'' σ' σ'') : IoOk τ τ'' σ σ'' := fun i t e => by
  obtain ⟨⟨t', e'⟩, es⟩ := h i t e
  obtain ⟨e'', es'⟩ := h' i t' e'
  exact ⟨e'', es'.trans es⟩
def EndP (K : PySem.W.Frag) (P : Program) (w : World) (D : Ends) (H : Hp) (O : Nat → List Addr) (o : Out) (σ' : St) (H' : Hp) (O' : Nat → List Addr) : Prop := match o with
  | .nx => D.nx σ' H'
  | .bk => D.bk σ' H'
  | .ct => D.ct σ' H'
  | .ret k t => ∀ v, RepR K P w H O H' O' k t v → D.rt v H'
def genS (K : PySem.W.Frag) (P : Program) (w : World) (f : SX) : TS := fun D σ H => ∃ τ O, StR K P w τ σ H O ∧ ∃ o τ', f τ = some (o, τ') ∧
  ∀ σ' H' O', Step H O H' O' → StR K P w τ' σ' H' O' → IoOk τ τ' σ σ' → EndP K P w D H O o σ' H' O'
abbrev gS (X : Cx) (f : SX) : TS := genS X.K X.prog X.w f
def SndS (C : Cn) (st : Stmt) (f : SX) : Prop := ∀ X, Gd C X → PS X st (gS X f)
def SndSs (C : Cn) (sts : List Stmt) (f : SX) : Prop := ∀ X, Gd C X → PSs X sts (gS X f)
section
variable {K : PySem.W.Frag} {P : Program} {w : World} {τ : En} {σ : St} {H H' H0 : Hp} {O O' O0 : Nat → List Addr}
theorem RepR.back {k : Kd} {t : PV} {v : V} (s : Step H0 O0 H O) (h : RepR K P w H O H' O' k t v) : RepR K P w H0 O0 H' O' k t v := by
  cases k with
  | own =>
    obtain ⟨fp, r, n, m⟩ := h
    refine ⟨fp, r, n, fun a ha => ⟨(m a ha).1, (m a ha).2.1, ?_⟩⟩
    rcases (m a ha).2.2 with z | z
    · exact s.nw a z
    · by_cases q : ow O0 a
      · exact .inl q
      · refine .inr ?_
        cases e : H0 a with
        | none => rfl
        | some o => have := s.fr a o e q; rw [z] at this; cases this
  | shr => exact h
  | view => exact h
theorem EndP.back {D : Ends} {o : Out} {σ' : St} (s : Step H0 O0 H O) (h : EndP K P w D H0 O0 o σ' H' O') : EndP K P w D H O o σ' H' O' := by
  cases o with
  | nx => exact h
  | bk => exact h
  | ct => exact h
  | ret k t => exact fun v r => h v (r.back s)
end
def sNil : SX := fun τ => some (.nx, τ)
def sSeq (f g : SX) : SX := fun τ => (f τ).bind fun r => match r.1 with | .nx => g r.2 | o => some (o, r.2)
theorem sns_nil {C : Cn} : SndSs C [] sNil := fun X G => PSs.weak pss_nil fun D σ H h => by
  obtain ⟨τ, O, S, o, τ', e, q⟩ := h
  cases e
  exact q σ H O .refl S .refl
theorem sns_one {C : Cn} {st : Stmt} {f : SX} (h : SndS C st f) : SndSs C [st] f := fun X G => pss_one (h X G)
theorem sns_cons {C : Cn} {st : Stmt} {rest : List Stmt} {f g : SX} (h : SndS C st f) (hr : SndSs C rest g) : SndSs C (st :: rest) (sSeq f g) := fun X G =>
  PSs.weak (pss_cons (h X G) (hr X G)) fun D σ H q => by
    obtain ⟨τ, O, S, o, τ', e, q⟩ := q
    unfold sSeq at e
    cases ef : f τ with
    | none => rw [ef] at e; cases e
    | some r =>
      rw [ef] at e
      simp only [Option.bind_some] at e
      refine ⟨τ, O, S, r.1, r.2, ef, fun σ1 H1 O1 s1 S1 i1 => ?_⟩
      split at e
      · rename_i ho
        rw [ho]
        exact ⟨r.2, O1, S1, o, τ', e, fun σ2 H2 O2 s2 S2 i2 => (q σ2 H2 O2 (s1.trans s2) S2 (i1.trans i2)).back s1⟩
      · rename_i ho
        cases e
        have := q σ1 H1 O1 s1 S1 i1
        cases hk : r.1 with
        | nx => exact absurd hk ho
        | bk => rw [hk] at this; exact this
        | ct => rw [hk] at this; exact this
        | ret k t => rw [hk] at this; exact this

/-! ### a slot is stored -/
def upO (O : Nat → List Addr) (i : Nat) (fp : List Addr) : Nat → List Addr := fun j => if j = i then fp else O j
theorem upO_same {O : Nat → List Addr} {i : Nat} {fp : List Addr} : upO O i fp i = fp := by unfold upO; rw [if_pos rfl]
theorem upO_ne {O : Nat → List Addr} {i j : Nat} {fp : List Addr} (h : j ≠ i) : upO O i fp j = O j := by unfold upO; rw [if_neg h]
section
variable {K : PySem.W.Frag} {P : Program} {w : World} {τ : En} {σ : St} {H H' H0 : Hp} {O O' O0 : Nat → List Addr}
theorem set_get {α : Type} {l : List α} {i j : Nat} {a b : α} (h : (l.set i a)[j]? = some b) : (j = i ∧ b = a) ∨ (j ≠ i ∧ l[j]? = some b) := by
  by_cases e : i = j
  · subst e
    rw [List.getElem?_set] at h
    rw [if_pos rfl] at h
    split at h
    · cases h; exact .inl ⟨rfl, rfl⟩
    · cases h
  · rw [List.getElem?_set_ne e] at h
    exact .inr ⟨Ne.symm e, h⟩
/-- slot i gets a value of its own -/
theorem StR.setOwn {i : Nat} {t : PV} {v : V} {fp : List Addr} (S : StR K P w τ σ H O) (hi : i < τ.length) (r : Rep K P w H t v fp) (n : fp.Nodup) (m : ∀ a ∈ fp, Mut (H a)) (d : ∀ a ∈ fp, ∀ j, j ≠ i → a ∉ O j) (d2 : ∀ a ∈ fp, ow O a → a ∈ O i)
    (ds : ∀ (j : Nat) (u : PV), j ≠ i → τ[j]? = some (Sl.shr u) → ∃ z f, σ[j]? = some (some z) ∧ Rep K P w H u z f ∧ (∀ a ∈ f, ¬ ow O a ∧ a ∉ fp)) : StR K P w (τ.set i (.own t)) (σ.set i (some v)) H (upO O i fp) := by
  have hi' : i < σ.length := by rw [← S.len]; exact hi
  have owu : ∀ a, ow (upO O i fp) a → ow O a ∨ a ∈ fp := fun a ⟨j, hj⟩ => by
    by_cases e : j = i
    · subst e; rw [upO_same] at hj; exact .inr hj
    · rw [upO_ne e] at hj; exact .inl ⟨j, hj⟩
  refine ⟨by simp [S.len], fun j u e => ?_, fun j u e => ?_, fun j => ?_, fun j l a h1 h2 => ?_, fun a z => ?_⟩
  · have : (j = i ∧ Sl.own u = Sl.own t) ∨ (j ≠ i ∧ (τ[j]? = some (.own u) ∨ τ[j]? = some (.io u))) := by
      rcases e with e | e
      · rcases set_get e with ⟨a, b⟩ | ⟨a, b⟩
        · exact .inl ⟨a, b⟩
        · exact .inr ⟨a, .inl b⟩
      · rcases set_get e with ⟨a, b⟩ | ⟨a, b⟩
        · cases b
        · exact .inr ⟨a, .inr b⟩
    rcases this with ⟨e1, e2⟩ | ⟨e1, e2⟩
    · subst e1; cases e2
      exact ⟨v, by rw [List.getElem?_set_self hi'], by rw [upO_same]; exact r⟩
    · obtain ⟨z, ez, rz⟩ := S.own j u e2
      exact ⟨z, by rw [List.getElem?_set_ne (Ne.symm e1)]; exact ez, by rw [upO_ne e1]; exact rz⟩
  · rcases set_get e with ⟨_, b⟩ | ⟨a, b⟩
    · cases b
    · obtain ⟨z, f, ez, rz, nz⟩ := ds j u a b
      refine ⟨z, f, by rw [List.getElem?_set_ne (Ne.symm a)]; exact ez, rz, fun c hc q => ?_⟩
      rcases owu c q with q | q
      · exact (nz c hc).1 q
      · exact (nz c hc).2 q
  · by_cases e : j = i
    · subst e; rw [upO_same]; exact n
    · rw [upO_ne e]; exact S.nod j
  · by_cases e : j = i
    · by_cases e' : l = i
      · rw [e, e']
      · subst e
        rw [upO_same] at h1
        rw [upO_ne e'] at h2
        exact absurd h2 (d a h1 l e')
    · by_cases e' : l = i
      · subst e'
        rw [upO_same] at h2
        rw [upO_ne e] at h1
        exact absurd h1 (d a h2 j e)
      · rw [upO_ne e] at h1
        rw [upO_ne e'] at h2
        exact S.dis j l a h1 h2
  · rcases owu a z with q | q
    · exact S.mt a q
    · exact m a q
/-- .. a new one -/
theorem StR.setNew {i : Nat} {t : PV} {v : V} {fp : List Addr} (S : StR K P w τ σ H O) (hi : i < τ.length) (r : Rep K P w H t v fp) (n : fp.Nodup) (m : ∀ a ∈ fp, Mut (H a) ∧ ¬ ow O a)
    (ds : ∀ (j : Nat) (u : PV), j ≠ i → τ[j]? = some (Sl.shr u) → ∃ z f, σ[j]? = some (some z) ∧ Rep K P w H u z f ∧ (∀ a ∈ f, ¬ ow O a ∧ a ∉ fp)) : StR K P w (τ.set i (.own t)) (σ.set i (some v)) H (upO O i fp) :=
  S.setOwn hi r n (fun a ha => (m a ha).1) (fun a ha j _ z => (m a ha).2 ⟨j, z⟩) (fun a ha z => absurd z (m a ha).2) ds
/-- slot i gets a shared value -/
theorem StR.setShr {i : Nat} {t : PV} {v : V} {fp : List Addr} (S : StR K P w τ σ H O) (hi : i < τ.length) (r : Rep K P w H t v fp) (n : ∀ a ∈ fp, ¬ ow O a) : StR K P w (τ.set i (.shr t)) (σ.set i (some v)) H (upO O i []) := by
  have hi' : i < σ.length := by rw [← S.len]; exact hi
  have owu : ∀ a, ow (upO O i []) a → ow O a := fun a ⟨j, hj⟩ => by
    by_cases e : j = i
    · subst e; rw [upO_same] at hj; cases hj
    · rw [upO_ne e] at hj; exact ⟨j, hj⟩
  refine ⟨by simp [S.len], fun j u e => ?_, fun j u e => ?_, fun j => ?_, fun j l a h1 h2 => ?_, fun a z => S.mt a (owu a z)⟩
  · have : j ≠ i ∧ (τ[j]? = some (.own u) ∨ τ[j]? = some (.io u)) := by
      rcases e with e | e
      · rcases set_get e with ⟨a, b⟩ | ⟨a, b⟩
        · cases b
        · exact ⟨a, .inl b⟩
      · rcases set_get e with ⟨a, b⟩ | ⟨a, b⟩
        · cases b
        · exact ⟨a, .inr b⟩
    obtain ⟨e1, e2⟩ := this
    obtain ⟨z, ez, rz⟩ := S.own j u e2
    exact ⟨z, by rw [List.getElem?_set_ne (Ne.symm e1)]; exact ez, by rw [upO_ne e1]; exact rz⟩
  · rcases set_get e with ⟨a, b⟩ | ⟨a, b⟩
    · subst a; cases b
      exact ⟨v, fp, by rw [List.getElem?_set_self hi'], r, fun c hc q => n c hc (owu c q)⟩
    · obtain ⟨z, f, ez, rz, nz⟩ := S.shr j u b
      exact ⟨z, f, by rw [List.getElem?_set_ne (Ne.symm a)]; exact ez, rz, fun c hc q => nz c hc (owu c q)⟩
  · by_cases e : j = i
    · subst e; rw [upO_same]; exact List.nodup_nil
    · rw [upO_ne e]; exact S.nod j
  · by_cases e : j = i
    · subst e; rw [upO_same] at h1; cases h1
    · by_cases e' : l = i
      · subst e'; rw [upO_same] at h2; cases h2
      · rw [upO_ne e] at h1
        rw [upO_ne e'] at h2
        exact S.dis j l a h1 h2
/-- no slot but i is a new one's -/
theorem shr_apart {fp : List Addr} (S : StR K P w τ σ H O) (x : Ex H H') (hf : ∀ a ∈ fp, H a = none) : ∀ (j : Nat) (u : PV), τ[j]? = some (Sl.shr u) → ∃ z f, σ[j]? = some (some z) ∧ Rep K P w H' u z f ∧ (∀ a ∈ f, ¬ ow O a ∧ a ∉ fp) := fun j u e => by
  obtain ⟨z, f, ez, rz, nz⟩ := S.shr j u e
  refine ⟨z, f, ez, rz.ex x, fun a ha => ⟨nz a ha, fun q => mut_none (rep_mut _ _ _ rz a ha) (hf a q)⟩⟩
end
def lkI (τ : En) (i : Nat) : Bool := match τ[i]? with | some (.io _) => false | some _ => true | none => false
theorem lkI_lt {τ : En} {i : Nat} (h : lkI τ i = true) : i < τ.length := by
  unfold lkI at h
  split at h
  · cases h
  · rename_i e _; exact (List.getElem?_eq_some_iff.mp (by assumption)).1
  · cases h
/-- a value comes into slot i -/
@[simp] def putI (τ : En) (i : Nat) (k : Kd) (t : PV) : Option En := if lkI τ i then (match k with | .own => some (τ.set i (.own t)) | .shr => some (τ.set i (.shr t)) | .view => none) else none
section
variable {K : PySem.W.Frag} {P : Program} {w : World} {τ τ' : En} {σ : St} {H H' H0 : Hp} {O O' O0 : Nat → List Addr}
theorem io_set {i : Nat} {s : Sl} {v : Option V} (h : lkI τ i = true) : IoOk τ (τ.set i s) σ (σ.set i v) := fun j t e => by
  have ne : i ≠ j := fun z => by
    subst z
    unfold lkI at h
    rw [e] at h
    cases h
  exact ⟨⟨t, by rw [List.getElem?_set_ne ne]; exact e⟩, by rw [List.getElem?_set_ne ne]⟩
/-- the state behind a store -/
theorem put_ok {i : Nat} {k : Kd} {t : PV} {v : V} (S : StR K P w τ σ H O) (x : Ex H H') (r : RepK K P w O H H' k t v) (e : putI τ i k t = some τ') :
    ∃ O', Step H O H' O' ∧ StR K P w τ' (σ.set i (some v)) H' O' ∧ IoOk τ τ' σ (σ.set i (some v)) := by
  unfold putI at e
  split at e
  · rename_i hl
    have S' := S.ex x
    cases k with
    | own =>
      simp only [Option.some.injEq] at e
      subst e
      obtain ⟨fp, rr, n, m⟩ := r
      refine ⟨upO O i fp, ⟨x.fr, fun a ⟨j, hj⟩ => ?_⟩, S'.setNew (lkI_lt hl) rr n (fun a ha => ⟨(m a ha).1, fun z => mut_none (S.mt a z) (m a ha).2⟩) fun j u _ ej => shr_apart S x (fun a ha => (m a ha).2) j u ej, io_set hl⟩
      by_cases e : j = i
      · subst e; rw [upO_same] at hj; exact .inr (m a hj).2
      · rw [upO_ne e] at hj; exact .inl ⟨j, hj⟩
    | shr =>
      simp only [Option.some.injEq] at e
      subst e
      obtain ⟨fp, rr, n⟩ := r
      refine ⟨upO O i [], ⟨x.fr, fun a ⟨j, hj⟩ => ?_⟩, S'.setShr (lkI_lt hl) rr n, io_set hl⟩
      by_cases e : j = i
      · subst e; rw [upO_same] at hj; cases hj
      · rw [upO_ne e] at hj; exact .inl ⟨j, hj⟩
    | view => cases e
  · cases e
end
def sAsg (i : Nat) (f : PX) : SX := fun τ => (f τ).bind fun r => (putI τ i r.1 r.2).bind fun τ' => some (.nx, τ')
theorem locT {C : Cn} {X : Cx} {x : Str} (G : Gd C X) (h : locB C.sc x = true) : Loc X.env.scope x := by rw [G.sc]; exact loc_of h
def stB (C : Cn) (x : Str) : Bool := match C.sc.names.lookup x with | some .local => true | _ => C.fn x
theorem st_of {C : Cn} {X : Cx} {x : Str} (G : Gd C X) (h : stB C x = true) : X.fn x = true ∨ X.env.scope.names.lookup x = some .local := by
  unfold stB at h
  rw [G.sc, G.fn]
  split at h
  · exact .inr (by assumption)
  · exact .inl h
theorem sns_asg {C : Cn} (i : Nat) {x : Str} {e : Expr} {f : PX} {p pos : Pos} (hN : C.N[i]? = some x) (hx : locB C.sc x = true) (hst : stB C x = true) (h : SndP C e f) (hs : ∀ env : Env, env.scope = C.sc → swapsWith e (some (.Name x p)) pos.line env = pure false := by exact fun _ _ => rfl) :
    SndS C (.Assign [.Name x p] e pos) (sAsg i f) := fun X G =>
  PS.weak (ps_set (i := i) G.nd (by rw [G.N]; exact hN) (locT G hx) (h X G) (hs X.env G.sc) (st_of G hst)) fun D σ H q => by
    obtain ⟨τ, O, S, o, τ', e, q⟩ := q
    unfold sAsg at e
    cases ef : f τ with
    | none => rw [ef] at e; cases e
    | some r =>
      rw [ef] at e
      simp only [Option.bind_some] at e
      cases ep : putI τ i r.1 r.2 with
      | none => rw [ep] at e; cases e
      | some τ1 =>
        rw [ep] at e; cases e
        refine ⟨τ, O, S, r.1, r.2, ef, fun v H1 x1 r1 => ?_⟩
        obtain ⟨O1, s1, S1, i1⟩ := put_ok S x1 r1 ep
        exact q _ H1 O1 s1 S1 i1

/-! ### return, if, pass, break, continue, a bare expression -/
def sRet (f : PX) : SX := fun τ => (f τ).bind fun r => match r.1 with | .view => none | k => some (.ret k r.2, τ)
theorem repR_of {K : PySem.W.Frag} {P : Program} {w : World} {τ : En} {σ : St} {H H' : Hp} {O : Nat → List Addr} {k : Kd} {t : PV} {v : V} (S : StR K P w τ σ H O) (r : RepK K P w O H H' k t v) (hk : k ≠ .view) : RepR K P w H O H' O k t v := by
  cases k with
  | own =>
    obtain ⟨fp, r, n, m⟩ := r
    exact ⟨fp, r, n, fun a ha => ⟨(m a ha).1, fun z => mut_none (S.mt a z) (m a ha).2, .inr (m a ha).2⟩⟩
  | shr => exact r
  | view => exact absurd rfl hk
theorem sns_ret {C : Cn} {e : Expr} {f : PX} {pos : Pos} (h : SndP C e f) : SndS C (.Return (some e) pos) (sRet f) := fun X G =>
  PS.weak (ps_ret (h X G)) fun D σ H q => by
    obtain ⟨τ, O, S, o, τ', e, q⟩ := q
    unfold sRet at e
    cases ef : f τ with
    | none => rw [ef] at e; cases e
    | some r =>
      rw [ef] at e
      simp only [Option.bind_some] at e
      refine ⟨τ, O, S, r.1, r.2, ef, fun v H1 x1 r1 => ?_⟩
      split at e
      · cases e
      · rename_i hk
        cases e
        exact q σ H1 O (.ex x1) (S.ex x1) .refl v (repR_of S r1 hk)
def sRetN : SX := fun τ => some (.ret .own .non, τ)
theorem sns_retN {C : Cn} {pos : Pos} : SndS C (.Return none pos) sRetN := fun X G => PS.weak ps_retN fun D σ H q => by
  obtain ⟨τ, O, S, o, τ', e, q⟩ := q
  cases e
  exact q σ H O .refl S .refl .non ⟨[], rep_non, List.nodup_nil, fun _ z => nomatch z⟩
/-- return x, x a slot's own: it is handed on -/
@[simp] def sRetV (i : Nat) : SX := fun τ => match τ[i]? with
  | some (.own t) => some (.ret .own t, τ.set i .un)
  | some (.shr t) => some (.ret (kdOf t .shr) t, τ)
  | some (.io t) => if imm t then some (.ret .own t, τ) else none
  | _ => none
section
variable {K : PySem.W.Frag} {P : Program} {w : World} {τ τ' : En} {σ : St} {H H' H0 : Hp} {O O' O0 : Nat → List Addr}
theorem StR.drop {i : Nat} (S : StR K P w τ σ H O) : StR K P w (τ.set i .un) σ H (upO O i []) := by
  have owu : ∀ a, ow (upO O i []) a → ow O a := fun a ⟨j, hj⟩ => by
    by_cases e : j = i
    · subst e; rw [upO_same] at hj; cases hj
    · rw [upO_ne e] at hj; exact ⟨j, hj⟩
  refine ⟨by simp [S.len], fun j u e => ?_, fun j u e => ?_, fun j => ?_, fun j l a h1 h2 => ?_, fun a z => S.mt a (owu a z)⟩
  · have : j ≠ i ∧ (τ[j]? = some (.own u) ∨ τ[j]? = some (.io u)) := by
      rcases e with e | e <;> rcases set_get e with ⟨a, b⟩ | ⟨a, b⟩
      · cases b
      · exact ⟨a, .inl b⟩
      · cases b
      · exact ⟨a, .inr b⟩
    obtain ⟨e1, e2⟩ := this
    obtain ⟨z, ez, rz⟩ := S.own j u e2
    exact ⟨z, ez, by rw [upO_ne e1]; exact rz⟩
  · rcases set_get e with ⟨a, b⟩ | ⟨a, b⟩
    · cases b
    · obtain ⟨z, f, ez, rz, nz⟩ := S.shr j u b
      exact ⟨z, f, ez, rz, fun c hc q => nz c hc (owu c q)⟩
  · by_cases e : j = i
    · subst e; rw [upO_same]; exact List.nodup_nil
    · rw [upO_ne e]; exact S.nod j
  · by_cases e : j = i
    · subst e; rw [upO_same] at h1; cases h1
    · by_cases e' : l = i
      · subst e'; rw [upO_same] at h2; cases h2
      · rw [upO_ne e] at h1
        rw [upO_ne e'] at h2
        exact S.dis j l a h1 h2
theorem ow_drop {i : Nat} {a : Addr} (h : ow (upO O i []) a) : ow O a ∧ ∃ j, j ≠ i ∧ a ∈ O j := by
  obtain ⟨j, hj⟩ := h
  by_cases e : j = i
  · subst e; rw [upO_same] at hj; cases hj
  · rw [upO_ne e] at hj; exact ⟨⟨j, hj⟩, j, e, hj⟩
end
theorem sns_retV {C : Cn} (i : Nat) {x : Str} {p pos : Pos} (hN : C.N[i]? = some x) (hv : visB C.sc x = true) (hd : (x == ("__debug__" : Str)) = false := by decide) (hcd : (x == ("__classdict__" : Str)) = false := by decide) : SndS C (.Return (some (.Name x p)) pos) (sRetV i) := fun X G =>
  PS.weak (ps_ret (pe_var (i := i) (by rw [G.N]; exact hN) (by rw [G.sc]; exact vis_of hv) hd hcd)) fun D σ H q => by
    obtain ⟨τ, O, S, o, τ', e, q⟩ := q
    unfold sRetV at e
    split at e
    · rename_i t ht
      cases e
      obtain ⟨v, ev, r⟩ := S.own i t (.inl ht)
      refine ⟨v, ev, q σ H (upO O i []) ⟨fun _ _ e _ => e, fun a z => .inl (ow_drop z).1⟩ S.drop (fun j u e => ?_) v ⟨O i, r, S.nod i, fun a ha => ⟨S.mt a ⟨i, ha⟩, fun z => ?_, .inl ⟨i, ha⟩⟩⟩⟩
      · have : i ≠ j := fun z => by subst z; rw [ht] at e; cases e
        exact ⟨⟨u, by rw [List.getElem?_set_ne this]; exact e⟩, rfl⟩
      · obtain ⟨_, j, hj, hj'⟩ := ow_drop z
        exact hj (S.dis j i a hj' ha)
    · rename_i t ht
      cases e
      obtain ⟨v, fp, ev, r, n⟩ := S.shr i t ht
      refine ⟨v, ev, q σ H O .refl S .refl v ?_⟩
      exact repR_of (H := H) S (repK_kd (k := .shr) ⟨fp, r, n⟩) (by unfold kdOf; split <;> decide)
    · rename_i t ht
      split at e
      · rename_i hi
        cases e
        obtain ⟨v, ev, r⟩ := S.own i t (.inr ht)
        exact ⟨v, ev, q σ H O .refl S .refl v (repR_of (H := H) S (RepK.of_imm (k := .own) r hi) (by decide))⟩
      · cases e
    · cases e
def sPass : SX := fun τ => some (.nx, τ)
def sBrk : SX := fun τ => some (.bk, τ)
def sCnt : SX := fun τ => some (.ct, τ)
theorem sns_pass {C : Cn} {pos : Pos} : SndS C (.Pass pos) sPass := fun X G => PS.weak ps_pass fun D σ H q => by
  obtain ⟨τ, O, S, o, τ', e, q⟩ := q
  cases e
  exact q σ H O .refl S .refl
theorem sns_brk {C : Cn} {pos : Pos} : SndS C (.Break pos) sBrk := fun X G => PS.weak ps_break fun D σ H q => by
  obtain ⟨τ, O, S, o, τ', e, q⟩ := q
  cases e
  exact q σ H O .refl S .refl
theorem sns_cnt {C : Cn} {pos : Pos} : SndS C (.Continue pos) sCnt := fun X G => PS.weak ps_continue fun D σ H q => by
  obtain ⟨τ, O, S, o, τ', e, q⟩ := q
  cases e
  exact q σ H O .refl S .refl
def sIf (c : TX) (f g : SX) : SX := fun τ => (c τ).bind fun b => if b then f τ else g τ
theorem sns_if {C : Cn} {c : Expr} {a b : List Stmt} {fc : TX} {f g : SX} {pos : Pos} (hc : SndT C c fc) (ha : SndSs C a f) (hb : SndSs C b g) : SndS C (.If c a b pos) (sIf fc f g) := fun X G =>
  PS.weak (ps_if (hc X G) (ha X G) (hb X G)) fun D σ H q => by
    obtain ⟨τ, O, S, o, τ', e, q⟩ := q
    unfold sIf at e
    cases ef : fc τ with
    | none => rw [ef] at e; cases e
    | some r =>
      rw [ef] at e
      simp only [Option.bind_some] at e
      refine gT.mono S ef fun H1 x1 S1 => ?_
      cases r
      · simp only [Bool.false_eq_true, if_false] at e ⊢
        exact ⟨τ, O, S1, o, τ', e, fun σ2 H2 O2 s2 S2 i2 => (q σ2 H2 O2 ((Step.ex x1).trans s2) S2 i2).back (.ex x1)⟩
      · simp only [if_true] at e ⊢
        exact ⟨τ, O, S1, o, τ', e, fun σ2 H2 O2 s2 S2 i2 => (q σ2 H2 O2 ((Step.ex x1).trans s2) S2 i2).back (.ex x1)⟩
def sExp (f : PX) : SX := fun τ => (f τ).bind fun _ => some (.nx, τ)
theorem sns_exp {C : Cn} {e : Expr} {f : PX} {pos : Pos} (h : SndP C e f) (hs : ∀ env : Env, swapsWith e none pos.line env = pure false := by exact fun _ => rfl) : SndS C (.Expr e pos) (sExp f) := fun X G =>
  PS.weak (ps_expr (h X G) (hs X.env)) fun D σ H q => by
    obtain ⟨τ, O, S, o, τ', e, q⟩ := q
    unfold sExp at e
    cases ef : f τ with
    | none => rw [ef] at e; cases e
    | some r =>
      rw [ef] at e; cases e
      exact gP.mono S ef fun v H1 x1 S1 r1 => q σ H1 O (.ex x1) S1 .refl
theorem sns_doc {C : Cn} {x j pos pos'} : SndS C (.Expr (.Constant (.str x) j pos) pos') sPass := fun X G => PS.weak ps_doc fun D σ H q => by
  obtain ⟨τ, O, S, o, τ', e, q⟩ := q
  cases e
  exact q σ H O .refl S .refl

/-! ### while -/
def whL (c : TX) (f : SX) : Nat → SX
  | 0 => fun _ => none
  | n + 1 => fun τ => (c τ).bind fun b => if b then (f τ).bind (fun r => match r.1 with
    | .nx => whL c f n r.2
    | .ct => whL c f n r.2
    | .bk => some (.nx, r.2)
    | .ret k t => some (.ret k t, r.2)) else some (.nx, τ)
def whFuel : Nat := 1000000000
def sWh (c : TX) (f : SX) : SX := whL c f whFuel
theorem sns_wh {C : Cn} {c : Expr} {body : List Stmt} {fc : TX} {f : SX} {pos : Pos} (hc : SndT C c fc) (hb : SndSs C body f) : SndS C (.While c body [] pos) (sWh fc f) := fun X G =>
  PS.weak (ps_while G.po (hc X G) (hb X G)) fun D σ H q => by
    obtain ⟨τ, O, S, o, τ', e, q⟩ := q
    unfold sWh at e
    refine ⟨fun m σ1 H1 => ∃ τ1 O1, StR X.K X.prog X.w τ1 σ1 H1 O1 ∧ Step H O H1 O1 ∧ IoOk τ τ1 σ σ1 ∧ whL fc f m τ1 = some (o, τ'), ⟨whFuel, τ, O, S, .refl, .refl, e⟩, ?_⟩
    rintro m σ1 H1 ⟨τ1, O1, S1, s1, i1, e1⟩
    cases m with
    | zero => cases e1
    | succ n =>
      simp only [whL] at e1
      cases ec : fc τ1 with
      | none => rw [ec] at e1; cases e1
      | some b =>
        rw [ec] at e1
        simp only [Option.bind_some] at e1
        refine gT.mono S1 ec fun H2 x2 S2 => ?_
        cases b
        · simp only [Bool.false_eq_true, if_false] at e1 ⊢
          cases e1
          exact q σ1 H2 O1 (s1.trans (.ex x2)) S2 i1
        · simp only [if_true] at e1 ⊢
          cases ef : f τ1 with
          | none => rw [ef] at e1; cases e1
          | some r =>
            rw [ef] at e1
            simp only [Option.bind_some] at e1
            refine ⟨fun σ' H' => ∃ τ2 O2, StR X.K X.prog X.w τ2 σ' H' O2 ∧ Step H O H' O2 ∧ IoOk τ τ2 σ σ' ∧ whL fc f n τ2 = some (o, τ'), fun σ' H' ⟨τ2, O2, a⟩ => ⟨n, Nat.lt_succ_self n, τ2, O2, a⟩, ?_⟩
            refine ⟨τ1, O1, S2, r.1, r.2, ef, fun σ3 H3 O3 s3 S3 i3 => ?_⟩
            have st : Step H O H3 O3 := s1.trans ((Step.ex x2).trans s3)
            cases hr : r.1 with
            | nx => rw [hr] at e1; exact ⟨r.2, O3, S3, st, i1.trans i3, e1⟩
            | ct => rw [hr] at e1; exact ⟨r.2, O3, S3, st, i1.trans i3, e1⟩
            | bk =>
              rw [hr] at e1
              cases e1
              exact q σ3 H3 O3 st S3 (i1.trans i3)
            | ret k t =>
              rw [hr] at e1
              cases e1
              exact (q σ3 H3 O3 st S3 (i1.trans i3)).back (s1.trans (.ex x2))
end Pv
namespace Pv
open PySem PySem.Spec L2

/-! ### what is walked -/
abbrev IX := En → Option (Kd × List PV)
structure SrcP (K : PySem.W.Frag) (P : Program) (w : World) (O : Nat → List Addr) (H : Hp) (J : It) (k : Kd) (ts : List PV) : Prop where
  ex : ∃ A : Addr → Prop, (k ≠ .view → ∀ a, A a → ¬ ow O a) ∧ (∀ a, A a → Mut (H a)) ∧ ∀ H2, (∀ a o, H a = some o → (A a ∨ ¬ Mut (some o)) → H2 a = some o) →
    (∀ i, i < ts.length → J.go i H2) ∧ J.stop ts.length H2 ∧ ∀ (i : Nat) x H3 t, ts[i]? = some t → J.yld i H2 x H3 → Ex H2 H3 ∧ ∃ fp, Rep K P w H3 t x fp ∧ ∀ a ∈ fp, A a
def genI (K : PySem.W.Frag) (P : Program) (w : World) (f : IX) : TI := fun σ H R => ∃ τ O, StR K P w τ σ H O ∧ ∃ k ts, f τ = some (k, ts) ∧ ∀ J H', Ex H H' → SrcP K P w O H' J k ts → R J H'
def SndI (C : Cn) (tg iter : Expr) (f : IX) : Prop := ∀ X, Gd C X → PI X tg iter (genI X.K X.prog X.w f)
theorem PI.weak {X : Cx} {tg e : Expr} {t u : TI} (h : PI X tg e t) (i : ∀ σ H Q, u σ H Q → t σ H Q) : PI X tg e u := ⟨fun pins s σ H Q I q => h.run pins s σ H Q I (i σ H Q q)⟩
theorem PI.or {X : Cx} {tg e : Expr} {t u : TI} (h : PI X tg e t) (h' : PI X tg e u) : PI X tg e (fun σ H R => t σ H R ∨ u σ H R) := ⟨fun pins s σ H Q I q => q.elim (h.run pins s σ H Q I) (h'.run pins s σ H Q I)⟩
/-- items of a list, a tuple, a text -/
def itK : Kd → Kd | .view => .view | _ => .shr
@[simp] def itOf (k : Kd) : PV → Option (Kd × List PV)
  | .lst xs => some (itK k, xs)
  | .fz xs => some (.shr, xs)
  | .tup xs => some (itK k, xs)
  | .str s => some (.shr, s.map fun c => .str [c])
  | _ => none
def iVal (f : PX) : IX := fun τ => (f τ).bind fun r => itOf r.1 r.2
theorem keepA {K : PySem.W.Frag} {H H2 : Hp} {a : Addr} {o : HO} {A : Addr → Prop} (h : ∀ a o, H a = some o → (A a ∨ ¬ Mut (some o)) → H2 a = some o) (e : H a = some o) (m : ¬ Mut (some o)) : H2 a = some o := h a o e (.inr m)
section
variable {K : PySem.W.Frag} {P : Program} {w : World} {H H2 : Hp}
mutual
theorem Rep.keep {A : Addr → Prop} (h : ∀ a o, H a = some o → (A a ∨ ¬ Mut (some o)) → H2 a = some o) : ∀ (t : PV) (v : V) (fp : List Addr), Rep K P w H t v fp → (∀ a ∈ fp, A a) → Rep K P w H2 t v fp
  | .non, v, fp, r, _ => by simpa only [Rep] using r
  | .bl _, v, fp, r, _ => by simpa only [Rep] using r
  | .int _, v, fp, r, _ => by simpa only [Rep] using r
  | .str _, v, fp, r, _ => by simpa only [Rep] using r
  | .lst xs, v, fp, r, n => by
    simp only [Rep] at r ⊢
    obtain ⟨a, vs, g, e, q, r, ef⟩ := r
    subst ef
    exact ⟨a, vs, g, e, h a _ q (.inl (n a List.mem_cons_self)), Reps.keep h xs vs g r fun b hb => n b (List.mem_cons_of_mem _ hb), rfl⟩
  | .fz xs, v, fp, r, n => by
    simp only [Rep] at r ⊢
    obtain ⟨e0, a, vs, e, q, r⟩ := r
    refine ⟨e0, a, vs, e, ?_, Reps.keep h xs vs [] r fun b hb => nomatch hb⟩
    rcases q with ⟨o, q⟩ | q
    · exact .inl ⟨o, h a _ q (.inr fun z => z)⟩
    · exact .inr q
  | .tup xs, v, fp, r, n => by
    simp only [Rep] at r ⊢
    obtain ⟨a, vs, e, q, r⟩ := r
    exact ⟨a, vs, e, h a _ q (.inr fun z => z), Reps.keep h xs vs fp r n⟩
  | .dK ks xs, v, fp, r, n => by
    simp only [Rep] at r ⊢
    obtain ⟨a, vs, g, e, l, q, r, ef⟩ := r
    subst ef
    exact ⟨a, vs, g, e, l, h a _ q (.inl (n a List.mem_cons_self)), Reps.keep h xs vs g r fun b hb => n b (List.mem_cons_of_mem _ hb), rfl⟩
  | .dT ks xs, v, fp, r, n => by
    simp only [Rep] at r ⊢
    obtain ⟨a, vs, g, e, l, q, r, ef⟩ := r
    subst ef
    exact ⟨a, vs, g, e, l, h a _ q (.inl (n a List.mem_cons_self)), Reps.keep h xs vs g r fun b hb => n b (List.mem_cons_of_mem _ hb), rfl⟩
  | .sK ks, v, fp, r, n => by
    simp only [Rep] at r ⊢
    obtain ⟨a, e, nd, q, ef⟩ := r
    subst ef
    exact ⟨a, e, nd, h a _ q (.inl (n a List.mem_cons_self)), rfl⟩
theorem Reps.keep {A : Addr → Prop} (h : ∀ a o, H a = some o → (A a ∨ ¬ Mut (some o)) → H2 a = some o) : ∀ (ts : List PV) (vs : List V) (fp : List Addr), Reps K P w H ts vs fp → (∀ a ∈ fp, A a) → Reps K P w H2 ts vs fp
  | [], vs, fp, r, _ => by simpa only [Reps] using r
  | t :: ts, vs, fp, r, n => by
    simp only [Reps] at r ⊢
    obtain ⟨v, vr, g, k, e, q, r, ef⟩ := r
    subst ef
    exact ⟨v, vr, g, k, e, Rep.keep h t v g q fun b hb => n b (List.mem_append_left _ hb), Reps.keep h ts vr k r fun b hb => n b (List.mem_append_right _ hb), rfl⟩
end
end
/-- the footprint of a result that is walked -/
theorem walk_fp {K : PySem.W.Frag} {P : Program} {w : World} {τ : En} {σ : St} {O : Nat → List Addr} {H0 H' : Hp} {k : Kd} {t : PV} {v : V} (S : StR K P w τ σ H0 O) (r : RepK K P w O H0 H' k t v) : ∃ fp, Rep K P w H' t v fp ∧ (itK k ≠ .view → ∀ a ∈ fp, ¬ ow O a) := by
  cases k with
  | own => obtain ⟨fp, r, _, m⟩ := r; exact ⟨fp, r, fun _ a ha z => mut_none (S.mt a z) (m a ha).2⟩
  | shr => obtain ⟨fp, r, n⟩ := r; exact ⟨fp, r, fun _ => n⟩
  | view => obtain ⟨fp, r⟩ := r; exact ⟨fp, r, fun z => absurd rfl z⟩

theorem sni_val {C : Cn} {tg e : Expr} {f : PX} (h : SndP C e f) : SndI C tg e (iVal f) := fun X G =>
  PI.weak (PI.or (pi_list (h X G)) (PI.or (pi_tup (h X G)) (pi_str (h X G)))) fun σ H R q => by
    obtain ⟨τ, O, S, k, ts, e, q⟩ := q
    unfold iVal at e
    cases ef : f τ with
    | none => rw [ef] at e; cases e
    | some r =>
      rw [ef] at e
      simp only [Option.bind_some] at e
      cases et : r.2 <;> rw [et] at e <;> simp only [itOf, reduceCtorEq] at e <;> cases e
      · -- a text
        rename_i s
        refine .inr (.inr (gP.mono S ef fun v H1 x1 S1 r1 => ?_))
        obtain ⟨fp, r1⟩ := r1.any
        rw [et] at r1
        simp only [Rep] at r1
        refine ⟨mkS s, r1.1, q _ H1 x1 ⟨fun _ => False, fun _ _ z => z.elim, fun _ z => z.elim, fun H2 _ => ⟨fun i hi => ?_, ?_, fun i x H3 t ht hy => ?_⟩⟩⟩
        · show i < (mkS s).cps.size
          rw [List.length_map] at hi
          unfold mkS; simpa using hi
        · show (mkS s).cps.size ≤ (s.map _).length
          unfold mkS; simp
        · obtain ⟨e1, c, hc, e2⟩ := hy
          subst e1
          rw [List.getElem?_map] at ht
          have hc' : s[i]? = some c := by unfold mkS at hc; simpa using hc
          rw [hc'] at ht
          cases ht
          refine ⟨.refl, [], ?_, fun _ z => nomatch z⟩
          rw [e2]
          exact rep_str (s := [c]) (r1.2.1.sub (by have := (List.getElem?_eq_some_iff.mp hc').1; show 1 ≤ s.length; omega) fun d hd => by simp at hd; rw [hd]; exact List.mem_of_getElem? hc')
      · -- a list
        refine .inl (gP.mono S ef fun v H1 x1 S1 r1 => ?_)
        obtain ⟨fp, r1, nw⟩ := walk_fp S r1
        rw [et] at r1
        have r0 := r1
        simp only [Rep] at r1
        obtain ⟨a, vs, f1, ev, hl, rs, ef1⟩ := r1
        refine ⟨a, ev, ⟨vs, SqL.of hl⟩, q _ H1 x1 ⟨fun b => b ∈ fp, nw, fun b hb => rep_mut _ _ _ r0 b hb, fun H2 hk => ?_⟩⟩
        have hl2 : H2 a = some (.lst vs) := hk a _ hl (.inl (by rw [ef1]; exact List.mem_cons_self))
        have rs2 := Reps.keep (A := fun b => b ∈ fp) hk ts vs f1 rs fun b hb => by rw [ef1]; exact List.mem_cons_of_mem _ hb
        refine ⟨fun i hi => ?_, ⟨vs, SqL.of hl2, by rw [rs.length]; exact Nat.le_refl _⟩, fun i x H3 t ht hy => ?_⟩
        · have : i < vs.length := by rw [rs.length]; exact hi
          exact ⟨vs, vs[i], SqL.of hl2, List.getElem?_eq_getElem this⟩
        · obtain ⟨e1, hy⟩ := hy
          subst e1
          obtain ⟨z, g, hz, rz, sz, _⟩ := rs2.get ht
          have := hy vs (SqL.of hl2)
          rw [hz] at this
          cases this
          exact ⟨.refl, g, rz, fun b hb => by rw [ef1]; exact List.mem_cons_of_mem _ (sz b hb)⟩
      · -- a tuple
        refine .inr (.inl (gP.mono S ef fun v H1 x1 S1 r1 => ?_))
        obtain ⟨fp, r1, nw⟩ := walk_fp S r1
        rw [et] at r1
        have r0 := r1
        simp only [Rep] at r1
        obtain ⟨a, vs, ev, hl, rs⟩ := r1
        refine ⟨a, ev, ⟨vs, SqT.of hl⟩, q _ H1 x1 ⟨fun b => b ∈ fp, nw, fun b hb => rep_mut _ _ _ r0 b hb, fun H2 hk => ?_⟩⟩
        have hl2 : H2 a = some (.tup vs) := hk a _ hl (.inr fun z => z)
        have rs2 := Reps.keep (A := fun b => b ∈ fp) hk ts vs fp rs fun b hb => hb
        refine ⟨fun i hi => ?_, ⟨vs, SqT.of hl2, by rw [rs.length]; exact Nat.le_refl _⟩, fun i x H3 t ht hy => ?_⟩
        · have : i < vs.length := by rw [rs.length]; exact hi
          exact ⟨vs, vs[i], SqT.of hl2, List.getElem?_eq_getElem this⟩
        · obtain ⟨e1, hy⟩ := hy
          subst e1
          obtain ⟨z, g, hz, rz, sz, _⟩ := rs2.get ht
          have := hy vs (SqT.of hl2)
          rw [hz] at this
          cases this
          exact ⟨.refl, g, rz, fun b hb => sz b hb⟩
      · -- a list that stays
        refine .inl (gP.mono S ef fun v H1 x1 S1 r1 => ?_)
        obtain ⟨fp, r1, nw⟩ := walk_fp S r1
        rw [et] at r1
        simp only [Rep] at r1
        obtain ⟨_, a, vs, ev, hl, rs⟩ := r1
        refine ⟨a, ev, ⟨vs, hl.sq⟩, q _ H1 x1 ⟨fun _ => False, fun _ _ z => z.elim, fun b z => z.elim, fun H2 hk => ?_⟩⟩
        have hl2 : FzL X.K H2 a vs := by
          rcases hl with ⟨o, hl⟩ | hl
          · exact .inl ⟨o, hk a _ hl (.inr fun z => z)⟩
          · exact .inr hl
        have rs2 := Reps.keep (A := fun _ => False) hk ts vs [] rs fun b hb => nomatch hb
        refine ⟨fun i hi => ?_, ⟨vs, hl2.sq, by rw [rs.length]; exact Nat.le_refl _⟩, fun i x H3 t ht hy => ?_⟩
        · have : i < vs.length := by rw [rs.length]; exact hi
          exact ⟨vs, vs[i], hl2.sq, List.getElem?_eq_getElem this⟩
        · obtain ⟨e1, hy⟩ := hy
          subst e1
          obtain ⟨z, g, hz, rz, sz, _⟩ := rs2.get ht
          have := hy vs hl2.sq
          rw [hz] at this
          cases this
          exact ⟨.refl, g, rz, fun b hb => nomatch sz b hb⟩
/-! ### range -/
def rgL (lo : Int) (n : Nat) : List PV := (List.range n).map fun (i : Nat) => .int (lo + i)
@[simp] def isI : PV → Option Int | .int i => some i | _ => none
def bd62 (i : Int) : Bool := decide (-(2 ^ 62) ≤ i) && decide (i < 2 ^ 62)
def iRg1 (a : PX) : IX := fun τ => (a τ).bind fun x => (isI x.2).bind fun j => if bd62 j then some (.shr, rgL 0 j.toNat) else none
def iRg2 (a b : PX) : IX := fun τ => (a τ).bind fun x => (b τ).bind fun y => (isI x.2).bind fun i => (isI y.2).bind fun j => if bd62 i && bd62 j then some (.shr, rgL i (j - i).toNat) else none
theorem isI_rep {K : PySem.W.Frag} {P : Program} {w : World} {H : Hp} {t : PV} {v : V} {fp : List Addr} {i : Int} (h : isI t = some i) (r : Rep K P w H t v fp) : v = .int i := by
  cases t <;> simp [isI] at h
  subst h
  simp only [Rep] at r
  exact r.1
theorem src_rg {K : PySem.W.Frag} {P : Program} {w : World} {O : Nat → List Addr} {H : Hp} (lo : Int) (n : Nat) : SrcP K P w O H (Itr lo n) .shr (rgL lo n) := by
  refine ⟨fun _ => False, fun _ _ z => z.elim, fun _ z => z.elim, fun H2 _ => ⟨fun i hi => ?_, ?_, fun i x H3 t ht hy => ?_⟩⟩
  · show i < n
    simpa [rgL] using hi
  · show n ≤ (rgL lo n).length
    simp [rgL]
  · obtain ⟨e1, e2⟩ := hy
    subst e1
    unfold rgL at ht
    rw [List.getElem?_map] at ht
    cases h : (List.range n)[i]? with
    | none => rw [h] at ht; cases ht
    | some j =>
      rw [h] at ht
      cases ht
      have : j = i := by
        rw [List.getElem?_range] at h
        · exact (Option.some.inj h).symm
        · have := (List.getElem?_eq_some_iff.mp h).1; simpa using this
      subst this
      exact ⟨.refl, [], by rw [e2]; exact rep_int, fun _ z => nomatch z⟩
theorem sni_rg1 {C : Cn} {tg a : Expr} {f : PX} {p pos : Pos} (hg : glB C.sc "range" = true) (h : SndP C a f) (he : ∀ env, starEach [a] env = (false, eval a env) :: starEach [] env := by exact fun _ => rfl) : SndI C tg (.Call (.Name "range" p) [a] [] pos) (iRg1 f) := fun X G =>
  PI.weak (pi_range1 (gl_of G hg) (G.blt _ (by decide +kernel)) (pa_cons (h X G) pa_nil (he X.env)) (he X.env)) fun σ H R q => by
    obtain ⟨τ, O, S, k, ts, e, q⟩ := q
    unfold iRg1 at e
    cases ef : f τ with
    | none => rw [ef] at e; cases e
    | some r =>
      rw [ef] at e
      simp only [Option.bind_some] at e
      cases ei : isI r.2 with
      | none => rw [ei] at e; cases e
      | some j =>
        rw [ei] at e
        simp only [Option.bind_some] at e
        split at e
        · rename_i hb
          simp only [bd62, Bool.and_eq_true, decide_eq_true_eq] at hb
          cases e
          refine gP.mono S ef fun v H1 x1 S1 r1 => ?_
          obtain ⟨fp, r1⟩ := r1.any
          exact ⟨j, by rw [isI_rep ei r1], hb.1, hb.2, q _ H1 x1 (src_rg 0 _)⟩
        · cases e
theorem sni_rg2 {C : Cn} {tg a b : Expr} {f g : PX} {p pos : Pos} (hg : glB C.sc "range" = true) (h : SndP C a f) (h' : SndP C b g) (he : ∀ env, starEach [a, b] env = (false, eval a env) :: starEach [b] env := by exact fun _ => rfl) (he' : ∀ env, starEach [b] env = (false, eval b env) :: starEach [] env := by exact fun _ => rfl) : SndI C tg (.Call (.Name "range" p) [a, b] [] pos) (iRg2 f g) := fun X G =>
  PI.weak (pi_range2 (gl_of G hg) (G.blt _ (by decide +kernel)) (pa_cons (h X G) (pa_cons (h' X G) pa_nil (he' X.env)) (he X.env)) (by rw [he X.env, he' X.env]; rfl) (he' X.env)) fun σ H R q => by
    obtain ⟨τ, O, S, k, ts, e, q⟩ := q
    unfold iRg2 at e
    cases ef : f τ with
    | none => rw [ef] at e; cases e
    | some r =>
      cases eg : g τ with
      | none => rw [ef, eg] at e; cases e
      | some r' =>
        rw [ef, eg] at e
        simp only [Option.bind_some] at e
        cases ei : isI r.2 with
        | none => rw [ei] at e; cases e
        | some i =>
          cases ej : isI r'.2 with
          | none => rw [ei, ej] at e; cases e
          | some j =>
            rw [ei, ej] at e
            simp only [Option.bind_some] at e
            split at e
            · rename_i hb
              simp only [bd62, Bool.and_eq_true, decide_eq_true_eq] at hb
              cases e
              refine gP.mono S ef fun v H1 x1 S1 r1 => gP.mono S1 eg fun v2 H2 x2 S2 r2 => ?_
              obtain ⟨fp, r1⟩ := r1.any
              obtain ⟨fp2, r2⟩ := r2.any
              exact ⟨i, j, by rw [isI_rep ei r1, isI_rep ej r2], ⟨hb.1.1, hb.1.2, hb.2.1, hb.2.2⟩, q _ H2 (x1.trans x2) (src_rg _ _)⟩
            · cases e
end Pv
namespace Pv
open PySem PySem.Spec L2

/-! ### targets -/
abbrev GX := PV → En → Option En
abbrev GXs := List PV → En → Option En
/-- t is bound (shared): only the slots at is change -/
def genG (K : PySem.W.Frag) (P : Program) (w : World) (is : List Nat) (f : GX) : TG := fun v σ H Q => ∃ τ O t fp, StR K P w τ σ H O ∧ Rep K P w H t v fp ∧ (∀ a ∈ fp, ¬ ow O a) ∧ ∃ τ', f t τ = some τ' ∧
  ∀ σ' O', Step H O H O' → StR K P w τ' σ' H O' → IoOk τ τ' σ σ' → (∀ a, ow O' a → ow O a) → σ'.length = σ.length → (∀ j, j ∉ is → σ'[j]? = σ[j]? ∧ τ'[j]? = τ[j]? ∧ O' j = O j) → Q σ' H
def genGs (K : PySem.W.Frag) (P : Program) (w : World) (is : List Nat) (f : GXs) : TGs := fun vs σ H Q => ∃ τ O ts fp, StR K P w τ σ H O ∧ Reps K P w H ts vs fp ∧ (∀ a ∈ fp, ¬ ow O a) ∧ ∃ τ', f ts τ = some τ' ∧
  ∀ σ' O', Step H O H O' → StR K P w τ' σ' H O' → IoOk τ τ' σ σ' → (∀ a, ow O' a → ow O a) → σ'.length = σ.length → (∀ j, j ∉ is → σ'[j]? = σ[j]? ∧ τ'[j]? = τ[j]? ∧ O' j = O j) → Q σ' H
def SndG (C : Cn) (tg : Expr) (is : List Nat) (f : GX) : Prop := ∀ X, Gd C X → PG X tg (genG X.K X.prog X.w is f)
def SndGs (C : Cn) (tgs : List Expr) (is : List Nat) (f : GXs) : Prop := ∀ X, Gd C X → PGs X tgs (genGs X.K X.prog X.w is f)
theorem PG.weak {X : Cx} {e : Expr} {t u : TG} (h : PG X e t) (i : ∀ v σ H Q, u v σ H Q → t v σ H Q) : PG X e u := ⟨fun pins s σ H v uu Q I r q => h.run pins s σ H v uu Q I r (i v σ H Q q)⟩
theorem PGs.weak {X : Cx} {e : List Expr} {t u : TGs} (h : PGs X e t) (i : ∀ v σ H Q, u v σ H Q → t v σ H Q) : PGs X e u := ⟨fun pins s σ H v uu Q I r q => h.run pins s σ H v uu Q I r (i v σ H Q q)⟩
def gN (i : Nat) : GX := fun t τ => putI τ i (kdOf t .shr) t
theorem sng_name {C : Cn} (i : Nat) {x : Str} {p : Pos} (hN : C.N[i]? = some x) (hx : locB C.sc x = true) (hst : stB C x = true) : SndG C (.Name x p) [i] (gN i) := fun X G =>
  PG.weak (pg_name (i := i) G.nd (by rw [G.N]; exact hN) (locT G hx) (st_of G hst)) fun v σ H Q q => by
    obtain ⟨τ, O, t, fp, S, r, n, τ', e, q⟩ := q
    unfold gN at e
    have rk : RepK X.K X.prog X.w O H H (kdOf t .shr) t v := repK_kd (k := .shr) ⟨fp, r, n⟩
    have hl : i < τ.length := by
      unfold putI at e
      split at e
      · exact lkI_lt (by assumption)
      · cases e
    -- as put_ok, without new objects
    have : ∃ O', Step H O H O' ∧ StR X.K X.prog X.w τ' (σ.set i (some v)) H O' ∧ IoOk τ τ' σ (σ.set i (some v)) ∧ (∀ a, ow O' a → ow O a) ∧ ∀ j, j ≠ i → O' j = O j := by
      obtain ⟨O', s', S', i'⟩ := put_ok S (.refl) rk e
      unfold putI at e
      split at e
      · rename_i hlk
        cases hk : kdOf t .shr with
        | own =>
          rw [hk] at e
          simp only [Option.some.injEq] at e
          have hi : imm t = true := by unfold kdOf at hk; split at hk; assumption; cases hk
          have e0 := imm_fp t v fp hi r
          subst e0; subst e
          refine ⟨upO O i [], ⟨fun _ _ e _ => e, fun a z => .inl (ow_drop z).1⟩, ?_, io_set hlk, fun a z => (ow_drop z).1, fun j hj => upO_ne hj⟩
          exact S.setNew (lkI_lt hlk) r List.nodup_nil (fun _ z => nomatch z) fun j u _ ej => shr_apart (fp := []) S .refl (fun _ z => nomatch z) j u ej
        | shr =>
          rw [hk] at e
          simp only [Option.some.injEq] at e
          subst e
          exact ⟨upO O i [], ⟨fun _ _ e _ => e, fun a z => .inl (ow_drop z).1⟩, S.setShr (lkI_lt hlk) r n, io_set hlk, fun a z => (ow_drop z).1, fun j hj => upO_ne hj⟩
        | view => rw [hk] at e; cases e
      · cases e
    obtain ⟨O', s', S', i', h', k'⟩ := this
    refine q _ O' s' S' i' h' (by simp) fun j hj => ?_
    have hj : i ≠ j := fun z => hj (by simp [z])
    refine ⟨by rw [List.getElem?_set_ne hj], ?_, k' j (Ne.symm hj)⟩
    unfold putI at e
    split at e
    · cases hk : kdOf t .shr <;> rw [hk] at e <;> simp only [Option.some.injEq, reduceCtorEq] at e <;> subst e <;> rw [List.getElem?_set_ne hj]
    · cases e
def gsNil : GXs := fun ts τ => match ts with | [] => some τ | _ => none
def gsCons (f : GX) (g : GXs) : GXs := fun ts τ => match ts with | t :: ts => (f t τ).bind fun τ1 => g ts τ1 | [] => none
theorem sngs_nil {C : Cn} : SndGs C [] [] gsNil := fun X G => PGs.weak pgs_nil fun v σ H Q q => by
  obtain ⟨τ, O, ts, fp, S, r, n, τ', e, q⟩ := q
  unfold gsNil at e
  split at e
  · simp only [Reps] at r
    cases e
    exact ⟨r.1, q σ O .refl S .refl (fun _ z => z) rfl fun _ _ => ⟨rfl, rfl, rfl⟩⟩
  · cases e
theorem sngs_cons {C : Cn} {t : Expr} {ts : List Expr} {is js : List Nat} {f : GX} {g : GXs} (h : SndG C t is f) (hs : SndGs C ts js g) (ha : ∀ env, (assignEach (t :: ts) env).map (·.2) = assign t env :: (assignEach ts env).map (·.2) := by exact fun _ => rfl) : SndGs C (t :: ts) (is ++ js) (gsCons f g) := fun X G =>
  PGs.weak (pgs_cons (h X G) (hs X G) (ha X.env)) fun v σ H Q q => by
    obtain ⟨τ, O, us, fp, S, r, n, τ', e, q⟩ := q
    unfold gsCons at e
    split at e
    · rename_i u us
      simp only [Reps] at r
      obtain ⟨v, vr, f1, f2, rfl, r1, r2, rfl⟩ := r
      cases ef : f u τ with
      | none => rw [ef] at e; cases e
      | some τ1 =>
        rw [ef] at e
        simp only [Option.bind_some] at e
        refine ⟨v, vr, rfl, τ, O, u, f1, S, r1, fun a ha => n a (List.mem_append_left _ ha), τ1, ef, fun σ1 O1 s1 S1 i1 h1 l1 k1 => ?_⟩
        refine ⟨τ1, O1, us, f2, S1, r2, fun a ha z => n a (List.mem_append_right _ ha) (h1 a z), τ', e, fun σ2 O2 s2 S2 i2 h2 l2 k2 => ?_⟩
        refine q σ2 O2 (s1.trans s2) S2 (i1.trans i2) (fun a z => h1 a (h2 a z)) (l2.trans l1) fun j hj => ?_
        have hj1 : j ∉ is := fun z => hj (List.mem_append_left _ z)
        have hj2 : j ∉ js := fun z => hj (List.mem_append_right _ z)
        exact ⟨(k2 j hj2).1.trans (k1 j hj1).1, (k2 j hj2).2.1.trans (k1 j hj1).2.1, (k2 j hj2).2.2.trans (k1 j hj1).2.2⟩
    · cases e
def gTp (f : GXs) : GX := fun t τ => match t with | .tup ts => f ts τ | _ => none
theorem sng_tup {C : Cn} {ts : List Expr} {k : Nat} {p : Pos} {is : List Nat} {f : GXs} (h : SndGs C ts is f) (hn : ∀ us τ τ', f us τ = some τ' → us.length = ts.length) (ha : ∀ env, (assignEach ts env).length = ts.length := by exact fun _ => rfl) (hst : ∀ env, (assignEach ts env).findIdx? (·.1) = none := by exact fun _ => rfl) :
    SndG C (.Tuple ts k p) is (gTp f) := fun X G =>
  PG.weak (pg_tup (n := ts.length) G.calm (h X G) (ha X.env) (hst X.env)) fun v σ H Q q => by
    obtain ⟨τ, O, t, fp, S, r, n, τ', e, q⟩ := q
    unfold gTp at e
    split at e
    · rename_i us
      simp only [Rep] at r
      obtain ⟨a, vs, ev, hl, rs⟩ := r
      exact ⟨a, vs, ev, SqT.of hl, by rw [rs.length]; exact hn us τ τ' e, τ, O, us, fp, S, rs, n, τ', e, q⟩
    · cases e
theorem gs_len_nil : ∀ us τ τ', gsNil us τ = some τ' → us.length = 0 := fun us τ τ' e => by unfold gsNil at e; split at e; rfl; cases e
theorem gs_len_cons {f : GX} {g : GXs} {n : Nat} (h : ∀ us τ τ', g us τ = some τ' → us.length = n) : ∀ us τ τ', gsCons f g us τ = some τ' → us.length = n + 1 := fun us τ τ' e => by
  unfold gsCons at e
  split at e
  · rename_i u us
    cases ef : f u τ with
    | none => rw [ef] at e; cases e
    | some τ1 =>
      rw [ef] at e
      rw [List.length_cons, h us τ1 τ' e]
  · cases e

/-! ### for -/
def forL (g : GX) (f : SX) : List PV → SX
  | [] => fun τ => some (.nx, τ)
  | t :: ts => fun τ => (g t τ).bind fun τ1 => (f τ1).bind fun r => match r.1 with
    | .nx => forL g f ts r.2
    | .ct => forL g f ts r.2
    | .bk => some (.nx, r.2)
    | .ret k u => some (.ret k u, r.2)
def sFor (it : IX) (g : GX) (f : SX) : SX := fun τ => (it τ).bind fun r => if r.1 = .view then none else forL g f r.2 τ
theorem sns_for {C : Cn} {tg iter : Expr} {body : List Stmt} {is : List Nat} {fi : IX} {g : GX} {f : SX} {pos : Pos} (hi : SndI C tg iter fi) (hg : SndG C tg is g) (hb : SndSs C body f) (hs : ∀ env x, foldedSetIterable iter env x = pure x := by exact fun _ _ => rfl) :
    SndS C (.For tg iter body [] pos) (sFor fi g f) := fun X G =>
  PS.weak (ps_for G.po G.calm (hi X G) (hg X G) (hb X G) (hs X.env)) fun D σ H q => by
    obtain ⟨τ, O, S, o, τ', e, q⟩ := q
    unfold sFor at e
    cases ei : fi τ with
    | none => rw [ei] at e; cases e
    | some r =>
      rw [ei] at e
      simp only [Option.bind_some] at e
      split at e
      · cases e
      · rename_i hv
        refine ⟨τ, O, S, r.1, r.2, ei, fun J H0 x0 sp => ?_⟩
        obtain ⟨A, hA, mA, src⟩ := sp.ex
        have nA : ∀ a, A a → ¬ ow O a := hA hv
        have S0 := S.ex x0
        -- what has stayed since the loop's start
        have keep : ∀ {H1 O1}, Step H0 O H1 O1 → ∀ a o, H0 a = some o → (A a ∨ ¬ Mut (some o)) → H1 a = some o := fun {H1 O1} st a o e h => st.fr a o e fun z => by
          rcases h with h | h
          · exact nA a h z
          · have := S0.mt a z; rw [e] at this; exact h this
        have nA1 : ∀ {H1 O1}, Step H0 O H1 O1 → ∀ a, A a → ¬ ow O1 a := fun {H1 O1} st a ha z => by
          rcases st.nw a z with z | z
          · exact nA a ha z
          · exact mut_none (mA a ha) z
        refine ⟨fun i m σ1 H1 => i + m = r.2.length ∧ ∃ τ1 O1, StR X.K X.prog X.w τ1 σ1 H1 O1 ∧ Step H0 O H1 O1 ∧ IoOk τ τ1 σ σ1 ∧ forL g f (r.2.drop i) τ1 = some (o, τ'), ⟨r.2.length, by simp, τ, O, S0, .refl, .refl, by simpa using e⟩, ?_⟩
        rintro i m σ1 H1 ⟨em, τ1, O1, S1, s1, i1, e1⟩
        obtain ⟨go, stop, yld⟩ := src H1 (keep s1)
        by_cases hlt : i < r.2.length
        · have hd : r.2.drop i = r.2[i] :: r.2.drop (i + 1) := List.drop_eq_getElem_cons hlt
          rw [hd] at e1
          simp only [forL] at e1
          cases eg : g r.2[i] τ1 with
          | none => rw [eg] at e1; cases e1
          | some τ2 =>
            rw [eg] at e1
            simp only [Option.bind_some] at e1
            cases ef : f τ2 with
            | none => rw [ef] at e1; cases e1
            | some r' =>
              rw [ef] at e1
              simp only [Option.bind_some] at e1
              refine .inr ⟨go i hlt, fun σ' H' => ∃ τ3 O3, StR X.K X.prog X.w τ3 σ' H' O3 ∧ Step H0 O H' O3 ∧ IoOk τ τ3 σ σ' ∧ forL g f (r.2.drop (i + 1)) τ3 = some (o, τ'), fun σ' H' ⟨τ3, O3, a, b, c, d⟩ => ⟨m - 1, by omega, by omega, τ3, O3, a, b, c, d⟩, fun x H2 hy => ?_⟩
              obtain ⟨x2, fp, rx, hfp⟩ := yld i x H2 _ (List.getElem?_eq_getElem hlt) hy
              have s2 : Step H0 O H2 O1 := s1.trans (.ex x2)
              refine ⟨τ1, O1, r.2[i], fp, S1.ex x2, rx, fun a ha => nA1 s2 a (hfp a ha), τ2, eg, fun σ3 O3 s3 S3 i3 _ _ _ => ?_⟩
              refine ⟨τ2, O3, S3, r'.1, r'.2, ef, fun σ4 H4 O4 s4 S4 i4 => ?_⟩
              have st : Step H0 O H4 O4 := s2.trans (s3.trans s4)
              have io : IoOk τ r'.2 σ σ4 := i1.trans (i3.trans i4)
              cases hr : r'.1 with
              | nx => rw [hr] at e1; exact ⟨r'.2, O4, S4, st, io, e1⟩
              | ct => rw [hr] at e1; exact ⟨r'.2, O4, S4, st, io, e1⟩
              | bk =>
                rw [hr] at e1
                cases e1
                exact q σ4 H4 O4 ((Step.ex x0).trans st) S4 io
              | ret k t =>
                rw [hr] at e1
                cases e1
                exact (q σ4 H4 O4 ((Step.ex x0).trans st) S4 io).back ((Step.ex x0).trans (s2.trans s3))
        · have hi' : i = r.2.length := by omega
          subst hi'
          rw [List.drop_length] at e1
          simp only [forL] at e1
          cases e1
          exact .inl ⟨stop, q σ1 H1 O1 ((Step.ex x0).trans s1) S1 i1⟩
end Pv
namespace Pv
open PySem PySem.Spec L2

/-! ### comprehensions that change nothing -/
@[simp] def wk : Sl → Sl
  | .own t => .shr t
  | .io t => .shr t
  | s => s
@[simp] def wipeE (τ : En) : List Nat → En
  | [] => τ
  | v :: vs => (wipeE τ vs).set v .un
@[simp] def cEnv (τ : En) (vs : List Nat) : En := wipeE (τ.map wk) vs
theorem wipeE_length (τ : En) : ∀ vs, (wipeE τ vs).length = τ.length
  | [] => rfl
  | v :: vs => by unfold wipeE; rw [List.length_set, wipeE_length τ vs]
theorem wipeE_shr {τ : En} {i : Nat} {t : PV} : ∀ {vs : List Nat}, (wipeE τ vs)[i]? = some (Sl.shr t) → τ[i]? = some (Sl.shr t) ∧ i ∉ vs
  | [], h => ⟨h, by simp⟩
  | v :: vs, h => by
    unfold wipeE at h
    rcases set_get h with ⟨_, b⟩ | ⟨a, b⟩
    · cases b
    · obtain ⟨h1, h2⟩ := wipeE_shr b
      exact ⟨h1, by simp only [List.mem_cons, not_or]; exact ⟨a, h2⟩⟩
theorem wipeE_not {τ : En} {i : Nat} (h : ∀ (j : Nat) (t : PV), τ[j]? ≠ some (Sl.own t) ∧ τ[j]? ≠ some (Sl.io t)) : ∀ (vs : List Nat) (j : Nat) (t : PV), (wipeE τ vs)[j]? ≠ some (Sl.own t) ∧ (wipeE τ vs)[j]? ≠ some (Sl.io t)
  | [], j, t => h j t
  | v :: vs, j, t => by
    unfold wipeE
    have ih := wipeE_not (i := i) h vs j t
    constructor
    · intro q
      rcases set_get q with ⟨_, b⟩ | ⟨_, b⟩
      · cases b
      · exact ih.1 b
    · intro q
      rcases set_get q with ⟨_, b⟩ | ⟨_, b⟩
      · cases b
      · exact ih.2 b
theorem map_wk (τ : En) (j : Nat) (t : PV) : (τ.map wk)[j]? ≠ some (Sl.own t) ∧ (τ.map wk)[j]? ≠ some (Sl.io t) := by
  rw [List.getElem?_map]
  cases τ[j]? with
  | none => exact ⟨(nomatch ·), (nomatch ·)⟩
  | some s => cases s <;> exact ⟨(nomatch ·), (nomatch ·)⟩
section
variable {K : PySem.W.Frag} {P : Program} {w : World} {τ : En} {σ : St} {H H' : Hp} {O : Nat → List Addr}
/-- all slots shared, the new list at D the only thing that may change -/
def OD (n : Nat) (D : Addr) : Nat → List Addr := fun j => if j = n then [D] else []
theorem ow_OD {n : Nat} {D a : Addr} : ow (OD n D) a ↔ a = D := by
  constructor
  · rintro ⟨j, hj⟩
    unfold OD at hj
    split at hj
    · simpa using hj
    · cases hj
  · rintro rfl
    exact ⟨n, by unfold OD; simp⟩
theorem StR.cen (S : StR K P w τ σ H O) (x : Ex H H') (vs : List Nat) (n : Nat) {D : Addr} (hD : H D = none) (mD : Mut (H' D)) : StR K P w (cEnv τ vs) (wipe σ vs) H' (OD n D) := by
  have no := wipeE_not (i := 0) (map_wk τ) vs
  refine ⟨by unfold cEnv; rw [wipeE_length, List.length_map, wipe_length, S.len], fun i t e => ?_, fun i t e => ?_, fun j => ?_, fun j l a h1 h2 => ?_, fun a z => ?_⟩
  · rcases e with e | e
    · exact ((no i t).1 e).elim
    · exact ((no i t).2 e).elim
  · obtain ⟨h1, h2⟩ := wipeE_shr e
    rw [List.getElem?_map] at h1
    have : ∃ v fp, σ[i]? = some (some v) ∧ Rep K P w H t v fp := by
      cases hs : τ[i]? with
      | none => rw [hs] at h1; cases h1
      | some s =>
        rw [hs] at h1
        cases s <;> simp only [Option.map_some, wk, Option.some.injEq, reduceCtorEq, Sl.shr.injEq] at h1
        · subst h1
          obtain ⟨v, ev, r⟩ := S.own i _ (.inl hs)
          exact ⟨v, _, ev, r⟩
        · subst h1
          obtain ⟨v, fp, ev, r, _⟩ := S.shr i _ hs
          exact ⟨v, fp, ev, r⟩
        · subst h1
          obtain ⟨v, ev, r⟩ := S.own i _ (.inr hs)
          exact ⟨v, _, ev, r⟩
    obtain ⟨v, fp, ev, r⟩ := this
    refine ⟨v, fp, by rw [wipe_out h2]; exact ev, r.ex x, fun a ha z => ?_⟩
    rw [ow_OD] at z
    subst z
    exact mut_none (rep_mut _ _ _ r a ha) hD
  · unfold OD; split <;> simp
  · unfold OD at h1 h2
    split at h1
    · split at h2
      · omega
      · cases h2
    · cases h1
  · rw [ow_OD] at z
    rw [z]; exact mD
end
def compL (g : GX) (cd : TX) (el : PX) (τ : En) : List PV → Option (List (Kd × PV))
  | [] => some []
  | t :: ts => (g t τ).bind fun τ1 => (cd τ1).bind fun b => if b then (el τ1).bind fun r => if r.1 = .view then none else (compL g cd el τ ts).bind fun rs => some (r :: rs) else compL g cd el τ ts
def eComp (it : IX) (vs : List Nat) (g : GX) (cd : TX) (el : PX) : PX := fun τ => (it τ).bind fun r => if r.2.length ≤ 16777216 then (compL g cd el (cEnv τ vs) r.2).bind fun rs => some (if kds rs = .own then .own else .view, .lst (rs.map (·.2))) else none
theorem compL_len {g : GX} {cd : TX} {el : PX} {τ : En} : ∀ {ts : List PV} {rs : List (Kd × PV)}, compL g cd el τ ts = some rs → rs.length ≤ ts.length
  | [], rs, e => by simp only [compL, Option.some.injEq] at e; rw [← e]; exact Nat.le_refl _
  | t :: ts, rs, e => by
    simp only [compL] at e
    cases eg : g t τ with
    | none => rw [eg] at e; cases e
    | some τ1 =>
      rw [eg] at e
      simp only [Option.bind_some] at e
      cases ec : cd τ1 with
      | none => rw [ec] at e; cases e
      | some b =>
        rw [ec] at e
        simp only [Option.bind_some] at e
        split at e
        · cases ee : el τ1 with
          | none => rw [ee] at e; cases e
          | some r =>
            rw [ee] at e
            simp only [Option.bind_some] at e
            split at e
            · cases e
            · cases er : compL g cd el τ ts with
              | none => rw [er] at e; cases e
              | some rs' =>
                rw [er] at e; cases e
                have := compL_len er
                simp only [List.length_cons]; omega
        · have := compL_len e
          simp only [List.length_cons]; omega
/-- a comprehension's tests -/
def SndTs (C : Cn) (ifs : List Expr) (f : TX) : Prop := ∀ X, Gd C X → PTs X ifs (gT X f)
def tYesC : TX := fun _ => some true
theorem PTs.weak {X : Cx} {es : List Expr} {t u : TT} (h : PTs X es t) (i : ∀ σ H Q, u σ H Q → t σ H Q) : PTs X es u := ⟨fun pins s σ H Q I q => h.run pins s σ H Q I (i σ H Q q)⟩
theorem snts_nil {C : Cn} : SndTs C [] tYesC := fun X G => PTs.weak pts_nil fun σ H Q q => by
  obtain ⟨τ, O, S, b, e, q⟩ := q
  cases e
  exact q H .refl
theorem snts_one {C : Cn} {c : Expr} {f : TX} (h : SndT C c f) : SndTs C [c] f := fun X G => pts_one (h X G)
/-- the block's place -/
def Cn.blk (C : Cn) (scope : Scope) : Cn := { C with sc := relS scope C.sc, fn := fun x => scope.names.lookup x == some .cell }
theorem Gd.blk {C : Cn} {X : Cx} (G : Gd C X) (scope : Scope) (s : Shared) (H : Hp) (a : Addr) (cl : List (Str × Addr)) (fp : List Addr) : Gd (C.blk scope) (X.blk s H scope (compEnvC scope cl a X.env) fp) :=
  ⟨G.calm, G.nd, G.N, by show (compEnvC scope cl a X.env).scope = _; unfold compEnvC Cn.blk; rw [← G.sc]; rfl, rfl, PassesOwn.never, G.un, G.blt, G.fns⟩
theorem wipe_eq {σ σ' : St} {vs : List Nat} (hl : σ'.length = σ.length) (h : ∀ j, j ∉ vs → σ'[j]? = σ[j]?) : wipe σ' vs = wipe σ vs := by
  refine List.ext_getElem? fun i => ?_
  by_cases hi : i ∈ vs
  · have key : ∀ (σ : St) (vs : List Nat), i ∈ vs → (wipe σ vs)[i]? = if i < σ.length then some none else none := by
      intro σ vs
      induction vs with
      | nil => intro h; cases h
      | cons v vs ih =>
        intro h
        unfold wipe
        by_cases e : v = i
        · subst e
          rw [List.getElem?_set]
          rw [if_pos rfl, wipe_length]
        · rw [List.getElem?_set_ne e]
          exact ih ((List.mem_cons.mp h).resolve_left (Ne.symm e))
    rw [key σ' vs hi, key σ vs hi, hl]
  · rw [wipe_out hi, wipe_out hi, h i hi]
theorem wipe_wipe {σ : St} {vs : List Nat} : wipe (wipe σ vs) vs = wipe σ vs := wipe_eq (wipe_length _ _) fun j hj => wipe_out hj
/-- what a comprehension has made so far -/
def Acc (K : PySem.W.Frag) (P : Program) (w : World) (H0 H : Hp) (D : Addr) (rs : List (Kd × PV)) (acc : List V) : Prop :=
  ∃ fp, Reps K P w H (rs.map (·.2)) acc fp ∧ D ∉ fp ∧ (kds rs = .own → fp.Nodup ∧ ∀ a ∈ fp, H0 a = none)
theorem kds_app : ∀ (xs ys : List (Kd × PV)), kds (xs ++ ys) = .own ↔ kds xs = .own ∧ kds ys = .own
  | [], ys => by simp [kds]
  | x :: xs, ys => by
    have ih := kds_app xs ys
    simp only [List.cons_append, kds]
    cases x.1 <;> cases h1 : kds (xs ++ ys) <;> cases h2 : kds xs <;> cases h3 : kds ys <;> rw [h1, h2, h3] at ih <;> simp [Kd.max] at ih ⊢
theorem tLc_ok {X : Cx} {it : IX} {vs is : List Nat} {g : GX} {cd : TX} {el : PX} {σ : St} {H : Hp} {Q : VK} (hv : ∀ i ∈ is, i ∈ vs) (q : gP X (eComp it vs g cd el) σ H Q) :
    tLc (genI X.K X.prog X.w it) (genG X.K X.prog X.w is g) (gT X cd) (gP X el) vs σ H Q := by
  obtain ⟨τ, O, S, k, t, e, q⟩ := q
  unfold eComp at e
  cases ei : it τ with
  | none => rw [ei] at e; cases e
  | some r =>
    rw [ei] at e
    simp only [Option.bind_some] at e
    split at e
    · rename_i hsz
      cases er : compL g cd el (cEnv τ vs) r.2 with
      | none => rw [er] at e; cases e
      | some rs =>
        rw [er] at e
        cases e
        refine ⟨τ, O, S, r.1, r.2, ei, fun J H1 x1 sp D hD => ?_⟩
        obtain ⟨A, _, mA, src⟩ := sp.ex
        obtain ⟨n, hn⟩ : ∃ n, n ∉ is := ⟨is.sum + 1, fun z => by
          have : ∀ (l : List Nat) x, x ∈ l → x ≤ l.sum := fun l => by
            induction l with
            | nil => intro x hx; cases hx
            | cons y l ih =>
              intro x hx
              rw [List.sum_cons]
              rcases List.mem_cons.mp hx with z | z
              · omega
              · have := ih x z; omega
          have := this is _ z
          omega⟩
        have nAD : ¬ A D := fun z => mut_none (mA D z) hD
        have HD0 : H D = none := none_ex hD x1
        let HB := upd H1 D (.lst [])
        have xB : Ex H1 HB := Ex.upd hD
        have mono : ∀ H2, Step HB (OD n D) H2 (OD n D) → ∀ a o, H1 a = some o → H2 a = some o := fun H2 st a o e => by
          have ne : a ≠ D := fun z => by subst z; rw [hD] at e; cases e
          exact st.fr a o (by show upd H1 D _ a = _; rw [upd_ne ne]; exact e) fun z => ne (ow_OD.mp z)
        refine ⟨fun i m H2 => i + m = r.2.length ∧ ∃ done rest acc, done ++ rest = rs ∧ compL g cd el (cEnv τ vs) (r.2.drop i) = some rest ∧ done.length ≤ i ∧ H2 D = some (.lst acc) ∧ Step HB (OD n D) H2 (OD n D) ∧ Acc X.K X.prog X.w H H2 D done acc,
          ⟨r.2.length, by simp, [], rs, [], rfl, by simpa using er, Nat.zero_le _, upd_same, .refl, [], by simp [Reps], by simp, fun _ => ⟨List.nodup_nil, fun _ z => nomatch z⟩⟩, ?_⟩
        rintro i m H2 ⟨em, done, rest, acc, ed, ec, hdl, hacc, st, AC⟩
        obtain ⟨go, stop, yld⟩ := src H2 fun a o e _ => mono H2 st a o e
        have xx : Ex H H2 := fun a o e => mono H2 st a o (x1 a o e)
        by_cases hlt : i < r.2.length
        · have hd : r.2.drop i = r.2[i] :: r.2.drop (i + 1) := List.drop_eq_getElem_cons hlt
          rw [hd] at ec
          simp only [compL] at ec
          cases eg : g r.2[i] (cEnv τ vs) with
          | none => rw [eg] at ec; cases ec
          | some τ1 =>
            rw [eg] at ec
            simp only [Option.bind_some] at ec
            cases ect : cd τ1 with
            | none => rw [ect] at ec; cases ec
            | some b =>
              rw [ect] at ec
              simp only [Option.bind_some] at ec
              refine .inr ⟨go i hlt, fun H3 => ∃ done rest acc, done ++ rest = rs ∧ compL g cd el (cEnv τ vs) (r.2.drop (i + 1)) = some rest ∧ done.length ≤ i + 1 ∧ H3 D = some (.lst acc) ∧ Step HB (OD n D) H3 (OD n D) ∧ Acc X.K X.prog X.w H H3 D done acc, fun H3 h => ⟨m - 1, by omega, by omega, h⟩, fun x H3 hy => ?_⟩
              obtain ⟨x3, fp, rx, hfp⟩ := yld i x H3 _ (List.getElem?_eq_getElem hlt) hy
              have mD3 : Mut (H3 D) := by rw [x3 D _ hacc]; trivial
              have S3 := S.cen (xx.trans x3) vs n HD0 mD3
              refine ⟨cEnv τ vs, OD n D, r.2[i], fp, S3, rx, fun a ha z => nAD (by rw [ow_OD] at z; rw [← z]; exact hfp a ha), τ1, eg, fun σ4 O4 s4 S4 i4 h4 l4 k4 => ⟨?_, ?_⟩⟩
              · rw [wipe_eq l4 fun j hj => (k4 j fun z => hj (hv j z)).1, wipe_wipe]
              · refine gT.mono S4 ect fun H5 x5 S5 => ?_
                have ow4 : ∀ a, ow O4 a → a = D := fun a z => ow_OD.mp (h4 a z)
                have st5 : Step HB (OD n D) H5 (OD n D) := st.trans ((Step.ex x3).trans (.ex x5))
                obtain ⟨fa, ra, nD, oa⟩ := AC
                cases b
                · simp only [Bool.false_eq_true, if_false] at ec ⊢
                  exact ⟨done, rest, acc, ed, ec, by omega, x5 D _ (x3 D _ hacc), st5, fa, (ra.ex x3).ex x5, nD, oa⟩
                · simp only [if_true] at ec ⊢
                  cases ee : el τ1 with
                  | none => rw [ee] at ec; cases ec
                  | some u =>
                    rw [ee] at ec
                    simp only [Option.bind_some] at ec
                    split at ec
                    · cases ec
                    rename_i hnv
                    cases ert : compL g cd el (cEnv τ vs) (r.2.drop (i + 1)) with
                    | none => rw [ert] at ec; cases ec
                    | some rest' =>
                      rw [ert] at ec
                      cases ec
                      refine gP.mono S5 ee fun y H6 x6 S6 r6 => ⟨acc, x6 D _ (x5 D _ (x3 D _ hacc)), ?_, ?_⟩
                      · rw [ra.length, List.length_map, sl_eq]
                        omega
                      · have st6 : Step HB (OD n D) H6 (OD n D) := st5.trans (.ex x6)
                        have hD6 : H6 D = some (.lst acc) := x6 D _ (x5 D _ (x3 D _ hacc))
                        have up : Step H6 (OD n D) (upd H6 D (.lst (acc ++ [y]))) (OD n D) := ⟨fun a o e n => by rw [upd_ne fun z => n (ow_OD.mpr z)]; exact e, fun a z => .inl z⟩
                        -- the item's footprint
                        have : ∃ fy, Rep X.K X.prog X.w H6 u.2 y fy ∧ D ∉ fy ∧ (u.1 = .own → fy.Nodup ∧ ∀ a ∈ fy, H5 a = none) := by
                          cases hk : u.1 with
                          | own =>
                            rw [hk] at r6
                            obtain ⟨fy, a, b, c⟩ := r6
                            refine ⟨fy, a, fun z => ?_, fun _ => ⟨b, fun z hz => (c z hz).2⟩⟩
                            have := (c D z).2
                            rw [x5 D _ (x3 D _ hacc)] at this
                            cases this
                          | shr =>
                            rw [hk] at r6
                            obtain ⟨fy, a, b⟩ := r6
                            exact ⟨fy, a, fun z => b D z ⟨n, by rw [(k4 n hn).2.2]; unfold OD; simp⟩, fun z => nomatch z⟩
                          | view => exact absurd hk hnv
                        obtain ⟨fy, ry, nDy, oy⟩ := this
                        have fr1 : Fr (ow (OD n D)) H6 (upd H6 D (.lst (acc ++ [y]))) := up.fr
                        have mO : ∀ a, ow (OD n D) a → Mut (H6 a) := fun a z => by rw [ow_OD.mp z, hD6]; trivial
                        refine ⟨done ++ [u], rest', acc ++ [y], by rw [← ed]; simp, rfl, by simp; omega, upd_same, st6.trans up, fa ++ fy, ?_, ?_, fun hk => ?_⟩
                        · rw [List.map_append]
                          refine Reps.append (Reps.fr mO fr1 _ _ _ (((ra.ex x3).ex x5).ex x6) fun a ha z => nD (by rw [← ow_OD.mp z]; exact ha)) (Reps.one (Rep.fr mO fr1 _ _ _ ry fun a ha z => nDy (by rw [← ow_OD.mp z]; exact ha)))
                        · simp [nD, nDy]
                        · obtain ⟨k1, k2⟩ := (kds_app done [u]).mp hk
                          have ku : u.1 = .own := kds_own k2 u (by simp)
                          obtain ⟨n1, m1⟩ := oa k1
                          obtain ⟨n2, m2⟩ := oy ku
                          refine ⟨List.nodup_append.mpr ⟨n1, n2, fun a ha b hb e => ?_⟩, fun a ha => ?_⟩
                          · subst e
                            exact mut_none (reps_mut _ _ _ ((ra.ex x3).ex x5) a ha) (m2 a hb)
                          · rcases List.mem_append.mp ha with z | z
                            · exact m1 a z
                            · exact none_ex (m2 a z) (xx.trans (x3.trans x5))
        · have hi' : i = r.2.length := by omega
          subst hi'
          rw [List.drop_length] at ec
          simp only [compL] at ec
          cases ec
          rw [List.append_nil] at ed
          subst ed
          refine .inl ⟨stop, q _ H2 xx ?_⟩
          obtain ⟨fa, ra, nD, oa⟩ := AC
          have rp : Rep X.K X.prog X.w H2 (.lst (done.map (·.2))) (.ref D) (D :: fa) := by
            simp only [Rep]
            exact ⟨D, acc, fa, rfl, hacc, ra, rfl⟩
          split
          · rename_i hk
            obtain ⟨n1, m1⟩ := oa hk
            refine ⟨D :: fa, rp, List.nodup_cons.mpr ⟨nD, n1⟩, fun a ha => ⟨rep_mut _ _ _ rp a ha, ?_⟩⟩
            rcases List.mem_cons.mp ha with z | z
            · rw [z]; exact HD0
            · exact m1 a z
          · exact ⟨_, rp⟩
    · cases e

theorem snd_comp {C : Cn} {elt tg iter : Expr} {ifs : List Expr} {scope : Scope} {pos : Pos} {it : IX} {is : List Nat} {g : GX} {cd : TX} {el : PX} (own : List (Str × Nat)) (hi : SndI C tg iter it) (ok : blkC C.N C.sc scope own = true) (hg : SndG (C.blk scope) tg is g)
    (ht : SndTs (C.blk scope) ifs cd) (he : SndP (C.blk scope) elt el) (hv : ∀ i ∈ is, i ∈ own.map (·.2)) (hs : ∀ env x, foldedSetIterable iter env x = pure x := by exact fun _ _ => rfl) : SndP C (.ListComp elt [⟨tg, iter, ifs, 0⟩] scope pos) (eComp it (own.map (·.2)) g cd el) := fun X G =>
  PE.weak (pe_lc G.calm G.nd (hi X G) (by rw [G.N, G.sc]; exact blkOk_by ok) (fun s H a cl fp => hg _ (G.blk scope s H a cl fp)) (fun s H a cl fp => ht _ (G.blk scope s H a cl fp)) (fun s H a cl fp => he _ (G.blk scope s H a cl fp)) (hs X.env)) fun σ H Q q => tLc_ok hv q
theorem asg_core {X : Cx} {st : Stmt} {i : Nat} {te : TE} {f : PX} (h : PS X st (tAsg te (gName i))) (hw : ∀ σ H Q, gP X f σ H Q → te σ H Q) : PS X st (gS X (sAsg i f)) :=
  PS.weak h fun D σ H q => by
    obtain ⟨τ, O, S, o, τ', e, q⟩ := q
    unfold sAsg at e
    cases ef : f τ with
    | none => rw [ef] at e; cases e
    | some r =>
      rw [ef] at e
      simp only [Option.bind_some] at e
      cases ep : putI τ i r.1 r.2 with
      | none => rw [ep] at e; cases e
      | some τ1 =>
        rw [ep] at e; cases e
        refine hw _ _ _ ⟨τ, O, S, r.1, r.2, ef, fun v H1 x1 r1 => ?_⟩
        obtain ⟨O1, s1, S1, i1⟩ := put_ok S x1 r1 ep
        exact q _ H1 O1 s1 S1 i1
/-- name = [..], the name a plain local one -/
theorem sns_asgLc {C : Cn} (i : Nat) {y : Str} {py : Pos} {elt tg iter : Expr} {ifs : List Expr} {scope : Scope} {pos spos : Pos} {it : IX} {is : List Nat} {g : GX} {cd : TX} {el : PX} (own : List (Str × Nat)) (hy : C.N[i]? = some y) (hk : C.sc.kind = .function) (hyl : C.sc.names.lookup y = some .local)
    (hl : (py.line == pos.line) = true) (ha : (scope.names.any fun (n, k) => n == y && (k == .local || k == .cell)) = false)
    (hi : SndI C tg iter it) (ok : blkC C.N C.sc scope own = true) (hg : SndG (C.blk scope) tg is g)
    (ht : SndTs (C.blk scope) ifs cd) (he : SndP (C.blk scope) elt el) (hv : ∀ i ∈ is, i ∈ own.map (·.2)) (hs : ∀ env x, foldedSetIterable iter env x = pure x := by exact fun _ _ => rfl) :
    SndS C (.Assign [.Name y py] (.ListComp elt [⟨tg, iter, ifs, 0⟩] scope pos) spos) (sAsg i (eComp it (own.map (·.2)) g cd el)) := fun X G =>
  asg_core (ps_setLc G.calm G.nd (by rw [G.N]; exact hy) (by rw [G.sc]; exact hyl) (sw_true (by rw [G.sc]; exact hk) (by rw [G.sc]; exact hyl) hl ha) (hi X G) (by rw [G.N, G.sc]; exact blkOk_by ok) (fun s H a cl fp => hg _ (G.blk scope s H a cl fp)) (fun s H a cl fp => ht _ (G.blk scope s H a cl fp))
    (fun s H a cl fp => he _ (G.blk scope s H a cl fp)) (hs X.env)) fun σ H Q q => tLc_ok hv q
end Pv
namespace Pv
open PySem PySem.Spec L2

/-! ### the program's defs -/
structure FE where
  nm : String
  ps : List Str
  N : List Str
  st : Stmt
  body : Tbl → SX
@[simp] def outs : List Sl → En → List Sl
  | [], _ => []
  | _ :: as, [] => .un :: outs as []
  | .io _ :: as, .io t :: τ => .io t :: outs as τ
  | _ :: as, _ :: τ => .un :: outs as τ
def runF (e : FE) (T : Tbl) (as : List Sl) : Option (Kd × PV × List Sl) :=
  if as.length = e.ps.length then (e.body T (as ++ List.replicate (e.N.length - as.length) .un)).bind fun r => match r.1 with
    | .nx => some (.own, .non, outs as r.2)
    | .ret k t => some (k, t, outs as r.2)
    | _ => none
  else none
def lkF (tab : List FE) (x : String) : Option FE := tab.find? fun e => e.nm == x
def arOf (tab : List FE) (x : String) : Option (List Str) := (lkF tab x).map (·.ps)
def semK (tab : List FE) : Nat → String → List Sl → Option (Kd × PV × List Sl)
  | 0, _, _ => none
  | k + 1, x, as => (lkF tab x).bind fun e => runF e ⟨semK tab k, arOf tab⟩ as
def tblK (tab : List FE) (k : Nat) : Tbl := ⟨semK tab k, arOf tab⟩
structure FEok (ar : String → Option (List Str)) (e : FE) : Prop where
  S : FnScope e.N e.ps (defScope e.st)
  snd : ∀ T : Tbl, T.ar = ar → SndSs ⟨e.N, defScope e.st, fun _ => true, T⟩ (defBody e.st) (e.body T)
  bnd : ∀ (kV doc pm : Value) (an : Option Addr) (cdv ct : Value) (us : List Value), us.length = e.ps.length →
    bindArgs (PySem.W.fnOf (Str.ofString e.nm) (Str.ofString e.nm) (defArgs e.st) (defBody e.st) (defScope e.st) .none kV doc pm an cdv ct) ⟨us, []⟩ = pure (e.ps.zip us)
def FEoks (ar : String → Option (List Str)) : List FE → Prop
  | [] => True
  | e :: es => FEok ar e ∧ FEoks ar es
theorem FEoks.mem {ar : String → Option (List Str)} : ∀ {l : List FE}, FEoks ar l → ∀ e ∈ l, FEok ar e
  | _ :: _, ⟨h, hs⟩, e, he => by
    rcases List.mem_cons.mp he with z | z
    · rw [z]; exact h
    · exact hs.mem e z
/-- where the defs stand -/
structure Place (tab : List FE) (K : PySem.W.Frag) (mg : Str → Option Value) : Prop where
  fn : ∀ e ∈ tab, ∃ (f : Addr) (fd : FuncData), FunD K (Str.ofString e.nm) (Str.ofString e.nm) (defArgs e.st) (defBody e.st) (defScope e.st) [] [] f fd ∧ mg (Str.ofString e.nm) = some (.ref f)
  blt : ∀ x ∈ bltNames, mg x = none
section
variable {K : PySem.W.Frag} {P : Program} {w : World} {τ τ' : En} {σ σ' : St} {H H' : Hp} {O O' : Nat → List Addr}
theorem getElem?_pad {α : Type} {as : List α} {n : Nat} {u : α} {i : Nat} {s : α} (h : (as ++ List.replicate n u)[i]? = some s) : (as[i]? = some s) ∨ s = u := by
  by_cases hi : i < as.length
  · rw [List.getElem?_append_left hi] at h; exact .inl h
  · rw [List.getElem?_append_right (by omega)] at h
    rw [List.getElem?_replicate] at h
    split at h
    · cases h; exact .inr rfl
    · cases h
theorem start_get {N : List Str} {vs : List V} {i : Nat} {v : V} (h : (vs.map some)[i]? = some (some v)) : (L2.start N vs)[i]? = some (some v) := by
  unfold L2.start
  rw [List.getElem?_append_left (by have := (List.getElem?_eq_some_iff.mp h).1; exact this)]
  exact h
theorem StR.start {as : List Sl} {vs : List V} {N : List Str} (S : StR K P w as (vs.map some) H O) : StR K P w (as ++ List.replicate (N.length - as.length) .un) (L2.start N vs) H O := by
  have hl : as.length = vs.length := by have := S.len; simpa using this
  refine ⟨by unfold L2.start; simp [hl], fun i t e => ?_, fun i t e => ?_, S.nod, S.dis, S.mt⟩
  · have : as[i]? = some (.own t) ∨ as[i]? = some (.io t) := by
      rcases e with e | e
      · rcases getElem?_pad e with z | z
        · exact .inl z
        · cases z
      · rcases getElem?_pad e with z | z
        · exact .inr z
        · cases z
    obtain ⟨v, ev, r⟩ := S.own i t this
    exact ⟨v, start_get ev, r⟩
  · rcases getElem?_pad e with z | z
    · obtain ⟨v, fp, ev, r, n⟩ := S.shr i t z
      exact ⟨v, fp, start_get ev, r, n⟩
    · cases z
theorem outs_len : ∀ (as : List Sl) (τ : En), (outs as τ).length = as.length
  | [], _ => rfl
  | .un :: as, [] => by simp [outs, outs_len as]
  | .own _ :: as, [] => by simp [outs, outs_len as]
  | .shr _ :: as, [] => by simp [outs, outs_len as]
  | .io _ :: as, [] => by simp [outs, outs_len as]
  | .un :: as, s :: τ => by simp [outs, outs_len as]
  | .own _ :: as, s :: τ => by simp [outs, outs_len as]
  | .shr _ :: as, s :: τ => by simp [outs, outs_len as]
  | .io _ :: as, s :: τ => by cases s <;> simp [outs, outs_len as]
theorem outs_get : ∀ {as : List Sl} {τ : En} {i : Nat} {s : Sl}, (outs as τ)[i]? = some s → s = .un ∨ ∃ t t', s = .io t ∧ τ[i]? = some (.io t) ∧ as[i]? = some (.io t')
  | [], τ, i, s, h => by simp [outs] at h
  | a :: as, [], 0, s, h => by cases a <;> simp [outs] at h <;> exact .inl h.symm
  | a :: as, [], i + 1, s, h => by
    have h : (outs as [])[i]? = some s := by cases a <;> simpa [outs] using h
    rcases outs_get h with z | ⟨t, t', _, z, _⟩
    · exact .inl z
    · simp at z
  | a :: as, b :: τ, 0, s, h => by
    cases a with
    | io t' =>
      cases b with
      | io t => simp [outs] at h; exact .inr ⟨t, t', h.symm, rfl, rfl⟩
      | un => simp [outs] at h; exact .inl h.symm
      | own _ => simp [outs] at h; exact .inl h.symm
      | shr _ => simp [outs] at h; exact .inl h.symm
    | un => simp [outs] at h; exact .inl h.symm
    | own _ => simp [outs] at h; exact .inl h.symm
    | shr _ => simp [outs] at h; exact .inl h.symm
  | a :: as, b :: τ, i + 1, s, h => by
    have h : (outs as τ)[i]? = some s := by
      cases a <;> cases b <;> simpa [outs] using h
    rcases outs_get h with z | ⟨t, t', e, z, z'⟩
    · exact .inl z
    · exact .inr ⟨t, t', e, by simpa using z, by simpa using z'⟩
theorem StR.outs {as : List Sl} {vs : List V} {N : List Str} (S0 : StR K P w as (vs.map some) H O) (S : StR K P w τ' σ' H' O') (io : IoOk (as ++ List.replicate (N.length - as.length) .un) τ' (L2.start N vs) σ') : StR K P w (outs as τ') (vs.map some) H' O' := by
  have hl : as.length = vs.length := by have := S0.len; simpa using this
  refine ⟨by rw [outs_len, List.length_map, hl], fun i t e => ?_, fun i t e => ?_, S.nod, S.dis, S.mt⟩
  · rcases e with e | e
    · rcases outs_get e with z | ⟨_, _, z, _⟩ <;> cases z
    · rcases outs_get e with z | ⟨t1, t', z, h1, h2⟩
      · cases z
      · cases z
        obtain ⟨v, ev, r⟩ := S.own i t (.inr h1)
        have hi : i < as.length := (List.getElem?_eq_some_iff.mp h2).1
        have es := (io i t' (by rw [List.getElem?_append_left hi]; exact h2)).2
        rw [es] at ev
        refine ⟨v, ?_, r⟩
        unfold L2.start at ev
        rw [List.getElem?_append_left (by simp; omega)] at ev
        exact ev
  · rcases outs_get e with z | ⟨_, _, z, _⟩ <;> cases z
end
theorem lkF_mem {tab : List FE} {x : String} {e : FE} (h : lkF tab x = some e) : e ∈ tab ∧ e.nm = x := by
  unfold lkF at h
  exact ⟨List.mem_of_find?_eq_some h, by have := List.find?_some h; simpa using this⟩
/-- each def keeps what its text, read as a function, tells -/
theorem all_ok {tab : List FE} {P : Program} {w : World} {K : PySem.W.Frag} {mg : Str → Option Value} {base : Heap} (ok : FEoks (arOf tab) tab) (pl : Place tab K mg) : ∀ (k : Nat) (x : String) (e : FE), lkF tab x = some e →
    ∃ (f : Addr) (fd : FuncData), FnOk P w K mg base CX0 k f fd e.ps (SpG K P w e.ps.length (semK tab k x)) ∧ mg (Str.ofString x) = some (.ref f) ∧ PySem.W.keepIn K (.ref f) = true ∧ Binds K fd e.ps [] ∧
      FunD K (Str.ofString e.nm) (Str.ofString e.nm) (defArgs e.st) (defBody e.st) (defScope e.st) [] [] f fd
  | 0, x, e, h => by
    obtain ⟨hm, hn⟩ := lkF_mem h
    obtain ⟨f, fd, F, g⟩ := pl.fn e hm
    refine ⟨f, fd, ⟨fun vs H Q E q => q.1, fun A outer s H args us vs Q E _ _ _ _ q => ?_⟩, by rw [← hn]; exact g, F.kp, F.bindsN (ok.mem e hm).bnd, F⟩
    obtain ⟨_, as, O, _, k, t, bs, e, _⟩ := q
    cases e
  | k + 1, x, e, h => by
    obtain ⟨hm, hn⟩ := lkF_mem h
    have E := ok.mem e hm
    obtain ⟨f, fd, F, g⟩ := pl.fn e hm
    refine ⟨f, fd, ?_, by rw [← hn]; exact g, F.kp, F.bindsN E.bnd, F⟩
    refine F.ok E.S (fun vs H Q E q => q.1) fun cdv A outer s H vs Q EE hr q => ?_
    refine ⟨_, PSs.nox (E.snd (tblK tab k) rfl _ ?_), ?_⟩
    · refine ⟨rfl, E.S.nd, rfl, rfl, rfl, PassesOwn.never, ?_, pl.blt, fun y ps hy => ?_⟩
      · have := hr.un
        show (A.deeper _).units + 70 < cLine
        omega
      · have : ∃ e', lkF tab y = some e' ∧ e'.ps = ps := by
          have hy : arOf tab y = some ps := hy
          unfold arOf at hy
          cases hl : lkF tab y with
          | none => rw [hl] at hy; cases hy
          | some e' => rw [hl] at hy; exact ⟨e', rfl, by simpa using hy⟩
        obtain ⟨e', he', rfl⟩ := this
        obtain ⟨f', fd', h1, h2, h3, h4, _⟩ := all_ok (P := P) (w := w) (base := base) ok pl k y e' he'
        exact ⟨k, f', fd', h1, hr, h2, h3, h4⟩
    · obtain ⟨hvl, as, O, S, kd, t, bs, es, q⟩ := q
      simp only [semK, h, Option.bind_some] at es
      unfold runF at es
      split at es
      · rename_i hal
        cases eb : e.body ⟨semK tab k, arOf tab⟩ (as ++ List.replicate (e.N.length - as.length) .un) with
        | none => rw [eb] at es; cases es
        | some r =>
          rw [eb] at es
          simp only [Option.bind_some] at es
          refine ⟨as ++ List.replicate (e.N.length - as.length) Sl.un, O, StR.start (N := e.N) S, r.1, r.2, eb, fun σ' H' O' st S' io => ?_⟩
          have So := StR.outs S S' io
          split at es
          · rename_i hr1
            cases es
            rw [hr1]
            exact q .non H' O' st So ⟨[], rep_non, List.nodup_nil, fun _ z => nomatch z⟩
          · rename_i k1 t1 hr1
            cases es
            rw [hr1]
            exact fun v rr => q v H' O' st So rr
          · cases es
      · cases es

/-! ### a law's head -/
def dOf (e : FE) : He.DefD := ⟨(Str.ofString e.nm, none), Str.ofString e.nm, Str.ofString e.nm, defArgs e.st, defBody e.st, defScope e.st, [], []⟩
def faOf (tab : List FE) : List He.Fa := tab.map (fun e => He.Fa.glo (Str.ofString e.nm)) ++ bltNames.map He.Fa.free
def fnOf (tab : List FE) : List He.DefD := tab.map dOf
theorem place_of {tab : List FE} {K : PySem.W.Frag} {h : Heap} {mg : Str → Option Value} (X : K.In h) (G : h.Ns mainGlobals mg) (c : He.SaysD (faOf tab) (fnOf tab) K) : Place tab K mg := by
  refine ⟨fun e he => ?_, fun x hx => ?_⟩
  · obtain ⟨i, hi, rfl⟩ := List.getElem_of_mem he
    obtain ⟨fd, F⟩ := c.def_ i (d := dOf tab[i]) (by unfold fnOf; rw [List.getElem?_map, List.getElem?_eq_getElem hi]; rfl)
    refine ⟨_, fd, F, ?_⟩
    exact He.glo_ok X G (c.fact i (f := .glo (Str.ofString tab[i].nm)) (by unfold faOf; rw [List.getElem?_append_left (by simpa using hi), List.getElem?_map, List.getElem?_eq_getElem hi]; rfl))
  · obtain ⟨i, hi, rfl⟩ := List.getElem_of_mem hx
    exact He.free_ok X G (c.fact (tab.length + i) (f := .free bltNames[i]) (by
      unfold faOf
      rw [List.getElem?_append_right (by simp), List.length_map, Nat.add_sub_cancel_left, List.getElem?_map, List.getElem?_eq_getElem hi]; rfl))
/-- the law's def, from its text read as a function -/
theorem law_facts {tab : List FE} {P : Program} {w : World} {K : PySem.W.Frag} {h : Heap} {mg : Str → Option Value} {f : Addr} {e : FE} (k : Nat) (ok : FEoks (arOf tab) tab) (hl : lkF tab "law" = some e) (hps : e.ps = (["script"] : List Str)) (X : K.In h) (G : h.Ns mainGlobals mg) (hfa : mg ("law" : Str) = some (.ref f))
    (c : He.SaysD (faOf tab) (fnOf tab) K) : ∃ fd : FuncData, (∀ (s : Shared) (v : Value), BindsTo s fd ⟨[v], []⟩ [("script", v)]) ∧ ∀ base : Heap, K.In base → base.Ns mainGlobals mg → FnOk P w K mg base CX0 k f fd ["script"] (SpG K P w 1 (semK tab k "law")) := by
  have pl := place_of X G c
  obtain ⟨hm, hn⟩ := lkF_mem hl
  obtain ⟨f', fd', F', g'⟩ := pl.fn e hm
  rw [hn] at g'
  have ef : f' = f := by
    have := g'.symm.trans hfa
    cases this; rfl
  subst ef
  refine ⟨fd', fun s v => ?_, fun base _ _ => ?_⟩
  · have := FunD.bindsA F' (ok.mem e hm).bnd s [v] (by rw [hps]; rfl)
    rw [hps] at this
    exact this
  · obtain ⟨f2, fd2, h1, h2, _, _, h5⟩ := all_ok (P := P) (w := w) (base := base) ok pl k "law" e hl
    have e2 : f2 = f' := by
      have := h2.symm.trans g'
      cases this; rfl
    subst e2
    have efd : fd2 = fd' := by
      obtain ⟨oc, od, dV, kV, doc, pm, an, cdv, ct, osl, e1, l1, _⟩ := h5.ex
      obtain ⟨oc', od', dV', kV', doc', pm', an', cdv', ct', osl', e1', l1', _⟩ := F'.ex
      rw [l1] at l1'
      have := Option.some.inj l1'
      injection this with _ _ h3 _
      injection h3
    subst efd
    rw [hps] at h1
    exact h1
/-- what the law's def promises of the script -/
theorem law_sp {tab : List FE} {K : PySem.W.Frag} {P : Program} {w : World} {k : Nat} {H : Hp} {a : Addr} {ns : List Int} {kd : Kd} {bs : List Sl} (hO : Only H) (hS : SqL K H a (ns.map V.int)) (h : semK tab k "law" [.shr (.fz (ns.map PV.int))] = some (kd, .bl true, bs)) :
    SpG K P w 1 (semK tab k "law") [.ref a] H (fun v _ => v = .bl true) fun _ _ _ => False := by
  have reps : ∀ ns : List Int, Reps K P w H (ns.map PV.int) (ns.map V.int) [] := by
    intro ns
    induction ns with
    | nil => simp [Reps]
    | cons n ns ih => exact Reps.cons (f := []) rep_int ih
  have hz : FzL K H a (ns.map V.int) := by
    rcases hS with (hS | ⟨o, hS⟩) | hS
    · rcases hO a with z | ⟨o, xs, z⟩
      · rw [hS] at z; cases z
      · rw [hS] at z; cases z
    · exact .inl ⟨o, hS⟩
    · exact .inr hS
  refine ⟨rfl, [.shr (.fz (ns.map PV.int))], fun _ => [], ?_, kd, .bl true, bs, h, fun v H' O' _ _ r => ?_⟩
  · refine ⟨rfl, fun i t e => ?_, fun i t e => ?_, fun _ => List.nodup_nil, fun _ _ _ z => (nomatch z), fun _ ⟨_, z⟩ => nomatch z⟩
    · cases i <;> rcases e with e | e <;> simp at e
    · cases i with
      | zero =>
        simp at e
        subst e
        refine ⟨.ref a, [], rfl, ?_, fun _ z => nomatch z⟩
        simp only [Rep]
        exact ⟨trivial, a, _, rfl, hz, reps ns⟩
      | succ i => simp at e
  · cases kd with
    | own => obtain ⟨fp, r, _⟩ := r; simp only [Rep] at r; exact r.1
    | shr => obtain ⟨fp, r, _⟩ := r; simp only [Rep] at r; exact r.1
    | view => exact r.elim
end Pv
namespace Pv
open PySem PySem.Spec L2

/-! ### name op= e -/
@[simp] def gIadd : PV → PV → Option (Kd × PV)
  | .int i, .int j => some (.own, .int (i + j))
  | .str s, .str u => if s.length + u.length ≤ 16777216 then some (.own, .str (s ++ u)) else none
  | _, _ => none
theorem ops_iadd {X : Cx} : OpS X (inplaceOp .Add) gIadd := by
  refine OpS.of (OpR.or iop_add iop_add_str) fun H x y Q tx ty t k fx fy rx ry e q => ?_
  unfold gIadd at e
  split at e
  · rename_i i j
    simp only [Rep] at rx ry
    cases e
    exact .inl ⟨i, j, rx.1, ry.1, q _ H .refl fun _ => repK_int⟩
  · rename_i s u
    split at e
    · rename_i hl
      simp only [Rep] at rx ry
      cases e
      have hl' : s.length + u.length ≤ sizeLine := by rw [sl_eq]; exact hl
      refine .inr ⟨mkS s, mkS u, rx.1, ry.1, by rw [mkS_len, mkS_len]; exact hl', ?_⟩
      rw [mkS_app]
      exact q _ H .refl fun _ => repK_str (rx.2.1.app ry.2.1 hl')
    · cases e
  · cases e
theorem ops_isub {X : Cx} : OpS X (inplaceOp .Sub) gSub := by
  refine OpS.of iop_sub fun H x y Q tx ty t k fx fy rx ry e q => ?_
  unfold gSub at e
  split at e
  · rename_i i j
    simp only [Rep] at rx ry
    cases e
    exact ⟨i, j, rx.1, ry.1, q _ H .refl fun _ => repK_int⟩
  · cases e
def gImul : PV → PV → Option (Kd × PV)
  | .int i, .int j => if (decide (-(2 ^ 64) < i) && decide (i < 2 ^ 64)) || (decide (-(2 ^ 64) < j) && decide (j < 2 ^ 64)) then some (.own, .int (i * j)) else none
  | _, _ => none
theorem ops_imul {X : Cx} : OpS X (inplaceOp .Mult) gImul := by
  refine OpS.of iop_mul fun H x y Q tx ty t k fx fy rx ry e q => ?_
  unfold gImul at e
  split at e
  · rename_i i j
    split at e
    · rename_i hm
      simp only [Bool.or_eq_true, Bool.and_eq_true, decide_eq_true_eq] at hm
      simp only [Rep] at rx ry
      cases e
      exact ⟨i, j, rx.1, ry.1, hm, q _ H .refl fun _ => repK_int⟩
    · cases e
  · cases e
def gIfdiv : PV → PV → Option (Kd × PV)
  | .int i, .int j => if 0 < j && j < 1073741824 then some (.own, .int (i / j)) else none
  | _, _ => none
theorem ops_ifdiv {X : Cx} : OpS X (inplaceOp .FloorDiv) gIfdiv := by
  refine OpS.of iop_fdiv fun H x y Q tx ty t k fx fy rx ry e q => ?_
  unfold gIfdiv at e
  split at e
  · rename_i i j
    split at e
    · rename_i hm
      simp only [Bool.and_eq_true, decide_eq_true_eq] at hm
      simp only [Rep] at rx ry
      cases e
      exact ⟨i, j, rx.1, ry.1, hm, q _ H .refl fun _ => repK_int⟩
    · cases e
  · cases e
def sAug (i : Nat) (g : PV → PV → Option (Kd × PV)) (f : PX) : SX := fun τ => (eVar i τ).bind fun x => (f τ).bind fun y => (g x.2 y.2).bind fun z => (putI τ i z.1 z.2).bind fun τ' => some (.nx, τ')
theorem sns_aug {C : Cn} (i : Nat) {x : Str} {e : Expr} {op : Operator} {f : PX} {g : PV → PV → Option (Kd × PV)} {p pos : Pos} (hN : C.N[i]? = some x) (hx : locB C.sc x = true) (hst : stB C x = true) (ho : ∀ X, Gd C X → OpS X (inplaceOp op) g) (h : SndP C e f) :
    SndS C (.AugAssign (.Name x p) op e pos) (sAug i g f) := fun X G =>
  PS.weak (ps_aug (i := i) (ti := r2S X g) G.nd (by rw [G.N]; exact hN) (locT G hx) (h X G) (fun pins s σ H x y v u Q I rx ry q => (ho X G).op pins s σ H x y v u Q I rx ry q) (st_of G hst)) fun D σ H q => by
    obtain ⟨τ, O, S, o, τ', e, q⟩ := q
    unfold sAug at e
    cases ev : eVar i τ with
    | none => rw [ev] at e; cases e
    | some vx =>
      rw [ev] at e
      simp only [Option.bind_some] at e
      cases ef : f τ with
      | none => rw [ef] at e; cases e
      | some vy =>
        rw [ef] at e
        simp only [Option.bind_some] at e
        cases eg : g vx.2 vy.2 with
        | none => rw [eg] at e; cases e
        | some vz =>
          rw [eg] at e
          simp only [Option.bind_some] at e
          cases ep : putI τ i vz.1 vz.2 with
          | none => rw [ep] at e; cases e
          | some τ1 =>
            rw [ep] at e; cases e
            have : ∃ v fp, σ[i]? = some (some v) ∧ Rep X.K X.prog X.w H vx.2 v fp := by
              unfold eVar at ev
              split at ev
              · rename_i u hu; cases ev; obtain ⟨v, a, b⟩ := S.own i _ (.inl hu); exact ⟨v, _, a, b⟩
              · rename_i u hu; cases ev; obtain ⟨v, a, b⟩ := S.own i _ (.inr hu); exact ⟨v, _, a, b⟩
              · rename_i u hu; cases ev; obtain ⟨v, fp, a, b, _⟩ := S.shr i _ hu; exact ⟨v, _, a, b⟩
              · cases ev
            obtain ⟨v, fp, hσ, rx⟩ := this
            refine ⟨v, hσ, gP.mono S ef fun y H1 x1 S1 ry => ?_⟩
            obtain ⟨fy, ry⟩ := ry.any
            refine ⟨_, _, vz.2, vz.1, fp, fy, rx.ex x1, ry, eg, fun z H2 x2 rz => ?_⟩
            obtain ⟨O1, s1, S', i1⟩ := put_ok S (x1.trans x2) ((rz O).back x1) ep
            exact q _ H2 O1 s1 S' i1

/-! ### a, b = e, f -/
def sPar (i j : Nat) (fa fb : PX) : SX := fun τ => (fa τ).bind fun x => (fb τ).bind fun y => (putI τ i x.1 x.2).bind fun τ1 => (putI τ1 j y.1 y.2).bind fun τ2 => some (.nx, τ2)
section
variable {K : PySem.W.Frag} {P : Program} {w : World} {τ τ' : En} {σ : St} {H H' H0 : Hp} {O O' O0 : Nat → List Addr}
/-- what is in no slot, held -/
def upA (O : Nat → List Addr) (n : Nat) (fp : List Addr) : Nat → List Addr := fun j => if j = n then fp ++ O j else O j
theorem ow_upA {n : Nat} {fp : List Addr} {a : Addr} : ow (upA O n fp) a ↔ ow O a ∨ a ∈ fp := by
  constructor
  · rintro ⟨j, hj⟩
    unfold upA at hj
    split at hj
    · rcases List.mem_append.mp hj with z | z
      · exact .inr z
      · exact .inl ⟨j, z⟩
    · exact .inl ⟨j, hj⟩
  · rintro (⟨j, hj⟩ | h)
    · refine ⟨j, ?_⟩
      unfold upA
      split
      · exact List.mem_append_right _ hj
      · exact hj
    · exact ⟨n, by unfold upA; rw [if_pos rfl]; exact List.mem_append_left _ h⟩
theorem StR.hold {n : Nat} {fp : List Addr} (S : StR K P w τ σ H O) (hn : τ.length ≤ n) (nd : fp.Nodup) (m : ∀ a ∈ fp, Mut (H a) ∧ ¬ ow O a)
    (ds : ∀ (j : Nat) (u : PV), τ[j]? = some (Sl.shr u) → ∃ z f, σ[j]? = some (some z) ∧ Rep K P w H u z f ∧ (∀ a ∈ f, ¬ ow O a ∧ a ∉ fp)) : StR K P w τ σ H (upA O n fp) := by
  have lt : ∀ {j : Nat} {s : Sl}, τ[j]? = some s → j ≠ n := fun {j s} e z => by
    have := (List.getElem?_eq_some_iff.mp e).1
    omega
  have ne : ∀ {j : Nat}, j ≠ n → upA O n fp j = O j := fun {j} h => by unfold upA; rw [if_neg h]
  have sm : upA O n fp n = fp ++ O n := by unfold upA; rw [if_pos rfl]
  refine ⟨S.len, fun j u e => ?_, fun j u e => ?_, fun j => ?_, fun j l a h1 h2 => ?_, fun a z => ?_⟩
  · obtain ⟨z, ez, rz⟩ := S.own j u e
    have : j ≠ n := by rcases e with e | e <;> exact lt e
    exact ⟨z, ez, by rw [ne this]; exact rz⟩
  · obtain ⟨z, f, ez, rz, nz⟩ := ds j u e
    refine ⟨z, f, ez, rz, fun c hc q => ?_⟩
    rcases ow_upA.mp q with q | q
    · exact (nz c hc).1 q
    · exact (nz c hc).2 q
  · by_cases e : j = n
    · subst e
      rw [sm]
      exact List.nodup_append.mpr ⟨nd, S.nod j, fun a ha b hb e => (m a ha).2 ⟨j, by rw [e]; exact hb⟩⟩
    · rw [ne e]; exact S.nod j
  · have key : ∀ {j l : Nat}, j ≠ n → a ∈ O j → a ∈ upA O n fp l → j = l := fun {j l} hj h1 h2 => by
      unfold upA at h2
      split at h2
      · rcases List.mem_append.mp h2 with z | z
        · exact absurd ⟨j, h1⟩ (m a z).2
        · exact S.dis j l a h1 z
      · exact S.dis j l a h1 h2
    by_cases e : j = n
    · by_cases e' : l = n
      · rw [e, e']
      · rw [ne e'] at h2
        exact (key e' h2 h1).symm
    · rw [ne e] at h1
      exact key e h1 h2
  · rcases ow_upA.mp z with q | q
    · exact S.mt a q
    · exact (m a q).1
theorem ow_up {n : Nat} {fp : List Addr} {a : Addr} (h : ow (upO O n fp) a) : ow O a ∨ a ∈ fp := by
  obtain ⟨j, hj⟩ := h
  by_cases e : j = n
  · subst e; rw [upO_same] at hj; exact .inr hj
  · rw [upO_ne e] at hj; exact .inl ⟨j, hj⟩
/-- a store of something that stands already -/
theorem put_at {i : Nat} {k : Kd} {t : PV} {v : V} {fp : List Addr} (S : StR K P w τ σ H O) (r : Rep K P w H t v fp) (n : k = .own → fp.Nodup) (m : ∀ a ∈ fp, ¬ ow O a) (ds : k = .own → ∀ (j : Nat) (u : PV), τ[j]? = some (Sl.shr u) → ∃ z f, σ[j]? = some (some z) ∧ Rep K P w H u z f ∧ (∀ a ∈ f, ¬ ow O a ∧ a ∉ fp)) (e : putI τ i k t = some τ') :
    StR K P w τ' (σ.set i (some v)) H (upO O i (if k = .own then fp else [])) ∧ IoOk τ τ' σ (σ.set i (some v)) := by
  unfold putI at e
  split at e
  · rename_i hl
    cases k with
    | own =>
      simp only [Option.some.injEq] at e
      subst e
      exact ⟨S.setNew (lkI_lt hl) r (n rfl) (fun a ha => ⟨rep_mut _ _ _ r a ha, m a ha⟩) fun j u _ ej => ds rfl j u ej, io_set hl⟩
    | shr =>
      simp only [Option.some.injEq] at e
      subst e
      exact ⟨S.setShr (lkI_lt hl) r m, io_set hl⟩
    | view => cases e
  · cases e
end
theorem sns_par {C : Cn} (i j : Nat) {x y : Str} {a b : Expr} {fa fb : PX} {px py pt pt2 pos : Pos} {kt k2} (hN : C.N[i]? = some x) (hN' : C.N[j]? = some y) (hij : i ≠ j) (hx : C.sc.names.lookup x = some .local) (hy : C.sc.names.lookup y = some .local) (ha : SndP C a fa) (hb : SndP C b fb)
    (hw : ∀ env : Env, env.scope = C.sc → swappedStores [.Tuple [.Name x px, .Name y py] kt pt] (.Tuple [a, b] k2 pt2) env = pure (some [x, y]))
    (he : ∀ env, starEach [a, b] env = (false, eval a env) :: starEach [b] env := by exact fun _ => rfl) (he' : ∀ env, starEach [b] env = (false, eval b env) :: starEach [] env := by exact fun _ => rfl)
    (hs : ∀ env : Env, swapsWithSole [.Tuple [.Name x px, .Name y py] kt pt] (.Tuple [a, b] k2 pt2) pos.line env = pure false := by exact fun _ => rfl) :
    SndS C (.Assign [.Tuple [.Name x px, .Name y py] kt pt] (.Tuple [a, b] k2 pt2) pos) (sPar i j fa fb) := fun X G =>
  PS.weak (ps_par (i := i) (j := j) G.calm G.nd (by rw [G.N]; exact hN) (by rw [G.N]; exact hN') hij (by rw [G.sc]; exact hx) (by rw [G.sc]; exact hy) (pa_cons (ha X G) (pa_cons (hb X G) pa_nil (he' X.env)) (he X.env)) (hw X.env G.sc) (hs X.env)) fun D σ H q => by
    obtain ⟨τ, O, S, o, τ', e, q⟩ := q
    unfold sPar at e
    cases ea : fa τ with
    | none => rw [ea] at e; cases e
    | some u =>
      rw [ea] at e
      simp only [Option.bind_some] at e
      cases eb : fb τ with
      | none => rw [eb] at e; cases e
      | some u' =>
        rw [eb] at e
        simp only [Option.bind_some] at e
        cases e1 : putI τ i u.1 u.2 with
        | none => rw [e1] at e; cases e
        | some τ1 =>
          rw [e1] at e
          simp only [Option.bind_some] at e
          cases e2 : putI τ1 j u'.1 u'.2 with
          | none => rw [e2] at e; cases e
          | some τ2 =>
            rw [e2] at e; cases e
            refine gP.mono S ea fun v1 H1 x1 S1 r1 => ?_
            -- hold the first while the second is reckoned
            have hold : ∃ f1, Rep X.K X.prog X.w H1 u.2 v1 f1 ∧ (u.1 = .own → f1.Nodup ∧ ∀ a ∈ f1, H a = none) ∧ (u.1 ≠ .view → ∀ a ∈ f1, ¬ ow O a) := by
              cases hk : u.1 with
              | own => rw [hk] at r1; obtain ⟨fp, a, b, c⟩ := r1; exact ⟨fp, a, fun _ => ⟨b, fun z hz => (c z hz).2⟩, fun _ z hz q => mut_none (S.mt z q) (c z hz).2⟩
              | shr => rw [hk] at r1; obtain ⟨fp, a, b⟩ := r1; exact ⟨fp, a, (fun z => nomatch z), fun _ => b⟩
              | view => rw [hk] at r1; obtain ⟨fp, a⟩ := r1; exact ⟨fp, a, (fun z => nomatch z), fun z => absurd rfl z⟩
            obtain ⟨f1, r1, o1, n1⟩ := hold
            have hv1 : u.1 ≠ .view := fun z => by unfold putI at e1; rw [z] at e1; split at e1 <;> cases e1
            have hv2 : u'.1 ≠ .view := fun z => by unfold putI at e2; rw [z] at e2; split at e2 <;> cases e2
            let fh := if u.1 = .own then f1 else []
            have S1' : StR X.K X.prog X.w τ σ H1 (upA O τ.length fh) := by
              by_cases hk : u.1 = .own
              · have : fh = f1 := if_pos hk
                rw [this]
                exact S1.hold (Nat.le_refl _) (o1 hk).1 (fun a ha => ⟨rep_mut _ _ _ r1 a ha, n1 hv1 a ha⟩) (shr_apart S x1 (o1 hk).2)
              · have : fh = [] := if_neg hk
                rw [this]
                exact S1.hold (Nat.le_refl _) List.nodup_nil (fun _ z => nomatch z) fun j u e => by
                  obtain ⟨z, f, a, b, c⟩ := S1.shr j u e
                  exact ⟨z, f, a, b, fun y hy => ⟨c y hy, fun z => nomatch z⟩⟩
            refine gP.mono S1' eb fun v2 H2 x2 S2 r2 => ⟨v1, v2, rfl, ?_⟩
            have second : ∃ f2, Rep X.K X.prog X.w H2 u'.2 v2 f2 ∧ (u'.1 = .own → f2.Nodup ∧ ∀ a ∈ f2, H1 a = none) ∧ ∀ a ∈ f2, ¬ ow (upA O τ.length fh) a := by
              cases hk : u'.1 with
              | own => rw [hk] at r2; obtain ⟨fp, a, b, c⟩ := r2; exact ⟨fp, a, fun _ => ⟨b, fun z hz => (c z hz).2⟩, fun z hz q => mut_none (S1'.mt z q) (c z hz).2⟩
              | shr => rw [hk] at r2; obtain ⟨fp, a, b⟩ := r2; exact ⟨fp, a, (fun z => nomatch z), b⟩
              | view => exact absurd hk hv2
            obtain ⟨f2, r2, o2, n2⟩ := second
            have xx : Ex H H2 := x1.trans x2
            obtain ⟨S3, i3⟩ := put_at (S.ex xx) (r1.ex x2) (fun z => (o1 z).1) (n1 hv1) (fun z => shr_apart S xx (o1 z).2) e1
            have n3 : ∀ a ∈ f2, ¬ ow (upO O i fh) a := fun a ha z => n2 a ha (ow_upA.mpr (ow_up z))
            have fhH : ∀ a ∈ fh, H a = none := fun a ha => by
              by_cases hk : u.1 = .own
              · rw [show fh = f1 from if_pos hk] at ha; exact (o1 hk).2 a ha
              · rw [show fh = [] from if_neg hk] at ha; cases ha
            have ds3 : u'.1 = .own → ∀ (l : Nat) (z : PV), τ1[l]? = some (Sl.shr z) → ∃ y f, (σ.set i (some v1))[l]? = some (some y) ∧ Rep X.K X.prog X.w H2 z y f ∧ (∀ a ∈ f, ¬ ow (upO O i fh) a ∧ a ∉ f2) := fun hk l z el => by
              have hlt : i < τ.length := by
                unfold putI at e1
                split at e1
                · exact lkI_lt (by assumption)
                · cases e1
              unfold putI at e1
              split at e1
              · have old : l ≠ i → τ[l]? = some (Sl.shr z) → ∃ y f, (σ.set i (some v1))[l]? = some (some y) ∧ Rep X.K X.prog X.w H2 z y f ∧ (∀ a ∈ f, ¬ ow (upO O i fh) a ∧ a ∉ f2) := fun hl e => by
                  obtain ⟨y, f, a, b, c⟩ := S.shr l z e
                  refine ⟨y, f, by rw [List.getElem?_set_ne (Ne.symm hl)]; exact a, b.ex xx, fun d hd => ⟨fun q => ?_, fun q => ?_⟩⟩
                  · rcases ow_up q with q | q
                    · exact c d hd q
                    · exact mut_none (rep_mut _ _ _ b d hd) (fhH d q)
                  · exact mut_none (rep_mut _ _ _ b d hd) (none_ex ((o2 hk).2 d q) x1)
                cases hk1 : u.1 with
                | own =>
                  rw [hk1] at e1
                  simp only [Option.some.injEq] at e1
                  subst e1
                  rcases set_get el with ⟨_, z⟩ | ⟨hl, e⟩
                  · cases z
                  · exact old hl e
                | shr =>
                  rw [hk1] at e1
                  simp only [Option.some.injEq] at e1
                  subst e1
                  rcases set_get el with ⟨hl, z⟩ | ⟨hl, e⟩
                  · subst hl; cases z
                    refine ⟨v1, f1, by rw [List.getElem?_set_self (by rw [← S.len]; exact hlt)], r1.ex x2, fun d hd => ⟨fun q => ?_, fun q => ?_⟩⟩
                    · rcases ow_up q with q | q
                      · exact n1 hv1 d hd q
                      · rw [show fh = [] from if_neg (by rw [hk1]; decide)] at q; cases q
                    · exact mut_none (rep_mut _ _ _ r1 d hd) ((o2 hk).2 d q)
                  · exact old hl e
                | view => rw [hk1] at e1; cases e1
              · cases e1
            obtain ⟨S4, i4⟩ := put_at S3 r2 (fun z => (o2 z).1) n3 ds3 e2
            refine q _ H2 _ ⟨xx.fr, fun a z => ?_⟩ S4 (i3.trans i4)
            rcases ow_up z with z | z
            · rcases ow_up z with z | z
              · exact .inl z
              · split at z
                · exact .inr ((o1 (by assumption)).2 a z)
                · cases z
            · split at z
              · exact .inr (none_ex ((o2 (by assumption)).2 a z) x1)
              · cases z
end Pv
namespace Pv
open PySem PySem.Spec L2

/-! ### expressions that change what slots own -/
abbrev MX := En → Option (Kd × PV × En)
@[simp] def shp : Sl → Sl
  | .own _ => .own .non
  | .io _ => .io .non
  | s => s
def Lk (τ τ' : En) : Prop := τ'.map shp = τ.map shp
theorem Lk.refl {τ : En} : Lk τ τ := rfl
theorem Lk.trans {τ τ' τ'' : En} (h : Lk τ τ') (h' : Lk τ' τ'') : Lk τ τ'' := Eq.trans h' h
theorem Lk.get {τ τ' : En} (h : Lk τ τ') (i : Nat) : (τ'[i]?).map shp = (τ[i]?).map shp := by
  have : (τ'.map shp)[i]? = (τ.map shp)[i]? := by rw [show τ'.map shp = τ.map shp from h]
  rw [List.getElem?_map, List.getElem?_map] at this
  exact this
theorem Lk.io {τ τ' : En} {σ : St} (h : Lk τ τ') : IoOk τ τ' σ σ := fun i t e => by
  have := h.get i
  rw [e] at this
  cases e' : τ'[i]? with
  | none => rw [e'] at this; cases this
  | some s =>
    rw [e'] at this
    cases s <;> simp [shp] at this
    exact ⟨⟨_, rfl⟩, rfl⟩
theorem Lk.shr {τ τ' : En} (h : Lk τ τ') {i : Nat} {t : PV} (e : τ'[i]? = some (Sl.shr t)) : τ[i]? = some (Sl.shr t) := by
  have := h.get i
  rw [e] at this
  cases e' : τ[i]? with
  | none => rw [e'] at this; cases this
  | some s =>
    rw [e'] at this
    cases s <;> simp [shp] at this
    rw [this]
theorem Lk.len {τ τ' : En} (h : Lk τ τ') : τ'.length = τ.length := by
  have := congrArg List.length (show τ'.map shp = τ.map shp from h)
  simpa using this
def RepM (K : PySem.W.Frag) (P : Program) (w : World) (H0 : Hp) (O0 : Nat → List Addr) (H' : Hp) (O' : Nat → List Addr) : Kd → PV → V → Prop
  | .own, t, v => ∃ fp, Rep K P w H' t v fp ∧ fp.Nodup ∧ ∀ a ∈ fp, Mut (H' a) ∧ ¬ ow O' a ∧ (ow O0 a ∨ H0 a = none)
  | .shr, t, v => ∃ fp, Rep K P w H' t v fp ∧ ∀ a ∈ fp, ¬ ow O' a
  | .view, t, v => ∃ fp, Rep K P w H' t v fp
section
variable {K : PySem.W.Frag} {P : Program} {w : World} {τ τ' : En} {σ : St} {H H0 H' H1 H2 : Hp} {O O' O0 O1 O2 : Nat → List Addr} {k : Kd} {t : PV} {v : V}
theorem RepM.any (r : RepM K P w H0 O0 H' O' k t v) : ∃ fp, Rep K P w H' t v fp ∧ (k ≠ .view → ∀ a ∈ fp, ¬ ow O' a) := by
  cases k with
  | own => obtain ⟨fp, r, _, m⟩ := r; exact ⟨fp, r, fun _ a ha => (m a ha).2.1⟩
  | shr => obtain ⟨fp, r, m⟩ := r; exact ⟨fp, r, fun _ => m⟩
  | view => obtain ⟨fp, r⟩ := r; exact ⟨fp, r, fun z => absurd rfl z⟩
theorem RepM.repR (r : RepM K P w H0 O0 H' O' k t v) (hk : k ≠ .view) : RepR K P w H0 O0 H' O' k t v := by
  cases k with
  | own => exact r
  | shr => exact r
  | view => exact absurd rfl hk
theorem RepR.repM (r : RepR K P w H0 O0 H' O' k t v) : RepM K P w H0 O0 H' O' k t v := by
  cases k with
  | own => exact r
  | shr => exact r
  | view => exact r.elim
theorem RepM.back (s : Step H0 O0 H O) (h : RepM K P w H O H' O' k t v) : RepM K P w H0 O0 H' O' k t v := by
  cases k with
  | own => exact RepR.back (k := .own) s h
  | shr => exact h
  | view => exact h
/-- a pure result, seen from an earlier start -/
theorem repM_of (S : StR K P w τ σ H1 O1) (s : Step H O H1 O1) (r : RepK K P w O1 H1 H2 k t v) : RepM K P w H O H2 O1 k t v := by
  cases k with
  | own => exact (repR_of S r (by decide)).back s
  | shr => exact r
  | view => exact r
theorem Rep.step (S : StR K P w τ σ H1 O1) (s : Step H1 O1 H2 O2) {fp : List Addr} (r : Rep K P w H1 t v fp) (n : ∀ a ∈ fp, ¬ ow O1 a) : Rep K P w H2 t v fp ∧ ∀ a ∈ fp, ¬ ow O2 a := by
  refine ⟨Rep.fr S.mt s.fr _ _ _ r n, fun a ha z => ?_⟩
  rcases s.nw a z with z | z
  · exact n a ha z
  · exact mut_none (rep_mut _ _ _ r a ha) z
theorem RepM.keep (S : StR K P w τ σ H1 O1) (r : RepM K P w H O H1 O1 k t v) (hk : k ≠ .view) (s : Step H1 O1 H2 O2) : RepM K P w H O H2 O2 k t v := by
  cases k with
  | own =>
    obtain ⟨fp, r, n, m⟩ := r
    obtain ⟨r', n'⟩ := Rep.step S s r fun a ha => (m a ha).2.1
    exact ⟨fp, r', n, fun a ha => ⟨rep_mut _ _ _ r' a ha, n' a ha, (m a ha).2.2⟩⟩
  | shr =>
    obtain ⟨fp, r, m⟩ := r
    exact ⟨fp, Rep.step S s r m⟩
  | view => exact absurd rfl hk
end
def genM (K : PySem.W.Frag) (P : Program) (w : World) (f : MX) : TE := fun σ H Q =>
  ∃ τ O, StR K P w τ σ H O ∧ ∃ k t τ', f τ = some (k, t, τ') ∧ ∀ v H' O', Step H O H' O' → StR K P w τ' σ H' O' → Lk τ τ' → RepM K P w H O H' O' k t v → Q v H'
abbrev gM (X : Cx) (f : MX) : TE := genM X.K X.prog X.w f
def SndM (C : Cn) (e : Expr) (f : MX) : Prop := ∀ X, Gd C X → PE X e (gM X f)
theorem gM.mono {K : PySem.W.Frag} {P : Program} {w : World} {f : MX} {τ : En} {σ : St} {H : Hp} {O : Nat → List Addr} {r : Kd × PV × En} {Q : VK} (S : StR K P w τ σ H O) (e : f τ = some r)
    (h : ∀ v H' O', Step H O H' O' → StR K P w r.2.2 σ H' O' → Lk τ r.2.2 → RepM K P w H O H' O' r.1 r.2.1 v → Q v H') : genM K P w f σ H Q :=
  ⟨τ, O, S, r.1, r.2.1, r.2.2, e, h⟩
def mP (f : PX) : MX := fun τ => (f τ).map fun r => (r.1, r.2, τ)
theorem snm_p {C : Cn} {e : Expr} {f : PX} (h : SndP C e f) : SndM C e (mP f) := fun X G => PE.weak (h X G) fun σ H Q q => by
  obtain ⟨τ, O, S, k, t, τ', e, q⟩ := q
  unfold mP at e
  cases ef : f τ with
  | none => rw [ef] at e; cases e
  | some r =>
    rw [ef] at e; cases e
    exact gP.mono S ef fun v H' x S' r => q v H' O (.ex x) S' .refl (repM_of S .refl r)

/-! ### operators -/
def mBin (g : PV → PV → Option (Kd × PV)) (a b : MX) : MX := fun τ => (a τ).bind fun x => (b x.2.2).bind fun y => if x.1 = .view then none else (g x.2.1 y.2.1).map fun z => (z.1, z.2, y.2.2)
theorem gM.two {X : Cx} {a b : MX} {g : PV → PV → Option (Kd × PV)} {σ : St} {H : Hp} {Q : VK} (h : gM X (mBin g a b) σ H Q) : tOp (r2S X g) (gM X a) (gM X b) σ H Q := by
  obtain ⟨τ, O, S, k, t, τ', e, q⟩ := h
  unfold mBin at e
  cases ea : a τ with
  | none => rw [ea] at e; cases e
  | some x =>
    rw [ea] at e
    simp only [Option.bind_some] at e
    cases eb : b x.2.2 with
    | none => rw [eb] at e; cases e
    | some y =>
      rw [eb] at e
      simp only [Option.bind_some] at e
      split at e
      · cases e
      rename_i hk
      cases eg : g x.2.1 y.2.1 with
      | none => rw [eg] at e; cases e
      | some z =>
        rw [eg] at e; cases e
        refine gM.mono S ea fun v1 H1 O1 s1 S1 l1 r1 => gM.mono S1 eb fun v2 H2 O2 s2 S2 l2 r2 => ?_
        obtain ⟨f1, r1, _⟩ := (r1.keep S1 hk s2).any
        obtain ⟨f2, r2, _⟩ := r2.any
        exact ⟨_, _, z.2, z.1, f1, f2, r1, r2, eg, fun z H' x3 r3 => q z H' O2 ((s1.trans s2).trans (.ex x3)) (S2.ex x3) (l1.trans l2) (repM_of S2 (s1.trans s2) (r3 O2))⟩
/-- .. the second one changing nothing -/
def mBinP (g : PV → PV → Option (Kd × PV)) (a : MX) (b : PX) : MX := fun τ => (a τ).bind fun x => (b x.2.2).bind fun y => (g x.2.1 y.2).map fun z => (z.1, z.2, x.2.2)
theorem gM.twoP {X : Cx} {a : MX} {b : PX} {g : PV → PV → Option (Kd × PV)} {σ : St} {H : Hp} {Q : VK} (h : gM X (mBinP g a b) σ H Q) : tOp (r2S X g) (gM X a) (gP X b) σ H Q := by
  obtain ⟨τ, O, S, k, t, τ', e, q⟩ := h
  unfold mBinP at e
  cases ea : a τ with
  | none => rw [ea] at e; cases e
  | some x =>
    rw [ea] at e
    simp only [Option.bind_some] at e
    cases eb : b x.2.2 with
    | none => rw [eb] at e; cases e
    | some y =>
      rw [eb] at e
      simp only [Option.bind_some] at e
      cases eg : g x.2.1 y.2 with
      | none => rw [eg] at e; cases e
      | some z =>
        rw [eg] at e; cases e
        refine gM.mono S ea fun v1 H1 O1 s1 S1 l1 r1 => gP.mono S1 eb fun v2 H2 x2 S2 r2 => ?_
        obtain ⟨f1, r1, _⟩ := r1.any
        obtain ⟨f2, r2⟩ := r2.any
        exact ⟨_, _, z.2, z.1, f1, f2, r1.ex x2, r2, eg, fun z H' x3 r3 => q z H' O1 (s1.trans (.ex (x2.trans x3))) (S2.ex x3) l1 (repM_of S2 (s1.trans (.ex x2)) (r3 O1))⟩
theorem snm_bin {C : Cn} {a b : Expr} {op : Operator} {fa fb : MX} {g : PV → PV → Option (Kd × PV)} {pos : Pos} (ho : ∀ X, Gd C X → OpS X (binaryOp op) g) (ha : SndM C a fa) (hb : SndM C b fb) : SndM C (.BinOp a op b pos) (mBin g fa fb) :=
  fun X G => PE.weak (pe_op (ho X G).op (ha X G) (hb X G)) fun _ _ _ h => gM.two h
theorem snm_binP {C : Cn} {a b : Expr} {op : Operator} {fa : MX} {fb : PX} {g : PV → PV → Option (Kd × PV)} {pos : Pos} (ho : ∀ X, Gd C X → OpS X (binaryOp op) g) (ha : SndM C a fa) (hb : SndP C b fb) : SndM C (.BinOp a op b pos) (mBinP g fa fb) :=
  fun X G => PE.weak (pe_op (ho X G).op (ha X G) (hb X G)) fun _ _ _ h => gM.twoP h
theorem snm_cmp {C : Cn} {a b : Expr} {op : CmpOp} {fa fb : MX} {g : PV → PV → Option (Kd × PV)} {pos : Pos} (ho : ∀ X, Gd C X → OpS X (compareOp op) g) (ha : SndM C a fa) (hb : SndM C b fb) (hm : behindInMarks op b = false := by rfl) :
    SndM C (.Compare a [op] [b] pos) (mBin g fa fb) :=
  fun X G => PE.weak (pe_cmpR (ho X G).op (ha X G) (hb X G) hm) fun _ _ _ h => gM.two h
theorem snm_cmpP {C : Cn} {a b : Expr} {op : CmpOp} {fa : MX} {fb : PX} {g : PV → PV → Option (Kd × PV)} {pos : Pos} (ho : ∀ X, Gd C X → OpS X (compareOp op) g) (ha : SndM C a fa) (hb : SndP C b fb) (hm : behindInMarks op b = false := by rfl) :
    SndM C (.Compare a [op] [b] pos) (mBinP g fa fb) :=
  fun X G => PE.weak (pe_cmpR (ho X G).op (ha X G) (hb X G) hm) fun _ _ _ h => gM.twoP h
def mUn (g : PV → Option (Kd × PV)) (a : MX) : MX := fun τ => (a τ).bind fun x => (g x.2.1).map fun z => (z.1, z.2, x.2.2)
theorem snm_un {C : Cn} {a : Expr} {op : UnaryOp} {fa : MX} {g : PV → Option (Kd × PV)} {pos : Pos} (ho : ∀ X, Gd C X → UnS X (unaryOp op) g) (ha : SndM C a fa) : SndM C (.UnaryOp op a pos) (mUn g fa) :=
  fun X G => PE.weak (pe_un (ho X G).un (ha X G)) fun σ H Q h => by
    obtain ⟨τ, O, S, k, t, τ', e, q⟩ := h
    unfold mUn at e
    cases ea : fa τ with
    | none => rw [ea] at e; cases e
    | some x =>
      rw [ea] at e
      simp only [Option.bind_some] at e
      cases eg : g x.2.1 with
      | none => rw [eg] at e; cases e
      | some z =>
        rw [eg] at e; cases e
        refine gM.mono S ea fun v1 H1 O1 s1 S1 l1 r1 => ?_
        obtain ⟨f1, r1, _⟩ := r1.any
        exact ⟨_, z.2, z.1, f1, r1, eg, fun z H' x3 r3 => q z H' O1 (s1.trans (.ex x3)) (S1.ex x3) l1 (repM_of S1 s1 (r3 O1))⟩

/-! ### arguments -/
@[simp] def trOf (τ : En) (i : Nat) : Option PV := match τ[i]? with
  | some (.own t) => some t
  | some (.io t) => some t
  | some (.shr t) => some t
  | _ => none
theorem trOf_ok {K : PySem.W.Frag} {P : Program} {w : World} {τ : En} {σ : St} {H : Hp} {O : Nat → List Addr} {i : Nat} {t : PV} (S : StR K P w τ σ H O) (e : trOf τ i = some t) : ∃ v fp, σ[i]? = some (some v) ∧ Rep K P w H t v fp ∧ ∀ a ∈ fp, a ∈ O i ∨ ¬ ow O a := by
  unfold trOf at e
  split at e
  · rename_i u hu; cases e; obtain ⟨v, a, b⟩ := S.own i _ (.inl hu); exact ⟨v, _, a, b, fun _ z => .inl z⟩
  · rename_i u hu; cases e; obtain ⟨v, a, b⟩ := S.own i _ (.inr hu); exact ⟨v, _, a, b, fun _ z => .inl z⟩
  · rename_i u hu; cases e; obtain ⟨v, fp, a, b, n⟩ := S.shr i _ hu; exact ⟨v, fp, a, b, fun a z => .inr (n a z)⟩
  · cases e
inductive AX where
  | nm (i : Nat) | px (f : PX) | mx (f : MX)
inductive Ar where
  | sl (i : Nat) | vl (k : Kd) (t : PV)
  deriving Inhabited
@[simp] def hasM : List AX → Bool
  | [] => false
  | .mx _ :: _ => true
  | _ :: r => hasM r
@[simp] def evsA : List AX → En → Option (List Ar × En)
  | [], τ => some ([], τ)
  | .nm i :: r, τ => (trOf τ i).bind fun _ => (evsA r τ).map fun s => (.sl i :: s.1, s.2)
  | .px f :: r, τ => (f τ).bind fun x => (evsA r τ).bind fun s => if x.1 = .view ∧ hasM r = true then none else some (.vl x.1 x.2 :: s.1, s.2)
  | .mx f :: r, τ => (f τ).bind fun x => (evsA r x.2.2).bind fun s => if x.1 = .view ∧ hasM r = true then none else some (.vl x.1 x.2.1 :: s.1, s.2)
def ArOk (K : PySem.W.Frag) (P : Program) (w : World) (σ : St) (H : Hp) (O : Nat → List Addr) : List Ar → List V → Prop
  | [], vs => vs = []
  | .sl i :: r, vs => ∃ v us, vs = v :: us ∧ σ[i]? = some (some v) ∧ ArOk K P w σ H O r us
  | .vl k t :: r, vs => ∃ v us, vs = v :: us ∧ (∃ fp, Rep K P w H t v fp ∧ (k ≠ .view → ∀ a ∈ fp, ¬ ow O a)) ∧ ArOk K P w σ H O r us
def genMA (K : PySem.W.Frag) (P : Program) (w : World) (fs : List AX) : TA := fun σ H Q => ∃ τ O, StR K P w τ σ H O ∧ ∃ rs τ', evsA fs τ = some (rs, τ') ∧
  ∀ vs H' O', Step H O H' O' → (hasM fs = false → O' = O ∧ τ' = τ ∧ Ex H H') → StR K P w τ' σ H' O' → Lk τ τ' → ArOk K P w σ H' O' rs vs → Q vs H'
def SndMA (C : Cn) (es : List Expr) (fs : List AX) : Prop := ∀ X, Gd C X → PA X es (genMA X.K X.prog X.w fs)
theorem snma_nil {C : Cn} : SndMA C [] [] := fun X G => PA.weak pa_nil fun σ H Q h => by
  obtain ⟨τ, O, S, rs, τ', e, q⟩ := h
  cases e
  exact q [] H O .refl (fun _ => ⟨rfl, rfl, .refl⟩) S .refl rfl
/-- what stands keeps standing over the rest -/
theorem rest_ok {K : PySem.W.Frag} {P : Program} {w : World} {τ : En} {σ : St} {H1 H2 : Hp} {O1 O2 : Nat → List Addr} {k : Kd} {t : PV} {v : V} {fp : List Addr} {r : List AX} (S1 : StR K P w τ σ H1 O1) (s2 : Step H1 O1 H2 O2) {τ' : En} (pu : hasM r = false → O2 = O1 ∧ τ' = τ ∧ Ex H1 H2)
    (r1 : Rep K P w H1 t v fp) (n1 : k ≠ .view → ∀ a ∈ fp, ¬ ow O1 a) (hk : ¬ (k = .view ∧ hasM r = true)) : ∃ fp, Rep K P w H2 t v fp ∧ (k ≠ .view → ∀ a ∈ fp, ¬ ow O2 a) := by
  by_cases hv : k = .view
  · have hm : hasM r = false := by
      cases h : hasM r with
      | false => rfl
      | true => exact absurd ⟨hv, h⟩ hk
    exact ⟨fp, r1.ex (pu hm).2.2, fun z => absurd hv z⟩
  · obtain ⟨a, b⟩ := Rep.step S1 s2 r1 (n1 hv)
    exact ⟨fp, a, fun _ => b⟩
theorem snma_nm {C : Cn} (i : Nat) {x : Str} {pos : Pos} {es : List Expr} {fs : List AX} (hN : C.N[i]? = some x) (hv : visB C.sc x = true) (hs : SndMA C es fs) (hd : (x == ("__debug__" : Str)) = false := by decide) (hcd : (x == ("__classdict__" : Str)) = false := by decide)
    (he : ∀ env, starEach (.Name x pos :: es) env = (false, eval (.Name x pos) env) :: starEach es env := by exact fun _ => rfl) : SndMA C (.Name x pos :: es) (.nm i :: fs) := fun X G =>
  PA.weak (pa_cons (pe_var (i := i) (by rw [G.N]; exact hN) (by rw [G.sc]; exact vis_of hv) hd hcd) (hs X G) (he X.env)) fun σ H Q q => by
    obtain ⟨τ, O, S, rs, τ', e, q⟩ := q
    simp only [evsA] at e
    cases et : trOf τ i with
    | none => rw [et] at e; cases e
    | some t =>
    rw [et] at e
    simp only [Option.bind_some] at e
    cases ea : evsA fs τ with
    | none => rw [ea] at e; cases e
    | some s =>
      rw [ea] at e; cases e
      obtain ⟨v, fp, hσ, _, _⟩ := trOf_ok S et
      exact ⟨v, hσ, τ, O, S, s.1, s.2, ea, fun vs H' O' s1 pu S1 l1 ar => q _ H' O' s1 pu S1 l1 ⟨v, vs, rfl, hσ, ar⟩⟩
theorem snma_px {C : Cn} {e : Expr} {es : List Expr} {f : PX} {fs : List AX} (h : SndP C e f) (hs : SndMA C es fs) (he : ∀ env, starEach (e :: es) env = (false, eval e env) :: starEach es env := by exact fun _ => rfl) : SndMA C (e :: es) (.px f :: fs) := fun X G =>
  PA.weak (pa_cons (h X G) (hs X G) (he X.env)) fun σ H Q q => by
    obtain ⟨τ, O, S, rs, τ', e, q⟩ := q
    simp only [evsA] at e
    cases ef : f τ with
    | none => rw [ef] at e; cases e
    | some x =>
    rw [ef] at e
    simp only [Option.bind_some] at e
    cases ea : evsA fs τ with
    | none => rw [ea] at e; cases e
    | some s =>
      rw [ea] at e
      simp only [Option.bind_some] at e
      split at e
      · cases e
      rename_i hk
      cases e
      refine gP.mono S ef fun v H1 x1 S1 r1 => ⟨τ, O, S1, s.1, s.2, ea, fun vs H2 O2 s2 pu S2 l2 ar => ?_⟩
      obtain ⟨fp, r1, n1⟩ := (repM_of S .refl r1).any
      refine q _ H2 O2 ((Step.ex x1).trans s2) (fun h => ⟨(pu h).1, (pu h).2.1, x1.trans (pu h).2.2⟩) S2 l2 ⟨v, vs, rfl, rest_ok S1 s2 pu r1 n1 hk, ar⟩
theorem snma_mx {C : Cn} {e : Expr} {es : List Expr} {f : MX} {fs : List AX} (h : SndM C e f) (hs : SndMA C es fs) (he : ∀ env, starEach (e :: es) env = (false, eval e env) :: starEach es env := by exact fun _ => rfl) : SndMA C (e :: es) (.mx f :: fs) := fun X G =>
  PA.weak (pa_cons (h X G) (hs X G) (he X.env)) fun σ H Q q => by
    obtain ⟨τ, O, S, rs, τ', e, q⟩ := q
    simp only [evsA] at e
    cases ef : f τ with
    | none => rw [ef] at e; cases e
    | some x =>
    rw [ef] at e
    simp only [Option.bind_some] at e
    cases ea : evsA fs x.2.2 with
    | none => rw [ea] at e; cases e
    | some s =>
      rw [ea] at e
      simp only [Option.bind_some] at e
      split at e
      · cases e
      rename_i hk
      cases e
      refine gM.mono S ef fun v H1 O1 s1 S1 l1 r1 => ⟨x.2.2, O1, S1, s.1, s.2, ea, fun vs H2 O2 s2 pu S2 l2 ar => ?_⟩
      obtain ⟨fp, r1, n1⟩ := r1.any
      refine q _ H2 O2 (s1.trans s2) (fun h => nomatch h) S2 (l1.trans l2) ⟨v, vs, rfl, rest_ok S1 s2 pu r1 n1 hk, ar⟩
theorem ArOk.len {K : PySem.W.Frag} {P : Program} {w : World} {σ : St} {H : Hp} {O : Nat → List Addr} : ∀ {rs : List Ar} {vs : List V}, ArOk K P w σ H O rs vs → vs.length = rs.length
  | [], vs, h => by rw [show vs = [] from h]; rfl
  | .sl i :: r, vs, ⟨v, us, e, _, h⟩ => by rw [e, List.length_cons, List.length_cons, h.len]
  | .vl k t :: r, vs, ⟨v, us, e, _, h⟩ => by rw [e, List.length_cons, List.length_cons, h.len]
theorem evsA_len : ∀ {fs : List AX} {τ : En} {s : List Ar × En}, evsA fs τ = some s → s.1.length = fs.length
  | [], τ, s, e => by simp only [evsA, Option.some.injEq] at e; rw [← e]; rfl
  | .nm i :: fs, τ, s, e => by
    simp only [evsA] at e
    cases et : trOf τ i with
    | none => rw [et] at e; cases e
    | some t =>
      rw [et] at e
      simp only [Option.bind_some] at e
      cases ea : evsA fs τ with
      | none => rw [ea] at e; cases e
      | some r => rw [ea] at e; cases e; rw [List.length_cons, List.length_cons, evsA_len ea]
  | .px f :: fs, τ, s, e => by
    simp only [evsA] at e
    cases et : f τ with
    | none => rw [et] at e; cases e
    | some t =>
      rw [et] at e
      simp only [Option.bind_some] at e
      cases ea : evsA fs τ with
      | none => rw [ea] at e; cases e
      | some r =>
        rw [ea] at e
        simp only [Option.bind_some] at e
        split at e
        · cases e
        · cases e; rw [List.length_cons, List.length_cons, evsA_len ea]
  | .mx f :: fs, τ, s, e => by
    simp only [evsA] at e
    cases et : f τ with
    | none => rw [et] at e; cases e
    | some t =>
      rw [et] at e
      simp only [Option.bind_some] at e
      cases ea : evsA fs t.2.2 with
      | none => rw [ea] at e; cases e
      | some r =>
        rw [ea] at e
        simp only [Option.bind_some] at e
        split at e
        · cases e
        · cases e; rw [List.length_cons, List.length_cons, evsA_len ea]
/-- the arguments as trees -/
@[simp] def arT (τ : En) : List Ar → Option (List PV)
  | [] => some []
  | .sl i :: r => (trOf τ i).bind fun t => (arT τ r).map (t :: ·)
  | .vl k t :: r => (arT τ r).map (t :: ·)
theorem arT_ok {K : PySem.W.Frag} {P : Program} {w : World} {τ : En} {σ : St} {H : Hp} {O : Nat → List Addr} (S : StR K P w τ σ H O) : ∀ {rs : List Ar} {vs : List V} {ts : List PV}, ArOk K P w σ H O rs vs → arT τ rs = some ts → ∃ fp, Reps K P w H ts vs fp
  | [], vs, ts, h, e => by
    rw [show vs = [] from h]
    simp only [arT, Option.some.injEq] at e
    rw [← e]
    exact ⟨[], by simp [Reps]⟩
  | .sl i :: r, vs, ts, ⟨v, us, ev, hσ, h⟩, e => by
    simp only [arT] at e
    cases et : trOf τ i with
    | none => rw [et] at e; cases e
    | some t =>
      rw [et] at e
      simp only [Option.bind_some] at e
      cases er : arT τ r with
      | none => rw [er] at e; cases e
      | some us' =>
        rw [er] at e; cases e
        obtain ⟨v', fp, hσ', rv, _⟩ := trOf_ok S et
        rw [hσ] at hσ'
        cases hσ'
        obtain ⟨g, rg⟩ := arT_ok S h er
        rw [ev]
        exact ⟨_, Reps.cons rv rg⟩
  | .vl k t :: r, vs, ts, ⟨v, us, ev, ⟨fp, rv, _⟩, h⟩, e => by
    simp only [arT] at e
    cases er : arT τ r with
    | none => rw [er] at e; cases e
    | some us' =>
      rw [er] at e; cases e
      obtain ⟨g, rg⟩ := arT_ok S h er
      rw [ev]
      exact ⟨_, Reps.cons rv rg⟩

/-! ### builtins -/
def mCB (g : List PV → Option (Kd × PV)) (fs : List AX) : MX := fun τ => (evsA fs τ).bind fun s => (arT s.2 s.1).bind fun ts => (g ts).map fun z => (z.1, z.2, s.2)
theorem gM.cb {X : Cx} {fs : List AX} {g : List PV → Option (Kd × PV)} {σ : St} {H : Hp} {Q : VK} (q : gM X (mCB g fs) σ H Q) : tCB (rCS X g) (genMA X.K X.prog X.w fs) σ H Q := by
  obtain ⟨τ, O, S, k, t, τ', e, q⟩ := q
  unfold mCB at e
  cases ea : evsA fs τ with
  | none => rw [ea] at e; cases e
  | some s =>
    rw [ea] at e
    simp only [Option.bind_some] at e
    cases et : arT s.2 s.1 with
    | none => rw [et] at e; cases e
    | some ts =>
      rw [et] at e
      simp only [Option.bind_some] at e
      cases eg : g ts with
      | none => rw [eg] at e; cases e
      | some z =>
        rw [eg] at e; cases e
        refine ⟨τ, O, S, s.1, s.2, ea, fun vs H1 O1 s1 _ S1 l1 ar => ?_⟩
        obtain ⟨fp, r'⟩ := arT_ok S1 ar et
        exact ⟨_, z.2, z.1, fp, r', eg, fun z H' x' rz => q z H' O1 (s1.trans (.ex x')) (S1.ex x') l1 (repM_of S1 s1 (rz O1))⟩
theorem snm_cb {C : Cn} {x : Str} {id : String} {e : Expr} {es : List Expr} {fs : List AX} {g : List PV → Option (Kd × PV)} {p pos : Pos} (hn : x ∈ bltNames) (hc : ∀ X, Gd C X → CallS X (.builtin id) g) (hg : glB C.sc x = true) (hv : bootBuiltins x = some (.builtin id)) (ha : SndMA C (e :: es) fs)
    (h1 : x ≠ "__name__" := by decide) (hdb : (x == ("__debug__" : Str)) = false := by decide)
    (he : ∀ env, starEach (e :: es) env = (false, eval e env) :: starEach es env := by exact fun _ => rfl) (hpl : ∀ env, (backTo pos (starEach es env)).any (·.1) = false := by exact fun _ => rfl) : SndM C (.Call (.Name x p) (e :: es) [] pos) (mCB g fs) := fun X G =>
  PE.weak (pe_callB (hc X G).call (gl_of G hg) (G.blt x hn) hv (ha X G) h1 hdb (he X.env) (hpl X.env)) fun _ _ _ q => gM.cb q
theorem snm_cty {C : Cn} {x : Str} {T : String} {e : Expr} {es : List Expr} {fs : List AX} {g : List PV → Option (Kd × PV)} {p pos : Pos} (hn : x ∈ bltNames) (hc : ∀ X, Gd C X → CallS X (.type T) g) (hg : glB C.sc x = true) (hv : bootBuiltins x = some (.type T)) (ha : SndMA C (e :: es) fs)
    (h1 : x ≠ "__name__" := by decide) (hdb : (x == ("__debug__" : Str)) = false := by decide)
    (he : ∀ env, starEach (e :: es) env = (false, eval e env) :: starEach es env := by exact fun _ => rfl) (hpl : ∀ env, (backTo pos (starEach es env)).any (·.1) = false := by exact fun _ => rfl) : SndM C (.Call (.Name x p) (e :: es) [] pos) (mCB g fs) := fun X G =>
  PE.weak (pe_callTy (hc X G).call (gl_of G hg) (G.blt x hn) hv (ha X G) h1 hdb (he X.env) (hpl X.env)) fun _ _ _ q => gM.cb q

/-! ### a slot's own changed in place -/
@[simp] def setT (τ : En) (i : Nat) (t : PV) : En := match τ[i]? with
  | some (.own _) => τ.set i (.own t)
  | some (.io _) => τ.set i (.io t)
  | _ => τ
@[simp] def owT (τ : En) (i : Nat) : Option PV := match τ[i]? with
  | some (.own t) => some t
  | some (.io t) => some t
  | _ => none
section
variable {K : PySem.W.Frag} {P : Program} {w : World} {τ τ' : En} {σ : St} {H H' H0 : Hp} {O O' O0 : Nat → List Addr}
theorem setT_lk {i : Nat} {t : PV} : Lk τ (setT τ i t) := by
  have : ∀ s s' : Sl, τ[i]? = some s → shp s' = shp s → Lk τ (τ.set i s') := fun s s' e h => by
    unfold Lk
    rw [List.map_set, h]
    apply List.ext_getElem?
    intro j
    by_cases hj : j = i
    · subst hj
      rw [List.getElem?_set_self (by rw [List.length_map]; exact (List.getElem?_eq_some_iff.mp e).1), List.getElem?_map, e]; rfl
    · rw [List.getElem?_set_ne (Ne.symm hj)]
  unfold setT
  split
  · rename_i u hu; exact this _ _ hu rfl
  · rename_i u hu; exact this _ _ hu rfl
  · rfl
theorem StR.chg {i : Nat} {t t0 : PV} {v : V} {fp : List Addr} (S : StR K P w τ σ H O) (ht : owT τ i = some t0) (hv : σ[i]? = some (some v)) (r : Rep K P w H' t v fp) (n : fp.Nodup) (m : ∀ a ∈ fp, a ∈ O i ∨ H a = none) (fr : ∀ a o, H a = some o → a ∉ O i → H' a = some o) :
    StR K P w (setT τ i t) σ H' (upO O i fp) ∧ Step H O H' (upO O i fp) := by
  have hi : i < τ.length := by
    unfold owT at ht
    split at ht
    · rename_i u hu; exact (List.getElem?_eq_some_iff.mp hu).1
    · rename_i u hu; exact (List.getElem?_eq_some_iff.mp hu).1
    · cases ht
  have F : Fr (ow O) H H' := fun a o e n => fr a o e fun z => n ⟨i, z⟩
  have F2 : Fr (fun a => a ∈ O i) H H' := fun a o e n => fr a o e n
  have mi : ∀ a, a ∈ O i → Mut (H a) := fun a z => S.mt a ⟨i, z⟩
  have apart : ∀ a ∈ fp, ∀ j, j ≠ i → a ∉ O j := fun a ha j hj z => by
    rcases m a ha with q | q
    · exact hj (S.dis j i a z q)
    · exact mut_none (S.mt a ⟨j, z⟩) q
  have get : ∀ j s, (setT τ i t)[j]? = some s → (j = i ∧ (s = .own t ∨ s = .io t)) ∨ (j ≠ i ∧ τ[j]? = some s) := fun j s e => by
    unfold setT at e
    split at e
    · rcases set_get e with ⟨a, b⟩ | z
      · exact .inl ⟨a, .inl b⟩
      · exact .inr z
    · rcases set_get e with ⟨a, b⟩ | z
      · exact .inl ⟨a, .inr b⟩
      · exact .inr z
    · rename_i h1 h2
      unfold owT at ht
      split at ht
      · rename_i u hu; exact absurd hu (h1 _)
      · rename_i u hu; exact absurd hu (h2 _)
      · cases ht
  have owu : ∀ a, ow (upO O i fp) a → a ∈ fp ∨ ∃ j, j ≠ i ∧ a ∈ O j := fun a ⟨j, z⟩ => by
    by_cases e : j = i
    · subst e; rw [upO_same] at z; exact .inl z
    · rw [upO_ne e] at z; exact .inr ⟨j, e, z⟩
  refine ⟨⟨?_, fun j u e => ?_, fun j u e => ?_, fun j => ?_, fun j l a h1 h2 => ?_, fun a z => ?_⟩, ⟨F, fun a z => ?_⟩⟩
  · rw [(setT_lk (τ := τ) (i := i) (t := t)).len]; exact S.len
  · have : (j = i ∧ u = t) ∨ (j ≠ i ∧ (τ[j]? = some (Sl.own u) ∨ τ[j]? = some (Sl.io u))) := by
      rcases e with e | e
      · rcases get _ _ e with ⟨a, b | b⟩ | ⟨a, b⟩
        · cases b; exact .inl ⟨a, rfl⟩
        · cases b
        · exact .inr ⟨a, .inl b⟩
      · rcases get _ _ e with ⟨a, b | b⟩ | ⟨a, b⟩
        · cases b
        · cases b; exact .inl ⟨a, rfl⟩
        · exact .inr ⟨a, .inr b⟩
    rcases this with ⟨rfl, rfl⟩ | ⟨hj, e⟩
    · rw [upO_same]; exact ⟨v, hv, r⟩
    · obtain ⟨z, ez, rz⟩ := S.own j u e
      rw [upO_ne hj]
      exact ⟨z, ez, Rep.fr mi F2 _ _ _ rz fun a ha q => hj (S.dis j i a ha q)⟩
  · rcases get _ _ e with ⟨_, b | b⟩ | ⟨hj, b⟩
    · cases b
    · cases b
    · obtain ⟨z, f, ez, rz, nz⟩ := S.shr j u b
      refine ⟨z, f, ez, Rep.fr mi F2 _ _ _ rz (fun a ha q => nz a ha ⟨i, q⟩), fun a ha q => ?_⟩
      rcases owu a q with q | ⟨l, _, q⟩
      · rcases m a q with q | q
        · exact nz a ha ⟨i, q⟩
        · exact mut_none (rep_mut _ _ _ rz a ha) q
      · exact nz a ha ⟨l, q⟩
  · by_cases e : j = i
    · subst e; rw [upO_same]; exact n
    · rw [upO_ne e]; exact S.nod j
  · by_cases e : j = i
    · by_cases e' : l = i
      · rw [e, e']
      · rw [e, upO_same] at h1; rw [upO_ne e'] at h2; exact absurd h2 (apart a h1 l e')
    · by_cases e' : l = i
      · rw [e', upO_same] at h2; rw [upO_ne e] at h1; exact absurd h1 (apart a h2 j e)
      · rw [upO_ne e] at h1; rw [upO_ne e'] at h2; exact S.dis j l a h1 h2
  · rcases owu a z with z | ⟨j, hj, z⟩
    · exact rep_mut _ _ _ r a z
    · have mz := S.mt a ⟨j, z⟩
      cases e : H a with
      | none => exact (mut_none mz e).elim
      | some o => rw [fr a o e fun q => hj (S.dis j i a z q)]; rw [e] at mz; exact mz
  · rcases owu a z with z | ⟨j, _, z⟩
    · rcases m a z with q | q
      · exact .inl ⟨i, q⟩
      · exact .inr q
    · exact .inl ⟨j, z⟩
end
end Pv
namespace Pv
open PySem PySem.Spec L2

/-! ### own defs called, arguments lent -/
def mCall (T : Tbl) (x : String) (fs : List AX) : MX := fun τ => (evsA fs τ).bind fun s => (arT s.2 s.1).bind fun ts => (T.sem x (ts.map Sl.shr)).bind fun o => some (kdOf o.2.1 (if o.1 = .own then .own else .view), o.2.1, s.2)
theorem repM_imm {K : PySem.W.Frag} {P : Program} {w : World} {H0 H' : Hp} {O0 O' : Nat → List Addr} {k : Kd} {t : PV} {v : V} {fp : List Addr} (r : Rep K P w H' t v fp) (h : imm t = true) : RepM K P w H0 O0 H' O' k t v := by
  have e := imm_fp t v fp h r
  subst e
  cases k with
  | own => exact ⟨[], r, List.nodup_nil, fun _ z => nomatch z⟩
  | shr => exact ⟨[], r, fun _ z => nomatch z⟩
  | view => exact ⟨[], r⟩
theorem repM_kd {K : PySem.W.Frag} {P : Program} {w : World} {H0 H' : Hp} {O0 O' : Nat → List Addr} {k : Kd} {t : PV} {v : V} (r : RepM K P w H0 O0 H' O' k t v) : RepM K P w H0 O0 H' O' (kdOf t k) t v := by
  unfold kdOf
  split
  · rename_i h
    obtain ⟨fp, r, _⟩ := r.any
    exact repM_imm r h
  · exact r
theorem ow_nil {a : Addr} (h : ow (fun _ => []) a) : False := by obtain ⟨_, z⟩ := h; exact nomatch z
theorem snm_call {C : Cn} {x : String} {e : Expr} {es : List Expr} {fs : List AX} {ps : List Str} {p pos : Pos} (har : C.T.ar x = some ps) (hl : fs.length = ps.length) (hg : glB C.sc (Str.ofString x) = true) (ha : SndMA C (e :: es) fs)
    (hdb : (Str.ofString x == ("__debug__" : Str)) = false := by decide)
    (he : ∀ env, starEach (e :: es) env = (false, eval e env) :: starEach es env := by exact fun _ => rfl) (hpl : ∀ env, (backTo pos (starEach es env)).any (·.1) = false := by exact fun _ => rfl) : SndM C (.Call (.Name (Str.ofString x) p) (e :: es) [] pos) (mCall C.T x fs) := fun X G => by
  obtain ⟨k, f, fd, F, hr, hm, hk, hb⟩ := G.fns x ps har
  refine PE.weak (pe_call (E := E0) F hr (gl_of G hg) hm hk hb .nil pass0 (ha X G) hdb (he X.env) (hpl X.env)) fun σ H Q q => ?_
  obtain ⟨τ, O, S, k, t, τ', e, q⟩ := q
  unfold mCall at e
  cases ea : evsA fs τ with
  | none => rw [ea] at e; cases e
  | some s =>
    rw [ea] at e
    simp only [Option.bind_some] at e
    cases et : arT s.2 s.1 with
    | none => rw [et] at e; cases e
    | some ts =>
      rw [et] at e
      simp only [Option.bind_some] at e
      cases eo : C.T.sem x (ts.map Sl.shr) with
      | none => rw [eo] at e; cases e
      | some o =>
        rw [eo] at e
        simp only [Option.bind_some] at e
        cases e
        refine ⟨τ, O, S, s.1, s.2, ea, fun vs H1 O1 s1 _ S1 l1 ar => ?_⟩
        obtain ⟨fp, r'⟩ := arT_ok S1 ar et
        have hvl : vs.length = ps.length := by rw [ar.len, evsA_len ea, hl]
        rw [List.append_nil]
        refine ⟨hvl, ts.map Sl.shr, fun _ => [], stR_shr r', o.1, o.2.1, o.2.2, eo, fun v H' O' st _ rr => ?_⟩
        have xx := step_ex st
        refine q v H' O1 (s1.trans (.ex xx)) (S1.ex xx) l1 (repM_kd (RepM.back s1 ?_))
        cases hk : o.1 with
        | own =>
          rw [hk] at rr
          obtain ⟨fp, a, b, c⟩ := rr
          rw [if_pos rfl]
          have hn : ∀ y ∈ fp, H1 y = none := fun y hy => by
            rcases (c y hy).2.2 with z | z
            · exact (ow_nil z).elim
            · exact z
          exact ⟨fp, a, b, fun y hy => ⟨(c y hy).1, fun z => mut_none (S1.mt y z) (hn y hy), .inr (hn y hy)⟩⟩
        | shr =>
          rw [hk] at rr
          rw [if_neg (by decide)]
          obtain ⟨fp, a, _⟩ := rr
          exact ⟨fp, a⟩
        | view => rw [hk] at rr; exact rr.elim

/-! ### .. one argument in-out -/
@[simp] def asOf (τ : En) (i0 : Nat) : List Ar → Option (List Sl)
  | [] => some []
  | .sl i :: r => if i = i0 then (owT τ i).bind fun t => (asOf τ i0 r).map (.io t :: ·) else (trOf τ i).bind fun t => (asOf τ i0 r).map (.shr t :: ·)
  | .vl k t :: r => if k = .view then none else (asOf τ i0 r).map (.shr t :: ·)
@[simp] def slPos (i0 : Nat) : Nat → List Ar → List Nat
  | _, [] => []
  | n, .sl i :: r => if i = i0 then n :: slPos i0 (n + 1) r else slPos i0 (n + 1) r
  | n, _ :: r => slPos i0 (n + 1) r
theorem slPos_mem {i0 : Nat} : ∀ {n : Nat} {rs : List Ar} {l : Nat}, rs[l]? = some (.sl i0) → n + l ∈ slPos i0 n rs
  | n, [], l, h => by simp at h
  | n, .sl i :: r, 0, h => by
    simp at h
    subst h
    simp [slPos]
  | n, .sl i :: r, l + 1, h => by
    have := slPos_mem (n := n + 1) (show r[l]? = some (.sl i0) by simpa using h)
    rw [show n + 1 + l = n + (l + 1) by omega] at this
    unfold slPos
    split
    · exact List.mem_cons_of_mem _ this
    · exact this
  | n, .vl k t :: r, 0, h => by simp at h
  | n, .vl k t :: r, l + 1, h => by
    have := slPos_mem (n := n + 1) (show r[l]? = some (.sl i0) by simpa using h)
    rw [show n + 1 + l = n + (l + 1) by omega] at this
    simpa [slPos] using this
theorem mem_slPos {i0 : Nat} : ∀ {n : Nat} {rs : List Ar} {j : Nat}, j ∈ slPos i0 n rs → ∃ l, rs[l]? = some (.sl i0) ∧ j = n + l
  | n, [], j, h => by simp [slPos] at h
  | n, .sl i :: r, j, h => by
    unfold slPos at h
    split at h
    · rename_i e
      subst e
      rcases List.mem_cons.mp h with z | z
      · exact ⟨0, rfl, by omega⟩
      · obtain ⟨l, a, b⟩ := mem_slPos z
        exact ⟨l + 1, by simpa using a, by omega⟩
    · obtain ⟨l, a, b⟩ := mem_slPos h
      exact ⟨l + 1, by simpa using a, by omega⟩
  | n, .vl k t :: r, j, h => by
    simp only [slPos] at h
    obtain ⟨l, a, b⟩ := mem_slPos h
    exact ⟨l + 1, by simpa using a, by omega⟩
theorem asOf_get {τ : En} {i0 : Nat} : ∀ {rs : List Ar} {as : List Sl} {j : Nat} {s : Sl}, asOf τ i0 rs = some as → as[j]? = some s →
    (rs[j]? = some (.sl i0) ∧ ∃ t, owT τ i0 = some t ∧ s = .io t) ∨ (∃ i t, i ≠ i0 ∧ rs[j]? = some (.sl i) ∧ trOf τ i = some t ∧ s = .shr t) ∨ ∃ k t, k ≠ .view ∧ rs[j]? = some (.vl k t) ∧ s = .shr t
  | [], as, j, s, h, e => by simp [asOf] at h; subst h; simp at e
  | .sl i :: r, as, j, s, h, e => by
    unfold asOf at h
    split at h
    · rename_i ei
      subst ei
      cases eo : owT τ i with
      | none => rw [eo] at h; cases h
      | some t =>
        rw [eo] at h
        cases er : asOf τ i r with
        | none => rw [er] at h; cases h
        | some as' =>
          rw [er] at h; cases h
          cases j with
          | zero => simp at e; exact .inl ⟨rfl, t, rfl, e.symm⟩
          | succ j => exact eo ▸ asOf_get (rs := r) er (by simpa using e)
    · rename_i hi
      cases eo : trOf τ i with
      | none => rw [eo] at h; cases h
      | some t =>
        rw [eo] at h
        cases er : asOf τ i0 r with
        | none => rw [er] at h; cases h
        | some as' =>
          rw [er] at h; cases h
          cases j with
          | zero => simp at e; exact .inr (.inl ⟨i, t, hi, rfl, eo, e.symm⟩)
          | succ j => exact asOf_get (rs := r) er (by simpa using e)
  | .vl k t :: r, as, j, s, h, e => by
    unfold asOf at h
    split at h
    · cases h
    rename_i hk
    cases er : asOf τ i0 r with
    | none => rw [er] at h; cases h
    | some as' =>
      rw [er] at h; cases h
      cases j with
      | zero => simp at e; exact .inr (.inr ⟨k, t, hk, rfl, e.symm⟩)
      | succ j => exact asOf_get (rs := r) er (by simpa using e)
theorem asOf_len {τ : En} {i0 : Nat} : ∀ {rs : List Ar} {as : List Sl}, asOf τ i0 rs = some as → as.length = rs.length
  | [], as, h => by simp [asOf] at h; subst h; rfl
  | .sl i :: r, as, h => by
    unfold asOf at h
    split at h
    · cases eo : owT τ i with
      | none => rw [eo] at h; cases h
      | some t =>
        rw [eo] at h
        cases er : asOf τ i0 r with
        | none => rw [er] at h; cases h
        | some as' => rw [er] at h; cases h; rw [List.length_cons, List.length_cons, asOf_len er]
    · cases eo : trOf τ i with
      | none => rw [eo] at h; cases h
      | some t =>
        rw [eo] at h
        cases er : asOf τ i0 r with
        | none => rw [er] at h; cases h
        | some as' => rw [er] at h; cases h; rw [List.length_cons, List.length_cons, asOf_len er]
  | .vl k t :: r, as, h => by
    unfold asOf at h
    split at h
    · cases h
    cases er : asOf τ i0 r with
    | none => rw [er] at h; cases h
    | some as' => rw [er] at h; cases h; rw [List.length_cons, List.length_cons, asOf_len er]
theorem ArOk.get {K : PySem.W.Frag} {P : Program} {w : World} {σ : St} {H : Hp} {O : Nat → List Addr} : ∀ {rs : List Ar} {vs : List V} {j : Nat} {a : Ar}, ArOk K P w σ H O rs vs → rs[j]? = some a → ∃ v, vs[j]? = some v ∧ match a with
    | .sl i => σ[i]? = some (some v)
    | .vl k t => ∃ fp, Rep K P w H t v fp ∧ (k ≠ .view → ∀ a ∈ fp, ¬ ow O a)
  | [], vs, j, a, h, e => by simp at e
  | .sl i :: r, vs, 0, a, ⟨v, us, ev, hσ, h⟩, e => by simp at e; subst e; exact ⟨v, by rw [ev]; rfl, hσ⟩
  | .sl i :: r, vs, j + 1, a, ⟨v, us, ev, hσ, h⟩, e => by
    obtain ⟨z, a, b⟩ := h.get (j := j) (by simpa using e)
    exact ⟨z, by rw [ev]; simpa using a, b⟩
  | .vl k t :: r, vs, 0, a, ⟨v, us, ev, hσ, h⟩, e => by simp at e; subst e; exact ⟨v, by rw [ev]; rfl, hσ⟩
  | .vl k t :: r, vs, j + 1, a, ⟨v, us, ev, hσ, h⟩, e => by
    obtain ⟨z, a, b⟩ := h.get (j := j) (by simpa using e)
    exact ⟨z, by rw [ev]; simpa using a, b⟩
def mCallI (T : Tbl) (x : String) (j0 i0 : Nat) (fs : List AX) : MX := fun τ => (evsA fs τ).bind fun s => if slPos i0 0 s.1 = [j0] then (asOf s.2 i0 s.1).bind fun as => (T.sem x as).bind fun o => match o.2.2[j0]? with
    | some (.io t') => some (kdOf o.2.1 (if o.1 = .own then .own else .view), o.2.1, setT s.2 i0 t')
    | _ => none
  else none
theorem ow_OD' {n : Nat} {fp : List Addr} {a : Addr} : ow (fun j => if j = n then fp else []) a ↔ a ∈ fp := by
  constructor
  · rintro ⟨j, hj⟩
    dsimp only at hj
    split at hj
    · exact hj
    · cases hj
  · intro h
    exact ⟨n, by simpa using h⟩
theorem snm_callI {C : Cn} {x : String} (j0 i0 : Nat) {e : Expr} {es : List Expr} {fs : List AX} {ps : List Str} {p pos : Pos} (har : C.T.ar x = some ps) (hl : fs.length = ps.length) (hg : glB C.sc (Str.ofString x) = true) (ha : SndMA C (e :: es) fs)
    (hdb : (Str.ofString x == ("__debug__" : Str)) = false := by decide)
    (he : ∀ env, starEach (e :: es) env = (false, eval e env) :: starEach es env := by exact fun _ => rfl) (hpl : ∀ env, (backTo pos (starEach es env)).any (·.1) = false := by exact fun _ => rfl) : SndM C (.Call (.Name (Str.ofString x) p) (e :: es) [] pos) (mCallI C.T x j0 i0 fs) := fun X G => by
  obtain ⟨k, f, fd, F, hr, hm, hk, hb⟩ := G.fns x ps har
  refine PE.weak (pe_call (E := E0) F hr (gl_of G hg) hm hk hb .nil pass0 (ha X G) hdb (he X.env) (hpl X.env)) fun σ H Q q => ?_
  obtain ⟨τ, O, S, k, t, τ', e, q⟩ := q
  unfold mCallI at e
  cases ea : evsA fs τ with
  | none => rw [ea] at e; cases e
  | some s =>
    rw [ea] at e
    simp only [Option.bind_some] at e
    split at e
    case isFalse => cases e
    rename_i hp
    cases et : asOf s.2 i0 s.1 with
    | none => rw [et] at e; cases e
    | some as =>
      rw [et] at e
      simp only [Option.bind_some] at e
      cases eo : C.T.sem x as with
      | none => rw [eo] at e; cases e
      | some o =>
        rw [eo] at e
        simp only [Option.bind_some] at e
        split at e
        case h_2 => cases e
        rename_i t' ht'
        cases e
        refine ⟨τ, O, S, s.1, s.2, ea, fun vs H1 O1 s1 _ S1 l1 ar => ?_⟩
        have hvl : vs.length = ps.length := by rw [ar.len, evsA_len ea, hl]
        show SpG X.K X.prog X.w ps.length (C.T.sem x) (vs ++ []) H1 Q E0
        rw [List.append_nil]
        obtain ⟨l0, hl0, e0⟩ := mem_slPos (show j0 ∈ slPos i0 0 s.1 by rw [hp]; simp)
        rw [Nat.zero_add] at e0
        subst e0
        have only : ∀ l, s.1[l]? = some (.sl i0) → l = j0 := fun l h => by
          have := slPos_mem (n := 0) h
          rw [hp] at this
          simpa using this
        obtain ⟨v0, hv0, hσ0⟩ := ar.get hl0
        dsimp only at hσ0
        have ht0 : ∃ t0, owT s.2 i0 = some t0 := by
          have hlt : j0 < as.length := by rw [asOf_len et]; exact (List.getElem?_eq_some_iff.mp hl0).1
          rcases asOf_get et (List.getElem?_eq_getElem hlt) with ⟨_, t, h, _⟩ | ⟨i, t, hi, h, _⟩ | ⟨k, t, _, h, _⟩
          · exact ⟨t, h⟩
          · rw [hl0] at h; cases h; exact absurd rfl hi
          · rw [hl0] at h; cases h
        obtain ⟨t0, ht0⟩ := ht0
        let Oc : Nat → List Addr := fun j => if j = j0 then O1 i0 else []
        have owc : ∀ a, ow Oc a ↔ a ∈ O1 i0 := fun a => ow_OD'
        have Sc : StR X.K X.prog X.w as (vs.map some) H1 Oc := by
          refine ⟨by rw [asOf_len et, List.length_map, ar.len], fun j t e => ?_, fun j t e => ?_, fun j => ?_, fun j l a h1 h2 => ?_, fun a z => S1.mt a ⟨i0, (owc a).mp z⟩⟩
          · have : s.1[j]? = some (.sl i0) ∧ owT s.2 i0 = some t := by
              rcases e with e | e
              · rcases asOf_get et e with ⟨_, _, _, z⟩ | ⟨_, _, _, _, _, z⟩ | ⟨_, _, _, _, z⟩ <;> cases z
              · rcases asOf_get et e with ⟨h, _, h', z⟩ | ⟨_, _, _, _, _, z⟩ | ⟨_, _, _, _, z⟩
                · cases z; exact ⟨h, h'⟩
                · cases z
                · cases z
            obtain ⟨h1, h2⟩ := this
            have := only j h1
            subst this
            refine ⟨v0, by rw [List.getElem?_map, hv0]; rfl, ?_⟩
            have : Oc j = O1 i0 := if_pos rfl
            rw [this]
            unfold owT at h2
            split at h2
            · rename_i u hu
              cases h2
              obtain ⟨z, a, b⟩ := S1.own i0 _ (.inl hu)
              rw [hσ0] at a; cases a; exact b
            · rename_i u hu
              cases h2
              obtain ⟨z, a, b⟩ := S1.own i0 _ (.inr hu)
              rw [hσ0] at a; cases a; exact b
            · cases h2
          · rcases asOf_get et e with ⟨_, _, _, z⟩ | ⟨i, u, hi, h, ht, z⟩ | ⟨k, u, hk, h, z⟩
            · cases z
            · cases z
              obtain ⟨v, a, b⟩ := ar.get h
              dsimp only at b
              obtain ⟨v', fp, hσ, r, n⟩ := trOf_ok S1 ht
              rw [b] at hσ; cases hσ
              refine ⟨v, fp, by rw [List.getElem?_map, a]; rfl, r, fun y hy q => ?_⟩
              have q := (owc y).mp q
              rcases n y hy with z | z
              · exact hi (S1.dis i i0 y z q)
              · exact z ⟨i0, q⟩
            · cases z
              obtain ⟨v, a, fp, r, n⟩ := ar.get h
              exact ⟨v, fp, by rw [List.getElem?_map, a]; rfl, r, fun y hy q => n hk y hy ⟨i0, (owc y).mp q⟩⟩
          · show (if j = j0 then O1 i0 else []).Nodup
            split
            · exact S1.nod i0
            · exact List.nodup_nil
          · have h1 : a ∈ (if j = j0 then O1 i0 else []) := h1
            have h2 : a ∈ (if l = j0 then O1 i0 else []) := h2
            split at h1
            · split at h2
              · rw [‹j = j0›, ‹l = j0›]
              · cases h2
            · cases h1
        refine ⟨hvl, as, Oc, Sc, o.1, o.2.1, o.2.2, eo, fun v H2 Oc' st S' rr => ?_⟩
        obtain ⟨v0', hv0', r0⟩ := S'.own j0 t' (.inr ht')
        rw [List.getElem?_map, hv0] at hv0'
        cases hv0'
        obtain ⟨S2, s2⟩ := S1.chg (t := t') (fp := Oc' j0) ht0 hσ0 r0 (S'.nod j0) (fun a ha => by
          rcases st.nw a ⟨j0, ha⟩ with z | z
          · exact .inl ((owc a).mp z)
          · exact .inr z) fun a o e n => st.fr a o e fun z => n ((owc a).mp z)
        refine q v H2 _ (s1.trans s2) S2 (l1.trans setT_lk) (repM_kd (RepM.back s1 ?_))
        cases hk : o.1 with
        | own =>
          rw [hk] at rr
          obtain ⟨fp, a, b, c⟩ := rr
          rw [if_pos rfl]
          have key : ∀ y ∈ fp, y ∈ O1 i0 ∨ H1 y = none := fun y hy => by
            rcases (c y hy).2.2 with z | z
            · exact .inl ((owc y).mp z)
            · exact .inr z
          refine ⟨fp, a, b, fun y hy => ⟨(c y hy).1, fun z => ?_, (key y hy).imp (fun z => ⟨i0, z⟩) id⟩⟩
          obtain ⟨j, z⟩ := z
          by_cases hj : j = i0
          · subst hj; rw [upO_same] at z; exact (c y hy).2.1 ⟨j0, z⟩
          · rw [upO_ne hj] at z
            rcases key y hy with q | q
            · exact hj (S1.dis j i0 y z q)
            · exact mut_none (S1.mt y ⟨j, z⟩) q
        | shr =>
          rw [hk] at rr
          rw [if_neg (by decide)]
          obtain ⟨fp, a, _⟩ := rr
          exact ⟨fp, a⟩
        | view => rw [hk] at rr; exact rr.elim

/-! ### indexing -/
def mIdx (a b : MX) : MX := fun τ => (a τ).bind fun x => (b x.2.2).bind fun y => if x.1 = .view then none else (gIdx .view x.2.1 y.2.1).map fun z => (z.1, z.2, y.2.2)
def mIdxN (i : Nat) (b : MX) : MX := fun τ => (trOf τ i).bind fun _ => (b τ).bind fun y => (trOf y.2.2 i).bind fun x => (gIdx .view x y.2.1).map fun z => (z.1, z.2, y.2.2)
theorem idx_out {X : Cx} {τ : En} {σ : St} {H H2 : Hp} {O O2 : Nat → List Addr} {tx ty : PV} {x y : V} {fx fy : List Addr} {z : Kd × PV} {Q : VK} (S2 : StR X.K X.prog X.w τ σ H2 O2) (s : Step H O H2 O2) (r1 : Rep X.K X.prog X.w H2 tx x fx) (r2 : Rep X.K X.prog X.w H2 ty y fy) (e : gIdx .view tx ty = some z)
    (q : ∀ v, RepM X.K X.prog X.w H O H2 O2 z.1 z.2 v → Q v H2) : rIxA X.K x y H2 Q :=
  gIdx_ok (O := O2) (H0 := H2) (k := .view) ⟨fx, r1⟩ r2 e fun v rz => q v (repM_of S2 s rz)
theorem snm_idx {C : Cn} {a b : Expr} {fa fb : MX} {pos : Pos} (ha : SndM C a fa) (hb : SndM C b fb) (hs : PlainIx b := by exact fun _ _ => rfl) : SndM C (.Subscript a b pos) (mIdx fa fb) := by
  intro X G
  refine PE.weak (pe_ix (ix_all (by have := G.un; omega)) (ha X G) (hb X G) hs) fun σ H Q h => ?_
  obtain ⟨τ, O, S, k, t, τ', e, q⟩ := h
  unfold mIdx at e
  cases ea : fa τ with
  | none => rw [ea] at e; cases e
  | some x =>
    rw [ea] at e
    simp only [Option.bind_some] at e
    cases eb : fb x.2.2 with
    | none => rw [eb] at e; cases e
    | some y =>
      rw [eb] at e
      simp only [Option.bind_some] at e
      split at e
      · cases e
      rename_i hk
      cases eg : gIdx .view x.2.1 y.2.1 with
      | none => rw [eg] at e; cases e
      | some z =>
        rw [eg] at e; cases e
        refine gM.mono S ea fun v1 H1 O1 s1 S1 l1 r1 => gM.mono S1 eb fun v2 H2 O2 s2 S2 l2 r2 => ?_
        obtain ⟨f1, r1, _⟩ := (r1.keep S1 hk s2).any
        obtain ⟨f2, r2, _⟩ := r2.any
        exact idx_out S2 (s1.trans s2) r1 r2 eg fun v rv => q v H2 O2 (s1.trans s2) S2 (l1.trans l2) rv
theorem snm_idxN {C : Cn} (i : Nat) {x : Str} {b : Expr} {fb : MX} {p pos : Pos} (hN : C.N[i]? = some x) (hv : visB C.sc x = true) (hb : SndM C b fb) (hd : (x == ("__debug__" : Str)) = false := by decide) (hcd : (x == ("__classdict__" : Str)) = false := by decide) (hs : PlainIx b := by exact fun _ _ => rfl) : SndM C (.Subscript (.Name x p) b pos) (mIdxN i fb) := by
  intro X G
  refine PE.weak (pe_ix (ix_all (by have := G.un; omega)) (pe_var (i := i) (by rw [G.N]; exact hN) (by rw [G.sc]; exact vis_of hv) hd hcd) (hb X G) hs) fun σ H Q h => ?_
  obtain ⟨τ, O, S, k, t, τ', e, q⟩ := h
  unfold mIdxN at e
  cases et : trOf τ i with
  | none => rw [et] at e; cases e
  | some u =>
    rw [et] at e
    simp only [Option.bind_some] at e
    cases eb : fb τ with
    | none => rw [eb] at e; cases e
    | some y =>
      rw [eb] at e
      simp only [Option.bind_some] at e
      cases ex : trOf y.2.2 i with
      | none => rw [ex] at e; cases e
      | some x =>
        rw [ex] at e
        simp only [Option.bind_some] at e
        cases eg : gIdx .view x y.2.1 with
        | none => rw [eg] at e; cases e
        | some z =>
          rw [eg] at e; cases e
          obtain ⟨v, fp, hσ, _, _⟩ := trOf_ok S et
          refine ⟨v, hσ, gM.mono S eb fun v2 H2 O2 s2 S2 l2 r2 => ?_⟩
          obtain ⟨f2, r2, _⟩ := r2.any
          obtain ⟨v', f1, hσ', r1, _⟩ := trOf_ok S2 ex
          rw [hσ] at hσ'; cases hσ'
          exact idx_out S2 s2 r1 r2 eg fun v rv => q v H2 O2 s2 S2 l2 rv

/-! ### tests, x if c else y -/
abbrev MTX := En → Option (Bool × En)
def genMT (K : PySem.W.Frag) (P : Program) (w : World) (f : MTX) : TT := fun σ H Q => ∃ τ O, StR K P w τ σ H O ∧ ∃ b τ', f τ = some (b, τ') ∧ ∀ H' O', Step H O H' O' → StR K P w τ' σ H' O' → Lk τ τ' → Q b H'
abbrev gMT (X : Cx) (f : MTX) : TT := genMT X.K X.prog X.w f
def SndMT (C : Cn) (e : Expr) (f : MTX) : Prop := ∀ X, Gd C X → PT X e (gMT X f)
def SndMW (C : Cn) (e : Expr) (f : MTX) : Prop := ∀ X, Gd C X → PW X e (gMT X f)
theorem gMT.mono {K : PySem.W.Frag} {P : Program} {w : World} {f : MTX} {τ : En} {σ : St} {H : Hp} {O : Nat → List Addr} {b : Bool × En} {Q : Bool → Hp → Prop} (S : StR K P w τ σ H O) (e : f τ = some b)
    (h : ∀ H' O', Step H O H' O' → StR K P w b.2 σ H' O' → Lk τ b.2 → Q b.1 H') : genMT K P w f σ H Q := ⟨τ, O, S, b.1, b.2, e, h⟩
def mtP (f : TX) : MTX := fun τ => (f τ).map fun b => (b, τ)
theorem smt_p {C : Cn} {e : Expr} {f : TX} (h : SndT C e f) : SndMT C e (mtP f) := fun X G => PT.weak (h X G) fun σ H Q q => by
  obtain ⟨τ, O, S, b, τ', e, q⟩ := q
  unfold mtP at e
  cases ef : f τ with
  | none => rw [ef] at e; cases e
  | some r =>
    rw [ef] at e; cases e
    exact gT.mono S ef fun H' x S' => q H' O (.ex x) S' .refl
def mTru (f : MX) : MTX := fun τ => (f τ).bind fun x => (tru x.2.1).map fun b => (b, x.2.2)
theorem smt_val {C : Cn} {e : Expr} {f : MX} (h : SndM C e f) (he : ∀ env whole, isTrue e env whole = (do let v ← whole; standAt e.pos; holding [v] (truthy v)) := by exact fun _ _ => rfl) : SndMT C e (mTru f) := fun X G =>
  PT.weak (pt_truth (h X G) (he X.env)) fun σ H Q q => by
    obtain ⟨τ, O, S, b, τ', e, q⟩ := q
    unfold mTru at e
    cases ea : f τ with
    | none => rw [ea] at e; cases e
    | some x =>
      rw [ea] at e
      simp only [Option.bind_some] at e
      cases et : tru x.2.1 with
      | none => rw [et] at e; cases e
      | some b =>
        rw [et] at e; cases e
        refine gM.mono S ea fun v1 H1 O1 s1 S1 l1 r1 => ?_
        obtain ⟨f1, r1, _⟩ := r1.any
        exact ⟨b, tru_ok' r1 et, q H1 O1 s1 S1 l1⟩
def mTrB (f : MX) : MTX := fun τ => (f τ).bind fun x => match x.2.1 with | .bl b => some (b, x.2.2) | _ => none
theorem smt_core {X : Cx} {f : MX} {te : TE} {σ : St} {H : Hp} {Q : Bool → Hp → Prop} (hw : ∀ Q, gM X f σ H Q → te σ H Q) (q : gMT X (mTrB f) σ H Q) : te σ H fun v H' => ∃ b, v = .bl b ∧ Q b H' := by
  obtain ⟨τ, O, S, b, τ', e, q⟩ := q
  unfold mTrB at e
  cases ea : f τ with
  | none => rw [ea] at e; cases e
  | some x =>
    rw [ea] at e
    simp only [Option.bind_some] at e
    split at e
    · rename_i c hc
      cases e
      refine hw _ (gM.mono S ea fun v H1 O1 s1 S1 l1 r1 => ?_)
      rw [hc] at r1
      obtain ⟨fp, r, _⟩ := r1.any
      simp only [Rep] at r
      exact ⟨_, r.1, q H1 O1 s1 S1 l1⟩
    · cases e
theorem smt_cmp {C : Cn} {a b : Expr} {op : CmpOp} {fa fb : MX} {g : PV → PV → Option (Kd × PV)} {pos : Pos} (ho : ∀ X, Gd C X → OpS X (compareOp op) g) (ha : SndM C a fa) (hb : SndM C b fb) (hm : behindInMarks op b = false := by rfl) :
    SndMT C (.Compare a [op] [b] pos) (mTrB (mBin g fa fb)) := fun X G =>
  PT.weak (pt_cmpR (ho X G).op (ha X G) (hb X G) hm) fun σ H Q q => smt_core (fun Q h => gM.two h) q
theorem smt_cmpP {C : Cn} {a b : Expr} {op : CmpOp} {fa : MX} {fb : PX} {g : PV → PV → Option (Kd × PV)} {pos : Pos} (ho : ∀ X, Gd C X → OpS X (compareOp op) g) (ha : SndM C a fa) (hb : SndP C b fb) (hm : behindInMarks op b = false := by rfl) :
    SndMT C (.Compare a [op] [b] pos) (mTrB (mBinP g fa fb)) := fun X G =>
  PT.weak (pt_cmpR (ho X G).op (ha X G) (hb X G) hm) fun σ H Q q => smt_core (fun Q h => gM.twoP h) q
def mNotC (f : MTX) : MTX := fun τ => (f τ).map fun x => (!x.1, x.2)
def mAndC (f g : MTX) : MTX := fun τ => (f τ).bind fun b => if b.1 then g b.2 else some (false, b.2)
def mOrC (f g : MTX) : MTX := fun τ => (f τ).bind fun b => if b.1 then some (true, b.2) else g b.2

theorem smt_not {C : Cn} {e : Expr} {f : MTX} {pos : Pos} (h : SndMT C e f) : SndMT C (.UnaryOp .Not e pos) (mNotC f) := fun X G =>
  PT.weak (pt_not (h X G)) fun σ H Q q => by
    obtain ⟨τ, O, S, b, τ', e, q⟩ := q
    unfold mNotC at e
    cases ea : f τ with
    | none => rw [ea] at e; cases e
    | some x =>
      rw [ea] at e; cases e
      exact gMT.mono S ea fun H' O' s S' l => q H' O' s S' l
theorem smt_w {C : Cn} {e : Expr} {f : MTX} (h : SndMW C e f) : SndMT C e f := fun X G => (h X G).pt
theorem smw_and1 {C : Cn} {e : Expr} {f : MTX} {pos : Pos} (h : SndMT C e f) : SndMW C (.BoolOp .And [e] pos) f := fun X G => pw_and1 (h X G)
theorem smw_or1 {C : Cn} {e : Expr} {f : MTX} {pos : Pos} (h : SndMT C e f) : SndMW C (.BoolOp .Or [e] pos) f := fun X G => pw_or1 (h X G)
theorem smw_and {C : Cn} {a b : Expr} {rest : List Expr} {f g : MTX} {pos : Pos} (ha : SndMT C a f) (hb : SndMW C (.BoolOp .And (b :: rest) pos) g) : SndMW C (.BoolOp .And (a :: b :: rest) pos) (mAndC f g) := fun X G =>
  PW.weak (pw_and (ha X G) (hb X G)) fun σ H Q q => by
    obtain ⟨τ, O, S, b, τ', e, q⟩ := q
    unfold mAndC at e
    cases ea : f τ with
    | none => rw [ea] at e; cases e
    | some x =>
      rw [ea] at e
      simp only [Option.bind_some] at e
      refine gMT.mono S ea fun H1 O1 s1 S1 l1 => ?_
      cases hx : x.1
      · rw [hx] at e
        simp only [Bool.false_eq_true, if_false] at e ⊢
        cases e
        exact q H1 O1 s1 S1 l1
      · rw [hx] at e
        simp only [if_true] at e ⊢
        exact gMT.mono S1 e fun H2 O2 s2 S2 l2 => q H2 O2 (s1.trans s2) S2 (l1.trans l2)
theorem smw_or {C : Cn} {a b : Expr} {rest : List Expr} {f g : MTX} {pos : Pos} (ha : SndMT C a f) (hb : SndMW C (.BoolOp .Or (b :: rest) pos) g) : SndMW C (.BoolOp .Or (a :: b :: rest) pos) (mOrC f g) := fun X G =>
  PW.weak (pw_or (ha X G) (hb X G)) fun σ H Q q => by
    obtain ⟨τ, O, S, b, τ', e, q⟩ := q
    unfold mOrC at e
    cases ea : f τ with
    | none => rw [ea] at e; cases e
    | some x =>
      rw [ea] at e
      simp only [Option.bind_some] at e
      refine gMT.mono S ea fun H1 O1 s1 S1 l1 => ?_
      cases hx : x.1
      · rw [hx] at e
        simp only [Bool.false_eq_true, if_false] at e ⊢
        exact gMT.mono S1 e fun H2 O2 s2 S2 l2 => q H2 O2 (s1.trans s2) S2 (l1.trans l2)
      · rw [hx] at e
        simp only [if_true] at e ⊢
        cases e
        exact q H1 O1 s1 S1 l1
def mIf (c : MTX) (f g : MX) : MX := fun τ => (c τ).bind fun b => if b.1 then f b.2 else g b.2
theorem snm_if {C : Cn} {c a b : Expr} {fc : MTX} {f g : MX} {pos : Pos} (hc : SndMT C c fc) (ha : SndM C a f) (hb : SndM C b g) : SndM C (.IfExp c a b pos) (mIf fc f g) := fun X G =>
  PE.weak (pe_ifExp (hc X G) (ha X G) (hb X G)) fun σ H Q q => by
    obtain ⟨τ, O, S, k, t, τ', e, q⟩ := q
    unfold mIf at e
    cases ea : fc τ with
    | none => rw [ea] at e; cases e
    | some x =>
      rw [ea] at e
      simp only [Option.bind_some] at e
      refine gMT.mono S ea fun H1 O1 s1 S1 l1 => ?_
      cases hx : x.1
      · rw [hx] at e
        simp only [Bool.false_eq_true, if_false] at e ⊢
        exact gM.mono S1 e fun v H2 O2 s2 S2 l2 r => q v H2 O2 (s1.trans s2) S2 (l1.trans l2) (r.back s1)
      · rw [hx] at e
        simp only [if_true] at e ⊢
        exact gM.mono S1 e fun v H2 O2 s2 S2 l2 r => q v H2 O2 (s1.trans s2) S2 (l1.trans l2) (r.back s1)

/-! ### statements -/
theorem put_okM {K : PySem.W.Frag} {P : Program} {w : World} {τ τ1 τ' : En} {σ : St} {H H1 : Hp} {O O1 : Nat → List Addr} {i : Nat} {k : Kd} {t : PV} {v : V} (S : StR K P w τ σ H O) (s1 : Step H O H1 O1) (S1 : StR K P w τ1 σ H1 O1) (l1 : Lk τ τ1) (r : RepM K P w H O H1 O1 k t v) (e : putI τ1 i k t = some τ') :
    ∃ O', Step H O H1 O' ∧ StR K P w τ' (σ.set i (some v)) H1 O' ∧ IoOk τ τ' σ (σ.set i (some v)) := by
  have hk : k ≠ .view := fun z => by unfold putI at e; rw [z] at e; split at e <;> cases e
  have key : ∃ fp, Rep K P w H1 t v fp ∧ (∀ a ∈ fp, ¬ ow O1 a) ∧ (k = .own → fp.Nodup ∧ ∀ a ∈ fp, ow O a ∨ H a = none) := by
    cases k with
    | own => obtain ⟨fp, a, b, c⟩ := r; exact ⟨fp, a, fun z hz => (c z hz).2.1, fun _ => ⟨b, fun z hz => (c z hz).2.2⟩⟩
    | shr => obtain ⟨fp, a, b⟩ := r; exact ⟨fp, a, b, fun z => nomatch z⟩
    | view => exact absurd rfl hk
  obtain ⟨fp, r, n, o⟩ := key
  have io0 : IoOk τ τ1 σ σ := l1.io
  obtain ⟨S2, i2⟩ := put_at S1 r (fun z => (o z).1) n (fun z j u ej => by
    obtain ⟨y, f, hσ, ry, ny⟩ := S.shr j u (l1.shr ej)
    refine ⟨y, f, hσ, Rep.fr S.mt s1.fr _ _ _ ry ny, fun a ha => ⟨fun q => ?_, fun q => ?_⟩⟩
    · rcases s1.nw a q with q | q
      · exact ny a ha q
      · exact mut_none (rep_mut _ _ _ ry a ha) q
    · rcases (o z).2 a q with q | q
      · exact ny a ha q
      · exact mut_none (rep_mut _ _ _ ry a ha) q) e
  refine ⟨_, ⟨s1.fr, fun a z => ?_⟩, S2, io0.trans i2⟩
  rcases ow_up z with z | z
  · exact s1.nw a z
  · split at z
    · exact (o (by assumption)).2 a z
    · cases z
def sAsgM (i : Nat) (f : MX) : SX := fun τ => (f τ).bind fun r => (putI r.2.2 i r.1 r.2.1).bind fun τ' => some (.nx, τ')
theorem asgM_core {X : Cx} {i : Nat} {f : MX} {te : TE} {D : Ends} {σ : St} {H : Hp} (hw : ∀ Q, gM X f σ H Q → te σ H Q) (q : gS X (sAsgM i f) D σ H) : te σ H fun v H' => D.nx (σ.set i (some v)) H' := by
  obtain ⟨τ, O, S, o, τ', e, q⟩ := q
  unfold sAsgM at e
  cases ef : f τ with
  | none => rw [ef] at e; cases e
  | some r =>
    rw [ef] at e
    simp only [Option.bind_some] at e
    cases ep : putI r.2.2 i r.1 r.2.1 with
    | none => rw [ep] at e; cases e
    | some τ1 =>
      rw [ep] at e; cases e
      refine hw _ (gM.mono S ef fun v H1 O1 s1 S1 l1 r1 => ?_)
      obtain ⟨O2, s2, S2, i2⟩ := put_okM S s1 S1 l1 r1 ep
      exact q _ H1 O2 s2 S2 i2
theorem sns_asgM {C : Cn} (i : Nat) {x : Str} {e : Expr} {f : MX} {p pos : Pos} (hN : C.N[i]? = some x) (hx : locB C.sc x = true) (hst : stB C x = true) (h : SndM C e f) (hs : ∀ env : Env, env.scope = C.sc → swapsWith e (some (.Name x p)) pos.line env = pure false := by exact fun _ _ => rfl) :
    SndS C (.Assign [.Name x p] e pos) (sAsgM i f) := fun X G =>
  PS.weak (ps_set (i := i) G.nd (by rw [G.N]; exact hN) (locT G hx) (h X G) (hs X.env G.sc) (st_of G hst)) fun D σ H q => asgM_core (fun _ h => h) q
def sRetM (f : MX) : SX := fun τ => (f τ).bind fun r => match r.1 with | .view => none | k => some (.ret k r.2.1, r.2.2)
theorem sns_retM {C : Cn} {e : Expr} {f : MX} {pos : Pos} (h : SndM C e f) : SndS C (.Return (some e) pos) (sRetM f) := fun X G =>
  PS.weak (ps_ret (h X G)) fun D σ H q => by
    obtain ⟨τ, O, S, o, τ', e, q⟩ := q
    unfold sRetM at e
    cases ef : f τ with
    | none => rw [ef] at e; cases e
    | some r =>
      rw [ef] at e
      simp only [Option.bind_some] at e
      refine gM.mono S ef fun v H1 O1 s1 S1 l1 r1 => ?_
      split at e
      · cases e
      · rename_i hk
        cases e
        exact q σ H1 O1 s1 S1 l1.io v (r1.repR hk)
def sIfM (c : MTX) (f g : SX) : SX := fun τ => (c τ).bind fun b => if b.1 then f b.2 else g b.2
theorem sns_ifM {C : Cn} {c : Expr} {a b : List Stmt} {fc : MTX} {f g : SX} {pos : Pos} (hc : SndMT C c fc) (ha : SndSs C a f) (hb : SndSs C b g) : SndS C (.If c a b pos) (sIfM fc f g) := fun X G =>
  PS.weak (ps_if (hc X G) (ha X G) (hb X G)) fun D σ H q => by
    obtain ⟨τ, O, S, o, τ', e, q⟩ := q
    unfold sIfM at e
    cases ea : fc τ with
    | none => rw [ea] at e; cases e
    | some x =>
      rw [ea] at e
      simp only [Option.bind_some] at e
      refine gMT.mono S ea fun H1 O1 s1 S1 l1 => ?_
      cases hx : x.1
      · rw [hx] at e
        simp only [Bool.false_eq_true, if_false] at e ⊢
        exact ⟨x.2, O1, S1, o, τ', e, fun σ' H2 O2 s2 S2 i2 => (q σ' H2 O2 (s1.trans s2) S2 (l1.io.trans i2)).back s1⟩
      · rw [hx] at e
        simp only [if_true] at e ⊢
        exact ⟨x.2, O1, S1, o, τ', e, fun σ' H2 O2 s2 S2 i2 => (q σ' H2 O2 (s1.trans s2) S2 (l1.io.trans i2)).back s1⟩
def sExpM (f : MX) : SX := fun τ => (f τ).bind fun r => some (.nx, r.2.2)
theorem sns_expM {C : Cn} {e : Expr} {f : MX} {pos : Pos} (h : SndM C e f) (hs : ∀ env : Env, swapsWith e none pos.line env = pure false := by exact fun _ => rfl) : SndS C (.Expr e pos) (sExpM f) := fun X G =>
  PS.weak (ps_expr (h X G) (hs X.env)) fun D σ H q => by
    obtain ⟨τ, O, S, o, τ', e, q⟩ := q
    unfold sExpM at e
    cases ef : f τ with
    | none => rw [ef] at e; cases e
    | some r =>
      rw [ef] at e; cases e
      exact gM.mono S ef fun v H1 O1 s1 S1 l1 _ => q σ H1 O1 s1 S1 l1.io
def sAugM (i : Nat) (g : PV → PV → Option (Kd × PV)) (f : MX) : SX := fun τ => (mBin g (mP (eVar i)) f τ).bind fun z => (putI z.2.2 i z.1 z.2.1).bind fun τ' => some (.nx, τ')
theorem sns_augM {C : Cn} (i : Nat) {x : Str} {e : Expr} {op : Operator} {f : MX} {g : PV → PV → Option (Kd × PV)} {p pos : Pos} (hN : C.N[i]? = some x) (hx : locB C.sc x = true) (hst : stB C x = true) (ho : ∀ X, Gd C X → OpS X (inplaceOp op) g) (h : SndM C e f) :
    SndS C (.AugAssign (.Name x p) op e pos) (sAugM i g f) := fun X G =>
  PS.weak (ps_aug (i := i) (ti := r2S X g) G.nd (by rw [G.N]; exact hN) (locT G hx) (h X G) (fun pins s σ H x y v u Q I rx ry q => (ho X G).op pins s σ H x y v u Q I rx ry q) (st_of G hst)) fun D σ H q => by
    have q := asgM_core (X := X) (te := fun σ H Q => ∃ x, σ[i]? = some (some x) ∧ gM X f σ H fun y H1 => r2S X g x y H1 Q) (fun Q h => by
      have := gM.two h
      obtain ⟨τ, O, S, k, t, τ', e, q⟩ := this
      unfold mP at e
      cases ev : eVar i τ with
      | none => rw [ev] at e; cases e
      | some vx =>
        rw [ev] at e; cases e
        have : ∃ v, σ[i]? = some (some v) ∧ RepM X.K X.prog X.w H O H O vx.1 vx.2 v := by
          unfold eVar at ev
          split at ev
          · rename_i u hu; cases ev; obtain ⟨v, a, b⟩ := S.own i _ (.inl hu); exact ⟨v, a, repM_kd (k := .view) ⟨_, b⟩⟩
          · rename_i u hu; cases ev; obtain ⟨v, a, b⟩ := S.own i _ (.inr hu); exact ⟨v, a, repM_kd (k := .view) ⟨_, b⟩⟩
          · rename_i u hu; cases ev; obtain ⟨v, fp, a, b, c⟩ := S.shr i _ hu; exact ⟨v, a, repM_kd (k := .shr) ⟨_, b, c⟩⟩
          · cases ev
        obtain ⟨v, hσ, r⟩ := this
        exact ⟨v, hσ, q v H O .refl S .refl r⟩) q
    obtain ⟨x, a, b⟩ := q
    exact ⟨x, a, b⟩
end Pv
namespace Pv
open PySem PySem.Spec L2

/-! ### what is walked -/
abbrev IMX := En → Option (Kd × List PV × En)
def genIM (K : PySem.W.Frag) (P : Program) (w : World) (f : IMX) : TI := fun σ H R => ∃ τ O, StR K P w τ σ H O ∧ ∃ k ts τ', f τ = some (k, ts, τ') ∧ ∀ J H' O', Step H O H' O' → StR K P w τ' σ H' O' → Lk τ τ' → SrcP K P w O' H' J k ts → R J H'
def SndIM (C : Cn) (tg iter : Expr) (f : IMX) : Prop := ∀ X, Gd C X → PI X tg iter (genIM X.K X.prog X.w f)
def imP (f : IX) : IMX := fun τ => (f τ).map fun r => (r.1, r.2, τ)
theorem sim_p {C : Cn} {tg e : Expr} {f : IX} (h : SndI C tg e f) : SndIM C tg e (imP f) := fun X G => PI.weak (h X G) fun σ H R q => by
  obtain ⟨τ, O, S, k, ts, τ', e, q⟩ := q
  unfold imP at e
  cases ef : f τ with
  | none => rw [ef] at e; cases e
  | some r =>
    rw [ef] at e; cases e
    exact ⟨τ, O, S, r.1, r.2, ef, fun J H' x sp => q J H' O (.ex x) (S.ex x) .refl sp⟩
def imVal (f : MX) : IMX := fun τ => (f τ).bind fun r => if r.1 = .view then none else (itOf r.1 r.2.1).map fun s => (s.1, s.2, r.2.2)
theorem sim_val {C : Cn} {tg e : Expr} {f : MX} (h : SndM C e f) : SndIM C tg e (imVal f) := fun X G =>
  PI.weak (PI.or (pi_list (h X G)) (PI.or (pi_tup (h X G)) (pi_str (h X G)))) fun σ H R q => by
    obtain ⟨τ, O, S, k, ts, τ', e, q⟩ := q
    unfold imVal at e
    cases ef : f τ with
    | none => rw [ef] at e; cases e
    | some r =>
      rw [ef] at e
      simp only [Option.bind_some] at e
      split at e
      · cases e
      rename_i hkv
      cases et : r.2.1 <;> rw [et] at e <;> simp only [itOf, reduceCtorEq, Option.map_none, Option.map_some] at e <;> cases e
      · -- a text
        rename_i s
        refine .inr (.inr (gM.mono S ef fun v H1 O1 s1 S1 l1 r1 => ?_))
        obtain ⟨fp, r1, _⟩ := r1.any
        rw [et] at r1
        simp only [Rep] at r1
        refine ⟨mkS s, r1.1, q _ H1 O1 s1 S1 l1 ⟨fun _ => False, fun _ _ z => z.elim, fun _ z => z.elim, fun H2 _ => ⟨fun i hi => ?_, ?_, fun i x H3 t ht hy => ?_⟩⟩⟩
        · show i < (mkS s).cps.size
          rw [List.length_map] at hi
          unfold mkS; simpa using hi
        · show (mkS s).cps.size ≤ (s.map _).length
          unfold mkS; simp
        · obtain ⟨e1, c, hc, e2⟩ := hy
          subst e1
          rw [List.getElem?_map] at ht
          have hc' : s[i]? = some c := by unfold mkS at hc; simpa using hc
          rw [hc'] at ht
          cases ht
          refine ⟨.refl, [], ?_, fun _ z => nomatch z⟩
          rw [e2]
          exact rep_str (s := [c]) (r1.2.1.sub (by have := (List.getElem?_eq_some_iff.mp hc').1; show 1 ≤ s.length; omega) fun d hd => by simp at hd; rw [hd]; exact List.mem_of_getElem? hc')
      · -- a list
        refine .inl (gM.mono S ef fun v H1 O1 s1 S1 l1 r1 => ?_)
        obtain ⟨fp, r1, nw⟩ := r1.any
        rw [et] at r1
        have r0 := r1
        simp only [Rep] at r1
        obtain ⟨a, vs, f1, ev, hl, rs, ef1⟩ := r1
        refine ⟨a, ev, ⟨vs, SqL.of hl⟩, q _ H1 O1 s1 S1 l1 ⟨fun b => b ∈ fp, fun _ => nw hkv, fun b hb => rep_mut _ _ _ r0 b hb, fun H2 hk => ?_⟩⟩
        have hl2 : H2 a = some (.lst vs) := hk a _ hl (.inl (by rw [ef1]; exact List.mem_cons_self))
        have rs2 := Reps.keep (A := fun b => b ∈ fp) hk ts vs f1 rs fun b hb => by rw [ef1]; exact List.mem_cons_of_mem _ hb
        refine ⟨fun i hi => ?_, ⟨vs, SqL.of hl2, by rw [rs.length]; exact Nat.le_refl _⟩, fun i x H3 t ht hy => ?_⟩
        · have : i < vs.length := by rw [rs.length]; exact hi
          exact ⟨vs, vs[i], SqL.of hl2, List.getElem?_eq_getElem this⟩
        · obtain ⟨e1, hy⟩ := hy
          subst e1
          obtain ⟨z, g, hz, rz, sz, _⟩ := rs2.get ht
          have := hy vs (SqL.of hl2)
          rw [hz] at this
          cases this
          exact ⟨.refl, g, rz, fun b hb => by rw [ef1]; exact List.mem_cons_of_mem _ (sz b hb)⟩
      · -- a tuple
        refine .inr (.inl (gM.mono S ef fun v H1 O1 s1 S1 l1 r1 => ?_))
        obtain ⟨fp, r1, nw⟩ := r1.any
        rw [et] at r1
        have r0 := r1
        simp only [Rep] at r1
        obtain ⟨a, vs, ev, hl, rs⟩ := r1
        refine ⟨a, ev, ⟨vs, SqT.of hl⟩, q _ H1 O1 s1 S1 l1 ⟨fun b => b ∈ fp, fun _ => nw hkv, fun b hb => rep_mut _ _ _ r0 b hb, fun H2 hk => ?_⟩⟩
        have hl2 : H2 a = some (.tup vs) := hk a _ hl (.inr fun z => z)
        have rs2 := Reps.keep (A := fun b => b ∈ fp) hk ts vs fp rs fun b hb => hb
        refine ⟨fun i hi => ?_, ⟨vs, SqT.of hl2, by rw [rs.length]; exact Nat.le_refl _⟩, fun i x H3 t ht hy => ?_⟩
        · have : i < vs.length := by rw [rs.length]; exact hi
          exact ⟨vs, vs[i], SqT.of hl2, List.getElem?_eq_getElem this⟩
        · obtain ⟨e1, hy⟩ := hy
          subst e1
          obtain ⟨z, g, hz, rz, sz, _⟩ := rs2.get ht
          have := hy vs (SqT.of hl2)
          rw [hz] at this
          cases this
          exact ⟨.refl, g, rz, fun b hb => sz b hb⟩
      · -- a list that stays
        refine .inl (gM.mono S ef fun v H1 O1 s1 S1 l1 r1 => ?_)
        obtain ⟨fp, r1, nw⟩ := r1.any
        rw [et] at r1
        simp only [Rep] at r1
        obtain ⟨_, a, vs, ev, hl, rs⟩ := r1
        refine ⟨a, ev, ⟨vs, hl.sq⟩, q _ H1 O1 s1 S1 l1 ⟨fun _ => False, fun _ _ z => z.elim, fun b z => z.elim, fun H2 hk => ?_⟩⟩
        have hl2 : FzL X.K H2 a vs := by
          rcases hl with ⟨o, hl⟩ | hl
          · exact .inl ⟨o, hk a _ hl (.inr fun z => z)⟩
          · exact .inr hl
        have rs2 := Reps.keep (A := fun _ => False) hk ts vs [] rs fun b hb => nomatch hb
        refine ⟨fun i hi => ?_, ⟨vs, hl2.sq, by rw [rs.length]; exact Nat.le_refl _⟩, fun i x H3 t ht hy => ?_⟩
        · have : i < vs.length := by rw [rs.length]; exact hi
          exact ⟨vs, vs[i], hl2.sq, List.getElem?_eq_getElem this⟩
        · obtain ⟨e1, hy⟩ := hy
          subst e1
          obtain ⟨z, g, hz, rz, sz, _⟩ := rs2.get ht
          have := hy vs hl2.sq
          rw [hz] at this
          cases this
          exact ⟨.refl, g, rz, fun b hb => nomatch sz b hb⟩

def imRg1 (a : MX) : IMX := fun τ => (a τ).bind fun x => (isI x.2.1).bind fun j => if bd62 j then some (.shr, rgL 0 j.toNat, x.2.2) else none
def imRg2 (a b : MX) : IMX := fun τ => (a τ).bind fun x => (b x.2.2).bind fun y => (isI x.2.1).bind fun i => (isI y.2.1).bind fun j => if bd62 i && bd62 j then some (.shr, rgL i (j - i).toNat, y.2.2) else none
theorem sim_rg1 {C : Cn} {tg a : Expr} {f : MX} {p pos : Pos} (hg : glB C.sc "range" = true) (h : SndM C a f) (he : ∀ env, starEach [a] env = (false, eval a env) :: starEach [] env := by exact fun _ => rfl) : SndIM C tg (.Call (.Name "range" p) [a] [] pos) (imRg1 f) := fun X G =>
  PI.weak (pi_range1 (gl_of G hg) (G.blt _ (by decide +kernel)) (pa_cons (h X G) pa_nil (he X.env)) (he X.env)) fun σ H R q => by
    obtain ⟨τ, O, S, k, ts, τ', e, q⟩ := q
    unfold imRg1 at e
    cases ef : f τ with
    | none => rw [ef] at e; cases e
    | some r =>
      rw [ef] at e
      simp only [Option.bind_some] at e
      cases ei : isI r.2.1 with
      | none => rw [ei] at e; cases e
      | some j =>
        rw [ei] at e
        simp only [Option.bind_some] at e
        split at e
        · rename_i hb
          simp only [bd62, Bool.and_eq_true, decide_eq_true_eq] at hb
          cases e
          refine gM.mono S ef fun v H1 O1 s1 S1 l1 r1 => ?_
          obtain ⟨fp, r1, _⟩ := r1.any
          exact ⟨j, by rw [isI_rep ei r1], hb.1, hb.2, q _ H1 O1 s1 S1 l1 (src_rg 0 _)⟩
        · cases e
theorem sim_rg2 {C : Cn} {tg a b : Expr} {f g : MX} {p pos : Pos} (hg : glB C.sc "range" = true) (h : SndM C a f) (h' : SndM C b g) (he : ∀ env, starEach [a, b] env = (false, eval a env) :: starEach [b] env := by exact fun _ => rfl) (he' : ∀ env, starEach [b] env = (false, eval b env) :: starEach [] env := by exact fun _ => rfl) : SndIM C tg (.Call (.Name "range" p) [a, b] [] pos) (imRg2 f g) := fun X G =>
  PI.weak (pi_range2 (gl_of G hg) (G.blt _ (by decide +kernel)) (pa_cons (h X G) (pa_cons (h' X G) pa_nil (he' X.env)) (he X.env)) (by rw [he X.env, he' X.env]; rfl) (he' X.env)) fun σ H R q => by
    obtain ⟨τ, O, S, k, ts, τ', e, q⟩ := q
    unfold imRg2 at e
    cases ef : f τ with
    | none => rw [ef] at e; cases e
    | some r =>
      rw [ef] at e
      simp only [Option.bind_some] at e
      cases eg : g r.2.2 with
      | none => rw [eg] at e; cases e
      | some r' =>
        rw [eg] at e
        simp only [Option.bind_some] at e
        cases ei : isI r.2.1 with
        | none => rw [ei] at e; cases e
        | some i =>
          cases ej : isI r'.2.1 with
          | none => rw [ei, ej] at e; cases e
          | some j =>
            rw [ei, ej] at e
            simp only [Option.bind_some] at e
            split at e
            · rename_i hb
              simp only [bd62, Bool.and_eq_true, decide_eq_true_eq] at hb
              cases e
              refine gM.mono S ef fun v H1 O1 s1 S1 l1 r1 => gM.mono S1 eg fun v2 H2 O2 s2 S2 l2 r2 => ?_
              obtain ⟨fp, r1, _⟩ := r1.any
              obtain ⟨fp2, r2, _⟩ := r2.any
              exact ⟨i, j, by rw [isI_rep ei r1, isI_rep ej r2], ⟨hb.1.1, hb.1.2, hb.2.1, hb.2.2⟩, q _ H2 O2 (s1.trans s2) S2 (l1.trans l2) (src_rg _ _)⟩
            · cases e

/-! ### for -/
def sForM (it : IMX) (g : GX) (f : SX) : SX := fun τ => (it τ).bind fun r => if r.1 = .view then none else forL g f r.2.1 r.2.2
theorem sns_forM {C : Cn} {tg iter : Expr} {body : List Stmt} {is : List Nat} {fi : IMX} {g : GX} {f : SX} {pos : Pos} (hi : SndIM C tg iter fi) (hg : SndG C tg is g) (hb : SndSs C body f) (hs : ∀ env x, foldedSetIterable iter env x = pure x := by exact fun _ _ => rfl) :
    SndS C (.For tg iter body [] pos) (sForM fi g f) := fun X G =>
  PS.weak (ps_for G.po G.calm (hi X G) (hg X G) (hb X G) (hs X.env)) fun D σ H q => by
    obtain ⟨τ, O, S, o, τ', e, q⟩ := q
    unfold sForM at e
    cases ei : fi τ with
    | none => rw [ei] at e; cases e
    | some r =>
      rw [ei] at e
      simp only [Option.bind_some] at e
      split at e
      · cases e
      · rename_i hv
        refine ⟨τ, O, S, r.1, r.2.1, r.2.2, ei, fun J H0 O0 x0 S0 l0 sp => ?_⟩
        obtain ⟨A, hA, mA, src⟩ := sp.ex
        have nA : ∀ a, A a → ¬ ow O0 a := hA hv
        -- what has stayed since the loop's start
        have keep : ∀ {H1 O1}, Step H0 O0 H1 O1 → ∀ a o, H0 a = some o → (A a ∨ ¬ Mut (some o)) → H1 a = some o := fun {H1 O1} st a o e h => st.fr a o e fun z => by
          rcases h with h | h
          · exact nA a h z
          · have := S0.mt a z; rw [e] at this; exact h this
        have nA1 : ∀ {H1 O1}, Step H0 O0 H1 O1 → ∀ a, A a → ¬ ow O1 a := fun {H1 O1} st a ha z => by
          rcases st.nw a z with z | z
          · exact nA a ha z
          · exact mut_none (mA a ha) z
        refine ⟨fun i m σ1 H1 => i + m = r.2.1.length ∧ ∃ τ1 O1, StR X.K X.prog X.w τ1 σ1 H1 O1 ∧ Step H0 O0 H1 O1 ∧ IoOk τ τ1 σ σ1 ∧ forL g f (r.2.1.drop i) τ1 = some (o, τ'), ⟨r.2.1.length, by simp, r.2.2, O0, S0, .refl, l0.io, by simpa using e⟩, ?_⟩
        rintro i m σ1 H1 ⟨em, τ1, O1, S1, s1, i1, e1⟩
        obtain ⟨go, stop, yld⟩ := src H1 (keep s1)
        by_cases hlt : i < r.2.1.length
        · have hd : r.2.1.drop i = r.2.1[i] :: r.2.1.drop (i + 1) := List.drop_eq_getElem_cons hlt
          rw [hd] at e1
          simp only [forL] at e1
          cases eg : g r.2.1[i] τ1 with
          | none => rw [eg] at e1; cases e1
          | some τ2 =>
            rw [eg] at e1
            simp only [Option.bind_some] at e1
            cases ef : f τ2 with
            | none => rw [ef] at e1; cases e1
            | some r' =>
              rw [ef] at e1
              simp only [Option.bind_some] at e1
              refine .inr ⟨go i hlt, fun σ' H' => ∃ τ3 O3, StR X.K X.prog X.w τ3 σ' H' O3 ∧ Step H0 O0 H' O3 ∧ IoOk τ τ3 σ σ' ∧ forL g f (r.2.1.drop (i + 1)) τ3 = some (o, τ'), fun σ' H' ⟨τ3, O3, a, b, c, d⟩ => ⟨m - 1, by omega, by omega, τ3, O3, a, b, c, d⟩, fun x H2 hy => ?_⟩
              obtain ⟨x2, fp, rx, hfp⟩ := yld i x H2 _ (List.getElem?_eq_getElem hlt) hy
              have s2 : Step H0 O0 H2 O1 := s1.trans (.ex x2)
              refine ⟨τ1, O1, r.2.1[i], fp, S1.ex x2, rx, fun a ha => nA1 s2 a (hfp a ha), τ2, eg, fun σ3 O3 s3 S3 i3 _ _ _ => ?_⟩
              refine ⟨τ2, O3, S3, r'.1, r'.2, ef, fun σ4 H4 O4 s4 S4 i4 => ?_⟩
              have st : Step H0 O0 H4 O4 := s2.trans (s3.trans s4)
              have io : IoOk τ r'.2 σ σ4 := i1.trans (i3.trans i4)
              cases hr : r'.1 with
              | nx => rw [hr] at e1; exact ⟨r'.2, O4, S4, st, io, e1⟩
              | ct => rw [hr] at e1; exact ⟨r'.2, O4, S4, st, io, e1⟩
              | bk =>
                rw [hr] at e1
                cases e1
                exact q σ4 H4 O4 (x0.trans st) S4 io
              | ret k t =>
                rw [hr] at e1
                cases e1
                exact (q σ4 H4 O4 (x0.trans st) S4 io).back (x0.trans (s2.trans s3))
        · have hi' : i = r.2.1.length := by omega
          subst hi'
          rw [List.drop_length] at e1
          simp only [forL] at e1
          cases e1
          exact .inl ⟨stop, q σ1 H1 O1 (x0.trans s1) S1 i1⟩
end Pv
namespace Pv
open PySem PySem.Spec L2

/-! ### comprehensions whose item changes what slots own -/
def LkX (vs : List Nat) (τ τ' : En) : Prop := τ'.length = τ.length ∧ ∀ j, j ∉ vs → (τ'[j]?).map shp = (τ[j]?).map shp
theorem LkX.refl {vs : List Nat} {τ : En} : LkX vs τ τ := ⟨rfl, fun _ _ => rfl⟩
theorem LkX.trans {vs : List Nat} {τ τ' τ'' : En} (h : LkX vs τ τ') (h' : LkX vs τ' τ'') : LkX vs τ τ'' := ⟨h'.1.trans h.1, fun j hj => (h'.2 j hj).trans (h.2 j hj)⟩
theorem Lk.x {vs : List Nat} {τ τ' : En} (h : Lk τ τ') : LkX vs τ τ' := ⟨h.len, fun j _ => h.get j⟩
theorem wipeE_out {τ : En} {i : Nat} : ∀ {vs : List Nat}, i ∉ vs → (wipeE τ vs)[i]? = τ[i]?
  | [], _ => rfl
  | v :: vs, h => by
    unfold wipeE
    simp only [List.mem_cons, not_or] at h
    rw [List.getElem?_set_ne (Ne.symm h.1), wipeE_out h.2]
theorem wipeE_in {τ : En} {i : Nat} {s : Sl} : ∀ {vs : List Nat}, i ∈ vs → (wipeE τ vs)[i]? = some s → s = .un
  | v :: vs, h, e => by
    unfold wipeE at e
    rcases set_get e with ⟨_, b⟩ | ⟨a, b⟩
    · exact b
    · rcases List.mem_cons.mp h with z | z
      · exact absurd z a
      · exact wipeE_in z b
theorem LkX.wipe {vs : List Nat} {τ : En} : LkX vs τ (wipeE τ vs) := ⟨wipeE_length _ _, fun j hj => by rw [wipeE_out hj]⟩
theorem LkX.shr {vs : List Nat} {τ τ' : En} (h : LkX vs τ τ') {i : Nat} {t : PV} (hi : i ∉ vs) (e : τ'[i]? = some (Sl.shr t)) : τ[i]? = some (Sl.shr t) := by
  have := h.2 i hi
  rw [e] at this
  cases e' : τ[i]? with
  | none => rw [e'] at this; cases this
  | some s =>
    rw [e'] at this
    cases s <;> simp [shp] at this
    rw [this]
def compLM (vs : List Nat) (g : GX) (cd : TX) (el : MX) : List PV → En → Option (List PV × En)
  | [], τ => some ([], τ)
  | t :: ts, τ => (g t τ).bind fun τ1 => (cd τ1).bind fun b => if b then (el τ1).bind fun r => if r.1 = .own then (compLM vs g cd el ts (wipeE r.2.2 vs)).bind fun rs => some (r.2.1 :: rs.1, rs.2) else none else compLM vs g cd el ts (wipeE τ1 vs)
@[simp] def rstE (τ0 τ : En) : List Nat → En
  | [] => τ
  | v :: vs => (rstE τ0 τ vs).set v (τ0[v]?.getD .un)
@[simp] def okW (τ : En) (vs : List Nat) : Bool := vs.all fun v => match τ[v]? with
  | some (.own t) => imm t
  | some (.io _) => false
  | _ => true
def eCompM (it : IMX) (vs : List Nat) (g : GX) (cd : TX) (el : MX) : MX := fun τ => (it τ).bind fun r => if r.2.1.length ≤ 16777216 ∧ r.1 ≠ .view ∧ okW r.2.2 vs = true then (compLM vs g cd el r.2.1 (wipeE r.2.2 vs)).bind fun rs => some (.own, .lst rs.1, rstE r.2.2 rs.2 vs) else none
theorem rstE_len {τ0 τ : En} : ∀ {vs : List Nat}, (rstE τ0 τ vs).length = τ.length
  | [] => rfl
  | v :: vs => by unfold rstE; rw [List.length_set, rstE_len]
theorem rstE_out {τ0 τ : En} {i : Nat} : ∀ {vs : List Nat}, i ∉ vs → (rstE τ0 τ vs)[i]? = τ[i]?
  | [], _ => rfl
  | v :: vs, h => by
    unfold rstE
    simp only [List.mem_cons, not_or] at h
    rw [List.getElem?_set_ne (Ne.symm h.1), rstE_out h.2]
theorem rstE_in {τ0 τ : En} {i : Nat} (hl : τ.length = τ0.length) : ∀ {vs : List Nat}, i ∈ vs → (rstE τ0 τ vs)[i]? = τ0[i]?
  | v :: vs, h => by
    unfold rstE
    by_cases e : v = i
    · subst e
      by_cases hv : v < τ0.length
      · rw [List.getElem?_set_self (by rw [rstE_len, hl]; exact hv), List.getElem?_eq_getElem hv]; rfl
      · rw [List.getElem?_eq_none (by rw [List.length_set, rstE_len]; omega), List.getElem?_eq_none (by omega)]
    · rw [List.getElem?_set_ne e]
      exact rstE_in hl ((List.mem_cons.mp h).resolve_left (Ne.symm e))
section
variable {K : PySem.W.Frag} {P : Program} {w : World} {τ τ1 τ4 : En} {σ σ4 : St} {H H1 H4 H5 : Hp} {O O1 O4 : Nat → List Addr}
/-- the block's slots at a turn's start -/
theorem StR.turn {vs : List Nat} {D : Addr} (S1 : StR K P w τ1 σ H1 O1) (S4 : StR K P w τ4 σ4 H4 O4) (st : Step H1 O1 H4 O4) (lk : LkX vs τ1 τ4) (hσ : wipe σ4 vs = wipe σ vs) (hD : H1 D = none) (mD : Mut (H4 D)) (nD : ¬ ow O4 D) (fr : ∀ a o, H4 a = some o → a ≠ D → H5 a = some o) :
    StR K P w (wipeE τ4 vs) (wipe σ vs) H5 O4 := by
  have F : Fr (fun a => a = D) H4 H5 := fun a o e n => fr a o e n
  have mF : ∀ a, a = D → Mut (H4 a) := fun a e => by rw [e]; exact mD
  refine ⟨by rw [wipeE_length, ← hσ, wipe_length, S4.len], fun i t e => ?_, fun i t e => ?_, S4.nod, S4.dis, fun a z => ?_⟩
  · have hi : i ∉ vs := fun z => by
      rcases e with e | e <;> exact nomatch wipeE_in z e
    rw [wipeE_out hi] at e
    obtain ⟨v, ev, r⟩ := S4.own i t e
    refine ⟨v, by rw [← hσ, wipe_out hi]; exact ev, Rep.fr mF F _ _ _ r fun a ha z => nD ⟨i, by rw [← z]; exact ha⟩⟩
  · have hi : i ∉ vs := fun z => nomatch wipeE_in z e
    rw [wipeE_out hi] at e
    obtain ⟨v, fp, ev, r, n⟩ := S1.shr i t (lk.shr hi e)
    obtain ⟨r4, n4⟩ := Rep.step S1 st r n
    refine ⟨v, fp, by rw [wipe_out hi]; exact ev, Rep.fr mF F _ _ _ r4 fun a ha z => mut_none (rep_mut _ _ _ r a ha) (by rw [z]; exact hD), n4⟩
  · have m := S4.mt a z
    cases e : H4 a with
    | none => exact (mut_none m e).elim
    | some o => rw [fr a o e fun q => nD (by rw [← q]; exact z)]; rw [e] at m; exact m
/-- .. and behind it -/
theorem StR.rst {vs : List Nat} (S : StR K P w τ σ H O) (Sb : StR K P w τ4 (wipe σ vs) H4 O4) (st : Step H O H4 O4) (lk : LkX vs τ τ4) (ok : okW τ vs = true) :
    StR K P w (rstE τ τ4 vs) σ H4 (fun j => if j ∈ vs then [] else O4 j) ∧ Step H O H4 (fun j => if j ∈ vs then [] else O4 j) ∧ Lk τ (rstE τ τ4 vs) ∧ ∀ a, ow (fun j => if j ∈ vs then [] else O4 j) a → ow O4 a := by
  have sub : ∀ a, ow (fun j => if j ∈ vs then [] else O4 j) a → ow O4 a := fun a ⟨j, z⟩ => by
    dsimp only at z
    split at z
    · cases z
    · exact ⟨j, z⟩
  have imm0 : ∀ (i : Nat) (t : PV), i ∈ vs → τ[i]? = some (.own t) → imm t = true := fun i t hi e => by
    have := List.all_eq_true.mp ok i hi
    rw [e] at this
    exact this
  have noio : ∀ (i : Nat) (t : PV), i ∈ vs → τ[i]? ≠ some (.io t) := fun i t hi e => by
    have := List.all_eq_true.mp ok i hi
    rw [e] at this
    cases this
  refine ⟨⟨by rw [rstE_len, lk.1, S.len], fun i t e => ?_, fun i t e => ?_, fun j => ?_, fun j l a h1 h2 => ?_, fun a z => Sb.mt a (sub a z)⟩, ⟨st.fr, fun a z => st.nw a (sub a z)⟩, ?_, sub⟩
  · by_cases hi : i ∈ vs
    · rw [rstE_in lk.1 hi] at e
      have e : τ[i]? = some (.own t) := e.resolve_right (noio i t hi)
      obtain ⟨v, ev, r⟩ := S.own i t (.inl e)
      have := imm_fp t v _ (imm0 i t hi e) r
      rw [this] at r
      refine ⟨v, ev, ?_⟩
      show Rep K P w H4 t v (if i ∈ vs then [] else O4 i)
      rw [if_pos hi]
      exact Rep.fr S.mt st.fr _ _ _ r fun _ z => nomatch z
    · rw [rstE_out hi] at e
      obtain ⟨v, ev, r⟩ := Sb.own i t e
      refine ⟨v, by rw [wipe_out hi] at ev; exact ev, ?_⟩
      show Rep K P w H4 t v (if i ∈ vs then [] else O4 i)
      rw [if_neg hi]
      exact r
  · by_cases hi : i ∈ vs
    · rw [rstE_in lk.1 hi] at e
      obtain ⟨v, fp, ev, r, n⟩ := S.shr i t e
      obtain ⟨r', n'⟩ := Rep.step S st r n
      exact ⟨v, fp, ev, r', fun a ha z => n' a ha (sub a z)⟩
    · rw [rstE_out hi] at e
      obtain ⟨v, fp, ev, r, n⟩ := Sb.shr i t e
      exact ⟨v, fp, by rw [wipe_out hi] at ev; exact ev, r, fun a ha z => n a ha (sub a z)⟩
  · show (if j ∈ vs then [] else O4 j).Nodup
    split
    · exact List.nodup_nil
    · exact Sb.nod j
  · have h1 : a ∈ (if j ∈ vs then [] else O4 j) := h1
    have h2 : a ∈ (if l ∈ vs then [] else O4 l) := h2
    split at h1
    · cases h1
    · split at h2
      · cases h2
      · exact Sb.dis j l a h1 h2
  · show (rstE τ τ4 vs).map shp = τ.map shp
    refine List.ext_getElem? fun i => ?_
    rw [List.getElem?_map, List.getElem?_map]
    by_cases hi : i ∈ vs
    · rw [rstE_in lk.1 hi]
    · rw [rstE_out hi]; exact lk.2 i hi
end
theorem compLM_len {vs : List Nat} {g : GX} {cd : TX} {el : MX} : ∀ {ts : List PV} {τ : En} {rs : List PV × En}, compLM vs g cd el ts τ = some rs → rs.1.length ≤ ts.length
  | [], τ, rs, e => by simp only [compLM, Option.some.injEq] at e; rw [← e]; exact Nat.le_refl _
  | t :: ts, τ, rs, e => by
    simp only [compLM] at e
    cases eg : g t τ with
    | none => rw [eg] at e; cases e
    | some τ1 =>
      rw [eg] at e
      simp only [Option.bind_some] at e
      cases ec : cd τ1 with
      | none => rw [ec] at e; cases e
      | some b =>
        rw [ec] at e
        simp only [Option.bind_some] at e
        split at e
        · cases ee : el τ1 with
          | none => rw [ee] at e; cases e
          | some r =>
            rw [ee] at e
            simp only [Option.bind_some] at e
            split at e
            · cases er : compLM vs g cd el ts (wipeE r.2.2 vs) with
              | none => rw [er] at e; cases e
              | some rs' =>
                rw [er] at e; cases e
                have := compLM_len er
                simp only [List.length_cons]; omega
            · cases e
        · have := compLM_len e
          simp only [List.length_cons]; omega
theorem tLcM_ok {X : Cx} {it : IMX} {vs is : List Nat} {g : GX} {cd : TX} {el : MX} {σ : St} {H : Hp} {Q : VK} (hv : ∀ i ∈ is, i ∈ vs) (q : gM X (eCompM it vs g cd el) σ H Q) :
    tLc (genIM X.K X.prog X.w it) (genG X.K X.prog X.w is g) (gT X cd) (gM X el) vs σ H Q := by
  obtain ⟨τ, O, S, k, t, τ', e, q⟩ := q
  unfold eCompM at e
  cases ei : it τ with
  | none => rw [ei] at e; cases e
  | some r =>
    rw [ei] at e
    simp only [Option.bind_some] at e
    split at e
    case isFalse => cases e
    rename_i hsz
    obtain ⟨hsz, hkv, hok⟩ := hsz
    cases er : compLM vs g cd el r.2.1 (wipeE r.2.2 vs) with
    | none => rw [er] at e; cases e
    | some rs =>
      rw [er] at e
      cases e
      refine ⟨τ, O, S, r.1, r.2.1, r.2.2, ei, fun J H1 O1 s1 S1 l1 sp D hD => ?_⟩
      obtain ⟨A, hA, mA, src⟩ := sp.ex
      have nA : ∀ a, A a → ¬ ow O1 a := hA hkv
      let HB := upd H1 D (.lst [])
      have xB : Ex H1 HB := Ex.upd hD
      have nD1 : ¬ ow O1 D := fun z => mut_none (S1.mt D z) hD
      have SB : StR X.K X.prog X.w (wipeE r.2.2 vs) (wipe σ vs) HB O1 :=
        (S1.ex (.refl)).turn (H4 := HB) (S1.ex xB) (.ex xB) .refl rfl hD (by show Mut (upd H1 D _ D); rw [upd_same]; trivial) nD1 (fun a o e _ => e)
      let Iv : Nat → Hp → Prop := fun i H2 => ∃ τi Oi done rest acc fa, done ++ rest = rs.1 ∧ compLM vs g cd el (r.2.1.drop i) τi = some (rest, rs.2) ∧ done.length ≤ i ∧ H2 D = some (.lst acc) ∧ StR X.K X.prog X.w τi (wipe σ vs) H2 Oi ∧ Step H1 O1 H2 Oi ∧ LkX vs r.2.2 τi ∧ ¬ ow Oi D ∧
        Reps X.K X.prog X.w H2 done acc fa ∧ D ∉ fa ∧ (∀ a ∈ fa, ¬ ow Oi a) ∧ fa.Nodup ∧ ∀ a ∈ fa, ow O a ∨ H a = none
      refine ⟨fun i m H2 => i + m = r.2.1.length ∧ Iv i H2, ⟨r.2.1.length, by simp, wipeE r.2.2 vs, O1, [], rs.1, [], [], rfl, by simpa using er, Nat.zero_le _, upd_same, SB, .ex xB, LkX.wipe, nD1, by simp [Reps], by simp, (fun _ z => nomatch z), List.nodup_nil, (fun _ z => nomatch z)⟩, ?_⟩
      rintro i m H2 ⟨em, τi, Oi, done, rest, acc, fa, ed, ec, hdl, hacc, Si, si, lki, nDi, ra, nDf, nof, ndf, oa⟩
      have keep : ∀ a o, H1 a = some o → (A a ∨ ¬ Mut (some o)) → H2 a = some o := fun a o e h => si.fr a o e fun z => by
        rcases h with h | h
        · exact nA a h z
        · have := S1.mt a z; rw [e] at this; exact h this
      have nAi : ∀ a, A a → ¬ ow Oi a := fun a ha z => by
        rcases si.nw a z with z | z
        · exact nA a ha z
        · exact mut_none (mA a ha) z
      have nAD : ¬ A D := fun z => mut_none (mA D z) hD
      obtain ⟨go, stop, yld⟩ := src H2 keep
      by_cases hlt : i < r.2.1.length
      · have hd : r.2.1.drop i = r.2.1[i] :: r.2.1.drop (i + 1) := List.drop_eq_getElem_cons hlt
        rw [hd] at ec
        simp only [compLM] at ec
        cases eg : g r.2.1[i] τi with
        | none => rw [eg] at ec; cases ec
        | some τ1 =>
          rw [eg] at ec
          simp only [Option.bind_some] at ec
          cases ect : cd τ1 with
          | none => rw [ect] at ec; cases ec
          | some b =>
            rw [ect] at ec
            simp only [Option.bind_some] at ec
            refine .inr ⟨go i hlt, fun H3 => Iv (i + 1) H3, fun H3 h => ⟨m - 1, by omega, by omega, h⟩, fun x H3 hy => ?_⟩
            obtain ⟨x3, fp, rx, hfp⟩ := yld i x H3 _ (List.getElem?_eq_getElem hlt) hy
            have hD3 : H3 D = some (.lst acc) := x3 D _ hacc
            refine ⟨τi, Oi, r.2.1[i], fp, Si.ex x3, rx, fun a ha => nAi a (hfp a ha), τ1, eg, fun σ4 O4 s4 S4 i4 h4 l4 k4 => ⟨?_, ?_⟩⟩
            · rw [wipe_eq l4 fun j hj => (k4 j fun z => hj (hv j z)).1, wipe_wipe]
            · have hσ4 : wipe σ4 vs = wipe σ vs := by rw [wipe_eq l4 fun j hj => (k4 j fun z => hj (hv j z)).1, wipe_wipe]
              have lk4 : LkX vs τi τ1 := ⟨by rw [S4.len, l4, ← Si.len], fun j hj => by rw [(k4 j fun z => hj (hv j z)).2.1]⟩
              have nD4 : ¬ ow O4 D := fun z => nDi (h4 D z)
              refine gT.mono S4 ect fun H5 x5 S5 => ?_
              have st5 : Step H1 O1 H5 O4 := si.trans ((Step.ex x3).trans (s4.trans (.ex x5)))
              have ra5 := (ra.ex x3).ex x5
              have hD5 : H5 D = some (.lst acc) := x5 D _ hD3
              have mD5 : Mut (H5 D) := by rw [hD5]; trivial
              cases b
              · simp only [Bool.false_eq_true, if_false] at ec ⊢
                exact ⟨wipeE τ1 vs, O4, done, rest, acc, fa, ed, ec, by omega, hD5, S1.turn S5 st5 (lki.trans lk4) hσ4 hD mD5 nD4 (fun a o e _ => e), st5, (lki.trans lk4).trans LkX.wipe, nD4, ra5, nDf, fun a ha z => nof a ha (h4 a z), ndf, oa⟩
              · simp only [if_true] at ec ⊢
                cases ee : el τ1 with
                | none => rw [ee] at ec; cases ec
                | some u =>
                  rw [ee] at ec
                  simp only [Option.bind_some] at ec
                  split at ec
                  case isFalse => cases ec
                  rename_i hk
                  cases ert : compLM vs g cd el (r.2.1.drop (i + 1)) (wipeE u.2.2 vs) with
                  | none => rw [ert] at ec; cases ec
                  | some rest' =>
                    rw [ert] at ec
                    simp only [Option.bind_some, Option.some.injEq, Prod.mk.injEq] at ec
                    obtain ⟨ec1, ec2⟩ := ec
                    refine gM.mono S5 ee fun y H6 O6 s6 S6 l6 r6 => ?_
                    have hD6 : H6 D = some (.lst acc) := s6.fr D _ hD5 nD4
                    have nD6 : ¬ ow O6 D := fun z => by
                      rcases s6.nw D z with z | z
                      · exact nD4 z
                      · rw [hD5] at z; cases z
                    have st6 : Step H1 O1 H6 O6 := st5.trans s6
                    have nof4 : ∀ a ∈ fa, ¬ ow O4 a := fun a ha z => nof a ha (h4 a z)
                    have ra6 := Reps.fr S5.mt s6.fr _ _ _ ra5 nof4
                    have nof6 : ∀ a ∈ fa, ¬ ow O6 a := fun a ha z => by
                      rcases s6.nw a z with z | z
                      · exact nof4 a ha z
                      · exact mut_none (reps_mut _ _ _ ra5 a ha) z
                    rw [hk] at r6
                    obtain ⟨fy, ry, ny, oy⟩ := r6
                    have nDy : D ∉ fy := fun z => by
                      rcases (oy D z).2.2 with q | q
                      · exact nD4 q
                      · rw [hD5] at q; cases q
                    refine ⟨acc, hD6, ?_, ?_⟩
                    · rw [ra.length, sl_eq]
                      omega
                    · have mD6 : Mut (H6 D) := by rw [hD6]; trivial
                      have F : Fr (fun a => a = D) H6 (upd H6 D (.lst (acc ++ [y]))) := fun a o e n => by rw [upd_ne n]; exact e
                      have mF : ∀ a, a = D → Mut (H6 a) := fun a e => by rw [e]; exact mD6
                      have stU : Step H1 O1 (upd H6 D (.lst (acc ++ [y]))) O6 := ⟨fun a o e n => by
                        have : a ≠ D := fun z => by subst z; rw [hD] at e; cases e
                        rw [upd_ne this]; exact st6.fr a o e n, st6.nw⟩
                      have lk6 := (lki.trans lk4).trans l6.x
                      refine ⟨wipeE u.2.2 vs, O6, done ++ [u.2.1], rest'.1, acc ++ [y], fa ++ fy, by rw [← ed, ← ec1]; simp, by rw [ert, ← ec2], by simp; omega, upd_same, S1.turn S6 st6 lk6 hσ4 hD mD6 nD6 (fun a o e n => by rw [upd_ne n]; exact e), stU, lk6.trans LkX.wipe, nD6, ?_, by simp [nDf, nDy], ?_, ?_, ?_⟩
                      · exact Reps.append (Reps.fr mF F _ _ _ ra6 fun a ha z => nDf (by rw [← z]; exact ha)) (Reps.one (Rep.fr mF F _ _ _ ry fun a ha z => nDy (by rw [← z]; exact ha)))
                      · intro a ha
                        rcases List.mem_append.mp ha with z | z
                        · exact nof6 a z
                        · exact (oy a z).2.1
                      · refine List.nodup_append.mpr ⟨ndf, ny, fun a ha b hb e => ?_⟩
                        subst e
                        rcases (oy a hb).2.2 with q | q
                        · exact nof4 a ha q
                        · exact mut_none (reps_mut _ _ _ ra5 a ha) q
                      · intro a ha
                        rcases List.mem_append.mp ha with z | z
                        · exact oa a z
                        · have back : ow O1 a ∨ H1 a = none := by
                            rcases (oy a z).2.2 with q | q
                            · exact st5.nw a q
                            · cases e : H1 a with
                              | none => exact .inr rfl
                              | some o =>
                                by_cases n : ow O1 a
                                · exact .inl n
                                · have := st5.fr a o e n; rw [q] at this; cases this
                          rcases back with q | q
                          · exact s1.nw a q
                          · cases e : H a with
                            | none => exact .inr rfl
                            | some o =>
                              by_cases n : ow O a
                              · exact .inl n
                              · have := s1.fr a o e n; rw [q] at this; cases this
      · have hi' : i = r.2.1.length := by omega
        subst hi'
        rw [List.drop_length] at ec
        simp only [compLM, Option.some.injEq] at ec
        have e1 : rest = [] := by rw [Prod.ext_iff] at ec; exact ec.1.symm
        have e2 : τi = rs.2 := by rw [Prod.ext_iff] at ec; exact ec.2
        subst e1; subst e2
        rw [List.append_nil] at ed
        subst ed
        obtain ⟨S', st', lk', sub'⟩ := S1.rst Si si lki hok
        refine .inl ⟨stop, q _ H2 _ (s1.trans st') S' (l1.trans lk') ?_⟩
        have rp : Rep X.K X.prog X.w H2 (.lst rs.1) (.ref D) (D :: fa) := by
          simp only [Rep]
          exact ⟨D, acc, fa, rfl, hacc, ra, rfl⟩
        refine ⟨D :: fa, rp, List.nodup_cons.mpr ⟨nDf, ndf⟩, fun a ha => ⟨rep_mut _ _ _ rp a ha, fun z => ?_, ?_⟩⟩
        · rcases List.mem_cons.mp ha with q | q
          · rw [q] at z; exact nDi (sub' _ z)
          · exact nof a q (sub' _ z)
        · rcases List.mem_cons.mp ha with q | q
          · rw [q]
            cases e : H D with
            | none => exact .inr rfl
            | some o =>
              by_cases n : ow O D
              · exact .inl n
              · have := s1.fr D o e n; rw [hD] at this; cases this
          · exact oa a q
theorem snm_comp {C : Cn} {elt tg iter : Expr} {ifs : List Expr} {scope : Scope} {pos : Pos} {it : IMX} {is : List Nat} {g : GX} {cd : TX} {el : MX} (own : List (Str × Nat)) (hi : SndIM C tg iter it) (ok : blkC C.N C.sc scope own = true) (hg : SndG (C.blk scope) tg is g)
    (ht : SndTs (C.blk scope) ifs cd) (he : SndM (C.blk scope) elt el) (hv : ∀ i ∈ is, i ∈ own.map (·.2)) (hs : ∀ env x, foldedSetIterable iter env x = pure x := by exact fun _ _ => rfl) : SndM C (.ListComp elt [⟨tg, iter, ifs, 0⟩] scope pos) (eCompM it (own.map (·.2)) g cd el) := fun X G =>
  PE.weak (pe_lc G.calm G.nd (hi X G) (by rw [G.N, G.sc]; exact blkOk_by ok) (fun s H a cl fp => hg _ (G.blk scope s H a cl fp)) (fun s H a cl fp => ht _ (G.blk scope s H a cl fp)) (fun s H a cl fp => he _ (G.blk scope s H a cl fp)) (hs X.env)) fun σ H Q q => tLcM_ok hv q
/-- name = [..], the name a plain local one -/
theorem sns_asgLcM {C : Cn} (i : Nat) {y : Str} {py : Pos} {elt tg iter : Expr} {ifs : List Expr} {scope : Scope} {pos spos : Pos} {it : IMX} {is : List Nat} {g : GX} {cd : TX} {el : MX} (own : List (Str × Nat)) (hy : C.N[i]? = some y) (hk : C.sc.kind = .function) (hyl : C.sc.names.lookup y = some .local)
    (hl : (py.line == pos.line) = true) (ha : (scope.names.any fun (n, k) => n == y && (k == .local || k == .cell)) = false)
    (hi : SndIM C tg iter it) (ok : blkC C.N C.sc scope own = true) (hg : SndG (C.blk scope) tg is g)
    (ht : SndTs (C.blk scope) ifs cd) (he : SndM (C.blk scope) elt el) (hv : ∀ i ∈ is, i ∈ own.map (·.2)) (hs : ∀ env x, foldedSetIterable iter env x = pure x := by exact fun _ _ => rfl) :
    SndS C (.Assign [.Name y py] (.ListComp elt [⟨tg, iter, ifs, 0⟩] scope pos) spos) (sAsgM i (eCompM it (own.map (·.2)) g cd el)) := fun X G =>
  PS.weak (ps_setLc G.calm G.nd (by rw [G.N]; exact hy) (by rw [G.sc]; exact hyl) (sw_true (by rw [G.sc]; exact hk) (by rw [G.sc]; exact hyl) hl ha) (hi X G) (by rw [G.N, G.sc]; exact blkOk_by ok) (fun s H a cl fp => hg _ (G.blk scope s H a cl fp)) (fun s H a cl fp => ht _ (G.blk scope s H a cl fp))
    (fun s H a cl fp => he _ (G.blk scope s H a cl fp)) (hs X.env)) fun D σ H q => asgM_core (fun Q h => tLcM_ok hv h) q
end Pv
namespace Pv
open PySem PySem.Spec L2

/-! ### o.m(..) that changes nothing -/
/-- the method does on values what g does on trees -/
def MtS' (X : Cx) (id : String) (g : PV → List PV → Option (Kd × PV)) : Prop :=
  ∀ (pins : List (Addr × Obj)) (s : Shared) (σ : St) (H : Hp) (x : V) (xs : List V) (v : Value) (us : List Value) (Q : VK) (tx t : PV) (ts : List PV) (k : Kd) (fx fp : List Addr), Inv X pins σ H s → RelV x v → Vals xs us →
    Rep X.K X.prog X.w H tx x fx → Reps X.K X.prog X.w H ts xs fp → g tx ts = some (k, t) → (∀ z H', Ex H H' → (∀ O, RepK X.K X.prog X.w O H H' k t z) → Q z H') →
    wpAny (model X.prog X.w) X.A (call (.builtin id) (v :: us)) (EP X pins σ Q) X.xe s
def rMS (X : Cx) (g : PV → List PV → Option (Kd × PV)) : V → List V → Hp → VK → Prop := fun x xs H Q => ∃ tx ts t k fx fp, Rep X.K X.prog X.w H tx x fx ∧ Reps X.K X.prog X.w H ts xs fp ∧ g tx ts = some (k, t) ∧
  ∀ z H', Ex H H' → (∀ O, RepK X.K X.prog X.w O H H' k t z) → Q z H'
theorem MtS'.mt {X : Cx} {id : String} {g : PV → List PV → Option (Kd × PV)} (h : MtS' X id g) : MtR X id (rMS X g) := by
  intro pins s σ H x xs v us Q I rx rs q
  obtain ⟨tx, ts, t, k, fx, fp, r1, r2, e, q⟩ := q
  exact h pins s σ H x xs v us Q tx t ts k fx fp I rx rs r1 r2 e q
theorem MtS'.of {X : Cx} {id : String} {g : PV → List PV → Option (Kd × PV)} {r : V → List V → Hp → VK → Prop} (ho : MtR X id r)
    (h : ∀ (H : Hp) (x : V) (xs : List V) (Q : VK) (tx t : PV) (ts : List PV) (k : Kd) (fx fp : List Addr), Rep X.K X.prog X.w H tx x fx → Reps X.K X.prog X.w H ts xs fp → g tx ts = some (k, t) → (∀ z H', Ex H H' → (∀ O, RepK X.K X.prog X.w O H H' k t z) → Q z H') → r x xs H Q) : MtS' X id g :=
  fun pins s σ H x xs v us Q tx t ts k fx fp I rx rs r1 r2 e q => ho pins s σ H x xs v us Q I rx rs (h H x xs Q tx t ts k fx fp r1 r2 e q)
/-- the receiver's type -/
@[simp] def rcT : PV → Option String
  | .str _ => some "str"
  | .lst _ => some "list"
  | .fz _ => some "list"
  | .dK _ _ => some "dict"
  | .dT _ _ => some "dict"
  | _ => none
theorem rcT_ok {K : PySem.W.Frag} {P : Program} {w : World} {H : Hp} {t : PV} {v : V} {fp : List Addr} {T : String} (r : Rep K P w H t v fp) (h : rcT t = some T) : tyV K T v H := by
  cases t <;> simp only [rcT, Option.some.injEq, reduceCtorEq] at h <;> subst h <;> simp only [Rep] at r
  · rw [r.1]; rfl
  · obtain ⟨a, vs, f, rfl, hl, _⟩ := r
    exact .inl ⟨rfl, vs, SqL.of hl⟩
  · obtain ⟨_, a, vs, rfl, hl, _⟩ := r
    exact .inl ⟨rfl, vs, hl.sq⟩
  · obtain ⟨a, vs, f, rfl, _, hl, _⟩ := r
    exact .inr (.inr (.inl ⟨rfl, .inl ⟨_, hl⟩⟩))
  · obtain ⟨a, vs, f, rfl, _, hl, _⟩ := r
    exact .inr (.inr (.inl ⟨rfl, .inr ⟨_, hl⟩⟩))
theorem tyV_ex {K : PySem.W.Frag} {H H' : Hp} {t : PV} {v : V} {T : String} {P : Program} {w : World} {fp : List Addr} (r : Rep K P w H t v fp) (h : rcT t = some T) (x : Ex H H') : tyV K T v H' := rcT_ok (r.ex x) h
def eBM (T : String) (g : PV → List PV → Option (Kd × PV)) (a : PX) (fs : List PX) : PX := fun τ => (a τ).bind fun x => if rcT x.2 = some T then (evs fs τ).bind fun rs => g x.2 (rs.map (·.2)) else none
theorem snd_bm0 {C : Cn} {o : Expr} {name : Str} {T id : String} {fa : PX} {g : PV → List PV → Option (Kd × PV)} {apos cpos : Pos} (pa : PlainAttrs T) (slot : Slot T name id) (hty : typeOf (.builtin id) = pure (.type "method_descriptor")) (hm : ∀ X, Gd C X → MtS' X id g) (ho : SndP C o fa)
    (hbase : ∀ env, attributeBase o name env (eval o env) = eval o env := by exact fun _ => rfl) (hline : (apos.endLine == cpos.line) = true := by rfl) : SndP C (.Call (.Attribute o name apos) [] [] cpos) (eBM T g fa []) := fun X G =>
  PE.weak (pe_bm0 pa slot hty (hm X G).mt (ho X G) (hbase X.env) hline) fun σ H Q q => by
    obtain ⟨τ, O, S, k, t, e, q⟩ := q
    unfold eBM at e
    cases ea : fa τ with
    | none => rw [ea] at e; cases e
    | some x =>
      rw [ea] at e
      simp only [Option.bind_some] at e
      split at e
      case isFalse => cases e
      rename_i hT
      simp only [evs, Option.bind_some, List.map_nil] at e
      refine gP.mono S ea fun v1 H1 x1 S1 r1 => ?_
      obtain ⟨f1, r1⟩ := r1.any
      exact ⟨rcT_ok r1 hT, x.2, [], t, k, f1, [], r1, by simp [Reps], e, fun z H' x' rz => q z H' (x1.trans x') ((rz O).back x1)⟩
theorem snd_bm {C : Cn} {o e : Expr} {es : List Expr} {name : Str} {T id : String} {fa : PX} {fs : List PX} {g : PV → List PV → Option (Kd × PV)} {apos cpos : Pos} (pa : PlainAttrs T) (slot : Slot T name id) (hty : typeOf (.builtin id) = pure (.type "method_descriptor")) (hm : ∀ X, Gd C X → MtS' X id g) (ho : SndP C o fa) (ha : SndA C (e :: es) fs)
    (hbase : ∀ env, attributeBase o name env (eval o env) = eval o env := by exact fun _ => rfl)
    (hfew : ∀ env, ((backTo cpos (starEach (e :: es) env)).all (fun x => !x.1) && (backToKw cpos (keywordEach [] env)).all (fun x => x.1.isSome)
      && decide ((e :: es).length + ([] : List Keyword).length + (if ([] : List Keyword).isEmpty then 0 else 1) < 30)) = true := by exact fun _ => rfl)
    (hline : (apos.endLine == cpos.line) = true := by rfl) (hs : ∀ env, starEach (e :: es) env = (false, eval e env) :: starEach es env := by exact fun _ => rfl) (hplain : ∀ env, (backTo cpos (starEach es env)).any (·.1) = false := by exact fun _ => rfl) :
    SndP C (.Call (.Attribute o name apos) (e :: es) [] cpos) (eBM T g fa fs) := fun X G =>
  PE.weak (pe_bm pa slot hty (hm X G).mt (ho X G) (ha X G) (hbase X.env) (hfew X.env) hline (hs X.env) (hplain X.env)) fun σ H Q q => by
    obtain ⟨τ, O, S, k, t, e, q⟩ := q
    unfold eBM at e
    cases ea : fa τ with
    | none => rw [ea] at e; cases e
    | some x =>
      rw [ea] at e
      simp only [Option.bind_some] at e
      split at e
      case isFalse => cases e
      rename_i hT
      cases eb : evs fs τ with
      | none => rw [eb] at e; cases e
      | some rs =>
        rw [eb] at e
        simp only [Option.bind_some] at e
        refine gP.mono S ea fun v1 H1 x1 S1 r1 => ?_
        obtain ⟨f1, r1⟩ := r1.any
        refine ⟨rcT_ok r1 hT, τ, O, S1, rs, eb, fun vs H2 r2 => ?_⟩
        obtain ⟨fp, r3⟩ := r2.all
        exact ⟨x.2, _, t, k, f1, fp, r1.ex r2.ext, r3, e, fun z H' x' rz => q z H' ((x1.trans r2.ext).trans x') ((rz O).back (x1.trans r2.ext))⟩
/-- .. arguments that change things; the receiver is no view -/
def mBM (T : String) (g : PV → List PV → Option (Kd × PV)) (a : MX) (fs : List AX) : MX := fun τ => (a τ).bind fun x => if rcT x.2.1 = some T ∧ x.1 ≠ .view then (evsA fs x.2.2).bind fun s => (arT s.2 s.1).bind fun ts => (g x.2.1 ts).map fun z => (z.1, z.2, s.2) else none
theorem snm_bm {C : Cn} {o e : Expr} {es : List Expr} {name : Str} {T id : String} {fa : MX} {fs : List AX} {g : PV → List PV → Option (Kd × PV)} {apos cpos : Pos} (pa : PlainAttrs T) (slot : Slot T name id) (hty : typeOf (.builtin id) = pure (.type "method_descriptor")) (hm : ∀ X, Gd C X → MtS' X id g) (ho : SndM C o fa) (ha : SndMA C (e :: es) fs)
    (hbase : ∀ env, attributeBase o name env (eval o env) = eval o env := by exact fun _ => rfl)
    (hfew : ∀ env, ((backTo cpos (starEach (e :: es) env)).all (fun x => !x.1) && (backToKw cpos (keywordEach [] env)).all (fun x => x.1.isSome)
      && decide ((e :: es).length + ([] : List Keyword).length + (if ([] : List Keyword).isEmpty then 0 else 1) < 30)) = true := by exact fun _ => rfl)
    (hline : (apos.endLine == cpos.line) = true := by rfl) (hs : ∀ env, starEach (e :: es) env = (false, eval e env) :: starEach es env := by exact fun _ => rfl) (hplain : ∀ env, (backTo cpos (starEach es env)).any (·.1) = false := by exact fun _ => rfl) :
    SndM C (.Call (.Attribute o name apos) (e :: es) [] cpos) (mBM T g fa fs) := fun X G =>
  PE.weak (pe_bm pa slot hty (hm X G).mt (ho X G) (ha X G) (hbase X.env) (hfew X.env) hline (hs X.env) (hplain X.env)) fun σ H Q q => by
    obtain ⟨τ, O, S, k, t, τ', e, q⟩ := q
    unfold mBM at e
    cases ea : fa τ with
    | none => rw [ea] at e; cases e
    | some x =>
      rw [ea] at e
      simp only [Option.bind_some] at e
      split at e
      case isFalse => cases e
      rename_i hT
      cases eb : evsA fs x.2.2 with
      | none => rw [eb] at e; cases e
      | some s =>
        rw [eb] at e
        simp only [Option.bind_some] at e
        cases et : arT s.2 s.1 with
        | none => rw [et] at e; cases e
        | some ts =>
          rw [et] at e
          simp only [Option.bind_some] at e
          cases eg : g x.2.1 ts with
          | none => rw [eg] at e; cases e
          | some z =>
            rw [eg] at e; cases e
            refine gM.mono S ea fun v1 H1 O1 s1 S1 l1 r1 => ?_
            obtain ⟨f0, r0, _⟩ := r1.any
            refine ⟨rcT_ok r0 hT.1, x.2.2, O1, S1, s.1, s.2, eb, fun vs H2 O2 s2 _ S2 l2 ar => ?_⟩
            obtain ⟨f1, r1, _⟩ := (r1.keep S1 hT.2 s2).any
            obtain ⟨fp, r3⟩ := arT_ok S2 ar et
            exact ⟨x.2.1, ts, z.2, z.1, f1, fp, r1, r3, eg, fun y H' x' rz => q y H' O2 ((s1.trans s2).trans (.ex x')) (S2.ex x') (l1.trans l2) (repM_of S2 (s1.trans s2) (rz O2))⟩
/-! ### texts -/
@[simp] def isS : PV → Option Tx | .str s => some s | _ => none
theorem isS_rep {K : PySem.W.Frag} {P : Program} {w : World} {H : Hp} {t : PV} {v : V} {fp : List Addr} {s : Tx} (h : isS t = some s) (r : Rep K P w H t v fp) : v = .str (mkS s) ∧ okT s := by
  cases t <;> simp [isS] at h
  subst h
  simp only [Rep] at r
  exact ⟨r.1, r.2.1⟩
/-- a text method of no argument -/
@[simp] def gS0 (g : Tx → Option (Kd × PV)) : PV → List PV → Option (Kd × PV) := fun x ts => match ts with | [] => (isS x).bind g | _ => none
@[simp] def gS1 (g : Tx → Tx → Option (Kd × PV)) : PV → List PV → Option (Kd × PV) := fun x ts => match ts with | [y] => (isS x).bind fun a => (isS y).bind fun b => g a b | _ => none
theorem ms0 {X : Cx} {id : String} {g : Tx → Option (Kd × PV)} {r : V → List V → Hp → VK → Prop} (ho : MtR X id r) (h : ∀ (H : Hp) (Q : VK) (a : Tx) (k : Kd) (t : PV), okT a → g a = some (k, t) → (∀ z H', Ex H H' → (∀ O, RepK X.K X.prog X.w O H H' k t z) → Q z H') → r (.str (mkS a)) [] H Q) : MtS' X id (gS0 g) :=
  MtS'.of ho fun H x xs Q tx t ts k fx fp r1 r2 e q => by
    unfold gS0 at e
    split at e
    · cases es : isS tx with
      | none => rw [es] at e; cases e
      | some a =>
        rw [es] at e
        obtain ⟨rfl, ok⟩ := isS_rep es r1
        simp only [Reps] at r2
        obtain ⟨rfl, _⟩ := r2
        exact h H Q a k t ok e q
    · cases e
theorem ms1 {X : Cx} {id : String} {g : Tx → Tx → Option (Kd × PV)} {r : V → List V → Hp → VK → Prop} (ho : MtR X id r) (h : ∀ (H : Hp) (Q : VK) (a b : Tx) (k : Kd) (t : PV), okT a → okT b → g a b = some (k, t) → (∀ z H', Ex H H' → (∀ O, RepK X.K X.prog X.w O H H' k t z) → Q z H') → r (.str (mkS a)) [.str (mkS b)] H Q) : MtS' X id (gS1 g) :=
  MtS'.of ho fun H x xs Q tx t ts k fx fp r1 r2 e q => by
    unfold gS1 at e
    split at e
    · rename_i y
      cases es : isS tx with
      | none => rw [es] at e; cases e
      | some a =>
        rw [es] at e
        simp only [Option.bind_some] at e
        cases eb : isS y with
        | none => rw [eb] at e; cases e
        | some b =>
          rw [eb] at e
          simp only [Option.bind_some] at e
          obtain ⟨rfl, ok⟩ := isS_rep es r1
          simp only [Reps] at r2
          obtain ⟨u, us, f, g', rfl, ru, rus, _⟩ := r2
          obtain ⟨rfl, ok2⟩ := isS_rep eb ru
          have : us = [] := by simpa using rus.1
          subst this
          exact h H Q a b k t ok ok2 e q
    · cases e
def gCount : Tx → Tx → Option (Kd × PV) := fun a b => some (.own, .int (Txt.count (mkS a) (mkS b)))
theorem ms_count {X : Cx} : MtS' X "str.count" (gS1 gCount) := ms1 mt_count fun H Q a b k t _ _ e q => by
  cases e; exact ⟨_, _, rfl, rfl, q _ H .refl fun _ => repK_int⟩
def gFind : Tx → Tx → Option (Kd × PV) := fun a b => some (.own, .int (Txt.find (mkS a) (mkS b)))
theorem ms_find {X : Cx} : MtS' X "str.find" (gS1 gFind) := ms1 mt_find fun H Q a b k t _ _ e q => by
  cases e; exact ⟨_, _, rfl, rfl, q _ H .refl fun _ => repK_int⟩
def gSw : Tx → Tx → Option (Kd × PV) := fun a b => some (.own, .bl (Txt.startswith (mkS a) (mkS b)))
theorem ms_sw {X : Cx} : MtS' X "str.startswith" (gS1 gSw) := ms1 mt_startswith fun H Q a b k t _ _ e q => by
  cases e; exact ⟨_, _, rfl, rfl, q _ H .refl fun _ => repK_bl⟩
def gEw : Tx → Tx → Option (Kd × PV) := fun a b => some (.own, .bl (Txt.endswith (mkS a) (mkS b)))
theorem ms_ew {X : Cx} : MtS' X "str.endswith" (gS1 gEw) := ms1 mt_endswith fun H Q a b k t _ _ e q => by
  cases e; exact ⟨_, _, rfl, rfl, q _ H .refl fun _ => repK_bl⟩
def gIsU : Tx → Option (Kd × PV) := fun a => some (.own, .bl (Txt.isupper (mkS a)))
theorem ms_isU {X : Cx} : MtS' X "str.isupper" (gS0 gIsU) := ms0 mt_isupper fun H Q a k t _ e q => by
  cases e; exact ⟨_, rfl, rfl, trivial, q _ H .refl fun _ => repK_bl⟩
def gIsL : Tx → Option (Kd × PV) := fun a => some (.own, .bl (Txt.islower (mkS a)))
theorem ms_isL {X : Cx} : MtS' X "str.islower" (gS0 gIsL) := ms0 mt_islower fun H Q a k t _ e q => by
  cases e; exact ⟨_, rfl, rfl, trivial, q _ H .refl fun _ => repK_bl⟩
theorem mkS_cps (x : Str) : mkS x.cps.toList = x := by cases x; rfl
def txOut (x : Str) : Option (Kd × PV) := if okTb x.cps.toList = true then some (.own, .str x.cps.toList) else none
theorem txOut_ok {X : Cx} {H : Hp} {Q : VK} {x : Str} {k : Kd} {t : PV} (e : txOut x = some (k, t)) (q : ∀ z H', Ex H H' → (∀ O, RepK X.K X.prog X.w O H H' k t z) → Q z H') : Q (.str x) H := by
  unfold txOut at e
  split at e
  · rename_i h
    cases e
    have := q (.str (mkS x.cps.toList)) H .refl fun _ => repK_str (okT_of h)
    rw [mkS_cps] at this
    exact this
  · cases e
def gUp : Tx → Option (Kd × PV) := fun a => if a.length ≤ 5592405 then txOut (Txt.upper (mkS a)) else none
theorem ms_up {X : Cx} : MtS' X "str.upper" (gS0 gUp) := ms0 mt_upper fun H Q a k t _ e q => by
  unfold gUp at e
  split at e
  · exact ⟨_, rfl, rfl, by simpa [mkS, Str.length] using ‹a.length ≤ 5592405›, txOut_ok e q⟩
  · cases e
def gLo : Tx → Option (Kd × PV) := fun a => if a.length ≤ 5592405 then txOut (Txt.lower (mkS a)) else none
theorem ms_lo {X : Cx} : MtS' X "str.lower" (gS0 gLo) := ms0 mt_lower fun H Q a k t _ e q => by
  unfold gLo at e
  split at e
  · exact ⟨_, rfl, rfl, by simpa [mkS, Str.length] using ‹a.length ≤ 5592405›, txOut_ok e q⟩
  · cases e
def gStrip : Tx → Option (Kd × PV) := fun a => txOut (Txt.strip (mkS a))
theorem ms_strip {X : Cx} : MtS' X "str.strip" (gS0 gStrip) := ms0 mt_strip fun H Q a k t ok e q => by
  exact ⟨_, rfl, rfl, by have := ok.1; simpa [mkS, Str.length] using this, txOut_ok e q⟩
/-- sep.join of a list or a tuple -/
def allS : List PV → Option (List Tx)
  | [] => some []
  | x :: xs => (isS x).bind fun s => (allS xs).map (s :: ·)
def joinL (a : Tx) : List Tx → Tx
  | [] => []
  | [x] => x
  | x :: y :: r => x ++ a ++ joinL a (y :: r)
theorem join_mkS (a : Tx) : ∀ xs : List Tx, Txt.join (mkS a) (xs.map mkS) = mkS (joinL a xs) := fun xs => by
  unfold Txt.join
  rw [StrLaws.glued_eq_join]
  induction xs with
  | nil => rfl
  | cons x xs ih =>
    cases xs with
    | nil => rfl
    | cons y r =>
      show mkS x ++ mkS a ++ Str.join (mkS a) (mkS y :: r.map mkS) = _
      have ih : Str.join (mkS a) (mkS y :: r.map mkS) = mkS (joinL a (y :: r)) := ih
      rw [ih, mkS_app, mkS_app]
      rfl
theorem allS_rep {K : PySem.W.Frag} {P : Program} {w : World} {H : Hp} : ∀ {ts : List PV} {vs : List V} {fp : List Addr} {ss : List Tx}, allS ts = some ss → Reps K P w H ts vs fp → vs = (ss.map mkS).map V.str ∧ ∀ s ∈ ss, okT s
  | [], vs, fp, ss, h, r => by
    simp only [allS, Option.some.injEq] at h
    subst h
    simp only [Reps] at r
    exact ⟨r.1, fun _ z => nomatch z⟩
  | t :: ts, vs, fp, ss, h, r => by
    simp only [allS] at h
    cases es : isS t with
    | none => rw [es] at h; cases h
    | some s =>
      rw [es] at h
      simp only [Option.bind_some] at h
      cases er : allS ts with
      | none => rw [er] at h; cases h
      | some ss' =>
        rw [er] at h; cases h
        simp only [Reps] at r
        obtain ⟨v, us, f, g, rfl, rv, rus, _⟩ := r
        obtain ⟨rfl, ok⟩ := isS_rep es rv
        obtain ⟨rfl, oks⟩ := allS_rep er rus
        exact ⟨rfl, fun x hx => (List.mem_cons.mp hx).elim (fun z => by rw [z]; exact ok) (oks x)⟩
@[simp] def seqOf : PV → Option (List PV)
  | .lst xs => some xs
  | .tup xs => some xs
  | .fz xs => some xs
  | _ => none
def gJoin : PV → List PV → Option (Kd × PV) := fun x ts => match ts with
  | [y] => (isS x).bind fun a => (seqOf y).bind fun l => (allS l).bind fun ss => if (ss.map List.length).sum + ss.length * a.length ≤ 16777216 then some (.own, .str (joinL a ss)) else none
  | _ => none
theorem joinL_len (a : Tx) : ∀ ss : List Tx, (joinL a ss).length ≤ (ss.map List.length).sum + ss.length * a.length
  | [] => Nat.zero_le _
  | [x] => by simp [joinL]
  | x :: y :: r => by
    have := joinL_len a (y :: r)
    simp only [joinL, List.length_append, List.map_cons, List.sum_cons, List.length_cons] at this ⊢
    have e : (r.length + 1 + 1) * a.length = (r.length + 1) * a.length + a.length := by rw [Nat.add_mul (r.length + 1) 1, Nat.one_mul]
    rw [e]
    omega
theorem joinL_mem (a : Tx) : ∀ (ss : List Tx) (c : Nat), c ∈ joinL a ss → c ∈ a ∨ ∃ s ∈ ss, c ∈ s
  | [], c, h => nomatch h
  | [x], c, h => .inr ⟨x, by simp, h⟩
  | x :: y :: r, c, h => by
    simp only [joinL, List.mem_append] at h
    rcases h with (h | h) | h
    · exact .inr ⟨x, by simp, h⟩
    · exact .inl h
    · rcases joinL_mem a (y :: r) c h with z | ⟨s, hs, z⟩
      · exact .inl z
      · exact .inr ⟨s, List.mem_cons_of_mem _ hs, z⟩
theorem ms_join {X : Cx} : MtS' X "str.join" gJoin := MtS'.of mt_join fun H x xs Q tx t ts k fx fp r1 r2 e q => by
  unfold gJoin at e
  split at e
  · rename_i y
    cases es : isS tx with
    | none => rw [es] at e; cases e
    | some a =>
      rw [es] at e
      simp only [Option.bind_some] at e
      cases el : seqOf y with
      | none => rw [el] at e; cases e
      | some l =>
        rw [el] at e
        simp only [Option.bind_some] at e
        cases ess : allS l with
        | none => rw [ess] at e; cases e
        | some ss =>
          rw [ess] at e
          simp only [Option.bind_some] at e
          split at e
          case isFalse => cases e
          rename_i hsz
          cases e
          obtain ⟨rfl, ok⟩ := isS_rep es r1
          simp only [Reps] at r2
          obtain ⟨u, us, f, g', rfl, ru, rus, _⟩ := r2
          have : us = [] := by simpa using rus.1
          subst this
          have seq : ∃ (p : Addr) (vs : List V) (f : List Addr), u = .ref p ∧ (SqL X.K H p vs ∨ SqT X.K H p vs) ∧ Reps X.K X.prog X.w H l vs f := by
            cases y <;> simp only [seqOf, Option.some.injEq, reduceCtorEq] at el <;> subst el <;> simp only [Rep] at ru
            · obtain ⟨p, vs, f, rfl, hl, rs, _⟩ := ru
              exact ⟨p, vs, f, rfl, .inl (SqL.of hl), rs⟩
            · obtain ⟨p, vs, rfl, hl, rs⟩ := ru
              exact ⟨p, vs, f, rfl, .inr (SqT.of hl), rs⟩
            · obtain ⟨_, p, vs, rfl, hl, rs⟩ := ru
              exact ⟨p, vs, [], rfl, .inl hl.sq, rs⟩
          obtain ⟨p, vs, f, rfl, hq, rs⟩ := seq
          obtain ⟨rfl, oks⟩ := allS_rep ess rs
          refine ⟨mkS a, p, ss.map mkS, rfl, rfl, hq, ?_, ?_⟩
          · rw [List.map_map, List.length_map]
            have : ((fun x : Str => x.length) ∘ mkS) = List.length := by funext s; simp [mkS, Str.length]
            rw [show (List.map ((fun x => x.length) ∘ mkS) ss) = ss.map List.length by rw [← this]]
            have : (mkS a).length = a.length := by simp [mkS, Str.length]
            rw [this]
            exact hsz
          · rw [join_mkS]
            refine q _ H .refl fun _ => repK_str ⟨?_, fun c hc => ?_⟩
            · have := joinL_len a ss
              rw [sizeLine_eq]; omega
            · rcases joinL_mem a ss c hc with z | ⟨s, hs, z⟩
              · exact ok.2 c z
              · exact (oks s hs).2 c z
  · cases e
end Pv
namespace Pv
open PySem PySem.Spec L2

/-! ### a slot's own written in place -/
section
variable {K : PySem.W.Frag} {P : Program} {w : World} {τ τ0 : En} {σ : St} {H H' H0 : Hp} {O O0 : Nat → List Addr}
theorem inpl {i : Nat} {t t0 : PV} {v : V} {fp : List Addr} (S0 : StR K P w τ0 σ H0 O0) (s : Step H0 O0 H O) (S : StR K P w τ σ H O) (l : Lk τ0 τ) (ht : owT τ i = some t0) (hv : σ[i]? = some (some v)) (r : Rep K P w H' t v fp) (n : fp.Nodup)
    (m : ∀ a ∈ fp, a ∈ O i ∨ (¬ ow O a ∧ (ow O0 a ∨ H0 a = none))) (fr : ∀ a o, H a = some o → a ∉ O i → H' a = some o) :
    StR K P w (setT τ i t) σ H' (upO O i fp) ∧ Step H0 O0 H' (upO O i fp) ∧ Lk τ0 (setT τ i t) := by
  have hi : i < τ.length := by
    unfold owT at ht
    split at ht
    · rename_i u hu; exact (List.getElem?_eq_some_iff.mp hu).1
    · rename_i u hu; exact (List.getElem?_eq_some_iff.mp hu).1
    · cases ht
  have F2 : Fr (fun a => a ∈ O i) H H' := fun a o e n => fr a o e n
  have mi : ∀ a, a ∈ O i → Mut (H a) := fun a z => S.mt a ⟨i, z⟩
  have apart : ∀ a ∈ fp, ∀ j, j ≠ i → a ∉ O j := fun a ha j hj z => by
    rcases m a ha with q | q
    · exact hj (S.dis j i a z q)
    · exact q.1 ⟨j, z⟩
  have get : ∀ j s, (setT τ i t)[j]? = some s → (j = i ∧ (s = .own t ∨ s = .io t)) ∨ (j ≠ i ∧ τ[j]? = some s) := fun j s e => by
    unfold setT at e
    split at e
    · rcases set_get e with ⟨a, b⟩ | z
      · exact .inl ⟨a, .inl b⟩
      · exact .inr z
    · rcases set_get e with ⟨a, b⟩ | z
      · exact .inl ⟨a, .inr b⟩
      · exact .inr z
    · rename_i h1 h2
      unfold owT at ht
      split at ht
      · rename_i u hu; exact absurd hu (h1 _)
      · rename_i u hu; exact absurd hu (h2 _)
      · cases ht
  have owu : ∀ a, ow (upO O i fp) a → a ∈ fp ∨ ∃ j, j ≠ i ∧ a ∈ O j := fun a ⟨j, z⟩ => by
    by_cases e : j = i
    · subst e; rw [upO_same] at z; exact .inl z
    · rw [upO_ne e] at z; exact .inr ⟨j, e, z⟩
  refine ⟨⟨?_, fun j u e => ?_, fun j u e => ?_, fun j => ?_, fun j l a h1 h2 => ?_, fun a z => ?_⟩, ⟨fun a o e q => ?_, fun a z => ?_⟩, l.trans setT_lk⟩
  · rw [(setT_lk (τ := τ) (i := i) (t := t)).len]; exact S.len
  · have : (j = i ∧ u = t) ∨ (j ≠ i ∧ (τ[j]? = some (Sl.own u) ∨ τ[j]? = some (Sl.io u))) := by
      rcases e with e | e
      · rcases get _ _ e with ⟨a, b | b⟩ | ⟨a, b⟩
        · cases b; exact .inl ⟨a, rfl⟩
        · cases b
        · exact .inr ⟨a, .inl b⟩
      · rcases get _ _ e with ⟨a, b | b⟩ | ⟨a, b⟩
        · cases b
        · cases b; exact .inl ⟨a, rfl⟩
        · exact .inr ⟨a, .inr b⟩
    rcases this with ⟨rfl, rfl⟩ | ⟨hj, e⟩
    · rw [upO_same]; exact ⟨v, hv, r⟩
    · obtain ⟨z, ez, rz⟩ := S.own j u e
      rw [upO_ne hj]
      exact ⟨z, ez, Rep.fr mi F2 _ _ _ rz fun a ha q => hj (S.dis j i a ha q)⟩
  · rcases get _ _ e with ⟨_, b | b⟩ | ⟨hj, b⟩
    · cases b
    · cases b
    · obtain ⟨z, f, ez, rz0, nz0⟩ := S0.shr j u (l.shr b)
      obtain ⟨rz, nz⟩ := Rep.step S0 s rz0 nz0
      refine ⟨z, f, ez, Rep.fr mi F2 _ _ _ rz (fun a ha q => nz a ha ⟨i, q⟩), fun a ha q => ?_⟩
      rcases owu a q with q | ⟨l, _, q⟩
      · rcases m a q with q | q
        · exact nz a ha ⟨i, q⟩
        · rcases q.2 with q | q
          · exact nz0 a ha q
          · exact mut_none (rep_mut _ _ _ rz0 a ha) q
      · exact nz a ha ⟨l, q⟩
  · by_cases e : j = i
    · subst e; rw [upO_same]; exact n
    · rw [upO_ne e]; exact S.nod j
  · by_cases e : j = i
    · by_cases e' : l = i
      · rw [e, e']
      · rw [e, upO_same] at h1; rw [upO_ne e'] at h2; exact absurd h2 (apart a h1 l e')
    · by_cases e' : l = i
      · rw [e', upO_same] at h2; rw [upO_ne e] at h1; exact absurd h1 (apart a h2 j e)
      · rw [upO_ne e] at h1; rw [upO_ne e'] at h2; exact S.dis j l a h1 h2
  · rcases owu a z with z | ⟨j, hj, z⟩
    · exact rep_mut _ _ _ r a z
    · have mz := S.mt a ⟨j, z⟩
      cases e : H a with
      | none => exact (mut_none mz e).elim
      | some o => rw [fr a o e fun q => hj (S.dis j i a z q)]; rw [e] at mz; exact mz
  · refine fr a o (s.fr a o e q) fun z => ?_
    rcases s.nw a ⟨i, z⟩ with z | z
    · exact q z
    · rw [e] at z; cases z
  · rcases owu a z with z | ⟨j, _, z⟩
    · rcases m a z with q | q
      · exact s.nw a ⟨i, q⟩
      · exact q.2
    · exact s.nw a ⟨j, z⟩
theorem owT_rep {i : Nat} {t : PV} (S : StR K P w τ σ H O) (e : owT τ i = some t) : ∃ v, σ[i]? = some (some v) ∧ Rep K P w H t v (O i) := by
  unfold owT at e
  split at e
  · rename_i u hu; cases e; exact S.own i _ (.inl hu)
  · rename_i u hu; cases e; exact S.own i _ (.inr hu)
  · cases e
theorem owT_trOf {i : Nat} {t : PV} (e : owT τ i = some t) : trOf τ i = some t := by
  unfold owT at e
  unfold trOf
  split at e
  · rename_i u hu; rw [hu]; exact e
  · rename_i u hu; rw [hu]; exact e
  · cases e
/-- .. a list: its items are replaced -/
theorem inplL {i : Nat} {xs ys : List PV} {a : Addr} {vs us : List V} {f g : List Addr} (S0 : StR K P w τ0 σ H0 O0) (s : Step H0 O0 H O) (S : StR K P w τ σ H O) (l : Lk τ0 τ) (ht : owT τ i = some (.lst xs)) (hv : σ[i]? = some (some (.ref a))) (ha : H a = some (.lst vs)) (hO : O i = a :: f)
    (r : Reps K P w H ys us g) (n : g.Nodup) (na : a ∉ g) (m : ∀ b ∈ g, b ∈ f ∨ (¬ ow O b ∧ (ow O0 b ∨ H0 b = none))) :
    StR K P w (setT τ i (.lst ys)) σ (upd H a (.lst us)) (upO O i (a :: g)) ∧ Step H0 O0 (upd H a (.lst us)) (upO O i (a :: g)) ∧ Lk τ0 (setT τ i (.lst ys)) := by
  have F : Fr (fun b => b = a) H (upd H a (.lst us)) := fun b o e n => by rw [upd_ne n]; exact e
  have mF : ∀ b, b = a → Mut (H b) := fun b e => by rw [e, ha]; trivial
  refine inpl S0 s S l ht hv (fp := a :: g) ?_ (List.nodup_cons.mpr ⟨na, n⟩) (fun b hb => ?_) fun b o e n => ?_
  · simp only [Rep]
    exact ⟨a, us, g, rfl, upd_same, Reps.fr mF F _ _ _ r fun b hb z => na (by rw [← z]; exact hb), rfl⟩
  · rw [hO]
    rcases List.mem_cons.mp hb with z | z
    · rw [z]; exact .inl List.mem_cons_self
    · rcases m b z with q | q
      · exact .inl (List.mem_cons_of_mem _ q)
      · exact .inr q
  · rw [upd_ne fun z => n (by rw [hO, z]; exact List.mem_cons_self)]; exact e
end
/-- x.append(e) -/
@[simp] def sApp (i : Nat) (f : MX) : SX := fun τ => match owT τ i with
  | some (.lst _) => (f τ).bind fun r => match r.1, owT r.2.2 i with
    | .own, some (.lst xs) => if xs.length < 16777216 then some (.nx, setT r.2.2 i (.lst (xs ++ [r.2.1]))) else none
    | _, _ => none
  | _ => none
theorem sns_app {C : Cn} (i : Nat) {x : Str} {e : Expr} {f : MX} {p ap cp pos : Pos} (hN : C.N[i]? = some x) (hv : visB C.sc x = true) (h : SndM C e f) (hd : (x == ("__debug__" : Str)) = false := by decide) (hcd : (x == ("__classdict__" : Str)) = false := by decide)
    (hbase : ∀ env, attributeBase (.Name x p) "append" env (eval (.Name x p) env) = eval (.Name x p) env := by exact fun _ => rfl)
    (hfew : ∀ env, ((backTo cp (starEach [e] env)).all (fun x => !x.1) && (backToKw cp (keywordEach [] env)).all (fun x => x.1.isSome)
      && decide ([e].length + ([] : List Keyword).length + (if ([] : List Keyword).isEmpty then 0 else 1) < 30)) = true := by exact fun _ => rfl)
    (hline : (ap.endLine == cp.line) = true := by rfl) (hs : ∀ env, starEach [e] env = (false, eval e env) :: starEach [] env := by exact fun _ => rfl) (hplain : ∀ env, (backTo cp (starEach [] env)).any (·.1) = false := by exact fun _ => rfl)
    (hsw : ∀ env, swapsWith (.Call (.Attribute (.Name x p) "append" ap) [e] [] cp) none pos.line env = pure false := by exact fun _ => rfl) :
    SndS C (.Expr (.Call (.Attribute (.Name x p) "append" ap) [e] [] cp) pos) (sApp i f) := fun X G =>
  PS.weak (ps_expr (pe_bm PySem.F.plainAttrs_list PySem.F.slot_list_append PySem.F.type_list_append mt_append (pe_var (i := i) (by rw [G.N]; exact hN) (by rw [G.sc]; exact vis_of hv) hd hcd) (pa_cons (h X G) pa_nil (hs X.env)) (hbase X.env) (hfew X.env) hline (hs X.env) (hplain X.env)) (hsw X.env)) fun D σ H q => by
    obtain ⟨τ, O, S, o, τ', e, q⟩ := q
    unfold sApp at e
    split at e
    case h_2 => cases e
    rename_i xs0 h0
    cases ef : f τ with
    | none => rw [ef] at e; cases e
    | some r =>
      rw [ef] at e
      simp only [Option.bind_some] at e
      split at e
      case h_2 => cases e
      rename_i xs hk ht
      split at e
      case isFalse => cases e
      rename_i hlen
      cases e
      obtain ⟨v0, hσ0, r0⟩ := owT_rep S h0
      have r0' := r0
      simp only [Rep] at r0'
      obtain ⟨a0, vs0, f0, rfl, hl0, _⟩ := r0'
      refine ⟨.ref a0, hσ0, .inl ⟨rfl, vs0, SqL.of hl0⟩, gM.mono S ef fun y H1 O1 s1 S1 l1 r1 => ?_⟩
      obtain ⟨v1, hσ1, rx⟩ := owT_rep S1 ht
      rw [hσ0] at hσ1
      cases hσ1
      simp only [Rep] at rx
      obtain ⟨a, vs, f, ea, hl, rs, eO⟩ := rx
      cases ea
      rw [hk] at r1
      obtain ⟨fy, ry, ny, oy⟩ := r1
      have nO := S1.nod i
      rw [eO] at nO
      have apart : ∀ b ∈ f, b ∉ fy := fun b hb z => (oy b z).2.1 ⟨i, by rw [eO]; exact List.mem_cons_of_mem _ hb⟩
      refine ⟨a0, vs, y, rfl, rfl, hl, by rw [rs.length, sizeLine_eq]; omega, ?_⟩
      obtain ⟨S2, s2, l2⟩ := inplL S s1 S1 l1 ht hσ0 hl eO (Reps.append rs (Reps.one ry)) (List.nodup_append.mpr ⟨(List.nodup_cons.mp nO).2, ny, fun b hb c hc e => apart b hb (by rw [e]; exact hc)⟩)
        (fun z => by
          rcases List.mem_append.mp z with z | z
          · exact (List.nodup_cons.mp nO).1 z
          · exact (oy _ z).2.1 ⟨i, by rw [eO]; exact List.mem_cons_self⟩)
        fun b hb => by
          rcases List.mem_append.mp hb with z | z
          · exact .inl z
          · exact .inr ⟨(oy b z).2.1, (oy b z).2.2⟩
      exact q σ _ _ s2 S2 l2.io
/-- x[k] = e, x a list -/
@[simp] def sSetL (i : Nat) (k : PX) (f : MX) : SX := fun τ => (f τ).bind fun r => (k r.2.2).bind fun j => match r.1, owT r.2.2 i, isI j.2 with
  | .own, some (.lst xs), some j => (ixN xs.length j).bind fun n => some (.nx, setT r.2.2 i (.lst (xs.set n r.2.1)))
  | _, _, _ => none
theorem Reps.set {K : PySem.W.Frag} {P : Program} {w : World} {H : Hp} {t : PV} {v : V} {fv : List Addr} (rv : Rep K P w H t v fv) : ∀ {xs : List PV} {vs : List V} {fp : List Addr} (n : Nat), n < xs.length → Reps K P w H xs vs fp → fp.Nodup → fv.Nodup → (∀ a ∈ fp, a ∉ fv) →
    ∃ g, Reps K P w H (xs.set n t) (vs.set n v) g ∧ g.Nodup ∧ ∀ a ∈ g, a ∈ fp ∨ a ∈ fv
  | x :: xs, vs, fp, 0, hn, r, nd, nv, d => by
    simp only [Reps] at r
    obtain ⟨u, us, f, g, rfl, ru, rus, rfl⟩ := r
    obtain ⟨n1, n2, n3⟩ := List.nodup_append.mp nd
    refine ⟨fv ++ g, Reps.cons rv rus, List.nodup_append.mpr ⟨nv, n2, fun a ha b hb e => d b (List.mem_append_right _ hb) (by rw [← e]; exact ha)⟩, fun a ha => ?_⟩
    rcases List.mem_append.mp ha with z | z
    · exact .inr z
    · exact .inl (List.mem_append_right _ z)
  | x :: xs, vs, fp, n + 1, hn, r, nd, nv, d => by
    simp only [Reps] at r
    obtain ⟨u, us, f, g, rfl, ru, rus, rfl⟩ := r
    obtain ⟨n1, n2, n3⟩ := List.nodup_append.mp nd
    obtain ⟨g', rg, ng, mg⟩ := Reps.set rv n (by simpa using hn) rus n2 nv fun a ha => d a (List.mem_append_right _ ha)
    refine ⟨f ++ g', Reps.cons ru rg, List.nodup_append.mpr ⟨n1, ng, fun a ha b hb e => ?_⟩, fun a ha => ?_⟩
    · subst e
      rcases mg a hb with z | z
      · exact n3 a ha a z rfl
      · exact d a (List.mem_append_left _ ha) z
    · rcases List.mem_append.mp ha with z | z
      · exact .inl (List.mem_append_left _ z)
      · exact (mg a z).imp (List.mem_append_right _) id
theorem ixN_lt {n : Nat} {i : Int} {j : Nat} (h : ixN n i = some j) : j < n := (ixN_seq h).2.1
theorem sns_setL {C : Cn} (i : Nat) {x : Str} {ke e : Expr} {k : PX} {f : MX} {p sp pos : Pos} (hN : C.N[i]? = some x) (hv : visB C.sc x = true) (hk : SndP C ke k) (h : SndM C e f) (hd : (x == ("__debug__" : Str)) = false := by decide) (hcd : (x == ("__classdict__" : Str)) = false := by decide)
    (ha : ∀ env v, assign (.Subscript (.Name x p) ke sp) env v = (do
      let ov ← holding [v] (eval (.Name x p) env)
      let iv ← holding [v, ov] (eval ke env)
      standAt sp
      holding [v, ov, iv] (setItem ov iv v)
      release [v, ov, iv] []) := by exact fun _ _ => rfl)
    (hs : ∀ env, swapsWithSole [.Subscript (.Name x p) ke sp] e pos.line env = pure false := by exact fun _ => rfl) (hw : ∀ env, swappedStores [.Subscript (.Name x p) ke sp] e env = pure none := by exact fun _ => rfl) :
    SndS C (.Assign [.Subscript (.Name x p) ke sp] e pos) (sSetL i k f) := fun X G =>
  PS.weak (ps_asg (h X G) (pg_sub (pe_var (i := i) (by rw [G.N]; exact hN) (by rw [G.sc]; exact vis_of hv) hd hcd) (hk X G) set_list (ha X.env)) (hs X.env) (hw X.env)) fun D σ H q => by
    obtain ⟨τ, O, S, o, τ', e, q⟩ := q
    unfold sSetL at e
    cases ef : f τ with
    | none => rw [ef] at e; cases e
    | some r =>
      rw [ef] at e
      simp only [Option.bind_some] at e
      cases ek : k r.2.2 with
      | none => rw [ek] at e; cases e
      | some j =>
        rw [ek] at e
        simp only [Option.bind_some] at e
        split at e
        case h_2 => cases e
        rename_i xs j' hk ht hj
        cases ei : ixN xs.length j' with
        | none => rw [ei] at e; cases e
        | some n =>
          rw [ei] at e; cases e
          refine gM.mono S ef fun y H1 O1 s1 S1 l1 r1 => ?_
          obtain ⟨v1, hσ1, rx⟩ := owT_rep S1 ht
          refine ⟨v1, hσ1, gP.mono S1 ek fun z H2 x2 S2 rz => ?_⟩
          obtain ⟨_, rz⟩ := rz.any
          obtain ⟨v2, hσ2, rx⟩ := owT_rep S2 ht
          rw [hσ1] at hσ2; cases hσ2
          simp only [Rep] at rx
          obtain ⟨a, vs, f', rfl, hl, rs, eO⟩ := rx
          rw [hk] at r1
          obtain ⟨fy, ry, ny, oy⟩ := r1
          have nO := S2.nod i
          rw [eO] at nO
          obtain ⟨g, rg, ng, mg⟩ := Reps.set (ry.ex x2) n (ixN_lt ei) rs (List.nodup_cons.mp nO).2 ny fun b hb z => (oy b z).2.1 ⟨i, by rw [eO]; exact List.mem_cons_of_mem _ hb⟩
          refine ⟨a, vs, j', n, rfl, isI_rep hj rz, hl, by rw [rs.length]; exact ei, ?_⟩
          obtain ⟨S3, s3, l3⟩ := inplL S (s1.trans (.ex x2)) S2 l1 ht hσ1 hl eO rg ng
            (fun z => by
              rcases mg a z with z | z
              · exact (List.nodup_cons.mp nO).1 z
              · exact (oy _ z).2.1 ⟨i, by rw [eO]; exact List.mem_cons_self⟩)
            fun b hb => (mg b hb).imp id fun z => ⟨(oy b z).2.1, (oy b z).2.2⟩
          exact q σ _ _ s3 S3 l3.io
end Pv
namespace Pv
open PySem PySem.Spec L2

/-! ### [.. for .. in .. for .. in ..] that changes nothing -/
def comp2L (g : GX) (cd : TX) (it1 : IX) (vs1 : List Nat) (g1 : GX) (cd1 : TX) (el : PX) (τ : En) : List PV → Option (List (Kd × PV))
  | [] => some []
  | t :: ts => (g t τ).bind fun τ1 => (cd τ1).bind fun b => if b then (it1 τ1).bind fun r1 => if r1.1 = .view then none else (compL g1 cd1 el (wipeE τ1 vs1) r1.2).bind fun rs1 => (comp2L g cd it1 vs1 g1 cd1 el τ ts).bind fun rs => some (rs1 ++ rs) else comp2L g cd it1 vs1 g1 cd1 el τ ts
def eComp2 (it : IX) (vs : List Nat) (g : GX) (cd : TX) (it1 : IX) (vs1 : List Nat) (g1 : GX) (cd1 : TX) (el : PX) : PX := fun τ => (it τ).bind fun r => (comp2L g cd it1 vs1 g1 cd1 el (cEnv τ vs) r.2).bind fun rs => if rs.length ≤ 16777216 then some (if kds rs = .own then .own else .view, .lst (rs.map (·.2))) else none
section
variable {K : PySem.W.Frag} {P : Program} {w : World} {τ : En} {σ : St} {H H' : Hp} {O : Nat → List Addr}
theorem StR.wipeP (S : StR K P w τ σ H O) (vs : List Nat) : StR K P w (wipeE τ vs) (wipe σ vs) H O := by
  refine ⟨by rw [wipeE_length, wipe_length, S.len], fun i t e => ?_, fun i t e => ?_, S.nod, S.dis, S.mt⟩
  · have hi : i ∉ vs := fun z => by rcases e with e | e <;> exact nomatch wipeE_in z e
    rw [wipeE_out hi] at e
    rw [wipe_out hi]; exact S.own i t e
  · have hi : i ∉ vs := fun z => nomatch wipeE_in z e
    rw [wipeE_out hi] at e
    rw [wipe_out hi]; exact S.shr i t e
/-- one more item -/
theorem acc_push {n : Nat} {D : Addr} {H0 H5 H6 : Hp} {O4 : Nat → List Addr} {done : List (Kd × PV)} {acc : List V} {u : Kd × PV} {y : V} (AC : Acc K P w H0 H5 D done acc) (x6 : Ex H5 H6) (hD5 : H5 D = some (.lst acc)) (oD : D ∈ O4 n) (x0 : Ex H0 H5) (r6 : RepK K P w O4 H5 H6 u.1 u.2 y) (hnv : u.1 ≠ .view) :
    Acc K P w H0 (upd H6 D (.lst (acc ++ [y]))) D (done ++ [u]) (acc ++ [y]) := by
  obtain ⟨fa, ra, nD, oa⟩ := AC
  have hD6 : H6 D = some (.lst acc) := x6 D _ hD5
  have this : ∃ fy, Rep K P w H6 u.2 y fy ∧ D ∉ fy ∧ (u.1 = .own → fy.Nodup ∧ ∀ a ∈ fy, H5 a = none) := by
    cases hk : u.1 with
    | own =>
      rw [hk] at r6
      obtain ⟨fy, a, b, c⟩ := r6
      refine ⟨fy, a, fun z => ?_, fun _ => ⟨b, fun z hz => (c z hz).2⟩⟩
      have := (c D z).2
      rw [hD5] at this
      cases this
    | shr =>
      rw [hk] at r6
      obtain ⟨fy, a, b⟩ := r6
      exact ⟨fy, a, fun z => b D z ⟨n, oD⟩, fun z => nomatch z⟩
    | view => exact absurd hk hnv
  obtain ⟨fy, ry, nDy, oy⟩ := this
  have F : Fr (fun a => a = D) H6 (upd H6 D (.lst (acc ++ [y]))) := fun a o e n => by rw [upd_ne n]; exact e
  have mF : ∀ a, a = D → Mut (H6 a) := fun a e => by rw [e, hD6]; trivial
  refine ⟨fa ++ fy, ?_, by simp [nD, nDy], fun hk => ?_⟩
  · rw [List.map_append]
    exact Reps.append (Reps.fr mF F _ _ _ (ra.ex x6) fun a ha z => nD (by rw [← z]; exact ha)) (Reps.one (Rep.fr mF F _ _ _ ry fun a ha z => nDy (by rw [← z]; exact ha)))
  · obtain ⟨k1, k2⟩ := (kds_app done [u]).mp hk
    have ku : u.1 = .own := kds_own k2 u (by simp)
    obtain ⟨n1, m1⟩ := oa k1
    obtain ⟨n2, m2⟩ := oy ku
    refine ⟨List.nodup_append.mpr ⟨n1, n2, fun a ha b hb e => ?_⟩, fun a ha => ?_⟩
    · subst e
      exact mut_none (reps_mut _ _ _ ra a ha) (m2 a hb)
    · rcases List.mem_append.mp ha with z | z
      · exact m1 a z
      · exact none_ex (m2 a z) x0
theorem Acc.ex {H0 H H' : Hp} {D : Addr} {rs : List (Kd × PV)} {acc : List V} (h : Acc K P w H0 H D rs acc) (x : Ex H H') : Acc K P w H0 H' D rs acc := by
  obtain ⟨fa, ra, nD, oa⟩ := h
  exact ⟨fa, ra.ex x, nD, oa⟩
end
theorem tLc2_ok {X : Cx} {it it1 : IX} {vs vs1 is is1 : List Nat} {g g1 : GX} {cd cd1 : TX} {el : PX} {σ : St} {H : Hp} {Q : VK} (hv : ∀ i ∈ is, i ∈ vs) (hv1 : ∀ i ∈ is1, i ∈ vs1) (hvv : ∀ i ∈ vs1, i ∈ vs) (q : gP X (eComp2 it vs g cd it1 vs1 g1 cd1 el) σ H Q) :
    tLc2 (genI X.K X.prog X.w it) (genG X.K X.prog X.w is g) (gT X cd) (genI X.K X.prog X.w it1) (genG X.K X.prog X.w is1 g1) (gT X cd1) (gP X el) vs vs1 σ H Q := by
  obtain ⟨τ, O, S, k, t, e, q⟩ := q
  unfold eComp2 at e
  cases ei : it τ with
  | none => rw [ei] at e; cases e
  | some r =>
    rw [ei] at e
    simp only [Option.bind_some] at e
    cases er : comp2L g cd it1 vs1 g1 cd1 el (cEnv τ vs) r.2 with
    | none => rw [er] at e; cases e
    | some rs =>
      rw [er] at e
      simp only [Option.bind_some] at e
      split at e
      case isFalse => cases e
      rename_i hsz
      cases e
      refine ⟨τ, O, S, r.1, r.2, ei, fun J H1 x1 sp D hD => ?_⟩
      obtain ⟨A, _, mA, src⟩ := sp.ex
      obtain ⟨n, hn⟩ : ∃ n, n ∉ is ∧ n ∉ is1 := ⟨(is ++ is1).sum + 1, by
        have key : ∀ (l : List Nat) x, x ∈ l → x ≤ l.sum := fun l => by
          induction l with
          | nil => intro x hx; cases hx
          | cons y l ih =>
            intro x hx
            rw [List.sum_cons]
            rcases List.mem_cons.mp hx with z | z
            · omega
            · have := ih x z; omega
        constructor
        · intro z
          have := key (is ++ is1) _ (List.mem_append_left _ z)
          omega
        · intro z
          have := key (is ++ is1) _ (List.mem_append_right _ z)
          omega⟩
      have nAD : ¬ A D := fun z => mut_none (mA D z) hD
      have HD0 : H D = none := none_ex hD x1
      let HB := upd H1 D (.lst [])
      have mono : ∀ H2, Step HB (OD n D) H2 (OD n D) → ∀ a o, H1 a = some o → H2 a = some o := fun H2 st a o e => by
        have ne : a ≠ D := fun z => by subst z; rw [hD] at e; cases e
        exact st.fr a o (by show upd H1 D _ a = _; rw [upd_ne ne]; exact e) fun z => ne (ow_OD.mp z)
      let Iv : Nat → Hp → Prop := fun i H2 => ∃ done rest acc, done ++ rest = rs ∧ comp2L g cd it1 vs1 g1 cd1 el (cEnv τ vs) (r.2.drop i) = some rest ∧ H2 D = some (.lst acc) ∧ Step HB (OD n D) H2 (OD n D) ∧ Acc X.K X.prog X.w H H2 D done acc
      refine ⟨fun i m H2 => i + m = r.2.length ∧ Iv i H2, ⟨r.2.length, by simp, [], rs, [], rfl, by simpa using er, upd_same, .refl, [], by simp [Reps], by simp, fun _ => ⟨List.nodup_nil, fun _ z => nomatch z⟩⟩, ?_⟩
      rintro i m H2 ⟨em, done, rest, acc, ed, ec, hacc, st, AC⟩
      obtain ⟨go, stop, yld⟩ := src H2 fun a o e _ => mono H2 st a o e
      have xx : Ex H H2 := fun a o e => mono H2 st a o (x1 a o e)
      by_cases hlt : i < r.2.length
      · have hd : r.2.drop i = r.2[i] :: r.2.drop (i + 1) := List.drop_eq_getElem_cons hlt
        rw [hd] at ec
        simp only [comp2L] at ec
        cases eg : g r.2[i] (cEnv τ vs) with
        | none => rw [eg] at ec; cases ec
        | some τ1 =>
          rw [eg] at ec
          simp only [Option.bind_some] at ec
          cases ect : cd τ1 with
          | none => rw [ect] at ec; cases ec
          | some b =>
            rw [ect] at ec
            simp only [Option.bind_some] at ec
            refine .inr ⟨go i hlt, fun H3 => Iv (i + 1) H3, fun H3 h => ⟨m - 1, by omega, by omega, h⟩, fun x H3 hy => ?_⟩
            obtain ⟨x3, fp, rx, hfp⟩ := yld i x H3 _ (List.getElem?_eq_getElem hlt) hy
            have mD3 : Mut (H3 D) := by rw [x3 D _ hacc]; trivial
            have S3 := S.cen (xx.trans x3) vs n HD0 mD3
            refine ⟨cEnv τ vs, OD n D, r.2[i], fp, S3, rx, fun a ha z => nAD (by rw [ow_OD] at z; rw [← z]; exact hfp a ha), τ1, eg, fun σ4 O4 s4 S4 i4 h4 l4 k4 => ⟨?_, ?_⟩⟩
            · rw [wipe_eq l4 fun j hj => (k4 j fun z => hj (hv j z)).1, wipe_wipe]
            · have oD4 : D ∈ O4 n := by rw [(k4 n hn.1).2.2]; unfold OD; simp
              refine gT.mono S4 ect fun H5 x5 S5 => ?_
              have ow4 : ∀ a, ow O4 a → a = D := fun a z => ow_OD.mp (h4 a z)
              have st5 : Step HB (OD n D) H5 (OD n D) := st.trans ((Step.ex x3).trans (.ex x5))
              have AC5 := AC.ex (x3.trans x5)
              have hD5 : H5 D = some (.lst acc) := x5 D _ (x3 D _ hacc)
              cases b
              · simp only [Bool.false_eq_true, if_false] at ec ⊢
                exact ⟨done, rest, acc, ed, ec, hD5, st5, AC5⟩
              · simp only [if_true] at ec ⊢
                cases e1 : it1 τ1 with
                | none => rw [e1] at ec; cases ec
                | some r1 =>
                  rw [e1] at ec
                  simp only [Option.bind_some] at ec
                  split at ec
                  · cases ec
                  rename_i hk1
                  cases er1 : compL g1 cd1 el (wipeE τ1 vs1) r1.2 with
                  | none => rw [er1] at ec; cases ec
                  | some rs1 =>
                    rw [er1] at ec
                    simp only [Option.bind_some] at ec
                    cases ert : comp2L g cd it1 vs1 g1 cd1 el (cEnv τ vs) (r.2.drop (i + 1)) with
                    | none => rw [ert] at ec; cases ec
                    | some rest' =>
                      rw [ert] at ec
                      cases ec
                      refine ⟨τ1, O4, S5, r1.1, r1.2, e1, fun J1 H6 x6 sp1 => ?_⟩
                      obtain ⟨A1, nA1, mA1, src1⟩ := sp1.ex
                      have nA1D : ¬ A1 D := fun z => nA1 hk1 D z ⟨n, oD4⟩
                      have hD6 : H6 D = some (.lst acc) := x6 D _ hD5
                      have S6 := S5.ex x6
                      have st6 : Step HB (OD n D) H6 (OD n D) := st5.trans (.ex x6)
                      refine ⟨fun j k H7 => j + k = r1.2.length ∧ ∃ done1 rest1 acc1, done1 ++ rest1 = rs1 ∧ compL g1 cd1 el (wipeE τ1 vs1) (r1.2.drop j) = some rest1 ∧ H7 D = some (.lst acc1) ∧ Step H6 (OD n D) H7 (OD n D) ∧ Acc X.K X.prog X.w H H7 D (done ++ done1) acc1,
                        ⟨r1.2.length, by simp, [], rs1, acc, rfl, by simpa using er1, hD6, .refl, by rw [List.append_nil]; exact AC5.ex x6⟩, ?_⟩
                      rintro j k H7 ⟨em1, done1, rest1, acc1, ed1, ec1, hacc1, st1, AC1⟩
                      have mono1 : ∀ a o, H6 a = some o → a ≠ D → H7 a = some o := fun a o e ne => st1.fr a o e fun z => ne (ow_OD.mp z)
                      obtain ⟨go1, stop1, yld1⟩ := src1 H7 fun a o e h => mono1 a o e fun z => by
                        subst z
                        rcases h with h | h
                        · exact nA1D h
                        · rw [hD6] at e; cases e; exact h trivial
                      by_cases hlt1 : j < r1.2.length
                      · have hd1 : r1.2.drop j = r1.2[j] :: r1.2.drop (j + 1) := List.drop_eq_getElem_cons hlt1
                        rw [hd1] at ec1
                        simp only [compL] at ec1
                        cases eg1 : g1 r1.2[j] (wipeE τ1 vs1) with
                        | none => rw [eg1] at ec1; cases ec1
                        | some τ2 =>
                          rw [eg1] at ec1
                          simp only [Option.bind_some] at ec1
                          cases ect1 : cd1 τ2 with
                          | none => rw [ect1] at ec1; cases ec1
                          | some b1 =>
                            rw [ect1] at ec1
                            simp only [Option.bind_some] at ec1
                            refine .inr ⟨go1 j hlt1, fun H8 => ∃ done1 rest1 acc1, done1 ++ rest1 = rs1 ∧ compL g1 cd1 el (wipeE τ1 vs1) (r1.2.drop (j + 1)) = some rest1 ∧ H8 D = some (.lst acc1) ∧ Step H6 (OD n D) H8 (OD n D) ∧ Acc X.K X.prog X.w H H8 D (done ++ done1) acc1, fun H8 h => ⟨k - 1, by omega, by omega, h⟩, fun x' H8 hy1 => ?_⟩
                            obtain ⟨x8, fp1, rx1, hfp1⟩ := yld1 j x' H8 _ (List.getElem?_eq_getElem hlt1) hy1
                            have st8 : Step H6 (OD n D) H8 (OD n D) := st1.trans (.ex x8)
                            have hD8 : H8 D = some (.lst acc1) := x8 D _ hacc1
                            -- the slots at this turn
                            have S8 : StR X.K X.prog X.w (wipeE τ1 vs1) (wipe σ4 vs1) H8 O4 := by
                              have F : Fr (fun a => a = D) H6 H8 := fun a o e n => x8 a o (mono1 a o e n)
                              have mF : ∀ a, a = D → Mut (H6 a) := fun a e => by rw [e, hD6]; trivial
                              have Sw := S6.wipeP vs1
                              refine ⟨Sw.len, fun l u e => ?_, fun l u e => ?_, Sw.nod, Sw.dis, fun a z => by rw [ow4 a z, hD8]; trivial⟩
                              · obtain ⟨v, ev, rv⟩ := Sw.own l u e
                                refine ⟨v, ev, Rep.fr mF F _ _ _ rv fun a ha z => ?_⟩
                                have hl : l = n := Sw.dis l n a ha (by rw [z]; exact oD4)
                                subst hl
                                have hlt : l ∉ is := hn.1
                                have el : (wipeE τ1 vs1)[l]? = some (.own u) ∨ (wipeE τ1 vs1)[l]? = some (.io u) := e
                                have hw : l ∉ vs1 := fun z => by rcases el with e | e <;> exact nomatch wipeE_in z e
                                rw [wipeE_out hw, (k4 l hlt).2.1] at el
                                have no := wipeE_not (i := 0) (map_wk τ) vs
                                rcases el with el | el
                                · exact (no l u).1 el
                                · exact (no l u).2 el
                              · obtain ⟨v, f, ev, rv, nv⟩ := Sw.shr l u e
                                exact ⟨v, f, ev, Rep.fr mF F _ _ _ rv fun a ha z => nv a ha (by rw [z]; exact ⟨n, oD4⟩), nv⟩
                            refine ⟨wipeE τ1 vs1, O4, r1.2[j], fp1, S8, rx1, fun a ha z => nA1D (by rw [← ow4 a z]; exact hfp1 a ha), τ2, eg1, fun σ9 O9 s9 S9 i9 h9 l9 k9 => ⟨?_, ?_⟩⟩
                            · rw [wipe_eq l9 fun l hl => (k9 l fun z => hl (hv1 l z)).1, wipe_wipe]
                            · have oD9 : D ∈ O9 n := by rw [(k9 n hn.2).2.2]; exact oD4
                              refine gT.mono S9 ect1 fun H10 x10 S10 => ?_
                              have st10 : Step H6 (OD n D) H10 (OD n D) := st8.trans (.ex x10)
                              have hD10 : H10 D = some (.lst acc1) := x10 D _ hD8
                              have AC10 := AC1.ex (x8.trans x10)
                              cases b1
                              · simp only [Bool.false_eq_true, if_false] at ec1 ⊢
                                exact ⟨done1, rest1, acc1, ed1, ec1, hD10, st10, AC10⟩
                              · simp only [if_true] at ec1 ⊢
                                cases ee : el τ2 with
                                | none => rw [ee] at ec1; cases ec1
                                | some u =>
                                  rw [ee] at ec1
                                  simp only [Option.bind_some] at ec1
                                  split at ec1
                                  · cases ec1
                                  rename_i hnv
                                  cases ert1 : compL g1 cd1 el (wipeE τ1 vs1) (r1.2.drop (j + 1)) with
                                  | none => rw [ert1] at ec1; cases ec1
                                  | some rest1' =>
                                    rw [ert1] at ec1
                                    cases ec1
                                    refine gP.mono S10 ee fun y H11 x11 S11 r11 => ⟨acc1, x11 D _ hD10, ?_, ?_⟩
                                    · obtain ⟨_, ra, _⟩ := AC1
                                      rw [ra.length, List.length_map, sl_eq]
                                      have := congrArg List.length ed
                                      have := congrArg List.length ed1
                                      simp only [List.length_append, List.length_cons] at *
                                      omega
                                    · have xH10 : Ex H H10 := fun a o e => by
                                        have ne : a ≠ D := fun z => by subst z; rw [HD0] at e; cases e
                                        exact x10 a o (x8 a o (mono1 a o (x6 a o (x5 a o (x3 a o (xx a o e)))) ne))
                                      refine ⟨done1 ++ [u], rest1', acc1 ++ [y], by rw [← ed1]; simp, rfl, upd_same, (st10.trans (.ex x11)).trans ⟨fun a o e n => by rw [upd_ne fun z => n (ow_OD.mpr z)]; exact e, fun a z => .inl z⟩, ?_⟩
                                      rw [← List.append_assoc]
                                      exact acc_push AC10 x11 hD10 oD9 xH10 r11 hnv
                      · have hj : j = r1.2.length := by omega
                        subst hj
                        rw [List.drop_length] at ec1
                        simp only [compL] at ec1
                        cases ec1
                        rw [List.append_nil] at ed1
                        subst ed1
                        exact .inl ⟨stop1, done ++ done1, rest', acc1, by rw [← ed]; simp, ert, hacc1, st6.trans st1, AC1⟩
      · have hi' : i = r.2.length := by omega
        subst hi'
        rw [List.drop_length] at ec
        simp only [comp2L] at ec
        cases ec
        rw [List.append_nil] at ed
        subst ed
        refine .inl ⟨stop, q _ H2 xx ?_⟩
        obtain ⟨fa, ra, nD, oa⟩ := AC
        have rp : Rep X.K X.prog X.w H2 (.lst (done.map (·.2))) (.ref D) (D :: fa) := by
          simp only [Rep]
          exact ⟨D, acc, fa, rfl, hacc, ra, rfl⟩
        split
        · rename_i hk
          obtain ⟨n1, m1⟩ := oa hk
          refine ⟨D :: fa, rp, List.nodup_cons.mpr ⟨nD, n1⟩, fun a ha => ⟨rep_mut _ _ _ rp a ha, ?_⟩⟩
          rcases List.mem_cons.mp ha with z | z
          · rw [z]; exact HD0
          · exact m1 a z
        · exact ⟨_, rp⟩
theorem snd_comp2 {C : Cn} {elt tg iter tg1 iter1 : Expr} {ifs ifs1 : List Expr} {scope : Scope} {pos : Pos} {it it1 : IX} {is is1 vs1 : List Nat} {g g1 : GX} {cd cd1 : TX} {el : PX} (own : List (Str × Nat)) (hi : SndI C tg iter it) (ok : blkC C.N C.sc scope own = true) (hg : SndG (C.blk scope) tg is g)
    (ht : SndTs (C.blk scope) ifs cd) (hi1 : SndI (C.blk scope) tg1 iter1 it1) (hg1 : SndG (C.blk scope) tg1 is1 g1) (ht1 : SndTs (C.blk scope) ifs1 cd1) (he : SndP (C.blk scope) elt el) (hv : ∀ i ∈ is, i ∈ own.map (·.2)) (hv1 : ∀ i ∈ is1, i ∈ vs1) (hvv : ∀ i ∈ vs1, i ∈ own.map (·.2))
    (hs : ∀ env x, foldedSetIterable iter env x = pure x := by exact fun _ _ => rfl) (hs1 : ∀ env x, foldedSetIterable iter1 env x = pure x := by exact fun _ _ => rfl) : SndP C (.ListComp elt [⟨tg, iter, ifs, 0⟩, ⟨tg1, iter1, ifs1, 0⟩] scope pos) (eComp2 it (own.map (·.2)) g cd it1 vs1 g1 cd1 el) := fun X G =>
  PE.weak (pe_lc2 G.calm G.nd (hi X G) (by rw [G.N, G.sc]; exact blkOk_by ok) hvv (fun s H a cl fp => hg _ (G.blk scope s H a cl fp)) (fun s H a cl fp => ht _ (G.blk scope s H a cl fp)) (fun s H a cl fp => hi1 _ (G.blk scope s H a cl fp)) (fun s H a cl fp => hg1 _ (G.blk scope s H a cl fp)) (fun s H a cl fp => ht1 _ (G.blk scope s H a cl fp)) (fun s H a cl fp => he _ (G.blk scope s H a cl fp)) (hs X.env) hs1) fun σ H Q q => tLc2_ok hv hv1 hvv q
theorem sns_asgLc2 {C : Cn} (i : Nat) {y : Str} {py : Pos} {elt tg iter tg1 iter1 : Expr} {ifs ifs1 : List Expr} {scope : Scope} {pos spos : Pos} {it it1 : IX} {is is1 vs1 : List Nat} {g g1 : GX} {cd cd1 : TX} {el : PX} (own : List (Str × Nat)) (hy : C.N[i]? = some y) (hk : C.sc.kind = .function) (hyl : C.sc.names.lookup y = some .local)
    (hl : (py.line == pos.line) = true) (ha : (scope.names.any fun (n, k) => n == y && (k == .local || k == .cell)) = false)
    (hi : SndI C tg iter it) (ok : blkC C.N C.sc scope own = true) (hg : SndG (C.blk scope) tg is g)
    (ht : SndTs (C.blk scope) ifs cd) (hi1 : SndI (C.blk scope) tg1 iter1 it1) (hg1 : SndG (C.blk scope) tg1 is1 g1) (ht1 : SndTs (C.blk scope) ifs1 cd1) (he : SndP (C.blk scope) elt el) (hv : ∀ i ∈ is, i ∈ own.map (·.2)) (hv1 : ∀ i ∈ is1, i ∈ vs1) (hvv : ∀ i ∈ vs1, i ∈ own.map (·.2))
    (hs : ∀ env x, foldedSetIterable iter env x = pure x := by exact fun _ _ => rfl) (hs1 : ∀ env x, foldedSetIterable iter1 env x = pure x := by exact fun _ _ => rfl) :
    SndS C (.Assign [.Name y py] (.ListComp elt [⟨tg, iter, ifs, 0⟩, ⟨tg1, iter1, ifs1, 0⟩] scope pos) spos) (sAsg i (eComp2 it (own.map (·.2)) g cd it1 vs1 g1 cd1 el)) := fun X G =>
  asg_core (ps_setLc2 G.calm G.nd (by rw [G.N]; exact hy) (by rw [G.sc]; exact hyl) (sw_true (by rw [G.sc]; exact hk) (by rw [G.sc]; exact hyl) hl ha) (hi X G) (by rw [G.N, G.sc]; exact blkOk_by ok) hvv (fun s H a cl fp => hg _ (G.blk scope s H a cl fp)) (fun s H a cl fp => ht _ (G.blk scope s H a cl fp)) (fun s H a cl fp => hi1 _ (G.blk scope s H a cl fp)) (fun s H a cl fp => hg1 _ (G.blk scope s H a cl fp)) (fun s H a cl fp => ht1 _ (G.blk scope s H a cl fp))
    (fun s H a cl fp => he _ (G.blk scope s H a cl fp)) (hs X.env) hs1) fun σ H Q q => tLc2_ok hv hv1 hvv q
/-- a comprehension stored in a name that another block takes, or that it binds itself -/
theorem sw_false {sc : Scope} {elt : Expr} {gs : List Comprehension} {scope : Scope} {pos py : Pos} {y : Str} {l : Nat} (h : ((sc.names.lookup y == some .local) && !(scope.names.any fun (n, k) => n == y && (k == .local || k == .cell))) = false) : ∀ env : Env, env.scope = sc → swapsWith (.ListComp elt gs scope pos) (some (.Name y py)) l env = pure false := fun env he => by
  subst he
  unfold swapsWith
  have : (env.blockKind == .function && env.kindOf y == some .local && py.line == (Expr.ListComp elt gs scope pos).pos.line && !(scope.names.any fun (n, k) => n == y && (k == .local || k == .cell))) = false := by
    have e : env.kindOf y = env.scope.names.lookup y := rfl
    rw [e]
    cases h1 : (env.scope.names.lookup y == some .local) with
    | false => simp
    | true =>
      rw [h1, Bool.true_and] at h
      rw [h, Bool.and_false]
  show (pure (env.blockKind == .function && env.kindOf y == some .local && py.line == (Expr.ListComp elt gs scope pos).pos.line && !(scope.names.any fun (n, k) => n == y && (k == .local || k == .cell))) : Sem Bool) = pure false
  rw [this]
end Pv
namespace Pv
open PySem PySem.Spec L2 PyProof.Rows PySem.Calls

/-! ### x[::-1], a list or a text -/
theorem PE.or {X : Cx} {e : Expr} {t u : TE} (h : PE X e t) (h' : PE X e u) : PE X e (fun σ H Q => t σ H Q ∨ u σ H Q) := ⟨fun pins s σ H Q I q => q.elim (h.run pins s σ H Q I) (h'.run pins s σ H Q I)⟩
def tRevS (te : TE) : TE := fun σ H Q => te σ H fun x H1 => ∃ z : Str, x = .str z ∧ z.length ≤ sizeLine ∧ Q (.str ⟨z.cps.toList.reverse.toArray⟩) H1
theorem rev_idx (n : Nat) : Builtin.Str.strSliceIndices none none (-1) n = (List.range n).reverse := by
  unfold Builtin.Str.strSliceIndices
  show sliceRange ((n : Int) - 1) (-1) (-1) = _
  rw [PySem.W.krv_sliceRange, PySem.W.krv_range]
theorem pe_revS {X : Cx} {e : Expr} {te : TE} {k : Nat} {p1 p2 p3 pos : Pos} (he : PE X e te) : PE X (.Subscript e (.Slice none none (some (.UnaryOp .USub (.Constant (.int 1) k p1) p2)) p3) pos) (tRevS te) := by
  refine ⟨fun pins s σ H Q I h => ?_⟩
  refine Subscript_ (thn (he.run pins s σ H _ I h) fun v s1 ⟨x, H1, I1, r1, q1⟩ => ?_)
  obtain ⟨z, ex, hz, q⟩ := q1
  subst ex
  obtain ⟨t, rfl⟩ := r1
  have hst : PO X (some (.UnaryOp .USub (.Constant (.int 1) k p1) p2)) (tPart (tUn (rU fun i => .int (-i)) (tC (.int 1)))) := po_some (pe_un un_neg pe_int)
  refine wpAny_Slice (thn (po_none.run pins s1 σ H1 (fun o H2 => o = none ∧ H2 = H1) I1 ⟨rfl, rfl⟩) fun vl s2 ⟨l, H2, I2, pl, el, e2⟩ => ?_)
  subst el e2
  refine thn (po_none.run pins s2 σ H2 (fun o H3 => o = none ∧ H3 = H2) I2 ⟨rfl, rfl⟩) fun vu s3 ⟨u, H3, I3, pu, eu, e3⟩ => ?_
  subst eu e3
  refine thn (hst.run pins s3 σ H3 (fun o H4 => o = some (-1) ∧ H4 = H3) I3 ⟨1, rfl, -1, rfl, rfl, rfl⟩) fun vs s4 ⟨o, H4, I4, ps, eo, e4⟩ => ?_
  subst eo e4
  have I5 : Inv X pins σ H4 { s4 with heap := s4.heap.push { cls := .type "slice", data := .fields #[vl, vu, vs] } } := I4.kept (t' := s4.toks) fun b ob q => Heap.get?_push_of_some _ q
  have nw := Heap.IsSliceOf.new s4.heap vl vu vs
  obtain ⟨l, rfl, hl⟩ := IsPart.raw pl
  obtain ⟨u, rfl, hu⟩ := IsPart.raw pu
  obtain ⟨c, rfl, hc⟩ := IsPart.raw ps
  show wpAny (model X.prog X.w) X.A (subscriptTail e (.Slice none none (some (.UnaryOp .USub (.Constant (.int 1) k p1) p2)) p3) (.str z t) (.ref s4.heap.objs.size)) (EP X pins σ Q) X.xe { s4 with heap := s4.heap.push { cls := .type "slice", data := .fields #[partValue l, partValue u, partValue c] } }
  refine tail_any (ops := [.ref s4.heap.objs.size, .str z t]) (typeIs_str _ _ _) F.slot_str_getitem.lookup ?_ (by with_unfolding_all rfl)
  obtain ⟨os, hos, hcs, hds⟩ := nw
  refine wpAny_getItem_str_slice (l := l) (u := u) (st := c) ⟨os, hos, hcs, hds⟩ (by rw [hc]; rfl) ?_
  unfold sliceMade
  have hd : ((Option.map (fun x => x.1) c).getD 1 == (1 : Int)) = false := by rw [hc]; rfl
  rw [hd, Bool.false_and, if_neg (by decide)]
  have ep : (slicePicked z l u c).filterMap (z.cps[·]?) = z.cps.toList.reverse := by
    show (Builtin.Str.strSliceIndices (l.map (·.1)) (u.map (·.1)) ((c.map (·.1)).getD 1) z.length).filterMap (z.cps[·]?) = _
    rw [hl, hu, hc]
    show (Builtin.Str.strSliceIndices none none (-1) z.length).filterMap (z.cps[·]?) = _
    rw [rev_idx, List.filterMap_reverse]
    show ((List.range z.cps.size).filterMap (z.cps[·]?)).reverse = _
    rw [PySem.W.krv_all]
  rw [ep]
  refine ⟨?_, .str _, H4, I5.tok _, ⟨_, rfl⟩, q⟩
  simpa [Str.length] using hz
def gRev : PV → Option (Kd × PV)
  | .lst xs => some (if imms xs then .own else .view, .lst xs.reverse)
  | .fz xs => some (if imms xs then .own else .view, .lst xs.reverse)
  | .str s => some (.own, .str s.reverse)
  | _ => none
def eRev (a : PX) : PX := fun τ => (a τ).bind fun x => gRev x.2
theorem Reps.rev {K : PySem.W.Frag} {P : Program} {w : World} {H : Hp} : ∀ {xs : List PV} {vs : List V} {fp : List Addr}, Reps K P w H xs vs fp → ∃ g, Reps K P w H xs.reverse vs.reverse g
  | [], vs, fp, h => by
    simp only [Reps] at h
    rw [h.1]
    exact ⟨[], by simp [Reps]⟩
  | x :: xs, vs, fp, h => by
    simp only [Reps] at h
    obtain ⟨v, us, f, g, rfl, rv, rus, _⟩ := h
    obtain ⟨g', rg⟩ := rus.rev
    rw [List.reverse_cons, List.reverse_cons]
    exact ⟨_, Reps.append rg (Reps.one rv)⟩
theorem imms_rev {xs : List PV} (h : imms xs = true) : imms xs.reverse = true := by
  have key : ∀ xs : List PV, imms xs = xs.all imm := fun xs => by
    induction xs with
    | nil => rfl
    | cons x xs ih => simp [imms, ih]
  rw [key] at h ⊢
  rw [List.all_reverse]
  exact h
theorem snd_rev {C : Cn} {e : Expr} {f : PX} {k : Nat} {p1 p2 p3 pos : Pos} (h : SndP C e f) : SndP C (.Subscript e (.Slice none none (some (.UnaryOp .USub (.Constant (.int 1) k p1) p2)) p3) pos) (eRev f) := fun X G =>
  PE.weak (PE.or (pe_revL (h X G)) (pe_revS (h X G))) fun σ H Q q => by
    obtain ⟨τ, O, S, kd, t, e, q⟩ := q
    unfold eRev at e
    cases ea : f τ with
    | none => rw [ea] at e; cases e
    | some x =>
      rw [ea] at e
      simp only [Option.bind_some] at e
      have lst : ∀ (H1 : Hp) (a : Addr) (xs : List PV) (vs : List V) (f : List Addr), Ex H H1 → SqL X.K H1 a vs → Reps X.K X.prog X.w H1 xs vs f → (kd = if imms xs then .own else .view) → t = .lst xs.reverse →
          ∃ a' ys, V.ref a = .ref a' ∧ SqL X.K H1 a' ys ∧ ∀ p, H1 p = none → Q (.ref p) (upd H1 p (.lst ys.reverse)) := fun H1 a xs vs f x1 hq rs ek et => by
        refine ⟨a, vs, rfl, hq, fun p hp => q _ _ (x1.trans (Ex.upd hp)) ?_⟩
        obtain ⟨g, rg⟩ := Reps.rev rs
        have rg' := rg.ex (Ex.upd (o := .lst vs.reverse) hp)
        have rp : Rep X.K X.prog X.w (upd H1 p (.lst vs.reverse)) (.lst xs.reverse) (.ref p) (p :: g) := by
          simp only [Rep]
          exact ⟨p, _, g, rfl, upd_same, rg', rfl⟩
        rw [et, ek]
        by_cases hi : imms xs = true
        · rw [if_pos hi]
          have : g = [] := imms_fp _ _ _ (imms_rev hi) rg
          subst this
          exact ⟨[p], rp, by simp, fun b hb => by simp at hb; subst hb; exact ⟨by rw [upd_same]; trivial, none_ex hp x1⟩⟩
        · rw [if_neg hi]
          exact ⟨_, rp⟩
      cases ex : x.2 with
      | lst xs =>
        rw [ex] at e
        cases e
        refine .inl (gP.mono S ea fun v1 H1 x1 S1 r1 => ?_)
        obtain ⟨f1, r1⟩ := r1.any
        rw [ex] at r1
        simp only [Rep] at r1
        obtain ⟨a, vs, g, rfl, hl, rs, _⟩ := r1
        exact lst H1 a xs vs g x1 (SqL.of hl) rs rfl rfl
      | fz xs =>
        rw [ex] at e
        cases e
        refine .inl (gP.mono S ea fun v1 H1 x1 S1 r1 => ?_)
        obtain ⟨f1, r1⟩ := r1.any
        rw [ex] at r1
        simp only [Rep] at r1
        obtain ⟨_, a, vs, rfl, hl, rs⟩ := r1
        exact lst H1 a xs vs [] x1 hl.sq rs rfl rfl
      | str s =>
        rw [ex] at e
        cases e
        refine .inr (gP.mono S ea fun v1 H1 x1 S1 r1 => ?_)
        obtain ⟨f1, r1⟩ := r1.any
        rw [ex] at r1
        simp only [Rep] at r1
        obtain ⟨rfl, ok, _⟩ := r1
        refine ⟨mkS s, rfl, by have := ok.1; simpa [mkS, Str.length] using this, q _ H1 x1 (repK_str (s := s.reverse) ⟨by rw [List.length_reverse]; exact ok.1, fun c hc => ok.2 c (List.mem_reverse.mp hc)⟩)⟩
      | _ => rw [ex] at e; cases e
/-- x, y = a, b: plain local names -/
theorem swP {sc : Scope} {x y : Str} {px py pt p2 : Pos} {kt k2 : Nat} {a b : Expr} (hk : sc.kind = .function) (hx : sc.names.lookup x = some .local) (hy : sc.names.lookup y = some .local) (hl : (py.line == px.line) = true) (hd : ([x, y].eraseDups.length != 2) = false)
    (hs : ([a, b].any fun | .Starred .. => true | _ => false) = false) (hf : ([a, b].all (foldedForSure 8)) = false) (hc : ([a, b].all (constantsAlone 8)) = false) :
    ∀ env : Env, env.scope = sc → swappedStores [.Tuple [.Name x px, .Name y py] kt pt] (.Tuple [a, b] k2 p2) env = pure (some [x, y]) := fun env he => by
  subst he
  have kx : env.kindOf x = some .local := hx
  have ky : env.kindOf y = some .local := hy
  have hb : env.blockKind = .function := by unfold Env.blockKind; rw [hk]; rfl
  have n0 : ([Expr.Name x px, .Name y py].filterMap fun | .Name id pos => if env.kindOf id == some .local && pos.line == px.line then some id else none | _ => none) = [x, y] := by
    simp only [List.filterMap_cons, List.filterMap_nil, kx, ky, hl]
    simp
  have e1 : ∀ (c : Bool) (p r : Sem (Option (List Str))), c = false → (if c = true then p else r) = r := fun c p r h => by rw [h]; rfl
  unfold swappedStores
  simp only [hb]
  show (if (false || false || false) = true then _ else if ([a, b].any fun | .Starred .. => true | _ => false) = true then _ else _) = _
  rw [e1 (false || false || false) _ _ rfl, e1 _ _ _ hs]
  have key : ∀ (F : List Str) (U : Sem (Option (List Str))), F = [x, y] → (if (F.length != 2 || F.eraseDups.length != F.length) = true then pure none else if ([a, b].all (foldedForSure 8)) = true then pure none else if ([a, b].all (constantsAlone 8)) = true then U else pure (some F)) = (pure (some [x, y]) : Sem (Option (List Str))) := by
    rintro F U rfl
    rw [e1 _ _ _ (by rw [Bool.or_eq_false_iff]; exact ⟨rfl, hd⟩), e1 _ _ _ hf, e1 _ _ _ hc]
  exact key _ _ n0
end Pv
namespace Pv
open PySem PySem.Spec L2

/-! ### list(x), tuple(x), of a list or a tuple -/
section
variable {K : PySem.W.Frag} {P : Program} {w : World} {H : Hp}
theorem seq_rep {x : PV} {l : List PV} {v : V} {fp : List Addr} (e : seqOf x = some l) (r : Rep K P w H x v fp) : ∃ (p : Addr) (vs : List V) (f : List Addr), v = .ref p ∧ Reps K P w H l vs f ∧ (∀ a ∈ f, a ∈ fp) ∧ ((∃ xs, x = .tup xs ∧ SqT K H p vs) ∨ SqL K H p vs) := by
  cases x <;> simp only [seqOf, Option.some.injEq, reduceCtorEq] at e <;> subst e <;> simp only [Rep] at r
  · obtain ⟨p, vs, f, rfl, hl, rs, rfl⟩ := r
    exact ⟨p, vs, f, rfl, rs, fun a ha => List.mem_cons_of_mem _ ha, .inr (SqL.of hl)⟩
  · obtain ⟨p, vs, rfl, hl, rs⟩ := r
    exact ⟨p, vs, fp, rfl, rs, (fun _ z => z), .inl ⟨_, rfl, SqT.of hl⟩⟩
  · obtain ⟨_, p, vs, rfl, hl, rs⟩ := r
    exact ⟨p, vs, [], rfl, rs, (fun _ z => nomatch z), .inr hl.sq⟩
end
def gList1 : PV → Option (Kd × PV) := fun x => (seqOf x).bind fun l => some (if imms l then .own else .view, .lst l)
def gTuple1 : PV → Option (Kd × PV) := fun x => (seqOf x).bind fun l => some (if imms l then .own else .view, .tup l)
theorem cs_list {X : Cx} : CallS X (.type "list") (g1 gList1) := CallS.of1 call_list_of fun H x Q tx t k fp r e q => by
  unfold gList1 at e
  cases es : seqOf tx with
  | none => rw [es] at e; cases e
  | some l =>
    rw [es] at e; cases e
    obtain ⟨p, vs, f, rfl, rs, _, hq⟩ := seq_rep es r
    refine ⟨p, vs, rfl, hq.elim (fun z => .inr z.choose_spec.2) .inl, fun a ha => q _ _ (Ex.upd ha) fun O => ?_⟩
    have rp : Rep X.K X.prog X.w (upd H a (.lst vs)) (.lst l) (.ref a) (a :: f) := by
      simp only [Rep]
      exact ⟨a, vs, f, rfl, upd_same, rs.ex (Ex.upd ha), rfl⟩
    split
    · rename_i hi
      have : f = [] := imms_fp _ _ _ hi rs
      subst this
      exact ⟨[a], rp, by simp, fun b hb => by simp at hb; subst hb; exact ⟨by rw [upd_same]; trivial, ha⟩⟩
    · exact ⟨_, rp⟩
theorem cs_tuple {X : Cx} : CallS X (.type "tuple") (g1 gTuple1) := CallS.of1 call_tuple_of fun H x Q tx t k fp r e q => by
  unfold gTuple1 at e
  cases es : seqOf tx with
  | none => rw [es] at e; cases e
  | some l =>
    rw [es] at e; cases e
    obtain ⟨p, vs, f, rfl, rs, _, hq⟩ := seq_rep es r
    refine ⟨p, vs, rfl, ?_⟩
    rcases hq with ⟨xs, rfl, hT⟩ | hL
    · simp only [seqOf, Option.some.injEq] at es
      subst es
      refine .inr ⟨hT, q _ H .refl fun O => ?_⟩
      split
      · rename_i hi
        exact RepK.of_imm r (by simpa using hi)
      · exact ⟨_, r⟩
    · refine .inl ⟨hL, fun a ha => q _ _ (Ex.upd ha) fun O => ?_⟩
      have rp : Rep X.K X.prog X.w (upd H a (.tup vs)) (.tup l) (.ref a) f := by
        simp only [Rep]
        exact ⟨a, vs, rfl, upd_same, rs.ex (Ex.upd ha)⟩
      split
      · rename_i hi
        exact RepK.of_imm rp (by simpa using hi)
      · exact ⟨_, rp⟩
/-! ### min, max, sum, any, all -/
def gMin2 : PV → PV → Option (Kd × PV)
  | .int i, .int j => some (.own, .int (if j < i then j else i))
  | _, _ => none
def gMax2 : PV → PV → Option (Kd × PV)
  | .int i, .int j => some (.own, .int (if j > i then j else i))
  | _, _ => none
theorem cs_min2 {X : Cx} (hc : X.calm = true) : CallS X (.builtin "min") (g2 gMin2) := CallS.of2 (call_min2 hc) fun H x y Q tx ty t k fp fp' r1 r2 e q => by
  unfold gMin2 at e
  split at e
  · simp only [Rep] at r1 r2
    cases e
    exact ⟨_, _, by rw [r1.1, r2.1], q _ H .refl fun _ => repK_int⟩
  · cases e
theorem cs_max2 {X : Cx} (hc : X.calm = true) : CallS X (.builtin "max") (g2 gMax2) := CallS.of2 (call_max2 hc) fun H x y Q tx ty t k fp fp' r1 r2 e q => by
  unfold gMax2 at e
  split at e
  · simp only [Rep] at r1 r2
    cases e
    exact ⟨_, _, by rw [r1.1, r2.1], q _ H .refl fun _ => repK_int⟩
  · cases e
/-- numbers of a list -/
def allI : List PV → Option (List Int)
  | [] => some []
  | x :: xs => (isI x).bind fun i => (allI xs).map (i :: ·)
def allB : List PV → Option (List Bool)
  | [] => some []
  | x :: xs => match x with | .bl b => (allB xs).map (b :: ·) | _ => none
theorem allI_rep {K : PySem.W.Frag} {P : Program} {w : World} {H : Hp} : ∀ {ts : List PV} {vs : List V} {fp : List Addr} {ns : List Int}, allI ts = some ns → Reps K P w H ts vs fp → vs = ns.map V.int
  | [], vs, fp, ns, h, r => by
    simp only [allI, Option.some.injEq] at h
    subst h
    simp only [Reps] at r
    exact r.1
  | t :: ts, vs, fp, ns, h, r => by
    simp only [allI] at h
    cases es : isI t with
    | none => rw [es] at h; cases h
    | some i =>
      rw [es] at h
      simp only [Option.bind_some] at h
      cases er : allI ts with
      | none => rw [er] at h; cases h
      | some ns' =>
        rw [er] at h; cases h
        simp only [Reps] at r
        obtain ⟨v, us, f, g, rfl, rv, rus, _⟩ := r
        rw [isI_rep es rv, allI_rep er rus]
        rfl
theorem allB_rep {K : PySem.W.Frag} {P : Program} {w : World} {H : Hp} : ∀ {ts : List PV} {vs : List V} {fp : List Addr} {ns : List Bool}, allB ts = some ns → Reps K P w H ts vs fp → vs = ns.map V.bl
  | [], vs, fp, ns, h, r => by
    simp only [allB, Option.some.injEq] at h
    subst h
    simp only [Reps] at r
    exact r.1
  | t :: ts, vs, fp, ns, h, r => by
    cases t with
    | bl b =>
      simp only [allB] at h
      cases er : allB ts with
      | none => rw [er] at h; cases h
      | some ns' =>
        rw [er] at h; cases h
        simp only [Reps] at r
        obtain ⟨v, us, f, g, rfl, rv, rus, _⟩ := r
        simp only [Rep] at rv
        rw [rv.1, allB_rep er rus]
        rfl
    | _ => simp [allB] at h
def lstOf : PV → Option (List PV)
  | .lst xs => some xs
  | .fz xs => some xs
  | _ => none
theorem lst_rep {K : PySem.W.Frag} {P : Program} {w : World} {H : Hp} {x : PV} {l : List PV} {v : V} {fp : List Addr} (e : lstOf x = some l) (r : Rep K P w H x v fp) : ∃ (p : Addr) (vs : List V) (f : List Addr), v = .ref p ∧ Reps K P w H l vs f ∧ SqL K H p vs := by
  cases x <;> simp only [lstOf, Option.some.injEq, reduceCtorEq] at e <;> subst e <;> simp only [Rep] at r
  · obtain ⟨p, vs, f, rfl, hl, rs, rfl⟩ := r
    exact ⟨p, vs, f, rfl, rs, SqL.of hl⟩
  · obtain ⟨_, p, vs, rfl, hl, rs⟩ := r
    exact ⟨p, vs, [], rfl, rs, hl.sq⟩
def maxI : Int → List Int → Int
  | m, [] => m
  | m, x :: xs => maxI (if m < x then x else m) xs
def minI : Int → List Int → Int
  | m, [] => m
  | m, x :: xs => minI (if x < m then x else m) xs
theorem maxI_spec : ∀ (m : Int) (xs : List Int), (maxI m xs = m ∨ maxI m xs ∈ xs) ∧ m ≤ maxI m xs ∧ ∀ y ∈ xs, y ≤ maxI m xs
  | m, [] => ⟨.inl rfl, Int.le_refl _, fun _ z => nomatch z⟩
  | m, x :: xs => by
    obtain ⟨h1, h2, h3⟩ := maxI_spec (if m < x then x else m) xs
    have h4 : m ≤ (if m < x then x else m) ∧ x ≤ (if m < x then x else m) := by split <;> omega
    simp only [maxI]
    refine ⟨?_, ?_, fun y hy => ?_⟩
    · rcases h1 with z | z
      · rw [z]; split
        · exact .inr List.mem_cons_self
        · exact .inl rfl
      · exact .inr (List.mem_cons_of_mem _ z)
    · omega
    · rcases List.mem_cons.mp hy with rfl | z
      · omega
      · exact h3 y z
theorem minI_spec : ∀ (m : Int) (xs : List Int), (minI m xs = m ∨ minI m xs ∈ xs) ∧ minI m xs ≤ m ∧ ∀ y ∈ xs, minI m xs ≤ y
  | m, [] => ⟨.inl rfl, Int.le_refl _, fun _ z => nomatch z⟩
  | m, x :: xs => by
    obtain ⟨h1, h2, h3⟩ := minI_spec (if x < m then x else m) xs
    have h4 : (if x < m then x else m) ≤ m ∧ (if x < m then x else m) ≤ x := by split <;> omega
    simp only [minI]
    refine ⟨?_, ?_, fun y hy => ?_⟩
    · rcases h1 with z | z
      · rw [z]; split
        · exact .inr List.mem_cons_self
        · exact .inl rfl
      · exact .inr (List.mem_cons_of_mem _ z)
    · omega
    · rcases List.mem_cons.mp hy with rfl | z
      · omega
      · exact h3 y z
def gSum1 : PV → Option (Kd × PV) := fun x => (lstOf x).bind fun l => (allI l).map fun ns => (.own, .int ns.sum)
def gMax1 : PV → Option (Kd × PV) := fun x => (lstOf x).bind fun l => (allI l).bind fun ns => match ns with | [] => none | n :: ns => some (.own, .int (maxI n ns))
def gMin1 : PV → Option (Kd × PV) := fun x => (lstOf x).bind fun l => (allI l).bind fun ns => match ns with | [] => none | n :: ns => some (.own, .int (minI n ns))
def gAny1 : PV → Option (Kd × PV) := fun x => (lstOf x).bind fun l => (allB l).map fun ns => (.own, .bl (ns.any id))
def gAll1 : PV → Option (Kd × PV) := fun x => (lstOf x).bind fun l => (allB l).map fun ns => (.own, .bl (ns.all id))
theorem cs_sum {X : Cx} (hc : X.calm = true) : CallS X (.builtin "sum") (g1 gSum1) := CallS.of1 (cr_sum hc) fun H x Q tx t k fp r e q => by
  unfold gSum1 at e
  cases es : lstOf tx with
  | none => rw [es] at e; cases e
  | some l =>
    rw [es] at e
    simp only [Option.bind_some] at e
    cases ei : allI l with
    | none => rw [ei] at e; cases e
    | some ns =>
      rw [ei] at e; cases e
      obtain ⟨p, vs, f, rfl, rs, hq⟩ := lst_rep es r
      rw [allI_rep ei rs] at hq
      exact ⟨p, ns, rfl, hq, q _ H .refl fun _ => repK_int⟩
theorem cs_any {X : Cx} (hc : X.calm = true) : CallS X (.builtin "any") (g1 gAny1) := CallS.of1 (cr_any hc) fun H x Q tx t k fp r e q => by
  unfold gAny1 at e
  cases es : lstOf tx with
  | none => rw [es] at e; cases e
  | some l =>
    rw [es] at e
    simp only [Option.bind_some] at e
    cases ei : allB l with
    | none => rw [ei] at e; cases e
    | some ns =>
      rw [ei] at e; cases e
      obtain ⟨p, vs, f, rfl, rs, hq⟩ := lst_rep es r
      rw [allB_rep ei rs] at hq
      exact ⟨p, ns, rfl, hq, q _ H .refl fun _ => repK_bl⟩
theorem cs_all {X : Cx} (hc : X.calm = true) : CallS X (.builtin "all") (g1 gAll1) := CallS.of1 (cr_all hc) fun H x Q tx t k fp r e q => by
  unfold gAll1 at e
  cases es : lstOf tx with
  | none => rw [es] at e; cases e
  | some l =>
    rw [es] at e
    simp only [Option.bind_some] at e
    cases ei : allB l with
    | none => rw [ei] at e; cases e
    | some ns =>
      rw [ei] at e; cases e
      obtain ⟨p, vs, f, rfl, rs, hq⟩ := lst_rep es r
      rw [allB_rep ei rs] at hq
      exact ⟨p, ns, rfl, hq, q _ H .refl fun _ => repK_bl⟩
theorem cs_max1 {X : Cx} (hc : X.calm = true) : CallS X (.builtin "max") (g1 gMax1) := CallS.of1 (cr_max hc) fun H x Q tx t k fp r e q => by
  unfold gMax1 at e
  cases es : lstOf tx with
  | none => rw [es] at e; cases e
  | some l =>
    rw [es] at e
    simp only [Option.bind_some] at e
    cases ei : allI l with
    | none => rw [ei] at e; cases e
    | some ns =>
      rw [ei] at e
      simp only [Option.bind_some] at e
      cases ns with
      | nil => cases e
      | cons n ns =>
        cases e
        obtain ⟨p, vs, f, rfl, rs, hq⟩ := lst_rep es r
        rw [allI_rep ei rs] at hq
        refine ⟨p, n :: ns, rfl, hq, by simp, fun m hm hle => ?_⟩
        obtain ⟨h1, h2, h3⟩ := maxI_spec n ns
        have h4 : maxI n ns ≤ m := by
          rcases h1 with z | z
          · rw [z]; exact hle n List.mem_cons_self
          · exact hle _ (List.mem_cons_of_mem _ z)
        have h5 : m ≤ maxI n ns := by
          rcases List.mem_cons.mp hm with rfl | z
          · exact h2
          · exact h3 m z
        have : m = maxI n ns := by omega
        rw [this]
        exact q _ H .refl fun _ => repK_int
theorem cs_min1 {X : Cx} (hc : X.calm = true) : CallS X (.builtin "min") (g1 gMin1) := CallS.of1 (cr_min hc) fun H x Q tx t k fp r e q => by
  unfold gMin1 at e
  cases es : lstOf tx with
  | none => rw [es] at e; cases e
  | some l =>
    rw [es] at e
    simp only [Option.bind_some] at e
    cases ei : allI l with
    | none => rw [ei] at e; cases e
    | some ns =>
      rw [ei] at e
      simp only [Option.bind_some] at e
      cases ns with
      | nil => cases e
      | cons n ns =>
        cases e
        obtain ⟨p, vs, f, rfl, rs, hq⟩ := lst_rep es r
        rw [allI_rep ei rs] at hq
        refine ⟨p, n :: ns, rfl, hq, by simp, fun m hm hle => ?_⟩
        obtain ⟨h1, h2, h3⟩ := minI_spec n ns
        have h4 : m ≤ minI n ns := by
          rcases h1 with z | z
          · rw [z]; exact hle n List.mem_cons_self
          · exact hle _ (List.mem_cons_of_mem _ z)
        have h5 : minI n ns ≤ m := by
          rcases List.mem_cons.mp hm with rfl | z
          · exact h2
          · exact h3 m z
        have : m = minI n ns := by omega
        rw [this]
        exact q _ H .refl fun _ => repK_int
end Pv
namespace Pv
open PySem PySem.Spec L2

/-! ### slices whose ends change what slots own -/
abbrev MOX := En → Option (Option Int × En)
def genMO (K : PySem.W.Frag) (P : Program) (w : World) (f : MOX) : TO := fun σ H Q => ∃ τ O, StR K P w τ σ H O ∧ ∃ o τ', f τ = some (o, τ') ∧ ∀ H' O', Step H O H' O' → StR K P w τ' σ H' O' → Lk τ τ' → Q o H'
def SndMO (C : Cn) (e : Option Expr) (f : MOX) : Prop := ∀ X, Gd C X → PO X e (genMO X.K X.prog X.w f)
def mNP : MOX := fun τ => some (none, τ)
def mSP (a : MX) : MOX := fun τ => (a τ).bind fun x => match x.2.1 with | .int i => some (some i, x.2.2) | _ => none
theorem smo_none {C : Cn} : SndMO C none mNP := fun X G => PO.weak po_none fun σ H Q h => by
  obtain ⟨τ, O, S, o, τ', e, q⟩ := h
  cases e
  exact q H O .refl S .refl
theorem smo_some {C : Cn} {e : Expr} {f : MX} (h : SndM C e f) : SndMO C (some e) (mSP f) := fun X G => PO.weak (po_some (h X G)) fun σ H Q h => by
  obtain ⟨τ, O, S, o, τ', e, q⟩ := h
  unfold mSP at e
  cases ea : f τ with
  | none => rw [ea] at e; cases e
  | some x =>
    rw [ea] at e
    simp only [Option.bind_some] at e
    refine gM.mono S ea fun v1 H1 O1 s1 S1 l1 r1 => ?_
    obtain ⟨f1, r1, _⟩ := r1.any
    split at e
    · rename_i i hi
      rw [hi] at r1
      simp only [Rep] at r1
      cases e
      exact ⟨i, r1.1, q H1 O1 s1 S1 l1⟩
    · cases e
/-- a text or an unchanged list, cut -/
def gSlM (x : PV) (lo hi : Option Int) : Option (Kd × PV) := match x with
  | .str s => some (.own, .str (cutL s lo hi))
  | .lst xs => some (if imms (cutL xs lo hi) then .own else .view, .lst (cutL xs lo hi))
  | _ => none
theorem gSlM_ok {X : Cx} {H : Hp} {tx : PV} {v : V} {f1 : List Addr} {l u : Option Int} {k : Kd} {t : PV} {Q : VK} (r1 : Rep X.K X.prog X.w H tx v f1) (e : gSlM tx l u = some (k, t)) (q : ∀ z H', Ex H H' → (∀ O, RepK X.K X.prog X.w O H H' k t z) → Q z H') : rSlS v l u H Q ∨ rSlL X.K v l u H Q := by
  unfold gSlM at e
  split at e
  · simp only [Rep] at r1
    cases e
    refine .inl ⟨_, r1.1, by rw [mkS_len]; exact r1.2.1.1, ?_⟩
    rename_i s
    have : cutS (mkS s) l u = mkS (cutL s l u) := by unfold cutS cutL mkS; simp [Str.length]
    rw [this]
    refine q _ H .refl fun O => repK_str (r1.2.1.sub ?_ fun c hc => ?_)
    · unfold cutL; rw [List.length_take, List.length_drop]; omega
    · unfold cutL at hc; exact List.mem_of_mem_drop (List.mem_of_mem_take hc)
  · simp only [Rep] at r1
    cases e
    obtain ⟨a, vs, f, ex, hl, rs, ef⟩ := r1
    obtain ⟨g, rg⟩ := rs.cut l u
    exact .inr ⟨a, vs, ex, SqL.of hl, fun p hp => q _ _ (Ex.upd hp) fun O => repK_lst rg hp rfl⟩
  · cases e
def mSl (a : MX) (lo hi : MOX) : MX := fun τ => (a τ).bind fun x => if x.1 = .view then none else (lo x.2.2).bind fun l => (hi l.2).bind fun h => (gSlM x.2.1 l.1 h.1).map fun z => (z.1, z.2, h.2)
theorem snm_sl {C : Cn} {a : Expr} {lo hi : Option Expr} {fa : MX} {fl fh : MOX} {pos p2 : Pos} (ha : SndM C a fa) (hl : SndMO C lo fl) (hh : SndMO C hi fh) : SndM C (.Subscript a (.Slice lo hi none p2) pos) (mSl fa fl fh) := by
  intro X G
  refine PE.weak (pe_slice (SlR.or sl_str sl_list) (ha X G) (hl X G) (hh X G)) fun σ H Q h => ?_
  obtain ⟨τ, O, S, k, t, τ', e, q⟩ := h
  unfold mSl at e
  cases ea : fa τ with
  | none => rw [ea] at e; cases e
  | some x =>
    rw [ea] at e
    simp only [Option.bind_some] at e
    split at e
    · cases e
    rename_i hk
    cases el : fl x.2.2 with
    | none => rw [el] at e; cases e
    | some l =>
      rw [el] at e
      simp only [Option.bind_some] at e
      cases eh : fh l.2 with
      | none => rw [eh] at e; cases e
      | some u =>
        rw [eh] at e
        simp only [Option.bind_some] at e
        cases eg : gSlM x.2.1 l.1 u.1 with
        | none => rw [eg] at e; cases e
        | some z =>
          rw [eg] at e; cases e
          refine gM.mono S ea fun v1 H1 O1 s1 S1 l1 r1 => ⟨x.2.2, O1, S1, l.1, l.2, el, fun H2 O2 s2 S2 l2 => ⟨l.2, O2, S2, u.1, u.2, eh, fun H3 O3 s3 S3 l3 => ?_⟩⟩
          obtain ⟨f1, r3, _⟩ := (r1.keep S1 hk (s2.trans s3)).any
          exact gSlM_ok r3 eg fun y H' x' rz => q y H' O3 ((s1.trans (s2.trans s3)).trans (.ex x')) (S3.ex x') (l1.trans (l2.trans l3)) (repM_of S3 (s1.trans (s2.trans s3)) (rz O3))

/-! ### displays of data that no one can change -/
def mLst (fs : List AX) : MX := fun τ => (evsA fs τ).bind fun s => (arT s.2 s.1).bind fun ts => if imms ts = true then some (.own, .lst ts, s.2) else none
def mTup (fs : List AX) : MX := fun τ => (evsA fs τ).bind fun s => (arT s.2 s.1).bind fun ts => if imms ts = true then some (.own, .tup ts, s.2) else none
theorem snm_lst {C : Cn} {es : List Expr} {fs : List AX} {pos : Pos} (h : SndMA C es fs) (hl : fs.length ≤ 1000 := by exact Nat.le_of_ble_eq_true rfl) : SndM C (.List es pos) (mLst fs) := fun X G =>
  PE.weak (pe_lst (h X G)) fun σ H Q q => by
    obtain ⟨τ, O, S, k, t, τ', e, q⟩ := q
    unfold mLst at e
    cases ea : evsA fs τ with
    | none => rw [ea] at e; cases e
    | some s =>
      rw [ea] at e
      simp only [Option.bind_some] at e
      cases et : arT s.2 s.1 with
      | none => rw [et] at e; cases e
      | some ts =>
        rw [et] at e
        simp only [Option.bind_some] at e
        split at e
        case isFalse => cases e
        rename_i hi
        cases e
        refine ⟨τ, O, S, s.1, s.2, ea, fun vs H1 O1 s1 _ S1 l1 ar => ⟨by rw [ar.len, evsA_len ea, sl_eq]; omega, fun p hp => ?_⟩⟩
        obtain ⟨fp, rs⟩ := arT_ok S1 ar et
        have : fp = [] := imms_fp _ _ _ hi rs
        subst this
        have x : Ex H1 (upd H1 p (.lst vs)) := Ex.upd hp
        have rp : Rep X.K X.prog X.w (upd H1 p (.lst vs)) (.lst ts) (.ref p) [p] := by
          simp only [Rep]
          exact ⟨p, vs, [], rfl, upd_same, rs.ex x, rfl⟩
        exact q _ _ O1 (s1.trans (.ex x)) (S1.ex x) l1 (repM_of (k := .own) S1 s1 ⟨[p], rp, by simp, fun b hb => by simp at hb; subst hb; exact ⟨by rw [upd_same]; trivial, hp⟩⟩)
theorem snm_tup {C : Cn} {es : List Expr} {fs : List AX} {k0} {pos : Pos} (h : SndMA C es fs) (hl : fs.length ≤ 1000 := by exact Nat.le_of_ble_eq_true rfl) : SndM C (.Tuple es k0 pos) (mTup fs) := fun X G =>
  PE.weak (pe_tup (h X G)) fun σ H Q q => by
    obtain ⟨τ, O, S, k, t, τ', e, q⟩ := q
    unfold mTup at e
    cases ea : evsA fs τ with
    | none => rw [ea] at e; cases e
    | some s =>
      rw [ea] at e
      simp only [Option.bind_some] at e
      cases et : arT s.2 s.1 with
      | none => rw [et] at e; cases e
      | some ts =>
        rw [et] at e
        simp only [Option.bind_some] at e
        split at e
        case isFalse => cases e
        rename_i hi
        cases e
        refine ⟨τ, O, S, s.1, s.2, ea, fun vs H1 O1 s1 _ S1 l1 ar => ⟨by rw [ar.len, evsA_len ea, sl_eq]; omega, fun p hp => ?_⟩⟩
        obtain ⟨fp, rs⟩ := arT_ok S1 ar et
        have x : Ex H1 (upd H1 p (.tup vs)) := Ex.upd hp
        have rp : Rep X.K X.prog X.w (upd H1 p (.tup vs)) (.tup ts) (.ref p) fp := by
          simp only [Rep]
          exact ⟨p, vs, rfl, upd_same, rs.ex x⟩
        exact q _ _ O1 (s1.trans (.ex x)) (S1.ex x) l1 (repM_imm rp (by simpa using hi))

/-! ### a, b = e -/
def sAsgG (g : GX) (f : MX) : SX := fun τ => (f τ).bind fun r => if r.1 = .view then none else (g r.2.1 r.2.2).bind fun τ' => some (.nx, τ')
theorem sns_asgG {C : Cn} {tg e : Expr} {is : List Nat} {g : GX} {f : MX} {pos : Pos} (hg : SndG C tg is g) (h : SndM C e f)
    (hs : ∀ env, swapsWithSole [tg] e pos.line env = pure false := by exact fun _ => rfl) (hw : ∀ env, swappedStores [tg] e env = pure none := by exact fun _ => rfl) (h1 : ∀ env, (assignEach [tg] env).map (·.2) = [assign tg env] := by exact fun _ => rfl) :
    SndS C (.Assign [tg] e pos) (sAsgG g f) := fun X G =>
  PS.weak (ps_asg (h X G) (hg X G) (hs X.env) (hw X.env) (h1 X.env)) fun D σ H q => by
    obtain ⟨τ, O, S, o, τ', e, q⟩ := q
    unfold sAsgG at e
    cases ef : f τ with
    | none => rw [ef] at e; cases e
    | some r =>
      rw [ef] at e
      simp only [Option.bind_some] at e
      split at e
      · cases e
      rename_i hk
      cases eg : g r.2.1 r.2.2 with
      | none => rw [eg] at e; cases e
      | some τ1 =>
        rw [eg] at e; cases e
        refine gM.mono S ef fun v H1 O1 s1 S1 l1 r1 => ?_
        obtain ⟨fp, r1, n1⟩ := r1.any
        refine ⟨r.2.2, O1, r.2.1, fp, S1, r1, n1 hk, _, eg, fun σ' O' s2 S2 i2 _ _ _ => ?_⟩
        exact q σ' H1 O' (s1.trans s2) S2 (l1.io.trans i2)
end Pv
namespace Pv
open PySem PySem.Spec L2

/-! ### for over a slot's own list of data that no one can change: the list is read as it stands at each turn -/
def liveL (i : Nat) (g : GX) (f : SX) : Nat → Nat → SX
  | 0, _ => fun _ => none
  | n + 1, k => fun τ => match τ[i]? with
    | some (.io (.lst ts)) => match ts[k]? with
      | none => some (.nx, τ)
      | some t => if imm t = true then (g t τ).bind fun τ1 => (f τ1).bind fun r => match r.1 with
          | .nx => liveL i g f n (k + 1) r.2
          | .ct => liveL i g f n (k + 1) r.2
          | .bk => some (.nx, r.2)
          | .ret k u => some (.ret k u, r.2)
        else none
    | _ => none
def unIo (i : Nat) (τ : En) : Option En := match τ[i]? with
  | some (.io t) => some (τ.set i (.own t))
  | _ => none
def sForLv (i : Nat) (g : GX) (f : SX) : SX := fun τ => match τ[i]? with
  | some (.own (.lst ts)) => (liveL i g f whFuel 0 (τ.set i (.io (.lst ts)))).bind fun r => (unIo i r.2).bind fun τ' => some (r.1, τ')
  | _ => none
section
variable {K : PySem.W.Frag} {P : Program} {w : World} {τ τ' : En} {σ : St} {H : Hp} {O : Nat → List Addr}
theorem StR.toIo {i : Nat} {t : PV} (S : StR K P w τ σ H O) (e : τ[i]? = some (.own t)) : StR K P w (τ.set i (.io t)) σ H O := by
  refine ⟨by rw [List.length_set]; exact S.len, fun j u h => ?_, fun j u h => ?_, S.nod, S.dis, S.mt⟩
  · rcases h with h | h
    · rcases set_get h with ⟨_, b⟩ | ⟨_, b⟩
      · cases b
      · exact S.own j u (.inl b)
    · rcases set_get h with ⟨a, b⟩ | ⟨_, b⟩
      · cases b; rw [a]; exact S.own i t (.inl e)
      · exact S.own j u (.inr b)
  · rcases set_get h with ⟨_, b⟩ | ⟨_, b⟩
    · cases b
    · exact S.shr j u b
theorem StR.unIo {i : Nat} (S : StR K P w τ σ H O) (e : unIo i τ = some τ') : StR K P w τ' σ H O := by
  unfold Pv.unIo at e
  split at e
  case h_2 => cases e
  rename_i t ht
  cases e
  refine ⟨by rw [List.length_set]; exact S.len, fun j u h => ?_, fun j u h => ?_, S.nod, S.dis, S.mt⟩
  · rcases h with h | h
    · rcases set_get h with ⟨a, b⟩ | ⟨_, b⟩
      · cases b; rw [a]; exact S.own i t (.inr ht)
      · exact S.own j u (.inl b)
    · rcases set_get h with ⟨_, b⟩ | ⟨_, b⟩
      · cases b
      · exact S.own j u (.inr b)
  · rcases set_get h with ⟨_, b⟩ | ⟨_, b⟩
    · cases b
    · exact S.shr j u b
theorem io_back {i : Nat} {t : PV} {σ' : St} {τ1 : En} (e : τ[i]? = some (.own t)) (io : IoOk (τ.set i (.io t)) τ1 σ σ') (u : unIo i τ1 = some τ') : IoOk τ τ' σ σ' := fun j s h => by
  have hj : j ≠ i := fun z => by rw [z, e] at h; cases h
  obtain ⟨⟨t', e'⟩, es⟩ := io j s (by rw [List.getElem?_set_ne (Ne.symm hj)]; exact h)
  unfold unIo at u
  split at u
  · cases u
    exact ⟨⟨t', by rw [List.getElem?_set_ne (Ne.symm hj)]; exact e'⟩, es⟩
  · cases u
end
theorem sns_forLv {C : Cn} (i : Nat) {x : Str} {tg : Expr} {p : Pos} {body : List Stmt} {is : List Nat} {g : GX} {f : SX} {pos : Pos} (hN : C.N[i]? = some x) (hv : visB C.sc x = true) (hg : SndG C tg is g) (hb : SndSs C body f) (hd : (x == ("__debug__" : Str)) = false := by decide) (hcd : (x == ("__classdict__" : Str)) = false := by decide)
    (hs : ∀ env y, foldedSetIterable (.Name x p) env y = pure y := by exact fun _ _ => rfl) : SndS C (.For tg (.Name x p) body [] pos) (sForLv i g f) := fun X G =>
  PS.weak (ps_for G.po G.calm (pi_list (pe_var (i := i) (by rw [G.N]; exact hN) (by rw [G.sc]; exact vis_of hv) hd hcd)) (hg X G) (hb X G) (hs X.env)) fun D σ H q => by
    obtain ⟨τ, O, S, o, τ', e, q⟩ := q
    unfold sForLv at e
    split at e
    case h_2 => cases e
    rename_i ts hτ
    cases el : liveL i g f whFuel 0 (τ.set i (.io (.lst ts))) with
    | none => rw [el] at e; cases e
    | some r =>
      obtain ⟨ro, rτ⟩ := r
      rw [el] at e
      simp only [Option.bind_some] at e
      cases eu : unIo i rτ with
      | none => rw [eu] at e; cases e
      | some τe =>
        rw [eu] at e
        simp only [Option.bind_some, Option.some.injEq, Prod.mk.injEq] at e
        obtain ⟨e1, e2⟩ := e
        subst e2
        obtain ⟨v0, hσ0, r0⟩ := S.own i _ (.inl hτ)
        simp only [Rep] at r0
        obtain ⟨a, vs0, f0, rfl, hl0, _⟩ := r0
        have S0 := S.toIo hτ
        have hio0 : (τ.set i (.io (.lst ts)))[i]? = some (.io (.lst ts)) := List.getElem?_set_self (List.getElem?_eq_some_iff.mp hτ).1
        refine ⟨.ref a, hσ0, a, rfl, ⟨vs0, SqL.of hl0⟩, fun k n σ1 H1 => ∃ τ1 O1, StR X.K X.prog X.w τ1 σ1 H1 O1 ∧ Step H O H1 O1 ∧ IoOk (τ.set i (.io (.lst ts))) τ1 σ σ1 ∧ liveL i g f n k τ1 = some (ro, rτ), ⟨whFuel, _, O, S0, .refl, .refl, el⟩, ?_⟩
        rintro k n σ1 H1 ⟨τ1, O1, S1, s1, i1, e3⟩
        obtain ⟨⟨t1, et1⟩, es1⟩ := i1 i _ hio0
        rw [hσ0] at es1
        cases n with
        | zero => simp only [liveL] at e3; cases e3
        | succ n =>
          simp only [liveL, et1] at e3
          split at e3
          case h_2 => cases e3
          rename_i us hus
          cases hus
          obtain ⟨v1, hσ1, r1⟩ := S1.own i _ (.inr et1)
          rw [es1] at hσ1
          cases hσ1
          simp only [Rep] at r1
          obtain ⟨a', vs, fl, ea, hl, rs, eO⟩ := r1
          cases ea
          split at e3
          · rename_i hk
            cases e3
            refine .inl ⟨⟨vs, SqL.of hl, by rw [rs.length]; exact List.getElem?_eq_none_iff.mp hk⟩, ?_⟩
            have := q σ1 H1 O1 s1 (S1.unIo eu) (io_back hτ i1 eu)
            rw [← e1] at this
            exact this
          · rename_i t hk
            split at e3
            case isFalse => cases e3
            rename_i hi
            obtain ⟨v, fv, hv', rv, _⟩ := rs.get hk
            have fv0 := imm_fp _ _ _ hi rv
            subst fv0
            cases eg : g t τ1 with
            | none => rw [eg] at e3; cases e3
            | some τ2 =>
              rw [eg] at e3
              simp only [Option.bind_some] at e3
              cases ef : f τ2 with
              | none => rw [ef] at e3; cases e3
              | some r' =>
                rw [ef] at e3
                simp only [Option.bind_some] at e3
                refine .inr ⟨⟨vs, v, SqL.of hl, hv'⟩, fun σ' H' => ∃ τ3 O3, StR X.K X.prog X.w τ3 σ' H' O3 ∧ Step H O H' O3 ∧ IoOk (τ.set i (.io (.lst ts))) τ3 σ σ' ∧ liveL i g f n (k + 1) τ3 = some (ro, rτ), fun σ' H' h => ⟨n, by omega, h⟩, fun x H2 hy => ?_⟩
                obtain ⟨eH, hy⟩ := hy
                subst eH
                have := hy vs (SqL.of hl)
                rw [hv'] at this
                cases this
                refine ⟨τ1, O1, t, [], S1, rv, (fun _ z => nomatch z), τ2, eg, fun σ3 O3 s3 S3 i3 _ _ _ => ⟨τ2, O3, S3, r'.1, r'.2, ef, fun σ4 H4 O4 s4 S4 i4 => ?_⟩⟩
                have st : Step H O H4 O4 := s1.trans (s3.trans s4)
                have io := i1.trans (i3.trans i4)
                cases hr : r'.1 with
                | nx => rw [hr] at e3; exact ⟨r'.2, O4, S4, st, io, e3⟩
                | ct => rw [hr] at e3; exact ⟨r'.2, O4, S4, st, io, e3⟩
                | bk =>
                  rw [hr] at e3
                  cases e3
                  have := q σ4 H4 O4 st (S4.unIo eu) (io_back hτ io eu)
                  rw [← e1] at this
                  exact this
                | ret k u =>
                  rw [hr] at e3
                  cases e3
                  have := q σ4 H4 O4 st (S4.unIo eu) (io_back hτ io eu)
                  rw [← e1] at this
                  exact EndP.back (s1.trans s3) this
/-- .. the slot in-out already -/
def sForLi (i : Nat) (g : GX) (f : SX) : SX := fun τ => match τ[i]? with
  | some (.io (.lst ts)) => liveL i g f whFuel 0 τ
  | _ => none
theorem sns_forLi {C : Cn} (i : Nat) {x : Str} {tg : Expr} {p : Pos} {body : List Stmt} {is : List Nat} {g : GX} {f : SX} {pos : Pos} (hN : C.N[i]? = some x) (hv : visB C.sc x = true) (hg : SndG C tg is g) (hb : SndSs C body f) (hd : (x == ("__debug__" : Str)) = false := by decide) (hcd : (x == ("__classdict__" : Str)) = false := by decide)
    (hs : ∀ env y, foldedSetIterable (.Name x p) env y = pure y := by exact fun _ _ => rfl) : SndS C (.For tg (.Name x p) body [] pos) (sForLi i g f) := fun X G =>
  PS.weak (ps_for G.po G.calm (pi_list (pe_var (i := i) (by rw [G.N]; exact hN) (by rw [G.sc]; exact vis_of hv) hd hcd)) (hg X G) (hb X G) (hs X.env)) fun D σ H q => by
    obtain ⟨τ, O, S, o, τ', e, q⟩ := q
    unfold sForLi at e
    split at e
    case h_2 => cases e
    rename_i ts hτ
    have el := e
    refine (?_ : _)
    · 
        obtain ⟨v0, hσ0, r0⟩ := S.own i _ (.inr hτ)
        simp only [Rep] at r0
        obtain ⟨a, vs0, f0, rfl, hl0, _⟩ := r0
        have S0 := S
        have hio0 := hτ
        refine ⟨.ref a, hσ0, a, rfl, ⟨vs0, SqL.of hl0⟩, fun k n σ1 H1 => ∃ τ1 O1, StR X.K X.prog X.w τ1 σ1 H1 O1 ∧ Step H O H1 O1 ∧ IoOk τ τ1 σ σ1 ∧ liveL i g f n k τ1 = some (o, τ'), ⟨whFuel, _, O, S0, .refl, .refl, el⟩, ?_⟩
        rintro k n σ1 H1 ⟨τ1, O1, S1, s1, i1, e3⟩
        obtain ⟨⟨t1, et1⟩, es1⟩ := i1 i _ hio0
        rw [hσ0] at es1
        cases n with
        | zero => simp only [liveL] at e3; cases e3
        | succ n =>
          simp only [liveL, et1] at e3
          split at e3
          case h_2 => cases e3
          rename_i us hus
          cases hus
          obtain ⟨v1, hσ1, r1⟩ := S1.own i _ (.inr et1)
          rw [es1] at hσ1
          cases hσ1
          simp only [Rep] at r1
          obtain ⟨a', vs, fl, ea, hl, rs, eO⟩ := r1
          cases ea
          split at e3
          · rename_i hk
            cases e3
            refine .inl ⟨⟨vs, SqL.of hl, by rw [rs.length]; exact List.getElem?_eq_none_iff.mp hk⟩, ?_⟩
            exact q σ1 H1 O1 s1 S1 i1
          · rename_i t hk
            split at e3
            case isFalse => cases e3
            rename_i hi
            obtain ⟨v, fv, hv', rv, _⟩ := rs.get hk
            have fv0 := imm_fp _ _ _ hi rv
            subst fv0
            cases eg : g t τ1 with
            | none => rw [eg] at e3; cases e3
            | some τ2 =>
              rw [eg] at e3
              simp only [Option.bind_some] at e3
              cases ef : f τ2 with
              | none => rw [ef] at e3; cases e3
              | some r' =>
                rw [ef] at e3
                simp only [Option.bind_some] at e3
                refine .inr ⟨⟨vs, v, SqL.of hl, hv'⟩, fun σ' H' => ∃ τ3 O3, StR X.K X.prog X.w τ3 σ' H' O3 ∧ Step H O H' O3 ∧ IoOk τ τ3 σ σ' ∧ liveL i g f n (k + 1) τ3 = some (o, τ'), fun σ' H' h => ⟨n, by omega, h⟩, fun x H2 hy => ?_⟩
                obtain ⟨eH, hy⟩ := hy
                subst eH
                have := hy vs (SqL.of hl)
                rw [hv'] at this
                cases this
                refine ⟨τ1, O1, t, [], S1, rv, (fun _ z => nomatch z), τ2, eg, fun σ3 O3 s3 S3 i3 _ _ _ => ⟨τ2, O3, S3, r'.1, r'.2, ef, fun σ4 H4 O4 s4 S4 i4 => ?_⟩⟩
                have st : Step H O H4 O4 := s1.trans (s3.trans s4)
                have io := i1.trans (i3.trans i4)
                cases hr : r'.1 with
                | nx => rw [hr] at e3; exact ⟨r'.2, O4, S4, st, io, e3⟩
                | ct => rw [hr] at e3; exact ⟨r'.2, O4, S4, st, io, e3⟩
                | bk =>
                  rw [hr] at e3
                  cases e3
                  exact q σ4 H4 O4 st S4 io
                | ret k u =>
                  rw [hr] at e3
                  cases e3
                  exact EndP.back (s1.trans s3) (q σ4 H4 O4 st S4 io)
/-- .. or a list that no slot owns -/
def sForN (i : Nat) (g : GX) (f : SX) : SX := fun τ => match τ[i]? with
  | some (.own (.lst _)) => sForLv i g f τ
  | some (.io (.lst _)) => sForLi i g f τ
  | _ => sFor (iVal (eVar i)) g f τ
theorem PS.or {X : Cx} {st : Stmt} {t u : TS} (h : PS X st t) (h' : PS X st u) : PS X st (fun D σ H => t D σ H ∨ u D σ H) := ⟨fun pins s σ H D I q => q.elim (h.run pins s σ H D I) (h'.run pins s σ H D I)⟩
theorem sns_forN {C : Cn} (i : Nat) {x : Str} {tg : Expr} {p : Pos} {body : List Stmt} {is : List Nat} {g : GX} {f : SX} {pos : Pos} (hN : C.N[i]? = some x) (hv : visB C.sc x = true) (hg : SndG C tg is g) (hb : SndSs C body f) (hd : (x == ("__debug__" : Str)) = false := by decide) (hcd : (x == ("__classdict__" : Str)) = false := by decide)
    (hs : ∀ env y, foldedSetIterable (.Name x p) env y = pure y := by exact fun _ _ => rfl) : SndS C (.For tg (.Name x p) body [] pos) (sForN i g f) := fun X G =>
  PS.weak (PS.or (sns_forLv i hN hv hg hb hd hcd hs X G) (PS.or (sns_forLi i hN hv hg hb hd hcd hs X G) (sns_for (sni_val (snd_var i hN hv hd hcd)) hg hb hs X G))) fun D σ H q => by
    obtain ⟨τ, O, S, o, τ', e, q⟩ := q
    unfold sForN at e
    split at e
    · exact .inl ⟨τ, O, S, o, τ', e, q⟩
    · exact .inr (.inl ⟨τ, O, S, o, τ', e, q⟩)
    · exact .inr (.inr ⟨τ, O, S, o, τ', e, q⟩)
end Pv
namespace Pv
open PySem PySem.Spec L2

/-! ### o.index(x) -/
def gSIx : Tx → Tx → Option (Kd × PV) := fun a b => match Builtin.Str.occurrences (mkS a) (mkS b) 0 (mkS a).length 1 with | i :: _ => some (.own, .int (i : Nat)) | [] => none
theorem ms_six {X : Cx} : MtS' X "str.index" (gS1 gSIx) := ms1 mt_sindex fun H Q a b k t _ _ e q => by
  unfold gSIx at e
  split at e
  · rename_i i r hr
    cases e
    exact ⟨_, _, i, r, rfl, rfl, hr, q _ H .refl fun _ => repK_int⟩
  · cases e
/-- the first place of one that is the same -/
def fIx (y : PV) : List PV → Option Nat
  | [] => none
  | x :: xs => if pyEq x y = true then some 0 else (fIx y xs).map (· + 1)
def gLIx : PV → List PV → Option (Kd × PV) := fun x ts => match ts with
  | [y] => match x with
    | .lst xs => if isData y = true ∧ isDatas xs = true ∧ dep y ≤ 64 ∧ dep (.lst xs) ≤ 64 then (fIx y xs).map fun j => (.own, .int (j : Nat)) else none
    | .fz xs => if isData y = true ∧ isDatas xs = true ∧ dep y ≤ 64 ∧ dep (.lst xs) ≤ 64 then (fIx y xs).map fun j => (.own, .int (j : Nat)) else none
    | _ => none
  | _ => none
theorem fIx_spec (y : PV) : ∀ (xs : List PV) (j : Nat), fIx y xs = some j → (∃ z, (toDs xs)[j]? = some z ∧ PyData.eqv z (toD y) = true) ∧ ∀ (m : Nat) (z : PyData), m < j → (toDs xs)[m]? = some z → PyData.eqv z (toD y) = false
  | [], j, h => nomatch h
  | x :: xs, j, h => by
    unfold fIx at h
    split at h
    · rename_i hx
      cases h
      exact ⟨⟨toD x, rfl, by rw [eqv_toD]; exact hx⟩, fun m z hm => absurd hm (Nat.not_lt_zero _)⟩
    · rename_i hx
      cases e : fIx y xs with
      | none => rw [e] at h; cases h
      | some i =>
        rw [e] at h
        cases h
        obtain ⟨⟨z, h1, h2⟩, h3⟩ := fIx_spec y xs i e
        refine ⟨⟨z, h1, h2⟩, fun m z hm hz => ?_⟩
        cases m with
        | zero =>
          simp only [toDs, List.getElem?_cons_zero, Option.some.injEq] at hz
          rw [← hz, eqv_toD]
          simpa using hx
        | succ m => exact h3 m z (by have : m + 1 < i + 1 := hm; omega) hz
theorem ms_lix {X : Cx} (hu : X.A.units + 70 < cLine) : MtS' X "list.index" gLIx := MtS'.of (mt_indexD (by omega)) fun H x xs Q tx t ts k fx fp r1 r2 e q => by
  have key : ∀ (ys : List PV) (y : PV) (a : Addr) (vs : List V) (g : List Addr), isData y = true → isDatas ys = true → dep y ≤ 64 → dep (.lst ys) ≤ 64 → SqL X.K H a vs → Reps X.K X.prog X.w H ys vs g → ts = [y] → x = .ref a →
      (fIx y ys).map (fun j => ((Kd.own, PV.int (j : Nat)) : Kd × PV)) = some (k, t) → rIndexD X.K x xs H Q := by
    intro ys y a vs g h1 h2 h3 h4 hs rs et ex ej
    subst et ex
    cases ef : fIx y ys with
    | none => rw [ef] at ej; cases ej
    | some j =>
      rw [ef] at ej
      cases ej
      simp only [Reps] at r2
      obtain ⟨v, us, f, g', rfl, rv, hus, _⟩ := r2
      rw [hus.1]
      obtain ⟨d1, l1⟩ := rep_dp y v f h1 rv
      obtain ⟨d2, l2⟩ := reps_dp ys vs g h2 rs
      obtain ⟨⟨z, z1, z2⟩, z3⟩ := fIx_spec y ys j ef
      refine ⟨a, v, toD y, toDs ys, j, z, rfl, rfl, .lst hs d2, d1, ?_, ?_, z1, z2, z3, q _ H .refl fun _ => repK_int⟩
      · unfold SeqAt.shaped
        have : (PyData.list (toDs ys)).depth ≤ 64 := by
          have := dep_toD (.lst ys)
          simp only [toD] at this
          omega
        simp only [this, decide_true, Bool.and_true]
        simpa [PyData.canLay0] using l2
      · unfold SeqAt.shaped
        rw [l1, dep_toD]
        simp [h3]
  unfold gLIx at e
  split at e
  · rename_i y
    split at e
    · rename_i ys
      split at e
      · rename_i h
        simp only [Rep] at r1
        obtain ⟨a, vs, f, ex, hl, rs, _⟩ := r1
        exact key ys y a vs f h.1 h.2.1 h.2.2.1 h.2.2.2 (SqL.of hl) rs rfl ex e
      · cases e
    · rename_i ys
      split at e
      · rename_i h
        simp only [Rep] at r1
        obtain ⟨_, a, vs, ex, hl, rs⟩ := r1
        exact key ys y a vs [] h.1 h.2.1 h.2.2.1 h.2.2.2 hl.sq rs rfl ex e
      · cases e
    · cases e
  · cases e
@[simp] def gIx : PV → PV → Option (Kd × PV) := fun x y => match x with
  | .str a => match y with | .str b => gSIx a b | _ => none
  | _ => gLIx x [y]
def eIx (a b : PX) : PX := fun τ => (a τ).bind fun x => (b τ).bind fun y => gIx x.2 y.2
theorem snd_ix {C : Cn} {o e : Expr} {fa fb : PX} {apos cpos : Pos} (ho : SndP C o fa) (ha : SndP C e fb)
    (hbase : ∀ env, attributeBase o "index" env (eval o env) = eval o env := by exact fun _ => rfl)
    (hfew : ∀ env, ((backTo cpos (starEach [e] env)).all (fun x => !x.1) && (backToKw cpos (keywordEach [] env)).all (fun x => x.1.isSome)
      && decide ([e].length + ([] : List Keyword).length + (if ([] : List Keyword).isEmpty then 0 else 1) < 30)) = true := by exact fun _ => rfl)
    (hline : (apos.endLine == cpos.line) = true := by rfl) (hs : ∀ env, starEach [e] env = (false, eval e env) :: starEach [] env := by exact fun _ => rfl) (hplain : ∀ env, (backTo cpos (starEach [] env)).any (·.1) = false := by exact fun _ => rfl) :
    SndP C (.Call (.Attribute o "index" apos) [e] [] cpos) (eIx fa fb) := fun X G =>
  PE.weak (PE.or (snd_bm PySem.F.plainAttrs_str PySem.F.slot_str_index PySem.F.type_str_index (fun _ _ => ms_six) ho (sna_cons ha sna_nil hs) hbase hfew hline hs hplain X G)
    (snd_bm PySem.F.plainAttrs_list PySem.F.slot_list_index PySem.F.type_list_index (fun X G => ms_lix G.un) ho (sna_cons ha sna_nil hs) hbase hfew hline hs hplain X G)) fun σ H Q q => by
    obtain ⟨τ, O, S, k, t, e, q⟩ := q
    unfold eIx at e
    cases ea : fa τ with
    | none => rw [ea] at e; cases e
    | some x =>
      rw [ea] at e
      simp only [Option.bind_some] at e
      cases eb : fb τ with
      | none => rw [eb] at e; cases e
      | some y =>
        rw [eb] at e
        simp only [Option.bind_some] at e
        obtain ⟨kx, tx⟩ := x
        obtain ⟨ky, ty⟩ := y
        cases tx with
        | str a =>
          refine .inl ⟨τ, O, S, k, t, ?_, q⟩
          cases ty <;> simp only [gIx, reduceCtorEq] at e
          unfold eBM
          simp only [ea, evs, eb, Option.bind_some, rcT, if_true, List.map_cons, List.map_nil, gS1, isS]
          exact e
        | lst xs =>
          refine .inr ⟨τ, O, S, k, t, ?_, q⟩
          unfold eBM
          simp only [ea, evs, eb, Option.bind_some, rcT, if_true, List.map_cons, List.map_nil]
          exact e
        | fz xs =>
          refine .inr ⟨τ, O, S, k, t, ?_, q⟩
          unfold eBM
          simp only [ea, evs, eb, Option.bind_some, rcT, if_true, List.map_cons, List.map_nil]
          exact e
        | _ => simp only [gIx, gLIx, reduceCtorEq] at e

/-! ### ranges that go down, things from their end -/
/-- lo, lo + c, .. -/
def rgC (lo c : Int) (n : Nat) : List PV := (List.range n).map fun i => .int (lo + (i : Nat) * c)
theorem rgC_get {lo c : Int} {n i : Nat} {t : PV} (h : (rgC lo c n)[i]? = some t) : i < n ∧ t = .int (lo + (i : Nat) * c) := by
  unfold rgC at h
  rw [List.getElem?_map] at h
  cases e : (List.range n)[i]? with
  | none => rw [e] at h; cases h
  | some j =>
    rw [e] at h
    cases h
    obtain ⟨hl, hj⟩ := List.getElem?_eq_some_iff.mp e
    rw [List.getElem_range] at hj
    subst hj
    exact ⟨by simpa using hl, rfl⟩
@[simp] theorem rgC_length {lo c : Int} {n : Nat} : (rgC lo c n).length = n := by simp [rgC]
theorem src_rgC {K : PySem.W.Frag} {P : Program} {w : World} {O : Nat → List Addr} {H : Hp} (lo c : Int) (n : Nat) : SrcP K P w O H (Itc lo c n) .shr (rgC lo c n) := by
  refine ⟨fun _ => False, fun _ _ z => z.elim, fun _ z => z.elim, fun H2 _ => ⟨fun i hi => ?_, ?_, fun i x H3 t ht hy => ?_⟩⟩
  · show i < n
    simpa using hi
  · show n ≤ (rgC lo c n).length
    simp
  · obtain ⟨e1, e2⟩ := hy
    subst e1
    obtain ⟨_, rfl⟩ := rgC_get ht
    exact ⟨.refl, [], by rw [e2]; exact rep_int, fun _ z => nomatch z⟩
def iRevR1 (a : PX) : IX := fun τ => (a τ).bind fun x => (isI x.2).bind fun j => if bd62 j then some (.shr, rgC (((j.toNat : Nat) : Int) - 1) (-1) j.toNat) else none
theorem sni_revR1 {C : Cn} {tg a : Expr} {f : PX} {p p2 pos pos2 : Pos} (hg : glB C.sc "range" = true) (hg2 : glB C.sc "reversed" = true) (h : SndP C a f) (he : ∀ env, starEach [a] env = (false, eval a env) :: starEach [] env := by exact fun _ => rfl)
    (he2 : ∀ env, starEach [.Call (.Name "range" p) [a] [] pos] env = (false, eval (.Call (.Name "range" p) [a] [] pos) env) :: starEach [] env := by exact fun _ => rfl) :
    SndI C tg (.Call (.Name "reversed" p2) [.Call (.Name "range" p) [a] [] pos] [] pos2) (iRevR1 f) := fun X G =>
  PI.weak (pi_revR (gl_of G hg2) (G.blt _ (by decide +kernel)) (prg_1 (gl_of G hg) (G.blt _ (by decide +kernel)) (h X G) (he X.env)) (he2 X.env)) fun σ H R q => by
    obtain ⟨τ, O, S, k, ts, e, q⟩ := q
    unfold iRevR1 at e
    cases ef : f τ with
    | none => rw [ef] at e; cases e
    | some r =>
      rw [ef] at e
      simp only [Option.bind_some] at e
      cases ei : isI r.2 with
      | none => rw [ei] at e; cases e
      | some j =>
        rw [ei] at e
        simp only [Option.bind_some] at e
        split at e
        · rename_i hb
          simp only [bd62, Bool.and_eq_true, decide_eq_true_eq] at hb
          cases e
          refine gP.mono S ef fun v H1 x1 S1 r1 => ?_
          obtain ⟨fp, r1⟩ := r1.any
          refine ⟨j, isI_rep ei r1, by omega, by omega, hb.1, hb.2, ?_⟩
          have e1 : (j - 0).toNat = j.toNat := by omega
          rw [e1, Int.zero_add]
          exact q _ H1 x1 (src_rgC _ _ _)
        · cases e
/-- range(a, b, -1) -/
def iRg3d (a b : PX) : IX := fun τ => (a τ).bind fun x => (b τ).bind fun y => (isI x.2).bind fun i => (isI y.2).bind fun j => if bd62 i && bd62 j then some (.shr, rgC i (-1) (i - j).toNat) else none
theorem sni_rg3d {C : Cn} {tg a b : Expr} {f g : PX} {k : Nat} {p p1 p2 pos : Pos} (hg : glB C.sc "range" = true) (h : SndP C a f) (h' : SndP C b g)
    (he : ∀ env, starEach [a, b, .UnaryOp .USub (.Constant (.int 1) k p1) p2] env = (false, eval a env) :: starEach [b, .UnaryOp .USub (.Constant (.int 1) k p1) p2] env := by exact fun _ => rfl)
    (he' : ∀ env, starEach [b, .UnaryOp .USub (.Constant (.int 1) k p1) p2] env = (false, eval b env) :: starEach [.UnaryOp .USub (.Constant (.int 1) k p1) p2] env := by exact fun _ => rfl)
    (he3 : ∀ env, starEach [.UnaryOp .USub (.Constant (.int 1) k p1) p2] env = (false, eval (.UnaryOp .USub (.Constant (.int 1) k p1) p2) env) :: starEach [] env := by exact fun _ => rfl)
    (hpl : ∀ env, (backTo pos (starEach [b, .UnaryOp .USub (.Constant (.int 1) k p1) p2] env)).any (·.1) = false := by exact fun _ => rfl) :
    SndI C tg (.Call (.Name "range" p) [a, b, .UnaryOp .USub (.Constant (.int 1) k p1) p2] [] pos) (iRg3d f g) := fun X G =>
  PI.weak (pi_range3 (gl_of G hg) (G.blt _ (by decide +kernel)) (pa_cons (h X G) (pa_cons (h' X G) (pa_cons (pe_un un_neg pe_int) pa_nil (he3 X.env)) (he' X.env)) (he X.env)) (he X.env) (hpl X.env)) fun σ H R q => by
    obtain ⟨τ, O, S, k, ts, e, q⟩ := q
    unfold iRg3d at e
    cases ef : f τ with
    | none => rw [ef] at e; cases e
    | some r =>
      cases eg : g τ with
      | none => rw [ef, eg] at e; cases e
      | some r' =>
        rw [ef, eg] at e
        simp only [Option.bind_some] at e
        cases ei : isI r.2 with
        | none => rw [ei] at e; cases e
        | some i =>
          cases ej : isI r'.2 with
          | none => rw [ei, ej] at e; cases e
          | some j =>
            rw [ei, ej] at e
            simp only [Option.bind_some] at e
            split at e
            · rename_i hb
              simp only [bd62, Bool.and_eq_true, decide_eq_true_eq] at hb
              cases e
              refine gP.mono S ef fun v H1 x1 S1 r1 => gP.mono S1 eg fun v2 H2 x2 S2 r2 => ?_
              obtain ⟨fp, r1⟩ := r1.any
              obtain ⟨fp2, r2⟩ := r2.any
              refine ⟨1, rfl, i, j, -1, (i - j).toNat, ?_, RgC.neg hb.1.1 hb.1.2 hb.2.1 hb.2.2, q _ H2 (x1.trans x2) (src_rgC _ _ _)⟩
              rw [isI_rep ei r1, isI_rep ej r2]
            · cases e
end Pv
namespace Pv
open PySem PySem.Spec L2

/-! ### x.pop(k), x.pop() -/
theorem Reps.erase {K : PySem.W.Frag} {P : Program} {w : World} {H : Hp} : ∀ {xs : List PV} {vs : List V} {fp : List Addr} {n : Nat} {t : PV}, Reps K P w H xs vs fp → xs[n]? = some t →
    ∃ v f g, vs[n]? = some v ∧ Rep K P w H t v f ∧ Reps K P w H (xs.eraseIdx n) (vs.eraseIdx n) g ∧ (fp.Nodup → f.Nodup ∧ g.Nodup ∧ ∀ a ∈ f, a ∉ g) ∧ ∀ a, a ∈ fp ↔ a ∈ f ∨ a ∈ g
  | [], vs, fp, n, t, _, h => by simp at h
  | x :: xs, vs, fp, 0, t, r, h => by
    simp only [Reps] at r
    obtain ⟨v, us, f, g, rfl, rv, rus, rfl⟩ := r
    simp only [List.getElem?_cons_zero, Option.some.injEq] at h
    subst h
    refine ⟨v, f, g, rfl, rv, rus, fun n => ?_, fun a => List.mem_append⟩
    obtain ⟨n1, n2, n3⟩ := List.nodup_append.mp n
    exact ⟨n1, n2, fun a ha hb => n3 a ha a hb rfl⟩
  | x :: xs, vs, fp, n + 1, t, r, h => by
    simp only [Reps] at r
    obtain ⟨v, us, f, g, rfl, rv, rus, rfl⟩ := r
    simp only [List.getElem?_cons_succ] at h
    obtain ⟨v', f', g', e1, r1, r2, n1, m1⟩ := Reps.erase rus h
    refine ⟨v', f', f ++ g', by simpa using e1, r1, by simpa using Reps.cons rv r2, fun n => ?_, fun a => ?_⟩
    · obtain ⟨a1, a2, a3⟩ := List.nodup_append.mp n
      obtain ⟨b1, b2, b3⟩ := n1 a2
      refine ⟨b1, List.nodup_append.mpr ⟨a1, b2, fun a ha b hb e => a3 a ha b ((m1 b).mpr (.inr hb)) e⟩, fun a ha hb => ?_⟩
      rcases List.mem_append.mp hb with z | z
      · exact a3 a z a ((m1 a).mpr (.inl ha)) rfl
      · exact b3 a ha z
    · rw [List.mem_append, List.mem_append, m1 a]
      constructor
      · rintro (z | z | z)
        · exact .inr (.inl z)
        · exact .inl z
        · exact .inr (.inr z)
      · rintro (z | z | z)
        · exact .inr (.inl z)
        · exact .inl z
        · exact .inr (.inr z)
@[simp] def mPop (i : Nat) (f : MX) : MX := fun τ => match owT τ i with
  | some (.lst _) => (f τ).bind fun r => match owT r.2.2 i, isI r.2.1 with
    | some (.lst xs), some j => (ixN xs.length j).bind fun n => (xs[n]?).bind fun t => if bd62 j = true then some (.own, t, setT r.2.2 i (.lst (xs.eraseIdx n))) else none
    | _, _ => none
  | _ => none
@[simp] def mPop0 (i : Nat) : MX := fun τ => match owT τ i with
  | some (.lst xs) => (xs[xs.length - 1]?).map fun t => (.own, t, setT τ i (.lst (xs.eraseIdx (xs.length - 1))))
  | _ => none
theorem pop_end {K : PySem.W.Frag} {P : Program} {w : World} {τ τ0 : En} {σ : St} {H H0 : Hp} {O O0 : Nat → List Addr} {i n : Nat} {xs : List PV} {t : PV} {a : Addr} {vs : List V} {f : List Addr} (S0 : StR K P w τ0 σ H0 O0) (s : Step H0 O0 H O) (S : StR K P w τ σ H O) (l : Lk τ0 τ) (ht : owT τ i = some (.lst xs))
    (hv : σ[i]? = some (some (.ref a))) (ha : H a = some (.lst vs)) (hO : O i = a :: f) (r : Reps K P w H xs vs f) (hn : xs[n]? = some t) :
    ∃ v g, vs[n]? = some v ∧ StR K P w (setT τ i (.lst (xs.eraseIdx n))) σ (upd H a (.lst (vs.eraseIdx n))) (upO O i (a :: g)) ∧ Step H0 O0 (upd H a (.lst (vs.eraseIdx n))) (upO O i (a :: g)) ∧ Lk τ0 (setT τ i (.lst (xs.eraseIdx n))) ∧
      RepM K P w H0 O0 (upd H a (.lst (vs.eraseIdx n))) (upO O i (a :: g)) .own t v := by
  have nO := S.nod i
  rw [hO] at nO
  obtain ⟨na, nf⟩ := List.nodup_cons.mp nO
  obtain ⟨v, ft, g, e1, r1, r2, n1, m1⟩ := Reps.erase r hn
  obtain ⟨b1, b2, b3⟩ := n1 nf
  obtain ⟨S2, s2, l2⟩ := inplL S0 s S l ht hv ha hO r2 b2 (fun z => na ((m1 a).mpr (.inr z))) fun b hb => .inl ((m1 b).mpr (.inr hb))
  have F : Fr (fun b => b = a) H (upd H a (.lst (vs.eraseIdx n))) := fun b o e n => by rw [upd_ne n]; exact e
  have mF : ∀ b, b = a → Mut (H b) := fun b e => by rw [e, ha]; trivial
  have nt : ∀ b ∈ ft, b ≠ a := fun b hb z => na ((m1 a).mpr (.inl (by rw [← z]; exact hb)))
  have rt := Rep.fr mF F _ _ _ r1 nt
  refine ⟨v, g, e1, S2, s2, l2, ft, rt, b1, fun b hb => ⟨rep_mut _ _ _ rt b hb, ?_, ?_⟩⟩
  · rintro ⟨j, z⟩
    by_cases e : j = i
    · subst e
      rw [upO_same] at z
      rcases List.mem_cons.mp z with z | z
      · exact nt b hb z
      · exact b3 b hb z
    · rw [upO_ne e] at z
      exact e (S.dis j i b z (by rw [hO]; exact List.mem_cons_of_mem _ ((m1 b).mpr (.inl hb))))
  · exact s.nw b ⟨i, by rw [hO]; exact List.mem_cons_of_mem _ ((m1 b).mpr (.inl hb))⟩
theorem snm_pop {C : Cn} (i : Nat) {x : Str} {e : Expr} {f : MX} {p ap cp : Pos} (hN : C.N[i]? = some x) (hv : visB C.sc x = true) (h : SndM C e f) (hd : (x == ("__debug__" : Str)) = false := by decide) (hcd : (x == ("__classdict__" : Str)) = false := by decide)
    (hbase : ∀ env, attributeBase (.Name x p) "pop" env (eval (.Name x p) env) = eval (.Name x p) env := by exact fun _ => rfl)
    (hfew : ∀ env, ((backTo cp (starEach [e] env)).all (fun x => !x.1) && (backToKw cp (keywordEach [] env)).all (fun x => x.1.isSome)
      && decide ([e].length + ([] : List Keyword).length + (if ([] : List Keyword).isEmpty then 0 else 1) < 30)) = true := by exact fun _ => rfl)
    (hline : (ap.endLine == cp.line) = true := by rfl) (hs : ∀ env, starEach [e] env = (false, eval e env) :: starEach [] env := by exact fun _ => rfl) (hplain : ∀ env, (backTo cp (starEach [] env)).any (·.1) = false := by exact fun _ => rfl) :
    SndM C (.Call (.Attribute (.Name x p) "pop" ap) [e] [] cp) (mPop i f) := fun X G =>
  PE.weak (pe_bm PySem.F.plainAttrs_list PySem.F.slot_list_pop PySem.F.type_list_pop mt_popAt (pe_var (i := i) (by rw [G.N]; exact hN) (by rw [G.sc]; exact vis_of hv) hd hcd) (pa_cons (h X G) pa_nil (hs X.env)) (hbase X.env) (hfew X.env) hline (hs X.env) (hplain X.env)) fun σ H Q q => by
    obtain ⟨τ, O, S, k, t, τ', e, q⟩ := q
    unfold mPop at e
    split at e
    case h_2 => cases e
    rename_i xs0 h0
    cases ef : f τ with
    | none => rw [ef] at e; cases e
    | some r =>
      rw [ef] at e
      simp only [Option.bind_some] at e
      split at e
      case h_2 => cases e
      rename_i xs j ht hj
      cases ei : ixN xs.length j with
      | none => rw [ei] at e; cases e
      | some n =>
        rw [ei] at e
        simp only [Option.bind_some] at e
        cases en : xs[n]? with
        | none => rw [en] at e; cases e
        | some u =>
          rw [en] at e
          simp only [Option.bind_some] at e
          split at e
          case isFalse => cases e
          rename_i hb
          simp only [bd62, Bool.and_eq_true, decide_eq_true_eq] at hb
          cases e
          obtain ⟨v0, hσ0, r0⟩ := owT_rep S h0
          have r0' := r0
          simp only [Rep] at r0'
          obtain ⟨a0, vs0, f0, rfl, hl0, _⟩ := r0'
          refine ⟨.ref a0, hσ0, .inl ⟨rfl, vs0, SqL.of hl0⟩, gM.mono S ef fun y H1 O1 s1 S1 l1 r1 => ?_⟩
          obtain ⟨v1, hσ1, rx⟩ := owT_rep S1 ht
          rw [hσ0] at hσ1
          cases hσ1
          simp only [Rep] at rx
          obtain ⟨a, vs, g, ea, hl, rs, eO⟩ := rx
          cases ea
          obtain ⟨fy, ry, _⟩ := r1.any
          obtain ⟨v, g', ev, S2, s2, l2, rr⟩ := pop_end S s1 S1 l1 ht hσ0 hl eO rs en
          refine ⟨a0, vs, j, n, v, rfl, by rw [isI_rep hj ry], hl, by omega, by omega, ?_, ev, q v _ _ s2 S2 l2 rr⟩
          rw [rs.length]
          exact (ixN_seq ei).1
theorem snm_pop0 {C : Cn} (i : Nat) {x : Str} {p ap cp : Pos} (hN : C.N[i]? = some x) (hv : visB C.sc x = true) (hd : (x == ("__debug__" : Str)) = false := by decide) (hcd : (x == ("__classdict__" : Str)) = false := by decide)
    (hbase : ∀ env, attributeBase (.Name x p) "pop" env (eval (.Name x p) env) = eval (.Name x p) env := by exact fun _ => rfl) (hline : (ap.endLine == cp.line) = true := by rfl) :
    SndM C (.Call (.Attribute (.Name x p) "pop" ap) [] [] cp) (mPop0 i) := fun X G =>
  PE.weak (pe_bm0 PySem.F.plainAttrs_list PySem.F.slot_list_pop PySem.F.type_list_pop mt_pop (pe_var (i := i) (by rw [G.N]; exact hN) (by rw [G.sc]; exact vis_of hv) hd hcd) (hbase X.env) hline) fun σ H Q q => by
    obtain ⟨τ, O, S, k, t, τ', e, q⟩ := q
    unfold mPop0 at e
    split at e
    case h_2 => cases e
    rename_i xs ht
    cases en : xs[xs.length - 1]? with
    | none => rw [en] at e; cases e
    | some u =>
      rw [en] at e
      cases e
      obtain ⟨v1, hσ1, rx⟩ := owT_rep S ht
      simp only [Rep] at rx
      obtain ⟨a, vs, g, rfl, hl, rs, eO⟩ := rx
      refine ⟨.ref a, hσ1, .inl ⟨rfl, vs, SqL.of hl⟩, ?_⟩
      obtain ⟨v, g', ev, S2, s2, l2, rr⟩ := pop_end S .refl S .refl ht hσ1 hl eO rs en
      have el : vs.eraseIdx (xs.length - 1) = vs.dropLast := by rw [← rs.length]; exact PyProof.Rows.Copied.eraseIdx_last _
      rw [el] at S2 s2 rr
      exact ⟨a, vs, v, rfl, rfl, hl, by rw [rs.length]; exact ev, q v _ _ s2 S2 l2 rr⟩
/-- x, y = constants -/
theorem swC {ts vs : List Expr} {kt k2 : Nat} {pt p2 : Pos} (hf : vs.all (foldedForSure 8) = true) : ∀ env : Env, swappedStores [.Tuple ts kt pt] (.Tuple vs k2 p2) env = pure none := fun env => by
  have h1 : ∀ (c : Bool) (x : Sem (Option (List Str))), x = pure none → (if c = true then pure none else x) = pure none := fun c x h => by rw [h]; split <;> rfl
  have h2 : ∀ (c : Bool) (x : Sem (Option (List Str))), c = true → (if c = true then pure none else x) = pure none := fun c x h => by rw [if_pos h]
  unfold swappedStores
  exact h1 _ _ (h1 _ _ (h1 _ _ (h2 _ _ hf)))
end Pv
namespace Pv
open PySem PySem.Spec L2 PyProof.Rows

/-! ### list(text), min and max of texts -/
theorem cr_listS {X : Cx} (hc : X.calm = true) : CallR X (.type "list") (fun vs H Q => ∃ s : Tx, vs = [.str (mkS s)] ∧ s.length ≤ sizeLine ∧ ∀ p, H p = none → Q (.ref p) (upd H p (.lst (s.map fun c => V.str (mkS [c]))))) := by
  intro pins s σ H xs us Q I r h
  obtain ⟨z, e, hz, q⟩ := h
  subst e
  obtain ⟨u, eu, rx⟩ := vals1 r
  subst eu
  obtain ⟨t, rfl⟩ : ∃ t, u = Value.str (mkS z) t := rx
  refine call_list_str (I.ok.hd hc) (mkS z) t (fun h' tk acc' c' hkeep hS hacc => ?_) (by simpa [mkS] using hz)
  refine ⟨.ref s.heap.objs.size, upd H s.heap.objs.size (.lst (z.map fun c => V.str (mkS [c]))), I.laid hkeep (Nat.le_refl _) (show ObjOk X.prog X.w _ _ _ (.lst (z.map fun c => V.str (mkS [c]))) from ⟨?_, acc'.toList, c', ?_, ?_⟩), rfl, q _ (I.hok.fresh (Nat.le_refl _))⟩
  · rw [List.length_map]; exact hz
  · have el : acc'.toList.length = acc'.size := by simp
    refine vals_of_at (by rw [List.length_map, el, hacc.1]; simp [mkS]) fun j x w h1 h2 => ?_
    obtain ⟨c, u, hcx, rfl⟩ := hacc.2 j w (by rw [← Array.getElem?_toList]; exact h2)
    rw [List.getElem?_map] at h1
    have hc' : z[j]? = some c := by unfold mkS at hcx; simpa using hcx
    rw [hc'] at h1
    cases h1
    exact ⟨u, rfl⟩
  · rw [Array.toArray_toList]; exact hS
def gListA : PV → Option (Kd × PV) := fun x => match x with
  | .str s => some (.own, .lst (s.map fun c => .str [c]))
  | x => gList1 x
@[simp] theorem gListA_str {s : Tx} : gListA (.str s) = some (.own, .lst (s.map fun c => .str [c])) := rfl
@[simp] theorem gListA_lst {xs : List PV} : gListA (.lst xs) = some (if imms xs then .own else .view, .lst xs) := rfl
@[simp] theorem gListA_tup {xs : List PV} : gListA (.tup xs) = some (if imms xs then .own else .view, .lst xs) := rfl
theorem reps_letters {K : PySem.W.Frag} {P : Program} {w : World} {H : Hp} : ∀ {s : Tx}, okT s → Reps K P w H (s.map fun c => .str [c]) (s.map fun c => V.str (mkS [c])) []
  | [], _ => by simp [Reps]
  | c :: s, h => by
    have h1 : okT [c] := ⟨by have := h.1; simp only [List.length_cons] at this; show 1 ≤ sizeLine; omega, fun d hd => h.2 d (by simp at hd; rw [hd]; exact List.mem_cons_self)⟩
    have h2 : okT s := ⟨by have := h.1; simp only [List.length_cons] at this; omega, fun d hd => h.2 d (List.mem_cons_of_mem _ hd)⟩
    exact Reps.cons (f := []) (g := []) (rep_str h1) (reps_letters h2)
theorem cs_listA {X : Cx} (hc : X.calm = true) : CallS X (.type "list") (g1 gListA) := by
  intro pins s σ H xs us Q ts t k fp I rx r e q
  by_cases hs : ∃ z, ts = [.str z]
  · obtain ⟨z, rfl⟩ := hs
    simp only [g1, gListA_str, Option.some.injEq, Prod.mk.injEq] at e
    obtain ⟨rfl, rfl⟩ := e
    simp only [Reps] at r
    obtain ⟨v, vr, f1, h1, rfl, r, ⟨rfl, rfl⟩, rfl⟩ := r
    simp only [Rep] at r
    obtain ⟨rfl, ok, _⟩ := r
    refine cr_listS hc pins s σ H _ us Q I rx ⟨z, rfl, ok.1, fun p hp => q _ _ (Ex.upd hp) fun O => ?_⟩
    have rp : Rep X.K X.prog X.w (upd H p (.lst (z.map fun c => V.str (mkS [c])))) (.lst (z.map fun c => .str [c])) (.ref p) [p] := by
      simp only [Rep]
      exact ⟨p, _, [], rfl, upd_same, reps_letters ok, rfl⟩
    exact ⟨[p], rp, by simp, fun b hb => by simp at hb; subst hb; exact ⟨by rw [upd_same]; trivial, hp⟩⟩
  · refine cs_list pins s σ H xs us Q ts t k fp I rx r ?_ q
    unfold g1 at e ⊢
    split at e
    · rename_i x
      cases x <;> first | exact e | exact absurd ⟨_, rfl⟩ hs
    · cases e
def minT (s : Tx) (ss : List Tx) : Tx := ss.foldl (fun a y => if y < a then y else a) s
def maxT (s : Tx) (ss : List Tx) : Tx := ss.foldl (fun a y => if a < y then y else a) s
def gMinA : PV → Option (Kd × PV) := fun x => match (lstOf x).bind allS with
  | some (s :: ss) => some (.own, .str (minT s ss))
  | _ => gMin1 x
def gMaxA : PV → Option (Kd × PV) := fun x => match (lstOf x).bind allS with
  | some (s :: ss) => some (.own, .str (maxT s ss))
  | _ => gMax1 x
theorem toDs_str : ∀ ss : List Tx, toDs (ss.map PV.str) = ss.map fun s => PyData.str (mkS s)
  | [] => rfl
  | s :: ss => by simp [toDs, toD, toDs_str ss]
theorem minD_strs (s : Tx) : ∀ ss : List Tx, PySem.W.minD (.str (mkS s)) (ss.map fun s => PyData.str (mkS s)) = .str (mkS (minT s ss)) := by
  intro ss
  unfold PySem.W.minD minT
  induction ss generalizing s with
  | nil => rfl
  | cons u ss ih =>
    rw [List.map_cons, List.foldl_cons, List.foldl_cons]
    have : PySem.W.dataLt (.str (mkS u)) (.str (mkS s)) = decide (u < s) := by rw [PySem.W.dataLt_str, mkS_toList, mkS_toList]
    rw [this]
    by_cases h : u < s
    · rw [if_pos h, if_pos (by simpa using h)]; exact ih u
    · rw [if_neg h, if_neg (by simpa using h)]; exact ih s
theorem maxD_strs (s : Tx) : ∀ ss : List Tx, PySem.W.maxD (.str (mkS s)) (ss.map fun s => PyData.str (mkS s)) = .str (mkS (maxT s ss)) := by
  intro ss
  unfold PySem.W.maxD maxT
  induction ss generalizing s with
  | nil => rfl
  | cons u ss ih =>
    rw [List.map_cons, List.foldl_cons, List.foldl_cons]
    have : PySem.W.dataLt (.str (mkS s)) (.str (mkS u)) = decide (s < u) := by rw [PySem.W.dataLt_str, mkS_toList, mkS_toList]
    rw [this]
    by_cases h : s < u
    · rw [if_pos h, if_pos (by simpa using h)]; exact ih u
    · rw [if_neg h, if_neg (by simpa using h)]; exact ih s
theorem allS_eq : ∀ {xs : List PV} {ss : List Tx}, allS xs = some ss → xs = ss.map PV.str
  | [], ss, h => by simp only [allS, Option.some.injEq] at h; rw [← h]; rfl
  | x :: xs, ss, h => by
    simp only [allS] at h
    cases e : isS x with
    | none => rw [e] at h; cases h
    | some s =>
      rw [e] at h
      simp only [Option.bind_some] at h
      cases e2 : allS xs with
      | none => rw [e2] at h; cases h
      | some r =>
        rw [e2] at h; cases h
        rw [allS_eq e2]
        cases x <;> simp [isS] at e
        subst e; rfl
theorem strs_data {X : Cx} {H : Hp} {pins : List (Addr × Obj)} {σ : L2.St} {s : Shared} {ss : List Tx} {vs : List V} {f : List Addr} {its : List Value} (I : L2.Inv X pins σ H s) (rs : Reps X.K X.prog X.w H (ss.map PV.str) vs f) (rv : Vals vs its) :
    (∃ as, ReadsAll s.heap its.toArray.toList (ss.map fun s => PyData.str (mkS s)) as) ∧ PySem.W.AlikeAll (ss.map fun s => PyData.str (mkS s)) ∧ PyData.depthAll (ss.map fun s => PyData.str (mkS s)) = 0 := by
  have hd : isDatas (ss.map PV.str) = true := by
    clear rs
    induction ss with
    | nil => rfl
    | cons x xs ih => simp [isDatas, isData, ih]
  have h1 := (reps_dp _ _ _ hd rs).1
  rw [toDs_str] at h1
  refine ⟨?_, ⟨fun x hx y hy => ?_, fun x hx => ?_⟩, ?_⟩
  · obtain ⟨as, h⟩ := Dp.readsAll I _ _ _ h1 rv
    exact ⟨as, by simpa using h⟩
  · obtain ⟨a, _, rfl⟩ := List.mem_map.mp hx
    obtain ⟨b, _, rfl⟩ := List.mem_map.mp hy
    simp [PySem.W.alike]
  · obtain ⟨a, _, rfl⟩ := List.mem_map.mp hx
    simp
  · clear rs hd h1
    induction ss with
    | nil => rfl
    | cons x xs ih => simp [PyData.depthAll, PyData.depth, ih]
theorem cs_minA {X : Cx} (hc : X.calm = true) (hu : X.A.units + 70 < cLine) : CallS X (.builtin "min") (g1 gMinA) := by
  intro pins s σ H xs us Q ts t k fp I rx r e q
  unfold g1 at e
  split at e
  · rename_i tx
    unfold gMinA at e
    split at e
    · rename_i z zs hz
      cases e
      cases el : lstOf tx with
      | none => rw [el] at hz; cases hz
      | some l =>
        rw [el] at hz
        have hl := allS_eq (show allS l = some (z :: zs) from hz)
        simp only [Reps] at r
        obtain ⟨v, vr, f1, h1, rfl, r, ⟨rfl, rfl⟩, rfl⟩ := r
        obtain ⟨p, vs, f, rfl, rs, hq⟩ := lst_rep el r
        rw [hl] at rs
        have ok := (allS_rep (show allS l = some (z :: zs) from hz) (by rw [hl]; exact rs)).2
        obtain ⟨u, rfl, ru⟩ := Vals.one rx
        obtain rfl : u = Value.ref p := ru
        obtain ⟨its, rv, pl, hz'⟩ := I.list hq
        obtain ⟨⟨as, h1⟩, h2, h3⟩ := strs_data I rs rv
        refine PySem.W.min_list_data (I.ok.hd hc) pl.isList h1 h2 (by rw [show PyData.depthAll (PyData.str (mkS z) :: zs.map fun s => PyData.str (mkS s)) = 0 from h3]; omega) fun i v h' tk bs _ hr hk => ?_
        rw [minD_strs] at hr
        cases hr with
        | str x t' =>
          have hm : minT z zs ∈ z :: zs := by
            unfold minT
            have key : ∀ (l : List Tx) (a : Tx), l.foldl (fun a y => if y < a then y else a) a ∈ a :: l := fun l => by
              induction l with
              | nil => intro a; simp
              | cons y l ih =>
                intro a
                rw [List.foldl_cons]
                have := ih (if y < a then y else a)
                rcases List.mem_cons.mp this with e | e
                · rw [e]; split <;> simp
                · exact List.mem_cons_of_mem _ (List.mem_cons_of_mem _ e)
            exact key zs z
          exact ⟨.str (mkS (minT z zs)), H, I.kept hk, ⟨_, rfl⟩, q _ H .refl fun _ => repK_str (ok _ hm)⟩
    · exact cs_min1 hc pins s σ H xs us Q _ t k fp I rx r e q
  · cases e
theorem cs_maxA {X : Cx} (hc : X.calm = true) (hu : X.A.units + 70 < cLine) : CallS X (.builtin "max") (g1 gMaxA) := by
  intro pins s σ H xs us Q ts t k fp I rx r e q
  unfold g1 at e
  split at e
  · rename_i tx
    unfold gMaxA at e
    split at e
    · rename_i z zs hz
      cases e
      cases el : lstOf tx with
      | none => rw [el] at hz; cases hz
      | some l =>
        rw [el] at hz
        have hl := allS_eq (show allS l = some (z :: zs) from hz)
        simp only [Reps] at r
        obtain ⟨v, vr, f1, h1, rfl, r, ⟨rfl, rfl⟩, rfl⟩ := r
        obtain ⟨p, vs, f, rfl, rs, hq⟩ := lst_rep el r
        rw [hl] at rs
        have ok := (allS_rep (show allS l = some (z :: zs) from hz) (by rw [hl]; exact rs)).2
        obtain ⟨u, rfl, ru⟩ := Vals.one rx
        obtain rfl : u = Value.ref p := ru
        obtain ⟨its, rv, pl, hz'⟩ := I.list hq
        obtain ⟨⟨as, h1⟩, h2, h3⟩ := strs_data I rs rv
        refine PySem.W.max_list_data (I.ok.hd hc) pl.isList h1 h2 (by rw [show PyData.depthAll (PyData.str (mkS z) :: zs.map fun s => PyData.str (mkS s)) = 0 from h3]; omega) fun i v h' tk bs _ hr hk => ?_
        rw [maxD_strs] at hr
        cases hr with
        | str x t' =>
          have hm : maxT z zs ∈ z :: zs := by
            unfold maxT
            have key : ∀ (l : List Tx) (a : Tx), l.foldl (fun a y => if a < y then y else a) a ∈ a :: l := fun l => by
              induction l with
              | nil => intro a; simp
              | cons y l ih =>
                intro a
                rw [List.foldl_cons]
                have := ih (if a < y then y else a)
                rcases List.mem_cons.mp this with e | e
                · rw [e]; split <;> simp
                · exact List.mem_cons_of_mem _ (List.mem_cons_of_mem _ e)
            exact key zs z
          exact ⟨.str (mkS (maxT z zs)), H, I.kept hk, ⟨_, rfl⟩, q _ H .refl fun _ => repK_str (ok _ hm)⟩
    · exact cs_max1 hc pins s σ H xs us Q _ t k fp I rx r e q
  · cases e
end Pv
namespace Pv
open PySem PySem.Spec L2

/-! ### a list within a slot's list written in place -/
theorem Reps.split1 {K : PySem.W.Frag} {P : Program} {w : World} {H : Hp} : ∀ {xs : List PV} {vs : List V} {fp : List Addr} {n : Nat} {t : PV}, Reps K P w H xs vs fp → xs[n]? = some t →
    ∃ v f g1 g2, vs[n]? = some v ∧ Rep K P w H t v f ∧ fp = g1 ++ (f ++ g2) ∧ ∀ (H' : Hp) (O : Addr → Prop), (∀ a, O a → Mut (H a)) → Fr O H H' → (∀ a ∈ g1, ¬ O a) → (∀ a ∈ g2, ¬ O a) → ∀ t' f', Rep K P w H' t' v f' → Reps K P w H' (xs.set n t') vs (g1 ++ (f' ++ g2))
  | [], vs, fp, n, t, _, h => by simp at h
  | x :: xs, vs, fp, 0, t, r, h => by
    simp only [Reps] at r
    obtain ⟨v, us, f, g, rfl, rv, rus, rfl⟩ := r
    simp only [List.getElem?_cons_zero, Option.some.injEq] at h
    subst h
    refine ⟨v, f, [], g, rfl, rv, rfl, fun H' O hO F _ h2 t' f' r' => ?_⟩
    exact Reps.cons (f := f') (g := g) r' (Reps.fr hO F _ _ _ rus h2)
  | x :: xs, vs, fp, n + 1, t, r, h => by
    simp only [Reps] at r
    obtain ⟨v, us, f, g, rfl, rv, rus, rfl⟩ := r
    simp only [List.getElem?_cons_succ] at h
    obtain ⟨v', f', g1, g2, e1, r1, e2, k⟩ := Reps.split1 rus h
    refine ⟨v', f', f ++ g1, g2, by simpa using e1, r1, by rw [e2, List.append_assoc], fun H' O hO F h1 h2 t' f'' r' => ?_⟩
    have := Reps.cons (Rep.fr hO F _ _ _ rv fun a ha => h1 a (List.mem_append_left _ ha)) (k H' O hO F (fun a ha => h1 a (List.mem_append_right _ ha)) h2 t' f'' r')
    simpa using this
theorem nodup_mid {g1 f1 f1' g2 : List Addr} (h : (g1 ++ (f1 ++ g2)).Nodup) (h' : f1'.Nodup) (m : ∀ b ∈ f1', b ∈ f1 ∨ (b ∉ g1 ∧ b ∉ g2)) : (g1 ++ (f1' ++ g2)).Nodup := by
  obtain ⟨a1, a2, a3⟩ := List.nodup_append.mp h
  obtain ⟨b1, b2, b3⟩ := List.nodup_append.mp a2
  refine List.nodup_append.mpr ⟨a1, List.nodup_append.mpr ⟨h', b2, fun x hx y hy e => ?_⟩, fun x hx y hy e => ?_⟩
  · rcases m x hx with z | z
    · exact b3 x z y hy e
    · exact z.2 (by rw [e]; exact hy)
  · rcases List.mem_append.mp hy with z | z
    · rcases m y z with q | q
      · exact a3 x hx y (List.mem_append_left _ q) e
      · exact q.1 (by rw [← e]; exact hx)
    · exact a3 x hx y (List.mem_append_right _ z) e
section
variable {K : PySem.W.Frag} {P : Program} {w : World} {τ τ0 : En} {σ : St} {H H0 : Hp} {O O0 : Nat → List Addr}
theorem inplD {i n : Nat} {xs ys : List PV} {a : Addr} {vs : List V} {f : List Addr} (S0 : StR K P w τ0 σ H0 O0) (s : Step H0 O0 H O) (S : StR K P w τ σ H O) (l : Lk τ0 τ) (ht : owT τ i = some (.lst xs)) (hv : σ[i]? = some (some (.ref a))) (ha : H a = some (.lst vs)) (hO : O i = a :: f)
    (r : Reps K P w H xs vs f) (hn : xs[n]? = some (.lst ys)) :
    ∃ a' us fi, vs[n]? = some (.ref a') ∧ H a' = some (.lst us) ∧ Reps K P w H ys us fi ∧ fi.Nodup ∧ a' ∉ fi ∧ (∀ b ∈ a' :: fi, b ∈ O i) ∧
      ∀ ys' us' gi, Reps K P w H ys' us' gi → gi.Nodup → a' ∉ gi → (∀ b ∈ gi, b ∈ fi ∨ (¬ ow O b ∧ (ow O0 b ∨ H0 b = none))) →
        ∃ O', StR K P w (setT τ i (.lst (xs.set n (.lst ys')))) σ (upd H a' (.lst us')) O' ∧ Step H0 O0 (upd H a' (.lst us')) O' ∧ Lk τ0 (setT τ i (.lst (xs.set n (.lst ys')))) := by
  have nO := S.nod i
  rw [hO] at nO
  obtain ⟨na, nf⟩ := List.nodup_cons.mp nO
  obtain ⟨v, f1, g1, g2, e1, r1, ef, k⟩ := Reps.split1 r hn
  simp only [Rep] at r1
  obtain ⟨a', us, fi, rfl, ha', rys, rfl⟩ := r1
  subst ef
  obtain ⟨_, n2, _⟩ := List.nodup_append.mp nf
  obtain ⟨n3, _, n4⟩ := List.nodup_append.mp n2
  obtain ⟨n5, n6⟩ := List.nodup_cons.mp n3
  obtain ⟨_, _, d1⟩ := List.nodup_append.mp nf
  have ina : ∀ b ∈ a' :: fi, b ∈ O i := fun b hb => by
    rw [hO]; exact List.mem_cons_of_mem _ (List.mem_append_right _ (List.mem_append_left _ hb))
  refine ⟨a', us, fi, e1, ha', rys, n6, n5, ina, fun ys' us' gi ry ng nag m => ?_⟩
  have F : Fr (fun b => b = a') H (upd H a' (.lst us')) := fun b o e n => by rw [upd_ne n]; exact e
  have mF : ∀ b, b = a' → Mut (H b) := fun b e => by rw [e, ha']; trivial
  have rin : Rep K P w (upd H a' (.lst us')) (.lst ys') (.ref a') (a' :: gi) := by
    simp only [Rep]
    exact ⟨a', us', gi, rfl, upd_same, Reps.fr mF F _ _ _ ry fun b hb z => nag (by rw [← z]; exact hb), rfl⟩
  have hg1 : ∀ b ∈ g1, ¬ b = a' := fun b hb z => d1 b hb a' (List.mem_append_left _ List.mem_cons_self) z
  have hg2 : ∀ b ∈ g2, ¬ b = a' := fun b hb z => n4 a' List.mem_cons_self b hb z.symm
  have rall := k (upd H a' (.lst us')) (fun b => b = a') mF F hg1 hg2 (.lst ys') (a' :: gi) rin
  have haa : a ≠ a' := fun z => na (by rw [z]; exact List.mem_append_right _ (List.mem_append_left _ List.mem_cons_self))
  have mm : ∀ b ∈ a' :: gi, b ∈ a' :: fi ∨ (b ∉ g1 ∧ b ∉ g2) := fun b hb => by
    rcases List.mem_cons.mp hb with z | z
    · exact .inl (by rw [z]; exact List.mem_cons_self)
    · rcases m b z with q | q
      · exact .inl (List.mem_cons_of_mem _ q)
      · exact .inr ⟨fun h => q.1 ⟨i, by rw [hO]; exact List.mem_cons_of_mem _ (List.mem_append_left _ h)⟩, fun h => q.1 ⟨i, by rw [hO]; exact List.mem_cons_of_mem _ (List.mem_append_right _ (List.mem_append_right _ h))⟩⟩
  have nd := nodup_mid nf (List.nodup_cons.mpr ⟨nag, ng⟩) mm
  have hrep : Rep K P w (upd H a' (.lst us')) (.lst (xs.set n (.lst ys'))) (.ref a) (a :: (g1 ++ ((a' :: gi) ++ g2))) := by
    simp only [Rep]
    exact ⟨a, vs, _, rfl, by rw [upd_ne haa]; exact ha, rall, rfl⟩
  refine ⟨_, inpl S0 s S l ht hv hrep (List.nodup_cons.mpr ⟨fun z => ?_, nd⟩) (fun b hb => ?_) fun b o e n => by
    rw [upd_ne fun z => n (by rw [z]; exact ina a' List.mem_cons_self)]; exact e⟩
  · rcases List.mem_append.mp z with z | z
    · exact na (List.mem_append_left _ z)
    · rcases List.mem_append.mp z with z | z
      · rcases List.mem_cons.mp z with z | z
        · exact haa z
        · rcases m a z with q | q
          · exact na (List.mem_append_right _ (List.mem_append_left _ (List.mem_cons_of_mem _ q)))
          · exact q.1 ⟨i, by rw [hO]; exact List.mem_cons_self⟩
      · exact na (List.mem_append_right _ (List.mem_append_right _ z))
  · rw [hO]
    rcases List.mem_cons.mp hb with z | z
    · exact .inl (by rw [z]; exact List.mem_cons_self)
    · rcases List.mem_append.mp z with z | z
      · exact .inl (List.mem_cons_of_mem _ (List.mem_append_left _ z))
      · rcases List.mem_append.mp z with z | z
        · rcases List.mem_cons.mp z with z | z
          · exact .inl (by rw [z]; exact List.mem_cons_of_mem _ (List.mem_append_right _ (List.mem_append_left _ List.mem_cons_self)))
          · rcases m b z with q | q
            · exact .inl (List.mem_cons_of_mem _ (List.mem_append_right _ (List.mem_append_left _ (List.mem_cons_of_mem _ q))))
            · exact .inr q
        · exact .inl (List.mem_cons_of_mem _ (List.mem_append_right _ (List.mem_append_right _ z)))
end
theorem atI_ix {α : Type} {xs : List α} {j : Int} {n : Nat} {v : α} (h : ixN xs.length j = some n) (e : xs[n]? = some v) : L2.atI xs j = some v := by
  unfold L2.atI
  rw [h]; exact e
/-- x[k1][k2] = e, lists -/
@[simp] def sSet2 (i : Nat) (k1 k2 : PX) (f : MX) : SX := fun τ => (f τ).bind fun r => (k1 r.2.2).bind fun j1 => (k2 r.2.2).bind fun j2 => match r.1, owT r.2.2 i, isI j1.2, isI j2.2 with
  | .own, some (.lst xs), some a, some b => (ixN xs.length a).bind fun n => match xs[n]? with
    | some (.lst ys) => (ixN ys.length b).bind fun m => some (.nx, setT r.2.2 i (.lst (xs.set n (.lst (ys.set m r.2.1)))))
    | _ => none
  | _, _, _, _ => none
theorem sns_set2 {C : Cn} (i : Nat) {x : Str} {ke1 ke2 e : Expr} {k1 k2 : PX} {f : MX} {p sp1 sp pos : Pos} (hN : C.N[i]? = some x) (hv : visB C.sc x = true) (hk1 : SndP C ke1 k1) (hk2 : SndP C ke2 k2) (h : SndM C e f) (hd : (x == ("__debug__" : Str)) = false := by decide) (hcd : (x == ("__classdict__" : Str)) = false := by decide)
    (hpl : PlainIx ke1 := by exact fun _ _ => rfl)
    (ha : ∀ env v, assign (.Subscript (.Subscript (.Name x p) ke1 sp1) ke2 sp) env v = (do
      let ov ← holding [v] (eval (.Subscript (.Name x p) ke1 sp1) env)
      let iv ← holding [v, ov] (eval ke2 env)
      standAt sp
      holding [v, ov, iv] (setItem ov iv v)
      release [v, ov, iv] []) := by exact fun _ _ => rfl)
    (hs : ∀ env, swapsWithSole [.Subscript (.Subscript (.Name x p) ke1 sp1) ke2 sp] e pos.line env = pure false := by exact fun _ => rfl) (hw : ∀ env, swappedStores [.Subscript (.Subscript (.Name x p) ke1 sp1) ke2 sp] e env = pure none := by exact fun _ => rfl) :
    SndS C (.Assign [.Subscript (.Subscript (.Name x p) ke1 sp1) ke2 sp] e pos) (sSet2 i k1 k2 f) := fun X G =>
  PS.weak (ps_asg (h X G) (pg_sub (pe_ix ix_list (pe_var (i := i) (by rw [G.N]; exact hN) (by rw [G.sc]; exact vis_of hv) hd hcd) (hk1 X G) hpl) (hk2 X G) set_list (ha X.env)) (hs X.env) (hw X.env)) fun D σ H q => by
    obtain ⟨τ, O, S, o, τ', e, q⟩ := q
    unfold sSet2 at e
    cases ef : f τ with
    | none => rw [ef] at e; cases e
    | some r =>
      rw [ef] at e
      simp only [Option.bind_some] at e
      cases ek1 : k1 r.2.2 with
      | none => rw [ek1] at e; cases e
      | some j1 =>
        rw [ek1] at e
        simp only [Option.bind_some] at e
        cases ek2 : k2 r.2.2 with
        | none => rw [ek2] at e; cases e
        | some j2 =>
          rw [ek2] at e
          simp only [Option.bind_some] at e
          split at e
          case h_2 => cases e
          rename_i xs a1 b1 hk ht hj1 hj2
          cases ei : ixN xs.length a1 with
          | none => rw [ei] at e; cases e
          | some n =>
            rw [ei] at e
            simp only [Option.bind_some] at e
            split at e
            case h_2 => cases e
            rename_i ys hys
            cases ei2 : ixN ys.length b1 with
            | none => rw [ei2] at e; cases e
            | some m =>
              rw [ei2] at e; cases e
              refine gM.mono S ef fun y H1 O1 s1 S1 l1 r1 => ?_
              obtain ⟨v1, hσ1, rx⟩ := owT_rep S1 ht
              refine ⟨v1, hσ1, gP.mono S1 ek1 fun z1 H2 x2 S2 rz1 => ?_⟩
              obtain ⟨_, rz1⟩ := rz1.any
              obtain ⟨v2, hσ2, rx⟩ := owT_rep S2 ht
              rw [hσ1] at hσ2; cases hσ2
              simp only [Rep] at rx
              obtain ⟨a, vs, f', rfl, hl, rs, eO⟩ := rx
              have hvn : ∃ v', vs[n]? = some v' := by
                have := (ixN_seq ei).2.1
                rw [← rs.length] at this
                exact ⟨_, List.getElem?_eq_getElem this⟩
              obtain ⟨v', hv'⟩ := hvn
              refine ⟨a, vs, a1, v', rfl, isI_rep hj1 rz1, SqL.of hl, atI_ix (by rw [rs.length]; exact ei) hv', gP.mono S2 ek2 fun z2 H3 x3 S3 rz2 => ?_⟩
              obtain ⟨_, rz2⟩ := rz2.any
              obtain ⟨v3, hσ3, rx⟩ := owT_rep S3 ht
              rw [hσ1] at hσ3; cases hσ3
              simp only [Rep] at rx
              obtain ⟨a3, vs3, f3, ea3, hl3, rs3, eO3⟩ := rx
              cases ea3
              have : vs3 = vs := by
                have h1 := x3 a _ hl
                rw [hl3] at h1; cases h1; rfl
              subst this
              rw [hk] at r1
              obtain ⟨fy, ry, ny, oy⟩ := r1
              obtain ⟨a', us, fi, e1, ha', rys, nfi, nai, ina, kk⟩ := inplD S (s1.trans (.ex (x2.trans x3))) S3 l1 ht hσ1 hl3 eO3 rs3 hys
              rw [hv'] at e1; cases e1
              obtain ⟨g, rg, ng, mg⟩ := Reps.set (ry.ex (x2.trans x3)) m (ixN_lt ei2) rys nfi ny fun b hb z => (oy b z).2.1 ⟨i, ina b (List.mem_cons_of_mem _ hb)⟩
              obtain ⟨O', S4, s4, l4⟩ := kk (ys.set m r.2.1) (us.set m y) g rg ng (fun z => by
                rcases mg a' z with z | z
                · exact nai z
                · exact (oy _ z).2.1 ⟨i, ina a' List.mem_cons_self⟩) fun b hb => (mg b hb).imp id fun z => ⟨(oy b z).2.1, (oy b z).2.2⟩
              exact ⟨a', us, b1, m, rfl, isI_rep hj2 rz2, ha', by rw [rys.length]; exact ei2, q σ _ _ s4 S4 l4.io⟩
/-- x[k].append(e) -/
@[simp] def sApp2 (i : Nat) (k f : PX) : SX := fun τ => (k τ).bind fun j => (f τ).bind fun r => match r.1, owT τ i, isI j.2 with
  | .own, some (.lst xs), some a => (ixN xs.length a).bind fun n => match xs[n]? with
    | some (.lst ys) => if ys.length < 16777216 then some (.nx, setT τ i (.lst (xs.set n (.lst (ys ++ [r.2]))))) else none
    | _ => none
  | _, _, _ => none
theorem sns_app2 {C : Cn} (i : Nat) {x : Str} {ke e : Expr} {k f : PX} {p sp ap cp pos : Pos} (hN : C.N[i]? = some x) (hv : visB C.sc x = true) (hk : SndP C ke k) (h : SndP C e f) (hd : (x == ("__debug__" : Str)) = false := by decide) (hcd : (x == ("__classdict__" : Str)) = false := by decide)
    (hpl : PlainIx ke := by exact fun _ _ => rfl)
    (hbase : ∀ env, attributeBase (.Subscript (.Name x p) ke sp) "append" env (eval (.Subscript (.Name x p) ke sp) env) = eval (.Subscript (.Name x p) ke sp) env := by exact fun _ => rfl)
    (hfew : ∀ env, ((backTo cp (starEach [e] env)).all (fun x => !x.1) && (backToKw cp (keywordEach [] env)).all (fun x => x.1.isSome)
      && decide ([e].length + ([] : List Keyword).length + (if ([] : List Keyword).isEmpty then 0 else 1) < 30)) = true := by exact fun _ => rfl)
    (hline : (ap.endLine == cp.line) = true := by rfl) (hs : ∀ env, starEach [e] env = (false, eval e env) :: starEach [] env := by exact fun _ => rfl) (hplain : ∀ env, (backTo cp (starEach [] env)).any (·.1) = false := by exact fun _ => rfl)
    (hsw : ∀ env, swapsWith (.Call (.Attribute (.Subscript (.Name x p) ke sp) "append" ap) [e] [] cp) none pos.line env = pure false := by exact fun _ => rfl) :
    SndS C (.Expr (.Call (.Attribute (.Subscript (.Name x p) ke sp) "append" ap) [e] [] cp) pos) (sApp2 i k f) := fun X G =>
  PS.weak (ps_expr (pe_bm PySem.F.plainAttrs_list PySem.F.slot_list_append PySem.F.type_list_append mt_append (pe_ix ix_list (pe_var (i := i) (by rw [G.N]; exact hN) (by rw [G.sc]; exact vis_of hv) hd hcd) (hk X G) hpl) (pa_cons (h X G) pa_nil (hs X.env)) (hbase X.env) (hfew X.env) hline (hs X.env) (hplain X.env)) (hsw X.env)) fun D σ H q => by
    obtain ⟨τ, O, S, o, τ', e, q⟩ := q
    unfold sApp2 at e
    cases ek : k τ with
    | none => rw [ek] at e; cases e
    | some j =>
      rw [ek] at e
      simp only [Option.bind_some] at e
      cases ef : f τ with
      | none => rw [ef] at e; cases e
      | some r =>
        rw [ef] at e
        simp only [Option.bind_some] at e
        split at e
        case h_2 => cases e
        rename_i xs a1 hkd ht hj
        cases ei : ixN xs.length a1 with
        | none => rw [ei] at e; cases e
        | some n =>
          rw [ei] at e
          simp only [Option.bind_some] at e
          split at e
          case h_2 => cases e
          rename_i ys hys
          split at e
          case isFalse => cases e
          rename_i hlen
          cases e
          obtain ⟨v0, hσ0, r0⟩ := owT_rep S ht
          refine ⟨v0, hσ0, gP.mono S ek fun z1 H1 x1 S1 rz1 => ?_⟩
          obtain ⟨_, rz1⟩ := rz1.any
          obtain ⟨v1, hσ1, rx⟩ := owT_rep S1 ht
          rw [hσ0] at hσ1; cases hσ1
          simp only [Rep] at rx
          obtain ⟨a, vs, f', rfl, hl, rs, eO⟩ := rx
          obtain ⟨a', us, fi, e1, ha', rys, nfi, nai, ina, _⟩ := inplD S (.ex x1) S1 .refl ht hσ0 hl eO rs hys
          refine ⟨a, vs, a1, .ref a', rfl, isI_rep hj rz1, SqL.of hl, atI_ix (by rw [rs.length]; exact ei) e1, .inl ⟨rfl, us, SqL.of ha'⟩, gP.mono S1 ef fun y H2 x2 S2 r2 => ?_⟩
          obtain ⟨v3, hσ3, rx⟩ := owT_rep S2 ht
          rw [hσ0] at hσ3; cases hσ3
          simp only [Rep] at rx
          obtain ⟨a3, vs3, f3, ea3, hl3, rs3, eO3⟩ := rx
          cases ea3
          have : vs3 = vs := by
            have h1 := x2 a _ hl
            rw [hl3] at h1; cases h1; rfl
          subst this
          rw [hkd] at r2
          obtain ⟨fy, ry, ny, oy⟩ := r2
          obtain ⟨a4, us4, fi4, e4, ha4, rys4, nfi4, nai4, ina4, kk⟩ := inplD S (.ex (x1.trans x2)) S2 .refl ht hσ0 hl3 eO3 rs3 hys
          rw [e1] at e4; cases e4
          have fre : ∀ b ∈ fy, ¬ ow O b := fun b hb z => mut_none (S1.mt b z) (oy b hb).2
          obtain ⟨O', S4, s4, l4⟩ := kk (ys ++ [r.2]) (us4 ++ [y]) (fi4 ++ fy) (Reps.append rys4 (Reps.one ry)) (List.nodup_append.mpr ⟨nfi4, ny, fun b hb c hc e => fre c hc ⟨i, by rw [← e]; exact ina4 b (List.mem_cons_of_mem _ hb)⟩⟩)
            (fun z => by
              rcases List.mem_append.mp z with z | z
              · exact nai4 z
              · exact fre _ z ⟨i, ina4 a' List.mem_cons_self⟩)
            fun b hb => by
              rcases List.mem_append.mp hb with z | z
              · exact .inl z
              · exact .inr ⟨fre b z, .inr (none_ex (oy b z).2 x1)⟩
          exact ⟨a', us4, y, rfl, rfl, ha4, by rw [rys4.length, sizeLine_eq]; omega, q σ _ _ s4 S4 l4.io⟩
end Pv
namespace Pv
open PySem PySem.Spec L2 PyProof.Rows

/-! ### zip and enumerate of texts: each turn a new tuple -/
def ItT (n : Nat) (Pv : Nat → List V → Prop) : It := ⟨fun i _ => i < n, fun i H v H' => ∃ T xs, v = .ref T ∧ H T = none ∧ H' = upd H T (.tup xs) ∧ Pv i xs, fun i _ => i = n⟩
theorem turn_ofT {P : Program} {w : World} {K : PySem.W.Frag} {elts : List Expr} {kk : Nat} {tpos : Pos} {e : Addr} {fp wr : List Addr} {n : Nat} {Pt : Nat → Array Value → Prop} {St : Nat → Heap → Prop} {Mid : Nat → Addr → Heap → Prop} {Pv : Nat → List V → Prop}
    (W : ∀ A : Around, A.handled = none → WalksT P w A e fp wr n Pt St Mid) (hsub : ∀ b ∈ wr, b ∈ fp) (hmem : e ∈ fp) (hobj : ∀ i h, St i h → ∀ b ∈ fp, ∃ o, h.get? b = some o ∧ ∀ v, o.data ≠ .cell v)
    (hframe : ∀ i h h', St i h → (∀ b ∈ fp, ∀ o, h.get? b = some o → h'.get? b = some o) → St i h')
    (hv : ∀ i vals, i < n → Pt i vals → ∃ xs, Vals xs vals.toList ∧ Pv i xs ∧ xs.length ≤ sizeLine)
    (hself : ∀ (A : Around) (i : Nat) (s : Shared) (Q : Value → Shared → Prop) (E : Value → Shared → Prop), St i s.heap → Q (.ref e) s → wpAny (model P w) A (pyIter (.ref e)) Q E s) :
    Turn P w K (.Tuple elts kk tpos) (ItT n Pv) fp e St where
  mem := hmem
  obj := hobj
  keep := hframe
  item := by
    intro X hP hw hK hc i pins s σ H E I hf st hg
    subst hP hw hK
    have W' := W X.A (I.ok.hd hc)
    refine W'.item i s _ _ hg st fun T vals h' tk hpt hsz hT hM kk1 => ?_
    refine ⟨_, rfl, W'.go elts kk tpos i T { s with heap := h', toks := tk } _ _ hM fun h'' st' kk2 => ?_⟩
    obtain ⟨xs, rv, hp, hl⟩ := hv i vals hg hpt
    have hTw : T ∉ wr := W'.apart i T h' hM
    have hT2 : h''.IsTuple T vals := by
      obtain ⟨o, ho, r⟩ := hT
      exact ⟨o, kk2 T o hTw ho, r⟩
    have new : ObjOk X.prog X.w (upd H T (.tup xs)) h'' T (.tup xs) := ⟨hl, vals.toList, rv, by
      obtain ⟨o, ho, hcl, m, hd⟩ := hT2
      exact ⟨o, ho, hcl, m, by simpa using hd⟩⟩
    have I1 : Inv X pins σ (upd H T (.tup xs)) { s with heap := h'', toks := tk } :=
      I.turnedNew (ch := wr) (t' := tk) (fun b ob hb q => kk2 b ob hb (kk1 b ob hb q)) (fun b hb => hf b (hsub b hb)) hsz new
    refine ⟨.ref T, _, I1, rfl, ⟨T, xs, rfl, I.hok.fresh hsz, rfl, hp⟩, st', fun b hb => ?_⟩
    obtain ⟨o, ho, _⟩ := hobj i s.heap st b hb
    have hlt : b < s.heap.objs.size := Heap.lt_size ho
    rw [upd_ne (Nat.ne_of_lt (Nat.lt_of_lt_of_le hlt hsz))]
    exact (hf b hb).1
  done := by
    intro X hP hw hK hc i pins s σ H E I hf st hg
    subst hP hw hK
    have hg : i = n := hg
    subst hg
    have W' := W X.A (I.ok.hd hc)
    refine W'.done s _ _ st fun h' tk kk1 => ⟨rfl, ?_⟩
    exact I.turnedL (t' := tk) (ch := wr) kk1 fun b hb => hf b (hsub b hb)
  self := hself
def PvZ (x y : Str) : Nat → List V → Prop := fun i xs => ∃ c d, x.cps[i]? = some c ∧ y.cps[i]? = some d ∧ xs = [.str ⟨#[c]⟩, .str ⟨#[d]⟩]
def PvE (x : Str) : Nat → List V → Prop := fun i xs => ∃ c, x.cps[i]? = some c ∧ xs = [.int (i : Nat), .str ⟨#[c]⟩]
theorem pi_zipSS {X : Cx} {e e2 : Expr} {ta : TA} {p pos tpos : Pos} {elts : List Expr} {kk : Nat} (hg : Gl X "zip") (hm : X.mg "zip" = none) (ha : PA X [e, e2] ta)
    (hs : starEach [e, e2] X.env = (false, eval e X.env) :: starEach [e2] X.env := by rfl) (hpl : (backTo pos (starEach [e2] X.env)).any (·.1) = false := by rfl) :
    PI X (.Tuple elts kk tpos) (.Call (.Name "zip" p) [e, e2] [] pos) (fun σ H R => ta σ H fun vs H1 => ∃ x y : Str, vs = [.str x, .str y] ∧ R (ItT (min x.cps.size y.cps.size) (PvZ x y)) H1) := by
  refine ⟨fun pins s σ H R I h => ?_⟩
  refine Call_ (ld_blt I hg hm PyProof.Rows.boot_zip (PyProof.Rows.callWith_type1 (thn (ha.run pos pins s σ H _ I h) fun us s1 ⟨vs, H1, I1, r1, q1⟩ => ?_) hs hpl))
  obtain ⟨x, y, ex, q⟩ := q1
  subst ex
  cases r1 with
  | cons r rr =>
    cases rr with
    | cons r' rr =>
      cases rr
      obtain ⟨t, rfl⟩ := r
      obtain ⟨t', rfl⟩ := r'
      refine zip_begins2 (begins_text x t) (begins_text y t') trivial trivial fun h' hz hTI hTO h1 h2 hsz hk => wpAny_pyIter_zip hz ?_
      have I2 : Inv X pins σ H1 { s1 with heap := h' } := I1.kept (t' := s1.toks) hk
      have S := zip_sep2 (N := s1.heap.objs.size) (fp1 := []) (fp2 := []) (fun _ z => nomatch z) (fun _ z => nomatch z)
      have sub5 : ∀ b, b ∈ [s1.heap.objs.size + 4, s1.heap.objs.size + 3, s1.heap.objs.size, s1.heap.objs.size + 1] → b ∈ (s1.heap.objs.size + 4) :: (s1.heap.objs.size + 2) :: (s1.heap.objs.size + 3) :: ([s1.heap.objs.size] ++ [s1.heap.objs.size + 1]) := fun b hb => by
        simp at hb ⊢
        rcases hb with z | z | z | z <;> simp [z]
      refine ⟨s1.heap.objs.size + 4, _, _, _, H1, rfl, I2, turn_ofT (fun A hA => WalksT.zipD2 (A := A) S (Draws.text (A := A.in1) hA s1.heap.objs.size x t) (Draws.text (A := A.in1) hA (s1.heap.objs.size + 1) y t')) sub5 (by simp) (fun i h st b hb => ?_) (fun i h h'' st k => ?_) (fun i vals hi hp => ?_) (fun A i s Q E st hq => wpAny_pyIter_zip st.1 hq), ⟨hz, hTI, ⟨_, _, hTO⟩, ⟨_, h1, rfl, rfl⟩, ⟨_, h2, rfl, rfl⟩⟩, fun b hb => ?_, q⟩
      · obtain ⟨hz, hTI, ⟨a1, a2, hTO⟩, ⟨o1, e1, _, d1⟩, ⟨o2, e2, _, d2⟩⟩ := st
        have hb' : b = s1.heap.objs.size + 4 ∨ b = s1.heap.objs.size + 2 ∨ b = s1.heap.objs.size + 3 ∨ b = s1.heap.objs.size ∨ b = s1.heap.objs.size + 1 := by simpa using hb
        rcases hb' with q | q | q | q | q
        · rw [q]; exact ⟨_, hz, fun v q => nomatch q⟩
        · rw [q]; exact ⟨_, hTI, fun v q => nomatch q⟩
        · rw [q]; exact ⟨_, hTO, fun v q => nomatch q⟩
        · rw [q]; exact ⟨o1, e1, fun v q => by rw [d1] at q; cases q⟩
        · rw [q]; exact ⟨o2, e2, fun v q => by rw [d2] at q; cases q⟩
      · obtain ⟨hz, hTI, ⟨a1, a2, hTO⟩, ⟨o1, e1, r1⟩, ⟨o2, e2, r2⟩⟩ := st
        exact ⟨k _ (by simp) _ hz, k _ (by simp) _ hTI, ⟨a1, a2, k _ (by simp) _ hTO⟩, ⟨o1, k _ (by simp) _ e1, r1⟩, ⟨o2, k _ (by simp) _ e2, r2⟩⟩
      · obtain ⟨x1, x2, ⟨c, u, hc, rfl⟩, ⟨d, u', hd, rfl⟩, rfl⟩ := hp
        exact ⟨[.str ⟨#[c]⟩, .str ⟨#[d]⟩], .cons ⟨u, rfl⟩ (.cons ⟨u', rfl⟩ .nil), ⟨c, d, hc, hd, rfl⟩, by show 2 ≤ sizeLine; decide⟩
      · have hle : s1.heap.objs.size ≤ b := by
          have hb' : b = s1.heap.objs.size + 4 ∨ b = s1.heap.objs.size + 2 ∨ b = s1.heap.objs.size + 3 ∨ b = s1.heap.objs.size ∨ b = s1.heap.objs.size + 1 := by simpa using hb
          rcases hb' with z | z | z | z | z <;> rw [z]
          · exact Nat.le_add_right _ _
          · exact Nat.le_add_right _ _
          · exact Nat.le_add_right _ _
          · exact Nat.le_refl _
          · exact Nat.le_add_right _ _
        exact I1.fpOk hle (I1.hok.fresh hle)
theorem pi_enumS {X : Cx} {e : Expr} {ta : TA} {p pos tpos : Pos} {elts : List Expr} {kk : Nat} (hg : Gl X "enumerate") (hm : X.mg "enumerate" = none) (ha : PA X [e] ta) (hs : starEach [e] X.env = [(false, eval e X.env)] := by rfl) :
    PI X (.Tuple elts kk tpos) (.Call (.Name "enumerate" p) [e] [] pos) (fun σ H R => ta σ H fun vs H1 => ∃ x : Str, vs = [.str x] ∧ R (ItT x.cps.size (PvE x)) H1) := by
  refine ⟨fun pins s σ H R I h => ?_⟩
  refine Call_ (ld_blt I hg hm boot_enumerate (PyProof.Rows.callWith_type1 (thn (ha.run pos pins s σ H _ I h) fun us s1 ⟨vs, H1, I1, r1, q1⟩ => ?_) hs rfl))
  obtain ⟨x, ex, q⟩ := q1
  subst ex
  cases r1 with
  | cons r rr =>
    cases rr
    obtain ⟨t, rfl⟩ := r
    refine call_enumerate_str fun h' he hit hsz hk => wpAny_pyIter_enum he ?_
    have I2 : Inv X pins σ H1 { s1 with heap := h' } := I1.kept (t' := s1.toks) hk
    have hne : s1.heap.objs.size + 1 ≠ s1.heap.objs.size := Nat.succ_ne_self _
    have hnf : s1.heap.objs.size + 1 ∉ [s1.heap.objs.size] := fun z => hne (List.mem_singleton.mp z)
    have hif : s1.heap.objs.size ∈ [s1.heap.objs.size] := List.mem_singleton.mpr rfl
    have sub2 : ∀ b, b ∈ [s1.heap.objs.size + 1, s1.heap.objs.size] → b ∈ (s1.heap.objs.size + 1) :: [s1.heap.objs.size] := fun b hb => hb
    refine ⟨s1.heap.objs.size + 1, _, _, _, H1, rfl, I2, turn_ofT (fun A hA => WalksT.enumFrom 0 (Draws.text (A := A.in1) hA s1.heap.objs.size x t) (s1.heap.objs.size + 1) hne hnf hif) sub2 List.mem_cons_self (fun i h st b hb => ?_) (fun i h h'' st k => ?_) (fun i vals hi hp => ?_) (fun A i s Q E st hq => wpAny_pyIter_enum st.1.choose_spec hq), ⟨⟨.none, he⟩, hit⟩, fun b hb => ?_, q⟩
    · obtain ⟨⟨old, he⟩, ⟨o, ho, hc, hd⟩⟩ := st
      have hb' : b = s1.heap.objs.size + 1 ∨ b = s1.heap.objs.size := by simpa using hb
      rcases hb' with q | q
      · rw [q]; exact ⟨_, he, fun v q => nomatch q⟩
      · rw [q]; exact ⟨o, ho, fun v q => by rw [hd] at q; cases q⟩
    · obtain ⟨⟨old, he⟩, ⟨o, ho, r⟩⟩ := st
      exact ⟨⟨old, k _ (by simp) _ he⟩, ⟨o, k _ (by simp) _ ho, r⟩⟩
    · obtain ⟨u, y, ⟨c, u', hc, rfl⟩, rfl⟩ := hp
      exact ⟨[.int (i : Nat), .str ⟨#[c]⟩], .cons ⟨u, by simp⟩ (.cons ⟨u', rfl⟩ .nil), ⟨c, hc, rfl⟩, by show 2 ≤ sizeLine; decide⟩
    · have hle : s1.heap.objs.size ≤ b := by
        have hb' : b = s1.heap.objs.size + 1 ∨ b = s1.heap.objs.size := by simpa using hb
        rcases hb' with z | z <;> rw [z]
        · exact Nat.le_add_right _ _
        · exact Nat.le_refl _
      exact I1.fpOk hle (I1.hok.fresh hle)
/-! ### .. as combinators -/
def zipS (a b : Tx) : List PV := (a.zip b).map fun p => .tup [.str [p.1], .str [p.2]]
def enS (a : Tx) : List PV := (List.range a.length).map fun i => .tup [.int (i : Nat), .str [a.getD i 0]]
theorem src_T {K : PySem.W.Frag} {P : Program} {w : World} {O : Nat → List Addr} {H : Hp} {n : Nat} {Pv : Nat → List V → Prop} {ts : List PV} (hn : ts.length = n) (h : ∀ i t, ts[i]? = some t → ∀ xs, Pv i xs → ∃ us, t = .tup us ∧ ∀ H', Reps K P w H' us xs []) :
    SrcP K P w O H (ItT n Pv) .shr ts := by
  refine ⟨fun _ => False, fun _ _ z => z.elim, fun _ z => z.elim, fun H2 _ => ⟨fun i hi => by show i < n; omega, hn, fun i x H3 t ht hy => ?_⟩⟩
  obtain ⟨T, xs, rfl, hT, rfl, hp⟩ := hy
  obtain ⟨us, rfl, hr⟩ := h i t ht xs hp
  refine ⟨Ex.upd hT, [], ?_, fun _ z => nomatch z⟩
  simp only [Rep]
  exact ⟨T, xs, rfl, upd_same, hr _⟩
theorem okT_one {a : Tx} (h : okT a) {c : Nat} (hc : c ∈ a) : okT [c] := h.sub (by have := List.length_pos_of_mem hc; show 1 ≤ a.length; omega) fun d hd => by simp at hd; rw [hd]; exact hc
def iZipS (a b : PX) : IX := fun τ => (a τ).bind fun x => (b τ).bind fun y => match x.2, y.2 with
  | .str s, .str u => some (.shr, zipS s u)
  | _, _ => none
theorem sni_zipS {C : Cn} {a b : Expr} {f g : PX} {p pos tpos : Pos} {elts : List Expr} {kk : Nat} (hg : glB C.sc "zip" = true) (h : SndP C a f) (h' : SndP C b g) (he : ∀ env, starEach [a, b] env = (false, eval a env) :: starEach [b] env := by exact fun _ => rfl) (he' : ∀ env, starEach [b] env = (false, eval b env) :: starEach [] env := by exact fun _ => rfl)
    (hpl : ∀ env, (backTo pos (starEach [b] env)).any (·.1) = false := by exact fun _ => rfl) : SndI C (.Tuple elts kk tpos) (.Call (.Name "zip" p) [a, b] [] pos) (iZipS f g) := fun X G =>
  PI.weak (pi_zipSS (gl_of G hg) (G.blt _ (by decide +kernel)) (pa_cons (h X G) (pa_cons (h' X G) pa_nil (he' X.env)) (he X.env)) (he X.env) (hpl X.env)) fun σ H R q => by
    obtain ⟨τ, O, S, k, ts, e, q⟩ := q
    unfold iZipS at e
    cases ef : f τ with
    | none => rw [ef] at e; cases e
    | some r =>
      cases eg : g τ with
      | none => rw [ef, eg] at e; cases e
      | some r' =>
        rw [ef, eg] at e
        simp only [Option.bind_some] at e
        split at e
        · rename_i s u hs hu
          cases e
          refine gP.mono S ef fun v H1 x1 S1 r1 => gP.mono S1 eg fun v2 H2 x2 S2 r2 => ?_
          obtain ⟨fp, r1⟩ := r1.any
          obtain ⟨fp2, r2⟩ := r2.any
          rw [hs] at r1
          rw [hu] at r2
          simp only [Rep] at r1 r2
          refine ⟨mkS s, mkS u, by rw [r1.1, r2.1], q _ H2 (x1.trans x2) (src_T (by simp [zipS, mkS]) fun i t ht xs hp => ?_)⟩
          obtain ⟨c, d, hc, hd, rfl⟩ := hp
          have hc' : s[i]? = some c := by unfold mkS at hc; simpa using hc
          have hd' : u[i]? = some d := by unfold mkS at hd; simpa using hd
          unfold zipS at ht
          have hz : (s.zip u)[i]? = some (c, d) := List.getElem?_zip_eq_some.mpr ⟨hc', hd'⟩
          rw [List.getElem?_map, hz] at ht
          cases ht
          refine ⟨_, rfl, fun H' => ?_⟩
          exact Reps.cons (f := []) (g := []) (rep_str (okT_one r1.2.1 (List.mem_of_getElem? hc'))) (Reps.cons (f := []) (g := []) (rep_str (okT_one r2.2.1 (List.mem_of_getElem? hd'))) (by simp [Reps]))
        · cases e
def iEnS (a : PX) : IX := fun τ => (a τ).bind fun x => match x.2 with
  | .str s => some (.shr, enS s)
  | _ => none
theorem sni_enS {C : Cn} {a : Expr} {f : PX} {p pos tpos : Pos} {elts : List Expr} {kk : Nat} (hg : glB C.sc "enumerate" = true) (h : SndP C a f) (he : ∀ env, starEach [a] env = (false, eval a env) :: starEach [] env := by exact fun _ => rfl) : SndI C (.Tuple elts kk tpos) (.Call (.Name "enumerate" p) [a] [] pos) (iEnS f) := fun X G =>
  PI.weak (pi_enumS (gl_of G hg) (G.blt _ (by decide +kernel)) (pa_cons (h X G) pa_nil (he X.env)) (he X.env)) fun σ H R q => by
    obtain ⟨τ, O, S, k, ts, e, q⟩ := q
    unfold iEnS at e
    cases ef : f τ with
    | none => rw [ef] at e; cases e
    | some r =>
      rw [ef] at e
      simp only [Option.bind_some] at e
      split at e
      · rename_i s hs
        cases e
        refine gP.mono S ef fun v H1 x1 S1 r1 => ?_
        obtain ⟨fp, r1⟩ := r1.any
        rw [hs] at r1
        simp only [Rep] at r1
        refine ⟨mkS s, by rw [r1.1], q _ H1 x1 (src_T (by simp [enS, mkS]) fun i t ht xs hp => ?_)⟩
        obtain ⟨c, hc, rfl⟩ := hp
        have hc' : s[i]? = some c := by unfold mkS at hc; simpa using hc
        obtain ⟨hi, _⟩ := List.getElem?_eq_some_iff.mp hc'
        unfold enS at ht
        rw [List.getElem?_map, List.getElem?_range hi] at ht
        cases ht
        refine ⟨_, rfl, fun H' => ?_⟩
        have hg : s.getD i 0 = c := by simp [List.getD, hc']
        rw [hg]
        exact Reps.cons (f := []) (g := []) rep_int (Reps.cons (f := []) (g := []) (rep_str (okT_one r1.2.1 (List.mem_of_getElem? hc'))) (by simp [Reps]))
      · cases e
end Pv
namespace Pv
open PySem PySem.Spec L2

/-! ### x = y, y's own goes over to x -/
@[simp] def sMv (i j : Nat) : SX := fun τ => match τ[j]? with
  | some (.own t) => if imm t = true then sAsg i (eVar j) τ else if i ≠ j ∧ lkI τ i = true then some (.nx, (τ.set i (.own t)).set j .un) else none
  | _ => sAsg i (eVar j) τ
section
variable {K : PySem.W.Frag} {P : Program} {w : World} {τ : En} {σ : St} {H : Hp} {O : Nat → List Addr}
def mvO (O : Nat → List Addr) (i j : Nat) : Nat → List Addr := fun l => if l = i then O j else if l = j then [] else O l
theorem StR.move {i j : Nat} {t : PV} {v : V} (S : StR K P w τ σ H O) (hij : i ≠ j) (hi : i < τ.length) (e : τ[j]? = some (.own t)) (hv : σ[j]? = some (some v)) : StR K P w ((τ.set i (.own t)).set j .un) (σ.set i (some v)) H (mvO O i j) := by
  have hj : j < τ.length := (List.getElem?_eq_some_iff.mp e).1
  obtain ⟨v', hv', rv⟩ := S.own j t (.inl e)
  rw [hv] at hv'; cases hv'
  have get : ∀ l s, ((τ.set i (.own t)).set j .un)[l]? = some s → (l = j ∧ s = .un) ∨ (l ≠ j ∧ l = i ∧ s = .own t) ∨ (l ≠ j ∧ l ≠ i ∧ τ[l]? = some s) := fun l s h => by
    rcases set_get h with ⟨a, b⟩ | ⟨a, b⟩
    · exact .inl ⟨a, b⟩
    · rcases set_get b with ⟨c, d⟩ | ⟨c, d⟩
      · exact .inr (.inl ⟨a, c, d⟩)
      · exact .inr (.inr ⟨a, c, d⟩)
  have owu : ∀ a, ow (mvO O i j) a → ow O a := fun a ⟨l, hl⟩ => by
    unfold mvO at hl
    split at hl
    · exact ⟨j, hl⟩
    · split at hl
      · cases hl
      · exact ⟨l, hl⟩
  refine ⟨by simp [S.len], fun l u h => ?_, fun l u h => ?_, fun l => ?_, fun l m a h1 h2 => ?_, fun a z => S.mt a (owu a z)⟩
  · rcases h with h | h
    · rcases get l _ h with ⟨_, b⟩ | ⟨a, b, c⟩ | ⟨a, b, c⟩
      · cases b
      · cases c
        subst b
        refine ⟨v, by rw [List.getElem?_set_self (by rw [← S.len]; exact hi)], ?_⟩
        unfold mvO; rw [if_pos rfl]; exact rv
      · obtain ⟨z, ez, rz⟩ := S.own l u (.inl c)
        refine ⟨z, by rw [List.getElem?_set_ne (Ne.symm b)]; exact ez, ?_⟩
        unfold mvO; rw [if_neg b, if_neg a]; exact rz
    · rcases get l _ h with ⟨_, b⟩ | ⟨a, b, c⟩ | ⟨a, b, c⟩
      · cases b
      · cases c
      · obtain ⟨z, ez, rz⟩ := S.own l u (.inr c)
        refine ⟨z, by rw [List.getElem?_set_ne (Ne.symm b)]; exact ez, ?_⟩
        unfold mvO; rw [if_neg b, if_neg a]; exact rz
  · rcases get l _ h with ⟨_, b⟩ | ⟨a, b, c⟩ | ⟨a, b, c⟩
    · cases b
    · cases c
    · obtain ⟨z, f, ez, rz, nz⟩ := S.shr l u c
      exact ⟨z, f, by rw [List.getElem?_set_ne (Ne.symm b)]; exact ez, rz, fun x hx q => nz x hx (owu x q)⟩
  · unfold mvO
    split
    · exact S.nod j
    · split
      · exact List.nodup_nil
      · exact S.nod l
  · unfold mvO at h1 h2
    split at h1
    · rename_i a1
      split at h2
      · rename_i a2; rw [a1, a2]
      · split at h2
        · cases h2
        · rename_i a2 a3
          exact absurd (S.dis j m a h1 h2).symm a3
    · split at h1
      · cases h1
      · rename_i a1 a2
        split at h2
        · exact absurd (S.dis l j a h1 h2) a2
        · split at h2
          · cases h2
          · exact S.dis l m a h1 h2
end
theorem sns_mv {C : Cn} (i j : Nat) {x y : Str} {p p2 pos : Pos} (hN : C.N[i]? = some x) (hN' : C.N[j]? = some y) (hx : locB C.sc x = true) (hst : stB C x = true) (hv : visB C.sc y = true) (hd : (y == ("__debug__" : Str)) = false := by decide) (hcd : (y == ("__classdict__" : Str)) = false := by decide)
    (hs : ∀ env : Env, env.scope = C.sc → swapsWith (.Name y p2) (some (.Name x p)) pos.line env = pure false := by exact fun _ _ => rfl) :
    SndS C (.Assign [.Name x p] (.Name y p2) pos) (sMv i j) := fun X G => by
  have A := sns_asg (C := C) i hN hx hst (snd_var j hN' hv hd hcd) hs X G
  have B := ps_set (i := i) G.nd (by rw [G.N]; exact hN) (locT G hx) (pe_var (X := X) (i := j) (pos := p2) (by rw [G.N]; exact hN') (by rw [G.sc]; exact vis_of hv) hd hcd) (hs X.env G.sc) (st_of (x := x) G hst) (pos' := p) (pos := pos)
  refine ⟨fun pins s σ H D I q => ?_⟩
  obtain ⟨τ, O, S, o, τ', e, q⟩ := q
  unfold sMv at e
  split at e
  · rename_i t ht
    split at e
    · exact A.run pins s σ H D I ⟨τ, O, S, o, τ', e, q⟩
    · split at e
      · rename_i hc
        cases e
        obtain ⟨v, hvj, rv⟩ := S.own j t (.inl ht)
        refine B.run pins s σ H D I ⟨v, hvj, ?_⟩
        have S2 := S.move hc.1 (lkI_lt hc.2) ht hvj
        refine q _ H (mvO O i j) ⟨fun a o e _ => e, fun a z => ?_⟩ S2 (fun l u h => ?_)
        · obtain ⟨l, hl⟩ := z
          unfold mvO at hl
          split at hl
          · exact .inl ⟨j, hl⟩
          · split at hl
            · cases hl
            · exact .inl ⟨l, hl⟩
        · have hli : l ≠ i := fun z => by
            have := hc.2
            unfold lkI at this
            rw [z] at h
            rw [h] at this
            cases this
          have hlj : l ≠ j := fun z => by rw [z, ht] at h; cases h
          exact ⟨⟨u, by rw [List.getElem?_set_ne (Ne.symm hlj), List.getElem?_set_ne (Ne.symm hli)]; exact h⟩, by rw [List.getElem?_set_ne (Ne.symm hli)]⟩
      · cases e
  · exact A.run pins s σ H D I ⟨τ, O, S, o, τ', e, q⟩
end Pv
namespace Pv
open PySem PySem.Spec L2 PyProof.Rows

/-! ### list(range(n)), min(a, b, c) -/
def eLrg (a : PX) : PX := fun τ => (a τ).bind fun x => (isI x.2).bind fun j => if 0 ≤ j ∧ j ≤ 16777216 then some (.own, .lst (rgL 0 j.toNat)) else none
@[simp ↓] theorem eLrg_ap {a : PX} {τ : En} : eLrg a τ = (a τ).bind fun x => (isI x.2).bind fun j => if 0 ≤ j ∧ j ≤ 16777216 then some (.own, .lst (rgL 0 j.toNat)) else none := rfl
theorem reps_rg {K : PySem.W.Frag} {P : Program} {w : World} {H : Hp} : ∀ {l : List Int}, Reps K P w H (l.map .int) (l.map V.int) []
  | [] => by simp [Reps]
  | c :: s => Reps.cons (f := []) (g := []) rep_int (reps_rg (l := s))
theorem snd_lrg {C : Cn} {a : Expr} {f : PX} {p p2 pos pos2 : Pos} (hl : glB C.sc "list" = true) (hg : glB C.sc "range" = true) (h : SndP C a f)
    (n1 : ∀ env, starEach [a] env = (false, eval a env) :: starEach [] env := by exact fun _ => rfl)
    (n2 : ∀ env, starEach [Expr.Call (.Name "range" p2) [a] [] pos2] env = (false, eval (.Call (.Name "range" p2) [a] [] pos2) env) :: starEach [] env := by exact fun _ => rfl) :
    SndP C (.Call (.Name "list" p) [.Call (.Name "range" p2) [a] [] pos2] [] pos) (eLrg f) := fun X G =>
  PE.weak (pe_listRg G.calm (gl_of G hl) (G.blt _ (by decide +kernel)) (prg_1 (gl_of G hg) (G.blt _ (by decide +kernel)) (h X G) (n1 X.env)) (n2 X.env)) fun σ H Q q => by
    obtain ⟨τ, O, S, k, t, e, q⟩ := q
    unfold eLrg at e
    cases ef : f τ with
    | none => rw [ef] at e; cases e
    | some r =>
      rw [ef] at e
      simp only [Option.bind_some] at e
      cases ei : isI r.2 with
      | none => rw [ei] at e; cases e
      | some j =>
        rw [ei] at e
        simp only [Option.bind_some] at e
        split at e
        · rename_i hb
          cases e
          refine gP.mono S ef fun v H1 x1 S1 r1 => ?_
          obtain ⟨fp, r1⟩ := r1.any
          have this := isI_rep ei r1
          subst this
          refine ⟨j, rfl, RgOk.of_le (Int.le_refl _) hb.2 (by omega) hb.1, fun p hp => q _ _ (x1.trans (Ex.upd hp)) ?_⟩
          have eq : rgV 0 j = ((List.range j.toNat).map fun i => (0 + (i : Nat) : Int)).map V.int := by unfold rgV; rw [List.map_map, Int.sub_zero]; rfl
          have eq2 : rgL 0 j.toNat = ((List.range j.toNat).map fun i => (0 + (i : Nat) : Int)).map PV.int := by unfold rgL; rw [List.map_map]; rfl
          rw [eq, eq2]
          refine ⟨[p], ?_, by simp, fun b hb => by simp at hb; subst hb; exact ⟨by rw [upd_same]; trivial, (by cases z : H b with | none => rfl | some o => rw [x1 b o z] at hp; cases hp)⟩⟩
          simp only [Rep]
          exact ⟨p, _, [], rfl, upd_same, reps_rg, rfl⟩
        · cases e
def gMin3 : PV → PV → PV → Option (Kd × PV)
  | .int i, .int j, .int k => some (.own, .int (if k < (if j < i then j else i) then k else (if j < i then j else i)))
  | _, _, _ => none
@[simp] theorem gMin3_int {i j k : Int} : gMin3 (.int i) (.int j) (.int k) = some (.own, .int (if k < (if j < i then j else i) then k else (if j < i then j else i))) := rfl
@[simp] def g3 (g : PV → PV → PV → Option (Kd × PV)) : List PV → Option (Kd × PV) := fun ts => match ts with | [x, y, z] => g x y z | _ => none
theorem cs_min3 {X : Cx} (hc : X.calm = true) : CallS X (.builtin "min") (g3 gMin3) := CallS.of (call_min3Nu hc) fun H xs Q ts t k fp r1 e q => by
  unfold g3 at e
  split at e
  · unfold gMin3 at e
    split at e
    · rename_i i j l
      cases e
      simp only [Reps, Rep] at r1
      obtain ⟨v, vr, f1, g1, rfl, ⟨rfl, _⟩, ⟨v2, vr2, f2, g2, rfl, ⟨rfl, _⟩, ⟨v3, vr3, f3, g3, rfl, ⟨rfl, _⟩, ⟨rfl, rfl⟩, rfl⟩, rfl⟩, rfl⟩ := r1
      refine ⟨_, _, _, .int (if l < (if j < i then j else i) then l else (if j < i then j else i)), rfl, ?_, q _ H .refl fun _ => repK_int⟩
      show (nuMin2 (.int i) (.int j)).bind (fun m => nuMin2 m (.int l)) = _
      have h1 : nuMin2 (.int i) (.int j) = some (.int (if j < i then j else i)) := by
        show (some (decide (j < i))).map _ = _
        by_cases h : j < i <;> simp [h]
      rw [h1, Option.bind_some]
      show (some (decide (l < (if j < i then j else i)))).map _ = _
      by_cases h : l < (if j < i then j else i)
      · simp only [Option.map_some, decide_eq_true h, if_pos h, if_true]
      · simp only [Option.map_some, decide_eq_false h, if_neg h, Bool.false_eq_true, if_false]
    · cases e
  · cases e
end Pv
namespace Pv
open PySem PySem.Spec L2

/-! ### x.append(y), y's own goes over into x -/
@[simp] def sAppV (i j : Nat) : SX := fun τ => match τ[j]? with
  | some (.own t) => if imm t = true then sApp i (mP (eVar j)) τ else match owT τ i with
    | some (.lst xs) => if i ≠ j ∧ xs.length < 16777216 then some (.nx, (setT τ i (.lst (xs ++ [t]))).set j .un) else none
    | _ => none
  | _ => sApp i (mP (eVar j)) τ
section
variable {K : PySem.W.Frag} {P : Program} {w : World} {τ : En} {σ : St} {H : Hp} {O : Nat → List Addr}
def avO (O : Nat → List Addr) (i j : Nat) : Nat → List Addr := fun l => if l = i then O i ++ O j else if l = j then [] else O l
theorem StR.appV {i j : Nat} {xs : List PV} {t : PV} {a : Addr} {vs : List V} {v : V} (S : StR K P w τ σ H O) (hij : i ≠ j) (ht : owT τ i = some (.lst xs)) (e : τ[j]? = some (.own t))
    (hva : σ[i]? = some (some (.ref a))) (ha : H a = some (.lst vs)) (hv : σ[j]? = some (some v)) : StR K P w ((setT τ i (.lst (xs ++ [t]))).set j .un) σ (upd H a (.lst (vs ++ [v]))) (avO O i j) ∧ Step H O (upd H a (.lst (vs ++ [v]))) (avO O i j) := by
  obtain ⟨va, hva', ra⟩ := owT_rep S ht
  rw [hva] at hva'; cases hva'
  simp only [Rep] at ra
  obtain ⟨a', vs', f, ea, hl, rs, eO⟩ := ra
  cases ea
  rw [ha] at hl; cases hl
  obtain ⟨v', hv', rv⟩ := S.own j t (.inl e)
  rw [hv] at hv'; cases hv'
  have hOa : a ∈ O i := by rw [eO]; exact List.mem_cons_self
  have F : Fr (fun b => b = a) H (upd H a (.lst (vs ++ [v]))) := fun b o e n => by rw [upd_ne n]; exact e
  have mF : ∀ b, b = a → Mut (H b) := fun b e => by rw [e, ha]; trivial
  have apart : ∀ b, b ∈ O i → b ∉ O j := fun b h1 h2 => hij (S.dis i j b h1 h2)
  have owu : ∀ b, ow (avO O i j) b → ow O b := fun b ⟨l, hl⟩ => by
    unfold avO at hl
    split at hl
    · rcases List.mem_append.mp hl with z | z
      · exact ⟨i, z⟩
      · exact ⟨j, z⟩
    · split at hl
      · cases hl
      · exact ⟨l, hl⟩
  have get : ∀ l s, ((setT τ i (.lst (xs ++ [t]))).set j .un)[l]? = some s → (l = j ∧ s = .un) ∨ (l ≠ j ∧ l = i ∧ (s = .own (.lst (xs ++ [t])) ∨ s = .io (.lst (xs ++ [t])))) ∨ (l ≠ j ∧ l ≠ i ∧ τ[l]? = some s) := fun l s h => by
    rcases set_get h with ⟨a, b⟩ | ⟨a, b⟩
    · exact .inl ⟨a, b⟩
    · unfold setT at b
      split at b
      · rcases set_get b with ⟨c, d⟩ | ⟨c, d⟩
        · exact .inr (.inl ⟨a, c, .inl d⟩)
        · exact .inr (.inr ⟨a, c, d⟩)
      · rcases set_get b with ⟨c, d⟩ | ⟨c, d⟩
        · exact .inr (.inl ⟨a, c, .inr d⟩)
        · exact .inr (.inr ⟨a, c, d⟩)
      · rename_i h1 h2
        unfold owT at ht
        split at ht
        · rename_i u hu; exact absurd hu (h1 _)
        · rename_i u hu; exact absurd hu (h2 _)
        · cases ht
  have nf : a ∉ f := by
    have := S.nod i
    rw [eO] at this
    exact (List.nodup_cons.mp this).1
  have repi : Rep K P w (upd H a (.lst (vs ++ [v]))) (.lst (xs ++ [t])) (.ref a) (avO O i j i) := by
    unfold avO
    rw [if_pos rfl, eO, List.cons_append]
    simp only [Rep]
    refine ⟨a, vs ++ [v], f ++ O j, rfl, upd_same, ?_, rfl⟩
    refine Reps.fr mF F _ _ _ (Reps.append rs (Reps.one rv)) fun b hb z => ?_
    have z : b = a := z
    subst z
    rcases List.mem_append.mp hb with q | q
    · exact nf q
    · exact apart b hOa q
  refine ⟨⟨?_, fun l u h => ?_, fun l u h => ?_, fun l => ?_, fun l m b h1 h2 => ?_, fun b z => ?_⟩, ⟨fun b o e n => ?_, fun b z => .inl (owu b z)⟩⟩
  · rw [List.length_set, (setT_lk (τ := τ) (i := i) (t := .lst (xs ++ [t]))).len]; exact S.len
  · have : (l = i ∧ u = .lst (xs ++ [t])) ∨ (l ≠ j ∧ l ≠ i ∧ (τ[l]? = some (Sl.own u) ∨ τ[l]? = some (Sl.io u))) := by
      rcases h with h | h
      · rcases get _ _ h with ⟨_, b⟩ | ⟨_, b, c | c⟩ | ⟨b, c, d⟩
        · cases b
        · cases c; exact .inl ⟨b, rfl⟩
        · cases c
        · exact .inr ⟨b, c, .inl d⟩
      · rcases get _ _ h with ⟨_, b⟩ | ⟨_, b, c | c⟩ | ⟨b, c, d⟩
        · cases b
        · cases c
        · cases c; exact .inl ⟨b, rfl⟩
        · exact .inr ⟨b, c, .inr d⟩
    rcases this with ⟨rfl, rfl⟩ | ⟨h1, h2, h3⟩
    · exact ⟨_, hva, repi⟩
    · obtain ⟨z, ez, rz⟩ := S.own l u h3
      refine ⟨z, ez, ?_⟩
      unfold avO
      rw [if_neg h2, if_neg h1]
      exact Rep.fr mF F _ _ _ rz fun b hb q => h2 (S.dis l i b hb (by rw [show b = a from q]; exact hOa))
  · rcases get _ _ h with ⟨_, b⟩ | ⟨_, b, c | c⟩ | ⟨b, c, d⟩
    · cases b
    · cases c
    · cases c
    · obtain ⟨z, g, ez, rz, nz⟩ := S.shr l u d
      exact ⟨z, g, ez, Rep.fr mF F _ _ _ rz fun b hb q => nz b hb ⟨i, by rw [show b = a from q]; exact hOa⟩, fun b hb q => nz b hb (owu b q)⟩
  · unfold avO
    split
    · exact List.nodup_append.mpr ⟨S.nod i, S.nod j, fun b hb c hc e => apart b hb (by rw [e]; exact hc)⟩
    · split
      · exact List.nodup_nil
      · exact S.nod l
  · have own : ∀ l, b ∈ avO O i j l → (l = i ∧ (b ∈ O i ∨ b ∈ O j)) ∨ (l ≠ i ∧ l ≠ j ∧ b ∈ O l) := fun l h => by
      unfold avO at h
      split at h
      · rename_i q; exact .inl ⟨q, List.mem_append.mp h⟩
      · split at h
        · cases h
        · rename_i q1 q2; exact .inr ⟨q1, q2, h⟩
    rcases own l h1 with ⟨p1, p2⟩ | ⟨p1, p2, p3⟩ <;> rcases own m h2 with ⟨q1, q2⟩ | ⟨q1, q2, q3⟩
    · rw [p1, q1]
    · rcases p2 with p2 | p2
      · exact absurd (S.dis i m b p2 q3).symm q1
      · exact absurd (S.dis j m b p2 q3).symm q2
    · rcases q2 with q2 | q2
      · exact absurd (S.dis l i b p3 q2) p1
      · exact absurd (S.dis l j b p3 q2) p2
    · exact S.dis l m b p3 q3
  · by_cases q : b = a
    · rw [q, upd_same]; trivial
    · rw [upd_ne q]; exact S.mt b (owu b z)
  · rw [upd_ne fun z => n ⟨i, by rw [z]; exact hOa⟩]; exact e
end
theorem sns_appV {C : Cn} (i j : Nat) {x y : Str} {p p2 ap cp pos : Pos} (hN : C.N[i]? = some x) (hN' : C.N[j]? = some y) (hv : visB C.sc x = true) (hv' : visB C.sc y = true) (hd : (x == ("__debug__" : Str)) = false := by decide) (hcd : (x == ("__classdict__" : Str)) = false := by decide)
    (hd' : (y == ("__debug__" : Str)) = false := by decide) (hcd' : (y == ("__classdict__" : Str)) = false := by decide)
    (hbase : ∀ env, attributeBase (.Name x p) "append" env (eval (.Name x p) env) = eval (.Name x p) env := by exact fun _ => rfl)
    (hfew : ∀ env, ((backTo cp (starEach [Expr.Name y p2] env)).all (fun x => !x.1) && (backToKw cp (keywordEach [] env)).all (fun x => x.1.isSome)
      && decide ([Expr.Name y p2].length + ([] : List Keyword).length + (if ([] : List Keyword).isEmpty then 0 else 1) < 30)) = true := by exact fun _ => rfl)
    (hline : (ap.endLine == cp.line) = true := by rfl) (hs : ∀ env, starEach [Expr.Name y p2] env = (false, eval (.Name y p2) env) :: starEach [] env := by exact fun _ => rfl) (hplain : ∀ env, (backTo cp (starEach [] env)).any (·.1) = false := by exact fun _ => rfl)
    (hsw : ∀ env, swapsWith (.Call (.Attribute (.Name x p) "append" ap) [.Name y p2] [] cp) none pos.line env = pure false := by exact fun _ => rfl) :
    SndS C (.Expr (.Call (.Attribute (.Name x p) "append" ap) [.Name y p2] [] cp) pos) (sAppV i j) := fun X G => by
  have A := sns_app (C := C) i (p := p) (ap := ap) (cp := cp) (pos := pos) hN hv (snm_p (snd_var j hN' hv' hd' hcd' (pos := p2))) hd hcd hbase hfew hline hs hplain hsw X G
  have B := ps_expr (pos := pos) (pe_bm PySem.F.plainAttrs_list PySem.F.slot_list_append PySem.F.type_list_append mt_append (pe_var (X := X) (i := i) (pos := p) (by rw [G.N]; exact hN) (by rw [G.sc]; exact vis_of hv) hd hcd) (pa_cons (pe_var (X := X) (i := j) (pos := p2) (by rw [G.N]; exact hN') (by rw [G.sc]; exact vis_of hv') hd' hcd') pa_nil (hs X.env)) (hbase X.env) (hfew X.env) hline (hs X.env) (hplain X.env)) (hsw X.env)
  refine ⟨fun pins s σ H D I q => ?_⟩
  obtain ⟨τ, O, S, o, τ', e, q⟩ := q
  unfold sAppV at e
  split at e
  · rename_i t ht
    split at e
    · exact A.run pins s σ H D I ⟨τ, O, S, o, τ', e, q⟩
    · split at e
      case h_2 => cases e
      rename_i xs hx
      split at e
      case isFalse => cases e
      rename_i hc
      cases e
      obtain ⟨v, hvj, rv⟩ := S.own j t (.inl ht)
      obtain ⟨v0, hσ0, r0⟩ := owT_rep S hx
      simp only [Rep] at r0
      obtain ⟨a, vs, f, rfl, hl, rs, eO⟩ := r0
      obtain ⟨S2, s2⟩ := S.appV hc.1 hx ht hσ0 hl hvj
      refine B.run pins s σ H D I ⟨.ref a, hσ0, .inl ⟨rfl, vs, SqL.of hl⟩, ⟨v, hvj, a, vs, v, rfl, rfl, hl, by rw [rs.length, sizeLine_eq]; omega, ?_⟩⟩
      refine q σ _ _ s2 S2 fun l u h => ?_
      have hlj : l ≠ j := fun z => by rw [z, ht] at h; cases h
      refine ⟨?_, rfl⟩
      rw [List.getElem?_set_ne (Ne.symm hlj)]
      by_cases hli : l = i
      · subst hli
        unfold setT
        rw [h]
        exact ⟨_, List.getElem?_set_self (List.getElem?_eq_some_iff.mp h).1⟩
      · unfold setT
        split
        · exact ⟨u, by rw [List.getElem?_set_ne (Ne.symm hli)]; exact h⟩
        · exact ⟨u, by rw [List.getElem?_set_ne (Ne.symm hli)]; exact h⟩
        · exact ⟨u, h⟩
  · exact A.run pins s σ H D I ⟨τ, O, S, o, τ', e, q⟩
end Pv
namespace Pv
open PySem PySem.Spec L2

/-! ### x + e, e with effects, x a name -/
def mBinN (g : PV → PV → Option (Kd × PV)) (i : Nat) (b : MX) : MX := fun τ => (trOf τ i).bind fun _ => (b τ).bind fun y => (trOf y.2.2 i).bind fun x => (g x y.2.1).map fun z => (z.1, z.2, y.2.2)
@[simp ↓] theorem mBinN_ap {g : PV → PV → Option (Kd × PV)} {i : Nat} {b : MX} {τ : En} : mBinN g i b τ = (trOf τ i).bind fun _ => (b τ).bind fun y => (trOf y.2.2 i).bind fun x => (g x y.2.1).map fun z => (z.1, z.2, y.2.2) := rfl
theorem snm_binN {C : Cn} (i : Nat) {x : Str} {b : Expr} {op : Operator} {fb : MX} {g : PV → PV → Option (Kd × PV)} {p pos : Pos} (ho : ∀ X, Gd C X → OpS X (binaryOp op) g) (hN : C.N[i]? = some x) (hv : visB C.sc x = true) (hb : SndM C b fb) (hd : (x == ("__debug__" : Str)) = false := by decide) (hcd : (x == ("__classdict__" : Str)) = false := by decide) : SndM C (.BinOp (.Name x p) op b pos) (mBinN g i fb) := by
  intro X G
  refine PE.weak (pe_op (ho X G).op (pe_var (i := i) (by rw [G.N]; exact hN) (by rw [G.sc]; exact vis_of hv) hd hcd) (hb X G)) fun σ H Q h => ?_
  obtain ⟨τ, O, S, k, t, τ', e, q⟩ := h
  unfold mBinN at e
  cases et : trOf τ i with
  | none => rw [et] at e; cases e
  | some u =>
    rw [et] at e
    simp only [Option.bind_some] at e
    cases eb : fb τ with
    | none => rw [eb] at e; cases e
    | some y =>
      rw [eb] at e
      simp only [Option.bind_some] at e
      cases ex : trOf y.2.2 i with
      | none => rw [ex] at e; cases e
      | some x =>
        rw [ex] at e
        simp only [Option.bind_some] at e
        cases eg : g x y.2.1 with
        | none => rw [eg] at e; cases e
        | some z =>
          rw [eg] at e; cases e
          obtain ⟨v, fp, hσ, _, _⟩ := trOf_ok S et
          refine ⟨v, hσ, gM.mono S eb fun v2 H2 O2 s2 S2 l2 r2 => ?_⟩
          obtain ⟨f2, r2, _⟩ := r2.any
          obtain ⟨v', f1, hσ', r1, _⟩ := trOf_ok S2 ex
          rw [hσ] at hσ'; cases hσ'
          exact ⟨_, _, z.2, z.1, f1, f2, r1, r2, eg, fun z H' x3 r3 => q z H' O2 (s2.trans (.ex x3)) (S2.ex x3) l2 (repM_of S2 s2 (r3 O2))⟩
end Pv
namespace Pv
open PySem PySem.Spec L2

/-! ### reckoning with the combinators -/
/-- a mark that keeps simp out of what follows -/
def Tg {α : Type} (Q : α → Prop) : Type := Unit
def tg {α : Type} {Q : α → Prop} : Tg Q := Unit.unit
def W {α : Type} (x : Option α) (Q : α → Prop) (u : Tg Q := tg) : Prop := ∃ a, x = some a ∧ Q a
@[simp] theorem W_some {α : Type} {a : α} {Q : α → Prop} : W (some a) Q ↔ Q a := ⟨fun ⟨_, e, q⟩ => by cases e; exact q, fun q => ⟨a, rfl, q⟩⟩
@[simp] theorem W_none {α : Type} {Q : α → Prop} : W none Q ↔ False := ⟨fun ⟨_, e, _⟩ => (nomatch e), False.elim⟩
@[simp ↓] theorem W_bind {α β : Type} {x : Option α} {f : α → Option β} {Q : β → Prop} : W (x.bind f) Q ↔ W x fun a => W (f a) Q := by
  cases x <;> simp [W]
@[simp ↓] theorem W_map {α β : Type} {x : Option α} {f : α → β} {Q : β → Prop} : W (x.map f) Q ↔ W x fun a => Q (f a) := by
  cases x <;> simp [W]
@[simp] theorem W_ite {α : Type} {c : Prop} [Decidable c] {x y : Option α} {Q : α → Prop} : W (if c then x else y) Q ↔ if c then W x Q else W y Q := by
  split <;> rfl
theorem W.mono {α : Type} {x : Option α} {R Q : α → Prop} (h : W x R) (i : ∀ a, R a → Q a) : W x Q := by
  obtain ⟨a, e, r⟩ := h
  exact ⟨a, e, i a r⟩
theorem W.of {α : Type} {x : Option α} {a : α} {Q : α → Prop} (e : x = some a) (q : Q a) : W x Q := ⟨a, e, q⟩
theorem W.eq {α : Type} {x : Option α} {a : α} : W x (· = a) ↔ x = some a := ⟨fun ⟨_, e, h⟩ => by rw [e, h], fun e => ⟨a, e, rfl⟩⟩

def nio : Sl → Bool
  | .io _ => false
  | _ => true
@[simp] theorem nio_un : nio .un = true := rfl
@[simp] theorem nio_own {t : PV} : nio (.own t) = true := rfl
@[simp] theorem nio_shr {t : PV} : nio (.shr t) = true := rfl
@[simp] theorem nio_io {t : PV} : nio (.io t) = false := rfl
@[simp] theorem lkI_eq {τ : En} {i : Nat} : lkI τ i = match τ[i]? with | some s => nio s | none => false := by
  unfold lkI
  cases τ[i]? with
  | none => rfl
  | some s => cases s <;> rfl
section
variable {τ : En} {i j : Nat} {a b c : PX} {f g : SX} {k : Kd} {t : PV}
@[simp ↓] theorem eC_ap {t : PV} : eC t τ = some (.own, t) := rfl
@[simp ↓] theorem eBin_ap {h} : eBin h a b τ = (a τ).bind fun x => (b τ).bind fun y => h x.2 y.2 := rfl
@[simp ↓] theorem eUn_ap {h} : eUn h a τ = (a τ).bind fun x => h x.2 := rfl
@[simp ↓] theorem eIdx_ap : eIdx a b τ = (a τ).bind fun x => (b τ).bind fun y => gIdx x.1 x.2 y.2 := rfl
@[simp ↓] theorem eSl_ap {l h} : eSl a l h τ = (a τ).bind fun x => (l τ).bind fun l => (h τ).bind fun h => gSl x.2 l h := rfl
@[simp ↓] theorem eNP_ap : eNP τ = some none := rfl
@[simp ↓] theorem eSP_ap : eSP a τ = (a τ).bind fun x => match x.2 with | .int i => some (some i) | _ => none := rfl
@[simp ↓] theorem eTru_ap : eTru a τ = (a τ).bind fun x => tru x.2 := rfl
@[simp ↓] theorem eTrB_ap : eTrB a τ = (a τ).bind fun x => match x.2 with | .bl b => some b | _ => none := rfl
@[simp ↓] theorem tNotC_ap {f : TX} : tNotC f τ = (f τ).map (!·) := rfl
@[simp ↓] theorem tAndC_ap {f g : TX} : tAndC f g τ = (f τ).bind fun b => if b then g τ else some false := rfl
@[simp ↓] theorem tOrC_ap {f g : TX} : tOrC f g τ = (f τ).bind fun b => if b then some true else g τ := rfl
@[simp ↓] theorem eNot_ap : eNot a τ = (a τ).bind fun x => (tru x.2).map fun b => (.own, .bl (!b)) := rfl
@[simp ↓] theorem eAnd_ap : eAnd a b τ = (a τ).bind fun x => (tru x.2).bind fun c => if c then b τ else some x := rfl
@[simp ↓] theorem eOr_ap : eOr a b τ = (a τ).bind fun x => (tru x.2).bind fun c => if c then some x else b τ := rfl
@[simp ↓] theorem eIf_ap {c : TX} : eIf c a b τ = (c τ).bind fun x => if x then a τ else b τ := rfl
@[simp ↓] theorem eChain_ap {h h'} : eChain h h' a b c τ = (a τ).bind fun x => (b τ).bind fun y => (h x.2 y.2).bind fun z => match z.2 with
  | .bl true => (c τ).bind fun u => (h' y.2 u.2).bind fun q => match q.2 with | .bl b => some (.own, .bl b) | _ => none
  | .bl false => some (.own, .bl false)
  | _ => none := rfl
@[simp ↓] theorem evs_nil' : evs [] τ = some [] := rfl
@[simp ↓] theorem evs_cons' {a : PX} {r : List PX} : evs (a :: r) τ = (a τ).bind fun x => (evs r τ).bind fun s => some (x :: s) := rfl
@[simp ↓] theorem eLst_ap {fs} : eLst fs τ = (evs fs τ).bind fun rs => some (kds rs, .lst (rs.map (·.2))) := rfl
@[simp ↓] theorem eTup_ap {fs} : eTup fs τ = (evs fs τ).bind fun rs => some (kdOf (.tup (rs.map (·.2))) (kds rs), .tup (rs.map (·.2))) := rfl
@[simp ↓] theorem eCB_ap {h fs} : eCB h fs τ = (evs fs τ).bind fun rs => h (rs.map (·.2)) := rfl
@[simp ↓] theorem eCall_ap {T : Tbl} {x : String} {fs} : eCall T x fs τ = (evs fs τ).bind fun rs => (T.sem x (rs.map fun r => Sl.shr r.2)).bind fun o => some (kdOf o.2.1 (if o.1 = .own then .own else .view), o.2.1) := rfl
@[simp ↓] theorem eIsi_ap {T : String} : eIsi T a τ = (a τ).bind fun x => (isiB T x.2).map fun b => (.own, .bl b) := rfl
@[simp ↓] theorem eBM_ap {T h fs} : eBM T h a fs τ = (a τ).bind fun x => if rcT x.2 = some T then (evs fs τ).bind fun rs => h x.2 (rs.map (·.2)) else none := rfl
@[simp ↓] theorem eIx_ap : eIx a b τ = (a τ).bind fun x => (b τ).bind fun y => gIx x.2 y.2 := rfl
@[simp ↓] theorem iRevR1_ap : iRevR1 a τ = (a τ).bind fun x => (isI x.2).bind fun j => if bd62 j then some (.shr, rgC (((j.toNat : Nat) : Int) - 1) (-1) j.toNat) else none := rfl
@[simp ↓] theorem iRg3d_ap : iRg3d a b τ = (a τ).bind fun x => (b τ).bind fun y => (isI x.2).bind fun i => (isI y.2).bind fun j => if bd62 i && bd62 j then some (.shr, rgC i (-1) (i - j).toNat) else none := rfl
@[simp ↓] theorem eRev_ap : eRev a τ = (a τ).bind fun x => gRev x.2 := rfl
@[simp ↓] theorem mP_ap : mP a τ = (a τ).map fun r => (r.1, r.2, τ) := rfl
@[simp ↓] theorem mBin_ap {h} {a b : MX} : mBin h a b τ = (a τ).bind fun x => (b x.2.2).bind fun y => if x.1 = .view then none else (h x.2.1 y.2.1).map fun z => (z.1, z.2, y.2.2) := rfl
@[simp ↓] theorem mBinP_ap {h} {a : MX} : mBinP h a b τ = (a τ).bind fun x => (b x.2.2).bind fun y => (h x.2.1 y.2).map fun z => (z.1, z.2, x.2.2) := rfl
@[simp ↓] theorem mUn_ap {h} {a : MX} : mUn h a τ = (a τ).bind fun x => (h x.2.1).map fun z => (z.1, z.2, x.2.2) := rfl
@[simp ↓] theorem mCB_ap {h fs} : mCB h fs τ = (evsA fs τ).bind fun s => (arT s.2 s.1).bind fun ts => (h ts).map fun z => (z.1, z.2, s.2) := rfl
@[simp ↓] theorem mCall_ap {T : Tbl} {x : String} {fs} : mCall T x fs τ = (evsA fs τ).bind fun s => (arT s.2 s.1).bind fun ts => (T.sem x (ts.map Sl.shr)).bind fun o => some (kdOf o.2.1 (if o.1 = .own then .own else .view), o.2.1, s.2) := rfl
@[simp ↓] theorem mCallI_ap {T : Tbl} {x : String} {fs} : mCallI T x j i fs τ = (evsA fs τ).bind fun s => if slPos i 0 s.1 = [j] then (asOf s.2 i s.1).bind fun as => (T.sem x as).bind fun o => match o.2.2[j]? with
    | some (.io t') => some (kdOf o.2.1 (if o.1 = .own then .own else .view), o.2.1, setT s.2 i t')
    | _ => none
  else none := rfl
@[simp ↓] theorem mIdx_ap {a b : MX} : mIdx a b τ = (a τ).bind fun x => (b x.2.2).bind fun y => if x.1 = .view then none else (gIdx .view x.2.1 y.2.1).map fun z => (z.1, z.2, y.2.2) := rfl
@[simp ↓] theorem mIdxN_ap {b : MX} : mIdxN i b τ = (trOf τ i).bind fun _ => (b τ).bind fun y => (trOf y.2.2 i).bind fun x => (gIdx .view x y.2.1).map fun z => (z.1, z.2, y.2.2) := rfl
@[simp ↓] theorem mNP_ap : mNP τ = some (none, τ) := rfl
@[simp ↓] theorem mSP_ap {a : MX} : mSP a τ = (a τ).bind fun x => match x.2.1 with | .int i => some (some i, x.2.2) | _ => none := rfl
@[simp ↓] theorem mSl_ap {a : MX} {lo hi : MOX} : mSl a lo hi τ = (a τ).bind fun x => if x.1 = .view then none else (lo x.2.2).bind fun l => (hi l.2).bind fun h => (gSlM x.2.1 l.1 h.1).map fun z => (z.1, z.2, h.2) := rfl
@[simp ↓] theorem mLst_ap {fs} : mLst fs τ = (evsA fs τ).bind fun s => (arT s.2 s.1).bind fun ts => if imms ts = true then some (.own, .lst ts, s.2) else none := rfl
@[simp ↓] theorem mTup_ap {fs} : mTup fs τ = (evsA fs τ).bind fun s => (arT s.2 s.1).bind fun ts => if imms ts = true then some (.own, .tup ts, s.2) else none := rfl
@[simp ↓] theorem sAsgG_ap {g : GX} {a : MX} : sAsgG g a τ = (a τ).bind fun r => if r.1 = .view then none else (g r.2.1 r.2.2).bind fun τ' => some (.nx, τ') := rfl
@[simp] theorem gTp_ap {g : GXs} {ts : List PV} : gTp g (.tup ts) τ = g ts τ := rfl
@[simp] theorem gsNil_ap : gsNil [] τ = some τ := rfl
@[simp] theorem gsCons_ap {g : GX} {h : GXs} {t : PV} {ts : List PV} : gsCons g h (t :: ts) τ = (g t τ).bind fun τ1 => h ts τ1 := rfl
@[simp] theorem gMin2_int {i j : Int} : gMin2 (.int i) (.int j) = some (.own, .int (if j < i then j else i)) := rfl
@[simp] theorem gMax2_int {i j : Int} : gMax2 (.int i) (.int j) = some (.own, .int (if j > i then j else i)) := rfl
@[simp] theorem gList1_lst {xs : List PV} : gList1 (.lst xs) = some (if imms xs then .own else .view, .lst xs) := rfl
@[simp] theorem gTuple1_lst {xs : List PV} : gTuple1 (.lst xs) = some (if imms xs then .own else .view, .tup xs) := rfl
@[simp] theorem gSl_str {s : Tx} {l h : Option Int} : gSl (.str s) l h = some (.own, .str (cutL s l h)) := rfl
@[simp] theorem gSlM_str {s : Tx} {l h : Option Int} : gSlM (.str s) l h = some (.own, .str (cutL s l h)) := rfl
@[simp] theorem gRev_str {s : Tx} : gRev (.str s) = some (.own, .str s.reverse) := rfl
@[simp] theorem itK_shr : itK .shr = .shr := rfl
@[simp] theorem itK_own : itK .own = .shr := rfl
@[simp] theorem itK_view : itK .view = .view := rfl
@[simp ↓] theorem sForN_ap {h} : sForN i h f τ = match τ[i]? with
  | some (.own (.lst _)) => sForLv i h f τ
  | some (.io (.lst _)) => sForLi i h f τ
  | _ => sFor (iVal (eVar i)) h f τ := rfl
@[simp] theorem unIo_ap : unIo i τ = match τ[i]? with
  | some (.io t) => some (τ.set i (.own t))
  | _ => none := rfl
@[simp ↓] theorem mtP_ap {f : TX} : mtP f τ = (f τ).map fun b => (b, τ) := rfl
@[simp ↓] theorem mTru_ap {a : MX} : mTru a τ = (a τ).bind fun x => (tru x.2.1).map fun b => (b, x.2.2) := rfl
@[simp ↓] theorem mTrB_ap {a : MX} : mTrB a τ = (a τ).bind fun x => match x.2.1 with | .bl b => some (b, x.2.2) | _ => none := rfl
@[simp ↓] theorem mNotC_ap {f : MTX} : mNotC f τ = (f τ).map fun x => (!x.1, x.2) := rfl
@[simp ↓] theorem mAndC_ap {f g : MTX} : mAndC f g τ = (f τ).bind fun b => if b.1 then g b.2 else some (false, b.2) := rfl
@[simp ↓] theorem mOrC_ap {f g : MTX} : mOrC f g τ = (f τ).bind fun b => if b.1 then some (true, b.2) else g b.2 := rfl
@[simp ↓] theorem mIf_ap {c : MTX} {f g : MX} : mIf c f g τ = (c τ).bind fun b => if b.1 then f b.2 else g b.2 := rfl
@[simp ↓] theorem mBM_ap {T h fs} {a : MX} : mBM T h a fs τ = (a τ).bind fun x => if rcT x.2.1 = some T ∧ x.1 ≠ .view then (evsA fs x.2.2).bind fun s => (arT s.2 s.1).bind fun ts => (h x.2.1 ts).map fun z => (z.1, z.2, s.2) else none := rfl
@[simp ↓] theorem sNil_ap : sNil τ = some (.nx, τ) := rfl
@[simp ↓] theorem sSeq_ap : sSeq f g τ = (f τ).bind fun r => match r.1 with | .nx => g r.2 | o => some (o, r.2) := rfl
@[simp ↓] theorem sAsg_ap : sAsg i a τ = (a τ).bind fun r => (putI τ i r.1 r.2).bind fun τ' => some (.nx, τ') := rfl
@[simp ↓] theorem sAsgM_ap {a : MX} : sAsgM i a τ = (a τ).bind fun r => (putI r.2.2 i r.1 r.2.1).bind fun τ' => some (.nx, τ') := rfl
@[simp ↓] theorem sPar_ap : sPar i j a b τ = (a τ).bind fun x => (b τ).bind fun y => (putI τ i x.1 x.2).bind fun τ1 => (putI τ1 j y.1 y.2).bind fun τ2 => some (.nx, τ2) := rfl
@[simp ↓] theorem sAug_ap {h} : sAug i h a τ = (eVar i τ).bind fun x => (a τ).bind fun y => (h x.2 y.2).bind fun z => (putI τ i z.1 z.2).bind fun τ' => some (.nx, τ') := rfl
@[simp ↓] theorem sAugM_ap {h} {a : MX} : sAugM i h a τ = (mBin h (mP (eVar i)) a τ).bind fun z => (putI z.2.2 i z.1 z.2.1).bind fun τ' => some (.nx, τ') := rfl
@[simp ↓] theorem sRet_ap : sRet a τ = (a τ).bind fun r => match r.1 with | .view => none | k => some (.ret k r.2, τ) := rfl
@[simp ↓] theorem sRetM_ap {a : MX} : sRetM a τ = (a τ).bind fun r => match r.1 with | .view => none | k => some (.ret k r.2.1, r.2.2) := rfl
@[simp ↓] theorem sRetN_ap : sRetN τ = some (.ret .own .non, τ) := rfl
@[simp ↓] theorem sPass_ap : sPass τ = some (.nx, τ) := rfl
@[simp ↓] theorem sBrk_ap : sBrk τ = some (.bk, τ) := rfl
@[simp ↓] theorem sCnt_ap : sCnt τ = some (.ct, τ) := rfl
@[simp ↓] theorem sIf_ap {c : TX} : sIf c f g τ = (c τ).bind fun b => if b then f τ else g τ := rfl
@[simp ↓] theorem sIfM_ap {c : MTX} : sIfM c f g τ = (c τ).bind fun b => if b.1 then f b.2 else g b.2 := rfl
@[simp ↓] theorem sExp_ap : sExp a τ = (a τ).bind fun _ => some (.nx, τ) := rfl
@[simp ↓] theorem sExpM_ap {a : MX} : sExpM a τ = (a τ).bind fun r => some (.nx, r.2.2) := rfl
@[simp ↓] theorem iVal_ap : iVal a τ = (a τ).bind fun r => itOf r.1 r.2 := rfl
@[simp ↓] theorem iRg1_ap : iRg1 a τ = (a τ).bind fun x => (isI x.2).bind fun j => if bd62 j then some (.shr, rgL 0 j.toNat) else none := rfl
@[simp ↓] theorem iRg2_ap : iRg2 a b τ = (a τ).bind fun x => (b τ).bind fun y => (isI x.2).bind fun i => (isI y.2).bind fun j => if bd62 i && bd62 j then some (.shr, rgL i (j - i).toNat) else none := rfl
@[simp ↓] theorem imP_ap {f : IX} : imP f τ = (f τ).map fun r => (r.1, r.2, τ) := rfl
@[simp ↓] theorem imVal_ap {a : MX} : imVal a τ = (a τ).bind fun r => if r.1 = .view then none else (itOf r.1 r.2.1).map fun s => (s.1, s.2, r.2.2) := rfl
@[simp ↓] theorem imRg1_ap {a : MX} : imRg1 a τ = (a τ).bind fun x => (isI x.2.1).bind fun j => if bd62 j then some (.shr, rgL 0 j.toNat, x.2.2) else none := rfl
@[simp ↓] theorem sFor_ap {it h} : sFor it h f τ = (it τ).bind fun r => if r.1 = .view then none else forL h f r.2 τ := rfl
@[simp ↓] theorem sForM_ap {it h} : sForM it h f τ = (it τ).bind fun r => if r.1 = .view then none else forL h f r.2.1 r.2.2 := rfl
theorem eComp_ap {it vs h cd el} : eComp it vs h cd el τ = (it τ).bind fun r => if r.2.length ≤ 16777216 then (compL h cd el (cEnv τ vs) r.2).bind fun rs => some (if kds rs = .own then .own else .view, .lst (rs.map (·.2))) else none := rfl
theorem eCompM_ap {it vs h cd el} : eCompM it vs h cd el τ = (it τ).bind fun r => if r.2.1.length ≤ 16777216 ∧ r.1 ≠ .view ∧ okW r.2.2 vs = true then (compLM vs h cd el r.2.1 (wipeE r.2.2 vs)).bind fun rs => some (.own, .lst rs.1, rstE r.2.2 rs.2 vs) else none := rfl
@[simp ↓] theorem tYesC_ap : tYesC τ = some true := rfl
@[simp ↓] theorem gN_ap {t : PV} : gN i t τ = putI τ i (kdOf t .shr) t := rfl
@[simp] theorem sWh_ap {c : TX} : sWh c f τ = whL c f whFuel τ := rfl
end
@[simp] theorem mulOk_l {i j : Int} (h : -(2 ^ 64) < i ∧ i < 2 ^ 64) : mulOk i j = true := by
  unfold mulOk
  rw [decide_eq_true h.1, decide_eq_true h.2]
  rfl
@[simp] theorem mulOk_r {i j : Int} (h : -(2 ^ 64) < j ∧ j < 2 ^ 64) : mulOk i j = true := by
  unfold mulOk
  rw [decide_eq_true h.1, decide_eq_true h.2, Bool.and_self, Bool.or_true, Bool.true_or]
@[simp] theorem bd62_lit {i : Int} (h : -(2 ^ 62) ≤ i ∧ i < 2 ^ 62) : bd62 i = true := by
  unfold bd62
  rw [decide_eq_true h.1, decide_eq_true h.2]
  rfl
@[simp] theorem gMul_int {i j : Int} : gMul (.int i) (.int j) = if mulOk i j = true then some (.own, .int (i * j)) else none := rfl
theorem log2_lt' {n : Nat} (h : n < 2 ^ 64) : n.log2 < 9000 := by
  by_cases h0 : n = 0
  · subst h0; decide
  · have := (Nat.log2_lt h0 (k := 64)).mpr h
    omega
@[simp] theorem gFdiv_int {i j : Int} (h : 0 < j ∧ j < 2 ^ 64) : gFdiv (.int i) (.int j) = some (.own, .int (i / j)) := by
  unfold gFdiv
  have : j.natAbs.log2 < 9000 := log2_lt' (by omega)
  simp only [decide_eq_true h.1, decide_eq_true this]
  rfl
inductive Al2 {α β : Type} (P : α → β → Prop) : List α → List β → Prop where
  | nil : Al2 P [] []
  | cons {a : α} {b : β} {l : List α} {m : List β} : P a b → Al2 P l m → Al2 P (a :: l) (b :: m)
theorem Al2.length {α β : Type} {P : α → β → Prop} {l : List α} {m : List β} (h : Al2 P l m) : m.length = l.length := by
  induction h with
  | nil => rfl
  | cons _ _ ih => simp [ih]
theorem Al2.mem {α β : Type} {P : α → β → Prop} {l : List α} {m : List β} (h : Al2 P l m) : ∀ b ∈ m, ∃ a ∈ l, P a b := by
  induction h with
  | nil => intro b hb; cases hb
  | cons p _ ih =>
    intro b hb
    rcases List.mem_cons.mp hb with z | z
    · exact ⟨_, List.mem_cons_self, by rw [z]; exact p⟩
    · obtain ⟨a, ha, q⟩ := ih b z
      exact ⟨a, List.mem_cons_of_mem _ ha, q⟩
theorem runF_W {e : FE} {T : Tbl} {as : List Sl} {Q : Kd × PV × List Sl → Prop} (h : as.length = e.ps.length) (w : W (e.body T (as ++ List.replicate (e.N.length - as.length) .un)) fun r => match r.1 with
    | .nx => Q (.own, .non, outs as r.2)
    | .ret k t => Q (k, t, outs as r.2)
    | _ => False) : W (runF e T as) Q := by
  unfold runF
  rw [if_pos h, W_bind]
  refine w.mono fun r q => ?_
  split at q
  · rename_i h1; (try rw [h1]); exact W_some.mpr q
  · rename_i h1; (try rw [h1]); exact W_some.mpr q
  · exact q.elim

/-! ### loops -/
theorem W_forL {g : GX} {f : SX} {ts : List PV} {τ : En} {Q : Out × En → Prop} (I : Nat → En → Prop) (h0 : I 0 τ)
    (st : ∀ i t τ, ts[i]? = some t → I i τ → W (g t τ) fun τ1 => W (f τ1) fun r => match r.1 with
      | .nx => I (i + 1) r.2
      | .ct => I (i + 1) r.2
      | .bk => Q (.nx, r.2)
      | .ret k u => Q (.ret k u, r.2)) (he : ∀ τ, I ts.length τ → Q (.nx, τ)) : W (forL g f ts τ) Q := by
  have key : ∀ (n : Nat) (us : List PV) (τ : En), us = ts.drop n → n ≤ ts.length → I n τ → W (forL g f us τ) Q := by
    intro n us
    induction us generalizing n with
    | nil =>
      intro τ e hn h
      have : n = ts.length := by
        have := congrArg List.length e
        simp at this; omega
      subst this
      simp only [forL, W_some]
      exact he τ h
    | cons t us ih =>
      intro τ e hn h
      have ht : ts[n]? = some t := by
        have : (ts.drop n)[0]? = some t := by rw [← e]; rfl
        simpa using this
      have hus : us = ts.drop (n + 1) := by
        have : (ts.drop n).tail = us := by rw [← e]; rfl
        rw [← this, List.tail_drop]
      have hlt : n < ts.length := (List.getElem?_eq_some_iff.mp ht).1
      simp only [forL, W_bind]
      refine (st n t τ ht h).mono fun τ1 h1 => ?_
      rw [W_bind]
      refine h1.mono fun r hr => ?_
      split at hr
      · rename_i e1; (try rw [e1]); exact ih (n + 1) r.2 hus hlt hr
      · rename_i e1; (try rw [e1]); exact ih (n + 1) r.2 hus hlt hr
      · rename_i e1; (try rw [e1]); exact W_some.mpr hr
      · rename_i e1; (try rw [e1]); exact W_some.mpr hr
  exact key 0 ts τ rfl (Nat.zero_le _) h0
theorem rgL_get {lo : Int} {n i : Nat} {t : PV} (h : (rgL lo n)[i]? = some t) : i < n ∧ t = .int (lo + i) := by
  unfold rgL at h
  rw [List.getElem?_map] at h
  cases e : (List.range n)[i]? with
  | none => rw [e] at h; cases h
  | some j =>
    rw [e] at h
    obtain ⟨h1, h2⟩ := List.getElem?_eq_some_iff.mp e
    simp at h1 h2
    subst h2
    cases h
    exact ⟨h1, rfl⟩
@[simp] theorem rgL_length {lo : Int} {n : Nat} : (rgL lo n).length = n := by simp [rgL]
theorem W_whL {c : TX} {f : SX} {Q : Out × En → Prop} (I : Nat → En → Prop)
    (st : ∀ n τ, I n τ → W (c τ) fun b => if b = true then W (f τ) fun r => match r.1 with
      | .nx => ∃ m, m < n ∧ I m r.2
      | .ct => ∃ m, m < n ∧ I m r.2
      | .bk => Q (.nx, r.2)
      | .ret k u => Q (.ret k u, r.2) else Q (.nx, τ)) : ∀ (fuel n : Nat) (τ : En), I n τ → n < fuel → W (whL c f fuel τ) Q
  | 0, n, τ, _, h => absurd h (Nat.not_lt_zero _)
  | fuel + 1, n, τ, hI, h => by
    simp only [whL, W_bind]
    refine (st n τ hI).mono fun b hb => ?_
    cases b
    · simpa using hb
    · simp only [if_true] at hb ⊢
      rw [W_bind]
      refine hb.mono fun r hr => ?_
      split at hr
      · rename_i e1; (try rw [e1]); obtain ⟨m, hm, hI⟩ := hr; exact W_whL I st fuel m r.2 hI (by omega)
      · rename_i e1; (try rw [e1]); obtain ⟨m, hm, hI⟩ := hr; exact W_whL I st fuel m r.2 hI (by omega)
      · rename_i e1; (try rw [e1]); exact W_some.mpr hr
      · rename_i e1; (try rw [e1]); exact W_some.mpr hr
theorem imms_get : ∀ {xs : List PV} {x : PV}, imms xs = true → x ∈ xs → imm x = true
  | y :: ys, x, h, hx => by
    simp only [imms, Bool.and_eq_true] at h
    rcases List.mem_cons.mp hx with z | z
    · rw [z]; exact h.1
    · exact imms_get h.2 z
theorem W_forLv {i : Nat} {g : GX} {f : SX} {τ : En} {Q : Out × En → Prop} {ts : List PV} (hτ : τ[i]? = some (.own (.lst ts))) (I : Nat → En → Prop) (h0 : I 0 (τ.set i (.io (.lst ts)))) (hl : ts.length < 1000000) (him : imms ts = true)
    (st : ∀ k t τ1, ts[k]? = some t → I k τ1 → τ1[i]? = some (.io (.lst ts)) ∧ W (g t τ1) fun τ2 => W (f τ2) fun r => match r.1 with
      | .nx => I (k + 1) r.2
      | .ct => I (k + 1) r.2
      | .bk => W (unIo i r.2) fun τ' => Q (.nx, τ')
      | .ret k u => W (unIo i r.2) fun τ' => Q (.ret k u, τ')) (he : ∀ τ1, I ts.length τ1 → τ1[i]? = some (.io (.lst ts)) ∧ W (unIo i τ1) fun τ' => Q (.nx, τ')) : W (sForLv i g f τ) Q := by
  unfold sForLv
  rw [hτ]
  show W ((liveL i g f whFuel 0 (τ.set i (.io (.lst ts)))).bind fun r => (unIo i r.2).bind fun τ' => some (r.1, τ')) Q
  rw [W_bind]
  have key : ∀ (n k : Nat) (τ1 : En), k ≤ ts.length → ts.length < k + n → I k τ1 → W (liveL i g f n k τ1) fun r => W ((unIo i r.2).bind fun τ' => some (r.1, τ')) Q := by
    intro n
    induction n with
    | zero => intro k τ1 h1 h2; omega
    | succ n ih =>
      intro k τ1 h1 h2 hI
      by_cases hk : k < ts.length
      · obtain ⟨e1, e2⟩ := st k ts[k] τ1 (List.getElem?_eq_getElem hk) hI
        simp only [liveL, e1]
        rw [List.getElem?_eq_getElem hk]
        simp only []
        rw [if_pos (imms_get him (List.getElem_mem hk)), W_bind]
        refine e2.mono fun τ2 h3 => ?_
        rw [W_bind]
        refine h3.mono fun r hr => ?_
        obtain ⟨o, τ3⟩ := r
        cases o with
        | nx => exact ih (k + 1) τ3 hk (by omega) hr
        | ct => exact ih (k + 1) τ3 hk (by omega) hr
        | bk => rw [W_some, W_bind]; exact W.mono hr fun τ' h => W_some.mpr h
        | ret k' u => rw [W_some, W_bind]; exact W.mono hr fun τ' h => W_some.mpr h
      · have : k = ts.length := by omega
        subst this
        obtain ⟨e1, e2⟩ := he τ1 hI
        simp only [liveL, e1]
        rw [List.getElem?_eq_none (Nat.le_refl _)]
        simp only []
        rw [W_some, W_bind]
        exact W.mono e2 fun τ' h => W_some.mpr h
  exact key whFuel 0 _ (Nat.zero_le _) (by unfold whFuel; omega) h0
/-! ### comprehensions -/
theorem compL_eq {g : GX} {cd : TX} {el : PX} {τ : En} (p : PV → Bool) (h : PV → PV) : ∀ ts : List PV, (∀ t ∈ ts, W (g t τ) fun τ1 => W (cd τ1) fun b => b = p t ∧ (p t = true → W (el τ1) fun r => r = (.own, h t))) →
    compL g cd el τ ts = some ((ts.filter p).map fun t => (.own, h t))
  | [], _ => rfl
  | t :: ts, hh => by
    have ih := compL_eq p h ts fun u hu => hh u (List.mem_cons_of_mem _ hu)
    obtain ⟨τ1, e1, b, e2, eb, k⟩ := hh t List.mem_cons_self
    subst eb
    simp only [compL, e1, Option.bind_some, e2, ih]
    cases hp : p t with
    | false => simp [hp]
    | true =>
      obtain ⟨r, e3, er⟩ := k hp
      simp [hp, e3, er]
theorem kds_map {α : Type} (h : α → PV) : ∀ ts : List α, kds (ts.map fun t => (Kd.own, h t)) = .own
  | [] => rfl
  | t :: ts => by simp [kds_map h ts]
theorem W_comp {it : IX} {vs : List Nat} {g : GX} {cd : TX} {el : PX} {τ : En} {Q : Kd × PV → Prop} (p : PV → Bool) (h : PV → PV) (hi : W (it τ) fun r => r.2.length ≤ 16777216 ∧
    (∀ t ∈ r.2, W (g t (cEnv τ vs)) fun τ1 => W (cd τ1) fun b => b = p t ∧ (p t = true → W (el τ1) fun r => r = (.own, h t))) ∧ Q (.own, .lst ((r.2.filter p).map h))) : W (eComp it vs g cd el τ) Q := by
  rw [eComp_ap, W_bind]
  refine hi.mono fun r hr => ?_
  rw [if_pos hr.1, compL_eq p h r.2 hr.2.1]
  simp only [Option.bind_some, W_some, kds_map, if_true, List.map_map]
  exact hr.2.2
/-- the items that a comprehension draws -/
theorem W_compLM {vs : List Nat} {g : GX} {el : MX} (I : En → Prop) (P : PV → PV → Prop) : ∀ (ts : List PV) (τ : En) {Q : List PV × En → Prop}, I τ →
    (∀ t ∈ ts, ∀ τ, I τ → W (g t τ) fun τ1 => W (el τ1) fun r => r.1 = .own ∧ P t r.2.1 ∧ I (wipeE r.2.2 vs)) → (∀ rs τ', Al2 P ts rs → I τ' → Q (rs, τ')) → W (compLM vs g tYesC el ts τ) Q
  | [], τ, Q, hI, _, hq => by
    simp only [compLM, W_some]
    exact hq [] τ .nil hI
  | t :: ts, τ, Q, hI, hh, hq => by
    simp only [compLM, W_bind, tYesC_ap]
    refine (hh t List.mem_cons_self τ hI).mono fun τ1 h1 => ?_
    rw [W_bind, W_some, if_pos rfl, W_bind]
    refine h1.mono fun r ⟨e, hp, hI'⟩ => ?_
    rw [if_pos e, W_bind]
    refine W_compLM I P ts (wipeE r.2.2 vs) hI' (fun u hu => hh u (List.mem_cons_of_mem _ hu)) fun rs τ' f i => ?_
    rw [W_some]
    exact hq _ _ (.cons hp f) i
theorem W_compM {it : IMX} {vs : List Nat} {g : GX} {el : MX} {τ : En} {Q : Kd × PV × En → Prop} (I : En → Prop) (P : PV → PV → Prop) (hi : W (it τ) fun r => (r.2.1.length ≤ 16777216 ∧ r.1 ≠ .view ∧ okW r.2.2 vs = true) ∧ I (wipeE r.2.2 vs) ∧
    (∀ t ∈ r.2.1, ∀ τ, I τ → W (g t τ) fun τ1 => W (el τ1) fun u => u.1 = .own ∧ P t u.2.1 ∧ I (wipeE u.2.2 vs)) ∧ ∀ rs τ', Al2 P r.2.1 rs → I τ' → Q (.own, .lst rs, rstE r.2.2 τ' vs)) : W (eCompM it vs g tYesC el τ) Q := by
  rw [eCompM_ap, W_bind]
  refine hi.mono fun r hr => ?_
  rw [if_pos hr.1, W_bind]
  refine W_compLM I P _ _ hr.2.1 hr.2.2.1 fun rs τ' f i => ?_
  rw [W_some]
  exact hr.2.2.2 rs τ' f i
end Pv
namespace Pv
open PySem PySem.Spec L2

/-! ### the laws' common helpers -/
def F_cell (T : Tbl) : SX :=
    (sSeq (sIf (eTrB (eBin gLt (eVar 1) (eCB (g1 gLen) [(eVar 0)])))
    (sRet (eIdx (eVar 0) (eVar 1)))
    sNil)
    (sRet (eC (.int 0))))
def eL_cell (st : Stmt) : FE := ⟨"_law_cell", ["script", "k"], ["script", "k"], st, F_cell⟩
def F_digits (T : Tbl) : SX :=
    (sSeq (sAsg 3 (eLst []))
    (sSeq (sFor (iRg2 (eVar 1) (eVar 2)) (gN 4)
    (sSeq (sAsg 5 (eCall T "_law_cell" [(eVar 0), (eVar 4)]))
    (sSeq (sIf (eTrB (eBin gLt (eVar 5) (eC (.int 0))))
    (sAsg 5 (eBin gSub (eC (.int 1)) (eBin gMul (eC (.int 2)) (eVar 5))))
    sNil)
    (sIf (eTrB (eBin gGe (eVar 5) (eBin gPow (eC (.int 10)) (eC (.int 18)))))
    (sFor (iRg1 (eC (.int 60))) (gN 6)
    (sIf (eTrB (eBin gGt (eVar 5) (eC (.int 0))))
    (sSeq (sApp 3 (mP (eBin gMod (eCB (g1 gInt) [(eVar 5)]) (eC (.int 1000)))))
    (sAsg 5 (eBin gFdiv (eVar 5) (eC (.int 1000)))))
    sNil))
    (sSeq (sAsg 7 (eBin gMod (eCB (g1 gInt) [(eBin gAdd (eBin gAdd (eBin gMul (eVar 5) (eC (.int 48271))) (eBin gMul (eVar 4) (eC (.int 69621)))) (eC (.int 11)))]) (eC (.int 2147483647))))
    (sFor (iRg1 (eC (.int 12))) (gN 6)
    (sSeq (sAsg 7 (eBin gMod (eCB (g1 gInt) [(eBin gAdd (eBin gAdd (eBin gMul (eVar 7) (eC (.int 16807))) (eBin gMul (eC (.int 7)) (eVar 6))) (eC (.int 1)))]) (eC (.int 2147483647))))
    (sApp 3 (mP (eBin gMod (eCB (g1 gInt) [(eBin gFdiv (eVar 7) (eC (.int 997)))]) (eC (.int 1000))))))))))))
    (sRetV 3)))
def eL_digits (st : Stmt) : FE := ⟨"_law_digits", ["script", "first", "last"], ["script", "first", "last", "digits", "k", "cell", "turn", "seed"], st, F_digits⟩
def F_draw (T : Tbl) : SX :=
    (sSeq (sSetL 0 (eC (.int 1)) (mP (eBin gAdd (eIdx (eVar 0) (eC (.int 1))) (eC (.int 1)))))
    (sSeq (sIf (eTrB (eBin gGt (eIdx (eVar 0) (eC (.int 1))) (eCB (g1 gLen) [(eIdx (eVar 0) (eC (.int 0)))])))
    (sRet (eBin gMod (eCB (g1 gInt) [(eBin gAdd (eBin gMul (eIdx (eVar 0) (eC (.int 1))) (eC (.int 7))) (eC (.int 3)))]) (eVar 1)))
    sNil)
    (sRet (eBin gMod (eCB (g1 gInt) [(eIdx (eIdx (eVar 0) (eC (.int 0))) (eBin gSub (eIdx (eVar 0) (eC (.int 1))) (eC (.int 1))))]) (eVar 1)))))
def eL_draw (st : Stmt) : FE := ⟨"_law_draw", ["box", "many"], ["box", "many"], st, F_draw⟩
def F_same (T : Tbl) : SX :=
    (sSeq (sIf (eTrB (eBin gIs (eVar 1) (eC .non)))
    (sRet (eBin gIs (eVar 0) (eC .non)))
    sNil)
    (sSeq (sIf (eTrB (eBin gIs (eVar 1) (eC (.bl true))))
    (sRet (eBin gIs (eVar 0) (eC (.bl true))))
    sNil)
    (sSeq (sIf (eTrB (eBin gIs (eVar 1) (eC (.bl false))))
    (sRet (eBin gIs (eVar 0) (eC (.bl false))))
    sNil)
    (sSeq (sIf (eTru (eIsi "str" (eVar 1)))
    (sRet (eAnd (eIsi "str" (eVar 0)) (eBin gEq (eCB (g1 gRepr) [(eVar 0)]) (eCB (g1 gRepr) [(eVar 1)]))))
    sNil)
    (sSeq (sIf (eTru (eIsi "int" (eVar 1)))
    (sRet (eAnd (eIsi "int" (eVar 0)) (eAnd (eNot (eIsi "bool" (eVar 0))) (eBin gEq (eCB (g1 gRepr) [(eVar 0)]) (eCB (g1 gRepr) [(eVar 1)])))))
    sNil)
    (sSeq (sIf (tOrC (tAndC (eTru (eIsi "tuple" (eVar 1))) (tNotC (eTru (eIsi "tuple" (eVar 0))))) (tAndC (eTru (eIsi "list" (eVar 1))) (tNotC (eTru (eIsi "list" (eVar 0))))))
    (sRet (eC (.bl false)))
    sNil)
    (sSeq (sIf (eTrB (eBin gNe (eCB (g1 gLen) [(eVar 0)]) (eCB (g1 gLen) [(eVar 1)])))
    (sRet (eC (.bl false)))
    sNil)
    (sSeq (sFor (iRg1 (eCB (g1 gLen) [(eVar 1)])) (gN 2)
    (sIf (tNotC (eTru (eCall T "_law_same" [(eIdx (eVar 0) (eVar 2)), (eIdx (eVar 1) (eVar 2))])))
    (sRet (eC (.bl false)))
    sNil))
    (sRet (eC (.bl true)))))))))))
def eL_same (st : Stmt) : FE := ⟨"_law_same", ["told", "due"], ["told", "due", "k"], st, F_same⟩
def F_pick (T : Tbl) : SX :=
    (sRetM (mIdxN 1 (mBinP gMod (mCB (g1 gInt) [.mx (mCallI T "_law_draw" 0 0 [.nm 0, .px (eC (.int 1000))])]) (eCB (g1 gLen) [(eVar 1)]))))
def eL_pick (st : Stmt) : FE := ⟨"_law_pick", ["box", "row"], ["box", "row"], st, F_pick⟩

def cellF (ns : List Int) (i : Int) : Int := if i < ns.length then (ns[i.toNat]?).getD 0 else 0
theorem atI_map {ns : List Int} {i : Int} (h0 : 0 ≤ i) (h : i < ns.length) : atI (ns.map PV.int) i = some (.int ((ns[i.toNat]?).getD 0)) := by
  have hn : i.toNat < ns.length := by omega
  unfold atI ixN
  rw [List.length_map, if_pos h0, if_pos h]
  simp [List.getElem?_eq_getElem hn]
theorem cell_ok {T : Tbl} {st : Stmt} {ns : List Int} {i : Int} (h0 : 0 ≤ i) : runF (eL_cell st) T [.shr (.fz (ns.map .int)), .shr (.int i)] = some (.own, .int (cellF ns i), [.un, .un]) := by
  rw [← W.eq]
  refine runF_W rfl ?_
  show W (F_cell T [.shr (.fz (ns.map .int)), .shr (.int i)]) _
  unfold F_cell cellF
  by_cases h : i < ns.length
  · simp -dsimp -implicitDefEqProofs [h, atI_map h0 h]
  · simp -dsimp -implicitDefEqProofs [h]
/-- the laws' box: digits drawn, how many are taken -/
def BoxOk (b : PV) : Prop := ∃ (ds : List Int) (n : Nat), b = .lst [.lst (ds.map .int), .int n] ∧ ∀ d ∈ ds, 0 ≤ d ∧ d < 1000
theorem draw_ok {T : Tbl} {st : Stmt} {b : PV} {m : Int} (hb : BoxOk b) (hm : 0 < m) : ∃ r b', 0 ≤ r ∧ r < m ∧ BoxOk b' ∧ runF (eL_draw st) T [.io b, .shr (.int m)] = some (.own, .int r, [.io b', .un]) := by
  obtain ⟨ds, n, rfl, hd⟩ := hb
  have hb' : BoxOk (.lst [.lst (ds.map .int), .int (n + 1 : Nat)]) := ⟨ds, n + 1, rfl, hd⟩
  have e1 : atI [PV.lst (ds.map .int), .int n] 1 = some (.int n) := rfl
  have e2 : atI [PV.lst (ds.map .int), .int (n + 1)] 1 = some (.int (n + 1)) := rfl
  have e3 : atI [PV.lst (ds.map .int), .int (n + 1)] 0 = some (.lst (ds.map .int)) := rfl
  have e4 : ixN 2 1 = some 1 := rfl
  have mk : mulOk (↑n + 1) 7 = true := by simp [mulOk]
  by_cases h : (ds.length : Int) < n + 1
  · refine ⟨((n + 1) * 7 + 3) % m, _, Int.emod_nonneg _ (by omega), Int.emod_lt_of_pos _ hm, hb', ?_⟩
    rw [← W.eq]
    refine runF_W rfl ?_
    simp -dsimp -implicitDefEqProofs [eL_draw, F_draw, h, hm, e1, e2, e3, e4, mk]
  · have hlt : n < ds.length := by omega
    refine ⟨ds[n] % m, _, Int.emod_nonneg _ (by omega), Int.emod_lt_of_pos _ hm, hb', ?_⟩
    rw [← W.eq]
    refine runF_W rfl ?_
    have e5 : atI (ds.map PV.int) ↑n = some (.int ds[n]) := by
      rw [atI_map (by omega) (by omega)]
      simp [hlt]
    simp -dsimp -implicitDefEqProofs [eL_draw, F_draw, h, hm, e1, e2, e3, e4, e5, mk]

/-! the helpers in a table -/
def CellOk (T : Tbl) : Prop := ∀ (ns : List Int) (i : Int), 0 ≤ i → T.sem "_law_cell" [.shr (.fz (ns.map .int)), .shr (.int i)] = some (.own, .int (cellF ns i), [.un, .un])
def DrawOk (T : Tbl) : Prop := ∀ (b : PV) (m : Int), BoxOk b → 0 < m → ∃ r b', 0 ≤ r ∧ r < m ∧ BoxOk b' ∧ T.sem "_law_draw" [.io b, .shr (.int m)] = some (.own, .int r, [.io b', .un])
def PickOk (T : Tbl) : Prop := ∀ (b : PV) (s : Tx), BoxOk b → s ≠ [] → ∃ c b', c ∈ s ∧ BoxOk b' ∧ T.sem "_law_pick" [.io b, .shr (.str s)] = some (.own, .str [c], [.io b', .un])
def PickLOk (T : Tbl) : Prop := ∀ (b : PV) (xs : List PV), BoxOk b → xs ≠ [] → imms xs = true → ∃ x b', x ∈ xs ∧ BoxOk b' ∧ T.sem "_law_pick" [.io b, .shr (.lst xs)] = some (.own, x, [.io b', .un])
theorem emod_lt_len {n : Nat} {r : Int} (h : 0 < n) : 0 ≤ r % (n : Int) ∧ r % (n : Int) < n := ⟨Int.emod_nonneg _ (by omega), Int.emod_lt_of_pos _ (by omega)⟩
theorem atI_nn {α : Type} {xs : List α} {i : Int} (h0 : 0 ≤ i) (h : i < xs.length) : ∃ x, x ∈ xs ∧ atI xs i = some x := by
  have hn : i.toNat < xs.length := by omega
  refine ⟨xs[i.toNat], List.getElem_mem hn, ?_⟩
  unfold atI ixN
  rw [if_pos h0, if_pos h]
  simp [List.getElem?_eq_getElem hn]
theorem pick_ok {T : Tbl} {st : Stmt} (hd : DrawOk T) {b : PV} {s : Tx} (hb : BoxOk b) (hs : s ≠ []) : ∃ c b', c ∈ s ∧ BoxOk b' ∧ runF (eL_pick st) T [.io b, .shr (.str s)] = some (.own, .str [c], [.io b', .un]) := by
  obtain ⟨r, b', h0, h1, hb', e⟩ := hd b 1000 hb (by omega)
  have hl : 0 < s.length := List.length_pos_iff.mpr hs
  obtain ⟨h2, h3⟩ := emod_lt_len (r := r) hl
  obtain ⟨c, hc, ec⟩ := atI_nn h2 h3
  refine ⟨c, b', hc, hb', ?_⟩
  rw [← W.eq]
  refine runF_W rfl ?_
  have hl' : (0 : Int) < s.length := by omega
  simp -dsimp -implicitDefEqProofs [eL_pick, F_pick, e, hl', hl, ec]
theorem imms_mem : ∀ {xs : List PV} {x : PV}, imms xs = true → x ∈ xs → imm x = true
  | y :: ys, x, h, hx => by
    simp only [imms, Bool.and_eq_true] at h
    rcases List.mem_cons.mp hx with z | z
    · rw [z]; exact h.1
    · exact imms_mem h.2 z
theorem pickL_ok {T : Tbl} {st : Stmt} (hd : DrawOk T) {b : PV} {xs : List PV} (hb : BoxOk b) (hs : xs ≠ []) (hi : imms xs = true) : ∃ c b', c ∈ xs ∧ BoxOk b' ∧ runF (eL_pick st) T [.io b, .shr (.lst xs)] = some (.own, c, [.io b', .un]) := by
  obtain ⟨r, b', h0, h1, hb', e⟩ := hd b 1000 hb (by omega)
  have hl : 0 < xs.length := List.length_pos_iff.mpr hs
  obtain ⟨h2, h3⟩ := emod_lt_len (r := r) hl
  obtain ⟨c, hc, ec⟩ := atI_nn h2 h3
  refine ⟨c, b', hc, hb', ?_⟩
  rw [← W.eq]
  refine runF_W rfl ?_
  have hl' : (0 : Int) < xs.length := by omega
  have ci := imms_mem hi hc
  simp -dsimp -implicitDefEqProofs [eL_pick, F_pick, e, hl', hl, ec, ci]
/-- the digits: all from 0 to 999 -/
def DigitsOk (T : Tbl) : Prop := ∀ (ns : List Int) (a b : Int), 0 ≤ a → a ≤ 1000 → 0 ≤ b → b ≤ 1000 → ∃ ds : List Int, (∀ d ∈ ds, 0 ≤ d ∧ d < 1000) ∧ T.sem "_law_digits" [.shr (.fz (ns.map .int)), .shr (.int a), .shr (.int b)] = some (.own, .lst (ds.map .int), [.un, .un, .un])
theorem bd62_of {i : Int} (h : -1000000000 ≤ i) (h' : i ≤ 1000000000) : bd62 i = true := by
  unfold bd62
  rw [Bool.and_eq_true, decide_eq_true_eq, decide_eq_true_eq]
  constructor <;> omega
@[simp] theorem gPow_18 : gPow (.int 10) (.int 18) = some (.own, .int 1000000000000000000) := by
  unfold gPow
  simp
def Dg (ds : List Int) (m : Nat) : Prop := (∀ d ∈ ds, 0 ≤ d ∧ d < 1000) ∧ ds.length ≤ m
theorem Dg.push {ds : List Int} {m : Nat} (h : Dg ds m) (x : Int) : Dg (ds ++ [x % 1000]) (m + 1) := by
  refine ⟨fun d hd => ?_, by simp; exact h.2⟩
  rcases List.mem_append.mp hd with z | z
  · exact h.1 d z
  · simp at z; subst z; omega
theorem Dg.mono {ds : List Int} {m n : Nat} (h : Dg ds m) (l : m ≤ n) : Dg ds n := ⟨h.1, Nat.le_trans h.2 l⟩
theorem map_push {ds : List Int} {x : Int} : ds.map PV.int ++ [PV.int x] = (ds ++ [x]).map PV.int := by simp
theorem digits_ok {T : Tbl} {st : Stmt} (hc : CellOk T) {ns : List Int} {a b : Int} (ha : 0 ≤ a) (ha' : a ≤ 1000) (hb0 : 0 ≤ b) (hb : b ≤ 1000) : ∃ ds : List Int, (∀ d ∈ ds, 0 ≤ d ∧ d < 1000) ∧ runF (eL_digits st) T [.shr (.fz (ns.map .int)), .shr (.int a), .shr (.int b)] = some (.own, .lst (ds.map .int), [.un, .un, .un]) := by
  obtain ⟨F, hF⟩ : ∃ F : Kd × PV × List Sl → Prop, ∀ r, F r ↔ ∃ ds : List Int, (∀ d ∈ ds, 0 ≤ d ∧ d < 1000) ∧ r = (.own, .lst (ds.map .int), [.un, .un, .un]) := ⟨_, fun _ => Iff.rfl⟩
  suffices h : W (runF (eL_digits st) T [.shr (.fz (ns.map .int)), .shr (.int a), .shr (.int b)]) F by
    obtain ⟨r, e, h⟩ := h
    obtain ⟨ds, hd, er⟩ := (hF r).mp h
    exact ⟨ds, hd, by rw [e, er]⟩
  refine runF_W rfl ?_
  have b1 : bd62 a = true := bd62_of (by omega) (by omega)
  have b2 : bd62 b = true := bd62_of (by omega) (by omega)
  simp -dsimp -implicitDefEqProofs [eL_digits, F_digits, b1, b2]
  obtain ⟨I, hI⟩ : ∃ I : Nat → En → Prop, ∀ i τ, I i τ ↔ ∃ (ds : List Int) (x4 x5 x6 x7 : Sl), τ = [.shr (.fz (ns.map .int)), .shr (.int a), .shr (.int b), .own (.lst (ds.map .int)), x4, x5, x6, x7] ∧ Dg ds (60 * i) ∧ nio x4 = true ∧ nio x5 = true ∧ nio x6 = true ∧ nio x7 = true := ⟨_, fun _ _ => Iff.rfl⟩
  refine W_forL I ((hI _ _).mpr ⟨[], .un, .un, .un, .un, rfl, ⟨by simp, by simp⟩, rfl, rfl, rfl, rfl⟩) (fun i t τ ht hi => ?_) fun τ hi => ?_
  · obtain ⟨hlt, rfl⟩ := rgL_get ht
    obtain ⟨ds, x4, x5, x6, x7, rfl, hds, n4, n5, n6, n7⟩ := (hI _ _).mp hi
    have hc1 := hc ns (a + i) (by omega)
    have hi1000 : i < 1000 := by omega
    have inner1 : ∀ (c : Int) (x6 : Sl) (Q : Out × En → Prop), nio x6 = true →
        (∀ (ds' : List Int) (c' : Int) (y6 : Sl), Dg ds' (60 * (i + 1)) → nio y6 = true → Q (.nx, [.shr (.fz (ns.map .int)), .shr (.int a), .shr (.int b), .own (.lst (ds'.map .int)), .own (.int (a + i)), .own (.int c'), y6, x7])) →
        W (forL (gN 6) (sIf (eTrB (eBin gGt (eVar 5) (eC (.int 0)))) (sSeq (sApp 3 (mP (eBin gMod (eCB (g1 gInt) [eVar 5]) (eC (.int 1000))))) (sAsg 5 (eBin gFdiv (eVar 5) (eC (.int 1000))))) sNil) (rgL 0 60)
          [.shr (.fz (ns.map .int)), .shr (.int a), .shr (.int b), .own (.lst (ds.map .int)), .own (.int (a + i)), .own (.int c), x6, x7]) Q := by
      intro c x6 Q n6 hq
      obtain ⟨J, hJ⟩ : ∃ J : Nat → En → Prop, ∀ j τ, J j τ ↔ ∃ (ds' : List Int) (c' : Int) (y6 : Sl), τ = [.shr (.fz (ns.map .int)), .shr (.int a), .shr (.int b), .own (.lst (ds'.map .int)), .own (.int (a + i)), .own (.int c'), y6, x7] ∧ Dg ds' (60 * i + j) ∧ nio y6 = true := ⟨_, fun _ _ => Iff.rfl⟩
      refine W_forL J ((hJ _ _).mpr ⟨ds, c, x6, rfl, hds.mono (by omega), n6⟩) (fun j t τ ht hj => ?_) fun τ hj => ?_
      · obtain ⟨hjl, rfl⟩ := rgL_get ht
        obtain ⟨ds', c', y6, rfl, hd', ny⟩ := (hJ _ _).mp hj
        have hsz : ds'.length < 16777216 := by have := hd'.2; omega
        by_cases hp : 0 < c'
        · simp -dsimp -implicitDefEqProofs [ny, hp, hsz]
          rw [map_push]
          exact (hJ _ _).mpr ⟨_, _, _, rfl, hd'.push c', rfl⟩
        · simp -dsimp -implicitDefEqProofs [ny, hp]
          exact (hJ _ _).mpr ⟨ds', c', _, rfl, hd'.mono (by omega), rfl⟩
      · obtain ⟨ds', c', y6, rfl, hd', ny⟩ := (hJ _ _).mp hj
        exact hq ds' c' y6 (hd'.mono (by simp; omega)) ny
    have inner2 : ∀ (c s : Int) (Q : Out × En → Prop),
        (∀ (ds' : List Int) (s' : Int) (y6 : Sl), Dg ds' (60 * (i + 1)) → nio y6 = true → Q (.nx, [.shr (.fz (ns.map .int)), .shr (.int a), .shr (.int b), .own (.lst (ds'.map .int)), .own (.int (a + i)), .own (.int c), y6, .own (.int s')])) →
        W (forL (gN 6) (sSeq (sAsg 7 (eBin gMod (eCB (g1 gInt) [(eBin gAdd (eBin gAdd (eBin gMul (eVar 7) (eC (.int 16807))) (eBin gMul (eC (.int 7)) (eVar 6))) (eC (.int 1)))]) (eC (.int 2147483647)))) (sApp 3 (mP (eBin gMod (eCB (g1 gInt) [(eBin gFdiv (eVar 7) (eC (.int 997)))]) (eC (.int 1000)))))) (rgL 0 12)
          [.shr (.fz (ns.map .int)), .shr (.int a), .shr (.int b), .own (.lst (ds.map .int)), .own (.int (a + i)), .own (.int c), x6, .own (.int s)]) Q := by
      intro c s Q hq
      obtain ⟨J, hJ⟩ : ∃ J : Nat → En → Prop, ∀ j τ, J j τ ↔ ∃ (ds' : List Int) (s' : Int) (y6 : Sl), τ = [.shr (.fz (ns.map .int)), .shr (.int a), .shr (.int b), .own (.lst (ds'.map .int)), .own (.int (a + i)), .own (.int c), y6, .own (.int s')] ∧ Dg ds' (60 * i + j) ∧ nio y6 = true := ⟨_, fun _ _ => Iff.rfl⟩
      refine W_forL J ((hJ _ _).mpr ⟨ds, s, x6, rfl, hds.mono (by omega), n6⟩) (fun j t τ ht hj => ?_) fun τ hj => ?_
      · obtain ⟨hjl, rfl⟩ := rgL_get ht
        obtain ⟨ds', s', y6, rfl, hd', ny⟩ := (hJ _ _).mp hj
        have hsz : ds'.length < 16777216 := by have := hd'.2; omega
        simp -dsimp -implicitDefEqProofs [ny, hsz]
        rw [map_push]
        exact (hJ _ _).mpr ⟨_, _, _, rfl, hd'.push _, rfl⟩
      · obtain ⟨ds', s', y6, rfl, hd', ny⟩ := (hJ _ _).mp hj
        exact hq ds' s' y6 (hd'.mono (by simp; omega)) ny
    have fin : ∀ (Q : En → Prop) (x : Sl), True := fun _ _ => trivial
    by_cases hneg : cellF ns (a + i) < 0
    · by_cases hbig : 1000000000000000000 ≤ 1 - 2 * cellF ns (a + i)
      · simp -dsimp -implicitDefEqProofs [n4, n5, n6, n7, hc1, hneg, hbig]
        refine inner1 _ _ _ n6 fun ds' c' y6 h1 h2 => ?_
        exact (hI _ _).mpr ⟨ds', _, _, _, _, rfl, h1, rfl, rfl, h2, n7⟩
      · simp -dsimp -implicitDefEqProofs [n4, n5, n6, n7, hc1, hneg, hbig]
        refine inner2 _ _ _ fun ds' c' y6 h1 h2 => ?_
        exact (hI _ _).mpr ⟨ds', _, _, _, _, rfl, h1, rfl, rfl, h2, rfl⟩
    · by_cases hbig : 1000000000000000000 ≤ cellF ns (a + i)
      · simp -dsimp -implicitDefEqProofs [n4, n5, n6, n7, hc1, hneg, hbig]
        refine inner1 _ _ _ n6 fun ds' c' y6 h1 h2 => ?_
        exact (hI _ _).mpr ⟨ds', _, _, _, _, rfl, h1, rfl, rfl, h2, n7⟩
      · simp -dsimp -implicitDefEqProofs [n4, n5, n6, n7, hc1, hneg, hbig]
        refine inner2 _ _ _ fun ds' c' y6 h1 h2 => ?_
        exact (hI _ _).mpr ⟨ds', _, _, _, _, rfl, h1, rfl, rfl, h2, rfl⟩
  · obtain ⟨ds, x4, x5, x6, x7, rfl, hds, n4, n5, n6, n7⟩ := (hI _ _).mp hi
    simp -dsimp -implicitDefEqProofs
    exact (hF _).mpr ⟨ds, hds.1, rfl⟩

/-! what is told is what is due -/
mutual
def okS : PV → Bool
  | .non => true
  | .bl _ => true
  | .int i => decide (i.natAbs.log2 < 1920)
  | .str s => s.all plainC && decide (s.length ≤ 16000000)
  | .lst xs => decide (xs.length ≤ 16777216) && okSs xs
  | .tup xs => decide (xs.length ≤ 16777216) && okSs xs
  | _ => false
def okSs : List PV → Bool
  | [] => true
  | x :: xs => okS x && okSs xs
end
theorem okSs_get : ∀ {xs : List PV} {i : Nat} (h : i < xs.length), okSs xs = true → okS xs[i] = true
  | x :: xs, 0, _, h => by simp only [okSs, Bool.and_eq_true] at h; exact h.1
  | x :: xs, i + 1, hi, h => by
    simp only [okSs, Bool.and_eq_true] at h
    exact okSs_get (xs := xs) (by simpa using hi) h.2
theorem deps_get : ∀ {xs : List PV} {i : Nat} (h : i < xs.length), dep xs[i] ≤ deps xs
  | x :: xs, 0, _ => Nat.le_max_left _ _
  | x :: xs, i + 1, hi => Nat.le_trans (deps_get (xs := xs) (by simpa using hi)) (Nat.le_max_right _ _)
@[simp] theorem gEq_str {s u : Tx} : gEq (.str s) (.str u) = some (.own, .bl (decide (s = u))) := by
  simp [gEq, isData, dep, pyEq]
@[simp] theorem gEq_int {i j : Int} : gEq (.int i) (.int j) = some (.own, .bl (i == j)) := by
  simp [gEq, isData, dep, pyEq]
@[simp] theorem gNe_int {i j : Int} : gNe (.int i) (.int j) = some (.own, .bl (!(i == j))) := by
  simp [gNe, isData, dep, pyEq]
@[simp] theorem gNe_str {s u : Tx} : gNe (.str s) (.str u) = some (.own, .bl (!decide (s = u))) := by
  simp [gNe, isData, dep, pyEq]
theorem atI_nat {α : Type} {xs : List α} {i : Nat} (h : i < xs.length) : atI xs (i : Int) = some xs[i] := by
  unfold atI ixN
  rw [if_pos (by omega), if_pos (by omega)]
  simp [List.getElem?_eq_getElem h]
theorem same_ok {tab : List FE} {st : Stmt} (hlk : ∀ k as, semK tab (k + 1) "_law_same" as = runF (eL_same st) (tblK tab k) as) : ∀ (k : Nat) (t : PV), okS t = true → dep t < k → semK tab k "_law_same" [.shr t, .shr t] = some (.own, .bl true, [.un, .un])
  | 0, t, _, h => absurd h (Nat.not_lt_zero _)
  | k + 1, t, ok, hd => by
    rw [hlk, ← W.eq]
    refine runF_W rfl ?_
    have seq : ∀ (xs : List PV) (u : PV), (u = .lst xs ∨ u = .tup xs) → xs.length ≤ 16777216 → okSs xs = true → deps xs < k → W (forL (gN 2) (sIf (tNotC (eTru (eCall (tblK tab k) "_law_same" [(eIdx (eVar 0) (eVar 2)), (eIdx (eVar 1) (eVar 2))]))) (sRet (eC (.bl false))) sNil) (rgL 0 xs.length) [.shr u, .shr u, .un])
        fun r => ∃ x, r = (.nx, [.shr u, .shr u, x]) := by
      intro xs u hu hl ho hdx
      obtain ⟨I, hI⟩ : ∃ I : Nat → En → Prop, ∀ i τ, I i τ ↔ ∃ x, τ = [.shr u, .shr u, x] ∧ nio x = true := ⟨_, fun _ _ => Iff.rfl⟩
      refine W_forL I ((hI _ _).mpr ⟨.un, rfl, rfl⟩) (fun i t τ ht hi => ?_) fun τ hi => ?_
      · obtain ⟨hlt, rfl⟩ := rgL_get ht
        obtain ⟨x, rfl, nx⟩ := (hI _ _).mp hi
        have ih := same_ok hlk k xs[i] (okSs_get hlt ho) (Nat.lt_of_le_of_lt (deps_get hlt) hdx)
        have ih' : (tblK tab k).sem "_law_same" [.shr xs[i], .shr xs[i]] = some (.own, .bl true, [.un, .un]) := ih
        have e := atI_nat hlt
        rcases hu with rfl | rfl
        · simp -dsimp -implicitDefEqProofs [nx, e, ih']
          exact (hI _ _).mpr ⟨_, rfl, rfl⟩
        · simp -dsimp -implicitDefEqProofs [nx, e, ih']
          exact (hI _ _).mpr ⟨_, rfl, rfl⟩
      · obtain ⟨x, rfl, _⟩ := (hI _ _).mp hi
        exact ⟨x, rfl⟩
    cases t with
    | non => simp -dsimp -implicitDefEqProofs [eL_same, F_same]
    | bl b => cases b <;> simp -dsimp -implicitDefEqProofs [eL_same, F_same]
    | int i =>
      simp only [okS, decide_eq_true_eq] at ok
      have e : gRepr (.int i) = some (.own, .str (intTx i)) := if_pos ok
      simp -dsimp -implicitDefEqProofs [eL_same, F_same, e]
    | str s =>
      simp only [okS, Bool.and_eq_true, decide_eq_true_eq] at ok
      have e : gRepr (.str s) = some (.own, .str (39 :: s ++ [39])) := if_pos (by rw [ok.1, Bool.true_and, decide_eq_true_eq]; omega)
      simp -dsimp -implicitDefEqProofs [eL_same, F_same, e]
    | lst xs =>
      simp only [okS, Bool.and_eq_true, decide_eq_true_eq] at ok
      have b : bd62 (xs.length : Int) = true := bd62_lit ⟨by omega, by omega⟩
      simp -dsimp -implicitDefEqProofs [eL_same, F_same, b]
      refine (seq xs _ (.inl rfl) ok.1 ok.2 (by simp only [dep] at hd; omega)).mono ?_
      rintro _ ⟨x, rfl⟩
      simp -dsimp -implicitDefEqProofs
    | tup xs =>
      simp only [okS, Bool.and_eq_true, decide_eq_true_eq] at ok
      have b : bd62 (xs.length : Int) = true := bd62_lit ⟨by omega, by omega⟩
      simp -dsimp -implicitDefEqProofs [eL_same, F_same, b]
      refine (seq xs _ (.inr rfl) ok.1 ok.2 (by simp only [dep] at hd; omega)).mono ?_
      rintro _ ⟨x, rfl⟩
      simp -dsimp -implicitDefEqProofs
    | fz _ => cases ok
    | dK _ _ => cases ok
    | dT _ _ => cases ok
    | sK _ => cases ok
end Pv
namespace Pv
open PySem PySem.Spec L2

/-! ### sorted texts, sorted numbers -/
def leT (s u : Tx) : Bool := decide (s ≤ u)
theorem leD_str {s u : Tx} : leD (.str s) (.str u) = leT s u := by
  unfold leD ltD leT
  simp only [toD]
  rw [PySem.W.dataLt_str, mkS_toList, mkS_toList]
  by_cases h : u < s
  · simp [h, List.not_lt]
  · simp [h, List.not_lt]
    exact List.not_lt.mp h
theorem leD_int {i j : Int} : leD (.int i) (.int j) = decide (i ≤ j) := by
  unfold leD ltD
  simp only [toD]
  rw [PySem.W.dataLt_int]
  by_cases h : j < i
  · simp [h]
  · simp [h]; omega
theorem leT_trans (a b c : Tx) (h : leT a b = true) (h' : leT b c = true) : leT a c = true := by
  unfold leT at *
  simp only [decide_eq_true_eq] at *
  exact List.le_trans h h'
theorem leT_total (a b : Tx) : (leT a b || leT b a) = true := by
  unfold leT
  simp only [Bool.or_eq_true, decide_eq_true_eq]
  exact List.le_total a b
theorem sortS (xs : List Tx) : (xs.map PV.str).mergeSort leD = (xs.mergeSort leT).map PV.str :=
  (List.map_mergeSort (f := PV.str) (r := leT) (s := leD) fun a _ b _ => (leD_str (s := a) (u := b)).symm).symm
theorem imms_all : ∀ xs : List PV, imms xs = xs.all imm
  | [] => rfl
  | x :: xs => by simp [imms, imms_all xs]
theorem imms_str {xs : List Tx} : imms (xs.map PV.str) = true := by rw [imms_all]; simp
theorem imms_int {xs : List Int} : imms (xs.map PV.int) = true := by rw [imms_all]; simp
theorem srtOk_str {xs : List Tx} : srtOk (xs.map PV.str) = true := by
  have h1 : isDatas (xs.map PV.str) = true := by induction xs with
    | nil => rfl
    | cons x xs ih => simp [isDatas, isData, ih]
  have h2 : deps (xs.map PV.str) = 0 := by
    clear h1
    induction xs with
    | nil => rfl
    | cons x xs ih => simp [deps, dep, ih]
  unfold srtOk
  rw [h1, h2]
  simp [alk, isTup1, notTN]
theorem gSorted_str {xs : List Tx} : gSorted (.lst (xs.map PV.str)) = some (.own, .lst ((xs.mergeSort leT).map PV.str)) := by
  unfold gSorted
  simp only
  rw [if_pos srtOk_str, sortS, if_pos imms_str]
/-- in order and the same items: the same -/
theorem sort_eq {xs ys : List Tx} (p : xs.Perm ys) (s : ys.Pairwise fun a b => leT a b = true) : xs.mergeSort leT = ys := by
  refine List.Perm.eq_of_pairwise (le := fun a b => leT a b = true) (fun a b _ _ h h' => ?_) (List.pairwise_mergeSort leT_trans leT_total xs) s ((List.mergeSort_perm xs leT).trans p)
  unfold leT at h h'
  simp only [decide_eq_true_eq] at h h'
  exact List.le_antisymm h h'
theorem lt_append {r s : Tx} (hl : r.length = s.length) (h : r < s) (a b : Tx) : r ++ a < s ++ b := by
  induction r generalizing s with
  | nil =>
    cases s with
    | nil => exact absurd h (List.lt_irrefl _)
    | cons y s => simp at hl
  | cons x r ih =>
    cases s with
    | nil => simp at hl
    | cons y s =>
      rw [List.cons_append, List.cons_append, List.cons_lt_cons_iff]
      rcases List.cons_lt_cons_iff.mp h with z | ⟨z, z'⟩
      · exact .inl z
      · exact .inr ⟨z, ih (by simpa using hl) z'⟩
theorem lt_append_same (r : Tx) {a b : Tx} (h : a < b) : r ++ a < r ++ b := by
  induction r with
  | nil => exact h
  | cons x r ih => rw [List.cons_append, List.cons_append, List.cons_lt_cons_iff]; exact .inr ⟨rfl, ih⟩
theorem leT_of_lt {a b : Tx} (h : a < b) : leT a b = true := by
  unfold leT
  rw [decide_eq_true_eq]
  exact List.le_of_lt h
/-- [.. for .. in .. for .. in ..] by items -/
theorem comp2L_eq {g : GX} {cd : TX} {it1 : IX} {vs1 : List Nat} {g1 : GX} {cd1 : TX} {el : PX} {τ : En} (F : PV → List PV) : ∀ ts : List PV, (∀ t ∈ ts, W (g t τ) fun τ1 => W (cd τ1) fun b => b = true ∧ W (it1 τ1) fun r1 => r1.1 ≠ .view ∧ compL g1 cd1 el (wipeE τ1 vs1) r1.2 = some ((F t).map fun u => (.own, u))) →
    comp2L g cd it1 vs1 g1 cd1 el τ ts = some ((ts.flatMap F).map fun u => (.own, u))
  | [], _ => rfl
  | t :: ts, hh => by
    have ih := comp2L_eq F ts fun u hu => hh u (List.mem_cons_of_mem _ hu)
    obtain ⟨τ1, e1, b, e2, eb, r1, e3, hk, e4⟩ := hh t List.mem_cons_self
    subst eb
    simp only [comp2L, e1, Option.bind_some, e2, if_true, e3, if_neg hk, e4, ih, List.flatMap_cons, List.map_append]
theorem W_comp2 {it it1 : IX} {vs vs1 : List Nat} {g g1 : GX} {cd cd1 : TX} {el : PX} {τ : En} {Q : Kd × PV → Prop} (F : PV → List PV) (hi : W (it τ) fun r =>
    (∀ t ∈ r.2, W (g t (cEnv τ vs)) fun τ1 => W (cd τ1) fun b => b = true ∧ W (it1 τ1) fun r1 => r1.1 ≠ .view ∧ compL g1 cd1 el (wipeE τ1 vs1) r1.2 = some ((F t).map fun u => (.own, u))) ∧ (r.2.flatMap F).length ≤ 16777216 ∧ Q (.own, .lst (r.2.flatMap F))) : W (eComp2 it vs g cd it1 vs1 g1 cd1 el τ) Q := by
  show W ((it τ).bind fun r => (comp2L g cd it1 vs1 g1 cd1 el (cEnv τ vs) r.2).bind fun rs => if rs.length ≤ 16777216 then some (if kds rs = .own then .own else .view, .lst (rs.map (·.2))) else none) Q
  rw [W_bind]
  refine hi.mono fun r hr => ?_
  rw [comp2L_eq F r.2 hr.1]
  simp only [Option.bind_some, List.length_map]
  rw [if_pos hr.2.1, W_some, kds_map, if_pos rfl, List.map_map]
  have : ((fun x : Kd × PV => x.2) ∘ fun u => (Kd.own, u)) = id := rfl
  rw [this, List.map_id]
  exact hr.2.2
/-- texts as letters -/
def cntT (c : Nat) (s : Tx) : Int := (s.count c : Nat)
theorem count_one (s : Tx) (c : Nat) : Txt.count (mkS s) (mkS [c]) = cntT c s := by
  show Txt.count (mkS s) ⟨#[c]⟩ = _
  rw [PyProof.Rows.count_cnt, mkS_toList]
  unfold cntT
  induction s with
  | nil => rfl
  | cons x s ih =>
    rw [PyProof.Rows.cnt_cons, ih, List.count_cons]
    by_cases h : x = c
    · subst h; simp; omega
    · simp [h]
theorem cutL_nn {α : Type} {s : List α} {a b : Nat} : cutL s (some (a : Int)) (some (b : Int)) = (s.drop a).take (b - a) := by
  unfold cutL
  rw [HT.sIx_nat, HT.sIx_nat]
  by_cases ha : a ≤ s.length
  · rw [Nat.min_eq_left ha]
    by_cases hb : b ≤ s.length
    · rw [Nat.min_eq_left hb]
    · rw [Nat.min_eq_right (by omega), List.take_of_length_le (by simp), List.take_of_length_le (by simp; omega)]
  · rw [Nat.min_eq_right (show s.length ≤ a by omega), List.drop_of_length_le (Nat.le_refl _), List.drop_of_length_le (show s.length ≤ a by omega)]
    simp
theorem cutL_n0 {α : Type} {s : List α} {b : Nat} : cutL s none (some (b : Int)) = s.take b := by
  unfold cutL
  rw [HT.sIx_none, HT.sIx_nat, List.drop_zero, Nat.sub_zero]
  by_cases hb : b ≤ s.length
  · rw [Nat.min_eq_left hb]
  · rw [Nat.min_eq_right (by omega), List.take_of_length_le (Nat.le_refl _), List.take_of_length_le (by omega)]
theorem cutL_0n {α : Type} {s : List α} {a : Nat} : cutL s (some (a : Int)) none = s.drop a := by
  unfold cutL
  rw [HT.sIx_none, HT.sIx_nat]
  by_cases ha : a ≤ s.length
  · rw [Nat.min_eq_left ha, List.take_of_length_le (by simp)]
  · rw [Nat.min_eq_right (by omega), List.drop_of_length_le (Nat.le_refl _), List.drop_of_length_le (by omega)]
    simp
theorem W_compA {it : IX} {vs : List Nat} {g : GX} {el : PX} {τ : En} {Q : Kd × PV → Prop} (h : PV → PV) (hi : W (it τ) fun r => r.2.length ≤ 16777216 ∧
    (∀ t ∈ r.2, W (g t (cEnv τ vs)) fun τ1 => W (el τ1) fun r => r = (.own, h t)) ∧ Q (.own, .lst (r.2.map h))) : W (eComp it vs g tYesC el τ) Q := by
  refine W_comp (fun _ => true) h (hi.mono fun r hr => ⟨hr.1, fun t ht => (hr.2.1 t ht).mono fun τ1 h1 => ?_, ?_⟩)
  · rw [tYesC_ap, W_some]; exact ⟨rfl, fun _ => h1⟩
  · have : r.2.filter (fun _ => true) = r.2 := List.filter_eq_self.mpr fun _ _ => rfl
    rw [this]; exact hr.2.2
end Pv
namespace Pv
open PySem PySem.Spec L2

/-! ### texts drawn letter by letter -/
theorem allS_letters : ∀ s : Tx, allS (s.map fun c => PV.str [c]) = some (s.map fun c => [c])
  | [] => rfl
  | c :: s => by simp [allS, allS_letters s]
theorem joinL_letters : ∀ s : Tx, joinL [] (s.map fun c => [c]) = s
  | [] => rfl
  | [c] => rfl
  | c :: d :: s => by
    have := joinL_letters (d :: s)
    simp only [List.map_cons] at this
    simp [joinL, this]
theorem sum_letters : ∀ s : Tx, ((s.map fun c => [c]).map List.length).sum = s.length
  | [] => rfl
  | c :: s => by
    have := sum_letters s
    simp only [List.map_cons, List.sum_cons, List.length_cons, List.length_nil]
    omega
theorem gJoin_letters {s : Tx} (h : s.length ≤ 16777216) : gJoin (.str []) [.lst (s.map fun c => .str [c])] = some (.own, .str s) := by
  unfold gJoin
  simp only [isS, seqOf, Option.bind_some, allS_letters, joinL_letters, sum_letters]
  rw [if_pos (by simpa using h)]
theorem letters_of {P : Nat → Prop} {l : List PV} {rs : List PV} (h : Al2 (fun _ r => ∃ c, r = PV.str [c] ∧ P c) l rs) : ∃ s : Tx, rs = s.map (fun c => PV.str [c]) ∧ s.length = l.length ∧ ∀ c ∈ s, P c := by
  induction h with
  | nil => exact ⟨[], rfl, rfl, fun _ z => nomatch z⟩
  | cons p _ ih =>
    obtain ⟨c, rfl, hc⟩ := p
    obtain ⟨s, rfl, hl, hs⟩ := ih
    exact ⟨c :: s, rfl, by simp [hl], fun x hx => (List.mem_cons.mp hx).elim (fun z => by rw [z]; exact hc) (hs x)⟩
end Pv
namespace Pv
open PySem PySem.Spec L2

theorem W_forLi {i : Nat} {g : GX} {f : SX} {τ : En} {Q : Out × En → Prop} {ts : List PV} (hτ : τ[i]? = some (.io (.lst ts))) (I : Nat → En → Prop) (h0 : I 0 τ) (hl : ts.length < 1000000) (him : imms ts = true)
    (st : ∀ k t τ1, ts[k]? = some t → I k τ1 → τ1[i]? = some (.io (.lst ts)) ∧ W (g t τ1) fun τ2 => W (f τ2) fun r => match r.1 with
      | .nx => I (k + 1) r.2
      | .ct => I (k + 1) r.2
      | .bk => Q (.nx, r.2)
      | .ret k u => Q (.ret k u, r.2)) (he : ∀ τ1, I ts.length τ1 → τ1[i]? = some (.io (.lst ts)) ∧ Q (.nx, τ1)) : W (sForLi i g f τ) Q := by
  unfold sForLi
  rw [hτ]
  show W (liveL i g f whFuel 0 τ) Q
  have key : ∀ (n k : Nat) (τ1 : En), k ≤ ts.length → ts.length < k + n → I k τ1 → W (liveL i g f n k τ1) Q := by
    intro n
    induction n with
    | zero => intro k τ1 h1 h2; omega
    | succ n ih =>
      intro k τ1 h1 h2 hI
      by_cases hk : k < ts.length
      · obtain ⟨e1, e2⟩ := st k ts[k] τ1 (List.getElem?_eq_getElem hk) hI
        simp only [liveL, e1]
        rw [List.getElem?_eq_getElem hk]
        simp only []
        rw [if_pos (imms_get him (List.getElem_mem hk)), W_bind]
        refine e2.mono fun τ2 h3 => ?_
        rw [W_bind]
        refine h3.mono fun r hr => ?_
        obtain ⟨o, τ3⟩ := r
        cases o with
        | nx => exact ih (k + 1) τ3 hk (by omega) hr
        | ct => exact ih (k + 1) τ3 hk (by omega) hr
        | bk => exact W_some.mpr hr
        | ret k' u => exact W_some.mpr hr
      · have : k = ts.length := by omega
        subst this
        obtain ⟨e1, e2⟩ := he τ1 hI
        simp only [liveL, e1]
        rw [List.getElem?_eq_none (Nat.le_refl _)]
        exact W_some.mpr e2
  exact key whFuel 0 _ (Nat.zero_le _) (by unfold whFuel; omega) h0
theorem W_seq {A B : SX} {τ : En} {Q : Out × En → Prop} (P : En → Prop) (h : W (A τ) fun r => r.1 = .nx ∧ P r.2) (h2 : ∀ τ', P τ' → W (B τ') Q) : W (sSeq A B τ) Q := by
  rw [sSeq_ap, W_bind]
  refine h.mono fun r hr => ?_
  obtain ⟨o, τ'⟩ := r
  obtain ⟨e, hp⟩ := hr
  cases e
  exact h2 τ' hp
theorem W_seqE {A B : SX} {τ τ1 : En} {Q : Out × En → Prop} (h : A τ = some (.nx, τ1)) (h2 : W (B τ1) Q) : W (sSeq A B τ) Q := by
  rw [sSeq_ap, h]
  exact h2
theorem W_if {c : TX} {A B : SX} {τ : En} {b : Bool} {Q : Out × En → Prop} (h : c τ = some b) (h1 : b = true → W (A τ) Q) (h2 : b = false → W (B τ) Q) : W (sIf c A B τ) Q := by
  rw [sIf_ap, h]
  cases b
  · exact h2 rfl
  · exact h1 rfl
end Pv
namespace Pv
open PySem PySem.Spec L2

/-! ### _law_letters and _law_word, as many laws have them -/
def F_law_letters (T : Tbl) : SX :=
    (sSeq (sAsg 2 (eCB (g1 gListA) [(eC (.str [97, 98, 99, 100, 101, 102, 103, 104, 105, 106, 107, 108, 109, 110, 111, 112, 113, 114, 115, 116, 117, 118, 119, 120, 121, 122]))]))
    (sSeq (sAsg 3 (eC (.str [])))
    (sSeq (sForM (imRg1 (mBin gAdd (mP (eC (.int 1))) (mCallI T "_law_draw" 0 0 [.nm 0, .nm 1]))) (gN 4)
    (sAsgM 3 (mBin gAdd (mP (eVar 3)) (mPop 2 (mCallI T "_law_draw" 0 0 [.nm 0, .px (eCB (g1 gLen) [(eVar 2)])])))))
    (sRetV 3))))
def eL_law_letters (st : Stmt) : FE := ⟨"_law_letters", ["box", "most"], ["box", "most", "left", "found", "turn"], st, F_law_letters⟩
def F_law_word (T : Tbl) : SX :=
    (sSeq (sAsgM 3 (mCallI T "_law_draw" 0 0 [.nm 0, .px (eC (.int 10))]))
    (sSeq (sAsgM 4 (mBM "str" gJoin (mP (eC (.str []))) [.mx (eCompM (imRg1 (mCallI T "_law_draw" 0 0 [.nm 0, .px (eBin gAdd (eVar 2) (eC (.int 1)))])) (([("k", 10)] : List (Str × Nat)).map (·.2)) (gN 10) tYesC (mCallI T "_law_pick" 0 0 [.nm 0, .nm 1]))]))
    (sSeq (sAsg 5 (eCB (g1 gLen) [(eVar 4)]))
    (sSeq (sIf (eTrB (eBin gLt (eVar 5) (eC (.int 2))))
    (sRetV 4)
    sNil)
    (sSeq (sAsgM 6 (mBin gAdd (mP (eC (.int 1))) (mCallI T "_law_draw" 0 0 [.nm 0, .px (eBin gFdiv (eVar 5) (eC (.int 2)))])))
    (sSeq (sIf (eTrB (eBin gEq (eVar 3) (eC (.int 1))))
    (sRet (eSl (eBin gMul (eSl (eVar 4) eNP (eSP (eVar 6))) (eVar 5)) eNP (eSP (eVar 5))))
    sNil)
    (sSeq (sIf (eTrB (eBin gEq (eVar 3) (eC (.int 2))))
    (sRet (eBin gMul (eSl (eVar 4) eNP (eSP (eVar 6))) (eBin gFdiv (eVar 5) (eVar 6))))
    sNil)
    (sSeq (sIf (eTrB (eBin gEq (eVar 3) (eC (.int 3))))
    (sRet (eBin gAdd (eSl (eVar 4) eNP (eSP (eBin gSub (eVar 5) (eBin gFdiv (eVar 5) (eC (.int 2)))))) (eRev (eSl (eVar 4) eNP (eSP (eBin gFdiv (eVar 5) (eC (.int 2))))))))
    sNil)
    (sSeq (sIf (eTrB (eBin gEq (eVar 3) (eC (.int 4))))
    (sRet (eBin gAdd (eBin gAdd (eSl (eVar 4) eNP (eSP (eVar 6))) (eSl (eVar 4) (eSP (eBin gMul (eC (.int 2)) (eVar 6))) eNP)) (eSl (eVar 4) eNP (eSP (eVar 6)))))
    sNil)
    (sSeq (sIf (eTrB (eBin gEq (eVar 3) (eC (.int 5))))
    (sRet (eBin gAdd (eBin gAdd (eBin gMul (eSl (eVar 4) eNP (eSP (eC (.int 1)))) (eVar 6)) (eSl (eVar 4) (eSP (eVar 6)) (eSP (eBin gAdd (eVar 6) (eC (.int 1)))))) (eBin gMul (eSl (eVar 4) eNP (eSP (eC (.int 1)))) (eBin gSub (eBin gSub (eVar 5) (eVar 6)) (eC (.int 1))))))
    sNil)
    (sSeq (sIf (eTrB (eBin gEq (eVar 3) (eC (.int 6))))
    (sSeq (sPar 8 9 (eSl (eVar 4) eNP (eSP (eC (.int 1)))) (eSl (eVar 4) eNP (eSP (eBin gAdd (eVar 6) (eC (.int 1))))))
    (sSeq (sFor (iRg1 (eC (.int 5))) (gN 7)
    (sPar 8 9 (eVar 9) (eSl (eBin gAdd (eVar 9) (eVar 8)) eNP (eSP (eVar 5)))))
    (sRetV 9)))
    sNil)
    (sRetV 4))))))))))))
def eL_law_word (st : Stmt) : FE := ⟨"_law_word", ["box", "letters", "most"], ["box", "letters", "most", "kind", "word", "size", "share", "turn", "one", "other", "k"], st, F_law_word⟩


theorem gMul_str {s : Tx} {n : Nat} (h : s.length * n ≤ 16777216) (hn : n < 1000000) : gMul (.str s) (.int n) = some (.own, .str (repT s n)) := by
  unfold gMul
  have h1 : ((n : Int) < 2 ^ 62) := by omega
  have h2 : (-(2 ^ 62) < (n : Int)) := by omega
  have h3 : s.length * ((n : Int)).toNat ≤ 16777216 := by simpa using h
  simp only [decide_eq_true h1, decide_eq_true h2, Int.toNat_natCast, decide_eq_true h]
  rfl
theorem repT_len (a : Tx) (n : Nat) : (repT a n).length = n * a.length := by
  unfold repT
  rw [List.length_flatten]
  simp
theorem repT_mem {a : Tx} {n : Nat} {c : Nat} (h : c ∈ repT a n) : c ∈ a := by
  unfold repT at h
  obtain ⟨l, hl, hc⟩ := List.mem_flatten.mp h
  rw [(List.mem_replicate.mp hl).2] at hc
  exact hc
theorem map_erase {α β : Type} (f : α → β) (l : List α) (i : Nat) : (l.map f).eraseIdx i = (l.eraseIdx i).map f := by
  rw [List.eraseIdx_eq_take_drop_succ, List.eraseIdx_eq_take_drop_succ, List.map_append, List.map_take, List.map_drop]
theorem erase_perm {α : Type} {l : List α} {i : Nat} (h : i < l.length) : (l[i] :: l.eraseIdx i).Perm l := by
  rw [List.eraseIdx_eq_take_drop_succ]
  refine List.perm_middle.symm.trans ?_
  have : l.take i ++ l[i] :: l.drop (i + 1) = l := by rw [← List.drop_eq_getElem_cons h, List.take_append_drop]
  rw [this]
def lets : Tx := [97, 98, 99, 100, 101, 102, 103, 104, 105, 106, 107, 108, 109, 110, 111, 112, 113, 114, 115, 116, 117, 118, 119, 120, 121, 122]
def LettersOk (T : Tbl) : Prop := ∀ (b : PV) (most : Nat), BoxOk b → 0 < most → most ≤ 25 → ∃ s b', s ≠ [] ∧ s.length ≤ most ∧ (∀ c ∈ s, c ∈ lets) ∧ s.Nodup ∧ BoxOk b' ∧ T.sem "_law_letters" [.io b, .shr (.int most)] = some (.own, .str s, [.io b', .un])
theorem ixN_nat {n i : Nat} (h : i < n) : ixN n (i : Int) = some i := by
  unfold ixN
  rw [if_pos (by omega), if_pos (by omega)]
  simp
theorem letters_ok {T : Tbl} {st : Stmt} (hd : DrawOk T) {b : PV} {most : Nat} (hb : BoxOk b) (hm : 0 < most) (hm2 : most ≤ 25) :
    ∃ s b', s ≠ [] ∧ s.length ≤ most ∧ (∀ c ∈ s, c ∈ lets) ∧ s.Nodup ∧ BoxOk b' ∧ runF (eL_law_letters st) T [.io b, .shr (.int most)] = some (.own, .str s, [.io b', .un]) := by
  obtain ⟨F, hF⟩ : ∃ F : Kd × PV × List Sl → Prop, ∀ r, F r ↔ ∃ s b', s ≠ [] ∧ s.length ≤ most ∧ (∀ c ∈ s, c ∈ lets) ∧ s.Nodup ∧ BoxOk b' ∧ r = (.own, .str s, [.io b', .un]) := ⟨_, fun _ => Iff.rfl⟩
  suffices h : W (runF (eL_law_letters st) T [.io b, .shr (.int most)]) F by
    obtain ⟨r, e, h⟩ := h
    obtain ⟨s, b', h1, h2, h3, h4, h5, er⟩ := (hF r).mp h
    exact ⟨s, b', h1, h2, h3, h4, h5, by rw [e, er]⟩
  obtain ⟨r', b1, hr0, hr1, hb1, er⟩ := hd b most hb (by omega)
  obtain ⟨r, rfl⟩ : ∃ n : Nat, r' = n := ⟨r'.toNat, by omega⟩
  refine runF_W rfl ?_
  have b2 : bd62 (1 + (r : Int)) = true := bd62_lit ⟨by omega, by omega⟩
  have e2 : (1 + (r : Int)).toNat = 1 + r := by omega
  show W (F_law_letters T [.io b, .shr (.int most), .un, .un, .un]) _
  unfold F_law_letters
  refine W_seqE (τ1 := [.io b, .shr (.int most), .own (.lst (lets.map fun c => .str [c])), .un, .un]) (by
    rw [← W.eq]; simp -dsimp -implicitDefEqProofs [lets]) ?_
  refine W_seqE (τ1 := [.io b, .shr (.int most), .own (.lst (lets.map fun c => .str [c])), .own (.str []), .un]) (by
    rw [← W.eq]; simp -dsimp -implicitDefEqProofs) ?_
  obtain ⟨I, hI⟩ : ∃ I : Nat → En → Prop, ∀ i τ, I i τ ↔ ∃ (b' : PV) (L G : Tx) (s4 : Sl), τ = [.io b', .shr (.int most), .own (.lst (L.map fun c => .str [c])), .own (.str G), s4] ∧ nio s4 = true ∧ BoxOk b' ∧ (G ++ L).Perm lets ∧ G.length = i := ⟨_, fun _ _ => Iff.rfl⟩
  refine W_seq (I (1 + r)) ?_ fun τ hτ => ?_
  · simp -dsimp -implicitDefEqProofs [er, b2, e2]
    refine W_forL I ((hI _ _).mpr ⟨b1, lets, [], _, rfl, rfl, hb1, .refl _, rfl⟩) (fun i t τ ht hi => ?_) fun τ hi => ⟨rfl, by rw [rgL_length] at hi; exact hi⟩
    obtain ⟨hlt, rfl⟩ := rgL_get ht
    obtain ⟨b', L, G, s4, rfl, n4, hb', hp, hG⟩ := (hI _ _).mp hi
    have hlen : G.length + L.length = 26 := by have := hp.length_eq; simpa [lets] using this
    obtain ⟨q', b2, hq0, hq1, hb2, eq⟩ := hd b' L.length hb' (by omega)
    obtain ⟨q, rfl⟩ : ∃ n : Nat, q' = n := ⟨q'.toNat, by omega⟩
    have hq : q < L.length := by omega
    have eix : ixN L.length (q : Int) = some q := ixN_nat hq
    have eg : L[q]? = some L[q] := List.getElem?_eq_getElem hq
    have bq : bd62 (q : Int) = true := bd62_lit ⟨by omega, by omega⟩
    have ee : (L.map fun c => PV.str [c]).eraseIdx q = (L.eraseIdx q).map fun c => PV.str [c] := map_erase _ _ _
    have hz : G.length + 1 ≤ 16777216 := by omega
    simp -dsimp -implicitDefEqProofs [n4, eq, eix, eg, bq, ee, hz]
    refine (hI _ _).mpr ⟨b2, L.eraseIdx q, G ++ [L[q]], _, rfl, rfl, hb2, ?_, by simp [hG]⟩
    have h1 : (L[q] :: L.eraseIdx q).Perm L := erase_perm hq
    rw [List.append_assoc]
    exact (h1.append_left G).trans hp
  · obtain ⟨b', L, G, s4, rfl, n4, hb', hp, hG⟩ := (hI _ _).mp hτ
    simp -dsimp -implicitDefEqProofs
    refine (hF _).mpr ⟨G, b', fun z => by rw [z] at hG; simp at hG; omega, by omega, fun c hc => hp.subset (List.mem_append_left _ hc), ?_, hb', rfl⟩
    have hn : (G ++ L).Nodup := hp.symm.nodup (by decide)
    exact (List.nodup_append.mp hn).1
def WordOk (T : Tbl) : Prop := ∀ (b : PV) (ls : Tx) (most : Nat), BoxOk b → ls ≠ [] → most ≤ 1000 → ∃ s b', s.length ≤ most ∧ (∀ c ∈ s, c ∈ ls) ∧ BoxOk b' ∧ T.sem "_law_word" [.io b, .shr (.str ls), .shr (.int most)] = some (.own, .str s, [.io b', .un, .un])
theorem word_ok {T : Tbl} {st : Stmt} (hd : DrawOk T) (hp : PickOk T) {b : PV} {ls : Tx} {most : Nat} (hb : BoxOk b) (hls : ls ≠ []) (hm : most ≤ 1000) :
    ∃ s b', s.length ≤ most ∧ (∀ c ∈ s, c ∈ ls) ∧ BoxOk b' ∧ runF (eL_law_word st) T [.io b, .shr (.str ls), .shr (.int most)] = some (.own, .str s, [.io b', .un, .un]) := by
  obtain ⟨F, hF⟩ : ∃ F : Kd × PV × List Sl → Prop, ∀ r, F r ↔ ∃ s b', s.length ≤ most ∧ (∀ c ∈ s, c ∈ ls) ∧ BoxOk b' ∧ r = (.own, .str s, [.io b', .un, .un]) := ⟨_, fun _ => Iff.rfl⟩
  suffices h : W (runF (eL_law_word st) T [.io b, .shr (.str ls), .shr (.int most)]) F by
    obtain ⟨r, e, h⟩ := h
    obtain ⟨s, b', h1, h2, h3, er⟩ := (hF r).mp h
    exact ⟨s, b', h1, h2, h3, by rw [e, er]⟩
  obtain ⟨kd', b1, hk0, hk1, hb1, ek⟩ := hd b 10 hb (by omega)
  obtain ⟨kd, rfl⟩ : ∃ n : Nat, kd' = n := ⟨kd'.toNat, by omega⟩
  obtain ⟨m', b2, hm0, hm1, hb2, em⟩ := hd b1 (most + 1) hb1 (by omega)
  obtain ⟨m, rfl⟩ : ∃ n : Nat, m' = n := ⟨m'.toNat, by omega⟩
  refine runF_W rfl ?_
  show W (F_law_word T [.io b, .shr (.str ls), .shr (.int most), .un, .un, .un, .un, .un, .un, .un, .un]) _
  unfold F_law_word
  refine W_seqE (τ1 := [.io b1, .shr (.str ls), .shr (.int most), .own (.int kd), .un, .un, .un, .un, .un, .un, .un]) (by
    rw [← W.eq]; simp -dsimp -implicitDefEqProofs [ek]) ?_
  refine W_seq (fun τ => ∃ w b3, τ = [.io b3, .shr (.str ls), .shr (.int most), .own (.int kd), .own (.str w), .un, .un, .un, .un, .un, .un] ∧ BoxOk b3 ∧ w.length ≤ most ∧ ∀ c ∈ w, c ∈ ls) ?_ fun τ hτ => ?_
  · have bm : bd62 (m : Int) = true := bd62_lit ⟨by omega, by omega⟩
    simp -dsimp -implicitDefEqProofs
    obtain ⟨I, hI⟩ : ∃ I : En → Prop, ∀ τ, I τ ↔ ∃ b, τ = [.io b, .shr (.str ls), .shr (.int most), .own (.int kd), .un, .un, .un, .un, .un, .un, .un] ∧ BoxOk b := ⟨_, fun _ => Iff.rfl⟩
    refine W_compM I (fun _ r => ∃ c, r = PV.str [c] ∧ c ∈ ls) ?_
    simp -dsimp -implicitDefEqProofs [em, bm]
    refine ⟨by omega, (hI _).mpr ⟨_, rfl, hb2⟩, fun t ht τ hτ => ?_, fun rs τ' hal hτ => ?_⟩
    · obtain ⟨b, rfl, hb⟩ := (hI _).mp hτ
      obtain ⟨c, b', hc, hb', ep⟩ := hp b ls hb hls
      obtain ⟨j, hj⟩ := List.mem_iff_getElem?.mp ht
      obtain ⟨_, rfl⟩ := rgL_get hj
      simp -dsimp -implicitDefEqProofs [ep]
      exact ⟨hc, (hI _).mpr ⟨_, rfl, hb'⟩⟩
    · obtain ⟨b, rfl, hb⟩ := (hI _).mp hτ
      obtain ⟨s, rfl, hl, hs⟩ := letters_of hal
      have hlen : s.length ≤ most := by rw [hl, rgL_length]; omega
      have ej := gJoin_letters (s := s) (by omega)
      simp -dsimp -implicitDefEqProofs [ej]
      exact ⟨s, b, ⟨rfl, rfl⟩, hb, hlen, hs⟩
  obtain ⟨w, b3, rfl, hb3, hw, hwl⟩ := hτ
  -- any text of the word's letters and no longer will do
  have fin : ∀ s b', BoxOk b' → s.length ≤ w.length → (∀ c ∈ s, c ∈ w) → F (.own, .str s, [.io b', .un, .un]) := fun s b' h1 h2 h3 => (hF _).mpr ⟨s, b', by omega, fun c hc => hwl c (h3 c hc), h1, rfl⟩
  obtain ⟨n, hn⟩ : ∃ n, w.length = n := ⟨_, rfl⟩
  have hnm : n ≤ 1000 := by omega
  refine W_seqE (τ1 := [.io b3, .shr (.str ls), .shr (.int most), .own (.int kd), .own (.str w), .own (.int n), .un, .un, .un, .un, .un]) (by
    rw [← W.eq]; simp -dsimp -implicitDefEqProofs [hn]) ?_
  by_cases h2 : n < 2
  · have h2' : (n : Int) < 2 := by omega
    simp -dsimp -implicitDefEqProofs [h2']
    exact fin _ _ hb3 (Nat.le_refl _) fun _ h => h
  have h2' : ¬ ((n : Int) < 2) := by omega
  refine W_seqE (τ1 := [.io b3, .shr (.str ls), .shr (.int most), .own (.int kd), .own (.str w), .own (.int n), .un, .un, .un, .un, .un]) (by
    rw [← W.eq]; simp -dsimp -implicitDefEqProofs [h2']) ?_
  obtain ⟨x', b4, hx0, hx1, hb4, ex⟩ := hd b3 ((n : Int) / 2) hb3 (by omega)
  obtain ⟨sh, hsh⟩ : ∃ sh : Nat, 1 + x' = sh := ⟨(1 + x').toNat, by omega⟩
  have hs1 : 1 ≤ sh ∧ 2 * sh ≤ n := by omega
  refine W_seqE (τ1 := [.io b4, .shr (.str ls), .shr (.int most), .own (.int kd), .own (.str w), .own (.int n), .own (.int sh), .un, .un, .un, .un]) (by
    rw [← W.eq]; simp -dsimp -implicitDefEqProofs [ex, hsh]) ?_
  have ct : cutL w none (some (sh : Int)) = w.take sh := cutL_n0
  have tl : (w.take sh).length = sh := by rw [List.length_take]; omega
  have tm : ∀ c ∈ w.take sh, c ∈ w := fun c hc => List.mem_of_mem_take hc
  have rest : ∀ i : Nat, ((kd : Int) == (i : Int)) = decide (kd = i) := fun i => by rw [Bool.eq_iff_iff, beq_iff_eq, decide_eq_true_eq]; omega
  by_cases k1 : kd = 1
  · have k1' : (kd : Int) = 1 := by omega
    have eM := gMul_str (s := w.take sh) (n := n) (by rw [tl]; have : sh * n ≤ 1000 * 1000 := Nat.mul_le_mul (by omega) hnm; omega) (by omega)
    have ec : cutL (repT (w.take sh) n) none (some (n : Int)) = (repT (w.take sh) n).take n := cutL_n0
    simp -dsimp -implicitDefEqProofs [k1', ct, eM, ec]
    exact fin _ _ hb4 (by rw [List.length_take]; omega) fun c hc => tm c (repT_mem (List.mem_of_mem_take hc))
  have k1' : ¬ ((kd : Int) = 1) := by omega
  refine W_seqE (τ1 := [.io b4, .shr (.str ls), .shr (.int most), .own (.int kd), .own (.str w), .own (.int n), .own (.int sh), .un, .un, .un, .un]) (by
    rw [← W.eq]; simp -dsimp -implicitDefEqProofs [k1']) ?_
  by_cases k2 : kd = 2
  · have k2' : (kd : Int) = 2 := by omega
    have hdv : n / sh * sh ≤ n := Nat.div_mul_le_self n sh
    have hdl : n / sh ≤ n := Nat.div_le_self n sh
    have eD : gFdiv (.int (n : Int)) (.int (sh : Int)) = some (.own, .int ((n / sh : Nat) : Int)) := by rw [gFdiv_int ⟨by omega, by omega⟩]; simp
    have eM := gMul_str (s := w.take sh) (n := n / sh) (by rw [tl, Nat.mul_comm]; omega) (by omega)
    rw [show ((n / sh : Nat) : Int) = (n : Int) / (sh : Int) by simp] at eM
    simp -dsimp -implicitDefEqProofs [k2', ct, eD, eM]
    exact fin _ _ hb4 (by rw [repT_len, tl]; omega) fun c hc => tm c (repT_mem hc)
  have k2' : ¬ ((kd : Int) = 2) := by omega
  refine W_seqE (τ1 := [.io b4, .shr (.str ls), .shr (.int most), .own (.int kd), .own (.str w), .own (.int n), .own (.int sh), .un, .un, .un, .un]) (by
    rw [← W.eq]; simp -dsimp -implicitDefEqProofs [k2']) ?_
  by_cases k3 : kd = 3
  · have k3' : (kd : Int) = 3 := by omega
    have c1 : cutL w none (some ((n : Int) - (n : Int) / 2)) = w.take (n - n / 2) := by rw [show (n : Int) - (n : Int) / 2 = ((n - n / 2 : Nat) : Int) by omega]; exact cutL_n0
    have c2 : cutL w none (some ((n : Int) / 2)) = w.take (n / 2) := by rw [show (n : Int) / 2 = ((n / 2 : Nat) : Int) by omega]; exact cutL_n0
    have hz : min (n - n / 2) n + min (n / 2) n ≤ 16777216 := by omega
    simp -dsimp -implicitDefEqProofs [k3', c1, c2, hn, hz]
    refine ⟨by omega, fin _ _ hb4 (by simp; omega) fun c hc => ?_⟩
    rcases List.mem_append.mp hc with z | z
    · exact List.mem_of_mem_take z
    · exact List.mem_of_mem_take (List.mem_reverse.mp z)
  have k3' : ¬ ((kd : Int) = 3) := by omega
  refine W_seqE (τ1 := [.io b4, .shr (.str ls), .shr (.int most), .own (.int kd), .own (.str w), .own (.int n), .own (.int sh), .un, .un, .un, .un]) (by
    rw [← W.eq]; simp -dsimp -implicitDefEqProofs [k3']) ?_
  by_cases k4 : kd = 4
  · have k4' : (kd : Int) = 4 := by omega
    have c1 : cutL w (some (2 * (sh : Int))) none = w.drop (2 * sh) := by rw [show 2 * (sh : Int) = ((2 * sh : Nat) : Int) by omega]; exact cutL_0n
    have m1 : mulOk 2 (sh : Int) = true := mulOk_r ⟨by omega, by omega⟩
    have hz1 : min sh n + (n - 2 * sh) ≤ 16777216 := by omega
    have hz2 : min sh n + (n - 2 * sh) + min sh n ≤ 16777216 := by omega
    simp -dsimp -implicitDefEqProofs [k4', ct, c1, m1, hn, hz1, hz2]
    refine fin _ _ hb4 (by simp; omega) fun c hc => ?_
    simp only [List.mem_append] at hc
    rcases hc with z | z | z
    · exact List.mem_of_mem_take z
    · exact List.mem_of_mem_drop z
    · exact List.mem_of_mem_take z
  have k4' : ¬ ((kd : Int) = 4) := by omega
  refine W_seqE (τ1 := [.io b4, .shr (.str ls), .shr (.int most), .own (.int kd), .own (.str w), .own (.int n), .own (.int sh), .un, .un, .un, .un]) (by
    rw [← W.eq]; simp -dsimp -implicitDefEqProofs [k4']) ?_
  have c1 : cutL w none (some 1) = w.take 1 := cutL_n0 (b := 1)
  have t1 : (w.take 1).length = 1 := by rw [List.length_take]; omega
  have c2 : cutL w none (some ((sh : Int) + 1)) = w.take (sh + 1) := by rw [show (sh : Int) + 1 = ((sh + 1 : Nat) : Int) by omega]; exact cutL_n0
  by_cases k5 : kd = 5
  · have k5' : (kd : Int) = 5 := by omega
    have c3 : cutL w (some (sh : Int)) (some ((sh : Int) + 1)) = (w.drop sh).take 1 := by rw [show (sh : Int) + 1 = ((sh + 1 : Nat) : Int) by omega, cutL_nn, Nat.add_sub_cancel_left]
    have eM := gMul_str (s := w.take 1) (n := sh) (by rw [t1]; omega) (by omega)
    have eM2 : gMul (.str (w.take 1)) (.int ((n : Int) - sh - 1)) = some (.own, .str (repT (w.take 1) (n - sh - 1))) := by
      rw [show (n : Int) - sh - 1 = ((n - sh - 1 : Nat) : Int) by omega]
      exact gMul_str (by rw [t1]; omega) (by omega)
    have l1 : (repT (w.take 1) sh).length = sh := by rw [repT_len, t1, Nat.mul_one]
    have l2 : (repT (w.take 1) (n - sh - 1)).length = n - sh - 1 := by rw [repT_len, t1, Nat.mul_one]
    have hz1 : sh + min 1 (n - sh) ≤ 16777216 := by omega
    have hz2 : sh + min 1 (n - sh) + (n - sh - 1) ≤ 16777216 := by omega
    simp -dsimp -implicitDefEqProofs [k5', c1, c3, eM, eM2, l1, l2, hn, hz1, hz2]
    refine fin _ _ hb4 (by simp [l1, l2]; omega) fun c hc => ?_
    simp only [List.mem_append] at hc
    rcases hc with z | z | z
    · exact List.mem_of_mem_take (repT_mem z)
    · exact List.mem_of_mem_drop (List.mem_of_mem_take z)
    · exact List.mem_of_mem_take (repT_mem z)
  have k5' : ¬ ((kd : Int) = 5) := by omega
  refine W_seqE (τ1 := [.io b4, .shr (.str ls), .shr (.int most), .own (.int kd), .own (.str w), .own (.int n), .own (.int sh), .un, .un, .un, .un]) (by
    rw [← W.eq]; simp -dsimp -implicitDefEqProofs [k5']) ?_
  by_cases k6 : kd = 6
  · have k6' : (kd : Int) = 6 := by omega
    have bq : bd62 (5 : Int) = true := by decide
    simp -dsimp -implicitDefEqProofs [k6', c1, c2, bq]
    obtain ⟨I, hI⟩ : ∃ I : Nat → En → Prop, ∀ i τ, I i τ ↔ ∃ (s7 : Sl) (u v : Tx), τ = [.io b4, .shr (.str ls), .shr (.int most), .own (.int kd), .own (.str w), .own (.int n), .own (.int sh), s7, .own (.str u), .own (.str v), .un] ∧ nio s7 = true ∧ u.length ≤ n ∧ v.length ≤ n ∧ (∀ c ∈ u, c ∈ w) ∧ (∀ c ∈ v, c ∈ w) := ⟨_, fun _ _ => Iff.rfl⟩
    refine W_forL I ((hI _ _).mpr ⟨_, _, _, by rw [k6'], rfl, by rw [t1]; omega, by rw [List.length_take]; omega, fun c hc => List.mem_of_mem_take hc, fun c hc => List.mem_of_mem_take hc⟩) (fun i t τ ht hi => ?_) fun τ hi => ?_
    · obtain ⟨s7, u, v, rfl, n7, hu, hv, hu', hv'⟩ := (hI _ _).mp hi
      obtain ⟨hlt, rfl⟩ := rgL_get ht
      have hz : v.length + u.length ≤ 16777216 := by omega
      have ec : cutL (v ++ u) none (some (n : Int)) = (v ++ u).take n := cutL_n0
      simp -dsimp -implicitDefEqProofs [n7, hz, ec]
      refine (hI _ _).mpr ⟨.own (.int i), v, (v ++ u).take n, by simp, rfl, hv, by rw [List.length_take]; omega, hv', fun c hc => ?_⟩
      rcases List.mem_append.mp (List.mem_of_mem_take hc) with z | z
      · exact hv' c z
      · exact hu' c z
    · obtain ⟨s7, u, v, rfl, n7, hu, hv, hu', hv'⟩ := (hI _ _).mp hi
      simp -dsimp -implicitDefEqProofs
      exact fin _ _ hb4 (by omega) hv'
  have k6' : ¬ ((kd : Int) = 6) := by omega
  simp -dsimp -implicitDefEqProofs [k6']
  exact fin _ _ hb4 (Nat.le_refl _) fun _ h => h
end Pv
namespace Pv.k26
open PySem PySem.Spec L2 Pv
/-- edit_table(one, other); slots 0:one 1:other 2:rows 3:place 4:letter 5:row 6:at 7:far -/
def f_edit_table (T : Tbl) : SX :=
    (sSeq (sAsg 2 (eLst [(eLrg (eBin gAdd (eCB (g1 gLen) [(eVar 1)]) (eC (.int 1))))]))
    (sSeq (sFor (iEnS (eVar 0)) (gTp (gsCons (gN 3) (gsCons (gN 4) gsNil)))
    (sSeq (sAsg 5 (eLst [(eBin gAdd (eVar 3) (eC (.int 1)))]))
    (sSeq (sFor (iEnS (eVar 1)) (gTp (gsCons (gN 6) (gsCons (gN 7) gsNil)))
    (sApp 5 (mP (eCB (g3 gMin3) [(eBin gAdd (eIdx (eIdx (eVar 2) (eUn gNeg (eC (.int 1)))) (eVar 6)) (eCB (g1 gInt) [(eBin gNe (eVar 4) (eVar 7))])), (eBin gAdd (eIdx (eIdx (eVar 2) (eUn gNeg (eC (.int 1)))) (eBin gAdd (eVar 6) (eC (.int 1)))) (eC (.int 1))), (eBin gAdd (eIdx (eVar 5) (eVar 6)) (eC (.int 1)))]))))
    (sAppV 2 5))))
    (sRetV 2)))
def e_edit_table (st : Stmt) : FE := ⟨"edit_table", ["one", "other"], ["one", "other", "rows", "place", "letter", "row", "at", "far"], st, f_edit_table⟩
/-- edit_steps(one, other); slots 0:one 1:other 2:table 3:found 4:a 5:b -/
def f_edit_steps (T : Tbl) : SX :=
    (sSeq (sAsg 2 (eCall T "edit_table" [(eVar 0), (eVar 1)]))
    (sSeq (sAsg 3 (eLst []))
    (sSeq (sPar 4 5 (eCB (g1 gLen) [(eVar 0)]) (eCB (g1 gLen) [(eVar 1)]))
    (sSeq (sWh (tOrC (eTrB (eBin gGt (eVar 4) (eC (.int 0)))) (eTrB (eBin gGt (eVar 5) (eC (.int 0)))))
    (sIf (tAndC (eTrB (eBin gGt (eVar 4) (eC (.int 0)))) (tAndC (eTrB (eBin gGt (eVar 5) (eC (.int 0)))) (eTrB (eBin gEq (eIdx (eIdx (eVar 2) (eVar 4)) (eVar 5)) (eBin gAdd (eIdx (eIdx (eVar 2) (eBin gSub (eVar 4) (eC (.int 1)))) (eBin gSub (eVar 5) (eC (.int 1)))) (eCB (g1 gInt) [(eBin gNe (eIdx (eVar 0) (eBin gSub (eVar 4) (eC (.int 1)))) (eIdx (eVar 1) (eBin gSub (eVar 5) (eC (.int 1)))))]))))))
    (sSeq (sIf (eTrB (eBin gNe (eIdx (eVar 0) (eBin gSub (eVar 4) (eC (.int 1)))) (eIdx (eVar 1) (eBin gSub (eVar 5) (eC (.int 1))))))
    (sApp 3 (mP (eTup [(eC (.str [99, 104, 97, 110, 103, 101])), (eBin gSub (eVar 4) (eC (.int 1))), (eIdx (eVar 1) (eBin gSub (eVar 5) (eC (.int 1))))])))
    sNil)
    (sPar 4 5 (eBin gSub (eVar 4) (eC (.int 1))) (eBin gSub (eVar 5) (eC (.int 1)))))
    (sIf (tAndC (eTrB (eBin gGt (eVar 4) (eC (.int 0)))) (eTrB (eBin gEq (eIdx (eIdx (eVar 2) (eVar 4)) (eVar 5)) (eBin gAdd (eIdx (eIdx (eVar 2) (eBin gSub (eVar 4) (eC (.int 1)))) (eVar 5)) (eC (.int 1))))))
    (sSeq (sApp 3 (mP (eTup [(eC (.str [116, 97, 107, 101])), (eBin gSub (eVar 4) (eC (.int 1))), (eC (.str []))])))
    (sAug 4 gSub (eC (.int 1))))
    (sSeq (sApp 3 (mP (eTup [(eC (.str [112, 117, 116])), (eVar 4), (eIdx (eVar 1) (eBin gSub (eVar 5) (eC (.int 1))))])))
    (sAug 5 gSub (eC (.int 1)))))))
    (sRetV 3)))))
def e_edit_steps (st : Stmt) : FE := ⟨"edit_steps", ["one", "other"], ["one", "other", "table", "found", "a", "b"], st, f_edit_steps⟩
/-- after_steps(word, steps); slots 0:word 1:steps 2:kind 3:place 4:letter 5:last -/
def f_after_steps (T : Tbl) : SX :=
    (sSeq (sForN 1 (gTp (gsCons (gN 2) (gsCons (gN 3) (gsCons (gN 4) gsNil))))
    (sSeq (sAsg 5 (eBin gAdd (eCB (g1 gLen) [(eVar 0)]) (eCB (g1 gInt) [(eBin gEq (eVar 2) (eC (.str [112, 117, 116])))])))
    (sSeq (sIf (tNotC (eTrB (eChain gLe gLt (eC (.int 0)) (eVar 3) (eVar 5))))
    (sRet (eC .non))
    sNil)
    (sIf (eTrB (eBin gEq (eVar 2) (eC (.str [112, 117, 116]))))
    (sAsg 0 (eBin gAdd (eBin gAdd (eSl (eVar 0) eNP (eSP (eVar 3))) (eVar 4)) (eSl (eVar 0) (eSP (eVar 3)) eNP)))
    (sAsg 0 (eBin gAdd (eBin gAdd (eSl (eVar 0) eNP (eSP (eVar 3))) (eVar 4)) (eSl (eVar 0) (eSP (eBin gAdd (eVar 3) (eC (.int 1)))) eNP)))))))
    (sRetV 0))
def e_after_steps (st : Stmt) : FE := ⟨"after_steps", ["word", "steps"], ["word", "steps", "kind", "place", "letter", "last"], st, f_after_steps⟩
/-- shows_edits(one, other, steps, most); slots 0:one 1:other 2:steps 3:most 4:step -/
def f_shows_edits (T : Tbl) : SX :=
    (sSeq (sForN 2 (gN 4)
    (sIf (tOrC (eTrB (eBin gNe (eCB (g1 gLen) [(eVar 4)]) (eC (.int 3)))) (tOrC (eTrB (eBin gNin (eIdx (eVar 4) (eC (.int 0))) (eTup [(eC (.str [112, 117, 116])), (eC (.str [116, 97, 107, 101])), (eC (.str [99, 104, 97, 110, 103, 101]))]))) (eTrB (eBin gNe (eCB (g1 gLen) [(eIdx (eVar 4) (eC (.int 2)))]) (eCB (g1 gInt) [(eBin gNe (eIdx (eVar 4) (eC (.int 0))) (eC (.str [116, 97, 107, 101])))])))))
    (sRet (eC (.bl false)))
    sNil))
    (sRet (eAnd (eBin gLe (eCB (g1 gLen) [(eVar 2)]) (eVar 3)) (eBin gEq (eCall T "after_steps" [(eVar 0), (eVar 2)]) (eVar 1)))))
def e_shows_edits (st : Stmt) : FE := ⟨"shows_edits", ["one", "other", "steps", "most"], ["one", "other", "steps", "most", "step"], st, f_shows_edits⟩
/-- _law_cell(script, k); slots 0:script 1:k -/
def f__law_cell (T : Tbl) : SX :=
    (sSeq (sIf (eTrB (eBin gLt (eVar 1) (eCB (g1 gLen) [(eVar 0)])))
    (sRet (eIdx (eVar 0) (eVar 1)))
    sNil)
    (sRet (eC (.int 0))))
def e__law_cell (st : Stmt) : FE := ⟨"_law_cell", ["script", "k"], ["script", "k"], st, f__law_cell⟩
/-- _law_digits(script, first, last); slots 0:script 1:first 2:last 3:digits 4:k 5:cell 6:turn 7:seed -/
def f__law_digits (T : Tbl) : SX :=
    (sSeq (sAsg 3 (eLst []))
    (sSeq (sFor (iRg2 (eVar 1) (eVar 2)) (gN 4)
    (sSeq (sAsg 5 (eCall T "_law_cell" [(eVar 0), (eVar 4)]))
    (sSeq (sIf (eTrB (eBin gLt (eVar 5) (eC (.int 0))))
    (sAsg 5 (eBin gSub (eC (.int 1)) (eBin gMul (eC (.int 2)) (eVar 5))))
    sNil)
    (sIf (eTrB (eBin gGe (eVar 5) (eBin gPow (eC (.int 10)) (eC (.int 18)))))
    (sFor (iRg1 (eC (.int 60))) (gN 6)
    (sIf (eTrB (eBin gGt (eVar 5) (eC (.int 0))))
    (sSeq (sApp 3 (mP (eBin gMod (eCB (g1 gInt) [(eVar 5)]) (eC (.int 1000)))))
    (sAsg 5 (eBin gFdiv (eVar 5) (eC (.int 1000)))))
    sNil))
    (sSeq (sAsg 7 (eBin gMod (eCB (g1 gInt) [(eBin gAdd (eBin gAdd (eBin gMul (eVar 5) (eC (.int 48271))) (eBin gMul (eVar 4) (eC (.int 69621)))) (eC (.int 11)))]) (eC (.int 2147483647))))
    (sFor (iRg1 (eC (.int 12))) (gN 6)
    (sSeq (sAsg 7 (eBin gMod (eCB (g1 gInt) [(eBin gAdd (eBin gAdd (eBin gMul (eVar 7) (eC (.int 16807))) (eBin gMul (eC (.int 7)) (eVar 6))) (eC (.int 1)))]) (eC (.int 2147483647))))
    (sApp 3 (mP (eBin gMod (eCB (g1 gInt) [(eBin gFdiv (eVar 7) (eC (.int 997)))]) (eC (.int 1000))))))))))))
    (sRetV 3)))
def e__law_digits (st : Stmt) : FE := ⟨"_law_digits", ["script", "first", "last"], ["script", "first", "last", "digits", "k", "cell", "turn", "seed"], st, f__law_digits⟩
/-- _law_draw(box, many); slots 0:box 1:many -/
def f__law_draw (T : Tbl) : SX :=
    (sSeq (sSetL 0 (eC (.int 1)) (mP (eBin gAdd (eIdx (eVar 0) (eC (.int 1))) (eC (.int 1)))))
    (sSeq (sIf (eTrB (eBin gGt (eIdx (eVar 0) (eC (.int 1))) (eCB (g1 gLen) [(eIdx (eVar 0) (eC (.int 0)))])))
    (sRet (eBin gMod (eCB (g1 gInt) [(eBin gAdd (eBin gMul (eIdx (eVar 0) (eC (.int 1))) (eC (.int 7))) (eC (.int 3)))]) (eVar 1)))
    sNil)
    (sRet (eBin gMod (eCB (g1 gInt) [(eIdx (eIdx (eVar 0) (eC (.int 0))) (eBin gSub (eIdx (eVar 0) (eC (.int 1))) (eC (.int 1))))]) (eVar 1)))))
def e__law_draw (st : Stmt) : FE := ⟨"_law_draw", ["box", "many"], ["box", "many"], st, f__law_draw⟩
/-- _law_pick(box, row); slots 0:box 1:row -/
def f__law_pick (T : Tbl) : SX :=
    (sRetM (mIdxN 1 (mBinP gMod (mCB (g1 gInt) [.mx (mCallI T "_law_draw" 0 0 [.nm 0, .px (eC (.int 1000))])]) (eCB (g1 gLen) [(eVar 1)]))))
def e__law_pick (st : Stmt) : FE := ⟨"_law_pick", ["box", "row"], ["box", "row"], st, f__law_pick⟩
/-- _law_same(told, due); slots 0:told 1:due 2:k -/
def f__law_same (T : Tbl) : SX :=
    (sSeq (sIf (eTrB (eBin gIs (eVar 1) (eC .non)))
    (sRet (eBin gIs (eVar 0) (eC .non)))
    sNil)
    (sSeq (sIf (eTrB (eBin gIs (eVar 1) (eC (.bl true))))
    (sRet (eBin gIs (eVar 0) (eC (.bl true))))
    sNil)
    (sSeq (sIf (eTrB (eBin gIs (eVar 1) (eC (.bl false))))
    (sRet (eBin gIs (eVar 0) (eC (.bl false))))
    sNil)
    (sSeq (sIf (eTru (eIsi "str" (eVar 1)))
    (sRet (eAnd (eIsi "str" (eVar 0)) (eBin gEq (eCB (g1 gRepr) [(eVar 0)]) (eCB (g1 gRepr) [(eVar 1)]))))
    sNil)
    (sSeq (sIf (eTru (eIsi "int" (eVar 1)))
    (sRet (eAnd (eIsi "int" (eVar 0)) (eAnd (eNot (eIsi "bool" (eVar 0))) (eBin gEq (eCB (g1 gRepr) [(eVar 0)]) (eCB (g1 gRepr) [(eVar 1)])))))
    sNil)
    (sSeq (sIf (tOrC (tAndC (eTru (eIsi "tuple" (eVar 1))) (tNotC (eTru (eIsi "tuple" (eVar 0))))) (tAndC (eTru (eIsi "list" (eVar 1))) (tNotC (eTru (eIsi "list" (eVar 0))))))
    (sRet (eC (.bl false)))
    sNil)
    (sSeq (sIf (eTrB (eBin gNe (eCB (g1 gLen) [(eVar 0)]) (eCB (g1 gLen) [(eVar 1)])))
    (sRet (eC (.bl false)))
    sNil)
    (sSeq (sFor (iRg1 (eCB (g1 gLen) [(eVar 1)])) (gN 2)
    (sIf (tNotC (eTru (eCall T "_law_same" [(eIdx (eVar 0) (eVar 2)), (eIdx (eVar 1) (eVar 2))])))
    (sRet (eC (.bl false)))
    sNil))
    (sRet (eC (.bl true)))))))))))
def e__law_same (st : Stmt) : FE := ⟨"_law_same", ["told", "due"], ["told", "due", "k"], st, f__law_same⟩
/-- _law_word(box, letters, most); slots 0:box 1:letters 2:most 3:size 4:kind 5:plain 6:part 7:k -/
def f__law_word (T : Tbl) : SX :=
    (sSeq (sAsgM 3 (mCallI T "_law_draw" 0 0 [.nm 0, .px (eBin gAdd (eVar 2) (eC (.int 1)))]))
    (sSeq (sAsgM 4 (mCallI T "_law_draw" 0 0 [.nm 0, .px (eC (.int 5))]))
    (sSeq (sAsgM 5 (mBM "str" gJoin (mP (eC (.str []))) [.mx (eCompM (imP (iRg1 (eVar 3))) (([("k", 7)] : List (Str × Nat)).map (·.2)) (gN 7) tYesC (mCallI T "_law_pick" 0 0 [.nm 0, .nm 1]))]))
    (sSeq (sIf (tOrC (eTrB (eBin gLt (eVar 4) (eC (.int 3)))) (eTrB (eBin gEq (eVar 3) (eC (.int 0)))))
    (sRetV 5)
    sNil)
    (sSeq (sAsg 6 (eSl (eVar 5) eNP (eSP (eBin gAdd (eC (.int 1)) (eBin gFdiv (eCB (g1 gInt) [(eVar 3)]) (eC (.int 3)))))))
    (sRet (eSl (eBin gMul (eVar 6) (eVar 3)) eNP (eSP (eVar 3)))))))))
def e__law_word (st : Stmt) : FE := ⟨"_law_word", ["box", "letters", "most"], ["box", "letters", "most", "size", "kind", "plain", "part", "k"], st, f__law_word⟩
/-- _law_bent(box, word, letters); slots 0:box 1:word 2:letters 3:kind 4:place 5:letter -/
def f__law_bent (T : Tbl) : SX :=
    (sSeq (sAsgM 3 (mCallI T "_law_draw" 0 0 [.nm 0, .px (eC (.int 9))]))
    (sSeq (sAsgM 4 (mBinP gMod (mCB (g1 gInt) [.mx (mCallI T "_law_draw" 0 0 [.nm 0, .px (eC (.int 1000))])]) (eBin gAdd (eCB (g1 gLen) [(eVar 1)]) (eC (.int 1)))))
    (sSeq (sAsgM 5 (mCallI T "_law_pick" 0 0 [.nm 0, .nm 2]))
    (sSeq (sIf (eTrB (eBin gEq (eVar 3) (eC (.int 0))))
    (sRetV 1)
    sNil)
    (sSeq (sIf (eTrB (eBin gEq (eVar 3) (eC (.int 1))))
    (sRet (eBin gAdd (eBin gAdd (eSl (eVar 1) eNP (eSP (eVar 4))) (eVar 5)) (eSl (eVar 1) (eSP (eVar 4)) eNP)))
    sNil)
    (sSeq (sIf (eTrB (eBin gEq (eVar 3) (eC (.int 2))))
    (sRet (eBin gAdd (eSl (eVar 1) eNP (eSP (eVar 4))) (eSl (eVar 1) (eSP (eBin gAdd (eVar 4) (eC (.int 1)))) eNP)))
    sNil)
    (sSeq (sIf (eTrB (eBin gEq (eVar 3) (eC (.int 3))))
    (sRet (eBin gAdd (eBin gAdd (eSl (eVar 1) eNP (eSP (eVar 4))) (eVar 5)) (eSl (eVar 1) (eSP (eBin gAdd (eVar 4) (eC (.int 1)))) eNP)))
    sNil)
    (sSeq (sIf (eTrB (eBin gEq (eVar 3) (eC (.int 4))))
    (sRet (eBin gAdd (eSl (eVar 1) (eSP (eVar 4)) eNP) (eSl (eVar 1) eNP (eSP (eVar 4)))))
    sNil)
    (sSeq (sIf (eTrB (eBin gEq (eVar 3) (eC (.int 5))))
    (sRet (eRev (eVar 1)))
    sNil)
    (sSeq (sIf (eTrB (eBin gEq (eVar 3) (eC (.int 6))))
    (sRet (eBin gAdd (eBin gAdd (eBin gAdd (eSl (eVar 1) eNP (eSP (eVar 4))) (eVar 5)) (eSl (eVar 1) (eSP (eBin gAdd (eVar 4) (eC (.int 2)))) eNP)) (eVar 5)))
    sNil)
    (sSeq (sIf (eTrB (eBin gEq (eVar 3) (eC (.int 7))))
    (sRet (eBin gAdd (eSl (eVar 1) (eSP (eC (.int 1))) eNP) (eVar 5)))
    sNil)
    (sRetM (mCallI T "_law_word" 0 0 [.nm 0, .nm 2, .px (eC (.int 7))])))))))))))))
def e__law_bent (st : Stmt) : FE := ⟨"_law_bent", ["box", "word", "letters"], ["box", "word", "letters", "kind", "place", "letter"], st, f__law_bent⟩
/-- _law_grid(one, other, change); slots 0:one 1:other 2:change 3:table 4:layer 5:turn 6:later 7:k 8:a 9:b -/
def f__law_grid (T : Tbl) : SX :=
    (sSeq (sAsg 3 (eComp (iRg1 (eBin gAdd (eCB (g1 gLen) [(eVar 0)]) (eC (.int 1)))) (([("a", 8)] : List (Str × Nat)).map (·.2)) (gN 8) tYesC (eComp (iRg1 (eBin gAdd (eCB (g1 gLen) [(eVar 1)]) (eC (.int 1)))) (([("b", 9)] : List (Str × Nat)).map (·.2)) (gN 9) tYesC (eC .non))))
    (sSeq (sAsg 4 (eLst [(eTup [(eC (.int 0)), (eC (.int 0))])]))
    (sSeq (sFor (iRg1 (eBin gAdd (eBin gAdd (eCB (g1 gLen) [(eVar 0)]) (eCB (g1 gLen) [(eVar 1)])) (eC (.int 1)))) (gN 5)
    (sSeq (sAsg 6 (eLst []))
    (sSeq (sFor (iRg1 (eBin gMul (eBin gMul (eC (.int 4)) (eBin gAdd (eCB (g1 gLen) [(eVar 0)]) (eC (.int 1)))) (eBin gAdd (eCB (g1 gLen) [(eVar 1)]) (eC (.int 1))))) (gN 7)
    (sSeq (sIf (eTrB (eBin gGe (eVar 7) (eCB (g1 gLen) [(eVar 4)])))
    sBrk
    sNil)
    (sSeq (sAsgG (gTp (gsCons (gN 8) (gsCons (gN 9) gsNil))) (mP (eIdx (eVar 4) (eVar 7))))
    (sIf (eTrB (eBin gIs (eIdx (eIdx (eVar 3) (eVar 8)) (eVar 9)) (eC .non)))
    (sSeq (sSet2 3 (eVar 8) (eVar 9) (mP (eVar 5)))
    (sSeq (sIf (tAndC (eTrB (eBin gLt (eVar 8) (eCB (g1 gLen) [(eVar 0)]))) (eTrB (eBin gLt (eVar 9) (eCB (g1 gLen) [(eVar 1)]))))
    (sIf (eTrB (eBin gEq (eIdx (eVar 0) (eVar 8)) (eIdx (eVar 1) (eVar 9))))
    (sApp 4 (mP (eTup [(eBin gAdd (eVar 8) (eC (.int 1))), (eBin gAdd (eVar 9) (eC (.int 1)))])))
    (sIf (eTru (eVar 2))
    (sApp 6 (mP (eTup [(eBin gAdd (eVar 8) (eC (.int 1))), (eBin gAdd (eVar 9) (eC (.int 1)))])))
    sNil))
    sNil)
    (sSeq (sIf (eTrB (eBin gLt (eVar 8) (eCB (g1 gLen) [(eVar 0)])))
    (sApp 6 (mP (eTup [(eBin gAdd (eVar 8) (eC (.int 1))), (eVar 9)])))
    sNil)
    (sIf (eTrB (eBin gLt (eVar 9) (eCB (g1 gLen) [(eVar 1)])))
    (sApp 6 (mP (eTup [(eVar 8), (eBin gAdd (eVar 9) (eC (.int 1)))])))
    sNil))))
    sNil))))
    (sMv 4 6))))
    (sRetV 3))))
def e__law_grid (st : Stmt) : FE := ⟨"_law_grid", ["one", "other", "change"], ["one", "other", "change", "table", "layer", "turn", "later", "k", "a", "b"], st, f__law_grid⟩
/-- _law_steps(one, other); slots 0:one 1:other 2:table 3:a 4:b 5:found 6:turn -/
def f__law_steps (T : Tbl) : SX :=
    (sSeq (sAsg 2 (eCall T "_law_grid" [(eVar 0), (eVar 1), (eC (.bl true))]))
    (sSeq (sAsg 3 (eCB (g1 gLen) [(eVar 0)]))
    (sSeq (sAsg 4 (eCB (g1 gLen) [(eVar 1)]))
    (sSeq (sAsg 5 (eLst []))
    (sSeq (sFor (iRg1 (eBin gAdd (eCB (g1 gLen) [(eVar 0)]) (eCB (g1 gLen) [(eVar 1)]))) (gN 6)
    (sIf (tAndC (eTrB (eBin gGt (eVar 3) (eC (.int 0)))) (tAndC (eTrB (eBin gGt (eVar 4) (eC (.int 0)))) (tAndC (eTrB (eBin gEq (eIdx (eVar 0) (eBin gSub (eVar 3) (eC (.int 1)))) (eIdx (eVar 1) (eBin gSub (eVar 4) (eC (.int 1)))))) (eTrB (eBin gEq (eIdx (eIdx (eVar 2) (eVar 3)) (eVar 4)) (eIdx (eIdx (eVar 2) (eBin gSub (eVar 3) (eC (.int 1)))) (eBin gSub (eVar 4) (eC (.int 1)))))))))
    (sSeq (sAsg 3 (eBin gSub (eVar 3) (eC (.int 1))))
    (sAsg 4 (eBin gSub (eVar 4) (eC (.int 1)))))
    (sIf (tAndC (eTrB (eBin gGt (eVar 4) (eC (.int 0)))) (eTrB (eBin gEq (eIdx (eIdx (eVar 2) (eVar 3)) (eVar 4)) (eBin gAdd (eIdx (eIdx (eVar 2) (eVar 3)) (eBin gSub (eVar 4) (eC (.int 1)))) (eC (.int 1))))))
    (sSeq (sAsg 4 (eBin gSub (eVar 4) (eC (.int 1))))
    (sApp 5 (mP (eTup [(eC (.str [112, 117, 116])), (eVar 4), (eIdx (eVar 1) (eVar 4))]))))
    (sIf (tAndC (eTrB (eBin gGt (eVar 3) (eC (.int 0)))) (tAndC (eTrB (eBin gGt (eVar 4) (eC (.int 0)))) (eTrB (eBin gEq (eIdx (eIdx (eVar 2) (eVar 3)) (eVar 4)) (eBin gAdd (eIdx (eIdx (eVar 2) (eBin gSub (eVar 3) (eC (.int 1)))) (eBin gSub (eVar 4) (eC (.int 1)))) (eC (.int 1)))))))
    (sSeq (sAsg 3 (eBin gSub (eVar 3) (eC (.int 1))))
    (sSeq (sAsg 4 (eBin gSub (eVar 4) (eC (.int 1))))
    (sApp 5 (mP (eTup [(eC (.str [99, 104, 97, 110, 103, 101])), (eVar 4), (eIdx (eVar 1) (eVar 4))])))))
    (sIf (eTrB (eBin gGt (eVar 3) (eC (.int 0))))
    (sSeq (sAsg 3 (eBin gSub (eVar 3) (eC (.int 1))))
    (sApp 5 (mP (eTup [(eC (.str [116, 97, 107, 101])), (eVar 4), (eC (.str []))]))))
    sNil)))))
    (sRet (eRev (eVar 5))))))))
def e__law_steps (st : Stmt) : FE := ⟨"_law_steps", ["one", "other"], ["one", "other", "table", "a", "b", "found", "turn"], st, f__law_steps⟩
/-- _law_after(word, steps); slots 0:word 1:steps 2:step 3:rest 4:kind 5:place 6:letter -/
def f__law_after (T : Tbl) : SX :=
    (sSeq (sForN 1 (gN 2)
    (sSeq (sAsgG (gTp (gsCons (gN 4) (gsCons (gN 5) (gsCons (gN 6) gsNil)))) (mP (eVar 2)))
    (sSeq (sIf (tOrC (eTrB (eBin gLt (eVar 5) (eC (.int 0)))) (tOrC (eTrB (eBin gGt (eVar 5) (eCB (g1 gLen) [(eVar 0)]))) (tAndC (eTrB (eBin gEq (eVar 5) (eCB (g1 gLen) [(eVar 0)]))) (eTrB (eBin gNe (eVar 4) (eC (.str [112, 117, 116])))))))
    (sRet (eC .non))
    sNil)
    (sSeq (sAsg 3 (eIf (eTrB (eBin gEq (eVar 4) (eC (.str [112, 117, 116])))) (eSl (eVar 0) (eSP (eVar 5)) eNP) (eSl (eVar 0) (eSP (eBin gAdd (eVar 5) (eC (.int 1)))) eNP)))
    (sAsg 0 (eBin gAdd (eBin gAdd (eSl (eVar 0) eNP (eSP (eVar 5))) (eVar 6)) (eVar 3)))))))
    (sRetV 0))
def e__law_after (st : Stmt) : FE := ⟨"_law_after", ["word", "steps"], ["word", "steps", "step", "rest", "kind", "place", "letter"], st, f__law_after⟩
/-- _law_shown(one, other, steps, most); slots 0:one 1:other 2:steps 3:most 4:step -/
def f__law_shown (T : Tbl) : SX :=
    (sSeq (sForN 2 (gN 4)
    (sSeq (sIf (tOrC (eTrB (eBin gNe (eCB (g1 gLen) [(eVar 4)]) (eC (.int 3)))) (eTrB (eBin gNin (eIdx (eVar 4) (eC (.int 0))) (eLst [(eC (.str [112, 117, 116])), (eC (.str [116, 97, 107, 101])), (eC (.str [99, 104, 97, 110, 103, 101]))]))))
    (sRet (eC (.bl false)))
    sNil)
    (sIf (tOrC (tAndC (eTrB (eBin gEq (eIdx (eVar 4) (eC (.int 0))) (eC (.str [116, 97, 107, 101])))) (eTrB (eBin gNe (eIdx (eVar 4) (eC (.int 2))) (eC (.str []))))) (tAndC (eTrB (eBin gNe (eIdx (eVar 4) (eC (.int 0))) (eC (.str [116, 97, 107, 101])))) (eTrB (eBin gNe (eCB (g1 gLen) [(eIdx (eVar 4) (eC (.int 2)))]) (eC (.int 1))))))
    (sRet (eC (.bl false)))
    sNil)))
    (sRet (eAnd (eBin gLe (eCB (g1 gLen) [(eVar 2)]) (eVar 3)) (eBin gEq (eCall T "_law_after" [(eVar 0), (eVar 2)]) (eVar 1)))))
def e__law_shown (st : Stmt) : FE := ⟨"_law_shown", ["one", "other", "steps", "most"], ["one", "other", "steps", "most", "step"], st, f__law_shown⟩
/-- _law_spoilt(box, steps, many); slots 0:box 1:steps 2:many 3:kind 4:rows 5:at 6:spot 7:step -/
def f__law_spoilt (T : Tbl) : SX :=
    (sSeq (sAsgM 3 (mCallI T "_law_draw" 0 0 [.nm 0, .px (eC (.int 14))]))
    (sSeq (sAsg 4 (eCB (g1 gListA) [(eVar 1)]))
    (sSeq (sAsgM 5 (mBinP gMod (mCB (g1 gInt) [.mx (mCallI T "_law_draw" 0 0 [.nm 0, .px (eC (.int 1000))])]) (eCB (g2 gMax2) [(eC (.int 1)), (eCB (g1 gLen) [(eVar 4)])])))
    (sSeq (sAsgM 6 (mCallI T "_law_draw" 0 0 [.nm 0, .px (eBin gAdd (eVar 2) (eC (.int 1)))]))
    (sSeq (sIf (eTrB (eBin gEq (eVar 3) (eC (.int 1))))
    (sRet (eBin gAdd (eBin gAdd (eSl (eVar 4) eNP (eSP (eVar 5))) (eLst [(eTup [(eC (.str [112, 117, 116])), (eVar 6), (eC (.str [97]))]), (eTup [(eC (.str [116, 97, 107, 101])), (eVar 6), (eC (.str []))])])) (eSl (eVar 4) (eSP (eVar 5)) eNP)))
    sNil)
    (sSeq (sIf (eTrB (eBin gEq (eVar 3) (eC (.int 2))))
    (sRetM (mBinN gAdd 4 (mLst [.mx (mTup [.px (eC (.str [116, 97, 107, 101])), .mx (mCallI T "_law_draw" 0 0 [.nm 0, .px (eBin gAdd (eVar 2) (eC (.int 2)))]), .px (eC (.str []))])])))
    sNil)
    (sSeq (sIf (eTrB (eBin gEq (eVar 3) (eC (.int 3))))
    (sRetM (mBinP gAdd (mBin gAdd (mP (eSl (eVar 4) eNP (eSP (eVar 5)))) (mLst [.mx (mTup [.px (eC (.str [112, 117, 116])), .nm 6, .mx (mCallI T "_law_pick" 0 0 [.nm 0, .px (eLst [(eC (.str [])), (eC (.str [97, 98])), (eC (.str [97]))])])])])) (eSl (eVar 4) (eSP (eVar 5)) eNP)))
    sNil)
    (sSeq (sIf (eTrB (eBin gEq (eVar 3) (eC (.int 4))))
    (sRetM (mBinN gAdd 4 (mLst [.mx (mCallI T "_law_pick" 0 0 [.nm 0, .px (eLst [(eTup [(eC (.str [109, 111, 118, 101])), (eC (.int 0)), (eC (.str [97]))]), (eTup [(eC (.str [])), (eC (.int 0)), (eC (.str [97]))]), (eTup [(eC (.str [99, 104, 97, 110, 103, 101])), (eVar 2), (eC (.str [97]))]), (eTup [(eC (.str [112, 117, 116])), (eVar 2), (eC (.str [97]))])])])])))
    sNil)
    (sSeq (sIf (eTrB (eBin gEq (eVar 3) (eC (.int 5))))
    (sRet (eBin gAdd (eBin gAdd (eLst [(eTup [(eC (.str [112, 117, 116])), (eC (.int 0)), (eC (.str [97]))])]) (eVar 4)) (eLst [(eTup [(eC (.str [116, 97, 107, 101])), (eC (.int 0)), (eC (.str []))])])))
    sNil)
    (sSeq (sIf (tOrC (eTrB (eBin gEq (eVar 4) (eLst []))) (eTrB (eBin gEq (eVar 3) (eC (.int 0)))))
    (sRetV 4)
    sNil)
    (sSeq (sAsg 7 (eIdx (eVar 4) (eVar 5)))
    (sSeq (sIf (eTrB (eBin gEq (eVar 3) (eC (.int 6))))
    (sExpM (mPop 4 (mP (eVar 5))))
    (sIf (eTrB (eBin gEq (eVar 3) (eC (.int 7))))
    (sSetL 4 (eVar 5) (mTup [.px (eIdx (eVar 7) (eC (.int 0))), .mx (mBin gAdd (mP (eIdx (eVar 7) (eC (.int 1)))) (mCallI T "_law_pick" 0 0 [.nm 0, .px (eLst [(eUn gNeg (eC (.int 1))), (eC (.int 1)), (eC (.int 20)), (eUn gNeg (eC (.int 20)))])])), .px (eIdx (eVar 7) (eC (.int 2)))]))
    (sIf (eTrB (eBin gEq (eVar 3) (eC (.int 8))))
    (sSetL 4 (eVar 5) (mTup [.px (eIdx (eVar 7) (eC (.int 0))), .px (eIdx (eVar 7) (eC (.int 1))), .mx (mCallI T "_law_pick" 0 0 [.nm 0, .px (eLst [(eC (.str [98])), (eC (.str [97, 98])), (eC (.str [])), (eC (.str [122]))])])]))
    (sIf (eTrB (eBin gEq (eVar 3) (eC (.int 9))))
    (sSetL 4 (eVar 5) (mTup [.mx (mCallI T "_law_pick" 0 0 [.nm 0, .px (eLst [(eC (.str [112, 117, 116])), (eC (.str [116, 97, 107, 101])), (eC (.str [99, 104, 97, 110, 103, 101])), (eC (.str [107, 101, 101, 112]))])]), .px (eIdx (eVar 7) (eC (.int 1))), .px (eIdx (eVar 7) (eC (.int 2)))]))
    (sIf (eTrB (eBin gEq (eVar 3) (eC (.int 10))))
    (sSetL 4 (eVar 5) (mCallI T "_law_pick" 0 0 [.nm 0, .px (eLst [(eSl (eVar 7) eNP (eSP (eC (.int 2)))), (eBin gAdd (eVar 7) (eTup [(eC (.str []))])), (eSl (eVar 7) eNP (eSP (eC (.int 1)))), (eTup [])])]))
    (sIf (eTrB (eBin gEq (eVar 3) (eC (.int 11))))
    (sAsg 4 (eRev (eVar 4)))
    (sIf (eTrB (eBin gEq (eVar 3) (eC (.int 12))))
    (sApp 4 (mP (eIdx (eVar 4) (eVar 5))))
    (sSetL 4 (eVar 5) (mP (eTup [(eIdx (eVar 7) (eC (.int 0))), (eUn gNeg (eC (.int 1))), (eIdx (eVar 7) (eC (.int 2)))]))))))))))
    (sRetV 4)))))))))))))
def e__law_spoilt (st : Stmt) : FE := ⟨"_law_spoilt", ["box", "steps", "many"], ["box", "steps", "many", "kind", "rows", "at", "spot", "step"], st, f__law_spoilt⟩
/-- _law_told(one, other, far); slots 0:one 1:other 2:far 3:told 4:step -/
def f__law_told (T : Tbl) : SX :=
    (sSeq (sAsg 3 (eCall T "edit_steps" [(eVar 0), (eVar 1)]))
    (sSeq (sIf (tOrC (tNotC (eTru (eIsi "list" (eVar 3)))) (eTrB (eBin gNe (eCB (g1 gLen) [(eVar 3)]) (eVar 2))))
    (sRet (eC (.bl false)))
    sNil)
    (sSeq (sForN 3 (gN 4)
    (sSeq (sIf (tOrC (tNotC (eTru (eIsi "tuple" (eVar 4)))) (tOrC (eTrB (eBin gNe (eCB (g1 gLen) [(eVar 4)]) (eC (.int 3)))) (tOrC (tNotC (eTru (eIsi "str" (eIdx (eVar 4) (eC (.int 0)))))) (tNotC (eTru (eIsi "str" (eIdx (eVar 4) (eC (.int 2)))))))))
    (sRet (eC (.bl false)))
    sNil)
    (sIf (tOrC (tNotC (eTru (eIsi "int" (eIdx (eVar 4) (eC (.int 1)))))) (eTru (eIsi "bool" (eIdx (eVar 4) (eC (.int 1))))))
    (sRet (eC (.bl false)))
    sNil)))
    (sRet (eAnd (eCall T "_law_shown" [(eVar 0), (eVar 1), (eVar 3), (eVar 2)]) (eBin gIs (eCall T "shows_edits" [(eVar 0), (eVar 1), (eVar 3), (eVar 2)]) (eC (.bl true))))))))
def e__law_told (st : Stmt) : FE := ⟨"_law_told", ["one", "other", "far"], ["one", "other", "far", "told", "step"], st, f__law_told⟩
/-- law(script); slots 0:script 1:box 2:letters 3:one 4:other 5:steps 6:far 7:turn 8:bent 9:most 10:handed 11:plain 12:step -/
def f_law (T : Tbl) : SX :=
    (sSeq (sAsg 1 (eLst [(eCall T "_law_digits" [(eVar 0), (eC (.int 0)), (eC (.int 14))]), (eC (.int 0))]))
    (sSeq (sAsgM 2 (mCallI T "_law_pick" 0 1 [.nm 1, .px (eLst [(eC (.str [97, 98])), (eC (.str [97, 98, 99])), (eC (.str [97, 98])), (eC (.str [97])), (eC (.str [120, 121, 122]))])]))
    (sSeq (sAsgM 3 (mCallI T "_law_word" 0 1 [.nm 1, .nm 2, .px (eC (.int 7))]))
    (sSeq (sAsgM 4 (mCallI T "_law_bent" 0 1 [.nm 1, .nm 3, .nm 2]))
    (sSeq (sIfM (mTrB (mBinP gEq (mCallI T "_law_draw" 0 1 [.nm 1, .px (eC (.int 3))]) (eC (.int 0))))
    (sAsgM 4 (mCallI T "_law_bent" 0 1 [.nm 1, .nm 4, .nm 2]))
    sNil)
    (sSeq (sAsg 5 (eCall T "_law_steps" [(eVar 3), (eVar 4)]))
    (sSeq (sAsg 6 (eCB (g1 gLen) [(eVar 5)]))
    (sSeq (sIf (tOrC (eTrB (eBin gNe (eVar 6) (eIdx (eIdx (eCall T "_law_grid" [(eVar 3), (eVar 4), (eC (.bl true))]) (eUn gNeg (eC (.int 1)))) (eUn gNeg (eC (.int 1)))))) (tNotC (eTru (eCall T "_law_shown" [(eVar 3), (eVar 4), (eVar 5), (eVar 6)]))))
    (sRet (eC (.bl false)))
    sNil)
    (sSeq (sIf (tOrC (tNotC (eTru (eCall T "_law_told" [(eVar 3), (eVar 4), (eVar 6)]))) (tNotC (eTru (eCall T "_law_told" [(eVar 4), (eVar 3), (eVar 6)]))))
    (sRet (eC (.bl false)))
    sNil)
    (sSeq (sIf (tOrC (eTrB (eBin gIsN (eCall T "shows_edits" [(eVar 3), (eVar 4), (eCB (g1 gListA) [(eVar 5)]), (eVar 6)]) (eC (.bl true)))) (eTrB (eBin gIsN (eCall T "shows_edits" [(eVar 3), (eVar 4), (eCB (g1 gListA) [(eVar 5)]), (eBin gSub (eVar 6) (eC (.int 1)))]) (eC (.bl false)))))
    (sRet (eC (.bl false)))
    sNil)
    (sSeq (sFor (iRg1 (eC (.int 7))) (gN 7)
    (sSeq (sAsgM 8 (mCallI T "_law_spoilt" 0 1 [.nm 1, .nm 5, .px (eCB (g2 gMax2) [(eCB (g1 gLen) [(eVar 3)]), (eCB (g1 gLen) [(eVar 4)])])]))
    (sSeq (sAsgM 9 (mBinN gAdd 6 (mCallI T "_law_pick" 0 1 [.nm 1, .px (eLst [(eC (.int 0)), (eC (.int 2)), (eC (.int 1)), (eC (.int 5)), (eUn gNeg (eC (.int 1)))])])))
    (sSeq (sAsg 10 (eCB (g1 gListA) [(eVar 8)]))
    (sSeq (sIf (tOrC (tNotC (eTru (eCall T "_law_same" [(eCall T "shows_edits" [(eVar 3), (eVar 4), (eVar 10), (eVar 9)]), (eCall T "_law_shown" [(eVar 3), (eVar 4), (eVar 8), (eVar 9)])]))) (eTrB (eBin gNe (eVar 10) (eVar 8))))
    (sRet (eC (.bl false)))
    sNil)
    (sIf (tOrC (eTru (eCall T "_law_shown" [(eVar 3), (eVar 4), (eVar 8), (eVar 9)])) (eTrB (eBin gLt (eVar 7) (eC (.int 3)))))
    (sSeq (sAsg 11 (eComp (iVal (eVar 8)) (([("step", 12)] : List (Str × Nat)).map (·.2)) (gN 12) (tAndC (eTrB (eBin gEq (eCB (g1 gLen) [(eVar 12)]) (eC (.int 3)))) (eTrB (eBin gIn (eIdx (eVar 12) (eC (.int 0))) (eLst [(eC (.str [112, 117, 116])), (eC (.str [116, 97, 107, 101])), (eC (.str [99, 104, 97, 110, 103, 101]))])))) (eVar 12)))
    (sSeq (sAsg 11 (eComp (iVal (eVar 11)) (([("step", 12)] : List (Str × Nat)).map (·.2)) (gN 12) (eTrB (eBin gEq (eCB (g1 gLen) [(eIdx (eVar 12) (eC (.int 2)))]) (eCB (g1 gInt) [(eBin gNe (eIdx (eVar 12) (eC (.int 0))) (eC (.str [116, 97, 107, 101])))]))) (eVar 12)))
    (sIf (tNotC (eTru (eCall T "_law_same" [(eCall T "after_steps" [(eVar 3), (eVar 11)]), (eCall T "_law_after" [(eVar 3), (eVar 11)])])))
    (sRet (eC (.bl false)))
    sNil)))
    sNil))))))
    (sRet (eCall T "_law_same" [(eCall T "after_steps" [(eVar 3), (eLst [])]), (eVar 3)])))))))))))))
def e_law (st : Stmt) : FE := ⟨"law", ["script"], ["script", "box", "letters", "one", "other", "steps", "far", "turn", "bent", "most", "handed", "plain", "step"], st, f_law⟩
def tabOf (tp : Nat → Stmt) : List FE := [e_edit_table (tp 1), e_edit_steps (tp 2), e_after_steps (tp 3), e_shows_edits (tp 4), e__law_cell (tp 6), e__law_digits (tp 7), e__law_draw (tp 8), e__law_pick (tp 9), e__law_same (tp 10), e__law_word (tp 11), e__law_bent (tp 12), e__law_grid (tp 13), e__law_steps (tp 14), e__law_after (tp 15), e__law_shown (tp 16), e__law_spoilt (tp 17), e__law_told (tp 18), e_law (tp 19)]
theorem lk_edit_table {tp : Nat → Stmt} {k : Nat} {as : List Sl} : semK (tabOf tp) (k + 1) "edit_table" as = runF (e_edit_table (tp 1)) (tblK (tabOf tp) k) as := rfl
theorem lk_edit_steps {tp : Nat → Stmt} {k : Nat} {as : List Sl} : semK (tabOf tp) (k + 1) "edit_steps" as = runF (e_edit_steps (tp 2)) (tblK (tabOf tp) k) as := rfl
theorem lk_after_steps {tp : Nat → Stmt} {k : Nat} {as : List Sl} : semK (tabOf tp) (k + 1) "after_steps" as = runF (e_after_steps (tp 3)) (tblK (tabOf tp) k) as := rfl
theorem lk_shows_edits {tp : Nat → Stmt} {k : Nat} {as : List Sl} : semK (tabOf tp) (k + 1) "shows_edits" as = runF (e_shows_edits (tp 4)) (tblK (tabOf tp) k) as := rfl
theorem lk__law_cell {tp : Nat → Stmt} {k : Nat} {as : List Sl} : semK (tabOf tp) (k + 1) "_law_cell" as = runF (e__law_cell (tp 6)) (tblK (tabOf tp) k) as := rfl
theorem lk__law_digits {tp : Nat → Stmt} {k : Nat} {as : List Sl} : semK (tabOf tp) (k + 1) "_law_digits" as = runF (e__law_digits (tp 7)) (tblK (tabOf tp) k) as := rfl
theorem lk__law_draw {tp : Nat → Stmt} {k : Nat} {as : List Sl} : semK (tabOf tp) (k + 1) "_law_draw" as = runF (e__law_draw (tp 8)) (tblK (tabOf tp) k) as := rfl
theorem lk__law_pick {tp : Nat → Stmt} {k : Nat} {as : List Sl} : semK (tabOf tp) (k + 1) "_law_pick" as = runF (e__law_pick (tp 9)) (tblK (tabOf tp) k) as := rfl
theorem lk__law_same {tp : Nat → Stmt} {k : Nat} {as : List Sl} : semK (tabOf tp) (k + 1) "_law_same" as = runF (e__law_same (tp 10)) (tblK (tabOf tp) k) as := rfl
theorem lk__law_word {tp : Nat → Stmt} {k : Nat} {as : List Sl} : semK (tabOf tp) (k + 1) "_law_word" as = runF (e__law_word (tp 11)) (tblK (tabOf tp) k) as := rfl
theorem lk__law_bent {tp : Nat → Stmt} {k : Nat} {as : List Sl} : semK (tabOf tp) (k + 1) "_law_bent" as = runF (e__law_bent (tp 12)) (tblK (tabOf tp) k) as := rfl
theorem lk__law_grid {tp : Nat → Stmt} {k : Nat} {as : List Sl} : semK (tabOf tp) (k + 1) "_law_grid" as = runF (e__law_grid (tp 13)) (tblK (tabOf tp) k) as := rfl
theorem lk__law_steps {tp : Nat → Stmt} {k : Nat} {as : List Sl} : semK (tabOf tp) (k + 1) "_law_steps" as = runF (e__law_steps (tp 14)) (tblK (tabOf tp) k) as := rfl
theorem lk__law_after {tp : Nat → Stmt} {k : Nat} {as : List Sl} : semK (tabOf tp) (k + 1) "_law_after" as = runF (e__law_after (tp 15)) (tblK (tabOf tp) k) as := rfl
theorem lk__law_shown {tp : Nat → Stmt} {k : Nat} {as : List Sl} : semK (tabOf tp) (k + 1) "_law_shown" as = runF (e__law_shown (tp 16)) (tblK (tabOf tp) k) as := rfl
theorem lk__law_spoilt {tp : Nat → Stmt} {k : Nat} {as : List Sl} : semK (tabOf tp) (k + 1) "_law_spoilt" as = runF (e__law_spoilt (tp 17)) (tblK (tabOf tp) k) as := rfl
theorem lk__law_told {tp : Nat → Stmt} {k : Nat} {as : List Sl} : semK (tabOf tp) (k + 1) "_law_told" as = runF (e__law_told (tp 18)) (tblK (tabOf tp) k) as := rfl
theorem lk_law {tp : Nat → Stmt} {k : Nat} {as : List Sl} : semK (tabOf tp) (k + 1) "law" as = runF (e_law (tp 19)) (tblK (tabOf tp) k) as := rfl
end Pv.k26
namespace Pv.k26
open PySem PySem.Spec L2 Pv
def top (i : Nat) : Stmt := PySem.Challenge.pw_wordlands_k26_whole_steps_and_their_judg.main.body.getD i (.Pass ⟨0, 0, 0, 0⟩)
def tab : List FE := tabOf top
theorem ar_edit_table {T : Tbl} (hT : T.ar = arOf tab) : T.ar "edit_table" = some (["one", "other"] : List Str) := by rw [hT]; rfl
theorem ar_edit_steps {T : Tbl} (hT : T.ar = arOf tab) : T.ar "edit_steps" = some (["one", "other"] : List Str) := by rw [hT]; rfl
theorem ar_after_steps {T : Tbl} (hT : T.ar = arOf tab) : T.ar "after_steps" = some (["word", "steps"] : List Str) := by rw [hT]; rfl
theorem ar_shows_edits {T : Tbl} (hT : T.ar = arOf tab) : T.ar "shows_edits" = some (["one", "other", "steps", "most"] : List Str) := by rw [hT]; rfl
theorem ar__law_cell {T : Tbl} (hT : T.ar = arOf tab) : T.ar "_law_cell" = some (["script", "k"] : List Str) := by rw [hT]; rfl
theorem ar__law_digits {T : Tbl} (hT : T.ar = arOf tab) : T.ar "_law_digits" = some (["script", "first", "last"] : List Str) := by rw [hT]; rfl
theorem ar__law_draw {T : Tbl} (hT : T.ar = arOf tab) : T.ar "_law_draw" = some (["box", "many"] : List Str) := by rw [hT]; rfl
theorem ar__law_pick {T : Tbl} (hT : T.ar = arOf tab) : T.ar "_law_pick" = some (["box", "row"] : List Str) := by rw [hT]; rfl
theorem ar__law_same {T : Tbl} (hT : T.ar = arOf tab) : T.ar "_law_same" = some (["told", "due"] : List Str) := by rw [hT]; rfl
theorem ar__law_word {T : Tbl} (hT : T.ar = arOf tab) : T.ar "_law_word" = some (["box", "letters", "most"] : List Str) := by rw [hT]; rfl
theorem ar__law_bent {T : Tbl} (hT : T.ar = arOf tab) : T.ar "_law_bent" = some (["box", "word", "letters"] : List Str) := by rw [hT]; rfl
theorem ar__law_grid {T : Tbl} (hT : T.ar = arOf tab) : T.ar "_law_grid" = some (["one", "other", "change"] : List Str) := by rw [hT]; rfl
theorem ar__law_steps {T : Tbl} (hT : T.ar = arOf tab) : T.ar "_law_steps" = some (["one", "other"] : List Str) := by rw [hT]; rfl
theorem ar__law_after {T : Tbl} (hT : T.ar = arOf tab) : T.ar "_law_after" = some (["word", "steps"] : List Str) := by rw [hT]; rfl
theorem ar__law_shown {T : Tbl} (hT : T.ar = arOf tab) : T.ar "_law_shown" = some (["one", "other", "steps", "most"] : List Str) := by rw [hT]; rfl
theorem ar__law_spoilt {T : Tbl} (hT : T.ar = arOf tab) : T.ar "_law_spoilt" = some (["box", "steps", "many"] : List Str) := by rw [hT]; rfl
theorem ar__law_told {T : Tbl} (hT : T.ar = arOf tab) : T.ar "_law_told" = some (["one", "other", "far"] : List Str) := by rw [hT]; rfl
theorem ar_law {T : Tbl} (hT : T.ar = arOf tab) : T.ar "law" = some (["script"] : List Str) := by rw [hT]; rfl
def E_edit_table : FE := e_edit_table (top 1)
theorem sd_edit_table : ∀ T : Tbl, T.ar = arOf tab → SndSs ⟨E_edit_table.N, defScope E_edit_table.st, fun _ => true, T⟩ (defBody E_edit_table.st) (E_edit_table.body T) := fun T hT =>
    (sns_cons (sns_asg 2 rfl (by kernel_rfl) (by kernel_rfl) (snd_lst (sna_cons (snd_lrg (by kernel_rfl) (by kernel_rfl) (snd_bin (fun _ G => ops_add) (snd_cb (x := "len") (by decide +kernel) (fun _ G => cs_len) (by kernel_rfl) rfl (sna_cons (snd_var 1 rfl (by kernel_rfl)) sna_nil)) snd_int)) sna_nil)))
    (sns_cons (sns_for (sni_enS (by kernel_rfl) (snd_var 0 rfl (by kernel_rfl))) (sng_tup (sngs_cons (sng_name 3 rfl (by kernel_rfl) (by kernel_rfl)) (sngs_cons (sng_name 4 rfl (by kernel_rfl) (by kernel_rfl)) sngs_nil)) (gs_len_cons (gs_len_cons gs_len_nil)))
    (sns_cons (sns_asg 5 rfl (by kernel_rfl) (by kernel_rfl) (snd_lst (sna_cons (snd_bin (fun _ G => ops_add) (snd_var 3 rfl (by kernel_rfl)) snd_int) sna_nil)))
    (sns_cons (sns_for (sni_enS (by kernel_rfl) (snd_var 1 rfl (by kernel_rfl))) (sng_tup (sngs_cons (sng_name 6 rfl (by kernel_rfl) (by kernel_rfl)) (sngs_cons (sng_name 7 rfl (by kernel_rfl) (by kernel_rfl)) sngs_nil)) (gs_len_cons (gs_len_cons gs_len_nil)))
    (sns_one (sns_app 5 rfl (by kernel_rfl) (snm_p (snd_cb (x := "min") (by decide +kernel) (fun _ G => cs_min3 G.calm) (by kernel_rfl) rfl (sna_cons (snd_bin (fun _ G => ops_add) (snd_idx (snd_idx (snd_var 2 rfl (by kernel_rfl)) (snd_un (fun _ _ => uns_neg) snd_int)) (snd_var 6 rfl (by kernel_rfl))) (snd_cty (x := "int") (by decide +kernel) (fun _ G => cs_int) (by kernel_rfl) rfl (sna_cons (snd_cmp (fun _ G => ops_ne G.un) (snd_var 4 rfl (by kernel_rfl)) (snd_var 7 rfl (by kernel_rfl))) sna_nil))) (sna_cons (snd_bin (fun _ G => ops_add) (snd_idx (snd_idx (snd_var 2 rfl (by kernel_rfl)) (snd_un (fun _ _ => uns_neg) snd_int)) (snd_bin (fun _ G => ops_add) (snd_var 6 rfl (by kernel_rfl)) snd_int)) snd_int) (sna_cons (snd_bin (fun _ G => ops_add) (snd_idx (snd_var 5 rfl (by kernel_rfl)) (snd_var 6 rfl (by kernel_rfl))) snd_int) sna_nil))))))))
    (sns_one (sns_appV 2 5 rfl rfl (by kernel_rfl) (by kernel_rfl))))))
    (sns_one (sns_retV 2 rfl (by kernel_rfl)))))
theorem ok_edit_table : FEok (arOf tab) E_edit_table := ⟨⟨rfl, rfl, rfl, by decide +kernel, rfl, by decide +kernel, by decide +kernel⟩, sd_edit_table, fun _ _ _ _ _ _ us hl => match us, hl with | [_, _], _ => rfl⟩
def E_edit_steps : FE := e_edit_steps (top 2)
theorem sd_edit_steps : ∀ T : Tbl, T.ar = arOf tab → SndSs ⟨E_edit_steps.N, defScope E_edit_steps.st, fun _ => true, T⟩ (defBody E_edit_steps.st) (E_edit_steps.body T) := fun T hT =>
    (sns_cons (sns_asg 2 rfl (by kernel_rfl) (by kernel_rfl) (snd_call (x := "edit_table") (ar_edit_table hT) rfl (by kernel_rfl) (sna_cons (snd_var 0 rfl (by kernel_rfl)) (sna_cons (snd_var 1 rfl (by kernel_rfl)) sna_nil))))
    (sns_cons (sns_asg 3 rfl (by kernel_rfl) (by kernel_rfl) (snd_lst sna_nil))
    (sns_cons (sns_par 4 5 rfl rfl (by decide) (by kernel_rfl) (by kernel_rfl) (snd_cb (x := "len") (by decide +kernel) (fun _ G => cs_len) (by kernel_rfl) rfl (sna_cons (snd_var 0 rfl (by kernel_rfl)) sna_nil)) (snd_cb (x := "len") (by decide +kernel) (fun _ G => cs_len) (by kernel_rfl) rfl (sna_cons (snd_var 1 rfl (by kernel_rfl)) sna_nil)) (swP rfl (by kernel_rfl) (by kernel_rfl) rfl (by kernel_rfl) rfl (by kernel_rfl) (by kernel_rfl)))
    (sns_cons (sns_wh (snt_w (snw_or (snt_cmp (fun _ G => ops_gt) (snd_var 4 rfl (by kernel_rfl)) snd_int) (snw_or1 (snt_cmp (fun _ G => ops_gt) (snd_var 5 rfl (by kernel_rfl)) snd_int))))
    (sns_one (sns_if (snt_w (snw_and (snt_cmp (fun _ G => ops_gt) (snd_var 4 rfl (by kernel_rfl)) snd_int) (snw_and (snt_cmp (fun _ G => ops_gt) (snd_var 5 rfl (by kernel_rfl)) snd_int) (snw_and1 (snt_cmp (fun _ G => ops_eq G.un) (snd_idx (snd_idx (snd_var 2 rfl (by kernel_rfl)) (snd_var 4 rfl (by kernel_rfl))) (snd_var 5 rfl (by kernel_rfl))) (snd_bin (fun _ G => ops_add) (snd_idx (snd_idx (snd_var 2 rfl (by kernel_rfl)) (snd_bin (fun _ G => ops_sub) (snd_var 4 rfl (by kernel_rfl)) snd_int)) (snd_bin (fun _ G => ops_sub) (snd_var 5 rfl (by kernel_rfl)) snd_int)) (snd_cty (x := "int") (by decide +kernel) (fun _ G => cs_int) (by kernel_rfl) rfl (sna_cons (snd_cmp (fun _ G => ops_ne G.un) (snd_idx (snd_var 0 rfl (by kernel_rfl)) (snd_bin (fun _ G => ops_sub) (snd_var 4 rfl (by kernel_rfl)) snd_int)) (snd_idx (snd_var 1 rfl (by kernel_rfl)) (snd_bin (fun _ G => ops_sub) (snd_var 5 rfl (by kernel_rfl)) snd_int))) sna_nil))))))))
    (sns_cons (sns_if (snt_cmp (fun _ G => ops_ne G.un) (snd_idx (snd_var 0 rfl (by kernel_rfl)) (snd_bin (fun _ G => ops_sub) (snd_var 4 rfl (by kernel_rfl)) snd_int)) (snd_idx (snd_var 1 rfl (by kernel_rfl)) (snd_bin (fun _ G => ops_sub) (snd_var 5 rfl (by kernel_rfl)) snd_int)))
    (sns_one (sns_app 3 rfl (by kernel_rfl) (snm_p (snd_tup (sna_cons (snd_str [99, 104, 97, 110, 103, 101]) (sna_cons (snd_bin (fun _ G => ops_sub) (snd_var 4 rfl (by kernel_rfl)) snd_int) (sna_cons (snd_idx (snd_var 1 rfl (by kernel_rfl)) (snd_bin (fun _ G => ops_sub) (snd_var 5 rfl (by kernel_rfl)) snd_int)) sna_nil)))))))
    sns_nil)
    (sns_one (sns_par 4 5 rfl rfl (by decide) (by kernel_rfl) (by kernel_rfl) (snd_bin (fun _ G => ops_sub) (snd_var 4 rfl (by kernel_rfl)) snd_int) (snd_bin (fun _ G => ops_sub) (snd_var 5 rfl (by kernel_rfl)) snd_int) (swP rfl (by kernel_rfl) (by kernel_rfl) rfl (by kernel_rfl) rfl (by kernel_rfl) (by kernel_rfl)))))
    (sns_one (sns_if (snt_w (snw_and (snt_cmp (fun _ G => ops_gt) (snd_var 4 rfl (by kernel_rfl)) snd_int) (snw_and1 (snt_cmp (fun _ G => ops_eq G.un) (snd_idx (snd_idx (snd_var 2 rfl (by kernel_rfl)) (snd_var 4 rfl (by kernel_rfl))) (snd_var 5 rfl (by kernel_rfl))) (snd_bin (fun _ G => ops_add) (snd_idx (snd_idx (snd_var 2 rfl (by kernel_rfl)) (snd_bin (fun _ G => ops_sub) (snd_var 4 rfl (by kernel_rfl)) snd_int)) (snd_var 5 rfl (by kernel_rfl))) snd_int)))))
    (sns_cons (sns_app 3 rfl (by kernel_rfl) (snm_p (snd_tup (sna_cons (snd_str [116, 97, 107, 101]) (sna_cons (snd_bin (fun _ G => ops_sub) (snd_var 4 rfl (by kernel_rfl)) snd_int) (sna_cons (snd_str []) sna_nil))))))
    (sns_one (sns_aug 4 rfl (by kernel_rfl) (by kernel_rfl) (fun _ G => ops_isub) snd_int)))
    (sns_cons (sns_app 3 rfl (by kernel_rfl) (snm_p (snd_tup (sna_cons (snd_str [112, 117, 116]) (sna_cons (snd_var 4 rfl (by kernel_rfl)) (sna_cons (snd_idx (snd_var 1 rfl (by kernel_rfl)) (snd_bin (fun _ G => ops_sub) (snd_var 5 rfl (by kernel_rfl)) snd_int)) sna_nil))))))
    (sns_one (sns_aug 5 rfl (by kernel_rfl) (by kernel_rfl) (fun _ G => ops_isub) snd_int))))))))
    (sns_one (sns_retV 3 rfl (by kernel_rfl)))))))
theorem ok_edit_steps : FEok (arOf tab) E_edit_steps := ⟨⟨rfl, rfl, rfl, by decide +kernel, rfl, by decide +kernel, by decide +kernel⟩, sd_edit_steps, fun _ _ _ _ _ _ us hl => match us, hl with | [_, _], _ => rfl⟩
def E_after_steps : FE := e_after_steps (top 3)
theorem sd_after_steps : ∀ T : Tbl, T.ar = arOf tab → SndSs ⟨E_after_steps.N, defScope E_after_steps.st, fun _ => true, T⟩ (defBody E_after_steps.st) (E_after_steps.body T) := fun T hT =>
    (sns_cons (sns_forN 1 rfl (by kernel_rfl) (sng_tup (sngs_cons (sng_name 2 rfl (by kernel_rfl) (by kernel_rfl)) (sngs_cons (sng_name 3 rfl (by kernel_rfl) (by kernel_rfl)) (sngs_cons (sng_name 4 rfl (by kernel_rfl) (by kernel_rfl)) sngs_nil))) (gs_len_cons (gs_len_cons (gs_len_cons gs_len_nil))))
    (sns_cons (sns_asg 5 rfl (by kernel_rfl) (by kernel_rfl) (snd_bin (fun _ G => ops_add) (snd_cb (x := "len") (by decide +kernel) (fun _ G => cs_len) (by kernel_rfl) rfl (sna_cons (snd_var 0 rfl (by kernel_rfl)) sna_nil)) (snd_cty (x := "int") (by decide +kernel) (fun _ G => cs_int) (by kernel_rfl) rfl (sna_cons (snd_cmp (fun _ G => ops_eq G.un) (snd_var 2 rfl (by kernel_rfl)) (snd_str [112, 117, 116])) sna_nil))))
    (sns_cons (sns_if (snt_not (snt_chain (fun _ G => ops_le) (fun _ G => ops_lt) snd_int (snd_var 3 rfl (by kernel_rfl)) (snd_var 5 rfl (by kernel_rfl))))
    (sns_one (sns_ret snd_non))
    sns_nil)
    (sns_one (sns_if (snt_cmp (fun _ G => ops_eq G.un) (snd_var 2 rfl (by kernel_rfl)) (snd_str [112, 117, 116]))
    (sns_one (sns_asg 0 rfl (by kernel_rfl) (by kernel_rfl) (snd_bin (fun _ G => ops_add) (snd_bin (fun _ G => ops_add) (snd_sl (snd_var 0 rfl (by kernel_rfl)) sno_none (sno_some (snd_var 3 rfl (by kernel_rfl)))) (snd_var 4 rfl (by kernel_rfl))) (snd_sl (snd_var 0 rfl (by kernel_rfl)) (sno_some (snd_var 3 rfl (by kernel_rfl))) sno_none))))
    (sns_one (sns_asg 0 rfl (by kernel_rfl) (by kernel_rfl) (snd_bin (fun _ G => ops_add) (snd_bin (fun _ G => ops_add) (snd_sl (snd_var 0 rfl (by kernel_rfl)) sno_none (sno_some (snd_var 3 rfl (by kernel_rfl)))) (snd_var 4 rfl (by kernel_rfl))) (snd_sl (snd_var 0 rfl (by kernel_rfl)) (sno_some (snd_bin (fun _ G => ops_add) (snd_var 3 rfl (by kernel_rfl)) snd_int)) sno_none)))))))))
    (sns_one (sns_retV 0 rfl (by kernel_rfl))))
theorem ok_after_steps : FEok (arOf tab) E_after_steps := ⟨⟨rfl, rfl, rfl, by decide +kernel, rfl, by decide +kernel, by decide +kernel⟩, sd_after_steps, fun _ _ _ _ _ _ us hl => match us, hl with | [_, _], _ => rfl⟩
def E_shows_edits : FE := e_shows_edits (top 4)
theorem sd_shows_edits : ∀ T : Tbl, T.ar = arOf tab → SndSs ⟨E_shows_edits.N, defScope E_shows_edits.st, fun _ => true, T⟩ (defBody E_shows_edits.st) (E_shows_edits.body T) := fun T hT =>
    (sns_cons (sns_forN 2 rfl (by kernel_rfl) (sng_name 4 rfl (by kernel_rfl) (by kernel_rfl))
    (sns_one (sns_if (snt_w (snw_or (snt_cmp (fun _ G => ops_ne G.un) (snd_cb (x := "len") (by decide +kernel) (fun _ G => cs_len) (by kernel_rfl) rfl (sna_cons (snd_var 4 rfl (by kernel_rfl)) sna_nil)) snd_int) (snw_or (snt_cmp (fun _ G => ops_nin G.un) (snd_idx (snd_var 4 rfl (by kernel_rfl)) snd_int) (snd_tup (sna_cons (snd_str [112, 117, 116]) (sna_cons (snd_str [116, 97, 107, 101]) (sna_cons (snd_str [99, 104, 97, 110, 103, 101]) sna_nil))))) (snw_or1 (snt_cmp (fun _ G => ops_ne G.un) (snd_cb (x := "len") (by decide +kernel) (fun _ G => cs_len) (by kernel_rfl) rfl (sna_cons (snd_idx (snd_var 4 rfl (by kernel_rfl)) snd_int) sna_nil)) (snd_cty (x := "int") (by decide +kernel) (fun _ G => cs_int) (by kernel_rfl) rfl (sna_cons (snd_cmp (fun _ G => ops_ne G.un) (snd_idx (snd_var 4 rfl (by kernel_rfl)) snd_int) (snd_str [116, 97, 107, 101])) sna_nil)))))))
    (sns_one (sns_ret snd_bl))
    sns_nil)))
    (sns_one (sns_ret (snd_and (snd_cmp (fun _ G => ops_le) (snd_cb (x := "len") (by decide +kernel) (fun _ G => cs_len) (by kernel_rfl) rfl (sna_cons (snd_var 2 rfl (by kernel_rfl)) sna_nil)) (snd_var 3 rfl (by kernel_rfl))) (snd_one (snd_cmp (fun _ G => ops_eq G.un) (snd_call (x := "after_steps") (ar_after_steps hT) rfl (by kernel_rfl) (sna_cons (snd_var 0 rfl (by kernel_rfl)) (sna_cons (snd_var 2 rfl (by kernel_rfl)) sna_nil))) (snd_var 1 rfl (by kernel_rfl))))))))
theorem ok_shows_edits : FEok (arOf tab) E_shows_edits := ⟨⟨rfl, rfl, rfl, by decide +kernel, rfl, by decide +kernel, by decide +kernel⟩, sd_shows_edits, fun _ _ _ _ _ _ us hl => match us, hl with | [_, _, _, _], _ => rfl⟩
def E__law_cell : FE := e__law_cell (top 6)
theorem sd__law_cell : ∀ T : Tbl, T.ar = arOf tab → SndSs ⟨E__law_cell.N, defScope E__law_cell.st, fun _ => true, T⟩ (defBody E__law_cell.st) (E__law_cell.body T) := fun T hT =>
    (sns_cons (sns_if (snt_cmp (fun _ G => ops_lt) (snd_var 1 rfl (by kernel_rfl)) (snd_cb (x := "len") (by decide +kernel) (fun _ G => cs_len) (by kernel_rfl) rfl (sna_cons (snd_var 0 rfl (by kernel_rfl)) sna_nil)))
    (sns_one (sns_ret (snd_idx (snd_var 0 rfl (by kernel_rfl)) (snd_var 1 rfl (by kernel_rfl)))))
    sns_nil)
    (sns_one (sns_ret snd_int)))
theorem ok__law_cell : FEok (arOf tab) E__law_cell := ⟨⟨rfl, rfl, rfl, by decide +kernel, rfl, by decide +kernel, by decide +kernel⟩, sd__law_cell, fun _ _ _ _ _ _ us hl => match us, hl with | [_, _], _ => rfl⟩
def E__law_digits : FE := e__law_digits (top 7)
theorem sd__law_digits : ∀ T : Tbl, T.ar = arOf tab → SndSs ⟨E__law_digits.N, defScope E__law_digits.st, fun _ => true, T⟩ (defBody E__law_digits.st) (E__law_digits.body T) := fun T hT =>
    (sns_cons (sns_asg 3 rfl (by kernel_rfl) (by kernel_rfl) (snd_lst sna_nil))
    (sns_cons (sns_for (sni_rg2 (by kernel_rfl) (snd_var 1 rfl (by kernel_rfl)) (snd_var 2 rfl (by kernel_rfl))) (sng_name 4 rfl (by kernel_rfl) (by kernel_rfl))
    (sns_cons (sns_asg 5 rfl (by kernel_rfl) (by kernel_rfl) (snd_call (x := "_law_cell") (ar__law_cell hT) rfl (by kernel_rfl) (sna_cons (snd_var 0 rfl (by kernel_rfl)) (sna_cons (snd_var 4 rfl (by kernel_rfl)) sna_nil))))
    (sns_cons (sns_if (snt_cmp (fun _ G => ops_lt) (snd_var 5 rfl (by kernel_rfl)) snd_int)
    (sns_one (sns_asg 5 rfl (by kernel_rfl) (by kernel_rfl) (snd_bin (fun _ G => ops_sub) snd_int (snd_bin (fun _ G => ops_mul) snd_int (snd_var 5 rfl (by kernel_rfl))))))
    sns_nil)
    (sns_one (sns_if (snt_cmp (fun _ G => ops_ge) (snd_var 5 rfl (by kernel_rfl)) (snd_bin (fun _ G => ops_pow) snd_int snd_int))
    (sns_one (sns_for (sni_rg1 (by kernel_rfl) snd_int) (sng_name 6 rfl (by kernel_rfl) (by kernel_rfl))
    (sns_one (sns_if (snt_cmp (fun _ G => ops_gt) (snd_var 5 rfl (by kernel_rfl)) snd_int)
    (sns_cons (sns_app 3 rfl (by kernel_rfl) (snm_p (snd_bin (fun _ G => ops_mod) (snd_cty (x := "int") (by decide +kernel) (fun _ G => cs_int) (by kernel_rfl) rfl (sna_cons (snd_var 5 rfl (by kernel_rfl)) sna_nil)) snd_int)))
    (sns_one (sns_asg 5 rfl (by kernel_rfl) (by kernel_rfl) (snd_bin (fun _ G => ops_fdiv) (snd_var 5 rfl (by kernel_rfl)) snd_int))))
    sns_nil))))
    (sns_cons (sns_asg 7 rfl (by kernel_rfl) (by kernel_rfl) (snd_bin (fun _ G => ops_mod) (snd_cty (x := "int") (by decide +kernel) (fun _ G => cs_int) (by kernel_rfl) rfl (sna_cons (snd_bin (fun _ G => ops_add) (snd_bin (fun _ G => ops_add) (snd_bin (fun _ G => ops_mul) (snd_var 5 rfl (by kernel_rfl)) snd_int) (snd_bin (fun _ G => ops_mul) (snd_var 4 rfl (by kernel_rfl)) snd_int)) snd_int) sna_nil)) snd_int))
    (sns_one (sns_for (sni_rg1 (by kernel_rfl) snd_int) (sng_name 6 rfl (by kernel_rfl) (by kernel_rfl))
    (sns_cons (sns_asg 7 rfl (by kernel_rfl) (by kernel_rfl) (snd_bin (fun _ G => ops_mod) (snd_cty (x := "int") (by decide +kernel) (fun _ G => cs_int) (by kernel_rfl) rfl (sna_cons (snd_bin (fun _ G => ops_add) (snd_bin (fun _ G => ops_add) (snd_bin (fun _ G => ops_mul) (snd_var 7 rfl (by kernel_rfl)) snd_int) (snd_bin (fun _ G => ops_mul) snd_int (snd_var 6 rfl (by kernel_rfl)))) snd_int) sna_nil)) snd_int))
    (sns_one (sns_app 3 rfl (by kernel_rfl) (snm_p (snd_bin (fun _ G => ops_mod) (snd_cty (x := "int") (by decide +kernel) (fun _ G => cs_int) (by kernel_rfl) rfl (sna_cons (snd_bin (fun _ G => ops_fdiv) (snd_var 7 rfl (by kernel_rfl)) snd_int) sna_nil)) snd_int)))))))))))))
    (sns_one (sns_retV 3 rfl (by kernel_rfl)))))
theorem ok__law_digits : FEok (arOf tab) E__law_digits := ⟨⟨rfl, rfl, rfl, by decide +kernel, rfl, by decide +kernel, by decide +kernel⟩, sd__law_digits, fun _ _ _ _ _ _ us hl => match us, hl with | [_, _, _], _ => rfl⟩
def E__law_draw : FE := e__law_draw (top 8)
theorem sd__law_draw : ∀ T : Tbl, T.ar = arOf tab → SndSs ⟨E__law_draw.N, defScope E__law_draw.st, fun _ => true, T⟩ (defBody E__law_draw.st) (E__law_draw.body T) := fun T hT =>
    (sns_cons (sns_setL 0 rfl (by kernel_rfl) snd_int (snm_p (snd_bin (fun _ G => ops_add) (snd_idx (snd_var 0 rfl (by kernel_rfl)) snd_int) snd_int)))
    (sns_cons (sns_if (snt_cmp (fun _ G => ops_gt) (snd_idx (snd_var 0 rfl (by kernel_rfl)) snd_int) (snd_cb (x := "len") (by decide +kernel) (fun _ G => cs_len) (by kernel_rfl) rfl (sna_cons (snd_idx (snd_var 0 rfl (by kernel_rfl)) snd_int) sna_nil)))
    (sns_one (sns_ret (snd_bin (fun _ G => ops_mod) (snd_cty (x := "int") (by decide +kernel) (fun _ G => cs_int) (by kernel_rfl) rfl (sna_cons (snd_bin (fun _ G => ops_add) (snd_bin (fun _ G => ops_mul) (snd_idx (snd_var 0 rfl (by kernel_rfl)) snd_int) snd_int) snd_int) sna_nil)) (snd_var 1 rfl (by kernel_rfl)))))
    sns_nil)
    (sns_one (sns_ret (snd_bin (fun _ G => ops_mod) (snd_cty (x := "int") (by decide +kernel) (fun _ G => cs_int) (by kernel_rfl) rfl (sna_cons (snd_idx (snd_idx (snd_var 0 rfl (by kernel_rfl)) snd_int) (snd_bin (fun _ G => ops_sub) (snd_idx (snd_var 0 rfl (by kernel_rfl)) snd_int) snd_int)) sna_nil)) (snd_var 1 rfl (by kernel_rfl)))))))
theorem ok__law_draw : FEok (arOf tab) E__law_draw := ⟨⟨rfl, rfl, rfl, by decide +kernel, rfl, by decide +kernel, by decide +kernel⟩, sd__law_draw, fun _ _ _ _ _ _ us hl => match us, hl with | [_, _], _ => rfl⟩
def E__law_pick : FE := e__law_pick (top 9)
theorem sd__law_pick : ∀ T : Tbl, T.ar = arOf tab → SndSs ⟨E__law_pick.N, defScope E__law_pick.st, fun _ => true, T⟩ (defBody E__law_pick.st) (E__law_pick.body T) := fun T hT =>
    (sns_one (sns_retM (snm_idxN 1 rfl (by kernel_rfl) (snm_binP (fun _ G => ops_mod) (snm_cty (x := "int") (by decide +kernel) (fun _ G => cs_int) (by kernel_rfl) rfl (snma_mx (snm_callI (x := "_law_draw") 0 0 (ar__law_draw hT) rfl (by kernel_rfl) (snma_nm 0 rfl (by kernel_rfl) (snma_px snd_int snma_nil))) snma_nil)) (snd_cb (x := "len") (by decide +kernel) (fun _ G => cs_len) (by kernel_rfl) rfl (sna_cons (snd_var 1 rfl (by kernel_rfl)) sna_nil))))))
theorem ok__law_pick : FEok (arOf tab) E__law_pick := ⟨⟨rfl, rfl, rfl, by decide +kernel, rfl, by decide +kernel, by decide +kernel⟩, sd__law_pick, fun _ _ _ _ _ _ us hl => match us, hl with | [_, _], _ => rfl⟩
def E__law_same : FE := e__law_same (top 10)
theorem sd__law_same : ∀ T : Tbl, T.ar = arOf tab → SndSs ⟨E__law_same.N, defScope E__law_same.st, fun _ => true, T⟩ (defBody E__law_same.st) (E__law_same.body T) := fun T hT =>
    (sns_cons (sns_if (snt_cmp (fun _ G => ops_is) (snd_var 1 rfl (by kernel_rfl)) snd_non)
    (sns_one (sns_ret (snd_cmp (fun _ G => ops_is) (snd_var 0 rfl (by kernel_rfl)) snd_non)))
    sns_nil)
    (sns_cons (sns_if (snt_cmp (fun _ G => ops_is) (snd_var 1 rfl (by kernel_rfl)) snd_bl)
    (sns_one (sns_ret (snd_cmp (fun _ G => ops_is) (snd_var 0 rfl (by kernel_rfl)) snd_bl)))
    sns_nil)
    (sns_cons (sns_if (snt_cmp (fun _ G => ops_is) (snd_var 1 rfl (by kernel_rfl)) snd_bl)
    (sns_one (sns_ret (snd_cmp (fun _ G => ops_is) (snd_var 0 rfl (by kernel_rfl)) snd_bl)))
    sns_nil)
    (sns_cons (sns_if (snt_val (snd_isi (T := "str") (by decide) (by decide +kernel) (by kernel_rfl) (by kernel_rfl) rfl (snd_var 1 rfl (by kernel_rfl)) (by decide +kernel) (by decide +kernel)))
    (sns_one (sns_ret (snd_and (snd_isi (T := "str") (by decide) (by decide +kernel) (by kernel_rfl) (by kernel_rfl) rfl (snd_var 0 rfl (by kernel_rfl)) (by decide +kernel) (by decide +kernel)) (snd_one (snd_cmp (fun _ G => ops_eq G.un) (snd_cb (x := "repr") (by decide +kernel) (fun _ G => cs_repr) (by kernel_rfl) rfl (sna_cons (snd_var 0 rfl (by kernel_rfl)) sna_nil)) (snd_cb (x := "repr") (by decide +kernel) (fun _ G => cs_repr) (by kernel_rfl) rfl (sna_cons (snd_var 1 rfl (by kernel_rfl)) sna_nil)))))))
    sns_nil)
    (sns_cons (sns_if (snt_val (snd_isi (T := "int") (by decide) (by decide +kernel) (by kernel_rfl) (by kernel_rfl) rfl (snd_var 1 rfl (by kernel_rfl)) (by decide +kernel) (by decide +kernel)))
    (sns_one (sns_ret (snd_and (snd_isi (T := "int") (by decide) (by decide +kernel) (by kernel_rfl) (by kernel_rfl) rfl (snd_var 0 rfl (by kernel_rfl)) (by decide +kernel) (by decide +kernel)) (snd_and (snd_not (snd_isi (T := "bool") (by decide) (by decide +kernel) (by kernel_rfl) (by kernel_rfl) rfl (snd_var 0 rfl (by kernel_rfl)) (by decide +kernel) (by decide +kernel))) (snd_one (snd_cmp (fun _ G => ops_eq G.un) (snd_cb (x := "repr") (by decide +kernel) (fun _ G => cs_repr) (by kernel_rfl) rfl (sna_cons (snd_var 0 rfl (by kernel_rfl)) sna_nil)) (snd_cb (x := "repr") (by decide +kernel) (fun _ G => cs_repr) (by kernel_rfl) rfl (sna_cons (snd_var 1 rfl (by kernel_rfl)) sna_nil))))))))
    sns_nil)
    (sns_cons (sns_if (snt_w (snw_or (snt_w (snw_and (snt_val (snd_isi (T := "tuple") (by decide) (by decide +kernel) (by kernel_rfl) (by kernel_rfl) rfl (snd_var 1 rfl (by kernel_rfl)) (by decide +kernel) (by decide +kernel))) (snw_and1 (snt_not (snt_val (snd_isi (T := "tuple") (by decide) (by decide +kernel) (by kernel_rfl) (by kernel_rfl) rfl (snd_var 0 rfl (by kernel_rfl)) (by decide +kernel) (by decide +kernel))))))) (snw_or1 (snt_w (snw_and (snt_val (snd_isi (T := "list") (by decide) (by decide +kernel) (by kernel_rfl) (by kernel_rfl) rfl (snd_var 1 rfl (by kernel_rfl)) (by decide +kernel) (by decide +kernel))) (snw_and1 (snt_not (snt_val (snd_isi (T := "list") (by decide) (by decide +kernel) (by kernel_rfl) (by kernel_rfl) rfl (snd_var 0 rfl (by kernel_rfl)) (by decide +kernel) (by decide +kernel))))))))))
    (sns_one (sns_ret snd_bl))
    sns_nil)
    (sns_cons (sns_if (snt_cmp (fun _ G => ops_ne G.un) (snd_cb (x := "len") (by decide +kernel) (fun _ G => cs_len) (by kernel_rfl) rfl (sna_cons (snd_var 0 rfl (by kernel_rfl)) sna_nil)) (snd_cb (x := "len") (by decide +kernel) (fun _ G => cs_len) (by kernel_rfl) rfl (sna_cons (snd_var 1 rfl (by kernel_rfl)) sna_nil)))
    (sns_one (sns_ret snd_bl))
    sns_nil)
    (sns_cons (sns_for (sni_rg1 (by kernel_rfl) (snd_cb (x := "len") (by decide +kernel) (fun _ G => cs_len) (by kernel_rfl) rfl (sna_cons (snd_var 1 rfl (by kernel_rfl)) sna_nil))) (sng_name 2 rfl (by kernel_rfl) (by kernel_rfl))
    (sns_one (sns_if (snt_not (snt_val (snd_call (x := "_law_same") (ar__law_same hT) rfl (by kernel_rfl) (sna_cons (snd_idx (snd_var 0 rfl (by kernel_rfl)) (snd_var 2 rfl (by kernel_rfl))) (sna_cons (snd_idx (snd_var 1 rfl (by kernel_rfl)) (snd_var 2 rfl (by kernel_rfl))) sna_nil)))))
    (sns_one (sns_ret snd_bl))
    sns_nil)))
    (sns_one (sns_ret snd_bl))))))))))
theorem ok__law_same : FEok (arOf tab) E__law_same := ⟨⟨rfl, rfl, rfl, by decide +kernel, rfl, by decide +kernel, by decide +kernel⟩, sd__law_same, fun _ _ _ _ _ _ us hl => match us, hl with | [_, _], _ => rfl⟩
def E__law_word : FE := e__law_word (top 11)
theorem sd__law_word : ∀ T : Tbl, T.ar = arOf tab → SndSs ⟨E__law_word.N, defScope E__law_word.st, fun _ => true, T⟩ (defBody E__law_word.st) (E__law_word.body T) := fun T hT =>
    (sns_cons (sns_asgM 3 rfl (by kernel_rfl) (by kernel_rfl) (snm_callI (x := "_law_draw") 0 0 (ar__law_draw hT) rfl (by kernel_rfl) (snma_nm 0 rfl (by kernel_rfl) (snma_px (snd_bin (fun _ G => ops_add) (snd_var 2 rfl (by kernel_rfl)) snd_int) snma_nil))))
    (sns_cons (sns_asgM 4 rfl (by kernel_rfl) (by kernel_rfl) (snm_callI (x := "_law_draw") 0 0 (ar__law_draw hT) rfl (by kernel_rfl) (snma_nm 0 rfl (by kernel_rfl) (snma_px snd_int snma_nil))))
    (sns_cons (sns_asgM 5 rfl (by kernel_rfl) (by kernel_rfl) (snm_bm PySem.F.plainAttrs_str PySem.F.slot_str_join PySem.F.type_str_join (fun _ G => ms_join) (snm_p (snd_str [])) (snma_mx (snm_comp [("k", 7)] (sim_p (sni_rg1 (by kernel_rfl) (snd_var 3 rfl (by kernel_rfl)))) (by kernel_rfl) (sng_name 7 rfl (by kernel_rfl) (by kernel_rfl)) snts_nil (snm_callI (x := "_law_pick") 0 0 (ar__law_pick hT) rfl (by kernel_rfl) (snma_nm 0 rfl (by kernel_rfl) (snma_nm 1 rfl (by kernel_rfl) snma_nil))) (by decide)) snma_nil)))
    (sns_cons (sns_if (snt_w (snw_or (snt_cmp (fun _ G => ops_lt) (snd_var 4 rfl (by kernel_rfl)) snd_int) (snw_or1 (snt_cmp (fun _ G => ops_eq G.un) (snd_var 3 rfl (by kernel_rfl)) snd_int))))
    (sns_one (sns_retV 5 rfl (by kernel_rfl)))
    sns_nil)
    (sns_cons (sns_asg 6 rfl (by kernel_rfl) (by kernel_rfl) (snd_sl (snd_var 5 rfl (by kernel_rfl)) sno_none (sno_some (snd_bin (fun _ G => ops_add) snd_int (snd_bin (fun _ G => ops_fdiv) (snd_cty (x := "int") (by decide +kernel) (fun _ G => cs_int) (by kernel_rfl) rfl (sna_cons (snd_var 3 rfl (by kernel_rfl)) sna_nil)) snd_int)))))
    (sns_one (sns_ret (snd_sl (snd_bin (fun _ G => ops_mul) (snd_var 6 rfl (by kernel_rfl)) (snd_var 3 rfl (by kernel_rfl))) sno_none (sno_some (snd_var 3 rfl (by kernel_rfl)))))))))))
theorem ok__law_word : FEok (arOf tab) E__law_word := ⟨⟨rfl, rfl, rfl, by decide +kernel, rfl, by decide +kernel, by decide +kernel⟩, sd__law_word, fun _ _ _ _ _ _ us hl => match us, hl with | [_, _, _], _ => rfl⟩
def E__law_bent : FE := e__law_bent (top 12)
theorem sd__law_bent : ∀ T : Tbl, T.ar = arOf tab → SndSs ⟨E__law_bent.N, defScope E__law_bent.st, fun _ => true, T⟩ (defBody E__law_bent.st) (E__law_bent.body T) := fun T hT =>
    (sns_cons (sns_asgM 3 rfl (by kernel_rfl) (by kernel_rfl) (snm_callI (x := "_law_draw") 0 0 (ar__law_draw hT) rfl (by kernel_rfl) (snma_nm 0 rfl (by kernel_rfl) (snma_px snd_int snma_nil))))
    (sns_cons (sns_asgM 4 rfl (by kernel_rfl) (by kernel_rfl) (snm_binP (fun _ G => ops_mod) (snm_cty (x := "int") (by decide +kernel) (fun _ G => cs_int) (by kernel_rfl) rfl (snma_mx (snm_callI (x := "_law_draw") 0 0 (ar__law_draw hT) rfl (by kernel_rfl) (snma_nm 0 rfl (by kernel_rfl) (snma_px snd_int snma_nil))) snma_nil)) (snd_bin (fun _ G => ops_add) (snd_cb (x := "len") (by decide +kernel) (fun _ G => cs_len) (by kernel_rfl) rfl (sna_cons (snd_var 1 rfl (by kernel_rfl)) sna_nil)) snd_int)))
    (sns_cons (sns_asgM 5 rfl (by kernel_rfl) (by kernel_rfl) (snm_callI (x := "_law_pick") 0 0 (ar__law_pick hT) rfl (by kernel_rfl) (snma_nm 0 rfl (by kernel_rfl) (snma_nm 2 rfl (by kernel_rfl) snma_nil))))
    (sns_cons (sns_if (snt_cmp (fun _ G => ops_eq G.un) (snd_var 3 rfl (by kernel_rfl)) snd_int)
    (sns_one (sns_retV 1 rfl (by kernel_rfl)))
    sns_nil)
    (sns_cons (sns_if (snt_cmp (fun _ G => ops_eq G.un) (snd_var 3 rfl (by kernel_rfl)) snd_int)
    (sns_one (sns_ret (snd_bin (fun _ G => ops_add) (snd_bin (fun _ G => ops_add) (snd_sl (snd_var 1 rfl (by kernel_rfl)) sno_none (sno_some (snd_var 4 rfl (by kernel_rfl)))) (snd_var 5 rfl (by kernel_rfl))) (snd_sl (snd_var 1 rfl (by kernel_rfl)) (sno_some (snd_var 4 rfl (by kernel_rfl))) sno_none))))
    sns_nil)
    (sns_cons (sns_if (snt_cmp (fun _ G => ops_eq G.un) (snd_var 3 rfl (by kernel_rfl)) snd_int)
    (sns_one (sns_ret (snd_bin (fun _ G => ops_add) (snd_sl (snd_var 1 rfl (by kernel_rfl)) sno_none (sno_some (snd_var 4 rfl (by kernel_rfl)))) (snd_sl (snd_var 1 rfl (by kernel_rfl)) (sno_some (snd_bin (fun _ G => ops_add) (snd_var 4 rfl (by kernel_rfl)) snd_int)) sno_none))))
    sns_nil)
    (sns_cons (sns_if (snt_cmp (fun _ G => ops_eq G.un) (snd_var 3 rfl (by kernel_rfl)) snd_int)
    (sns_one (sns_ret (snd_bin (fun _ G => ops_add) (snd_bin (fun _ G => ops_add) (snd_sl (snd_var 1 rfl (by kernel_rfl)) sno_none (sno_some (snd_var 4 rfl (by kernel_rfl)))) (snd_var 5 rfl (by kernel_rfl))) (snd_sl (snd_var 1 rfl (by kernel_rfl)) (sno_some (snd_bin (fun _ G => ops_add) (snd_var 4 rfl (by kernel_rfl)) snd_int)) sno_none))))
    sns_nil)
    (sns_cons (sns_if (snt_cmp (fun _ G => ops_eq G.un) (snd_var 3 rfl (by kernel_rfl)) snd_int)
    (sns_one (sns_ret (snd_bin (fun _ G => ops_add) (snd_sl (snd_var 1 rfl (by kernel_rfl)) (sno_some (snd_var 4 rfl (by kernel_rfl))) sno_none) (snd_sl (snd_var 1 rfl (by kernel_rfl)) sno_none (sno_some (snd_var 4 rfl (by kernel_rfl)))))))
    sns_nil)
    (sns_cons (sns_if (snt_cmp (fun _ G => ops_eq G.un) (snd_var 3 rfl (by kernel_rfl)) snd_int)
    (sns_one (sns_ret (snd_rev (snd_var 1 rfl (by kernel_rfl)))))
    sns_nil)
    (sns_cons (sns_if (snt_cmp (fun _ G => ops_eq G.un) (snd_var 3 rfl (by kernel_rfl)) snd_int)
    (sns_one (sns_ret (snd_bin (fun _ G => ops_add) (snd_bin (fun _ G => ops_add) (snd_bin (fun _ G => ops_add) (snd_sl (snd_var 1 rfl (by kernel_rfl)) sno_none (sno_some (snd_var 4 rfl (by kernel_rfl)))) (snd_var 5 rfl (by kernel_rfl))) (snd_sl (snd_var 1 rfl (by kernel_rfl)) (sno_some (snd_bin (fun _ G => ops_add) (snd_var 4 rfl (by kernel_rfl)) snd_int)) sno_none)) (snd_var 5 rfl (by kernel_rfl)))))
    sns_nil)
    (sns_cons (sns_if (snt_cmp (fun _ G => ops_eq G.un) (snd_var 3 rfl (by kernel_rfl)) snd_int)
    (sns_one (sns_ret (snd_bin (fun _ G => ops_add) (snd_sl (snd_var 1 rfl (by kernel_rfl)) (sno_some snd_int) sno_none) (snd_var 5 rfl (by kernel_rfl)))))
    sns_nil)
    (sns_one (sns_retM (snm_callI (x := "_law_word") 0 0 (ar__law_word hT) rfl (by kernel_rfl) (snma_nm 0 rfl (by kernel_rfl) (snma_nm 2 rfl (by kernel_rfl) (snma_px snd_int snma_nil)))))))))))))))))
theorem ok__law_bent : FEok (arOf tab) E__law_bent := ⟨⟨rfl, rfl, rfl, by decide +kernel, rfl, by decide +kernel, by decide +kernel⟩, sd__law_bent, fun _ _ _ _ _ _ us hl => match us, hl with | [_, _, _], _ => rfl⟩
def E__law_grid : FE := e__law_grid (top 13)
theorem sd__law_grid : ∀ T : Tbl, T.ar = arOf tab → SndSs ⟨E__law_grid.N, defScope E__law_grid.st, fun _ => true, T⟩ (defBody E__law_grid.st) (E__law_grid.body T) := fun T hT =>
    (sns_cons (sns_asgLc 3 [("a", 8)] rfl rfl (by kernel_rfl) rfl (by kernel_rfl) (sni_rg1 (by kernel_rfl) (snd_bin (fun _ G => ops_add) (snd_cb (x := "len") (by decide +kernel) (fun _ G => cs_len) (by kernel_rfl) rfl (sna_cons (snd_var 0 rfl (by kernel_rfl)) sna_nil)) snd_int)) (by kernel_rfl) (sng_name 8 rfl (by kernel_rfl) (by kernel_rfl)) snts_nil (snd_comp [("b", 9)] (sni_rg1 (by kernel_rfl) (snd_bin (fun _ G => ops_add) (snd_cb (x := "len") (by decide +kernel) (fun _ G => cs_len) (by kernel_rfl) rfl (sna_cons (snd_var 1 rfl (by kernel_rfl)) sna_nil)) snd_int)) (by kernel_rfl) (sng_name 9 rfl (by kernel_rfl) (by kernel_rfl)) snts_nil snd_non (by decide)) (by decide))
    (sns_cons (sns_asg 4 rfl (by kernel_rfl) (by kernel_rfl) (snd_lst (sna_cons (snd_tup (sna_cons snd_int (sna_cons snd_int sna_nil))) sna_nil)))
    (sns_cons (sns_for (sni_rg1 (by kernel_rfl) (snd_bin (fun _ G => ops_add) (snd_bin (fun _ G => ops_add) (snd_cb (x := "len") (by decide +kernel) (fun _ G => cs_len) (by kernel_rfl) rfl (sna_cons (snd_var 0 rfl (by kernel_rfl)) sna_nil)) (snd_cb (x := "len") (by decide +kernel) (fun _ G => cs_len) (by kernel_rfl) rfl (sna_cons (snd_var 1 rfl (by kernel_rfl)) sna_nil))) snd_int)) (sng_name 5 rfl (by kernel_rfl) (by kernel_rfl))
    (sns_cons (sns_asg 6 rfl (by kernel_rfl) (by kernel_rfl) (snd_lst sna_nil))
    (sns_cons (sns_for (sni_rg1 (by kernel_rfl) (snd_bin (fun _ G => ops_mul) (snd_bin (fun _ G => ops_mul) snd_int (snd_bin (fun _ G => ops_add) (snd_cb (x := "len") (by decide +kernel) (fun _ G => cs_len) (by kernel_rfl) rfl (sna_cons (snd_var 0 rfl (by kernel_rfl)) sna_nil)) snd_int)) (snd_bin (fun _ G => ops_add) (snd_cb (x := "len") (by decide +kernel) (fun _ G => cs_len) (by kernel_rfl) rfl (sna_cons (snd_var 1 rfl (by kernel_rfl)) sna_nil)) snd_int))) (sng_name 7 rfl (by kernel_rfl) (by kernel_rfl))
    (sns_cons (sns_if (snt_cmp (fun _ G => ops_ge) (snd_var 7 rfl (by kernel_rfl)) (snd_cb (x := "len") (by decide +kernel) (fun _ G => cs_len) (by kernel_rfl) rfl (sna_cons (snd_var 4 rfl (by kernel_rfl)) sna_nil)))
    (sns_one sns_brk)
    sns_nil)
    (sns_cons (sns_asgG (sng_tup (sngs_cons (sng_name 8 rfl (by kernel_rfl) (by kernel_rfl)) (sngs_cons (sng_name 9 rfl (by kernel_rfl) (by kernel_rfl)) sngs_nil)) (gs_len_cons (gs_len_cons gs_len_nil))) (snm_p (snd_idx (snd_var 4 rfl (by kernel_rfl)) (snd_var 7 rfl (by kernel_rfl)))))
    (sns_one (sns_if (snt_cmp (fun _ G => ops_is) (snd_idx (snd_idx (snd_var 3 rfl (by kernel_rfl)) (snd_var 8 rfl (by kernel_rfl))) (snd_var 9 rfl (by kernel_rfl))) snd_non)
    (sns_cons (sns_set2 3 rfl (by kernel_rfl) (snd_var 8 rfl (by kernel_rfl)) (snd_var 9 rfl (by kernel_rfl)) (snm_p (snd_var 5 rfl (by kernel_rfl))))
    (sns_cons (sns_if (snt_w (snw_and (snt_cmp (fun _ G => ops_lt) (snd_var 8 rfl (by kernel_rfl)) (snd_cb (x := "len") (by decide +kernel) (fun _ G => cs_len) (by kernel_rfl) rfl (sna_cons (snd_var 0 rfl (by kernel_rfl)) sna_nil))) (snw_and1 (snt_cmp (fun _ G => ops_lt) (snd_var 9 rfl (by kernel_rfl)) (snd_cb (x := "len") (by decide +kernel) (fun _ G => cs_len) (by kernel_rfl) rfl (sna_cons (snd_var 1 rfl (by kernel_rfl)) sna_nil))))))
    (sns_one (sns_if (snt_cmp (fun _ G => ops_eq G.un) (snd_idx (snd_var 0 rfl (by kernel_rfl)) (snd_var 8 rfl (by kernel_rfl))) (snd_idx (snd_var 1 rfl (by kernel_rfl)) (snd_var 9 rfl (by kernel_rfl))))
    (sns_one (sns_app 4 rfl (by kernel_rfl) (snm_p (snd_tup (sna_cons (snd_bin (fun _ G => ops_add) (snd_var 8 rfl (by kernel_rfl)) snd_int) (sna_cons (snd_bin (fun _ G => ops_add) (snd_var 9 rfl (by kernel_rfl)) snd_int) sna_nil))))))
    (sns_one (sns_if (snt_val (snd_var 2 rfl (by kernel_rfl)))
    (sns_one (sns_app 6 rfl (by kernel_rfl) (snm_p (snd_tup (sna_cons (snd_bin (fun _ G => ops_add) (snd_var 8 rfl (by kernel_rfl)) snd_int) (sna_cons (snd_bin (fun _ G => ops_add) (snd_var 9 rfl (by kernel_rfl)) snd_int) sna_nil))))))
    sns_nil))))
    sns_nil)
    (sns_cons (sns_if (snt_cmp (fun _ G => ops_lt) (snd_var 8 rfl (by kernel_rfl)) (snd_cb (x := "len") (by decide +kernel) (fun _ G => cs_len) (by kernel_rfl) rfl (sna_cons (snd_var 0 rfl (by kernel_rfl)) sna_nil)))
    (sns_one (sns_app 6 rfl (by kernel_rfl) (snm_p (snd_tup (sna_cons (snd_bin (fun _ G => ops_add) (snd_var 8 rfl (by kernel_rfl)) snd_int) (sna_cons (snd_var 9 rfl (by kernel_rfl)) sna_nil))))))
    sns_nil)
    (sns_one (sns_if (snt_cmp (fun _ G => ops_lt) (snd_var 9 rfl (by kernel_rfl)) (snd_cb (x := "len") (by decide +kernel) (fun _ G => cs_len) (by kernel_rfl) rfl (sna_cons (snd_var 1 rfl (by kernel_rfl)) sna_nil)))
    (sns_one (sns_app 6 rfl (by kernel_rfl) (snm_p (snd_tup (sna_cons (snd_var 8 rfl (by kernel_rfl)) (sna_cons (snd_bin (fun _ G => ops_add) (snd_var 9 rfl (by kernel_rfl)) snd_int) sna_nil))))))
    sns_nil)))))
    sns_nil)))))
    (sns_one (sns_mv 4 6 rfl rfl (by kernel_rfl) (by kernel_rfl) (by kernel_rfl))))))
    (sns_one (sns_retV 3 rfl (by kernel_rfl))))))
theorem ok__law_grid : FEok (arOf tab) E__law_grid := ⟨⟨rfl, rfl, rfl, by decide +kernel, rfl, by decide +kernel, by decide +kernel⟩, sd__law_grid, fun _ _ _ _ _ _ us hl => match us, hl with | [_, _, _], _ => rfl⟩
def E__law_steps : FE := e__law_steps (top 14)
theorem sd__law_steps : ∀ T : Tbl, T.ar = arOf tab → SndSs ⟨E__law_steps.N, defScope E__law_steps.st, fun _ => true, T⟩ (defBody E__law_steps.st) (E__law_steps.body T) := fun T hT =>
    (sns_cons (sns_asg 2 rfl (by kernel_rfl) (by kernel_rfl) (snd_call (x := "_law_grid") (ar__law_grid hT) rfl (by kernel_rfl) (sna_cons (snd_var 0 rfl (by kernel_rfl)) (sna_cons (snd_var 1 rfl (by kernel_rfl)) (sna_cons snd_bl sna_nil)))))
    (sns_cons (sns_asg 3 rfl (by kernel_rfl) (by kernel_rfl) (snd_cb (x := "len") (by decide +kernel) (fun _ G => cs_len) (by kernel_rfl) rfl (sna_cons (snd_var 0 rfl (by kernel_rfl)) sna_nil)))
    (sns_cons (sns_asg 4 rfl (by kernel_rfl) (by kernel_rfl) (snd_cb (x := "len") (by decide +kernel) (fun _ G => cs_len) (by kernel_rfl) rfl (sna_cons (snd_var 1 rfl (by kernel_rfl)) sna_nil)))
    (sns_cons (sns_asg 5 rfl (by kernel_rfl) (by kernel_rfl) (snd_lst sna_nil))
    (sns_cons (sns_for (sni_rg1 (by kernel_rfl) (snd_bin (fun _ G => ops_add) (snd_cb (x := "len") (by decide +kernel) (fun _ G => cs_len) (by kernel_rfl) rfl (sna_cons (snd_var 0 rfl (by kernel_rfl)) sna_nil)) (snd_cb (x := "len") (by decide +kernel) (fun _ G => cs_len) (by kernel_rfl) rfl (sna_cons (snd_var 1 rfl (by kernel_rfl)) sna_nil)))) (sng_name 6 rfl (by kernel_rfl) (by kernel_rfl))
    (sns_one (sns_if (snt_w (snw_and (snt_cmp (fun _ G => ops_gt) (snd_var 3 rfl (by kernel_rfl)) snd_int) (snw_and (snt_cmp (fun _ G => ops_gt) (snd_var 4 rfl (by kernel_rfl)) snd_int) (snw_and (snt_cmp (fun _ G => ops_eq G.un) (snd_idx (snd_var 0 rfl (by kernel_rfl)) (snd_bin (fun _ G => ops_sub) (snd_var 3 rfl (by kernel_rfl)) snd_int)) (snd_idx (snd_var 1 rfl (by kernel_rfl)) (snd_bin (fun _ G => ops_sub) (snd_var 4 rfl (by kernel_rfl)) snd_int))) (snw_and1 (snt_cmp (fun _ G => ops_eq G.un) (snd_idx (snd_idx (snd_var 2 rfl (by kernel_rfl)) (snd_var 3 rfl (by kernel_rfl))) (snd_var 4 rfl (by kernel_rfl))) (snd_idx (snd_idx (snd_var 2 rfl (by kernel_rfl)) (snd_bin (fun _ G => ops_sub) (snd_var 3 rfl (by kernel_rfl)) snd_int)) (snd_bin (fun _ G => ops_sub) (snd_var 4 rfl (by kernel_rfl)) snd_int))))))))
    (sns_cons (sns_asg 3 rfl (by kernel_rfl) (by kernel_rfl) (snd_bin (fun _ G => ops_sub) (snd_var 3 rfl (by kernel_rfl)) snd_int))
    (sns_one (sns_asg 4 rfl (by kernel_rfl) (by kernel_rfl) (snd_bin (fun _ G => ops_sub) (snd_var 4 rfl (by kernel_rfl)) snd_int))))
    (sns_one (sns_if (snt_w (snw_and (snt_cmp (fun _ G => ops_gt) (snd_var 4 rfl (by kernel_rfl)) snd_int) (snw_and1 (snt_cmp (fun _ G => ops_eq G.un) (snd_idx (snd_idx (snd_var 2 rfl (by kernel_rfl)) (snd_var 3 rfl (by kernel_rfl))) (snd_var 4 rfl (by kernel_rfl))) (snd_bin (fun _ G => ops_add) (snd_idx (snd_idx (snd_var 2 rfl (by kernel_rfl)) (snd_var 3 rfl (by kernel_rfl))) (snd_bin (fun _ G => ops_sub) (snd_var 4 rfl (by kernel_rfl)) snd_int)) snd_int)))))
    (sns_cons (sns_asg 4 rfl (by kernel_rfl) (by kernel_rfl) (snd_bin (fun _ G => ops_sub) (snd_var 4 rfl (by kernel_rfl)) snd_int))
    (sns_one (sns_app 5 rfl (by kernel_rfl) (snm_p (snd_tup (sna_cons (snd_str [112, 117, 116]) (sna_cons (snd_var 4 rfl (by kernel_rfl)) (sna_cons (snd_idx (snd_var 1 rfl (by kernel_rfl)) (snd_var 4 rfl (by kernel_rfl))) sna_nil))))))))
    (sns_one (sns_if (snt_w (snw_and (snt_cmp (fun _ G => ops_gt) (snd_var 3 rfl (by kernel_rfl)) snd_int) (snw_and (snt_cmp (fun _ G => ops_gt) (snd_var 4 rfl (by kernel_rfl)) snd_int) (snw_and1 (snt_cmp (fun _ G => ops_eq G.un) (snd_idx (snd_idx (snd_var 2 rfl (by kernel_rfl)) (snd_var 3 rfl (by kernel_rfl))) (snd_var 4 rfl (by kernel_rfl))) (snd_bin (fun _ G => ops_add) (snd_idx (snd_idx (snd_var 2 rfl (by kernel_rfl)) (snd_bin (fun _ G => ops_sub) (snd_var 3 rfl (by kernel_rfl)) snd_int)) (snd_bin (fun _ G => ops_sub) (snd_var 4 rfl (by kernel_rfl)) snd_int)) snd_int))))))
    (sns_cons (sns_asg 3 rfl (by kernel_rfl) (by kernel_rfl) (snd_bin (fun _ G => ops_sub) (snd_var 3 rfl (by kernel_rfl)) snd_int))
    (sns_cons (sns_asg 4 rfl (by kernel_rfl) (by kernel_rfl) (snd_bin (fun _ G => ops_sub) (snd_var 4 rfl (by kernel_rfl)) snd_int))
    (sns_one (sns_app 5 rfl (by kernel_rfl) (snm_p (snd_tup (sna_cons (snd_str [99, 104, 97, 110, 103, 101]) (sna_cons (snd_var 4 rfl (by kernel_rfl)) (sna_cons (snd_idx (snd_var 1 rfl (by kernel_rfl)) (snd_var 4 rfl (by kernel_rfl))) sna_nil)))))))))
    (sns_one (sns_if (snt_cmp (fun _ G => ops_gt) (snd_var 3 rfl (by kernel_rfl)) snd_int)
    (sns_cons (sns_asg 3 rfl (by kernel_rfl) (by kernel_rfl) (snd_bin (fun _ G => ops_sub) (snd_var 3 rfl (by kernel_rfl)) snd_int))
    (sns_one (sns_app 5 rfl (by kernel_rfl) (snm_p (snd_tup (sna_cons (snd_str [116, 97, 107, 101]) (sna_cons (snd_var 4 rfl (by kernel_rfl)) (sna_cons (snd_str []) sna_nil))))))))
    sns_nil)))))))))
    (sns_one (sns_ret (snd_rev (snd_var 5 rfl (by kernel_rfl))))))))))
theorem ok__law_steps : FEok (arOf tab) E__law_steps := ⟨⟨rfl, rfl, rfl, by decide +kernel, rfl, by decide +kernel, by decide +kernel⟩, sd__law_steps, fun _ _ _ _ _ _ us hl => match us, hl with | [_, _], _ => rfl⟩
def E__law_after : FE := e__law_after (top 15)
theorem sd__law_after : ∀ T : Tbl, T.ar = arOf tab → SndSs ⟨E__law_after.N, defScope E__law_after.st, fun _ => true, T⟩ (defBody E__law_after.st) (E__law_after.body T) := fun T hT =>
    (sns_cons (sns_forN 1 rfl (by kernel_rfl) (sng_name 2 rfl (by kernel_rfl) (by kernel_rfl))
    (sns_cons (sns_asgG (sng_tup (sngs_cons (sng_name 4 rfl (by kernel_rfl) (by kernel_rfl)) (sngs_cons (sng_name 5 rfl (by kernel_rfl) (by kernel_rfl)) (sngs_cons (sng_name 6 rfl (by kernel_rfl) (by kernel_rfl)) sngs_nil))) (gs_len_cons (gs_len_cons (gs_len_cons gs_len_nil)))) (snm_p (snd_var 2 rfl (by kernel_rfl))))
    (sns_cons (sns_if (snt_w (snw_or (snt_cmp (fun _ G => ops_lt) (snd_var 5 rfl (by kernel_rfl)) snd_int) (snw_or (snt_cmp (fun _ G => ops_gt) (snd_var 5 rfl (by kernel_rfl)) (snd_cb (x := "len") (by decide +kernel) (fun _ G => cs_len) (by kernel_rfl) rfl (sna_cons (snd_var 0 rfl (by kernel_rfl)) sna_nil))) (snw_or1 (snt_w (snw_and (snt_cmp (fun _ G => ops_eq G.un) (snd_var 5 rfl (by kernel_rfl)) (snd_cb (x := "len") (by decide +kernel) (fun _ G => cs_len) (by kernel_rfl) rfl (sna_cons (snd_var 0 rfl (by kernel_rfl)) sna_nil))) (snw_and1 (snt_cmp (fun _ G => ops_ne G.un) (snd_var 4 rfl (by kernel_rfl)) (snd_str [112, 117, 116])))))))))
    (sns_one (sns_ret snd_non))
    sns_nil)
    (sns_cons (sns_asg 3 rfl (by kernel_rfl) (by kernel_rfl) (snd_if (snt_cmp (fun _ G => ops_eq G.un) (snd_var 4 rfl (by kernel_rfl)) (snd_str [112, 117, 116])) (snd_sl (snd_var 0 rfl (by kernel_rfl)) (sno_some (snd_var 5 rfl (by kernel_rfl))) sno_none) (snd_sl (snd_var 0 rfl (by kernel_rfl)) (sno_some (snd_bin (fun _ G => ops_add) (snd_var 5 rfl (by kernel_rfl)) snd_int)) sno_none)))
    (sns_one (sns_asg 0 rfl (by kernel_rfl) (by kernel_rfl) (snd_bin (fun _ G => ops_add) (snd_bin (fun _ G => ops_add) (snd_sl (snd_var 0 rfl (by kernel_rfl)) sno_none (sno_some (snd_var 5 rfl (by kernel_rfl)))) (snd_var 6 rfl (by kernel_rfl))) (snd_var 3 rfl (by kernel_rfl)))))))))
    (sns_one (sns_retV 0 rfl (by kernel_rfl))))
theorem ok__law_after : FEok (arOf tab) E__law_after := ⟨⟨rfl, rfl, rfl, by decide +kernel, rfl, by decide +kernel, by decide +kernel⟩, sd__law_after, fun _ _ _ _ _ _ us hl => match us, hl with | [_, _], _ => rfl⟩
def E__law_shown : FE := e__law_shown (top 16)
theorem sd__law_shown : ∀ T : Tbl, T.ar = arOf tab → SndSs ⟨E__law_shown.N, defScope E__law_shown.st, fun _ => true, T⟩ (defBody E__law_shown.st) (E__law_shown.body T) := fun T hT =>
    (sns_cons (sns_forN 2 rfl (by kernel_rfl) (sng_name 4 rfl (by kernel_rfl) (by kernel_rfl))
    (sns_cons (sns_if (snt_w (snw_or (snt_cmp (fun _ G => ops_ne G.un) (snd_cb (x := "len") (by decide +kernel) (fun _ G => cs_len) (by kernel_rfl) rfl (sna_cons (snd_var 4 rfl (by kernel_rfl)) sna_nil)) snd_int) (snw_or1 (snt_cmp (fun _ G => ops_nin G.un) (snd_idx (snd_var 4 rfl (by kernel_rfl)) snd_int) (snd_lst (sna_cons (snd_str [112, 117, 116]) (sna_cons (snd_str [116, 97, 107, 101]) (sna_cons (snd_str [99, 104, 97, 110, 103, 101]) sna_nil))))))))
    (sns_one (sns_ret snd_bl))
    sns_nil)
    (sns_one (sns_if (snt_w (snw_or (snt_w (snw_and (snt_cmp (fun _ G => ops_eq G.un) (snd_idx (snd_var 4 rfl (by kernel_rfl)) snd_int) (snd_str [116, 97, 107, 101])) (snw_and1 (snt_cmp (fun _ G => ops_ne G.un) (snd_idx (snd_var 4 rfl (by kernel_rfl)) snd_int) (snd_str []))))) (snw_or1 (snt_w (snw_and (snt_cmp (fun _ G => ops_ne G.un) (snd_idx (snd_var 4 rfl (by kernel_rfl)) snd_int) (snd_str [116, 97, 107, 101])) (snw_and1 (snt_cmp (fun _ G => ops_ne G.un) (snd_cb (x := "len") (by decide +kernel) (fun _ G => cs_len) (by kernel_rfl) rfl (sna_cons (snd_idx (snd_var 4 rfl (by kernel_rfl)) snd_int) sna_nil)) snd_int)))))))
    (sns_one (sns_ret snd_bl))
    sns_nil))))
    (sns_one (sns_ret (snd_and (snd_cmp (fun _ G => ops_le) (snd_cb (x := "len") (by decide +kernel) (fun _ G => cs_len) (by kernel_rfl) rfl (sna_cons (snd_var 2 rfl (by kernel_rfl)) sna_nil)) (snd_var 3 rfl (by kernel_rfl))) (snd_one (snd_cmp (fun _ G => ops_eq G.un) (snd_call (x := "_law_after") (ar__law_after hT) rfl (by kernel_rfl) (sna_cons (snd_var 0 rfl (by kernel_rfl)) (sna_cons (snd_var 2 rfl (by kernel_rfl)) sna_nil))) (snd_var 1 rfl (by kernel_rfl))))))))
theorem ok__law_shown : FEok (arOf tab) E__law_shown := ⟨⟨rfl, rfl, rfl, by decide +kernel, rfl, by decide +kernel, by decide +kernel⟩, sd__law_shown, fun _ _ _ _ _ _ us hl => match us, hl with | [_, _, _, _], _ => rfl⟩
def E__law_spoilt : FE := e__law_spoilt (top 17)
theorem sd__law_spoilt : ∀ T : Tbl, T.ar = arOf tab → SndSs ⟨E__law_spoilt.N, defScope E__law_spoilt.st, fun _ => true, T⟩ (defBody E__law_spoilt.st) (E__law_spoilt.body T) := fun T hT =>
    (sns_cons (sns_asgM 3 rfl (by kernel_rfl) (by kernel_rfl) (snm_callI (x := "_law_draw") 0 0 (ar__law_draw hT) rfl (by kernel_rfl) (snma_nm 0 rfl (by kernel_rfl) (snma_px snd_int snma_nil))))
    (sns_cons (sns_asg 4 rfl (by kernel_rfl) (by kernel_rfl) (snd_cty (x := "list") (by decide +kernel) (fun _ G => cs_listA G.calm) (by kernel_rfl) rfl (sna_cons (snd_var 1 rfl (by kernel_rfl)) sna_nil)))
    (sns_cons (sns_asgM 5 rfl (by kernel_rfl) (by kernel_rfl) (snm_binP (fun _ G => ops_mod) (snm_cty (x := "int") (by decide +kernel) (fun _ G => cs_int) (by kernel_rfl) rfl (snma_mx (snm_callI (x := "_law_draw") 0 0 (ar__law_draw hT) rfl (by kernel_rfl) (snma_nm 0 rfl (by kernel_rfl) (snma_px snd_int snma_nil))) snma_nil)) (snd_cb (x := "max") (by decide +kernel) (fun _ G => cs_max2 G.calm) (by kernel_rfl) rfl (sna_cons snd_int (sna_cons (snd_cb (x := "len") (by decide +kernel) (fun _ G => cs_len) (by kernel_rfl) rfl (sna_cons (snd_var 4 rfl (by kernel_rfl)) sna_nil)) sna_nil)))))
    (sns_cons (sns_asgM 6 rfl (by kernel_rfl) (by kernel_rfl) (snm_callI (x := "_law_draw") 0 0 (ar__law_draw hT) rfl (by kernel_rfl) (snma_nm 0 rfl (by kernel_rfl) (snma_px (snd_bin (fun _ G => ops_add) (snd_var 2 rfl (by kernel_rfl)) snd_int) snma_nil))))
    (sns_cons (sns_if (snt_cmp (fun _ G => ops_eq G.un) (snd_var 3 rfl (by kernel_rfl)) snd_int)
    (sns_one (sns_ret (snd_bin (fun _ G => ops_add) (snd_bin (fun _ G => ops_add) (snd_sl (snd_var 4 rfl (by kernel_rfl)) sno_none (sno_some (snd_var 5 rfl (by kernel_rfl)))) (snd_lst (sna_cons (snd_tup (sna_cons (snd_str [112, 117, 116]) (sna_cons (snd_var 6 rfl (by kernel_rfl)) (sna_cons (snd_str [97]) sna_nil)))) (sna_cons (snd_tup (sna_cons (snd_str [116, 97, 107, 101]) (sna_cons (snd_var 6 rfl (by kernel_rfl)) (sna_cons (snd_str []) sna_nil)))) sna_nil)))) (snd_sl (snd_var 4 rfl (by kernel_rfl)) (sno_some (snd_var 5 rfl (by kernel_rfl))) sno_none))))
    sns_nil)
    (sns_cons (sns_if (snt_cmp (fun _ G => ops_eq G.un) (snd_var 3 rfl (by kernel_rfl)) snd_int)
    (sns_one (sns_retM (snm_binN 4 (fun _ G => ops_add) rfl (by kernel_rfl) (snm_lst (snma_mx (snm_tup (snma_px (snd_str [116, 97, 107, 101]) (snma_mx (snm_callI (x := "_law_draw") 0 0 (ar__law_draw hT) rfl (by kernel_rfl) (snma_nm 0 rfl (by kernel_rfl) (snma_px (snd_bin (fun _ G => ops_add) (snd_var 2 rfl (by kernel_rfl)) snd_int) snma_nil))) (snma_px (snd_str []) snma_nil)))) snma_nil)))))
    sns_nil)
    (sns_cons (sns_if (snt_cmp (fun _ G => ops_eq G.un) (snd_var 3 rfl (by kernel_rfl)) snd_int)
    (sns_one (sns_retM (snm_binP (fun _ G => ops_add) (snm_bin (fun _ G => ops_add) (snm_p (snd_sl (snd_var 4 rfl (by kernel_rfl)) sno_none (sno_some (snd_var 5 rfl (by kernel_rfl))))) (snm_lst (snma_mx (snm_tup (snma_px (snd_str [112, 117, 116]) (snma_nm 6 rfl (by kernel_rfl) (snma_mx (snm_callI (x := "_law_pick") 0 0 (ar__law_pick hT) rfl (by kernel_rfl) (snma_nm 0 rfl (by kernel_rfl) (snma_px (snd_lst (sna_cons (snd_str []) (sna_cons (snd_str [97, 98]) (sna_cons (snd_str [97]) sna_nil)))) snma_nil))) snma_nil)))) snma_nil))) (snd_sl (snd_var 4 rfl (by kernel_rfl)) (sno_some (snd_var 5 rfl (by kernel_rfl))) sno_none))))
    sns_nil)
    (sns_cons (sns_if (snt_cmp (fun _ G => ops_eq G.un) (snd_var 3 rfl (by kernel_rfl)) snd_int)
    (sns_one (sns_retM (snm_binN 4 (fun _ G => ops_add) rfl (by kernel_rfl) (snm_lst (snma_mx (snm_callI (x := "_law_pick") 0 0 (ar__law_pick hT) rfl (by kernel_rfl) (snma_nm 0 rfl (by kernel_rfl) (snma_px (snd_lst (sna_cons (snd_tup (sna_cons (snd_str [109, 111, 118, 101]) (sna_cons snd_int (sna_cons (snd_str [97]) sna_nil)))) (sna_cons (snd_tup (sna_cons (snd_str []) (sna_cons snd_int (sna_cons (snd_str [97]) sna_nil)))) (sna_cons (snd_tup (sna_cons (snd_str [99, 104, 97, 110, 103, 101]) (sna_cons (snd_var 2 rfl (by kernel_rfl)) (sna_cons (snd_str [97]) sna_nil)))) (sna_cons (snd_tup (sna_cons (snd_str [112, 117, 116]) (sna_cons (snd_var 2 rfl (by kernel_rfl)) (sna_cons (snd_str [97]) sna_nil)))) sna_nil))))) snma_nil))) snma_nil)))))
    sns_nil)
    (sns_cons (sns_if (snt_cmp (fun _ G => ops_eq G.un) (snd_var 3 rfl (by kernel_rfl)) snd_int)
    (sns_one (sns_ret (snd_bin (fun _ G => ops_add) (snd_bin (fun _ G => ops_add) (snd_lst (sna_cons (snd_tup (sna_cons (snd_str [112, 117, 116]) (sna_cons snd_int (sna_cons (snd_str [97]) sna_nil)))) sna_nil)) (snd_var 4 rfl (by kernel_rfl))) (snd_lst (sna_cons (snd_tup (sna_cons (snd_str [116, 97, 107, 101]) (sna_cons snd_int (sna_cons (snd_str []) sna_nil)))) sna_nil)))))
    sns_nil)
    (sns_cons (sns_if (snt_w (snw_or (snt_cmp (fun _ G => ops_eq G.un) (snd_var 4 rfl (by kernel_rfl)) (snd_lst sna_nil)) (snw_or1 (snt_cmp (fun _ G => ops_eq G.un) (snd_var 3 rfl (by kernel_rfl)) snd_int))))
    (sns_one (sns_retV 4 rfl (by kernel_rfl)))
    sns_nil)
    (sns_cons (sns_asg 7 rfl (by kernel_rfl) (by kernel_rfl) (snd_idx (snd_var 4 rfl (by kernel_rfl)) (snd_var 5 rfl (by kernel_rfl))))
    (sns_cons (sns_if (snt_cmp (fun _ G => ops_eq G.un) (snd_var 3 rfl (by kernel_rfl)) snd_int)
    (sns_one (sns_expM (snm_pop 4 rfl (by kernel_rfl) (snm_p (snd_var 5 rfl (by kernel_rfl))))))
    (sns_one (sns_if (snt_cmp (fun _ G => ops_eq G.un) (snd_var 3 rfl (by kernel_rfl)) snd_int)
    (sns_one (sns_setL 4 rfl (by kernel_rfl) (snd_var 5 rfl (by kernel_rfl)) (snm_tup (snma_px (snd_idx (snd_var 7 rfl (by kernel_rfl)) snd_int) (snma_mx (snm_bin (fun _ G => ops_add) (snm_p (snd_idx (snd_var 7 rfl (by kernel_rfl)) snd_int)) (snm_callI (x := "_law_pick") 0 0 (ar__law_pick hT) rfl (by kernel_rfl) (snma_nm 0 rfl (by kernel_rfl) (snma_px (snd_lst (sna_cons (snd_un (fun _ _ => uns_neg) snd_int) (sna_cons snd_int (sna_cons snd_int (sna_cons (snd_un (fun _ _ => uns_neg) snd_int) sna_nil))))) snma_nil)))) (snma_px (snd_idx (snd_var 7 rfl (by kernel_rfl)) snd_int) snma_nil))))))
    (sns_one (sns_if (snt_cmp (fun _ G => ops_eq G.un) (snd_var 3 rfl (by kernel_rfl)) snd_int)
    (sns_one (sns_setL 4 rfl (by kernel_rfl) (snd_var 5 rfl (by kernel_rfl)) (snm_tup (snma_px (snd_idx (snd_var 7 rfl (by kernel_rfl)) snd_int) (snma_px (snd_idx (snd_var 7 rfl (by kernel_rfl)) snd_int) (snma_mx (snm_callI (x := "_law_pick") 0 0 (ar__law_pick hT) rfl (by kernel_rfl) (snma_nm 0 rfl (by kernel_rfl) (snma_px (snd_lst (sna_cons (snd_str [98]) (sna_cons (snd_str [97, 98]) (sna_cons (snd_str []) (sna_cons (snd_str [122]) sna_nil))))) snma_nil))) snma_nil))))))
    (sns_one (sns_if (snt_cmp (fun _ G => ops_eq G.un) (snd_var 3 rfl (by kernel_rfl)) snd_int)
    (sns_one (sns_setL 4 rfl (by kernel_rfl) (snd_var 5 rfl (by kernel_rfl)) (snm_tup (snma_mx (snm_callI (x := "_law_pick") 0 0 (ar__law_pick hT) rfl (by kernel_rfl) (snma_nm 0 rfl (by kernel_rfl) (snma_px (snd_lst (sna_cons (snd_str [112, 117, 116]) (sna_cons (snd_str [116, 97, 107, 101]) (sna_cons (snd_str [99, 104, 97, 110, 103, 101]) (sna_cons (snd_str [107, 101, 101, 112]) sna_nil))))) snma_nil))) (snma_px (snd_idx (snd_var 7 rfl (by kernel_rfl)) snd_int) (snma_px (snd_idx (snd_var 7 rfl (by kernel_rfl)) snd_int) snma_nil))))))
    (sns_one (sns_if (snt_cmp (fun _ G => ops_eq G.un) (snd_var 3 rfl (by kernel_rfl)) snd_int)
    (sns_one (sns_setL 4 rfl (by kernel_rfl) (snd_var 5 rfl (by kernel_rfl)) (snm_callI (x := "_law_pick") 0 0 (ar__law_pick hT) rfl (by kernel_rfl) (snma_nm 0 rfl (by kernel_rfl) (snma_px (snd_lst (sna_cons (snd_sl (snd_var 7 rfl (by kernel_rfl)) sno_none (sno_some snd_int)) (sna_cons (snd_bin (fun _ G => ops_add) (snd_var 7 rfl (by kernel_rfl)) (snd_tup (sna_cons (snd_str []) sna_nil))) (sna_cons (snd_sl (snd_var 7 rfl (by kernel_rfl)) sno_none (sno_some snd_int)) (sna_cons (snd_tup sna_nil) sna_nil))))) snma_nil)))))
    (sns_one (sns_if (snt_cmp (fun _ G => ops_eq G.un) (snd_var 3 rfl (by kernel_rfl)) snd_int)
    (sns_one (sns_asg 4 rfl (by kernel_rfl) (by kernel_rfl) (snd_rev (snd_var 4 rfl (by kernel_rfl)))))
    (sns_one (sns_if (snt_cmp (fun _ G => ops_eq G.un) (snd_var 3 rfl (by kernel_rfl)) snd_int)
    (sns_one (sns_app 4 rfl (by kernel_rfl) (snm_p (snd_idx (snd_var 4 rfl (by kernel_rfl)) (snd_var 5 rfl (by kernel_rfl))))))
    (sns_one (sns_setL 4 rfl (by kernel_rfl) (snd_var 5 rfl (by kernel_rfl)) (snm_p (snd_tup (sna_cons (snd_idx (snd_var 7 rfl (by kernel_rfl)) snd_int) (sna_cons (snd_un (fun _ _ => uns_neg) snd_int) (sna_cons (snd_idx (snd_var 7 rfl (by kernel_rfl)) snd_int) sna_nil))))))))))))))))))))
    (sns_one (sns_retV 4 rfl (by kernel_rfl)))))))))))))))
theorem ok__law_spoilt : FEok (arOf tab) E__law_spoilt := ⟨⟨rfl, rfl, rfl, by decide +kernel, rfl, by decide +kernel, by decide +kernel⟩, sd__law_spoilt, fun _ _ _ _ _ _ us hl => match us, hl with | [_, _, _], _ => rfl⟩
def E__law_told : FE := e__law_told (top 18)
theorem sd__law_told : ∀ T : Tbl, T.ar = arOf tab → SndSs ⟨E__law_told.N, defScope E__law_told.st, fun _ => true, T⟩ (defBody E__law_told.st) (E__law_told.body T) := fun T hT =>
    (sns_cons (sns_asg 3 rfl (by kernel_rfl) (by kernel_rfl) (snd_call (x := "edit_steps") (ar_edit_steps hT) rfl (by kernel_rfl) (sna_cons (snd_var 0 rfl (by kernel_rfl)) (sna_cons (snd_var 1 rfl (by kernel_rfl)) sna_nil))))
    (sns_cons (sns_if (snt_w (snw_or (snt_not (snt_val (snd_isi (T := "list") (by decide) (by decide +kernel) (by kernel_rfl) (by kernel_rfl) rfl (snd_var 3 rfl (by kernel_rfl)) (by decide +kernel) (by decide +kernel)))) (snw_or1 (snt_cmp (fun _ G => ops_ne G.un) (snd_cb (x := "len") (by decide +kernel) (fun _ G => cs_len) (by kernel_rfl) rfl (sna_cons (snd_var 3 rfl (by kernel_rfl)) sna_nil)) (snd_var 2 rfl (by kernel_rfl))))))
    (sns_one (sns_ret snd_bl))
    sns_nil)
    (sns_cons (sns_forN 3 rfl (by kernel_rfl) (sng_name 4 rfl (by kernel_rfl) (by kernel_rfl))
    (sns_cons (sns_if (snt_w (snw_or (snt_not (snt_val (snd_isi (T := "tuple") (by decide) (by decide +kernel) (by kernel_rfl) (by kernel_rfl) rfl (snd_var 4 rfl (by kernel_rfl)) (by decide +kernel) (by decide +kernel)))) (snw_or (snt_cmp (fun _ G => ops_ne G.un) (snd_cb (x := "len") (by decide +kernel) (fun _ G => cs_len) (by kernel_rfl) rfl (sna_cons (snd_var 4 rfl (by kernel_rfl)) sna_nil)) snd_int) (snw_or (snt_not (snt_val (snd_isi (T := "str") (by decide) (by decide +kernel) (by kernel_rfl) (by kernel_rfl) rfl (snd_idx (snd_var 4 rfl (by kernel_rfl)) snd_int) (by decide +kernel) (by decide +kernel)))) (snw_or1 (snt_not (snt_val (snd_isi (T := "str") (by decide) (by decide +kernel) (by kernel_rfl) (by kernel_rfl) rfl (snd_idx (snd_var 4 rfl (by kernel_rfl)) snd_int) (by decide +kernel) (by decide +kernel)))))))))
    (sns_one (sns_ret snd_bl))
    sns_nil)
    (sns_one (sns_if (snt_w (snw_or (snt_not (snt_val (snd_isi (T := "int") (by decide) (by decide +kernel) (by kernel_rfl) (by kernel_rfl) rfl (snd_idx (snd_var 4 rfl (by kernel_rfl)) snd_int) (by decide +kernel) (by decide +kernel)))) (snw_or1 (snt_val (snd_isi (T := "bool") (by decide) (by decide +kernel) (by kernel_rfl) (by kernel_rfl) rfl (snd_idx (snd_var 4 rfl (by kernel_rfl)) snd_int) (by decide +kernel) (by decide +kernel))))))
    (sns_one (sns_ret snd_bl))
    sns_nil))))
    (sns_one (sns_ret (snd_and (snd_call (x := "_law_shown") (ar__law_shown hT) rfl (by kernel_rfl) (sna_cons (snd_var 0 rfl (by kernel_rfl)) (sna_cons (snd_var 1 rfl (by kernel_rfl)) (sna_cons (snd_var 3 rfl (by kernel_rfl)) (sna_cons (snd_var 2 rfl (by kernel_rfl)) sna_nil))))) (snd_one (snd_cmp (fun _ G => ops_is) (snd_call (x := "shows_edits") (ar_shows_edits hT) rfl (by kernel_rfl) (sna_cons (snd_var 0 rfl (by kernel_rfl)) (sna_cons (snd_var 1 rfl (by kernel_rfl)) (sna_cons (snd_var 3 rfl (by kernel_rfl)) (sna_cons (snd_var 2 rfl (by kernel_rfl)) sna_nil))))) snd_bl))))))))
theorem ok__law_told : FEok (arOf tab) E__law_told := ⟨⟨rfl, rfl, rfl, by decide +kernel, rfl, by decide +kernel, by decide +kernel⟩, sd__law_told, fun _ _ _ _ _ _ us hl => match us, hl with | [_, _, _], _ => rfl⟩
def E_law : FE := e_law (top 19)
theorem sd_law : ∀ T : Tbl, T.ar = arOf tab → SndSs ⟨E_law.N, defScope E_law.st, fun _ => true, T⟩ (defBody E_law.st) (E_law.body T) := fun T hT =>
    (sns_cons (sns_asg 1 rfl (by kernel_rfl) (by kernel_rfl) (snd_lst (sna_cons (snd_call (x := "_law_digits") (ar__law_digits hT) rfl (by kernel_rfl) (sna_cons (snd_var 0 rfl (by kernel_rfl)) (sna_cons snd_int (sna_cons snd_int sna_nil)))) (sna_cons snd_int sna_nil))))
    (sns_cons (sns_asgM 2 rfl (by kernel_rfl) (by kernel_rfl) (snm_callI (x := "_law_pick") 0 1 (ar__law_pick hT) rfl (by kernel_rfl) (snma_nm 1 rfl (by kernel_rfl) (snma_px (snd_lst (sna_cons (snd_str [97, 98]) (sna_cons (snd_str [97, 98, 99]) (sna_cons (snd_str [97, 98]) (sna_cons (snd_str [97]) (sna_cons (snd_str [120, 121, 122]) sna_nil)))))) snma_nil))))
    (sns_cons (sns_asgM 3 rfl (by kernel_rfl) (by kernel_rfl) (snm_callI (x := "_law_word") 0 1 (ar__law_word hT) rfl (by kernel_rfl) (snma_nm 1 rfl (by kernel_rfl) (snma_nm 2 rfl (by kernel_rfl) (snma_px snd_int snma_nil)))))
    (sns_cons (sns_asgM 4 rfl (by kernel_rfl) (by kernel_rfl) (snm_callI (x := "_law_bent") 0 1 (ar__law_bent hT) rfl (by kernel_rfl) (snma_nm 1 rfl (by kernel_rfl) (snma_nm 3 rfl (by kernel_rfl) (snma_nm 2 rfl (by kernel_rfl) snma_nil)))))
    (sns_cons (sns_ifM (smt_cmpP (fun _ G => ops_eq G.un) (snm_callI (x := "_law_draw") 0 1 (ar__law_draw hT) rfl (by kernel_rfl) (snma_nm 1 rfl (by kernel_rfl) (snma_px snd_int snma_nil))) snd_int)
    (sns_one (sns_asgM 4 rfl (by kernel_rfl) (by kernel_rfl) (snm_callI (x := "_law_bent") 0 1 (ar__law_bent hT) rfl (by kernel_rfl) (snma_nm 1 rfl (by kernel_rfl) (snma_nm 4 rfl (by kernel_rfl) (snma_nm 2 rfl (by kernel_rfl) snma_nil))))))
    sns_nil)
    (sns_cons (sns_asg 5 rfl (by kernel_rfl) (by kernel_rfl) (snd_call (x := "_law_steps") (ar__law_steps hT) rfl (by kernel_rfl) (sna_cons (snd_var 3 rfl (by kernel_rfl)) (sna_cons (snd_var 4 rfl (by kernel_rfl)) sna_nil))))
    (sns_cons (sns_asg 6 rfl (by kernel_rfl) (by kernel_rfl) (snd_cb (x := "len") (by decide +kernel) (fun _ G => cs_len) (by kernel_rfl) rfl (sna_cons (snd_var 5 rfl (by kernel_rfl)) sna_nil)))
    (sns_cons (sns_if (snt_w (snw_or (snt_cmp (fun _ G => ops_ne G.un) (snd_var 6 rfl (by kernel_rfl)) (snd_idx (snd_idx (snd_call (x := "_law_grid") (ar__law_grid hT) rfl (by kernel_rfl) (sna_cons (snd_var 3 rfl (by kernel_rfl)) (sna_cons (snd_var 4 rfl (by kernel_rfl)) (sna_cons snd_bl sna_nil)))) (snd_un (fun _ _ => uns_neg) snd_int)) (snd_un (fun _ _ => uns_neg) snd_int))) (snw_or1 (snt_not (snt_val (snd_call (x := "_law_shown") (ar__law_shown hT) rfl (by kernel_rfl) (sna_cons (snd_var 3 rfl (by kernel_rfl)) (sna_cons (snd_var 4 rfl (by kernel_rfl)) (sna_cons (snd_var 5 rfl (by kernel_rfl)) (sna_cons (snd_var 6 rfl (by kernel_rfl)) sna_nil))))))))))
    (sns_one (sns_ret snd_bl))
    sns_nil)
    (sns_cons (sns_if (snt_w (snw_or (snt_not (snt_val (snd_call (x := "_law_told") (ar__law_told hT) rfl (by kernel_rfl) (sna_cons (snd_var 3 rfl (by kernel_rfl)) (sna_cons (snd_var 4 rfl (by kernel_rfl)) (sna_cons (snd_var 6 rfl (by kernel_rfl)) sna_nil)))))) (snw_or1 (snt_not (snt_val (snd_call (x := "_law_told") (ar__law_told hT) rfl (by kernel_rfl) (sna_cons (snd_var 4 rfl (by kernel_rfl)) (sna_cons (snd_var 3 rfl (by kernel_rfl)) (sna_cons (snd_var 6 rfl (by kernel_rfl)) sna_nil)))))))))
    (sns_one (sns_ret snd_bl))
    sns_nil)
    (sns_cons (sns_if (snt_w (snw_or (snt_cmp (fun _ G => ops_isN) (snd_call (x := "shows_edits") (ar_shows_edits hT) rfl (by kernel_rfl) (sna_cons (snd_var 3 rfl (by kernel_rfl)) (sna_cons (snd_var 4 rfl (by kernel_rfl)) (sna_cons (snd_cty (x := "list") (by decide +kernel) (fun _ G => cs_listA G.calm) (by kernel_rfl) rfl (sna_cons (snd_var 5 rfl (by kernel_rfl)) sna_nil)) (sna_cons (snd_var 6 rfl (by kernel_rfl)) sna_nil))))) snd_bl) (snw_or1 (snt_cmp (fun _ G => ops_isN) (snd_call (x := "shows_edits") (ar_shows_edits hT) rfl (by kernel_rfl) (sna_cons (snd_var 3 rfl (by kernel_rfl)) (sna_cons (snd_var 4 rfl (by kernel_rfl)) (sna_cons (snd_cty (x := "list") (by decide +kernel) (fun _ G => cs_listA G.calm) (by kernel_rfl) rfl (sna_cons (snd_var 5 rfl (by kernel_rfl)) sna_nil)) (sna_cons (snd_bin (fun _ G => ops_sub) (snd_var 6 rfl (by kernel_rfl)) snd_int) sna_nil))))) snd_bl))))
    (sns_one (sns_ret snd_bl))
    sns_nil)
    (sns_cons (sns_for (sni_rg1 (by kernel_rfl) snd_int) (sng_name 7 rfl (by kernel_rfl) (by kernel_rfl))
    (sns_cons (sns_asgM 8 rfl (by kernel_rfl) (by kernel_rfl) (snm_callI (x := "_law_spoilt") 0 1 (ar__law_spoilt hT) rfl (by kernel_rfl) (snma_nm 1 rfl (by kernel_rfl) (snma_nm 5 rfl (by kernel_rfl) (snma_px (snd_cb (x := "max") (by decide +kernel) (fun _ G => cs_max2 G.calm) (by kernel_rfl) rfl (sna_cons (snd_cb (x := "len") (by decide +kernel) (fun _ G => cs_len) (by kernel_rfl) rfl (sna_cons (snd_var 3 rfl (by kernel_rfl)) sna_nil)) (sna_cons (snd_cb (x := "len") (by decide +kernel) (fun _ G => cs_len) (by kernel_rfl) rfl (sna_cons (snd_var 4 rfl (by kernel_rfl)) sna_nil)) sna_nil))) snma_nil)))))
    (sns_cons (sns_asgM 9 rfl (by kernel_rfl) (by kernel_rfl) (snm_binN 6 (fun _ G => ops_add) rfl (by kernel_rfl) (snm_callI (x := "_law_pick") 0 1 (ar__law_pick hT) rfl (by kernel_rfl) (snma_nm 1 rfl (by kernel_rfl) (snma_px (snd_lst (sna_cons snd_int (sna_cons snd_int (sna_cons snd_int (sna_cons snd_int (sna_cons (snd_un (fun _ _ => uns_neg) snd_int) sna_nil)))))) snma_nil)))))
    (sns_cons (sns_asg 10 rfl (by kernel_rfl) (by kernel_rfl) (snd_cty (x := "list") (by decide +kernel) (fun _ G => cs_listA G.calm) (by kernel_rfl) rfl (sna_cons (snd_var 8 rfl (by kernel_rfl)) sna_nil)))
    (sns_cons (sns_if (snt_w (snw_or (snt_not (snt_val (snd_call (x := "_law_same") (ar__law_same hT) rfl (by kernel_rfl) (sna_cons (snd_call (x := "shows_edits") (ar_shows_edits hT) rfl (by kernel_rfl) (sna_cons (snd_var 3 rfl (by kernel_rfl)) (sna_cons (snd_var 4 rfl (by kernel_rfl)) (sna_cons (snd_var 10 rfl (by kernel_rfl)) (sna_cons (snd_var 9 rfl (by kernel_rfl)) sna_nil))))) (sna_cons (snd_call (x := "_law_shown") (ar__law_shown hT) rfl (by kernel_rfl) (sna_cons (snd_var 3 rfl (by kernel_rfl)) (sna_cons (snd_var 4 rfl (by kernel_rfl)) (sna_cons (snd_var 8 rfl (by kernel_rfl)) (sna_cons (snd_var 9 rfl (by kernel_rfl)) sna_nil))))) sna_nil))))) (snw_or1 (snt_cmp (fun _ G => ops_ne G.un) (snd_var 10 rfl (by kernel_rfl)) (snd_var 8 rfl (by kernel_rfl))))))
    (sns_one (sns_ret snd_bl))
    sns_nil)
    (sns_one (sns_if (snt_w (snw_or (snt_val (snd_call (x := "_law_shown") (ar__law_shown hT) rfl (by kernel_rfl) (sna_cons (snd_var 3 rfl (by kernel_rfl)) (sna_cons (snd_var 4 rfl (by kernel_rfl)) (sna_cons (snd_var 8 rfl (by kernel_rfl)) (sna_cons (snd_var 9 rfl (by kernel_rfl)) sna_nil)))))) (snw_or1 (snt_cmp (fun _ G => ops_lt) (snd_var 7 rfl (by kernel_rfl)) snd_int))))
    (sns_cons (sns_asgLc 11 [("step", 12)] rfl rfl (by kernel_rfl) rfl (by kernel_rfl) (sni_val (snd_var 8 rfl (by kernel_rfl))) (by kernel_rfl) (sng_name 12 rfl (by kernel_rfl) (by kernel_rfl)) (snts_one (snt_w (snw_and (snt_cmp (fun _ G => ops_eq G.un) (snd_cb (x := "len") (by decide +kernel) (fun _ G => cs_len) (by kernel_rfl) rfl (sna_cons (snd_var 12 rfl (by kernel_rfl)) sna_nil)) snd_int) (snw_and1 (snt_cmp (fun _ G => ops_in G.un) (snd_idx (snd_var 12 rfl (by kernel_rfl)) snd_int) (snd_lst (sna_cons (snd_str [112, 117, 116]) (sna_cons (snd_str [116, 97, 107, 101]) (sna_cons (snd_str [99, 104, 97, 110, 103, 101]) sna_nil))))))))) (snd_var 12 rfl (by kernel_rfl)) (by decide))
    (sns_cons (sns_asgLc 11 [("step", 12)] rfl rfl (by kernel_rfl) rfl (by kernel_rfl) (sni_val (snd_var 11 rfl (by kernel_rfl))) (by kernel_rfl) (sng_name 12 rfl (by kernel_rfl) (by kernel_rfl)) (snts_one (snt_cmp (fun _ G => ops_eq G.un) (snd_cb (x := "len") (by decide +kernel) (fun _ G => cs_len) (by kernel_rfl) rfl (sna_cons (snd_idx (snd_var 12 rfl (by kernel_rfl)) snd_int) sna_nil)) (snd_cty (x := "int") (by decide +kernel) (fun _ G => cs_int) (by kernel_rfl) rfl (sna_cons (snd_cmp (fun _ G => ops_ne G.un) (snd_idx (snd_var 12 rfl (by kernel_rfl)) snd_int) (snd_str [116, 97, 107, 101])) sna_nil)))) (snd_var 12 rfl (by kernel_rfl)) (by decide))
    (sns_one (sns_if (snt_not (snt_val (snd_call (x := "_law_same") (ar__law_same hT) rfl (by kernel_rfl) (sna_cons (snd_call (x := "after_steps") (ar_after_steps hT) rfl (by kernel_rfl) (sna_cons (snd_var 3 rfl (by kernel_rfl)) (sna_cons (snd_var 11 rfl (by kernel_rfl)) sna_nil))) (sna_cons (snd_call (x := "_law_after") (ar__law_after hT) rfl (by kernel_rfl) (sna_cons (snd_var 3 rfl (by kernel_rfl)) (sna_cons (snd_var 11 rfl (by kernel_rfl)) sna_nil))) sna_nil)))))
    (sns_one (sns_ret snd_bl))
    sns_nil))))
    sns_nil)))))))
    (sns_one (sns_ret (snd_call (x := "_law_same") (ar__law_same hT) rfl (by kernel_rfl) (sna_cons (snd_call (x := "after_steps") (ar_after_steps hT) rfl (by kernel_rfl) (sna_cons (snd_var 3 rfl (by kernel_rfl)) (sna_cons (snd_lst sna_nil) sna_nil))) (sna_cons (snd_var 3 rfl (by kernel_rfl)) sna_nil))))))))))))))))
theorem ok_law : FEok (arOf tab) E_law := ⟨⟨rfl, rfl, rfl, by decide +kernel, rfl, by decide +kernel, by decide +kernel⟩, sd_law, fun _ _ _ _ _ _ us hl => match us, hl with | [_], _ => rfl⟩
theorem oks : FEoks (arOf tab) tab := ⟨ok_edit_table, ok_edit_steps, ok_after_steps, ok_shows_edits, ok__law_cell, ok__law_digits, ok__law_draw, ok__law_pick, ok__law_same, ok__law_word, ok__law_bent, ok__law_grid, ok__law_steps, ok__law_after, ok__law_shown, ok__law_spoilt, ok__law_told, ok_law, trivial⟩
end Pv.k26
namespace Pv.k26
open PySem PySem.Spec L2 Pv

/-! ### plain: how far words are apart -/
def cst (u v : Tx) (a b : Nat) : Nat := if u[a]? = v[b]? then 0 else 1
def dD (u v : Tx) : Nat → Nat → Nat
  | 0, b => b
  | a + 1, 0 => a + 1
  | a + 1, b + 1 => min (min (dD u v a b + cst u v a b) (dD u v a (b + 1) + 1)) (dD u v (a + 1) b + 1)
termination_by a b => (a, b)
theorem dD_0 {u v : Tx} {b : Nat} : dD u v 0 b = b := by rw [dD]
theorem dD_a0 {u v : Tx} : ∀ {a : Nat}, dD u v a 0 = a
  | 0 => dD_0
  | a + 1 => by rw [dD]
theorem dD_s {u v : Tx} {a b : Nat} : dD u v (a + 1) (b + 1) = min (min (dD u v a b + cst u v a b) (dD u v a (b + 1) + 1)) (dD u v (a + 1) b + 1) := by rw [dD]
theorem dD_r {u v : Tx} {b : Nat} : ∀ {a : Nat}, dD u v a (b + 1) ≤ dD u v a b + 1
  | 0 => by rw [dD_0, dD_0]; omega
  | a + 1 => by rw [dD_s]; omega
theorem dD_d {u v : Tx} {a : Nat} : ∀ {b : Nat}, dD u v (a + 1) b ≤ dD u v a b + 1
  | 0 => by rw [dD_a0, dD_a0]; omega
  | b + 1 => by rw [dD_s]; omega
theorem dD_x {u v : Tx} {a b : Nat} : dD u v (a + 1) (b + 1) ≤ dD u v a b + cst u v a b := by rw [dD_s]; omega
theorem dD_le {u v : Tx} : ∀ (a b : Nat), dD u v a b ≤ a + b
  | 0, b => by rw [dD_0]; omega
  | a + 1, b => by
    have := dD_le (u := u) (v := v) a b
    have := dD_d (u := u) (v := v) (a := a) (b := b)
    omega
theorem dD_sym {u v : Tx} : ∀ (s a b : Nat), a + b ≤ s → dD u v a b = dD v u b a
  | 0, a, b, h => by
    obtain ⟨rfl, rfl⟩ : a = 0 ∧ b = 0 := by omega
    rw [dD_0, dD_0]
  | s + 1, a, b, h => by
    cases a with
    | zero => rw [dD_0, dD_a0]
    | succ a =>
      cases b with
      | zero => rw [dD_0, dD_a0]
      | succ b =>
        rw [dD_s, dD_s, dD_sym s a b (by omega), dD_sym s a (b + 1) (by omega), dD_sym s (a + 1) b (by omega)]
        have : cst u v a b = cst v u b a := by unfold cst; by_cases h : u[a]? = v[b]? <;> simp [h, eq_comm]
        rw [this]
        omega
/-- steps of no cost, and of cost one -/
def E0 (u v : Tx) (q p : Nat × Nat) : Prop := p = (q.1 + 1, q.2 + 1) ∧ u[q.1]? = v[q.2]?
def E1 (u v : Tx) (q p : Nat × Nat) : Prop := (p = (q.1 + 1, q.2 + 1) ∧ u[q.1]? ≠ v[q.2]?) ∨ p = (q.1 + 1, q.2) ∨ p = (q.1, q.2 + 1)
theorem pred {u v : Tx} {a b : Nat} (h : ¬ (a = 0 ∧ b = 0)) : ∃ q : Nat × Nat, q.1 ≤ a ∧ q.2 ≤ b ∧ q.1 + q.2 < a + b ∧ ((E0 u v q (a, b) ∧ dD u v a b = dD u v q.1 q.2) ∨ (E1 u v q (a, b) ∧ dD u v a b = dD u v q.1 q.2 + 1)) := by
  cases a with
  | zero =>
    cases b with
    | zero => exact absurd ⟨rfl, rfl⟩ h
    | succ b => exact ⟨(0, b), by simp, by simp, by simp, .inr ⟨.inr (.inr rfl), by rw [dD_0, dD_0]⟩⟩
  | succ a =>
    cases b with
    | zero => exact ⟨(a, 0), by simp, by simp, by simp, .inr ⟨.inr (.inl rfl), by rw [dD_a0, dD_a0]⟩⟩
    | succ b =>
      have e := dD_s (u := u) (v := v) (a := a) (b := b)
      have c : dD u v (a + 1) (b + 1) = dD u v a b + cst u v a b ∨ dD u v (a + 1) (b + 1) = dD u v a (b + 1) + 1 ∨ dD u v (a + 1) (b + 1) = dD u v (a + 1) b + 1 := by omega
      rcases c with c | c | c
      · by_cases hc : u[a]? = v[b]?
        · refine ⟨(a, b), by simp, by simp, by simp; omega, .inl ⟨⟨rfl, hc⟩, ?_⟩⟩
          rw [c]; unfold cst; rw [if_pos hc]; rfl
        · refine ⟨(a, b), by simp, by simp, by simp; omega, .inr ⟨.inl ⟨rfl, hc⟩, ?_⟩⟩
          rw [c]; unfold cst; rw [if_neg hc]
      · exact ⟨(a, b + 1), by simp, by simp, by simp, .inr ⟨.inr (.inl rfl), c⟩⟩
      · exact ⟨(a + 1, b), by simp, by simp, by simp, .inr ⟨.inr (.inr rfl), c⟩⟩
theorem E0_le {u v : Tx} {q p : Nat × Nat} (h : E0 u v q p) : dD u v p.1 p.2 ≤ dD u v q.1 q.2 := by
  obtain ⟨rfl, h⟩ := h
  have := dD_x (u := u) (v := v) (a := q.1) (b := q.2)
  unfold cst at this
  rw [if_pos h] at this
  exact this
theorem E1_le {u v : Tx} {q p : Nat × Nat} (h : E1 u v q p) : dD u v p.1 p.2 ≤ dD u v q.1 q.2 + 1 := by
  rcases h with ⟨rfl, h⟩ | rfl | rfl
  · have := dD_x (u := u) (v := v) (a := q.1) (b := q.2)
    unfold cst at this
    rw [if_neg h] at this
    exact this
  · exact dD_d
  · exact dD_r

/-! ### the table -/
def rowD (u v : Tx) (a k : Nat) : List PV := (List.range k).map fun b => .int (dD u v a b : Nat)
def tabD (u v : Tx) (k : Nat) : List PV := (List.range k).map fun a => .lst (rowD u v a (v.length + 1))
theorem rowD_len {u v : Tx} {a k : Nat} : (rowD u v a k).length = k := by simp [rowD]
theorem tabD_len {u v : Tx} {k : Nat} : (tabD u v k).length = k := by simp [tabD]
theorem rowD_at {u v : Tx} {a k b : Nat} (h : b < k) : atI (rowD u v a k) (b : Int) = some (.int (dD u v a b : Nat)) := by
  rw [atI_nat (by rw [rowD_len]; exact h)]; simp [rowD]
theorem tabD_at {u v : Tx} {a k : Nat} (h : a < k) : atI (tabD u v k) (a : Int) = some (.lst (rowD u v a (v.length + 1))) := by
  rw [atI_nat (by rw [tabD_len]; exact h)]; simp [tabD]
theorem at_last {α : Type} {l : List α} {x : α} : atI (l ++ [x]) (-1) = some x := by
  unfold atI ixN
  have h : (-1 : Int) + ((l ++ [x]).length : Int) = (l.length : Int) := by simp; omega
  rw [if_neg (by omega), if_pos (by rw [List.length_append, List.length_singleton]; omega), h]
  simp
theorem rowD_s {u v : Tx} {a k : Nat} : rowD u v a (k + 1) = rowD u v a k ++ [.int (dD u v a k : Nat)] := by
  unfold rowD; rw [List.range_succ, List.map_append]; rfl
theorem tabD_s {u v : Tx} {k : Nat} : tabD u v (k + 1) = tabD u v k ++ [.lst (rowD u v k (v.length + 1))] := by
  unfold tabD; rw [List.range_succ, List.map_append]; rfl
theorem tabD_last {u v : Tx} {k : Nat} : atI (tabD u v (k + 1)) (-1) = some (.lst (rowD u v k (v.length + 1))) := by rw [tabD_s]; exact at_last
theorem rowD_last {u v : Tx} {a k : Nat} : atI (rowD u v a (k + 1)) (-1) = some (.int (dD u v a k : Nat)) := by rw [rowD_s]; exact at_last
theorem enS_get {w : Tx} {i : Nat} {t : PV} (h : (enS w)[i]? = some t) : ∃ hi : i < w.length, t = .tup [.int (i : Nat), .str [w[i]]] := by
  unfold enS at h
  rw [List.getElem?_map] at h
  obtain ⟨j, hj, rfl⟩ := Option.map_eq_some_iff.mp h
  obtain ⟨h1, h2⟩ := List.getElem?_eq_some_iff.mp hj
  simp at h1 h2
  subst h2
  exact ⟨h1, by simp [h1]⟩
@[simp ↓] theorem iEnS_ap {a : PX} {τ : En} : iEnS a τ = (a τ).bind fun x => match x.2 with | .str s => some (.shr, enS s) | _ => none := rfl
section
variable {tp : Nat → Stmt} {k : Nat}
abbrev Tk (tp : Nat → Stmt) (k : Nat) : Tbl := tblK (tabOf tp) k
theorem tk_sem {x : String} {as : List Sl} : (Tk tp k).sem x as = semK (tabOf tp) k x as := rfl
theorem cellT : CellOk (Tk tp (k + 1)) := fun ns i h => cell_ok h
theorem drawT : DrawOk (Tk tp (k + 1)) := fun b m hb hm => draw_ok hb hm
theorem pickT : PickOk (Tk tp (k + 2)) := fun b s hb hs => pick_ok (T := Tk tp (k + 1)) drawT hb hs
theorem pickLT : PickLOk (Tk tp (k + 2)) := fun b s hb hs hi => pickL_ok (T := Tk tp (k + 1)) drawT hb hs hi
theorem digitsT : DigitsOk (Tk tp (k + 2)) := fun ns a b h1 h2 h3 h4 => digits_ok (T := Tk tp (k + 1)) cellT h1 h2 h3 h4
theorem sameT (t : PV) (ok : okS t = true) (h : dep t < k) : (Tk tp k).sem "_law_same" [.shr t, .shr t] = some (.own, .bl true, [.un, .un]) := same_ok (tab := tabOf tp) (st := tp 10) (fun _ _ => rfl) k t ok h
theorem table_ok {u v : Tx} (hu : u.length < 1000) (hv : v.length < 1000) : (Tk tp (k + 1)).sem "edit_table" [.shr (.str u), .shr (.str v)] = some (.own, .lst (tabD u v (u.length + 1)), [.un, .un]) := by
  rw [tk_sem, lk_edit_table, ← W.eq]
  refine runF_W rfl ?_
  simp only [e_edit_table, List.length_cons, List.length_nil, Nat.reduceAdd, Nat.reduceSub, List.replicate, List.cons_append, List.nil_append]
  unfold f_edit_table
  refine W_seqE (τ1 := [.shr (.str u), .shr (.str v), .own (.lst (tabD u v 1)), .un, .un, .un, .un, .un]) (by
    have h0 : (0 : Int) ≤ (v.length : Int) + 1 ∧ (v.length : Int) + 1 ≤ 16777216 := by omega
    have e1 : ((v.length : Int) + 1).toNat = v.length + 1 := by omega
    have e2 : [PV.lst (rgL 0 (v.length + 1))] = tabD u v 1 := by
      show [PV.lst _] = [PV.lst _]
      congr 2
      unfold rgL rowD
      refine List.map_congr_left fun b _ => ?_
      rw [dD_0]; simp
    rw [← W.eq]; simp -dsimp -implicitDefEqProofs [h0, e1, e2, kds]) ?_
  obtain ⟨I, hI⟩ : ∃ I : Nat → En → Prop, ∀ i τ, I i τ ↔ ∃ s3 s4 s5 s6 s7, τ = [.shr (.str u), .shr (.str v), .own (.lst (tabD u v (i + 1))), s3, s4, s5, s6, s7] ∧ nio s3 = true ∧ nio s4 = true ∧ nio s5 = true ∧ nio s6 = true ∧ nio s7 = true := ⟨_, fun _ _ => Iff.rfl⟩
  refine W_seq (I u.length) ?_ fun τ hτ => ?_
  · rw [sFor_ap, W_bind]
    refine W.mono (R := fun r => r = (.shr, enS u)) (by simp -dsimp -implicitDefEqProofs) fun r hr => ?_
    subst hr
    simp only [reduceCtorEq, if_false]
    refine W_forL I ((hI _ _).mpr ⟨.un, .un, .un, .un, .un, rfl, rfl, rfl, rfl, rfl, rfl⟩) (fun i t τ ht hi => ?_) fun τ hi => ⟨rfl, by unfold enS at hi; rw [List.length_map, List.length_range] at hi; exact hi⟩
    obtain ⟨s3, s4, s5, s6, s7, rfl, n3, n4, n5, n6, n7⟩ := (hI _ _).mp hi
    obtain ⟨hil, et⟩ := enS_get ht
    obtain ⟨c, hcu⟩ : ∃ c, u[i] = c := ⟨_, rfl⟩
    rw [hcu] at et
    subst et
    refine W.mono (R := fun τ1 => τ1 = [.shr (.str u), .shr (.str v), .own (.lst (tabD u v (i + 1))), .own (.int (i : Nat)), .own (.str [c]), s5, s6, s7]) (by simp -dsimp -implicitDefEqProofs [n3, n4]) fun τ1 h1 => ?_
    subst h1
    refine W_seqE (τ1 := [.shr (.str u), .shr (.str v), .own (.lst (tabD u v (i + 1))), .own (.int (i : Nat)), .own (.str [c]), .own (.lst (rowD u v (i + 1) 1)), s6, s7]) (by
      have e2 : [PV.int ((i : Int) + 1)] = rowD u v (i + 1) 1 := by
        show [PV.int _] = [PV.int _]
        rw [dD_a0]; simp
      rw [← W.eq]; simp -dsimp -implicitDefEqProofs [n5, e2, kds]) ?_
    obtain ⟨J, hJ⟩ : ∃ J : Nat → En → Prop, ∀ j τ, J j τ ↔ ∃ s6 s7, τ = [.shr (.str u), .shr (.str v), .own (.lst (tabD u v (i + 1))), .own (.int (i : Nat)), .own (.str [c]), .own (.lst (rowD u v (i + 1) (j + 1))), s6, s7] ∧ nio s6 = true ∧ nio s7 = true := ⟨_, fun _ _ => Iff.rfl⟩
    refine W_seq (J v.length) ?_ fun τ hτ => ?_
    · rw [sFor_ap, W_bind]
      refine W.mono (R := fun r => r = (.shr, enS v)) (by simp -dsimp -implicitDefEqProofs) fun r hr => ?_
      subst hr
      simp only [reduceCtorEq, if_false]
      refine W_forL J ((hJ _ _).mpr ⟨s6, s7, rfl, n6, n7⟩) (fun j t τ ht hj => ?_) fun τ hj => ⟨rfl, by unfold enS at hj; rw [List.length_map, List.length_range] at hj; exact hj⟩
      obtain ⟨s6, s7, rfl, n6, n7⟩ := (hJ _ _).mp hj
      obtain ⟨hjl, et⟩ := enS_get ht
      obtain ⟨d, hdv⟩ : ∃ d, v[j] = d := ⟨_, rfl⟩
      rw [hdv] at et
      subst et
      refine W.mono (R := fun τ1 => τ1 = [.shr (.str u), .shr (.str v), .own (.lst (tabD u v (i + 1))), .own (.int (i : Nat)), .own (.str [c]), .own (.lst (rowD u v (i + 1) (j + 1))), .own (.int (j : Nat)), .own (.str [d])]) (by simp -dsimp -implicitDefEqProofs [n6, n7]) fun τ1 h1 => ?_
      subst h1
      have a1 := rowD_at (u := u) (v := v) (a := i) (k := v.length + 1) (b := j) (by omega)
      have a2 := rowD_at (u := u) (v := v) (a := i) (k := v.length + 1) (b := j + 1) (by omega)
      have a3 := rowD_at (u := u) (v := v) (a := i + 1) (k := j + 1) (b := j) (by omega)
      rw [show ((j + 1 : Nat) : Int) = (j : Int) + 1 by omega] at a2
      have al := tabD_last (u := u) (v := v) (k := i)
      obtain ⟨x1, hx1⟩ : ∃ x, dD u v i j = x := ⟨_, rfl⟩
      obtain ⟨x2, hx2⟩ : ∃ x, dD u v i (j + 1) = x := ⟨_, rfl⟩
      obtain ⟨x3, hx3⟩ : ∃ x, dD u v (i + 1) j = x := ⟨_, rfl⟩
      have hz : j + 1 < 16777216 := by omega
      have fin : ∀ z : Int, z = (dD u v (i + 1) (j + 1) : Nat) → J (j + 1) [.shr (.str u), .shr (.str v), .own (.lst (tabD u v (i + 1))), .own (.int (i : Nat)), .own (.str [c]), .own (.lst (rowD u v (i + 1) (j + 1) ++ [.int z])), .own (.int (j : Nat)), .own (.str [d])] := fun z hz => (hJ _ _).mpr ⟨.own (.int (j : Nat)), .own (.str [d]), by rw [hz, ← rowD_s], rfl, rfl⟩
      have hd := dD_s (u := u) (v := v) (a := i) (b := j)
      unfold cst at hd
      rw [List.getElem?_eq_getElem hil, List.getElem?_eq_getElem hjl, hcu, hdv, hx1, hx2, hx3] at hd
      rw [hx1] at a1
      rw [hx2] at a2
      rw [hx3] at a3
      by_cases hc : c = d
      · subst hc
        rw [if_pos rfl] at hd
        have g' : gInt (.bl false) = some (.own, .int 0) := rfl
        simp -dsimp -implicitDefEqProofs [al, a1, a2, a3, g', rowD_len, hz, gNeg]
        refine fin _ ?_
        split <;> split <;> omega
      · rw [if_neg fun z => hc (Option.some.inj z)] at hd
        have g' : gInt (.bl true) = some (.own, .int 1) := rfl
        simp -dsimp -implicitDefEqProofs [al, a1, a2, a3, hc, g', rowD_len, hz, gNeg]
        refine fin _ ?_
        split <;> split <;> omega
    · obtain ⟨s6, s7, rfl, n6, n7⟩ := (hJ _ _).mp hτ
      have hz : i + 1 < 16777216 := by omega
      simp -dsimp -implicitDefEqProofs [tabD_len, hz]
      exact (hI _ _).mpr ⟨.own (.int (i : Nat)), .own (.str [c]), .un, s6, s7, by rw [← tabD_s], rfl, rfl, rfl, n6, n7⟩
  · obtain ⟨s3, s4, s5, s6, s7, rfl, n3, n4, n5, n6, n7⟩ := (hI _ _).mp hτ
    simp -dsimp -implicitDefEqProofs
end
end Pv.k26
namespace Pv.k26
open PySem PySem.Spec L2 Pv

/-! ### plain: layers -/
abbrev Pr := Nat × Nat
abbrev dP (u v : Tx) (p : Pr) : Nat := dD u v p.1 p.2
def inb (u v : Tx) (p : Pr) : Prop := p.1 ≤ u.length ∧ p.2 ≤ v.length
def cells (u v : Tx) : Nat := (u.length + 1) * (v.length + 1)
theorem cells_len {u v : Tx} {S : List Pr} (nd : S.Nodup) (h : ∀ p ∈ S, inb u v p) : S.length ≤ cells u v := by
  have : S.length ≤ ((List.range (u.length + 1)).flatMap fun a => (List.range (v.length + 1)).map fun b => (a, b)).length :=
    List.Nodup.length_le_of_subset nd fun p hp => by
      have := h p hp
      refine List.mem_flatMap.mpr ⟨p.1, List.mem_range.mpr (by have := this.1; omega), List.mem_map.mpr ⟨p.2, List.mem_range.mpr (by have := this.2; omega), rfl⟩⟩
  refine Nat.le_trans this (Nat.le_of_eq ?_)
  rw [List.length_flatMap]
  simp only [List.length_map, List.length_range, List.map_const', cells]
  simp
/-- a layer: the places behind t steps -/
structure Lay (u v : Tx) (t : Nat) (L : List Pr) : Prop where
  b : ∀ p ∈ L, inb u v p ∧ dP u v p ≤ t
  z : t = 0 → (0, 0) ∈ L
  e : ∀ q p : Pr, inb u v p → E1 u v q p → dP u v q + 1 = t → p ∈ L
  l : L.length ≤ 3 * cells u v
structure Rnd (u v : Tx) (t : Nat) (L0 : List Pr) (k : Nat) (L M S : List Pr) : Prop where
  b : ∀ p ∈ L, inb u v p ∧ dP u v p ≤ t
  m : ∀ p ∈ M, inb u v p ∧ dP u v p ≤ t + 1
  nd : S.Nodup
  s : ∀ p ∈ S, inb u v p ∧ dP u v p = t
  pr : ∀ p ∈ L.take k, dP u v p = t → p ∈ S
  c0 : ∀ p ∈ L0, p ∈ L
  s0 : ∀ q ∈ S, ∀ p, inb u v p → E0 u v q p → p ∈ L
  s1 : ∀ q ∈ S, ∀ p, inb u v p → E1 u v q p → p ∈ M
  lL : L.length ≤ L0.length + S.length
  lM : M.length ≤ 3 * S.length
theorem Lay.rnd {u v : Tx} {t : Nat} {L : List Pr} (h : Lay u v t L) : Rnd u v t L 0 L [] [] :=
  ⟨h.b, fun _ z => absurd z List.not_mem_nil, List.nodup_nil, fun _ z => absurd z List.not_mem_nil, fun p z => by simp at z, fun _ z => z, fun _ z => absurd z List.not_mem_nil, fun _ z => absurd z List.not_mem_nil, by simp, by simp⟩
theorem Rnd.skip {u v : Tx} {t k : Nat} {L0 L M S : List Pr} (h : Rnd u v t L0 k L M S) (hk : k < L.length) (hs : dP u v L[k] = t → L[k] ∈ S) : Rnd u v t L0 (k + 1) L M S :=
  ⟨h.b, h.m, h.nd, h.s, fun p hp e => by
    rw [List.take_succ_eq_append_getElem hk] at hp
    rcases List.mem_append.mp hp with z | z
    · exact h.pr p z e
    · rw [List.mem_singleton] at z; rw [z] at e ⊢; exact hs e, h.c0, h.s0, h.s1, h.lL, h.lM⟩
/-- what a place adds -/
def ad0 (u v : Tx) (p : Pr) : List Pr := if p.1 < u.length ∧ p.2 < v.length ∧ u[p.1]? = v[p.2]? then [(p.1 + 1, p.2 + 1)] else []
def ad1 (u v : Tx) (p : Pr) : List Pr := (if p.1 < u.length ∧ p.2 < v.length ∧ u[p.1]? ≠ v[p.2]? then [(p.1 + 1, p.2 + 1)] else []) ++ (if p.1 < u.length then [(p.1 + 1, p.2)] else []) ++ (if p.2 < v.length then [(p.1, p.2 + 1)] else [])
theorem mem_ad0 {u v : Tx} {q p : Pr} (hq : inb u v q) : p ∈ ad0 u v q ↔ inb u v p ∧ E0 u v q p := by
  unfold ad0 E0 inb
  constructor
  · intro h
    split at h
    · rename_i c
      rw [List.mem_singleton] at h
      subst h
      exact ⟨⟨by show q.1 + 1 ≤ _; omega, by show q.2 + 1 ≤ _; omega⟩, rfl, c.2.2⟩
    · exact absurd h List.not_mem_nil
  · rintro ⟨⟨h1, h2⟩, rfl, h3⟩
    have h1 : q.1 + 1 ≤ u.length := h1
    have h2 : q.2 + 1 ≤ v.length := h2
    rw [if_pos ⟨by omega, by omega, h3⟩]
    exact List.mem_singleton.mpr rfl
theorem mem_ad1 {u v : Tx} {q p : Pr} (hq : inb u v q) : p ∈ ad1 u v q ↔ inb u v p ∧ E1 u v q p := by
  unfold ad1 E1
  obtain ⟨q1, q2⟩ := hq
  constructor
  · intro h
    rcases List.mem_append.mp h with h | h
    · rcases List.mem_append.mp h with h | h
      · split at h
        · rename_i c
          rw [List.mem_singleton] at h
          subst h
          exact ⟨⟨by show q.1 + 1 ≤ _; omega, by show q.2 + 1 ≤ _; omega⟩, .inl ⟨rfl, c.2.2⟩⟩
        · exact absurd h List.not_mem_nil
      · split at h
        · rw [List.mem_singleton] at h
          subst h
          exact ⟨⟨by show q.1 + 1 ≤ _; omega, q2⟩, .inr (.inl rfl)⟩
        · exact absurd h List.not_mem_nil
    · split at h
      · rw [List.mem_singleton] at h
        subst h
        exact ⟨⟨q1, by show q.2 + 1 ≤ _; omega⟩, .inr (.inr rfl)⟩
      · exact absurd h List.not_mem_nil
  · rintro ⟨⟨h1, h2⟩, ⟨rfl, h3⟩ | rfl | rfl⟩
    · have h1 : q.1 + 1 ≤ u.length := h1
      have h2 : q.2 + 1 ≤ v.length := h2
      rw [if_pos ⟨by omega, by omega, h3⟩]
      exact List.mem_append_left _ (List.mem_append_left _ (List.mem_singleton.mpr rfl))
    · have h1 : q.1 + 1 ≤ u.length := h1
      rw [if_pos (show q.1 < u.length by omega)]
      exact List.mem_append_left _ (List.mem_append_right _ (List.mem_singleton.mpr rfl))
    · have h2 : q.2 + 1 ≤ v.length := h2
      rw [if_pos (show q.2 < v.length by omega)]
      exact List.mem_append_right _ (List.mem_singleton.mpr rfl)
theorem ad0_len {u v : Tx} {p : Pr} : (ad0 u v p).length ≤ 1 := by unfold ad0; split <;> simp
theorem ad1_len {u v : Tx} {p : Pr} : (ad1 u v p).length ≤ 3 := by
  unfold ad1
  rw [List.length_append, List.length_append]
  have h1 : (if p.1 < u.length ∧ p.2 < v.length ∧ u[p.1]? ≠ v[p.2]? then [(p.1 + 1, p.2 + 1)] else ([] : List Pr)).length ≤ 1 := by split <;> simp
  have h2 : (if p.1 < u.length then [(p.1 + 1, p.2)] else ([] : List Pr)).length ≤ 1 := by split <;> simp
  have h3 : (if p.2 < v.length then [(p.1, p.2 + 1)] else ([] : List Pr)).length ≤ 1 := by split <;> simp
  omega
theorem Rnd.add {u v : Tx} {t k : Nat} {L0 L M S : List Pr} (h : Rnd u v t L0 k L M S) (hk : k < L.length) (hd : dP u v L[k] = t) (hs : L[k] ∉ S) : Rnd u v t L0 (k + 1) (L ++ ad0 u v L[k]) (M ++ ad1 u v L[k]) (L[k] :: S) := by
  have hin := (h.b L[k] (List.getElem_mem hk)).1
  refine ⟨fun p hp => ?_, fun p hp => ?_, List.nodup_cons.mpr ⟨hs, h.nd⟩, fun p hp => ?_, fun p hp e => ?_, fun p hp => List.mem_append_left _ (h.c0 p hp), fun q hq p hp e => ?_, fun q hq p hp e => ?_, ?_, ?_⟩
  · rcases List.mem_append.mp hp with z | z
    · exact h.b p z
    · obtain ⟨z1, z2⟩ := (mem_ad0 hin).mp z
      have := E0_le z2
      exact ⟨z1, by unfold dP at hd ⊢; omega⟩
  · rcases List.mem_append.mp hp with z | z
    · exact h.m p z
    · obtain ⟨z1, z2⟩ := (mem_ad1 hin).mp z
      have := E1_le z2
      exact ⟨z1, by unfold dP at hd ⊢; omega⟩
  · rcases List.mem_cons.mp hp with z | z
    · rw [z]; exact ⟨hin, hd⟩
    · exact h.s p z
  · rw [List.take_append_of_le_length (by omega), List.take_succ_eq_append_getElem hk] at hp
    rcases List.mem_append.mp hp with z | z
    · exact List.mem_cons_of_mem _ (h.pr p z e)
    · rw [List.mem_singleton.mp z]; exact List.mem_cons_self
  · rcases List.mem_cons.mp hq with z | z
    · subst z; exact List.mem_append_right _ ((mem_ad0 hin).mpr ⟨hp, e⟩)
    · exact List.mem_append_left _ (h.s0 q z p hp e)
  · rcases List.mem_cons.mp hq with z | z
    · subst z; exact List.mem_append_right _ ((mem_ad1 hin).mpr ⟨hp, e⟩)
    · exact List.mem_append_left _ (h.s1 q z p hp e)
  · have := ad0_len (u := u) (v := v) (p := L[k])
    have := h.lL
    rw [List.length_append, List.length_cons]; omega
  · have := ad1_len (u := u) (v := v) (p := L[k])
    have := h.lM
    rw [List.length_append, List.length_cons]; omega
theorem Rnd.len {u v : Tx} {t k : Nat} {L0 L M S : List Pr} (h : Rnd u v t L0 k L M S) (h0 : Lay u v t L0) : L.length ≤ 4 * cells u v ∧ M.length ≤ 3 * cells u v := by
  have := cells_len h.nd fun p hp => (h.s p hp).1
  have := h.lL
  have := h.lM
  have := h0.l
  omega
theorem Rnd.all {u v : Tx} {t k : Nat} {L0 L M S : List Pr} (h : Rnd u v t L0 k L M S) (h0 : Lay u v t L0) (hk : L.length ≤ k) : ∀ n (p : Pr), p.1 + p.2 ≤ n → inb u v p → dP u v p = t → p ∈ S := by
  have get : ∀ p ∈ L, dP u v p = t → p ∈ S := fun p hp e => h.pr p (by rw [List.take_of_length_le hk]; exact hp) e
  intro n
  induction n with
  | zero =>
    intro p hn hp e
    obtain ⟨a, b⟩ := p
    obtain ⟨rfl, rfl⟩ : a = 0 ∧ b = 0 := by simp at hn; exact hn
    have : t = 0 := by rw [← e]; exact dD_0
    exact get _ (h.c0 _ (h0.z this)) e
  | succ n ih =>
    intro p hn hp e
    obtain ⟨a, b⟩ := p
    by_cases hz : a = 0 ∧ b = 0
    · obtain ⟨rfl, rfl⟩ := hz
      have : t = 0 := by rw [← e]; exact dD_0
      exact get _ (h.c0 _ (h0.z this)) e
    · obtain ⟨q, q1, q2, q3, q4⟩ := pred (u := u) (v := v) hz
      have hqb : inb u v q := ⟨Nat.le_trans q1 hp.1, Nat.le_trans q2 hp.2⟩
      have hn : a + b ≤ n + 1 := hn
      rcases q4 with ⟨z, ez⟩ | ⟨z, ez⟩
      · have hqS : q ∈ S := ih q (by omega) hqb (by rw [← e]; exact ez.symm)
        exact get _ (h.s0 q hqS _ hp z) e
      · exact get _ (h.c0 _ (h0.e q _ hp z (by rw [← e]; exact ez.symm))) e
theorem Rnd.next {u v : Tx} {t k : Nat} {L0 L M S : List Pr} (h : Rnd u v t L0 k L M S) (h0 : Lay u v t L0) (hk : L.length ≤ k) : Lay u v (t + 1) M := by
  refine ⟨h.m, fun z => absurd z (Nat.succ_ne_zero _), fun q p hp e ed => ?_, (h.len h0).2⟩
  have hqb : inb u v q := by
    rcases e with ⟨rfl, _⟩ | rfl | rfl
    · exact ⟨Nat.le_of_succ_le hp.1, Nat.le_of_succ_le hp.2⟩
    · exact ⟨Nat.le_of_succ_le hp.1, hp.2⟩
    · exact ⟨hp.1, Nat.le_of_succ_le hp.2⟩
  exact h.s1 q (h.all h0 hk _ q (Nat.le_refl _) hqb (by omega)) p hp e
/-- the table so far -/
def tbF (u v : Tx) (t : Nat) (S : List Pr) (a b : Nat) : PV := if dD u v a b < t ∨ (a, b) ∈ S then .int (dD u v a b : Nat) else .non
def tbL (u v : Tx) (f : Nat → Nat → PV) : List PV := (List.range (u.length + 1)).map fun a => .lst ((List.range (v.length + 1)).map fun b => f a b)
theorem tbL_congr {u v : Tx} {f g : Nat → Nat → PV} (h : ∀ a b, a ≤ u.length → b ≤ v.length → f a b = g a b) : tbL u v f = tbL u v g := by
  unfold tbL
  refine List.map_congr_left fun a ha => ?_
  rw [List.map_congr_left fun b hb => h a b (by have := List.mem_range.mp ha; omega) (by have := List.mem_range.mp hb; omega)]
end Pv.k26
namespace Pv.k26
open PySem PySem.Spec L2 Pv

def pL (l : List Pr) : List PV := l.map fun p => .tup [.int (p.1 : Nat), .int (p.2 : Nat)]
theorem pL_imms {l : List Pr} : imms (pL l) = true := by rw [imms_all]; simp [pL]
theorem pL_len {l : List Pr} : (pL l).length = l.length := by simp [pL]
theorem pL_app {l m : List Pr} : pL (l ++ m) = pL l ++ pL m := by simp [pL]
def trow (v : Tx) (f : Nat → Nat → PV) (a : Nat) : List PV := (List.range (v.length + 1)).map fun b => f a b
theorem tbL_len {u v : Tx} {f : Nat → Nat → PV} : (tbL u v f).length = u.length + 1 := by simp [tbL]
theorem trow_len {v : Tx} {f : Nat → Nat → PV} {a : Nat} : (trow v f a).length = v.length + 1 := by simp [trow]
theorem tbL_get {u v : Tx} {f : Nat → Nat → PV} {a : Nat} (h : a ≤ u.length) : (tbL u v f)[a]? = some (.lst (trow v f a)) := by
  unfold tbL trow
  rw [List.getElem?_map, List.getElem?_range (by omega)]; rfl
theorem tbL_at {u v : Tx} {f : Nat → Nat → PV} {a : Nat} (h : a ≤ u.length) : atI (tbL u v f) (a : Int) = some (.lst (trow v f a)) := by
  have := tbL_get (v := v) (f := f) h
  rw [atI_nat (by rw [tbL_len]; omega), ← List.getElem?_eq_getElem (by rw [tbL_len]; omega), this]
theorem trow_at {v : Tx} {f : Nat → Nat → PV} {a b : Nat} (h : b ≤ v.length) : atI (trow v f a) (b : Int) = some (f a b) := by
  rw [atI_nat (by rw [trow_len]; omega)]; simp [trow]
theorem tb_set {u v : Tx} {f : Nat → Nat → PV} {a b : Nat} {x : PV} : (tbL u v f).set a (.lst ((trow v f a).set b x)) = tbL u v fun a' b' => if a' = a ∧ b' = b then x else f a' b' := by
  apply List.ext_getElem?
  intro j
  unfold tbL
  rw [List.getElem?_set]
  simp only [List.length_map, List.length_range, List.getElem?_map]
  by_cases h : a = j
  · subst h
    rw [if_pos rfl]
    by_cases hl : a < u.length + 1
    · rw [if_pos hl, List.getElem?_range hl]
      simp only [Option.map_some, Option.some.injEq, PV.lst.injEq]
      apply List.ext_getElem?
      intro i
      unfold trow
      rw [List.getElem?_set]
      simp only [List.length_map, List.length_range, List.getElem?_map]
      by_cases hi : b = i
      · subst hi
        by_cases hil : b < v.length + 1
        · simp [hil]
        · simp [hil]
      · rw [if_neg hi]
        by_cases hil : i < v.length + 1
        · simp [hil, Ne.symm hi]
        · simp [hil]
    · rw [if_neg hl, List.getElem?_eq_none (by simp; omega)]; rfl
  · rw [if_neg h]
    by_cases hl : j < u.length + 1
    · rw [List.getElem?_range hl]
      simp only [Option.map_some, Ne.symm h, false_and, if_false]
    · rw [List.getElem?_eq_none (by simp; omega)]; rfl
section
variable {tp : Nat → Stmt} {k : Nat}
theorem grid_ok {u v : Tx} (hu : u.length < 1000) (hv : v.length < 1000) : (Tk tp (k + 1)).sem "_law_grid" [.shr (.str u), .shr (.str v), .shr (.bl true)] = some (.own, .lst (tabD u v (u.length + 1)), [.un, .un, .un]) := by
  rw [tk_sem, lk__law_grid, ← W.eq]
  refine runF_W rfl ?_
  simp only [e__law_grid, List.length_cons, List.length_nil, Nat.reduceAdd, Nat.reduceSub, List.replicate, List.cons_append, List.nil_append]
  unfold f__law_grid
  have b1 : bd62 ((u.length : Int) + 1) = true := bd62_lit ⟨by omega, by omega⟩
  have b2 : bd62 ((v.length : Int) + 1) = true := bd62_lit ⟨by omega, by omega⟩
  have e1 : ((u.length : Int) + 1).toNat = u.length + 1 := by omega
  have e2 : ((v.length : Int) + 1).toNat = v.length + 1 := by omega
  have hcl : cells u v ≤ 1000 * 1000 := Nat.mul_le_mul (by omega) (by omega)
  have hc1 : 1 ≤ cells u v := Nat.mul_le_mul (show 1 ≤ u.length + 1 by omega) (show 1 ≤ v.length + 1 by omega)
  refine W_seqE (τ1 := [.shr (.str u), .shr (.str v), .shr (.bl true), .own (.lst (tbL u v (tbF u v 0 []))), .un, .un, .un, .un, .un, .un]) (by
    have e3 : eComp (iRg1 (eBin gAdd (eCB (g1 gLen) [(eVar 0)]) (eC (.int 1)))) [8] (gN 8) tYesC (eComp (iRg1 (eBin gAdd (eCB (g1 gLen) [(eVar 1)]) (eC (.int 1)))) [9] (gN 9) tYesC (eC .non)) [.shr (.str u), .shr (.str v), .shr (.bl true), .un, .un, .un, .un, .un, .un, .un] = some (.own, .lst (tbL u v fun _ _ => .non)) := by
      rw [← W.eq]
      refine W_compA (fun _ => .lst (trow v (fun _ _ => .non) 0)) ?_
      simp -dsimp -implicitDefEqProofs [b1, e1]
      refine ⟨by omega, fun t ht => ?_, ?_⟩
      · obtain ⟨i, hi⟩ := List.mem_iff_getElem?.mp ht
        obtain ⟨hlt, rfl⟩ := rgL_get hi
        simp -dsimp -implicitDefEqProofs
        refine W_compA (fun _ => .non) ?_
        simp -dsimp -implicitDefEqProofs [b2, e2]
        refine ⟨by omega, ?_, ?_⟩
        · intro t ht
          obtain ⟨i, hi⟩ := List.mem_iff_getElem?.mp ht
          obtain ⟨hlt, rfl⟩ := rgL_get hi
          simp -dsimp -implicitDefEqProofs
        · unfold rgL trow; rw [List.map_map]; rfl
      · unfold rgL tbL; rw [List.map_map]; rfl
    have e4 : tbL u v (tbF u v 0 []) = tbL u v fun _ _ => .non := tbL_congr fun a b _ _ => by unfold tbF; simp
    rw [e4, ← W.eq]; simp -dsimp -implicitDefEqProofs [e3]) ?_
  refine W_seqE (τ1 := [.shr (.str u), .shr (.str v), .shr (.bl true), .own (.lst (tbL u v (tbF u v 0 []))), .own (.lst (pL [(0, 0)])), .un, .un, .un, .un, .un]) (by
    rw [← W.eq]; simp -dsimp -implicitDefEqProofs [pL, kds]) ?_
  obtain ⟨I, hI⟩ : ∃ I : Nat → En → Prop, ∀ t τ, I t τ ↔ ∃ (L : List Pr) (s5 s6 s7 s8 s9 : Sl), τ = [.shr (.str u), .shr (.str v), .shr (.bl true), .own (.lst (tbL u v (tbF u v t []))), .own (.lst (pL L)), s5, s6, s7, s8, s9] ∧ nio s5 = true ∧ nio s6 = true ∧ nio s7 = true ∧ nio s8 = true ∧ nio s9 = true ∧ Lay u v t L := ⟨_, fun _ _ => Iff.rfl⟩
  have lay0 : Lay u v 0 [(0, 0)] := ⟨fun p hp => by rw [List.mem_singleton.mp hp]; exact ⟨⟨Nat.zero_le _, Nat.zero_le _⟩, Nat.le_of_eq dD_0⟩, fun _ => List.mem_singleton.mpr rfl, fun q p _ _ h => absurd h (Nat.succ_ne_zero _), by simp; omega⟩
  refine W_seq (I (u.length + v.length + 1)) ?_ fun τ hτ => ?_
  · have b3 : bd62 ((u.length : Int) + v.length + 1) = true := bd62_lit ⟨by omega, by omega⟩
    have e3 : ((u.length : Int) + v.length + 1).toNat = u.length + v.length + 1 := by omega
    rw [sFor_ap, W_bind]
    refine W.mono (R := fun r => r = (.shr, rgL 0 (u.length + v.length + 1))) (by simp -dsimp -implicitDefEqProofs [b3, e3]) fun r hr => ?_
    subst hr
    simp only [reduceCtorEq, if_false]
    refine W_forL I ((hI _ _).mpr ⟨[(0, 0)], .un, .un, .un, .un, .un, rfl, rfl, rfl, rfl, rfl, rfl, lay0⟩) (fun t tv τ ht hi => ?_) fun τ hi => ⟨rfl, by rw [rgL_length] at hi; exact hi⟩
    obtain ⟨L0, s5, s6, s7, s8, s9, rfl, n5, n6, n7, n8, n9, hlay⟩ := (hI _ _).mp hi
    obtain ⟨hlt, rfl⟩ := rgL_get ht
    refine W.mono (R := fun τ1 => τ1 = [.shr (.str u), .shr (.str v), .shr (.bl true), .own (.lst (tbL u v (tbF u v t []))), .own (.lst (pL L0)), .own (.int (t : Nat)), s6, s7, s8, s9]) (by simp -dsimp -implicitDefEqProofs [n5]) fun τ1 h1 => ?_
    subst h1
    refine W_seqE (τ1 := [.shr (.str u), .shr (.str v), .shr (.bl true), .own (.lst (tbL u v (tbF u v t []))), .own (.lst (pL L0)), .own (.int (t : Nat)), .own (.lst (pL [])), s7, s8, s9]) (by
      rw [← W.eq]; simp -dsimp -implicitDefEqProofs [n6, pL]) ?_
    obtain ⟨J, hJ⟩ : ∃ J : Nat → En → Prop, ∀ k τ, J k τ ↔ ∃ (L M S : List Pr) (s7 s8 s9 : Sl), τ = [.shr (.str u), .shr (.str v), .shr (.bl true), .own (.lst (tbL u v (tbF u v t S))), .own (.lst (pL L)), .own (.int (t : Nat)), .own (.lst (pL M)), s7, s8, s9] ∧ nio s7 = true ∧ nio s8 = true ∧ nio s9 = true ∧ Rnd u v t L0 k L M S := ⟨_, fun _ _ => Iff.rfl⟩
    obtain ⟨E, hE⟩ : ∃ E : En → Prop, ∀ τ, E τ ↔ ∃ (k : Nat) (L M S : List Pr) (s7 s8 s9 : Sl), τ = [.shr (.str u), .shr (.str v), .shr (.bl true), .own (.lst (tbL u v (tbF u v t S))), .own (.lst (pL L)), .own (.int (t : Nat)), .own (.lst (pL M)), s7, s8, s9] ∧ nio s7 = true ∧ nio s8 = true ∧ nio s9 = true ∧ Rnd u v t L0 k L M S ∧ L.length ≤ k := ⟨_, fun _ => Iff.rfl⟩
    refine W_seq E ?_ fun τ hτ => ?_
    · have e4 : 4 * ((u.length : Int) + 1) * ((v.length : Int) + 1) = ((4 * cells u v : Nat) : Int) := by
        unfold cells
        rw [Int.natCast_mul, Int.natCast_mul, Int.natCast_add, Int.natCast_add, Int.mul_assoc]; rfl
      have m1 : mulOk 4 ((u.length : Int) + 1) = true := mulOk_l ⟨by omega, by omega⟩
      have m2 : mulOk (4 * ((u.length : Int) + 1)) ((v.length : Int) + 1) = true := mulOk_r ⟨by omega, by omega⟩
      obtain ⟨N4, hN4⟩ : ∃ N4, 4 * cells u v = N4 := ⟨_, rfl⟩
      rw [hN4] at e4
      have b4 : bd62 (N4 : Int) = true := bd62_lit ⟨by omega, by omega⟩
      rw [sFor_ap, W_bind]
      refine W.mono (R := fun r => r = (.shr, rgL 0 N4)) (by simp -dsimp -implicitDefEqProofs [m1, m2, e4, b4]) fun r hr => ?_
      subst hr
      simp only [reduceCtorEq, if_false]
      refine W_forL J ((hJ _ _).mpr ⟨L0, [], [], s7, s8, s9, rfl, n7, n8, n9, hlay.rnd⟩) (fun k kv τ ht hj => ?_) fun τ hj => ?_
      · obtain ⟨L, M, S, s7, s8, s9, rfl, n7, n8, n9, hr⟩ := (hJ _ _).mp hj
        obtain ⟨hlt2, rfl⟩ := rgL_get ht
        refine W.mono (R := fun τ1 => τ1 = [.shr (.str u), .shr (.str v), .shr (.bl true), .own (.lst (tbL u v (tbF u v t S))), .own (.lst (pL L)), .own (.int (t : Nat)), .own (.lst (pL M)), .own (.int (k : Nat)), s8, s9]) (by simp -dsimp -implicitDefEqProofs [n7]) fun τ1 h1 => ?_
        subst h1
        by_cases hk : L.length ≤ k
        · have hkI : (L.length : Int) ≤ k := by omega
          simp -dsimp -implicitDefEqProofs [pL_len, hk, hkI]
          exact (hE _).mpr ⟨k, L, M, S, .own (.int (k : Nat)), s8, s9, rfl, rfl, n8, n9, hr, hk⟩
        · have hkI : ¬ ((L.length : Int) ≤ k) := by omega
          have hkl : k < L.length := by omega
          refine W_seqE (τ1 := [.shr (.str u), .shr (.str v), .shr (.bl true), .own (.lst (tbL u v (tbF u v t S))), .own (.lst (pL L)), .own (.int (t : Nat)), .own (.lst (pL M)), .own (.int (k : Nat)), s8, s9]) (by
            rw [← W.eq]; simp -dsimp -implicitDefEqProofs [pL_len, hk, hkI]) ?_
          obtain ⟨p, hp⟩ : ∃ p, L[k] = p := ⟨_, rfl⟩
          obtain ⟨a, b⟩ := p
          have hpb := hr.b L[k] (List.getElem_mem hkl)
          have sk := hr.skip hkl
          have ad := hr.add hkl
          rw [hp] at hpb sk ad
          obtain ⟨⟨ha, hb⟩, hd⟩ := hpb
          have ha : a ≤ u.length := ha
          have hb : b ≤ v.length := hb
          have hd : dD u v a b ≤ t := hd
          have ap : atI (pL L) (k : Int) = some (.tup [.int (a : Nat), .int (b : Nat)]) := by
            rw [atI_nat (by rw [pL_len]; exact hkl)]
            simp [pL, hp]
          refine W_seqE (τ1 := [.shr (.str u), .shr (.str v), .shr (.bl true), .own (.lst (tbL u v (tbF u v t S))), .own (.lst (pL L)), .own (.int (t : Nat)), .own (.lst (pL M)), .own (.int (k : Nat)), .own (.int (a : Nat)), .own (.int (b : Nat))]) (by
            rw [← W.eq]; simp -dsimp -implicitDefEqProofs [ap, n8, n9]) ?_
          have at1 := tbL_at (u := u) (v := v) (f := tbF u v t S) ha
          have at2 := trow_at (v := v) (f := tbF u v t S) (a := a) hb
          have i1 : ∀ x, isSc (.int x) .non = some false := fun _ => rfl
          have i2 : isSc .non .non = some true := rfl
          by_cases hset : dD u v a b < t ∨ (a, b) ∈ S
          · have et : tbF u v t S a b = .int (dD u v a b : Nat) := by unfold tbF; rw [if_pos hset]
            rw [et] at at2
            simp -dsimp -implicitDefEqProofs [at1, at2, i1]
            refine (hJ _ _).mpr ⟨L, M, S, .own (.int (k : Nat)), .own (.int (a : Nat)), .own (.int (b : Nat)), rfl, rfl, rfl, rfl, sk fun e => ?_⟩
            have e : dD u v a b = t := e
            rcases hset with z | z
            · omega
            · exact z
          · have et : tbF u v t S a b = .non := by unfold tbF; rw [if_neg hset]
            rw [et] at at2
            have hnS : (a, b) ∉ S := fun z => hset (.inr z)
            have hdt : dD u v a b = t := by
              have : ¬ dD u v a b < t := fun z => hset (.inl z)
              omega
            have ad := ad hdt hnS
            have hlen := ad.len hlay
            rw [sIf_ap, W_bind]
            refine W.mono (R := fun b => b = true) (by simp -dsimp -implicitDefEqProofs [at1, at2, i2]) fun bb hbb => ?_
            subst hbb
            simp only [if_true]
            have ixa : ixN (u.length + 1) (a : Int) = some a := ixN_nat (by omega)
            have ixb : ixN (v.length + 1) (b : Int) = some b := ixN_nat (by omega)
            have gt := tbL_get (u := u) (v := v) (f := tbF u v t S) ha
            have tset : (tbL u v (tbF u v t S)).set a (.lst ((trow v (tbF u v t S) a).set b (.int (t : Nat)))) = tbL u v (tbF u v t ((a, b) :: S)) := by
              rw [tb_set]
              refine tbL_congr fun a' b' _ _ => ?_
              unfold tbF
              by_cases hab : a' = a ∧ b' = b
              · obtain ⟨rfl, rfl⟩ := hab
                rw [if_pos ⟨rfl, rfl⟩, if_pos (.inr List.mem_cons_self), hdt]
              · rw [if_neg hab]
                have : ((a', b') ∈ (a, b) :: S) ↔ (a', b') ∈ S := by
                  rw [List.mem_cons]
                  refine ⟨fun z => z.elim (fun z => absurd ⟨congrArg Prod.fst z, congrArg Prod.snd z⟩ hab) id, .inr⟩
                by_cases h : dD u v a' b' < t ∨ (a', b') ∈ S
                · rw [if_pos h, if_pos (h.imp id this.mpr)]
                · rw [if_neg h, if_neg fun z => h (z.imp id this.mp)]
            refine W_seqE (τ1 := [.shr (.str u), .shr (.str v), .shr (.bl true), .own (.lst (tbL u v (tbF u v t ((a, b) :: S)))), .own (.lst (pL L)), .own (.int (t : Nat)), .own (.lst (pL M)), .own (.int (k : Nat)), .own (.int (a : Nat)), .own (.int (b : Nat))]) (by
              rw [← W.eq]; simp -dsimp -implicitDefEqProofs [tbL_len, trow_len, ixa, ixb, gt, tset]) ?_
            have fin : J (k + 1) [.shr (.str u), .shr (.str v), .shr (.bl true), .own (.lst (tbL u v (tbF u v t ((a, b) :: S)))), .own (.lst (pL L ++ pL (ad0 u v (a, b)))), .own (.int (t : Nat)), .own (.lst (pL M ++ pL (ad1 u v (a, b)))), .own (.int (k : Nat)), .own (.int (a : Nat)), .own (.int (b : Nat))] :=
              (hJ _ _).mpr ⟨_, _, _, .own (.int (k : Nat)), .own (.int (a : Nat)), .own (.int (b : Nat)), by rw [pL_app, pL_app], rfl, rfl, rfl, ad⟩
            rw [List.length_append, List.length_append] at hlen
            have hz1 : (pL L).length < 16777216 := by rw [pL_len]; omega
            have hz2 : (pL M).length < 16777216 := by rw [pL_len]; omega
            have hz3 : (pL M).length + 1 < 16777216 := by rw [pL_len]; omega
            have hz4 : (pL M).length + 2 < 16777216 := by rw [pL_len]; omega
            have hz5 : (pL M).length + 1 + 1 < 16777216 := by rw [pL_len]; omega
            have ca : ((a + 1 : Nat) : Int) = (a : Int) + 1 := by omega
            have cb : ((b + 1 : Nat) : Int) = (b : Int) + 1 := by omega
            by_cases h1 : a < u.length
            · have h1I : (a : Int) < u.length := by omega
              have g1 : atI u (a : Int) = some u[a] := atI_nat h1
              have ge1 : u[a]? = some u[a] := List.getElem?_eq_getElem h1
              by_cases h2 : b < v.length
              · have h2I : (b : Int) < v.length := by omega
                have g2 : atI v (b : Int) = some v[b] := atI_nat h2
                have ge2 : v[b]? = some v[b] := List.getElem?_eq_getElem h2
                obtain ⟨c, hc⟩ : ∃ c, u[a] = c := ⟨_, rfl⟩
                obtain ⟨d, hd2⟩ : ∃ d, v[b] = d := ⟨_, rfl⟩
                rw [hc] at g1 ge1
                rw [hd2] at g2 ge2
                by_cases h3 : c = d
                · subst h3
                  simp only [ad0, ad1, h1, h2, ge1, ge2, pL, List.map_cons, List.map_nil, ca, cb, if_true, true_and, ne_eq, not_true_eq_false, and_false, if_false, List.nil_append, List.map_append] at fin
                  simp -dsimp -implicitDefEqProofs [h1, h2, h1I, h2I, g1, g2, hz1, hz2, hz3, hz4, hz5]
                  simpa [pL] using fin
                · have h3' : ¬ (some c = some d) := fun z => h3 (Option.some.inj z)
                  simp only [ad0, ad1, h1, h2, ge1, ge2, h3', pL, List.map_cons, List.map_nil, ca, cb, if_true, true_and, ne_eq, not_false_eq_true, and_false, if_false, List.append_nil, List.map_append] at fin
                  simp -dsimp -implicitDefEqProofs [h1, h2, h1I, h2I, g1, g2, h3, hz1, hz2, hz3, hz4, hz5]
                  simpa [pL] using fin
              · have h2I : ¬ ((b : Int) < v.length) := by omega
                simp only [ad0, ad1, h1, h2, pL, List.map_cons, List.map_nil, ca, cb, if_true, false_and, and_false, if_false, List.nil_append, List.append_nil, List.map_append] at fin
                simp -dsimp -implicitDefEqProofs [h1, h2, h1I, h2I, hz1, hz2, hz3, hz4, hz5]
                simpa [pL] using fin
            · have h1I : ¬ ((a : Int) < u.length) := by omega
              by_cases h2 : b < v.length
              · have h2I : (b : Int) < v.length := by omega
                simp only [ad0, ad1, h1, h2, pL, List.map_cons, List.map_nil, ca, cb, if_true, false_and, and_false, if_false, List.nil_append, List.append_nil, List.map_append] at fin
                simp -dsimp -implicitDefEqProofs [h1, h2, h1I, h2I, hz1, hz2, hz3, hz4, hz5]
                simpa [pL] using fin
              · have h2I : ¬ ((b : Int) < v.length) := by omega
                simp only [ad0, ad1, h1, h2, pL, List.map_nil, false_and, and_false, if_false, List.append_nil] at fin
                simp -dsimp -implicitDefEqProofs [h1, h2, h1I, h2I]
                simpa [pL] using fin
      · obtain ⟨L, M, S, s7, s8, s9, rfl, n7, n8, n9, hr⟩ := (hJ _ _).mp hj
        rw [rgL_length] at hr
        refine ⟨rfl, (hE _).mpr ⟨N4, L, M, S, s7, s8, s9, rfl, n7, n8, n9, hr, ?_⟩⟩
        have := (hr.len hlay).1
        omega
    · obtain ⟨kk, L, M, S, s7, s8, s9, rfl, n7, n8, n9, hr, hk⟩ := (hE _).mp hτ
      have et : tbL u v (tbF u v t S) = tbL u v (tbF u v (t + 1) []) := tbL_congr fun a b ha hb => by
        unfold tbF
        have : (dD u v a b < t ∨ (a, b) ∈ S) ↔ (dD u v a b < t + 1 ∨ (a, b) ∈ ([] : List Pr)) := by
          constructor
          · rintro (z | z)
            · exact .inl (by omega)
            · have := (hr.s _ z).2
              have : dD u v a b = t := this
              exact .inl (by omega)
          · rintro (z | z)
            · by_cases e : dD u v a b = t
              · exact .inr (hr.all hlay hk _ (a, b) (Nat.le_refl _) ⟨ha, hb⟩ e)
              · exact .inl (by omega)
            · exact absurd z List.not_mem_nil
        by_cases h : dD u v a b < t ∨ (a, b) ∈ S
        · rw [if_pos h, if_pos (this.mp h)]
        · rw [if_neg h, if_neg fun z => h (this.mpr z)]
      simp -dsimp -implicitDefEqProofs
      exact (hI _ _).mpr ⟨M, .own (.int (t : Nat)), .un, s7, s8, s9, by rw [et], rfl, rfl, n7, n8, n9, hr.next hlay hk⟩
  · obtain ⟨L0, s5, s6, s7, s8, s9, rfl, n5, n6, n7, n8, n9, hlay⟩ := (hI _ _).mp hτ
    have et : tbL u v (tbF u v (u.length + v.length + 1) []) = tabD u v (u.length + 1) := by
      unfold tbL tabD
      refine List.map_congr_left fun a ha => ?_
      have ha := List.mem_range.mp ha
      refine congrArg PV.lst ?_
      unfold rowD
      refine List.map_congr_left fun b hb => ?_
      have hb := List.mem_range.mp hb
      have := dD_le (u := u) (v := v) a b
      unfold tbF
      rw [if_pos (.inl (by omega))]
    rw [et]
    simp -dsimp -implicitDefEqProofs
/-! ### what the law draws -/
theorem word2_ok {b : PV} {ls : Tx} {most : Nat} (hb : BoxOk b) (hls : ls ≠ []) (hm : most ≤ 1000) :
    ∃ s b', s.length ≤ most ∧ (∀ c ∈ s, c ∈ ls) ∧ BoxOk b' ∧ (Tk tp (k + 3)).sem "_law_word" [.io b, .shr (.str ls), .shr (.int most)] = some (.own, .str s, [.io b', .un, .un]) := by
  obtain ⟨F, hF⟩ : ∃ F : Kd × PV × List Sl → Prop, ∀ r, F r ↔ ∃ s b', s.length ≤ most ∧ (∀ c ∈ s, c ∈ ls) ∧ BoxOk b' ∧ r = (.own, .str s, [.io b', .un, .un]) := ⟨_, fun _ => Iff.rfl⟩
  suffices h : W ((Tk tp (k + 3)).sem "_law_word" [.io b, .shr (.str ls), .shr (.int most)]) F by
    obtain ⟨r, e, h⟩ := h
    obtain ⟨s, b', h1, h2, h3, er⟩ := (hF r).mp h
    exact ⟨s, b', h1, h2, h3, by rw [e, er]⟩
  have hdr : DrawOk (Tk tp (k + 2)) := drawT (k := k + 1)
  have hpk : PickOk (Tk tp (k + 2)) := pickT (k := k)
  obtain ⟨n', b1, hn0, hn1, hb1, en⟩ := hdr b ((most : Int) + 1) hb (by omega)
  obtain ⟨n, rfl⟩ : ∃ n : Nat, n' = n := ⟨n'.toNat, by omega⟩
  obtain ⟨q', b2, hq0, hq1, hb2, eq⟩ := hdr b1 5 hb1 (by omega)
  obtain ⟨q, rfl⟩ : ∃ n : Nat, q' = n := ⟨q'.toNat, by omega⟩
  rw [tk_sem, lk__law_word]
  refine runF_W rfl ?_
  simp only [e__law_word, List.length_cons, List.length_nil, Nat.reduceAdd, Nat.reduceSub, List.replicate, List.cons_append, List.nil_append]
  unfold f__law_word
  refine W_seqE (τ1 := [.io b1, .shr (.str ls), .shr (.int most), .own (.int (n : Nat)), .un, .un, .un, .un]) (by rw [← W.eq]; simp -dsimp -implicitDefEqProofs [en]) ?_
  refine W_seqE (τ1 := [.io b2, .shr (.str ls), .shr (.int most), .own (.int (n : Nat)), .own (.int (q : Nat)), .un, .un, .un]) (by rw [← W.eq]; simp -dsimp -implicitDefEqProofs [eq]) ?_
  refine W_seq (fun τ => ∃ w b3, τ = [.io b3, .shr (.str ls), .shr (.int most), .own (.int (n : Nat)), .own (.int (q : Nat)), .own (.str w), .un, .un] ∧ BoxOk b3 ∧ w.length = n ∧ ∀ c ∈ w, c ∈ ls) ?_ fun τ hτ => ?_
  · have bm : bd62 (n : Int) = true := bd62_lit ⟨by omega, by omega⟩
    simp -dsimp -implicitDefEqProofs
    obtain ⟨I, hI⟩ : ∃ I : En → Prop, ∀ τ, I τ ↔ ∃ b, τ = [.io b, .shr (.str ls), .shr (.int most), .own (.int (n : Nat)), .own (.int (q : Nat)), .un, .un, .un] ∧ BoxOk b := ⟨_, fun _ => Iff.rfl⟩
    refine W_compM I (fun _ r => ∃ c, r = PV.str [c] ∧ c ∈ ls) ?_
    simp -dsimp -implicitDefEqProofs [bm]
    refine ⟨by omega, (hI _).mpr ⟨_, rfl, hb2⟩, fun t ht τ hτ => ?_, fun rs τ' hal hτ => ?_⟩
    · obtain ⟨b, rfl, hb⟩ := (hI _).mp hτ
      obtain ⟨c, b', hc, hb', ep⟩ := hpk b ls hb hls
      obtain ⟨j, hj⟩ := List.mem_iff_getElem?.mp ht
      obtain ⟨_, rfl⟩ := rgL_get hj
      simp -dsimp -implicitDefEqProofs [ep]
      exact ⟨hc, (hI _).mpr ⟨_, rfl, hb'⟩⟩
    · obtain ⟨b, rfl, hb⟩ := (hI _).mp hτ
      obtain ⟨s, rfl, hl, hs⟩ := letters_of hal
      have hlen : s.length = n := by rw [hl, rgL_length]
      have ej := gJoin_letters (s := s) (by omega)
      simp -dsimp -implicitDefEqProofs [ej]
      exact ⟨s, b, ⟨rfl, rfl⟩, hb, hlen, hs⟩
  obtain ⟨w, b3, rfl, hb3, hwl, hws⟩ := hτ
  have fin : ∀ s, s.length ≤ n → (∀ c ∈ s, c ∈ w) → F (.own, .str s, [.io b3, .un, .un]) := fun s h2 h3 => (hF _).mpr ⟨s, b3, by omega, fun c hc => hws c (h3 c hc), hb3, rfl⟩
  by_cases h : q < 3 ∨ n = 0
  · by_cases h1 : q < 3
    · have h1' : (q : Int) < 3 := by omega
      simp -dsimp -implicitDefEqProofs [h1, h1']
      exact fin _ (by omega) fun _ z => z
    · have h1' : ¬ ((q : Int) < 3) := by omega
      have h2 : n = 0 := h.resolve_left h1
      subst h2
      simp -dsimp -implicitDefEqProofs [h1, h1']
      exact fin _ (by omega) fun _ z => z
  · have h1 : ¬ q < 3 := fun z => h (.inl z)
    have h2 : ¬ n = 0 := fun z => h (.inr z)
    have h1' : ¬ ((q : Int) < 3) := by omega
    have h2' : ¬ ((n : Int) = 0) := by omega
    have c1 : cutL w none (some (1 + (n : Int) / 3)) = w.take (1 + n / 3) := by rw [show 1 + (n : Int) / 3 = ((1 + n / 3 : Nat) : Int) by omega]; exact cutL_n0
    have tl : (w.take (1 + n / 3)).length ≤ n := by rw [List.length_take]; omega
    have eM := gMul_str (s := w.take (1 + n / 3)) (n := n) (by have : (w.take (1 + n / 3)).length * n ≤ 1000 * 1000 := Nat.mul_le_mul (by omega) (by omega); omega) (by omega)
    have ec : cutL (repT (w.take (1 + n / 3)) n) none (some (n : Int)) = (repT (w.take (1 + n / 3)) n).take n := cutL_n0
    refine W_seqE (τ1 := [.io b3, .shr (.str ls), .shr (.int most), .own (.int (n : Nat)), .own (.int (q : Nat)), .own (.str w), .un, .un]) (by rw [← W.eq]; simp -dsimp -implicitDefEqProofs [h1, h1', h2, h2']) ?_
    refine W_seqE (τ1 := [.io b3, .shr (.str ls), .shr (.int most), .own (.int (n : Nat)), .own (.int (q : Nat)), .own (.str w), .own (.str (w.take (1 + n / 3))), .un]) (by rw [← W.eq]; simp -dsimp -implicitDefEqProofs [c1]) ?_
    simp -dsimp -implicitDefEqProofs [eM, ec]
    exact fin _ (by rw [List.length_take]; omega) fun c hc => List.mem_of_mem_take (repT_mem (List.mem_of_mem_take hc))
theorem bent_ok {b : PV} {w ls : Tx} (hb : BoxOk b) (hls : ls ≠ []) (hw : w.length < 900) (hwl : ∀ c ∈ w, c ∈ ls) :
    ∃ s b', s.length ≤ w.length + 7 ∧ (∀ c ∈ s, c ∈ ls) ∧ BoxOk b' ∧ (Tk tp (k + 4)).sem "_law_bent" [.io b, .shr (.str w), .shr (.str ls)] = some (.own, .str s, [.io b', .un, .un]) := by
  obtain ⟨F, hF⟩ : ∃ F : Kd × PV × List Sl → Prop, ∀ r, F r ↔ ∃ s b', s.length ≤ w.length + 7 ∧ (∀ c ∈ s, c ∈ ls) ∧ BoxOk b' ∧ r = (.own, .str s, [.io b', .un, .un]) := ⟨_, fun _ => Iff.rfl⟩
  suffices h : W ((Tk tp (k + 4)).sem "_law_bent" [.io b, .shr (.str w), .shr (.str ls)]) F by
    obtain ⟨r, e, h⟩ := h
    obtain ⟨s, b', h1, h2, h3, er⟩ := (hF r).mp h
    exact ⟨s, b', h1, h2, h3, by rw [e, er]⟩
  have hdr : DrawOk (Tk tp (k + 3)) := drawT (k := k + 2)
  have hpk : PickOk (Tk tp (k + 3)) := pickT (k := k + 1)
  obtain ⟨q', b1, hq0, hq1, hb1, eq⟩ := hdr b 9 hb (by omega)
  obtain ⟨q, rfl⟩ : ∃ n : Nat, q' = n := ⟨q'.toNat, by omega⟩
  obtain ⟨x', b2, hx0, hx1, hb2, ex⟩ := hdr b1 1000 hb1 (by omega)
  obtain ⟨x, rfl⟩ : ∃ n : Nat, x' = n := ⟨x'.toNat, by omega⟩
  obtain ⟨c, b3, hc, hb3, ec⟩ := hpk b2 ls hb2 hls
  rw [tk_sem, lk__law_bent]
  refine runF_W rfl ?_
  simp only [e__law_bent, List.length_cons, List.length_nil, Nat.reduceAdd, Nat.reduceSub, List.replicate, List.cons_append, List.nil_append]
  unfold f__law_bent
  obtain ⟨a, ha⟩ : ∃ a : Nat, (x : Int) % ((w.length : Int) + 1) = a := ⟨((x : Int) % ((w.length : Int) + 1)).toNat, by have := Int.emod_nonneg (x : Int) (show (w.length : Int) + 1 ≠ 0 by omega); omega⟩
  have hal : a ≤ w.length := by have := Int.emod_lt_of_pos (x : Int) (show (0 : Int) < (w.length : Int) + 1 by omega); omega
  have m0 : 0 < (w.length : Int) + 1 ∧ (w.length : Int) + 1 < 2 ^ 64 := by omega
  have g1 : gInt (.int (x : Int)) = some (.own, .int (x : Int)) := rfl
  refine W_seqE (τ1 := [.io b1, .shr (.str w), .shr (.str ls), .own (.int (q : Nat)), .un, .un]) (by rw [← W.eq]; simp -dsimp -implicitDefEqProofs [eq]) ?_
  have hp0 : 0 < (w.length : Int) + 1 := m0.1
  refine W_seqE (τ1 := [.io b2, .shr (.str w), .shr (.str ls), .own (.int (q : Nat)), .own (.int (a : Nat)), .un]) (by rw [← W.eq]; simp -dsimp -implicitDefEqProofs [ex, g1, ha, hp0]) ?_
  refine W_seqE (τ1 := [.io b3, .shr (.str w), .shr (.str ls), .own (.int (q : Nat)), .own (.int (a : Nat)), .own (.str [c])]) (by rw [← W.eq]; simp -dsimp -implicitDefEqProofs [ec]) ?_
  have c1 : cutL w none (some (a : Int)) = w.take a := cutL_n0
  have c2 : cutL w (some ((a : Int) + 1)) none = w.drop (a + 1) := by rw [show (a : Int) + 1 = ((a + 1 : Nat) : Int) by omega]; exact cutL_0n
  have c3 : cutL w (some (a : Int)) none = w.drop a := cutL_0n
  have c4 : cutL w (some ((a : Int) + 2)) none = w.drop (a + 2) := by rw [show (a : Int) + 2 = ((a + 2 : Nat) : Int) by omega]; exact cutL_0n
  have c5 : cutL w (some 1) none = w.drop 1 := cutL_0n (a := 1)
  have fin : ∀ s, s.length ≤ w.length + 7 → (∀ d ∈ s, d = c ∨ d ∈ w) → F (.own, .str s, [.io b3, .un, .un]) := fun s h2 h3 => (hF _).mpr ⟨s, b3, h2, fun d hd => (h3 d hd).elim (fun z => by rw [z]; exact hc) (hwl d), hb3, rfl⟩
  have T : ∀ {n d}, d ∈ w.take n → d = c ∨ d ∈ w := fun h => .inr (List.mem_of_mem_take h)
  have Dp : ∀ {n d}, d ∈ w.drop n → d = c ∨ d ∈ w := fun h => .inr (List.mem_of_mem_drop h)
  have L1 : min a w.length + 1 ≤ 16777216 := by omega
  have L2 : min a w.length + 1 + (w.length - a) ≤ 16777216 := by omega
  have L3 : min a w.length + (w.length - (a + 1)) ≤ 16777216 := by omega
  have L4 : min a w.length + 1 + (w.length - (a + 1)) ≤ 16777216 := by omega
  have L5 : w.length - a + min a w.length ≤ 16777216 := by omega
  have L6 : min a w.length + 1 + (w.length - (a + 2)) ≤ 16777216 := by omega
  have L7 : min a w.length + 1 + (w.length - (a + 2)) + 1 ≤ 16777216 := by omega
  have L8 : w.length - 1 + 1 ≤ 16777216 := by omega
  by_cases k0 : q = 0
  · subst k0
    simp -dsimp -implicitDefEqProofs
    exact fin _ (by omega) fun _ h => .inr h
  have k0' : ¬ ((q : Int) = 0) := by omega
  refine W_seqE (τ1 := [.io b3, .shr (.str w), .shr (.str ls), .own (.int (q : Nat)), .own (.int (a : Nat)), .own (.str [c])]) (by rw [← W.eq]; simp -dsimp -implicitDefEqProofs [k0, k0']) ?_
  by_cases k1 : q = 1
  · subst k1
    simp -dsimp -implicitDefEqProofs [c1, c3, L1, L2]
    refine fin _ (by simp; omega) fun d h => ?_
    simp only [List.mem_append, List.mem_cons, List.not_mem_nil, or_false] at h
    rcases h with z | z | z
    · exact T z
    · exact .inl z
    · exact Dp z
  have k1' : ¬ ((q : Int) = 1) := by omega
  refine W_seqE (τ1 := [.io b3, .shr (.str w), .shr (.str ls), .own (.int (q : Nat)), .own (.int (a : Nat)), .own (.str [c])]) (by rw [← W.eq]; simp -dsimp -implicitDefEqProofs [k1, k1']) ?_
  by_cases k2 : q = 2
  · subst k2
    simp -dsimp -implicitDefEqProofs [c1, c2, L3]
    refine fin _ (by simp; omega) fun d h => ?_
    rcases List.mem_append.mp h with z | z
    · exact T z
    · exact Dp z
  have k2' : ¬ ((q : Int) = 2) := by omega
  refine W_seqE (τ1 := [.io b3, .shr (.str w), .shr (.str ls), .own (.int (q : Nat)), .own (.int (a : Nat)), .own (.str [c])]) (by rw [← W.eq]; simp -dsimp -implicitDefEqProofs [k2, k2']) ?_
  by_cases k3 : q = 3
  · subst k3
    simp -dsimp -implicitDefEqProofs [c1, c2, L1, L4]
    refine fin _ (by simp; omega) fun d h => ?_
    simp only [List.mem_append, List.mem_cons, List.not_mem_nil, or_false] at h
    rcases h with z | z | z
    · exact T z
    · exact .inl z
    · exact Dp z
  have k3' : ¬ ((q : Int) = 3) := by omega
  refine W_seqE (τ1 := [.io b3, .shr (.str w), .shr (.str ls), .own (.int (q : Nat)), .own (.int (a : Nat)), .own (.str [c])]) (by rw [← W.eq]; simp -dsimp -implicitDefEqProofs [k3, k3']) ?_
  by_cases k4 : q = 4
  · subst k4
    simp -dsimp -implicitDefEqProofs [c1, c3, L5]
    refine fin _ (by simp; omega) fun d h => ?_
    rcases List.mem_append.mp h with z | z
    · exact Dp z
    · exact T z
  have k4' : ¬ ((q : Int) = 4) := by omega
  refine W_seqE (τ1 := [.io b3, .shr (.str w), .shr (.str ls), .own (.int (q : Nat)), .own (.int (a : Nat)), .own (.str [c])]) (by rw [← W.eq]; simp -dsimp -implicitDefEqProofs [k4, k4']) ?_
  by_cases k5 : q = 5
  · subst k5
    simp -dsimp -implicitDefEqProofs
    exact fin _ (by simp) fun d h => .inr (List.mem_reverse.mp h)
  have k5' : ¬ ((q : Int) = 5) := by omega
  refine W_seqE (τ1 := [.io b3, .shr (.str w), .shr (.str ls), .own (.int (q : Nat)), .own (.int (a : Nat)), .own (.str [c])]) (by rw [← W.eq]; simp -dsimp -implicitDefEqProofs [k5, k5']) ?_
  by_cases k6 : q = 6
  · subst k6
    simp -dsimp -implicitDefEqProofs [c1, c4, L1, L6, L7]
    refine ⟨by omega, fin _ (by simp; omega) fun d h => ?_⟩
    simp only [List.mem_append, List.mem_cons, List.not_mem_nil, or_false] at h
    rcases h with z | z | z | z
    · exact T z
    · exact .inl z
    · exact Dp z
    · exact .inl z
  have k6' : ¬ ((q : Int) = 6) := by omega
  refine W_seqE (τ1 := [.io b3, .shr (.str w), .shr (.str ls), .own (.int (q : Nat)), .own (.int (a : Nat)), .own (.str [c])]) (by rw [← W.eq]; simp -dsimp -implicitDefEqProofs [k6, k6']) ?_
  by_cases k7 : q = 7
  · subst k7
    simp -dsimp -implicitDefEqProofs [c5, L8]
    refine fin _ (by simp; omega) fun d h => ?_
    simp only [List.mem_append, List.mem_cons, List.not_mem_nil, or_false] at h
    rcases h with z | z
    · first | exact Dp (n := 1) z | exact .inr (List.mem_of_mem_tail z)
    · exact .inl z
  have k7' : ¬ ((q : Int) = 7) := by omega
  refine W_seqE (τ1 := [.io b3, .shr (.str w), .shr (.str ls), .own (.int (q : Nat)), .own (.int (a : Nat)), .own (.str [c])]) (by rw [← W.eq]; simp -dsimp -implicitDefEqProofs [k7, k7']) ?_
  obtain ⟨s, b4, hs1, hs2, hb4, es⟩ := word2_ok (tp := tp) (k := k) (b := b3) (ls := ls) (most := 7) hb3 hls (by omega)
  have es : (Tk tp (k + 3)).sem "_law_word" [.io b3, .shr (.str ls), .shr (.int 7)] = some (.own, .str s, [.io b4, .un, .un]) := es
  simp -dsimp -implicitDefEqProofs [es]
  exact (hF _).mpr ⟨s, b4, by omega, hs2, hb4, rfl⟩
end
theorem okS_int {i : Int} (h : -(2 ^ 62) < i ∧ i < 2 ^ 62) : okS (.int i) = true := by
  unfold okS
  refine decide_eq_true ?_
  by_cases h0 : i.natAbs = 0
  · rw [h0]; decide
  · have := (Nat.log2_lt h0 (k := 62)).mpr (by omega)
    omega
theorem okSs_all : ∀ {xs : List PV}, (∀ x ∈ xs, okS x = true) → okSs xs = true
  | [], _ => rfl
  | x :: xs, h => by
    simp only [okSs, h x List.mem_cons_self, Bool.true_and]
    exact okSs_all fun y hy => h y (List.mem_cons_of_mem _ hy)
theorem deps_int : ∀ l : List Nat, deps (l.map fun p => PV.int (p : Nat)) = 0
  | [] => rfl
  | x :: l => by simp [deps, dep, deps_int l]
theorem deps_le {d : Nat} : ∀ {xs : List PV}, (∀ x ∈ xs, dep x ≤ d) → deps xs ≤ d
  | [], _ => Nat.zero_le _
  | x :: xs, h => by
    simp only [deps]
    exact Nat.max_le.mpr ⟨h x List.mem_cons_self, deps_le fun y hy => h y (List.mem_cons_of_mem _ hy)⟩
end Pv.k26
namespace Pv.k26
open PySem PySem.Spec L2 Pv

/-! ### plain: steps -/
abbrev cPut : Tx := [112, 117, 116]
abbrev cTake : Tx := [116, 97, 107, 101]
abbrev cChg : Tx := [99, 104, 97, 110, 103, 101]
/-- what stands in a row of steps -/
inductive Sp where
  | t (k : Tx) (p : Int) (l : Tx)
  | a (k : Tx) (p : Int)
  | b (k : Tx) (p : Int) (l : Tx)
  | c (k : Tx)
  | d
def sV : Sp → PV
  | .t k p l => .tup [.str k, .int p, .str l]
  | .a k p => .tup [.str k, .int p]
  | .b k p l => .tup [.str k, .int p, .str l, .str []]
  | .c k => .tup [.str k]
  | .d => .tup []
def sL (l : List Sp) : List PV := l.map sV
theorem sV_imm : ∀ s : Sp, imm (sV s) = true
  | .t _ _ _ => rfl
  | .a _ _ => rfl
  | .b _ _ _ => rfl
  | .c _ => rfl
  | .d => rfl
theorem sL_imms {l : List Sp} : imms (sL l) = true := by
  rw [imms_all]
  exact List.all_eq_true.mpr fun x hx => by
    obtain ⟨s, _, rfl⟩ := List.mem_map.mp hx
    exact sV_imm s
theorem sL_len {l : List Sp} : (sL l).length = l.length := by simp [sL]
theorem sL_app {l m : List Sp} : sL (l ++ m) = sL l ++ sL m := by simp [sL]
abbrev Tr := Tx × Int × Tx
def tS (x : Tr) : Sp := .t x.1 x.2.1 x.2.2
/-- the word behind a step -/
def stF (w : Tx) (x : Tr) : Option Tx :=
  if 0 ≤ x.2.1 ∧ (x.2.1 < w.length ∨ (x.2.1 = w.length ∧ x.1 = cPut)) then some (w.take x.2.1.toNat ++ x.2.2 ++ (if x.1 = cPut then w.drop x.2.1.toNat else w.drop (x.2.1.toNat + 1))) else none
def aft (w : Tx) : List Tr → Option Tx
  | [] => some w
  | x :: r => (stF w x).bind fun w' => aft w' r
theorem aft_app (w : Tx) : ∀ (l m : List Tr), aft w (l ++ m) = (aft w l).bind fun w' => aft w' m := by
  intro l
  induction l generalizing w with
  | nil => intro m; rfl
  | cons x l ih =>
    intro m
    show (stF w x).bind (fun w' => aft w' (l ++ m)) = ((stF w x).bind fun w' => aft w' l).bind fun w' => aft w' m
    cases stF w x with
    | none => rfl
    | some w' => exact ih w' m
def oV : Option Tx → PV
  | none => .non
  | some w => .str w
/-- short letters of these -/
def LtOk (l : Tx) : Prop := l.length ≤ 2 ∧ ∀ c ∈ l, c ∈ lets
theorem stF_len {w w' : Tx} {x : Tr} (h : stF w x = some w') (hl : x.2.2.length ≤ 2) : w'.length ≤ w.length + 2 := by
  unfold stF at h
  split at h
  · cases h
    rename_i hc
    obtain ⟨p, hp⟩ : ∃ p : Nat, x.2.1 = p := ⟨x.2.1.toNat, by omega⟩
    rw [hp]
    simp only [Int.toNat_natCast, List.length_append, List.length_take]
    split
    · rw [List.length_drop]; omega
    · rw [List.length_drop]; omega
  · cases h
theorem stF_mem {w w' : Tx} {x : Tr} (h : stF w x = some w') {c : Nat} (hc : c ∈ w') : c ∈ w ∨ c ∈ x.2.2 := by
  unfold stF at h
  split at h
  · cases h
    rcases List.mem_append.mp hc with z | z
    · rcases List.mem_append.mp z with z | z
      · exact .inl (List.mem_of_mem_take z)
      · exact .inr z
    · split at z
      · exact .inl (List.mem_of_mem_drop z)
      · exact .inl (List.mem_of_mem_drop z)
  · cases h
theorem aft_take {w : Tx} {L : List Tr} {i : Nat} (h : i < L.length) : aft w (L.take (i + 1)) = (aft w (L.take i)).bind fun w' => stF w' L[i] := by
  rw [List.take_succ_eq_append_getElem h, aft_app]
  congr 1
  funext w'
  show (stF w' L[i]).bind (fun w'' => some w'') = _
  cases stF w' L[i] <;> rfl
section
variable {tp : Nat → Stmt} {k : Nat}
theorem after_ok {w : Tx} {L : List Tr} (hw : w.length < 1000) (hL : L.length < 1000) (hl : ∀ x ∈ L, x.2.2.length ≤ 2) : (Tk tp (k + 1)).sem "after_steps" [.shr (.str w), .shr (.lst (sL (L.map tS)))] = some (.own, oV (aft w L), [.un, .un]) := by
  rw [tk_sem, lk_after_steps, ← W.eq]
  refine runF_W rfl ?_
  simp only [e_after_steps, List.length_cons, List.length_nil, Nat.reduceAdd, Nat.reduceSub, List.replicate, List.cons_append, List.nil_append]
  unfold f_after_steps
  obtain ⟨I, hI⟩ : ∃ I : Nat → En → Prop, ∀ i τ, I i τ ↔ ∃ (w' : Tx) (s0 s2 s3 s4 s5 : Sl), τ = [s0, .shr (.lst (sL (L.map tS))), s2, s3, s4, s5] ∧ (s0 = .shr (.str w') ∨ s0 = .own (.str w')) ∧ nio s2 = true ∧ nio s3 = true ∧ nio s4 = true ∧ nio s5 = true ∧ aft w (L.take i) = some w' ∧ w'.length ≤ w.length + 2 * i := ⟨_, fun _ _ => Iff.rfl⟩
  rw [sSeq_ap, W_bind]
  simp -dsimp -implicitDefEqProofs only [sForN_ap, List.getElem?_cons_zero, List.getElem?_cons_succ]
  rw [sFor_ap, W_bind]
  refine W.mono (R := fun r => r = (.shr, sL (L.map tS))) (by simp -dsimp -implicitDefEqProofs) fun r hr => ?_
  subst hr
  simp only [reduceCtorEq, if_false]
  refine W_forL I ((hI _ _).mpr ⟨w, .shr (.str w), .un, .un, .un, .un, rfl, .inl rfl, rfl, rfl, rfl, rfl, rfl, by omega⟩) (fun i t τ ht hi => ?_) fun τ hi => ?_
  · obtain ⟨w', s0, s2, s3, s4, s5, rfl, h0, n2, n3, n4, n5, hA, hwl⟩ := (hI _ _).mp hi
    have hil : i < L.length := by
      have := (List.getElem?_eq_some_iff.mp ht).1
      simpa [sL] using this
    obtain ⟨⟨kd, p, l⟩, hx⟩ : ∃ x, L[i] = x := ⟨_, rfl⟩
    have hll : l.length ≤ 2 := by have := hl _ (List.getElem_mem hil); rw [hx] at this; exact this
    obtain rfl : t = .tup [.str kd, .int p, .str l] := by
      unfold sL at ht
      rw [List.getElem?_map, List.getElem?_map, List.getElem?_eq_getElem hil, hx] at ht
      exact (Option.some.inj ht).symm
    have hst := aft_take (w := w) hil
    rw [hA, hx, Option.bind_some] at hst
    refine W.mono (R := fun τ1 => τ1 = [s0, .shr (.lst (sL (L.map tS))), .own (.str kd), .own (.int p), .own (.str l), s5]) (by simp -dsimp -implicitDefEqProofs [n2, n3, n4]) fun τ1 h1 => ?_
    subst h1
    have v0 : ∀ s1 s2 s3 s4 s5 : Sl, eVar 0 [s0, s1, s2, s3, s4, s5] = some (.own, .str w') ∨ eVar 0 [s0, s1, s2, s3, s4, s5] = some (.shr, .str w') := fun s1 s2 s3 s4 s5 => by
      rcases h0 with rfl | rfl
      · simp -dsimp -implicitDefEqProofs
      · simp -dsimp -implicitDefEqProofs
    have n0 : nio s0 = true := by rcases h0 with rfl | rfl <;> rfl
    have gT : gInt (.bl true) = some (.own, .int 1) := rfl
    have gF : gInt (.bl false) = some (.own, .int 0) := rfl
    have none_ : stF w' (kd, p, l) = none → aft w L = none := fun hn => by
      rw [← List.take_append_drop (i + 1) L, aft_app, hst, hn]; rfl
    by_cases hk : kd = cPut
    · refine W_seqE (τ1 := [s0, .shr (.lst (sL (L.map tS))), .own (.str kd), .own (.int p), .own (.str l), .own (.int ((w'.length : Int) + 1))]) (by
        rw [← W.eq]
        rcases h0 with rfl | rfl <;> simp -dsimp -implicitDefEqProofs [hk, gT, n5]) ?_
      by_cases hp : 0 ≤ p ∧ p < (w'.length : Int) + 1
      · obtain ⟨q, rfl⟩ : ∃ q : Nat, p = q := ⟨p.toNat, by omega⟩
        have hs : stF w' (kd, (q : Int), l) = some (w'.take q ++ l ++ w'.drop q) := by
          unfold stF
          rw [if_pos ⟨by show (0 : Int) ≤ q; omega, by
            show (q : Int) < w'.length ∨ ((q : Int) = w'.length ∧ kd = cPut)
            rcases (show (q : Int) < w'.length ∨ (q : Int) = w'.length by omega) with z | z
            · exact .inl z
            · exact .inr ⟨z, hk⟩⟩]
          simp only [Int.toNat_natCast, hk, if_true]
        have c1 : cutL w' none (some (q : Int)) = w'.take q := cutL_n0
        have c2 : cutL w' (some (q : Int)) none = w'.drop q := cutL_0n
        have hz1 : min q w'.length + l.length ≤ 16777216 := by omega
        have hz2 : min q w'.length + l.length + (w'.length - q) ≤ 16777216 := by omega
        have h1 := hp.1
        have h2 := hp.2
        refine W_seqE (τ1 := [s0, .shr (.lst (sL (L.map tS))), .own (.str kd), .own (.int q), .own (.str l), .own (.int ((w'.length : Int) + 1))]) (by
          rw [← W.eq]
          simp -dsimp -implicitDefEqProofs [h1, h2]) ?_
        have fin : I (i + 1) [.own (.str (w'.take q ++ l ++ w'.drop q)), .shr (.lst (sL (L.map tS))), .own (.str kd), .own (.int q), .own (.str l), .own (.int ((w'.length : Int) + 1))] :=
          (hI _ _).mpr ⟨_, _, _, _, _, _, rfl, .inr rfl, rfl, rfl, rfl, rfl, by rw [hst, hs], by have := stF_len hs hll; omega⟩
        rcases h0 with rfl | rfl
        · simp -dsimp -implicitDefEqProofs [hk, c1, c2, hz1, hz2]
          simpa [hk] using fin
        · simp -dsimp -implicitDefEqProofs [hk, c1, c2, hz1, hz2]
          simpa [hk] using fin
      · have hs : stF w' (kd, p, l) = none := by
          unfold stF
          rw [if_neg]
          show ¬ (0 ≤ p ∧ (p < _ ∨ (p = _ ∧ kd = cPut)))
          omega
        have := none_ hs
        rw [this]
        by_cases h1 : 0 ≤ p
        · have h2 : ¬ p < (w'.length : Int) + 1 := fun z => hp ⟨h1, z⟩
          simp -dsimp -implicitDefEqProofs [h1, h2, oV]
        · simp -dsimp -implicitDefEqProofs [h1, oV]
    · refine W_seqE (τ1 := [s0, .shr (.lst (sL (L.map tS))), .own (.str kd), .own (.int p), .own (.str l), .own (.int (w'.length : Int))]) (by
        rw [← W.eq]
        rcases h0 with rfl | rfl <;> simp -dsimp -implicitDefEqProofs [hk, gF, n5]) ?_
      by_cases hp : 0 ≤ p ∧ p < (w'.length : Int)
      · obtain ⟨q, rfl⟩ : ∃ q : Nat, p = q := ⟨p.toNat, by omega⟩
        have hs : stF w' (kd, (q : Int), l) = some (w'.take q ++ l ++ w'.drop (q + 1)) := by
          unfold stF
          rw [if_pos ⟨by show (0 : Int) ≤ q; omega, by show (q : Int) < _ ∨ ((q : Int) = _ ∧ kd = cPut); omega⟩]
          simp only [Int.toNat_natCast, hk, if_false]
        have c1 : cutL w' none (some (q : Int)) = w'.take q := cutL_n0
        have c2 : cutL w' (some ((q : Int) + 1)) none = w'.drop (q + 1) := by rw [show (q : Int) + 1 = ((q + 1 : Nat) : Int) by omega]; exact cutL_0n
        have hz1 : min q w'.length + l.length ≤ 16777216 := by omega
        have hz2 : min q w'.length + l.length + (w'.length - (q + 1)) ≤ 16777216 := by omega
        have h1 := hp.1
        have h2 := hp.2
        have h2n : q < w'.length := by omega
        refine W_seqE (τ1 := [s0, .shr (.lst (sL (L.map tS))), .own (.str kd), .own (.int q), .own (.str l), .own (.int (w'.length : Int))]) (by
          rw [← W.eq]
          simp -dsimp -implicitDefEqProofs [h1, h2, h2n]) ?_
        have fin : I (i + 1) [.own (.str (w'.take q ++ l ++ w'.drop (q + 1))), .shr (.lst (sL (L.map tS))), .own (.str kd), .own (.int q), .own (.str l), .own (.int (w'.length : Int))] :=
          (hI _ _).mpr ⟨_, _, _, _, _, _, rfl, .inr rfl, rfl, rfl, rfl, rfl, by rw [hst, hs], by have := stF_len hs hll; omega⟩
        rcases h0 with rfl | rfl
        · simp -dsimp -implicitDefEqProofs [hk, c1, c2, hz1, hz2]
          simpa using fin
        · simp -dsimp -implicitDefEqProofs [hk, c1, c2, hz1, hz2]
          simpa using fin
      · have hs : stF w' (kd, p, l) = none := by
          unfold stF
          rw [if_neg]
          show ¬ (0 ≤ p ∧ (p < _ ∨ (p = _ ∧ kd = cPut)))
          rintro ⟨h1, h2 | h2⟩
          · exact hp ⟨h1, h2⟩
          · exact hk h2.2
        have := none_ hs
        rw [this]
        by_cases h1 : 0 ≤ p
        · have h2 : ¬ p < (w'.length : Int) := fun z => hp ⟨h1, z⟩
          simp -dsimp -implicitDefEqProofs [h1, h2, oV]
        · simp -dsimp -implicitDefEqProofs [h1, oV]
  · obtain ⟨w', s0, s2, s3, s4, s5, rfl, h0, n2, n3, n4, n5, hA, hwl⟩ := (hI _ _).mp hi
    rw [sL_len, List.length_map, List.take_length] at hA
    rw [hA]
    rcases h0 with rfl | rfl
    · simp -dsimp -implicitDefEqProofs [oV]
    · simp -dsimp -implicitDefEqProofs [oV]
theorem lafter_ok {w : Tx} {L : List Tr} (hw : w.length < 1000) (hL : L.length < 1000) (hl : ∀ x ∈ L, x.2.2.length ≤ 2) : (Tk tp (k + 1)).sem "_law_after" [.shr (.str w), .shr (.lst (sL (L.map tS)))] = some (.own, oV (aft w L), [.un, .un]) := by
  rw [tk_sem, lk__law_after, ← W.eq]
  refine runF_W rfl ?_
  simp only [e__law_after, List.length_cons, List.length_nil, Nat.reduceAdd, Nat.reduceSub, List.replicate, List.cons_append, List.nil_append]
  unfold f__law_after
  obtain ⟨I, hI⟩ : ∃ I : Nat → En → Prop, ∀ i τ, I i τ ↔ ∃ (w' : Tx) (s0 s2 s3 s4 s5 s6 : Sl), τ = [s0, .shr (.lst (sL (L.map tS))), s2, s3, s4, s5, s6] ∧ (s0 = .shr (.str w') ∨ s0 = .own (.str w')) ∧ nio s2 = true ∧ nio s3 = true ∧ nio s4 = true ∧ nio s5 = true ∧ nio s6 = true ∧ aft w (L.take i) = some w' ∧ w'.length ≤ w.length + 2 * i := ⟨_, fun _ _ => Iff.rfl⟩
  rw [sSeq_ap, W_bind]
  simp -dsimp -implicitDefEqProofs only [sForN_ap, List.getElem?_cons_zero, List.getElem?_cons_succ]
  rw [sFor_ap, W_bind]
  refine W.mono (R := fun r => r = (.shr, sL (L.map tS))) (by simp -dsimp -implicitDefEqProofs) fun r hr => ?_
  subst hr
  simp only [reduceCtorEq, if_false]
  refine W_forL I ((hI _ _).mpr ⟨w, .shr (.str w), .un, .un, .un, .un, .un, rfl, .inl rfl, rfl, rfl, rfl, rfl, rfl, rfl, by omega⟩) (fun i t τ ht hi => ?_) fun τ hi => ?_
  · obtain ⟨w', s0, s2, s3, s4, s5, s6, rfl, h0, n2, n3, n4, n5, n6, hA, hwl⟩ := (hI _ _).mp hi
    have hil : i < L.length := by
      have := (List.getElem?_eq_some_iff.mp ht).1
      simpa [sL] using this
    obtain ⟨⟨kd, p, l⟩, hx⟩ : ∃ x, L[i] = x := ⟨_, rfl⟩
    have hll : l.length ≤ 2 := by have := hl _ (List.getElem_mem hil); rw [hx] at this; exact this
    obtain rfl : t = .tup [.str kd, .int p, .str l] := by
      unfold sL at ht
      rw [List.getElem?_map, List.getElem?_map, List.getElem?_eq_getElem hil, hx] at ht
      exact (Option.some.inj ht).symm
    have hst := aft_take (w := w) hil
    rw [hA, hx, Option.bind_some] at hst
    refine W.mono (R := fun τ1 => τ1 = [s0, .shr (.lst (sL (L.map tS))), .own (.tup [.str kd, .int p, .str l]), s3, s4, s5, s6]) (by simp -dsimp -implicitDefEqProofs [n2]) fun τ1 h1 => ?_
    subst h1
    refine W_seqE (τ1 := [s0, .shr (.lst (sL (L.map tS))), .own (.tup [.str kd, .int p, .str l]), s3, .own (.str kd), .own (.int p), .own (.str l)]) (by rw [← W.eq]; simp -dsimp -implicitDefEqProofs [n4, n5, n6]) ?_
    have none_ : stF w' (kd, p, l) = none → aft w L = none := fun hn => by
      rw [← List.take_append_drop (i + 1) L, aft_app, hst, hn]; rfl
    have bad : stF w' (kd, p, l) = none → ∀ τ' : En, (∃ r, r = (Out.ret Kd.own PV.non, τ')) → True := fun _ _ _ => trivial
    by_cases hok : 0 ≤ p ∧ (p < w'.length ∨ (p = w'.length ∧ kd = cPut))
    · obtain ⟨q, rfl⟩ : ∃ q : Nat, p = q := ⟨p.toNat, by omega⟩
      have hs : stF w' (kd, (q : Int), l) = some (w'.take q ++ l ++ (if kd = cPut then w'.drop q else w'.drop (q + 1))) := by
        unfold stF
        rw [if_pos hok]
        simp only [Int.toNat_natCast]
      have h1 : ¬ (q : Int) < 0 := by omega
      have h2 : ¬ (q : Int) > w'.length := by omega
      have h2' : ¬ (w'.length : Int) < q := by omega
      have h2n : ¬ w'.length < q := by omega
      have c1 : cutL w' none (some (q : Int)) = w'.take q := cutL_n0
      have c2 : cutL w' (some (q : Int)) none = w'.drop q := cutL_0n
      have c3 : cutL w' (some ((q : Int) + 1)) none = w'.drop (q + 1) := by rw [show (q : Int) + 1 = ((q + 1 : Nat) : Int) by omega]; exact cutL_0n
      have hz1 : min q w'.length + l.length ≤ 16777216 := by omega
      have hz2 : min q w'.length + l.length + (w'.length - q) ≤ 16777216 := by omega
      have hz3 : min q w'.length + l.length + (w'.length - (q + 1)) ≤ 16777216 := by omega
      have fin : I (i + 1) [.own (.str (w'.take q ++ l ++ (if kd = cPut then w'.drop q else w'.drop (q + 1)))), .shr (.lst (sL (L.map tS))), .own (.tup [.str kd, .int q, .str l]), .own (.str (if kd = cPut then w'.drop q else w'.drop (q + 1))), .own (.str kd), .own (.int q), .own (.str l)] :=
        (hI _ _).mpr ⟨_, _, _, _, _, _, _, rfl, .inr rfl, rfl, rfl, rfl, rfl, rfl, by rw [hst, hs], by have := stF_len hs hll; omega⟩
      by_cases hk : kd = cPut
      · subst hk
        rw [if_pos rfl] at fin
        rcases h0 with rfl | rfl
        · simp -dsimp -implicitDefEqProofs [h1, h2', h2n, n3, c1, c2, hz1, hz2]
          simpa using fin
        · simp -dsimp -implicitDefEqProofs [h1, h2', h2n, n3, c1, c2, hz1, hz2]
          simpa using fin
      · rw [if_neg hk] at fin
        have h3 : ¬ ((q : Int) = w'.length) := by
          rcases hok.2 with z | z
          · omega
          · exact absurd z.2 hk
        have h3n : ¬ (q = w'.length) := by omega
        rcases h0 with rfl | rfl
        · simp -dsimp -implicitDefEqProofs [h1, h2', h2n, h3, h3n, hk, n3, c1, c3, hz1, hz3]
          simpa using fin
        · simp -dsimp -implicitDefEqProofs [h1, h2', h2n, h3, h3n, hk, n3, c1, c3, hz1, hz3]
          simpa using fin
    · have hs : stF w' (kd, p, l) = none := by unfold stF; rw [if_neg hok]
      rw [none_ hs]
      by_cases h1 : p < 0
      · simp -dsimp -implicitDefEqProofs [h1, oV]
      · by_cases h2 : (w'.length : Int) < p
        · rcases h0 with rfl | rfl <;> simp -dsimp -implicitDefEqProofs [h1, h2, oV]
        · have h3 : p = (w'.length : Int) := by
            rcases (show p < (w'.length : Int) ∨ p = w'.length by omega) with z | z
            · exact absurd ⟨by omega, .inl z⟩ hok
            · exact z
          have h4 : ¬ kd = cPut := fun z => hok ⟨by omega, .inr ⟨h3, z⟩⟩
          subst h3
          rcases h0 with rfl | rfl <;> simp -dsimp -implicitDefEqProofs [h4, oV]
  · obtain ⟨w', s0, s2, s3, s4, s5, s6, rfl, h0, n2, n3, n4, n5, n6, hA, hwl⟩ := (hI _ _).mp hi
    rw [sL_len, List.length_map, List.take_length] at hA
    rw [hA]
    rcases h0 with rfl | rfl
    · simp -dsimp -implicitDefEqProofs [oV]
    · simp -dsimp -implicitDefEqProofs [oV]
end
end Pv.k26
namespace Pv.k26
open PySem PySem.Spec L2 Pv

def kOk (k : Tx) : Bool := decide (k = cPut) || (decide (k = cTake) || decide (k = cChg))
def well : Sp → Bool
  | .t k _ l => kOk k && decide (l.length = if k = cTake then 0 else 1)
  | _ => false
theorem well_t {k l : Tx} {p : Int} : well (.t k p l) = (kOk k && decide (l.length = if k = cTake then 0 else 1)) := rfl
def trOfS : Sp → Option Tr
  | .t k p l => some (k, p, l)
  | _ => none
def trs (L : List Sp) : List Tr := L.filterMap trOfS
theorem trs_well : ∀ {L : List Sp}, (∀ s ∈ L, well s = true) → (trs L).map tS = L ∧ ∀ x ∈ trs L, x.2.2.length ≤ 1
  | [], _ => ⟨rfl, fun _ h => absurd h List.not_mem_nil⟩
  | s :: L, h => by
    obtain ⟨h1, h2⟩ := trs_well (L := L) fun x hx => h x (List.mem_cons_of_mem _ hx)
    have h0 := h s List.mem_cons_self
    cases s with
    | t k p l =>
      have e : trs (.t k p l :: L) = (k, p, l) :: trs L := rfl
      rw [e]
      refine ⟨by rw [List.map_cons, h1]; rfl, fun x hx => ?_⟩
      rcases List.mem_cons.mp hx with z | z
      · rw [z]
        unfold well at h0
        simp only [Bool.and_eq_true, decide_eq_true_eq] at h0
        have := h0.2
        show l.length ≤ 1
        split at this <;> omega
      · exact h2 x z
    | a _ _ => cases h0
    | b _ _ _ => cases h0
    | c _ => cases h0
    | d => cases h0
theorem trs_len {L : List Sp} : (trs L).length ≤ L.length := List.length_filterMap_le _ _
def shB (u v : Tx) (L : List Sp) (most : Int) : Bool := L.all well && (decide ((L.length : Int) ≤ most) && decide (aft u (trs L) = some v))
theorem gNin3t {k : Tx} : gNin (.str k) (.tup [.str cPut, .str cTake, .str cChg]) = some (.own, .bl (!kOk k)) := by
  show some (Kd.own, PV.bl (!(decide (cPut = k) || (decide (cTake = k) || (decide (cChg = k) || false))))) = _
  unfold kOk
  simp only [Bool.or_false, eq_comm]
theorem gNin3l {k : Tx} : gNin (.str k) (.lst [.str cPut, .str cTake, .str cChg]) = some (.own, .bl (!kOk k)) := gNin3t
theorem gIn3l {k : Tx} : gIn (.str k) (.lst [.str cPut, .str cTake, .str cChg]) = some (.own, .bl (kOk k)) := by
  show some (Kd.own, PV.bl (decide (cPut = k) || (decide (cTake = k) || (decide (cChg = k) || false)))) = _
  unfold kOk
  simp only [Bool.or_false, eq_comm]
theorem gEq_oV {o : Option Tx} {v : Tx} : gEq (oV o) (.str v) = some (.own, .bl (decide (o = some v))) := by
  cases o with
  | none => rfl
  | some w =>
    show gEq (.str w) (.str v) = _
    rw [gEq_str]
    simp
section
variable {tp : Nat → Stmt} {k : Nat}
theorem shows_ok {u v : Tx} {L : List Sp} {most : Int} (hu : u.length < 1000) (hL : L.length < 1000) : (Tk tp (k + 2)).sem "shows_edits" [.shr (.str u), .shr (.str v), .shr (.lst (sL L)), .shr (.int most)] = some (.own, .bl (shB u v L most), [.un, .un, .un, .un]) := by
  rw [tk_sem, lk_shows_edits, ← W.eq]
  refine runF_W rfl ?_
  simp only [e_shows_edits, List.length_cons, List.length_nil, Nat.reduceAdd, Nat.reduceSub, List.replicate, List.cons_append, List.nil_append]
  unfold f_shows_edits
  obtain ⟨I, hI⟩ : ∃ I : Nat → En → Prop, ∀ i τ, I i τ ↔ ∃ s4, τ = [.shr (.str u), .shr (.str v), .shr (.lst (sL L)), .shr (.int most), s4] ∧ nio s4 = true ∧ ∀ s ∈ L.take i, well s = true := ⟨_, fun _ _ => Iff.rfl⟩
  rw [sSeq_ap, W_bind]
  simp -dsimp -implicitDefEqProofs only [sForN_ap, List.getElem?_cons_zero, List.getElem?_cons_succ]
  rw [sFor_ap, W_bind]
  refine W.mono (R := fun r => r = (.shr, sL L)) (by simp -dsimp -implicitDefEqProofs) fun r hr => ?_
  subst hr
  simp only [reduceCtorEq, if_false]
  refine W_forL I ((hI _ _).mpr ⟨.un, rfl, rfl, by simp⟩) (fun i t τ ht hi => ?_) fun τ hi => ?_
  · obtain ⟨s4, rfl, n4, hw⟩ := (hI _ _).mp hi
    have hil : i < L.length := by
      have := (List.getElem?_eq_some_iff.mp ht).1
      simpa [sL] using this
    obtain ⟨s, hs⟩ : ∃ s, L[i] = s := ⟨_, rfl⟩
    obtain rfl : t = sV s := by
      unfold sL at ht
      rw [List.getElem?_map, List.getElem?_eq_getElem hil, hs] at ht
      exact (Option.some.inj ht).symm
    have hsm : s ∈ L := by rw [← hs]; exact List.getElem_mem hil
    have bad : well s = false → shB u v L most = false := fun h => by
      have : L.all well = false := by
        cases e : L.all well with
        | false => rfl
        | true => rw [List.all_eq_true.mp e s hsm] at h; cases h
      unfold shB; rw [this, Bool.false_and]
    have good : well s = true → ∀ s4, nio s4 = true → I (i + 1) [.shr (.str u), .shr (.str v), .shr (.lst (sL L)), .shr (.int most), s4] := fun h s4 n4 => (hI _ _).mpr ⟨s4, rfl, n4, fun x hx => by
      rw [List.take_succ_eq_append_getElem hil, hs] at hx
      rcases List.mem_append.mp hx with z | z
      · exact hw x z
      · rw [List.mem_singleton.mp z]; exact h⟩
    have x0 : ixN 3 0 = some 0 := rfl
    have x2 : ixN 3 2 = some 2 := rfl
    have gT : gInt (.bl true) = some (.own, .int 1) := rfl
    have gF : gInt (.bl false) = some (.own, .int 0) := rfl
    cases s with
    | t kd p l =>
      have n3 : gNin (.str kd) (.tup [.str [112, 117, 116], .str [116, 97, 107, 101], .str [99, 104, 97, 110, 103, 101]]) = some (.own, .bl (!kOk kd)) := gNin3t
      by_cases hk : kOk kd = true
      · by_cases ht : kd = cTake
        · subst ht
          by_cases hl : l.length = 0
          · have hlI : (l.length : Int) = 0 := by omega
            have gw : well (.t cTake p l) = true := by rw [well_t, hk, if_pos rfl, decide_eq_true hl]; rfl
            simp -dsimp -implicitDefEqProofs [sV, n4, atI, x0, x2, n3, hk, hl, hlI, gT, gF]
            exact good gw _ rfl
          · have hlI : ¬ (l.length : Int) = 0 := by omega
            have gw : well (.t cTake p l) = false := by rw [well_t, hk, if_pos rfl, decide_eq_false hl]; rfl
            have := bad gw
            simp -dsimp -implicitDefEqProofs [sV, n4, atI, x0, x2, n3, hk, hl, hlI, gT, gF, this]
        · by_cases hl : l.length = 1
          · have hlI : (l.length : Int) = 1 := by omega
            have gw : well (.t kd p l) = true := by rw [well_t, hk, if_neg ht, decide_eq_true hl]; rfl
            simp -dsimp -implicitDefEqProofs [sV, n4, atI, x0, x2, n3, hk, ht, hl, hlI, gT, gF]
            exact good gw _ rfl
          · have hlI : ¬ (l.length : Int) = 1 := by omega
            have gw : well (.t kd p l) = false := by rw [well_t, hk, if_neg ht, decide_eq_false hl]; rfl
            have := bad gw
            simp -dsimp -implicitDefEqProofs [sV, n4, atI, x0, x2, n3, hk, ht, hl, hlI, gT, gF, this]
      · rw [Bool.not_eq_true] at hk
        have gw : well (.t kd p l) = false := by rw [well_t, hk]; rfl
        have := bad gw
        simp -dsimp -implicitDefEqProofs [sV, n4, atI, x0, n3, hk, this]
    | a _ _ =>
      have := bad rfl
      simp -dsimp -implicitDefEqProofs [sV, n4, this]
    | b _ _ _ =>
      have := bad rfl
      simp -dsimp -implicitDefEqProofs [sV, n4, this]
    | c _ =>
      have := bad rfl
      simp -dsimp -implicitDefEqProofs [sV, n4, this]
    | d =>
      have := bad rfl
      simp -dsimp -implicitDefEqProofs [sV, n4, this]
  · obtain ⟨s4, rfl, n4, hw⟩ := (hI _ _).mp hi
    rw [sL_len, List.take_length] at hw
    obtain ⟨h1, h2⟩ := trs_well hw
    have hall : L.all well = true := List.all_eq_true.mpr hw
    have ea := after_ok (tp := tp) (k := k) (w := u) (L := trs L) hu (by have := trs_len (L := L); omega) fun x hx => by have := h2 x hx; omega
    rw [h1] at ea
    by_cases hm : (L.length : Int) ≤ most
    · have : shB u v L most = decide (aft u (trs L) = some v) := by unfold shB; rw [hall, decide_eq_true hm]; rfl
      simp -dsimp -implicitDefEqProofs [sL_len, hm, ea, gEq_oV, this]
    · have : shB u v L most = false := by unfold shB; rw [hall, decide_eq_false hm]; rfl
      simp -dsimp -implicitDefEqProofs [sL_len, hm, this]
theorem shown_ok {u v : Tx} {L : List Sp} {most : Int} (hu : u.length < 1000) (hL : L.length < 1000) : (Tk tp (k + 2)).sem "_law_shown" [.shr (.str u), .shr (.str v), .shr (.lst (sL L)), .shr (.int most)] = some (.own, .bl (shB u v L most), [.un, .un, .un, .un]) := by
  rw [tk_sem, lk__law_shown, ← W.eq]
  refine runF_W rfl ?_
  simp only [e__law_shown, List.length_cons, List.length_nil, Nat.reduceAdd, Nat.reduceSub, List.replicate, List.cons_append, List.nil_append]
  unfold f__law_shown
  obtain ⟨I, hI⟩ : ∃ I : Nat → En → Prop, ∀ i τ, I i τ ↔ ∃ s4, τ = [.shr (.str u), .shr (.str v), .shr (.lst (sL L)), .shr (.int most), s4] ∧ nio s4 = true ∧ ∀ s ∈ L.take i, well s = true := ⟨_, fun _ _ => Iff.rfl⟩
  rw [sSeq_ap, W_bind]
  simp -dsimp -implicitDefEqProofs only [sForN_ap, List.getElem?_cons_zero, List.getElem?_cons_succ]
  rw [sFor_ap, W_bind]
  refine W.mono (R := fun r => r = (.shr, sL L)) (by simp -dsimp -implicitDefEqProofs) fun r hr => ?_
  subst hr
  simp only [reduceCtorEq, if_false]
  refine W_forL I ((hI _ _).mpr ⟨.un, rfl, rfl, by simp⟩) (fun i t τ ht hi => ?_) fun τ hi => ?_
  · obtain ⟨s4, rfl, n4, hw⟩ := (hI _ _).mp hi
    have hil : i < L.length := by
      have := (List.getElem?_eq_some_iff.mp ht).1
      simpa [sL] using this
    obtain ⟨s, hs⟩ : ∃ s, L[i] = s := ⟨_, rfl⟩
    obtain rfl : t = sV s := by
      unfold sL at ht
      rw [List.getElem?_map, List.getElem?_eq_getElem hil, hs] at ht
      exact (Option.some.inj ht).symm
    have hsm : s ∈ L := by rw [← hs]; exact List.getElem_mem hil
    have bad : well s = false → shB u v L most = false := fun h => by
      have : L.all well = false := by
        cases e : L.all well with
        | false => rfl
        | true => rw [List.all_eq_true.mp e s hsm] at h; cases h
      unfold shB; rw [this, Bool.false_and]
    have good : well s = true → ∀ s4, nio s4 = true → I (i + 1) [.shr (.str u), .shr (.str v), .shr (.lst (sL L)), .shr (.int most), s4] := fun h s4 n4 => (hI _ _).mpr ⟨s4, rfl, n4, fun x hx => by
      rw [List.take_succ_eq_append_getElem hil, hs] at hx
      rcases List.mem_append.mp hx with z | z
      · exact hw x z
      · rw [List.mem_singleton.mp z]; exact h⟩
    have x0 : ixN 3 0 = some 0 := rfl
    have x2 : ixN 3 2 = some 2 := rfl
    cases s with
    | t kd p l =>
      have n3 : gNin (.str kd) (.lst [.str [112, 117, 116], .str [116, 97, 107, 101], .str [99, 104, 97, 110, 103, 101]]) = some (.own, .bl (!kOk kd)) := gNin3l
      by_cases hk : kOk kd = true
      · by_cases ht : kd = cTake
        · subst ht
          by_cases hl : l = []
          · subst hl
            have gw : well (.t cTake p []) = true := by rw [well_t, hk, if_pos rfl]; rfl
            simp -dsimp -implicitDefEqProofs [sV, n4, atI, x0, x2, n3, hk, kds]
            exact good gw _ rfl
          · have gw : well (.t cTake p l) = false := by rw [well_t, hk, if_pos rfl, decide_eq_false fun z => hl (List.eq_nil_of_length_eq_zero z)]; rfl
            have := bad gw
            simp -dsimp -implicitDefEqProofs [sV, n4, atI, x0, x2, n3, hk, hl, this, kds]
        · by_cases hl : l.length = 1
          · have hlI : (l.length : Int) = 1 := by omega
            have gw : well (.t kd p l) = true := by rw [well_t, hk, if_neg ht, decide_eq_true hl]; rfl
            simp -dsimp -implicitDefEqProofs [sV, n4, atI, x0, x2, n3, hk, ht, hl, hlI, kds]
            exact good gw _ rfl
          · have hlI : ¬ (l.length : Int) = 1 := by omega
            have gw : well (.t kd p l) = false := by rw [well_t, hk, if_neg ht, decide_eq_false hl]; rfl
            have := bad gw
            simp -dsimp -implicitDefEqProofs [sV, n4, atI, x0, x2, n3, hk, ht, hl, hlI, this, kds]
      · rw [Bool.not_eq_true] at hk
        have gw : well (.t kd p l) = false := by rw [well_t, hk]; rfl
        have := bad gw
        simp -dsimp -implicitDefEqProofs [sV, n4, atI, x0, n3, hk, this, kds]
    | a _ _ =>
      have := bad rfl
      simp -dsimp -implicitDefEqProofs [sV, n4, this]
    | b _ _ _ =>
      have := bad rfl
      simp -dsimp -implicitDefEqProofs [sV, n4, this]
    | c _ =>
      have := bad rfl
      simp -dsimp -implicitDefEqProofs [sV, n4, this]
    | d =>
      have := bad rfl
      simp -dsimp -implicitDefEqProofs [sV, n4, this]
  · obtain ⟨s4, rfl, n4, hw⟩ := (hI _ _).mp hi
    rw [sL_len, List.take_length] at hw
    obtain ⟨h1, h2⟩ := trs_well hw
    have hall : L.all well = true := List.all_eq_true.mpr hw
    have ea := lafter_ok (tp := tp) (k := k) (w := u) (L := trs L) hu (by have := trs_len (L := L); omega) fun x hx => by have := h2 x hx; omega
    rw [h1] at ea
    by_cases hm : (L.length : Int) ≤ most
    · have : shB u v L most = decide (aft u (trs L) = some v) := by unfold shB; rw [hall, decide_eq_true hm]; rfl
      simp -dsimp -implicitDefEqProofs [sL_len, hm, ea, gEq_oV, this]
    · have : shB u v L most = false := by unfold shB; rw [hall, decide_eq_false hm]; rfl
      simp -dsimp -implicitDefEqProofs [sL_len, hm, this]
end
end Pv.k26
namespace Pv.k26
open PySem PySem.Spec L2 Pv

theorem st_chg {x y : Tx} {c d n : Nat} (hn : x.length = n) : stF (x ++ c :: y) (cChg, (n : Int), [d]) = some (x ++ d :: y) := by
  unfold stF
  rw [if_pos ⟨by show (0 : Int) ≤ n; omega, .inl (by show (n : Int) < ((x ++ c :: y).length : Nat); simp; omega)⟩]
  have h : ¬ cChg = cPut := by decide
  simp only [h, if_false, Int.toNat_natCast]
  subst hn
  simp
theorem st_take {x y : Tx} {c n : Nat} (hn : x.length = n) : stF (x ++ c :: y) (cTake, (n : Int), []) = some (x ++ y) := by
  unfold stF
  rw [if_pos ⟨by show (0 : Int) ≤ n; omega, .inl (by show (n : Int) < ((x ++ c :: y).length : Nat); simp; omega)⟩]
  have h : ¬ cTake = cPut := by decide
  simp only [h, if_false, Int.toNat_natCast]
  subst hn
  simp
theorem st_put {x y : Tx} {d n : Nat} (hn : x.length = n) : stF (x ++ y) (cPut, (n : Int), [d]) = some (x ++ d :: y) := by
  unfold stF
  have hc : (n : Int) < ((x ++ y).length : Nat) ∨ ((n : Int) = ((x ++ y).length : Nat) ∧ cPut = cPut) := by
    rw [List.length_append]
    by_cases h : y.length = 0
    · exact .inr ⟨by omega, rfl⟩
    · exact .inl (by omega)
  rw [if_pos ⟨by show (0 : Int) ≤ n; omega, hc⟩]
  simp only [if_true, Int.toNat_natCast]
  subst hn
  simp
def GdS (v : Tx) (x : Tr) : Prop := well (tS x) = true ∧ x.2.2.length ≤ 1 ∧ ∀ c ∈ x.2.2, c ∈ v
theorem gd_chg {v : Tx} {p : Int} {d : Nat} (h : d ∈ v) : GdS v (cChg, p, [d]) := ⟨rfl, by simp, fun c hc => by rw [List.mem_singleton.mp hc]; exact h⟩
theorem gd_put {v : Tx} {p : Int} {d : Nat} (h : d ∈ v) : GdS v (cPut, p, [d]) := ⟨rfl, by simp, fun c hc => by rw [List.mem_singleton.mp hc]; exact h⟩
theorem gd_take {v : Tx} {p : Int} : GdS v (cTake, p, []) := ⟨rfl, by simp, fun c hc => absurd hc List.not_mem_nil⟩
theorem aft_one {u w w' : Tx} {F : List Tr} {x : Tr} (h : aft u F = some w) (hs : stF w x = some w') : aft u (F ++ [x]) = some w' := by
  rw [aft_app, h]
  show (stF w x).bind (fun w'' => some w'') = some w'
  rw [hs]; rfl
theorem take_s {u : Tx} {a c : Nat} (h : u[a]? = some c) : u.take (a + 1) = u.take a ++ [c] := by
  obtain ⟨hl, e⟩ := List.getElem?_eq_some_iff.mp h
  rw [List.take_succ_eq_append_getElem hl, e]
theorem drop_s {v : Tx} {b d : Nat} (h : v[b]? = some d) : v.drop b = d :: v.drop (b + 1) := by
  obtain ⟨hl, e⟩ := List.getElem?_eq_some_iff.mp h
  rw [List.drop_eq_getElem_cons hl, e]
structure SI (u v : Tx) (a b : Nat) (F : List Tr) : Prop where
  la : a ≤ u.length
  lb : b ≤ v.length
  af : aft u F = some (u.take a ++ v.drop b)
  l : F.length + dD u v a b = dD u v u.length v.length
  g : ∀ x ∈ F, GdS v x
theorem SI.push {u v : Tx} {a b a' b' : Nat} {F : List Tr} {x : Tr} (h : SI u v a b F) (ha : a' ≤ a) (hb : b' ≤ b) (hs : stF (u.take a ++ v.drop b) x = some (u.take a' ++ v.drop b')) (hd : dD u v a b = dD u v a' b' + 1) (hg : GdS v x) : SI u v a' b' (F ++ [x]) :=
  ⟨Nat.le_trans ha h.la, Nat.le_trans hb h.lb, aft_one h.af hs, by have := h.l; rw [List.length_append, List.length_singleton]; omega, fun y hy => by
    rcases List.mem_append.mp hy with z | z
    · exact h.g y z
    · rw [List.mem_singleton.mp z]; exact hg⟩
theorem sL_push {F : List Tr} {x : Tr} : sL ((F ++ [x]).map tS) = sL (F.map tS) ++ [sV (tS x)] := by simp [sL]
section
variable {tp : Nat → Stmt} {k : Nat}
theorem esteps_ok {u v : Tx} (hu : u.length < 1000) (hv : v.length < 1000) : ∃ F : List Tr, (∀ x ∈ F, GdS v x) ∧ aft u F = some v ∧ F.length = dD u v u.length v.length ∧ (Tk tp (k + 2)).sem "edit_steps" [.shr (.str u), .shr (.str v)] = some (.own, .lst (sL (F.map tS)), [.un, .un]) := by
  obtain ⟨X, hX⟩ : ∃ X : Kd × PV × List Sl → Prop, ∀ r, X r ↔ ∃ F : List Tr, (∀ x ∈ F, GdS v x) ∧ aft u F = some v ∧ F.length = dD u v u.length v.length ∧ r = (.own, .lst (sL (F.map tS)), [.un, .un]) := ⟨_, fun _ => Iff.rfl⟩
  suffices h : W ((Tk tp (k + 2)).sem "edit_steps" [.shr (.str u), .shr (.str v)]) X by
    obtain ⟨r, e, h⟩ := h
    obtain ⟨F, h1, h2, h3, er⟩ := (hX r).mp h
    exact ⟨F, h1, h2, h3, by rw [e, er]⟩
  have et := table_ok (tp := tp) (k := k) hu hv
  have hat : ∀ a, a ≤ u.length → atI (tabD u v (u.length + 1)) (a : Int) = some (.lst (rowD u v a (v.length + 1))) := fun a h => tabD_at (by omega)
  have hD := dD_le (u := u) (v := v) u.length v.length
  obtain ⟨TB, hTB⟩ : ∃ TB, tabD u v (u.length + 1) = TB := ⟨_, rfl⟩
  rw [hTB] at et hat
  rw [tk_sem, lk_edit_steps]
  refine runF_W rfl ?_
  simp only [e_edit_steps, List.length_cons, List.length_nil, Nat.reduceAdd, Nat.reduceSub, List.replicate, List.cons_append, List.nil_append]
  unfold f_edit_steps
  refine W_seqE (τ1 := [.shr (.str u), .shr (.str v), .own (.lst TB), .un, .un, .un]) (by rw [← W.eq]; simp -dsimp -implicitDefEqProofs [et]) ?_
  refine W_seqE (τ1 := [.shr (.str u), .shr (.str v), .own (.lst TB), .own (.lst (sL (([] : List Tr).map tS))), .un, .un]) (by rw [← W.eq]; simp -dsimp -implicitDefEqProofs [sL]) ?_
  refine W_seqE (τ1 := [.shr (.str u), .shr (.str v), .own (.lst TB), .own (.lst (sL (([] : List Tr).map tS))), .own (.int (u.length : Nat)), .own (.int (v.length : Nat))]) (by rw [← W.eq]; simp -dsimp -implicitDefEqProofs) ?_
  obtain ⟨J, hJ⟩ : ∃ J : Nat → En → Prop, ∀ n τ, J n τ ↔ ∃ (a b : Nat) (F : List Tr), n = a + b ∧ τ = [.shr (.str u), .shr (.str v), .own (.lst TB), .own (.lst (sL (F.map tS))), .own (.int (a : Nat)), .own (.int (b : Nat))] ∧ SI u v a b F := ⟨_, fun _ _ => Iff.rfl⟩
  obtain ⟨E, hE⟩ : ∃ E : En → Prop, ∀ τ, E τ ↔ ∃ (F : List Tr), τ = [.shr (.str u), .shr (.str v), .own (.lst TB), .own (.lst (sL (F.map tS))), .own (.int (0 : Nat)), .own (.int (0 : Nat))] ∧ SI u v 0 0 F := ⟨_, fun _ => Iff.rfl⟩
  refine W_seq E ?_ fun τ hτ => ?_
  · rw [sWh_ap]
    refine W_whL J (fun n τ hj => ?_) whFuel (u.length + v.length) _ ((hJ _ _).mpr ⟨_, _, [], rfl, rfl, ⟨Nat.le_refl _, Nat.le_refl _, by show some u = _; simp, by simp, fun x hx => absurd hx List.not_mem_nil⟩⟩) (by unfold whFuel; omega)
    obtain ⟨a, b, F, rfl, rfl, hS⟩ := (hJ _ _).mp hj
    have hFl : F.length < 16777216 := by have := hS.l; omega
    have hz : (sL (F.map tS)).length < 16777216 := by rw [sL_len, List.length_map]; exact hFl
    have gT : gInt (.bl true) = some (.own, .int 1) := rfl
    have gF : gInt (.bl false) = some (.own, .int 0) := rfl
    have ra := hS.la
    have rb := hS.lb
    cases a with
    | zero =>
      cases b with
      | zero =>
        simp -dsimp -implicitDefEqProofs
        exact (hE _).mpr ⟨F, rfl, hS⟩
      | succ b =>
        obtain ⟨d, hd⟩ : ∃ d, v[b]? = some d := ⟨_, List.getElem?_eq_getElem (by omega)⟩
        have ad : atI v (b : Int) = some d := by
          rw [atI_nat (by omega), ← List.getElem?_eq_getElem (by omega), hd]
        have hb0 : (0 : Int) < (b : Int) + 1 := by omega
        have n := hS.push (a' := 0) (b' := b) (x := (cPut, ((0 : Nat) : Int), [d])) (Nat.le_refl _) (by omega) (by
          rw [drop_s hd]; exact st_put (x := []) rfl) (by rw [dD_0, dD_0]) (gd_put (List.mem_of_getElem? hd))
        simp -dsimp -implicitDefEqProofs [hb0, ad, hz]
        exact ⟨b, by omega, (hJ _ _).mpr ⟨0, b, _, by omega, by rw [sL_push]; rfl, n⟩⟩
    | succ a =>
      obtain ⟨c, hc⟩ : ∃ c, u[a]? = some c := ⟨_, List.getElem?_eq_getElem (by omega)⟩
      have ac : atI u (a : Int) = some c := by
        rw [atI_nat (by omega), ← List.getElem?_eq_getElem (by omega), hc]
      have ha0 : (0 : Int) < (a : Int) + 1 := by omega
      have t1 := hat (a + 1) (by omega)
      rw [show ((a + 1 : Nat) : Int) = (a : Int) + 1 by omega] at t1
      have t2 := hat a (by omega)
      have tl : (u.take a).length = a := by rw [List.length_take]; omega
      cases b with
      | zero =>
        have r1 := rowD_at (u := u) (v := v) (a := a + 1) (k := v.length + 1) (b := 0) (by omega)
        have r2 := rowD_at (u := u) (v := v) (a := a) (k := v.length + 1) (b := 0) (by omega)
        rw [dD_a0] at r1 r2
        have r1 : atI (rowD u v (a + 1) (v.length + 1)) 0 = some (.int ((a : Int) + 1)) := by rw [show (a : Int) + 1 = ((a + 1 : Nat) : Int) by omega]; exact r1
        have r2 : atI (rowD u v a (v.length + 1)) 0 = some (.int (a : Nat)) := r2
        have n := hS.push (a' := a) (b' := 0) (x := (cTake, (a : Int), [])) (by omega) (Nat.le_refl _) (by
          rw [take_s hc, List.append_assoc]; exact st_take tl) (by rw [dD_a0, dD_a0]) gd_take
        simp -dsimp -implicitDefEqProofs [ha0, t1, t2, r1, r2, hz]
        exact ⟨a, by omega, (hJ _ _).mpr ⟨a, 0, _, by omega, by rw [sL_push]; rfl, n⟩⟩
      | succ b =>
        obtain ⟨d, hd⟩ : ∃ d, v[b]? = some d := ⟨_, List.getElem?_eq_getElem (by omega)⟩
        have ad : atI v (b : Int) = some d := by
          rw [atI_nat (by omega), ← List.getElem?_eq_getElem (by omega), hd]
        have hb0 : (0 : Int) < (b : Int) + 1 := by omega
        have r1 := rowD_at (u := u) (v := v) (a := a + 1) (k := v.length + 1) (b := b + 1) (by omega)
        have r2 := rowD_at (u := u) (v := v) (a := a) (k := v.length + 1) (b := b) (by omega)
        have r3 := rowD_at (u := u) (v := v) (a := a) (k := v.length + 1) (b := b + 1) (by omega)
        rw [show ((b + 1 : Nat) : Int) = (b : Int) + 1 by omega] at r1 r3
        have hs := dD_s (u := u) (v := v) (a := a) (b := b)
        unfold cst at hs
        rw [hc, hd] at hs
        have nP := fun h => hS.push (a' := a + 1) (b' := b) (x := (cPut, ((a + 1 : Nat) : Int), [d])) (Nat.le_refl _) (by omega) (by
          rw [drop_s hd]; exact st_put (by rw [List.length_take]; omega)) h (gd_put (List.mem_of_getElem? hd))
        have nT := fun h => hS.push (a' := a) (b' := b + 1) (x := (cTake, (a : Int), [])) (by omega) (Nat.le_refl _) (by
          rw [take_s hc, List.append_assoc]; exact st_take tl) h gd_take
        have nC := fun h => hS.push (a' := a) (b' := b) (x := (cChg, (a : Int), [d])) (by omega) (by omega) (by
          rw [take_s hc, List.append_assoc, drop_s hd]; exact st_chg tl) h (gd_chg (List.mem_of_getElem? hd))
        obtain ⟨x0, e0⟩ : ∃ x, dD u v (a + 1) (b + 1) = x := ⟨_, rfl⟩
        obtain ⟨x1, e1⟩ : ∃ x, dD u v a b = x := ⟨_, rfl⟩
        obtain ⟨x2, e2⟩ : ∃ x, dD u v a (b + 1) = x := ⟨_, rfl⟩
        obtain ⟨x3, e3⟩ : ∃ x, dD u v (a + 1) b = x := ⟨_, rfl⟩
        have nS : c = d → x0 = x1 → SI u v a b F := fun h1 h2 => ⟨by omega, by omega, by rw [hS.af, take_s hc, drop_s hd, h1, List.append_assoc]; rfl, by have := hS.l; omega, hS.g⟩
        rw [e0, e1, e2, e3] at hs
        rw [e0, e1] at nC
        rw [e0, e2] at nT
        rw [e0, e3] at nP
        rw [e0] at r1
        rw [e1] at r2
        rw [e2] at r3
        have ea1 : ((a + 1 : Nat) : Int) = (a : Int) + 1 := by omega
        by_cases hcd : c = d
        · subst hcd
          rw [if_pos rfl] at hs
          by_cases h1 : x0 = x1
          · subst h1
            simp -dsimp -implicitDefEqProofs [ha0, hb0, ac, ad, t1, t2, r1, r2, gF]
            exact ⟨a + b, by omega, (hJ _ _).mpr ⟨a, b, F, rfl, rfl, nS rfl rfl⟩⟩
          · have h1I : ¬ (x0 : Int) = x1 := by omega
            by_cases h2 : x0 = x2 + 1
            · have h2I : (x0 : Int) = (x2 : Int) + 1 := by omega
              have n := nT h2
              have h1J : ¬ ((x2 : Int) + 1 = x1) := by omega
              have h1K : ¬ (x2 + 1 = x1) := by omega
              subst h2
              simp -dsimp -implicitDefEqProofs [ha0, hb0, ac, ad, t1, t2, r1, r2, r3, gF, h1J, h1K, hz]
              exact ⟨a + (b + 1), by omega, (hJ _ _).mpr ⟨a, b + 1, _, rfl, by rw [sL_push]; rfl, n⟩⟩
            · have h2I : ¬ (x0 : Int) = (x2 : Int) + 1 := by omega
              have n := nP (by omega)
              simp -dsimp -implicitDefEqProofs [ha0, hb0, ac, ad, t1, t2, r1, r2, r3, gF, h1, h1I, h2, h2I, hz]
              exact ⟨a + 1 + b, by omega, (hJ _ _).mpr ⟨a + 1, b, _, rfl, by rw [sL_push]; rfl, n⟩⟩
        · rw [if_neg fun z => hcd (Option.some.inj z)] at hs
          by_cases h1 : x0 = x1 + 1
          · have h1I : (x0 : Int) = (x1 : Int) + 1 := by omega
            have n := nC h1
            subst h1
            simp -dsimp -implicitDefEqProofs [ha0, hb0, ac, ad, t1, t2, r1, r2, gT, hcd, hz]
            exact ⟨a + b, by omega, (hJ _ _).mpr ⟨a, b, _, rfl, by rw [sL_push]; rfl, n⟩⟩
          · have h1I : ¬ (x0 : Int) = (x1 : Int) + 1 := by omega
            by_cases h2 : x0 = x2 + 1
            · have h2I : (x0 : Int) = (x2 : Int) + 1 := by omega
              have n := nT h2
              have h1J : ¬ ((x2 : Int) = x1) := by omega
              have h1K : ¬ (x2 = x1) := by omega
              subst h2
              simp -dsimp -implicitDefEqProofs [ha0, hb0, ac, ad, t1, t2, r1, r2, r3, gT, hcd, h1J, h1K, hz]
              exact ⟨a + (b + 1), by omega, (hJ _ _).mpr ⟨a, b + 1, _, rfl, by rw [sL_push]; rfl, n⟩⟩
            · have h2I : ¬ (x0 : Int) = (x2 : Int) + 1 := by omega
              have n := nP (by omega)
              simp -dsimp -implicitDefEqProofs [ha0, hb0, ac, ad, t1, t2, r1, r2, r3, gT, hcd, h1, h1I, h2, h2I, hz]
              exact ⟨a + 1 + b, by omega, (hJ _ _).mpr ⟨a + 1, b, _, rfl, by rw [sL_push]; rfl, n⟩⟩
  · obtain ⟨F, rfl, hS⟩ := (hE _).mp hτ
    have h1 := hS.af
    have h2 := hS.l
    rw [dD_0] at h2
    simp -dsimp -implicitDefEqProofs
    exact (hX _).mpr ⟨F, hS.g, by rw [h1]; simp, by omega, rfl⟩
end
end Pv.k26
set_option maxHeartbeats 1000000
namespace Pv.k26
open PySem PySem.Spec L2 Pv

structure LI (u v : Tx) (a b : Nat) (R : List Tr) : Prop where
  la : a ≤ u.length
  lb : b ≤ v.length
  af : aft (v.take b ++ u.drop a) R = some v
  l : R.length + dD u v a b = dD u v u.length v.length
  g : ∀ x ∈ R, GdS v x
theorem LI.push {u v : Tx} {a b a' b' : Nat} {R : List Tr} {x : Tr} (h : LI u v a b R) (ha : a' ≤ a) (hb : b' ≤ b) (hs : stF (v.take b' ++ u.drop a') x = some (v.take b ++ u.drop a)) (hd : dD u v a b = dD u v a' b' + 1) (hg : GdS v x) : LI u v a' b' (x :: R) :=
  ⟨Nat.le_trans ha h.la, Nat.le_trans hb h.lb, by
    show (stF _ x).bind (fun w' => aft w' R) = some v
    rw [hs]; exact h.af, by have := h.l; rw [List.length_cons]; omega, fun y hy => by
    rcases List.mem_cons.mp hy with z | z
    · rw [z]; exact hg
    · exact h.g y z⟩
theorem sL_rev {R : List Tr} {x : Tr} : sL ((x :: R).reverse.map tS) = sL (R.reverse.map tS) ++ [sV (tS x)] := by simp [sL]
section
variable {tp : Nat → Stmt} {k : Nat}
theorem lsteps_ok {u v : Tx} (hu : u.length < 1000) (hv : v.length < 1000) : ∃ F : List Tr, (∀ x ∈ F, GdS v x) ∧ aft u F = some v ∧ F.length = dD u v u.length v.length ∧ (Tk tp (k + 2)).sem "_law_steps" [.shr (.str u), .shr (.str v)] = some (.own, .lst (sL (F.map tS)), [.un, .un]) := by
  obtain ⟨X, hX⟩ : ∃ X : Kd × PV × List Sl → Prop, ∀ r, X r ↔ ∃ F : List Tr, (∀ x ∈ F, GdS v x) ∧ aft u F = some v ∧ F.length = dD u v u.length v.length ∧ r = (.own, .lst (sL (F.map tS)), [.un, .un]) := ⟨_, fun _ => Iff.rfl⟩
  suffices h : W ((Tk tp (k + 2)).sem "_law_steps" [.shr (.str u), .shr (.str v)]) X by
    obtain ⟨r, e, h⟩ := h
    obtain ⟨F, h1, h2, h3, er⟩ := (hX r).mp h
    exact ⟨F, h1, h2, h3, by rw [e, er]⟩
  have et := grid_ok (tp := tp) (k := k) hu hv
  have hat : ∀ a, a ≤ u.length → atI (tabD u v (u.length + 1)) (a : Int) = some (.lst (rowD u v a (v.length + 1))) := fun a h => tabD_at (by omega)
  have hD := dD_le (u := u) (v := v) u.length v.length
  obtain ⟨TB, hTB⟩ : ∃ TB, tabD u v (u.length + 1) = TB := ⟨_, rfl⟩
  rw [hTB] at et hat
  rw [tk_sem, lk__law_steps]
  refine runF_W rfl ?_
  simp only [e__law_steps, List.length_cons, List.length_nil, Nat.reduceAdd, Nat.reduceSub, List.replicate, List.cons_append, List.nil_append]
  unfold f__law_steps
  refine W_seqE (τ1 := [.shr (.str u), .shr (.str v), .own (.lst TB), .un, .un, .un, .un]) (by rw [← W.eq]; simp -dsimp -implicitDefEqProofs [et]) ?_
  refine W_seqE (τ1 := [.shr (.str u), .shr (.str v), .own (.lst TB), .own (.int (u.length : Nat)), .un, .un, .un]) (by rw [← W.eq]; simp -dsimp -implicitDefEqProofs) ?_
  refine W_seqE (τ1 := [.shr (.str u), .shr (.str v), .own (.lst TB), .own (.int (u.length : Nat)), .own (.int (v.length : Nat)), .un, .un]) (by rw [← W.eq]; simp -dsimp -implicitDefEqProofs) ?_
  refine W_seqE (τ1 := [.shr (.str u), .shr (.str v), .own (.lst TB), .own (.int (u.length : Nat)), .own (.int (v.length : Nat)), .own (.lst (sL (([] : List Tr).reverse.map tS))), .un]) (by rw [← W.eq]; simp -dsimp -implicitDefEqProofs [sL]) ?_
  obtain ⟨J, hJ⟩ : ∃ J : Nat → En → Prop, ∀ t τ, J t τ ↔ ∃ (a b : Nat) (R : List Tr) (G : List PV) (s6 : Sl), τ = [.shr (.str u), .shr (.str v), .own (.lst TB), .own (.int (a : Nat)), .own (.int (b : Nat)), .own (.lst G), s6] ∧ G = sL (R.reverse.map tS) ∧ nio s6 = true ∧ a + b ≤ u.length + v.length - t ∧ LI u v a b R := ⟨_, fun _ _ => Iff.rfl⟩
  refine W_seq (J (u.length + v.length)) ?_ fun τ hτ => ?_
  · have b3 : bd62 ((u.length : Int) + v.length) = true := bd62_lit ⟨by omega, by omega⟩
    have e3 : ((u.length : Int) + v.length).toNat = u.length + v.length := by omega
    rw [sFor_ap, W_bind]
    refine W.mono (R := fun r => r = (.shr, rgL 0 (u.length + v.length))) (by simp -dsimp -implicitDefEqProofs [b3, e3]) fun r hr => ?_
    subst hr
    simp only [reduceCtorEq, if_false]
    refine W_forL J ((hJ _ _).mpr ⟨u.length, v.length, [], _, .un, rfl, rfl, rfl, by omega, ⟨Nat.le_refl _, Nat.le_refl _, by simp [aft], by simp, fun x hx => absurd hx List.not_mem_nil⟩⟩) (fun t tv τ ht hj => ?_) fun τ hj => ⟨rfl, by rw [rgL_length] at hj; exact hj⟩
    obtain ⟨a, b, F, G, s6, rfl, hG, n6, hab, hS⟩ := (hJ _ _).mp hj
    obtain ⟨htl, rfl⟩ := rgL_get ht
    refine W.mono (R := fun τ1 => τ1 = [.shr (.str u), .shr (.str v), .own (.lst TB), .own (.int (a : Nat)), .own (.int (b : Nat)), .own (.lst G), .own (.int (t : Nat))]) (by simp -dsimp -implicitDefEqProofs [n6]) fun τ1 h1 => ?_
    subst h1
    have hFl : F.length < 16777216 := by have := hS.l; omega
    have hz : G.length < 16777216 := by rw [hG, sL_len, List.length_map, List.length_reverse]; exact hFl
    have ra := hS.la
    have rb := hS.lb
    cases a with
    | zero =>
      cases b with
      | zero =>
        simp -dsimp -implicitDefEqProofs
        exact (hJ _ _).mpr ⟨0, 0, F, G, .own (.int (t : Nat)), rfl, hG, rfl, by omega, hS⟩
      | succ b =>
        obtain ⟨d, hd⟩ : ∃ d, v[b]? = some d := ⟨_, List.getElem?_eq_getElem (by omega)⟩
        have ad : atI v (b : Int) = some d := by
          rw [atI_nat (by omega), ← List.getElem?_eq_getElem (by omega), hd]
        have hb0 : (0 : Int) < (b : Int) + 1 := by omega
        have tl : (v.take b).length = b := by rw [List.length_take]; omega
        have t0 := hat 0 (by omega)
        have t0 : atI TB 0 = some (.lst (rowD u v 0 (v.length + 1))) := t0
        have r1 := rowD_at (u := u) (v := v) (a := 0) (k := v.length + 1) (b := b + 1) (by omega)
        have r2 := rowD_at (u := u) (v := v) (a := 0) (k := v.length + 1) (b := b) (by omega)
        rw [dD_0, show ((b + 1 : Nat) : Int) = (b : Int) + 1 by omega] at r1
        rw [dD_0] at r2
        have n := hS.push (a' := 0) (b' := b) (x := (cPut, (b : Int), [d])) (Nat.le_refl _) (by omega) (by
          rw [take_s hd, List.append_assoc]; exact st_put tl) (by rw [dD_0, dD_0]) (gd_put (List.mem_of_getElem? hd))
        simp -dsimp -implicitDefEqProofs [hb0, ad, t0, r1, r2, hz]
        exact (hJ _ _).mpr ⟨0, b, _, _, .own (.int (t : Nat)), rfl, by rw [sL_rev, ← hG]; rfl, rfl, by omega, n⟩
    | succ a =>
      obtain ⟨c, hc⟩ : ∃ c, u[a]? = some c := ⟨_, List.getElem?_eq_getElem (by omega)⟩
      have ac : atI u (a : Int) = some c := by
        rw [atI_nat (by omega), ← List.getElem?_eq_getElem (by omega), hc]
      have ha0 : (0 : Int) < (a : Int) + 1 := by omega
      have t1 := hat (a + 1) (by omega)
      rw [show ((a + 1 : Nat) : Int) = (a : Int) + 1 by omega] at t1
      have t2 := hat a (by omega)
      cases b with
      | zero =>
        have n := hS.push (a' := a) (b' := 0) (x := (cTake, ((0 : Nat) : Int), [])) (by omega) (Nat.le_refl _) (by
          rw [drop_s hc]; exact st_take (x := []) rfl) (by rw [dD_a0, dD_a0]) gd_take
        simp -dsimp -implicitDefEqProofs [ha0, hz]
        exact (hJ _ _).mpr ⟨a, 0, _, _, .own (.int (t : Nat)), rfl, by rw [sL_rev, ← hG]; rfl, rfl, by omega, n⟩
      | succ b =>
        obtain ⟨d, hd⟩ : ∃ d, v[b]? = some d := ⟨_, List.getElem?_eq_getElem (by omega)⟩
        have ad : atI v (b : Int) = some d := by
          rw [atI_nat (by omega), ← List.getElem?_eq_getElem (by omega), hd]
        have hb0 : (0 : Int) < (b : Int) + 1 := by omega
        have tl : (v.take b).length = b := by rw [List.length_take]; omega
        have tl1 : (v.take (b + 1)).length = b + 1 := by rw [List.length_take]; omega
        have r1 := rowD_at (u := u) (v := v) (a := a + 1) (k := v.length + 1) (b := b + 1) (by omega)
        have r2 := rowD_at (u := u) (v := v) (a := a) (k := v.length + 1) (b := b) (by omega)
        have r3 := rowD_at (u := u) (v := v) (a := a + 1) (k := v.length + 1) (b := b) (by omega)
        rw [show ((b + 1 : Nat) : Int) = (b : Int) + 1 by omega] at r1
        have hs := dD_s (u := u) (v := v) (a := a) (b := b)
        unfold cst at hs
        rw [hc, hd] at hs
        have nP := fun h => hS.push (a' := a + 1) (b' := b) (x := (cPut, (b : Int), [d])) (Nat.le_refl _) (by omega) (by
          rw [take_s hd, List.append_assoc]; exact st_put tl) h (gd_put (List.mem_of_getElem? hd))
        have nT := fun h => hS.push (a' := a) (b' := b + 1) (x := (cTake, ((b + 1 : Nat) : Int), [])) (by omega) (Nat.le_refl _) (by
          rw [drop_s hc]; exact st_take tl1) h gd_take
        have nC := fun h => hS.push (a' := a) (b' := b) (x := (cChg, (b : Int), [d])) (by omega) (by omega) (by
          rw [take_s hd, List.append_assoc, drop_s hc]; exact st_chg tl) h (gd_chg (List.mem_of_getElem? hd))
        obtain ⟨x0, e0⟩ : ∃ x, dD u v (a + 1) (b + 1) = x := ⟨_, rfl⟩
        obtain ⟨x1, e1⟩ : ∃ x, dD u v a b = x := ⟨_, rfl⟩
        obtain ⟨x2, e2⟩ : ∃ x, dD u v a (b + 1) = x := ⟨_, rfl⟩
        obtain ⟨x3, e3⟩ : ∃ x, dD u v (a + 1) b = x := ⟨_, rfl⟩
        have nS : c = d → x0 = x1 → LI u v a b F := fun h1 h2 => ⟨by omega, by omega, by rw [← hS.af, take_s hd, drop_s hc, h1, List.append_assoc]; rfl, by have := hS.l; omega, hS.g⟩
        rw [e0, e1, e2, e3] at hs
        rw [e0, e1] at nC
        rw [e0, e2] at nT
        rw [e0, e3] at nP
        rw [e0] at r1
        rw [e1] at r2
        rw [e3] at r3
        by_cases hm : c = d ∧ x0 = x1
        · obtain ⟨hcd, h1⟩ := hm
          have n := nS hcd h1
          subst hcd
          subst h1
          simp -dsimp -implicitDefEqProofs [ha0, hb0, ac, ad, t1, t2, r1, r2]
          exact (hJ _ _).mpr ⟨a, b, F, G, .own (.int (t : Nat)), rfl, hG, rfl, by omega, n⟩
        · by_cases h3 : x0 = x3 + 1
          · have n := nP h3
            have fin : J (t + 1) [.shr (.str u), .shr (.str v), .own (.lst TB), .own (.int ((a + 1 : Nat) : Int)), .own (.int (b : Nat)), .own (.lst (G ++ [.tup [.str [112, 117, 116], .int (b : Nat), .str [d]]])), .own (.int (t : Nat))] := (hJ _ _).mpr ⟨a + 1, b, _, _, .own (.int (t : Nat)), rfl, by rw [sL_rev, ← hG]; rfl, rfl, by omega, n⟩
            rw [show ((a + 1 : Nat) : Int) = (a : Int) + 1 by omega] at fin
            by_cases hcd : c = d
            · have h1 : ¬ x3 + 1 = x1 := fun z => hm ⟨hcd, by omega⟩
              have h1I : ¬ (x3 : Int) + 1 = x1 := by omega
              subst hcd
              subst h3
              simp -dsimp -implicitDefEqProofs [ha0, hb0, ac, ad, t1, t2, r1, r2, r3, h1, h1I, hz]
              exact fin
            · subst h3
              simp -dsimp -implicitDefEqProofs [ha0, hb0, ac, ad, t1, t2, r1, r2, r3, hcd, hz]
              exact fin
          · have h3I : ¬ (x0 : Int) = (x3 : Int) + 1 := by omega
            by_cases h1 : x0 = x1 + 1
            · have n := nC h1
              have fin : J (t + 1) [.shr (.str u), .shr (.str v), .own (.lst TB), .own (.int (a : Nat)), .own (.int (b : Nat)), .own (.lst (G ++ [.tup [.str [99, 104, 97, 110, 103, 101], .int (b : Nat), .str [d]]])), .own (.int (t : Nat))] := (hJ _ _).mpr ⟨a, b, _, _, .own (.int (t : Nat)), rfl, by rw [sL_rev, ← hG]; rfl, rfl, by omega, n⟩
              have hcd : ¬ c = d := fun z => by
                rw [if_pos (by rw [z])] at hs; omega
              have h4 : ¬ (x1 : Int) = x3 := by omega
              have h4n : ¬ x1 = x3 := by omega
              subst h1
              simp -dsimp -implicitDefEqProofs [ha0, hb0, ac, ad, t1, t2, r1, r2, r3, hcd, h4, h4n, hz]
              exact fin
            · have h1I : ¬ (x0 : Int) = (x1 : Int) + 1 := by omega
              have h2 : x0 = x2 + 1 := by
                by_cases hcd : c = d
                · rw [if_pos (by rw [hcd])] at hs
                  have : ¬ x0 = x1 := fun z => hm ⟨hcd, z⟩
                  omega
                · rw [if_neg fun z => hcd (Option.some.inj z)] at hs
                  omega
              have n := nT h2
              have fin : J (t + 1) [.shr (.str u), .shr (.str v), .own (.lst TB), .own (.int (a : Nat)), .own (.int ((b + 1 : Nat) : Int)), .own (.lst (G ++ [.tup [.str [116, 97, 107, 101], .int ((b + 1 : Nat) : Int), .str []]])), .own (.int (t : Nat))] := (hJ _ _).mpr ⟨a, b + 1, _, _, .own (.int (t : Nat)), rfl, by rw [sL_rev, ← hG]; rfl, rfl, by omega, n⟩
              rw [show ((b + 1 : Nat) : Int) = (b : Int) + 1 by omega] at fin
              by_cases hcd : c = d
              · have h0 : ¬ x0 = x1 := fun z => hm ⟨hcd, z⟩
                have h0I : ¬ (x0 : Int) = x1 := by omega
                subst hcd
                simp -dsimp -implicitDefEqProofs [ha0, hb0, ac, ad, t1, t2, r1, r2, r3, h0, h0I, h1, h1I, h3, h3I, hz]
                exact fin
              · simp -dsimp -implicitDefEqProofs [ha0, hb0, ac, ad, t1, t2, r1, r2, r3, hcd, h1, h1I, h3, h3I, hz]
                exact fin
  · obtain ⟨a, b, F, G, s6, rfl, hG, n6, hab, hS⟩ := (hJ _ _).mp hτ
    obtain ⟨rfl, rfl⟩ : a = 0 ∧ b = 0 := by omega
    have h1 := hS.af
    have h2 := hS.l
    rw [dD_0] at h2
    have er : gRev (.lst G) = some (.own, .lst (sL (F.map tS))) := by
      show some (if imms G = true then Kd.own else Kd.view, PV.lst G.reverse) = _
      rw [hG, if_pos sL_imms]
      simp [sL]
    simp -dsimp -implicitDefEqProofs [er]
    exact (hX _).mpr ⟨F, hS.g, by simpa using h1, by omega, rfl⟩
end
end Pv.k26
set_option maxHeartbeats 1000000
namespace Pv.k26
open PySem PySem.Spec L2 Pv

def spOk : Sp → Prop
  | .t _ _ l => LtOk l
  | _ => True
theorem ltA : LtOk [97] := ⟨by simp, fun c h => by rw [List.mem_singleton.mp h]; decide⟩
theorem ltB : LtOk [98] := ⟨by simp, fun c h => by rw [List.mem_singleton.mp h]; decide⟩
theorem ltZ : LtOk [122] := ⟨by simp, fun c h => by rw [List.mem_singleton.mp h]; decide⟩
theorem ltN : LtOk [] := ⟨by simp, fun c h => absurd h List.not_mem_nil⟩
theorem ltAB : LtOk [97, 98] := ⟨by simp, fun c h => by
  simp only [List.mem_cons, List.not_mem_nil, or_false] at h
  rcases h with rfl | rfl <;> decide⟩
theorem cutT {L : List Sp} {a : Nat} : cutL (sL L) none (some (a : Int)) = sL (L.take a) := by rw [cutL_n0]; simp [sL]
theorem cutD {L : List Sp} {a : Nat} : cutL (sL L) (some (a : Int)) none = sL (L.drop a) := by rw [cutL_0n]; simp [sL]
theorem imms_app {xs ys : List PV} : imms (xs ++ ys) = (imms xs && imms ys) := by rw [imms_all, imms_all, imms_all, List.all_append]
theorem sV_data : ∀ s : Sp, isData (sV s) = true
  | .t _ _ _ => rfl
  | .a _ _ => rfl
  | .b _ _ _ => rfl
  | .c _ => rfl
  | .d => rfl
theorem sL_data : ∀ L : List Sp, isDatas (sL L) = true
  | [] => rfl
  | s :: L => by
    show (isData (sV s) && isDatas (sL L)) = true
    rw [sV_data, sL_data]; rfl
theorem gEq_nilS {L : List Sp} : gEq (.lst (sL L)) (.lst []) = some (.own, .bl (L.isEmpty)) := by
  unfold gEq
  have h1 : isData (.lst (sL L)) = true := by simpa [isData] using sL_data L
  have h2 : isData (.lst []) = true := rfl
  have h3 : min (dep (.lst (sL L))) (dep (.lst [])) ≤ 64 := Nat.le_trans (Nat.min_le_right _ _) (by decide)
  have h4 : pyEq (.lst (sL L)) (.lst []) = L.isEmpty := by cases L <;> rfl
  rw [h1, h2, decide_eq_true h3, h4]
  rfl
section
variable {tp : Nat → Stmt} {k : Nat}
theorem spoilt_ok {b : PV} {L : List Sp} {m : Nat} (hb : BoxOk b) (hL : L.length < 1000) (hm : m < 1000) (hg : ∀ s ∈ L, ∃ k p l, s = .t k p l ∧ LtOk l) :
    ∃ B b', B.length ≤ L.length + 2 ∧ (∀ s ∈ B, spOk s) ∧ BoxOk b' ∧ (Tk tp (k + 3)).sem "_law_spoilt" [.io b, .shr (.lst (sL L)), .shr (.int m)] = some (.own, .lst (sL B), [.io b', .un, .un]) := by
  obtain ⟨F, hF⟩ : ∃ F : Kd × PV × List Sl → Prop, ∀ r, F r ↔ ∃ B b', B.length ≤ L.length + 2 ∧ (∀ s ∈ B, spOk s) ∧ BoxOk b' ∧ r = (.own, .lst (sL B), [.io b', .un, .un]) := ⟨_, fun _ => Iff.rfl⟩
  suffices h : W ((Tk tp (k + 3)).sem "_law_spoilt" [.io b, .shr (.lst (sL L)), .shr (.int m)]) F by
    obtain ⟨r, e, h⟩ := h
    obtain ⟨s, b', h1, h2, h3, er⟩ := (hF r).mp h
    exact ⟨s, b', h1, h2, h3, by rw [e, er]⟩
  have hok : ∀ s ∈ L, spOk s := fun s hs => by
    obtain ⟨k, p, l, rfl, h⟩ := hg s hs
    exact h
  have fin : ∀ xs B b', xs = sL B → BoxOk b' → B.length ≤ L.length + 2 → (∀ s ∈ B, s ∈ L ∨ spOk s) → F (.own, .lst xs, [.io b', .un, .un]) := fun xs B b' e h1 h2 h3 => by
    rw [e]; exact (hF _).mpr ⟨B, b', h2, fun s hs => (h3 s hs).elim (hok s) id, h1, rfl⟩
  have hdr : DrawOk (Tk tp (k + 2)) := drawT (k := k + 1)
  have hpk : PickOk (Tk tp (k + 2)) := pickT (k := k)
  have hpl : PickLOk (Tk tp (k + 2)) := pickLT (k := k)
  obtain ⟨q', b1, hq0, hq1, hb1, eq⟩ := hdr b 14 hb (by omega)
  obtain ⟨q, rfl⟩ : ∃ n : Nat, q' = n := ⟨q'.toNat, by omega⟩
  obtain ⟨x', b2, hx0, hx1, hb2, ex⟩ := hdr b1 1000 hb1 (by omega)
  obtain ⟨x, rfl⟩ : ∃ n : Nat, x' = n := ⟨x'.toNat, by omega⟩
  obtain ⟨o', b3, ho0, ho1, hb3, eo⟩ := hdr b2 ((m : Int) + 1) hb2 (by omega)
  obtain ⟨o, rfl⟩ : ∃ n : Nat, o' = n := ⟨o'.toNat, by omega⟩
  rw [tk_sem, lk__law_spoilt]
  refine runF_W rfl ?_
  simp only [e__law_spoilt, List.length_cons, List.length_nil, Nat.reduceAdd, Nat.reduceSub, List.replicate, List.cons_append, List.nil_append]
  unfold f__law_spoilt
  obtain ⟨M, hM⟩ : ∃ M : Int, (if (L.length : Int) > 1 then (L.length : Int) else 1) = M := ⟨_, rfl⟩
  have hM0 : 0 < M := by rw [← hM]; split <;> omega
  have hMl : M = L.length ∨ (M = 1 ∧ L.length ≤ 1) := by rw [← hM]; split <;> omega
  obtain ⟨a, ha⟩ : ∃ a : Nat, (x : Int) % M = a := ⟨((x : Int) % M).toNat, by have := Int.emod_nonneg (x : Int) (show M ≠ 0 by omega); omega⟩
  have haM : (a : Int) < M := by rw [← ha]; exact Int.emod_lt_of_pos _ hM0
  have g1 : gInt (.int (x : Int)) = some (.own, .int (x : Int)) := rfl
  have im := @sL_imms
  have hM' : (if 1 < L.length then (L.length : Int) else 1) = M := by rw [← hM]; split <;> split <;> omega
  refine W_seqE (τ1 := [.io b1, .shr (.lst (sL L)), .shr (.int m), .own (.int (q : Nat)), .un, .un, .un, .un]) (by rw [← W.eq]; simp -dsimp -implicitDefEqProofs [eq]) ?_
  refine W_seqE (τ1 := [.io b1, .shr (.lst (sL L)), .shr (.int m), .own (.int (q : Nat)), .own (.lst (sL L)), .un, .un, .un]) (by rw [← W.eq]; simp -dsimp -implicitDefEqProofs [im]) ?_
  refine W_seqE (τ1 := [.io b2, .shr (.lst (sL L)), .shr (.int m), .own (.int (q : Nat)), .own (.lst (sL L)), .own (.int (a : Nat)), .un, .un]) (by rw [← W.eq]; simp -dsimp -implicitDefEqProofs [ex, g1, sL_len, hM, hM', ha, hM0]) ?_
  refine W_seqE (τ1 := [.io b3, .shr (.lst (sL L)), .shr (.int m), .own (.int (q : Nat)), .own (.lst (sL L)), .own (.int (a : Nat)), .own (.int (o : Nat)), .un]) (by rw [← W.eq]; simp -dsimp -implicitDefEqProofs [eo]) ?_
  have z1 : ∀ n, n ≤ 1010 → (sL (L.take a)).length + n ≤ 16777216 := fun n h => by rw [sL_len, List.length_take]; omega
  have z2 : ∀ n, n ≤ 1010 → (sL L).length + n ≤ 16777216 := fun n h => by rw [sL_len]; omega
  have ld : (sL (L.drop a)).length ≤ 1000 := by rw [sL_len, List.length_drop]; omega
  have lt : (sL (L.take a)).length ≤ 1000 := by rw [sL_len, List.length_take]; omega
  have gT : gSl (.lst (sL L)) none (some (a : Int)) = some (.own, .lst (sL (L.take a))) := by
    show some (if imms (cutL (sL L) none (some (a : Int))) = true then Kd.own else Kd.view, PV.lst (cutL (sL L) none (some (a : Int)))) = _
    rw [cutT, if_pos sL_imms]
  have gD : gSl (.lst (sL L)) (some (a : Int)) none = some (.own, .lst (sL (L.drop a))) := by
    show some (if imms (cutL (sL L) (some (a : Int)) none) = true then Kd.own else Kd.view, PV.lst (cutL (sL L) (some (a : Int)) none)) = _
    rw [cutD, if_pos sL_imms]
  by_cases k1 : q = 1
  · subst k1
    have y1 := z1 2 (by omega)
    have y2 : (sL (L.take a)).length + 2 + (sL (L.drop a)).length ≤ 16777216 := by omega
    have y3 : (sL (L.take a)).length + (2 + (sL (L.drop a)).length) ≤ 16777216 := by omega
    simp -dsimp -implicitDefEqProofs [gT, gD, im, imms_app, y1, y2, y3, kds]
    refine fin _ (L.take a ++ [.t cPut o [97], .t cTake o []] ++ L.drop a) b3 ?_ hb3 (by simp; omega) fun s hs => ?_
    · simp [sL, sV]
    simp only [List.mem_append, List.mem_cons, List.not_mem_nil, or_false] at hs
    rcases hs with (z | z | z) | z
    · exact .inl (List.mem_of_mem_take z)
    · rw [z]; exact .inr ltA
    · rw [z]; exact .inr ltN
    · exact .inl (List.mem_of_mem_drop z)
  have k1' : ¬ ((q : Int) = 1) := by omega
  refine W_seqE (τ1 := [.io b3, .shr (.lst (sL L)), .shr (.int m), .own (.int (q : Nat)), .own (.lst (sL L)), .own (.int (a : Nat)), .own (.int (o : Nat)), .un]) (by rw [← W.eq]; simp -dsimp -implicitDefEqProofs [k1, k1']) ?_
  by_cases k2 : q = 2
  · subst k2
    obtain ⟨p', b4, hp0, hp1, hb4, ep⟩ := hdr b3 ((m : Int) + 2) hb3 (by omega)
    have y1 := z2 1 (by omega)
    simp -dsimp -implicitDefEqProofs [im, imms_app, ep, y1, kds]
    refine fin _ (L ++ [.t cTake p' []]) b4 ?_ hb4 (by simp) fun s hs => ?_
    · simp [sL, sV]
    rcases List.mem_append.mp hs with z | z
    · exact .inl z
    · rw [List.mem_singleton.mp z]; exact .inr ltN
  have k2' : ¬ ((q : Int) = 2) := by omega
  refine W_seqE (τ1 := [.io b3, .shr (.lst (sL L)), .shr (.int m), .own (.int (q : Nat)), .own (.lst (sL L)), .own (.int (a : Nat)), .own (.int (o : Nat)), .un]) (by rw [← W.eq]; simp -dsimp -implicitDefEqProofs [k2, k2']) ?_
  by_cases k3 : q = 3
  · subst k3
    obtain ⟨y, b4, hy, hb4, ep⟩ := hpl b3 [.str [], .str [97, 98], .str [97]] hb3 (by simp) rfl
    obtain ⟨l, rfl, hl⟩ : ∃ l : Tx, y = .str l ∧ LtOk l := by
      simp only [List.mem_cons, List.not_mem_nil, or_false] at hy
      rcases hy with rfl | rfl | rfl
      · exact ⟨_, rfl, ltN⟩
      · exact ⟨_, rfl, ltAB⟩
      · exact ⟨_, rfl, ltA⟩
    have y1 := z1 1 (by omega)
    have y2 : (sL (L.take a)).length + 1 + (sL (L.drop a)).length ≤ 16777216 := by omega
    have y3 : (sL (L.take a)).length + (1 + (sL (L.drop a)).length) ≤ 16777216 := by omega
    have y4 : (sL (L.take a)).length + ((sL (L.drop a)).length + 1) ≤ 16777216 := by omega
    simp -dsimp -implicitDefEqProofs [gT, gD, im, imms_app, ep, y1, y2, y3, y4, kds]
    refine fin _ (L.take a ++ [.t cPut o l] ++ L.drop a) b4 ?_ hb4 (by simp; omega) fun s hs => ?_
    · simp [sL, sV]
    simp only [List.mem_append, List.mem_cons, List.not_mem_nil, or_false] at hs
    rcases hs with (z | z) | z
    · exact .inl (List.mem_of_mem_take z)
    · rw [z]; exact .inr hl
    · exact .inl (List.mem_of_mem_drop z)
  have k3' : ¬ ((q : Int) = 3) := by omega
  refine W_seqE (τ1 := [.io b3, .shr (.lst (sL L)), .shr (.int m), .own (.int (q : Nat)), .own (.lst (sL L)), .own (.int (a : Nat)), .own (.int (o : Nat)), .un]) (by rw [← W.eq]; simp -dsimp -implicitDefEqProofs [k3, k3']) ?_
  by_cases k4 : q = 4
  · subst k4
    obtain ⟨y, b4, hy, hb4, ep⟩ := hpl b3 [.tup [.str [109, 111, 118, 101], .int 0, .str [97]], .tup [.str [], .int 0, .str [97]], .tup [.str [99, 104, 97, 110, 103, 101], .int (m : Nat), .str [97]], .tup [.str [112, 117, 116], .int (m : Nat), .str [97]]] hb3 (by simp) rfl
    obtain ⟨kk, p, rfl⟩ : ∃ (kk : Tx) (p : Int), y = .tup [.str kk, .int p, .str [97]] := by
      simp only [List.mem_cons, List.not_mem_nil, or_false] at hy
      rcases hy with rfl | rfl | rfl | rfl
      · exact ⟨_, _, rfl⟩
      · exact ⟨_, _, rfl⟩
      · exact ⟨_, _, rfl⟩
      · exact ⟨_, _, rfl⟩
    have y1 := z2 1 (by omega)
    simp -dsimp -implicitDefEqProofs [im, imms_app, ep, y1, kds]
    refine fin _ (L ++ [.t kk p [97]]) b4 ?_ hb4 (by simp) fun s hs => ?_
    · simp [sL, sV]
    rcases List.mem_append.mp hs with z | z
    · exact .inl z
    · rw [List.mem_singleton.mp z]; exact .inr ltA
  have k4' : ¬ ((q : Int) = 4) := by omega
  refine W_seqE (τ1 := [.io b3, .shr (.lst (sL L)), .shr (.int m), .own (.int (q : Nat)), .own (.lst (sL L)), .own (.int (a : Nat)), .own (.int (o : Nat)), .un]) (by rw [← W.eq]; simp -dsimp -implicitDefEqProofs [k4, k4']) ?_
  by_cases k5 : q = 5
  · subst k5
    have y1 : 1 + (sL L).length ≤ 16777216 := by rw [sL_len]; omega
    have y2 : 1 + (sL L).length + 1 ≤ 16777216 := by rw [sL_len]; omega
    have y3 : (sL L).length + 1 ≤ 16777216 := by rw [sL_len]; omega
    have y4 : (sL L).length + 1 + 1 ≤ 16777216 := by rw [sL_len]; omega
    have y5 : 1 + (sL L).length ≤ 16777215 := by rw [sL_len]; omega
    have y6 : (sL L).length + 1 ≤ 16777215 := by rw [sL_len]; omega
    simp -dsimp -implicitDefEqProofs [im, imms_app, y1, y2, y3, y4, y5, y6, kds]
    refine fin _ ([.t cPut 0 [97]] ++ L ++ [.t cTake 0 []]) b3 ?_ hb3 (by simp) fun s hs => ?_
    · simp [sL, sV]
    simp only [List.mem_append, List.mem_cons, List.not_mem_nil, or_false] at hs
    rcases hs with (z | z) | z
    · rw [z]; exact .inr ltA
    · exact .inl z
    · rw [z]; exact .inr ltN
  have k5' : ¬ ((q : Int) = 5) := by omega
  refine W_seqE (τ1 := [.io b3, .shr (.lst (sL L)), .shr (.int m), .own (.int (q : Nat)), .own (.lst (sL L)), .own (.int (a : Nat)), .own (.int (o : Nat)), .un]) (by rw [← W.eq]; simp -dsimp -implicitDefEqProofs [k5, k5']) ?_
  have gn := gEq_nilS (L := L)
  by_cases hn : L = [] ∨ q = 0
  · by_cases hn1 : L = []
    · have : L.isEmpty = true := by rw [hn1]; rfl
      rw [this] at gn
      simp -dsimp -implicitDefEqProofs [gn, kds]
      exact fin _ L b3 rfl hb3 (by omega) fun s hs => .inl hs
    · have : L.isEmpty = false := by cases L with
        | nil => exact absurd rfl hn1
        | cons _ _ => rfl
      have h0 : q = 0 := hn.resolve_left hn1
      subst h0
      rw [this] at gn
      simp -dsimp -implicitDefEqProofs [gn, kds]
      exact fin _ L b3 rfl hb3 (by omega) fun s hs => .inl hs
  have hn1 : ¬ L = [] := fun z => hn (.inl z)
  have k0 : ¬ q = 0 := fun z => hn (.inr z)
  have k0' : ¬ ((q : Int) = 0) := by omega
  have hemp : L.isEmpty = false := by cases L with
    | nil => exact absurd rfl hn1
    | cons _ _ => rfl
  rw [hemp] at gn
  have hl0 : 0 < L.length := List.length_pos_iff.mpr hn1
  have haL : a < L.length := by omega
  refine W_seqE (τ1 := [.io b3, .shr (.lst (sL L)), .shr (.int m), .own (.int (q : Nat)), .own (.lst (sL L)), .own (.int (a : Nat)), .own (.int (o : Nat)), .un]) (by rw [← W.eq]; simp -dsimp -implicitDefEqProofs [gn, k0, k0', kds]) ?_
  obtain ⟨kk, p, l, hs, hlt⟩ := hg L[a] (List.getElem_mem haL)
  have aat : atI (sL L) (a : Int) = some (.tup [.str kk, .int p, .str l]) := by
    rw [atI_nat (by rw [sL_len]; exact haL)]
    simp [sL, hs, sV]
  refine W_seqE (τ1 := [.io b3, .shr (.lst (sL L)), .shr (.int m), .own (.int (q : Nat)), .own (.lst (sL L)), .own (.int (a : Nat)), .own (.int (o : Nat)), .own (.tup [.str kk, .int p, .str l])]) (by rw [← W.eq]; simp -dsimp -implicitDefEqProofs [aat]) ?_
  have x0 : ixN 3 0 = some 0 := rfl
  have x1 : ixN 3 1 = some 1 := rfl
  have x2 : ixN 3 2 = some 2 := rfl
  have ixa : ixN L.length (a : Int) = some a := ixN_nat haL
  have set_ : ∀ s : Sp, (sL L).set a (sV s) = sL (L.set a s) := fun s => by simp [sL]
  have set_mem : ∀ s : Sp, spOk s → ∀ y ∈ L.set a s, y ∈ L ∨ spOk y := fun s h y hy => by
    rcases List.mem_or_eq_of_mem_set hy with z | z
    · exact .inl z
    · rw [z]; exact .inr h
  have finS : ∀ (s : Sp) b', spOk s → BoxOk b' → F (.own, .lst ((sL L).set a (sV s)), [.io b', .un, .un]) := fun s b' h1 h2 => fin _ (L.set a s) b' (set_ s) h2 (by simp) (set_mem s h1)
  by_cases k6 : q = 6
  · subst k6
    have ba : bd62 (a : Int) = true := bd62_lit ⟨by omega, by omega⟩
    have ge : (sL L)[a]? = some (.tup [.str kk, .int p, .str l]) := by
      rw [List.getElem?_eq_getElem (by rw [sL_len]; exact haL)]
      simp [sL, hs, sV]
    simp -dsimp -implicitDefEqProofs [sL_len, ixa, ba, ge]
    refine fin _ (L.eraseIdx a) b3 ?_ hb3 (by rw [List.length_eraseIdx]; split <;> omega) fun s hs => .inl (List.mem_of_mem_eraseIdx hs)
    exact map_erase _ _ _
  have k6' : ¬ ((q : Int) = 6) := by omega
  by_cases k7 : q = 7
  · subst k7
    obtain ⟨y, b4, hy, hb4, ep⟩ := hpl b3 [.int (-1), .int 1, .int 20, .int (-20)] hb3 (by simp) rfl
    obtain ⟨w, rfl⟩ : ∃ w : Int, y = .int w := by
      simp only [List.mem_cons, List.not_mem_nil, or_false] at hy
      rcases hy with rfl | rfl | rfl | rfl <;> exact ⟨_, rfl⟩
    have f := finS (.t kk (p + w) l) b4 hlt hb4
    simp only [sV] at f
    simp -dsimp -implicitDefEqProofs [atI, x0, x1, x2, ep, sL_len, ixa, gNeg, kds]
    exact f
  have k7' : ¬ ((q : Int) = 7) := by omega
  by_cases k8 : q = 8
  · subst k8
    obtain ⟨y, b4, hy, hb4, ep⟩ := hpl b3 [.str [98], .str [97, 98], .str [], .str [122]] hb3 (by simp) rfl
    obtain ⟨l2, rfl, hl2⟩ : ∃ l2 : Tx, y = .str l2 ∧ LtOk l2 := by
      simp only [List.mem_cons, List.not_mem_nil, or_false] at hy
      rcases hy with rfl | rfl | rfl | rfl
      · exact ⟨_, rfl, ltB⟩
      · exact ⟨_, rfl, ltAB⟩
      · exact ⟨_, rfl, ltN⟩
      · exact ⟨_, rfl, ltZ⟩
    have f := finS (.t kk p l2) b4 hl2 hb4
    simp only [sV] at f
    simp -dsimp -implicitDefEqProofs [atI, x0, x1, x2, ep, sL_len, ixa, kds]
    exact f
  have k8' : ¬ ((q : Int) = 8) := by omega
  by_cases k9 : q = 9
  · subst k9
    obtain ⟨y, b4, hy, hb4, ep⟩ := hpl b3 [.str [112, 117, 116], .str [116, 97, 107, 101], .str [99, 104, 97, 110, 103, 101], .str [107, 101, 101, 112]] hb3 (by simp) rfl
    obtain ⟨k2, rfl⟩ : ∃ k2 : Tx, y = .str k2 := by
      simp only [List.mem_cons, List.not_mem_nil, or_false] at hy
      rcases hy with rfl | rfl | rfl | rfl <;> exact ⟨_, rfl⟩
    have f := finS (.t k2 p l) b4 hlt hb4
    simp only [sV] at f
    simp -dsimp -implicitDefEqProofs [atI, x0, x1, x2, ep, sL_len, ixa, kds]
    exact f
  have k9' : ¬ ((q : Int) = 9) := by omega
  by_cases k10 : q = 10
  · subst k10
    obtain ⟨y, b4, hy, hb4, ep⟩ := hpl b3 [.tup [.str kk, .int p], .tup [.str kk, .int p, .str l, .str []], .tup [.str kk], .tup []] hb3 (by simp) rfl
    obtain ⟨s, rfl, hsp⟩ : ∃ s : Sp, y = sV s ∧ spOk s := by
      simp only [List.mem_cons, List.not_mem_nil, or_false] at hy
      rcases hy with rfl | rfl | rfl | rfl
      · exact ⟨.a kk p, rfl, trivial⟩
      · exact ⟨.b kk p l, rfl, trivial⟩
      · exact ⟨.c kk, rfl, trivial⟩
      · exact ⟨.d, rfl, trivial⟩
    have f := finS s b4 hsp hb4
    have c2 : cutL [PV.str kk, .int p, .str l] none (some 2) = [.str kk, .int p] := cutL_n0 (b := 2)
    have c1 : cutL [PV.str kk, .int p, .str l] none (some 1) = [.str kk] := cutL_n0 (b := 1)
    have gs : ∀ lo hi, gSl (.tup [PV.str kk, .int p, .str l]) lo hi = some (kdOf (.tup (cutL [PV.str kk, .int p, .str l] lo hi)) .view, .tup (cutL [PV.str kk, .int p, .str l] lo hi)) := fun _ _ => rfl
    have gd : gAdd (.tup [PV.str kk, .int p, .str l]) (.tup [.str []]) = some (.own, .tup [.str kk, .int p, .str l, .str []]) := rfl
    simp -dsimp -implicitDefEqProofs [gs, c1, c2, gd, ep, sL_len, ixa, kds, sV_imm]
    exact f
  have k10' : ¬ ((q : Int) = 10) := by omega
  by_cases k11 : q = 11
  · subst k11
    have er : gRev (.lst (sL L)) = some (.own, .lst (sL L.reverse)) := by
      show some (if imms (sL L) = true then Kd.own else Kd.view, PV.lst (sL L).reverse) = _
      rw [if_pos sL_imms]; simp [sL]
    simp -dsimp -implicitDefEqProofs [er, im]
    exact fin _ L.reverse b3 rfl hb3 (by simp) fun s hs => .inl (List.mem_reverse.mp hs)
  have k11' : ¬ ((q : Int) = 11) := by omega
  by_cases k12 : q = 12
  · subst k12
    have y1 : (sL L).length < 16777216 := by rw [sL_len]; omega
    simp -dsimp -implicitDefEqProofs [aat, y1, im, imms_app]
    refine fin _ (L ++ [.t kk p l]) b3 ?_ hb3 (by simp) fun s hs => ?_
    · simp [sL, sV]
    rcases List.mem_append.mp hs with z | z
    · exact .inl z
    · rw [List.mem_singleton.mp z]; exact .inr hlt
  have k12' : ¬ ((q : Int) = 12) := by omega
  have f := finS (.t kk (-1) l) b3 hlt hb3
  simp only [sV] at f
  simp -dsimp -implicitDefEqProofs [k6, k6', k7, k7', k8, k8', k9, k9', k10, k10', k11, k11', k12, k12', atI, x0, x1, x2, sL_len, ixa, gNeg, kds]
  exact f
end
end Pv.k26
set_option maxHeartbeats 1000000
namespace Pv.k26
open PySem PySem.Spec L2 Pv

theorem trs_map : ∀ F : List Tr, trs (F.map tS) = F
  | [] => rfl
  | x :: F => by
    show (x.1, x.2.1, x.2.2) :: trs (F.map tS) = x :: F
    rw [trs_map F]
theorem shB_good {u v : Tx} {F : List Tr} {most : Int} (hg : ∀ x ∈ F, GdS v x) (ha : aft u F = some v) : shB u v (F.map tS) most = decide ((F.length : Int) ≤ most) := by
  have h1 : (F.map tS).all well = true := List.all_eq_true.mpr fun s hs => by
    obtain ⟨x, hx, rfl⟩ := List.mem_map.mp hs
    exact (hg x hx).1
  unfold shB
  rw [h1, trs_map, ha, List.length_map]
  simp
theorem aft_len {u w : Tx} : ∀ {F : List Tr}, (∀ x ∈ F, x.2.2.length ≤ 2) → aft u F = some w → w.length ≤ u.length + 2 * F.length := fun {F} => by
  induction F generalizing u with
  | nil => intro _ h; cases h; simp
  | cons x F ih =>
    intro hl h
    have h : (stF u x).bind (fun w' => aft w' F) = some w := h
    cases e : stF u x with
    | none => rw [e] at h; cases h
    | some w' =>
      rw [e] at h
      have h1 := stF_len e (hl x List.mem_cons_self)
      have h2 := ih (fun y hy => hl y (List.mem_cons_of_mem _ hy)) h
      rw [List.length_cons]; omega
theorem aft_mem {u w : Tx} {F : List Tr} (hu : ∀ c ∈ u, c ∈ lets) (hl : ∀ x ∈ F, ∀ c ∈ x.2.2, c ∈ lets) (h : aft u F = some w) : ∀ c ∈ w, c ∈ lets := by
  induction F generalizing u with
  | nil => cases h; exact hu
  | cons x F ih =>
    have h : (stF u x).bind (fun w' => aft w' F) = some w := h
    cases e : stF u x with
    | none => rw [e] at h; cases h
    | some w' =>
      rw [e] at h
      exact ih (fun c hc => (stF_mem e hc).elim (hu c) (hl x List.mem_cons_self c)) (fun y hy => hl y (List.mem_cons_of_mem _ hy)) h
theorem plain_lets : lets.all plainC = true := by decide
theorem okS_l {s : Tx} (h : ∀ c ∈ s, c ∈ lets) (hl : s.length ≤ 1000000) : okS (.str s) = true := by
  have : s.all plainC = true := List.all_eq_true.mpr fun c hc => List.all_eq_true.mp plain_lets c (h c hc)
  simp only [okS, this, Bool.true_and]
  exact decide_eq_true (by omega)
theorem pyEq_sV : ∀ s : Sp, pyEq (sV s) (sV s) = true
  | .t k p l => by simp [sV, pyEq, pyEqs]
  | .a k p => by simp [sV, pyEq, pyEqs]
  | .b k p l => by simp [sV, pyEq, pyEqs]
  | .c k => by simp [sV, pyEq, pyEqs]
  | .d => by simp [sV, pyEq, pyEqs]
theorem pyEqs_sL : ∀ L : List Sp, pyEqs (sL L) (sL L) = true
  | [] => rfl
  | s :: L => by
    show (pyEq (sV s) (sV s) && pyEqs (sL L) (sL L)) = true
    rw [pyEq_sV, pyEqs_sL L]; rfl
theorem dep_sV : ∀ s : Sp, dep (sV s) ≤ 1
  | .t k p l => by simp [sV, dep, deps]
  | .a k p => by simp [sV, dep, deps]
  | .b k p l => by simp [sV, dep, deps]
  | .c k => by simp [sV, dep, deps]
  | .d => by simp [sV, dep, deps]
theorem gNe_sL {L : List Sp} : gNe (.lst (sL L)) (.lst (sL L)) = some (.own, .bl false) := by
  unfold gNe
  have h1 : isData (.lst (sL L)) = true := by simpa [isData] using sL_data L
  have hd : dep (.lst (sL L)) ≤ 2 := by
    have : deps (sL L) ≤ 1 := deps_le fun x hx => by
      obtain ⟨s, _, rfl⟩ := List.mem_map.mp hx
      exact dep_sV s
    simp only [dep]; omega
  have h3 : min (dep (.lst (sL L))) (dep (.lst (sL L))) ≤ 64 := by omega
  have h4 : pyEq (.lst (sL L)) (.lst (sL L)) = true := pyEqs_sL L
  rw [h1, decide_eq_true h3, h4]
  rfl
def p1 : PV → Bool
  | .tup [.str k, .int _, .str _] => kOk k
  | _ => false
def p2 : PV → Bool
  | .tup [.str k, .int _, .str l] => decide (l.length = if k = cTake then 0 else 1)
  | _ => false
theorem plain_of : ∀ {B : List Sp}, (∀ s ∈ B, spOk s) → ∃ P1 P : List Tr, (sL B).filter p1 = sL (P1.map tS) ∧ (sL (P1.map tS)).filter p2 = sL (P.map tS) ∧ P.length ≤ B.length ∧ P1.length ≤ B.length ∧ ∀ x ∈ P, LtOk x.2.2
  | [], _ => ⟨[], [], rfl, rfl, Nat.le_refl _, Nat.le_refl _, fun _ h => absurd h List.not_mem_nil⟩
  | s :: B, h => by
    obtain ⟨P1, P, h1, h2, h3, h5, h4⟩ := plain_of (B := B) fun x hx => h x (List.mem_cons_of_mem _ hx)
    have h0 := h s List.mem_cons_self
    have e : sL (s :: B) = sV s :: sL B := rfl
    rw [e, List.filter_cons]
    cases hp : p1 (sV s) with
    | false =>
      refine ⟨P1, P, by simpa using h1, h2, by rw [List.length_cons]; omega, by rw [List.length_cons]; omega, h4⟩
    | true =>
      cases s with
      | t k p l =>
        have e2 : ∀ P : List Tr, sL (((k, p, l) :: P).map tS) = sV (.t k p l) :: sL (P.map tS) := fun _ => rfl
        by_cases hq : p2 (sV (.t k p l)) = true
        · refine ⟨(k, p, l) :: P1, (k, p, l) :: P, by rw [e2, h1]; simp, by rw [e2, e2, List.filter_cons, if_pos hq, h2], by simp; omega, by simp; omega, fun x hx => ?_⟩
          rcases List.mem_cons.mp hx with z | z
          · rw [z]; exact h0
          · exact h4 x z
        · refine ⟨(k, p, l) :: P1, P, by rw [e2, h1]; simp, by rw [e2, List.filter_cons, if_neg hq, h2], by rw [List.length_cons]; omega, by simp; omega, h4⟩
      | a _ _ => cases hp
      | b _ _ _ => cases hp
      | c _ => cases hp
      | d => cases hp
section
variable {tp : Nat → Stmt} {k : Nat}
theorem told_ok {u v : Tx} (hu : u.length < 400) (hv : v.length < 400) : (Tk tp (k + 4)).sem "_law_told" [.shr (.str u), .shr (.str v), .shr (.int (dD u v u.length v.length : Nat))] = some (.own, .bl true, [.un, .un, .un]) := by
  obtain ⟨F, hg, ha, hl, e1⟩ := esteps_ok (tp := tp) (k := k + 1) (u := u) (v := v) (by omega) (by omega)
  have hD := dD_le (u := u) (v := v) u.length v.length
  obtain ⟨D, hDD⟩ : ∃ D, dD u v u.length v.length = D := ⟨_, rfl⟩
  rw [hDD] at hl hD ⊢
  have s1 := shows_ok (tp := tp) (k := k + 1) (u := u) (v := v) (L := F.map tS) (most := (D : Nat)) (by omega) (by rw [List.length_map]; omega)
  have s2 := shown_ok (tp := tp) (k := k + 1) (u := u) (v := v) (L := F.map tS) (most := (D : Nat)) (by omega) (by rw [List.length_map]; omega)
  rw [shB_good hg ha, hl, decide_eq_true (Int.le_refl _)] at s1 s2
  have im := @sL_imms
  rw [tk_sem, lk__law_told, ← W.eq]
  refine runF_W rfl ?_
  simp only [e__law_told, List.length_cons, List.length_nil, Nat.reduceAdd, Nat.reduceSub, List.replicate, List.cons_append, List.nil_append]
  unfold f__law_told
  have i1 : ∀ xs, isiB "list" (.lst xs) = some true := fun _ => rfl
  have i2 : ∀ xs, isiB "tuple" (.tup xs) = some true := fun _ => rfl
  have i3 : ∀ x, isiB "str" (.str x) = some true := fun _ => rfl
  have i4 : ∀ x, isiB "int" (.int x) = some true := fun _ => rfl
  have i5 : ∀ x, isiB "bool" (.int x) = some false := fun _ => rfl
  have i6 : isSc (.bl true) (.bl true) = some true := rfl
  refine W_seqE (τ1 := [.shr (.str u), .shr (.str v), .shr (.int (D : Nat)), .own (.lst (sL (F.map tS))), .un]) (by rw [← W.eq]; simp -dsimp -implicitDefEqProofs [e1, im]) ?_
  refine W_seqE (τ1 := [.shr (.str u), .shr (.str v), .shr (.int (D : Nat)), .own (.lst (sL (F.map tS))), .un]) (by rw [← W.eq]; simp -dsimp -implicitDefEqProofs [i1, sL_len, hl]) ?_
  obtain ⟨I, hI⟩ : ∃ I : Nat → En → Prop, ∀ i τ, I i τ ↔ ∃ s4, τ = [.shr (.str u), .shr (.str v), .shr (.int (D : Nat)), .io (.lst (sL (F.map tS))), s4] ∧ nio s4 = true := ⟨_, fun _ _ => Iff.rfl⟩
  refine W_seq (fun τ => ∃ s4, τ = [.shr (.str u), .shr (.str v), .shr (.int (D : Nat)), .own (.lst (sL (F.map tS))), s4]) ?_ fun τ hτ => ?_
  · simp -dsimp -implicitDefEqProofs only [sForN_ap, List.getElem?_cons_zero, List.getElem?_cons_succ]
    refine W_forLv (ts := sL (F.map tS)) rfl I ((hI _ _).mpr ⟨.un, rfl, rfl⟩) (by rw [sL_len, List.length_map]; omega) sL_imms (fun i t τ ht hi => ?_) fun τ hi => ?_
    · obtain ⟨s4, rfl, n4⟩ := (hI _ _).mp hi
      refine ⟨rfl, ?_⟩
      obtain ⟨s, hs, rfl⟩ := List.mem_map.mp (List.mem_of_getElem? ht)
      obtain ⟨⟨kd, p, l⟩, _, rfl⟩ := List.mem_map.mp hs
      have x0 : ixN 3 0 = some 0 := rfl
      have x1 : ixN 3 1 = some 1 := rfl
      have x2 : ixN 3 2 = some 2 := rfl
      simp -dsimp -implicitDefEqProofs [tS, sV, n4, atI, x0, x1, x2, i2, i3, i4, i5]
      exact (hI _ _).mpr ⟨_, rfl, rfl⟩
    · obtain ⟨s4, rfl, n4⟩ := (hI _ _).mp hi
      refine ⟨rfl, ?_⟩
      simp -dsimp -implicitDefEqProofs
  · obtain ⟨s4, rfl⟩ := hτ
    simp -dsimp -implicitDefEqProofs [s1, s2, i6]
end
theorem law_true (tp : Nat → Stmt) (ns : List Int) (h : ns.length ≤ 63) : ∃ kd bs, semK (tabOf tp) 90 "law" [.shr (.fz (ns.map PV.int))] = some (kd, .bl true, bs) := by
  obtain ⟨F, hF⟩ : ∃ F : Kd × PV × List Sl → Prop, ∀ r, F r ↔ ∃ kd bs, r = (kd, .bl true, bs) := ⟨_, fun _ => Iff.rfl⟩
  suffices h : W (semK (tabOf tp) 90 "law" [.shr (.fz (ns.map PV.int))]) F by
    obtain ⟨r, e, h⟩ := h
    obtain ⟨kd, bs, er⟩ := (hF r).mp h
    exact ⟨kd, bs, by rw [e, er]⟩
  rw [lk_law (k := 89)]
  have hdg : DigitsOk (Tk tp 89) := digitsT (k := 87)
  have hdr : DrawOk (Tk tp 89) := drawT (k := 88)
  have hpl : PickLOk (Tk tp 89) := pickLT (k := 87)
  have im := @sL_imms
  have esB : ∀ c : Bool, (Tk tp 89).sem "_law_same" [.shr (.bl c), .shr (.bl c)] = some (.own, .bl true, [.un, .un]) := fun c => sameT _ rfl (by simp [dep])
  have esS : ∀ s : Tx, (∀ c ∈ s, c ∈ lets) → s.length ≤ 1000 → (Tk tp 89).sem "_law_same" [.shr (.str s), .shr (.str s)] = some (.own, .bl true, [.un, .un]) := fun s h1 h2 => sameT _ (okS_l h1 (by omega)) (by simp [dep])
  have esN : (Tk tp 89).sem "_law_same" [.shr .non, .shr .non] = some (.own, .bl true, [.un, .un]) := sameT _ rfl (by simp [dep])
  obtain ⟨ds, hds, ed⟩ := hdg ns 0 14 (by omega) (by omega) (by omega) (by omega)
  refine runF_W rfl ?_
  simp only [e_law, List.length_cons, List.length_nil, Nat.reduceAdd, Nat.reduceSub, List.replicate, List.cons_append, List.nil_append]
  unfold f_law
  refine W_seqE (τ1 := [.shr (.fz (ns.map .int)), .own (.lst [.lst (ds.map .int), .int 0]), .un, .un, .un, .un, .un, .un, .un, .un, .un, .un, .un]) (by
    rw [← W.eq] ; simp -dsimp -implicitDefEqProofs [ed]) ?_
  generalize hS : Sl.shr (PV.fz (ns.map PV.int)) = S
  obtain ⟨xl, b1, hxl, hb1, el⟩ := hpl (.lst [.lst (ds.map .int), .int 0]) [.str [97, 98], .str [97, 98, 99], .str [97, 98], .str [97], .str [120, 121, 122]] ⟨ds, 0, rfl, hds⟩ (by simp) rfl
  obtain ⟨ls, rfl, hl0, hl1⟩ : ∃ ls : Tx, xl = .str ls ∧ ls ≠ [] ∧ ∀ c ∈ ls, c ∈ lets := by
    simp only [List.mem_cons, List.not_mem_nil, or_false] at hxl
    rcases hxl with rfl | rfl | rfl | rfl | rfl
    · exact ⟨_, rfl, by simp, by decide⟩
    · exact ⟨_, rfl, by simp, by decide⟩
    · exact ⟨_, rfl, by simp, by decide⟩
    · exact ⟨_, rfl, by simp, by decide⟩
    · exact ⟨_, rfl, by simp, by decide⟩
  refine W_seqE (τ1 := [S, .own b1, .own (.str ls), .un, .un, .un, .un, .un, .un, .un, .un, .un, .un]) (by
    rw [← W.eq] ; simp -dsimp -implicitDefEqProofs [el, kds]) ?_
  obtain ⟨u, b2, hu1, hu2, hb2, ew⟩ := word2_ok (tp := tp) (k := 86) (b := b1) (ls := ls) (most := 7) hb1 hl0 (by omega)
  have ew : (Tk tp 89).sem "_law_word" [.io b1, .shr (.str ls), .shr (.int 7)] = some (.own, .str u, [.io b2, .un, .un]) := ew
  refine W_seqE (τ1 := [S, .own b2, .own (.str ls), .own (.str u), .un, .un, .un, .un, .un, .un, .un, .un, .un]) (by
    rw [← W.eq] ; simp -dsimp -implicitDefEqProofs [ew]) ?_
  obtain ⟨v0, b3, hv1, hv2, hb3, ev⟩ := bent_ok (tp := tp) (k := 85) (b := b2) (w := u) (ls := ls) hb2 hl0 (by omega) hu2
  have ev : (Tk tp 89).sem "_law_bent" [.io b2, .shr (.str u), .shr (.str ls)] = some (.own, .str v0, [.io b3, .un, .un]) := ev
  refine W_seqE (τ1 := [S, .own b3, .own (.str ls), .own (.str u), .own (.str v0), .un, .un, .un, .un, .un, .un, .un, .un]) (by
    rw [← W.eq] ; simp -dsimp -implicitDefEqProofs [ev]) ?_
  refine W_seq (fun τ => ∃ (v : Tx) (b : PV), τ = [S, .own b, .own (.str ls), .own (.str u), .own (.str v), .un, .un, .un, .un, .un, .un, .un, .un] ∧ BoxOk b ∧ v.length ≤ 21 ∧ ∀ c ∈ v, c ∈ ls) ?_ fun τ hτ => ?_
  · obtain ⟨q, b4, hq0, hq1, hb4, eq⟩ := hdr b3 3 hb3 (by omega)
    by_cases h0 : q = 0
    · obtain ⟨v1, b5, hw1, hw2, hb5, ev1⟩ := bent_ok (tp := tp) (k := 85) (b := b4) (w := v0) (ls := ls) hb4 hl0 (by omega) hv2
      have ev1 : (Tk tp 89).sem "_law_bent" [.io b4, .shr (.str v0), .shr (.str ls)] = some (.own, .str v1, [.io b5, .un, .un]) := ev1
      simp -dsimp -implicitDefEqProofs [eq, h0, ev1]
      exact ⟨v1, b5, ⟨rfl, rfl⟩, hb5, by omega, hw2⟩
    · simp -dsimp -implicitDefEqProofs [eq, h0]
      exact ⟨v0, b4, ⟨rfl, rfl⟩, hb4, by omega, hv2⟩
  obtain ⟨v, b, rfl, hb, hvl, hv2⟩ := hτ
  have hul : u.length ≤ 7 := hu1
  obtain ⟨P, hg, ha, hl, eS⟩ := lsteps_ok (tp := tp) (k := 87) (u := u) (v := v) (by omega) (by omega)
  have hD := dD_le (u := u) (v := v) u.length v.length
  have tk1 := told_ok (tp := tp) (k := 85) (u := u) (v := v) (by omega) (by omega)
  have tk2 := told_ok (tp := tp) (k := 85) (u := v) (v := u) (by omega) (by omega)
  rw [← dD_sym (u := u) (v := v) _ u.length v.length (Nat.le_refl _)] at tk2
  have eg := grid_ok (tp := tp) (k := 88) (u := u) (v := v) (by omega) (by omega)
  have al := tabD_last (u := u) (v := v) (k := u.length)
  have al2 := rowD_last (u := u) (v := v) (a := u.length) (k := v.length)
  obtain ⟨D, hDD⟩ : ∃ D, dD u v u.length v.length = D := ⟨_, rfl⟩
  rw [hDD] at hl hD tk1 tk2 al2
  obtain ⟨TB, hTB⟩ : ∃ TB, tabD u v (u.length + 1) = TB := ⟨_, rfl⟩
  rw [hTB] at eg al
  obtain ⟨L, hL⟩ : ∃ L, P.map tS = L := ⟨_, rfl⟩
  have hLl : L.length = D := by rw [← hL, List.length_map, hl]
  have sg : ∀ most : Int, shB u v L most = decide ((D : Int) ≤ most) := fun most => by rw [← hL, shB_good hg ha, hl]
  rw [hL] at eS
  have hgL : ∀ s ∈ L, ∃ k p l, s = .t k p l ∧ LtOk l := fun s hs => by
    rw [← hL] at hs
    obtain ⟨x, hx, rfl⟩ := List.mem_map.mp hs
    obtain ⟨_, g1, g2⟩ := hg x hx
    exact ⟨_, _, _, rfl, by omega, fun c hc => hl1 c (hv2 c (g2 c hc))⟩
  have esh : ∀ (B : List Sp) (most : Int), B.length < 1000 → (Tk tp 89).sem "shows_edits" [.shr (.str u), .shr (.str v), .shr (.lst (sL B)), .shr (.int most)] = some (.own, .bl (shB u v B most), [.un, .un, .un, .un]) := fun B most hB => shows_ok (k := 87) (by omega) hB
  have elw : ∀ (B : List Sp) (most : Int), B.length < 1000 → (Tk tp 89).sem "_law_shown" [.shr (.str u), .shr (.str v), .shr (.lst (sL B)), .shr (.int most)] = some (.own, .bl (shB u v B most), [.un, .un, .un, .un]) := fun B most hB => shown_ok (k := 87) (by omega) hB
  refine W_seqE (τ1 := [S, .own b, .own (.str ls), .own (.str u), .own (.str v), .own (.lst (sL L)), .un, .un, .un, .un, .un, .un, .un]) (by
    rw [← W.eq] ; simp -dsimp -implicitDefEqProofs [eS, im]) ?_
  refine W_seqE (τ1 := [S, .own b, .own (.str ls), .own (.str u), .own (.str v), .own (.lst (sL L)), .own (.int (D : Nat)), .un, .un, .un, .un, .un, .un]) (by
    rw [← W.eq] ; simp -dsimp -implicitDefEqProofs [sL_len, hLl]) ?_
  have w1 := elw L (D : Nat) (by omega)
  rw [sg, decide_eq_true (Int.le_refl _)] at w1
  refine W_seqE (τ1 := [S, .own b, .own (.str ls), .own (.str u), .own (.str v), .own (.lst (sL L)), .own (.int (D : Nat)), .un, .un, .un, .un, .un, .un]) (by
    rw [← W.eq] ; simp -dsimp -implicitDefEqProofs [eg, al, al2, gNeg, w1]) ?_
  refine W_seqE (τ1 := [S, .own b, .own (.str ls), .own (.str u), .own (.str v), .own (.lst (sL L)), .own (.int (D : Nat)), .un, .un, .un, .un, .un, .un]) (by
    rw [← W.eq] ; simp -dsimp -implicitDefEqProofs [tk1, tk2]) ?_
  have w2 := esh L (D : Nat) (by omega)
  rw [sg, decide_eq_true (Int.le_refl _)] at w2
  have w3 := esh L ((D : Int) - 1) (by omega)
  rw [sg, decide_eq_false (by omega)] at w3
  have i6 : isSc (.bl true) (.bl true) = some true := rfl
  have i7 : isSc (.bl false) (.bl false) = some true := rfl
  refine W_seqE (τ1 := [S, .own b, .own (.str ls), .own (.str u), .own (.str v), .own (.lst (sL L)), .own (.int (D : Nat)), .un, .un, .un, .un, .un, .un]) (by
    rw [← W.eq] ; simp -dsimp -implicitDefEqProofs [w2, w3, i6, i7, im]) ?_
  obtain ⟨I, hI⟩ : ∃ I : En → Prop, ∀ τ, I τ ↔ ∃ (b : PV) (s7 s8 s9 s10 s11 : Sl), τ = [S, .own b, .own (.str ls), .own (.str u), .own (.str v), .own (.lst (sL L)), .own (.int (D : Nat)), s7, s8, s9, s10, s11, .un] ∧ BoxOk b ∧ nio s7 = true ∧ nio s8 = true ∧ nio s9 = true ∧ nio s10 = true ∧ nio s11 = true := ⟨_, fun _ => Iff.rfl⟩
  refine W_seq I ?_ fun τ hτ => ?_
  · have b7 : bd62 (7 : Int) = true := by decide
    rw [sFor_ap, W_bind]
    refine W.mono (R := fun r => r = (.shr, rgL 0 7)) (by simp -dsimp -implicitDefEqProofs [b7]) fun r hr => ?_
    subst hr
    simp only [reduceCtorEq, if_false]
    obtain ⟨J, hJ⟩ : ∃ J : Nat → En → Prop, ∀ i τ, J i τ ↔ I τ := ⟨fun _ => I, fun _ _ => Iff.rfl⟩
    refine W_forL J ((hJ _ _).mpr ((hI _).mpr ⟨b, .un, .un, .un, .un, .un, rfl, hb, rfl, rfl, rfl, rfl, rfl⟩)) (fun i t τ ht hj => ?_) fun τ hj => ⟨rfl, (hJ _ _).mp hj⟩
    obtain ⟨b, s7, s8, s9, s10, s11, rfl, hb, n7, n8, n9, n10, n11⟩ := (hI _).mp ((hJ _ _).mp hj)
    obtain ⟨hlt0, rfl⟩ := rgL_get ht
    refine W.mono (R := fun τ1 => τ1 = [S, .own b, .own (.str ls), .own (.str u), .own (.str v), .own (.lst (sL L)), .own (.int (D : Nat)), .own (.int ((i : Nat) : Int)), s8, s9, s10, s11, .un]) (by simp -dsimp -implicitDefEqProofs [n7]) fun τ1 h1 => ?_
    subst h1
    obtain ⟨m, hm⟩ : ∃ m : Nat, m = max u.length v.length := ⟨_, rfl⟩
    have hmI : (if (v.length : Int) > u.length then (v.length : Int) else (u.length : Int)) = (m : Int) := by split <;> omega
    have hmI2 : (if u.length < v.length then (v.length : Int) else (u.length : Int)) = (m : Int) := by split <;> omega
    obtain ⟨B, b5, hBl, hBo, hb5, eB⟩ := spoilt_ok (tp := tp) (k := 86) (b := b) (L := L) (m := m) hb (by omega) (by omega) hgL
    have eB : (Tk tp 89).sem "_law_spoilt" [.io b, .shr (.lst (sL L)), .shr (.int (m : Nat))] = some (.own, .lst (sL B), [.io b5, .un, .un]) := eB
    refine W_seqE (τ1 := [S, .own b5, .own (.str ls), .own (.str u), .own (.str v), .own (.lst (sL L)), .own (.int (D : Nat)), .own (.int ((i : Nat) : Int)), .own (.lst (sL B)), s9, s10, s11, .un]) (by
      rw [← W.eq] ; simp -dsimp -implicitDefEqProofs [hmI, hmI2, eB, n8]) ?_
    obtain ⟨y, b6, hy, hb6, ep⟩ := hpl b5 [.int 0, .int 2, .int 1, .int 5, .int (-1)] hb5 (by simp) rfl
    obtain ⟨z, rfl⟩ : ∃ z : Int, y = .int z := by
      simp only [List.mem_cons, List.not_mem_nil, or_false] at hy
      rcases hy with rfl | rfl | rfl | rfl | rfl <;> exact ⟨_, rfl⟩
    obtain ⟨mo, hmo⟩ : ∃ mo : Int, (D : Int) + z = mo := ⟨_, rfl⟩
    refine W_seqE (τ1 := [S, .own b6, .own (.str ls), .own (.str u), .own (.str v), .own (.lst (sL L)), .own (.int (D : Nat)), .own (.int ((i : Nat) : Int)), .own (.lst (sL B)), .own (.int mo), s10, s11, .un]) (by
      rw [← W.eq] ; simp -dsimp -implicitDefEqProofs [ep, gNeg, hmo, n9, kds]) ?_
    refine W_seqE (τ1 := [S, .own b6, .own (.str ls), .own (.str u), .own (.str v), .own (.lst (sL L)), .own (.int (D : Nat)), .own (.int ((i : Nat) : Int)), .own (.lst (sL B)), .own (.int mo), .own (.lst (sL B)), s11, .un]) (by
      rw [← W.eq] ; simp -dsimp -implicitDefEqProofs [n10, im]) ?_
    have q1 := esh B mo (by omega)
    have q2 := elw B mo (by omega)
    have q3 := esB (shB u v B mo)
    have gn := gNe_sL (L := B)
    refine W_seqE (τ1 := [S, .own b6, .own (.str ls), .own (.str u), .own (.str v), .own (.lst (sL L)), .own (.int (D : Nat)), .own (.int ((i : Nat) : Int)), .own (.lst (sL B)), .own (.int mo), .own (.lst (sL B)), s11, .un]) (by
      rw [← W.eq] ; simp -dsimp -implicitDefEqProofs [q1, q2, q3, gn]) ?_
    have skip : J (i + 1) [S, .own b6, .own (.str ls), .own (.str u), .own (.str v), .own (.lst (sL L)), .own (.int (D : Nat)), .own (.int ((i : Nat) : Int)), .own (.lst (sL B)), .own (.int mo), .own (.lst (sL B)), s11, .un] := (hJ _ _).mpr ((hI _).mpr ⟨b6, _, _, _, _, s11, rfl, hb6, rfl, rfl, rfl, rfl, n11⟩)
    obtain ⟨P1, P, hp1, hp2, hPl, hP1l, hPo⟩ := plain_of hBo
    have c1 : eComp (iVal (eVar 8)) [12] (gN 12) (tAndC (eTrB (eBin gEq (eCB (g1 gLen) [(eVar 12)]) (eC (.int 3)))) (eTrB (eBin gIn (eIdx (eVar 12) (eC (.int 0))) (eLst [(eC (.str [112, 117, 116])), (eC (.str [116, 97, 107, 101])), (eC (.str [99, 104, 97, 110, 103, 101]))])))) (eVar 12) [S, .own b6, .own (.str ls), .own (.str u), .own (.str v), .own (.lst (sL L)), .own (.int (D : Nat)), .own (.int ((i : Nat) : Int)), .own (.lst (sL B)), .own (.int mo), .own (.lst (sL B)), s11, .un] = some (.own, .lst (sL (P1.map tS))) := by
      rw [← W.eq]
      refine W_comp p1 id ?_
      simp -dsimp -implicitDefEqProofs [im]
      refine ⟨by rw [sL_len]; omega, fun t ht => ?_, hp1⟩
      obtain ⟨s, _, rfl⟩ := List.mem_map.mp ht
      have x0 : ixN 3 0 = some 0 := rfl
      cases s with
      | t kd p l =>
        have n3 : gIn (.str kd) (.lst [.str [112, 117, 116], .str [116, 97, 107, 101], .str [99, 104, 97, 110, 103, 101]]) = some (.own, .bl (kOk kd)) := gIn3l
        simp -dsimp -implicitDefEqProofs [sV, atI, x0, n3, p1, kds]
      | a _ _ => simp -dsimp -implicitDefEqProofs [sV, p1]
      | b _ _ _ => simp -dsimp -implicitDefEqProofs [sV, p1]
      | c _ => simp -dsimp -implicitDefEqProofs [sV, p1]
      | d => simp -dsimp -implicitDefEqProofs [sV, p1]
    have c2 : eComp (iVal (eVar 11)) [12] (gN 12) (eTrB (eBin gEq (eCB (g1 gLen) [(eIdx (eVar 12) (eC (.int 2)))]) (eCB (g1 gInt) [(eBin gNe (eIdx (eVar 12) (eC (.int 0))) (eC (.str [116, 97, 107, 101])))]))) (eVar 12) [S, .own b6, .own (.str ls), .own (.str u), .own (.str v), .own (.lst (sL L)), .own (.int (D : Nat)), .own (.int ((i : Nat) : Int)), .own (.lst (sL B)), .own (.int mo), .own (.lst (sL B)), .own (.lst (sL (P1.map tS))), .un] = some (.own, .lst (sL (P.map tS))) := by
      rw [← W.eq]
      refine W_comp p2 id ?_
      simp -dsimp -implicitDefEqProofs [im]
      refine ⟨by rw [sL_len, List.length_map]; omega, fun t ht => ?_, hp2⟩
      obtain ⟨s, hs, rfl⟩ := List.mem_map.mp ht
      obtain ⟨⟨kd, p, l⟩, _, rfl⟩ := List.mem_map.mp hs
      have x0 : ixN 3 0 = some 0 := rfl
      have x2 : ixN 3 2 = some 2 := rfl
      have gT : gInt (.bl true) = some (.own, .int 1) := rfl
      have gF : gInt (.bl false) = some (.own, .int 0) := rfl
      by_cases hk : kd = cTake
      · subst hk
        simp -dsimp -implicitDefEqProofs [tS, sV, atI, x0, x2, gF, p2]
        rw [Bool.eq_iff_iff, beq_iff_eq, decide_eq_true_eq]
        constructor
        · intro h; exact List.eq_nil_of_length_eq_zero (by omega)
        · intro h; rw [h]; rfl
      · simp -dsimp -implicitDefEqProofs [tS, sV, atI, x0, x2, gT, p2, hk]
        rw [Bool.eq_iff_iff]; simp; omega
    have z1 := after_ok (tp := tp) (k := 88) (w := u) (L := P) (by omega) (by omega) fun x hx => (hPo x hx).1
    have z2 := lafter_ok (tp := tp) (k := 88) (w := u) (L := P) (by omega) (by omega) fun x hx => (hPo x hx).1
    have z3 : (Tk tp 89).sem "_law_same" [.shr (oV (aft u P)), .shr (oV (aft u P))] = some (.own, .bl true, [.un, .un]) := by
      cases e : aft u P with
      | none => exact esN
      | some w =>
        have h1 := aft_len (fun x hx => (hPo x hx).1) e
        exact esS w (aft_mem (fun c hc => hl1 c (hu2 c hc)) (fun x hx => (hPo x hx).2) e) (by omega)
    have run : W ((sSeq (sAsg 11 (eComp (iVal (eVar 8)) [12] (gN 12) (tAndC (eTrB (eBin gEq (eCB (g1 gLen) [(eVar 12)]) (eC (.int 3)))) (eTrB (eBin gIn (eIdx (eVar 12) (eC (.int 0))) (eLst [(eC (.str [112, 117, 116])), (eC (.str [116, 97, 107, 101])), (eC (.str [99, 104, 97, 110, 103, 101]))])))) (eVar 12))) (sSeq (sAsg 11 (eComp (iVal (eVar 11)) [12] (gN 12) (eTrB (eBin gEq (eCB (g1 gLen) [(eIdx (eVar 12) (eC (.int 2)))]) (eCB (g1 gInt) [(eBin gNe (eIdx (eVar 12) (eC (.int 0))) (eC (.str [116, 97, 107, 101])))]))) (eVar 12))) (sIf (tNotC (eTru (eCall (Tk tp 89) "_law_same" [(eCall (Tk tp 89) "after_steps" [(eVar 3), (eVar 11)]), (eCall (Tk tp 89) "_law_after" [(eVar 3), (eVar 11)])]))) (sRet (eC (.bl false))) sNil))) [S, .own b6, .own (.str ls), .own (.str u), .own (.str v), .own (.lst (sL L)), .own (.int (D : Nat)), .own (.int ((i : Nat) : Int)), .own (.lst (sL B)), .own (.int mo), .own (.lst (sL B)), s11, .un]) fun r => r = (.nx, [S, .own b6, .own (.str ls), .own (.str u), .own (.str v), .own (.lst (sL L)), .own (.int (D : Nat)), .own (.int ((i : Nat) : Int)), .own (.lst (sL B)), .own (.int mo), .own (.lst (sL B)), .own (.lst (sL (P.map tS))), .un]) := by
      refine W_seqE (τ1 := [S, .own b6, .own (.str ls), .own (.str u), .own (.str v), .own (.lst (sL L)), .own (.int (D : Nat)), .own (.int ((i : Nat) : Int)), .own (.lst (sL B)), .own (.int mo), .own (.lst (sL B)), .own (.lst (sL (P1.map tS))), .un]) (by
        rw [← W.eq] ; simp -dsimp -implicitDefEqProofs [c1, n11]) ?_
      refine W_seqE (τ1 := [S, .own b6, .own (.str ls), .own (.str u), .own (.str v), .own (.lst (sL L)), .own (.int (D : Nat)), .own (.int ((i : Nat) : Int)), .own (.lst (sL B)), .own (.int mo), .own (.lst (sL B)), .own (.lst (sL (P.map tS))), .un]) (by
        rw [← W.eq] ; simp -dsimp -implicitDefEqProofs [c2]) ?_
      simp -dsimp -implicitDefEqProofs [z1, z2, z3]
    have go : J (i + 1) [S, .own b6, .own (.str ls), .own (.str u), .own (.str v), .own (.lst (sL L)), .own (.int (D : Nat)), .own (.int ((i : Nat) : Int)), .own (.lst (sL B)), .own (.int mo), .own (.lst (sL B)), .own (.lst (sL (P.map tS))), .un] := (hJ _ _).mpr ((hI _).mpr ⟨b6, _, _, _, _, _, rfl, hb6, rfl, rfl, rfl, rfl, rfl⟩)
    by_cases hsh : shB u v B mo = true ∨ i < 3
    · rw [sIf_ap, W_bind]
      refine W.mono (R := fun b => b = true) ?_ fun bb hbb => ?_
      · by_cases h1 : shB u v B mo = true
        · rw [h1] at q2
          simp -dsimp -implicitDefEqProofs [q2]
        · rw [Bool.not_eq_true] at h1
          have h3 : i < 3 := hsh.resolve_left (by rw [h1]; simp)
          have h3' : (i : Int) < 3 := by omega
          rw [h1] at q2
          simp -dsimp -implicitDefEqProofs [q2, h3, h3']
      · subst hbb
        simp only [if_true]
        refine W.mono run fun r hr => ?_
        rw [hr]
        exact go
    · have h1 : shB u v B mo = false := by rw [← Bool.not_eq_true]; exact fun z => hsh (.inl z)
      have h3 : ¬ i < 3 := fun z => hsh (.inr z)
      have h3' : ¬ (i : Int) < 3 := by omega
      rw [h1] at q2
      simp -dsimp -implicitDefEqProofs [q2, h3, h3']
      exact skip
  · obtain ⟨b, s7, s8, s9, s10, s11, rfl, hb, n7, n8, n9, n10, n11⟩ := (hI _).mp hτ
    have z1 := after_ok (tp := tp) (k := 88) (w := u) (L := []) (by omega) (by simp) fun x hx => absurd hx List.not_mem_nil
    have z1 : (Tk tp 89).sem "after_steps" [.shr (.str u), .shr (.lst [])] = some (.own, .str u, [.un, .un]) := z1
    have z2 := esS u (fun c hc => hl1 c (hu2 c hc)) (by omega)
    simp -dsimp -implicitDefEqProofs [z1, z2]
    exact (hF _).mpr ⟨_, _, rfl⟩
end Pv.k26
set_option maxHeartbeats 0
namespace Pv.k26
open PySem PySem.Spec PyProof.Rows L2 Pv
abbrev R : PySem.W.OpenRow := PySem.W.OpenLaw.row PySem.Challenge.rw_wordlands_k26_whole_steps_and_their_judg
abbrev hk : PySem.W.Hook := He.hookD 4 (faOf tab) (fnOf tab)
def ob (s : PySem.W.SharedT) : He.AlD := He.obsDG 4 (faOf tab) (fnOf tab) (HandSHeadRun.getT s)
theorem ob_eq (s : PySem.W.SharedT) : ob s = hk.obs s.abs := He.obsDG_eq (HandSHeadRun.getT_eq s)
theorem run (w : World) : HandSHeadRun.RunEq R (PySem.W.view R.prog [19]) hk ob 2000 ["edit_table", "edit_steps", "after_steps", "shows_edits", "_law_cell", "_law_digits", "_law_draw", "_law_pick", "_law_same", "_law_word", "_law_bent", "_law_grid", "_law_steps", "_law_after", "_law_shown", "_law_spoilt", "_law_told"] w := by
  intro os
  kernel_rfl
end Pv.k26
open PySem PySem.W PySem.Calls PyProof.Rows
theorem PySem.Challenge.cw_wordlands_k26_whole_steps_and_their_judg_holds : PySem.Challenge.rw_wordlands_k26_whole_steps_and_their_judg.Holds := by
  w_on; o_law
  refine HandSHeadRun.head_any (r := OpenLaw.row PySem.Challenge.rw_wordlands_k26_whole_steps_and_their_judg) (q := view (OpenLaw.row PySem.Challenge.rw_wordlands_k26_whole_steps_and_their_judg).prog [19]) (H := Pv.k26.hk) (ob := Pv.k26.ob) (M := 2000) (loose := ["edit_table", "edit_steps", "after_steps", "shows_edits", "_law_cell", "_law_digits", "_law_draw", "_law_pick", "_law_same", "_law_word", "_law_bent", "_law_grid", "_law_steps", "_law_after", "_law_shown", "_law_spoilt", "_law_told"]) (d := HandSHeadRun.topDef (OpenLaw.row PySem.Challenge.rw_wordlands_k26_whole_steps_and_their_judg).prog 19) (kwd := []) Pv.k26.ob_eq
    (by kernel_rfl) (fun s => by kernel_rfl) Pv.k26.run (by kernel_rfl) (by kernel_rfl) (by kernel_rfl) (by rfl) (by first | assumption | decide +kernel) (by decide +kernel) ⟨rfl, rfl, rfl, rfl, rfl, by decide +kernel⟩ ?hw ?hc
  case hw => w_witness2
  case hc =>
    refine L2.walk_ofE (l := PySem.Challenge.rw_wordlands_k26_whole_steps_and_their_judg) (n := 63) (k := 90) (x := "script") (CX := L2.CX0) rfl (by decide) (by kernel_rfl) ⟨rfl, by decide, by decide⟩ ?F (fun _ _ _ _ z => z)
    intro w mg fa h Y G hmg0
    obtain ⟨K, KX, c⟩ := Y
    have hmg : mg ("law" : PySem.Str) = some (.ref fa) := by
      have e : (HandSHeadRun.topDef (OpenLaw.row PySem.Challenge.rw_wordlands_k26_whole_steps_and_their_judg).prog 19).name = ("law" : PySem.Str) := by kernel_rfl
      rw [← e]
      exact hmg0
    obtain ⟨fd, hb, hF⟩ := Pv.law_facts (P := (PySem.Challenge.rw_wordlands_k26_whole_steps_and_their_judg).prog) (w := w) (tab := Pv.k26.tab) (e := Pv.k26.E_law) 90 Pv.k26.oks rfl rfl KX G hmg c
    refine ⟨K, fd, _, KX, hb, fun H a ns hl hO hS => ?_, hF⟩
    obtain ⟨kd, bs, e⟩ := Pv.k26.law_true Pv.k26.top ns hl
    exact Pv.law_sp hO hS e
