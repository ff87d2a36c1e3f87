import PyProof.Rows.All
import Wide.All
import OpenK.AllK
import Wide.FinOn
import HandS.ForExc
import HandS.TupAny
import HandS.CallSlots
import HandS.Comp
import HandS.Iter
import HandS.Style
import HandS.Wide
import HandS.WideBits
import HandS.TupMul
import HandS.IsInst
import HandS.Deep
import HandS.ExcIs
import HandS.ExcField
import HandS.TryMany
import KE.BitLaws
import HandS.More
import HandS.Dict
import HandS.Conv
import HandS.TryOnly
import HandS.Defaults
import KE.GoesMore
import KE.GoesEnum
import HandS.SortKw
import PyProof.SumAny
import HandS.RaiseFrom
import HandS.SuiteRaise
import HandS.ExcInit
import HandS.ExcInitHot
import HandS.FStr
import HandS.SetFor
import HandS.Strs
import HandS.Zip
import HandS.Sort
import HandS.TupLe
import KE.DataCmp
import KE.DataMinMax
import KE.SortData
import KE.KItemsList
import KE.KDictZip
import HandS.Text
import PySem.Challenge.RW_plugtree_k09_rows_of_plans_at_fault
set_option Elab.async false
set_option linter.all false
set_option maxRecDepth 100000
/-! Data over the hand layer: values as trees, objects that change by number. -/
namespace DL
open PySem L2

/-- a condition that no kernel reckons by itself -/
def Pr (p : Prop) : Prop := p
noncomputable instance (p : Prop) : Decidable (Pr p) := Classical.propDecidable _
@[simp] theorem Pr_iff (p : Prop) : Pr p ↔ p := Iff.rfl
noncomputable def dcd (p : Prop) : Bool := decide (Pr p)
theorem dcd_eq (p : Prop) [Decidable p] : decide p = dcd p := by
  unfold dcd
  by_cases h : p
  · rw [decide_eq_true h, decide_eq_true (show Pr p from h)]
  · rw [decide_eq_false h, decide_eq_false (show ¬ Pr p from h)]
@[simp] theorem dcd_iff (p : Prop) : dcd p = true ↔ p := by
  unfold dcd
  exact ⟨fun h => (of_decide_eq_true h : Pr p), fun h => decide_eq_true (show Pr p from h)⟩
@[simp] theorem dcd_iffF (p : Prop) : dcd p = false ↔ ¬ p := by
  unfold dcd
  exact ⟨fun h => (of_decide_eq_false h : ¬ Pr p), fun h => decide_eq_false (show ¬ Pr p from h)⟩
@[simp] theorem dcd_T : dcd True = true := (dcd_iff True).mpr trivial
@[simp] theorem dcd_F : dcd False = false := (dcd_iffF False).mpr not_false
theorem dcd_pos {p : Prop} (h : p) : dcd p = true := (dcd_iff p).mpr h
theorem dcd_neg {p : Prop} (h : ¬ p) : dcd p = false := (dcd_iffF p).mpr h
/-- data: what never changes, as a tree; obj k: the k-th object that may change -/
inductive D where
  | non | bl (b : Bool) | int (i : Int) | str (x : Str) | ref (a : Addr) | ty (n : String)
  | tup (ds : List D) | lst (ds : List D) | lsr (ds : List D) | obj (k : Nat) | exc (a dx : Addr) (ks : List Str) (ds : List D)
/-- an object that may change -/
inductive MO where
  | lst (ds : List D) | dK (kvs : List (Key × D)) | dT (kvs : List (List Key × D)) | ins (C : Str) (fs : List (Str × D)) | gone
/-- an exception: its class by name, its fields -/
structure Ex where
  cls : Str
  fs : List (Str × D)
/-- the slots and the objects -/
structure DS where
  g : List (Option D)
  m : List MO
/-- how a run ends: stuck, well, by an exception -/
inductive R (α : Type) where
  | bad
  | ok (a : α) (s : DS)
  | ex (e : Ex) (s : DS)
inductive Fl where
  | nx | rt (d : D) | bk | ct
/-- a sign that hangs on what comes behind: so simp lets that be until its time has come -/
inductive Tag {α : Type} (g : α) : Type where
  | mk
def R.bind {α β : Type} (r : R α) (g : α → DS → R β) (_ : Tag g := .mk) : R β :=
  match r with
  | .bad => .bad
  | .ok a s => g a s
  | .ex e s => .ex e s

@[simp] theorem bind_ok {α β : Type} {a : α} {s : DS} {g : α → DS → R β} : (R.ok a s).bind g = g a s := rfl
@[simp] theorem bind_ex {α β : Type} {e : Ex} {s : DS} {g : α → DS → R β} : (R.ex (α := α) e s).bind g = .ex e s := rfl
@[simp] theorem bind_bad {α β : Type} {g : α → DS → R β} : (R.bad (α := α)).bind g = .bad := rfl
/-- tuples that are known to be made by the run: they may be put as keys -/
def keyish : List D → Prop
  | [.int _, .str _] => True
  | [.int i, .int _] => i ≤ 16
  | [.int _, .int _, .str _] => True
  | _ => False
/-- a tuple at a -/
def TqT (K : PySem.W.Frag) (F : Hp) (ds : List D) (a : Addr) (vs : List V) : Prop := SqT K F a vs ∧ (keyish ds → F a = some (.tup vs))
theorem TqT.new {K : PySem.W.Frag} {F : Hp} {ds : List D} {a : Addr} {vs : List V} (h : F a = some (.tup vs)) : TqT K F ds a vs := ⟨.inl (.inl h), fun _ => h⟩
section
variable (K : PySem.W.Frag)
mutual
/-- v reads as the datum d: ρ tells where the objects stand, F what never changes -/
def Rd (ρ : List Addr) (F : Hp) : D → V → Prop
  | .non, v => v = .non
  | .bl b, v => v = .bl b
  | .int i, v => v = .int i
  | .str x, v => v = .str x
  | .ref a, v => v = .ref a
  | .ty n, v => v = .ty n
  | .tup ds, v => ∃ a vs, v = .ref a ∧ TqT K F ds a vs ∧ RdL ρ F ds vs
  | .lst ds, v => ∃ a vs, v = .ref a ∧ F a = some (.lst vs) ∧ RdL ρ F ds vs
  | .lsr ds, v => ∃ a vs, v = .ref a ∧ SqL K F a vs ∧ RdL ρ F ds vs
  | .obj k, v => ∃ a, v = .ref a ∧ ρ[k]? = some a
  | .exc a dx ks ds, v => ∃ vs, v = .ref a ∧ F dx = some (.xd (ks.zip vs)) ∧ ks.length = ds.length ∧ RdL ρ F ds vs
def RdL (ρ : List Addr) (F : Hp) : List D → List V → Prop
  | [], vs => vs = []
  | d :: ds, vs => ∃ v r, vs = v :: r ∧ Rd ρ F d v ∧ RdL ρ F ds r
end
def RdK (ρ : List Addr) (F : Hp) {κ : Type} : List (κ × D) → List (κ × V) → Prop
  | [], l => l = []
  | (k, d) :: r, l => ∃ v t, l = (k, v) :: t ∧ Rd K ρ F d v ∧ RdK ρ F r t
end

/-- what was stays; new things stand at new places -/
structure Ext (ρ : List Addr) (F H : Hp) (ρ' : List Addr) (F' H' : Hp) : Prop where
  pre : ∃ l, ρ' = ρ ++ l
  fro : Same F F'
  rest : ∀ a o, H a = some o → a ∉ ρ → H' a = some o
  newr : ∀ a, a ∈ ρ' → a ∈ ρ ∨ H a = none
  newf : ∀ a, F' a ≠ none → F a ≠ none ∨ a ∈ ρ ∨ H a = none
theorem Ext.refl (ρ : List Addr) (F H : Hp) : Ext ρ F H ρ F H := ⟨⟨[], by simp⟩, Same.refl F, fun _ _ h _ => h, fun _ h => .inl h, fun _ h => .inl h⟩
theorem Ext.trans {ρ ρ1 ρ2 : List Addr} {F F1 F2 H H1 H2 : Hp} (a : Ext ρ F H ρ1 F1 H1) (b : Ext ρ1 F1 H1 ρ2 F2 H2) : Ext ρ F H ρ2 F2 H2 := by
  have back : ∀ c, H1 c = none → c ∈ ρ ∨ H c = none := fun c e => by
    by_cases hc : c ∈ ρ
    · exact .inl hc
    · cases q : H c with
      | none => exact .inr rfl
      | some o =>
        have z := a.rest c o q hc
        rw [e] at z
        cases z
  refine ⟨?_, a.fro.trans b.fro, fun c o h hc => ?_, fun c h => ?_, fun c h => ?_⟩
  · obtain ⟨l, rfl⟩ := a.pre
    obtain ⟨l', rfl⟩ := b.pre
    exact ⟨l ++ l', by simp⟩
  · refine b.rest c o (a.rest c o h hc) fun hm => ?_
    rcases a.newr c hm with z | z
    · exact hc z
    · rw [h] at z
      cases z
  · rcases b.newr c h with z | z
    · exact a.newr c z
    · exact back c z
  · rcases b.newf c h with z | z | z
    · exact a.newf c z
    · rcases a.newr c z with y | y
      · exact .inr (.inl y)
      · exact .inr (.inr y)
    · rcases back c z with y | y
      · exact .inr (.inl y)
      · exact .inr (.inr y)

section
variable {K : PySem.W.Frag} {ρ ρ' : List Addr} {F F' H H' : Hp}
theorem sqS_mono (s : Same F F') {a : Addr} {xs : List V} (h : SqT K F a xs) : SqT K F' a xs := by
  rcases h with (h | ⟨o, h⟩) | h
  · exact .inl (.inl (s _ _ h))
  · exact .inl (.inr ⟨o, s _ _ h⟩)
  · exact .inr h
theorem sqT_mono (s : Same F F') {ds : List D} {a : Addr} {xs : List V} (h : TqT K F ds a xs) : SqT K F' a xs := sqS_mono s h.1
theorem tqT_mono (s : Same F F') {ds : List D} {a : Addr} {xs : List V} (h : TqT K F ds a xs) : TqT K F' ds a xs := ⟨sqS_mono s h.1, fun k => s _ _ (h.2 k)⟩
theorem pre_get {l : List Addr} {k : Nat} {a : Addr} (h : ρ[k]? = some a) : (ρ ++ l)[k]? = some a := by
  have := (List.getElem?_eq_some_iff.mp h).1
  rw [List.getElem?_append_left this]
  exact h
mutual
theorem Rd.mono (p : ∃ l, ρ' = ρ ++ l) (s : Same F F') : ∀ (d : D) (v : V), Rd K ρ F d v → Rd K ρ' F' d v
  | .non, _, h => h
  | .bl _, _, h => h
  | .int _, _, h => h
  | .str _, _, h => h
  | .ref _, _, h => h
  | .ty _, _, h => h
  | .tup ds, _, h => by
    simp only [Rd] at h ⊢
    obtain ⟨a, vs, e, q, r⟩ := h
    exact ⟨a, vs, e, tqT_mono s q, RdL.mono p s ds vs r⟩
  | .lst ds, _, h => by
    simp only [Rd] at h ⊢
    obtain ⟨a, vs, e, q, r⟩ := h
    exact ⟨a, vs, e, s _ _ q, RdL.mono p s ds vs r⟩
  | .lsr ds, _, h => by
    simp only [Rd] at h ⊢
    obtain ⟨a, vs, e, q, r⟩ := h
    exact ⟨a, vs, e, s.seq q, RdL.mono p s ds vs r⟩
  | .obj k, _, h => by
    simp only [Rd] at h ⊢
    obtain ⟨a, e, q⟩ := h
    obtain ⟨l, rfl⟩ := p
    exact ⟨a, e, pre_get q⟩
  | .exc _ _ ks ds, _, h => by
    simp only [Rd] at h ⊢
    obtain ⟨vs, e, q, l, r⟩ := h
    exact ⟨vs, e, s _ _ q, l, RdL.mono p s ds vs r⟩
theorem RdL.mono (p : ∃ l, ρ' = ρ ++ l) (s : Same F F') : ∀ (ds : List D) (vs : List V), RdL K ρ F ds vs → RdL K ρ' F' ds vs
  | [], _, h => h
  | d :: ds, _, h => by
    simp only [RdL] at h ⊢
    obtain ⟨v, r, e, h1, h2⟩ := h
    exact ⟨v, r, e, Rd.mono p s d v h1, RdL.mono p s ds r h2⟩
end
theorem Rd.ext {d : D} {v : V} (h : Rd K ρ F d v) (x : Ext ρ F H ρ' F' H') : Rd K ρ' F' d v := Rd.mono x.pre x.fro d v h
theorem RdL.ext {d : List D} {v : List V} (h : RdL K ρ F d v) (x : Ext ρ F H ρ' F' H') : RdL K ρ' F' d v := RdL.mono x.pre x.fro d v h
theorem RdK.mono {κ : Type} (p : ∃ l, ρ' = ρ ++ l) (s : Same F F') : ∀ (ds : List (κ × D)) (vs : List (κ × V)), RdK K ρ F ds vs → RdK K ρ' F' ds vs
  | [], _, h => h
  | (k, d) :: ds, _, h => by
    simp only [RdK] at h ⊢
    obtain ⟨v, r, e, h1, h2⟩ := h
    exact ⟨v, r, e, Rd.mono p s d v h1, RdK.mono p s ds r h2⟩
end

section
variable (K : PySem.W.Frag) (mg : Str → Option Value)
/-- the object at a is as m says -/
def MOk (ρ : List Addr) (F H : Hp) (a : Addr) : MO → Prop
  | .lst ds => ∃ vs, H a = some (.lst vs) ∧ RdL K ρ F ds vs
  | .dK kvs => ∃ vs, H a = some (.dK vs) ∧ RdK K ρ F kvs vs
  | .dT kvs => ∃ vs, H a = some (.dT vs) ∧ RdK K ρ F kvs vs
  | .ins C fs => ∃ c dx vs, mg C = some (.ref c) ∧ H a = some (.ins c dx vs) ∧ RdK K ρ F fs vs
  | .gone => True
/-- alive -/
def MO.al : MO → Prop
  | .gone => False
  | _ => True
structure MRel (ρ : List Addr) (F : Hp) (μ : List MO) (H : Hp) : Prop where
  sub : Same F H
  len : ρ.length = μ.length
  own : ∀ (k : Nat) a m, ρ[k]? = some a → μ[k]? = some m → m.al → F a = none ∧ MOk K mg ρ F H a m
  inj : ∀ (j k : Nat) a m n, ρ[j]? = some a → ρ[k]? = some a → μ[j]? = some m → m.al → μ[k]? = some n → n.al → j = k
  there : ∀ a ∈ ρ, H a ≠ none
structure SRel (ρ : List Addr) (F : Hp) (g : List (Option D)) (σ : St) : Prop where
  len : g.length = σ.length
  at_ : ∀ (i : Nat) d, g[i]? = some (some d) → ∃ v, σ[i]? = some (some v) ∧ Rd K ρ F d v
structure Rel (ρ : List Addr) (F : Hp) (s : DS) (σ : St) (H : Hp) : Prop where
  mem : MRel K mg ρ F s.m H
  slo : SRel K ρ F s.g σ
end

section
variable {K : PySem.W.Frag} {mg : Str → Option Value} {ρ ρ' : List Addr} {F F' H H' : Hp} {μ : List MO} {g : List (Option D)} {σ : St} {s : DS}
theorem SRel.mono (h : SRel K ρ F g σ) (p : ∃ l, ρ' = ρ ++ l) (sm : Same F F') : SRel K ρ' F' g σ :=
  ⟨h.len, fun i d e => let ⟨v, e1, r⟩ := h.at_ i d e; ⟨v, e1, r.mono p sm⟩⟩
theorem SRel.ext (h : SRel K ρ F g σ) (x : Ext ρ F H ρ' F' H') : SRel K ρ' F' g σ := h.mono x.pre x.fro
theorem MOk.al_some {a : Addr} {m : MO} (h : MOk K mg ρ F H a m) (al : m.al) : ∃ o, H a = some o := by
  cases m with
  | lst ds => obtain ⟨vs, e, _⟩ := h; exact ⟨_, e⟩
  | dK ds => obtain ⟨vs, e, _⟩ := h; exact ⟨_, e⟩
  | dT ds => obtain ⟨vs, e, _⟩ := h; exact ⟨_, e⟩
  | ins C fs => obtain ⟨c, dx, vs, _, e, _⟩ := h; exact ⟨_, e⟩
  | gone => exact al.elim
theorem MOk.mono {a : Addr} {m : MO} (h : MOk K mg ρ F H a m) (p : ∃ l, ρ' = ρ ++ l) (sm : Same F F') (e : H' a = H a) : MOk K mg ρ' F' H' a m := by
  cases m with
  | lst ds => obtain ⟨vs, q, r⟩ := h; exact ⟨vs, by rw [e]; exact q, RdL.mono p sm _ _ r⟩
  | dK ds => obtain ⟨vs, q, r⟩ := h; exact ⟨vs, by rw [e]; exact q, RdK.mono p sm _ _ r⟩
  | dT ds => obtain ⟨vs, q, r⟩ := h; exact ⟨vs, by rw [e]; exact q, RdK.mono p sm _ _ r⟩
  | ins C fs => obtain ⟨c, dx, vs, m1, q, r⟩ := h; exact ⟨c, dx, vs, m1, by rw [e]; exact q, RdK.mono p sm _ _ r⟩
  | gone => trivial
theorem same_up {p : Addr} {o : HO} (h : H p = none) : Same H (upd H p o) := fun b x e => by
  rw [upd_ne (ne_of_none e h)]
  exact e
theorem some_up {p a : Addr} {o : HO} (h : H a ≠ none) : upd H p o a ≠ none := by
  by_cases e : a = p
  · subst e
    rw [upd_same]
    exact fun z => nomatch z
  · rw [upd_ne e]
    exact h
theorem last_up {p a : Addr} {o : HO} (z : a ∈ [p]) : upd H p o a ≠ none := by
  have z' : a = p := by simpa using z
  subst z'
  rw [upd_same]
  exact fun z => nomatch z
/-- a new thing that never changes -/
theorem MRel.frozen {p : Addr} {o : HO} (h : MRel K mg ρ F μ H) (hp : H p = none) :
    MRel K mg ρ (upd F p o) μ (upd H p o) ∧ Ext ρ F H ρ (upd F p o) (upd H p o) := by
  have fp : F p = none := h.sub.free hp
  have sF : Same F (upd F p o) := same_up fp
  have sH : Same H (upd H p o) := same_up hp
  refine ⟨⟨fun b x e => ?_, h.len, fun k a m e1 e2 al => ?_, h.inj, fun a ha => some_up (h.there a ha)⟩, ⟨⟨[], by simp⟩, sF, fun a x e _ => sH a x e, fun a e => .inl e, fun a e => ?_⟩⟩
  · by_cases hb : b = p
    · subst hb
      rw [upd_same] at e ⊢
      exact e
    · rw [upd_ne hb] at e ⊢
      exact h.sub b x e
  · obtain ⟨f, q⟩ := h.own k a m e1 e2 al
    obtain ⟨x, ex⟩ := q.al_some al
    have ne : a ≠ p := ne_of_none ex hp
    exact ⟨by rw [upd_ne ne]; exact f, q.mono ⟨[], by simp⟩ sF (upd_ne ne)⟩
  · by_cases hb : a = p
    · subst hb
      exact .inr (.inr hp)
    · rw [upd_ne hb] at e
      exact .inl e
/-- a new object that may change -/
theorem MRel.alloc {p : Addr} {o : HO} {m : MO} (h : MRel K mg ρ F μ H) (hp : H p = none) (al : m.al) (hm : MOk K mg (ρ ++ [p]) F (upd H p o) p m) :
    MRel K mg (ρ ++ [p]) F (μ ++ [m]) (upd H p o) ∧ Ext ρ F H (ρ ++ [p]) F (upd H p o) := by
  have fp : F p = none := h.sub.free hp
  have sH : Same H (upd H p o) := same_up hp
  have live : ∀ (k : Nat) a n, ρ[k]? = some a → μ[k]? = some n → n.al → a ≠ p := fun k a n e1 e2 al' => by
    obtain ⟨_, q⟩ := h.own k a n e1 e2 al'
    obtain ⟨x, ex⟩ := q.al_some al'
    exact ne_of_none ex hp
  have split : ∀ (k : Nat) a n, (ρ ++ [p])[k]? = some a → (μ ++ [m])[k]? = some n → (ρ[k]? = some a ∧ μ[k]? = some n) ∨ (k = μ.length ∧ a = p ∧ n = m) := fun k a n e1 e2 => by
    by_cases hk : k < ρ.length
    · rw [List.getElem?_append_left hk] at e1
      rw [List.getElem?_append_left (by rw [← h.len]; exact hk)] at e2
      exact .inl ⟨e1, e2⟩
    · have hk' : k = ρ.length := by
        have := (List.getElem?_eq_some_iff.mp e1).1
        simp at this
        omega
      subst hk'
      rw [List.getElem?_append_right (Nat.le_refl _)] at e1
      rw [h.len, List.getElem?_append_right (Nat.le_refl _)] at e2
      simp at e1 e2
      exact .inr ⟨h.len, e1.symm, e2.symm⟩
  refine ⟨⟨h.sub.trans sH, by simp [h.len], fun k a n e1 e2 al' => ?_, fun j k a m1 n1 e1 e2 e3 al1 e4 al2 => ?_, fun a ha => (List.mem_append.mp ha).elim (fun z => some_up (h.there a z)) fun z => last_up z⟩, ⟨⟨[p], rfl⟩, Same.refl F, fun a x e _ => sH a x e, fun a e => ?_, fun a e => .inl e⟩⟩
  · rcases split k a n e1 e2 with ⟨e1, e2⟩ | ⟨_, rfl, rfl⟩
    · obtain ⟨f, q⟩ := h.own k a n e1 e2 al'
      exact ⟨f, q.mono ⟨[p], rfl⟩ (Same.refl F) (upd_ne (live k a n e1 e2 al'))⟩
    · exact ⟨fp, hm⟩
  · rcases split j a m1 e1 e3 with ⟨f1, f3⟩ | ⟨j1, j2, j3⟩
    · rcases split k a n1 e2 e4 with ⟨f2, f4⟩ | ⟨k1, k2, k3⟩
      · exact h.inj j k a m1 n1 f1 f2 f3 al1 f4 al2
      · exact absurd k2 (live j a m1 f1 f3 al1)
    · rcases split k a n1 e2 e4 with ⟨f2, f4⟩ | ⟨k1, k2, k3⟩
      · exact absurd j2 (live k a n1 f2 f4 al2)
      · rw [j1, k1]
  · rcases List.mem_append.mp e with z | z
    · exact .inl z
    · have : a = p := by simpa using z
      exact .inr (by rw [this]; exact hp)
/-- an object is changed -/
theorem MRel.set {k : Nat} {a : Addr} {m n : MO} {o : HO} (h : MRel K mg ρ F μ H) (e1 : ρ[k]? = some a) (e2 : μ[k]? = some m) (al : m.al) (hn : MOk K mg ρ F (upd H a o) a n) :
    MRel K mg ρ F (μ.set k n) (upd H a o) ∧ Ext ρ F H ρ F (upd H a o) := by
  obtain ⟨fa, q⟩ := h.own k a m e1 e2 al
  refine ⟨⟨fun b x e => ?_, by simp [h.len], fun j b n' f1 f2 al' => ?_, fun i j b n1 n2 f1 f2 f3 a3 f4 a4 => ?_, fun b hb => some_up (h.there b hb)⟩, ⟨⟨[], by simp⟩, Same.refl F, fun b x e nb => ?_, fun b e => .inl e, fun b e => .inl e⟩⟩
  · rw [upd_ne (ne_of_none e fa)]
    exact h.sub b x e
  · by_cases hj : j = k
    · subst hj
      rw [e1] at f1
      cases f1
      have hk : j < μ.length := (List.getElem?_eq_some_iff.mp e2).1
      rw [List.getElem?_set_self hk] at f2
      cases f2
      exact ⟨fa, hn⟩
    · rw [List.getElem?_set_ne (Ne.symm hj)] at f2
      obtain ⟨fb, q'⟩ := h.own j b n' f1 f2 al'
      have ne : b ≠ a := fun z => hj (h.inj j k a n' m (by rw [← z]; exact f1) e1 f2 al' e2 al)
      exact ⟨fb, q'.mono ⟨[], by simp⟩ (Same.refl F) (upd_ne ne)⟩
  · have back : ∀ (i : Nat) (n' : MO), (μ.set k n)[i]? = some n' → n'.al → ∃ n0, μ[i]? = some n0 ∧ n0.al := fun i n' f al' => by
      by_cases hi : i = k
      · subst hi
        exact ⟨m, e2, al⟩
      · rw [List.getElem?_set_ne (Ne.symm hi)] at f
        exact ⟨n', f, al'⟩
    obtain ⟨m1, g1, b1⟩ := back i n1 f3 a3
    obtain ⟨m2, g2, b2⟩ := back j n2 f4 a4
    exact h.inj i j b m1 m2 f1 f2 g1 b1 g2 b2
  · have ne : b ≠ a := fun z => nb (by rw [z]; exact List.mem_of_getElem? e1)
    rw [upd_ne ne]
    exact e
/-- an object changes no more -/
theorem MRel.freeze {k : Nat} {a : Addr} {m : MO} {o : HO} (h : MRel K mg ρ F μ H) (e1 : ρ[k]? = some a) (e2 : μ[k]? = some m) (al : m.al) (ho : H a = some o) :
    MRel K mg ρ (upd F a o) (μ.set k .gone) H ∧ Ext ρ F H ρ (upd F a o) H := by
  obtain ⟨fa, q⟩ := h.own k a m e1 e2 al
  have sF : Same F (upd F a o) := same_up fa
  refine ⟨⟨fun b x e => ?_, by simp [h.len], fun j b n' f1 f2 al' => ?_, fun i j b n1 n2 f1 f2 f3 a3 f4 a4 => ?_, h.there⟩, ⟨⟨[], by simp⟩, sF, fun b x e nb => e, fun b e => .inl e, fun b e => ?_⟩⟩
  · by_cases hb : b = a
    · subst hb
      rw [upd_same] at e
      cases e
      exact ho
    · rw [upd_ne hb] at e
      exact h.sub b x e
  · have hj : j ≠ k := fun z => by
      subst z
      have hk : j < μ.length := (List.getElem?_eq_some_iff.mp e2).1
      rw [List.getElem?_set_self hk] at f2
      cases f2
      exact al'.elim
    rw [List.getElem?_set_ne (Ne.symm hj)] at f2
    obtain ⟨fb, q'⟩ := h.own j b n' f1 f2 al'
    have ne : b ≠ a := fun z => hj (h.inj j k a n' m (by rw [← z]; exact f1) e1 f2 al' e2 al)
    exact ⟨by rw [upd_ne ne]; exact fb, q'.mono ⟨[], by simp⟩ sF rfl⟩
  · have back : ∀ (i : Nat) (n' : MO), (μ.set k .gone)[i]? = some n' → n'.al → μ[i]? = some n' := fun i n' f al' => by
      by_cases hi : i = k
      · subst hi
        have hk : i < μ.length := (List.getElem?_eq_some_iff.mp e2).1
        rw [List.getElem?_set_self hk] at f
        cases f
        exact al'.elim
      · rw [List.getElem?_set_ne (Ne.symm hi)] at f
        exact f
    exact h.inj i j b n1 n2 f1 f2 (back i n1 f3 a3) a3 (back j n2 f4 a4) a4
  · by_cases hb : b = a
    · subst hb
      exact .inr (.inl (List.mem_of_getElem? e1))
    · rw [upd_ne hb] at e
      exact .inl e
/-- what is not ours changes -/
theorem MRel.other {p : Addr} {o : HO} (h : MRel K mg ρ F μ H) (hp : p ∉ ρ) (hf : F p = none) : MRel K mg ρ F μ (upd H p o) := by
  refine ⟨fun b x e => ?_, h.len, fun k a m e1 e2 al => ?_, h.inj, fun a ha => some_up (h.there a ha)⟩
  · rw [upd_ne (ne_of_none e hf)]
    exact h.sub b x e
  · obtain ⟨f, q⟩ := h.own k a m e1 e2 al
    have ne : a ≠ p := fun z => hp (by rw [← z]; exact List.mem_of_getElem? e1)
    exact ⟨f, q.mono ⟨[], by simp⟩ (Same.refl F) (upd_ne ne)⟩
/-- what stands aside comes to be ours, and changes no more -/
theorem MRel.adopt {p : Addr} {o : HO} (h : MRel K mg ρ F μ H) (hp : p ∉ ρ) (hf : F p = none) (ho : H p = some o) : MRel K mg ρ (upd F p o) μ H := by
  have sF : Same F (upd F p o) := same_up hf
  refine ⟨fun b x e => ?_, h.len, fun k a m e1 e2 al => ?_, h.inj, h.there⟩
  · by_cases hb : b = p
    · subst hb
      rw [upd_same] at e
      cases e
      exact ho
    · rw [upd_ne hb] at e
      exact h.sub b x e
  · obtain ⟨f, q⟩ := h.own k a m e1 e2 al
    have ne : a ≠ p := fun z => hp (by rw [← z]; exact List.mem_of_getElem? e1)
    exact ⟨by rw [upd_ne ne]; exact f, q.mono ⟨[], by simp⟩ sF rfl⟩
theorem MRel.notin {p : Addr} (h : MRel K mg ρ F μ H) (hp : H p = none) : p ∉ ρ := fun z => h.there p z hp
/-- .. as an object that may change -/
theorem MRel.adoptN {p : Addr} {m : MO} {o : HO} (h : MRel K mg ρ F μ H) (hp : p ∉ ρ) (hf : F p = none) (ho : H p = some o) (hm : MOk K mg (ρ ++ [p]) F H p m) : MRel K mg (ρ ++ [p]) F (μ ++ [m]) H := by
  have split : ∀ (k : Nat) a n, (ρ ++ [p])[k]? = some a → (μ ++ [m])[k]? = some n → (ρ[k]? = some a ∧ μ[k]? = some n) ∨ (k = μ.length ∧ a = p ∧ n = m) := fun k a n e1 e2 => by
    by_cases hk : k < ρ.length
    · rw [List.getElem?_append_left hk] at e1
      rw [List.getElem?_append_left (by rw [← h.len]; exact hk)] at e2
      exact .inl ⟨e1, e2⟩
    · have hk' : k = ρ.length := by
        have := (List.getElem?_eq_some_iff.mp e1).1
        simp at this
        omega
      subst hk'
      rw [List.getElem?_append_right (Nat.le_refl _)] at e1
      rw [h.len, List.getElem?_append_right (Nat.le_refl _)] at e2
      simp at e1 e2
      exact .inr ⟨h.len, e1.symm, e2.symm⟩
  have old : ∀ (k : Nat) a, ρ[k]? = some a → a ≠ p := fun k a e z => hp (by rw [← z]; exact List.mem_of_getElem? e)
  refine ⟨h.sub, by simp [h.len], fun k a n e1 e2 al' => ?_, fun j k a m1 n1 e1 e2 e3 al1 e4 al2 => ?_, fun a ha => (List.mem_append.mp ha).elim (h.there a) fun z => ?_⟩
  · rcases split k a n e1 e2 with ⟨e1, e2⟩ | ⟨_, rfl, rfl⟩
    · obtain ⟨f, q⟩ := h.own k a n e1 e2 al'
      exact ⟨f, q.mono ⟨[p], rfl⟩ (Same.refl F) rfl⟩
    · exact ⟨hf, hm⟩
  · rcases split j a m1 e1 e3 with ⟨f1, f3⟩ | ⟨j1, j2, j3⟩
    · rcases split k a n1 e2 e4 with ⟨f2, f4⟩ | ⟨k1, k2, k3⟩
      · exact h.inj j k a m1 n1 f1 f2 f3 al1 f4 al2
      · exact absurd k2 (old j a f1)
    · rcases split k a n1 e2 e4 with ⟨f2, f4⟩ | ⟨k1, k2, k3⟩
      · exact absurd j2 (old k a f2)
      · rw [j1, k1]
  · have : a = p := by simpa using z
    rw [this, ho]
    exact fun z => nomatch z
end
/-- a place that was free ahead changes -/
theorem Ext.bump {ρ ρ' : List Addr} {F F' H H' : Hp} {p : Addr} {o : HO} (x : Ext ρ F H ρ' F' H') (hp : H p = none) : Ext ρ F H ρ' F' (upd H' p o) :=
  ⟨x.pre, x.fro, fun a u e hn => by rw [upd_ne (ne_of_none e hp)]; exact x.rest a u e hn, x.newr, x.newf⟩
/-- .. comes to be ours -/
theorem Ext.adopt {ρ ρ' : List Addr} {F F' H H' : Hp} {p : Addr} {o : HO} (x : Ext ρ F H ρ' F' H') (hp : H p = none) (hf : F' p = none) : Ext ρ F H ρ' (upd F' p o) H' :=
  ⟨x.pre, x.fro.trans (same_up hf), x.rest, x.newr, fun a e => by
    by_cases ha : a = p
    · subst ha
      exact .inr (.inr hp)
    · rw [upd_ne ha] at e
      exact x.newf a e⟩
theorem Ext.adoptN {ρ ρ' : List Addr} {F F' H H' : Hp} {p : Addr} (x : Ext ρ F H ρ' F' H') (hp : H p = none) : Ext ρ F H (ρ' ++ [p]) F' H' := by
  obtain ⟨l, e⟩ := x.pre
  subst e
  refine ⟨⟨l ++ [p], by simp⟩, x.fro, x.rest, fun a e => ?_, x.newf⟩
  rcases List.mem_append.mp e with z | z
  · exact x.newr a z
  · have : a = p := by simpa using z
    exact .inr (by rw [this]; exact hp)

/-! ### what is wanted -/
/-- an exception as the layer has it -/
def ExR (K : PySem.W.Frag) (mg : Str → Option Value) (ρ : List Addr) (F H : Hp) (e : Ex) (cls : Value) (d : Option Addr) : Prop :=
  ∃ c, mg e.cls = some (.ref c) ∧ cls = .ref c ∧ (e.fs = [] → d = none) ∧ (e.fs ≠ [] → ∃ a vs, d = some a ∧ F a = some (.xd vs) ∧ RdK K ρ F e.fs vs)
/-- behind a part: α the datum's kind, β the value's -/
def Post (X : Cx) (W : WX) {α β : Type} (rel : List Addr → Hp → α → β → Prop) (ρ : List Addr) (F H : Hp) (σ : St) (Q : β → Hp → Prop) : R α → Prop
  | .bad => False
  | .ok a s' => ∀ ρ' F' H' v, Ext ρ F H ρ' F' H' → Rel X.K X.mg ρ' F' s' σ H' → rel ρ' F' a v → Q v H'
  | .ex e s' => ∀ ρ' F' H' cls d, Ext ρ F H ρ' F' H' → Rel X.K X.mg ρ' F' s' σ H' → ExR X.K X.mg ρ' F' H' e cls d → W cls d σ H'
theorem Post.bind {X : Cx} {W : WX} {α β α' β' : Type} {rel : List Addr → Hp → α → β → Prop} {rel' : List Addr → Hp → α' → β' → Prop} {ρ : List Addr} {F H : Hp} {σ : St} {Q : β' → Hp → Prop} {Q1 : β → Hp → Prop} {r : R α} {g : α → DS → R α'}
    (h : Post X W rel' ρ F H σ Q (r.bind g))
    (k : ∀ a s' ρ' F' H' v, Ext ρ F H ρ' F' H' → Rel X.K X.mg ρ' F' s' σ H' → rel ρ' F' a v → Post X W rel' ρ' F' H' σ Q (g a s') → Q1 v H') : Post X W rel ρ F H σ Q1 r := by
  cases r with
  | bad => exact h
  | ok a s' =>
    intro ρ' F' H' v x rl rd
    refine k a s' ρ' F' H' v x rl rd ?_
    have h' : Post X W rel' ρ F H σ Q (g a s') := h
    cases e : g a s' with
    | bad => rw [e] at h'; exact h'
    | ok b s2 => rw [e] at h'; exact fun ρ2 F2 H2 v2 x2 => h' ρ2 F2 H2 v2 (x.trans x2)
    | ex b s2 => rw [e] at h'; exact fun ρ2 F2 H2 v2 d x2 => h' ρ2 F2 H2 v2 d (x.trans x2)
  | ex e s' => exact h
theorem Post.ok {X : Cx} {W : WX} {α β : Type} {rel : List Addr → Hp → α → β → Prop} {ρ : List Addr} {F H : Hp} {σ : St} {Q : β → Hp → Prop} {a : α} {s' : DS} (h : Post X W rel ρ F H σ Q (.ok a s')) {ρ' : List Addr} {F' H' : Hp} {v : β}
    (x : Ext ρ F H ρ' F' H') (rl : Rel X.K X.mg ρ' F' s' σ H') (rd : rel ρ' F' a v) : Q v H' := h ρ' F' H' v x rl rd
def Stl {α : Type} (X : Cx) (W : WX) {β : Type} (rel : List Addr → Hp → α → β → Prop) (t : St → Hp → (β → Hp → Prop) → Prop) (f : DS → R α) : Prop :=
  ∀ ρ F s σ H Q, Rel X.K X.mg ρ F s σ H → Post X W rel ρ F H σ Q (f s) → t σ H Q
/-- an expression's datum; arguments; a test -/
def PD (X : Cx) (W : WX) (e : Expr) (f : DS → R D) : Prop := ∃ t, PE X e t ∧ Stl X W (Rd X.K) t f
def PDA (X : Cx) (W : WX) (es : List Expr) (f : DS → R (List D)) : Prop := ∃ t, PA X es t ∧ Stl X W (RdL X.K) t f
def PDT (X : Cx) (W : WX) (e : Expr) (f : DS → R Bool) : Prop := ∃ t, PT X e t ∧ Stl X W (fun _ _ a b => b = a) t f
def PostS (X : Cx) (W : WX) (ρ : List Addr) (F H : Hp) (E : Ends) : R Fl → Prop
  | .bad => False
  | .ok .nx s' => ∀ ρ' F' H' σ', Ext ρ F H ρ' F' H' → Rel X.K X.mg ρ' F' s' σ' H' → E.nx σ' H'
  | .ok (.rt d) s' => ∀ ρ' F' H' v, Ext ρ F H ρ' F' H' → MRel X.K X.mg ρ' F' s'.m H' → Rd X.K ρ' F' d v → E.rt v H'
  | .ok .bk s' => ∀ ρ' F' H' σ', Ext ρ F H ρ' F' H' → Rel X.K X.mg ρ' F' s' σ' H' → E.bk σ' H'
  | .ok .ct s' => ∀ ρ' F' H' σ', Ext ρ F H ρ' F' H' → Rel X.K X.mg ρ' F' s' σ' H' → E.ct σ' H'
  | .ex e s' => ∀ ρ' F' H' σ' cls d, Ext ρ F H ρ' F' H' → Rel X.K X.mg ρ' F' s' σ' H' → ExR X.K X.mg ρ' F' H' e cls d → W cls d σ' H'
def StlS (X : Cx) (W : WX) (t : TS) (f : DS → R Fl) : Prop := ∀ ρ F s σ H E, Rel X.K X.mg ρ F s σ H → PostS X W ρ F H E (f s) → t E σ H
def PDs (X : Cx) (W : WX) (st : Stmt) (f : DS → R Fl) : Prop := ∃ t, PS X st t ∧ StlS X W t f
def PDss (X : Cx) (W : WX) (st : List Stmt) (f : DS → R Fl) : Prop := ∃ t, PSs X st t ∧ StlS X W t f
theorem PostS.ext {X : Cx} {W : WX} {ρ ρ' : List Addr} {F F' H H' : Hp} {E : Ends} {r : R Fl} (h : PostS X W ρ F H E r) (x : Ext ρ F H ρ' F' H') : PostS X W ρ' F' H' E r := by
  cases r with
  | bad => exact h
  | ok a s' =>
    cases a with
    | nx => exact fun ρ2 F2 H2 v2 x2 => h ρ2 F2 H2 v2 (x.trans x2)
    | rt d => exact fun ρ2 F2 H2 v2 x2 => h ρ2 F2 H2 v2 (x.trans x2)
    | bk => exact fun ρ2 F2 H2 v2 x2 => h ρ2 F2 H2 v2 (x.trans x2)
    | ct => exact fun ρ2 F2 H2 v2 x2 => h ρ2 F2 H2 v2 (x.trans x2)
  | ex e s' => exact fun ρ2 F2 H2 σ2 v2 d x2 => h ρ2 F2 H2 σ2 v2 d (x.trans x2)
theorem Post.ext {X : Cx} {W : WX} {α β : Type} {rel : List Addr → Hp → α → β → Prop} {ρ ρ' : List Addr} {F F' H H' : Hp} {σ : St} {Q : β → Hp → Prop} {r : R α} (h : Post X W rel ρ F H σ Q r) (x : Ext ρ F H ρ' F' H') : Post X W rel ρ' F' H' σ Q r := by
  cases r with
  | bad => exact h
  | ok a s' => exact fun ρ2 F2 H2 v2 x2 => h ρ2 F2 H2 v2 (x.trans x2)
  | ex e s' => exact fun ρ2 F2 H2 v2 d x2 => h ρ2 F2 H2 v2 d (x.trans x2)
/-- a part inside a statement -/
theorem PostS.bind {X : Cx} {W : WX} {α β : Type} {rel : List Addr → Hp → α → β → Prop} {ρ : List Addr} {F H : Hp} {σ : St} {E : Ends} {Q1 : β → Hp → Prop} {r : R α} {g : α → DS → R Fl}
    (h : PostS X W ρ F H E (r.bind g))
    (k : ∀ a s' ρ' F' H' v, Ext ρ F H ρ' F' H' → Rel X.K X.mg ρ' F' s' σ H' → rel ρ' F' a v → PostS X W ρ' F' H' E (g a s') → Q1 v H') : Post X W rel ρ F H σ Q1 r := by
  cases r with
  | bad => exact h
  | ok a s' =>
    intro ρ' F' H' v x rl rd
    have h' : PostS X W ρ F H E (g a s') := h
    exact k a s' ρ' F' H' v x rl rd (h'.ext x)
  | ex e s' => exact fun ρ' F' H' cls d x rl er => h ρ' F' H' σ cls d x rl er
end DL

/-! Rules: expressions. -/
namespace DL
open PySem L2

section
variable {X : Cx} {W : WX} {a b c e : Expr} {es : List Expr} {pos : Pos} {fa fb fc : DS → R D}
/-! ### names, constants -/
def fVar (i : Nat) : DS → R D := fun s => match s.g[i]? with
  | some (some d) => .ok d s
  | _ => .bad
theorem pd_var (i : Nat) {x : Str} {pos : Pos} (h : PE X (.Name x pos) (tVar i)) : PD X W (.Name x pos) (fVar i) := by
  refine ⟨_, h, fun ρ F s σ H Q rl h => ?_⟩
  unfold fVar at h
  cases q : s.g[i]? with
  | none => rw [q] at h; exact h.elim
  | some o =>
    cases o with
    | none => rw [q] at h; exact h.elim
    | some d =>
      rw [q] at h
      obtain ⟨v, e1, r⟩ := rl.slo.at_ i d q
      exact ⟨v, e1, h ρ F H v (Ext.refl ..) rl r⟩
def fC (d : D) : DS → R D := fun s => .ok d s
theorem pd_const {d : D} {v : V} (he : PE X e (tC v)) (r : ∀ ρ F, Rd X.K ρ F d v) : PD X W e (fC d) :=
  ⟨_, he, fun ρ F s σ H Q rl h => h ρ F H v (Ext.refl ..) rl (r ρ F)⟩
theorem pd_int {i j pos} : PD X W (.Constant (.int i) j pos) (fC (.int i)) := pd_const pe_int fun _ _ => rfl
theorem pd_bl {b j pos} : PD X W (.Constant (.bool b) j pos) (fC (.bl b)) := pd_const pe_bl fun _ _ => rfl
theorem pd_non {j pos} : PD X W (.Constant .none j pos) (fC .non) := pd_const pe_non fun _ _ => rfl
theorem pd_str {x j pos} : PD X W (.Constant (.str x) j pos) (fC (.str x)) := pd_const pe_str fun _ _ => rfl
/-- a module's constant, a class -/
theorem pd_glob {x : Str} {d : D} {v : V} {u : Value} {pos : Pos} (hg : Gl X x) (hm : X.mg x = some u) (r : RelV v u) (rd : ∀ ρ F, Rd X.K ρ F d v) (hd : (x == ("__debug__" : Str)) = false := by decide) : PD X W (.Name x pos) (fC d) :=
  pd_const (pe_glob hg hm r hd) rd

/-! ### two parts by an operator -/
def fBin (fa fb : DS → R D) (g : D → D → DS → R D) : DS → R D := fun s => (fa s).bind fun x s1 => (fb s1).bind fun y s2 => g x y s2
def OpD (X : Cx) (W : WX) (r : R2) (g : D → D → DS → R D) : Prop :=
  ∀ ρ F s σ H x y v u Q, Rel X.K X.mg ρ F s σ H → Rd X.K ρ F x v → Rd X.K ρ F y u → Post X W (Rd X.K) ρ F H σ Q (g x y s) → r v u H Q
theorem OpD.run {r : R2} {g : D → D → DS → R D} (hg : OpD X W r g) {ta tb : TE} (la : Stl X W (Rd X.K) ta fa) (lb : Stl X W (Rd X.K) tb fb) : Stl X W (Rd X.K) (tOp r ta tb) (fBin fa fb g) := by
  intro ρ F s σ H Q rl h
  refine la ρ F s σ H _ rl (h.bind fun x s1 ρ1 F1 H1 v x1 rl1 rd1 h1 => ?_)
  refine lb ρ1 F1 s1 σ H1 _ rl1 (h1.bind fun y s2 ρ2 F2 H2 u x2 rl2 rd2 h2 => ?_)
  exact hg ρ2 F2 s2 σ H2 x y v u Q rl2 (rd1.ext x2) rd2 h2
theorem pd_op {op : Operator} {r : R2} {g : D → D → DS → R D} (ho : OpR X (binaryOp op) r) (hg : OpD X W r g) (ha : PD X W a fa) (hb : PD X W b fb) : PD X W (.BinOp a op b pos) (fBin fa fb g) := by
  obtain ⟨ta, ea, la⟩ := ha
  obtain ⟨tb, eb, lb⟩ := hb
  exact ⟨_, pe_op ho ea eb, hg.run la lb⟩
theorem pd_cmp {op : CmpOp} {r : R2} {g : D → D → DS → R D} (ho : OpR X (compareOp op) r) (hg : OpD X W r g) (ha : PD X W a fa) (hb : PD X W b fb) (hm : behindInMarks op b = false := by first | exact nomark _ | rfl) : PD X W (.Compare a [op] [b] pos) (fBin fa fb g) := by
  obtain ⟨ta, ea, la⟩ := ha
  obtain ⟨tb, eb, lb⟩ := hb
  exact ⟨_, pe_cmpR ho ea eb hm, hg.run la lb⟩
/-- a test by a bool -/
def asB (r : R D) : R Bool := r.bind fun d s => match d with
  | .bl b => .ok b s
  | _ => .bad
def fTst (f : DS → R D) : DS → R Bool := fun s => asB (f s)
theorem Post.asB {ρ : List Addr} {F H : Hp} {σ : St} {Q : Bool → Hp → Prop} {r : R D} (h : Post X W (fun _ _ a b => b = a) ρ F H σ Q (asB r)) : Post X W (Rd X.K) ρ F H σ (fun x H' => ∃ k, x = .bl k ∧ Q k H') r := by
  cases r with
  | bad => exact h
  | ok d s =>
    cases d with
    | bl b => exact fun ρ' F' H' v x rl rd => ⟨b, rd, h ρ' F' H' b x rl rfl⟩
    | _ => exact h.elim
  | ex e s => exact h
theorem pdt_cmp {op : CmpOp} {r : R2} {g : D → D → DS → R D} (ho : OpR X (compareOp op) r) (hg : OpD X W r g) (ha : PD X W a fa) (hb : PD X W b fb) (hm : behindInMarks op b = false := by first | exact nomark _ | rfl) : PDT X W (.Compare a [op] [b] pos) (fTst (fBin fa fb g)) := by
  obtain ⟨ta, ea, la⟩ := ha
  obtain ⟨tb, eb, lb⟩ := hb
  exact ⟨_, pt_cmpR ho ea eb hm, fun ρ F s σ H Q rl h => hg.run la lb ρ F s σ H _ rl h.asB⟩
theorem pdt_val {f : DS → R D} (h : PD X W e f) (he : ∀ whole, isTrue e X.env whole = (do let v ← whole; standAt e.pos; holding [v] (truthy v)) := by intro _; rfl) : PDT X W e (fTst f) := by
  obtain ⟨t, ee, l⟩ := h
  exact ⟨_, pt_val ee he, fun ρ F s σ H Q rl h => l ρ F s σ H _ rl h.asB⟩
/-! a chain of two -/
def fChain (fa fb fc : DS → R D) (g g' : D → D → DS → R D) : DS → R D := fun s => (fa s).bind fun x s1 => (fb s1).bind fun y s2 => (g x y s2).bind fun d s3 => match d with
  | .bl true => (fc s3).bind fun z s4 => g' y z s4
  | .bl false => .ok (.bl false) s3
  | _ => .bad
theorem chain_run {r r' : R2} {g g' : D → D → DS → R D} (hg : OpD X W r g) (hg' : OpD X W r' g') {ta tb tc : TE} (la : Stl X W (Rd X.K) ta fa) (lb : Stl X W (Rd X.K) tb fb) (lc : Stl X W (Rd X.K) tc fc) :
    ∀ ρ F s σ H Q, Rel X.K X.mg ρ F s σ H → Post X W (Rd X.K) ρ F H σ Q (fChain fa fb fc g g' s) →
      ta σ H fun x H1 => tb σ H1 fun y H2 => r x y H2 fun z H3 => ∃ k, z = .bl k ∧ if k = true then tc σ H3 fun u H4 => r' y u H4 Q else Q (.bl false) H3 := by
  intro ρ F s σ H Q rl h
  refine la ρ F s σ H _ rl (h.bind fun x s1 ρ1 F1 H1 v x1 rl1 rd1 h1 => ?_)
  refine lb ρ1 F1 s1 σ H1 _ rl1 (h1.bind fun y s2 ρ2 F2 H2 u x2 rl2 rd2 h2 => ?_)
  refine hg ρ2 F2 s2 σ H2 x y v u _ rl2 (rd1.ext x2) rd2 (h2.bind fun d s3 ρ3 F3 H3 w x3 rl3 rd3 h3 => ?_)
  cases d with
  | bl k =>
    refine ⟨k, rd3, ?_⟩
    cases k with
    | true =>
      rw [if_pos rfl]
      refine lc ρ3 F3 s3 σ H3 _ rl3 (Post.bind h3 fun z s4 ρ4 F4 H4 w4 x4 rl4 rd4 h4 => ?_)
      exact hg' ρ4 F4 s4 σ H4 y z u w4 Q rl4 ((rd2.ext x3).ext x4) rd4 h4
    | false =>
      rw [if_neg Bool.false_ne_true]
      exact h3 ρ3 F3 H3 (.bl false) (Ext.refl ..) rl3 rfl
  | _ => exact h3.elim
theorem pd_chain {op op' : CmpOp} {r r' : R2} {g g' : D → D → DS → R D} (ho : OpR X (compareOp op) r) (hg : OpD X W r g) (ho' : OpR X (compareOp op') r') (hg' : OpD X W r' g') (ha : PD X W a fa) (hb : PD X W b fb) (hc : PD X W c fc)
    (hm : lastMarks [op, op'] [b, c] = false := by rfl) : PD X W (.Compare a [op, op'] [b, c] pos) (fChain fa fb fc g g') := by
  obtain ⟨ta, ea, la⟩ := ha
  obtain ⟨tb, eb, lb⟩ := hb
  obtain ⟨tc, ec, lc⟩ := hc
  exact ⟨_, pe_chain ho ho' ea eb ec hm, fun ρ F s σ H Q rl h => chain_run hg hg' la lb lc ρ F s σ H Q rl h⟩
theorem pdt_chain {op op' : CmpOp} {r r' : R2} {g g' : D → D → DS → R D} (ho : OpR X (compareOp op) r) (hg : OpD X W r g) (ho' : OpR X (compareOp op') r') (hg' : OpD X W r' g') (ha : PD X W a fa) (hb : PD X W b fb) (hc : PD X W c fc)
    (hm : lastMarks [op, op'] [b, c] = false := by rfl) : PDT X W (.Compare a [op, op'] [b, c] pos) (fTst (fChain fa fb fc g g')) := by
  obtain ⟨ta, ea, la⟩ := ha
  obtain ⟨tb, eb, lb⟩ := hb
  obtain ⟨tc, ec, lc⟩ := hc
  exact ⟨_, pt_chain ho ho' ea eb ec hm, fun ρ F s σ H Q rl h => chain_run hg hg' la lb lc ρ F s σ H _ rl h.asB⟩

/-! ### and, or, not, if -/
def fNotT (f : DS → R Bool) : DS → R Bool := fun s => (f s).bind fun b s1 => .ok (!b) s1
theorem pdt_not {f : DS → R Bool} (h : PDT X W a f) : PDT X W (.UnaryOp .Not a pos) (fNotT f) := by
  obtain ⟨t, e1, l⟩ := h
  refine ⟨_, pt_not e1, fun ρ F s σ H Q rl h => l ρ F s σ H _ rl (h.bind fun b s1 ρ1 F1 H1 v x1 rl1 rd1 h1 => ?_)⟩
  subst rd1
  exact h1 ρ1 F1 H1 _ (Ext.refl ..) rl1 rfl
def PDW (X : Cx) (W : WX) (e : Expr) (f : DS → R Bool) : Prop := ∃ t, PW X e t ∧ Stl X W (fun _ _ a b => b = a) t f
theorem pdw_pdt {f : DS → R Bool} (h : PDW X W a f) : PDT X W a f := let ⟨t, e1, l⟩ := h; ⟨t, e1.pt, l⟩
def fAndT (f g : DS → R Bool) : DS → R Bool := fun s => (f s).bind fun b s1 => if b = true then g s1 else .ok false s1
def fOrT (f g : DS → R Bool) : DS → R Bool := fun s => (f s).bind fun b s1 => if b = true then .ok true s1 else g s1
theorem pdw_and1 {f : DS → R Bool} (h : PDT X W a f) : PDW X W (.BoolOp .And [a] pos) f := let ⟨t, e1, l⟩ := h; ⟨t, pw_and1 e1, l⟩
theorem pdw_or1 {f : DS → R Bool} (h : PDT X W a f) : PDW X W (.BoolOp .Or [a] pos) f := let ⟨t, e1, l⟩ := h; ⟨t, pw_or1 e1, l⟩
theorem pdw_and {f g : DS → R Bool} (ha : PDT X W a f) (hb : PDW X W (.BoolOp .And (b :: es) pos) g) : PDW X W (.BoolOp .And (a :: b :: es) pos) (fAndT f g) := by
  obtain ⟨t, e1, l⟩ := ha
  obtain ⟨u, e2, l2⟩ := hb
  refine ⟨_, pw_and e1 e2, fun ρ F s σ H Q rl h => l ρ F s σ H _ rl (h.bind fun b s1 ρ1 F1 H1 v x1 rl1 rd1 h1 => ?_)⟩
  subst rd1
  cases v with
  | true =>
    rw [if_pos rfl] at h1 ⊢
    exact l2 ρ1 F1 s1 σ H1 Q rl1 h1
  | false =>
    rw [if_neg Bool.false_ne_true] at h1 ⊢
    exact h1 ρ1 F1 H1 _ (Ext.refl ..) rl1 rfl
theorem pdw_or {f g : DS → R Bool} (ha : PDT X W a f) (hb : PDW X W (.BoolOp .Or (b :: es) pos) g) : PDW X W (.BoolOp .Or (a :: b :: es) pos) (fOrT f g) := by
  obtain ⟨t, e1, l⟩ := ha
  obtain ⟨u, e2, l2⟩ := hb
  refine ⟨_, pw_or e1 e2, fun ρ F s σ H Q rl h => l ρ F s σ H _ rl (h.bind fun b s1 ρ1 F1 H1 v x1 rl1 rd1 h1 => ?_)⟩
  subst rd1
  cases v with
  | false =>
    rw [if_neg Bool.false_ne_true] at h1 ⊢
    exact l2 ρ1 F1 s1 σ H1 Q rl1 h1
  | true =>
    rw [if_pos rfl] at h1 ⊢
    exact h1 ρ1 F1 H1 _ (Ext.refl ..) rl1 rfl
/-! as values -/
def fNotV (f : DS → R D) : DS → R D := fun s => (f s).bind fun d s1 => match d with
  | .bl b => .ok (.bl (!b)) s1
  | _ => .bad
def fAndV (f g : DS → R D) : DS → R D := fun s => (f s).bind fun d s1 => match d with
  | .bl true => g s1
  | .bl false => .ok (.bl false) s1
  | _ => .bad
def fOrV (f g : DS → R D) : DS → R D := fun s => (f s).bind fun d s1 => match d with
  | .bl false => g s1
  | .bl true => .ok (.bl true) s1
  | _ => .bad
theorem pd_not (ha : PD X W a fa) : PD X W (.UnaryOp .Not a pos) (fNotV fa) := by
  obtain ⟨t, e1, l⟩ := ha
  refine ⟨_, pe_not e1, fun ρ F s σ H Q rl h => l ρ F s σ H _ rl (h.bind fun d s1 ρ1 F1 H1 v x1 rl1 rd1 h1 => ?_)⟩
  cases d with
  | bl k => exact ⟨k, rd1, h1 ρ1 F1 H1 _ (Ext.refl ..) rl1 rfl⟩
  | _ => exact h1.elim
theorem pd_one {op} (ha : PD X W a fa) : PD X W (.BoolOp op [a] pos) fa := let ⟨t, e1, l⟩ := ha; ⟨t, pe_one e1, l⟩
theorem pd_and (ha : PD X W a fa) (hb : PD X W (.BoolOp .And (b :: es) pos) fb) : PD X W (.BoolOp .And (a :: b :: es) pos) (fAndV fa fb) := by
  obtain ⟨t, e1, l⟩ := ha
  obtain ⟨u, e2, l2⟩ := hb
  refine ⟨_, pe_and e1 e2, fun ρ F s σ H Q rl h => l ρ F s σ H _ rl (h.bind fun d s1 ρ1 F1 H1 v x1 rl1 rd1 h1 => ?_)⟩
  cases d with
  | bl k =>
    refine ⟨k, rd1, ?_⟩
    cases k with
    | true => rw [if_pos rfl]; exact l2 ρ1 F1 s1 σ H1 Q rl1 h1
    | false => rw [if_neg Bool.false_ne_true]; exact h1 ρ1 F1 H1 _ (Ext.refl ..) rl1 rfl
  | _ => exact h1.elim
theorem pd_or (ha : PD X W a fa) (hb : PD X W (.BoolOp .Or (b :: es) pos) fb) : PD X W (.BoolOp .Or (a :: b :: es) pos) (fOrV fa fb) := by
  obtain ⟨t, e1, l⟩ := ha
  obtain ⟨u, e2, l2⟩ := hb
  refine ⟨_, pe_or e1 e2, fun ρ F s σ H Q rl h => l ρ F s σ H _ rl (h.bind fun d s1 ρ1 F1 H1 v x1 rl1 rd1 h1 => ?_)⟩
  cases d with
  | bl k =>
    refine ⟨k, rd1, ?_⟩
    cases k with
    | false => rw [if_neg Bool.false_ne_true]; exact l2 ρ1 F1 s1 σ H1 Q rl1 h1
    | true => rw [if_pos rfl]; exact h1 ρ1 F1 H1 _ (Ext.refl ..) rl1 rfl
  | _ => exact h1.elim
def fIf (f : DS → R Bool) (fa fb : DS → R D) : DS → R D := fun s => (f s).bind fun k s1 => if k = true then fa s1 else fb s1
theorem pd_if {f : DS → R Bool} (hc : PDT X W c f) (ha : PD X W a fa) (hb : PD X W b fb) : PD X W (.IfExp c a b pos) (fIf f fa fb) := by
  obtain ⟨t, e1, l⟩ := hc
  obtain ⟨ta, ea, la⟩ := ha
  obtain ⟨tb, eb, lb⟩ := hb
  refine ⟨_, pe_ifExp e1 ea eb, fun ρ F s σ H Q rl h => l ρ F s σ H _ rl (h.bind fun b s1 ρ1 F1 H1 v x1 rl1 rd1 h1 => ?_)⟩
  subst rd1
  cases v with
  | true =>
    rw [if_pos rfl] at h1 ⊢
    exact la ρ1 F1 s1 σ H1 Q rl1 h1
  | false =>
    rw [if_neg Bool.false_ne_true] at h1 ⊢
    exact lb ρ1 F1 s1 σ H1 Q rl1 h1

/-! ### is None -/
def isNon : D → Bool
  | .non => true
  | _ => false
theorem isNon_rd {K : PySem.W.Frag} {ρ : List Addr} {F : Hp} {d : D} {v : V} (r : Rd K ρ F d v) : decide (v = .non) = isNon d := by
  cases d with
  | non => cases r; rfl
  | bl _ => cases r; rfl
  | int _ => cases r; rfl
  | str _ => cases r; rfl
  | ref _ => cases r; rfl
  | ty _ => cases r; rfl
  | tup _ => obtain ⟨a, vs, e, _⟩ := r; subst e; rfl
  | lst _ => obtain ⟨a, vs, e, _⟩ := r; subst e; rfl
  | lsr _ => obtain ⟨a, vs, e, _⟩ := r; subst e; rfl
  | obj _ => obtain ⟨a, e, _⟩ := r; subst e; rfl
  | exc _ _ _ _ => obtain ⟨vs, e, _⟩ := r; subst e; rfl
def fIsN (neg : Bool) (fa : DS → R D) : DS → R D := fun s => (fa s).bind fun d s1 => .ok (.bl (if neg = true then !(isNon d) else isNon d)) s1
theorem pd_isN {j p} (ha : PD X W a fa) : PD X W (.Compare a [.Is] [.Constant .none j p] pos) (fIsN false fa) := by
  obtain ⟨t, e1, l⟩ := ha
  refine ⟨_, pe_cmp (pc_isN e1), fun ρ F s σ H Q rl h => l ρ F s σ H _ rl (h.bind fun d s1 ρ1 F1 H1 v x1 rl1 rd1 h1 => ?_)⟩
  rw [isNon_rd rd1]
  exact h1 ρ1 F1 H1 _ (Ext.refl ..) rl1 rfl
theorem pd_notN {j p} (ha : PD X W a fa) : PD X W (.Compare a [.IsNot] [.Constant .none j p] pos) (fIsN true fa) := by
  obtain ⟨t, e1, l⟩ := ha
  refine ⟨_, pe_cmp (pc_notN e1), fun ρ F s σ H Q rl h => l ρ F s σ H _ rl (h.bind fun d s1 ρ1 F1 H1 v x1 rl1 rd1 h1 => ?_)⟩
  rw [isNon_rd rd1]
  exact h1 ρ1 F1 H1 _ (Ext.refl ..) rl1 rfl
theorem pdt_isN {j p} (ha : PD X W a fa) : PDT X W (.Compare a [.Is] [.Constant .none j p] pos) (fTst (fIsN false fa)) := by
  obtain ⟨t, e1, l⟩ := ha
  refine ⟨_, pt_cmp (pc_isN e1), fun ρ F s σ H Q rl h => l ρ F s σ H _ rl ((Post.asB h).bind fun d s1 ρ1 F1 H1 v x1 rl1 rd1 h1 => ?_)⟩
  rw [isNon_rd rd1]
  exact h1 ρ1 F1 H1 _ (Ext.refl ..) rl1 rfl
theorem pdt_notN {j p} (ha : PD X W a fa) : PDT X W (.Compare a [.IsNot] [.Constant .none j p] pos) (fTst (fIsN true fa)) := by
  obtain ⟨t, e1, l⟩ := ha
  refine ⟨_, pt_cmp (pc_notN e1), fun ρ F s σ H Q rl h => l ρ F s σ H _ rl ((Post.asB h).bind fun d s1 ρ1 F1 H1 v x1 rl1 rd1 h1 => ?_)⟩
  rw [isNon_rd rd1]
  exact h1 ρ1 F1 H1 _ (Ext.refl ..) rl1 rfl
end
end DL

/-! Rules: operators, sequences. -/
namespace DL
open PySem L2

/-! ### ints -/
noncomputable def gI (C : Int → Int → Prop) (f : Int → Int → D) : D → D → DS → R D := fun x y s => match x, y with
  | .int i, .int j => if Pr (C i j) then .ok (f i j) s else .bad
  | _, _ => .bad
def gI0 (f : Int → Int → D) : D → D → DS → R D := fun x y s => match x, y with
  | .int i, .int j => .ok (f i j) s
  | _, _ => .bad
def sc : D → Option V
  | .non => some .non
  | .bl b => some (.bl b)
  | .int i => some (.int i)
  | .str x => some (.str x)
  | .ty n => some (.ty n)
  | _ => none
theorem sc_rd {K : PySem.W.Frag} {ρ : List Addr} {F : Hp} {d : D} {v u : V} (r : Rd K ρ F d v) (h : sc d = some u) : v = u := by
  cases d <;> first | (cases h; exact r) | (cases h)
section
variable {X : Cx} {W : WX}
theorem opd_int {C : Int → Int → Prop} {g : Int → Int → V} {f : Int → Int → D} (hf : ∀ i j, sc (f i j) = some (g i j)) (hr : ∀ i j ρ F, Rd X.K ρ F (f i j) (g i j)) : OpD X W (rI C g) (gI C f) := by
  intro ρ F s σ H x y v u Q rl r1 r2 h
  cases x with
  | int i =>
    cases y with
    | int j =>
      unfold gI at h
      by_cases c : Pr (C i j)
      · simp only [if_pos c] at h
        exact ⟨i, j, r1, r2, c, h ρ F H _ (Ext.refl ..) rl (hr i j ρ F)⟩
      · simp only [if_neg c] at h
        exact h.elim
    | _ => exact h.elim
  | _ => exact h.elim
theorem opd_int0 {g : Int → Int → V} {f : Int → Int → D} (hr : ∀ i j ρ F, Rd X.K ρ F (f i j) (g i j)) : OpD X W (rI0 g) (gI0 f) := by
  intro ρ F s σ H x y v u Q rl r1 r2 h
  cases x with
  | int i =>
    cases y with
    | int j => exact ⟨i, j, r1, r2, h ρ F H _ (Ext.refl ..) rl (hr i j ρ F)⟩
    | _ => exact h.elim
  | _ => exact h.elim
noncomputable def gSub := gI0 fun i j => .int (i - j)
noncomputable def gMod := gI (fun _ j => 0 < j) fun i j => .int (i % j)
noncomputable def gDiv := gI CDivW fun i j => .int (i / j)
noncomputable def gPow := gI CPow fun i j => .int (i ^ j.toNat)
noncomputable def gAnd := gI0 fun i j => .int (Builtin.bitAnd i j)
noncomputable def gOr := gI0 fun i j => .int (Builtin.bitOr i j)
noncomputable def gXor := gI0 fun i j => .int (Builtin.bitXor i j)
noncomputable def gShl := gI CPow fun i j => .int (i * 2 ^ j.toNat)
noncomputable def gShr := gI (fun _ j => 0 ≤ j) fun i j => .int (i / 2 ^ j.toNat)
noncomputable def gLt := gI0 fun i j => .bl (dcd (i < j))
noncomputable def gLe := gI0 fun i j => .bl (dcd (i ≤ j))
noncomputable def gGt := gI0 fun i j => .bl (dcd (j < i))
noncomputable def gGe := gI0 fun i j => .bl (dcd (j ≤ i))
theorem opd_sub : OpD X W (rI0 fun i j => .int (i - j)) gSub := opd_int0 fun _ _ _ _ => rfl
theorem opd_mod : OpD X W (rI (fun _ j => 0 < j) fun i j => .int (i % j)) gMod := opd_int (fun _ _ => rfl) fun _ _ _ _ => rfl
theorem opd_div : OpD X W (rI CDivW fun i j => .int (i / j)) gDiv := opd_int (fun _ _ => rfl) fun _ _ _ _ => rfl
theorem opd_pow : OpD X W (rI CPow fun i j => .int (i ^ j.toNat)) gPow := opd_int (fun _ _ => rfl) fun _ _ _ _ => rfl
theorem opd_and : OpD X W (rI0 fun i j => .int (Builtin.bitAnd i j)) gAnd := opd_int0 fun _ _ _ _ => rfl
theorem opd_or : OpD X W (rI0 fun i j => .int (Builtin.bitOr i j)) gOr := opd_int0 fun _ _ _ _ => rfl
theorem opd_xor : OpD X W (rI0 fun i j => .int (Builtin.bitXor i j)) gXor := opd_int0 fun _ _ _ _ => rfl
theorem opd_shl : OpD X W (rI CPow fun i j => .int (i * 2 ^ j.toNat)) gShl := opd_int (fun _ _ => rfl) fun _ _ _ _ => rfl
theorem opd_shr : OpD X W (rI (fun _ j => 0 ≤ j) fun i j => .int (i / 2 ^ j.toNat)) gShr := opd_int (fun _ _ => rfl) fun _ _ _ _ => rfl
theorem opd_lt : OpD X W (rI0 fun i j => .bl (decide (i < j))) gLt := opd_int0 fun _ _ _ _ => congrArg V.bl (dcd_eq _)
theorem opd_le : OpD X W (rI0 fun i j => .bl (decide (i ≤ j))) gLe := opd_int0 fun _ _ _ _ => congrArg V.bl (dcd_eq _)
theorem opd_gt : OpD X W (rI0 fun i j => .bl (decide (j < i))) gGt := opd_int0 fun _ _ _ _ => congrArg V.bl (dcd_eq _)
theorem opd_ge : OpD X W (rI0 fun i j => .bl (decide (j ≤ i))) gGe := opd_int0 fun _ _ _ _ => congrArg V.bl (dcd_eq _)
theorem OpD.inl {r r' : R2} {g : D → D → DS → R D} (h : OpD X W r g) : OpD X W (fun x y H Q => r x y H Q ∨ r' x y H Q) g := fun ρ F s σ H x y v u Q rl r1 r2 p => .inl (h ρ F s σ H x y v u Q rl r1 r2 p)
theorem OpD.inr {r r' : R2} {g : D → D → DS → R D} (h : OpD X W r' g) : OpD X W (fun x y H Q => r x y H Q ∨ r' x y H Q) g := fun ρ F s σ H x y v u Q rl r1 r2 p => .inr (h ρ F s σ H x y v u Q rl r1 r2 p)
end

/-! ### sequences -/
/-- the items of the k-th object, a list -/
def objL (s : DS) (k : Nat) : Option (List D) := match s.m[k]? with
  | some (.lst ds) => some ds
  | _ => none
theorem objL_eq {s : DS} {k : Nat} {ds : List D} (h : objL s k = some ds) : s.m[k]? = some (.lst ds) := by
  unfold objL at h
  split at h
  · rename_i es e
    cases h
    exact e
  · cases h
theorem objL_of {s : DS} {k : Nat} {ds : List D} (h : s.m[k]? = some (.lst ds)) : objL s k = some ds := by
  unfold objL
  rw [h]
/-- a list's items: one that changes no more, or an object -/
def lstV (s : DS) : D → Option (List D)
  | .lst ds => some ds
  | .obj k => objL s k
  | _ => none
/-- a list's or a tuple's items -/
def seqV (s : DS) : D → Option (List D)
  | .tup ds => some ds
  | .lst ds => some ds
  | .lsr ds => some ds
  | .obj k => objL s k
  | _ => none
section
variable {K : PySem.W.Frag} {mg : Str → Option Value} {ρ : List Addr} {F H : Hp} {s : DS} {σ : St} {d : D} {v : V} {ds es : List D} {vs us : List V}
theorem Rel.objAt {k : Nat} {m : MO} (rl : MRel K mg ρ F s.m H) (r : Rd K ρ F (.obj k) v) (e : s.m[k]? = some m) (al : m.al) : ∃ a, v = .ref a ∧ ρ[k]? = some a ∧ F a = none ∧ MOk K mg ρ F H a m := by
  obtain ⟨a, e1, e2⟩ := r
  exact ⟨a, e1, e2, rl.own k a m e2 e al⟩
theorem lstV_rd (rl : MRel K mg ρ F s.m H) (r : Rd K ρ F d v) (e : lstV s d = some ds) : ∃ a vs, v = .ref a ∧ H a = some (.lst vs) ∧ RdL K ρ F ds vs := by
  cases d with
  | lst es =>
    cases e
    obtain ⟨a, vs, e1, e2, e3⟩ := r
    exact ⟨a, vs, e1, rl.sub a _ e2, e3⟩
  | obj k =>
    obtain ⟨a, e1, _, _, vs, e3, e4⟩ := Rel.objAt rl r (objL_eq e) trivial
    exact ⟨a, vs, e1, e3, e4⟩
  | _ => cases e
theorem seqV_rd (rl : MRel K mg ρ F s.m H) (r : Rd K ρ F d v) (e : seqV s d = some ds) : ∃ a vs, v = .ref a ∧ (SqL K H a vs ∨ SqT K H a vs) ∧ RdL K ρ F ds vs := by
  cases d with
  | lst es =>
    cases e
    obtain ⟨a, vs, e1, e2, e3⟩ := r
    exact ⟨a, vs, e1, .inl (.inl (.inl (rl.sub a _ e2))), e3⟩
  | lsr es =>
    cases e
    obtain ⟨a, vs, e1, e2, e3⟩ := r
    exact ⟨a, vs, e1, .inl (rl.sub.seq e2), e3⟩
  | tup es =>
    cases e
    obtain ⟨a, vs, e1, e2, e3⟩ := r
    exact ⟨a, vs, e1, .inr (sqT_mono rl.sub e2), e3⟩
  | obj k =>
    obtain ⟨a, e1, _, _, vs, e3, e4⟩ := Rel.objAt rl r (objL_eq e) trivial
    exact ⟨a, vs, e1, .inl (.inl (.inl e3)), e4⟩
  | _ => cases e
theorem RdL.length : ∀ {ds : List D} {vs : List V}, RdL K ρ F ds vs → vs.length = ds.length
  | [], _, h => by
    simp only [RdL] at h
    subst h
    rfl
  | d :: ds, _, h => by
    simp only [RdL] at h
    obtain ⟨v, r, e, _, h2⟩ := h
    subst e
    simp [RdL.length h2]
theorem RdL.get : ∀ {ds : List D} {vs : List V} {i : Nat} {d : D}, RdL K ρ F ds vs → ds[i]? = some d → ∃ v, vs[i]? = some v ∧ Rd K ρ F d v
  | [], _, _, _, _, e => by simp at e
  | d :: ds, _, i, x, h, e => by
    simp only [RdL] at h
    obtain ⟨v, r, e1, h1, h2⟩ := h
    subst e1
    cases i with
    | zero =>
      simp at e
      subst e
      exact ⟨v, by simp, h1⟩
    | succ i =>
      obtain ⟨u, q1, q2⟩ := RdL.get (i := i) (d := x) h2 (by simpa using e)
      exact ⟨u, by simpa using q1, q2⟩
theorem RdL.append : ∀ {ds es : List D} {vs us : List V}, RdL K ρ F ds vs → RdL K ρ F es us → RdL K ρ F (ds ++ es) (vs ++ us)
  | [], _, _, _, h, h' => by
    simp only [RdL] at h
    subst h
    exact h'
  | d :: ds, es, _, us, h, h' => by
    simp only [RdL, List.cons_append] at h ⊢
    obtain ⟨v, r, e1, h1, h2⟩ := h
    subst e1
    exact ⟨v, r ++ us, rfl, h1, RdL.append h2 h'⟩
theorem RdL.one (r : Rd K ρ F d v) : RdL K ρ F [d] [v] := ⟨v, [], rfl, r, rfl⟩
theorem RdL.take : ∀ {ds : List D} {vs : List V} (n : Nat), RdL K ρ F ds vs → RdL K ρ F (ds.take n) (vs.take n)
  | _, _, 0, _ => by simp [RdL]
  | [], _, _ + 1, h => by
    simp only [RdL] at h
    subst h
    simp [RdL]
  | d :: ds, _, n + 1, h => by
    simp only [RdL, List.take_succ_cons] at h ⊢
    obtain ⟨v, r, e1, h1, h2⟩ := h
    subst e1
    exact ⟨v, r.take n, rfl, h1, RdL.take n h2⟩
theorem RdL.drop : ∀ {ds : List D} {vs : List V} (n : Nat), RdL K ρ F ds vs → RdL K ρ F (ds.drop n) (vs.drop n)
  | _, _, 0, h => h
  | [], _, _ + 1, h => by
    simp only [RdL] at h
    subst h
    simp [RdL]
  | d :: ds, _, n + 1, h => by
    simp only [RdL, List.drop_succ_cons] at h ⊢
    obtain ⟨v, r, e1, h1, h2⟩ := h
    subst e1
    exact RdL.drop n h2
theorem RdL.set (r : Rd K ρ F d v) : ∀ {ds : List D} {vs : List V} (n : Nat), RdL K ρ F ds vs → RdL K ρ F (ds.set n d) (vs.set n v)
  | [], _, _, h => by
    simp only [RdL] at h
    subst h
    simp [RdL]
  | e :: ds, _, 0, h => by
    simp only [RdL, List.set_cons_zero] at h ⊢
    obtain ⟨u, t, e1, h1, h2⟩ := h
    subst e1
    exact ⟨v, t, rfl, r, h2⟩
  | e :: ds, _, n + 1, h => by
    simp only [RdL, List.set_cons_succ] at h ⊢
    obtain ⟨u, t, e1, h1, h2⟩ := h
    subst e1
    exact ⟨u, t.set n v, rfl, h1, RdL.set r n h2⟩
theorem RdL.reverse : ∀ {ds : List D} {vs : List V}, RdL K ρ F ds vs → RdL K ρ F ds.reverse vs.reverse
  | [], _, h => by
    simp only [RdL] at h
    subst h
    simp [RdL]
  | d :: ds, _, h => by
    simp only [RdL] at h
    obtain ⟨v, r, e1, h1, h2⟩ := h
    subst e1
    rw [List.reverse_cons, List.reverse_cons]
    exact RdL.append (RdL.reverse h2) (RdL.one h1)
theorem RdL.rep (h : RdL K ρ F ds vs) : ∀ n : Nat, RdL K ρ F (List.replicate n ds).flatten (List.replicate n vs).flatten
  | 0 => by simp [RdL]
  | n + 1 => by
    rw [List.replicate_succ, List.replicate_succ, List.flatten_cons, List.flatten_cons]
    exact RdL.append h (RdL.rep h n)
theorem RdL.nil_iff (h : RdL K ρ F ds vs) : vs = [] ↔ ds = [] := by
  have := h.length
  cases vs <;> cases ds <;> simp_all
/-- a slice -/
def cutG {α : Type} (xs : List α) (lo hi : Option Int) : List α := (xs.drop (HT.sIx xs.length 0 lo)).take (HT.sIx xs.length xs.length hi - HT.sIx xs.length 0 lo)
theorem RdL.cut (h : RdL K ρ F ds vs) (lo hi : Option Int) : RdL K ρ F (cutG ds lo hi) (cutV vs lo hi) := by
  unfold cutG cutV
  rw [h.length]
  exact RdL.take _ (RdL.drop _ h)
theorem RdL.atI {i : Int} (h : RdL K ρ F ds vs) (e : L2.atI ds i = some d) : ∃ v, L2.atI vs i = some v ∧ Rd K ρ F d v := by
  unfold L2.atI at e ⊢
  rw [h.length]
  cases q : ixN ds.length i with
  | none => rw [q] at e; cases e
  | some j =>
    rw [q] at e
    exact h.get (i := j) e
end

section
variable {X : Cx} {W : WX} {ρ : List Addr} {F H : Hp} {s : DS} {σ : St} {Q : VK} {vs : List V} {ds : List D}
/-- a new tuple is handed on -/
theorem Post.tup (h : Post X W (Rd X.K) ρ F H σ Q (.ok (.tup ds) s)) (rl : Rel X.K X.mg ρ F s σ H) (r : RdL X.K ρ F ds vs) : ∀ p, H p = none → Q (.ref p) (upd H p (.tup vs)) := fun p hp => by
  obtain ⟨m, x⟩ := rl.mem.frozen (o := .tup vs) hp
  exact h _ _ _ _ x ⟨m, rl.slo.ext x⟩ ⟨p, vs, rfl, .new upd_same, r.ext x⟩
/-- a new list that never changes -/
theorem Post.lst (h : Post X W (Rd X.K) ρ F H σ Q (.ok (.lst ds) s)) (rl : Rel X.K X.mg ρ F s σ H) (r : RdL X.K ρ F ds vs) : ∀ p, H p = none → Q (.ref p) (upd H p (.lst vs)) := fun p hp => by
  obtain ⟨m, x⟩ := rl.mem.frozen (o := .lst vs) hp
  exact h _ _ _ _ x ⟨m, rl.slo.ext x⟩ ⟨p, vs, rfl, upd_same, r.ext x⟩
/-- a new list that may change -/
theorem Post.new (h : Post X W (Rd X.K) ρ F H σ Q (.ok (.obj s.m.length) { s with m := s.m ++ [.lst ds] })) (rl : Rel X.K X.mg ρ F s σ H) (r : RdL X.K ρ F ds vs) : ∀ p, H p = none → Q (.ref p) (upd H p (.lst vs)) := fun p hp => by
  obtain ⟨m, x⟩ := rl.mem.alloc (o := .lst vs) (m := .lst ds) hp trivial ⟨vs, upd_same, RdL.mono ⟨[p], rfl⟩ (Same.refl F) _ _ r⟩
  refine h _ _ _ _ x ⟨m, rl.slo.ext x⟩ ⟨p, rfl, ?_⟩
  rw [← rl.mem.len, List.getElem?_append_right (Nat.le_refl _)]
  simp
end

/-! ### + -/
noncomputable def gAdd : D → D → DS → R D := fun x y s => match x, y with
  | .int i, .int j => .ok (.int (i + j)) s
  | .str i, .str j => if Pr (i.length + j.length ≤ sizeLine) then .ok (.str (i ++ j)) s else .bad
  | .tup xs, .tup ys => if Pr (xs.length + ys.length ≤ sizeLine) then .ok (.tup (xs ++ ys)) s else .bad
  | x, y => match lstV s x, lstV s y with
    | some xs, some ys => if Pr (xs.length + ys.length ≤ sizeLine) then .ok (.lst (xs ++ ys)) s else .bad
    | _, _ => .bad
abbrev rAddA (K : PySem.W.Frag) : R2 := fun x y H Q => (fun x y H Q => (fun x y H Q => rI0 (fun i j => .int (i + j)) x y H Q ∨ (fun x y H Q => ∃ i j, x = .str i ∧ y = .str j ∧ i.length + j.length ≤ sizeLine ∧ Q (.str (i ++ j)) H) x y H Q) x y H Q ∨ rCatA K x y H Q) x y H Q ∨ rCat x y H Q
section
variable {X : Cx} {W : WX}
theorem op_addA : OpR X (binaryOp .Add) (rAddA X.K) := ((op_add.or op_add_str).or op_catA).or op_cat
theorem opd_add : OpD X W (rAddA X.K) gAdd := by
  intro ρ F s σ H x y v u Q rl r1 r2 h
  have lists : ∀ xs ys, lstV s x = some xs → lstV s y = some ys → Post X W (Rd X.K) ρ F H σ Q (if Pr (xs.length + ys.length ≤ sizeLine) then .ok (.lst (xs ++ ys)) s else .bad) → rCat v u H Q := fun xs ys e1 e2 h => by
    obtain ⟨a, vs, rfl, q1, l1⟩ := lstV_rd rl.mem r1 e1
    obtain ⟨b, us, rfl, q2, l2⟩ := lstV_rd rl.mem r2 e2
    split at h
    · rename_i hc
      exact ⟨a, b, vs, us, rfl, rfl, q1, q2, by rw [l1.length, l2.length]; exact hc, Post.lst h rl (l1.append l2)⟩
    · exact h.elim
  unfold gAdd at h
  split at h
  · exact .inl (.inl (.inl ⟨_, _, r1, r2, h ρ F H _ (Ext.refl ..) rl rfl⟩))
  · split at h
    · rename_i hc
      exact .inl (.inl (.inr ⟨_, _, r1, r2, hc, h ρ F H _ (Ext.refl ..) rl rfl⟩))
    · exact h.elim
  · rename_i xs ys
    obtain ⟨a, vs, rfl, q1, l1⟩ := r1
    obtain ⟨b, us, rfl, q2, l2⟩ := r2
    split at h
    · rename_i hc
      refine .inl (.inr ⟨a, b, vs, us, rfl, rfl, sqT_mono rl.mem.sub q1, sqT_mono rl.mem.sub q2, by rw [l1.length, l2.length]; exact hc, fun e => ?_, fun e e' => ?_, fun _ _ => Post.tup h rl (l1.append l2)⟩)
      · have e1 := l1.nil_iff.mp e
        subst e1
        exact h ρ F H _ (Ext.refl ..) rl ⟨b, us, rfl, q2, l2⟩
      · have e1 := l2.nil_iff.mp e'
        subst e1
        rw [List.append_nil] at h
        exact h ρ F H _ (Ext.refl ..) rl ⟨a, vs, rfl, q1, l1⟩
    · exact h.elim
  · split at h
    · rename_i xs ys e1 e2
      exact .inr (lists xs ys e1 e2 h)
    · exact h.elim

/-! ### * -/
open PySem.Spec PyProof.Rows in
theorem tup_mul_same (l : Addr) (items : Array Value) (n : Nat) (dd : Option Addr) (sl : Array (Option Value)) (x : Int) (u : Tok) (c0 : (decide (x < -(2 ^ 63)) || decide (x ≥ 2 ^ 63)) = false) (c1 : (items.isEmpty || x == 1) = true) :
    Meets (Builtin.«tuple.__mul__» ⟨[.ref l, .int x u], []⟩) (fun _ R s => s.heap.get? l = some { cls := .type "tuple", dict := dd, data := .seq items n, slots := sl } ∧ R (.ok (.ret (Value.ref l))) s) :=
  .of_wp fun prog w A R s h => by
    obtain ⟨hp, g, d, tk, os⟩ := s
    obtain ⟨hl, h⟩ := h
    have f1 := AutoSeq1.idx_int
    wp_walk using wpAny_loadPart' hl
    repeat (first
      | (refine wpAny_ite_false (decide_eq_false (by rw [c0]; exact Bool.false_ne_true)) ?_; wp_walk using wpAny_loadPart' hl)
      | (refine wpAny_ite_true (decide_eq_true c1) ?_; wp_walk using wpAny_loadPart' hl))
    exact ⟨_, rfl, h⟩
open PySem.Spec PyProof.Rows in
theorem tup_mul_none (l : Addr) (items : Array Value) (n : Nat) (dd : Option Addr) (sl : Array (Option Value)) (x : Int) (u : Tok) (c0 : (decide (x < -(2 ^ 63)) || decide (x ≥ 2 ^ 63)) = false) (c1 : (items.isEmpty || x == 1) = false) (c2 : (decide (x ≤ 0) || items.isEmpty) = true) :
    Meets (Builtin.«tuple.__mul__» ⟨[.ref l, .int x u], []⟩) (fun _ R s => s.heap.get? l = some { cls := .type "tuple", dict := dd, data := .seq items n, slots := sl } ∧
      R (.ok (.ret (Value.ref s.heap.objs.size))) { s with heap := s.heap.push { cls := Value.type "tuple", data := Data.seq #[] }, toks := s.toks }) :=
  .of_wp fun prog w A R s h => by
    obtain ⟨hp, g, d, tk, os⟩ := s
    obtain ⟨hl, h⟩ := h
    have f1 := AutoSeq1.idx_int
    wp_walk using wpAny_loadPart' hl
    repeat (first
      | (refine wpAny_ite_false (decide_eq_false (by rw [c0]; exact Bool.false_ne_true)) ?_; wp_walk using wpAny_loadPart' hl)
      | (refine wpAny_ite_false (decide_eq_false (by rw [c1]; exact Bool.false_ne_true)) ?_; wp_walk using wpAny_loadPart' hl)
      | (refine wpAny_ite_true (decide_eq_true c2) ?_; wp_walk using wpAny_loadPart' hl))
    exact ⟨_, rfl, h⟩
def rRepS (K : PySem.W.Frag) : R2 := fun x y H Q => ∃ l k xs, x = .ref l ∧ y = .int k ∧ SqT K H l xs ∧ (xs = [] ∨ k = 1) ∧ -(2 ^ 63) ≤ k ∧ k ≤ 1000 ∧ Q (.ref l) H
def rRepZ (K : PySem.W.Frag) : R2 := fun x y H Q => ∃ l k xs, x = .ref l ∧ y = .int k ∧ SqT K H l xs ∧ xs ≠ [] ∧ -(2 ^ 63) ≤ k ∧ k ≤ 0 ∧ ∀ p, H p = none → Q (.ref p) (upd H p (.tup []))
section
variable {X : Cx} {W : WX}
open PySem.Spec PyProof.Rows
theorem op_repS : OpR X (binaryOp .Mult) (rRepS X.K) := by
  intro pins s σ H x y v u Q I rx ry h
  obtain ⟨l, k, xs, rfl, rfl, hT, h0, h1, h2, q⟩ := h
  cases rx
  obtain ⟨t, rfl⟩ := ry
  obtain ⟨its, r, ⟨⟨cls, dd, data, sl⟩, ho, hc, n, hd⟩, hs⟩ := I.tuple hT
  simp only at hc hd
  subst hc hd
  have c0 : (decide (k < -(2 ^ 63)) || decide (k ≥ 2 ^ 63)) = false := by
    rw [decide_eq_false (by omega), decide_eq_false (by omega)] <;> rfl
  have c1 : (its.toArray.isEmpty || k == 1) = true := by
    rcases h0 with e | e
    · have e2 : its = [] := by have := r.length; rw [e] at this; exact List.eq_nil_of_length_eq_zero this.symm
      rw [e2]
      rfl
    · rw [e, Bool.or_eq_true]
      exact .inr rfl
  exact wpAny_binaryOp_repeat_ref (T := "tuple") (U := "int") (by decide) ⟨_, ho, rfl⟩ (fun s' => typeIs_int s' k t) noFill_tuple_mul F.fills_int_mul F.slot_int_rmul repeat_tuple F.slot_int_index.lookup
    (call_meets F.slot_int_rmul (typeIs_int s k t) F.entry_int_rmul (F.args_int_rmul_2 _ _) (int_rmul_tuple k t l its.toArray n dd sl)
      ⟨ho, rfl, ⟨_, ho, rfl⟩, call_meets F.slot_tuple_mul ⟨_, ho, rfl⟩ F.entry_tuple_mul (F.args_tuple_mul_2 _ _) (tup_mul_same l its.toArray n dd sl k t c0 c1) ⟨ho, .ref l, H, I, rfl, q⟩⟩)
theorem op_repZ : OpR X (binaryOp .Mult) (rRepZ X.K) := by
  intro pins s σ H x y v u Q I rx ry h
  obtain ⟨l, k, xs, rfl, rfl, hT, hne, h1, h2, q⟩ := h
  cases rx
  obtain ⟨t, rfl⟩ := ry
  obtain ⟨its, r, ⟨⟨cls, dd, data, sl⟩, ho, hc, n, hd⟩, hs⟩ := I.tuple hT
  simp only at hc hd
  subst hc hd
  have hn : its ≠ [] := fun e => hne (by have := r.length; rw [e] at this; exact List.eq_nil_of_length_eq_zero this)
  have hi : its.toArray.isEmpty = false := by
    cases its with
    | nil => exact absurd rfl hn
    | cons a b => rfl
  have c0 : (decide (k < -(2 ^ 63)) || decide (k ≥ 2 ^ 63)) = false := by
    rw [decide_eq_false (by omega), decide_eq_false (by omega)] <;> rfl
  have c1 : (its.toArray.isEmpty || k == 1) = false := by
    rw [hi, Bool.false_or]
    exact beq_eq_false_iff_ne.mpr (by omega)
  have c2 : (decide (k ≤ 0) || its.toArray.isEmpty) = true := by
    rw [hi, Bool.or_false]
    exact decide_eq_true h2
  refine wpAny_binaryOp_repeat_ref (T := "tuple") (U := "int") (by decide) ⟨_, ho, rfl⟩ (fun s' => typeIs_int s' k t) noFill_tuple_mul F.fills_int_mul F.slot_int_rmul repeat_tuple F.slot_int_index.lookup
    (call_meets F.slot_int_rmul (typeIs_int s k t) F.entry_int_rmul (F.args_int_rmul_2 _ _) (int_rmul_tuple k t l its.toArray n dd sl)
      ⟨ho, rfl, ⟨_, ho, rfl⟩, call_meets F.slot_tuple_mul ⟨_, ho, rfl⟩ F.entry_tuple_mul (F.args_tuple_mul_2 _ _) (tup_mul_none l its.toArray n dd sl k t c0 c1 c2) ⟨ho, ?_⟩⟩)
  exact ⟨.ref s.heap.objs.size, _, I.laid (t' := s.toks) (o := .tup []) (fun b ob q => Heap.get?_push_of_some _ q) (Nat.le_refl _) ⟨Nat.zero_le _, [], .nil, IsTup.new _ _⟩, rfl, q _ (I.hok.fresh (Nat.le_refl _))⟩
abbrev rMulA (K : PySem.W.Frag) : R2 := fun x y H Q => (fun x y H Q => (fun x y H Q => (fun x y H Q => rI CMul (fun i j => .int (i * j)) x y H Q ∨ rRep x y H Q) x y H Q ∨ rRepT K x y H Q) x y H Q ∨ rRepS K x y H Q) x y H Q ∨ rRepZ K x y H Q
theorem op_mulA : OpR X (binaryOp .Mult) (rMulA X.K) := (((op_mul.or op_rep).or op_repT).or op_repS).or op_repZ
noncomputable def gMul : D → D → DS → R D := fun x y s => match x, y with
  | .int i, .int j => if Pr (CMul i j) then .ok (.int (i * j)) s else .bad
  | .tup xs, .int k => if Pr (-(2 ^ 63) ≤ k ∧ k ≤ 1000 ∧ xs.length ≤ 1000) then .ok (.tup (List.replicate k.toNat xs).flatten) s else .bad
  | x, .int k => match lstV s x with
    | some xs => if Pr (-(2 ^ 63) ≤ k ∧ k < 2 ^ 63 ∧ xs.length * k.toNat ≤ sizeLine) then .ok (.lst (List.replicate k.toNat xs).flatten) s else .bad
    | none => .bad
  | _, _ => .bad
theorem flat_nil {α : Type} : ∀ n : Nat, (List.replicate n ([] : List α)).flatten = []
  | 0 => rfl
  | n + 1 => by rw [List.replicate_succ, List.flatten_cons, flat_nil n]; rfl
theorem opd_mul : OpD X W (rMulA X.K) gMul := by
  intro ρ F s σ H x y v u Q rl r1 r2 h
  unfold gMul at h
  split at h
  · split at h
    · rename_i hc
      exact .inl (.inl (.inl (.inl ⟨_, _, r1, r2, hc, h ρ F H _ (Ext.refl ..) rl rfl⟩)))
    · exact h.elim
  · rename_i xs k
    obtain ⟨a, vs, rfl, q1, l1⟩ := r1
    split at h
    · rename_i hc
      have hc1 : -(2 ^ 63) ≤ k ∧ k ≤ 1000 ∧ xs.length ≤ 1000 := hc
      obtain ⟨b1, b2, b3⟩ := hc1
      have q2 := sqT_mono rl.mem.sub q1
      by_cases e : vs = []
      · have e1 := l1.nil_iff.mp e
        subst e1
        rw [flat_nil] at h
        exact .inl (.inr ⟨a, _, vs, rfl, r2, q2, .inl e, b1, b2, h ρ F H _ (Ext.refl ..) rl ⟨a, vs, rfl, q1, l1⟩⟩)
      · by_cases e1 : k = 1
        · subst e1
          have e3 : (List.replicate (1 : Int).toNat xs).flatten = xs := by simp
          rw [e3] at h
          exact .inl (.inr ⟨a, _, vs, rfl, r2, q2, .inr rfl, b1, b2, h ρ F H _ (Ext.refl ..) rl ⟨a, vs, rfl, q1, l1⟩⟩)
        · by_cases e2 : k ≤ 0
          · refine .inr ⟨a, _, vs, rfl, r2, q2, e, b1, e2, ?_⟩
            have : (List.replicate k.toNat xs).flatten = [] := by rw [show k.toNat = 0 by omega]; rfl
            rw [this] at h
            exact Post.tup h rl (show RdL X.K ρ F [] [] from rfl)
          · exact .inl (.inl (.inr ⟨a, _, vs, rfl, r2, q2, e, by omega, b2, by rw [l1.length]; exact b3, Post.tup h rl (l1.rep _)⟩))
    · exact h.elim
  · split at h
    · rename_i xs e1
      obtain ⟨a, vs, rfl, q1, l1⟩ := lstV_rd rl.mem r1 e1
      split at h
      · rename_i hc
        exact .inl (.inl (.inl (.inr ⟨a, _, vs, rfl, r2, q1, hc.1, hc.2.1, by rw [l1.length]; exact hc.2.2, Post.lst h rl (l1.rep _)⟩)))
      · exact h.elim
    · exact h.elim
  · exact h.elim
end

/-! ### items, slices -/
def gIx : D → D → DS → R D := fun x y s => match seqV s x, y with
  | some ds, .int i => match L2.atI ds i with
    | some d => .ok d s
    | none => .bad
  | _, _ => .bad
theorem pd_ix {a b : Expr} {pos : Pos} {fa fb : DS → R D} (ha : PD X W a fa) (hb : PD X W b fb) (hs : PlainIx b := by exact fun _ _ => rfl) : PD X W (.Subscript a b pos) (fBin fa fb gIx) := by
  obtain ⟨ta, ea, la⟩ := ha
  obtain ⟨tb, eb, lb⟩ := hb
  refine ⟨_, pe_ix (ix_list.or ix_tup) ea eb hs, OpD.run (r := fun x y H Q => rIxL X.K x y H Q ∨ rIxT X.K x y H Q) (fun ρ F s σ H x y v u Q rl r1 r2 h => ?_) la lb⟩
  unfold gIx at h
  split at h
  · rename_i ds i e1
    split at h
    · rename_i d e2
      obtain ⟨p, vs, rfl, q, l⟩ := seqV_rd rl.mem r1 e1
      obtain ⟨w, e3, r3⟩ := l.atI e2
      have fin := h ρ F H w (Ext.refl ..) rl r3
      rcases q with q | q
      · exact .inl ⟨p, vs, i, w, rfl, r2, q, e3, fin⟩
      · exact .inr ⟨p, vs, i, w, rfl, r2, q, e3, fin⟩
    · exact h.elim
  · exact h.elim
/-- the ends of a slice -/
def PDO (X : Cx) (W : WX) (e : Option Expr) (f : DS → R (Option Int)) : Prop := ∃ t, PO X e t ∧ Stl X W (fun _ _ a b => b = a) t f
def fNoO : DS → R (Option Int) := fun s => .ok none s
def fO (f : DS → R D) : DS → R (Option Int) := fun s => (f s).bind fun d s1 => match d with
  | .int i => .ok (some i) s1
  | _ => .bad
theorem pdo_none : PDO X W none fNoO := ⟨_, po_none, fun ρ F s σ H Q rl h => h ρ F H _ (Ext.refl ..) rl rfl⟩
theorem pdo_some {e : Expr} {f : DS → R D} (h : PD X W e f) : PDO X W (some e) (fO f) := by
  obtain ⟨t, e1, l⟩ := h
  refine ⟨_, po_some e1, fun ρ F s σ H Q rl h => l ρ F s σ H _ rl (h.bind fun d s1 ρ1 F1 H1 v x1 rl1 rd1 h1 => ?_)⟩
  cases d with
  | int i => exact ⟨i, rd1, h1 ρ1 F1 H1 _ (Ext.refl ..) rl1 rfl⟩
  | _ => exact h1.elim
def gSl (x : D) (lo hi : Option Int) (s : DS) : R D := match x with
  | .tup ds => .ok (.tup (cutG ds lo hi)) s
  | x => match seqV s x with
    | some ds => .ok (.lst (cutG ds lo hi)) s
    | none => .bad
def fSl (f : DS → R D) (fl fh : DS → R (Option Int)) : DS → R D := fun s => (f s).bind fun x s1 => (fl s1).bind fun lo s2 => (fh s2).bind fun hi s3 => gSl x lo hi s3
theorem seqV_l {K : PySem.W.Frag} {mg : Str → Option Value} {ρ : List Addr} {F H : Hp} {s : DS} {d : D} {v : V} {ds : List D} (rl : MRel K mg ρ F s.m H) (r : Rd K ρ F d v) (e : seqV s d = some ds) (n : ∀ es, d ≠ .tup es) : ∃ a vs, v = .ref a ∧ SqL K H a vs ∧ RdL K ρ F ds vs := by
  cases d with
  | lst es =>
    cases e
    obtain ⟨a, vs, e1, e2, e3⟩ := r
    exact ⟨a, vs, e1, .inl (.inl (rl.sub a _ e2)), e3⟩
  | lsr es =>
    cases e
    obtain ⟨a, vs, e1, e2, e3⟩ := r
    exact ⟨a, vs, e1, rl.sub.seq e2, e3⟩
  | tup es => exact absurd rfl (n es)
  | obj k =>
    obtain ⟨a, vs, e1, e2, e3⟩ := lstV_rd rl r (d := .obj k) (s := s) e
    exact ⟨a, vs, e1, .inl (.inl e2), e3⟩
  | _ => cases e
theorem pd_sl {e : Expr} {lo hi : Option Expr} {pos p2 : Pos} {f : DS → R D} {fl fh : DS → R (Option Int)} (he : PD X W e f) (hl : PDO X W lo fl) (hh : PDO X W hi fh) : PD X W (.Subscript e (.Slice lo hi none p2) pos) (fSl f fl fh) := by
  obtain ⟨t, e1, l⟩ := he
  obtain ⟨t2, e2, l2⟩ := hl
  obtain ⟨t3, e3, l3⟩ := hh
  refine ⟨_, pe_slice (sl_list.or sl_tupA) e1 e2 e3, fun ρ F s σ H Q rl h => l ρ F s σ H _ rl (h.bind fun x s1 ρ1 F1 H1 v x1 rl1 rd1 h1 => ?_)⟩
  refine l2 ρ1 F1 s1 σ H1 _ rl1 (Post.bind h1 fun i s2 ρ2 F2 H2 i' x2 rl2 rd2 h2 => ?_)
  refine l3 ρ2 F2 s2 σ H2 _ rl2 (h2.bind fun j s3 ρ3 F3 H3 j' x3 rl3 rd3 h3 => ?_)
  subst rd2
  subst rd3
  have r := (rd1.ext x2).ext x3
  unfold gSl at h3
  split at h3
  · rename_i ds
    obtain ⟨a, vs, rfl, q, lr⟩ := r
    refine .inr ⟨a, vs, rfl, sqT_mono rl3.mem.sub q, fun ⟨c1, c2⟩ => ?_, fun _ => Post.tup h3 rl3 (lr.cut i' j')⟩
    have e5 : cutG ds i' j' = ds := by
      unfold cutG
      rw [← lr.length, c1, c2, List.drop_zero, Nat.sub_zero, lr.length, List.take_length]
    rw [e5] at h3
    exact h3 ρ3 F3 H3 _ (Ext.refl ..) rl3 ⟨a, vs, rfl, q, lr⟩
  · rename_i x hx
    split at h3
    · rename_i ds e4
      obtain ⟨a, vs, rfl, q, lr⟩ := seqV_l rl3.mem r e4 (fun es z => hx es z)
      exact .inl ⟨a, vs, rfl, q, Post.lst h3 rl3 (lr.cut i' j')⟩
    · exact h3.elim
/-- x[::-1] -/
def fRev (f : DS → R D) : DS → R D := fun s => (f s).bind fun x s1 => match x with
  | .tup _ => .bad
  | x => match seqV s1 x with
    | some ds => .ok (.lst ds.reverse) s1
    | none => .bad
theorem pd_rev {e : Expr} {k : Nat} {p1 p2 p3 pos : Pos} {f : DS → R D} (he : PD X W e f) : PD X W (.Subscript e (.Slice none none (some (.UnaryOp .USub (.Constant (.int 1) k p1) p2)) p3) pos) (fRev f) := by
  obtain ⟨t, e1, l⟩ := he
  refine ⟨_, pe_revL e1, fun ρ F s σ H Q rl h => l ρ F s σ H _ rl (h.bind fun x s1 ρ1 F1 H1 v x1 rl1 rd1 h1 => ?_)⟩
  split at h1
  · exact h1.elim
  · rename_i x hx
    split at h1
    · rename_i ds e4
      obtain ⟨a, vs, rfl, q, lr⟩ := seqV_l rl1.mem rd1 e4 (fun es z => hx es z)
      exact ⟨a, vs, rfl, q, Post.lst h1 rl1 lr.reverse⟩
    · exact h1.elim

/-! ### displays -/
def fNil : DS → R (List D) := fun s => .ok [] s
def fCons (f : DS → R D) (g : DS → R (List D)) : DS → R (List D) := fun s => (f s).bind fun d s1 => (g s1).bind fun ds s2 => .ok (d :: ds) s2
theorem pda_nil : PDA X W [] fNil := ⟨_, pa_nil, fun ρ F s σ H Q rl h => h ρ F H _ (Ext.refl ..) rl rfl⟩
theorem pda_cons {e : Expr} {es : List Expr} {f : DS → R D} {g : DS → R (List D)} (he : PD X W e f) (hr : PDA X W es g) (hs : starEach (e :: es) X.env = (false, eval e X.env) :: starEach es X.env := by rfl) : PDA X W (e :: es) (fCons f g) := by
  obtain ⟨t, e1, l⟩ := he
  obtain ⟨t2, e2, l2⟩ := hr
  refine ⟨_, pa_cons e1 e2 hs, fun ρ F s σ H Q rl h => l ρ F s σ H _ rl (h.bind fun d s1 ρ1 F1 H1 v x1 rl1 rd1 h1 => ?_)⟩
  refine l2 ρ1 F1 s1 σ H1 _ rl1 (Post.bind h1 fun ds s2 ρ2 F2 H2 vs x2 rl2 rd2 h2 => ?_)
  exact h2 ρ2 F2 H2 _ (Ext.refl ..) rl2 ⟨v, vs, rfl, rd1.ext x2, rd2⟩
noncomputable def fTup (g : DS → R (List D)) : DS → R D := fun s => (g s).bind fun ds s1 => if Pr (ds.length ≤ sizeLine) then .ok (.tup ds) s1 else .bad
noncomputable def fLst (g : DS → R (List D)) : DS → R D := fun s => (g s).bind fun ds s1 => if Pr (ds.length ≤ sizeLine) then .ok (.lst ds) s1 else .bad
/-- .. that may change -/
noncomputable def fNew (g : DS → R (List D)) : DS → R D := fun s => (g s).bind fun ds s1 => if Pr (ds.length ≤ sizeLine) then .ok (.obj s1.m.length) { s1 with m := s1.m ++ [.lst ds] } else .bad
theorem pd_tup {es : List Expr} {pos : Pos} {x1} {g : DS → R (List D)} (h : PDA X W es g) : PD X W (.Tuple es x1 pos) (fTup g) := by
  obtain ⟨t, e1, l⟩ := h
  refine ⟨_, pe_tup e1, fun ρ F s σ H Q rl h => l ρ F s σ H _ rl (h.bind fun ds s1 ρ1 F1 H1 vs x1 rl1 rd1 h1 => ?_)⟩
  split at h1
  · rename_i hc
    exact ⟨by rw [rd1.length]; exact hc, Post.tup h1 rl1 rd1⟩
  · exact h1.elim
theorem pd_lst {es : List Expr} {pos : Pos} {g : DS → R (List D)} (h : PDA X W es g) : PD X W (.List es pos) (fLst g) := by
  obtain ⟨t, e1, l⟩ := h
  refine ⟨_, pe_lst e1, fun ρ F s σ H Q rl h => l ρ F s σ H _ rl (h.bind fun ds s1 ρ1 F1 H1 vs x1 rl1 rd1 h1 => ?_)⟩
  split at h1
  · rename_i hc
    exact ⟨by rw [rd1.length]; exact hc, Post.lst h1 rl1 rd1⟩
  · exact h1.elim
theorem pd_new {es : List Expr} {pos : Pos} {g : DS → R (List D)} (h : PDA X W es g) : PD X W (.List es pos) (fNew g) := by
  obtain ⟨t, e1, l⟩ := h
  refine ⟨_, pe_lst e1, fun ρ F s σ H Q rl h => l ρ F s σ H _ rl (h.bind fun ds s1 ρ1 F1 H1 vs x1 rl1 rd1 h1 => ?_)⟩
  split at h1
  · rename_i hc
    exact ⟨by rw [rd1.length]; exact hc, Post.new h1 rl1 rd1⟩
  · exact h1.elim
end
end DL

/-! Rules: == and in over data, isinstance, calls of what is built in. -/
namespace DL
open PySem L2

mutual
def toP : D → PyData
  | .bl b => .bool b
  | .int i => .int i
  | .str x => .str x
  | .tup ds => .tuple (toPL ds)
  | .lst ds => .list (toPL ds)
  | _ => .none
def toPL : List D → List PyData
  | [] => []
  | d :: ds => toP d :: toPL ds
end
mutual
/-- data of at most n floors, without objects -/
def okD : Nat → D → Bool
  | _, .non => true
  | _, .bl _ => true
  | _, .int _ => true
  | _, .str x => PyData.strOk x
  | n, .tup ds => match n with
    | 0 => false
    | m + 1 => okL m ds
  | n, .lst ds => match n with
    | 0 => false
    | m + 1 => okL m ds
  | _, _ => false
def okL : Nat → List D → Bool
  | _, [] => true
  | n, d :: ds => okD n d && okL n ds
end
mutual
/-- == -/
noncomputable def eqD : D → D → Bool
  | .non, .non => true
  | .bl a, .bl b => a == b
  | .bl a, .int j => (if a then 1 else 0) == j
  | .int i, .bl b => i == (if b then 1 else 0)
  | .int i, .int j => dcd (i = j)
  | .str x, .str y => dcd (x = y)
  | .lst xs, .lst ys => eqL xs ys
  | .tup xs, .tup ys => eqL xs ys
  | _, _ => false
noncomputable def eqL : List D → List D → Bool
  | [], [] => true
  | x :: xs, y :: ys => eqD x y && eqL xs ys
  | _, _ => false
end
mutual
theorem eqD_eqv : ∀ (n m : Nat) (a b : D), okD n a = true → okD m b = true → PyData.eqv (toP a) (toP b) = eqD a b
  | n, m, .non, b, ha, hb => by cases b <;> simp_all [toP, eqD, PyData.eqv, okD]
  | n, m, .bl x, b, ha, hb => by cases b <;> simp_all [toP, eqD, PyData.eqv, okD]
  | n, m, .int x, b, ha, hb => by
    cases b with
    | int j => simp only [toP, eqD, PyData.eqv]; exact (Bool.beq_eq_decide_eq ..).trans (dcd_eq _)
    | _ => simp_all [toP, eqD, PyData.eqv, okD]
  | n, m, .str x, b, ha, hb => by
    cases b with
    | str j => simp only [toP, eqD, PyData.eqv]; exact (Bool.beq_eq_decide_eq ..).trans (dcd_eq _)
    | _ => simp_all [toP, eqD, PyData.eqv, okD]
  | n, m, .tup xs, b, ha, hb => by
    cases b with
    | tup ys =>
      cases n with
      | zero => simp [okD] at ha
      | succ n =>
        cases m with
        | zero => simp [okD] at hb
        | succ m =>
          simp only [okD] at ha hb
          simp only [toP, eqD, PyData.eqv]
          exact eqL_eqv n m xs ys ha hb
    | _ => simp_all [toP, eqD, PyData.eqv, okD]
  | n, m, .lst xs, b, ha, hb => by
    cases b with
    | lst ys =>
      cases n with
      | zero => simp [okD] at ha
      | succ n =>
        cases m with
        | zero => simp [okD] at hb
        | succ m =>
          simp only [okD] at ha hb
          simp only [toP, eqD, PyData.eqv]
          exact eqL_eqv n m xs ys ha hb
    | _ => simp_all [toP, eqD, PyData.eqv, okD]
  | n, m, .ref _, b, ha, hb => by simp [okD] at ha
  | n, m, .ty _, b, ha, hb => by simp [okD] at ha
  | n, m, .lsr _, b, ha, hb => by simp [okD] at ha
  | n, m, .obj _, b, ha, hb => by simp [okD] at ha
  | n, m, .exc _ _ _ _, b, ha, hb => by simp [okD] at ha
theorem eqL_eqv : ∀ (n m : Nat) (a b : List D), okL n a = true → okL m b = true → PyData.eqvAll (toPL a) (toPL b) = eqL a b
  | n, m, [], [], _, _ => by simp [toPL, eqL, PyData.eqvAll]
  | n, m, [], y :: ys, _, _ => by simp [toPL, eqL, PyData.eqvAll]
  | n, m, x :: xs, [], _, _ => by simp [toPL, eqL, PyData.eqvAll]
  | n, m, x :: xs, y :: ys, ha, hb => by
    simp only [okL, Bool.and_eq_true] at ha hb
    simp only [toPL, eqL, PyData.eqvAll, eqD_eqv n m x y ha.1 hb.1, eqL_eqv n m xs ys ha.2 hb.2]
end
mutual
theorem okD_lay : ∀ (n : Nat) (d : D), okD n d = true → (toP d).canLay0 = true ∧ (toP d).depth ≤ n
  | n, .non, _ => by simp [toP, PyData.canLay0, PyData.depth]
  | n, .bl _, _ => by simp [toP, PyData.canLay0, PyData.depth]
  | n, .int _, _ => by simp [toP, PyData.canLay0, PyData.depth]
  | n, .str x, h => by simp only [okD] at h; simp [toP, PyData.canLay0, PyData.depth, h]
  | n, .tup ds, h => by
    cases n with
    | zero => simp [okD] at h
    | succ n =>
      simp only [okD] at h
      obtain ⟨h1, h2⟩ := okL_lay n ds h
      simp only [toP, PyData.canLay0, PyData.depth]
      exact ⟨h1, by omega⟩
  | n, .lst ds, h => by
    cases n with
    | zero => simp [okD] at h
    | succ n =>
      simp only [okD] at h
      obtain ⟨h1, h2⟩ := okL_lay n ds h
      simp only [toP, PyData.canLay0, PyData.depth]
      exact ⟨h1, by omega⟩
  | n, .ref _, h => by simp [okD] at h
  | n, .ty _, h => by simp [okD] at h
  | n, .lsr _, h => by simp [okD] at h
  | n, .obj _, h => by simp [okD] at h
  | n, .exc _ _ _ _, h => by simp [okD] at h
theorem okL_lay : ∀ (n : Nat) (ds : List D), okL n ds = true → PyData.canLayAll0 (toPL ds) = true ∧ PyData.depthAll (toPL ds) ≤ n
  | n, [], _ => by simp [toPL, PyData.canLayAll0, PyData.depthAll]
  | n, d :: ds, h => by
    simp only [okL, Bool.and_eq_true] at h
    obtain ⟨h1, h2⟩ := okD_lay n d h.1
    obtain ⟨h3, h4⟩ := okL_lay n ds h.2
    simp only [toPL, PyData.canLayAll0, PyData.depthAll, h1, h3, Bool.and_self, true_and]
    omega
end
theorem okD_shaped {n : Nat} {d : D} (h : okD n d = true) (hn : n ≤ 64) : SeqAt.shaped (toP d) = true := by
  obtain ⟨h1, h2⟩ := okD_lay n d h
  unfold SeqAt.shaped
  simp only [h1, Bool.true_and, decide_eq_true_eq]
  omega
section
variable {K : PySem.W.Frag} {ρ : List Addr} {F H : Hp}
mutual
theorem Rd.dp (s : Same F H) : ∀ (n : Nat) (d : D) (v : V), okD n d = true → Rd K ρ F d v → Dp K H v (toP d)
  | _, .non, _, _, r => by cases r; exact .non
  | _, .bl _, _, _, r => by cases r; exact .bl _
  | _, .int _, _, _, r => by cases r; exact .int _
  | _, .str _, _, _, r => by cases r; exact .str _
  | n, .tup ds, v, h, r => by
    cases n with
    | zero => simp [okD] at h
    | succ n =>
      simp only [okD] at h
      obtain ⟨a, vs, e, q, l⟩ := r
      subst e
      exact .tup (sqT_mono s q) (RdL.dp s n ds vs h l)
  | n, .lst ds, v, h, r => by
    cases n with
    | zero => simp [okD] at h
    | succ n =>
      simp only [okD] at h
      obtain ⟨a, vs, e, q, l⟩ := r
      subst e
      exact .lst (.inl (.inl (s _ _ q))) (RdL.dp s n ds vs h l)
  | n, .ref _, _, h, _ => by simp [okD] at h
  | n, .ty _, _, h, _ => by simp [okD] at h
  | n, .lsr _, _, h, _ => by simp [okD] at h
  | n, .obj _, _, h, _ => by simp [okD] at h
  | n, .exc _ _ _ _, _, h, _ => by simp [okD] at h
theorem RdL.dp (s : Same F H) : ∀ (n : Nat) (ds : List D) (vs : List V), okL n ds = true → RdL K ρ F ds vs → DpAll K H vs (toPL ds)
  | _, [], _, _, r => by
    simp only [RdL] at r
    subst r
    exact .nil
  | n, d :: ds, _, h, r => by
    simp only [okL, Bool.and_eq_true] at h
    simp only [RdL] at r
    obtain ⟨v, t, e, r1, r2⟩ := r
    subst e
    exact .cons (Rd.dp s n d v h.1 r1) (RdL.dp s n ds t h.2 r2)
end
/-- an object that is a list, as a list -/
def vw (s : DS) (d : D) : D := match d with
  | .obj k => match objL s k with
    | some ds => .lst ds
    | none => .obj k
  | d => d
theorem vw_dp {mg : Str → Option Value} {s : DS} {n : Nat} {d : D} {v : V} (rl : MRel K mg ρ F s.m H) (h : okD n (vw s d) = true) (r : Rd K ρ F d v) : Dp K H v (toP (vw s d)) := by
  by_cases hd : ∃ k, d = .obj k
  · obtain ⟨k, rfl⟩ := hd
    unfold vw at h ⊢
    cases q : objL s k with
    | none => simp only [q] at h; simp [okD] at h
    | some ds =>
      simp only [q] at h ⊢
      obtain ⟨a, vs, e, e2, l⟩ := lstV_rd rl r (s := s) (d := .obj k) q
      subst e
      cases n with
      | zero => simp [okD] at h
      | succ n =>
        simp only [okD] at h
        exact .lst (.inl (.inl e2)) (RdL.dp rl.sub n ds vs h l)
  · have e : vw s d = d := by
      unfold vw
      split
      · exact absurd ⟨_, rfl⟩ hd
      · rfl
    rw [e] at h ⊢
    exact Rd.dp rl.sub n d v h r
end
noncomputable def gEq : D → D → DS → R D := fun x y s => if okD 64 (vw s x) = true ∧ okD 64 (vw s y) = true then .ok (.bl (eqD (vw s x) (vw s y))) s else .bad
noncomputable def gNe : D → D → DS → R D := fun x y s => if okD 64 (vw s x) = true ∧ okD 64 (vw s y) = true then .ok (.bl (!eqD (vw s x) (vw s y))) s else .bad
section
variable {X : Cx} {W : WX}
theorem opd_eq : OpD X W (rEqD X.K) gEq := by
  intro ρ F s σ H x y v u Q rl r1 r2 h
  unfold gEq at h
  split at h
  · rename_i hc
    refine ⟨_, _, vw_dp rl.mem hc.1 r1, vw_dp rl.mem hc.2 r2, okD_shaped hc.1 (Nat.le_refl _), okD_shaped hc.2 (Nat.le_refl _), ?_⟩
    rw [eqD_eqv 64 64 _ _ hc.1 hc.2]
    exact h ρ F H _ (Ext.refl ..) rl rfl
  · exact h.elim
theorem opd_ne : OpD X W (rNeD X.K) gNe := by
  intro ρ F s σ H x y v u Q rl r1 r2 h
  unfold gNe at h
  split at h
  · rename_i hc
    refine ⟨_, _, vw_dp rl.mem hc.1 r1, vw_dp rl.mem hc.2 r2, okD_shaped hc.1 (Nat.le_refl _), okD_shaped hc.2 (Nat.le_refl _), ?_⟩
    rw [eqD_eqv 64 64 _ _ hc.1 hc.2]
    exact h ρ F H _ (Ext.refl ..) rl rfl
  · exact h.elim
end

/-! ### in, flat items -/
def flD : D → Bool
  | .non => true
  | .bl _ => true
  | .int _ => true
  | .str _ => true
  | _ => false
noncomputable def inD (x : D) (ds : List D) : Bool := ds.any fun y => eqD y x
noncomputable def gIn (neg : Bool) : D → D → DS → R D := fun x y s => match seqV s y with
  | some ds => if flD x = true ∧ ds.all flD = true then .ok (.bl (if neg then !inD x ds else inD x ds)) s else .bad
  | none => .bad
section
variable {K : PySem.W.Frag} {ρ : List Addr} {F : Hp}
theorem flD_rd {d : D} {v : V} (r : Rd K ρ F d v) (h : flD d = true) : flatV v = true := by
  cases d <;> first | (cases r; rfl) | (cases h)
theorem eqD_flat {x y : D} {v u : V} (r1 : Rd K ρ F x v) (r2 : Rd K ρ F y u) (h1 : flD x = true) (h2 : flD y = true) : eqV v u = eqD x y := by
  cases x <;> first | (cases h1; done) | skip
  all_goals cases y <;> first | (cases h2; done) | skip
  all_goals
    cases r1
    cases r2
    simp only [eqV, eqD]
  all_goals exact (Bool.beq_eq_decide_eq ..).trans (dcd_eq _)
theorem flat_all : ∀ {ds : List D} {vs : List V}, RdL K ρ F ds vs → ds.all flD = true → vs.all flatV = true
  | [], _, r, _ => by
    simp only [RdL] at r
    subst r
    rfl
  | d :: ds, _, r, h => by
    simp only [RdL] at r
    obtain ⟨v, t, e, r1, r2⟩ := r
    subst e
    simp only [List.all_cons, Bool.and_eq_true] at h ⊢
    exact ⟨flD_rd r1 h.1, flat_all r2 h.2⟩
theorem inV_eq {x : D} {v : V} (r1 : Rd K ρ F x v) (h1 : flD x = true) : ∀ {ds : List D} {vs : List V}, RdL K ρ F ds vs → ds.all flD = true → inV v vs = inD x ds
  | [], _, r, _ => by
    simp only [RdL] at r
    subst r
    rfl
  | d :: ds, _, r, h => by
    simp only [RdL] at r
    obtain ⟨u, t, e, r2, r3⟩ := r
    subst e
    simp only [List.all_cons, Bool.and_eq_true] at h
    have ih := inV_eq r1 h1 r3 h.2
    unfold inV inD at ih ⊢
    rw [List.any_cons, List.any_cons, ih, eqD_flat r2 r1 h.1 h1]
end
section
variable {X : Cx} {W : WX}
theorem opd_in {neg : Bool} : OpD X W (rIn X.K neg) (gIn neg) := by
  intro ρ F s σ H x y v u Q rl r1 r2 h
  unfold gIn at h
  split at h
  · rename_i ds e
    split at h
    · rename_i hc
      obtain ⟨p, vs, rfl, q, l⟩ := seqV_rd rl.mem r2 e
      refine ⟨p, vs, rfl, q, flD_rd r1 hc.1, flat_all l hc.2, ?_⟩
      rw [inV_eq r1 hc.1 l hc.2]
      exact h ρ F H _ (Ext.refl ..) rl rfl
    · exact h.elim
  · exact h.elim

/-! ### calls of what is built in -/
def CallD (X : Cx) (W : WX) (r : List V → Hp → VK → Prop) (g : List D → DS → R D) : Prop :=
  ∀ ρ F s σ H ds vs Q, Rel X.K X.mg ρ F s σ H → RdL X.K ρ F ds vs → Post X W (Rd X.K) ρ F H σ Q (g ds s) → r vs H Q
def fCall (fa : DS → R (List D)) (g : List D → DS → R D) : DS → R D := fun s => (fa s).bind g
variable {x : Str} {p pos : Pos} {e : Expr} {es : List Expr} {idn T : String} {r : List V → Hp → VK → Prop} {fa : DS → R (List D)} {g : List D → DS → R D}
theorem call_run {ta : TA} (hg : CallD X W r g) (la : Stl X W (RdL X.K) ta fa) : Stl X W (Rd X.K) (tCB r ta) (fCall fa g) := by
  intro ρ F s σ H Q rl h
  exact la ρ F s σ H _ rl (Post.bind h fun ds s1 ρ1 F1 H1 vs x1 rl1 rd1 h1 => hg ρ1 F1 s1 σ H1 ds vs Q rl1 rd1 h1)
theorem pd_callB (hc : CallR X (.builtin idn) r) (hg : CallD X W r g) (hgl : Gl X x) (hm : X.mg x = none) (hv : bootBuiltins x = some (.builtin idn)) (ha : PDA X W (e :: es) fa) (hn : x ≠ "__name__" := by decide) (hdb : (x == ("__debug__" : Str)) = false := by decide)
    (he : starEach (e :: es) X.env = (false, eval e X.env) :: starEach es X.env := by rfl) (hpl : (backTo pos (starEach es X.env)).any (·.1) = false := by rfl) : PD X W (.Call (.Name x p) (e :: es) [] pos) (fCall fa g) := by
  obtain ⟨ta, ea, la⟩ := ha
  exact ⟨_, pe_callB hc hgl hm hv ea hn hdb he hpl, call_run hg la⟩
theorem pd_callTy (hc : CallR X (.type T) r) (hg : CallD X W r g) (hgl : Gl X x) (hm : X.mg x = none) (hv : bootBuiltins x = some (.type T)) (ha : PDA X W (e :: es) fa) (hn : x ≠ "__name__" := by decide) (hdb : (x == ("__debug__" : Str)) = false := by decide)
    (he : starEach (e :: es) X.env = (false, eval e X.env) :: starEach es X.env := by rfl) (hpl : (backTo pos (starEach es X.env)).any (·.1) = false := by rfl) : PD X W (.Call (.Name x p) (e :: es) [] pos) (fCall fa g) := by
  obtain ⟨ta, ea, la⟩ := ha
  exact ⟨_, pe_callTy hc hgl hm hv ea hn hdb he hpl, call_run hg la⟩
/-- the name of a built-in type, as a value -/
theorem pd_ty {n : String} (hgl : Gl X x) (hm : X.mg x = none) (hv : bootBuiltins x = some (.type n)) (hn : x ≠ "__name__" := by decide) (hd : (x == ("__debug__" : Str)) = false := by decide) : PD X W (.Name x pos) (fC (.ty n)) :=
  pd_const (pe_bltn (v := .ty n) hgl hm hv rfl hn hd) fun _ _ => rfl

theorem rdl1 {K : PySem.W.Frag} {ρ : List Addr} {F : Hp} {d : D} {vs : List V} (r : RdL K ρ F [d] vs) : ∃ v, vs = [v] ∧ Rd K ρ F d v := by
  simp only [RdL] at r
  obtain ⟨v, t, e, r1, e2⟩ := r
  subst e2
  exact ⟨v, e, r1⟩
theorem rdl2 {K : PySem.W.Frag} {ρ : List Addr} {F : Hp} {d d2 : D} {vs : List V} (r : RdL K ρ F [d, d2] vs) : ∃ v u, vs = [v, u] ∧ Rd K ρ F d v ∧ Rd K ρ F d2 u := by
  simp only [RdL] at r
  obtain ⟨v, t, e, r1, u, t2, e2, r2, e3⟩ := r
  subst e3
  subst e2
  exact ⟨v, u, e, r1, r2⟩

noncomputable def gLen : List D → DS → R D := fun ds s => match ds with
  | [.str z] => if Pr (z.length ≤ sizeLine) then .ok (.int z.length) s else .bad
  | [d] => match seqV s d with
    | some xs => .ok (.int xs.length) s
    | none => .bad
  | _ => .bad
theorem cd_len : CallD X W (fun xs H Q => ∃ x n, xs = [x] ∧ LenV X.K x H n ∧ Q (.int n) H) gLen := by
  intro ρ F s σ H ds vs Q rl r h
  unfold gLen at h
  split at h
  · obtain ⟨v, rfl, r1⟩ := rdl1 r
    split at h
    · rename_i z hc
      cases r1
      exact ⟨_, _, rfl, ⟨hc, rfl⟩, h ρ F H _ (Ext.refl ..) rl rfl⟩
    · exact h.elim
  · obtain ⟨v, rfl, r1⟩ := rdl1 r
    split at h
    · rename_i xs e
      obtain ⟨p, us, rfl, q, l⟩ := seqV_rd rl.mem r1 e
      refine ⟨.ref p, xs.length, rfl, ?_, h ρ F H _ (Ext.refl ..) rl rfl⟩
      rcases q with q | q
      · exact .inl ⟨us, q, l.length.symm⟩
      · exact .inr ⟨us, q, l.length.symm⟩
    · exact h.elim
  · exact h.elim
/-- list(x) as a list that changes no more; as an object -/
def gList : List D → DS → R D := fun ds s => match ds with
  | [d] => match seqV s d with
    | some xs => .ok (.lst xs) s
    | none => .bad
  | _ => .bad
def gListN : List D → DS → R D := fun ds s => match ds with
  | [d] => match seqV s d with
    | some xs => .ok (.obj s.m.length) { s with m := s.m ++ [.lst xs] }
    | none => .bad
  | _ => .bad
theorem cd_list : CallD X W (fun xs H Q => ∃ p ys, xs = [.ref p] ∧ (SqL X.K H p ys ∨ SqT X.K H p ys) ∧ ∀ l, H l = none → Q (.ref l) (upd H l (.lst ys))) gList := by
  intro ρ F s σ H ds vs Q rl r h
  unfold gList at h
  split at h
  · obtain ⟨v, rfl, r1⟩ := rdl1 r
    split at h
    · rename_i xs e
      obtain ⟨p, us, rfl, q, l⟩ := seqV_rd rl.mem r1 e
      exact ⟨p, us, rfl, q, Post.lst h rl l⟩
    · exact h.elim
  · exact h.elim
theorem cd_listN : CallD X W (fun xs H Q => ∃ p ys, xs = [.ref p] ∧ (SqL X.K H p ys ∨ SqT X.K H p ys) ∧ ∀ l, H l = none → Q (.ref l) (upd H l (.lst ys))) gListN := by
  intro ρ F s σ H ds vs Q rl r h
  unfold gListN at h
  split at h
  · obtain ⟨v, rfl, r1⟩ := rdl1 r
    split at h
    · rename_i xs e
      obtain ⟨p, us, rfl, q, l⟩ := seqV_rd rl.mem r1 e
      exact ⟨p, us, rfl, q, Post.new h rl l⟩
    · exact h.elim
  · exact h.elim
def gTuple : List D → DS → R D := fun ds s => match ds with
  | [d] => match seqV s d with
    | some xs => .ok (.tup xs) s
    | none => .bad
  | _ => .bad
theorem cd_tuple : CallD X W (fun xs H Q => ∃ p ys, xs = [.ref p] ∧ ((SqL X.K H p ys ∧ ∀ l, H l = none → Q (.ref l) (upd H l (.tup ys))) ∨ (SqT X.K H p ys ∧ Q (.ref p) H))) gTuple := by
  intro ρ F s σ H ds vs Q rl r h
  unfold gTuple at h
  split at h
  · rename_i d
    obtain ⟨v, rfl, r1⟩ := rdl1 r
    split at h
    · rename_i xs e
      by_cases ht : ∃ es, d = .tup es
      · obtain ⟨es, rfl⟩ := ht
        cases e
        obtain ⟨a, us, rfl, q, l⟩ := r1
        exact ⟨a, us, rfl, .inr ⟨sqT_mono rl.mem.sub q, h ρ F H _ (Ext.refl ..) rl ⟨a, us, rfl, q, l⟩⟩⟩
      · obtain ⟨a, us, rfl, q, l⟩ := seqV_l rl.mem r1 e fun es z => ht ⟨es, z⟩
        exact ⟨a, us, rfl, .inl ⟨q, Post.tup h rl l⟩⟩
    · exact h.elim
  · exact h.elim
def gInt : List D → DS → R D := fun ds s => match ds with
  | [.int i] => .ok (.int i) s
  | [.bl b] => .ok (.int (if b then 1 else 0)) s
  | _ => .bad
theorem cd_int : CallD X W (fun xs H Q => (∃ i, xs = [.int i] ∧ Q (.int i) H) ∨ ∃ k, xs = [.bl k] ∧ Q (.int (if k then 1 else 0)) H) gInt := by
  intro ρ F s σ H ds vs Q rl r h
  unfold gInt at h
  split at h
  · obtain ⟨v, rfl, r1⟩ := rdl1 r
    cases r1
    exact .inl ⟨_, rfl, h ρ F H _ (Ext.refl ..) rl rfl⟩
  · obtain ⟨v, rfl, r1⟩ := rdl1 r
    cases r1
    exact .inr ⟨_, rfl, h ρ F H _ (Ext.refl ..) rl rfl⟩
  · exact h.elim
/-- the bools of a list of bools -/
def bls : List D → Option (List Bool)
  | [] => some []
  | .bl b :: ds => (bls ds).map (b :: ·)
  | _ :: _ => none
theorem bls_rd {K : PySem.W.Frag} {ρ : List Addr} {F : Hp} : ∀ {ds : List D} {vs : List V} {bs : List Bool}, RdL K ρ F ds vs → bls ds = some bs → vs = bs.map V.bl
  | [], _, _, r, e => by
    simp only [RdL] at r
    cases e
    exact r
  | d :: ds, _, bs, r, e => by
    simp only [RdL] at r
    obtain ⟨v, t, e1, r1, r2⟩ := r
    subst e1
    cases d with
    | bl b =>
      simp only [bls] at e
      cases q : bls ds with
      | none => rw [q] at e; cases e
      | some cs =>
        rw [q] at e
        cases e
        cases r1
        rw [bls_rd r2 q, List.map_cons]
    | _ => cases e
def gAllAny (any : Bool) : List D → DS → R D := fun ds s => match ds with
  | [d] => match lstV s d with
    | some xs => match bls xs with
      | some bs => .ok (.bl (if any then bs.any id else bs.all id)) s
      | none => .bad
    | none => .bad
  | _ => .bad
theorem cd_all : CallD X W (rAll X.K) (gAllAny false) := by
  intro ρ F s σ H ds vs Q rl r h
  unfold gAllAny at h
  split at h
  · obtain ⟨v, rfl, r1⟩ := rdl1 r
    split at h
    · rename_i xs e
      obtain ⟨p, us, rfl, q, l⟩ := lstV_rd rl.mem r1 e
      split at h
      · rename_i bs e2
        have e3 := bls_rd l e2
        subst e3
        exact ⟨p, bs, rfl, .inl (.inl q), h ρ F H _ (Ext.refl ..) rl rfl⟩
      · exact h.elim
    · exact h.elim
  · exact h.elim
theorem cd_any : CallD X W (rAny X.K) (gAllAny true) := by
  intro ρ F s σ H ds vs Q rl r h
  unfold gAllAny at h
  split at h
  · obtain ⟨v, rfl, r1⟩ := rdl1 r
    split at h
    · rename_i xs e
      obtain ⟨p, us, rfl, q, l⟩ := lstV_rd rl.mem r1 e
      split at h
      · rename_i bs e2
        have e3 := bls_rd l e2
        subst e3
        exact ⟨p, bs, rfl, .inl (.inl q), h ρ F H _ (Ext.refl ..) rl rfl⟩
      · exact h.elim
    · exact h.elim
  · exact h.elim

/-! ### isinstance of built-in types -/
def tyOf (s : DS) : D → Option String
  | .non => some "NoneType"
  | .bl _ => some "bool"
  | .int _ => some "int"
  | .str _ => some "str"
  | .tup _ => some "tuple"
  | .lst _ => some "list"
  | .obj k => match s.m[k]? with
    | some (.lst _) => some "list"
    | some (.dK _) => some "dict"
    | some (.dT _) => some "dict"
    | _ => none
  | _ => none
def isTy (t c : String) : Option Bool := if (c = "int" ∨ c = "bool" ∨ c = "str" ∨ c = "list" ∨ c = "tuple" ∨ c = "dict") then some (decide (t = c) || (decide (t = "bool") && decide (c = "int"))) else none
def gIsi : List D → DS → R D := fun ds s => match ds with
  | [d, .ty c] => match tyOf s d with
    | some t => match isTy t c with
      | some b => .ok (.bl b) s
      | none => .bad
    | none => .bad
  | _ => .bad
theorem kits : (["NoneType", "bool", "int", "str", "tuple", "list", "dict"] : List String).all (fun t => (["int", "bool", "str", "list", "tuple", "dict"] : List String).all fun c => decide (kitB t c = isTy t c)) = true := by decide +kernel
theorem tyOf_mem {s : DS} {d : D} {t : String} (h : tyOf s d = some t) : t ∈ (["NoneType", "bool", "int", "str", "tuple", "list", "dict"] : List String) := by
  unfold tyOf at h
  split at h <;> first | (cases h; decide) | (split at h <;> first | (cases h; decide) | cases h) | cases h
theorem tyOf_rd {K : PySem.W.Frag} {mg : Str → Option Value} {ρ : List Addr} {F H : Hp} {s : DS} {d : D} {v : V} {t : String} (rl : MRel K mg ρ F s.m H) (r : Rd K ρ F d v) (h : tyOf s d = some t) : TyX K H v (.type t) := by
  cases d with
  | non => cases h; cases r; exact .base .non
  | bl b => cases h; cases r; exact .base (.bl b)
  | int b => cases h; cases r; exact .base (.int b)
  | str b => cases h; cases r; exact .base (.str b)
  | tup ds =>
    cases h
    obtain ⟨a, vs, rfl, q, _⟩ := r
    rcases q with (q | ⟨o, q⟩) | ⟨o, its, n, q, q2, _⟩
    · exact .base (.tup (rl.sub _ _ q))
    · exact .fTuple (rl.sub _ _ q)
    · exact .kTuple q q2
  | lst ds =>
    cases h
    obtain ⟨a, vs, rfl, q, _⟩ := r
    exact .base (.lst (rl.sub _ _ q))
  | obj k =>
    unfold tyOf at h
    simp only at h
    split at h
    · rename_i e
      cases h
      obtain ⟨a, rfl, _, _, vs, q, _⟩ := Rel.objAt rl r e trivial
      exact .base (.lst q)
    · rename_i e
      cases h
      obtain ⟨a, rfl, _, _, vs, q, _⟩ := Rel.objAt rl r e trivial
      exact .base (.dK q)
    · rename_i e
      cases h
      obtain ⟨a, rfl, _, _, vs, q, _⟩ := Rel.objAt rl r e trivial
      exact .base (.dT q)
    · cases h
  | _ => cases h
theorem cd_isi : CallD X W (rIsi X.K) gIsi := by
  intro ρ F s σ H ds vs Q rl r h
  unfold gIsi at h
  split at h
  · rename_i d c
    obtain ⟨v, u, rfl, r1, r2⟩ := rdl2 r
    split at h
    · rename_i t e
      split at h
      · rename_i b e2
        cases r2
        have hc : c ∈ (["int", "bool", "str", "list", "tuple", "dict"] : List String) := by
          unfold isTy at e2
          split at e2
          · rename_i z
            rcases z with z | z | z | z | z | z <;> subst z <;> decide
          · cases e2
        have k := kits
        rw [List.all_eq_true] at k
        have k1 := k t (tyOf_mem e)
        rw [List.all_eq_true] at k1
        have k2 := of_decide_eq_true (k1 c hc)
        exact ⟨v, .ty c, .type t, .type c, b, rfl, .ty c, tyOf_rd rl.mem r1 e, kit_ty (k2.trans e2), h ρ F H _ (Ext.refl ..) rl rfl⟩
      · exact h.elim
    · exact h.elim
  · exact h.elim
end
end DL

/-! Rules: statements. -/
namespace DL
open PySem L2

section
variable {X : Cx} {W : WX} {e : Expr} {st : Stmt} {rest : List Stmt} {pos : Pos} {f g : DS → R Fl}
/-! ### blocks -/
def fNx : DS → R Fl := fun s => .ok .nx s
def seqR (r : R Fl) (g : DS → R Fl) (_ : Tag g := .mk) : R Fl := match r with
  | .ok .nx s1 => g s1
  | r => r
@[simp] theorem seqR_nx {s : DS} {g : DS → R Fl} : seqR (.ok .nx s) g = g s := rfl
@[simp] theorem seqR_rt {s : DS} {d : D} {g : DS → R Fl} : seqR (.ok (.rt d) s) g = .ok (.rt d) s := rfl
@[simp] theorem seqR_bk {s : DS} {g : DS → R Fl} : seqR (.ok .bk s) g = .ok .bk s := rfl
@[simp] theorem seqR_ct {s : DS} {g : DS → R Fl} : seqR (.ok .ct s) g = .ok .ct s := rfl
@[simp] theorem seqR_ex {s : DS} {e : Ex} {g : DS → R Fl} : seqR (.ex e s) g = .ex e s := rfl
@[simp] theorem seqR_bad {g : DS → R Fl} : seqR .bad g = .bad := rfl
def fSeq (f g : DS → R Fl) : DS → R Fl := fun s => seqR (f s) g
theorem seq_run {t u : TS} (lf : StlS X W t f) (lg : StlS X W u g) : StlS X W (tSeq t u) (fSeq f g) := by
  intro ρ F s σ H E rl h
  refine lf ρ F s σ H _ rl ?_
  unfold fSeq seqR at h
  cases q : f s with
  | bad => rw [q] at h; exact h
  | ok fl s1 =>
    rw [q] at h
    cases fl with
    | nx => exact fun ρ' F' H' σ' x rl' => lg ρ' F' s1 σ' H' E rl' (PostS.ext h x)
    | rt d => exact h
    | bk => exact h
    | ct => exact h
  | ex e s1 => rw [q] at h; exact h
theorem pdss_nil : PDss X W [] fNx := ⟨_, pss_nil, fun ρ F s σ H E rl h => h ρ F H σ (Ext.refl ..) rl⟩
theorem pdss_cons (h1 : PDs X W st f) (h2 : PDss X W rest g) : PDss X W (st :: rest) (fSeq f g) := by
  obtain ⟨t, e1, l1⟩ := h1
  obtain ⟨u, e2, l2⟩ := h2
  exact ⟨_, pss_cons e1 e2, seq_run l1 l2⟩
theorem pdss_one (h1 : PDs X W st f) : PDss X W [st] f := let ⟨t, e1, l1⟩ := h1; ⟨t, pss_one e1, l1⟩
theorem pds_pass : PDs X W (.Pass pos) fNx := ⟨_, ps_pass, fun ρ F s σ H E rl h => h ρ F H σ (Ext.refl ..) rl⟩
def fCt : DS → R Fl := fun s => .ok .ct s
theorem pds_continue : PDs X W (.Continue pos) fCt := ⟨_, ps_continue, fun ρ F s σ H E rl h => h ρ F H σ (Ext.refl ..) rl⟩
theorem pds_doc {x j p1} : PDs X W (.Expr (.Constant (.str x) j p1) pos) fNx := ⟨_, ps_doc, fun ρ F s σ H E rl h => h ρ F H σ (Ext.refl ..) rl⟩
def fDrop (f : DS → R D) : DS → R Fl := fun s => (f s).bind fun _ s1 => .ok .nx s1
theorem pds_expr {f : DS → R D} (h : PD X W e f) (hs : swapsWith e none pos.line X.env = pure false := by rfl) : PDs X W (.Expr e pos) (fDrop f) := by
  obtain ⟨t, e1, l⟩ := h
  refine ⟨_, ps_expr e1 hs, fun ρ F s σ H E rl h => l ρ F s σ H _ rl (PostS.bind h fun d s1 ρ1 F1 H1 v x1 rl1 rd1 h1 => ?_)⟩
  exact h1 ρ1 F1 H1 σ (Ext.refl ..) rl1
def fRet (f : DS → R D) : DS → R Fl := fun s => (f s).bind fun d s1 => .ok (.rt d) s1
theorem pds_ret {f : DS → R D} (h : PD X W e f) : PDs X W (.Return (some e) pos) (fRet f) := by
  obtain ⟨t, e1, l⟩ := h
  refine ⟨_, ps_ret e1, fun ρ F s σ H E rl h => l ρ F s σ H _ rl (PostS.bind h fun d s1 ρ1 F1 H1 v x1 rl1 rd1 h1 => ?_)⟩
  exact h1 ρ1 F1 H1 v (Ext.refl ..) rl1.mem rd1
def fRetN : DS → R Fl := fun s => .ok (.rt .non) s
theorem pds_retN : PDs X W (.Return none pos) fRetN := ⟨_, ps_retN, fun ρ F s σ H E rl h => h ρ F H .non (Ext.refl ..) rl.mem rfl⟩
def fIfS (c : DS → R Bool) (f g : DS → R Fl) : DS → R Fl := fun s => (c s).bind fun b s1 => if b = true then f s1 else g s1
theorem pds_if {c : Expr} {a b : List Stmt} {fc : DS → R Bool} (hc : PDT X W c fc) (ha : PDss X W a f) (hb : PDss X W b g) : PDs X W (.If c a b pos) (fIfS fc f g) := by
  obtain ⟨t, e1, l⟩ := hc
  obtain ⟨ta, ea, la⟩ := ha
  obtain ⟨tb, eb, lb⟩ := hb
  refine ⟨_, ps_if e1 ea eb, fun ρ F s σ H E rl h => l ρ F s σ H _ rl (PostS.bind h fun b s1 ρ1 F1 H1 v x1 rl1 rd1 h1 => ?_)⟩
  subst rd1
  cases v with
  | true => rw [if_pos rfl] at h1 ⊢; exact la ρ1 F1 s1 σ H1 E rl1 h1
  | false => rw [if_neg Bool.false_ne_true] at h1 ⊢; exact lb ρ1 F1 s1 σ H1 E rl1 h1

/-! ### targets -/
theorem SRel.set {K : PySem.W.Frag} {ρ : List Addr} {F : Hp} {g : List (Option D)} {σ : St} {d : D} {v : V} (h : SRel K ρ F g σ) (i : Nat) (r : Rd K ρ F d v) : SRel K ρ F (g.set i (some d)) (σ.set i (some v)) := by
  refine ⟨by simp [h.len], fun j x e => ?_⟩
  by_cases hj : j = i
  · subst hj
    have hl : j < g.length := by
      have := (List.getElem?_eq_some_iff.mp e).1
      simpa using this
    rw [List.getElem?_set_self hl] at e
    cases e
    exact ⟨v, List.getElem?_set_self (by rw [← h.len]; exact hl), r⟩
  · rw [List.getElem?_set_ne (Ne.symm hj)] at e
    obtain ⟨u, e1, r1⟩ := h.at_ j x e
    exact ⟨u, by rw [List.getElem?_set_ne (Ne.symm hj)]; exact e1, r1⟩
/-- one name, or several that take a tuple's items -/
inductive Tg where
  | one (i : Nat) | many (is : List Nat) | nest (i : Nat) (is : List Nat)
def setAll : List Nat → List D → List (Option D) → Option (List (Option D))
  | [], [], g => some g
  | i :: is, d :: ds, g => setAll is ds (g.set i (some d))
  | _, _, _ => none
def Tg.run (t : Tg) (d : D) (s : DS) : R Unit := match t with
  | .one i => .ok () { s with g := s.g.set i (some d) }
  | .many is => match d with
    | .tup ds => match setAll is ds s.g with
      | some g => .ok () { s with g := g }
      | none => .bad
    | _ => .bad
  | .nest i is => match d with
    | .tup [c, .tup ds] => match setAll is ds (s.g.set i (some c)) with
      | some g => .ok () { s with g := g }
      | none => .bad
    | _ => .bad
def Tg.mem : Tg → List Nat
  | .one i => [i]
  | .many is => is
  | .nest i is => i :: is
def setV : List Nat → List V → St → St
  | i :: is, v :: vs, σ => setV is vs (σ.set i (some v))
  | _, _, σ => σ
def gNms : List Nat → TGs
  | [] => gNil
  | i :: is => gCons (gName i) (gNms is)
def Tg.tg (K : PySem.W.Frag) : Tg → TG
  | .one i => gName i
  | .many is => gTup K is.length (gNms is)
  | .nest i is => gTup K 2 (gCons (gName i) (gCons (gTup K is.length (gNms is)) gNil))
def PDG (X : Cx) (tg : Expr) (t : Tg) : Prop := PG X tg (t.tg X.K)
/-- behind a target: the slots turned only at its places -/
theorem setAll_run {K : PySem.W.Frag} {ρ : List Addr} {F : Hp} : ∀ {is : List Nat} {ds : List D} {vs : List V} {g g' : List (Option D)} {σ : St}, setAll is ds g = some g' → RdL K ρ F ds vs → SRel K ρ F g σ →
    vs.length = is.length ∧ SRel K ρ F g' (setV is vs σ) ∧ ∀ (H : Hp) (Q : St → Hp → Prop), Q (setV is vs σ) H → gNms is vs σ H Q
  | [], [], vs, g, g', σ, e, r, h => by
    simp only [RdL] at r
    subst r
    cases e
    exact ⟨rfl, h, fun H Q q => ⟨rfl, q⟩⟩
  | i :: is, d :: ds, vs, g, g', σ, e, r, h => by
    simp only [RdL] at r
    obtain ⟨v, t, e1, r1, r2⟩ := r
    subst e1
    obtain ⟨h1, h2, h3⟩ := setAll_run (is := is) (ds := ds) (vs := t) (g := g.set i (some d)) (g' := g') (σ := σ.set i (some v)) e r2 (h.set i r1)
    exact ⟨by simp [h1], h2, fun H Q q => ⟨v, t, rfl, h3 H Q q⟩⟩
  | [], _ :: _, _, _, _, _, e, _, _ => by cases e
  | _ :: _, [], _, _, _, _, e, _, _ => by cases e
theorem Tg.go {K : PySem.W.Frag} {mg : Str → Option Value} {t : Tg} {d : D} {v : V} {s : DS} {ρ : List Addr} {F H : Hp} {σ : St} (rl : Rel K mg ρ F s σ H) (r : Rd K ρ F d v) {s' : DS} (e : t.run d s = .ok () s') :
    ∃ vs, Rel K mg ρ F s' (setV t.mem vs σ) H ∧ ∀ Q : St → Hp → Prop, Q (setV t.mem vs σ) H → t.tg K v σ H Q := by
  cases t with
  | one i =>
    cases e
    exact ⟨[v], ⟨rl.mem, rl.slo.set i r⟩, fun Q q => q⟩
  | many is =>
    unfold Tg.run at e
    simp only at e
    cases d with
    | tup ds =>
      simp only at e
      cases q : setAll is ds s.g with
      | none => rw [q] at e; cases e
      | some g =>
        rw [q] at e
        cases e
        obtain ⟨a, vs, rfl, q1, l⟩ := r
        obtain ⟨h1, h2, h3⟩ := setAll_run q l rl.slo
        exact ⟨vs, ⟨rl.mem, h2⟩, fun Q q => ⟨a, vs, rfl, sqT_mono rl.mem.sub q1, h1, h3 H Q q⟩⟩
    | _ => cases e
  | nest i is =>
    unfold Tg.run at e
    simp only at e
    split at e
    · rename_i c ds
      cases q : setAll is ds (s.g.set i (some c)) with
      | none => rw [q] at e; cases e
      | some g =>
        rw [q] at e
        cases e
        obtain ⟨a, us, rfl, q1, l1⟩ := r
        obtain ⟨u1, r1, rfl, k1, l2⟩ := l1
        obtain ⟨u2, r2, rfl, k2, l3⟩ := l2
        cases l3
        obtain ⟨b, vs, rfl, q2, l⟩ := k2
        obtain ⟨h1, h2, h3⟩ := setAll_run q l (rl.slo.set i k1)
        exact ⟨u1 :: vs, ⟨rl.mem, h2⟩, fun Q z => ⟨a, _, rfl, sqT_mono rl.mem.sub q1, rfl, u1, _, rfl, _, _, rfl, b, vs, rfl, sqT_mono rl.mem.sub q2, h1, h3 H _ ⟨rfl, z⟩⟩⟩
    · cases e
theorem Tg.noEx {t : Tg} {d : D} {s s' : DS} {x : Ex} : t.run d s ≠ .ex x s' := by
  intro h
  cases t with
  | one i => cases h
  | many is =>
    unfold Tg.run at h
    simp only at h
    split at h
    · split at h <;> cases h
    · cases h
  | nest i is =>
    unfold Tg.run at h
    simp only at h
    split at h
    · split at h <;> cases h
    · cases h
/-- target = value -/
def fAsg (f : DS → R D) (t : Tg) : DS → R Fl := fun s => (f s).bind fun d s1 => (t.run d s1).bind fun _ s2 => .ok .nx s2
theorem asg_run {te : TE} {fd : DS → R D} {t : Tg} (l : Stl X W (Rd X.K) te fd) : StlS X W (tAsg te (t.tg X.K)) (fAsg fd t) := by
  intro ρ F s σ H E rl h
  refine l ρ F s σ H _ rl (PostS.bind h fun d s1 ρ1 F1 H1 v x1 rl1 rd1 h1 => ?_)
  cases q : t.run d s1 with
  | bad => rw [q] at h1; exact h1.elim
  | ex x s2 => exact absurd q Tg.noEx
  | ok u s2 =>
    rw [q] at h1
    obtain ⟨vs, rl2, k⟩ := Tg.go rl1 rd1 q
    exact k E.nx (h1 ρ1 F1 H1 _ (Ext.refl ..) rl2)
theorem pds_set {i : Nat} {x : Str} {pos' : Pos} {fd : DS → R D} (hN : X.N.Nodup) (hi : X.N[i]? = some x) (hx : Loc X.env.scope x) (he : PD X W e fd) (hs : swapsWith e (some (.Name x pos')) pos.line X.env = pure false := by rfl) (hf : X.fn x = true ∨ X.env.scope.names.lookup x = some .local := by first | exact .inl rfl | exact .inr rfl | assumption) :
    PDs X W (.Assign [.Name x pos'] e pos) (fAsg fd (.one i)) := by
  obtain ⟨t, e1, l⟩ := he
  exact ⟨_, ps_set hN hi hx e1 hs hf, asg_run (t := .one i) l⟩
theorem pds_asg {tg : Expr} {fd : DS → R D} {t : Tg} (he : PD X W e fd) (hg : PDG X tg t) (hs : swapsWithSole [tg] e pos.line X.env = pure false := by rfl) (hw : swappedStores [tg] e X.env = pure none := by rfl)
    (h1 : (assignEach [tg] X.env).map (·.2) = [assign tg X.env] := by rfl) : PDs X W (.Assign [tg] e pos) (fAsg fd t) := by
  obtain ⟨te, e1, l⟩ := he
  exact ⟨_, ps_asg e1 hg hs hw h1, asg_run l⟩
/-- x, y = a, b: two names of the block's own -/
def fPar (i j : Nat) (fa : DS → R (List D)) : DS → R Fl := fun s => (fa s).bind fun ds s1 => match ds with
  | [a, b] => .ok .nx { s1 with g := (s1.g.set i (some a)).set j (some b) }
  | _ => .bad
theorem pds_par {i j : Nat} {x y : Str} {a b : Expr} {px py pt : Pos} {kt k2 pt2} {fa : DS → R (List D)} (hc : X.calm = true) (hN : X.N.Nodup) (hi : X.N[i]? = some x) (hj : X.N[j]? = some y) (hij : i ≠ j)
    (hx : X.env.scope.names.lookup x = some .local) (hy : X.env.scope.names.lookup y = some .local) (ha : PDA X W [a, b] fa)
    (hw : swappedStores [.Tuple [.Name x px, .Name y py] kt pt] (.Tuple [a, b] k2 pt2) X.env = pure (some [x, y]) := by rfl)
    (hs : swapsWithSole [.Tuple [.Name x px, .Name y py] kt pt] (.Tuple [a, b] k2 pt2) pos.line X.env = pure false := by rfl) :
    PDs X W (.Assign [.Tuple [.Name x px, .Name y py] kt pt] (.Tuple [a, b] k2 pt2) pos) (fPar i j fa) := by
  obtain ⟨ta, ea, l⟩ := ha
  refine ⟨_, ps_par hc hN hi hj hij hx hy ea hw hs, fun ρ F s σ H E rl h => l ρ F s σ H _ rl (PostS.bind h fun ds s1 ρ1 F1 H1 vs x1 rl1 rd1 h1 => ?_)⟩
  split at h1
  · rename_i d1 d2
    obtain ⟨v1, vs1, rfl, r1, q1⟩ := rd1
    obtain ⟨v2, vs2, rfl, r2, q2⟩ := q1
    cases q2
    exact ⟨v1, v2, rfl, h1 ρ1 F1 H1 _ (Ext.refl ..) ⟨rl1.mem, (rl1.slo.set i r1).set j r2⟩⟩
  · exact h1.elim
theorem pdg_name {i : Nat} {x : Str} (hN : X.N.Nodup) (hi : X.N[i]? = some x) (hx : Loc X.env.scope x) (hf : X.fn x = true ∨ X.env.scope.names.lookup x = some .local := by first | exact .inl rfl | exact .inr rfl | assumption) : PDG X (.Name x pos) (.one i) := pg_name hN hi hx hf
theorem pdg_tup {es : List Expr} {k : Nat} {is : List Nat} (hc : X.calm = true) (h : PGs X es (gNms is)) (hn : (assignEach es X.env).length = is.length := by rfl) (hst : (assignEach es X.env).findIdx? (·.1) = none := by rfl) : PDG X (.Tuple es k pos) (.many is) := pg_tup hc h hn hst

/-! ### name op= e -/
def fAug (i : Nat) (f : DS → R D) (g : D → D → DS → R D) : DS → R Fl := fun s => match s.g[i]? with
  | some (some x) => (f s).bind fun y s1 => (g x y s1).bind fun z s2 => .ok .nx { s2 with g := s2.g.set i (some z) }
  | _ => .bad
def IpD (X : Cx) (W : WX) (r : TIp) (g : D → D → DS → R D) : Prop := OpD X W r g
theorem pds_aug {i : Nat} {x : Str} {op : Operator} {ti : TIp} {pos' : Pos} {fd : DS → R D} {gd : D → D → DS → R D} (hN : X.N.Nodup) (hi : X.N[i]? = some x) (hx : Loc X.env.scope x) (he : PD X W e fd) (ho : PIp X op ti) (hg : OpD X W ti gd)
    (hf : X.fn x = true ∨ X.env.scope.names.lookup x = some .local := by first | exact .inl rfl | exact .inr rfl | assumption) : PDs X W (.AugAssign (.Name x pos') op e pos) (fAug i fd gd) := by
  obtain ⟨t, e1, l⟩ := he
  refine ⟨_, ps_aug hN hi hx e1 ho hf, fun ρ F s σ H E rl h => ?_⟩
  unfold fAug at h
  split at h
  · rename_i d q
    obtain ⟨v, e2, r⟩ := rl.slo.at_ i d q
    refine ⟨v, e2, l ρ F s σ H _ rl (PostS.bind h fun y s1 ρ1 F1 H1 u x1 rl1 rd1 h1 => ?_)⟩
    refine hg ρ1 F1 s1 σ H1 d y v u _ rl1 (r.ext x1) rd1 (PostS.bind h1 fun z s2 ρ2 F2 H2 w x2 rl2 rd2 h2 => ?_)
    exact h2 ρ2 F2 H2 _ (Ext.refl ..) ⟨rl2.mem, rl2.slo.set i rd2⟩
  · exact h.elim
theorem pip_of {op : Operator} {r : R2} (ho : OpR X (inplaceOp op) r) : PIp X op r := fun pins s σ H x y v u Q I r1 r2 h => ho pins s σ H x y v u Q I r1 r2 h

/-! ### o[i] = e -/
def gSetL : D → D → D → DS → R Unit := fun o i v s => match o, i with
  | .obj k, .int j => match objL s k with
    | some ds => match ixN ds.length j with
      | some n => .ok () { s with m := s.m.set k (.lst (ds.set n v)) }
      | none => .bad
    | none => .bad
  | _, _ => .bad
def fSetIx (f fo fi : DS → R D) (g : D → D → D → DS → R Unit) : DS → R Fl := fun s => (f s).bind fun v s1 => (fo s1).bind fun o s2 => (fi s2).bind fun i s3 => (g o i v s3).bind fun _ s4 => .ok .nx s4
def SetD (X : Cx) (W : WX) (t : TSet) (g : D → D → D → DS → R Unit) : Prop :=
  ∀ ρ F s σ H o i d ov iv v (Q : Hp → Prop), Rel X.K X.mg ρ F s σ H → Rd X.K ρ F o ov → Rd X.K ρ F i iv → Rd X.K ρ F d v → Post X W (fun _ _ _ (_ : Unit) => True) ρ F H σ (fun _ H' => Q H') (g o i d s) → t ov iv v H Q
theorem setd_list : SetD X W rSetL gSetL := by
  intro ρ F s σ H o i d ov iv v Q rl r1 r2 r3 h
  unfold gSetL at h
  split at h
  · rename_i k j
    split at h
    · rename_i ds e
      split at h
      · rename_i n e2
        obtain ⟨a, rfl, ha, fa, vs, hl, l⟩ := Rel.objAt rl.mem r1 (objL_eq e) trivial
        refine ⟨a, vs, j, n, rfl, r2, hl, by rw [l.length]; exact e2, ?_⟩
        obtain ⟨m, x⟩ := rl.mem.set (n := .lst (ds.set n d)) (o := .lst (vs.set n v)) ha (objL_eq e) trivial ⟨_, upd_same, RdL.set r3 n l⟩
        exact h _ _ _ () x ⟨m, rl.slo.ext x⟩ trivial
      · exact h.elim
    · exact h.elim
  · exact h.elim
theorem pds_setIx {o i : Expr} {p2 : Pos} {f fo fi : DS → R D} {t : TSet} {g : D → D → D → DS → R Unit} (he : PD X W e f) (ho : PD X W o fo) (hi : PD X W i fi) (hset : PSet X t) (hg : SetD X W t g)
    (ha : ∀ v, assign (.Subscript o i p2) X.env v = (do
      let ov ← holding [v] (eval o X.env)
      let iv ← holding [v, ov] (eval i X.env)
      standAt p2
      holding [v, ov, iv] (setItem ov iv v)
      release [v, ov, iv] []) := by intro _; rfl)
    (hs : swapsWithSole [.Subscript o i p2] e pos.line X.env = pure false := by rfl) (hw : swappedStores [.Subscript o i p2] e X.env = pure none := by rfl)
    (h1 : (assignEach [.Subscript o i p2] X.env).map (·.2) = [assign (.Subscript o i p2) X.env] := by rfl) : PDs X W (.Assign [.Subscript o i p2] e pos) (fSetIx f fo fi g) := by
  obtain ⟨te, e1, l1⟩ := he
  obtain ⟨to, e2, l2⟩ := ho
  obtain ⟨ti, e3, l3⟩ := hi
  refine ⟨_, ps_asg e1 (pg_sub e2 e3 hset ha) hs hw h1, fun ρ F s σ H E rl h => l1 ρ F s σ H _ rl (PostS.bind h fun v s1 ρ1 F1 H1 vv x1 rl1 rd1 h1 => ?_)⟩
  refine l2 ρ1 F1 s1 σ H1 _ rl1 (PostS.bind h1 fun ov s2 ρ2 F2 H2 ovv x2 rl2 rd2 h2 => ?_)
  refine l3 ρ2 F2 s2 σ H2 _ rl2 (PostS.bind h2 fun iv s3 ρ3 F3 H3 ivv x3 rl3 rd3 h3 => ?_)
  refine hg ρ3 F3 s3 σ H3 ov iv v ovv ivv vv _ rl3 (rd2.ext x3) rd3 ((rd1.ext x2).ext x3) (PostS.bind h3 fun _ s4 ρ4 F4 H4 _ x4 rl4 _ h4 => ?_)
  exact h4 ρ4 F4 H4 σ (Ext.refl ..) rl4

/-! ### methods of what is built in -/
def MtD (X : Cx) (W : WX) (r : V → List V → Hp → VK → Prop) (g : D → List D → DS → R D) : Prop :=
  ∀ ρ F s σ H x d vs ds Q, Rel X.K X.mg ρ F s σ H → Rd X.K ρ F d x → RdL X.K ρ F ds vs → Post X W (Rd X.K) ρ F H σ Q (g d ds s) → r x vs H Q
def fMt (ty : DS → D → Bool) (fo : DS → R D) (fa : DS → R (List D)) (g : D → List D → DS → R D) : DS → R D := fun s => (fo s).bind fun o s1 => if ty s1 o = true then (fa s1).bind fun as s2 => g o as s2 else .bad
def isLst (s : DS) (d : D) : Bool := (lstV s d).isSome
theorem isLst_ty {K : PySem.W.Frag} {mg : Str → Option Value} {ρ : List Addr} {F H : Hp} {s : DS} {d : D} {v : V} (rl : MRel K mg ρ F s.m H) (r : Rd K ρ F d v) (h : isLst s d = true) : tyV K "list" v H := by
  obtain ⟨ds, e⟩ := Option.isSome_iff_exists.mp h
  obtain ⟨a, vs, rfl, q, _⟩ := lstV_rd rl r e
  exact Or.inl ⟨rfl, vs, Or.inl (Or.inl q)⟩
noncomputable def gAppend : D → List D → DS → R D := fun o as s => match o, as with
  | .obj k, [y] => match objL s k with
    | some ds => if Pr (ds.length < sizeLine) then .ok .non { s with m := s.m.set k (.lst (ds ++ [y])) } else .bad
    | none => .bad
  | _, _ => .bad
theorem md_append : MtD X W rAppend gAppend := by
  intro ρ F s σ H x d vs ds Q rl r1 r2 h
  unfold gAppend at h
  split at h
  · rename_i k y
    obtain ⟨v, rfl, r3⟩ := rdl1 r2
    split at h
    · rename_i es e
      split at h
      · rename_i hc
        obtain ⟨a, rfl, ha, fa, us, hl, l⟩ := Rel.objAt rl.mem r1 (objL_eq e) trivial
        refine ⟨a, us, v, rfl, rfl, hl, by rw [l.length]; exact hc, ?_⟩
        obtain ⟨m, x⟩ := rl.mem.set (n := .lst (es ++ [y])) (o := .lst (us ++ [v])) ha (objL_eq e) trivial ⟨_, upd_same, l.append (RdL.one r3)⟩
        exact h _ _ _ _ x ⟨m, rl.slo.ext x⟩ rfl
      · exact h.elim
    · exact h.elim
  · exact h.elim
noncomputable def gExtend : D → List D → DS → R D := fun o as s => match o, as with
  | .obj k, [y] => match objL s k, lstV s y with
    | some ds, some es => if Pr (ds.length + es.length ≤ sizeLine) then .ok .non { s with m := s.m.set k (.lst (ds ++ es)) } else .bad
    | _, _ => .bad
  | _, _ => .bad
theorem md_extend : MtD X W rExtend gExtend := by
  intro ρ F s σ H x d vs ds Q rl r1 r2 h
  unfold gExtend at h
  split at h
  · rename_i k y
    obtain ⟨v, rfl, r3⟩ := rdl1 r2
    split at h
    · rename_i es zs e e2
      split at h
      · rename_i hc
        obtain ⟨b, ws, rfl, hb, lb⟩ := lstV_rd rl.mem r3 e2
        obtain ⟨a, rfl, ha, fa, us, hl, l⟩ := Rel.objAt rl.mem r1 (objL_eq e) trivial
        refine ⟨a, b, us, ws, rfl, rfl, hl, hb, by rw [l.length, lb.length]; exact hc, ?_⟩
        obtain ⟨m, x⟩ := rl.mem.set (n := .lst (es ++ zs)) (o := .lst (us ++ ws)) ha (objL_eq e) trivial ⟨_, upd_same, l.append lb⟩
        exact h _ _ _ _ x ⟨m, rl.slo.ext x⟩ rfl
      · exact h.elim
    · exact h.elim
  · exact h.elim
theorem pd_lstM {o : Expr} {es : List Expr} {r : V → List V → Hp → VK → Prop} {g : D → List D → DS → R D} {fo : DS → R D} {fa : DS → R (List D)}
    (hb : ∀ {to : TE} {t : TA}, PE X o to → PA X (e :: es) t → PE X st' (tBM X.K "list" r to t)) (hg : MtD X W r g) (ho : PD X W o fo) (ha : PDA X W (e :: es) fa) : PD X W st' (fMt isLst fo fa g) := by
  obtain ⟨t, e1, l⟩ := ho
  obtain ⟨t2, e2, l2⟩ := ha
  refine ⟨_, hb e1 e2, fun ρ F s σ H Q rl h => l ρ F s σ H _ rl (h.bind fun d s1 ρ1 F1 H1 v x1 rl1 rd1 h1 => ?_)⟩
  split at h1
  · rename_i hc
    refine ⟨isLst_ty rl1.mem rd1 hc, l2 ρ1 F1 s1 σ H1 _ rl1 (Post.bind h1 fun ds s2 ρ2 F2 H2 vs x2 rl2 rd2 h2 => ?_)⟩
    exact hg ρ2 F2 s2 σ H2 v d vs ds Q rl2 (rd1.ext x2) rd2 h2
  · exact h1.elim

/-! ### an object that changes no more -/
def frzG (s : DS) : D → Option (D × List MO)
  | .obj k => match objL s k with
    | some ds => some (.lst ds, s.m.set k .gone)
    | none => none
  | _ => none
theorem frz_run {ρ : List Addr} {F H : Hp} {s : DS} {σ : St} {d d' : D} {v : V} {m' : List MO} (rl : Rel X.K X.mg ρ F s σ H) (r : Rd X.K ρ F d v) (h : frzG s d = some (d', m')) :
    ∃ F', Ext ρ F H ρ F' H ∧ MRel X.K X.mg ρ F' m' H ∧ Rd X.K ρ F' d' v := by
  unfold frzG at h
  split at h
  · rename_i k
    split at h
    · rename_i ds e
      cases h
      obtain ⟨a, rfl, ha, fa, vs, hl, l⟩ := Rel.objAt rl.mem r (objL_eq e) trivial
      obtain ⟨m, x⟩ := rl.mem.freeze ha (objL_eq e) trivial hl
      exact ⟨_, x, m, ⟨a, vs, rfl, upd_same, l.ext x⟩⟩
    · cases h
  · cases h
/-- the value of a name, from now on without change -/
def fVarZ (i : Nat) : DS → R D := fun s => match s.g[i]? with
  | some (some d) => match frzG s d with
    | some (d', m') => .ok d' ⟨s.g.set i (some d'), m'⟩
    | none => .bad
  | _ => .bad
theorem pd_varZ (i : Nat) {x : Str} {pos : Pos} (h : PE X (.Name x pos) (tVar i)) : PD X W (.Name x pos) (fVarZ i) := by
  refine ⟨_, h, fun ρ F s σ H Q rl h => ?_⟩
  unfold fVarZ at h
  split at h
  · rename_i d q
    obtain ⟨v, e1, r⟩ := rl.slo.at_ i d q
    split at h
    · rename_i d' m' e2
      obtain ⟨F', x, m, r'⟩ := frz_run rl r e2
      refine ⟨v, e1, h ρ F' H v x ⟨m, ?_⟩ r'⟩
      have z := (rl.slo.ext x).set i r'
      rwa [show σ.set i (some v) = σ from by
        apply List.ext_getElem?
        intro j
        by_cases hj : j = i
        · subst hj
          rw [List.getElem?_set_self (List.getElem?_eq_some_iff.mp e1).1, e1]
        · rw [List.getElem?_set_ne (Ne.symm hj)]] at z
    · exact h.elim
  · exact h.elim
end
end DL

/-! Rules: loops, comprehensions. -/
namespace DL
open PySem L2

section
variable {X : Cx} {W : WX} {e : Expr} {pos : Pos}

/-! ### what is walked -/
/-- J walks its, from (ρ0, F0, H0) on, as long as P holds of the objects -/
structure JOk (K : PySem.W.Frag) (mg : Str → Option Value) (P : List MO → Prop) (its : List D) (ρ0 : List Addr) (F0 H0 : Hp) (J : It) : Prop where
  stop : ∀ ρ F H μ, Ext ρ0 F0 H0 ρ F H → MRel K mg ρ F μ H → P μ → J.stop its.length H
  go : ∀ (i : Nat) d, its[i]? = some d → ∀ ρ F H μ, Ext ρ0 F0 H0 ρ F H → MRel K mg ρ F μ H → P μ →
    J.go i H ∧ ∀ x H', J.yld i H x H' → ∃ F', Ext ρ F H ρ F' H' ∧ MRel K mg ρ F' μ H' ∧ Rd K ρ F' d x
/-- what is walked, and what must stay -/
abbrev Wk := List D × (List MO → Bool)
def PostI (X : Cx) (W : WX) (ρ : List Addr) (F H : Hp) (σ : St) (Rr : It → Hp → Prop) : R Wk → Prop
  | .bad => False
  | .ok w s' => ∀ ρ' F' H' J, Ext ρ F H ρ' F' H' → Rel X.K X.mg ρ' F' s' σ H' → JOk X.K X.mg (fun μ => w.2 μ = true) w.1 ρ' F' H' J → Rr J H'
  | .ex e s' => ∀ ρ' F' H' cls d, Ext ρ F H ρ' F' H' → Rel X.K X.mg ρ' F' s' σ H' → ExR X.K X.mg ρ' F' H' e cls d → W cls d σ H'
def StlI (X : Cx) (W : WX) (t : TI) (f : DS → R Wk) : Prop := ∀ ρ F s σ H Rr, Rel X.K X.mg ρ F s σ H → PostI X W ρ F H σ Rr (f s) → t σ H Rr
def PDI (X : Cx) (W : WX) (tg e : Expr) (f : DS → R Wk) : Prop := ∃ t, PI X tg e t ∧ StlI X W t f
theorem PostI.bind {α β : Type} {rel : List Addr → Hp → α → β → Prop} {ρ : List Addr} {F H : Hp} {σ : St} {Rr : It → Hp → Prop} {Q1 : β → Hp → Prop} {r : R α} {g : α → DS → R Wk}
    (h : PostI X W ρ F H σ Rr (r.bind g))
    (k : ∀ a s' ρ' F' H' v, Ext ρ F H ρ' F' H' → Rel X.K X.mg ρ' F' s' σ H' → rel ρ' F' a v → PostI X W ρ' F' H' σ Rr (g a s') → Q1 v H') : Post X W rel ρ F H σ Q1 r := by
  cases r with
  | bad => exact h
  | ok a s' =>
    intro ρ' F' H' v x rl rd
    refine k a s' ρ' F' H' v x rl rd ?_
    have h' : PostI X W ρ F H σ Rr (g a s') := h
    cases q : g a s' with
    | bad => rw [q] at h'; exact h'
    | ok w s2 => rw [q] at h'; exact fun ρ2 F2 H2 J x2 => h' ρ2 F2 H2 J (x.trans x2)
    | ex b s2 => rw [q] at h'; exact fun ρ2 F2 H2 c d x2 => h' ρ2 F2 H2 c d (x.trans x2)
  | ex e s' => exact h
def allw : List MO → Bool := fun _ => true
/-- a list or tuple that changes no more -/
def wkSeq : D → DS → R Wk := fun d s => match d with
  | .lst ds => .ok (ds, allw) s
  | .lsr ds => .ok (ds, allw) s
  | _ => .bad
def fWL (f : DS → R D) : DS → R Wk := fun s => (f s).bind wkSeq
theorem jok_list {K : PySem.W.Frag} {mg : Str → Option Value} {P : List MO → Prop} {ρ : List Addr} {F H : Hp} {ds : List D} {vs : List V} {a : Addr} (q : SqL K F a vs) (l : RdL K ρ F ds vs) (inj : ∀ {H' ys}, Same F H' → SqL K H' a ys → ys = vs ∨ True) : JOk K mg P ds ρ F H (Itl K a) := by
  refine ⟨fun ρ' F' H' μ x m _ => ⟨vs, (x.fro.trans m.sub).seq q, by rw [l.length]; exact Nat.le_refl _⟩, fun i d e ρ' F' H' μ x m _ => ?_⟩
  obtain ⟨v, e1, r⟩ := l.get e
  have q' := (x.fro.trans m.sub).seq q
  exact ⟨⟨vs, v, q', e1⟩, fun y H2 yd => by
    obtain ⟨rfl, h2⟩ := yd
    have e2 := h2 vs q'
    rw [e1] at e2
    cases e2
    exact ⟨F', Ext.refl .., m, r.ext x⟩⟩
theorem pdi_list {tg : Expr} {f : DS → R D} (h : PD X W e f) : PDI X W tg e (fWL f) := by
  obtain ⟨t, e1, l⟩ := h
  refine ⟨_, pi_list e1, fun ρ F s σ H Rr rl h => l ρ F s σ H _ rl (PostI.bind h fun d s1 ρ1 F1 H1 v x1 rl1 rd1 h1 => ?_)⟩
  unfold wkSeq at h1
  split at h1
  · obtain ⟨a, vs, rfl, q, l2⟩ := rd1
    exact ⟨a, rfl, ⟨vs, .inl (.inl (rl1.mem.sub _ _ q))⟩, h1 ρ1 F1 H1 _ (Ext.refl ..) rl1 (jok_list (.inl (.inl q)) l2 fun _ _ => .inr trivial)⟩
  · obtain ⟨a, vs, rfl, q, l2⟩ := rd1
    exact ⟨a, rfl, ⟨vs, rl1.mem.sub.seq q⟩, h1 ρ1 F1 H1 _ (Ext.refl ..) rl1 (jok_list q l2 fun _ _ => .inr trivial)⟩
  · exact h1.elim
def wkTup : D → DS → R Wk := fun d s => match d with
  | .tup ds => .ok (ds, allw) s
  | _ => .bad
def fWT (f : DS → R D) : DS → R Wk := fun s => (f s).bind wkTup
theorem pdi_tup {tg : Expr} {f : DS → R D} (h : PD X W e f) : PDI X W tg e (fWT f) := by
  obtain ⟨t, e1, l⟩ := h
  refine ⟨_, pi_tup e1, fun ρ F s σ H Rr rl h => l ρ F s σ H _ rl (PostI.bind h fun d s1 ρ1 F1 H1 v x1 rl1 rd1 h1 => ?_)⟩
  unfold wkTup at h1
  split at h1
  · obtain ⟨a, vs, rfl, q, l2⟩ := rd1
    refine ⟨a, rfl, ⟨vs, sqT_mono rl1.mem.sub q⟩, h1 ρ1 F1 H1 _ (Ext.refl ..) rl1 ⟨fun ρ' F' H' μ x m _ => ⟨vs, sqT_mono (x.fro.trans m.sub) q, by rw [l2.length]; exact Nat.le_refl _⟩, fun i d e ρ' F' H' μ x m _ => ?_⟩⟩
    obtain ⟨v, e1, r⟩ := l2.get e
    have q' := sqT_mono (x.fro.trans m.sub) q
    exact ⟨⟨vs, v, q', e1⟩, fun y H2 yd => by
      obtain ⟨rfl, h2⟩ := yd
      have e2 := h2 vs q'
      rw [e1] at e2
      cases e2
      exact ⟨F', Ext.refl .., m, r.ext x⟩⟩
  · exact h1.elim
/-- range -/
def rngD (lo : Int) (n : Nat) : List D := (List.range n).map fun k => .int (lo + (k : Nat))
theorem jok_rng {K : PySem.W.Frag} {mg : Str → Option Value} {P : List MO → Prop} {ρ : List Addr} {F H : Hp} {lo : Int} {n : Nat} : JOk K mg P (rngD lo n) ρ F H (Itr lo n) := by
  refine ⟨fun ρ' F' H' μ x m _ => by simp [Itr, rngD], fun i d e ρ' F' H' μ x m _ => ?_⟩
  have hi : i < n := by
    have := (List.getElem?_eq_some_iff.mp e).1
    simpa [rngD] using this
  refine ⟨hi, fun y H2 yd => ?_⟩
  obtain ⟨rfl, rfl⟩ := yd
  refine ⟨F', Ext.refl .., m, ?_⟩
  simp [rngD, hi] at e
  subst e
  rfl
noncomputable def wkR1 : List D → DS → R Wk := fun ds s => match ds with
  | [.int j] => if Pr (-(2 ^ 62) ≤ j ∧ j < 2 ^ 62) then .ok (rngD 0 j.toNat, allw) s else .bad
  | _ => .bad
noncomputable def wkR2 : List D → DS → R Wk := fun ds s => match ds with
  | [.int i, .int j] => if Pr (-(2 ^ 62) ≤ i ∧ i < 2 ^ 62 ∧ -(2 ^ 62) ≤ j ∧ j < 2 ^ 62) then .ok (rngD i (j - i).toNat, allw) s else .bad
  | _ => .bad
noncomputable def fWR1 (f : DS → R (List D)) : DS → R Wk := fun s => (f s).bind wkR1
noncomputable def fWR2 (f : DS → R (List D)) : DS → R Wk := fun s => (f s).bind wkR2
theorem pdi_range1 {tg : Expr} {a : Expr} {p : Pos} {f : DS → R (List D)} (hg : Gl X "range") (hm : X.mg "range" = none) (ha : PDA X W [a] f) (hs : starEach [a] X.env = [(false, eval a X.env)] := by rfl) : PDI X W tg (.Call (.Name "range" p) [a] [] pos) (fWR1 f) := by
  obtain ⟨t, e1, l⟩ := ha
  refine ⟨_, pi_range1 hg hm e1 hs, fun ρ F s σ H Rr rl h => l ρ F s σ H _ rl (PostI.bind h fun ds s1 ρ1 F1 H1 vs x1 rl1 rd1 h1 => ?_)⟩
  unfold wkR1 at h1
  split at h1
  · obtain ⟨v, rfl, r⟩ := rdl1 rd1
    split at h1
    · rename_i j hc
      cases r
      exact ⟨j, rfl, hc.1, hc.2, h1 ρ1 F1 H1 _ (Ext.refl ..) rl1 jok_rng⟩
    · exact h1.elim
  · exact h1.elim
theorem pdi_range2 {tg : Expr} {a b : Expr} {p : Pos} {f : DS → R (List D)} (hg : Gl X "range") (hm : X.mg "range" = none) (ha : PDA X W [a, b] f) (hs : starEach [a, b] X.env = [(false, eval a X.env), (false, eval b X.env)] := by rfl) (hs2 : starEach [b] X.env = [(false, eval b X.env)] := by rfl) :
    PDI X W tg (.Call (.Name "range" p) [a, b] [] pos) (fWR2 f) := by
  obtain ⟨t, e1, l⟩ := ha
  refine ⟨_, pi_range2 hg hm e1 hs hs2, fun ρ F s σ H Rr rl h => l ρ F s σ H _ rl (PostI.bind h fun ds s1 ρ1 F1 H1 vs x1 rl1 rd1 h1 => ?_)⟩
  unfold wkR2 at h1
  split at h1
  · obtain ⟨v, u, rfl, r, r2⟩ := rdl2 rd1
    split at h1
    · rename_i i j hc
      cases r
      cases r2
      exact ⟨i, j, rfl, hc, h1 ρ1 F1 H1 _ (Ext.refl ..) rl1 jok_rng⟩
    · exact h1.elim
  · exact h1.elim

/-- range with a step -/
def rngC (lo c : Int) (n : Nat) : List D := (List.range n).map fun k => .int (lo + (k : Nat) * c)
theorem jok_rngC {K : PySem.W.Frag} {mg : Str → Option Value} {P : List MO → Prop} {ρ : List Addr} {F H : Hp} {lo c : Int} {n : Nat} : JOk K mg P (rngC lo c n) ρ F H (Itc lo c n) := by
  refine ⟨fun ρ' F' H' μ x m _ => by simp [Itc, rngC], fun i d e ρ' F' H' μ x m _ => ?_⟩
  have hi : i < n := by
    have := (List.getElem?_eq_some_iff.mp e).1
    simpa [rngC] using this
  refine ⟨hi, fun y H2 yd => ?_⟩
  obtain ⟨rfl, rfl⟩ := yd
  refine ⟨F', Ext.refl .., m, ?_⟩
  simp [rngC, hi] at e
  subst e
  rfl
noncomputable def wkR3 : List D → DS → R Wk := fun ds s => match ds with
  | [.int i, .int j, .int c] => if Pr (RgC i j c (Builtin.Range.rangeSize i j c).toNat) then .ok (rngC i c (Builtin.Range.rangeSize i j c).toNat, allw) s else .bad
  | _ => .bad
noncomputable def fWR3 (f : DS → R (List D)) : DS → R Wk := fun s => (f s).bind wkR3
theorem pdi_range3 {tg : Expr} {a b c : Expr} {p : Pos} {f : DS → R (List D)} (hg : Gl X "range") (hm : X.mg "range" = none) (ha : PDA X W [a, b, c] f)
    (hs : starEach [a, b, c] X.env = (false, eval a X.env) :: starEach [b, c] X.env := by rfl) (hpl : (backTo pos (starEach [b, c] X.env)).any (·.1) = false := by rfl) :
    PDI X W tg (.Call (.Name "range" p) [a, b, c] [] pos) (fWR3 f) := by
  obtain ⟨t, e1, l⟩ := ha
  refine ⟨_, pi_range3 hg hm e1 hs hpl, fun ρ F s σ H Rr rl h => l ρ F s σ H _ rl (PostI.bind h fun ds s1 ρ1 F1 H1 vs x1 rl1 rd1 h1 => ?_)⟩
  unfold wkR3 at h1
  split at h1
  · obtain ⟨v1, vs1, rfl, r1, q1⟩ := rd1
    obtain ⟨v2, vs2, rfl, r2, q2⟩ := q1
    obtain ⟨v3, vs3, rfl, r3, q3⟩ := q2
    cases q3
    split at h1
    · rename_i i j c hc
      cases r1
      cases r2
      cases r3
      exact ⟨i, j, c, _, rfl, hc, h1 ρ1 F1 H1 _ (Ext.refl ..) rl1 jok_rngC⟩
    · exact h1.elim
  · exact h1.elim

/-! ### for -/
def loopL (P : List MO → Bool) (step : D → DS → R Fl) : List D → DS → R Fl
  | [], s => if P s.m = true then .ok .nx s else .bad
  | x :: xs, s => if P s.m = true then (match step x s with
    | .ok .nx s1 => loopL P step xs s1
    | .ok .ct s1 => loopL P step xs s1
    | .ok .bk s1 => .ok .nx s1
    | r => r) else .bad
def fStep (t : Tg) (fb : DS → R Fl) : D → DS → R Fl := fun d s2 => (t.run d s2).bind fun _ s3 => fb s3
def fFor (fi : DS → R Wk) (t : Tg) (fb : DS → R Fl) : DS → R Fl := fun s => (fi s).bind fun w s1 => loopL w.2 (fStep t fb) w.1 s1
theorem for_run {wi : TI} {t : Tg} {tb : TS} {fi : DS → R Wk} {fb : DS → R Fl} (li : StlI X W wi fi) (lb : StlS X W tb fb) : StlS X W (tFor wi (t.tg X.K) tb) (fFor fi t fb) := by
  intro ρ F s σ H E rl h
  refine li ρ F s σ H _ rl ?_
  unfold fFor at h
  cases q : fi s with
  | bad => rw [q] at h; exact h
  | ex e s1 => rw [q] at h; exact fun ρ' F' H' cls d x rl' er => h ρ' F' H' σ cls d x rl' er
  | ok w s1 =>
    rw [q] at h
    obtain ⟨its, P⟩ := w
    intro ρ1 F1 H1 J x1 rl1 jk
    have h1 : PostS X W ρ F H E (loopL P (fStep t fb) its s1) := h
    refine ⟨fun i m σ' H' => m = its.length - i ∧ i ≤ its.length ∧ ∃ ρ2 F2 s2, Ext ρ1 F1 H1 ρ2 F2 H' ∧ Rel X.K X.mg ρ2 F2 s2 σ' H' ∧ PostS X W ρ2 F2 H' E (loopL P (fStep t fb) (its.drop i) s2),
      ⟨its.length, by simp, Nat.zero_le _, ρ1, F1, s1, Ext.refl .., rl1, h1.ext x1⟩, ?_⟩
    rintro i m σ2 H2 ⟨rfl, hi, ρ2, F2, s2, x2, rl2, h2⟩
    by_cases hlt : i < its.length
    · have hd : its.drop i = its[i] :: its.drop (i + 1) := List.drop_eq_getElem_cons hlt
      rw [hd] at h2
      unfold loopL fStep at h2
      split at h2
      · rename_i hP
        obtain ⟨hgo, hy⟩ := jk.go i its[i] (List.getElem?_eq_getElem hlt) ρ2 F2 H2 s2.m x2 rl2.mem hP
        refine .inr ⟨hgo, fun σ3 H3 => ∃ ρ3 F3 s3, Ext ρ1 F1 H1 ρ3 F3 H3 ∧ Rel X.K X.mg ρ3 F3 s3 σ3 H3 ∧ PostS X W ρ3 F3 H3 E (loopL P (fStep t fb) (its.drop (i + 1)) s3),
          fun σ3 H3 ⟨ρ3, F3, s3, x3, rl3, h3⟩ => ⟨its.length - (i + 1), by omega, rfl, hlt, ρ3, F3, s3, x3, rl3, h3⟩, fun x H3 y => ?_⟩
        obtain ⟨F3, x3, m3, rd3⟩ := hy x H3 y
        have rl3 : Rel X.K X.mg ρ2 F3 s2 σ2 H3 := ⟨m3, rl2.slo.ext x3⟩
        cases q2 : t.run its[i] s2 with
        | bad => simp only [q2, R.bind] at h2; exact h2.elim
        | ex e s4 => exact absurd q2 Tg.noEx
        | ok u s4 =>
          simp only [q2, R.bind] at h2
          obtain ⟨vs, rl4, k⟩ := Tg.go rl3 rd3 q2
          refine k _ (lb ρ2 F3 s4 _ H3 _ rl4 ?_)
          have x4 := x2.trans x3
          have hfold : ∀ l, loopL P (fun d s2 => (t.run d s2).bind fun _ s3 => fb s3) l = loopL P (fStep t fb) l := fun _ => rfl
          cases q3 : fb s4 with
          | bad => rw [q3] at h2; exact h2
          | ex e s5 => rw [q3] at h2; exact fun ρ5 F5 H5 σ5 cls d x5 => h2 ρ5 F5 H5 σ5 cls d (x3.trans x5)
          | ok fl s5 =>
            rw [q3] at h2
            cases fl with
            | nx => exact fun ρ5 F5 H5 σ5 x5 rl5 => ⟨ρ5, F5, s5, x4.trans x5, rl5, PostS.ext h2 (x3.trans x5)⟩
            | ct => exact fun ρ5 F5 H5 σ5 x5 rl5 => ⟨ρ5, F5, s5, x4.trans x5, rl5, PostS.ext h2 (x3.trans x5)⟩
            | bk => exact fun ρ5 F5 H5 σ5 x5 rl5 => h2 ρ5 F5 H5 σ5 (x3.trans x5) rl5
            | rt d => exact fun ρ5 F5 H5 v x5 => h2 ρ5 F5 H5 v (x3.trans x5)
      · exact h2.elim
    · have e : i = its.length := by omega
      subst e
      rw [List.drop_length] at h2
      unfold loopL at h2
      split at h2
      · rename_i hP
        exact .inl ⟨jk.stop ρ2 F2 H2 s2.m x2 rl2.mem hP, h2 ρ2 F2 H2 σ2 (Ext.refl ..) rl2⟩
      · exact h2.elim
theorem pds_for {tg iter : Expr} {body : List Stmt} {t : Tg} {fi : DS → R Wk} {fb : DS → R Fl} (hp : PassesOwn (model X.prog X.w) X.A X.env X.xe) (hc : X.calm = true) (hi : PDI X W tg iter fi) (hg : PDG X tg t) (hb : PDss X W body fb)
    (hs : ∀ x, foldedSetIterable iter X.env x = pure x := by intro _; rfl) : PDs X W (.For tg iter body [] pos) (fFor fi t fb) := by
  obtain ⟨wi, e1, li⟩ := hi
  obtain ⟨tb, e2, lb⟩ := hb
  exact ⟨_, ps_for hp hc e1 hg e2 hs, for_run li lb⟩

/-! ### [elt for target in iter if ..] -/
def wipeG (g : List (Option D)) : List Nat → List (Option D)
  | [] => g
  | v :: vs => (wipeG g vs).set v none
theorem wipeG_get {g : List (Option D)} {j : Nat} {d : D} : ∀ {vs : List Nat}, (wipeG g vs)[j]? = some (some d) → g[j]? = some (some d) ∧ j ∉ vs
  | [], h => ⟨h, by simp⟩
  | v :: vs, h => by
    unfold wipeG at h
    by_cases hj : j = v
    · subst hj
      by_cases hl : j < (wipeG g vs).length
      · rw [List.getElem?_set_self hl] at h
        cases h
      · rw [List.getElem?_eq_none (by simp; omega)] at h
        cases h
    · rw [List.getElem?_set_ne (Ne.symm hj)] at h
      obtain ⟨h1, h2⟩ := wipeG_get (vs := vs) h
      exact ⟨h1, by simp [hj, h2]⟩
theorem wipe_get {σ : St} {j : Nat} : ∀ {vs : List Nat}, j ∉ vs → (wipe σ vs)[j]? = σ[j]?
  | [], _ => rfl
  | v :: vs, h => by
    unfold wipe
    have hj : j ≠ v := fun e => h (by simp [e])
    rw [List.getElem?_set_ne (Ne.symm hj)]
    exact wipe_get fun z => h (by simp [z])
theorem wipeG_length (g : List (Option D)) : ∀ vs : List Nat, (wipeG g vs).length = g.length
  | [] => rfl
  | v :: vs => by unfold wipeG; rw [List.length_set, wipeG_length g vs]
theorem SRel.wipe {K : PySem.W.Frag} {ρ : List Addr} {F : Hp} {g : List (Option D)} {σ : St} (h : SRel K ρ F g σ) (vs : List Nat) : SRel K ρ F (wipeG g vs) (L2.wipe σ vs) := by
  refine ⟨by rw [wipeG_length, wipe_length]; exact h.len, fun j d e => ?_⟩
  obtain ⟨h1, h2⟩ := wipeG_get e
  obtain ⟨v, e1, r⟩ := h.at_ j d h1
  exact ⟨v, by rw [wipe_get h2]; exact e1, r⟩
/-- the slots' places outside the wiped ones tell all -/
theorem wipe_ext {σ τ : St} (vs : List Nat) (hl : σ.length = τ.length) (h : ∀ j, j ∉ vs → σ[j]? = τ[j]?) : wipe σ vs = wipe τ vs := by
  apply List.ext_getElem?
  intro j
  by_cases hj : j ∈ vs
  · have one : ∀ (σ : St) (vs : List Nat), j ∈ vs → (wipe σ vs)[j]? = if j < σ.length then some none else none := by
      intro σ vs
      induction vs with
      | nil => intro h; cases h
      | cons v vs ih =>
        intro hm
        unfold wipe
        by_cases hv : j = v
        · subst hv
          by_cases hk : j < σ.length
          · rw [List.getElem?_set_self (by rw [wipe_length]; exact hk), if_pos hk]
          · rw [List.getElem?_eq_none (by rw [List.length_set, wipe_length]; omega), if_neg hk]
        · rw [List.getElem?_set_ne (Ne.symm hv)]
          exact ih (by
            rcases List.mem_cons.mp hm with z | z
            · exact absurd z hv
            · exact z)
    rw [one σ vs hj, one τ vs hj, hl]
  · rw [wipe_get hj, wipe_get hj]
    exact h j hj
theorem setV_get : ∀ {is : List Nat} {vs : List V} {σ : St} {j : Nat}, j ∉ is → (setV is vs σ)[j]? = σ[j]?
  | [], _, _, _, _ => by unfold setV; rfl
  | i :: is, [], _, _, _ => rfl
  | i :: is, v :: vs, σ, j, h => by
    show (setV is vs (σ.set i (some v)))[j]? = σ[j]?
    rw [setV_get (fun z => h (by simp [z])), List.getElem?_set_ne (fun e => h (by simp [e]))]
theorem setV_length : ∀ {is : List Nat} {vs : List V} {σ : St}, (setV is vs σ).length = σ.length
  | [], _, _ => by unfold setV; rfl
  | i :: is, [], _ => rfl
  | i :: is, v :: vs, σ => by
    show (setV is vs (σ.set i (some v))).length = σ.length
    rw [setV_length, List.length_set]
noncomputable def compL (P : List MO → Bool) (step : D → DS → R (Option D)) : List D → List D → DS → R (List D)
  | [], acc, s => if P s.m = true then .ok acc s else .bad
  | x :: xs, acc, s => if P s.m = true then (step x s).bind fun o s1 => (match o with
    | some y => if Pr (acc.length < sizeLine) then compL P step xs (acc ++ [y]) s1 else .bad
    | none => compL P step xs acc s1) else .bad
theorem compL_nil {P : List MO → Bool} {step : D → DS → R (Option D)} {acc : List D} {s : DS} : compL P step [] acc s = if P s.m = true then .ok acc s else .bad := rfl
theorem compL_cons {P : List MO → Bool} {step : D → DS → R (Option D)} {x : D} {xs acc : List D} {s : DS} : compL P step (x :: xs) acc s = if P s.m = true then (step x s).bind fun o s1 => (match o with
    | some y => if Pr (acc.length < sizeLine) then compL P step xs (acc ++ [y]) s1 else .bad
    | none => compL P step xs acc s1) else .bad := rfl
def cStep (t : Tg) (vs : List Nat) (ft : DS → R Bool) (fe : DS → R D) : D → DS → R (Option D) := fun x s =>
  (t.run x { s with g := wipeG s.g vs }).bind fun _ s1 => (ft s1).bind fun b s2 => if b = true then (fe s2).bind fun y s3 => .ok (some y) ⟨s.g, s3.m⟩ else .ok none ⟨s.g, s2.m⟩
noncomputable def fComp (fi : DS → R Wk) (t : Tg) (vs : List Nat) (ft : DS → R Bool) (fe : DS → R D) : DS → R (List D) := fun s => (fi s).bind fun w s1 => compL w.2 (cStep t vs ft fe) w.1 [] s1
/-- no exception gets out of a comprehension's block -/
abbrev W0 : WX := fun _ _ _ _ => False
/-- how a comprehension's list ends: lst: as one that changes no more; else as an object -/
theorem comp_run {wi : TI} {t : Tg} {vs : List Nat} {tt : TT} {te : TE} {fi : DS → R Wk} {ft : DS → R Bool} {fe : DS → R D} (hm : ∀ j ∈ t.mem, j ∈ vs) (li : StlI X W wi fi)
    (lt : ∀ ρ F s σ H Q, Rel X.K X.mg ρ F s σ H → Post X W0 (fun _ _ a b => b = a) ρ F H σ Q (ft s) → tt σ H Q) (le : ∀ ρ F s σ H Q, Rel X.K X.mg ρ F s σ H → Post X W0 (Rd X.K) ρ F H σ Q (fe s) → te σ H Q)
    {ρ : List Addr} {F H : Hp} {s : DS} {σ : St} {Q : VK} (rl : Rel X.K X.mg ρ F s σ H)
    (h : Post X W0 (RdL X.K) ρ F H σ (fun (us : List V) H' => True) (fComp fi t vs ft fe s))
    (hx : ∀ e s', fComp fi t vs ft fe s ≠ .ex e s')
    (fin : ∀ ds s', fComp fi t vs ft fe s = .ok ds s' → ∀ ρ' F' H' D us, Ext ρ F H ρ' F' H' → Rel X.K X.mg ρ' F' s' σ H' → RdL X.K ρ' F' ds us → H D = none → D ∉ ρ' → F' D = none → H' D = some (.lst us) → Q (.ref D) H') :
    tLc wi (t.tg X.K) tt te vs σ H Q := by
  refine li ρ F s σ H _ rl ?_
  unfold fComp at h hx fin
  cases q : fi s with
  | bad => rw [q] at h; exact h
  | ex e s1 => rw [q] at hx; exact absurd rfl (hx e s1)
  | ok w s1 =>
    rw [q] at h hx fin
    obtain ⟨its, P⟩ := w
    intro ρ1 F1 H1 J x1 rl1 jk D hD
    have hf : F1 D = none := rl1.mem.sub.free hD
    have nD : D ∉ ρ1 := rl1.mem.notin hD
    have hDH : H D = none := by
      cases z : H D with
      | none => rfl
      | some o =>
        by_cases hr : D ∈ ρ
        · obtain ⟨l, e⟩ := x1.pre
          exact absurd (by rw [e]; exact List.mem_append_left _ hr) nD
        · rw [x1.rest D o z hr] at hD
          cases hD
    have run0 : (R.ok (its, P) s1).bind (fun w s1 => compL w.2 (cStep t vs ft fe) w.1 [] s1) = compL P (cStep t vs ft fe) its [] s1 := rfl
    rw [run0] at h hx fin
    refine ⟨fun i m H' => m = its.length - i ∧ i ≤ its.length ∧ ∃ ρ2 F2 s2 acc us, Ext ρ1 F1 H1 ρ2 F2 H' ∧ Rel X.K X.mg ρ2 F2 s2 σ H' ∧ RdL X.K ρ2 F2 acc us ∧ H' D = some (.lst us) ∧ D ∉ ρ2 ∧ F2 D = none ∧ compL P (cStep t vs ft fe) its [] s1 = compL P (cStep t vs ft fe) (its.drop i) acc s2,
      ⟨its.length, by simp, Nat.zero_le _, ρ1, F1, s1, [], [], (Ext.refl ρ1 F1 H1).bump hD, ⟨rl1.mem.other nD hf, rl1.slo⟩, rfl, upd_same, nD, hf, rfl⟩, ?_⟩
    rintro i m H2 ⟨rfl, hi, ρ2, F2, s2, acc, us, x2, rl2, la, hD2, nD2, hf2, er⟩
    by_cases hlt : i < its.length
    · have hd : its.drop i = its[i] :: its.drop (i + 1) := List.drop_eq_getElem_cons hlt
      rw [hd, compL_cons] at er
      rw [er] at h hx
      split at h
      · rename_i hP
        rw [if_pos hP] at er hx
        obtain ⟨hgo, hy⟩ := jk.go i its[i] (List.getElem?_eq_getElem hlt) ρ2 F2 H2 s2.m x2 rl2.mem hP
        refine .inr ⟨hgo, fun H3 => ∃ ρ3 F3 s3 acc' us', Ext ρ1 F1 H1 ρ3 F3 H3 ∧ Rel X.K X.mg ρ3 F3 s3 σ H3 ∧ RdL X.K ρ3 F3 acc' us' ∧ H3 D = some (.lst us') ∧ D ∉ ρ3 ∧ F3 D = none ∧ compL P (cStep t vs ft fe) its [] s1 = compL P (cStep t vs ft fe) (its.drop (i + 1)) acc' s3,
          fun H3 ⟨ρ3, F3, s3, acc', us', z⟩ => ⟨its.length - (i + 1), by omega, rfl, hlt, ρ3, F3, s3, acc', us', z⟩, fun x H3 y => ?_⟩
        obtain ⟨F3, x3, m3, rd3⟩ := hy x H3 y
        -- what stays of D
        have stay : ∀ {ρ4 : List Addr} {F4 H4 : Hp}, Ext ρ2 F2 H2 ρ4 F4 H4 → H4 D = some (.lst us) ∧ D ∉ ρ4 ∧ F4 D = none := fun {ρ4 F4 H4} x4 => by
          refine ⟨x4.rest D _ hD2 nD2, fun z => ?_, ?_⟩
          · rcases x4.newr D z with w | w
            · exact nD2 w
            · rw [hD2] at w; cases w
          · cases z : F4 D with
            | none => rfl
            | some o =>
              rcases x4.newf D (by rw [z]; exact fun w => nomatch w) with w | w | w
              · exact absurd hf2 w
              · exact absurd w nD2
              · rw [hD2] at w; cases w
        have rl3 : Rel X.K X.mg ρ2 F3 { s2 with g := wipeG s2.g vs } (wipe σ vs) H3 := ⟨m3, (rl2.slo.ext x3).wipe vs⟩
        unfold cStep at h hx er
        cases q2 : t.run its[i] { s2 with g := wipeG s2.g vs } with
        | bad => simp only [q2, R.bind] at h; exact h.elim
        | ex e s4 => exact absurd q2 Tg.noEx
        | ok u s4 =>
          simp only [q2, R.bind] at h hx er
          obtain ⟨ws, rl4, k⟩ := Tg.go rl3 rd3 q2
          refine k _ ⟨?_, ?_⟩
          · have w1 : wipe (setV t.mem ws (wipe σ vs)) vs = wipe (wipe σ vs) vs := wipe_ext vs (by rw [setV_length]) fun j hj => setV_get fun z => hj (hm j z)
            rw [w1]
            exact wipe_ext vs (wipe_length σ vs) fun j hj => wipe_get hj
          · refine lt ρ2 F3 s4 _ H3 _ rl4 ?_
            cases q3 : ft s4 with
            | bad => rw [q3] at h; exact h.elim
            | ex e s5 => rw [q3] at hx; exact absurd rfl (hx e s5)
            | ok b s5 =>
              rw [q3] at h hx er
              simp only at h hx er
              intro ρ5 F5 H5 b' x5 rl5 eb
              subst eb
              cases b' with
              | true =>
                rw [if_pos rfl]
                simp only [if_true] at h hx er
                refine le ρ5 F5 s5 _ H5 _ rl5 ?_
                cases q4 : fe s5 with
                | bad => rw [q4] at h; exact h.elim
                | ex e s6 => rw [q4] at hx; exact absurd rfl (hx e s6)
                | ok y s6 =>
                  rw [q4] at h hx er
                  simp only at h hx er
                  intro ρ6 F6 H6 v x6 rl6 rd6
                  have x7 := x3.trans (x5.trans x6)
                  obtain ⟨d1, d2, d3⟩ := stay x7
                  split at h
                  · rename_i hc
                    rw [if_pos hc] at er
                    have lu := la.ext x7
                    refine ⟨us, d1, by rw [lu.length]; exact hc, ρ6, F6, ⟨s2.g, s6.m⟩, acc ++ [y], us ++ [v], (x2.trans x7).bump hD, ⟨rl6.mem.other d2 d3, rl2.slo.ext x7⟩, lu.append (RdL.one rd6), upd_same, d2, d3, er⟩
                  · exact h.elim
              | false =>
                rw [if_neg Bool.false_ne_true]
                simp only [Bool.false_eq_true, if_false] at h hx er
                have x7 := x3.trans x5
                obtain ⟨d1, d2, d3⟩ := stay x7
                exact ⟨ρ5, F5, ⟨s2.g, s5.m⟩, acc, us, x2.trans x7, ⟨rl5.mem, rl2.slo.ext x7⟩, la.ext x7, d1, d2, d3, er⟩
      · exact h.elim
    · have e : i = its.length := by omega
      subst e
      rw [List.drop_length, compL_nil] at er
      rw [er] at h
      split at h
      · rename_i hP
        rw [if_pos hP] at er
        exact .inl ⟨jk.stop ρ2 F2 H2 s2.m x2 rl2.mem hP, fin acc s2 er ρ2 F2 H2 D us (x1.trans x2) rl2 la hDH nD2 hf2 hD2⟩
      · exact h.elim
/-- the list of a comprehension -/
def fLc (f : DS → R (List D)) : DS → R D := fun s => match f s with
  | .ok ds s1 => .ok (.lst ds) s1
  | _ => .bad
def fLcN (f : DS → R (List D)) : DS → R D := fun s => match f s with
  | .ok ds s1 => .ok (.obj s1.m.length) { s1 with m := s1.m ++ [.lst ds] }
  | _ => .bad
theorem lc_stl {wi : TI} {t : Tg} {vs : List Nat} {tt : TT} {te : TE} {fi : DS → R Wk} {ft : DS → R Bool} {fe : DS → R D} (hm : ∀ j ∈ t.mem, j ∈ vs) (li : StlI X W wi fi)
    (lt : ∀ ρ F s σ H Q, Rel X.K X.mg ρ F s σ H → Post X W0 (fun _ _ a b => b = a) ρ F H σ Q (ft s) → tt σ H Q) (le : ∀ ρ F s σ H Q, Rel X.K X.mg ρ F s σ H → Post X W0 (Rd X.K) ρ F H σ Q (fe s) → te σ H Q) :
    Stl X W (Rd X.K) (tLc wi (t.tg X.K) tt te vs) (fLc (fComp fi t vs ft fe)) := by
  intro ρ F s σ H Q rl h
  unfold fLc at h
  cases q : fComp fi t vs ft fe s with
  | bad => rw [q] at h; exact h.elim
  | ex e s1 => rw [q] at h; exact h.elim
  | ok ds s1 =>
    rw [q] at h
    refine comp_run hm li lt le rl (by rw [q]; exact fun _ _ _ _ _ _ _ => trivial) (by rw [q]; exact fun _ _ z => nomatch z) fun ds' s' e ρ' F' H' A us x rl' l hD nD fD hl => ?_
    rw [q] at e
    cases e
    exact h ρ' (upd F' A (.lst us)) H' _ (x.adopt hD fD) ⟨rl'.mem.adopt nD fD hl, rl'.slo.mono ⟨[], by simp⟩ (same_up fD)⟩ ⟨A, us, rfl, upd_same, RdL.mono ⟨[], by simp⟩ (same_up fD) _ _ l⟩
theorem lcN_stl {wi : TI} {t : Tg} {vs : List Nat} {tt : TT} {te : TE} {fi : DS → R Wk} {ft : DS → R Bool} {fe : DS → R D} (hm : ∀ j ∈ t.mem, j ∈ vs) (li : StlI X W wi fi)
    (lt : ∀ ρ F s σ H Q, Rel X.K X.mg ρ F s σ H → Post X W0 (fun _ _ a b => b = a) ρ F H σ Q (ft s) → tt σ H Q) (le : ∀ ρ F s σ H Q, Rel X.K X.mg ρ F s σ H → Post X W0 (Rd X.K) ρ F H σ Q (fe s) → te σ H Q) :
    Stl X W (Rd X.K) (tLc wi (t.tg X.K) tt te vs) (fLcN (fComp fi t vs ft fe)) := by
  intro ρ F s σ H Q rl h
  unfold fLcN at h
  cases q : fComp fi t vs ft fe s with
  | bad => rw [q] at h; exact h.elim
  | ex e s1 => rw [q] at h; exact h.elim
  | ok ds s1 =>
    rw [q] at h
    refine comp_run hm li lt le rl (by rw [q]; exact fun _ _ _ _ _ _ _ => trivial) (by rw [q]; exact fun _ _ z => nomatch z) fun ds' s' e ρ' F' H' A us x rl' l hD nD fD hl => ?_
    rw [q] at e
    cases e
    refine h (ρ' ++ [A]) F' H' _ (x.adoptN hD) ⟨rl'.mem.adoptN nD fD hl ⟨us, hl, RdL.mono ⟨[A], rfl⟩ (Same.refl _) _ _ l⟩, rl'.slo.mono ⟨[A], rfl⟩ (Same.refl _)⟩ ⟨A, rfl, ?_⟩
    rw [← rl'.mem.len, List.getElem?_append_right (Nat.le_refl _)]
    simp
/-- a comprehension's tests -/
def PDTs (X : Cx) (W : WX) (ifs : List Expr) (f : DS → R Bool) : Prop := ∃ t, PTs X ifs t ∧ Stl X W (fun _ _ a b => b = a) t f
def fYes : DS → R Bool := fun s => .ok true s
theorem pdts_nil : PDTs X W [] fYes := ⟨_, pts_nil, fun ρ F s σ H Q rl h => h ρ F H _ (Ext.refl ..) rl rfl⟩
theorem pdts_one {c : Expr} {f : DS → R Bool} (h : PDT X W c f) : PDTs X W [c] f := let ⟨t, e1, l⟩ := h; ⟨t, pts_one e1, l⟩
end
end DL

/-! Rules: defs, their calls; raise, try. -/
namespace DL
open PySem L2
open PyProof.Rows (envOfC)

/-! ### without objects; with objects below n alone -/
mutual
def clD (n : Nat) : D → Bool
  | .tup ds => clL n ds
  | .lst ds => clL n ds
  | .lsr ds => clL n ds
  | .obj k => decide (k < n)
  | .exc _ _ _ ds => clL n ds
  | _ => true
def clL (n : Nat) : List D → Bool
  | [] => true
  | d :: ds => clD n d && clL n ds
end
def clK {κ : Type} (n : Nat) : List (κ × D) → Bool
  | [] => true
  | (_, d) :: r => clD n d && clK n r
def clM (n : Nat) : MO → Bool
  | .lst ds => clL n ds
  | .dK kvs => clK n kvs
  | .dT kvs => clK n kvs
  | .ins _ fs => clK n fs
  | .gone => true
section
variable {K : PySem.W.Frag} {mg : Str → Option Value} {ρ : List Addr} {F H : Hp} {n : Nat}
mutual
theorem Rd.cut : ∀ (d : D) (v : V), clD n d = true → Rd K ρ F d v → Rd K (ρ.take n) F d v
  | .non, _, _, h => h
  | .bl _, _, _, h => h
  | .int _, _, _, h => h
  | .str _, _, _, h => h
  | .ref _, _, _, h => h
  | .ty _, _, _, h => h
  | .tup ds, _, c, h => by
    simp only [Rd, clD] at h c ⊢
    obtain ⟨a, vs, e, q, r⟩ := h
    exact ⟨a, vs, e, q, RdL.cutB ds vs c r⟩
  | .lst ds, _, c, h => by
    simp only [Rd, clD] at h c ⊢
    obtain ⟨a, vs, e, q, r⟩ := h
    exact ⟨a, vs, e, q, RdL.cutB ds vs c r⟩
  | .lsr ds, _, c, h => by
    simp only [Rd, clD] at h c ⊢
    obtain ⟨a, vs, e, q, r⟩ := h
    exact ⟨a, vs, e, q, RdL.cutB ds vs c r⟩
  | .obj k, _, c, h => by
    simp only [Rd, clD, decide_eq_true_eq] at h c ⊢
    obtain ⟨a, e, q⟩ := h
    exact ⟨a, e, by rw [List.getElem?_take_of_lt c]; exact q⟩
  | .exc _ _ ks ds, _, c, h => by
    simp only [Rd, clD] at h c ⊢
    obtain ⟨vs, e, q, l, r⟩ := h
    exact ⟨vs, e, q, l, RdL.cutB ds vs c r⟩
theorem RdL.cutB : ∀ (ds : List D) (vs : List V), clL n ds = true → RdL K ρ F ds vs → RdL K (ρ.take n) F ds vs
  | [], _, _, h => h
  | d :: ds, _, c, h => by
    simp only [RdL, clL, Bool.and_eq_true] at h c ⊢
    obtain ⟨v, r, e, h1, h2⟩ := h
    exact ⟨v, r, e, Rd.cut d v c.1 h1, RdL.cutB ds r c.2 h2⟩
end
theorem RdK.cut {κ : Type} : ∀ (ds : List (κ × D)) (vs : List (κ × V)), clK n ds = true → RdK K ρ F ds vs → RdK K (ρ.take n) F ds vs
  | [], _, _, h => h
  | (k, d) :: ds, _, c, h => by
    simp only [RdK, clK, Bool.and_eq_true] at h c ⊢
    obtain ⟨v, r, e, h1, h2⟩ := h
    exact ⟨v, r, e, Rd.cut d v c.1 h1, RdK.cut ds r c.2 h2⟩
theorem MRel.cut {μ : List MO} (h : MRel K mg ρ F μ H) (c : (μ.take n).all (clM n) = true) : MRel K mg (ρ.take n) F (μ.take n) H := by
  have up : ∀ {α : Type} {l : List α} {k : Nat} {x : α}, (l.take n)[k]? = some x → l[k]? = some x := fun {α l k x} e => by
    have hk : k < n := by
      have := (List.getElem?_eq_some_iff.mp e).1
      rw [List.length_take] at this
      omega
    rwa [List.getElem?_take_of_lt hk] at e
  refine ⟨h.sub, by simp [h.len], fun k a m e1 e2 al => ?_, fun j k a m n' e1 e2 e3 a1 e4 a2 => h.inj j k a m n' (up e1) (up e2) (up e3) a1 (up e4) a2, fun a ha => h.there a (List.mem_of_mem_take ha)⟩
  obtain ⟨f, q⟩ := h.own k a m (up e1) (up e2) al
  have cm := List.all_eq_true.mp c m (List.mem_of_getElem? e2)
  refine ⟨f, ?_⟩
  cases m with
  | lst ds => obtain ⟨vs, e, r⟩ := q; exact ⟨vs, e, RdL.cutB _ _ cm r⟩
  | dK ds => obtain ⟨vs, e, r⟩ := q; exact ⟨vs, e, RdK.cut _ _ cm r⟩
  | dT ds => obtain ⟨vs, e, r⟩ := q; exact ⟨vs, e, RdK.cut _ _ cm r⟩
  | ins C fs => obtain ⟨c', dx, vs, m1, e, r⟩ := q; exact ⟨c', dx, vs, m1, e, RdK.cut _ _ cm r⟩
  | gone => trivial
theorem Ext.cut {ρ' : List Addr} {F' H' : Hp} (x : Ext ρ F H ρ' F' H') : Ext ρ F H (ρ'.take ρ.length) F' H' := by
  obtain ⟨l, rfl⟩ := x.pre
  rw [List.take_left]
  exact ⟨⟨[], by simp⟩, x.fro, x.rest, fun a h => .inl h, x.newf⟩
end

/-! ### what a def promises -/
def PostF (K : PySem.W.Frag) (mg : Str → Option Value) (ρ : List Addr) (F H : Hp) (Q : VK) (E : XK) : R D → Prop
  | .bad => False
  | .ok d s' => ∀ ρ' F' H' v, Ext ρ F H ρ' F' H' → MRel K mg ρ' F' s'.m H' → Rd K ρ' F' d v → Q v H'
  | .ex e s' => ∀ ρ' F' H' cls dd, Ext ρ F H ρ' F' H' → MRel K mg ρ' F' s'.m H' → ExR K mg ρ' F' H' e cls dd → E cls dd H'
/-- what the def computes: of arguments and objects -/
abbrev GF := List D → List MO → R D
def spD (K : PySem.W.Frag) (mg : Str → Option Value) (n : Nat) (g : GF) : Sp := fun vs H Q E => ∃ ρ F μ args, args.length = n ∧ MRel K mg ρ F μ H ∧ RdL K ρ F args vs ∧ PostF K mg ρ F H Q E (g args μ)
/-- .. by its body; N: how many names -/
def runF (N : Nat) (fb : DS → R Fl) : GF := fun args μ => match fb ⟨args.map some ++ List.replicate (N - args.length) none, μ⟩ with
  | .ok .nx s => .ok .non ⟨[], s.m⟩
  | .ok (.rt d) s => .ok d ⟨[], s.m⟩
  | .ex e s => .ex e ⟨[], s.m⟩
  | _ => .bad
/-- the objects that the def made are let go -/
def cutF (g : GF) : GF := fun args μ => match g args μ with
  | .ok d s => if clD μ.length d = true ∧ (s.m.take μ.length).all (clM μ.length) = true then .ok d ⟨[], s.m.take μ.length⟩ else .bad
  | .ex e s => if clK μ.length e.fs = true ∧ (s.m.take μ.length).all (clM μ.length) = true then .ex e ⟨[], s.m.take μ.length⟩ else .bad
  | .bad => .bad
/-- a def without objects -/
abbrev GP := List D → R D
def pureF (g : GF) : GP := fun args => match g args [] with
  | .ok d _ => if clD 0 d = true then .ok d ⟨[], []⟩ else .bad
  | .ex e _ => if clK 0 e.fs = true then .ex e ⟨[], []⟩ else .bad
  | .bad => .bad
def PostP (K : PySem.W.Frag) (mg : Str → Option Value) (F H : Hp) (Q : VK) (E : XK) : R D → Prop
  | .bad => False
  | .ok d _ => ∀ F' H' v, Ext [] F H [] F' H' → Same F' H' → Rd K [] F' d v → Q v H'
  | .ex e _ => ∀ F' H' cls dd, Ext [] F H [] F' H' → Same F' H' → ExR K mg [] F' H' e cls dd → E cls dd H'
def spP (K : PySem.W.Frag) (mg : Str → Option Value) (n : Nat) (g : GP) : Sp := fun vs H Q E => ∃ F args, args.length = n ∧ Same F H ∧ RdL K [] F args vs ∧ PostP K mg F H Q E (g args)
section
variable {P : Program} {w : World} {K : PySem.W.Frag} {mg : Str → Option Value} {base : Heap} {k n : Nat} {f : Addr} {fd : FuncData} {ps : List Str}
theorem spD_len {g : GF} {vs : List V} {H : Hp} {Q : VK} {E : XK} (h : spD K mg n g vs H Q E) : vs.length = n := by
  obtain ⟨ρ, F, μ, args, hl, _, r, _⟩ := h
  rw [r.length, hl]
theorem spP_len {g : GP} {vs : List V} {H : Hp} {Q : VK} {E : XK} (h : spP K mg n g vs H Q E) : vs.length = n := by
  obtain ⟨F, args, hl, _, r, _⟩ := h
  rw [r.length, hl]
theorem start_rel {ρ : List Addr} {F : Hp} {args : List D} {vs : List V} {N : List Str} (r : RdL K ρ F args vs) : SRel K ρ F (args.map some ++ List.replicate (N.length - args.length) none) (L2.start N vs) := by
  unfold L2.start
  refine ⟨by simp [r.length], fun i d e => ?_⟩
  by_cases hi : i < args.length
  · rw [List.getElem?_append_left (by simpa using hi), List.getElem?_map] at e
    cases q : args[i]? with
    | none => rw [q] at e; cases e
    | some x =>
      rw [q] at e
      cases e
      obtain ⟨v, e1, r1⟩ := r.get q
      exact ⟨v, by rw [List.getElem?_append_left (by rw [List.length_map, r.length]; exact hi), List.getElem?_map, e1]; rfl, r1⟩
  · rw [List.getElem?_append_right (by simpa using hi), List.getElem?_replicate] at e
    split at e <;> cases e
/-- a def by its body -/
theorem fn_st {x qual : Str} {st : Stmt} {N : List Str} {fb : DS → R Fl} (F : Fun K x qual st f fd) (S : FnScope N ps (defScope st))
    (hb : ∀ (cdv : Value) (A : Around) (outer : List Env) (s : Shared) (H : Hp) (E : XK), Room k (A.deeper (envOfC qual (defScope st) s.heap.objs.size f cdv)) →
      PDss (cxOf (L2.CX P w) P w K mg base N qual (defScope st) f cdv A outer s H E) (fun cls d _ H' => E cls d H') (defBody st) fb) :
    FnOk P w K mg base (L2.CX P w) (k + 1) f fd ps (spD K mg ps.length (runF N.length fb)) := by
  refine F.okX S (fun vs H Q E h => spD_len h) (fun cdv A outer s H vs Q E hr h => ?_)
  obtain ⟨t, e1, l⟩ := hb cdv A outer s H E hr
  refine ⟨t, e1, ?_⟩
  obtain ⟨ρ, Fz, μ, args, hl, m, r, p⟩ := h
  refine l ρ Fz ⟨args.map some ++ List.replicate (N.length - args.length) none, μ⟩ (L2.start N vs) H _ ⟨m, start_rel r⟩ ?_
  unfold runF at p
  cases q : fb ⟨args.map some ++ List.replicate (N.length - args.length) none, μ⟩ with
  | bad => rw [q] at p; exact p
  | ex e s1 => rw [q] at p; exact fun ρ' F' H' σ' cls d x rl er => p ρ' F' H' cls d x rl.mem er
  | ok fl s1 =>
    rw [q] at p
    cases fl with
    | nx => exact fun ρ' F' H' σ' x rl => p ρ' F' H' .non x rl.mem rfl
    | rt d => exact fun ρ' F' H' v x m r => p ρ' F' H' v x m r
    | bk => exact p.elim
    | ct => exact p.elim
/-- what a def promises, told by an equal function -/
theorem fn_as {g g' : GF} (h : FnOk P w K mg base (L2.CX P w) k f fd ps (spD K mg n g)) (e : ∀ args μ, args.length = n → g' args μ ≠ .bad → g args μ = g' args μ) : FnOk P w K mg base (L2.CX P w) k f fd ps (spD K mg n g') := by
  refine h.imp fun vs H Q E q => ?_
  obtain ⟨ρ, F, μ, args, hl, m, r, p⟩ := q
  refine ⟨ρ, F, μ, args, hl, m, r, ?_⟩
  rw [e args μ hl fun z => by rw [z] at p; exact p]
  exact p
theorem fn_cut {g : GF} (h : FnOk P w K mg base (L2.CX P w) k f fd ps (spD K mg n g)) : FnOk P w K mg base (L2.CX P w) k f fd ps (spD K mg n (cutF g)) := by
  refine h.imp fun vs H Q E q => ?_
  obtain ⟨ρ, F, μ, args, hl, m, r, p⟩ := q
  refine ⟨ρ, F, μ, args, hl, m, r, ?_⟩
  unfold cutF at p
  cases q : g args μ with
  | bad => rw [q] at p; exact p
  | ok d s =>
    rw [q] at p
    simp only at p
    split at p
    · rename_i hc
      intro ρ' F' H' v x m' r'
      have e : ρ.length = μ.length := m.len
      refine p (ρ'.take ρ.length) F' H' v x.cut ?_ ?_
      · rw [e]; exact m'.cut hc.2
      · rw [e]; exact r'.cut _ _ hc.1
    · exact p.elim
  | ex d s =>
    rw [q] at p
    simp only at p
    split at p
    · rename_i hc
      intro ρ' F' H' cls dd x m' r'
      have e : ρ.length = μ.length := m.len
      refine p (ρ'.take ρ.length) F' H' cls dd x.cut ?_ ?_
      · rw [e]; exact m'.cut hc.2
      · obtain ⟨c, h1, h2, h3, h4⟩ := r'
        refine ⟨c, h1, h2, h3, fun hn => ?_⟩
        obtain ⟨a, vs', k1, k2, k3⟩ := h4 hn
        exact ⟨a, vs', k1, k2, by rw [e]; exact k3.cut _ _ hc.1⟩
    · exact p.elim
theorem fn_pure {g : GF} (h : FnOk P w K mg base (L2.CX P w) k f fd ps (spD K mg n g)) : FnOk P w K mg base (L2.CX P w) k f fd ps (spP K mg n (pureF g)) := by
  refine h.imp fun vs H Q E q => ?_
  obtain ⟨F, args, hl, sm, r, p⟩ := q
  refine ⟨[], F, [], args, hl, ⟨sm, rfl, fun k a m e _ _ => by simp at e, fun j k a m n e _ _ _ _ _ => by simp at e, fun a ha => by simp at ha⟩, r, ?_⟩
  unfold pureF at p
  have ex : ∀ {ρ' : List Addr} {F' H' : Hp}, Ext [] F H ρ' F' H' → Ext [] F H [] F' H' := fun x => ⟨⟨[], rfl⟩, x.fro, x.rest, fun a ha => by simp at ha, x.newf⟩
  cases q : g args [] with
  | bad => rw [q] at p; exact p
  | ok d s =>
    rw [q] at p
    simp only at p
    split at p
    · rename_i hc
      intro ρ' F' H' v x m' r'
      have r2 := r'.cut (n := 0) _ _ hc
      rw [List.take_zero] at r2
      exact p F' H' v (ex x) m'.sub r2
    · exact p.elim
  | ex d s =>
    rw [q] at p
    simp only at p
    split at p
    · rename_i hc
      intro ρ' F' H' cls dd x m' r'
      refine p F' H' cls dd (ex x) m'.sub ?_
      obtain ⟨c, h1, h2, h3, h4⟩ := r'
      refine ⟨c, h1, h2, h3, fun hn => ?_⟩
      obtain ⟨a, vs', k1, k2, k3⟩ := h4 hn
      have r2 := k3.cut (n := 0) _ _ hc
      rw [List.take_zero] at r2
      exact ⟨a, vs', k1, k2, r2⟩
    · exact p.elim
theorem fn_asP {g g' : GP} (h : FnOk P w K mg base (L2.CX P w) k f fd ps (spP K mg n g)) (e : ∀ args, args.length = n → g' args ≠ .bad → g args = g' args) : FnOk P w K mg base (L2.CX P w) k f fd ps (spP K mg n g') := by
  refine h.imp fun vs H Q E q => ?_
  obtain ⟨F, args, hl, m, r, p⟩ := q
  refine ⟨F, args, hl, m, r, ?_⟩
  rw [e args hl fun z => by rw [z] at p; exact p]
  exact p
end

/-! ### calls -/
section
variable {X : Cx} {W : WX} {k n : Nat} {f : Addr} {fd : FuncData} {ps : List Str} {x : Str} {p pos : Pos} {e : Expr} {es : List Expr} {fa : DS → R (List D)} {dvs : List V} {ds : List Value}
def fCallS (n : Nat) (fa : DS → R (List D)) (dds : List D) (g : GF) : DS → R D := fun s => (fa s).bind fun args s1 => if (args ++ dds).length = n then (match g (args ++ dds) s1.m with
  | .ok d s2 => .ok d ⟨s1.g, s2.m⟩
  | .ex e s2 => .ex e ⟨s1.g, s2.m⟩
  | .bad => .bad) else .bad
def fCallP (n : Nat) (fa : DS → R (List D)) (dds : List D) (g : GP) : DS → R D := fun s => (fa s).bind fun args s1 => if (args ++ dds).length = n ∧ clL 0 (args ++ dds) = true then (match g (args ++ dds) with
  | .ok d _ => .ok d s1
  | .ex e _ => .ex e s1
  | .bad => .bad) else .bad
theorem spD_post {g : GF} {ρ : List Addr} {F H : Hp} {s : DS} {σ : St} {Q : VK} {args : List D} {vs : List V} (rl : Rel X.K X.mg ρ F s σ H) (r : RdL X.K ρ F args vs) (hl : args.length = n)
    (h : Post X W (Rd X.K) ρ F H σ Q (match g args s.m with
      | .ok d s2 => .ok d ⟨s.g, s2.m⟩
      | .ex e s2 => .ex e ⟨s.g, s2.m⟩
      | .bad => .bad)) : spD X.K X.mg n g vs H Q (WE W σ) := by
  refine ⟨ρ, F, s.m, args, hl, rl.mem, r, ?_⟩
  cases q : g args s.m with
  | bad => rw [q] at h; exact h
  | ok d s2 => rw [q] at h; exact fun ρ' F' H' v x m r => h ρ' F' H' v x ⟨m, rl.slo.ext x⟩ r
  | ex d s2 => rw [q] at h; exact fun ρ' F' H' cls dd x m r => h ρ' F' H' cls dd x ⟨m, rl.slo.ext x⟩ r
theorem spP_post {g : GP} {ρ : List Addr} {F H : Hp} {s : DS} {σ : St} {Q : VK} {args : List D} {vs : List V} (rl : Rel X.K X.mg ρ F s σ H) (r : RdL X.K ρ F args vs) (hl : args.length = n) (hc : clL 0 args = true)
    (h : Post X W (Rd X.K) ρ F H σ Q (match g args with
      | .ok d _ => .ok d s
      | .ex e _ => .ex e s
      | .bad => .bad)) : spP X.K X.mg n g vs H Q (WE W σ) := by
  have r0 := RdL.cutB (n := 0) _ _ hc r
  rw [List.take_zero] at r0
  refine ⟨F, args, hl, rl.mem.sub, r0, ?_⟩
  have up : ∀ {F' H' : Hp}, Ext [] F H [] F' H' → Same F' H' → Ext ρ F H ρ F' H' ∧ MRel X.K X.mg ρ F' s.m H' := fun {F' H'} x sm => by
    have e1 : Ext ρ F H ρ F' H' := ⟨⟨[], by simp⟩, x.fro, fun a o h _ => x.rest a o h (by simp), fun a h => .inl h, fun a h => by
      rcases x.newf a h with z | z | z
      · exact .inl z
      · simp at z
      · exact .inr (.inr z)⟩
    refine ⟨e1, ⟨sm, rl.mem.len, fun k a m h1 h2 al => ?_, rl.mem.inj, fun a ha => ?_⟩⟩
    · obtain ⟨f0, q⟩ := rl.mem.own k a m h1 h2 al
      obtain ⟨o, ho⟩ := q.al_some al
      have ho' : H' a = H a := by rw [ho]; exact x.rest a o ho (by simp)
      refine ⟨?_, q.mono ⟨[], by simp⟩ x.fro ho'⟩
      cases z : F' a with
      | none => rfl
      | some u =>
        rcases x.newf a (by rw [z]; exact fun w => nomatch w) with w | w | w
        · exact absurd f0 w
        · simp at w
        · rw [ho] at w; cases w
    · have z := rl.mem.there a ha
      cases q : H a with
      | none => exact absurd q z
      | some o => rw [x.rest a o q (by simp)]; exact fun w => nomatch w
  have rup : ∀ {F' : Hp} {d : D} {v : V}, Rd X.K [] F' d v → Rd X.K ρ F' d v := fun {F' d v} r => Rd.mono ⟨ρ, by simp⟩ (Same.refl _) _ _ r
  cases q : g args with
  | bad => rw [q] at h; exact h
  | ok d s2 =>
    rw [q] at h
    exact fun F' H' v x sm r => h ρ F' H' v (up x sm).1 ⟨(up x sm).2, rl.slo.ext (up x sm).1⟩ (rup r)
  | ex d s2 =>
    rw [q] at h
    intro F' H' cls dd x sm r
    refine h ρ F' H' cls dd (up x sm).1 ⟨(up x sm).2, rl.slo.ext (up x sm).1⟩ ?_
    obtain ⟨c, h1, h2, h3, h4⟩ := r
    refine ⟨c, h1, h2, h3, fun hn => ?_⟩
    obtain ⟨a, vs', k1, k2, k3⟩ := h4 hn
    exact ⟨a, vs', k1, k2, RdK.mono ⟨ρ, by simp⟩ (Same.refl _) _ _ k3⟩
/-- what a call needs of a def, once -/
structure CallOk (X : Cx) (x : Str) (f : Addr) : Prop where
  hm : X.mg x = some (.ref f)
  hk : PySem.W.keepIn X.K (.ref f) = true
theorem pd_callS {g : GF} {dds : List D} (F : FnOk X.prog X.w X.K X.mg X.base (L2.CX X.prog X.w) k f fd ps (spD X.K X.mg n g)) (hr : Room k X.A) (hm : X.mg x = some (.ref f)) (hk : PySem.W.keepIn X.K (.ref f) = true) (hb : Binds X.K fd ps ds) (hd : Vals dvs ds)
    (rd : ∀ ρ F, RdL X.K ρ F dds dvs) (tk : Takes X W) (ha : PDA X W (e :: es) fa) (hg : Gl X x := by rfl) (hdb : (x == ("__debug__" : Str)) = false := by decide) (he : starEach (e :: es) X.env = (false, eval e X.env) :: starEach es X.env := by rfl)
    (hpl : (backTo pos (starEach es X.env)).any (·.1) = false := by rfl) : PD X W (.Call (.Name x p) (e :: es) [] pos) (fCallS n fa dds g) := by
  obtain ⟨ta, ea, la⟩ := ha
  refine ⟨_, pe_callSD F hr hg hm hk hb hd (fun σ => passAt tk σ) ea hdb he hpl, fun ρ F s σ H Q rl h => la ρ F s σ H _ rl (Post.bind h fun args s1 ρ1 F1 H1 vs x1 rl1 rd1 h1 => ?_)⟩
  split at h1
  · rename_i hc
    exact spD_post rl1 (rd1.append (rd ρ1 F1)) hc h1
  · exact h1.elim
theorem pd_callP {g : GP} {dds : List D} (F : FnOk X.prog X.w X.K X.mg X.base (L2.CX X.prog X.w) k f fd ps (spP X.K X.mg n g)) (hr : Room k X.A) (hm : X.mg x = some (.ref f)) (hk : PySem.W.keepIn X.K (.ref f) = true) (hb : Binds X.K fd ps ds) (hd : Vals dvs ds)
    (rd : ∀ ρ F, RdL X.K ρ F dds dvs) (tk : Takes X W) (ha : PDA X W (e :: es) fa) (hg : Gl X x := by rfl) (hdb : (x == ("__debug__" : Str)) = false := by decide) (he : starEach (e :: es) X.env = (false, eval e X.env) :: starEach es X.env := by rfl)
    (hpl : (backTo pos (starEach es X.env)).any (·.1) = false := by rfl) : PD X W (.Call (.Name x p) (e :: es) [] pos) (fCallP n fa dds g) := by
  obtain ⟨ta, ea, la⟩ := ha
  refine ⟨_, pe_callSD F hr hg hm hk hb hd (fun σ => passAt tk σ) ea hdb he hpl, fun ρ F s σ H Q rl h => la ρ F s σ H _ rl (Post.bind h fun args s1 ρ1 F1 H1 vs x1 rl1 rd1 h1 => ?_)⟩
  split at h1
  · rename_i hc
    exact spP_post rl1 (rd1.append (rd ρ1 F1)) hc.1 hc.2 h1
  · exact h1.elim

theorem pe_callSD0 {sp : Sp} {E : St → XK} {CX : CXT} (F : FnOk X.prog X.w X.K X.mg X.base CX k f fd ps sp) (hr : Room k X.A) (hg : Gl X x) (hm : X.mg x = some (.ref f)) (hk : PySem.W.keepIn X.K (.ref f) = true) (hb : Binds X.K fd ps ds) (hd : Vals dvs ds) (hx : ∀ σ, PassesAt CX X σ (E σ))
    (hdb : (x == ("__debug__" : Str)) = false := by decide) : PE X (.Call (.Name x p) [] [] pos) (tCallSD sp dvs E tNil) := by
  refine ⟨fun pins s σ H Q I h => ?_⟩
  refine wpAny_Call_Name_kw (ld_glob I hg hm ?_ hdb)
  exact PySem.W.callWith_K0 I.kIn hk (run_fnSD (us := []) F hr hb hd (hx σ) I .nil h)
theorem pd_callS0 {g : GF} {dds : List D} (F : FnOk X.prog X.w X.K X.mg X.base (L2.CX X.prog X.w) k f fd ps (spD X.K X.mg n g)) (hr : Room k X.A) (hm : X.mg x = some (.ref f)) (hk : PySem.W.keepIn X.K (.ref f) = true) (hb : Binds X.K fd ps ds) (hd : Vals dvs ds)
    (rd : ∀ ρ F, RdL X.K ρ F dds dvs) (tk : Takes X W) (hg : Gl X x := by rfl) (hdb : (x == ("__debug__" : Str)) = false := by decide) : PD X W (.Call (.Name x p) [] [] pos) (fCallS n fNil dds g) := by
  refine ⟨_, pe_callSD0 F hr hg hm hk hb hd (fun σ => passAt tk σ) hdb, fun ρ F s σ H Q rl h => ?_⟩
  have h1 : Post X W (Rd X.K) ρ F H σ Q (if (dds.length = n) then (match g dds s.m with
      | .ok d s2 => .ok d ⟨s.g, s2.m⟩
      | .ex e s2 => .ex e ⟨s.g, s2.m⟩
      | .bad => .bad) else .bad) := h
  split at h1
  · rename_i hc
    exact spD_post rl (rd ρ F) hc h1
  · exact h1.elim
theorem pd_callP0 {g : GP} {dds : List D} (F : FnOk X.prog X.w X.K X.mg X.base (L2.CX X.prog X.w) k f fd ps (spP X.K X.mg n g)) (hr : Room k X.A) (hm : X.mg x = some (.ref f)) (hk : PySem.W.keepIn X.K (.ref f) = true) (hb : Binds X.K fd ps ds) (hd : Vals dvs ds)
    (rd : ∀ ρ F, RdL X.K ρ F dds dvs) (tk : Takes X W) (hg : Gl X x := by rfl) (hdb : (x == ("__debug__" : Str)) = false := by decide) : PD X W (.Call (.Name x p) [] [] pos) (fCallP n fNil dds g) := by
  refine ⟨_, pe_callSD0 F hr hg hm hk hb hd (fun σ => passAt tk σ) hdb, fun ρ F s σ H Q rl h => ?_⟩
  have h1 : Post X W (Rd X.K) ρ F H σ Q (if (dds.length = n) ∧ clL 0 dds = true then (match g dds with
      | .ok d _ => .ok d s
      | .ex e _ => .ex e s
      | .bad => .bad) else .bad) := h
  split at h1
  · rename_i hc
    exact spP_post rl (rd ρ F) hc.1 hc.2 h1
  · exact h1.elim

/-! ### raise, try -/
def fRaise (c : Str) : DS → R Fl := fun s => .ex ⟨c, []⟩ s
/-- what the text says of an own class of exceptions -/
structure ExcT (K : PySem.W.Frag) (mg : Str → Option Value) (c : Str) (C : Addr) (B newId initId : String) (bmB : List Value) : Prop where
  gC : mg c = some (.ref C)
  fa : ExcBaseFacts B newId initId bmB
  ex : PySem.W.excIn K C bmB newId = true
  kC : PySem.W.keepIn K (.ref C) = true
  sC : PySem.W.subIn K (.ref C) (.type "BaseException") = some true
  tC : PySem.W.typeIn K (.ref C) = some (.type "type")
theorem pds_raise {c m : Str} {C : Addr} {B newId initId : String} {bmB : List Value} {j : Nat} {p p2 pos pos2 : Pos} (T : ExcT X.K X.mg c C B newId initId bmB) (hc : X.calm = true) (tk : Takes X W) (hg : Gl X c := by rfl) (hdb : (c == ("__debug__" : Str)) = false := by decide) :
    PDs X W (.Raise (some (.Call (.Name c p) [.Constant (.str m) j p2] [] pos)) none pos2) (fRaise c) := by
  refine ⟨_, ps_raise hc tk (pmk_own T.fa T.ex T.gC T.kC (raises_own T.sC T.tC) hg hdb), fun ρ F s σ H E rl h => ?_⟩
  exact h ρ F H σ (.ref C) none (Ext.refl ..) rl ⟨C, T.gC, rfl, fun _ => rfl, fun z => absurd rfl z⟩
/-- try: .. except C as n: suite -/
def fTryAs (fb : DS → R Fl) (ctch : Ex → Option Bool) (i : Nat) (fs : Addr → Ex → DS → R Fl) : DS → R Fl := fun s => match fb s with
  | .ex e s1 => match ctch e with
    | some true => (match fs 0 e { s1 with g := s1.g.set i (some (.ref 0)) } with
      | .ok fl s2 => .ok fl { s2 with g := s2.g.set i none }
      | _ => .bad)
    | some false => .ex e s1
    | none => .bad
  | r => r
/-- what is known of the exception that a suite holds -/
structure Held (X : Cx) (e : Ex) (cls : Value) (d : Option Addr) (a : Addr) (oe : Obj) : Prop where
  z : Zc cls d oe
  f : ∃ vs, oe.data = .fields vs
  c : ∃ C, X.mg e.cls = some (.ref C) ∧ cls = .ref C
  n : e.fs = [] → d = none
theorem SRel.unset {K : PySem.W.Frag} {ρ : List Addr} {F : Hp} {g : List (Option D)} {σ : St} (h : SRel K ρ F g σ) (i : Nat) : SRel K ρ F (g.set i none) (σ.set i none) := by
  refine ⟨by simp [h.len], fun j x e => ?_⟩
  by_cases hj : j = i
  · subst hj
    have hl : j < g.length := by
      have := (List.getElem?_eq_some_iff.mp e).1
      simpa using this
    rw [List.getElem?_set_self hl] at e
    cases e
  · rw [List.getElem?_set_ne (Ne.symm hj)] at e
    obtain ⟨u, e1, r1⟩ := h.at_ j x e
    exact ⟨u, by rw [List.getElem?_set_ne (Ne.symm hj)]; exact e1, r1⟩
theorem pds_try_as {xn n : Str} {c : Value} {i : Nat} {body suite : List Stmt} {b₀ : Stmt} {np pos pos' : Pos} {fb : DS → R Fl} {ctch : Ex → Option Bool} {fs : Addr → Ex → DS → R Fl}
    (hs : X.stack = X.env :: X.outer) (hf : X.env.frame = some X.env.locals) (hN : X.N.Nodup) (hi : X.N[i]? = some n) (hln : X.env.kindOf n = some .local) (hc : Names X xn c) (tk : Takes X W)
    (hct : ∀ (e : Ex) b C, ctch e = some b → X.mg e.cls = some (.ref C) → PySem.W.exmOne X.K (.ref C) c = some b)
    (hb : ∀ (W' : WX) (pn : List (Addr × Obj)) (xe : Value → Shared → Prop), Takes (X.tr pn xe) W' → PassesOwn (model X.prog X.w) X.A X.env xe → PDss (X.tr pn xe) W' body fb)
    (hsu : ∀ (a : Addr) (oe : Obj) (cls : Value) (d : Option Addr) (pn : List (Addr × Obj)) (e : Ex), Held X e cls d a oe → ctch e = some true → PDss (X.suite a ((a, oe) :: pn)) W0 (b₀ :: suite) (fs a e))
    (hin : ∀ (a : Addr) (e : Ex) (s : DS), (fs a e { s with g := s.g.set i (some (.ref a)) }).bind (fun fl s2 => R.ok fl { s2 with g := s2.g.set i none }) = (fs 0 e { s with g := s.g.set i (some (.ref 0)) }).bind (fun fl s2 => R.ok fl { s2 with g := s2.g.set i none })) :
    PDs X W (.Try body [.ExceptHandler (some (.Name xn np)) (some n) (b₀ :: suite) pos'] [] [] pos) (fTryAs fb ctch i fs) := by
  let tsO : Addr → Value → Option Addr → Ex → Obj → List (Addr × Obj) → TS := fun a cls d e oe pn => fun D σ H => ∀ (h : Held X e cls d a oe) (h' : ctch e = some true), (Classical.choose (hsu a oe cls d pn e h h')) D σ H
  let ts : Addr → Value → Option Addr → TS := fun a cls d => fun D σ H => ∃ e : Ex, (∃ C, X.mg e.cls = some (.ref C) ∧ cls = .ref C) ∧ (e.fs = [] → d = none) ∧ ctch e = some true ∧ ∀ oe pn, tsO a cls d e oe pn D σ H
  -- the body's readings, one for each wish
  let tb : WX → TS := fun W' => fun D σ H => ∀ pn xe (h1 : Takes (X.tr pn xe) W') (h2 : PassesOwn (model X.prog X.w) X.A X.env xe), (Classical.choose (hb W' pn xe h1 h2)) D σ H
  refine ⟨_, ps_try_as (tb := tb) (ts := ts) hs hf hN hi hln hc tk (fun W' pn xe h1 h2 => ⟨fun pins s σ H D I h => (Classical.choose_spec (hb W' pn xe h1 h2)).1.run pins s σ H D I (h pn xe h1 h2)⟩)
    (fun a oe cls d pn hz hf' => ⟨fun pins s σ H D I ⟨e, hc', hn, hq, h⟩ => (Classical.choose_spec (hsu a oe cls d pn e ⟨hz, hf', hc', hn⟩ hq)).1.run pins s σ H D I (h oe pn ⟨hz, hf', hc', hn⟩ hq)⟩), fun ρ F s σ H E rl h => ?_⟩
  intro pn xe h1 h2
  refine (Classical.choose_spec (hb _ pn xe h1 h2)).2 ρ F s σ H E rl ?_
  unfold fTryAs at h
  cases q : fb s with
  | bad => rw [q] at h; exact h
  | ok fl s1 => rw [q] at h; cases fl <;> exact h
  | ex e s1 =>
    rw [q] at h
    simp only at h
    intro ρ1 F1 H1 σ1 cls d x1 rl1 er
    obtain ⟨C, hC, rfl, hn1, hn2⟩ := er
    cases qc : ctch e with
    | none => rw [qc] at h; exact h.elim
    | some b =>
      rw [qc] at h
      refine ⟨b, hct _ b C qc hC, fun hb' a ha => ?_, fun hb' => ?_⟩
      · subst hb'
        simp only at h
        refine ⟨e, ⟨C, hC, rfl⟩, hn1, qc, fun oe pn hh hq => ?_⟩
        refine (Classical.choose_spec (hsu a oe (.ref C) d pn e hh hq)).2 ρ1 F1 { s1 with g := s1.g.set i (some (.ref a)) } _ H1 _ ⟨rl1.mem, rl1.slo.set i rfl⟩ ?_
        have hin' := hin a e s1
        cases q0 : fs 0 e { s1 with g := s1.g.set i (some (.ref 0)) } with
        | bad => rw [q0] at h; exact h.elim
        | ex _ _ => rw [q0] at h; exact h.elim
        | ok fl0 s0 =>
          rw [q0] at h hin'
          cases qa : fs a e { s1 with g := s1.g.set i (some (.ref a)) } with
          | bad => rw [qa] at hin'; cases hin'
          | ex _ _ => rw [qa] at hin'; cases hin'
          | ok fla sa =>
            rw [qa] at hin'
            have hin2 : R.ok fla { sa with g := sa.g.set i none } = R.ok fl0 { s0 with g := s0.g.set i none } := hin'
            injection hin2 with e1 e2
            subst e1
            have h3 : PostS X W ρ1 F1 H1 E (.ok fla { sa with g := sa.g.set i none }) := by
              rw [e2]
              exact PostS.ext h x1
            cases fla with
            | nx => exact fun ρ2 F2 H2 σ2 x2 rl2 => h3 ρ2 F2 H2 _ x2 ⟨rl2.mem, rl2.slo.unset i⟩
            | bk => exact fun ρ2 F2 H2 σ2 x2 rl2 => h3 ρ2 F2 H2 _ x2 ⟨rl2.mem, rl2.slo.unset i⟩
            | ct => exact fun ρ2 F2 H2 σ2 x2 rl2 => h3 ρ2 F2 H2 _ x2 ⟨rl2.mem, rl2.slo.unset i⟩
            | rt dd => exact fun ρ2 F2 H2 v x2 m2 r2 => h3 ρ2 F2 H2 v x2 m2 r2
      · subst hb'
        exact h ρ1 F1 H1 σ1 (.ref C) d x1 rl1 ⟨C, hC, rfl, hn1, hn2⟩
/-- isinstance(e, C), e the exception that the suite holds -/
def fIsE (a : Addr) (i : Nat) (ob : Option Bool) : DS → R D := fun s => match s.g[i]?, ob with
  | some (some (.ref x)), some b => if x = a then .ok (.bl b) s else .bad
  | _, _ => .bad
theorem pd_isE {a C0 : Addr} {oe : Obj} {pn : List (Addr × Obj)} {i : Nat} {ob : Option Bool} {en cn : Expr} {cV : V} {cv : Value} {p pos : Pos} (C : ExcC X.K C0) (hz : Zc (.ref C0) none oe) (hf : ∃ vs, oe.data = .fields vs)
    (he : PE (X.suite a ((a, oe) :: pn)) en (tVar i)) (hcl : PE (X.suite a ((a, oe) :: pn)) cn (tC cV)) (hcv : ∀ u, RelV cV u → u = cv) (hk : ∀ b, ob = some b → PySem.W.kitOne X.K (.ref C0) cv = some b) (hm : X.mg "isinstance" = none)
    (hv : bootBuiltins "isinstance" = some (.builtin "isinstance")) (hg : Gl (X.suite a ((a, oe) :: pn)) "isinstance" := by rfl)
    (hst : starEach [en, cn] X.env = [(false, eval en X.env), (false, eval cn X.env)] := by rfl) (hs2 : starEach [cn] X.env = [(false, eval cn X.env)] := by rfl) :
    PD (X.suite a ((a, oe) :: pn)) W (.Call (.Name "isinstance" p) [en, cn] [] pos) (fIsE a i ob) := by
  refine ⟨_, pe_callB (call_isE C hz hf) hg hm hv (pa_cons he (pa_cons hcl pa_nil (by show starEach [cn] X.env = _; rw [hs2]; rfl)) (by show starEach [en, cn] X.env = _ :: starEach [cn] X.env; rw [hst, hs2])) (he := by show starEach [en, cn] X.env = _ :: starEach [cn] X.env; rw [hst, hs2]) (hpl := by show (backTo pos (starEach [cn] X.env)).any (·.1) = false; rw [hs2]; rfl), fun ρ F s σ H Q rl h => ?_⟩
  unfold fIsE at h
  split at h
  · rename_i x b e
    split at h
    · rename_i hx
      subst hx
      obtain ⟨v, e1, r⟩ := rl.slo.at_ i _ e
      have r' : v = .ref x := r
      subst r'
      exact ⟨.ref x, e1, ⟨cV, cv, b, rfl, hcv, hk b rfl, h ρ F H _ (Ext.refl ..) rl rfl⟩⟩
    · exact h.elim
  · exact h.elim
end
section
variable {X : Cx} {W : WX} {pos : Pos}
/-- a comprehension as a value: a list that changes no more -/
theorem pd_lc {elt tg iter : Expr} {ifs : List Expr} {scope : Scope} {own : List (Str × Nat)} {t : Tg} {fi : DS → R Wk} {ft : DS → R Bool} {fe : DS → R D} (hc : X.calm = true) (hN : X.N.Nodup) (hi : PDI X W tg iter fi) (ok : BlkOk X.N X.env.scope scope own)
    (hg : ∀ (s : Shared) (H : Hp) (C : Addr) (cl : List (Str × Addr)) (fp : List Addr), PDG (X.blk s H scope (compEnvC scope cl C X.env) fp) tg t) (ht : ∀ (s : Shared) (H : Hp) (C : Addr) (cl : List (Str × Addr)) (fp : List Addr), PDTs (X.blk s H scope (compEnvC scope cl C X.env) fp) W0 ifs ft)
    (he : ∀ (s : Shared) (H : Hp) (C : Addr) (cl : List (Str × Addr)) (fp : List Addr), PD (X.blk s H scope (compEnvC scope cl C X.env) fp) W0 elt fe) (hm : ∀ j ∈ t.mem, j ∈ own.map (·.2)) (hs : ∀ x, foldedSetIterable iter X.env x = pure x := by intro _; rfl) :
    PD X W (.ListComp elt [⟨tg, iter, ifs, 0⟩] scope pos) (fLc (fComp fi t (own.map (·.2)) ft fe)) := by
  obtain ⟨wi, e1, li⟩ := hi
  let tt : TT := fun σ H Q => ∀ s H0 C cl fp, (Classical.choose (ht s H0 C cl fp)) σ H Q
  let te : TE := fun σ H Q => ∀ s H0 C cl fp, (Classical.choose (he s H0 C cl fp)) σ H Q
  refine ⟨_, pe_lc (g := t.tg X.K) (tt := tt) (te := te) hc hN e1 ok hg (fun s H0 C cl fp => ⟨fun pins s' σ H Q I h => (Classical.choose_spec (ht s H0 C cl fp)).1.run pins s' σ H Q I (h s H0 C cl fp)⟩)
    (fun s H0 C cl fp => ⟨fun pins s' σ H Q I h => (Classical.choose_spec (he s H0 C cl fp)).1.run pins s' σ H Q I (h s H0 C cl fp)⟩) hs, ?_⟩
  exact lc_stl hm li (fun ρ F s σ H Q rl h s0 H0 C cl fp => (Classical.choose_spec (ht s0 H0 C cl fp)).2 ρ F s σ H Q rl h) fun ρ F s σ H Q rl h s0 H0 C cl fp => (Classical.choose_spec (he s0 H0 C cl fp)).2 ρ F s σ H Q rl h
/-- name = [..], a local's name: a list that changes no more -/
theorem pds_setLc {i : Nat} {y : Str} {py spos : Pos} {elt tg iter : Expr} {ifs : List Expr} {scope : Scope} {own : List (Str × Nat)} {t : Tg} {fi : DS → R Wk} {ft : DS → R Bool} {fe : DS → R D} (hc : X.calm = true) (hN : X.N.Nodup) (hy : X.N[i]? = some y) (hyl : X.env.scope.names.lookup y = some .local)
    (hsw : swapsWith (.ListComp elt [⟨tg, iter, ifs, 0⟩] scope pos) (some (.Name y py)) spos.line X.env = pure true) (hi : PDI X W tg iter fi) (ok : BlkOk X.N X.env.scope scope own)
    (hg : ∀ (s : Shared) (H : Hp) (C : Addr) (cl : List (Str × Addr)) (fp : List Addr), PDG (X.blk s H scope (compEnvC scope cl C X.env) fp) tg t) (ht : ∀ (s : Shared) (H : Hp) (C : Addr) (cl : List (Str × Addr)) (fp : List Addr), PDTs (X.blk s H scope (compEnvC scope cl C X.env) fp) W0 ifs ft)
    (he : ∀ (s : Shared) (H : Hp) (C : Addr) (cl : List (Str × Addr)) (fp : List Addr), PD (X.blk s H scope (compEnvC scope cl C X.env) fp) W0 elt fe) (hm : ∀ j ∈ t.mem, j ∈ own.map (·.2)) (hs : ∀ x, foldedSetIterable iter X.env x = pure x := by intro _; rfl) :
    PDs X W (.Assign [.Name y py] (.ListComp elt [⟨tg, iter, ifs, 0⟩] scope pos) spos) (fAsg (fLc (fComp fi t (own.map (·.2)) ft fe)) (.one i)) := by
  obtain ⟨wi, e1, li⟩ := hi
  let tt : TT := fun σ H Q => ∀ s H0 C cl fp, (Classical.choose (ht s H0 C cl fp)) σ H Q
  let te : TE := fun σ H Q => ∀ s H0 C cl fp, (Classical.choose (he s H0 C cl fp)) σ H Q
  refine ⟨_, ps_setLc (g := t.tg X.K) (tt := tt) (te := te) hc hN hy hyl hsw e1 ok hg (fun s H0 C cl fp => ⟨fun pins s' σ H Q I h => (Classical.choose_spec (ht s H0 C cl fp)).1.run pins s' σ H Q I (h s H0 C cl fp)⟩)
    (fun s H0 C cl fp => ⟨fun pins s' σ H Q I h => (Classical.choose_spec (he s H0 C cl fp)).1.run pins s' σ H Q I (h s H0 C cl fp)⟩) hs, ?_⟩
  exact asg_run (t := .one i) (lc_stl hm li (fun ρ F s σ H Q rl h s0 H0 C cl fp => (Classical.choose_spec (ht s0 H0 C cl fp)).2 ρ F s σ H Q rl h) fun ρ F s σ H Q rl h s0 H0 C cl fp => (Classical.choose_spec (he s0 H0 C cl fp)).2 ρ F s σ H Q rl h)
end

/-! ### the law -/
def spLaw (K : PySem.W.Frag) : Sp := fun vs H Q _ => ∃ (a : Addr) (ns : List Int), vs = [.ref a] ∧ SqL K H a (ns.map V.int) ∧ ns.length ≤ 63 ∧ ∀ H', Q (.bl true) H'
theorem rdl_ints {K : PySem.W.Frag} {ρ : List Addr} {F : Hp} : ∀ ns : List Int, RdL K ρ F (ns.map D.int) (ns.map V.int)
  | [] => rfl
  | n :: ns => ⟨_, _, rfl, rfl, rdl_ints ns⟩
theorem fn_law {P : Program} {w : World} {K : PySem.W.Frag} {mg : Str → Option Value} {base : Heap} {k : Nat} {f : Addr} {fd : FuncData} {ps : List Str} {g : GF} (h : FnOk P w K mg base (L2.CX P w) k f fd ps (spD K mg 1 g))
    (e : ∀ ns : List Int, ns.length ≤ 63 → ∃ s, g [.lsr (ns.map D.int)] [] = .ok (.bl true) s) : FnOk P w K mg base (L2.CX P w) k f fd ps (spLaw K) := by
  refine h.imp fun vs H Q E q => ?_
  obtain ⟨a, ns, rfl, hs, hl, k⟩ := q
  refine ⟨[], H, [], [.lsr (ns.map D.int)], rfl, ⟨Same.refl H, rfl, fun k a m e _ _ => by simp at e, fun j k a m n e _ _ _ _ _ => by simp at e, fun a ha => by simp at ha⟩, ⟨.ref a, [], rfl, ⟨a, _, rfl, hs, rdl_ints ns⟩, rfl⟩, ?_⟩
  obtain ⟨s, e1⟩ := e ns hl
  rw [e1]
  intro ρ' F' H' v x m r
  cases r
  exact k H'
end DL
namespace DL
open PySem L2
theorem cx_no {P : Program} {w : World} {H : Hp} {s : Shared} {e : Value} {s' : Shared} (h : L2.CX P w [] H s (fun _ _ _ => False) e s') : False := by
  obtain ⟨_, _, _, _, _, _, _, _, _, _, _, _, z⟩ := h
  exact z
end DL

/-! Tools over data: loops, lists of intsD. -/
namespace DL
open PySem L2

theorem loop_go {P : List MO → Bool} {step : D → DS → R Fl} (I : Nat → DS → Prop) (its : List D) (hP : ∀ i s, I i s → P s.m = true)
    (h : ∀ i d s, its[i]? = some d → I i s → ∃ s', (step d s = .ok .nx s' ∨ step d s = .ok .ct s') ∧ I (i + 1) s') :
    ∀ (n k : Nat), k + n = its.length → ∀ s, I k s → ∃ s', loopL P step (its.drop k) s = .ok .nx s' ∧ I its.length s' := by
  intro n
  induction n with
  | zero =>
    intro k hk s hs
    have e : k = its.length := by omega
    subst e
    refine ⟨s, ?_, hs⟩
    rw [List.drop_length]
    unfold loopL
    rw [if_pos (hP _ _ hs)]
  | succ n ih =>
    intro k hk s hs
    have hlt : k < its.length := by omega
    rw [List.drop_eq_getElem_cons hlt]
    unfold loopL
    rw [if_pos (hP _ _ hs)]
    obtain ⟨s1, h1, h2⟩ := h k its[k] s (List.getElem?_eq_getElem hlt) hs
    obtain ⟨s2, h3, h4⟩ := ih (k + 1) (by omega) s1 h2
    refine ⟨s2, ?_, h4⟩
    rcases h1 with h1 | h1 <;> rw [h1] <;> exact h3
theorem loop_inv {P : List MO → Bool} {step : D → DS → R Fl} (I : Nat → DS → Prop) (its : List D) (hP : ∀ i s, I i s → P s.m = true)
    (h : ∀ i d s, its[i]? = some d → I i s → ∃ s', (step d s = .ok .nx s' ∨ step d s = .ok .ct s') ∧ I (i + 1) s') {s : DS} (h0 : I 0 s) :
    ∃ s', loopL P step its s = .ok .nx s' ∧ I its.length s' := by
  have := loop_go I its hP h its.length 0 (by omega) s h0
  rwa [List.drop_zero] at this
theorem comp_go {P : List MO → Bool} {step : D → DS → R (Option D)} {s : DS} (hP : P s.m = true) : ∀ (its ys acc : List D), its.length = ys.length → (∀ (i : Nat) x y, its[i]? = some x → ys[i]? = some y → step x s = .ok (some y) s) → acc.length + its.length ≤ sizeLine →
    compL P step its acc s = .ok (acc ++ ys) s
  | [], ys, acc, hl, _, _ => by
    have e : ys = [] := List.eq_nil_of_length_eq_zero hl.symm
    subst e
    rw [compL_nil, if_pos hP, List.append_nil]
  | x :: its, [], acc, hl, _, _ => by cases hl
  | x :: its, y :: ys, acc, hl, h, hs => by
    rw [compL_cons, if_pos hP, h 0 x y rfl rfl]
    simp only [List.length_cons] at hl hs
    have h2 : acc.length < sizeLine := by omega
    show (if Pr (acc.length < sizeLine) then compL P step its (acc ++ [y]) s else R.bad) = _
    rw [if_pos (show Pr _ from h2), comp_go hP its ys (acc ++ [y]) (by omega) (fun i a b e1 e2 => h (i + 1) a b e1 e2) (by rw [List.length_append]; simp only [List.length_singleton]; omega)]
    rw [List.append_assoc]
    rfl
/-- items that change the objects alone -/
theorem comp_inv {P : List MO → Bool} {step : D → DS → R (Option D)} (I : Nat → List D → DS → Prop) (its : List D) (hP : ∀ i a s, I i a s → P s.m = true) (hL : ∀ i a s, I i a s → i < its.length → a.length < sizeLine)
    (h : ∀ i d a s, its[i]? = some d → I i a s → ∃ y s', step d s = .ok (some y) s' ∧ I (i + 1) (a ++ [y]) s') :
    ∀ (n k : Nat), k + n = its.length → ∀ a s, I k a s → ∃ a' s', compL P step (its.drop k) a s = .ok a' s' ∧ I its.length a' s' := by
  intro n
  induction n with
  | zero =>
    intro k hk a s hs
    have e : k = its.length := by omega
    subst e
    exact ⟨a, s, by rw [List.drop_length, compL_nil, if_pos (hP _ _ _ hs)], hs⟩
  | succ n ih =>
    intro k hk a s hs
    have hlt : k < its.length := by omega
    obtain ⟨y, s1, h1, h2⟩ := h k its[k] a s (List.getElem?_eq_getElem hlt) hs
    obtain ⟨a2, s2, h3, h4⟩ := ih (k + 1) (by omega) _ s1 h2
    refine ⟨a2, s2, ?_, h4⟩
    rw [List.drop_eq_getElem_cons hlt, compL_cons, if_pos (hP _ _ _ hs), h1]
    show (if Pr (a.length < sizeLine) then compL P step (its.drop (k + 1)) (a ++ [y]) s1 else R.bad) = _
    rw [if_pos (show Pr _ from hL _ _ _ hs hlt)]
    exact h3

/-! ### lists of intsD -/
def intsD : List D → Option (List Int)
  | [] => some []
  | .int i :: ds => (intsD ds).map (i :: ·)
  | _ :: _ => none
theorem ints_eq : ∀ {ds : List D} {ns : List Int}, intsD ds = some ns → ds = ns.map .int
  | [], ns, e => by cases e; rfl
  | d :: ds, ns, e => by
    cases d with
    | int i =>
      simp only [intsD] at e
      cases q : intsD ds with
      | none => rw [q] at e; cases e
      | some ms =>
        rw [q] at e
        cases e
        rw [ints_eq q]
        rfl
    | _ => cases e
@[simp] theorem ints_map : ∀ ns : List Int, intsD (ns.map .int) = some ns
  | [] => rfl
  | n :: ns => by simp only [List.map_cons, intsD, ints_map ns, Option.map_some]
@[simp] theorem clL_ints (n : Nat) : ∀ ns : List Int, clL n (ns.map .int) = true
  | [] => rfl
  | _ :: ns => by simp only [List.map_cons, clL, clD, clL_ints n ns, Bool.and_self]
@[simp] theorem okL_ints (n : Nat) : ∀ ns : List Int, okL n (ns.map .int) = true
  | [] => by simp [okL]
  | _ :: ns => by simp only [List.map_cons, okL, okD, okL_ints n ns, Bool.and_self]
theorem rng_get {lo : Int} {n i : Nat} {d : D} (h : (rngD lo n)[i]? = some d) : i < n ∧ d = .int (lo + (i : Nat)) := by
  have hi : i < n := by
    have := (List.getElem?_eq_some_iff.mp h).1
    simpa [rngD] using this
  simp [rngD, hi] at h
  exact ⟨hi, h.symm⟩
@[simp] theorem rng_len (lo : Int) (n : Nat) : (rngD lo n).length = n := by simp [rngD]
theorem rng0_get {n i : Nat} {d : D} (h : (rngD 0 n)[i]? = some d) : i < n ∧ d = .int (i : Nat) := by
  obtain ⟨h1, h2⟩ := rng_get h
  exact ⟨h1, by rw [h2, Int.zero_add]⟩

/-! ### same data -/
mutual
theorem eqD_refl : ∀ (n : Nat) (d : D), okD n d = true → eqD d d = true
  | _, .non, _ => rfl
  | _, .bl b, _ => by simp [eqD]
  | _, .int i, _ => by simp [eqD]
  | _, .str x, _ => by simp [eqD]
  | n, .tup ds, h => by
    cases n with
    | zero => simp [okD] at h
    | succ n => simp only [okD] at h; simp only [eqD]; exact eqL_refl n ds h
  | n, .lst ds, h => by
    cases n with
    | zero => simp [okD] at h
    | succ n => simp only [okD] at h; simp only [eqD]; exact eqL_refl n ds h
  | n, .ref _, h => by simp [okD] at h
  | n, .ty _, h => by simp [okD] at h
  | n, .lsr _, h => by simp [okD] at h
  | n, .obj _, h => by simp [okD] at h
  | n, .exc _ _ _ _, h => by simp [okD] at h
theorem eqL_refl : ∀ (n : Nat) (ds : List D), okL n ds = true → eqL ds ds = true
  | _, [], _ => rfl
  | n, d :: ds, h => by
    simp only [okL, Bool.and_eq_true] at h
    simp only [eqL, eqD_refl n d h.1, eqL_refl n ds h.2, Bool.and_self]
end
mutual
theorem okD_cl : ∀ (n : Nat) (d : D), okD n d = true → ∀ m, clD m d = true
  | _, .non, _, _ => rfl
  | _, .bl b, _, _ => rfl
  | _, .int i, _, _ => rfl
  | _, .str x, _, _ => rfl
  | n, .tup ds, h, m => by
    cases n with
    | zero => simp [okD] at h
    | succ n => simp only [okD] at h; simp only [clD]; exact okL_cl n ds h m
  | n, .lst ds, h, m => by
    cases n with
    | zero => simp [okD] at h
    | succ n => simp only [okD] at h; simp only [clD]; exact okL_cl n ds h m
  | n, .ref _, h, _ => by simp [okD] at h
  | n, .ty _, h, _ => by simp [okD] at h
  | n, .lsr _, h, _ => by simp [okD] at h
  | n, .obj _, h, _ => by simp [okD] at h
  | n, .exc _ _ _ _, h, _ => by simp [okD] at h
theorem okL_cl : ∀ (n : Nat) (ds : List D), okL n ds = true → ∀ m, clL m ds = true
  | _, [], _, _ => rfl
  | n, d :: ds, h, m => by
    simp only [okL, Bool.and_eq_true] at h
    simp only [clL, okD_cl n d h.1 m, okL_cl n ds h.2 m, Bool.and_self]
end
theorem okL_get {n : Nat} : ∀ {ds : List D} {i : Nat} {d : D}, okL n ds = true → ds[i]? = some d → okD n d = true
  | [], i, d, _, e => by simp at e
  | x :: ds, 0, d, h, e => by
    simp only [okL, Bool.and_eq_true] at h
    simp at e
    subst e
    exact h.1
  | x :: ds, i + 1, d, h, e => by
    simp only [okL, Bool.and_eq_true] at h
    exact okL_get (i := i) h.2 (by simpa using e)
mutual
theorem okD_mono : ∀ (n m : Nat) (d : D), n ≤ m → okD n d = true → okD m d = true
  | _, _, .non, _, _ => by simp [okD]
  | _, _, .bl b, _, _ => by simp [okD]
  | _, _, .int i, _, _ => by simp [okD]
  | _, _, .str x, _, h => by simp only [okD] at h ⊢; exact h
  | n, m, .tup ds, hm, h => by
    cases n with
    | zero => simp [okD] at h
    | succ n =>
      cases m with
      | zero => omega
      | succ m => simp only [okD] at h ⊢; exact okL_mono n m ds (by omega) h
  | n, m, .lst ds, hm, h => by
    cases n with
    | zero => simp [okD] at h
    | succ n =>
      cases m with
      | zero => omega
      | succ m => simp only [okD] at h ⊢; exact okL_mono n m ds (by omega) h
  | n, m, .ref _, _, h => by simp [okD] at h
  | n, m, .ty _, _, h => by simp [okD] at h
  | n, m, .lsr _, _, h => by simp [okD] at h
  | n, m, .obj _, _, h => by simp [okD] at h
  | n, m, .exc _ _ _ _, _, h => by simp [okD] at h
theorem okL_mono : ∀ (n m : Nat) (ds : List D), n ≤ m → okL n ds = true → okL m ds = true
  | _, _, [], _, _ => by simp [okL]
  | n, m, d :: ds, hm, h => by
    simp only [okL, Bool.and_eq_true] at h ⊢
    exact ⟨okD_mono n m d hm h.1, okL_mono n m ds hm h.2⟩
end

/-! ### the bag of a law: its cells, how many are drawn, what is left, its knot -/
structure Bag where
  cells : List Int
  i : Int
  sd : Int
  kn : Int
def Bag.mo (b : Bag) : MO := .lst [.lst (b.cells.map .int), .int b.i, .int b.sd, .int b.kn]
def bagKnot (cells : List Int) : Int := cells.foldl (fun k c => (k * 1543 + c) % 2147483629) (17 + cells.length)
def bag0 (cells : List Int) : Bag := ⟨cells, 0, 0, bagKnot cells⟩
def Bag.mixed (kn i seed n : Int) : Int :=
  let fold := (seed * 48271 + i * 40692 + kn) % 2147483647
  let twist := (fold * fold + i) % 998244353
  (twist * 69621 + fold) % 2147483629 / 7 % n
/-- what is pulled, and the bag behind it -/
noncomputable def Bag.pull (b : Bag) (n : Int) : Int × Bag :=
  if Pr (b.sd < 2) then
    let i := b.i + 1
    let seed := if Pr (i ≤ b.cells.length) then b.cells.getD b.i.toNat 0 else b.kn + i * 7919
    if Pr (b.cells.length < i ∨ seed < 1000000000000000000) then (Bag.mixed b.kn i seed n, { b with i := i })
    else (seed % n, { b with i := i, sd := seed / n })
  else (b.sd % n, { b with sd := b.sd / n })
theorem Bag.pull_lt (b : Bag) {n : Int} (h : 0 < n) : 0 ≤ (b.pull n).1 ∧ (b.pull n).1 < n := by
  have k : ∀ x : Int, 0 ≤ x % n ∧ x % n < n := fun x => ⟨Int.emod_nonneg x (by omega), Int.emod_lt_of_pos x h⟩
  unfold Bag.pull
  simp only
  repeat' split
  all_goals exact k _
theorem Bag.pull_cells (b : Bag) (n : Int) : (b.pull n).2.cells = b.cells := by
  unfold Bag.pull
  simp only
  repeat' split
  all_goals rfl
/-- the objects' first is a bag -/
def bagAt : List MO → Option Bag
  | .lst [.lst cs, .int i, .int sd, .int kn] :: _ => match intsD cs with
    | some cells => if 0 ≤ i then some ⟨cells, i, sd, kn⟩ else none
    | none => none
  | _ => none
theorem bagAt_mo (b : Bag) (μ : List MO) (h : 0 ≤ b.i) : bagAt (b.mo :: μ) = some b := by
  simp [bagAt, Bag.mo, h]
theorem bagAt_eq {μ : List MO} {b : Bag} (h : bagAt μ = some b) : (∃ r, μ = b.mo :: r) ∧ 0 ≤ b.i := by
  unfold bagAt at h
  split at h
  · rename_i cs i sd kn r
    split at h
    · rename_i e
      split at h
      · rename_i h0
        cases h
        refine ⟨⟨r, ?_⟩, h0⟩
        simp only [Bag.mo]
        rw [ints_eq e]
      · cases h
    · cases h
  · cases h
/-- _law_pull(bag, n): the bag is the first object -/
noncomputable def g_law_pull : GF := fun args μ => match args with
  | [.obj 0, .int n] => match bagAt μ with
    | some b => if Pr (0 < n ∧ n < 1606938044258990275541962092341162602522202993782792835301376) then .ok (.int (b.pull n).1) ⟨[], (b.pull n).2.mo :: μ.tail⟩ else .bad
    | none => .bad
  | _ => .bad
def g_law_bag : GF := fun args μ => match args with
  | [.lsr cs] => match intsD cs with
    | some ns => if ns.length ≤ 63 then .ok (.obj μ.length) ⟨[], μ ++ [(bag0 ns).mo]⟩ else .bad
    | none => .bad
  | _ => .bad
theorem Bag.pull_i (b : Bag) (n : Int) (h : 0 ≤ b.i) : 0 ≤ (b.pull n).2.i := by
  unfold Bag.pull
  simp only
  repeat' split
  all_goals (first | exact h | (show 0 ≤ b.i + 1; omega))
theorem pull_ok {b : Bag} {μ : List MO} {n : Int} (hi : 0 ≤ b.i) (h : 0 < n) (h2 : n < 1606938044258990275541962092341162602522202993782792835301376) : g_law_pull [.obj 0, .int n] (b.mo :: μ) = .ok (.int (b.pull n).1) ⟨[], (b.pull n).2.mo :: μ⟩ := by
  unfold g_law_pull
  simp only [bagAt_mo b μ hi, if_pos (show Pr _ from And.intro h h2), List.tail_cons]
mutual
/-- the very same data -/
noncomputable def sm : D → D → Bool
  | .non, .non => true
  | .bl a, .bl b => a == b
  | .int i, .int j => dcd (i = j)
  | .str x, .str y => dcd (x = y)
  | .lst xs, .lst ys => smL xs ys
  | .tup xs, .tup ys => smL xs ys
  | _, _ => false
noncomputable def smL : List D → List D → Bool
  | [], [] => true
  | x :: xs, y :: ys => sm x y && smL xs ys
  | _, _ => false
end
mutual
theorem sm_eq : ∀ (a b : D), sm a b = true → a = b
  | .non, b, h => by cases b <;> first | rfl | (simp [sm] at h)
  | .bl x, b, h => by
    cases b with
    | bl y => simp only [sm, beq_iff_eq] at h; rw [h]
    | _ => simp [sm] at h
  | .int x, b, h => by
    cases b with
    | int y => simp only [sm, dcd_iff] at h; rw [h]
    | _ => simp [sm] at h
  | .str x, b, h => by
    cases b with
    | str y => simp only [sm, dcd_iff] at h; rw [h]
    | _ => simp [sm] at h
  | .lst xs, b, h => by
    cases b with
    | lst ys => simp only [sm] at h; rw [smL_eq xs ys h]
    | _ => simp [sm] at h
  | .tup xs, b, h => by
    cases b with
    | tup ys => simp only [sm] at h; rw [smL_eq xs ys h]
    | _ => simp [sm] at h
  | .ref _, b, h => by simp [sm] at h
  | .ty _, b, h => by simp [sm] at h
  | .lsr _, b, h => by simp [sm] at h
  | .obj _, b, h => by simp [sm] at h
  | .exc _ _ _ _, b, h => by simp [sm] at h
theorem smL_eq : ∀ (a b : List D), smL a b = true → a = b
  | [], [], _ => rfl
  | [], _ :: _, h => by simp [smL] at h
  | _ :: _, [], h => by simp [smL] at h
  | x :: xs, y :: ys, h => by
    simp only [smL, Bool.and_eq_true] at h
    rw [sm_eq x y h.1, smL_eq xs ys h.2]
end
mutual
theorem sm_refl : ∀ (n : Nat) (d : D), okD n d = true → sm d d = true
  | _, .non, _ => rfl
  | _, .bl b, _ => by simp [sm]
  | _, .int i, _ => by simp [sm]
  | _, .str x, _ => by simp [sm]
  | n, .tup ds, h => by
    cases n with
    | zero => simp [okD] at h
    | succ n => simp only [okD] at h; simp only [sm]; exact smL_refl n ds h
  | n, .lst ds, h => by
    cases n with
    | zero => simp [okD] at h
    | succ n => simp only [okD] at h; simp only [sm]; exact smL_refl n ds h
  | n, .ref _, h => by simp [okD] at h
  | n, .ty _, h => by simp [okD] at h
  | n, .lsr _, h => by simp [okD] at h
  | n, .obj _, h => by simp [okD] at h
  | n, .exc _ _ _ _, h => by simp [okD] at h
theorem smL_refl : ∀ (n : Nat) (ds : List D), okL n ds = true → smL ds ds = true
  | _, [], _ => rfl
  | n, d :: ds, h => by
    simp only [okL, Bool.and_eq_true] at h
    simp only [smL, sm_refl n d h.1, smL_refl n ds h.2, Bool.and_self]
end
mutual
/-- lists, tuples and texts of at most 2^24 items -/
noncomputable def sizeOkD : D → Bool
  | .tup ds => dcd (ds.length ≤ sizeLine) && sizeOkL ds
  | .lst ds => dcd (ds.length ≤ sizeLine) && sizeOkL ds
  | _ => true
noncomputable def sizeOkL : List D → Bool
  | [] => true
  | d :: ds => sizeOkD d && sizeOkL ds
end
/-- _law_same: of data that are the same, at most n floors -/
noncomputable def g_sameN : Nat → GP
  | 0 => fun _ => .bad
  | n + 1 => fun args => match args with
    | [f, d] => if Pr (okD n d = true ∧ sm f d = true ∧ sizeOkD d = true) then .ok (.bl true) ⟨[], []⟩ else .bad
    | _ => .bad
end DL
namespace DL
open PySem L2
/-! ### steps, by what comes in -/
@[simp] theorem gEq_int (i j : Int) (s : DS) : gEq (.int i) (.int j) s = .ok (.bl (dcd (i = j))) s := by
  unfold gEq
  rw [if_pos ⟨by simp only [vw, okD], by simp only [vw, okD]⟩]
  simp only [vw, eqD]
@[simp] theorem gNe_int (i j : Int) (s : DS) : gNe (.int i) (.int j) s = .ok (.bl (!dcd (i = j))) s := by
  unfold gNe
  rw [if_pos ⟨by simp only [vw, okD], by simp only [vw, okD]⟩]
  simp only [vw, eqD]
@[simp] theorem gEq_bl (i j : Bool) (s : DS) : gEq (.bl i) (.bl j) s = .ok (.bl (i == j)) s := by
  unfold gEq
  rw [if_pos ⟨by simp only [vw, okD], by simp only [vw, okD]⟩]
  simp only [vw, eqD]
@[simp] theorem gNe_bl (i j : Bool) (s : DS) : gNe (.bl i) (.bl j) s = .ok (.bl (!(i == j))) s := by
  unfold gNe
  rw [if_pos ⟨by simp only [vw, okD], by simp only [vw, okD]⟩]
  simp only [vw, eqD]
theorem gEq_str (x y : Str) (s : DS) (h1 : PyData.strOk x = true) (h2 : PyData.strOk y = true) : gEq (.str x) (.str y) s = .ok (.bl (dcd (x = y))) s := by
  unfold gEq
  rw [if_pos ⟨by simp only [vw, okD]; exact h1, by simp only [vw, okD]; exact h2⟩]
  simp only [vw, eqD]
theorem gNe_str (x y : Str) (s : DS) (h1 : PyData.strOk x = true) (h2 : PyData.strOk y = true) : gNe (.str x) (.str y) s = .ok (.bl (!dcd (x = y))) s := by
  unfold gNe
  rw [if_pos ⟨by simp only [vw, okD]; exact h1, by simp only [vw, okD]; exact h2⟩]
  simp only [vw, eqD]
theorem vw_ok {n : Nat} {d : D} {s : DS} (h : okD n d = true) : vw s d = d := by
  cases d <;> first | rfl | (simp [okD] at h)
theorem gEq_ok {x y : D} {s : DS} (h1 : okD 64 x = true) (h2 : okD 64 y = true) : gEq x y s = .ok (.bl (eqD x y)) s := by
  unfold gEq
  rw [vw_ok h1, vw_ok h2, if_pos ⟨h1, h2⟩]
theorem gNe_ok {x y : D} {s : DS} (h1 : okD 64 x = true) (h2 : okD 64 y = true) : gNe x y s = .ok (.bl (!eqD x y)) s := by
  unfold gNe
  rw [vw_ok h1, vw_ok h2, if_pos ⟨h1, h2⟩]
theorem gEq_self {x : D} {s : DS} (h1 : okD 64 x = true) : gEq x x s = .ok (.bl true) s := by
  rw [gEq_ok h1 h1, eqD_refl 64 x h1]
theorem gNe_self {x : D} {s : DS} (h1 : okD 64 x = true) : gNe x x s = .ok (.bl false) s := by
  rw [gNe_ok h1 h1, eqD_refl 64 x h1]
  rfl
theorem if_Pr {p : Prop} {α : Sort u} {a b : α} (h : p) : (if Pr p then a else b) = a := if_pos (show Pr p from h)
theorem if_nPr {p : Prop} {α : Sort u} {a b : α} (h : ¬ p) : (if Pr p then a else b) = b := if_neg (show ¬ Pr p from h)
theorem wkR1_nat (n : Nat) (s : DS) (h : n < 2 ^ 40) : wkR1 [.int n] s = .ok (rngD 0 n, allw) s := by
  unfold wkR1
  simp only
  rw [if_Pr (by constructor <;> omega), Int.toNat_natCast]
theorem wkR1_int (n : Int) (s : DS) (h0 : 0 ≤ n) (h : n < 2 ^ 40) : wkR1 [.int n] s = .ok (rngD 0 n.toNat, allw) s := by
  unfold wkR1
  simp only
  rw [if_Pr (by constructor <;> omega)]
@[simp] theorem sizeOkL_ints : ∀ ns : List Int, sizeOkL (ns.map .int) = true
  | [] => by simp [sizeOkL]
  | _ :: ns => by simp only [List.map_cons, sizeOkL, sizeOkD, sizeOkL_ints ns, Bool.and_self]
theorem g_same_refl (n : Nat) (d : D) (h : okD n d = true) (h2 : sizeOkD d = true) : g_sameN (n + 1) [d, d] = .ok (.bl true) ⟨[], []⟩ := by
  simp only [g_sameN]
  rw [if_Pr ⟨h, sm_refl n d h, h2⟩]
theorem pull_ex (b : Bag) (n : Int) (hi : 0 ≤ b.i) (h : 0 < n) (h2 : n < 1606938044258990275541962092341162602522202993782792835301376) :
    ∃ (v : Int) (b' : Bag), 0 ≤ b'.i ∧ 0 ≤ v ∧ v < n ∧ ∀ μ, g_law_pull [.obj 0, .int n] (b.mo :: μ) = .ok (.int v) ⟨[], b'.mo :: μ⟩ :=
  ⟨_, _, b.pull_i n hi, (b.pull_lt h).1, (b.pull_lt h).2, fun μ => pull_ok hi h h2⟩
theorem gIx_pick (is : List Int) (k : Int) (h0 : 0 ≤ k) (h : k < is.length) : ∃ n ∈ is, ∀ s, gIx (.lst (is.map .int)) (.int k) s = .ok (.int n) s := by
  obtain ⟨j, rfl⟩ : ∃ j : Nat, k = (j : Int) := ⟨k.toNat, (Int.toNat_of_nonneg h0).symm⟩
  have hj : j < is.length := by omega
  refine ⟨is[j], List.getElem_mem hj, fun s => ?_⟩
  have e : L2.atI (is.map D.int) ((j : Nat) : Int) = some (.int is[j]) := atI_nat (by rw [List.getElem?_map, List.getElem?_eq_getElem hj]; rfl)
  simp [gIx, seqV, e]
end DL

/-! What laws draw. -/
namespace DL
open PySem L2
/-- one after the other from the bag -/
def drawN {α : Type} (f : Bag → α × Bag) : Nat → Bag → List α × Bag
  | 0, b => ([], b)
  | k + 1, b => ((f b).1 :: (drawN f k (f b).2).1, (drawN f k (f b).2).2)
section
variable {α : Type} {f : Bag → α × Bag}
theorem drawN_len : ∀ (k : Nat) (b : Bag), (drawN f k b).1.length = k
  | 0, _ => rfl
  | k + 1, b => by simp only [drawN, List.length_cons, drawN_len k]
theorem drawN_i (h : ∀ b, 0 ≤ b.i → 0 ≤ (f b).2.i) : ∀ (k : Nat) (b : Bag), 0 ≤ b.i → 0 ≤ (drawN f k b).2.i
  | 0, _, hb => hb
  | k + 1, b, hb => drawN_i h k _ (h b hb)
theorem drawN_all {P : α → Prop} (h : ∀ b, 0 ≤ b.i → 0 ≤ (f b).2.i) (hp : ∀ b, 0 ≤ b.i → P (f b).1) : ∀ (k : Nat) (b : Bag), 0 ≤ b.i → ∀ x ∈ (drawN f k b).1, P x
  | 0, _, _, x, hx => by cases hx
  | k + 1, b, hb, x, hx => by
    simp only [drawN] at hx
    rcases List.mem_cons.mp hx with e | e
    · subst e
      exact hp b hb
    · exact drawN_all h hp k _ (h b hb) x e
theorem comp_draw {em : α → D} {step : D → DS → R (Option D)} {g : List (Option D)} {μ : List MO} (hi : ∀ b, 0 ≤ b.i → 0 ≤ (f b).2.i) (h : ∀ b x, 0 ≤ b.i → step x ⟨g, b.mo :: μ⟩ = .ok (some (em (f b).1)) ⟨g, (f b).2.mo :: μ⟩) :
    ∀ (its acc : List D) (b : Bag), 0 ≤ b.i → acc.length + its.length ≤ sizeLine → compL allw step its acc ⟨g, b.mo :: μ⟩ = .ok (acc ++ (drawN f its.length b).1.map em) ⟨g, (drawN f its.length b).2.mo :: μ⟩
  | [], acc, b, hb, _ => by
    rw [compL_nil, if_pos (show allw _ = true from rfl)]
    simp [drawN]
  | x :: its, acc, b, hb, hs => by
    rw [compL_cons, if_pos (show allw _ = true from rfl), h b x hb]
    simp only [List.length_cons] at hs
    show (if Pr (acc.length < sizeLine) then compL allw step its (acc ++ [em (f b).1]) ⟨g, (f b).2.mo :: μ⟩ else R.bad) = _
    rw [if_Pr (by omega), comp_draw hi h its (acc ++ [em (f b).1]) (f b).2 (hi b hb) (by rw [List.length_append, List.length_singleton]; omega)]
    simp only [List.length_cons, drawN, List.map_cons, List.append_assoc, List.singleton_append]
end
/-- bytes as laws draw them -/
noncomputable def bytesF (most : Int) (b : Bag) : List Int × Bag :=
  let p := b.pull (most + 1)
  let q := p.2.pull 4
  if Pr (q.1 = 0) then (List.replicate p.1.toNat (q.2.pull 256).1, (q.2.pull 256).2) else drawN (·.pull 256) p.1.toNat q.2
theorem bytesF_i (most : Int) (b : Bag) (h : 0 ≤ b.i) : 0 ≤ (bytesF most b).2.i := by
  unfold bytesF
  have k1 := (b.pull_i (most + 1) h)
  have k2 := Bag.pull_i _ 4 k1
  simp only
  split
  · exact Bag.pull_i _ 256 k2
  · exact drawN_i (fun b hb => b.pull_i 256 hb) _ _ k2
theorem bytesF_len (most : Int) (b : Bag) (h : 0 ≤ most) : ((bytesF most b).1.length : Int) ≤ most := by
  unfold bytesF
  have k1 := b.pull_lt (n := most + 1) (by omega)
  simp only
  split
  · rw [List.length_replicate]; omega
  · rw [drawN_len]; omega
theorem bytesF_all (most : Int) (b : Bag) (h : 0 ≤ b.i) : ∀ x ∈ (bytesF most b).1, 0 ≤ x ∧ x < 256 := by
  unfold bytesF
  have k1 := (b.pull_i (most + 1) h)
  have k2 := Bag.pull_i _ 4 k1
  simp only
  split
  · intro x hx
    rw [(List.mem_replicate.mp hx).2]
    exact Bag.pull_lt _ (by omega)
  · exact drawN_all (P := fun x => 0 ≤ x ∧ x < 256) (fun b hb => b.pull_i 256 hb) (fun b _ => b.pull_lt (by omega)) _ _ k2
theorem flat1 {α : Type} (x : α) : ∀ n : Nat, (List.replicate n [x]).flatten = List.replicate n x
  | 0 => rfl
  | n + 1 => by rw [List.replicate_succ, List.flatten_cons, flat1 x n]; rfl
theorem flat_rep (v : Int) (n : Nat) : (List.replicate n [D.int v]).flatten = (List.replicate n v).map .int := by
  rw [flat1, List.map_replicate]
/-! ### items by number -/
@[simp] theorem atI_0 {α : Type} (a0 : α) (l : List α) : L2.atI (a0 :: l) 0 = some a0 := by
  have e : (0 : Int) ≤ 0 ∧ (0 : Int) < ((l.length + 1 : Nat) : Int) := ⟨by omega, by omega⟩
  unfold L2.atI ixN
  simp only [List.length_cons]
  rw [if_pos e.1, if_pos (by omega)]
  rfl
@[simp] theorem atI_1 {α : Type} (a0 a1 : α) (l : List α) : L2.atI (a0 :: a1 :: l) 1 = some a1 := by
  have e : (0 : Int) ≤ 1 ∧ (1 : Int) < ((l.length + 2 : Nat) : Int) := ⟨by omega, by omega⟩
  unfold L2.atI ixN
  simp only [List.length_cons]
  rw [if_pos e.1, if_pos (by omega)]
  rfl
@[simp] theorem atI_2 {α : Type} (a0 a1 a2 : α) (l : List α) : L2.atI (a0 :: a1 :: a2 :: l) 2 = some a2 := by
  have e : (0 : Int) ≤ 2 ∧ (2 : Int) < ((l.length + 3 : Nat) : Int) := ⟨by omega, by omega⟩
  unfold L2.atI ixN
  simp only [List.length_cons]
  rw [if_pos e.1, if_pos (by omega)]
  rfl
@[simp] theorem atI_3 {α : Type} (a0 a1 a2 a3 : α) (l : List α) : L2.atI (a0 :: a1 :: a2 :: a3 :: l) 3 = some a3 := by
  have e : (0 : Int) ≤ 3 ∧ (3 : Int) < ((l.length + 4 : Nat) : Int) := ⟨by omega, by omega⟩
  unfold L2.atI ixN
  simp only [List.length_cons]
  rw [if_pos e.1, if_pos (by omega)]
  rfl
@[simp] theorem atI_4 {α : Type} (a0 a1 a2 a3 a4 : α) (l : List α) : L2.atI (a0 :: a1 :: a2 :: a3 :: a4 :: l) 4 = some a4 := by
  have e : (0 : Int) ≤ 4 ∧ (4 : Int) < ((l.length + 5 : Nat) : Int) := ⟨by omega, by omega⟩
  unfold L2.atI ixN
  simp only [List.length_cons]
  rw [if_pos e.1, if_pos (by omega)]
  rfl
@[simp] theorem atI_5 {α : Type} (a0 a1 a2 a3 a4 a5 : α) (l : List α) : L2.atI (a0 :: a1 :: a2 :: a3 :: a4 :: a5 :: l) 5 = some a5 := by
  have e : (0 : Int) ≤ 5 ∧ (5 : Int) < ((l.length + 6 : Nat) : Int) := ⟨by omega, by omega⟩
  unfold L2.atI ixN
  simp only [List.length_cons]
  rw [if_pos e.1, if_pos (by omega)]
  rfl
@[simp] theorem atI_6 {α : Type} (a0 a1 a2 a3 a4 a5 a6 : α) (l : List α) : L2.atI (a0 :: a1 :: a2 :: a3 :: a4 :: a5 :: a6 :: l) 6 = some a6 := by
  have e : (0 : Int) ≤ 6 ∧ (6 : Int) < ((l.length + 7 : Nat) : Int) := ⟨by omega, by omega⟩
  unfold L2.atI ixN
  simp only [List.length_cons]
  rw [if_pos e.1, if_pos (by omega)]
  rfl
@[simp] theorem atI_7 {α : Type} (a0 a1 a2 a3 a4 a5 a6 a7 : α) (l : List α) : L2.atI (a0 :: a1 :: a2 :: a3 :: a4 :: a5 :: a6 :: a7 :: l) 7 = some a7 := by
  have e : (0 : Int) ≤ 7 ∧ (7 : Int) < ((l.length + 8 : Nat) : Int) := ⟨by omega, by omega⟩
  unfold L2.atI ixN
  simp only [List.length_cons]
  rw [if_pos e.1, if_pos (by omega)]
  rfl
@[simp] theorem atI_8 {α : Type} (a0 a1 a2 a3 a4 a5 a6 a7 a8 : α) (l : List α) : L2.atI (a0 :: a1 :: a2 :: a3 :: a4 :: a5 :: a6 :: a7 :: a8 :: l) 8 = some a8 := by
  have e : (0 : Int) ≤ 8 ∧ (8 : Int) < ((l.length + 9 : Nat) : Int) := ⟨by omega, by omega⟩
  unfold L2.atI ixN
  simp only [List.length_cons]
  rw [if_pos e.1, if_pos (by omega)]
  rfl
@[simp] theorem atI_9 {α : Type} (a0 a1 a2 a3 a4 a5 a6 a7 a8 a9 : α) (l : List α) : L2.atI (a0 :: a1 :: a2 :: a3 :: a4 :: a5 :: a6 :: a7 :: a8 :: a9 :: l) 9 = some a9 := by
  have e : (0 : Int) ≤ 9 ∧ (9 : Int) < ((l.length + 10 : Nat) : Int) := ⟨by omega, by omega⟩
  unfold L2.atI ixN
  simp only [List.length_cons]
  rw [if_pos e.1, if_pos (by omega)]
  rfl
@[simp] theorem atI_10 {α : Type} (a0 a1 a2 a3 a4 a5 a6 a7 a8 a9 a10 : α) (l : List α) : L2.atI (a0 :: a1 :: a2 :: a3 :: a4 :: a5 :: a6 :: a7 :: a8 :: a9 :: a10 :: l) 10 = some a10 := by
  have e : (0 : Int) ≤ 10 ∧ (10 : Int) < ((l.length + 11 : Nat) : Int) := ⟨by omega, by omega⟩
  unfold L2.atI ixN
  simp only [List.length_cons]
  rw [if_pos e.1, if_pos (by omega)]
  rfl
@[simp] theorem atI_11 {α : Type} (a0 a1 a2 a3 a4 a5 a6 a7 a8 a9 a10 a11 : α) (l : List α) : L2.atI (a0 :: a1 :: a2 :: a3 :: a4 :: a5 :: a6 :: a7 :: a8 :: a9 :: a10 :: a11 :: l) 11 = some a11 := by
  have e : (0 : Int) ≤ 11 ∧ (11 : Int) < ((l.length + 12 : Nat) : Int) := ⟨by omega, by omega⟩
  unfold L2.atI ixN
  simp only [List.length_cons]
  rw [if_pos e.1, if_pos (by omega)]
  rfl
@[simp] theorem clL_append (n : Nat) : ∀ (a b : List D), clL n (a ++ b) = (clL n a && clL n b)
  | [], b => by simp [clL]
  | x :: a, b => by simp only [List.cons_append, clL, clL_append n a b, Bool.and_assoc]
@[simp] theorem okL_append (n : Nat) : ∀ (a b : List D), okL n (a ++ b) = (okL n a && okL n b)
  | [], b => by simp [okL]
  | x :: a, b => by simp only [List.cons_append, okL, okL_append n a b, Bool.and_assoc]
@[simp] theorem sizeOkL_append : ∀ (a b : List D), sizeOkL (a ++ b) = (sizeOkL a && sizeOkL b)
  | [], b => by simp [sizeOkL]
  | x :: a, b => by simp only [List.cons_append, sizeOkL, sizeOkL_append a b, Bool.and_assoc]
theorem rd_tupF {K : PySem.W.Frag} {ρ : List Addr} {F : Hp} {a : Addr} {o : Obj} {its : Array Value} {n : Nat} {ds : List D} (vs : List V) (h : K.lookup a = some o) (hc : o.cls = .type "tuple") (hd : o.data = .seq its n) (hz : its.size ≤ sizeLine) (hv : Vals vs its.toList) (hr : RdL K ρ F ds vs) (hk : ¬ keyish ds := by simp [keyish]) : Rd K ρ F (.tup ds) (.ref a) :=
  ⟨a, vs, rfl, ⟨.inr ⟨o, its, n, h, hc, hd, hz, hv⟩, fun z => absurd z hk⟩, hr⟩
/-- the bits of a number, the lowest first -/
def bitsI (n : Int) (k : Nat) : List Int := (List.range k).map fun i => n / 2 ^ i % 2
theorem bitsI_succ (n : Int) (k : Nat) : bitsI n (k + 1) = bitsI n k ++ [n / 2 ^ k % 2] := by
  unfold bitsI
  rw [List.range_succ, List.map_append]
  rfl
theorem bitsI_len (n : Int) (k : Nat) : (bitsI n k).length = k := by simp [bitsI]
theorem bitsI_01 (n : Int) (k : Nat) : ∀ b ∈ bitsI n k, b = 0 ∨ b = 1 := by
  intro b hb
  unfold bitsI at hb
  obtain ⟨i, _, rfl⟩ := List.mem_map.mp hb
  omega
theorem half_pow (n : Int) (k : Nat) : n / 2 ^ k / 2 = n / 2 ^ (k + 1) := by
  rw [Int.pow_succ, ← Int.ediv_ediv_of_nonneg (by exact Int.pow_nonneg (by decide))]
/-- the number of bits, the highest first -/
def highI (l : List Int) : Int := l.foldl (fun a b => 2 * a + b) 0
theorem highI_snoc (l : List Int) (b : Int) : highI (l ++ [b]) = 2 * highI l + b := by
  unfold highI
  rw [List.foldl_append]
  rfl
theorem highI_lt : ∀ (n : Nat) (l : List Int), l.length = n → (∀ b ∈ l, b = 0 ∨ b = 1) → 0 ≤ highI l ∧ highI l < 2 ^ l.length
  | 0, l, hl, _ => by
    have e : l = [] := List.eq_nil_of_length_eq_zero hl
    subst e
    decide
  | n + 1, l, hl, h => by
    have hne : l ≠ [] := fun e => by subst e; cases hl
    have e := (List.dropLast_concat_getLast hne).symm
    have h1 := h _ (List.getLast_mem hne)
    generalize l.getLast hne = b at e h1
    generalize hm : l.dropLast = m at e
    subst e
    have hlm : m.length = n := by simpa using hl
    obtain ⟨p, q⟩ := highI_lt n m hlm fun b hb => h b (by simp [hb])
    rw [highI_snoc, List.length_append, List.length_singleton, Int.pow_succ]
    omega
theorem orbit {a b : Int} (h : 0 ≤ a) (hb : b = 0 ∨ b = 1) : Builtin.bitOr (a * 2) b = 2 * a + b := by
  have := or_low (q := a) (r := b) (k := 1) h (by omega) (by omega)
  rw [show a * 2 ^ 1 = a * 2 from by rfl] at this
  rw [this]
  omega
def bits01 (ns : List Int) : Prop := ∀ b ∈ ns, b = 0 ∨ b = 1
theorem cdw {i j : Int} (h : 0 < j) (h2 : j < 1606938044258990275541962092341162602522202993782792835301376) : CDivW i j := by
  refine ⟨h, ?_⟩
  have h4 : j.natAbs ≠ 0 := by omega
  have h3 : j.natAbs < 2 ^ 200 := by
    have e : (2 : Nat) ^ 200 = 1606938044258990275541962092341162602522202993782792835301376 := by decide
    omega
  have := (Nat.log2_lt h4).mpr h3
  omega
theorem cdw2 (z : Int) : CDivW z 2 := cdw (by omega) (by omega)
end DL

/-! More rules, and ends of walks. -/
namespace DL
open PySem L2
/-! ### new lists by + -/
section
variable {X : Cx} {W : WX}
noncomputable def gAddN : D → D → DS → R D := fun x y s => match lstV s x, lstV s y with
  | some xs, some ys => if Pr (xs.length + ys.length ≤ sizeLine) then .ok (.obj s.m.length) { s with m := s.m ++ [.lst (xs ++ ys)] } else .bad
  | _, _ => .bad
theorem opd_addN : OpD X W (rAddA X.K) gAddN := by
  intro ρ F s σ H x y v u Q rl r1 r2 h
  unfold gAddN at h
  split at h
  · rename_i xs ys e1 e2
    obtain ⟨a, vs, rfl, q1, l1⟩ := lstV_rd rl.mem r1 e1
    obtain ⟨b, us, rfl, q2, l2⟩ := lstV_rd rl.mem r2 e2
    split at h
    · rename_i hc
      exact .inr ⟨a, b, vs, us, rfl, rfl, q1, q2, by rw [l1.length, l2.length]; exact hc, Post.new h rl (l1.append l2)⟩
    · exact h.elim
  · exact h.elim
end
/-! ### ends -/
/-- r ends well, so that Q -/
def R.sat {α : Type} (r : R α) (Q : α → DS → Prop) (_ : Tag Q := .mk) : Prop := match r with
  | .ok a s => Q a s
  | _ => False
theorem sat_ok {α : Type} {a : α} {s : DS} {Q : α → DS → Prop} : (R.ok a s).sat Q ↔ Q a s := Iff.rfl
theorem R.sat.ex {α : Type} {r : R α} {Q : α → DS → Prop} (h : r.sat Q) : ∃ a s, r = .ok a s ∧ Q a s := by
  cases r with
  | ok a s => exact ⟨a, s, rfl, h⟩
  | _ => exact h.elim
/-- a loop that runs through -/
theorem loop_sat {P : List MO → Bool} {step : D → DS → R Fl} (I : Nat → DS → Prop) (its : List D) (hP : ∀ i s, I i s → P s.m = true)
    (h : ∀ i d s, its[i]? = some d → I i s → (step d s).sat fun fl s' => (fl = .nx ∨ fl = .ct) ∧ I (i + 1) s') {s : DS} (h0 : I 0 s) :
    ∃ s', loopL P step its s = .ok .nx s' ∧ I its.length s' :=
  loop_inv I its hP (fun i d s e hs => by
    obtain ⟨fl, s', e1, e2, e3⟩ := (h i d s e hs).ex
    rcases e2 with rfl | rfl
    · exact ⟨s', .inl e1, e3⟩
    · exact ⟨s', .inr e1, e3⟩) h0
/-- .. over range(n) -/
theorem loop_rng {step : D → DS → R Fl} (I : Nat → DS → Prop) (n : Nat)
    (h : ∀ i s, i < n → I i s → (step (.int i) s).sat fun fl s' => (fl = .nx ∨ fl = .ct) ∧ I (i + 1) s') {s : DS} (h0 : I 0 s) :
    ∃ s', loopL allw step (rngD 0 n) s = .ok .nx s' ∧ I n s' := by
  have := loop_sat (P := allw) (step := step) I (rngD 0 n) (fun _ _ _ => rfl) (fun i d s e hs => by
    obtain ⟨hi, rfl⟩ := rng0_get e
    exact h i s hi hs) h0
  rwa [rng_len] at this
/-- .. over a list of ints -/
theorem loop_ints {step : D → DS → R Fl} (I : Nat → DS → Prop) (ns : List Int)
    (h : ∀ i n s, ns[i]? = some n → I i s → (step (.int n) s).sat fun fl s' => (fl = .nx ∨ fl = .ct) ∧ I (i + 1) s') {s : DS} (h0 : I 0 s) :
    ∃ s', loopL allw step (ns.map .int) s = .ok .nx s' ∧ I ns.length s' := by
  have := loop_sat (P := allw) (step := step) I (ns.map .int) (fun _ _ _ => rfl) (fun i d s e hs => by
    rw [List.getElem?_map] at e
    cases q : ns[i]? with
    | none => rw [q] at e; cases e
    | some n =>
      rw [q] at e
      cases e
      exact h i n s q hs) h0
  rwa [List.length_map] at this
/-- the first k turns -/
theorem loop_to {P : List MO → Bool} {step : D → DS → R Fl} (I : Nat → DS → Prop) (its : List D) (hP : ∀ i s, I i s → P s.m = true) :
    ∀ (k : Nat), k ≤ its.length → (∀ i d s, i < k → its[i]? = some d → I i s → (step d s).sat fun fl s' => (fl = .nx ∨ fl = .ct) ∧ I (i + 1) s') → ∀ {s : DS}, I 0 s →
      ∃ s', I k s' ∧ loopL P step its s = loopL P step (its.drop k) s'
  | 0, _, _, s, h0 => ⟨s, h0, by rw [List.drop_zero]⟩
  | k + 1, hk, h, s, h0 => by
    obtain ⟨s1, i1, e1⟩ := loop_to I its hP k (by omega) (fun i d s hi => h i d s (by omega)) h0
    have hlt : k < its.length := by omega
    obtain ⟨fl, s2, e2, e3, e4⟩ := (h k its[k] s1 (by omega) (List.getElem?_eq_getElem hlt) i1).ex
    refine ⟨s2, e4, e1.trans ?_⟩
    rw [List.drop_eq_getElem_cons hlt]
    conv => lhs; unfold loopL
    rw [if_pos (hP _ _ i1), e2]
    rcases e3 with rfl | rfl <;> rfl
theorem comp_ints {step : D → DS → R (Option D)} {s : DS} (f : Int → D) (ns : List Int) (h : ∀ n ∈ ns, step (.int n) s = .ok (some (f n)) s) (hl : ns.length ≤ sizeLine) :
    compL allw step (ns.map .int) [] s = .ok (ns.map f) s := by
  have := comp_go (P := allw) (step := step) (s := s) rfl (ns.map .int) (ns.map f) [] (by simp) (fun i x y e1 e2 => by
    rw [List.getElem?_map] at e1 e2
    cases q : ns[i]? with
    | none => rw [q] at e1; cases e1
    | some n =>
      rw [q] at e1 e2
      cases e1
      cases e2
      exact h n (List.mem_of_getElem? q)) (by simpa using hl)
  simpa using this
theorem atI_pick (ds : List D) (k : Int) (h0 : 0 ≤ k) (h : k < ds.length) : ∃ d ∈ ds, L2.atI ds k = some d := by
  obtain ⟨j, rfl⟩ : ∃ j : Nat, k = (j : Int) := ⟨k.toNat, (Int.toNat_of_nonneg h0).symm⟩
  have hj : j < ds.length := by omega
  exact ⟨ds[j], List.getElem_mem hj, atI_nat (List.getElem?_eq_getElem hj)⟩
theorem cut_to (ds : List D) (k : Int) (h0 : 0 ≤ k) (h : k ≤ ds.length) : cutG ds none (some k) = ds.take k.toNat := by
  obtain ⟨j, rfl⟩ : ∃ j : Nat, k = (j : Int) := ⟨k.toNat, (Int.toNat_of_nonneg h0).symm⟩
  unfold cutG
  rw [HT.sIx_nat, show HT.sIx ds.length 0 none = 0 from rfl, List.drop_zero, Nat.sub_zero, Nat.min_eq_left (by omega), Int.toNat_natCast]
theorem cut_from (ds : List D) (k : Int) (h0 : 0 ≤ k) : cutG ds (some k) none = ds.drop k.toNat := by
  obtain ⟨j, rfl⟩ : ∃ j : Nat, k = (j : Int) := ⟨k.toNat, (Int.toNat_of_nonneg h0).symm⟩
  unfold cutG
  rw [HT.sIx_nat, show HT.sIx ds.length ds.length none = ds.length from rfl, Int.toNat_natCast]
  by_cases h : j ≤ ds.length
  · rw [Nat.min_eq_left h, List.take_of_length_le (by simp)]
  · rw [Nat.min_eq_right (by omega), List.drop_of_length_le (Nat.le_refl _), List.drop_of_length_le (by omega), List.take_nil]
/-! ### bits -/
theorem take_get {α : Type} {l : List α} {i : Nat} {x : α} (h : l[i]? = some x) : l.take (i + 1) = l.take i ++ [x] := by
  rw [List.take_add_one, h]
  rfl
/-! ### check sums -/
/-- added onto a beginning, bit by bit -/
def addW : List Int → List Int → List Int
  | [], ys => ys
  | _ :: _, [] => []
  | w :: ws, y :: ys => (y + w) % 2 :: addW ws ys
theorem addW_len : ∀ ws ys : List Int, (addW ws ys).length = ys.length
  | [], ys => rfl
  | _ :: _, [] => rfl
  | w :: ws, y :: ys => by simp [addW, addW_len ws ys]
theorem addW_bits : ∀ ws ys : List Int, bits01 ys → bits01 (addW ws ys)
  | [], ys, h => h
  | _ :: _, [], h => h
  | w :: ws, y :: ys, h => by
    intro b hb
    simp only [addW, List.mem_cons] at hb
    rcases hb with e | e
    · omega
    · exact addW_bits ws ys (fun c hc => h c (by simp [hc])) b e
theorem addW_zero : ∀ (ws ys : List Int), bits01 ys → addW (ws ++ [0]) ys = addW ws ys
  | [], [], _ => rfl
  | [], y :: ys, h => by
    have := h y (by simp)
    simp only [List.nil_append, addW, List.cons.injEq, and_true]
    omega
  | _ :: _, [], _ => rfl
  | w :: ws, y :: ys, h => by simp only [List.cons_append, addW, addW_zero ws ys fun c hc => h c (by simp [hc])]
theorem addW_assoc : ∀ (ws vs ys : List Int), ws.length ≤ vs.length → vs.length ≤ ys.length → addW ws (addW vs ys) = addW (addW ws vs) ys
  | [], _, _, _, _ => rfl
  | _ :: _, [], _, h, _ => by simp at h
  | _ :: _, _ :: _, [], _, h => by simp at h
  | w :: ws, v :: vs, y :: ys, h1, h2 => by
    simp only [List.length_cons] at h1 h2
    simp only [addW, addW_assoc ws vs ys (by omega) (by omega), List.cons.injEq, and_true]
    omega
theorem addW_nil : ∀ (ws ys : List Int), (∀ y ∈ ys, y = 0) → bits01 ws → ws.length = ys.length → addW ws ys = ws
  | [], [], _, _, _ => rfl
  | [], _ :: _, _, _, h => by simp at h
  | _ :: _, [], _, _, h => by simp at h
  | w :: ws, y :: ys, h, hb, hl => by
    have h1 := h y (by simp)
    have h2 := hb w (by simp)
    simp only [addW, addW_nil ws ys (fun c hc => h c (by simp [hc])) (fun c hc => hb c (by simp [hc])) (by simpa using hl), List.cons.injEq, and_true]
    omega
/-- one step of a register, its highest bit first -/
def regStep (W R : List Int) (b : Int) : List Int := match R with
  | [] => []
  | r :: R' => if (b + r) % 2 = 1 then addW W (R' ++ [0]) else R' ++ [0]
def regN (W : List Int) : List Int → List Int → List Int
  | R, [] => R
  | R, b :: row => regN W (regStep W R b) row
theorem regStep_len (W R : List Int) (b : Int) : (regStep W R b).length = R.length := by
  cases R with
  | nil => rfl
  | cons r R' =>
    unfold regStep
    simp only
    split <;> simp [addW_len]
theorem regStep_bits (W R : List Int) (b : Int) (h : bits01 R) : bits01 (regStep W R b) := by
  cases R with
  | nil => exact h
  | cons r R' =>
    have h0 : bits01 (R' ++ [0]) := fun c hc => by
      rcases List.mem_append.mp hc with e | e
      · exact h c (by simp [e])
      · exact .inl (by simpa using e)
    unfold regStep
    simp only
    split
    · exact addW_bits _ _ h0
    · exact h0
theorem regN_snoc (W : List Int) (b : Int) : ∀ (row R : List Int), regN W R (row ++ [b]) = regStep W (regN W R row) b
  | [], R => rfl
  | c :: row, R => by simp only [List.cons_append, regN, regN_snoc W b row]
theorem regN_len (W : List Int) : ∀ (row R : List Int), (regN W R row).length = R.length
  | [], R => rfl
  | c :: row, R => by simp only [regN, regN_len W row, regStep_len]
theorem regN_bits (W : List Int) : ∀ (row R : List Int), bits01 R → bits01 (regN W R row)
  | [], R, h => h
  | c :: row, R, h => regN_bits W row _ (regStep_bits W R c h)
/-- long division -/
def divStep (W l : List Int) : List Int := match l with
  | [] => []
  | x :: l' => if x = 1 then addW W l' else l'
def divN (W : List Int) : Nat → List Int → List Int
  | 0, l => l
  | n + 1, l => divN W n (divStep W l)
theorem divN_succ (W : List Int) : ∀ (n : Nat) (l : List Int), divN W (n + 1) l = divStep W (divN W n l)
  | 0, _ => rfl
  | n + 1, l => divN_succ W n (divStep W l)
theorem divStep_len (W l : List Int) : (divStep W l).length = l.length - 1 := by
  cases l with
  | nil => rfl
  | cons x l' =>
    unfold divStep
    simp only
    split <;> simp [addW_len]
theorem divN_len (W : List Int) : ∀ (n : Nat) (l : List Int), (divN W n l).length = l.length - n
  | 0, _ => rfl
  | n + 1, l => by rw [divN, divN_len W n, divStep_len]; omega
theorem div_reg (W : List Int) (m : Nat) (hW : W.length = m) (hm : 0 < m) : ∀ (row R : List Int), R.length = m → bits01 R → bits01 row → divN W row.length (addW R (row ++ List.replicate m 0)) = regN W R row
  | [], R, hl, hR, _ => by
    simp only [List.length_nil, divN, List.nil_append, regN]
    exact addW_nil R _ (fun y hy => (List.mem_replicate.mp hy).2) hR (by simp [hl])
  | b :: row, R, hl, hR, hr => by
    cases R with
    | nil => simp at hl; omega
    | cons r R' =>
      have hr' : bits01 row := fun c hc => hr c (by simp [hc])
      have h0 : bits01 (row ++ List.replicate m 0) := fun c hc => by
        rcases List.mem_append.mp hc with e | e
        · exact hr' c e
        · exact .inl (List.mem_replicate.mp e).2
      have hl' : R'.length + 1 = m := by simpa using hl
      have ih := div_reg W m hW hm row (regStep W (r :: R') b) (by rw [regStep_len]; exact hl) (regStep_bits W _ b hR) hr'
      simp only [List.length_cons, divN, List.cons_append, addW, divStep, regN]
      rw [← ih]
      congr 1
      unfold regStep
      simp only
      rw [← addW_zero R' _ h0]
      split
      · rw [addW_assoc W (R' ++ [0]) _ (by simp; omega) (by simp; omega)]
      · rfl
/-- the check sum, the highest bit first -/
def crcI (W row : List Int) : List Int := (regN W (List.replicate W.length 1) row).map (1 - ·)
theorem highI_cons (r : Int) : ∀ (n : Nat) (l : List Int), l.length = n → highI (r :: l) = r * 2 ^ l.length + highI l
  | 0, l, hl => by
    have e : l = [] := List.eq_nil_of_length_eq_zero hl
    subst e
    simp [highI]
  | n + 1, l, hl => by
    have hne : l ≠ [] := fun e => by subst e; cases hl
    have e := (List.dropLast_concat_getLast hne).symm
    generalize l.getLast hne = b at e
    generalize hm : l.dropLast = m at e
    subst e
    have hlm : m.length = n := by simpa using hl
    have ih := highI_cons r n m hlm
    rw [← List.cons_append, highI_snoc, highI_snoc, ih, List.length_append, List.length_singleton, Int.pow_succ]
    generalize (2 : Int) ^ m.length = p
    have : r * (p * 2) = 2 * (r * p) := by rw [Int.mul_comm p 2, Int.mul_left_comm]
    omega
/-- complement -/
theorem highI_not : ∀ (n : Nat) (l : List Int), l.length = n → highI (l.map (1 - ·)) = 2 ^ l.length - 1 - highI l
  | 0, l, hl => by
    have e : l = [] := List.eq_nil_of_length_eq_zero hl
    subst e
    decide
  | n + 1, l, hl => by
    have hne : l ≠ [] := fun e => by subst e; cases hl
    have e := (List.dropLast_concat_getLast hne).symm
    generalize l.getLast hne = b at e
    generalize hm : l.dropLast = m at e
    subst e
    have hlm : m.length = n := by simpa using hl
    have ih := highI_not n m hlm
    rw [List.map_append, List.map_singleton, highI_snoc, highI_snoc, ih, List.length_append, List.length_singleton, Int.pow_succ]
    omega
theorem addW_snoc : ∀ (ws l : List Int) (w y : Int), l[ws.length]? = some y → addW (ws ++ [w]) l = (addW ws l).set ws.length ((y + w) % 2) ∧ (addW ws l)[ws.length]? = some y
  | [], [], _, _, h => by simp at h
  | [], z :: l, w, y, h => by
    simp only [List.length_nil, List.getElem?_cons_zero, Option.some.injEq] at h
    subst h
    simp [addW]
  | v :: ws, [], _, _, h => by simp at h
  | v :: ws, z :: l, w, y, h => by
    simp only [List.length_cons, List.getElem?_cons_succ] at h
    have := addW_snoc ws l w y h
    simp only [List.cons_append, addW, List.length_cons, List.set_cons_succ, List.getElem?_cons_succ, this.1, this.2, and_self]
open PySem.Spec PyProof.Rows in
theorem and_low (a c x y : Int) (ha : 0 ≤ a) (hc : 0 ≤ c) (hx : x = 0 ∨ x = 1) (hy : y = 0 ∨ y = 1) : Builtin.bitAnd (2 * a + x) (2 * c + y) = 2 * Builtin.bitAnd a c + x * y := by
  rw [bitAnd_pp (by omega) (by omega), bitAnd_pp ha hc]
  have e1 : (2 * a + x).toNat = 2 * a.toNat + x.toNat := by omega
  have e2 : (2 * c + y).toNat = 2 * c.toNat + y.toNat := by omega
  rw [e1, e2]
  generalize a.toNat = p
  generalize c.toNat = q
  have k1 : ((2 * p + x.toNat) &&& (2 * q + y.toNat)) / 2 = p &&& q := by
    rw [Nat.and_div_two, show (2 * p + x.toNat) / 2 = p by omega, show (2 * q + y.toNat) / 2 = q by omega]
  have k2 : ((2 * p + x.toNat) &&& (2 * q + y.toNat)) % 2 = x.toNat &&& y.toNat := by
    have := Nat.and_mod_two_pow (a := 2 * p + x.toNat) (b := 2 * q + y.toNat) (n := 1)
    rw [show 2 ^ 1 = 2 from rfl] at this
    rw [this, show (2 * p + x.toNat) % 2 = x.toNat by omega, show (2 * q + y.toNat) % 2 = y.toNat by omega]
  have k3 : x.toNat &&& y.toNat = x.toNat * y.toNat := by rcases hx with rfl | rfl <;> rcases hy with rfl | rfl <;> decide
  have k4 : ((x.toNat * y.toNat : Nat) : Int) = x * y := by rcases hx with rfl | rfl <;> rcases hy with rfl | rfl <;> decide
  rw [k3] at k2
  generalize ((2 * p + x.toNat) &&& (2 * q + y.toNat)) = z at *
  generalize p &&& q = w at *
  generalize x * y = t at *
  generalize x.toNat * y.toNat = t' at *
  omega
open PySem.Spec PyProof.Rows in
theorem xor_low (a c x y : Int) (ha : 0 ≤ a) (hc : 0 ≤ c) (hx : x = 0 ∨ x = 1) (hy : y = 0 ∨ y = 1) : Builtin.bitXor (2 * a + x) (2 * c + y) = 2 * Builtin.bitXor a c + (x + y) % 2 := by
  rw [bitXor_and, bitXor_and, and_low a c x y ha hc hx hy]
  rcases hx with rfl | rfl <;> rcases hy with rfl | rfl <;> omega
theorem addW_both : ∀ (ws ys : List Int) (w y : Int), ws.length = ys.length → addW (ws ++ [w]) (ys ++ [y]) = addW ws ys ++ [(y + w) % 2]
  | [], [], _, _, _ => rfl
  | [], _ :: _, _, _, h => by simp at h
  | _ :: _, [], _, _, h => by simp at h
  | v :: ws, z :: ys, w, y, h => by simp only [List.cons_append, addW, addW_both ws ys w y (by simpa using h)]
theorem highI_xor : ∀ (n : Nat) (a c : List Int), a.length = n → c.length = n → bits01 a → bits01 c → Builtin.bitXor (highI a) (highI c) = highI (addW c a)
  | 0, a, c, h1, h2, _, _ => by
    have e1 : a = [] := List.eq_nil_of_length_eq_zero h1
    have e2 : c = [] := List.eq_nil_of_length_eq_zero h2
    subst e1 e2
    decide +kernel
  | n + 1, a, c, h1, h2, ha, hc => by
    have n1 : a ≠ [] := fun e => by subst e; cases h1
    have n2 : c ≠ [] := fun e => by subst e; cases h2
    have e1 := (List.dropLast_concat_getLast n1).symm
    have e2 := (List.dropLast_concat_getLast n2).symm
    have b1 := ha _ (List.getLast_mem n1)
    have b2 := hc _ (List.getLast_mem n2)
    generalize a.getLast n1 = x at e1 b1
    generalize c.getLast n2 = y at e2 b2
    generalize hm : a.dropLast = p at e1
    generalize hm' : c.dropLast = q at e2
    subst e1 e2
    have l1 : p.length = n := by simpa using h1
    have l2 : q.length = n := by simpa using h2
    have hp : bits01 p := fun b hb => ha b (by simp [hb])
    have hq : bits01 q := fun b hb => hc b (by simp [hb])
    rw [highI_snoc, highI_snoc, addW_both q p y x (by omega), highI_snoc, xor_low _ _ _ _ (highI_lt _ p rfl hp).1 (highI_lt _ q rfl hq).1 b1 b2, highI_xor n p q l1 l2 hp hq]
/-- the marks of the two sums, the highest bit first -/
def W5 : List Int := [0, 0, 1, 0, 1]
def W16 : List Int := [1, 0, 0, 0, 0, 0, 0, 0, 0, 0, 0, 0, 0, 1, 0, 1]
/-- a register's step as a number -/
theorem reg_num (W R : List Int) (b full : Int) (hW : bits01 W) (hR : bits01 R) (hl : R.length = W.length) (h0 : 0 < W.length) (hf : full + 1 = 2 ^ W.length) (hand : ∀ x, Builtin.bitAnd x full = x % (full + 1)) (hb : b = 0 ∨ b = 1) :
    (full < highI R * 2 ∨ highI R * 2 ≤ full) ∧ (full < highI R * 2 → b = 0 → highI (regStep W R b) = Builtin.bitXor (Builtin.bitAnd (highI R * 2) full) (highI W)) ∧ (full < highI R * 2 → b = 1 → highI (regStep W R b) = Builtin.bitAnd (highI R * 2) full) ∧
      (highI R * 2 ≤ full → b = 1 → highI (regStep W R b) = Builtin.bitXor (Builtin.bitAnd (highI R * 2) full) (highI W)) ∧ (highI R * 2 ≤ full → b = 0 → highI (regStep W R b) = Builtin.bitAnd (highI R * 2) full) := by
  cases R with
  | nil => simp at hl; omega
  | cons r R' =>
    have hr := hR r (by simp)
    have hR' : bits01 R' := fun c hc => hR c (by simp [hc])
    have h2 : bits01 (R' ++ [0]) := fun c hc => by
      rcases List.mem_append.mp hc with e | e
      · exact hR' c e
      · exact .inl (by simpa using e)
    have hlt := highI_lt _ R' rfl hR'
    have hc := highI_cons r _ R' rfl
    have hs : highI (R' ++ [0]) = 2 * highI R' := by rw [highI_snoc]; omega
    have hm : full + 1 = 2 * 2 ^ R'.length := by
      rw [hf, ← hl, List.length_cons, Int.pow_succ]
      omega
    have hl2 : (R' ++ [0]).length = W.length := by rw [← hl]; simp
    have hx := highI_xor _ (R' ++ [0]) W hl2 rfl h2 hW
    have hA : Builtin.bitAnd (highI (r :: R') * 2) full = highI (R' ++ [0]) := by
      rw [hand, hs, hc]
      generalize (2 : Int) ^ R'.length = p at *
      rcases hr with rfl | rfl
      · rw [show (0 * p + highI R') * 2 = 2 * highI R' by omega]
        exact Int.emod_eq_of_lt (by omega) (by omega)
      · rw [show (1 * p + highI R') * 2 = 2 * highI R' + (full + 1) by omega, Int.add_emod_right]
        exact Int.emod_eq_of_lt (by omega) (by omega)
    have hgt : full < highI (r :: R') * 2 ↔ r = 1 := by
      rw [hc]
      generalize (2 : Int) ^ R'.length = p at *
      rcases hr with rfl | rfl <;> omega
    rw [hA, hx]
    unfold regStep
    simp only
    refine ⟨by omega, fun g e => ?_, fun g e => ?_, fun g e => ?_, fun g e => ?_⟩
    · have := hgt.mp g
      rw [if_pos (by omega)]
    · have := hgt.mp g
      rw [if_neg (by omega)]
    · have : r ≠ 1 := fun z => by have := hgt.mpr z; omega
      rw [if_pos (by omega)]
    · have : r ≠ 1 := fun z => by have := hgt.mpr z; omega
      rw [if_neg (by omega)]
theorem crc_num (W row : List Int) (full : Int) (hf : full + 1 = 2 ^ W.length) (hW : bits01 W) : Builtin.bitXor (highI (regN W (List.replicate W.length 1) row)) full = highI (crcI W row) := by
  have hb : bits01 (List.replicate W.length 1) := fun c hc => .inr (List.mem_replicate.mp hc).2
  have h1 := regN_bits W row _ hb
  have h2 := regN_len W row (List.replicate W.length 1)
  rw [List.length_replicate] at h2
  have hfull : full = highI (List.replicate W.length 1) := by
    have e := highI_not _ (List.replicate W.length (1 : Int)) rfl
    rw [List.map_replicate, List.length_replicate] at e
    have z : ∀ n, highI (List.replicate n (1 - 1 : Int)) = 0 := fun n => by
      induction n with
      | zero => rfl
      | succ n ih => rw [List.replicate_succ', highI_snoc, ih]; rfl
    rw [z] at e
    omega
  rw [hfull, highI_xor _ _ _ h2 (by simp) h1 hb]
  congr 1
  unfold crcI
  generalize regN W (List.replicate W.length 1) row = l at *
  clear hfull hb hf hW
  revert h2
  generalize W.length = n
  intro h2
  induction l generalizing n with
  | nil => subst h2; rfl
  | cons x l ih =>
    subst h2
    have := h1 x (by simp)
    simp only [List.length_cons, List.replicate_succ, addW, List.map_cons, ih (fun c hc => h1 c (by simp [hc])) _ rfl, List.cons.injEq, and_true]
    omega
end DL

/-! Dicts. -/
namespace DL
open PySem L2 PySem.Spec PyProof.Rows

/-! ### dicts of the text, with texts as keys -/
/-- entry by entry -/
inductive EntD (K : PySem.W.Frag) (w : World) : List DictEntry → List (Str × D) → Prop
  | nil : EntD K w [] []
  | cons {e : DictEntry} {es : List DictEntry} {x : Str} {d : D} {v : V} {kvs : List (Str × D)} (hk : ∃ t, e.key = .str x t) (hh : e.hash = PyData.keyHash w.params x) (hv : RelV v e.val) (hd : ∀ ρ F, Rd K ρ F d v) (r : EntD K w es kvs) : EntD K w (e :: es) ((x, d) :: kvs)
def KDD (K : PySem.W.Frag) (w : World) (a : Addr) (kvs : List (Str × D)) : Prop := ∃ es n, KDict K w a es n ∧ EntD K w es.toList kvs
theorem EntD.lit {K : PySem.W.Frag} {w : World} {es : List DictEntry} {kvs : List (Str × D)} (h : EntD K w es kvs) : PySem.W.KeysLit w.params es := by
  induction h with
  | nil => trivial
  | cons hk hh hv hd r ih => exact ⟨let ⟨t, e⟩ := hk; ⟨_, t, e, hh⟩, ih⟩
theorem EntD.find {K : PySem.W.Frag} {w : World} {es : List DictEntry} {kvs : List (Str × D)} (h : EntD K w es kvs) (z : Str) :
    match kvs.lookup z with
    | some d => ∃ e v, es.find? (·.key.isStr z) = some e ∧ RelV v e.val ∧ ∀ ρ F, Rd K ρ F d v
    | none => es.find? (·.key.isStr z) = none ∧ es.any (·.refKey) = false := by
  induction h with
  | nil => exact ⟨rfl, rfl⟩
  | @cons e es x d v kvs hk hh hv hd r ih =>
    obtain ⟨t, ek⟩ := hk
    have e1 : e.key.isStr z = (z == x) := by
      rw [ek]
      show (x == z) = (z == x)
      rw [Bool.eq_iff_iff, beq_iff_eq, beq_iff_eq]
      exact ⟨Eq.symm, Eq.symm⟩
    have e2 : e.refKey = false := by unfold DictEntry.refKey; rw [ek]
    rw [List.lookup_cons]
    cases q : z == x with
    | true =>
      simp only
      exact ⟨e, v, by rw [List.find?_cons, e1, q], hv, hd⟩
    | false =>
      simp only
      rw [List.find?_cons, e1, q, List.any_cons, e2, Bool.false_or]
      exact ih
theorem EntD.nsIn {K : PySem.W.Frag} {w : World} {a : Addr} {es : Array DictEntry} {n : Nat} {kvs : List (Str × D)} (D : KDict K w a es n) (h : EntD K w es.toList kvs) (z : Str) :
    match kvs.lookup z with
    | some d => ∃ u v, PySem.W.nsIn K a z = some (some u) ∧ RelV v u ∧ ∀ ρ F, Rd K ρ F d v
    | none => PySem.W.nsIn K a z = some none := by
  have q := h.find z
  unfold PySem.W.nsIn
  rw [D.at_]
  cases e : kvs.lookup z with
  | none =>
    rw [e] at q
    simp only at q ⊢
    rw [q.1, q.2]
    rfl
  | some d =>
    rw [e] at q
    obtain ⟨en, v, e1, e2, e3⟩ := q
    simp only
    rw [e1]
    exact ⟨_, v, rfl, e2, e3⟩
section
variable {X : Cx} {W : WX} {a b : Expr} {pos : Pos} {fa fb : DS → R D} {x : Str} {G : Addr} {kvs : List (Str × D)} {p : Pos}
/-- k in D, D a module's dict -/
def fGIn (neg : Bool) (kvs : List (Str × D)) (fa : DS → R D) : DS → R D := fun s => (fa s).bind fun d s1 => match d with
  | .str z => .ok (.bl (if neg = true then !(kvs.lookup z).isSome else (kvs.lookup z).isSome)) s1
  | _ => .bad
def fGGet (kvs : List (Str × D)) (fa : DS → R D) : DS → R D := fun s => (fa s).bind fun d s1 => match d with
  | .str z => (match kvs.lookup z with
    | some d => .ok d s1
    | none => .bad)
  | _ => .bad
theorem pe_gref (hg : Gl X x) (hm : X.mg x = some (.ref G)) (hd : (x == ("__debug__" : Str)) = false := by decide) : PE X (.Name x p) (tC (.ref G)) := pe_glob (v := .ref G) hg hm rfl hd
theorem gin_run {t : TE} (D : KDD X.K X.w G kvs) (l : Stl X W (Rd X.K) t fa) (neg : Bool) {r : R2} (hr : ∀ (z : Str) (o : Option Value) (H : Hp) (Q : VK), PySem.W.nsIn X.K G z = some o → Q (.bl (if neg = true then !o.isSome else o.isSome)) H → r (.str z) (.ref G) H Q) :
    Stl X W (Rd X.K) (tOp r t (tC (.ref G))) (fGIn neg kvs fa) := by
  obtain ⟨es, n, KD, he⟩ := D
  intro ρ F s σ H Q rl h
  refine l ρ F s σ H _ rl (h.bind fun d s1 ρ1 F1 H1 v x1 rl1 rd1 h1 => ?_)
  cases d with
  | str z =>
    cases rd1
    have q := he.nsIn KD z
    cases e : kvs.lookup z with
    | none =>
      rw [e] at q
      simp only [e] at q h1
      exact hr z none H1 Q q (h1 ρ1 F1 H1 _ (Ext.refl ..) rl1 rfl)
    | some d =>
      rw [e] at q
      simp only [e] at q h1
      obtain ⟨u, v, e1, _, _⟩ := q
      exact hr z (some u) H1 Q e1 (h1 ρ1 F1 H1 _ (Ext.refl ..) rl1 rfl)
  | _ => exact h1.elim
theorem pd_gin (hg : Gl X x) (hm : X.mg x = some (.ref G)) (D : KDD X.K X.w G kvs) (ha : PD X W a fa) (hb : behindInMarks .In (.Name x p) = false := by rfl) (hd : (x == ("__debug__" : Str)) = false := by decide) : PD X W (.Compare a [.In] [.Name x p] pos) (fGIn false kvs fa) := by
  obtain ⟨t, e1, l⟩ := ha
  obtain ⟨es, n, KD, he⟩ := id D
  exact ⟨_, pe_cmpR (op_in_kd KD) e1 (pe_gref hg hm hd) hb, gin_run D l false fun z o H Q q h => ⟨z, o, rfl, rfl, q, h⟩⟩
theorem pd_gnotin (hg : Gl X x) (hm : X.mg x = some (.ref G)) (D : KDD X.K X.w G kvs) (ha : PD X W a fa) (hb : behindInMarks .NotIn (.Name x p) = false := by rfl) (hd : (x == ("__debug__" : Str)) = false := by decide) : PD X W (.Compare a [.NotIn] [.Name x p] pos) (fGIn true kvs fa) := by
  obtain ⟨t, e1, l⟩ := ha
  obtain ⟨es, n, KD, he⟩ := id D
  exact ⟨_, pe_cmpR (op_notIn_kd KD) e1 (pe_gref hg hm hd) hb, gin_run D l true fun z o H Q q h => ⟨z, o, rfl, rfl, q, h⟩⟩
theorem pdt_gin (hg : Gl X x) (hm : X.mg x = some (.ref G)) (D : KDD X.K X.w G kvs) (ha : PD X W a fa) (hb : behindInMarks .In (.Name x p) = false := by rfl) (hd : (x == ("__debug__" : Str)) = false := by decide) : PDT X W (.Compare a [.In] [.Name x p] pos) (fTst (fGIn false kvs fa)) := by
  obtain ⟨t, e1, l⟩ := ha
  obtain ⟨es, n, KD, he⟩ := id D
  exact ⟨_, pt_cmpR (op_in_kd KD) e1 (pe_gref hg hm hd) hb, fun ρ F s σ H Q rl h => gin_run D l false (fun z o H Q q h => ⟨z, o, rfl, rfl, q, h⟩) ρ F s σ H _ rl h.asB⟩
theorem pdt_gnotin (hg : Gl X x) (hm : X.mg x = some (.ref G)) (D : KDD X.K X.w G kvs) (ha : PD X W a fa) (hb : behindInMarks .NotIn (.Name x p) = false := by rfl) (hd : (x == ("__debug__" : Str)) = false := by decide) : PDT X W (.Compare a [.NotIn] [.Name x p] pos) (fTst (fGIn true kvs fa)) := by
  obtain ⟨t, e1, l⟩ := ha
  obtain ⟨es, n, KD, he⟩ := id D
  exact ⟨_, pt_cmpR (op_notIn_kd KD) e1 (pe_gref hg hm hd) hb, fun ρ F s σ H Q rl h => gin_run D l true (fun z o H Q q h => ⟨z, o, rfl, rfl, q, h⟩) ρ F s σ H _ rl h.asB⟩
/-- D[k] -/
theorem pd_gget (hg : Gl X x) (hm : X.mg x = some (.ref G)) (D : KDD X.K X.w G kvs) (hb : PD X W b fb) (hs : PlainIx b := by exact fun _ _ => rfl) (hd : (x == ("__debug__" : Str)) = false := by decide) : PD X W (.Subscript (.Name x p) b pos) (fGGet kvs fb) := by
  obtain ⟨t, e1, l⟩ := hb
  obtain ⟨es, n, KD, he⟩ := D
  refine ⟨_, pe_ix ix_kdict (pe_gref hg hm hd) e1 hs, fun ρ F s σ H Q rl h => ?_⟩
  refine l ρ F s σ H _ rl (h.bind fun d s1 ρ1 F1 H1 v x1 rl1 rd1 h1 => ?_)
  cases d with
  | str z =>
    cases rd1
    have q := he.nsIn KD z
    cases e : kvs.lookup z with
    | none => simp only [e] at h1; exact h1.elim
    | some d =>
      rw [e] at q
      simp only [e] at q h1
      obtain ⟨u, v, e1, e2, e3⟩ := q
      exact ⟨G, z, v, rfl, rfl, ⟨es, n, u, KD.at_, KD.lit, e1, e2⟩, h1 ρ1 F1 H1 _ (Ext.refl ..) rl1 (e3 ρ1 F1)⟩
  | _ => exact h1.elim
/-! for k in D -/
def ItkK (ks : List Str) : It := ⟨fun i _ => i < ks.length, fun i H x H' => H' = H ∧ ∃ k, ks[i]? = some k ∧ x = .str k, fun i _ => ks.length ≤ i⟩
theorem EntD.keys {K : PySem.W.Frag} {w : World} {es : List DictEntry} {kvs : List (Str × D)} (h : EntD K w es kvs) : es.length = kvs.length ∧ ∀ (i : Nat) (e : DictEntry), es[i]? = some e → ∃ k t, (kvs.map (·.1))[i]? = some k ∧ e.key = .str k t := by
  induction h with
  | nil => exact ⟨rfl, fun i e h => by simp at h⟩
  | cons hk hh hv hd r ih =>
    refine ⟨by simp [ih.1], fun i e h => ?_⟩
    cases i with
    | zero =>
      simp only [List.getElem?_cons_zero, Option.some.injEq] at h
      subst h
      obtain ⟨t, q⟩ := hk
      exact ⟨_, t, rfl, q⟩
    | succ i =>
      simp only [List.getElem?_cons_succ] at h
      exact ih.2 i e h
theorem turn_keysK {P : Program} {w : World} {K : PySem.W.Frag} {tg : Expr} {d : Addr} {es : Array DictEntry} {n : Nat} {kvs : List (Str × D)} (KD : KDict K w d es n) (he : EntD K w es.toList kvs) (it : Addr) : Turn P w K tg (ItkK (kvs.map (·.1))) [it] it (fun i h => h.IsKeyIter it d i es.size n) where
  mem := by simp
  obj := fun i h st b hb => by
    have e : b = it := by simpa using hb
    subst e
    obtain ⟨oi, e, c, dd⟩ := st
    exact ⟨oi, e, fun v z => by rw [dd] at z; cases z⟩
  keep := fun i h h' st k => st.at fun oi e => k it (by simp) oi e
  item := by
    intro X hP hw hK hc i pins s σ H E I hf st hg
    subst hP hw hK
    have hi : i < (kvs.map (·.1)).length := hg
    obtain ⟨f0, f1, f2, f3, f4, f5⟩ := hf it (by simp)
    have hod := I.kIn _ _ KD.at_
    have hsz : es.size = kvs.length := by have := he.keys.1; simpa using this
    rw [List.length_map] at hi
    obtain ⟨en, hen⟩ : ∃ en, es[i]? = some en := ⟨es[i]'(by omega), Array.getElem?_eq_getElem (by omega)⟩
    obtain ⟨k, t, hk, ek⟩ := he.keys.2 i en (by rw [← hen]; simp)
    refine next_key_item st hod rfl rfl hen fun h' st' sb => ?_
    have I1 : Inv X pins σ H { s with heap := h' } := I.turned (t' := s.toks) (fun b ob hb e => (sb.2 b hb).trans e) f0 f1 f3 f4 f5
    obtain ⟨oi, e, c, dd⟩ := id st'
    exact ⟨en.key, rfl, go_of (s := { s with heap := h' }) e c dd (by decide) ⟨.str k, H, I1, ⟨t, ek⟩, ⟨rfl, k, hk, rfl⟩, st', fun b hb => (hf b hb).1⟩⟩
  done := by
    intro X hP hw hK hc i pins s σ H E I hf st hg
    subst hP hw hK
    have hi : (kvs.map (·.1)).length ≤ i := hg
    obtain ⟨f0, f1, f2, f3, f4, f5⟩ := hf it (by simp)
    have hod := I.kIn _ _ KD.at_
    have hsz : es.size = kvs.length := by have := he.keys.1; simpa using this
    rw [List.length_map] at hi
    exact next_key_end (I.ok.hd hc) st hod rfl rfl (by omega) fun h' eb => ⟨rfl, I.turned (t' := s.toks) (fun b ob hb e => eb b ob hb e) f0 f1 f3 f4 f5⟩
  self := fun A i s Q E st h => wpAny_pyIter_keyiter st h
def fWGk (kvs : List (Str × D)) : DS → R Wk := fun s => .ok (kvs.map fun p => .str p.1, allw) s
theorem jok_keysK {K : PySem.W.Frag} {mg : Str → Option Value} {P : List MO → Prop} {ρ : List Addr} {F H : Hp} {kvs : List (Str × D)} : JOk K mg P (kvs.map fun p => .str p.1) ρ F H (ItkK (kvs.map (·.1))) := by
  refine ⟨fun ρ' F' H' μ x m _ => by simp [ItkK], fun i d e ρ' F' H' μ x m _ => ?_⟩
  have hi : i < kvs.length := by
    have := (List.getElem?_eq_some_iff.mp e).1
    simpa using this
  refine ⟨by simpa [ItkK] using hi, fun y H2 yd => ?_⟩
  obtain ⟨rfl, k, hk, rfl⟩ := yd
  refine ⟨F', Ext.refl .., m, ?_⟩
  rw [List.getElem?_map] at e hk
  cases q : kvs[i]? with
  | none => rw [q] at e; cases e
  | some p =>
    rw [q] at e hk
    cases e
    cases hk
    rfl
theorem pdi_gkeys {tg : Expr} (hg : Gl X x) (hm : X.mg x = some (.ref G)) (D : KDD X.K X.w G kvs) (hd : (x == ("__debug__" : Str)) = false := by decide) : PDI X W tg (.Name x p) (fWGk kvs) := by
  obtain ⟨es, n, KD, he⟩ := D
  refine ⟨fun σ H Rr => Rr (ItkK (kvs.map (·.1))) H, ⟨fun pins s σ H R I h => ?_⟩, fun ρ F s σ H Rr rl h => h ρ F H _ (Ext.refl ..) rl jok_keysK⟩
  refine thn ((pe_gref (p := p) hg hm hd).run pins s σ H (fun x H1 => x = .ref G ∧ R (ItkK (kvs.map (·.1))) H1) I ⟨rfl, h⟩) fun u s1 ⟨x, H1, I1, rx, ex, q⟩ => ?_
  subst ex
  obtain rfl : u = Value.ref G := rx
  have hod := I1.kIn _ _ KD.at_
  exact iter_keys KD.low hod ⟨rfl, rfl, rfl⟩ rfl (pi_one (tk := s1.toks) I1 _ (turn_keysK KD he _) ⟨_, Heap.get?_push_size _ rfl, rfl, rfl⟩ q)
end
/-! ### dicts that are made -/
def keyD : D → Option Key
  | .int i => some (.inl i)
  | .str x => some (.inr x)
  | _ => none
theorem keyD_rd {K : PySem.W.Frag} {ρ : List Addr} {F : Hp} {d : D} {v : V} {k : Key} (r : Rd K ρ F d v) (h : keyD d = some k) : v = kV k := by
  cases d with
  | int i => cases h; exact r
  | str x => cases h; exact r
  | _ => cases h
section
variable {X : Cx} {W : WX} {a b : Expr} {pos : Pos} {fa fb : DS → R D}
def fPNil : DS → R (List (D × D)) := fun s => .ok [] s
def fPCons (fk fv : DS → R D) (fr : DS → R (List (D × D))) : DS → R (List (D × D)) := fun s => (fk s).bind fun k s1 => (fv s1).bind fun v s2 => (fr s2).bind fun r s3 => .ok ((k, v) :: r) s3
def RdPs (K : PySem.W.Frag) (ρ : List Addr) (F : Hp) : List (D × D) → List (V × V) → Prop
  | [], vs => vs = []
  | (k, d) :: r, vs => ∃ x y t, vs = (x, y) :: t ∧ Rd K ρ F k x ∧ Rd K ρ F d y ∧ RdPs K ρ F r t
def PDPs (X : Cx) (W : WX) (pos : Pos) (keys : List (Option Expr)) (values : List Expr) (f : DS → R (List (D × D))) : Prop := ∃ trs, PPs X pos keys values trs ∧ Stl X W (RdPs X.K) (tPairs trs) f
theorem pdp_nil : PDPs X W pos [] [] fPNil := ⟨_, pps_nil, fun ρ F s σ H Q rl h => h ρ F H _ (Ext.refl ..) rl rfl⟩
theorem pdp_cons {ks : List (Option Expr)} {vs : List Expr} {fr : DS → R (List (D × D))} (ha : PD X W a fa) (hb : PD X W b fb) (hr : PDPs X W pos ks vs fr) : PDPs X W pos (some a :: ks) (b :: vs) (fPCons fa fb fr) := by
  obtain ⟨t1, e1, l1⟩ := ha
  obtain ⟨t2, e2, l2⟩ := hb
  obtain ⟨t3, e3, l3⟩ := hr
  refine ⟨_, pps_cons e1 e2 e3, fun ρ F s σ H Q rl h => l1 ρ F s σ H _ rl (h.bind fun k s1 ρ1 F1 H1 x x1 rl1 rd1 h1 => ?_)⟩
  refine l2 ρ1 F1 s1 σ H1 _ rl1 (Post.bind h1 fun v s2 ρ2 F2 H2 y x2 rl2 rd2 h2 => ?_)
  refine l3 ρ2 F2 s2 σ H2 _ rl2 (Post.bind h2 fun r s3 ρ3 F3 H3 t x3 rl3 rd3 h3 => ?_)
  exact h3 ρ3 F3 H3 _ (Ext.refl ..) rl3 ⟨x, y, t, rfl, (rd1.ext x2).ext x3, rd2.ext x3, rd3⟩
/-- pairs as a table -/
def tabD : List (D × D) → Option (List (Key × D))
  | [] => some []
  | (k, d) :: r => match keyD k, tabD r with
    | some k, some t => some ((k, d) :: t)
    | _, _ => none
theorem tabD_rd {K : PySem.W.Frag} {ρ : List Addr} {F : Hp} : ∀ {ps : List (D × D)} {vs : List (V × V)} {kvs : List (Key × D)}, RdPs K ρ F ps vs → tabD ps = some kvs → ∃ us : List (Key × V), RdK K ρ F kvs us ∧ vs = us.map fun kv => (kV kv.1, kv.2)
  | [], vs, kvs, r, h => by
    cases h
    simp only [RdPs] at r
    subst r
    exact ⟨[], rfl, rfl⟩
  | (k, d) :: ps, vs, kvs, r, h => by
    obtain ⟨x, y, t, rfl, r1, r2, r3⟩ := r
    unfold tabD at h
    split at h
    · rename_i k' t' e1 e2
      cases h
      obtain ⟨us, q1, q2⟩ := tabD_rd r3 e2
      exact ⟨(k', y) :: us, ⟨y, us, rfl, r2, q1⟩, by rw [keyD_rd r1 e1, q2]; rfl⟩
    · cases h
theorem RdK.length {κ : Type} {K : PySem.W.Frag} {ρ : List Addr} {F : Hp} : ∀ {ds : List (κ × D)} {vs : List (κ × V)}, RdK K ρ F ds vs → vs.length = ds.length ∧ vs.map (·.1) = ds.map (·.1)
  | [], _, h => by
    simp only [RdK] at h
    subst h
    exact ⟨rfl, rfl⟩
  | (k, d) :: r, _, h => by
    obtain ⟨v, t, rfl, _, q⟩ := h
    simp [RdK.length q]
theorem mergeK_nodup : ∀ (kvs acc : List (Key × V)), ((acc ++ kvs).map (·.1)).Nodup → mergeK acc kvs = acc ++ kvs
  | [], acc, _ => by simp [mergeK]
  | (k, v) :: kvs, acc, h => by
    have h1 : valV acc k = none := by
      unfold valV
      rw [Option.map_eq_none_iff, List.find?_eq_none]
      intro p hp e
      have e' : p.1 = k := by simpa using e
      rw [List.map_append, List.nodup_append] at h
      exact h.2.2 p.1 (List.mem_map_of_mem hp) k (by simp) e'
    show mergeK (putK acc k v) kvs = _
    rw [putK_new v h1, mergeK_nodup kvs _ (by simpa using h)]
    simp
/-- {k: v, ..} -/
noncomputable def fDisp (f : DS → R (List (D × D))) : DS → R D := fun s => (f { s with m := s.m ++ [.dK []] }).bind fun ps s1 => match tabD ps, s1.m[s.m.length]? with
  | some kvs, some (.dK []) => if (kvs.map (·.1)).Nodup ∧ kvs.length ≤ 15 then .ok (.obj s.m.length) { s1 with m := s1.m.set s.m.length (.dK kvs) } else .bad
  | _, _ => .bad
theorem pd_disp {keys : List (Option Expr)} {values : List Expr} {f : DS → R (List (D × D))} (h : PDPs X W pos keys values f) (hall : keys.all (·.isSome) = true := by rfl) (hl : keys.length = values.length := by rfl) (h0 : keys ≠ [] := by simp) (h15 : keys.length ≤ 15 := by decide) : PD X W (.Dict keys values pos) (fDisp f) := by
  obtain ⟨trs, e, l⟩ := h
  refine ⟨_, pe_disp e hall hl h0 h15, fun ρ F s σ H Q rl h p hp => ?_⟩
  obtain ⟨m, x⟩ := rl.mem.alloc (o := .dK []) (m := .dK []) hp trivial ⟨[], upd_same, rfl⟩
  have h' := Post.ext h x
  refine l _ _ { s with m := s.m ++ [.dK []] } _ _ _ ⟨m, rl.slo.ext x⟩ (h'.bind fun ps s1 ρ1 F1 H1 vs x1 rl1 rd1 h1 => ?_)
  split at h1
  · rename_i kvs e1 e2
    split at h1
    · rename_i hc
      obtain ⟨us, q1, q2⟩ := tabD_rd rd1 e1
      have hat : ρ1[s.m.length]? = some p := by
        obtain ⟨l', e'⟩ := x1.pre
        rw [e']
        refine pre_get ?_
        rw [← rl.mem.len, List.getElem?_append_right (Nat.le_refl _)]
        simp
      obtain ⟨_, vs0, o1, o2⟩ := rl1.mem.own _ _ _ hat e2 trivial
      simp only [RdK] at o2
      subst o2
      refine ⟨o1, us, q2, by rw [q1.length.1]; exact hc.2, ?_⟩
      have e4 : mergeK [] us = us := by
        have := mergeK_nodup us [] (by rw [List.nil_append, q1.length.2]; exact hc.1)
        simpa using this
      rw [e4]
      obtain ⟨m2, x2⟩ := rl1.mem.set (n := .dK kvs) (o := .dK us) hat e2 trivial ⟨us, upd_same, q1⟩
      exact h1 _ _ _ _ x2 ⟨m2, rl1.slo.ext x2⟩ ⟨p, rfl, hat⟩
    · exact h1.elim
  · exact h1.elim
/-- the table of an object -/
def dctV (s : DS) : D → Option (List (Key × D))
  | .obj k => match s.m[k]? with
    | some (.dK kvs) => some kvs
    | _ => none
  | _ => none
def valD (kvs : List (Key × D)) (k : Key) : Option D := (kvs.find? fun kv => decide (kv.1 = k)).map (·.2)
theorem RdK.val {K : PySem.W.Frag} {ρ : List Addr} {F : Hp} {k : Key} : ∀ {kvs : List (Key × D)} {vs : List (Key × V)}, RdK K ρ F kvs vs → match valD kvs k with
    | some d => ∃ v, valV vs k = some v ∧ Rd K ρ F d v
    | none => valV vs k = none
  | [], _, h => by
    simp only [RdK] at h
    subst h
    rfl
  | (j, d) :: r, _, h => by
    obtain ⟨v, t, rfl, h1, h2⟩ := h
    by_cases e : j = k
    · have a1 : valD ((j, d) :: r) k = some d := by simp [valD, List.find?_cons, e]
      rw [a1]
      exact ⟨v, valV_pos e, h1⟩
    · have a1 : valD ((j, d) :: r) k = valD r k := by simp [valD, List.find?_cons, e]
      rw [a1, valV_neg e]
      exact RdK.val h2
theorem dctV_rd {K : PySem.W.Frag} {mg : Str → Option Value} {ρ : List Addr} {F H : Hp} {s : DS} {d : D} {v : V} {kvs : List (Key × D)} (rl : MRel K mg ρ F s.m H) (r : Rd K ρ F d v) (h : dctV s d = some kvs) : ∃ a us, v = .ref a ∧ H a = some (.dK us) ∧ RdK K ρ F kvs us := by
  unfold dctV at h
  split at h
  · split at h
    · rename_i k kvs' e
      cases h
      obtain ⟨a, rfl, ha⟩ := r
      obtain ⟨_, us, h1, h2⟩ := rl.own _ _ _ ha e trivial
      exact ⟨a, us, rfl, h1, h2⟩
    · cases h
  · cases h
/-- d[k] -/
def gDget : D → D → DS → R D := fun x y s => match dctV s x, keyD y with
  | some kvs, some k => (match valD kvs k with
    | some d => .ok d s
    | none => .bad)
  | _, _ => .bad
theorem pd_dget (hu : X.A.units + 1 < cLine) (ha : PD X W a fa) (hb : PD X W b fb) (hs : NoSl b := by exact fun _ _ _ => rfl) : PD X W (.Subscript a b pos) (fBin fa fb gDget) := by
  obtain ⟨t1, e1, l1⟩ := ha
  obtain ⟨t2, e2, l2⟩ := hb
  refine ⟨_, pe_dget hu e1 e2 hs, fun ρ F s σ H Q rl h => l1 ρ F s σ H _ rl (h.bind fun x s1 ρ1 F1 H1 v x1 rl1 rd1 h1 => ?_)⟩
  refine l2 ρ1 F1 s1 σ H1 _ rl1 (Post.bind h1 fun y s2 ρ2 F2 H2 u x2 rl2 rd2 h2 => ?_)
  unfold gDget at h2
  split at h2
  · rename_i kvs k q1 q2
    obtain ⟨p, us, rfl, o1, o2⟩ := dctV_rd rl2.mem (rd1.ext x2) q1
    have o3 := o2.val (k := k)
    split at h2
    · rename_i d q3
      rw [q3] at o3
      obtain ⟨w, o4, o5⟩ := o3
      refine ⟨p, w, rfl, ?_, h2 ρ2 F2 H2 _ (Ext.refl ..) rl2 o5⟩
      rw [keyD_rd rd2 q2, ← o4]
      exact DGet.k o1
    · exact h2.elim
  · exact h2.elim
/-- k in d -/
def gDin (neg : Bool) : D → D → DS → R D := fun y x s => match dctV s x, keyD y with
  | some kvs, some k => .ok (.bl (if neg = true then !(valD kvs k).isSome else (valD kvs k).isSome)) s
  | _, _ => .bad
def fDin (neg : Bool) (fa fb : DS → R D) : DS → R D := fBin fa fb (gDin neg)
theorem din_val {K : PySem.W.Frag} {ρ : List Addr} {F : Hp} {k : Key} {kvs : List (Key × D)} {vs : List (Key × V)} (h : RdK K ρ F kvs vs) : (valV vs k).isSome = (valD kvs k).isSome := by
  have q := h.val (k := k)
  split at q
  · rename_i d e
    obtain ⟨v, e1, _⟩ := q
    rw [e1, e]
    rfl
  · rename_i e
    rw [q, e]
    rfl
theorem pd_din (hu : X.A.units + 1 < cLine) (ha : PD X W a fa) (hb : PD X W b fb) (hm : behindInMarks .In b = false := by rfl) : PD X W (.Compare a [.In] [b] pos) (fDin false fa fb) := by
  obtain ⟨t1, e1, l1⟩ := ha
  obtain ⟨t2, e2, l2⟩ := hb
  refine ⟨_, pe_cmp (pc_din hu e1 e2) hm, fun ρ F s σ H Q rl h => l1 ρ F s σ H _ rl (Post.bind h fun y s1 ρ1 F1 H1 v x1 rl1 rd1 h1 => ?_)⟩
  refine l2 ρ1 F1 s1 σ H1 _ rl1 (Post.bind h1 fun x s2 ρ2 F2 H2 u x2 rl2 rd2 h2 => ?_)
  unfold gDin at h2
  split at h2
  · rename_i kvs k q1 q2
    obtain ⟨p, us, rfl, o1, o2⟩ := dctV_rd rl2.mem rd2 q1
    refine ⟨p, valV us k, rfl, ?_, ?_⟩
    · rw [keyD_rd (rd1.ext x2) q2]
      exact DGet.k o1
    · rw [din_val o2]
      exact h2 ρ2 F2 H2 _ (Ext.refl ..) rl2 rfl
  · exact h2.elim
theorem pd_dnotin (hu : X.A.units + 1 < cLine) (ha : PD X W a fa) (hb : PD X W b fb) (hm : behindInMarks .NotIn b = false := by rfl) : PD X W (.Compare a [.NotIn] [b] pos) (fDin true fa fb) := by
  obtain ⟨t1, e1, l1⟩ := ha
  obtain ⟨t2, e2, l2⟩ := hb
  refine ⟨_, pe_cmp (pc_dnotin hu e1 e2) hm, fun ρ F s σ H Q rl h => l1 ρ F s σ H _ rl (Post.bind h fun y s1 ρ1 F1 H1 v x1 rl1 rd1 h1 => ?_)⟩
  refine l2 ρ1 F1 s1 σ H1 _ rl1 (Post.bind h1 fun x s2 ρ2 F2 H2 u x2 rl2 rd2 h2 => ?_)
  unfold gDin at h2
  split at h2
  · rename_i kvs k q1 q2
    obtain ⟨p, us, rfl, o1, o2⟩ := dctV_rd rl2.mem rd2 q1
    refine ⟨p, valV us k, rfl, ?_, ?_⟩
    · rw [keyD_rd (rd1.ext x2) q2]
      exact DGet.k o1
    · rw [din_val o2]
      exact h2 ρ2 F2 H2 _ (Ext.refl ..) rl2 rfl
  · exact h2.elim
/-- d.get(k, e) -/
def fDget2 (fo fa fb : DS → R D) : DS → R D := fun s => (fo s).bind fun o s1 => if (dctV s1 o).isSome = true then (fa s1).bind fun y s2 => (fb s2).bind fun z s3 => match dctV s3 o, keyD y with
  | some kvs, some k => .ok ((valD kvs k).getD z) s3
  | _, _ => .bad else .bad
theorem pd_dget2 {o : Expr} {apos cpos : Pos} {fo : DS → R D} (hu : X.A.units + 1 < cLine) (ho : PD X W o fo) (ha : PD X W a fa) (hb : PD X W b fb) (m : M2 X o "get" apos a b cpos := by exact ⟨rfl, rfl, rfl, rfl⟩) :
    PD X W (.Call (.Attribute o "get" apos) [a, b] [] cpos) (fDget2 fo fa fb) := by
  obtain ⟨t0, e0, l0⟩ := ho
  obtain ⟨t1, e1, l1⟩ := ha
  obtain ⟨t2, e2, l2⟩ := hb
  refine ⟨_, pe_dget2 hu e0 e1 e2 m, fun ρ F s σ H Q rl h => l0 ρ F s σ H _ rl (Post.bind h fun x s1 ρ1 F1 H1 v x1 rl1 rd1 h1 => ?_)⟩
  split at h1
  · rename_i hs
    obtain ⟨kvs0, q0⟩ := Option.isSome_iff_exists.mp hs
    obtain ⟨p, us, rfl, o1, o2⟩ := dctV_rd rl1.mem rd1 q0
    refine ⟨p, rfl, .inl ⟨us, .inl o1⟩, l1 ρ1 F1 s1 σ H1 _ rl1 (Post.bind h1 fun y s2 ρ2 F2 H2 u x2 rl2 rd2 h2 => ?_)⟩
    refine l2 ρ2 F2 s2 σ H2 _ rl2 (Post.bind h2 fun z s3 ρ3 F3 H3 w x3 rl3 rd3 h3 => ?_)
    split at h3
    · rename_i kvs k q1 q2
      obtain ⟨p', us', e', o1', o2'⟩ := dctV_rd rl3.mem ((rd1.ext x2).ext x3) q1
      cases e'
      refine ⟨valV us' k, ?_, ?_⟩
      · rw [keyD_rd (rd2.ext x3) q2]
        exact DGet.k o1'
      · have q := o2'.val (k := k)
        split at q
        · rename_i d e
          obtain ⟨v', e1, e2⟩ := q
          rw [e] at h3
          rw [e1]
          exact h3 ρ3 F3 H3 _ (Ext.refl ..) rl3 e2
        · rename_i e
          rw [e] at h3
          rw [q]
          exact h3 ρ3 F3 H3 _ (Ext.refl ..) rl3 rd3
    · exact h3.elim
  · exact h1.elim
end
/-! ### texts -/
theorem ofs_inj (a b : String) : Str.ofString a = Str.ofString b ↔ a = b := by
  constructor
  · intro h
    rw [Str.ofString_eq_toList, Str.ofString_eq_toList] at h
    injection h with h1
    have h2 : a.toList.map Char.toNat = b.toList.map Char.toNat := by simpa using h1
    have inj : ∀ x y : List Char, x.map Char.toNat = y.map Char.toNat → x = y := by
      intro x
      induction x with
      | nil => intro y h; cases y with
        | nil => rfl
        | cons _ _ => simp at h
      | cons c x ih => intro y h; cases y with
        | nil => simp at h
        | cons d y =>
          simp only [List.map_cons, List.cons.injEq] at h
          rw [Char.toNat_inj.mp h.1, ih y h.2]
    have h3 : a.toList = b.toList := inj _ _ h2
    exact String.toList_inj.mp h3
  · exact fun e => by rw [e]
@[simp] theorem ofs_eq (a b : String) : (Str.ofString a = Str.ofString b) = (a = b) := propext (ofs_inj a b)
@[simp] theorem ofs_beq (a b : String) : (Str.ofString a == Str.ofString b) = (a == b) := by
  rw [Bool.eq_iff_iff, beq_iff_eq, beq_iff_eq, ofs_inj]
@[simp] theorem ofs_ok (a : String) : PyData.strOk (Str.ofString a) = true := by
  rw [Str.ofString_eq_toList]
  unfold PyData.strOk
  simp only [Array.all_eq_true_iff_forall_mem, decide_eq_true_eq]
  intro x hx
  obtain ⟨c, _, rfl⟩ := List.mem_map.mp (by simpa using hx)
  have h := c.valid
  simp only [UInt32.isValidChar, Nat.isValidChar] at h
  show c.val.toNat < _
  omega
@[simp] theorem gEq_ofs (a b : String) (s : DS) : gEq (.str (Str.ofString a)) (.str (Str.ofString b)) s = .ok (.bl (a == b)) s := by
  rw [gEq_str _ _ _ (ofs_ok a) (ofs_ok b)]
  congr 2
  rw [Bool.eq_iff_iff, dcd_iff, ofs_inj, beq_iff_eq]
@[simp] theorem gNe_ofs (a b : String) (s : DS) : gNe (.str (Str.ofString a)) (.str (Str.ofString b)) s = .ok (.bl (!(a == b))) s := by
  rw [gNe_str _ _ _ (ofs_ok a) (ofs_ok b)]
  congr 3
  rw [Bool.eq_iff_iff, dcd_iff, ofs_inj, beq_iff_eq]
theorem eqD_ofs (a b : String) : eqD (.str (Str.ofString a)) (.str (Str.ofString b)) = (a == b) := by
  simp only [eqD]
  rw [Bool.eq_iff_iff, dcd_iff, ofs_inj, beq_iff_eq]
theorem gIn_strs (neg : Bool) (a : String) (v : D) (bs : List String) (hv : v = .tup (bs.map fun b => .str (Str.ofString b)) ∨ v = .lst (bs.map fun b => .str (Str.ofString b))) (s : DS) : gIn neg (.str (Str.ofString a)) v s = .ok (.bl (if neg = true then !(bs.any fun b => b == a) else bs.any fun b => b == a)) s := by
  have h1 : (bs.map fun b => D.str (Str.ofString b)).all flD = true := by simp [flD]
  have h2 : inD (.str (Str.ofString a)) (bs.map fun b => D.str (Str.ofString b)) = bs.any fun b => b == a := by
    unfold inD
    rw [List.any_map]
    congr 1
    funext b
    exact eqD_ofs b a
  rcases hv with rfl | rfl <;> simp only [gIn, seqV, h1, h2, flD] <;> simp
@[simp] theorem gIn_tup1 (neg : Bool) (a b : String) (s : DS) : gIn neg (.str (Str.ofString a)) (.tup [.str (Str.ofString b)]) s = .ok (.bl (if neg = true then !(b == a) else (b == a))) s := by
  rw [gIn_strs neg a _ [b] (by simp) s]
  all_goals simp [Bool.or_assoc]
@[simp] theorem gIn_tup2 (neg : Bool) (a b c : String) (s : DS) : gIn neg (.str (Str.ofString a)) (.tup [.str (Str.ofString b), .str (Str.ofString c)]) s = .ok (.bl (if neg = true then !(b == a || c == a) else (b == a || c == a))) s := by
  rw [gIn_strs neg a _ [b, c] (by simp) s]
  all_goals simp [Bool.or_assoc]
@[simp] theorem gIn_tup3 (neg : Bool) (a b c d : String) (s : DS) : gIn neg (.str (Str.ofString a)) (.tup [.str (Str.ofString b), .str (Str.ofString c), .str (Str.ofString d)]) s = .ok (.bl (if neg = true then !(b == a || c == a || d == a) else (b == a || c == a || d == a))) s := by
  rw [gIn_strs neg a _ [b, c, d] (by simp) s]
  all_goals simp [Bool.or_assoc]
@[simp] theorem gIn_tup4 (neg : Bool) (a b c d e : String) (s : DS) : gIn neg (.str (Str.ofString a)) (.tup [.str (Str.ofString b), .str (Str.ofString c), .str (Str.ofString d), .str (Str.ofString e)]) s = .ok (.bl (if neg = true then !(b == a || c == a || d == a || e == a) else (b == a || c == a || d == a || e == a))) s := by
  rw [gIn_strs neg a _ [b, c, d, e] (by simp) s]
  all_goals simp [Bool.or_assoc]
@[simp] theorem gIn_tup5 (neg : Bool) (a b c d e f : String) (s : DS) : gIn neg (.str (Str.ofString a)) (.tup [.str (Str.ofString b), .str (Str.ofString c), .str (Str.ofString d), .str (Str.ofString e), .str (Str.ofString f)]) s = .ok (.bl (if neg = true then !(b == a || c == a || d == a || e == a || f == a) else (b == a || c == a || d == a || e == a || f == a))) s := by
  rw [gIn_strs neg a _ [b, c, d, e, f] (by simp) s]
  all_goals simp [Bool.or_assoc]
@[simp] theorem gIn_tup6 (neg : Bool) (a b c d e f g : String) (s : DS) : gIn neg (.str (Str.ofString a)) (.tup [.str (Str.ofString b), .str (Str.ofString c), .str (Str.ofString d), .str (Str.ofString e), .str (Str.ofString f), .str (Str.ofString g)]) s = .ok (.bl (if neg = true then !(b == a || c == a || d == a || e == a || f == a || g == a) else (b == a || c == a || d == a || e == a || f == a || g == a))) s := by
  rw [gIn_strs neg a _ [b, c, d, e, f, g] (by simp) s]
  all_goals simp [Bool.or_assoc]
@[simp] theorem gIn_lst1 (neg : Bool) (a b : String) (s : DS) : gIn neg (.str (Str.ofString a)) (.lst [.str (Str.ofString b)]) s = .ok (.bl (if neg = true then !(b == a) else (b == a))) s := by
  rw [gIn_strs neg a _ [b] (by simp) s]
  all_goals simp [Bool.or_assoc]
@[simp] theorem gIn_lst2 (neg : Bool) (a b c : String) (s : DS) : gIn neg (.str (Str.ofString a)) (.lst [.str (Str.ofString b), .str (Str.ofString c)]) s = .ok (.bl (if neg = true then !(b == a || c == a) else (b == a || c == a))) s := by
  rw [gIn_strs neg a _ [b, c] (by simp) s]
  all_goals simp [Bool.or_assoc]
@[simp] theorem gIn_lst3 (neg : Bool) (a b c d : String) (s : DS) : gIn neg (.str (Str.ofString a)) (.lst [.str (Str.ofString b), .str (Str.ofString c), .str (Str.ofString d)]) s = .ok (.bl (if neg = true then !(b == a || c == a || d == a) else (b == a || c == a || d == a))) s := by
  rw [gIn_strs neg a _ [b, c, d] (by simp) s]
  all_goals simp [Bool.or_assoc]
@[simp] theorem gIn_lst4 (neg : Bool) (a b c d e : String) (s : DS) : gIn neg (.str (Str.ofString a)) (.lst [.str (Str.ofString b), .str (Str.ofString c), .str (Str.ofString d), .str (Str.ofString e)]) s = .ok (.bl (if neg = true then !(b == a || c == a || d == a || e == a) else (b == a || c == a || d == a || e == a))) s := by
  rw [gIn_strs neg a _ [b, c, d, e] (by simp) s]
  all_goals simp [Bool.or_assoc]
@[simp] theorem gIn_lst5 (neg : Bool) (a b c d e f : String) (s : DS) : gIn neg (.str (Str.ofString a)) (.lst [.str (Str.ofString b), .str (Str.ofString c), .str (Str.ofString d), .str (Str.ofString e), .str (Str.ofString f)]) s = .ok (.bl (if neg = true then !(b == a || c == a || d == a || e == a || f == a) else (b == a || c == a || d == a || e == a || f == a))) s := by
  rw [gIn_strs neg a _ [b, c, d, e, f] (by simp) s]
  all_goals simp [Bool.or_assoc]
@[simp] theorem gIn_lst6 (neg : Bool) (a b c d e f g : String) (s : DS) : gIn neg (.str (Str.ofString a)) (.lst [.str (Str.ofString b), .str (Str.ofString c), .str (Str.ofString d), .str (Str.ofString e), .str (Str.ofString f), .str (Str.ofString g)]) s = .ok (.bl (if neg = true then !(b == a || c == a || d == a || e == a || f == a || g == a) else (b == a || c == a || d == a || e == a || f == a || g == a))) s := by
  rw [gIn_strs neg a _ [b, c, d, e, f, g] (by simp) s]
  all_goals simp [Bool.or_assoc]
theorem gIn_ints (neg : Bool) (a : Int) (v : D) (bs : List Int) (hv : v = .tup (bs.map .int) ∨ v = .lst (bs.map .int)) (s : DS) : gIn neg (.int a) v s = .ok (.bl (if neg = true then !(bs.any fun b => dcd (b = a)) else bs.any fun b => dcd (b = a))) s := by
  have h1 : (bs.map D.int).all flD = true := by simp [flD]
  have h2 : inD (.int a) (bs.map D.int) = bs.any fun b => dcd (b = a) := by
    unfold inD
    rw [List.any_map]
    congr 1
  rcases hv with rfl | rfl <;> simp only [gIn, seqV, h1, h2, flD] <;> simp
/-! ### two loops side by side -/
theorem loops2 {stepA stepB : D → DS → R Fl} {IA IB : DS → Prop} {ok : D → Prop} : ∀ (a b : List D), a.length = b.length →
    (∀ (i : Nat) x y, a[i]? = some x → b[i]? = some y → ∀ s t, IA s → IB t → (∃ r s' t', ok r ∧ stepA x s = .ok (.rt r) s' ∧ stepB y t = .ok (.rt r) t' ∧ IA s' ∧ IB t') ∨ ∃ s' t', (stepA x s = .ok .nx s' ∨ stepA x s = .ok .ct s') ∧ (stepB y t = .ok .nx t' ∨ stepB y t = .ok .ct t') ∧ IA s' ∧ IB t') →
    ∀ s t, IA s → IB t → (∃ r s' t', ok r ∧ loopL allw stepA a s = .ok (.rt r) s' ∧ loopL allw stepB b t = .ok (.rt r) t' ∧ IA s' ∧ IB t') ∨ ∃ s' t', loopL allw stepA a s = .ok .nx s' ∧ loopL allw stepB b t = .ok .nx t' ∧ IA s' ∧ IB t'
  | [], [], _, _, s, t, hs, ht => .inr ⟨s, t, rfl, rfl, hs, ht⟩
  | [], _ :: _, h, _, _, _, _, _ => by simp at h
  | _ :: _, [], h, _, _, _, _, _ => by simp at h
  | x :: a, y :: b, hl, h, s, t, hs, ht => by
    have ih := loops2 a b (by simpa using hl) (fun i x y e1 e2 => h (i + 1) x y e1 e2)
    rcases h 0 x y rfl rfl s t hs ht with ⟨r, s', t', h1, h2, h3, h4, h5⟩ | ⟨s', t', h2, h3, h4, h5⟩
    · refine .inl ⟨r, s', t', h1, ?_, ?_, h4, h5⟩
      · unfold loopL
        rw [if_pos (show allw _ = true from rfl), h2]
      · unfold loopL
        rw [if_pos (show allw _ = true from rfl), h3]
    · have e1 : loopL allw stepA (x :: a) s = loopL allw stepA a s' := by
        conv => lhs; unfold loopL
        rw [if_pos (show allw _ = true from rfl)]
        rcases h2 with h2 | h2 <;> rw [h2]
      have e2 : loopL allw stepB (y :: b) t = loopL allw stepB b t' := by
        conv => lhs; unfold loopL
        rw [if_pos (show allw _ = true from rfl)]
        rcases h3 with h3 | h3 <;> rw [h3]
      rw [e1, e2]
      exact ih s' t' h4 h5
theorem eqL_len : ∀ a b : List D, eqL a b = true → a.length = b.length
  | [], [], _ => rfl
  | [], _ :: _, h => by simp [eqL] at h
  | _ :: _, [], h => by simp [eqL] at h
  | x :: a, y :: b, h => by
    simp only [eqL, Bool.and_eq_true] at h
    simp [eqL_len a b h.2]
/-- _law_one(bag, row) -/
theorem one_ex {g_law_one : GF} {b_law_one : DS → R Fl} (hg : g_law_one = runF 2 b_law_one) (hb : b_law_one = (fRet (fBin (fVar 1) (fCallS 2 (fCons (fVar 0) (fCons (fCall (fCons (fVar 1) fNil) gLen) fNil)) [] g_law_pull) gIx))) (b : Bag) (hi : 0 ≤ b.i) (v : D) (ds : List D) (hv : v = .lst ds ∨ v = .tup ds) (h0 : 0 < ds.length) (h1 : ds.length ≤ 1000) :
    ∃ (d : D) (b' : Bag), d ∈ ds ∧ 0 ≤ b'.i ∧ ∀ μ, g_law_one [.obj 0, v] (b.mo :: μ) = .ok d ⟨[], b'.mo :: μ⟩ := by
  obtain ⟨k, b', i', l, u, p⟩ := pull_ex b ds.length hi (by omega) (by omega)
  obtain ⟨d, hd, e⟩ := atI_pick ds k l (by omega)
  refine ⟨d, b', hd, i', fun μ => ?_⟩
  subst hg hb
  rcases hv with rfl | rfl <;> simp [runF, fRet, fBin, fVar, fCallS, fCons, fNil, fCall, gLen, gIx, seqV, lstV, p, e]
end DL

/-! enumerate, list(range), o[i] op= e, try without a name. -/
namespace DL
open PySem L2 PySem.Spec PyProof.Rows

/-! ### enumerate -/
open AutoSeq1 (wpAny_loadPart') in
theorem meets_enum1 {v : Value} {o : Obj} {H : Heap → Prop} (B : Begins v o H) :
    Meets (Builtin.«enumerate.__new__» ⟨[.type "enumerate", v], []⟩) (fun _ R s => H s.heap ∧
      R (.ok (.ret (.ref (s.heap.push o).objs.size))) { s with heap := (s.heap.push o).push { cls := .type "enumerate", data := .fields #[.none, .bool false, .ref s.heap.objs.size, rawInt 0, .none, .none] } }) :=
  .of_wp fun prog w A R s h => by
    obtain ⟨hp, g, d, tk, os⟩ := s; obtain ⟨h1, h⟩ := h
    have hsub := sub_enumerate
    have q1 : ∀ {A' : Around} {E : Value → Shared → Prop} {Q : Value → Shared → Prop}, Q (.ref hp.objs.size) ⟨hp.push o, g, d, tk, os⟩ → wpAny (model prog w) A' (pyIter v) Q E ⟨hp, g, d, tk, os⟩ :=
      fun q => B.iter prog w _ _ ⟨hp, g, d, tk, os⟩ _ h1 q
    wp_walk using q1
    refine wpAny_stack_any fun st => wpAny_pure ?_
    split
    · rename_i c _ _ _ _ _
      cases (c == Value.type "enumerate")
      · wp_walk using q1
        exact ⟨_, rfl, h⟩
      · wp_walk using q1
        exact ⟨_, rfl, h⟩
    · wp_walk using q1
      exact ⟨_, rfl, h⟩
theorem call_enum1 {prog : Program} {w : World} {A : Around} {E : Value → Shared → Prop} {s : Shared} {v : Value} {o : Obj} {H : Heap → Prop} {Q : Value → Shared → Prop} (B : Begins v o H) (h1 : H s.heap)
    (h : ∀ h', IsEnum h' (s.heap.objs.size + 1) s.heap.objs.size 0 .none → h'.get? s.heap.objs.size = some o → h'.objs.size = s.heap.objs.size + 2 →
      (∀ b o, s.heap.get? b = some o → h'.get? b = some o) → Q (.ref (s.heap.objs.size + 1)) { s with heap := h' }) :
    wpAny (model prog w) A (call (.type "enumerate") [v]) Q E s := by
  refine callType_new F.called_enumerate (by decide) (F.typeCall_enumerate_1 _) (F.newCall_enumerate_1 _) (fun obj => F.args_object_init_2 obj _) F.entry_enumerate_new
    (meets_enum1 B) ⟨h1, ?_⟩
  have hz : (s.heap.push o).objs.size = s.heap.objs.size + 1 := Heap.size_push ..
  show _ ∧ _
  rw [hz]
  have he : IsEnum ((s.heap.push o).push { cls := .type "enumerate", data := .fields #[.none, .bool false, .ref s.heap.objs.size, rawInt 0, .none, .none] }) (s.heap.objs.size + 1) s.heap.objs.size 0 .none := by
    have := Heap.get?_push_size (s.heap.push o) (o := { cls := .type "enumerate", data := .fields #[.none, .bool false, .ref s.heap.objs.size, rawInt 0, .none, .none] }) rfl
    rw [hz] at this; exact this
  refine ⟨⟨_, he, rfl⟩, h _ he (Heap.get?_push_of_some _ (Heap.get?_push_size _ B.free)) (by rw [Heap.size_push, hz]) fun b o x => Heap.get?_push_of_some _ (Heap.get?_push_of_some _ x)⟩
/-- the tuple at a, each item in a new pair -/
def IteT (K : PySem.W.Frag) (a : Addr) : It :=
  ⟨fun i H => ∃ (xs : List V) (x : V), SqT K H a xs ∧ xs[i]? = some x, fun i H v H' => ∃ T x, v = .ref T ∧ H T = none ∧ H' = upd H T (.tup [.int (i : Nat), x]) ∧ ∀ xs, SqT K H a xs → xs[i]? = some x, fun i H => ∃ xs : List V, SqT K H a xs ∧ xs.length ≤ i⟩
theorem turn_enumT {P : Program} {w : World} {K : PySem.W.Frag} {elts : List Expr} {kk : Nat} {tpos : Pos} (a e it : Addr) :
    Turn P w K (.Tuple elts kk tpos) (IteT K a) [e, it] e (fun i h => (∃ old, IsEnum h e it ((i : Nat) : Int) old) ∧ h.IsTupleIter it a i ∧ e ≠ it ∧ a ≠ it ∧ e ≠ a) where
  mem := by simp
  obj := fun i h st b hb => by
    obtain ⟨⟨old, he⟩, ⟨o, ho, hc, hd⟩, _⟩ := st
    have e' : b = e ∨ b = it := by simpa using hb
    rcases e' with z | z
    · rw [z]; exact ⟨_, he, fun v q => nomatch q⟩
    · rw [z]; exact ⟨o, ho, fun v q => by rw [hd] at q; cases q⟩
  keep := fun i h h' st k => let ⟨⟨old, he⟩, hi, hne⟩ := st; ⟨⟨old, k e (by simp) _ he⟩, hi.at fun o q => k it (by simp) o q, hne⟩
  item := by
    intro X hP hw hK hc i pins s σ H E I hf st hg
    subst hP hw hK
    obtain ⟨⟨old, he⟩, hit, hne, hai, hea⟩ := st
    obtain ⟨xs, x, hq, hx⟩ := hg
    obtain ⟨its, rv, p, hz⟩ := I.tuple hq
    obtain ⟨u, hu, ru⟩ := rv.get hx
    have hel : e < s.heap.objs.size := Heap.lt_size he
    have hil : it < s.heap.objs.size := by obtain ⟨_, q, _⟩ := hit; exact Heap.lt_size q
    have hlt : i < its.toArray.size := by have := (List.getElem?_eq_some_iff.mp hu).1; simpa using this
    have D := Draws.tuple (prog := X.prog) (w := X.w) (A := X.A.in1) (I.ok.hd hc) it a hai its.toArray
    refine wpAny_pyNext_enum_itemD (i := i) D he ⟨hit, show s.heap.IsTuple a its.toArray from p⟩ hlt hne (by simp [hne, hea]) fun y h' tk hy ho hst' hT hsz hk => ?_
    have hyu : y = u := by
      have h1 : its.toArray[i]? = some u := by simpa using hu
      rw [h1] at hy
      exact (Option.some.inj hy).symm
    subst hyu
    refine ⟨_, rfl, wpAny_letOwnedTupleGo_enum (s := { s with heap := h', toks := tk + 1 }) ho fun h'' he' sb => ?_⟩
    have hT2 : h''.get? s.heap.objs.size = some { cls := .type "tuple", data := .seq #[.int i tk, y] } := (sb.2 _ (Nat.ne_of_gt hel)).trans hT
    have new : ObjOk X.prog X.w (upd H s.heap.objs.size (.tup [.int (i : Nat), x])) h'' s.heap.objs.size (.tup [.int (i : Nat), x]) :=
      ⟨by show 2 ≤ sizeLine; decide, [.int i tk, y], .cons ⟨_, rfl⟩ (.cons ru .nil), ⟨_, hT2, rfl, _, rfl⟩⟩
    have I1 : Inv X pins σ (upd H s.heap.objs.size (.tup [.int (i : Nat), x])) { s with heap := h'', toks := tk + 1 } :=
      I.turnedNew (ch := [e, it]) (fun b ob hb q => (sb.2 b (fun z => hb (by simp [z]))).trans (hk b ob (fun z => hb (by simp [z])) (fun z => hb (by simp [z])) q)) hf (Nat.le_refl _) new
    refine ⟨.ref s.heap.objs.size, _, I1, rfl, ⟨_, x, rfl, I.hok.fresh (Nat.le_refl _), rfl, fun ys hy => by rw [I.tuple_inj hy hq]; exact hx⟩, ⟨⟨y, ?_⟩, hst'.1.at fun o q => (sb.2 it (Ne.symm hne)).trans q, hne, hai, hea⟩, fun b hb => ?_⟩
    · have e1 : ((i + 1 : Nat) : Int) = (i : Int) + 1 := by omega
      rw [e1]; exact he'
    · have hb' : b < s.heap.objs.size := by
        have e' : b = e ∨ b = it := by simpa using hb
        rcases e' with z | z
        · rw [z]; exact hel
        · rw [z]; exact hil
      rw [upd_ne (Nat.ne_of_lt hb')]
      exact (hf b hb).1
  done := by
    intro X hP hw hK hc i pins s σ H E I hf st hg
    subst hP hw hK
    obtain ⟨⟨old, he⟩, hit, hne, hai, hea⟩ := st
    obtain ⟨xs, hq, hx⟩ := hg
    obtain ⟨its, rv, p, hz⟩ := I.tuple hq
    obtain ⟨f0, f1, f2, f3, f4, f5⟩ := hf it (by simp)
    have hl := rv.length
    have hT : s.TypeIs (.ref e) "enumerate" := ⟨_, he, rfl⟩
    unfold pyNext
    refine wpAny_bind (wpAny_attempt (wpAny_callSpecial?_slot (name := Str.ofString "__next__") hT F.slot_enumerate_next
      (wpAny_call_entry F.slot_enumerate_next hT F.entry_enumerate_next ?_ (F.args_enumerate_next_1 _))))
    show wpAny _ _ (field (.ref e) 2 >>= _) _ _ _
    refine wpAny_bind (wpAny_field he rfl (x := .ref it) rfl ?_)
    refine wpAny_bind (wpAny_nextOf_tuple_end (I.ok.hd hc) hit (show s.heap.IsTuple a its.toArray from p) (by simp; omega) fun h' x he' hx' => ?_)
    obtain ⟨o, ho, hc2⟩ := hx'
    refine wpAny_bind (wpAny_isInstance (T := "StopIteration") (b := true) ⟨o, ho, hc2⟩ isSubtype_stop ?_)
    exact wpAny_pure ⟨rfl, I.turned (t' := s.toks) (fun b o hb q => he' b o hb q) f0 f1 f3 f4 f5⟩
  self := fun A i s Q E st h => let ⟨⟨_, he⟩, _⟩ := st; wpAny_pyIter_enum he h
def iEnumT (K : PySem.W.Frag) (ta : TA) : TI := fun σ H R => ta σ H fun vs H1 => ∃ a xs, vs = [.ref a] ∧ SqT K H1 a xs ∧ R (IteT K a) H1
theorem pi_enumT {X : Cx} {e : Expr} {ta : TA} {p pos tpos : Pos} {elts : List Expr} {kk : Nat} (hg : Gl X "enumerate") (hm : X.mg "enumerate" = none) (ha : PA X [e] ta) (hs : starEach [e] X.env = [(false, eval e X.env)] := by rfl) :
    PI X (.Tuple elts kk tpos) (.Call (.Name "enumerate" p) [e] [] pos) (iEnumT X.K ta) := by
  refine ⟨fun pins s σ H R I h => ?_⟩
  refine Call_ (ld_blt I hg hm boot_enumerate (PyProof.Rows.callWith_type1 (thn (ha.run pos pins s σ H _ I h) fun us s1 ⟨vs, H1, I1, r1, q1⟩ => ?_) hs rfl))
  obtain ⟨a, xs, ex, hq, q⟩ := q1
  subst ex
  cases r1 with
  | cons r rr =>
    cases rr
    cases r
    obtain ⟨its, rv, p', hz⟩ := I1.tuple hq
    have hT : s1.heap.IsTuple a its.toArray := p'
    have hal : a < s1.heap.objs.size := by obtain ⟨_, q, _⟩ := hT; exact Heap.lt_size q
    refine call_enum1 (begins_tuple a its.toArray) hT fun h' he hit hsz hk => wpAny_pyIter_enum he ?_
    have I2 : Inv X pins σ H1 { s1 with heap := h' } := I1.kept (t' := s1.toks) hk
    refine ⟨s1.heap.objs.size + 1, [s1.heap.objs.size + 1, s1.heap.objs.size], _, _, H1, rfl, I2, turn_enumT a (s1.heap.objs.size + 1) s1.heap.objs.size, ⟨⟨.none, he⟩, ⟨_, hit, rfl, rfl⟩, Nat.succ_ne_self _, Nat.ne_of_lt hal, Nat.ne_of_gt (Nat.lt_succ_of_lt hal)⟩, fun b hb => ?_, q⟩
    have e' : b = s1.heap.objs.size + 1 ∨ b = s1.heap.objs.size := by simpa using hb
    have hle : s1.heap.objs.size ≤ b := by
      rcases e' with z | z
      · rw [z]; exact Nat.le_add_right _ _
      · rw [z]; exact Nat.le_refl _
    exact I1.fpOk hle (I1.hok.fresh hle)
/-- as data -/
def enumD (ds : List D) : List D := (List.range ds.length).map fun i => .tup [.int (i : Nat), ds.getD i .non]
theorem enumD_get {ds : List D} {i : Nat} {p : D} (h : (enumD ds)[i]? = some p) : ∃ d, ds[i]? = some d ∧ p = .tup [.int (i : Nat), d] := by
  unfold enumD at h
  rw [List.getElem?_map] at h
  cases q : (List.range ds.length)[i]? with
  | none => rw [q] at h; cases h
  | some j =>
    rw [q] at h
    cases h
    obtain ⟨hj, e⟩ := List.getElem?_eq_some_iff.mp q
    simp at e
    subst e
    have hi : i < ds.length := by simpa using hj
    exact ⟨ds[i], List.getElem?_eq_getElem hi, by simp [List.getD, List.getElem?_eq_getElem hi]⟩
@[simp] theorem enumD_len (ds : List D) : (enumD ds).length = ds.length := by simp [enumD]
def wkEnumL : List D → DS → R Wk := fun as s => match as with
  | [.lst ds] => .ok (enumD ds, allw) s
  | [.lsr ds] => .ok (enumD ds, allw) s
  | _ => .bad
def wkEnumT : List D → DS → R Wk := fun as s => match as with
  | [.tup ds] => .ok (enumD ds, allw) s
  | _ => .bad
def fWEL (f : DS → R (List D)) : DS → R Wk := fun s => (f s).bind wkEnumL
def fWET (f : DS → R (List D)) : DS → R Wk := fun s => (f s).bind wkEnumT
section
variable {X : Cx} {W : WX} {p pos tpos : Pos} {elts : List Expr} {kk : Nat}
theorem enum_yld {K : PySem.W.Frag} {mg : Str → Option Value} {ρ : List Addr} {F H : Hp} {μ : List MO} {T : Addr} {i : Nat} {d : D} {v : V} (m : MRel K mg ρ F μ H) (hT : H T = none) (r : Rd K ρ F d v) :
    ∃ F', Ext ρ F H ρ F' (upd H T (.tup [.int (i : Nat), v])) ∧ MRel K mg ρ F' μ (upd H T (.tup [.int (i : Nat), v])) ∧ Rd K ρ F' (.tup [.int (i : Nat), d]) (.ref T) := by
  obtain ⟨m2, x2⟩ := m.frozen (o := .tup [.int (i : Nat), v]) hT
  exact ⟨_, x2, m2, T, _, rfl, .new upd_same, _, _, rfl, rfl, _, _, rfl, r.ext x2, rfl⟩
theorem pdi_enumL {e : Expr} {f : DS → R (List D)} (hg : Gl X "enumerate") (hm : X.mg "enumerate" = none) (ha : PDA X W [e] f) (hs : starEach [e] X.env = [(false, eval e X.env)] := by rfl) : PDI X W (.Tuple elts kk tpos) (.Call (.Name "enumerate" p) [e] [] pos) (fWEL f) := by
  obtain ⟨t, e1, l⟩ := ha
  refine ⟨_, pi_enum hg hm e1 hs, fun ρ F s σ H Rr rl h => l ρ F s σ H _ rl (PostI.bind h fun ds s1 ρ1 F1 H1 vs x1 rl1 rd1 h1 => ?_)⟩
  have main : ∀ a es us, SqL X.K F1 a us → RdL X.K ρ1 F1 es us → PostI X W ρ1 F1 H1 σ Rr (.ok (enumD es, allw) s1) → ∃ a' xs, [V.ref a] = [.ref a'] ∧ SqL X.K H1 a' xs ∧ Rr (Ite X.K a') H1 := fun a es us q le h => by
    refine ⟨a, us, rfl, rl1.mem.sub.seq q, h ρ1 F1 H1 _ (Ext.refl ..) rl1 ⟨fun ρ' F' H' μ x m _ => ⟨us, (x.fro.trans m.sub).seq q, by rw [enumD_len, le.length]; exact Nat.le_refl _⟩, fun i p hp ρ' F' H' μ x m _ => ?_⟩⟩
    obtain ⟨d, hd, rfl⟩ := enumD_get hp
    obtain ⟨v, hv, rv⟩ := le.get hd
    have q' := (x.fro.trans m.sub).seq q
    refine ⟨⟨us, v, q', hv⟩, fun y H2 yd => ?_⟩
    obtain ⟨T, z, rfl, hT, rfl, hz⟩ := yd
    have hzv : z = v := by
      have := hz us q'
      rw [hv] at this
      exact (Option.some.inj this).symm
    subst hzv
    exact enum_yld m hT (rv.ext x)
  unfold wkEnumL at h1
  split at h1
  · obtain ⟨w, rfl, a, us, rfl, q, le⟩ := rdl1 rd1
    exact main a _ us (.inl (.inl q)) le h1
  · obtain ⟨w, rfl, a, us, rfl, q, le⟩ := rdl1 rd1
    exact main a _ us q le h1
  · exact h1.elim
theorem pdi_enumT {e : Expr} {f : DS → R (List D)} (hg : Gl X "enumerate") (hm : X.mg "enumerate" = none) (ha : PDA X W [e] f) (hs : starEach [e] X.env = [(false, eval e X.env)] := by rfl) : PDI X W (.Tuple elts kk tpos) (.Call (.Name "enumerate" p) [e] [] pos) (fWET f) := by
  obtain ⟨t, e1, l⟩ := ha
  refine ⟨_, pi_enumT hg hm e1 hs, fun ρ F s σ H Rr rl h => l ρ F s σ H _ rl (PostI.bind h fun ds s1 ρ1 F1 H1 vs x1 rl1 rd1 h1 => ?_)⟩
  unfold wkEnumT at h1
  split at h1
  · rename_i es
    obtain ⟨w, rfl, a, us, rfl, q, le⟩ := rdl1 rd1
    refine ⟨a, us, rfl, sqT_mono rl1.mem.sub q, h1 ρ1 F1 H1 _ (Ext.refl ..) rl1 ⟨fun ρ' F' H' μ x m _ => ⟨us, sqT_mono (x.fro.trans m.sub) q, by rw [enumD_len, le.length]; exact Nat.le_refl _⟩, fun i p hp ρ' F' H' μ x m _ => ?_⟩⟩
    obtain ⟨d, hd, rfl⟩ := enumD_get hp
    obtain ⟨v, hv, rv⟩ := le.get hd
    have q' := sqT_mono (x.fro.trans m.sub) q
    refine ⟨⟨us, v, q', hv⟩, fun y H2 yd => ?_⟩
    obtain ⟨T, z, rfl, hT, rfl, hz⟩ := yd
    have hzv : z = v := by
      have := hz us q'
      rw [hv] at this
      exact (Option.some.inj this).symm
    subst hzv
    exact enum_yld m hT (rv.ext x)
  · exact h1.elim
end
/-! ### list(range(..)) -/
section
variable {X : Cx} {W : WX}
def rgC (i c : Int) (n : Nat) : List V := (List.range n).map fun m => V.int (i + (m : Nat) * c)
theorem vals_rgC {a c : Int} {n : Nat} {acc : Array Value} (h : ItemsOf (fun i v => ∃ t, v = .int (a + i * c) t) acc n) : Vals (rgC a c n) acc.toList := by
  have e : acc.toList.length = n := by rw [Array.length_toList]; exact h.1
  unfold rgC
  rw [← e]
  refine vals_of_get acc.toList _ fun j u hj => ?_
  obtain ⟨t, rfl⟩ := h.2 j u (by rw [← hj, Array.getElem?_toList])
  exact ⟨t, rfl⟩
def tLstRg3 (ta : TA) : TE := fun σ H Q => ta σ H fun vs H1 => ∃ (i j k : Int) (n : Nat), vs = [.int i, .int j, .int k] ∧ RgC i j k n ∧ n ≤ 2 ^ 24 ∧ ∀ q, H1 q = none → Q (.ref q) (upd H1 q (.lst (rgC i k n)))
theorem pe_listRg3 {a b c : Expr} {ta : TA} {p pos p2 pos2 : Pos} (hc : X.calm = true) (hgl : Gl X "list") (hml : X.mg "list" = none) (hg : Gl X "range") (hm : X.mg "range" = none) (ha : PA X [a, b, c] ta)
    (hs : starEach [a, b, c] X.env = (false, eval a X.env) :: starEach [b, c] X.env := by rfl) (hpl : (backTo pos2 (starEach [b, c] X.env)).any (·.1) = false := by rfl)
    (na : starEach [.Call (.Name "range" p2) [a, b, c] [] pos2] X.env = (false, eval (.Call (.Name "range" p2) [a, b, c] [] pos2) X.env) :: starEach [] X.env := by rfl) :
    PE X (.Call (.Name "list" p) [.Call (.Name "range" p2) [a, b, c] [] pos2] [] pos) (tLstRg3 ta) := by
  refine ⟨fun pins s σ H Q I h => ?_⟩
  have inner : wpAny (model X.prog X.w) X.A (eval (.Call (.Name "range" p2) [a, b, c] [] pos2) X.env) (fun x s1 => ∃ r i j k n t t' t'' H1, x = .ref r ∧ IsRange s1.heap r i j k t t' t'' ∧ Inv X pins σ H1 s1 ∧ RgC i j k n ∧ n ≤ 2 ^ 24 ∧ ∀ q, H1 q = none → Q (.ref q) (upd H1 q (.lst (rgC i k n)))) X.xe s := by
    refine Call_ (ld_blt I hg hm boot_range (PyProof.Rows.callWith_type1 (thn (ha.run pos2 pins s σ H _ I h) fun us s1 ⟨vs, H1, I1, r1, q1⟩ => ?_) hs hpl))
    obtain ⟨i, j, k, n, e, ok, hn, q⟩ := q1
    subst e
    cases r1 with
    | cons r rr =>
      cases rr with
      | cons r' rr =>
        cases rr with
        | cons r'' rr =>
          cases rr
          obtain ⟨t, rfl⟩ := r
          obtain ⟨t', rfl⟩ := r'
          obtain ⟨t'', rfl⟩ := r''
          exact call_range_3 ok.1 ⟨_, i, j, k, n, _, _, _, H1, rfl, IsRange.new _ _ _ _ _ _ _, I1.kept fun b u e => Heap.get?_push_of_some _ e, ok, hn, q⟩ (.inl (PyProof.noPylong_small ok.2.1))
  refine Call_ (ld_blt I hgl hml boot_list (PyProof.Rows.callWith_type1 (args_cons (thn inner fun x s1 ⟨r, i, j, k, n, t, t', t'', H1, ex, hr, I1, ok, hn, q⟩ => args_nil ?_) na) na))
  subst ex
  refine call_list_range (n := n) (I1.ok.hd hc) hr ok.2.2.1 ok.2.2.2 hn fun h' tk acc c' hk e' hi => ?_
  refine ⟨.ref s1.heap.objs.size, upd H1 s1.heap.objs.size (.lst (rgC i k n)), I1.laid hk (Nat.le_refl _) (show ObjOk X.prog X.w _ _ _ (.lst (rgC i k n)) from ⟨?_, acc.toList, c', vals_rgC hi, ?_⟩), rfl, q _ (I1.hok.fresh (Nat.le_refl _))⟩
  · unfold rgC
    rw [List.length_map, List.length_range, sizeLine_eq]
    omega
  · rw [Array.toArray_toList]; exact e'
noncomputable def fLstRg3 (f : DS → R (List D)) : DS → R D := fun s => (f s).bind fun ds s1 => match ds with
  | [.int i, .int j, .int c] => if Pr (RgC i j c (Builtin.Range.rangeSize i j c).toNat ∧ (Builtin.Range.rangeSize i j c).toNat ≤ 2 ^ 24) then .ok (.lst (rngC i c (Builtin.Range.rangeSize i j c).toNat)) s1 else .bad
  | _ => .bad
theorem rdl_rgC {K : PySem.W.Frag} {ρ : List Addr} {F : Hp} {i c : Int} (n : Nat) : RdL K ρ F (rngC i c n) (rgC i c n) := by
  unfold rngC rgC
  generalize List.range n = l
  induction l with
  | nil => rfl
  | cons m l ih => exact ⟨_, _, rfl, rfl, ih⟩
theorem pd_listRg3 {a b c : Expr} {f : DS → R (List D)} {p pos p2 pos2 : Pos} (hc : X.calm = true) (hgl : Gl X "list") (hml : X.mg "list" = none) (hg : Gl X "range") (hm : X.mg "range" = none) (ha : PDA X W [a, b, c] f)
    (hs : starEach [a, b, c] X.env = (false, eval a X.env) :: starEach [b, c] X.env := by rfl) (hpl : (backTo pos2 (starEach [b, c] X.env)).any (·.1) = false := by rfl)
    (na : starEach [.Call (.Name "range" p2) [a, b, c] [] pos2] X.env = (false, eval (.Call (.Name "range" p2) [a, b, c] [] pos2) X.env) :: starEach [] X.env := by rfl) :
    PD X W (.Call (.Name "list" p) [.Call (.Name "range" p2) [a, b, c] [] pos2] [] pos) (fLstRg3 f) := by
  obtain ⟨t, e1, l⟩ := ha
  refine ⟨_, pe_listRg3 hc hgl hml hg hm e1 hs hpl na, fun ρ F s σ H Q rl h => l ρ F s σ H _ rl (h.bind fun ds s1 ρ1 F1 H1 vs x1 rl1 rd1 h1 => ?_)⟩
  split at h1
  · obtain ⟨v1, vs1, rfl, r1, q1⟩ := rd1
    obtain ⟨v2, vs2, rfl, r2, q2⟩ := q1
    obtain ⟨v3, vs3, rfl, r3, q3⟩ := q2
    cases q3
    split at h1
    · rename_i i j c hc
      cases r1
      cases r2
      cases r3
      exact ⟨i, j, c, _, rfl, hc.1, hc.2, Post.lst h1 rl1 (rdl_rgC _)⟩
    · exact h1.elim
  · exact h1.elim
/-! ### o[i] op= e, o a list -/
theorem get_list : PGet X (fun o i H Q => ∃ (p : Addr) (xs : List V) (k : Nat) (v : V), o = .ref p ∧ i = .int (k : Nat) ∧ SqL X.K H p xs ∧ xs[k]? = some v ∧ Q v H) := by
  intro pins s σ H o i ov iv Q I r1 r2 h
  obtain ⟨p, xs, k, v, rfl, rfl, hq, hx, q⟩ := h
  cases r1
  obtain ⟨t, rfl⟩ := r2
  obtain ⟨its, r, pl, hz⟩ := I.list hq
  obtain ⟨u, hu, ru⟩ := r.get hx
  have hk : k < its.length := (List.getElem?_eq_some_iff.mp hu).1
  have hs : its.length ≤ 16777216 := by have h1 := hz; have h2 := r.length; rw [sizeLine_eq] at h1; omega
  exact wpAny_getItem_list pl.isList (by omega) (by omega) (by simpa using hu) ⟨v, H, I, ru, q⟩
def fAugIx (fo fi fe : DS → R D) (g : D → D → DS → R D) : DS → R Fl := fun s => (fo s).bind fun o s1 => (fi s1).bind fun i s2 => match o, i with
  | .obj k, .int j => (match objL s2 k with
    | some ds => if 0 ≤ j then (match ds[j.toNat]? with
      | some d => (fe s2).bind fun e s3 => (g d e s3).bind fun z s4 => (gSetL (.obj k) (.int j) z s4).bind fun _ s5 => .ok .nx s5
      | none => .bad) else .bad
    | none => .bad)
  | _, _ => .bad
theorem pds_augIx {o i e : Expr} {fo fi fe : DS → R D} {g : D → D → DS → R D} {op : Operator} {ti : TIp} {tpos pos : Pos} (ho : PD X W o fo) (hi : PD X W i fi) (he : PD X W e fe) (hp : PIp X op ti) (hg : OpD X W ti g)
    (ha : ∀ ov iv new, augStore i ov iv new = (do holding [new, ov, iv] (setItem ov iv new); release [new, ov, iv] []; pure .next) := by intros; rfl) : PDs X W (.AugAssign (.Subscript o i tpos) op e pos) (fAugIx fo fi fe g) := by
  obtain ⟨to, e1, l1⟩ := ho
  obtain ⟨tii, e2, l2⟩ := hi
  obtain ⟨te, e3, l3⟩ := he
  refine ⟨_, ps_augS e1 e2 get_list e3 hp set_list ha, fun ρ F s σ H E rl h => l1 ρ F s σ H _ rl (PostS.bind h fun o' s1 ρ1 F1 H1 v x1 rl1 rd1 h1 => ?_)⟩
  refine l2 ρ1 F1 s1 σ H1 _ rl1 (PostS.bind h1 fun i' s2 ρ2 F2 H2 u x2 rl2 rd2 h2 => ?_)
  split at h2
  · rename_i k j
    split at h2
    · rename_i ds q
      split at h2
      · rename_i hj
        split at h2
        · rename_i d hd
          obtain ⟨p, rfl, hp0, f0, vs, hl, l⟩ := Rel.objAt rl2.mem (rd1.ext x2) (objL_eq q) trivial
          obtain ⟨w, hw, rw'⟩ := l.get hd
          cases rd2
          refine ⟨p, vs, j.toNat, w, rfl, ?_, .inl (.inl hl), hw, ?_⟩
          · rw [Int.toNat_of_nonneg hj]
          refine l3 ρ2 F2 s2 σ H2 _ rl2 (PostS.bind h2 fun e' s3 ρ3 F3 H3 u3 x3 rl3 rd3 h3 => ?_)
          refine hg ρ3 F3 s3 σ H3 d e' w u3 _ rl3 (rw'.ext x3) rd3 (PostS.bind h3 fun z s4 ρ4 F4 H4 u4 x4 rl4 rd4 h4 => ?_)
          refine setd_list (X := X) (W := W) ρ4 F4 s4 σ H4 (.obj k) (.int j) z (.ref p) (.int j) u4 _ rl4 ?_ rfl rd4 (PostS.bind h4 fun _ s5 ρ5 F5 H5 _ x5 rl5 _ h5 => ?_)
          · exact ((rd1.ext x2).ext x3).ext x4
          · exact h5 ρ5 F5 H5 σ (Ext.refl ..) rl5
        · exact h2.elim
      · exact h2.elim
    · exact h2.elim
  · exact h2.elim
end
end DL
namespace DL
open PySem L2 PySem.Spec PyProof.Rows
/-! ### try: .. except C: suite -/
def fTryOnly (fb : DS → R Fl) (ctch : Ex → Option Bool) (fs : DS → R Fl) : DS → R Fl := fun s => match fb s with
  | .ex e s1 => match ctch e with
    | some true => (match fs s1 with
      | .ok fl s2 => .ok fl s2
      | _ => .bad)
    | some false => .ex e s1
    | none => .bad
  | r => r
section
variable {X : Cx} {W : WX}
theorem pds_try_only {xn : Str} {c : Value} {body suite : List Stmt} {b₀ : Stmt} {np pos pos' : Pos} {fb : DS → R Fl} {ctch : Ex → Option Bool} {fs : DS → R Fl}
    (hs : X.stack = X.env :: X.outer) (hf : X.env.frame = some X.env.locals) (hc : Names X xn c) (tk : Takes X W)
    (hct : ∀ (e : Ex) b C, ctch e = some b → X.mg e.cls = some (.ref C) → PySem.W.exmOne X.K (.ref C) c = some b)
    (hb : ∀ (W' : WX) (pn : List (Addr × Obj)) (xe : Value → Shared → Prop), Takes (X.tr pn xe) W' → PassesOwn (model X.prog X.w) X.A X.env xe → PDss (X.tr pn xe) W' body fb)
    (hsu : ∀ (a : Addr) (oe : Obj) (cls : Value) (d : Option Addr) (pn : List (Addr × Obj)), PDss (X.suite a ((a, oe) :: pn)) W0 (b₀ :: suite) fs) :
    PDs X W (.Try body [.ExceptHandler (some (.Name xn np)) none (b₀ :: suite) pos'] [] [] pos) (fTryOnly fb ctch fs) := by
  let tsO : Addr → Value → Option Addr → Obj → List (Addr × Obj) → TS := fun a cls d oe pn => fun D σ H => (Classical.choose (hsu a oe cls d pn)) D σ H
  let ts : Addr → Value → Option Addr → TS := fun a cls d => fun D σ H => ∀ oe pn, tsO a cls d oe pn D σ H
  let tb : WX → TS := fun W' => fun D σ H => ∀ pn xe (h1 : Takes (X.tr pn xe) W') (h2 : PassesOwn (model X.prog X.w) X.A X.env xe), (Classical.choose (hb W' pn xe h1 h2)) D σ H
  refine ⟨_, ps_try_only (tb := tb) (ts := ts) hs hf hc tk (fun W' pn xe h1 h2 => ⟨fun pins s σ H D I h => (Classical.choose_spec (hb W' pn xe h1 h2)).1.run pins s σ H D I (h pn xe h1 h2)⟩)
    (fun a oe cls d pn hz hf' => ⟨fun pins s σ H D I h => (Classical.choose_spec (hsu a oe cls d pn)).1.run pins s σ H D I (h oe pn)⟩), fun ρ F s σ H E rl h => ?_⟩
  intro pn xe h1 h2
  refine (Classical.choose_spec (hb _ pn xe h1 h2)).2 ρ F s σ H E rl ?_
  unfold fTryOnly at h
  cases q : fb s with
  | bad => rw [q] at h; exact h
  | ok fl s1 => rw [q] at h; cases fl <;> exact h
  | ex e s1 =>
    rw [q] at h
    simp only at h
    intro ρ1 F1 H1 σ1 cls d x1 rl1 er
    obtain ⟨C, hC, rfl, hn1, hn2⟩ := er
    cases qc : ctch e with
    | none => rw [qc] at h; exact h.elim
    | some b =>
      rw [qc] at h
      refine ⟨b, hct _ b C qc hC, fun hb' a ha => ?_, fun hb' => ?_⟩
      · subst hb'
        simp only at h
        intro oe pn
        refine (Classical.choose_spec (hsu a oe (.ref C) d pn)).2 ρ1 F1 s1 _ H1 _ rl1 ?_
        cases q0 : fs s1 with
        | bad => rw [q0] at h; exact h.elim
        | ex _ _ => rw [q0] at h; exact h.elim
        | ok fl0 s0 =>
          rw [q0] at h
          have h3 := PostS.ext (show PostS X W ρ F H E (.ok fl0 s0) from h) x1
          cases fl0 <;> exact h3
      · subst hb'
        simp only at h
        exact h ρ1 F1 H1 σ1 (.ref C) d x1 rl1 ⟨C, hC, rfl, hn1, hn2⟩
end
/-! ### calls with keywords, defaults -/
/-- a def whose defaults may stand -/
structure FunQ (K : PySem.W.Frag) (x qual : Str) (st : Stmt) (f : Addr) (fd : FuncData) : Prop where
  ex : ∃ (oc : Value) (od : Option Addr) (dV kV doc pm : Value) (an : Option Addr) (cdv ct : Value) (osl : Array (Option Value)),
    fd = PySem.W.fnOf x qual (defArgs st) (defBody st) (defScope st) dV kV doc pm an cdv ct ∧ K.lookup f = some ⟨oc, od, .func fd, osl⟩ ∧ PySem.W.codeIn K cdv qual = true
  kp : PySem.W.keepIn K (.ref f) = true
theorem funq_mk {K : PySem.W.Frag} {x qual : Str} {st : Stmt} {f : Addr} {oc : Value} {od an : Option Addr} {osl : Array (Option Value)} {dV kV doc pm cdv ct : Value} (l : K.lookup f = some ⟨oc, od, .func (PySem.W.fnOf x qual (defArgs st) (defBody st) (defScope st) dV kV doc pm an cdv ct), osl⟩)
    (c : PySem.W.codeIn K cdv qual = true) (k : PySem.W.keepIn K (.ref f) = true) : FunQ K x qual st f (PySem.W.fnOf x qual (defArgs st) (defBody st) (defScope st) dV kV doc pm an cdv ct) := ⟨⟨oc, od, dV, kV, doc, pm, an, cdv, ct, osl, rfl, l, c⟩, k⟩
theorem fn_stQ {P : Program} {w : World} {K : PySem.W.Frag} {mg : Str → Option Value} {base : Heap} {k : Nat} {f : Addr} {fd : FuncData} {ps : List Str} {x qual : Str} {st : Stmt} {N : List Str} {fb : DS → R Fl} (F : FunQ K x qual st f fd) (S : FnScope N ps (defScope st))
    (hb : ∀ (cdv : Value) (A : Around) (outer : List Env) (s : Shared) (H : Hp) (E : XK), Room k (A.deeper (envOfC qual (defScope st) s.heap.objs.size f cdv)) →
      PDss (cxOf (L2.CX P w) P w K mg base N qual (defScope st) f cdv A outer s H E) (fun cls d _ H' => E cls d H') (defBody st) fb) :
    FnOk P w K mg base (L2.CX P w) (k + 1) f fd ps (spD K mg ps.length (runF N.length fb)) := by
  obtain ⟨oc, od, dV, kV, doc, pm, an, cdv, ct, osl, rfl, lk, hcd⟩ := F.ex
  refine fn_of lk hcd S (fun vs H Q E h => spD_len h) fun A outer s H vs Q E hr h => ?_
  obtain ⟨t, e1, l⟩ := hb cdv A outer s H E hr
  refine ⟨t, e1, ?_⟩
  obtain ⟨ρ, Fz, μ, args, hl, m, r, p⟩ := h
  refine l ρ Fz ⟨args.map some ++ List.replicate (N.length - args.length) none, μ⟩ (L2.start N vs) H _ ⟨m, start_rel r⟩ ?_
  unfold runF at p
  cases q : fb ⟨args.map some ++ List.replicate (N.length - args.length) none, μ⟩ with
  | bad => rw [q] at p; exact p
  | ex e s1 => rw [q] at p; exact fun ρ' F' H' σ' cls d x rl er => p ρ' F' H' cls d x rl.mem er
  | ok fl s1 =>
    rw [q] at p
    cases fl with
    | nx => exact fun ρ' F' H' σ' x rl => p ρ' F' H' .non x rl.mem rfl
    | rt d => exact fun ρ' F' H' v x m r => p ρ' F' H' v x m r
    | bk => exact p.elim
    | ct => exact p.elim
/-- its arguments, where m defaults fill up -/
theorem bindsQ {K : PySem.W.Frag} {fd : FuncData} {ps : List Str} {T : Addr} {o : Obj} {its : List Value} {c : Nat} {ds : List Value} (n : Nat) (hn : n + ds.length = ps.length) (lT : K.lookup T = some o) (oT : o.data = .seq its.toArray c)
    (h : ∀ us : List Value, us.length = n → ∃ k, bindArgs fd ⟨us, []⟩ = seqItems? (.ref T) >>= k ∧ k (some its.toArray) = pure (ps.zip (us ++ ds))) : Binds K fd ps ds := fun s us X hlen => by
  obtain ⟨k, e1, e2⟩ := h us (by rw [List.length_append] at hlen; omega)
  refine BindsTo.of_looks fun M => ?_
  rw [e1]
  exact looks_items X lT oT (.of_pure e2)
/-- n positional values, then keywords in the parameters' order -/
theorem kbnQ {K : PySem.W.Frag} {fd : FuncData} {ps ks : List Str} {n : Nat} {T : Addr} {o : Obj} {its : List Value} {c : Nat} (lT : K.lookup T = some o) (oT : o.data = .seq its.toArray c)
    (h : ∀ us ws : List Value, us.length = n → ws.length = ks.length → ∃ k, bindArgs fd ⟨us, ks.zip ws⟩ = seqItems? (.ref T) >>= k ∧ k (some its.toArray) = pure (ps.zip (us ++ ws))) : KBn K fd ps n ks (fun us ws => us ++ ws) (fun vs zs => vs ++ zs) where
  to := fun s us ws X h1 h2 => by
    obtain ⟨k, e1, e2⟩ := h us ws h1 h2
    refine BindsTo.of_looks fun M => ?_
    rw [e1]
    exact looks_items X lT oT (.of_pure e2)
  rel := fun a b => a.append b
section
variable {X : Cx} {W : WX} {k n m : Nat} {f : Addr} {fd : FuncData} {ps ks : List Str} {x : Str} {p pos : Pos} {e : Expr} {es : List Expr} {kws : List Keyword} {fa fk : DS → R (List D)}
def PDK (X : Cx) (W : WX) (kws : List Keyword) (f : DS → R (List D)) : Prop := ∃ t, PK X kws t ∧ Stl X W (RdL X.K) t f
theorem pdk_nil : PDK X W [] fNil := ⟨_, pk_nil, fun ρ F s σ H Q rl h => h ρ F H _ (Ext.refl ..) rl rfl⟩
theorem pdk_cons {nm : Option Str} {kpos : Pos} {f1 : DS → R D} {f2 : DS → R (List D)} (he : PD X W e f1) (hr : PDK X W kws f2) : PDK X W (⟨nm, e, kpos⟩ :: kws) (fCons f1 f2) := by
  obtain ⟨t, e1, l⟩ := he
  obtain ⟨t2, e2, l2⟩ := hr
  refine ⟨_, pk_cons e1 e2, fun ρ F s σ H Q rl h => l ρ F s σ H _ rl (h.bind fun d s1 ρ1 F1 H1 v x1 rl1 rd1 h1 => ?_)⟩
  refine l2 ρ1 F1 s1 σ H1 _ rl1 (Post.bind h1 fun ds s2 ρ2 F2 H2 vs x2 rl2 rd2 h2 => ?_)
  exact h2 ρ2 F2 H2 _ (Ext.refl ..) rl2 ⟨v, vs, rfl, rd1.ext x2, rd2⟩
def tCallND (n m : Nat) (sp : Sp) (E : L2.St → XK) (t tk : TA) : TE := fun σ H Q => t σ H fun vs H1 => tk σ H1 fun zs H2 => vs.length = n ∧ zs.length = m ∧ sp (vs ++ zs) H2 Q (E σ)
theorem pe_callND {sp : Sp} {E : L2.St → XK} {CX : CXT} {t tk : TA} {g : List Value → List Value → List Value} (F : FnOk X.prog X.w X.K X.mg X.base CX k f fd ps sp) (hr : Room k X.A) (hg : Gl X x) (hm : X.mg x = some (.ref f)) (hk : PySem.W.keepIn X.K (.ref f) = true) (hb : KBn X.K fd ps n ks g (fun vs zs => vs ++ zs)) (hx : ∀ σ, PassesAt CX X σ (E σ))
    (ha : PA X (e :: es) t) (hkw : PK X kws tk) (hall : (backToKw pos (keywordEach kws X.env)).all (·.1.isSome) = true := by rfl) (hks : (backToKw pos (keywordEach kws X.env)).filterMap (·.1) = ks := by rfl)
    (hdb : (x == ("__debug__" : Str)) = false := by decide) (he : starEach (e :: es) X.env = (false, eval e X.env) :: starEach es X.env := by rfl)
    (hpl : ((backTo pos (starEach (e :: es) X.env)).any (·.1) || (backToKw pos (keywordEach kws X.env)).any (·.1.isNone)) = false := by rfl) :
    PE X (.Call (.Name x p) (e :: es) kws pos) (tCallND n ks.length sp E t tk) := by
  refine ⟨fun pins s σ H Q I h => ?_⟩
  refine wpAny_Call_Name_kw (ld_glob I hg hm ?_ hdb)
  refine PySem.W.callWith_KW (h₀ := X.base) I.ok.mod.kin hk hall (thn (ha.run pos pins s σ H _ I h) fun us s1 ⟨vs, H1, I1, r, q⟩ => ?_) hpl he
  refine thn (hkw.run pos pins s1 σ H1 _ I1 q) fun ws s2 ⟨zs, H2, I2, rz, l1, l2, q2⟩ => ⟨I2.kIn, ?_⟩
  rw [hks]
  have r2 := hb.rel r rz
  refine wpAny_call (codeAny_mono (F.run X.A X.stack s2 H2 ⟨us, ks.zip ws⟩ (g us ws) (vs ++ zs) Q (E σ) hr I2.env0 (hb.to s2 us ws I2.kIn (r.length.symm.trans l1) (rz.length.symm.trans l2)) r2 q2) fun r s' hq => ?_)
  cases r with
  | error e => exact hx σ pins H2 s2 e s' I2 hq
  | ok fl =>
    cases fl with
    | ret u => exact I2.after hq
    | next => exact False.elim hq
    | brk => exact False.elim hq
    | cont => exact False.elim hq
def fCallNP (n m : Nat) (fa fk : DS → R (List D)) (g : GP) : DS → R D := fun s => (fa s).bind fun as s1 => (fk s1).bind fun ks s2 => if as.length = n ∧ ks.length = m ∧ clL 0 (as ++ ks) = true then (match g (as ++ ks) with
  | .ok d _ => .ok d s2
  | .ex e _ => .ex e s2
  | .bad => .bad) else .bad
theorem pd_callNP {g : GP} {N : Nat} {gB : List Value → List Value → List Value} (F : FnOk X.prog X.w X.K X.mg X.base (L2.CX X.prog X.w) k f fd ps (spP X.K X.mg N g)) (hr : Room k X.A) (hm : X.mg x = some (.ref f)) (hk : PySem.W.keepIn X.K (.ref f) = true) (hb : KBn X.K fd ps n ks gB (fun vs zs => vs ++ zs))
    (hN : n + ks.length = N) (tk : Takes X W) (ha : PDA X W (e :: es) fa) (hkw : PDK X W kws fk) (hall : (backToKw pos (keywordEach kws X.env)).all (·.1.isSome) = true := by rfl) (hks : (backToKw pos (keywordEach kws X.env)).filterMap (·.1) = ks := by rfl)
    (hg : Gl X x := by rfl) (hdb : (x == ("__debug__" : Str)) = false := by decide) (he : starEach (e :: es) X.env = (false, eval e X.env) :: starEach es X.env := by rfl)
    (hpl : ((backTo pos (starEach (e :: es) X.env)).any (·.1) || (backToKw pos (keywordEach kws X.env)).any (·.1.isNone)) = false := by rfl) :
    PD X W (.Call (.Name x p) (e :: es) kws pos) (fCallNP n ks.length fa fk g) := by
  obtain ⟨ta, ea, la⟩ := ha
  obtain ⟨tk', ek, lk⟩ := hkw
  refine ⟨_, pe_callND F hr hg hm hk hb (fun σ => passAt tk σ) ea ek hall hks hdb he hpl, fun ρ F s σ H Q rl h => la ρ F s σ H _ rl (Post.bind h fun args s1 ρ1 F1 H1 vs x1 rl1 rd1 h1 => ?_)⟩
  refine lk ρ1 F1 s1 σ H1 _ rl1 (Post.bind h1 fun kargs s2 ρ2 F2 H2 zs x2 rl2 rd2 h2 => ?_)
  split at h2
  · rename_i hc
    refine ⟨by rw [rd1.length]; exact hc.1, by rw [rd2.length]; exact hc.2.1, ?_⟩
    exact spP_post rl2 ((rd1.ext x2).append rd2) (by rw [List.length_append, hc.1, hc.2.1, hN]) hc.2.2 h2
  · exact h2.elim
end
/-! ### x += y, of ints and of texts -/
section
variable {X : Cx} {W : WX}
noncomputable def gIAdd : D → D → DS → R D := fun x y s => match x, y with
  | .int i, .int j => .ok (.int (i + j)) s
  | .str i, .str j => if Pr (i.length + j.length ≤ sizeLine) then .ok (.str (i ++ j)) s else .bad
  | _, _ => .bad
abbrev rIAdd : R2 := fun x y H Q => rI0 (fun i j => .int (i + j)) x y H Q ∨ ∃ i j, x = .str i ∧ y = .str j ∧ i.length + j.length ≤ sizeLine ∧ Q (.str (i ++ j)) H
theorem iop_addIS : OpR X (inplaceOp .Add) rIAdd := iop_add.or iop_add_str
theorem opd_iadd : OpD X W rIAdd gIAdd := by
  intro ρ F s σ H x y v u Q rl r1 r2 h
  unfold gIAdd at h
  split at h
  · exact .inl ⟨_, _, r1, r2, h ρ F H _ (Ext.refl ..) rl rfl⟩
  · split at h
    · rename_i hc
      exact .inr ⟨_, _, r1, r2, hc, h ρ F H _ (Ext.refl ..) rl rfl⟩
    · exact h.elim
  · exact h.elim
end
end DL

/-! sum(xs, start=t), of tuples and of lists. -/
namespace DL
open PySem L2 PySem.Spec PyProof.Rows
/-- what is asked of a kind of rows that + joins -/
structure CatK (prog : Program) (w : World) (nw : Bool) (Sq : Heap → Addr → List Value → Prop) : Prop where
  keep : ∀ {h h' : Heap} {a : Addr} {vs : List Value}, Sq h a vs → (∀ o, h.get? a = some o → h'.get? a = some o) → Sq h' a vs
  there : ∀ {h : Heap} {a : Addr} {vs : List Value}, Sq h a vs → ∃ o, h.get? a = some o
  cat : ∀ {A : Around} {E : Value → Shared → Prop} {s : Shared} {a b : Addr} {vs ws : List Value} {Q : Value → Shared → Prop}, Sq s.heap a vs → Sq s.heap b ws → vs.length + ws.length ≤ sizeLine →
    (∀ h' p, (∀ c o, s.heap.get? c = some o → h'.get? c = some o) → s.heap.objs.size ≤ h'.objs.size → Sq h' p (vs ++ ws) → ((nw = false ∧ (p = a ∨ p = b)) ∨ s.heap.objs.size ≤ p) → Q (.ref p) { s with heap := h' }) → wpAny (model prog w) A (binaryOp .Add (.ref a) (.ref b)) Q E s
theorem catK_tup (prog : Program) (w : World) : CatK prog w false (fun h a vs => IsTup h a vs.toArray) where
  keep := fun ⟨o, ho, r⟩ k => ⟨o, k o ho, r⟩
  there := fun ⟨o, ho, _⟩ => ⟨o, ho⟩
  cat := fun {A E s a b vs ws Q} ha hb hz hQ => by
    by_cases hv : vs = []
    · subst hv
      exact cat_tup0 ha hb (hQ s.heap b (fun _ _ e => e) (Nat.le_refl _) (by simpa using hb) (.inl ⟨rfl, .inr rfl⟩))
    · refine HT.cat_tup ha hb hv (fun hw => ?_) (fun hw => ?_) hz
      · subst hw
        exact hQ s.heap a (fun _ _ e => e) (Nat.le_refl _) (by simpa using ha) (.inl ⟨rfl, .inl rfl⟩)
      · exact hQ _ s.heap.objs.size (fun c o e => Heap.get?_push_of_some _ e) (by rw [Heap.size_push]; exact Nat.le_succ _) (IsTup.new _ _) (.inr (Nat.le_refl _))
def IsLx (h : Heap) (a : Addr) (vs : List Value) : Prop := ∃ n, h.get? a = some { cls := .type "list", dict := none, data := .seq vs.toArray n, slots := #[] }
theorem catK_lst (prog : Program) (w : World) : CatK prog w true IsLx where
  keep := fun ⟨n, e⟩ k => ⟨n, k _ e⟩
  there := fun ⟨n, e⟩ => ⟨_, e⟩
  cat := fun {A E s a b vs ws Q} ha hb hz hQ => by
    obtain ⟨n, ho⟩ := ha
    obtain ⟨n2, ho2⟩ := hb
    have e : vs.toArray ++ ws.toArray = (vs ++ ws).toArray := by simp
    refine concat_meets ⟨_, ho, rfl⟩ ⟨_, ho2, rfl⟩ noFill_list_add seq_list_add PySem.F.slot_list_add PySem.F.entry_list_add (PySem.F.args_list_add_2 _ _) (list_addW a b vs.toArray ws.toArray n n2 none none #[] #[] (by simpa using hz)) ⟨ho, ho2, ?_⟩
    rw [e]
    exact hQ _ s.heap.objs.size (fun c o q => Heap.get?_push_of_some _ q) (by rw [Heap.size_push]; exact Nat.le_succ _) ⟨_, Heap.get?_push_size _ rfl⟩ (.inr (Nat.le_refl _))
section
variable {prog : Program} {w : World} {nw : Bool} {Sq : Heap → Addr → List Value → Prop}
theorem sum_loopS (C : CatK prog w nw Sq) {A : Around} {R : Result → Shared → Prop} (hh : A.handled = none) (I S l : Addr) (items : Array Value) (ps : List Addr) (h0 : Heap) (b0 : Addr) (hitems : items = (ps.map Value.ref).toArray)
    (h0l : h0.IsList l items) (h0I : h0.get? I = none) (h0S : h0.get? S = none) (hSI : S ≠ I) (vss : List (List Value)) (hlen : vss.length = ps.length) (hvs : ∀ (j : Nat) p vs, ps[j]? = some p → vss[j]? = some vs → Sq h0 p vs) (hb0 : ∃ o, h0.get? b0 = some o) (start : List Value) :
    ∀ (k i : Nat) (s : Shared) (t : Addr) (c : Nat), ps.length - i = k → i ≤ ps.length → s.heap.IsListIter I l i → (∀ b o, h0.get? b = some o → s.heap.get? b = some o) →
      s.heap.get? S = some { cls := .type "list", dict := none, data := .seq #[.ref t] c, slots := #[] } → t ≠ S → t ≠ I → Sq s.heap t (start ++ (vss.take i).flatten) → ((i = 0 ∧ t = b0) ∨ (nw = false ∧ (t = b0 ∨ t ∈ ps)) ∨ h0.objs.size ≤ t) → h0.objs.size ≤ s.heap.objs.size → (start ++ vss.flatten).length ≤ sizeLine →
      (∀ h' tk t', (∀ b o, h0.get? b = some o → h'.get? b = some o) → Sq h' t' (start ++ vss.flatten) → ((ps.length = 0 ∧ t' = b0) ∨ (nw = false ∧ (t' = b0 ∨ t' ∈ ps)) ∨ h0.objs.size ≤ t') → R (.ok (.ret (.ref t'))) { s with heap := h', toks := tk }) →
      codeAny (model prog w) A (.builtin "sum.loop" ⟨[.ref I, .ref S, rawInt 2, rawInt 0], []⟩) R s := by
  intro k
  induction k with
  | zero =>
    intro i s t c hk hi hit hold hS htS htI hsq horg hsz0 hz hR
    have hin : i = ps.length := by omega
    subst hin
    refine codeAny_builtin F.entry_sum_loop ?_
    rw [Around.under_plainId F.plain_sum_loop _]
    show wpAny _ A.in1 (seqItems? (.ref S) >>= _) _ _ s
    refine wpAny_bind (wpAny_seqItems hS rfl ?_)
    show wpAny _ A.in1 (tryCatch (pyNext (.ref I)) _ >>= _) _ _ s
    have hl : s.heap.IsList l items := h0l.at fun o e => hold l o e
    refine wpAny_bind (wpAny_tryCatch (wpAny_pyNext_list_end hh hit hl (by rw [hitems]; simp) fun h' eb => ?_))
    refine wpAny_pure ?_
    have ek : (vss.take ps.length) = vss := List.take_of_length_le (by omega)
    rw [ek] at hsq
    have keep : ∀ b o, h0.get? b = some o → h'.get? b = some o := fun b o e => eb b o (fun z => by rw [z, h0I] at e; cases e) (hold b o e)
    exact hR h' s.toks t keep (C.keep hsq fun o e => eb t o htI e) horg
  | succ k ih =>
    intro i s t c hk hi hit hold hS htS htI hsq horg hsz0 hz hR
    have hlt : i < ps.length := by omega
    obtain ⟨p, hp⟩ : ∃ p, ps[i]? = some p := ⟨_, List.getElem?_eq_getElem hlt⟩
    obtain ⟨vs, hv⟩ : ∃ vs, vss[i]? = some vs := ⟨_, List.getElem?_eq_getElem (by omega)⟩
    have hpv := hvs i p vs hp hv
    have hx : items[i]? = some (.ref p) := by rw [hitems]; simp [hp]
    have htk : vss.take (i + 1) = vss.take i ++ [vs] := take_get hv
    refine codeAny_builtin F.entry_sum_loop ?_
    rw [Around.under_plainId F.plain_sum_loop _]
    show wpAny _ A.in1 (seqItems? (.ref S) >>= _) _ _ s
    refine wpAny_bind (wpAny_seqItems hS rfl ?_)
    show wpAny _ A.in1 (tryCatch (pyNext (.ref I)) _ >>= _) _ _ s
    have hl : s.heap.IsList l items := h0l.at fun o e => hold l o e
    refine wpAny_bind (wpAny_tryCatch (wpAny_pyNext_list_item hit hl hx fun h1 hit1 sb => ?_))
    have old1 : ∀ b o, h0.get? b = some o → h1.get? b = some o := fun b o e => (sb.2 b (fun z => by rw [z, h0I] at e; cases e)).trans (hold b o e)
    have hS1 : h1.get? S = some { cls := .type "list", dict := none, data := .seq #[.ref t] c, slots := #[] } := (sb.2 S hSI).trans hS
    have hsq1 : Sq h1 t (start ++ (vss.take i).flatten) := C.keep hsq fun o e => (sb.2 t htI).trans e
    have hp1 : Sq h1 p vs := C.keep hpv fun o e => old1 p o e
    have hlen1 : (start ++ (vss.take i).flatten).length + vs.length ≤ sizeLine := by
      have e1 : (vss.take (i + 1)).flatten.length ≤ vss.flatten.length := by
        have := List.take_append_drop (i + 1) vss
        have e2 : vss.flatten.length = (vss.take (i + 1)).flatten.length + (vss.drop (i + 1)).flatten.length := by
          conv => lhs; rw [← this]
          rw [List.flatten_append, List.length_append]
        omega
      rw [htk, List.flatten_append, List.length_append] at e1
      simp only [List.flatten_cons, List.flatten_nil, List.append_nil] at e1
      rw [List.length_append] at hz ⊢
      omega
    show wpAny _ A.in1 ((holding [Value.ref p] (binaryOp .Add (.ref t) (.ref p))).attempt >>= _) _ _ _
    refine wpAny_bind (wpAny_attempt (wpAny_holding (C.cat (s := { s with heap := h1 }) hsq1 hp1 hlen1 fun h2 q old2 sz2 hq horgq => ?_)))
    show wpAny _ A.in1 (updateSeq S (fun _ => #[.ref q]) >>= _) _ _ _
    have hS2 : h2.get? S = some { cls := .type "list", dict := none, data := .seq #[.ref t] c, slots := #[] } := old2 _ _ hS1
    obtain ⟨oi, hoi, hci, hdi⟩ := hit1
    have hit2 : h2.IsListIter I l (i + 1) := ⟨oi, old2 _ _ hoi, hci, hdi⟩
    have hpS : p ≠ S := fun z => by obtain ⟨o, e⟩ := C.there hpv; rw [z, h0S] at e; cases e
    have hpI : p ≠ I := fun z => by obtain ⟨o, e⟩ := C.there hpv; rw [z, h0I] at e; cases e
    have sz1 : s.heap.objs.size = h1.objs.size := sb.1.symm
    have hSl : S < h1.objs.size := Heap.lt_size hS1
    have hIl : I < h1.objs.size := Heap.lt_size hoi
    have hqS : q ≠ S := by
      rcases horgq with ⟨_, z | z⟩ | z
      · rw [z]; exact htS
      · rw [z]; exact hpS
      · exact Nat.ne_of_gt (Nat.lt_of_lt_of_le hSl z)
    have hqI : q ≠ I := by
      rcases horgq with ⟨_, z | z⟩ | z
      · rw [z]; exact htI
      · rw [z]; exact hpI
      · exact Nat.ne_of_gt (Nat.lt_of_lt_of_le hIl z)
    have horg2 : (i + 1 = 0 ∧ q = b0) ∨ (nw = false ∧ (q = b0 ∨ q ∈ ps)) ∨ h0.objs.size ≤ q := by
      rcases horgq with ⟨n, z | z⟩ | z
      · rw [z]
        rcases horg with ⟨_, y⟩ | ⟨_, y⟩ | y
        · exact .inr (.inl ⟨n, .inl y⟩)
        · exact .inr (.inl ⟨n, y⟩)
        · exact .inr (.inr y)
      · exact .inr (.inl ⟨n, .inr (by rw [z]; exact List.mem_of_getElem? hp)⟩)
      · exact .inr (.inr (Nat.le_trans hsz0 (Nat.le_trans (Nat.le_of_eq sz1) z)))
    refine wpAny_bind (wpAny_updateSeq hS2 rfl ?_)
    have hS3 := Heap.get?_update_self (Obj.mapSeq fun _ => #[Value.ref q]) hS2 rfl
    refine wpAny_bind (wpAny_letGo ?_)
    refine wpAny_bind (wpAny_updateSeq hS3 rfl (wpAny_pure ⟨plainId_quiet F.plain_sum_loop _, ?_⟩))
    have hS4 := Heap.get?_update_self (Obj.mapSeq fun _ => #[Value.ref q]) hS3 rfl
    have oth : ∀ b, b ≠ S → ((h2.update S (Obj.mapSeq fun _ => #[Value.ref q])).update S (Obj.mapSeq fun _ => #[Value.ref q])).get? b = h2.get? b := fun b hb => by
      rw [Heap.get?_update_ne _ _ _ _ hb, Heap.get?_update_ne _ _ _ _ hb]
    have neS : ∀ b o, h0.get? b = some o → b ≠ S := fun b o e z => by rw [z, h0S] at e; cases e
    refine ih (i + 1) _ q _ (by omega) hlt ?_ (fun b o e => (oth b (neS b o e)).trans (old2 b o (old1 b o e))) hS4 hqS hqI ?_ horg2 (by rw [Heap.size_update, Heap.size_update]; exact Nat.le_trans hsz0 (Nat.le_trans (Nat.le_of_eq sz1) sz2)) hz ?_
    · obtain ⟨o, ho, r⟩ := hit2
      exact ⟨o, (oth I (Ne.symm hSI)).trans ho, r⟩
    · rw [htk, List.flatten_append, ← List.append_assoc]
      simp only [List.flatten_cons, List.flatten_nil, List.append_nil]
      exact C.keep hq fun o e => (oth q hqS).trans e
    · exact fun h' tk t' k1 k2 k3 => hR h' tk t' k1 k2 k3
theorem args_sumS (a v : Value) : argsOk "sum" ⟨[a], [(Str.ofString "start", v)]⟩ := by unfold argsOk; kernel_rfl
/-- sum(l, start=b) -/
theorem call_sumS (C : CatK prog w nw Sq) {A : Around} {E : Value → Shared → Prop} {s : Shared} {Q : Value → Shared → Prop} (hh : A.handled = none) (T : String) (hsub : ∀ t, t ∈ ["str", "bytes", "bytearray"] → isSubtype (.type T) (.type t) = pure false) (hty : ∀ {h : Heap} {a : Addr} {vs : List Value}, Sq h a vs → ∃ o, h.get? a = some o ∧ o.cls = .type T)
    (l b : Addr) (ps : List Addr) (vss : List (List Value)) (start : List Value) (hl : s.heap.IsList l (ps.map Value.ref).toArray) (hb : Sq s.heap b start) (hlen : vss.length = ps.length)
    (hvs : ∀ (j : Nat) p vs, ps[j]? = some p → vss[j]? = some vs → Sq s.heap p vs) (hz : (start ++ vss.flatten).length ≤ sizeLine)
    (hQ : ∀ h' tk t', (∀ c o, s.heap.get? c = some o → h'.get? c = some o) → Sq h' t' (start ++ vss.flatten) → ((ps.length = 0 ∧ t' = b) ∨ (nw = false ∧ (t' = b ∨ t' ∈ ps)) ∨ s.heap.objs.size ≤ t') → Q (.ref t') { s with heap := h', toks := tk }) :
    wpAny (model prog w) A (call (.builtin "sum") [.ref l] [(Str.ofString "start", .ref b)]) Q E s := by
  refine wpAny_call (codeAny_call_builtin F.plain_sum F.entry_sum ?_)
  have main : wpAny (model prog w) A.in1 (Builtin.«sum» ⟨[.ref l], [(Str.ofString "start", .ref b)]⟩) (fun fin s' => match fin with
      | .done f => (match (Except.ok f : Result) with | .ok (.ret v) => Q v s' | .ok _ => False | .error e => E e s')
      | .again c' => c'.quiet = true ∧ codeAny (model prog w) A c' (fun r s' => match r with | .ok (.ret v) => Q v s' | .ok _ => False | .error e => E e s') s') E s := by
    unfold Builtin.«sum»
    simp only [List.length_cons, List.length_nil]
    rw [if_neg (by decide)]
    refine wpAny_bind (wpAny_of_eq (show Builtin.Builtins.bindParams "sum" ["start"] 0 ⟨[], [(Str.ofString "start", .ref b)]⟩ = pure [some (.ref b)] from rfl) ?_)
    refine wpAny_bind (wpAny_pyIter_list hl ?_)
    refine wpAny_bind (wpAny_pure ?_)
    obtain ⟨ob, hob, hcb⟩ := hty hb
    have old1 : ∀ c o, s.heap.get? c = some o → (s.heap.push { cls := .type "list_iterator", data := .fields #[.ref l, .int 0 0] }).get? c = some o := fun c o e => Heap.get?_push_of_some _ e
    have hT : ({ s with heap := s.heap.push { cls := .type "list_iterator", data := .fields #[.ref l, .int 0 0] } } : Shared).TypeIs (.ref b) T := ⟨ob, old1 _ _ hob, hcb⟩
    simp only [List.forIn_cons, List.forIn_nil]
    refine wpAny_bind (wpAny_bind (wpAny_bind (wpAny_isInstance (T := T) (b := false) hT (hsub "str" (by simp)) ?_)))
    simp only [Bool.false_eq_true, if_false]
    refine wpAny_pure (wpAny_bind (wpAny_bind (wpAny_isInstance (T := T) (b := false) hT (hsub "bytes" (by simp)) ?_)))
    simp only [Bool.false_eq_true, if_false]
    refine wpAny_pure (wpAny_bind (wpAny_bind (wpAny_isInstance (T := T) (b := false) hT (hsub "bytearray" (by simp)) ?_)))
    simp only [Bool.false_eq_true, if_false]
    refine wpAny_pure (wpAny_pure ?_)
    refine wpAny_bind (wpAny_newObj_type ?_)
    have hsz : (s.heap.push { cls := .type "list_iterator", data := .fields #[.ref l, .int 0 0] }).objs.size = s.heap.objs.size + 1 := Heap.size_push ..
    have hbl : b < s.heap.objs.size := Heap.lt_size hob
    refine wpAny_pure ⟨plainId_quiet F.plain_sum_loop _, ?_⟩
    refine sum_loopS C hh s.heap.objs.size (s.heap.push { cls := .type "list_iterator", data := .fields #[.ref l, .int 0 0] }).objs.size l _ ps s.heap b rfl hl (Heap.get?_none_of_le (Nat.le_refl _)) (Heap.get?_none_of_le (by rw [hsz]; exact Nat.le_succ _)) (by rw [hsz]; exact Nat.succ_ne_self _) vss hlen hvs ⟨ob, hob⟩ start ps.length 0 _ b _ rfl (Nat.zero_le _)
      ⟨_, Heap.get?_push_of_some _ (Heap.get?_push_size _ rfl), rfl, rfl⟩ (fun c o e => Heap.get?_push_of_some _ (old1 c o e)) (Heap.get?_push_size _ rfl) (by rw [hsz]; exact Nat.ne_of_lt (Nat.lt_succ_of_lt hbl)) (Nat.ne_of_lt hbl) ?_ (.inl ⟨rfl, rfl⟩) (by rw [Heap.size_push, hsz]; exact Nat.le_trans (Nat.le_succ _) (Nat.le_succ _)) hz (fun h' tk t' k1 k2 k3 => hQ h' tk t' k1 k2 k3)
    simp only [List.take_zero, List.flatten_nil, List.append_nil]
    exact C.keep hb fun o e => Heap.get?_push_of_some _ (old1 _ _ e)
  simp only [checkBuiltinCall, F.kind_sum]
  have ha := args_sumS (.ref l) (.ref b)
  cases hsig : Manifest.signature? "sum" with
  | none => exact wpAny_pure main
  | some sig =>
    have ha' : Bind.checkArgs "sum" sig ⟨[.ref l], [(Str.ofString "start", .ref b)]⟩ = pure () := by simpa only [argsOk, hsig] using ha
    simp only [ha']
    exact wpAny_pure main
end
section
variable {X : Cx} {W : WX}
theorem vals_refs : ∀ {ps : List Addr} {its : List Value}, Vals (ps.map V.ref) its → its = ps.map Value.ref
  | [], _, h => by cases h; rfl
  | p :: ps, _, h => by
    cases h with
    | cons a b =>
      cases a
      rw [vals_refs b]
      rfl
theorem choose_items {P : Addr → List Value → Prop} : ∀ (ps : List Addr) (vss : List (List V)), vss.length = ps.length → (∀ (j : Nat) p vs, ps[j]? = some p → vss[j]? = some vs → ∃ its, Vals vs its ∧ P p its) →
    ∃ wss : List (List Value), wss.length = ps.length ∧ Vals vss.flatten wss.flatten ∧ ∀ (j : Nat) p ws, ps[j]? = some p → wss[j]? = some ws → P p ws
  | [], [], _, _ => ⟨[], rfl, .nil, fun j p ws h => by simp at h⟩
  | [], _ :: _, h, _ => by simp at h
  | _ :: _, [], h, _ => by simp at h
  | p :: ps, vs :: vss, hl, h => by
    obtain ⟨its, v1, p1⟩ := h 0 p vs rfl rfl
    obtain ⟨wss, l, v, q⟩ := choose_items ps vss (by simpa using hl) fun j p vs e1 e2 => h (j + 1) p vs e1 e2
    refine ⟨its :: wss, by simp [l], v1.append v, fun j p' ws e1 e2 => ?_⟩
    cases j with
    | zero =>
      cases e1
      cases e2
      exact p1
    | succ j => exact q j p' ws e1 e2
def rSumT (K : PySem.W.Frag) : List V → List V → Hp → VK → Prop := fun xs zs H Q => ∃ (a b : Addr) (ps : List Addr) (vss : List (List V)) (ys : List V), xs = [.ref a] ∧ zs = [.ref b] ∧ SqL K H a (ps.map V.ref) ∧ SqT K H b ys ∧ vss.length = ps.length ∧
  (∀ (j : Nat) p vs, ps[j]? = some p → vss[j]? = some vs → SqT K H p vs) ∧ (ys ++ vss.flatten).length ≤ sizeLine ∧ (∀ p vs0, ((p = b ∧ vs0 = ys) ∨ ∃ j : Nat, ps[j]? = some p ∧ vss[j]? = some vs0) → vs0 = ys ++ vss.flatten → Q (.ref p) H) ∧ ∀ p, H p = none → Q (.ref p) (upd H p (.tup (ys ++ vss.flatten)))
theorem cr_sumT (hc : X.calm = true) : CallRK X (.builtin "sum") ["start"] (rSumT X.K) := by
  intro pins s σ H xs zs us ws Q I rx rz h
  obtain ⟨a, b, ps, vss, ys, rfl, rfl, hq, hb, hl, hv, hz, q1, q2⟩ := h
  obtain ⟨ua, rfl, ra⟩ := vals1 rx
  obtain ⟨ub, rfl, rb⟩ := vals1 rz
  cases ra
  cases rb
  obtain ⟨its, rv, pl, hz1⟩ := I.list hq
  have hits := vals_refs rv
  subst hits
  obtain ⟨itb, rvb, pb, _⟩ := I.tuple hb
  obtain ⟨wss, hwl, hwv, hwp⟩ := choose_items (P := fun p its => IsTup s.heap p its.toArray) ps vss hl fun j p vs e1 e2 => by
    obtain ⟨it, rv', p', _⟩ := I.tuple (hv j p vs e1 e2)
    exact ⟨it, rv', p'⟩
  have rall := rvb.append hwv
  have hlen : (itb ++ wss.flatten).length ≤ sizeLine := by rw [← rall.length]; exact hz
  refine call_sumS (catK_tup X.prog X.w) (I.ok.hd hc) "tuple" (fun t ht => ?_) (fun ⟨o, e1, e2, _⟩ => ⟨o, e1, e2⟩) a b ps wss itb pl.isList pb hwl hwp hlen fun h' tk t' hk ht horg => ?_
  · simp only [List.mem_cons, List.not_mem_nil, or_false] at ht
    rcases ht with rfl | rfl | rfl
    · exact F.sub_tuple_str
    · exact F.sub_tuple_bytes
    · exact F.sub_tuple_bytearray
  have I2 : Inv X pins σ H { s with heap := h', toks := tk } := I.kept hk
  have old : ∀ vs0, SqT X.K H t' vs0 → vs0 = ys ++ vss.flatten := fun vs0 hs0 => by
    obtain ⟨it0, r0, ⟨o, e, _, n, d⟩, _⟩ := I2.tuple hs0
    obtain ⟨o', e', _, n', d'⟩ := ht
    rw [e] at e'
    cases e'
    rw [d] at d'
    injection d' with d1 _
    have : it0 = itb ++ wss.flatten := by simpa using congrArg Array.toList d1
    subst this
    exact r0.inj rall
  rcases horg with ⟨_, rfl⟩ | ⟨_, z⟩ | z
  · exact ⟨.ref t', H, I2, rfl, q1 t' ys (.inl ⟨rfl, rfl⟩) (old _ hb)⟩
  · rcases z with rfl | z
    · exact ⟨.ref t', H, I2, rfl, q1 t' ys (.inl ⟨rfl, rfl⟩) (old _ hb)⟩
    · obtain ⟨j, hj⟩ := List.getElem?_of_mem z
      obtain ⟨vs0, hv0⟩ : ∃ vs0, vss[j]? = some vs0 := ⟨_, List.getElem?_eq_getElem (by rw [hl]; exact (List.getElem?_eq_some_iff.mp hj).1)⟩
      exact ⟨.ref t', H, I2, rfl, q1 t' vs0 (.inr ⟨j, hj, hv0⟩) (old _ (hv j t' vs0 hj hv0))⟩
  · exact ⟨.ref t', _, I.laid (t' := tk) (o := .tup (ys ++ vss.flatten)) hk z ⟨hz, _, rall, ht⟩, rfl, q2 t' (I.hok.fresh z)⟩
def rSumL (K : PySem.W.Frag) : List V → List V → Hp → VK → Prop := fun xs zs H Q => ∃ (a b : Addr) (ps : List Addr) (vss : List (List V)) (ys : List V), xs = [.ref a] ∧ zs = [.ref b] ∧ SqL K H a (ps.map V.ref) ∧ H b = some (.lst ys) ∧ vss.length = ps.length ∧ ps ≠ [] ∧
  (∀ (j : Nat) p vs, ps[j]? = some p → vss[j]? = some vs → H p = some (.lst vs)) ∧ (ys ++ vss.flatten).length ≤ sizeLine ∧ ∀ p, H p = none → Q (.ref p) (upd H p (.lst (ys ++ vss.flatten)))
theorem cr_sumL (hc : X.calm = true) : CallRK X (.builtin "sum") ["start"] (rSumL X.K) := by
  intro pins s σ H xs zs us ws Q I rx rz h
  obtain ⟨a, b, ps, vss, ys, rfl, rfl, hq, hb, hl, hne, hv, hz, q2⟩ := h
  obtain ⟨ua, rfl, ra⟩ := vals1 rx
  obtain ⟨ub, rfl, rb⟩ := vals1 rz
  cases ra
  cases rb
  obtain ⟨its, rv, pl, hz1⟩ := I.list hq
  have hits := vals_refs rv
  subst hits
  obtain ⟨_, itb, nb, rvb, eb⟩ := (show ObjOk X.prog X.w H s.heap b (.lst ys) from I.hok b _ hb)
  obtain ⟨wss, hwl, hwv, hwp⟩ := choose_items (P := fun p its => IsLx s.heap p its) ps vss hl fun j p vs e1 e2 => by
    obtain ⟨_, it, n, rv', e'⟩ := (show ObjOk X.prog X.w H s.heap p (.lst vs) from I.hok p _ (hv j p vs e1 e2))
    exact ⟨it, rv', n, e'⟩
  have rall := rvb.append hwv
  have hlen : (itb ++ wss.flatten).length ≤ sizeLine := by rw [← rall.length]; exact hz
  refine call_sumS (catK_lst X.prog X.w) (I.ok.hd hc) "list" (fun t ht => ?_) (fun ⟨n, e⟩ => ⟨_, e, rfl⟩) a b ps wss itb pl.isList ⟨nb, eb⟩ hwl hwp hlen fun h' tk t' hk ht horg => ?_
  · simp only [List.mem_cons, List.not_mem_nil, or_false] at ht
    rcases ht with rfl | rfl | rfl
    · exact F.sub_list_str
    · exact F.sub_list_bytes
    · exact F.sub_list_bytearray
  rcases horg with ⟨z, _⟩ | ⟨z, _⟩ | z
  · exact absurd (List.eq_nil_of_length_eq_zero z) hne
  · cases z
  · obtain ⟨n, e⟩ := ht
    exact ⟨.ref t', _, I.laid (t' := tk) (o := .lst (ys ++ vss.flatten)) hk z ⟨hz, _, n, rall, e⟩, rfl, q2 t' (I.hok.fresh z)⟩
/-! as data -/
def tupsD : List D → Option (List (List D))
  | [] => some []
  | .tup ds :: r => (tupsD r).map (ds :: ·)
  | _ => none
def lstsD : List D → Option (List (List D))
  | [] => some []
  | .lst ds :: r => (lstsD r).map (ds :: ·)
  | _ => none
theorem rd_intE {K : PySem.W.Frag} {ρ : List Addr} {F : Hp} {d : D} {i : Int} (r : Rd K ρ F d (.int i)) : d = .int i := by
  cases d with
  | int j => cases r; rfl
  | _ => first | (obtain ⟨_, _, z, _⟩ := r; cases z) | (obtain ⟨_, z, _⟩ := r; cases z) | cases r
theorem rd_strE {K : PySem.W.Frag} {ρ : List Addr} {F : Hp} {d : D} {i : Str} (r : Rd K ρ F d (.str i)) : d = .str i := by
  cases d with
  | str j => cases r; rfl
  | _ => first | (obtain ⟨_, _, z, _⟩ := r; cases z) | (obtain ⟨_, z, _⟩ := r; cases z) | cases r
theorem keyish_eq {K : PySem.W.Frag} {ρ : List Addr} {F : Hp} {a b : List D} {vs : List V} (h : keyish a) (r1 : RdL K ρ F a vs) (r2 : RdL K ρ F b vs) : b = a := by
  unfold keyish at h
  split at h
  · obtain ⟨v1, t1, rfl, e1, v2, t2, rfl, e2, rfl⟩ := r1
    cases e1; cases e2
    cases b with
    | nil => cases r2
    | cons b1 b =>
      obtain ⟨w1, u1, q1, f1, r3⟩ := r2
      cases q1
      cases b with
      | nil => cases r3
      | cons b2 b =>
        obtain ⟨w2, u2, q2, f2, r4⟩ := r3
        cases q2
        cases b with
        | nil => rw [rd_intE f1, rd_strE f2]
        | cons _ _ => obtain ⟨_, _, q, _⟩ := r4; cases q
  · obtain ⟨v1, t1, rfl, e1, v2, t2, rfl, e2, rfl⟩ := r1
    cases e1; cases e2
    cases b with
    | nil => cases r2
    | cons b1 b =>
      obtain ⟨w1, u1, q1, f1, r3⟩ := r2
      cases q1
      cases b with
      | nil => cases r3
      | cons b2 b =>
        obtain ⟨w2, u2, q2, f2, r4⟩ := r3
        cases q2
        cases b with
        | nil => rw [rd_intE f1, rd_intE f2]
        | cons _ _ => obtain ⟨_, _, q, _⟩ := r4; cases q
  · obtain ⟨v1, t1, rfl, e1, v2, t2, rfl, e2, v3, t3, rfl, e3, rfl⟩ := r1
    cases e1; cases e2; cases e3
    cases b with
    | nil => cases r2
    | cons b1 b =>
      obtain ⟨w1, u1, q1, f1, r3⟩ := r2
      cases q1
      cases b with
      | nil => cases r3
      | cons b2 b =>
        obtain ⟨w2, u2, q2, f2, r4⟩ := r3
        cases q2
        cases b with
        | nil => cases r4
        | cons b3 b =>
          obtain ⟨w3, u3, q3, f3, r5⟩ := r4
          cases q3
          cases b with
          | nil => rw [rd_intE f1, rd_intE f2, rd_strE f3]
          | cons _ _ => obtain ⟨_, _, q, _⟩ := r5; cases q
  · exact h.elim
theorem tqT_eq {K : PySem.W.Frag} {ρ : List Addr} {F : Hp} {a b : List D} {vs : List V} {p : Addr} (h : TqT K F b p vs) (r2 : RdL K ρ F b vs) (r1 : RdL K ρ F a vs) : TqT K F a p vs := ⟨h.1, fun k => h.2 (by rw [keyish_eq k r1 r2]; exact k)⟩
theorem tupsD_rd {K : PySem.W.Frag} {ρ : List Addr} {F : Hp} : ∀ {ds : List D} {vs : List V} {dss : List (List D)}, RdL K ρ F ds vs → tupsD ds = some dss → ∃ (ps : List Addr) (vss : List (List V)), vs = ps.map V.ref ∧ vss.length = ps.length ∧ RdL K ρ F dss.flatten vss.flatten ∧ ∀ (j : Nat) p us, ps[j]? = some p → vss[j]? = some us → ∃ es, TqT K F es p us ∧ RdL K ρ F es us
  | [], vs, dss, r, h => by
    cases h
    simp only [RdL] at r
    subst r
    exact ⟨[], [], rfl, rfl, rfl, fun j p us e => by simp at e⟩
  | d :: ds, vs, dss, r, h => by
    obtain ⟨v, t, rfl, r1, r2⟩ := r
    cases d with
    | tup es =>
      unfold tupsD at h
      cases q : tupsD ds with
      | none => rw [q] at h; cases h
      | some dr =>
        rw [q] at h
        cases h
        obtain ⟨a, us, rfl, k1, k2⟩ := r1
        obtain ⟨ps, vss, rfl, l, k3, k4⟩ := tupsD_rd r2 q
        refine ⟨a :: ps, us :: vss, rfl, by simp [l], k2.append k3, fun j p us' e1 e2 => ?_⟩
        cases j with
        | zero => cases e1; cases e2; exact ⟨_, k1, k2⟩
        | succ j => exact k4 j p us' e1 e2
    | _ => simp [tupsD] at h
theorem lstsD_rd {K : PySem.W.Frag} {ρ : List Addr} {F : Hp} : ∀ {ds : List D} {vs : List V} {dss : List (List D)}, RdL K ρ F ds vs → lstsD ds = some dss → ∃ (ps : List Addr) (vss : List (List V)), vs = ps.map V.ref ∧ vss.length = ps.length ∧ RdL K ρ F dss.flatten vss.flatten ∧ ∀ (j : Nat) p us, ps[j]? = some p → vss[j]? = some us → F p = some (.lst us)
  | [], vs, dss, r, h => by
    cases h
    simp only [RdL] at r
    subst r
    exact ⟨[], [], rfl, rfl, rfl, fun j p us e => by simp at e⟩
  | d :: ds, vs, dss, r, h => by
    obtain ⟨v, t, rfl, r1, r2⟩ := r
    cases d with
    | lst es =>
      unfold lstsD at h
      cases q : lstsD ds with
      | none => rw [q] at h; cases h
      | some dr =>
        rw [q] at h
        cases h
        obtain ⟨a, us, rfl, k1, k2⟩ := r1
        obtain ⟨ps, vss, rfl, l, k3, k4⟩ := lstsD_rd r2 q
        refine ⟨a :: ps, us :: vss, rfl, by simp [l], k2.append k3, fun j p us' e1 e2 => ?_⟩
        cases j with
        | zero => cases e1; cases e2; exact k1
        | succ j => exact k4 j p us' e1 e2
    | _ => simp [lstsD] at h
/-- a list's items -/
def lsV (s : DS) : D → Option (List D)
  | .tup _ => none
  | x => seqV s x
theorem lsV_rd {K : PySem.W.Frag} {mg : Str → Option Value} {ρ : List Addr} {F H : Hp} {s : DS} {d : D} {v : V} {ds : List D} (rl : MRel K mg ρ F s.m H) (r : Rd K ρ F d v) (e : lsV s d = some ds) : ∃ a vs, v = .ref a ∧ SqL K H a vs ∧ RdL K ρ F ds vs := by
  unfold lsV at e
  split at e
  · cases e
  · rename_i hn
    exact seqV_l rl r e hn
noncomputable def gSumT : List D → List D → DS → R D := fun as ks s => match as, ks with
  | [x], [.tup ys] => (match lsV s x with
    | some ds => (match tupsD ds with
      | some dss => if Pr ((ys ++ dss.flatten).length ≤ sizeLine) then .ok (.tup (ys ++ dss.flatten)) s else .bad
      | none => .bad)
    | none => .bad)
  | _, _ => .bad
noncomputable def gSumL : List D → List D → DS → R D := fun as ks s => match as, ks with
  | [x], [.lst ys] => (match lsV s x with
    | some ds => (match lstsD ds with
      | some dss => if Pr (dss ≠ [] ∧ (ys ++ dss.flatten).length ≤ sizeLine) then .ok (.lst (ys ++ dss.flatten)) s else .bad
      | none => .bad)
    | none => .bad)
  | _, _ => .bad
def fCallK (fa fk : DS → R (List D)) (g : List D → List D → DS → R D) : DS → R D := fun s => (fa s).bind fun as s1 => (fk s1).bind fun ks s2 => g as ks s2
theorem pd_sumT {e : Expr} {es : List Expr} {kws : List Keyword} {p pos : Pos} {fa fk : DS → R (List D)} (hc : X.calm = true) (hg : Gl X "sum") (hm : X.mg "sum" = none) (ha : PDA X W (e :: es) fa) (hk : PDK X W kws fk)
    (he : backTo pos (starEach (e :: es) X.env) = (false, eval e X.env) :: backTo pos (starEach es X.env) := by rfl) (hpl : (backTo pos (starEach (e :: es) X.env)).any (·.1) = false := by rfl)
    (hall : (backToKw pos (keywordEach kws X.env)).all (·.1.isSome) = true := by rfl) (hnone : (backToKw pos (keywordEach kws X.env)).any (·.1.isNone) = false := by rfl) (hks : (backToKw pos (keywordEach kws X.env)).filterMap (·.1) = [Str.ofString "start"] := by rfl) :
    PD X W (.Call (.Name "sum" p) (e :: es) kws pos) (fCallK fa fk gSumT) := by
  obtain ⟨t, e1, l⟩ := ha
  obtain ⟨tk, e2, l2⟩ := hk
  refine ⟨_, pe_callBK (cr_sumT hc) hg hm (by decide +kernel) e1 e2 (by decide) (by decide) he hpl hall hnone hks, fun ρ F s σ H Q rl h => l ρ F s σ H _ rl (h.bind fun as s1 ρ1 F1 H1 vs x1 rl1 rd1 h1 => ?_)⟩
  refine l2 ρ1 F1 s1 σ H1 _ rl1 (Post.bind h1 fun ks s2 ρ2 F2 H2 zs x2 rl2 rd2 h2 => ?_)
  have rd1' := rd1.ext x2
  unfold gSumT at h2
  split at h2
  · rename_i x ys
    split at h2
    · rename_i ds q1
      split at h2
      · rename_i dss q2
        split at h2
        · rename_i hz
          obtain ⟨v, rfl, rv⟩ := rdl1 rd1'
          obtain ⟨a, us, rfl, k1, k2⟩ := lsV_rd rl2.mem rv q1
          obtain ⟨u, rfl, b, ws, rfl, k3, k4⟩ := rdl1 rd2
          obtain ⟨ps, vss, rfl, hl, k5, k6⟩ := tupsD_rd k2 q2
          have k7 := k4.append k5
          refine ⟨a, b, ps, vss, ws, rfl, rfl, k1, sqT_mono rl2.mem.sub k3, hl, fun j p us e1 e2 => let ⟨_, z, _⟩ := k6 j p us e1 e2; sqT_mono rl2.mem.sub z, by rw [k7.length]; exact hz, fun p vs0 hp he => ?_, Post.tup h2 rl2 k7⟩
          subst he
          refine h2 ρ2 F2 H2 _ (Ext.refl ..) rl2 ⟨p, _, rfl, ?_, k7⟩
          rcases hp with ⟨rfl, e⟩ | ⟨j, e1, e2⟩
          · have k8 := k7; rw [e] at k8 ⊢; exact tqT_eq k3 k4 k8
          · obtain ⟨es, z1, z2⟩ := k6 j p _ e1 e2
            exact tqT_eq z1 z2 k7
        · exact h2.elim
      · exact h2.elim
    · exact h2.elim
  · exact h2.elim
theorem pd_sumL {e : Expr} {es : List Expr} {kws : List Keyword} {p pos : Pos} {fa fk : DS → R (List D)} (hc : X.calm = true) (hg : Gl X "sum") (hm : X.mg "sum" = none) (ha : PDA X W (e :: es) fa) (hk : PDK X W kws fk)
    (he : backTo pos (starEach (e :: es) X.env) = (false, eval e X.env) :: backTo pos (starEach es X.env) := by rfl) (hpl : (backTo pos (starEach (e :: es) X.env)).any (·.1) = false := by rfl)
    (hall : (backToKw pos (keywordEach kws X.env)).all (·.1.isSome) = true := by rfl) (hnone : (backToKw pos (keywordEach kws X.env)).any (·.1.isNone) = false := by rfl) (hks : (backToKw pos (keywordEach kws X.env)).filterMap (·.1) = [Str.ofString "start"] := by rfl) :
    PD X W (.Call (.Name "sum" p) (e :: es) kws pos) (fCallK fa fk gSumL) := by
  obtain ⟨t, e1, l⟩ := ha
  obtain ⟨tk, e2, l2⟩ := hk
  refine ⟨_, pe_callBK (cr_sumL hc) hg hm (by decide +kernel) e1 e2 (by decide) (by decide) he hpl hall hnone hks, fun ρ F s σ H Q rl h => l ρ F s σ H _ rl (h.bind fun as s1 ρ1 F1 H1 vs x1 rl1 rd1 h1 => ?_)⟩
  refine l2 ρ1 F1 s1 σ H1 _ rl1 (Post.bind h1 fun ks s2 ρ2 F2 H2 zs x2 rl2 rd2 h2 => ?_)
  have rd1' := rd1.ext x2
  unfold gSumL at h2
  split at h2
  · rename_i x ys
    split at h2
    · rename_i ds q1
      split at h2
      · rename_i dss q2
        split at h2
        · rename_i hz
          have hz1 : dss ≠ [] ∧ (ys ++ dss.flatten).length ≤ sizeLine := hz
          obtain ⟨v, rfl, rv⟩ := rdl1 rd1'
          obtain ⟨a, us, rfl, k1, k2⟩ := lsV_rd rl2.mem rv q1
          obtain ⟨u, rfl, b, ws, rfl, k3, k4⟩ := rdl1 rd2
          have hdl : dss.length = ds.length := by
            clear h2 k2 rv hz hz1 q1
            induction ds generalizing dss with
            | nil => cases q2; rfl
            | cons d ds ih => cases d with
              | lst es =>
                unfold lstsD at q2
                cases q : lstsD ds with
                | none => rw [q] at q2; cases q2
                | some dr => rw [q] at q2; cases q2; simp [ih dr q]
              | _ => simp [lstsD] at q2
          have hul := k2.length
          obtain ⟨ps, vss, rfl, hl, k5, k6⟩ := lstsD_rd k2 q2
          have k7 := k4.append k5
          refine ⟨a, b, ps, vss, ws, rfl, rfl, k1, rl2.mem.sub _ _ k3, hl, fun z => ?_, fun j p us e1 e2 => rl2.mem.sub _ _ (k6 j p us e1 e2), by rw [k7.length]; exact hz1.2, Post.lst h2 rl2 k7⟩
          subst z
          simp at hul
          exact hz1.1 (List.eq_nil_of_length_eq_zero (by omega))
        · exact h2.elim
      · exact h2.elim
    · exact h2.elim
  · exact h2.elim
end
end DL

/-! More rules and lemmas. -/
namespace DL
open PySem L2
section
variable {X : Cx} {W : WX}
/-! ### -x -/
def fNeg (f : DS → R D) : DS → R D := fun s => (f s).bind fun d s1 => match d with
  | .int i => .ok (.int (-i)) s1
  | _ => .bad
theorem pd_neg {a : Expr} {pos : Pos} {f : DS → R D} (h : PD X W a f) : PD X W (.UnaryOp .USub a pos) (fNeg f) := by
  obtain ⟨t, e1, l⟩ := h
  refine ⟨_, pe_un un_neg e1, fun ρ F s σ H Q rl h => l ρ F s σ H _ rl (h.bind fun d s1 ρ1 F1 H1 v x1 rl1 rd1 h1 => ?_)⟩
  cases d with
  | int i => exact ⟨i, rd1, h1 ρ1 F1 H1 _ (Ext.refl ..) rl1 rfl⟩
  | _ => exact h1.elim
end
/-! ### slices -/
theorem cut_mid (ds : List D) (a b : Nat) (h : a ≤ b) : cutG ds (some (a : Int)) (some (b : Int)) = (ds.drop a).take (b - a) := by
  unfold cutG
  rw [HT.sIx_nat, HT.sIx_nat]
  by_cases h1 : a ≤ ds.length
  · rw [Nat.min_eq_left h1]
    by_cases h2 : b ≤ ds.length
    · rw [Nat.min_eq_left h2]
    · rw [Nat.min_eq_right (by omega), List.take_of_length_le (by simp), List.take_of_length_le (by simp; omega)]
  · have e : min a ds.length = ds.length := Nat.min_eq_right (by omega)
    rw [e, List.drop_of_length_le (Nat.le_refl _), List.drop_of_length_le (by omega)]
    simp
theorem atI_last (ds : List D) (d : D) : L2.atI (ds ++ [d]) (-1) = some d := by
  unfold L2.atI ixN
  rw [if_neg (by omega), if_pos (by simp; omega)]
  simp
  have : ((-1 : Int) + (ds.length + 1)).toNat = ds.length := by omega
  rw [this]
  simp
theorem tupsD_map (pss : List (List Int)) : tupsD (pss.map fun p => D.tup (p.map .int)) = some (pss.map fun p => p.map .int) := by
  induction pss with
  | nil => rfl
  | cons p r ih => simp only [List.map_cons, tupsD, ih, Option.map_some]
theorem flat_map_int (pss : List (List Int)) : (pss.map fun p => p.map D.int).flatten = pss.flatten.map D.int := by
  induction pss with
  | nil => rfl
  | cons p r ih => simp only [List.map_cons, List.flatten_cons, ih, List.map_append]
/-! ### pieces -/
/-- a message in pieces of n -/
def piecesI (ds : List Int) (n : Nat) : List (List Int) := (List.range (ds.length / n + 1)).map fun k => (ds.drop (k * n)).take n
theorem pieces_pre (ds : List Int) (n : Nat) : ∀ m : Nat, ((List.range m).map fun k => (ds.drop (k * n)).take n).flatten = ds.take (m * n)
  | 0 => by simp
  | m + 1 => by
    rw [List.range_succ, List.map_append, List.flatten_append, pieces_pre ds n m]
    simp only [List.map_cons, List.map_nil, List.flatten_cons, List.flatten_nil, List.append_nil]
    rw [← List.take_add, Nat.succ_mul]
theorem pieces_flat (ds : List Int) (n : Nat) (hn : 0 < n) : (piecesI ds n).flatten = ds := by
  unfold piecesI
  rw [pieces_pre]
  refine List.take_of_length_le ?_
  have h1 := Nat.div_add_mod ds.length n
  have h2 := Nat.mod_lt ds.length hn
  rw [Nat.succ_mul, Nat.mul_comm]
  omega
theorem pieces_len (ds : List Int) (n : Nat) : (piecesI ds n).length = ds.length / n + 1 := by simp [piecesI]
theorem pieces_all (ds : List Int) (n : Nat) : ∀ p ∈ piecesI ds n, p.length ≤ n := by
  intro p hp
  obtain ⟨k, _, rfl⟩ := List.mem_map.mp hp
  rw [List.length_take]
  omega
theorem pieces_last (ds : List Int) (n : Nat) (hn : 0 < n) : ∃ pre last, piecesI ds n = pre ++ [last] ∧ last.length < n := by
  refine ⟨(List.range (ds.length / n)).map fun k => (ds.drop (k * n)).take n, (ds.drop (ds.length / n * n)).take n, by simp [piecesI, List.range_succ], ?_⟩
  have h1 := Nat.div_add_mod ds.length n
  have h2 := Nat.mod_lt ds.length hn
  rw [List.length_take, List.length_drop, Nat.mul_comm]
  omega
theorem pcs_cl (n : Nat) : ∀ ps : List (List Int), clL n (ps.map fun p => D.tup (p.map .int)) = true
  | [] => rfl
  | p :: ps => by simp [clL, clD, pcs_cl n ps]
theorem pcs_ok (n : Nat) : ∀ ps : List (List Int), okL (n + 1) (ps.map fun p => D.tup (p.map .int)) = true
  | [] => by simp [okL]
  | p :: ps => by simp [okL, okD, pcs_ok n ps]
theorem pcs_size : ∀ ps : List (List Int), (∀ p ∈ ps, p.length ≤ 16777216) → sizeOkL (ps.map fun p => D.tup (p.map .int)) = true
  | [], _ => by simp [sizeOkL]
  | p :: ps, h => by
    have h1 := h p (by simp)
    have h2 := pcs_size ps fun q hq => h q (by simp [hq])
    simp [sizeOkL, sizeOkD, h2, sizeLine, h1]
theorem clL_int (n : Nat) : ∀ ns : List Int, clL n (ns.map .int) = true
  | [] => rfl
  | a :: ns => by simp only [List.map_cons, clL, clD, clL_int n ns, Bool.and_self]
end DL

/-! raise C('..') from e in an except suite; an except .. as n suite that raises. -/
namespace DL
open PySem PySem.Spec PyProof.Rows L2 HotX L2H
/-- the heap behind «from e»: field 3 is x1, field 4 is True -/
def causeFrom (h : Heap) (a x1 : Addr) : Heap := (h.update a (Obj.mapFields (·.setIfInBounds 3 (.ref x1)))).update a (Obj.mapFields (·.setIfInBounds 4 (.bool true)))
theorem causeFrom_at {h : Heap} {a x1 : Addr} {oe : Obj} {vs : Array Value} (ha : h.get? a = some oe) (hd : oe.data = .fields vs) :
    (causeFrom h a x1).get? a = some ((oe.mapFields (·.setIfInBounds 3 (.ref x1))).mapFields (·.setIfInBounds 4 (.bool true))) ∧ ((oe.mapFields (·.setIfInBounds 3 (.ref x1))).mapFields (·.setIfInBounds 4 (.bool true))).data = .fields ((vs.setIfInBounds 3 (.ref x1)).setIfInBounds 4 (.bool true)) := by
  have hd3 := Obj.data_mapFields hd (·.setIfInBounds 3 (.ref x1))
  have ha3 := Heap.get?_update_self (Obj.mapFields (·.setIfInBounds 3 (.ref x1))) ha (Obj.isFreed_of_fields hd3)
  have hd4 := Obj.data_mapFields hd3 (·.setIfInBounds 4 (.bool true))
  exact ⟨Heap.get?_update_self (Obj.mapFields (·.setIfInBounds 4 (.bool true))) ha3 (Obj.isFreed_of_fields hd4), hd4⟩
theorem causeFrom_other {h : Heap} {a b x1 : Addr} (hne : a ≠ b) : (causeFrom h a x1).get? b = h.get? b := by
  unfold causeFrom
  rw [Heap.get?_update_other _ _ hne, Heap.get?_update_other _ _ hne]
theorem raise_made_hotC {prog : Program} {w : World} {A : Around} {E : Value → Shared → Prop} {env : Env} {s : Shared} {x c : Sem Value} {Q : Flow → Shared → Prop} {x1 : Addr}
    (h : wpAny (model prog w) A x (fun v s₁ => ∃ a oe vs cls, v = .ref a ∧ s₁.heap.get? a = some oe ∧ oe.cls = cls ∧ oe.data = .fields vs ∧ vs[1]? = some .none ∧ 4 < vs.size ∧ x1 ≠ a ∧ HotAt A x1 s₁.heap ∧
      (∀ Q' : Value → Shared → Prop, Q' (.ref x1) s₁ → wpAny (model prog w) A c Q' E s₁) ∧ (∃ o1 vs1, s₁.heap.get? x1 = some o1 ∧ o1.data = .fields vs1 ∧ PySem.W.Looks (model prog w) s₁.heap (isSubtype o1.cls (.type "BaseException")) true) ∧
      PySem.W.Looks (model prog w) s₁.heap (isSubtype cls (.type "BaseException")) true ∧ PySem.W.Looks (model prog w) (causeFrom s₁.heap a x1) (typeOf cls) (.type "type") ∧
      E (.ref a) { s₁ with heap := (causeFrom s₁.heap a x1).update a (Obj.mapFields (·.setIfInBounds 2 (.ref x1))) }) E s) :
    wpAny (model prog w) A (raiseStmt env (some x) (some c)) Q E s := by
  unfold raiseStmt
  dsimp only
  refine wpAny_bind (wpAny_mono h (fun v s₁ h₁ => ?_) fun _ _ x => x)
  obtain ⟨a, oe, vs, cls, rfl, ha, hcls, hd, h1, hi, hne, hot, hcs, ⟨o1, vs1, ho1, hd1, L1b⟩, L1, L3, hE⟩ := h₁
  have LT : PySem.W.Looks (model prog w) s₁.heap (typeOf (.ref a)) cls := fun A Q E s k q => wpAny_typeOf_ref (k _ _ ha) (by rw [hcls]; exact q)
  have LI : PySem.W.Looks (model prog w) s₁.heap (isInstance (.ref a) (.type "BaseException")) true := LT.andThen L1
  have LT1 : PySem.W.Looks (model prog w) s₁.heap (typeOf (.ref x1)) o1.cls := fun A Q E s k q => wpAny_typeOf_ref (k _ _ ho1) q
  have LI1 : PySem.W.Looks (model prog w) s₁.heap (isInstance (.ref x1) (.type "BaseException")) true := LT1.andThen L1b
  have hnt : ∀ {Q' : Bool → Shared → Prop}, Q' false s₁ → wpAny (model prog w) A (isType (.ref a)) Q' E s₁ := by
    intro Q' hq
    simp only [isType, loadHead]
    refine wpAny_bind (wpAny_loadPart ha ?_)
    rw [hd]; exact wpAny_pure hq
  have hnt1 : ∀ {Q' : Bool → Shared → Prop}, Q' false s₁ → wpAny (model prog w) A (isType (.ref x1)) Q' E s₁ := by
    intro Q' hq
    simp only [isType, loadHead]
    refine wpAny_bind (wpAny_loadPart ho1 ?_)
    rw [hd1]; exact wpAny_pure hq
  have hd3 := Obj.data_mapFields hd (·.setIfInBounds 3 (.ref x1))
  have ha3 := Heap.get?_update_self (Obj.mapFields (·.setIfInBounds 3 (.ref x1))) ha (Obj.isFreed_of_fields hd3)
  obtain ⟨ha4, hd4⟩ := causeFrom_at (x1 := x1) ha hd
  have s3 : 3 < vs.size := by omega
  have s4 : 4 < (vs.setIfInBounds 3 (Value.ref x1)).size := by rw [set_size]; exact hi
  have s2 : 2 < ((vs.setIfInBounds 3 (Value.ref x1)).setIfInBounds 4 (Value.bool true)).size := by rw [set_size, set_size]; omega
  have h14 : ((vs.setIfInBounds 3 (Value.ref x1)).setIfInBounds 4 (Value.bool true))[1]? = some Value.none := set_other (by decide) (set_other (by decide) h1)
  have hcls4 : ((oe.mapFields (·.setIfInBounds 3 (.ref x1))).mapFields (·.setIfInBounds 4 (.bool true))).cls = cls := by rw [Obj.cls_mapFields, Obj.cls_mapFields]; exact hcls
  have LT4 : PySem.W.Looks (model prog w) (causeFrom s₁.heap a x1) (typeOf (.ref a)) cls := fun A Q E s k q => wpAny_typeOf_ref (k _ _ ha4) (by rw [hcls4]; exact q)
  have hnt4 : ∀ {Q' : Bool → Shared → Prop}, Q' false { s₁ with heap := causeFrom s₁.heap a x1 } → wpAny (model prog w) A (isType (.ref a)) Q' E { s₁ with heap := causeFrom s₁.heap a x1 } := by
    intro Q' hq
    simp only [isType, loadHead]
    refine wpAny_bind (wpAny_loadPart ha4 ?_)
    rw [hd4]; exact wpAny_pure hq
  have hot4 : HotAt A x1 (causeFrom s₁.heap a x1) := by
    obtain ⟨q1, o, vs', q2, q3, q4⟩ := hot
    exact ⟨q1, o, vs', by rw [causeFrom_other (Ne.symm hne)]; exact q2, q3, q4⟩
  have rest : wpAny (model prog w) A (do
      let b ← isType (.ref a)
      if b = true then do
        let e ← holding [.ref a] (raisedFor (.ref a) (.ref a))
        setFlight e none
        raiseNew e
      else do
        let e ← raisedInstance (.ref a)
        setFlight e none
        raiseNew e : Sem Flow) Q E { s₁ with heap := causeFrom s₁.heap a x1 } := by
    refine wpAny_bind (hnt4 ?_)
    simp only [Bool.false_eq_true, if_false]
    unfold raisedInstance
    refine wpAny_bind (wpAny_bind (LT4.here (wpAny_bind (L3.here ?_))))
    rw [if_pos (beq_self_eq_true _)]
    refine wpAny_pure ?_
    unfold setFlight
    refine wpAny_bind (wpAny_bind (wpAny_field ha4 hd4 h14 ?_))
    rw [if_neg (by decide)]
    refine wpAny_pure ?_
    exact raiseNew_hot hot4 hne ha4 hd4 s2 hE
  refine wpAny_bind (wpAny_holding (hcs _ (wpAny_bind (wpAny_pure ?_))))
  dsimp only
  refine wpAny_bind (wpAny_holding ?_)
  unfold excFromValue isExcClass
  refine wpAny_bind (wpAny_bind (hnt ?_))
  simp only [Bool.false_eq_true, if_false]
  refine wpAny_pure ?_
  simp only [Bool.false_eq_true, if_false]
  refine wpAny_bind (LI.here ?_)
  simp only [if_true]
  refine wpAny_pure ?_
  rw [if_neg (show ¬ ((Value.ref x1 == Value.none) = true) from by simp)]
  refine wpAny_bind (wpAny_holding (wpAny_bind (wpAny_bind (hnt1 ?_))))
  simp only [Bool.false_eq_true, if_false]
  refine wpAny_pure ?_
  simp only [Bool.false_eq_true, if_false]
  refine wpAny_bind (LI1.here ?_)
  simp only [if_true]
  refine wpAny_pure ?_
  first
  | refine wpAny_bind (wpAny_setField ha hd s3 (wpAny_bind (wpAny_setField ha3 hd3 s4 ?_)))
  | refine wpAny_bind (wpAny_setField ha hd s3 (wpAny_setField ha3 hd3 s4 ?_))
  first
  | exact rest
  | (dsimp only; exact rest)
  | (refine wpAny_pure ?_; exact rest)
  | (simp only [bind_pure_comp] ; exact rest)
/-- a name of the def, read: the state stands -/
theorem ld_var {X : Cx} {pins : List (Addr × Obj)} {s : Shared} {σ : L2.St} {H : Hp} {i : Nat} {x : Str} {pos : Pos} {E : Value → Shared → Prop} {Q : Value → Shared → Prop} (I : Inv X pins σ H s) (hN : X.N[i]? = some x) (hv : Vis X.env.scope x) {a : Addr} (e : σ[i]? = some (some (.ref a)))
    (q : Q (.ref a) s) (hd : (x == ("__debug__" : Str)) = false := by decide) (hcd : (x == ("__classdict__" : Str)) = false := by decide) : wpAny (model X.prog X.w) X.A (eval (.Name x pos) X.env) Q E s := by
  obtain ⟨m, hn, hl⟩ := I.loc
  obtain ⟨u, r, l⟩ := hl i x _ hN e hv
  cases r
  rcases l with ⟨hk, hm⟩ | ⟨hk, c, hc, hcell⟩
  · exact wpAny_Name (wpAny_loadName_local I.ok.kind hk hn hm q) hd
  · rcases hk with hk | hk
    · exact wpAny_Name (wpAny_loadName_cell I.ok.kind hk hc hcell q) hd
    · exact wpAny_Name (wpAny_loadName_free I.ok.kind hk hc hcell q hcd) hd
/-- raise X(..) from n, n the exception that the suite handles -/
theorem ps_raiseHC {X : Cx} {W : WX} {e : Expr} {t : L2.St → Hp → XK → Prop} {i : Nat} {n : Str} {np pos : Pos} {a0 : Addr} {oe0 : Obj} {vs0 : Array Value}
    (hp : (a0, oe0) ∈ X.pn) (hh : X.A.handled = some (.ref a0)) (e1 : oe0.data = .fields vs0) (c1 : vs0[2]? = some .none) (hr0 : Raises X oe0.cls)
    (hN : X.N[i]? = some n) (hv : Vis X.env.scope n) (tk : L2.Takes X W) (he : PMk5 X e t) (hdb : (n == ("__debug__" : Str)) = false := by decide) (hcd : (n == ("__classdict__" : Str)) = false := by decide) :
    PS X (.Raise (some e) (some (.Name n np)) pos) (fun _ σ H => σ[i]? = some (some (.ref a0)) ∧ t σ H fun cls d H' => W cls d σ H') := by
  refine ⟨fun pins s σ H D I ⟨hσ, h⟩ => ?_⟩
  show wpAny _ _ (do standAt pos; raiseStmt X.env (some (do let v ← eval e X.env; standAt pos; pure v)) (some (do let v ← eval (.Name n np) X.env; standAt pos; pure v))) _ _ _
  refine wpAny_bind (wpAny_standAt (raise_made_hotC (x1 := a0) (wpAny_bind (wpAny_mono (he pins s σ H _ I h) (fun u s1 hu => wpAny_bind (wpAny_standAt (wpAny_pure ?_))) fun _ _ x => x))))
  obtain ⟨⟨a, oe, vs, sI, H', cls, d, rfl, J, k, hne, ha, hz, hd, h1, na, os, ag, r, q⟩, h5⟩ := hu
  have hi : 4 < vs.size := h5 a oe vs rfl ha hd
  have k4 : ∀ b u, sI.heap.get? b = some u → (causeFrom s1.heap a a0).get? b = some u := fun b u z => by
    have nab : a ≠ b := fun y => by
      rw [← y, hne] at z
      cases z
    rw [causeFrom_other nab]
    exact k b u z
  obtain ⟨r1, _⟩ := r (model X.prog X.w) s1.heap (J.kIn.keeps k)
  obtain ⟨_, r2⟩ := r (model X.prog X.w) (causeFrom s1.heap a a0) (J.kIn.keeps k4)
  obtain ⟨r01, _⟩ := hr0 (model X.prog X.w) s1.heap (J.kIn.keeps k)
  have P1 := (J.pin (a0, oe0) (List.mem_append_left _ hp)).1
  have nap : a0 ≠ a := fun z => by
    rw [← z] at hne
    rw [hne] at P1
    cases P1
  obtain ⟨ha4, hd4⟩ := causeFrom_at (x1 := a0) ha hd
  have h12 : (((vs.setIfInBounds 3 (Value.ref a0)).setIfInBounds 4 (Value.bool true)).setIfInBounds 2 (Value.ref a0))[1]? = some Value.none := set_other (by decide) (set_other (by decide) (set_other (by decide) h1))
  have J1 : Inv X pins σ H' s1 := J.landed (B := PySem.W.hideAll sI.heap (frs X.stack)) (fun b o e hb => PySem.W.hideAll_get _ e hb) (fun b o e => k b o (PySem.W.of_hideAll _ e)) (Heap.UpToSlots.of_keeps k) os ag
  refine ⟨a, oe, vs, cls, rfl, ha, hz.1, hd, h1, hi, nap, ⟨hh, oe0, vs0, k _ _ P1, e1, c1⟩, fun Q' q' => wpAny_bind (ld_var J1 hN hv hσ (wpAny_bind (wpAny_standAt (wpAny_pure q'))) hdb hcd), ⟨oe0, vs0, k _ _ P1, e1, r01⟩, r1, r2, tk _ _ (XE.new J (fun b u z => ?_) hne (Heap.get?_update_self _ ha4 (Obj.isFreed_of_fields (Obj.data_mapFields hd4 _)))
    ⟨by rw [Obj.cls_mapFields, Obj.cls_mapFields, Obj.cls_mapFields]; exact hz.1, by rw [HandSPX.dict_mapFields, HandSPX.dict_mapFields, HandSPX.dict_mapFields]; exact hz.2.1⟩ (Obj.data_mapFields hd4 _) h12 na os ag q)⟩
  · have nab : a ≠ b := fun y => by
      rw [← y, hne] at z
      cases z
    show ((causeFrom s1.heap a a0).update a (Obj.mapFields (·.setIfInBounds 2 (.ref a0)))).get? b = some u
    rw [Heap.get?_update_other _ _ nab]
    exact k4 b u z

/-! ### try: body, except x as n: a suite that raises -/
abbrev suiteY (X : Cx) (a : Addr) (pn : List (Addr × Obj)) (xe : Value → Shared → Prop) : Cx := { X with A := X.A.mark (some (.ref a)), calm := false, pn := pn, xe := xe }
section
variable {X : Cx} {pins : List (Addr × Obj)} {σ : L2.St} {H : Hp} {s : Shared}
theorem suiteY_of {a : Addr} {pn pn' : List (Addr × Obj)} {xe : Value → Shared → Prop} (I : Inv (X.suite a pn) pn' σ H s) : Inv (suiteY X a pn xe) pn' σ H s := Inv.unwish (X := suiteY X a pn xe) (E := fun _ _ => False) I
theorem unsuiteY {a : Addr} {q : Addr × Obj} {pn' : List (Addr × Obj)} {xe : Value → Shared → Prop} (I : Inv (suiteY X a (q :: (X.pn ++ pins)) xe) pn' σ H s) (ok : X.Ok) : Inv X pins σ H s :=
  Inv.unsuite (X := X) (a := a) (q := q) (pn' := pn') (show Inv (X.suite a (q :: (X.pn ++ pins))) pn' σ H s from I.wish fun _ _ => False) ok
theorem sky_look {M : Model} {A : Around} {E₁ : Value → Shared → Prop} {env : Env} {outer : List Env} {L a : Addr} {B : Heap} {Z : Obj → Prop} {Q : Unit → Shared → Prop} (hZ : HandSPX.Steady Z) (hfr : A.frames = some (env :: outer)) (hf : env.frame = some L)
    (x : Sky B (env :: outer) a Z L s.heap) (hQ : ∀ h', HandSPX.HeldZ B (env :: outer) a Z L h' → s.heap.UpToSlots h' → Q () { s with heap := h' }) : wpAny M A (noteFrame (.ref a) env) Q E₁ s := by
  rcases x with ⟨hB, hn, hl, oe, vs, he, hz, hd, h1⟩ | fl | hh
  · exact HandSPX.look_newZ hZ hfr hl hf he hB hn hd h1 hz hQ
  · exact HandSPX.looks_onZ hZ hfr hf fl hQ
  · exact HandSPX.againZ hf hh.2.2.2 (hQ s.heap hh (Heap.UpToSlots.refl _))
/-- a name's slot is emptied -/
theorem inv_goes {i t : Nat} {n : Str} {m : Str → Option Value} {v : Option Value} {h' : Heap} (I : Inv X pins σ H s) (hN : X.N.Nodup) (hi : X.N[i]? = some n)
    (hlk : ∀ (i : Nat) (x : Str) (v : V), X.N[i]? = some x → σ[i]? = some (some v) → Vis X.env.scope x → ∃ u, RelV v u ∧ Look X.env s.heap m x u)
    (hn' : h'.Ns X.env.locals (fun x => if x = n then v else m x)) (hs : ∀ b, b ≠ X.env.locals → h'.get? b = s.heap.get? b) : Inv X pins (σ.set i none) H { s with heap := h', toks := t } := by
  obtain ⟨oL, _, _, hoL, _⟩ := id hn'
  have neL : ∀ b o, X.s_0.heap.get? b = some o → b ≠ X.env.locals := fun b o e => Nat.ne_of_lt (Nat.lt_of_lt_of_le (Heap.lt_size e) I.ok.above)
  have cell : ∀ {c : Addr} {w : Option Value}, s.heap.IsCell c w → c ≠ X.env.locals → h'.IsCell c w := fun {c w} z ne => by
    unfold Heap.IsCell at z ⊢
    rw [hs c ne]
    exact z
  refine ⟨I.ok, I.os, I.bare, ⟨fun b o e n hb hx => ?_, fun b o e n hb hx => ?_, I.base.free, fun b o e hx => ?_, I.base.tups, I.base.frzs, I.base.tbls⟩, ⟨_, hn', fun j y v' e1 e2 e3 => ?_⟩, fun y c e => ?_, I.free, I.freeC, fun p hp => ?_, fun b ob e => ?_, by simpa using I.len⟩
  · exact (hs b (neL b o e)).trans (I.base.keep b o e n hb hx)
  · obtain ⟨sl, e1⟩ := I.base.slot b o e n hb hx
    exact ⟨sl, (hs b (neL b o e)).trans e1⟩
  · obtain ⟨o', e1⟩ := I.base.there b o e hx
    exact ⟨o', (hs b (neL b o e)).trans e1⟩
  · by_cases hj : j = i
    · subst hj
      by_cases hlt : j < σ.length
      · rw [List.getElem?_set_self hlt] at e2; cases e2
      · rw [List.getElem?_eq_none (by simpa using hlt)] at e2; cases e2
    · rw [List.getElem?_set_ne (Ne.symm hj)] at e2
      obtain ⟨u', r', q⟩ := hlk j y v' e1 e2 e3
      refine ⟨u', r', ?_⟩
      rcases q with ⟨k, e⟩ | ⟨k, c, e, z⟩
      · have ny : y ≠ n := fun e => hj (nodup_ix hN e1 (e ▸ hi))
        exact .inl ⟨k, (if_neg ny).trans e⟩
      · exact .inr ⟨k, c, e, cell z (I.cne y c e)⟩
  · obtain ⟨w', z⟩ := I.cell y c e
    exact ⟨w', cell z (I.cne y c e)⟩
  · obtain ⟨e, n, ne, nf, d⟩ := I.pin p hp
    exact ⟨(hs p.1 ne).trans e, n, ne, nf, d⟩
  · refine (I.hok b ob e).stay (fun c w' hc q => (hs c ?_).trans q) (fun _ q => q) fun _ _ q => q
    intro z
    subst z
    rcases hc with hc | hc
    · rw [← hc, I.free] at e; cases e
    · rw [I.free] at hc; cases hc
/-- the suite's exception, the name emptied, flies on -/
theorem goes_out {W : WX} {i : Nat} {n : Str} {pos : Pos} {A' : Around} {u : Value} {s3 : Shared} {R : Value → Shared → Prop} {a : Addr} {xe : Value → Shared → Prop} {q : Addr × Obj} (ok : X.Ok) (hs : X.stack = X.env :: X.outer) (hf : X.env.frame = some X.env.locals) (hfr : A'.frames = some (X.env :: X.outer))
    (hN : X.N.Nodup) (hi : X.N[i]? = some n) (hl : X.env.kindOf n = some .local) (tk : L2.Takes X W)
    (x : XE (suiteY X a (q :: (X.pn ++ pins)) xe) (fun cls d σ H => W cls d (σ.set i none) H) u s3) {F1 : Value → Shared → Prop} {F2 : Shared → Value → Shared → Prop} (hR : ∀ e s', X.xe e s' → R e s') :
    wpAny (model X.prog X.w) A' (noteFrame u X.env) (fun _ s₃' => wpAny (model X.prog X.w) A' (do bindName X.env n .none; unbindBehindTheSuite X.env n pos)
      (fun _ s₄ => wpAny (model X.prog X.w) A' (passOn "try.except-as" u X.env : Sem Flow) (fun _ _ => False) R s₄) (F2 s₃') s₃') F1 s3 := by
  obtain ⟨a2, B, sI, pn2, σ2, H2, cls, d, rfl, I2, nb, up, sky, na, os, ag, w⟩ := x
  have I : Inv X pins σ2 H2 sI := unsuiteY I2 ok
  have sky' : Sky B (X.env :: X.outer) a2 (Zc cls d) X.env.locals s3.heap := by rw [← hs]; exact sky
  have nb' : ∀ b o, sI.heap.get? b = some o → b ∉ frs X.stack → B.get? b = some o := nb
  have os' : s3.os = sI.os := os
  refine sky_look Zc.steady hfr hf sky' fun h3 hh3 up3 => ?_
  obtain ⟨k1, k2, k3, tr⟩ := id hh3
  obtain ⟨oe, vs, T, oT, ts, he, hz, hd, h1, hnT, hTe, hT, hdT, hts⟩ := id tr
  have Lm : X.env.locals ∈ frs (X.env :: X.outer) := List.mem_filterMap.mpr ⟨X.env, List.mem_cons_self, by rw [hf]⟩
  have notFr : ∀ {b : Addr} {o : Obj} {ws : Array Value}, h3.get? b = some o → o.data = .fields ws → b ≠ X.env.locals := fun {b o ws} e dd z => by
    obtain ⟨_, o', e', hnf⟩ := k3.mem (z ▸ Lm)
    rw [e] at e'; cases e'
    exact hnf _ dd
  have nBL : ∀ b ∈ frs X.stack, B.get? b = none := fun b hb => (k3.mem (by rw [← hs]; exact hb)).1
  obtain ⟨Gr, g1, g2⟩ := restrict h3 (fun b => (B.get? b).isSome || (sI.heap.get? b).isSome)
  have stG : B.StaysIn Gr := fun b o e => (g1 b (by simp [e])).trans (k1 b o e)
  have upG : sI.heap.UpToSlots Gr := fun b o e hd => by
    obtain ⟨sl, z⟩ := (up.trans up3) b o e hd
    exact ⟨sl, (g1 b (by simp [e])).trans z⟩
  have JG : Inv X pins σ2 H2 { s3 with heap := Gr } := I.landed (s' := { s3 with heap := Gr }) nb' stG upG os' ag
  obtain ⟨m, hnG, hlkG⟩ := JG.loc
  have kG : ∀ b o, Gr.get? b = some o → h3.get? b = some o := fun b o e => by
    cases q : ((B.get? b).isSome || (sI.heap.get? b).isSome) with
    | true => rw [← g1 b q]; exact e
    | false => rw [g2 b q] at e; cases e
  have hn3 : h3.Ns X.env.locals m := (Heap.UpToSlots.of_keeps kG).ns hnG
  have hcls : (X.env.scope.kind == .class || (X.env.scope.kind == .module && X.env.locals != X.env.globals)) = false := by rw [I.ok.kind]; rfl
  refine wpAny_nameGoes_keeps hl hn3 hcls fun h' v hn' hsb => ?_
  obtain ⟨G', g1', g2'⟩ := restrict h' (fun b => (B.get? b).isSome || (sI.heap.get? b).isSome)
  have pL : ((B.get? X.env.locals).isSome || (sI.heap.get? X.env.locals).isSome) = true := by
    obtain ⟨o, _, _, ho, _⟩ := id hnG
    cases q : ((B.get? X.env.locals).isSome || (sI.heap.get? X.env.locals).isSome) with
    | true => rfl
    | false =>
      have ho' : Gr.get? X.env.locals = some o := ho
      rw [g2 _ q] at ho'; cases ho'
  have hnG' : G'.Ns X.env.locals (fun x => if x = n then v else m x) := by
    obtain ⟨o, es, ep, ho, hd, r⟩ := hn'
    exact ⟨o, es, ep, (g1' _ pL).trans ho, hd, r⟩
  have sG : ∀ b, b ≠ X.env.locals → G'.get? b = Gr.get? b := fun b ne => by
    cases q : ((B.get? b).isSome || (sI.heap.get? b).isSome) with
    | true => exact (g1' b q).trans ((hsb.2 b ne).trans (g1 b q).symm)
    | false => rw [g2 b q, g2' b q]
  have J4 := inv_goes (t := s3.toks + 1) JG hN hi hlkG hnG' sG
  have kG' : ∀ b o, G'.get? b = some o → h'.get? b = some o := fun b o e => by
    cases q : ((B.get? b).isSome || (sI.heap.get? b).isSome) with
    | true => rw [← g1' b q]; exact e
    | false => rw [g2' b q] at e; cases e
  have ff : h'.FunFrames B X.stack := funFrames_none (Heap.FunFrames.of_keeps (fun b o e _ => ⟨o, kG' b o e, rfl⟩) J4.stack) nBL
  have st' : B.StaysIn h' := fun b o e => (hsb.2 b (fun z => by
    have := nBL b (by rw [hs, z]; exact Lm)
    rw [e] at this; cases this)).trans (k1 b o e)
  have he' : h'.get? a2 = some oe := (hsb.2 a2 (notFr he hd)).trans he
  have hT' : h'.get? T = some oT := (hsb.2 T (notFr hT hdT)).trans hT
  have tr' : HandSPX.TracedZ h' B a2 (Zc cls d) (rawInt X.env.locals) := ⟨oe, vs, T, oT, ts, he', hz, hd, h1, hnT, hTe, hT', hdT, hts⟩
  unfold PySem.passOn
  refine wpAny_bind (wpAny_field he' hd h1 ?_)
  rw [if_neg (show ¬ ((Value.ref T == Value.none) = true) from by simp)]
  have fin : wpAny (model X.prog X.w) A' (setFlight (.ref a2) X.env.frame) (fun _ s5 => wpAny (model X.prog X.w) A' (throw (.ref a2) : Sem Flow) (fun _ _ => False) R s5) R { s3 with heap := h', toks := s3.toks + 1 } := by
    rw [hf]
    refine HandSPX.setFlight_anyZ (fr := some X.env.locals) st' ff tr' fun h5 q1 q2 q3 q4 => wpAny_throw (hR _ _ (tk _ _ ?_))
    refine ⟨a2, B, _, pins, σ2.set i none, H2, cls, d, rfl, J4, fun b o e hb => ?_, (Heap.UpToSlots.of_keeps kG').trans q4, .inr (.inr ⟨q1, k2, q2, q3⟩), na, rfl, ag, w⟩
    have ne : b ≠ X.env.locals := fun z => hb (by rw [hs, z]; exact Lm)
    have e1 : h3.get? b = some o := (hsb.2 b ne).symm.trans (kG' b o e)
    have hB : ∃ o', B.get? b = some o' := by
      cases q : ((B.get? b).isSome || (sI.heap.get? b).isSome) with
      | false =>
        have e' : G'.get? b = some o := e
        rw [g2' b q] at e'; cases e'
      | true =>
        rcases (Bool.or_eq_true _ _).mp q with z | z
        · exact Option.isSome_iff_exists.mp z
        · obtain ⟨o', z⟩ := Option.isSome_iff_exists.mp z
          exact ⟨o', nb' b o' z hb⟩
    obtain ⟨o', hB⟩ := hB
    rw [k1 b o' hB] at e1
    cases e1
    exact hB
  first
    | exact wpAny_bind (wpAny_pure (wpAny_bind fin))
    | exact wpAny_bind fin
end

section
variable {X : Cx} {x n : Str} {c : Value} {i : Nat} {body suite : List Stmt} {b₀ : Stmt} {np pos pos' : Pos} {tb : WX → TS} {ts : Addr → Value → Option Addr → TS} {Wout : WX}
theorem ps_try_asX (hs : X.stack = X.env :: X.outer) (hf : X.env.frame = some X.env.locals) (hN : X.N.Nodup) (hi : X.N[i]? = some n) (hln : X.env.kindOf n = some .local) (hc : Names X x c) (hpa : ∀ hd : Option Value, PassesOwnAt (model X.prog X.w) (X.A.mark hd) X.A X.env X.xe) (tk : L2.Takes X Wout)
    (hb : ∀ (W : WX) (pn : List (Addr × Obj)) (xe : Value → Shared → Prop), L2N.Takes (X.tr pn xe) W → PassesOwn (model X.prog X.w) X.A X.env xe → PSs (X.tr pn xe) body (tb W))
    (hsu : ∀ (a : Addr) (oe : Obj) (cls : Value) (d : Option Addr) (pn : List (Addr × Obj)) (xe : Value → Shared → Prop), L2N.Zn cls d oe → (∃ vs, oe.data = .fields vs) → L2.Takes (suiteY X a ((a, oe) :: pn) xe) (fun cls d σ H => Wout cls d (σ.set i none) H) →
      PSs (suiteY X a ((a, oe) :: pn) xe) (b₀ :: suite) (ts a cls d)) :
    PS X (.Try body [.ExceptHandler (some (.Name x np)) (some n) (b₀ :: suite) pos'] [] [] pos) (fun D σ H => tb (wAs X.K c i ts Wout D) D σ H) := by
  refine ⟨fun pins s σ H D I h => ?_⟩
  have ok := I.ok
  have hfr : X.A.frames = some (X.env :: X.outer) := by rw [ok.frames, hs]
  have hloc : Loc X.env.scope n := .inl hln
  refine wpAny_Try_except ?_
  refine wpAny_mono ((hb (wAs X.K c i ts Wout D) (X.pn ++ pins) (fun e s₁ => wpAny (model X.prog X.w) X.A (noteFrame e X.env) (fun _ s₂ => wpAny (model X.prog X.w) X.A (setFlight e none) (fun _ s₃ =>
    wpAny (model X.prog X.w) X.A (handleBy e X.env [.ExceptHandler (some (.Name x np)) (some n) (b₀ :: suite) pos']) (SP X pins D) X.xe s₃) X.xe s₂) X.xe s₁) (fun u s' xx => ?_) PassesOwn.looking).run [] s σ H D (I.toTry _) h) (fun f s1 hsp => ?_) (fun e s1 he => he)
  · obtain ⟨a, B, sI, pins', σ', H', cls, d, rfl, J', nb, up, sky, na, os, ag, b, hb1, hyes, hno⟩ := xx
    have J : Inv X pins σ' H' sI := J'.ofTry ok
    have sky' : Sky B (X.env :: X.outer) a (L2N.Zn cls d) X.env.locals s'.heap := by rw [← hs]; exact sky
    show wpAny (model X.prog X.w) X.A (noteFrame (.ref a) X.env) _ _ _
    refine L2N.Sky.land L2N.Zn.steady hfr hf sky' fun h3 fl3 up3 => ?_
    have J3 : Inv X pins σ' H' { s' with heap := h3 } := J.landed nb fl3.1 (up.trans up3) os ag
    obtain ⟨oe3, vs3, he3, hz3, hd3⟩ := fl3.there
    have notFr : ∀ {h : Heap} {o : Obj} {vs : Array Value}, h.FunFrames B (X.env :: X.outer) → h.get? a = some o → o.data = .fields vs → a ∉ frs (X.env :: X.outer) := fun {h o vs} ff e dd hm => by
      obtain ⟨_, o', e', hnf⟩ := ff.mem hm
      rw [e] at e'; cases e'
      exact hnf _ dd
    have nfr := notFr fl3.2.2.1 he3 hd3
    have nL : a ≠ X.env.locals := fun z => nfr (List.mem_filterMap.mpr ⟨X.env, List.mem_cons_self, by rw [hf, z]⟩)
    have nF : a ∉ X.fs := fun hm => by
      obtain ⟨e, he, q⟩ := List.mem_filterMap.mp hm
      exact nfr (List.mem_filterMap.mpr ⟨e, List.mem_cons_of_mem _ he, q⟩)
    have S3 := J3.suite he3 hd3 na nL nF
    refine wpAny_handleBy_cons (codeAny_handlers_test ?_) (by intro q; cases q)
    have LT : PySem.W.Looks (model X.prog X.w) h3 (typeOf (.ref a)) cls := fun A Q E s k q => wpAny_typeOf_ref (k _ _ he3) (by rw [hz3.1]; exact q)
    have LM := PySem.W.exm_one (M := model X.prog X.w) (J3.kIn) LT hb1
    have test : ∀ {Q : Value → Shared → Prop} {E : Value → Shared → Prop}, Q c { s' with heap := h3 } → wpAny (model X.prog X.w) (X.A.mark (some (.ref a))) (eval (.Name x np) X.env) Q E { s' with heap := h3 } := fun {Q E} q => by
      obtain ⟨hg, hdbg, hm | ⟨hm, hv, hnn⟩⟩ := hc
      · exact ld_glob (X := X.suite a ((a, oe3) :: (X.pn ++ pins))) S3 hg hm q hdbg
      · exact ld_blt (X := X.suite a ((a, oe3) :: (X.pn ++ pins))) S3 hg hm hv q hnn hdbg
    refine test (LM.here ?_)
    cases b with
    | true =>
      refine codeAny_handlers_suite_as ?_
      refine HandSPX.lands_againZ fl3 fun h4 fl4 up4 => ?_
      have J4 : Inv X pins σ' H' { s' with heap := h4 } := J.landed nb fl4.1 ((up.trans up3).trans up4) os ag
      obtain ⟨oe4, vs4, he4, hz4, hd4⟩ := fl4.there
      have S4 := J4.suite he4 hd4 na nL nF
      refine store_ok (X := X.suite a ((a, oe4) :: (X.pn ++ pins))) (v := .ref a) S4 hN hi hloc rfl (fun s5 S5 => ?_) (.inr hln)
      refine wpAny_mono ((hsu a oe4 cls d (X.pn ++ pins) _ hz4 ⟨_, hd4⟩ (fun u2 s2 x2 => goes_out (X := X) (A' := X.A.mark (some (.ref a))) ok hs hf hfr hN hi hln tk x2 (fun e6 s6 z => hpa (some (.ref a)) e6 s6 z))).run [] s5 _ H' _ (suiteY_of S5) (hyes rfl a na)) (fun f s6 hsp => ?_) (fun _ _ z => z)
      have end_ : ∀ {xe : Value → Shared → Prop} {σ6 : L2.St} {H6 : Hp} {Q : Shared → Prop}, Inv (suiteY X a ((a, oe4) :: (X.pn ++ pins)) xe) [] σ6 H6 s6 → (∀ s7, Inv X pins (σ6.set i none) H6 s7 → Q s7) →
          wpAny (model X.prog X.w) X.A (do bindName X.env n .none; unbindBehindTheSuite X.env n pos') (fun _ s7 => Q s7) X.xe s6 := fun {xe σ6 H6 Q} S6 hq => gone_ok (unsuiteY S6 ok) hN hi hln hq
      cases f with
      | next =>
        obtain ⟨σ6, H6, S6, q6⟩ := hsp
        exact end_ S6 fun s7 J7 => ⟨_, _, J7, q6⟩
      | brk =>
        obtain ⟨σ6, H6, S6, q6⟩ := hsp
        exact end_ S6 fun s7 J7 => ⟨_, _, J7, q6⟩
      | cont =>
        obtain ⟨σ6, H6, S6, q6⟩ := hsp
        exact end_ S6 fun s7 J7 => ⟨_, _, J7, q6⟩
      | ret u =>
        obtain ⟨v6, σ6, H6, S6, r6, q6⟩ := hsp
        exact end_ S6 fun s7 J7 => ⟨_, _, _, J7, r6, q6⟩
    | false =>
      show wpAny _ X.A (handleBy (.ref a) X.env []) _ _ _
      refine wpAny_handleBy_nil ?_
      obtain ⟨k1, k2, k3, oe, vs, T, oT, ts', he, hz, hd, h1, hr⟩ := id fl3
      unfold PySem.passOn
      refine wpAny_bind (wpAny_field he hd h1 ?_)
      rw [if_neg (show ¬ ((Value.ref T == Value.none) = true) from by simp)]
      have fin : wpAny (model X.prog X.w) X.A (setFlight (.ref a) X.env.frame) (fun _ s4 => wpAny (model X.prog X.w) X.A (throw (.ref a) : Sem Flow) (SP X pins D) X.xe s4) X.xe { s' with heap := h3 } := by
        rw [hf]
        refine HandSPX.setFlight_upZ (flyingZ_imp (fun o z => z.zc) fl3) fun h4 hh4 up4 => wpAny_throw (tk _ _ ?_)
        exact ⟨a, B, sI, pins, σ', H', cls, d, rfl, J, nb, (up.trans up3).trans up4, .inr (.inr (by rw [hs]; exact hh4)), na, os, ag, hno rfl⟩
      first
        | exact wpAny_bind (wpAny_pure (wpAny_bind fin))
        | exact wpAny_bind fin
  · cases f with
    | next =>
      obtain ⟨σ', H', J', q⟩ := hsp
      exact wpAny_execs_nil ⟨σ', H', J'.ofTry ok, q⟩
    | brk =>
      obtain ⟨σ', H', J', q⟩ := hsp
      exact ⟨σ', H', J'.ofTry ok, q⟩
    | cont =>
      obtain ⟨σ', H', J', q⟩ := hsp
      exact ⟨σ', H', J'.ofTry ok, q⟩
    | ret u =>
      obtain ⟨v, σ', H', J', r, q⟩ := hsp
      exact ⟨v, σ', H', J'.ofTry ok, r, q⟩
end
end DL

/-! defs whose exceptions have no context; try .. except X as n: raise C('..') from n. -/
namespace DL
open PySem PySem.Spec PyProof.Rows L2
section
variable {P : Program} {w : World} {K : PySem.W.Frag} {mg : Str → Option Value} {base : Heap} {k n : Nat} {f : Addr} {fd : FuncData} {ps : List Str} {CX : CXT}
theorem fn_pureC {g : GF} (h : FnOk P w K mg base CX k f fd ps (spD K mg n g)) : FnOk P w K mg base CX k f fd ps (spP K mg n (pureF g)) := by
  refine h.imp fun vs H Q E q => ?_
  obtain ⟨F, args, hl, sm, r, p⟩ := q
  refine ⟨[], F, [], args, hl, ⟨sm, rfl, fun k a m e _ _ => by simp at e, fun j k a m n e _ _ _ _ _ => by simp at e, fun a ha => by simp at ha⟩, r, ?_⟩
  unfold pureF at p
  have ex : ∀ {ρ' : List Addr} {F' H' : Hp}, Ext [] F H ρ' F' H' → Ext [] F H [] F' H' := fun x => ⟨⟨[], rfl⟩, x.fro, x.rest, fun a ha => by simp at ha, x.newf⟩
  cases q : g args [] with
  | bad => rw [q] at p; exact p
  | ok d s =>
    rw [q] at p
    simp only at p
    split at p
    · rename_i hc
      intro ρ' F' H' v x m' r'
      have r2 := r'.cut (n := 0) _ _ hc
      rw [List.take_zero] at r2
      exact p F' H' v (ex x) m'.sub r2
    · exact p.elim
  | ex d s =>
    rw [q] at p
    simp only at p
    split at p
    · rename_i hc
      intro ρ' F' H' cls dd x m' r'
      refine p F' H' cls dd (ex x) m'.sub ?_
      obtain ⟨c, h1, h2, h3, h4⟩ := r'
      refine ⟨c, h1, h2, h3, fun hn => ?_⟩
      obtain ⟨a, vs', k1, k2, k3⟩ := h4 hn
      have r2 := k3.cut (n := 0) _ _ hc
      rw [List.take_zero] at r2
      exact ⟨a, vs', k1, k2, r2⟩
    · exact p.elim
theorem fn_asPC {g g' : GP} (h : FnOk P w K mg base CX k f fd ps (spP K mg n g)) (e : ∀ args, args.length = n → g' args ≠ .bad → g args = g' args) : FnOk P w K mg base CX k f fd ps (spP K mg n g') := by
  refine h.imp fun vs H Q E q => ?_
  obtain ⟨F, args, hl, m, r, p⟩ := q
  refine ⟨F, args, hl, m, r, ?_⟩
  rw [e args hl fun z => by rw [z] at p; exact p]
  exact p
theorem fnok_zc {sp : Sp} (F : FnOk P w K mg base (L2N.CX P w) k f fd ps sp) : FnOk P w K mg base (L2.CX P w) k f fd ps sp := by
  refine ⟨F.len, fun A outer s H args us vs Q E hr he hb hv hs => codeAny_mono (F.run A outer s H args us vs Q E hr he hb hv hs) fun r s' h => ?_⟩
  cases r with
  | ok fl => cases fl <;> exact h
  | error e =>
    obtain ⟨a, B, H', cls, d, e1, fl, hok, ub, na, os, ag, hE⟩ := h
    exact ⟨a, B, H', cls, d, e1, L2H.flyingZ_imp (fun o z => z.zc) fl, hok, ub, na, os, ag, hE⟩
theorem fn_stN {x qual : Str} {st : Stmt} {N : List Str} {fb : DS → R Fl} (F : Fun K x qual st f fd) (S : FnScope N ps (defScope st))
    (hb : ∀ (cdv : Value) (A : Around) (outer : List Env) (s : Shared) (H : Hp) (E : XK), Room k (A.deeper (envOfC qual (defScope st) s.heap.objs.size f cdv)) →
      PDss (cxOf (L2N.CX P w) P w K mg base N qual (defScope st) f cdv A outer s H E) (fun cls d _ H' => E cls d H') (defBody st) fb) :
    FnOk P w K mg base (L2N.CX P w) (k + 1) f fd ps (spD K mg ps.length (runF N.length fb)) := by
  obtain ⟨oc, od, kV, doc, pm, an, cdv, ct, osl, rfl, lk, hcd⟩ := F.ex
  refine fn_of lk hcd S (fun vs H Q E h => spD_len h) fun A outer s H vs Q E hr h => ?_
  obtain ⟨t, e1, l⟩ := hb cdv A outer s H E hr
  refine ⟨t, e1, ?_⟩
  obtain ⟨ρ, Fz, μ, args, hl, m, r, p⟩ := h
  refine l ρ Fz ⟨args.map some ++ List.replicate (N.length - args.length) none, μ⟩ (L2.start N vs) H _ ⟨m, start_rel r⟩ ?_
  unfold runF at p
  cases q : fb ⟨args.map some ++ List.replicate (N.length - args.length) none, μ⟩ with
  | bad => rw [q] at p; exact p
  | ex e s1 => rw [q] at p; exact fun ρ' F' H' σ' cls d x rl er => p ρ' F' H' cls d x rl.mem er
  | ok fl s1 =>
    rw [q] at p
    cases fl with
    | nx => exact fun ρ' F' H' σ' x rl => p ρ' F' H' .non x rl.mem rfl
    | rt d => exact fun ρ' F' H' v x m r => p ρ' F' H' v x m r
    | bk => exact p.elim
    | ct => exact p.elim
end
section
variable {X : Cx} {W : WX} {k n : Nat} {f : Addr} {fd : FuncData} {ps : List Str} {x : Str} {p pos : Pos} {e : Expr} {es : List Expr} {fa : DS → R (List D)} {dvs : List V} {ds : List Value}
theorem pd_callPN {g : GP} {dds : List D} (F : FnOk X.prog X.w X.K X.mg X.base (L2N.CX X.prog X.w) k f fd ps (spP X.K X.mg n g)) (hr : Room k X.A) (hm : X.mg x = some (.ref f)) (hk : PySem.W.keepIn X.K (.ref f) = true) (hb : Binds X.K fd ps ds) (hd : Vals dvs ds)
    (rd : ∀ ρ F, RdL X.K ρ F dds dvs) (tk : L2N.Takes X W) (ha : PDA X W (e :: es) fa) (hg : Gl X x := by rfl) (hdb : (x == ("__debug__" : Str)) = false := by decide) (he : starEach (e :: es) X.env = (false, eval e X.env) :: starEach es X.env := by rfl)
    (hpl : (backTo pos (starEach es X.env)).any (·.1) = false := by rfl) : PD X W (.Call (.Name x p) (e :: es) [] pos) (fCallP n fa dds g) := by
  obtain ⟨ta, ea, la⟩ := ha
  refine ⟨_, pe_callSD F hr hg hm hk hb hd (fun σ => L2N.passAt tk σ) ea hdb he hpl, fun ρ F s σ H Q rl h => la ρ F s σ H _ rl (Post.bind h fun args s1 ρ1 F1 H1 vs x1 rl1 rd1 h1 => ?_)⟩
  split at h1
  · rename_i hc
    exact spP_post rl1 (rd1.append (rd ρ1 F1)) hc.1 hc.2 h1
  · exact h1.elim
theorem pds_raiseN {c m : Str} {C : Addr} {B newId initId : String} {bmB : List Value} {j : Nat} {p p2 pos pos2 : Pos} (T : ExcT X.K X.mg c C B newId initId bmB) (hc : X.calm = true) (tk : L2N.Takes X W) (hg : Gl X c := by rfl) (hdb : (c == ("__debug__" : Str)) = false := by decide) :
    PDs X W (.Raise (some (.Call (.Name c p) [.Constant (.str m) j p2] [] pos)) none pos2) (fRaise c) := by
  refine ⟨_, L2N.ps_raise hc tk (L2N.pmk_own T.fa T.ex T.gC T.kC (raises_own T.sC T.tC) hg hdb), fun ρ F s σ H E rl h => ?_⟩
  exact h ρ F H σ (.ref C) none (Ext.refl ..) rl ⟨C, T.gC, rfl, fun _ => rfl, fun z => absurd rfl z⟩
/-- C('m'), the record with its six fields -/
theorem pmk5_own {C : Addr} {bmB : List Value} {B newId initId : String} {x m : Str} {j : Nat} {p p2 pos : Pos} (F : ExcBaseFacts B newId initId bmB) (q : PySem.W.excIn X.K C bmB newId = true) (gC : X.mg x = some (.ref C)) (kC : PySem.W.keepIn X.K (.ref C) = true) (r : Raises X (.ref C)) (hg : Gl X x)
    (hdb : (x == ("__debug__" : Str)) = false := by decide) : L2H.PMk5 X (.Call (.Name x p) [.Constant (.str m) j p2] [] pos) (fun _ H Q => Q (.ref C) none H) := by
  intro pins s σ H Q I h
  refine wpAny_Call_Name_kw (ld_glob I hg gC ?_ hdb)
  have ha : PA X [.Constant (.str m) j p2] (tCons (tC (.str m)) tNil) := pa_cons pe_str pa_nil
  refine PySem.W.callWith_K (h₀ := X.base) I.ok.mod.kin kC (thn (ha.run pos pins s σ H (fun vs H1 => vs = [V.str m] ∧ H = H1) I ⟨rfl, rfl⟩) fun us s1 hh => ?_)
  obtain ⟨vs, H1, I1, r1, ev, eH⟩ := hh
  subst ev
  rw [← eH] at I1
  refine ⟨I1.kIn, ?_⟩
  cases r1 with
  | cons ru rn =>
    rename_i u us'
    cases rn
    show wpAny _ _ (call (.ref C) [u]) _ _ _
    obtain ⟨bm, N, nm, qn, bs, hdct, sn, sub, ab, col, dd, k0, k1, k2, k3, k5, mN, hC, hN, hni, T⟩ := exc_obj I1.kIn q
    refine wpAny_call_exc_subT F T hC hN hni (fun h' e hm => ?_) (by show 1 ≤ sizeLine; rw [sizeLine_eq]; omega)
    exact L2H.mk_of5 I1 hm r h (I1.hok.gone hm.new)
end
/-- try: .. except X as n: raise C('..') from n -/
def fTryFrom (fb : DS → R Fl) (ctch : Ex → Option Bool) (i : Nat) (C : Str) : DS → R Fl := fun s => match fb s with
  | .ex e s1 => match ctch e with
    | some true => if i < s1.g.length then .ex ⟨C, []⟩ { s1 with g := s1.g.set i none } else .bad
    | some false => .ex e s1
    | none => .bad
  | r => r
section
variable {X : Cx} {W : WX}
theorem pds_try_from {xn n c2 m2 : Str} {c : Value} {C2 : Addr} {B newId initId : String} {bmB : List Value} {i j : Nat} {body : List Stmt} {np np2 p2 p3 p4 p5 pos pos' : Pos} {fb : DS → R Fl} {ctch : Ex → Option Bool}
    (hs : X.stack = X.env :: X.outer) (hf : X.env.frame = some X.env.locals) (hN : X.N.Nodup) (hi : X.N[i]? = some n) (hln : X.env.kindOf n = some .local) (hc : Names X xn c) (hpa : ∀ hd : Option Value, PassesOwnAt (model X.prog X.w) (X.A.mark hd) X.A X.env X.xe) (tk : Takes X W)
    (hct : ∀ (e : Ex) b C, ctch e = some b → X.mg e.cls = some (.ref C) → PySem.W.exmOne X.K (.ref C) c = some b)
    (hra : ∀ (e : Ex) C, ctch e = some true → X.mg e.cls = some (.ref C) → PySem.W.subIn X.K (.ref C) (.type "BaseException") = some true ∧ PySem.W.typeIn X.K (.ref C) = some (.type "type"))
    (T : ExcT X.K X.mg c2 C2 B newId initId bmB)
    (hb : ∀ (W' : WX) (pn : List (Addr × Obj)) (xe : Value → Shared → Prop), L2N.Takes (X.tr pn xe) W' → PassesOwn (model X.prog X.w) X.A X.env xe → PDss (X.tr pn xe) W' body fb)
    (hv : Vis X.env.scope n) (hg : Gl X c2 := by rfl) (hdb : (c2 == ("__debug__" : Str)) = false := by decide) (hd1 : (n == ("__debug__" : Str)) = false := by decide) (hd2 : (n == ("__classdict__" : Str)) = false := by decide) :
    PDs X W (.Try body [.ExceptHandler (some (.Name xn np)) (some n) [.Raise (some (.Call (.Name c2 p2) [.Constant (.str m2) j p3] [] p4)) (some (.Name n np2)) p5] pos'] [] [] pos) (fTryFrom fb ctch i c2) := by
  let tb : WX → TS := fun W' => fun D σ H => ∀ pn xe (h1 : L2N.Takes (X.tr pn xe) W') (h2 : PassesOwn (model X.prog X.w) X.A X.env xe), (Classical.choose (hb W' pn xe h1 h2)) D σ H
  let ts : Addr → Value → Option Addr → TS := fun a cls d => fun D σ H => Raises X cls ∧ σ[i]? = some (some (.ref a)) ∧ W (.ref C2) none (σ.set i none) H
  refine ⟨_, ps_try_asX (tb := tb) (ts := ts) hs hf hN hi hln hc hpa tk (fun W' pn xe h1 h2 => ⟨fun pins s σ H D I h => (Classical.choose_spec (hb W' pn xe h1 h2)).1.run pins s σ H D I (h pn xe h1 h2)⟩)
    (fun a oe cls d pn xe hz hf' tkS => ⟨fun pins s σ H D I h => ?_⟩), fun ρ F s σ H E rl h => ?_⟩
  · obtain ⟨hr, hσ, hw⟩ := h
    obtain ⟨vs, hd⟩ := hf'
    have hr0 : Raises (suiteY X a ((a, oe) :: pn) xe) oe.cls := by rw [hz.1]; exact hr
    have ps := ps_raiseHC (X := suiteY X a ((a, oe) :: pn) xe) (i := i) (n := n) (np := np2) (pos := p5) (List.mem_cons_self) rfl hd (hz.2.2 vs hd) hr0 hi hv tkS
      (pmk5_own (X := suiteY X a ((a, oe) :: pn) xe) (x := c2) (m := m2) (j := j) (p := p2) (p2 := p3) (pos := p4) T.fa T.ex T.gC T.kC (raises_own T.sC T.tC) hg hdb) hd1 hd2
    exact (pss_one ps).run pins s σ H D I ⟨hσ, hw⟩
  · intro pn xe h1 h2
    refine (Classical.choose_spec (hb _ pn xe h1 h2)).2 ρ F s σ H E rl ?_
    unfold fTryFrom at h
    cases q : fb s with
    | bad => rw [q] at h; exact h
    | ok fl s1 => rw [q] at h; cases fl <;> exact h
    | ex e s1 =>
      rw [q] at h
      simp only at h
      intro ρ1 F1 H1 σ1 cls d x1 rl1 er
      obtain ⟨C, hC, rfl, hn1, hn2⟩ := er
      cases qc : ctch e with
      | none => rw [qc] at h; exact h.elim
      | some b =>
        rw [qc] at h
        refine ⟨b, hct _ b C qc hC, fun hb' a ha => ?_, fun hb' => ?_⟩
        · subst hb'
          simp only at h
          split at h
          · rename_i hl
            obtain ⟨z1, z2⟩ := hra e C qc hC
            have hl' : i < σ1.length := by rw [← rl1.slo.len]; exact hl
            refine ⟨raises_own z1 z2, by rw [List.getElem?_set_self hl'], ?_⟩
            rw [List.set_set]
            exact h ρ1 F1 H1 (σ1.set i none) (.ref C2) none x1 ⟨rl1.mem, rl1.slo.unset i⟩ ⟨C2, T.gC, rfl, fun _ => rfl, fun z => absurd rfl z⟩
          · exact h.elim
        · subst hb'
          simp only at h
          exact h ρ1 F1 H1 σ1 (.ref C) d x1 rl1 ⟨C, hC, rfl, hn1, hn2⟩
end
end DL

/-! Numbers and bits, the lowest first; what a check sum tells of spoilt bits. -/
namespace DL
open PySem L2
def lowI (l : List Int) : Int := highI l.reverse
theorem lowI_cons (b : Int) (l : List Int) : lowI (b :: l) = b + 2 * lowI l := by
  unfold lowI
  rw [List.reverse_cons, highI_snoc]
  omega
theorem bitsI_cons (n : Int) (k : Nat) : bitsI n (k + 1) = n % 2 :: bitsI (n / 2) k := by
  unfold bitsI
  rw [List.range_succ_eq_map, List.map_cons, List.map_map]
  congr 1
  · simp
  · refine List.map_congr_left fun i _ => ?_
    show n / 2 ^ (i + 1) % 2 = n / 2 / 2 ^ i % 2
    rw [Int.ediv_ediv_of_nonneg (by decide), Int.pow_succ, Int.mul_comm]
theorem bits_low : ∀ l : List Int, bits01 l → bitsI (lowI l) l.length = l
  | [], _ => rfl
  | b :: l, h => by
    have hb := h b (by simp)
    rw [List.length_cons, bitsI_cons, lowI_cons]
    have e1 : (b + 2 * lowI l) % 2 = b := by omega
    have e2 : (b + 2 * lowI l) / 2 = lowI l := by omega
    rw [e1, e2, bits_low l fun c hc => h c (by simp [hc])]
theorem lowI_lt : ∀ l : List Int, bits01 l → 0 ≤ lowI l ∧ lowI l < 2 ^ l.length := fun l h => by
  have := highI_lt _ l.reverse rfl (fun b hb => h b (by simpa using hb))
  rw [List.length_reverse] at this
  exact this
theorem low_bits : ∀ (k : Nat) (n : Int), 0 ≤ n → n < 2 ^ k → lowI (bitsI n k) = n
  | 0, n, h0, h1 => by
    have : n = 0 := by
      have : (2 : Int) ^ 0 = 1 := rfl
      omega
    subst this
    rfl
  | k + 1, n, h0, h1 => by
    rw [bitsI_cons, lowI_cons, low_bits k (n / 2) (by omega) (by rw [Int.pow_succ] at h1; omega)]
    omega
theorem lowI_append : ∀ a b : List Int, lowI (a ++ b) = lowI a + 2 ^ a.length * lowI b
  | [], b => by simp [lowI, highI]
  | x :: a, b => by
    rw [List.cons_append, lowI_cons, lowI_cons, lowI_append a b, List.length_cons, Int.pow_succ]
    generalize (2 : Int) ^ a.length = m
    rw [Int.mul_comm m 2, Int.mul_assoc]
    omega
/-! ### what is told -/
theorem addW_comm : ∀ a b : List Int, a.length = b.length → addW a b = addW b a
  | [], [], _ => rfl
  | x :: a, y :: b, h => by
    simp only [List.length_cons, Nat.add_right_cancel_iff] at h
    simp only [addW, addW_comm a b h, List.cons.injEq, and_true]
    omega
theorem addW_self : ∀ w y : List Int, bits01 y → addW w (addW w y) = y
  | [], _, _ => rfl
  | _ :: _, [], _ => rfl
  | w :: ws, y :: ys, h => by
    have hy := h y (by simp)
    simp only [addW, addW_self ws ys (fun c hc => h c (by simp [hc])), List.cons.injEq, and_true]
    omega
theorem step_lin (W R S : List Int) (a b : Int) (hR : R.length = W.length) (hS : S.length = W.length) (bS : bits01 S) :
    regStep W (addW R S) ((b + a) % 2) = addW (regStep W R a) (regStep W S b) := by
  cases R with
  | nil =>
    cases W with
    | nil =>
      cases S with
      | nil => rfl
      | cons _ _ => simp at hS
    | cons _ _ => simp at hR
  | cons r R' =>
    cases S with
    | nil => rw [List.length_nil] at hS; rw [← hS] at hR; simp at hR
    | cons s S' =>
      have hl : R'.length = S'.length := by simp only [List.length_cons] at hR hS; omega
      have hRl : (R' ++ [0]).length = W.length := by simpa using hR
      have hSl : (S' ++ [0]).length = W.length := by simpa using hS
      have b0 : bits01 (S' ++ [0]) := fun c hc => by
        rcases List.mem_append.mp hc with e | e
        · exact bS c (by simp [e])
        · exact .inl (by simpa using e)
      have e0 : addW R' S' ++ [0] = addW (R' ++ [0]) (S' ++ [0]) := by rw [addW_both R' S' 0 0 hl]; rfl
      have c2 : addW (R' ++ [0]) (addW W (S' ++ [0])) = addW W (addW (R' ++ [0]) (S' ++ [0])) := by
        rw [addW_assoc _ W _ (by omega) (by omega), addW_comm (R' ++ [0]) W (by omega), ← addW_assoc W _ _ (by omega) (by omega)]
      show regStep W ((s + r) % 2 :: addW R' S') ((b + a) % 2) = addW (regStep W (r :: R') a) (regStep W (s :: S') b)
      unfold regStep
      simp only
      rw [e0]
      by_cases h1 : (a + r) % 2 = 1 <;> by_cases h2 : (b + s) % 2 = 1
      · rw [if_neg (by omega), if_pos h1, if_pos h2, ← addW_assoc W (R' ++ [0]) _ (by omega) (by rw [addW_len]; omega), c2, addW_self _ _ (addW_bits _ _ b0)]
      · rw [if_pos (by omega), if_pos h1, if_neg h2, addW_assoc W _ _ (by omega) (by omega)]
      · rw [if_pos (by omega), if_neg h1, if_pos h2, c2]
      · rw [if_neg (by omega), if_neg h1, if_neg h2]
theorem reg_lin (W : List Int) : ∀ (as bs R S : List Int), as.length = bs.length → R.length = W.length → S.length = W.length → bits01 S → regN W (addW R S) (addW as bs) = addW (regN W R as) (regN W S bs)
  | [], [], R, S, _, _, _, _ => rfl
  | a :: as, b :: bs, R, S, h, hR, hS, bS => by
    simp only [List.length_cons, Nat.add_right_cancel_iff] at h
    show regN W (regStep W (addW R S) ((b + a) % 2)) (addW as bs) = _
    rw [step_lin W R S a b hR hS bS]
    exact reg_lin W as bs _ _ h (by rw [regStep_len]; exact hR) (by rw [regStep_len]; exact hS) (regStep_bits _ _ _ bS)
theorem rep_snoc (k : Nat) : List.replicate k (0 : Int) ++ [0] = List.replicate (k + 1) 0 := by rw [← List.replicate_succ']
theorem reg_own (W : List Int) : ∀ (R : List Int) (k : Nat), bits01 R → regN W (R ++ List.replicate k 0) R = List.replicate (R.length + k) 0
  | [], k, _ => by simp [regN]
  | r :: R, k, h => by
    have hr := h r (by simp)
    show regN W (regStep W (r :: (R ++ List.replicate k 0)) r) R = _
    unfold regStep
    simp only
    rw [if_neg (by omega), List.append_assoc, rep_snoc, reg_own W R (k + 1) fun c hc => h c (by simp [hc]), List.length_cons]
    congr 1
    omega
theorem addW_zeros : ∀ (n : Nat) (l : List Int), bits01 l → addW (List.replicate n 0) l = l ∨ l.length < n
  | 0, _, _ => .inl rfl
  | n + 1, [], _ => .inr (by simp)
  | n + 1, x :: l, h => by
    have hx := h x (by simp)
    rcases addW_zeros n l fun c hc => h c (by simp [hc]) with e | e
    · refine .inl ?_
      simp only [List.replicate_succ, addW, e, List.cons.injEq, and_true]
      omega
    · exact .inr (by simpa using e)
/-- the register behind a whole word that is right -/
theorem reg_right (W row : List Int) (hr : bits01 row) : regN W (List.replicate W.length 1) (row ++ crcI W row) = regN W (List.replicate W.length 0) (List.replicate W.length 1) := by
  have app : ∀ (a b R : List Int), regN W R (a ++ b) = regN W (regN W R a) b := fun a => by
    induction a with
    | nil => intro b R; rfl
    | cons x a ih => intro b R; exact ih b _
  rw [app]
  unfold crcI
  generalize hR : regN W (List.replicate W.length 1) row = R
  have hl : R.length = W.length := by rw [← hR, regN_len]; simp
  have hb : bits01 R := hR ▸ regN_bits W _ _ fun c hc => .inr (List.mem_replicate.mp hc).2
  have e1 : R.map (1 - ·) = addW (List.replicate W.length 1) R := by
    rw [← hl]
    clear hR hl
    induction R with
    | nil => rfl
    | cons x R ih =>
      have hx := hb x (by simp)
      simp only [List.map_cons, List.length_cons, List.replicate_succ, addW, ih fun c hc => hb c (by simp [hc]), List.cons.injEq, and_true]
      omega
  have e2 : R = addW (List.replicate W.length 0) R := by
    rcases addW_zeros W.length R hb with e | e
    · exact e.symm
    · omega
  rw [e1]
  conv => lhs; arg 2; rw [e2]
  rw [reg_lin W _ _ _ _ (by simp [hl]) (by simp) hl hb]
  have z := reg_own W R 0 hb
  rw [List.replicate_zero, List.append_nil, Nat.add_zero, hl] at z
  rw [z, addW_comm _ _ (by simp [regN_len])]
  rcases addW_zeros W.length (regN W (List.replicate W.length 0) (List.replicate W.length 1)) (regN_bits _ _ _ fun c hc => .inl (List.mem_replicate.mp hc).2) with e | e
  · exact e
  · rw [regN_len] at e
    simp at e
/-- the bits of a word whose check sum is right -/
def rightW (W B : List Int) : Prop := ∃ row, bits01 row ∧ B = row ++ crcI W row
theorem two_right (W B C : List Int) (hl : B.length = C.length) (hB : rightW W B) (hC : rightW W C) : regN W (List.replicate W.length 0) (addW B C) = List.replicate W.length 0 := by
  obtain ⟨r1, b1, e1⟩ := hB
  obtain ⟨r2, b2, e2⟩ := hC
  have m1 := reg_right W r1 b1
  have m2 := reg_right W r2 b2
  rw [← e1] at m1
  rw [← e2] at m2
  have hone : bits01 (List.replicate W.length (1 : Int)) := fun c hc => .inr (List.mem_replicate.mp hc).2
  have z : ∀ l : List Int, bits01 l → addW l l = List.replicate l.length 0 := fun l => by
    induction l with
    | nil => intro _; rfl
    | cons x l ih =>
      intro h
      have hx := h x (by simp)
      simp only [addW, ih fun c hc => h c (by simp [hc]), List.length_cons, List.replicate_succ, List.cons.injEq, and_true]
      omega
  have q := reg_lin W B C (List.replicate W.length 1) (List.replicate W.length 1) hl (by simp) (by simp) hone
  rw [m1, m2, z _ hone, List.length_replicate, z _ (regN_bits _ _ _ fun c hc => .inl (List.mem_replicate.mp hc).2), regN_len, List.length_replicate] at q
  exact q
/-- what one bit leaves, q places from the end -/
def xQ (W : List Int) (q : Nat) : List Int := regN W W (List.replicate q 0)
theorem reg_app (W : List Int) : ∀ (a b R : List Int), regN W R (a ++ b) = regN W (regN W R a) b
  | [], _, _ => rfl
  | x :: a, b, R => reg_app W a b _
theorem step_zero (W : List Int) : ∀ n : Nat, regStep W (List.replicate n 0) 0 = List.replicate n 0
  | 0 => rfl
  | n + 1 => by
    rw [List.replicate_succ]
    show (if ((0 : Int) + 0) % 2 = 1 then addW W (List.replicate n 0 ++ [0]) else List.replicate n 0 ++ [0]) = _
    rw [if_neg (by decide), rep_snoc, List.replicate_succ]
theorem reg_zero (W : List Int) (n : Nat) : ∀ k : Nat, regN W (List.replicate n 0) (List.replicate k 0) = List.replicate n 0
  | 0 => rfl
  | k + 1 => by
    rw [List.replicate_succ]
    show regN W (regStep W (List.replicate n 0) 0) (List.replicate k 0) = _
    rw [step_zero, reg_zero W n k]
theorem unit_form (N i : Nat) (h : i < N) : (List.replicate N (0 : Int)).set i 1 = List.replicate i 0 ++ 1 :: List.replicate (N - 1 - i) 0 := by
  rw [List.set_eq_take_append_cons_drop, if_pos (by simpa using h), List.take_replicate, List.drop_replicate, Nat.min_eq_left (by omega)]
  congr 3
  omega
theorem reg_unit (W : List Int) (hW : bits01 W) (h0 : 0 < W.length) (N i : Nat) (h : i < N) : regN W (List.replicate W.length 0) ((List.replicate N 0).set i 1) = xQ W (N - 1 - i) := by
  rw [unit_form N i h, reg_app, reg_zero]
  show regN W (regStep W (List.replicate W.length 0) 1) _ = _
  have e : regStep W (List.replicate W.length 0) 1 = W := by
    obtain ⟨n, hn⟩ : ∃ n, W.length = n + 1 := ⟨W.length - 1, by omega⟩
    rw [hn, List.replicate_succ]
    show (if ((1 : Int) + 0) % 2 = 1 then addW W (List.replicate n 0 ++ [0]) else List.replicate n 0 ++ [0]) = _
    rw [if_pos (by decide)]
    exact addW_nil W _ (fun y hy => by
      rw [rep_snoc] at hy
      exact (List.mem_replicate.mp hy).2) hW (by simp [hn])
  rw [e]
  rfl
theorem xQ_succ (W : List Int) (q : Nat) : xQ W (q + 1) = regStep W (xQ W q) 0 := by
  unfold xQ
  rw [List.replicate_succ', regN_snoc]
theorem xQ_len (W : List Int) (q : Nat) : (xQ W q).length = W.length := regN_len _ _ _
theorem step_inj (V R S : List Int) (hR : R.length = (V ++ [1]).length) (hS : S.length = (V ++ [1]).length) (bR : bits01 R) (bS : bits01 S) (h : regStep (V ++ [1]) R 0 = regStep (V ++ [1]) S 0) : R = S := by
  cases R with
  | nil => simp at hR
  | cons r R' =>
    cases S with
    | nil => simp at hS
    | cons s S' =>
      have hR1 : V.length = R'.length := by simpa using hR.symm
      have hS1 : V.length = S'.length := by simpa using hS.symm
      have b1 : bits01 (R' ++ [0]) := fun c hc => by
        rcases List.mem_append.mp hc with e | e
        · exact bR c (by simp [e])
        · exact .inl (by simpa using e)
      have b2 : bits01 (S' ++ [0]) := fun c hc => by
        rcases List.mem_append.mp hc with e | e
        · exact bS c (by simp [e])
        · exact .inl (by simpa using e)
      unfold regStep at h
      simp only at h
      have hr := bR r (by simp)
      have hs := bS s (by simp)
      by_cases h1 : (0 + r) % 2 = 1 <;> by_cases h2 : (0 + s) % 2 = 1
      · rw [if_pos h1, if_pos h2] at h
        have := congrArg (addW (V ++ [1])) h
        rw [addW_self _ _ b1, addW_self _ _ b2] at this
        rw [List.append_cancel_right this]
        congr 1
        omega
      · rw [if_pos h1, if_neg h2, addW_both _ _ _ _ hR1] at h
        have := (List.append_inj' h rfl).2
        simp at this
      · rw [if_neg h1, if_pos h2, addW_both _ _ _ _ hS1] at h
        have := (List.append_inj' h rfl).2
        simp at this
      · rw [if_neg h1, if_neg h2] at h
        rw [List.append_cancel_right h]
        congr 1
        omega
def chkW (W : List Int) : Nat → List Int → Bool
  | 0, _ => true
  | k + 1, R => (regStep W R 0 != W && (regStep W R 0).any (· == 1)) && chkW W k (regStep W R 0)
theorem chk_all (W : List Int) : ∀ (k q0 : Nat), chkW W k (xQ W q0) = true → ∀ q, q0 < q → q ≤ q0 + k → xQ W q ≠ W ∧ (xQ W q).any (· == 1) = true
  | 0, q0, _, q, h1, h2 => by omega
  | k + 1, q0, h, q, h1, h2 => by
    unfold chkW at h
    rw [← xQ_succ] at h
    simp only [Bool.and_eq_true, bne_iff_ne] at h
    by_cases e : q = q0 + 1
    · subst e
      exact ⟨h.1.1, h.1.2⟩
    · exact chk_all W k (q0 + 1) h.2 q (by omega) (by omega)
theorem xQ_ne (V : List Int) (hV : bits01 (V ++ [1])) (L : Nat) (hc : chkW (V ++ [1]) L (V ++ [1]) = true) : ∀ (i j : Nat), i < j → j ≤ L → xQ (V ++ [1]) i ≠ xQ (V ++ [1]) j
  | 0, j, h, hl, e => (chk_all _ L 0 hc j h (by omega)).1 e.symm
  | i + 1, 0, h, _, _ => by omega
  | i + 1, j + 1, h, hl, e => by
    rw [xQ_succ, xQ_succ] at e
    exact xQ_ne V hV L hc i j (by omega) (by omega) (step_inj V _ _ (xQ_len _ _) (xQ_len _ _) (regN_bits _ _ _ hV) (regN_bits _ _ _ hV) e)
theorem xQ_nz (V : List Int) (L : Nat) (hc : chkW (V ++ [1]) L (V ++ [1]) = true) (q : Nat) (h : q ≤ L) : xQ (V ++ [1]) q ≠ List.replicate (V ++ [1]).length 0 := by
  intro e
  by_cases hq : q = 0
  · subst hq
    have e' : V ++ [1] = List.replicate (V ++ [1]).length 0 := e
    have : (1 : Int) ∈ List.replicate (V ++ [1]).length (0 : Int) := by rw [← e']; simp
    have := (List.mem_replicate.mp this).2
    omega
  · have := (chk_all _ L 0 hc q (by omega) (by omega)).2
    rw [e] at this
    simp at this
/-- one or two bits turned: no right word -/
def flipB (B : List Int) (i : Nat) : List Int := B.set i (1 - B.getD i 0)
theorem flipB_len (B : List Int) (i : Nat) : (flipB B i).length = B.length := by simp [flipB]
theorem addW_flip : ∀ (B C : List Int) (i : Nat), B.length = C.length → bits01 B → bits01 C → i < B.length → addW B (flipB C i) = flipB (addW B C) i
  | [], _, _, _, _, _, h => by simp at h
  | b :: B, [], _, h, _, _, _ => by simp at h
  | b :: B, c :: C, 0, h, hb, hc, _ => by
    have h1 := hb b (by simp)
    have h2 := hc c (by simp)
    simp only [flipB, List.set_cons_zero, addW, List.getD_cons_zero, List.cons.injEq, and_true]
    omega
  | b :: B, c :: C, i + 1, h, hb, hc, hi => by
    have ih := addW_flip B C i (by simpa using h) (fun x hx => hb x (by simp [hx])) (fun x hx => hc x (by simp [hx])) (by simpa using hi)
    simp only [flipB] at ih
    simp only [flipB, List.set_cons_succ, addW, List.getD_cons_succ, List.cons.injEq, true_and]
    exact ih
theorem flipB_bits (B : List Int) (i : Nat) (h : bits01 B) : bits01 (flipB B i) := by
  intro b hb
  unfold flipB at hb
  rcases List.mem_or_eq_of_mem_set hb with e | e
  · exact h b e
  · by_cases hi : i < B.length
    · have := h _ (List.getElem_mem hi)
      rw [List.getD_eq_getElem?_getD, List.getElem?_eq_getElem hi, Option.getD_some] at e
      omega
    · rw [List.getD_eq_getElem?_getD, List.getElem?_eq_none (by omega), Option.getD_none] at e
      omega
theorem addW_same (B : List Int) : bits01 B → addW B B = List.replicate B.length 0 := by
  induction B with
  | nil => intro _; rfl
  | cons x l ih =>
    intro h
    have hx := h x (by simp)
    simp only [addW, ih fun c hc => h c (by simp [hc]), List.length_cons, List.replicate_succ, List.cons.injEq, and_true]
    omega
theorem flip_unit (n i : Nat) (h : i < n) : flipB (List.replicate n (0 : Int)) i = (List.replicate n 0).set i 1 := by
  unfold flipB
  rw [List.getD_eq_getElem?_getD, List.getElem?_replicate, if_pos h]
  rfl
theorem spoilt1 (V B : List Int) (L : Nat) (hV : bits01 (V ++ [1])) (hc : chkW (V ++ [1]) L (V ++ [1]) = true) (hB : rightW (V ++ [1]) B) (bB : bits01 B) (hl : B.length ≤ L + 1) (i : Nat) (hi : i < B.length) : ¬ rightW (V ++ [1]) (flipB B i) := by
  intro h
  have q := two_right _ B (flipB B i) (flipB_len B i).symm hB h
  rw [addW_flip B B i rfl bB bB hi, addW_same B bB, flip_unit _ _ hi, reg_unit _ hV (by simp) _ _ hi] at q
  exact xQ_nz V L hc _ (by omega) q
theorem spoilt2 (V B : List Int) (L : Nat) (hV : bits01 (V ++ [1])) (hc : chkW (V ++ [1]) L (V ++ [1]) = true) (hB : rightW (V ++ [1]) B) (bB : bits01 B) (hl : B.length ≤ L + 1) (i j : Nat) (hi : i < B.length) (hj : j < B.length) (hij : i ≠ j) : ¬ rightW (V ++ [1]) (flipB (flipB B i) j) := by
  intro h
  have q := two_right _ B (flipB (flipB B i) j) (by rw [flipB_len, flipB_len]) hB h
  have bz : bits01 (List.replicate B.length (0 : Int)) := fun c hc => .inl (List.mem_replicate.mp hc).2
  rw [addW_flip B _ j (flipB_len B i).symm bB (flipB_bits B i bB) hj, addW_flip B B i rfl bB bB hi, addW_same B bB] at q
  have e : flipB (flipB (List.replicate B.length 0) i) j = addW (flipB (List.replicate B.length 0) i) (flipB (List.replicate B.length 0) j) := by
    rw [addW_flip _ _ j (by simp [flipB_len]) (flipB_bits _ _ bz) bz (by simpa [flipB_len] using hj), addW_comm _ _ (by simp [flipB_len])]
    rcases addW_zeros B.length (flipB (List.replicate B.length 0) i) (flipB_bits _ _ bz) with z | z
    · rw [z]
    · simp [flipB_len] at z
  have z0 : List.replicate (V ++ [1]).length (0 : Int) = addW (List.replicate (V ++ [1]).length 0) (List.replicate (V ++ [1]).length 0) := by
    rw [addW_same _ (fun c hc => .inl (List.mem_replicate.mp hc).2)]
    simp
  rw [e] at q
  conv at q => lhs; arg 2; rw [z0]
  rw [reg_lin _ _ _ _ _ (by simp [flipB_len]) (by simp) (by simp) (fun c hc => .inl (List.mem_replicate.mp hc).2), flip_unit _ _ hi, flip_unit _ _ hj, reg_unit _ hV (by simp) _ _ hi, reg_unit _ hV (by simp) _ _ hj] at q
  have q2 := congrArg (addW (xQ (V ++ [1]) (B.length - 1 - i))) q
  have bx : ∀ q, bits01 (xQ (V ++ [1]) q) := fun q => regN_bits _ _ _ hV
  rw [addW_self _ _ (bx _), addW_comm _ _ (by simp [xQ_len])] at q2
  have q3 : xQ (V ++ [1]) (B.length - 1 - j) = xQ (V ++ [1]) (B.length - 1 - i) := by
    rw [q2]
    rcases addW_zeros (V ++ [1]).length (xQ (V ++ [1]) (B.length - 1 - i)) (bx _) with z | z
    · exact z
    · rw [xQ_len] at z; omega
  by_cases h1 : i < j
  · exact xQ_ne V hV L hc (B.length - 1 - j) (B.length - 1 - i) (by omega) (by omega) q3
  · exact xQ_ne V hV L hc (B.length - 1 - i) (B.length - 1 - j) (by omega) (by omega) q3.symm
theorem chk5 : chkW W5 15 W5 = true := by decide +kernel
theorem chk16 : chkW W16 527 W16 = true := by decide +kernel
end DL

/-! str of an int. -/
namespace DL
open PySem L2
variable {X : Cx} {W : WX}
noncomputable def gStr : List D → DS → R D := fun ds s => match ds with
  | [.int i] => if Pr (i.natAbs < 2 ^ 1000) then .ok (.str (Str.ofString (toString i))) s else .bad
  | _ => .bad
theorem cd_str : CallD X W (fun xs H Q => ∃ i, xs = [.int i] ∧ i.natAbs.log2 < 1920 ∧ Q (.str (toString i)) H) gStr := by
  intro ρ F s σ H ds vs Q rl r h
  unfold gStr at h
  split at h
  · split at h
    · rename_i i hc
      have hc' : i.natAbs < 2 ^ 1000 := hc
      obtain ⟨v, rfl, r1⟩ := rdl1 r
      cases r1
      refine ⟨_, rfl, ?_, h ρ F H _ (Ext.refl ..) rl rfl⟩
      by_cases hz : i.natAbs = 0
      · rw [hz]
        decide
      · have := (Nat.log2_lt hz).mpr hc'
        omega
    · exact h.elim
  · exact h.elim
variable {a b : Expr} {pos : Pos} {fa fb : DS → R D}
theorem pdt_din (hu : X.A.units + 1 < cLine) (ha : PD X W a fa) (hb : PD X W b fb) (hm : behindInMarks .In b = false := by rfl) : PDT X W (.Compare a [.In] [b] pos) (fTst (fDin false fa fb)) := by
  obtain ⟨t1, e1, l1⟩ := ha
  obtain ⟨t2, e2, l2⟩ := hb
  refine ⟨_, pt_cmp (pc_din hu e1 e2) hm, fun ρ F s σ H Q rl h => l1 ρ F s σ H _ rl (Post.bind h.asB fun y s1 ρ1 F1 H1 v x1 rl1 rd1 h1 => ?_)⟩
  refine l2 ρ1 F1 s1 σ H1 _ rl1 (Post.bind h1 fun x s2 ρ2 F2 H2 u x2 rl2 rd2 h2 => ?_)
  unfold gDin at h2
  split at h2
  · rename_i kvs k q1 q2
    obtain ⟨p, us, rfl, o1, o2⟩ := dctV_rd rl2.mem rd2 q1
    refine ⟨p, valV us k, rfl, ?_, ?_⟩
    · rw [keyD_rd (rd1.ext x2) q2]
      exact DGet.k o1
    · rw [din_val o2]
      exact h2 ρ2 F2 H2 _ (Ext.refl ..) rl2 rfl
  · exact h2.elim
theorem pdt_dnotin (hu : X.A.units + 1 < cLine) (ha : PD X W a fa) (hb : PD X W b fb) (hm : behindInMarks .NotIn b = false := by rfl) : PDT X W (.Compare a [.NotIn] [b] pos) (fTst (fDin true fa fb)) := by
  obtain ⟨t1, e1, l1⟩ := ha
  obtain ⟨t2, e2, l2⟩ := hb
  refine ⟨_, pt_cmp (pc_dnotin hu e1 e2) hm, fun ρ F s σ H Q rl h => l1 ρ F s σ H _ rl (Post.bind h.asB fun y s1 ρ1 F1 H1 v x1 rl1 rd1 h1 => ?_)⟩
  refine l2 ρ1 F1 s1 σ H1 _ rl1 (Post.bind h1 fun x s2 ρ2 F2 H2 u x2 rl2 rd2 h2 => ?_)
  unfold gDin at h2
  split at h2
  · rename_i kvs k q1 q2
    obtain ⟨p, us, rfl, o1, o2⟩ := dctV_rd rl2.mem rd2 q1
    refine ⟨p, valV us k, rfl, ?_, ?_⟩
    · rw [keyD_rd (rd1.ext x2) q2]
      exact DGet.k o1
    · rw [din_val o2]
      exact h2 ρ2 F2 H2 _ (Ext.refl ..) rl2 rfl
  · exact h2.elim
theorem cm8 (x : Int) : CMul 8 x := .inl ⟨by decide, by decide⟩
theorem cm16 (x : Int) : CMul 16 x := .inl ⟨by decide, by decide⟩
theorem cm128 (x : Int) : CMul 128 x := .inl ⟨by decide, by decide⟩
theorem cm256 (x : Int) : CMul 256 x := .inl ⟨by decide, by decide⟩
theorem str01 : gStr [.int 0] = (fun s => .ok (.str ("0" : Str)) s) ∧ gStr [.int 1] = (fun s => .ok (.str ("1" : Str)) s) := by
  refine ⟨funext fun s => ?_, funext fun s => ?_⟩
  · show (if Pr (Int.natAbs 0 < 2 ^ 1000) then R.ok (D.str (Str.ofString (toString (0 : Int)))) s else R.bad) = _
    exact if_Pr (Nat.two_pow_pos _)
  · show (if Pr (Int.natAbs 1 < 2 ^ 1000) then R.ok (D.str (Str.ofString (toString (1 : Int)))) s else R.bad) = _
    exact if_Pr (Nat.one_lt_two_pow (by decide))
theorem ofs_app (a b : String) : Str.ofString a ++ Str.ofString b = Str.ofString (a ++ b) := by
  show Str.append (Str.ofString a) (Str.ofString b) = _
  rw [Str.ofString_eq_toList, Str.ofString_eq_toList, Str.ofString_eq_toList]
  unfold Str.append
  rw [String.toList_append, List.map_append]
  simp only [List.append_toArray]
theorem rng_ints (n : Nat) : rngD 0 n = ((List.range n).map fun i : Nat => (i : Int)).map .int := by
  simp [rngD]
end DL

/-! Exceptions with a field: C(v), C's own __init__ : Base.__init__(self, ..); self.f = v. -/
namespace DL
open PySem L2
open PyProof.Rows (envOfC)
section
variable {X : Cx} {e : Expr} {es : List Expr} {ta : TA} {p1 p2 pos : Pos}
/-- B.__init__(self, ..), B an own class over ValueError without an __init__ of its own -/
theorem pe_oinit {pl : Sem Bool} {b : Str} {B : Addr} (hg : Gl X b) (hm : X.mg b = some (.ref B)) (sg : PySem.W.specialIn X.K (.ref B) "__getattribute__" = some (some (.builtin "type.__getattribute__"))) (rd : PySem.W.readsIn X.K B (.type "type") = true)
    (fc : PySem.W.findCls X.K (.ref B) (.type "type") "__init__" = some (.val (.builtin "ValueError.__init__"))) (ha : PA X (e :: es) ta)
    (hd : (b == ("__debug__" : Str)) = false := by decide)
    (hc : eval (.Call (.Attribute (.Name b p1) "__init__" p2) (e :: es) [] pos) X.env = (do
      let ov ← eval (.Name b p1) X.env
      standAt p2.atName
      let (f, first) ← holding [ov] (getMethod ov "__init__" pl)
      callWith pos f first (backTo pos (starEach (e :: es) X.env)) (backToKw pos (keywordEach [] X.env))) := by rfl)
    (he : starEach (e :: es) X.env = (false, eval e X.env) :: starEach es X.env := by rfl) (hpl : (backTo pos (starEach es X.env)).any (·.1) = false := by rfl) :
    PE X (.Call (.Attribute (.Name b p1) "__init__" p2) (e :: es) [] pos) (tVeI X.K ta) := by
  refine ⟨fun pins s σ H Q I h => ?_⟩
  refine PySem.W.methodCall_KW (ld_glob I hg hm ?_ hd) hc
  obtain ⟨m, fr⟩ := I.fr
  refine PySem.W.method_of_cls fr I.ok.mod.kin sg (PySem.W.cls_value I.kIn rd fc (by decide +kernel) ?_)
  show wpAny _ _ (callWith pos (Value.builtin "ValueError.__init__") [] (backTo pos (starEach (e :: es) X.env)) []) _ _ _
  refine PyProof.Rows.callWith_method1 (L2.thn (ha.run pos pins _ σ H _ (I.tok _) h) fun us s1 ⟨vs, H1, I1, r1, a, C, ws, ev, hl, T, ea, q⟩ => ?_) he hpl
  subst ev
  cases r1 with
  | @cons _ u0 _ ur ra rw' =>
    obtain rfl : u0 = Value.ref a := ra
    have hlen : ur.length ≤ sizeLine := by
      rw [← PySem.Paired.length rw', sizeLine_eq]
      omega
    exact oinit_ok T I1 ea hlen fun s' J => ⟨.non, H1, J, rfl, q⟩
end
/-! ### the __init__'s promise -/
def spI (K : PySem.W.Frag) (C : Addr) (f : Str) (ok : V → Prop) : Sp := fun vs H Q _ => ∃ (a : Addr) (v : V), vs = [.ref a, v] ∧ ok v ∧ H a = some (exo a C none) ∧ ∀ dx, H dx = none → dx ≠ a → Q .non (upd (upd H dx (exd dx [(f, v)])) a (exo a C (some dx)))
theorem spI_len {K : PySem.W.Frag} {C : Addr} {f : Str} {ok : V → Prop} {vs : List V} {H : Hp} {Q : VK} {E : XK} (h : spI K C f ok vs H Q E) : vs.length = 2 := by
  obtain ⟨a, v, rfl, _⟩ := h
  rfl
def okI : V → Prop := fun v => ∃ i : Int, v = .int i ∧ 0 ≤ i ∧ i < 1000
def okDI : D → Prop := fun d => ∃ i : Int, d = .int i ∧ 0 ≤ i ∧ i < 1000
def okA : V → Prop := fun _ => True
def okDA : D → Prop := fun _ => True
theorem okI_rd {K : PySem.W.Frag} {ρ : List Addr} {F : Hp} {d : D} {v : V} (h : okDI d) (r : Rd K ρ F d v) : okI v := by
  obtain ⟨i, rfl, hi⟩ := h
  cases r
  exact ⟨i, rfl, hi⟩
theorem okA_rd {K : PySem.W.Frag} {ρ : List Addr} {F : Hp} {d : D} {v : V} (_ : okDA d) (_ : Rd K ρ F d v) : okA v := True.intro
theorem digits3 : ∀ i : Fin 1000, (Str.ofString (toString ((i.val : Nat) : Int))).length ≤ 3 := by decide +kernel
theorem init_endI {K : PySem.W.Frag} {C a : Addr} {f p m : Str} {i : Int} {H : Hp} {Q : VK} (T : OexC K C) (no : PySem.W.findIn K (.ref C) f = some none) (ha : H a = some (exo a C none)) (hi : 0 ≤ i ∧ i < 1000)
    (qq : ∀ dx, H dx = none → dx ≠ a → Q .non (upd (upd H dx (exd dx [(f, V.int i)])) a (exo a C (some dx)))) (hm : m.length ≤ 1000 := by decide) :
    tSeq (tDrop (tVeI K (tCons (tVar 0) (tCons (fun σ H Q => tJs [tC (V.str m), tFmt (tVar 1)] Str.empty σ H fun out H1 => Q (V.str out) H1) tNil)))) (tOst K f (tVar 0) (tVar 1)) { nx := fun _ H' => Q .non H', rt := Q } (L2.start ["self", p] [V.ref a, V.int i]) H := by
  have hsz := sizeLine_eq
  have hlen : ∀ x y : Str, (x ++ y).length = x.length + y.length := fun x y => by
    show (Str.append x y).length = _
    simp [Str.append, Str.length]
  obtain ⟨n, rfl⟩ : ∃ n : Nat, i = (n : Int) := ⟨i.toNat, (Int.toNat_of_nonneg hi.1).symm⟩
  have hn : n < 1000 := by omega
  have hd := digits3 ⟨n, hn⟩
  have he : Str.empty.length = 0 := rfl
  have hlog : (n : Int).natAbs.log2 < 1920 := by
    show n.log2 < 1920
    by_cases hz : n = 0
    · rw [hz]; decide
    · have h1 := (Nat.log2_lt (k := 10) hz).mpr (by omega)
      omega
  refine ⟨V.ref a, rfl, m, rfl, by rw [hlen]; omega, V.int n, rfl, .inr ⟨n, rfl, hlog, Str.ofString (toString ((n : Nat) : Int)), rfl, ?_, ?_⟩⟩
  · rw [hlen, hlen]
    simp only at hd
    omega
  · exact ⟨a, C, _, rfl, by simp, T, ha, V.int n, rfl, V.ref a, rfl, a, C, rfl, T, no, .inl ⟨ha, qq⟩⟩
theorem init_endA {K : PySem.W.Frag} {C a : Addr} {f p m : Str} {v : V} {H : Hp} {Q : VK} (T : OexC K C) (no : PySem.W.findIn K (.ref C) f = some none) (ha : H a = some (exo a C none))
    (qq : ∀ dx, H dx = none → dx ≠ a → Q .non (upd (upd H dx (exd dx [(f, v)])) a (exo a C (some dx)))) :
    tSeq (tDrop (tVeI K (tCons (tVar 0) (tCons (tC (V.str m)) tNil)))) (tOst K f (tVar 0) (tVar 1)) { nx := fun _ H' => Q .non H', rt := Q } (L2.start ["self", p] [V.ref a, v]) H :=
  ⟨V.ref a, rfl, a, C, _, rfl, by simp, T, ha, v, rfl, V.ref a, rfl, a, C, rfl, T, no, .inl ⟨ha, qq⟩⟩
/-- an own class of exceptions with the field f -/
structure ExcF (P : Program) (w : World) (K : PySem.W.Frag) (mg : Str → Option Value) (base : Heap) (c f p : Str) (C fI : Addr) (fd : FuncData) (ok : V → Prop) : Prop where
  gC : mg c = some (.ref C)
  ox : OexC K C
  iC : PySem.W.findIn K (.ref C) "__init__" = some (some (.ref fI))
  tI : PySem.W.typeIn K (.ref fI) = some (.type "function")
  hb : Binds K fd ["self", p] []
  fn : FnOk P w K mg base (L2.CX P w) 1 fI fd ["self", p] (spI K C f ok)
noncomputable def fRaiseF (c f : Str) (okd : D → Prop) (fa : DS → R (List D)) : DS → R Fl := fun s => (fa s).bind fun ds s1 => match ds with
  | [d] => if Pr (okd d) then .ex ⟨c, [(f, d)]⟩ s1 else .bad
  | _ => .bad
section
variable {X : Cx} {W : WX} {c f p : Str} {C fI : Addr} {fd : FuncData} {ok : V → Prop} {okd : D → Prop} {e : Expr} {fa : DS → R (List D)} {p1 pos pos2 : Pos}
/-- what a made exception leaves: its fields' record alone -/
theorem made_heap {H1 : Hp} {a dx : Addr} {v : V} (ha : H1 a = none) (ne : dx ≠ a) :
    upd (del (upd (upd (upd H1 a (exo a C none)) dx (exd dx [(f, v)])) a (exo a C (some dx))) a) dx (.xd [(f, v)]) = upd H1 dx (.xd [(f, v)]) := by
  funext b
  by_cases hb : b = dx
  · rw [hb, upd_same, upd_same]
  · rw [upd_ne hb, upd_ne hb]
    by_cases hba : b = a
    · rw [hba, del_same, ha]
    · rw [del_ne hba, upd_ne hba, upd_ne hb, upd_ne hba]
theorem raiseF_run {t : TA} (T : ExcF X.prog X.w X.K X.mg X.base c f p C fI fd ok) (hok : ∀ ρ F d v, okd d → Rd X.K ρ F d v → ok v) (l : Stl X W (RdL X.K) t fa) {ρ : List Addr} {F : Hp} {s : DS} {σ : L2.St} {H : Hp} {E : Ends}
    (rl : Rel X.K X.mg ρ F s σ H) (h : PostS X W ρ F H E (fRaiseF c f okd fa s)) : tMkO C (spI X.K C f ok) [] t σ H (fun cls d H' => W cls d σ H') := by
  refine l ρ F s σ H _ rl (PostS.bind h fun ds s1 ρ1 F1 H1 vs x1 rl1 rd1 h1 => ?_)
  cases ds with
  | nil => exact h1.elim
  | cons d r =>
    cases r with
    | cons _ _ => exact h1.elim
    | nil =>
      simp only at h1
      split at h1
      · rename_i hd
        obtain ⟨v, rfl, rd⟩ := rdl1 rd1
        refine ⟨by simp, fun a ha => ⟨a, v, rfl, hok _ _ _ _ hd rd, upd_same, fun dx hdx hne => ?_⟩⟩
        rw [upd_ne hne] at hdx
        refine ⟨rfl, dx, [(f, v)], upd_same, by rw [upd_ne hne, upd_same], hdx, ?_⟩
        rw [made_heap ha hne]
        obtain ⟨m2, x2⟩ := rl1.mem.frozen (p := dx) (o := .xd [(f, v)]) hdx
        exact h1 _ _ _ σ _ _ x2 ⟨m2, rl1.slo.ext x2⟩ ⟨C, T.gC, rfl, (fun z => by cases z), fun _ => ⟨dx, [(f, v)], rfl, upd_same, ⟨v, [], rfl, rd.ext x2, rfl⟩⟩⟩
      · exact h1.elim
theorem pds_raiseF (T : ExcF X.prog X.w X.K X.mg X.base c f p C fI fd ok) (hok : ∀ ρ F d v, okd d → Rd X.K ρ F d v → ok v) (hc : X.calm = true) (hr : Room 2 X.A) (tk : Takes X W) (ha : PDA X W [e] fa) (hg : Gl X c := by rfl)
    (hdb : (c == ("__debug__" : Str)) = false := by decide) (he : starEach [e] X.env = (false, eval e X.env) :: starEach [] X.env := by rfl) (hpl : (backTo pos (starEach [] X.env)).any (·.1) = false := by rfl) :
    PDs X W (.Raise (some (.Call (.Name c p1) [e] [] pos)) none pos2) (fRaiseF c f okd fa) := by
  obtain ⟨t, ea, l⟩ := ha
  exact ⟨_, ps_raise hc tk (pmk_oex T.ox T.iC T.tI T.fn hr T.hb .nil passL hg T.gC ea hdb he hpl), fun ρ F s σ H E rl h => raiseF_run T hok l rl h⟩
end
/-! ### try: .. except C as n: a suite that reads n's field -/
/-- what the name holds in the suite -/
def excD (a dx : Addr) (e : Ex) : D := match e.fs with
  | [] => .ref a
  | p :: r => .exc a dx ((p :: r).map (·.1)) ((p :: r).map (·.2))
def fTryAsF (fb : DS → R Fl) (ctch : Ex → Option Bool) (i : Nat) (fs : Addr → Addr → Ex → DS → R Fl) : DS → R Fl := fun s => match fb s with
  | .ex e s1 => match ctch e with
    | some true => (match fs 0 0 e { s1 with g := s1.g.set i (some (excD 0 0 e)) } with
      | .ok fl s2 => .ok fl { s2 with g := s2.g.set i none }
      | _ => .bad)
    | some false => .ex e s1
    | none => .bad
  | r => r
structure HeldF (X : Cx) (e : Ex) (cls : Value) (d : Option Addr) (dx a : Addr) (oe : Obj) : Prop where
  z : Zc cls d oe
  f : ∃ vs, oe.data = .fields vs
  c : ∃ C, X.mg e.cls = some (.ref C) ∧ cls = .ref C
  n : e.fs = [] → d = none
  n2 : e.fs ≠ [] → d = some dx
theorem RdK.split {K : PySem.W.Frag} {ρ : List Addr} {F : Hp} : ∀ {fs : List (Str × D)} {vs : List (Str × V)}, RdK K ρ F fs vs → ∃ us, vs = (fs.map (·.1)).zip us ∧ RdL K ρ F (fs.map (·.2)) us
  | [], _, h => by
    simp only [RdK] at h
    subst h
    exact ⟨[], rfl, rfl⟩
  | (k, d) :: r, _, h => by
    simp only [RdK] at h
    obtain ⟨v, t, rfl, h1, h2⟩ := h
    obtain ⟨us, rfl, h3⟩ := RdK.split h2
    exact ⟨v :: us, rfl, ⟨v, us, rfl, h1, h3⟩⟩
theorem excD_rd {K : PySem.W.Frag} {mg : Str → Option Value} {ρ : List Addr} {F H : Hp} {e : Ex} {a dx : Addr} {cls : Value} {d : Option Addr} (er : ExR K mg ρ F H e cls d) (h : e.fs ≠ [] → d = some dx) : Rd K ρ F (excD a dx e) (.ref a) := by
  obtain ⟨C, _, _, h1, h2⟩ := er
  unfold excD
  cases q : e.fs with
  | nil => rfl
  | cons p r =>
    rw [q] at h2
    obtain ⟨x, vs, e1, e2, e3⟩ := h2 (by simp)
    have e4 := h (by rw [q]; simp)
    rw [e1] at e4
    cases e4
    obtain ⟨us, rfl, e5⟩ := RdK.split e3
    exact ⟨us, rfl, e2, by simp, e5⟩
section
variable {X : Cx} {W : WX}
theorem pds_try_asF {xn n : Str} {c : Value} {i : Nat} {body suite : List Stmt} {b₀ : Stmt} {np pos pos' : Pos} {fb : DS → R Fl} {ctch : Ex → Option Bool} {fs : Addr → Addr → Ex → DS → R Fl}
    (hs : X.stack = X.env :: X.outer) (hf : X.env.frame = some X.env.locals) (hN : X.N.Nodup) (hi : X.N[i]? = some n) (hln : X.env.kindOf n = some .local) (hc : Names X xn c) (tk : Takes X W)
    (hct : ∀ (e : Ex) b C, ctch e = some b → X.mg e.cls = some (.ref C) → PySem.W.exmOne X.K (.ref C) c = some b)
    (hb : ∀ (W' : WX) (pn : List (Addr × Obj)) (xe : Value → Shared → Prop), Takes (X.tr pn xe) W' → PassesOwn (model X.prog X.w) X.A X.env xe → PDss (X.tr pn xe) W' body fb)
    (hsu : ∀ (a dx : Addr) (oe : Obj) (cls : Value) (d : Option Addr) (pn : List (Addr × Obj)) (e : Ex), HeldF X e cls d dx a oe → ctch e = some true → PDss (X.suite a ((a, oe) :: pn)) W0 (b₀ :: suite) (fs a dx e))
    (hin : ∀ (a dx : Addr) (e : Ex) (s : DS), (fs a dx e { s with g := s.g.set i (some (excD a dx e)) }).bind (fun fl s2 => R.ok fl { s2 with g := s2.g.set i none }) = (fs 0 0 e { s with g := s.g.set i (some (excD 0 0 e)) }).bind (fun fl s2 => R.ok fl { s2 with g := s2.g.set i none })) :
    PDs X W (.Try body [.ExceptHandler (some (.Name xn np)) (some n) (b₀ :: suite) pos'] [] [] pos) (fTryAsF fb ctch i fs) := by
  let tsO : Addr → Addr → Value → Option Addr → Ex → Obj → List (Addr × Obj) → TS := fun a dx cls d e oe pn => fun D σ H => ∀ (h : HeldF X e cls d dx a oe) (h' : ctch e = some true), (Classical.choose (hsu a dx oe cls d pn e h h')) D σ H
  let ts : Addr → Value → Option Addr → TS := fun a cls d => fun D σ H => ∃ (e : Ex) (dx : Addr), (∃ C, X.mg e.cls = some (.ref C) ∧ cls = .ref C) ∧ (e.fs = [] → d = none) ∧ (e.fs ≠ [] → d = some dx) ∧ ctch e = some true ∧ ∀ oe pn, tsO a dx cls d e oe pn D σ H
  let tb : WX → TS := fun W' => fun D σ H => ∀ pn xe (h1 : Takes (X.tr pn xe) W') (h2 : PassesOwn (model X.prog X.w) X.A X.env xe), (Classical.choose (hb W' pn xe h1 h2)) D σ H
  refine ⟨_, ps_try_as (tb := tb) (ts := ts) hs hf hN hi hln hc tk (fun W' pn xe h1 h2 => ⟨fun pins s σ H D I h => (Classical.choose_spec (hb W' pn xe h1 h2)).1.run pins s σ H D I (h pn xe h1 h2)⟩)
    (fun a oe cls d pn hz hf' => ⟨fun pins s σ H D I ⟨e, dx, hc', hn, hn2, hq, h⟩ => (Classical.choose_spec (hsu a dx oe cls d pn e ⟨hz, hf', hc', hn, hn2⟩ hq)).1.run pins s σ H D I (h oe pn ⟨hz, hf', hc', hn, hn2⟩ hq)⟩), fun ρ F s σ H E rl h => ?_⟩
  intro pn xe h1 h2
  refine (Classical.choose_spec (hb _ pn xe h1 h2)).2 ρ F s σ H E rl ?_
  unfold fTryAsF at h
  cases q : fb s with
  | bad => rw [q] at h; exact h
  | ok fl s1 => rw [q] at h; cases fl <;> exact h
  | ex e s1 =>
    rw [q] at h
    simp only at h
    intro ρ1 F1 H1 σ1 cls d x1 rl1 er
    have er0 := er
    obtain ⟨C, hC, rfl, hn1, hn2⟩ := er
    cases qc : ctch e with
    | none => rw [qc] at h; exact h.elim
    | some b =>
      rw [qc] at h
      refine ⟨b, hct _ b C qc hC, fun hb' a ha => ?_, fun hb' => ?_⟩
      · subst hb'
        simp only at h
        obtain ⟨dx, hdx⟩ : ∃ dx, e.fs ≠ [] → d = some dx := by
          by_cases hz : e.fs = []
          · exact ⟨0, fun z => absurd hz z⟩
          · obtain ⟨x, vs, e1, _⟩ := hn2 hz
            exact ⟨x, fun _ => e1⟩
        refine ⟨e, dx, ⟨C, hC, rfl⟩, hn1, hdx, qc, fun oe pn hh hq => ?_⟩
        refine (Classical.choose_spec (hsu a dx oe (.ref C) d pn e hh hq)).2 ρ1 F1 { s1 with g := s1.g.set i (some (excD a dx e)) } _ H1 _ ⟨rl1.mem, rl1.slo.set i (excD_rd er0 hdx)⟩ ?_
        have hin' := hin a dx e s1
        cases q0 : fs 0 0 e { s1 with g := s1.g.set i (some (excD 0 0 e)) } with
        | bad => rw [q0] at h; exact h.elim
        | ex _ _ => rw [q0] at h; exact h.elim
        | ok fl0 s0 =>
          rw [q0] at h hin'
          cases qa : fs a dx e { s1 with g := s1.g.set i (some (excD a dx e)) } with
          | bad => rw [qa] at hin'; cases hin'
          | ex _ _ => rw [qa] at hin'; cases hin'
          | ok fla sa =>
            rw [qa] at hin'
            have hin2 : R.ok fla { sa with g := sa.g.set i none } = R.ok fl0 { s0 with g := s0.g.set i none } := hin'
            injection hin2 with e1 e2
            subst e1
            have h3 : PostS X W ρ1 F1 H1 E (.ok fla { sa with g := sa.g.set i none }) := by
              rw [e2]
              exact PostS.ext h x1
            cases fla with
            | nx => exact fun ρ2 F2 H2 σ2 x2 rl2 => h3 ρ2 F2 H2 _ x2 ⟨rl2.mem, rl2.slo.unset i⟩
            | bk => exact fun ρ2 F2 H2 σ2 x2 rl2 => h3 ρ2 F2 H2 _ x2 ⟨rl2.mem, rl2.slo.unset i⟩
            | ct => exact fun ρ2 F2 H2 σ2 x2 rl2 => h3 ρ2 F2 H2 _ x2 ⟨rl2.mem, rl2.slo.unset i⟩
            | rt dd => exact fun ρ2 F2 H2 v x2 m2 r2 => h3 ρ2 F2 H2 v x2 m2 r2
      · subst hb'
        exact h ρ1 F1 H1 σ1 (.ref C) d x1 rl1 er0
/-- n.f in the suite -/
def fXf (a dx : Addr) (i : Nat) (f : Str) (okc : Bool) : DS → R D := fun s => match s.g[i]? with
  | some (some (.exc a' x' ks ds)) => if a' = a ∧ x' = dx ∧ okc = true then (match (ks.zip ds).lookup f with
    | some d => .ok d s
    | none => .bad) else .bad
  | _ => .bad
theorem lookup_zip {K : PySem.W.Frag} {ρ : List Addr} {F : Hp} {f : Str} {d : D} : ∀ {ks : List Str} {ds : List D} {vs : List V}, RdL K ρ F ds vs → (ks.zip ds).lookup f = some d → ∃ v, (ks.zip vs).lookup f = some v ∧ Rd K ρ F d v
  | [], _, _, _, h => by simp at h
  | k :: ks, [], _, _, h => by simp at h
  | k :: ks, d' :: ds, _, r, h => by
    simp only [RdL] at r
    obtain ⟨v, t, rfl, r1, r2⟩ := r
    simp only [List.zip_cons_cons, List.lookup_cons] at h ⊢
    cases q : f == k with
    | true =>
      rw [q] at h
      cases h
      exact ⟨v, rfl, r1⟩
    | false =>
      rw [q] at h
      exact lookup_zip r2 h
theorem pd_xf {a dx C : Addr} {oe : Obj} {cls : Value} {d : Option Addr} {pn : List (Addr × Obj)} {e : Expr} {i : Nat} {f : Str} {okc : Bool} {pos : Pos} (T : XfC X.K C) (hno : PySem.W.findIn X.K (.ref C) f = some none) (hz : Zc cls d oe) (hf : ∃ vs, oe.data = .fields vs) (hd : okc = true → d = some dx) (hcl : okc = true → cls = .ref C)
    (he : PE (X.suite a ((a, oe) :: pn)) e (tVar i)) (hb : attributeBase e f X.env (eval e X.env) = eval e X.env := by rfl) : PD (X.suite a ((a, oe) :: pn)) W (.Attribute e f pos) (fXf a dx i f okc) := by
  refine ⟨_, pe_xf T hno hz hf he hb, fun ρ F s σ H Q rl h => ?_⟩
  unfold fXf at h
  split at h
  · rename_i a' x' ks ds q
    split at h
    · rename_i hq
      obtain ⟨rfl, rfl, hok⟩ := hq
      obtain ⟨v, e1, vs, rfl, e2, e3, e4⟩ := rl.slo.at_ i _ q
      split at h
      · rename_i d' hl
        obtain ⟨v', hl', r'⟩ := lookup_zip e4 hl
        exact ⟨_, e1, rfl, hcl hok, x', _, v', hd hok, rl.mem.sub _ _ e2, hl', h ρ F H _ (Ext.refl ..) rl r'⟩
      · exact h.elim
    · exact h.elim
  · exact h.elim
end
end DL

/-! isinstance of a caught exception that has a record of fields. -/
namespace PySem.W
open PySem PySem.Spec PySem.Calls PyProof.Rows
section
variable {prog : Program} {w : World} {A : Around} {E : Value → Shared → Prop} {z : Shared} {K : Frag} {x D : Addr} {ox : Obj} {od : Option Obj}
/-- the class of an exception, by __class__, its record there or not -/
theorem clsOf_exc {Q : Option Value → Shared → Prop} (T : L2.ExcC K D) (hin : K.In z.heap) (I : InstAt z.heap x ox D od) (q : Q (some (.ref D)) { z with toks := z.toks + 1 }) : wpAny (model prog w) A (getAttr? (.ref x) "__class__") Q E z := by
  have hfd : findObj K D od "__class__" = some (.bind (.builtin "getset_descriptor.__get__") (.builtin "object.__class__")) := by
    obtain ⟨cd, hcd, _⟩ := any_some T.hd
    unfold findObj
    rw [hcd, Option.bind_some, T.ha, Option.bind_some]
    simp [T.hn, T.ht]
  obtain ⟨zh, zg, zd, zt, zo⟩ := z
  have M0 := I.type (M := model prog w)
  have M1 := looks_findIn (M := model prog w) hin T.hg
  have M2 := looks_findIn (M := model prog w) hin T.hk
  have M3 := looks_find (M := model prog w) hin I hfd
  have isB : Looks (model prog w) zh (isInstance (.ref x) (.type "BaseException")) true := M0.andThen (looks_subIn hin T.hs)
  have no0 : (false && onTheHeap (Value.builtin "BaseException.__getattribute__")) = false := rfl
  have no1 : (onTheHeap (Value.ref D) && Value.builtin "BaseException.__getattribute__" == Value.builtin "object.__getattribute__") = false := by
    rw [show (Value.builtin "BaseException.__getattribute__" == Value.builtin "object.__getattribute__") = false by decide +kernel]
    rfl
  unfold getAttr? getAttrBy? getAttrBy
  apply wpAny_bind
  apply wpAny_mkText
  refine wpAny_bind (wpAny_attempt (wpAny_holding (wpAny_bind (M0.at (wpAny_bind (M1.at ?_))))))
  show wpAny _ _ (if (onTheHeap (Value.ref D) && Value.builtin "BaseException.__getattribute__" == Value.builtin "object.__getattribute__") = true then _ else _) _ _ _
  rw [no1]
  rw [if_neg Bool.false_ne_true]
  unfold getAttrByItsOwn hookBefore
  apply wpAny_bind
  rw [if_pos (show onTheHeap (Value.ref D) = true by rfl)]
  apply M2.at
  apply wpAny_bind
  apply wpAny_attempt
  apply wpAny_holding
  unfold callGetattribute
  rw [no0]
  rw [if_neg Bool.false_ne_true]
  unfold boundAndCalled
  rw [PySem.F.excAttr_ValueError.ga.bind (.ref x)]
  apply wpAny_bind
  apply wpAny_pure
  show wpAny _ _ (call (.builtin "BaseException.__getattribute__") [.ref x, .str "__class__" zt]) _ _ _
  apply wpAny_call
  refine codeAny_call_builtin PySem.F.excAttr_ValueError.ga.plain PySem.F.entry_bexc_ga (@check_slot (model prog w) _ _ ⟨zh, zg, zd, zt + 1, zo⟩ "BaseException.__getattribute__" "BaseException" "__getattribute__" (.ref x) [.str "__class__" zt] [] _ (by decide +kernel) (by decide +kernel) isB (PySem.F.args_bexc_ga (.ref x) (.str "__class__" zt)) ?_)
  unfold Builtin.«object.__getattribute__»
  refine wpAny_bind (wpAny_of_eq (a := ((Value.ref x : Value), [Value.str "__class__" zt])) (by first | rfl | (simp only [slotArgs]; rfl)) (wpAny_bind (wpAny_pure (wpAny_bind (M0.at (wpAny_bind (M3.at ?_)))))))
  show wpAny _ _ (holding [Value.builtin "object.__class__"] (call (.builtin "getset_descriptor.__get__") [.builtin "object.__class__", .ref x, .ref D]) >>= ret) _ _ _
  refine wpAny_bind (wpAny_holding (wpAny_call (class_get (s := ⟨zh, zg, zd, zt + 1, zo⟩) (ox := ox) (od := od) hin I T.hm (wpAny_pure ?_))))
  show wpAny _ _ (handedOut (.ref D)) _ _ _
  rw [handedOut_of (v := .ref D) rfl]
  first | exact wpAny_pure (wpAny_pure q) | exact wpAny_pure q | exact wpAny_pure (wpAny_bind (wpAny_pure (wpAny_pure q)))
theorem kitx_excF (T : L2.ExcC K D) : KitX K (.ref x) (.ref D) (fun h => ∃ ox od, InstAt h x ox D od) where
  ty := fun _ _ _ ⟨_, _, I⟩ => I.type
  it := fun _ _ hin _ => by
    obtain ⟨cd1, hcd1, _⟩ := any_some T.hd
    unfold clsIn at hcd1
    split at hcd1
    · rename_i ho
      intro A1 Q1 E1 s1 k1 q1
      unfold isType
      unfold loadHead
      exact wpAny_bind (wpAny_loadPart (k1 _ _ (hin _ _ ho)) (wpAny_pure q1))
    · cases hcd1
  ne := fun h tp dd its n sl hin e => (PySem.W.handS_kitx_exc (x := x) (ox := (⟨.none, none, .fields #[], #[]⟩ : Obj)) T.hg T.hk T.hs T.hd T.ha T.hn T.ht T.hm).ne h tp dd its n sl hin e
  ca := fun hin ⟨_, _, I⟩ q => clsOf_exc T hin I q
end
end PySem.W

namespace DL
open PySem L2
/-- isinstance(n, c) in the suite, n's exception with a record or without -/
def rIsF (K : PySem.W.Frag) (D a : Addr) (d : Option Addr) : List V → Hp → VK → Prop := fun xs H Q => ∃ (c : V) (cv : Value) (b : Bool), xs = [.ref a, c] ∧ (∀ u, RelV c u → u = cv) ∧ PySem.W.kitOne K (.ref D) cv = some b ∧ (∀ dx, d = some dx → ∃ fs, H dx = some (.xd fs)) ∧ Q (.bl b) H
theorem call_isF {X : Cx} {a D : Addr} {d : Option Addr} {oe : Obj} {pn : List (Addr × Obj)} (C : ExcC X.K D) (hz : Zc (.ref D) d oe) (hf : ∃ vs, oe.data = .fields vs) : CallR (X.suite a ((a, oe) :: pn)) (.builtin "isinstance") (rIsF X.K D a d) := by
  intro pins s σ H xs us Q I r h
  obtain ⟨c, cv, b, rfl, hcv, e, hrec, q⟩ := h
  cases r with
  | cons r0 rr =>
    cases rr with
    | cons r1 rr =>
      cases rr
      cases r0
      have hc' := hcv _ r1
      subst hc'
      have hp := (I.pin (a, oe) (List.mem_append.mpr (.inl List.mem_cons_self))).1
      obtain ⟨vs, hv⟩ := hf
      have J : ∃ ox od, PySem.W.InstAt s.heap a ox D od := by
        cases d with
        | none =>
          obtain ⟨oc, od, oda, osl⟩ := oe
          obtain ⟨h1, h2⟩ := hz
          dsimp only at h1 h2 hv
          subst h1 h2 hv
          exact ⟨_, none, hp, rfl, rfl, trivial⟩
        | some dx =>
          obtain ⟨fs, hfs⟩ := hrec dx rfl
          have hx : ObjOk X.prog X.w H s.heap dx (.xd fs) := I.hok dx _ hfs
          obtain ⟨mA, hns, _⟩ := hx
          obtain ⟨od, ho, _⟩ := lookIn_ns hns
          exact ⟨oe, some od, hp, hz.1, by unfold PySem.W.notCls; rw [hv] <;> rfl, by rw [hz.2]; exact ho⟩
      exact PySem.W.kia_one (PySem.W.kitx_excF C) I.kIn J e (fun z => nomatch z) fun tk => ⟨.bl b, H, I.kept (t' := tk) fun _ _ z => z, rfl, q⟩
def fIsF (a dx : Addr) (e : Ex) (i : Nat) (ob : Option Bool) : DS → R D := fun s => match s.g[i]?, ob with
  | some (some d), some b => (match d, e.fs with
    | .ref x, [] => if x = a then .ok (.bl b) s else .bad
    | .exc x y _ _, _ :: _ => if x = a ∧ y = dx then .ok (.bl b) s else .bad
    | _, _ => .bad)
  | _, _ => .bad
theorem pd_isF {X : Cx} {W : WX} {a dx C0 : Addr} {d : Option Addr} {ex : Ex} {oe : Obj} {pn : List (Addr × Obj)} {i : Nat} {ob : Option Bool} {en cn : Expr} {cV : V} {cv : Value} {p pos : Pos} (C : ExcC X.K C0) (hz : Zc (.ref C0) d oe) (hf : ∃ vs, oe.data = .fields vs) (hn : ex.fs = [] → d = none) (hn2 : ex.fs ≠ [] → d = some dx)
    (he : PE (X.suite a ((a, oe) :: pn)) en (tVar i)) (hcl : PE (X.suite a ((a, oe) :: pn)) cn (tC cV)) (hcv : ∀ u, RelV cV u → u = cv) (hk : ∀ b, ob = some b → PySem.W.kitOne X.K (.ref C0) cv = some b) (hm : X.mg "isinstance" = none)
    (hv : bootBuiltins "isinstance" = some (.builtin "isinstance")) (hg : Gl (X.suite a ((a, oe) :: pn)) "isinstance" := by rfl)
    (hst : starEach [en, cn] X.env = [(false, eval en X.env), (false, eval cn X.env)] := by rfl) (hs2 : starEach [cn] X.env = [(false, eval cn X.env)] := by rfl) :
    PD (X.suite a ((a, oe) :: pn)) W (.Call (.Name "isinstance" p) [en, cn] [] pos) (fIsF a dx ex i ob) := by
  refine ⟨_, pe_callB (call_isF C hz hf) hg hm hv (pa_cons he (pa_cons hcl pa_nil (by show starEach [cn] X.env = _; rw [hs2]; rfl)) (by show starEach [en, cn] X.env = _ :: starEach [cn] X.env; rw [hst, hs2])) (he := by show starEach [en, cn] X.env = _ :: starEach [cn] X.env; rw [hst, hs2]) (hpl := by show (backTo pos (starEach [cn] X.env)).any (·.1) = false; rw [hs2]; rfl), fun ρ F s σ H Q rl h => ?_⟩
  unfold fIsF at h
  split at h
  · rename_i dd b e
    split at h
    · rename_i x qf
      split at h
      · rename_i hx
        subst hx
        obtain ⟨v, e1, r⟩ := rl.slo.at_ i _ e
        have r' : v = .ref x := r
        subst r'
        exact ⟨.ref x, e1, ⟨cV, cv, b, rfl, hcv, hk b rfl, fun y hy => (by rw [hn qf] at hy; cases hy), h ρ F H _ (Ext.refl ..) rl rfl⟩⟩
      · exact h.elim
    · rename_i x y ks ds p0 r0 qf
      split at h
      · rename_i hx
        obtain ⟨rfl, rfl⟩ := hx
        obtain ⟨v, e1, r⟩ := rl.slo.at_ i _ e
        obtain ⟨vs, rfl, e2, _⟩ := r
        refine ⟨.ref x, e1, ⟨cV, cv, b, rfl, hcv, hk b rfl, fun z hy => ?_, h ρ F H _ (Ext.refl ..) rl rfl⟩⟩
        rw [hn2 (by rw [qf]; simp)] at hy
        cases hy
        exact ⟨_, rl.mem.sub _ _ e2⟩
      · exact h.elim
    · exact h.elim
  · exact h.elim
/-! what a suite reads of its exception does not hang on where it stands -/
def xfV (e : Ex) (f : Str) : Option D := match e.fs with
  | [] => none
  | p :: r => (((p :: r).map (·.1)).zip ((p :: r).map (·.2))).lookup f
def isR (ob : Option Bool) (s : DS) : R D := match ob with
  | some b => .ok (.bl b) s
  | none => .bad
def xfR (o : Option D) (okc : Bool) (s : DS) : R D := match o with
  | some d => if okc = true then .ok d s else .bad
  | none => .bad
theorem isF_at (a dx : Addr) (e : Ex) (i : Nat) (ob : Option Bool) (g : List (Option D)) (m : List MO) (hl : i < g.length) : fIsF a dx e i ob ⟨g.set i (some (excD a dx e)), m⟩ = isR ob ⟨g.set i (some (excD a dx e)), m⟩ := by
  unfold fIsF isR
  rw [List.getElem?_set_self hl]
  obtain ⟨c, fs⟩ := e
  cases ob with
  | none => rfl
  | some b =>
    cases fs with
    | nil => simp [excD]
    | cons p r => simp [excD]
theorem xf_at (a dx : Addr) (e : Ex) (i : Nat) (f : Str) (okc : Bool) (g : List (Option D)) (m : List MO) (hl : i < g.length) : fXf a dx i f okc ⟨g.set i (some (excD a dx e)), m⟩ = xfR (xfV e f) okc ⟨g.set i (some (excD a dx e)), m⟩ := by
  unfold fXf xfR xfV
  simp only
  rw [List.getElem?_set_self hl]
  obtain ⟨c, fs⟩ := e
  cases fs with
  | nil => simp [excD]
  | cons p r =>
    simp only [excD, true_and]
    cases okc with
    | false => cases (((p :: r).map (·.1)).zip ((p :: r).map (·.2))).lookup f <;> simp
    | true => cases (((p :: r).map (·.1)).zip ((p :: r).map (·.2))).lookup f <;> simp
end DL

/-! sorted(set(xs)) of a list of ints; tuples compared; range as a value; further calls. -/
namespace DL
open PySem PySem.Spec PyProof.Rows L2
abbrev set0 (w : World) : Obj := { cls := .type "set", dict := none, data := .set #[] 0 (.fresh 0 0 (!w.params.followText "set-order")) }
section
variable {P : Program} {w : World} {A : Around} {E : Value → Shared → Prop} {z : Shared}
set_option maxRecDepth 100000 in
set_option maxHeartbeats 3200000 in
/-- set(l), l a list of ints -/
theorem call_set_lstI {l : Addr} {its : Array Value} (ns : List Int) {Q : Value → Shared → Prop} (hh : A.handled = none) (hl : z.heap.IsList l its) (hi : IntsAre its.toList ns) (hb : ns.length + 1 < scanBound)
    (fin : ∀ (h' : Heap) (tk c : Nat), SetR w h' z.heap.objs.size (fun j => decide (j ∈ ns)) c → c ≤ ns.length → (∀ b o, z.heap.get? b = some o → h'.get? b = some o) → Q (.ref z.heap.objs.size) { z with heap := h', toks := tk }) :
    wpAny (model P w) A (call (.type "set") [.ref l]) Q E z := by
  have hsz : its.size = ns.length := by
    have e := IntsAre.length hi
    rwa [Array.length_toList] at e
  obtain ⟨c1, tl1, hmro⟩ := F.called_set.mro
  have mk1 := F.called_set.made
  have sb1 := F.called_set.sub
  apply wpAny_call
  apply codeAny_of_tree
  show wpAny _ _ (callAny (.type "set") _) _ _ _
  apply wpAny_pure
  refine ⟨Code.quiet_builtin _ (by decide +kernel), ?_⟩
  apply codeAny_builtin F.entry_type_call
  rw [Around.under_plain (weight_type_call_type "set" [.ref l] []) rfl]
  have nt := F.called_set.notType
  have cc := F.called_set.canCreate
  have tc := F.typeCall_set_1 (.ref l)
  repeat (any_goals (first | assumption | wp_step))
  refine codeAny_mono (code_set_led1 (.ref l) (E := E) (Q₁ := fun ob y => ob = .ref z.heap.objs.size ∧ y = { z with heap := z.heap.push (set0 w) }) ⟨rfl, rfl⟩) fun r y hr => ?_
  cases r with
  | error e => exact hr
  | ok fl =>
    cases fl with
    | ret ob =>
      obtain ⟨rfl, rfl⟩ := hr
      have gS : (z.heap.push (set0 w)).get? z.heap.objs.size = some (set0 w) := Heap.get?_push_size _ rfl
      have tS : Shared.TypeIs { z with heap := z.heap.push (set0 w) } (.ref z.heap.objs.size) "set" := ⟨_, gS, rfl⟩
      have li := F.called_set.init.lookup
      have bi := F.called_set.init.bind (.ref z.heap.objs.size)
      repeat (any_goals (first | assumption | wp_step))
      refine codeAny_mono (codeAny_call_builtin (R := wants (fun r y => r = .none ∧ ∃ h' tk c, y = { z with heap := h', toks := tk } ∧ SetR w h' z.heap.objs.size (fun j => decide (j ∈ ns)) c ∧ c ≤ ns.length ∧ (∀ b o, z.heap.get? b = some o → h'.get? b = some o)) E) F.called_set.init.plain F.entry_set_init (check_set_init_1 tS ?_)) fun r2 y2 hr2 => ?_
      · obtain ⟨ol, hol, hcl, nl, hdl⟩ := hl
        obtain ⟨oc, od, oda, osl⟩ := ol
        simp only at hcl hdl
        subst hcl; subst hdl
        have gl : (z.heap.push (set0 w)).get? l = some { cls := .type "list", dict := od, data := .seq its nl, slots := osl } := Heap.get?_push_of_some _ hol
        have s1 := F.sub_list_set
        have s2 := F.sub_list_frozenset
        have nd : (Value.type "list" == Value.type "dict") = false := by decide
        have isl : (z.heap.push (set0 w)).IsList l its := ⟨_, gl, rfl, nl, rfl⟩
        unfold Builtin.«set.__init__» noKeywords Builtin.Frozenset.updateFrom
        generalize hPI : pyIter = PI
        wp_walk
        subst hPI
        apply wpAny_pyIter_list isl
        apply wpAny_bind
        apply wpAny_runValue
        have lS : l < z.heap.objs.size := Heap.lt_size hol
        have h3 : A.in1.in1.in1.handled = none := by simp [hh]
        have nI : l ≠ (z.heap.push (set0 w)).objs.size := by
          rw [Heap.size_push]
          exact Nat.ne_of_lt (Nat.lt_succ_of_lt lS)
        have nS : z.heap.objs.size ∉ [(z.heap.push (set0 w)).objs.size, l] := by
          rw [Heap.size_push]
          simp only [List.mem_cons, List.not_mem_nil, or_false, not_or]
          exact And.intro (Nat.ne_of_lt (Nat.lt_succ_self _)) (Nat.ne_of_gt lS)
        have val : ∀ (i : Nat) (v : Value), its[i]? = some v → ∃ k t, ns[i]? = some k ∧ v = .int k t := fun i v hv => by
          have hlt : i < ns.length := by rw [← hsz]; exact (Array.getElem?_eq_some_iff.mp hv).1
          obtain ⟨t, e⟩ := IntsAre.int_at hi i v (by rw [Array.getElem?_toList]; exact hv)
          exact ⟨ns[i], t, List.getElem?_eq_getElem hlt, by rw [e, List.getD_eq_getElem?_getD, List.getElem?_eq_getElem hlt] <;> rfl⟩
        refine set_update_ints ((Walks.list h3 _ l nI its).toS) z.heap.objs.size nS ns hsz hb val (its.size - 0) 0 _ (by omega) (Nat.zero_le _) ⟨⟨_, Heap.get?_push_size _ rfl, rfl, rfl⟩, (isl.push _)⟩ ?hS0 ?hR
        case hS0 =>
          have g2 : ((z.heap.push (set0 w)).push { cls := .type "list_iterator", data := .fields #[.ref l, .int 0 0] }).get? z.heap.objs.size = some (set0 w) := Heap.get?_push_of_some _ gS
          exact ⟨0, Nat.le_refl 0, setR_new_at g2⟩
        case hR =>
          intro y c' hm hc' hS'
          obtain ⟨h', g2, d2, t2, os2⟩ := y
          have eg : g2 = z.gens := hm.gens
          have ed : d2 = z.drawn := hm.drawn
          have eo : os2 = z.os := hm.os
          subst eg; subst ed; subst eo
          show wpAny _ _ _ _ _ _
          apply wpAny_pure
          show wpAny _ _ (ret Value.none) _ _ _
          rw [hsz] at hc'
          refine wpAny_pure ⟨rfl, h', t2, c', rfl, hS', hc', fun b o e => ?_⟩
          have b0 : b < z.heap.objs.size := Heap.lt_size e
          refine hm.heap b o ?_ (Heap.get?_push_of_some _ (Heap.get?_push_of_some _ e))
          simp only [List.mem_cons, List.not_mem_nil, or_false, not_or]
          rw [Heap.size_push]
          exact And.intro (Nat.ne_of_lt b0) (Nat.ne_of_lt (Nat.lt_succ_of_lt b0))
      · cases r2 with
        | error e => exact hr2
        | ok fl2 =>
          cases fl2 with
          | ret r =>
            obtain ⟨rfl, h', tk, c', rfl, k1, k2, k3⟩ := hr2
            repeat (any_goals (first | assumption | wp_step))
            exact fin _ _ _ k1 k2 k3
          | _ => exact hr2.elim
    | _ => exact hr.elim
end
/-- sorted(set(xs)), xs a list of ints, fewer than 64 -/
def tSortedSet (K : PySem.W.Frag) (ta : TE) : TE := fun σ H Q => ta σ H fun x H1 => ∃ (l : Addr) (ns : List Int), x = .ref l ∧ SqL K H1 l (ns.map V.int) ∧ ns.length < 64 ∧ ∀ (ms : List Int) (p : Addr), ms.Pairwise (· < ·) → (∀ k, k ∈ ms ↔ k ∈ ns) → H1 p = none → Q (.ref p) (upd H1 p (.lst (ms.map V.int)))
section
variable {X : Cx} {W : WX} {a : Expr} {ta : TE} {p p2 q pos : Pos}
theorem pe_sortedSet (hg : Gl X "sorted") (hm : X.mg "sorted" = none) (hg2 : Gl X "set") (hm2 : X.mg "set" = none) (ha : PE X a ta) (hc : X.calm = true)
    (hs : starEach [a] X.env = (false, eval a X.env) :: starEach [] X.env := by rfl) : PE X (.Call (.Name "sorted" p) [.Call (.Name "set" p2) [a] [] q] [] pos) (tSortedSet X.K ta) := by
  refine ⟨fun pins s σ H Q I h => ?_⟩
  refine Call_ (ld_blt I hg hm PyProof.Rows.boot_sorted ?_)
  refine PyProof.Rows.callWith_builtin1 (PyProof.Rows.args_cons ?_ rfl) rfl rfl
  refine Call_ (ld_blt I hg2 hm2 PyProof.Rows.boot_set ?_)
  refine PyProof.Rows.callWith_type1 (PyProof.Rows.args_cons (L2.thn (ha.run pins s σ H _ I h) fun v s1 ⟨x, H1, I1, r1, q1⟩ => PyProof.Rows.args_nil ?_) hs) hs rfl
  obtain ⟨l, ns, rfl, hq, hl, q1⟩ := q1
  cases r1
  obtain ⟨its, r, pl, hz⟩ := I1.list hq
  refine call_set_lstI ns (I1.ok.hd hc) pl.isList (by simpa using ints_of_vals r) (by unfold scanBound; omega) fun h' tk c hS hcn k => ?_
  refine PyProof.Rows.args_nil ?_
  have I2 : Inv X pins σ H1 { s1 with heap := h', toks := tk } := I1.kept fun b o e => k b o e
  generalize hs2 : ({ s1 with heap := h', toks := tk } : Shared) = s2 at I2 ⊢
  have hS' : SetR X.w s2.heap s1.heap.objs.size (fun j => decide (j ∈ ns)) c := by rw [← hs2]; exact hS
  clear hS
  refine sorted_set hS' (I2.ok.hd hc) (by omega) fun s' p out c ms k2 g o hp hgp his hs3 hm3 hl2 => ?_
  have hsub : ms.length ≤ ns.length := by
    have nd : ms.Nodup := hs3.imp fun h => by omega
    have := nd.length_le_of_subset (l₂ := ns) fun y hy => by simpa using (hm3 y).mp hy
    exact this
  have hlen : (ms.map V.int).length ≤ sizeLine := by rw [List.length_map, sizeLine_eq]; omega
  have hp' : H1 p = none := I2.hok.fresh hp
  have J : Inv X pins σ (upd H1 p (.lst (ms.map V.int))) { s2 with heap := s'.heap, gens := s'.gens, drawn := s'.drawn, toks := s'.toks } :=
    I2.call (ch := []) (Un.laid k2 hp hp') (I2.hok.laid k2 hp ⟨hlen, out.toList, c, vals_of_ints his, hgp⟩) (by rw [g]; exact I2.bare) (fun _ z => nomatch z)
  have e : s' = { s2 with heap := s'.heap, gens := s'.gens, drawn := s'.drawn, toks := s'.toks } := by
    cases s'; cases s2; cases o; rfl
  rw [e]
  exact ⟨.ref p, _, J, rfl, q1 ms p hs3 (fun k => by rw [hm3 k]; simp) hp'⟩
end
end DL

/-! Data compared; sorted(set(..)); in range(..); list.insert, list.pop; max, min. -/
namespace DL
open PySem L2
section
variable {X : Cx} {W : WX} {a b e : Expr} {p p2 q pos : Pos} {fa fb : DS → R D} {K : PySem.W.Frag}
/-! ### < of alike data -/
def rCmpD (K : PySem.W.Frag) (f : PyData → PyData → Bool) : R2 := fun x y H Q => ∃ d e, Dp K H x d ∧ Dp K H y e ∧ PySem.W.alike d e = true ∧ d ≠ .none ∧ d.depth ≤ 64 ∧ Q (.bl (f d e)) H
theorem op_ltD (hu : X.A.units + 64 < cLine) : OpR X (compareOp .Lt) (rCmpD X.K fun d e => PySem.W.dataLt d e) := by
  intro pins s σ H x y v u Q I rx ry h
  obtain ⟨d, e, hd, he, ha, hn, hz, q⟩ := h
  obtain ⟨as, r1⟩ := Dp.reads I d x v hd rx
  obtain ⟨bs, r2⟩ := Dp.reads I e y u he ry
  exact PySem.W.lt_data r1 r2 ha hn (by omega) ⟨.bl _, H, I, rfl, q⟩
theorem op_gtD (hu : X.A.units + 64 < cLine) : OpR X (compareOp .Gt) (rCmpD X.K fun d e => PySem.W.dataLt e d) := by
  intro pins s σ H x y v u Q I rx ry h
  obtain ⟨d, e, hd, he, ha, hn, hz, q⟩ := h
  obtain ⟨as, r1⟩ := Dp.reads I d x v hd rx
  obtain ⟨bs, r2⟩ := Dp.reads I e y u he ry
  exact PySem.W.gt_data r1 r2 ha hn (by omega) ⟨.bl _, H, I, rfl, q⟩
theorem op_leD (hu : X.A.units + 64 < cLine) : OpR X (compareOp .LtE) (rCmpD X.K fun d e => !PySem.W.dataLt e d) := by
  intro pins s σ H x y v u Q I rx ry h
  obtain ⟨d, e, hd, he, ha, hn, hz, q⟩ := h
  obtain ⟨as, r1⟩ := Dp.reads I d x v hd rx
  obtain ⟨bs, r2⟩ := Dp.reads I e y u he ry
  exact PySem.W.le_data r1 r2 ha hn (by omega) ⟨.bl _, H, I, rfl, q⟩
theorem op_geD (hu : X.A.units + 64 < cLine) : OpR X (compareOp .GtE) (rCmpD X.K fun d e => !PySem.W.dataLt d e) := by
  intro pins s σ H x y v u Q I rx ry h
  obtain ⟨d, e, hd, he, ha, hn, hz, q⟩ := h
  obtain ⟨as, r1⟩ := Dp.reads I d x v hd rx
  obtain ⟨bs, r2⟩ := Dp.reads I e y u he ry
  exact PySem.W.ge_data r1 r2 ha hn (by omega) ⟨.bl _, H, I, rfl, q⟩
def ltDD (x y : D) : Bool := PySem.W.dataLt (toP x) (toP y)
def isNonP : PyData → Bool
  | .none => true
  | _ => false
def gCmpD (f : D → D → Bool) : D → D → DS → R D := fun x y s => if okD 64 x = true ∧ okD 64 y = true ∧ PySem.W.alike (toP x) (toP y) = true ∧ isNonP (toP x) = false then .ok (.bl (f x y)) s else .bad
theorem vw_self {n : Nat} {d : D} {s : DS} (h : okD n d = true) : vw s d = d := vw_ok h
theorem opd_cmpD {f : PyData → PyData → Bool} : OpD X W (rCmpD X.K f) (gCmpD fun x y => f (toP x) (toP y)) := by
  intro ρ F s σ H x y v u Q rl r1 r2 h
  unfold gCmpD at h
  split at h
  · rename_i hc
    obtain ⟨h1, h2, h3, h4⟩ := hc
    refine ⟨toP x, toP y, Rd.dp rl.mem.sub 64 x v h1 r1, Rd.dp rl.mem.sub 64 y u h2 r2, h3, (fun z => by rw [z] at h4; cases h4), (okD_lay 64 x h1).2, h ρ F H _ (Ext.refl ..) rl rfl⟩
  · exact h.elim
/-! ### sorted(set(xs)) -/
def insU (x : Int) : List Int → List Int
  | [] => [x]
  | y :: l => if x < y then x :: y :: l else if x = y then y :: l else y :: insU x l
def sortU : List Int → List Int
  | [] => []
  | x :: l => insU x (sortU l)
theorem insU_mem (x k : Int) : ∀ l : List Int, k ∈ insU x l ↔ k = x ∨ k ∈ l
  | [] => by simp [insU]
  | y :: l => by
    unfold insU
    split
    · simp
    · split
      · rename_i h
        subst h
        simp
      · simp only [List.mem_cons, insU_mem x k l]
        constructor
        · rintro (h | h | h)
          · exact .inr (.inl h)
          · exact .inl h
          · exact .inr (.inr h)
        · rintro (h | h | h)
          · exact .inr (.inl h)
          · exact .inl h
          · exact .inr (.inr h)
theorem insU_lt (x : Int) : ∀ l : List Int, l.Pairwise (· < ·) → (insU x l).Pairwise (· < ·)
  | [], _ => by simp [insU]
  | y :: l, h => by
    unfold insU
    have h1 := List.pairwise_cons.mp h
    split
    · rename_i hx
      exact List.pairwise_cons.mpr ⟨fun z hz => by
        rcases List.mem_cons.mp hz with rfl | hz
        · exact hx
        · have := h1.1 z hz; omega, h⟩
    · split
      · exact h
      · exact List.pairwise_cons.mpr ⟨fun z hz => by
          rcases (insU_mem x z l).mp hz with rfl | hz
          · omega
          · exact h1.1 z hz, insU_lt x l h1.2⟩
theorem sortU_lt : ∀ l : List Int, (sortU l).Pairwise (· < ·)
  | [] => List.Pairwise.nil
  | x :: l => insU_lt x _ (sortU_lt l)
theorem sortU_mem (k : Int) : ∀ l : List Int, k ∈ sortU l ↔ k ∈ l
  | [] => by simp [sortU]
  | x :: l => by
    unfold sortU
    rw [insU_mem, sortU_mem k l]
    simp
theorem lt_unique : ∀ a b : List Int, a.Pairwise (· < ·) → b.Pairwise (· < ·) → (∀ k, k ∈ a ↔ k ∈ b) → a = b
  | [], [], _, _, _ => rfl
  | [], y :: b, _, _, h => by simpa using (h y).mpr (by simp)
  | x :: a, [], _, _, h => by simpa using (h x).mp (by simp)
  | x :: a, y :: b, ha, hb, h => by
    have a1 := List.pairwise_cons.mp ha
    have b1 := List.pairwise_cons.mp hb
    have e : x = y := by
      rcases List.mem_cons.mp ((h x).mp (by simp)) with z | z
      · exact z
      · have z1 := b1.1 x z
        rcases List.mem_cons.mp ((h y).mpr (by simp)) with z2 | z2
        · exact z2.symm
        · have z3 := a1.1 y z2
          omega
    subst e
    congr 1
    refine lt_unique a b a1.2 b1.2 fun k => ⟨fun hk => ?_, fun hk => ?_⟩
    · rcases List.mem_cons.mp ((h k).mp (by simp [hk])) with z | z
      · have := a1.1 k hk; omega
      · exact z
    · rcases List.mem_cons.mp ((h k).mpr (by simp [hk])) with z | z
      · have := b1.1 k hk; omega
      · exact z
def fSortedSet (fa : DS → R D) : DS → R D := fun s => (fa s).bind fun d s1 => match lstV s1 d with
  | some ds => (match intsD ds with
    | some ns => if ns.length < 64 then .ok (.lst ((sortU ns).map .int)) s1 else .bad
    | none => .bad)
  | none => .bad
theorem ints_rd {ρ : List Addr} {F : Hp} : ∀ {ns : List Int} {vs : List V}, RdL K ρ F (ns.map .int) vs → vs = ns.map V.int
  | [], _, h => h
  | n :: ns, _, h => by
    simp only [List.map_cons, RdL] at h
    obtain ⟨v, r, rfl, h1, h2⟩ := h
    cases h1
    rw [ints_rd h2]
    rfl
theorem pd_sortedSet (hg : Gl X "sorted") (hm : X.mg "sorted" = none) (hg2 : Gl X "set") (hm2 : X.mg "set" = none) (ha : PD X W a fa) (hc : X.calm = true)
    (hs : starEach [a] X.env = (false, eval a X.env) :: starEach [] X.env := by rfl) : PD X W (.Call (.Name "sorted" p) [.Call (.Name "set" p2) [a] [] q] [] pos) (fSortedSet fa) := by
  obtain ⟨t, ea, l⟩ := ha
  refine ⟨_, pe_sortedSet hg hm hg2 hm2 ea hc hs, fun ρ F s σ H Q rl h => l ρ F s σ H _ rl (Post.bind h fun d s1 ρ1 F1 H1 v x1 rl1 rd1 h1 => ?_)⟩
  split at h1
  · rename_i ds q1
    split at h1
    · rename_i ns q2
      split at h1
      · rename_i hl
        obtain ⟨x, vs, rfl, hv, rv⟩ := lstV_rd rl1.mem rd1 q1
        have e := ints_eq q2
        subst e
        have e2 := ints_rd rv
        subst e2
        refine ⟨x, ns, rfl, .inl (.inl hv), hl, fun ms z h2 h3 hz => ?_⟩
        have em : ms = sortU ns := lt_unique ms _ h2 (sortU_lt ns) fun k => by rw [h3 k, sortU_mem]
        subst em
        exact Post.lst h1 rl1 (rdl_ints _) z hz
      · exact h1.elim
    · exact h1.elim
  · exact h1.elim
/-! ### i in range(..) -/
theorem op_notin_rng : OpR X (compareOp .NotIn) (fun x y H Q => ∃ i a lo hi, x = V.int i ∧ y = V.ref a ∧ H a = some (.rng lo hi) ∧ Q (.bl (!decide (lo ≤ i ∧ i < hi))) H) := by
  intro pins s σ H x y v u Q I rx ry h
  obtain ⟨i, a, lo, hi, rfl, rfl, ha, q⟩ := h
  obtain ⟨k, rfl⟩ := rx
  obtain rfl : u = Value.ref a := ry
  obtain ⟨t1, t2, t3, ho⟩ := I.hok a _ ha
  show wpAny _ _ (do return Value.bool (!(← contains (Value.ref a) (Value.int i k)))) _ _ s
  refine wpAny_bind (PySem.wpAny_contains_slot (T := "range") ⟨_, ho, rfl⟩ PySem.F.slot_range_contains (call_meets PySem.F.slot_range_contains ⟨_, ho, rfl⟩ PySem.F.entry_range_contains (PySem.F.args_range_contains_2 _ _) (q_contains a lo hi i t1 t2 t3 k) ⟨ho, wpAny_truthy_bool (wpAny_pure ⟨.bl _, H, I, rfl, ?_⟩)⟩))
  rw [place1]
  exact q
/-- range(j), a value -/
theorem cr_range1 : CallR X (.type "range") (fun vs H Q => ∃ j, vs = [V.int j] ∧ ∀ p, H p = none → Q (.ref p) (upd H p (.rng 0 j))) := by
  intro pins s σ H vs us Q I r h
  obtain ⟨j, rfl, q⟩ := h
  obtain ⟨u, rfl, rj⟩ := Vals.one r
  obtain ⟨t, rfl⟩ := rj
  refine call_range_1 ⟨.ref s.heap.objs.size, upd H s.heap.objs.size (.rng 0 j), I.laid (t' := s.toks + 1 + 1) (fun b o e => Heap.get?_push_of_some _ e) (Nat.le_refl _) ?_, rfl, q _ (I.hok.fresh (Nat.le_refl _))⟩
  exact ⟨s.toks, t, s.toks + 1, Heap.get?_push_size _ rfl⟩
/-- i in range(lo, hi) -/
noncomputable def fInRng (neg : Bool) (fa : DS → R D) (fb : DS → R (List D)) : DS → R D := fun s => (fa s).bind fun x s1 => (fb s1).bind fun ds s2 => match x, ds with
  | .int i, [.int hi] => .ok (.bl (if neg = true then !dcd (0 ≤ i ∧ i < hi) else dcd (0 ≤ i ∧ i < hi))) s2
  | .int i, [.int lo, .int hi] => .ok (.bl (if neg = true then !dcd (lo ≤ i ∧ i < hi) else dcd (lo ≤ i ∧ i < hi))) s2
  | _, _ => .bad
theorem MRel.waste {mg : Str → Option Value} {ρ : List Addr} {F H : Hp} {μ : List MO} {z : Addr} {o : HO} (m : MRel K mg ρ F μ H) (hz : H z = none) : MRel K mg ρ F μ (upd H z o) ∧ Ext ρ F H ρ F (upd H z o) :=
  ⟨m.other (m.notin hz) (m.sub.free hz), (Ext.refl ρ F H).bump hz⟩
theorem dec_dcd {c : Prop} [Decidable c] : decide c = dcd c := dcd_eq c
variable {fl : DS → R (List D)} {rest : List Expr}
theorem rng_run {ta : TE} {tb : TA} {neg : Bool} (la : Stl X W (Rd X.K) ta fa) (lb : Stl X W (RdL X.K) tb fl) {rr : List V → Hp → VK → Prop}
    (hr1 : ∀ (j : Int) (H : Hp) (Q : VK), (∀ z, H z = none → Q (.ref z) (upd H z (.rng 0 j))) → rr [.int j] H Q) (hr2 : ∀ (i j : Int) (H : Hp) (Q : VK), (∀ z, H z = none → Q (.ref z) (upd H z (.rng i j))) → rr [.int i, .int j] H Q) {ro : R2}
    (ho : ∀ (i lo hi : Int) (z : Addr) (H : Hp) (Q : VK), H z = some (.rng lo hi) → Q (.bl (if neg = true then !decide (lo ≤ i ∧ i < hi) else decide (lo ≤ i ∧ i < hi))) H → ro (.int i) (.ref z) H Q) :
    Stl X W (Rd X.K) (tOp ro ta (tCB rr tb)) (fInRng neg fa fl) := by
  intro ρ F s σ H Q rl h
  refine la ρ F s σ H _ rl (Post.bind h fun x s1 ρ1 F1 H1 v x1 rl1 rd1 h1 => ?_)
  refine lb ρ1 F1 s1 σ H1 _ rl1 (Post.bind h1 fun ds s2 ρ2 F2 H2 vs x2 rl2 rd2 h2 => ?_)
  split at h2
  · rename_i i hi
    obtain ⟨u, rfl, r1⟩ := rdl1 rd2
    cases r1
    cases (rd1 : v = .int i)
    refine hr1 hi H2 _ fun z hz => ho i 0 hi z _ _ upd_same ?_
    obtain ⟨m, x⟩ := MRel.waste (o := .rng 0 hi) rl2.mem hz
    refine h2 _ _ _ _ x ⟨m, rl2.slo⟩ ?_
    simp only [dec_dcd]
    rfl
  · rename_i i lo hi
    obtain ⟨u, w, rfl, r1, r2⟩ := rdl2 rd2
    cases r1
    cases r2
    cases (rd1 : v = .int i)
    refine hr2 lo hi H2 _ fun z hz => ho i lo hi z _ _ upd_same ?_
    obtain ⟨m, x⟩ := MRel.waste (o := .rng lo hi) rl2.mem hz
    refine h2 _ _ _ _ x ⟨m, rl2.slo⟩ ?_
    simp only [dec_dcd]
    rfl
  · exact h2.elim
theorem cr_rangeA : CallR X (.type "range") (fun vs H Q => (∃ j, vs = [V.int j] ∧ ∀ p, H p = none → Q (.ref p) (upd H p (.rng 0 j))) ∨ ∃ i j, vs = [V.int i, V.int j] ∧ ∀ p, H p = none → Q (.ref p) (upd H p (.rng i j))) := by
  intro pins s σ H vs us Q I r h
  rcases h with h | h
  · exact cr_range1 pins s σ H vs us Q I r h
  · exact cr_range2 pins s σ H vs us Q I r h
theorem pd_inRng (hg : Gl X "range") (hm : X.mg "range" = none) (ha : PD X W a fa) (hb : PDA X W (e :: rest) fl) (hbm : behindInMarks .In (.Call (.Name "range" p) (e :: rest) [] q) = false := by rfl)
    (he : starEach (e :: rest) X.env = (false, eval e X.env) :: starEach rest X.env := by rfl) (hpl : (backTo q (starEach rest X.env)).any (·.1) = false := by rfl) : PD X W (.Compare a [.In] [.Call (.Name "range" p) (e :: rest) [] q] pos) (fInRng false fa fl) := by
  obtain ⟨ta, ea, la⟩ := ha
  obtain ⟨tb, eb, lb⟩ := hb
  exact ⟨_, pe_cmpR op_in_rng ea (pe_callTy cr_rangeA hg hm (by decide +kernel) eb (by decide) (by decide) he hpl) hbm, rng_run la lb (fun j H Q h => .inl ⟨j, rfl, h⟩) (fun i j H Q h => .inr ⟨i, j, rfl, h⟩) fun i lo hi z H Q h q => ⟨i, z, lo, hi, rfl, rfl, h, q⟩⟩
theorem pd_notinRng (hg : Gl X "range") (hm : X.mg "range" = none) (ha : PD X W a fa) (hb : PDA X W (e :: rest) fl) (hbm : behindInMarks .NotIn (.Call (.Name "range" p) (e :: rest) [] q) = false := by rfl)
    (he : starEach (e :: rest) X.env = (false, eval e X.env) :: starEach rest X.env := by rfl) (hpl : (backTo q (starEach rest X.env)).any (·.1) = false := by rfl) : PD X W (.Compare a [.NotIn] [.Call (.Name "range" p) (e :: rest) [] q] pos) (fInRng true fa fl) := by
  obtain ⟨ta, ea, la⟩ := ha
  obtain ⟨tb, eb, lb⟩ := hb
  exact ⟨_, pe_cmpR op_notin_rng ea (pe_callTy cr_rangeA hg hm (by decide +kernel) eb (by decide) (by decide) he hpl) hbm, rng_run la lb (fun j H Q h => .inl ⟨j, rfl, h⟩) (fun i j H Q h => .inr ⟨i, j, rfl, h⟩) fun i lo hi z H Q h q => ⟨i, z, lo, hi, rfl, rfl, h, q⟩⟩
theorem pdt_inRng (hg : Gl X "range") (hm : X.mg "range" = none) (ha : PD X W a fa) (hb : PDA X W (e :: rest) fl) (hbm : behindInMarks .In (.Call (.Name "range" p) (e :: rest) [] q) = false := by rfl)
    (he : starEach (e :: rest) X.env = (false, eval e X.env) :: starEach rest X.env := by rfl) (hpl : (backTo q (starEach rest X.env)).any (·.1) = false := by rfl) : PDT X W (.Compare a [.In] [.Call (.Name "range" p) (e :: rest) [] q] pos) (fTst (fInRng false fa fl)) := by
  obtain ⟨ta, ea, la⟩ := ha
  obtain ⟨tb, eb, lb⟩ := hb
  exact ⟨_, pt_cmpR op_in_rng ea (pe_callTy cr_rangeA hg hm (by decide +kernel) eb (by decide) (by decide) he hpl) hbm, fun ρ F s σ H Q rl h => rng_run (neg := false) (ro := fun x y H Q => ∃ i a lo hi, x = V.int i ∧ y = V.ref a ∧ H a = some (.rng lo hi) ∧ Q (.bl (decide (lo ≤ i ∧ i < hi))) H) la lb (fun j H Q h => .inl ⟨j, rfl, h⟩) (fun i j H Q h => .inr ⟨i, j, rfl, h⟩) (fun i lo hi z H Q h q => ⟨i, z, lo, hi, rfl, rfl, h, q⟩) ρ F s σ H _ rl h.asB⟩
theorem pdt_notinRng (hg : Gl X "range") (hm : X.mg "range" = none) (ha : PD X W a fa) (hb : PDA X W (e :: rest) fl) (hbm : behindInMarks .NotIn (.Call (.Name "range" p) (e :: rest) [] q) = false := by rfl)
    (he : starEach (e :: rest) X.env = (false, eval e X.env) :: starEach rest X.env := by rfl) (hpl : (backTo q (starEach rest X.env)).any (·.1) = false := by rfl) : PDT X W (.Compare a [.NotIn] [.Call (.Name "range" p) (e :: rest) [] q] pos) (fTst (fInRng true fa fl)) := by
  obtain ⟨ta, ea, la⟩ := ha
  obtain ⟨tb, eb, lb⟩ := hb
  exact ⟨_, pt_cmpR op_notin_rng ea (pe_callTy cr_rangeA hg hm (by decide +kernel) eb (by decide) (by decide) he hpl) hbm, fun ρ F s σ H Q rl h => rng_run (neg := true) (ro := fun x y H Q => ∃ i a lo hi, x = V.int i ∧ y = V.ref a ∧ H a = some (.rng lo hi) ∧ Q (.bl (!decide (lo ≤ i ∧ i < hi))) H) la lb (fun j H Q h => .inl ⟨j, rfl, h⟩) (fun i j H Q h => .inr ⟨i, j, rfl, h⟩) (fun i lo hi z H Q h q => ⟨i, z, lo, hi, rfl, rfl, h, q⟩) ρ F s σ H _ rl h.asB⟩
/-! ### list.insert, list.pop(i) -/
noncomputable def gInsert : D → List D → DS → R D := fun o as s => match o, as with
  | .obj k, [.int i, y] => (match objL s k with
    | some ds => if Pr (ds.length < sizeLine ∧ 0 ≤ i ∧ i < 2 ^ 63) then .ok .non { s with m := s.m.set k (.lst (ds.take i.toNat ++ [y] ++ ds.drop i.toNat)) } else .bad
    | none => .bad)
  | _, _ => .bad
theorem md_insert : MtD X W (fun x vs H Q => ∃ (l : Addr) (xs : List V) (i : Int) (y : V), x = .ref l ∧ vs = [.int i, y] ∧ H l = some (.lst xs) ∧ xs.length < sizeLine ∧ 0 ≤ i ∧ i < 2 ^ 63 ∧ Q .non (upd H l (.lst (xs.take i.toNat ++ [y] ++ xs.drop i.toNat)))) gInsert := by
  intro ρ F s σ H x d vs ds Q rl r1 r2 h
  unfold gInsert at h
  split at h
  · rename_i k i y
    obtain ⟨u, v, rfl, r3, r4⟩ := rdl2 r2
    cases r3
    split at h
    · rename_i es e
      split at h
      · rename_i hc
        obtain ⟨h1, h2, h3⟩ := hc
        obtain ⟨a, rfl, ha, fa, us, hl, l⟩ := Rel.objAt rl.mem r1 (objL_eq e) trivial
        refine ⟨a, us, i, v, rfl, rfl, hl, by rw [l.length]; exact h1, h2, h3, ?_⟩
        obtain ⟨m, x⟩ := rl.mem.set (n := .lst (es.take i.toNat ++ [y] ++ es.drop i.toNat)) (o := .lst (us.take i.toNat ++ [v] ++ us.drop i.toNat)) ha (objL_eq e) trivial ⟨_, upd_same, ((l.take _).append (RdL.one r4)).append (l.drop _)⟩
        exact h _ _ _ _ x ⟨m, rl.slo.ext x⟩ rfl
      · exact h.elim
    · exact h.elim
  · exact h.elim
theorem RdL.erase {ρ : List Addr} {F : Hp} : ∀ {ds : List D} {vs : List V} (n : Nat), RdL K ρ F ds vs → RdL K ρ F (ds.eraseIdx n) (vs.eraseIdx n)
  | [], _, n, h => by
    simp only [RdL] at h
    subst h
    simp [RdL]
  | d :: ds, _, n, h => by
    simp only [RdL] at h
    obtain ⟨v, t, rfl, h1, h2⟩ := h
    cases n with
    | zero => exact h2
    | succ n => exact ⟨v, _, rfl, h1, RdL.erase n h2⟩
noncomputable def gPopAt : D → List D → DS → R D := fun o as s => match o, as with
  | .obj k, [.int i] => (match objL s k with
    | some ds => (match ixN ds.length i with
      | some n => (match ds[n]? with
        | some y => if Pr (ds.length ≤ sizeLine) then .ok y { s with m := s.m.set k (.lst (ds.eraseIdx n)) } else .bad
        | none => .bad)
      | none => .bad)
    | none => .bad)
  | _, _ => .bad
theorem md_popAt : MtD X W rPopAt gPopAt := by
  intro ρ F s σ H x d vs ds Q rl r1 r2 h
  unfold gPopAt at h
  split at h
  · rename_i k i
    obtain ⟨u, rfl, r3⟩ := rdl1 r2
    cases r3
    split at h
    · rename_i es e
      split at h
      · rename_i n hn
        split at h
        · rename_i y hy
          split at h
          · rename_i hc
            have hc' : es.length ≤ sizeLine := hc
            rw [sizeLine_eq] at hc'
            obtain ⟨a, rfl, ha, fa, us, hl, l⟩ := Rel.objAt rl.mem r1 (objL_eq e) trivial
            obtain ⟨v, hv, rv⟩ := l.get hy
            obtain ⟨q1, q2, q3, q4⟩ := ixN_seq hn
            refine ⟨a, us, i, n, v, rfl, rfl, hl, by omega, by omega, by rw [l.length]; exact q1, hv, ?_⟩
            obtain ⟨m, x⟩ := rl.mem.set (n := .lst (es.eraseIdx n)) (o := .lst (us.eraseIdx n)) ha (objL_eq e) trivial ⟨_, upd_same, RdL.erase n l⟩
            exact h _ _ _ _ x ⟨m, rl.slo.ext x⟩ (rv.ext x)
          · exact h.elim
        · exact h.elim
      · exact h.elim
    · exact h.elim
  · exact h.elim
/-! ### max, min -/
noncomputable def gMax : List D → DS → R D := fun ds s => match ds with
  | [.int i, .int j] => .ok (.int (if Pr (i < j) then j else i)) s
  | [d] => (match lsV s d with
    | some xs => (match intsD xs with
      | some (n :: ns) => .ok (.int (ns.foldl max n)) s
      | _ => .bad)
    | none => .bad)
  | _ => .bad
noncomputable def gMin : List D → DS → R D := fun ds s => match ds with
  | [.int i, .int j] => .ok (.int (if Pr (j < i) then j else i)) s
  | [d] => (match lsV s d with
    | some xs => (match intsD xs with
      | some (n :: ns) => .ok (.int (ns.foldl min n)) s
      | _ => .bad)
    | none => .bad)
  | _ => .bad
theorem foldl_max (m : Int) : ∀ (ns : List Int) (n : Int), m ∈ n :: ns → (∀ y ∈ n :: ns, y ≤ m) → ns.foldl max n = m
  | [], n, h, _ => by
    have e : m = n := by simpa using h
    exact e.symm
  | x :: ns, n, h, h2 => by
    have h1 := h2 n (by simp)
    have h3 := h2 x (by simp)
    refine foldl_max m ns (max n x) ?_ fun y hy => ?_
    · rcases List.mem_cons.mp h with rfl | h
      · exact List.mem_cons.mpr (.inl (by omega))
      · rcases List.mem_cons.mp h with rfl | h
        · exact List.mem_cons.mpr (.inl (by omega))
        · exact List.mem_cons.mpr (.inr h)
    · rcases List.mem_cons.mp hy with rfl | hy
      · omega
      · exact h2 y (by simp [hy])
theorem foldl_min (m : Int) : ∀ (ns : List Int) (n : Int), m ∈ n :: ns → (∀ y ∈ n :: ns, m ≤ y) → ns.foldl min n = m
  | [], n, h, _ => by
    have e : m = n := by simpa using h
    exact e.symm
  | x :: ns, n, h, h2 => by
    have h1 := h2 n (by simp)
    have h3 := h2 x (by simp)
    refine foldl_min m ns (min n x) ?_ fun y hy => ?_
    · rcases List.mem_cons.mp h with rfl | h
      · exact List.mem_cons.mpr (.inl (by omega))
      · rcases List.mem_cons.mp h with rfl | h
        · exact List.mem_cons.mpr (.inl (by omega))
        · exact List.mem_cons.mpr (.inr h)
    · rcases List.mem_cons.mp hy with rfl | hy
      · omega
      · exact h2 y (by simp [hy])
def rMaxA (K : PySem.W.Frag) : List V → Hp → VK → Prop := fun xs H Q => (∃ i j, xs = [.int i, .int j] ∧ Q (.int (if j > i then j else i)) H) ∨ rMax K xs H Q
def rMinA (K : PySem.W.Frag) : List V → Hp → VK → Prop := fun xs H Q => (∃ i j, xs = [.int i, .int j] ∧ Q (.int (if j < i then j else i)) H) ∨ rMin K xs H Q
theorem cr_maxA (hc : X.calm = true) : CallR X (.builtin "max") (rMaxA X.K) := fun pins s σ H xs us Q I r h => h.elim (call_max2 hc pins s σ H xs us Q I r) (cr_max hc pins s σ H xs us Q I r)
theorem cr_minA (hc : X.calm = true) : CallR X (.builtin "min") (rMinA X.K) := fun pins s σ H xs us Q I r h => h.elim (call_min2 hc pins s σ H xs us Q I r) (cr_min hc pins s σ H xs us Q I r)
theorem ifPr {c : Prop} [Decidable c] {α : Type} {x y : α} : (if Pr c then x else y) = if c then x else y := by
  by_cases h : c
  · rw [if_Pr h, if_pos h]
  · rw [if_nPr h, if_neg h]
theorem cd_max : CallD X W (rMaxA X.K) gMax := by
  intro ρ F s σ H ds vs Q rl r h
  unfold gMax at h
  split at h
  · rename_i i j
    obtain ⟨u, v, rfl, r1, r2⟩ := rdl2 r
    cases r1
    cases r2
    rw [ifPr] at h
    exact .inl ⟨i, j, rfl, h ρ F H _ (Ext.refl ..) rl rfl⟩
  · rename_i d _
    obtain ⟨v, rfl, r1⟩ := rdl1 r
    split at h
    · rename_i xs e
      split at h
      · rename_i n ns e2
        obtain ⟨a, us, rfl, q, l⟩ := lsV_rd rl.mem r1 e
        have := ints_eq e2
        subst this
        have := ints_rd l
        subst this
        refine .inr ⟨a, n :: ns, rfl, q, by simp, fun m h1 h2 => ?_⟩
        rw [← foldl_max m ns n h1 h2]
        exact h ρ F H _ (Ext.refl ..) rl rfl
      · exact h.elim
    · exact h.elim
  · exact h.elim
theorem cd_min : CallD X W (rMinA X.K) gMin := by
  intro ρ F s σ H ds vs Q rl r h
  unfold gMin at h
  split at h
  · rename_i i j
    obtain ⟨u, v, rfl, r1, r2⟩ := rdl2 r
    cases r1
    cases r2
    rw [ifPr] at h
    exact .inl ⟨i, j, rfl, h ρ F H _ (Ext.refl ..) rl rfl⟩
  · rename_i d _
    obtain ⟨v, rfl, r1⟩ := rdl1 r
    split at h
    · rename_i xs e
      split at h
      · rename_i n ns e2
        obtain ⟨a, us, rfl, q, l⟩ := lsV_rd rl.mem r1 e
        have := ints_eq e2
        subst this
        have := ints_rd l
        subst this
        refine .inr ⟨a, n :: ns, rfl, q, by simp, fun m h1 h2 => ?_⟩
        rw [← foldl_min m ns n h1 h2]
        exact h ρ F H _ (Ext.refl ..) rl rfl
      · exact h.elim
    · exact h.elim
  · exact h.elim
end
end DL

/-! min, max of alike data; list.index. -/
namespace DL
open PySem L2
section
variable {prog : Program} {w : World} {A : Around} {E : Value → Shared → Prop} {s : Shared}
/-- the place of the first of the least -/
def ltIx (xs : List PyData) : Nat := argBest (fun i j => PySem.W.dataLt (xs.getD i .none) (xs.getD j .none)) (xs.length - 1)
def gtIx (xs : List PyData) : Nat := argBest (fun i j => PySem.W.dataLt (xs.getD j .none) (xs.getD i .none)) (xs.length - 1)
theorem min_list_ix {l : Addr} {vs : Array Value} {xs : List PyData} {as : List Addr} {Q : Value → Shared → Prop} (hh : A.handled = none) (hl : s.heap.IsList l vs) (hr : ReadsAll s.heap vs.toList xs as) (ha : PySem.W.AlikeAll xs) (hu : A.units + 1 + PyData.depthAll xs < cLine) (h0 : 0 < xs.length)
    (h : ∀ v h' tk, vs[ltIx xs]? = some v → (∀ b o, s.heap.get? b = some o → h'.get? b = some o) → Q v { s with heap := h', toks := tk }) : wpAny (model prog w) A (call (.builtin "min") [.ref l]) Q E s := by
  have hn : vs.size = xs.length := PySem.W.readsAll_len hr
  refine call_min_walkH (PySem.W.iter_listW (A := A.in1) hh hl fun s₂ e W st hfp hw hk => ?_)
  refine ⟨_, _, _, _, _, _, _, s.heap, _, rfl, W, st, hfp, by omega, hw, hk, PySem.W.cmpIn_lt (A := A.in1) hr ha (by show A.units + 1 + _ < _; exact hu), fun v s' hP m => ?_⟩
  obtain ⟨h', tk, rfl, hk'⟩ := PySem.W.moved_old e rfl m
  rw [hn] at hP
  exact h v h' tk hP hk'
theorem max_list_ix {l : Addr} {vs : Array Value} {xs : List PyData} {as : List Addr} {Q : Value → Shared → Prop} (hh : A.handled = none) (hl : s.heap.IsList l vs) (hr : ReadsAll s.heap vs.toList xs as) (ha : PySem.W.AlikeAll xs) (hu : A.units + 1 + PyData.depthAll xs < cLine) (h0 : 0 < xs.length)
    (h : ∀ v h' tk, vs[gtIx xs]? = some v → (∀ b o, s.heap.get? b = some o → h'.get? b = some o) → Q v { s with heap := h', toks := tk }) : wpAny (model prog w) A (call (.builtin "max") [.ref l]) Q E s := by
  have hn : vs.size = xs.length := PySem.W.readsAll_len hr
  refine call_max_walkH (PySem.W.iter_listW (A := A.in1) hh hl fun s₂ e W st hfp hw hk => ?_)
  refine ⟨_, _, _, _, _, _, _, s.heap, _, rfl, W, st, hfp, by omega, hw, hk, PySem.W.cmpIn_gt (A := A.in1) hr ha (by show A.units + 1 + _ < _; exact hu), fun v s' hP m => ?_⟩
  obtain ⟨h', tk, rfl, hk'⟩ := PySem.W.moved_old e rfl m
  rw [hn] at hP
  exact h v h' tk hP hk'
theorem min_tup_ix {l : Addr} {vs : Array Value} {xs : List PyData} {as : List Addr} {Q : Value → Shared → Prop} (hh : A.handled = none) (hl : s.heap.IsTuple l vs) (hr : ReadsAll s.heap vs.toList xs as) (ha : PySem.W.AlikeAll xs) (hu : A.units + 1 + PyData.depthAll xs < cLine) (h0 : 0 < xs.length)
    (h : ∀ v h' tk, vs[ltIx xs]? = some v → (∀ b o, s.heap.get? b = some o → h'.get? b = some o) → Q v { s with heap := h', toks := tk }) : wpAny (model prog w) A (call (.builtin "min") [.ref l]) Q E s := by
  have hn : vs.size = xs.length := PySem.W.readsAll_len hr
  refine call_min_walkH (PySem.W.iter_tupleW (A := A.in1) hh hl fun s₂ e W st hfp hw hk => ?_)
  refine ⟨_, _, _, _, _, _, _, s.heap, _, rfl, W, st, hfp, by omega, hw, hk, PySem.W.cmpIn_lt (A := A.in1) hr ha (by show A.units + 1 + _ < _; exact hu), fun v s' hP m => ?_⟩
  obtain ⟨h', tk, rfl, hk'⟩ := PySem.W.moved_old e rfl m
  rw [hn] at hP
  exact h v h' tk hP hk'
theorem max_tup_ix {l : Addr} {vs : Array Value} {xs : List PyData} {as : List Addr} {Q : Value → Shared → Prop} (hh : A.handled = none) (hl : s.heap.IsTuple l vs) (hr : ReadsAll s.heap vs.toList xs as) (ha : PySem.W.AlikeAll xs) (hu : A.units + 1 + PyData.depthAll xs < cLine) (h0 : 0 < xs.length)
    (h : ∀ v h' tk, vs[gtIx xs]? = some v → (∀ b o, s.heap.get? b = some o → h'.get? b = some o) → Q v { s with heap := h', toks := tk }) : wpAny (model prog w) A (call (.builtin "max") [.ref l]) Q E s := by
  have hn : vs.size = xs.length := PySem.W.readsAll_len hr
  refine call_max_walkH (PySem.W.iter_tupleW (A := A.in1) hh hl fun s₂ e W st hfp hw hk => ?_)
  refine ⟨_, _, _, _, _, _, _, s.heap, _, rfl, W, st, hfp, by omega, hw, hk, PySem.W.cmpIn_gt (A := A.in1) hr ha (by show A.units + 1 + _ < _; exact hu), fun v s' hP m => ?_⟩
  obtain ⟨h', tk, rfl, hk'⟩ := PySem.W.moved_old e rfl m
  rw [hn] at hP
  exact h v h' tk hP hk'
end
/-! as data -/
/-- pairwise alike, none of them None -/
def alkL (ds : List D) : Bool := ds.all (fun x => ds.all (fun y => PySem.W.alike (toP x) (toP y)) && !isNonP (toP x))
theorem toPL_mem : ∀ {ds : List D} {p : PyData}, p ∈ toPL ds → ∃ d ∈ ds, p = toP d
  | [], _, h => by simp [toPL] at h
  | d :: ds, p, h => by
    simp only [toPL, List.mem_cons] at h
    rcases h with rfl | h
    · exact ⟨d, by simp, rfl⟩
    · obtain ⟨x, hx, e⟩ := toPL_mem h
      exact ⟨x, by simp [hx], e⟩
theorem alkL_ok {ds : List D} (h : alkL ds = true) : PySem.W.AlikeAll (toPL ds) := by
  unfold alkL at h
  rw [List.all_eq_true] at h
  refine ⟨fun x hx y hy => ?_, fun x hx => ?_⟩
  · obtain ⟨a, ha, rfl⟩ := toPL_mem hx
    obtain ⟨b, hb, rfl⟩ := toPL_mem hy
    have := h a ha
    rw [Bool.and_eq_true, List.all_eq_true] at this
    exact this.1 b hb
  · obtain ⟨a, ha, rfl⟩ := toPL_mem hx
    have := h a ha
    rw [Bool.and_eq_true] at this
    intro z
    rw [z] at this
    exact absurd this.2 (by simp [isNonP])
theorem toPL_len : ∀ ds : List D, (toPL ds).length = ds.length
  | [] => rfl
  | d :: ds => by simp only [toPL, List.length_cons, toPL_len ds]
theorem argBest_le (bt : Nat → Nat → Bool) : ∀ k, argBest bt k ≤ k
  | 0 => Nat.le_refl _
  | k + 1 => by
    unfold argBest
    split
    · exact Nat.le_refl _
    · exact Nat.le_succ_of_le (argBest_le bt k)
noncomputable def gMinD : List D → DS → R D := fun ds s => match ds with
  | [d] => (match seqV s d with
    | some xs => if okL 60 xs = true ∧ alkL xs = true then (match xs[ltIx (toPL xs)]? with
      | some x => .ok x s
      | none => .bad) else .bad
    | none => .bad)
  | _ => .bad
noncomputable def gMaxD : List D → DS → R D := fun ds s => match ds with
  | [d] => (match seqV s d with
    | some xs => if okL 60 xs = true ∧ alkL xs = true then (match xs[gtIx (toPL xs)]? with
      | some x => .ok x s
      | none => .bad) else .bad
    | none => .bad)
  | _ => .bad
section
variable {X : Cx} {W : WX}
def rBest (K : PySem.W.Frag) (f : List PyData → Nat) : List V → Hp → VK → Prop := fun vs H Q => ∃ (a : Addr) (xs : List V) (ps : List PyData) (v : V), vs = [.ref a] ∧ (SqL K H a xs ∨ SqT K H a xs) ∧ DpAll K H xs ps ∧ PySem.W.AlikeAll ps ∧ PyData.depthAll ps ≤ 60 ∧ xs[f ps]? = some v ∧ Q v H
theorem best_ok {f : List PyData → Nat} {idn : String} (hc : X.calm = true) (hu : X.A.units + 64 < cLine)
    (h1 : ∀ {s : Shared} {l : Addr} {vs : Array Value} {xs : List PyData} {as : List Addr} {Q : Value → Shared → Prop}, X.A.handled = none → s.heap.IsList l vs → ReadsAll s.heap vs.toList xs as → PySem.W.AlikeAll xs → X.A.units + 1 + PyData.depthAll xs < cLine → 0 < xs.length → (∀ v h' tk, vs[f xs]? = some v → (∀ b o, s.heap.get? b = some o → h'.get? b = some o) → Q v { s with heap := h', toks := tk }) → wpAny (model X.prog X.w) X.A (call (.builtin idn) [.ref l]) Q X.xe s)
    (h2 : ∀ {s : Shared} {l : Addr} {vs : Array Value} {xs : List PyData} {as : List Addr} {Q : Value → Shared → Prop}, X.A.handled = none → s.heap.IsTuple l vs → ReadsAll s.heap vs.toList xs as → PySem.W.AlikeAll xs → X.A.units + 1 + PyData.depthAll xs < cLine → 0 < xs.length → (∀ v h' tk, vs[f xs]? = some v → (∀ b o, s.heap.get? b = some o → h'.get? b = some o) → Q v { s with heap := h', toks := tk }) → wpAny (model X.prog X.w) X.A (call (.builtin idn) [.ref l]) Q X.xe s) :
    CallR X (.builtin idn) (rBest X.K f) := by
  intro pins s σ H vs us Q I r h
  obtain ⟨a, xs, ps, v, rfl, hs, hd, ha, hz, hv, q⟩ := h
  rw [Vals.ref1 r]
  have fin : ∀ (its : List Value), Vals xs its → ∀ u h' tk, its.toArray[f ps]? = some u → (∀ b o, s.heap.get? b = some o → h'.get? b = some o) → EP X pins σ Q u { s with heap := h', toks := tk } := fun its rv u h' tk hu' hk => by
    obtain ⟨u2, e2, ru⟩ := rv.get hv
    have : u = u2 := by
      rw [List.getElem?_toArray, e2] at hu'
      exact (Option.some.inj hu').symm
    subst this
    exact ⟨v, H, I.kept hk, ru, q⟩
  have len : ∀ (its : List Value), Vals xs its → ∀ as, ReadsAll s.heap its.toArray.toList ps as → 0 < ps.length := fun its rv as hr => by
    have e1 := PySem.W.readsAll_len hr
    have e2 := (List.getElem?_eq_some_iff.mp hv).1
    rw [List.size_toArray, ← rv.length] at e1
    omega
  rcases hs with hs | hs
  · obtain ⟨its, rv, hl, _⟩ := I.list hs
    obtain ⟨as, hr⟩ := Dp.readsAll I ps xs its hd rv
    exact h1 (I.ok.hd hc) hl.isList (by simpa using hr) ha (by omega) (len its rv as (by simpa using hr)) (fin its rv)
  · obtain ⟨its, rv, hl, _⟩ := I.tuple hs
    obtain ⟨as, hr⟩ := Dp.readsAll I ps xs its hd rv
    exact h2 (I.ok.hd hc) hl (by simpa using hr) ha (by omega) (len its rv as (by simpa using hr)) (fin its rv)
theorem cr_minD (hc : X.calm = true) (hu : X.A.units + 64 < cLine) : CallR X (.builtin "min") (rBest X.K ltIx) := best_ok hc hu (fun a b c d e f g => min_list_ix a b c d e f g) (fun a b c d e f g => min_tup_ix a b c d e f g)
theorem cr_maxD (hc : X.calm = true) (hu : X.A.units + 64 < cLine) : CallR X (.builtin "max") (rBest X.K gtIx) := best_ok hc hu (fun a b c d e f g => max_list_ix a b c d e f g) (fun a b c d e f g => max_tup_ix a b c d e f g)
theorem best_run {f : List PyData → Nat} {ρ : List Addr} {F : Hp} {s : DS} {σ : L2.St} {H : Hp} {d : D} {vs : List V} {Q : VK} (rl : Rel X.K X.mg ρ F s σ H) (r : RdL X.K ρ F [d] vs) {xs : List D} (e : seqV s d = some xs) (h1 : okL 60 xs = true) (h2 : alkL xs = true) {x : D} (hx : xs[f (toPL xs)]? = some x)
    (h : Post X W (Rd X.K) ρ F H σ Q (.ok x s)) : rBest X.K f vs H Q := by
  obtain ⟨v, rfl, r1⟩ := rdl1 r
  obtain ⟨a, us, rfl, hq, l⟩ := seqV_rd rl.mem r1 e
  obtain ⟨u, hu, ru⟩ := l.get hx
  exact ⟨a, us, toPL xs, u, rfl, hq, RdL.dp rl.mem.sub 60 xs us h1 l, alkL_ok h2, (okL_lay 60 xs h1).2, hu, h ρ F H _ (Ext.refl ..) rl ru⟩
theorem cd_minD : CallD X W (rBest X.K ltIx) gMinD := by
  intro ρ F s σ H ds vs Q rl r h
  unfold gMinD at h
  split at h
  · split at h
    · rename_i xs e
      split at h
      · rename_i hc
        split at h
        · rename_i x hx
          exact best_run rl r e hc.1 hc.2 hx h
        · exact h.elim
      · exact h.elim
    · exact h.elim
  · exact h.elim
theorem cd_maxD : CallD X W (rBest X.K gtIx) gMaxD := by
  intro ρ F s σ H ds vs Q rl r h
  unfold gMaxD at h
  split at h
  · split at h
    · rename_i xs e
      split at h
      · rename_i hc
        split at h
        · rename_i x hx
          exact best_run rl r e hc.1 hc.2 hx h
        · exact h.elim
      · exact h.elim
    · exact h.elim
  · exact h.elim
/-! ### xs.index(y) -/
noncomputable def ixD (y : D) (ds : List D) : Option Nat := ds.findIdx? fun x => eqD x y
end
end DL

/-! while; list(range(n)); list.index. -/
namespace DL
open PySem L2
/-- n turns at most -/
def whileN (c : DS → R Bool) (b : DS → R Fl) : Nat → DS → R Fl
  | 0, _ => .bad
  | n + 1, s => match c s with
    | .ok true s1 => (match b s1 with
      | .ok .nx s2 => whileN c b n s2
      | .ok .ct s2 => whileN c b n s2
      | .ok .bk s2 => .ok .nx s2
      | r => r)
    | .ok false s1 => .ok .nx s1
    | .ex e s1 => .ex e s1
    | .bad => .bad
section
variable {X : Cx} {W : WX}
theorem pds_while {n : Nat} {c : Expr} {b : List Stmt} {fc : DS → R Bool} {fb : DS → R Fl} {pos : Pos} (hp : PassesOwn (model X.prog X.w) X.A X.env X.xe) (hc : PDT X W c fc) (hb : PDss X W b fb) : PDs X W (.While c b [] pos) (whileN fc fb n) := by
  obtain ⟨t, e1, l⟩ := hc
  obtain ⟨tb, eb, lb⟩ := hb
  refine ⟨_, ps_while hp e1 eb, fun ρ F s σ H E rl h => ?_⟩
  refine ⟨fun m σ' H' => ∃ ρ2 F2 s2, Ext ρ F H ρ2 F2 H' ∧ Rel X.K X.mg ρ2 F2 s2 σ' H' ∧ PostS X W ρ2 F2 H' E (whileN fc fb m s2), ⟨n, ρ, F, s, Ext.refl .., rl, h⟩, ?_⟩
  rintro m σ2 H2 ⟨ρ2, F2, s2, x2, rl2, h2⟩
  cases m with
  | zero => exact h2.elim
  | succ m =>
    unfold whileN at h2
    refine l ρ2 F2 s2 σ2 H2 _ rl2 ?_
    cases q : fc s2 with
    | bad => rw [q] at h2; exact h2
    | ex e s3 => rw [q] at h2; exact fun ρ' F' H' cls d x rl' er => h2 ρ' F' H' σ2 cls d x rl' er
    | ok v s3 =>
      rw [q] at h2
      intro ρ3 F3 H3 v' x3 rl3 hv
      subst hv
      cases v' with
      | false =>
        rw [if_neg Bool.false_ne_true]
        exact h2 ρ3 F3 H3 σ2 x3 rl3
      | true =>
        rw [if_pos rfl]
        refine ⟨fun σ4 H4 => ∃ ρ4 F4 s4, Ext ρ F H ρ4 F4 H4 ∧ Rel X.K X.mg ρ4 F4 s4 σ4 H4 ∧ PostS X W ρ4 F4 H4 E (whileN fc fb m s4), fun σ4 H4 z => ⟨m, Nat.lt_succ_self _, z⟩, ?_⟩
        refine lb ρ3 F3 s3 σ2 H3 _ rl3 ?_
        have x23 := x2.trans x3
        cases q3 : fb s3 with
        | bad => simp only [q3] at h2; exact h2
        | ex e s5 => simp only [q3] at h2; exact fun ρ5 F5 H5 σ5 cls d x5 => h2 ρ5 F5 H5 σ5 cls d (x3.trans x5)
        | ok fl s5 =>
          simp only [q3] at h2
          cases fl with
          | nx => exact fun ρ5 F5 H5 σ5 x5 rl5 => ⟨ρ5, F5, s5, x23.trans x5, rl5, PostS.ext h2 (x3.trans x5)⟩
          | ct => exact fun ρ5 F5 H5 σ5 x5 rl5 => ⟨ρ5, F5, s5, x23.trans x5, rl5, PostS.ext h2 (x3.trans x5)⟩
          | bk => exact fun ρ5 F5 H5 σ5 x5 rl5 => h2 ρ5 F5 H5 σ5 (x3.trans x5) rl5
          | rt d => exact fun ρ5 F5 H5 v x5 => h2 ρ5 F5 H5 v (x3.trans x5)
/-! ### list(range(n)) -/
noncomputable def fLstRg1 (f : DS → R D) : DS → R D := fun s => (f s).bind fun d s1 => match d with
  | .int n => if Pr (-(2 ^ 62) ≤ n ∧ n ≤ 2 ^ 24) then .ok (.lst (rngD 0 n.toNat)) s1 else .bad
  | _ => .bad
theorem rdl_rgV {K : PySem.W.Frag} {ρ : List Addr} {F : Hp} {i : Int} : ∀ n : Nat, RdL K ρ F (rngD i n) ((List.range n).map fun k => V.int (i + (k : Nat))) := fun n => by
  unfold rngD
  generalize List.range n = l
  induction l with
  | nil => rfl
  | cons m l ih => exact ⟨_, _, rfl, rfl, ih⟩
theorem pd_listRg1 {a : Expr} {f : DS → R D} {p pos p2 pos2 : Pos} (hc : X.calm = true) (hgl : Gl X "list") (hml : X.mg "list" = none) (hg : Gl X "range") (hm : X.mg "range" = none) (ha : PD X W a f)
    (na : starEach [a] X.env = (false, eval a X.env) :: starEach [] X.env := by rfl)
    (nb : starEach [.Call (.Name "range" p2) [a] [] pos2] X.env = (false, eval (.Call (.Name "range" p2) [a] [] pos2) X.env) :: starEach [] X.env := by rfl) :
    PD X W (.Call (.Name "list" p) [.Call (.Name "range" p2) [a] [] pos2] [] pos) (fLstRg1 f) := by
  obtain ⟨t, e1, l⟩ := ha
  refine ⟨_, pe_listRg hc hgl hml (prg_1 hg hm e1 na) nb, fun ρ F s σ H Q rl h => l ρ F s σ H _ rl (h.bind fun d s1 ρ1 F1 H1 v x1 rl1 rd1 h1 => ?_)⟩
  split at h1
  · rename_i n
    split at h1
    · rename_i hc
      cases rd1
      have e : (n - 0).toNat = n.toNat := by omega
      have h2 : n ≤ 16777216 := hc.2
      refine ⟨n, rfl, ⟨by omega, by omega, hc.1, by omega, by omega⟩, ?_⟩
      show ∀ q, H1 q = none → Q (.ref q) (upd H1 q (.lst ((List.range (n - 0).toNat).map fun i => V.int (0 + (i : Nat)))))
      rw [e]
      exact Post.lst h1 rl1 (rdl_rgV _)
    · exact h1.elim
  · exact h1.elim
end
end DL

/-! a new list from [..] * n; list.index. -/
namespace DL
open PySem L2
theorem room65 {k : Nat} {A : Around} (r : Room k A) : A.units + 65 < cLine := by have := r.un; omega
/-- a comprehension's scope as its own def has it -/
def relS (sc0 sd : Scope) : Scope := { sc0 with names := sc0.names.map fun (n, k) => if (k == .free && sd.kind == .function && sd.names.lookup n == some .cell) then (n, .cell) else (n, k) }
/-- a comprehension in a comprehension -/
theorem blkOk_in {N : List Str} {own : List (Str × Nat)} {scope sc0 : Scope} {env : Env} {sd : Scope} (he : env.scope = sd) (h : blkC N (relS sc0 sd) scope own = true) : BlkOk N (relabel sc0 env) scope own := by
  subst he
  exact blkOk_by h
section
variable {X : Cx} {W : WX}
noncomputable def gMulN : D → D → DS → R D := fun x y s => match y with
  | .int k => (match lstV s x with
    | some xs => if Pr (-(2 ^ 63) ≤ k ∧ k < 2 ^ 63 ∧ xs.length * k.toNat ≤ sizeLine) then .ok (.obj s.m.length) { s with m := s.m ++ [.lst (List.replicate k.toNat xs).flatten] } else .bad
    | none => .bad)
  | _ => .bad
theorem opd_mulN : OpD X W (rMulA X.K) gMulN := by
  intro ρ F s σ H x y v u Q rl r1 r2 h
  unfold gMulN at h
  split at h
  · rename_i k
    split at h
    · rename_i xs e1
      obtain ⟨a, vs, rfl, q1, l1⟩ := lstV_rd rl.mem r1 e1
      split at h
      · rename_i hc
        exact .inl (.inl (.inl (.inr ⟨a, _, vs, rfl, r2, q1, hc.1, hc.2.1, by rw [l1.length]; exact hc.2.2, Post.new h rl (l1.rep _)⟩)))
      · exact h.elim
    · exact h.elim
  · exact h.elim
theorem okL_at {n : Nat} : ∀ {ds : List D} {j : Nat} {d : D}, okL n ds = true → ds[j]? = some d → okD n d = true
  | [], _, _, _, e => by simp at e
  | x :: xs, 0, d, h, e => by
    simp at e
    subst e
    simp only [okL, Bool.and_eq_true] at h
    exact h.1
  | x :: xs, j + 1, d, h, e => by
    simp at e
    simp only [okL, Bool.and_eq_true] at h
    exact okL_at h.2 e
theorem toPL_at : ∀ {ds : List D} {j : Nat} {p : PyData}, (toPL ds)[j]? = some p → ∃ d, ds[j]? = some d ∧ p = toP d
  | [], _, _, e => by simp [toPL] at e
  | x :: xs, 0, p, e => by
    simp [toPL] at e
    exact ⟨x, rfl, e.symm⟩
  | x :: xs, j + 1, p, e => by
    simp [toPL] at e
    obtain ⟨d, h1, h2⟩ := toPL_at e
    exact ⟨d, by simpa using h1, h2⟩
/-- the place of the first equal one -/
noncomputable def ixF (y : D) : List D → Option Nat
  | [] => none
  | x :: xs => if eqD x y = true then some 0 else (ixF y xs).map (· + 1)
theorem ixF_spec {y : D} : ∀ {xs : List D} {j : Nat}, ixF y xs = some j → (∃ z, xs[j]? = some z ∧ eqD z y = true) ∧ ∀ m z', m < j → xs[m]? = some z' → eqD z' y = false
  | [], j, h => by simp [ixF] at h
  | x :: xs, j, h => by
    unfold ixF at h
    split at h
    · rename_i hq
      cases h
      exact ⟨⟨x, rfl, hq⟩, fun m z' hm => absurd hm (Nat.not_lt_zero _)⟩
    · rename_i hq
      cases q : ixF y xs with
      | none => rw [q] at h; cases h
      | some i =>
        rw [q] at h
        cases h
        obtain ⟨⟨z, h1, h2⟩, h3⟩ := ixF_spec q
        refine ⟨⟨z, by simpa using h1, h2⟩, fun m z' hm e => ?_⟩
        cases m with
        | zero =>
          simp at e
          subst e
          exact Bool.eq_false_iff.mpr hq
        | succ m =>
          simp at e
          exact h3 m z' (Nat.lt_of_succ_lt_succ hm) e
noncomputable def gIndex : D → List D → DS → R D := fun o as s => match as with
  | [y] => (match vw s o with
    | .lst xs => if okL 63 xs = true ∧ okD 64 (vw s y) = true then (match ixF (vw s y) xs with
      | some j => .ok (.int ((j : Nat) : Int)) s
      | none => .bad) else .bad
    | _ => .bad)
  | _ => .bad
theorem md_index : MtD X W (rIndexD X.K) gIndex := by
  intro ρ F s σ H x d vs ds Q rl r1 r2 h
  unfold gIndex at h
  split at h
  · rename_i y
    obtain ⟨u, rfl, r3⟩ := rdl1 r2
    split at h
    · rename_i xs e
      split at h
      · rename_i hc
        split at h
        · rename_i j hj
          have h64 : okD 64 (vw s d) = true := by rw [e]; exact hc.1
          have d1 := vw_dp rl.mem h64 r1
          have d2 := vw_dp rl.mem hc.2 r3
          have hs := okD_shaped h64 (Nat.le_refl _)
          rw [e] at d1 hs
          obtain ⟨⟨z, hz, hzq⟩, hno⟩ := ixF_spec hj
          have hz' : (toPL xs)[j]? = some (toP z) := by
            cases q : (toPL xs)[j]? with
            | none =>
              rw [List.getElem?_eq_none_iff, toPL_len] at q
              have := (List.getElem?_eq_some_iff.mp hz).1
              omega
            | some p =>
              obtain ⟨d', e1, e2⟩ := toPL_at q
              rw [hz] at e1
              cases e1
              rw [e2]
          have ha : ∃ a, x = .ref a := by
            cases d1 with
            | lst hs ha => exact ⟨_, rfl⟩
          obtain ⟨a, rfl⟩ := ha
          refine ⟨a, u, _, toPL xs, j, toP z, rfl, rfl, d1, d2, hs, okD_shaped hc.2 (Nat.le_refl _), hz', ?_, fun m z' hm e' => ?_, h ρ F H _ (Ext.refl ..) rl rfl⟩
          · rw [eqD_eqv 63 64 _ _ (okL_at hc.1 hz) hc.2]
            exact hzq
          · obtain ⟨d', e1, rfl⟩ := toPL_at e'
            rw [eqD_eqv 63 64 _ _ (okL_at hc.1 e1) hc.2]
            exact hno m d' hm e1
        · exact h.elim
      · exact h.elim
    · exact h.elim
  · exact h.elim
end
end DL

/-! enumerate(zip(a, b)), a and b tuples. -/
namespace DL
open PySem L2 PySem.Spec PyProof.Rows RZ
section
variable {prog : Program} {w : World} {A : Around} {E : Value → Shared → Prop} {s : Shared}
/-- a zip, whatever it knows of the tuple it gave out last -/
abbrev ZipU (h : Heap) (zp tI tO : Addr) (f : Value) (b : Bool) : Prop :=
  h.get? zp = some { cls := .type "zip", dict := none, data := .fields #[f, .bool b, .bool false, .ref tI, .ref tO], slots := #[] }
def ZipF (f : Value) : Prop := f = .none ∨ ∃ T : Nat, f = rawInt ((T : Nat) : Int)
theorem alive_any {a : Addr} {Q : Option Obj → Shared → Prop} (h : Q (s.heap.get? a) s) : wpAny (model prog w) A (loadIfAlive a) Q E s := fun _ _ _ => h
theorem zu_free {zp tI tO : Addr} {f : Value} {b : Bool} {Q : Bool → Shared → Prop} (gz : ZipU s.heap zp tI tO f b) (hf : ZipF f) (ht : Q true s)
    (hn : ∀ h', ZipU h' zp tI tO f true → Heap.SameBut zp s.heap h' → Q false { s with heap := h' }) : wpAny (model prog w) A (Builtin.SmallTypes.ownedTupleIsFree (.ref zp)) Q E s := by
  unfold Builtin.SmallTypes.ownedTupleIsFree; rcases hf with rfl | ⟨T, rfl⟩
  · exact wpAny_bind (wpAny_field gz rfl (x := .none) rfl (wpAny_pure ht))
  · refine wpAny_bind (wpAny_field gz rfl (x := rawInt ((T : Nat) : Int)) rfl ?_)
    show wpAny _ _ (loadIfAlive (((T : Nat) : Int).toNat) >>= _) _ _ _; rw [Int.toNat_natCast]
    refine wpAny_bind (alive_any ?_)
    cases s.heap.get? T with
    | none => simp only [Option.isNone_none, if_true]; exact wpAny_pure ht
    | some o =>
      simp only [Option.isNone_some, Bool.false_eq_true, if_false]; refine wpAny_bind (wpAny_field gz rfl (x := .bool b) rfl ?_)
      cases b with
      | true => rw [if_neg (show ¬ ((Value.bool true != Value.bool true) = true) from Bool.false_ne_true)]; exact wpAny_pure (hn s.heap gz (Heap.SameBut.refl _ _))
      | false => rw [if_pos (show (Value.bool false != Value.bool true) = true from rfl)]; exact wpAny_bind (wpAny_setField_rec gz (by simp) fun h' gz' sb => wpAny_pure (hn h' gz' sb))
/-- the next pair -/
theorem zu_item {zp tI tO j1 j2 m1 m2 : Addr} {n1 n2 : Nat} {xs ys : Array Value} {x y a b f : Value} {fb : Bool} {Q : Value → Shared → Prop} (S : ZipApart zp tI tO j1 j2 m1 m2)
    (gz : ZipU s.heap zp tI tO f fb) (hf : ZipF f) (gI : IsPair s.heap tI (.ref j1) (.ref j2)) (gO : IsPair s.heap tO a b) (q1 : s.heap.IsTupleIter j1 m1 n1) (q2 : s.heap.IsTupleIter j2 m2 n2)
    (t1 : s.heap.IsTuple m1 xs) (t2 : s.heap.IsTuple m2 ys) (ex : xs[n1]? = some x) (ey : ys[n2]? = some y)
    (hQ : ∀ h' a' b' f' fb', ZipF f' → ZipU h' zp tI tO f' fb' → IsPair h' tO a' b' → h'.IsTupleIter j1 m1 (n1 + 1) → h'.IsTupleIter j2 m2 (n2 + 1) → IsPair h' s.heap.objs.size x y → h'.objs.size = s.heap.objs.size + 1 →
      (∀ c o, c ≠ zp → c ≠ tO → c ≠ j1 → c ≠ j2 → s.heap.get? c = some o → h'.get? c = some o) → Q (.ref s.heap.objs.size) { s with heap := h' }) :
    wpAny (model prog w) A (Builtin.«zip.__next__» ⟨[.ref zp], []⟩) (fun fin s' => ∃ v, fin = .done (.ret v) ∧ Q v s') E s := by
  show wpAny _ _ (field (.ref zp) 2 >>= _) _ _ _; refine wpAny_bind (wpAny_field gz rfl (x := .bool false) rfl ?_)
  show wpAny _ _ (field (.ref zp) 3 >>= _) _ _ _; refine wpAny_bind (wpAny_field gz rfl (x := .ref tI) rfl ?_)
  refine wpAny_bind (wpAny_seqItems gI rfl ?_); show wpAny _ _ (Builtin.SmallTypes.ownedTupleIsFree (.ref zp) >>= _) _ _ _
  refine wpAny_bind (zu_free gz hf ?_ fun g1 gz1 s1 => ?_)
  · simp only [if_true]; refine wpAny_bind (wpAny_rule ?_); refine wpAny_bind (wpAny_field gz rfl (x := .ref tO) rfl ?_)
    refine wpAny_bind (wpAny_setField_rec gz (by simp) fun g1 gz1 s1 => ?_)
    replace gz1 : ZipU g1 zp tI tO .ellipsis fb := gz1
    refine wpAny_bind ?_; simp only [List.zipIdx_cons, List.zipIdx_nil, List.forIn_cons, List.forIn_nil]; refine wpAny_bind (wpAny_bind (wpAny_onRaise ?_))
    show wpAny _ _ (Builtin.SmallTypes.nextOf (.ref j1) >>= _) _ _ _
    refine wpAny_bind (nextOf_tuple_item (q1.extBut s1.extBut S.i1z) (t1.extBut s1.extBut S.l1z) ex fun g2 q12 s2 => wpAny_pure ?_)
    have gO2 : IsPair g2 tO a b := s2.extBut _ _ S.TOi1 (s1.extBut _ _ S.TOz gO)
    refine wpAny_bind (wpAny_seqItems gO2 rfl ?_); refine wpAny_bind (wpAny_updateSeq_pair gO2 fun g3 gO3 s3 => ?_)
    replace gO3 : IsPair g3 tO x b := gO3
    refine wpAny_bind (wpAny_letGo (wpAny_pure ?_)); refine wpAny_bind (wpAny_bind (wpAny_onRaise ?_))
    show wpAny _ _ (Builtin.SmallTypes.nextOf (.ref j2) >>= _) _ _ _
    refine wpAny_bind (nextOf_tuple_item (((q2.extBut s1.extBut S.i2z).extBut s2.extBut S.i12.symm).extBut s3.extBut S.TOi2.symm) (((t2.extBut s1.extBut S.l2z).extBut s2.extBut S.l2i1).extBut s3.extBut S.l2TO) ey fun g4 q24 s4 => wpAny_pure ?_)
    have gO4 : IsPair g4 tO x b := s4.extBut _ _ S.TOi2 gO3
    refine wpAny_bind (wpAny_seqItems gO4 rfl ?_); refine wpAny_bind (wpAny_updateSeq_pair gO4 fun g5 gO5 s5 => ?_)
    replace gO5 : IsPair g5 tO x y := gO5
    refine wpAny_bind (wpAny_letGo (wpAny_pure (wpAny_pure ?_))); refine wpAny_bind (wpAny_seqItems gO5 rfl ?_); refine wpAny_bind (wpAny_newTuple ?_)
    have sz : g5.objs.size = s.heap.objs.size := by rw [s5.1, s4.1, s3.1, s2.1, s1.1]
    have gz5 : ZipU g5 zp tI tO .ellipsis fb := s5.extBut _ _ S.TOz.symm (s4.extBut _ _ S.i2z.symm (s3.extBut _ _ S.TOz.symm (s2.extBut _ _ S.i1z.symm gz1)))
    have k5 : ∀ c o, c ≠ zp → c ≠ tO → c ≠ j1 → c ≠ j2 → s.heap.get? c = some o → g5.get? c = some o := fun c o c1 c2 c3 c4 e => s5.extBut _ _ c2 (s4.extBut _ _ c4 (s3.extBut _ _ c2 (s2.extBut _ _ c3 (s1.extBut _ _ c1 e))))
    have q15 : g5.IsTupleIter j1 m1 (n1 + 1) := ((q12.extBut s3.extBut S.TOi1.symm).extBut s4.extBut S.i12).extBut s5.extBut S.TOi1.symm
    have q25 : g5.IsTupleIter j2 m2 (n2 + 1) := q24.extBut s5.extBut S.TOi2.symm
    have zlt : zp < g5.objs.size := Heap.lt_size gz5
    show wpAny _ _ (Builtin.SmallTypes.ownedTupleHandOut (.ref zp) (.ref g5.objs.size) >>= _) _ _ _
    refine wpAny_bind ?_; unfold Builtin.SmallTypes.ownedTupleHandOut
    have gz6 : ZipU (g5.push { cls := .type "tuple", data := .seq #[x, y] }) zp tI tO .ellipsis fb := Heap.get?_push_of_some _ gz5
    refine wpAny_bind (wpAny_setField_rec gz6 (by simp) fun g7 gz7 s7 => ?_)
    replace gz7 : ZipU g7 zp tI tO (rawInt g5.objs.size) fb := gz7
    refine wpAny_setField_rec gz7 (by simp) fun g8 gz8 s8 => ?_
    replace gz8 : ZipU g8 zp tI tO (rawInt g5.objs.size) false := gz8
    have up : ∀ c o, c ≠ zp → g5.get? c = some o → g8.get? c = some o := fun c o c1 e => s8.extBut _ _ c1 (s7.extBut _ _ c1 (Heap.get?_push_of_some _ e))
    have gT8 : IsPair g8 g5.objs.size x y := s8.extBut _ _ (Nat.ne_of_gt zlt) (s7.extBut _ _ (Nat.ne_of_gt zlt) (Heap.get?_push_size _ rfl))
    have sz8 : g8.objs.size = g5.objs.size + 1 := by rw [s8.1, s7.1, Heap.size_push]
    rw [sz] at gz8 gT8 sz8
    refine wpAny_pure ⟨_, rfl, ?_⟩; show Q (.ref g5.objs.size) _; rw [sz]
    exact hQ g8 _ _ _ _ (.inr ⟨_, rfl⟩) gz8 (up _ _ S.TOz gO5) (q15.at fun o e => up _ o S.i1z e) (q25.at fun o e => up _ o S.i2z e) gT8 sz8 fun c o c1 c2 c3 c4 e => up c o c1 (k5 c o c1 c2 c3 c4 e)
  · simp only [Bool.false_eq_true, if_false]; refine wpAny_bind ?_; rw [← Array.forIn_toList]; simp only [List.forIn_cons, List.forIn_nil]
    refine wpAny_bind (wpAny_bind (wpAny_holding ?_)); show wpAny _ _ (Builtin.SmallTypes.nextOf (.ref j1) >>= _) _ _ _
    refine wpAny_bind (nextOf_tuple_item (s := { s with heap := g1 }) (q1.extBut s1.extBut S.i1z) (t1.extBut s1.extBut S.l1z) ex fun g2 q12 s2 => wpAny_pure ?_); refine wpAny_pure ?_
    refine wpAny_bind (wpAny_bind (wpAny_holding ?_)); show wpAny _ _ (Builtin.SmallTypes.nextOf (.ref j2) >>= _) _ _ _
    refine wpAny_bind (nextOf_tuple_item (s := { s with heap := g2 }) ((q2.extBut s1.extBut S.i2z).extBut s2.extBut S.i12.symm) ((t2.extBut s1.extBut S.l2z).extBut s2.extBut S.l2i1) ey fun g3 q23 s3 => wpAny_pure ?_)
    refine wpAny_pure (wpAny_pure ?_); show wpAny _ _ (newTuple [x, y] >>= _) _ _ _; refine wpAny_bind (wpAny_newTuple ?_)
    have sz : g3.objs.size = s.heap.objs.size := by rw [s3.1, s2.1, s1.1]
    have gz3 : ZipU g3 zp tI tO f true := s3.extBut _ _ S.i2z.symm (s2.extBut _ _ S.i1z.symm gz1)
    have gO3 : IsPair g3 tO a b := s3.extBut _ _ S.TOi2 (s2.extBut _ _ S.TOi1 (s1.extBut _ _ S.TOz gO))
    have k3 : ∀ c o, c ≠ zp → c ≠ j1 → c ≠ j2 → s.heap.get? c = some o → g3.get? c = some o := fun c o c1 c2 c3 e => s3.extBut _ _ c3 (s2.extBut _ _ c2 (s1.extBut _ _ c1 e))
    have q13 : g3.IsTupleIter j1 m1 (n1 + 1) := q12.extBut s3.extBut S.i12
    refine wpAny_pure ⟨_, rfl, ?_⟩; show Q (.ref g3.objs.size) _
    have gp : IsPair (g3.push { cls := .type "tuple", data := .seq #[x, y] }) g3.objs.size x y := Heap.get?_push_size _ rfl
    have sz4 : (g3.push { cls := .type "tuple", data := .seq #[x, y] }).objs.size = g3.objs.size + 1 := Heap.size_push ..
    rw [sz] at gp sz4 ⊢
    exact hQ _ _ _ _ _ hf (Heap.get?_push_of_some _ gz3) (Heap.get?_push_of_some _ gO3) (q13.at fun o e => Heap.get?_push_of_some _ e) (q23.at fun o e => Heap.get?_push_of_some _ e) gp sz4 fun c o c1 _ c2 c3 e => Heap.get?_push_of_some _ (k3 c o c1 c2 c3 e)
/-- .. at the end of either -/
theorem zu_end {zp tI tO j1 j2 m1 m2 : Addr} {n1 n2 : Nat} {xs ys : Array Value} {a b f : Value} {fb : Bool} {Q : Fin → Shared → Prop} (hh : A.handled = none) (S : ZipApart zp tI tO j1 j2 m1 m2)
    (gz : ZipU s.heap zp tI tO f fb) (hf : ZipF f) (gI : IsPair s.heap tI (.ref j1) (.ref j2)) (gO : IsPair s.heap tO a b) (q1 : s.heap.IsTupleIter j1 m1 n1) (q2 : s.heap.IsTupleIter j2 m2 n2)
    (t1 : s.heap.IsTuple m1 xs) (t2 : s.heap.IsTuple m2 ys) (he : xs[n1]? = none ∨ ys[n2]? = none)
    (hE : ∀ h' e, (∀ c o, c ≠ zp → c ≠ tO → c ≠ j1 → c ≠ j2 → s.heap.get? c = some o → h'.get? c = some o) → (∃ o, h'.get? e = some o ∧ o.cls = .type "StopIteration") → E (.ref e) { s with heap := h' }) :
    wpAny (model prog w) A (Builtin.«zip.__next__» ⟨[.ref zp], []⟩) Q E s := by
  show wpAny _ _ (field (.ref zp) 2 >>= _) _ _ _; refine wpAny_bind (wpAny_field gz rfl (x := .bool false) rfl ?_)
  show wpAny _ _ (field (.ref zp) 3 >>= _) _ _ _; refine wpAny_bind (wpAny_field gz rfl (x := .ref tI) rfl ?_)
  refine wpAny_bind (wpAny_seqItems gI rfl ?_); show wpAny _ _ (Builtin.SmallTypes.ownedTupleIsFree (.ref zp) >>= _) _ _ _
  refine wpAny_bind (zu_free gz hf ?_ fun g1 gz1 s1 => ?_)
  · simp only [if_true]; refine wpAny_bind (wpAny_rule ?_); refine wpAny_bind (wpAny_field gz rfl (x := .ref tO) rfl ?_)
    refine wpAny_bind (wpAny_setField_rec gz (by simp) fun g1 gz1 s1 => ?_)
    replace gz1 : ZipU g1 zp tI tO .ellipsis fb := gz1
    refine wpAny_bind ?_; simp only [List.zipIdx_cons, List.zipIdx_nil, List.forIn_cons, List.forIn_nil]; refine wpAny_bind (wpAny_bind (wpAny_onRaise ?_))
    show wpAny _ _ (Builtin.SmallTypes.nextOf (.ref j1) >>= _) _ _ _
    cases ex : xs[n1]? with
    | none =>
      refine wpAny_bind (nextOf_tuple_end hh (q1.extBut s1.extBut S.i1z) (t1.extBut s1.extBut S.l1z) ex fun g2 e s2 hx => ?_)
      obtain ⟨oe, hoe, hce⟩ := hx
      have gz2 : ZipU g2 zp tI tO .ellipsis fb := s2 _ _ S.i1z.symm gz1
      have ez : e ≠ zp := fun z => by subst z; rw [gz2] at hoe; cases hoe; simp at hce
      refine wpAny_setField_rec gz2 (by simp) fun g3 _ s3 => hE g3 e (fun c o c1 _ c3 _ z => s3.extBut _ _ c1 (s2 _ _ c3 (s1.extBut _ _ c1 z))) ⟨oe, s3.extBut _ _ ez hoe, hce⟩
    | some x =>
      have ey : ys[n2]? = none := by rcases he with h | h; rw [ex] at h; cases h; exact h
      refine wpAny_bind (nextOf_tuple_item (q1.extBut s1.extBut S.i1z) (t1.extBut s1.extBut S.l1z) ex fun g2 q12 s2 => wpAny_pure ?_)
      have gO2 : IsPair g2 tO a b := s2.extBut _ _ S.TOi1 (s1.extBut _ _ S.TOz gO)
      refine wpAny_bind (wpAny_seqItems gO2 rfl ?_); refine wpAny_bind (wpAny_updateSeq_pair gO2 fun g3 gO3 s3 => ?_)
      refine wpAny_bind (wpAny_letGo (wpAny_pure ?_)); refine wpAny_bind (wpAny_bind (wpAny_onRaise ?_))
      show wpAny _ _ (Builtin.SmallTypes.nextOf (.ref j2) >>= _) _ _ _
      refine wpAny_bind (nextOf_tuple_end hh (((q2.extBut s1.extBut S.i2z).extBut s2.extBut S.i12.symm).extBut s3.extBut S.TOi2.symm) (((t2.extBut s1.extBut S.l2z).extBut s2.extBut S.l2i1).extBut s3.extBut S.l2TO) ey fun g4 e s4 hx => ?_)
      obtain ⟨oe, hoe, hce⟩ := hx
      have gz4 : ZipU g4 zp tI tO .ellipsis fb := s4 _ _ S.i2z.symm (s3.extBut _ _ S.TOz.symm (s2.extBut _ _ S.i1z.symm gz1))
      have ez : e ≠ zp := fun z => by subst z; rw [gz4] at hoe; cases hoe; simp at hce
      refine wpAny_setField_rec gz4 (by simp) fun g5 _ s5 => hE g5 e (fun c o c1 c2 c3 c4 z => s5.extBut _ _ c1 (s4 _ _ c4 (s3.extBut _ _ c2 (s2.extBut _ _ c3 (s1.extBut _ _ c1 z))))) ⟨oe, s5.extBut _ _ ez hoe, hce⟩
  · simp only [Bool.false_eq_true, if_false]; refine wpAny_bind ?_; rw [← Array.forIn_toList]; simp only [List.forIn_cons, List.forIn_nil]
    refine wpAny_bind (wpAny_bind (wpAny_holding ?_)); show wpAny _ _ (Builtin.SmallTypes.nextOf (.ref j1) >>= _) _ _ _
    cases ex : xs[n1]? with
    | none =>
      refine wpAny_bind (nextOf_tuple_end (s := { s with heap := g1 }) hh (q1.extBut s1.extBut S.i1z) (t1.extBut s1.extBut S.l1z) ex fun g2 e s2 hx => ?_)
      exact hE g2 e (fun c o c1 _ c2 _ z => s2 _ _ c2 (s1.extBut _ _ c1 z)) hx
    | some x =>
      have ey : ys[n2]? = none := by rcases he with h | h; rw [ex] at h; cases h; exact h
      refine wpAny_bind (nextOf_tuple_item (s := { s with heap := g1 }) (q1.extBut s1.extBut S.i1z) (t1.extBut s1.extBut S.l1z) ex fun g2 q12 s2 => wpAny_pure ?_); refine wpAny_pure ?_
      refine wpAny_bind (wpAny_bind (wpAny_holding ?_)); show wpAny _ _ (Builtin.SmallTypes.nextOf (.ref j2) >>= _) _ _ _
      refine wpAny_bind (nextOf_tuple_end (s := { s with heap := g2 }) hh ((q2.extBut s1.extBut S.i2z).extBut s2.extBut S.i12.symm) ((t2.extBut s1.extBut S.l2z).extBut s2.extBut S.l2i1) ey fun g3 e s3 hx => ?_)
      exact hE g3 e (fun c o c1 _ c2 c3 z => s3 _ _ c3 (s2.extBut _ _ c2 (s1.extBut _ _ c1 z))) hx
/-- drawing from the zip, by another iterator -/
theorem zu_draw {zp tI tO j1 j2 m1 m2 : Addr} {n1 n2 : Nat} {xs ys : Array Value} {x y a b f : Value} {fb : Bool} {Q : Value → Shared → Prop} (S : ZipApart zp tI tO j1 j2 m1 m2)
    (gz : ZipU s.heap zp tI tO f fb) (hf : ZipF f) (gI : IsPair s.heap tI (.ref j1) (.ref j2)) (gO : IsPair s.heap tO a b) (q1 : s.heap.IsTupleIter j1 m1 n1) (q2 : s.heap.IsTupleIter j2 m2 n2)
    (t1 : s.heap.IsTuple m1 xs) (t2 : s.heap.IsTuple m2 ys) (ex : xs[n1]? = some x) (ey : ys[n2]? = some y)
    (hQ : ∀ h' a' b' f' fb', ZipF f' → ZipU h' zp tI tO f' fb' → IsPair h' tO a' b' → h'.IsTupleIter j1 m1 (n1 + 1) → h'.IsTupleIter j2 m2 (n2 + 1) → IsPair h' s.heap.objs.size x y → h'.objs.size = s.heap.objs.size + 1 →
      (∀ c o, c ≠ zp → c ≠ tO → c ≠ j1 → c ≠ j2 → s.heap.get? c = some o → h'.get? c = some o) → Q (.ref s.heap.objs.size) { s with heap := h' }) :
    wpAny (model prog w) A (Builtin.SmallTypes.nextOf (.ref zp)) Q E s := by
  have ty : s.TypeIs (.ref zp) "zip" := ⟨_, gz, rfl⟩
  unfold Builtin.SmallTypes.nextOf; refine wpAny_bind (wpAny_callSpecial?_slot (name := Str.ofString "__next__") ty F.slot_zip_next (wpAny_call_entry F.slot_zip_next ty F.entry_zip_next
      (zu_item S gz hf gI gO q1 q2 t1 t2 ex ey fun h' a' b' f' fb' k1 k2 k3 k4 k5 k6 k7 k8 => wpAny_pure (hQ h' a' b' f' fb' k1 k2 k3 k4 k5 k6 k7 k8)) (F.args_zip_next_1 _)))
theorem zu_over {zp tI tO j1 j2 m1 m2 : Addr} {n1 n2 : Nat} {xs ys : Array Value} {a b f : Value} {fb : Bool} {Q : Value → Shared → Prop} (hh : A.handled = none) (S : ZipApart zp tI tO j1 j2 m1 m2)
    (gz : ZipU s.heap zp tI tO f fb) (hf : ZipF f) (gI : IsPair s.heap tI (.ref j1) (.ref j2)) (gO : IsPair s.heap tO a b) (q1 : s.heap.IsTupleIter j1 m1 n1) (q2 : s.heap.IsTupleIter j2 m2 n2)
    (t1 : s.heap.IsTuple m1 xs) (t2 : s.heap.IsTuple m2 ys) (he : xs[n1]? = none ∨ ys[n2]? = none)
    (hE : ∀ h' e, (∀ c o, c ≠ zp → c ≠ tO → c ≠ j1 → c ≠ j2 → s.heap.get? c = some o → h'.get? c = some o) → (∃ o, h'.get? e = some o ∧ o.cls = .type "StopIteration") → E (.ref e) { s with heap := h' }) :
    wpAny (model prog w) A (Builtin.SmallTypes.nextOf (.ref zp)) Q E s := by
  have ty : s.TypeIs (.ref zp) "zip" := ⟨_, gz, rfl⟩
  unfold Builtin.SmallTypes.nextOf; exact wpAny_bind (wpAny_callSpecial?_slot (name := Str.ofString "__next__") ty F.slot_zip_next (wpAny_call_entry F.slot_zip_next ty F.entry_zip_next (zu_end (A := A.in1) hh S gz hf gI gO q1 q2 t1 t2 he hE) (F.args_zip_next_1 _)))
/-- enumerate's next, whatever is drawn -/
theorem enz_item {e it : Addr} {i : Nat} {old : Value} {K : Value → Heap → Prop} {Q : Value → Shared → Prop} (he : IsEnum s.heap e it ((i : Nat) : Int) old)
    (hd : wpAny (model prog w) A (Builtin.SmallTypes.nextOf (.ref it)) (fun x s1 => ∃ h1, s1 = { s with heap := h1 } ∧ K x h1 ∧ IsEnum h1 e it ((i : Nat) : Int) old) E s)
    (hQ : ∀ x h1 h', K x h1 → IsEnumOut h' e it (((i : Nat) : Int) + 1) x h1.objs.size → h'.get? h1.objs.size = some { cls := .type "tuple", data := .seq #[.int ((i : Nat) : Int) s.toks, x] } → h'.objs.size = h1.objs.size + 1 →
      (∀ c o, c ≠ e → h1.get? c = some o → h'.get? c = some o) → Q (.ref h1.objs.size) { s with heap := h', toks := s.toks + 1 }) :
    wpAny (model prog w) A (Builtin.«enumerate.__next__» ⟨[.ref e], []⟩) (fun fin s' => ∃ v, fin = .done (.ret v) ∧ Q v s') E s := by
  obtain ⟨hp, gn, dr, tk, os⟩ := s
  show wpAny _ _ (field (.ref e) 2 >>= _) _ _ _; refine wpAny_bind (wpAny_field he rfl (x := .ref it) rfl ?_)
  refine wpAny_bind (wpAny_mono hd (fun x s1 ⟨g1, e1, hK, ge1⟩ => ?_) fun _ _ z => z)
  subst e1
  show wpAny _ _ (field (.ref e) 3 >>= _) _ _ ⟨g1, gn, dr, tk, os⟩; refine wpAny_bind (wpAny_field ge1 rfl (x := rawInt ((i : Nat) : Int)) rfl ?_)
  show wpAny _ _ (field (.ref e) 4 >>= _) _ _ ⟨g1, gn, dr, tk, os⟩; refine wpAny_bind (wpAny_field ge1 rfl (x := .none) rfl ?_)
  show wpAny _ _ (mkInt ((i : Nat) : Int) >>= _) _ _ ⟨g1, gn, dr, tk, os⟩; refine wpAny_bind (wpAny_mkInt ?_)
  show wpAny _ _ (setField (.ref e) 3 (rawInt (((i : Nat) : Int) + 1)) >>= _) _ _ ⟨g1, gn, dr, tk + 1, os⟩
  refine wpAny_bind (wpAny_setField_rec ge1 (by simp) fun g2 ge2 s2 => ?_)
  replace s2 : Heap.SameBut e g1 g2 := s2
  replace ge2 : IsEnum g2 e it (((i : Nat) : Int) + 1) old := ge2
  show wpAny _ _ (setField (.ref e) 4 .none >>= _) _ _ ⟨g2, gn, dr, tk + 1, os⟩; refine wpAny_bind (wpAny_setField_rec ge2 (by simp) fun g3 ge3 s3 => ?_)
  replace s3 : Heap.SameBut e g2 g3 := s3
  replace ge3 : IsEnum g3 e it (((i : Nat) : Int) + 1) old := ge3
  show wpAny _ _ (newTuple [.int ((i : Nat) : Int) tk, x] >>= _) _ _ ⟨g3, gn, dr, tk + 1, os⟩; refine wpAny_bind (wpAny_newTuple ?_)
  have ge4 : IsEnum (g3.push { cls := .type "tuple", data := .seq #[.int ((i : Nat) : Int) tk, x] }) e it (((i : Nat) : Int) + 1) old := Heap.get?_push_of_some _ ge3
  have sz : g3.objs.size = g1.objs.size := by rw [s3.1, s2.1]
  have elt : e < g1.objs.size := Heap.lt_size ge1
  have gt4 : (g3.push { cls := .type "tuple", data := .seq #[.int ((i : Nat) : Int) tk, x] }).get? g1.objs.size = some { cls := .type "tuple", data := .seq #[.int ((i : Nat) : Int) tk, x] } := by rw [← sz]; exact Heap.get?_push_size _ rfl
  have sz4 : (g3.push { cls := .type "tuple", data := .seq #[.int ((i : Nat) : Int) tk, x] }).objs.size = g1.objs.size + 1 := by rw [Heap.size_push, sz]
  have k4 : ∀ c o, c ≠ e → g1.get? c = some o → (g3.push { cls := .type "tuple", data := .seq #[.int ((i : Nat) : Int) tk, x] }).get? c = some o := fun c o c1 z => Heap.get?_push_of_some _ (s3.extBut c o c1 (s2.extBut c o c1 z))
  generalize g3.push { cls := .type "tuple", data := .seq #[.int ((i : Nat) : Int) tk, x] } = g4 at *
  show wpAny _ _ (Builtin.SmallTypes.ownedTupleIsFree (.ref e) >>= _) _ _ ⟨g4, gn, dr, tk + 1, os⟩
  rw [sz]
  refine wpAny_bind ?_; unfold Builtin.SmallTypes.ownedTupleIsFree; refine wpAny_bind (wpAny_field ge4 rfl (x := .none) rfl (wpAny_pure ?_))
  simp only [if_true]; refine wpAny_bind (wpAny_rule ?_); refine wpAny_bind (wpAny_field ge4 rfl (x := old) rfl ?_)
  refine wpAny_bind (wpAny_setField_rec ge4 (by simp) fun g5 ge5 s5 => ?_)
  replace s5 : Heap.SameBut e g4 g5 := s5
  replace ge5 : IsEnum g5 e it (((i : Nat) : Int) + 1) x := ge5
  show wpAny _ _ (Builtin.SmallTypes.ownedTupleHandOut (.ref e) (.ref g1.objs.size) >>= _) _ _ ⟨g5, gn, dr, tk + 1, os⟩
  refine wpAny_bind ?_; unfold Builtin.SmallTypes.ownedTupleHandOut; refine wpAny_bind (wpAny_setField_rec ge5 (by simp) fun g6 ge6 s6 => ?_)
  replace s6 : Heap.SameBut e g5 g6 := s6
  replace ge6 : IsEnumOut g6 e it (((i : Nat) : Int) + 1) x g1.objs.size := ge6
  refine wpAny_setField_rec ge6 (by simp) fun g7 ge7 s7 => ?_
  replace s7 : Heap.SameBut e g6 g7 := s7
  replace ge7 : IsEnumOut g7 e it (((i : Nat) : Int) + 1) x g1.objs.size := ge7
  have k7 : ∀ c o, c ≠ e → g4.get? c = some o → g7.get? c = some o := fun c o c1 z => s7.extBut c o c1 (s6.extBut c o c1 (s5.extBut c o c1 z))
  refine wpAny_bind (wpAny_letGo (wpAny_pure ⟨_, rfl, hQ x g1 g7 hK ge7 (k7 _ _ (Nat.ne_of_gt elt) gt4) (by rw [s7.1, s6.1, s5.1, sz4]) fun c o c1 z => k7 c o c1 (k4 c o c1 z)⟩))
theorem enz_next {e it : Addr} {i : Nat} {old : Value} {K : Value → Heap → Prop} {Q : Option Value → Shared → Prop} (he : IsEnum s.heap e it ((i : Nat) : Int) old)
    (hd : wpAny (model prog w) A.in1 (Builtin.SmallTypes.nextOf (.ref it)) (fun x s1 => ∃ h1, s1 = { s with heap := h1 } ∧ K x h1 ∧ IsEnum h1 e it ((i : Nat) : Int) old) (fun _ _ => False) s)
    (hQ : ∀ x h1 h', K x h1 → IsEnumOut h' e it (((i : Nat) : Int) + 1) x h1.objs.size → h'.get? h1.objs.size = some { cls := .type "tuple", data := .seq #[.int ((i : Nat) : Int) s.toks, x] } → h'.objs.size = h1.objs.size + 1 →
      (∀ c o, c ≠ e → h1.get? c = some o → h'.get? c = some o) → Q (some (.ref h1.objs.size)) { s with heap := h', toks := s.toks + 1 }) : wpAny (model prog w) A (pyNext (.ref e)) Q E s := by
  have ty : s.TypeIs (.ref e) "enumerate" := ⟨_, he, rfl⟩
  unfold pyNext; refine wpAny_bind (wpAny_attempt (wpAny_callSpecial?_slot (name := Str.ofString "__next__") ty F.slot_enumerate_next (wpAny_call_entry F.slot_enumerate_next ty F.entry_enumerate_next ?_ (F.args_enumerate_next_1 _))))
  exact enz_item (K := K) he (wpAny_mono hd (fun _ _ z => z) fun _ _ z => z.elim) fun x h1 h' k1 k2 k3 k4 k5 => wpAny_pure (hQ x h1 h' k1 k2 k3 k4 k5)
end
/-- the tuples at a and b as they stand at each turn: the place, and the items in a new pair -/
def IteZ (K : PySem.W.Frag) (a b : Addr) : It :=
  ⟨fun i H => ∃ (xs ys : List V) (x y : V), SqT K H a xs ∧ SqT K H b ys ∧ xs[i]? = some x ∧ ys[i]? = some y,
    fun i H v H' => ∃ T T2 x y, v = .ref T2 ∧ H T = none ∧ T2 ≠ T ∧ H T2 = none ∧ H' = upd (upd H T (.tup [x, y])) T2 (.tup [.int ((i : Nat) : Int), .ref T]) ∧ (∀ xs, SqT K H a xs → xs[i]? = some x) ∧ ∀ ys, SqT K H b ys → ys[i]? = some y,
    fun i H => ∃ xs ys : List V, SqT K H a xs ∧ SqT K H b ys ∧ (xs.length ≤ i ∨ ys.length ≤ i)⟩
theorem turn_enumZ {P : Program} {w : World} {K : PySem.W.Frag} {elts : List Expr} {kk : Nat} {tpos : Pos} {a b e zp tI tO j1 j2 : Addr} (S : ZipApart zp tI tO j1 j2 a b) (he : e ≠ zp ∧ e ≠ tI ∧ e ≠ tO ∧ e ≠ j1 ∧ e ≠ j2 ∧ a ≠ e ∧ b ≠ e) :
    Turn P w K (.Tuple elts kk tpos) (IteZ K a b) [e, zp, tI, tO, j1, j2] e (fun i h => (∃ old, IsEnum h e zp ((i : Nat) : Int) old) ∧ (∃ f fb x0 y0, ZipF f ∧ ZipU h zp tI tO f fb ∧ IsPair h tI (.ref j1) (.ref j2) ∧ IsPair h tO x0 y0) ∧ h.IsTupleIter j1 a i ∧ h.IsTupleIter j2 b i) where
  mem := by simp
  obj := fun i h st c hc => by
    obtain ⟨⟨old, k1⟩, ⟨f, fb, x0, y0, hf, k2, k3, k4⟩, ⟨o1, e1, _, d1⟩, ⟨o2, e2, _, d2⟩⟩ := st
    have q : c = e ∨ c = zp ∨ c = tI ∨ c = tO ∨ c = j1 ∨ c = j2 := by simpa using hc
    rcases q with q | q | q | q | q | q
    · rw [q]; exact ⟨_, k1, fun v z => nomatch z⟩
    · rw [q]; exact ⟨_, k2, fun v z => nomatch z⟩
    · rw [q]; exact ⟨_, k3, fun v z => nomatch z⟩
    · rw [q]; exact ⟨_, k4, fun v z => nomatch z⟩
    · rw [q]; exact ⟨o1, e1, fun v z => by rw [d1] at z; cases z⟩
    · rw [q]; exact ⟨o2, e2, fun v z => by rw [d2] at z; cases z⟩
  keep := fun i h h' st k => by
    obtain ⟨⟨old, k1⟩, ⟨f, fb, x0, y0, hf, k2, k3, k4⟩, h1, h2⟩ := st
    exact ⟨⟨old, k e (by simp) _ k1⟩, ⟨f, fb, x0, y0, hf, k zp (by simp) _ k2, k tI (by simp) _ k3, k tO (by simp) _ k4⟩, h1.at fun o q => k j1 (by simp) o q, h2.at fun o q => k j2 (by simp) o q⟩
  item := by
    intro X hP hw hK hc i pins s σ H E I hf st hg
    subst hP hw hK
    obtain ⟨⟨old, k1⟩, ⟨f, fb, x0, y0, hF, k2, k3, k4⟩, q1, q2⟩ := st
    obtain ⟨xs, ys, x, y, hx, hy, ex, ey⟩ := hg
    obtain ⟨its, rv, pt, _⟩ := I.tuple hx
    obtain ⟨its2, rv2, pt2, _⟩ := I.tuple hy
    obtain ⟨u, hu, ru⟩ := rv.get ex
    obtain ⟨u2, hu2, ru2⟩ := rv2.get ey
    obtain ⟨n1, n2, n3, n4, n5, n6, n7⟩ := he
    have elt : e < s.heap.objs.size := Heap.lt_size k1
    refine enz_next (K := fun v h1 => v = .ref s.heap.objs.size ∧ ∃ a' b' f' fb', ZipF f' ∧ ZipU h1 zp tI tO f' fb' ∧ IsPair h1 tO a' b' ∧ h1.IsTupleIter j1 a (i + 1) ∧ h1.IsTupleIter j2 b (i + 1) ∧ IsPair h1 s.heap.objs.size u u2 ∧ h1.objs.size = s.heap.objs.size + 1 ∧
        (∀ c o, c ≠ zp → c ≠ tO → c ≠ j1 → c ≠ j2 → s.heap.get? c = some o → h1.get? c = some o)) k1
      (zu_draw (xs := its.toArray) (ys := its2.toArray) S k2 hF k3 k4 q1 q2 pt pt2 (by simpa using hu) (by simpa using hu2) fun h' a' b' f' fb' m1 m2 m3 m4 m5 m6 m7 m8 => ⟨h', rfl, ⟨rfl, a', b', f', fb', m1, m2, m3, m4, m5, m6, m7, m8⟩, m8 _ _ n1 n3 n4 n5 k1⟩) ?_
    rintro v h1 h' ⟨rfl, a', b', f', fb', m1, m2, m3, m4, m5, m6, m7, m8⟩ ho hT hsz hk
    refine ⟨_, rfl, wpAny_letOwnedTupleGo_enum (s := { s with heap := h', toks := s.toks + 1 }) ho fun h'' he' sb => ?_⟩
    have w1 : ObjOk X.prog X.w (upd H s.heap.objs.size (.tup [x, y])) h1 s.heap.objs.size (.tup [x, y]) := ⟨by show 2 ≤ sizeLine; decide, [u, u2], .cons ru (.cons ru2 .nil), ⟨_, m6, rfl, _, rfl⟩⟩
    have I1 : Inv X pins σ (upd H s.heap.objs.size (.tup [x, y])) { s with heap := h1 } :=
      I.turnedNew (t' := s.toks) (ch := [zp, tO, j1, j2]) (fun c o hcm q => m8 c o (fun z => hcm (by simp [z])) (fun z => hcm (by simp [z])) (fun z => hcm (by simp [z])) (fun z => hcm (by simp [z])) q)
        (fun c hcm => hf c (by simp only [List.mem_cons, List.not_mem_nil, or_false] at hcm ⊢; rcases hcm with z | z | z | z <;> simp [z])) (Nat.le_refl _) w1
    have hkk : ∀ c o, c ≠ e → h1.get? c = some o → h''.get? c = some o := fun c o c1 q => (sb.2 c c1).trans (hk c o c1 q)
    have elt1 : e < h1.objs.size := by rw [m7]; exact Nat.lt_succ_of_lt elt
    have hT2 : h''.get? h1.objs.size = some { cls := .type "tuple", data := .seq #[.int ((i : Nat) : Int) s.toks, .ref s.heap.objs.size] } := (sb.2 _ (Nat.ne_of_gt elt1)).trans hT
    have fe : FpOk X pins (upd H s.heap.objs.size (.tup [x, y])) e := ⟨by rw [upd_ne (Nat.ne_of_lt elt)]; exact (hf e (by simp)).1, (hf e (by simp)).2⟩
    have w2 : ObjOk X.prog X.w (upd (upd H s.heap.objs.size (.tup [x, y])) h1.objs.size (.tup [.int ((i : Nat) : Int), .ref s.heap.objs.size])) h'' h1.objs.size (.tup [.int ((i : Nat) : Int), .ref s.heap.objs.size]) :=
      ⟨by show 2 ≤ sizeLine; decide, [.int ((i : Nat) : Int) s.toks, .ref s.heap.objs.size], .cons ⟨_, rfl⟩ (.cons rfl .nil), ⟨_, hT2, rfl, _, rfl⟩⟩
    have I2 : Inv X pins σ (upd (upd H s.heap.objs.size (.tup [x, y])) h1.objs.size (.tup [.int ((i : Nat) : Int), .ref s.heap.objs.size])) { s with heap := h'', toks := s.toks + 1 } :=
      I1.turnedNew (t' := s.toks + 1) (ch := [e]) (fun c o hcm q => hkk c o (fun z => hcm (by simp [z])) q) (fun c hcm => by rw [List.mem_singleton.mp hcm]; exact fe) (Nat.le_refl _) w2
    have neq : h1.objs.size ≠ s.heap.objs.size := by rw [m7]; exact Nat.succ_ne_self _
    refine ⟨.ref h1.objs.size, _, I2, rfl, ⟨s.heap.objs.size, h1.objs.size, x, y, rfl, I.hok.fresh (Nat.le_refl _), neq, I.hok.fresh (by rw [m7]; exact Nat.le_succ _), rfl, fun l hl => by rw [I.tuple_inj hl hx]; exact ex, fun l hl => by rw [I.tuple_inj hl hy]; exact ey⟩,
      ⟨⟨.ref s.heap.objs.size, ?_⟩, ⟨f', fb', a', b', m1, hkk _ _ n1.symm m2, hkk _ _ n2.symm (m8 _ _ S.TIz S.TITO S.TIi1 S.TIi2 k3), hkk _ _ n3.symm m3⟩, m4.at fun o q => hkk _ o n4.symm q, m5.at fun o q => hkk _ o n5.symm q⟩, fun c hcm => ?_⟩
    · have e1 : ((i + 1 : Nat) : Int) = (i : Int) + 1 := by omega
      rw [e1]; exact he'
    · have hlt : c < s.heap.objs.size := by
        have q : c = e ∨ c = zp ∨ c = tI ∨ c = tO ∨ c = j1 ∨ c = j2 := by simpa using hcm
        rcases q with q | q | q | q | q | q
        · rw [q]; exact elt
        · rw [q]; exact Heap.lt_size k2
        · rw [q]; exact Heap.lt_size k3
        · rw [q]; exact Heap.lt_size k4
        · rw [q]; obtain ⟨_, z, _⟩ := q1; exact Heap.lt_size z
        · rw [q]; obtain ⟨_, z, _⟩ := q2; exact Heap.lt_size z
      rw [upd_ne (Nat.ne_of_lt (by rw [m7]; exact Nat.lt_succ_of_lt hlt)), upd_ne (Nat.ne_of_lt hlt)]
      exact (hf c hcm).1
  done := by
    intro X hP hw hK hc i pins s σ H E I hf st hg
    subst hP hw hK
    obtain ⟨⟨old, k1⟩, ⟨f, fb, x0, y0, hF, k2, k3, k4⟩, q1, q2⟩ := st
    obtain ⟨xs, ys, hx, hy, hend⟩ := hg
    obtain ⟨its, rv, pt, _⟩ := I.tuple hx
    obtain ⟨its2, rv2, pt2, _⟩ := I.tuple hy
    have l1 := rv.length
    have l2 := rv2.length
    have hx' : its.toArray[i]? = none ∨ its2.toArray[i]? = none := by
      rcases hend with q | q
      · exact .inl (by simp; omega)
      · exact .inr (by simp; omega)
    have ty : s.TypeIs (.ref e) "enumerate" := ⟨_, k1, rfl⟩
    unfold pyNext; refine wpAny_bind (wpAny_attempt (wpAny_callSpecial?_slot (name := Str.ofString "__next__") ty F.slot_enumerate_next (wpAny_call_entry F.slot_enumerate_next ty F.entry_enumerate_next ?_ (F.args_enumerate_next_1 _))))
    show wpAny _ _ (field (.ref e) 2 >>= _) _ _ _; refine wpAny_bind (wpAny_field k1 rfl (x := .ref zp) rfl ?_)
    refine wpAny_bind (zu_over (I.ok.hd hc) S k2 hF k3 k4 q1 q2 pt pt2 hx' fun h' ee hk2 hx2 => ?_)
    obtain ⟨o, ho, hc2⟩ := hx2
    refine wpAny_bind (wpAny_isInstance (T := "StopIteration") (b := true) ⟨o, ho, hc2⟩ isSubtype_stop ?_)
    exact wpAny_pure ⟨rfl, I.turnedL (t' := s.toks) (ch := [zp, tO, j1, j2]) (fun c o hcm q => hk2 c o (fun z => hcm (by simp [z])) (fun z => hcm (by simp [z])) (fun z => hcm (by simp [z])) (fun z => hcm (by simp [z])) q)
      (fun c hcm => hf c (by simp only [List.mem_cons, List.not_mem_nil, or_false] at hcm ⊢; rcases hcm with z | z | z | z <;> simp [z]))⟩
  self := fun A i s Q E st h => let ⟨⟨_, k1⟩, _⟩ := st; wpAny_pyIter_enum k1 h
end DL

/-! for i, (x, y) in enumerate(zip(a, b)), a and b tuples. -/
namespace DL
open PySem L2 PySem.Spec PyProof.Rows RZ
theorem meets_enumZ (zp tI tO : Addr) (f0 : Value) :
    Meets (Builtin.«enumerate.__new__» ⟨[.type "enumerate", .ref zp], []⟩) (fun _ R s => IsZip s.heap zp tI tO f0 ∧
      R (.ok (.ret (.ref s.heap.objs.size))) { s with heap := s.heap.push { cls := .type "enumerate", data := .fields #[.none, .bool false, .ref zp, rawInt 0, .none, .none] } }) :=
  .of_wp fun prog w A R s h => by
    obtain ⟨hp, gn, dr, tk, os⟩ := s; obtain ⟨h1, h⟩ := h
    have su := sub_enumerate
    have q1 : ∀ {A' : Around} {E : Value → Shared → Prop} {Q : Value → Shared → Prop}, Q (.ref zp) ⟨hp, gn, dr, tk, os⟩ → wpAny (model prog w) A' (pyIter (.ref zp)) Q E ⟨hp, gn, dr, tk, os⟩ :=
      fun q => wpAny_pyIter_zip h1 q
    wp_walk using q1
    refine wpAny_stack_any fun st => wpAny_pure ?_
    split
    · rename_i c _ _ _ _ _
      cases (c == Value.type "enumerate")
      · wp_walk using q1
        exact ⟨_, rfl, h⟩
      · wp_walk using q1
        exact ⟨_, rfl, h⟩
    · wp_walk using q1
      exact ⟨_, rfl, h⟩
theorem call_enumZ {prog : Program} {w : World} {A : Around} {E : Value → Shared → Prop} {s : Shared} {zp tI tO : Addr} {f0 : Value} {Q : Value → Shared → Prop} (h1 : IsZip s.heap zp tI tO f0)
    (h : ∀ h', IsEnum h' s.heap.objs.size zp 0 .none → h'.objs.size = s.heap.objs.size + 1 → (∀ b o, s.heap.get? b = some o → h'.get? b = some o) → Q (.ref s.heap.objs.size) { s with heap := h' }) :
    wpAny (model prog w) A (call (.type "enumerate") [.ref zp]) Q E s := by
  refine callType_new F.called_enumerate (by decide) (F.typeCall_enumerate_1 _) (F.newCall_enumerate_1 _) (fun obj => F.args_object_init_2 obj _) F.entry_enumerate_new (meets_enumZ zp tI tO f0) ⟨h1, ?_⟩
  have ge : IsEnum (s.heap.push { cls := .type "enumerate", data := .fields #[.none, .bool false, .ref zp, rawInt 0, .none, .none] }) s.heap.objs.size zp 0 .none := Heap.get?_push_size _ rfl
  exact ⟨⟨_, ge, rfl⟩, h _ ge (by rw [Heap.size_push]) fun b o x => Heap.get?_push_of_some _ x⟩
def iEnumZ (K : PySem.W.Frag) (ta : TA) : TI := fun σ H R => ta σ H fun vs H1 => ∃ a b xs ys, vs = [.ref a, .ref b] ∧ SqT K H1 a xs ∧ SqT K H1 b ys ∧ R (IteZ K a b) H1
theorem pi_enumZ {X : Cx} {e e2 : Expr} {ta : TA} {p pos p2 pos2 tpos : Pos} {elts : List Expr} {kk : Nat} (hg : Gl X "enumerate") (hm : X.mg "enumerate" = none) (hg2 : Gl X "zip") (hm2 : X.mg "zip" = none) (ha : PA X [e, e2] ta)
    (hs : starEach [e, e2] X.env = (false, eval e X.env) :: starEach [e2] X.env := by rfl) (hpl : (backTo pos2 (starEach [e2] X.env)).any (·.1) = false := by rfl)
    (nb : starEach [.Call (.Name "zip" p2) [e, e2] [] pos2] X.env = (false, eval (.Call (.Name "zip" p2) [e, e2] [] pos2) X.env) :: starEach [] X.env := by rfl) :
    PI X (.Tuple elts kk tpos) (.Call (.Name "enumerate" p) [.Call (.Name "zip" p2) [e, e2] [] pos2] [] pos) (iEnumZ X.K ta) := by
  refine ⟨fun pins s σ H R I h => ?_⟩
  have inner : wpAny (model X.prog X.w) X.A (eval (.Call (.Name "zip" p2) [e, e2] [] pos2) X.env) (fun x s1 => ∃ a b xs ys zp tI tO j1 j2 H1 h0, x = .ref zp ∧ Inv X pins σ H1 s1 ∧ Inv X pins σ H1 { s1 with heap := h0 } ∧ (∀ c o, h0.get? c = some o → s1.heap.get? c = some o) ∧ SqT X.K H1 a xs ∧ SqT X.K H1 b ys ∧ R (IteZ X.K a b) H1 ∧ ZipApart zp tI tO j1 j2 a b ∧ IsZip s1.heap zp tI tO .none ∧ IsPair s1.heap tI (.ref j1) (.ref j2) ∧ IsPair s1.heap tO .none .none ∧
      s1.heap.IsTupleIter j1 a 0 ∧ s1.heap.IsTupleIter j2 b 0 ∧ (∀ c ∈ [zp, tI, tO, j1, j2], FpOk X pins H1 c ∧ c < s1.heap.objs.size) ∧ a < s1.heap.objs.size ∧ b < s1.heap.objs.size) X.xe s := by
    refine Call_ (ld_blt I hg2 hm2 PyProof.Rows.boot_zip (PyProof.Rows.callWith_type1 (thn (ha.run pos2 pins s σ H _ I h) fun us s1 ⟨vs, H1, I1, r1, q1⟩ => ?_) hs hpl))
    obtain ⟨a, b, xs, ys, ex, hqx, hqy, q⟩ := q1
    subst ex
    cases r1 with
    | cons r rr =>
      cases rr with
      | cons r' rr =>
        cases rr
        cases r
        cases r'
        obtain ⟨its, rv, p1, _⟩ := I1.tuple hqx
        obtain ⟨its2, rv2, p2, _⟩ := I1.tuple hqy
        obtain ⟨o1, ho1, _⟩ := id p1
        obtain ⟨o2, ho2, _⟩ := id p2
        refine call_zipT (show s1.heap.IsTuple a its.toArray from p1) (show s1.heap.IsTuple b its2.toArray from p2) fun h' hz hTI hTO h1 h2 hsz hk => ?_
        have I2 : Inv X pins σ H1 { s1 with heap := h' } := I1.kept (t' := s1.toks) hk
        refine ⟨a, b, xs, ys, s1.heap.objs.size + 4, s1.heap.objs.size + 2, s1.heap.objs.size + 3, s1.heap.objs.size, s1.heap.objs.size + 1, H1, s1.heap, rfl, I2, I1, hk, hqx, hqy, q, PySem.W.ktu_apart s1.heap.objs.size a b (Heap.lt_size ho1) (Heap.lt_size ho2), hz, hTI, hTO, h1, h2, fun c hcm => ?_, by show a < h'.objs.size; rw [hsz]; exact Nat.lt_of_lt_of_le (Heap.lt_size ho1) (Nat.le_add_right _ _), by show b < h'.objs.size; rw [hsz]; exact Nat.lt_of_lt_of_le (Heap.lt_size ho2) (Nat.le_add_right _ _)⟩
        have hc : s1.heap.objs.size ≤ c ∧ c < s1.heap.objs.size + 5 := by
          simp only [List.mem_cons, List.not_mem_nil, or_false] at hcm
          rcases hcm with z | z | z | z | z <;> rw [z] <;> first | exact ⟨Nat.le_add_right _ _, Nat.add_lt_add_left (by decide) _⟩ | exact ⟨Nat.le_refl _, Nat.lt_add_of_pos_right (by decide)⟩
        exact ⟨I1.fpOk hc.1 (I1.hok.fresh hc.1), by show c < h'.objs.size; rw [hsz]; exact hc.2⟩
  refine Call_ (ld_blt I hg hm boot_enumerate (PyProof.Rows.callWith_type1 (args_cons (thn inner fun x s1 ⟨a, b, xs, ys, zp, tI, tO, j1, j2, H1, h0, ex, I1, _, _, hqx, hqy, q, S, k1, k2, k3, k4, k5, k6, k7, k8⟩ => args_nil ?_) nb) nb))
  subst ex
  refine call_enumZ k1 fun h' ge hsz hk => wpAny_pyIter_enum ge ?_
  have I2 : Inv X pins σ H1 { s1 with heap := h' } := I1.kept (t' := s1.toks) hk
  have lt := fun c hc => (k6 c hc).2
  have ne : ∀ c, c < s1.heap.objs.size → s1.heap.objs.size ≠ c := fun c hc => Nat.ne_of_gt hc
  refine ⟨s1.heap.objs.size, [s1.heap.objs.size, zp, tI, tO, j1, j2], _, _, H1, rfl, I2, turn_enumZ S ⟨ne _ (lt zp (by simp)), ne _ (lt tI (by simp)), ne _ (lt tO (by simp)), ne _ (lt j1 (by simp)), ne _ (lt j2 (by simp)), (ne _ k7).symm, (ne _ k8).symm⟩,
    ⟨⟨.none, ge⟩, ⟨.none, false, .none, .none, .inl rfl, hk _ _ k1, hk _ _ k2, hk _ _ k3⟩, k4.at fun o z => hk _ o z, k5.at fun o z => hk _ o z⟩, fun c hcm => ?_, q⟩
  rcases List.mem_cons.mp hcm with z | z
  · rw [z]; exact I1.fpOk (Nat.le_refl _) (I1.hok.fresh (Nat.le_refl _))
  · exact (k6 c z).1
/-- as data -/
def zipD (xs ys : List D) : List D := (List.range (min xs.length ys.length)).map fun i => .tup [.int ((i : Nat) : Int), .tup [xs.getD i .non, ys.getD i .non]]
@[simp] theorem zipD_len (xs ys : List D) : (zipD xs ys).length = min xs.length ys.length := by simp [zipD]
theorem zipD_get {xs ys : List D} {i : Nat} {p : D} (h : (zipD xs ys)[i]? = some p) : ∃ x y, xs[i]? = some x ∧ ys[i]? = some y ∧ p = .tup [.int ((i : Nat) : Int), .tup [x, y]] := by
  have hi : i < min xs.length ys.length := by
    have := (List.getElem?_eq_some_iff.mp h).1
    simpa using this
  have h1 : i < xs.length := by omega
  have h2 : i < ys.length := by omega
  unfold zipD at h
  simp [hi, List.getD, h1, h2] at h
  exact ⟨xs[i], ys[i], List.getElem?_eq_getElem h1, List.getElem?_eq_getElem h2, h.symm⟩
def wkEnumZ : List D → DS → R Wk := fun as s => match as with
  | [.tup xs, .tup ys] => .ok (zipD xs ys, allw) s
  | _ => .bad
def fWEZ (f : DS → R (List D)) : DS → R Wk := fun s => (f s).bind wkEnumZ
section
variable {X : Cx} {W : WX} {p pos p2 pos2 tpos : Pos} {elts : List Expr} {kk : Nat}
theorem pdi_enumZ {e e2 : Expr} {f : DS → R (List D)} (hg : Gl X "enumerate") (hm : X.mg "enumerate" = none) (hg2 : Gl X "zip") (hm2 : X.mg "zip" = none) (ha : PDA X W [e, e2] f)
    (hs : starEach [e, e2] X.env = (false, eval e X.env) :: starEach [e2] X.env := by rfl) (hpl : (backTo pos2 (starEach [e2] X.env)).any (·.1) = false := by rfl)
    (nb : starEach [.Call (.Name "zip" p2) [e, e2] [] pos2] X.env = (false, eval (.Call (.Name "zip" p2) [e, e2] [] pos2) X.env) :: starEach [] X.env := by rfl) :
    PDI X W (.Tuple elts kk tpos) (.Call (.Name "enumerate" p) [.Call (.Name "zip" p2) [e, e2] [] pos2] [] pos) (fWEZ f) := by
  obtain ⟨t, e1, l⟩ := ha
  refine ⟨_, pi_enumZ hg hm hg2 hm2 e1 hs hpl nb, fun ρ F s σ H Rr rl h => l ρ F s σ H _ rl (PostI.bind h fun ds s1 ρ1 F1 H1 vs x1 rl1 rd1 h1 => ?_)⟩
  unfold wkEnumZ at h1
  split at h1
  · rename_i es es2
    obtain ⟨w, w2, rfl, ⟨a, us, rfl, q, le⟩, ⟨b, us2, rfl, q2, le2⟩⟩ := rdl2 rd1
    refine ⟨a, b, us, us2, rfl, sqT_mono rl1.mem.sub q, sqT_mono rl1.mem.sub q2, h1 ρ1 F1 H1 _ (Ext.refl ..) rl1 ⟨fun ρ' F' H' μ x m _ => ⟨us, us2, sqT_mono (x.fro.trans m.sub) q, sqT_mono (x.fro.trans m.sub) q2, by rw [zipD_len, le.length, le2.length]; omega⟩, fun i p hp ρ' F' H' μ x m _ => ?_⟩⟩
    obtain ⟨d, d2, hd, hd2, rfl⟩ := zipD_get hp
    obtain ⟨v, hv, rv⟩ := le.get hd
    obtain ⟨v2, hv2, rv2⟩ := le2.get hd2
    have q' := sqT_mono (x.fro.trans m.sub) q
    have q2' := sqT_mono (x.fro.trans m.sub) q2
    refine ⟨⟨us, us2, v, v2, q', q2', hv, hv2⟩, fun y H2 yd => ?_⟩
    obtain ⟨T, T2, z, z2, rfl, hT, hne, hT2, rfl, hz, hz2⟩ := yd
    have e1 : z = v := by
      have := hz us q'
      rw [hv] at this
      exact (Option.some.inj this).symm
    have e2 : z2 = v2 := by
      have := hz2 us2 q2'
      rw [hv2] at this
      exact (Option.some.inj this).symm
    subst e1 e2
    obtain ⟨m2, x2⟩ := m.frozen (o := .tup [z, z2]) hT
    have hT2' : upd H' T (.tup [z, z2]) T2 = none := by rw [upd_ne hne]; exact hT2
    obtain ⟨m3, x3⟩ := m2.frozen (o := .tup [.int ((i : Nat) : Int), .ref T]) hT2'
    have r1 : Rd X.K ρ' (upd F' T (.tup [z, z2])) (.tup [d, d2]) (.ref T) := ⟨T, _, rfl, .new upd_same, _, _, rfl, (rv.ext x).ext x2, _, _, rfl, (rv2.ext x).ext x2, rfl⟩
    exact ⟨_, x2.trans x3, m3, T2, _, rfl, .new upd_same, _, _, rfl, rfl, _, _, rfl, r1.ext x3, rfl⟩
  · exact h1.elim
theorem pdg_nest {es2 : List Expr} {k2 : Nat} {i : Nat} {is : List Nat} {e1 : Expr} (h : PG X (.Tuple [e1, .Tuple es2 k2 p2] kk p) (gTup X.K 2 (gCons (gName i) (gCons (gTup X.K is.length (gNms is)) gNil)))) : PDG X (.Tuple [e1, .Tuple es2 k2 p2] kk p) (.nest i is) := h
end
end DL

/-! t += u, tuples; a suite that is not reached. -/
namespace DL
open PySem L2 PySem.Spec PyProof.Rows RZ
theorem noI_tup_add : typeLookup (.type "tuple") (dunderI "add") = pure none := am_miss_of_fast (by decide +kernel)
section
variable {X : Cx} {W : WX}
def rICat (K : PySem.W.Frag) : R2 := fun x y H Q => ∃ a b xs ys, x = .ref a ∧ y = .ref b ∧ SqT K H a xs ∧ SqT K H b ys ∧ xs ≠ [] ∧ ys ≠ [] ∧ xs.length + ys.length ≤ sizeLine ∧ ∀ p, H p = none → Q (.ref p) (upd H p (.tup (xs ++ ys)))
theorem iop_catT : OpR X (inplaceOp .Add) (rICat X.K) := by
  intro pins s σ H x y v u Q I rx ry h
  obtain ⟨a, b, xs, ys, rfl, rfl, ha, hb, hx, hy, hz, q⟩ := h
  cases rx
  cases ry
  obtain ⟨its, r1, p1, _⟩ := I.tuple ha
  obtain ⟨its2, r2, p2, _⟩ := I.tuple hb
  obtain ⟨⟨cls, dd, data, sl⟩, ho, hc, n, hd⟩ := id p1
  obtain ⟨⟨cls2, dd2, data2, sl2⟩, ho2, hc2, n2, hd2⟩ := id p2
  simp only at hc hd hc2 hd2
  subst hc hd hc2 hd2
  have e : its.toArray ++ its2.toArray = (its ++ its2).toArray := by simp
  have v1 : its ≠ [] := fun z => hx (r1.nil_iff.mp z)
  have v2 : its2 ≠ [] := fun z => hy (r2.nil_iff.mp z)
  refine wpAny_inplaceOp_concat (id := "tuple.__add__") ⟨_, ho, rfl⟩ ⟨_, ho2, rfl⟩ noI_tup_add noFill_tuple_add seq_tuple_add (call_meets PySem.F.slot_tuple_add ⟨_, ho, rfl⟩ PySem.F.entry_tuple_add (PySem.F.args_tuple_add_2 _ _)
    (tuple_addW2 a b its.toArray its2.toArray n n2 dd dd2 sl sl2 (by simpa using v1) (by simpa using v2) (by rw [List.size_toArray, List.size_toArray, ← r1.length, ← r2.length]; exact hz)) ⟨ho, ho2, ?_⟩)
  rw [e]
  exact ⟨.ref s.heap.objs.size, _, I.laid (t' := s.toks) (o := .tup (xs ++ ys)) (fun b ob q => Heap.get?_push_of_some _ q) (Nat.le_refl _) ⟨by rw [List.length_append]; exact hz, _, r1.append r2, IsTup.new _ _⟩, rfl, q _ (I.hok.fresh (Nat.le_refl _))⟩
noncomputable def gICat : D → D → DS → R D := fun x y s => match x, y with
  | .tup (a :: as), .tup (b :: bs) => if Pr ((a :: as).length + (b :: bs).length ≤ sizeLine) then .ok (.tup (a :: as ++ b :: bs)) s else .bad
  | _, _ => .bad
theorem opd_icat : OpD X W (rICat X.K) gICat := by
  intro ρ F s σ H x y v u Q rl r1 r2 h
  unfold gICat at h
  split at h
  · rename_i a as b bs
    obtain ⟨p1, vs, rfl, q1, l1⟩ := r1
    obtain ⟨p2, us, rfl, q2, l2⟩ := r2
    split at h
    · rename_i hc
      refine ⟨p1, p2, vs, us, rfl, rfl, sqT_mono rl.mem.sub q1, sqT_mono rl.mem.sub q2, fun z => ?_, fun z => ?_, by rw [l1.length, l2.length]; exact hc, Post.tup h rl (l1.append l2)⟩
      · have := l1.nil_iff.mp z; cases this
      · have := l2.nil_iff.mp z; cases this
    · exact h.elim
  · exact h.elim
/-- a suite that is not reached -/
theorem pdss_never (sts : List Stmt) : PDss X W sts (fun _ => .bad) := ⟨fun _ _ _ => False, ⟨fun _ _ _ _ _ _ h => h.elim⟩, fun _ _ _ _ _ _ _ h => h.elim⟩
end
end DL

/-! raise C(v) with a field, context None; try: .. except B as n: raise C(.. n.f ..) from n. -/
namespace DL
open PySem PySem.Spec PyProof.Rows L2 HotX L2H
section
variable {X : Cx} {e : Expr} {es : List Expr} {ta : TA} {p pos : Pos}
/-- C(e, ..) where nothing is handled: the six fields told -/
theorem pmk5_oexC {CX : CXT} {x : Str} {C fI : Addr} {k : Nat} {fd : FuncData} {ps : List Str} {sp : Sp} (T : OexC X.K C) (iC : PySem.W.findIn X.K (.ref C) "__init__" = some (some (.ref fI))) (tI : PySem.W.typeIn X.K (.ref fI) = some (.type "function"))
    (F1 : FnOk X.prog X.w X.K X.mg X.base CX k fI fd ps sp) (hr : Room (k + 1) X.A) (hb : Binds X.K fd ps []) (hx : Passes CX X (fun _ _ _ => False)) (hg : Gl X x) (hm : X.mg x = some (.ref C)) (ha : PA X (e :: es) ta)
    (hdb : (x == ("__debug__" : Str)) = false := by decide) (he : starEach (e :: es) X.env = (false, eval e X.env) :: starEach es X.env := by rfl) (hpl : (backTo pos (starEach es X.env)).any (·.1) = false := by rfl) :
    PMk5 X (.Call (.Name x p) (e :: es) [] pos) (tMkO C sp [] ta) := by
  intro pins s σ H Q I h
  obtain ⟨nm, q, N, bs, bm, sn, sub, ab, col, dd, k0, k1, k2, k3, k5, hC, hbm⟩ := T.cls
  refine wpAny_Call_Name_kw (ld_glob I hg hm ?_ hdb)
  refine PySem.W.callWith_K (h₀ := X.base) I.ok.mod.kin T.kC (thn (ha.run pos pins s σ H _ I h) fun us s1 ⟨vs, H1, I1, r1, hz, q1⟩ => ⟨I1.kIn, ?_⟩) he hpl
  show wpAny _ _ (call (.ref C) us) _ _ _
  obtain ⟨hp, g, dr, tk, os⟩ := s1
  have hsz : hp.objs.size ≤ hp.objs.size + 1 := Nat.le_succ _
  have hn : H1 (hp.objs.size + 1) = none := I1.hok.fresh hsz
  have hq := q1 (hp.objs.size + 1) hn
  rw [List.append_nil] at hq
  have kk : ∀ b o, hp.get? b = some o → ((hp.push (PySem.W.kdv_tup us)).push (PySem.HandSPX.excO C hp.objs.size)).get? b = some o := fun b o e => Heap.get?_push_of_some _ (Heap.get?_push_of_some _ e)
  have hget : ((hp.push (PySem.W.kdv_tup us)).push (PySem.HandSPX.excO C hp.objs.size)).get? (hp.objs.size + 1) = some (PySem.HandSPX.excO C hp.objs.size) := by heap_get
  have I2 : Inv X pins σ (upd H1 (hp.objs.size + 1) (exo (hp.objs.size + 1) C none)) ⟨(hp.push (PySem.W.kdv_tup us)).push (PySem.HandSPX.excO C hp.objs.size), g, dr, tk, os⟩ :=
    I1.laid (t' := tk) (a := hp.objs.size + 1) (o := exo (hp.objs.size + 1) C none) (h' := (hp.push (PySem.W.kdv_tup us)).push (PySem.HandSPX.excO C hp.objs.size)) kk hsz (exo_ok hget)
  have r2 : Vals (V.ref (hp.objs.size + 1) :: vs) (Value.ref (hp.objs.size + 1) :: us) := .cons rfl r1
  have hl : (Value.ref (hp.objs.size + 1) :: us ++ []).length = ps.length := by
    have e := r2.length
    rw [F1.len _ _ _ _ hq] at e
    rw [List.append_nil]
    exact e.symm
  have b2 := hb _ (Value.ref (hp.objs.size + 1) :: us) I2.kIn hl
  rw [List.append_nil] at b2
  have hus : us.length ≤ sizeLine := by
    rw [← Paired.length r1, sizeLine_eq]
    omega
  refine wpAny_call (PySem.HandSPX.call_own F.excBase_ValueError (fun Y => PySem.HandSPX.refsVE_contains Y bm hbm) (I1.kIn _ _ hC) (PySem.W.looks_findIn I1.kIn iC) (fun self => PySem.W.bind_fn I1.kIn self tI) hus
    (codeAny_mono (F1.run _ X.stack _ _ ⟨Value.ref (hp.objs.size + 1) :: us, []⟩ (Value.ref (hp.objs.size + 1) :: us) _ _ (fun _ _ _ => False) (hr.make C us []) (I2.env0.make C us []) b2 r2 hq) fun r s' hq' => ?_))
  cases r with
  | error er => exact hx pins σ _ _ er s' I2 hq'
  | ok fl =>
    cases fl with
    | ret u =>
      obtain ⟨v, H2, os2, bare2, un2, hok2, rv, ev, d, fs, ea, ed, hd1, q2⟩ := hq'
      subst ev
      obtain ⟨h2, g2, d2, t2, os'⟩ := s'
      obtain ⟨t0, G, J, kG, ge, hoe, na⟩ := mk_end0 (d2 := d2) (t2 := t2) I1 hsz kk un2 hok2 os2 bare2 ea ed hd1
      refine ⟨rv, ⟨hp.objs.size + 1, _, _, ⟨G, g2, d2, t2, os'⟩, _, .ref C, some d, rfl, J, kG, ge, hoe, ⟨rfl, rfl, fun vs hv => ?_⟩, rfl, rfl, na, rfl, bare2, raises_own T.exC T.tyC, q2⟩, fun a oe vs ea2 hg2 hd2 => ?_⟩
      · cases hv
        rfl
      · cases ea2
        have hg3 : h2.get? (hp.objs.size + 1) = some oe := hg2
        rw [hoe] at hg3
        cases hg3
        cases hd2
        show (4 : Nat) < 6
        decide
    | next => exact False.elim hq'
    | brk => exact False.elim hq'
    | cont => exact False.elim hq'
end
/-- a def of two names under a handled exception -/
theorem fun_okH {P : Program} {w : World} {K : PySem.W.Frag} {mg : Str → Option Value} {base : Heap} {CX : CXT} {x qual : Str} {st : Stmt} {f : Addr} {fd : FuncData} {N ps : List Str} {k : Nat} {sp : Sp} (F : Fun K x qual st f fd) (S : FnScope N ps (defScope st)) (len : ∀ vs H Q E, sp vs H Q E → vs.length = ps.length)
    (hb : ∀ (cdv : Value) (A : Around) (outer : List Env) (s : Shared) (H : Hp) (vs : List V) (Q : VK) (E : XK) (p : Addr × Obj), Hot1 A p → RoomH k (A.deeper (envOfC qual (defScope st) s.heap.objs.size f cdv)) → sp vs H Q E →
      ∃ t, PSs (cxH CX P w K mg base N qual (defScope st) f cdv A outer s H E p) (defBody st) t ∧ t { nx := fun _ H' => Q .non H', rt := Q } (L2.start N vs) H) :
    FnH P w K mg base CX (k + 1) f fd ps sp := by
  obtain ⟨oc, od, kV, doc, pm, an, cdv, ct, osl, rfl, lk, hcd⟩ := F.ex
  exact fn_ofH lk hcd S len fun A outer s H vs Q E p hot hr h => hb cdv A outer s H vs Q E p hot hr h
section
variable {X : Cx} {W : WX} {c f p : Str} {C fI : Addr} {fd : FuncData} {ok : V → Prop} {okd : D → Prop} {e : Expr} {fa : DS → R (List D)} {p1 pos pos2 : Pos}
theorem pds_raiseFN (T : ExcF X.prog X.w X.K X.mg X.base c f p C fI fd ok) (hok : ∀ ρ F d v, okd d → Rd X.K ρ F d v → ok v) (hc : X.calm = true) (hr : Room 2 X.A) (tk : L2N.Takes X W) (ha : PDA X W [e] fa) (hg : Gl X c := by rfl)
    (hdb : (c == ("__debug__" : Str)) = false := by decide) (he : starEach [e] X.env = (false, eval e X.env) :: starEach [] X.env := by rfl) (hpl : (backTo pos (starEach [] X.env)).any (·.1) = false := by rfl) :
    PDs X W (.Raise (some (.Call (.Name c p1) [e] [] pos)) none pos2) (fRaiseF c f okd fa) := by
  obtain ⟨t, ea, l⟩ := ha
  exact ⟨_, L2N.ps_raise hc tk (pmk5_oexC T.ox T.iC T.tI T.fn hr T.hb passL hg T.gC ea hdb he hpl).pmk, fun ρ F s σ H E rl h => raiseF_run T hok l rl h⟩
/-! ### in a suite that may raise -/
theorem suiteY_in {a : Addr} {pn pins : List (Addr × Obj)} {xe : Value → Shared → Prop} {σ : L2.St} {H : Hp} {s : Shared} (I : Inv (suiteY X a pn xe) pins σ H s) : Inv (X.suite a pn) pins σ H s := I.wish fun _ _ => False
theorem pa_suiteY {a : Addr} {pn : List (Addr × Obj)} {xe : Value → Shared → Prop} {es : List Expr} {t : TA} (h : PA (X.suite a pn) es t) : PA (suiteY X a pn xe) es t := by
  refine ⟨fun pos pins s σ H Q I q => ?_⟩
  exact wpAny_mono (h.run pos pins s σ H Q (suiteY_in I) q) (fun us s1 ⟨vs, H1, J, r, q1⟩ => ⟨vs, H1, suiteY_of J, r, q1⟩) fun _ _ z => z.elim
/-- as ExcF, under a handled exception too -/
structure ExcFH (P : Program) (w : World) (K : PySem.W.Frag) (mg : Str → Option Value) (base : Heap) (c f p : Str) (C fI : Addr) (fd : FuncData) (ok : V → Prop) : Prop extends ExcF P w K mg base c f p C fI fd ok where
  fnH : FnH P w K mg base (L2.CX P w) 1 fI fd ["self", p] (spI K C f ok)
theorem raiseH_run {t : TA} {a0 : Addr} {pn : List (Addr × Obj)} {i : Nat} (T : ExcF X.prog X.w X.K X.mg X.base c f p C fI fd ok) (hok : ∀ ρ F d v, okd d → Rd X.K ρ F d v → ok v) (l : Stl (X.suite a0 pn) W0 (RdL X.K) t fa) {ρ : List Addr} {F : Hp} {s s2 : DS} {σ : L2.St} {H : Hp} {E : Ends} {d : D}
    (rl : Rel X.K X.mg ρ F s σ H) (q : fa s = .ok [d] s2) (hd : okd d) (h : PostS X W ρ F H E (.ex ⟨c, [(f, d)]⟩ { s2 with g := s2.g.set i none })) : tMkO C (spI X.K C f ok) [] t σ H (fun cls d H' => W cls d (σ.set i none) H') := by
  refine l ρ F s σ H _ rl ?_
  rw [q]
  intro ρ1 F1 H1 vs x1 rl1 rd1
  obtain ⟨v, rfl, rd⟩ := rdl1 rd1
  refine ⟨by simp, fun a ha => ⟨a, v, rfl, hok _ _ _ _ hd rd, upd_same, fun dx hdx hne => ?_⟩⟩
  rw [upd_ne hne] at hdx
  refine ⟨rfl, dx, [(f, v)], upd_same, by rw [upd_ne hne, upd_same], hdx, ?_⟩
  rw [made_heap ha hne]
  have rl1' : Rel X.K X.mg ρ1 F1 s2 σ H1 := rl1
  obtain ⟨m2, x2⟩ := rl1'.mem.frozen (p := dx) (o := .xd [(f, v)]) hdx
  exact h _ _ _ (σ.set i none) _ _ (x1.trans x2) ⟨m2, (rl1'.slo.ext x2).unset i⟩ ⟨C, T.gC, rfl, (fun z => by cases z), fun _ => ⟨dx, [(f, v)], rfl, upd_same, ⟨v, [], rfl, rd.ext x2, rfl⟩⟩⟩
end
/-- try: .. except B as n: raise C(e) from n -/
noncomputable def fTryFromF (fb : DS → R Fl) (ctch : Ex → Option Bool) (i : Nat) (c f : Str) (okd : D → Prop) (fa : Addr → Addr → Ex → DS → R (List D)) : DS → R Fl := fun s => match fb s with
  | .ex e s1 => match ctch e with
    | some true => if i < s1.g.length then (match fa 0 0 e { s1 with g := s1.g.set i (some (excD 0 0 e)) } with
      | .ok [d] s2 => if Pr (okd d) then .ex ⟨c, [(f, d)]⟩ { s2 with g := s2.g.set i none } else .bad
      | _ => .bad) else .bad
    | some false => .ex e s1
    | none => .bad
  | r => r
section
variable {X : Cx} {W : WX}
theorem pds_try_fromF {xn n c2 f2 q2 : Str} {c : Value} {C2 fI : Addr} {fd : FuncData} {ok : V → Prop} {okd : D → Prop} {e2 : Expr} {i : Nat} {body : List Stmt} {np np2 p2 p4 p5 pos pos' : Pos} {fb : DS → R Fl} {ctch : Ex → Option Bool} {fa : Addr → Addr → Ex → DS → R (List D)}
    (hs : X.stack = X.env :: X.outer) (hf : X.env.frame = some X.env.locals) (hN : X.N.Nodup) (hi : X.N[i]? = some n) (hln : X.env.kindOf n = some .local) (hc : Names X xn c) (hpa : ∀ hd : Option Value, PassesOwnAt (model X.prog X.w) (X.A.mark hd) X.A X.env X.xe) (tk : Takes X W) (hr : Room 2 X.A)
    (hct : ∀ (e : Ex) b C, ctch e = some b → X.mg e.cls = some (.ref C) → PySem.W.exmOne X.K (.ref C) c = some b)
    (hra : ∀ (e : Ex) C, ctch e = some true → X.mg e.cls = some (.ref C) → PySem.W.subIn X.K (.ref C) (.type "BaseException") = some true ∧ PySem.W.typeIn X.K (.ref C) = some (.type "type"))
    (T : ExcFH X.prog X.w X.K X.mg X.base c2 f2 q2 C2 fI fd ok) (hok : ∀ ρ F d v, okd d → Rd X.K ρ F d v → ok v)
    (hb : ∀ (W' : WX) (pn : List (Addr × Obj)) (xe : Value → Shared → Prop), L2N.Takes (X.tr pn xe) W' → PassesOwn (model X.prog X.w) X.A X.env xe → PDss (X.tr pn xe) W' body fb)
    (ha : ∀ (a dx : Addr) (oe : Obj) (cls : Value) (d : Option Addr) (pn : List (Addr × Obj)) (e : Ex), HeldF X e cls d dx a oe → ctch e = some true → PDA (X.suite a ((a, oe) :: pn)) W0 [e2] (fa a dx e))
    (hin : ∀ (a dx : Addr) (e : Ex) (s : DS), (fa a dx e { s with g := s.g.set i (some (excD a dx e)) }).bind (fun fl s2 => R.ok fl { s2 with g := s2.g.set i none }) = (fa 0 0 e { s with g := s.g.set i (some (excD 0 0 e)) }).bind (fun fl s2 => R.ok fl { s2 with g := s2.g.set i none }))
    (hv : Vis X.env.scope n) (hg : Gl X c2 := by rfl) (hdb : (c2 == ("__debug__" : Str)) = false := by decide) (hd1 : (n == ("__debug__" : Str)) = false := by decide) (hd2 : (n == ("__classdict__" : Str)) = false := by decide)
    (he : starEach [e2] X.env = (false, eval e2 X.env) :: starEach [] X.env := by rfl) (hpl : (backTo p4 (starEach [] X.env)).any (·.1) = false := by rfl) :
    PDs X W (.Try body [.ExceptHandler (some (.Name xn np)) (some n) [.Raise (some (.Call (.Name c2 p2) [e2] [] p4)) (some (.Name n np2)) p5] pos'] [] [] pos) (fTryFromF fb ctch i c2 f2 okd fa) := by
  let tb : WX → TS := fun W' => fun D σ H => ∀ pn xe (h1 : L2N.Takes (X.tr pn xe) W') (h2 : PassesOwn (model X.prog X.w) X.A X.env xe), (Classical.choose (hb W' pn xe h1 h2)) D σ H
  let tsO : Addr → Addr → Value → Option Addr → Ex → Obj → List (Addr × Obj) → L2.St → Hp → Prop := fun a dx cls d e oe pn => fun σ H => ∀ (h : HeldF X e cls d dx a oe) (h' : ctch e = some true), tMkO C2 (spI X.K C2 f2 ok) [] (Classical.choose (ha a dx oe cls d pn e h h')) σ H (fun cls d H' => W cls d (σ.set i none) H')
  let ts : Addr → Value → Option Addr → TS := fun a cls d => fun D σ H => Raises X cls ∧ σ[i]? = some (some (.ref a)) ∧ ∃ (e : Ex) (dx : Addr), (∃ C, X.mg e.cls = some (.ref C) ∧ cls = .ref C) ∧ (e.fs = [] → d = none) ∧ (e.fs ≠ [] → d = some dx) ∧ ctch e = some true ∧ ∀ oe pn, tsO a dx cls d e oe pn σ H
  refine ⟨_, ps_try_asX (tb := tb) (ts := ts) hs hf hN hi hln hc hpa tk (fun W' pn xe h1 h2 => ⟨fun pins s σ H D I h => (Classical.choose_spec (hb W' pn xe h1 h2)).1.run pins s σ H D I (h pn xe h1 h2)⟩)
    (fun a oe cls d pn xe hz hf' tkS => ⟨fun pins s σ H D I h => ?_⟩), fun ρ F s σ H E rl h => ?_⟩
  · obtain ⟨hra, hσ, e, dx, hcl, hn, hn2, hq, hw⟩ := h
    obtain ⟨vs, hd⟩ := id hf'
    have hr0 : Raises (suiteY X a ((a, oe) :: pn) xe) oe.cls := by rw [hz.1]; exact hra
    have hh : HeldF X e cls d dx a oe := ⟨hz.zc, hf', hcl, hn, hn2⟩
    have hot : HotC (suiteY X a ((a, oe) :: pn) xe) := ⟨(a, oe), ⟨rfl, vs, hd, hz.2.2 vs hd⟩, List.mem_cons_self⟩
    have pm := pmk5_oexH (X := suiteY X a ((a, oe) :: pn) xe) (CX := L2.CX X.prog X.w) (x := c2) (p := p2) (pos := p4) T.ox T.iC T.tI T.fnH (roomH_mark hr _) hot T.hb passL hg T.gC (pa_suiteY (xe := xe) (Classical.choose_spec (ha a dx oe cls d pn e hh hq)).1) hdb he hpl
    have ps := ps_raiseHC (X := suiteY X a ((a, oe) :: pn) xe) (i := i) (n := n) (np := np2) (pos := p5) (List.mem_cons_self) rfl hd (hz.2.2 vs hd) hr0 hi hv tkS pm hd1 hd2
    exact (pss_one ps).run pins s σ H D I ⟨hσ, hw oe pn hh hq⟩
  · intro pn xe h1 h2
    refine (Classical.choose_spec (hb _ pn xe h1 h2)).2 ρ F s σ H E rl ?_
    unfold fTryFromF at h
    cases q : fb s with
    | bad => rw [q] at h; exact h
    | ok fl s1 => rw [q] at h; cases fl <;> exact h
    | ex e s1 =>
      rw [q] at h
      simp only at h
      intro ρ1 F1 H1 σ1 cls d x1 rl1 er
      have er0 := er
      obtain ⟨C, hC, rfl, hn1, hn2⟩ := er
      cases qc : ctch e with
      | none => rw [qc] at h; exact h.elim
      | some b =>
        rw [qc] at h
        refine ⟨b, hct _ b C qc hC, fun hb' a hna => ?_, fun hb' => ?_⟩
        · subst hb'
          simp only at h
          split at h
          · rename_i hl
            obtain ⟨z1, z2⟩ := hra e C qc hC
            have hl' : i < σ1.length := by rw [← rl1.slo.len]; exact hl
            obtain ⟨dx, hdx⟩ : ∃ dx, e.fs ≠ [] → d = some dx := by
              by_cases hz : e.fs = []
              · exact ⟨0, fun z => absurd hz z⟩
              · obtain ⟨x, vs, e1, _⟩ := hn2 hz
                exact ⟨x, fun _ => e1⟩
            refine ⟨raises_own z1 z2, by rw [List.getElem?_set_self hl'], e, dx, ⟨C, hC, rfl⟩, hn1, hdx, qc, fun oe pn hh hq => ?_⟩
            have hin' := hin a dx e s1
            cases q0 : fa 0 0 e { s1 with g := s1.g.set i (some (excD 0 0 e)) } with
            | bad => rw [q0] at h; exact h.elim
            | ex _ _ => rw [q0] at h; exact h.elim
            | ok ds s0 =>
              rw [q0] at h hin'
              cases qa : fa a dx e { s1 with g := s1.g.set i (some (excD a dx e)) } with
              | bad => rw [qa] at hin'; cases hin'
              | ex _ _ => rw [qa] at hin'; cases hin'
              | ok dsa sa =>
                rw [qa] at hin'
                have hin2 : R.ok dsa { sa with g := sa.g.set i none } = R.ok ds { s0 with g := s0.g.set i none } := hin'
                injection hin2 with e1 e2
                subst e1
                match dsa, h, qa with
                | [d2], h, qa =>
                  simp only at h
                  split at h
                  · rename_i hd
                    have h3 : PostS X W ρ1 F1 H1 E (.ex ⟨c2, [(f2, d2)]⟩ { sa with g := sa.g.set i none }) := by
                      rw [e2]
                      exact PostS.ext h x1
                    have rr := raiseH_run (i := i) T.toExcF hok (Classical.choose_spec (ha a dx oe (.ref C) d pn e hh hq)).2 (s := { s1 with g := s1.g.set i (some (excD a dx e)) }) (σ := σ1.set i (some (.ref a))) ⟨rl1.mem, rl1.slo.set i (excD_rd er0 hdx)⟩ qa hd h3
                    exact rr
                  · exact h.elim
                | [], h, _ => exact h.elim
                | _ :: _ :: _, h, _ => exact h.elim
          · exact h.elim
        · subst hb'
          simp only at h
          exact h ρ1 F1 H1 σ1 (.ref C) d x1 rl1 ⟨C, hC, rfl, hn1, hn2⟩
end
end DL

set_option Elab.async false
set_option linter.all false
set_option maxRecDepth 100000
set_option maxHeartbeats 4000000
namespace DL.My
open PySem L2 DL

def topS (i : Nat) : Stmt := PySem.Challenge.pw_plugtree_k09_rows_of_plans_at_fault.main.body.getD i (.Pass ⟨0, 0, 0, 0⟩)
def clsBody : Stmt → List Stmt
  | .ClassDef (body := b) .. => b
  | _ => []
abbrev s_init_BadPlan : Stmt := (clsBody (topS 2)).getD 0 (.Pass ⟨0, 0, 0, 0⟩)
theorem sc_init_BadPlan : FnScope ["self", "at"] ["self", "at"] (defScope s_init_BadPlan) := ⟨rfl, rfl, rfl, by decide +kernel, rfl, by decide +kernel, by decide +kernel⟩
abbrev s_good_end : Stmt := topS 8
abbrev N_good_end : List Str := ["end", "number", "way", "kind", "size", "every"]
theorem sc_good_end : FnScope ["end", "number", "way", "kind", "size", "every"] ["end"] (defScope s_good_end) := ⟨rfl, rfl, rfl, by decide +kernel, rfl, by decide +kernel, by decide +kernel⟩
abbrev s_need_plan : Stmt := topS 9
abbrev N_need_plan : List Str := ["plan", "maker", "model", "ports", "ends", "at", "number", "end"]
theorem sc_need_plan : FnScope ["plan", "maker", "model", "ports", "ends", "at", "number", "end"] ["plan"] (defScope s_need_plan) := ⟨rfl, rfl, rfl, by decide +kernel, rfl, by decide +kernel, by decide +kernel⟩
abbrev s_two : Stmt := topS 10
abbrev N_two : List Str := ["number"]
theorem sc_two : FnScope ["number"] ["number"] (defScope s_two) := ⟨rfl, rfl, rfl, by decide +kernel, rfl, by decide +kernel, by decide +kernel⟩
abbrev s_device_row : Stmt := topS 11
abbrev N_device_row : List Str := ["plan", "kind"]
theorem sc_device_row : FnScope ["plan", "kind"] ["plan"] (defScope s_device_row) := ⟨rfl, rfl, rfl, by decide +kernel, rfl, by decide +kernel, by decide +kernel⟩
abbrev s_end_row : Stmt := topS 12
abbrev N_end_row : List Str := ["end", "number", "way", "kind", "size", "every"]
theorem sc_end_row : FnScope ["end", "number", "way", "kind", "size", "every"] ["end"] (defScope s_end_row) := ⟨rfl, rfl, rfl, by decide +kernel, rfl, by decide +kernel, by decide +kernel⟩
abbrev s_settings_row : Stmt := topS 13
abbrev N_settings_row : List Str := ["plan", "rest", "end"]
theorem sc_settings_row : FnScope ["plan", "rest", "end"] ["plan"] (defScope s_settings_row) := ⟨rfl, rfl, rfl, by decide +kernel, rfl, by decide +kernel, by decide +kernel⟩
abbrev s_end_of : Stmt := topS 14
abbrev N_end_of : List Str := ["row", "way"]
theorem sc_end_of : FnScope ["row", "way"] ["row"] (defScope s_end_of) := ⟨rfl, rfl, rfl, by decide +kernel, rfl, by decide +kernel, by decide +kernel⟩
abbrev s_first_unlike : Stmt := topS 15
abbrev N_first_unlike : List Str := ["row", "due", "at", "one", "other"]
theorem sc_first_unlike : FnScope ["row", "due", "at", "one", "other"] ["row", "due"] (defScope s_first_unlike) := ⟨rfl, rfl, rfl, by decide +kernel, rfl, by decide +kernel, by decide +kernel⟩
abbrev s_plan_told : Stmt := topS 16
abbrev N_plan_told : List Str := ["device", "settings", "ends", "at"]
theorem sc_plan_told : FnScope ["device", "settings", "ends", "at"] ["device", "settings"] (defScope s_plan_told) := ⟨rfl, rfl, rfl, by decide +kernel, rfl, by decide +kernel, by decide +kernel⟩
abbrev s_read_plan : Stmt := topS 17
abbrev N_read_plan : List Str := ["device", "settings", "plan", "e", "at"]
theorem sc_read_plan : FnScope ["device", "settings", "plan", "e", "at"] ["device", "settings"] (defScope s_read_plan) := ⟨rfl, rfl, rfl, by decide +kernel, rfl, by decide +kernel, by decide +kernel⟩
abbrev s_law_bag : Stmt := topS 19
abbrev N_law_bag : List Str := ["_law_script", "_law_cells", "_law_knot", "_law_cell"]
theorem sc_law_bag : FnScope ["_law_script", "_law_cells", "_law_knot", "_law_cell"] ["_law_script"] (defScope s_law_bag) := ⟨rfl, rfl, rfl, by decide +kernel, rfl, by decide +kernel, by decide +kernel⟩
abbrev s_law_pull : Stmt := topS 20
abbrev N_law_pull : List Str := ["_law_bag_here", "_law_upto", "_law_seed", "_law_fold", "_law_twist", "_law_drawn"]
theorem sc_law_pull : FnScope ["_law_bag_here", "_law_upto", "_law_seed", "_law_fold", "_law_twist", "_law_drawn"] ["_law_bag_here", "_law_upto"] (defScope s_law_pull) := ⟨rfl, rfl, rfl, by decide +kernel, rfl, by decide +kernel, by decide +kernel⟩
abbrev s_law_whole : Stmt := topS 21
abbrev N_law_whole : List Str := ["_law_found"]
theorem sc_law_whole : FnScope ["_law_found"] ["_law_found"] (defScope s_law_whole) := ⟨rfl, rfl, rfl, by decide +kernel, rfl, by decide +kernel, by decide +kernel⟩
abbrev s_law_same : Stmt := topS 22
abbrev N_law_same : List Str := ["_law_found", "_law_due_here", "_law_spot"]
theorem sc_law_same : FnScope ["_law_found", "_law_due_here", "_law_spot"] ["_law_found", "_law_due_here"] (defScope s_law_same) := ⟨rfl, rfl, rfl, by decide +kernel, rfl, by decide +kernel, by decide +kernel⟩
abbrev s_law_one : Stmt := topS 23
abbrev N_law_one : List Str := ["_law_bag_here", "_law_row"]
theorem sc_law_one : FnScope ["_law_bag_here", "_law_row"] ["_law_bag_here", "_law_row"] (defScope s_law_one) := ⟨rfl, rfl, rfl, by decide +kernel, rfl, by decide +kernel, by decide +kernel⟩
abbrev s_law_end : Stmt := topS 24
abbrev N_law_end : List Str := ["_law_bag_here", "_law_spot", "_law_kind", "_law_size_drawn"]
theorem sc_law_end : FnScope ["_law_bag_here", "_law_spot", "_law_kind", "_law_size_drawn"] ["_law_bag_here", "_law_spot"] (defScope s_law_end) := ⟨rfl, rfl, rfl, by decide +kernel, rfl, by decide +kernel, by decide +kernel⟩
abbrev s_law_ends : Stmt := topS 25
abbrev N_law_ends : List Str := ["_law_bag_here", "_law_most", "_law_spots", "_law_k", "_law_spot"]
theorem sc_law_ends : FnScope ["_law_bag_here", "_law_most", "_law_spots", "_law_k", "_law_spot"] ["_law_bag_here", "_law_most"] (defScope s_law_ends) := ⟨rfl, rfl, rfl, by decide +kernel, rfl, by decide +kernel, by decide +kernel⟩
abbrev s_law_plan : Stmt := topS 26
abbrev N_law_plan : List Str := ["_law_bag_here", "_law_most", "_law_hub", "_law_maker", "_law_model", "_law_holes"]
theorem sc_law_plan : FnScope ["_law_bag_here", "_law_most", "_law_hub", "_law_maker", "_law_model", "_law_holes"] ["_law_bag_here", "_law_most", "_law_hub"] (defScope s_law_plan) := ⟨rfl, rfl, rfl, by decide +kernel, rfl, by decide +kernel, by decide +kernel⟩
abbrev s_law_two : Stmt := topS 27
abbrev N_law_two : List Str := ["_law_number"]
theorem sc_law_two : FnScope ["_law_number"] ["_law_number"] (defScope s_law_two) := ⟨rfl, rfl, rfl, by decide +kernel, rfl, by decide +kernel, by decide +kernel⟩
abbrev s_law_device : Stmt := topS 28
abbrev N_law_device : List Str := ["_law_plan_here", "_law_row"]
theorem sc_law_device : FnScope ["_law_plan_here", "_law_row"] ["_law_plan_here"] (defScope s_law_device) := ⟨rfl, rfl, rfl, by decide +kernel, rfl, by decide +kernel, by decide +kernel⟩
abbrev s_law_settings : Stmt := topS 29
abbrev N_law_settings : List Str := ["_law_plan_here", "_law_rest", "_law_number", "_law_way", "_law_kind", "_law_piece_size", "_law_every", "_law_byte"]
theorem sc_law_settings : FnScope ["_law_plan_here", "_law_rest", "_law_number", "_law_way", "_law_kind", "_law_piece_size", "_law_every", "_law_byte"] ["_law_plan_here"] (defScope s_law_settings) := ⟨rfl, rfl, rfl, by decide +kernel, rfl, by decide +kernel, by decide +kernel⟩
abbrev s_law_end_good : Stmt := topS 30
abbrev N_law_end_good : List Str := ["_law_end_here", "_law_number", "_law_way", "_law_kind", "_law_piece_size", "_law_every"]
theorem sc_law_end_good : FnScope ["_law_end_here", "_law_number", "_law_way", "_law_kind", "_law_piece_size", "_law_every"] ["_law_end_here"] (defScope s_law_end_good) := ⟨rfl, rfl, rfl, by decide +kernel, rfl, by decide +kernel, by decide +kernel⟩
abbrev s_law_told_plan : Stmt := topS 31
abbrev N_law_told_plan : List Str := ["_law_first", "_law_second", "_law_ends_here", "_law_k", "_law_row", "_law_kind"]
theorem sc_law_told_plan : FnScope ["_law_first", "_law_second", "_law_ends_here", "_law_k", "_law_row", "_law_kind"] ["_law_first", "_law_second"] (defScope s_law_told_plan) := ⟨rfl, rfl, rfl, by decide +kernel, rfl, by decide +kernel, by decide +kernel⟩
abbrev s_law_due : Stmt := topS 32
abbrev N_law_due : List Str := ["_law_first", "_law_second", "_law_plan_here", "_law_k", "_law_end_here", "_law_row", "_law_good", "_law_at"]
theorem sc_law_due : FnScope ["_law_first", "_law_second", "_law_plan_here", "_law_k", "_law_end_here", "_law_row", "_law_good", "_law_at"] ["_law_first", "_law_second"] (defScope s_law_due) := ⟨rfl, rfl, rfl, by decide +kernel, rfl, by decide +kernel, by decide +kernel⟩
abbrev s_law_bent : Stmt := topS 33
abbrev N_law_bent : List Str := ["_law_bag_here", "_law_row", "_law_at", "_law_odd", "_law_pick"]
theorem sc_law_bent : FnScope ["_law_bag_here", "_law_row", "_law_at", "_law_odd", "_law_pick"] ["_law_bag_here", "_law_row"] (defScope s_law_bent) := ⟨rfl, rfl, rfl, by decide +kernel, rfl, by decide +kernel, by decide +kernel⟩
abbrev s_law_said : Stmt := topS 34
abbrev N_law_said : List Str := ["_law_first", "_law_second", "_law_told", "_law_at", "e"]
theorem sc_law_said : FnScope ["_law_first", "_law_second", "_law_told", "_law_at", "e"] ["_law_first", "_law_second"] (defScope s_law_said) := ⟨rfl, rfl, rfl, by decide +kernel, rfl, by decide +kernel, by decide +kernel⟩
abbrev s_law : Stmt := topS 35
abbrev N_law : List Str := ["_law_script", "_law_bag_here", "_law_k", "_law_plan_here", "_law_rows", "_law_more", "_law_which"]
theorem sc_law : FnScope ["_law_script", "_law_bag_here", "_law_k", "_law_plan_here", "_law_rows", "_law_more", "_law_which"] ["_law_script"] (defScope s_law) := ⟨rfl, rfl, rfl, by decide +kernel, rfl, by decide +kernel, by decide +kernel⟩
def ct_BadPlan : Ex → Option Bool := fun e => if e.cls = "BadPlan" ∧ e.fs.map (fun p => p.1) = [("at" : Str)] then some true else none

abbrev gv_SIZES : D := (.tup [(.int 8), (.int 16), (.int 32), (.int 64)])
abbrev gv_PERIODS : D := (.tup [(.int 1), (.int 2), (.int 4), (.int 8), (.int 16), (.int 32)])
abbrev gv_MOST_ENDS : D := (.int 8)
abbrev gv_MOST_PORTS : D := (.int 4)

noncomputable section

def b_good_end : DS → R Fl :=
  (fSeq (fAsg (fVar 0) (.many [1, 2, 3, 4, 5]))
    (fSeq (fIfS (fOrT (fNotT (fTst (fChain (fC (.int 1)) (fVar 1) (fC (.int 7)) gLe gLe))) (fTst (fBin (fVar 2) (fTup (fCons (fC (.str "in")) (fCons (fC (.str "out")) fNil))) (gIn true)))) (fRet (fC (.bl false))) fNx)
    (fSeq (fIfS (fTst (fBin (fVar 3) (fC (.str "bulk")) gEq)) (fRet (fAndV (fBin (fVar 4) (fC gv_SIZES) (gIn false)) (fBin (fVar 5) (fC (.int 0)) gEq))) fNx)
    (fRet (fAndV (fBin (fVar 3) (fC (.str "timed")) gEq) (fAndV (fChain (fC (.int 1)) (fVar 4) (fC (.int 64)) gLe gLe) (fBin (fVar 5) (fC gv_PERIODS) (gIn false))))))))
def g_good_end : GP := pureF (runF 6 b_good_end)
theorem eq_good_end : ∀ args, args.length = 1 → g_good_end args ≠ .bad → pureF (runF 6 b_good_end) args = g_good_end args := fun _ _ _ => rfl

structure En where
  n : Int
  w : String
  k : String
  s : Int
  e : Int
def encE (x : En) : D := .tup [.int x.n, .str (x.w : Str), .str (x.k : Str), .int x.s, .int x.e]
def goodE (x : En) : Prop := (1 ≤ x.n ∧ x.n ≤ 7) ∧ (x.w = "in" ∨ x.w = "out") ∧ ((x.k = "bulk" ∧ (x.s = 8 ∨ x.s = 16 ∨ x.s = 32 ∨ x.s = 64) ∧ x.e = 0) ∨ (x.k = "timed" ∧ (1 ≤ x.s ∧ x.s ≤ 64) ∧ (x.e = 1 ∨ x.e = 2 ∨ x.e = 4 ∨ x.e = 8 ∨ x.e = 16 ∨ x.e = 32)))
def lt2 (x y : En) : Bool := PySem.W.dataLt (toP (.tup [.int x.n, .str (x.w : Str)])) (toP (.tup [.int y.n, .str (y.w : Str)]))
/-- an end drawn for a spot -/
def Rl (spot : Int) (x : En) : Prop := x.n = spot / 2 + 1 ∧ x.w = (if spot % 2 = 0 then "in" else "out") ∧ goodE x
theorem lt2_spots : ∀ a b : Fin 14, a.val < b.val → PySem.W.dataLt (toP (.tup [.int ((a.val : Int) / 2 + 1), .str (Str.ofString (if (a.val : Int) % 2 = 0 then "in" else "out"))])) (toP (.tup [.int ((b.val : Int) / 2 + 1), .str (Str.ofString (if (b.val : Int) % 2 = 0 then "in" else "out"))])) = true := by decide +kernel
theorem lt2_of (s t : Int) (x y : En) (h0 : 0 ≤ s) (h : s < t) (h1 : t < 14) (hx : Rl s x) (hy : Rl t y) : lt2 x y = true := by
  obtain ⟨a, rfl⟩ : ∃ a : Nat, s = (a : Int) := ⟨s.toNat, (Int.toNat_of_nonneg h0).symm⟩
  obtain ⟨b, rfl⟩ : ∃ b : Nat, t = (b : Int) := ⟨t.toNat, (Int.toNat_of_nonneg (by omega)).symm⟩
  have := lt2_spots ⟨a, by omega⟩ ⟨b, by omega⟩ (by show a < b; omega)
  unfold lt2
  rw [hx.1, hx.2.1, hy.1, hy.2.1]
  exact this
theorem encE_cl (n : Nat) (x : En) : clD n (encE x) = true := by simp [encE, clD, clL]
theorem encL_cl (n : Nat) : ∀ es : List En, clL n (es.map encE) = true
  | [] => rfl
  | x :: es => by simp only [List.map_cons, clL, encE_cl, encL_cl n es, Bool.and_self]
theorem encE_ok (n : Nat) (x : En) : okD (n + 1) (encE x) = true := by simp [encE, okD, okL]
theorem encL_ok (n : Nat) : ∀ es : List En, okL (n + 1) (es.map encE) = true
  | [] => rfl
  | x :: es => by simp only [List.map_cons, okL, encE_ok, encL_ok n es, Bool.and_self]
theorem encE_sz (x : En) : sizeOkD (encE x) = true := by simp [encE, sizeOkD, sizeOkL, sizeLine]
theorem encL_sz : ∀ es : List En, sizeOkL (es.map encE) = true
  | [] => rfl
  | x :: es => by simp only [List.map_cons, sizeOkL, encE_sz, encL_sz es, Bool.and_self]
/-- items drawn one by one, each by its own -/
theorem comp_each {α β : Type} {em : β → D} {step : D → DS → R (Option D)} {g : List (Option D)} {dm : α → D} {Rr : α → β → Prop} : ∀ (xs : List α) (h : ∀ x ∈ xs, ∀ b : Bag, 0 ≤ b.i → ∃ (y : β) (b' : Bag), Rr x y ∧ 0 ≤ b'.i ∧ ∀ μ, step (dm x) ⟨g, b.mo :: μ⟩ = .ok (some (em y)) ⟨g, b'.mo :: μ⟩) (acc : List D) (b : Bag), 0 ≤ b.i → acc.length + xs.length ≤ sizeLine →
    ∃ (ys : List β) (b' : Bag), 0 ≤ b'.i ∧ ys.length = xs.length ∧ (∀ (i : Nat) x y, xs[i]? = some x → ys[i]? = some y → Rr x y) ∧ ∀ μ, compL allw step (xs.map dm) acc ⟨g, b.mo :: μ⟩ = .ok (acc ++ ys.map em) ⟨g, b'.mo :: μ⟩
  | [], _, acc, b, hb, _ => ⟨[], b, hb, rfl, by simp, fun μ => by simp [compL_nil, allw]⟩
  | x :: xs, h, acc, b, hb, hl => by
    obtain ⟨y, b1, hr, i1, e1⟩ := h x (by simp) b hb
    obtain ⟨ys, b2, i2, l2, r2, e2⟩ := comp_each xs (fun z hz => h z (by simp [hz])) (acc ++ [em y]) b1 i1 (by simp at hl ⊢; omega)
    refine ⟨y :: ys, b2, i2, by simp [l2], fun i u v hu hv => ?_, fun μ => ?_⟩
    · cases i with
      | zero =>
        simp at hu hv
        subst hu hv
        exact hr
      | succ i => exact r2 i u v (by simpa using hu) (by simpa using hv)
    · rw [List.map_cons, compL_cons, if_pos (show allw _ = true from rfl), e1]
      simp only [bind_ok]
      rw [if_Pr (by simp at hl; omega), e2]
      simp
structure Pl where
  a : Int
  b : Int
  c : Int
  es : List En
def encP (p : Pl) : D := .tup [.int p.a, .int p.b, .int p.c, .tup (p.es.map encE)]
theorem encP_cl (n : Nat) (p : Pl) : clD n (encP p) = true := by simp only [encP, clD, clL, encL_cl, Bool.and_self]
theorem encP_ok (n : Nat) (p : Pl) : okD (n + 3) (encP p) = true := by simp only [encP, okD, okL, encL_ok, Bool.and_self]
theorem dcdb (c : Prop) [Decidable c] : decide c = dcd c := dcd_eq c
theorem sizes_in (neg : Bool) (s : Int) (t : DS) : gIn neg (.int s) (.tup [.int 8, .int 16, .int 32, .int 64]) t = .ok (.bl (if neg = true then !dcd (s = 8 ∨ s = 16 ∨ s = 32 ∨ s = 64) else dcd (s = 8 ∨ s = 16 ∨ s = 32 ∨ s = 64))) t := by
  have := gIn_ints neg s (.tup [.int 8, .int 16, .int 32, .int 64]) [8, 16, 32, 64] (.inl rfl) t
  rw [this]
  have e : ([8, 16, 32, 64].any fun b => dcd (b = s)) = dcd (s = 8 ∨ s = 16 ∨ s = 32 ∨ s = 64) := by
    rw [Bool.eq_iff_iff]
    simp
    omega
  rw [e]
theorem periods_in (neg : Bool) (s : Int) (t : DS) : gIn neg (.int s) (.tup [.int 1, .int 2, .int 4, .int 8, .int 16, .int 32]) t = .ok (.bl (if neg = true then !dcd (s = 1 ∨ s = 2 ∨ s = 4 ∨ s = 8 ∨ s = 16 ∨ s = 32) else dcd (s = 1 ∨ s = 2 ∨ s = 4 ∨ s = 8 ∨ s = 16 ∨ s = 32))) t := by
  have := gIn_ints neg s (.tup [.int 1, .int 2, .int 4, .int 8, .int 16, .int 32]) [1, 2, 4, 8, 16, 32] (.inl rfl) t
  rw [this]
  have e : ([1, 2, 4, 8, 16, 32].any fun b => dcd (b = s)) = dcd (s = 1 ∨ s = 2 ∨ s = 4 ∨ s = 8 ∨ s = 16 ∨ s = 32) := by
    rw [Bool.eq_iff_iff]
    simp
    omega
  rw [e]
theorem good_end_eq (x : En) : g_good_end [encE x] = .ok (.bl (dcd (goodE x))) ⟨[], []⟩ := by
  have hs := sizes_in false x.s
  have hp := periods_in false x.e
  simp only [Bool.false_eq_true, if_false] at hs hp
  obtain ⟨n, w, k, s, e⟩ := x
  unfold goodE
  simp only [encE] at *
  by_cases hn : 1 ≤ n ∧ n ≤ 7
  · by_cases hw : w = "in" ∨ w = "out"
    · have hw2 : (("in" : String) == w || ("out" : String) == w) = true := by rcases hw with rfl | rfl <;> rfl
      by_cases hb : k = "bulk"
      · subst hb
        by_cases h1 : s = 8 ∨ s = 16 ∨ s = 32 ∨ s = 64
        · have e1 : dcd (s = 8 ∨ s = 16 ∨ s = 32 ∨ s = 64) = true := dcd_pos h1
          rw [e1] at hs
          have e2 : dcd ((1 ≤ n ∧ n ≤ 7) ∧ (w = "in" ∨ w = "out") ∧ (("bulk" = "bulk" ∧ (s = 8 ∨ s = 16 ∨ s = 32 ∨ s = 64) ∧ e = 0) ∨ ("bulk" = "timed" ∧ (1 ≤ s ∧ s ≤ 64) ∧ (e = 1 ∨ e = 2 ∨ e = 4 ∨ e = 8 ∨ e = 16 ∨ e = 32)))) = dcd (e = 0) := by
            rw [Bool.eq_iff_iff]
            simp [hn, hw, h1]
          rw [e2]
          clear e2 e1 h1
          simp -dsimp -implicitDefEqProofs [pureF, runF, fVar, fC, fBin, gI, gI0, gAdd, gSub, gMul, gDiv, gMod, gPow, gAnd, gOr, gXor, gShl, gShr, gLt, gLe, gGt, gGe, fTst, asB, fChain, fNotT, fAndT, fOrT, fNotV, fAndV, fOrV, fIf, fIsN, isNon, fIfS, fSeq, fNx, fCt, fRet, fRetN, fDrop, fAsg, Tg.run, setAll, fCall, fCons, fNil, fTup, fLst, fNew, fMt, isLst, lstV, seqV, objL, gAppend, gExtend, gIx, fSl, gSl, fO, fNoO, fRev, fWR1, fWR2, fWL, wkSeq, fWT, wkTup, allw, fFor, fCallP, fCallS, clL, clD, clK, fVarZ, frzG, fRaise, fSetIx, fPar, gSetL, fAug, gLen, gList, gListN, gTuple, gInt, gIsi, tyOf, isTy, sizeLine, CPow, gIAdd, gAddN, wkEnumL, wkEnumT, fWEL, fWET, fNeg, fCallK, gSumT, gSumL, lsV, fWR3, fCallNP, g_good_end, b_good_end, hn.1, hn.2, hw2, hs]
        · have e1 : dcd (s = 8 ∨ s = 16 ∨ s = 32 ∨ s = 64) = false := dcd_neg h1
          rw [e1] at hs
          have e2 : dcd ((1 ≤ n ∧ n ≤ 7) ∧ (w = "in" ∨ w = "out") ∧ (("bulk" = "bulk" ∧ (s = 8 ∨ s = 16 ∨ s = 32 ∨ s = 64) ∧ e = 0) ∨ ("bulk" = "timed" ∧ (1 ≤ s ∧ s ≤ 64) ∧ (e = 1 ∨ e = 2 ∨ e = 4 ∨ e = 8 ∨ e = 16 ∨ e = 32)))) = false := dcd_neg fun z => by
            rcases z.2.2 with z | z
            · exact h1 z.2.1
            · exact absurd z.1 (by decide)
          rw [e2]
          clear e2 e1 h1
          simp -dsimp -implicitDefEqProofs [pureF, runF, fVar, fC, fBin, gI, gI0, gAdd, gSub, gMul, gDiv, gMod, gPow, gAnd, gOr, gXor, gShl, gShr, gLt, gLe, gGt, gGe, fTst, asB, fChain, fNotT, fAndT, fOrT, fNotV, fAndV, fOrV, fIf, fIsN, isNon, fIfS, fSeq, fNx, fCt, fRet, fRetN, fDrop, fAsg, Tg.run, setAll, fCall, fCons, fNil, fTup, fLst, fNew, fMt, isLst, lstV, seqV, objL, gAppend, gExtend, gIx, fSl, gSl, fO, fNoO, fRev, fWR1, fWR2, fWL, wkSeq, fWT, wkTup, allw, fFor, fCallP, fCallS, clL, clD, clK, fVarZ, frzG, fRaise, fSetIx, fPar, gSetL, fAug, gLen, gList, gListN, gTuple, gInt, gIsi, tyOf, isTy, sizeLine, CPow, gIAdd, gAddN, wkEnumL, wkEnumT, fWEL, fWET, fNeg, fCallK, gSumT, gSumL, lsV, fWR3, fCallNP, g_good_end, b_good_end, hn.1, hn.2, hw2, hs]
      · by_cases ht : k = "timed"
        · subst ht
          by_cases h1 : 1 ≤ s ∧ s ≤ 64
          · have e2 : dcd ((1 ≤ n ∧ n ≤ 7) ∧ (w = "in" ∨ w = "out") ∧ (("timed" = "bulk" ∧ (s = 8 ∨ s = 16 ∨ s = 32 ∨ s = 64) ∧ e = 0) ∨ ("timed" = "timed" ∧ (1 ≤ s ∧ s ≤ 64) ∧ (e = 1 ∨ e = 2 ∨ e = 4 ∨ e = 8 ∨ e = 16 ∨ e = 32)))) = dcd (e = 1 ∨ e = 2 ∨ e = 4 ∨ e = 8 ∨ e = 16 ∨ e = 32) := by
              rw [Bool.eq_iff_iff]
              simp [hn, hw, h1]
            rw [e2]
            generalize dcd (e = 1 ∨ e = 2 ∨ e = 4 ∨ e = 8 ∨ e = 16 ∨ e = 32) = B at *
            simp -dsimp -implicitDefEqProofs [pureF, runF, fVar, fC, fBin, gI, gI0, gAdd, gSub, gMul, gDiv, gMod, gPow, gAnd, gOr, gXor, gShl, gShr, gLt, gLe, gGt, gGe, fTst, asB, fChain, fNotT, fAndT, fOrT, fNotV, fAndV, fOrV, fIf, fIsN, isNon, fIfS, fSeq, fNx, fCt, fRet, fRetN, fDrop, fAsg, Tg.run, setAll, fCall, fCons, fNil, fTup, fLst, fNew, fMt, isLst, lstV, seqV, objL, gAppend, gExtend, gIx, fSl, gSl, fO, fNoO, fRev, fWR1, fWR2, fWL, wkSeq, fWT, wkTup, allw, fFor, fCallP, fCallS, clL, clD, clK, fVarZ, frzG, fRaise, fSetIx, fPar, gSetL, fAug, gLen, gList, gListN, gTuple, gInt, gIsi, tyOf, isTy, sizeLine, CPow, gIAdd, gAddN, wkEnumL, wkEnumT, fWEL, fWET, fNeg, fCallK, gSumT, gSumL, lsV, fWR3, fCallNP, g_good_end, b_good_end, hn.1, hn.2, hw2, h1.1, h1.2, hp]
          · have e2 : dcd ((1 ≤ n ∧ n ≤ 7) ∧ (w = "in" ∨ w = "out") ∧ (("timed" = "bulk" ∧ (s = 8 ∨ s = 16 ∨ s = 32 ∨ s = 64) ∧ e = 0) ∨ ("timed" = "timed" ∧ (1 ≤ s ∧ s ≤ 64) ∧ (e = 1 ∨ e = 2 ∨ e = 4 ∨ e = 8 ∨ e = 16 ∨ e = 32)))) = false := dcd_neg fun z => by
              rcases z.2.2 with z | z
              · exact absurd z.1 (by decide)
              · exact h1 z.2.1
            rw [e2]
            by_cases h2 : 1 ≤ s
            · have h3 : ¬ s ≤ 64 := fun z => h1 ⟨h2, z⟩
              simp -dsimp -implicitDefEqProofs [pureF, runF, fVar, fC, fBin, gI, gI0, gAdd, gSub, gMul, gDiv, gMod, gPow, gAnd, gOr, gXor, gShl, gShr, gLt, gLe, gGt, gGe, fTst, asB, fChain, fNotT, fAndT, fOrT, fNotV, fAndV, fOrV, fIf, fIsN, isNon, fIfS, fSeq, fNx, fCt, fRet, fRetN, fDrop, fAsg, Tg.run, setAll, fCall, fCons, fNil, fTup, fLst, fNew, fMt, isLst, lstV, seqV, objL, gAppend, gExtend, gIx, fSl, gSl, fO, fNoO, fRev, fWR1, fWR2, fWL, wkSeq, fWT, wkTup, allw, fFor, fCallP, fCallS, clL, clD, clK, fVarZ, frzG, fRaise, fSetIx, fPar, gSetL, fAug, gLen, gList, gListN, gTuple, gInt, gIsi, tyOf, isTy, sizeLine, CPow, gIAdd, gAddN, wkEnumL, wkEnumT, fWEL, fWET, fNeg, fCallK, gSumT, gSumL, lsV, fWR3, fCallNP, g_good_end, b_good_end, hn.1, hn.2, hw2, h2, h3]
            · simp -dsimp -implicitDefEqProofs [pureF, runF, fVar, fC, fBin, gI, gI0, gAdd, gSub, gMul, gDiv, gMod, gPow, gAnd, gOr, gXor, gShl, gShr, gLt, gLe, gGt, gGe, fTst, asB, fChain, fNotT, fAndT, fOrT, fNotV, fAndV, fOrV, fIf, fIsN, isNon, fIfS, fSeq, fNx, fCt, fRet, fRetN, fDrop, fAsg, Tg.run, setAll, fCall, fCons, fNil, fTup, fLst, fNew, fMt, isLst, lstV, seqV, objL, gAppend, gExtend, gIx, fSl, gSl, fO, fNoO, fRev, fWR1, fWR2, fWL, wkSeq, fWT, wkTup, allw, fFor, fCallP, fCallS, clL, clD, clK, fVarZ, frzG, fRaise, fSetIx, fPar, gSetL, fAug, gLen, gList, gListN, gTuple, gInt, gIsi, tyOf, isTy, sizeLine, CPow, gIAdd, gAddN, wkEnumL, wkEnumT, fWEL, fWET, fNeg, fCallK, gSumT, gSumL, lsV, fWR3, fCallNP, g_good_end, b_good_end, hn.1, hn.2, hw2, h2]
        · have e2 : dcd ((1 ≤ n ∧ n ≤ 7) ∧ (w = "in" ∨ w = "out") ∧ ((k = "bulk" ∧ (s = 8 ∨ s = 16 ∨ s = 32 ∨ s = 64) ∧ e = 0) ∨ (k = "timed" ∧ (1 ≤ s ∧ s ≤ 64) ∧ (e = 1 ∨ e = 2 ∨ e = 4 ∨ e = 8 ∨ e = 16 ∨ e = 32)))) = false := dcd_neg fun z => by
            rcases z.2.2 with z | z
            · exact hb z.1
            · exact ht z.1
          rw [e2]
          have b1 : (k == "bulk") = false := by simpa using hb
          have b2 : (k == "timed") = false := by simpa using ht
          simp -dsimp -implicitDefEqProofs [pureF, runF, fVar, fC, fBin, gI, gI0, gAdd, gSub, gMul, gDiv, gMod, gPow, gAnd, gOr, gXor, gShl, gShr, gLt, gLe, gGt, gGe, fTst, asB, fChain, fNotT, fAndT, fOrT, fNotV, fAndV, fOrV, fIf, fIsN, isNon, fIfS, fSeq, fNx, fCt, fRet, fRetN, fDrop, fAsg, Tg.run, setAll, fCall, fCons, fNil, fTup, fLst, fNew, fMt, isLst, lstV, seqV, objL, gAppend, gExtend, gIx, fSl, gSl, fO, fNoO, fRev, fWR1, fWR2, fWL, wkSeq, fWT, wkTup, allw, fFor, fCallP, fCallS, clL, clD, clK, fVarZ, frzG, fRaise, fSetIx, fPar, gSetL, fAug, gLen, gList, gListN, gTuple, gInt, gIsi, tyOf, isTy, sizeLine, CPow, gIAdd, gAddN, wkEnumL, wkEnumT, fWEL, fWET, fNeg, fCallK, gSumT, gSumL, lsV, fWR3, fCallNP, g_good_end, b_good_end, hn.1, hn.2, hw2, b1, b2]
    · have hw2 : (("in" : String) == w || ("out" : String) == w) = false := by
        simp only [not_or] at hw
        simp [Ne.symm hw.1, Ne.symm hw.2]
      rw [dcd_neg fun z => hw z.2.1]
      simp -dsimp -implicitDefEqProofs [pureF, runF, fVar, fC, fBin, gI, gI0, gAdd, gSub, gMul, gDiv, gMod, gPow, gAnd, gOr, gXor, gShl, gShr, gLt, gLe, gGt, gGe, fTst, asB, fChain, fNotT, fAndT, fOrT, fNotV, fAndV, fOrV, fIf, fIsN, isNon, fIfS, fSeq, fNx, fCt, fRet, fRetN, fDrop, fAsg, Tg.run, setAll, fCall, fCons, fNil, fTup, fLst, fNew, fMt, isLst, lstV, seqV, objL, gAppend, gExtend, gIx, fSl, gSl, fO, fNoO, fRev, fWR1, fWR2, fWL, wkSeq, fWT, wkTup, allw, fFor, fCallP, fCallS, clL, clD, clK, fVarZ, frzG, fRaise, fSetIx, fPar, gSetL, fAug, gLen, gList, gListN, gTuple, gInt, gIsi, tyOf, isTy, sizeLine, CPow, gIAdd, gAddN, wkEnumL, wkEnumT, fWEL, fWET, fNeg, fCallK, gSumT, gSumL, lsV, fWR3, fCallNP, g_good_end, b_good_end, hn.1, hn.2, hw2]
  · rw [dcd_neg fun z => hn z.1]
    by_cases h1 : 1 ≤ n
    · have h2 : ¬ n ≤ 7 := fun z => hn ⟨h1, z⟩
      simp -dsimp -implicitDefEqProofs [pureF, runF, fVar, fC, fBin, gI, gI0, gAdd, gSub, gMul, gDiv, gMod, gPow, gAnd, gOr, gXor, gShl, gShr, gLt, gLe, gGt, gGe, fTst, asB, fChain, fNotT, fAndT, fOrT, fNotV, fAndV, fOrV, fIf, fIsN, isNon, fIfS, fSeq, fNx, fCt, fRet, fRetN, fDrop, fAsg, Tg.run, setAll, fCall, fCons, fNil, fTup, fLst, fNew, fMt, isLst, lstV, seqV, objL, gAppend, gExtend, gIx, fSl, gSl, fO, fNoO, fRev, fWR1, fWR2, fWL, wkSeq, fWT, wkTup, allw, fFor, fCallP, fCallS, clL, clD, clK, fVarZ, frzG, fRaise, fSetIx, fPar, gSetL, fAug, gLen, gList, gListN, gTuple, gInt, gIsi, tyOf, isTy, sizeLine, CPow, gIAdd, gAddN, wkEnumL, wkEnumT, fWEL, fWET, fNeg, fCallK, gSumT, gSumL, lsV, fWR3, fCallNP, g_good_end, b_good_end, h1, h2]
    · simp -dsimp -implicitDefEqProofs [pureF, runF, fVar, fC, fBin, gI, gI0, gAdd, gSub, gMul, gDiv, gMod, gPow, gAnd, gOr, gXor, gShl, gShr, gLt, gLe, gGt, gGe, fTst, asB, fChain, fNotT, fAndT, fOrT, fNotV, fAndV, fOrV, fIf, fIsN, isNon, fIfS, fSeq, fNx, fCt, fRet, fRetN, fDrop, fAsg, Tg.run, setAll, fCall, fCons, fNil, fTup, fLst, fNew, fMt, isLst, lstV, seqV, objL, gAppend, gExtend, gIx, fSl, gSl, fO, fNoO, fRev, fWR1, fWR2, fWL, wkSeq, fWT, wkTup, allw, fFor, fCallP, fCallS, clL, clD, clK, fVarZ, frzG, fRaise, fSetIx, fPar, gSetL, fAug, gLen, gList, gListN, gTuple, gInt, gIsi, tyOf, isTy, sizeLine, CPow, gIAdd, gAddN, wkEnumL, wkEnumT, fWEL, fWET, fNeg, fCallK, gSumT, gSumL, lsV, fWR3, fCallNP, g_good_end, b_good_end, h1]

def lb_need_plan_0 : DS → R Fl := (fIfS (fNotT (fTst (fChain (fC (.int 0)) (fVar 6) (fC (.int 65535)) gLe gLe))) (fRaiseF "BadPlan" "at" okDI (fCons (fVar 5) fNil)) fNx)
def lb_need_plan_1 : DS → R Fl := (fIfS (fOrT (fTst (fBin (fVar 5) (fC gv_MOST_ENDS) gGe)) (fOrT (fNotT (fTst (fCallP 1 (fCons (fVar 7) fNil) [] g_good_end))) (fAndT (fTst (fBin (fVar 5) (fC (.int 0)) gGt)) (fTst (fBin (fSl (fBin (fVar 4) (fBin (fVar 5) (fC (.int 1)) gSub) gIx) fNoO (fO (fC (.int 2)))) (fSl (fVar 7) fNoO (fO (fC (.int 2)))) (gCmpD fun x y => !PySem.W.dataLt (toP x) (toP y))))))) (fRaiseF "BadPlan" "at" okDI (fCons (fBin (fC (.int 3)) (fVar 5) gAdd) fNil)) fNx)
def b_need_plan : DS → R Fl :=
  (fSeq (fAsg (fVar 0) (.many [1, 2, 3, 4]))
    (fSeq (fFor (fWET (fCons (fTup (fCons (fVar 1) (fCons (fVar 2) fNil))) fNil)) (.many [5, 6]) lb_need_plan_0)
    (fSeq (fIfS (fNotT (fTst (fChain (fC (.int 0)) (fVar 3) (fC gv_MOST_PORTS) gLe gLe))) (fRaiseF "BadPlan" "at" okDI (fCons (fC (.int 2)) fNil)) fNx)
    (fFor (fWET (fCons (fVar 4) fNil)) (.many [5, 7]) lb_need_plan_1))))
def g_need_plan : GP := pureF (runF 8 b_need_plan)
theorem eq_need_plan : ∀ args, args.length = 1 → g_need_plan args ≠ .bad → pureF (runF 8 b_need_plan) args = g_need_plan args := fun _ _ _ => rfl

/-- the k-th end is at fault -/
def badAt (es : List En) (i : Nat) : Prop := 8 ≤ i ∨ (∃ x, es[i]? = some x ∧ ¬ goodE x) ∨ ∃ j x y, i = j + 1 ∧ es[j]? = some x ∧ es[i]? = some y ∧ lt2 x y = false
def Fault (p : Pl) (r : Option Int) : Prop :=
  (¬ (0 ≤ p.a ∧ p.a ≤ 65535) ∧ r = some 0) ∨ ((0 ≤ p.a ∧ p.a ≤ 65535) ∧ ¬ (0 ≤ p.b ∧ p.b ≤ 65535) ∧ r = some 1) ∨ ((0 ≤ p.a ∧ p.a ≤ 65535) ∧ (0 ≤ p.b ∧ p.b ≤ 65535) ∧ ¬ (0 ≤ p.c ∧ p.c ≤ 4) ∧ r = some 2) ∨
  (((0 ≤ p.a ∧ p.a ≤ 65535) ∧ (0 ≤ p.b ∧ p.b ≤ 65535) ∧ (0 ≤ p.c ∧ p.c ≤ 4)) ∧ (((∀ i, i < p.es.length → ¬ badAt p.es i) ∧ r = none) ∨ ∃ i, i < p.es.length ∧ badAt p.es i ∧ (∀ j, j < i → ¬ badAt p.es j) ∧ r = some (3 + (i : Int))))
theorem first_of (P : Nat → Prop) : ∀ n : Nat, (∀ i, i < n → ¬ P i) ∨ ∃ i, i < n ∧ P i ∧ ∀ j, j < i → ¬ P j
  | 0 => .inl fun i h => absurd h (by omega)
  | n + 1 => by
    rcases first_of P n with h | ⟨i, h1, h2, h3⟩
    · by_cases hn : P n
      · exact .inr ⟨n, by omega, hn, h⟩
      · refine .inl fun i hi => ?_
        by_cases e : i = n
        · rw [e]; exact hn
        · exact h i (by omega)
    · exact .inr ⟨i, by omega, h2, h3⟩
theorem fault_ex (p : Pl) : ∃ r, Fault p r := by
  by_cases h1 : 0 ≤ p.a ∧ p.a ≤ 65535
  · by_cases h2 : 0 ≤ p.b ∧ p.b ≤ 65535
    · by_cases h3 : 0 ≤ p.c ∧ p.c ≤ 4
      · rcases first_of (badAt p.es) p.es.length with h | ⟨i, a, b, c⟩
        · exact ⟨none, .inr (.inr (.inr ⟨⟨h1, h2, h3⟩, .inl ⟨h, rfl⟩⟩))⟩
        · exact ⟨some (3 + (i : Int)), .inr (.inr (.inr ⟨⟨h1, h2, h3⟩, .inr ⟨i, a, b, c, rfl⟩⟩))⟩
      · exact ⟨some 2, .inr (.inr (.inl ⟨h1, h2, h3, rfl⟩))⟩
    · exact ⟨some 1, .inr (.inl ⟨h1, h2, rfl⟩)⟩
  · exact ⟨some 0, .inl ⟨h1, rfl⟩⟩
theorem enum2 (a b : D) : enumD [a, b] = [.tup [.int 0, a], .tup [.int 1, b]] := rfl
theorem cut2 (a b c d e : D) : cutG [a, b, c, d, e] none (some 2) = [a, b] := rfl
theorem cmp2 (x y : En) (s : DS) : gCmpD (fun x y => !PySem.W.dataLt (toP x) (toP y)) (.tup [.int x.n, .str (x.w : Str)]) (.tup [.int y.n, .str (y.w : Str)]) s = .ok (.bl (!lt2 x y)) s := by
  unfold gCmpD
  rw [if_pos ⟨by simp [okD, okL], by simp [okD, okL], by simp [toP, toPL, PySem.W.alike, PySem.W.alikeAll], rfl⟩]
  rfl
theorem okDI_nat (n : Nat) (h : n < 1000) : okDI (.int (n : Int)) := ⟨n, rfl, by omega, by omega⟩
/-- the look at one end -/
theorem np_step (es : List En) (hl : es.length ≤ 100) (i : Nat) (x : En) (hx : es[i]? = some x) (p a b c x5 x6 x7 : Option D) :
    (¬ badAt es i → fStep (.many [5, 7]) lb_need_plan_1 (.tup [.int i, encE x]) ⟨[p, a, b, c, some (.tup (es.map encE)), x5, x6, x7], []⟩ = .ok .nx ⟨[p, a, b, c, some (.tup (es.map encE)), some (.int i), x6, some (encE x)], []⟩) ∧
    (badAt es i → fStep (.many [5, 7]) lb_need_plan_1 (.tup [.int i, encE x]) ⟨[p, a, b, c, some (.tup (es.map encE)), x5, x6, x7], []⟩ = .ex ⟨"BadPlan", [("at", .int (3 + (i : Int)))]⟩ ⟨[p, a, b, c, some (.tup (es.map encE)), some (.int i), x6, some (encE x)], []⟩) := by
  have hg := good_end_eq x
  have hcl := encE_cl 0 x
  have hi : i < es.length := (List.getElem?_eq_some_iff.mp hx).1
  have hok : okDI (.int (3 + (i : Int))) := ⟨_, rfl, by omega, by omega⟩
  have hcl2 := encL_cl 0 es
  have hE : encE x = .tup [.int x.n, .str (x.w : Str), .str (x.k : Str), .int x.s, .int x.e] := rfl
  have hprev : ∀ j y, i = j + 1 → es[j]? = some y → L2.atI (es.map encE) ((i : Int) - 1) = some (encE y) := fun j y e ey => by
    have : ((i : Int) - 1) = ((j : Nat) : Int) := by omega
    rw [this]
    exact atI_nat (by rw [List.getElem?_map, ey]; rfl)
  by_cases h8 : 8 ≤ i
  · have h8' : (8 : Int) ≤ (i : Int) := by omega
    generalize es.map encE = L at *
    generalize encE x = X at *
    exact ⟨fun h => (h (.inl h8)).elim, fun _ => by simp -dsimp -implicitDefEqProofs [pureF, runF, fVar, fC, fBin, gI, gI0, gAdd, gSub, gMul, gDiv, gMod, gPow, gAnd, gOr, gXor, gShl, gShr, gLt, gLe, gGt, gGe, fTst, asB, fChain, fNotT, fAndT, fOrT, fNotV, fAndV, fOrV, fIf, fIsN, isNon, fIfS, fSeq, fNx, fCt, fRet, fRetN, fDrop, fAsg, Tg.run, setAll, fCall, fCons, fNil, fTup, fLst, fNew, fMt, isLst, lstV, seqV, objL, gAppend, gExtend, gIx, fSl, gSl, fO, fNoO, fRev, fWR1, fWR2, fWL, wkSeq, fWT, wkTup, allw, fFor, fCallP, fCallS, clL, clD, clK, fVarZ, frzG, fRaise, fSetIx, fPar, gSetL, fAug, gLen, gList, gListN, gTuple, gInt, gIsi, tyOf, isTy, sizeLine, CPow, gIAdd, gAddN, wkEnumL, wkEnumT, fWEL, fWET, fNeg, fCallK, gSumT, gSumL, lsV, fWR3, fCallNP, fStep, lb_need_plan_1, fRaiseF, h8', hok]⟩
  · have h8' : ¬ (8 : Int) ≤ (i : Int) := by omega
    by_cases hgx : goodE x
    · rw [dcd_pos hgx] at hg
      cases i with
      | zero =>
        have nb : ¬ badAt es 0 := fun z => by
          rcases z with z | ⟨y, ey, hy⟩ | ⟨j, y, z, e, _⟩
          · omega
          · rw [hx] at ey; cases ey; exact hy hgx
          · omega
        generalize es.map encE = L at *
        generalize encE x = X at *
        exact ⟨fun _ => by simp -dsimp -implicitDefEqProofs [pureF, runF, fVar, fC, fBin, gI, gI0, gAdd, gSub, gMul, gDiv, gMod, gPow, gAnd, gOr, gXor, gShl, gShr, gLt, gLe, gGt, gGe, fTst, asB, fChain, fNotT, fAndT, fOrT, fNotV, fAndV, fOrV, fIf, fIsN, isNon, fIfS, fSeq, fNx, fCt, fRet, fRetN, fDrop, fAsg, Tg.run, setAll, fCall, fCons, fNil, fTup, fLst, fNew, fMt, isLst, lstV, seqV, objL, gAppend, gExtend, gIx, fSl, gSl, fO, fNoO, fRev, fWR1, fWR2, fWL, wkSeq, fWT, wkTup, allw, fFor, fCallP, fCallS, clL, clD, clK, fVarZ, frzG, fRaise, fSetIx, fPar, gSetL, fAug, gLen, gList, gListN, gTuple, gInt, gIsi, tyOf, isTy, sizeLine, CPow, gIAdd, gAddN, wkEnumL, wkEnumT, fWEL, fWET, fNeg, fCallK, gSumT, gSumL, lsV, fWR3, fCallNP, fStep, lb_need_plan_1, hg, hcl], fun h => (nb h).elim⟩
      | succ j =>
        have hj : j < es.length := by omega
        have ey : es[j]? = some es[j] := List.getElem?_eq_getElem hj
        have ha := hprev j _ rfl ey
        have hc := cmp2 es[j] x
        have hi0 : (0 : Int) < ((j + 1 : Nat) : Int) := by omega
        cases hlt : lt2 es[j] x with
        | true =>
          have nb : ¬ badAt es (j + 1) := fun z => by
            rcases z with z | ⟨y, ey', hy⟩ | ⟨j', y, z, e, e1, e2, e3⟩
            · omega
            · rw [hx] at ey'; cases ey'; exact hy hgx
            · obtain rfl : j = j' := by omega
              rw [ey] at e1; cases e1
              rw [hx] at e2; cases e2
              rw [hlt] at e3; cases e3
          rw [hlt] at hc
          have hF : encE es[j] = .tup [.int es[j].n, .str (es[j].w : Str), .str (es[j].k : Str), .int es[j].s, .int es[j].e] := rfl
          rw [hF] at ha
          rw [hE] at hg hcl ⊢
          generalize es[j] = Y at *
          generalize es.map encE = L at *
          clear hok hprev
          generalize ((j + 1 : Nat) : Int) = I at *
          exact ⟨fun _ => by simp -dsimp -implicitDefEqProofs [pureF, runF, fVar, fC, fBin, gI, gI0, gAdd, gSub, gMul, gDiv, gMod, gPow, gAnd, gOr, gXor, gShl, gShr, gLt, gLe, gGt, gGe, fTst, asB, fChain, fNotT, fAndT, fOrT, fNotV, fAndV, fOrV, fIf, fIsN, isNon, fIfS, fSeq, fNx, fCt, fRet, fRetN, fDrop, fAsg, Tg.run, setAll, fCall, fCons, fNil, fTup, fLst, fNew, fMt, isLst, lstV, seqV, objL, gAppend, gExtend, gIx, fSl, gSl, fO, fNoO, fRev, fWR1, fWR2, fWL, wkSeq, fWT, wkTup, allw, fFor, fCallP, fCallS, clL, clD, clK, fVarZ, frzG, fRaise, fSetIx, fPar, gSetL, fAug, gLen, gList, gListN, gTuple, gInt, gIsi, tyOf, isTy, sizeLine, CPow, gIAdd, gAddN, wkEnumL, wkEnumT, fWEL, fWET, fNeg, fCallK, gSumT, gSumL, lsV, fWR3, fCallNP, fStep, lb_need_plan_1, hg, hcl, h8', hi0, ha, cut2, hc], fun h => (nb h).elim⟩
        | false =>
          have nb : badAt es (j + 1) := .inr (.inr ⟨j, _, x, rfl, ey, hx, hlt⟩)
          rw [hlt] at hc
          have hF : encE es[j] = .tup [.int es[j].n, .str (es[j].w : Str), .str (es[j].k : Str), .int es[j].s, .int es[j].e] := rfl
          rw [hF] at ha
          rw [hE] at hg hcl ⊢
          generalize es[j] = Y at *
          generalize es.map encE = L at *
          clear hprev
          generalize ((j + 1 : Nat) : Int) = I at *
          exact ⟨fun h => (h nb).elim, fun _ => by simp -dsimp -implicitDefEqProofs [pureF, runF, fVar, fC, fBin, gI, gI0, gAdd, gSub, gMul, gDiv, gMod, gPow, gAnd, gOr, gXor, gShl, gShr, gLt, gLe, gGt, gGe, fTst, asB, fChain, fNotT, fAndT, fOrT, fNotV, fAndV, fOrV, fIf, fIsN, isNon, fIfS, fSeq, fNx, fCt, fRet, fRetN, fDrop, fAsg, Tg.run, setAll, fCall, fCons, fNil, fTup, fLst, fNew, fMt, isLst, lstV, seqV, objL, gAppend, gExtend, gIx, fSl, gSl, fO, fNoO, fRev, fWR1, fWR2, fWL, wkSeq, fWT, wkTup, allw, fFor, fCallP, fCallS, clL, clD, clK, fVarZ, frzG, fRaise, fSetIx, fPar, gSetL, fAug, gLen, gList, gListN, gTuple, gInt, gIsi, tyOf, isTy, sizeLine, CPow, gIAdd, gAddN, wkEnumL, wkEnumT, fWEL, fWET, fNeg, fCallK, gSumT, gSumL, lsV, fWR3, fCallNP, fStep, lb_need_plan_1, fRaiseF, hg, hcl, h8', hi0, ha, cut2, hc, hok]⟩
    · rw [dcd_neg hgx] at hg
      have nb : badAt es i := .inr (.inl ⟨x, hx, hgx⟩)
      generalize es.map encE = L at *
      generalize encE x = X at *
      exact ⟨fun h => (h nb).elim, fun _ => by simp -dsimp -implicitDefEqProofs [pureF, runF, fVar, fC, fBin, gI, gI0, gAdd, gSub, gMul, gDiv, gMod, gPow, gAnd, gOr, gXor, gShl, gShr, gLt, gLe, gGt, gGe, fTst, asB, fChain, fNotT, fAndT, fOrT, fNotV, fAndV, fOrV, fIf, fIsN, isNon, fIfS, fSeq, fNx, fCt, fRet, fRetN, fDrop, fAsg, Tg.run, setAll, fCall, fCons, fNil, fTup, fLst, fNew, fMt, isLst, lstV, seqV, objL, gAppend, gExtend, gIx, fSl, gSl, fO, fNoO, fRev, fWR1, fWR2, fWL, wkSeq, fWT, wkTup, allw, fFor, fCallP, fCallS, clL, clD, clK, fVarZ, frzG, fRaise, fSetIx, fPar, gSetL, fAug, gLen, gList, gListN, gTuple, gInt, gIsi, tyOf, isTy, sizeLine, CPow, gIAdd, gAddN, wkEnumL, wkEnumT, fWEL, fWET, fNeg, fCallK, gSumT, gSumL, lsV, fWR3, fCallNP, fStep, lb_need_plan_1, fRaiseF, hg, hcl, h8', hok]⟩
theorem enum_at (es : List En) (i : Nat) (x : En) (hx : es[i]? = some x) : (enumD (es.map encE))[i]? = some (.tup [.int i, encE x]) := by
  have hi : i < es.length := (List.getElem?_eq_some_iff.mp hx).1
  unfold enumD
  rw [List.getElem?_map, List.getElem?_range (by simpa using hi)]
  simp [List.getD_eq_getElem?_getD, hx]
def planR : Option Int → R D
  | none => .ok .non ⟨[], []⟩
  | some k => .ex ⟨"BadPlan", [("at", .int k)]⟩ ⟨[], []⟩
theorem np_ends (es : List En) (hl : es.length ≤ 100) (p a b c : Option D) (x5 x6 x7 : Option D) :
    ((∀ i, i < es.length → ¬ badAt es i) → ∃ s', loopL allw (fStep (.many [5, 7]) lb_need_plan_1) (enumD (es.map encE)) ⟨[p, a, b, c, some (.tup (es.map encE)), x5, x6, x7], []⟩ = .ok .nx s') ∧
    (∀ i, i < es.length → badAt es i → (∀ j, j < i → ¬ badAt es j) → ∃ s', loopL allw (fStep (.many [5, 7]) lb_need_plan_1) (enumD (es.map encE)) ⟨[p, a, b, c, some (.tup (es.map encE)), x5, x6, x7], []⟩ = .ex ⟨"BadPlan", [("at", .int (3 + (i : Int)))]⟩ s') := by
  have hlen : (enumD (es.map encE)).length = es.length := by simp
  refine ⟨fun h => ?_, fun i hi hb hj => ?_⟩
  · obtain ⟨s', l1, _⟩ := loop_inv (P := allw) (step := fStep (.many [5, 7]) lb_need_plan_1) (fun _ s => ∃ x5 x7, s = ⟨[p, a, b, c, some (.tup (es.map encE)), x5, x6, x7], []⟩) (enumD (es.map encE)) (fun _ _ _ => rfl)
      (fun i d s e ⟨x5, x7, hs⟩ => by
        subst hs
        have hi : i < es.length := by rw [← hlen]; exact (List.getElem?_eq_some_iff.mp e).1
        have ex := List.getElem?_eq_getElem hi
        rw [enum_at es i _ ex] at e
        cases e
        exact ⟨_, .inl ((np_step es hl i _ ex p a b c x5 x6 x7).1 (h i hi)), _, _, rfl⟩)
      (s := ⟨[p, a, b, c, some (.tup (es.map encE)), x5, x6, x7], []⟩) ⟨x5, x7, rfl⟩
    exact ⟨s', l1⟩
  · obtain ⟨s', ⟨y5, y7, hs⟩, l2⟩ := loop_to (P := allw) (step := fStep (.many [5, 7]) lb_need_plan_1) (fun _ s => ∃ x5 x7, s = ⟨[p, a, b, c, some (.tup (es.map encE)), x5, x6, x7], []⟩) (enumD (es.map encE)) (fun _ _ _ => rfl) i (by omega)
      (fun k d s hk e ⟨x5, x7, hs⟩ => by
        subst hs
        have hi : k < es.length := by omega
        have ex := List.getElem?_eq_getElem hi
        rw [enum_at es k _ ex] at e
        cases e
        rw [(np_step es hl k _ ex p a b c x5 x6 x7).1 (hj k hk)]
        exact ⟨.inl rfl, _, _, rfl⟩)
      (s := ⟨[p, a, b, c, some (.tup (es.map encE)), x5, x6, x7], []⟩) ⟨x5, x7, rfl⟩
    subst hs
    have ex := List.getElem?_eq_getElem hi
    have e1 := enum_at es i _ ex
    have hi2 : i < (enumD (es.map encE)).length := by omega
    rw [List.drop_eq_getElem_cons hi2] at l2
    rw [List.getElem?_eq_getElem hi2] at e1
    have e2 := Option.some.inj e1
    rw [e2] at l2
    rw [l2]
    unfold loopL
    rw [if_pos (show allw _ = true from rfl), (np_step es hl i _ ex p a b c y5 x6 y7).2 hb]
    exact ⟨_, rfl⟩
theorem np_first (a b : Int) (h1 : 0 ≤ a ∧ a ≤ 65535) (h2 : 0 ≤ b ∧ b ≤ 65535) (p c L x5 x6 x7 : Option D) : loopL allw (fStep (.many [5, 6]) lb_need_plan_0) (enumD [.int a, .int b]) ⟨[p, some (.int a), some (.int b), c, L, x5, x6, x7], []⟩ = .ok .nx ⟨[p, some (.int a), some (.int b), c, L, some (.int 1), some (.int b), x7], []⟩ := by
  simp -dsimp -implicitDefEqProofs [pureF, runF, fVar, fC, fBin, gI, gI0, gAdd, gSub, gMul, gDiv, gMod, gPow, gAnd, gOr, gXor, gShl, gShr, gLt, gLe, gGt, gGe, fTst, asB, fChain, fNotT, fAndT, fOrT, fNotV, fAndV, fOrV, fIf, fIsN, isNon, fIfS, fSeq, fNx, fCt, fRet, fRetN, fDrop, fAsg, Tg.run, setAll, fCall, fCons, fNil, fTup, fLst, fNew, fMt, isLst, lstV, seqV, objL, gAppend, gExtend, gIx, fSl, gSl, fO, fNoO, fRev, fWR1, fWR2, fWL, wkSeq, fWT, wkTup, allw, fFor, fCallP, fCallS, clL, clD, clK, fVarZ, frzG, fRaise, fSetIx, fPar, gSetL, fAug, gLen, gList, gListN, gTuple, gInt, gIsi, tyOf, isTy, sizeLine, CPow, gIAdd, gAddN, wkEnumL, wkEnumT, fWEL, fWET, fNeg, fCallK, gSumT, gSumL, lsV, fWR3, fCallNP, enum2, loopL, fStep, lb_need_plan_0, h1.1, h1.2, h2.1, h2.2]
theorem need_plan_eq (p : Pl) (hl : p.es.length ≤ 100) (r : Option Int) (h : Fault p r) : g_need_plan [encP p] = planR r := by
  obtain ⟨a, b, c, es⟩ := p
  unfold Fault at h
  simp only at h hl
  have o0 : okDI (.int 0) := okDI_nat 0 (by decide)
  have o1 : okDI (.int 1) := okDI_nat 1 (by decide)
  have o2 : okDI (.int 2) := okDI_nat 2 (by decide)
  have fc : ∀ x lo hi : Int, ¬ (lo ≤ x ∧ x ≤ hi) → lo ≤ x → ¬ x ≤ hi := fun x lo hi h h1 h2 => h ⟨h1, h2⟩
  rcases h with ⟨h1, rfl⟩ | ⟨h1, h2, rfl⟩ | ⟨h1, h2, h3, rfl⟩ | ⟨⟨h1, h2, h3⟩, h⟩
  · simp only [encP, planR]
    generalize es.map encE = L at *
    by_cases q : 0 ≤ a
    · have q2 := fc _ _ _ h1 q
      simp -dsimp -implicitDefEqProofs [pureF, runF, fVar, fC, fBin, gI, gI0, gAdd, gSub, gMul, gDiv, gMod, gPow, gAnd, gOr, gXor, gShl, gShr, gLt, gLe, gGt, gGe, fTst, asB, fChain, fNotT, fAndT, fOrT, fNotV, fAndV, fOrV, fIf, fIsN, isNon, fIfS, fSeq, fNx, fCt, fRet, fRetN, fDrop, fAsg, Tg.run, setAll, fCall, fCons, fNil, fTup, fLst, fNew, fMt, isLst, lstV, seqV, objL, gAppend, gExtend, gIx, fSl, gSl, fO, fNoO, fRev, fWR1, fWR2, fWL, wkSeq, fWT, wkTup, allw, fFor, fCallP, fCallS, clL, clD, clK, fVarZ, frzG, fRaise, fSetIx, fPar, gSetL, fAug, gLen, gList, gListN, gTuple, gInt, gIsi, tyOf, isTy, sizeLine, CPow, gIAdd, gAddN, wkEnumL, wkEnumT, fWEL, fWET, fNeg, fCallK, gSumT, gSumL, lsV, fWR3, fCallNP, g_need_plan, b_need_plan, enum2, loopL, fStep, lb_need_plan_0, fRaiseF, q, q2, o0]
    · simp -dsimp -implicitDefEqProofs [pureF, runF, fVar, fC, fBin, gI, gI0, gAdd, gSub, gMul, gDiv, gMod, gPow, gAnd, gOr, gXor, gShl, gShr, gLt, gLe, gGt, gGe, fTst, asB, fChain, fNotT, fAndT, fOrT, fNotV, fAndV, fOrV, fIf, fIsN, isNon, fIfS, fSeq, fNx, fCt, fRet, fRetN, fDrop, fAsg, Tg.run, setAll, fCall, fCons, fNil, fTup, fLst, fNew, fMt, isLst, lstV, seqV, objL, gAppend, gExtend, gIx, fSl, gSl, fO, fNoO, fRev, fWR1, fWR2, fWL, wkSeq, fWT, wkTup, allw, fFor, fCallP, fCallS, clL, clD, clK, fVarZ, frzG, fRaise, fSetIx, fPar, gSetL, fAug, gLen, gList, gListN, gTuple, gInt, gIsi, tyOf, isTy, sizeLine, CPow, gIAdd, gAddN, wkEnumL, wkEnumT, fWEL, fWET, fNeg, fCallK, gSumT, gSumL, lsV, fWR3, fCallNP, g_need_plan, b_need_plan, enum2, loopL, fStep, lb_need_plan_0, fRaiseF, q, o0]
  · simp only [encP, planR]
    generalize es.map encE = L at *
    by_cases q : 0 ≤ b
    · have q2 := fc _ _ _ h2 q
      simp -dsimp -implicitDefEqProofs [pureF, runF, fVar, fC, fBin, gI, gI0, gAdd, gSub, gMul, gDiv, gMod, gPow, gAnd, gOr, gXor, gShl, gShr, gLt, gLe, gGt, gGe, fTst, asB, fChain, fNotT, fAndT, fOrT, fNotV, fAndV, fOrV, fIf, fIsN, isNon, fIfS, fSeq, fNx, fCt, fRet, fRetN, fDrop, fAsg, Tg.run, setAll, fCall, fCons, fNil, fTup, fLst, fNew, fMt, isLst, lstV, seqV, objL, gAppend, gExtend, gIx, fSl, gSl, fO, fNoO, fRev, fWR1, fWR2, fWL, wkSeq, fWT, wkTup, allw, fFor, fCallP, fCallS, clL, clD, clK, fVarZ, frzG, fRaise, fSetIx, fPar, gSetL, fAug, gLen, gList, gListN, gTuple, gInt, gIsi, tyOf, isTy, sizeLine, CPow, gIAdd, gAddN, wkEnumL, wkEnumT, fWEL, fWET, fNeg, fCallK, gSumT, gSumL, lsV, fWR3, fCallNP, g_need_plan, b_need_plan, enum2, loopL, fStep, lb_need_plan_0, fRaiseF, h1.1, h1.2, q, q2, o1]
    · simp -dsimp -implicitDefEqProofs [pureF, runF, fVar, fC, fBin, gI, gI0, gAdd, gSub, gMul, gDiv, gMod, gPow, gAnd, gOr, gXor, gShl, gShr, gLt, gLe, gGt, gGe, fTst, asB, fChain, fNotT, fAndT, fOrT, fNotV, fAndV, fOrV, fIf, fIsN, isNon, fIfS, fSeq, fNx, fCt, fRet, fRetN, fDrop, fAsg, Tg.run, setAll, fCall, fCons, fNil, fTup, fLst, fNew, fMt, isLst, lstV, seqV, objL, gAppend, gExtend, gIx, fSl, gSl, fO, fNoO, fRev, fWR1, fWR2, fWL, wkSeq, fWT, wkTup, allw, fFor, fCallP, fCallS, clL, clD, clK, fVarZ, frzG, fRaise, fSetIx, fPar, gSetL, fAug, gLen, gList, gListN, gTuple, gInt, gIsi, tyOf, isTy, sizeLine, CPow, gIAdd, gAddN, wkEnumL, wkEnumT, fWEL, fWET, fNeg, fCallK, gSumT, gSumL, lsV, fWR3, fCallNP, g_need_plan, b_need_plan, enum2, loopL, fStep, lb_need_plan_0, fRaiseF, h1.1, h1.2, q, o1]
  · simp only [encP, planR]
    generalize es.map encE = L at *
    by_cases q : 0 ≤ c
    · have q2 := fc _ _ _ h3 q
      simp -dsimp -implicitDefEqProofs [pureF, runF, fVar, fC, fBin, gI, gI0, gAdd, gSub, gMul, gDiv, gMod, gPow, gAnd, gOr, gXor, gShl, gShr, gLt, gLe, gGt, gGe, fTst, asB, fChain, fNotT, fAndT, fOrT, fNotV, fAndV, fOrV, fIf, fIsN, isNon, fIfS, fSeq, fNx, fCt, fRet, fRetN, fDrop, fAsg, Tg.run, setAll, fCall, fCons, fNil, fTup, fLst, fNew, fMt, isLst, lstV, seqV, objL, gAppend, gExtend, gIx, fSl, gSl, fO, fNoO, fRev, fWR1, fWR2, fWL, wkSeq, fWT, wkTup, allw, fFor, fCallP, fCallS, clL, clD, clK, fVarZ, frzG, fRaise, fSetIx, fPar, gSetL, fAug, gLen, gList, gListN, gTuple, gInt, gIsi, tyOf, isTy, sizeLine, CPow, gIAdd, gAddN, wkEnumL, wkEnumT, fWEL, fWET, fNeg, fCallK, gSumT, gSumL, lsV, fWR3, fCallNP, g_need_plan, b_need_plan, enum2, loopL, fStep, lb_need_plan_0, fRaiseF, h1.1, h1.2, h2.1, h2.2, q, q2, o2]
    · simp -dsimp -implicitDefEqProofs [pureF, runF, fVar, fC, fBin, gI, gI0, gAdd, gSub, gMul, gDiv, gMod, gPow, gAnd, gOr, gXor, gShl, gShr, gLt, gLe, gGt, gGe, fTst, asB, fChain, fNotT, fAndT, fOrT, fNotV, fAndV, fOrV, fIf, fIsN, isNon, fIfS, fSeq, fNx, fCt, fRet, fRetN, fDrop, fAsg, Tg.run, setAll, fCall, fCons, fNil, fTup, fLst, fNew, fMt, isLst, lstV, seqV, objL, gAppend, gExtend, gIx, fSl, gSl, fO, fNoO, fRev, fWR1, fWR2, fWL, wkSeq, fWT, wkTup, allw, fFor, fCallP, fCallS, clL, clD, clK, fVarZ, frzG, fRaise, fSetIx, fPar, gSetL, fAug, gLen, gList, gListN, gTuple, gInt, gIsi, tyOf, isTy, sizeLine, CPow, gIAdd, gAddN, wkEnumL, wkEnumT, fWEL, fWET, fNeg, fCallK, gSumT, gSumL, lsV, fWR3, fCallNP, g_need_plan, b_need_plan, enum2, loopL, fStep, lb_need_plan_0, fRaiseF, h1.1, h1.2, h2.1, h2.2, q, o2]
  · have n1 := fun p0 a0 b0 c0 x5 x6 x7 => np_ends es hl p0 a0 b0 c0 x5 x6 x7
    rcases h with ⟨h, rfl⟩ | ⟨i, hi, hb, hj, rfl⟩
    · obtain ⟨s', l1⟩ := (n1 (some (encP ⟨a, b, c, es⟩)) (some (.int a)) (some (.int b)) (some (.int c)) (some (.int 1)) (some (.int b)) none).1 h
      clear n1 h hl
      simp only [encP, planR] at *
      generalize es.map encE = L at *
      simp -dsimp -implicitDefEqProofs [pureF, runF, fVar, fC, fBin, gI, gI0, gAdd, gSub, gMul, gDiv, gMod, gPow, gAnd, gOr, gXor, gShl, gShr, gLt, gLe, gGt, gGe, fTst, asB, fChain, fNotT, fAndT, fOrT, fNotV, fAndV, fOrV, fIf, fIsN, isNon, fIfS, fSeq, fNx, fCt, fRet, fRetN, fDrop, fAsg, Tg.run, setAll, fCall, fCons, fNil, fTup, fLst, fNew, fMt, isLst, lstV, seqV, objL, gAppend, gExtend, gIx, fSl, gSl, fO, fNoO, fRev, fWR1, fWR2, fWL, wkSeq, fWT, wkTup, allw, fFor, fCallP, fCallS, clL, clD, clK, fVarZ, frzG, fRaise, fSetIx, fPar, gSetL, fAug, gLen, gList, gListN, gTuple, gInt, gIsi, tyOf, isTy, sizeLine, CPow, gIAdd, gAddN, wkEnumL, wkEnumT, fWEL, fWET, fNeg, fCallK, gSumT, gSumL, lsV, fWR3, fCallNP, g_need_plan, b_need_plan, np_first a b h1 h2, h3.1, h3.2, l1]
    · obtain ⟨s', l1⟩ := (n1 (some (encP ⟨a, b, c, es⟩)) (some (.int a)) (some (.int b)) (some (.int c)) (some (.int 1)) (some (.int b)) none).2 i hi hb hj
      clear n1 hb hj hl
      simp only [encP, planR] at *
      generalize es.map encE = L at *
      simp -dsimp -implicitDefEqProofs [pureF, runF, fVar, fC, fBin, gI, gI0, gAdd, gSub, gMul, gDiv, gMod, gPow, gAnd, gOr, gXor, gShl, gShr, gLt, gLe, gGt, gGe, fTst, asB, fChain, fNotT, fAndT, fOrT, fNotV, fAndV, fOrV, fIf, fIsN, isNon, fIfS, fSeq, fNx, fCt, fRet, fRetN, fDrop, fAsg, Tg.run, setAll, fCall, fCons, fNil, fTup, fLst, fNew, fMt, isLst, lstV, seqV, objL, gAppend, gExtend, gIx, fSl, gSl, fO, fNoO, fRev, fWR1, fWR2, fWL, wkSeq, fWT, wkTup, allw, fFor, fCallP, fCallS, clL, clD, clK, fVarZ, frzG, fRaise, fSetIx, fPar, gSetL, fAug, gLen, gList, gListN, gTuple, gInt, gIsi, tyOf, isTy, sizeLine, CPow, gIAdd, gAddN, wkEnumL, wkEnumT, fWEL, fWET, fNeg, fCallK, gSumT, gSumL, lsV, fWR3, fCallNP, g_need_plan, b_need_plan, np_first a b h1 h2, h3.1, h3.2, l1]

def b_two : DS → R Fl :=
  (fRet (fTup (fCons (fBin (fVar 0) (fC (.int 255)) gAnd) (fCons (fBin (fVar 0) (fC (.int 8)) gShr) fNil))))
def g_two : GP := pureF (runF 1 b_two)
theorem eq_two : ∀ args, args.length = 1 → g_two args ≠ .bad → pureF (runF 1 b_two) args = g_two args := fun _ _ _ => rfl

theorem two_eq (n : Int) : g_two [.int n] = .ok (.tup [.int (n % 256), .int (n / 256)]) ⟨[], []⟩ := by
  have h : Builtin.bitAnd n 255 = n % 256 := PyProof.Rows.bitAnd_m8 n
  simp -dsimp -implicitDefEqProofs [pureF, runF, fVar, fC, fBin, gI, gI0, gAdd, gSub, gMul, gDiv, gMod, gPow, gAnd, gOr, gXor, gShl, gShr, gLt, gLe, gGt, gGe, fTst, asB, fChain, fNotT, fAndT, fOrT, fNotV, fAndV, fOrV, fIf, fIsN, isNon, fIfS, fSeq, fNx, fCt, fRet, fRetN, fDrop, fAsg, Tg.run, setAll, fCall, fCons, fNil, fTup, fLst, fNew, fMt, isLst, lstV, seqV, objL, gAppend, gExtend, gIx, fSl, gSl, fO, fNoO, fRev, fWR1, fWR2, fWL, wkSeq, fWT, wkTup, allw, fFor, fCallP, fCallS, clL, clD, clK, fVarZ, frzG, fRaise, fSetIx, fPar, gSetL, fAug, gLen, gList, gListN, gTuple, gInt, gIsi, tyOf, isTy, sizeLine, CPow, gIAdd, gAddN, wkEnumL, wkEnumT, fWEL, fWET, fNeg, fCallK, gSumT, gSumL, lsV, fWR3, fCallNP, g_two, b_two, h]

def b_device_row : DS → R Fl :=
  (fSeq (fDrop (fCallP 1 (fCons (fVar 0) fNil) [] g_need_plan))
    (fSeq (fAsg (fIf (fTst (fBin (fBin (fVar 0) (fC (.int 2)) gIx) (fC (.int 0)) gGt)) (fC (.int 9)) (fC (.int 0))) (.one 1))
    (fRet (fBin (fBin (fBin (fTup (fCons (fC (.int 18)) (fCons (fC (.int 1)) (fCons (fC (.int 16)) (fCons (fC (.int 1)) (fCons (fVar 1) (fCons (fC (.int 0)) (fCons (fC (.int 0)) (fCons (fC (.int 8)) fNil))))))))) (fCallP 1 (fCons (fBin (fVar 0) (fC (.int 0)) gIx) fNil) [] g_two) gAdd) (fCallP 1 (fCons (fBin (fVar 0) (fC (.int 1)) gIx) fNil) [] g_two) gAdd) (fTup (fCons (fC (.int 0)) (fCons (fC (.int 1)) (fCons (fBin (fVar 0) (fC (.int 2)) gIx) (fCons (fC (.int 0)) (fCons (fC (.int 0)) (fCons (fC (.int 1)) fNil))))))) gAdd))))
def g_device_row : GP := pureF (runF 2 b_device_row)
theorem eq_device_row : ∀ args, args.length = 1 → g_device_row args ≠ .bad → pureF (runF 2 b_device_row) args = g_device_row args := fun _ _ _ => rfl

def devL (p : Pl) : List Int := [18, 1, 16, 1, if 0 < p.c then 9 else 0, 0, 0, 8, p.a % 256, p.a / 256, p.b % 256, p.b / 256, 0, 1, p.c, 0, 0, 1]
theorem device_eq (p : Pl) (hl : p.es.length ≤ 100) (h : Fault p none) : g_device_row [encP p] = .ok (.tup ((devL p).map .int)) ⟨[], []⟩ := by
  have h1 := need_plan_eq p hl none h
  have hc := fun n => encP_cl n p
  have ta := two_eq p.a
  have tb := two_eq p.b
  have at0 : ∀ a b c d : D, L2.atI [a, b, c, d] 0 = some a ∧ L2.atI [a, b, c, d] 1 = some b ∧ L2.atI [a, b, c, d] 2 = some c := fun a b c d => ⟨rfl, rfl, rfl⟩
  have hE := encL_cl 0 p.es
  simp only [planR] at h1
  unfold encP at h1 hc ⊢
  generalize p.es.map encE = ES at *
  by_cases hz : 0 < p.c
  · simp -dsimp -implicitDefEqProofs [pureF, runF, fVar, fC, fBin, gI, gI0, gAdd, gSub, gMul, gDiv, gMod, gPow, gAnd, gOr, gXor, gShl, gShr, gLt, gLe, gGt, gGe, fTst, asB, fChain, fNotT, fAndT, fOrT, fNotV, fAndV, fOrV, fIf, fIsN, isNon, fIfS, fSeq, fNx, fCt, fRet, fRetN, fDrop, fAsg, Tg.run, setAll, fCall, fCons, fNil, fTup, fLst, fNew, fMt, isLst, lstV, seqV, objL, gAppend, gExtend, gIx, fSl, gSl, fO, fNoO, fRev, fWR1, fWR2, fWL, wkSeq, fWT, wkTup, allw, fFor, fCallP, fCallS, clL, clD, clK, fVarZ, frzG, fRaise, fSetIx, fPar, gSetL, fAug, gLen, gList, gListN, gTuple, gInt, gIsi, tyOf, isTy, sizeLine, CPow, gIAdd, gAddN, wkEnumL, wkEnumT, fWEL, fWET, fNeg, fCallK, gSumT, gSumL, lsV, fWR3, fCallNP, g_device_row, b_device_row, h1, hc, hE, ta, tb, at0, hz, devL]
  · simp -dsimp -implicitDefEqProofs [pureF, runF, fVar, fC, fBin, gI, gI0, gAdd, gSub, gMul, gDiv, gMod, gPow, gAnd, gOr, gXor, gShl, gShr, gLt, gLe, gGt, gGe, fTst, asB, fChain, fNotT, fAndT, fOrT, fNotV, fAndV, fOrV, fIf, fIsN, isNon, fIfS, fSeq, fNx, fCt, fRet, fRetN, fDrop, fAsg, Tg.run, setAll, fCall, fCons, fNil, fTup, fLst, fNew, fMt, isLst, lstV, seqV, objL, gAppend, gExtend, gIx, fSl, gSl, fO, fNoO, fRev, fWR1, fWR2, fWL, wkSeq, fWT, wkTup, allw, fFor, fCallP, fCallS, clL, clD, clK, fVarZ, frzG, fRaise, fSetIx, fPar, gSetL, fAug, gLen, gList, gListN, gTuple, gInt, gIsi, tyOf, isTy, sizeLine, CPow, gIAdd, gAddN, wkEnumL, wkEnumT, fWEL, fWET, fNeg, fCallK, gSumT, gSumL, lsV, fWR3, fCallNP, g_device_row, b_device_row, h1, hc, hE, ta, tb, at0, hz, devL]
theorem device_bad (p : Pl) (hl : p.es.length ≤ 100) (k : Int) (h : Fault p (some k)) : g_device_row [encP p] = .ex ⟨"BadPlan", [("at", .int k)]⟩ ⟨[], []⟩ := by
  have h1 := need_plan_eq p hl (some k) h
  have hc := fun n => encP_cl n p
  simp only [planR] at h1
  generalize encP p = P at *
  simp -dsimp -implicitDefEqProofs [pureF, runF, fVar, fC, fBin, gI, gI0, gAdd, gSub, gMul, gDiv, gMod, gPow, gAnd, gOr, gXor, gShl, gShr, gLt, gLe, gGt, gGe, fTst, asB, fChain, fNotT, fAndT, fOrT, fNotV, fAndV, fOrV, fIf, fIsN, isNon, fIfS, fSeq, fNx, fCt, fRet, fRetN, fDrop, fAsg, Tg.run, setAll, fCall, fCons, fNil, fTup, fLst, fNew, fMt, isLst, lstV, seqV, objL, gAppend, gExtend, gIx, fSl, gSl, fO, fNoO, fRev, fWR1, fWR2, fWL, wkSeq, fWT, wkTup, allw, fFor, fCallP, fCallS, clL, clD, clK, fVarZ, frzG, fRaise, fSetIx, fPar, gSetL, fAug, gLen, gList, gListN, gTuple, gInt, gIsi, tyOf, isTy, sizeLine, CPow, gIAdd, gAddN, wkEnumL, wkEnumT, fWEL, fWET, fNeg, fCallK, gSumT, gSumL, lsV, fWR3, fCallNP, g_device_row, b_device_row, h1, hc]

def b_end_row : DS → R Fl :=
  (fSeq (fAsg (fVar 0) (.many [1, 2, 3, 4, 5]))
    (fRet (fBin (fBin (fTup (fCons (fC (.int 7)) (fCons (fC (.int 5)) (fCons (fBin (fVar 1) (fBin (fC (.int 128)) (fCall (fCons (fBin (fVar 2) (fC (.str "in")) gEq) fNil) gInt) gMul) gOr) (fCons (fBin (fC (.int 2)) (fCall (fCons (fBin (fVar 3) (fC (.str "timed")) gEq) fNil) gInt) gAdd) fNil))))) (fCallP 1 (fCons (fVar 4) fNil) [] g_two) gAdd) (fTup (fCons (fVar 5) fNil)) gAdd)))
def g_end_row : GP := pureF (runF 6 b_end_row)
theorem eq_end_row : ∀ args, args.length = 1 → g_end_row args ≠ .bad → pureF (runF 6 b_end_row) args = g_end_row args := fun _ _ _ => rfl

def endR (x : En) : List Int := [7, 5, x.n + (if x.w = "in" then 128 else 0), if x.k = "timed" then 3 else 2, x.s % 256, x.s / 256, x.e]
theorem or128 (n : Int) (h1 : 1 ≤ n) (h2 : n ≤ 7) : Builtin.bitOr n 128 = n + 128 ∧ Builtin.bitOr n 0 = n := by
  have : n = 1 ∨ n = 2 ∨ n = 3 ∨ n = 4 ∨ n = 5 ∨ n = 6 ∨ n = 7 := by omega
  rcases this with rfl | rfl | rfl | rfl | rfl | rfl | rfl <;> exact ⟨by decide, by decide⟩
theorem str_eqs : ∀ s : DS, gEq (.str (Str.ofString "in")) (.str (Str.ofString "in")) s = .ok (.bl true) s ∧ gEq (.str (Str.ofString "out")) (.str (Str.ofString "in")) s = .ok (.bl false) s ∧ gEq (.str (Str.ofString "timed")) (.str (Str.ofString "timed")) s = .ok (.bl true) s ∧ gEq (.str (Str.ofString "bulk")) (.str (Str.ofString "timed")) s = .ok (.bl false) s := fun s => by
  have e1 : eqD (.str (Str.ofString "out")) (.str (Str.ofString "in")) = false := by rw [eqD_ofs]; decide
  have e2 : eqD (.str (Str.ofString "bulk")) (.str (Str.ofString "timed")) = false := by rw [eqD_ofs]; decide
  exact ⟨gEq_self (by simp [okD]), by simp [gEq, vw, okD, e1], gEq_self (by simp [okD]), by simp [gEq, vw, okD, e2]⟩
theorem end_row_eq (x : En) (g : goodE x) : g_end_row [encE x] = .ok (.tup ((endR x).map .int)) ⟨[], []⟩ := by
  obtain ⟨n, w, k, sz, e⟩ := x
  obtain ⟨⟨g1, g2⟩, g3, g4⟩ := g
  simp only at g1 g2 g3 g4
  obtain ⟨o1, o2⟩ := or128 n g1 g2
  have ts := two_eq sz
  have hk : k = "bulk" ∨ k = "timed" := by
    rcases g4 with ⟨z, _⟩ | ⟨z, _⟩
    · exact .inl z
    · exact .inr z
  have se := str_eqs
  have c1 : CMul 128 1 := .inl ⟨by decide, by decide⟩
  have c0 : CMul 128 0 := .inl ⟨by decide, by decide⟩
  rcases g3 with rfl | rfl <;> rcases hk with rfl | rfl <;> simp -dsimp -implicitDefEqProofs [pureF, runF, fVar, fC, fBin, gI, gI0, gAdd, gSub, gMul, gDiv, gMod, gPow, gAnd, gOr, gXor, gShl, gShr, gLt, gLe, gGt, gGe, fTst, asB, fChain, fNotT, fAndT, fOrT, fNotV, fAndV, fOrV, fIf, fIsN, isNon, fIfS, fSeq, fNx, fCt, fRet, fRetN, fDrop, fAsg, Tg.run, setAll, fCall, fCons, fNil, fTup, fLst, fNew, fMt, isLst, lstV, seqV, objL, gAppend, gExtend, gIx, fSl, gSl, fO, fNoO, fRev, fWR1, fWR2, fWL, wkSeq, fWT, wkTup, allw, fFor, fCallP, fCallS, clL, clD, clK, fVarZ, frzG, fRaise, fSetIx, fPar, gSetL, fAug, gLen, gList, gListN, gTuple, gInt, gIsi, tyOf, isTy, sizeLine, CPow, gIAdd, gAddN, wkEnumL, wkEnumT, fWEL, fWET, fNeg, fCallK, gSumT, gSumL, lsV, fWR3, fCallNP, g_end_row, b_end_row, encE, endR, se, o1, o2, ts, c1, c0]

def lb_settings_row_0 : DS → R Fl := (fAug 1 (fCallP 1 (fCons (fVar 2) fNil) [] g_end_row) gICat)
def b_settings_row : DS → R Fl :=
  (fSeq (fDrop (fCallP 1 (fCons (fVar 0) fNil) [] g_need_plan))
    (fSeq (fAsg (fTup (fCons (fC (.int 9)) (fCons (fC (.int 4)) (fCons (fC (.int 0)) (fCons (fC (.int 0)) (fCons (fCall (fCons (fBin (fVar 0) (fC (.int 3)) gIx) fNil) gLen) (fCons (fC (.int 255)) (fCons (fC (.int 0)) (fCons (fC (.int 0)) (fCons (fC (.int 0)) fNil)))))))))) (.one 1))
    (fSeq (fFor (fWT (fBin (fVar 0) (fC (.int 3)) gIx)) (.one 2) lb_settings_row_0)
    (fRet (fBin (fBin (fBin (fTup (fCons (fC (.int 9)) (fCons (fC (.int 2)) fNil))) (fCallP 1 (fCons (fBin (fC (.int 9)) (fCall (fCons (fVar 1) fNil) gLen) gAdd) fNil) [] g_two) gAdd) (fTup (fCons (fC (.int 1)) (fCons (fC (.int 1)) (fCons (fC (.int 0)) (fCons (fC (.int 128)) (fCons (fC (.int 50)) fNil)))))) gAdd) (fVar 1) gAdd)))))
def g_settings_row : GP := pureF (runF 3 b_settings_row)
theorem eq_settings_row : ∀ args, args.length = 1 → g_settings_row args ≠ .bad → pureF (runF 3 b_settings_row) args = g_settings_row args := fun _ _ _ => rfl

def tlL (n : Nat) (es : List En) : List Int := [4, 0, 0, (n : Int), 255, 0, 0, 0] ++ (es.map endR).flatten
def restL (es : List En) : List Int := 9 :: tlL es.length es
def setL (es : List En) : List Int := [9, 2, (9 + ((restL es).length : Int)) % 256, (9 + ((restL es).length : Int)) / 256, 1, 1, 0, 128, 50] ++ restL es
theorem tlL_len (n : Nat) : ∀ es : List En, (tlL n es).length = 8 + 7 * es.length := fun es => by
  have : ∀ es : List En, ((es.map endR).flatten).length = 7 * es.length := fun es => by
    induction es with
    | nil => rfl
    | cons x es ih => simp only [List.map_cons, List.flatten_cons, List.length_append, ih, List.length_cons, endR, List.length_nil]; omega
  simp only [tlL, List.length_append, this, List.length_cons, List.length_nil]
theorem tlL_step (n : Nat) (es : List En) (i : Nat) (x : En) (h : es[i]? = some x) : tlL n (es.take (i + 1)) = tlL n (es.take i) ++ endR x := by
  simp only [tlL, List.take_add_one, h, Option.toList_some, List.map_append, List.map_cons, List.map_nil, List.flatten_append, List.flatten_cons, List.flatten_nil, List.append_nil, List.append_assoc]
theorem settings_loop (es : List En) (hg : ∀ x ∈ es, goodE x) (hl : es.length ≤ 100) (p : Option D) : ∃ x2, loopL allw (fStep (.one 2) lb_settings_row_0) (es.map encE) ⟨[p, some (.tup (.int 9 :: (tlL es.length []).map .int)), none], []⟩ = .ok .nx ⟨[p, some (.tup (.int 9 :: (tlL es.length es).map .int)), x2], []⟩ := by
  obtain ⟨s', l1, x2, l2⟩ := loop_inv (P := allw) (step := fStep (.one 2) lb_settings_row_0) (fun i s => ∃ x2, s = ⟨[p, some (.tup (.int 9 :: (tlL es.length (es.take i)).map .int)), x2], []⟩) (es.map encE) (fun _ _ _ => rfl)
    (fun i d s e ⟨x2, hs⟩ => by
      subst hs
      rw [List.getElem?_map] at e
      cases q : es[i]? with
      | none => rw [q] at e; cases e
      | some x =>
        rw [q] at e
        cases e
        have g := hg x (List.mem_of_getElem? q)
        have r := end_row_eq x g
        have hc : clD 0 (encE x) = true := encE_cl 0 x
        have hi : (es.take i).length ≤ 100 := by rw [List.length_take]; omega
        have hlen : ((tlL es.length (es.take i)).map D.int).length ≤ 1000 := by rw [List.length_map, tlL_len]; omega
        refine ⟨_, .inl ?_, some (encE x), rfl⟩
        rw [tlL_step es.length es i x q, List.map_append]
        generalize encE x = EX at *
        generalize (tlL es.length (es.take i)).map D.int = T at *
        have h2 : T.length + 1 + 7 ≤ 16777216 := by omega
        have hR : ∃ b bs, (endR x).map D.int = b :: bs ∧ bs.length = 6 := ⟨_, _, rfl, rfl⟩
        obtain ⟨b, bs, hR, hR6⟩ := hR
        rw [hR] at r ⊢
        simp -dsimp -implicitDefEqProofs [pureF, runF, fVar, fC, fBin, gI, gI0, gAdd, gSub, gMul, gDiv, gMod, gPow, gAnd, gOr, gXor, gShl, gShr, gLt, gLe, gGt, gGe, fTst, asB, fChain, fNotT, fAndT, fOrT, fNotV, fAndV, fOrV, fIf, fIsN, isNon, fIfS, fSeq, fNx, fCt, fRet, fRetN, fDrop, fAsg, Tg.run, setAll, fCall, fCons, fNil, fTup, fLst, fNew, fMt, isLst, lstV, seqV, objL, gAppend, gExtend, gIx, fSl, gSl, fO, fNoO, fRev, fWR1, fWR2, fWL, wkSeq, fWT, wkTup, allw, fFor, fCallP, fCallS, clL, clD, clK, fVarZ, frzG, fRaise, fSetIx, fPar, gSetL, fAug, gLen, gList, gListN, gTuple, gInt, gIsi, tyOf, isTy, sizeLine, CPow, gIAdd, gAddN, wkEnumL, wkEnumT, fWEL, fWET, fNeg, fCallK, gSumT, gSumL, lsV, fWR3, fCallNP, fStep, lb_settings_row_0, r, hc, gICat, h2, hR6])
    (s := ⟨[p, some (.tup (.int 9 :: (tlL es.length []).map .int)), none], []⟩) ⟨none, by simp⟩
  subst l2
  rw [List.length_map, List.take_length] at l1
  exact ⟨x2, l1⟩
theorem settings_eq (p : Pl) (hl : p.es.length ≤ 100) (hg : ∀ x ∈ p.es, goodE x) (h : Fault p none) : g_settings_row [encP p] = .ok (.tup ((setL p.es).map .int)) ⟨[], []⟩ := by
  have h1 := need_plan_eq p hl none h
  have hc := fun n => encP_cl n p
  obtain ⟨x2, q⟩ := settings_loop p.es hg hl (some (encP p))
  have hE := encL_cl 0 p.es
  have hEl : (p.es.map encE).length = p.es.length := List.length_map ..
  have ht : (tlL p.es.length []).map D.int = [.int 4, .int 0, .int 0, .int (p.es.length : Nat), .int 255, .int 0, .int 0, .int 0] := rfl
  have hrl : ((tlL p.es.length p.es).map D.int).length = 8 + 7 * p.es.length := by rw [List.length_map, tlL_len]
  have tw := two_eq (9 + ((restL p.es).length : Int))
  have hlr : ((restL p.es).length : Int) = 8 + 7 * (p.es.length : Int) + 1 := by simp only [restL, List.length_cons, tlL_len]; omega
  have hset : (setL p.es).map D.int = [.int 9, .int 2, .int ((9 + ((restL p.es).length : Int)) % 256), .int ((9 + ((restL p.es).length : Int)) / 256), .int 1, .int 1, .int 0, .int 128, .int 50, .int 9] ++ (tlL p.es.length p.es).map .int := by simp [setL, restL]
  rw [hset]
  rw [hlr] at tw ⊢
  have hcT := clL_ints 0 (tlL p.es.length p.es)
  have at3 : ∀ a b c d : D, L2.atI [a, b, c, d] 3 = some d := fun a b c d => rfl
  simp only [planR] at h1
  rw [ht] at q
  unfold encP at h1 hc q ⊢
  have hb : (p.es.length : Int) ≤ 100 := by omega
  generalize (tlL p.es.length p.es).map D.int = T at *
  generalize p.es.map encE = ES at *
  generalize p.es.length = N at *
  have z1 : 9 + (8 + 7 * N + 1) ≤ 16777216 := by omega
  simp -dsimp -implicitDefEqProofs [pureF, runF, fVar, fC, fBin, gI, gI0, gAdd, gSub, gMul, gDiv, gMod, gPow, gAnd, gOr, gXor, gShl, gShr, gLt, gLe, gGt, gGe, fTst, asB, fChain, fNotT, fAndT, fOrT, fNotV, fAndV, fOrV, fIf, fIsN, isNon, fIfS, fSeq, fNx, fCt, fRet, fRetN, fDrop, fAsg, Tg.run, setAll, fCall, fCons, fNil, fTup, fLst, fNew, fMt, isLst, lstV, seqV, objL, gAppend, gExtend, gIx, fSl, gSl, fO, fNoO, fRev, fWR1, fWR2, fWL, wkSeq, fWT, wkTup, allw, fFor, fCallP, fCallS, clL, clD, clK, fVarZ, frzG, fRaise, fSetIx, fPar, gSetL, fAug, gLen, gList, gListN, gTuple, gInt, gIsi, tyOf, isTy, sizeLine, CPow, gIAdd, gAddN, wkEnumL, wkEnumT, fWEL, fWET, fNeg, fCallK, gSumT, gSumL, lsV, fWR3, fCallNP, g_settings_row, b_settings_row, h1, hc, hE, at3, hEl, q, hrl, tw, hcT, z1]
theorem settings_bad (p : Pl) (hl : p.es.length ≤ 100) (k : Int) (h : Fault p (some k)) : g_settings_row [encP p] = .ex ⟨"BadPlan", [("at", .int k)]⟩ ⟨[], []⟩ := by
  have h1 := need_plan_eq p hl (some k) h
  have hc := fun n => encP_cl n p
  simp only [planR] at h1
  generalize encP p = P at *
  simp -dsimp -implicitDefEqProofs [pureF, runF, fVar, fC, fBin, gI, gI0, gAdd, gSub, gMul, gDiv, gMod, gPow, gAnd, gOr, gXor, gShl, gShr, gLt, gLe, gGt, gGe, fTst, asB, fChain, fNotT, fAndT, fOrT, fNotV, fAndV, fOrV, fIf, fIsN, isNon, fIfS, fSeq, fNx, fCt, fRet, fRetN, fDrop, fAsg, Tg.run, setAll, fCall, fCons, fNil, fTup, fLst, fNew, fMt, isLst, lstV, seqV, objL, gAppend, gExtend, gIx, fSl, gSl, fO, fNoO, fRev, fWR1, fWR2, fWL, wkSeq, fWT, wkTup, allw, fFor, fCallP, fCallS, clL, clD, clK, fVarZ, frzG, fRaise, fSetIx, fPar, gSetL, fAug, gLen, gList, gListN, gTuple, gInt, gIsi, tyOf, isTy, sizeLine, CPow, gIAdd, gAddN, wkEnumL, wkEnumT, fWEL, fWET, fNeg, fCallK, gSumT, gSumL, lsV, fWR3, fCallNP, g_settings_row, b_settings_row, h1, hc]

def b_end_of : DS → R Fl :=
  (fSeq (fAsg (fIf (fTst (fBin (fBin (fVar 0) (fC (.int 2)) gIx) (fC (.int 128)) gGe)) (fC (.str "in")) (fC (.str "out"))) (.one 1))
    (fRet (fTup (fCons (fBin (fBin (fVar 0) (fC (.int 2)) gIx) (fC (.int 127)) gAnd) (fCons (fVar 1) (fCons (fIf (fTst (fBin (fBin (fVar 0) (fC (.int 3)) gIx) (fC (.int 3)) gEq)) (fC (.str "timed")) (fC (.str "bulk"))) (fCons (fBin (fBin (fVar 0) (fC (.int 4)) gIx) (fBin (fBin (fVar 0) (fC (.int 5)) gIx) (fC (.int 8)) gShl) gOr) (fCons (fBin (fVar 0) (fC (.int 6)) gIx) fNil))))))))
def g_end_of : GP := pureF (runF 2 b_end_of)
theorem eq_end_of : ∀ args, args.length = 1 → g_end_of args ≠ .bad → pureF (runF 2 b_end_of) args = g_end_of args := fun _ _ _ => rfl

theorem or_shl (a b : Int) (ha : 0 ≤ a ∧ a ≤ 255) (hb : 0 ≤ b ∧ b ≤ 255) : Builtin.bitOr a (b * 256) = a + 256 * b := by
  have := Bits.bitOr_join (a := a) (b := b) (k := 8) (by omega) (by omega) (by omega)
  rw [show (2 : Int) ^ 8 = 256 from rfl] at this
  rw [this]
  omega
theorem and127m (n : Int) (h : 0 ≤ n) : Builtin.bitAnd n 127 = n % 128 := Bits.bitAnd_mask 7 h
/-- the end of seven bytes -/
def endB (r2 r3 r4 r5 r6 : Int) : En := ⟨r2 % 128, if 128 ≤ r2 then "in" else "out", if r3 = 3 then "timed" else "bulk", r4 + 256 * r5, r6⟩
def byt (x : Int) : Prop := 0 ≤ x ∧ x ≤ 255
theorem end_of_any (r0 r1 r2 r3 r4 r5 r6 : Int) (h2 : byt r2) (h4 : byt r4) (h5 : byt r5) : g_end_of [.tup [.int r0, .int r1, .int r2, .int r3, .int r4, .int r5, .int r6]] = .ok (encE (endB r2 r3 r4 r5 r6)) ⟨[], []⟩ := by
  have o1 := and127m r2 h2.1
  have o2 := or_shl r4 r5 h4 h5
  have at7 : ∀ a b c d e f h : D, L2.atI [a, b, c, d, e, f, h] 2 = some c ∧ L2.atI [a, b, c, d, e, f, h] 3 = some d ∧ L2.atI [a, b, c, d, e, f, h] 4 = some e ∧ L2.atI [a, b, c, d, e, f, h] 5 = some f ∧ L2.atI [a, b, c, d, e, f, h] 6 = some h := fun a b c d e f h => ⟨rfl, rfl, rfl, rfl, rfl⟩
  have cp : r5.natAbs < 18446744073709551616 := by have := h5.1; have := h5.2; omega
  by_cases q : 128 ≤ r2
  · by_cases q2 : r3 = 3
    · simp -dsimp -implicitDefEqProofs [pureF, runF, fVar, fC, fBin, gI, gI0, gAdd, gSub, gMul, gDiv, gMod, gPow, gAnd, gOr, gXor, gShl, gShr, gLt, gLe, gGt, gGe, fTst, asB, fChain, fNotT, fAndT, fOrT, fNotV, fAndV, fOrV, fIf, fIsN, isNon, fIfS, fSeq, fNx, fCt, fRet, fRetN, fDrop, fAsg, Tg.run, setAll, fCall, fCons, fNil, fTup, fLst, fNew, fMt, isLst, lstV, seqV, objL, gAppend, gExtend, gIx, fSl, gSl, fO, fNoO, fRev, fWR1, fWR2, fWL, wkSeq, fWT, wkTup, allw, fFor, fCallP, fCallS, clL, clD, clK, fVarZ, frzG, fRaise, fSetIx, fPar, gSetL, fAug, gLen, gList, gListN, gTuple, gInt, gIsi, tyOf, isTy, sizeLine, CPow, gIAdd, gAddN, wkEnumL, wkEnumT, fWEL, fWET, fNeg, fCallK, gSumT, gSumL, lsV, fWR3, fCallNP, g_end_of, b_end_of, encE, endB, o1, o2, at7, cp, q, q2]
    · have q3 : dcd (r3 = 3) = false := dcd_neg q2
      simp -dsimp -implicitDefEqProofs [pureF, runF, fVar, fC, fBin, gI, gI0, gAdd, gSub, gMul, gDiv, gMod, gPow, gAnd, gOr, gXor, gShl, gShr, gLt, gLe, gGt, gGe, fTst, asB, fChain, fNotT, fAndT, fOrT, fNotV, fAndV, fOrV, fIf, fIsN, isNon, fIfS, fSeq, fNx, fCt, fRet, fRetN, fDrop, fAsg, Tg.run, setAll, fCall, fCons, fNil, fTup, fLst, fNew, fMt, isLst, lstV, seqV, objL, gAppend, gExtend, gIx, fSl, gSl, fO, fNoO, fRev, fWR1, fWR2, fWL, wkSeq, fWT, wkTup, allw, fFor, fCallP, fCallS, clL, clD, clK, fVarZ, frzG, fRaise, fSetIx, fPar, gSetL, fAug, gLen, gList, gListN, gTuple, gInt, gIsi, tyOf, isTy, sizeLine, CPow, gIAdd, gAddN, wkEnumL, wkEnumT, fWEL, fWET, fNeg, fCallK, gSumT, gSumL, lsV, fWR3, fCallNP, g_end_of, b_end_of, encE, endB, o1, o2, at7, cp, q, q2, q3]
  · by_cases q2 : r3 = 3
    · simp -dsimp -implicitDefEqProofs [pureF, runF, fVar, fC, fBin, gI, gI0, gAdd, gSub, gMul, gDiv, gMod, gPow, gAnd, gOr, gXor, gShl, gShr, gLt, gLe, gGt, gGe, fTst, asB, fChain, fNotT, fAndT, fOrT, fNotV, fAndV, fOrV, fIf, fIsN, isNon, fIfS, fSeq, fNx, fCt, fRet, fRetN, fDrop, fAsg, Tg.run, setAll, fCall, fCons, fNil, fTup, fLst, fNew, fMt, isLst, lstV, seqV, objL, gAppend, gExtend, gIx, fSl, gSl, fO, fNoO, fRev, fWR1, fWR2, fWL, wkSeq, fWT, wkTup, allw, fFor, fCallP, fCallS, clL, clD, clK, fVarZ, frzG, fRaise, fSetIx, fPar, gSetL, fAug, gLen, gList, gListN, gTuple, gInt, gIsi, tyOf, isTy, sizeLine, CPow, gIAdd, gAddN, wkEnumL, wkEnumT, fWEL, fWET, fNeg, fCallK, gSumT, gSumL, lsV, fWR3, fCallNP, g_end_of, b_end_of, encE, endB, o1, o2, at7, cp, q, q2]
    · have q3 : dcd (r3 = 3) = false := dcd_neg q2
      simp -dsimp -implicitDefEqProofs [pureF, runF, fVar, fC, fBin, gI, gI0, gAdd, gSub, gMul, gDiv, gMod, gPow, gAnd, gOr, gXor, gShl, gShr, gLt, gLe, gGt, gGe, fTst, asB, fChain, fNotT, fAndT, fOrT, fNotV, fAndV, fOrV, fIf, fIsN, isNon, fIfS, fSeq, fNx, fCt, fRet, fRetN, fDrop, fAsg, Tg.run, setAll, fCall, fCons, fNil, fTup, fLst, fNew, fMt, isLst, lstV, seqV, objL, gAppend, gExtend, gIx, fSl, gSl, fO, fNoO, fRev, fWR1, fWR2, fWL, wkSeq, fWT, wkTup, allw, fFor, fCallP, fCallS, clL, clD, clK, fVarZ, frzG, fRaise, fSetIx, fPar, gSetL, fAug, gLen, gList, gListN, gTuple, gInt, gIsi, tyOf, isTy, sizeLine, CPow, gIAdd, gAddN, wkEnumL, wkEnumT, fWEL, fWET, fNeg, fCallK, gSumT, gSumL, lsV, fWR3, fCallNP, g_end_of, b_end_of, encE, endB, o1, o2, at7, cp, q, q2, q3]

def lb_first_unlike_0 : DS → R Fl := (fIfS (fTst (fBin (fVar 3) (fVar 4) gNe)) (fRet (fVar 2)) fNx)
def b_first_unlike : DS → R Fl :=
  (fSeq (fFor (fWEZ (fCons (fVar 0) (fCons (fVar 1) fNil))) (.nest 2 [3, 4]) lb_first_unlike_0)
    (fSeq (fIfS (fTst (fBin (fCall (fCons (fVar 0) fNil) gLen) (fCall (fCons (fVar 1) fNil) gLen) gNe)) (fRet (fCall (fCons (fCall (fCons (fVar 0) fNil) gLen) (fCons (fCall (fCons (fVar 1) fNil) gLen) fNil)) gMin)) fNx)
    (fRet (fBin (fC (.int 0)) (fC (.int 1)) gSub))))
def g_first_unlike : GP := pureF (runF 5 b_first_unlike)
theorem eq_first_unlike : ∀ args, args.length = 2 → g_first_unlike args ≠ .bad → pureF (runF 5 b_first_unlike) args = g_first_unlike args := fun _ _ _ => rfl

/-- the first place where two rows are unlike -/
def Unl (xs ys : List Int) (r : Int) : Prop := (xs = ys ∧ r = -1) ∨ ∃ i : Nat, xs[i]? ≠ ys[i]? ∧ (∀ j, j < i → xs[j]? = ys[j]?) ∧ r = (i : Int)
theorem unl_ex (xs ys : List Int) : ∃ r, Unl xs ys r := by
  rcases first_of (fun i => xs[i]? ≠ ys[i]?) (max xs.length ys.length) with h | ⟨i, _, h2, h3⟩
  · refine ⟨-1, .inl ⟨List.ext_getElem? fun i => ?_, rfl⟩⟩
    by_cases hi : i < max xs.length ys.length
    · exact Classical.byContradiction fun z => h i hi z
    · rw [List.getElem?_eq_none (by omega), List.getElem?_eq_none (by omega)]
  · exact ⟨i, .inr ⟨i, h2, fun j hj => Classical.byContradiction fun z => h3 j hj z, rfl⟩⟩
theorem fu_same (A B x2 x3 x4 : Option D) (i : Nat) (z : Int) : fStep (.nest 2 [3, 4]) lb_first_unlike_0 (.tup [.int (i : Nat), .tup [.int z, .int z]]) ⟨[A, B, x2, x3, x4], []⟩ = .ok .nx ⟨[A, B, some (.int (i : Nat)), some (.int z), some (.int z)], []⟩ := by
  simp -dsimp -implicitDefEqProofs [pureF, runF, fVar, fC, fBin, gI, gI0, gAdd, gSub, gMul, gDiv, gMod, gPow, gAnd, gOr, gXor, gShl, gShr, gLt, gLe, gGt, gGe, fTst, asB, fChain, fNotT, fAndT, fOrT, fNotV, fAndV, fOrV, fIf, fIsN, isNon, fIfS, fSeq, fNx, fCt, fRet, fRetN, fDrop, fAsg, Tg.run, setAll, fCall, fCons, fNil, fTup, fLst, fNew, fMt, isLst, lstV, seqV, objL, gAppend, gExtend, gIx, fSl, gSl, fO, fNoO, fRev, fWR1, fWR2, fWL, wkSeq, fWT, wkTup, allw, fFor, fCallP, fCallS, clL, clD, clK, fVarZ, frzG, fRaise, fSetIx, fPar, gSetL, fAug, gLen, gList, gListN, gTuple, gInt, gIsi, tyOf, isTy, sizeLine, CPow, gIAdd, gAddN, wkEnumL, wkEnumT, fWEL, fWET, fNeg, fCallK, gSumT, gSumL, lsV, fWR3, fCallNP, fStep, lb_first_unlike_0]
theorem fu_unl (A B x2 x3 x4 : Option D) (i : Nat) (z y : Int) (h : z ≠ y) : fStep (.nest 2 [3, 4]) lb_first_unlike_0 (.tup [.int (i : Nat), .tup [.int z, .int y]]) ⟨[A, B, x2, x3, x4], []⟩ = .ok (.rt (.int (i : Nat))) ⟨[A, B, some (.int (i : Nat)), some (.int z), some (.int y)], []⟩ := by
  have q : dcd (z = y) = false := dcd_neg h
  simp -dsimp -implicitDefEqProofs [pureF, runF, fVar, fC, fBin, gI, gI0, gAdd, gSub, gMul, gDiv, gMod, gPow, gAnd, gOr, gXor, gShl, gShr, gLt, gLe, gGt, gGe, fTst, asB, fChain, fNotT, fAndT, fOrT, fNotV, fAndV, fOrV, fIf, fIsN, isNon, fIfS, fSeq, fNx, fCt, fRet, fRetN, fDrop, fAsg, Tg.run, setAll, fCall, fCons, fNil, fTup, fLst, fNew, fMt, isLst, lstV, seqV, objL, gAppend, gExtend, gIx, fSl, gSl, fO, fNoO, fRev, fWR1, fWR2, fWL, wkSeq, fWT, wkTup, allw, fFor, fCallP, fCallS, clL, clD, clK, fVarZ, frzG, fRaise, fSetIx, fPar, gSetL, fAug, gLen, gList, gListN, gTuple, gInt, gIsi, tyOf, isTy, sizeLine, CPow, gIAdd, gAddN, wkEnumL, wkEnumT, fWEL, fWET, fNeg, fCallK, gSumT, gSumL, lsV, fWR3, fCallNP, fStep, lb_first_unlike_0, q]
theorem zip_ints (xs ys : List Int) (i : Nat) (x y : Int) (hx : xs[i]? = some x) (hy : ys[i]? = some y) : (zipD (xs.map D.int) (ys.map D.int))[i]? = some (.tup [.int (i : Nat), .tup [.int x, .int y]]) := by
  have h1 : i < xs.length := (List.getElem?_eq_some_iff.mp hx).1
  have h2 : i < ys.length := (List.getElem?_eq_some_iff.mp hy).1
  have hl : i < (zipD (xs.map D.int) (ys.map D.int)).length := by rw [zipD_len, List.length_map, List.length_map]; omega
  obtain ⟨u, v, eu, ev, e⟩ := zipD_get (List.getElem?_eq_getElem hl)
  rw [List.getElem?_map, hx] at eu
  rw [List.getElem?_map, hy] at ev
  cases eu
  cases ev
  rw [List.getElem?_eq_getElem hl, e]
theorem unlike_any (xs ys : List Int) (hl : xs.length ≤ 1000) (hl2 : ys.length ≤ 1000) (r : Int) (h : Unl xs ys r) : g_first_unlike [.tup (xs.map .int), .tup (ys.map .int)] = .ok (.int r) ⟨[], []⟩ := by
  have hm := clL_ints 0 xs
  have hm2 := clL_ints 0 ys
  have hlen : (xs.map D.int).length = xs.length := List.length_map ..
  have hlen2 : (ys.map D.int).length = ys.length := List.length_map ..
  have zl : (zipD (xs.map D.int) (ys.map D.int)).length = min xs.length ys.length := by rw [zipD_len, hlen, hlen2]
  -- to k turns
  have go : ∀ k : Nat, k ≤ min xs.length ys.length → (∀ j, j < k → xs[j]? = ys[j]?) → ∃ s', (∃ x2 x3 x4, s' = ⟨[some (.tup (xs.map .int)), some (.tup (ys.map .int)), x2, x3, x4], []⟩) ∧ loopL allw (fStep (.nest 2 [3, 4]) lb_first_unlike_0) (zipD (xs.map D.int) (ys.map D.int)) ⟨[some (.tup (xs.map .int)), some (.tup (ys.map .int)), none, none, none], []⟩ = loopL allw (fStep (.nest 2 [3, 4]) lb_first_unlike_0) ((zipD (xs.map D.int) (ys.map D.int)).drop k) s' := fun k hk hj =>
    loop_to (P := allw) (step := fStep (.nest 2 [3, 4]) lb_first_unlike_0) (fun _ s => ∃ x2 x3 x4, s = ⟨[some (.tup (xs.map .int)), some (.tup (ys.map .int)), x2, x3, x4], []⟩) (zipD (xs.map D.int) (ys.map D.int)) (fun _ _ _ => rfl) k (by omega)
      (fun i d s hi e ⟨x2, x3, x4, hs⟩ => by
        subst hs
        have hix : i < xs.length := by omega
        have ex := List.getElem?_eq_getElem hix
        have ey := ex
        rw [hj i hi] at ey
        rw [zip_ints xs ys i _ _ ex ey] at e
        cases e
        rw [fu_same]
        exact ⟨.inl rfl, _, _, _, rfl⟩)
      (s := ⟨[some (.tup (xs.map .int)), some (.tup (ys.map .int)), none, none, none], []⟩) ⟨none, none, none, rfl⟩
  have full : (∀ j, j < min xs.length ys.length → xs[j]? = ys[j]?) → ∃ x2 x3 x4, loopL allw (fStep (.nest 2 [3, 4]) lb_first_unlike_0) (zipD (xs.map D.int) (ys.map D.int)) ⟨[some (.tup (xs.map .int)), some (.tup (ys.map .int)), none, none, none], []⟩ = .ok .nx ⟨[some (.tup (xs.map .int)), some (.tup (ys.map .int)), x2, x3, x4], []⟩ := fun hj => by
    obtain ⟨s', ⟨x2, x3, x4, hs⟩, l1⟩ := go _ (Nat.le_refl _) hj
    subst hs
    rw [List.drop_of_length_le (by omega)] at l1
    exact ⟨x2, x3, x4, l1⟩
  rcases h with ⟨e, rfl⟩ | ⟨i, h1, h2, rfl⟩
  · subst e
    obtain ⟨x2, x3, x4, l1⟩ := full fun _ _ => rfl
    generalize xs.map D.int = M at *
    generalize xs.length = N at *
    clear go full zl hl hl2
    simp -dsimp -implicitDefEqProofs [pureF, runF, fVar, fC, fBin, gI, gI0, gAdd, gSub, gMul, gDiv, gMod, gPow, gAnd, gOr, gXor, gShl, gShr, gLt, gLe, gGt, gGe, fTst, asB, fChain, fNotT, fAndT, fOrT, fNotV, fAndV, fOrV, fIf, fIsN, isNon, fIfS, fSeq, fNx, fCt, fRet, fRetN, fDrop, fAsg, Tg.run, setAll, fCall, fCons, fNil, fTup, fLst, fNew, fMt, isLst, lstV, seqV, objL, gAppend, gExtend, gIx, fSl, gSl, fO, fNoO, fRev, fWR1, fWR2, fWL, wkSeq, fWT, wkTup, allw, fFor, fCallP, fCallS, clL, clD, clK, fVarZ, frzG, fRaise, fSetIx, fPar, gSetL, fAug, gLen, gList, gListN, gTuple, gInt, gIsi, tyOf, isTy, sizeLine, CPow, gIAdd, gAddN, wkEnumL, wkEnumT, fWEL, fWET, fNeg, fCallK, gSumT, gSumL, lsV, fWR3, fCallNP, g_first_unlike, b_first_unlike, fWEZ, wkEnumZ, l1, hlen]
  · by_cases hi : i < min xs.length ys.length
    · obtain ⟨s', ⟨x2, x3, x4, hs⟩, l1⟩ := go i (by omega) h2
      subst hs
      have hix : i < xs.length := by omega
      have hiy : i < ys.length := by omega
      have ex := List.getElem?_eq_getElem hix
      have ey := List.getElem?_eq_getElem hiy
      have hne : xs[i] ≠ ys[i] := fun z => h1 (by rw [ex, ey, z])
      have e1 := zip_ints xs ys i _ _ ex ey
      have hz : i < (zipD (xs.map D.int) (ys.map D.int)).length := by omega
      rw [List.drop_eq_getElem_cons hz] at l1
      rw [List.getElem?_eq_getElem hz] at e1
      rw [Option.some.inj e1] at l1
      have l2 : loopL allw (fStep (.nest 2 [3, 4]) lb_first_unlike_0) (zipD (xs.map D.int) (ys.map D.int)) ⟨[some (.tup (xs.map .int)), some (.tup (ys.map .int)), none, none, none], []⟩ = .ok (.rt (.int (i : Nat))) ⟨[some (.tup (xs.map .int)), some (.tup (ys.map .int)), some (.int (i : Nat)), some (.int xs[i]), some (.int ys[i])], []⟩ := by
        rw [l1]
        unfold loopL
        rw [if_pos (show allw _ = true from rfl), fu_unl _ _ _ _ _ i _ _ hne]
      clear l1 go full zl hl hl2 e1 hne ex ey hz
      generalize xs.map D.int = M at *
      generalize ys.map D.int = M2 at *
      simp -dsimp -implicitDefEqProofs [pureF, runF, fVar, fC, fBin, gI, gI0, gAdd, gSub, gMul, gDiv, gMod, gPow, gAnd, gOr, gXor, gShl, gShr, gLt, gLe, gGt, gGe, fTst, asB, fChain, fNotT, fAndT, fOrT, fNotV, fAndV, fOrV, fIf, fIsN, isNon, fIfS, fSeq, fNx, fCt, fRet, fRetN, fDrop, fAsg, Tg.run, setAll, fCall, fCons, fNil, fTup, fLst, fNew, fMt, isLst, lstV, seqV, objL, gAppend, gExtend, gIx, fSl, gSl, fO, fNoO, fRev, fWR1, fWR2, fWL, wkSeq, fWT, wkTup, allw, fFor, fCallP, fCallS, clL, clD, clK, fVarZ, frzG, fRaise, fSetIx, fPar, gSetL, fAug, gLen, gList, gListN, gTuple, gInt, gIsi, tyOf, isTy, sizeLine, CPow, gIAdd, gAddN, wkEnumL, wkEnumT, fWEL, fWET, fNeg, fCallK, gSumT, gSumL, lsV, fWR3, fCallNP, g_first_unlike, b_first_unlike, fWEZ, wkEnumZ, l2]
    · obtain ⟨x2, x3, x4, l1⟩ := full fun j hj => h2 j (by omega)
      have hne : xs.length ≠ ys.length := fun z => h1 (by rw [List.getElem?_eq_none (by omega), List.getElem?_eq_none (by omega)])
      have him : i = min xs.length ys.length := Classical.byContradiction fun z => by
        have := h2 (min xs.length ys.length) (by omega)
        by_cases hc : xs.length < ys.length
        · rw [show min xs.length ys.length = xs.length by omega, List.getElem?_eq_none (by omega), List.getElem?_eq_getElem hc] at this
          cases this
        · have hc : ys.length < xs.length := by omega
          rw [show min xs.length ys.length = ys.length by omega, List.getElem?_eq_none (l := ys) (by omega), List.getElem?_eq_getElem hc] at this
          cases this
      subst him
      have hn : ((xs.length : Nat) : Int) ≠ ((ys.length : Nat) : Int) := by omega
      have q : dcd (((xs.length : Nat) : Int) = ((ys.length : Nat) : Int)) = false := dcd_neg hn
      by_cases hc : ((ys.length : Nat) : Int) < ((xs.length : Nat) : Int)
      · have hmn : ((min xs.length ys.length : Nat) : Int) = ((ys.length : Nat) : Int) := by omega
        rw [hmn]
        clear go full zl hl hl2 h1 h2 hi hmn hn hne
        generalize xs.map D.int = M at *
        generalize ys.map D.int = M2 at *
        generalize xs.length = N at *
        generalize ys.length = N2 at *
        simp -dsimp -implicitDefEqProofs [pureF, runF, fVar, fC, fBin, gI, gI0, gAdd, gSub, gMul, gDiv, gMod, gPow, gAnd, gOr, gXor, gShl, gShr, gLt, gLe, gGt, gGe, fTst, asB, fChain, fNotT, fAndT, fOrT, fNotV, fAndV, fOrV, fIf, fIsN, isNon, fIfS, fSeq, fNx, fCt, fRet, fRetN, fDrop, fAsg, Tg.run, setAll, fCall, fCons, fNil, fTup, fLst, fNew, fMt, isLst, lstV, seqV, objL, gAppend, gExtend, gIx, fSl, gSl, fO, fNoO, fRev, fWR1, fWR2, fWL, wkSeq, fWT, wkTup, allw, fFor, fCallP, fCallS, clL, clD, clK, fVarZ, frzG, fRaise, fSetIx, fPar, gSetL, fAug, gLen, gList, gListN, gTuple, gInt, gIsi, tyOf, isTy, sizeLine, CPow, gIAdd, gAddN, wkEnumL, wkEnumT, fWEL, fWET, fNeg, fCallK, gSumT, gSumL, lsV, fWR3, fCallNP, g_first_unlike, b_first_unlike, fWEZ, wkEnumZ, l1, hlen, hlen2, q, gMin, hc]
      · have hmn : ((min xs.length ys.length : Nat) : Int) = ((xs.length : Nat) : Int) := by omega
        rw [hmn]
        clear go full zl hl hl2 h1 h2 hi hmn hn hne
        generalize xs.map D.int = M at *
        generalize ys.map D.int = M2 at *
        generalize xs.length = N at *
        generalize ys.length = N2 at *
        simp -dsimp -implicitDefEqProofs [pureF, runF, fVar, fC, fBin, gI, gI0, gAdd, gSub, gMul, gDiv, gMod, gPow, gAnd, gOr, gXor, gShl, gShr, gLt, gLe, gGt, gGe, fTst, asB, fChain, fNotT, fAndT, fOrT, fNotV, fAndV, fOrV, fIf, fIsN, isNon, fIfS, fSeq, fNx, fCt, fRet, fRetN, fDrop, fAsg, Tg.run, setAll, fCall, fCons, fNil, fTup, fLst, fNew, fMt, isLst, lstV, seqV, objL, gAppend, gExtend, gIx, fSl, gSl, fO, fNoO, fRev, fWR1, fWR2, fWL, wkSeq, fWT, wkTup, allw, fFor, fCallP, fCallS, clL, clD, clK, fVarZ, frzG, fRaise, fSetIx, fPar, gSetL, fAug, gLen, gList, gListN, gTuple, gInt, gIsi, tyOf, isTy, sizeLine, CPow, gIAdd, gAddN, wkEnumL, wkEnumT, fWEL, fWET, fNeg, fCallK, gSumT, gSumL, lsV, fWR3, fCallNP, g_first_unlike, b_first_unlike, fWEZ, wkEnumZ, l1, hlen, hlen2, q, gMin, hc]

def lb_plan_told_0 : DS → R Fl := (fDrop (fMt isLst (fVar 2) (fCons (fCallP 1 (fCons (fSl (fVar 1) (fO (fVar 3)) (fO (fBin (fVar 3) (fC (.int 7)) gAdd))) fNil) [] g_end_of) fNil) gAppend))
def b_plan_told : DS → R Fl :=
  (fSeq (fAsg (fNew fNil) (.one 2))
    (fSeq (fFor (fWR3 (fCons (fC (.int 18)) (fCons (fBin (fCall (fCons (fVar 1) fNil) gLen) (fC (.int 6)) gSub) (fCons (fC (.int 7)) fNil)))) (.one 3) lb_plan_told_0)
    (fRet (fTup (fCons (fBin (fBin (fVar 0) (fC (.int 8)) gIx) (fBin (fBin (fVar 0) (fC (.int 9)) gIx) (fC (.int 8)) gShl) gOr) (fCons (fBin (fBin (fVar 0) (fC (.int 10)) gIx) (fBin (fBin (fVar 0) (fC (.int 11)) gIx) (fC (.int 8)) gShl) gOr) (fCons (fBin (fVar 0) (fC (.int 14)) gIx) (fCons (fCall (fCons (fVar 2) fNil) gTuple) fNil))))))))
def g_plan_told : GP := pureF (runF 4 b_plan_told)
theorem eq_plan_told : ∀ args, args.length = 2 → g_plan_told args ≠ .bad → pureF (runF 4 b_plan_told) args = g_plan_told args := fun _ _ _ => rfl

theorem small_le {i j c : Int} (h1 : 0 ≤ i) (h2 : i < 1000) (h3 : -1000 ≤ j) (h4 : j < 1000) (h5 : 0 < c) (h6 : c < 1000) : Builtin.Range.small i j c = true := by
  have hb : 0 ≤ Builtin.Range.rangeSize i j c ∧ Builtin.Range.rangeSize i j c ≤ 1000 := by
    unfold Builtin.Range.rangeSize
    rw [if_pos (show c > 0 from h5)]
    split
    · have a1 := Int.ediv_nonneg (a := j - i - 1) (b := c) (by omega) (by omega)
      have a2 := Int.ediv_le_self (a := j - i - 1) c (by omega)
      omega
    · omega
  unfold Builtin.Range.small
  generalize Builtin.Range.rangeSize i j c = n at *
  simp only [Builtin.Range.rangeFitsLong, Bool.and_eq_true, Bool.or_eq_true, decide_eq_true_eq, beq_iff_eq]
  rw [if_pos (show c > 0 from h5)]
  simp only [decide_eq_true_eq, Bool.and_eq_true]
  omega
/-- the k-th end that bytes tell -/
def enA (B : List Int) (i : Nat) : En := endB (B.getD (18 + 7 * i + 2) 0) (B.getD (18 + 7 * i + 3) 0) (B.getD (18 + 7 * i + 4) 0) (B.getD (18 + 7 * i + 5) 0) (B.getD (18 + 7 * i + 6) 0)
def nE (B : List Int) : Nat := (B.length - 18) / 7
def toldP (A B : List Int) : Pl := ⟨A.getD 8 0 + 256 * A.getD 9 0, A.getD 10 0 + 256 * A.getD 11 0, A.getD 14 0, (List.range (nE B)).map (enA B)⟩
theorem toldP_len (A B : List Int) : (toldP A B).es.length = (B.length - 18) / 7 := by simp [toldP, nE]
theorem take7 : ∀ (k : Nat) (B : List Int), k + 7 ≤ B.length → (B.drop k).take 7 = [B.getD k 0, B.getD (k + 1) 0, B.getD (k + 2) 0, B.getD (k + 3) 0, B.getD (k + 4) 0, B.getD (k + 5) 0, B.getD (k + 6) 0]
  | 0, B, h => by
    match B, h with
    | a :: b :: c :: d :: e :: f :: g :: r, _ => rfl
    | [], h | [_], h | [_, _], h | [_, _, _], h | [_, _, _, _], h | [_, _, _, _, _], h | [_, _, _, _, _, _], h => exact absurd h (by simp)
  | k + 1, B, h => by
    match B, h with
    | a :: r, h =>
      have ih := take7 k r (by simp at h; omega)
      simp only [List.drop_succ_cons, List.getD_cons_succ, Nat.add_right_comm k 1] at ih ⊢
      exact ih
    | [], h => exact absurd h (by simp)
theorem told_cut (B : List Int) (i : Nat) (h : 18 + 7 * i + 7 ≤ B.length) : cutG (B.map D.int) (some ((18 + 7 * i : Nat) : Int)) (some (((18 + 7 * i + 7 : Nat)) : Int)) = [.int (B.getD (18 + 7 * i) 0), .int (B.getD (18 + 7 * i + 1) 0), .int (B.getD (18 + 7 * i + 2) 0), .int (B.getD (18 + 7 * i + 3) 0), .int (B.getD (18 + 7 * i + 4) 0), .int (B.getD (18 + 7 * i + 5) 0), .int (B.getD (18 + 7 * i + 6) 0)] := by
  have hl : (B.map D.int).length = B.length := List.length_map ..
  unfold cutG
  rw [HT.sIx_nat, HT.sIx_nat, hl, show min (18 + 7 * i) B.length = 18 + 7 * i by omega, show min (18 + 7 * i + 7) B.length = 18 + 7 * i + 7 by omega, show 18 + 7 * i + 7 - (18 + 7 * i) = 7 by omega, ← List.map_drop, ← List.map_take, take7 _ _ h]
  rfl
theorem byt_get {B : List Int} (h : ∀ x ∈ B, byt x) (k : Nat) : byt (B.getD k 0) := by
  rw [List.getD_eq_getElem?_getD]
  cases q : B[k]? with
  | none => exact ⟨by simp, by simp⟩
  | some x => exact h x (List.mem_of_getElem? q)
theorem told_loop (B : List Int) (hB : ∀ x ∈ B, byt x) (hl : B.length ≤ 500) (p : Option D) : ∃ x3, loopL allw (fStep (.one 3) lb_plan_told_0) (rngC 18 7 (nE B)) ⟨[p, some (.tup (B.map .int)), some (.obj 0), none], [.lst []]⟩ = .ok .nx ⟨[p, some (.tup (B.map .int)), some (.obj 0), x3], [.lst (((List.range (nE B)).map (enA B)).map encE)]⟩ := by
  obtain ⟨s', l1, x3, l2⟩ := loop_inv (P := allw) (step := fStep (.one 3) lb_plan_told_0) (fun i s => ∃ x3, s = ⟨[p, some (.tup (B.map .int)), some (.obj 0), x3], [.lst (((List.range i).map (enA B)).map encE)]⟩) (rngC 18 7 (nE B)) (fun _ _ _ => rfl)
    (fun i d s q ⟨x3, hs⟩ => by
      subst hs
      have hi : i < nE B := by have := (List.getElem?_eq_some_iff.mp q).1; simpa [rngC] using this
      have hd : d = .int ((18 + 7 * i : Nat) : Int) := by
        simp [rngC, hi] at q
        rw [← q]
        congr 1
        omega
      subst hd
      have hn : nE B = (B.length - 18) / 7 := rfl
      have hfit : 18 + 7 * i + 7 ≤ B.length := by omega
      have c := told_cut B i hfit
      have r := end_of_any (B.getD (18 + 7 * i) 0) (B.getD (18 + 7 * i + 1) 0) (B.getD (18 + 7 * i + 2) 0) (B.getD (18 + 7 * i + 3) 0) (B.getD (18 + 7 * i + 4) 0) (B.getD (18 + 7 * i + 5) 0) (B.getD (18 + 7 * i + 6) 0) (byt_get hB _) (byt_get hB _) (byt_get hB _)
      have hlen : (((List.range i).map (enA B)).map encE).length < 16777216 := by simp; omega
      have ht : ((List.range (i + 1)).map (enA B)).map encE = ((List.range i).map (enA B)).map encE ++ [encE (enA B i)] := by rw [List.range_succ, List.map_append, List.map_append]; rfl
      have e7 : ((18 + 7 * i : Nat) : Int) + 7 = ((18 + 7 * i + 7 : Nat) : Int) := by omega
      refine ⟨_, .inl ?_, some (.int ((18 + 7 * i : Nat) : Int)), rfl⟩
      rw [ht]
      have hE : encE (endB (B.getD (18 + 7 * i + 2) 0) (B.getD (18 + 7 * i + 3) 0) (B.getD (18 + 7 * i + 4) 0) (B.getD (18 + 7 * i + 5) 0) (B.getD (18 + 7 * i + 6) 0)) = encE (enA B i) := rfl
      rw [hE] at r
      clear hE ht hfit hn hi
      generalize encE (enA B i) = EX at *
      generalize (((List.range i).map (enA B)).map encE) = ES at *
      generalize B.getD (18 + 7 * i) 0 = z0 at *
      generalize B.getD (18 + 7 * i + 1) 0 = z1 at *
      generalize B.getD (18 + 7 * i + 2) 0 = z2 at *
      generalize B.getD (18 + 7 * i + 3) 0 = z3 at *
      generalize B.getD (18 + 7 * i + 4) 0 = z4 at *
      generalize B.getD (18 + 7 * i + 5) 0 = z5 at *
      generalize B.getD (18 + 7 * i + 6) 0 = z6 at *
      generalize B.map D.int = M at *
      generalize ((18 + 7 * i + 7 : Nat) : Int) = J at *
      generalize ((18 + 7 * i : Nat) : Int) = I at *
      simp -dsimp -implicitDefEqProofs [pureF, runF, fVar, fC, fBin, gI, gI0, gAdd, gSub, gMul, gDiv, gMod, gPow, gAnd, gOr, gXor, gShl, gShr, gLt, gLe, gGt, gGe, fTst, asB, fChain, fNotT, fAndT, fOrT, fNotV, fAndV, fOrV, fIf, fIsN, isNon, fIfS, fSeq, fNx, fCt, fRet, fRetN, fDrop, fAsg, Tg.run, setAll, fCall, fCons, fNil, fTup, fLst, fNew, fMt, isLst, lstV, seqV, objL, gAppend, gExtend, gIx, fSl, gSl, fO, fNoO, fRev, fWR1, fWR2, fWL, wkSeq, fWT, wkTup, allw, fFor, fCallP, fCallS, clL, clD, clK, fVarZ, frzG, fRaise, fSetIx, fPar, gSetL, fAug, gLen, gList, gListN, gTuple, gInt, gIsi, tyOf, isTy, sizeLine, CPow, gIAdd, gAddN, wkEnumL, wkEnumT, fWEL, fWET, fNeg, fCallK, gSumT, gSumL, lsV, fWR3, fCallNP, fStep, lb_plan_told_0, e7, c, r, hlen])
    (s := ⟨[p, some (.tup (B.map .int)), some (.obj 0), none], [.lst []]⟩) ⟨none, by simp⟩
  subst l2
  have hr : (rngC 18 7 (nE B)).length = nE B := by simp [rngC]
  rw [hr] at l1
  exact ⟨x3, l1⟩
theorem dev18 (A : List Int) (h : A.length = 18) : L2.atI (A.map D.int) 8 = some (.int (A.getD 8 0)) ∧ L2.atI (A.map D.int) 9 = some (.int (A.getD 9 0)) ∧ L2.atI (A.map D.int) 10 = some (.int (A.getD 10 0)) ∧ L2.atI (A.map D.int) 11 = some (.int (A.getD 11 0)) ∧ L2.atI (A.map D.int) 14 = some (.int (A.getD 14 0)) := by
  have k : ∀ n : Nat, n < 18 → L2.atI (A.map D.int) (n : Int) = some (.int (A.getD n 0)) := fun n hn => by
    refine atI_nat ?_
    rw [List.getElem?_map, List.getElem?_eq_getElem (by omega), List.getD_eq_getElem?_getD, List.getElem?_eq_getElem (by omega)]
    rfl
  exact ⟨k 8 (by omega), k 9 (by omega), k 10 (by omega), k 11 (by omega), k 14 (by omega)⟩
theorem told_any (A B : List Int) (hA : ∀ x ∈ A, byt x) (hB : ∀ x ∈ B, byt x) (hl : B.length ≤ 500) (h18 : A.length = 18) : g_plan_told [.tup (A.map .int), .tup (B.map .int)] = .ok (encP (toldP A B)) ⟨[], []⟩ := by
  obtain ⟨x3, q⟩ := told_loop B hB hl (some (.tup (A.map .int)))
  have hn : nE B = (B.length - 18) / 7 := rfl
  have hs : Builtin.Range.rangeSize 18 (((B.length : Nat) : Int) - 6) 7 = (nE B : Nat) := by
    unfold Builtin.Range.rangeSize
    rw [if_pos (by omega)]
    split <;> omega
  have hr : Pr (RgC 18 (((B.length : Nat) : Int) - 6) 7 (nE B)) := ⟨by omega, by omega, small_le (by omega) (by omega) (by omega) (by omega) (by omega) (by omega), hs⟩
  have hs' : (Builtin.Range.rangeSize 18 (((B.length : Nat) : Int) - 6) 7).toNat = nE B := by rw [hs]; rfl
  have oa := or_shl _ _ (byt_get hA 8) (byt_get hA 9)
  have ob := or_shl _ _ (byt_get hA 10) (byt_get hA 11)
  have na : (A.getD 9 0).natAbs < 18446744073709551616 := by have := byt_get hA 9; unfold byt at this; omega
  have nb : (A.getD 11 0).natAbs < 18446744073709551616 := by have := byt_get hA 11; unfold byt at this; omega
  have hml2 : (((B.map D.int).length : Nat) : Int) = ((B.length : Nat) : Int) := by rw [List.length_map]
  have hE := encL_cl 0 ((List.range (nE B)).map (enA B))
  have hel : (((List.range (nE B)).map (enA B)).map encE).length ≤ 16777216 := by simp; omega
  have a8 := dev18 A h18
  have hw : ∀ s, wkR3 [.int 18, .int (((B.length : Nat) : Int) - 6), .int 7] s = .ok (rngC 18 7 (nE B), allw) s := fun s => by
    unfold wkR3
    simp only [hs']
    rw [if_pos hr]
  unfold encP toldP
  simp only
  clear hs hr hs' hn
  generalize ((List.range (nE B)).map (enA B)).map encE = ES at *
  generalize A.map D.int = DV at *
  generalize B.map D.int = M at *
  generalize A.getD 8 0 = z8 at *
  generalize A.getD 9 0 = z9 at *
  generalize A.getD 10 0 = z10 at *
  generalize A.getD 11 0 = z11 at *
  generalize A.getD 14 0 = z14 at *
  generalize ((B.length : Nat) : Int) = N at *
  simp -dsimp -implicitDefEqProofs [pureF, runF, fVar, fC, fBin, gI, gI0, gAdd, gSub, gMul, gDiv, gMod, gPow, gAnd, gOr, gXor, gShl, gShr, gLt, gLe, gGt, gGe, fTst, asB, fChain, fNotT, fAndT, fOrT, fNotV, fAndV, fOrV, fIf, fIsN, isNon, fIfS, fSeq, fNx, fCt, fRet, fRetN, fDrop, fAsg, Tg.run, setAll, fCall, fCons, fNil, fTup, fLst, fNew, fMt, isLst, lstV, seqV, objL, gAppend, gExtend, gIx, fSl, gSl, fO, fNoO, fRev, fWR1, fWR2, fWL, wkSeq, fWT, wkTup, allw, fFor, fCallP, fCallS, clL, clD, clK, fVarZ, frzG, fRaise, fSetIx, fPar, gSetL, fAug, gLen, gList, gListN, gTuple, gInt, gIsi, tyOf, isTy, sizeLine, CPow, gIAdd, gAddN, wkEnumL, wkEnumT, fWEL, fWET, fNeg, fCallK, gSumT, gSumL, lsV, fWR3, fCallNP, g_plan_told, b_plan_told, hml2, hw, q, a8, oa, ob, na, nb, hE, hel]

noncomputable def fs_read_plan (a dx : Addr) (e : Ex) : DS → R (List D) := (fCons (fDget2 (fDisp (fPCons (fC (.int 0)) (fC (.int 8)) (fPCons (fC (.int 1)) (fC (.int 10)) (fPCons (fC (.int 2)) (fC (.int 14)) fPNil)))) (fXf a dx 3 "at" (decide (e.cls = "BadPlan"))) (fBin (fBin (fC (.int 18)) (fC (.int 18)) gAdd) (fBin (fC (.int 7)) (fBin (fXf a dx 3 "at" (decide (e.cls = "BadPlan"))) (fC (.int 3)) gSub) gMul) gAdd)) fNil)
def b_read_plan : DS → R Fl :=
  (fSeq (fIfS (fTst (fBin (fCall (fCons (fVar 0) fNil) gLen) (fC (.int 18)) gNe)) (fRaiseF "BadPlan" "at" okDI (fCons (fCall (fCons (fC (.int 18)) (fCons (fCall (fCons (fVar 0) fNil) gLen) fNil)) gMin) fNil)) fNx)
    (fSeq (fAsg (fCallP 2 (fCons (fVar 0) (fCons (fVar 1) fNil)) [] g_plan_told) (.one 2))
    (fSeq (fTryFromF (fDrop (fCallP 1 (fCons (fVar 2) fNil) [] g_need_plan)) ct_BadPlan 3 "BadPlan" "at" okDI fs_read_plan)
    (fSeq (fAsg (fCallP 2 (fCons (fBin (fVar 0) (fVar 1) gAdd) (fCons (fBin (fCallP 1 (fCons (fVar 2) fNil) [] g_device_row) (fCallP 1 (fCons (fVar 2) fNil) [] g_settings_row) gAdd) fNil)) [] g_first_unlike) (.one 4))
    (fSeq (fIfS (fTst (fBin (fVar 4) (fC (.int 0)) gGe)) (fRaiseF "BadPlan" "at" okDI (fCons (fVar 4) fNil)) fNx)
    (fRet (fVar 2)))))))
def g_read_plan : GP := pureF (runF 5 b_read_plan)
theorem eq_read_plan : ∀ args, args.length = 2 → g_read_plan args ≠ .bad → pureF (runF 5 b_read_plan) args = g_read_plan args := fun _ _ _ => rfl

theorem disp3 (g : List (Option D)) (m : List MO) : fDisp (fPCons (fC (.int 0)) (fC (.int 8)) (fPCons (fC (.int 1)) (fC (.int 10)) (fPCons (fC (.int 2)) (fC (.int 14)) fPNil))) ⟨g, m⟩ = .ok (.obj m.length) ⟨g, m ++ [.dK [(.inl 0, .int 8), (.inl 1, .int 10), (.inl 2, .int 14)]]⟩ := by
  have nd : ([Sum.inl 0, Sum.inl 1, Sum.inl 2] : List Key).Nodup := by simp
  have e : (m ++ [MO.dK []])[m.length]? = some (.dK []) := by simp
  simp only [fDisp, fPCons, fPNil, fC, bind_ok, tabD, keyD, e, List.map, List.length]
  rw [if_pos ⟨nd, by decide⟩]
  simp
theorem dct_at (g : List (Option D)) (m : List MO) (l : List (Key × D)) : dctV ⟨g, m ++ [.dK l]⟩ (.obj m.length) = some l := by
  simp [dctV]
theorem in_read_plan : ∀ (a dx : Addr) (e : Ex) (s : DS), (fs_read_plan a dx e { s with g := s.g.set 3 (some (excD a dx e)) }).bind (fun fl s2 => R.ok fl { s2 with g := s2.g.set 3 none }) = (fs_read_plan 0 0 e { s with g := s.g.set 3 (some (excD 0 0 e)) }).bind (fun fl s2 => R.ok fl { s2 with g := s2.g.set 3 none }) := by
  intro a dx e s
  obtain ⟨g, m⟩ := s
  unfold fs_read_plan
  generalize decide (e.cls = ("BadPlan" : Str)) = okc
  by_cases hl : 3 < g.length
  · have x1 := fun m => xf_at a dx e 3 "at" okc g m hl
    have x2 := fun m => xf_at 0 0 e 3 "at" okc g m hl
    generalize xfV e ("at" : Str) = o at *
    simp only [fCons, fDget2, disp3, bind_ok, dct_at, Option.isSome_some, if_true, x1, x2]
    cases o with
    | none => simp [xfR]
    | some d =>
      cases okc with
      | false => simp [xfR]
      | true =>
        simp only [xfR, if_true, bind_ok, fBin, fC, x1, x2]
        cases d with
        | int k =>
          have cm : CMul 7 (k - 3) := .inl ⟨by decide, by decide⟩
          simp [gSub, gI0, gI, gAdd, gMul, cm, xfR, List.set_set, keyD, x1, x2, fNil, dct_at]
        | _ => simp [gSub, gI0, gI, gAdd, gMul, xfR, List.set_set, keyD, x1, x2, fNil]
  · have hs : ∀ x : Option D, g.set 3 x = g := fun x => List.set_eq_of_length_le (by omega)
    have hn : g[3]? = none := List.getElem?_eq_none (by omega)
    simp only [hs]
    have b1 : ∀ a dx m, fXf a dx 3 "at" okc ⟨g, m⟩ = .bad := fun a dx m => by
      unfold fXf
      simp only
      rw [hn]
    simp only [fCons, fDget2, disp3, bind_ok, dct_at, Option.isSome_some, if_true, b1, bind_bad]
/-- where the bytes are at fault if the told plan is -/
def atB (k : Int) : Int := if k = 2 then 14 else 36 + 7 * (k - 3)
theorem get_at (k : Int) (h : k = 2 ∨ 3 ≤ k) (g : List (Option D)) (m : List MO) (e3 : 3 < g.length) (hm : m = []) : fs_read_plan 0 0 ⟨"BadPlan", [("at", .int k)]⟩ ⟨g.set 3 (some (excD 0 0 ⟨"BadPlan", [("at", .int k)]⟩)), m⟩ = .ok [.int (atB k)] ⟨g.set 3 (some (excD 0 0 ⟨"BadPlan", [("at", .int k)]⟩)), [.dK [(.inl 0, .int 8), (.inl 1, .int 10), (.inl 2, .int 14)]]⟩ := by
  subst hm
  have hx := fun m => xf_at 0 0 ⟨"BadPlan", [("at", .int k)]⟩ 3 "at" true g m e3
  have hv : xfV ⟨"BadPlan", [("at", .int k)]⟩ ("at" : Str) = some (.int k) := rfl
  rw [hv] at hx
  have cm : CMul 7 (k - 3) := .inl ⟨by decide, by decide⟩
  have hg : (valD [(.inl 0, .int 8), (.inl 1, .int 10), (.inl 2, .int 14)] (.inl k)).getD (.int (36 + 7 * (k - 3))) = .int (atB k) := by
    rcases h with rfl | h
    · rfl
    · have n0 : (Sum.inl 0 : Key) ≠ .inl k := fun z => by cases z; omega
      have n1 : (Sum.inl 1 : Key) ≠ .inl k := fun z => by cases z; omega
      have n2 : (Sum.inl 2 : Key) ≠ .inl k := fun z => by cases z; omega
      have n3 : ¬ k = 2 := by omega
      simp only [valD, List.find?, n0, n1, n2, decide_false, Option.map_none, Option.getD_none, atB, n3, if_false]
  unfold fs_read_plan
  generalize g.set 3 (some (excD 0 0 ⟨"BadPlan", [("at", .int k)]⟩)) = G at *
  generalize atB k = r at *
  have d3 := disp3 G []
  have da := dct_at G [] [(.inl 0, .int 8), (.inl 1, .int 10), (.inl 2, .int 14)]
  simp only [List.nil_append, List.length_nil] at d3 da
  have hb : decide (("BadPlan" : Str) = "BadPlan") = true := by simp
  simp -dsimp -implicitDefEqProofs [pureF, runF, fVar, fC, fBin, gI, gI0, gAdd, gSub, gMul, gDiv, gMod, gPow, gAnd, gOr, gXor, gShl, gShr, gLt, gLe, gGt, gGe, fTst, asB, fChain, fNotT, fAndT, fOrT, fNotV, fAndV, fOrV, fIf, fIsN, isNon, fIfS, fSeq, fNx, fCt, fRet, fRetN, fDrop, fAsg, Tg.run, setAll, fCall, fCons, fNil, fTup, fLst, fNew, fMt, isLst, lstV, seqV, objL, gAppend, gExtend, gIx, fSl, gSl, fO, fNoO, fRev, fWR1, fWR2, fWL, wkSeq, fWT, wkTup, allw, fFor, fCallP, fCallS, clL, clD, clK, fVarZ, frzG, fRaise, fSetIx, fPar, gSetL, fAug, gLen, gList, gListN, gTuple, gInt, gIsi, tyOf, isTy, sizeLine, CPow, gIAdd, gAddN, wkEnumL, wkEnumT, fWEL, fWET, fNeg, fCallK, gSumT, gSumL, lsV, fWR3, fCallNP, fDget2, d3, da, hx, xfR, keyD, cm, hg, hb]
theorem fault_k {p : Pl} {k : Int} (h : Fault p (some k)) (ha : 0 ≤ p.a ∧ p.a ≤ 65535) (hb : 0 ≤ p.b ∧ p.b ≤ 65535) : k = 2 ∨ 3 ≤ k := by
  rcases h with ⟨z, _⟩ | ⟨_, z, _⟩ | ⟨_, _, _, z⟩ | ⟨_, ⟨_, z⟩ | ⟨i, _, _, _, z⟩⟩
  · exact absurd ha z
  · exact absurd hb z
  · cases z; exact .inl rfl
  · cases z
  · cases z; exact .inr (by omega)
theorem fault_none {p : Pl} (h : Fault p none) : ∀ x ∈ p.es, goodE x := by
  rcases h with ⟨_, z⟩ | ⟨_, _, z⟩ | ⟨_, _, _, z⟩ | ⟨_, ⟨h, _⟩ | ⟨i, _, _, _, z⟩⟩
  · cases z
  · cases z
  · cases z
  · intro x hx
    obtain ⟨i, hi⟩ := List.getElem?_of_mem hx
    exact Classical.byContradiction fun z => h i ((List.getElem?_eq_some_iff.mp hi).1) (.inr (.inl ⟨x, hi, z⟩))
  · cases z
theorem fault_small {p : Pl} {k : Int} (h : Fault p (some k)) (hl : p.es.length ≤ 100) : k ≤ 102 := by
  rcases h with ⟨_, z⟩ | ⟨_, _, z⟩ | ⟨_, _, _, z⟩ | ⟨_, ⟨_, z⟩ | ⟨i, hi, _, _, z⟩⟩ <;> cases z <;> omega
theorem toldP_ab (A B : List Int) (hA : ∀ x ∈ A, byt x) : (0 ≤ (toldP A B).a ∧ (toldP A B).a ≤ 65535) ∧ (0 ≤ (toldP A B).b ∧ (toldP A B).b ≤ 65535) ∧ 0 ≤ (toldP A B).c := by
  have h8 := byt_get hA 8
  have h9 := byt_get hA 9
  have h10 := byt_get hA 10
  have h11 := byt_get hA 11
  have h14 := byt_get hA 14
  unfold byt at *
  simp only [toldP]
  omega
/-- what reading says: none, or the place -/
def Rdg (A B : List Int) (r : Option Int) : Prop :=
  (A.length ≠ 18 ∧ r = some (min 18 (A.length : Int))) ∨ (A.length = 18 ∧ ((∃ k, Fault (toldP A B) (some k) ∧ r = some (atB k)) ∨ (Fault (toldP A B) none ∧ ∃ u, Unl (A ++ B) (devL (toldP A B) ++ setL (toldP A B).es) u ∧ r = if u = -1 then none else some u)))
theorem rdg_ex (A B : List Int) : ∃ r, Rdg A B r := by
  by_cases h : A.length = 18
  · obtain ⟨f, hf⟩ := fault_ex (toldP A B)
    cases f with
    | some k => exact ⟨_, .inr ⟨h, .inl ⟨k, hf, rfl⟩⟩⟩
    | none =>
      obtain ⟨u, hu⟩ := unl_ex (A ++ B) (devL (toldP A B) ++ setL (toldP A B).es)
      exact ⟨_, .inr ⟨h, .inr ⟨hf, u, hu, rfl⟩⟩⟩
  · exact ⟨_, .inl ⟨h, rfl⟩⟩
def rdR (A B : List Int) : Option Int → R D
  | none => .ok (encP (toldP A B)) ⟨[], []⟩
  | some k => .ex ⟨"BadPlan", [("at", .int k)]⟩ ⟨[], []⟩
theorem setL_len (es : List En) : (setL es).length = 18 + 7 * es.length := by simp [setL, restL, tlL_len]; omega
theorem unl_rng {xs ys : List Int} {u : Int} (h : Unl xs ys u) (h1 : xs.length ≤ 300) (h2 : ys.length ≤ 300) : u = -1 ∨ (0 ≤ u ∧ u < 1000) := by
  rcases h with ⟨_, rfl⟩ | ⟨i, h3, _, rfl⟩
  · exact .inl rfl
  · refine .inr ⟨by omega, ?_⟩
    have : i < max xs.length ys.length := Classical.byContradiction fun z => h3 (by rw [List.getElem?_eq_none (by omega), List.getElem?_eq_none (by omega)])
    omega
--PART
theorem read_plan_any (A B : List Int) (hA : ∀ x ∈ A, byt x) (hB : ∀ x ∈ B, byt x) (hl : B.length ≤ 200) (hlA : A.length ≤ 200) (r : Option Int) (h : Rdg A B r) : g_read_plan [.tup (A.map .int), .tup (B.map .int)] = rdR A B r := by
  have hla : (A.map D.int).length = A.length := List.length_map ..
  have hlb : (B.map D.int).length = B.length := List.length_map ..
  rcases h with ⟨h18, rfl⟩ | ⟨h18, h⟩
  · have q : dcd ((A.length : Int) = 18) = false := dcd_neg (by omega)
    simp only [rdR]
    by_cases hc : (A.length : Int) < 18
    · have ok : okDI (.int (A.length : Int)) := ⟨_, rfl, by omega, by omega⟩
      rw [show min 18 (A.length : Int) = (A.length : Int) by omega]
      clear h18
      generalize A.map D.int = DV at *
      generalize B.map D.int = SV at *
      generalize A.length = N at *
      simp -dsimp -implicitDefEqProofs [pureF, runF, fVar, fC, fBin, gI, gI0, gAdd, gSub, gMul, gDiv, gMod, gPow, gAnd, gOr, gXor, gShl, gShr, gLt, gLe, gGt, gGe, fTst, asB, fChain, fNotT, fAndT, fOrT, fNotV, fAndV, fOrV, fIf, fIsN, isNon, fIfS, fSeq, fNx, fCt, fRet, fRetN, fDrop, fAsg, Tg.run, setAll, fCall, fCons, fNil, fTup, fLst, fNew, fMt, isLst, lstV, seqV, objL, gAppend, gExtend, gIx, fSl, gSl, fO, fNoO, fRev, fWR1, fWR2, fWL, wkSeq, fWT, wkTup, allw, fFor, fCallP, fCallS, clL, clD, clK, fVarZ, frzG, fRaise, fSetIx, fPar, gSetL, fAug, gLen, gList, gListN, gTuple, gInt, gIsi, tyOf, isTy, sizeLine, CPow, gIAdd, gAddN, wkEnumL, wkEnumT, fWEL, fWET, fNeg, fCallK, gSumT, gSumL, lsV, fWR3, fCallNP, g_read_plan, b_read_plan, hla, q, fRaiseF, gMin, hc, ok]
    · have ok : okDI (.int 18) := ⟨_, rfl, by omega, by omega⟩
      rw [show min 18 (A.length : Int) = 18 by omega]
      clear h18
      generalize A.map D.int = DV at *
      generalize B.map D.int = SV at *
      generalize A.length = N at *
      simp -dsimp -implicitDefEqProofs [pureF, runF, fVar, fC, fBin, gI, gI0, gAdd, gSub, gMul, gDiv, gMod, gPow, gAnd, gOr, gXor, gShl, gShr, gLt, gLe, gGt, gGe, fTst, asB, fChain, fNotT, fAndT, fOrT, fNotV, fAndV, fOrV, fIf, fIsN, isNon, fIfS, fSeq, fNx, fCt, fRet, fRetN, fDrop, fAsg, Tg.run, setAll, fCall, fCons, fNil, fTup, fLst, fNew, fMt, isLst, lstV, seqV, objL, gAppend, gExtend, gIx, fSl, gSl, fO, fNoO, fRev, fWR1, fWR2, fWL, wkSeq, fWT, wkTup, allw, fFor, fCallP, fCallS, clL, clD, clK, fVarZ, frzG, fRaise, fSetIx, fPar, gSetL, fAug, gLen, gList, gListN, gTuple, gInt, gIsi, tyOf, isTy, sizeLine, CPow, gIAdd, gAddN, wkEnumL, wkEnumT, fWEL, fWET, fNeg, fCallK, gSumT, gSumL, lsV, fWR3, fCallNP, g_read_plan, b_read_plan, hla, q, fRaiseF, gMin, hc, ok]
  · have t := told_any A B hA hB (by omega) h18
    obtain ⟨ha, hb, hc⟩ := toldP_ab A B hA
    have hel : (toldP A B).es.length ≤ 100 := by rw [toldP_len]; omega
    have hcl := fun n => encP_cl n (toldP A B)
    have c1 := clL_ints 0 A
    have c2 := clL_ints 0 B
    rw [h18] at hla
    rcases h with ⟨k, hf, rfl⟩ | ⟨hf, u, hu, rfl⟩
    · have n := need_plan_eq (toldP A B) hel (some k) hf
      have hk := fault_k hf ha hb
      have hk2 := fault_small hf hel
      have ga := get_at k hk [some (.tup (A.map D.int)), some (.tup (B.map D.int)), some (encP (toldP A B)), none, none] [] (by simp) rfl
      have ok : okDI (.int (atB k)) := ⟨_, rfl, by unfold atB; split <;> omega, by unfold atB; split <;> omega⟩
      simp only [planR, rdR] at n ⊢
      generalize atB k = AT at *
      generalize encP (toldP A B) = P at *
      generalize A.map D.int = DV at *
      generalize B.map D.int = SV at *
      simp only [List.set_cons_succ, List.set_cons_zero] at ga
      simp -dsimp -implicitDefEqProofs [pureF, runF, fVar, fC, fBin, gI, gI0, gAdd, gSub, gMul, gDiv, gMod, gPow, gAnd, gOr, gXor, gShl, gShr, gLt, gLe, gGt, gGe, fTst, asB, fChain, fNotT, fAndT, fOrT, fNotV, fAndV, fOrV, fIf, fIsN, isNon, fIfS, fSeq, fNx, fCt, fRet, fRetN, fDrop, fAsg, Tg.run, setAll, fCall, fCons, fNil, fTup, fLst, fNew, fMt, isLst, lstV, seqV, objL, gAppend, gExtend, gIx, fSl, gSl, fO, fNoO, fRev, fWR1, fWR2, fWL, wkSeq, fWT, wkTup, allw, fFor, fCallP, fCallS, clL, clD, clK, fVarZ, frzG, fRaise, fSetIx, fPar, gSetL, fAug, gLen, gList, gListN, gTuple, gInt, gIsi, tyOf, isTy, sizeLine, CPow, gIAdd, gAddN, wkEnumL, wkEnumT, fWEL, fWET, fNeg, fCallK, gSumT, gSumL, lsV, fWR3, fCallNP, g_read_plan, b_read_plan, hla, t, fTryFromF, n, hcl, c1, c2, ct_BadPlan, ga, ok]
    · have n := need_plan_eq (toldP A B) hel none hf
      have hg := fault_none hf
      have d := device_eq (toldP A B) hel hf
      have s := settings_eq (toldP A B) hel hg hf
      have lu : (A ++ B).length ≤ 300 := by rw [List.length_append]; omega
      have dl : (devL (toldP A B)).length = 18 := rfl
      have lv : (devL (toldP A B) ++ setL (toldP A B).es).length ≤ 300 := by rw [List.length_append, setL_len, dl, toldP_len]; omega
      have ul := unlike_any _ _ (by omega) (by omega) u hu
      have hur := unl_rng hu lu lv
      rw [List.map_append, List.map_append] at ul
      have c3 := clL_ints 0 (A ++ B)
      have c4 := clL_ints 0 (devL (toldP A B) ++ setL (toldP A B).es)
      rw [List.map_append] at c3 c4
      have l1 : ((devL (toldP A B)).map D.int).length = 18 := rfl
      have l2 : 18 + ((setL (toldP A B).es).map D.int).length ≤ 16777216 := by rw [List.length_map, setL_len]; omega
      have l3 : 18 + (B.map D.int).length ≤ 16777216 := by omega
      simp only [planR] at n
      generalize (devL (toldP A B)).map D.int = DV' at *
      generalize (setL (toldP A B).es).map D.int = SV' at *
      rcases hur with rfl | ⟨hu0, hu1⟩
      · simp only [if_true, rdR]
        generalize encP (toldP A B) = P at *
        generalize A.map D.int = DV at *
        generalize B.map D.int = SV at *
        simp -dsimp -implicitDefEqProofs [pureF, runF, fVar, fC, fBin, gI, gI0, gAdd, gSub, gMul, gDiv, gMod, gPow, gAnd, gOr, gXor, gShl, gShr, gLt, gLe, gGt, gGe, fTst, asB, fChain, fNotT, fAndT, fOrT, fNotV, fAndV, fOrV, fIf, fIsN, isNon, fIfS, fSeq, fNx, fCt, fRet, fRetN, fDrop, fAsg, Tg.run, setAll, fCall, fCons, fNil, fTup, fLst, fNew, fMt, isLst, lstV, seqV, objL, gAppend, gExtend, gIx, fSl, gSl, fO, fNoO, fRev, fWR1, fWR2, fWL, wkSeq, fWT, wkTup, allw, fFor, fCallP, fCallS, clL, clD, clK, fVarZ, frzG, fRaise, fSetIx, fPar, gSetL, fAug, gLen, gList, gListN, gTuple, gInt, gIsi, tyOf, isTy, sizeLine, CPow, gIAdd, gAddN, wkEnumL, wkEnumT, fWEL, fWET, fNeg, fCallK, gSumT, gSumL, lsV, fWR3, fCallNP, g_read_plan, b_read_plan, hla, l1, t, fTryFromF, n, d, s, hcl, c1, c2, c3, c4, ul, l2, l3]
      · have ok : okDI (.int u) := ⟨_, rfl, by omega, by omega⟩
        simp only [show ¬ u = -1 by omega, if_false, rdR]
        generalize encP (toldP A B) = P at *
        generalize A.map D.int = DV at *
        generalize B.map D.int = SV at *
        simp -dsimp -implicitDefEqProofs [pureF, runF, fVar, fC, fBin, gI, gI0, gAdd, gSub, gMul, gDiv, gMod, gPow, gAnd, gOr, gXor, gShl, gShr, gLt, gLe, gGt, gGe, fTst, asB, fChain, fNotT, fAndT, fOrT, fNotV, fAndV, fOrV, fIf, fIsN, isNon, fIfS, fSeq, fNx, fCt, fRet, fRetN, fDrop, fAsg, Tg.run, setAll, fCall, fCons, fNil, fTup, fLst, fNew, fMt, isLst, lstV, seqV, objL, gAppend, gExtend, gIx, fSl, gSl, fO, fNoO, fRev, fWR1, fWR2, fWL, wkSeq, fWT, wkTup, allw, fFor, fCallP, fCallS, clL, clD, clK, fVarZ, frzG, fRaise, fSetIx, fPar, gSetL, fAug, gLen, gList, gListN, gTuple, gInt, gIsi, tyOf, isTy, sizeLine, CPow, gIAdd, gAddN, wkEnumL, wkEnumT, fWEL, fWET, fNeg, fCallK, gSumT, gSumL, lsV, fWR3, fCallNP, g_read_plan, b_read_plan, hla, l1, t, fTryFromF, n, d, s, hcl, c1, c2, c3, c4, ul, l2, l3, hu0, fRaiseF, ok]

def lb_law_bag_0 : DS → R Fl := (fAsg (fBin (fBin (fBin (fVar 2) (fC (.int 1543)) gMul) (fVar 3) gAdd) (fC (.int 2147483629)) gMod) (.one 2))
def b_law_bag : DS → R Fl :=
  (fSeq (fAsg (fCall (fCons (fSl (fVar 0) fNoO (fO (fC (.int 63)))) fNil) gList) (.one 1))
    (fSeq (fAsg (fBin (fC (.int 17)) (fCall (fCons (fVar 1) fNil) gLen) gAdd) (.one 2))
    (fSeq (fFor (fWL (fVar 1)) (.one 3) lb_law_bag_0)
    (fRet (fNew (fCons (fVar 1) (fCons (fC (.int 0)) (fCons (fC (.int 0)) (fCons (fVar 2) fNil)))))))))
theorem eq_law_bag : ∀ args μ, args.length = 1 → g_law_bag args μ ≠ .bad → runF 4 b_law_bag args μ = g_law_bag args μ := by
  intro args μ hl h
  unfold g_law_bag at h ⊢
  split
  · rename_i cs
    cases q : intsD cs with
    | none => simp [q] at h
    | some ns =>
      simp only [q] at h ⊢
      split
      · rename_i hc
        have hd := ints_eq q
        subst hd
        have hcut : cutG (ns.map D.int) none (some 63) = ns.map D.int := by
          unfold cutG
          rw [show HT.sIx (ns.map D.int).length 0 none = 0 from rfl, show HT.sIx (ns.map D.int).length (ns.map D.int).length (some 63) = min 63 (ns.map D.int).length from HT.sIx_nat _ _ 63]
          rw [List.drop_zero, List.length_map, Nat.sub_zero, List.take_of_length_le (by rw [List.length_map]; omega)]
        obtain ⟨s', l1, x, l2⟩ := loop_inv (P := allw) (step := fStep (.one 3) lb_law_bag_0) (fun i s => ∃ x, s = ⟨[some (.lsr (ns.map .int)), some (.lst (ns.map .int)), some (.int ((ns.take i).foldl (fun k c => (k * 1543 + c) % 2147483629) (17 + ns.length))), x], μ⟩) (ns.map .int) (fun _ _ _ => rfl)
          (fun i d s e ⟨x, hs⟩ => by
            rw [List.getElem?_map] at e
            cases qe : ns[i]? with
            | none => rw [qe] at e; cases e
            | some b =>
              rw [qe] at e
              cases e
              subst hs
              refine ⟨_, .inl ?_, some (.int b), rfl⟩
              simp -dsimp -implicitDefEqProofs [pureF, runF, fVar, fC, fBin, gI, gI0, gAdd, gSub, gMul, gDiv, gMod, gPow, gAnd, gOr, gXor, gShl, gShr, gLt, gLe, gGt, gGe, fTst, asB, fChain, fNotT, fAndT, fOrT, fNotV, fAndV, fOrV, fIf, fIsN, isNon, fIfS, fSeq, fNx, fCt, fRet, fRetN, fDrop, fAsg, Tg.run, setAll, fCall, fCons, fNil, fTup, fLst, fNew, fMt, isLst, lstV, seqV, objL, gAppend, gExtend, gIx, fSl, gSl, fO, fNoO, fRev, fWR1, fWR2, fWL, wkSeq, fWT, wkTup, allw, fFor, fCallP, fCallS, clL, clD, clK, fVarZ, frzG, fRaise, fSetIx, fPar, gSetL, fAug, gLen, gList, gListN, gTuple, gInt, gIsi, tyOf, isTy, sizeLine, CPow, gIAdd, gAddN, wkEnumL, wkEnumT, fWEL, fWET, fNeg, fCallK, gSumT, gSumL, lsV, fWR3, fCallNP, fStep, lb_law_bag_0, CMul, List.take_add_one, qe, List.foldl_append])
          (s := ⟨[some (.lsr (ns.map .int)), some (.lst (ns.map .int)), some (.int (17 + ns.length)), none], μ⟩) ⟨none, by simp⟩
        rw [List.length_map, List.take_length] at l2
        subst l2
        simp -dsimp -implicitDefEqProofs [pureF, runF, fVar, fC, fBin, gI, gI0, gAdd, gSub, gMul, gDiv, gMod, gPow, gAnd, gOr, gXor, gShl, gShr, gLt, gLe, gGt, gGe, fTst, asB, fChain, fNotT, fAndT, fOrT, fNotV, fAndV, fOrV, fIf, fIsN, isNon, fIfS, fSeq, fNx, fCt, fRet, fRetN, fDrop, fAsg, Tg.run, setAll, fCall, fCons, fNil, fTup, fLst, fNew, fMt, isLst, lstV, seqV, objL, gAppend, gExtend, gIx, fSl, gSl, fO, fNoO, fRev, fWR1, fWR2, fWL, wkSeq, fWT, wkTup, allw, fFor, fCallP, fCallS, clL, clD, clK, fVarZ, frzG, fRaise, fSetIx, fPar, gSetL, fAug, gLen, gList, gListN, gTuple, gInt, gIsi, tyOf, isTy, sizeLine, CPow, gIAdd, gAddN, wkEnumL, wkEnumT, fWEL, fWET, fNeg, fCallK, gSumT, gSumL, lsV, fWR3, fCallNP, b_law_bag, hcut, l1, Bag.mo, bag0, bagKnot]
      · rename_i hc
        exact (h (if_neg hc)).elim
  · simp at h

def b_law_pull : DS → R Fl :=
  (fSeq (fIfS (fTst (fBin (fBin (fVar 0) (fC (.int 2)) gIx) (fC (.int 2)) gLt)) (fSeq (fSetIx (fBin (fBin (fVar 0) (fC (.int 1)) gIx) (fC (.int 1)) gAdd) (fVar 0) (fC (.int 1)) gSetL)
    (fSeq (fAsg (fBin (fBin (fVar 0) (fC (.int 3)) gIx) (fBin (fBin (fVar 0) (fC (.int 1)) gIx) (fC (.int 7919)) gMul) gAdd) (.one 2))
    (fSeq (fIfS (fTst (fBin (fBin (fVar 0) (fC (.int 1)) gIx) (fCall (fCons (fBin (fVar 0) (fC (.int 0)) gIx) fNil) gLen) gLe)) (fAsg (fBin (fBin (fVar 0) (fC (.int 0)) gIx) (fBin (fBin (fVar 0) (fC (.int 1)) gIx) (fC (.int 1)) gSub) gIx) (.one 2)) fNx)
    (fSeq (fIfS (fOrT (fTst (fBin (fBin (fVar 0) (fC (.int 1)) gIx) (fCall (fCons (fBin (fVar 0) (fC (.int 0)) gIx) fNil) gLen) gGt)) (fTst (fBin (fVar 2) (fBin (fC (.int 10)) (fC (.int 18)) gPow) gLt))) (fSeq (fAsg (fBin (fBin (fBin (fBin (fVar 2) (fC (.int 48271)) gMul) (fBin (fBin (fVar 0) (fC (.int 1)) gIx) (fC (.int 40692)) gMul) gAdd) (fBin (fVar 0) (fC (.int 3)) gIx) gAdd) (fC (.int 2147483647)) gMod) (.one 3))
    (fSeq (fAsg (fBin (fBin (fBin (fVar 3) (fVar 3) gMul) (fBin (fVar 0) (fC (.int 1)) gIx) gAdd) (fC (.int 998244353)) gMod) (.one 4))
    (fRet (fBin (fBin (fBin (fBin (fBin (fVar 4) (fC (.int 69621)) gMul) (fVar 3) gAdd) (fC (.int 2147483629)) gMod) (fC (.int 7)) gDiv) (fVar 1) gMod)))) fNx)
    (fSetIx (fVar 2) (fVar 0) (fC (.int 2)) gSetL))))) fNx)
    (fSeq (fAsg (fBin (fBin (fVar 0) (fC (.int 2)) gIx) (fVar 1) gMod) (.one 5))
    (fSeq (fSetIx (fBin (fBin (fVar 0) (fC (.int 2)) gIx) (fVar 1) gDiv) (fVar 0) (fC (.int 2)) gSetL)
    (fRet (fVar 5)))))
theorem atP {α : Type} (a b c d : α) : L2.atI [a, b, c, d] 0 = some a ∧ L2.atI [a, b, c, d] 1 = some b ∧ L2.atI [a, b, c, d] 2 = some c ∧ L2.atI [a, b, c, d] 3 = some d := ⟨rfl, rfl, rfl, rfl⟩
theorem eq_law_pull : ∀ args μ, args.length = 2 → g_law_pull args μ ≠ .bad → runF 6 b_law_pull args μ = g_law_pull args μ := by
  intro args μ hl h
  unfold g_law_pull at h ⊢
  split
  · rename_i n
    cases q : bagAt μ with
    | none => simp [q] at h
    | some b =>
      simp only [q] at h ⊢
      split
      · rename_i hc
        obtain ⟨⟨r, rfl⟩, hi0⟩ := bagAt_eq q
        obtain ⟨cells, i, sd, kn⟩ := b
        simp only at hi0
        have hw : ∀ z : Int, CDivW z n := fun z => cdw hc.1 hc.2
        have h7 : ∀ z : Int, CDivW z 7 := fun z => cdw (by omega) (by omega)
        have hn : 0 < n := hc.1
        have a1 : ∀ z : Int, CMul z 7919 := fun z => .inr ⟨by decide, by decide⟩
        have a2 : ∀ z : Int, CMul z 48271 := fun z => .inr ⟨by decide, by decide⟩
        have a3 : ∀ z : Int, CMul z 40692 := fun z => .inr ⟨by decide, by decide⟩
        have a4 : ∀ z : Int, CMul z 69621 := fun z => .inr ⟨by decide, by decide⟩
        have a5 : ∀ z : Int, CMul (z % 2147483647) (z % 2147483647) := fun z => .inl ⟨by omega, by omega⟩
        by_cases c1 : sd < 2
        · by_cases c2 : i + 1 ≤ (cells.length : Int)
          · have c3 : ¬ (cells.length : Int) < i + 1 := by omega
            have hat : L2.atI (cells.map D.int) i = some (.int (cells.getD i.toNat 0)) := by
              have e : i = ((i.toNat : Nat) : Int) := (Int.toNat_of_nonneg hi0).symm
              rw [show L2.atI (cells.map D.int) i = L2.atI (cells.map D.int) ((i.toNat : Nat) : Int) by rw [← e]]
              refine atI_nat ?_
              rw [List.getElem?_map, List.getElem?_eq_getElem (by omega)]
              simp [List.getD, List.getElem?_eq_getElem (show i.toNat < cells.length by omega)]
            have hgd : cells[i.toNat]?.getD 0 = cells.getD i.toNat 0 := by simp
            generalize hg : cells.getD i.toNat 0 = z at hat hgd
            by_cases c4 : z < 1000000000000000000
            · simp -dsimp -implicitDefEqProofs [pureF, runF, fVar, fC, fBin, gI, gI0, gAdd, gSub, gMul, gDiv, gMod, gPow, gAnd, gOr, gXor, gShl, gShr, gLt, gLe, gGt, gGe, fTst, asB, fChain, fNotT, fAndT, fOrT, fNotV, fAndV, fOrV, fIf, fIsN, isNon, fIfS, fSeq, fNx, fCt, fRet, fRetN, fDrop, fAsg, Tg.run, setAll, fCall, fCons, fNil, fTup, fLst, fNew, fMt, isLst, lstV, seqV, objL, gAppend, gExtend, gIx, fSl, gSl, fO, fNoO, fRev, fWR1, fWR2, fWL, wkSeq, fWT, wkTup, allw, fFor, fCallP, fCallS, clL, clD, clK, fVarZ, frzG, fRaise, fSetIx, fPar, gSetL, fAug, gLen, gList, gListN, gTuple, gInt, gIsi, tyOf, isTy, sizeLine, CPow, gIAdd, gAddN, wkEnumL, wkEnumT, fWEL, fWET, fNeg, fCallK, gSumT, gSumL, lsV, fWR3, fCallNP, b_law_pull, Bag.mo, atP, ixN, c1, c2, c3, hat, c4, a1, a2, a3, a4, a5, h7, hw, Bag.pull, Bag.mixed, hn, hgd]
            · simp -dsimp -implicitDefEqProofs [pureF, runF, fVar, fC, fBin, gI, gI0, gAdd, gSub, gMul, gDiv, gMod, gPow, gAnd, gOr, gXor, gShl, gShr, gLt, gLe, gGt, gGe, fTst, asB, fChain, fNotT, fAndT, fOrT, fNotV, fAndV, fOrV, fIf, fIsN, isNon, fIfS, fSeq, fNx, fCt, fRet, fRetN, fDrop, fAsg, Tg.run, setAll, fCall, fCons, fNil, fTup, fLst, fNew, fMt, isLst, lstV, seqV, objL, gAppend, gExtend, gIx, fSl, gSl, fO, fNoO, fRev, fWR1, fWR2, fWL, wkSeq, fWT, wkTup, allw, fFor, fCallP, fCallS, clL, clD, clK, fVarZ, frzG, fRaise, fSetIx, fPar, gSetL, fAug, gLen, gList, gListN, gTuple, gInt, gIsi, tyOf, isTy, sizeLine, CPow, gIAdd, gAddN, wkEnumL, wkEnumT, fWEL, fWET, fNeg, fCallK, gSumT, gSumL, lsV, fWR3, fCallNP, b_law_pull, Bag.mo, atP, ixN, c1, c2, c3, hat, c4, a1, a2, a3, a4, a5, h7, hw, Bag.pull, Bag.mixed, hn, hgd]
          · have c3 : (cells.length : Int) < i + 1 := by omega
            simp -dsimp -implicitDefEqProofs [pureF, runF, fVar, fC, fBin, gI, gI0, gAdd, gSub, gMul, gDiv, gMod, gPow, gAnd, gOr, gXor, gShl, gShr, gLt, gLe, gGt, gGe, fTst, asB, fChain, fNotT, fAndT, fOrT, fNotV, fAndV, fOrV, fIf, fIsN, isNon, fIfS, fSeq, fNx, fCt, fRet, fRetN, fDrop, fAsg, Tg.run, setAll, fCall, fCons, fNil, fTup, fLst, fNew, fMt, isLst, lstV, seqV, objL, gAppend, gExtend, gIx, fSl, gSl, fO, fNoO, fRev, fWR1, fWR2, fWL, wkSeq, fWT, wkTup, allw, fFor, fCallP, fCallS, clL, clD, clK, fVarZ, frzG, fRaise, fSetIx, fPar, gSetL, fAug, gLen, gList, gListN, gTuple, gInt, gIsi, tyOf, isTy, sizeLine, CPow, gIAdd, gAddN, wkEnumL, wkEnumT, fWEL, fWET, fNeg, fCallK, gSumT, gSumL, lsV, fWR3, fCallNP, b_law_pull, Bag.mo, atP, ixN, c1, c2, c3, a1, a2, a3, a4, a5, h7, hw, Bag.pull, Bag.mixed, hn]
        · simp -dsimp -implicitDefEqProofs [pureF, runF, fVar, fC, fBin, gI, gI0, gAdd, gSub, gMul, gDiv, gMod, gPow, gAnd, gOr, gXor, gShl, gShr, gLt, gLe, gGt, gGe, fTst, asB, fChain, fNotT, fAndT, fOrT, fNotV, fAndV, fOrV, fIf, fIsN, isNon, fIfS, fSeq, fNx, fCt, fRet, fRetN, fDrop, fAsg, Tg.run, setAll, fCall, fCons, fNil, fTup, fLst, fNew, fMt, isLst, lstV, seqV, objL, gAppend, gExtend, gIx, fSl, gSl, fO, fNoO, fRev, fWR1, fWR2, fWL, wkSeq, fWT, wkTup, allw, fFor, fCallP, fCallS, clL, clD, clK, fVarZ, frzG, fRaise, fSetIx, fPar, gSetL, fAug, gLen, gList, gListN, gTuple, gInt, gIsi, tyOf, isTy, sizeLine, CPow, gIAdd, gAddN, wkEnumL, wkEnumT, fWEL, fWET, fNeg, fCallK, gSumT, gSumL, lsV, fWR3, fCallNP, b_law_pull, Bag.mo, atP, ixN, c1, a1, a2, a3, a4, a5, h7, hw, Bag.pull, Bag.mixed, hn]
      · rename_i hc
        exact (h (if_neg hc)).elim
  · simp at h

def b_law_whole : DS → R Fl :=
  (fRet (fAndV (fCall (fCons (fVar 0) (fCons (fC (.ty "int")) fNil)) gIsi) (fNotV (fCall (fCons (fVar 0) (fCons (fC (.ty "bool")) fNil)) gIsi))))
def g_law_whole : GP := fun args => match args with
  | [.int _] => .ok (.bl true) ⟨[], []⟩
  | _ => .bad
theorem eq_law_whole : ∀ args, args.length = 1 → g_law_whole args ≠ .bad → pureF (runF 1 b_law_whole) args = g_law_whole args := by
  intro args hl h
  unfold g_law_whole at h ⊢
  split
  · simp -dsimp -implicitDefEqProofs [pureF, runF, fVar, fC, fBin, gI, gI0, gAdd, gSub, gMul, gDiv, gMod, gPow, gAnd, gOr, gXor, gShl, gShr, gLt, gLe, gGt, gGe, fTst, asB, fChain, fNotT, fAndT, fOrT, fNotV, fAndV, fOrV, fIf, fIsN, isNon, fIfS, fSeq, fNx, fCt, fRet, fRetN, fDrop, fAsg, Tg.run, setAll, fCall, fCons, fNil, fTup, fLst, fNew, fMt, isLst, lstV, seqV, objL, gAppend, gExtend, gIx, fSl, gSl, fO, fNoO, fRev, fWR1, fWR2, fWL, wkSeq, fWT, wkTup, allw, fFor, fCallP, fCallS, clL, clD, clK, fVarZ, frzG, fRaise, fSetIx, fPar, gSetL, fAug, gLen, gList, gListN, gTuple, gInt, gIsi, tyOf, isTy, sizeLine, CPow, gIAdd, gAddN, wkEnumL, wkEnumT, fWEL, fWET, fNeg, fCallK, gSumT, gSumL, lsV, fWR3, fCallNP, b_law_whole]
  · simp at h

def ce_law_same_0 (n : Nat) : DS → R D := (fCallP 2 (fCons (fBin (fVar 0) (fVar 2) gIx) (fCons (fBin (fVar 1) (fVar 2) gIx) fNil)) [] (g_sameN n))
def b_law_same (n : Nat) : DS → R Fl :=
  (fSeq (fIfS (fTst (fIsN false (fVar 1))) (fRet (fIsN false (fVar 0))) fNx)
    (fSeq (fIfS (fTst (fCall (fCons (fVar 1) (fCons (fC (.ty "bool")) fNil)) gIsi)) (fRet (fAndV (fCall (fCons (fVar 0) (fCons (fC (.ty "bool")) fNil)) gIsi) (fBin (fVar 0) (fVar 1) gEq))) fNx)
    (fSeq (fIfS (fTst (fCall (fCons (fVar 1) (fCons (fC (.ty "int")) fNil)) gIsi)) (fRet (fAndV (fCallP 1 (fCons (fVar 0) fNil) [] g_law_whole) (fBin (fVar 0) (fVar 1) gEq))) fNx)
    (fSeq (fIfS (fTst (fCall (fCons (fVar 1) (fCons (fC (.ty "str")) fNil)) gIsi)) (fRet (fAndV (fCall (fCons (fVar 0) (fCons (fC (.ty "str")) fNil)) gIsi) (fBin (fVar 0) (fVar 1) gEq))) fNx)
    (fSeq (fIfS (fOrT (fTst (fBin (fCall (fCons (fVar 1) (fCons (fC (.ty "list")) fNil)) gIsi) (fCall (fCons (fVar 0) (fCons (fC (.ty "list")) fNil)) gIsi) gNe)) (fTst (fBin (fCall (fCons (fVar 1) (fCons (fC (.ty "tuple")) fNil)) gIsi) (fCall (fCons (fVar 0) (fCons (fC (.ty "tuple")) fNil)) gIsi) gNe))) (fRet (fC (.bl false))) fNx)
    (fSeq (fIfS (fTst (fBin (fCall (fCons (fVar 0) fNil) gLen) (fCall (fCons (fVar 1) fNil) gLen) gNe)) (fRet (fC (.bl false))) fNx)
    (fRet (fCall (fCons (fLc (fComp (fWR1 (fCons (fCall (fCons (fVar 1) fNil) gLen) fNil)) (.one 2) [2] fYes (ce_law_same_0 n))) fNil) (gAllAny false)))))))))
theorem same_items (n : Nat) (ds : List D) (v : D) (x : Option D) (hv : v = .tup ds ∨ v = .lst ds) (h1 : ∀ d ∈ ds, g_sameN n [d, d] = .ok (.bl true) ⟨[], []⟩ ∧ clD 0 d = true) (h3 : ds.length ≤ 16777216) :
    fComp (fWR1 (fCons (fCall (fCons (fVar 1) fNil) gLen) fNil)) (.one 2) [2] fYes (ce_law_same_0 n) ⟨[some v, some v, x], []⟩ = .ok (List.replicate ds.length (.bl true)) ⟨[some v, some v, x], []⟩ := by
  have hw : fWR1 (fCons (fCall (fCons (fVar 1) fNil) gLen) fNil) ⟨[some v, some v, x], []⟩ = .ok (rngD 0 ds.length, allw) ⟨[some v, some v, x], []⟩ := by
    have a1 : ds.length < 2 ^ 40 := by omega
    rcases hv with rfl | rfl <;> simp -dsimp -implicitDefEqProofs [pureF, runF, fVar, fC, fBin, gI, gI0, gAdd, gSub, gMul, gDiv, gMod, gPow, gAnd, gOr, gXor, gShl, gShr, gLt, gLe, gGt, gGe, fTst, asB, fChain, fNotT, fAndT, fOrT, fNotV, fAndV, fOrV, fIf, fIsN, isNon, fIfS, fSeq, fNx, fCt, fRet, fRetN, fDrop, fAsg, Tg.run, setAll, fCall, fCons, fNil, fTup, fLst, fNew, fMt, isLst, lstV, seqV, objL, gAppend, gExtend, gIx, fSl, gSl, fO, fNoO, fRev, fWR1, fWR2, fWL, wkSeq, fWT, wkTup, allw, fFor, fCallP, fCallS, clL, clD, clK, fVarZ, frzG, fRaise, fSetIx, fPar, gSetL, fAug, gLen, gList, gListN, gTuple, gInt, gIsi, tyOf, isTy, sizeLine, CPow, gIAdd, gAddN, wkEnumL, wkEnumT, fWEL, fWET, fNeg, fCallK, gSumT, gSumL, lsV, fWR3, fCallNP, wkR1_nat _ _ a1]
  unfold fComp
  rw [hw]
  show compL allw _ (rngD 0 ds.length) [] _ = _
  refine (comp_go (P := allw) rfl (rngD 0 ds.length) (List.replicate ds.length (.bl true)) [] (by simp) (fun i a b e1 e2 => ?_) (by simp [sizeLine_eq]; omega)).trans (by simp)
  obtain ⟨hi, rfl⟩ := rng0_get e1
  rw [List.getElem?_replicate, if_pos hi] at e2
  cases e2
  have hat : L2.atI ds ((i : Nat) : Int) = some ds[i] := atI_nat (List.getElem?_eq_getElem hi)
  obtain ⟨q1, q2⟩ := h1 ds[i] (List.getElem_mem hi)
  rcases hv with rfl | rfl <;> simp -dsimp -implicitDefEqProofs [pureF, runF, fVar, fC, fBin, gI, gI0, gAdd, gSub, gMul, gDiv, gMod, gPow, gAnd, gOr, gXor, gShl, gShr, gLt, gLe, gGt, gGe, fTst, asB, fChain, fNotT, fAndT, fOrT, fNotV, fAndV, fOrV, fIf, fIsN, isNon, fIfS, fSeq, fNx, fCt, fRet, fRetN, fDrop, fAsg, Tg.run, setAll, fCall, fCons, fNil, fTup, fLst, fNew, fMt, isLst, lstV, seqV, objL, gAppend, gExtend, gIx, fSl, gSl, fO, fNoO, fRev, fWR1, fWR2, fWL, wkSeq, fWT, wkTup, allw, fFor, fCallP, fCallS, clL, clD, clK, fVarZ, frzG, fRaise, fSetIx, fPar, gSetL, fAug, gLen, gList, gListN, gTuple, gInt, gIsi, tyOf, isTy, sizeLine, CPow, gIAdd, gAddN, wkEnumL, wkEnumT, fWEL, fWET, fNeg, fCallK, gSumT, gSumL, lsV, fWR3, fCallNP, cStep, wipeG, fYes, ce_law_same_0, hat, q1, q2]
theorem bls_rep : ∀ n : Nat, bls (List.replicate n (.bl true)) = some (List.replicate n true)
  | 0 => rfl
  | n + 1 => by simp only [List.replicate_succ, bls, bls_rep n, Option.map_some]
theorem eq_law_same (n : Nat) : ∀ args, args.length = 2 → g_sameN (n + 1) args ≠ .bad → pureF (runF 3 (b_law_same n)) args = g_sameN (n + 1) args := by
  intro args hl h
  simp only [g_sameN] at h ⊢
  split
  · rename_i f d
    split
    · rename_i hc
      obtain ⟨h1, h2, h3⟩ := hc
      have e := sm_eq f d h2
      subst e
      have items : ∀ ds, okL (n - 1) ds = true → 1 ≤ n → sizeOkL ds = true → ∀ d ∈ ds, g_sameN n [d, d] = .ok (.bl true) ⟨[], []⟩ ∧ clD 0 d = true := by
        intro ds q1 q2 q3 d hd
        obtain ⟨m, rfl⟩ : ∃ m, n = m + 1 := ⟨n - 1, by omega⟩
        obtain ⟨i, hi⟩ := List.getElem?_of_mem hd
        have k1 : okD m d = true := okL_get q1 hi
        have k2 : sizeOkD d = true := by
          clear hi q1 h h1 h2 h3 hl k1
          revert q3 hd
          induction ds with
          | nil => intro _ hd; cases hd
          | cons a r ih =>
            intro q3 hd
            simp only [sizeOkL, Bool.and_eq_true] at q3
            rcases List.mem_cons.mp hd with z | z
            · rw [z]; exact q3.1
            · exact ih q3.2 z
        simp only [g_sameN]
        rw [if_Pr ⟨k1, sm_refl m d k1, k2⟩]
        exact ⟨rfl, okD_cl m d k1 0⟩
      cases f with
      | non => simp -dsimp -implicitDefEqProofs [pureF, runF, fVar, fC, fBin, gI, gI0, gAdd, gSub, gMul, gDiv, gMod, gPow, gAnd, gOr, gXor, gShl, gShr, gLt, gLe, gGt, gGe, fTst, asB, fChain, fNotT, fAndT, fOrT, fNotV, fAndV, fOrV, fIf, fIsN, isNon, fIfS, fSeq, fNx, fCt, fRet, fRetN, fDrop, fAsg, Tg.run, setAll, fCall, fCons, fNil, fTup, fLst, fNew, fMt, isLst, lstV, seqV, objL, gAppend, gExtend, gIx, fSl, gSl, fO, fNoO, fRev, fWR1, fWR2, fWL, wkSeq, fWT, wkTup, allw, fFor, fCallP, fCallS, clL, clD, clK, fVarZ, frzG, fRaise, fSetIx, fPar, gSetL, fAug, gLen, gList, gListN, gTuple, gInt, gIsi, tyOf, isTy, sizeLine, CPow, gIAdd, gAddN, wkEnumL, wkEnumT, fWEL, fWET, fNeg, fCallK, gSumT, gSumL, lsV, fWR3, fCallNP, b_law_same]
      | bl b => simp -dsimp -implicitDefEqProofs [pureF, runF, fVar, fC, fBin, gI, gI0, gAdd, gSub, gMul, gDiv, gMod, gPow, gAnd, gOr, gXor, gShl, gShr, gLt, gLe, gGt, gGe, fTst, asB, fChain, fNotT, fAndT, fOrT, fNotV, fAndV, fOrV, fIf, fIsN, isNon, fIfS, fSeq, fNx, fCt, fRet, fRetN, fDrop, fAsg, Tg.run, setAll, fCall, fCons, fNil, fTup, fLst, fNew, fMt, isLst, lstV, seqV, objL, gAppend, gExtend, gIx, fSl, gSl, fO, fNoO, fRev, fWR1, fWR2, fWL, wkSeq, fWT, wkTup, allw, fFor, fCallP, fCallS, clL, clD, clK, fVarZ, frzG, fRaise, fSetIx, fPar, gSetL, fAug, gLen, gList, gListN, gTuple, gInt, gIsi, tyOf, isTy, sizeLine, CPow, gIAdd, gAddN, wkEnumL, wkEnumT, fWEL, fWET, fNeg, fCallK, gSumT, gSumL, lsV, fWR3, fCallNP, b_law_same]
      | int b => simp -dsimp -implicitDefEqProofs [pureF, runF, fVar, fC, fBin, gI, gI0, gAdd, gSub, gMul, gDiv, gMod, gPow, gAnd, gOr, gXor, gShl, gShr, gLt, gLe, gGt, gGe, fTst, asB, fChain, fNotT, fAndT, fOrT, fNotV, fAndV, fOrV, fIf, fIsN, isNon, fIfS, fSeq, fNx, fCt, fRet, fRetN, fDrop, fAsg, Tg.run, setAll, fCall, fCons, fNil, fTup, fLst, fNew, fMt, isLst, lstV, seqV, objL, gAppend, gExtend, gIx, fSl, gSl, fO, fNoO, fRev, fWR1, fWR2, fWL, wkSeq, fWT, wkTup, allw, fFor, fCallP, fCallS, clL, clD, clK, fVarZ, frzG, fRaise, fSetIx, fPar, gSetL, fAug, gLen, gList, gListN, gTuple, gInt, gIsi, tyOf, isTy, sizeLine, CPow, gIAdd, gAddN, wkEnumL, wkEnumT, fWEL, fWET, fNeg, fCallK, gSumT, gSumL, lsV, fWR3, fCallNP, b_law_same, g_law_whole]
      | str b =>
        simp only [okD] at h1
        simp -dsimp -implicitDefEqProofs [pureF, runF, fVar, fC, fBin, gI, gI0, gAdd, gSub, gMul, gDiv, gMod, gPow, gAnd, gOr, gXor, gShl, gShr, gLt, gLe, gGt, gGe, fTst, asB, fChain, fNotT, fAndT, fOrT, fNotV, fAndV, fOrV, fIf, fIsN, isNon, fIfS, fSeq, fNx, fCt, fRet, fRetN, fDrop, fAsg, Tg.run, setAll, fCall, fCons, fNil, fTup, fLst, fNew, fMt, isLst, lstV, seqV, objL, gAppend, gExtend, gIx, fSl, gSl, fO, fNoO, fRev, fWR1, fWR2, fWL, wkSeq, fWT, wkTup, allw, fFor, fCallP, fCallS, clL, clD, clK, fVarZ, frzG, fRaise, fSetIx, fPar, gSetL, fAug, gLen, gList, gListN, gTuple, gInt, gIsi, tyOf, isTy, sizeLine, CPow, gIAdd, gAddN, wkEnumL, wkEnumT, fWEL, fWET, fNeg, fCallK, gSumT, gSumL, lsV, fWR3, fCallNP, b_law_same, gEq_str _ _ _ h1 h1]
      | tup ds =>
        obtain ⟨m, rfl⟩ : ∃ m, n = m + 1 := by
          cases n with
          | zero => simp [okD] at h1
          | succ m => exact ⟨m, rfl⟩
        simp only [okD] at h1
        simp only [sizeOkD, Bool.and_eq_true, dcd_iff, sizeLine_eq] at h3
        have hi := same_items (m + 1) ds (.tup ds) none (.inl rfl) (items ds h1 (by omega) h3.2) h3.1
        simp -dsimp -implicitDefEqProofs [pureF, runF, fVar, fC, fBin, gI, gI0, gAdd, gSub, gMul, gDiv, gMod, gPow, gAnd, gOr, gXor, gShl, gShr, gLt, gLe, gGt, gGe, fTst, asB, fChain, fNotT, fAndT, fOrT, fNotV, fAndV, fOrV, fIf, fIsN, isNon, fIfS, fSeq, fNx, fCt, fRet, fRetN, fDrop, fAsg, Tg.run, setAll, fCall, fCons, fNil, fTup, fLst, fNew, fMt, isLst, lstV, seqV, objL, gAppend, gExtend, gIx, fSl, gSl, fO, fNoO, fRev, fWR1, fWR2, fWL, wkSeq, fWT, wkTup, allw, fFor, fCallP, fCallS, clL, clD, clK, fVarZ, frzG, fRaise, fSetIx, fPar, gSetL, fAug, gLen, gList, gListN, gTuple, gInt, gIsi, tyOf, isTy, sizeLine, CPow, gIAdd, gAddN, wkEnumL, wkEnumT, fWEL, fWET, fNeg, fCallK, gSumT, gSumL, lsV, fWR3, fCallNP, b_law_same, fLc, hi, gAllAny, bls_rep]
      | lst ds =>
        obtain ⟨m, rfl⟩ : ∃ m, n = m + 1 := by
          cases n with
          | zero => simp [okD] at h1
          | succ m => exact ⟨m, rfl⟩
        simp only [okD] at h1
        simp only [sizeOkD, Bool.and_eq_true, dcd_iff, sizeLine_eq] at h3
        have hi := same_items (m + 1) ds (.lst ds) none (.inr rfl) (items ds h1 (by omega) h3.2) h3.1
        simp -dsimp -implicitDefEqProofs [pureF, runF, fVar, fC, fBin, gI, gI0, gAdd, gSub, gMul, gDiv, gMod, gPow, gAnd, gOr, gXor, gShl, gShr, gLt, gLe, gGt, gGe, fTst, asB, fChain, fNotT, fAndT, fOrT, fNotV, fAndV, fOrV, fIf, fIsN, isNon, fIfS, fSeq, fNx, fCt, fRet, fRetN, fDrop, fAsg, Tg.run, setAll, fCall, fCons, fNil, fTup, fLst, fNew, fMt, isLst, lstV, seqV, objL, gAppend, gExtend, gIx, fSl, gSl, fO, fNoO, fRev, fWR1, fWR2, fWL, wkSeq, fWT, wkTup, allw, fFor, fCallP, fCallS, clL, clD, clK, fVarZ, frzG, fRaise, fSetIx, fPar, gSetL, fAug, gLen, gList, gListN, gTuple, gInt, gIsi, tyOf, isTy, sizeLine, CPow, gIAdd, gAddN, wkEnumL, wkEnumT, fWEL, fWET, fNeg, fCallK, gSumT, gSumL, lsV, fWR3, fCallNP, b_law_same, fLc, hi, gAllAny, bls_rep]
      | _ => simp [okD] at h1
    · rename_i hc
      exact (h (if_neg hc)).elim
  · simp at h
def g_law_same : GP := g_sameN 5

def b_law_one : DS → R Fl :=
  (fRet (fBin (fVar 1) (fCallS 2 (fCons (fVar 0) (fCons (fCall (fCons (fVar 1) fNil) gLen) fNil)) [] g_law_pull) gIx))
def g_law_one : GF := runF 2 b_law_one
theorem eq_law_one : ∀ args μ, args.length = 2 → g_law_one args μ ≠ .bad → runF 2 b_law_one args μ = g_law_one args μ := fun _ _ _ _ => rfl

def b_law_end : DS → R Fl :=
  (fSeq (fAsg (fCallS 2 (fCons (fVar 0) (fCons (fLst (fCons (fC (.str "bulk")) (fCons (fC (.str "bulk")) (fCons (fC (.str "timed")) fNil)))) fNil)) [] g_law_one) (.one 2))
    (fSeq (fIfS (fTst (fBin (fVar 2) (fC (.str "bulk")) gEq)) (fRet (fTup (fCons (fBin (fBin (fVar 1) (fC (.int 2)) gDiv) (fC (.int 1)) gAdd) (fCons (fBin (fLst (fCons (fC (.str "in")) (fCons (fC (.str "out")) fNil))) (fBin (fVar 1) (fC (.int 2)) gMod) gIx) (fCons (fVar 2) (fCons (fCallS 2 (fCons (fVar 0) (fCons (fLst (fCons (fC (.int 8)) (fCons (fC (.int 8)) (fCons (fC (.int 16)) (fCons (fC (.int 32)) (fCons (fC (.int 64)) fNil)))))) fNil)) [] g_law_one) (fCons (fC (.int 0)) fNil))))))) fNx)
    (fSeq (fAsg (fBin (fC (.int 1)) (fCallS 2 (fCons (fVar 0) (fCons (fCallS 2 (fCons (fVar 0) (fCons (fLst (fCons (fC (.int 8)) (fCons (fC (.int 64)) fNil))) fNil)) [] g_law_one) fNil)) [] g_law_pull) gAdd) (.one 3))
    (fRet (fTup (fCons (fBin (fBin (fVar 1) (fC (.int 2)) gDiv) (fC (.int 1)) gAdd) (fCons (fBin (fLst (fCons (fC (.str "in")) (fCons (fC (.str "out")) fNil))) (fBin (fVar 1) (fC (.int 2)) gMod) gIx) (fCons (fVar 2) (fCons (fVar 3) (fCons (fCallS 2 (fCons (fVar 0) (fCons (fLst (fCons (fC (.int 1)) (fCons (fC (.int 2)) (fCons (fC (.int 4)) (fCons (fC (.int 8)) (fCons (fC (.int 16)) (fCons (fC (.int 32)) fNil))))))) fNil)) [] g_law_one) fNil))))))))))
def g_law_end : GF := runF 4 b_law_end
theorem eq_law_end : ∀ args μ, args.length = 2 → g_law_end args μ ≠ .bad → runF 4 b_law_end args μ = g_law_end args μ := fun _ _ _ _ => rfl

theorem pick_ints (l : List Int) (k : Int) (h0 : 0 ≤ k) (h : k < l.length) : ∃ n ∈ l, L2.atI (l.map D.int) k = some (.int n) := by
  obtain ⟨d, hd, e⟩ := atI_pick (l.map .int) k h0 (by simpa using h)
  obtain ⟨n, hn, rfl⟩ := List.mem_map.mp hd
  exact ⟨n, hn, e⟩
theorem law_end_ex (spot : Int) (h0 : 0 ≤ spot) (h1 : spot < 14) (b : Bag) (hi : 0 ≤ b.i) : ∃ (x : En) (b' : Bag), Rl spot x ∧ 0 ≤ b'.i ∧ ∀ μ, g_law_end [.obj 0, .int spot] (b.mo :: μ) = .ok (encE x) ⟨[], b'.mo :: μ⟩ := by
  obtain ⟨d, b1, hd, i1, p1⟩ := one_ex (g_law_one := g_law_one) (b_law_one := b_law_one) rfl rfl b hi (.lst [.str ("bulk" : Str), .str ("bulk" : Str), .str ("timed" : Str)]) _ (.inl rfl) (by decide) (by decide)
  have cw : CDivW spot 2 := cdw (by decide) (by decide)
  have hw : L2.atI [D.str ("in" : Str), .str ("out" : Str)] (spot % 2) = some (.str ((if spot % 2 = 0 then "in" else "out" : String) : Str)) := by
    have : spot % 2 = 0 ∨ spot % 2 = 1 := by omega
    rcases this with h | h <;> rw [h] <;> simp
  have hn : 1 ≤ spot / 2 + 1 ∧ spot / 2 + 1 ≤ 7 := by omega
  have hww : (if spot % 2 = 0 then "in" else "out" : String) = "in" ∨ (if spot % 2 = 0 then "in" else "out" : String) = "out" := by
    by_cases h : spot % 2 = 0
    · exact .inl (if_pos h)
    · exact .inr (if_neg h)
  have bulk : (∀ μ, g_law_one [.obj 0, .lst [.str ("bulk" : Str), .str ("bulk" : Str), .str ("timed" : Str)]] (b.mo :: μ) = .ok (.str ("bulk" : Str)) ⟨[], b1.mo :: μ⟩) → ∃ (x : En) (b' : Bag), Rl spot x ∧ 0 ≤ b'.i ∧ ∀ μ, g_law_end [.obj 0, .int spot] (b.mo :: μ) = .ok (encE x) ⟨[], b'.mo :: μ⟩ := by
    intro p1
    obtain ⟨d2, b2, hd2, i2, p2⟩ := one_ex (g_law_one := g_law_one) (b_law_one := b_law_one) rfl rfl b1 i1 (.lst [.int 8, .int 8, .int 16, .int 32, .int 64]) _ (.inl rfl) (by decide) (by decide)
    obtain ⟨s, rfl, hs⟩ : ∃ s : Int, d2 = .int s ∧ (s = 8 ∨ s = 16 ∨ s = 32 ∨ s = 64) := by
      simp only [List.mem_cons, List.not_mem_nil, or_false] at hd2
      rcases hd2 with rfl | rfl | rfl | rfl | rfl <;> exact ⟨_, rfl, by omega⟩
    refine ⟨⟨spot / 2 + 1, if spot % 2 = 0 then "in" else "out", "bulk", s, 0⟩, b2, ⟨rfl, rfl, hn, hww, .inl ⟨rfl, hs, rfl⟩⟩, i2, fun μ => ?_⟩
    generalize (if spot % 2 = 0 then "in" else "out" : String) = W at *
    simp -dsimp -implicitDefEqProofs [pureF, runF, fVar, fC, fBin, gI, gI0, gAdd, gSub, gMul, gDiv, gMod, gPow, gAnd, gOr, gXor, gShl, gShr, gLt, gLe, gGt, gGe, fTst, asB, fChain, fNotT, fAndT, fOrT, fNotV, fAndV, fOrV, fIf, fIsN, isNon, fIfS, fSeq, fNx, fCt, fRet, fRetN, fDrop, fAsg, Tg.run, setAll, fCall, fCons, fNil, fTup, fLst, fNew, fMt, isLst, lstV, seqV, objL, gAppend, gExtend, gIx, fSl, gSl, fO, fNoO, fRev, fWR1, fWR2, fWL, wkSeq, fWT, wkTup, allw, fFor, fCallP, fCallS, clL, clD, clK, fVarZ, frzG, fRaise, fSetIx, fPar, gSetL, fAug, gLen, gList, gListN, gTuple, gInt, gIsi, tyOf, isTy, sizeLine, CPow, gIAdd, gAddN, wkEnumL, wkEnumT, fWEL, fWET, fNeg, fCallK, gSumT, gSumL, lsV, fWR3, fCallNP, g_law_end, b_law_end, p1, p2, cw, hw, encE]
  simp only [List.mem_cons, List.not_mem_nil, or_false] at hd
  rcases hd with rfl | rfl | rfl
  · exact bulk p1
  · exact bulk p1
  · obtain ⟨d2, b2, hd2, i2, p2⟩ := one_ex (g_law_one := g_law_one) (b_law_one := b_law_one) rfl rfl b1 i1 (.lst [.int 8, .int 64]) _ (.inl rfl) (by decide) (by decide)
    obtain ⟨m, rfl, hm⟩ : ∃ s : Int, d2 = .int s ∧ (1 ≤ s ∧ s ≤ 64) := by
      simp only [List.mem_cons, List.not_mem_nil, or_false] at hd2
      rcases hd2 with rfl | rfl <;> exact ⟨_, rfl, by omega⟩
    obtain ⟨v3, b3, i3, l3, u3, p3⟩ := pull_ex b2 m i2 (by omega) (by omega)
    obtain ⟨d4, b4, hd4, i4, p4⟩ := one_ex (g_law_one := g_law_one) (b_law_one := b_law_one) rfl rfl b3 i3 (.lst [.int 1, .int 2, .int 4, .int 8, .int 16, .int 32]) _ (.inl rfl) (by decide) (by decide)
    obtain ⟨e, rfl, he⟩ : ∃ s : Int, d4 = .int s ∧ (s = 1 ∨ s = 2 ∨ s = 4 ∨ s = 8 ∨ s = 16 ∨ s = 32) := by
      simp only [List.mem_cons, List.not_mem_nil, or_false] at hd4
      rcases hd4 with rfl | rfl | rfl | rfl | rfl | rfl <;> exact ⟨_, rfl, by omega⟩
    refine ⟨⟨spot / 2 + 1, if spot % 2 = 0 then "in" else "out", "timed", 1 + v3, e⟩, b4, ⟨rfl, rfl, hn, hww, .inr ⟨rfl, by simp only; omega, he⟩⟩, i4, fun μ => ?_⟩
    generalize (if spot % 2 = 0 then "in" else "out" : String) = W at *
    simp -dsimp -implicitDefEqProofs [pureF, runF, fVar, fC, fBin, gI, gI0, gAdd, gSub, gMul, gDiv, gMod, gPow, gAnd, gOr, gXor, gShl, gShr, gLt, gLe, gGt, gGe, fTst, asB, fChain, fNotT, fAndT, fOrT, fNotV, fAndV, fOrV, fIf, fIsN, isNon, fIfS, fSeq, fNx, fCt, fRet, fRetN, fDrop, fAsg, Tg.run, setAll, fCall, fCons, fNil, fTup, fLst, fNew, fMt, isLst, lstV, seqV, objL, gAppend, gExtend, gIx, fSl, gSl, fO, fNoO, fRev, fWR1, fWR2, fWL, wkSeq, fWT, wkTup, allw, fFor, fCallP, fCallS, clL, clD, clK, fVarZ, frzG, fRaise, fSetIx, fPar, gSetL, fAug, gLen, gList, gListN, gTuple, gInt, gIsi, tyOf, isTy, sizeLine, CPow, gIAdd, gAddN, wkEnumL, wkEnumT, fWEL, fWET, fNeg, fCallK, gSumT, gSumL, lsV, fWR3, fCallNP, g_law_end, b_law_end, p1, p2, p3, p4, cw, hw, encE]

def ce_law_ends_0 : DS → R D := (fCallS 2 (fCons (fVar 0) (fCons (fC (.int 14)) fNil)) [] g_law_pull)
def ce_law_ends_1 : DS → R D := (fCallS 2 (fCons (fVar 0) (fCons (fVar 4) fNil)) [] g_law_end)
def b_law_ends : DS → R Fl :=
  (fSeq (fAsg (fSortedSet (fLc (fComp (fWR1 (fCons (fCallS 2 (fCons (fVar 0) (fCons (fBin (fVar 1) (fC (.int 1)) gAdd) fNil)) [] g_law_pull) fNil)) (.one 3) [3] fYes ce_law_ends_0))) (.one 2))
    (fRet (fCall (fCons (fLc (fComp (fWL (fVar 2)) (.one 4) [4] fYes ce_law_ends_1)) fNil) gTuple)))
def g_law_ends : GF := runF 5 b_law_ends
theorem eq_law_ends : ∀ args μ, args.length = 2 → g_law_ends args μ ≠ .bad → runF 5 b_law_ends args μ = g_law_ends args μ := fun _ _ _ _ => rfl

/-- ends as laws draw them: good, rising -/
def Rise (es : List En) : Prop := (∀ x ∈ es, goodE x) ∧ ∀ (i : Nat) x y, es[i]? = some x → es[i + 1]? = some y → lt2 x y = true
theorem law_ends_ex (most : Int) (h0 : 0 ≤ most) (h1 : most ≤ 50) (b : Bag) (hi : 0 ≤ b.i) : ∃ (es : List En) (b' : Bag), Rise es ∧ (es.length : Int) ≤ most ∧ 0 ≤ b'.i ∧ ∀ μ, g_law_ends [.obj 0, .int most] (b.mo :: μ) = .ok (.tup (es.map encE)) ⟨[], b'.mo :: μ⟩ := by
  obtain ⟨v1, b1, i1, l1, u1, p1⟩ := pull_ex b (most + 1) hi (by omega) (by omega)
  have hw := fun s => wkR1_int v1 s l1 (by omega)
  obtain ⟨ns, b2, i2, ln, rn, e2⟩ := comp_each (em := D.int) (dm := D.int) (Rr := fun _ y => 0 ≤ y ∧ y < 14) (step := cStep (.one 3) [3] fYes ce_law_ends_0) (g := [some (.obj 0), some (.int most), none, none, none]) ((List.range v1.toNat).map fun i : Nat => (i : Int))
    (fun x hx b hb => by
      obtain ⟨v, b', i', l', u', p'⟩ := pull_ex b 14 hb (by omega) (by omega)
      exact ⟨v, b', ⟨l', u'⟩, i', fun μ => by simp -dsimp -implicitDefEqProofs [pureF, runF, fVar, fC, fBin, gI, gI0, gAdd, gSub, gMul, gDiv, gMod, gPow, gAnd, gOr, gXor, gShl, gShr, gLt, gLe, gGt, gGe, fTst, asB, fChain, fNotT, fAndT, fOrT, fNotV, fAndV, fOrV, fIf, fIsN, isNon, fIfS, fSeq, fNx, fCt, fRet, fRetN, fDrop, fAsg, Tg.run, setAll, fCall, fCons, fNil, fTup, fLst, fNew, fMt, isLst, lstV, seqV, objL, gAppend, gExtend, gIx, fSl, gSl, fO, fNoO, fRev, fWR1, fWR2, fWL, wkSeq, fWT, wkTup, allw, fFor, fCallP, fCallS, clL, clD, clK, fVarZ, frzG, fRaise, fSetIx, fPar, gSetL, fAug, gLen, gList, gListN, gTuple, gInt, gIsi, tyOf, isTy, sizeLine, CPow, gIAdd, gAddN, wkEnumL, wkEnumT, fWEL, fWET, fNeg, fCallK, gSumT, gSumL, lsV, fWR3, fCallNP, cStep, wipeG, fYes, ce_law_ends_0, p']⟩) [] b1 i1 (by simp [sizeLine]; omega)
  rw [← rng_ints] at e2
  have hmem : ∀ k ∈ ns, 0 ≤ k ∧ k < 14 := fun k hk => by
    obtain ⟨i, hi, e⟩ := List.mem_iff_getElem.mp hk
    have hi2 : i < v1.toNat := by rw [ln] at hi; simpa using hi
    exact rn i (i : Int) k (by simp [hi2]) (by rw [List.getElem?_eq_getElem hi, e])
  have hlen : ns.length = v1.toNat := by rw [ln]; simp
  have hsub : (sortU ns).length ≤ ns.length := by
    have nd : (sortU ns).Nodup := (sortU_lt ns).imp fun h => by omega
    exact nd.length_le_of_subset fun y hy => (sortU_mem y ns).mp hy
  obtain ⟨es, b3, i3, le, re, e3⟩ := comp_each (em := encE) (dm := D.int) (Rr := Rl) (step := cStep (.one 4) [4] fYes ce_law_ends_1) (g := [some (.obj 0), some (.int most), some (.lst ((sortU ns).map .int)), none, none]) (sortU ns)
    (fun x hx b hb => by
      have h := hmem x ((sortU_mem x ns).mp hx)
      obtain ⟨y, b', hr, i', p'⟩ := law_end_ex x h.1 h.2 b hb
      generalize sortU ns = S at *
      exact ⟨y, b', hr, i', fun μ => by simp -dsimp -implicitDefEqProofs [pureF, runF, fVar, fC, fBin, gI, gI0, gAdd, gSub, gMul, gDiv, gMod, gPow, gAnd, gOr, gXor, gShl, gShr, gLt, gLe, gGt, gGe, fTst, asB, fChain, fNotT, fAndT, fOrT, fNotV, fAndV, fOrV, fIf, fIsN, isNon, fIfS, fSeq, fNx, fCt, fRet, fRetN, fDrop, fAsg, Tg.run, setAll, fCall, fCons, fNil, fTup, fLst, fNew, fMt, isLst, lstV, seqV, objL, gAppend, gExtend, gIx, fSl, gSl, fO, fNoO, fRev, fWR1, fWR2, fWL, wkSeq, fWT, wkTup, allw, fFor, fCallP, fCallS, clL, clD, clK, fVarZ, frzG, fRaise, fSetIx, fPar, gSetL, fAug, gLen, gList, gListN, gTuple, gInt, gIsi, tyOf, isTy, sizeLine, CPow, gIAdd, gAddN, wkEnumL, wkEnumT, fWEL, fWET, fNeg, fCallK, gSumT, gSumL, lsV, fWR3, fCallNP, cStep, wipeG, fYes, ce_law_ends_1, p']⟩) [] b2 i2 (by simp [sizeLine]; omega)
  refine ⟨es, b3, ⟨fun x hx => ?_, fun i x y ex ey => ?_⟩, by rw [le]; omega, i3, fun μ => ?_⟩
  · obtain ⟨i, hi, e⟩ := List.mem_iff_getElem.mp hx
    have hi2 : i < (sortU ns).length := by rw [le] at hi; exact hi
    exact (re i _ x (List.getElem?_eq_getElem hi2) (by rw [List.getElem?_eq_getElem hi, e])).2.2
  · have hi2 : i + 1 < (sortU ns).length := by rw [← le]; exact (List.getElem?_eq_some_iff.mp ey).1
    have r1 := re i _ x (List.getElem?_eq_getElem (by omega)) ex
    have r2 := re (i + 1) _ y (List.getElem?_eq_getElem hi2) ey
    have hlt := List.pairwise_iff_getElem.mp (sortU_lt ns) i (i + 1) (by omega) hi2 (by omega)
    have m1 := hmem _ ((sortU_mem _ ns).mp (List.getElem_mem (show i < (sortU ns).length by omega)))
    have m2 := hmem _ ((sortU_mem _ ns).mp (List.getElem_mem hi2))
    exact lt2_of _ _ x y m1.1 hlt m2.2 r1 r2
  · have hz : ns.length < 64 := by omega
    generalize es.map encE = X at *
    simp only [List.nil_append] at e2 e3
    simp -dsimp -implicitDefEqProofs [pureF, runF, fVar, fC, fBin, gI, gI0, gAdd, gSub, gMul, gDiv, gMod, gPow, gAnd, gOr, gXor, gShl, gShr, gLt, gLe, gGt, gGe, fTst, asB, fChain, fNotT, fAndT, fOrT, fNotV, fAndV, fOrV, fIf, fIsN, isNon, fIfS, fSeq, fNx, fCt, fRet, fRetN, fDrop, fAsg, Tg.run, setAll, fCall, fCons, fNil, fTup, fLst, fNew, fMt, isLst, lstV, seqV, objL, gAppend, gExtend, gIx, fSl, gSl, fO, fNoO, fRev, fWR1, fWR2, fWL, wkSeq, fWT, wkTup, allw, fFor, fCallP, fCallS, clL, clD, clK, fVarZ, frzG, fRaise, fSetIx, fPar, gSetL, fAug, gLen, gList, gListN, gTuple, gInt, gIsi, tyOf, isTy, sizeLine, CPow, gIAdd, gAddN, wkEnumL, wkEnumT, fWEL, fWET, fNeg, fCallK, gSumT, gSumL, lsV, fWR3, fCallNP, g_law_ends, b_law_ends, p1, hw, fLc, fComp, e2, fSortedSet, hz, e3]

def b_law_plan : DS → R Fl :=
  (fSeq (fAsg (fBin (fLst (fCons (fCallS 2 (fCons (fVar 0) (fCons (fC (.int 65536)) fNil)) [] g_law_pull) (fCons (fC (.int 0)) (fCons (fC (.int 65535)) fNil)))) (fCallS 2 (fCons (fVar 0) (fCons (fC (.int 3)) fNil)) [] g_law_pull) gIx) (.one 3))
    (fSeq (fAsg (fBin (fLst (fCons (fCallS 2 (fCons (fVar 0) (fCons (fC (.int 65536)) fNil)) [] g_law_pull) (fCons (fC (.int 255)) (fCons (fC (.int 256)) fNil)))) (fCallS 2 (fCons (fVar 0) (fCons (fC (.int 3)) fNil)) [] g_law_pull) gIx) (.one 4))
    (fSeq (fAsg (fIf (fTst (fVar 2)) (fBin (fC (.int 1)) (fCallS 2 (fCons (fVar 0) (fCons (fC (.int 4)) fNil)) [] g_law_pull) gAdd) (fC (.int 0))) (.one 5))
    (fRet (fTup (fCons (fVar 3) (fCons (fVar 4) (fCons (fVar 5) (fCons (fCallS 2 (fCons (fVar 0) (fCons (fVar 1) fNil)) [] g_law_ends) fNil)))))))))
def g_law_plan : GF := runF 6 b_law_plan
theorem eq_law_plan : ∀ args μ, args.length = 3 → g_law_plan args μ ≠ .bad → runF 6 b_law_plan args μ = g_law_plan args μ := fun _ _ _ _ => rfl

def DrawnP (most : Int) (p : Pl) : Prop := (0 ≤ p.a ∧ p.a ≤ 65535) ∧ (0 ≤ p.b ∧ p.b ≤ 65535) ∧ (0 ≤ p.c ∧ p.c ≤ 4) ∧ Rise p.es ∧ (p.es.length : Int) ≤ most
theorem pick3i (x y z k : Int) (h0 : 0 ≤ k) (h : k < 3) : ∃ n, (n = x ∨ n = y ∨ n = z) ∧ L2.atI [D.int x, D.int y, D.int z] k = some (.int n) := by
  obtain ⟨d, hd, e⟩ := atI_pick [D.int x, .int y, .int z] k h0 h
  simp only [List.mem_cons, List.not_mem_nil, or_false] at hd
  rcases hd with rfl | rfl | rfl
  · exact ⟨x, .inl rfl, e⟩
  · exact ⟨y, .inr (.inl rfl), e⟩
  · exact ⟨z, .inr (.inr rfl), e⟩
theorem law_plan_ex (most : Int) (h0 : 0 ≤ most) (h1 : most ≤ 50) (hub : Bool) (b : Bag) (hi : 0 ≤ b.i) : ∃ (p : Pl) (b' : Bag), DrawnP most p ∧ 0 ≤ b'.i ∧ ∀ μ, g_law_plan [.obj 0, .int most, .bl hub] (b.mo :: μ) = .ok (encP p) ⟨[], b'.mo :: μ⟩ := by
  obtain ⟨v1, b1, i1, l1, u1, p1⟩ := pull_ex b 65536 hi (by omega) (by omega)
  obtain ⟨v2, b2, i2, l2, u2, p2⟩ := pull_ex b1 3 i1 (by omega) (by omega)
  obtain ⟨n1, hn1, e1⟩ := pick3i v1 0 65535 v2 l2 u2
  obtain ⟨v3, b3, i3, l3, u3, p3⟩ := pull_ex b2 65536 i2 (by omega) (by omega)
  obtain ⟨v4, b4, i4, l4, u4, p4⟩ := pull_ex b3 3 i3 (by omega) (by omega)
  obtain ⟨n2, hn2, e2⟩ := pick3i v3 255 256 v4 l4 u4
  cases hub with
  | false =>
    obtain ⟨es, b6, hr, hl, i6, p6⟩ := law_ends_ex most h0 h1 b4 i4
    refine ⟨⟨n1, n2, 0, es⟩, b6, ⟨by simp only; omega, by simp only; omega, by simp, hr, hl⟩, i6, fun μ => ?_⟩
    simp only [encP]
    generalize es.map encE = X at *
    simp -dsimp -implicitDefEqProofs [pureF, runF, fVar, fC, fBin, gI, gI0, gAdd, gSub, gMul, gDiv, gMod, gPow, gAnd, gOr, gXor, gShl, gShr, gLt, gLe, gGt, gGe, fTst, asB, fChain, fNotT, fAndT, fOrT, fNotV, fAndV, fOrV, fIf, fIsN, isNon, fIfS, fSeq, fNx, fCt, fRet, fRetN, fDrop, fAsg, Tg.run, setAll, fCall, fCons, fNil, fTup, fLst, fNew, fMt, isLst, lstV, seqV, objL, gAppend, gExtend, gIx, fSl, gSl, fO, fNoO, fRev, fWR1, fWR2, fWL, wkSeq, fWT, wkTup, allw, fFor, fCallP, fCallS, clL, clD, clK, fVarZ, frzG, fRaise, fSetIx, fPar, gSetL, fAug, gLen, gList, gListN, gTuple, gInt, gIsi, tyOf, isTy, sizeLine, CPow, gIAdd, gAddN, wkEnumL, wkEnumT, fWEL, fWET, fNeg, fCallK, gSumT, gSumL, lsV, fWR3, fCallNP, g_law_plan, b_law_plan, p1, p2, p3, p4, p6, e1, e2]
  | true =>
    obtain ⟨v5, b5, i5, l5, u5, p5⟩ := pull_ex b4 4 i4 (by omega) (by omega)
    obtain ⟨es, b6, hr, hl, i6, p6⟩ := law_ends_ex most h0 h1 b5 i5
    refine ⟨⟨n1, n2, 1 + v5, es⟩, b6, ⟨by simp only; omega, by simp only; omega, by simp only; omega, hr, hl⟩, i6, fun μ => ?_⟩
    simp only [encP]
    generalize es.map encE = X at *
    simp -dsimp -implicitDefEqProofs [pureF, runF, fVar, fC, fBin, gI, gI0, gAdd, gSub, gMul, gDiv, gMod, gPow, gAnd, gOr, gXor, gShl, gShr, gLt, gLe, gGt, gGe, fTst, asB, fChain, fNotT, fAndT, fOrT, fNotV, fAndV, fOrV, fIf, fIsN, isNon, fIfS, fSeq, fNx, fCt, fRet, fRetN, fDrop, fAsg, Tg.run, setAll, fCall, fCons, fNil, fTup, fLst, fNew, fMt, isLst, lstV, seqV, objL, gAppend, gExtend, gIx, fSl, gSl, fO, fNoO, fRev, fWR1, fWR2, fWL, wkSeq, fWT, wkTup, allw, fFor, fCallP, fCallS, clL, clD, clK, fVarZ, frzG, fRaise, fSetIx, fPar, gSetL, fAug, gLen, gList, gListN, gTuple, gInt, gIsi, tyOf, isTy, sizeLine, CPow, gIAdd, gAddN, wkEnumL, wkEnumT, fWEL, fWET, fNeg, fCallK, gSumT, gSumL, lsV, fWR3, fCallNP, g_law_plan, b_law_plan, p1, p2, p3, p4, p5, p6, e1, e2]

def b_law_two : DS → R Fl :=
  (fRet (fTup (fCons (fBin (fVar 0) (fC (.int 256)) gMod) (fCons (fBin (fVar 0) (fC (.int 256)) gDiv) fNil))))
def g_law_two : GP := pureF (runF 1 b_law_two)
theorem eq_law_two : ∀ args, args.length = 1 → g_law_two args ≠ .bad → pureF (runF 1 b_law_two) args = g_law_two args := fun _ _ _ => rfl

theorem law_two_eq (n : Int) : g_law_two [.int n] = .ok (.tup [.int (n % 256), .int (n / 256)]) ⟨[], []⟩ := by
  have cw : CDivW n 256 := cdw (by decide) (by decide)
  simp -dsimp -implicitDefEqProofs [pureF, runF, fVar, fC, fBin, gI, gI0, gAdd, gSub, gMul, gDiv, gMod, gPow, gAnd, gOr, gXor, gShl, gShr, gLt, gLe, gGt, gGe, fTst, asB, fChain, fNotT, fAndT, fOrT, fNotV, fAndV, fOrV, fIf, fIsN, isNon, fIfS, fSeq, fNx, fCt, fRet, fRetN, fDrop, fAsg, Tg.run, setAll, fCall, fCons, fNil, fTup, fLst, fNew, fMt, isLst, lstV, seqV, objL, gAppend, gExtend, gIx, fSl, gSl, fO, fNoO, fRev, fWR1, fWR2, fWL, wkSeq, fWT, wkTup, allw, fFor, fCallP, fCallS, clL, clD, clK, fVarZ, frzG, fRaise, fSetIx, fPar, gSetL, fAug, gLen, gList, gListN, gTuple, gInt, gIsi, tyOf, isTy, sizeLine, CPow, gIAdd, gAddN, wkEnumL, wkEnumT, fWEL, fWET, fNeg, fCallK, gSumT, gSumL, lsV, fWR3, fCallNP, g_law_two, b_law_two, cw]

def b_law_device : DS → R Fl :=
  (fSeq (fAsg (fBin (fBin (fTup (fCons (fC (.int 18)) (fCons (fC (.int 1)) (fCons (fC (.int 16)) (fCons (fC (.int 1)) (fCons (fBin (fC (.int 9)) (fCall (fCons (fBin (fBin (fVar 0) (fC (.int 2)) gIx) (fC (.int 0)) gGt) fNil) gInt) gMul) (fCons (fC (.int 0)) (fCons (fC (.int 0)) (fCons (fC (.int 8)) fNil))))))))) (fCallP 1 (fCons (fBin (fVar 0) (fC (.int 0)) gIx) fNil) [] g_law_two) gAdd) (fCallP 1 (fCons (fBin (fVar 0) (fC (.int 1)) gIx) fNil) [] g_law_two) gAdd) (.one 1))
    (fRet (fBin (fVar 1) (fTup (fCons (fC (.int 0)) (fCons (fC (.int 1)) (fCons (fBin (fVar 0) (fC (.int 2)) gIx) (fCons (fC (.int 0)) (fCons (fC (.int 0)) (fCons (fC (.int 1)) fNil))))))) gAdd)))
def g_law_device : GP := pureF (runF 2 b_law_device)
theorem eq_law_device : ∀ args, args.length = 1 → g_law_device args ≠ .bad → pureF (runF 2 b_law_device) args = g_law_device args := fun _ _ _ => rfl

theorem law_device_eq (p : Pl) : g_law_device [encP p] = .ok (.tup ((devL p).map .int)) ⟨[], []⟩ := by
  have ta := law_two_eq p.a
  have tb := law_two_eq p.b
  have at0 : ∀ a b c d : D, L2.atI [a, b, c, d] 0 = some a ∧ L2.atI [a, b, c, d] 1 = some b ∧ L2.atI [a, b, c, d] 2 = some c := fun a b c d => ⟨rfl, rfl, rfl⟩
  have c1 : CMul 9 1 := .inl ⟨by decide, by decide⟩
  have c0 : CMul 9 0 := .inl ⟨by decide, by decide⟩
  unfold encP
  generalize p.es.map encE = ES at *
  by_cases hz : 0 < p.c
  · simp -dsimp -implicitDefEqProofs [pureF, runF, fVar, fC, fBin, gI, gI0, gAdd, gSub, gMul, gDiv, gMod, gPow, gAnd, gOr, gXor, gShl, gShr, gLt, gLe, gGt, gGe, fTst, asB, fChain, fNotT, fAndT, fOrT, fNotV, fAndV, fOrV, fIf, fIsN, isNon, fIfS, fSeq, fNx, fCt, fRet, fRetN, fDrop, fAsg, Tg.run, setAll, fCall, fCons, fNil, fTup, fLst, fNew, fMt, isLst, lstV, seqV, objL, gAppend, gExtend, gIx, fSl, gSl, fO, fNoO, fRev, fWR1, fWR2, fWL, wkSeq, fWT, wkTup, allw, fFor, fCallP, fCallS, clL, clD, clK, fVarZ, frzG, fRaise, fSetIx, fPar, gSetL, fAug, gLen, gList, gListN, gTuple, gInt, gIsi, tyOf, isTy, sizeLine, CPow, gIAdd, gAddN, wkEnumL, wkEnumT, fWEL, fWET, fNeg, fCallK, gSumT, gSumL, lsV, fWR3, fCallNP, g_law_device, b_law_device, ta, tb, at0, hz, devL, c1, c0]
  · simp -dsimp -implicitDefEqProofs [pureF, runF, fVar, fC, fBin, gI, gI0, gAdd, gSub, gMul, gDiv, gMod, gPow, gAnd, gOr, gXor, gShl, gShr, gLt, gLe, gGt, gGe, fTst, asB, fChain, fNotT, fAndT, fOrT, fNotV, fAndV, fOrV, fIf, fIsN, isNon, fIfS, fSeq, fNx, fCt, fRet, fRetN, fDrop, fAsg, Tg.run, setAll, fCall, fCons, fNil, fTup, fLst, fNew, fMt, isLst, lstV, seqV, objL, gAppend, gExtend, gIx, fSl, gSl, fO, fNoO, fRev, fWR1, fWR2, fWL, wkSeq, fWT, wkTup, allw, fFor, fCallP, fCallS, clL, clD, clK, fVarZ, frzG, fRaise, fSetIx, fPar, gSetL, fAug, gLen, gList, gListN, gTuple, gInt, gIsi, tyOf, isTy, sizeLine, CPow, gIAdd, gAddN, wkEnumL, wkEnumT, fWEL, fWET, fNeg, fCallK, gSumT, gSumL, lsV, fWR3, fCallNP, g_law_device, b_law_device, ta, tb, at0, hz, devL, c1, c0]

def lb_law_settings_0 : DS → R Fl := (fSeq (fAsg (fBin (fVar 2) (fBin (fC (.int 128)) (fCall (fCons (fBin (fVar 3) (fC (.str "in")) gEq) fNil) gInt) gMul) gAdd) (.one 7))
    (fAsg (fBin (fBin (fBin (fVar 1) (fTup (fCons (fC (.int 7)) (fCons (fC (.int 5)) (fCons (fVar 7) (fCons (fBin (fC (.int 2)) (fCall (fCons (fBin (fVar 4) (fC (.str "timed")) gEq) fNil) gInt) gAdd) fNil))))) gAdd) (fCallP 1 (fCons (fVar 5) fNil) [] g_law_two) gAdd) (fTup (fCons (fVar 6) fNil)) gAdd) (.one 1)))
def b_law_settings : DS → R Fl :=
  (fSeq (fAsg (fTup (fCons (fC (.int 9)) (fCons (fC (.int 4)) (fCons (fC (.int 0)) (fCons (fC (.int 0)) (fCons (fCall (fCons (fBin (fVar 0) (fC (.int 3)) gIx) fNil) gLen) (fCons (fC (.int 255)) (fCons (fC (.int 0)) (fCons (fC (.int 0)) (fCons (fC (.int 0)) fNil)))))))))) (.one 1))
    (fSeq (fFor (fWT (fBin (fVar 0) (fC (.int 3)) gIx)) (.many [2, 3, 4, 5, 6]) lb_law_settings_0)
    (fRet (fBin (fBin (fBin (fTup (fCons (fC (.int 9)) (fCons (fC (.int 2)) fNil))) (fCallP 1 (fCons (fBin (fC (.int 9)) (fCall (fCons (fVar 1) fNil) gLen) gAdd) fNil) [] g_law_two) gAdd) (fTup (fCons (fC (.int 1)) (fCons (fC (.int 1)) (fCons (fC (.int 0)) (fCons (fC (.int 128)) (fCons (fC (.int 50)) fNil)))))) gAdd) (fVar 1) gAdd))))
def g_law_settings : GP := pureF (runF 8 b_law_settings)
theorem eq_law_settings : ∀ args, args.length = 1 → g_law_settings args ≠ .bad → pureF (runF 8 b_law_settings) args = g_law_settings args := fun _ _ _ => rfl

theorem law_set_loop (es : List En) (hg : ∀ x ∈ es, goodE x) (hl : es.length ≤ 100) (p : Option D) : ∃ x2 x3 x4 x5 x6 x7, loopL allw (fStep (.many [2, 3, 4, 5, 6]) lb_law_settings_0) (es.map encE) ⟨[p, some (.tup (.int 9 :: (tlL es.length []).map .int)), none, none, none, none, none, none], []⟩ = .ok .nx ⟨[p, some (.tup (.int 9 :: (tlL es.length es).map .int)), x2, x3, x4, x5, x6, x7], []⟩ := by
  obtain ⟨s', l1, x2, x3, x4, x5, x6, x7, l2⟩ := loop_inv (P := allw) (step := fStep (.many [2, 3, 4, 5, 6]) lb_law_settings_0) (fun i s => ∃ x2 x3 x4 x5 x6 x7, s = ⟨[p, some (.tup (.int 9 :: (tlL es.length (es.take i)).map .int)), x2, x3, x4, x5, x6, x7], []⟩) (es.map encE) (fun _ _ _ => rfl)
    (fun i d s e ⟨x2, x3, x4, x5, x6, x7, hs⟩ => by
      subst hs
      rw [List.getElem?_map] at e
      cases q : es[i]? with
      | none => rw [q] at e; cases e
      | some x =>
        rw [q] at e
        cases e
        obtain ⟨⟨g1, g2⟩, g3, g4⟩ := hg x (List.mem_of_getElem? q)
        have hi : (es.take i).length ≤ 100 := by rw [List.length_take]; omega
        have hlen : ((tlL es.length (es.take i)).map D.int).length ≤ 1000 := by rw [List.length_map, tlL_len]; omega
        have ts := law_two_eq x.s
        have se := str_eqs
        have c1 : CMul 128 1 := .inl ⟨by decide, by decide⟩
        have c0 : CMul 128 0 := .inl ⟨by decide, by decide⟩
        have hk : x.k = "bulk" ∨ x.k = "timed" := by
          rcases g4 with ⟨z, _⟩ | ⟨z, _⟩
          · exact .inl z
          · exact .inr z
        refine ⟨_, .inl ?_, some (.int x.n), some (.str (x.w : Str)), some (.str (x.k : Str)), some (.int x.s), some (.int x.e), some (.int (x.n + if x.w = "in" then 128 else 0)), rfl⟩
        rw [tlL_step es.length es i x q, List.map_append]
        unfold encE endR
        generalize (tlL es.length (es.take i)).map D.int = T at *
        have h2 : T.length + 1 + 4 ≤ 16777216 := by omega
        have h3 : T.length + 4 + 1 ≤ 16777216 := by omega
        have h4 : T.length + 4 + 2 + 1 ≤ 16777216 := by omega
        have h5 : T.length + 4 + 2 + 1 + 1 ≤ 16777216 := by omega
        rcases g3 with gw | gw <;> rcases hk with gk | gk <;> rw [gw, gk] <;> simp -dsimp -implicitDefEqProofs [pureF, runF, fVar, fC, fBin, gI, gI0, gAdd, gSub, gMul, gDiv, gMod, gPow, gAnd, gOr, gXor, gShl, gShr, gLt, gLe, gGt, gGe, fTst, asB, fChain, fNotT, fAndT, fOrT, fNotV, fAndV, fOrV, fIf, fIsN, isNon, fIfS, fSeq, fNx, fCt, fRet, fRetN, fDrop, fAsg, Tg.run, setAll, fCall, fCons, fNil, fTup, fLst, fNew, fMt, isLst, lstV, seqV, objL, gAppend, gExtend, gIx, fSl, gSl, fO, fNoO, fRev, fWR1, fWR2, fWL, wkSeq, fWT, wkTup, allw, fFor, fCallP, fCallS, clL, clD, clK, fVarZ, frzG, fRaise, fSetIx, fPar, gSetL, fAug, gLen, gList, gListN, gTuple, gInt, gIsi, tyOf, isTy, sizeLine, CPow, gIAdd, gAddN, wkEnumL, wkEnumT, fWEL, fWET, fNeg, fCallK, gSumT, gSumL, lsV, fWR3, fCallNP, fStep, lb_law_settings_0, se, ts, c1, c0, h2, h3, h4, h5])
    (s := ⟨[p, some (.tup (.int 9 :: (tlL es.length []).map .int)), none, none, none, none, none, none], []⟩) ⟨none, none, none, none, none, none, by simp⟩
  subst l2
  rw [List.length_map, List.take_length] at l1
  exact ⟨x2, x3, x4, x5, x6, x7, l1⟩
theorem law_settings_eq (p : Pl) (hl : p.es.length ≤ 100) (hg : ∀ x ∈ p.es, goodE x) : g_law_settings [encP p] = .ok (.tup ((setL p.es).map .int)) ⟨[], []⟩ := by
  obtain ⟨x2, x3, x4, x5, x6, x7, q⟩ := law_set_loop p.es hg hl (some (encP p))
  have hE := encL_cl 0 p.es
  have hEl : (p.es.map encE).length = p.es.length := List.length_map ..
  have ht : (tlL p.es.length []).map D.int = [.int 4, .int 0, .int 0, .int (p.es.length : Nat), .int 255, .int 0, .int 0, .int 0] := rfl
  have hrl : ((tlL p.es.length p.es).map D.int).length = 8 + 7 * p.es.length := by rw [List.length_map, tlL_len]
  have tw := law_two_eq (9 + ((restL p.es).length : Int))
  have hlr : ((restL p.es).length : Int) = 8 + 7 * (p.es.length : Int) + 1 := by simp only [restL, List.length_cons, tlL_len]; omega
  have hset : (setL p.es).map D.int = [.int 9, .int 2, .int ((9 + ((restL p.es).length : Int)) % 256), .int ((9 + ((restL p.es).length : Int)) / 256), .int 1, .int 1, .int 0, .int 128, .int 50, .int 9] ++ (tlL p.es.length p.es).map .int := by simp [setL, restL]
  rw [hset]
  rw [hlr] at tw ⊢
  have hcT := clL_ints 0 (tlL p.es.length p.es)
  have at3 : ∀ a b c d : D, L2.atI [a, b, c, d] 3 = some d := fun a b c d => rfl
  rw [ht] at q
  unfold encP at q ⊢
  have hb : (p.es.length : Int) ≤ 100 := by omega
  generalize (tlL p.es.length p.es).map D.int = T at *
  generalize p.es.map encE = ES at *
  generalize p.es.length = N at *
  have z1 : 9 + (8 + 7 * N + 1) ≤ 16777216 := by omega
  simp -dsimp -implicitDefEqProofs [pureF, runF, fVar, fC, fBin, gI, gI0, gAdd, gSub, gMul, gDiv, gMod, gPow, gAnd, gOr, gXor, gShl, gShr, gLt, gLe, gGt, gGe, fTst, asB, fChain, fNotT, fAndT, fOrT, fNotV, fAndV, fOrV, fIf, fIsN, isNon, fIfS, fSeq, fNx, fCt, fRet, fRetN, fDrop, fAsg, Tg.run, setAll, fCall, fCons, fNil, fTup, fLst, fNew, fMt, isLst, lstV, seqV, objL, gAppend, gExtend, gIx, fSl, gSl, fO, fNoO, fRev, fWR1, fWR2, fWL, wkSeq, fWT, wkTup, allw, fFor, fCallP, fCallS, clL, clD, clK, fVarZ, frzG, fRaise, fSetIx, fPar, gSetL, fAug, gLen, gList, gListN, gTuple, gInt, gIsi, tyOf, isTy, sizeLine, CPow, gIAdd, gAddN, wkEnumL, wkEnumT, fWEL, fWET, fNeg, fCallK, gSumT, gSumL, lsV, fWR3, fCallNP, g_law_settings, b_law_settings, hE, at3, hEl, q, hrl, tw, hcT, z1]

def b_law_end_good : DS → R Fl :=
  (fSeq (fAsg (fVar 0) (.many [1, 2, 3, 4, 5]))
    (fSeq (fIfS (fTst (fInRng true (fVar 1) (fCons (fC (.int 1)) (fCons (fC (.int 8)) fNil)))) (fRet (fC (.bl false))) fNx)
    (fSeq (fIfS (fTst (fBin (fVar 3) (fC (.str "timed")) gEq)) (fRet (fAndV (fInRng false (fVar 4) (fCons (fC (.int 1)) (fCons (fC (.int 65)) fNil))) (fBin (fVar 5) (fTup (fCons (fC (.int 1)) (fCons (fC (.int 2)) (fCons (fC (.int 4)) (fCons (fC (.int 8)) (fCons (fC (.int 16)) (fCons (fC (.int 32)) fNil))))))) (gIn false)))) fNx)
    (fRet (fAndV (fBin (fVar 4) (fTup (fCons (fC (.int 8)) (fCons (fC (.int 16)) (fCons (fC (.int 32)) (fCons (fC (.int 64)) fNil))))) (gIn false)) (fBin (fVar 5) (fC (.int 0)) gEq))))))
def g_law_end_good : GP := pureF (runF 6 b_law_end_good)
theorem eq_law_end_good : ∀ args, args.length = 1 → g_law_end_good args ≠ .bad → pureF (runF 6 b_law_end_good) args = g_law_end_good args := fun _ _ _ => rfl

def kwE (x : En) : Prop := (x.w = "in" ∨ x.w = "out") ∧ (x.k = "bulk" ∨ x.k = "timed")
theorem law_end_good_eq (x : En) (hw : kwE x) : g_law_end_good [encE x] = .ok (.bl (dcd (goodE x))) ⟨[], []⟩ := by
  have hs := sizes_in false x.s
  have hp := periods_in false x.e
  simp only [Bool.false_eq_true, if_false] at hs hp
  obtain ⟨n, w, k, s, e⟩ := x
  obtain ⟨hw, hk⟩ := hw
  unfold goodE
  simp only [encE] at *
  by_cases hn : 1 ≤ n ∧ n ≤ 7
  · have e3 : dcd (1 ≤ n ∧ n < 8) = true := dcd_pos (by omega)
    rcases hk with rfl | rfl
    · by_cases h1 : s = 8 ∨ s = 16 ∨ s = 32 ∨ s = 64
      · have e1 : dcd (s = 8 ∨ s = 16 ∨ s = 32 ∨ s = 64) = true := dcd_pos h1
        rw [e1] at hs
        have e2 : dcd ((1 ≤ n ∧ n ≤ 7) ∧ (w = "in" ∨ w = "out") ∧ (("bulk" = "bulk" ∧ (s = 8 ∨ s = 16 ∨ s = 32 ∨ s = 64) ∧ e = 0) ∨ ("bulk" = "timed" ∧ (1 ≤ s ∧ s ≤ 64) ∧ (e = 1 ∨ e = 2 ∨ e = 4 ∨ e = 8 ∨ e = 16 ∨ e = 32)))) = dcd (e = 0) := by
          rw [Bool.eq_iff_iff]
          simp [hn, hw, h1]
        rw [e2]
        clear e2 e1 h1 hn hw
        simp -dsimp -implicitDefEqProofs [pureF, runF, fVar, fC, fBin, gI, gI0, gAdd, gSub, gMul, gDiv, gMod, gPow, gAnd, gOr, gXor, gShl, gShr, gLt, gLe, gGt, gGe, fTst, asB, fChain, fNotT, fAndT, fOrT, fNotV, fAndV, fOrV, fIf, fIsN, isNon, fIfS, fSeq, fNx, fCt, fRet, fRetN, fDrop, fAsg, Tg.run, setAll, fCall, fCons, fNil, fTup, fLst, fNew, fMt, isLst, lstV, seqV, objL, gAppend, gExtend, gIx, fSl, gSl, fO, fNoO, fRev, fWR1, fWR2, fWL, wkSeq, fWT, wkTup, allw, fFor, fCallP, fCallS, clL, clD, clK, fVarZ, frzG, fRaise, fSetIx, fPar, gSetL, fAug, gLen, gList, gListN, gTuple, gInt, gIsi, tyOf, isTy, sizeLine, CPow, gIAdd, gAddN, wkEnumL, wkEnumT, fWEL, fWET, fNeg, fCallK, gSumT, gSumL, lsV, fWR3, fCallNP, g_law_end_good, b_law_end_good, fInRng, e3, hs]
      · have e1 : dcd (s = 8 ∨ s = 16 ∨ s = 32 ∨ s = 64) = false := dcd_neg h1
        rw [e1] at hs
        have e2 : dcd ((1 ≤ n ∧ n ≤ 7) ∧ (w = "in" ∨ w = "out") ∧ (("bulk" = "bulk" ∧ (s = 8 ∨ s = 16 ∨ s = 32 ∨ s = 64) ∧ e = 0) ∨ ("bulk" = "timed" ∧ (1 ≤ s ∧ s ≤ 64) ∧ (e = 1 ∨ e = 2 ∨ e = 4 ∨ e = 8 ∨ e = 16 ∨ e = 32)))) = false := dcd_neg fun z => by
          rcases z.2.2 with z | z
          · exact h1 z.2.1
          · exact absurd z.1 (by decide)
        rw [e2]
        clear e2 e1 h1 hn hw
        simp -dsimp -implicitDefEqProofs [pureF, runF, fVar, fC, fBin, gI, gI0, gAdd, gSub, gMul, gDiv, gMod, gPow, gAnd, gOr, gXor, gShl, gShr, gLt, gLe, gGt, gGe, fTst, asB, fChain, fNotT, fAndT, fOrT, fNotV, fAndV, fOrV, fIf, fIsN, isNon, fIfS, fSeq, fNx, fCt, fRet, fRetN, fDrop, fAsg, Tg.run, setAll, fCall, fCons, fNil, fTup, fLst, fNew, fMt, isLst, lstV, seqV, objL, gAppend, gExtend, gIx, fSl, gSl, fO, fNoO, fRev, fWR1, fWR2, fWL, wkSeq, fWT, wkTup, allw, fFor, fCallP, fCallS, clL, clD, clK, fVarZ, frzG, fRaise, fSetIx, fPar, gSetL, fAug, gLen, gList, gListN, gTuple, gInt, gIsi, tyOf, isTy, sizeLine, CPow, gIAdd, gAddN, wkEnumL, wkEnumT, fWEL, fWET, fNeg, fCallK, gSumT, gSumL, lsV, fWR3, fCallNP, g_law_end_good, b_law_end_good, fInRng, e3, hs]
    · by_cases h1 : 1 ≤ s ∧ s ≤ 64
      · have e1 : dcd (1 ≤ s ∧ s < 65) = true := dcd_pos (by omega)
        have e2 : dcd ((1 ≤ n ∧ n ≤ 7) ∧ (w = "in" ∨ w = "out") ∧ (("timed" = "bulk" ∧ (s = 8 ∨ s = 16 ∨ s = 32 ∨ s = 64) ∧ e = 0) ∨ ("timed" = "timed" ∧ (1 ≤ s ∧ s ≤ 64) ∧ (e = 1 ∨ e = 2 ∨ e = 4 ∨ e = 8 ∨ e = 16 ∨ e = 32)))) = dcd (e = 1 ∨ e = 2 ∨ e = 4 ∨ e = 8 ∨ e = 16 ∨ e = 32) := by
          rw [Bool.eq_iff_iff]
          simp [hn, hw, h1]
        rw [e2]
        generalize dcd (e = 1 ∨ e = 2 ∨ e = 4 ∨ e = 8 ∨ e = 16 ∨ e = 32) = r at *
        clear e2 h1 hn hw
        simp -dsimp -implicitDefEqProofs [pureF, runF, fVar, fC, fBin, gI, gI0, gAdd, gSub, gMul, gDiv, gMod, gPow, gAnd, gOr, gXor, gShl, gShr, gLt, gLe, gGt, gGe, fTst, asB, fChain, fNotT, fAndT, fOrT, fNotV, fAndV, fOrV, fIf, fIsN, isNon, fIfS, fSeq, fNx, fCt, fRet, fRetN, fDrop, fAsg, Tg.run, setAll, fCall, fCons, fNil, fTup, fLst, fNew, fMt, isLst, lstV, seqV, objL, gAppend, gExtend, gIx, fSl, gSl, fO, fNoO, fRev, fWR1, fWR2, fWL, wkSeq, fWT, wkTup, allw, fFor, fCallP, fCallS, clL, clD, clK, fVarZ, frzG, fRaise, fSetIx, fPar, gSetL, fAug, gLen, gList, gListN, gTuple, gInt, gIsi, tyOf, isTy, sizeLine, CPow, gIAdd, gAddN, wkEnumL, wkEnumT, fWEL, fWET, fNeg, fCallK, gSumT, gSumL, lsV, fWR3, fCallNP, g_law_end_good, b_law_end_good, fInRng, e3, e1, hp]
      · have e1 : dcd (1 ≤ s ∧ s < 65) = false := dcd_neg (by omega)
        have e2 : dcd ((1 ≤ n ∧ n ≤ 7) ∧ (w = "in" ∨ w = "out") ∧ (("timed" = "bulk" ∧ (s = 8 ∨ s = 16 ∨ s = 32 ∨ s = 64) ∧ e = 0) ∨ ("timed" = "timed" ∧ (1 ≤ s ∧ s ≤ 64) ∧ (e = 1 ∨ e = 2 ∨ e = 4 ∨ e = 8 ∨ e = 16 ∨ e = 32)))) = false := dcd_neg fun z => by
          rcases z.2.2 with z | z
          · exact absurd z.1 (by decide)
          · exact h1 z.2.1
        rw [e2]
        clear e2 h1 hn hw
        simp -dsimp -implicitDefEqProofs [pureF, runF, fVar, fC, fBin, gI, gI0, gAdd, gSub, gMul, gDiv, gMod, gPow, gAnd, gOr, gXor, gShl, gShr, gLt, gLe, gGt, gGe, fTst, asB, fChain, fNotT, fAndT, fOrT, fNotV, fAndV, fOrV, fIf, fIsN, isNon, fIfS, fSeq, fNx, fCt, fRet, fRetN, fDrop, fAsg, Tg.run, setAll, fCall, fCons, fNil, fTup, fLst, fNew, fMt, isLst, lstV, seqV, objL, gAppend, gExtend, gIx, fSl, gSl, fO, fNoO, fRev, fWR1, fWR2, fWL, wkSeq, fWT, wkTup, allw, fFor, fCallP, fCallS, clL, clD, clK, fVarZ, frzG, fRaise, fSetIx, fPar, gSetL, fAug, gLen, gList, gListN, gTuple, gInt, gIsi, tyOf, isTy, sizeLine, CPow, gIAdd, gAddN, wkEnumL, wkEnumT, fWEL, fWET, fNeg, fCallK, gSumT, gSumL, lsV, fWR3, fCallNP, g_law_end_good, b_law_end_good, fInRng, e3, e1]
  · rw [dcd_neg fun z => hn z.1]
    have e3 : dcd (1 ≤ n ∧ n < 8) = false := dcd_neg (by omega)
    clear hn
    simp -dsimp -implicitDefEqProofs [pureF, runF, fVar, fC, fBin, gI, gI0, gAdd, gSub, gMul, gDiv, gMod, gPow, gAnd, gOr, gXor, gShl, gShr, gLt, gLe, gGt, gGe, fTst, asB, fChain, fNotT, fAndT, fOrT, fNotV, fAndV, fOrV, fIf, fIsN, isNon, fIfS, fSeq, fNx, fCt, fRet, fRetN, fDrop, fAsg, Tg.run, setAll, fCall, fCons, fNil, fTup, fLst, fNew, fMt, isLst, lstV, seqV, objL, gAppend, gExtend, gIx, fSl, gSl, fO, fNoO, fRev, fWR1, fWR2, fWL, wkSeq, fWT, wkTup, allw, fFor, fCallP, fCallS, clL, clD, clK, fVarZ, frzG, fRaise, fSetIx, fPar, gSetL, fAug, gLen, gList, gListN, gTuple, gInt, gIsi, tyOf, isTy, sizeLine, CPow, gIAdd, gAddN, wkEnumL, wkEnumT, fWEL, fWET, fNeg, fCallK, gSumT, gSumL, lsV, fWR3, fCallNP, g_law_end_good, b_law_end_good, fInRng, e3]

def lb_law_told_plan_0 : DS → R Fl := (fSeq (fAsg (fSl (fVar 1) (fO (fBin (fC (.int 18)) (fBin (fC (.int 7)) (fVar 3) gMul) gAdd)) (fO (fBin (fC (.int 25)) (fBin (fC (.int 7)) (fVar 3) gMul) gAdd))) (.one 4))
    (fSeq (fAsg (fIf (fTst (fBin (fBin (fVar 4) (fC (.int 3)) gIx) (fC (.int 3)) gEq)) (fC (.str "timed")) (fC (.str "bulk"))) (.one 5))
    (fDrop (fMt isLst (fVar 2) (fCons (fTup (fCons (fBin (fBin (fVar 4) (fC (.int 2)) gIx) (fC (.int 128)) gMod) (fCons (fBin (fLst (fCons (fC (.str "out")) (fCons (fC (.str "in")) fNil))) (fBin (fBin (fVar 4) (fC (.int 2)) gIx) (fC (.int 128)) gDiv) gIx) (fCons (fVar 5) (fCons (fBin (fBin (fVar 4) (fC (.int 4)) gIx) (fBin (fC (.int 256)) (fBin (fVar 4) (fC (.int 5)) gIx) gMul) gAdd) (fCons (fBin (fVar 4) (fC (.int 6)) gIx) fNil)))))) fNil) gAppend))))
def b_law_told_plan : DS → R Fl :=
  (fSeq (fAsg (fNew fNil) (.one 2))
    (fSeq (fFor (fWR1 (fCons (fBin (fCall (fCons (fC (.int 0)) (fCons (fBin (fCall (fCons (fVar 1) fNil) gLen) (fC (.int 18)) gSub) fNil)) gMax) (fC (.int 7)) gDiv) fNil)) (.one 3) lb_law_told_plan_0)
    (fRet (fTup (fCons (fBin (fBin (fVar 0) (fC (.int 8)) gIx) (fBin (fC (.int 256)) (fBin (fVar 0) (fC (.int 9)) gIx) gMul) gAdd) (fCons (fBin (fBin (fVar 0) (fC (.int 10)) gIx) (fBin (fC (.int 256)) (fBin (fVar 0) (fC (.int 11)) gIx) gMul) gAdd) (fCons (fBin (fVar 0) (fC (.int 14)) gIx) (fCons (fCall (fCons (fVar 2) fNil) gTuple) fNil))))))))
def g_law_told_plan : GP := pureF (runF 6 b_law_told_plan)
theorem eq_law_told_plan : ∀ args, args.length = 2 → g_law_told_plan args ≠ .bad → pureF (runF 6 b_law_told_plan) args = g_law_told_plan args := fun _ _ _ => rfl

theorem ltold_loop (B : List Int) (hB : ∀ x ∈ B, byt x) (hl : B.length ≤ 500) (p : Option D) : ∃ x3 x4 x5, loopL allw (fStep (.one 3) lb_law_told_plan_0) (rngD 0 (nE B)) ⟨[p, some (.tup (B.map .int)), some (.obj 0), none, none, none], [.lst []]⟩ = .ok .nx ⟨[p, some (.tup (B.map .int)), some (.obj 0), x3, x4, x5], [.lst (((List.range (nE B)).map (enA B)).map encE)]⟩ := by
  obtain ⟨s', l1, x3, x4, x5, l2⟩ := loop_rng (step := fStep (.one 3) lb_law_told_plan_0) (fun i s => ∃ x3 x4 x5, s = ⟨[p, some (.tup (B.map .int)), some (.obj 0), x3, x4, x5], [.lst (((List.range i).map (enA B)).map encE)]⟩) (nE B)
    (fun i s hi ⟨x3, x4, x5, hs⟩ => by
      subst hs
      have hn : nE B = (B.length - 18) / 7 := rfl
      have hfit : 18 + 7 * i + 7 ≤ B.length := by omega
      have c := told_cut B i hfit
      rw [show ((18 + 7 * i : Nat) : Int) = 18 + 7 * (i : Int) by omega, show ((18 + 7 * i + 7 : Nat) : Int) = 25 + 7 * (i : Int) by omega] at c
      have hlen : (((List.range i).map (enA B)).map encE).length < 16777216 := by simp; omega
      have ht : ((List.range (i + 1)).map (enA B)).map encE = ((List.range i).map (enA B)).map encE ++ [encE (enA B i)] := by rw [List.range_succ, List.map_append, List.map_append]; rfl
      have hE : encE (enA B i) = encE (endB (B.getD (18 + 7 * i + 2) 0) (B.getD (18 + 7 * i + 3) 0) (B.getD (18 + 7 * i + 4) 0) (B.getD (18 + 7 * i + 5) 0) (B.getD (18 + 7 * i + 6) 0)) := rfl
      have b2 : byt (B.getD (18 + 7 * i + 2) 0) := byt_get hB _
      have cm : CMul 7 (i : Int) := .inl ⟨by decide, by decide⟩
      have cm2 : CMul 256 (B.getD (18 + 7 * i + 5) 0) := .inl ⟨by decide, by decide⟩
      have cd : CDivW (B.getD (18 + 7 * i + 2) 0) 128 := cdw (by decide) (by decide)
      rw [ht, hE]
      clear hE ht hfit hn hi
      generalize (((List.range i).map (enA B)).map encE) = ES at *
      generalize B.getD (18 + 7 * i) 0 = z0 at *
      generalize B.getD (18 + 7 * i + 1) 0 = z1 at *
      generalize B.getD (18 + 7 * i + 2) 0 = z2 at *
      generalize B.getD (18 + 7 * i + 3) 0 = z3 at *
      generalize B.getD (18 + 7 * i + 4) 0 = z4 at *
      generalize B.getD (18 + 7 * i + 5) 0 = z5 at *
      generalize B.getD (18 + 7 * i + 6) 0 = z6 at *
      generalize B.map D.int = M at *
      have at7 : ∀ a b c d e f h : D, L2.atI [a, b, c, d, e, f, h] 2 = some c ∧ L2.atI [a, b, c, d, e, f, h] 3 = some d ∧ L2.atI [a, b, c, d, e, f, h] 4 = some e ∧ L2.atI [a, b, c, d, e, f, h] 5 = some f ∧ L2.atI [a, b, c, d, e, f, h] 6 = some h := fun a b c d e f h => ⟨rfl, rfl, rfl, rfl, rfl⟩
      have at2 : ∀ a b : D, L2.atI [a, b] 0 = some a ∧ L2.atI [a, b] 1 = some b := fun a b => ⟨rfl, rfl⟩
      generalize (i : Int) = I at *
      obtain ⟨b0, b1⟩ := b2
      have fin : (fStep (.one 3) lb_law_told_plan_0 (.int I) ⟨[p, some (.tup M), some (.obj 0), x3, x4, x5], [.lst ES]⟩) = .ok .nx ⟨[p, some (.tup M), some (.obj 0), some (.int I), some (.tup [.int z0, .int z1, .int z2, .int z3, .int z4, .int z5, .int z6]), some (.str ((if z3 = 3 then "timed" else "bulk" : String) : Str))], [.lst (ES ++ [encE (endB z2 z3 z4 z5 z6)])]⟩ := by
        by_cases q : 128 ≤ z2
        · have e1 : z2 / 128 = 1 := by omega
          by_cases q2 : z3 = 3
          · simp -dsimp -implicitDefEqProofs [pureF, runF, fVar, fC, fBin, gI, gI0, gAdd, gSub, gMul, gDiv, gMod, gPow, gAnd, gOr, gXor, gShl, gShr, gLt, gLe, gGt, gGe, fTst, asB, fChain, fNotT, fAndT, fOrT, fNotV, fAndV, fOrV, fIf, fIsN, isNon, fIfS, fSeq, fNx, fCt, fRet, fRetN, fDrop, fAsg, Tg.run, setAll, fCall, fCons, fNil, fTup, fLst, fNew, fMt, isLst, lstV, seqV, objL, gAppend, gExtend, gIx, fSl, gSl, fO, fNoO, fRev, fWR1, fWR2, fWL, wkSeq, fWT, wkTup, allw, fFor, fCallP, fCallS, clL, clD, clK, fVarZ, frzG, fRaise, fSetIx, fPar, gSetL, fAug, gLen, gList, gListN, gTuple, gInt, gIsi, tyOf, isTy, sizeLine, CPow, gIAdd, gAddN, wkEnumL, wkEnumT, fWEL, fWET, fNeg, fCallK, gSumT, gSumL, lsV, fWR3, fCallNP, fStep, lb_law_told_plan_0, encE, endB, at7, at2, cm, cm2, cd, c, q, q2, e1, hlen]
          · have q3 : dcd (z3 = 3) = false := dcd_neg q2
            simp -dsimp -implicitDefEqProofs [pureF, runF, fVar, fC, fBin, gI, gI0, gAdd, gSub, gMul, gDiv, gMod, gPow, gAnd, gOr, gXor, gShl, gShr, gLt, gLe, gGt, gGe, fTst, asB, fChain, fNotT, fAndT, fOrT, fNotV, fAndV, fOrV, fIf, fIsN, isNon, fIfS, fSeq, fNx, fCt, fRet, fRetN, fDrop, fAsg, Tg.run, setAll, fCall, fCons, fNil, fTup, fLst, fNew, fMt, isLst, lstV, seqV, objL, gAppend, gExtend, gIx, fSl, gSl, fO, fNoO, fRev, fWR1, fWR2, fWL, wkSeq, fWT, wkTup, allw, fFor, fCallP, fCallS, clL, clD, clK, fVarZ, frzG, fRaise, fSetIx, fPar, gSetL, fAug, gLen, gList, gListN, gTuple, gInt, gIsi, tyOf, isTy, sizeLine, CPow, gIAdd, gAddN, wkEnumL, wkEnumT, fWEL, fWET, fNeg, fCallK, gSumT, gSumL, lsV, fWR3, fCallNP, fStep, lb_law_told_plan_0, encE, endB, at7, at2, cm, cm2, cd, c, q, q2, q3, e1, hlen]
        · have e1 : z2 / 128 = 0 := by omega
          by_cases q2 : z3 = 3
          · simp -dsimp -implicitDefEqProofs [pureF, runF, fVar, fC, fBin, gI, gI0, gAdd, gSub, gMul, gDiv, gMod, gPow, gAnd, gOr, gXor, gShl, gShr, gLt, gLe, gGt, gGe, fTst, asB, fChain, fNotT, fAndT, fOrT, fNotV, fAndV, fOrV, fIf, fIsN, isNon, fIfS, fSeq, fNx, fCt, fRet, fRetN, fDrop, fAsg, Tg.run, setAll, fCall, fCons, fNil, fTup, fLst, fNew, fMt, isLst, lstV, seqV, objL, gAppend, gExtend, gIx, fSl, gSl, fO, fNoO, fRev, fWR1, fWR2, fWL, wkSeq, fWT, wkTup, allw, fFor, fCallP, fCallS, clL, clD, clK, fVarZ, frzG, fRaise, fSetIx, fPar, gSetL, fAug, gLen, gList, gListN, gTuple, gInt, gIsi, tyOf, isTy, sizeLine, CPow, gIAdd, gAddN, wkEnumL, wkEnumT, fWEL, fWET, fNeg, fCallK, gSumT, gSumL, lsV, fWR3, fCallNP, fStep, lb_law_told_plan_0, encE, endB, at7, at2, cm, cm2, cd, c, q, q2, e1, hlen]
          · have q3 : dcd (z3 = 3) = false := dcd_neg q2
            simp -dsimp -implicitDefEqProofs [pureF, runF, fVar, fC, fBin, gI, gI0, gAdd, gSub, gMul, gDiv, gMod, gPow, gAnd, gOr, gXor, gShl, gShr, gLt, gLe, gGt, gGe, fTst, asB, fChain, fNotT, fAndT, fOrT, fNotV, fAndV, fOrV, fIf, fIsN, isNon, fIfS, fSeq, fNx, fCt, fRet, fRetN, fDrop, fAsg, Tg.run, setAll, fCall, fCons, fNil, fTup, fLst, fNew, fMt, isLst, lstV, seqV, objL, gAppend, gExtend, gIx, fSl, gSl, fO, fNoO, fRev, fWR1, fWR2, fWL, wkSeq, fWT, wkTup, allw, fFor, fCallP, fCallS, clL, clD, clK, fVarZ, frzG, fRaise, fSetIx, fPar, gSetL, fAug, gLen, gList, gListN, gTuple, gInt, gIsi, tyOf, isTy, sizeLine, CPow, gIAdd, gAddN, wkEnumL, wkEnumT, fWEL, fWET, fNeg, fCallK, gSumT, gSumL, lsV, fWR3, fCallNP, fStep, lb_law_told_plan_0, encE, endB, at7, at2, cm, cm2, cd, c, q, q2, q3, e1, hlen]
      rw [fin]
      exact ⟨.inl rfl, _, _, _, rfl⟩)
    (s := ⟨[p, some (.tup (B.map .int)), some (.obj 0), none, none, none], [.lst []]⟩) ⟨none, none, none, by simp⟩
  subst l2
  exact ⟨x3, x4, x5, l1⟩
theorem law_told_eq (A B : List Int) (hB : ∀ x ∈ B, byt x) (hl : B.length ≤ 500) (h18 : A.length = 18) : g_law_told_plan [.tup (A.map .int), .tup (B.map .int)] = .ok (encP (toldP A B)) ⟨[], []⟩ := by
  obtain ⟨x3, x4, x5, q⟩ := ltold_loop B hB hl (some (.tup (A.map .int)))
  have hn : nE B = (B.length - 18) / 7 := rfl
  have hE := encL_cl 0 ((List.range (nE B)).map (enA B))
  have hel : (((List.range (nE B)).map (enA B)).map encE).length ≤ 16777216 := by simp; omega
  have a8 := dev18 A h18
  have hml2 : (((B.map D.int).length : Nat) : Int) = ((B.length : Nat) : Int) := by rw [List.length_map]
  have cm9 : CMul 256 (A.getD 9 0) := .inl ⟨by decide, by decide⟩
  have cm11 : CMul 256 (A.getD 11 0) := .inl ⟨by decide, by decide⟩
  obtain ⟨Z, hd, hd2⟩ : ∃ Z : Int, (∀ s, gMax [.int 0, .int (((B.length : Nat) : Int) - 18)] s = .ok (.int Z) s) ∧ Z / 7 = ((nE B : Nat) : Int) := by
    by_cases hc : 0 < ((B.length : Nat) : Int) - 18
    · refine ⟨((B.length : Nat) : Int) - 18, fun s => ?_, by omega⟩
      simp only [gMax]
      rw [if_Pr hc]
    · refine ⟨0, fun s => ?_, by omega⟩
      simp only [gMax]
      rw [if_neg (show ¬ Pr _ from hc)]
  have cd : CDivW Z 7 := cdw (by decide) (by decide)
  have hw := fun s => wkR1_int (nE B : Nat) s (by omega) (by omega)
  simp only [Int.toNat_natCast] at hw
  unfold encP toldP
  simp only
  clear hn
  generalize ((List.range (nE B)).map (enA B)).map encE = ES at *
  generalize A.map D.int = DV at *
  generalize B.map D.int = M at *
  generalize A.getD 8 0 = z8 at *
  generalize A.getD 9 0 = z9 at *
  generalize A.getD 10 0 = z10 at *
  generalize A.getD 11 0 = z11 at *
  generalize A.getD 14 0 = z14 at *
  generalize ((B.length : Nat) : Int) = N at *
  generalize nE B = K at *
  clear hB hl
  simp -dsimp -implicitDefEqProofs [pureF, runF, fVar, fC, fBin, gI, gI0, gAdd, gSub, gMul, gDiv, gMod, gPow, gAnd, gOr, gXor, gShl, gShr, gLt, gLe, gGt, gGe, fTst, asB, fChain, fNotT, fAndT, fOrT, fNotV, fAndV, fOrV, fIf, fIsN, isNon, fIfS, fSeq, fNx, fCt, fRet, fRetN, fDrop, fAsg, Tg.run, setAll, fCall, fCons, fNil, fTup, fLst, fNew, fMt, isLst, lstV, seqV, objL, gAppend, gExtend, gIx, fSl, gSl, fO, fNoO, fRev, fWR1, fWR2, fWL, wkSeq, fWT, wkTup, allw, fFor, fCallP, fCallS, clL, clD, clK, fVarZ, frzG, fRaise, fSetIx, fPar, gSetL, fAug, gLen, gList, gListN, gTuple, gInt, gIsi, tyOf, isTy, sizeLine, CPow, gIAdd, gAddN, wkEnumL, wkEnumT, fWEL, fWET, fNeg, fCallK, gSumT, gSumL, lsV, fWR3, fCallNP, g_law_told_plan, b_law_told_plan, hml2, hd, hd2, cd, hw, q, a8, cm9, cm11, hE, hel]

def lb_law_due_0 : DS → R Fl := (fIfS (fOrT (fTst (fBin (fVar 3) (fC (.int 7)) gGt)) (fOrT (fNotT (fTst (fCallP 1 (fCons (fVar 4) fNil) [] g_law_end_good))) (fAndT (fTst (fBin (fVar 3) (fC (.int 0)) gGt)) (fNotT (fTst (fBin (fSl (fBin (fBin (fVar 2) (fC (.int 3)) gIx) (fBin (fVar 3) (fC (.int 1)) gSub) gIx) fNoO (fO (fC (.int 2)))) (fSl (fVar 4) fNoO (fO (fC (.int 2)))) (gCmpD fun x y => PySem.W.dataLt (toP x) (toP y)))))))) (fRet (fTup (fCons (fC .non) (fCons (fBin (fC (.int 36)) (fBin (fC (.int 7)) (fVar 3) gMul) gAdd) fNil)))) fNx)
def lb_law_due_1 : DS → R Fl := (fIfS (fTst (fBin (fSl (fVar 5) (fO (fVar 7)) (fO (fBin (fVar 7) (fC (.int 1)) gAdd))) (fSl (fVar 6) (fO (fVar 7)) (fO (fBin (fVar 7) (fC (.int 1)) gAdd))) gNe)) (fRet (fTup (fCons (fC .non) (fCons (fVar 7) fNil)))) fNx)
def b_law_due : DS → R Fl :=
  (fSeq (fIfS (fTst (fBin (fCall (fCons (fVar 0) fNil) gLen) (fC (.int 18)) gNe)) (fRet (fTup (fCons (fC .non) (fCons (fCall (fCons (fC (.int 18)) (fCons (fCall (fCons (fVar 0) fNil) gLen) fNil)) gMin) fNil)))) fNx)
    (fSeq (fAsg (fCallP 2 (fCons (fVar 0) (fCons (fVar 1) fNil)) [] g_law_told_plan) (.one 2))
    (fSeq (fIfS (fTst (fBin (fBin (fVar 2) (fC (.int 2)) gIx) (fC (.int 4)) gGt)) (fRet (fTup (fCons (fC .non) (fCons (fC (.int 14)) fNil)))) fNx)
    (fSeq (fFor (fWET (fCons (fBin (fVar 2) (fC (.int 3)) gIx) fNil)) (.many [3, 4]) lb_law_due_0)
    (fSeq (fAsg (fBin (fVar 0) (fVar 1) gAdd) (.one 5))
    (fSeq (fAsg (fBin (fCallP 1 (fCons (fVar 2) fNil) [] g_law_device) (fCallP 1 (fCons (fVar 2) fNil) [] g_law_settings) gAdd) (.one 6))
    (fSeq (fFor (fWR1 (fCons (fCall (fCons (fCall (fCons (fVar 5) fNil) gLen) (fCons (fCall (fCons (fVar 6) fNil) gLen) fNil)) gMax) fNil)) (.one 7) lb_law_due_1)
    (fRet (fTup (fCons (fVar 2) (fCons (fBin (fC (.int 0)) (fC (.int 1)) gSub) fNil)))))))))))
def g_law_due : GP := pureF (runF 8 b_law_due)
theorem eq_law_due : ∀ args, args.length = 2 → g_law_due args ≠ .bad → pureF (runF 8 b_law_due) args = g_law_due args := fun _ _ _ => rfl

theorem cmp2l (x y : En) (s : DS) : gCmpD (fun x y => PySem.W.dataLt (toP x) (toP y)) (.tup [.int x.n, .str (x.w : Str)]) (.tup [.int y.n, .str (y.w : Str)]) s = .ok (.bl (lt2 x y)) s := by
  unfold gCmpD
  rw [if_pos ⟨by simp [okD, okL], by simp [okD, okL], by simp [toP, toPL, PySem.W.alike, PySem.W.alikeAll], rfl⟩]
  rfl
/-- the law's look at one end -/
theorem ld_step (es : List En) (hkw : ∀ x ∈ es, kwE x) (hl : es.length ≤ 100) (i : Nat) (x : En) (hx : es[i]? = some x) (P Q : Option D) (a b c : D) (x1 x2 : Option D) :
    (¬ badAt es i → fStep (.many [3, 4]) lb_law_due_0 (.tup [.int i, encE x]) ⟨[P, Q, some (.tup [a, b, c, .tup (es.map encE)]), x1, x2, none, none, none], []⟩ = .ok .nx ⟨[P, Q, some (.tup [a, b, c, .tup (es.map encE)]), some (.int i), some (encE x), none, none, none], []⟩) ∧
    (badAt es i → fStep (.many [3, 4]) lb_law_due_0 (.tup [.int i, encE x]) ⟨[P, Q, some (.tup [a, b, c, .tup (es.map encE)]), x1, x2, none, none, none], []⟩ = .ok (.rt (.tup [.non, .int (36 + 7 * (i : Int))])) ⟨[P, Q, some (.tup [a, b, c, .tup (es.map encE)]), some (.int i), some (encE x), none, none, none], []⟩) := by
  have hg := law_end_good_eq x (hkw x (List.mem_of_getElem? hx))
  have cm : CMul 7 (i : Int) := .inl ⟨by decide, by decide⟩
  have hcl := encE_cl 0 x
  have hi : i < es.length := (List.getElem?_eq_some_iff.mp hx).1
  have hE : encE x = .tup [.int x.n, .str (x.w : Str), .str (x.k : Str), .int x.s, .int x.e] := rfl
  have hprev : ∀ j y, i = j + 1 → es[j]? = some y → L2.atI (es.map encE) ((i : Int) - 1) = some (encE y) := fun j y e ey => by
    have : ((i : Int) - 1) = ((j : Nat) : Int) := by omega
    rw [this]
    exact atI_nat (by rw [List.getElem?_map, ey]; rfl)
  by_cases h8 : 8 ≤ i
  · have h8' : (7 : Int) < (i : Int) := by omega
    generalize es.map encE = L at *
    generalize encE x = X at *
    exact ⟨fun h => (h (.inl h8)).elim, fun _ => by simp -dsimp -implicitDefEqProofs [pureF, runF, fVar, fC, fBin, gI, gI0, gAdd, gSub, gMul, gDiv, gMod, gPow, gAnd, gOr, gXor, gShl, gShr, gLt, gLe, gGt, gGe, fTst, asB, fChain, fNotT, fAndT, fOrT, fNotV, fAndV, fOrV, fIf, fIsN, isNon, fIfS, fSeq, fNx, fCt, fRet, fRetN, fDrop, fAsg, Tg.run, setAll, fCall, fCons, fNil, fTup, fLst, fNew, fMt, isLst, lstV, seqV, objL, gAppend, gExtend, gIx, fSl, gSl, fO, fNoO, fRev, fWR1, fWR2, fWL, wkSeq, fWT, wkTup, allw, fFor, fCallP, fCallS, clL, clD, clK, fVarZ, frzG, fRaise, fSetIx, fPar, gSetL, fAug, gLen, gList, gListN, gTuple, gInt, gIsi, tyOf, isTy, sizeLine, CPow, gIAdd, gAddN, wkEnumL, wkEnumT, fWEL, fWET, fNeg, fCallK, gSumT, gSumL, lsV, fWR3, fCallNP, fStep, lb_law_due_0, cm, h8']⟩
  · have h8' : ¬ (7 : Int) < (i : Int) := by omega
    by_cases hgx : goodE x
    · rw [dcd_pos hgx] at hg
      cases i with
      | zero =>
        have nb : ¬ badAt es 0 := fun z => by
          rcases z with z | ⟨y, ey, hy⟩ | ⟨j, y, z, e, _⟩
          · omega
          · rw [hx] at ey; cases ey; exact hy hgx
          · omega
        generalize es.map encE = L at *
        generalize encE x = X at *
        exact ⟨fun _ => by simp -dsimp -implicitDefEqProofs [pureF, runF, fVar, fC, fBin, gI, gI0, gAdd, gSub, gMul, gDiv, gMod, gPow, gAnd, gOr, gXor, gShl, gShr, gLt, gLe, gGt, gGe, fTst, asB, fChain, fNotT, fAndT, fOrT, fNotV, fAndV, fOrV, fIf, fIsN, isNon, fIfS, fSeq, fNx, fCt, fRet, fRetN, fDrop, fAsg, Tg.run, setAll, fCall, fCons, fNil, fTup, fLst, fNew, fMt, isLst, lstV, seqV, objL, gAppend, gExtend, gIx, fSl, gSl, fO, fNoO, fRev, fWR1, fWR2, fWL, wkSeq, fWT, wkTup, allw, fFor, fCallP, fCallS, clL, clD, clK, fVarZ, frzG, fRaise, fSetIx, fPar, gSetL, fAug, gLen, gList, gListN, gTuple, gInt, gIsi, tyOf, isTy, sizeLine, CPow, gIAdd, gAddN, wkEnumL, wkEnumT, fWEL, fWET, fNeg, fCallK, gSumT, gSumL, lsV, fWR3, fCallNP, fStep, lb_law_due_0, cm, hg, hcl], fun h => (nb h).elim⟩
      | succ j =>
        have hj : j < es.length := by omega
        have ey : es[j]? = some es[j] := List.getElem?_eq_getElem hj
        have ha := hprev j _ rfl ey
        have hc := cmp2l es[j] x
        have hi0 : (0 : Int) < ((j + 1 : Nat) : Int) := by omega
        have hF : encE es[j] = .tup [.int es[j].n, .str (es[j].w : Str), .str (es[j].k : Str), .int es[j].s, .int es[j].e] := rfl
        cases hlt : lt2 es[j] x with
        | true =>
          have nb : ¬ badAt es (j + 1) := fun z => by
            rcases z with z | ⟨y, ey', hy⟩ | ⟨j', y, z, e, e1, e2, e3⟩
            · omega
            · rw [hx] at ey'; cases ey'; exact hy hgx
            · obtain rfl : j = j' := by omega
              rw [ey] at e1; cases e1
              rw [hx] at e2; cases e2
              rw [hlt] at e3; cases e3
          rw [hlt] at hc
          rw [hF] at ha
          rw [hE] at hg hcl ⊢
          generalize es[j] = Y at *
          generalize es.map encE = L at *
          clear hprev
          generalize ((j + 1 : Nat) : Int) = I at *
          exact ⟨fun _ => by simp -dsimp -implicitDefEqProofs [pureF, runF, fVar, fC, fBin, gI, gI0, gAdd, gSub, gMul, gDiv, gMod, gPow, gAnd, gOr, gXor, gShl, gShr, gLt, gLe, gGt, gGe, fTst, asB, fChain, fNotT, fAndT, fOrT, fNotV, fAndV, fOrV, fIf, fIsN, isNon, fIfS, fSeq, fNx, fCt, fRet, fRetN, fDrop, fAsg, Tg.run, setAll, fCall, fCons, fNil, fTup, fLst, fNew, fMt, isLst, lstV, seqV, objL, gAppend, gExtend, gIx, fSl, gSl, fO, fNoO, fRev, fWR1, fWR2, fWL, wkSeq, fWT, wkTup, allw, fFor, fCallP, fCallS, clL, clD, clK, fVarZ, frzG, fRaise, fSetIx, fPar, gSetL, fAug, gLen, gList, gListN, gTuple, gInt, gIsi, tyOf, isTy, sizeLine, CPow, gIAdd, gAddN, wkEnumL, wkEnumT, fWEL, fWET, fNeg, fCallK, gSumT, gSumL, lsV, fWR3, fCallNP, fStep, lb_law_due_0, cm, hg, hcl, h8', hi0, ha, cut2, hc], fun h => (nb h).elim⟩
        | false =>
          have nb : badAt es (j + 1) := .inr (.inr ⟨j, _, x, rfl, ey, hx, hlt⟩)
          rw [hlt] at hc
          rw [hF] at ha
          rw [hE] at hg hcl ⊢
          generalize es[j] = Y at *
          generalize es.map encE = L at *
          clear hprev
          generalize ((j + 1 : Nat) : Int) = I at *
          exact ⟨fun h => (h nb).elim, fun _ => by simp -dsimp -implicitDefEqProofs [pureF, runF, fVar, fC, fBin, gI, gI0, gAdd, gSub, gMul, gDiv, gMod, gPow, gAnd, gOr, gXor, gShl, gShr, gLt, gLe, gGt, gGe, fTst, asB, fChain, fNotT, fAndT, fOrT, fNotV, fAndV, fOrV, fIf, fIsN, isNon, fIfS, fSeq, fNx, fCt, fRet, fRetN, fDrop, fAsg, Tg.run, setAll, fCall, fCons, fNil, fTup, fLst, fNew, fMt, isLst, lstV, seqV, objL, gAppend, gExtend, gIx, fSl, gSl, fO, fNoO, fRev, fWR1, fWR2, fWL, wkSeq, fWT, wkTup, allw, fFor, fCallP, fCallS, clL, clD, clK, fVarZ, frzG, fRaise, fSetIx, fPar, gSetL, fAug, gLen, gList, gListN, gTuple, gInt, gIsi, tyOf, isTy, sizeLine, CPow, gIAdd, gAddN, wkEnumL, wkEnumT, fWEL, fWET, fNeg, fCallK, gSumT, gSumL, lsV, fWR3, fCallNP, fStep, lb_law_due_0, cm, hg, hcl, h8', hi0, ha, cut2, hc]⟩
    · rw [dcd_neg hgx] at hg
      have nb : badAt es i := .inr (.inl ⟨x, hx, hgx⟩)
      generalize es.map encE = L at *
      generalize encE x = X at *
      exact ⟨fun h => (h nb).elim, fun _ => by simp -dsimp -implicitDefEqProofs [pureF, runF, fVar, fC, fBin, gI, gI0, gAdd, gSub, gMul, gDiv, gMod, gPow, gAnd, gOr, gXor, gShl, gShr, gLt, gLe, gGt, gGe, fTst, asB, fChain, fNotT, fAndT, fOrT, fNotV, fAndV, fOrV, fIf, fIsN, isNon, fIfS, fSeq, fNx, fCt, fRet, fRetN, fDrop, fAsg, Tg.run, setAll, fCall, fCons, fNil, fTup, fLst, fNew, fMt, isLst, lstV, seqV, objL, gAppend, gExtend, gIx, fSl, gSl, fO, fNoO, fRev, fWR1, fWR2, fWL, wkSeq, fWT, wkTup, allw, fFor, fCallP, fCallS, clL, clD, clK, fVarZ, frzG, fRaise, fSetIx, fPar, gSetL, fAug, gLen, gList, gListN, gTuple, gInt, gIsi, tyOf, isTy, sizeLine, CPow, gIAdd, gAddN, wkEnumL, wkEnumT, fWEL, fWET, fNeg, fCallK, gSumT, gSumL, lsV, fWR3, fCallNP, fStep, lb_law_due_0, cm, hg, hcl, h8']⟩
theorem ld_ends (es : List En) (hkw : ∀ x ∈ es, kwE x) (hl : es.length ≤ 100) (P Q : Option D) (a b c : D) (x1 x2 : Option D) :
    ((∀ i, i < es.length → ¬ badAt es i) → ∃ y1 y2, loopL allw (fStep (.many [3, 4]) lb_law_due_0) (enumD (es.map encE)) ⟨[P, Q, some (.tup [a, b, c, .tup (es.map encE)]), x1, x2, none, none, none], []⟩ = .ok .nx ⟨[P, Q, some (.tup [a, b, c, .tup (es.map encE)]), y1, y2, none, none, none], []⟩) ∧
    (∀ i, i < es.length → badAt es i → (∀ j, j < i → ¬ badAt es j) → ∃ s', loopL allw (fStep (.many [3, 4]) lb_law_due_0) (enumD (es.map encE)) ⟨[P, Q, some (.tup [a, b, c, .tup (es.map encE)]), x1, x2, none, none, none], []⟩ = .ok (.rt (.tup [.non, .int (36 + 7 * (i : Int))])) s') := by
  have hlen : (enumD (es.map encE)).length = es.length := by simp
  refine ⟨fun h => ?_, fun i hi hb hj => ?_⟩
  · obtain ⟨s', l1, y1, y2, hs2⟩ := loop_inv (P := allw) (step := fStep (.many [3, 4]) lb_law_due_0) (fun _ s => ∃ x1 x2, s = ⟨[P, Q, some (.tup [a, b, c, .tup (es.map encE)]), x1, x2, none, none, none], []⟩) (enumD (es.map encE)) (fun _ _ _ => rfl)
      (fun i d s e ⟨x1, x2, hs⟩ => by
        subst hs
        have hi : i < es.length := by rw [← hlen]; exact (List.getElem?_eq_some_iff.mp e).1
        have ex := List.getElem?_eq_getElem hi
        rw [enum_at es i _ ex] at e
        cases e
        exact ⟨_, .inl ((ld_step es hkw hl i _ ex P Q a b c x1 x2).1 (h i hi)), _, _, rfl⟩)
      (s := ⟨[P, Q, some (.tup [a, b, c, .tup (es.map encE)]), x1, x2, none, none, none], []⟩) ⟨x1, x2, rfl⟩
    subst hs2
    exact ⟨y1, y2, l1⟩
  · obtain ⟨s', ⟨y1, y2, hs⟩, l2⟩ := loop_to (P := allw) (step := fStep (.many [3, 4]) lb_law_due_0) (fun _ s => ∃ x1 x2, s = ⟨[P, Q, some (.tup [a, b, c, .tup (es.map encE)]), x1, x2, none, none, none], []⟩) (enumD (es.map encE)) (fun _ _ _ => rfl) i (by omega)
      (fun k d s hk e ⟨x1, x2, hs⟩ => by
        subst hs
        have hi : k < es.length := by omega
        have ex := List.getElem?_eq_getElem hi
        rw [enum_at es k _ ex] at e
        cases e
        rw [(ld_step es hkw hl k _ ex P Q a b c x1 x2).1 (hj k hk)]
        exact ⟨.inl rfl, _, _, rfl⟩)
      (s := ⟨[P, Q, some (.tup [a, b, c, .tup (es.map encE)]), x1, x2, none, none, none], []⟩) ⟨x1, x2, rfl⟩
    subst hs
    have ex := List.getElem?_eq_getElem hi
    have e1 := enum_at es i _ ex
    have hi2 : i < (enumD (es.map encE)).length := by omega
    rw [List.drop_eq_getElem_cons hi2] at l2
    rw [List.getElem?_eq_getElem hi2] at e1
    have e2 := Option.some.inj e1
    rw [e2] at l2
    rw [l2]
    unfold loopL
    rw [if_pos (show allw _ = true from rfl), (ld_step es hkw hl i _ ex P Q a b c y1 y2).2 hb]
    exact ⟨_, rfl⟩
theorem cut1 (xs : List Int) (i : Nat) : cutG (xs.map D.int) (some (i : Int)) (some ((i : Int) + 1)) = xs[i]?.toList.map .int := by
  have e : ((i : Int) + 1) = ((i + 1 : Nat) : Int) := by omega
  have hl : (xs.map D.int).length = xs.length := List.length_map ..
  unfold cutG
  rw [e, HT.sIx_nat, HT.sIx_nat, hl, ← List.map_drop, ← List.map_take]
  congr 1
  by_cases h : i < xs.length
  · rw [show min i xs.length = i by omega, show min (i + 1) xs.length = i + 1 by omega, show i + 1 - i = 1 by omega, List.drop_eq_getElem_cons h, List.getElem?_eq_getElem h]
    rfl
  · rw [show min i xs.length = xs.length by omega, List.drop_length, List.getElem?_eq_none (by omega)]
    simp
theorem ne1 (a b : Option Int) (s : DS) : gNe (.tup (a.toList.map .int)) (.tup (b.toList.map .int)) s = .ok (.bl (!dcd (a = b))) s := by
  have ok : ∀ c : Option Int, okD 64 (.tup (c.toList.map .int)) = true := fun c => by cases c <;> simp [okD, okL]
  rw [gNe_ok (ok a) (ok b)]
  congr 3
  cases a with
  | none =>
    cases b with
    | none => rw [dcd_pos rfl]; exact eqD_refl 64 _ (ok none)
    | some y => rw [dcd_neg (by simp)]; rfl
  | some x =>
    cases b with
    | none => rw [dcd_neg (by simp)]; rfl
    | some y =>
      by_cases e : x = y
      · subst e; rw [dcd_pos rfl]; exact eqD_refl 64 _ (ok (some x))
      · rw [dcd_neg (by simpa using e)]
        simp [eqD, eqL, e]
theorem du_step (xs ys : List Int) (i : Nat) (A B P x3 x4 x7 : Option D) :
    (xs[i]? = ys[i]? → fStep (.one 7) lb_law_due_1 (.int (i : Int)) ⟨[A, B, P, x3, x4, some (.tup (xs.map .int)), some (.tup (ys.map .int)), x7], []⟩ = .ok .nx ⟨[A, B, P, x3, x4, some (.tup (xs.map .int)), some (.tup (ys.map .int)), some (.int (i : Int))], []⟩) ∧
    (xs[i]? ≠ ys[i]? → fStep (.one 7) lb_law_due_1 (.int (i : Int)) ⟨[A, B, P, x3, x4, some (.tup (xs.map .int)), some (.tup (ys.map .int)), x7], []⟩ = .ok (.rt (.tup [.non, .int (i : Int)])) ⟨[A, B, P, x3, x4, some (.tup (xs.map .int)), some (.tup (ys.map .int)), some (.int (i : Int))], []⟩) := by
  have c1 := cut1 xs i
  have c2 := cut1 ys i
  have n1 := fun s => ne1 xs[i]? ys[i]? s
  constructor
  · intro h
    rw [dcd_pos h] at n1
    generalize xs[i]?.toList.map D.int = X at *
    generalize ys[i]?.toList.map D.int = Y at *
    generalize xs.map D.int = M at *
    generalize ys.map D.int = M2 at *
    clear h
    simp -dsimp -implicitDefEqProofs [pureF, runF, fVar, fC, fBin, gI, gI0, gAdd, gSub, gMul, gDiv, gMod, gPow, gAnd, gOr, gXor, gShl, gShr, gLt, gLe, gGt, gGe, fTst, asB, fChain, fNotT, fAndT, fOrT, fNotV, fAndV, fOrV, fIf, fIsN, isNon, fIfS, fSeq, fNx, fCt, fRet, fRetN, fDrop, fAsg, Tg.run, setAll, fCall, fCons, fNil, fTup, fLst, fNew, fMt, isLst, lstV, seqV, objL, gAppend, gExtend, gIx, fSl, gSl, fO, fNoO, fRev, fWR1, fWR2, fWL, wkSeq, fWT, wkTup, allw, fFor, fCallP, fCallS, clL, clD, clK, fVarZ, frzG, fRaise, fSetIx, fPar, gSetL, fAug, gLen, gList, gListN, gTuple, gInt, gIsi, tyOf, isTy, sizeLine, CPow, gIAdd, gAddN, wkEnumL, wkEnumT, fWEL, fWET, fNeg, fCallK, gSumT, gSumL, lsV, fWR3, fCallNP, fStep, lb_law_due_1, c1, c2, n1]
  · intro h
    rw [dcd_neg h] at n1
    generalize xs[i]?.toList.map D.int = X at *
    generalize ys[i]?.toList.map D.int = Y at *
    generalize xs.map D.int = M at *
    generalize ys.map D.int = M2 at *
    clear h
    simp -dsimp -implicitDefEqProofs [pureF, runF, fVar, fC, fBin, gI, gI0, gAdd, gSub, gMul, gDiv, gMod, gPow, gAnd, gOr, gXor, gShl, gShr, gLt, gLe, gGt, gGe, fTst, asB, fChain, fNotT, fAndT, fOrT, fNotV, fAndV, fOrV, fIf, fIsN, isNon, fIfS, fSeq, fNx, fCt, fRet, fRetN, fDrop, fAsg, Tg.run, setAll, fCall, fCons, fNil, fTup, fLst, fNew, fMt, isLst, lstV, seqV, objL, gAppend, gExtend, gIx, fSl, gSl, fO, fNoO, fRev, fWR1, fWR2, fWL, wkSeq, fWT, wkTup, allw, fFor, fCallP, fCallS, clL, clD, clK, fVarZ, frzG, fRaise, fSetIx, fPar, gSetL, fAug, gLen, gList, gListN, gTuple, gInt, gIsi, tyOf, isTy, sizeLine, CPow, gIAdd, gAddN, wkEnumL, wkEnumT, fWEL, fWET, fNeg, fCallK, gSumT, gSumL, lsV, fWR3, fCallNP, fStep, lb_law_due_1, c1, c2, n1]
theorem du_loop (xs ys : List Int) (A B P x3 x4 : Option D) (u : Int) (h : Unl xs ys u) :
    (u = -1 → ∃ s', loopL allw (fStep (.one 7) lb_law_due_1) (rngD 0 (max xs.length ys.length)) ⟨[A, B, P, x3, x4, some (.tup (xs.map .int)), some (.tup (ys.map .int)), none], []⟩ = .ok .nx ⟨[A, B, P, x3, x4, some (.tup (xs.map .int)), some (.tup (ys.map .int)), s'], []⟩) ∧
    (u ≠ -1 → ∃ s', loopL allw (fStep (.one 7) lb_law_due_1) (rngD 0 (max xs.length ys.length)) ⟨[A, B, P, x3, x4, some (.tup (xs.map .int)), some (.tup (ys.map .int)), none], []⟩ = .ok (.rt (.tup [.non, .int u])) s') := by
  have go : ∀ k : Nat, k ≤ max xs.length ys.length → (∀ j, j < k → xs[j]? = ys[j]?) → ∃ s', (∃ x7, s' = ⟨[A, B, P, x3, x4, some (.tup (xs.map .int)), some (.tup (ys.map .int)), x7], []⟩) ∧ loopL allw (fStep (.one 7) lb_law_due_1) (rngD 0 (max xs.length ys.length)) ⟨[A, B, P, x3, x4, some (.tup (xs.map .int)), some (.tup (ys.map .int)), none], []⟩ = loopL allw (fStep (.one 7) lb_law_due_1) ((rngD 0 (max xs.length ys.length)).drop k) s' := fun k hk hj =>
    loop_to (P := allw) (step := fStep (.one 7) lb_law_due_1) (fun _ s => ∃ x7, s = ⟨[A, B, P, x3, x4, some (.tup (xs.map .int)), some (.tup (ys.map .int)), x7], []⟩) (rngD 0 (max xs.length ys.length)) (fun _ _ _ => rfl) k (by rw [rng_len]; omega)
      (fun i d s hi e ⟨x7, hs⟩ => by
        subst hs
        obtain ⟨_, rfl⟩ := rng0_get e
        rw [(du_step xs ys i A B P x3 x4 x7).1 (hj i hi)]
        exact ⟨.inl rfl, _, rfl⟩)
      (s := ⟨[A, B, P, x3, x4, some (.tup (xs.map .int)), some (.tup (ys.map .int)), none], []⟩) ⟨none, rfl⟩
  rcases h with ⟨rfl, rfl⟩ | ⟨i, h1, h2, rfl⟩
  · refine ⟨fun _ => ?_, fun z => absurd rfl z⟩
    obtain ⟨s', ⟨x7, rfl⟩, l1⟩ := go _ (Nat.le_refl _) fun _ _ => rfl
    rw [List.drop_of_length_le (by rw [rng_len]; omega)] at l1
    exact ⟨x7, l1⟩
  · refine ⟨fun z => by omega, fun _ => ?_⟩
    have hi : i < max xs.length ys.length := Classical.byContradiction fun z => h1 (by rw [List.getElem?_eq_none (by omega), List.getElem?_eq_none (by omega)])
    obtain ⟨s', ⟨x7, rfl⟩, l1⟩ := go i (by omega) h2
    have hz : i < (rngD 0 (max xs.length ys.length)).length := by rw [rng_len]; exact hi
    rw [List.drop_eq_getElem_cons hz] at l1
    obtain ⟨_, e1⟩ := rng0_get (List.getElem?_eq_getElem hz)
    rw [e1] at l1
    refine ⟨⟨[A, B, P, x3, x4, some (.tup (xs.map .int)), some (.tup (ys.map .int)), some (.int (i : Int))], []⟩, ?_⟩
    rw [l1]
    unfold loopL
    rw [if_pos (show allw _ = true from rfl), (du_step xs ys i A B P x3 x4 x7).2 h1]
theorem told_kw (A B : List Int) : ∀ x ∈ (toldP A B).es, kwE x := by
  intro x hx
  obtain ⟨i, _, rfl⟩ := List.mem_map.mp hx
  refine ⟨?_, ?_⟩
  · show (if _ then "in" else "out" : String) = _ ∨ (if _ then "in" else "out" : String) = _
    split
    · exact .inl rfl
    · exact .inr rfl
  · show (if _ then "timed" else "bulk" : String) = _ ∨ (if _ then "timed" else "bulk" : String) = _
    split
    · exact .inr rfl
    · exact .inl rfl
def dueR (A B : List Int) : Option Int → D
  | none => .tup [encP (toldP A B), .int (-1)]
  | some k => .tup [.non, .int k]
theorem law_due_eq (A B : List Int) (hA : ∀ x ∈ A, byt x) (hB : ∀ x ∈ B, byt x) (hl : B.length ≤ 200) (hlA : A.length ≤ 200) (r : Option Int) (h : Rdg A B r) : g_law_due [.tup (A.map .int), .tup (B.map .int)] = .ok (dueR A B r) ⟨[], []⟩ := by
  have hla : (A.map D.int).length = A.length := List.length_map ..
  have hlb : (B.map D.int).length = B.length := List.length_map ..
  rcases h with ⟨h18, rfl⟩ | ⟨h18, h⟩
  · have q : dcd ((A.length : Int) = 18) = false := dcd_neg (by omega)
    simp only [dueR]
    by_cases hc : (A.length : Int) < 18
    · rw [show min 18 (A.length : Int) = (A.length : Int) by omega]
      clear h18
      generalize A.map D.int = DV at *
      generalize B.map D.int = SV at *
      generalize A.length = N at *
      simp -dsimp -implicitDefEqProofs [pureF, runF, fVar, fC, fBin, gI, gI0, gAdd, gSub, gMul, gDiv, gMod, gPow, gAnd, gOr, gXor, gShl, gShr, gLt, gLe, gGt, gGe, fTst, asB, fChain, fNotT, fAndT, fOrT, fNotV, fAndV, fOrV, fIf, fIsN, isNon, fIfS, fSeq, fNx, fCt, fRet, fRetN, fDrop, fAsg, Tg.run, setAll, fCall, fCons, fNil, fTup, fLst, fNew, fMt, isLst, lstV, seqV, objL, gAppend, gExtend, gIx, fSl, gSl, fO, fNoO, fRev, fWR1, fWR2, fWL, wkSeq, fWT, wkTup, allw, fFor, fCallP, fCallS, clL, clD, clK, fVarZ, frzG, fRaise, fSetIx, fPar, gSetL, fAug, gLen, gList, gListN, gTuple, gInt, gIsi, tyOf, isTy, sizeLine, CPow, gIAdd, gAddN, wkEnumL, wkEnumT, fWEL, fWET, fNeg, fCallK, gSumT, gSumL, lsV, fWR3, fCallNP, g_law_due, b_law_due, hla, q, gMin, hc]
    · rw [show min 18 (A.length : Int) = 18 by omega]
      clear h18
      generalize A.map D.int = DV at *
      generalize B.map D.int = SV at *
      generalize A.length = N at *
      simp -dsimp -implicitDefEqProofs [pureF, runF, fVar, fC, fBin, gI, gI0, gAdd, gSub, gMul, gDiv, gMod, gPow, gAnd, gOr, gXor, gShl, gShr, gLt, gLe, gGt, gGe, fTst, asB, fChain, fNotT, fAndT, fOrT, fNotV, fAndV, fOrV, fIf, fIsN, isNon, fIfS, fSeq, fNx, fCt, fRet, fRetN, fDrop, fAsg, Tg.run, setAll, fCall, fCons, fNil, fTup, fLst, fNew, fMt, isLst, lstV, seqV, objL, gAppend, gExtend, gIx, fSl, gSl, fO, fNoO, fRev, fWR1, fWR2, fWL, wkSeq, fWT, wkTup, allw, fFor, fCallP, fCallS, clL, clD, clK, fVarZ, frzG, fRaise, fSetIx, fPar, gSetL, fAug, gLen, gList, gListN, gTuple, gInt, gIsi, tyOf, isTy, sizeLine, CPow, gIAdd, gAddN, wkEnumL, wkEnumT, fWEL, fWET, fNeg, fCallK, gSumT, gSumL, lsV, fWR3, fCallNP, g_law_due, b_law_due, hla, q, gMin, hc]
  · have t := law_told_eq A B hB (by omega) h18
    obtain ⟨ha, hb, hc⟩ := toldP_ab A B hA
    have hel : (toldP A B).es.length ≤ 100 := by rw [toldP_len]; omega
    have hkw := told_kw A B
    have hcl := fun n => encP_cl n (toldP A B)
    have hclE := fun n => encL_cl n (toldP A B).es
    have c1 := clL_ints 0 A
    have c2 := clL_ints 0 B
    rw [h18] at hla
    have at0 : ∀ a b c d : D, L2.atI [a, b, c, d] 2 = some c ∧ L2.atI [a, b, c, d] 3 = some d := fun a b c d => ⟨rfl, rfl⟩
    have ends := fun x1 x2 => ld_ends (toldP A B).es hkw hel (some (.tup (A.map .int))) (some (.tup (B.map .int))) (.int (toldP A B).a) (.int (toldP A B).b) (.int (toldP A B).c) x1 x2
    rcases h with ⟨k, hf, rfl⟩ | ⟨hf, u, hu, rfl⟩
    · rcases hf with ⟨z, _⟩ | ⟨_, z, _⟩ | ⟨_, _, z, e⟩ | ⟨⟨_, _, hz⟩, ⟨_, z⟩ | ⟨i, hi, hbad, hj, e⟩⟩
      · exact absurd ha z
      · exact absurd hb z
      · cases e
        have h4 : 4 < (toldP A B).c := by omega
        simp only [dueR, show atB 2 = 14 from rfl]
        unfold encP at *
        generalize (toldP A B).es.map encE = ES at *
        generalize A.map D.int = DV at *
        generalize B.map D.int = SV at *
        clear ends
        simp -dsimp -implicitDefEqProofs [pureF, runF, fVar, fC, fBin, gI, gI0, gAdd, gSub, gMul, gDiv, gMod, gPow, gAnd, gOr, gXor, gShl, gShr, gLt, gLe, gGt, gGe, fTst, asB, fChain, fNotT, fAndT, fOrT, fNotV, fAndV, fOrV, fIf, fIsN, isNon, fIfS, fSeq, fNx, fCt, fRet, fRetN, fDrop, fAsg, Tg.run, setAll, fCall, fCons, fNil, fTup, fLst, fNew, fMt, isLst, lstV, seqV, objL, gAppend, gExtend, gIx, fSl, gSl, fO, fNoO, fRev, fWR1, fWR2, fWL, wkSeq, fWT, wkTup, allw, fFor, fCallP, fCallS, clL, clD, clK, fVarZ, frzG, fRaise, fSetIx, fPar, gSetL, fAug, gLen, gList, gListN, gTuple, gInt, gIsi, tyOf, isTy, sizeLine, CPow, gIAdd, gAddN, wkEnumL, wkEnumT, fWEL, fWET, fNeg, fCallK, gSumT, gSumL, lsV, fWR3, fCallNP, g_law_due, b_law_due, hla, t, c1, c2, at0, h4]
      · cases z
      · cases e
        obtain ⟨s', l1⟩ := (ends none none).2 i hi hbad hj
        have h4 : ¬ 4 < (toldP A B).c := by omega
        have ea : atB (3 + (i : Int)) = 36 + 7 * (i : Int) := by unfold atB; rw [if_neg (by omega)]; omega
        simp only [dueR, ea]
        unfold encP at *
        generalize (toldP A B).es.map encE = ES at *
        generalize A.map D.int = DV at *
        generalize B.map D.int = SV at *
        clear ends
        simp -dsimp -implicitDefEqProofs [pureF, runF, fVar, fC, fBin, gI, gI0, gAdd, gSub, gMul, gDiv, gMod, gPow, gAnd, gOr, gXor, gShl, gShr, gLt, gLe, gGt, gGe, fTst, asB, fChain, fNotT, fAndT, fOrT, fNotV, fAndV, fOrV, fIf, fIsN, isNon, fIfS, fSeq, fNx, fCt, fRet, fRetN, fDrop, fAsg, Tg.run, setAll, fCall, fCons, fNil, fTup, fLst, fNew, fMt, isLst, lstV, seqV, objL, gAppend, gExtend, gIx, fSl, gSl, fO, fNoO, fRev, fWR1, fWR2, fWL, wkSeq, fWT, wkTup, allw, fFor, fCallP, fCallS, clL, clD, clK, fVarZ, frzG, fRaise, fSetIx, fPar, gSetL, fAug, gLen, gList, gListN, gTuple, gInt, gIsi, tyOf, isTy, sizeLine, CPow, gIAdd, gAddN, wkEnumL, wkEnumT, fWEL, fWET, fNeg, fCallK, gSumT, gSumL, lsV, fWR3, fCallNP, g_law_due, b_law_due, hla, t, c1, c2, at0, h4, l1]
    · have hg := fault_none hf
      have hnb : ∀ i, i < (toldP A B).es.length → ¬ badAt (toldP A B).es i := by
        rcases hf with ⟨_, z⟩ | ⟨_, _, z⟩ | ⟨_, _, _, z⟩ | ⟨_, ⟨h, _⟩ | ⟨i, _, _, _, z⟩⟩
        · cases z
        · cases z
        · cases z
        · exact h
        · cases z
      have hz : (toldP A B).c ≤ 4 := by
        rcases hf with ⟨_, z⟩ | ⟨_, _, z⟩ | ⟨_, _, _, z⟩ | ⟨⟨_, _, h⟩, _⟩
        · cases z
        · cases z
        · cases z
        · exact h.2
      obtain ⟨y1, y2, l1⟩ := (ends none none).1 hnb
      have h4 : ¬ 4 < (toldP A B).c := by omega
      have d := law_device_eq (toldP A B)
      have s := law_settings_eq (toldP A B) hel hg
      have dl : (devL (toldP A B)).length = 18 := rfl
      have lu : (A ++ B).length ≤ 300 := by rw [List.length_append]; omega
      have lv : (devL (toldP A B) ++ setL (toldP A B).es).length ≤ 300 := by rw [List.length_append, setL_len, dl, toldP_len]; omega
      have ul := du_loop (A ++ B) (devL (toldP A B) ++ setL (toldP A B).es) (some (.tup (A.map .int))) (some (.tup (B.map .int))) (some (encP (toldP A B))) y1 y2 u hu
      have hx1 : (((A.map D.int ++ B.map D.int).length : Nat) : Int) = ((A ++ B).length : Nat) := by simp
      have hx2 : ((((devL (toldP A B)).map D.int ++ (setL (toldP A B).es).map D.int).length : Nat) : Int) = ((devL (toldP A B) ++ setL (toldP A B).es).length : Nat) := by simp
      have hmx : ∀ s, gMax [.int (((A.map D.int ++ B.map D.int).length : Nat) : Int), .int ((((devL (toldP A B)).map D.int ++ (setL (toldP A B).es).map D.int).length : Nat) : Int)] s = .ok (.int ((max (A ++ B).length (devL (toldP A B) ++ setL (toldP A B).es).length : Nat) : Int)) s := fun s => by
        rw [hx1, hx2]
        simp only [gMax]
        by_cases hq : (((A ++ B).length : Nat) : Int) < ((devL (toldP A B) ++ setL (toldP A B).es).length : Nat)
        · rw [if_Pr hq, show max (A ++ B).length (devL (toldP A B) ++ setL (toldP A B).es).length = (devL (toldP A B) ++ setL (toldP A B).es).length by omega]
        · rw [if_neg (show ¬ Pr _ from hq), show max (A ++ B).length (devL (toldP A B) ++ setL (toldP A B).es).length = (A ++ B).length by omega]
      have hw := fun s => wkR1_int (max (A ++ B).length (devL (toldP A B) ++ setL (toldP A B).es).length : Nat) s (by omega) (by omega)
      simp only [Int.toNat_natCast] at hw
      rw [List.map_append, List.map_append] at ul
      have l2 : 18 + ((setL (toldP A B).es).map D.int).length ≤ 16777216 := by rw [List.length_map, setL_len]; omega
      have l4 : 18 + (B.map D.int).length ≤ 16777216 := by omega
      have l3 : ((devL (toldP A B)).map D.int).length = 18 := rfl
      clear hx1 hx2 lu lv hnb hg hf hu ends hkw
      generalize max (A ++ B).length (devL (toldP A B) ++ setL (toldP A B).es).length = MX at *
      simp only [List.length_append] at hmx
      generalize (devL (toldP A B)).map D.int = DV' at *
      generalize (setL (toldP A B).es).map D.int = SV' at *
      rw [hla, l3] at hmx
      rw [show ((18 + (B.map D.int).length : Nat) : Int) = 18 + ((B.map D.int).length : Int) by omega, show ((18 + SV'.length : Nat) : Int) = 18 + (SV'.length : Int) by omega] at hmx
      by_cases hu1 : u = -1
      · obtain ⟨s7, l5⟩ := ul.1 hu1
        simp only [hu1, if_true, dueR]
        unfold encP at *
        generalize (toldP A B).es.map encE = ES at *
        generalize A.map D.int = DV at *
        generalize B.map D.int = SV at *
        simp -dsimp -implicitDefEqProofs [pureF, runF, fVar, fC, fBin, gI, gI0, gAdd, gSub, gMul, gDiv, gMod, gPow, gAnd, gOr, gXor, gShl, gShr, gLt, gLe, gGt, gGe, fTst, asB, fChain, fNotT, fAndT, fOrT, fNotV, fAndV, fOrV, fIf, fIsN, isNon, fIfS, fSeq, fNx, fCt, fRet, fRetN, fDrop, fAsg, Tg.run, setAll, fCall, fCons, fNil, fTup, fLst, fNew, fMt, isLst, lstV, seqV, objL, gAppend, gExtend, gIx, fSl, gSl, fO, fNoO, fRev, fWR1, fWR2, fWL, wkSeq, fWT, wkTup, allw, fFor, fCallP, fCallS, clL, clD, clK, fVarZ, frzG, fRaise, fSetIx, fPar, gSetL, fAug, gLen, gList, gListN, gTuple, gInt, gIsi, tyOf, isTy, sizeLine, CPow, gIAdd, gAddN, wkEnumL, wkEnumT, fWEL, fWET, fNeg, fCallK, gSumT, gSumL, lsV, fWR3, fCallNP, g_law_due, b_law_due, hla, t, c1, c2, at0, h4, l1, d, s, hclE, l2, l3, l4, hmx, hw, l5]
      · obtain ⟨s7, l5⟩ := ul.2 hu1
        simp only [hu1, if_false, dueR]
        unfold encP at *
        generalize (toldP A B).es.map encE = ES at *
        generalize A.map D.int = DV at *
        generalize B.map D.int = SV at *
        simp -dsimp -implicitDefEqProofs [pureF, runF, fVar, fC, fBin, gI, gI0, gAdd, gSub, gMul, gDiv, gMod, gPow, gAnd, gOr, gXor, gShl, gShr, gLt, gLe, gGt, gGe, fTst, asB, fChain, fNotT, fAndT, fOrT, fNotV, fAndV, fOrV, fIf, fIsN, isNon, fIfS, fSeq, fNx, fCt, fRet, fRetN, fDrop, fAsg, Tg.run, setAll, fCall, fCons, fNil, fTup, fLst, fNew, fMt, isLst, lstV, seqV, objL, gAppend, gExtend, gIx, fSl, gSl, fO, fNoO, fRev, fWR1, fWR2, fWL, wkSeq, fWT, wkTup, allw, fFor, fCallP, fCallS, clL, clD, clK, fVarZ, frzG, fRaise, fSetIx, fPar, gSetL, fAug, gLen, gList, gListN, gTuple, gInt, gIsi, tyOf, isTy, sizeLine, CPow, gIAdd, gAddN, wkEnumL, wkEnumT, fWEL, fWET, fNeg, fCallK, gSumT, gSumL, lsV, fWR3, fCallNP, g_law_due, b_law_due, hla, t, c1, c2, at0, h4, l1, d, s, hclE, l2, l3, l4, hmx, hw, l5]

def b_law_bent : DS → R Fl :=
  (fSeq (fAsg (fCallS 2 (fCons (fVar 0) (fCons (fBin (fCall (fCons (fVar 1) fNil) gLen) (fC (.int 1)) gAdd) fNil)) [] g_law_pull) (.one 2))
    (fSeq (fAsg (fBin (fLst (fCons (fCallS 2 (fCons (fVar 0) (fCons (fC (.int 256)) fNil)) [] g_law_pull) (fCons (fC (.int 0)) (fCons (fC (.int 7)) (fCons (fC (.int 3)) (fCons (fC (.int 255)) fNil)))))) (fCallS 2 (fCons (fVar 0) (fCons (fC (.int 5)) fNil)) [] g_law_pull) gIx) (.one 3))
    (fSeq (fAsg (fCallS 2 (fCons (fVar 0) (fCons (fC (.int 5)) fNil)) [] g_law_pull) (.one 4))
    (fSeq (fIfS (fTst (fBin (fVar 4) (fC (.int 0)) gEq)) (fRet (fBin (fBin (fSl (fVar 1) fNoO (fO (fVar 2))) (fTup (fCons (fVar 3) fNil)) gAdd) (fSl (fVar 1) (fO (fVar 2)) fNoO) gAdd)) fNx)
    (fSeq (fIfS (fTst (fBin (fVar 4) (fC (.int 1)) gEq)) (fRet (fBin (fSl (fVar 1) fNoO (fO (fVar 2))) (fSl (fVar 1) (fO (fBin (fVar 2) (fC (.int 1)) gAdd)) fNoO) gAdd)) fNx)
    (fRet (fBin (fBin (fSl (fVar 1) fNoO (fO (fVar 2))) (fTup (fCons (fVar 3) fNil)) gAdd) (fSl (fVar 1) (fO (fBin (fVar 2) (fC (.int 1)) gAdd)) fNoO) gAdd)))))))
def g_law_bent : GF := runF 5 b_law_bent
theorem eq_law_bent : ∀ args μ, args.length = 2 → g_law_bent args μ ≠ .bad → runF 5 b_law_bent args μ = g_law_bent args μ := fun _ _ _ _ => rfl

theorem bent_ex (xs : List Int) (hl : xs.length ≤ 900) (hx : ∀ x ∈ xs, byt x) (b : Bag) (hi : 0 ≤ b.i) : ∃ (ys : List Int) (b' : Bag), ys.length ≤ xs.length + 1 ∧ (∀ y ∈ ys, byt y) ∧ 0 ≤ b'.i ∧ ∀ μ, g_law_bent [.obj 0, .tup (xs.map .int)] (b.mo :: μ) = .ok (.tup (ys.map .int)) ⟨[], b'.mo :: μ⟩ := by
  obtain ⟨v1, b1, i1, l1, u1, p1⟩ := pull_ex b (xs.length + 1) hi (by omega) (by omega)
  obtain ⟨v2, b2, i2, l2, u2, p2⟩ := pull_ex b1 256 i1 (by omega) (by omega)
  obtain ⟨v3, b3, i3, l3, u3, p3⟩ := pull_ex b2 5 i2 (by omega) (by omega)
  obtain ⟨v4, b4, i4, l4, u4, p4⟩ := pull_ex b3 5 i3 (by omega) (by omega)
  obtain ⟨d, hd, e1⟩ := atI_pick [.int v2, .int 0, .int 7, .int 3, .int 255] v3 l3 u3
  obtain ⟨o, rfl, ho⟩ : ∃ n, d = .int n ∧ byt n := by
    simp at hd
    rcases hd with rfl | rfl | rfl | rfl | rfl
    · exact ⟨_, rfl, l2, by omega⟩
    all_goals exact ⟨_, rfl, by omega, by omega⟩
  clear hd
  have c1 := cut_to (xs.map .int) v1 l1 (by simp; omega)
  have c2 := cut_from (xs.map .int) v1 l1
  have c3 := cut_from (xs.map .int) (v1 + 1) (by omega)
  rw [← List.map_take] at c1
  rw [← List.map_drop] at c2 c3
  have z1 : (xs.take v1.toNat).length = v1.toNat := by rw [List.length_take]; omega
  have z2 : (xs.drop v1.toNat).length = xs.length - v1.toNat := by rw [List.length_drop]
  have z3 : (xs.drop (v1 + 1).toNat).length = xs.length - (v1 + 1).toNat := by rw [List.length_drop]
  have hz1 : (xs.take v1.toNat).length + 1 ≤ 16777216 := by omega
  have hz2 : (xs.take v1.toNat).length + 1 + (xs.drop v1.toNat).length ≤ 16777216 := by omega
  have hz3 : (xs.take v1.toNat).length + (xs.drop (v1 + 1).toNat).length ≤ 16777216 := by omega
  have hz4 : (xs.take v1.toNat).length + 1 + (xs.drop (v1 + 1).toNat).length ≤ 16777216 := by omega
  have hlx : (xs.map D.int).length = xs.length := by simp
  have y1 : ∀ x ∈ xs.take v1.toNat, byt x := fun x h => hx x (List.mem_of_mem_take h)
  have y2 : ∀ x ∈ xs.drop v1.toNat, byt x := fun x h => hx x (List.mem_of_mem_drop h)
  have y3 : ∀ x ∈ xs.drop (v1 + 1).toNat, byt x := fun x h => hx x (List.mem_of_mem_drop h)
  have hv : v4 = 0 ∨ v4 = 1 ∨ (v4 = 2 ∨ v4 = 3 ∨ v4 = 4) := by omega
  clear l4 u4
  generalize hA : xs.take v1.toNat = A at *
  generalize hB : xs.drop v1.toNat = B at *
  generalize hC : xs.drop (v1 + 1).toNat = C at *
  have m1 : A.map D.int ++ .int o :: B.map D.int = (A ++ o :: B).map D.int := by simp
  have m2 : A.map D.int ++ C.map D.int = (A ++ C).map D.int := by simp
  have m3 : A.map D.int ++ .int o :: C.map D.int = (A ++ o :: C).map D.int := by simp
  have w1 : (A ++ o :: B).length ≤ xs.length + 1 := by simp only [List.length_append, List.length_cons]; omega
  have w2 : (A ++ C).length ≤ xs.length + 1 := by simp only [List.length_append]; omega
  have w3 : (A ++ o :: C).length ≤ xs.length + 1 := by simp only [List.length_append, List.length_cons]; omega
  have t1 : ∀ y ∈ A ++ o :: B, byt y := fun y h => by
    rcases List.mem_append.mp h with h | h
    · exact y1 y h
    · rcases List.mem_cons.mp h with rfl | h
      · exact ho
      · exact y2 y h
  have t2 : ∀ y ∈ A ++ C, byt y := fun y h => (List.mem_append.mp h).elim (y1 y) (y3 y)
  have t3 : ∀ y ∈ A ++ o :: C, byt y := fun y h => by
    rcases List.mem_append.mp h with h | h
    · exact y1 y h
    · rcases List.mem_cons.mp h with rfl | h
      · exact ho
      · exact y3 y h
  clear z1 z2 z3 hA hB hC
  rcases hv with rfl | rfl | hv
  · refine ⟨A ++ o :: B, b4, w1, t1, i4, fun μ => ?_⟩
    clear t1 t2 t3
    generalize A ++ o :: B = Y at *
    generalize xs.map D.int = X at *
    simp -dsimp -implicitDefEqProofs [pureF, runF, fVar, fC, fBin, gI, gI0, gAdd, gSub, gMul, gDiv, gMod, gPow, gAnd, gOr, gXor, gShl, gShr, gLt, gLe, gGt, gGe, fTst, asB, fChain, fNotT, fAndT, fOrT, fNotV, fAndV, fOrV, fIf, fIsN, isNon, fIfS, fSeq, fNx, fCt, fRet, fRetN, fDrop, fAsg, Tg.run, setAll, fCall, fCons, fNil, fTup, fLst, fNew, fMt, isLst, lstV, seqV, objL, gAppend, gExtend, gIx, fSl, gSl, fO, fNoO, fRev, fWR1, fWR2, fWL, wkSeq, fWT, wkTup, allw, fFor, fCallP, fCallS, clL, clD, clK, fVarZ, frzG, fRaise, fSetIx, fPar, gSetL, fAug, gLen, gList, gListN, gTuple, gInt, gIsi, tyOf, isTy, sizeLine, CPow, gIAdd, gAddN, wkEnumL, wkEnumT, fWEL, fWET, fNeg, fCallK, gSumT, gSumL, lsV, fWR3, fCallNP, g_law_bent, b_law_bent, p1, p2, p3, p4, e1, hlx, c1, c2, hz1, hz2, m1]
  · refine ⟨A ++ C, b4, w2, t2, i4, fun μ => ?_⟩
    clear t1 t2 t3
    generalize A ++ C = Y at *
    generalize xs.map D.int = X at *
    simp -dsimp -implicitDefEqProofs [pureF, runF, fVar, fC, fBin, gI, gI0, gAdd, gSub, gMul, gDiv, gMod, gPow, gAnd, gOr, gXor, gShl, gShr, gLt, gLe, gGt, gGe, fTst, asB, fChain, fNotT, fAndT, fOrT, fNotV, fAndV, fOrV, fIf, fIsN, isNon, fIfS, fSeq, fNx, fCt, fRet, fRetN, fDrop, fAsg, Tg.run, setAll, fCall, fCons, fNil, fTup, fLst, fNew, fMt, isLst, lstV, seqV, objL, gAppend, gExtend, gIx, fSl, gSl, fO, fNoO, fRev, fWR1, fWR2, fWL, wkSeq, fWT, wkTup, allw, fFor, fCallP, fCallS, clL, clD, clK, fVarZ, frzG, fRaise, fSetIx, fPar, gSetL, fAug, gLen, gList, gListN, gTuple, gInt, gIsi, tyOf, isTy, sizeLine, CPow, gIAdd, gAddN, wkEnumL, wkEnumT, fWEL, fWET, fNeg, fCallK, gSumT, gSumL, lsV, fWR3, fCallNP, g_law_bent, b_law_bent, p1, p2, p3, p4, e1, hlx, c1, c3, hz3, m2]
  · refine ⟨A ++ o :: C, b4, w3, t3, i4, fun μ => ?_⟩
    clear t1 t2 t3
    generalize A ++ o :: C = Y at *
    generalize xs.map D.int = X at *
    rcases hv with rfl | rfl | rfl <;> simp -dsimp -implicitDefEqProofs [pureF, runF, fVar, fC, fBin, gI, gI0, gAdd, gSub, gMul, gDiv, gMod, gPow, gAnd, gOr, gXor, gShl, gShr, gLt, gLe, gGt, gGe, fTst, asB, fChain, fNotT, fAndT, fOrT, fNotV, fAndV, fOrV, fIf, fIsN, isNon, fIfS, fSeq, fNx, fCt, fRet, fRetN, fDrop, fAsg, Tg.run, setAll, fCall, fCons, fNil, fTup, fLst, fNew, fMt, isLst, lstV, seqV, objL, gAppend, gExtend, gIx, fSl, gSl, fO, fNoO, fRev, fWR1, fWR2, fWL, wkSeq, fWT, wkTup, allw, fFor, fCallP, fCallS, clL, clD, clK, fVarZ, frzG, fRaise, fSetIx, fPar, gSetL, fAug, gLen, gList, gListN, gTuple, gInt, gIsi, tyOf, isTy, sizeLine, CPow, gIAdd, gAddN, wkEnumL, wkEnumT, fWEL, fWET, fNeg, fCallK, gSumT, gSumL, lsV, fWR3, fCallNP, g_law_bent, b_law_bent, p1, p2, p3, p4, e1, hlx, c1, c3, hz1, hz4, m3]

def fs_law_said (a dx : Addr) (e : Ex) : DS → R Fl := (fAsg (fXf a dx 4 "at" (decide (e.cls = "BadPlan"))) (.one 3))
def b_law_said : DS → R Fl :=
  (fSeq (fAsg (fC .non) (.one 2))
    (fSeq (fAsg (fBin (fC (.int 0)) (fC (.int 1)) gSub) (.one 3))
    (fSeq (fTryAsF (fAsg (fCallP 2 (fCons (fVar 0) (fCons (fVar 1) fNil)) [] g_read_plan) (.one 2)) ct_BadPlan 4 fs_law_said)
    (fRet (fTup (fCons (fVar 2) (fCons (fVar 3) fNil)))))))
def g_law_said : GP := pureF (runF 5 b_law_said)
theorem eq_law_said : ∀ args, args.length = 2 → g_law_said args ≠ .bad → pureF (runF 5 b_law_said) args = g_law_said args := fun _ _ _ => rfl

theorem in_law_said : ∀ (a dx : Addr) (e : Ex) (s : DS), (fs_law_said a dx e { s with g := s.g.set 4 (some (excD a dx e)) }).bind (fun fl s2 => R.ok fl { s2 with g := s2.g.set 4 none }) = (fs_law_said 0 0 e { s with g := s.g.set 4 (some (excD 0 0 e)) }).bind (fun fl s2 => R.ok fl { s2 with g := s2.g.set 4 none }) := by
  intro a dx e s
  obtain ⟨g, m⟩ := s
  unfold fs_law_said
  generalize decide (e.cls = ("BadPlan" : Str)) = okc
  by_cases hl : 4 < g.length
  · have sc : ∀ x y : Option D, ((g.set 4 x).set 3 y).set 4 none = (g.set 3 y).set 4 none := fun x y => by rw [List.set_comm _ _ (show (4 : Nat) ≠ 3 by decide), List.set_set]
    have x1 := xf_at a dx e 4 "at" okc g m hl
    have x2 := xf_at 0 0 e 4 "at" okc g m hl
    generalize xfV e ("at" : Str) = o at *
    simp only [fAsg, x1, x2]
    cases o with
    | none => simp [xfR]
    | some d => cases okc <;> simp [xfR, Tg.run, sc]
  · have hs : ∀ x : Option D, g.set 4 x = g := fun x => List.set_eq_of_length_le (by omega)
    have hn : g[4]? = none := List.getElem?_eq_none (by omega)
    simp only [hs]
    have b1 : ∀ a dx, fXf a dx 4 "at" okc ⟨g, m⟩ = .bad := fun a dx => by
      unfold fXf
      simp only
      rw [hn]
    simp only [fAsg, b1]
theorem law_said_eq (A B : List Int) (hA : ∀ x ∈ A, byt x) (hB : ∀ x ∈ B, byt x) (hl : B.length ≤ 200) (hlA : A.length ≤ 200) (r : Option Int) (h : Rdg A B r) : g_law_said [.tup (A.map .int), .tup (B.map .int)] = .ok (dueR A B r) ⟨[], []⟩ := by
  have e := read_plan_any A B hA hB hl hlA r h
  have c1 := clL_ints 0 A
  have c2 := clL_ints 0 B
  have hcl := fun n => encP_cl n (toldP A B)
  cases r with
  | none =>
    simp only [rdR, dueR] at *
    generalize encP (toldP A B) = P at *
    generalize A.map D.int = DV at *
    generalize B.map D.int = SV at *
    simp -dsimp -implicitDefEqProofs [pureF, runF, fVar, fC, fBin, gI, gI0, gAdd, gSub, gMul, gDiv, gMod, gPow, gAnd, gOr, gXor, gShl, gShr, gLt, gLe, gGt, gGe, fTst, asB, fChain, fNotT, fAndT, fOrT, fNotV, fAndV, fOrV, fIf, fIsN, isNon, fIfS, fSeq, fNx, fCt, fRet, fRetN, fDrop, fAsg, Tg.run, setAll, fCall, fCons, fNil, fTup, fLst, fNew, fMt, isLst, lstV, seqV, objL, gAppend, gExtend, gIx, fSl, gSl, fO, fNoO, fRev, fWR1, fWR2, fWL, wkSeq, fWT, wkTup, allw, fFor, fCallP, fCallS, clL, clD, clK, fVarZ, frzG, fRaise, fSetIx, fPar, gSetL, fAug, gLen, gList, gListN, gTuple, gInt, gIsi, tyOf, isTy, sizeLine, CPow, gIAdd, gAddN, wkEnumL, wkEnumT, fWEL, fWET, fNeg, fCallK, gSumT, gSumL, lsV, fWR3, fCallNP, g_law_said, b_law_said, fTryAsF, e, c1, c2, hcl]
  | some k =>
    simp only [rdR, dueR] at *
    generalize A.map D.int = DV at *
    generalize B.map D.int = SV at *
    simp -dsimp -implicitDefEqProofs [pureF, runF, fVar, fC, fBin, gI, gI0, gAdd, gSub, gMul, gDiv, gMod, gPow, gAnd, gOr, gXor, gShl, gShr, gLt, gLe, gGt, gGe, fTst, asB, fChain, fNotT, fAndT, fOrT, fNotV, fAndV, fOrV, fIf, fIsN, isNon, fIfS, fSeq, fNx, fCt, fRet, fRetN, fDrop, fAsg, Tg.run, setAll, fCall, fCons, fNil, fTup, fLst, fNew, fMt, isLst, lstV, seqV, objL, gAppend, gExtend, gIx, fSl, gSl, fO, fNoO, fRev, fWR1, fWR2, fWL, wkSeq, fWT, wkTup, allw, fFor, fCallP, fCallS, clL, clD, clK, fVarZ, frzG, fRaise, fSetIx, fPar, gSetL, fAug, gLen, gList, gListN, gTuple, gInt, gIsi, tyOf, isTy, sizeLine, CPow, gIAdd, gAddN, wkEnumL, wkEnumT, fWEL, fWET, fNeg, fCallK, gSumT, gSumL, lsV, fWR3, fCallNP, g_law_said, b_law_said, fTryAsF, e, c1, c2, ct_BadPlan, fs_law_said, fXf, excD, List.lookup]

def lb_law_0 : DS → R Fl := (fSeq (fAsg (fBin (fCallS 2 (fCons (fVar 1) (fCons (fC (.int 3)) fNil)) [] g_law_pull) (fC (.int 2)) gDiv) (.one 6))
    (fSetIx (fCallS 2 (fCons (fVar 1) (fCons (fBin (fVar 4) (fBin (fC (.int 1)) (fVar 6) gSub) gIx) fNil)) [] g_law_bent) (fVar 4) (fBin (fC (.int 1)) (fVar 6) gSub) gSetL))
def lb_law_1 : DS → R Fl := (fSeq (fAsg (fCallS 3 (fCons (fVar 1) (fCons (fC (.int 8)) (fCons (fBin (fCallS 2 (fCons (fVar 1) (fCons (fC (.int 2)) fNil)) [] g_law_pull) (fC (.int 0)) gEq) fNil))) [] g_law_plan) (.one 3))
    (fSeq (fAsg (fNew (fCons (fCallP 1 (fCons (fVar 3) fNil) [] g_law_device) (fCons (fCallP 1 (fCons (fVar 3) fNil) [] g_law_settings) fNil))) (.one 4))
    (fSeq (fFor (fWR1 (fCons (fBin (fLst (fCons (fC (.int 1)) (fCons (fC (.int 1)) (fCons (fC (.int 2)) (fCons (fC (.int 0)) fNil))))) (fCallS 2 (fCons (fVar 1) (fCons (fC (.int 4)) fNil)) [] g_law_pull) gIx) fNil)) (.one 5) lb_law_0)
    (fIfS (fNotT (fTst (fCallP 2 (fCons (fCallP 2 (fCons (fBin (fVar 4) (fC (.int 0)) gIx) (fCons (fBin (fVar 4) (fC (.int 1)) gIx) fNil)) [] g_law_said) (fCons (fCallP 2 (fCons (fBin (fVar 4) (fC (.int 0)) gIx) (fCons (fBin (fVar 4) (fC (.int 1)) gIx) fNil)) [] g_law_due) fNil)) [] g_law_same))) (fRet (fC (.bl false))) fNx))))
def b_law : DS → R Fl :=
  (fSeq (fAsg (fCallS 1 (fCons (fVar 0) fNil) [] g_law_bag) (.one 1))
    (fSeq (fFor (fWR1 (fCons (fC (.int 5)) fNil)) (.one 2) lb_law_1)
    (fRet (fAndV (fCallP 2 (fCons (fCallP 2 (fCons (fTup fNil) (fCons (fTup fNil) fNil)) [] g_law_said) (fCons (fTup (fCons (fC .non) (fCons (fC (.int 0)) fNil))) fNil)) [] g_law_same) (fCallP 2 (fCons (fCallP 2 (fCons (fBin (fTup (fCons (fC (.int 18)) fNil)) (fC (.int 19)) gMul) (fCons (fTup fNil) fNil)) [] g_law_said) (fCons (fTup (fCons (fC .non) (fCons (fC (.int 18)) fNil))) fNil)) [] g_law_same)))))
theorem dueR_ok (A B : List Int) (r : Option Int) (hl : B.length ≤ 200) : g_law_same [dueR A B r, dueR A B r] = .ok (.bl true) ⟨[], []⟩ := by
  refine g_same_refl 4 _ ?_ ?_
  · cases r with
    | none => simp only [dueR, okD, okL, encP_ok 0 (toldP A B), Bool.and_self]
    | some k => simp [dueR, okD, okL]
  · cases r with
    | none =>
      have l1 : ((toldP A B).es.map encE).length ≤ 16777216 := by rw [List.length_map, toldP_len]; omega
      have l2 := encL_sz (toldP A B).es
      unfold dueR encP
      generalize (toldP A B).es.map encE = ES at *
      simp [sizeOkD, sizeOkL, sizeLine, l1, l2]
    | some k => simp [dueR, sizeOkD, sizeOkL, sizeLine]
theorem in_step9 (A B : List Int) (hA : ∀ x ∈ A, byt x) (hB : ∀ x ∈ B, byt x) (la : A.length ≤ 150) (lb : B.length ≤ 150) (b : Bag) (hi : 0 ≤ b.i) (a0 x2 x3 : Option D) (x5 x6 : Option D) (μ : List MO) (k : Int) :
    ∃ (A' B' : List Int) (b' : Bag) (y6 : Option D), (∀ x ∈ A', byt x) ∧ (∀ x ∈ B', byt x) ∧ A'.length ≤ A.length + 1 ∧ B'.length ≤ B.length + 1 ∧ 0 ≤ b'.i ∧
      fStep (.one 5) lb_law_0 (.int k) ⟨[a0, some (.obj 0), x2, x3, some (.obj (μ.length + 1)), x5, x6], b.mo :: (μ ++ [.lst [.tup (A.map .int), .tup (B.map .int)]])⟩ =
        .ok .nx ⟨[a0, some (.obj 0), x2, x3, some (.obj (μ.length + 1)), some (.int k), y6], b'.mo :: (μ ++ [.lst [.tup (A'.map .int), .tup (B'.map .int)]])⟩ := by
  obtain ⟨v1, b1, i1, l1, u1, p1⟩ := pull_ex b 3 hi (by omega) (by omega)
  have hg : ∀ x : MO, (μ ++ [x])[μ.length]? = some x := fun x => by simp
  have hs : ∀ x y : MO, (μ ++ [x]).set μ.length y = μ ++ [y] := fun x y => by simp
  have cd : CDivW v1 2 := cdw (by decide) (by decide)
  have hv : v1 / 2 = 0 ∨ v1 / 2 = 1 := by omega
  have at2 : ∀ a b : D, L2.atI [a, b] 0 = some a ∧ L2.atI [a, b] 1 = some b := fun a b => ⟨rfl, rfl⟩
  rcases hv with e | e
  · obtain ⟨B', b2, lB, hB', i2, p2⟩ := bent_ex B (by omega) hB b1 i1
    refine ⟨A, B', b2, some (.int 0), hA, hB', by omega, lB, i2, ?_⟩
    generalize μ.length = n at *
    generalize A.map D.int = X at *
    generalize B.map D.int = Y at *
    generalize B'.map D.int = Y' at *
    simp -dsimp -implicitDefEqProofs [pureF, runF, fVar, fC, fBin, gI, gI0, gAdd, gSub, gMul, gDiv, gMod, gPow, gAnd, gOr, gXor, gShl, gShr, gLt, gLe, gGt, gGe, fTst, asB, fChain, fNotT, fAndT, fOrT, fNotV, fAndV, fOrV, fIf, fIsN, isNon, fIfS, fSeq, fNx, fCt, fRet, fRetN, fDrop, fAsg, Tg.run, setAll, fCall, fCons, fNil, fTup, fLst, fNew, fMt, isLst, lstV, seqV, objL, gAppend, gExtend, gIx, fSl, gSl, fO, fNoO, fRev, fWR1, fWR2, fWL, wkSeq, fWT, wkTup, allw, fFor, fCallP, fCallS, clL, clD, clK, fVarZ, frzG, fRaise, fSetIx, fPar, gSetL, fAug, gLen, gList, gListN, gTuple, gInt, gIsi, tyOf, isTy, sizeLine, CPow, gIAdd, gAddN, wkEnumL, wkEnumT, fWEL, fWET, fNeg, fCallK, gSumT, gSumL, lsV, fWR3, fCallNP, fStep, lb_law_0, p1, cd, e, hg, hs, at2, p2, ixN]
  · obtain ⟨A', b2, lA, hA', i2, p2⟩ := bent_ex A (by omega) hA b1 i1
    refine ⟨A', B, b2, some (.int 1), hA', hB, lA, by omega, i2, ?_⟩
    generalize μ.length = n at *
    generalize A.map D.int = X at *
    generalize B.map D.int = Y at *
    generalize A'.map D.int = X' at *
    simp -dsimp -implicitDefEqProofs [pureF, runF, fVar, fC, fBin, gI, gI0, gAdd, gSub, gMul, gDiv, gMod, gPow, gAnd, gOr, gXor, gShl, gShr, gLt, gLe, gGt, gGe, fTst, asB, fChain, fNotT, fAndT, fOrT, fNotV, fAndV, fOrV, fIf, fIsN, isNon, fIfS, fSeq, fNx, fCt, fRet, fRetN, fDrop, fAsg, Tg.run, setAll, fCall, fCons, fNil, fTup, fLst, fNew, fMt, isLst, lstV, seqV, objL, gAppend, gExtend, gIx, fSl, gSl, fO, fNoO, fRev, fWR1, fWR2, fWL, wkSeq, fWT, wkTup, allw, fFor, fCallP, fCallS, clL, clD, clK, fVarZ, frzG, fRaise, fSetIx, fPar, gSetL, fAug, gLen, gList, gListN, gTuple, gInt, gIsi, tyOf, isTy, sizeLine, CPow, gIAdd, gAddN, wkEnumL, wkEnumT, fWEL, fWET, fNeg, fCallK, gSumT, gSumL, lsV, fWR3, fCallNP, fStep, lb_law_0, p1, cd, e, hg, hs, at2, p2, ixN]
theorem in_loop9 (n : Nat) (hn : n ≤ 2) (A B : List Int) (hA : ∀ x ∈ A, byt x) (hB : ∀ x ∈ B, byt x) (la : A.length ≤ 100) (lb : B.length ≤ 100) (b : Bag) (hi : 0 ≤ b.i) (a0 x2 x3 : Option D) (x5 x6 : Option D) (μ : List MO) :
    ∃ (A' B' : List Int) (b' : Bag) (y5 y6 : Option D), (∀ x ∈ A', byt x) ∧ (∀ x ∈ B', byt x) ∧ A'.length ≤ 120 ∧ B'.length ≤ 120 ∧ 0 ≤ b'.i ∧
      loopL allw (fStep (.one 5) lb_law_0) (rngD 0 n) ⟨[a0, some (.obj 0), x2, x3, some (.obj (μ.length + 1)), x5, x6], b.mo :: (μ ++ [.lst [.tup (A.map .int), .tup (B.map .int)]])⟩ =
        .ok .nx ⟨[a0, some (.obj 0), x2, x3, some (.obj (μ.length + 1)), y5, y6], b'.mo :: (μ ++ [.lst [.tup (A'.map .int), .tup (B'.map .int)]])⟩ := by
  obtain ⟨s', l1, A', B', b', y5, y6, h1, h2, h3, h4, h5, l2⟩ := loop_rng (step := fStep (.one 5) lb_law_0) (fun i s => ∃ (A' B' : List Int) (b' : Bag) (y5 y6 : Option D), (∀ x ∈ A', byt x) ∧ (∀ x ∈ B', byt x) ∧ A'.length ≤ 100 + i ∧ B'.length ≤ 100 + i ∧ 0 ≤ b'.i ∧
      s = ⟨[a0, some (.obj 0), x2, x3, some (.obj (μ.length + 1)), y5, y6], b'.mo :: (μ ++ [.lst [.tup (A'.map .int), .tup (B'.map .int)]])⟩) n
    (fun i s hi2 ⟨A', B', b', y5, y6, h1, h2, h3, h4, h5, hs⟩ => by
      subst hs
      obtain ⟨A2, B2, b2, z6, k1, k2, k3, k4, k5, e⟩ := in_step9 A' B' h1 h2 (by omega) (by omega) b' h5 a0 x2 x3 y5 y6 μ i
      rw [e]
      exact ⟨.inl rfl, A2, B2, b2, _, _, k1, k2, by omega, by omega, k5, rfl⟩)
    (s := ⟨[a0, some (.obj 0), x2, x3, some (.obj (μ.length + 1)), x5, x6], b.mo :: (μ ++ [.lst [.tup (A.map .int), .tup (B.map .int)]])⟩) ⟨A, B, b, x5, x6, hA, hB, by omega, by omega, hi, rfl⟩
  subst l2
  exact ⟨A', B', b', y5, y6, h1, h2, by omega, by omega, h5, l1⟩
theorem drawn_dev {p : Pl} (h : DrawnP 8 p) : ∀ x ∈ devL p, byt x := by
  obtain ⟨a, b, c, _, _⟩ := h
  intro x hx
  unfold byt
  simp only [devL, List.mem_cons, List.not_mem_nil, or_false] at hx
  rcases hx with rfl | rfl | rfl | rfl | rfl | rfl | rfl | rfl | rfl | rfl | rfl | rfl | rfl | rfl | rfl | rfl | rfl | rfl <;> (try split) <;> omega
theorem endR_byt {x : En} (g : goodE x) : ∀ y ∈ endR x, byt y := by
  obtain ⟨⟨g1, g2⟩, g3, g4⟩ := g
  intro y hy
  unfold byt
  have hs : 0 ≤ x.s ∧ x.s ≤ 64 := by omega
  have he : 0 ≤ x.e ∧ x.e ≤ 32 := by omega
  simp only [endR, List.mem_cons, List.not_mem_nil, or_false] at hy
  rcases hy with rfl | rfl | rfl | rfl | rfl | rfl | rfl <;> (try split) <;> omega
theorem setL_byt {es : List En} (hg : ∀ x ∈ es, goodE x) (hl : es.length ≤ 8) : ∀ y ∈ setL es, byt y := by
  intro y hy
  have hr : (restL es).length = 9 + 7 * es.length := by simp [restL, tlL_len]; omega
  simp only [setL, restL, tlL, List.mem_append, List.mem_cons, List.not_mem_nil, or_false] at hy
  have hfl : y ∈ (es.map endR).flatten → byt y := fun h => by
    obtain ⟨l, hl, hy⟩ := List.mem_flatten.mp h
    obtain ⟨x, hx, rfl⟩ := List.mem_map.mp hl
    exact endR_byt (hg x hx) y hy
  rcases hy with hy | hy | hy | hy
  · rw [show (9 :: ([4, 0, 0, (es.length : Int), 255, 0, 0, 0] ++ (es.map endR).flatten)).length = (restL es).length from rfl, hr] at hy
    unfold byt
    rcases hy with rfl | rfl | rfl | rfl | rfl | rfl | rfl | rfl | rfl <;> omega
  · subst hy; unfold byt; omega
  · unfold byt
    rcases hy with rfl | rfl | rfl | rfl | rfl | rfl | rfl | rfl <;> omega
  · exact hfl hy
--PART
theorem turn9 (a0 : D) (i : Int) (x3 x4 x5 x6 : Option D) (b : Bag) (hi : 0 ≤ b.i) (μ : List MO) :
    ∃ (b' : Bag) (y3 y4 y5 y6 : Option D) (z : MO), 0 ≤ b'.i ∧ lb_law_1 ⟨[some a0, some (.obj 0), some (.int i), x3, x4, x5, x6], b.mo :: μ⟩ = .ok .nx ⟨[some a0, some (.obj 0), some (.int i), y3, y4, y5, y6], b'.mo :: (μ ++ [z])⟩ := by
  obtain ⟨v0, b0, i0, l0, u0, p0⟩ := pull_ex b 2 hi (by omega) (by omega)
  obtain ⟨p, b1, hP, i1, p1⟩ := law_plan_ex 8 (by omega) (by omega) (dcd (v0 = 0)) b0 i0
  have hl : p.es.length ≤ 8 := by have := hP.2.2.2.2; omega
  have hg := hP.2.2.2.1.1
  have d2 := law_device_eq p
  have s2 := law_settings_eq p (by omega) hg
  obtain ⟨v1, b2, i2, l2, u2, p2⟩ := pull_ex b1 4 i1 (by omega) (by omega)
  obtain ⟨d, hd, e1⟩ := atI_pick [.int 1, .int 1, .int 2, .int 0] v1 l2 u2
  obtain ⟨n, rfl, hn⟩ : ∃ n : Nat, d = .int (n : Int) ∧ n ≤ 2 := by
    simp at hd
    rcases hd with rfl | rfl | rfl
    · exact ⟨1, rfl, by omega⟩
    · exact ⟨2, rfl, by omega⟩
    · exact ⟨0, rfl, by omega⟩
  have hw := fun s => wkR1_int (n : Int) s (by omega) (by omega)
  simp only [Int.toNat_natCast] at hw
  obtain ⟨A, B, b3, y5, y6, hA, hB, la, lb, i3, lp⟩ := in_loop9 n hn (devL p) (setL p.es) (drawn_dev hP) (setL_byt hg hl) (by show 18 ≤ 100; omega) (by rw [setL_len]; omega) b2 i2 (some a0) (some (.int i)) (some (encP p)) x5 x6 μ
  obtain ⟨r, hr⟩ := rdg_ex A B
  have sd := law_said_eq A B hA hB (by omega) (by omega) r hr
  have du := law_due_eq A B hA hB (by omega) (by omega) r hr
  have sm := dueR_ok A B r (by omega)
  have hcl := fun n => encP_cl n p
  have hdc : clD 0 (dueR A B r) = true := by cases r <;> simp [dueR, clD, clL, encP_cl]
  have c1 := clL_ints 0 A
  have c2 := clL_ints 0 B
  have hgt : ∀ x : MO, (μ ++ [x])[μ.length]? = some x := fun x => by simp
  have at2 : ∀ a b : D, L2.atI [a, b] 0 = some a ∧ L2.atI [a, b] 1 = some b := fun a b => ⟨rfl, rfl⟩
  refine ⟨b3, some (encP p), some (.obj (μ.length + 1)), y5, y6, .lst [.tup (A.map .int), .tup (B.map .int)], i3, ?_⟩
  clear hd hP hg hr
  generalize dueR A B r = DU at *
  generalize encP p = P at *
  generalize (devL p).map D.int = DV at *
  generalize (setL p.es).map D.int = SV at *
  generalize A.map D.int = X at *
  generalize B.map D.int = Y at *
  generalize hN : μ.length = N at *
  simp -dsimp -implicitDefEqProofs [pureF, runF, fVar, fC, fBin, gI, gI0, gAdd, gSub, gMul, gDiv, gMod, gPow, gAnd, gOr, gXor, gShl, gShr, gLt, gLe, gGt, gGe, fTst, asB, fChain, fNotT, fAndT, fOrT, fNotV, fAndV, fOrV, fIf, fIsN, isNon, fIfS, fSeq, fNx, fCt, fRet, fRetN, fDrop, fAsg, Tg.run, setAll, fCall, fCons, fNil, fTup, fLst, fNew, fMt, isLst, lstV, seqV, objL, gAppend, gExtend, gIx, fSl, gSl, fO, fNoO, fRev, fWR1, fWR2, fWL, wkSeq, fWT, wkTup, allw, fFor, fCallP, fCallS, clL, clD, clK, fVarZ, frzG, fRaise, fSetIx, fPar, gSetL, fAug, gLen, gList, gListN, gTuple, gInt, gIsi, tyOf, isTy, sizeLine, CPow, gIAdd, gAddN, wkEnumL, wkEnumT, fWEL, fWET, fNeg, fCallK, gSumT, gSumL, lsV, fWR3, fCallNP, lb_law_1, hN, p0, p1, d2, s2, hcl, p2, e1, hw, lp, hgt, at2, sd, du, sm, hdc, c1, c2]
--PART
theorem law_true (ns : List Int) (h : ns.length ≤ 63) : ∃ s, runF 7 b_law [.lsr (ns.map D.int)] [] = .ok (.bl true) s := by
  obtain ⟨s', l1, b, x2, x3, x4, x5, x6, μ, hb, l2⟩ := loop_rng (step := fStep (.one 2) lb_law_1) (fun i s => ∃ (b : Bag) (x2 x3 x4 x5 x6 : Option D) (μ : List MO), 0 ≤ b.i ∧ s = ⟨[some (.lsr (ns.map .int)), some (.obj 0), x2, x3, x4, x5, x6], b.mo :: μ⟩) 5
    (fun i s hi ⟨b, x2, x3, x4, x5, x6, μ, hb, hs⟩ => by
      subst hs
      obtain ⟨b', y3, y4, y5, y6, z, hb', e⟩ := turn9 (.lsr (ns.map .int)) i x3 x4 x5 x6 b hb μ
      have e' : fStep (.one 2) lb_law_1 (.int i) ⟨[some (.lsr (ns.map .int)), some (.obj 0), x2, x3, x4, x5, x6], b.mo :: μ⟩ = _ := e
      rw [e']
      exact ⟨.inl rfl, b', _, _, _, _, _, _, hb', rfl⟩)
    (s := ⟨[some (.lsr (ns.map .int)), some (.obj 0), none, none, none, none, none], [(bag0 ns).mo]⟩) ⟨bag0 ns, _, _, _, _, _, [], by simp [bag0], rfl⟩
  subst l2
  have s0 := law_said_eq [] [] (by simp) (by simp) (by simp) (by simp) (some 0) (.inl ⟨by simp, rfl⟩)
  have s1 := law_said_eq (List.replicate 19 18) [] (by simp [byt]) (by simp) (by simp) (by simp) (some 18) (.inl ⟨by simp, rfl⟩)
  have k0 : g_law_same [.tup [.non, .int 0], .tup [.non, .int 0]] = .ok (.bl true) ⟨[], []⟩ := dueR_ok [] [] (some 0) (by simp)
  have k1 : g_law_same [.tup [.non, .int 18], .tup [.non, .int 18]] = .ok (.bl true) ⟨[], []⟩ := dueR_ok [] [] (some 18) (by simp)
  simp only [dueR, List.map_nil, List.replicate, List.map] at s0 s1
  refine ⟨⟨[], b.mo :: μ⟩, ?_⟩
  have hw := fun s => wkR1_int 5 s (by decide) (by decide)
  rw [show (5 : Int).toNat = 5 from rfl] at hw
  have body : b_law ⟨[some (.lsr (ns.map D.int)), none, none, none, none, none, none], []⟩ = .ok (.rt (.bl true)) ⟨[some (.lsr (ns.map .int)), some (.obj 0), x2, x3, x4, x5, x6], b.mo :: μ⟩ := by
    simp -dsimp -implicitDefEqProofs [pureF, runF, fVar, fC, fBin, gI, gI0, gAdd, gSub, gMul, gDiv, gMod, gPow, gAnd, gOr, gXor, gShl, gShr, gLt, gLe, gGt, gGe, fTst, asB, fChain, fNotT, fAndT, fOrT, fNotV, fAndV, fOrV, fIf, fIsN, isNon, fIfS, fSeq, fNx, fCt, fRet, fRetN, fDrop, fAsg, Tg.run, setAll, fCall, fCons, fNil, fTup, fLst, fNew, fMt, isLst, lstV, seqV, objL, gAppend, gExtend, gIx, fSl, gSl, fO, fNoO, fRev, fWR1, fWR2, fWL, wkSeq, fWT, wkTup, allw, fFor, fCallP, fCallS, clL, clD, clK, fVarZ, frzG, fRaise, fSetIx, fPar, gSetL, fAug, gLen, gList, gListN, gTuple, gInt, gIsi, tyOf, isTy, sizeLine, CPow, gIAdd, gAddN, wkEnumL, wkEnumT, fWEL, fWET, fNeg, fCallK, gSumT, gSumL, lsV, fWR3, fCallNP, b_law, g_law_bag, h, l1, hw, s0, s1, k0, k1]
  unfold runF
  rw [show ([.lsr (ns.map D.int)] : List D).map some ++ List.replicate (7 - [D.lsr (ns.map D.int)].length) none = [some (.lsr (ns.map D.int)), none, none, none, none, none, none] from rfl, body]

end

structure Ad where
  f_good_end : Addr
  d_good_end : FuncData
  f_need_plan : Addr
  d_need_plan : FuncData
  f_two : Addr
  d_two : FuncData
  f_device_row : Addr
  d_device_row : FuncData
  f_end_row : Addr
  d_end_row : FuncData
  f_settings_row : Addr
  d_settings_row : FuncData
  f_end_of : Addr
  d_end_of : FuncData
  f_first_unlike : Addr
  d_first_unlike : FuncData
  f_plan_told : Addr
  d_plan_told : FuncData
  f_read_plan : Addr
  d_read_plan : FuncData
  f_law_bag : Addr
  d_law_bag : FuncData
  f_law_pull : Addr
  d_law_pull : FuncData
  f_law_whole : Addr
  d_law_whole : FuncData
  f_law_same : Addr
  d_law_same : FuncData
  f_law_one : Addr
  d_law_one : FuncData
  f_law_end : Addr
  d_law_end : FuncData
  f_law_ends : Addr
  d_law_ends : FuncData
  f_law_plan : Addr
  d_law_plan : FuncData
  f_law_two : Addr
  d_law_two : FuncData
  f_law_device : Addr
  d_law_device : FuncData
  f_law_settings : Addr
  d_law_settings : FuncData
  f_law_end_good : Addr
  d_law_end_good : FuncData
  f_law_told_plan : Addr
  d_law_told_plan : FuncData
  f_law_due : Addr
  d_law_due : FuncData
  f_law_bent : Addr
  d_law_bent : FuncData
  f_law_said : Addr
  d_law_said : FuncData
  f_law : Addr
  d_law : FuncData
  C_BusError : Addr
  C_BadPlan : Addr
  fI_BadPlan : Addr
  dI_BadPlan : FuncData
  G_SIZES : Value
  V_SIZES : V
  G_PERIODS : Value
  V_PERIODS : V
  G_MOST_ENDS : Value
  V_MOST_ENDS : V
  G_MOST_PORTS : Value
  V_MOST_PORTS : V
structure Tx (w : World) (K : PySem.W.Frag) (mg : Str → Option Value) (A : Ad) : Prop where
  F_good_end : Fun K "good_end" "good_end" s_good_end A.f_good_end A.d_good_end
  m_good_end : mg "good_end" = some (.ref A.f_good_end)
  b_good_end : Binds K A.d_good_end ["end"] []
  F_need_plan : Fun K "need_plan" "need_plan" s_need_plan A.f_need_plan A.d_need_plan
  m_need_plan : mg "need_plan" = some (.ref A.f_need_plan)
  b_need_plan : Binds K A.d_need_plan ["plan"] []
  F_two : Fun K "two" "two" s_two A.f_two A.d_two
  m_two : mg "two" = some (.ref A.f_two)
  b_two : Binds K A.d_two ["number"] []
  F_device_row : Fun K "device_row" "device_row" s_device_row A.f_device_row A.d_device_row
  m_device_row : mg "device_row" = some (.ref A.f_device_row)
  b_device_row : Binds K A.d_device_row ["plan"] []
  F_end_row : Fun K "end_row" "end_row" s_end_row A.f_end_row A.d_end_row
  m_end_row : mg "end_row" = some (.ref A.f_end_row)
  b_end_row : Binds K A.d_end_row ["end"] []
  F_settings_row : Fun K "settings_row" "settings_row" s_settings_row A.f_settings_row A.d_settings_row
  m_settings_row : mg "settings_row" = some (.ref A.f_settings_row)
  b_settings_row : Binds K A.d_settings_row ["plan"] []
  F_end_of : Fun K "end_of" "end_of" s_end_of A.f_end_of A.d_end_of
  m_end_of : mg "end_of" = some (.ref A.f_end_of)
  b_end_of : Binds K A.d_end_of ["row"] []
  F_first_unlike : Fun K "first_unlike" "first_unlike" s_first_unlike A.f_first_unlike A.d_first_unlike
  m_first_unlike : mg "first_unlike" = some (.ref A.f_first_unlike)
  b_first_unlike : Binds K A.d_first_unlike ["row", "due"] []
  F_plan_told : Fun K "plan_told" "plan_told" s_plan_told A.f_plan_told A.d_plan_told
  m_plan_told : mg "plan_told" = some (.ref A.f_plan_told)
  b_plan_told : Binds K A.d_plan_told ["device", "settings"] []
  F_read_plan : Fun K "read_plan" "read_plan" s_read_plan A.f_read_plan A.d_read_plan
  m_read_plan : mg "read_plan" = some (.ref A.f_read_plan)
  b_read_plan : Binds K A.d_read_plan ["device", "settings"] []
  F_law_bag : Fun K "_law_bag" "_law_bag" s_law_bag A.f_law_bag A.d_law_bag
  m_law_bag : mg "_law_bag" = some (.ref A.f_law_bag)
  b_law_bag : Binds K A.d_law_bag ["_law_script"] []
  F_law_pull : Fun K "_law_pull" "_law_pull" s_law_pull A.f_law_pull A.d_law_pull
  m_law_pull : mg "_law_pull" = some (.ref A.f_law_pull)
  b_law_pull : Binds K A.d_law_pull ["_law_bag_here", "_law_upto"] []
  F_law_whole : Fun K "_law_whole" "_law_whole" s_law_whole A.f_law_whole A.d_law_whole
  m_law_whole : mg "_law_whole" = some (.ref A.f_law_whole)
  b_law_whole : Binds K A.d_law_whole ["_law_found"] []
  F_law_same : Fun K "_law_same" "_law_same" s_law_same A.f_law_same A.d_law_same
  m_law_same : mg "_law_same" = some (.ref A.f_law_same)
  b_law_same : Binds K A.d_law_same ["_law_found", "_law_due_here"] []
  F_law_one : Fun K "_law_one" "_law_one" s_law_one A.f_law_one A.d_law_one
  m_law_one : mg "_law_one" = some (.ref A.f_law_one)
  b_law_one : Binds K A.d_law_one ["_law_bag_here", "_law_row"] []
  F_law_end : Fun K "_law_end" "_law_end" s_law_end A.f_law_end A.d_law_end
  m_law_end : mg "_law_end" = some (.ref A.f_law_end)
  b_law_end : Binds K A.d_law_end ["_law_bag_here", "_law_spot"] []
  F_law_ends : Fun K "_law_ends" "_law_ends" s_law_ends A.f_law_ends A.d_law_ends
  m_law_ends : mg "_law_ends" = some (.ref A.f_law_ends)
  b_law_ends : Binds K A.d_law_ends ["_law_bag_here", "_law_most"] []
  F_law_plan : Fun K "_law_plan" "_law_plan" s_law_plan A.f_law_plan A.d_law_plan
  m_law_plan : mg "_law_plan" = some (.ref A.f_law_plan)
  b_law_plan : Binds K A.d_law_plan ["_law_bag_here", "_law_most", "_law_hub"] []
  F_law_two : Fun K "_law_two" "_law_two" s_law_two A.f_law_two A.d_law_two
  m_law_two : mg "_law_two" = some (.ref A.f_law_two)
  b_law_two : Binds K A.d_law_two ["_law_number"] []
  F_law_device : Fun K "_law_device" "_law_device" s_law_device A.f_law_device A.d_law_device
  m_law_device : mg "_law_device" = some (.ref A.f_law_device)
  b_law_device : Binds K A.d_law_device ["_law_plan_here"] []
  F_law_settings : Fun K "_law_settings" "_law_settings" s_law_settings A.f_law_settings A.d_law_settings
  m_law_settings : mg "_law_settings" = some (.ref A.f_law_settings)
  b_law_settings : Binds K A.d_law_settings ["_law_plan_here"] []
  F_law_end_good : Fun K "_law_end_good" "_law_end_good" s_law_end_good A.f_law_end_good A.d_law_end_good
  m_law_end_good : mg "_law_end_good" = some (.ref A.f_law_end_good)
  b_law_end_good : Binds K A.d_law_end_good ["_law_end_here"] []
  F_law_told_plan : Fun K "_law_told_plan" "_law_told_plan" s_law_told_plan A.f_law_told_plan A.d_law_told_plan
  m_law_told_plan : mg "_law_told_plan" = some (.ref A.f_law_told_plan)
  b_law_told_plan : Binds K A.d_law_told_plan ["_law_first", "_law_second"] []
  F_law_due : Fun K "_law_due" "_law_due" s_law_due A.f_law_due A.d_law_due
  m_law_due : mg "_law_due" = some (.ref A.f_law_due)
  b_law_due : Binds K A.d_law_due ["_law_first", "_law_second"] []
  F_law_bent : Fun K "_law_bent" "_law_bent" s_law_bent A.f_law_bent A.d_law_bent
  m_law_bent : mg "_law_bent" = some (.ref A.f_law_bent)
  b_law_bent : Binds K A.d_law_bent ["_law_bag_here", "_law_row"] []
  F_law_said : Fun K "_law_said" "_law_said" s_law_said A.f_law_said A.d_law_said
  m_law_said : mg "_law_said" = some (.ref A.f_law_said)
  b_law_said : Binds K A.d_law_said ["_law_first", "_law_second"] []
  F_law : Fun K "law" "law" s_law A.f_law A.d_law
  m_law : mg "law" = some (.ref A.f_law)
  b_law : Binds K A.d_law ["_law_script"] []
  g_BadPlan : mg "BadPlan" = some (.ref A.C_BadPlan)
  ox_BadPlan : OexC K A.C_BadPlan
  no_BadPlan : PySem.W.findIn K (.ref A.C_BadPlan) "at" = some none
  xf_BadPlan : XfC K A.C_BadPlan
  iC_BadPlan : PySem.W.findIn K (.ref A.C_BadPlan) "__init__" = some (some (.ref A.fI_BadPlan))
  tI_BadPlan : PySem.W.typeIn K (.ref A.fI_BadPlan) = some (.type "function")
  FI_BadPlan : Fun K "__init__" "BadPlan.__init__" s_init_BadPlan A.fI_BadPlan A.dI_BadPlan
  bI_BadPlan : Binds K A.dI_BadPlan ["self", "at"] []
  sg_BusError : PySem.W.specialIn K (.ref A.C_BusError) "__getattribute__" = some (some (.builtin "type.__getattribute__"))
  rd_BusError : PySem.W.readsIn K A.C_BusError (.type "type") = true
  fc_BusError : PySem.W.findCls K (.ref A.C_BusError) (.type "type") "__init__" = some (.val (.builtin "ValueError.__init__"))
  e_BusError : ExcT K mg "BusError" A.C_BusError "ValueError" "ValueError.__new__" "ValueError.__init__" [.type "ValueError", .type "Exception", .type "BaseException", .type "object"]
  z_all : mg "all" = none
  z_bool : mg "bool" = none
  z_enumerate : mg "enumerate" = none
  z_int : mg "int" = none
  z_isinstance : mg "isinstance" = none
  z_len : mg "len" = none
  z_list : mg "list" = none
  z_max : mg "max" = none
  z_min : mg "min" = none
  z_range : mg "range" = none
  z_set : mg "set" = none
  z_sorted : mg "sorted" = none
  z_str : mg "str" = none
  z_tuple : mg "tuple" = none
  z_zip : mg "zip" = none
  xm_BadPlan_BadPlan : PySem.W.exmOne K (.ref A.C_BadPlan) (.ref A.C_BadPlan) = some true
  c_SIZES : mg "SIZES" = some A.G_SIZES
  q_SIZES : RelV A.V_SIZES A.G_SIZES
  r_SIZES : ∀ ρ F, Rd K ρ F gv_SIZES A.V_SIZES
  c_PERIODS : mg "PERIODS" = some A.G_PERIODS
  q_PERIODS : RelV A.V_PERIODS A.G_PERIODS
  r_PERIODS : ∀ ρ F, Rd K ρ F gv_PERIODS A.V_PERIODS
  c_MOST_ENDS : mg "MOST_ENDS" = some A.G_MOST_ENDS
  q_MOST_ENDS : RelV A.V_MOST_ENDS A.G_MOST_ENDS
  r_MOST_ENDS : ∀ ρ F, Rd K ρ F gv_MOST_ENDS A.V_MOST_ENDS
  c_MOST_PORTS : mg "MOST_PORTS" = some A.G_MOST_PORTS
  q_MOST_PORTS : RelV A.V_MOST_PORTS A.G_MOST_PORTS
  r_MOST_PORTS : ∀ ρ F, Rd K ρ F gv_MOST_PORTS A.V_MOST_PORTS
section
variable {w : World} {K : PySem.W.Frag} {mg : Str → Option Value} {A : Ad}
theorem Tx.ct_BadPlan (T : Tx w K mg A) : ∀ (e : Ex) b C, DL.My.ct_BadPlan e = some b → mg e.cls = some (.ref C) → PySem.W.exmOne K (.ref C) (.ref A.C_BadPlan) = some b := by
  intro e b C h hm
  unfold DL.My.ct_BadPlan at h
  split at h
  · rename_i z
    rw [z.1, T.g_BadPlan] at hm
    cases hm
    cases h
    exact T.xm_BadPlan_BadPlan
  cases h
theorem Tx.rs_BadPlan (T : Tx w K mg A) : ∀ (e : Ex) C, DL.My.ct_BadPlan e = some true → mg e.cls = some (.ref C) → PySem.W.subIn K (.ref C) (.type "BaseException") = some true ∧ PySem.W.typeIn K (.ref C) = some (.type "type") := by
  intro e C h hm
  unfold DL.My.ct_BadPlan at h
  split at h
  · rename_i z
    rw [z.1, T.g_BadPlan] at hm
    cases hm
    exact ⟨T.ox_BadPlan.exC, T.ox_BadPlan.tyC⟩
  cases h
theorem Tx.nz_BadPlan_BadPlan (_ : Tx w K mg A) : ∀ {e : Ex} {b}, DL.My.ct_BadPlan e = some b → e.cls = "BadPlan" → e.fs ≠ [] := by
  intro e b h hc z2
  unfold DL.My.ct_BadPlan at h
  split at h
  · rename_i z
    rw [z2] at z
    simp at z
  cases h
end
section
variable {P : Program} {w : World} {K : PySem.W.Frag} {mg : Str → Option Value} {base : Heap} {A : Ad}
theorem ix_BadPlan (T : Tx w K mg A) : FnOk P w K mg base (L2.CX P w) 1 A.fI_BadPlan A.dI_BadPlan ["self", "at"] (spI K A.C_BadPlan "at" okI) :=
  T.FI_BadPlan.okX sc_init_BadPlan (fun vs H Q E h => spI_len h) fun cdv Ar outer s H vs Q E hr h => by
    obtain ⟨a, v, rfl, hv, ha, qq⟩ := h
    refine ⟨_, pss_cons (ps_expr (pe_oinit rfl T.e_BusError.gC T.sg_BusError T.rd_BusError T.fc_BusError (pa_cons (pv 0) (pa_cons (pe_joined (.cons pe_str (.cons (pe_fmt (pv 1)) PJ.nil))) pa_nil)))) (pss_one (ps_ost (pv 0) (pv 1))), ?_⟩
    obtain ⟨i, rfl, hi⟩ := hv
    exact init_endI T.ox_BadPlan T.no_BadPlan ha hi qq
theorem ixH_BadPlan (T : Tx w K mg A) : L2H.FnH P w K mg base (L2.CX P w) 1 A.fI_BadPlan A.dI_BadPlan ["self", "at"] (spI K A.C_BadPlan "at" okI) :=
  fun_okH T.FI_BadPlan sc_init_BadPlan (fun vs H Q E h => spI_len h) fun cdv Ar outer s H vs Q E p0 hot hr h => by
    obtain ⟨a, v, rfl, hv, ha, qq⟩ := h
    refine ⟨_, pss_cons (ps_expr (pe_oinit rfl T.e_BusError.gC T.sg_BusError T.rd_BusError T.fc_BusError (pa_cons (pv 0) (pa_cons (pe_joined (.cons pe_str (.cons (pe_fmt (pv 1)) PJ.nil))) pa_nil)))) (pss_one (ps_ost (pv 0) (pv 1))), ?_⟩
    obtain ⟨i, rfl, hi⟩ := hv
    exact init_endI T.ox_BadPlan T.no_BadPlan ha hi qq
theorem xx_BadPlan (T : Tx w K mg A) : ExcF P w K mg base "BadPlan" "at" "at" A.C_BadPlan A.fI_BadPlan A.dI_BadPlan okI := ⟨T.g_BadPlan, T.ox_BadPlan, T.iC_BadPlan, T.tI_BadPlan, T.bI_BadPlan, ix_BadPlan T⟩
theorem xh_BadPlan (T : Tx w K mg A) : ExcFH P w K mg base "BadPlan" "at" "at" A.C_BadPlan A.fI_BadPlan A.dI_BadPlan okI := ⟨xx_BadPlan T, ixH_BadPlan T⟩
theorem bd_good_end (T : Tx w K mg A) : FnOk P w K mg base (L2N.CX P w) 1 A.f_good_end A.d_good_end ["end"] (spD K mg 1 (runF 6 b_good_end)) :=
  fn_stN T.F_good_end sc_good_end fun cdv Ar outer s H E hr => by
    have tk : L2N.Takes (cxOf (L2N.CX P w) P w K mg base N_good_end "good_end" (defScope s_good_end) A.f_good_end cdv Ar outer s H E) (fun cls d _ H' => E cls d H') := L2N.takes_of rfl rfl rfl rfl
    exact (pdss_cons (pds_asg (pd_var 0 (pv 0)) (pdg_tup (is := [1, 2, 3, 4, 5]) rfl (pgs_cons (pg_name (i := 1) sc_good_end.nd rfl (by first | exact Or.inl rfl | exact Or.inr rfl)) (pgs_cons (pg_name (i := 2) sc_good_end.nd rfl (by first | exact Or.inl rfl | exact Or.inr rfl)) (pgs_cons (pg_name (i := 3) sc_good_end.nd rfl (by first | exact Or.inl rfl | exact Or.inr rfl)) (pgs_cons (pg_name (i := 4) sc_good_end.nd rfl (by first | exact Or.inl rfl | exact Or.inr rfl)) (pgs_cons (pg_name (i := 5) sc_good_end.nd rfl (by first | exact Or.inl rfl | exact Or.inr rfl)) pgs_nil)))))))
      (pdss_cons (pds_if (pdw_pdt (pdw_or (pdt_not (pdt_chain op_le opd_le op_le opd_le pd_int (pd_var 1 (pv 1)) pd_int)) (pdw_or1 (pdt_cmp op_notIn_seq opd_in (pd_var 2 (pv 2)) (pd_tup (pda_cons pd_str (pda_cons pd_str pda_nil))))))) (pdss_one (pds_ret pd_bl)) pdss_nil)
      (pdss_cons (pds_if (pdt_cmp (op_eqD hr.units) opd_eq (pd_var 3 (pv 3)) pd_str) (pdss_one (pds_ret (pd_and (pd_cmp op_in_seq opd_in (pd_var 4 (pv 4)) (pd_glob (d := gv_SIZES) rfl T.c_SIZES T.q_SIZES T.r_SIZES)) (pd_one (pd_cmp (op_eqD hr.units) opd_eq (pd_var 5 (pv 5)) pd_int))))) pdss_nil)
      (pdss_one (pds_ret (pd_and (pd_cmp (op_eqD hr.units) opd_eq (pd_var 3 (pv 3)) pd_str) (pd_and (pd_chain op_le opd_le op_le opd_le pd_int (pd_var 4 (pv 4)) pd_int) (pd_one (pd_cmp op_in_seq opd_in (pd_var 5 (pv 5)) (pd_glob (d := gv_PERIODS) rfl T.c_PERIODS T.q_PERIODS T.r_PERIODS))))))))))
theorem okN_good_end (T : Tx w K mg A) : FnOk P w K mg base (L2N.CX P w) 1 A.f_good_end A.d_good_end ["end"] (spP K mg 1 g_good_end) :=
  fn_asPC (fn_pureC (bd_good_end T)) eq_good_end
theorem ok_good_end (T : Tx w K mg A) : FnOk P w K mg base (L2.CX P w) 1 A.f_good_end A.d_good_end ["end"] (spP K mg 1 g_good_end) := fnok_zc (okN_good_end T)
theorem bd_need_plan (T : Tx w K mg A) : FnOk P w K mg base (L2N.CX P w) 3 A.f_need_plan A.d_need_plan ["plan"] (spD K mg 1 (runF 8 b_need_plan)) :=
  fn_stN T.F_need_plan sc_need_plan fun cdv Ar outer s H E hr => by
    have tk : L2N.Takes (cxOf (L2N.CX P w) P w K mg base N_need_plan "need_plan" (defScope s_need_plan) A.f_need_plan cdv Ar outer s H E) (fun cls d _ H' => E cls d H') := L2N.takes_of rfl rfl rfl rfl
    exact (pdss_cons (pds_asg (pd_var 0 (pv 0)) (pdg_tup (is := [1, 2, 3, 4]) rfl (pgs_cons (pg_name (i := 1) sc_need_plan.nd rfl (by first | exact Or.inl rfl | exact Or.inr rfl)) (pgs_cons (pg_name (i := 2) sc_need_plan.nd rfl (by first | exact Or.inl rfl | exact Or.inr rfl)) (pgs_cons (pg_name (i := 3) sc_need_plan.nd rfl (by first | exact Or.inl rfl | exact Or.inr rfl)) (pgs_cons (pg_name (i := 4) sc_need_plan.nd rfl (by first | exact Or.inl rfl | exact Or.inr rfl)) pgs_nil))))))
      (pdss_cons (pds_for (passes_of rfl) rfl (pdi_enumT rfl T.z_enumerate (pda_cons (pd_tup (pda_cons (pd_var 1 (pv 1)) (pda_cons (pd_var 2 (pv 2)) pda_nil))) pda_nil)) (pdg_tup (is := [5, 6]) rfl (pgs_cons (pg_name (i := 5) sc_need_plan.nd rfl (by first | exact Or.inl rfl | exact Or.inr rfl)) (pgs_cons (pg_name (i := 6) sc_need_plan.nd rfl (by first | exact Or.inl rfl | exact Or.inr rfl)) pgs_nil))) (pdss_one (pds_if (pdt_not (pdt_chain op_le opd_le op_le opd_le pd_int (pd_var 6 (pv 6)) pd_int)) (pdss_one (pds_raiseFN (xx_BadPlan T) (fun _ _ _ _ h r => okI_rd h r) rfl (hr.mono (by first | decide | omega)) tk (pda_cons (pd_var 5 (pv 5)) pda_nil))) pdss_nil)))
      (pdss_cons (pds_if (pdt_not (pdt_chain op_le opd_le op_le opd_le pd_int (pd_var 3 (pv 3)) (pd_glob (d := gv_MOST_PORTS) rfl T.c_MOST_PORTS T.q_MOST_PORTS T.r_MOST_PORTS))) (pdss_one (pds_raiseFN (xx_BadPlan T) (fun _ _ _ _ h r => okI_rd h r) rfl (hr.mono (by first | decide | omega)) tk (pda_cons pd_int pda_nil))) pdss_nil)
      (pdss_one (pds_for (passes_of rfl) rfl (pdi_enumT rfl T.z_enumerate (pda_cons (pd_var 4 (pv 4)) pda_nil)) (pdg_tup (is := [5, 7]) rfl (pgs_cons (pg_name (i := 5) sc_need_plan.nd rfl (by first | exact Or.inl rfl | exact Or.inr rfl)) (pgs_cons (pg_name (i := 7) sc_need_plan.nd rfl (by first | exact Or.inl rfl | exact Or.inr rfl)) pgs_nil))) (pdss_one (pds_if (pdw_pdt (pdw_or (pdt_cmp op_ge opd_ge (pd_var 5 (pv 5)) (pd_glob (d := gv_MOST_ENDS) rfl T.c_MOST_ENDS T.q_MOST_ENDS T.r_MOST_ENDS)) (pdw_or (pdt_not (pdt_val (pd_callPN (dds := []) (okN_good_end T) (hr.mono (by first | decide | omega)) T.m_good_end T.F_good_end.kp T.b_good_end .nil (fun _ _ => rfl) tk (pda_cons (pd_var 7 (pv 7)) pda_nil)))) (pdw_or1 (pdw_pdt (pdw_and (pdt_cmp op_gt opd_gt (pd_var 5 (pv 5)) pd_int) (pdw_and1 (pdt_cmp (op_geD hr.units) (opd_cmpD (f := fun d e => !PySem.W.dataLt d e)) (pd_sl (pd_ix (pd_var 4 (pv 4)) (pd_op op_sub opd_sub (pd_var 5 (pv 5)) pd_int)) pdo_none (pdo_some pd_int)) (pd_sl (pd_var 7 (pv 7)) pdo_none (pdo_some pd_int)))))))))) (pdss_one (pds_raiseFN (xx_BadPlan T) (fun _ _ _ _ h r => okI_rd h r) rfl (hr.mono (by first | decide | omega)) tk (pda_cons (pd_op op_addA opd_add pd_int (pd_var 5 (pv 5))) pda_nil))) pdss_nil)))))))
theorem okN_need_plan (T : Tx w K mg A) : FnOk P w K mg base (L2N.CX P w) 3 A.f_need_plan A.d_need_plan ["plan"] (spP K mg 1 g_need_plan) :=
  fn_asPC (fn_pureC (bd_need_plan T)) eq_need_plan
theorem ok_need_plan (T : Tx w K mg A) : FnOk P w K mg base (L2.CX P w) 3 A.f_need_plan A.d_need_plan ["plan"] (spP K mg 1 g_need_plan) := fnok_zc (okN_need_plan T)
theorem bd_two (T : Tx w K mg A) : FnOk P w K mg base (L2.CX P w) 1 A.f_two A.d_two ["number"] (spD K mg 1 (runF 1 b_two)) :=
  fn_st T.F_two sc_two fun cdv Ar outer s H E hr => by
    have tk : Takes (cxOf (L2.CX P w) P w K mg base N_two "two" (defScope s_two) A.f_two cdv Ar outer s H E) (fun cls d _ H' => E cls d H') := takes_of rfl rfl rfl rfl
    exact (pdss_one (pds_ret (pd_tup (pda_cons (pd_op op_and opd_and (pd_var 0 (pv 0)) pd_int) (pda_cons (pd_op op_shr opd_shr (pd_var 0 (pv 0)) pd_int) pda_nil)))))
theorem ok_two (T : Tx w K mg A) : FnOk P w K mg base (L2.CX P w) 1 A.f_two A.d_two ["number"] (spP K mg 1 g_two) :=
  fn_asP (fn_pure (bd_two T)) eq_two
theorem bd_device_row (T : Tx w K mg A) : FnOk P w K mg base (L2.CX P w) 4 A.f_device_row A.d_device_row ["plan"] (spD K mg 1 (runF 2 b_device_row)) :=
  fn_st T.F_device_row sc_device_row fun cdv Ar outer s H E hr => by
    have tk : Takes (cxOf (L2.CX P w) P w K mg base N_device_row "device_row" (defScope s_device_row) A.f_device_row cdv Ar outer s H E) (fun cls d _ H' => E cls d H') := takes_of rfl rfl rfl rfl
    exact (pdss_cons (pds_expr (pd_callP (dds := []) (ok_need_plan T) (hr.mono (by first | decide | omega)) T.m_need_plan T.F_need_plan.kp T.b_need_plan .nil (fun _ _ => rfl) tk (pda_cons (pd_var 0 (pv 0)) pda_nil)))
      (pdss_cons (pds_set (i := 1) sc_device_row.nd rfl (by first | exact Or.inl rfl | exact Or.inr rfl) (pd_if (pdt_cmp op_gt opd_gt (pd_ix (pd_var 0 (pv 0)) pd_int) pd_int) pd_int pd_int))
      (pdss_one (pds_ret (pd_op op_addA opd_add (pd_op op_addA opd_add (pd_op op_addA opd_add (pd_tup (pda_cons pd_int (pda_cons pd_int (pda_cons pd_int (pda_cons pd_int (pda_cons (pd_var 1 (pv 1)) (pda_cons pd_int (pda_cons pd_int (pda_cons pd_int pda_nil))))))))) (pd_callP (dds := []) (ok_two T) (hr.mono (by first | decide | omega)) T.m_two T.F_two.kp T.b_two .nil (fun _ _ => rfl) tk (pda_cons (pd_ix (pd_var 0 (pv 0)) pd_int) pda_nil))) (pd_callP (dds := []) (ok_two T) (hr.mono (by first | decide | omega)) T.m_two T.F_two.kp T.b_two .nil (fun _ _ => rfl) tk (pda_cons (pd_ix (pd_var 0 (pv 0)) pd_int) pda_nil))) (pd_tup (pda_cons pd_int (pda_cons pd_int (pda_cons (pd_ix (pd_var 0 (pv 0)) pd_int) (pda_cons pd_int (pda_cons pd_int (pda_cons pd_int pda_nil))))))))))))
theorem ok_device_row (T : Tx w K mg A) : FnOk P w K mg base (L2.CX P w) 4 A.f_device_row A.d_device_row ["plan"] (spP K mg 1 g_device_row) :=
  fn_asP (fn_pure (bd_device_row T)) eq_device_row
theorem bd_end_row (T : Tx w K mg A) : FnOk P w K mg base (L2.CX P w) 2 A.f_end_row A.d_end_row ["end"] (spD K mg 1 (runF 6 b_end_row)) :=
  fn_st T.F_end_row sc_end_row fun cdv Ar outer s H E hr => by
    have tk : Takes (cxOf (L2.CX P w) P w K mg base N_end_row "end_row" (defScope s_end_row) A.f_end_row cdv Ar outer s H E) (fun cls d _ H' => E cls d H') := takes_of rfl rfl rfl rfl
    exact (pdss_cons (pds_asg (pd_var 0 (pv 0)) (pdg_tup (is := [1, 2, 3, 4, 5]) rfl (pgs_cons (pg_name (i := 1) sc_end_row.nd rfl (by first | exact Or.inl rfl | exact Or.inr rfl)) (pgs_cons (pg_name (i := 2) sc_end_row.nd rfl (by first | exact Or.inl rfl | exact Or.inr rfl)) (pgs_cons (pg_name (i := 3) sc_end_row.nd rfl (by first | exact Or.inl rfl | exact Or.inr rfl)) (pgs_cons (pg_name (i := 4) sc_end_row.nd rfl (by first | exact Or.inl rfl | exact Or.inr rfl)) (pgs_cons (pg_name (i := 5) sc_end_row.nd rfl (by first | exact Or.inl rfl | exact Or.inr rfl)) pgs_nil)))))))
      (pdss_one (pds_ret (pd_op op_addA opd_add (pd_op op_addA opd_add (pd_tup (pda_cons pd_int (pda_cons pd_int (pda_cons (pd_op op_or opd_or (pd_var 1 (pv 1)) (pd_op op_mulA opd_mul pd_int (pd_callTy call_int1 cd_int rfl T.z_int (by decide +kernel) (pda_cons (pd_cmp (op_eqD hr.units) opd_eq (pd_var 2 (pv 2)) pd_str) pda_nil)))) (pda_cons (pd_op op_addA opd_add pd_int (pd_callTy call_int1 cd_int rfl T.z_int (by decide +kernel) (pda_cons (pd_cmp (op_eqD hr.units) opd_eq (pd_var 3 (pv 3)) pd_str) pda_nil))) pda_nil))))) (pd_callP (dds := []) (ok_two T) (hr.mono (by first | decide | omega)) T.m_two T.F_two.kp T.b_two .nil (fun _ _ => rfl) tk (pda_cons (pd_var 4 (pv 4)) pda_nil))) (pd_tup (pda_cons (pd_var 5 (pv 5)) pda_nil))))))
theorem ok_end_row (T : Tx w K mg A) : FnOk P w K mg base (L2.CX P w) 2 A.f_end_row A.d_end_row ["end"] (spP K mg 1 g_end_row) :=
  fn_asP (fn_pure (bd_end_row T)) eq_end_row
theorem bd_settings_row (T : Tx w K mg A) : FnOk P w K mg base (L2.CX P w) 4 A.f_settings_row A.d_settings_row ["plan"] (spD K mg 1 (runF 3 b_settings_row)) :=
  fn_st T.F_settings_row sc_settings_row fun cdv Ar outer s H E hr => by
    have tk : Takes (cxOf (L2.CX P w) P w K mg base N_settings_row "settings_row" (defScope s_settings_row) A.f_settings_row cdv Ar outer s H E) (fun cls d _ H' => E cls d H') := takes_of rfl rfl rfl rfl
    exact (pdss_cons (pds_expr (pd_callP (dds := []) (ok_need_plan T) (hr.mono (by first | decide | omega)) T.m_need_plan T.F_need_plan.kp T.b_need_plan .nil (fun _ _ => rfl) tk (pda_cons (pd_var 0 (pv 0)) pda_nil)))
      (pdss_cons (pds_set (i := 1) sc_settings_row.nd rfl (by first | exact Or.inl rfl | exact Or.inr rfl) (pd_tup (pda_cons pd_int (pda_cons pd_int (pda_cons pd_int (pda_cons pd_int (pda_cons (pd_callB call_len cd_len rfl T.z_len (by decide +kernel) (pda_cons (pd_ix (pd_var 0 (pv 0)) pd_int) pda_nil)) (pda_cons pd_int (pda_cons pd_int (pda_cons pd_int (pda_cons pd_int pda_nil)))))))))))
      (pdss_cons (pds_for (passes_of rfl) rfl (pdi_tup (pd_ix (pd_var 0 (pv 0)) pd_int)) (pdg_name sc_settings_row.nd rfl (by first | exact Or.inl rfl | exact Or.inr rfl)) (pdss_one (pds_aug (i := 1) sc_settings_row.nd rfl (by first | exact Or.inl rfl | exact Or.inr rfl) (pd_callP (dds := []) (ok_end_row T) (hr.mono (by first | decide | omega)) T.m_end_row T.F_end_row.kp T.b_end_row .nil (fun _ _ => rfl) tk (pda_cons (pd_var 2 (pv 2)) pda_nil)) (pip_of iop_catT) opd_icat)))
      (pdss_one (pds_ret (pd_op op_addA opd_add (pd_op op_addA opd_add (pd_op op_addA opd_add (pd_tup (pda_cons pd_int (pda_cons pd_int pda_nil))) (pd_callP (dds := []) (ok_two T) (hr.mono (by first | decide | omega)) T.m_two T.F_two.kp T.b_two .nil (fun _ _ => rfl) tk (pda_cons (pd_op op_addA opd_add pd_int (pd_callB call_len cd_len rfl T.z_len (by decide +kernel) (pda_cons (pd_var 1 (pv 1)) pda_nil))) pda_nil))) (pd_tup (pda_cons pd_int (pda_cons pd_int (pda_cons pd_int (pda_cons pd_int (pda_cons pd_int pda_nil))))))) (pd_var 1 (pv 1))))))))
theorem ok_settings_row (T : Tx w K mg A) : FnOk P w K mg base (L2.CX P w) 4 A.f_settings_row A.d_settings_row ["plan"] (spP K mg 1 g_settings_row) :=
  fn_asP (fn_pure (bd_settings_row T)) eq_settings_row
theorem bd_end_of (T : Tx w K mg A) : FnOk P w K mg base (L2.CX P w) 1 A.f_end_of A.d_end_of ["row"] (spD K mg 1 (runF 2 b_end_of)) :=
  fn_st T.F_end_of sc_end_of fun cdv Ar outer s H E hr => by
    have tk : Takes (cxOf (L2.CX P w) P w K mg base N_end_of "end_of" (defScope s_end_of) A.f_end_of cdv Ar outer s H E) (fun cls d _ H' => E cls d H') := takes_of rfl rfl rfl rfl
    exact (pdss_cons (pds_set (i := 1) sc_end_of.nd rfl (by first | exact Or.inl rfl | exact Or.inr rfl) (pd_if (pdt_cmp op_ge opd_ge (pd_ix (pd_var 0 (pv 0)) pd_int) pd_int) pd_str pd_str))
      (pdss_one (pds_ret (pd_tup (pda_cons (pd_op op_and opd_and (pd_ix (pd_var 0 (pv 0)) pd_int) pd_int) (pda_cons (pd_var 1 (pv 1)) (pda_cons (pd_if (pdt_cmp (op_eqD hr.units) opd_eq (pd_ix (pd_var 0 (pv 0)) pd_int) pd_int) pd_str pd_str) (pda_cons (pd_op op_or opd_or (pd_ix (pd_var 0 (pv 0)) pd_int) (pd_op op_shl opd_shl (pd_ix (pd_var 0 (pv 0)) pd_int) pd_int)) (pda_cons (pd_ix (pd_var 0 (pv 0)) pd_int) pda_nil)))))))))
theorem ok_end_of (T : Tx w K mg A) : FnOk P w K mg base (L2.CX P w) 1 A.f_end_of A.d_end_of ["row"] (spP K mg 1 g_end_of) :=
  fn_asP (fn_pure (bd_end_of T)) eq_end_of
theorem bd_first_unlike (T : Tx w K mg A) : FnOk P w K mg base (L2.CX P w) 1 A.f_first_unlike A.d_first_unlike ["row", "due"] (spD K mg 2 (runF 5 b_first_unlike)) :=
  fn_st T.F_first_unlike sc_first_unlike fun cdv Ar outer s H E hr => by
    have tk : Takes (cxOf (L2.CX P w) P w K mg base N_first_unlike "first_unlike" (defScope s_first_unlike) A.f_first_unlike cdv Ar outer s H E) (fun cls d _ H' => E cls d H') := takes_of rfl rfl rfl rfl
    exact (pdss_cons (pds_for (passes_of rfl) rfl (pdi_enumZ rfl T.z_enumerate rfl T.z_zip (pda_cons (pd_var 0 (pv 0)) (pda_cons (pd_var 1 (pv 1)) pda_nil))) (pdg_nest (i := 2) (is := [3, 4]) (pg_tup rfl (pgs_cons (pg_name (i := 2) sc_first_unlike.nd rfl (by first | exact Or.inl rfl | exact Or.inr rfl)) (pgs_cons (pg_tup rfl (pgs_cons (pg_name (i := 3) sc_first_unlike.nd rfl (by first | exact Or.inl rfl | exact Or.inr rfl)) (pgs_cons (pg_name (i := 4) sc_first_unlike.nd rfl (by first | exact Or.inl rfl | exact Or.inr rfl)) pgs_nil))) pgs_nil)))) (pdss_one (pds_if (pdt_cmp (op_neD hr.units) opd_ne (pd_var 3 (pv 3)) (pd_var 4 (pv 4))) (pdss_one (pds_ret (pd_var 2 (pv 2)))) pdss_nil)))
      (pdss_cons (pds_if (pdt_cmp (op_neD hr.units) opd_ne (pd_callB call_len cd_len rfl T.z_len (by decide +kernel) (pda_cons (pd_var 0 (pv 0)) pda_nil)) (pd_callB call_len cd_len rfl T.z_len (by decide +kernel) (pda_cons (pd_var 1 (pv 1)) pda_nil))) (pdss_one (pds_ret (pd_callB (cr_minA rfl) cd_min rfl T.z_min (by decide +kernel) (pda_cons (pd_callB call_len cd_len rfl T.z_len (by decide +kernel) (pda_cons (pd_var 0 (pv 0)) pda_nil)) (pda_cons (pd_callB call_len cd_len rfl T.z_len (by decide +kernel) (pda_cons (pd_var 1 (pv 1)) pda_nil)) pda_nil))))) pdss_nil)
      (pdss_one (pds_ret (pd_op op_sub opd_sub pd_int pd_int)))))
theorem ok_first_unlike (T : Tx w K mg A) : FnOk P w K mg base (L2.CX P w) 1 A.f_first_unlike A.d_first_unlike ["row", "due"] (spP K mg 2 g_first_unlike) :=
  fn_asP (fn_pure (bd_first_unlike T)) eq_first_unlike
theorem bd_plan_told (T : Tx w K mg A) : FnOk P w K mg base (L2.CX P w) 2 A.f_plan_told A.d_plan_told ["device", "settings"] (spD K mg 2 (runF 4 b_plan_told)) :=
  fn_st T.F_plan_told sc_plan_told fun cdv Ar outer s H E hr => by
    have tk : Takes (cxOf (L2.CX P w) P w K mg base N_plan_told "plan_told" (defScope s_plan_told) A.f_plan_told cdv Ar outer s H E) (fun cls d _ H' => E cls d H') := takes_of rfl rfl rfl rfl
    exact (pdss_cons (pds_set (i := 2) sc_plan_told.nd rfl (by first | exact Or.inl rfl | exact Or.inr rfl) (pd_new pda_nil))
      (pdss_cons (pds_for (passes_of rfl) rfl (pdi_range3 rfl T.z_range (pda_cons pd_int (pda_cons (pd_op op_sub opd_sub (pd_callB call_len cd_len rfl T.z_len (by decide +kernel) (pda_cons (pd_var 1 (pv 1)) pda_nil)) pd_int) (pda_cons pd_int pda_nil)))) (pdg_name sc_plan_told.nd rfl (by first | exact Or.inl rfl | exact Or.inr rfl)) (pdss_one (pds_expr (pd_lstM (fun h1 h2 => pe_bm PySem.F.plainAttrs_list PySem.F.slot_list_append PySem.F.type_list_append mt_append h1 h2) md_append (pd_var 2 (pv 2)) (pda_cons (pd_callP (dds := []) (ok_end_of T) (hr.mono (by first | decide | omega)) T.m_end_of T.F_end_of.kp T.b_end_of .nil (fun _ _ => rfl) tk (pda_cons (pd_sl (pd_var 1 (pv 1)) (pdo_some (pd_var 3 (pv 3))) (pdo_some (pd_op op_addA opd_add (pd_var 3 (pv 3)) pd_int))) pda_nil)) pda_nil)))))
      (pdss_one (pds_ret (pd_tup (pda_cons (pd_op op_or opd_or (pd_ix (pd_var 0 (pv 0)) pd_int) (pd_op op_shl opd_shl (pd_ix (pd_var 0 (pv 0)) pd_int) pd_int)) (pda_cons (pd_op op_or opd_or (pd_ix (pd_var 0 (pv 0)) pd_int) (pd_op op_shl opd_shl (pd_ix (pd_var 0 (pv 0)) pd_int) pd_int)) (pda_cons (pd_ix (pd_var 0 (pv 0)) pd_int) (pda_cons (pd_callTy call_tuple_of cd_tuple rfl T.z_tuple (by decide +kernel) (pda_cons (pd_var 2 (pv 2)) pda_nil)) pda_nil)))))))))
theorem ok_plan_told (T : Tx w K mg A) : FnOk P w K mg base (L2.CX P w) 2 A.f_plan_told A.d_plan_told ["device", "settings"] (spP K mg 2 g_plan_told) :=
  fn_asP (fn_pure (bd_plan_told T)) eq_plan_told
theorem bd_read_plan (T : Tx w K mg A) : FnOk P w K mg base (L2.CX P w) 5 A.f_read_plan A.d_read_plan ["device", "settings"] (spD K mg 2 (runF 5 b_read_plan)) :=
  fn_st T.F_read_plan sc_read_plan fun cdv Ar outer s H E hr => by
    have tk : Takes (cxOf (L2.CX P w) P w K mg base N_read_plan "read_plan" (defScope s_read_plan) A.f_read_plan cdv Ar outer s H E) (fun cls d _ H' => E cls d H') := takes_of rfl rfl rfl rfl
    exact (pdss_cons (pds_if (pdt_cmp (op_neD hr.units) opd_ne (pd_callB call_len cd_len rfl T.z_len (by decide +kernel) (pda_cons (pd_var 0 (pv 0)) pda_nil)) pd_int) (pdss_one (pds_raiseF (xx_BadPlan T) (fun _ _ _ _ h r => okI_rd h r) rfl (hr.mono (by first | decide | omega)) tk (pda_cons (pd_callB (cr_minA rfl) cd_min rfl T.z_min (by decide +kernel) (pda_cons pd_int (pda_cons (pd_callB call_len cd_len rfl T.z_len (by decide +kernel) (pda_cons (pd_var 0 (pv 0)) pda_nil)) pda_nil))) pda_nil))) pdss_nil)
      (pdss_cons (pds_set (i := 2) sc_read_plan.nd rfl (by first | exact Or.inl rfl | exact Or.inr rfl) (pd_callP (dds := []) (ok_plan_told T) (hr.mono (by first | decide | omega)) T.m_plan_told T.F_plan_told.kp T.b_plan_told .nil (fun _ _ => rfl) tk (pda_cons (pd_var 0 (pv 0)) (pda_cons (pd_var 1 (pv 1)) pda_nil))))
      (pdss_cons (pds_try_fromF (i := 3) rfl rfl sc_read_plan.nd rfl rfl ⟨rfl, by decide, Or.inl T.g_BadPlan⟩ (L2H.passesAt_of rfl) tk (hr.mono (by first | decide | omega)) T.ct_BadPlan T.rs_BadPlan (xh_BadPlan T) (fun _ _ _ _ h r => okI_rd h r)
      (fun W2 pn2 xe2 tk2 hp2 => (pdss_one (pds_expr (pd_callPN (dds := []) (okN_need_plan T) (hr.mono (by first | decide | omega)) T.m_need_plan T.F_need_plan.kp T.b_need_plan .nil (fun _ _ => rfl) tk2 (pda_cons (pd_var 2 (pv 2)) pda_nil)))))
      (fun a dx oe cls d pn e hh hq => by
        obtain ⟨C0, hC, hcl⟩ := hh.c
        subst hcl
        have hZ := hh.z
        exact (pda_cons (pd_dget2 (by first | (have := hr.units; omega) | exact Nat.lt_of_le_of_lt (Nat.add_le_add_left (by decide) _) hr.units) (pd_disp (pdp_cons pd_int pd_int (pdp_cons pd_int pd_int (pdp_cons pd_int pd_int pdp_nil)))) (pd_xf T.xf_BadPlan T.no_BadPlan hZ hh.f (fun z => hh.n2 (T.nz_BadPlan_BadPlan hq (of_decide_eq_true z))) (fun z => Option.some.inj (hC.symm.trans ((congrArg mg (of_decide_eq_true z)).trans T.g_BadPlan))) (pv 3)) (pd_op op_addA opd_add (pd_op op_addA opd_add pd_int pd_int) (pd_op op_mulA opd_mul pd_int (pd_op op_sub opd_sub (pd_xf T.xf_BadPlan T.no_BadPlan hZ hh.f (fun z => hh.n2 (T.nz_BadPlan_BadPlan hq (of_decide_eq_true z))) (fun z => Option.some.inj (hC.symm.trans ((congrArg mg (of_decide_eq_true z)).trans T.g_BadPlan))) (pv 3)) pd_int)))) pda_nil))
      in_read_plan (Or.inl rfl))
      (pdss_cons (pds_set (i := 4) sc_read_plan.nd rfl (by first | exact Or.inl rfl | exact Or.inr rfl) (pd_callP (dds := []) (ok_first_unlike T) (hr.mono (by first | decide | omega)) T.m_first_unlike T.F_first_unlike.kp T.b_first_unlike .nil (fun _ _ => rfl) tk (pda_cons (pd_op op_addA opd_add (pd_var 0 (pv 0)) (pd_var 1 (pv 1))) (pda_cons (pd_op op_addA opd_add (pd_callP (dds := []) (ok_device_row T) (hr.mono (by first | decide | omega)) T.m_device_row T.F_device_row.kp T.b_device_row .nil (fun _ _ => rfl) tk (pda_cons (pd_var 2 (pv 2)) pda_nil)) (pd_callP (dds := []) (ok_settings_row T) (hr.mono (by first | decide | omega)) T.m_settings_row T.F_settings_row.kp T.b_settings_row .nil (fun _ _ => rfl) tk (pda_cons (pd_var 2 (pv 2)) pda_nil))) pda_nil))))
      (pdss_cons (pds_if (pdt_cmp op_ge opd_ge (pd_var 4 (pv 4)) pd_int) (pdss_one (pds_raiseF (xx_BadPlan T) (fun _ _ _ _ h r => okI_rd h r) rfl (hr.mono (by first | decide | omega)) tk (pda_cons (pd_var 4 (pv 4)) pda_nil))) pdss_nil)
      (pdss_one (pds_ret (pd_var 2 (pv 2)))))))))
theorem ok_read_plan (T : Tx w K mg A) : FnOk P w K mg base (L2.CX P w) 5 A.f_read_plan A.d_read_plan ["device", "settings"] (spP K mg 2 g_read_plan) :=
  fn_asP (fn_pure (bd_read_plan T)) eq_read_plan
theorem bd_law_bag (T : Tx w K mg A) : FnOk P w K mg base (L2.CX P w) 1 A.f_law_bag A.d_law_bag ["_law_script"] (spD K mg 1 (runF 4 b_law_bag)) :=
  fn_st T.F_law_bag sc_law_bag fun cdv Ar outer s H E hr => by
    have tk : Takes (cxOf (L2.CX P w) P w K mg base N_law_bag "_law_bag" (defScope s_law_bag) A.f_law_bag cdv Ar outer s H E) (fun cls d _ H' => E cls d H') := takes_of rfl rfl rfl rfl
    exact (pdss_cons (pds_set (i := 1) sc_law_bag.nd rfl (by first | exact Or.inl rfl | exact Or.inr rfl) (pd_callTy call_list_of cd_list rfl T.z_list (by decide +kernel) (pda_cons (pd_sl (pd_var 0 (pv 0)) pdo_none (pdo_some pd_int)) pda_nil)))
      (pdss_cons (pds_set (i := 2) sc_law_bag.nd rfl (by first | exact Or.inl rfl | exact Or.inr rfl) (pd_op op_addA opd_add pd_int (pd_callB call_len cd_len rfl T.z_len (by decide +kernel) (pda_cons (pd_var 1 (pv 1)) pda_nil))))
      (pdss_cons (pds_for (passes_of rfl) rfl (pdi_list (pd_var 1 (pv 1))) (pdg_name sc_law_bag.nd rfl (by first | exact Or.inl rfl | exact Or.inr rfl)) (pdss_one (pds_set (i := 2) sc_law_bag.nd rfl (by first | exact Or.inl rfl | exact Or.inr rfl) (pd_op op_mod opd_mod (pd_op op_addA opd_add (pd_op op_mulA opd_mul (pd_var 2 (pv 2)) pd_int) (pd_var 3 (pv 3))) pd_int))))
      (pdss_one (pds_ret (pd_new (pda_cons (pd_var 1 (pv 1)) (pda_cons pd_int (pda_cons pd_int (pda_cons (pd_var 2 (pv 2)) pda_nil))))))))))
theorem ok_law_bag (T : Tx w K mg A) : FnOk P w K mg base (L2.CX P w) 1 A.f_law_bag A.d_law_bag ["_law_script"] (spD K mg 1 g_law_bag) :=
  fn_as (bd_law_bag T) eq_law_bag
theorem bd_law_pull (T : Tx w K mg A) : FnOk P w K mg base (L2.CX P w) 1 A.f_law_pull A.d_law_pull ["_law_bag_here", "_law_upto"] (spD K mg 2 (runF 6 b_law_pull)) :=
  fn_st T.F_law_pull sc_law_pull fun cdv Ar outer s H E hr => by
    have tk : Takes (cxOf (L2.CX P w) P w K mg base N_law_pull "_law_pull" (defScope s_law_pull) A.f_law_pull cdv Ar outer s H E) (fun cls d _ H' => E cls d H') := takes_of rfl rfl rfl rfl
    exact (pdss_cons (pds_if (pdt_cmp op_lt opd_lt (pd_ix (pd_var 0 (pv 0)) pd_int) pd_int) (pdss_cons (pds_setIx (pd_op op_addA opd_add (pd_ix (pd_var 0 (pv 0)) pd_int) pd_int) (pd_var 0 (pv 0)) pd_int set_list setd_list)
      (pdss_cons (pds_set (i := 2) sc_law_pull.nd rfl (by first | exact Or.inl rfl | exact Or.inr rfl) (pd_op op_addA opd_add (pd_ix (pd_var 0 (pv 0)) pd_int) (pd_op op_mulA opd_mul (pd_ix (pd_var 0 (pv 0)) pd_int) pd_int)))
      (pdss_cons (pds_if (pdt_cmp op_le opd_le (pd_ix (pd_var 0 (pv 0)) pd_int) (pd_callB call_len cd_len rfl T.z_len (by decide +kernel) (pda_cons (pd_ix (pd_var 0 (pv 0)) pd_int) pda_nil))) (pdss_one (pds_set (i := 2) sc_law_pull.nd rfl (by first | exact Or.inl rfl | exact Or.inr rfl) (pd_ix (pd_ix (pd_var 0 (pv 0)) pd_int) (pd_op op_sub opd_sub (pd_ix (pd_var 0 (pv 0)) pd_int) pd_int)))) pdss_nil)
      (pdss_cons (pds_if (pdw_pdt (pdw_or (pdt_cmp op_gt opd_gt (pd_ix (pd_var 0 (pv 0)) pd_int) (pd_callB call_len cd_len rfl T.z_len (by decide +kernel) (pda_cons (pd_ix (pd_var 0 (pv 0)) pd_int) pda_nil))) (pdw_or1 (pdt_cmp op_lt opd_lt (pd_var 2 (pv 2)) (pd_op op_pow opd_pow pd_int pd_int))))) (pdss_cons (pds_set (i := 3) sc_law_pull.nd rfl (by first | exact Or.inl rfl | exact Or.inr rfl) (pd_op op_mod opd_mod (pd_op op_addA opd_add (pd_op op_addA opd_add (pd_op op_mulA opd_mul (pd_var 2 (pv 2)) pd_int) (pd_op op_mulA opd_mul (pd_ix (pd_var 0 (pv 0)) pd_int) pd_int)) (pd_ix (pd_var 0 (pv 0)) pd_int)) pd_int))
      (pdss_cons (pds_set (i := 4) sc_law_pull.nd rfl (by first | exact Or.inl rfl | exact Or.inr rfl) (pd_op op_mod opd_mod (pd_op op_addA opd_add (pd_op op_mulA opd_mul (pd_var 3 (pv 3)) (pd_var 3 (pv 3))) (pd_ix (pd_var 0 (pv 0)) pd_int)) pd_int))
      (pdss_one (pds_ret (pd_op op_mod opd_mod (pd_op op_fdivW opd_div (pd_op op_mod opd_mod (pd_op op_addA opd_add (pd_op op_mulA opd_mul (pd_var 4 (pv 4)) pd_int) (pd_var 3 (pv 3))) pd_int) pd_int) (pd_var 1 (pv 1))))))) pdss_nil)
      (pdss_one (pds_setIx (pd_var 2 (pv 2)) (pd_var 0 (pv 0)) pd_int set_list setd_list)))))) pdss_nil)
      (pdss_cons (pds_set (i := 5) sc_law_pull.nd rfl (by first | exact Or.inl rfl | exact Or.inr rfl) (pd_op op_mod opd_mod (pd_ix (pd_var 0 (pv 0)) pd_int) (pd_var 1 (pv 1))))
      (pdss_cons (pds_setIx (pd_op op_fdivW opd_div (pd_ix (pd_var 0 (pv 0)) pd_int) (pd_var 1 (pv 1))) (pd_var 0 (pv 0)) pd_int set_list setd_list)
      (pdss_one (pds_ret (pd_var 5 (pv 5)))))))
theorem ok_law_pull (T : Tx w K mg A) : FnOk P w K mg base (L2.CX P w) 1 A.f_law_pull A.d_law_pull ["_law_bag_here", "_law_upto"] (spD K mg 2 g_law_pull) :=
  fn_as (bd_law_pull T) eq_law_pull
theorem bd_law_whole (T : Tx w K mg A) : FnOk P w K mg base (L2.CX P w) 1 A.f_law_whole A.d_law_whole ["_law_found"] (spD K mg 1 (runF 1 b_law_whole)) :=
  fn_st T.F_law_whole sc_law_whole fun cdv Ar outer s H E hr => by
    have tk : Takes (cxOf (L2.CX P w) P w K mg base N_law_whole "_law_whole" (defScope s_law_whole) A.f_law_whole cdv Ar outer s H E) (fun cls d _ H' => E cls d H') := takes_of rfl rfl rfl rfl
    exact (pdss_one (pds_ret (pd_and (pd_callB call_isi cd_isi rfl T.z_isinstance (by decide +kernel) (pda_cons (pd_var 0 (pv 0)) (pda_cons (pd_ty (n := "int") rfl T.z_int (by decide +kernel)) pda_nil))) (pd_one (pd_not (pd_callB call_isi cd_isi rfl T.z_isinstance (by decide +kernel) (pda_cons (pd_var 0 (pv 0)) (pda_cons (pd_ty (n := "bool") rfl T.z_bool (by decide +kernel)) pda_nil))))))))
theorem ok_law_whole (T : Tx w K mg A) : FnOk P w K mg base (L2.CX P w) 1 A.f_law_whole A.d_law_whole ["_law_found"] (spP K mg 1 g_law_whole) :=
  fn_asP (fn_pure (bd_law_whole T)) eq_law_whole
theorem bd_law_same (T : Tx w K mg A) {n : Nat} (IH : FnOk P w K mg base (L2.CX P w) (n + 1) A.f_law_same A.d_law_same ["_law_found", "_law_due_here"] (spP K mg 2 (g_sameN n))) : FnOk P w K mg base (L2.CX P w) (n + 2) A.f_law_same A.d_law_same ["_law_found", "_law_due_here"] (spD K mg 2 (runF 3 (b_law_same n))) :=
  fn_st T.F_law_same sc_law_same fun cdv Ar outer s H E hr => by
    have tk : Takes (cxOf (L2.CX P w) P w K mg base N_law_same "_law_same" (defScope s_law_same) A.f_law_same cdv Ar outer s H E) (fun cls d _ H' => E cls d H') := takes_of rfl rfl rfl rfl
    exact (pdss_cons (pds_if (pdt_isN (pd_var 1 (pv 1))) (pdss_one (pds_ret (pd_isN (pd_var 0 (pv 0))))) pdss_nil)
      (pdss_cons (pds_if (pdt_val (pd_callB call_isi cd_isi rfl T.z_isinstance (by decide +kernel) (pda_cons (pd_var 1 (pv 1)) (pda_cons (pd_ty (n := "bool") rfl T.z_bool (by decide +kernel)) pda_nil)))) (pdss_one (pds_ret (pd_and (pd_callB call_isi cd_isi rfl T.z_isinstance (by decide +kernel) (pda_cons (pd_var 0 (pv 0)) (pda_cons (pd_ty (n := "bool") rfl T.z_bool (by decide +kernel)) pda_nil))) (pd_one (pd_cmp (op_eqD hr.units) opd_eq (pd_var 0 (pv 0)) (pd_var 1 (pv 1))))))) pdss_nil)
      (pdss_cons (pds_if (pdt_val (pd_callB call_isi cd_isi rfl T.z_isinstance (by decide +kernel) (pda_cons (pd_var 1 (pv 1)) (pda_cons (pd_ty (n := "int") rfl T.z_int (by decide +kernel)) pda_nil)))) (pdss_one (pds_ret (pd_and (pd_callP (dds := []) (ok_law_whole T) (hr.mono (by first | decide | omega)) T.m_law_whole T.F_law_whole.kp T.b_law_whole .nil (fun _ _ => rfl) tk (pda_cons (pd_var 0 (pv 0)) pda_nil)) (pd_one (pd_cmp (op_eqD hr.units) opd_eq (pd_var 0 (pv 0)) (pd_var 1 (pv 1))))))) pdss_nil)
      (pdss_cons (pds_if (pdt_val (pd_callB call_isi cd_isi rfl T.z_isinstance (by decide +kernel) (pda_cons (pd_var 1 (pv 1)) (pda_cons (pd_ty (n := "str") rfl T.z_str (by decide +kernel)) pda_nil)))) (pdss_one (pds_ret (pd_and (pd_callB call_isi cd_isi rfl T.z_isinstance (by decide +kernel) (pda_cons (pd_var 0 (pv 0)) (pda_cons (pd_ty (n := "str") rfl T.z_str (by decide +kernel)) pda_nil))) (pd_one (pd_cmp (op_eqD hr.units) opd_eq (pd_var 0 (pv 0)) (pd_var 1 (pv 1))))))) pdss_nil)
      (pdss_cons (pds_if (pdw_pdt (pdw_or (pdt_cmp (op_neD hr.units) opd_ne (pd_callB call_isi cd_isi rfl T.z_isinstance (by decide +kernel) (pda_cons (pd_var 1 (pv 1)) (pda_cons (pd_ty (n := "list") rfl T.z_list (by decide +kernel)) pda_nil))) (pd_callB call_isi cd_isi rfl T.z_isinstance (by decide +kernel) (pda_cons (pd_var 0 (pv 0)) (pda_cons (pd_ty (n := "list") rfl T.z_list (by decide +kernel)) pda_nil)))) (pdw_or1 (pdt_cmp (op_neD hr.units) opd_ne (pd_callB call_isi cd_isi rfl T.z_isinstance (by decide +kernel) (pda_cons (pd_var 1 (pv 1)) (pda_cons (pd_ty (n := "tuple") rfl T.z_tuple (by decide +kernel)) pda_nil))) (pd_callB call_isi cd_isi rfl T.z_isinstance (by decide +kernel) (pda_cons (pd_var 0 (pv 0)) (pda_cons (pd_ty (n := "tuple") rfl T.z_tuple (by decide +kernel)) pda_nil))))))) (pdss_one (pds_ret pd_bl)) pdss_nil)
      (pdss_cons (pds_if (pdt_cmp (op_neD hr.units) opd_ne (pd_callB call_len cd_len rfl T.z_len (by decide +kernel) (pda_cons (pd_var 0 (pv 0)) pda_nil)) (pd_callB call_len cd_len rfl T.z_len (by decide +kernel) (pda_cons (pd_var 1 (pv 1)) pda_nil))) (pdss_one (pds_ret pd_bl)) pdss_nil)
      (pdss_one (pds_ret (pd_callB (cr_all rfl) cd_all rfl T.z_all (by decide +kernel) (pda_cons (pd_lc (own := [("_law_spot", 2)]) rfl sc_law_same.nd (pdi_range1 rfl T.z_range (pda_cons (pd_callB call_len cd_len rfl T.z_len (by decide +kernel) (pda_cons (pd_var 1 (pv 1)) pda_nil)) pda_nil)) (blkOk_by (N := N_law_same) (sc := defScope s_law_same) (by decide +kernel)) (fun _ _ _ _ _ => (pdg_name sc_law_same.nd rfl (by first | exact Or.inl rfl | exact Or.inr rfl))) (fun _ _ _ _ _ => pdts_nil) (fun _ _ _ _ _ => (pd_callP (dds := []) (IH) (hr.mono (by first | decide | omega)) T.m_law_same T.F_law_same.kp T.b_law_same .nil (fun _ _ => rfl) takes0 (pda_cons (pd_ix (pd_var 0 (pv 0)) (pd_var 2 (pv 2))) (pda_cons (pd_ix (pd_var 1 (pv 1)) (pd_var 2 (pv 2))) pda_nil)))) (by decide)) pda_nil))))))))))
theorem same0 {f : Addr} {fd : FuncData} : FnOk P w K mg base (L2.CX P w) 1 f fd ["_law_found", "_law_due_here"] (spP K mg 2 (g_sameN 0)) :=
  ⟨fun _ _ _ _ q => spP_len q, fun _ _ _ _ _ _ _ _ _ _ _ _ _ hs => by obtain ⟨_, _, _, _, _, z⟩ := hs; exact z.elim⟩
theorem sameN_ok (T : Tx w K mg A) : ∀ n, FnOk P w K mg base (L2.CX P w) (n + 1) A.f_law_same A.d_law_same ["_law_found", "_law_due_here"] (spP K mg 2 (g_sameN n))
  | 0 => same0
  | n + 1 => fn_asP (fn_pure (bd_law_same T (sameN_ok T n))) (eq_law_same n)
theorem ok_law_same (T : Tx w K mg A) : FnOk P w K mg base (L2.CX P w) 6 A.f_law_same A.d_law_same ["_law_found", "_law_due_here"] (spP K mg 2 g_law_same) := sameN_ok T 5

theorem bd_law_one (T : Tx w K mg A) : FnOk P w K mg base (L2.CX P w) 2 A.f_law_one A.d_law_one ["_law_bag_here", "_law_row"] (spD K mg 2 (runF 2 b_law_one)) :=
  fn_st T.F_law_one sc_law_one fun cdv Ar outer s H E hr => by
    have tk : Takes (cxOf (L2.CX P w) P w K mg base N_law_one "_law_one" (defScope s_law_one) A.f_law_one cdv Ar outer s H E) (fun cls d _ H' => E cls d H') := takes_of rfl rfl rfl rfl
    exact (pdss_one (pds_ret (pd_ix (pd_var 1 (pv 1)) (pd_callS (dds := []) (ok_law_pull T) (hr.mono (by first | decide | omega)) T.m_law_pull T.F_law_pull.kp T.b_law_pull .nil (fun _ _ => rfl) tk (pda_cons (pd_var 0 (pv 0)) (pda_cons (pd_callB call_len cd_len rfl T.z_len (by decide +kernel) (pda_cons (pd_var 1 (pv 1)) pda_nil)) pda_nil))))))
theorem ok_law_one (T : Tx w K mg A) : FnOk P w K mg base (L2.CX P w) 2 A.f_law_one A.d_law_one ["_law_bag_here", "_law_row"] (spD K mg 2 g_law_one) :=
  fn_as (bd_law_one T) eq_law_one
theorem bd_law_end (T : Tx w K mg A) : FnOk P w K mg base (L2.CX P w) 3 A.f_law_end A.d_law_end ["_law_bag_here", "_law_spot"] (spD K mg 2 (runF 4 b_law_end)) :=
  fn_st T.F_law_end sc_law_end fun cdv Ar outer s H E hr => by
    have tk : Takes (cxOf (L2.CX P w) P w K mg base N_law_end "_law_end" (defScope s_law_end) A.f_law_end cdv Ar outer s H E) (fun cls d _ H' => E cls d H') := takes_of rfl rfl rfl rfl
    exact (pdss_cons (pds_set (i := 2) sc_law_end.nd rfl (by first | exact Or.inl rfl | exact Or.inr rfl) (pd_callS (dds := []) (ok_law_one T) (hr.mono (by first | decide | omega)) T.m_law_one T.F_law_one.kp T.b_law_one .nil (fun _ _ => rfl) tk (pda_cons (pd_var 0 (pv 0)) (pda_cons (pd_lst (pda_cons pd_str (pda_cons pd_str (pda_cons pd_str pda_nil)))) pda_nil))))
      (pdss_cons (pds_if (pdt_cmp (op_eqD hr.units) opd_eq (pd_var 2 (pv 2)) pd_str) (pdss_one (pds_ret (pd_tup (pda_cons (pd_op op_addA opd_add (pd_op op_fdivW opd_div (pd_var 1 (pv 1)) pd_int) pd_int) (pda_cons (pd_ix (pd_lst (pda_cons pd_str (pda_cons pd_str pda_nil))) (pd_op op_mod opd_mod (pd_var 1 (pv 1)) pd_int)) (pda_cons (pd_var 2 (pv 2)) (pda_cons (pd_callS (dds := []) (ok_law_one T) (hr.mono (by first | decide | omega)) T.m_law_one T.F_law_one.kp T.b_law_one .nil (fun _ _ => rfl) tk (pda_cons (pd_var 0 (pv 0)) (pda_cons (pd_lst (pda_cons pd_int (pda_cons pd_int (pda_cons pd_int (pda_cons pd_int (pda_cons pd_int pda_nil)))))) pda_nil))) (pda_cons pd_int pda_nil)))))))) pdss_nil)
      (pdss_cons (pds_set (i := 3) sc_law_end.nd rfl (by first | exact Or.inl rfl | exact Or.inr rfl) (pd_op op_addA opd_add pd_int (pd_callS (dds := []) (ok_law_pull T) (hr.mono (by first | decide | omega)) T.m_law_pull T.F_law_pull.kp T.b_law_pull .nil (fun _ _ => rfl) tk (pda_cons (pd_var 0 (pv 0)) (pda_cons (pd_callS (dds := []) (ok_law_one T) (hr.mono (by first | decide | omega)) T.m_law_one T.F_law_one.kp T.b_law_one .nil (fun _ _ => rfl) tk (pda_cons (pd_var 0 (pv 0)) (pda_cons (pd_lst (pda_cons pd_int (pda_cons pd_int pda_nil))) pda_nil))) pda_nil)))))
      (pdss_one (pds_ret (pd_tup (pda_cons (pd_op op_addA opd_add (pd_op op_fdivW opd_div (pd_var 1 (pv 1)) pd_int) pd_int) (pda_cons (pd_ix (pd_lst (pda_cons pd_str (pda_cons pd_str pda_nil))) (pd_op op_mod opd_mod (pd_var 1 (pv 1)) pd_int)) (pda_cons (pd_var 2 (pv 2)) (pda_cons (pd_var 3 (pv 3)) (pda_cons (pd_callS (dds := []) (ok_law_one T) (hr.mono (by first | decide | omega)) T.m_law_one T.F_law_one.kp T.b_law_one .nil (fun _ _ => rfl) tk (pda_cons (pd_var 0 (pv 0)) (pda_cons (pd_lst (pda_cons pd_int (pda_cons pd_int (pda_cons pd_int (pda_cons pd_int (pda_cons pd_int (pda_cons pd_int pda_nil))))))) pda_nil))) pda_nil)))))))))))
theorem ok_law_end (T : Tx w K mg A) : FnOk P w K mg base (L2.CX P w) 3 A.f_law_end A.d_law_end ["_law_bag_here", "_law_spot"] (spD K mg 2 g_law_end) :=
  fn_as (bd_law_end T) eq_law_end
theorem bd_law_ends (T : Tx w K mg A) : FnOk P w K mg base (L2.CX P w) 4 A.f_law_ends A.d_law_ends ["_law_bag_here", "_law_most"] (spD K mg 2 (runF 5 b_law_ends)) :=
  fn_st T.F_law_ends sc_law_ends fun cdv Ar outer s H E hr => by
    have tk : Takes (cxOf (L2.CX P w) P w K mg base N_law_ends "_law_ends" (defScope s_law_ends) A.f_law_ends cdv Ar outer s H E) (fun cls d _ H' => E cls d H') := takes_of rfl rfl rfl rfl
    exact (pdss_cons (pds_set (i := 2) sc_law_ends.nd rfl (by first | exact Or.inl rfl | exact Or.inr rfl) (pd_sortedSet rfl T.z_sorted rfl T.z_set (pd_lc (own := [("_law_k", 3)]) rfl sc_law_ends.nd (pdi_range1 rfl T.z_range (pda_cons (pd_callS (dds := []) (ok_law_pull T) (hr.mono (by first | decide | omega)) T.m_law_pull T.F_law_pull.kp T.b_law_pull .nil (fun _ _ => rfl) tk (pda_cons (pd_var 0 (pv 0)) (pda_cons (pd_op op_addA opd_add (pd_var 1 (pv 1)) pd_int) pda_nil))) pda_nil)) (blkOk_by (N := N_law_ends) (sc := defScope s_law_ends) (by decide +kernel)) (fun _ _ _ _ _ => (pdg_name sc_law_ends.nd rfl (by first | exact Or.inl rfl | exact Or.inr rfl))) (fun _ _ _ _ _ => pdts_nil) (fun _ _ _ _ _ => (pd_callS (dds := []) (ok_law_pull T) (hr.mono (by first | decide | omega)) T.m_law_pull T.F_law_pull.kp T.b_law_pull .nil (fun _ _ => rfl) takes0 (pda_cons (pd_var 0 (pv 0)) (pda_cons pd_int pda_nil)))) (by decide)) rfl))
      (pdss_one (pds_ret (pd_callTy call_tuple_of cd_tuple rfl T.z_tuple (by decide +kernel) (pda_cons (pd_lc (own := [("_law_spot", 4)]) rfl sc_law_ends.nd (pdi_list (pd_var 2 (pv 2))) (blkOk_by (N := N_law_ends) (sc := defScope s_law_ends) (by decide +kernel)) (fun _ _ _ _ _ => (pdg_name sc_law_ends.nd rfl (by first | exact Or.inl rfl | exact Or.inr rfl))) (fun _ _ _ _ _ => pdts_nil) (fun _ _ _ _ _ => (pd_callS (dds := []) (ok_law_end T) (hr.mono (by first | decide | omega)) T.m_law_end T.F_law_end.kp T.b_law_end .nil (fun _ _ => rfl) takes0 (pda_cons (pd_var 0 (pv 0)) (pda_cons (pd_var 4 (pv 4)) pda_nil)))) (by decide)) pda_nil)))))
theorem ok_law_ends (T : Tx w K mg A) : FnOk P w K mg base (L2.CX P w) 4 A.f_law_ends A.d_law_ends ["_law_bag_here", "_law_most"] (spD K mg 2 g_law_ends) :=
  fn_as (bd_law_ends T) eq_law_ends
theorem bd_law_plan (T : Tx w K mg A) : FnOk P w K mg base (L2.CX P w) 5 A.f_law_plan A.d_law_plan ["_law_bag_here", "_law_most", "_law_hub"] (spD K mg 3 (runF 6 b_law_plan)) :=
  fn_st T.F_law_plan sc_law_plan fun cdv Ar outer s H E hr => by
    have tk : Takes (cxOf (L2.CX P w) P w K mg base N_law_plan "_law_plan" (defScope s_law_plan) A.f_law_plan cdv Ar outer s H E) (fun cls d _ H' => E cls d H') := takes_of rfl rfl rfl rfl
    exact (pdss_cons (pds_set (i := 3) sc_law_plan.nd rfl (by first | exact Or.inl rfl | exact Or.inr rfl) (pd_ix (pd_lst (pda_cons (pd_callS (dds := []) (ok_law_pull T) (hr.mono (by first | decide | omega)) T.m_law_pull T.F_law_pull.kp T.b_law_pull .nil (fun _ _ => rfl) tk (pda_cons (pd_var 0 (pv 0)) (pda_cons pd_int pda_nil))) (pda_cons pd_int (pda_cons pd_int pda_nil)))) (pd_callS (dds := []) (ok_law_pull T) (hr.mono (by first | decide | omega)) T.m_law_pull T.F_law_pull.kp T.b_law_pull .nil (fun _ _ => rfl) tk (pda_cons (pd_var 0 (pv 0)) (pda_cons pd_int pda_nil)))))
      (pdss_cons (pds_set (i := 4) sc_law_plan.nd rfl (by first | exact Or.inl rfl | exact Or.inr rfl) (pd_ix (pd_lst (pda_cons (pd_callS (dds := []) (ok_law_pull T) (hr.mono (by first | decide | omega)) T.m_law_pull T.F_law_pull.kp T.b_law_pull .nil (fun _ _ => rfl) tk (pda_cons (pd_var 0 (pv 0)) (pda_cons pd_int pda_nil))) (pda_cons pd_int (pda_cons pd_int pda_nil)))) (pd_callS (dds := []) (ok_law_pull T) (hr.mono (by first | decide | omega)) T.m_law_pull T.F_law_pull.kp T.b_law_pull .nil (fun _ _ => rfl) tk (pda_cons (pd_var 0 (pv 0)) (pda_cons pd_int pda_nil)))))
      (pdss_cons (pds_set (i := 5) sc_law_plan.nd rfl (by first | exact Or.inl rfl | exact Or.inr rfl) (pd_if (pdt_val (pd_var 2 (pv 2))) (pd_op op_addA opd_add pd_int (pd_callS (dds := []) (ok_law_pull T) (hr.mono (by first | decide | omega)) T.m_law_pull T.F_law_pull.kp T.b_law_pull .nil (fun _ _ => rfl) tk (pda_cons (pd_var 0 (pv 0)) (pda_cons pd_int pda_nil)))) pd_int))
      (pdss_one (pds_ret (pd_tup (pda_cons (pd_var 3 (pv 3)) (pda_cons (pd_var 4 (pv 4)) (pda_cons (pd_var 5 (pv 5)) (pda_cons (pd_callS (dds := []) (ok_law_ends T) (hr.mono (by first | decide | omega)) T.m_law_ends T.F_law_ends.kp T.b_law_ends .nil (fun _ _ => rfl) tk (pda_cons (pd_var 0 (pv 0)) (pda_cons (pd_var 1 (pv 1)) pda_nil))) pda_nil))))))))))
theorem ok_law_plan (T : Tx w K mg A) : FnOk P w K mg base (L2.CX P w) 5 A.f_law_plan A.d_law_plan ["_law_bag_here", "_law_most", "_law_hub"] (spD K mg 3 g_law_plan) :=
  fn_as (bd_law_plan T) eq_law_plan
theorem bd_law_two (T : Tx w K mg A) : FnOk P w K mg base (L2.CX P w) 1 A.f_law_two A.d_law_two ["_law_number"] (spD K mg 1 (runF 1 b_law_two)) :=
  fn_st T.F_law_two sc_law_two fun cdv Ar outer s H E hr => by
    have tk : Takes (cxOf (L2.CX P w) P w K mg base N_law_two "_law_two" (defScope s_law_two) A.f_law_two cdv Ar outer s H E) (fun cls d _ H' => E cls d H') := takes_of rfl rfl rfl rfl
    exact (pdss_one (pds_ret (pd_tup (pda_cons (pd_op op_mod opd_mod (pd_var 0 (pv 0)) pd_int) (pda_cons (pd_op op_fdivW opd_div (pd_var 0 (pv 0)) pd_int) pda_nil)))))
theorem ok_law_two (T : Tx w K mg A) : FnOk P w K mg base (L2.CX P w) 1 A.f_law_two A.d_law_two ["_law_number"] (spP K mg 1 g_law_two) :=
  fn_asP (fn_pure (bd_law_two T)) eq_law_two
theorem bd_law_device (T : Tx w K mg A) : FnOk P w K mg base (L2.CX P w) 2 A.f_law_device A.d_law_device ["_law_plan_here"] (spD K mg 1 (runF 2 b_law_device)) :=
  fn_st T.F_law_device sc_law_device fun cdv Ar outer s H E hr => by
    have tk : Takes (cxOf (L2.CX P w) P w K mg base N_law_device "_law_device" (defScope s_law_device) A.f_law_device cdv Ar outer s H E) (fun cls d _ H' => E cls d H') := takes_of rfl rfl rfl rfl
    exact (pdss_cons (pds_set (i := 1) sc_law_device.nd rfl (by first | exact Or.inl rfl | exact Or.inr rfl) (pd_op op_addA opd_add (pd_op op_addA opd_add (pd_tup (pda_cons pd_int (pda_cons pd_int (pda_cons pd_int (pda_cons pd_int (pda_cons (pd_op op_mulA opd_mul pd_int (pd_callTy call_int1 cd_int rfl T.z_int (by decide +kernel) (pda_cons (pd_cmp op_gt opd_gt (pd_ix (pd_var 0 (pv 0)) pd_int) pd_int) pda_nil))) (pda_cons pd_int (pda_cons pd_int (pda_cons pd_int pda_nil))))))))) (pd_callP (dds := []) (ok_law_two T) (hr.mono (by first | decide | omega)) T.m_law_two T.F_law_two.kp T.b_law_two .nil (fun _ _ => rfl) tk (pda_cons (pd_ix (pd_var 0 (pv 0)) pd_int) pda_nil))) (pd_callP (dds := []) (ok_law_two T) (hr.mono (by first | decide | omega)) T.m_law_two T.F_law_two.kp T.b_law_two .nil (fun _ _ => rfl) tk (pda_cons (pd_ix (pd_var 0 (pv 0)) pd_int) pda_nil))))
      (pdss_one (pds_ret (pd_op op_addA opd_add (pd_var 1 (pv 1)) (pd_tup (pda_cons pd_int (pda_cons pd_int (pda_cons (pd_ix (pd_var 0 (pv 0)) pd_int) (pda_cons pd_int (pda_cons pd_int (pda_cons pd_int pda_nil)))))))))))
theorem ok_law_device (T : Tx w K mg A) : FnOk P w K mg base (L2.CX P w) 2 A.f_law_device A.d_law_device ["_law_plan_here"] (spP K mg 1 g_law_device) :=
  fn_asP (fn_pure (bd_law_device T)) eq_law_device
theorem bd_law_settings (T : Tx w K mg A) : FnOk P w K mg base (L2.CX P w) 2 A.f_law_settings A.d_law_settings ["_law_plan_here"] (spD K mg 1 (runF 8 b_law_settings)) :=
  fn_st T.F_law_settings sc_law_settings fun cdv Ar outer s H E hr => by
    have tk : Takes (cxOf (L2.CX P w) P w K mg base N_law_settings "_law_settings" (defScope s_law_settings) A.f_law_settings cdv Ar outer s H E) (fun cls d _ H' => E cls d H') := takes_of rfl rfl rfl rfl
    exact (pdss_cons (pds_set (i := 1) sc_law_settings.nd rfl (by first | exact Or.inl rfl | exact Or.inr rfl) (pd_tup (pda_cons pd_int (pda_cons pd_int (pda_cons pd_int (pda_cons pd_int (pda_cons (pd_callB call_len cd_len rfl T.z_len (by decide +kernel) (pda_cons (pd_ix (pd_var 0 (pv 0)) pd_int) pda_nil)) (pda_cons pd_int (pda_cons pd_int (pda_cons pd_int (pda_cons pd_int pda_nil)))))))))))
      (pdss_cons (pds_for (passes_of rfl) rfl (pdi_tup (pd_ix (pd_var 0 (pv 0)) pd_int)) (pdg_tup (is := [2, 3, 4, 5, 6]) rfl (pgs_cons (pg_name (i := 2) sc_law_settings.nd rfl (by first | exact Or.inl rfl | exact Or.inr rfl)) (pgs_cons (pg_name (i := 3) sc_law_settings.nd rfl (by first | exact Or.inl rfl | exact Or.inr rfl)) (pgs_cons (pg_name (i := 4) sc_law_settings.nd rfl (by first | exact Or.inl rfl | exact Or.inr rfl)) (pgs_cons (pg_name (i := 5) sc_law_settings.nd rfl (by first | exact Or.inl rfl | exact Or.inr rfl)) (pgs_cons (pg_name (i := 6) sc_law_settings.nd rfl (by first | exact Or.inl rfl | exact Or.inr rfl)) pgs_nil)))))) (pdss_cons (pds_set (i := 7) sc_law_settings.nd rfl (by first | exact Or.inl rfl | exact Or.inr rfl) (pd_op op_addA opd_add (pd_var 2 (pv 2)) (pd_op op_mulA opd_mul pd_int (pd_callTy call_int1 cd_int rfl T.z_int (by decide +kernel) (pda_cons (pd_cmp (op_eqD hr.units) opd_eq (pd_var 3 (pv 3)) pd_str) pda_nil)))))
      (pdss_one (pds_set (i := 1) sc_law_settings.nd rfl (by first | exact Or.inl rfl | exact Or.inr rfl) (pd_op op_addA opd_add (pd_op op_addA opd_add (pd_op op_addA opd_add (pd_var 1 (pv 1)) (pd_tup (pda_cons pd_int (pda_cons pd_int (pda_cons (pd_var 7 (pv 7)) (pda_cons (pd_op op_addA opd_add pd_int (pd_callTy call_int1 cd_int rfl T.z_int (by decide +kernel) (pda_cons (pd_cmp (op_eqD hr.units) opd_eq (pd_var 4 (pv 4)) pd_str) pda_nil))) pda_nil)))))) (pd_callP (dds := []) (ok_law_two T) (hr.mono (by first | decide | omega)) T.m_law_two T.F_law_two.kp T.b_law_two .nil (fun _ _ => rfl) tk (pda_cons (pd_var 5 (pv 5)) pda_nil))) (pd_tup (pda_cons (pd_var 6 (pv 6)) pda_nil)))))))
      (pdss_one (pds_ret (pd_op op_addA opd_add (pd_op op_addA opd_add (pd_op op_addA opd_add (pd_tup (pda_cons pd_int (pda_cons pd_int pda_nil))) (pd_callP (dds := []) (ok_law_two T) (hr.mono (by first | decide | omega)) T.m_law_two T.F_law_two.kp T.b_law_two .nil (fun _ _ => rfl) tk (pda_cons (pd_op op_addA opd_add pd_int (pd_callB call_len cd_len rfl T.z_len (by decide +kernel) (pda_cons (pd_var 1 (pv 1)) pda_nil))) pda_nil))) (pd_tup (pda_cons pd_int (pda_cons pd_int (pda_cons pd_int (pda_cons pd_int (pda_cons pd_int pda_nil))))))) (pd_var 1 (pv 1)))))))
theorem ok_law_settings (T : Tx w K mg A) : FnOk P w K mg base (L2.CX P w) 2 A.f_law_settings A.d_law_settings ["_law_plan_here"] (spP K mg 1 g_law_settings) :=
  fn_asP (fn_pure (bd_law_settings T)) eq_law_settings
theorem bd_law_end_good (T : Tx w K mg A) : FnOk P w K mg base (L2.CX P w) 1 A.f_law_end_good A.d_law_end_good ["_law_end_here"] (spD K mg 1 (runF 6 b_law_end_good)) :=
  fn_st T.F_law_end_good sc_law_end_good fun cdv Ar outer s H E hr => by
    have tk : Takes (cxOf (L2.CX P w) P w K mg base N_law_end_good "_law_end_good" (defScope s_law_end_good) A.f_law_end_good cdv Ar outer s H E) (fun cls d _ H' => E cls d H') := takes_of rfl rfl rfl rfl
    exact (pdss_cons (pds_asg (pd_var 0 (pv 0)) (pdg_tup (is := [1, 2, 3, 4, 5]) rfl (pgs_cons (pg_name (i := 1) sc_law_end_good.nd rfl (by first | exact Or.inl rfl | exact Or.inr rfl)) (pgs_cons (pg_name (i := 2) sc_law_end_good.nd rfl (by first | exact Or.inl rfl | exact Or.inr rfl)) (pgs_cons (pg_name (i := 3) sc_law_end_good.nd rfl (by first | exact Or.inl rfl | exact Or.inr rfl)) (pgs_cons (pg_name (i := 4) sc_law_end_good.nd rfl (by first | exact Or.inl rfl | exact Or.inr rfl)) (pgs_cons (pg_name (i := 5) sc_law_end_good.nd rfl (by first | exact Or.inl rfl | exact Or.inr rfl)) pgs_nil)))))))
      (pdss_cons (pds_if (pdt_notinRng rfl T.z_range (pd_var 1 (pv 1)) (pda_cons pd_int (pda_cons pd_int pda_nil))) (pdss_one (pds_ret pd_bl)) pdss_nil)
      (pdss_cons (pds_if (pdt_cmp (op_eqD hr.units) opd_eq (pd_var 3 (pv 3)) pd_str) (pdss_one (pds_ret (pd_and (pd_inRng rfl T.z_range (pd_var 4 (pv 4)) (pda_cons pd_int (pda_cons pd_int pda_nil))) (pd_one (pd_cmp op_in_seq opd_in (pd_var 5 (pv 5)) (pd_tup (pda_cons pd_int (pda_cons pd_int (pda_cons pd_int (pda_cons pd_int (pda_cons pd_int (pda_cons pd_int pda_nil)))))))))))) pdss_nil)
      (pdss_one (pds_ret (pd_and (pd_cmp op_in_seq opd_in (pd_var 4 (pv 4)) (pd_tup (pda_cons pd_int (pda_cons pd_int (pda_cons pd_int (pda_cons pd_int pda_nil)))))) (pd_one (pd_cmp (op_eqD hr.units) opd_eq (pd_var 5 (pv 5)) pd_int))))))))
theorem ok_law_end_good (T : Tx w K mg A) : FnOk P w K mg base (L2.CX P w) 1 A.f_law_end_good A.d_law_end_good ["_law_end_here"] (spP K mg 1 g_law_end_good) :=
  fn_asP (fn_pure (bd_law_end_good T)) eq_law_end_good
theorem bd_law_told_plan (T : Tx w K mg A) : FnOk P w K mg base (L2.CX P w) 1 A.f_law_told_plan A.d_law_told_plan ["_law_first", "_law_second"] (spD K mg 2 (runF 6 b_law_told_plan)) :=
  fn_st T.F_law_told_plan sc_law_told_plan fun cdv Ar outer s H E hr => by
    have tk : Takes (cxOf (L2.CX P w) P w K mg base N_law_told_plan "_law_told_plan" (defScope s_law_told_plan) A.f_law_told_plan cdv Ar outer s H E) (fun cls d _ H' => E cls d H') := takes_of rfl rfl rfl rfl
    exact (pdss_cons (pds_set (i := 2) sc_law_told_plan.nd rfl (by first | exact Or.inl rfl | exact Or.inr rfl) (pd_new pda_nil))
      (pdss_cons (pds_for (passes_of rfl) rfl (pdi_range1 rfl T.z_range (pda_cons (pd_op op_fdivW opd_div (pd_callB (cr_maxA rfl) cd_max rfl T.z_max (by decide +kernel) (pda_cons pd_int (pda_cons (pd_op op_sub opd_sub (pd_callB call_len cd_len rfl T.z_len (by decide +kernel) (pda_cons (pd_var 1 (pv 1)) pda_nil)) pd_int) pda_nil))) pd_int) pda_nil)) (pdg_name sc_law_told_plan.nd rfl (by first | exact Or.inl rfl | exact Or.inr rfl)) (pdss_cons (pds_set (i := 4) sc_law_told_plan.nd rfl (by first | exact Or.inl rfl | exact Or.inr rfl) (pd_sl (pd_var 1 (pv 1)) (pdo_some (pd_op op_addA opd_add pd_int (pd_op op_mulA opd_mul pd_int (pd_var 3 (pv 3))))) (pdo_some (pd_op op_addA opd_add pd_int (pd_op op_mulA opd_mul pd_int (pd_var 3 (pv 3)))))))
      (pdss_cons (pds_set (i := 5) sc_law_told_plan.nd rfl (by first | exact Or.inl rfl | exact Or.inr rfl) (pd_if (pdt_cmp (op_eqD hr.units) opd_eq (pd_ix (pd_var 4 (pv 4)) pd_int) pd_int) pd_str pd_str))
      (pdss_one (pds_expr (pd_lstM (fun h1 h2 => pe_bm PySem.F.plainAttrs_list PySem.F.slot_list_append PySem.F.type_list_append mt_append h1 h2) md_append (pd_var 2 (pv 2)) (pda_cons (pd_tup (pda_cons (pd_op op_mod opd_mod (pd_ix (pd_var 4 (pv 4)) pd_int) pd_int) (pda_cons (pd_ix (pd_lst (pda_cons pd_str (pda_cons pd_str pda_nil))) (pd_op op_fdivW opd_div (pd_ix (pd_var 4 (pv 4)) pd_int) pd_int)) (pda_cons (pd_var 5 (pv 5)) (pda_cons (pd_op op_addA opd_add (pd_ix (pd_var 4 (pv 4)) pd_int) (pd_op op_mulA opd_mul pd_int (pd_ix (pd_var 4 (pv 4)) pd_int))) (pda_cons (pd_ix (pd_var 4 (pv 4)) pd_int) pda_nil)))))) pda_nil)))))))
      (pdss_one (pds_ret (pd_tup (pda_cons (pd_op op_addA opd_add (pd_ix (pd_var 0 (pv 0)) pd_int) (pd_op op_mulA opd_mul pd_int (pd_ix (pd_var 0 (pv 0)) pd_int))) (pda_cons (pd_op op_addA opd_add (pd_ix (pd_var 0 (pv 0)) pd_int) (pd_op op_mulA opd_mul pd_int (pd_ix (pd_var 0 (pv 0)) pd_int))) (pda_cons (pd_ix (pd_var 0 (pv 0)) pd_int) (pda_cons (pd_callTy call_tuple_of cd_tuple rfl T.z_tuple (by decide +kernel) (pda_cons (pd_var 2 (pv 2)) pda_nil)) pda_nil)))))))))
theorem ok_law_told_plan (T : Tx w K mg A) : FnOk P w K mg base (L2.CX P w) 1 A.f_law_told_plan A.d_law_told_plan ["_law_first", "_law_second"] (spP K mg 2 g_law_told_plan) :=
  fn_asP (fn_pure (bd_law_told_plan T)) eq_law_told_plan
theorem bd_law_due (T : Tx w K mg A) : FnOk P w K mg base (L2.CX P w) 3 A.f_law_due A.d_law_due ["_law_first", "_law_second"] (spD K mg 2 (runF 8 b_law_due)) :=
  fn_st T.F_law_due sc_law_due fun cdv Ar outer s H E hr => by
    have tk : Takes (cxOf (L2.CX P w) P w K mg base N_law_due "_law_due" (defScope s_law_due) A.f_law_due cdv Ar outer s H E) (fun cls d _ H' => E cls d H') := takes_of rfl rfl rfl rfl
    exact (pdss_cons (pds_if (pdt_cmp (op_neD hr.units) opd_ne (pd_callB call_len cd_len rfl T.z_len (by decide +kernel) (pda_cons (pd_var 0 (pv 0)) pda_nil)) pd_int) (pdss_one (pds_ret (pd_tup (pda_cons pd_non (pda_cons (pd_callB (cr_minA rfl) cd_min rfl T.z_min (by decide +kernel) (pda_cons pd_int (pda_cons (pd_callB call_len cd_len rfl T.z_len (by decide +kernel) (pda_cons (pd_var 0 (pv 0)) pda_nil)) pda_nil))) pda_nil))))) pdss_nil)
      (pdss_cons (pds_set (i := 2) sc_law_due.nd rfl (by first | exact Or.inl rfl | exact Or.inr rfl) (pd_callP (dds := []) (ok_law_told_plan T) (hr.mono (by first | decide | omega)) T.m_law_told_plan T.F_law_told_plan.kp T.b_law_told_plan .nil (fun _ _ => rfl) tk (pda_cons (pd_var 0 (pv 0)) (pda_cons (pd_var 1 (pv 1)) pda_nil))))
      (pdss_cons (pds_if (pdt_cmp op_gt opd_gt (pd_ix (pd_var 2 (pv 2)) pd_int) pd_int) (pdss_one (pds_ret (pd_tup (pda_cons pd_non (pda_cons pd_int pda_nil))))) pdss_nil)
      (pdss_cons (pds_for (passes_of rfl) rfl (pdi_enumT rfl T.z_enumerate (pda_cons (pd_ix (pd_var 2 (pv 2)) pd_int) pda_nil)) (pdg_tup (is := [3, 4]) rfl (pgs_cons (pg_name (i := 3) sc_law_due.nd rfl (by first | exact Or.inl rfl | exact Or.inr rfl)) (pgs_cons (pg_name (i := 4) sc_law_due.nd rfl (by first | exact Or.inl rfl | exact Or.inr rfl)) pgs_nil))) (pdss_one (pds_if (pdw_pdt (pdw_or (pdt_cmp op_gt opd_gt (pd_var 3 (pv 3)) pd_int) (pdw_or (pdt_not (pdt_val (pd_callP (dds := []) (ok_law_end_good T) (hr.mono (by first | decide | omega)) T.m_law_end_good T.F_law_end_good.kp T.b_law_end_good .nil (fun _ _ => rfl) tk (pda_cons (pd_var 4 (pv 4)) pda_nil)))) (pdw_or1 (pdw_pdt (pdw_and (pdt_cmp op_gt opd_gt (pd_var 3 (pv 3)) pd_int) (pdw_and1 (pdt_not (pdt_cmp (op_ltD hr.units) (opd_cmpD (f := fun d e => PySem.W.dataLt d e)) (pd_sl (pd_ix (pd_ix (pd_var 2 (pv 2)) pd_int) (pd_op op_sub opd_sub (pd_var 3 (pv 3)) pd_int)) pdo_none (pdo_some pd_int)) (pd_sl (pd_var 4 (pv 4)) pdo_none (pdo_some pd_int))))))))))) (pdss_one (pds_ret (pd_tup (pda_cons pd_non (pda_cons (pd_op op_addA opd_add pd_int (pd_op op_mulA opd_mul pd_int (pd_var 3 (pv 3)))) pda_nil))))) pdss_nil)))
      (pdss_cons (pds_set (i := 5) sc_law_due.nd rfl (by first | exact Or.inl rfl | exact Or.inr rfl) (pd_op op_addA opd_add (pd_var 0 (pv 0)) (pd_var 1 (pv 1))))
      (pdss_cons (pds_set (i := 6) sc_law_due.nd rfl (by first | exact Or.inl rfl | exact Or.inr rfl) (pd_op op_addA opd_add (pd_callP (dds := []) (ok_law_device T) (hr.mono (by first | decide | omega)) T.m_law_device T.F_law_device.kp T.b_law_device .nil (fun _ _ => rfl) tk (pda_cons (pd_var 2 (pv 2)) pda_nil)) (pd_callP (dds := []) (ok_law_settings T) (hr.mono (by first | decide | omega)) T.m_law_settings T.F_law_settings.kp T.b_law_settings .nil (fun _ _ => rfl) tk (pda_cons (pd_var 2 (pv 2)) pda_nil))))
      (pdss_cons (pds_for (passes_of rfl) rfl (pdi_range1 rfl T.z_range (pda_cons (pd_callB (cr_maxA rfl) cd_max rfl T.z_max (by decide +kernel) (pda_cons (pd_callB call_len cd_len rfl T.z_len (by decide +kernel) (pda_cons (pd_var 5 (pv 5)) pda_nil)) (pda_cons (pd_callB call_len cd_len rfl T.z_len (by decide +kernel) (pda_cons (pd_var 6 (pv 6)) pda_nil)) pda_nil))) pda_nil)) (pdg_name sc_law_due.nd rfl (by first | exact Or.inl rfl | exact Or.inr rfl)) (pdss_one (pds_if (pdt_cmp (op_neD hr.units) opd_ne (pd_sl (pd_var 5 (pv 5)) (pdo_some (pd_var 7 (pv 7))) (pdo_some (pd_op op_addA opd_add (pd_var 7 (pv 7)) pd_int))) (pd_sl (pd_var 6 (pv 6)) (pdo_some (pd_var 7 (pv 7))) (pdo_some (pd_op op_addA opd_add (pd_var 7 (pv 7)) pd_int)))) (pdss_one (pds_ret (pd_tup (pda_cons pd_non (pda_cons (pd_var 7 (pv 7)) pda_nil))))) pdss_nil)))
      (pdss_one (pds_ret (pd_tup (pda_cons (pd_var 2 (pv 2)) (pda_cons (pd_op op_sub opd_sub pd_int pd_int) pda_nil))))))))))))
theorem ok_law_due (T : Tx w K mg A) : FnOk P w K mg base (L2.CX P w) 3 A.f_law_due A.d_law_due ["_law_first", "_law_second"] (spP K mg 2 g_law_due) :=
  fn_asP (fn_pure (bd_law_due T)) eq_law_due
theorem bd_law_bent (T : Tx w K mg A) : FnOk P w K mg base (L2.CX P w) 2 A.f_law_bent A.d_law_bent ["_law_bag_here", "_law_row"] (spD K mg 2 (runF 5 b_law_bent)) :=
  fn_st T.F_law_bent sc_law_bent fun cdv Ar outer s H E hr => by
    have tk : Takes (cxOf (L2.CX P w) P w K mg base N_law_bent "_law_bent" (defScope s_law_bent) A.f_law_bent cdv Ar outer s H E) (fun cls d _ H' => E cls d H') := takes_of rfl rfl rfl rfl
    exact (pdss_cons (pds_set (i := 2) sc_law_bent.nd rfl (by first | exact Or.inl rfl | exact Or.inr rfl) (pd_callS (dds := []) (ok_law_pull T) (hr.mono (by first | decide | omega)) T.m_law_pull T.F_law_pull.kp T.b_law_pull .nil (fun _ _ => rfl) tk (pda_cons (pd_var 0 (pv 0)) (pda_cons (pd_op op_addA opd_add (pd_callB call_len cd_len rfl T.z_len (by decide +kernel) (pda_cons (pd_var 1 (pv 1)) pda_nil)) pd_int) pda_nil))))
      (pdss_cons (pds_set (i := 3) sc_law_bent.nd rfl (by first | exact Or.inl rfl | exact Or.inr rfl) (pd_ix (pd_lst (pda_cons (pd_callS (dds := []) (ok_law_pull T) (hr.mono (by first | decide | omega)) T.m_law_pull T.F_law_pull.kp T.b_law_pull .nil (fun _ _ => rfl) tk (pda_cons (pd_var 0 (pv 0)) (pda_cons pd_int pda_nil))) (pda_cons pd_int (pda_cons pd_int (pda_cons pd_int (pda_cons pd_int pda_nil)))))) (pd_callS (dds := []) (ok_law_pull T) (hr.mono (by first | decide | omega)) T.m_law_pull T.F_law_pull.kp T.b_law_pull .nil (fun _ _ => rfl) tk (pda_cons (pd_var 0 (pv 0)) (pda_cons pd_int pda_nil)))))
      (pdss_cons (pds_set (i := 4) sc_law_bent.nd rfl (by first | exact Or.inl rfl | exact Or.inr rfl) (pd_callS (dds := []) (ok_law_pull T) (hr.mono (by first | decide | omega)) T.m_law_pull T.F_law_pull.kp T.b_law_pull .nil (fun _ _ => rfl) tk (pda_cons (pd_var 0 (pv 0)) (pda_cons pd_int pda_nil))))
      (pdss_cons (pds_if (pdt_cmp (op_eqD hr.units) opd_eq (pd_var 4 (pv 4)) pd_int) (pdss_one (pds_ret (pd_op op_addA opd_add (pd_op op_addA opd_add (pd_sl (pd_var 1 (pv 1)) pdo_none (pdo_some (pd_var 2 (pv 2)))) (pd_tup (pda_cons (pd_var 3 (pv 3)) pda_nil))) (pd_sl (pd_var 1 (pv 1)) (pdo_some (pd_var 2 (pv 2))) pdo_none)))) pdss_nil)
      (pdss_cons (pds_if (pdt_cmp (op_eqD hr.units) opd_eq (pd_var 4 (pv 4)) pd_int) (pdss_one (pds_ret (pd_op op_addA opd_add (pd_sl (pd_var 1 (pv 1)) pdo_none (pdo_some (pd_var 2 (pv 2)))) (pd_sl (pd_var 1 (pv 1)) (pdo_some (pd_op op_addA opd_add (pd_var 2 (pv 2)) pd_int)) pdo_none)))) pdss_nil)
      (pdss_one (pds_ret (pd_op op_addA opd_add (pd_op op_addA opd_add (pd_sl (pd_var 1 (pv 1)) pdo_none (pdo_some (pd_var 2 (pv 2)))) (pd_tup (pda_cons (pd_var 3 (pv 3)) pda_nil))) (pd_sl (pd_var 1 (pv 1)) (pdo_some (pd_op op_addA opd_add (pd_var 2 (pv 2)) pd_int)) pdo_none)))))))))
theorem ok_law_bent (T : Tx w K mg A) : FnOk P w K mg base (L2.CX P w) 2 A.f_law_bent A.d_law_bent ["_law_bag_here", "_law_row"] (spD K mg 2 g_law_bent) :=
  fn_as (bd_law_bent T) eq_law_bent
theorem bd_law_said (T : Tx w K mg A) : FnOk P w K mg base (L2.CX P w) 6 A.f_law_said A.d_law_said ["_law_first", "_law_second"] (spD K mg 2 (runF 5 b_law_said)) :=
  fn_st T.F_law_said sc_law_said fun cdv Ar outer s H E hr => by
    have tk : Takes (cxOf (L2.CX P w) P w K mg base N_law_said "_law_said" (defScope s_law_said) A.f_law_said cdv Ar outer s H E) (fun cls d _ H' => E cls d H') := takes_of rfl rfl rfl rfl
    exact (pdss_cons (pds_set (i := 2) sc_law_said.nd rfl (by first | exact Or.inl rfl | exact Or.inr rfl) pd_non)
      (pdss_cons (pds_set (i := 3) sc_law_said.nd rfl (by first | exact Or.inl rfl | exact Or.inr rfl) (pd_op op_sub opd_sub pd_int pd_int))
      (pdss_cons (pds_try_asF (i := 4) rfl rfl sc_law_said.nd rfl rfl ⟨rfl, by decide, Or.inl T.g_BadPlan⟩ tk T.ct_BadPlan
      (fun W2 pn2 xe2 tk2 hp2 => (pdss_one (pds_set (i := 2) sc_law_said.nd rfl (by first | exact Or.inl rfl | exact Or.inr rfl) (pd_callP (dds := []) (ok_read_plan T) (hr.mono (by first | decide | omega)) T.m_read_plan T.F_read_plan.kp T.b_read_plan .nil (fun _ _ => rfl) tk2 (pda_cons (pd_var 0 (pv 0)) (pda_cons (pd_var 1 (pv 1)) pda_nil))))))
      (fun a dx oe cls d pn e hh hq => by
        obtain ⟨C0, hC, hcl⟩ := hh.c
        subst hcl
        have hZ := hh.z
        exact (pdss_one (pds_set (i := 3) sc_law_said.nd rfl (by first | exact Or.inl rfl | exact Or.inr rfl) (pd_xf T.xf_BadPlan T.no_BadPlan hZ hh.f (fun z => hh.n2 (T.nz_BadPlan_BadPlan hq (of_decide_eq_true z))) (fun z => Option.some.inj (hC.symm.trans ((congrArg mg (of_decide_eq_true z)).trans T.g_BadPlan))) (pv 4)))))
      in_law_said)
      (pdss_one (pds_ret (pd_tup (pda_cons (pd_var 2 (pv 2)) (pda_cons (pd_var 3 (pv 3)) pda_nil))))))))
theorem ok_law_said (T : Tx w K mg A) : FnOk P w K mg base (L2.CX P w) 6 A.f_law_said A.d_law_said ["_law_first", "_law_second"] (spP K mg 2 g_law_said) :=
  fn_asP (fn_pure (bd_law_said T)) eq_law_said
theorem bd_law (T : Tx w K mg A) : FnOk P w K mg base (L2.CX P w) 7 A.f_law A.d_law ["_law_script"] (spD K mg 1 (runF 7 b_law)) :=
  fn_st T.F_law sc_law fun cdv Ar outer s H E hr => by
    have tk : Takes (cxOf (L2.CX P w) P w K mg base N_law "law" (defScope s_law) A.f_law cdv Ar outer s H E) (fun cls d _ H' => E cls d H') := takes_of rfl rfl rfl rfl
    exact (pdss_cons (pds_set (i := 1) sc_law.nd rfl (by first | exact Or.inl rfl | exact Or.inr rfl) (pd_callS (dds := []) (ok_law_bag T) (hr.mono (by first | decide | omega)) T.m_law_bag T.F_law_bag.kp T.b_law_bag .nil (fun _ _ => rfl) tk (pda_cons (pd_var 0 (pv 0)) pda_nil)))
      (pdss_cons (pds_for (passes_of rfl) rfl (pdi_range1 rfl T.z_range (pda_cons pd_int pda_nil)) (pdg_name sc_law.nd rfl (by first | exact Or.inl rfl | exact Or.inr rfl)) (pdss_cons (pds_set (i := 3) sc_law.nd rfl (by first | exact Or.inl rfl | exact Or.inr rfl) (pd_callS (dds := []) (ok_law_plan T) (hr.mono (by first | decide | omega)) T.m_law_plan T.F_law_plan.kp T.b_law_plan .nil (fun _ _ => rfl) tk (pda_cons (pd_var 1 (pv 1)) (pda_cons pd_int (pda_cons (pd_cmp (op_eqD hr.units) opd_eq (pd_callS (dds := []) (ok_law_pull T) (hr.mono (by first | decide | omega)) T.m_law_pull T.F_law_pull.kp T.b_law_pull .nil (fun _ _ => rfl) tk (pda_cons (pd_var 1 (pv 1)) (pda_cons pd_int pda_nil))) pd_int) pda_nil)))))
      (pdss_cons (pds_set (i := 4) sc_law.nd rfl (by first | exact Or.inl rfl | exact Or.inr rfl) (pd_new (pda_cons (pd_callP (dds := []) (ok_law_device T) (hr.mono (by first | decide | omega)) T.m_law_device T.F_law_device.kp T.b_law_device .nil (fun _ _ => rfl) tk (pda_cons (pd_var 3 (pv 3)) pda_nil)) (pda_cons (pd_callP (dds := []) (ok_law_settings T) (hr.mono (by first | decide | omega)) T.m_law_settings T.F_law_settings.kp T.b_law_settings .nil (fun _ _ => rfl) tk (pda_cons (pd_var 3 (pv 3)) pda_nil)) pda_nil))))
      (pdss_cons (pds_for (passes_of rfl) rfl (pdi_range1 rfl T.z_range (pda_cons (pd_ix (pd_lst (pda_cons pd_int (pda_cons pd_int (pda_cons pd_int (pda_cons pd_int pda_nil))))) (pd_callS (dds := []) (ok_law_pull T) (hr.mono (by first | decide | omega)) T.m_law_pull T.F_law_pull.kp T.b_law_pull .nil (fun _ _ => rfl) tk (pda_cons (pd_var 1 (pv 1)) (pda_cons pd_int pda_nil)))) pda_nil)) (pdg_name sc_law.nd rfl (by first | exact Or.inl rfl | exact Or.inr rfl)) (pdss_cons (pds_set (i := 6) sc_law.nd rfl (by first | exact Or.inl rfl | exact Or.inr rfl) (pd_op op_fdivW opd_div (pd_callS (dds := []) (ok_law_pull T) (hr.mono (by first | decide | omega)) T.m_law_pull T.F_law_pull.kp T.b_law_pull .nil (fun _ _ => rfl) tk (pda_cons (pd_var 1 (pv 1)) (pda_cons pd_int pda_nil))) pd_int))
      (pdss_one (pds_setIx (pd_callS (dds := []) (ok_law_bent T) (hr.mono (by first | decide | omega)) T.m_law_bent T.F_law_bent.kp T.b_law_bent .nil (fun _ _ => rfl) tk (pda_cons (pd_var 1 (pv 1)) (pda_cons (pd_ix (pd_var 4 (pv 4)) (pd_op op_sub opd_sub pd_int (pd_var 6 (pv 6)))) pda_nil))) (pd_var 4 (pv 4)) (pd_op op_sub opd_sub pd_int (pd_var 6 (pv 6))) set_list setd_list))))
      (pdss_one (pds_if (pdt_not (pdt_val (pd_callP (dds := []) (ok_law_same T) (hr.mono (by first | decide | omega)) T.m_law_same T.F_law_same.kp T.b_law_same .nil (fun _ _ => rfl) tk (pda_cons (pd_callP (dds := []) (ok_law_said T) (hr.mono (by first | decide | omega)) T.m_law_said T.F_law_said.kp T.b_law_said .nil (fun _ _ => rfl) tk (pda_cons (pd_ix (pd_var 4 (pv 4)) pd_int) (pda_cons (pd_ix (pd_var 4 (pv 4)) pd_int) pda_nil))) (pda_cons (pd_callP (dds := []) (ok_law_due T) (hr.mono (by first | decide | omega)) T.m_law_due T.F_law_due.kp T.b_law_due .nil (fun _ _ => rfl) tk (pda_cons (pd_ix (pd_var 4 (pv 4)) pd_int) (pda_cons (pd_ix (pd_var 4 (pv 4)) pd_int) pda_nil))) pda_nil))))) (pdss_one (pds_ret pd_bl)) pdss_nil))))))
      (pdss_one (pds_ret (pd_and (pd_callP (dds := []) (ok_law_same T) (hr.mono (by first | decide | omega)) T.m_law_same T.F_law_same.kp T.b_law_same .nil (fun _ _ => rfl) tk (pda_cons (pd_callP (dds := []) (ok_law_said T) (hr.mono (by first | decide | omega)) T.m_law_said T.F_law_said.kp T.b_law_said .nil (fun _ _ => rfl) tk (pda_cons (pd_tup pda_nil) (pda_cons (pd_tup pda_nil) pda_nil))) (pda_cons (pd_tup (pda_cons pd_non (pda_cons pd_int pda_nil))) pda_nil))) (pd_one (pd_callP (dds := []) (ok_law_same T) (hr.mono (by first | decide | omega)) T.m_law_same T.F_law_same.kp T.b_law_same .nil (fun _ _ => rfl) tk (pda_cons (pd_callP (dds := []) (ok_law_said T) (hr.mono (by first | decide | omega)) T.m_law_said T.F_law_said.kp T.b_law_said .nil (fun _ _ => rfl) tk (pda_cons (pd_op op_mulA opd_mul (pd_tup (pda_cons pd_int pda_nil)) pd_int) (pda_cons (pd_tup pda_nil) pda_nil))) (pda_cons (pd_tup (pda_cons pd_non (pda_cons pd_int pda_nil))) pda_nil)))))))))
theorem law_ok (T : Tx w K mg A) : FnOk P w K mg base (L2.CX P w) 7 A.f_law A.d_law ["_law_script"] (spLaw K) := fn_law (bd_law T) law_true

end
/-! ### what the top has written -/
theorem all_mk {l : PySem.W.OpenLaw} {w : World} {K : PySem.W.Frag} {h : Heap} {mg : Str → Option Value} {fa : Addr} (X : K.In h) (G : h.Ns mainGlobals mg) (hfa : mg "law" = some (.ref fa))
    {f0 : Addr} {od0 an0 : Option Addr} {sl0 : Array (Option Value)} {oc0 kV0 dc0 pm0 cd0 ct0 : Value}
    {f1 : Addr} {od1 an1 : Option Addr} {sl1 : Array (Option Value)} {oc1 kV1 dc1 pm1 cd1 ct1 : Value}
    {f2 : Addr} {od2 an2 : Option Addr} {sl2 : Array (Option Value)} {oc2 kV2 dc2 pm2 cd2 ct2 : Value}
    {f3 : Addr} {od3 an3 : Option Addr} {sl3 : Array (Option Value)} {oc3 kV3 dc3 pm3 cd3 ct3 : Value}
    {f4 : Addr} {od4 an4 : Option Addr} {sl4 : Array (Option Value)} {oc4 kV4 dc4 pm4 cd4 ct4 : Value}
    {f5 : Addr} {od5 an5 : Option Addr} {sl5 : Array (Option Value)} {oc5 kV5 dc5 pm5 cd5 ct5 : Value}
    {f6 : Addr} {od6 an6 : Option Addr} {sl6 : Array (Option Value)} {oc6 kV6 dc6 pm6 cd6 ct6 : Value}
    {f7 : Addr} {od7 an7 : Option Addr} {sl7 : Array (Option Value)} {oc7 kV7 dc7 pm7 cd7 ct7 : Value}
    {f8 : Addr} {od8 an8 : Option Addr} {sl8 : Array (Option Value)} {oc8 kV8 dc8 pm8 cd8 ct8 : Value}
    {f9 : Addr} {od9 an9 : Option Addr} {sl9 : Array (Option Value)} {oc9 kV9 dc9 pm9 cd9 ct9 : Value}
    {f10 : Addr} {od10 an10 : Option Addr} {sl10 : Array (Option Value)} {oc10 kV10 dc10 pm10 cd10 ct10 : Value}
    {f11 : Addr} {od11 an11 : Option Addr} {sl11 : Array (Option Value)} {oc11 kV11 dc11 pm11 cd11 ct11 : Value}
    {f12 : Addr} {od12 an12 : Option Addr} {sl12 : Array (Option Value)} {oc12 kV12 dc12 pm12 cd12 ct12 : Value}
    {f13 : Addr} {od13 an13 : Option Addr} {sl13 : Array (Option Value)} {oc13 kV13 dc13 pm13 cd13 ct13 : Value}
    {f14 : Addr} {od14 an14 : Option Addr} {sl14 : Array (Option Value)} {oc14 kV14 dc14 pm14 cd14 ct14 : Value}
    {f15 : Addr} {od15 an15 : Option Addr} {sl15 : Array (Option Value)} {oc15 kV15 dc15 pm15 cd15 ct15 : Value}
    {f16 : Addr} {od16 an16 : Option Addr} {sl16 : Array (Option Value)} {oc16 kV16 dc16 pm16 cd16 ct16 : Value}
    {f17 : Addr} {od17 an17 : Option Addr} {sl17 : Array (Option Value)} {oc17 kV17 dc17 pm17 cd17 ct17 : Value}
    {f18 : Addr} {od18 an18 : Option Addr} {sl18 : Array (Option Value)} {oc18 kV18 dc18 pm18 cd18 ct18 : Value}
    {f19 : Addr} {od19 an19 : Option Addr} {sl19 : Array (Option Value)} {oc19 kV19 dc19 pm19 cd19 ct19 : Value}
    {f20 : Addr} {od20 an20 : Option Addr} {sl20 : Array (Option Value)} {oc20 kV20 dc20 pm20 cd20 ct20 : Value}
    {f21 : Addr} {od21 an21 : Option Addr} {sl21 : Array (Option Value)} {oc21 kV21 dc21 pm21 cd21 ct21 : Value}
    {f22 : Addr} {od22 an22 : Option Addr} {sl22 : Array (Option Value)} {oc22 kV22 dc22 pm22 cd22 ct22 : Value}
    {f23 : Addr} {od23 an23 : Option Addr} {sl23 : Array (Option Value)} {oc23 kV23 dc23 pm23 cd23 ct23 : Value}
    {f24 : Addr} {od24 an24 : Option Addr} {sl24 : Array (Option Value)} {oc24 kV24 dc24 pm24 cd24 ct24 : Value}
    {f25 : Addr} {od25 an25 : Option Addr} {sl25 : Array (Option Value)} {oc25 kV25 dc25 pm25 cd25 ct25 : Value}
    {f26 : Addr} {od26 an26 : Option Addr} {sl26 : Array (Option Value)} {oc26 kV26 dc26 pm26 cd26 ct26 : Value}
    {C_BadPlan fI_BadPlan N_BadPlan : Addr} {nm_BadPlan q_BadPlan : Str} {bs_BadPlan bm_BadPlan sub_BadPlan : List Value} {sn_BadPlan : List Str} {ab_BadPlan : Bool} {col_BadPlan : Option Bool} {dd_BadPlan : Option Addr} {k0_BadPlan k1_BadPlan k2_BadPlan k3_BadPlan k5_BadPlan : Option Value} {od_BadPlan an_BadPlan : Option Addr} {sl_BadPlan : Array (Option Value)} {oc_BadPlan kV_BadPlan dc_BadPlan pm_BadPlan cd_BadPlan ct_BadPlan : Value}
    {C_BusError : Addr}
    {G_SIZES : Addr} {od_SIZES : Option Addr} {n_SIZES : Nat} {sl_SIZES : Array (Option Value)}
    {t_SIZES_0 : Tok}
    {t_SIZES_1 : Tok}
    {t_SIZES_2 : Tok}
    {t_SIZES_3 : Tok}
    {G_PERIODS : Addr} {od_PERIODS : Option Addr} {n_PERIODS : Nat} {sl_PERIODS : Array (Option Value)}
    {t_PERIODS_0 : Tok}
    {t_PERIODS_1 : Tok}
    {t_PERIODS_2 : Tok}
    {t_PERIODS_3 : Tok}
    {t_PERIODS_4 : Tok}
    {t_PERIODS_5 : Tok}
    {t_MOST_ENDS : Tok}
    {t_MOST_PORTS : Tok}
    (a0 : PySem.W.nsIn K mainGlobals "good_end" = some (some (.ref f0)))
    (l0 : K.lookup f0 = some ⟨oc0, od0, .func (PySem.W.fnOf "good_end" "good_end" (defArgs s_good_end) (defBody s_good_end) (defScope s_good_end) .none kV0 dc0 pm0 an0 cd0 ct0), sl0⟩)
    (c0 : PySem.W.codeIn K cd0 "good_end" = true)
    (k0 : PySem.W.keepIn K (.ref f0) = true)
    (a1 : PySem.W.nsIn K mainGlobals "need_plan" = some (some (.ref f1)))
    (l1 : K.lookup f1 = some ⟨oc1, od1, .func (PySem.W.fnOf "need_plan" "need_plan" (defArgs s_need_plan) (defBody s_need_plan) (defScope s_need_plan) .none kV1 dc1 pm1 an1 cd1 ct1), sl1⟩)
    (c1 : PySem.W.codeIn K cd1 "need_plan" = true)
    (k1 : PySem.W.keepIn K (.ref f1) = true)
    (a2 : PySem.W.nsIn K mainGlobals "two" = some (some (.ref f2)))
    (l2 : K.lookup f2 = some ⟨oc2, od2, .func (PySem.W.fnOf "two" "two" (defArgs s_two) (defBody s_two) (defScope s_two) .none kV2 dc2 pm2 an2 cd2 ct2), sl2⟩)
    (c2 : PySem.W.codeIn K cd2 "two" = true)
    (k2 : PySem.W.keepIn K (.ref f2) = true)
    (a3 : PySem.W.nsIn K mainGlobals "device_row" = some (some (.ref f3)))
    (l3 : K.lookup f3 = some ⟨oc3, od3, .func (PySem.W.fnOf "device_row" "device_row" (defArgs s_device_row) (defBody s_device_row) (defScope s_device_row) .none kV3 dc3 pm3 an3 cd3 ct3), sl3⟩)
    (c3 : PySem.W.codeIn K cd3 "device_row" = true)
    (k3 : PySem.W.keepIn K (.ref f3) = true)
    (a4 : PySem.W.nsIn K mainGlobals "end_row" = some (some (.ref f4)))
    (l4 : K.lookup f4 = some ⟨oc4, od4, .func (PySem.W.fnOf "end_row" "end_row" (defArgs s_end_row) (defBody s_end_row) (defScope s_end_row) .none kV4 dc4 pm4 an4 cd4 ct4), sl4⟩)
    (c4 : PySem.W.codeIn K cd4 "end_row" = true)
    (k4 : PySem.W.keepIn K (.ref f4) = true)
    (a5 : PySem.W.nsIn K mainGlobals "settings_row" = some (some (.ref f5)))
    (l5 : K.lookup f5 = some ⟨oc5, od5, .func (PySem.W.fnOf "settings_row" "settings_row" (defArgs s_settings_row) (defBody s_settings_row) (defScope s_settings_row) .none kV5 dc5 pm5 an5 cd5 ct5), sl5⟩)
    (c5 : PySem.W.codeIn K cd5 "settings_row" = true)
    (k5 : PySem.W.keepIn K (.ref f5) = true)
    (a6 : PySem.W.nsIn K mainGlobals "end_of" = some (some (.ref f6)))
    (l6 : K.lookup f6 = some ⟨oc6, od6, .func (PySem.W.fnOf "end_of" "end_of" (defArgs s_end_of) (defBody s_end_of) (defScope s_end_of) .none kV6 dc6 pm6 an6 cd6 ct6), sl6⟩)
    (c6 : PySem.W.codeIn K cd6 "end_of" = true)
    (k6 : PySem.W.keepIn K (.ref f6) = true)
    (a7 : PySem.W.nsIn K mainGlobals "first_unlike" = some (some (.ref f7)))
    (l7 : K.lookup f7 = some ⟨oc7, od7, .func (PySem.W.fnOf "first_unlike" "first_unlike" (defArgs s_first_unlike) (defBody s_first_unlike) (defScope s_first_unlike) .none kV7 dc7 pm7 an7 cd7 ct7), sl7⟩)
    (c7 : PySem.W.codeIn K cd7 "first_unlike" = true)
    (k7 : PySem.W.keepIn K (.ref f7) = true)
    (a8 : PySem.W.nsIn K mainGlobals "plan_told" = some (some (.ref f8)))
    (l8 : K.lookup f8 = some ⟨oc8, od8, .func (PySem.W.fnOf "plan_told" "plan_told" (defArgs s_plan_told) (defBody s_plan_told) (defScope s_plan_told) .none kV8 dc8 pm8 an8 cd8 ct8), sl8⟩)
    (c8 : PySem.W.codeIn K cd8 "plan_told" = true)
    (k8 : PySem.W.keepIn K (.ref f8) = true)
    (a9 : PySem.W.nsIn K mainGlobals "read_plan" = some (some (.ref f9)))
    (l9 : K.lookup f9 = some ⟨oc9, od9, .func (PySem.W.fnOf "read_plan" "read_plan" (defArgs s_read_plan) (defBody s_read_plan) (defScope s_read_plan) .none kV9 dc9 pm9 an9 cd9 ct9), sl9⟩)
    (c9 : PySem.W.codeIn K cd9 "read_plan" = true)
    (k9 : PySem.W.keepIn K (.ref f9) = true)
    (a10 : PySem.W.nsIn K mainGlobals "_law_bag" = some (some (.ref f10)))
    (l10 : K.lookup f10 = some ⟨oc10, od10, .func (PySem.W.fnOf "_law_bag" "_law_bag" (defArgs s_law_bag) (defBody s_law_bag) (defScope s_law_bag) .none kV10 dc10 pm10 an10 cd10 ct10), sl10⟩)
    (c10 : PySem.W.codeIn K cd10 "_law_bag" = true)
    (k10 : PySem.W.keepIn K (.ref f10) = true)
    (a11 : PySem.W.nsIn K mainGlobals "_law_pull" = some (some (.ref f11)))
    (l11 : K.lookup f11 = some ⟨oc11, od11, .func (PySem.W.fnOf "_law_pull" "_law_pull" (defArgs s_law_pull) (defBody s_law_pull) (defScope s_law_pull) .none kV11 dc11 pm11 an11 cd11 ct11), sl11⟩)
    (c11 : PySem.W.codeIn K cd11 "_law_pull" = true)
    (k11 : PySem.W.keepIn K (.ref f11) = true)
    (a12 : PySem.W.nsIn K mainGlobals "_law_whole" = some (some (.ref f12)))
    (l12 : K.lookup f12 = some ⟨oc12, od12, .func (PySem.W.fnOf "_law_whole" "_law_whole" (defArgs s_law_whole) (defBody s_law_whole) (defScope s_law_whole) .none kV12 dc12 pm12 an12 cd12 ct12), sl12⟩)
    (c12 : PySem.W.codeIn K cd12 "_law_whole" = true)
    (k12 : PySem.W.keepIn K (.ref f12) = true)
    (a13 : PySem.W.nsIn K mainGlobals "_law_same" = some (some (.ref f13)))
    (l13 : K.lookup f13 = some ⟨oc13, od13, .func (PySem.W.fnOf "_law_same" "_law_same" (defArgs s_law_same) (defBody s_law_same) (defScope s_law_same) .none kV13 dc13 pm13 an13 cd13 ct13), sl13⟩)
    (c13 : PySem.W.codeIn K cd13 "_law_same" = true)
    (k13 : PySem.W.keepIn K (.ref f13) = true)
    (a14 : PySem.W.nsIn K mainGlobals "_law_one" = some (some (.ref f14)))
    (l14 : K.lookup f14 = some ⟨oc14, od14, .func (PySem.W.fnOf "_law_one" "_law_one" (defArgs s_law_one) (defBody s_law_one) (defScope s_law_one) .none kV14 dc14 pm14 an14 cd14 ct14), sl14⟩)
    (c14 : PySem.W.codeIn K cd14 "_law_one" = true)
    (k14 : PySem.W.keepIn K (.ref f14) = true)
    (a15 : PySem.W.nsIn K mainGlobals "_law_end" = some (some (.ref f15)))
    (l15 : K.lookup f15 = some ⟨oc15, od15, .func (PySem.W.fnOf "_law_end" "_law_end" (defArgs s_law_end) (defBody s_law_end) (defScope s_law_end) .none kV15 dc15 pm15 an15 cd15 ct15), sl15⟩)
    (c15 : PySem.W.codeIn K cd15 "_law_end" = true)
    (k15 : PySem.W.keepIn K (.ref f15) = true)
    (a16 : PySem.W.nsIn K mainGlobals "_law_ends" = some (some (.ref f16)))
    (l16 : K.lookup f16 = some ⟨oc16, od16, .func (PySem.W.fnOf "_law_ends" "_law_ends" (defArgs s_law_ends) (defBody s_law_ends) (defScope s_law_ends) .none kV16 dc16 pm16 an16 cd16 ct16), sl16⟩)
    (c16 : PySem.W.codeIn K cd16 "_law_ends" = true)
    (k16 : PySem.W.keepIn K (.ref f16) = true)
    (a17 : PySem.W.nsIn K mainGlobals "_law_plan" = some (some (.ref f17)))
    (l17 : K.lookup f17 = some ⟨oc17, od17, .func (PySem.W.fnOf "_law_plan" "_law_plan" (defArgs s_law_plan) (defBody s_law_plan) (defScope s_law_plan) .none kV17 dc17 pm17 an17 cd17 ct17), sl17⟩)
    (c17 : PySem.W.codeIn K cd17 "_law_plan" = true)
    (k17 : PySem.W.keepIn K (.ref f17) = true)
    (a18 : PySem.W.nsIn K mainGlobals "_law_two" = some (some (.ref f18)))
    (l18 : K.lookup f18 = some ⟨oc18, od18, .func (PySem.W.fnOf "_law_two" "_law_two" (defArgs s_law_two) (defBody s_law_two) (defScope s_law_two) .none kV18 dc18 pm18 an18 cd18 ct18), sl18⟩)
    (c18 : PySem.W.codeIn K cd18 "_law_two" = true)
    (k18 : PySem.W.keepIn K (.ref f18) = true)
    (a19 : PySem.W.nsIn K mainGlobals "_law_device" = some (some (.ref f19)))
    (l19 : K.lookup f19 = some ⟨oc19, od19, .func (PySem.W.fnOf "_law_device" "_law_device" (defArgs s_law_device) (defBody s_law_device) (defScope s_law_device) .none kV19 dc19 pm19 an19 cd19 ct19), sl19⟩)
    (c19 : PySem.W.codeIn K cd19 "_law_device" = true)
    (k19 : PySem.W.keepIn K (.ref f19) = true)
    (a20 : PySem.W.nsIn K mainGlobals "_law_settings" = some (some (.ref f20)))
    (l20 : K.lookup f20 = some ⟨oc20, od20, .func (PySem.W.fnOf "_law_settings" "_law_settings" (defArgs s_law_settings) (defBody s_law_settings) (defScope s_law_settings) .none kV20 dc20 pm20 an20 cd20 ct20), sl20⟩)
    (c20 : PySem.W.codeIn K cd20 "_law_settings" = true)
    (k20 : PySem.W.keepIn K (.ref f20) = true)
    (a21 : PySem.W.nsIn K mainGlobals "_law_end_good" = some (some (.ref f21)))
    (l21 : K.lookup f21 = some ⟨oc21, od21, .func (PySem.W.fnOf "_law_end_good" "_law_end_good" (defArgs s_law_end_good) (defBody s_law_end_good) (defScope s_law_end_good) .none kV21 dc21 pm21 an21 cd21 ct21), sl21⟩)
    (c21 : PySem.W.codeIn K cd21 "_law_end_good" = true)
    (k21 : PySem.W.keepIn K (.ref f21) = true)
    (a22 : PySem.W.nsIn K mainGlobals "_law_told_plan" = some (some (.ref f22)))
    (l22 : K.lookup f22 = some ⟨oc22, od22, .func (PySem.W.fnOf "_law_told_plan" "_law_told_plan" (defArgs s_law_told_plan) (defBody s_law_told_plan) (defScope s_law_told_plan) .none kV22 dc22 pm22 an22 cd22 ct22), sl22⟩)
    (c22 : PySem.W.codeIn K cd22 "_law_told_plan" = true)
    (k22 : PySem.W.keepIn K (.ref f22) = true)
    (a23 : PySem.W.nsIn K mainGlobals "_law_due" = some (some (.ref f23)))
    (l23 : K.lookup f23 = some ⟨oc23, od23, .func (PySem.W.fnOf "_law_due" "_law_due" (defArgs s_law_due) (defBody s_law_due) (defScope s_law_due) .none kV23 dc23 pm23 an23 cd23 ct23), sl23⟩)
    (c23 : PySem.W.codeIn K cd23 "_law_due" = true)
    (k23 : PySem.W.keepIn K (.ref f23) = true)
    (a24 : PySem.W.nsIn K mainGlobals "_law_bent" = some (some (.ref f24)))
    (l24 : K.lookup f24 = some ⟨oc24, od24, .func (PySem.W.fnOf "_law_bent" "_law_bent" (defArgs s_law_bent) (defBody s_law_bent) (defScope s_law_bent) .none kV24 dc24 pm24 an24 cd24 ct24), sl24⟩)
    (c24 : PySem.W.codeIn K cd24 "_law_bent" = true)
    (k24 : PySem.W.keepIn K (.ref f24) = true)
    (a25 : PySem.W.nsIn K mainGlobals "_law_said" = some (some (.ref f25)))
    (l25 : K.lookup f25 = some ⟨oc25, od25, .func (PySem.W.fnOf "_law_said" "_law_said" (defArgs s_law_said) (defBody s_law_said) (defScope s_law_said) .none kV25 dc25 pm25 an25 cd25 ct25), sl25⟩)
    (c25 : PySem.W.codeIn K cd25 "_law_said" = true)
    (k25 : PySem.W.keepIn K (.ref f25) = true)
    (a26 : PySem.W.nsIn K mainGlobals "law" = some (some (.ref f26)))
    (l26 : K.lookup f26 = some ⟨oc26, od26, .func (PySem.W.fnOf "law" "law" (defArgs s_law) (defBody s_law) (defScope s_law) .none kV26 dc26 pm26 an26 cd26 ct26), sl26⟩)
    (c26 : PySem.W.codeIn K cd26 "law" = true)
    (k26 : PySem.W.keepIn K (.ref f26) = true)
    (eg_BadPlan : PySem.W.nsIn K mainGlobals "BadPlan" = some (some (.ref C_BadPlan)))
    (xl_BadPlan : K.lookup C_BadPlan = some (excClassObj nm_BadPlan q_BadPlan C_BadPlan N_BadPlan bs_BadPlan bm_BadPlan true sn_BadPlan sub_BadPlan ab_BadPlan col_BadPlan dd_BadPlan k0_BadPlan k1_BadPlan k2_BadPlan k3_BadPlan k5_BadPlan "ValueError.__new__"))
    (lo_xr_BadPlan : PySem.HandSPX.refsVE bm_BadPlan = true)
    (sa_BadPlan : PySem.W.findIn K (.ref C_BadPlan) "__setattr__" = some (some (.builtin "object.__setattr__")))
    (ek_BadPlan : PySem.W.keepIn K (.ref C_BadPlan) = true)
    (es_BadPlan : PySem.W.subIn K (.ref C_BadPlan) (.type "BaseException") = some true)
    (et_BadPlan : PySem.W.typeIn K (.ref C_BadPlan) = some (.type "type"))
    (no_BadPlan : PySem.W.findIn K (.ref C_BadPlan) "at" = some none)
    (iC_BadPlan : PySem.W.findIn K (.ref C_BadPlan) "__init__" = some (some (.ref fI_BadPlan)))
    (tI_BadPlan : PySem.W.typeIn K (.ref fI_BadPlan) = some (.type "function"))
    (xfa_BadPlan : PySem.W.findIn K (.ref C_BadPlan) "__getattribute__" = some (some (.builtin "BaseException.__getattribute__")))
    (xfg_BadPlan : PySem.W.findIn K (.ref C_BadPlan) "__getattr__" = some none)
    (xfh_BadPlan : PySem.W.hasDictIn K C_BadPlan = true)
    (lI_BadPlan : K.lookup fI_BadPlan = some ⟨oc_BadPlan, od_BadPlan, .func (PySem.W.fnOf "__init__" "BadPlan.__init__" (defArgs s_init_BadPlan) (defBody s_init_BadPlan) (defScope s_init_BadPlan) .none kV_BadPlan dc_BadPlan pm_BadPlan an_BadPlan cd_BadPlan ct_BadPlan), sl_BadPlan⟩)
    (cI_BadPlan : PySem.W.codeIn K cd_BadPlan "BadPlan.__init__" = true)
    (kI_BadPlan : PySem.W.keepIn K (.ref fI_BadPlan) = true)
    (eg_BusError : PySem.W.nsIn K mainGlobals "BusError" = some (some (.ref C_BusError)))
    (ex_BusError : PySem.W.excIn K C_BusError [.type "ValueError", .type "Exception", .type "BaseException", .type "object"] "ValueError.__new__" = true)
    (ek_BusError : PySem.W.keepIn K (.ref C_BusError) = true)
    (es_BusError : PySem.W.subIn K (.ref C_BusError) (.type "BaseException") = some true)
    (et_BusError : PySem.W.typeIn K (.ref C_BusError) = some (.type "type"))
    (sg_BusError : PySem.W.specialIn K (.ref C_BusError) "__getattribute__" = some (some (.builtin "type.__getattribute__")))
    (rd_BusError : PySem.W.readsIn K C_BusError (.type "type") = true)
    (fc_BusError : PySem.W.findCls K (.ref C_BusError) (.type "type") "__init__" = some (.val (.builtin "ValueError.__init__")))
    (z_all : PySem.W.nsIn K mainGlobals "all" = some none)
    (z_bool : PySem.W.nsIn K mainGlobals "bool" = some none)
    (z_enumerate : PySem.W.nsIn K mainGlobals "enumerate" = some none)
    (z_int : PySem.W.nsIn K mainGlobals "int" = some none)
    (z_isinstance : PySem.W.nsIn K mainGlobals "isinstance" = some none)
    (z_len : PySem.W.nsIn K mainGlobals "len" = some none)
    (z_list : PySem.W.nsIn K mainGlobals "list" = some none)
    (z_max : PySem.W.nsIn K mainGlobals "max" = some none)
    (z_min : PySem.W.nsIn K mainGlobals "min" = some none)
    (z_range : PySem.W.nsIn K mainGlobals "range" = some none)
    (z_set : PySem.W.nsIn K mainGlobals "set" = some none)
    (z_sorted : PySem.W.nsIn K mainGlobals "sorted" = some none)
    (z_str : PySem.W.nsIn K mainGlobals "str" = some none)
    (z_tuple : PySem.W.nsIn K mainGlobals "tuple" = some none)
    (z_zip : PySem.W.nsIn K mainGlobals "zip" = some none)
    (hd_BadPlan : PySem.W.hasDictIn K C_BadPlan = true)
    (xm_BadPlan_BadPlan : PySem.W.subIn K (.ref C_BadPlan) (.ref C_BadPlan) = some true)
    (gg_SIZES : PySem.W.nsIn K mainGlobals "SIZES" = some (some (.ref G_SIZES)))
    (gl_SIZES : K.lookup G_SIZES = some ⟨.type "tuple", od_SIZES, .seq #[(.int 8 t_SIZES_0), (.int 16 t_SIZES_1), (.int 32 t_SIZES_2), (.int 64 t_SIZES_3)] n_SIZES, sl_SIZES⟩)
    (gg_PERIODS : PySem.W.nsIn K mainGlobals "PERIODS" = some (some (.ref G_PERIODS)))
    (gl_PERIODS : K.lookup G_PERIODS = some ⟨.type "tuple", od_PERIODS, .seq #[(.int 1 t_PERIODS_0), (.int 2 t_PERIODS_1), (.int 4 t_PERIODS_2), (.int 8 t_PERIODS_3), (.int 16 t_PERIODS_4), (.int 32 t_PERIODS_5)] n_PERIODS, sl_PERIODS⟩)
    (gg_MOST_ENDS : PySem.W.nsIn K mainGlobals "MOST_ENDS" = some (some (.int 8 t_MOST_ENDS)))
    (gg_MOST_PORTS : PySem.W.nsIn K mainGlobals "MOST_PORTS" = some (some (.int 4 t_MOST_PORTS)))
    : ∃ fd : FuncData, (∀ (s : Shared) (v : Value), BindsTo s fd ⟨[v], []⟩ [("_law_script", v)]) ∧ ∀ base : Heap, K.In base → base.Ns mainGlobals mg → FnOk l.prog w K mg base (L2.CX l.prog w) 7 fa fd ["_law_script"] (spLaw K) := by
  have e := hfa.symm.trans (PySem.W.mg_of X G a26)
  cases e
  have F0 := fun_mk (st := s_good_end) l0 c0 k0
  have b0 := F0.binds (ps := ["end"]) fun _ _ _ _ _ _ us hl => match us, hl with | [_], _ => rfl
  have F1 := fun_mk (st := s_need_plan) l1 c1 k1
  have b1 := F1.binds (ps := ["plan"]) fun _ _ _ _ _ _ us hl => match us, hl with | [_], _ => rfl
  have F2 := fun_mk (st := s_two) l2 c2 k2
  have b2 := F2.binds (ps := ["number"]) fun _ _ _ _ _ _ us hl => match us, hl with | [_], _ => rfl
  have F3 := fun_mk (st := s_device_row) l3 c3 k3
  have b3 := F3.binds (ps := ["plan"]) fun _ _ _ _ _ _ us hl => match us, hl with | [_], _ => rfl
  have F4 := fun_mk (st := s_end_row) l4 c4 k4
  have b4 := F4.binds (ps := ["end"]) fun _ _ _ _ _ _ us hl => match us, hl with | [_], _ => rfl
  have F5 := fun_mk (st := s_settings_row) l5 c5 k5
  have b5 := F5.binds (ps := ["plan"]) fun _ _ _ _ _ _ us hl => match us, hl with | [_], _ => rfl
  have F6 := fun_mk (st := s_end_of) l6 c6 k6
  have b6 := F6.binds (ps := ["row"]) fun _ _ _ _ _ _ us hl => match us, hl with | [_], _ => rfl
  have F7 := fun_mk (st := s_first_unlike) l7 c7 k7
  have b7 := F7.binds (ps := ["row", "due"]) fun _ _ _ _ _ _ us hl => match us, hl with | [_, _], _ => rfl
  have F8 := fun_mk (st := s_plan_told) l8 c8 k8
  have b8 := F8.binds (ps := ["device", "settings"]) fun _ _ _ _ _ _ us hl => match us, hl with | [_, _], _ => rfl
  have F9 := fun_mk (st := s_read_plan) l9 c9 k9
  have b9 := F9.binds (ps := ["device", "settings"]) fun _ _ _ _ _ _ us hl => match us, hl with | [_, _], _ => rfl
  have F10 := fun_mk (st := s_law_bag) l10 c10 k10
  have b10 := F10.binds (ps := ["_law_script"]) fun _ _ _ _ _ _ us hl => match us, hl with | [_], _ => rfl
  have F11 := fun_mk (st := s_law_pull) l11 c11 k11
  have b11 := F11.binds (ps := ["_law_bag_here", "_law_upto"]) fun _ _ _ _ _ _ us hl => match us, hl with | [_, _], _ => rfl
  have F12 := fun_mk (st := s_law_whole) l12 c12 k12
  have b12 := F12.binds (ps := ["_law_found"]) fun _ _ _ _ _ _ us hl => match us, hl with | [_], _ => rfl
  have F13 := fun_mk (st := s_law_same) l13 c13 k13
  have b13 := F13.binds (ps := ["_law_found", "_law_due_here"]) fun _ _ _ _ _ _ us hl => match us, hl with | [_, _], _ => rfl
  have F14 := fun_mk (st := s_law_one) l14 c14 k14
  have b14 := F14.binds (ps := ["_law_bag_here", "_law_row"]) fun _ _ _ _ _ _ us hl => match us, hl with | [_, _], _ => rfl
  have F15 := fun_mk (st := s_law_end) l15 c15 k15
  have b15 := F15.binds (ps := ["_law_bag_here", "_law_spot"]) fun _ _ _ _ _ _ us hl => match us, hl with | [_, _], _ => rfl
  have F16 := fun_mk (st := s_law_ends) l16 c16 k16
  have b16 := F16.binds (ps := ["_law_bag_here", "_law_most"]) fun _ _ _ _ _ _ us hl => match us, hl with | [_, _], _ => rfl
  have F17 := fun_mk (st := s_law_plan) l17 c17 k17
  have b17 := F17.binds (ps := ["_law_bag_here", "_law_most", "_law_hub"]) fun _ _ _ _ _ _ us hl => match us, hl with | [_, _, _], _ => rfl
  have F18 := fun_mk (st := s_law_two) l18 c18 k18
  have b18 := F18.binds (ps := ["_law_number"]) fun _ _ _ _ _ _ us hl => match us, hl with | [_], _ => rfl
  have F19 := fun_mk (st := s_law_device) l19 c19 k19
  have b19 := F19.binds (ps := ["_law_plan_here"]) fun _ _ _ _ _ _ us hl => match us, hl with | [_], _ => rfl
  have F20 := fun_mk (st := s_law_settings) l20 c20 k20
  have b20 := F20.binds (ps := ["_law_plan_here"]) fun _ _ _ _ _ _ us hl => match us, hl with | [_], _ => rfl
  have F21 := fun_mk (st := s_law_end_good) l21 c21 k21
  have b21 := F21.binds (ps := ["_law_end_here"]) fun _ _ _ _ _ _ us hl => match us, hl with | [_], _ => rfl
  have F22 := fun_mk (st := s_law_told_plan) l22 c22 k22
  have b22 := F22.binds (ps := ["_law_first", "_law_second"]) fun _ _ _ _ _ _ us hl => match us, hl with | [_, _], _ => rfl
  have F23 := fun_mk (st := s_law_due) l23 c23 k23
  have b23 := F23.binds (ps := ["_law_first", "_law_second"]) fun _ _ _ _ _ _ us hl => match us, hl with | [_, _], _ => rfl
  have F24 := fun_mk (st := s_law_bent) l24 c24 k24
  have b24 := F24.binds (ps := ["_law_bag_here", "_law_row"]) fun _ _ _ _ _ _ us hl => match us, hl with | [_, _], _ => rfl
  have F25 := fun_mk (st := s_law_said) l25 c25 k25
  have b25 := F25.binds (ps := ["_law_first", "_law_second"]) fun _ _ _ _ _ _ us hl => match us, hl with | [_, _], _ => rfl
  have F26 := fun_mk (st := s_law) l26 c26 k26
  have b26 := F26.binds (ps := ["_law_script"]) fun _ _ _ _ _ _ us hl => match us, hl with | [_], _ => rfl
  have FI_BadPlan := fun_mk (st := s_init_BadPlan) lI_BadPlan cI_BadPlan kI_BadPlan
  have bI_BadPlan := FI_BadPlan.binds (ps := ["self", "at"]) fun _ _ _ _ _ _ us hl => match us, hl with | [_, _], _ => rfl
  have xn_BadPlan_BadPlan := PySem.W.exm_ref es_BadPlan hd_BadPlan et_BadPlan xm_BadPlan_BadPlan
  have T : Tx w K mg ⟨f0, _, f1, _, f2, _, f3, _, f4, _, f5, _, f6, _, f7, _, f8, _, f9, _, f10, _, f11, _, f12, _, f13, _, f14, _, f15, _, f16, _, f17, _, f18, _, f19, _, f20, _, f21, _, f22, _, f23, _, f24, _, f25, _, fa, _, C_BusError, C_BadPlan, fI_BadPlan, _, (.ref G_SIZES), (.ref G_SIZES), (.ref G_PERIODS), (.ref G_PERIODS), (.int 8 t_MOST_ENDS), (.int 8), (.int 4 t_MOST_PORTS), (.int 4)⟩ := { F_good_end := F0, m_good_end := PySem.W.mg_of X G a0, b_good_end := b0, F_need_plan := F1, m_need_plan := PySem.W.mg_of X G a1, b_need_plan := b1, F_two := F2, m_two := PySem.W.mg_of X G a2, b_two := b2, F_device_row := F3, m_device_row := PySem.W.mg_of X G a3, b_device_row := b3, F_end_row := F4, m_end_row := PySem.W.mg_of X G a4, b_end_row := b4, F_settings_row := F5, m_settings_row := PySem.W.mg_of X G a5, b_settings_row := b5, F_end_of := F6, m_end_of := PySem.W.mg_of X G a6, b_end_of := b6, F_first_unlike := F7, m_first_unlike := PySem.W.mg_of X G a7, b_first_unlike := b7, F_plan_told := F8, m_plan_told := PySem.W.mg_of X G a8, b_plan_told := b8, F_read_plan := F9, m_read_plan := PySem.W.mg_of X G a9, b_read_plan := b9, F_law_bag := F10, m_law_bag := PySem.W.mg_of X G a10, b_law_bag := b10, F_law_pull := F11, m_law_pull := PySem.W.mg_of X G a11, b_law_pull := b11, F_law_whole := F12, m_law_whole := PySem.W.mg_of X G a12, b_law_whole := b12, F_law_same := F13, m_law_same := PySem.W.mg_of X G a13, b_law_same := b13, F_law_one := F14, m_law_one := PySem.W.mg_of X G a14, b_law_one := b14, F_law_end := F15, m_law_end := PySem.W.mg_of X G a15, b_law_end := b15, F_law_ends := F16, m_law_ends := PySem.W.mg_of X G a16, b_law_ends := b16, F_law_plan := F17, m_law_plan := PySem.W.mg_of X G a17, b_law_plan := b17, F_law_two := F18, m_law_two := PySem.W.mg_of X G a18, b_law_two := b18, F_law_device := F19, m_law_device := PySem.W.mg_of X G a19, b_law_device := b19, F_law_settings := F20, m_law_settings := PySem.W.mg_of X G a20, b_law_settings := b20, F_law_end_good := F21, m_law_end_good := PySem.W.mg_of X G a21, b_law_end_good := b21, F_law_told_plan := F22, m_law_told_plan := PySem.W.mg_of X G a22, b_law_told_plan := b22, F_law_due := F23, m_law_due := PySem.W.mg_of X G a23, b_law_due := b23, F_law_bent := F24, m_law_bent := PySem.W.mg_of X G a24, b_law_bent := b24, F_law_said := F25, m_law_said := PySem.W.mg_of X G a25, b_law_said := b25, F_law := F26, m_law := PySem.W.mg_of X G a26, b_law := b26, g_BadPlan := PySem.W.mg_of X G eg_BadPlan, ox_BadPlan := ⟨⟨_, _, _, _, _, _, _, _, _, _, _, _, _, _, _, xl_BadPlan, lo_xr_BadPlan⟩, sa_BadPlan, es_BadPlan, et_BadPlan, ek_BadPlan⟩, no_BadPlan := no_BadPlan, xf_BadPlan := ⟨xfa_BadPlan, xfg_BadPlan, es_BadPlan, xfh_BadPlan⟩, iC_BadPlan := iC_BadPlan, tI_BadPlan := tI_BadPlan, FI_BadPlan := FI_BadPlan, bI_BadPlan := bI_BadPlan, sg_BusError := sg_BusError, rd_BusError := rd_BusError, fc_BusError := fc_BusError, e_BusError := ⟨PySem.W.mg_of X G eg_BusError, PySem.F.excBase_ValueError, ex_BusError, ek_BusError, es_BusError, et_BusError⟩, z_all := PySem.W.mg_none_of X G z_all, z_bool := PySem.W.mg_none_of X G z_bool, z_enumerate := PySem.W.mg_none_of X G z_enumerate, z_int := PySem.W.mg_none_of X G z_int, z_isinstance := PySem.W.mg_none_of X G z_isinstance, z_len := PySem.W.mg_none_of X G z_len, z_list := PySem.W.mg_none_of X G z_list, z_max := PySem.W.mg_none_of X G z_max, z_min := PySem.W.mg_none_of X G z_min, z_range := PySem.W.mg_none_of X G z_range, z_set := PySem.W.mg_none_of X G z_set, z_sorted := PySem.W.mg_none_of X G z_sorted, z_str := PySem.W.mg_none_of X G z_str, z_tuple := PySem.W.mg_none_of X G z_tuple, z_zip := PySem.W.mg_none_of X G z_zip, xm_BadPlan_BadPlan := xn_BadPlan_BadPlan, c_SIZES := PySem.W.mg_of X G gg_SIZES, q_SIZES := rfl, r_SIZES := fun ρ F => (rd_tupF [(.int 8), (.int 16), (.int 32), (.int 64)] gl_SIZES rfl rfl (Nat.le_trans (show 4 ≤ 1000 by decide) (by rw [sizeLine_eq]; omega)) (.cons ⟨_, rfl⟩ (.cons ⟨_, rfl⟩ (.cons ⟨_, rfl⟩ (.cons ⟨_, rfl⟩ .nil)))) ⟨_, _, rfl, rfl, ⟨_, _, rfl, rfl, ⟨_, _, rfl, rfl, ⟨_, _, rfl, rfl, rfl⟩⟩⟩⟩), c_PERIODS := PySem.W.mg_of X G gg_PERIODS, q_PERIODS := rfl, r_PERIODS := fun ρ F => (rd_tupF [(.int 1), (.int 2), (.int 4), (.int 8), (.int 16), (.int 32)] gl_PERIODS rfl rfl (Nat.le_trans (show 6 ≤ 1000 by decide) (by rw [sizeLine_eq]; omega)) (.cons ⟨_, rfl⟩ (.cons ⟨_, rfl⟩ (.cons ⟨_, rfl⟩ (.cons ⟨_, rfl⟩ (.cons ⟨_, rfl⟩ (.cons ⟨_, rfl⟩ .nil)))))) ⟨_, _, rfl, rfl, ⟨_, _, rfl, rfl, ⟨_, _, rfl, rfl, ⟨_, _, rfl, rfl, ⟨_, _, rfl, rfl, ⟨_, _, rfl, rfl, rfl⟩⟩⟩⟩⟩⟩), c_MOST_ENDS := PySem.W.mg_of X G gg_MOST_ENDS, q_MOST_ENDS := ⟨_, rfl⟩, r_MOST_ENDS := fun ρ F => rfl, c_MOST_PORTS := PySem.W.mg_of X G gg_MOST_PORTS, q_MOST_PORTS := ⟨_, rfl⟩, r_MOST_PORTS := fun ρ F => rfl }
  exact ⟨_, fun s v => .of_eq rfl, fun base _ _ => law_ok T⟩
end DL.My
open PySem PySem.W PyProof.Rows
set_option maxRecDepth 100000 in
set_option maxHeartbeats 0 in
theorem PySem.Challenge.cw_plugtree_k09_rows_of_plans_at_fault_holds : PySem.Challenge.rw_plugtree_k09_rows_of_plans_at_fault.Holds := by
  w_on; o_law; k_head; (case hw => w_witness2)
  k_fill
  refine L2.walk_of (l := PySem.Challenge.rw_plugtree_k09_rows_of_plans_at_fault) (n := 63) (k := 7) (x := "_law_script") (CX := fun w => L2.CX PySem.Challenge.rw_plugtree_k09_rows_of_plans_at_fault.prog w) (sp := fun w => DL.spLaw _) rfl (by decide) rfl ⟨rfl, by decide, by decide⟩ (fun w h Y => PySem.W.kIn_of Y) ?F (fun _ _ a ns hl _ hS => ⟨a, ns, rfl, hS, hl, fun _ => rfl⟩) (fun _ _ _ _ _ h => DL.cx_no h)
  case F =>
    intro w mg fa h KX G hmg
    refine' DL.My.all_mk KX G hmg ?a0 ?l0 ?c0 ?k0 ?a1 ?l1 ?c1 ?k1 ?a2 ?l2 ?c2 ?k2 ?a3 ?l3 ?c3 ?k3 ?a4 ?l4 ?c4 ?k4 ?a5 ?l5 ?c5 ?k5 ?a6 ?l6 ?c6 ?k6 ?a7 ?l7 ?c7 ?k7 ?a8 ?l8 ?c8 ?k8 ?a9 ?l9 ?c9 ?k9 ?a10 ?l10 ?c10 ?k10 ?a11 ?l11 ?c11 ?k11 ?a12 ?l12 ?c12 ?k12 ?a13 ?l13 ?c13 ?k13 ?a14 ?l14 ?c14 ?k14 ?a15 ?l15 ?c15 ?k15 ?a16 ?l16 ?c16 ?k16 ?a17 ?l17 ?c17 ?k17 ?a18 ?l18 ?c18 ?k18 ?a19 ?l19 ?c19 ?k19 ?a20 ?l20 ?c20 ?k20 ?a21 ?l21 ?c21 ?k21 ?a22 ?l22 ?c22 ?k22 ?a23 ?l23 ?c23 ?k23 ?a24 ?l24 ?c24 ?k24 ?a25 ?l25 ?c25 ?k25 ?a26 ?l26 ?c26 ?k26 ?eg_BadPlan ?xl_BadPlan ?lo_xr_BadPlan ?sa_BadPlan ?ek_BadPlan ?es_BadPlan ?et_BadPlan ?no_BadPlan ?iC_BadPlan ?tI_BadPlan ?xfa_BadPlan ?xfg_BadPlan ?xfh_BadPlan ?lI_BadPlan ?cI_BadPlan ?kI_BadPlan ?eg_BusError ?ex_BusError ?ek_BusError ?es_BusError ?et_BusError ?sg_BusError ?rd_BusError ?fc_BusError ?z_all ?z_bool ?z_enumerate ?z_int ?z_isinstance ?z_len ?z_list ?z_max ?z_min ?z_range ?z_set ?z_sorted ?z_str ?z_tuple ?z_zip ?hd_BadPlan ?xm_BadPlan_BadPlan ?gg_SIZES ?gl_SIZES ?gg_PERIODS ?gl_PERIODS ?gg_MOST_ENDS ?gg_MOST_PORTS
    (case a0 => k_is)
    (case l0 => k_is)
    (case c0 => k_is)
    (case k0 => k_is)
    (case a1 => k_is)
    (case l1 => k_is)
    (case c1 => k_is)
    (case k1 => k_is)
    (case a2 => k_is)
    (case l2 => k_is)
    (case c2 => k_is)
    (case k2 => k_is)
    (case a3 => k_is)
    (case l3 => k_is)
    (case c3 => k_is)
    (case k3 => k_is)
    (case a4 => k_is)
    (case l4 => k_is)
    (case c4 => k_is)
    (case k4 => k_is)
    (case a5 => k_is)
    (case l5 => k_is)
    (case c5 => k_is)
    (case k5 => k_is)
    (case a6 => k_is)
    (case l6 => k_is)
    (case c6 => k_is)
    (case k6 => k_is)
    (case a7 => k_is)
    (case l7 => k_is)
    (case c7 => k_is)
    (case k7 => k_is)
    (case a8 => k_is)
    (case l8 => k_is)
    (case c8 => k_is)
    (case k8 => k_is)
    (case a9 => k_is)
    (case l9 => k_is)
    (case c9 => k_is)
    (case k9 => k_is)
    (case a10 => k_is)
    (case l10 => k_is)
    (case c10 => k_is)
    (case k10 => k_is)
    (case a11 => k_is)
    (case l11 => k_is)
    (case c11 => k_is)
    (case k11 => k_is)
    (case a12 => k_is)
    (case l12 => k_is)
    (case c12 => k_is)
    (case k12 => k_is)
    (case a13 => k_is)
    (case l13 => k_is)
    (case c13 => k_is)
    (case k13 => k_is)
    (case a14 => k_is)
    (case l14 => k_is)
    (case c14 => k_is)
    (case k14 => k_is)
    (case a15 => k_is)
    (case l15 => k_is)
    (case c15 => k_is)
    (case k15 => k_is)
    (case a16 => k_is)
    (case l16 => k_is)
    (case c16 => k_is)
    (case k16 => k_is)
    (case a17 => k_is)
    (case l17 => k_is)
    (case c17 => k_is)
    (case k17 => k_is)
    (case a18 => k_is)
    (case l18 => k_is)
    (case c18 => k_is)
    (case k18 => k_is)
    (case a19 => k_is)
    (case l19 => k_is)
    (case c19 => k_is)
    (case k19 => k_is)
    (case a20 => k_is)
    (case l20 => k_is)
    (case c20 => k_is)
    (case k20 => k_is)
    (case a21 => k_is)
    (case l21 => k_is)
    (case c21 => k_is)
    (case k21 => k_is)
    (case a22 => k_is)
    (case l22 => k_is)
    (case c22 => k_is)
    (case k22 => k_is)
    (case a23 => k_is)
    (case l23 => k_is)
    (case c23 => k_is)
    (case k23 => k_is)
    (case a24 => k_is)
    (case l24 => k_is)
    (case c24 => k_is)
    (case k24 => k_is)
    (case a25 => k_is)
    (case l25 => k_is)
    (case c25 => k_is)
    (case k25 => k_is)
    (case a26 => k_is)
    (case l26 => k_is)
    (case c26 => k_is)
    (case k26 => k_is)
    (case eg_BadPlan => k_is)
    (case xl_BadPlan => k_is)
    (case lo_xr_BadPlan => first | rfl | decide)
    (case sa_BadPlan => k_is)
    (case ek_BadPlan => k_is)
    (case es_BadPlan => k_is)
    (case et_BadPlan => k_is)
    (case no_BadPlan => k_is)
    (case iC_BadPlan => k_is)
    (case tI_BadPlan => k_is)
    (case xfa_BadPlan => k_is)
    (case xfg_BadPlan => k_is)
    (case xfh_BadPlan => k_is)
    (case lI_BadPlan => k_is)
    (case cI_BadPlan => k_is)
    (case kI_BadPlan => k_is)
    (case eg_BusError => k_is)
    (case ex_BusError => k_exc)
    (case ek_BusError => k_is)
    (case es_BusError => k_is)
    (case et_BusError => k_is)
    (case sg_BusError => k_is)
    (case rd_BusError => k_is)
    (case fc_BusError => k_is)
    (case z_all => k_is)
    (case z_bool => k_is)
    (case z_enumerate => k_is)
    (case z_int => k_is)
    (case z_isinstance => k_is)
    (case z_len => k_is)
    (case z_list => k_is)
    (case z_max => k_is)
    (case z_min => k_is)
    (case z_range => k_is)
    (case z_set => k_is)
    (case z_sorted => k_is)
    (case z_str => k_is)
    (case z_tuple => k_is)
    (case z_zip => k_is)
    (case hd_BadPlan => k_is)
    (case xm_BadPlan_BadPlan => first | rfl | k_is)
    (case gg_SIZES => k_is)
    (case gl_SIZES => k_is)
    (case gg_PERIODS => k_is)
    (case gl_PERIODS => k_is)
    (case gg_MOST_ENDS => k_is)
    (case gg_MOST_PORTS => k_is)
