import PyProof.Rows.All
import Wide.All
import OpenK.AllK
import Wide.FinOn
import HandS.ForExc
import HandS.TupAny
import HandS.CallSlots
import HandS.Comp
import HandS.Iter
import HandS.Style
import HandS.Wide
import HandS.WideBits
import HandS.TupMul
import HandS.IsInst
import HandS.Deep
import HandS.ExcIs
import HandS.ExcField
import HandS.TryMany
import KE.BitLaws
import HandS.More
import HandS.Dict
import HandS.Conv
import HandS.TryOnly
import HandS.Defaults
import KE.GoesMore
import KE.GoesEnum
import HandS.SortKw
import PyProof.SumAny
import HandS.RaiseFrom
import HandS.SuiteRaise
import HandS.ExcInit
import HandS.ExcInitHot
import HandS.FStr
import HandS.SetFor
import HandS.Strs
import HandS.Zip
import HandS.Sort
import HandS.TupLe
import KE.DataCmp
import KE.DataMinMax
import KE.SortData
import KE.KItemsList
import KE.KDictZip
import HandS.Text
import PySem.Challenge.RW_plugtree_k22_journals_looked_at
set_option Elab.async false
set_option linter.all false
set_option maxRecDepth 100000
/-! Data over the hand layer: values as trees, objects that change by number. -/
namespace DL
open PySem L2

/-- a condition that no kernel reckons by itself -/
def Pr (p : Prop) : Prop := p
noncomputable instance (p : Prop) : Decidable (Pr p) := Classical.propDecidable _
@[simp] theorem Pr_iff (p : Prop) : Pr p ↔ p := Iff.rfl
noncomputable def dcd (p : Prop) : Bool := decide (Pr p)
theorem dcd_eq (p : Prop) [Decidable p] : decide p = dcd p := by
  unfold dcd
  by_cases h : p
  · rw [decide_eq_true h, decide_eq_true (show Pr p from h)]
  · rw [decide_eq_false h, decide_eq_false (show ¬ Pr p from h)]
@[simp] theorem dcd_iff (p : Prop) : dcd p = true ↔ p := by
  unfold dcd
  exact ⟨fun h => (of_decide_eq_true h : Pr p), fun h => decide_eq_true (show Pr p from h)⟩
@[simp] theorem dcd_iffF (p : Prop) : dcd p = false ↔ ¬ p := by
  unfold dcd
  exact ⟨fun h => (of_decide_eq_false h : ¬ Pr p), fun h => decide_eq_false (show ¬ Pr p from h)⟩
@[simp] theorem dcd_T : dcd True = true := (dcd_iff True).mpr trivial
@[simp] theorem dcd_F : dcd False = false := (dcd_iffF False).mpr not_false
theorem dcd_pos {p : Prop} (h : p) : dcd p = true := (dcd_iff p).mpr h
theorem dcd_neg {p : Prop} (h : ¬ p) : dcd p = false := (dcd_iffF p).mpr h
/-- data: what never changes, as a tree; obj k: the k-th object that may change -/
inductive D where
  | non | bl (b : Bool) | int (i : Int) | str (x : Str) | ref (a : Addr) | ty (n : String)
  | tup (ds : List D) | lst (ds : List D) | lsr (ds : List D) | obj (k : Nat) | exc (a dx : Addr) (ks : List Str) (ds : List D)
/-- an object that may change -/
inductive MO where
  | lst (ds : List D) | dK (kvs : List (Key × D)) | dT (kvs : List (List Key × D)) | ins (C : Str) (fs : List (Str × D)) | gone
/-- an exception: its class by name, its fields -/
structure Ex where
  cls : Str
  fs : List (Str × D)
/-- the slots and the objects -/
structure DS where
  g : List (Option D)
  m : List MO
/-- how a run ends: stuck, well, by an exception -/
inductive R (α : Type) where
  | bad
  | ok (a : α) (s : DS)
  | ex (e : Ex) (s : DS)
inductive Fl where
  | nx | rt (d : D) | bk | ct
/-- a sign that hangs on what comes behind: so simp lets that be until its time has come -/
inductive Tag {α : Type} (g : α) : Type where
  | mk
def R.bind {α β : Type} (r : R α) (g : α → DS → R β) (_ : Tag g := .mk) : R β :=
  match r with
  | .bad => .bad
  | .ok a s => g a s
  | .ex e s => .ex e s

@[simp] theorem bind_ok {α β : Type} {a : α} {s : DS} {g : α → DS → R β} : (R.ok a s).bind g = g a s := rfl
@[simp] theorem bind_ex {α β : Type} {e : Ex} {s : DS} {g : α → DS → R β} : (R.ex (α := α) e s).bind g = .ex e s := rfl
@[simp] theorem bind_bad {α β : Type} {g : α → DS → R β} : (R.bad (α := α)).bind g = .bad := rfl
/-- tuples that are known to be made by the run: they may be put as keys -/
def keyish : List D → Prop
  | [.int _, .str _] => True
  | [.int i, .int _] => i ≤ 16
  | [.int _, .int _, .str _] => True
  | _ => False
/-- a tuple at a -/
def TqT (K : PySem.W.Frag) (F : Hp) (ds : List D) (a : Addr) (vs : List V) : Prop := SqT K F a vs ∧ (keyish ds → F a = some (.tup vs))
theorem TqT.new {K : PySem.W.Frag} {F : Hp} {ds : List D} {a : Addr} {vs : List V} (h : F a = some (.tup vs)) : TqT K F ds a vs := ⟨.inl (.inl h), fun _ => h⟩
section
variable (K : PySem.W.Frag)
mutual
/-- v reads as the datum d: ρ tells where the objects stand, F what never changes -/
def Rd (ρ : List Addr) (F : Hp) : D → V → Prop
  | .non, v => v = .non
  | .bl b, v => v = .bl b
  | .int i, v => v = .int i
  | .str x, v => v = .str x
  | .ref a, v => v = .ref a
  | .ty n, v => v = .ty n
  | .tup ds, v => ∃ a vs, v = .ref a ∧ TqT K F ds a vs ∧ RdL ρ F ds vs
  | .lst ds, v => ∃ a vs, v = .ref a ∧ F a = some (.lst vs) ∧ RdL ρ F ds vs
  | .lsr ds, v => ∃ a vs, v = .ref a ∧ SqL K F a vs ∧ RdL ρ F ds vs
  | .obj k, v => ∃ a, v = .ref a ∧ ρ[k]? = some a
  | .exc a dx ks ds, v => ∃ vs, v = .ref a ∧ F dx = some (.xd (ks.zip vs)) ∧ ks.length = ds.length ∧ RdL ρ F ds vs
def RdL (ρ : List Addr) (F : Hp) : List D → List V → Prop
  | [], vs => vs = []
  | d :: ds, vs => ∃ v r, vs = v :: r ∧ Rd ρ F d v ∧ RdL ρ F ds r
end
def RdK (ρ : List Addr) (F : Hp) {κ : Type} : List (κ × D) → List (κ × V) → Prop
  | [], l => l = []
  | (k, d) :: r, l => ∃ v t, l = (k, v) :: t ∧ Rd K ρ F d v ∧ RdK ρ F r t
end

/-- what was stays; new things stand at new places -/
structure Ext (ρ : List Addr) (F H : Hp) (ρ' : List Addr) (F' H' : Hp) : Prop where
  pre : ∃ l, ρ' = ρ ++ l
  fro : Same F F'
  rest : ∀ a o, H a = some o → a ∉ ρ → H' a = some o
  newr : ∀ a, a ∈ ρ' → a ∈ ρ ∨ H a = none
  newf : ∀ a, F' a ≠ none → F a ≠ none ∨ a ∈ ρ ∨ H a = none
theorem Ext.refl (ρ : List Addr) (F H : Hp) : Ext ρ F H ρ F H := ⟨⟨[], by simp⟩, Same.refl F, fun _ _ h _ => h, fun _ h => .inl h, fun _ h => .inl h⟩
theorem Ext.trans {ρ ρ1 ρ2 : List Addr} {F F1 F2 H H1 H2 : Hp} (a : Ext ρ F H ρ1 F1 H1) (b : Ext ρ1 F1 H1 ρ2 F2 H2) : Ext ρ F H ρ2 F2 H2 := by
  have back : ∀ c, H1 c = none → c ∈ ρ ∨ H c = none := fun c e => by
    by_cases hc : c ∈ ρ
    · exact .inl hc
    · cases q : H c with
      | none => exact .inr rfl
      | some o =>
        have z := a.rest c o q hc
        rw [e] at z
        cases z
  refine ⟨?_, a.fro.trans b.fro, fun c o h hc => ?_, fun c h => ?_, fun c h => ?_⟩
  · obtain ⟨l, rfl⟩ := a.pre
    obtain ⟨l', rfl⟩ := b.pre
    exact ⟨l ++ l', by simp⟩
  · refine b.rest c o (a.rest c o h hc) fun hm => ?_
    rcases a.newr c hm with z | z
    · exact hc z
    · rw [h] at z
      cases z
  · rcases b.newr c h with z | z
    · exact a.newr c z
    · exact back c z
  · rcases b.newf c h with z | z | z
    · exact a.newf c z
    · rcases a.newr c z with y | y
      · exact .inr (.inl y)
      · exact .inr (.inr y)
    · rcases back c z with y | y
      · exact .inr (.inl y)
      · exact .inr (.inr y)

section
variable {K : PySem.W.Frag} {ρ ρ' : List Addr} {F F' H H' : Hp}
theorem sqS_mono (s : Same F F') {a : Addr} {xs : List V} (h : SqT K F a xs) : SqT K F' a xs := by
  rcases h with (h | ⟨o, h⟩) | h
  · exact .inl (.inl (s _ _ h))
  · exact .inl (.inr ⟨o, s _ _ h⟩)
  · exact .inr h
theorem sqT_mono (s : Same F F') {ds : List D} {a : Addr} {xs : List V} (h : TqT K F ds a xs) : SqT K F' a xs := sqS_mono s h.1
theorem tqT_mono (s : Same F F') {ds : List D} {a : Addr} {xs : List V} (h : TqT K F ds a xs) : TqT K F' ds a xs := ⟨sqS_mono s h.1, fun k => s _ _ (h.2 k)⟩
theorem pre_get {l : List Addr} {k : Nat} {a : Addr} (h : ρ[k]? = some a) : (ρ ++ l)[k]? = some a := by
  have := (List.getElem?_eq_some_iff.mp h).1
  rw [List.getElem?_append_left this]
  exact h
mutual
theorem Rd.mono (p : ∃ l, ρ' = ρ ++ l) (s : Same F F') : ∀ (d : D) (v : V), Rd K ρ F d v → Rd K ρ' F' d v
  | .non, _, h => h
  | .bl _, _, h => h
  | .int _, _, h => h
  | .str _, _, h => h
  | .ref _, _, h => h
  | .ty _, _, h => h
  | .tup ds, _, h => by
    simp only [Rd] at h ⊢
    obtain ⟨a, vs, e, q, r⟩ := h
    exact ⟨a, vs, e, tqT_mono s q, RdL.mono p s ds vs r⟩
  | .lst ds, _, h => by
    simp only [Rd] at h ⊢
    obtain ⟨a, vs, e, q, r⟩ := h
    exact ⟨a, vs, e, s _ _ q, RdL.mono p s ds vs r⟩
  | .lsr ds, _, h => by
    simp only [Rd] at h ⊢
    obtain ⟨a, vs, e, q, r⟩ := h
    exact ⟨a, vs, e, s.seq q, RdL.mono p s ds vs r⟩
  | .obj k, _, h => by
    simp only [Rd] at h ⊢
    obtain ⟨a, e, q⟩ := h
    obtain ⟨l, rfl⟩ := p
    exact ⟨a, e, pre_get q⟩
  | .exc _ _ ks ds, _, h => by
    simp only [Rd] at h ⊢
    obtain ⟨vs, e, q, l, r⟩ := h
    exact ⟨vs, e, s _ _ q, l, RdL.mono p s ds vs r⟩
theorem RdL.mono (p : ∃ l, ρ' = ρ ++ l) (s : Same F F') : ∀ (ds : List D) (vs : List V), RdL K ρ F ds vs → RdL K ρ' F' ds vs
  | [], _, h => h
  | d :: ds, _, h => by
    simp only [RdL] at h ⊢
    obtain ⟨v, r, e, h1, h2⟩ := h
    exact ⟨v, r, e, Rd.mono p s d v h1, RdL.mono p s ds r h2⟩
end
theorem Rd.ext {d : D} {v : V} (h : Rd K ρ F d v) (x : Ext ρ F H ρ' F' H') : Rd K ρ' F' d v := Rd.mono x.pre x.fro d v h
theorem RdL.ext {d : List D} {v : List V} (h : RdL K ρ F d v) (x : Ext ρ F H ρ' F' H') : RdL K ρ' F' d v := RdL.mono x.pre x.fro d v h
theorem RdK.mono {κ : Type} (p : ∃ l, ρ' = ρ ++ l) (s : Same F F') : ∀ (ds : List (κ × D)) (vs : List (κ × V)), RdK K ρ F ds vs → RdK K ρ' F' ds vs
  | [], _, h => h
  | (k, d) :: ds, _, h => by
    simp only [RdK] at h ⊢
    obtain ⟨v, r, e, h1, h2⟩ := h
    exact ⟨v, r, e, Rd.mono p s d v h1, RdK.mono p s ds r h2⟩
end

section
variable (K : PySem.W.Frag) (mg : Str → Option Value)
/-- the object at a is as m says -/
def MOk (ρ : List Addr) (F H : Hp) (a : Addr) : MO → Prop
  | .lst ds => ∃ vs, H a = some (.lst vs) ∧ RdL K ρ F ds vs
  | .dK kvs => ∃ vs, H a = some (.dK vs) ∧ RdK K ρ F kvs vs
  | .dT kvs => ∃ vs, H a = some (.dT vs) ∧ RdK K ρ F kvs vs
  | .ins C fs => ∃ c dx vs, mg C = some (.ref c) ∧ H a = some (.ins c dx vs) ∧ RdK K ρ F fs vs
  | .gone => True
/-- alive -/
def MO.al : MO → Prop
  | .gone => False
  | _ => True
structure MRel (ρ : List Addr) (F : Hp) (μ : List MO) (H : Hp) : Prop where
  sub : Same F H
  len : ρ.length = μ.length
  own : ∀ (k : Nat) a m, ρ[k]? = some a → μ[k]? = some m → m.al → F a = none ∧ MOk K mg ρ F H a m
  inj : ∀ (j k : Nat) a m n, ρ[j]? = some a → ρ[k]? = some a → μ[j]? = some m → m.al → μ[k]? = some n → n.al → j = k
  there : ∀ a ∈ ρ, H a ≠ none
structure SRel (ρ : List Addr) (F : Hp) (g : List (Option D)) (σ : St) : Prop where
  len : g.length = σ.length
  at_ : ∀ (i : Nat) d, g[i]? = some (some d) → ∃ v, σ[i]? = some (some v) ∧ Rd K ρ F d v
structure Rel (ρ : List Addr) (F : Hp) (s : DS) (σ : St) (H : Hp) : Prop where
  mem : MRel K mg ρ F s.m H
  slo : SRel K ρ F s.g σ
end

section
variable {K : PySem.W.Frag} {mg : Str → Option Value} {ρ ρ' : List Addr} {F F' H H' : Hp} {μ : List MO} {g : List (Option D)} {σ : St} {s : DS}
theorem SRel.mono (h : SRel K ρ F g σ) (p : ∃ l, ρ' = ρ ++ l) (sm : Same F F') : SRel K ρ' F' g σ :=
  ⟨h.len, fun i d e => let ⟨v, e1, r⟩ := h.at_ i d e; ⟨v, e1, r.mono p sm⟩⟩
theorem SRel.ext (h : SRel K ρ F g σ) (x : Ext ρ F H ρ' F' H') : SRel K ρ' F' g σ := h.mono x.pre x.fro
theorem MOk.al_some {a : Addr} {m : MO} (h : MOk K mg ρ F H a m) (al : m.al) : ∃ o, H a = some o := by
  cases m with
  | lst ds => obtain ⟨vs, e, _⟩ := h; exact ⟨_, e⟩
  | dK ds => obtain ⟨vs, e, _⟩ := h; exact ⟨_, e⟩
  | dT ds => obtain ⟨vs, e, _⟩ := h; exact ⟨_, e⟩
  | ins C fs => obtain ⟨c, dx, vs, _, e, _⟩ := h; exact ⟨_, e⟩
  | gone => exact al.elim
theorem MOk.mono {a : Addr} {m : MO} (h : MOk K mg ρ F H a m) (p : ∃ l, ρ' = ρ ++ l) (sm : Same F F') (e : H' a = H a) : MOk K mg ρ' F' H' a m := by
  cases m with
  | lst ds => obtain ⟨vs, q, r⟩ := h; exact ⟨vs, by rw [e]; exact q, RdL.mono p sm _ _ r⟩
  | dK ds => obtain ⟨vs, q, r⟩ := h; exact ⟨vs, by rw [e]; exact q, RdK.mono p sm _ _ r⟩
  | dT ds => obtain ⟨vs, q, r⟩ := h; exact ⟨vs, by rw [e]; exact q, RdK.mono p sm _ _ r⟩
  | ins C fs => obtain ⟨c, dx, vs, m1, q, r⟩ := h; exact ⟨c, dx, vs, m1, by rw [e]; exact q, RdK.mono p sm _ _ r⟩
  | gone => trivial
theorem same_up {p : Addr} {o : HO} (h : H p = none) : Same H (upd H p o) := fun b x e => by
  rw [upd_ne (ne_of_none e h)]
  exact e
theorem some_up {p a : Addr} {o : HO} (h : H a ≠ none) : upd H p o a ≠ none := by
  by_cases e : a = p
  · subst e
    rw [upd_same]
    exact fun z => nomatch z
  · rw [upd_ne e]
    exact h
theorem last_up {p a : Addr} {o : HO} (z : a ∈ [p]) : upd H p o a ≠ none := by
  have z' : a = p := by simpa using z
  subst z'
  rw [upd_same]
  exact fun z => nomatch z
/-- a new thing that never changes -/
theorem MRel.frozen {p : Addr} {o : HO} (h : MRel K mg ρ F μ H) (hp : H p = none) :
    MRel K mg ρ (upd F p o) μ (upd H p o) ∧ Ext ρ F H ρ (upd F p o) (upd H p o) := by
  have fp : F p = none := h.sub.free hp
  have sF : Same F (upd F p o) := same_up fp
  have sH : Same H (upd H p o) := same_up hp
  refine ⟨⟨fun b x e => ?_, h.len, fun k a m e1 e2 al => ?_, h.inj, fun a ha => some_up (h.there a ha)⟩, ⟨⟨[], by simp⟩, sF, fun a x e _ => sH a x e, fun a e => .inl e, fun a e => ?_⟩⟩
  · by_cases hb : b = p
    · subst hb
      rw [upd_same] at e ⊢
      exact e
    · rw [upd_ne hb] at e ⊢
      exact h.sub b x e
  · obtain ⟨f, q⟩ := h.own k a m e1 e2 al
    obtain ⟨x, ex⟩ := q.al_some al
    have ne : a ≠ p := ne_of_none ex hp
    exact ⟨by rw [upd_ne ne]; exact f, q.mono ⟨[], by simp⟩ sF (upd_ne ne)⟩
  · by_cases hb : a = p
    · subst hb
      exact .inr (.inr hp)
    · rw [upd_ne hb] at e
      exact .inl e
/-- a new object that may change -/
theorem MRel.alloc {p : Addr} {o : HO} {m : MO} (h : MRel K mg ρ F μ H) (hp : H p = none) (al : m.al) (hm : MOk K mg (ρ ++ [p]) F (upd H p o) p m) :
    MRel K mg (ρ ++ [p]) F (μ ++ [m]) (upd H p o) ∧ Ext ρ F H (ρ ++ [p]) F (upd H p o) := by
  have fp : F p = none := h.sub.free hp
  have sH : Same H (upd H p o) := same_up hp
  have live : ∀ (k : Nat) a n, ρ[k]? = some a → μ[k]? = some n → n.al → a ≠ p := fun k a n e1 e2 al' => by
    obtain ⟨_, q⟩ := h.own k a n e1 e2 al'
    obtain ⟨x, ex⟩ := q.al_some al'
    exact ne_of_none ex hp
  have split : ∀ (k : Nat) a n, (ρ ++ [p])[k]? = some a → (μ ++ [m])[k]? = some n → (ρ[k]? = some a ∧ μ[k]? = some n) ∨ (k = μ.length ∧ a = p ∧ n = m) := fun k a n e1 e2 => by
    by_cases hk : k < ρ.length
    · rw [List.getElem?_append_left hk] at e1
      rw [List.getElem?_append_left (by rw [← h.len]; exact hk)] at e2
      exact .inl ⟨e1, e2⟩
    · have hk' : k = ρ.length := by
        have := (List.getElem?_eq_some_iff.mp e1).1
        simp at this
        omega
      subst hk'
      rw [List.getElem?_append_right (Nat.le_refl _)] at e1
      rw [h.len, List.getElem?_append_right (Nat.le_refl _)] at e2
      simp at e1 e2
      exact .inr ⟨h.len, e1.symm, e2.symm⟩
  refine ⟨⟨h.sub.trans sH, by simp [h.len], fun k a n e1 e2 al' => ?_, fun j k a m1 n1 e1 e2 e3 al1 e4 al2 => ?_, fun a ha => (List.mem_append.mp ha).elim (fun z => some_up (h.there a z)) fun z => last_up z⟩, ⟨⟨[p], rfl⟩, Same.refl F, fun a x e _ => sH a x e, fun a e => ?_, fun a e => .inl e⟩⟩
  · rcases split k a n e1 e2 with ⟨e1, e2⟩ | ⟨_, rfl, rfl⟩
    · obtain ⟨f, q⟩ := h.own k a n e1 e2 al'
      exact ⟨f, q.mono ⟨[p], rfl⟩ (Same.refl F) (upd_ne (live k a n e1 e2 al'))⟩
    · exact ⟨fp, hm⟩
  · rcases split j a m1 e1 e3 with ⟨f1, f3⟩ | ⟨j1, j2, j3⟩
    · rcases split k a n1 e2 e4 with ⟨f2, f4⟩ | ⟨k1, k2, k3⟩
      · exact h.inj j k a m1 n1 f1 f2 f3 al1 f4 al2
      · exact absurd k2 (live j a m1 f1 f3 al1)
    · rcases split k a n1 e2 e4 with ⟨f2, f4⟩ | ⟨k1, k2, k3⟩
      · exact absurd j2 (live k a n1 f2 f4 al2)
      · rw [j1, k1]
  · rcases List.mem_append.mp e with z | z
    · exact .inl z
    · have : a = p := by simpa using z
      exact .inr (by rw [this]; exact hp)
/-- an object is changed -/
theorem MRel.set {k : Nat} {a : Addr} {m n : MO} {o : HO} (h : MRel K mg ρ F μ H) (e1 : ρ[k]? = some a) (e2 : μ[k]? = some m) (al : m.al) (hn : MOk K mg ρ F (upd H a o) a n) :
    MRel K mg ρ F (μ.set k n) (upd H a o) ∧ Ext ρ F H ρ F (upd H a o) := by
  obtain ⟨fa, q⟩ := h.own k a m e1 e2 al
  refine ⟨⟨fun b x e => ?_, by simp [h.len], fun j b n' f1 f2 al' => ?_, fun i j b n1 n2 f1 f2 f3 a3 f4 a4 => ?_, fun b hb => some_up (h.there b hb)⟩, ⟨⟨[], by simp⟩, Same.refl F, fun b x e nb => ?_, fun b e => .inl e, fun b e => .inl e⟩⟩
  · rw [upd_ne (ne_of_none e fa)]
    exact h.sub b x e
  · by_cases hj : j = k
    · subst hj
      rw [e1] at f1
      cases f1
      have hk : j < μ.length := (List.getElem?_eq_some_iff.mp e2).1
      rw [List.getElem?_set_self hk] at f2
      cases f2
      exact ⟨fa, hn⟩
    · rw [List.getElem?_set_ne (Ne.symm hj)] at f2
      obtain ⟨fb, q'⟩ := h.own j b n' f1 f2 al'
      have ne : b ≠ a := fun z => hj (h.inj j k a n' m (by rw [← z]; exact f1) e1 f2 al' e2 al)
      exact ⟨fb, q'.mono ⟨[], by simp⟩ (Same.refl F) (upd_ne ne)⟩
  · have back : ∀ (i : Nat) (n' : MO), (μ.set k n)[i]? = some n' → n'.al → ∃ n0, μ[i]? = some n0 ∧ n0.al := fun i n' f al' => by
      by_cases hi : i = k
      · subst hi
        exact ⟨m, e2, al⟩
      · rw [List.getElem?_set_ne (Ne.symm hi)] at f
        exact ⟨n', f, al'⟩
    obtain ⟨m1, g1, b1⟩ := back i n1 f3 a3
    obtain ⟨m2, g2, b2⟩ := back j n2 f4 a4
    exact h.inj i j b m1 m2 f1 f2 g1 b1 g2 b2
  · have ne : b ≠ a := fun z => nb (by rw [z]; exact List.mem_of_getElem? e1)
    rw [upd_ne ne]
    exact e
/-- an object changes no more -/
theorem MRel.freeze {k : Nat} {a : Addr} {m : MO} {o : HO} (h : MRel K mg ρ F μ H) (e1 : ρ[k]? = some a) (e2 : μ[k]? = some m) (al : m.al) (ho : H a = some o) :
    MRel K mg ρ (upd F a o) (μ.set k .gone) H ∧ Ext ρ F H ρ (upd F a o) H := by
  obtain ⟨fa, q⟩ := h.own k a m e1 e2 al
  have sF : Same F (upd F a o) := same_up fa
  refine ⟨⟨fun b x e => ?_, by simp [h.len], fun j b n' f1 f2 al' => ?_, fun i j b n1 n2 f1 f2 f3 a3 f4 a4 => ?_, h.there⟩, ⟨⟨[], by simp⟩, sF, fun b x e nb => e, fun b e => .inl e, fun b e => ?_⟩⟩
  · by_cases hb : b = a
    · subst hb
      rw [upd_same] at e
      cases e
      exact ho
    · rw [upd_ne hb] at e
      exact h.sub b x e
  · have hj : j ≠ k := fun z => by
      subst z
      have hk : j < μ.length := (List.getElem?_eq_some_iff.mp e2).1
      rw [List.getElem?_set_self hk] at f2
      cases f2
      exact al'.elim
    rw [List.getElem?_set_ne (Ne.symm hj)] at f2
    obtain ⟨fb, q'⟩ := h.own j b n' f1 f2 al'
    have ne : b ≠ a := fun z => hj (h.inj j k a n' m (by rw [← z]; exact f1) e1 f2 al' e2 al)
    exact ⟨by rw [upd_ne ne]; exact fb, q'.mono ⟨[], by simp⟩ sF rfl⟩
  · have back : ∀ (i : Nat) (n' : MO), (μ.set k .gone)[i]? = some n' → n'.al → μ[i]? = some n' := fun i n' f al' => by
      by_cases hi : i = k
      · subst hi
        have hk : i < μ.length := (List.getElem?_eq_some_iff.mp e2).1
        rw [List.getElem?_set_self hk] at f
        cases f
        exact al'.elim
      · rw [List.getElem?_set_ne (Ne.symm hi)] at f
        exact f
    exact h.inj i j b n1 n2 f1 f2 (back i n1 f3 a3) a3 (back j n2 f4 a4) a4
  · by_cases hb : b = a
    · subst hb
      exact .inr (.inl (List.mem_of_getElem? e1))
    · rw [upd_ne hb] at e
      exact .inl e
/-- what is not ours changes -/
theorem MRel.other {p : Addr} {o : HO} (h : MRel K mg ρ F μ H) (hp : p ∉ ρ) (hf : F p = none) : MRel K mg ρ F μ (upd H p o) := by
  refine ⟨fun b x e => ?_, h.len, fun k a m e1 e2 al => ?_, h.inj, fun a ha => some_up (h.there a ha)⟩
  · rw [upd_ne (ne_of_none e hf)]
    exact h.sub b x e
  · obtain ⟨f, q⟩ := h.own k a m e1 e2 al
    have ne : a ≠ p := fun z => hp (by rw [← z]; exact List.mem_of_getElem? e1)
    exact ⟨f, q.mono ⟨[], by simp⟩ (Same.refl F) (upd_ne ne)⟩
/-- what stands aside comes to be ours, and changes no more -/
theorem MRel.adopt {p : Addr} {o : HO} (h : MRel K mg ρ F μ H) (hp : p ∉ ρ) (hf : F p = none) (ho : H p = some o) : MRel K mg ρ (upd F p o) μ H := by
  have sF : Same F (upd F p o) := same_up hf
  refine ⟨fun b x e => ?_, h.len, fun k a m e1 e2 al => ?_, h.inj, h.there⟩
  · by_cases hb : b = p
    · subst hb
      rw [upd_same] at e
      cases e
      exact ho
    · rw [upd_ne hb] at e
      exact h.sub b x e
  · obtain ⟨f, q⟩ := h.own k a m e1 e2 al
    have ne : a ≠ p := fun z => hp (by rw [← z]; exact List.mem_of_getElem? e1)
    exact ⟨by rw [upd_ne ne]; exact f, q.mono ⟨[], by simp⟩ sF rfl⟩
theorem MRel.notin {p : Addr} (h : MRel K mg ρ F μ H) (hp : H p = none) : p ∉ ρ := fun z => h.there p z hp
/-- .. as an object that may change -/
theorem MRel.adoptN {p : Addr} {m : MO} {o : HO} (h : MRel K mg ρ F μ H) (hp : p ∉ ρ) (hf : F p = none) (ho : H p = some o) (hm : MOk K mg (ρ ++ [p]) F H p m) : MRel K mg (ρ ++ [p]) F (μ ++ [m]) H := by
  have split : ∀ (k : Nat) a n, (ρ ++ [p])[k]? = some a → (μ ++ [m])[k]? = some n → (ρ[k]? = some a ∧ μ[k]? = some n) ∨ (k = μ.length ∧ a = p ∧ n = m) := fun k a n e1 e2 => by
    by_cases hk : k < ρ.length
    · rw [List.getElem?_append_left hk] at e1
      rw [List.getElem?_append_left (by rw [← h.len]; exact hk)] at e2
      exact .inl ⟨e1, e2⟩
    · have hk' : k = ρ.length := by
        have := (List.getElem?_eq_some_iff.mp e1).1
        simp at this
        omega
      subst hk'
      rw [List.getElem?_append_right (Nat.le_refl _)] at e1
      rw [h.len, List.getElem?_append_right (Nat.le_refl _)] at e2
      simp at e1 e2
      exact .inr ⟨h.len, e1.symm, e2.symm⟩
  have old : ∀ (k : Nat) a, ρ[k]? = some a → a ≠ p := fun k a e z => hp (by rw [← z]; exact List.mem_of_getElem? e)
  refine ⟨h.sub, by simp [h.len], fun k a n e1 e2 al' => ?_, fun j k a m1 n1 e1 e2 e3 al1 e4 al2 => ?_, fun a ha => (List.mem_append.mp ha).elim (h.there a) fun z => ?_⟩
  · rcases split k a n e1 e2 with ⟨e1, e2⟩ | ⟨_, rfl, rfl⟩
    · obtain ⟨f, q⟩ := h.own k a n e1 e2 al'
      exact ⟨f, q.mono ⟨[p], rfl⟩ (Same.refl F) rfl⟩
    · exact ⟨hf, hm⟩
  · rcases split j a m1 e1 e3 with ⟨f1, f3⟩ | ⟨j1, j2, j3⟩
    · rcases split k a n1 e2 e4 with ⟨f2, f4⟩ | ⟨k1, k2, k3⟩
      · exact h.inj j k a m1 n1 f1 f2 f3 al1 f4 al2
      · exact absurd k2 (old j a f1)
    · rcases split k a n1 e2 e4 with ⟨f2, f4⟩ | ⟨k1, k2, k3⟩
      · exact absurd j2 (old k a f2)
      · rw [j1, k1]
  · have : a = p := by simpa using z
    rw [this, ho]
    exact fun z => nomatch z
end
/-- a place that was free ahead changes -/
theorem Ext.bump {ρ ρ' : List Addr} {F F' H H' : Hp} {p : Addr} {o : HO} (x : Ext ρ F H ρ' F' H') (hp : H p = none) : Ext ρ F H ρ' F' (upd H' p o) :=
  ⟨x.pre, x.fro, fun a u e hn => by rw [upd_ne (ne_of_none e hp)]; exact x.rest a u e hn, x.newr, x.newf⟩
/-- .. comes to be ours -/
theorem Ext.adopt {ρ ρ' : List Addr} {F F' H H' : Hp} {p : Addr} {o : HO} (x : Ext ρ F H ρ' F' H') (hp : H p = none) (hf : F' p = none) : Ext ρ F H ρ' (upd F' p o) H' :=
  ⟨x.pre, x.fro.trans (same_up hf), x.rest, x.newr, fun a e => by
    by_cases ha : a = p
    · subst ha
      exact .inr (.inr hp)
    · rw [upd_ne ha] at e
      exact x.newf a e⟩
theorem Ext.adoptN {ρ ρ' : List Addr} {F F' H H' : Hp} {p : Addr} (x : Ext ρ F H ρ' F' H') (hp : H p = none) : Ext ρ F H (ρ' ++ [p]) F' H' := by
  obtain ⟨l, e⟩ := x.pre
  subst e
  refine ⟨⟨l ++ [p], by simp⟩, x.fro, x.rest, fun a e => ?_, x.newf⟩
  rcases List.mem_append.mp e with z | z
  · exact x.newr a z
  · have : a = p := by simpa using z
    exact .inr (by rw [this]; exact hp)

/-! ### what is wanted -/
/-- an exception as the layer has it -/
def ExR (K : PySem.W.Frag) (mg : Str → Option Value) (ρ : List Addr) (F H : Hp) (e : Ex) (cls : Value) (d : Option Addr) : Prop :=
  ∃ c, mg e.cls = some (.ref c) ∧ cls = .ref c ∧ (e.fs = [] → d = none) ∧ (e.fs ≠ [] → ∃ a vs, d = some a ∧ F a = some (.xd vs) ∧ RdK K ρ F e.fs vs)
/-- behind a part: α the datum's kind, β the value's -/
def Post (X : Cx) (W : WX) {α β : Type} (rel : List Addr → Hp → α → β → Prop) (ρ : List Addr) (F H : Hp) (σ : St) (Q : β → Hp → Prop) : R α → Prop
  | .bad => False
  | .ok a s' => ∀ ρ' F' H' v, Ext ρ F H ρ' F' H' → Rel X.K X.mg ρ' F' s' σ H' → rel ρ' F' a v → Q v H'
  | .ex e s' => ∀ ρ' F' H' cls d, Ext ρ F H ρ' F' H' → Rel X.K X.mg ρ' F' s' σ H' → ExR X.K X.mg ρ' F' H' e cls d → W cls d σ H'
theorem Post.bind {X : Cx} {W : WX} {α β α' β' : Type} {rel : List Addr → Hp → α → β → Prop} {rel' : List Addr → Hp → α' → β' → Prop} {ρ : List Addr} {F H : Hp} {σ : St} {Q : β' → Hp → Prop} {Q1 : β → Hp → Prop} {r : R α} {g : α → DS → R α'}
    (h : Post X W rel' ρ F H σ Q (r.bind g))
    (k : ∀ a s' ρ' F' H' v, Ext ρ F H ρ' F' H' → Rel X.K X.mg ρ' F' s' σ H' → rel ρ' F' a v → Post X W rel' ρ' F' H' σ Q (g a s') → Q1 v H') : Post X W rel ρ F H σ Q1 r := by
  cases r with
  | bad => exact h
  | ok a s' =>
    intro ρ' F' H' v x rl rd
    refine k a s' ρ' F' H' v x rl rd ?_
    have h' : Post X W rel' ρ F H σ Q (g a s') := h
    cases e : g a s' with
    | bad => rw [e] at h'; exact h'
    | ok b s2 => rw [e] at h'; exact fun ρ2 F2 H2 v2 x2 => h' ρ2 F2 H2 v2 (x.trans x2)
    | ex b s2 => rw [e] at h'; exact fun ρ2 F2 H2 v2 d x2 => h' ρ2 F2 H2 v2 d (x.trans x2)
  | ex e s' => exact h
theorem Post.ok {X : Cx} {W : WX} {α β : Type} {rel : List Addr → Hp → α → β → Prop} {ρ : List Addr} {F H : Hp} {σ : St} {Q : β → Hp → Prop} {a : α} {s' : DS} (h : Post X W rel ρ F H σ Q (.ok a s')) {ρ' : List Addr} {F' H' : Hp} {v : β}
    (x : Ext ρ F H ρ' F' H') (rl : Rel X.K X.mg ρ' F' s' σ H') (rd : rel ρ' F' a v) : Q v H' := h ρ' F' H' v x rl rd
def Stl {α : Type} (X : Cx) (W : WX) {β : Type} (rel : List Addr → Hp → α → β → Prop) (t : St → Hp → (β → Hp → Prop) → Prop) (f : DS → R α) : Prop :=
  ∀ ρ F s σ H Q, Rel X.K X.mg ρ F s σ H → Post X W rel ρ F H σ Q (f s) → t σ H Q
/-- an expression's datum; arguments; a test -/
def PD (X : Cx) (W : WX) (e : Expr) (f : DS → R D) : Prop := ∃ t, PE X e t ∧ Stl X W (Rd X.K) t f
def PDA (X : Cx) (W : WX) (es : List Expr) (f : DS → R (List D)) : Prop := ∃ t, PA X es t ∧ Stl X W (RdL X.K) t f
def PDT (X : Cx) (W : WX) (e : Expr) (f : DS → R Bool) : Prop := ∃ t, PT X e t ∧ Stl X W (fun _ _ a b => b = a) t f
def PostS (X : Cx) (W : WX) (ρ : List Addr) (F H : Hp) (E : Ends) : R Fl → Prop
  | .bad => False
  | .ok .nx s' => ∀ ρ' F' H' σ', Ext ρ F H ρ' F' H' → Rel X.K X.mg ρ' F' s' σ' H' → E.nx σ' H'
  | .ok (.rt d) s' => ∀ ρ' F' H' v, Ext ρ F H ρ' F' H' → MRel X.K X.mg ρ' F' s'.m H' → Rd X.K ρ' F' d v → E.rt v H'
  | .ok .bk s' => ∀ ρ' F' H' σ', Ext ρ F H ρ' F' H' → Rel X.K X.mg ρ' F' s' σ' H' → E.bk σ' H'
  | .ok .ct s' => ∀ ρ' F' H' σ', Ext ρ F H ρ' F' H' → Rel X.K X.mg ρ' F' s' σ' H' → E.ct σ' H'
  | .ex e s' => ∀ ρ' F' H' σ' cls d, Ext ρ F H ρ' F' H' → Rel X.K X.mg ρ' F' s' σ' H' → ExR X.K X.mg ρ' F' H' e cls d → W cls d σ' H'
def StlS (X : Cx) (W : WX) (t : TS) (f : DS → R Fl) : Prop := ∀ ρ F s σ H E, Rel X.K X.mg ρ F s σ H → PostS X W ρ F H E (f s) → t E σ H
def PDs (X : Cx) (W : WX) (st : Stmt) (f : DS → R Fl) : Prop := ∃ t, PS X st t ∧ StlS X W t f
def PDss (X : Cx) (W : WX) (st : List Stmt) (f : DS → R Fl) : Prop := ∃ t, PSs X st t ∧ StlS X W t f
theorem PostS.ext {X : Cx} {W : WX} {ρ ρ' : List Addr} {F F' H H' : Hp} {E : Ends} {r : R Fl} (h : PostS X W ρ F H E r) (x : Ext ρ F H ρ' F' H') : PostS X W ρ' F' H' E r := by
  cases r with
  | bad => exact h
  | ok a s' =>
    cases a with
    | nx => exact fun ρ2 F2 H2 v2 x2 => h ρ2 F2 H2 v2 (x.trans x2)
    | rt d => exact fun ρ2 F2 H2 v2 x2 => h ρ2 F2 H2 v2 (x.trans x2)
    | bk => exact fun ρ2 F2 H2 v2 x2 => h ρ2 F2 H2 v2 (x.trans x2)
    | ct => exact fun ρ2 F2 H2 v2 x2 => h ρ2 F2 H2 v2 (x.trans x2)
  | ex e s' => exact fun ρ2 F2 H2 σ2 v2 d x2 => h ρ2 F2 H2 σ2 v2 d (x.trans x2)
theorem Post.ext {X : Cx} {W : WX} {α β : Type} {rel : List Addr → Hp → α → β → Prop} {ρ ρ' : List Addr} {F F' H H' : Hp} {σ : St} {Q : β → Hp → Prop} {r : R α} (h : Post X W rel ρ F H σ Q r) (x : Ext ρ F H ρ' F' H') : Post X W rel ρ' F' H' σ Q r := by
  cases r with
  | bad => exact h
  | ok a s' => exact fun ρ2 F2 H2 v2 x2 => h ρ2 F2 H2 v2 (x.trans x2)
  | ex e s' => exact fun ρ2 F2 H2 v2 d x2 => h ρ2 F2 H2 v2 d (x.trans x2)
/-- a part inside a statement -/
theorem PostS.bind {X : Cx} {W : WX} {α β : Type} {rel : List Addr → Hp → α → β → Prop} {ρ : List Addr} {F H : Hp} {σ : St} {E : Ends} {Q1 : β → Hp → Prop} {r : R α} {g : α → DS → R Fl}
    (h : PostS X W ρ F H E (r.bind g))
    (k : ∀ a s' ρ' F' H' v, Ext ρ F H ρ' F' H' → Rel X.K X.mg ρ' F' s' σ H' → rel ρ' F' a v → PostS X W ρ' F' H' E (g a s') → Q1 v H') : Post X W rel ρ F H σ Q1 r := by
  cases r with
  | bad => exact h
  | ok a s' =>
    intro ρ' F' H' v x rl rd
    have h' : PostS X W ρ F H E (g a s') := h
    exact k a s' ρ' F' H' v x rl rd (h'.ext x)
  | ex e s' => exact fun ρ' F' H' cls d x rl er => h ρ' F' H' σ cls d x rl er
end DL

/-! Rules: expressions. -/
namespace DL
open PySem L2

section
variable {X : Cx} {W : WX} {a b c e : Expr} {es : List Expr} {pos : Pos} {fa fb fc : DS → R D}
/-! ### names, constants -/
def fVar (i : Nat) : DS → R D := fun s => match s.g[i]? with
  | some (some d) => .ok d s
  | _ => .bad
theorem pd_var (i : Nat) {x : Str} {pos : Pos} (h : PE X (.Name x pos) (tVar i)) : PD X W (.Name x pos) (fVar i) := by
  refine ⟨_, h, fun ρ F s σ H Q rl h => ?_⟩
  unfold fVar at h
  cases q : s.g[i]? with
  | none => rw [q] at h; exact h.elim
  | some o =>
    cases o with
    | none => rw [q] at h; exact h.elim
    | some d =>
      rw [q] at h
      obtain ⟨v, e1, r⟩ := rl.slo.at_ i d q
      exact ⟨v, e1, h ρ F H v (Ext.refl ..) rl r⟩
def fC (d : D) : DS → R D := fun s => .ok d s
theorem pd_const {d : D} {v : V} (he : PE X e (tC v)) (r : ∀ ρ F, Rd X.K ρ F d v) : PD X W e (fC d) :=
  ⟨_, he, fun ρ F s σ H Q rl h => h ρ F H v (Ext.refl ..) rl (r ρ F)⟩
theorem pd_int {i j pos} : PD X W (.Constant (.int i) j pos) (fC (.int i)) := pd_const pe_int fun _ _ => rfl
theorem pd_bl {b j pos} : PD X W (.Constant (.bool b) j pos) (fC (.bl b)) := pd_const pe_bl fun _ _ => rfl
theorem pd_non {j pos} : PD X W (.Constant .none j pos) (fC .non) := pd_const pe_non fun _ _ => rfl
theorem pd_str {x j pos} : PD X W (.Constant (.str x) j pos) (fC (.str x)) := pd_const pe_str fun _ _ => rfl
/-- a module's constant, a class -/
theorem pd_glob {x : Str} {d : D} {v : V} {u : Value} {pos : Pos} (hg : Gl X x) (hm : X.mg x = some u) (r : RelV v u) (rd : ∀ ρ F, Rd X.K ρ F d v) (hd : (x == ("__debug__" : Str)) = false := by decide) : PD X W (.Name x pos) (fC d) :=
  pd_const (pe_glob hg hm r hd) rd

/-! ### two parts by an operator -/
def fBin (fa fb : DS → R D) (g : D → D → DS → R D) : DS → R D := fun s => (fa s).bind fun x s1 => (fb s1).bind fun y s2 => g x y s2
def OpD (X : Cx) (W : WX) (r : R2) (g : D → D → DS → R D) : Prop :=
  ∀ ρ F s σ H x y v u Q, Rel X.K X.mg ρ F s σ H → Rd X.K ρ F x v → Rd X.K ρ F y u → Post X W (Rd X.K) ρ F H σ Q (g x y s) → r v u H Q
theorem OpD.run {r : R2} {g : D → D → DS → R D} (hg : OpD X W r g) {ta tb : TE} (la : Stl X W (Rd X.K) ta fa) (lb : Stl X W (Rd X.K) tb fb) : Stl X W (Rd X.K) (tOp r ta tb) (fBin fa fb g) := by
  intro ρ F s σ H Q rl h
  refine la ρ F s σ H _ rl (h.bind fun x s1 ρ1 F1 H1 v x1 rl1 rd1 h1 => ?_)
  refine lb ρ1 F1 s1 σ H1 _ rl1 (h1.bind fun y s2 ρ2 F2 H2 u x2 rl2 rd2 h2 => ?_)
  exact hg ρ2 F2 s2 σ H2 x y v u Q rl2 (rd1.ext x2) rd2 h2
theorem pd_op {op : Operator} {r : R2} {g : D → D → DS → R D} (ho : OpR X (binaryOp op) r) (hg : OpD X W r g) (ha : PD X W a fa) (hb : PD X W b fb) : PD X W (.BinOp a op b pos) (fBin fa fb g) := by
  obtain ⟨ta, ea, la⟩ := ha
  obtain ⟨tb, eb, lb⟩ := hb
  exact ⟨_, pe_op ho ea eb, hg.run la lb⟩
theorem pd_cmp {op : CmpOp} {r : R2} {g : D → D → DS → R D} (ho : OpR X (compareOp op) r) (hg : OpD X W r g) (ha : PD X W a fa) (hb : PD X W b fb) (hm : behindInMarks op b = false := by first | exact nomark _ | rfl) : PD X W (.Compare a [op] [b] pos) (fBin fa fb g) := by
  obtain ⟨ta, ea, la⟩ := ha
  obtain ⟨tb, eb, lb⟩ := hb
  exact ⟨_, pe_cmpR ho ea eb hm, hg.run la lb⟩
/-- a test by a bool -/
def asB (r : R D) : R Bool := r.bind fun d s => match d with
  | .bl b => .ok b s
  | _ => .bad
def fTst (f : DS → R D) : DS → R Bool := fun s => asB (f s)
theorem Post.asB {ρ : List Addr} {F H : Hp} {σ : St} {Q : Bool → Hp → Prop} {r : R D} (h : Post X W (fun _ _ a b => b = a) ρ F H σ Q (asB r)) : Post X W (Rd X.K) ρ F H σ (fun x H' => ∃ k, x = .bl k ∧ Q k H') r := by
  cases r with
  | bad => exact h
  | ok d s =>
    cases d with
    | bl b => exact fun ρ' F' H' v x rl rd => ⟨b, rd, h ρ' F' H' b x rl rfl⟩
    | _ => exact h.elim
  | ex e s => exact h
theorem pdt_cmp {op : CmpOp} {r : R2} {g : D → D → DS → R D} (ho : OpR X (compareOp op) r) (hg : OpD X W r g) (ha : PD X W a fa) (hb : PD X W b fb) (hm : behindInMarks op b = false := by first | exact nomark _ | rfl) : PDT X W (.Compare a [op] [b] pos) (fTst (fBin fa fb g)) := by
  obtain ⟨ta, ea, la⟩ := ha
  obtain ⟨tb, eb, lb⟩ := hb
  exact ⟨_, pt_cmpR ho ea eb hm, fun ρ F s σ H Q rl h => hg.run la lb ρ F s σ H _ rl h.asB⟩
theorem pdt_val {f : DS → R D} (h : PD X W e f) (he : ∀ whole, isTrue e X.env whole = (do let v ← whole; standAt e.pos; holding [v] (truthy v)) := by intro _; rfl) : PDT X W e (fTst f) := by
  obtain ⟨t, ee, l⟩ := h
  exact ⟨_, pt_val ee he, fun ρ F s σ H Q rl h => l ρ F s σ H _ rl h.asB⟩
/-! a chain of two -/
def fChain (fa fb fc : DS → R D) (g g' : D → D → DS → R D) : DS → R D := fun s => (fa s).bind fun x s1 => (fb s1).bind fun y s2 => (g x y s2).bind fun d s3 => match d with
  | .bl true => (fc s3).bind fun z s4 => g' y z s4
  | .bl false => .ok (.bl false) s3
  | _ => .bad
theorem chain_run {r r' : R2} {g g' : D → D → DS → R D} (hg : OpD X W r g) (hg' : OpD X W r' g') {ta tb tc : TE} (la : Stl X W (Rd X.K) ta fa) (lb : Stl X W (Rd X.K) tb fb) (lc : Stl X W (Rd X.K) tc fc) :
    ∀ ρ F s σ H Q, Rel X.K X.mg ρ F s σ H → Post X W (Rd X.K) ρ F H σ Q (fChain fa fb fc g g' s) →
      ta σ H fun x H1 => tb σ H1 fun y H2 => r x y H2 fun z H3 => ∃ k, z = .bl k ∧ if k = true then tc σ H3 fun u H4 => r' y u H4 Q else Q (.bl false) H3 := by
  intro ρ F s σ H Q rl h
  refine la ρ F s σ H _ rl (h.bind fun x s1 ρ1 F1 H1 v x1 rl1 rd1 h1 => ?_)
  refine lb ρ1 F1 s1 σ H1 _ rl1 (h1.bind fun y s2 ρ2 F2 H2 u x2 rl2 rd2 h2 => ?_)
  refine hg ρ2 F2 s2 σ H2 x y v u _ rl2 (rd1.ext x2) rd2 (h2.bind fun d s3 ρ3 F3 H3 w x3 rl3 rd3 h3 => ?_)
  cases d with
  | bl k =>
    refine ⟨k, rd3, ?_⟩
    cases k with
    | true =>
      rw [if_pos rfl]
      refine lc ρ3 F3 s3 σ H3 _ rl3 (Post.bind h3 fun z s4 ρ4 F4 H4 w4 x4 rl4 rd4 h4 => ?_)
      exact hg' ρ4 F4 s4 σ H4 y z u w4 Q rl4 ((rd2.ext x3).ext x4) rd4 h4
    | false =>
      rw [if_neg Bool.false_ne_true]
      exact h3 ρ3 F3 H3 (.bl false) (Ext.refl ..) rl3 rfl
  | _ => exact h3.elim
theorem pd_chain {op op' : CmpOp} {r r' : R2} {g g' : D → D → DS → R D} (ho : OpR X (compareOp op) r) (hg : OpD X W r g) (ho' : OpR X (compareOp op') r') (hg' : OpD X W r' g') (ha : PD X W a fa) (hb : PD X W b fb) (hc : PD X W c fc)
    (hm : lastMarks [op, op'] [b, c] = false := by rfl) : PD X W (.Compare a [op, op'] [b, c] pos) (fChain fa fb fc g g') := by
  obtain ⟨ta, ea, la⟩ := ha
  obtain ⟨tb, eb, lb⟩ := hb
  obtain ⟨tc, ec, lc⟩ := hc
  exact ⟨_, pe_chain ho ho' ea eb ec hm, fun ρ F s σ H Q rl h => chain_run hg hg' la lb lc ρ F s σ H Q rl h⟩
theorem pdt_chain {op op' : CmpOp} {r r' : R2} {g g' : D → D → DS → R D} (ho : OpR X (compareOp op) r) (hg : OpD X W r g) (ho' : OpR X (compareOp op') r') (hg' : OpD X W r' g') (ha : PD X W a fa) (hb : PD X W b fb) (hc : PD X W c fc)
    (hm : lastMarks [op, op'] [b, c] = false := by rfl) : PDT X W (.Compare a [op, op'] [b, c] pos) (fTst (fChain fa fb fc g g')) := by
  obtain ⟨ta, ea, la⟩ := ha
  obtain ⟨tb, eb, lb⟩ := hb
  obtain ⟨tc, ec, lc⟩ := hc
  exact ⟨_, pt_chain ho ho' ea eb ec hm, fun ρ F s σ H Q rl h => chain_run hg hg' la lb lc ρ F s σ H _ rl h.asB⟩

/-! ### and, or, not, if -/
def fNotT (f : DS → R Bool) : DS → R Bool := fun s => (f s).bind fun b s1 => .ok (!b) s1
theorem pdt_not {f : DS → R Bool} (h : PDT X W a f) : PDT X W (.UnaryOp .Not a pos) (fNotT f) := by
  obtain ⟨t, e1, l⟩ := h
  refine ⟨_, pt_not e1, fun ρ F s σ H Q rl h => l ρ F s σ H _ rl (h.bind fun b s1 ρ1 F1 H1 v x1 rl1 rd1 h1 => ?_)⟩
  subst rd1
  exact h1 ρ1 F1 H1 _ (Ext.refl ..) rl1 rfl
def PDW (X : Cx) (W : WX) (e : Expr) (f : DS → R Bool) : Prop := ∃ t, PW X e t ∧ Stl X W (fun _ _ a b => b = a) t f
theorem pdw_pdt {f : DS → R Bool} (h : PDW X W a f) : PDT X W a f := let ⟨t, e1, l⟩ := h; ⟨t, e1.pt, l⟩
def fAndT (f g : DS → R Bool) : DS → R Bool := fun s => (f s).bind fun b s1 => if b = true then g s1 else .ok false s1
def fOrT (f g : DS → R Bool) : DS → R Bool := fun s => (f s).bind fun b s1 => if b = true then .ok true s1 else g s1
theorem pdw_and1 {f : DS → R Bool} (h : PDT X W a f) : PDW X W (.BoolOp .And [a] pos) f := let ⟨t, e1, l⟩ := h; ⟨t, pw_and1 e1, l⟩
theorem pdw_or1 {f : DS → R Bool} (h : PDT X W a f) : PDW X W (.BoolOp .Or [a] pos) f := let ⟨t, e1, l⟩ := h; ⟨t, pw_or1 e1, l⟩
theorem pdw_and {f g : DS → R Bool} (ha : PDT X W a f) (hb : PDW X W (.BoolOp .And (b :: es) pos) g) : PDW X W (.BoolOp .And (a :: b :: es) pos) (fAndT f g) := by
  obtain ⟨t, e1, l⟩ := ha
  obtain ⟨u, e2, l2⟩ := hb
  refine ⟨_, pw_and e1 e2, fun ρ F s σ H Q rl h => l ρ F s σ H _ rl (h.bind fun b s1 ρ1 F1 H1 v x1 rl1 rd1 h1 => ?_)⟩
  subst rd1
  cases v with
  | true =>
    rw [if_pos rfl] at h1 ⊢
    exact l2 ρ1 F1 s1 σ H1 Q rl1 h1
  | false =>
    rw [if_neg Bool.false_ne_true] at h1 ⊢
    exact h1 ρ1 F1 H1 _ (Ext.refl ..) rl1 rfl
theorem pdw_or {f g : DS → R Bool} (ha : PDT X W a f) (hb : PDW X W (.BoolOp .Or (b :: es) pos) g) : PDW X W (.BoolOp .Or (a :: b :: es) pos) (fOrT f g) := by
  obtain ⟨t, e1, l⟩ := ha
  obtain ⟨u, e2, l2⟩ := hb
  refine ⟨_, pw_or e1 e2, fun ρ F s σ H Q rl h => l ρ F s σ H _ rl (h.bind fun b s1 ρ1 F1 H1 v x1 rl1 rd1 h1 => ?_)⟩
  subst rd1
  cases v with
  | false =>
    rw [if_neg Bool.false_ne_true] at h1 ⊢
    exact l2 ρ1 F1 s1 σ H1 Q rl1 h1
  | true =>
    rw [if_pos rfl] at h1 ⊢
    exact h1 ρ1 F1 H1 _ (Ext.refl ..) rl1 rfl
/-! as values -/
def fNotV (f : DS → R D) : DS → R D := fun s => (f s).bind fun d s1 => match d with
  | .bl b => .ok (.bl (!b)) s1
  | _ => .bad
def fAndV (f g : DS → R D) : DS → R D := fun s => (f s).bind fun d s1 => match d with
  | .bl true => g s1
  | .bl false => .ok (.bl false) s1
  | _ => .bad
def fOrV (f g : DS → R D) : DS → R D := fun s => (f s).bind fun d s1 => match d with
  | .bl false => g s1
  | .bl true => .ok (.bl true) s1
  | _ => .bad
theorem pd_not (ha : PD X W a fa) : PD X W (.UnaryOp .Not a pos) (fNotV fa) := by
  obtain ⟨t, e1, l⟩ := ha
  refine ⟨_, pe_not e1, fun ρ F s σ H Q rl h => l ρ F s σ H _ rl (h.bind fun d s1 ρ1 F1 H1 v x1 rl1 rd1 h1 => ?_)⟩
  cases d with
  | bl k => exact ⟨k, rd1, h1 ρ1 F1 H1 _ (Ext.refl ..) rl1 rfl⟩
  | _ => exact h1.elim
theorem pd_one {op} (ha : PD X W a fa) : PD X W (.BoolOp op [a] pos) fa := let ⟨t, e1, l⟩ := ha; ⟨t, pe_one e1, l⟩
theorem pd_and (ha : PD X W a fa) (hb : PD X W (.BoolOp .And (b :: es) pos) fb) : PD X W (.BoolOp .And (a :: b :: es) pos) (fAndV fa fb) := by
  obtain ⟨t, e1, l⟩ := ha
  obtain ⟨u, e2, l2⟩ := hb
  refine ⟨_, pe_and e1 e2, fun ρ F s σ H Q rl h => l ρ F s σ H _ rl (h.bind fun d s1 ρ1 F1 H1 v x1 rl1 rd1 h1 => ?_)⟩
  cases d with
  | bl k =>
    refine ⟨k, rd1, ?_⟩
    cases k with
    | true => rw [if_pos rfl]; exact l2 ρ1 F1 s1 σ H1 Q rl1 h1
    | false => rw [if_neg Bool.false_ne_true]; exact h1 ρ1 F1 H1 _ (Ext.refl ..) rl1 rfl
  | _ => exact h1.elim
theorem pd_or (ha : PD X W a fa) (hb : PD X W (.BoolOp .Or (b :: es) pos) fb) : PD X W (.BoolOp .Or (a :: b :: es) pos) (fOrV fa fb) := by
  obtain ⟨t, e1, l⟩ := ha
  obtain ⟨u, e2, l2⟩ := hb
  refine ⟨_, pe_or e1 e2, fun ρ F s σ H Q rl h => l ρ F s σ H _ rl (h.bind fun d s1 ρ1 F1 H1 v x1 rl1 rd1 h1 => ?_)⟩
  cases d with
  | bl k =>
    refine ⟨k, rd1, ?_⟩
    cases k with
    | false => rw [if_neg Bool.false_ne_true]; exact l2 ρ1 F1 s1 σ H1 Q rl1 h1
    | true => rw [if_pos rfl]; exact h1 ρ1 F1 H1 _ (Ext.refl ..) rl1 rfl
  | _ => exact h1.elim
def fIf (f : DS → R Bool) (fa fb : DS → R D) : DS → R D := fun s => (f s).bind fun k s1 => if k = true then fa s1 else fb s1
theorem pd_if {f : DS → R Bool} (hc : PDT X W c f) (ha : PD X W a fa) (hb : PD X W b fb) : PD X W (.IfExp c a b pos) (fIf f fa fb) := by
  obtain ⟨t, e1, l⟩ := hc
  obtain ⟨ta, ea, la⟩ := ha
  obtain ⟨tb, eb, lb⟩ := hb
  refine ⟨_, pe_ifExp e1 ea eb, fun ρ F s σ H Q rl h => l ρ F s σ H _ rl (h.bind fun b s1 ρ1 F1 H1 v x1 rl1 rd1 h1 => ?_)⟩
  subst rd1
  cases v with
  | true =>
    rw [if_pos rfl] at h1 ⊢
    exact la ρ1 F1 s1 σ H1 Q rl1 h1
  | false =>
    rw [if_neg Bool.false_ne_true] at h1 ⊢
    exact lb ρ1 F1 s1 σ H1 Q rl1 h1

/-! ### is None -/
def isNon : D → Bool
  | .non => true
  | _ => false
theorem isNon_rd {K : PySem.W.Frag} {ρ : List Addr} {F : Hp} {d : D} {v : V} (r : Rd K ρ F d v) : decide (v = .non) = isNon d := by
  cases d with
  | non => cases r; rfl
  | bl _ => cases r; rfl
  | int _ => cases r; rfl
  | str _ => cases r; rfl
  | ref _ => cases r; rfl
  | ty _ => cases r; rfl
  | tup _ => obtain ⟨a, vs, e, _⟩ := r; subst e; rfl
  | lst _ => obtain ⟨a, vs, e, _⟩ := r; subst e; rfl
  | lsr _ => obtain ⟨a, vs, e, _⟩ := r; subst e; rfl
  | obj _ => obtain ⟨a, e, _⟩ := r; subst e; rfl
  | exc _ _ _ _ => obtain ⟨vs, e, _⟩ := r; subst e; rfl
def fIsN (neg : Bool) (fa : DS → R D) : DS → R D := fun s => (fa s).bind fun d s1 => .ok (.bl (if neg = true then !(isNon d) else isNon d)) s1
theorem pd_isN {j p} (ha : PD X W a fa) : PD X W (.Compare a [.Is] [.Constant .none j p] pos) (fIsN false fa) := by
  obtain ⟨t, e1, l⟩ := ha
  refine ⟨_, pe_cmp (pc_isN e1), fun ρ F s σ H Q rl h => l ρ F s σ H _ rl (h.bind fun d s1 ρ1 F1 H1 v x1 rl1 rd1 h1 => ?_)⟩
  rw [isNon_rd rd1]
  exact h1 ρ1 F1 H1 _ (Ext.refl ..) rl1 rfl
theorem pd_notN {j p} (ha : PD X W a fa) : PD X W (.Compare a [.IsNot] [.Constant .none j p] pos) (fIsN true fa) := by
  obtain ⟨t, e1, l⟩ := ha
  refine ⟨_, pe_cmp (pc_notN e1), fun ρ F s σ H Q rl h => l ρ F s σ H _ rl (h.bind fun d s1 ρ1 F1 H1 v x1 rl1 rd1 h1 => ?_)⟩
  rw [isNon_rd rd1]
  exact h1 ρ1 F1 H1 _ (Ext.refl ..) rl1 rfl
theorem pdt_isN {j p} (ha : PD X W a fa) : PDT X W (.Compare a [.Is] [.Constant .none j p] pos) (fTst (fIsN false fa)) := by
  obtain ⟨t, e1, l⟩ := ha
  refine ⟨_, pt_cmp (pc_isN e1), fun ρ F s σ H Q rl h => l ρ F s σ H _ rl ((Post.asB h).bind fun d s1 ρ1 F1 H1 v x1 rl1 rd1 h1 => ?_)⟩
  rw [isNon_rd rd1]
  exact h1 ρ1 F1 H1 _ (Ext.refl ..) rl1 rfl
theorem pdt_notN {j p} (ha : PD X W a fa) : PDT X W (.Compare a [.IsNot] [.Constant .none j p] pos) (fTst (fIsN true fa)) := by
  obtain ⟨t, e1, l⟩ := ha
  refine ⟨_, pt_cmp (pc_notN e1), fun ρ F s σ H Q rl h => l ρ F s σ H _ rl ((Post.asB h).bind fun d s1 ρ1 F1 H1 v x1 rl1 rd1 h1 => ?_)⟩
  rw [isNon_rd rd1]
  exact h1 ρ1 F1 H1 _ (Ext.refl ..) rl1 rfl
end
end DL

/-! Rules: operators, sequences. -/
namespace DL
open PySem L2

/-! ### ints -/
noncomputable def gI (C : Int → Int → Prop) (f : Int → Int → D) : D → D → DS → R D := fun x y s => match x, y with
  | .int i, .int j => if Pr (C i j) then .ok (f i j) s else .bad
  | _, _ => .bad
def gI0 (f : Int → Int → D) : D → D → DS → R D := fun x y s => match x, y with
  | .int i, .int j => .ok (f i j) s
  | _, _ => .bad
def sc : D → Option V
  | .non => some .non
  | .bl b => some (.bl b)
  | .int i => some (.int i)
  | .str x => some (.str x)
  | .ty n => some (.ty n)
  | _ => none
theorem sc_rd {K : PySem.W.Frag} {ρ : List Addr} {F : Hp} {d : D} {v u : V} (r : Rd K ρ F d v) (h : sc d = some u) : v = u := by
  cases d <;> first | (cases h; exact r) | (cases h)
section
variable {X : Cx} {W : WX}
theorem opd_int {C : Int → Int → Prop} {g : Int → Int → V} {f : Int → Int → D} (hf : ∀ i j, sc (f i j) = some (g i j)) (hr : ∀ i j ρ F, Rd X.K ρ F (f i j) (g i j)) : OpD X W (rI C g) (gI C f) := by
  intro ρ F s σ H x y v u Q rl r1 r2 h
  cases x with
  | int i =>
    cases y with
    | int j =>
      unfold gI at h
      by_cases c : Pr (C i j)
      · simp only [if_pos c] at h
        exact ⟨i, j, r1, r2, c, h ρ F H _ (Ext.refl ..) rl (hr i j ρ F)⟩
      · simp only [if_neg c] at h
        exact h.elim
    | _ => exact h.elim
  | _ => exact h.elim
theorem opd_int0 {g : Int → Int → V} {f : Int → Int → D} (hr : ∀ i j ρ F, Rd X.K ρ F (f i j) (g i j)) : OpD X W (rI0 g) (gI0 f) := by
  intro ρ F s σ H x y v u Q rl r1 r2 h
  cases x with
  | int i =>
    cases y with
    | int j => exact ⟨i, j, r1, r2, h ρ F H _ (Ext.refl ..) rl (hr i j ρ F)⟩
    | _ => exact h.elim
  | _ => exact h.elim
noncomputable def gSub := gI0 fun i j => .int (i - j)
noncomputable def gMod := gI (fun _ j => 0 < j) fun i j => .int (i % j)
noncomputable def gDiv := gI CDivW fun i j => .int (i / j)
noncomputable def gPow := gI CPow fun i j => .int (i ^ j.toNat)
noncomputable def gAnd := gI0 fun i j => .int (Builtin.bitAnd i j)
noncomputable def gOr := gI0 fun i j => .int (Builtin.bitOr i j)
noncomputable def gXor := gI0 fun i j => .int (Builtin.bitXor i j)
noncomputable def gShl := gI CPow fun i j => .int (i * 2 ^ j.toNat)
noncomputable def gShr := gI (fun _ j => 0 ≤ j) fun i j => .int (i / 2 ^ j.toNat)
noncomputable def gLt := gI0 fun i j => .bl (dcd (i < j))
noncomputable def gLe := gI0 fun i j => .bl (dcd (i ≤ j))
noncomputable def gGt := gI0 fun i j => .bl (dcd (j < i))
noncomputable def gGe := gI0 fun i j => .bl (dcd (j ≤ i))
theorem opd_sub : OpD X W (rI0 fun i j => .int (i - j)) gSub := opd_int0 fun _ _ _ _ => rfl
theorem opd_mod : OpD X W (rI (fun _ j => 0 < j) fun i j => .int (i % j)) gMod := opd_int (fun _ _ => rfl) fun _ _ _ _ => rfl
theorem opd_div : OpD X W (rI CDivW fun i j => .int (i / j)) gDiv := opd_int (fun _ _ => rfl) fun _ _ _ _ => rfl
theorem opd_pow : OpD X W (rI CPow fun i j => .int (i ^ j.toNat)) gPow := opd_int (fun _ _ => rfl) fun _ _ _ _ => rfl
theorem opd_and : OpD X W (rI0 fun i j => .int (Builtin.bitAnd i j)) gAnd := opd_int0 fun _ _ _ _ => rfl
theorem opd_or : OpD X W (rI0 fun i j => .int (Builtin.bitOr i j)) gOr := opd_int0 fun _ _ _ _ => rfl
theorem opd_xor : OpD X W (rI0 fun i j => .int (Builtin.bitXor i j)) gXor := opd_int0 fun _ _ _ _ => rfl
theorem opd_shl : OpD X W (rI CPow fun i j => .int (i * 2 ^ j.toNat)) gShl := opd_int (fun _ _ => rfl) fun _ _ _ _ => rfl
theorem opd_shr : OpD X W (rI (fun _ j => 0 ≤ j) fun i j => .int (i / 2 ^ j.toNat)) gShr := opd_int (fun _ _ => rfl) fun _ _ _ _ => rfl
theorem opd_lt : OpD X W (rI0 fun i j => .bl (decide (i < j))) gLt := opd_int0 fun _ _ _ _ => congrArg V.bl (dcd_eq _)
theorem opd_le : OpD X W (rI0 fun i j => .bl (decide (i ≤ j))) gLe := opd_int0 fun _ _ _ _ => congrArg V.bl (dcd_eq _)
theorem opd_gt : OpD X W (rI0 fun i j => .bl (decide (j < i))) gGt := opd_int0 fun _ _ _ _ => congrArg V.bl (dcd_eq _)
theorem opd_ge : OpD X W (rI0 fun i j => .bl (decide (j ≤ i))) gGe := opd_int0 fun _ _ _ _ => congrArg V.bl (dcd_eq _)
theorem OpD.inl {r r' : R2} {g : D → D → DS → R D} (h : OpD X W r g) : OpD X W (fun x y H Q => r x y H Q ∨ r' x y H Q) g := fun ρ F s σ H x y v u Q rl r1 r2 p => .inl (h ρ F s σ H x y v u Q rl r1 r2 p)
theorem OpD.inr {r r' : R2} {g : D → D → DS → R D} (h : OpD X W r' g) : OpD X W (fun x y H Q => r x y H Q ∨ r' x y H Q) g := fun ρ F s σ H x y v u Q rl r1 r2 p => .inr (h ρ F s σ H x y v u Q rl r1 r2 p)
end

/-! ### sequences -/
/-- the items of the k-th object, a list -/
def objL (s : DS) (k : Nat) : Option (List D) := match s.m[k]? with
  | some (.lst ds) => some ds
  | _ => none
theorem objL_eq {s : DS} {k : Nat} {ds : List D} (h : objL s k = some ds) : s.m[k]? = some (.lst ds) := by
  unfold objL at h
  split at h
  · rename_i es e
    cases h
    exact e
  · cases h
theorem objL_of {s : DS} {k : Nat} {ds : List D} (h : s.m[k]? = some (.lst ds)) : objL s k = some ds := by
  unfold objL
  rw [h]
/-- a list's items: one that changes no more, or an object -/
def lstV (s : DS) : D → Option (List D)
  | .lst ds => some ds
  | .obj k => objL s k
  | _ => none
/-- a list's or a tuple's items -/
def seqV (s : DS) : D → Option (List D)
  | .tup ds => some ds
  | .lst ds => some ds
  | .lsr ds => some ds
  | .obj k => objL s k
  | _ => none
section
variable {K : PySem.W.Frag} {mg : Str → Option Value} {ρ : List Addr} {F H : Hp} {s : DS} {σ : St} {d : D} {v : V} {ds es : List D} {vs us : List V}
theorem Rel.objAt {k : Nat} {m : MO} (rl : MRel K mg ρ F s.m H) (r : Rd K ρ F (.obj k) v) (e : s.m[k]? = some m) (al : m.al) : ∃ a, v = .ref a ∧ ρ[k]? = some a ∧ F a = none ∧ MOk K mg ρ F H a m := by
  obtain ⟨a, e1, e2⟩ := r
  exact ⟨a, e1, e2, rl.own k a m e2 e al⟩
theorem lstV_rd (rl : MRel K mg ρ F s.m H) (r : Rd K ρ F d v) (e : lstV s d = some ds) : ∃ a vs, v = .ref a ∧ H a = some (.lst vs) ∧ RdL K ρ F ds vs := by
  cases d with
  | lst es =>
    cases e
    obtain ⟨a, vs, e1, e2, e3⟩ := r
    exact ⟨a, vs, e1, rl.sub a _ e2, e3⟩
  | obj k =>
    obtain ⟨a, e1, _, _, vs, e3, e4⟩ := Rel.objAt rl r (objL_eq e) trivial
    exact ⟨a, vs, e1, e3, e4⟩
  | _ => cases e
theorem seqV_rd (rl : MRel K mg ρ F s.m H) (r : Rd K ρ F d v) (e : seqV s d = some ds) : ∃ a vs, v = .ref a ∧ (SqL K H a vs ∨ SqT K H a vs) ∧ RdL K ρ F ds vs := by
  cases d with
  | lst es =>
    cases e
    obtain ⟨a, vs, e1, e2, e3⟩ := r
    exact ⟨a, vs, e1, .inl (.inl (.inl (rl.sub a _ e2))), e3⟩
  | lsr es =>
    cases e
    obtain ⟨a, vs, e1, e2, e3⟩ := r
    exact ⟨a, vs, e1, .inl (rl.sub.seq e2), e3⟩
  | tup es =>
    cases e
    obtain ⟨a, vs, e1, e2, e3⟩ := r
    exact ⟨a, vs, e1, .inr (sqT_mono rl.sub e2), e3⟩
  | obj k =>
    obtain ⟨a, e1, _, _, vs, e3, e4⟩ := Rel.objAt rl r (objL_eq e) trivial
    exact ⟨a, vs, e1, .inl (.inl (.inl e3)), e4⟩
  | _ => cases e
theorem RdL.length : ∀ {ds : List D} {vs : List V}, RdL K ρ F ds vs → vs.length = ds.length
  | [], _, h => by
    simp only [RdL] at h
    subst h
    rfl
  | d :: ds, _, h => by
    simp only [RdL] at h
    obtain ⟨v, r, e, _, h2⟩ := h
    subst e
    simp [RdL.length h2]
theorem RdL.get : ∀ {ds : List D} {vs : List V} {i : Nat} {d : D}, RdL K ρ F ds vs → ds[i]? = some d → ∃ v, vs[i]? = some v ∧ Rd K ρ F d v
  | [], _, _, _, _, e => by simp at e
  | d :: ds, _, i, x, h, e => by
    simp only [RdL] at h
    obtain ⟨v, r, e1, h1, h2⟩ := h
    subst e1
    cases i with
    | zero =>
      simp at e
      subst e
      exact ⟨v, by simp, h1⟩
    | succ i =>
      obtain ⟨u, q1, q2⟩ := RdL.get (i := i) (d := x) h2 (by simpa using e)
      exact ⟨u, by simpa using q1, q2⟩
theorem RdL.append : ∀ {ds es : List D} {vs us : List V}, RdL K ρ F ds vs → RdL K ρ F es us → RdL K ρ F (ds ++ es) (vs ++ us)
  | [], _, _, _, h, h' => by
    simp only [RdL] at h
    subst h
    exact h'
  | d :: ds, es, _, us, h, h' => by
    simp only [RdL, List.cons_append] at h ⊢
    obtain ⟨v, r, e1, h1, h2⟩ := h
    subst e1
    exact ⟨v, r ++ us, rfl, h1, RdL.append h2 h'⟩
theorem RdL.one (r : Rd K ρ F d v) : RdL K ρ F [d] [v] := ⟨v, [], rfl, r, rfl⟩
theorem RdL.take : ∀ {ds : List D} {vs : List V} (n : Nat), RdL K ρ F ds vs → RdL K ρ F (ds.take n) (vs.take n)
  | _, _, 0, _ => by simp [RdL]
  | [], _, _ + 1, h => by
    simp only [RdL] at h
    subst h
    simp [RdL]
  | d :: ds, _, n + 1, h => by
    simp only [RdL, List.take_succ_cons] at h ⊢
    obtain ⟨v, r, e1, h1, h2⟩ := h
    subst e1
    exact ⟨v, r.take n, rfl, h1, RdL.take n h2⟩
theorem RdL.drop : ∀ {ds : List D} {vs : List V} (n : Nat), RdL K ρ F ds vs → RdL K ρ F (ds.drop n) (vs.drop n)
  | _, _, 0, h => h
  | [], _, _ + 1, h => by
    simp only [RdL] at h
    subst h
    simp [RdL]
  | d :: ds, _, n + 1, h => by
    simp only [RdL, List.drop_succ_cons] at h ⊢
    obtain ⟨v, r, e1, h1, h2⟩ := h
    subst e1
    exact RdL.drop n h2
theorem RdL.set (r : Rd K ρ F d v) : ∀ {ds : List D} {vs : List V} (n : Nat), RdL K ρ F ds vs → RdL K ρ F (ds.set n d) (vs.set n v)
  | [], _, _, h => by
    simp only [RdL] at h
    subst h
    simp [RdL]
  | e :: ds, _, 0, h => by
    simp only [RdL, List.set_cons_zero] at h ⊢
    obtain ⟨u, t, e1, h1, h2⟩ := h
    subst e1
    exact ⟨v, t, rfl, r, h2⟩
  | e :: ds, _, n + 1, h => by
    simp only [RdL, List.set_cons_succ] at h ⊢
    obtain ⟨u, t, e1, h1, h2⟩ := h
    subst e1
    exact ⟨u, t.set n v, rfl, h1, RdL.set r n h2⟩
theorem RdL.reverse : ∀ {ds : List D} {vs : List V}, RdL K ρ F ds vs → RdL K ρ F ds.reverse vs.reverse
  | [], _, h => by
    simp only [RdL] at h
    subst h
    simp [RdL]
  | d :: ds, _, h => by
    simp only [RdL] at h
    obtain ⟨v, r, e1, h1, h2⟩ := h
    subst e1
    rw [List.reverse_cons, List.reverse_cons]
    exact RdL.append (RdL.reverse h2) (RdL.one h1)
theorem RdL.rep (h : RdL K ρ F ds vs) : ∀ n : Nat, RdL K ρ F (List.replicate n ds).flatten (List.replicate n vs).flatten
  | 0 => by simp [RdL]
  | n + 1 => by
    rw [List.replicate_succ, List.replicate_succ, List.flatten_cons, List.flatten_cons]
    exact RdL.append h (RdL.rep h n)
theorem RdL.nil_iff (h : RdL K ρ F ds vs) : vs = [] ↔ ds = [] := by
  have := h.length
  cases vs <;> cases ds <;> simp_all
/-- a slice -/
def cutG {α : Type} (xs : List α) (lo hi : Option Int) : List α := (xs.drop (HT.sIx xs.length 0 lo)).take (HT.sIx xs.length xs.length hi - HT.sIx xs.length 0 lo)
theorem RdL.cut (h : RdL K ρ F ds vs) (lo hi : Option Int) : RdL K ρ F (cutG ds lo hi) (cutV vs lo hi) := by
  unfold cutG cutV
  rw [h.length]
  exact RdL.take _ (RdL.drop _ h)
theorem RdL.atI {i : Int} (h : RdL K ρ F ds vs) (e : L2.atI ds i = some d) : ∃ v, L2.atI vs i = some v ∧ Rd K ρ F d v := by
  unfold L2.atI at e ⊢
  rw [h.length]
  cases q : ixN ds.length i with
  | none => rw [q] at e; cases e
  | some j =>
    rw [q] at e
    exact h.get (i := j) e
end

section
variable {X : Cx} {W : WX} {ρ : List Addr} {F H : Hp} {s : DS} {σ : St} {Q : VK} {vs : List V} {ds : List D}
/-- a new tuple is handed on -/
theorem Post.tup (h : Post X W (Rd X.K) ρ F H σ Q (.ok (.tup ds) s)) (rl : Rel X.K X.mg ρ F s σ H) (r : RdL X.K ρ F ds vs) : ∀ p, H p = none → Q (.ref p) (upd H p (.tup vs)) := fun p hp => by
  obtain ⟨m, x⟩ := rl.mem.frozen (o := .tup vs) hp
  exact h _ _ _ _ x ⟨m, rl.slo.ext x⟩ ⟨p, vs, rfl, .new upd_same, r.ext x⟩
/-- a new list that never changes -/
theorem Post.lst (h : Post X W (Rd X.K) ρ F H σ Q (.ok (.lst ds) s)) (rl : Rel X.K X.mg ρ F s σ H) (r : RdL X.K ρ F ds vs) : ∀ p, H p = none → Q (.ref p) (upd H p (.lst vs)) := fun p hp => by
  obtain ⟨m, x⟩ := rl.mem.frozen (o := .lst vs) hp
  exact h _ _ _ _ x ⟨m, rl.slo.ext x⟩ ⟨p, vs, rfl, upd_same, r.ext x⟩
/-- a new list that may change -/
theorem Post.new (h : Post X W (Rd X.K) ρ F H σ Q (.ok (.obj s.m.length) { s with m := s.m ++ [.lst ds] })) (rl : Rel X.K X.mg ρ F s σ H) (r : RdL X.K ρ F ds vs) : ∀ p, H p = none → Q (.ref p) (upd H p (.lst vs)) := fun p hp => by
  obtain ⟨m, x⟩ := rl.mem.alloc (o := .lst vs) (m := .lst ds) hp trivial ⟨vs, upd_same, RdL.mono ⟨[p], rfl⟩ (Same.refl F) _ _ r⟩
  refine h _ _ _ _ x ⟨m, rl.slo.ext x⟩ ⟨p, rfl, ?_⟩
  rw [← rl.mem.len, List.getElem?_append_right (Nat.le_refl _)]
  simp
end

/-! ### + -/
noncomputable def gAdd : D → D → DS → R D := fun x y s => match x, y with
  | .int i, .int j => .ok (.int (i + j)) s
  | .str i, .str j => if Pr (i.length + j.length ≤ sizeLine) then .ok (.str (i ++ j)) s else .bad
  | .tup xs, .tup ys => if Pr (xs.length + ys.length ≤ sizeLine) then .ok (.tup (xs ++ ys)) s else .bad
  | x, y => match lstV s x, lstV s y with
    | some xs, some ys => if Pr (xs.length + ys.length ≤ sizeLine) then .ok (.lst (xs ++ ys)) s else .bad
    | _, _ => .bad
abbrev rAddA (K : PySem.W.Frag) : R2 := fun x y H Q => (fun x y H Q => (fun x y H Q => rI0 (fun i j => .int (i + j)) x y H Q ∨ (fun x y H Q => ∃ i j, x = .str i ∧ y = .str j ∧ i.length + j.length ≤ sizeLine ∧ Q (.str (i ++ j)) H) x y H Q) x y H Q ∨ rCatA K x y H Q) x y H Q ∨ rCat x y H Q
section
variable {X : Cx} {W : WX}
theorem op_addA : OpR X (binaryOp .Add) (rAddA X.K) := ((op_add.or op_add_str).or op_catA).or op_cat
theorem opd_add : OpD X W (rAddA X.K) gAdd := by
  intro ρ F s σ H x y v u Q rl r1 r2 h
  have lists : ∀ xs ys, lstV s x = some xs → lstV s y = some ys → Post X W (Rd X.K) ρ F H σ Q (if Pr (xs.length + ys.length ≤ sizeLine) then .ok (.lst (xs ++ ys)) s else .bad) → rCat v u H Q := fun xs ys e1 e2 h => by
    obtain ⟨a, vs, rfl, q1, l1⟩ := lstV_rd rl.mem r1 e1
    obtain ⟨b, us, rfl, q2, l2⟩ := lstV_rd rl.mem r2 e2
    split at h
    · rename_i hc
      exact ⟨a, b, vs, us, rfl, rfl, q1, q2, by rw [l1.length, l2.length]; exact hc, Post.lst h rl (l1.append l2)⟩
    · exact h.elim
  unfold gAdd at h
  split at h
  · exact .inl (.inl (.inl ⟨_, _, r1, r2, h ρ F H _ (Ext.refl ..) rl rfl⟩))
  · split at h
    · rename_i hc
      exact .inl (.inl (.inr ⟨_, _, r1, r2, hc, h ρ F H _ (Ext.refl ..) rl rfl⟩))
    · exact h.elim
  · rename_i xs ys
    obtain ⟨a, vs, rfl, q1, l1⟩ := r1
    obtain ⟨b, us, rfl, q2, l2⟩ := r2
    split at h
    · rename_i hc
      refine .inl (.inr ⟨a, b, vs, us, rfl, rfl, sqT_mono rl.mem.sub q1, sqT_mono rl.mem.sub q2, by rw [l1.length, l2.length]; exact hc, fun e => ?_, fun e e' => ?_, fun _ _ => Post.tup h rl (l1.append l2)⟩)
      · have e1 := l1.nil_iff.mp e
        subst e1
        exact h ρ F H _ (Ext.refl ..) rl ⟨b, us, rfl, q2, l2⟩
      · have e1 := l2.nil_iff.mp e'
        subst e1
        rw [List.append_nil] at h
        exact h ρ F H _ (Ext.refl ..) rl ⟨a, vs, rfl, q1, l1⟩
    · exact h.elim
  · split at h
    · rename_i xs ys e1 e2
      exact .inr (lists xs ys e1 e2 h)
    · exact h.elim

/-! ### * -/
open PySem.Spec PyProof.Rows in
theorem tup_mul_same (l : Addr) (items : Array Value) (n : Nat) (dd : Option Addr) (sl : Array (Option Value)) (x : Int) (u : Tok) (c0 : (decide (x < -(2 ^ 63)) || decide (x ≥ 2 ^ 63)) = false) (c1 : (items.isEmpty || x == 1) = true) :
    Meets (Builtin.«tuple.__mul__» ⟨[.ref l, .int x u], []⟩) (fun _ R s => s.heap.get? l = some { cls := .type "tuple", dict := dd, data := .seq items n, slots := sl } ∧ R (.ok (.ret (Value.ref l))) s) :=
  .of_wp fun prog w A R s h => by
    obtain ⟨hp, g, d, tk, os⟩ := s
    obtain ⟨hl, h⟩ := h
    have f1 := AutoSeq1.idx_int
    wp_walk using wpAny_loadPart' hl
    repeat (first
      | (refine wpAny_ite_false (decide_eq_false (by rw [c0]; exact Bool.false_ne_true)) ?_; wp_walk using wpAny_loadPart' hl)
      | (refine wpAny_ite_true (decide_eq_true c1) ?_; wp_walk using wpAny_loadPart' hl))
    exact ⟨_, rfl, h⟩
open PySem.Spec PyProof.Rows in
theorem tup_mul_none (l : Addr) (items : Array Value) (n : Nat) (dd : Option Addr) (sl : Array (Option Value)) (x : Int) (u : Tok) (c0 : (decide (x < -(2 ^ 63)) || decide (x ≥ 2 ^ 63)) = false) (c1 : (items.isEmpty || x == 1) = false) (c2 : (decide (x ≤ 0) || items.isEmpty) = true) :
    Meets (Builtin.«tuple.__mul__» ⟨[.ref l, .int x u], []⟩) (fun _ R s => s.heap.get? l = some { cls := .type "tuple", dict := dd, data := .seq items n, slots := sl } ∧
      R (.ok (.ret (Value.ref s.heap.objs.size))) { s with heap := s.heap.push { cls := Value.type "tuple", data := Data.seq #[] }, toks := s.toks }) :=
  .of_wp fun prog w A R s h => by
    obtain ⟨hp, g, d, tk, os⟩ := s
    obtain ⟨hl, h⟩ := h
    have f1 := AutoSeq1.idx_int
    wp_walk using wpAny_loadPart' hl
    repeat (first
      | (refine wpAny_ite_false (decide_eq_false (by rw [c0]; exact Bool.false_ne_true)) ?_; wp_walk using wpAny_loadPart' hl)
      | (refine wpAny_ite_false (decide_eq_false (by rw [c1]; exact Bool.false_ne_true)) ?_; wp_walk using wpAny_loadPart' hl)
      | (refine wpAny_ite_true (decide_eq_true c2) ?_; wp_walk using wpAny_loadPart' hl))
    exact ⟨_, rfl, h⟩
def rRepS (K : PySem.W.Frag) : R2 := fun x y H Q => ∃ l k xs, x = .ref l ∧ y = .int k ∧ SqT K H l xs ∧ (xs = [] ∨ k = 1) ∧ -(2 ^ 63) ≤ k ∧ k ≤ 1000 ∧ Q (.ref l) H
def rRepZ (K : PySem.W.Frag) : R2 := fun x y H Q => ∃ l k xs, x = .ref l ∧ y = .int k ∧ SqT K H l xs ∧ xs ≠ [] ∧ -(2 ^ 63) ≤ k ∧ k ≤ 0 ∧ ∀ p, H p = none → Q (.ref p) (upd H p (.tup []))
section
variable {X : Cx} {W : WX}
open PySem.Spec PyProof.Rows
theorem op_repS : OpR X (binaryOp .Mult) (rRepS X.K) := by
  intro pins s σ H x y v u Q I rx ry h
  obtain ⟨l, k, xs, rfl, rfl, hT, h0, h1, h2, q⟩ := h
  cases rx
  obtain ⟨t, rfl⟩ := ry
  obtain ⟨its, r, ⟨⟨cls, dd, data, sl⟩, ho, hc, n, hd⟩, hs⟩ := I.tuple hT
  simp only at hc hd
  subst hc hd
  have c0 : (decide (k < -(2 ^ 63)) || decide (k ≥ 2 ^ 63)) = false := by
    rw [decide_eq_false (by omega), decide_eq_false (by omega)] <;> rfl
  have c1 : (its.toArray.isEmpty || k == 1) = true := by
    rcases h0 with e | e
    · have e2 : its = [] := by have := r.length; rw [e] at this; exact List.eq_nil_of_length_eq_zero this.symm
      rw [e2]
      rfl
    · rw [e, Bool.or_eq_true]
      exact .inr rfl
  exact wpAny_binaryOp_repeat_ref (T := "tuple") (U := "int") (by decide) ⟨_, ho, rfl⟩ (fun s' => typeIs_int s' k t) noFill_tuple_mul F.fills_int_mul F.slot_int_rmul repeat_tuple F.slot_int_index.lookup
    (call_meets F.slot_int_rmul (typeIs_int s k t) F.entry_int_rmul (F.args_int_rmul_2 _ _) (int_rmul_tuple k t l its.toArray n dd sl)
      ⟨ho, rfl, ⟨_, ho, rfl⟩, call_meets F.slot_tuple_mul ⟨_, ho, rfl⟩ F.entry_tuple_mul (F.args_tuple_mul_2 _ _) (tup_mul_same l its.toArray n dd sl k t c0 c1) ⟨ho, .ref l, H, I, rfl, q⟩⟩)
theorem op_repZ : OpR X (binaryOp .Mult) (rRepZ X.K) := by
  intro pins s σ H x y v u Q I rx ry h
  obtain ⟨l, k, xs, rfl, rfl, hT, hne, h1, h2, q⟩ := h
  cases rx
  obtain ⟨t, rfl⟩ := ry
  obtain ⟨its, r, ⟨⟨cls, dd, data, sl⟩, ho, hc, n, hd⟩, hs⟩ := I.tuple hT
  simp only at hc hd
  subst hc hd
  have hn : its ≠ [] := fun e => hne (by have := r.length; rw [e] at this; exact List.eq_nil_of_length_eq_zero this)
  have hi : its.toArray.isEmpty = false := by
    cases its with
    | nil => exact absurd rfl hn
    | cons a b => rfl
  have c0 : (decide (k < -(2 ^ 63)) || decide (k ≥ 2 ^ 63)) = false := by
    rw [decide_eq_false (by omega), decide_eq_false (by omega)] <;> rfl
  have c1 : (its.toArray.isEmpty || k == 1) = false := by
    rw [hi, Bool.false_or]
    exact beq_eq_false_iff_ne.mpr (by omega)
  have c2 : (decide (k ≤ 0) || its.toArray.isEmpty) = true := by
    rw [hi, Bool.or_false]
    exact decide_eq_true h2
  refine wpAny_binaryOp_repeat_ref (T := "tuple") (U := "int") (by decide) ⟨_, ho, rfl⟩ (fun s' => typeIs_int s' k t) noFill_tuple_mul F.fills_int_mul F.slot_int_rmul repeat_tuple F.slot_int_index.lookup
    (call_meets F.slot_int_rmul (typeIs_int s k t) F.entry_int_rmul (F.args_int_rmul_2 _ _) (int_rmul_tuple k t l its.toArray n dd sl)
      ⟨ho, rfl, ⟨_, ho, rfl⟩, call_meets F.slot_tuple_mul ⟨_, ho, rfl⟩ F.entry_tuple_mul (F.args_tuple_mul_2 _ _) (tup_mul_none l its.toArray n dd sl k t c0 c1 c2) ⟨ho, ?_⟩⟩)
  exact ⟨.ref s.heap.objs.size, _, I.laid (t' := s.toks) (o := .tup []) (fun b ob q => Heap.get?_push_of_some _ q) (Nat.le_refl _) ⟨Nat.zero_le _, [], .nil, IsTup.new _ _⟩, rfl, q _ (I.hok.fresh (Nat.le_refl _))⟩
abbrev rMulA (K : PySem.W.Frag) : R2 := fun x y H Q => (fun x y H Q => (fun x y H Q => (fun x y H Q => rI CMul (fun i j => .int (i * j)) x y H Q ∨ rRep x y H Q) x y H Q ∨ rRepT K x y H Q) x y H Q ∨ rRepS K x y H Q) x y H Q ∨ rRepZ K x y H Q
theorem op_mulA : OpR X (binaryOp .Mult) (rMulA X.K) := (((op_mul.or op_rep).or op_repT).or op_repS).or op_repZ
noncomputable def gMul : D → D → DS → R D := fun x y s => match x, y with
  | .int i, .int j => if Pr (CMul i j) then .ok (.int (i * j)) s else .bad
  | .tup xs, .int k => if Pr (-(2 ^ 63) ≤ k ∧ k ≤ 1000 ∧ xs.length ≤ 1000) then .ok (.tup (List.replicate k.toNat xs).flatten) s else .bad
  | x, .int k => match lstV s x with
    | some xs => if Pr (-(2 ^ 63) ≤ k ∧ k < 2 ^ 63 ∧ xs.length * k.toNat ≤ sizeLine) then .ok (.lst (List.replicate k.toNat xs).flatten) s else .bad
    | none => .bad
  | _, _ => .bad
theorem flat_nil {α : Type} : ∀ n : Nat, (List.replicate n ([] : List α)).flatten = []
  | 0 => rfl
  | n + 1 => by rw [List.replicate_succ, List.flatten_cons, flat_nil n]; rfl
theorem opd_mul : OpD X W (rMulA X.K) gMul := by
  intro ρ F s σ H x y v u Q rl r1 r2 h
  unfold gMul at h
  split at h
  · split at h
    · rename_i hc
      exact .inl (.inl (.inl (.inl ⟨_, _, r1, r2, hc, h ρ F H _ (Ext.refl ..) rl rfl⟩)))
    · exact h.elim
  · rename_i xs k
    obtain ⟨a, vs, rfl, q1, l1⟩ := r1
    split at h
    · rename_i hc
      have hc1 : -(2 ^ 63) ≤ k ∧ k ≤ 1000 ∧ xs.length ≤ 1000 := hc
      obtain ⟨b1, b2, b3⟩ := hc1
      have q2 := sqT_mono rl.mem.sub q1
      by_cases e : vs = []
      · have e1 := l1.nil_iff.mp e
        subst e1
        rw [flat_nil] at h
        exact .inl (.inr ⟨a, _, vs, rfl, r2, q2, .inl e, b1, b2, h ρ F H _ (Ext.refl ..) rl ⟨a, vs, rfl, q1, l1⟩⟩)
      · by_cases e1 : k = 1
        · subst e1
          have e3 : (List.replicate (1 : Int).toNat xs).flatten = xs := by simp
          rw [e3] at h
          exact .inl (.inr ⟨a, _, vs, rfl, r2, q2, .inr rfl, b1, b2, h ρ F H _ (Ext.refl ..) rl ⟨a, vs, rfl, q1, l1⟩⟩)
        · by_cases e2 : k ≤ 0
          · refine .inr ⟨a, _, vs, rfl, r2, q2, e, b1, e2, ?_⟩
            have : (List.replicate k.toNat xs).flatten = [] := by rw [show k.toNat = 0 by omega]; rfl
            rw [this] at h
            exact Post.tup h rl (show RdL X.K ρ F [] [] from rfl)
          · exact .inl (.inl (.inr ⟨a, _, vs, rfl, r2, q2, e, by omega, b2, by rw [l1.length]; exact b3, Post.tup h rl (l1.rep _)⟩))
    · exact h.elim
  · split at h
    · rename_i xs e1
      obtain ⟨a, vs, rfl, q1, l1⟩ := lstV_rd rl.mem r1 e1
      split at h
      · rename_i hc
        exact .inl (.inl (.inl (.inr ⟨a, _, vs, rfl, r2, q1, hc.1, hc.2.1, by rw [l1.length]; exact hc.2.2, Post.lst h rl (l1.rep _)⟩)))
      · exact h.elim
    · exact h.elim
  · exact h.elim
end

/-! ### items, slices -/
def gIx : D → D → DS → R D := fun x y s => match seqV s x, y with
  | some ds, .int i => match L2.atI ds i with
    | some d => .ok d s
    | none => .bad
  | _, _ => .bad
theorem pd_ix {a b : Expr} {pos : Pos} {fa fb : DS → R D} (ha : PD X W a fa) (hb : PD X W b fb) (hs : PlainIx b := by exact fun _ _ => rfl) : PD X W (.Subscript a b pos) (fBin fa fb gIx) := by
  obtain ⟨ta, ea, la⟩ := ha
  obtain ⟨tb, eb, lb⟩ := hb
  refine ⟨_, pe_ix (ix_list.or ix_tup) ea eb hs, OpD.run (r := fun x y H Q => rIxL X.K x y H Q ∨ rIxT X.K x y H Q) (fun ρ F s σ H x y v u Q rl r1 r2 h => ?_) la lb⟩
  unfold gIx at h
  split at h
  · rename_i ds i e1
    split at h
    · rename_i d e2
      obtain ⟨p, vs, rfl, q, l⟩ := seqV_rd rl.mem r1 e1
      obtain ⟨w, e3, r3⟩ := l.atI e2
      have fin := h ρ F H w (Ext.refl ..) rl r3
      rcases q with q | q
      · exact .inl ⟨p, vs, i, w, rfl, r2, q, e3, fin⟩
      · exact .inr ⟨p, vs, i, w, rfl, r2, q, e3, fin⟩
    · exact h.elim
  · exact h.elim
/-- the ends of a slice -/
def PDO (X : Cx) (W : WX) (e : Option Expr) (f : DS → R (Option Int)) : Prop := ∃ t, PO X e t ∧ Stl X W (fun _ _ a b => b = a) t f
def fNoO : DS → R (Option Int) := fun s => .ok none s
def fO (f : DS → R D) : DS → R (Option Int) := fun s => (f s).bind fun d s1 => match d with
  | .int i => .ok (some i) s1
  | _ => .bad
theorem pdo_none : PDO X W none fNoO := ⟨_, po_none, fun ρ F s σ H Q rl h => h ρ F H _ (Ext.refl ..) rl rfl⟩
theorem pdo_some {e : Expr} {f : DS → R D} (h : PD X W e f) : PDO X W (some e) (fO f) := by
  obtain ⟨t, e1, l⟩ := h
  refine ⟨_, po_some e1, fun ρ F s σ H Q rl h => l ρ F s σ H _ rl (h.bind fun d s1 ρ1 F1 H1 v x1 rl1 rd1 h1 => ?_)⟩
  cases d with
  | int i => exact ⟨i, rd1, h1 ρ1 F1 H1 _ (Ext.refl ..) rl1 rfl⟩
  | _ => exact h1.elim
def gSl (x : D) (lo hi : Option Int) (s : DS) : R D := match x with
  | .tup ds => .ok (.tup (cutG ds lo hi)) s
  | x => match seqV s x with
    | some ds => .ok (.lst (cutG ds lo hi)) s
    | none => .bad
def fSl (f : DS → R D) (fl fh : DS → R (Option Int)) : DS → R D := fun s => (f s).bind fun x s1 => (fl s1).bind fun lo s2 => (fh s2).bind fun hi s3 => gSl x lo hi s3
theorem seqV_l {K : PySem.W.Frag} {mg : Str → Option Value} {ρ : List Addr} {F H : Hp} {s : DS} {d : D} {v : V} {ds : List D} (rl : MRel K mg ρ F s.m H) (r : Rd K ρ F d v) (e : seqV s d = some ds) (n : ∀ es, d ≠ .tup es) : ∃ a vs, v = .ref a ∧ SqL K H a vs ∧ RdL K ρ F ds vs := by
  cases d with
  | lst es =>
    cases e
    obtain ⟨a, vs, e1, e2, e3⟩ := r
    exact ⟨a, vs, e1, .inl (.inl (rl.sub a _ e2)), e3⟩
  | lsr es =>
    cases e
    obtain ⟨a, vs, e1, e2, e3⟩ := r
    exact ⟨a, vs, e1, rl.sub.seq e2, e3⟩
  | tup es => exact absurd rfl (n es)
  | obj k =>
    obtain ⟨a, vs, e1, e2, e3⟩ := lstV_rd rl r (d := .obj k) (s := s) e
    exact ⟨a, vs, e1, .inl (.inl e2), e3⟩
  | _ => cases e
theorem pd_sl {e : Expr} {lo hi : Option Expr} {pos p2 : Pos} {f : DS → R D} {fl fh : DS → R (Option Int)} (he : PD X W e f) (hl : PDO X W lo fl) (hh : PDO X W hi fh) : PD X W (.Subscript e (.Slice lo hi none p2) pos) (fSl f fl fh) := by
  obtain ⟨t, e1, l⟩ := he
  obtain ⟨t2, e2, l2⟩ := hl
  obtain ⟨t3, e3, l3⟩ := hh
  refine ⟨_, pe_slice (sl_list.or sl_tupA) e1 e2 e3, fun ρ F s σ H Q rl h => l ρ F s σ H _ rl (h.bind fun x s1 ρ1 F1 H1 v x1 rl1 rd1 h1 => ?_)⟩
  refine l2 ρ1 F1 s1 σ H1 _ rl1 (Post.bind h1 fun i s2 ρ2 F2 H2 i' x2 rl2 rd2 h2 => ?_)
  refine l3 ρ2 F2 s2 σ H2 _ rl2 (h2.bind fun j s3 ρ3 F3 H3 j' x3 rl3 rd3 h3 => ?_)
  subst rd2
  subst rd3
  have r := (rd1.ext x2).ext x3
  unfold gSl at h3
  split at h3
  · rename_i ds
    obtain ⟨a, vs, rfl, q, lr⟩ := r
    refine .inr ⟨a, vs, rfl, sqT_mono rl3.mem.sub q, fun ⟨c1, c2⟩ => ?_, fun _ => Post.tup h3 rl3 (lr.cut i' j')⟩
    have e5 : cutG ds i' j' = ds := by
      unfold cutG
      rw [← lr.length, c1, c2, List.drop_zero, Nat.sub_zero, lr.length, List.take_length]
    rw [e5] at h3
    exact h3 ρ3 F3 H3 _ (Ext.refl ..) rl3 ⟨a, vs, rfl, q, lr⟩
  · rename_i x hx
    split at h3
    · rename_i ds e4
      obtain ⟨a, vs, rfl, q, lr⟩ := seqV_l rl3.mem r e4 (fun es z => hx es z)
      exact .inl ⟨a, vs, rfl, q, Post.lst h3 rl3 (lr.cut i' j')⟩
    · exact h3.elim
/-- x[::-1] -/
def fRev (f : DS → R D) : DS → R D := fun s => (f s).bind fun x s1 => match x with
  | .tup _ => .bad
  | x => match seqV s1 x with
    | some ds => .ok (.lst ds.reverse) s1
    | none => .bad
theorem pd_rev {e : Expr} {k : Nat} {p1 p2 p3 pos : Pos} {f : DS → R D} (he : PD X W e f) : PD X W (.Subscript e (.Slice none none (some (.UnaryOp .USub (.Constant (.int 1) k p1) p2)) p3) pos) (fRev f) := by
  obtain ⟨t, e1, l⟩ := he
  refine ⟨_, pe_revL e1, fun ρ F s σ H Q rl h => l ρ F s σ H _ rl (h.bind fun x s1 ρ1 F1 H1 v x1 rl1 rd1 h1 => ?_)⟩
  split at h1
  · exact h1.elim
  · rename_i x hx
    split at h1
    · rename_i ds e4
      obtain ⟨a, vs, rfl, q, lr⟩ := seqV_l rl1.mem rd1 e4 (fun es z => hx es z)
      exact ⟨a, vs, rfl, q, Post.lst h1 rl1 lr.reverse⟩
    · exact h1.elim

/-! ### displays -/
def fNil : DS → R (List D) := fun s => .ok [] s
def fCons (f : DS → R D) (g : DS → R (List D)) : DS → R (List D) := fun s => (f s).bind fun d s1 => (g s1).bind fun ds s2 => .ok (d :: ds) s2
theorem pda_nil : PDA X W [] fNil := ⟨_, pa_nil, fun ρ F s σ H Q rl h => h ρ F H _ (Ext.refl ..) rl rfl⟩
theorem pda_cons {e : Expr} {es : List Expr} {f : DS → R D} {g : DS → R (List D)} (he : PD X W e f) (hr : PDA X W es g) (hs : starEach (e :: es) X.env = (false, eval e X.env) :: starEach es X.env := by rfl) : PDA X W (e :: es) (fCons f g) := by
  obtain ⟨t, e1, l⟩ := he
  obtain ⟨t2, e2, l2⟩ := hr
  refine ⟨_, pa_cons e1 e2 hs, fun ρ F s σ H Q rl h => l ρ F s σ H _ rl (h.bind fun d s1 ρ1 F1 H1 v x1 rl1 rd1 h1 => ?_)⟩
  refine l2 ρ1 F1 s1 σ H1 _ rl1 (Post.bind h1 fun ds s2 ρ2 F2 H2 vs x2 rl2 rd2 h2 => ?_)
  exact h2 ρ2 F2 H2 _ (Ext.refl ..) rl2 ⟨v, vs, rfl, rd1.ext x2, rd2⟩
noncomputable def fTup (g : DS → R (List D)) : DS → R D := fun s => (g s).bind fun ds s1 => if Pr (ds.length ≤ sizeLine) then .ok (.tup ds) s1 else .bad
noncomputable def fLst (g : DS → R (List D)) : DS → R D := fun s => (g s).bind fun ds s1 => if Pr (ds.length ≤ sizeLine) then .ok (.lst ds) s1 else .bad
/-- .. that may change -/
noncomputable def fNew (g : DS → R (List D)) : DS → R D := fun s => (g s).bind fun ds s1 => if Pr (ds.length ≤ sizeLine) then .ok (.obj s1.m.length) { s1 with m := s1.m ++ [.lst ds] } else .bad
theorem pd_tup {es : List Expr} {pos : Pos} {x1} {g : DS → R (List D)} (h : PDA X W es g) : PD X W (.Tuple es x1 pos) (fTup g) := by
  obtain ⟨t, e1, l⟩ := h
  refine ⟨_, pe_tup e1, fun ρ F s σ H Q rl h => l ρ F s σ H _ rl (h.bind fun ds s1 ρ1 F1 H1 vs x1 rl1 rd1 h1 => ?_)⟩
  split at h1
  · rename_i hc
    exact ⟨by rw [rd1.length]; exact hc, Post.tup h1 rl1 rd1⟩
  · exact h1.elim
theorem pd_lst {es : List Expr} {pos : Pos} {g : DS → R (List D)} (h : PDA X W es g) : PD X W (.List es pos) (fLst g) := by
  obtain ⟨t, e1, l⟩ := h
  refine ⟨_, pe_lst e1, fun ρ F s σ H Q rl h => l ρ F s σ H _ rl (h.bind fun ds s1 ρ1 F1 H1 vs x1 rl1 rd1 h1 => ?_)⟩
  split at h1
  · rename_i hc
    exact ⟨by rw [rd1.length]; exact hc, Post.lst h1 rl1 rd1⟩
  · exact h1.elim
theorem pd_new {es : List Expr} {pos : Pos} {g : DS → R (List D)} (h : PDA X W es g) : PD X W (.List es pos) (fNew g) := by
  obtain ⟨t, e1, l⟩ := h
  refine ⟨_, pe_lst e1, fun ρ F s σ H Q rl h => l ρ F s σ H _ rl (h.bind fun ds s1 ρ1 F1 H1 vs x1 rl1 rd1 h1 => ?_)⟩
  split at h1
  · rename_i hc
    exact ⟨by rw [rd1.length]; exact hc, Post.new h1 rl1 rd1⟩
  · exact h1.elim
end
end DL

/-! Rules: == and in over data, isinstance, calls of what is built in. -/
namespace DL
open PySem L2

mutual
def toP : D → PyData
  | .bl b => .bool b
  | .int i => .int i
  | .str x => .str x
  | .tup ds => .tuple (toPL ds)
  | .lst ds => .list (toPL ds)
  | _ => .none
def toPL : List D → List PyData
  | [] => []
  | d :: ds => toP d :: toPL ds
end
mutual
/-- data of at most n floors, without objects -/
def okD : Nat → D → Bool
  | _, .non => true
  | _, .bl _ => true
  | _, .int _ => true
  | _, .str x => PyData.strOk x
  | n, .tup ds => match n with
    | 0 => false
    | m + 1 => okL m ds
  | n, .lst ds => match n with
    | 0 => false
    | m + 1 => okL m ds
  | _, _ => false
def okL : Nat → List D → Bool
  | _, [] => true
  | n, d :: ds => okD n d && okL n ds
end
mutual
/-- == -/
noncomputable def eqD : D → D → Bool
  | .non, .non => true
  | .bl a, .bl b => a == b
  | .bl a, .int j => (if a then 1 else 0) == j
  | .int i, .bl b => i == (if b then 1 else 0)
  | .int i, .int j => dcd (i = j)
  | .str x, .str y => dcd (x = y)
  | .lst xs, .lst ys => eqL xs ys
  | .tup xs, .tup ys => eqL xs ys
  | _, _ => false
noncomputable def eqL : List D → List D → Bool
  | [], [] => true
  | x :: xs, y :: ys => eqD x y && eqL xs ys
  | _, _ => false
end
mutual
theorem eqD_eqv : ∀ (n m : Nat) (a b : D), okD n a = true → okD m b = true → PyData.eqv (toP a) (toP b) = eqD a b
  | n, m, .non, b, ha, hb => by cases b <;> simp_all [toP, eqD, PyData.eqv, okD]
  | n, m, .bl x, b, ha, hb => by cases b <;> simp_all [toP, eqD, PyData.eqv, okD]
  | n, m, .int x, b, ha, hb => by
    cases b with
    | int j => simp only [toP, eqD, PyData.eqv]; exact (Bool.beq_eq_decide_eq ..).trans (dcd_eq _)
    | _ => simp_all [toP, eqD, PyData.eqv, okD]
  | n, m, .str x, b, ha, hb => by
    cases b with
    | str j => simp only [toP, eqD, PyData.eqv]; exact (Bool.beq_eq_decide_eq ..).trans (dcd_eq _)
    | _ => simp_all [toP, eqD, PyData.eqv, okD]
  | n, m, .tup xs, b, ha, hb => by
    cases b with
    | tup ys =>
      cases n with
      | zero => simp [okD] at ha
      | succ n =>
        cases m with
        | zero => simp [okD] at hb
        | succ m =>
          simp only [okD] at ha hb
          simp only [toP, eqD, PyData.eqv]
          exact eqL_eqv n m xs ys ha hb
    | _ => simp_all [toP, eqD, PyData.eqv, okD]
  | n, m, .lst xs, b, ha, hb => by
    cases b with
    | lst ys =>
      cases n with
      | zero => simp [okD] at ha
      | succ n =>
        cases m with
        | zero => simp [okD] at hb
        | succ m =>
          simp only [okD] at ha hb
          simp only [toP, eqD, PyData.eqv]
          exact eqL_eqv n m xs ys ha hb
    | _ => simp_all [toP, eqD, PyData.eqv, okD]
  | n, m, .ref _, b, ha, hb => by simp [okD] at ha
  | n, m, .ty _, b, ha, hb => by simp [okD] at ha
  | n, m, .lsr _, b, ha, hb => by simp [okD] at ha
  | n, m, .obj _, b, ha, hb => by simp [okD] at ha
  | n, m, .exc _ _ _ _, b, ha, hb => by simp [okD] at ha
theorem eqL_eqv : ∀ (n m : Nat) (a b : List D), okL n a = true → okL m b = true → PyData.eqvAll (toPL a) (toPL b) = eqL a b
  | n, m, [], [], _, _ => by simp [toPL, eqL, PyData.eqvAll]
  | n, m, [], y :: ys, _, _ => by simp [toPL, eqL, PyData.eqvAll]
  | n, m, x :: xs, [], _, _ => by simp [toPL, eqL, PyData.eqvAll]
  | n, m, x :: xs, y :: ys, ha, hb => by
    simp only [okL, Bool.and_eq_true] at ha hb
    simp only [toPL, eqL, PyData.eqvAll, eqD_eqv n m x y ha.1 hb.1, eqL_eqv n m xs ys ha.2 hb.2]
end
mutual
theorem okD_lay : ∀ (n : Nat) (d : D), okD n d = true → (toP d).canLay0 = true ∧ (toP d).depth ≤ n
  | n, .non, _ => by simp [toP, PyData.canLay0, PyData.depth]
  | n, .bl _, _ => by simp [toP, PyData.canLay0, PyData.depth]
  | n, .int _, _ => by simp [toP, PyData.canLay0, PyData.depth]
  | n, .str x, h => by simp only [okD] at h; simp [toP, PyData.canLay0, PyData.depth, h]
  | n, .tup ds, h => by
    cases n with
    | zero => simp [okD] at h
    | succ n =>
      simp only [okD] at h
      obtain ⟨h1, h2⟩ := okL_lay n ds h
      simp only [toP, PyData.canLay0, PyData.depth]
      exact ⟨h1, by omega⟩
  | n, .lst ds, h => by
    cases n with
    | zero => simp [okD] at h
    | succ n =>
      simp only [okD] at h
      obtain ⟨h1, h2⟩ := okL_lay n ds h
      simp only [toP, PyData.canLay0, PyData.depth]
      exact ⟨h1, by omega⟩
  | n, .ref _, h => by simp [okD] at h
  | n, .ty _, h => by simp [okD] at h
  | n, .lsr _, h => by simp [okD] at h
  | n, .obj _, h => by simp [okD] at h
  | n, .exc _ _ _ _, h => by simp [okD] at h
theorem okL_lay : ∀ (n : Nat) (ds : List D), okL n ds = true → PyData.canLayAll0 (toPL ds) = true ∧ PyData.depthAll (toPL ds) ≤ n
  | n, [], _ => by simp [toPL, PyData.canLayAll0, PyData.depthAll]
  | n, d :: ds, h => by
    simp only [okL, Bool.and_eq_true] at h
    obtain ⟨h1, h2⟩ := okD_lay n d h.1
    obtain ⟨h3, h4⟩ := okL_lay n ds h.2
    simp only [toPL, PyData.canLayAll0, PyData.depthAll, h1, h3, Bool.and_self, true_and]
    omega
end
theorem okD_shaped {n : Nat} {d : D} (h : okD n d = true) (hn : n ≤ 64) : SeqAt.shaped (toP d) = true := by
  obtain ⟨h1, h2⟩ := okD_lay n d h
  unfold SeqAt.shaped
  simp only [h1, Bool.true_and, decide_eq_true_eq]
  omega
section
variable {K : PySem.W.Frag} {ρ : List Addr} {F H : Hp}
mutual
theorem Rd.dp (s : Same F H) : ∀ (n : Nat) (d : D) (v : V), okD n d = true → Rd K ρ F d v → Dp K H v (toP d)
  | _, .non, _, _, r => by cases r; exact .non
  | _, .bl _, _, _, r => by cases r; exact .bl _
  | _, .int _, _, _, r => by cases r; exact .int _
  | _, .str _, _, _, r => by cases r; exact .str _
  | n, .tup ds, v, h, r => by
    cases n with
    | zero => simp [okD] at h
    | succ n =>
      simp only [okD] at h
      obtain ⟨a, vs, e, q, l⟩ := r
      subst e
      exact .tup (sqT_mono s q) (RdL.dp s n ds vs h l)
  | n, .lst ds, v, h, r => by
    cases n with
    | zero => simp [okD] at h
    | succ n =>
      simp only [okD] at h
      obtain ⟨a, vs, e, q, l⟩ := r
      subst e
      exact .lst (.inl (.inl (s _ _ q))) (RdL.dp s n ds vs h l)
  | n, .ref _, _, h, _ => by simp [okD] at h
  | n, .ty _, _, h, _ => by simp [okD] at h
  | n, .lsr _, _, h, _ => by simp [okD] at h
  | n, .obj _, _, h, _ => by simp [okD] at h
  | n, .exc _ _ _ _, _, h, _ => by simp [okD] at h
theorem RdL.dp (s : Same F H) : ∀ (n : Nat) (ds : List D) (vs : List V), okL n ds = true → RdL K ρ F ds vs → DpAll K H vs (toPL ds)
  | _, [], _, _, r => by
    simp only [RdL] at r
    subst r
    exact .nil
  | n, d :: ds, _, h, r => by
    simp only [okL, Bool.and_eq_true] at h
    simp only [RdL] at r
    obtain ⟨v, t, e, r1, r2⟩ := r
    subst e
    exact .cons (Rd.dp s n d v h.1 r1) (RdL.dp s n ds t h.2 r2)
end
/-- an object that is a list, as a list -/
def vw (s : DS) (d : D) : D := match d with
  | .obj k => match objL s k with
    | some ds => .lst ds
    | none => .obj k
  | d => d
theorem vw_dp {mg : Str → Option Value} {s : DS} {n : Nat} {d : D} {v : V} (rl : MRel K mg ρ F s.m H) (h : okD n (vw s d) = true) (r : Rd K ρ F d v) : Dp K H v (toP (vw s d)) := by
  by_cases hd : ∃ k, d = .obj k
  · obtain ⟨k, rfl⟩ := hd
    unfold vw at h ⊢
    cases q : objL s k with
    | none => simp only [q] at h; simp [okD] at h
    | some ds =>
      simp only [q] at h ⊢
      obtain ⟨a, vs, e, e2, l⟩ := lstV_rd rl r (s := s) (d := .obj k) q
      subst e
      cases n with
      | zero => simp [okD] at h
      | succ n =>
        simp only [okD] at h
        exact .lst (.inl (.inl e2)) (RdL.dp rl.sub n ds vs h l)
  · have e : vw s d = d := by
      unfold vw
      split
      · exact absurd ⟨_, rfl⟩ hd
      · rfl
    rw [e] at h ⊢
    exact Rd.dp rl.sub n d v h r
end
noncomputable def gEq : D → D → DS → R D := fun x y s => if okD 64 (vw s x) = true ∧ okD 64 (vw s y) = true then .ok (.bl (eqD (vw s x) (vw s y))) s else .bad
noncomputable def gNe : D → D → DS → R D := fun x y s => if okD 64 (vw s x) = true ∧ okD 64 (vw s y) = true then .ok (.bl (!eqD (vw s x) (vw s y))) s else .bad
section
variable {X : Cx} {W : WX}
theorem opd_eq : OpD X W (rEqD X.K) gEq := by
  intro ρ F s σ H x y v u Q rl r1 r2 h
  unfold gEq at h
  split at h
  · rename_i hc
    refine ⟨_, _, vw_dp rl.mem hc.1 r1, vw_dp rl.mem hc.2 r2, okD_shaped hc.1 (Nat.le_refl _), okD_shaped hc.2 (Nat.le_refl _), ?_⟩
    rw [eqD_eqv 64 64 _ _ hc.1 hc.2]
    exact h ρ F H _ (Ext.refl ..) rl rfl
  · exact h.elim
theorem opd_ne : OpD X W (rNeD X.K) gNe := by
  intro ρ F s σ H x y v u Q rl r1 r2 h
  unfold gNe at h
  split at h
  · rename_i hc
    refine ⟨_, _, vw_dp rl.mem hc.1 r1, vw_dp rl.mem hc.2 r2, okD_shaped hc.1 (Nat.le_refl _), okD_shaped hc.2 (Nat.le_refl _), ?_⟩
    rw [eqD_eqv 64 64 _ _ hc.1 hc.2]
    exact h ρ F H _ (Ext.refl ..) rl rfl
  · exact h.elim
end

/-! ### in, flat items -/
def flD : D → Bool
  | .non => true
  | .bl _ => true
  | .int _ => true
  | .str _ => true
  | _ => false
noncomputable def inD (x : D) (ds : List D) : Bool := ds.any fun y => eqD y x
noncomputable def gIn (neg : Bool) : D → D → DS → R D := fun x y s => match seqV s y with
  | some ds => if flD x = true ∧ ds.all flD = true then .ok (.bl (if neg then !inD x ds else inD x ds)) s else .bad
  | none => .bad
section
variable {K : PySem.W.Frag} {ρ : List Addr} {F : Hp}
theorem flD_rd {d : D} {v : V} (r : Rd K ρ F d v) (h : flD d = true) : flatV v = true := by
  cases d <;> first | (cases r; rfl) | (cases h)
theorem eqD_flat {x y : D} {v u : V} (r1 : Rd K ρ F x v) (r2 : Rd K ρ F y u) (h1 : flD x = true) (h2 : flD y = true) : eqV v u = eqD x y := by
  cases x <;> first | (cases h1; done) | skip
  all_goals cases y <;> first | (cases h2; done) | skip
  all_goals
    cases r1
    cases r2
    simp only [eqV, eqD]
  all_goals exact (Bool.beq_eq_decide_eq ..).trans (dcd_eq _)
theorem flat_all : ∀ {ds : List D} {vs : List V}, RdL K ρ F ds vs → ds.all flD = true → vs.all flatV = true
  | [], _, r, _ => by
    simp only [RdL] at r
    subst r
    rfl
  | d :: ds, _, r, h => by
    simp only [RdL] at r
    obtain ⟨v, t, e, r1, r2⟩ := r
    subst e
    simp only [List.all_cons, Bool.and_eq_true] at h ⊢
    exact ⟨flD_rd r1 h.1, flat_all r2 h.2⟩
theorem inV_eq {x : D} {v : V} (r1 : Rd K ρ F x v) (h1 : flD x = true) : ∀ {ds : List D} {vs : List V}, RdL K ρ F ds vs → ds.all flD = true → inV v vs = inD x ds
  | [], _, r, _ => by
    simp only [RdL] at r
    subst r
    rfl
  | d :: ds, _, r, h => by
    simp only [RdL] at r
    obtain ⟨u, t, e, r2, r3⟩ := r
    subst e
    simp only [List.all_cons, Bool.and_eq_true] at h
    have ih := inV_eq r1 h1 r3 h.2
    unfold inV inD at ih ⊢
    rw [List.any_cons, List.any_cons, ih, eqD_flat r2 r1 h.1 h1]
end
section
variable {X : Cx} {W : WX}
theorem opd_in {neg : Bool} : OpD X W (rIn X.K neg) (gIn neg) := by
  intro ρ F s σ H x y v u Q rl r1 r2 h
  unfold gIn at h
  split at h
  · rename_i ds e
    split at h
    · rename_i hc
      obtain ⟨p, vs, rfl, q, l⟩ := seqV_rd rl.mem r2 e
      refine ⟨p, vs, rfl, q, flD_rd r1 hc.1, flat_all l hc.2, ?_⟩
      rw [inV_eq r1 hc.1 l hc.2]
      exact h ρ F H _ (Ext.refl ..) rl rfl
    · exact h.elim
  · exact h.elim

/-! ### calls of what is built in -/
def CallD (X : Cx) (W : WX) (r : List V → Hp → VK → Prop) (g : List D → DS → R D) : Prop :=
  ∀ ρ F s σ H ds vs Q, Rel X.K X.mg ρ F s σ H → RdL X.K ρ F ds vs → Post X W (Rd X.K) ρ F H σ Q (g ds s) → r vs H Q
def fCall (fa : DS → R (List D)) (g : List D → DS → R D) : DS → R D := fun s => (fa s).bind g
variable {x : Str} {p pos : Pos} {e : Expr} {es : List Expr} {idn T : String} {r : List V → Hp → VK → Prop} {fa : DS → R (List D)} {g : List D → DS → R D}
theorem call_run {ta : TA} (hg : CallD X W r g) (la : Stl X W (RdL X.K) ta fa) : Stl X W (Rd X.K) (tCB r ta) (fCall fa g) := by
  intro ρ F s σ H Q rl h
  exact la ρ F s σ H _ rl (Post.bind h fun ds s1 ρ1 F1 H1 vs x1 rl1 rd1 h1 => hg ρ1 F1 s1 σ H1 ds vs Q rl1 rd1 h1)
theorem pd_callB (hc : CallR X (.builtin idn) r) (hg : CallD X W r g) (hgl : Gl X x) (hm : X.mg x = none) (hv : bootBuiltins x = some (.builtin idn)) (ha : PDA X W (e :: es) fa) (hn : x ≠ "__name__" := by decide) (hdb : (x == ("__debug__" : Str)) = false := by decide)
    (he : starEach (e :: es) X.env = (false, eval e X.env) :: starEach es X.env := by rfl) (hpl : (backTo pos (starEach es X.env)).any (·.1) = false := by rfl) : PD X W (.Call (.Name x p) (e :: es) [] pos) (fCall fa g) := by
  obtain ⟨ta, ea, la⟩ := ha
  exact ⟨_, pe_callB hc hgl hm hv ea hn hdb he hpl, call_run hg la⟩
theorem pd_callTy (hc : CallR X (.type T) r) (hg : CallD X W r g) (hgl : Gl X x) (hm : X.mg x = none) (hv : bootBuiltins x = some (.type T)) (ha : PDA X W (e :: es) fa) (hn : x ≠ "__name__" := by decide) (hdb : (x == ("__debug__" : Str)) = false := by decide)
    (he : starEach (e :: es) X.env = (false, eval e X.env) :: starEach es X.env := by rfl) (hpl : (backTo pos (starEach es X.env)).any (·.1) = false := by rfl) : PD X W (.Call (.Name x p) (e :: es) [] pos) (fCall fa g) := by
  obtain ⟨ta, ea, la⟩ := ha
  exact ⟨_, pe_callTy hc hgl hm hv ea hn hdb he hpl, call_run hg la⟩
/-- the name of a built-in type, as a value -/
theorem pd_ty {n : String} (hgl : Gl X x) (hm : X.mg x = none) (hv : bootBuiltins x = some (.type n)) (hn : x ≠ "__name__" := by decide) (hd : (x == ("__debug__" : Str)) = false := by decide) : PD X W (.Name x pos) (fC (.ty n)) :=
  pd_const (pe_bltn (v := .ty n) hgl hm hv rfl hn hd) fun _ _ => rfl

theorem rdl1 {K : PySem.W.Frag} {ρ : List Addr} {F : Hp} {d : D} {vs : List V} (r : RdL K ρ F [d] vs) : ∃ v, vs = [v] ∧ Rd K ρ F d v := by
  simp only [RdL] at r
  obtain ⟨v, t, e, r1, e2⟩ := r
  subst e2
  exact ⟨v, e, r1⟩
theorem rdl2 {K : PySem.W.Frag} {ρ : List Addr} {F : Hp} {d d2 : D} {vs : List V} (r : RdL K ρ F [d, d2] vs) : ∃ v u, vs = [v, u] ∧ Rd K ρ F d v ∧ Rd K ρ F d2 u := by
  simp only [RdL] at r
  obtain ⟨v, t, e, r1, u, t2, e2, r2, e3⟩ := r
  subst e3
  subst e2
  exact ⟨v, u, e, r1, r2⟩

noncomputable def gLen : List D → DS → R D := fun ds s => match ds with
  | [.str z] => if Pr (z.length ≤ sizeLine) then .ok (.int z.length) s else .bad
  | [d] => match seqV s d with
    | some xs => .ok (.int xs.length) s
    | none => .bad
  | _ => .bad
theorem cd_len : CallD X W (fun xs H Q => ∃ x n, xs = [x] ∧ LenV X.K x H n ∧ Q (.int n) H) gLen := by
  intro ρ F s σ H ds vs Q rl r h
  unfold gLen at h
  split at h
  · obtain ⟨v, rfl, r1⟩ := rdl1 r
    split at h
    · rename_i z hc
      cases r1
      exact ⟨_, _, rfl, ⟨hc, rfl⟩, h ρ F H _ (Ext.refl ..) rl rfl⟩
    · exact h.elim
  · obtain ⟨v, rfl, r1⟩ := rdl1 r
    split at h
    · rename_i xs e
      obtain ⟨p, us, rfl, q, l⟩ := seqV_rd rl.mem r1 e
      refine ⟨.ref p, xs.length, rfl, ?_, h ρ F H _ (Ext.refl ..) rl rfl⟩
      rcases q with q | q
      · exact .inl ⟨us, q, l.length.symm⟩
      · exact .inr ⟨us, q, l.length.symm⟩
    · exact h.elim
  · exact h.elim
/-- list(x) as a list that changes no more; as an object -/
def gList : List D → DS → R D := fun ds s => match ds with
  | [d] => match seqV s d with
    | some xs => .ok (.lst xs) s
    | none => .bad
  | _ => .bad
def gListN : List D → DS → R D := fun ds s => match ds with
  | [d] => match seqV s d with
    | some xs => .ok (.obj s.m.length) { s with m := s.m ++ [.lst xs] }
    | none => .bad
  | _ => .bad
theorem cd_list : CallD X W (fun xs H Q => ∃ p ys, xs = [.ref p] ∧ (SqL X.K H p ys ∨ SqT X.K H p ys) ∧ ∀ l, H l = none → Q (.ref l) (upd H l (.lst ys))) gList := by
  intro ρ F s σ H ds vs Q rl r h
  unfold gList at h
  split at h
  · obtain ⟨v, rfl, r1⟩ := rdl1 r
    split at h
    · rename_i xs e
      obtain ⟨p, us, rfl, q, l⟩ := seqV_rd rl.mem r1 e
      exact ⟨p, us, rfl, q, Post.lst h rl l⟩
    · exact h.elim
  · exact h.elim
theorem cd_listN : CallD X W (fun xs H Q => ∃ p ys, xs = [.ref p] ∧ (SqL X.K H p ys ∨ SqT X.K H p ys) ∧ ∀ l, H l = none → Q (.ref l) (upd H l (.lst ys))) gListN := by
  intro ρ F s σ H ds vs Q rl r h
  unfold gListN at h
  split at h
  · obtain ⟨v, rfl, r1⟩ := rdl1 r
    split at h
    · rename_i xs e
      obtain ⟨p, us, rfl, q, l⟩ := seqV_rd rl.mem r1 e
      exact ⟨p, us, rfl, q, Post.new h rl l⟩
    · exact h.elim
  · exact h.elim
def gTuple : List D → DS → R D := fun ds s => match ds with
  | [d] => match seqV s d with
    | some xs => .ok (.tup xs) s
    | none => .bad
  | _ => .bad
theorem cd_tuple : CallD X W (fun xs H Q => ∃ p ys, xs = [.ref p] ∧ ((SqL X.K H p ys ∧ ∀ l, H l = none → Q (.ref l) (upd H l (.tup ys))) ∨ (SqT X.K H p ys ∧ Q (.ref p) H))) gTuple := by
  intro ρ F s σ H ds vs Q rl r h
  unfold gTuple at h
  split at h
  · rename_i d
    obtain ⟨v, rfl, r1⟩ := rdl1 r
    split at h
    · rename_i xs e
      by_cases ht : ∃ es, d = .tup es
      · obtain ⟨es, rfl⟩ := ht
        cases e
        obtain ⟨a, us, rfl, q, l⟩ := r1
        exact ⟨a, us, rfl, .inr ⟨sqT_mono rl.mem.sub q, h ρ F H _ (Ext.refl ..) rl ⟨a, us, rfl, q, l⟩⟩⟩
      · obtain ⟨a, us, rfl, q, l⟩ := seqV_l rl.mem r1 e fun es z => ht ⟨es, z⟩
        exact ⟨a, us, rfl, .inl ⟨q, Post.tup h rl l⟩⟩
    · exact h.elim
  · exact h.elim
def gInt : List D → DS → R D := fun ds s => match ds with
  | [.int i] => .ok (.int i) s
  | [.bl b] => .ok (.int (if b then 1 else 0)) s
  | _ => .bad
theorem cd_int : CallD X W (fun xs H Q => (∃ i, xs = [.int i] ∧ Q (.int i) H) ∨ ∃ k, xs = [.bl k] ∧ Q (.int (if k then 1 else 0)) H) gInt := by
  intro ρ F s σ H ds vs Q rl r h
  unfold gInt at h
  split at h
  · obtain ⟨v, rfl, r1⟩ := rdl1 r
    cases r1
    exact .inl ⟨_, rfl, h ρ F H _ (Ext.refl ..) rl rfl⟩
  · obtain ⟨v, rfl, r1⟩ := rdl1 r
    cases r1
    exact .inr ⟨_, rfl, h ρ F H _ (Ext.refl ..) rl rfl⟩
  · exact h.elim
/-- the bools of a list of bools -/
def bls : List D → Option (List Bool)
  | [] => some []
  | .bl b :: ds => (bls ds).map (b :: ·)
  | _ :: _ => none
theorem bls_rd {K : PySem.W.Frag} {ρ : List Addr} {F : Hp} : ∀ {ds : List D} {vs : List V} {bs : List Bool}, RdL K ρ F ds vs → bls ds = some bs → vs = bs.map V.bl
  | [], _, _, r, e => by
    simp only [RdL] at r
    cases e
    exact r
  | d :: ds, _, bs, r, e => by
    simp only [RdL] at r
    obtain ⟨v, t, e1, r1, r2⟩ := r
    subst e1
    cases d with
    | bl b =>
      simp only [bls] at e
      cases q : bls ds with
      | none => rw [q] at e; cases e
      | some cs =>
        rw [q] at e
        cases e
        cases r1
        rw [bls_rd r2 q, List.map_cons]
    | _ => cases e
def gAllAny (any : Bool) : List D → DS → R D := fun ds s => match ds with
  | [d] => match lstV s d with
    | some xs => match bls xs with
      | some bs => .ok (.bl (if any then bs.any id else bs.all id)) s
      | none => .bad
    | none => .bad
  | _ => .bad
theorem cd_all : CallD X W (rAll X.K) (gAllAny false) := by
  intro ρ F s σ H ds vs Q rl r h
  unfold gAllAny at h
  split at h
  · obtain ⟨v, rfl, r1⟩ := rdl1 r
    split at h
    · rename_i xs e
      obtain ⟨p, us, rfl, q, l⟩ := lstV_rd rl.mem r1 e
      split at h
      · rename_i bs e2
        have e3 := bls_rd l e2
        subst e3
        exact ⟨p, bs, rfl, .inl (.inl q), h ρ F H _ (Ext.refl ..) rl rfl⟩
      · exact h.elim
    · exact h.elim
  · exact h.elim
theorem cd_any : CallD X W (rAny X.K) (gAllAny true) := by
  intro ρ F s σ H ds vs Q rl r h
  unfold gAllAny at h
  split at h
  · obtain ⟨v, rfl, r1⟩ := rdl1 r
    split at h
    · rename_i xs e
      obtain ⟨p, us, rfl, q, l⟩ := lstV_rd rl.mem r1 e
      split at h
      · rename_i bs e2
        have e3 := bls_rd l e2
        subst e3
        exact ⟨p, bs, rfl, .inl (.inl q), h ρ F H _ (Ext.refl ..) rl rfl⟩
      · exact h.elim
    · exact h.elim
  · exact h.elim

/-! ### isinstance of built-in types -/
def tyOf (s : DS) : D → Option String
  | .non => some "NoneType"
  | .bl _ => some "bool"
  | .int _ => some "int"
  | .str _ => some "str"
  | .tup _ => some "tuple"
  | .lst _ => some "list"
  | .obj k => match s.m[k]? with
    | some (.lst _) => some "list"
    | some (.dK _) => some "dict"
    | some (.dT _) => some "dict"
    | _ => none
  | _ => none
def isTy (t c : String) : Option Bool := if (c = "int" ∨ c = "bool" ∨ c = "str" ∨ c = "list" ∨ c = "tuple" ∨ c = "dict") then some (decide (t = c) || (decide (t = "bool") && decide (c = "int"))) else none
def gIsi : List D → DS → R D := fun ds s => match ds with
  | [d, .ty c] => match tyOf s d with
    | some t => match isTy t c with
      | some b => .ok (.bl b) s
      | none => .bad
    | none => .bad
  | _ => .bad
theorem kits : (["NoneType", "bool", "int", "str", "tuple", "list", "dict"] : List String).all (fun t => (["int", "bool", "str", "list", "tuple", "dict"] : List String).all fun c => decide (kitB t c = isTy t c)) = true := by decide +kernel
theorem tyOf_mem {s : DS} {d : D} {t : String} (h : tyOf s d = some t) : t ∈ (["NoneType", "bool", "int", "str", "tuple", "list", "dict"] : List String) := by
  unfold tyOf at h
  split at h <;> first | (cases h; decide) | (split at h <;> first | (cases h; decide) | cases h) | cases h
theorem tyOf_rd {K : PySem.W.Frag} {mg : Str → Option Value} {ρ : List Addr} {F H : Hp} {s : DS} {d : D} {v : V} {t : String} (rl : MRel K mg ρ F s.m H) (r : Rd K ρ F d v) (h : tyOf s d = some t) : TyX K H v (.type t) := by
  cases d with
  | non => cases h; cases r; exact .base .non
  | bl b => cases h; cases r; exact .base (.bl b)
  | int b => cases h; cases r; exact .base (.int b)
  | str b => cases h; cases r; exact .base (.str b)
  | tup ds =>
    cases h
    obtain ⟨a, vs, rfl, q, _⟩ := r
    rcases q with (q | ⟨o, q⟩) | ⟨o, its, n, q, q2, _⟩
    · exact .base (.tup (rl.sub _ _ q))
    · exact .fTuple (rl.sub _ _ q)
    · exact .kTuple q q2
  | lst ds =>
    cases h
    obtain ⟨a, vs, rfl, q, _⟩ := r
    exact .base (.lst (rl.sub _ _ q))
  | obj k =>
    unfold tyOf at h
    simp only at h
    split at h
    · rename_i e
      cases h
      obtain ⟨a, rfl, _, _, vs, q, _⟩ := Rel.objAt rl r e trivial
      exact .base (.lst q)
    · rename_i e
      cases h
      obtain ⟨a, rfl, _, _, vs, q, _⟩ := Rel.objAt rl r e trivial
      exact .base (.dK q)
    · rename_i e
      cases h
      obtain ⟨a, rfl, _, _, vs, q, _⟩ := Rel.objAt rl r e trivial
      exact .base (.dT q)
    · cases h
  | _ => cases h
theorem cd_isi : CallD X W (rIsi X.K) gIsi := by
  intro ρ F s σ H ds vs Q rl r h
  unfold gIsi at h
  split at h
  · rename_i d c
    obtain ⟨v, u, rfl, r1, r2⟩ := rdl2 r
    split at h
    · rename_i t e
      split at h
      · rename_i b e2
        cases r2
        have hc : c ∈ (["int", "bool", "str", "list", "tuple", "dict"] : List String) := by
          unfold isTy at e2
          split at e2
          · rename_i z
            rcases z with z | z | z | z | z | z <;> subst z <;> decide
          · cases e2
        have k := kits
        rw [List.all_eq_true] at k
        have k1 := k t (tyOf_mem e)
        rw [List.all_eq_true] at k1
        have k2 := of_decide_eq_true (k1 c hc)
        exact ⟨v, .ty c, .type t, .type c, b, rfl, .ty c, tyOf_rd rl.mem r1 e, kit_ty (k2.trans e2), h ρ F H _ (Ext.refl ..) rl rfl⟩
      · exact h.elim
    · exact h.elim
  · exact h.elim
end
end DL

/-! Rules: statements. -/
namespace DL
open PySem L2

section
variable {X : Cx} {W : WX} {e : Expr} {st : Stmt} {rest : List Stmt} {pos : Pos} {f g : DS → R Fl}
/-! ### blocks -/
def fNx : DS → R Fl := fun s => .ok .nx s
def seqR (r : R Fl) (g : DS → R Fl) (_ : Tag g := .mk) : R Fl := match r with
  | .ok .nx s1 => g s1
  | r => r
@[simp] theorem seqR_nx {s : DS} {g : DS → R Fl} : seqR (.ok .nx s) g = g s := rfl
@[simp] theorem seqR_rt {s : DS} {d : D} {g : DS → R Fl} : seqR (.ok (.rt d) s) g = .ok (.rt d) s := rfl
@[simp] theorem seqR_bk {s : DS} {g : DS → R Fl} : seqR (.ok .bk s) g = .ok .bk s := rfl
@[simp] theorem seqR_ct {s : DS} {g : DS → R Fl} : seqR (.ok .ct s) g = .ok .ct s := rfl
@[simp] theorem seqR_ex {s : DS} {e : Ex} {g : DS → R Fl} : seqR (.ex e s) g = .ex e s := rfl
@[simp] theorem seqR_bad {g : DS → R Fl} : seqR .bad g = .bad := rfl
def fSeq (f g : DS → R Fl) : DS → R Fl := fun s => seqR (f s) g
theorem seq_run {t u : TS} (lf : StlS X W t f) (lg : StlS X W u g) : StlS X W (tSeq t u) (fSeq f g) := by
  intro ρ F s σ H E rl h
  refine lf ρ F s σ H _ rl ?_
  unfold fSeq seqR at h
  cases q : f s with
  | bad => rw [q] at h; exact h
  | ok fl s1 =>
    rw [q] at h
    cases fl with
    | nx => exact fun ρ' F' H' σ' x rl' => lg ρ' F' s1 σ' H' E rl' (PostS.ext h x)
    | rt d => exact h
    | bk => exact h
    | ct => exact h
  | ex e s1 => rw [q] at h; exact h
theorem pdss_nil : PDss X W [] fNx := ⟨_, pss_nil, fun ρ F s σ H E rl h => h ρ F H σ (Ext.refl ..) rl⟩
theorem pdss_cons (h1 : PDs X W st f) (h2 : PDss X W rest g) : PDss X W (st :: rest) (fSeq f g) := by
  obtain ⟨t, e1, l1⟩ := h1
  obtain ⟨u, e2, l2⟩ := h2
  exact ⟨_, pss_cons e1 e2, seq_run l1 l2⟩
theorem pdss_one (h1 : PDs X W st f) : PDss X W [st] f := let ⟨t, e1, l1⟩ := h1; ⟨t, pss_one e1, l1⟩
theorem pds_pass : PDs X W (.Pass pos) fNx := ⟨_, ps_pass, fun ρ F s σ H E rl h => h ρ F H σ (Ext.refl ..) rl⟩
def fCt : DS → R Fl := fun s => .ok .ct s
theorem pds_continue : PDs X W (.Continue pos) fCt := ⟨_, ps_continue, fun ρ F s σ H E rl h => h ρ F H σ (Ext.refl ..) rl⟩
theorem pds_doc {x j p1} : PDs X W (.Expr (.Constant (.str x) j p1) pos) fNx := ⟨_, ps_doc, fun ρ F s σ H E rl h => h ρ F H σ (Ext.refl ..) rl⟩
def fDrop (f : DS → R D) : DS → R Fl := fun s => (f s).bind fun _ s1 => .ok .nx s1
theorem pds_expr {f : DS → R D} (h : PD X W e f) (hs : swapsWith e none pos.line X.env = pure false := by rfl) : PDs X W (.Expr e pos) (fDrop f) := by
  obtain ⟨t, e1, l⟩ := h
  refine ⟨_, ps_expr e1 hs, fun ρ F s σ H E rl h => l ρ F s σ H _ rl (PostS.bind h fun d s1 ρ1 F1 H1 v x1 rl1 rd1 h1 => ?_)⟩
  exact h1 ρ1 F1 H1 σ (Ext.refl ..) rl1
def fRet (f : DS → R D) : DS → R Fl := fun s => (f s).bind fun d s1 => .ok (.rt d) s1
theorem pds_ret {f : DS → R D} (h : PD X W e f) : PDs X W (.Return (some e) pos) (fRet f) := by
  obtain ⟨t, e1, l⟩ := h
  refine ⟨_, ps_ret e1, fun ρ F s σ H E rl h => l ρ F s σ H _ rl (PostS.bind h fun d s1 ρ1 F1 H1 v x1 rl1 rd1 h1 => ?_)⟩
  exact h1 ρ1 F1 H1 v (Ext.refl ..) rl1.mem rd1
def fRetN : DS → R Fl := fun s => .ok (.rt .non) s
theorem pds_retN : PDs X W (.Return none pos) fRetN := ⟨_, ps_retN, fun ρ F s σ H E rl h => h ρ F H .non (Ext.refl ..) rl.mem rfl⟩
def fIfS (c : DS → R Bool) (f g : DS → R Fl) : DS → R Fl := fun s => (c s).bind fun b s1 => if b = true then f s1 else g s1
theorem pds_if {c : Expr} {a b : List Stmt} {fc : DS → R Bool} (hc : PDT X W c fc) (ha : PDss X W a f) (hb : PDss X W b g) : PDs X W (.If c a b pos) (fIfS fc f g) := by
  obtain ⟨t, e1, l⟩ := hc
  obtain ⟨ta, ea, la⟩ := ha
  obtain ⟨tb, eb, lb⟩ := hb
  refine ⟨_, ps_if e1 ea eb, fun ρ F s σ H E rl h => l ρ F s σ H _ rl (PostS.bind h fun b s1 ρ1 F1 H1 v x1 rl1 rd1 h1 => ?_)⟩
  subst rd1
  cases v with
  | true => rw [if_pos rfl] at h1 ⊢; exact la ρ1 F1 s1 σ H1 E rl1 h1
  | false => rw [if_neg Bool.false_ne_true] at h1 ⊢; exact lb ρ1 F1 s1 σ H1 E rl1 h1

/-! ### targets -/
theorem SRel.set {K : PySem.W.Frag} {ρ : List Addr} {F : Hp} {g : List (Option D)} {σ : St} {d : D} {v : V} (h : SRel K ρ F g σ) (i : Nat) (r : Rd K ρ F d v) : SRel K ρ F (g.set i (some d)) (σ.set i (some v)) := by
  refine ⟨by simp [h.len], fun j x e => ?_⟩
  by_cases hj : j = i
  · subst hj
    have hl : j < g.length := by
      have := (List.getElem?_eq_some_iff.mp e).1
      simpa using this
    rw [List.getElem?_set_self hl] at e
    cases e
    exact ⟨v, List.getElem?_set_self (by rw [← h.len]; exact hl), r⟩
  · rw [List.getElem?_set_ne (Ne.symm hj)] at e
    obtain ⟨u, e1, r1⟩ := h.at_ j x e
    exact ⟨u, by rw [List.getElem?_set_ne (Ne.symm hj)]; exact e1, r1⟩
/-- one name, or several that take a tuple's items -/
inductive Tg where
  | one (i : Nat) | many (is : List Nat) | nest (i : Nat) (is : List Nat)
def setAll : List Nat → List D → List (Option D) → Option (List (Option D))
  | [], [], g => some g
  | i :: is, d :: ds, g => setAll is ds (g.set i (some d))
  | _, _, _ => none
def Tg.run (t : Tg) (d : D) (s : DS) : R Unit := match t with
  | .one i => .ok () { s with g := s.g.set i (some d) }
  | .many is => match d with
    | .tup ds => match setAll is ds s.g with
      | some g => .ok () { s with g := g }
      | none => .bad
    | _ => .bad
  | .nest i is => match d with
    | .tup [c, .tup ds] => match setAll is ds (s.g.set i (some c)) with
      | some g => .ok () { s with g := g }
      | none => .bad
    | _ => .bad
def Tg.mem : Tg → List Nat
  | .one i => [i]
  | .many is => is
  | .nest i is => i :: is
def setV : List Nat → List V → St → St
  | i :: is, v :: vs, σ => setV is vs (σ.set i (some v))
  | _, _, σ => σ
def gNms : List Nat → TGs
  | [] => gNil
  | i :: is => gCons (gName i) (gNms is)
def Tg.tg (K : PySem.W.Frag) : Tg → TG
  | .one i => gName i
  | .many is => gTup K is.length (gNms is)
  | .nest i is => gTup K 2 (gCons (gName i) (gCons (gTup K is.length (gNms is)) gNil))
def PDG (X : Cx) (tg : Expr) (t : Tg) : Prop := PG X tg (t.tg X.K)
/-- behind a target: the slots turned only at its places -/
theorem setAll_run {K : PySem.W.Frag} {ρ : List Addr} {F : Hp} : ∀ {is : List Nat} {ds : List D} {vs : List V} {g g' : List (Option D)} {σ : St}, setAll is ds g = some g' → RdL K ρ F ds vs → SRel K ρ F g σ →
    vs.length = is.length ∧ SRel K ρ F g' (setV is vs σ) ∧ ∀ (H : Hp) (Q : St → Hp → Prop), Q (setV is vs σ) H → gNms is vs σ H Q
  | [], [], vs, g, g', σ, e, r, h => by
    simp only [RdL] at r
    subst r
    cases e
    exact ⟨rfl, h, fun H Q q => ⟨rfl, q⟩⟩
  | i :: is, d :: ds, vs, g, g', σ, e, r, h => by
    simp only [RdL] at r
    obtain ⟨v, t, e1, r1, r2⟩ := r
    subst e1
    obtain ⟨h1, h2, h3⟩ := setAll_run (is := is) (ds := ds) (vs := t) (g := g.set i (some d)) (g' := g') (σ := σ.set i (some v)) e r2 (h.set i r1)
    exact ⟨by simp [h1], h2, fun H Q q => ⟨v, t, rfl, h3 H Q q⟩⟩
  | [], _ :: _, _, _, _, _, e, _, _ => by cases e
  | _ :: _, [], _, _, _, _, e, _, _ => by cases e
theorem Tg.go {K : PySem.W.Frag} {mg : Str → Option Value} {t : Tg} {d : D} {v : V} {s : DS} {ρ : List Addr} {F H : Hp} {σ : St} (rl : Rel K mg ρ F s σ H) (r : Rd K ρ F d v) {s' : DS} (e : t.run d s = .ok () s') :
    ∃ vs, Rel K mg ρ F s' (setV t.mem vs σ) H ∧ ∀ Q : St → Hp → Prop, Q (setV t.mem vs σ) H → t.tg K v σ H Q := by
  cases t with
  | one i =>
    cases e
    exact ⟨[v], ⟨rl.mem, rl.slo.set i r⟩, fun Q q => q⟩
  | many is =>
    unfold Tg.run at e
    simp only at e
    cases d with
    | tup ds =>
      simp only at e
      cases q : setAll is ds s.g with
      | none => rw [q] at e; cases e
      | some g =>
        rw [q] at e
        cases e
        obtain ⟨a, vs, rfl, q1, l⟩ := r
        obtain ⟨h1, h2, h3⟩ := setAll_run q l rl.slo
        exact ⟨vs, ⟨rl.mem, h2⟩, fun Q q => ⟨a, vs, rfl, sqT_mono rl.mem.sub q1, h1, h3 H Q q⟩⟩
    | _ => cases e
  | nest i is =>
    unfold Tg.run at e
    simp only at e
    split at e
    · rename_i c ds
      cases q : setAll is ds (s.g.set i (some c)) with
      | none => rw [q] at e; cases e
      | some g =>
        rw [q] at e
        cases e
        obtain ⟨a, us, rfl, q1, l1⟩ := r
        obtain ⟨u1, r1, rfl, k1, l2⟩ := l1
        obtain ⟨u2, r2, rfl, k2, l3⟩ := l2
        cases l3
        obtain ⟨b, vs, rfl, q2, l⟩ := k2
        obtain ⟨h1, h2, h3⟩ := setAll_run q l (rl.slo.set i k1)
        exact ⟨u1 :: vs, ⟨rl.mem, h2⟩, fun Q z => ⟨a, _, rfl, sqT_mono rl.mem.sub q1, rfl, u1, _, rfl, _, _, rfl, b, vs, rfl, sqT_mono rl.mem.sub q2, h1, h3 H _ ⟨rfl, z⟩⟩⟩
    · cases e
theorem Tg.noEx {t : Tg} {d : D} {s s' : DS} {x : Ex} : t.run d s ≠ .ex x s' := by
  intro h
  cases t with
  | one i => cases h
  | many is =>
    unfold Tg.run at h
    simp only at h
    split at h
    · split at h <;> cases h
    · cases h
  | nest i is =>
    unfold Tg.run at h
    simp only at h
    split at h
    · split at h <;> cases h
    · cases h
/-- target = value -/
def fAsg (f : DS → R D) (t : Tg) : DS → R Fl := fun s => (f s).bind fun d s1 => (t.run d s1).bind fun _ s2 => .ok .nx s2
theorem asg_run {te : TE} {fd : DS → R D} {t : Tg} (l : Stl X W (Rd X.K) te fd) : StlS X W (tAsg te (t.tg X.K)) (fAsg fd t) := by
  intro ρ F s σ H E rl h
  refine l ρ F s σ H _ rl (PostS.bind h fun d s1 ρ1 F1 H1 v x1 rl1 rd1 h1 => ?_)
  cases q : t.run d s1 with
  | bad => rw [q] at h1; exact h1.elim
  | ex x s2 => exact absurd q Tg.noEx
  | ok u s2 =>
    rw [q] at h1
    obtain ⟨vs, rl2, k⟩ := Tg.go rl1 rd1 q
    exact k E.nx (h1 ρ1 F1 H1 _ (Ext.refl ..) rl2)
theorem pds_set {i : Nat} {x : Str} {pos' : Pos} {fd : DS → R D} (hN : X.N.Nodup) (hi : X.N[i]? = some x) (hx : Loc X.env.scope x) (he : PD X W e fd) (hs : swapsWith e (some (.Name x pos')) pos.line X.env = pure false := by rfl) (hf : X.fn x = true ∨ X.env.scope.names.lookup x = some .local := by first | exact .inl rfl | exact .inr rfl | assumption) :
    PDs X W (.Assign [.Name x pos'] e pos) (fAsg fd (.one i)) := by
  obtain ⟨t, e1, l⟩ := he
  exact ⟨_, ps_set hN hi hx e1 hs hf, asg_run (t := .one i) l⟩
theorem pds_asg {tg : Expr} {fd : DS → R D} {t : Tg} (he : PD X W e fd) (hg : PDG X tg t) (hs : swapsWithSole [tg] e pos.line X.env = pure false := by rfl) (hw : swappedStores [tg] e X.env = pure none := by rfl)
    (h1 : (assignEach [tg] X.env).map (·.2) = [assign tg X.env] := by rfl) : PDs X W (.Assign [tg] e pos) (fAsg fd t) := by
  obtain ⟨te, e1, l⟩ := he
  exact ⟨_, ps_asg e1 hg hs hw h1, asg_run l⟩
/-- x, y = a, b: two names of the block's own -/
def fPar (i j : Nat) (fa : DS → R (List D)) : DS → R Fl := fun s => (fa s).bind fun ds s1 => match ds with
  | [a, b] => .ok .nx { s1 with g := (s1.g.set i (some a)).set j (some b) }
  | _ => .bad
theorem pds_par {i j : Nat} {x y : Str} {a b : Expr} {px py pt : Pos} {kt k2 pt2} {fa : DS → R (List D)} (hc : X.calm = true) (hN : X.N.Nodup) (hi : X.N[i]? = some x) (hj : X.N[j]? = some y) (hij : i ≠ j)
    (hx : X.env.scope.names.lookup x = some .local) (hy : X.env.scope.names.lookup y = some .local) (ha : PDA X W [a, b] fa)
    (hw : swappedStores [.Tuple [.Name x px, .Name y py] kt pt] (.Tuple [a, b] k2 pt2) X.env = pure (some [x, y]) := by rfl)
    (hs : swapsWithSole [.Tuple [.Name x px, .Name y py] kt pt] (.Tuple [a, b] k2 pt2) pos.line X.env = pure false := by rfl) :
    PDs X W (.Assign [.Tuple [.Name x px, .Name y py] kt pt] (.Tuple [a, b] k2 pt2) pos) (fPar i j fa) := by
  obtain ⟨ta, ea, l⟩ := ha
  refine ⟨_, ps_par hc hN hi hj hij hx hy ea hw hs, fun ρ F s σ H E rl h => l ρ F s σ H _ rl (PostS.bind h fun ds s1 ρ1 F1 H1 vs x1 rl1 rd1 h1 => ?_)⟩
  split at h1
  · rename_i d1 d2
    obtain ⟨v1, vs1, rfl, r1, q1⟩ := rd1
    obtain ⟨v2, vs2, rfl, r2, q2⟩ := q1
    cases q2
    exact ⟨v1, v2, rfl, h1 ρ1 F1 H1 _ (Ext.refl ..) ⟨rl1.mem, (rl1.slo.set i r1).set j r2⟩⟩
  · exact h1.elim
theorem pdg_name {i : Nat} {x : Str} (hN : X.N.Nodup) (hi : X.N[i]? = some x) (hx : Loc X.env.scope x) (hf : X.fn x = true ∨ X.env.scope.names.lookup x = some .local := by first | exact .inl rfl | exact .inr rfl | assumption) : PDG X (.Name x pos) (.one i) := pg_name hN hi hx hf
theorem pdg_tup {es : List Expr} {k : Nat} {is : List Nat} (hc : X.calm = true) (h : PGs X es (gNms is)) (hn : (assignEach es X.env).length = is.length := by rfl) (hst : (assignEach es X.env).findIdx? (·.1) = none := by rfl) : PDG X (.Tuple es k pos) (.many is) := pg_tup hc h hn hst

/-! ### name op= e -/
def fAug (i : Nat) (f : DS → R D) (g : D → D → DS → R D) : DS → R Fl := fun s => match s.g[i]? with
  | some (some x) => (f s).bind fun y s1 => (g x y s1).bind fun z s2 => .ok .nx { s2 with g := s2.g.set i (some z) }
  | _ => .bad
def IpD (X : Cx) (W : WX) (r : TIp) (g : D → D → DS → R D) : Prop := OpD X W r g
theorem pds_aug {i : Nat} {x : Str} {op : Operator} {ti : TIp} {pos' : Pos} {fd : DS → R D} {gd : D → D → DS → R D} (hN : X.N.Nodup) (hi : X.N[i]? = some x) (hx : Loc X.env.scope x) (he : PD X W e fd) (ho : PIp X op ti) (hg : OpD X W ti gd)
    (hf : X.fn x = true ∨ X.env.scope.names.lookup x = some .local := by first | exact .inl rfl | exact .inr rfl | assumption) : PDs X W (.AugAssign (.Name x pos') op e pos) (fAug i fd gd) := by
  obtain ⟨t, e1, l⟩ := he
  refine ⟨_, ps_aug hN hi hx e1 ho hf, fun ρ F s σ H E rl h => ?_⟩
  unfold fAug at h
  split at h
  · rename_i d q
    obtain ⟨v, e2, r⟩ := rl.slo.at_ i d q
    refine ⟨v, e2, l ρ F s σ H _ rl (PostS.bind h fun y s1 ρ1 F1 H1 u x1 rl1 rd1 h1 => ?_)⟩
    refine hg ρ1 F1 s1 σ H1 d y v u _ rl1 (r.ext x1) rd1 (PostS.bind h1 fun z s2 ρ2 F2 H2 w x2 rl2 rd2 h2 => ?_)
    exact h2 ρ2 F2 H2 _ (Ext.refl ..) ⟨rl2.mem, rl2.slo.set i rd2⟩
  · exact h.elim
theorem pip_of {op : Operator} {r : R2} (ho : OpR X (inplaceOp op) r) : PIp X op r := fun pins s σ H x y v u Q I r1 r2 h => ho pins s σ H x y v u Q I r1 r2 h

/-! ### o[i] = e -/
def gSetL : D → D → D → DS → R Unit := fun o i v s => match o, i with
  | .obj k, .int j => match objL s k with
    | some ds => match ixN ds.length j with
      | some n => .ok () { s with m := s.m.set k (.lst (ds.set n v)) }
      | none => .bad
    | none => .bad
  | _, _ => .bad
def fSetIx (f fo fi : DS → R D) (g : D → D → D → DS → R Unit) : DS → R Fl := fun s => (f s).bind fun v s1 => (fo s1).bind fun o s2 => (fi s2).bind fun i s3 => (g o i v s3).bind fun _ s4 => .ok .nx s4
def SetD (X : Cx) (W : WX) (t : TSet) (g : D → D → D → DS → R Unit) : Prop :=
  ∀ ρ F s σ H o i d ov iv v (Q : Hp → Prop), Rel X.K X.mg ρ F s σ H → Rd X.K ρ F o ov → Rd X.K ρ F i iv → Rd X.K ρ F d v → Post X W (fun _ _ _ (_ : Unit) => True) ρ F H σ (fun _ H' => Q H') (g o i d s) → t ov iv v H Q
theorem setd_list : SetD X W rSetL gSetL := by
  intro ρ F s σ H o i d ov iv v Q rl r1 r2 r3 h
  unfold gSetL at h
  split at h
  · rename_i k j
    split at h
    · rename_i ds e
      split at h
      · rename_i n e2
        obtain ⟨a, rfl, ha, fa, vs, hl, l⟩ := Rel.objAt rl.mem r1 (objL_eq e) trivial
        refine ⟨a, vs, j, n, rfl, r2, hl, by rw [l.length]; exact e2, ?_⟩
        obtain ⟨m, x⟩ := rl.mem.set (n := .lst (ds.set n d)) (o := .lst (vs.set n v)) ha (objL_eq e) trivial ⟨_, upd_same, RdL.set r3 n l⟩
        exact h _ _ _ () x ⟨m, rl.slo.ext x⟩ trivial
      · exact h.elim
    · exact h.elim
  · exact h.elim
theorem pds_setIx {o i : Expr} {p2 : Pos} {f fo fi : DS → R D} {t : TSet} {g : D → D → D → DS → R Unit} (he : PD X W e f) (ho : PD X W o fo) (hi : PD X W i fi) (hset : PSet X t) (hg : SetD X W t g)
    (ha : ∀ v, assign (.Subscript o i p2) X.env v = (do
      let ov ← holding [v] (eval o X.env)
      let iv ← holding [v, ov] (eval i X.env)
      standAt p2
      holding [v, ov, iv] (setItem ov iv v)
      release [v, ov, iv] []) := by intro _; rfl)
    (hs : swapsWithSole [.Subscript o i p2] e pos.line X.env = pure false := by rfl) (hw : swappedStores [.Subscript o i p2] e X.env = pure none := by rfl)
    (h1 : (assignEach [.Subscript o i p2] X.env).map (·.2) = [assign (.Subscript o i p2) X.env] := by rfl) : PDs X W (.Assign [.Subscript o i p2] e pos) (fSetIx f fo fi g) := by
  obtain ⟨te, e1, l1⟩ := he
  obtain ⟨to, e2, l2⟩ := ho
  obtain ⟨ti, e3, l3⟩ := hi
  refine ⟨_, ps_asg e1 (pg_sub e2 e3 hset ha) hs hw h1, fun ρ F s σ H E rl h => l1 ρ F s σ H _ rl (PostS.bind h fun v s1 ρ1 F1 H1 vv x1 rl1 rd1 h1 => ?_)⟩
  refine l2 ρ1 F1 s1 σ H1 _ rl1 (PostS.bind h1 fun ov s2 ρ2 F2 H2 ovv x2 rl2 rd2 h2 => ?_)
  refine l3 ρ2 F2 s2 σ H2 _ rl2 (PostS.bind h2 fun iv s3 ρ3 F3 H3 ivv x3 rl3 rd3 h3 => ?_)
  refine hg ρ3 F3 s3 σ H3 ov iv v ovv ivv vv _ rl3 (rd2.ext x3) rd3 ((rd1.ext x2).ext x3) (PostS.bind h3 fun _ s4 ρ4 F4 H4 _ x4 rl4 _ h4 => ?_)
  exact h4 ρ4 F4 H4 σ (Ext.refl ..) rl4

/-! ### methods of what is built in -/
def MtD (X : Cx) (W : WX) (r : V → List V → Hp → VK → Prop) (g : D → List D → DS → R D) : Prop :=
  ∀ ρ F s σ H x d vs ds Q, Rel X.K X.mg ρ F s σ H → Rd X.K ρ F d x → RdL X.K ρ F ds vs → Post X W (Rd X.K) ρ F H σ Q (g d ds s) → r x vs H Q
def fMt (ty : DS → D → Bool) (fo : DS → R D) (fa : DS → R (List D)) (g : D → List D → DS → R D) : DS → R D := fun s => (fo s).bind fun o s1 => if ty s1 o = true then (fa s1).bind fun as s2 => g o as s2 else .bad
def isLst (s : DS) (d : D) : Bool := (lstV s d).isSome
theorem isLst_ty {K : PySem.W.Frag} {mg : Str → Option Value} {ρ : List Addr} {F H : Hp} {s : DS} {d : D} {v : V} (rl : MRel K mg ρ F s.m H) (r : Rd K ρ F d v) (h : isLst s d = true) : tyV K "list" v H := by
  obtain ⟨ds, e⟩ := Option.isSome_iff_exists.mp h
  obtain ⟨a, vs, rfl, q, _⟩ := lstV_rd rl r e
  exact Or.inl ⟨rfl, vs, Or.inl (Or.inl q)⟩
noncomputable def gAppend : D → List D → DS → R D := fun o as s => match o, as with
  | .obj k, [y] => match objL s k with
    | some ds => if Pr (ds.length < sizeLine) then .ok .non { s with m := s.m.set k (.lst (ds ++ [y])) } else .bad
    | none => .bad
  | _, _ => .bad
theorem md_append : MtD X W rAppend gAppend := by
  intro ρ F s σ H x d vs ds Q rl r1 r2 h
  unfold gAppend at h
  split at h
  · rename_i k y
    obtain ⟨v, rfl, r3⟩ := rdl1 r2
    split at h
    · rename_i es e
      split at h
      · rename_i hc
        obtain ⟨a, rfl, ha, fa, us, hl, l⟩ := Rel.objAt rl.mem r1 (objL_eq e) trivial
        refine ⟨a, us, v, rfl, rfl, hl, by rw [l.length]; exact hc, ?_⟩
        obtain ⟨m, x⟩ := rl.mem.set (n := .lst (es ++ [y])) (o := .lst (us ++ [v])) ha (objL_eq e) trivial ⟨_, upd_same, l.append (RdL.one r3)⟩
        exact h _ _ _ _ x ⟨m, rl.slo.ext x⟩ rfl
      · exact h.elim
    · exact h.elim
  · exact h.elim
noncomputable def gExtend : D → List D → DS → R D := fun o as s => match o, as with
  | .obj k, [y] => match objL s k, lstV s y with
    | some ds, some es => if Pr (ds.length + es.length ≤ sizeLine) then .ok .non { s with m := s.m.set k (.lst (ds ++ es)) } else .bad
    | _, _ => .bad
  | _, _ => .bad
theorem md_extend : MtD X W rExtend gExtend := by
  intro ρ F s σ H x d vs ds Q rl r1 r2 h
  unfold gExtend at h
  split at h
  · rename_i k y
    obtain ⟨v, rfl, r3⟩ := rdl1 r2
    split at h
    · rename_i es zs e e2
      split at h
      · rename_i hc
        obtain ⟨b, ws, rfl, hb, lb⟩ := lstV_rd rl.mem r3 e2
        obtain ⟨a, rfl, ha, fa, us, hl, l⟩ := Rel.objAt rl.mem r1 (objL_eq e) trivial
        refine ⟨a, b, us, ws, rfl, rfl, hl, hb, by rw [l.length, lb.length]; exact hc, ?_⟩
        obtain ⟨m, x⟩ := rl.mem.set (n := .lst (es ++ zs)) (o := .lst (us ++ ws)) ha (objL_eq e) trivial ⟨_, upd_same, l.append lb⟩
        exact h _ _ _ _ x ⟨m, rl.slo.ext x⟩ rfl
      · exact h.elim
    · exact h.elim
  · exact h.elim
theorem pd_lstM {o : Expr} {es : List Expr} {r : V → List V → Hp → VK → Prop} {g : D → List D → DS → R D} {fo : DS → R D} {fa : DS → R (List D)}
    (hb : ∀ {to : TE} {t : TA}, PE X o to → PA X (e :: es) t → PE X st' (tBM X.K "list" r to t)) (hg : MtD X W r g) (ho : PD X W o fo) (ha : PDA X W (e :: es) fa) : PD X W st' (fMt isLst fo fa g) := by
  obtain ⟨t, e1, l⟩ := ho
  obtain ⟨t2, e2, l2⟩ := ha
  refine ⟨_, hb e1 e2, fun ρ F s σ H Q rl h => l ρ F s σ H _ rl (h.bind fun d s1 ρ1 F1 H1 v x1 rl1 rd1 h1 => ?_)⟩
  split at h1
  · rename_i hc
    refine ⟨isLst_ty rl1.mem rd1 hc, l2 ρ1 F1 s1 σ H1 _ rl1 (Post.bind h1 fun ds s2 ρ2 F2 H2 vs x2 rl2 rd2 h2 => ?_)⟩
    exact hg ρ2 F2 s2 σ H2 v d vs ds Q rl2 (rd1.ext x2) rd2 h2
  · exact h1.elim

/-! ### an object that changes no more -/
def frzG (s : DS) : D → Option (D × List MO)
  | .obj k => match objL s k with
    | some ds => some (.lst ds, s.m.set k .gone)
    | none => none
  | _ => none
theorem frz_run {ρ : List Addr} {F H : Hp} {s : DS} {σ : St} {d d' : D} {v : V} {m' : List MO} (rl : Rel X.K X.mg ρ F s σ H) (r : Rd X.K ρ F d v) (h : frzG s d = some (d', m')) :
    ∃ F', Ext ρ F H ρ F' H ∧ MRel X.K X.mg ρ F' m' H ∧ Rd X.K ρ F' d' v := by
  unfold frzG at h
  split at h
  · rename_i k
    split at h
    · rename_i ds e
      cases h
      obtain ⟨a, rfl, ha, fa, vs, hl, l⟩ := Rel.objAt rl.mem r (objL_eq e) trivial
      obtain ⟨m, x⟩ := rl.mem.freeze ha (objL_eq e) trivial hl
      exact ⟨_, x, m, ⟨a, vs, rfl, upd_same, l.ext x⟩⟩
    · cases h
  · cases h
/-- the value of a name, from now on without change -/
def fVarZ (i : Nat) : DS → R D := fun s => match s.g[i]? with
  | some (some d) => match frzG s d with
    | some (d', m') => .ok d' ⟨s.g.set i (some d'), m'⟩
    | none => .bad
  | _ => .bad
theorem pd_varZ (i : Nat) {x : Str} {pos : Pos} (h : PE X (.Name x pos) (tVar i)) : PD X W (.Name x pos) (fVarZ i) := by
  refine ⟨_, h, fun ρ F s σ H Q rl h => ?_⟩
  unfold fVarZ at h
  split at h
  · rename_i d q
    obtain ⟨v, e1, r⟩ := rl.slo.at_ i d q
    split at h
    · rename_i d' m' e2
      obtain ⟨F', x, m, r'⟩ := frz_run rl r e2
      refine ⟨v, e1, h ρ F' H v x ⟨m, ?_⟩ r'⟩
      have z := (rl.slo.ext x).set i r'
      rwa [show σ.set i (some v) = σ from by
        apply List.ext_getElem?
        intro j
        by_cases hj : j = i
        · subst hj
          rw [List.getElem?_set_self (List.getElem?_eq_some_iff.mp e1).1, e1]
        · rw [List.getElem?_set_ne (Ne.symm hj)]] at z
    · exact h.elim
  · exact h.elim
end
end DL

/-! Rules: loops, comprehensions. -/
namespace DL
open PySem L2

section
variable {X : Cx} {W : WX} {e : Expr} {pos : Pos}

/-! ### what is walked -/
/-- J walks its, from (ρ0, F0, H0) on, as long as P holds of the objects -/
structure JOk (K : PySem.W.Frag) (mg : Str → Option Value) (P : List MO → Prop) (its : List D) (ρ0 : List Addr) (F0 H0 : Hp) (J : It) : Prop where
  stop : ∀ ρ F H μ, Ext ρ0 F0 H0 ρ F H → MRel K mg ρ F μ H → P μ → J.stop its.length H
  go : ∀ (i : Nat) d, its[i]? = some d → ∀ ρ F H μ, Ext ρ0 F0 H0 ρ F H → MRel K mg ρ F μ H → P μ →
    J.go i H ∧ ∀ x H', J.yld i H x H' → ∃ F', Ext ρ F H ρ F' H' ∧ MRel K mg ρ F' μ H' ∧ Rd K ρ F' d x
/-- what is walked, and what must stay -/
abbrev Wk := List D × (List MO → Bool)
def PostI (X : Cx) (W : WX) (ρ : List Addr) (F H : Hp) (σ : St) (Rr : It → Hp → Prop) : R Wk → Prop
  | .bad => False
  | .ok w s' => ∀ ρ' F' H' J, Ext ρ F H ρ' F' H' → Rel X.K X.mg ρ' F' s' σ H' → JOk X.K X.mg (fun μ => w.2 μ = true) w.1 ρ' F' H' J → Rr J H'
  | .ex e s' => ∀ ρ' F' H' cls d, Ext ρ F H ρ' F' H' → Rel X.K X.mg ρ' F' s' σ H' → ExR X.K X.mg ρ' F' H' e cls d → W cls d σ H'
def StlI (X : Cx) (W : WX) (t : TI) (f : DS → R Wk) : Prop := ∀ ρ F s σ H Rr, Rel X.K X.mg ρ F s σ H → PostI X W ρ F H σ Rr (f s) → t σ H Rr
def PDI (X : Cx) (W : WX) (tg e : Expr) (f : DS → R Wk) : Prop := ∃ t, PI X tg e t ∧ StlI X W t f
theorem PostI.bind {α β : Type} {rel : List Addr → Hp → α → β → Prop} {ρ : List Addr} {F H : Hp} {σ : St} {Rr : It → Hp → Prop} {Q1 : β → Hp → Prop} {r : R α} {g : α → DS → R Wk}
    (h : PostI X W ρ F H σ Rr (r.bind g))
    (k : ∀ a s' ρ' F' H' v, Ext ρ F H ρ' F' H' → Rel X.K X.mg ρ' F' s' σ H' → rel ρ' F' a v → PostI X W ρ' F' H' σ Rr (g a s') → Q1 v H') : Post X W rel ρ F H σ Q1 r := by
  cases r with
  | bad => exact h
  | ok a s' =>
    intro ρ' F' H' v x rl rd
    refine k a s' ρ' F' H' v x rl rd ?_
    have h' : PostI X W ρ F H σ Rr (g a s') := h
    cases q : g a s' with
    | bad => rw [q] at h'; exact h'
    | ok w s2 => rw [q] at h'; exact fun ρ2 F2 H2 J x2 => h' ρ2 F2 H2 J (x.trans x2)
    | ex b s2 => rw [q] at h'; exact fun ρ2 F2 H2 c d x2 => h' ρ2 F2 H2 c d (x.trans x2)
  | ex e s' => exact h
def allw : List MO → Bool := fun _ => true
/-- a list or tuple that changes no more -/
def wkSeq : D → DS → R Wk := fun d s => match d with
  | .lst ds => .ok (ds, allw) s
  | .lsr ds => .ok (ds, allw) s
  | _ => .bad
def fWL (f : DS → R D) : DS → R Wk := fun s => (f s).bind wkSeq
theorem jok_list {K : PySem.W.Frag} {mg : Str → Option Value} {P : List MO → Prop} {ρ : List Addr} {F H : Hp} {ds : List D} {vs : List V} {a : Addr} (q : SqL K F a vs) (l : RdL K ρ F ds vs) (inj : ∀ {H' ys}, Same F H' → SqL K H' a ys → ys = vs ∨ True) : JOk K mg P ds ρ F H (Itl K a) := by
  refine ⟨fun ρ' F' H' μ x m _ => ⟨vs, (x.fro.trans m.sub).seq q, by rw [l.length]; exact Nat.le_refl _⟩, fun i d e ρ' F' H' μ x m _ => ?_⟩
  obtain ⟨v, e1, r⟩ := l.get e
  have q' := (x.fro.trans m.sub).seq q
  exact ⟨⟨vs, v, q', e1⟩, fun y H2 yd => by
    obtain ⟨rfl, h2⟩ := yd
    have e2 := h2 vs q'
    rw [e1] at e2
    cases e2
    exact ⟨F', Ext.refl .., m, r.ext x⟩⟩
theorem pdi_list {tg : Expr} {f : DS → R D} (h : PD X W e f) : PDI X W tg e (fWL f) := by
  obtain ⟨t, e1, l⟩ := h
  refine ⟨_, pi_list e1, fun ρ F s σ H Rr rl h => l ρ F s σ H _ rl (PostI.bind h fun d s1 ρ1 F1 H1 v x1 rl1 rd1 h1 => ?_)⟩
  unfold wkSeq at h1
  split at h1
  · obtain ⟨a, vs, rfl, q, l2⟩ := rd1
    exact ⟨a, rfl, ⟨vs, .inl (.inl (rl1.mem.sub _ _ q))⟩, h1 ρ1 F1 H1 _ (Ext.refl ..) rl1 (jok_list (.inl (.inl q)) l2 fun _ _ => .inr trivial)⟩
  · obtain ⟨a, vs, rfl, q, l2⟩ := rd1
    exact ⟨a, rfl, ⟨vs, rl1.mem.sub.seq q⟩, h1 ρ1 F1 H1 _ (Ext.refl ..) rl1 (jok_list q l2 fun _ _ => .inr trivial)⟩
  · exact h1.elim
def wkTup : D → DS → R Wk := fun d s => match d with
  | .tup ds => .ok (ds, allw) s
  | _ => .bad
def fWT (f : DS → R D) : DS → R Wk := fun s => (f s).bind wkTup
theorem pdi_tup {tg : Expr} {f : DS → R D} (h : PD X W e f) : PDI X W tg e (fWT f) := by
  obtain ⟨t, e1, l⟩ := h
  refine ⟨_, pi_tup e1, fun ρ F s σ H Rr rl h => l ρ F s σ H _ rl (PostI.bind h fun d s1 ρ1 F1 H1 v x1 rl1 rd1 h1 => ?_)⟩
  unfold wkTup at h1
  split at h1
  · obtain ⟨a, vs, rfl, q, l2⟩ := rd1
    refine ⟨a, rfl, ⟨vs, sqT_mono rl1.mem.sub q⟩, h1 ρ1 F1 H1 _ (Ext.refl ..) rl1 ⟨fun ρ' F' H' μ x m _ => ⟨vs, sqT_mono (x.fro.trans m.sub) q, by rw [l2.length]; exact Nat.le_refl _⟩, fun i d e ρ' F' H' μ x m _ => ?_⟩⟩
    obtain ⟨v, e1, r⟩ := l2.get e
    have q' := sqT_mono (x.fro.trans m.sub) q
    exact ⟨⟨vs, v, q', e1⟩, fun y H2 yd => by
      obtain ⟨rfl, h2⟩ := yd
      have e2 := h2 vs q'
      rw [e1] at e2
      cases e2
      exact ⟨F', Ext.refl .., m, r.ext x⟩⟩
  · exact h1.elim
/-- range -/
def rngD (lo : Int) (n : Nat) : List D := (List.range n).map fun k => .int (lo + (k : Nat))
theorem jok_rng {K : PySem.W.Frag} {mg : Str → Option Value} {P : List MO → Prop} {ρ : List Addr} {F H : Hp} {lo : Int} {n : Nat} : JOk K mg P (rngD lo n) ρ F H (Itr lo n) := by
  refine ⟨fun ρ' F' H' μ x m _ => by simp [Itr, rngD], fun i d e ρ' F' H' μ x m _ => ?_⟩
  have hi : i < n := by
    have := (List.getElem?_eq_some_iff.mp e).1
    simpa [rngD] using this
  refine ⟨hi, fun y H2 yd => ?_⟩
  obtain ⟨rfl, rfl⟩ := yd
  refine ⟨F', Ext.refl .., m, ?_⟩
  simp [rngD, hi] at e
  subst e
  rfl
noncomputable def wkR1 : List D → DS → R Wk := fun ds s => match ds with
  | [.int j] => if Pr (-(2 ^ 62) ≤ j ∧ j < 2 ^ 62) then .ok (rngD 0 j.toNat, allw) s else .bad
  | _ => .bad
noncomputable def wkR2 : List D → DS → R Wk := fun ds s => match ds with
  | [.int i, .int j] => if Pr (-(2 ^ 62) ≤ i ∧ i < 2 ^ 62 ∧ -(2 ^ 62) ≤ j ∧ j < 2 ^ 62) then .ok (rngD i (j - i).toNat, allw) s else .bad
  | _ => .bad
noncomputable def fWR1 (f : DS → R (List D)) : DS → R Wk := fun s => (f s).bind wkR1
noncomputable def fWR2 (f : DS → R (List D)) : DS → R Wk := fun s => (f s).bind wkR2
theorem pdi_range1 {tg : Expr} {a : Expr} {p : Pos} {f : DS → R (List D)} (hg : Gl X "range") (hm : X.mg "range" = none) (ha : PDA X W [a] f) (hs : starEach [a] X.env = [(false, eval a X.env)] := by rfl) : PDI X W tg (.Call (.Name "range" p) [a] [] pos) (fWR1 f) := by
  obtain ⟨t, e1, l⟩ := ha
  refine ⟨_, pi_range1 hg hm e1 hs, fun ρ F s σ H Rr rl h => l ρ F s σ H _ rl (PostI.bind h fun ds s1 ρ1 F1 H1 vs x1 rl1 rd1 h1 => ?_)⟩
  unfold wkR1 at h1
  split at h1
  · obtain ⟨v, rfl, r⟩ := rdl1 rd1
    split at h1
    · rename_i j hc
      cases r
      exact ⟨j, rfl, hc.1, hc.2, h1 ρ1 F1 H1 _ (Ext.refl ..) rl1 jok_rng⟩
    · exact h1.elim
  · exact h1.elim
theorem pdi_range2 {tg : Expr} {a b : Expr} {p : Pos} {f : DS → R (List D)} (hg : Gl X "range") (hm : X.mg "range" = none) (ha : PDA X W [a, b] f) (hs : starEach [a, b] X.env = [(false, eval a X.env), (false, eval b X.env)] := by rfl) (hs2 : starEach [b] X.env = [(false, eval b X.env)] := by rfl) :
    PDI X W tg (.Call (.Name "range" p) [a, b] [] pos) (fWR2 f) := by
  obtain ⟨t, e1, l⟩ := ha
  refine ⟨_, pi_range2 hg hm e1 hs hs2, fun ρ F s σ H Rr rl h => l ρ F s σ H _ rl (PostI.bind h fun ds s1 ρ1 F1 H1 vs x1 rl1 rd1 h1 => ?_)⟩
  unfold wkR2 at h1
  split at h1
  · obtain ⟨v, u, rfl, r, r2⟩ := rdl2 rd1
    split at h1
    · rename_i i j hc
      cases r
      cases r2
      exact ⟨i, j, rfl, hc, h1 ρ1 F1 H1 _ (Ext.refl ..) rl1 jok_rng⟩
    · exact h1.elim
  · exact h1.elim

/-- range with a step -/
def rngC (lo c : Int) (n : Nat) : List D := (List.range n).map fun k => .int (lo + (k : Nat) * c)
theorem jok_rngC {K : PySem.W.Frag} {mg : Str → Option Value} {P : List MO → Prop} {ρ : List Addr} {F H : Hp} {lo c : Int} {n : Nat} : JOk K mg P (rngC lo c n) ρ F H (Itc lo c n) := by
  refine ⟨fun ρ' F' H' μ x m _ => by simp [Itc, rngC], fun i d e ρ' F' H' μ x m _ => ?_⟩
  have hi : i < n := by
    have := (List.getElem?_eq_some_iff.mp e).1
    simpa [rngC] using this
  refine ⟨hi, fun y H2 yd => ?_⟩
  obtain ⟨rfl, rfl⟩ := yd
  refine ⟨F', Ext.refl .., m, ?_⟩
  simp [rngC, hi] at e
  subst e
  rfl
noncomputable def wkR3 : List D → DS → R Wk := fun ds s => match ds with
  | [.int i, .int j, .int c] => if Pr (RgC i j c (Builtin.Range.rangeSize i j c).toNat) then .ok (rngC i c (Builtin.Range.rangeSize i j c).toNat, allw) s else .bad
  | _ => .bad
noncomputable def fWR3 (f : DS → R (List D)) : DS → R Wk := fun s => (f s).bind wkR3
theorem pdi_range3 {tg : Expr} {a b c : Expr} {p : Pos} {f : DS → R (List D)} (hg : Gl X "range") (hm : X.mg "range" = none) (ha : PDA X W [a, b, c] f)
    (hs : starEach [a, b, c] X.env = (false, eval a X.env) :: starEach [b, c] X.env := by rfl) (hpl : (backTo pos (starEach [b, c] X.env)).any (·.1) = false := by rfl) :
    PDI X W tg (.Call (.Name "range" p) [a, b, c] [] pos) (fWR3 f) := by
  obtain ⟨t, e1, l⟩ := ha
  refine ⟨_, pi_range3 hg hm e1 hs hpl, fun ρ F s σ H Rr rl h => l ρ F s σ H _ rl (PostI.bind h fun ds s1 ρ1 F1 H1 vs x1 rl1 rd1 h1 => ?_)⟩
  unfold wkR3 at h1
  split at h1
  · obtain ⟨v1, vs1, rfl, r1, q1⟩ := rd1
    obtain ⟨v2, vs2, rfl, r2, q2⟩ := q1
    obtain ⟨v3, vs3, rfl, r3, q3⟩ := q2
    cases q3
    split at h1
    · rename_i i j c hc
      cases r1
      cases r2
      cases r3
      exact ⟨i, j, c, _, rfl, hc, h1 ρ1 F1 H1 _ (Ext.refl ..) rl1 jok_rngC⟩
    · exact h1.elim
  · exact h1.elim

/-! ### for -/
def loopL (P : List MO → Bool) (step : D → DS → R Fl) : List D → DS → R Fl
  | [], s => if P s.m = true then .ok .nx s else .bad
  | x :: xs, s => if P s.m = true then (match step x s with
    | .ok .nx s1 => loopL P step xs s1
    | .ok .ct s1 => loopL P step xs s1
    | .ok .bk s1 => .ok .nx s1
    | r => r) else .bad
def fStep (t : Tg) (fb : DS → R Fl) : D → DS → R Fl := fun d s2 => (t.run d s2).bind fun _ s3 => fb s3
def fFor (fi : DS → R Wk) (t : Tg) (fb : DS → R Fl) : DS → R Fl := fun s => (fi s).bind fun w s1 => loopL w.2 (fStep t fb) w.1 s1
theorem for_run {wi : TI} {t : Tg} {tb : TS} {fi : DS → R Wk} {fb : DS → R Fl} (li : StlI X W wi fi) (lb : StlS X W tb fb) : StlS X W (tFor wi (t.tg X.K) tb) (fFor fi t fb) := by
  intro ρ F s σ H E rl h
  refine li ρ F s σ H _ rl ?_
  unfold fFor at h
  cases q : fi s with
  | bad => rw [q] at h; exact h
  | ex e s1 => rw [q] at h; exact fun ρ' F' H' cls d x rl' er => h ρ' F' H' σ cls d x rl' er
  | ok w s1 =>
    rw [q] at h
    obtain ⟨its, P⟩ := w
    intro ρ1 F1 H1 J x1 rl1 jk
    have h1 : PostS X W ρ F H E (loopL P (fStep t fb) its s1) := h
    refine ⟨fun i m σ' H' => m = its.length - i ∧ i ≤ its.length ∧ ∃ ρ2 F2 s2, Ext ρ1 F1 H1 ρ2 F2 H' ∧ Rel X.K X.mg ρ2 F2 s2 σ' H' ∧ PostS X W ρ2 F2 H' E (loopL P (fStep t fb) (its.drop i) s2),
      ⟨its.length, by simp, Nat.zero_le _, ρ1, F1, s1, Ext.refl .., rl1, h1.ext x1⟩, ?_⟩
    rintro i m σ2 H2 ⟨rfl, hi, ρ2, F2, s2, x2, rl2, h2⟩
    by_cases hlt : i < its.length
    · have hd : its.drop i = its[i] :: its.drop (i + 1) := List.drop_eq_getElem_cons hlt
      rw [hd] at h2
      unfold loopL fStep at h2
      split at h2
      · rename_i hP
        obtain ⟨hgo, hy⟩ := jk.go i its[i] (List.getElem?_eq_getElem hlt) ρ2 F2 H2 s2.m x2 rl2.mem hP
        refine .inr ⟨hgo, fun σ3 H3 => ∃ ρ3 F3 s3, Ext ρ1 F1 H1 ρ3 F3 H3 ∧ Rel X.K X.mg ρ3 F3 s3 σ3 H3 ∧ PostS X W ρ3 F3 H3 E (loopL P (fStep t fb) (its.drop (i + 1)) s3),
          fun σ3 H3 ⟨ρ3, F3, s3, x3, rl3, h3⟩ => ⟨its.length - (i + 1), by omega, rfl, hlt, ρ3, F3, s3, x3, rl3, h3⟩, fun x H3 y => ?_⟩
        obtain ⟨F3, x3, m3, rd3⟩ := hy x H3 y
        have rl3 : Rel X.K X.mg ρ2 F3 s2 σ2 H3 := ⟨m3, rl2.slo.ext x3⟩
        cases q2 : t.run its[i] s2 with
        | bad => simp only [q2, R.bind] at h2; exact h2.elim
        | ex e s4 => exact absurd q2 Tg.noEx
        | ok u s4 =>
          simp only [q2, R.bind] at h2
          obtain ⟨vs, rl4, k⟩ := Tg.go rl3 rd3 q2
          refine k _ (lb ρ2 F3 s4 _ H3 _ rl4 ?_)
          have x4 := x2.trans x3
          have hfold : ∀ l, loopL P (fun d s2 => (t.run d s2).bind fun _ s3 => fb s3) l = loopL P (fStep t fb) l := fun _ => rfl
          cases q3 : fb s4 with
          | bad => rw [q3] at h2; exact h2
          | ex e s5 => rw [q3] at h2; exact fun ρ5 F5 H5 σ5 cls d x5 => h2 ρ5 F5 H5 σ5 cls d (x3.trans x5)
          | ok fl s5 =>
            rw [q3] at h2
            cases fl with
            | nx => exact fun ρ5 F5 H5 σ5 x5 rl5 => ⟨ρ5, F5, s5, x4.trans x5, rl5, PostS.ext h2 (x3.trans x5)⟩
            | ct => exact fun ρ5 F5 H5 σ5 x5 rl5 => ⟨ρ5, F5, s5, x4.trans x5, rl5, PostS.ext h2 (x3.trans x5)⟩
            | bk => exact fun ρ5 F5 H5 σ5 x5 rl5 => h2 ρ5 F5 H5 σ5 (x3.trans x5) rl5
            | rt d => exact fun ρ5 F5 H5 v x5 => h2 ρ5 F5 H5 v (x3.trans x5)
      · exact h2.elim
    · have e : i = its.length := by omega
      subst e
      rw [List.drop_length] at h2
      unfold loopL at h2
      split at h2
      · rename_i hP
        exact .inl ⟨jk.stop ρ2 F2 H2 s2.m x2 rl2.mem hP, h2 ρ2 F2 H2 σ2 (Ext.refl ..) rl2⟩
      · exact h2.elim
theorem pds_for {tg iter : Expr} {body : List Stmt} {t : Tg} {fi : DS → R Wk} {fb : DS → R Fl} (hp : PassesOwn (model X.prog X.w) X.A X.env X.xe) (hc : X.calm = true) (hi : PDI X W tg iter fi) (hg : PDG X tg t) (hb : PDss X W body fb)
    (hs : ∀ x, foldedSetIterable iter X.env x = pure x := by intro _; rfl) : PDs X W (.For tg iter body [] pos) (fFor fi t fb) := by
  obtain ⟨wi, e1, li⟩ := hi
  obtain ⟨tb, e2, lb⟩ := hb
  exact ⟨_, ps_for hp hc e1 hg e2 hs, for_run li lb⟩

/-! ### [elt for target in iter if ..] -/
def wipeG (g : List (Option D)) : List Nat → List (Option D)
  | [] => g
  | v :: vs => (wipeG g vs).set v none
theorem wipeG_get {g : List (Option D)} {j : Nat} {d : D} : ∀ {vs : List Nat}, (wipeG g vs)[j]? = some (some d) → g[j]? = some (some d) ∧ j ∉ vs
  | [], h => ⟨h, by simp⟩
  | v :: vs, h => by
    unfold wipeG at h
    by_cases hj : j = v
    · subst hj
      by_cases hl : j < (wipeG g vs).length
      · rw [List.getElem?_set_self hl] at h
        cases h
      · rw [List.getElem?_eq_none (by simp; omega)] at h
        cases h
    · rw [List.getElem?_set_ne (Ne.symm hj)] at h
      obtain ⟨h1, h2⟩ := wipeG_get (vs := vs) h
      exact ⟨h1, by simp [hj, h2]⟩
theorem wipe_get {σ : St} {j : Nat} : ∀ {vs : List Nat}, j ∉ vs → (wipe σ vs)[j]? = σ[j]?
  | [], _ => rfl
  | v :: vs, h => by
    unfold wipe
    have hj : j ≠ v := fun e => h (by simp [e])
    rw [List.getElem?_set_ne (Ne.symm hj)]
    exact wipe_get fun z => h (by simp [z])
theorem wipeG_length (g : List (Option D)) : ∀ vs : List Nat, (wipeG g vs).length = g.length
  | [] => rfl
  | v :: vs => by unfold wipeG; rw [List.length_set, wipeG_length g vs]
theorem SRel.wipe {K : PySem.W.Frag} {ρ : List Addr} {F : Hp} {g : List (Option D)} {σ : St} (h : SRel K ρ F g σ) (vs : List Nat) : SRel K ρ F (wipeG g vs) (L2.wipe σ vs) := by
  refine ⟨by rw [wipeG_length, wipe_length]; exact h.len, fun j d e => ?_⟩
  obtain ⟨h1, h2⟩ := wipeG_get e
  obtain ⟨v, e1, r⟩ := h.at_ j d h1
  exact ⟨v, by rw [wipe_get h2]; exact e1, r⟩
/-- the slots' places outside the wiped ones tell all -/
theorem wipe_ext {σ τ : St} (vs : List Nat) (hl : σ.length = τ.length) (h : ∀ j, j ∉ vs → σ[j]? = τ[j]?) : wipe σ vs = wipe τ vs := by
  apply List.ext_getElem?
  intro j
  by_cases hj : j ∈ vs
  · have one : ∀ (σ : St) (vs : List Nat), j ∈ vs → (wipe σ vs)[j]? = if j < σ.length then some none else none := by
      intro σ vs
      induction vs with
      | nil => intro h; cases h
      | cons v vs ih =>
        intro hm
        unfold wipe
        by_cases hv : j = v
        · subst hv
          by_cases hk : j < σ.length
          · rw [List.getElem?_set_self (by rw [wipe_length]; exact hk), if_pos hk]
          · rw [List.getElem?_eq_none (by rw [List.length_set, wipe_length]; omega), if_neg hk]
        · rw [List.getElem?_set_ne (Ne.symm hv)]
          exact ih (by
            rcases List.mem_cons.mp hm with z | z
            · exact absurd z hv
            · exact z)
    rw [one σ vs hj, one τ vs hj, hl]
  · rw [wipe_get hj, wipe_get hj]
    exact h j hj
theorem setV_get : ∀ {is : List Nat} {vs : List V} {σ : St} {j : Nat}, j ∉ is → (setV is vs σ)[j]? = σ[j]?
  | [], _, _, _, _ => by unfold setV; rfl
  | i :: is, [], _, _, _ => rfl
  | i :: is, v :: vs, σ, j, h => by
    show (setV is vs (σ.set i (some v)))[j]? = σ[j]?
    rw [setV_get (fun z => h (by simp [z])), List.getElem?_set_ne (fun e => h (by simp [e]))]
theorem setV_length : ∀ {is : List Nat} {vs : List V} {σ : St}, (setV is vs σ).length = σ.length
  | [], _, _ => by unfold setV; rfl
  | i :: is, [], _ => rfl
  | i :: is, v :: vs, σ => by
    show (setV is vs (σ.set i (some v))).length = σ.length
    rw [setV_length, List.length_set]
noncomputable def compL (P : List MO → Bool) (step : D → DS → R (Option D)) : List D → List D → DS → R (List D)
  | [], acc, s => if P s.m = true then .ok acc s else .bad
  | x :: xs, acc, s => if P s.m = true then (step x s).bind fun o s1 => (match o with
    | some y => if Pr (acc.length < sizeLine) then compL P step xs (acc ++ [y]) s1 else .bad
    | none => compL P step xs acc s1) else .bad
theorem compL_nil {P : List MO → Bool} {step : D → DS → R (Option D)} {acc : List D} {s : DS} : compL P step [] acc s = if P s.m = true then .ok acc s else .bad := rfl
theorem compL_cons {P : List MO → Bool} {step : D → DS → R (Option D)} {x : D} {xs acc : List D} {s : DS} : compL P step (x :: xs) acc s = if P s.m = true then (step x s).bind fun o s1 => (match o with
    | some y => if Pr (acc.length < sizeLine) then compL P step xs (acc ++ [y]) s1 else .bad
    | none => compL P step xs acc s1) else .bad := rfl
def cStep (t : Tg) (vs : List Nat) (ft : DS → R Bool) (fe : DS → R D) : D → DS → R (Option D) := fun x s =>
  (t.run x { s with g := wipeG s.g vs }).bind fun _ s1 => (ft s1).bind fun b s2 => if b = true then (fe s2).bind fun y s3 => .ok (some y) ⟨s.g, s3.m⟩ else .ok none ⟨s.g, s2.m⟩
noncomputable def fComp (fi : DS → R Wk) (t : Tg) (vs : List Nat) (ft : DS → R Bool) (fe : DS → R D) : DS → R (List D) := fun s => (fi s).bind fun w s1 => compL w.2 (cStep t vs ft fe) w.1 [] s1
/-- no exception gets out of a comprehension's block -/
abbrev W0 : WX := fun _ _ _ _ => False
/-- how a comprehension's list ends: lst: as one that changes no more; else as an object -/
theorem comp_run {wi : TI} {t : Tg} {vs : List Nat} {tt : TT} {te : TE} {fi : DS → R Wk} {ft : DS → R Bool} {fe : DS → R D} (hm : ∀ j ∈ t.mem, j ∈ vs) (li : StlI X W wi fi)
    (lt : ∀ ρ F s σ H Q, Rel X.K X.mg ρ F s σ H → Post X W0 (fun _ _ a b => b = a) ρ F H σ Q (ft s) → tt σ H Q) (le : ∀ ρ F s σ H Q, Rel X.K X.mg ρ F s σ H → Post X W0 (Rd X.K) ρ F H σ Q (fe s) → te σ H Q)
    {ρ : List Addr} {F H : Hp} {s : DS} {σ : St} {Q : VK} (rl : Rel X.K X.mg ρ F s σ H)
    (h : Post X W0 (RdL X.K) ρ F H σ (fun (us : List V) H' => True) (fComp fi t vs ft fe s))
    (hx : ∀ e s', fComp fi t vs ft fe s ≠ .ex e s')
    (fin : ∀ ds s', fComp fi t vs ft fe s = .ok ds s' → ∀ ρ' F' H' D us, Ext ρ F H ρ' F' H' → Rel X.K X.mg ρ' F' s' σ H' → RdL X.K ρ' F' ds us → H D = none → D ∉ ρ' → F' D = none → H' D = some (.lst us) → Q (.ref D) H') :
    tLc wi (t.tg X.K) tt te vs σ H Q := by
  refine li ρ F s σ H _ rl ?_
  unfold fComp at h hx fin
  cases q : fi s with
  | bad => rw [q] at h; exact h
  | ex e s1 => rw [q] at hx; exact absurd rfl (hx e s1)
  | ok w s1 =>
    rw [q] at h hx fin
    obtain ⟨its, P⟩ := w
    intro ρ1 F1 H1 J x1 rl1 jk D hD
    have hf : F1 D = none := rl1.mem.sub.free hD
    have nD : D ∉ ρ1 := rl1.mem.notin hD
    have hDH : H D = none := by
      cases z : H D with
      | none => rfl
      | some o =>
        by_cases hr : D ∈ ρ
        · obtain ⟨l, e⟩ := x1.pre
          exact absurd (by rw [e]; exact List.mem_append_left _ hr) nD
        · rw [x1.rest D o z hr] at hD
          cases hD
    have run0 : (R.ok (its, P) s1).bind (fun w s1 => compL w.2 (cStep t vs ft fe) w.1 [] s1) = compL P (cStep t vs ft fe) its [] s1 := rfl
    rw [run0] at h hx fin
    refine ⟨fun i m H' => m = its.length - i ∧ i ≤ its.length ∧ ∃ ρ2 F2 s2 acc us, Ext ρ1 F1 H1 ρ2 F2 H' ∧ Rel X.K X.mg ρ2 F2 s2 σ H' ∧ RdL X.K ρ2 F2 acc us ∧ H' D = some (.lst us) ∧ D ∉ ρ2 ∧ F2 D = none ∧ compL P (cStep t vs ft fe) its [] s1 = compL P (cStep t vs ft fe) (its.drop i) acc s2,
      ⟨its.length, by simp, Nat.zero_le _, ρ1, F1, s1, [], [], (Ext.refl ρ1 F1 H1).bump hD, ⟨rl1.mem.other nD hf, rl1.slo⟩, rfl, upd_same, nD, hf, rfl⟩, ?_⟩
    rintro i m H2 ⟨rfl, hi, ρ2, F2, s2, acc, us, x2, rl2, la, hD2, nD2, hf2, er⟩
    by_cases hlt : i < its.length
    · have hd : its.drop i = its[i] :: its.drop (i + 1) := List.drop_eq_getElem_cons hlt
      rw [hd, compL_cons] at er
      rw [er] at h hx
      split at h
      · rename_i hP
        rw [if_pos hP] at er hx
        obtain ⟨hgo, hy⟩ := jk.go i its[i] (List.getElem?_eq_getElem hlt) ρ2 F2 H2 s2.m x2 rl2.mem hP
        refine .inr ⟨hgo, fun H3 => ∃ ρ3 F3 s3 acc' us', Ext ρ1 F1 H1 ρ3 F3 H3 ∧ Rel X.K X.mg ρ3 F3 s3 σ H3 ∧ RdL X.K ρ3 F3 acc' us' ∧ H3 D = some (.lst us') ∧ D ∉ ρ3 ∧ F3 D = none ∧ compL P (cStep t vs ft fe) its [] s1 = compL P (cStep t vs ft fe) (its.drop (i + 1)) acc' s3,
          fun H3 ⟨ρ3, F3, s3, acc', us', z⟩ => ⟨its.length - (i + 1), by omega, rfl, hlt, ρ3, F3, s3, acc', us', z⟩, fun x H3 y => ?_⟩
        obtain ⟨F3, x3, m3, rd3⟩ := hy x H3 y
        -- what stays of D
        have stay : ∀ {ρ4 : List Addr} {F4 H4 : Hp}, Ext ρ2 F2 H2 ρ4 F4 H4 → H4 D = some (.lst us) ∧ D ∉ ρ4 ∧ F4 D = none := fun {ρ4 F4 H4} x4 => by
          refine ⟨x4.rest D _ hD2 nD2, fun z => ?_, ?_⟩
          · rcases x4.newr D z with w | w
            · exact nD2 w
            · rw [hD2] at w; cases w
          · cases z : F4 D with
            | none => rfl
            | some o =>
              rcases x4.newf D (by rw [z]; exact fun w => nomatch w) with w | w | w
              · exact absurd hf2 w
              · exact absurd w nD2
              · rw [hD2] at w; cases w
        have rl3 : Rel X.K X.mg ρ2 F3 { s2 with g := wipeG s2.g vs } (wipe σ vs) H3 := ⟨m3, (rl2.slo.ext x3).wipe vs⟩
        unfold cStep at h hx er
        cases q2 : t.run its[i] { s2 with g := wipeG s2.g vs } with
        | bad => simp only [q2, R.bind] at h; exact h.elim
        | ex e s4 => exact absurd q2 Tg.noEx
        | ok u s4 =>
          simp only [q2, R.bind] at h hx er
          obtain ⟨ws, rl4, k⟩ := Tg.go rl3 rd3 q2
          refine k _ ⟨?_, ?_⟩
          · have w1 : wipe (setV t.mem ws (wipe σ vs)) vs = wipe (wipe σ vs) vs := wipe_ext vs (by rw [setV_length]) fun j hj => setV_get fun z => hj (hm j z)
            rw [w1]
            exact wipe_ext vs (wipe_length σ vs) fun j hj => wipe_get hj
          · refine lt ρ2 F3 s4 _ H3 _ rl4 ?_
            cases q3 : ft s4 with
            | bad => rw [q3] at h; exact h.elim
            | ex e s5 => rw [q3] at hx; exact absurd rfl (hx e s5)
            | ok b s5 =>
              rw [q3] at h hx er
              simp only at h hx er
              intro ρ5 F5 H5 b' x5 rl5 eb
              subst eb
              cases b' with
              | true =>
                rw [if_pos rfl]
                simp only [if_true] at h hx er
                refine le ρ5 F5 s5 _ H5 _ rl5 ?_
                cases q4 : fe s5 with
                | bad => rw [q4] at h; exact h.elim
                | ex e s6 => rw [q4] at hx; exact absurd rfl (hx e s6)
                | ok y s6 =>
                  rw [q4] at h hx er
                  simp only at h hx er
                  intro ρ6 F6 H6 v x6 rl6 rd6
                  have x7 := x3.trans (x5.trans x6)
                  obtain ⟨d1, d2, d3⟩ := stay x7
                  split at h
                  · rename_i hc
                    rw [if_pos hc] at er
                    have lu := la.ext x7
                    refine ⟨us, d1, by rw [lu.length]; exact hc, ρ6, F6, ⟨s2.g, s6.m⟩, acc ++ [y], us ++ [v], (x2.trans x7).bump hD, ⟨rl6.mem.other d2 d3, rl2.slo.ext x7⟩, lu.append (RdL.one rd6), upd_same, d2, d3, er⟩
                  · exact h.elim
              | false =>
                rw [if_neg Bool.false_ne_true]
                simp only [Bool.false_eq_true, if_false] at h hx er
                have x7 := x3.trans x5
                obtain ⟨d1, d2, d3⟩ := stay x7
                exact ⟨ρ5, F5, ⟨s2.g, s5.m⟩, acc, us, x2.trans x7, ⟨rl5.mem, rl2.slo.ext x7⟩, la.ext x7, d1, d2, d3, er⟩
      · exact h.elim
    · have e : i = its.length := by omega
      subst e
      rw [List.drop_length, compL_nil] at er
      rw [er] at h
      split at h
      · rename_i hP
        rw [if_pos hP] at er
        exact .inl ⟨jk.stop ρ2 F2 H2 s2.m x2 rl2.mem hP, fin acc s2 er ρ2 F2 H2 D us (x1.trans x2) rl2 la hDH nD2 hf2 hD2⟩
      · exact h.elim
/-- the list of a comprehension -/
def fLc (f : DS → R (List D)) : DS → R D := fun s => match f s with
  | .ok ds s1 => .ok (.lst ds) s1
  | _ => .bad
def fLcN (f : DS → R (List D)) : DS → R D := fun s => match f s with
  | .ok ds s1 => .ok (.obj s1.m.length) { s1 with m := s1.m ++ [.lst ds] }
  | _ => .bad
theorem lc_stl {wi : TI} {t : Tg} {vs : List Nat} {tt : TT} {te : TE} {fi : DS → R Wk} {ft : DS → R Bool} {fe : DS → R D} (hm : ∀ j ∈ t.mem, j ∈ vs) (li : StlI X W wi fi)
    (lt : ∀ ρ F s σ H Q, Rel X.K X.mg ρ F s σ H → Post X W0 (fun _ _ a b => b = a) ρ F H σ Q (ft s) → tt σ H Q) (le : ∀ ρ F s σ H Q, Rel X.K X.mg ρ F s σ H → Post X W0 (Rd X.K) ρ F H σ Q (fe s) → te σ H Q) :
    Stl X W (Rd X.K) (tLc wi (t.tg X.K) tt te vs) (fLc (fComp fi t vs ft fe)) := by
  intro ρ F s σ H Q rl h
  unfold fLc at h
  cases q : fComp fi t vs ft fe s with
  | bad => rw [q] at h; exact h.elim
  | ex e s1 => rw [q] at h; exact h.elim
  | ok ds s1 =>
    rw [q] at h
    refine comp_run hm li lt le rl (by rw [q]; exact fun _ _ _ _ _ _ _ => trivial) (by rw [q]; exact fun _ _ z => nomatch z) fun ds' s' e ρ' F' H' A us x rl' l hD nD fD hl => ?_
    rw [q] at e
    cases e
    exact h ρ' (upd F' A (.lst us)) H' _ (x.adopt hD fD) ⟨rl'.mem.adopt nD fD hl, rl'.slo.mono ⟨[], by simp⟩ (same_up fD)⟩ ⟨A, us, rfl, upd_same, RdL.mono ⟨[], by simp⟩ (same_up fD) _ _ l⟩
theorem lcN_stl {wi : TI} {t : Tg} {vs : List Nat} {tt : TT} {te : TE} {fi : DS → R Wk} {ft : DS → R Bool} {fe : DS → R D} (hm : ∀ j ∈ t.mem, j ∈ vs) (li : StlI X W wi fi)
    (lt : ∀ ρ F s σ H Q, Rel X.K X.mg ρ F s σ H → Post X W0 (fun _ _ a b => b = a) ρ F H σ Q (ft s) → tt σ H Q) (le : ∀ ρ F s σ H Q, Rel X.K X.mg ρ F s σ H → Post X W0 (Rd X.K) ρ F H σ Q (fe s) → te σ H Q) :
    Stl X W (Rd X.K) (tLc wi (t.tg X.K) tt te vs) (fLcN (fComp fi t vs ft fe)) := by
  intro ρ F s σ H Q rl h
  unfold fLcN at h
  cases q : fComp fi t vs ft fe s with
  | bad => rw [q] at h; exact h.elim
  | ex e s1 => rw [q] at h; exact h.elim
  | ok ds s1 =>
    rw [q] at h
    refine comp_run hm li lt le rl (by rw [q]; exact fun _ _ _ _ _ _ _ => trivial) (by rw [q]; exact fun _ _ z => nomatch z) fun ds' s' e ρ' F' H' A us x rl' l hD nD fD hl => ?_
    rw [q] at e
    cases e
    refine h (ρ' ++ [A]) F' H' _ (x.adoptN hD) ⟨rl'.mem.adoptN nD fD hl ⟨us, hl, RdL.mono ⟨[A], rfl⟩ (Same.refl _) _ _ l⟩, rl'.slo.mono ⟨[A], rfl⟩ (Same.refl _)⟩ ⟨A, rfl, ?_⟩
    rw [← rl'.mem.len, List.getElem?_append_right (Nat.le_refl _)]
    simp
/-- a comprehension's tests -/
def PDTs (X : Cx) (W : WX) (ifs : List Expr) (f : DS → R Bool) : Prop := ∃ t, PTs X ifs t ∧ Stl X W (fun _ _ a b => b = a) t f
def fYes : DS → R Bool := fun s => .ok true s
theorem pdts_nil : PDTs X W [] fYes := ⟨_, pts_nil, fun ρ F s σ H Q rl h => h ρ F H _ (Ext.refl ..) rl rfl⟩
theorem pdts_one {c : Expr} {f : DS → R Bool} (h : PDT X W c f) : PDTs X W [c] f := let ⟨t, e1, l⟩ := h; ⟨t, pts_one e1, l⟩
end
end DL

/-! Rules: defs, their calls; raise, try. -/
namespace DL
open PySem L2
open PyProof.Rows (envOfC)

/-! ### without objects; with objects below n alone -/
mutual
def clD (n : Nat) : D → Bool
  | .tup ds => clL n ds
  | .lst ds => clL n ds
  | .lsr ds => clL n ds
  | .obj k => decide (k < n)
  | .exc _ _ _ ds => clL n ds
  | _ => true
def clL (n : Nat) : List D → Bool
  | [] => true
  | d :: ds => clD n d && clL n ds
end
def clK {κ : Type} (n : Nat) : List (κ × D) → Bool
  | [] => true
  | (_, d) :: r => clD n d && clK n r
def clM (n : Nat) : MO → Bool
  | .lst ds => clL n ds
  | .dK kvs => clK n kvs
  | .dT kvs => clK n kvs
  | .ins _ fs => clK n fs
  | .gone => true
section
variable {K : PySem.W.Frag} {mg : Str → Option Value} {ρ : List Addr} {F H : Hp} {n : Nat}
mutual
theorem Rd.cut : ∀ (d : D) (v : V), clD n d = true → Rd K ρ F d v → Rd K (ρ.take n) F d v
  | .non, _, _, h => h
  | .bl _, _, _, h => h
  | .int _, _, _, h => h
  | .str _, _, _, h => h
  | .ref _, _, _, h => h
  | .ty _, _, _, h => h
  | .tup ds, _, c, h => by
    simp only [Rd, clD] at h c ⊢
    obtain ⟨a, vs, e, q, r⟩ := h
    exact ⟨a, vs, e, q, RdL.cutB ds vs c r⟩
  | .lst ds, _, c, h => by
    simp only [Rd, clD] at h c ⊢
    obtain ⟨a, vs, e, q, r⟩ := h
    exact ⟨a, vs, e, q, RdL.cutB ds vs c r⟩
  | .lsr ds, _, c, h => by
    simp only [Rd, clD] at h c ⊢
    obtain ⟨a, vs, e, q, r⟩ := h
    exact ⟨a, vs, e, q, RdL.cutB ds vs c r⟩
  | .obj k, _, c, h => by
    simp only [Rd, clD, decide_eq_true_eq] at h c ⊢
    obtain ⟨a, e, q⟩ := h
    exact ⟨a, e, by rw [List.getElem?_take_of_lt c]; exact q⟩
  | .exc _ _ ks ds, _, c, h => by
    simp only [Rd, clD] at h c ⊢
    obtain ⟨vs, e, q, l, r⟩ := h
    exact ⟨vs, e, q, l, RdL.cutB ds vs c r⟩
theorem RdL.cutB : ∀ (ds : List D) (vs : List V), clL n ds = true → RdL K ρ F ds vs → RdL K (ρ.take n) F ds vs
  | [], _, _, h => h
  | d :: ds, _, c, h => by
    simp only [RdL, clL, Bool.and_eq_true] at h c ⊢
    obtain ⟨v, r, e, h1, h2⟩ := h
    exact ⟨v, r, e, Rd.cut d v c.1 h1, RdL.cutB ds r c.2 h2⟩
end
theorem RdK.cut {κ : Type} : ∀ (ds : List (κ × D)) (vs : List (κ × V)), clK n ds = true → RdK K ρ F ds vs → RdK K (ρ.take n) F ds vs
  | [], _, _, h => h
  | (k, d) :: ds, _, c, h => by
    simp only [RdK, clK, Bool.and_eq_true] at h c ⊢
    obtain ⟨v, r, e, h1, h2⟩ := h
    exact ⟨v, r, e, Rd.cut d v c.1 h1, RdK.cut ds r c.2 h2⟩
theorem MRel.cut {μ : List MO} (h : MRel K mg ρ F μ H) (c : (μ.take n).all (clM n) = true) : MRel K mg (ρ.take n) F (μ.take n) H := by
  have up : ∀ {α : Type} {l : List α} {k : Nat} {x : α}, (l.take n)[k]? = some x → l[k]? = some x := fun {α l k x} e => by
    have hk : k < n := by
      have := (List.getElem?_eq_some_iff.mp e).1
      rw [List.length_take] at this
      omega
    rwa [List.getElem?_take_of_lt hk] at e
  refine ⟨h.sub, by simp [h.len], fun k a m e1 e2 al => ?_, fun j k a m n' e1 e2 e3 a1 e4 a2 => h.inj j k a m n' (up e1) (up e2) (up e3) a1 (up e4) a2, fun a ha => h.there a (List.mem_of_mem_take ha)⟩
  obtain ⟨f, q⟩ := h.own k a m (up e1) (up e2) al
  have cm := List.all_eq_true.mp c m (List.mem_of_getElem? e2)
  refine ⟨f, ?_⟩
  cases m with
  | lst ds => obtain ⟨vs, e, r⟩ := q; exact ⟨vs, e, RdL.cutB _ _ cm r⟩
  | dK ds => obtain ⟨vs, e, r⟩ := q; exact ⟨vs, e, RdK.cut _ _ cm r⟩
  | dT ds => obtain ⟨vs, e, r⟩ := q; exact ⟨vs, e, RdK.cut _ _ cm r⟩
  | ins C fs => obtain ⟨c', dx, vs, m1, e, r⟩ := q; exact ⟨c', dx, vs, m1, e, RdK.cut _ _ cm r⟩
  | gone => trivial
theorem Ext.cut {ρ' : List Addr} {F' H' : Hp} (x : Ext ρ F H ρ' F' H') : Ext ρ F H (ρ'.take ρ.length) F' H' := by
  obtain ⟨l, rfl⟩ := x.pre
  rw [List.take_left]
  exact ⟨⟨[], by simp⟩, x.fro, x.rest, fun a h => .inl h, x.newf⟩
end

/-! ### what a def promises -/
def PostF (K : PySem.W.Frag) (mg : Str → Option Value) (ρ : List Addr) (F H : Hp) (Q : VK) (E : XK) : R D → Prop
  | .bad => False
  | .ok d s' => ∀ ρ' F' H' v, Ext ρ F H ρ' F' H' → MRel K mg ρ' F' s'.m H' → Rd K ρ' F' d v → Q v H'
  | .ex e s' => ∀ ρ' F' H' cls dd, Ext ρ F H ρ' F' H' → MRel K mg ρ' F' s'.m H' → ExR K mg ρ' F' H' e cls dd → E cls dd H'
/-- what the def computes: of arguments and objects -/
abbrev GF := List D → List MO → R D
def spD (K : PySem.W.Frag) (mg : Str → Option Value) (n : Nat) (g : GF) : Sp := fun vs H Q E => ∃ ρ F μ args, args.length = n ∧ MRel K mg ρ F μ H ∧ RdL K ρ F args vs ∧ PostF K mg ρ F H Q E (g args μ)
/-- .. by its body; N: how many names -/
def runF (N : Nat) (fb : DS → R Fl) : GF := fun args μ => match fb ⟨args.map some ++ List.replicate (N - args.length) none, μ⟩ with
  | .ok .nx s => .ok .non ⟨[], s.m⟩
  | .ok (.rt d) s => .ok d ⟨[], s.m⟩
  | .ex e s => .ex e ⟨[], s.m⟩
  | _ => .bad
/-- the objects that the def made are let go -/
def cutF (g : GF) : GF := fun args μ => match g args μ with
  | .ok d s => if clD μ.length d = true ∧ (s.m.take μ.length).all (clM μ.length) = true then .ok d ⟨[], s.m.take μ.length⟩ else .bad
  | .ex e s => if clK μ.length e.fs = true ∧ (s.m.take μ.length).all (clM μ.length) = true then .ex e ⟨[], s.m.take μ.length⟩ else .bad
  | .bad => .bad
/-- a def without objects -/
abbrev GP := List D → R D
def pureF (g : GF) : GP := fun args => match g args [] with
  | .ok d _ => if clD 0 d = true then .ok d ⟨[], []⟩ else .bad
  | .ex e _ => if clK 0 e.fs = true then .ex e ⟨[], []⟩ else .bad
  | .bad => .bad
def PostP (K : PySem.W.Frag) (mg : Str → Option Value) (F H : Hp) (Q : VK) (E : XK) : R D → Prop
  | .bad => False
  | .ok d _ => ∀ F' H' v, Ext [] F H [] F' H' → Same F' H' → Rd K [] F' d v → Q v H'
  | .ex e _ => ∀ F' H' cls dd, Ext [] F H [] F' H' → Same F' H' → ExR K mg [] F' H' e cls dd → E cls dd H'
def spP (K : PySem.W.Frag) (mg : Str → Option Value) (n : Nat) (g : GP) : Sp := fun vs H Q E => ∃ F args, args.length = n ∧ Same F H ∧ RdL K [] F args vs ∧ PostP K mg F H Q E (g args)
section
variable {P : Program} {w : World} {K : PySem.W.Frag} {mg : Str → Option Value} {base : Heap} {k n : Nat} {f : Addr} {fd : FuncData} {ps : List Str}
theorem spD_len {g : GF} {vs : List V} {H : Hp} {Q : VK} {E : XK} (h : spD K mg n g vs H Q E) : vs.length = n := by
  obtain ⟨ρ, F, μ, args, hl, _, r, _⟩ := h
  rw [r.length, hl]
theorem spP_len {g : GP} {vs : List V} {H : Hp} {Q : VK} {E : XK} (h : spP K mg n g vs H Q E) : vs.length = n := by
  obtain ⟨F, args, hl, _, r, _⟩ := h
  rw [r.length, hl]
theorem start_rel {ρ : List Addr} {F : Hp} {args : List D} {vs : List V} {N : List Str} (r : RdL K ρ F args vs) : SRel K ρ F (args.map some ++ List.replicate (N.length - args.length) none) (L2.start N vs) := by
  unfold L2.start
  refine ⟨by simp [r.length], fun i d e => ?_⟩
  by_cases hi : i < args.length
  · rw [List.getElem?_append_left (by simpa using hi), List.getElem?_map] at e
    cases q : args[i]? with
    | none => rw [q] at e; cases e
    | some x =>
      rw [q] at e
      cases e
      obtain ⟨v, e1, r1⟩ := r.get q
      exact ⟨v, by rw [List.getElem?_append_left (by rw [List.length_map, r.length]; exact hi), List.getElem?_map, e1]; rfl, r1⟩
  · rw [List.getElem?_append_right (by simpa using hi), List.getElem?_replicate] at e
    split at e <;> cases e
/-- a def by its body -/
theorem fn_st {x qual : Str} {st : Stmt} {N : List Str} {fb : DS → R Fl} (F : Fun K x qual st f fd) (S : FnScope N ps (defScope st))
    (hb : ∀ (cdv : Value) (A : Around) (outer : List Env) (s : Shared) (H : Hp) (E : XK), Room k (A.deeper (envOfC qual (defScope st) s.heap.objs.size f cdv)) →
      PDss (cxOf (L2.CX P w) P w K mg base N qual (defScope st) f cdv A outer s H E) (fun cls d _ H' => E cls d H') (defBody st) fb) :
    FnOk P w K mg base (L2.CX P w) (k + 1) f fd ps (spD K mg ps.length (runF N.length fb)) := by
  refine F.okX S (fun vs H Q E h => spD_len h) (fun cdv A outer s H vs Q E hr h => ?_)
  obtain ⟨t, e1, l⟩ := hb cdv A outer s H E hr
  refine ⟨t, e1, ?_⟩
  obtain ⟨ρ, Fz, μ, args, hl, m, r, p⟩ := h
  refine l ρ Fz ⟨args.map some ++ List.replicate (N.length - args.length) none, μ⟩ (L2.start N vs) H _ ⟨m, start_rel r⟩ ?_
  unfold runF at p
  cases q : fb ⟨args.map some ++ List.replicate (N.length - args.length) none, μ⟩ with
  | bad => rw [q] at p; exact p
  | ex e s1 => rw [q] at p; exact fun ρ' F' H' σ' cls d x rl er => p ρ' F' H' cls d x rl.mem er
  | ok fl s1 =>
    rw [q] at p
    cases fl with
    | nx => exact fun ρ' F' H' σ' x rl => p ρ' F' H' .non x rl.mem rfl
    | rt d => exact fun ρ' F' H' v x m r => p ρ' F' H' v x m r
    | bk => exact p.elim
    | ct => exact p.elim
/-- what a def promises, told by an equal function -/
theorem fn_as {g g' : GF} (h : FnOk P w K mg base (L2.CX P w) k f fd ps (spD K mg n g)) (e : ∀ args μ, args.length = n → g' args μ ≠ .bad → g args μ = g' args μ) : FnOk P w K mg base (L2.CX P w) k f fd ps (spD K mg n g') := by
  refine h.imp fun vs H Q E q => ?_
  obtain ⟨ρ, F, μ, args, hl, m, r, p⟩ := q
  refine ⟨ρ, F, μ, args, hl, m, r, ?_⟩
  rw [e args μ hl fun z => by rw [z] at p; exact p]
  exact p
theorem fn_cut {g : GF} (h : FnOk P w K mg base (L2.CX P w) k f fd ps (spD K mg n g)) : FnOk P w K mg base (L2.CX P w) k f fd ps (spD K mg n (cutF g)) := by
  refine h.imp fun vs H Q E q => ?_
  obtain ⟨ρ, F, μ, args, hl, m, r, p⟩ := q
  refine ⟨ρ, F, μ, args, hl, m, r, ?_⟩
  unfold cutF at p
  cases q : g args μ with
  | bad => rw [q] at p; exact p
  | ok d s =>
    rw [q] at p
    simp only at p
    split at p
    · rename_i hc
      intro ρ' F' H' v x m' r'
      have e : ρ.length = μ.length := m.len
      refine p (ρ'.take ρ.length) F' H' v x.cut ?_ ?_
      · rw [e]; exact m'.cut hc.2
      · rw [e]; exact r'.cut _ _ hc.1
    · exact p.elim
  | ex d s =>
    rw [q] at p
    simp only at p
    split at p
    · rename_i hc
      intro ρ' F' H' cls dd x m' r'
      have e : ρ.length = μ.length := m.len
      refine p (ρ'.take ρ.length) F' H' cls dd x.cut ?_ ?_
      · rw [e]; exact m'.cut hc.2
      · obtain ⟨c, h1, h2, h3, h4⟩ := r'
        refine ⟨c, h1, h2, h3, fun hn => ?_⟩
        obtain ⟨a, vs', k1, k2, k3⟩ := h4 hn
        exact ⟨a, vs', k1, k2, by rw [e]; exact k3.cut _ _ hc.1⟩
    · exact p.elim
theorem fn_pure {g : GF} (h : FnOk P w K mg base (L2.CX P w) k f fd ps (spD K mg n g)) : FnOk P w K mg base (L2.CX P w) k f fd ps (spP K mg n (pureF g)) := by
  refine h.imp fun vs H Q E q => ?_
  obtain ⟨F, args, hl, sm, r, p⟩ := q
  refine ⟨[], F, [], args, hl, ⟨sm, rfl, fun k a m e _ _ => by simp at e, fun j k a m n e _ _ _ _ _ => by simp at e, fun a ha => by simp at ha⟩, r, ?_⟩
  unfold pureF at p
  have ex : ∀ {ρ' : List Addr} {F' H' : Hp}, Ext [] F H ρ' F' H' → Ext [] F H [] F' H' := fun x => ⟨⟨[], rfl⟩, x.fro, x.rest, fun a ha => by simp at ha, x.newf⟩
  cases q : g args [] with
  | bad => rw [q] at p; exact p
  | ok d s =>
    rw [q] at p
    simp only at p
    split at p
    · rename_i hc
      intro ρ' F' H' v x m' r'
      have r2 := r'.cut (n := 0) _ _ hc
      rw [List.take_zero] at r2
      exact p F' H' v (ex x) m'.sub r2
    · exact p.elim
  | ex d s =>
    rw [q] at p
    simp only at p
    split at p
    · rename_i hc
      intro ρ' F' H' cls dd x m' r'
      refine p F' H' cls dd (ex x) m'.sub ?_
      obtain ⟨c, h1, h2, h3, h4⟩ := r'
      refine ⟨c, h1, h2, h3, fun hn => ?_⟩
      obtain ⟨a, vs', k1, k2, k3⟩ := h4 hn
      have r2 := k3.cut (n := 0) _ _ hc
      rw [List.take_zero] at r2
      exact ⟨a, vs', k1, k2, r2⟩
    · exact p.elim
theorem fn_asP {g g' : GP} (h : FnOk P w K mg base (L2.CX P w) k f fd ps (spP K mg n g)) (e : ∀ args, args.length = n → g' args ≠ .bad → g args = g' args) : FnOk P w K mg base (L2.CX P w) k f fd ps (spP K mg n g') := by
  refine h.imp fun vs H Q E q => ?_
  obtain ⟨F, args, hl, m, r, p⟩ := q
  refine ⟨F, args, hl, m, r, ?_⟩
  rw [e args hl fun z => by rw [z] at p; exact p]
  exact p
end

/-! ### calls -/
section
variable {X : Cx} {W : WX} {k n : Nat} {f : Addr} {fd : FuncData} {ps : List Str} {x : Str} {p pos : Pos} {e : Expr} {es : List Expr} {fa : DS → R (List D)} {dvs : List V} {ds : List Value}
def fCallS (n : Nat) (fa : DS → R (List D)) (dds : List D) (g : GF) : DS → R D := fun s => (fa s).bind fun args s1 => if (args ++ dds).length = n then (match g (args ++ dds) s1.m with
  | .ok d s2 => .ok d ⟨s1.g, s2.m⟩
  | .ex e s2 => .ex e ⟨s1.g, s2.m⟩
  | .bad => .bad) else .bad
def fCallP (n : Nat) (fa : DS → R (List D)) (dds : List D) (g : GP) : DS → R D := fun s => (fa s).bind fun args s1 => if (args ++ dds).length = n ∧ clL 0 (args ++ dds) = true then (match g (args ++ dds) with
  | .ok d _ => .ok d s1
  | .ex e _ => .ex e s1
  | .bad => .bad) else .bad
theorem spD_post {g : GF} {ρ : List Addr} {F H : Hp} {s : DS} {σ : St} {Q : VK} {args : List D} {vs : List V} (rl : Rel X.K X.mg ρ F s σ H) (r : RdL X.K ρ F args vs) (hl : args.length = n)
    (h : Post X W (Rd X.K) ρ F H σ Q (match g args s.m with
      | .ok d s2 => .ok d ⟨s.g, s2.m⟩
      | .ex e s2 => .ex e ⟨s.g, s2.m⟩
      | .bad => .bad)) : spD X.K X.mg n g vs H Q (WE W σ) := by
  refine ⟨ρ, F, s.m, args, hl, rl.mem, r, ?_⟩
  cases q : g args s.m with
  | bad => rw [q] at h; exact h
  | ok d s2 => rw [q] at h; exact fun ρ' F' H' v x m r => h ρ' F' H' v x ⟨m, rl.slo.ext x⟩ r
  | ex d s2 => rw [q] at h; exact fun ρ' F' H' cls dd x m r => h ρ' F' H' cls dd x ⟨m, rl.slo.ext x⟩ r
theorem spP_post {g : GP} {ρ : List Addr} {F H : Hp} {s : DS} {σ : St} {Q : VK} {args : List D} {vs : List V} (rl : Rel X.K X.mg ρ F s σ H) (r : RdL X.K ρ F args vs) (hl : args.length = n) (hc : clL 0 args = true)
    (h : Post X W (Rd X.K) ρ F H σ Q (match g args with
      | .ok d _ => .ok d s
      | .ex e _ => .ex e s
      | .bad => .bad)) : spP X.K X.mg n g vs H Q (WE W σ) := by
  have r0 := RdL.cutB (n := 0) _ _ hc r
  rw [List.take_zero] at r0
  refine ⟨F, args, hl, rl.mem.sub, r0, ?_⟩
  have up : ∀ {F' H' : Hp}, Ext [] F H [] F' H' → Same F' H' → Ext ρ F H ρ F' H' ∧ MRel X.K X.mg ρ F' s.m H' := fun {F' H'} x sm => by
    have e1 : Ext ρ F H ρ F' H' := ⟨⟨[], by simp⟩, x.fro, fun a o h _ => x.rest a o h (by simp), fun a h => .inl h, fun a h => by
      rcases x.newf a h with z | z | z
      · exact .inl z
      · simp at z
      · exact .inr (.inr z)⟩
    refine ⟨e1, ⟨sm, rl.mem.len, fun k a m h1 h2 al => ?_, rl.mem.inj, fun a ha => ?_⟩⟩
    · obtain ⟨f0, q⟩ := rl.mem.own k a m h1 h2 al
      obtain ⟨o, ho⟩ := q.al_some al
      have ho' : H' a = H a := by rw [ho]; exact x.rest a o ho (by simp)
      refine ⟨?_, q.mono ⟨[], by simp⟩ x.fro ho'⟩
      cases z : F' a with
      | none => rfl
      | some u =>
        rcases x.newf a (by rw [z]; exact fun w => nomatch w) with w | w | w
        · exact absurd f0 w
        · simp at w
        · rw [ho] at w; cases w
    · have z := rl.mem.there a ha
      cases q : H a with
      | none => exact absurd q z
      | some o => rw [x.rest a o q (by simp)]; exact fun w => nomatch w
  have rup : ∀ {F' : Hp} {d : D} {v : V}, Rd X.K [] F' d v → Rd X.K ρ F' d v := fun {F' d v} r => Rd.mono ⟨ρ, by simp⟩ (Same.refl _) _ _ r
  cases q : g args with
  | bad => rw [q] at h; exact h
  | ok d s2 =>
    rw [q] at h
    exact fun F' H' v x sm r => h ρ F' H' v (up x sm).1 ⟨(up x sm).2, rl.slo.ext (up x sm).1⟩ (rup r)
  | ex d s2 =>
    rw [q] at h
    intro F' H' cls dd x sm r
    refine h ρ F' H' cls dd (up x sm).1 ⟨(up x sm).2, rl.slo.ext (up x sm).1⟩ ?_
    obtain ⟨c, h1, h2, h3, h4⟩ := r
    refine ⟨c, h1, h2, h3, fun hn => ?_⟩
    obtain ⟨a, vs', k1, k2, k3⟩ := h4 hn
    exact ⟨a, vs', k1, k2, RdK.mono ⟨ρ, by simp⟩ (Same.refl _) _ _ k3⟩
/-- what a call needs of a def, once -/
structure CallOk (X : Cx) (x : Str) (f : Addr) : Prop where
  hm : X.mg x = some (.ref f)
  hk : PySem.W.keepIn X.K (.ref f) = true
theorem pd_callS {g : GF} {dds : List D} (F : FnOk X.prog X.w X.K X.mg X.base (L2.CX X.prog X.w) k f fd ps (spD X.K X.mg n g)) (hr : Room k X.A) (hm : X.mg x = some (.ref f)) (hk : PySem.W.keepIn X.K (.ref f) = true) (hb : Binds X.K fd ps ds) (hd : Vals dvs ds)
    (rd : ∀ ρ F, RdL X.K ρ F dds dvs) (tk : Takes X W) (ha : PDA X W (e :: es) fa) (hg : Gl X x := by rfl) (hdb : (x == ("__debug__" : Str)) = false := by decide) (he : starEach (e :: es) X.env = (false, eval e X.env) :: starEach es X.env := by rfl)
    (hpl : (backTo pos (starEach es X.env)).any (·.1) = false := by rfl) : PD X W (.Call (.Name x p) (e :: es) [] pos) (fCallS n fa dds g) := by
  obtain ⟨ta, ea, la⟩ := ha
  refine ⟨_, pe_callSD F hr hg hm hk hb hd (fun σ => passAt tk σ) ea hdb he hpl, fun ρ F s σ H Q rl h => la ρ F s σ H _ rl (Post.bind h fun args s1 ρ1 F1 H1 vs x1 rl1 rd1 h1 => ?_)⟩
  split at h1
  · rename_i hc
    exact spD_post rl1 (rd1.append (rd ρ1 F1)) hc h1
  · exact h1.elim
theorem pd_callP {g : GP} {dds : List D} (F : FnOk X.prog X.w X.K X.mg X.base (L2.CX X.prog X.w) k f fd ps (spP X.K X.mg n g)) (hr : Room k X.A) (hm : X.mg x = some (.ref f)) (hk : PySem.W.keepIn X.K (.ref f) = true) (hb : Binds X.K fd ps ds) (hd : Vals dvs ds)
    (rd : ∀ ρ F, RdL X.K ρ F dds dvs) (tk : Takes X W) (ha : PDA X W (e :: es) fa) (hg : Gl X x := by rfl) (hdb : (x == ("__debug__" : Str)) = false := by decide) (he : starEach (e :: es) X.env = (false, eval e X.env) :: starEach es X.env := by rfl)
    (hpl : (backTo pos (starEach es X.env)).any (·.1) = false := by rfl) : PD X W (.Call (.Name x p) (e :: es) [] pos) (fCallP n fa dds g) := by
  obtain ⟨ta, ea, la⟩ := ha
  refine ⟨_, pe_callSD F hr hg hm hk hb hd (fun σ => passAt tk σ) ea hdb he hpl, fun ρ F s σ H Q rl h => la ρ F s σ H _ rl (Post.bind h fun args s1 ρ1 F1 H1 vs x1 rl1 rd1 h1 => ?_)⟩
  split at h1
  · rename_i hc
    exact spP_post rl1 (rd1.append (rd ρ1 F1)) hc.1 hc.2 h1
  · exact h1.elim

theorem pe_callSD0 {sp : Sp} {E : St → XK} {CX : CXT} (F : FnOk X.prog X.w X.K X.mg X.base CX k f fd ps sp) (hr : Room k X.A) (hg : Gl X x) (hm : X.mg x = some (.ref f)) (hk : PySem.W.keepIn X.K (.ref f) = true) (hb : Binds X.K fd ps ds) (hd : Vals dvs ds) (hx : ∀ σ, PassesAt CX X σ (E σ))
    (hdb : (x == ("__debug__" : Str)) = false := by decide) : PE X (.Call (.Name x p) [] [] pos) (tCallSD sp dvs E tNil) := by
  refine ⟨fun pins s σ H Q I h => ?_⟩
  refine wpAny_Call_Name_kw (ld_glob I hg hm ?_ hdb)
  exact PySem.W.callWith_K0 I.kIn hk (run_fnSD (us := []) F hr hb hd (hx σ) I .nil h)
theorem pd_callS0 {g : GF} {dds : List D} (F : FnOk X.prog X.w X.K X.mg X.base (L2.CX X.prog X.w) k f fd ps (spD X.K X.mg n g)) (hr : Room k X.A) (hm : X.mg x = some (.ref f)) (hk : PySem.W.keepIn X.K (.ref f) = true) (hb : Binds X.K fd ps ds) (hd : Vals dvs ds)
    (rd : ∀ ρ F, RdL X.K ρ F dds dvs) (tk : Takes X W) (hg : Gl X x := by rfl) (hdb : (x == ("__debug__" : Str)) = false := by decide) : PD X W (.Call (.Name x p) [] [] pos) (fCallS n fNil dds g) := by
  refine ⟨_, pe_callSD0 F hr hg hm hk hb hd (fun σ => passAt tk σ) hdb, fun ρ F s σ H Q rl h => ?_⟩
  have h1 : Post X W (Rd X.K) ρ F H σ Q (if (dds.length = n) then (match g dds s.m with
      | .ok d s2 => .ok d ⟨s.g, s2.m⟩
      | .ex e s2 => .ex e ⟨s.g, s2.m⟩
      | .bad => .bad) else .bad) := h
  split at h1
  · rename_i hc
    exact spD_post rl (rd ρ F) hc h1
  · exact h1.elim
theorem pd_callP0 {g : GP} {dds : List D} (F : FnOk X.prog X.w X.K X.mg X.base (L2.CX X.prog X.w) k f fd ps (spP X.K X.mg n g)) (hr : Room k X.A) (hm : X.mg x = some (.ref f)) (hk : PySem.W.keepIn X.K (.ref f) = true) (hb : Binds X.K fd ps ds) (hd : Vals dvs ds)
    (rd : ∀ ρ F, RdL X.K ρ F dds dvs) (tk : Takes X W) (hg : Gl X x := by rfl) (hdb : (x == ("__debug__" : Str)) = false := by decide) : PD X W (.Call (.Name x p) [] [] pos) (fCallP n fNil dds g) := by
  refine ⟨_, pe_callSD0 F hr hg hm hk hb hd (fun σ => passAt tk σ) hdb, fun ρ F s σ H Q rl h => ?_⟩
  have h1 : Post X W (Rd X.K) ρ F H σ Q (if (dds.length = n) ∧ clL 0 dds = true then (match g dds with
      | .ok d _ => .ok d s
      | .ex e _ => .ex e s
      | .bad => .bad) else .bad) := h
  split at h1
  · rename_i hc
    exact spP_post rl (rd ρ F) hc.1 hc.2 h1
  · exact h1.elim

/-! ### raise, try -/
def fRaise (c : Str) : DS → R Fl := fun s => .ex ⟨c, []⟩ s
/-- what the text says of an own class of exceptions -/
structure ExcT (K : PySem.W.Frag) (mg : Str → Option Value) (c : Str) (C : Addr) (B newId initId : String) (bmB : List Value) : Prop where
  gC : mg c = some (.ref C)
  fa : ExcBaseFacts B newId initId bmB
  ex : PySem.W.excIn K C bmB newId = true
  kC : PySem.W.keepIn K (.ref C) = true
  sC : PySem.W.subIn K (.ref C) (.type "BaseException") = some true
  tC : PySem.W.typeIn K (.ref C) = some (.type "type")
theorem pds_raise {c m : Str} {C : Addr} {B newId initId : String} {bmB : List Value} {j : Nat} {p p2 pos pos2 : Pos} (T : ExcT X.K X.mg c C B newId initId bmB) (hc : X.calm = true) (tk : Takes X W) (hg : Gl X c := by rfl) (hdb : (c == ("__debug__" : Str)) = false := by decide) :
    PDs X W (.Raise (some (.Call (.Name c p) [.Constant (.str m) j p2] [] pos)) none pos2) (fRaise c) := by
  refine ⟨_, ps_raise hc tk (pmk_own T.fa T.ex T.gC T.kC (raises_own T.sC T.tC) hg hdb), fun ρ F s σ H E rl h => ?_⟩
  exact h ρ F H σ (.ref C) none (Ext.refl ..) rl ⟨C, T.gC, rfl, fun _ => rfl, fun z => absurd rfl z⟩
/-- try: .. except C as n: suite -/
def fTryAs (fb : DS → R Fl) (ctch : Ex → Option Bool) (i : Nat) (fs : Addr → Ex → DS → R Fl) : DS → R Fl := fun s => match fb s with
  | .ex e s1 => match ctch e with
    | some true => (match fs 0 e { s1 with g := s1.g.set i (some (.ref 0)) } with
      | .ok fl s2 => .ok fl { s2 with g := s2.g.set i none }
      | _ => .bad)
    | some false => .ex e s1
    | none => .bad
  | r => r
/-- what is known of the exception that a suite holds -/
structure Held (X : Cx) (e : Ex) (cls : Value) (d : Option Addr) (a : Addr) (oe : Obj) : Prop where
  z : Zc cls d oe
  f : ∃ vs, oe.data = .fields vs
  c : ∃ C, X.mg e.cls = some (.ref C) ∧ cls = .ref C
  n : e.fs = [] → d = none
theorem SRel.unset {K : PySem.W.Frag} {ρ : List Addr} {F : Hp} {g : List (Option D)} {σ : St} (h : SRel K ρ F g σ) (i : Nat) : SRel K ρ F (g.set i none) (σ.set i none) := by
  refine ⟨by simp [h.len], fun j x e => ?_⟩
  by_cases hj : j = i
  · subst hj
    have hl : j < g.length := by
      have := (List.getElem?_eq_some_iff.mp e).1
      simpa using this
    rw [List.getElem?_set_self hl] at e
    cases e
  · rw [List.getElem?_set_ne (Ne.symm hj)] at e
    obtain ⟨u, e1, r1⟩ := h.at_ j x e
    exact ⟨u, by rw [List.getElem?_set_ne (Ne.symm hj)]; exact e1, r1⟩
theorem pds_try_as {xn n : Str} {c : Value} {i : Nat} {body suite : List Stmt} {b₀ : Stmt} {np pos pos' : Pos} {fb : DS → R Fl} {ctch : Ex → Option Bool} {fs : Addr → Ex → DS → R Fl}
    (hs : X.stack = X.env :: X.outer) (hf : X.env.frame = some X.env.locals) (hN : X.N.Nodup) (hi : X.N[i]? = some n) (hln : X.env.kindOf n = some .local) (hc : Names X xn c) (tk : Takes X W)
    (hct : ∀ (e : Ex) b C, ctch e = some b → X.mg e.cls = some (.ref C) → PySem.W.exmOne X.K (.ref C) c = some b)
    (hb : ∀ (W' : WX) (pn : List (Addr × Obj)) (xe : Value → Shared → Prop), Takes (X.tr pn xe) W' → PassesOwn (model X.prog X.w) X.A X.env xe → PDss (X.tr pn xe) W' body fb)
    (hsu : ∀ (a : Addr) (oe : Obj) (cls : Value) (d : Option Addr) (pn : List (Addr × Obj)) (e : Ex), Held X e cls d a oe → ctch e = some true → PDss (X.suite a ((a, oe) :: pn)) W0 (b₀ :: suite) (fs a e))
    (hin : ∀ (a : Addr) (e : Ex) (s : DS), (fs a e { s with g := s.g.set i (some (.ref a)) }).bind (fun fl s2 => R.ok fl { s2 with g := s2.g.set i none }) = (fs 0 e { s with g := s.g.set i (some (.ref 0)) }).bind (fun fl s2 => R.ok fl { s2 with g := s2.g.set i none })) :
    PDs X W (.Try body [.ExceptHandler (some (.Name xn np)) (some n) (b₀ :: suite) pos'] [] [] pos) (fTryAs fb ctch i fs) := by
  let tsO : Addr → Value → Option Addr → Ex → Obj → List (Addr × Obj) → TS := fun a cls d e oe pn => fun D σ H => ∀ (h : Held X e cls d a oe) (h' : ctch e = some true), (Classical.choose (hsu a oe cls d pn e h h')) D σ H
  let ts : Addr → Value → Option Addr → TS := fun a cls d => fun D σ H => ∃ e : Ex, (∃ C, X.mg e.cls = some (.ref C) ∧ cls = .ref C) ∧ (e.fs = [] → d = none) ∧ ctch e = some true ∧ ∀ oe pn, tsO a cls d e oe pn D σ H
  -- the body's readings, one for each wish
  let tb : WX → TS := fun W' => fun D σ H => ∀ pn xe (h1 : Takes (X.tr pn xe) W') (h2 : PassesOwn (model X.prog X.w) X.A X.env xe), (Classical.choose (hb W' pn xe h1 h2)) D σ H
  refine ⟨_, ps_try_as (tb := tb) (ts := ts) hs hf hN hi hln hc tk (fun W' pn xe h1 h2 => ⟨fun pins s σ H D I h => (Classical.choose_spec (hb W' pn xe h1 h2)).1.run pins s σ H D I (h pn xe h1 h2)⟩)
    (fun a oe cls d pn hz hf' => ⟨fun pins s σ H D I ⟨e, hc', hn, hq, h⟩ => (Classical.choose_spec (hsu a oe cls d pn e ⟨hz, hf', hc', hn⟩ hq)).1.run pins s σ H D I (h oe pn ⟨hz, hf', hc', hn⟩ hq)⟩), fun ρ F s σ H E rl h => ?_⟩
  intro pn xe h1 h2
  refine (Classical.choose_spec (hb _ pn xe h1 h2)).2 ρ F s σ H E rl ?_
  unfold fTryAs at h
  cases q : fb s with
  | bad => rw [q] at h; exact h
  | ok fl s1 => rw [q] at h; cases fl <;> exact h
  | ex e s1 =>
    rw [q] at h
    simp only at h
    intro ρ1 F1 H1 σ1 cls d x1 rl1 er
    obtain ⟨C, hC, rfl, hn1, hn2⟩ := er
    cases qc : ctch e with
    | none => rw [qc] at h; exact h.elim
    | some b =>
      rw [qc] at h
      refine ⟨b, hct _ b C qc hC, fun hb' a ha => ?_, fun hb' => ?_⟩
      · subst hb'
        simp only at h
        refine ⟨e, ⟨C, hC, rfl⟩, hn1, qc, fun oe pn hh hq => ?_⟩
        refine (Classical.choose_spec (hsu a oe (.ref C) d pn e hh hq)).2 ρ1 F1 { s1 with g := s1.g.set i (some (.ref a)) } _ H1 _ ⟨rl1.mem, rl1.slo.set i rfl⟩ ?_
        have hin' := hin a e s1
        cases q0 : fs 0 e { s1 with g := s1.g.set i (some (.ref 0)) } with
        | bad => rw [q0] at h; exact h.elim
        | ex _ _ => rw [q0] at h; exact h.elim
        | ok fl0 s0 =>
          rw [q0] at h hin'
          cases qa : fs a e { s1 with g := s1.g.set i (some (.ref a)) } with
          | bad => rw [qa] at hin'; cases hin'
          | ex _ _ => rw [qa] at hin'; cases hin'
          | ok fla sa =>
            rw [qa] at hin'
            have hin2 : R.ok fla { sa with g := sa.g.set i none } = R.ok fl0 { s0 with g := s0.g.set i none } := hin'
            injection hin2 with e1 e2
            subst e1
            have h3 : PostS X W ρ1 F1 H1 E (.ok fla { sa with g := sa.g.set i none }) := by
              rw [e2]
              exact PostS.ext h x1
            cases fla with
            | nx => exact fun ρ2 F2 H2 σ2 x2 rl2 => h3 ρ2 F2 H2 _ x2 ⟨rl2.mem, rl2.slo.unset i⟩
            | bk => exact fun ρ2 F2 H2 σ2 x2 rl2 => h3 ρ2 F2 H2 _ x2 ⟨rl2.mem, rl2.slo.unset i⟩
            | ct => exact fun ρ2 F2 H2 σ2 x2 rl2 => h3 ρ2 F2 H2 _ x2 ⟨rl2.mem, rl2.slo.unset i⟩
            | rt dd => exact fun ρ2 F2 H2 v x2 m2 r2 => h3 ρ2 F2 H2 v x2 m2 r2
      · subst hb'
        exact h ρ1 F1 H1 σ1 (.ref C) d x1 rl1 ⟨C, hC, rfl, hn1, hn2⟩
/-- isinstance(e, C), e the exception that the suite holds -/
def fIsE (a : Addr) (i : Nat) (ob : Option Bool) : DS → R D := fun s => match s.g[i]?, ob with
  | some (some (.ref x)), some b => if x = a then .ok (.bl b) s else .bad
  | _, _ => .bad
theorem pd_isE {a C0 : Addr} {oe : Obj} {pn : List (Addr × Obj)} {i : Nat} {ob : Option Bool} {en cn : Expr} {cV : V} {cv : Value} {p pos : Pos} (C : ExcC X.K C0) (hz : Zc (.ref C0) none oe) (hf : ∃ vs, oe.data = .fields vs)
    (he : PE (X.suite a ((a, oe) :: pn)) en (tVar i)) (hcl : PE (X.suite a ((a, oe) :: pn)) cn (tC cV)) (hcv : ∀ u, RelV cV u → u = cv) (hk : ∀ b, ob = some b → PySem.W.kitOne X.K (.ref C0) cv = some b) (hm : X.mg "isinstance" = none)
    (hv : bootBuiltins "isinstance" = some (.builtin "isinstance")) (hg : Gl (X.suite a ((a, oe) :: pn)) "isinstance" := by rfl)
    (hst : starEach [en, cn] X.env = [(false, eval en X.env), (false, eval cn X.env)] := by rfl) (hs2 : starEach [cn] X.env = [(false, eval cn X.env)] := by rfl) :
    PD (X.suite a ((a, oe) :: pn)) W (.Call (.Name "isinstance" p) [en, cn] [] pos) (fIsE a i ob) := by
  refine ⟨_, pe_callB (call_isE C hz hf) hg hm hv (pa_cons he (pa_cons hcl pa_nil (by show starEach [cn] X.env = _; rw [hs2]; rfl)) (by show starEach [en, cn] X.env = _ :: starEach [cn] X.env; rw [hst, hs2])) (he := by show starEach [en, cn] X.env = _ :: starEach [cn] X.env; rw [hst, hs2]) (hpl := by show (backTo pos (starEach [cn] X.env)).any (·.1) = false; rw [hs2]; rfl), fun ρ F s σ H Q rl h => ?_⟩
  unfold fIsE at h
  split at h
  · rename_i x b e
    split at h
    · rename_i hx
      subst hx
      obtain ⟨v, e1, r⟩ := rl.slo.at_ i _ e
      have r' : v = .ref x := r
      subst r'
      exact ⟨.ref x, e1, ⟨cV, cv, b, rfl, hcv, hk b rfl, h ρ F H _ (Ext.refl ..) rl rfl⟩⟩
    · exact h.elim
  · exact h.elim
end
section
variable {X : Cx} {W : WX} {pos : Pos}
/-- a comprehension as a value: a list that changes no more -/
theorem pd_lc {elt tg iter : Expr} {ifs : List Expr} {scope : Scope} {own : List (Str × Nat)} {t : Tg} {fi : DS → R Wk} {ft : DS → R Bool} {fe : DS → R D} (hc : X.calm = true) (hN : X.N.Nodup) (hi : PDI X W tg iter fi) (ok : BlkOk X.N X.env.scope scope own)
    (hg : ∀ (s : Shared) (H : Hp) (C : Addr) (cl : List (Str × Addr)) (fp : List Addr), PDG (X.blk s H scope (compEnvC scope cl C X.env) fp) tg t) (ht : ∀ (s : Shared) (H : Hp) (C : Addr) (cl : List (Str × Addr)) (fp : List Addr), PDTs (X.blk s H scope (compEnvC scope cl C X.env) fp) W0 ifs ft)
    (he : ∀ (s : Shared) (H : Hp) (C : Addr) (cl : List (Str × Addr)) (fp : List Addr), PD (X.blk s H scope (compEnvC scope cl C X.env) fp) W0 elt fe) (hm : ∀ j ∈ t.mem, j ∈ own.map (·.2)) (hs : ∀ x, foldedSetIterable iter X.env x = pure x := by intro _; rfl) :
    PD X W (.ListComp elt [⟨tg, iter, ifs, 0⟩] scope pos) (fLc (fComp fi t (own.map (·.2)) ft fe)) := by
  obtain ⟨wi, e1, li⟩ := hi
  let tt : TT := fun σ H Q => ∀ s H0 C cl fp, (Classical.choose (ht s H0 C cl fp)) σ H Q
  let te : TE := fun σ H Q => ∀ s H0 C cl fp, (Classical.choose (he s H0 C cl fp)) σ H Q
  refine ⟨_, pe_lc (g := t.tg X.K) (tt := tt) (te := te) hc hN e1 ok hg (fun s H0 C cl fp => ⟨fun pins s' σ H Q I h => (Classical.choose_spec (ht s H0 C cl fp)).1.run pins s' σ H Q I (h s H0 C cl fp)⟩)
    (fun s H0 C cl fp => ⟨fun pins s' σ H Q I h => (Classical.choose_spec (he s H0 C cl fp)).1.run pins s' σ H Q I (h s H0 C cl fp)⟩) hs, ?_⟩
  exact lc_stl hm li (fun ρ F s σ H Q rl h s0 H0 C cl fp => (Classical.choose_spec (ht s0 H0 C cl fp)).2 ρ F s σ H Q rl h) fun ρ F s σ H Q rl h s0 H0 C cl fp => (Classical.choose_spec (he s0 H0 C cl fp)).2 ρ F s σ H Q rl h
/-- name = [..], a local's name: a list that changes no more -/
theorem pds_setLc {i : Nat} {y : Str} {py spos : Pos} {elt tg iter : Expr} {ifs : List Expr} {scope : Scope} {own : List (Str × Nat)} {t : Tg} {fi : DS → R Wk} {ft : DS → R Bool} {fe : DS → R D} (hc : X.calm = true) (hN : X.N.Nodup) (hy : X.N[i]? = some y) (hyl : X.env.scope.names.lookup y = some .local)
    (hsw : swapsWith (.ListComp elt [⟨tg, iter, ifs, 0⟩] scope pos) (some (.Name y py)) spos.line X.env = pure true) (hi : PDI X W tg iter fi) (ok : BlkOk X.N X.env.scope scope own)
    (hg : ∀ (s : Shared) (H : Hp) (C : Addr) (cl : List (Str × Addr)) (fp : List Addr), PDG (X.blk s H scope (compEnvC scope cl C X.env) fp) tg t) (ht : ∀ (s : Shared) (H : Hp) (C : Addr) (cl : List (Str × Addr)) (fp : List Addr), PDTs (X.blk s H scope (compEnvC scope cl C X.env) fp) W0 ifs ft)
    (he : ∀ (s : Shared) (H : Hp) (C : Addr) (cl : List (Str × Addr)) (fp : List Addr), PD (X.blk s H scope (compEnvC scope cl C X.env) fp) W0 elt fe) (hm : ∀ j ∈ t.mem, j ∈ own.map (·.2)) (hs : ∀ x, foldedSetIterable iter X.env x = pure x := by intro _; rfl) :
    PDs X W (.Assign [.Name y py] (.ListComp elt [⟨tg, iter, ifs, 0⟩] scope pos) spos) (fAsg (fLc (fComp fi t (own.map (·.2)) ft fe)) (.one i)) := by
  obtain ⟨wi, e1, li⟩ := hi
  let tt : TT := fun σ H Q => ∀ s H0 C cl fp, (Classical.choose (ht s H0 C cl fp)) σ H Q
  let te : TE := fun σ H Q => ∀ s H0 C cl fp, (Classical.choose (he s H0 C cl fp)) σ H Q
  refine ⟨_, ps_setLc (g := t.tg X.K) (tt := tt) (te := te) hc hN hy hyl hsw e1 ok hg (fun s H0 C cl fp => ⟨fun pins s' σ H Q I h => (Classical.choose_spec (ht s H0 C cl fp)).1.run pins s' σ H Q I (h s H0 C cl fp)⟩)
    (fun s H0 C cl fp => ⟨fun pins s' σ H Q I h => (Classical.choose_spec (he s H0 C cl fp)).1.run pins s' σ H Q I (h s H0 C cl fp)⟩) hs, ?_⟩
  exact asg_run (t := .one i) (lc_stl hm li (fun ρ F s σ H Q rl h s0 H0 C cl fp => (Classical.choose_spec (ht s0 H0 C cl fp)).2 ρ F s σ H Q rl h) fun ρ F s σ H Q rl h s0 H0 C cl fp => (Classical.choose_spec (he s0 H0 C cl fp)).2 ρ F s σ H Q rl h)
end

/-! ### the law -/
def spLaw (K : PySem.W.Frag) : Sp := fun vs H Q _ => ∃ (a : Addr) (ns : List Int), vs = [.ref a] ∧ SqL K H a (ns.map V.int) ∧ ns.length ≤ 63 ∧ ∀ H', Q (.bl true) H'
theorem rdl_ints {K : PySem.W.Frag} {ρ : List Addr} {F : Hp} : ∀ ns : List Int, RdL K ρ F (ns.map D.int) (ns.map V.int)
  | [] => rfl
  | n :: ns => ⟨_, _, rfl, rfl, rdl_ints ns⟩
theorem fn_law {P : Program} {w : World} {K : PySem.W.Frag} {mg : Str → Option Value} {base : Heap} {k : Nat} {f : Addr} {fd : FuncData} {ps : List Str} {g : GF} (h : FnOk P w K mg base (L2.CX P w) k f fd ps (spD K mg 1 g))
    (e : ∀ ns : List Int, ns.length ≤ 63 → ∃ s, g [.lsr (ns.map D.int)] [] = .ok (.bl true) s) : FnOk P w K mg base (L2.CX P w) k f fd ps (spLaw K) := by
  refine h.imp fun vs H Q E q => ?_
  obtain ⟨a, ns, rfl, hs, hl, k⟩ := q
  refine ⟨[], H, [], [.lsr (ns.map D.int)], rfl, ⟨Same.refl H, rfl, fun k a m e _ _ => by simp at e, fun j k a m n e _ _ _ _ _ => by simp at e, fun a ha => by simp at ha⟩, ⟨.ref a, [], rfl, ⟨a, _, rfl, hs, rdl_ints ns⟩, rfl⟩, ?_⟩
  obtain ⟨s, e1⟩ := e ns hl
  rw [e1]
  intro ρ' F' H' v x m r
  cases r
  exact k H'
end DL
namespace DL
open PySem L2
theorem cx_no {P : Program} {w : World} {H : Hp} {s : Shared} {e : Value} {s' : Shared} (h : L2.CX P w [] H s (fun _ _ _ => False) e s') : False := by
  obtain ⟨_, _, _, _, _, _, _, _, _, _, _, _, z⟩ := h
  exact z
end DL

/-! Tools over data: loops, lists of intsD. -/
namespace DL
open PySem L2

theorem loop_go {P : List MO → Bool} {step : D → DS → R Fl} (I : Nat → DS → Prop) (its : List D) (hP : ∀ i s, I i s → P s.m = true)
    (h : ∀ i d s, its[i]? = some d → I i s → ∃ s', (step d s = .ok .nx s' ∨ step d s = .ok .ct s') ∧ I (i + 1) s') :
    ∀ (n k : Nat), k + n = its.length → ∀ s, I k s → ∃ s', loopL P step (its.drop k) s = .ok .nx s' ∧ I its.length s' := by
  intro n
  induction n with
  | zero =>
    intro k hk s hs
    have e : k = its.length := by omega
    subst e
    refine ⟨s, ?_, hs⟩
    rw [List.drop_length]
    unfold loopL
    rw [if_pos (hP _ _ hs)]
  | succ n ih =>
    intro k hk s hs
    have hlt : k < its.length := by omega
    rw [List.drop_eq_getElem_cons hlt]
    unfold loopL
    rw [if_pos (hP _ _ hs)]
    obtain ⟨s1, h1, h2⟩ := h k its[k] s (List.getElem?_eq_getElem hlt) hs
    obtain ⟨s2, h3, h4⟩ := ih (k + 1) (by omega) s1 h2
    refine ⟨s2, ?_, h4⟩
    rcases h1 with h1 | h1 <;> rw [h1] <;> exact h3
theorem loop_inv {P : List MO → Bool} {step : D → DS → R Fl} (I : Nat → DS → Prop) (its : List D) (hP : ∀ i s, I i s → P s.m = true)
    (h : ∀ i d s, its[i]? = some d → I i s → ∃ s', (step d s = .ok .nx s' ∨ step d s = .ok .ct s') ∧ I (i + 1) s') {s : DS} (h0 : I 0 s) :
    ∃ s', loopL P step its s = .ok .nx s' ∧ I its.length s' := by
  have := loop_go I its hP h its.length 0 (by omega) s h0
  rwa [List.drop_zero] at this
theorem comp_go {P : List MO → Bool} {step : D → DS → R (Option D)} {s : DS} (hP : P s.m = true) : ∀ (its ys acc : List D), its.length = ys.length → (∀ (i : Nat) x y, its[i]? = some x → ys[i]? = some y → step x s = .ok (some y) s) → acc.length + its.length ≤ sizeLine →
    compL P step its acc s = .ok (acc ++ ys) s
  | [], ys, acc, hl, _, _ => by
    have e : ys = [] := List.eq_nil_of_length_eq_zero hl.symm
    subst e
    rw [compL_nil, if_pos hP, List.append_nil]
  | x :: its, [], acc, hl, _, _ => by cases hl
  | x :: its, y :: ys, acc, hl, h, hs => by
    rw [compL_cons, if_pos hP, h 0 x y rfl rfl]
    simp only [List.length_cons] at hl hs
    have h2 : acc.length < sizeLine := by omega
    show (if Pr (acc.length < sizeLine) then compL P step its (acc ++ [y]) s else R.bad) = _
    rw [if_pos (show Pr _ from h2), comp_go hP its ys (acc ++ [y]) (by omega) (fun i a b e1 e2 => h (i + 1) a b e1 e2) (by rw [List.length_append]; simp only [List.length_singleton]; omega)]
    rw [List.append_assoc]
    rfl
/-- items that change the objects alone -/
theorem comp_inv {P : List MO → Bool} {step : D → DS → R (Option D)} (I : Nat → List D → DS → Prop) (its : List D) (hP : ∀ i a s, I i a s → P s.m = true) (hL : ∀ i a s, I i a s → i < its.length → a.length < sizeLine)
    (h : ∀ i d a s, its[i]? = some d → I i a s → ∃ y s', step d s = .ok (some y) s' ∧ I (i + 1) (a ++ [y]) s') :
    ∀ (n k : Nat), k + n = its.length → ∀ a s, I k a s → ∃ a' s', compL P step (its.drop k) a s = .ok a' s' ∧ I its.length a' s' := by
  intro n
  induction n with
  | zero =>
    intro k hk a s hs
    have e : k = its.length := by omega
    subst e
    exact ⟨a, s, by rw [List.drop_length, compL_nil, if_pos (hP _ _ _ hs)], hs⟩
  | succ n ih =>
    intro k hk a s hs
    have hlt : k < its.length := by omega
    obtain ⟨y, s1, h1, h2⟩ := h k its[k] a s (List.getElem?_eq_getElem hlt) hs
    obtain ⟨a2, s2, h3, h4⟩ := ih (k + 1) (by omega) _ s1 h2
    refine ⟨a2, s2, ?_, h4⟩
    rw [List.drop_eq_getElem_cons hlt, compL_cons, if_pos (hP _ _ _ hs), h1]
    show (if Pr (a.length < sizeLine) then compL P step (its.drop (k + 1)) (a ++ [y]) s1 else R.bad) = _
    rw [if_pos (show Pr _ from hL _ _ _ hs hlt)]
    exact h3

/-! ### lists of intsD -/
def intsD : List D → Option (List Int)
  | [] => some []
  | .int i :: ds => (intsD ds).map (i :: ·)
  | _ :: _ => none
theorem ints_eq : ∀ {ds : List D} {ns : List Int}, intsD ds = some ns → ds = ns.map .int
  | [], ns, e => by cases e; rfl
  | d :: ds, ns, e => by
    cases d with
    | int i =>
      simp only [intsD] at e
      cases q : intsD ds with
      | none => rw [q] at e; cases e
      | some ms =>
        rw [q] at e
        cases e
        rw [ints_eq q]
        rfl
    | _ => cases e
@[simp] theorem ints_map : ∀ ns : List Int, intsD (ns.map .int) = some ns
  | [] => rfl
  | n :: ns => by simp only [List.map_cons, intsD, ints_map ns, Option.map_some]
@[simp] theorem clL_ints (n : Nat) : ∀ ns : List Int, clL n (ns.map .int) = true
  | [] => rfl
  | _ :: ns => by simp only [List.map_cons, clL, clD, clL_ints n ns, Bool.and_self]
@[simp] theorem okL_ints (n : Nat) : ∀ ns : List Int, okL n (ns.map .int) = true
  | [] => by simp [okL]
  | _ :: ns => by simp only [List.map_cons, okL, okD, okL_ints n ns, Bool.and_self]
theorem rng_get {lo : Int} {n i : Nat} {d : D} (h : (rngD lo n)[i]? = some d) : i < n ∧ d = .int (lo + (i : Nat)) := by
  have hi : i < n := by
    have := (List.getElem?_eq_some_iff.mp h).1
    simpa [rngD] using this
  simp [rngD, hi] at h
  exact ⟨hi, h.symm⟩
@[simp] theorem rng_len (lo : Int) (n : Nat) : (rngD lo n).length = n := by simp [rngD]
theorem rng0_get {n i : Nat} {d : D} (h : (rngD 0 n)[i]? = some d) : i < n ∧ d = .int (i : Nat) := by
  obtain ⟨h1, h2⟩ := rng_get h
  exact ⟨h1, by rw [h2, Int.zero_add]⟩

/-! ### same data -/
mutual
theorem eqD_refl : ∀ (n : Nat) (d : D), okD n d = true → eqD d d = true
  | _, .non, _ => rfl
  | _, .bl b, _ => by simp [eqD]
  | _, .int i, _ => by simp [eqD]
  | _, .str x, _ => by simp [eqD]
  | n, .tup ds, h => by
    cases n with
    | zero => simp [okD] at h
    | succ n => simp only [okD] at h; simp only [eqD]; exact eqL_refl n ds h
  | n, .lst ds, h => by
    cases n with
    | zero => simp [okD] at h
    | succ n => simp only [okD] at h; simp only [eqD]; exact eqL_refl n ds h
  | n, .ref _, h => by simp [okD] at h
  | n, .ty _, h => by simp [okD] at h
  | n, .lsr _, h => by simp [okD] at h
  | n, .obj _, h => by simp [okD] at h
  | n, .exc _ _ _ _, h => by simp [okD] at h
theorem eqL_refl : ∀ (n : Nat) (ds : List D), okL n ds = true → eqL ds ds = true
  | _, [], _ => rfl
  | n, d :: ds, h => by
    simp only [okL, Bool.and_eq_true] at h
    simp only [eqL, eqD_refl n d h.1, eqL_refl n ds h.2, Bool.and_self]
end
mutual
theorem okD_cl : ∀ (n : Nat) (d : D), okD n d = true → ∀ m, clD m d = true
  | _, .non, _, _ => rfl
  | _, .bl b, _, _ => rfl
  | _, .int i, _, _ => rfl
  | _, .str x, _, _ => rfl
  | n, .tup ds, h, m => by
    cases n with
    | zero => simp [okD] at h
    | succ n => simp only [okD] at h; simp only [clD]; exact okL_cl n ds h m
  | n, .lst ds, h, m => by
    cases n with
    | zero => simp [okD] at h
    | succ n => simp only [okD] at h; simp only [clD]; exact okL_cl n ds h m
  | n, .ref _, h, _ => by simp [okD] at h
  | n, .ty _, h, _ => by simp [okD] at h
  | n, .lsr _, h, _ => by simp [okD] at h
  | n, .obj _, h, _ => by simp [okD] at h
  | n, .exc _ _ _ _, h, _ => by simp [okD] at h
theorem okL_cl : ∀ (n : Nat) (ds : List D), okL n ds = true → ∀ m, clL m ds = true
  | _, [], _, _ => rfl
  | n, d :: ds, h, m => by
    simp only [okL, Bool.and_eq_true] at h
    simp only [clL, okD_cl n d h.1 m, okL_cl n ds h.2 m, Bool.and_self]
end
theorem okL_get {n : Nat} : ∀ {ds : List D} {i : Nat} {d : D}, okL n ds = true → ds[i]? = some d → okD n d = true
  | [], i, d, _, e => by simp at e
  | x :: ds, 0, d, h, e => by
    simp only [okL, Bool.and_eq_true] at h
    simp at e
    subst e
    exact h.1
  | x :: ds, i + 1, d, h, e => by
    simp only [okL, Bool.and_eq_true] at h
    exact okL_get (i := i) h.2 (by simpa using e)
mutual
theorem okD_mono : ∀ (n m : Nat) (d : D), n ≤ m → okD n d = true → okD m d = true
  | _, _, .non, _, _ => by simp [okD]
  | _, _, .bl b, _, _ => by simp [okD]
  | _, _, .int i, _, _ => by simp [okD]
  | _, _, .str x, _, h => by simp only [okD] at h ⊢; exact h
  | n, m, .tup ds, hm, h => by
    cases n with
    | zero => simp [okD] at h
    | succ n =>
      cases m with
      | zero => omega
      | succ m => simp only [okD] at h ⊢; exact okL_mono n m ds (by omega) h
  | n, m, .lst ds, hm, h => by
    cases n with
    | zero => simp [okD] at h
    | succ n =>
      cases m with
      | zero => omega
      | succ m => simp only [okD] at h ⊢; exact okL_mono n m ds (by omega) h
  | n, m, .ref _, _, h => by simp [okD] at h
  | n, m, .ty _, _, h => by simp [okD] at h
  | n, m, .lsr _, _, h => by simp [okD] at h
  | n, m, .obj _, _, h => by simp [okD] at h
  | n, m, .exc _ _ _ _, _, h => by simp [okD] at h
theorem okL_mono : ∀ (n m : Nat) (ds : List D), n ≤ m → okL n ds = true → okL m ds = true
  | _, _, [], _, _ => by simp [okL]
  | n, m, d :: ds, hm, h => by
    simp only [okL, Bool.and_eq_true] at h ⊢
    exact ⟨okD_mono n m d hm h.1, okL_mono n m ds hm h.2⟩
end

/-! ### the bag of a law: its cells, how many are drawn, what is left, its knot -/
structure Bag where
  cells : List Int
  i : Int
  sd : Int
  kn : Int
def Bag.mo (b : Bag) : MO := .lst [.lst (b.cells.map .int), .int b.i, .int b.sd, .int b.kn]
def bagKnot (cells : List Int) : Int := cells.foldl (fun k c => (k * 1543 + c) % 2147483629) (17 + cells.length)
def bag0 (cells : List Int) : Bag := ⟨cells, 0, 0, bagKnot cells⟩
def Bag.mixed (kn i seed n : Int) : Int :=
  let fold := (seed * 48271 + i * 40692 + kn) % 2147483647
  let twist := (fold * fold + i) % 998244353
  (twist * 69621 + fold) % 2147483629 / 7 % n
/-- what is pulled, and the bag behind it -/
noncomputable def Bag.pull (b : Bag) (n : Int) : Int × Bag :=
  if Pr (b.sd < 2) then
    let i := b.i + 1
    let seed := if Pr (i ≤ b.cells.length) then b.cells.getD b.i.toNat 0 else b.kn + i * 7919
    if Pr (b.cells.length < i ∨ seed < 1000000000000000000) then (Bag.mixed b.kn i seed n, { b with i := i })
    else (seed % n, { b with i := i, sd := seed / n })
  else (b.sd % n, { b with sd := b.sd / n })
theorem Bag.pull_lt (b : Bag) {n : Int} (h : 0 < n) : 0 ≤ (b.pull n).1 ∧ (b.pull n).1 < n := by
  have k : ∀ x : Int, 0 ≤ x % n ∧ x % n < n := fun x => ⟨Int.emod_nonneg x (by omega), Int.emod_lt_of_pos x h⟩
  unfold Bag.pull
  simp only
  repeat' split
  all_goals exact k _
theorem Bag.pull_cells (b : Bag) (n : Int) : (b.pull n).2.cells = b.cells := by
  unfold Bag.pull
  simp only
  repeat' split
  all_goals rfl
/-- the objects' first is a bag -/
def bagAt : List MO → Option Bag
  | .lst [.lst cs, .int i, .int sd, .int kn] :: _ => match intsD cs with
    | some cells => if 0 ≤ i then some ⟨cells, i, sd, kn⟩ else none
    | none => none
  | _ => none
theorem bagAt_mo (b : Bag) (μ : List MO) (h : 0 ≤ b.i) : bagAt (b.mo :: μ) = some b := by
  simp [bagAt, Bag.mo, h]
theorem bagAt_eq {μ : List MO} {b : Bag} (h : bagAt μ = some b) : (∃ r, μ = b.mo :: r) ∧ 0 ≤ b.i := by
  unfold bagAt at h
  split at h
  · rename_i cs i sd kn r
    split at h
    · rename_i e
      split at h
      · rename_i h0
        cases h
        refine ⟨⟨r, ?_⟩, h0⟩
        simp only [Bag.mo]
        rw [ints_eq e]
      · cases h
    · cases h
  · cases h
/-- _law_pull(bag, n): the bag is the first object -/
noncomputable def g_law_pull : GF := fun args μ => match args with
  | [.obj 0, .int n] => match bagAt μ with
    | some b => if Pr (0 < n ∧ n < 1606938044258990275541962092341162602522202993782792835301376) then .ok (.int (b.pull n).1) ⟨[], (b.pull n).2.mo :: μ.tail⟩ else .bad
    | none => .bad
  | _ => .bad
def g_law_bag : GF := fun args μ => match args with
  | [.lsr cs] => match intsD cs with
    | some ns => if ns.length ≤ 63 then .ok (.obj μ.length) ⟨[], μ ++ [(bag0 ns).mo]⟩ else .bad
    | none => .bad
  | _ => .bad
theorem Bag.pull_i (b : Bag) (n : Int) (h : 0 ≤ b.i) : 0 ≤ (b.pull n).2.i := by
  unfold Bag.pull
  simp only
  repeat' split
  all_goals (first | exact h | (show 0 ≤ b.i + 1; omega))
theorem pull_ok {b : Bag} {μ : List MO} {n : Int} (hi : 0 ≤ b.i) (h : 0 < n) (h2 : n < 1606938044258990275541962092341162602522202993782792835301376) : g_law_pull [.obj 0, .int n] (b.mo :: μ) = .ok (.int (b.pull n).1) ⟨[], (b.pull n).2.mo :: μ⟩ := by
  unfold g_law_pull
  simp only [bagAt_mo b μ hi, if_pos (show Pr _ from And.intro h h2), List.tail_cons]
mutual
/-- the very same data -/
noncomputable def sm : D → D → Bool
  | .non, .non => true
  | .bl a, .bl b => a == b
  | .int i, .int j => dcd (i = j)
  | .str x, .str y => dcd (x = y)
  | .lst xs, .lst ys => smL xs ys
  | .tup xs, .tup ys => smL xs ys
  | _, _ => false
noncomputable def smL : List D → List D → Bool
  | [], [] => true
  | x :: xs, y :: ys => sm x y && smL xs ys
  | _, _ => false
end
mutual
theorem sm_eq : ∀ (a b : D), sm a b = true → a = b
  | .non, b, h => by cases b <;> first | rfl | (simp [sm] at h)
  | .bl x, b, h => by
    cases b with
    | bl y => simp only [sm, beq_iff_eq] at h; rw [h]
    | _ => simp [sm] at h
  | .int x, b, h => by
    cases b with
    | int y => simp only [sm, dcd_iff] at h; rw [h]
    | _ => simp [sm] at h
  | .str x, b, h => by
    cases b with
    | str y => simp only [sm, dcd_iff] at h; rw [h]
    | _ => simp [sm] at h
  | .lst xs, b, h => by
    cases b with
    | lst ys => simp only [sm] at h; rw [smL_eq xs ys h]
    | _ => simp [sm] at h
  | .tup xs, b, h => by
    cases b with
    | tup ys => simp only [sm] at h; rw [smL_eq xs ys h]
    | _ => simp [sm] at h
  | .ref _, b, h => by simp [sm] at h
  | .ty _, b, h => by simp [sm] at h
  | .lsr _, b, h => by simp [sm] at h
  | .obj _, b, h => by simp [sm] at h
  | .exc _ _ _ _, b, h => by simp [sm] at h
theorem smL_eq : ∀ (a b : List D), smL a b = true → a = b
  | [], [], _ => rfl
  | [], _ :: _, h => by simp [smL] at h
  | _ :: _, [], h => by simp [smL] at h
  | x :: xs, y :: ys, h => by
    simp only [smL, Bool.and_eq_true] at h
    rw [sm_eq x y h.1, smL_eq xs ys h.2]
end
mutual
theorem sm_refl : ∀ (n : Nat) (d : D), okD n d = true → sm d d = true
  | _, .non, _ => rfl
  | _, .bl b, _ => by simp [sm]
  | _, .int i, _ => by simp [sm]
  | _, .str x, _ => by simp [sm]
  | n, .tup ds, h => by
    cases n with
    | zero => simp [okD] at h
    | succ n => simp only [okD] at h; simp only [sm]; exact smL_refl n ds h
  | n, .lst ds, h => by
    cases n with
    | zero => simp [okD] at h
    | succ n => simp only [okD] at h; simp only [sm]; exact smL_refl n ds h
  | n, .ref _, h => by simp [okD] at h
  | n, .ty _, h => by simp [okD] at h
  | n, .lsr _, h => by simp [okD] at h
  | n, .obj _, h => by simp [okD] at h
  | n, .exc _ _ _ _, h => by simp [okD] at h
theorem smL_refl : ∀ (n : Nat) (ds : List D), okL n ds = true → smL ds ds = true
  | _, [], _ => rfl
  | n, d :: ds, h => by
    simp only [okL, Bool.and_eq_true] at h
    simp only [smL, sm_refl n d h.1, smL_refl n ds h.2, Bool.and_self]
end
mutual
/-- lists, tuples and texts of at most 2^24 items -/
noncomputable def sizeOkD : D → Bool
  | .tup ds => dcd (ds.length ≤ sizeLine) && sizeOkL ds
  | .lst ds => dcd (ds.length ≤ sizeLine) && sizeOkL ds
  | _ => true
noncomputable def sizeOkL : List D → Bool
  | [] => true
  | d :: ds => sizeOkD d && sizeOkL ds
end
/-- _law_same: of data that are the same, at most n floors -/
noncomputable def g_sameN : Nat → GP
  | 0 => fun _ => .bad
  | n + 1 => fun args => match args with
    | [f, d] => if Pr (okD n d = true ∧ sm f d = true ∧ sizeOkD d = true) then .ok (.bl true) ⟨[], []⟩ else .bad
    | _ => .bad
end DL
namespace DL
open PySem L2
/-! ### steps, by what comes in -/
@[simp] theorem gEq_int (i j : Int) (s : DS) : gEq (.int i) (.int j) s = .ok (.bl (dcd (i = j))) s := by
  unfold gEq
  rw [if_pos ⟨by simp only [vw, okD], by simp only [vw, okD]⟩]
  simp only [vw, eqD]
@[simp] theorem gNe_int (i j : Int) (s : DS) : gNe (.int i) (.int j) s = .ok (.bl (!dcd (i = j))) s := by
  unfold gNe
  rw [if_pos ⟨by simp only [vw, okD], by simp only [vw, okD]⟩]
  simp only [vw, eqD]
@[simp] theorem gEq_bl (i j : Bool) (s : DS) : gEq (.bl i) (.bl j) s = .ok (.bl (i == j)) s := by
  unfold gEq
  rw [if_pos ⟨by simp only [vw, okD], by simp only [vw, okD]⟩]
  simp only [vw, eqD]
@[simp] theorem gNe_bl (i j : Bool) (s : DS) : gNe (.bl i) (.bl j) s = .ok (.bl (!(i == j))) s := by
  unfold gNe
  rw [if_pos ⟨by simp only [vw, okD], by simp only [vw, okD]⟩]
  simp only [vw, eqD]
theorem gEq_str (x y : Str) (s : DS) (h1 : PyData.strOk x = true) (h2 : PyData.strOk y = true) : gEq (.str x) (.str y) s = .ok (.bl (dcd (x = y))) s := by
  unfold gEq
  rw [if_pos ⟨by simp only [vw, okD]; exact h1, by simp only [vw, okD]; exact h2⟩]
  simp only [vw, eqD]
theorem gNe_str (x y : Str) (s : DS) (h1 : PyData.strOk x = true) (h2 : PyData.strOk y = true) : gNe (.str x) (.str y) s = .ok (.bl (!dcd (x = y))) s := by
  unfold gNe
  rw [if_pos ⟨by simp only [vw, okD]; exact h1, by simp only [vw, okD]; exact h2⟩]
  simp only [vw, eqD]
theorem vw_ok {n : Nat} {d : D} {s : DS} (h : okD n d = true) : vw s d = d := by
  cases d <;> first | rfl | (simp [okD] at h)
theorem gEq_ok {x y : D} {s : DS} (h1 : okD 64 x = true) (h2 : okD 64 y = true) : gEq x y s = .ok (.bl (eqD x y)) s := by
  unfold gEq
  rw [vw_ok h1, vw_ok h2, if_pos ⟨h1, h2⟩]
theorem gNe_ok {x y : D} {s : DS} (h1 : okD 64 x = true) (h2 : okD 64 y = true) : gNe x y s = .ok (.bl (!eqD x y)) s := by
  unfold gNe
  rw [vw_ok h1, vw_ok h2, if_pos ⟨h1, h2⟩]
theorem gEq_self {x : D} {s : DS} (h1 : okD 64 x = true) : gEq x x s = .ok (.bl true) s := by
  rw [gEq_ok h1 h1, eqD_refl 64 x h1]
theorem gNe_self {x : D} {s : DS} (h1 : okD 64 x = true) : gNe x x s = .ok (.bl false) s := by
  rw [gNe_ok h1 h1, eqD_refl 64 x h1]
  rfl
theorem if_Pr {p : Prop} {α : Sort u} {a b : α} (h : p) : (if Pr p then a else b) = a := if_pos (show Pr p from h)
theorem if_nPr {p : Prop} {α : Sort u} {a b : α} (h : ¬ p) : (if Pr p then a else b) = b := if_neg (show ¬ Pr p from h)
theorem wkR1_nat (n : Nat) (s : DS) (h : n < 2 ^ 40) : wkR1 [.int n] s = .ok (rngD 0 n, allw) s := by
  unfold wkR1
  simp only
  rw [if_Pr (by constructor <;> omega), Int.toNat_natCast]
theorem wkR1_int (n : Int) (s : DS) (h0 : 0 ≤ n) (h : n < 2 ^ 40) : wkR1 [.int n] s = .ok (rngD 0 n.toNat, allw) s := by
  unfold wkR1
  simp only
  rw [if_Pr (by constructor <;> omega)]
@[simp] theorem sizeOkL_ints : ∀ ns : List Int, sizeOkL (ns.map .int) = true
  | [] => by simp [sizeOkL]
  | _ :: ns => by simp only [List.map_cons, sizeOkL, sizeOkD, sizeOkL_ints ns, Bool.and_self]
theorem g_same_refl (n : Nat) (d : D) (h : okD n d = true) (h2 : sizeOkD d = true) : g_sameN (n + 1) [d, d] = .ok (.bl true) ⟨[], []⟩ := by
  simp only [g_sameN]
  rw [if_Pr ⟨h, sm_refl n d h, h2⟩]
theorem pull_ex (b : Bag) (n : Int) (hi : 0 ≤ b.i) (h : 0 < n) (h2 : n < 1606938044258990275541962092341162602522202993782792835301376) :
    ∃ (v : Int) (b' : Bag), 0 ≤ b'.i ∧ 0 ≤ v ∧ v < n ∧ ∀ μ, g_law_pull [.obj 0, .int n] (b.mo :: μ) = .ok (.int v) ⟨[], b'.mo :: μ⟩ :=
  ⟨_, _, b.pull_i n hi, (b.pull_lt h).1, (b.pull_lt h).2, fun μ => pull_ok hi h h2⟩
theorem gIx_pick (is : List Int) (k : Int) (h0 : 0 ≤ k) (h : k < is.length) : ∃ n ∈ is, ∀ s, gIx (.lst (is.map .int)) (.int k) s = .ok (.int n) s := by
  obtain ⟨j, rfl⟩ : ∃ j : Nat, k = (j : Int) := ⟨k.toNat, (Int.toNat_of_nonneg h0).symm⟩
  have hj : j < is.length := by omega
  refine ⟨is[j], List.getElem_mem hj, fun s => ?_⟩
  have e : L2.atI (is.map D.int) ((j : Nat) : Int) = some (.int is[j]) := atI_nat (by rw [List.getElem?_map, List.getElem?_eq_getElem hj]; rfl)
  simp [gIx, seqV, e]
end DL

/-! What laws draw. -/
namespace DL
open PySem L2
/-- one after the other from the bag -/
def drawN {α : Type} (f : Bag → α × Bag) : Nat → Bag → List α × Bag
  | 0, b => ([], b)
  | k + 1, b => ((f b).1 :: (drawN f k (f b).2).1, (drawN f k (f b).2).2)
section
variable {α : Type} {f : Bag → α × Bag}
theorem drawN_len : ∀ (k : Nat) (b : Bag), (drawN f k b).1.length = k
  | 0, _ => rfl
  | k + 1, b => by simp only [drawN, List.length_cons, drawN_len k]
theorem drawN_i (h : ∀ b, 0 ≤ b.i → 0 ≤ (f b).2.i) : ∀ (k : Nat) (b : Bag), 0 ≤ b.i → 0 ≤ (drawN f k b).2.i
  | 0, _, hb => hb
  | k + 1, b, hb => drawN_i h k _ (h b hb)
theorem drawN_all {P : α → Prop} (h : ∀ b, 0 ≤ b.i → 0 ≤ (f b).2.i) (hp : ∀ b, 0 ≤ b.i → P (f b).1) : ∀ (k : Nat) (b : Bag), 0 ≤ b.i → ∀ x ∈ (drawN f k b).1, P x
  | 0, _, _, x, hx => by cases hx
  | k + 1, b, hb, x, hx => by
    simp only [drawN] at hx
    rcases List.mem_cons.mp hx with e | e
    · subst e
      exact hp b hb
    · exact drawN_all h hp k _ (h b hb) x e
theorem comp_draw {em : α → D} {step : D → DS → R (Option D)} {g : List (Option D)} {μ : List MO} (hi : ∀ b, 0 ≤ b.i → 0 ≤ (f b).2.i) (h : ∀ b x, 0 ≤ b.i → step x ⟨g, b.mo :: μ⟩ = .ok (some (em (f b).1)) ⟨g, (f b).2.mo :: μ⟩) :
    ∀ (its acc : List D) (b : Bag), 0 ≤ b.i → acc.length + its.length ≤ sizeLine → compL allw step its acc ⟨g, b.mo :: μ⟩ = .ok (acc ++ (drawN f its.length b).1.map em) ⟨g, (drawN f its.length b).2.mo :: μ⟩
  | [], acc, b, hb, _ => by
    rw [compL_nil, if_pos (show allw _ = true from rfl)]
    simp [drawN]
  | x :: its, acc, b, hb, hs => by
    rw [compL_cons, if_pos (show allw _ = true from rfl), h b x hb]
    simp only [List.length_cons] at hs
    show (if Pr (acc.length < sizeLine) then compL allw step its (acc ++ [em (f b).1]) ⟨g, (f b).2.mo :: μ⟩ else R.bad) = _
    rw [if_Pr (by omega), comp_draw hi h its (acc ++ [em (f b).1]) (f b).2 (hi b hb) (by rw [List.length_append, List.length_singleton]; omega)]
    simp only [List.length_cons, drawN, List.map_cons, List.append_assoc, List.singleton_append]
end
/-- bytes as laws draw them -/
noncomputable def bytesF (most : Int) (b : Bag) : List Int × Bag :=
  let p := b.pull (most + 1)
  let q := p.2.pull 4
  if Pr (q.1 = 0) then (List.replicate p.1.toNat (q.2.pull 256).1, (q.2.pull 256).2) else drawN (·.pull 256) p.1.toNat q.2
theorem bytesF_i (most : Int) (b : Bag) (h : 0 ≤ b.i) : 0 ≤ (bytesF most b).2.i := by
  unfold bytesF
  have k1 := (b.pull_i (most + 1) h)
  have k2 := Bag.pull_i _ 4 k1
  simp only
  split
  · exact Bag.pull_i _ 256 k2
  · exact drawN_i (fun b hb => b.pull_i 256 hb) _ _ k2
theorem bytesF_len (most : Int) (b : Bag) (h : 0 ≤ most) : ((bytesF most b).1.length : Int) ≤ most := by
  unfold bytesF
  have k1 := b.pull_lt (n := most + 1) (by omega)
  simp only
  split
  · rw [List.length_replicate]; omega
  · rw [drawN_len]; omega
theorem bytesF_all (most : Int) (b : Bag) (h : 0 ≤ b.i) : ∀ x ∈ (bytesF most b).1, 0 ≤ x ∧ x < 256 := by
  unfold bytesF
  have k1 := (b.pull_i (most + 1) h)
  have k2 := Bag.pull_i _ 4 k1
  simp only
  split
  · intro x hx
    rw [(List.mem_replicate.mp hx).2]
    exact Bag.pull_lt _ (by omega)
  · exact drawN_all (P := fun x => 0 ≤ x ∧ x < 256) (fun b hb => b.pull_i 256 hb) (fun b _ => b.pull_lt (by omega)) _ _ k2
theorem flat1 {α : Type} (x : α) : ∀ n : Nat, (List.replicate n [x]).flatten = List.replicate n x
  | 0 => rfl
  | n + 1 => by rw [List.replicate_succ, List.flatten_cons, flat1 x n]; rfl
theorem flat_rep (v : Int) (n : Nat) : (List.replicate n [D.int v]).flatten = (List.replicate n v).map .int := by
  rw [flat1, List.map_replicate]
/-! ### items by number -/
@[simp] theorem atI_0 {α : Type} (a0 : α) (l : List α) : L2.atI (a0 :: l) 0 = some a0 := by
  have e : (0 : Int) ≤ 0 ∧ (0 : Int) < ((l.length + 1 : Nat) : Int) := ⟨by omega, by omega⟩
  unfold L2.atI ixN
  simp only [List.length_cons]
  rw [if_pos e.1, if_pos (by omega)]
  rfl
@[simp] theorem atI_1 {α : Type} (a0 a1 : α) (l : List α) : L2.atI (a0 :: a1 :: l) 1 = some a1 := by
  have e : (0 : Int) ≤ 1 ∧ (1 : Int) < ((l.length + 2 : Nat) : Int) := ⟨by omega, by omega⟩
  unfold L2.atI ixN
  simp only [List.length_cons]
  rw [if_pos e.1, if_pos (by omega)]
  rfl
@[simp] theorem atI_2 {α : Type} (a0 a1 a2 : α) (l : List α) : L2.atI (a0 :: a1 :: a2 :: l) 2 = some a2 := by
  have e : (0 : Int) ≤ 2 ∧ (2 : Int) < ((l.length + 3 : Nat) : Int) := ⟨by omega, by omega⟩
  unfold L2.atI ixN
  simp only [List.length_cons]
  rw [if_pos e.1, if_pos (by omega)]
  rfl
@[simp] theorem atI_3 {α : Type} (a0 a1 a2 a3 : α) (l : List α) : L2.atI (a0 :: a1 :: a2 :: a3 :: l) 3 = some a3 := by
  have e : (0 : Int) ≤ 3 ∧ (3 : Int) < ((l.length + 4 : Nat) : Int) := ⟨by omega, by omega⟩
  unfold L2.atI ixN
  simp only [List.length_cons]
  rw [if_pos e.1, if_pos (by omega)]
  rfl
@[simp] theorem atI_4 {α : Type} (a0 a1 a2 a3 a4 : α) (l : List α) : L2.atI (a0 :: a1 :: a2 :: a3 :: a4 :: l) 4 = some a4 := by
  have e : (0 : Int) ≤ 4 ∧ (4 : Int) < ((l.length + 5 : Nat) : Int) := ⟨by omega, by omega⟩
  unfold L2.atI ixN
  simp only [List.length_cons]
  rw [if_pos e.1, if_pos (by omega)]
  rfl
@[simp] theorem atI_5 {α : Type} (a0 a1 a2 a3 a4 a5 : α) (l : List α) : L2.atI (a0 :: a1 :: a2 :: a3 :: a4 :: a5 :: l) 5 = some a5 := by
  have e : (0 : Int) ≤ 5 ∧ (5 : Int) < ((l.length + 6 : Nat) : Int) := ⟨by omega, by omega⟩
  unfold L2.atI ixN
  simp only [List.length_cons]
  rw [if_pos e.1, if_pos (by omega)]
  rfl
@[simp] theorem atI_6 {α : Type} (a0 a1 a2 a3 a4 a5 a6 : α) (l : List α) : L2.atI (a0 :: a1 :: a2 :: a3 :: a4 :: a5 :: a6 :: l) 6 = some a6 := by
  have e : (0 : Int) ≤ 6 ∧ (6 : Int) < ((l.length + 7 : Nat) : Int) := ⟨by omega, by omega⟩
  unfold L2.atI ixN
  simp only [List.length_cons]
  rw [if_pos e.1, if_pos (by omega)]
  rfl
@[simp] theorem atI_7 {α : Type} (a0 a1 a2 a3 a4 a5 a6 a7 : α) (l : List α) : L2.atI (a0 :: a1 :: a2 :: a3 :: a4 :: a5 :: a6 :: a7 :: l) 7 = some a7 := by
  have e : (0 : Int) ≤ 7 ∧ (7 : Int) < ((l.length + 8 : Nat) : Int) := ⟨by omega, by omega⟩
  unfold L2.atI ixN
  simp only [List.length_cons]
  rw [if_pos e.1, if_pos (by omega)]
  rfl
@[simp] theorem atI_8 {α : Type} (a0 a1 a2 a3 a4 a5 a6 a7 a8 : α) (l : List α) : L2.atI (a0 :: a1 :: a2 :: a3 :: a4 :: a5 :: a6 :: a7 :: a8 :: l) 8 = some a8 := by
  have e : (0 : Int) ≤ 8 ∧ (8 : Int) < ((l.length + 9 : Nat) : Int) := ⟨by omega, by omega⟩
  unfold L2.atI ixN
  simp only [List.length_cons]
  rw [if_pos e.1, if_pos (by omega)]
  rfl
@[simp] theorem atI_9 {α : Type} (a0 a1 a2 a3 a4 a5 a6 a7 a8 a9 : α) (l : List α) : L2.atI (a0 :: a1 :: a2 :: a3 :: a4 :: a5 :: a6 :: a7 :: a8 :: a9 :: l) 9 = some a9 := by
  have e : (0 : Int) ≤ 9 ∧ (9 : Int) < ((l.length + 10 : Nat) : Int) := ⟨by omega, by omega⟩
  unfold L2.atI ixN
  simp only [List.length_cons]
  rw [if_pos e.1, if_pos (by omega)]
  rfl
@[simp] theorem atI_10 {α : Type} (a0 a1 a2 a3 a4 a5 a6 a7 a8 a9 a10 : α) (l : List α) : L2.atI (a0 :: a1 :: a2 :: a3 :: a4 :: a5 :: a6 :: a7 :: a8 :: a9 :: a10 :: l) 10 = some a10 := by
  have e : (0 : Int) ≤ 10 ∧ (10 : Int) < ((l.length + 11 : Nat) : Int) := ⟨by omega, by omega⟩
  unfold L2.atI ixN
  simp only [List.length_cons]
  rw [if_pos e.1, if_pos (by omega)]
  rfl
@[simp] theorem atI_11 {α : Type} (a0 a1 a2 a3 a4 a5 a6 a7 a8 a9 a10 a11 : α) (l : List α) : L2.atI (a0 :: a1 :: a2 :: a3 :: a4 :: a5 :: a6 :: a7 :: a8 :: a9 :: a10 :: a11 :: l) 11 = some a11 := by
  have e : (0 : Int) ≤ 11 ∧ (11 : Int) < ((l.length + 12 : Nat) : Int) := ⟨by omega, by omega⟩
  unfold L2.atI ixN
  simp only [List.length_cons]
  rw [if_pos e.1, if_pos (by omega)]
  rfl
@[simp] theorem clL_append (n : Nat) : ∀ (a b : List D), clL n (a ++ b) = (clL n a && clL n b)
  | [], b => by simp [clL]
  | x :: a, b => by simp only [List.cons_append, clL, clL_append n a b, Bool.and_assoc]
@[simp] theorem okL_append (n : Nat) : ∀ (a b : List D), okL n (a ++ b) = (okL n a && okL n b)
  | [], b => by simp [okL]
  | x :: a, b => by simp only [List.cons_append, okL, okL_append n a b, Bool.and_assoc]
@[simp] theorem sizeOkL_append : ∀ (a b : List D), sizeOkL (a ++ b) = (sizeOkL a && sizeOkL b)
  | [], b => by simp [sizeOkL]
  | x :: a, b => by simp only [List.cons_append, sizeOkL, sizeOkL_append a b, Bool.and_assoc]
theorem rd_tupF {K : PySem.W.Frag} {ρ : List Addr} {F : Hp} {a : Addr} {o : Obj} {its : Array Value} {n : Nat} {ds : List D} (vs : List V) (h : K.lookup a = some o) (hc : o.cls = .type "tuple") (hd : o.data = .seq its n) (hz : its.size ≤ sizeLine) (hv : Vals vs its.toList) (hr : RdL K ρ F ds vs) (hk : ¬ keyish ds := by simp [keyish]) : Rd K ρ F (.tup ds) (.ref a) :=
  ⟨a, vs, rfl, ⟨.inr ⟨o, its, n, h, hc, hd, hz, hv⟩, fun z => absurd z hk⟩, hr⟩
/-- the bits of a number, the lowest first -/
def bitsI (n : Int) (k : Nat) : List Int := (List.range k).map fun i => n / 2 ^ i % 2
theorem bitsI_succ (n : Int) (k : Nat) : bitsI n (k + 1) = bitsI n k ++ [n / 2 ^ k % 2] := by
  unfold bitsI
  rw [List.range_succ, List.map_append]
  rfl
theorem bitsI_len (n : Int) (k : Nat) : (bitsI n k).length = k := by simp [bitsI]
theorem bitsI_01 (n : Int) (k : Nat) : ∀ b ∈ bitsI n k, b = 0 ∨ b = 1 := by
  intro b hb
  unfold bitsI at hb
  obtain ⟨i, _, rfl⟩ := List.mem_map.mp hb
  omega
theorem half_pow (n : Int) (k : Nat) : n / 2 ^ k / 2 = n / 2 ^ (k + 1) := by
  rw [Int.pow_succ, ← Int.ediv_ediv_of_nonneg (by exact Int.pow_nonneg (by decide))]
/-- the number of bits, the highest first -/
def highI (l : List Int) : Int := l.foldl (fun a b => 2 * a + b) 0
theorem highI_snoc (l : List Int) (b : Int) : highI (l ++ [b]) = 2 * highI l + b := by
  unfold highI
  rw [List.foldl_append]
  rfl
theorem highI_lt : ∀ (n : Nat) (l : List Int), l.length = n → (∀ b ∈ l, b = 0 ∨ b = 1) → 0 ≤ highI l ∧ highI l < 2 ^ l.length
  | 0, l, hl, _ => by
    have e : l = [] := List.eq_nil_of_length_eq_zero hl
    subst e
    decide
  | n + 1, l, hl, h => by
    have hne : l ≠ [] := fun e => by subst e; cases hl
    have e := (List.dropLast_concat_getLast hne).symm
    have h1 := h _ (List.getLast_mem hne)
    generalize l.getLast hne = b at e h1
    generalize hm : l.dropLast = m at e
    subst e
    have hlm : m.length = n := by simpa using hl
    obtain ⟨p, q⟩ := highI_lt n m hlm fun b hb => h b (by simp [hb])
    rw [highI_snoc, List.length_append, List.length_singleton, Int.pow_succ]
    omega
theorem orbit {a b : Int} (h : 0 ≤ a) (hb : b = 0 ∨ b = 1) : Builtin.bitOr (a * 2) b = 2 * a + b := by
  have := or_low (q := a) (r := b) (k := 1) h (by omega) (by omega)
  rw [show a * 2 ^ 1 = a * 2 from by rfl] at this
  rw [this]
  omega
def bits01 (ns : List Int) : Prop := ∀ b ∈ ns, b = 0 ∨ b = 1
theorem cdw {i j : Int} (h : 0 < j) (h2 : j < 1606938044258990275541962092341162602522202993782792835301376) : CDivW i j := by
  refine ⟨h, ?_⟩
  have h4 : j.natAbs ≠ 0 := by omega
  have h3 : j.natAbs < 2 ^ 200 := by
    have e : (2 : Nat) ^ 200 = 1606938044258990275541962092341162602522202993782792835301376 := by decide
    omega
  have := (Nat.log2_lt h4).mpr h3
  omega
theorem cdw2 (z : Int) : CDivW z 2 := cdw (by omega) (by omega)
end DL

/-! More rules, and ends of walks. -/
namespace DL
open PySem L2
/-! ### new lists by + -/
section
variable {X : Cx} {W : WX}
noncomputable def gAddN : D → D → DS → R D := fun x y s => match lstV s x, lstV s y with
  | some xs, some ys => if Pr (xs.length + ys.length ≤ sizeLine) then .ok (.obj s.m.length) { s with m := s.m ++ [.lst (xs ++ ys)] } else .bad
  | _, _ => .bad
theorem opd_addN : OpD X W (rAddA X.K) gAddN := by
  intro ρ F s σ H x y v u Q rl r1 r2 h
  unfold gAddN at h
  split at h
  · rename_i xs ys e1 e2
    obtain ⟨a, vs, rfl, q1, l1⟩ := lstV_rd rl.mem r1 e1
    obtain ⟨b, us, rfl, q2, l2⟩ := lstV_rd rl.mem r2 e2
    split at h
    · rename_i hc
      exact .inr ⟨a, b, vs, us, rfl, rfl, q1, q2, by rw [l1.length, l2.length]; exact hc, Post.new h rl (l1.append l2)⟩
    · exact h.elim
  · exact h.elim
end
/-! ### ends -/
/-- r ends well, so that Q -/
def R.sat {α : Type} (r : R α) (Q : α → DS → Prop) (_ : Tag Q := .mk) : Prop := match r with
  | .ok a s => Q a s
  | _ => False
theorem sat_ok {α : Type} {a : α} {s : DS} {Q : α → DS → Prop} : (R.ok a s).sat Q ↔ Q a s := Iff.rfl
theorem R.sat.ex {α : Type} {r : R α} {Q : α → DS → Prop} (h : r.sat Q) : ∃ a s, r = .ok a s ∧ Q a s := by
  cases r with
  | ok a s => exact ⟨a, s, rfl, h⟩
  | _ => exact h.elim
/-- a loop that runs through -/
theorem loop_sat {P : List MO → Bool} {step : D → DS → R Fl} (I : Nat → DS → Prop) (its : List D) (hP : ∀ i s, I i s → P s.m = true)
    (h : ∀ i d s, its[i]? = some d → I i s → (step d s).sat fun fl s' => (fl = .nx ∨ fl = .ct) ∧ I (i + 1) s') {s : DS} (h0 : I 0 s) :
    ∃ s', loopL P step its s = .ok .nx s' ∧ I its.length s' :=
  loop_inv I its hP (fun i d s e hs => by
    obtain ⟨fl, s', e1, e2, e3⟩ := (h i d s e hs).ex
    rcases e2 with rfl | rfl
    · exact ⟨s', .inl e1, e3⟩
    · exact ⟨s', .inr e1, e3⟩) h0
/-- .. over range(n) -/
theorem loop_rng {step : D → DS → R Fl} (I : Nat → DS → Prop) (n : Nat)
    (h : ∀ i s, i < n → I i s → (step (.int i) s).sat fun fl s' => (fl = .nx ∨ fl = .ct) ∧ I (i + 1) s') {s : DS} (h0 : I 0 s) :
    ∃ s', loopL allw step (rngD 0 n) s = .ok .nx s' ∧ I n s' := by
  have := loop_sat (P := allw) (step := step) I (rngD 0 n) (fun _ _ _ => rfl) (fun i d s e hs => by
    obtain ⟨hi, rfl⟩ := rng0_get e
    exact h i s hi hs) h0
  rwa [rng_len] at this
/-- .. over a list of ints -/
theorem loop_ints {step : D → DS → R Fl} (I : Nat → DS → Prop) (ns : List Int)
    (h : ∀ i n s, ns[i]? = some n → I i s → (step (.int n) s).sat fun fl s' => (fl = .nx ∨ fl = .ct) ∧ I (i + 1) s') {s : DS} (h0 : I 0 s) :
    ∃ s', loopL allw step (ns.map .int) s = .ok .nx s' ∧ I ns.length s' := by
  have := loop_sat (P := allw) (step := step) I (ns.map .int) (fun _ _ _ => rfl) (fun i d s e hs => by
    rw [List.getElem?_map] at e
    cases q : ns[i]? with
    | none => rw [q] at e; cases e
    | some n =>
      rw [q] at e
      cases e
      exact h i n s q hs) h0
  rwa [List.length_map] at this
/-- the first k turns -/
theorem loop_to {P : List MO → Bool} {step : D → DS → R Fl} (I : Nat → DS → Prop) (its : List D) (hP : ∀ i s, I i s → P s.m = true) :
    ∀ (k : Nat), k ≤ its.length → (∀ i d s, i < k → its[i]? = some d → I i s → (step d s).sat fun fl s' => (fl = .nx ∨ fl = .ct) ∧ I (i + 1) s') → ∀ {s : DS}, I 0 s →
      ∃ s', I k s' ∧ loopL P step its s = loopL P step (its.drop k) s'
  | 0, _, _, s, h0 => ⟨s, h0, by rw [List.drop_zero]⟩
  | k + 1, hk, h, s, h0 => by
    obtain ⟨s1, i1, e1⟩ := loop_to I its hP k (by omega) (fun i d s hi => h i d s (by omega)) h0
    have hlt : k < its.length := by omega
    obtain ⟨fl, s2, e2, e3, e4⟩ := (h k its[k] s1 (by omega) (List.getElem?_eq_getElem hlt) i1).ex
    refine ⟨s2, e4, e1.trans ?_⟩
    rw [List.drop_eq_getElem_cons hlt]
    conv => lhs; unfold loopL
    rw [if_pos (hP _ _ i1), e2]
    rcases e3 with rfl | rfl <;> rfl
theorem comp_ints {step : D → DS → R (Option D)} {s : DS} (f : Int → D) (ns : List Int) (h : ∀ n ∈ ns, step (.int n) s = .ok (some (f n)) s) (hl : ns.length ≤ sizeLine) :
    compL allw step (ns.map .int) [] s = .ok (ns.map f) s := by
  have := comp_go (P := allw) (step := step) (s := s) rfl (ns.map .int) (ns.map f) [] (by simp) (fun i x y e1 e2 => by
    rw [List.getElem?_map] at e1 e2
    cases q : ns[i]? with
    | none => rw [q] at e1; cases e1
    | some n =>
      rw [q] at e1 e2
      cases e1
      cases e2
      exact h n (List.mem_of_getElem? q)) (by simpa using hl)
  simpa using this
theorem atI_pick (ds : List D) (k : Int) (h0 : 0 ≤ k) (h : k < ds.length) : ∃ d ∈ ds, L2.atI ds k = some d := by
  obtain ⟨j, rfl⟩ : ∃ j : Nat, k = (j : Int) := ⟨k.toNat, (Int.toNat_of_nonneg h0).symm⟩
  have hj : j < ds.length := by omega
  exact ⟨ds[j], List.getElem_mem hj, atI_nat (List.getElem?_eq_getElem hj)⟩
theorem cut_to (ds : List D) (k : Int) (h0 : 0 ≤ k) (h : k ≤ ds.length) : cutG ds none (some k) = ds.take k.toNat := by
  obtain ⟨j, rfl⟩ : ∃ j : Nat, k = (j : Int) := ⟨k.toNat, (Int.toNat_of_nonneg h0).symm⟩
  unfold cutG
  rw [HT.sIx_nat, show HT.sIx ds.length 0 none = 0 from rfl, List.drop_zero, Nat.sub_zero, Nat.min_eq_left (by omega), Int.toNat_natCast]
theorem cut_from (ds : List D) (k : Int) (h0 : 0 ≤ k) : cutG ds (some k) none = ds.drop k.toNat := by
  obtain ⟨j, rfl⟩ : ∃ j : Nat, k = (j : Int) := ⟨k.toNat, (Int.toNat_of_nonneg h0).symm⟩
  unfold cutG
  rw [HT.sIx_nat, show HT.sIx ds.length ds.length none = ds.length from rfl, Int.toNat_natCast]
  by_cases h : j ≤ ds.length
  · rw [Nat.min_eq_left h, List.take_of_length_le (by simp)]
  · rw [Nat.min_eq_right (by omega), List.drop_of_length_le (Nat.le_refl _), List.drop_of_length_le (by omega), List.take_nil]
/-! ### bits -/
theorem take_get {α : Type} {l : List α} {i : Nat} {x : α} (h : l[i]? = some x) : l.take (i + 1) = l.take i ++ [x] := by
  rw [List.take_add_one, h]
  rfl
/-! ### check sums -/
/-- added onto a beginning, bit by bit -/
def addW : List Int → List Int → List Int
  | [], ys => ys
  | _ :: _, [] => []
  | w :: ws, y :: ys => (y + w) % 2 :: addW ws ys
theorem addW_len : ∀ ws ys : List Int, (addW ws ys).length = ys.length
  | [], ys => rfl
  | _ :: _, [] => rfl
  | w :: ws, y :: ys => by simp [addW, addW_len ws ys]
theorem addW_bits : ∀ ws ys : List Int, bits01 ys → bits01 (addW ws ys)
  | [], ys, h => h
  | _ :: _, [], h => h
  | w :: ws, y :: ys, h => by
    intro b hb
    simp only [addW, List.mem_cons] at hb
    rcases hb with e | e
    · omega
    · exact addW_bits ws ys (fun c hc => h c (by simp [hc])) b e
theorem addW_zero : ∀ (ws ys : List Int), bits01 ys → addW (ws ++ [0]) ys = addW ws ys
  | [], [], _ => rfl
  | [], y :: ys, h => by
    have := h y (by simp)
    simp only [List.nil_append, addW, List.cons.injEq, and_true]
    omega
  | _ :: _, [], _ => rfl
  | w :: ws, y :: ys, h => by simp only [List.cons_append, addW, addW_zero ws ys fun c hc => h c (by simp [hc])]
theorem addW_assoc : ∀ (ws vs ys : List Int), ws.length ≤ vs.length → vs.length ≤ ys.length → addW ws (addW vs ys) = addW (addW ws vs) ys
  | [], _, _, _, _ => rfl
  | _ :: _, [], _, h, _ => by simp at h
  | _ :: _, _ :: _, [], _, h => by simp at h
  | w :: ws, v :: vs, y :: ys, h1, h2 => by
    simp only [List.length_cons] at h1 h2
    simp only [addW, addW_assoc ws vs ys (by omega) (by omega), List.cons.injEq, and_true]
    omega
theorem addW_nil : ∀ (ws ys : List Int), (∀ y ∈ ys, y = 0) → bits01 ws → ws.length = ys.length → addW ws ys = ws
  | [], [], _, _, _ => rfl
  | [], _ :: _, _, _, h => by simp at h
  | _ :: _, [], _, _, h => by simp at h
  | w :: ws, y :: ys, h, hb, hl => by
    have h1 := h y (by simp)
    have h2 := hb w (by simp)
    simp only [addW, addW_nil ws ys (fun c hc => h c (by simp [hc])) (fun c hc => hb c (by simp [hc])) (by simpa using hl), List.cons.injEq, and_true]
    omega
/-- one step of a register, its highest bit first -/
def regStep (W R : List Int) (b : Int) : List Int := match R with
  | [] => []
  | r :: R' => if (b + r) % 2 = 1 then addW W (R' ++ [0]) else R' ++ [0]
def regN (W : List Int) : List Int → List Int → List Int
  | R, [] => R
  | R, b :: row => regN W (regStep W R b) row
theorem regStep_len (W R : List Int) (b : Int) : (regStep W R b).length = R.length := by
  cases R with
  | nil => rfl
  | cons r R' =>
    unfold regStep
    simp only
    split <;> simp [addW_len]
theorem regStep_bits (W R : List Int) (b : Int) (h : bits01 R) : bits01 (regStep W R b) := by
  cases R with
  | nil => exact h
  | cons r R' =>
    have h0 : bits01 (R' ++ [0]) := fun c hc => by
      rcases List.mem_append.mp hc with e | e
      · exact h c (by simp [e])
      · exact .inl (by simpa using e)
    unfold regStep
    simp only
    split
    · exact addW_bits _ _ h0
    · exact h0
theorem regN_snoc (W : List Int) (b : Int) : ∀ (row R : List Int), regN W R (row ++ [b]) = regStep W (regN W R row) b
  | [], R => rfl
  | c :: row, R => by simp only [List.cons_append, regN, regN_snoc W b row]
theorem regN_len (W : List Int) : ∀ (row R : List Int), (regN W R row).length = R.length
  | [], R => rfl
  | c :: row, R => by simp only [regN, regN_len W row, regStep_len]
theorem regN_bits (W : List Int) : ∀ (row R : List Int), bits01 R → bits01 (regN W R row)
  | [], R, h => h
  | c :: row, R, h => regN_bits W row _ (regStep_bits W R c h)
/-- long division -/
def divStep (W l : List Int) : List Int := match l with
  | [] => []
  | x :: l' => if x = 1 then addW W l' else l'
def divN (W : List Int) : Nat → List Int → List Int
  | 0, l => l
  | n + 1, l => divN W n (divStep W l)
theorem divN_succ (W : List Int) : ∀ (n : Nat) (l : List Int), divN W (n + 1) l = divStep W (divN W n l)
  | 0, _ => rfl
  | n + 1, l => divN_succ W n (divStep W l)
theorem divStep_len (W l : List Int) : (divStep W l).length = l.length - 1 := by
  cases l with
  | nil => rfl
  | cons x l' =>
    unfold divStep
    simp only
    split <;> simp [addW_len]
theorem divN_len (W : List Int) : ∀ (n : Nat) (l : List Int), (divN W n l).length = l.length - n
  | 0, _ => rfl
  | n + 1, l => by rw [divN, divN_len W n, divStep_len]; omega
theorem div_reg (W : List Int) (m : Nat) (hW : W.length = m) (hm : 0 < m) : ∀ (row R : List Int), R.length = m → bits01 R → bits01 row → divN W row.length (addW R (row ++ List.replicate m 0)) = regN W R row
  | [], R, hl, hR, _ => by
    simp only [List.length_nil, divN, List.nil_append, regN]
    exact addW_nil R _ (fun y hy => (List.mem_replicate.mp hy).2) hR (by simp [hl])
  | b :: row, R, hl, hR, hr => by
    cases R with
    | nil => simp at hl; omega
    | cons r R' =>
      have hr' : bits01 row := fun c hc => hr c (by simp [hc])
      have h0 : bits01 (row ++ List.replicate m 0) := fun c hc => by
        rcases List.mem_append.mp hc with e | e
        · exact hr' c e
        · exact .inl (List.mem_replicate.mp e).2
      have hl' : R'.length + 1 = m := by simpa using hl
      have ih := div_reg W m hW hm row (regStep W (r :: R') b) (by rw [regStep_len]; exact hl) (regStep_bits W _ b hR) hr'
      simp only [List.length_cons, divN, List.cons_append, addW, divStep, regN]
      rw [← ih]
      congr 1
      unfold regStep
      simp only
      rw [← addW_zero R' _ h0]
      split
      · rw [addW_assoc W (R' ++ [0]) _ (by simp; omega) (by simp; omega)]
      · rfl
/-- the check sum, the highest bit first -/
def crcI (W row : List Int) : List Int := (regN W (List.replicate W.length 1) row).map (1 - ·)
theorem highI_cons (r : Int) : ∀ (n : Nat) (l : List Int), l.length = n → highI (r :: l) = r * 2 ^ l.length + highI l
  | 0, l, hl => by
    have e : l = [] := List.eq_nil_of_length_eq_zero hl
    subst e
    simp [highI]
  | n + 1, l, hl => by
    have hne : l ≠ [] := fun e => by subst e; cases hl
    have e := (List.dropLast_concat_getLast hne).symm
    generalize l.getLast hne = b at e
    generalize hm : l.dropLast = m at e
    subst e
    have hlm : m.length = n := by simpa using hl
    have ih := highI_cons r n m hlm
    rw [← List.cons_append, highI_snoc, highI_snoc, ih, List.length_append, List.length_singleton, Int.pow_succ]
    generalize (2 : Int) ^ m.length = p
    have : r * (p * 2) = 2 * (r * p) := by rw [Int.mul_comm p 2, Int.mul_left_comm]
    omega
/-- complement -/
theorem highI_not : ∀ (n : Nat) (l : List Int), l.length = n → highI (l.map (1 - ·)) = 2 ^ l.length - 1 - highI l
  | 0, l, hl => by
    have e : l = [] := List.eq_nil_of_length_eq_zero hl
    subst e
    decide
  | n + 1, l, hl => by
    have hne : l ≠ [] := fun e => by subst e; cases hl
    have e := (List.dropLast_concat_getLast hne).symm
    generalize l.getLast hne = b at e
    generalize hm : l.dropLast = m at e
    subst e
    have hlm : m.length = n := by simpa using hl
    have ih := highI_not n m hlm
    rw [List.map_append, List.map_singleton, highI_snoc, highI_snoc, ih, List.length_append, List.length_singleton, Int.pow_succ]
    omega
theorem addW_snoc : ∀ (ws l : List Int) (w y : Int), l[ws.length]? = some y → addW (ws ++ [w]) l = (addW ws l).set ws.length ((y + w) % 2) ∧ (addW ws l)[ws.length]? = some y
  | [], [], _, _, h => by simp at h
  | [], z :: l, w, y, h => by
    simp only [List.length_nil, List.getElem?_cons_zero, Option.some.injEq] at h
    subst h
    simp [addW]
  | v :: ws, [], _, _, h => by simp at h
  | v :: ws, z :: l, w, y, h => by
    simp only [List.length_cons, List.getElem?_cons_succ] at h
    have := addW_snoc ws l w y h
    simp only [List.cons_append, addW, List.length_cons, List.set_cons_succ, List.getElem?_cons_succ, this.1, this.2, and_self]
open PySem.Spec PyProof.Rows in
theorem and_low (a c x y : Int) (ha : 0 ≤ a) (hc : 0 ≤ c) (hx : x = 0 ∨ x = 1) (hy : y = 0 ∨ y = 1) : Builtin.bitAnd (2 * a + x) (2 * c + y) = 2 * Builtin.bitAnd a c + x * y := by
  rw [bitAnd_pp (by omega) (by omega), bitAnd_pp ha hc]
  have e1 : (2 * a + x).toNat = 2 * a.toNat + x.toNat := by omega
  have e2 : (2 * c + y).toNat = 2 * c.toNat + y.toNat := by omega
  rw [e1, e2]
  generalize a.toNat = p
  generalize c.toNat = q
  have k1 : ((2 * p + x.toNat) &&& (2 * q + y.toNat)) / 2 = p &&& q := by
    rw [Nat.and_div_two, show (2 * p + x.toNat) / 2 = p by omega, show (2 * q + y.toNat) / 2 = q by omega]
  have k2 : ((2 * p + x.toNat) &&& (2 * q + y.toNat)) % 2 = x.toNat &&& y.toNat := by
    have := Nat.and_mod_two_pow (a := 2 * p + x.toNat) (b := 2 * q + y.toNat) (n := 1)
    rw [show 2 ^ 1 = 2 from rfl] at this
    rw [this, show (2 * p + x.toNat) % 2 = x.toNat by omega, show (2 * q + y.toNat) % 2 = y.toNat by omega]
  have k3 : x.toNat &&& y.toNat = x.toNat * y.toNat := by rcases hx with rfl | rfl <;> rcases hy with rfl | rfl <;> decide
  have k4 : ((x.toNat * y.toNat : Nat) : Int) = x * y := by rcases hx with rfl | rfl <;> rcases hy with rfl | rfl <;> decide
  rw [k3] at k2
  generalize ((2 * p + x.toNat) &&& (2 * q + y.toNat)) = z at *
  generalize p &&& q = w at *
  generalize x * y = t at *
  generalize x.toNat * y.toNat = t' at *
  omega
open PySem.Spec PyProof.Rows in
theorem xor_low (a c x y : Int) (ha : 0 ≤ a) (hc : 0 ≤ c) (hx : x = 0 ∨ x = 1) (hy : y = 0 ∨ y = 1) : Builtin.bitXor (2 * a + x) (2 * c + y) = 2 * Builtin.bitXor a c + (x + y) % 2 := by
  rw [bitXor_and, bitXor_and, and_low a c x y ha hc hx hy]
  rcases hx with rfl | rfl <;> rcases hy with rfl | rfl <;> omega
theorem addW_both : ∀ (ws ys : List Int) (w y : Int), ws.length = ys.length → addW (ws ++ [w]) (ys ++ [y]) = addW ws ys ++ [(y + w) % 2]
  | [], [], _, _, _ => rfl
  | [], _ :: _, _, _, h => by simp at h
  | _ :: _, [], _, _, h => by simp at h
  | v :: ws, z :: ys, w, y, h => by simp only [List.cons_append, addW, addW_both ws ys w y (by simpa using h)]
theorem highI_xor : ∀ (n : Nat) (a c : List Int), a.length = n → c.length = n → bits01 a → bits01 c → Builtin.bitXor (highI a) (highI c) = highI (addW c a)
  | 0, a, c, h1, h2, _, _ => by
    have e1 : a = [] := List.eq_nil_of_length_eq_zero h1
    have e2 : c = [] := List.eq_nil_of_length_eq_zero h2
    subst e1 e2
    decide +kernel
  | n + 1, a, c, h1, h2, ha, hc => by
    have n1 : a ≠ [] := fun e => by subst e; cases h1
    have n2 : c ≠ [] := fun e => by subst e; cases h2
    have e1 := (List.dropLast_concat_getLast n1).symm
    have e2 := (List.dropLast_concat_getLast n2).symm
    have b1 := ha _ (List.getLast_mem n1)
    have b2 := hc _ (List.getLast_mem n2)
    generalize a.getLast n1 = x at e1 b1
    generalize c.getLast n2 = y at e2 b2
    generalize hm : a.dropLast = p at e1
    generalize hm' : c.dropLast = q at e2
    subst e1 e2
    have l1 : p.length = n := by simpa using h1
    have l2 : q.length = n := by simpa using h2
    have hp : bits01 p := fun b hb => ha b (by simp [hb])
    have hq : bits01 q := fun b hb => hc b (by simp [hb])
    rw [highI_snoc, highI_snoc, addW_both q p y x (by omega), highI_snoc, xor_low _ _ _ _ (highI_lt _ p rfl hp).1 (highI_lt _ q rfl hq).1 b1 b2, highI_xor n p q l1 l2 hp hq]
/-- the marks of the two sums, the highest bit first -/
def W5 : List Int := [0, 0, 1, 0, 1]
def W16 : List Int := [1, 0, 0, 0, 0, 0, 0, 0, 0, 0, 0, 0, 0, 1, 0, 1]
/-- a register's step as a number -/
theorem reg_num (W R : List Int) (b full : Int) (hW : bits01 W) (hR : bits01 R) (hl : R.length = W.length) (h0 : 0 < W.length) (hf : full + 1 = 2 ^ W.length) (hand : ∀ x, Builtin.bitAnd x full = x % (full + 1)) (hb : b = 0 ∨ b = 1) :
    (full < highI R * 2 ∨ highI R * 2 ≤ full) ∧ (full < highI R * 2 → b = 0 → highI (regStep W R b) = Builtin.bitXor (Builtin.bitAnd (highI R * 2) full) (highI W)) ∧ (full < highI R * 2 → b = 1 → highI (regStep W R b) = Builtin.bitAnd (highI R * 2) full) ∧
      (highI R * 2 ≤ full → b = 1 → highI (regStep W R b) = Builtin.bitXor (Builtin.bitAnd (highI R * 2) full) (highI W)) ∧ (highI R * 2 ≤ full → b = 0 → highI (regStep W R b) = Builtin.bitAnd (highI R * 2) full) := by
  cases R with
  | nil => simp at hl; omega
  | cons r R' =>
    have hr := hR r (by simp)
    have hR' : bits01 R' := fun c hc => hR c (by simp [hc])
    have h2 : bits01 (R' ++ [0]) := fun c hc => by
      rcases List.mem_append.mp hc with e | e
      · exact hR' c e
      · exact .inl (by simpa using e)
    have hlt := highI_lt _ R' rfl hR'
    have hc := highI_cons r _ R' rfl
    have hs : highI (R' ++ [0]) = 2 * highI R' := by rw [highI_snoc]; omega
    have hm : full + 1 = 2 * 2 ^ R'.length := by
      rw [hf, ← hl, List.length_cons, Int.pow_succ]
      omega
    have hl2 : (R' ++ [0]).length = W.length := by rw [← hl]; simp
    have hx := highI_xor _ (R' ++ [0]) W hl2 rfl h2 hW
    have hA : Builtin.bitAnd (highI (r :: R') * 2) full = highI (R' ++ [0]) := by
      rw [hand, hs, hc]
      generalize (2 : Int) ^ R'.length = p at *
      rcases hr with rfl | rfl
      · rw [show (0 * p + highI R') * 2 = 2 * highI R' by omega]
        exact Int.emod_eq_of_lt (by omega) (by omega)
      · rw [show (1 * p + highI R') * 2 = 2 * highI R' + (full + 1) by omega, Int.add_emod_right]
        exact Int.emod_eq_of_lt (by omega) (by omega)
    have hgt : full < highI (r :: R') * 2 ↔ r = 1 := by
      rw [hc]
      generalize (2 : Int) ^ R'.length = p at *
      rcases hr with rfl | rfl <;> omega
    rw [hA, hx]
    unfold regStep
    simp only
    refine ⟨by omega, fun g e => ?_, fun g e => ?_, fun g e => ?_, fun g e => ?_⟩
    · have := hgt.mp g
      rw [if_pos (by omega)]
    · have := hgt.mp g
      rw [if_neg (by omega)]
    · have : r ≠ 1 := fun z => by have := hgt.mpr z; omega
      rw [if_pos (by omega)]
    · have : r ≠ 1 := fun z => by have := hgt.mpr z; omega
      rw [if_neg (by omega)]
theorem crc_num (W row : List Int) (full : Int) (hf : full + 1 = 2 ^ W.length) (hW : bits01 W) : Builtin.bitXor (highI (regN W (List.replicate W.length 1) row)) full = highI (crcI W row) := by
  have hb : bits01 (List.replicate W.length 1) := fun c hc => .inr (List.mem_replicate.mp hc).2
  have h1 := regN_bits W row _ hb
  have h2 := regN_len W row (List.replicate W.length 1)
  rw [List.length_replicate] at h2
  have hfull : full = highI (List.replicate W.length 1) := by
    have e := highI_not _ (List.replicate W.length (1 : Int)) rfl
    rw [List.map_replicate, List.length_replicate] at e
    have z : ∀ n, highI (List.replicate n (1 - 1 : Int)) = 0 := fun n => by
      induction n with
      | zero => rfl
      | succ n ih => rw [List.replicate_succ', highI_snoc, ih]; rfl
    rw [z] at e
    omega
  rw [hfull, highI_xor _ _ _ h2 (by simp) h1 hb]
  congr 1
  unfold crcI
  generalize regN W (List.replicate W.length 1) row = l at *
  clear hfull hb hf hW
  revert h2
  generalize W.length = n
  intro h2
  induction l generalizing n with
  | nil => subst h2; rfl
  | cons x l ih =>
    subst h2
    have := h1 x (by simp)
    simp only [List.length_cons, List.replicate_succ, addW, List.map_cons, ih (fun c hc => h1 c (by simp [hc])) _ rfl, List.cons.injEq, and_true]
    omega
end DL

/-! Dicts. -/
namespace DL
open PySem L2 PySem.Spec PyProof.Rows

/-! ### dicts of the text, with texts as keys -/
/-- entry by entry -/
inductive EntD (K : PySem.W.Frag) (w : World) : List DictEntry → List (Str × D) → Prop
  | nil : EntD K w [] []
  | cons {e : DictEntry} {es : List DictEntry} {x : Str} {d : D} {v : V} {kvs : List (Str × D)} (hk : ∃ t, e.key = .str x t) (hh : e.hash = PyData.keyHash w.params x) (hv : RelV v e.val) (hd : ∀ ρ F, Rd K ρ F d v) (r : EntD K w es kvs) : EntD K w (e :: es) ((x, d) :: kvs)
def KDD (K : PySem.W.Frag) (w : World) (a : Addr) (kvs : List (Str × D)) : Prop := ∃ es n, KDict K w a es n ∧ EntD K w es.toList kvs
theorem EntD.lit {K : PySem.W.Frag} {w : World} {es : List DictEntry} {kvs : List (Str × D)} (h : EntD K w es kvs) : PySem.W.KeysLit w.params es := by
  induction h with
  | nil => trivial
  | cons hk hh hv hd r ih => exact ⟨let ⟨t, e⟩ := hk; ⟨_, t, e, hh⟩, ih⟩
theorem EntD.find {K : PySem.W.Frag} {w : World} {es : List DictEntry} {kvs : List (Str × D)} (h : EntD K w es kvs) (z : Str) :
    match kvs.lookup z with
    | some d => ∃ e v, es.find? (·.key.isStr z) = some e ∧ RelV v e.val ∧ ∀ ρ F, Rd K ρ F d v
    | none => es.find? (·.key.isStr z) = none ∧ es.any (·.refKey) = false := by
  induction h with
  | nil => exact ⟨rfl, rfl⟩
  | @cons e es x d v kvs hk hh hv hd r ih =>
    obtain ⟨t, ek⟩ := hk
    have e1 : e.key.isStr z = (z == x) := by
      rw [ek]
      show (x == z) = (z == x)
      rw [Bool.eq_iff_iff, beq_iff_eq, beq_iff_eq]
      exact ⟨Eq.symm, Eq.symm⟩
    have e2 : e.refKey = false := by unfold DictEntry.refKey; rw [ek]
    rw [List.lookup_cons]
    cases q : z == x with
    | true =>
      simp only
      exact ⟨e, v, by rw [List.find?_cons, e1, q], hv, hd⟩
    | false =>
      simp only
      rw [List.find?_cons, e1, q, List.any_cons, e2, Bool.false_or]
      exact ih
theorem EntD.nsIn {K : PySem.W.Frag} {w : World} {a : Addr} {es : Array DictEntry} {n : Nat} {kvs : List (Str × D)} (D : KDict K w a es n) (h : EntD K w es.toList kvs) (z : Str) :
    match kvs.lookup z with
    | some d => ∃ u v, PySem.W.nsIn K a z = some (some u) ∧ RelV v u ∧ ∀ ρ F, Rd K ρ F d v
    | none => PySem.W.nsIn K a z = some none := by
  have q := h.find z
  unfold PySem.W.nsIn
  rw [D.at_]
  cases e : kvs.lookup z with
  | none =>
    rw [e] at q
    simp only at q ⊢
    rw [q.1, q.2]
    rfl
  | some d =>
    rw [e] at q
    obtain ⟨en, v, e1, e2, e3⟩ := q
    simp only
    rw [e1]
    exact ⟨_, v, rfl, e2, e3⟩
section
variable {X : Cx} {W : WX} {a b : Expr} {pos : Pos} {fa fb : DS → R D} {x : Str} {G : Addr} {kvs : List (Str × D)} {p : Pos}
/-- k in D, D a module's dict -/
def fGIn (neg : Bool) (kvs : List (Str × D)) (fa : DS → R D) : DS → R D := fun s => (fa s).bind fun d s1 => match d with
  | .str z => .ok (.bl (if neg = true then !(kvs.lookup z).isSome else (kvs.lookup z).isSome)) s1
  | _ => .bad
def fGGet (kvs : List (Str × D)) (fa : DS → R D) : DS → R D := fun s => (fa s).bind fun d s1 => match d with
  | .str z => (match kvs.lookup z with
    | some d => .ok d s1
    | none => .bad)
  | _ => .bad
theorem pe_gref (hg : Gl X x) (hm : X.mg x = some (.ref G)) (hd : (x == ("__debug__" : Str)) = false := by decide) : PE X (.Name x p) (tC (.ref G)) := pe_glob (v := .ref G) hg hm rfl hd
theorem gin_run {t : TE} (D : KDD X.K X.w G kvs) (l : Stl X W (Rd X.K) t fa) (neg : Bool) {r : R2} (hr : ∀ (z : Str) (o : Option Value) (H : Hp) (Q : VK), PySem.W.nsIn X.K G z = some o → Q (.bl (if neg = true then !o.isSome else o.isSome)) H → r (.str z) (.ref G) H Q) :
    Stl X W (Rd X.K) (tOp r t (tC (.ref G))) (fGIn neg kvs fa) := by
  obtain ⟨es, n, KD, he⟩ := D
  intro ρ F s σ H Q rl h
  refine l ρ F s σ H _ rl (h.bind fun d s1 ρ1 F1 H1 v x1 rl1 rd1 h1 => ?_)
  cases d with
  | str z =>
    cases rd1
    have q := he.nsIn KD z
    cases e : kvs.lookup z with
    | none =>
      rw [e] at q
      simp only [e] at q h1
      exact hr z none H1 Q q (h1 ρ1 F1 H1 _ (Ext.refl ..) rl1 rfl)
    | some d =>
      rw [e] at q
      simp only [e] at q h1
      obtain ⟨u, v, e1, _, _⟩ := q
      exact hr z (some u) H1 Q e1 (h1 ρ1 F1 H1 _ (Ext.refl ..) rl1 rfl)
  | _ => exact h1.elim
theorem pd_gin (hg : Gl X x) (hm : X.mg x = some (.ref G)) (D : KDD X.K X.w G kvs) (ha : PD X W a fa) (hb : behindInMarks .In (.Name x p) = false := by rfl) (hd : (x == ("__debug__" : Str)) = false := by decide) : PD X W (.Compare a [.In] [.Name x p] pos) (fGIn false kvs fa) := by
  obtain ⟨t, e1, l⟩ := ha
  obtain ⟨es, n, KD, he⟩ := id D
  exact ⟨_, pe_cmpR (op_in_kd KD) e1 (pe_gref hg hm hd) hb, gin_run D l false fun z o H Q q h => ⟨z, o, rfl, rfl, q, h⟩⟩
theorem pd_gnotin (hg : Gl X x) (hm : X.mg x = some (.ref G)) (D : KDD X.K X.w G kvs) (ha : PD X W a fa) (hb : behindInMarks .NotIn (.Name x p) = false := by rfl) (hd : (x == ("__debug__" : Str)) = false := by decide) : PD X W (.Compare a [.NotIn] [.Name x p] pos) (fGIn true kvs fa) := by
  obtain ⟨t, e1, l⟩ := ha
  obtain ⟨es, n, KD, he⟩ := id D
  exact ⟨_, pe_cmpR (op_notIn_kd KD) e1 (pe_gref hg hm hd) hb, gin_run D l true fun z o H Q q h => ⟨z, o, rfl, rfl, q, h⟩⟩
theorem pdt_gin (hg : Gl X x) (hm : X.mg x = some (.ref G)) (D : KDD X.K X.w G kvs) (ha : PD X W a fa) (hb : behindInMarks .In (.Name x p) = false := by rfl) (hd : (x == ("__debug__" : Str)) = false := by decide) : PDT X W (.Compare a [.In] [.Name x p] pos) (fTst (fGIn false kvs fa)) := by
  obtain ⟨t, e1, l⟩ := ha
  obtain ⟨es, n, KD, he⟩ := id D
  exact ⟨_, pt_cmpR (op_in_kd KD) e1 (pe_gref hg hm hd) hb, fun ρ F s σ H Q rl h => gin_run D l false (fun z o H Q q h => ⟨z, o, rfl, rfl, q, h⟩) ρ F s σ H _ rl h.asB⟩
theorem pdt_gnotin (hg : Gl X x) (hm : X.mg x = some (.ref G)) (D : KDD X.K X.w G kvs) (ha : PD X W a fa) (hb : behindInMarks .NotIn (.Name x p) = false := by rfl) (hd : (x == ("__debug__" : Str)) = false := by decide) : PDT X W (.Compare a [.NotIn] [.Name x p] pos) (fTst (fGIn true kvs fa)) := by
  obtain ⟨t, e1, l⟩ := ha
  obtain ⟨es, n, KD, he⟩ := id D
  exact ⟨_, pt_cmpR (op_notIn_kd KD) e1 (pe_gref hg hm hd) hb, fun ρ F s σ H Q rl h => gin_run D l true (fun z o H Q q h => ⟨z, o, rfl, rfl, q, h⟩) ρ F s σ H _ rl h.asB⟩
/-- D[k] -/
theorem pd_gget (hg : Gl X x) (hm : X.mg x = some (.ref G)) (D : KDD X.K X.w G kvs) (hb : PD X W b fb) (hs : PlainIx b := by exact fun _ _ => rfl) (hd : (x == ("__debug__" : Str)) = false := by decide) : PD X W (.Subscript (.Name x p) b pos) (fGGet kvs fb) := by
  obtain ⟨t, e1, l⟩ := hb
  obtain ⟨es, n, KD, he⟩ := D
  refine ⟨_, pe_ix ix_kdict (pe_gref hg hm hd) e1 hs, fun ρ F s σ H Q rl h => ?_⟩
  refine l ρ F s σ H _ rl (h.bind fun d s1 ρ1 F1 H1 v x1 rl1 rd1 h1 => ?_)
  cases d with
  | str z =>
    cases rd1
    have q := he.nsIn KD z
    cases e : kvs.lookup z with
    | none => simp only [e] at h1; exact h1.elim
    | some d =>
      rw [e] at q
      simp only [e] at q h1
      obtain ⟨u, v, e1, e2, e3⟩ := q
      exact ⟨G, z, v, rfl, rfl, ⟨es, n, u, KD.at_, KD.lit, e1, e2⟩, h1 ρ1 F1 H1 _ (Ext.refl ..) rl1 (e3 ρ1 F1)⟩
  | _ => exact h1.elim
/-! for k in D -/
def ItkK (ks : List Str) : It := ⟨fun i _ => i < ks.length, fun i H x H' => H' = H ∧ ∃ k, ks[i]? = some k ∧ x = .str k, fun i _ => ks.length ≤ i⟩
theorem EntD.keys {K : PySem.W.Frag} {w : World} {es : List DictEntry} {kvs : List (Str × D)} (h : EntD K w es kvs) : es.length = kvs.length ∧ ∀ (i : Nat) (e : DictEntry), es[i]? = some e → ∃ k t, (kvs.map (·.1))[i]? = some k ∧ e.key = .str k t := by
  induction h with
  | nil => exact ⟨rfl, fun i e h => by simp at h⟩
  | cons hk hh hv hd r ih =>
    refine ⟨by simp [ih.1], fun i e h => ?_⟩
    cases i with
    | zero =>
      simp only [List.getElem?_cons_zero, Option.some.injEq] at h
      subst h
      obtain ⟨t, q⟩ := hk
      exact ⟨_, t, rfl, q⟩
    | succ i =>
      simp only [List.getElem?_cons_succ] at h
      exact ih.2 i e h
theorem turn_keysK {P : Program} {w : World} {K : PySem.W.Frag} {tg : Expr} {d : Addr} {es : Array DictEntry} {n : Nat} {kvs : List (Str × D)} (KD : KDict K w d es n) (he : EntD K w es.toList kvs) (it : Addr) : Turn P w K tg (ItkK (kvs.map (·.1))) [it] it (fun i h => h.IsKeyIter it d i es.size n) where
  mem := by simp
  obj := fun i h st b hb => by
    have e : b = it := by simpa using hb
    subst e
    obtain ⟨oi, e, c, dd⟩ := st
    exact ⟨oi, e, fun v z => by rw [dd] at z; cases z⟩
  keep := fun i h h' st k => st.at fun oi e => k it (by simp) oi e
  item := by
    intro X hP hw hK hc i pins s σ H E I hf st hg
    subst hP hw hK
    have hi : i < (kvs.map (·.1)).length := hg
    obtain ⟨f0, f1, f2, f3, f4, f5⟩ := hf it (by simp)
    have hod := I.kIn _ _ KD.at_
    have hsz : es.size = kvs.length := by have := he.keys.1; simpa using this
    rw [List.length_map] at hi
    obtain ⟨en, hen⟩ : ∃ en, es[i]? = some en := ⟨es[i]'(by omega), Array.getElem?_eq_getElem (by omega)⟩
    obtain ⟨k, t, hk, ek⟩ := he.keys.2 i en (by rw [← hen]; simp)
    refine next_key_item st hod rfl rfl hen fun h' st' sb => ?_
    have I1 : Inv X pins σ H { s with heap := h' } := I.turned (t' := s.toks) (fun b ob hb e => (sb.2 b hb).trans e) f0 f1 f3 f4 f5
    obtain ⟨oi, e, c, dd⟩ := id st'
    exact ⟨en.key, rfl, go_of (s := { s with heap := h' }) e c dd (by decide) ⟨.str k, H, I1, ⟨t, ek⟩, ⟨rfl, k, hk, rfl⟩, st', fun b hb => (hf b hb).1⟩⟩
  done := by
    intro X hP hw hK hc i pins s σ H E I hf st hg
    subst hP hw hK
    have hi : (kvs.map (·.1)).length ≤ i := hg
    obtain ⟨f0, f1, f2, f3, f4, f5⟩ := hf it (by simp)
    have hod := I.kIn _ _ KD.at_
    have hsz : es.size = kvs.length := by have := he.keys.1; simpa using this
    rw [List.length_map] at hi
    exact next_key_end (I.ok.hd hc) st hod rfl rfl (by omega) fun h' eb => ⟨rfl, I.turned (t' := s.toks) (fun b ob hb e => eb b ob hb e) f0 f1 f3 f4 f5⟩
  self := fun A i s Q E st h => wpAny_pyIter_keyiter st h
def fWGk (kvs : List (Str × D)) : DS → R Wk := fun s => .ok (kvs.map fun p => .str p.1, allw) s
theorem jok_keysK {K : PySem.W.Frag} {mg : Str → Option Value} {P : List MO → Prop} {ρ : List Addr} {F H : Hp} {kvs : List (Str × D)} : JOk K mg P (kvs.map fun p => .str p.1) ρ F H (ItkK (kvs.map (·.1))) := by
  refine ⟨fun ρ' F' H' μ x m _ => by simp [ItkK], fun i d e ρ' F' H' μ x m _ => ?_⟩
  have hi : i < kvs.length := by
    have := (List.getElem?_eq_some_iff.mp e).1
    simpa using this
  refine ⟨by simpa [ItkK] using hi, fun y H2 yd => ?_⟩
  obtain ⟨rfl, k, hk, rfl⟩ := yd
  refine ⟨F', Ext.refl .., m, ?_⟩
  rw [List.getElem?_map] at e hk
  cases q : kvs[i]? with
  | none => rw [q] at e; cases e
  | some p =>
    rw [q] at e hk
    cases e
    cases hk
    rfl
theorem pdi_gkeys {tg : Expr} (hg : Gl X x) (hm : X.mg x = some (.ref G)) (D : KDD X.K X.w G kvs) (hd : (x == ("__debug__" : Str)) = false := by decide) : PDI X W tg (.Name x p) (fWGk kvs) := by
  obtain ⟨es, n, KD, he⟩ := D
  refine ⟨fun σ H Rr => Rr (ItkK (kvs.map (·.1))) H, ⟨fun pins s σ H R I h => ?_⟩, fun ρ F s σ H Rr rl h => h ρ F H _ (Ext.refl ..) rl jok_keysK⟩
  refine thn ((pe_gref (p := p) hg hm hd).run pins s σ H (fun x H1 => x = .ref G ∧ R (ItkK (kvs.map (·.1))) H1) I ⟨rfl, h⟩) fun u s1 ⟨x, H1, I1, rx, ex, q⟩ => ?_
  subst ex
  obtain rfl : u = Value.ref G := rx
  have hod := I1.kIn _ _ KD.at_
  exact iter_keys KD.low hod ⟨rfl, rfl, rfl⟩ rfl (pi_one (tk := s1.toks) I1 _ (turn_keysK KD he _) ⟨_, Heap.get?_push_size _ rfl, rfl, rfl⟩ q)
end
/-! ### dicts that are made -/
def keyD : D → Option Key
  | .int i => some (.inl i)
  | .str x => some (.inr x)
  | _ => none
theorem keyD_rd {K : PySem.W.Frag} {ρ : List Addr} {F : Hp} {d : D} {v : V} {k : Key} (r : Rd K ρ F d v) (h : keyD d = some k) : v = kV k := by
  cases d with
  | int i => cases h; exact r
  | str x => cases h; exact r
  | _ => cases h
section
variable {X : Cx} {W : WX} {a b : Expr} {pos : Pos} {fa fb : DS → R D}
def fPNil : DS → R (List (D × D)) := fun s => .ok [] s
def fPCons (fk fv : DS → R D) (fr : DS → R (List (D × D))) : DS → R (List (D × D)) := fun s => (fk s).bind fun k s1 => (fv s1).bind fun v s2 => (fr s2).bind fun r s3 => .ok ((k, v) :: r) s3
def RdPs (K : PySem.W.Frag) (ρ : List Addr) (F : Hp) : List (D × D) → List (V × V) → Prop
  | [], vs => vs = []
  | (k, d) :: r, vs => ∃ x y t, vs = (x, y) :: t ∧ Rd K ρ F k x ∧ Rd K ρ F d y ∧ RdPs K ρ F r t
def PDPs (X : Cx) (W : WX) (pos : Pos) (keys : List (Option Expr)) (values : List Expr) (f : DS → R (List (D × D))) : Prop := ∃ trs, PPs X pos keys values trs ∧ Stl X W (RdPs X.K) (tPairs trs) f
theorem pdp_nil : PDPs X W pos [] [] fPNil := ⟨_, pps_nil, fun ρ F s σ H Q rl h => h ρ F H _ (Ext.refl ..) rl rfl⟩
theorem pdp_cons {ks : List (Option Expr)} {vs : List Expr} {fr : DS → R (List (D × D))} (ha : PD X W a fa) (hb : PD X W b fb) (hr : PDPs X W pos ks vs fr) : PDPs X W pos (some a :: ks) (b :: vs) (fPCons fa fb fr) := by
  obtain ⟨t1, e1, l1⟩ := ha
  obtain ⟨t2, e2, l2⟩ := hb
  obtain ⟨t3, e3, l3⟩ := hr
  refine ⟨_, pps_cons e1 e2 e3, fun ρ F s σ H Q rl h => l1 ρ F s σ H _ rl (h.bind fun k s1 ρ1 F1 H1 x x1 rl1 rd1 h1 => ?_)⟩
  refine l2 ρ1 F1 s1 σ H1 _ rl1 (Post.bind h1 fun v s2 ρ2 F2 H2 y x2 rl2 rd2 h2 => ?_)
  refine l3 ρ2 F2 s2 σ H2 _ rl2 (Post.bind h2 fun r s3 ρ3 F3 H3 t x3 rl3 rd3 h3 => ?_)
  exact h3 ρ3 F3 H3 _ (Ext.refl ..) rl3 ⟨x, y, t, rfl, (rd1.ext x2).ext x3, rd2.ext x3, rd3⟩
/-- pairs as a table -/
def tabD : List (D × D) → Option (List (Key × D))
  | [] => some []
  | (k, d) :: r => match keyD k, tabD r with
    | some k, some t => some ((k, d) :: t)
    | _, _ => none
theorem tabD_rd {K : PySem.W.Frag} {ρ : List Addr} {F : Hp} : ∀ {ps : List (D × D)} {vs : List (V × V)} {kvs : List (Key × D)}, RdPs K ρ F ps vs → tabD ps = some kvs → ∃ us : List (Key × V), RdK K ρ F kvs us ∧ vs = us.map fun kv => (kV kv.1, kv.2)
  | [], vs, kvs, r, h => by
    cases h
    simp only [RdPs] at r
    subst r
    exact ⟨[], rfl, rfl⟩
  | (k, d) :: ps, vs, kvs, r, h => by
    obtain ⟨x, y, t, rfl, r1, r2, r3⟩ := r
    unfold tabD at h
    split at h
    · rename_i k' t' e1 e2
      cases h
      obtain ⟨us, q1, q2⟩ := tabD_rd r3 e2
      exact ⟨(k', y) :: us, ⟨y, us, rfl, r2, q1⟩, by rw [keyD_rd r1 e1, q2]; rfl⟩
    · cases h
theorem RdK.length {κ : Type} {K : PySem.W.Frag} {ρ : List Addr} {F : Hp} : ∀ {ds : List (κ × D)} {vs : List (κ × V)}, RdK K ρ F ds vs → vs.length = ds.length ∧ vs.map (·.1) = ds.map (·.1)
  | [], _, h => by
    simp only [RdK] at h
    subst h
    exact ⟨rfl, rfl⟩
  | (k, d) :: r, _, h => by
    obtain ⟨v, t, rfl, _, q⟩ := h
    simp [RdK.length q]
theorem mergeK_nodup : ∀ (kvs acc : List (Key × V)), ((acc ++ kvs).map (·.1)).Nodup → mergeK acc kvs = acc ++ kvs
  | [], acc, _ => by simp [mergeK]
  | (k, v) :: kvs, acc, h => by
    have h1 : valV acc k = none := by
      unfold valV
      rw [Option.map_eq_none_iff, List.find?_eq_none]
      intro p hp e
      have e' : p.1 = k := by simpa using e
      rw [List.map_append, List.nodup_append] at h
      exact h.2.2 p.1 (List.mem_map_of_mem hp) k (by simp) e'
    show mergeK (putK acc k v) kvs = _
    rw [putK_new v h1, mergeK_nodup kvs _ (by simpa using h)]
    simp
/-- {k: v, ..} -/
noncomputable def fDisp (f : DS → R (List (D × D))) : DS → R D := fun s => (f { s with m := s.m ++ [.dK []] }).bind fun ps s1 => match tabD ps, s1.m[s.m.length]? with
  | some kvs, some (.dK []) => if (kvs.map (·.1)).Nodup ∧ kvs.length ≤ 15 then .ok (.obj s.m.length) { s1 with m := s1.m.set s.m.length (.dK kvs) } else .bad
  | _, _ => .bad
theorem pd_disp {keys : List (Option Expr)} {values : List Expr} {f : DS → R (List (D × D))} (h : PDPs X W pos keys values f) (hall : keys.all (·.isSome) = true := by rfl) (hl : keys.length = values.length := by rfl) (h0 : keys ≠ [] := by simp) (h15 : keys.length ≤ 15 := by decide) : PD X W (.Dict keys values pos) (fDisp f) := by
  obtain ⟨trs, e, l⟩ := h
  refine ⟨_, pe_disp e hall hl h0 h15, fun ρ F s σ H Q rl h p hp => ?_⟩
  obtain ⟨m, x⟩ := rl.mem.alloc (o := .dK []) (m := .dK []) hp trivial ⟨[], upd_same, rfl⟩
  have h' := Post.ext h x
  refine l _ _ { s with m := s.m ++ [.dK []] } _ _ _ ⟨m, rl.slo.ext x⟩ (h'.bind fun ps s1 ρ1 F1 H1 vs x1 rl1 rd1 h1 => ?_)
  split at h1
  · rename_i kvs e1 e2
    split at h1
    · rename_i hc
      obtain ⟨us, q1, q2⟩ := tabD_rd rd1 e1
      have hat : ρ1[s.m.length]? = some p := by
        obtain ⟨l', e'⟩ := x1.pre
        rw [e']
        refine pre_get ?_
        rw [← rl.mem.len, List.getElem?_append_right (Nat.le_refl _)]
        simp
      obtain ⟨_, vs0, o1, o2⟩ := rl1.mem.own _ _ _ hat e2 trivial
      simp only [RdK] at o2
      subst o2
      refine ⟨o1, us, q2, by rw [q1.length.1]; exact hc.2, ?_⟩
      have e4 : mergeK [] us = us := by
        have := mergeK_nodup us [] (by rw [List.nil_append, q1.length.2]; exact hc.1)
        simpa using this
      rw [e4]
      obtain ⟨m2, x2⟩ := rl1.mem.set (n := .dK kvs) (o := .dK us) hat e2 trivial ⟨us, upd_same, q1⟩
      exact h1 _ _ _ _ x2 ⟨m2, rl1.slo.ext x2⟩ ⟨p, rfl, hat⟩
    · exact h1.elim
  · exact h1.elim
/-- the table of an object -/
def dctV (s : DS) : D → Option (List (Key × D))
  | .obj k => match s.m[k]? with
    | some (.dK kvs) => some kvs
    | _ => none
  | _ => none
def valD (kvs : List (Key × D)) (k : Key) : Option D := (kvs.find? fun kv => decide (kv.1 = k)).map (·.2)
theorem RdK.val {K : PySem.W.Frag} {ρ : List Addr} {F : Hp} {k : Key} : ∀ {kvs : List (Key × D)} {vs : List (Key × V)}, RdK K ρ F kvs vs → match valD kvs k with
    | some d => ∃ v, valV vs k = some v ∧ Rd K ρ F d v
    | none => valV vs k = none
  | [], _, h => by
    simp only [RdK] at h
    subst h
    rfl
  | (j, d) :: r, _, h => by
    obtain ⟨v, t, rfl, h1, h2⟩ := h
    by_cases e : j = k
    · have a1 : valD ((j, d) :: r) k = some d := by simp [valD, List.find?_cons, e]
      rw [a1]
      exact ⟨v, valV_pos e, h1⟩
    · have a1 : valD ((j, d) :: r) k = valD r k := by simp [valD, List.find?_cons, e]
      rw [a1, valV_neg e]
      exact RdK.val h2
theorem dctV_rd {K : PySem.W.Frag} {mg : Str → Option Value} {ρ : List Addr} {F H : Hp} {s : DS} {d : D} {v : V} {kvs : List (Key × D)} (rl : MRel K mg ρ F s.m H) (r : Rd K ρ F d v) (h : dctV s d = some kvs) : ∃ a us, v = .ref a ∧ H a = some (.dK us) ∧ RdK K ρ F kvs us := by
  unfold dctV at h
  split at h
  · split at h
    · rename_i k kvs' e
      cases h
      obtain ⟨a, rfl, ha⟩ := r
      obtain ⟨_, us, h1, h2⟩ := rl.own _ _ _ ha e trivial
      exact ⟨a, us, rfl, h1, h2⟩
    · cases h
  · cases h
/-- d[k] -/
def gDget : D → D → DS → R D := fun x y s => match dctV s x, keyD y with
  | some kvs, some k => (match valD kvs k with
    | some d => .ok d s
    | none => .bad)
  | _, _ => .bad
theorem pd_dget (hu : X.A.units + 1 < cLine) (ha : PD X W a fa) (hb : PD X W b fb) (hs : NoSl b := by exact fun _ _ _ => rfl) : PD X W (.Subscript a b pos) (fBin fa fb gDget) := by
  obtain ⟨t1, e1, l1⟩ := ha
  obtain ⟨t2, e2, l2⟩ := hb
  refine ⟨_, pe_dget hu e1 e2 hs, fun ρ F s σ H Q rl h => l1 ρ F s σ H _ rl (h.bind fun x s1 ρ1 F1 H1 v x1 rl1 rd1 h1 => ?_)⟩
  refine l2 ρ1 F1 s1 σ H1 _ rl1 (Post.bind h1 fun y s2 ρ2 F2 H2 u x2 rl2 rd2 h2 => ?_)
  unfold gDget at h2
  split at h2
  · rename_i kvs k q1 q2
    obtain ⟨p, us, rfl, o1, o2⟩ := dctV_rd rl2.mem (rd1.ext x2) q1
    have o3 := o2.val (k := k)
    split at h2
    · rename_i d q3
      rw [q3] at o3
      obtain ⟨w, o4, o5⟩ := o3
      refine ⟨p, w, rfl, ?_, h2 ρ2 F2 H2 _ (Ext.refl ..) rl2 o5⟩
      rw [keyD_rd rd2 q2, ← o4]
      exact DGet.k o1
    · exact h2.elim
  · exact h2.elim
/-- k in d -/
def gDin (neg : Bool) : D → D → DS → R D := fun y x s => match dctV s x, keyD y with
  | some kvs, some k => .ok (.bl (if neg = true then !(valD kvs k).isSome else (valD kvs k).isSome)) s
  | _, _ => .bad
def fDin (neg : Bool) (fa fb : DS → R D) : DS → R D := fBin fa fb (gDin neg)
theorem din_val {K : PySem.W.Frag} {ρ : List Addr} {F : Hp} {k : Key} {kvs : List (Key × D)} {vs : List (Key × V)} (h : RdK K ρ F kvs vs) : (valV vs k).isSome = (valD kvs k).isSome := by
  have q := h.val (k := k)
  split at q
  · rename_i d e
    obtain ⟨v, e1, _⟩ := q
    rw [e1, e]
    rfl
  · rename_i e
    rw [q, e]
    rfl
theorem pd_din (hu : X.A.units + 1 < cLine) (ha : PD X W a fa) (hb : PD X W b fb) (hm : behindInMarks .In b = false := by rfl) : PD X W (.Compare a [.In] [b] pos) (fDin false fa fb) := by
  obtain ⟨t1, e1, l1⟩ := ha
  obtain ⟨t2, e2, l2⟩ := hb
  refine ⟨_, pe_cmp (pc_din hu e1 e2) hm, fun ρ F s σ H Q rl h => l1 ρ F s σ H _ rl (Post.bind h fun y s1 ρ1 F1 H1 v x1 rl1 rd1 h1 => ?_)⟩
  refine l2 ρ1 F1 s1 σ H1 _ rl1 (Post.bind h1 fun x s2 ρ2 F2 H2 u x2 rl2 rd2 h2 => ?_)
  unfold gDin at h2
  split at h2
  · rename_i kvs k q1 q2
    obtain ⟨p, us, rfl, o1, o2⟩ := dctV_rd rl2.mem rd2 q1
    refine ⟨p, valV us k, rfl, ?_, ?_⟩
    · rw [keyD_rd (rd1.ext x2) q2]
      exact DGet.k o1
    · rw [din_val o2]
      exact h2 ρ2 F2 H2 _ (Ext.refl ..) rl2 rfl
  · exact h2.elim
theorem pd_dnotin (hu : X.A.units + 1 < cLine) (ha : PD X W a fa) (hb : PD X W b fb) (hm : behindInMarks .NotIn b = false := by rfl) : PD X W (.Compare a [.NotIn] [b] pos) (fDin true fa fb) := by
  obtain ⟨t1, e1, l1⟩ := ha
  obtain ⟨t2, e2, l2⟩ := hb
  refine ⟨_, pe_cmp (pc_dnotin hu e1 e2) hm, fun ρ F s σ H Q rl h => l1 ρ F s σ H _ rl (Post.bind h fun y s1 ρ1 F1 H1 v x1 rl1 rd1 h1 => ?_)⟩
  refine l2 ρ1 F1 s1 σ H1 _ rl1 (Post.bind h1 fun x s2 ρ2 F2 H2 u x2 rl2 rd2 h2 => ?_)
  unfold gDin at h2
  split at h2
  · rename_i kvs k q1 q2
    obtain ⟨p, us, rfl, o1, o2⟩ := dctV_rd rl2.mem rd2 q1
    refine ⟨p, valV us k, rfl, ?_, ?_⟩
    · rw [keyD_rd (rd1.ext x2) q2]
      exact DGet.k o1
    · rw [din_val o2]
      exact h2 ρ2 F2 H2 _ (Ext.refl ..) rl2 rfl
  · exact h2.elim
/-- d.get(k, e) -/
def fDget2 (fo fa fb : DS → R D) : DS → R D := fun s => (fo s).bind fun o s1 => if (dctV s1 o).isSome = true then (fa s1).bind fun y s2 => (fb s2).bind fun z s3 => match dctV s3 o, keyD y with
  | some kvs, some k => .ok ((valD kvs k).getD z) s3
  | _, _ => .bad else .bad
theorem pd_dget2 {o : Expr} {apos cpos : Pos} {fo : DS → R D} (hu : X.A.units + 1 < cLine) (ho : PD X W o fo) (ha : PD X W a fa) (hb : PD X W b fb) (m : M2 X o "get" apos a b cpos := by exact ⟨rfl, rfl, rfl, rfl⟩) :
    PD X W (.Call (.Attribute o "get" apos) [a, b] [] cpos) (fDget2 fo fa fb) := by
  obtain ⟨t0, e0, l0⟩ := ho
  obtain ⟨t1, e1, l1⟩ := ha
  obtain ⟨t2, e2, l2⟩ := hb
  refine ⟨_, pe_dget2 hu e0 e1 e2 m, fun ρ F s σ H Q rl h => l0 ρ F s σ H _ rl (Post.bind h fun x s1 ρ1 F1 H1 v x1 rl1 rd1 h1 => ?_)⟩
  split at h1
  · rename_i hs
    obtain ⟨kvs0, q0⟩ := Option.isSome_iff_exists.mp hs
    obtain ⟨p, us, rfl, o1, o2⟩ := dctV_rd rl1.mem rd1 q0
    refine ⟨p, rfl, .inl ⟨us, .inl o1⟩, l1 ρ1 F1 s1 σ H1 _ rl1 (Post.bind h1 fun y s2 ρ2 F2 H2 u x2 rl2 rd2 h2 => ?_)⟩
    refine l2 ρ2 F2 s2 σ H2 _ rl2 (Post.bind h2 fun z s3 ρ3 F3 H3 w x3 rl3 rd3 h3 => ?_)
    split at h3
    · rename_i kvs k q1 q2
      obtain ⟨p', us', e', o1', o2'⟩ := dctV_rd rl3.mem ((rd1.ext x2).ext x3) q1
      cases e'
      refine ⟨valV us' k, ?_, ?_⟩
      · rw [keyD_rd (rd2.ext x3) q2]
        exact DGet.k o1'
      · have q := o2'.val (k := k)
        split at q
        · rename_i d e
          obtain ⟨v', e1, e2⟩ := q
          rw [e] at h3
          rw [e1]
          exact h3 ρ3 F3 H3 _ (Ext.refl ..) rl3 e2
        · rename_i e
          rw [e] at h3
          rw [q]
          exact h3 ρ3 F3 H3 _ (Ext.refl ..) rl3 rd3
    · exact h3.elim
  · exact h1.elim
end
/-! ### texts -/
theorem ofs_inj (a b : String) : Str.ofString a = Str.ofString b ↔ a = b := by
  constructor
  · intro h
    rw [Str.ofString_eq_toList, Str.ofString_eq_toList] at h
    injection h with h1
    have h2 : a.toList.map Char.toNat = b.toList.map Char.toNat := by simpa using h1
    have inj : ∀ x y : List Char, x.map Char.toNat = y.map Char.toNat → x = y := by
      intro x
      induction x with
      | nil => intro y h; cases y with
        | nil => rfl
        | cons _ _ => simp at h
      | cons c x ih => intro y h; cases y with
        | nil => simp at h
        | cons d y =>
          simp only [List.map_cons, List.cons.injEq] at h
          rw [Char.toNat_inj.mp h.1, ih y h.2]
    have h3 : a.toList = b.toList := inj _ _ h2
    exact String.toList_inj.mp h3
  · exact fun e => by rw [e]
@[simp] theorem ofs_eq (a b : String) : (Str.ofString a = Str.ofString b) = (a = b) := propext (ofs_inj a b)
@[simp] theorem ofs_beq (a b : String) : (Str.ofString a == Str.ofString b) = (a == b) := by
  rw [Bool.eq_iff_iff, beq_iff_eq, beq_iff_eq, ofs_inj]
@[simp] theorem ofs_ok (a : String) : PyData.strOk (Str.ofString a) = true := by
  rw [Str.ofString_eq_toList]
  unfold PyData.strOk
  simp only [Array.all_eq_true_iff_forall_mem, decide_eq_true_eq]
  intro x hx
  obtain ⟨c, _, rfl⟩ := List.mem_map.mp (by simpa using hx)
  have h := c.valid
  simp only [UInt32.isValidChar, Nat.isValidChar] at h
  show c.val.toNat < _
  omega
@[simp] theorem gEq_ofs (a b : String) (s : DS) : gEq (.str (Str.ofString a)) (.str (Str.ofString b)) s = .ok (.bl (a == b)) s := by
  rw [gEq_str _ _ _ (ofs_ok a) (ofs_ok b)]
  congr 2
  rw [Bool.eq_iff_iff, dcd_iff, ofs_inj, beq_iff_eq]
@[simp] theorem gNe_ofs (a b : String) (s : DS) : gNe (.str (Str.ofString a)) (.str (Str.ofString b)) s = .ok (.bl (!(a == b))) s := by
  rw [gNe_str _ _ _ (ofs_ok a) (ofs_ok b)]
  congr 3
  rw [Bool.eq_iff_iff, dcd_iff, ofs_inj, beq_iff_eq]
theorem eqD_ofs (a b : String) : eqD (.str (Str.ofString a)) (.str (Str.ofString b)) = (a == b) := by
  simp only [eqD]
  rw [Bool.eq_iff_iff, dcd_iff, ofs_inj, beq_iff_eq]
theorem gIn_strs (neg : Bool) (a : String) (v : D) (bs : List String) (hv : v = .tup (bs.map fun b => .str (Str.ofString b)) ∨ v = .lst (bs.map fun b => .str (Str.ofString b))) (s : DS) : gIn neg (.str (Str.ofString a)) v s = .ok (.bl (if neg = true then !(bs.any fun b => b == a) else bs.any fun b => b == a)) s := by
  have h1 : (bs.map fun b => D.str (Str.ofString b)).all flD = true := by simp [flD]
  have h2 : inD (.str (Str.ofString a)) (bs.map fun b => D.str (Str.ofString b)) = bs.any fun b => b == a := by
    unfold inD
    rw [List.any_map]
    congr 1
    funext b
    exact eqD_ofs b a
  rcases hv with rfl | rfl <;> simp only [gIn, seqV, h1, h2, flD] <;> simp
@[simp] theorem gIn_tup1 (neg : Bool) (a b : String) (s : DS) : gIn neg (.str (Str.ofString a)) (.tup [.str (Str.ofString b)]) s = .ok (.bl (if neg = true then !(b == a) else (b == a))) s := by
  rw [gIn_strs neg a _ [b] (by simp) s]
  all_goals simp [Bool.or_assoc]
@[simp] theorem gIn_tup2 (neg : Bool) (a b c : String) (s : DS) : gIn neg (.str (Str.ofString a)) (.tup [.str (Str.ofString b), .str (Str.ofString c)]) s = .ok (.bl (if neg = true then !(b == a || c == a) else (b == a || c == a))) s := by
  rw [gIn_strs neg a _ [b, c] (by simp) s]
  all_goals simp [Bool.or_assoc]
@[simp] theorem gIn_tup3 (neg : Bool) (a b c d : String) (s : DS) : gIn neg (.str (Str.ofString a)) (.tup [.str (Str.ofString b), .str (Str.ofString c), .str (Str.ofString d)]) s = .ok (.bl (if neg = true then !(b == a || c == a || d == a) else (b == a || c == a || d == a))) s := by
  rw [gIn_strs neg a _ [b, c, d] (by simp) s]
  all_goals simp [Bool.or_assoc]
@[simp] theorem gIn_tup4 (neg : Bool) (a b c d e : String) (s : DS) : gIn neg (.str (Str.ofString a)) (.tup [.str (Str.ofString b), .str (Str.ofString c), .str (Str.ofString d), .str (Str.ofString e)]) s = .ok (.bl (if neg = true then !(b == a || c == a || d == a || e == a) else (b == a || c == a || d == a || e == a))) s := by
  rw [gIn_strs neg a _ [b, c, d, e] (by simp) s]
  all_goals simp [Bool.or_assoc]
@[simp] theorem gIn_tup5 (neg : Bool) (a b c d e f : String) (s : DS) : gIn neg (.str (Str.ofString a)) (.tup [.str (Str.ofString b), .str (Str.ofString c), .str (Str.ofString d), .str (Str.ofString e), .str (Str.ofString f)]) s = .ok (.bl (if neg = true then !(b == a || c == a || d == a || e == a || f == a) else (b == a || c == a || d == a || e == a || f == a))) s := by
  rw [gIn_strs neg a _ [b, c, d, e, f] (by simp) s]
  all_goals simp [Bool.or_assoc]
@[simp] theorem gIn_tup6 (neg : Bool) (a b c d e f g : String) (s : DS) : gIn neg (.str (Str.ofString a)) (.tup [.str (Str.ofString b), .str (Str.ofString c), .str (Str.ofString d), .str (Str.ofString e), .str (Str.ofString f), .str (Str.ofString g)]) s = .ok (.bl (if neg = true then !(b == a || c == a || d == a || e == a || f == a || g == a) else (b == a || c == a || d == a || e == a || f == a || g == a))) s := by
  rw [gIn_strs neg a _ [b, c, d, e, f, g] (by simp) s]
  all_goals simp [Bool.or_assoc]
@[simp] theorem gIn_lst1 (neg : Bool) (a b : String) (s : DS) : gIn neg (.str (Str.ofString a)) (.lst [.str (Str.ofString b)]) s = .ok (.bl (if neg = true then !(b == a) else (b == a))) s := by
  rw [gIn_strs neg a _ [b] (by simp) s]
  all_goals simp [Bool.or_assoc]
@[simp] theorem gIn_lst2 (neg : Bool) (a b c : String) (s : DS) : gIn neg (.str (Str.ofString a)) (.lst [.str (Str.ofString b), .str (Str.ofString c)]) s = .ok (.bl (if neg = true then !(b == a || c == a) else (b == a || c == a))) s := by
  rw [gIn_strs neg a _ [b, c] (by simp) s]
  all_goals simp [Bool.or_assoc]
@[simp] theorem gIn_lst3 (neg : Bool) (a b c d : String) (s : DS) : gIn neg (.str (Str.ofString a)) (.lst [.str (Str.ofString b), .str (Str.ofString c), .str (Str.ofString d)]) s = .ok (.bl (if neg = true then !(b == a || c == a || d == a) else (b == a || c == a || d == a))) s := by
  rw [gIn_strs neg a _ [b, c, d] (by simp) s]
  all_goals simp [Bool.or_assoc]
@[simp] theorem gIn_lst4 (neg : Bool) (a b c d e : String) (s : DS) : gIn neg (.str (Str.ofString a)) (.lst [.str (Str.ofString b), .str (Str.ofString c), .str (Str.ofString d), .str (Str.ofString e)]) s = .ok (.bl (if neg = true then !(b == a || c == a || d == a || e == a) else (b == a || c == a || d == a || e == a))) s := by
  rw [gIn_strs neg a _ [b, c, d, e] (by simp) s]
  all_goals simp [Bool.or_assoc]
@[simp] theorem gIn_lst5 (neg : Bool) (a b c d e f : String) (s : DS) : gIn neg (.str (Str.ofString a)) (.lst [.str (Str.ofString b), .str (Str.ofString c), .str (Str.ofString d), .str (Str.ofString e), .str (Str.ofString f)]) s = .ok (.bl (if neg = true then !(b == a || c == a || d == a || e == a || f == a) else (b == a || c == a || d == a || e == a || f == a))) s := by
  rw [gIn_strs neg a _ [b, c, d, e, f] (by simp) s]
  all_goals simp [Bool.or_assoc]
@[simp] theorem gIn_lst6 (neg : Bool) (a b c d e f g : String) (s : DS) : gIn neg (.str (Str.ofString a)) (.lst [.str (Str.ofString b), .str (Str.ofString c), .str (Str.ofString d), .str (Str.ofString e), .str (Str.ofString f), .str (Str.ofString g)]) s = .ok (.bl (if neg = true then !(b == a || c == a || d == a || e == a || f == a || g == a) else (b == a || c == a || d == a || e == a || f == a || g == a))) s := by
  rw [gIn_strs neg a _ [b, c, d, e, f, g] (by simp) s]
  all_goals simp [Bool.or_assoc]
theorem gIn_ints (neg : Bool) (a : Int) (v : D) (bs : List Int) (hv : v = .tup (bs.map .int) ∨ v = .lst (bs.map .int)) (s : DS) : gIn neg (.int a) v s = .ok (.bl (if neg = true then !(bs.any fun b => dcd (b = a)) else bs.any fun b => dcd (b = a))) s := by
  have h1 : (bs.map D.int).all flD = true := by simp [flD]
  have h2 : inD (.int a) (bs.map D.int) = bs.any fun b => dcd (b = a) := by
    unfold inD
    rw [List.any_map]
    congr 1
  rcases hv with rfl | rfl <;> simp only [gIn, seqV, h1, h2, flD] <;> simp
/-! ### two loops side by side -/
theorem loops2 {stepA stepB : D → DS → R Fl} {IA IB : DS → Prop} {ok : D → Prop} : ∀ (a b : List D), a.length = b.length →
    (∀ (i : Nat) x y, a[i]? = some x → b[i]? = some y → ∀ s t, IA s → IB t → (∃ r s' t', ok r ∧ stepA x s = .ok (.rt r) s' ∧ stepB y t = .ok (.rt r) t' ∧ IA s' ∧ IB t') ∨ ∃ s' t', (stepA x s = .ok .nx s' ∨ stepA x s = .ok .ct s') ∧ (stepB y t = .ok .nx t' ∨ stepB y t = .ok .ct t') ∧ IA s' ∧ IB t') →
    ∀ s t, IA s → IB t → (∃ r s' t', ok r ∧ loopL allw stepA a s = .ok (.rt r) s' ∧ loopL allw stepB b t = .ok (.rt r) t' ∧ IA s' ∧ IB t') ∨ ∃ s' t', loopL allw stepA a s = .ok .nx s' ∧ loopL allw stepB b t = .ok .nx t' ∧ IA s' ∧ IB t'
  | [], [], _, _, s, t, hs, ht => .inr ⟨s, t, rfl, rfl, hs, ht⟩
  | [], _ :: _, h, _, _, _, _, _ => by simp at h
  | _ :: _, [], h, _, _, _, _, _ => by simp at h
  | x :: a, y :: b, hl, h, s, t, hs, ht => by
    have ih := loops2 a b (by simpa using hl) (fun i x y e1 e2 => h (i + 1) x y e1 e2)
    rcases h 0 x y rfl rfl s t hs ht with ⟨r, s', t', h1, h2, h3, h4, h5⟩ | ⟨s', t', h2, h3, h4, h5⟩
    · refine .inl ⟨r, s', t', h1, ?_, ?_, h4, h5⟩
      · unfold loopL
        rw [if_pos (show allw _ = true from rfl), h2]
      · unfold loopL
        rw [if_pos (show allw _ = true from rfl), h3]
    · have e1 : loopL allw stepA (x :: a) s = loopL allw stepA a s' := by
        conv => lhs; unfold loopL
        rw [if_pos (show allw _ = true from rfl)]
        rcases h2 with h2 | h2 <;> rw [h2]
      have e2 : loopL allw stepB (y :: b) t = loopL allw stepB b t' := by
        conv => lhs; unfold loopL
        rw [if_pos (show allw _ = true from rfl)]
        rcases h3 with h3 | h3 <;> rw [h3]
      rw [e1, e2]
      exact ih s' t' h4 h5
theorem eqL_len : ∀ a b : List D, eqL a b = true → a.length = b.length
  | [], [], _ => rfl
  | [], _ :: _, h => by simp [eqL] at h
  | _ :: _, [], h => by simp [eqL] at h
  | x :: a, y :: b, h => by
    simp only [eqL, Bool.and_eq_true] at h
    simp [eqL_len a b h.2]
/-- _law_one(bag, row) -/
theorem one_ex {g_law_one : GF} {b_law_one : DS → R Fl} (hg : g_law_one = runF 2 b_law_one) (hb : b_law_one = (fRet (fBin (fVar 1) (fCallS 2 (fCons (fVar 0) (fCons (fCall (fCons (fVar 1) fNil) gLen) fNil)) [] g_law_pull) gIx))) (b : Bag) (hi : 0 ≤ b.i) (v : D) (ds : List D) (hv : v = .lst ds ∨ v = .tup ds) (h0 : 0 < ds.length) (h1 : ds.length ≤ 1000) :
    ∃ (d : D) (b' : Bag), d ∈ ds ∧ 0 ≤ b'.i ∧ ∀ μ, g_law_one [.obj 0, v] (b.mo :: μ) = .ok d ⟨[], b'.mo :: μ⟩ := by
  obtain ⟨k, b', i', l, u, p⟩ := pull_ex b ds.length hi (by omega) (by omega)
  obtain ⟨d, hd, e⟩ := atI_pick ds k l (by omega)
  refine ⟨d, b', hd, i', fun μ => ?_⟩
  subst hg hb
  rcases hv with rfl | rfl <;> simp [runF, fRet, fBin, fVar, fCallS, fCons, fNil, fCall, gLen, gIx, seqV, lstV, p, e]
end DL

/-! enumerate, list(range), o[i] op= e, try without a name. -/
namespace DL
open PySem L2 PySem.Spec PyProof.Rows

/-! ### enumerate -/
open AutoSeq1 (wpAny_loadPart') in
theorem meets_enum1 {v : Value} {o : Obj} {H : Heap → Prop} (B : Begins v o H) :
    Meets (Builtin.«enumerate.__new__» ⟨[.type "enumerate", v], []⟩) (fun _ R s => H s.heap ∧
      R (.ok (.ret (.ref (s.heap.push o).objs.size))) { s with heap := (s.heap.push o).push { cls := .type "enumerate", data := .fields #[.none, .bool false, .ref s.heap.objs.size, rawInt 0, .none, .none] } }) :=
  .of_wp fun prog w A R s h => by
    obtain ⟨hp, g, d, tk, os⟩ := s; obtain ⟨h1, h⟩ := h
    have hsub := sub_enumerate
    have q1 : ∀ {A' : Around} {E : Value → Shared → Prop} {Q : Value → Shared → Prop}, Q (.ref hp.objs.size) ⟨hp.push o, g, d, tk, os⟩ → wpAny (model prog w) A' (pyIter v) Q E ⟨hp, g, d, tk, os⟩ :=
      fun q => B.iter prog w _ _ ⟨hp, g, d, tk, os⟩ _ h1 q
    wp_walk using q1
    refine wpAny_stack_any fun st => wpAny_pure ?_
    split
    · rename_i c _ _ _ _ _
      cases (c == Value.type "enumerate")
      · wp_walk using q1
        exact ⟨_, rfl, h⟩
      · wp_walk using q1
        exact ⟨_, rfl, h⟩
    · wp_walk using q1
      exact ⟨_, rfl, h⟩
theorem call_enum1 {prog : Program} {w : World} {A : Around} {E : Value → Shared → Prop} {s : Shared} {v : Value} {o : Obj} {H : Heap → Prop} {Q : Value → Shared → Prop} (B : Begins v o H) (h1 : H s.heap)
    (h : ∀ h', IsEnum h' (s.heap.objs.size + 1) s.heap.objs.size 0 .none → h'.get? s.heap.objs.size = some o → h'.objs.size = s.heap.objs.size + 2 →
      (∀ b o, s.heap.get? b = some o → h'.get? b = some o) → Q (.ref (s.heap.objs.size + 1)) { s with heap := h' }) :
    wpAny (model prog w) A (call (.type "enumerate") [v]) Q E s := by
  refine callType_new F.called_enumerate (by decide) (F.typeCall_enumerate_1 _) (F.newCall_enumerate_1 _) (fun obj => F.args_object_init_2 obj _) F.entry_enumerate_new
    (meets_enum1 B) ⟨h1, ?_⟩
  have hz : (s.heap.push o).objs.size = s.heap.objs.size + 1 := Heap.size_push ..
  show _ ∧ _
  rw [hz]
  have he : IsEnum ((s.heap.push o).push { cls := .type "enumerate", data := .fields #[.none, .bool false, .ref s.heap.objs.size, rawInt 0, .none, .none] }) (s.heap.objs.size + 1) s.heap.objs.size 0 .none := by
    have := Heap.get?_push_size (s.heap.push o) (o := { cls := .type "enumerate", data := .fields #[.none, .bool false, .ref s.heap.objs.size, rawInt 0, .none, .none] }) rfl
    rw [hz] at this; exact this
  refine ⟨⟨_, he, rfl⟩, h _ he (Heap.get?_push_of_some _ (Heap.get?_push_size _ B.free)) (by rw [Heap.size_push, hz]) fun b o x => Heap.get?_push_of_some _ (Heap.get?_push_of_some _ x)⟩
/-- the tuple at a, each item in a new pair -/
def IteT (K : PySem.W.Frag) (a : Addr) : It :=
  ⟨fun i H => ∃ (xs : List V) (x : V), SqT K H a xs ∧ xs[i]? = some x, fun i H v H' => ∃ T x, v = .ref T ∧ H T = none ∧ H' = upd H T (.tup [.int (i : Nat), x]) ∧ ∀ xs, SqT K H a xs → xs[i]? = some x, fun i H => ∃ xs : List V, SqT K H a xs ∧ xs.length ≤ i⟩
theorem turn_enumT {P : Program} {w : World} {K : PySem.W.Frag} {elts : List Expr} {kk : Nat} {tpos : Pos} (a e it : Addr) :
    Turn P w K (.Tuple elts kk tpos) (IteT K a) [e, it] e (fun i h => (∃ old, IsEnum h e it ((i : Nat) : Int) old) ∧ h.IsTupleIter it a i ∧ e ≠ it ∧ a ≠ it ∧ e ≠ a) where
  mem := by simp
  obj := fun i h st b hb => by
    obtain ⟨⟨old, he⟩, ⟨o, ho, hc, hd⟩, _⟩ := st
    have e' : b = e ∨ b = it := by simpa using hb
    rcases e' with z | z
    · rw [z]; exact ⟨_, he, fun v q => nomatch q⟩
    · rw [z]; exact ⟨o, ho, fun v q => by rw [hd] at q; cases q⟩
  keep := fun i h h' st k => let ⟨⟨old, he⟩, hi, hne⟩ := st; ⟨⟨old, k e (by simp) _ he⟩, hi.at fun o q => k it (by simp) o q, hne⟩
  item := by
    intro X hP hw hK hc i pins s σ H E I hf st hg
    subst hP hw hK
    obtain ⟨⟨old, he⟩, hit, hne, hai, hea⟩ := st
    obtain ⟨xs, x, hq, hx⟩ := hg
    obtain ⟨its, rv, p, hz⟩ := I.tuple hq
    obtain ⟨u, hu, ru⟩ := rv.get hx
    have hel : e < s.heap.objs.size := Heap.lt_size he
    have hil : it < s.heap.objs.size := by obtain ⟨_, q, _⟩ := hit; exact Heap.lt_size q
    have hlt : i < its.toArray.size := by have := (List.getElem?_eq_some_iff.mp hu).1; simpa using this
    have D := Draws.tuple (prog := X.prog) (w := X.w) (A := X.A.in1) (I.ok.hd hc) it a hai its.toArray
    refine wpAny_pyNext_enum_itemD (i := i) D he ⟨hit, show s.heap.IsTuple a its.toArray from p⟩ hlt hne (by simp [hne, hea]) fun y h' tk hy ho hst' hT hsz hk => ?_
    have hyu : y = u := by
      have h1 : its.toArray[i]? = some u := by simpa using hu
      rw [h1] at hy
      exact (Option.some.inj hy).symm
    subst hyu
    refine ⟨_, rfl, wpAny_letOwnedTupleGo_enum (s := { s with heap := h', toks := tk + 1 }) ho fun h'' he' sb => ?_⟩
    have hT2 : h''.get? s.heap.objs.size = some { cls := .type "tuple", data := .seq #[.int i tk, y] } := (sb.2 _ (Nat.ne_of_gt hel)).trans hT
    have new : ObjOk X.prog X.w (upd H s.heap.objs.size (.tup [.int (i : Nat), x])) h'' s.heap.objs.size (.tup [.int (i : Nat), x]) :=
      ⟨by show 2 ≤ sizeLine; decide, [.int i tk, y], .cons ⟨_, rfl⟩ (.cons ru .nil), ⟨_, hT2, rfl, _, rfl⟩⟩
    have I1 : Inv X pins σ (upd H s.heap.objs.size (.tup [.int (i : Nat), x])) { s with heap := h'', toks := tk + 1 } :=
      I.turnedNew (ch := [e, it]) (fun b ob hb q => (sb.2 b (fun z => hb (by simp [z]))).trans (hk b ob (fun z => hb (by simp [z])) (fun z => hb (by simp [z])) q)) hf (Nat.le_refl _) new
    refine ⟨.ref s.heap.objs.size, _, I1, rfl, ⟨_, x, rfl, I.hok.fresh (Nat.le_refl _), rfl, fun ys hy => by rw [I.tuple_inj hy hq]; exact hx⟩, ⟨⟨y, ?_⟩, hst'.1.at fun o q => (sb.2 it (Ne.symm hne)).trans q, hne, hai, hea⟩, fun b hb => ?_⟩
    · have e1 : ((i + 1 : Nat) : Int) = (i : Int) + 1 := by omega
      rw [e1]; exact he'
    · have hb' : b < s.heap.objs.size := by
        have e' : b = e ∨ b = it := by simpa using hb
        rcases e' with z | z
        · rw [z]; exact hel
        · rw [z]; exact hil
      rw [upd_ne (Nat.ne_of_lt hb')]
      exact (hf b hb).1
  done := by
    intro X hP hw hK hc i pins s σ H E I hf st hg
    subst hP hw hK
    obtain ⟨⟨old, he⟩, hit, hne, hai, hea⟩ := st
    obtain ⟨xs, hq, hx⟩ := hg
    obtain ⟨its, rv, p, hz⟩ := I.tuple hq
    obtain ⟨f0, f1, f2, f3, f4, f5⟩ := hf it (by simp)
    have hl := rv.length
    have hT : s.TypeIs (.ref e) "enumerate" := ⟨_, he, rfl⟩
    unfold pyNext
    refine wpAny_bind (wpAny_attempt (wpAny_callSpecial?_slot (name := Str.ofString "__next__") hT F.slot_enumerate_next
      (wpAny_call_entry F.slot_enumerate_next hT F.entry_enumerate_next ?_ (F.args_enumerate_next_1 _))))
    show wpAny _ _ (field (.ref e) 2 >>= _) _ _ _
    refine wpAny_bind (wpAny_field he rfl (x := .ref it) rfl ?_)
    refine wpAny_bind (wpAny_nextOf_tuple_end (I.ok.hd hc) hit (show s.heap.IsTuple a its.toArray from p) (by simp; omega) fun h' x he' hx' => ?_)
    obtain ⟨o, ho, hc2⟩ := hx'
    refine wpAny_bind (wpAny_isInstance (T := "StopIteration") (b := true) ⟨o, ho, hc2⟩ isSubtype_stop ?_)
    exact wpAny_pure ⟨rfl, I.turned (t' := s.toks) (fun b o hb q => he' b o hb q) f0 f1 f3 f4 f5⟩
  self := fun A i s Q E st h => let ⟨⟨_, he⟩, _⟩ := st; wpAny_pyIter_enum he h
def iEnumT (K : PySem.W.Frag) (ta : TA) : TI := fun σ H R => ta σ H fun vs H1 => ∃ a xs, vs = [.ref a] ∧ SqT K H1 a xs ∧ R (IteT K a) H1
theorem pi_enumT {X : Cx} {e : Expr} {ta : TA} {p pos tpos : Pos} {elts : List Expr} {kk : Nat} (hg : Gl X "enumerate") (hm : X.mg "enumerate" = none) (ha : PA X [e] ta) (hs : starEach [e] X.env = [(false, eval e X.env)] := by rfl) :
    PI X (.Tuple elts kk tpos) (.Call (.Name "enumerate" p) [e] [] pos) (iEnumT X.K ta) := by
  refine ⟨fun pins s σ H R I h => ?_⟩
  refine Call_ (ld_blt I hg hm boot_enumerate (PyProof.Rows.callWith_type1 (thn (ha.run pos pins s σ H _ I h) fun us s1 ⟨vs, H1, I1, r1, q1⟩ => ?_) hs rfl))
  obtain ⟨a, xs, ex, hq, q⟩ := q1
  subst ex
  cases r1 with
  | cons r rr =>
    cases rr
    cases r
    obtain ⟨its, rv, p', hz⟩ := I1.tuple hq
    have hT : s1.heap.IsTuple a its.toArray := p'
    have hal : a < s1.heap.objs.size := by obtain ⟨_, q, _⟩ := hT; exact Heap.lt_size q
    refine call_enum1 (begins_tuple a its.toArray) hT fun h' he hit hsz hk => wpAny_pyIter_enum he ?_
    have I2 : Inv X pins σ H1 { s1 with heap := h' } := I1.kept (t' := s1.toks) hk
    refine ⟨s1.heap.objs.size + 1, [s1.heap.objs.size + 1, s1.heap.objs.size], _, _, H1, rfl, I2, turn_enumT a (s1.heap.objs.size + 1) s1.heap.objs.size, ⟨⟨.none, he⟩, ⟨_, hit, rfl, rfl⟩, Nat.succ_ne_self _, Nat.ne_of_lt hal, Nat.ne_of_gt (Nat.lt_succ_of_lt hal)⟩, fun b hb => ?_, q⟩
    have e' : b = s1.heap.objs.size + 1 ∨ b = s1.heap.objs.size := by simpa using hb
    have hle : s1.heap.objs.size ≤ b := by
      rcases e' with z | z
      · rw [z]; exact Nat.le_add_right _ _
      · rw [z]; exact Nat.le_refl _
    exact I1.fpOk hle (I1.hok.fresh hle)
/-- as data -/
def enumD (ds : List D) : List D := (List.range ds.length).map fun i => .tup [.int (i : Nat), ds.getD i .non]
theorem enumD_get {ds : List D} {i : Nat} {p : D} (h : (enumD ds)[i]? = some p) : ∃ d, ds[i]? = some d ∧ p = .tup [.int (i : Nat), d] := by
  unfold enumD at h
  rw [List.getElem?_map] at h
  cases q : (List.range ds.length)[i]? with
  | none => rw [q] at h; cases h
  | some j =>
    rw [q] at h
    cases h
    obtain ⟨hj, e⟩ := List.getElem?_eq_some_iff.mp q
    simp at e
    subst e
    have hi : i < ds.length := by simpa using hj
    exact ⟨ds[i], List.getElem?_eq_getElem hi, by simp [List.getD, List.getElem?_eq_getElem hi]⟩
@[simp] theorem enumD_len (ds : List D) : (enumD ds).length = ds.length := by simp [enumD]
def wkEnumL : List D → DS → R Wk := fun as s => match as with
  | [.lst ds] => .ok (enumD ds, allw) s
  | [.lsr ds] => .ok (enumD ds, allw) s
  | _ => .bad
def wkEnumT : List D → DS → R Wk := fun as s => match as with
  | [.tup ds] => .ok (enumD ds, allw) s
  | _ => .bad
def fWEL (f : DS → R (List D)) : DS → R Wk := fun s => (f s).bind wkEnumL
def fWET (f : DS → R (List D)) : DS → R Wk := fun s => (f s).bind wkEnumT
section
variable {X : Cx} {W : WX} {p pos tpos : Pos} {elts : List Expr} {kk : Nat}
theorem enum_yld {K : PySem.W.Frag} {mg : Str → Option Value} {ρ : List Addr} {F H : Hp} {μ : List MO} {T : Addr} {i : Nat} {d : D} {v : V} (m : MRel K mg ρ F μ H) (hT : H T = none) (r : Rd K ρ F d v) :
    ∃ F', Ext ρ F H ρ F' (upd H T (.tup [.int (i : Nat), v])) ∧ MRel K mg ρ F' μ (upd H T (.tup [.int (i : Nat), v])) ∧ Rd K ρ F' (.tup [.int (i : Nat), d]) (.ref T) := by
  obtain ⟨m2, x2⟩ := m.frozen (o := .tup [.int (i : Nat), v]) hT
  exact ⟨_, x2, m2, T, _, rfl, .new upd_same, _, _, rfl, rfl, _, _, rfl, r.ext x2, rfl⟩
theorem pdi_enumL {e : Expr} {f : DS → R (List D)} (hg : Gl X "enumerate") (hm : X.mg "enumerate" = none) (ha : PDA X W [e] f) (hs : starEach [e] X.env = [(false, eval e X.env)] := by rfl) : PDI X W (.Tuple elts kk tpos) (.Call (.Name "enumerate" p) [e] [] pos) (fWEL f) := by
  obtain ⟨t, e1, l⟩ := ha
  refine ⟨_, pi_enum hg hm e1 hs, fun ρ F s σ H Rr rl h => l ρ F s σ H _ rl (PostI.bind h fun ds s1 ρ1 F1 H1 vs x1 rl1 rd1 h1 => ?_)⟩
  have main : ∀ a es us, SqL X.K F1 a us → RdL X.K ρ1 F1 es us → PostI X W ρ1 F1 H1 σ Rr (.ok (enumD es, allw) s1) → ∃ a' xs, [V.ref a] = [.ref a'] ∧ SqL X.K H1 a' xs ∧ Rr (Ite X.K a') H1 := fun a es us q le h => by
    refine ⟨a, us, rfl, rl1.mem.sub.seq q, h ρ1 F1 H1 _ (Ext.refl ..) rl1 ⟨fun ρ' F' H' μ x m _ => ⟨us, (x.fro.trans m.sub).seq q, by rw [enumD_len, le.length]; exact Nat.le_refl _⟩, fun i p hp ρ' F' H' μ x m _ => ?_⟩⟩
    obtain ⟨d, hd, rfl⟩ := enumD_get hp
    obtain ⟨v, hv, rv⟩ := le.get hd
    have q' := (x.fro.trans m.sub).seq q
    refine ⟨⟨us, v, q', hv⟩, fun y H2 yd => ?_⟩
    obtain ⟨T, z, rfl, hT, rfl, hz⟩ := yd
    have hzv : z = v := by
      have := hz us q'
      rw [hv] at this
      exact (Option.some.inj this).symm
    subst hzv
    exact enum_yld m hT (rv.ext x)
  unfold wkEnumL at h1
  split at h1
  · obtain ⟨w, rfl, a, us, rfl, q, le⟩ := rdl1 rd1
    exact main a _ us (.inl (.inl q)) le h1
  · obtain ⟨w, rfl, a, us, rfl, q, le⟩ := rdl1 rd1
    exact main a _ us q le h1
  · exact h1.elim
theorem pdi_enumT {e : Expr} {f : DS → R (List D)} (hg : Gl X "enumerate") (hm : X.mg "enumerate" = none) (ha : PDA X W [e] f) (hs : starEach [e] X.env = [(false, eval e X.env)] := by rfl) : PDI X W (.Tuple elts kk tpos) (.Call (.Name "enumerate" p) [e] [] pos) (fWET f) := by
  obtain ⟨t, e1, l⟩ := ha
  refine ⟨_, pi_enumT hg hm e1 hs, fun ρ F s σ H Rr rl h => l ρ F s σ H _ rl (PostI.bind h fun ds s1 ρ1 F1 H1 vs x1 rl1 rd1 h1 => ?_)⟩
  unfold wkEnumT at h1
  split at h1
  · rename_i es
    obtain ⟨w, rfl, a, us, rfl, q, le⟩ := rdl1 rd1
    refine ⟨a, us, rfl, sqT_mono rl1.mem.sub q, h1 ρ1 F1 H1 _ (Ext.refl ..) rl1 ⟨fun ρ' F' H' μ x m _ => ⟨us, sqT_mono (x.fro.trans m.sub) q, by rw [enumD_len, le.length]; exact Nat.le_refl _⟩, fun i p hp ρ' F' H' μ x m _ => ?_⟩⟩
    obtain ⟨d, hd, rfl⟩ := enumD_get hp
    obtain ⟨v, hv, rv⟩ := le.get hd
    have q' := sqT_mono (x.fro.trans m.sub) q
    refine ⟨⟨us, v, q', hv⟩, fun y H2 yd => ?_⟩
    obtain ⟨T, z, rfl, hT, rfl, hz⟩ := yd
    have hzv : z = v := by
      have := hz us q'
      rw [hv] at this
      exact (Option.some.inj this).symm
    subst hzv
    exact enum_yld m hT (rv.ext x)
  · exact h1.elim
end
/-! ### list(range(..)) -/
section
variable {X : Cx} {W : WX}
def rgC (i c : Int) (n : Nat) : List V := (List.range n).map fun m => V.int (i + (m : Nat) * c)
theorem vals_rgC {a c : Int} {n : Nat} {acc : Array Value} (h : ItemsOf (fun i v => ∃ t, v = .int (a + i * c) t) acc n) : Vals (rgC a c n) acc.toList := by
  have e : acc.toList.length = n := by rw [Array.length_toList]; exact h.1
  unfold rgC
  rw [← e]
  refine vals_of_get acc.toList _ fun j u hj => ?_
  obtain ⟨t, rfl⟩ := h.2 j u (by rw [← hj, Array.getElem?_toList])
  exact ⟨t, rfl⟩
def tLstRg3 (ta : TA) : TE := fun σ H Q => ta σ H fun vs H1 => ∃ (i j k : Int) (n : Nat), vs = [.int i, .int j, .int k] ∧ RgC i j k n ∧ n ≤ 2 ^ 24 ∧ ∀ q, H1 q = none → Q (.ref q) (upd H1 q (.lst (rgC i k n)))
theorem pe_listRg3 {a b c : Expr} {ta : TA} {p pos p2 pos2 : Pos} (hc : X.calm = true) (hgl : Gl X "list") (hml : X.mg "list" = none) (hg : Gl X "range") (hm : X.mg "range" = none) (ha : PA X [a, b, c] ta)
    (hs : starEach [a, b, c] X.env = (false, eval a X.env) :: starEach [b, c] X.env := by rfl) (hpl : (backTo pos2 (starEach [b, c] X.env)).any (·.1) = false := by rfl)
    (na : starEach [.Call (.Name "range" p2) [a, b, c] [] pos2] X.env = (false, eval (.Call (.Name "range" p2) [a, b, c] [] pos2) X.env) :: starEach [] X.env := by rfl) :
    PE X (.Call (.Name "list" p) [.Call (.Name "range" p2) [a, b, c] [] pos2] [] pos) (tLstRg3 ta) := by
  refine ⟨fun pins s σ H Q I h => ?_⟩
  have inner : wpAny (model X.prog X.w) X.A (eval (.Call (.Name "range" p2) [a, b, c] [] pos2) X.env) (fun x s1 => ∃ r i j k n t t' t'' H1, x = .ref r ∧ IsRange s1.heap r i j k t t' t'' ∧ Inv X pins σ H1 s1 ∧ RgC i j k n ∧ n ≤ 2 ^ 24 ∧ ∀ q, H1 q = none → Q (.ref q) (upd H1 q (.lst (rgC i k n)))) X.xe s := by
    refine Call_ (ld_blt I hg hm boot_range (PyProof.Rows.callWith_type1 (thn (ha.run pos2 pins s σ H _ I h) fun us s1 ⟨vs, H1, I1, r1, q1⟩ => ?_) hs hpl))
    obtain ⟨i, j, k, n, e, ok, hn, q⟩ := q1
    subst e
    cases r1 with
    | cons r rr =>
      cases rr with
      | cons r' rr =>
        cases rr with
        | cons r'' rr =>
          cases rr
          obtain ⟨t, rfl⟩ := r
          obtain ⟨t', rfl⟩ := r'
          obtain ⟨t'', rfl⟩ := r''
          exact call_range_3 ok.1 ⟨_, i, j, k, n, _, _, _, H1, rfl, IsRange.new _ _ _ _ _ _ _, I1.kept fun b u e => Heap.get?_push_of_some _ e, ok, hn, q⟩ (.inl (PyProof.noPylong_small ok.2.1))
  refine Call_ (ld_blt I hgl hml boot_list (PyProof.Rows.callWith_type1 (args_cons (thn inner fun x s1 ⟨r, i, j, k, n, t, t', t'', H1, ex, hr, I1, ok, hn, q⟩ => args_nil ?_) na) na))
  subst ex
  refine call_list_range (n := n) (I1.ok.hd hc) hr ok.2.2.1 ok.2.2.2 hn fun h' tk acc c' hk e' hi => ?_
  refine ⟨.ref s1.heap.objs.size, upd H1 s1.heap.objs.size (.lst (rgC i k n)), I1.laid hk (Nat.le_refl _) (show ObjOk X.prog X.w _ _ _ (.lst (rgC i k n)) from ⟨?_, acc.toList, c', vals_rgC hi, ?_⟩), rfl, q _ (I1.hok.fresh (Nat.le_refl _))⟩
  · unfold rgC
    rw [List.length_map, List.length_range, sizeLine_eq]
    omega
  · rw [Array.toArray_toList]; exact e'
noncomputable def fLstRg3 (f : DS → R (List D)) : DS → R D := fun s => (f s).bind fun ds s1 => match ds with
  | [.int i, .int j, .int c] => if Pr (RgC i j c (Builtin.Range.rangeSize i j c).toNat ∧ (Builtin.Range.rangeSize i j c).toNat ≤ 2 ^ 24) then .ok (.lst (rngC i c (Builtin.Range.rangeSize i j c).toNat)) s1 else .bad
  | _ => .bad
theorem rdl_rgC {K : PySem.W.Frag} {ρ : List Addr} {F : Hp} {i c : Int} (n : Nat) : RdL K ρ F (rngC i c n) (rgC i c n) := by
  unfold rngC rgC
  generalize List.range n = l
  induction l with
  | nil => rfl
  | cons m l ih => exact ⟨_, _, rfl, rfl, ih⟩
theorem pd_listRg3 {a b c : Expr} {f : DS → R (List D)} {p pos p2 pos2 : Pos} (hc : X.calm = true) (hgl : Gl X "list") (hml : X.mg "list" = none) (hg : Gl X "range") (hm : X.mg "range" = none) (ha : PDA X W [a, b, c] f)
    (hs : starEach [a, b, c] X.env = (false, eval a X.env) :: starEach [b, c] X.env := by rfl) (hpl : (backTo pos2 (starEach [b, c] X.env)).any (·.1) = false := by rfl)
    (na : starEach [.Call (.Name "range" p2) [a, b, c] [] pos2] X.env = (false, eval (.Call (.Name "range" p2) [a, b, c] [] pos2) X.env) :: starEach [] X.env := by rfl) :
    PD X W (.Call (.Name "list" p) [.Call (.Name "range" p2) [a, b, c] [] pos2] [] pos) (fLstRg3 f) := by
  obtain ⟨t, e1, l⟩ := ha
  refine ⟨_, pe_listRg3 hc hgl hml hg hm e1 hs hpl na, fun ρ F s σ H Q rl h => l ρ F s σ H _ rl (h.bind fun ds s1 ρ1 F1 H1 vs x1 rl1 rd1 h1 => ?_)⟩
  split at h1
  · obtain ⟨v1, vs1, rfl, r1, q1⟩ := rd1
    obtain ⟨v2, vs2, rfl, r2, q2⟩ := q1
    obtain ⟨v3, vs3, rfl, r3, q3⟩ := q2
    cases q3
    split at h1
    · rename_i i j c hc
      cases r1
      cases r2
      cases r3
      exact ⟨i, j, c, _, rfl, hc.1, hc.2, Post.lst h1 rl1 (rdl_rgC _)⟩
    · exact h1.elim
  · exact h1.elim
/-! ### o[i] op= e, o a list -/
theorem get_list : PGet X (fun o i H Q => ∃ (p : Addr) (xs : List V) (k : Nat) (v : V), o = .ref p ∧ i = .int (k : Nat) ∧ SqL X.K H p xs ∧ xs[k]? = some v ∧ Q v H) := by
  intro pins s σ H o i ov iv Q I r1 r2 h
  obtain ⟨p, xs, k, v, rfl, rfl, hq, hx, q⟩ := h
  cases r1
  obtain ⟨t, rfl⟩ := r2
  obtain ⟨its, r, pl, hz⟩ := I.list hq
  obtain ⟨u, hu, ru⟩ := r.get hx
  have hk : k < its.length := (List.getElem?_eq_some_iff.mp hu).1
  have hs : its.length ≤ 16777216 := by have h1 := hz; have h2 := r.length; rw [sizeLine_eq] at h1; omega
  exact wpAny_getItem_list pl.isList (by omega) (by omega) (by simpa using hu) ⟨v, H, I, ru, q⟩
def fAugIx (fo fi fe : DS → R D) (g : D → D → DS → R D) : DS → R Fl := fun s => (fo s).bind fun o s1 => (fi s1).bind fun i s2 => match o, i with
  | .obj k, .int j => (match objL s2 k with
    | some ds => if 0 ≤ j then (match ds[j.toNat]? with
      | some d => (fe s2).bind fun e s3 => (g d e s3).bind fun z s4 => (gSetL (.obj k) (.int j) z s4).bind fun _ s5 => .ok .nx s5
      | none => .bad) else .bad
    | none => .bad)
  | _, _ => .bad
theorem pds_augIx {o i e : Expr} {fo fi fe : DS → R D} {g : D → D → DS → R D} {op : Operator} {ti : TIp} {tpos pos : Pos} (ho : PD X W o fo) (hi : PD X W i fi) (he : PD X W e fe) (hp : PIp X op ti) (hg : OpD X W ti g)
    (ha : ∀ ov iv new, augStore i ov iv new = (do holding [new, ov, iv] (setItem ov iv new); release [new, ov, iv] []; pure .next) := by intros; rfl) : PDs X W (.AugAssign (.Subscript o i tpos) op e pos) (fAugIx fo fi fe g) := by
  obtain ⟨to, e1, l1⟩ := ho
  obtain ⟨tii, e2, l2⟩ := hi
  obtain ⟨te, e3, l3⟩ := he
  refine ⟨_, ps_augS e1 e2 get_list e3 hp set_list ha, fun ρ F s σ H E rl h => l1 ρ F s σ H _ rl (PostS.bind h fun o' s1 ρ1 F1 H1 v x1 rl1 rd1 h1 => ?_)⟩
  refine l2 ρ1 F1 s1 σ H1 _ rl1 (PostS.bind h1 fun i' s2 ρ2 F2 H2 u x2 rl2 rd2 h2 => ?_)
  split at h2
  · rename_i k j
    split at h2
    · rename_i ds q
      split at h2
      · rename_i hj
        split at h2
        · rename_i d hd
          obtain ⟨p, rfl, hp0, f0, vs, hl, l⟩ := Rel.objAt rl2.mem (rd1.ext x2) (objL_eq q) trivial
          obtain ⟨w, hw, rw'⟩ := l.get hd
          cases rd2
          refine ⟨p, vs, j.toNat, w, rfl, ?_, .inl (.inl hl), hw, ?_⟩
          · rw [Int.toNat_of_nonneg hj]
          refine l3 ρ2 F2 s2 σ H2 _ rl2 (PostS.bind h2 fun e' s3 ρ3 F3 H3 u3 x3 rl3 rd3 h3 => ?_)
          refine hg ρ3 F3 s3 σ H3 d e' w u3 _ rl3 (rw'.ext x3) rd3 (PostS.bind h3 fun z s4 ρ4 F4 H4 u4 x4 rl4 rd4 h4 => ?_)
          refine setd_list (X := X) (W := W) ρ4 F4 s4 σ H4 (.obj k) (.int j) z (.ref p) (.int j) u4 _ rl4 ?_ rfl rd4 (PostS.bind h4 fun _ s5 ρ5 F5 H5 _ x5 rl5 _ h5 => ?_)
          · exact ((rd1.ext x2).ext x3).ext x4
          · exact h5 ρ5 F5 H5 σ (Ext.refl ..) rl5
        · exact h2.elim
      · exact h2.elim
    · exact h2.elim
  · exact h2.elim
end
end DL
namespace DL
open PySem L2 PySem.Spec PyProof.Rows
/-! ### try: .. except C: suite -/
def fTryOnly (fb : DS → R Fl) (ctch : Ex → Option Bool) (fs : DS → R Fl) : DS → R Fl := fun s => match fb s with
  | .ex e s1 => match ctch e with
    | some true => (match fs s1 with
      | .ok fl s2 => .ok fl s2
      | _ => .bad)
    | some false => .ex e s1
    | none => .bad
  | r => r
section
variable {X : Cx} {W : WX}
theorem pds_try_only {xn : Str} {c : Value} {body suite : List Stmt} {b₀ : Stmt} {np pos pos' : Pos} {fb : DS → R Fl} {ctch : Ex → Option Bool} {fs : DS → R Fl}
    (hs : X.stack = X.env :: X.outer) (hf : X.env.frame = some X.env.locals) (hc : Names X xn c) (tk : Takes X W)
    (hct : ∀ (e : Ex) b C, ctch e = some b → X.mg e.cls = some (.ref C) → PySem.W.exmOne X.K (.ref C) c = some b)
    (hb : ∀ (W' : WX) (pn : List (Addr × Obj)) (xe : Value → Shared → Prop), Takes (X.tr pn xe) W' → PassesOwn (model X.prog X.w) X.A X.env xe → PDss (X.tr pn xe) W' body fb)
    (hsu : ∀ (a : Addr) (oe : Obj) (cls : Value) (d : Option Addr) (pn : List (Addr × Obj)), PDss (X.suite a ((a, oe) :: pn)) W0 (b₀ :: suite) fs) :
    PDs X W (.Try body [.ExceptHandler (some (.Name xn np)) none (b₀ :: suite) pos'] [] [] pos) (fTryOnly fb ctch fs) := by
  let tsO : Addr → Value → Option Addr → Obj → List (Addr × Obj) → TS := fun a cls d oe pn => fun D σ H => (Classical.choose (hsu a oe cls d pn)) D σ H
  let ts : Addr → Value → Option Addr → TS := fun a cls d => fun D σ H => ∀ oe pn, tsO a cls d oe pn D σ H
  let tb : WX → TS := fun W' => fun D σ H => ∀ pn xe (h1 : Takes (X.tr pn xe) W') (h2 : PassesOwn (model X.prog X.w) X.A X.env xe), (Classical.choose (hb W' pn xe h1 h2)) D σ H
  refine ⟨_, ps_try_only (tb := tb) (ts := ts) hs hf hc tk (fun W' pn xe h1 h2 => ⟨fun pins s σ H D I h => (Classical.choose_spec (hb W' pn xe h1 h2)).1.run pins s σ H D I (h pn xe h1 h2)⟩)
    (fun a oe cls d pn hz hf' => ⟨fun pins s σ H D I h => (Classical.choose_spec (hsu a oe cls d pn)).1.run pins s σ H D I (h oe pn)⟩), fun ρ F s σ H E rl h => ?_⟩
  intro pn xe h1 h2
  refine (Classical.choose_spec (hb _ pn xe h1 h2)).2 ρ F s σ H E rl ?_
  unfold fTryOnly at h
  cases q : fb s with
  | bad => rw [q] at h; exact h
  | ok fl s1 => rw [q] at h; cases fl <;> exact h
  | ex e s1 =>
    rw [q] at h
    simp only at h
    intro ρ1 F1 H1 σ1 cls d x1 rl1 er
    obtain ⟨C, hC, rfl, hn1, hn2⟩ := er
    cases qc : ctch e with
    | none => rw [qc] at h; exact h.elim
    | some b =>
      rw [qc] at h
      refine ⟨b, hct _ b C qc hC, fun hb' a ha => ?_, fun hb' => ?_⟩
      · subst hb'
        simp only at h
        intro oe pn
        refine (Classical.choose_spec (hsu a oe (.ref C) d pn)).2 ρ1 F1 s1 _ H1 _ rl1 ?_
        cases q0 : fs s1 with
        | bad => rw [q0] at h; exact h.elim
        | ex _ _ => rw [q0] at h; exact h.elim
        | ok fl0 s0 =>
          rw [q0] at h
          have h3 := PostS.ext (show PostS X W ρ F H E (.ok fl0 s0) from h) x1
          cases fl0 <;> exact h3
      · subst hb'
        simp only at h
        exact h ρ1 F1 H1 σ1 (.ref C) d x1 rl1 ⟨C, hC, rfl, hn1, hn2⟩
end
/-! ### calls with keywords, defaults -/
/-- a def whose defaults may stand -/
structure FunQ (K : PySem.W.Frag) (x qual : Str) (st : Stmt) (f : Addr) (fd : FuncData) : Prop where
  ex : ∃ (oc : Value) (od : Option Addr) (dV kV doc pm : Value) (an : Option Addr) (cdv ct : Value) (osl : Array (Option Value)),
    fd = PySem.W.fnOf x qual (defArgs st) (defBody st) (defScope st) dV kV doc pm an cdv ct ∧ K.lookup f = some ⟨oc, od, .func fd, osl⟩ ∧ PySem.W.codeIn K cdv qual = true
  kp : PySem.W.keepIn K (.ref f) = true
theorem funq_mk {K : PySem.W.Frag} {x qual : Str} {st : Stmt} {f : Addr} {oc : Value} {od an : Option Addr} {osl : Array (Option Value)} {dV kV doc pm cdv ct : Value} (l : K.lookup f = some ⟨oc, od, .func (PySem.W.fnOf x qual (defArgs st) (defBody st) (defScope st) dV kV doc pm an cdv ct), osl⟩)
    (c : PySem.W.codeIn K cdv qual = true) (k : PySem.W.keepIn K (.ref f) = true) : FunQ K x qual st f (PySem.W.fnOf x qual (defArgs st) (defBody st) (defScope st) dV kV doc pm an cdv ct) := ⟨⟨oc, od, dV, kV, doc, pm, an, cdv, ct, osl, rfl, l, c⟩, k⟩
theorem fn_stQ {P : Program} {w : World} {K : PySem.W.Frag} {mg : Str → Option Value} {base : Heap} {k : Nat} {f : Addr} {fd : FuncData} {ps : List Str} {x qual : Str} {st : Stmt} {N : List Str} {fb : DS → R Fl} (F : FunQ K x qual st f fd) (S : FnScope N ps (defScope st))
    (hb : ∀ (cdv : Value) (A : Around) (outer : List Env) (s : Shared) (H : Hp) (E : XK), Room k (A.deeper (envOfC qual (defScope st) s.heap.objs.size f cdv)) →
      PDss (cxOf (L2.CX P w) P w K mg base N qual (defScope st) f cdv A outer s H E) (fun cls d _ H' => E cls d H') (defBody st) fb) :
    FnOk P w K mg base (L2.CX P w) (k + 1) f fd ps (spD K mg ps.length (runF N.length fb)) := by
  obtain ⟨oc, od, dV, kV, doc, pm, an, cdv, ct, osl, rfl, lk, hcd⟩ := F.ex
  refine fn_of lk hcd S (fun vs H Q E h => spD_len h) fun A outer s H vs Q E hr h => ?_
  obtain ⟨t, e1, l⟩ := hb cdv A outer s H E hr
  refine ⟨t, e1, ?_⟩
  obtain ⟨ρ, Fz, μ, args, hl, m, r, p⟩ := h
  refine l ρ Fz ⟨args.map some ++ List.replicate (N.length - args.length) none, μ⟩ (L2.start N vs) H _ ⟨m, start_rel r⟩ ?_
  unfold runF at p
  cases q : fb ⟨args.map some ++ List.replicate (N.length - args.length) none, μ⟩ with
  | bad => rw [q] at p; exact p
  | ex e s1 => rw [q] at p; exact fun ρ' F' H' σ' cls d x rl er => p ρ' F' H' cls d x rl.mem er
  | ok fl s1 =>
    rw [q] at p
    cases fl with
    | nx => exact fun ρ' F' H' σ' x rl => p ρ' F' H' .non x rl.mem rfl
    | rt d => exact fun ρ' F' H' v x m r => p ρ' F' H' v x m r
    | bk => exact p.elim
    | ct => exact p.elim
/-- its arguments, where m defaults fill up -/
theorem bindsQ {K : PySem.W.Frag} {fd : FuncData} {ps : List Str} {T : Addr} {o : Obj} {its : List Value} {c : Nat} {ds : List Value} (n : Nat) (hn : n + ds.length = ps.length) (lT : K.lookup T = some o) (oT : o.data = .seq its.toArray c)
    (h : ∀ us : List Value, us.length = n → ∃ k, bindArgs fd ⟨us, []⟩ = seqItems? (.ref T) >>= k ∧ k (some its.toArray) = pure (ps.zip (us ++ ds))) : Binds K fd ps ds := fun s us X hlen => by
  obtain ⟨k, e1, e2⟩ := h us (by rw [List.length_append] at hlen; omega)
  refine BindsTo.of_looks fun M => ?_
  rw [e1]
  exact looks_items X lT oT (.of_pure e2)
/-- n positional values, then keywords in the parameters' order -/
theorem kbnQ {K : PySem.W.Frag} {fd : FuncData} {ps ks : List Str} {n : Nat} {T : Addr} {o : Obj} {its : List Value} {c : Nat} (lT : K.lookup T = some o) (oT : o.data = .seq its.toArray c)
    (h : ∀ us ws : List Value, us.length = n → ws.length = ks.length → ∃ k, bindArgs fd ⟨us, ks.zip ws⟩ = seqItems? (.ref T) >>= k ∧ k (some its.toArray) = pure (ps.zip (us ++ ws))) : KBn K fd ps n ks (fun us ws => us ++ ws) (fun vs zs => vs ++ zs) where
  to := fun s us ws X h1 h2 => by
    obtain ⟨k, e1, e2⟩ := h us ws h1 h2
    refine BindsTo.of_looks fun M => ?_
    rw [e1]
    exact looks_items X lT oT (.of_pure e2)
  rel := fun a b => a.append b
section
variable {X : Cx} {W : WX} {k n m : Nat} {f : Addr} {fd : FuncData} {ps ks : List Str} {x : Str} {p pos : Pos} {e : Expr} {es : List Expr} {kws : List Keyword} {fa fk : DS → R (List D)}
def PDK (X : Cx) (W : WX) (kws : List Keyword) (f : DS → R (List D)) : Prop := ∃ t, PK X kws t ∧ Stl X W (RdL X.K) t f
theorem pdk_nil : PDK X W [] fNil := ⟨_, pk_nil, fun ρ F s σ H Q rl h => h ρ F H _ (Ext.refl ..) rl rfl⟩
theorem pdk_cons {nm : Option Str} {kpos : Pos} {f1 : DS → R D} {f2 : DS → R (List D)} (he : PD X W e f1) (hr : PDK X W kws f2) : PDK X W (⟨nm, e, kpos⟩ :: kws) (fCons f1 f2) := by
  obtain ⟨t, e1, l⟩ := he
  obtain ⟨t2, e2, l2⟩ := hr
  refine ⟨_, pk_cons e1 e2, fun ρ F s σ H Q rl h => l ρ F s σ H _ rl (h.bind fun d s1 ρ1 F1 H1 v x1 rl1 rd1 h1 => ?_)⟩
  refine l2 ρ1 F1 s1 σ H1 _ rl1 (Post.bind h1 fun ds s2 ρ2 F2 H2 vs x2 rl2 rd2 h2 => ?_)
  exact h2 ρ2 F2 H2 _ (Ext.refl ..) rl2 ⟨v, vs, rfl, rd1.ext x2, rd2⟩
def tCallND (n m : Nat) (sp : Sp) (E : L2.St → XK) (t tk : TA) : TE := fun σ H Q => t σ H fun vs H1 => tk σ H1 fun zs H2 => vs.length = n ∧ zs.length = m ∧ sp (vs ++ zs) H2 Q (E σ)
theorem pe_callND {sp : Sp} {E : L2.St → XK} {CX : CXT} {t tk : TA} {g : List Value → List Value → List Value} (F : FnOk X.prog X.w X.K X.mg X.base CX k f fd ps sp) (hr : Room k X.A) (hg : Gl X x) (hm : X.mg x = some (.ref f)) (hk : PySem.W.keepIn X.K (.ref f) = true) (hb : KBn X.K fd ps n ks g (fun vs zs => vs ++ zs)) (hx : ∀ σ, PassesAt CX X σ (E σ))
    (ha : PA X (e :: es) t) (hkw : PK X kws tk) (hall : (backToKw pos (keywordEach kws X.env)).all (·.1.isSome) = true := by rfl) (hks : (backToKw pos (keywordEach kws X.env)).filterMap (·.1) = ks := by rfl)
    (hdb : (x == ("__debug__" : Str)) = false := by decide) (he : starEach (e :: es) X.env = (false, eval e X.env) :: starEach es X.env := by rfl)
    (hpl : ((backTo pos (starEach (e :: es) X.env)).any (·.1) || (backToKw pos (keywordEach kws X.env)).any (·.1.isNone)) = false := by rfl) :
    PE X (.Call (.Name x p) (e :: es) kws pos) (tCallND n ks.length sp E t tk) := by
  refine ⟨fun pins s σ H Q I h => ?_⟩
  refine wpAny_Call_Name_kw (ld_glob I hg hm ?_ hdb)
  refine PySem.W.callWith_KW (h₀ := X.base) I.ok.mod.kin hk hall (thn (ha.run pos pins s σ H _ I h) fun us s1 ⟨vs, H1, I1, r, q⟩ => ?_) hpl he
  refine thn (hkw.run pos pins s1 σ H1 _ I1 q) fun ws s2 ⟨zs, H2, I2, rz, l1, l2, q2⟩ => ⟨I2.kIn, ?_⟩
  rw [hks]
  have r2 := hb.rel r rz
  refine wpAny_call (codeAny_mono (F.run X.A X.stack s2 H2 ⟨us, ks.zip ws⟩ (g us ws) (vs ++ zs) Q (E σ) hr I2.env0 (hb.to s2 us ws I2.kIn (r.length.symm.trans l1) (rz.length.symm.trans l2)) r2 q2) fun r s' hq => ?_)
  cases r with
  | error e => exact hx σ pins H2 s2 e s' I2 hq
  | ok fl =>
    cases fl with
    | ret u => exact I2.after hq
    | next => exact False.elim hq
    | brk => exact False.elim hq
    | cont => exact False.elim hq
def fCallNP (n m : Nat) (fa fk : DS → R (List D)) (g : GP) : DS → R D := fun s => (fa s).bind fun as s1 => (fk s1).bind fun ks s2 => if as.length = n ∧ ks.length = m ∧ clL 0 (as ++ ks) = true then (match g (as ++ ks) with
  | .ok d _ => .ok d s2
  | .ex e _ => .ex e s2
  | .bad => .bad) else .bad
theorem pd_callNP {g : GP} {N : Nat} {gB : List Value → List Value → List Value} (F : FnOk X.prog X.w X.K X.mg X.base (L2.CX X.prog X.w) k f fd ps (spP X.K X.mg N g)) (hr : Room k X.A) (hm : X.mg x = some (.ref f)) (hk : PySem.W.keepIn X.K (.ref f) = true) (hb : KBn X.K fd ps n ks gB (fun vs zs => vs ++ zs))
    (hN : n + ks.length = N) (tk : Takes X W) (ha : PDA X W (e :: es) fa) (hkw : PDK X W kws fk) (hall : (backToKw pos (keywordEach kws X.env)).all (·.1.isSome) = true := by rfl) (hks : (backToKw pos (keywordEach kws X.env)).filterMap (·.1) = ks := by rfl)
    (hg : Gl X x := by rfl) (hdb : (x == ("__debug__" : Str)) = false := by decide) (he : starEach (e :: es) X.env = (false, eval e X.env) :: starEach es X.env := by rfl)
    (hpl : ((backTo pos (starEach (e :: es) X.env)).any (·.1) || (backToKw pos (keywordEach kws X.env)).any (·.1.isNone)) = false := by rfl) :
    PD X W (.Call (.Name x p) (e :: es) kws pos) (fCallNP n ks.length fa fk g) := by
  obtain ⟨ta, ea, la⟩ := ha
  obtain ⟨tk', ek, lk⟩ := hkw
  refine ⟨_, pe_callND F hr hg hm hk hb (fun σ => passAt tk σ) ea ek hall hks hdb he hpl, fun ρ F s σ H Q rl h => la ρ F s σ H _ rl (Post.bind h fun args s1 ρ1 F1 H1 vs x1 rl1 rd1 h1 => ?_)⟩
  refine lk ρ1 F1 s1 σ H1 _ rl1 (Post.bind h1 fun kargs s2 ρ2 F2 H2 zs x2 rl2 rd2 h2 => ?_)
  split at h2
  · rename_i hc
    refine ⟨by rw [rd1.length]; exact hc.1, by rw [rd2.length]; exact hc.2.1, ?_⟩
    exact spP_post rl2 ((rd1.ext x2).append rd2) (by rw [List.length_append, hc.1, hc.2.1, hN]) hc.2.2 h2
  · exact h2.elim
end
/-! ### x += y, of ints and of texts -/
section
variable {X : Cx} {W : WX}
noncomputable def gIAdd : D → D → DS → R D := fun x y s => match x, y with
  | .int i, .int j => .ok (.int (i + j)) s
  | .str i, .str j => if Pr (i.length + j.length ≤ sizeLine) then .ok (.str (i ++ j)) s else .bad
  | _, _ => .bad
abbrev rIAdd : R2 := fun x y H Q => rI0 (fun i j => .int (i + j)) x y H Q ∨ ∃ i j, x = .str i ∧ y = .str j ∧ i.length + j.length ≤ sizeLine ∧ Q (.str (i ++ j)) H
theorem iop_addIS : OpR X (inplaceOp .Add) rIAdd := iop_add.or iop_add_str
theorem opd_iadd : OpD X W rIAdd gIAdd := by
  intro ρ F s σ H x y v u Q rl r1 r2 h
  unfold gIAdd at h
  split at h
  · exact .inl ⟨_, _, r1, r2, h ρ F H _ (Ext.refl ..) rl rfl⟩
  · split at h
    · rename_i hc
      exact .inr ⟨_, _, r1, r2, hc, h ρ F H _ (Ext.refl ..) rl rfl⟩
    · exact h.elim
  · exact h.elim
end
end DL

/-! sum(xs, start=t), of tuples and of lists. -/
namespace DL
open PySem L2 PySem.Spec PyProof.Rows
/-- what is asked of a kind of rows that + joins -/
structure CatK (prog : Program) (w : World) (nw : Bool) (Sq : Heap → Addr → List Value → Prop) : Prop where
  keep : ∀ {h h' : Heap} {a : Addr} {vs : List Value}, Sq h a vs → (∀ o, h.get? a = some o → h'.get? a = some o) → Sq h' a vs
  there : ∀ {h : Heap} {a : Addr} {vs : List Value}, Sq h a vs → ∃ o, h.get? a = some o
  cat : ∀ {A : Around} {E : Value → Shared → Prop} {s : Shared} {a b : Addr} {vs ws : List Value} {Q : Value → Shared → Prop}, Sq s.heap a vs → Sq s.heap b ws → vs.length + ws.length ≤ sizeLine →
    (∀ h' p, (∀ c o, s.heap.get? c = some o → h'.get? c = some o) → s.heap.objs.size ≤ h'.objs.size → Sq h' p (vs ++ ws) → ((nw = false ∧ (p = a ∨ p = b)) ∨ s.heap.objs.size ≤ p) → Q (.ref p) { s with heap := h' }) → wpAny (model prog w) A (binaryOp .Add (.ref a) (.ref b)) Q E s
theorem catK_tup (prog : Program) (w : World) : CatK prog w false (fun h a vs => IsTup h a vs.toArray) where
  keep := fun ⟨o, ho, r⟩ k => ⟨o, k o ho, r⟩
  there := fun ⟨o, ho, _⟩ => ⟨o, ho⟩
  cat := fun {A E s a b vs ws Q} ha hb hz hQ => by
    by_cases hv : vs = []
    · subst hv
      exact cat_tup0 ha hb (hQ s.heap b (fun _ _ e => e) (Nat.le_refl _) (by simpa using hb) (.inl ⟨rfl, .inr rfl⟩))
    · refine HT.cat_tup ha hb hv (fun hw => ?_) (fun hw => ?_) hz
      · subst hw
        exact hQ s.heap a (fun _ _ e => e) (Nat.le_refl _) (by simpa using ha) (.inl ⟨rfl, .inl rfl⟩)
      · exact hQ _ s.heap.objs.size (fun c o e => Heap.get?_push_of_some _ e) (by rw [Heap.size_push]; exact Nat.le_succ _) (IsTup.new _ _) (.inr (Nat.le_refl _))
def IsLx (h : Heap) (a : Addr) (vs : List Value) : Prop := ∃ n, h.get? a = some { cls := .type "list", dict := none, data := .seq vs.toArray n, slots := #[] }
theorem catK_lst (prog : Program) (w : World) : CatK prog w true IsLx where
  keep := fun ⟨n, e⟩ k => ⟨n, k _ e⟩
  there := fun ⟨n, e⟩ => ⟨_, e⟩
  cat := fun {A E s a b vs ws Q} ha hb hz hQ => by
    obtain ⟨n, ho⟩ := ha
    obtain ⟨n2, ho2⟩ := hb
    have e : vs.toArray ++ ws.toArray = (vs ++ ws).toArray := by simp
    refine concat_meets ⟨_, ho, rfl⟩ ⟨_, ho2, rfl⟩ noFill_list_add seq_list_add PySem.F.slot_list_add PySem.F.entry_list_add (PySem.F.args_list_add_2 _ _) (list_addW a b vs.toArray ws.toArray n n2 none none #[] #[] (by simpa using hz)) ⟨ho, ho2, ?_⟩
    rw [e]
    exact hQ _ s.heap.objs.size (fun c o q => Heap.get?_push_of_some _ q) (by rw [Heap.size_push]; exact Nat.le_succ _) ⟨_, Heap.get?_push_size _ rfl⟩ (.inr (Nat.le_refl _))
section
variable {prog : Program} {w : World} {nw : Bool} {Sq : Heap → Addr → List Value → Prop}
theorem sum_loopS (C : CatK prog w nw Sq) {A : Around} {R : Result → Shared → Prop} (hh : A.handled = none) (I S l : Addr) (items : Array Value) (ps : List Addr) (h0 : Heap) (b0 : Addr) (hitems : items = (ps.map Value.ref).toArray)
    (h0l : h0.IsList l items) (h0I : h0.get? I = none) (h0S : h0.get? S = none) (hSI : S ≠ I) (vss : List (List Value)) (hlen : vss.length = ps.length) (hvs : ∀ (j : Nat) p vs, ps[j]? = some p → vss[j]? = some vs → Sq h0 p vs) (hb0 : ∃ o, h0.get? b0 = some o) (start : List Value) :
    ∀ (k i : Nat) (s : Shared) (t : Addr) (c : Nat), ps.length - i = k → i ≤ ps.length → s.heap.IsListIter I l i → (∀ b o, h0.get? b = some o → s.heap.get? b = some o) →
      s.heap.get? S = some { cls := .type "list", dict := none, data := .seq #[.ref t] c, slots := #[] } → t ≠ S → t ≠ I → Sq s.heap t (start ++ (vss.take i).flatten) → ((i = 0 ∧ t = b0) ∨ (nw = false ∧ (t = b0 ∨ t ∈ ps)) ∨ h0.objs.size ≤ t) → h0.objs.size ≤ s.heap.objs.size → (start ++ vss.flatten).length ≤ sizeLine →
      (∀ h' tk t', (∀ b o, h0.get? b = some o → h'.get? b = some o) → Sq h' t' (start ++ vss.flatten) → ((ps.length = 0 ∧ t' = b0) ∨ (nw = false ∧ (t' = b0 ∨ t' ∈ ps)) ∨ h0.objs.size ≤ t') → R (.ok (.ret (.ref t'))) { s with heap := h', toks := tk }) →
      codeAny (model prog w) A (.builtin "sum.loop" ⟨[.ref I, .ref S, rawInt 2, rawInt 0], []⟩) R s := by
  intro k
  induction k with
  | zero =>
    intro i s t c hk hi hit hold hS htS htI hsq horg hsz0 hz hR
    have hin : i = ps.length := by omega
    subst hin
    refine codeAny_builtin F.entry_sum_loop ?_
    rw [Around.under_plainId F.plain_sum_loop _]
    show wpAny _ A.in1 (seqItems? (.ref S) >>= _) _ _ s
    refine wpAny_bind (wpAny_seqItems hS rfl ?_)
    show wpAny _ A.in1 (tryCatch (pyNext (.ref I)) _ >>= _) _ _ s
    have hl : s.heap.IsList l items := h0l.at fun o e => hold l o e
    refine wpAny_bind (wpAny_tryCatch (wpAny_pyNext_list_end hh hit hl (by rw [hitems]; simp) fun h' eb => ?_))
    refine wpAny_pure ?_
    have ek : (vss.take ps.length) = vss := List.take_of_length_le (by omega)
    rw [ek] at hsq
    have keep : ∀ b o, h0.get? b = some o → h'.get? b = some o := fun b o e => eb b o (fun z => by rw [z, h0I] at e; cases e) (hold b o e)
    exact hR h' s.toks t keep (C.keep hsq fun o e => eb t o htI e) horg
  | succ k ih =>
    intro i s t c hk hi hit hold hS htS htI hsq horg hsz0 hz hR
    have hlt : i < ps.length := by omega
    obtain ⟨p, hp⟩ : ∃ p, ps[i]? = some p := ⟨_, List.getElem?_eq_getElem hlt⟩
    obtain ⟨vs, hv⟩ : ∃ vs, vss[i]? = some vs := ⟨_, List.getElem?_eq_getElem (by omega)⟩
    have hpv := hvs i p vs hp hv
    have hx : items[i]? = some (.ref p) := by rw [hitems]; simp [hp]
    have htk : vss.take (i + 1) = vss.take i ++ [vs] := take_get hv
    refine codeAny_builtin F.entry_sum_loop ?_
    rw [Around.under_plainId F.plain_sum_loop _]
    show wpAny _ A.in1 (seqItems? (.ref S) >>= _) _ _ s
    refine wpAny_bind (wpAny_seqItems hS rfl ?_)
    show wpAny _ A.in1 (tryCatch (pyNext (.ref I)) _ >>= _) _ _ s
    have hl : s.heap.IsList l items := h0l.at fun o e => hold l o e
    refine wpAny_bind (wpAny_tryCatch (wpAny_pyNext_list_item hit hl hx fun h1 hit1 sb => ?_))
    have old1 : ∀ b o, h0.get? b = some o → h1.get? b = some o := fun b o e => (sb.2 b (fun z => by rw [z, h0I] at e; cases e)).trans (hold b o e)
    have hS1 : h1.get? S = some { cls := .type "list", dict := none, data := .seq #[.ref t] c, slots := #[] } := (sb.2 S hSI).trans hS
    have hsq1 : Sq h1 t (start ++ (vss.take i).flatten) := C.keep hsq fun o e => (sb.2 t htI).trans e
    have hp1 : Sq h1 p vs := C.keep hpv fun o e => old1 p o e
    have hlen1 : (start ++ (vss.take i).flatten).length + vs.length ≤ sizeLine := by
      have e1 : (vss.take (i + 1)).flatten.length ≤ vss.flatten.length := by
        have := List.take_append_drop (i + 1) vss
        have e2 : vss.flatten.length = (vss.take (i + 1)).flatten.length + (vss.drop (i + 1)).flatten.length := by
          conv => lhs; rw [← this]
          rw [List.flatten_append, List.length_append]
        omega
      rw [htk, List.flatten_append, List.length_append] at e1
      simp only [List.flatten_cons, List.flatten_nil, List.append_nil] at e1
      rw [List.length_append] at hz ⊢
      omega
    show wpAny _ A.in1 ((holding [Value.ref p] (binaryOp .Add (.ref t) (.ref p))).attempt >>= _) _ _ _
    refine wpAny_bind (wpAny_attempt (wpAny_holding (C.cat (s := { s with heap := h1 }) hsq1 hp1 hlen1 fun h2 q old2 sz2 hq horgq => ?_)))
    show wpAny _ A.in1 (updateSeq S (fun _ => #[.ref q]) >>= _) _ _ _
    have hS2 : h2.get? S = some { cls := .type "list", dict := none, data := .seq #[.ref t] c, slots := #[] } := old2 _ _ hS1
    obtain ⟨oi, hoi, hci, hdi⟩ := hit1
    have hit2 : h2.IsListIter I l (i + 1) := ⟨oi, old2 _ _ hoi, hci, hdi⟩
    have hpS : p ≠ S := fun z => by obtain ⟨o, e⟩ := C.there hpv; rw [z, h0S] at e; cases e
    have hpI : p ≠ I := fun z => by obtain ⟨o, e⟩ := C.there hpv; rw [z, h0I] at e; cases e
    have sz1 : s.heap.objs.size = h1.objs.size := sb.1.symm
    have hSl : S < h1.objs.size := Heap.lt_size hS1
    have hIl : I < h1.objs.size := Heap.lt_size hoi
    have hqS : q ≠ S := by
      rcases horgq with ⟨_, z | z⟩ | z
      · rw [z]; exact htS
      · rw [z]; exact hpS
      · exact Nat.ne_of_gt (Nat.lt_of_lt_of_le hSl z)
    have hqI : q ≠ I := by
      rcases horgq with ⟨_, z | z⟩ | z
      · rw [z]; exact htI
      · rw [z]; exact hpI
      · exact Nat.ne_of_gt (Nat.lt_of_lt_of_le hIl z)
    have horg2 : (i + 1 = 0 ∧ q = b0) ∨ (nw = false ∧ (q = b0 ∨ q ∈ ps)) ∨ h0.objs.size ≤ q := by
      rcases horgq with ⟨n, z | z⟩ | z
      · rw [z]
        rcases horg with ⟨_, y⟩ | ⟨_, y⟩ | y
        · exact .inr (.inl ⟨n, .inl y⟩)
        · exact .inr (.inl ⟨n, y⟩)
        · exact .inr (.inr y)
      · exact .inr (.inl ⟨n, .inr (by rw [z]; exact List.mem_of_getElem? hp)⟩)
      · exact .inr (.inr (Nat.le_trans hsz0 (Nat.le_trans (Nat.le_of_eq sz1) z)))
    refine wpAny_bind (wpAny_updateSeq hS2 rfl ?_)
    have hS3 := Heap.get?_update_self (Obj.mapSeq fun _ => #[Value.ref q]) hS2 rfl
    refine wpAny_bind (wpAny_letGo ?_)
    refine wpAny_bind (wpAny_updateSeq hS3 rfl (wpAny_pure ⟨plainId_quiet F.plain_sum_loop _, ?_⟩))
    have hS4 := Heap.get?_update_self (Obj.mapSeq fun _ => #[Value.ref q]) hS3 rfl
    have oth : ∀ b, b ≠ S → ((h2.update S (Obj.mapSeq fun _ => #[Value.ref q])).update S (Obj.mapSeq fun _ => #[Value.ref q])).get? b = h2.get? b := fun b hb => by
      rw [Heap.get?_update_ne _ _ _ _ hb, Heap.get?_update_ne _ _ _ _ hb]
    have neS : ∀ b o, h0.get? b = some o → b ≠ S := fun b o e z => by rw [z, h0S] at e; cases e
    refine ih (i + 1) _ q _ (by omega) hlt ?_ (fun b o e => (oth b (neS b o e)).trans (old2 b o (old1 b o e))) hS4 hqS hqI ?_ horg2 (by rw [Heap.size_update, Heap.size_update]; exact Nat.le_trans hsz0 (Nat.le_trans (Nat.le_of_eq sz1) sz2)) hz ?_
    · obtain ⟨o, ho, r⟩ := hit2
      exact ⟨o, (oth I (Ne.symm hSI)).trans ho, r⟩
    · rw [htk, List.flatten_append, ← List.append_assoc]
      simp only [List.flatten_cons, List.flatten_nil, List.append_nil]
      exact C.keep hq fun o e => (oth q hqS).trans e
    · exact fun h' tk t' k1 k2 k3 => hR h' tk t' k1 k2 k3
theorem args_sumS (a v : Value) : argsOk "sum" ⟨[a], [(Str.ofString "start", v)]⟩ := by unfold argsOk; kernel_rfl
/-- sum(l, start=b) -/
theorem call_sumS (C : CatK prog w nw Sq) {A : Around} {E : Value → Shared → Prop} {s : Shared} {Q : Value → Shared → Prop} (hh : A.handled = none) (T : String) (hsub : ∀ t, t ∈ ["str", "bytes", "bytearray"] → isSubtype (.type T) (.type t) = pure false) (hty : ∀ {h : Heap} {a : Addr} {vs : List Value}, Sq h a vs → ∃ o, h.get? a = some o ∧ o.cls = .type T)
    (l b : Addr) (ps : List Addr) (vss : List (List Value)) (start : List Value) (hl : s.heap.IsList l (ps.map Value.ref).toArray) (hb : Sq s.heap b start) (hlen : vss.length = ps.length)
    (hvs : ∀ (j : Nat) p vs, ps[j]? = some p → vss[j]? = some vs → Sq s.heap p vs) (hz : (start ++ vss.flatten).length ≤ sizeLine)
    (hQ : ∀ h' tk t', (∀ c o, s.heap.get? c = some o → h'.get? c = some o) → Sq h' t' (start ++ vss.flatten) → ((ps.length = 0 ∧ t' = b) ∨ (nw = false ∧ (t' = b ∨ t' ∈ ps)) ∨ s.heap.objs.size ≤ t') → Q (.ref t') { s with heap := h', toks := tk }) :
    wpAny (model prog w) A (call (.builtin "sum") [.ref l] [(Str.ofString "start", .ref b)]) Q E s := by
  refine wpAny_call (codeAny_call_builtin F.plain_sum F.entry_sum ?_)
  have main : wpAny (model prog w) A.in1 (Builtin.«sum» ⟨[.ref l], [(Str.ofString "start", .ref b)]⟩) (fun fin s' => match fin with
      | .done f => (match (Except.ok f : Result) with | .ok (.ret v) => Q v s' | .ok _ => False | .error e => E e s')
      | .again c' => c'.quiet = true ∧ codeAny (model prog w) A c' (fun r s' => match r with | .ok (.ret v) => Q v s' | .ok _ => False | .error e => E e s') s') E s := by
    unfold Builtin.«sum»
    simp only [List.length_cons, List.length_nil]
    rw [if_neg (by decide)]
    refine wpAny_bind (wpAny_of_eq (show Builtin.Builtins.bindParams "sum" ["start"] 0 ⟨[], [(Str.ofString "start", .ref b)]⟩ = pure [some (.ref b)] from rfl) ?_)
    refine wpAny_bind (wpAny_pyIter_list hl ?_)
    refine wpAny_bind (wpAny_pure ?_)
    obtain ⟨ob, hob, hcb⟩ := hty hb
    have old1 : ∀ c o, s.heap.get? c = some o → (s.heap.push { cls := .type "list_iterator", data := .fields #[.ref l, .int 0 0] }).get? c = some o := fun c o e => Heap.get?_push_of_some _ e
    have hT : ({ s with heap := s.heap.push { cls := .type "list_iterator", data := .fields #[.ref l, .int 0 0] } } : Shared).TypeIs (.ref b) T := ⟨ob, old1 _ _ hob, hcb⟩
    simp only [List.forIn_cons, List.forIn_nil]
    refine wpAny_bind (wpAny_bind (wpAny_bind (wpAny_isInstance (T := T) (b := false) hT (hsub "str" (by simp)) ?_)))
    simp only [Bool.false_eq_true, if_false]
    refine wpAny_pure (wpAny_bind (wpAny_bind (wpAny_isInstance (T := T) (b := false) hT (hsub "bytes" (by simp)) ?_)))
    simp only [Bool.false_eq_true, if_false]
    refine wpAny_pure (wpAny_bind (wpAny_bind (wpAny_isInstance (T := T) (b := false) hT (hsub "bytearray" (by simp)) ?_)))
    simp only [Bool.false_eq_true, if_false]
    refine wpAny_pure (wpAny_pure ?_)
    refine wpAny_bind (wpAny_newObj_type ?_)
    have hsz : (s.heap.push { cls := .type "list_iterator", data := .fields #[.ref l, .int 0 0] }).objs.size = s.heap.objs.size + 1 := Heap.size_push ..
    have hbl : b < s.heap.objs.size := Heap.lt_size hob
    refine wpAny_pure ⟨plainId_quiet F.plain_sum_loop _, ?_⟩
    refine sum_loopS C hh s.heap.objs.size (s.heap.push { cls := .type "list_iterator", data := .fields #[.ref l, .int 0 0] }).objs.size l _ ps s.heap b rfl hl (Heap.get?_none_of_le (Nat.le_refl _)) (Heap.get?_none_of_le (by rw [hsz]; exact Nat.le_succ _)) (by rw [hsz]; exact Nat.succ_ne_self _) vss hlen hvs ⟨ob, hob⟩ start ps.length 0 _ b _ rfl (Nat.zero_le _)
      ⟨_, Heap.get?_push_of_some _ (Heap.get?_push_size _ rfl), rfl, rfl⟩ (fun c o e => Heap.get?_push_of_some _ (old1 c o e)) (Heap.get?_push_size _ rfl) (by rw [hsz]; exact Nat.ne_of_lt (Nat.lt_succ_of_lt hbl)) (Nat.ne_of_lt hbl) ?_ (.inl ⟨rfl, rfl⟩) (by rw [Heap.size_push, hsz]; exact Nat.le_trans (Nat.le_succ _) (Nat.le_succ _)) hz (fun h' tk t' k1 k2 k3 => hQ h' tk t' k1 k2 k3)
    simp only [List.take_zero, List.flatten_nil, List.append_nil]
    exact C.keep hb fun o e => Heap.get?_push_of_some _ (old1 _ _ e)
  simp only [checkBuiltinCall, F.kind_sum]
  have ha := args_sumS (.ref l) (.ref b)
  cases hsig : Manifest.signature? "sum" with
  | none => exact wpAny_pure main
  | some sig =>
    have ha' : Bind.checkArgs "sum" sig ⟨[.ref l], [(Str.ofString "start", .ref b)]⟩ = pure () := by simpa only [argsOk, hsig] using ha
    simp only [ha']
    exact wpAny_pure main
end
section
variable {X : Cx} {W : WX}
theorem vals_refs : ∀ {ps : List Addr} {its : List Value}, Vals (ps.map V.ref) its → its = ps.map Value.ref
  | [], _, h => by cases h; rfl
  | p :: ps, _, h => by
    cases h with
    | cons a b =>
      cases a
      rw [vals_refs b]
      rfl
theorem choose_items {P : Addr → List Value → Prop} : ∀ (ps : List Addr) (vss : List (List V)), vss.length = ps.length → (∀ (j : Nat) p vs, ps[j]? = some p → vss[j]? = some vs → ∃ its, Vals vs its ∧ P p its) →
    ∃ wss : List (List Value), wss.length = ps.length ∧ Vals vss.flatten wss.flatten ∧ ∀ (j : Nat) p ws, ps[j]? = some p → wss[j]? = some ws → P p ws
  | [], [], _, _ => ⟨[], rfl, .nil, fun j p ws h => by simp at h⟩
  | [], _ :: _, h, _ => by simp at h
  | _ :: _, [], h, _ => by simp at h
  | p :: ps, vs :: vss, hl, h => by
    obtain ⟨its, v1, p1⟩ := h 0 p vs rfl rfl
    obtain ⟨wss, l, v, q⟩ := choose_items ps vss (by simpa using hl) fun j p vs e1 e2 => h (j + 1) p vs e1 e2
    refine ⟨its :: wss, by simp [l], v1.append v, fun j p' ws e1 e2 => ?_⟩
    cases j with
    | zero =>
      cases e1
      cases e2
      exact p1
    | succ j => exact q j p' ws e1 e2
def rSumT (K : PySem.W.Frag) : List V → List V → Hp → VK → Prop := fun xs zs H Q => ∃ (a b : Addr) (ps : List Addr) (vss : List (List V)) (ys : List V), xs = [.ref a] ∧ zs = [.ref b] ∧ SqL K H a (ps.map V.ref) ∧ SqT K H b ys ∧ vss.length = ps.length ∧
  (∀ (j : Nat) p vs, ps[j]? = some p → vss[j]? = some vs → SqT K H p vs) ∧ (ys ++ vss.flatten).length ≤ sizeLine ∧ (∀ p vs0, ((p = b ∧ vs0 = ys) ∨ ∃ j : Nat, ps[j]? = some p ∧ vss[j]? = some vs0) → vs0 = ys ++ vss.flatten → Q (.ref p) H) ∧ ∀ p, H p = none → Q (.ref p) (upd H p (.tup (ys ++ vss.flatten)))
theorem cr_sumT (hc : X.calm = true) : CallRK X (.builtin "sum") ["start"] (rSumT X.K) := by
  intro pins s σ H xs zs us ws Q I rx rz h
  obtain ⟨a, b, ps, vss, ys, rfl, rfl, hq, hb, hl, hv, hz, q1, q2⟩ := h
  obtain ⟨ua, rfl, ra⟩ := vals1 rx
  obtain ⟨ub, rfl, rb⟩ := vals1 rz
  cases ra
  cases rb
  obtain ⟨its, rv, pl, hz1⟩ := I.list hq
  have hits := vals_refs rv
  subst hits
  obtain ⟨itb, rvb, pb, _⟩ := I.tuple hb
  obtain ⟨wss, hwl, hwv, hwp⟩ := choose_items (P := fun p its => IsTup s.heap p its.toArray) ps vss hl fun j p vs e1 e2 => by
    obtain ⟨it, rv', p', _⟩ := I.tuple (hv j p vs e1 e2)
    exact ⟨it, rv', p'⟩
  have rall := rvb.append hwv
  have hlen : (itb ++ wss.flatten).length ≤ sizeLine := by rw [← rall.length]; exact hz
  refine call_sumS (catK_tup X.prog X.w) (I.ok.hd hc) "tuple" (fun t ht => ?_) (fun ⟨o, e1, e2, _⟩ => ⟨o, e1, e2⟩) a b ps wss itb pl.isList pb hwl hwp hlen fun h' tk t' hk ht horg => ?_
  · simp only [List.mem_cons, List.not_mem_nil, or_false] at ht
    rcases ht with rfl | rfl | rfl
    · exact F.sub_tuple_str
    · exact F.sub_tuple_bytes
    · exact F.sub_tuple_bytearray
  have I2 : Inv X pins σ H { s with heap := h', toks := tk } := I.kept hk
  have old : ∀ vs0, SqT X.K H t' vs0 → vs0 = ys ++ vss.flatten := fun vs0 hs0 => by
    obtain ⟨it0, r0, ⟨o, e, _, n, d⟩, _⟩ := I2.tuple hs0
    obtain ⟨o', e', _, n', d'⟩ := ht
    rw [e] at e'
    cases e'
    rw [d] at d'
    injection d' with d1 _
    have : it0 = itb ++ wss.flatten := by simpa using congrArg Array.toList d1
    subst this
    exact r0.inj rall
  rcases horg with ⟨_, rfl⟩ | ⟨_, z⟩ | z
  · exact ⟨.ref t', H, I2, rfl, q1 t' ys (.inl ⟨rfl, rfl⟩) (old _ hb)⟩
  · rcases z with rfl | z
    · exact ⟨.ref t', H, I2, rfl, q1 t' ys (.inl ⟨rfl, rfl⟩) (old _ hb)⟩
    · obtain ⟨j, hj⟩ := List.getElem?_of_mem z
      obtain ⟨vs0, hv0⟩ : ∃ vs0, vss[j]? = some vs0 := ⟨_, List.getElem?_eq_getElem (by rw [hl]; exact (List.getElem?_eq_some_iff.mp hj).1)⟩
      exact ⟨.ref t', H, I2, rfl, q1 t' vs0 (.inr ⟨j, hj, hv0⟩) (old _ (hv j t' vs0 hj hv0))⟩
  · exact ⟨.ref t', _, I.laid (t' := tk) (o := .tup (ys ++ vss.flatten)) hk z ⟨hz, _, rall, ht⟩, rfl, q2 t' (I.hok.fresh z)⟩
def rSumL (K : PySem.W.Frag) : List V → List V → Hp → VK → Prop := fun xs zs H Q => ∃ (a b : Addr) (ps : List Addr) (vss : List (List V)) (ys : List V), xs = [.ref a] ∧ zs = [.ref b] ∧ SqL K H a (ps.map V.ref) ∧ H b = some (.lst ys) ∧ vss.length = ps.length ∧ ps ≠ [] ∧
  (∀ (j : Nat) p vs, ps[j]? = some p → vss[j]? = some vs → H p = some (.lst vs)) ∧ (ys ++ vss.flatten).length ≤ sizeLine ∧ ∀ p, H p = none → Q (.ref p) (upd H p (.lst (ys ++ vss.flatten)))
theorem cr_sumL (hc : X.calm = true) : CallRK X (.builtin "sum") ["start"] (rSumL X.K) := by
  intro pins s σ H xs zs us ws Q I rx rz h
  obtain ⟨a, b, ps, vss, ys, rfl, rfl, hq, hb, hl, hne, hv, hz, q2⟩ := h
  obtain ⟨ua, rfl, ra⟩ := vals1 rx
  obtain ⟨ub, rfl, rb⟩ := vals1 rz
  cases ra
  cases rb
  obtain ⟨its, rv, pl, hz1⟩ := I.list hq
  have hits := vals_refs rv
  subst hits
  obtain ⟨_, itb, nb, rvb, eb⟩ := (show ObjOk X.prog X.w H s.heap b (.lst ys) from I.hok b _ hb)
  obtain ⟨wss, hwl, hwv, hwp⟩ := choose_items (P := fun p its => IsLx s.heap p its) ps vss hl fun j p vs e1 e2 => by
    obtain ⟨_, it, n, rv', e'⟩ := (show ObjOk X.prog X.w H s.heap p (.lst vs) from I.hok p _ (hv j p vs e1 e2))
    exact ⟨it, rv', n, e'⟩
  have rall := rvb.append hwv
  have hlen : (itb ++ wss.flatten).length ≤ sizeLine := by rw [← rall.length]; exact hz
  refine call_sumS (catK_lst X.prog X.w) (I.ok.hd hc) "list" (fun t ht => ?_) (fun ⟨n, e⟩ => ⟨_, e, rfl⟩) a b ps wss itb pl.isList ⟨nb, eb⟩ hwl hwp hlen fun h' tk t' hk ht horg => ?_
  · simp only [List.mem_cons, List.not_mem_nil, or_false] at ht
    rcases ht with rfl | rfl | rfl
    · exact F.sub_list_str
    · exact F.sub_list_bytes
    · exact F.sub_list_bytearray
  rcases horg with ⟨z, _⟩ | ⟨z, _⟩ | z
  · exact absurd (List.eq_nil_of_length_eq_zero z) hne
  · cases z
  · obtain ⟨n, e⟩ := ht
    exact ⟨.ref t', _, I.laid (t' := tk) (o := .lst (ys ++ vss.flatten)) hk z ⟨hz, _, n, rall, e⟩, rfl, q2 t' (I.hok.fresh z)⟩
/-! as data -/
def tupsD : List D → Option (List (List D))
  | [] => some []
  | .tup ds :: r => (tupsD r).map (ds :: ·)
  | _ => none
def lstsD : List D → Option (List (List D))
  | [] => some []
  | .lst ds :: r => (lstsD r).map (ds :: ·)
  | _ => none
theorem rd_intE {K : PySem.W.Frag} {ρ : List Addr} {F : Hp} {d : D} {i : Int} (r : Rd K ρ F d (.int i)) : d = .int i := by
  cases d with
  | int j => cases r; rfl
  | _ => first | (obtain ⟨_, _, z, _⟩ := r; cases z) | (obtain ⟨_, z, _⟩ := r; cases z) | cases r
theorem rd_strE {K : PySem.W.Frag} {ρ : List Addr} {F : Hp} {d : D} {i : Str} (r : Rd K ρ F d (.str i)) : d = .str i := by
  cases d with
  | str j => cases r; rfl
  | _ => first | (obtain ⟨_, _, z, _⟩ := r; cases z) | (obtain ⟨_, z, _⟩ := r; cases z) | cases r
theorem keyish_eq {K : PySem.W.Frag} {ρ : List Addr} {F : Hp} {a b : List D} {vs : List V} (h : keyish a) (r1 : RdL K ρ F a vs) (r2 : RdL K ρ F b vs) : b = a := by
  unfold keyish at h
  split at h
  · obtain ⟨v1, t1, rfl, e1, v2, t2, rfl, e2, rfl⟩ := r1
    cases e1; cases e2
    cases b with
    | nil => cases r2
    | cons b1 b =>
      obtain ⟨w1, u1, q1, f1, r3⟩ := r2
      cases q1
      cases b with
      | nil => cases r3
      | cons b2 b =>
        obtain ⟨w2, u2, q2, f2, r4⟩ := r3
        cases q2
        cases b with
        | nil => rw [rd_intE f1, rd_strE f2]
        | cons _ _ => obtain ⟨_, _, q, _⟩ := r4; cases q
  · obtain ⟨v1, t1, rfl, e1, v2, t2, rfl, e2, rfl⟩ := r1
    cases e1; cases e2
    cases b with
    | nil => cases r2
    | cons b1 b =>
      obtain ⟨w1, u1, q1, f1, r3⟩ := r2
      cases q1
      cases b with
      | nil => cases r3
      | cons b2 b =>
        obtain ⟨w2, u2, q2, f2, r4⟩ := r3
        cases q2
        cases b with
        | nil => rw [rd_intE f1, rd_intE f2]
        | cons _ _ => obtain ⟨_, _, q, _⟩ := r4; cases q
  · obtain ⟨v1, t1, rfl, e1, v2, t2, rfl, e2, v3, t3, rfl, e3, rfl⟩ := r1
    cases e1; cases e2; cases e3
    cases b with
    | nil => cases r2
    | cons b1 b =>
      obtain ⟨w1, u1, q1, f1, r3⟩ := r2
      cases q1
      cases b with
      | nil => cases r3
      | cons b2 b =>
        obtain ⟨w2, u2, q2, f2, r4⟩ := r3
        cases q2
        cases b with
        | nil => cases r4
        | cons b3 b =>
          obtain ⟨w3, u3, q3, f3, r5⟩ := r4
          cases q3
          cases b with
          | nil => rw [rd_intE f1, rd_intE f2, rd_strE f3]
          | cons _ _ => obtain ⟨_, _, q, _⟩ := r5; cases q
  · exact h.elim
theorem tqT_eq {K : PySem.W.Frag} {ρ : List Addr} {F : Hp} {a b : List D} {vs : List V} {p : Addr} (h : TqT K F b p vs) (r2 : RdL K ρ F b vs) (r1 : RdL K ρ F a vs) : TqT K F a p vs := ⟨h.1, fun k => h.2 (by rw [keyish_eq k r1 r2]; exact k)⟩
theorem tupsD_rd {K : PySem.W.Frag} {ρ : List Addr} {F : Hp} : ∀ {ds : List D} {vs : List V} {dss : List (List D)}, RdL K ρ F ds vs → tupsD ds = some dss → ∃ (ps : List Addr) (vss : List (List V)), vs = ps.map V.ref ∧ vss.length = ps.length ∧ RdL K ρ F dss.flatten vss.flatten ∧ ∀ (j : Nat) p us, ps[j]? = some p → vss[j]? = some us → ∃ es, TqT K F es p us ∧ RdL K ρ F es us
  | [], vs, dss, r, h => by
    cases h
    simp only [RdL] at r
    subst r
    exact ⟨[], [], rfl, rfl, rfl, fun j p us e => by simp at e⟩
  | d :: ds, vs, dss, r, h => by
    obtain ⟨v, t, rfl, r1, r2⟩ := r
    cases d with
    | tup es =>
      unfold tupsD at h
      cases q : tupsD ds with
      | none => rw [q] at h; cases h
      | some dr =>
        rw [q] at h
        cases h
        obtain ⟨a, us, rfl, k1, k2⟩ := r1
        obtain ⟨ps, vss, rfl, l, k3, k4⟩ := tupsD_rd r2 q
        refine ⟨a :: ps, us :: vss, rfl, by simp [l], k2.append k3, fun j p us' e1 e2 => ?_⟩
        cases j with
        | zero => cases e1; cases e2; exact ⟨_, k1, k2⟩
        | succ j => exact k4 j p us' e1 e2
    | _ => simp [tupsD] at h
theorem lstsD_rd {K : PySem.W.Frag} {ρ : List Addr} {F : Hp} : ∀ {ds : List D} {vs : List V} {dss : List (List D)}, RdL K ρ F ds vs → lstsD ds = some dss → ∃ (ps : List Addr) (vss : List (List V)), vs = ps.map V.ref ∧ vss.length = ps.length ∧ RdL K ρ F dss.flatten vss.flatten ∧ ∀ (j : Nat) p us, ps[j]? = some p → vss[j]? = some us → F p = some (.lst us)
  | [], vs, dss, r, h => by
    cases h
    simp only [RdL] at r
    subst r
    exact ⟨[], [], rfl, rfl, rfl, fun j p us e => by simp at e⟩
  | d :: ds, vs, dss, r, h => by
    obtain ⟨v, t, rfl, r1, r2⟩ := r
    cases d with
    | lst es =>
      unfold lstsD at h
      cases q : lstsD ds with
      | none => rw [q] at h; cases h
      | some dr =>
        rw [q] at h
        cases h
        obtain ⟨a, us, rfl, k1, k2⟩ := r1
        obtain ⟨ps, vss, rfl, l, k3, k4⟩ := lstsD_rd r2 q
        refine ⟨a :: ps, us :: vss, rfl, by simp [l], k2.append k3, fun j p us' e1 e2 => ?_⟩
        cases j with
        | zero => cases e1; cases e2; exact k1
        | succ j => exact k4 j p us' e1 e2
    | _ => simp [lstsD] at h
/-- a list's items -/
def lsV (s : DS) : D → Option (List D)
  | .tup _ => none
  | x => seqV s x
theorem lsV_rd {K : PySem.W.Frag} {mg : Str → Option Value} {ρ : List Addr} {F H : Hp} {s : DS} {d : D} {v : V} {ds : List D} (rl : MRel K mg ρ F s.m H) (r : Rd K ρ F d v) (e : lsV s d = some ds) : ∃ a vs, v = .ref a ∧ SqL K H a vs ∧ RdL K ρ F ds vs := by
  unfold lsV at e
  split at e
  · cases e
  · rename_i hn
    exact seqV_l rl r e hn
noncomputable def gSumT : List D → List D → DS → R D := fun as ks s => match as, ks with
  | [x], [.tup ys] => (match lsV s x with
    | some ds => (match tupsD ds with
      | some dss => if Pr ((ys ++ dss.flatten).length ≤ sizeLine) then .ok (.tup (ys ++ dss.flatten)) s else .bad
      | none => .bad)
    | none => .bad)
  | _, _ => .bad
noncomputable def gSumL : List D → List D → DS → R D := fun as ks s => match as, ks with
  | [x], [.lst ys] => (match lsV s x with
    | some ds => (match lstsD ds with
      | some dss => if Pr (dss ≠ [] ∧ (ys ++ dss.flatten).length ≤ sizeLine) then .ok (.lst (ys ++ dss.flatten)) s else .bad
      | none => .bad)
    | none => .bad)
  | _, _ => .bad
def fCallK (fa fk : DS → R (List D)) (g : List D → List D → DS → R D) : DS → R D := fun s => (fa s).bind fun as s1 => (fk s1).bind fun ks s2 => g as ks s2
theorem pd_sumT {e : Expr} {es : List Expr} {kws : List Keyword} {p pos : Pos} {fa fk : DS → R (List D)} (hc : X.calm = true) (hg : Gl X "sum") (hm : X.mg "sum" = none) (ha : PDA X W (e :: es) fa) (hk : PDK X W kws fk)
    (he : backTo pos (starEach (e :: es) X.env) = (false, eval e X.env) :: backTo pos (starEach es X.env) := by rfl) (hpl : (backTo pos (starEach (e :: es) X.env)).any (·.1) = false := by rfl)
    (hall : (backToKw pos (keywordEach kws X.env)).all (·.1.isSome) = true := by rfl) (hnone : (backToKw pos (keywordEach kws X.env)).any (·.1.isNone) = false := by rfl) (hks : (backToKw pos (keywordEach kws X.env)).filterMap (·.1) = [Str.ofString "start"] := by rfl) :
    PD X W (.Call (.Name "sum" p) (e :: es) kws pos) (fCallK fa fk gSumT) := by
  obtain ⟨t, e1, l⟩ := ha
  obtain ⟨tk, e2, l2⟩ := hk
  refine ⟨_, pe_callBK (cr_sumT hc) hg hm (by decide +kernel) e1 e2 (by decide) (by decide) he hpl hall hnone hks, fun ρ F s σ H Q rl h => l ρ F s σ H _ rl (h.bind fun as s1 ρ1 F1 H1 vs x1 rl1 rd1 h1 => ?_)⟩
  refine l2 ρ1 F1 s1 σ H1 _ rl1 (Post.bind h1 fun ks s2 ρ2 F2 H2 zs x2 rl2 rd2 h2 => ?_)
  have rd1' := rd1.ext x2
  unfold gSumT at h2
  split at h2
  · rename_i x ys
    split at h2
    · rename_i ds q1
      split at h2
      · rename_i dss q2
        split at h2
        · rename_i hz
          obtain ⟨v, rfl, rv⟩ := rdl1 rd1'
          obtain ⟨a, us, rfl, k1, k2⟩ := lsV_rd rl2.mem rv q1
          obtain ⟨u, rfl, b, ws, rfl, k3, k4⟩ := rdl1 rd2
          obtain ⟨ps, vss, rfl, hl, k5, k6⟩ := tupsD_rd k2 q2
          have k7 := k4.append k5
          refine ⟨a, b, ps, vss, ws, rfl, rfl, k1, sqT_mono rl2.mem.sub k3, hl, fun j p us e1 e2 => let ⟨_, z, _⟩ := k6 j p us e1 e2; sqT_mono rl2.mem.sub z, by rw [k7.length]; exact hz, fun p vs0 hp he => ?_, Post.tup h2 rl2 k7⟩
          subst he
          refine h2 ρ2 F2 H2 _ (Ext.refl ..) rl2 ⟨p, _, rfl, ?_, k7⟩
          rcases hp with ⟨rfl, e⟩ | ⟨j, e1, e2⟩
          · have k8 := k7; rw [e] at k8 ⊢; exact tqT_eq k3 k4 k8
          · obtain ⟨es, z1, z2⟩ := k6 j p _ e1 e2
            exact tqT_eq z1 z2 k7
        · exact h2.elim
      · exact h2.elim
    · exact h2.elim
  · exact h2.elim
theorem pd_sumL {e : Expr} {es : List Expr} {kws : List Keyword} {p pos : Pos} {fa fk : DS → R (List D)} (hc : X.calm = true) (hg : Gl X "sum") (hm : X.mg "sum" = none) (ha : PDA X W (e :: es) fa) (hk : PDK X W kws fk)
    (he : backTo pos (starEach (e :: es) X.env) = (false, eval e X.env) :: backTo pos (starEach es X.env) := by rfl) (hpl : (backTo pos (starEach (e :: es) X.env)).any (·.1) = false := by rfl)
    (hall : (backToKw pos (keywordEach kws X.env)).all (·.1.isSome) = true := by rfl) (hnone : (backToKw pos (keywordEach kws X.env)).any (·.1.isNone) = false := by rfl) (hks : (backToKw pos (keywordEach kws X.env)).filterMap (·.1) = [Str.ofString "start"] := by rfl) :
    PD X W (.Call (.Name "sum" p) (e :: es) kws pos) (fCallK fa fk gSumL) := by
  obtain ⟨t, e1, l⟩ := ha
  obtain ⟨tk, e2, l2⟩ := hk
  refine ⟨_, pe_callBK (cr_sumL hc) hg hm (by decide +kernel) e1 e2 (by decide) (by decide) he hpl hall hnone hks, fun ρ F s σ H Q rl h => l ρ F s σ H _ rl (h.bind fun as s1 ρ1 F1 H1 vs x1 rl1 rd1 h1 => ?_)⟩
  refine l2 ρ1 F1 s1 σ H1 _ rl1 (Post.bind h1 fun ks s2 ρ2 F2 H2 zs x2 rl2 rd2 h2 => ?_)
  have rd1' := rd1.ext x2
  unfold gSumL at h2
  split at h2
  · rename_i x ys
    split at h2
    · rename_i ds q1
      split at h2
      · rename_i dss q2
        split at h2
        · rename_i hz
          have hz1 : dss ≠ [] ∧ (ys ++ dss.flatten).length ≤ sizeLine := hz
          obtain ⟨v, rfl, rv⟩ := rdl1 rd1'
          obtain ⟨a, us, rfl, k1, k2⟩ := lsV_rd rl2.mem rv q1
          obtain ⟨u, rfl, b, ws, rfl, k3, k4⟩ := rdl1 rd2
          have hdl : dss.length = ds.length := by
            clear h2 k2 rv hz hz1 q1
            induction ds generalizing dss with
            | nil => cases q2; rfl
            | cons d ds ih => cases d with
              | lst es =>
                unfold lstsD at q2
                cases q : lstsD ds with
                | none => rw [q] at q2; cases q2
                | some dr => rw [q] at q2; cases q2; simp [ih dr q]
              | _ => simp [lstsD] at q2
          have hul := k2.length
          obtain ⟨ps, vss, rfl, hl, k5, k6⟩ := lstsD_rd k2 q2
          have k7 := k4.append k5
          refine ⟨a, b, ps, vss, ws, rfl, rfl, k1, rl2.mem.sub _ _ k3, hl, fun z => ?_, fun j p us e1 e2 => rl2.mem.sub _ _ (k6 j p us e1 e2), by rw [k7.length]; exact hz1.2, Post.lst h2 rl2 k7⟩
          subst z
          simp at hul
          exact hz1.1 (List.eq_nil_of_length_eq_zero (by omega))
        · exact h2.elim
      · exact h2.elim
    · exact h2.elim
  · exact h2.elim
end
end DL

/-! More rules and lemmas. -/
namespace DL
open PySem L2
section
variable {X : Cx} {W : WX}
/-! ### -x -/
def fNeg (f : DS → R D) : DS → R D := fun s => (f s).bind fun d s1 => match d with
  | .int i => .ok (.int (-i)) s1
  | _ => .bad
theorem pd_neg {a : Expr} {pos : Pos} {f : DS → R D} (h : PD X W a f) : PD X W (.UnaryOp .USub a pos) (fNeg f) := by
  obtain ⟨t, e1, l⟩ := h
  refine ⟨_, pe_un un_neg e1, fun ρ F s σ H Q rl h => l ρ F s σ H _ rl (h.bind fun d s1 ρ1 F1 H1 v x1 rl1 rd1 h1 => ?_)⟩
  cases d with
  | int i => exact ⟨i, rd1, h1 ρ1 F1 H1 _ (Ext.refl ..) rl1 rfl⟩
  | _ => exact h1.elim
end
/-! ### slices -/
theorem cut_mid (ds : List D) (a b : Nat) (h : a ≤ b) : cutG ds (some (a : Int)) (some (b : Int)) = (ds.drop a).take (b - a) := by
  unfold cutG
  rw [HT.sIx_nat, HT.sIx_nat]
  by_cases h1 : a ≤ ds.length
  · rw [Nat.min_eq_left h1]
    by_cases h2 : b ≤ ds.length
    · rw [Nat.min_eq_left h2]
    · rw [Nat.min_eq_right (by omega), List.take_of_length_le (by simp), List.take_of_length_le (by simp; omega)]
  · have e : min a ds.length = ds.length := Nat.min_eq_right (by omega)
    rw [e, List.drop_of_length_le (Nat.le_refl _), List.drop_of_length_le (by omega)]
    simp
theorem atI_last (ds : List D) (d : D) : L2.atI (ds ++ [d]) (-1) = some d := by
  unfold L2.atI ixN
  rw [if_neg (by omega), if_pos (by simp; omega)]
  simp
  have : ((-1 : Int) + (ds.length + 1)).toNat = ds.length := by omega
  rw [this]
  simp
theorem tupsD_map (pss : List (List Int)) : tupsD (pss.map fun p => D.tup (p.map .int)) = some (pss.map fun p => p.map .int) := by
  induction pss with
  | nil => rfl
  | cons p r ih => simp only [List.map_cons, tupsD, ih, Option.map_some]
theorem flat_map_int (pss : List (List Int)) : (pss.map fun p => p.map D.int).flatten = pss.flatten.map D.int := by
  induction pss with
  | nil => rfl
  | cons p r ih => simp only [List.map_cons, List.flatten_cons, ih, List.map_append]
/-! ### pieces -/
/-- a message in pieces of n -/
def piecesI (ds : List Int) (n : Nat) : List (List Int) := (List.range (ds.length / n + 1)).map fun k => (ds.drop (k * n)).take n
theorem pieces_pre (ds : List Int) (n : Nat) : ∀ m : Nat, ((List.range m).map fun k => (ds.drop (k * n)).take n).flatten = ds.take (m * n)
  | 0 => by simp
  | m + 1 => by
    rw [List.range_succ, List.map_append, List.flatten_append, pieces_pre ds n m]
    simp only [List.map_cons, List.map_nil, List.flatten_cons, List.flatten_nil, List.append_nil]
    rw [← List.take_add, Nat.succ_mul]
theorem pieces_flat (ds : List Int) (n : Nat) (hn : 0 < n) : (piecesI ds n).flatten = ds := by
  unfold piecesI
  rw [pieces_pre]
  refine List.take_of_length_le ?_
  have h1 := Nat.div_add_mod ds.length n
  have h2 := Nat.mod_lt ds.length hn
  rw [Nat.succ_mul, Nat.mul_comm]
  omega
theorem pieces_len (ds : List Int) (n : Nat) : (piecesI ds n).length = ds.length / n + 1 := by simp [piecesI]
theorem pieces_all (ds : List Int) (n : Nat) : ∀ p ∈ piecesI ds n, p.length ≤ n := by
  intro p hp
  obtain ⟨k, _, rfl⟩ := List.mem_map.mp hp
  rw [List.length_take]
  omega
theorem pieces_last (ds : List Int) (n : Nat) (hn : 0 < n) : ∃ pre last, piecesI ds n = pre ++ [last] ∧ last.length < n := by
  refine ⟨(List.range (ds.length / n)).map fun k => (ds.drop (k * n)).take n, (ds.drop (ds.length / n * n)).take n, by simp [piecesI, List.range_succ], ?_⟩
  have h1 := Nat.div_add_mod ds.length n
  have h2 := Nat.mod_lt ds.length hn
  rw [List.length_take, List.length_drop, Nat.mul_comm]
  omega
theorem pcs_cl (n : Nat) : ∀ ps : List (List Int), clL n (ps.map fun p => D.tup (p.map .int)) = true
  | [] => rfl
  | p :: ps => by simp [clL, clD, pcs_cl n ps]
theorem pcs_ok (n : Nat) : ∀ ps : List (List Int), okL (n + 1) (ps.map fun p => D.tup (p.map .int)) = true
  | [] => by simp [okL]
  | p :: ps => by simp [okL, okD, pcs_ok n ps]
theorem pcs_size : ∀ ps : List (List Int), (∀ p ∈ ps, p.length ≤ 16777216) → sizeOkL (ps.map fun p => D.tup (p.map .int)) = true
  | [], _ => by simp [sizeOkL]
  | p :: ps, h => by
    have h1 := h p (by simp)
    have h2 := pcs_size ps fun q hq => h q (by simp [hq])
    simp [sizeOkL, sizeOkD, h2, sizeLine, h1]
theorem clL_int (n : Nat) : ∀ ns : List Int, clL n (ns.map .int) = true
  | [] => rfl
  | a :: ns => by simp only [List.map_cons, clL, clD, clL_int n ns, Bool.and_self]
end DL

/-! raise C('..') from e in an except suite; an except .. as n suite that raises. -/
namespace DL
open PySem PySem.Spec PyProof.Rows L2 HotX L2H
/-- the heap behind «from e»: field 3 is x1, field 4 is True -/
def causeFrom (h : Heap) (a x1 : Addr) : Heap := (h.update a (Obj.mapFields (·.setIfInBounds 3 (.ref x1)))).update a (Obj.mapFields (·.setIfInBounds 4 (.bool true)))
theorem causeFrom_at {h : Heap} {a x1 : Addr} {oe : Obj} {vs : Array Value} (ha : h.get? a = some oe) (hd : oe.data = .fields vs) :
    (causeFrom h a x1).get? a = some ((oe.mapFields (·.setIfInBounds 3 (.ref x1))).mapFields (·.setIfInBounds 4 (.bool true))) ∧ ((oe.mapFields (·.setIfInBounds 3 (.ref x1))).mapFields (·.setIfInBounds 4 (.bool true))).data = .fields ((vs.setIfInBounds 3 (.ref x1)).setIfInBounds 4 (.bool true)) := by
  have hd3 := Obj.data_mapFields hd (·.setIfInBounds 3 (.ref x1))
  have ha3 := Heap.get?_update_self (Obj.mapFields (·.setIfInBounds 3 (.ref x1))) ha (Obj.isFreed_of_fields hd3)
  have hd4 := Obj.data_mapFields hd3 (·.setIfInBounds 4 (.bool true))
  exact ⟨Heap.get?_update_self (Obj.mapFields (·.setIfInBounds 4 (.bool true))) ha3 (Obj.isFreed_of_fields hd4), hd4⟩
theorem causeFrom_other {h : Heap} {a b x1 : Addr} (hne : a ≠ b) : (causeFrom h a x1).get? b = h.get? b := by
  unfold causeFrom
  rw [Heap.get?_update_other _ _ hne, Heap.get?_update_other _ _ hne]
theorem raise_made_hotC {prog : Program} {w : World} {A : Around} {E : Value → Shared → Prop} {env : Env} {s : Shared} {x c : Sem Value} {Q : Flow → Shared → Prop} {x1 : Addr}
    (h : wpAny (model prog w) A x (fun v s₁ => ∃ a oe vs cls, v = .ref a ∧ s₁.heap.get? a = some oe ∧ oe.cls = cls ∧ oe.data = .fields vs ∧ vs[1]? = some .none ∧ 4 < vs.size ∧ x1 ≠ a ∧ HotAt A x1 s₁.heap ∧
      (∀ Q' : Value → Shared → Prop, Q' (.ref x1) s₁ → wpAny (model prog w) A c Q' E s₁) ∧ (∃ o1 vs1, s₁.heap.get? x1 = some o1 ∧ o1.data = .fields vs1 ∧ PySem.W.Looks (model prog w) s₁.heap (isSubtype o1.cls (.type "BaseException")) true) ∧
      PySem.W.Looks (model prog w) s₁.heap (isSubtype cls (.type "BaseException")) true ∧ PySem.W.Looks (model prog w) (causeFrom s₁.heap a x1) (typeOf cls) (.type "type") ∧
      E (.ref a) { s₁ with heap := (causeFrom s₁.heap a x1).update a (Obj.mapFields (·.setIfInBounds 2 (.ref x1))) }) E s) :
    wpAny (model prog w) A (raiseStmt env (some x) (some c)) Q E s := by
  unfold raiseStmt
  dsimp only
  refine wpAny_bind (wpAny_mono h (fun v s₁ h₁ => ?_) fun _ _ x => x)
  obtain ⟨a, oe, vs, cls, rfl, ha, hcls, hd, h1, hi, hne, hot, hcs, ⟨o1, vs1, ho1, hd1, L1b⟩, L1, L3, hE⟩ := h₁
  have LT : PySem.W.Looks (model prog w) s₁.heap (typeOf (.ref a)) cls := fun A Q E s k q => wpAny_typeOf_ref (k _ _ ha) (by rw [hcls]; exact q)
  have LI : PySem.W.Looks (model prog w) s₁.heap (isInstance (.ref a) (.type "BaseException")) true := LT.andThen L1
  have LT1 : PySem.W.Looks (model prog w) s₁.heap (typeOf (.ref x1)) o1.cls := fun A Q E s k q => wpAny_typeOf_ref (k _ _ ho1) q
  have LI1 : PySem.W.Looks (model prog w) s₁.heap (isInstance (.ref x1) (.type "BaseException")) true := LT1.andThen L1b
  have hnt : ∀ {Q' : Bool → Shared → Prop}, Q' false s₁ → wpAny (model prog w) A (isType (.ref a)) Q' E s₁ := by
    intro Q' hq
    simp only [isType, loadHead]
    refine wpAny_bind (wpAny_loadPart ha ?_)
    rw [hd]; exact wpAny_pure hq
  have hnt1 : ∀ {Q' : Bool → Shared → Prop}, Q' false s₁ → wpAny (model prog w) A (isType (.ref x1)) Q' E s₁ := by
    intro Q' hq
    simp only [isType, loadHead]
    refine wpAny_bind (wpAny_loadPart ho1 ?_)
    rw [hd1]; exact wpAny_pure hq
  have hd3 := Obj.data_mapFields hd (·.setIfInBounds 3 (.ref x1))
  have ha3 := Heap.get?_update_self (Obj.mapFields (·.setIfInBounds 3 (.ref x1))) ha (Obj.isFreed_of_fields hd3)
  obtain ⟨ha4, hd4⟩ := causeFrom_at (x1 := x1) ha hd
  have s3 : 3 < vs.size := by omega
  have s4 : 4 < (vs.setIfInBounds 3 (Value.ref x1)).size := by rw [set_size]; exact hi
  have s2 : 2 < ((vs.setIfInBounds 3 (Value.ref x1)).setIfInBounds 4 (Value.bool true)).size := by rw [set_size, set_size]; omega
  have h14 : ((vs.setIfInBounds 3 (Value.ref x1)).setIfInBounds 4 (Value.bool true))[1]? = some Value.none := set_other (by decide) (set_other (by decide) h1)
  have hcls4 : ((oe.mapFields (·.setIfInBounds 3 (.ref x1))).mapFields (·.setIfInBounds 4 (.bool true))).cls = cls := by rw [Obj.cls_mapFields, Obj.cls_mapFields]; exact hcls
  have LT4 : PySem.W.Looks (model prog w) (causeFrom s₁.heap a x1) (typeOf (.ref a)) cls := fun A Q E s k q => wpAny_typeOf_ref (k _ _ ha4) (by rw [hcls4]; exact q)
  have hnt4 : ∀ {Q' : Bool → Shared → Prop}, Q' false { s₁ with heap := causeFrom s₁.heap a x1 } → wpAny (model prog w) A (isType (.ref a)) Q' E { s₁ with heap := causeFrom s₁.heap a x1 } := by
    intro Q' hq
    simp only [isType, loadHead]
    refine wpAny_bind (wpAny_loadPart ha4 ?_)
    rw [hd4]; exact wpAny_pure hq
  have hot4 : HotAt A x1 (causeFrom s₁.heap a x1) := by
    obtain ⟨q1, o, vs', q2, q3, q4⟩ := hot
    exact ⟨q1, o, vs', by rw [causeFrom_other (Ne.symm hne)]; exact q2, q3, q4⟩
  have rest : wpAny (model prog w) A (do
      let b ← isType (.ref a)
      if b = true then do
        let e ← holding [.ref a] (raisedFor (.ref a) (.ref a))
        setFlight e none
        raiseNew e
      else do
        let e ← raisedInstance (.ref a)
        setFlight e none
        raiseNew e : Sem Flow) Q E { s₁ with heap := causeFrom s₁.heap a x1 } := by
    refine wpAny_bind (hnt4 ?_)
    simp only [Bool.false_eq_true, if_false]
    unfold raisedInstance
    refine wpAny_bind (wpAny_bind (LT4.here (wpAny_bind (L3.here ?_))))
    rw [if_pos (beq_self_eq_true _)]
    refine wpAny_pure ?_
    unfold setFlight
    refine wpAny_bind (wpAny_bind (wpAny_field ha4 hd4 h14 ?_))
    rw [if_neg (by decide)]
    refine wpAny_pure ?_
    exact raiseNew_hot hot4 hne ha4 hd4 s2 hE
  refine wpAny_bind (wpAny_holding (hcs _ (wpAny_bind (wpAny_pure ?_))))
  dsimp only
  refine wpAny_bind (wpAny_holding ?_)
  unfold excFromValue isExcClass
  refine wpAny_bind (wpAny_bind (hnt ?_))
  simp only [Bool.false_eq_true, if_false]
  refine wpAny_pure ?_
  simp only [Bool.false_eq_true, if_false]
  refine wpAny_bind (LI.here ?_)
  simp only [if_true]
  refine wpAny_pure ?_
  rw [if_neg (show ¬ ((Value.ref x1 == Value.none) = true) from by simp)]
  refine wpAny_bind (wpAny_holding (wpAny_bind (wpAny_bind (hnt1 ?_))))
  simp only [Bool.false_eq_true, if_false]
  refine wpAny_pure ?_
  simp only [Bool.false_eq_true, if_false]
  refine wpAny_bind (LI1.here ?_)
  simp only [if_true]
  refine wpAny_pure ?_
  first
  | refine wpAny_bind (wpAny_setField ha hd s3 (wpAny_bind (wpAny_setField ha3 hd3 s4 ?_)))
  | refine wpAny_bind (wpAny_setField ha hd s3 (wpAny_setField ha3 hd3 s4 ?_))
  first
  | exact rest
  | (dsimp only; exact rest)
  | (refine wpAny_pure ?_; exact rest)
  | (simp only [bind_pure_comp] ; exact rest)
/-- a name of the def, read: the state stands -/
theorem ld_var {X : Cx} {pins : List (Addr × Obj)} {s : Shared} {σ : L2.St} {H : Hp} {i : Nat} {x : Str} {pos : Pos} {E : Value → Shared → Prop} {Q : Value → Shared → Prop} (I : Inv X pins σ H s) (hN : X.N[i]? = some x) (hv : Vis X.env.scope x) {a : Addr} (e : σ[i]? = some (some (.ref a)))
    (q : Q (.ref a) s) (hd : (x == ("__debug__" : Str)) = false := by decide) (hcd : (x == ("__classdict__" : Str)) = false := by decide) : wpAny (model X.prog X.w) X.A (eval (.Name x pos) X.env) Q E s := by
  obtain ⟨m, hn, hl⟩ := I.loc
  obtain ⟨u, r, l⟩ := hl i x _ hN e hv
  cases r
  rcases l with ⟨hk, hm⟩ | ⟨hk, c, hc, hcell⟩
  · exact wpAny_Name (wpAny_loadName_local I.ok.kind hk hn hm q) hd
  · rcases hk with hk | hk
    · exact wpAny_Name (wpAny_loadName_cell I.ok.kind hk hc hcell q) hd
    · exact wpAny_Name (wpAny_loadName_free I.ok.kind hk hc hcell q hcd) hd
/-- raise X(..) from n, n the exception that the suite handles -/
theorem ps_raiseHC {X : Cx} {W : WX} {e : Expr} {t : L2.St → Hp → XK → Prop} {i : Nat} {n : Str} {np pos : Pos} {a0 : Addr} {oe0 : Obj} {vs0 : Array Value}
    (hp : (a0, oe0) ∈ X.pn) (hh : X.A.handled = some (.ref a0)) (e1 : oe0.data = .fields vs0) (c1 : vs0[2]? = some .none) (hr0 : Raises X oe0.cls)
    (hN : X.N[i]? = some n) (hv : Vis X.env.scope n) (tk : L2.Takes X W) (he : PMk5 X e t) (hdb : (n == ("__debug__" : Str)) = false := by decide) (hcd : (n == ("__classdict__" : Str)) = false := by decide) :
    PS X (.Raise (some e) (some (.Name n np)) pos) (fun _ σ H => σ[i]? = some (some (.ref a0)) ∧ t σ H fun cls d H' => W cls d σ H') := by
  refine ⟨fun pins s σ H D I ⟨hσ, h⟩ => ?_⟩
  show wpAny _ _ (do standAt pos; raiseStmt X.env (some (do let v ← eval e X.env; standAt pos; pure v)) (some (do let v ← eval (.Name n np) X.env; standAt pos; pure v))) _ _ _
  refine wpAny_bind (wpAny_standAt (raise_made_hotC (x1 := a0) (wpAny_bind (wpAny_mono (he pins s σ H _ I h) (fun u s1 hu => wpAny_bind (wpAny_standAt (wpAny_pure ?_))) fun _ _ x => x))))
  obtain ⟨⟨a, oe, vs, sI, H', cls, d, rfl, J, k, hne, ha, hz, hd, h1, na, os, ag, r, q⟩, h5⟩ := hu
  have hi : 4 < vs.size := h5 a oe vs rfl ha hd
  have k4 : ∀ b u, sI.heap.get? b = some u → (causeFrom s1.heap a a0).get? b = some u := fun b u z => by
    have nab : a ≠ b := fun y => by
      rw [← y, hne] at z
      cases z
    rw [causeFrom_other nab]
    exact k b u z
  obtain ⟨r1, _⟩ := r (model X.prog X.w) s1.heap (J.kIn.keeps k)
  obtain ⟨_, r2⟩ := r (model X.prog X.w) (causeFrom s1.heap a a0) (J.kIn.keeps k4)
  obtain ⟨r01, _⟩ := hr0 (model X.prog X.w) s1.heap (J.kIn.keeps k)
  have P1 := (J.pin (a0, oe0) (List.mem_append_left _ hp)).1
  have nap : a0 ≠ a := fun z => by
    rw [← z] at hne
    rw [hne] at P1
    cases P1
  obtain ⟨ha4, hd4⟩ := causeFrom_at (x1 := a0) ha hd
  have h12 : (((vs.setIfInBounds 3 (Value.ref a0)).setIfInBounds 4 (Value.bool true)).setIfInBounds 2 (Value.ref a0))[1]? = some Value.none := set_other (by decide) (set_other (by decide) (set_other (by decide) h1))
  have J1 : Inv X pins σ H' s1 := J.landed (B := PySem.W.hideAll sI.heap (frs X.stack)) (fun b o e hb => PySem.W.hideAll_get _ e hb) (fun b o e => k b o (PySem.W.of_hideAll _ e)) (Heap.UpToSlots.of_keeps k) os ag
  refine ⟨a, oe, vs, cls, rfl, ha, hz.1, hd, h1, hi, nap, ⟨hh, oe0, vs0, k _ _ P1, e1, c1⟩, fun Q' q' => wpAny_bind (ld_var J1 hN hv hσ (wpAny_bind (wpAny_standAt (wpAny_pure q'))) hdb hcd), ⟨oe0, vs0, k _ _ P1, e1, r01⟩, r1, r2, tk _ _ (XE.new J (fun b u z => ?_) hne (Heap.get?_update_self _ ha4 (Obj.isFreed_of_fields (Obj.data_mapFields hd4 _)))
    ⟨by rw [Obj.cls_mapFields, Obj.cls_mapFields, Obj.cls_mapFields]; exact hz.1, by rw [HandSPX.dict_mapFields, HandSPX.dict_mapFields, HandSPX.dict_mapFields]; exact hz.2.1⟩ (Obj.data_mapFields hd4 _) h12 na os ag q)⟩
  · have nab : a ≠ b := fun y => by
      rw [← y, hne] at z
      cases z
    show ((causeFrom s1.heap a a0).update a (Obj.mapFields (·.setIfInBounds 2 (.ref a0)))).get? b = some u
    rw [Heap.get?_update_other _ _ nab]
    exact k4 b u z

/-! ### try: body, except x as n: a suite that raises -/
abbrev suiteY (X : Cx) (a : Addr) (pn : List (Addr × Obj)) (xe : Value → Shared → Prop) : Cx := { X with A := X.A.mark (some (.ref a)), calm := false, pn := pn, xe := xe }
section
variable {X : Cx} {pins : List (Addr × Obj)} {σ : L2.St} {H : Hp} {s : Shared}
theorem suiteY_of {a : Addr} {pn pn' : List (Addr × Obj)} {xe : Value → Shared → Prop} (I : Inv (X.suite a pn) pn' σ H s) : Inv (suiteY X a pn xe) pn' σ H s := Inv.unwish (X := suiteY X a pn xe) (E := fun _ _ => False) I
theorem unsuiteY {a : Addr} {q : Addr × Obj} {pn' : List (Addr × Obj)} {xe : Value → Shared → Prop} (I : Inv (suiteY X a (q :: (X.pn ++ pins)) xe) pn' σ H s) (ok : X.Ok) : Inv X pins σ H s :=
  Inv.unsuite (X := X) (a := a) (q := q) (pn' := pn') (show Inv (X.suite a (q :: (X.pn ++ pins))) pn' σ H s from I.wish fun _ _ => False) ok
theorem sky_look {M : Model} {A : Around} {E₁ : Value → Shared → Prop} {env : Env} {outer : List Env} {L a : Addr} {B : Heap} {Z : Obj → Prop} {Q : Unit → Shared → Prop} (hZ : HandSPX.Steady Z) (hfr : A.frames = some (env :: outer)) (hf : env.frame = some L)
    (x : Sky B (env :: outer) a Z L s.heap) (hQ : ∀ h', HandSPX.HeldZ B (env :: outer) a Z L h' → s.heap.UpToSlots h' → Q () { s with heap := h' }) : wpAny M A (noteFrame (.ref a) env) Q E₁ s := by
  rcases x with ⟨hB, hn, hl, oe, vs, he, hz, hd, h1⟩ | fl | hh
  · exact HandSPX.look_newZ hZ hfr hl hf he hB hn hd h1 hz hQ
  · exact HandSPX.looks_onZ hZ hfr hf fl hQ
  · exact HandSPX.againZ hf hh.2.2.2 (hQ s.heap hh (Heap.UpToSlots.refl _))
/-- a name's slot is emptied -/
theorem inv_goes {i t : Nat} {n : Str} {m : Str → Option Value} {v : Option Value} {h' : Heap} (I : Inv X pins σ H s) (hN : X.N.Nodup) (hi : X.N[i]? = some n)
    (hlk : ∀ (i : Nat) (x : Str) (v : V), X.N[i]? = some x → σ[i]? = some (some v) → Vis X.env.scope x → ∃ u, RelV v u ∧ Look X.env s.heap m x u)
    (hn' : h'.Ns X.env.locals (fun x => if x = n then v else m x)) (hs : ∀ b, b ≠ X.env.locals → h'.get? b = s.heap.get? b) : Inv X pins (σ.set i none) H { s with heap := h', toks := t } := by
  obtain ⟨oL, _, _, hoL, _⟩ := id hn'
  have neL : ∀ b o, X.s_0.heap.get? b = some o → b ≠ X.env.locals := fun b o e => Nat.ne_of_lt (Nat.lt_of_lt_of_le (Heap.lt_size e) I.ok.above)
  have cell : ∀ {c : Addr} {w : Option Value}, s.heap.IsCell c w → c ≠ X.env.locals → h'.IsCell c w := fun {c w} z ne => by
    unfold Heap.IsCell at z ⊢
    rw [hs c ne]
    exact z
  refine ⟨I.ok, I.os, I.bare, ⟨fun b o e n hb hx => ?_, fun b o e n hb hx => ?_, I.base.free, fun b o e hx => ?_, I.base.tups, I.base.frzs, I.base.tbls⟩, ⟨_, hn', fun j y v' e1 e2 e3 => ?_⟩, fun y c e => ?_, I.free, I.freeC, fun p hp => ?_, fun b ob e => ?_, by simpa using I.len⟩
  · exact (hs b (neL b o e)).trans (I.base.keep b o e n hb hx)
  · obtain ⟨sl, e1⟩ := I.base.slot b o e n hb hx
    exact ⟨sl, (hs b (neL b o e)).trans e1⟩
  · obtain ⟨o', e1⟩ := I.base.there b o e hx
    exact ⟨o', (hs b (neL b o e)).trans e1⟩
  · by_cases hj : j = i
    · subst hj
      by_cases hlt : j < σ.length
      · rw [List.getElem?_set_self hlt] at e2; cases e2
      · rw [List.getElem?_eq_none (by simpa using hlt)] at e2; cases e2
    · rw [List.getElem?_set_ne (Ne.symm hj)] at e2
      obtain ⟨u', r', q⟩ := hlk j y v' e1 e2 e3
      refine ⟨u', r', ?_⟩
      rcases q with ⟨k, e⟩ | ⟨k, c, e, z⟩
      · have ny : y ≠ n := fun e => hj (nodup_ix hN e1 (e ▸ hi))
        exact .inl ⟨k, (if_neg ny).trans e⟩
      · exact .inr ⟨k, c, e, cell z (I.cne y c e)⟩
  · obtain ⟨w', z⟩ := I.cell y c e
    exact ⟨w', cell z (I.cne y c e)⟩
  · obtain ⟨e, n, ne, nf, d⟩ := I.pin p hp
    exact ⟨(hs p.1 ne).trans e, n, ne, nf, d⟩
  · refine (I.hok b ob e).stay (fun c w' hc q => (hs c ?_).trans q) (fun _ q => q) fun _ _ q => q
    intro z
    subst z
    rcases hc with hc | hc
    · rw [← hc, I.free] at e; cases e
    · rw [I.free] at hc; cases hc
/-- the suite's exception, the name emptied, flies on -/
theorem goes_out {W : WX} {i : Nat} {n : Str} {pos : Pos} {A' : Around} {u : Value} {s3 : Shared} {R : Value → Shared → Prop} {a : Addr} {xe : Value → Shared → Prop} {q : Addr × Obj} (ok : X.Ok) (hs : X.stack = X.env :: X.outer) (hf : X.env.frame = some X.env.locals) (hfr : A'.frames = some (X.env :: X.outer))
    (hN : X.N.Nodup) (hi : X.N[i]? = some n) (hl : X.env.kindOf n = some .local) (tk : L2.Takes X W)
    (x : XE (suiteY X a (q :: (X.pn ++ pins)) xe) (fun cls d σ H => W cls d (σ.set i none) H) u s3) {F1 : Value → Shared → Prop} {F2 : Shared → Value → Shared → Prop} (hR : ∀ e s', X.xe e s' → R e s') :
    wpAny (model X.prog X.w) A' (noteFrame u X.env) (fun _ s₃' => wpAny (model X.prog X.w) A' (do bindName X.env n .none; unbindBehindTheSuite X.env n pos)
      (fun _ s₄ => wpAny (model X.prog X.w) A' (passOn "try.except-as" u X.env : Sem Flow) (fun _ _ => False) R s₄) (F2 s₃') s₃') F1 s3 := by
  obtain ⟨a2, B, sI, pn2, σ2, H2, cls, d, rfl, I2, nb, up, sky, na, os, ag, w⟩ := x
  have I : Inv X pins σ2 H2 sI := unsuiteY I2 ok
  have sky' : Sky B (X.env :: X.outer) a2 (Zc cls d) X.env.locals s3.heap := by rw [← hs]; exact sky
  have nb' : ∀ b o, sI.heap.get? b = some o → b ∉ frs X.stack → B.get? b = some o := nb
  have os' : s3.os = sI.os := os
  refine sky_look Zc.steady hfr hf sky' fun h3 hh3 up3 => ?_
  obtain ⟨k1, k2, k3, tr⟩ := id hh3
  obtain ⟨oe, vs, T, oT, ts, he, hz, hd, h1, hnT, hTe, hT, hdT, hts⟩ := id tr
  have Lm : X.env.locals ∈ frs (X.env :: X.outer) := List.mem_filterMap.mpr ⟨X.env, List.mem_cons_self, by rw [hf]⟩
  have notFr : ∀ {b : Addr} {o : Obj} {ws : Array Value}, h3.get? b = some o → o.data = .fields ws → b ≠ X.env.locals := fun {b o ws} e dd z => by
    obtain ⟨_, o', e', hnf⟩ := k3.mem (z ▸ Lm)
    rw [e] at e'; cases e'
    exact hnf _ dd
  have nBL : ∀ b ∈ frs X.stack, B.get? b = none := fun b hb => (k3.mem (by rw [← hs]; exact hb)).1
  obtain ⟨Gr, g1, g2⟩ := restrict h3 (fun b => (B.get? b).isSome || (sI.heap.get? b).isSome)
  have stG : B.StaysIn Gr := fun b o e => (g1 b (by simp [e])).trans (k1 b o e)
  have upG : sI.heap.UpToSlots Gr := fun b o e hd => by
    obtain ⟨sl, z⟩ := (up.trans up3) b o e hd
    exact ⟨sl, (g1 b (by simp [e])).trans z⟩
  have JG : Inv X pins σ2 H2 { s3 with heap := Gr } := I.landed (s' := { s3 with heap := Gr }) nb' stG upG os' ag
  obtain ⟨m, hnG, hlkG⟩ := JG.loc
  have kG : ∀ b o, Gr.get? b = some o → h3.get? b = some o := fun b o e => by
    cases q : ((B.get? b).isSome || (sI.heap.get? b).isSome) with
    | true => rw [← g1 b q]; exact e
    | false => rw [g2 b q] at e; cases e
  have hn3 : h3.Ns X.env.locals m := (Heap.UpToSlots.of_keeps kG).ns hnG
  have hcls : (X.env.scope.kind == .class || (X.env.scope.kind == .module && X.env.locals != X.env.globals)) = false := by rw [I.ok.kind]; rfl
  refine wpAny_nameGoes_keeps hl hn3 hcls fun h' v hn' hsb => ?_
  obtain ⟨G', g1', g2'⟩ := restrict h' (fun b => (B.get? b).isSome || (sI.heap.get? b).isSome)
  have pL : ((B.get? X.env.locals).isSome || (sI.heap.get? X.env.locals).isSome) = true := by
    obtain ⟨o, _, _, ho, _⟩ := id hnG
    cases q : ((B.get? X.env.locals).isSome || (sI.heap.get? X.env.locals).isSome) with
    | true => rfl
    | false =>
      have ho' : Gr.get? X.env.locals = some o := ho
      rw [g2 _ q] at ho'; cases ho'
  have hnG' : G'.Ns X.env.locals (fun x => if x = n then v else m x) := by
    obtain ⟨o, es, ep, ho, hd, r⟩ := hn'
    exact ⟨o, es, ep, (g1' _ pL).trans ho, hd, r⟩
  have sG : ∀ b, b ≠ X.env.locals → G'.get? b = Gr.get? b := fun b ne => by
    cases q : ((B.get? b).isSome || (sI.heap.get? b).isSome) with
    | true => exact (g1' b q).trans ((hsb.2 b ne).trans (g1 b q).symm)
    | false => rw [g2 b q, g2' b q]
  have J4 := inv_goes (t := s3.toks + 1) JG hN hi hlkG hnG' sG
  have kG' : ∀ b o, G'.get? b = some o → h'.get? b = some o := fun b o e => by
    cases q : ((B.get? b).isSome || (sI.heap.get? b).isSome) with
    | true => rw [← g1' b q]; exact e
    | false => rw [g2' b q] at e; cases e
  have ff : h'.FunFrames B X.stack := funFrames_none (Heap.FunFrames.of_keeps (fun b o e _ => ⟨o, kG' b o e, rfl⟩) J4.stack) nBL
  have st' : B.StaysIn h' := fun b o e => (hsb.2 b (fun z => by
    have := nBL b (by rw [hs, z]; exact Lm)
    rw [e] at this; cases this)).trans (k1 b o e)
  have he' : h'.get? a2 = some oe := (hsb.2 a2 (notFr he hd)).trans he
  have hT' : h'.get? T = some oT := (hsb.2 T (notFr hT hdT)).trans hT
  have tr' : HandSPX.TracedZ h' B a2 (Zc cls d) (rawInt X.env.locals) := ⟨oe, vs, T, oT, ts, he', hz, hd, h1, hnT, hTe, hT', hdT, hts⟩
  unfold PySem.passOn
  refine wpAny_bind (wpAny_field he' hd h1 ?_)
  rw [if_neg (show ¬ ((Value.ref T == Value.none) = true) from by simp)]
  have fin : wpAny (model X.prog X.w) A' (setFlight (.ref a2) X.env.frame) (fun _ s5 => wpAny (model X.prog X.w) A' (throw (.ref a2) : Sem Flow) (fun _ _ => False) R s5) R { s3 with heap := h', toks := s3.toks + 1 } := by
    rw [hf]
    refine HandSPX.setFlight_anyZ (fr := some X.env.locals) st' ff tr' fun h5 q1 q2 q3 q4 => wpAny_throw (hR _ _ (tk _ _ ?_))
    refine ⟨a2, B, _, pins, σ2.set i none, H2, cls, d, rfl, J4, fun b o e hb => ?_, (Heap.UpToSlots.of_keeps kG').trans q4, .inr (.inr ⟨q1, k2, q2, q3⟩), na, rfl, ag, w⟩
    have ne : b ≠ X.env.locals := fun z => hb (by rw [hs, z]; exact Lm)
    have e1 : h3.get? b = some o := (hsb.2 b ne).symm.trans (kG' b o e)
    have hB : ∃ o', B.get? b = some o' := by
      cases q : ((B.get? b).isSome || (sI.heap.get? b).isSome) with
      | false =>
        have e' : G'.get? b = some o := e
        rw [g2' b q] at e'; cases e'
      | true =>
        rcases (Bool.or_eq_true _ _).mp q with z | z
        · exact Option.isSome_iff_exists.mp z
        · obtain ⟨o', z⟩ := Option.isSome_iff_exists.mp z
          exact ⟨o', nb' b o' z hb⟩
    obtain ⟨o', hB⟩ := hB
    rw [k1 b o' hB] at e1
    cases e1
    exact hB
  first
    | exact wpAny_bind (wpAny_pure (wpAny_bind fin))
    | exact wpAny_bind fin
end

section
variable {X : Cx} {x n : Str} {c : Value} {i : Nat} {body suite : List Stmt} {b₀ : Stmt} {np pos pos' : Pos} {tb : WX → TS} {ts : Addr → Value → Option Addr → TS} {Wout : WX}
theorem ps_try_asX (hs : X.stack = X.env :: X.outer) (hf : X.env.frame = some X.env.locals) (hN : X.N.Nodup) (hi : X.N[i]? = some n) (hln : X.env.kindOf n = some .local) (hc : Names X x c) (hpa : ∀ hd : Option Value, PassesOwnAt (model X.prog X.w) (X.A.mark hd) X.A X.env X.xe) (tk : L2.Takes X Wout)
    (hb : ∀ (W : WX) (pn : List (Addr × Obj)) (xe : Value → Shared → Prop), L2N.Takes (X.tr pn xe) W → PassesOwn (model X.prog X.w) X.A X.env xe → PSs (X.tr pn xe) body (tb W))
    (hsu : ∀ (a : Addr) (oe : Obj) (cls : Value) (d : Option Addr) (pn : List (Addr × Obj)) (xe : Value → Shared → Prop), L2N.Zn cls d oe → (∃ vs, oe.data = .fields vs) → L2.Takes (suiteY X a ((a, oe) :: pn) xe) (fun cls d σ H => Wout cls d (σ.set i none) H) →
      PSs (suiteY X a ((a, oe) :: pn) xe) (b₀ :: suite) (ts a cls d)) :
    PS X (.Try body [.ExceptHandler (some (.Name x np)) (some n) (b₀ :: suite) pos'] [] [] pos) (fun D σ H => tb (wAs X.K c i ts Wout D) D σ H) := by
  refine ⟨fun pins s σ H D I h => ?_⟩
  have ok := I.ok
  have hfr : X.A.frames = some (X.env :: X.outer) := by rw [ok.frames, hs]
  have hloc : Loc X.env.scope n := .inl hln
  refine wpAny_Try_except ?_
  refine wpAny_mono ((hb (wAs X.K c i ts Wout D) (X.pn ++ pins) (fun e s₁ => wpAny (model X.prog X.w) X.A (noteFrame e X.env) (fun _ s₂ => wpAny (model X.prog X.w) X.A (setFlight e none) (fun _ s₃ =>
    wpAny (model X.prog X.w) X.A (handleBy e X.env [.ExceptHandler (some (.Name x np)) (some n) (b₀ :: suite) pos']) (SP X pins D) X.xe s₃) X.xe s₂) X.xe s₁) (fun u s' xx => ?_) PassesOwn.looking).run [] s σ H D (I.toTry _) h) (fun f s1 hsp => ?_) (fun e s1 he => he)
  · obtain ⟨a, B, sI, pins', σ', H', cls, d, rfl, J', nb, up, sky, na, os, ag, b, hb1, hyes, hno⟩ := xx
    have J : Inv X pins σ' H' sI := J'.ofTry ok
    have sky' : Sky B (X.env :: X.outer) a (L2N.Zn cls d) X.env.locals s'.heap := by rw [← hs]; exact sky
    show wpAny (model X.prog X.w) X.A (noteFrame (.ref a) X.env) _ _ _
    refine L2N.Sky.land L2N.Zn.steady hfr hf sky' fun h3 fl3 up3 => ?_
    have J3 : Inv X pins σ' H' { s' with heap := h3 } := J.landed nb fl3.1 (up.trans up3) os ag
    obtain ⟨oe3, vs3, he3, hz3, hd3⟩ := fl3.there
    have notFr : ∀ {h : Heap} {o : Obj} {vs : Array Value}, h.FunFrames B (X.env :: X.outer) → h.get? a = some o → o.data = .fields vs → a ∉ frs (X.env :: X.outer) := fun {h o vs} ff e dd hm => by
      obtain ⟨_, o', e', hnf⟩ := ff.mem hm
      rw [e] at e'; cases e'
      exact hnf _ dd
    have nfr := notFr fl3.2.2.1 he3 hd3
    have nL : a ≠ X.env.locals := fun z => nfr (List.mem_filterMap.mpr ⟨X.env, List.mem_cons_self, by rw [hf, z]⟩)
    have nF : a ∉ X.fs := fun hm => by
      obtain ⟨e, he, q⟩ := List.mem_filterMap.mp hm
      exact nfr (List.mem_filterMap.mpr ⟨e, List.mem_cons_of_mem _ he, q⟩)
    have S3 := J3.suite he3 hd3 na nL nF
    refine wpAny_handleBy_cons (codeAny_handlers_test ?_) (by intro q; cases q)
    have LT : PySem.W.Looks (model X.prog X.w) h3 (typeOf (.ref a)) cls := fun A Q E s k q => wpAny_typeOf_ref (k _ _ he3) (by rw [hz3.1]; exact q)
    have LM := PySem.W.exm_one (M := model X.prog X.w) (J3.kIn) LT hb1
    have test : ∀ {Q : Value → Shared → Prop} {E : Value → Shared → Prop}, Q c { s' with heap := h3 } → wpAny (model X.prog X.w) (X.A.mark (some (.ref a))) (eval (.Name x np) X.env) Q E { s' with heap := h3 } := fun {Q E} q => by
      obtain ⟨hg, hdbg, hm | ⟨hm, hv, hnn⟩⟩ := hc
      · exact ld_glob (X := X.suite a ((a, oe3) :: (X.pn ++ pins))) S3 hg hm q hdbg
      · exact ld_blt (X := X.suite a ((a, oe3) :: (X.pn ++ pins))) S3 hg hm hv q hnn hdbg
    refine test (LM.here ?_)
    cases b with
    | true =>
      refine codeAny_handlers_suite_as ?_
      refine HandSPX.lands_againZ fl3 fun h4 fl4 up4 => ?_
      have J4 : Inv X pins σ' H' { s' with heap := h4 } := J.landed nb fl4.1 ((up.trans up3).trans up4) os ag
      obtain ⟨oe4, vs4, he4, hz4, hd4⟩ := fl4.there
      have S4 := J4.suite he4 hd4 na nL nF
      refine store_ok (X := X.suite a ((a, oe4) :: (X.pn ++ pins))) (v := .ref a) S4 hN hi hloc rfl (fun s5 S5 => ?_) (.inr hln)
      refine wpAny_mono ((hsu a oe4 cls d (X.pn ++ pins) _ hz4 ⟨_, hd4⟩ (fun u2 s2 x2 => goes_out (X := X) (A' := X.A.mark (some (.ref a))) ok hs hf hfr hN hi hln tk x2 (fun e6 s6 z => hpa (some (.ref a)) e6 s6 z))).run [] s5 _ H' _ (suiteY_of S5) (hyes rfl a na)) (fun f s6 hsp => ?_) (fun _ _ z => z)
      have end_ : ∀ {xe : Value → Shared → Prop} {σ6 : L2.St} {H6 : Hp} {Q : Shared → Prop}, Inv (suiteY X a ((a, oe4) :: (X.pn ++ pins)) xe) [] σ6 H6 s6 → (∀ s7, Inv X pins (σ6.set i none) H6 s7 → Q s7) →
          wpAny (model X.prog X.w) X.A (do bindName X.env n .none; unbindBehindTheSuite X.env n pos') (fun _ s7 => Q s7) X.xe s6 := fun {xe σ6 H6 Q} S6 hq => gone_ok (unsuiteY S6 ok) hN hi hln hq
      cases f with
      | next =>
        obtain ⟨σ6, H6, S6, q6⟩ := hsp
        exact end_ S6 fun s7 J7 => ⟨_, _, J7, q6⟩
      | brk =>
        obtain ⟨σ6, H6, S6, q6⟩ := hsp
        exact end_ S6 fun s7 J7 => ⟨_, _, J7, q6⟩
      | cont =>
        obtain ⟨σ6, H6, S6, q6⟩ := hsp
        exact end_ S6 fun s7 J7 => ⟨_, _, J7, q6⟩
      | ret u =>
        obtain ⟨v6, σ6, H6, S6, r6, q6⟩ := hsp
        exact end_ S6 fun s7 J7 => ⟨_, _, _, J7, r6, q6⟩
    | false =>
      show wpAny _ X.A (handleBy (.ref a) X.env []) _ _ _
      refine wpAny_handleBy_nil ?_
      obtain ⟨k1, k2, k3, oe, vs, T, oT, ts', he, hz, hd, h1, hr⟩ := id fl3
      unfold PySem.passOn
      refine wpAny_bind (wpAny_field he hd h1 ?_)
      rw [if_neg (show ¬ ((Value.ref T == Value.none) = true) from by simp)]
      have fin : wpAny (model X.prog X.w) X.A (setFlight (.ref a) X.env.frame) (fun _ s4 => wpAny (model X.prog X.w) X.A (throw (.ref a) : Sem Flow) (SP X pins D) X.xe s4) X.xe { s' with heap := h3 } := by
        rw [hf]
        refine HandSPX.setFlight_upZ (flyingZ_imp (fun o z => z.zc) fl3) fun h4 hh4 up4 => wpAny_throw (tk _ _ ?_)
        exact ⟨a, B, sI, pins, σ', H', cls, d, rfl, J, nb, (up.trans up3).trans up4, .inr (.inr (by rw [hs]; exact hh4)), na, os, ag, hno rfl⟩
      first
        | exact wpAny_bind (wpAny_pure (wpAny_bind fin))
        | exact wpAny_bind fin
  · cases f with
    | next =>
      obtain ⟨σ', H', J', q⟩ := hsp
      exact wpAny_execs_nil ⟨σ', H', J'.ofTry ok, q⟩
    | brk =>
      obtain ⟨σ', H', J', q⟩ := hsp
      exact ⟨σ', H', J'.ofTry ok, q⟩
    | cont =>
      obtain ⟨σ', H', J', q⟩ := hsp
      exact ⟨σ', H', J'.ofTry ok, q⟩
    | ret u =>
      obtain ⟨v, σ', H', J', r, q⟩ := hsp
      exact ⟨v, σ', H', J'.ofTry ok, r, q⟩
end
end DL

/-! defs whose exceptions have no context; try .. except X as n: raise C('..') from n. -/
namespace DL
open PySem PySem.Spec PyProof.Rows L2
section
variable {P : Program} {w : World} {K : PySem.W.Frag} {mg : Str → Option Value} {base : Heap} {k n : Nat} {f : Addr} {fd : FuncData} {ps : List Str} {CX : CXT}
theorem fn_pureC {g : GF} (h : FnOk P w K mg base CX k f fd ps (spD K mg n g)) : FnOk P w K mg base CX k f fd ps (spP K mg n (pureF g)) := by
  refine h.imp fun vs H Q E q => ?_
  obtain ⟨F, args, hl, sm, r, p⟩ := q
  refine ⟨[], F, [], args, hl, ⟨sm, rfl, fun k a m e _ _ => by simp at e, fun j k a m n e _ _ _ _ _ => by simp at e, fun a ha => by simp at ha⟩, r, ?_⟩
  unfold pureF at p
  have ex : ∀ {ρ' : List Addr} {F' H' : Hp}, Ext [] F H ρ' F' H' → Ext [] F H [] F' H' := fun x => ⟨⟨[], rfl⟩, x.fro, x.rest, fun a ha => by simp at ha, x.newf⟩
  cases q : g args [] with
  | bad => rw [q] at p; exact p
  | ok d s =>
    rw [q] at p
    simp only at p
    split at p
    · rename_i hc
      intro ρ' F' H' v x m' r'
      have r2 := r'.cut (n := 0) _ _ hc
      rw [List.take_zero] at r2
      exact p F' H' v (ex x) m'.sub r2
    · exact p.elim
  | ex d s =>
    rw [q] at p
    simp only at p
    split at p
    · rename_i hc
      intro ρ' F' H' cls dd x m' r'
      refine p F' H' cls dd (ex x) m'.sub ?_
      obtain ⟨c, h1, h2, h3, h4⟩ := r'
      refine ⟨c, h1, h2, h3, fun hn => ?_⟩
      obtain ⟨a, vs', k1, k2, k3⟩ := h4 hn
      have r2 := k3.cut (n := 0) _ _ hc
      rw [List.take_zero] at r2
      exact ⟨a, vs', k1, k2, r2⟩
    · exact p.elim
theorem fn_asPC {g g' : GP} (h : FnOk P w K mg base CX k f fd ps (spP K mg n g)) (e : ∀ args, args.length = n → g' args ≠ .bad → g args = g' args) : FnOk P w K mg base CX k f fd ps (spP K mg n g') := by
  refine h.imp fun vs H Q E q => ?_
  obtain ⟨F, args, hl, m, r, p⟩ := q
  refine ⟨F, args, hl, m, r, ?_⟩
  rw [e args hl fun z => by rw [z] at p; exact p]
  exact p
theorem fnok_zc {sp : Sp} (F : FnOk P w K mg base (L2N.CX P w) k f fd ps sp) : FnOk P w K mg base (L2.CX P w) k f fd ps sp := by
  refine ⟨F.len, fun A outer s H args us vs Q E hr he hb hv hs => codeAny_mono (F.run A outer s H args us vs Q E hr he hb hv hs) fun r s' h => ?_⟩
  cases r with
  | ok fl => cases fl <;> exact h
  | error e =>
    obtain ⟨a, B, H', cls, d, e1, fl, hok, ub, na, os, ag, hE⟩ := h
    exact ⟨a, B, H', cls, d, e1, L2H.flyingZ_imp (fun o z => z.zc) fl, hok, ub, na, os, ag, hE⟩
theorem fn_stN {x qual : Str} {st : Stmt} {N : List Str} {fb : DS → R Fl} (F : Fun K x qual st f fd) (S : FnScope N ps (defScope st))
    (hb : ∀ (cdv : Value) (A : Around) (outer : List Env) (s : Shared) (H : Hp) (E : XK), Room k (A.deeper (envOfC qual (defScope st) s.heap.objs.size f cdv)) →
      PDss (cxOf (L2N.CX P w) P w K mg base N qual (defScope st) f cdv A outer s H E) (fun cls d _ H' => E cls d H') (defBody st) fb) :
    FnOk P w K mg base (L2N.CX P w) (k + 1) f fd ps (spD K mg ps.length (runF N.length fb)) := by
  obtain ⟨oc, od, kV, doc, pm, an, cdv, ct, osl, rfl, lk, hcd⟩ := F.ex
  refine fn_of lk hcd S (fun vs H Q E h => spD_len h) fun A outer s H vs Q E hr h => ?_
  obtain ⟨t, e1, l⟩ := hb cdv A outer s H E hr
  refine ⟨t, e1, ?_⟩
  obtain ⟨ρ, Fz, μ, args, hl, m, r, p⟩ := h
  refine l ρ Fz ⟨args.map some ++ List.replicate (N.length - args.length) none, μ⟩ (L2.start N vs) H _ ⟨m, start_rel r⟩ ?_
  unfold runF at p
  cases q : fb ⟨args.map some ++ List.replicate (N.length - args.length) none, μ⟩ with
  | bad => rw [q] at p; exact p
  | ex e s1 => rw [q] at p; exact fun ρ' F' H' σ' cls d x rl er => p ρ' F' H' cls d x rl.mem er
  | ok fl s1 =>
    rw [q] at p
    cases fl with
    | nx => exact fun ρ' F' H' σ' x rl => p ρ' F' H' .non x rl.mem rfl
    | rt d => exact fun ρ' F' H' v x m r => p ρ' F' H' v x m r
    | bk => exact p.elim
    | ct => exact p.elim
end
section
variable {X : Cx} {W : WX} {k n : Nat} {f : Addr} {fd : FuncData} {ps : List Str} {x : Str} {p pos : Pos} {e : Expr} {es : List Expr} {fa : DS → R (List D)} {dvs : List V} {ds : List Value}
theorem pd_callPN {g : GP} {dds : List D} (F : FnOk X.prog X.w X.K X.mg X.base (L2N.CX X.prog X.w) k f fd ps (spP X.K X.mg n g)) (hr : Room k X.A) (hm : X.mg x = some (.ref f)) (hk : PySem.W.keepIn X.K (.ref f) = true) (hb : Binds X.K fd ps ds) (hd : Vals dvs ds)
    (rd : ∀ ρ F, RdL X.K ρ F dds dvs) (tk : L2N.Takes X W) (ha : PDA X W (e :: es) fa) (hg : Gl X x := by rfl) (hdb : (x == ("__debug__" : Str)) = false := by decide) (he : starEach (e :: es) X.env = (false, eval e X.env) :: starEach es X.env := by rfl)
    (hpl : (backTo pos (starEach es X.env)).any (·.1) = false := by rfl) : PD X W (.Call (.Name x p) (e :: es) [] pos) (fCallP n fa dds g) := by
  obtain ⟨ta, ea, la⟩ := ha
  refine ⟨_, pe_callSD F hr hg hm hk hb hd (fun σ => L2N.passAt tk σ) ea hdb he hpl, fun ρ F s σ H Q rl h => la ρ F s σ H _ rl (Post.bind h fun args s1 ρ1 F1 H1 vs x1 rl1 rd1 h1 => ?_)⟩
  split at h1
  · rename_i hc
    exact spP_post rl1 (rd1.append (rd ρ1 F1)) hc.1 hc.2 h1
  · exact h1.elim
theorem pds_raiseN {c m : Str} {C : Addr} {B newId initId : String} {bmB : List Value} {j : Nat} {p p2 pos pos2 : Pos} (T : ExcT X.K X.mg c C B newId initId bmB) (hc : X.calm = true) (tk : L2N.Takes X W) (hg : Gl X c := by rfl) (hdb : (c == ("__debug__" : Str)) = false := by decide) :
    PDs X W (.Raise (some (.Call (.Name c p) [.Constant (.str m) j p2] [] pos)) none pos2) (fRaise c) := by
  refine ⟨_, L2N.ps_raise hc tk (L2N.pmk_own T.fa T.ex T.gC T.kC (raises_own T.sC T.tC) hg hdb), fun ρ F s σ H E rl h => ?_⟩
  exact h ρ F H σ (.ref C) none (Ext.refl ..) rl ⟨C, T.gC, rfl, fun _ => rfl, fun z => absurd rfl z⟩
/-- C('m'), the record with its six fields -/
theorem pmk5_own {C : Addr} {bmB : List Value} {B newId initId : String} {x m : Str} {j : Nat} {p p2 pos : Pos} (F : ExcBaseFacts B newId initId bmB) (q : PySem.W.excIn X.K C bmB newId = true) (gC : X.mg x = some (.ref C)) (kC : PySem.W.keepIn X.K (.ref C) = true) (r : Raises X (.ref C)) (hg : Gl X x)
    (hdb : (x == ("__debug__" : Str)) = false := by decide) : L2H.PMk5 X (.Call (.Name x p) [.Constant (.str m) j p2] [] pos) (fun _ H Q => Q (.ref C) none H) := by
  intro pins s σ H Q I h
  refine wpAny_Call_Name_kw (ld_glob I hg gC ?_ hdb)
  have ha : PA X [.Constant (.str m) j p2] (tCons (tC (.str m)) tNil) := pa_cons pe_str pa_nil
  refine PySem.W.callWith_K (h₀ := X.base) I.ok.mod.kin kC (thn (ha.run pos pins s σ H (fun vs H1 => vs = [V.str m] ∧ H = H1) I ⟨rfl, rfl⟩) fun us s1 hh => ?_)
  obtain ⟨vs, H1, I1, r1, ev, eH⟩ := hh
  subst ev
  rw [← eH] at I1
  refine ⟨I1.kIn, ?_⟩
  cases r1 with
  | cons ru rn =>
    rename_i u us'
    cases rn
    show wpAny _ _ (call (.ref C) [u]) _ _ _
    obtain ⟨bm, N, nm, qn, bs, hdct, sn, sub, ab, col, dd, k0, k1, k2, k3, k5, mN, hC, hN, hni, T⟩ := exc_obj I1.kIn q
    refine wpAny_call_exc_subT F T hC hN hni (fun h' e hm => ?_) (by show 1 ≤ sizeLine; rw [sizeLine_eq]; omega)
    exact L2H.mk_of5 I1 hm r h (I1.hok.gone hm.new)
end
/-- try: .. except X as n: raise C('..') from n -/
def fTryFrom (fb : DS → R Fl) (ctch : Ex → Option Bool) (i : Nat) (C : Str) : DS → R Fl := fun s => match fb s with
  | .ex e s1 => match ctch e with
    | some true => if i < s1.g.length then .ex ⟨C, []⟩ { s1 with g := s1.g.set i none } else .bad
    | some false => .ex e s1
    | none => .bad
  | r => r
section
variable {X : Cx} {W : WX}
theorem pds_try_from {xn n c2 m2 : Str} {c : Value} {C2 : Addr} {B newId initId : String} {bmB : List Value} {i j : Nat} {body : List Stmt} {np np2 p2 p3 p4 p5 pos pos' : Pos} {fb : DS → R Fl} {ctch : Ex → Option Bool}
    (hs : X.stack = X.env :: X.outer) (hf : X.env.frame = some X.env.locals) (hN : X.N.Nodup) (hi : X.N[i]? = some n) (hln : X.env.kindOf n = some .local) (hc : Names X xn c) (hpa : ∀ hd : Option Value, PassesOwnAt (model X.prog X.w) (X.A.mark hd) X.A X.env X.xe) (tk : Takes X W)
    (hct : ∀ (e : Ex) b C, ctch e = some b → X.mg e.cls = some (.ref C) → PySem.W.exmOne X.K (.ref C) c = some b)
    (hra : ∀ (e : Ex) C, ctch e = some true → X.mg e.cls = some (.ref C) → PySem.W.subIn X.K (.ref C) (.type "BaseException") = some true ∧ PySem.W.typeIn X.K (.ref C) = some (.type "type"))
    (T : ExcT X.K X.mg c2 C2 B newId initId bmB)
    (hb : ∀ (W' : WX) (pn : List (Addr × Obj)) (xe : Value → Shared → Prop), L2N.Takes (X.tr pn xe) W' → PassesOwn (model X.prog X.w) X.A X.env xe → PDss (X.tr pn xe) W' body fb)
    (hv : Vis X.env.scope n) (hg : Gl X c2 := by rfl) (hdb : (c2 == ("__debug__" : Str)) = false := by decide) (hd1 : (n == ("__debug__" : Str)) = false := by decide) (hd2 : (n == ("__classdict__" : Str)) = false := by decide) :
    PDs X W (.Try body [.ExceptHandler (some (.Name xn np)) (some n) [.Raise (some (.Call (.Name c2 p2) [.Constant (.str m2) j p3] [] p4)) (some (.Name n np2)) p5] pos'] [] [] pos) (fTryFrom fb ctch i c2) := by
  let tb : WX → TS := fun W' => fun D σ H => ∀ pn xe (h1 : L2N.Takes (X.tr pn xe) W') (h2 : PassesOwn (model X.prog X.w) X.A X.env xe), (Classical.choose (hb W' pn xe h1 h2)) D σ H
  let ts : Addr → Value → Option Addr → TS := fun a cls d => fun D σ H => Raises X cls ∧ σ[i]? = some (some (.ref a)) ∧ W (.ref C2) none (σ.set i none) H
  refine ⟨_, ps_try_asX (tb := tb) (ts := ts) hs hf hN hi hln hc hpa tk (fun W' pn xe h1 h2 => ⟨fun pins s σ H D I h => (Classical.choose_spec (hb W' pn xe h1 h2)).1.run pins s σ H D I (h pn xe h1 h2)⟩)
    (fun a oe cls d pn xe hz hf' tkS => ⟨fun pins s σ H D I h => ?_⟩), fun ρ F s σ H E rl h => ?_⟩
  · obtain ⟨hr, hσ, hw⟩ := h
    obtain ⟨vs, hd⟩ := hf'
    have hr0 : Raises (suiteY X a ((a, oe) :: pn) xe) oe.cls := by rw [hz.1]; exact hr
    have ps := ps_raiseHC (X := suiteY X a ((a, oe) :: pn) xe) (i := i) (n := n) (np := np2) (pos := p5) (List.mem_cons_self) rfl hd (hz.2.2 vs hd) hr0 hi hv tkS
      (pmk5_own (X := suiteY X a ((a, oe) :: pn) xe) (x := c2) (m := m2) (j := j) (p := p2) (p2 := p3) (pos := p4) T.fa T.ex T.gC T.kC (raises_own T.sC T.tC) hg hdb) hd1 hd2
    exact (pss_one ps).run pins s σ H D I ⟨hσ, hw⟩
  · intro pn xe h1 h2
    refine (Classical.choose_spec (hb _ pn xe h1 h2)).2 ρ F s σ H E rl ?_
    unfold fTryFrom at h
    cases q : fb s with
    | bad => rw [q] at h; exact h
    | ok fl s1 => rw [q] at h; cases fl <;> exact h
    | ex e s1 =>
      rw [q] at h
      simp only at h
      intro ρ1 F1 H1 σ1 cls d x1 rl1 er
      obtain ⟨C, hC, rfl, hn1, hn2⟩ := er
      cases qc : ctch e with
      | none => rw [qc] at h; exact h.elim
      | some b =>
        rw [qc] at h
        refine ⟨b, hct _ b C qc hC, fun hb' a ha => ?_, fun hb' => ?_⟩
        · subst hb'
          simp only at h
          split at h
          · rename_i hl
            obtain ⟨z1, z2⟩ := hra e C qc hC
            have hl' : i < σ1.length := by rw [← rl1.slo.len]; exact hl
            refine ⟨raises_own z1 z2, by rw [List.getElem?_set_self hl'], ?_⟩
            rw [List.set_set]
            exact h ρ1 F1 H1 (σ1.set i none) (.ref C2) none x1 ⟨rl1.mem, rl1.slo.unset i⟩ ⟨C2, T.gC, rfl, fun _ => rfl, fun z => absurd rfl z⟩
          · exact h.elim
        · subst hb'
          simp only at h
          exact h ρ1 F1 H1 σ1 (.ref C) d x1 rl1 ⟨C, hC, rfl, hn1, hn2⟩
end
end DL

/-! Numbers and bits, the lowest first; what a check sum tells of spoilt bits. -/
namespace DL
open PySem L2
def lowI (l : List Int) : Int := highI l.reverse
theorem lowI_cons (b : Int) (l : List Int) : lowI (b :: l) = b + 2 * lowI l := by
  unfold lowI
  rw [List.reverse_cons, highI_snoc]
  omega
theorem bitsI_cons (n : Int) (k : Nat) : bitsI n (k + 1) = n % 2 :: bitsI (n / 2) k := by
  unfold bitsI
  rw [List.range_succ_eq_map, List.map_cons, List.map_map]
  congr 1
  · simp
  · refine List.map_congr_left fun i _ => ?_
    show n / 2 ^ (i + 1) % 2 = n / 2 / 2 ^ i % 2
    rw [Int.ediv_ediv_of_nonneg (by decide), Int.pow_succ, Int.mul_comm]
theorem bits_low : ∀ l : List Int, bits01 l → bitsI (lowI l) l.length = l
  | [], _ => rfl
  | b :: l, h => by
    have hb := h b (by simp)
    rw [List.length_cons, bitsI_cons, lowI_cons]
    have e1 : (b + 2 * lowI l) % 2 = b := by omega
    have e2 : (b + 2 * lowI l) / 2 = lowI l := by omega
    rw [e1, e2, bits_low l fun c hc => h c (by simp [hc])]
theorem lowI_lt : ∀ l : List Int, bits01 l → 0 ≤ lowI l ∧ lowI l < 2 ^ l.length := fun l h => by
  have := highI_lt _ l.reverse rfl (fun b hb => h b (by simpa using hb))
  rw [List.length_reverse] at this
  exact this
theorem low_bits : ∀ (k : Nat) (n : Int), 0 ≤ n → n < 2 ^ k → lowI (bitsI n k) = n
  | 0, n, h0, h1 => by
    have : n = 0 := by
      have : (2 : Int) ^ 0 = 1 := rfl
      omega
    subst this
    rfl
  | k + 1, n, h0, h1 => by
    rw [bitsI_cons, lowI_cons, low_bits k (n / 2) (by omega) (by rw [Int.pow_succ] at h1; omega)]
    omega
theorem lowI_append : ∀ a b : List Int, lowI (a ++ b) = lowI a + 2 ^ a.length * lowI b
  | [], b => by simp [lowI, highI]
  | x :: a, b => by
    rw [List.cons_append, lowI_cons, lowI_cons, lowI_append a b, List.length_cons, Int.pow_succ]
    generalize (2 : Int) ^ a.length = m
    rw [Int.mul_comm m 2, Int.mul_assoc]
    omega
/-! ### what is told -/
theorem addW_comm : ∀ a b : List Int, a.length = b.length → addW a b = addW b a
  | [], [], _ => rfl
  | x :: a, y :: b, h => by
    simp only [List.length_cons, Nat.add_right_cancel_iff] at h
    simp only [addW, addW_comm a b h, List.cons.injEq, and_true]
    omega
theorem addW_self : ∀ w y : List Int, bits01 y → addW w (addW w y) = y
  | [], _, _ => rfl
  | _ :: _, [], _ => rfl
  | w :: ws, y :: ys, h => by
    have hy := h y (by simp)
    simp only [addW, addW_self ws ys (fun c hc => h c (by simp [hc])), List.cons.injEq, and_true]
    omega
theorem step_lin (W R S : List Int) (a b : Int) (hR : R.length = W.length) (hS : S.length = W.length) (bS : bits01 S) :
    regStep W (addW R S) ((b + a) % 2) = addW (regStep W R a) (regStep W S b) := by
  cases R with
  | nil =>
    cases W with
    | nil =>
      cases S with
      | nil => rfl
      | cons _ _ => simp at hS
    | cons _ _ => simp at hR
  | cons r R' =>
    cases S with
    | nil => rw [List.length_nil] at hS; rw [← hS] at hR; simp at hR
    | cons s S' =>
      have hl : R'.length = S'.length := by simp only [List.length_cons] at hR hS; omega
      have hRl : (R' ++ [0]).length = W.length := by simpa using hR
      have hSl : (S' ++ [0]).length = W.length := by simpa using hS
      have b0 : bits01 (S' ++ [0]) := fun c hc => by
        rcases List.mem_append.mp hc with e | e
        · exact bS c (by simp [e])
        · exact .inl (by simpa using e)
      have e0 : addW R' S' ++ [0] = addW (R' ++ [0]) (S' ++ [0]) := by rw [addW_both R' S' 0 0 hl]; rfl
      have c2 : addW (R' ++ [0]) (addW W (S' ++ [0])) = addW W (addW (R' ++ [0]) (S' ++ [0])) := by
        rw [addW_assoc _ W _ (by omega) (by omega), addW_comm (R' ++ [0]) W (by omega), ← addW_assoc W _ _ (by omega) (by omega)]
      show regStep W ((s + r) % 2 :: addW R' S') ((b + a) % 2) = addW (regStep W (r :: R') a) (regStep W (s :: S') b)
      unfold regStep
      simp only
      rw [e0]
      by_cases h1 : (a + r) % 2 = 1 <;> by_cases h2 : (b + s) % 2 = 1
      · rw [if_neg (by omega), if_pos h1, if_pos h2, ← addW_assoc W (R' ++ [0]) _ (by omega) (by rw [addW_len]; omega), c2, addW_self _ _ (addW_bits _ _ b0)]
      · rw [if_pos (by omega), if_pos h1, if_neg h2, addW_assoc W _ _ (by omega) (by omega)]
      · rw [if_pos (by omega), if_neg h1, if_pos h2, c2]
      · rw [if_neg (by omega), if_neg h1, if_neg h2]
theorem reg_lin (W : List Int) : ∀ (as bs R S : List Int), as.length = bs.length → R.length = W.length → S.length = W.length → bits01 S → regN W (addW R S) (addW as bs) = addW (regN W R as) (regN W S bs)
  | [], [], R, S, _, _, _, _ => rfl
  | a :: as, b :: bs, R, S, h, hR, hS, bS => by
    simp only [List.length_cons, Nat.add_right_cancel_iff] at h
    show regN W (regStep W (addW R S) ((b + a) % 2)) (addW as bs) = _
    rw [step_lin W R S a b hR hS bS]
    exact reg_lin W as bs _ _ h (by rw [regStep_len]; exact hR) (by rw [regStep_len]; exact hS) (regStep_bits _ _ _ bS)
theorem rep_snoc (k : Nat) : List.replicate k (0 : Int) ++ [0] = List.replicate (k + 1) 0 := by rw [← List.replicate_succ']
theorem reg_own (W : List Int) : ∀ (R : List Int) (k : Nat), bits01 R → regN W (R ++ List.replicate k 0) R = List.replicate (R.length + k) 0
  | [], k, _ => by simp [regN]
  | r :: R, k, h => by
    have hr := h r (by simp)
    show regN W (regStep W (r :: (R ++ List.replicate k 0)) r) R = _
    unfold regStep
    simp only
    rw [if_neg (by omega), List.append_assoc, rep_snoc, reg_own W R (k + 1) fun c hc => h c (by simp [hc]), List.length_cons]
    congr 1
    omega
theorem addW_zeros : ∀ (n : Nat) (l : List Int), bits01 l → addW (List.replicate n 0) l = l ∨ l.length < n
  | 0, _, _ => .inl rfl
  | n + 1, [], _ => .inr (by simp)
  | n + 1, x :: l, h => by
    have hx := h x (by simp)
    rcases addW_zeros n l fun c hc => h c (by simp [hc]) with e | e
    · refine .inl ?_
      simp only [List.replicate_succ, addW, e, List.cons.injEq, and_true]
      omega
    · exact .inr (by simpa using e)
/-- the register behind a whole word that is right -/
theorem reg_right (W row : List Int) (hr : bits01 row) : regN W (List.replicate W.length 1) (row ++ crcI W row) = regN W (List.replicate W.length 0) (List.replicate W.length 1) := by
  have app : ∀ (a b R : List Int), regN W R (a ++ b) = regN W (regN W R a) b := fun a => by
    induction a with
    | nil => intro b R; rfl
    | cons x a ih => intro b R; exact ih b _
  rw [app]
  unfold crcI
  generalize hR : regN W (List.replicate W.length 1) row = R
  have hl : R.length = W.length := by rw [← hR, regN_len]; simp
  have hb : bits01 R := hR ▸ regN_bits W _ _ fun c hc => .inr (List.mem_replicate.mp hc).2
  have e1 : R.map (1 - ·) = addW (List.replicate W.length 1) R := by
    rw [← hl]
    clear hR hl
    induction R with
    | nil => rfl
    | cons x R ih =>
      have hx := hb x (by simp)
      simp only [List.map_cons, List.length_cons, List.replicate_succ, addW, ih fun c hc => hb c (by simp [hc]), List.cons.injEq, and_true]
      omega
  have e2 : R = addW (List.replicate W.length 0) R := by
    rcases addW_zeros W.length R hb with e | e
    · exact e.symm
    · omega
  rw [e1]
  conv => lhs; arg 2; rw [e2]
  rw [reg_lin W _ _ _ _ (by simp [hl]) (by simp) hl hb]
  have z := reg_own W R 0 hb
  rw [List.replicate_zero, List.append_nil, Nat.add_zero, hl] at z
  rw [z, addW_comm _ _ (by simp [regN_len])]
  rcases addW_zeros W.length (regN W (List.replicate W.length 0) (List.replicate W.length 1)) (regN_bits _ _ _ fun c hc => .inl (List.mem_replicate.mp hc).2) with e | e
  · exact e
  · rw [regN_len] at e
    simp at e
/-- the bits of a word whose check sum is right -/
def rightW (W B : List Int) : Prop := ∃ row, bits01 row ∧ B = row ++ crcI W row
theorem two_right (W B C : List Int) (hl : B.length = C.length) (hB : rightW W B) (hC : rightW W C) : regN W (List.replicate W.length 0) (addW B C) = List.replicate W.length 0 := by
  obtain ⟨r1, b1, e1⟩ := hB
  obtain ⟨r2, b2, e2⟩ := hC
  have m1 := reg_right W r1 b1
  have m2 := reg_right W r2 b2
  rw [← e1] at m1
  rw [← e2] at m2
  have hone : bits01 (List.replicate W.length (1 : Int)) := fun c hc => .inr (List.mem_replicate.mp hc).2
  have z : ∀ l : List Int, bits01 l → addW l l = List.replicate l.length 0 := fun l => by
    induction l with
    | nil => intro _; rfl
    | cons x l ih =>
      intro h
      have hx := h x (by simp)
      simp only [addW, ih fun c hc => h c (by simp [hc]), List.length_cons, List.replicate_succ, List.cons.injEq, and_true]
      omega
  have q := reg_lin W B C (List.replicate W.length 1) (List.replicate W.length 1) hl (by simp) (by simp) hone
  rw [m1, m2, z _ hone, List.length_replicate, z _ (regN_bits _ _ _ fun c hc => .inl (List.mem_replicate.mp hc).2), regN_len, List.length_replicate] at q
  exact q
/-- what one bit leaves, q places from the end -/
def xQ (W : List Int) (q : Nat) : List Int := regN W W (List.replicate q 0)
theorem reg_app (W : List Int) : ∀ (a b R : List Int), regN W R (a ++ b) = regN W (regN W R a) b
  | [], _, _ => rfl
  | x :: a, b, R => reg_app W a b _
theorem step_zero (W : List Int) : ∀ n : Nat, regStep W (List.replicate n 0) 0 = List.replicate n 0
  | 0 => rfl
  | n + 1 => by
    rw [List.replicate_succ]
    show (if ((0 : Int) + 0) % 2 = 1 then addW W (List.replicate n 0 ++ [0]) else List.replicate n 0 ++ [0]) = _
    rw [if_neg (by decide), rep_snoc, List.replicate_succ]
theorem reg_zero (W : List Int) (n : Nat) : ∀ k : Nat, regN W (List.replicate n 0) (List.replicate k 0) = List.replicate n 0
  | 0 => rfl
  | k + 1 => by
    rw [List.replicate_succ]
    show regN W (regStep W (List.replicate n 0) 0) (List.replicate k 0) = _
    rw [step_zero, reg_zero W n k]
theorem unit_form (N i : Nat) (h : i < N) : (List.replicate N (0 : Int)).set i 1 = List.replicate i 0 ++ 1 :: List.replicate (N - 1 - i) 0 := by
  rw [List.set_eq_take_append_cons_drop, if_pos (by simpa using h), List.take_replicate, List.drop_replicate, Nat.min_eq_left (by omega)]
  congr 3
  omega
theorem reg_unit (W : List Int) (hW : bits01 W) (h0 : 0 < W.length) (N i : Nat) (h : i < N) : regN W (List.replicate W.length 0) ((List.replicate N 0).set i 1) = xQ W (N - 1 - i) := by
  rw [unit_form N i h, reg_app, reg_zero]
  show regN W (regStep W (List.replicate W.length 0) 1) _ = _
  have e : regStep W (List.replicate W.length 0) 1 = W := by
    obtain ⟨n, hn⟩ : ∃ n, W.length = n + 1 := ⟨W.length - 1, by omega⟩
    rw [hn, List.replicate_succ]
    show (if ((1 : Int) + 0) % 2 = 1 then addW W (List.replicate n 0 ++ [0]) else List.replicate n 0 ++ [0]) = _
    rw [if_pos (by decide)]
    exact addW_nil W _ (fun y hy => by
      rw [rep_snoc] at hy
      exact (List.mem_replicate.mp hy).2) hW (by simp [hn])
  rw [e]
  rfl
theorem xQ_succ (W : List Int) (q : Nat) : xQ W (q + 1) = regStep W (xQ W q) 0 := by
  unfold xQ
  rw [List.replicate_succ', regN_snoc]
theorem xQ_len (W : List Int) (q : Nat) : (xQ W q).length = W.length := regN_len _ _ _
theorem step_inj (V R S : List Int) (hR : R.length = (V ++ [1]).length) (hS : S.length = (V ++ [1]).length) (bR : bits01 R) (bS : bits01 S) (h : regStep (V ++ [1]) R 0 = regStep (V ++ [1]) S 0) : R = S := by
  cases R with
  | nil => simp at hR
  | cons r R' =>
    cases S with
    | nil => simp at hS
    | cons s S' =>
      have hR1 : V.length = R'.length := by simpa using hR.symm
      have hS1 : V.length = S'.length := by simpa using hS.symm
      have b1 : bits01 (R' ++ [0]) := fun c hc => by
        rcases List.mem_append.mp hc with e | e
        · exact bR c (by simp [e])
        · exact .inl (by simpa using e)
      have b2 : bits01 (S' ++ [0]) := fun c hc => by
        rcases List.mem_append.mp hc with e | e
        · exact bS c (by simp [e])
        · exact .inl (by simpa using e)
      unfold regStep at h
      simp only at h
      have hr := bR r (by simp)
      have hs := bS s (by simp)
      by_cases h1 : (0 + r) % 2 = 1 <;> by_cases h2 : (0 + s) % 2 = 1
      · rw [if_pos h1, if_pos h2] at h
        have := congrArg (addW (V ++ [1])) h
        rw [addW_self _ _ b1, addW_self _ _ b2] at this
        rw [List.append_cancel_right this]
        congr 1
        omega
      · rw [if_pos h1, if_neg h2, addW_both _ _ _ _ hR1] at h
        have := (List.append_inj' h rfl).2
        simp at this
      · rw [if_neg h1, if_pos h2, addW_both _ _ _ _ hS1] at h
        have := (List.append_inj' h rfl).2
        simp at this
      · rw [if_neg h1, if_neg h2] at h
        rw [List.append_cancel_right h]
        congr 1
        omega
def chkW (W : List Int) : Nat → List Int → Bool
  | 0, _ => true
  | k + 1, R => (regStep W R 0 != W && (regStep W R 0).any (· == 1)) && chkW W k (regStep W R 0)
theorem chk_all (W : List Int) : ∀ (k q0 : Nat), chkW W k (xQ W q0) = true → ∀ q, q0 < q → q ≤ q0 + k → xQ W q ≠ W ∧ (xQ W q).any (· == 1) = true
  | 0, q0, _, q, h1, h2 => by omega
  | k + 1, q0, h, q, h1, h2 => by
    unfold chkW at h
    rw [← xQ_succ] at h
    simp only [Bool.and_eq_true, bne_iff_ne] at h
    by_cases e : q = q0 + 1
    · subst e
      exact ⟨h.1.1, h.1.2⟩
    · exact chk_all W k (q0 + 1) h.2 q (by omega) (by omega)
theorem xQ_ne (V : List Int) (hV : bits01 (V ++ [1])) (L : Nat) (hc : chkW (V ++ [1]) L (V ++ [1]) = true) : ∀ (i j : Nat), i < j → j ≤ L → xQ (V ++ [1]) i ≠ xQ (V ++ [1]) j
  | 0, j, h, hl, e => (chk_all _ L 0 hc j h (by omega)).1 e.symm
  | i + 1, 0, h, _, _ => by omega
  | i + 1, j + 1, h, hl, e => by
    rw [xQ_succ, xQ_succ] at e
    exact xQ_ne V hV L hc i j (by omega) (by omega) (step_inj V _ _ (xQ_len _ _) (xQ_len _ _) (regN_bits _ _ _ hV) (regN_bits _ _ _ hV) e)
theorem xQ_nz (V : List Int) (L : Nat) (hc : chkW (V ++ [1]) L (V ++ [1]) = true) (q : Nat) (h : q ≤ L) : xQ (V ++ [1]) q ≠ List.replicate (V ++ [1]).length 0 := by
  intro e
  by_cases hq : q = 0
  · subst hq
    have e' : V ++ [1] = List.replicate (V ++ [1]).length 0 := e
    have : (1 : Int) ∈ List.replicate (V ++ [1]).length (0 : Int) := by rw [← e']; simp
    have := (List.mem_replicate.mp this).2
    omega
  · have := (chk_all _ L 0 hc q (by omega) (by omega)).2
    rw [e] at this
    simp at this
/-- one or two bits turned: no right word -/
def flipB (B : List Int) (i : Nat) : List Int := B.set i (1 - B.getD i 0)
theorem flipB_len (B : List Int) (i : Nat) : (flipB B i).length = B.length := by simp [flipB]
theorem addW_flip : ∀ (B C : List Int) (i : Nat), B.length = C.length → bits01 B → bits01 C → i < B.length → addW B (flipB C i) = flipB (addW B C) i
  | [], _, _, _, _, _, h => by simp at h
  | b :: B, [], _, h, _, _, _ => by simp at h
  | b :: B, c :: C, 0, h, hb, hc, _ => by
    have h1 := hb b (by simp)
    have h2 := hc c (by simp)
    simp only [flipB, List.set_cons_zero, addW, List.getD_cons_zero, List.cons.injEq, and_true]
    omega
  | b :: B, c :: C, i + 1, h, hb, hc, hi => by
    have ih := addW_flip B C i (by simpa using h) (fun x hx => hb x (by simp [hx])) (fun x hx => hc x (by simp [hx])) (by simpa using hi)
    simp only [flipB] at ih
    simp only [flipB, List.set_cons_succ, addW, List.getD_cons_succ, List.cons.injEq, true_and]
    exact ih
theorem flipB_bits (B : List Int) (i : Nat) (h : bits01 B) : bits01 (flipB B i) := by
  intro b hb
  unfold flipB at hb
  rcases List.mem_or_eq_of_mem_set hb with e | e
  · exact h b e
  · by_cases hi : i < B.length
    · have := h _ (List.getElem_mem hi)
      rw [List.getD_eq_getElem?_getD, List.getElem?_eq_getElem hi, Option.getD_some] at e
      omega
    · rw [List.getD_eq_getElem?_getD, List.getElem?_eq_none (by omega), Option.getD_none] at e
      omega
theorem addW_same (B : List Int) : bits01 B → addW B B = List.replicate B.length 0 := by
  induction B with
  | nil => intro _; rfl
  | cons x l ih =>
    intro h
    have hx := h x (by simp)
    simp only [addW, ih fun c hc => h c (by simp [hc]), List.length_cons, List.replicate_succ, List.cons.injEq, and_true]
    omega
theorem flip_unit (n i : Nat) (h : i < n) : flipB (List.replicate n (0 : Int)) i = (List.replicate n 0).set i 1 := by
  unfold flipB
  rw [List.getD_eq_getElem?_getD, List.getElem?_replicate, if_pos h]
  rfl
theorem spoilt1 (V B : List Int) (L : Nat) (hV : bits01 (V ++ [1])) (hc : chkW (V ++ [1]) L (V ++ [1]) = true) (hB : rightW (V ++ [1]) B) (bB : bits01 B) (hl : B.length ≤ L + 1) (i : Nat) (hi : i < B.length) : ¬ rightW (V ++ [1]) (flipB B i) := by
  intro h
  have q := two_right _ B (flipB B i) (flipB_len B i).symm hB h
  rw [addW_flip B B i rfl bB bB hi, addW_same B bB, flip_unit _ _ hi, reg_unit _ hV (by simp) _ _ hi] at q
  exact xQ_nz V L hc _ (by omega) q
theorem spoilt2 (V B : List Int) (L : Nat) (hV : bits01 (V ++ [1])) (hc : chkW (V ++ [1]) L (V ++ [1]) = true) (hB : rightW (V ++ [1]) B) (bB : bits01 B) (hl : B.length ≤ L + 1) (i j : Nat) (hi : i < B.length) (hj : j < B.length) (hij : i ≠ j) : ¬ rightW (V ++ [1]) (flipB (flipB B i) j) := by
  intro h
  have q := two_right _ B (flipB (flipB B i) j) (by rw [flipB_len, flipB_len]) hB h
  have bz : bits01 (List.replicate B.length (0 : Int)) := fun c hc => .inl (List.mem_replicate.mp hc).2
  rw [addW_flip B _ j (flipB_len B i).symm bB (flipB_bits B i bB) hj, addW_flip B B i rfl bB bB hi, addW_same B bB] at q
  have e : flipB (flipB (List.replicate B.length 0) i) j = addW (flipB (List.replicate B.length 0) i) (flipB (List.replicate B.length 0) j) := by
    rw [addW_flip _ _ j (by simp [flipB_len]) (flipB_bits _ _ bz) bz (by simpa [flipB_len] using hj), addW_comm _ _ (by simp [flipB_len])]
    rcases addW_zeros B.length (flipB (List.replicate B.length 0) i) (flipB_bits _ _ bz) with z | z
    · rw [z]
    · simp [flipB_len] at z
  have z0 : List.replicate (V ++ [1]).length (0 : Int) = addW (List.replicate (V ++ [1]).length 0) (List.replicate (V ++ [1]).length 0) := by
    rw [addW_same _ (fun c hc => .inl (List.mem_replicate.mp hc).2)]
    simp
  rw [e] at q
  conv at q => lhs; arg 2; rw [z0]
  rw [reg_lin _ _ _ _ _ (by simp [flipB_len]) (by simp) (by simp) (fun c hc => .inl (List.mem_replicate.mp hc).2), flip_unit _ _ hi, flip_unit _ _ hj, reg_unit _ hV (by simp) _ _ hi, reg_unit _ hV (by simp) _ _ hj] at q
  have q2 := congrArg (addW (xQ (V ++ [1]) (B.length - 1 - i))) q
  have bx : ∀ q, bits01 (xQ (V ++ [1]) q) := fun q => regN_bits _ _ _ hV
  rw [addW_self _ _ (bx _), addW_comm _ _ (by simp [xQ_len])] at q2
  have q3 : xQ (V ++ [1]) (B.length - 1 - j) = xQ (V ++ [1]) (B.length - 1 - i) := by
    rw [q2]
    rcases addW_zeros (V ++ [1]).length (xQ (V ++ [1]) (B.length - 1 - i)) (bx _) with z | z
    · exact z
    · rw [xQ_len] at z; omega
  by_cases h1 : i < j
  · exact xQ_ne V hV L hc (B.length - 1 - j) (B.length - 1 - i) (by omega) (by omega) q3
  · exact xQ_ne V hV L hc (B.length - 1 - i) (B.length - 1 - j) (by omega) (by omega) q3.symm
theorem chk5 : chkW W5 15 W5 = true := by decide +kernel
theorem chk16 : chkW W16 527 W16 = true := by decide +kernel
end DL

/-! str of an int. -/
namespace DL
open PySem L2
variable {X : Cx} {W : WX}
noncomputable def gStr : List D → DS → R D := fun ds s => match ds with
  | [.int i] => if Pr (i.natAbs < 2 ^ 1000) then .ok (.str (Str.ofString (toString i))) s else .bad
  | _ => .bad
theorem cd_str : CallD X W (fun xs H Q => ∃ i, xs = [.int i] ∧ i.natAbs.log2 < 1920 ∧ Q (.str (toString i)) H) gStr := by
  intro ρ F s σ H ds vs Q rl r h
  unfold gStr at h
  split at h
  · split at h
    · rename_i i hc
      have hc' : i.natAbs < 2 ^ 1000 := hc
      obtain ⟨v, rfl, r1⟩ := rdl1 r
      cases r1
      refine ⟨_, rfl, ?_, h ρ F H _ (Ext.refl ..) rl rfl⟩
      by_cases hz : i.natAbs = 0
      · rw [hz]
        decide
      · have := (Nat.log2_lt hz).mpr hc'
        omega
    · exact h.elim
  · exact h.elim
variable {a b : Expr} {pos : Pos} {fa fb : DS → R D}
theorem pdt_din (hu : X.A.units + 1 < cLine) (ha : PD X W a fa) (hb : PD X W b fb) (hm : behindInMarks .In b = false := by rfl) : PDT X W (.Compare a [.In] [b] pos) (fTst (fDin false fa fb)) := by
  obtain ⟨t1, e1, l1⟩ := ha
  obtain ⟨t2, e2, l2⟩ := hb
  refine ⟨_, pt_cmp (pc_din hu e1 e2) hm, fun ρ F s σ H Q rl h => l1 ρ F s σ H _ rl (Post.bind h.asB fun y s1 ρ1 F1 H1 v x1 rl1 rd1 h1 => ?_)⟩
  refine l2 ρ1 F1 s1 σ H1 _ rl1 (Post.bind h1 fun x s2 ρ2 F2 H2 u x2 rl2 rd2 h2 => ?_)
  unfold gDin at h2
  split at h2
  · rename_i kvs k q1 q2
    obtain ⟨p, us, rfl, o1, o2⟩ := dctV_rd rl2.mem rd2 q1
    refine ⟨p, valV us k, rfl, ?_, ?_⟩
    · rw [keyD_rd (rd1.ext x2) q2]
      exact DGet.k o1
    · rw [din_val o2]
      exact h2 ρ2 F2 H2 _ (Ext.refl ..) rl2 rfl
  · exact h2.elim
theorem pdt_dnotin (hu : X.A.units + 1 < cLine) (ha : PD X W a fa) (hb : PD X W b fb) (hm : behindInMarks .NotIn b = false := by rfl) : PDT X W (.Compare a [.NotIn] [b] pos) (fTst (fDin true fa fb)) := by
  obtain ⟨t1, e1, l1⟩ := ha
  obtain ⟨t2, e2, l2⟩ := hb
  refine ⟨_, pt_cmp (pc_dnotin hu e1 e2) hm, fun ρ F s σ H Q rl h => l1 ρ F s σ H _ rl (Post.bind h.asB fun y s1 ρ1 F1 H1 v x1 rl1 rd1 h1 => ?_)⟩
  refine l2 ρ1 F1 s1 σ H1 _ rl1 (Post.bind h1 fun x s2 ρ2 F2 H2 u x2 rl2 rd2 h2 => ?_)
  unfold gDin at h2
  split at h2
  · rename_i kvs k q1 q2
    obtain ⟨p, us, rfl, o1, o2⟩ := dctV_rd rl2.mem rd2 q1
    refine ⟨p, valV us k, rfl, ?_, ?_⟩
    · rw [keyD_rd (rd1.ext x2) q2]
      exact DGet.k o1
    · rw [din_val o2]
      exact h2 ρ2 F2 H2 _ (Ext.refl ..) rl2 rfl
  · exact h2.elim
theorem cm8 (x : Int) : CMul 8 x := .inl ⟨by decide, by decide⟩
theorem cm16 (x : Int) : CMul 16 x := .inl ⟨by decide, by decide⟩
theorem cm128 (x : Int) : CMul 128 x := .inl ⟨by decide, by decide⟩
theorem cm256 (x : Int) : CMul 256 x := .inl ⟨by decide, by decide⟩
theorem str01 : gStr [.int 0] = (fun s => .ok (.str ("0" : Str)) s) ∧ gStr [.int 1] = (fun s => .ok (.str ("1" : Str)) s) := by
  refine ⟨funext fun s => ?_, funext fun s => ?_⟩
  · show (if Pr (Int.natAbs 0 < 2 ^ 1000) then R.ok (D.str (Str.ofString (toString (0 : Int)))) s else R.bad) = _
    exact if_Pr (Nat.two_pow_pos _)
  · show (if Pr (Int.natAbs 1 < 2 ^ 1000) then R.ok (D.str (Str.ofString (toString (1 : Int)))) s else R.bad) = _
    exact if_Pr (Nat.one_lt_two_pow (by decide))
theorem ofs_app (a b : String) : Str.ofString a ++ Str.ofString b = Str.ofString (a ++ b) := by
  show Str.append (Str.ofString a) (Str.ofString b) = _
  rw [Str.ofString_eq_toList, Str.ofString_eq_toList, Str.ofString_eq_toList]
  unfold Str.append
  rw [String.toList_append, List.map_append]
  simp only [List.append_toArray]
theorem rng_ints (n : Nat) : rngD 0 n = ((List.range n).map fun i : Nat => (i : Int)).map .int := by
  simp [rngD]
end DL

/-! Exceptions with a field: C(v), C's own __init__ : Base.__init__(self, ..); self.f = v. -/
namespace DL
open PySem L2
open PyProof.Rows (envOfC)
section
variable {X : Cx} {e : Expr} {es : List Expr} {ta : TA} {p1 p2 pos : Pos}
/-- B.__init__(self, ..), B an own class over ValueError without an __init__ of its own -/
theorem pe_oinit {pl : Sem Bool} {b : Str} {B : Addr} (hg : Gl X b) (hm : X.mg b = some (.ref B)) (sg : PySem.W.specialIn X.K (.ref B) "__getattribute__" = some (some (.builtin "type.__getattribute__"))) (rd : PySem.W.readsIn X.K B (.type "type") = true)
    (fc : PySem.W.findCls X.K (.ref B) (.type "type") "__init__" = some (.val (.builtin "ValueError.__init__"))) (ha : PA X (e :: es) ta)
    (hd : (b == ("__debug__" : Str)) = false := by decide)
    (hc : eval (.Call (.Attribute (.Name b p1) "__init__" p2) (e :: es) [] pos) X.env = (do
      let ov ← eval (.Name b p1) X.env
      standAt p2.atName
      let (f, first) ← holding [ov] (getMethod ov "__init__" pl)
      callWith pos f first (backTo pos (starEach (e :: es) X.env)) (backToKw pos (keywordEach [] X.env))) := by rfl)
    (he : starEach (e :: es) X.env = (false, eval e X.env) :: starEach es X.env := by rfl) (hpl : (backTo pos (starEach es X.env)).any (·.1) = false := by rfl) :
    PE X (.Call (.Attribute (.Name b p1) "__init__" p2) (e :: es) [] pos) (tVeI X.K ta) := by
  refine ⟨fun pins s σ H Q I h => ?_⟩
  refine PySem.W.methodCall_KW (ld_glob I hg hm ?_ hd) hc
  obtain ⟨m, fr⟩ := I.fr
  refine PySem.W.method_of_cls fr I.ok.mod.kin sg (PySem.W.cls_value I.kIn rd fc (by decide +kernel) ?_)
  show wpAny _ _ (callWith pos (Value.builtin "ValueError.__init__") [] (backTo pos (starEach (e :: es) X.env)) []) _ _ _
  refine PyProof.Rows.callWith_method1 (L2.thn (ha.run pos pins _ σ H _ (I.tok _) h) fun us s1 ⟨vs, H1, I1, r1, a, C, ws, ev, hl, T, ea, q⟩ => ?_) he hpl
  subst ev
  cases r1 with
  | @cons _ u0 _ ur ra rw' =>
    obtain rfl : u0 = Value.ref a := ra
    have hlen : ur.length ≤ sizeLine := by
      rw [← PySem.Paired.length rw', sizeLine_eq]
      omega
    exact oinit_ok T I1 ea hlen fun s' J => ⟨.non, H1, J, rfl, q⟩
end
/-! ### the __init__'s promise -/
def spI (K : PySem.W.Frag) (C : Addr) (f : Str) (ok : V → Prop) : Sp := fun vs H Q _ => ∃ (a : Addr) (v : V), vs = [.ref a, v] ∧ ok v ∧ H a = some (exo a C none) ∧ ∀ dx, H dx = none → dx ≠ a → Q .non (upd (upd H dx (exd dx [(f, v)])) a (exo a C (some dx)))
theorem spI_len {K : PySem.W.Frag} {C : Addr} {f : Str} {ok : V → Prop} {vs : List V} {H : Hp} {Q : VK} {E : XK} (h : spI K C f ok vs H Q E) : vs.length = 2 := by
  obtain ⟨a, v, rfl, _⟩ := h
  rfl
def okI : V → Prop := fun v => ∃ i : Int, v = .int i ∧ 0 ≤ i ∧ i < 1000
def okDI : D → Prop := fun d => ∃ i : Int, d = .int i ∧ 0 ≤ i ∧ i < 1000
def okA : V → Prop := fun _ => True
def okDA : D → Prop := fun _ => True
theorem okI_rd {K : PySem.W.Frag} {ρ : List Addr} {F : Hp} {d : D} {v : V} (h : okDI d) (r : Rd K ρ F d v) : okI v := by
  obtain ⟨i, rfl, hi⟩ := h
  cases r
  exact ⟨i, rfl, hi⟩
theorem okA_rd {K : PySem.W.Frag} {ρ : List Addr} {F : Hp} {d : D} {v : V} (_ : okDA d) (_ : Rd K ρ F d v) : okA v := True.intro
theorem digits3 : ∀ i : Fin 1000, (Str.ofString (toString ((i.val : Nat) : Int))).length ≤ 3 := by decide +kernel
theorem init_endI {K : PySem.W.Frag} {C a : Addr} {f p m : Str} {i : Int} {H : Hp} {Q : VK} (T : OexC K C) (no : PySem.W.findIn K (.ref C) f = some none) (ha : H a = some (exo a C none)) (hi : 0 ≤ i ∧ i < 1000)
    (qq : ∀ dx, H dx = none → dx ≠ a → Q .non (upd (upd H dx (exd dx [(f, V.int i)])) a (exo a C (some dx)))) (hm : m.length ≤ 1000 := by decide) :
    tSeq (tDrop (tVeI K (tCons (tVar 0) (tCons (fun σ H Q => tJs [tC (V.str m), tFmt (tVar 1)] Str.empty σ H fun out H1 => Q (V.str out) H1) tNil)))) (tOst K f (tVar 0) (tVar 1)) { nx := fun _ H' => Q .non H', rt := Q } (L2.start ["self", p] [V.ref a, V.int i]) H := by
  have hsz := sizeLine_eq
  have hlen : ∀ x y : Str, (x ++ y).length = x.length + y.length := fun x y => by
    show (Str.append x y).length = _
    simp [Str.append, Str.length]
  obtain ⟨n, rfl⟩ : ∃ n : Nat, i = (n : Int) := ⟨i.toNat, (Int.toNat_of_nonneg hi.1).symm⟩
  have hn : n < 1000 := by omega
  have hd := digits3 ⟨n, hn⟩
  have he : Str.empty.length = 0 := rfl
  have hlog : (n : Int).natAbs.log2 < 1920 := by
    show n.log2 < 1920
    by_cases hz : n = 0
    · rw [hz]; decide
    · have h1 := (Nat.log2_lt (k := 10) hz).mpr (by omega)
      omega
  refine ⟨V.ref a, rfl, m, rfl, by rw [hlen]; omega, V.int n, rfl, .inr ⟨n, rfl, hlog, Str.ofString (toString ((n : Nat) : Int)), rfl, ?_, ?_⟩⟩
  · rw [hlen, hlen]
    simp only at hd
    omega
  · exact ⟨a, C, _, rfl, by simp, T, ha, V.int n, rfl, V.ref a, rfl, a, C, rfl, T, no, .inl ⟨ha, qq⟩⟩
theorem init_endA {K : PySem.W.Frag} {C a : Addr} {f p m : Str} {v : V} {H : Hp} {Q : VK} (T : OexC K C) (no : PySem.W.findIn K (.ref C) f = some none) (ha : H a = some (exo a C none))
    (qq : ∀ dx, H dx = none → dx ≠ a → Q .non (upd (upd H dx (exd dx [(f, v)])) a (exo a C (some dx)))) :
    tSeq (tDrop (tVeI K (tCons (tVar 0) (tCons (tC (V.str m)) tNil)))) (tOst K f (tVar 0) (tVar 1)) { nx := fun _ H' => Q .non H', rt := Q } (L2.start ["self", p] [V.ref a, v]) H :=
  ⟨V.ref a, rfl, a, C, _, rfl, by simp, T, ha, v, rfl, V.ref a, rfl, a, C, rfl, T, no, .inl ⟨ha, qq⟩⟩
/-- an own class of exceptions with the field f -/
structure ExcF (P : Program) (w : World) (K : PySem.W.Frag) (mg : Str → Option Value) (base : Heap) (c f p : Str) (C fI : Addr) (fd : FuncData) (ok : V → Prop) : Prop where
  gC : mg c = some (.ref C)
  ox : OexC K C
  iC : PySem.W.findIn K (.ref C) "__init__" = some (some (.ref fI))
  tI : PySem.W.typeIn K (.ref fI) = some (.type "function")
  hb : Binds K fd ["self", p] []
  fn : FnOk P w K mg base (L2.CX P w) 1 fI fd ["self", p] (spI K C f ok)
noncomputable def fRaiseF (c f : Str) (okd : D → Prop) (fa : DS → R (List D)) : DS → R Fl := fun s => (fa s).bind fun ds s1 => match ds with
  | [d] => if Pr (okd d) then .ex ⟨c, [(f, d)]⟩ s1 else .bad
  | _ => .bad
section
variable {X : Cx} {W : WX} {c f p : Str} {C fI : Addr} {fd : FuncData} {ok : V → Prop} {okd : D → Prop} {e : Expr} {fa : DS → R (List D)} {p1 pos pos2 : Pos}
/-- what a made exception leaves: its fields' record alone -/
theorem made_heap {H1 : Hp} {a dx : Addr} {v : V} (ha : H1 a = none) (ne : dx ≠ a) :
    upd (del (upd (upd (upd H1 a (exo a C none)) dx (exd dx [(f, v)])) a (exo a C (some dx))) a) dx (.xd [(f, v)]) = upd H1 dx (.xd [(f, v)]) := by
  funext b
  by_cases hb : b = dx
  · rw [hb, upd_same, upd_same]
  · rw [upd_ne hb, upd_ne hb]
    by_cases hba : b = a
    · rw [hba, del_same, ha]
    · rw [del_ne hba, upd_ne hba, upd_ne hb, upd_ne hba]
theorem raiseF_run {t : TA} (T : ExcF X.prog X.w X.K X.mg X.base c f p C fI fd ok) (hok : ∀ ρ F d v, okd d → Rd X.K ρ F d v → ok v) (l : Stl X W (RdL X.K) t fa) {ρ : List Addr} {F : Hp} {s : DS} {σ : L2.St} {H : Hp} {E : Ends}
    (rl : Rel X.K X.mg ρ F s σ H) (h : PostS X W ρ F H E (fRaiseF c f okd fa s)) : tMkO C (spI X.K C f ok) [] t σ H (fun cls d H' => W cls d σ H') := by
  refine l ρ F s σ H _ rl (PostS.bind h fun ds s1 ρ1 F1 H1 vs x1 rl1 rd1 h1 => ?_)
  cases ds with
  | nil => exact h1.elim
  | cons d r =>
    cases r with
    | cons _ _ => exact h1.elim
    | nil =>
      simp only at h1
      split at h1
      · rename_i hd
        obtain ⟨v, rfl, rd⟩ := rdl1 rd1
        refine ⟨by simp, fun a ha => ⟨a, v, rfl, hok _ _ _ _ hd rd, upd_same, fun dx hdx hne => ?_⟩⟩
        rw [upd_ne hne] at hdx
        refine ⟨rfl, dx, [(f, v)], upd_same, by rw [upd_ne hne, upd_same], hdx, ?_⟩
        rw [made_heap ha hne]
        obtain ⟨m2, x2⟩ := rl1.mem.frozen (p := dx) (o := .xd [(f, v)]) hdx
        exact h1 _ _ _ σ _ _ x2 ⟨m2, rl1.slo.ext x2⟩ ⟨C, T.gC, rfl, (fun z => by cases z), fun _ => ⟨dx, [(f, v)], rfl, upd_same, ⟨v, [], rfl, rd.ext x2, rfl⟩⟩⟩
      · exact h1.elim
theorem pds_raiseF (T : ExcF X.prog X.w X.K X.mg X.base c f p C fI fd ok) (hok : ∀ ρ F d v, okd d → Rd X.K ρ F d v → ok v) (hc : X.calm = true) (hr : Room 2 X.A) (tk : Takes X W) (ha : PDA X W [e] fa) (hg : Gl X c := by rfl)
    (hdb : (c == ("__debug__" : Str)) = false := by decide) (he : starEach [e] X.env = (false, eval e X.env) :: starEach [] X.env := by rfl) (hpl : (backTo pos (starEach [] X.env)).any (·.1) = false := by rfl) :
    PDs X W (.Raise (some (.Call (.Name c p1) [e] [] pos)) none pos2) (fRaiseF c f okd fa) := by
  obtain ⟨t, ea, l⟩ := ha
  exact ⟨_, ps_raise hc tk (pmk_oex T.ox T.iC T.tI T.fn hr T.hb .nil passL hg T.gC ea hdb he hpl), fun ρ F s σ H E rl h => raiseF_run T hok l rl h⟩
end
/-! ### try: .. except C as n: a suite that reads n's field -/
/-- what the name holds in the suite -/
def excD (a dx : Addr) (e : Ex) : D := match e.fs with
  | [] => .ref a
  | p :: r => .exc a dx ((p :: r).map (·.1)) ((p :: r).map (·.2))
def fTryAsF (fb : DS → R Fl) (ctch : Ex → Option Bool) (i : Nat) (fs : Addr → Addr → Ex → DS → R Fl) : DS → R Fl := fun s => match fb s with
  | .ex e s1 => match ctch e with
    | some true => (match fs 0 0 e { s1 with g := s1.g.set i (some (excD 0 0 e)) } with
      | .ok fl s2 => .ok fl { s2 with g := s2.g.set i none }
      | _ => .bad)
    | some false => .ex e s1
    | none => .bad
  | r => r
structure HeldF (X : Cx) (e : Ex) (cls : Value) (d : Option Addr) (dx a : Addr) (oe : Obj) : Prop where
  z : Zc cls d oe
  f : ∃ vs, oe.data = .fields vs
  c : ∃ C, X.mg e.cls = some (.ref C) ∧ cls = .ref C
  n : e.fs = [] → d = none
  n2 : e.fs ≠ [] → d = some dx
theorem RdK.split {K : PySem.W.Frag} {ρ : List Addr} {F : Hp} : ∀ {fs : List (Str × D)} {vs : List (Str × V)}, RdK K ρ F fs vs → ∃ us, vs = (fs.map (·.1)).zip us ∧ RdL K ρ F (fs.map (·.2)) us
  | [], _, h => by
    simp only [RdK] at h
    subst h
    exact ⟨[], rfl, rfl⟩
  | (k, d) :: r, _, h => by
    simp only [RdK] at h
    obtain ⟨v, t, rfl, h1, h2⟩ := h
    obtain ⟨us, rfl, h3⟩ := RdK.split h2
    exact ⟨v :: us, rfl, ⟨v, us, rfl, h1, h3⟩⟩
theorem excD_rd {K : PySem.W.Frag} {mg : Str → Option Value} {ρ : List Addr} {F H : Hp} {e : Ex} {a dx : Addr} {cls : Value} {d : Option Addr} (er : ExR K mg ρ F H e cls d) (h : e.fs ≠ [] → d = some dx) : Rd K ρ F (excD a dx e) (.ref a) := by
  obtain ⟨C, _, _, h1, h2⟩ := er
  unfold excD
  cases q : e.fs with
  | nil => rfl
  | cons p r =>
    rw [q] at h2
    obtain ⟨x, vs, e1, e2, e3⟩ := h2 (by simp)
    have e4 := h (by rw [q]; simp)
    rw [e1] at e4
    cases e4
    obtain ⟨us, rfl, e5⟩ := RdK.split e3
    exact ⟨us, rfl, e2, by simp, e5⟩
section
variable {X : Cx} {W : WX}
theorem pds_try_asF {xn n : Str} {c : Value} {i : Nat} {body suite : List Stmt} {b₀ : Stmt} {np pos pos' : Pos} {fb : DS → R Fl} {ctch : Ex → Option Bool} {fs : Addr → Addr → Ex → DS → R Fl}
    (hs : X.stack = X.env :: X.outer) (hf : X.env.frame = some X.env.locals) (hN : X.N.Nodup) (hi : X.N[i]? = some n) (hln : X.env.kindOf n = some .local) (hc : Names X xn c) (tk : Takes X W)
    (hct : ∀ (e : Ex) b C, ctch e = some b → X.mg e.cls = some (.ref C) → PySem.W.exmOne X.K (.ref C) c = some b)
    (hb : ∀ (W' : WX) (pn : List (Addr × Obj)) (xe : Value → Shared → Prop), Takes (X.tr pn xe) W' → PassesOwn (model X.prog X.w) X.A X.env xe → PDss (X.tr pn xe) W' body fb)
    (hsu : ∀ (a dx : Addr) (oe : Obj) (cls : Value) (d : Option Addr) (pn : List (Addr × Obj)) (e : Ex), HeldF X e cls d dx a oe → ctch e = some true → PDss (X.suite a ((a, oe) :: pn)) W0 (b₀ :: suite) (fs a dx e))
    (hin : ∀ (a dx : Addr) (e : Ex) (s : DS), (fs a dx e { s with g := s.g.set i (some (excD a dx e)) }).bind (fun fl s2 => R.ok fl { s2 with g := s2.g.set i none }) = (fs 0 0 e { s with g := s.g.set i (some (excD 0 0 e)) }).bind (fun fl s2 => R.ok fl { s2 with g := s2.g.set i none })) :
    PDs X W (.Try body [.ExceptHandler (some (.Name xn np)) (some n) (b₀ :: suite) pos'] [] [] pos) (fTryAsF fb ctch i fs) := by
  let tsO : Addr → Addr → Value → Option Addr → Ex → Obj → List (Addr × Obj) → TS := fun a dx cls d e oe pn => fun D σ H => ∀ (h : HeldF X e cls d dx a oe) (h' : ctch e = some true), (Classical.choose (hsu a dx oe cls d pn e h h')) D σ H
  let ts : Addr → Value → Option Addr → TS := fun a cls d => fun D σ H => ∃ (e : Ex) (dx : Addr), (∃ C, X.mg e.cls = some (.ref C) ∧ cls = .ref C) ∧ (e.fs = [] → d = none) ∧ (e.fs ≠ [] → d = some dx) ∧ ctch e = some true ∧ ∀ oe pn, tsO a dx cls d e oe pn D σ H
  let tb : WX → TS := fun W' => fun D σ H => ∀ pn xe (h1 : Takes (X.tr pn xe) W') (h2 : PassesOwn (model X.prog X.w) X.A X.env xe), (Classical.choose (hb W' pn xe h1 h2)) D σ H
  refine ⟨_, ps_try_as (tb := tb) (ts := ts) hs hf hN hi hln hc tk (fun W' pn xe h1 h2 => ⟨fun pins s σ H D I h => (Classical.choose_spec (hb W' pn xe h1 h2)).1.run pins s σ H D I (h pn xe h1 h2)⟩)
    (fun a oe cls d pn hz hf' => ⟨fun pins s σ H D I ⟨e, dx, hc', hn, hn2, hq, h⟩ => (Classical.choose_spec (hsu a dx oe cls d pn e ⟨hz, hf', hc', hn, hn2⟩ hq)).1.run pins s σ H D I (h oe pn ⟨hz, hf', hc', hn, hn2⟩ hq)⟩), fun ρ F s σ H E rl h => ?_⟩
  intro pn xe h1 h2
  refine (Classical.choose_spec (hb _ pn xe h1 h2)).2 ρ F s σ H E rl ?_
  unfold fTryAsF at h
  cases q : fb s with
  | bad => rw [q] at h; exact h
  | ok fl s1 => rw [q] at h; cases fl <;> exact h
  | ex e s1 =>
    rw [q] at h
    simp only at h
    intro ρ1 F1 H1 σ1 cls d x1 rl1 er
    have er0 := er
    obtain ⟨C, hC, rfl, hn1, hn2⟩ := er
    cases qc : ctch e with
    | none => rw [qc] at h; exact h.elim
    | some b =>
      rw [qc] at h
      refine ⟨b, hct _ b C qc hC, fun hb' a ha => ?_, fun hb' => ?_⟩
      · subst hb'
        simp only at h
        obtain ⟨dx, hdx⟩ : ∃ dx, e.fs ≠ [] → d = some dx := by
          by_cases hz : e.fs = []
          · exact ⟨0, fun z => absurd hz z⟩
          · obtain ⟨x, vs, e1, _⟩ := hn2 hz
            exact ⟨x, fun _ => e1⟩
        refine ⟨e, dx, ⟨C, hC, rfl⟩, hn1, hdx, qc, fun oe pn hh hq => ?_⟩
        refine (Classical.choose_spec (hsu a dx oe (.ref C) d pn e hh hq)).2 ρ1 F1 { s1 with g := s1.g.set i (some (excD a dx e)) } _ H1 _ ⟨rl1.mem, rl1.slo.set i (excD_rd er0 hdx)⟩ ?_
        have hin' := hin a dx e s1
        cases q0 : fs 0 0 e { s1 with g := s1.g.set i (some (excD 0 0 e)) } with
        | bad => rw [q0] at h; exact h.elim
        | ex _ _ => rw [q0] at h; exact h.elim
        | ok fl0 s0 =>
          rw [q0] at h hin'
          cases qa : fs a dx e { s1 with g := s1.g.set i (some (excD a dx e)) } with
          | bad => rw [qa] at hin'; cases hin'
          | ex _ _ => rw [qa] at hin'; cases hin'
          | ok fla sa =>
            rw [qa] at hin'
            have hin2 : R.ok fla { sa with g := sa.g.set i none } = R.ok fl0 { s0 with g := s0.g.set i none } := hin'
            injection hin2 with e1 e2
            subst e1
            have h3 : PostS X W ρ1 F1 H1 E (.ok fla { sa with g := sa.g.set i none }) := by
              rw [e2]
              exact PostS.ext h x1
            cases fla with
            | nx => exact fun ρ2 F2 H2 σ2 x2 rl2 => h3 ρ2 F2 H2 _ x2 ⟨rl2.mem, rl2.slo.unset i⟩
            | bk => exact fun ρ2 F2 H2 σ2 x2 rl2 => h3 ρ2 F2 H2 _ x2 ⟨rl2.mem, rl2.slo.unset i⟩
            | ct => exact fun ρ2 F2 H2 σ2 x2 rl2 => h3 ρ2 F2 H2 _ x2 ⟨rl2.mem, rl2.slo.unset i⟩
            | rt dd => exact fun ρ2 F2 H2 v x2 m2 r2 => h3 ρ2 F2 H2 v x2 m2 r2
      · subst hb'
        exact h ρ1 F1 H1 σ1 (.ref C) d x1 rl1 er0
/-- n.f in the suite -/
def fXf (a dx : Addr) (i : Nat) (f : Str) (okc : Bool) : DS → R D := fun s => match s.g[i]? with
  | some (some (.exc a' x' ks ds)) => if a' = a ∧ x' = dx ∧ okc = true then (match (ks.zip ds).lookup f with
    | some d => .ok d s
    | none => .bad) else .bad
  | _ => .bad
theorem lookup_zip {K : PySem.W.Frag} {ρ : List Addr} {F : Hp} {f : Str} {d : D} : ∀ {ks : List Str} {ds : List D} {vs : List V}, RdL K ρ F ds vs → (ks.zip ds).lookup f = some d → ∃ v, (ks.zip vs).lookup f = some v ∧ Rd K ρ F d v
  | [], _, _, _, h => by simp at h
  | k :: ks, [], _, _, h => by simp at h
  | k :: ks, d' :: ds, _, r, h => by
    simp only [RdL] at r
    obtain ⟨v, t, rfl, r1, r2⟩ := r
    simp only [List.zip_cons_cons, List.lookup_cons] at h ⊢
    cases q : f == k with
    | true =>
      rw [q] at h
      cases h
      exact ⟨v, rfl, r1⟩
    | false =>
      rw [q] at h
      exact lookup_zip r2 h
theorem pd_xf {a dx C : Addr} {oe : Obj} {cls : Value} {d : Option Addr} {pn : List (Addr × Obj)} {e : Expr} {i : Nat} {f : Str} {okc : Bool} {pos : Pos} (T : XfC X.K C) (hno : PySem.W.findIn X.K (.ref C) f = some none) (hz : Zc cls d oe) (hf : ∃ vs, oe.data = .fields vs) (hd : okc = true → d = some dx) (hcl : okc = true → cls = .ref C)
    (he : PE (X.suite a ((a, oe) :: pn)) e (tVar i)) (hb : attributeBase e f X.env (eval e X.env) = eval e X.env := by rfl) : PD (X.suite a ((a, oe) :: pn)) W (.Attribute e f pos) (fXf a dx i f okc) := by
  refine ⟨_, pe_xf T hno hz hf he hb, fun ρ F s σ H Q rl h => ?_⟩
  unfold fXf at h
  split at h
  · rename_i a' x' ks ds q
    split at h
    · rename_i hq
      obtain ⟨rfl, rfl, hok⟩ := hq
      obtain ⟨v, e1, vs, rfl, e2, e3, e4⟩ := rl.slo.at_ i _ q
      split at h
      · rename_i d' hl
        obtain ⟨v', hl', r'⟩ := lookup_zip e4 hl
        exact ⟨_, e1, rfl, hcl hok, x', _, v', hd hok, rl.mem.sub _ _ e2, hl', h ρ F H _ (Ext.refl ..) rl r'⟩
      · exact h.elim
    · exact h.elim
  · exact h.elim
end
end DL

/-! isinstance of a caught exception that has a record of fields. -/
namespace PySem.W
open PySem PySem.Spec PySem.Calls PyProof.Rows
section
variable {prog : Program} {w : World} {A : Around} {E : Value → Shared → Prop} {z : Shared} {K : Frag} {x D : Addr} {ox : Obj} {od : Option Obj}
/-- the class of an exception, by __class__, its record there or not -/
theorem clsOf_exc {Q : Option Value → Shared → Prop} (T : L2.ExcC K D) (hin : K.In z.heap) (I : InstAt z.heap x ox D od) (q : Q (some (.ref D)) { z with toks := z.toks + 1 }) : wpAny (model prog w) A (getAttr? (.ref x) "__class__") Q E z := by
  have hfd : findObj K D od "__class__" = some (.bind (.builtin "getset_descriptor.__get__") (.builtin "object.__class__")) := by
    obtain ⟨cd, hcd, _⟩ := any_some T.hd
    unfold findObj
    rw [hcd, Option.bind_some, T.ha, Option.bind_some]
    simp [T.hn, T.ht]
  obtain ⟨zh, zg, zd, zt, zo⟩ := z
  have M0 := I.type (M := model prog w)
  have M1 := looks_findIn (M := model prog w) hin T.hg
  have M2 := looks_findIn (M := model prog w) hin T.hk
  have M3 := looks_find (M := model prog w) hin I hfd
  have isB : Looks (model prog w) zh (isInstance (.ref x) (.type "BaseException")) true := M0.andThen (looks_subIn hin T.hs)
  have no0 : (false && onTheHeap (Value.builtin "BaseException.__getattribute__")) = false := rfl
  have no1 : (onTheHeap (Value.ref D) && Value.builtin "BaseException.__getattribute__" == Value.builtin "object.__getattribute__") = false := by
    rw [show (Value.builtin "BaseException.__getattribute__" == Value.builtin "object.__getattribute__") = false by decide +kernel]
    rfl
  unfold getAttr? getAttrBy? getAttrBy
  apply wpAny_bind
  apply wpAny_mkText
  refine wpAny_bind (wpAny_attempt (wpAny_holding (wpAny_bind (M0.at (wpAny_bind (M1.at ?_))))))
  show wpAny _ _ (if (onTheHeap (Value.ref D) && Value.builtin "BaseException.__getattribute__" == Value.builtin "object.__getattribute__") = true then _ else _) _ _ _
  rw [no1]
  rw [if_neg Bool.false_ne_true]
  unfold getAttrByItsOwn hookBefore
  apply wpAny_bind
  rw [if_pos (show onTheHeap (Value.ref D) = true by rfl)]
  apply M2.at
  apply wpAny_bind
  apply wpAny_attempt
  apply wpAny_holding
  unfold callGetattribute
  rw [no0]
  rw [if_neg Bool.false_ne_true]
  unfold boundAndCalled
  rw [PySem.F.excAttr_ValueError.ga.bind (.ref x)]
  apply wpAny_bind
  apply wpAny_pure
  show wpAny _ _ (call (.builtin "BaseException.__getattribute__") [.ref x, .str "__class__" zt]) _ _ _
  apply wpAny_call
  refine codeAny_call_builtin PySem.F.excAttr_ValueError.ga.plain PySem.F.entry_bexc_ga (@check_slot (model prog w) _ _ ⟨zh, zg, zd, zt + 1, zo⟩ "BaseException.__getattribute__" "BaseException" "__getattribute__" (.ref x) [.str "__class__" zt] [] _ (by decide +kernel) (by decide +kernel) isB (PySem.F.args_bexc_ga (.ref x) (.str "__class__" zt)) ?_)
  unfold Builtin.«object.__getattribute__»
  refine wpAny_bind (wpAny_of_eq (a := ((Value.ref x : Value), [Value.str "__class__" zt])) (by first | rfl | (simp only [slotArgs]; rfl)) (wpAny_bind (wpAny_pure (wpAny_bind (M0.at (wpAny_bind (M3.at ?_)))))))
  show wpAny _ _ (holding [Value.builtin "object.__class__"] (call (.builtin "getset_descriptor.__get__") [.builtin "object.__class__", .ref x, .ref D]) >>= ret) _ _ _
  refine wpAny_bind (wpAny_holding (wpAny_call (class_get (s := ⟨zh, zg, zd, zt + 1, zo⟩) (ox := ox) (od := od) hin I T.hm (wpAny_pure ?_))))
  show wpAny _ _ (handedOut (.ref D)) _ _ _
  rw [handedOut_of (v := .ref D) rfl]
  first | exact wpAny_pure (wpAny_pure q) | exact wpAny_pure q | exact wpAny_pure (wpAny_bind (wpAny_pure (wpAny_pure q)))
theorem kitx_excF (T : L2.ExcC K D) : KitX K (.ref x) (.ref D) (fun h => ∃ ox od, InstAt h x ox D od) where
  ty := fun _ _ _ ⟨_, _, I⟩ => I.type
  it := fun _ _ hin _ => by
    obtain ⟨cd1, hcd1, _⟩ := any_some T.hd
    unfold clsIn at hcd1
    split at hcd1
    · rename_i ho
      intro A1 Q1 E1 s1 k1 q1
      unfold isType
      unfold loadHead
      exact wpAny_bind (wpAny_loadPart (k1 _ _ (hin _ _ ho)) (wpAny_pure q1))
    · cases hcd1
  ne := fun h tp dd its n sl hin e => (PySem.W.handS_kitx_exc (x := x) (ox := (⟨.none, none, .fields #[], #[]⟩ : Obj)) T.hg T.hk T.hs T.hd T.ha T.hn T.ht T.hm).ne h tp dd its n sl hin e
  ca := fun hin ⟨_, _, I⟩ q => clsOf_exc T hin I q
end
end PySem.W

namespace DL
open PySem L2
/-- isinstance(n, c) in the suite, n's exception with a record or without -/
def rIsF (K : PySem.W.Frag) (D a : Addr) (d : Option Addr) : List V → Hp → VK → Prop := fun xs H Q => ∃ (c : V) (cv : Value) (b : Bool), xs = [.ref a, c] ∧ (∀ u, RelV c u → u = cv) ∧ PySem.W.kitOne K (.ref D) cv = some b ∧ (∀ dx, d = some dx → ∃ fs, H dx = some (.xd fs)) ∧ Q (.bl b) H
theorem call_isF {X : Cx} {a D : Addr} {d : Option Addr} {oe : Obj} {pn : List (Addr × Obj)} (C : ExcC X.K D) (hz : Zc (.ref D) d oe) (hf : ∃ vs, oe.data = .fields vs) : CallR (X.suite a ((a, oe) :: pn)) (.builtin "isinstance") (rIsF X.K D a d) := by
  intro pins s σ H xs us Q I r h
  obtain ⟨c, cv, b, rfl, hcv, e, hrec, q⟩ := h
  cases r with
  | cons r0 rr =>
    cases rr with
    | cons r1 rr =>
      cases rr
      cases r0
      have hc' := hcv _ r1
      subst hc'
      have hp := (I.pin (a, oe) (List.mem_append.mpr (.inl List.mem_cons_self))).1
      obtain ⟨vs, hv⟩ := hf
      have J : ∃ ox od, PySem.W.InstAt s.heap a ox D od := by
        cases d with
        | none =>
          obtain ⟨oc, od, oda, osl⟩ := oe
          obtain ⟨h1, h2⟩ := hz
          dsimp only at h1 h2 hv
          subst h1 h2 hv
          exact ⟨_, none, hp, rfl, rfl, trivial⟩
        | some dx =>
          obtain ⟨fs, hfs⟩ := hrec dx rfl
          have hx : ObjOk X.prog X.w H s.heap dx (.xd fs) := I.hok dx _ hfs
          obtain ⟨mA, hns, _⟩ := hx
          obtain ⟨od, ho, _⟩ := lookIn_ns hns
          exact ⟨oe, some od, hp, hz.1, by unfold PySem.W.notCls; rw [hv] <;> rfl, by rw [hz.2]; exact ho⟩
      exact PySem.W.kia_one (PySem.W.kitx_excF C) I.kIn J e (fun z => nomatch z) fun tk => ⟨.bl b, H, I.kept (t' := tk) fun _ _ z => z, rfl, q⟩
def fIsF (a dx : Addr) (e : Ex) (i : Nat) (ob : Option Bool) : DS → R D := fun s => match s.g[i]?, ob with
  | some (some d), some b => (match d, e.fs with
    | .ref x, [] => if x = a then .ok (.bl b) s else .bad
    | .exc x y _ _, _ :: _ => if x = a ∧ y = dx then .ok (.bl b) s else .bad
    | _, _ => .bad)
  | _, _ => .bad
theorem pd_isF {X : Cx} {W : WX} {a dx C0 : Addr} {d : Option Addr} {ex : Ex} {oe : Obj} {pn : List (Addr × Obj)} {i : Nat} {ob : Option Bool} {en cn : Expr} {cV : V} {cv : Value} {p pos : Pos} (C : ExcC X.K C0) (hz : Zc (.ref C0) d oe) (hf : ∃ vs, oe.data = .fields vs) (hn : ex.fs = [] → d = none) (hn2 : ex.fs ≠ [] → d = some dx)
    (he : PE (X.suite a ((a, oe) :: pn)) en (tVar i)) (hcl : PE (X.suite a ((a, oe) :: pn)) cn (tC cV)) (hcv : ∀ u, RelV cV u → u = cv) (hk : ∀ b, ob = some b → PySem.W.kitOne X.K (.ref C0) cv = some b) (hm : X.mg "isinstance" = none)
    (hv : bootBuiltins "isinstance" = some (.builtin "isinstance")) (hg : Gl (X.suite a ((a, oe) :: pn)) "isinstance" := by rfl)
    (hst : starEach [en, cn] X.env = [(false, eval en X.env), (false, eval cn X.env)] := by rfl) (hs2 : starEach [cn] X.env = [(false, eval cn X.env)] := by rfl) :
    PD (X.suite a ((a, oe) :: pn)) W (.Call (.Name "isinstance" p) [en, cn] [] pos) (fIsF a dx ex i ob) := by
  refine ⟨_, pe_callB (call_isF C hz hf) hg hm hv (pa_cons he (pa_cons hcl pa_nil (by show starEach [cn] X.env = _; rw [hs2]; rfl)) (by show starEach [en, cn] X.env = _ :: starEach [cn] X.env; rw [hst, hs2])) (he := by show starEach [en, cn] X.env = _ :: starEach [cn] X.env; rw [hst, hs2]) (hpl := by show (backTo pos (starEach [cn] X.env)).any (·.1) = false; rw [hs2]; rfl), fun ρ F s σ H Q rl h => ?_⟩
  unfold fIsF at h
  split at h
  · rename_i dd b e
    split at h
    · rename_i x qf
      split at h
      · rename_i hx
        subst hx
        obtain ⟨v, e1, r⟩ := rl.slo.at_ i _ e
        have r' : v = .ref x := r
        subst r'
        exact ⟨.ref x, e1, ⟨cV, cv, b, rfl, hcv, hk b rfl, fun y hy => (by rw [hn qf] at hy; cases hy), h ρ F H _ (Ext.refl ..) rl rfl⟩⟩
      · exact h.elim
    · rename_i x y ks ds p0 r0 qf
      split at h
      · rename_i hx
        obtain ⟨rfl, rfl⟩ := hx
        obtain ⟨v, e1, r⟩ := rl.slo.at_ i _ e
        obtain ⟨vs, rfl, e2, _⟩ := r
        refine ⟨.ref x, e1, ⟨cV, cv, b, rfl, hcv, hk b rfl, fun z hy => ?_, h ρ F H _ (Ext.refl ..) rl rfl⟩⟩
        rw [hn2 (by rw [qf]; simp)] at hy
        cases hy
        exact ⟨_, rl.mem.sub _ _ e2⟩
      · exact h.elim
    · exact h.elim
  · exact h.elim
/-! what a suite reads of its exception does not hang on where it stands -/
def xfV (e : Ex) (f : Str) : Option D := match e.fs with
  | [] => none
  | p :: r => (((p :: r).map (·.1)).zip ((p :: r).map (·.2))).lookup f
def isR (ob : Option Bool) (s : DS) : R D := match ob with
  | some b => .ok (.bl b) s
  | none => .bad
def xfR (o : Option D) (okc : Bool) (s : DS) : R D := match o with
  | some d => if okc = true then .ok d s else .bad
  | none => .bad
theorem isF_at (a dx : Addr) (e : Ex) (i : Nat) (ob : Option Bool) (g : List (Option D)) (m : List MO) (hl : i < g.length) : fIsF a dx e i ob ⟨g.set i (some (excD a dx e)), m⟩ = isR ob ⟨g.set i (some (excD a dx e)), m⟩ := by
  unfold fIsF isR
  rw [List.getElem?_set_self hl]
  obtain ⟨c, fs⟩ := e
  cases ob with
  | none => rfl
  | some b =>
    cases fs with
    | nil => simp [excD]
    | cons p r => simp [excD]
theorem xf_at (a dx : Addr) (e : Ex) (i : Nat) (f : Str) (okc : Bool) (g : List (Option D)) (m : List MO) (hl : i < g.length) : fXf a dx i f okc ⟨g.set i (some (excD a dx e)), m⟩ = xfR (xfV e f) okc ⟨g.set i (some (excD a dx e)), m⟩ := by
  unfold fXf xfR xfV
  simp only
  rw [List.getElem?_set_self hl]
  obtain ⟨c, fs⟩ := e
  cases fs with
  | nil => simp [excD]
  | cons p r =>
    simp only [excD, true_and]
    cases okc with
    | false => cases (((p :: r).map (·.1)).zip ((p :: r).map (·.2))).lookup f <;> simp
    | true => cases (((p :: r).map (·.1)).zip ((p :: r).map (·.2))).lookup f <;> simp
end DL

/-! sorted(set(xs)) of a list of ints; tuples compared; range as a value; further calls. -/
namespace DL
open PySem PySem.Spec PyProof.Rows L2
abbrev set0 (w : World) : Obj := { cls := .type "set", dict := none, data := .set #[] 0 (.fresh 0 0 (!w.params.followText "set-order")) }
section
variable {P : Program} {w : World} {A : Around} {E : Value → Shared → Prop} {z : Shared}
set_option maxRecDepth 100000 in
set_option maxHeartbeats 3200000 in
/-- set(l), l a list of ints -/
theorem call_set_lstI {l : Addr} {its : Array Value} (ns : List Int) {Q : Value → Shared → Prop} (hh : A.handled = none) (hl : z.heap.IsList l its) (hi : IntsAre its.toList ns) (hb : ns.length + 1 < scanBound)
    (fin : ∀ (h' : Heap) (tk c : Nat), SetR w h' z.heap.objs.size (fun j => decide (j ∈ ns)) c → c ≤ ns.length → (∀ b o, z.heap.get? b = some o → h'.get? b = some o) → Q (.ref z.heap.objs.size) { z with heap := h', toks := tk }) :
    wpAny (model P w) A (call (.type "set") [.ref l]) Q E z := by
  have hsz : its.size = ns.length := by
    have e := IntsAre.length hi
    rwa [Array.length_toList] at e
  obtain ⟨c1, tl1, hmro⟩ := F.called_set.mro
  have mk1 := F.called_set.made
  have sb1 := F.called_set.sub
  apply wpAny_call
  apply codeAny_of_tree
  show wpAny _ _ (callAny (.type "set") _) _ _ _
  apply wpAny_pure
  refine ⟨Code.quiet_builtin _ (by decide +kernel), ?_⟩
  apply codeAny_builtin F.entry_type_call
  rw [Around.under_plain (weight_type_call_type "set" [.ref l] []) rfl]
  have nt := F.called_set.notType
  have cc := F.called_set.canCreate
  have tc := F.typeCall_set_1 (.ref l)
  repeat (any_goals (first | assumption | wp_step))
  refine codeAny_mono (code_set_led1 (.ref l) (E := E) (Q₁ := fun ob y => ob = .ref z.heap.objs.size ∧ y = { z with heap := z.heap.push (set0 w) }) ⟨rfl, rfl⟩) fun r y hr => ?_
  cases r with
  | error e => exact hr
  | ok fl =>
    cases fl with
    | ret ob =>
      obtain ⟨rfl, rfl⟩ := hr
      have gS : (z.heap.push (set0 w)).get? z.heap.objs.size = some (set0 w) := Heap.get?_push_size _ rfl
      have tS : Shared.TypeIs { z with heap := z.heap.push (set0 w) } (.ref z.heap.objs.size) "set" := ⟨_, gS, rfl⟩
      have li := F.called_set.init.lookup
      have bi := F.called_set.init.bind (.ref z.heap.objs.size)
      repeat (any_goals (first | assumption | wp_step))
      refine codeAny_mono (codeAny_call_builtin (R := wants (fun r y => r = .none ∧ ∃ h' tk c, y = { z with heap := h', toks := tk } ∧ SetR w h' z.heap.objs.size (fun j => decide (j ∈ ns)) c ∧ c ≤ ns.length ∧ (∀ b o, z.heap.get? b = some o → h'.get? b = some o)) E) F.called_set.init.plain F.entry_set_init (check_set_init_1 tS ?_)) fun r2 y2 hr2 => ?_
      · obtain ⟨ol, hol, hcl, nl, hdl⟩ := hl
        obtain ⟨oc, od, oda, osl⟩ := ol
        simp only at hcl hdl
        subst hcl; subst hdl
        have gl : (z.heap.push (set0 w)).get? l = some { cls := .type "list", dict := od, data := .seq its nl, slots := osl } := Heap.get?_push_of_some _ hol
        have s1 := F.sub_list_set
        have s2 := F.sub_list_frozenset
        have nd : (Value.type "list" == Value.type "dict") = false := by decide
        have isl : (z.heap.push (set0 w)).IsList l its := ⟨_, gl, rfl, nl, rfl⟩
        unfold Builtin.«set.__init__» noKeywords Builtin.Frozenset.updateFrom
        generalize hPI : pyIter = PI
        wp_walk
        subst hPI
        apply wpAny_pyIter_list isl
        apply wpAny_bind
        apply wpAny_runValue
        have lS : l < z.heap.objs.size := Heap.lt_size hol
        have h3 : A.in1.in1.in1.handled = none := by simp [hh]
        have nI : l ≠ (z.heap.push (set0 w)).objs.size := by
          rw [Heap.size_push]
          exact Nat.ne_of_lt (Nat.lt_succ_of_lt lS)
        have nS : z.heap.objs.size ∉ [(z.heap.push (set0 w)).objs.size, l] := by
          rw [Heap.size_push]
          simp only [List.mem_cons, List.not_mem_nil, or_false, not_or]
          exact And.intro (Nat.ne_of_lt (Nat.lt_succ_self _)) (Nat.ne_of_gt lS)
        have val : ∀ (i : Nat) (v : Value), its[i]? = some v → ∃ k t, ns[i]? = some k ∧ v = .int k t := fun i v hv => by
          have hlt : i < ns.length := by rw [← hsz]; exact (Array.getElem?_eq_some_iff.mp hv).1
          obtain ⟨t, e⟩ := IntsAre.int_at hi i v (by rw [Array.getElem?_toList]; exact hv)
          exact ⟨ns[i], t, List.getElem?_eq_getElem hlt, by rw [e, List.getD_eq_getElem?_getD, List.getElem?_eq_getElem hlt] <;> rfl⟩
        refine set_update_ints ((Walks.list h3 _ l nI its).toS) z.heap.objs.size nS ns hsz hb val (its.size - 0) 0 _ (by omega) (Nat.zero_le _) ⟨⟨_, Heap.get?_push_size _ rfl, rfl, rfl⟩, (isl.push _)⟩ ?hS0 ?hR
        case hS0 =>
          have g2 : ((z.heap.push (set0 w)).push { cls := .type "list_iterator", data := .fields #[.ref l, .int 0 0] }).get? z.heap.objs.size = some (set0 w) := Heap.get?_push_of_some _ gS
          exact ⟨0, Nat.le_refl 0, setR_new_at g2⟩
        case hR =>
          intro y c' hm hc' hS'
          obtain ⟨h', g2, d2, t2, os2⟩ := y
          have eg : g2 = z.gens := hm.gens
          have ed : d2 = z.drawn := hm.drawn
          have eo : os2 = z.os := hm.os
          subst eg; subst ed; subst eo
          show wpAny _ _ _ _ _ _
          apply wpAny_pure
          show wpAny _ _ (ret Value.none) _ _ _
          rw [hsz] at hc'
          refine wpAny_pure ⟨rfl, h', t2, c', rfl, hS', hc', fun b o e => ?_⟩
          have b0 : b < z.heap.objs.size := Heap.lt_size e
          refine hm.heap b o ?_ (Heap.get?_push_of_some _ (Heap.get?_push_of_some _ e))
          simp only [List.mem_cons, List.not_mem_nil, or_false, not_or]
          rw [Heap.size_push]
          exact And.intro (Nat.ne_of_lt b0) (Nat.ne_of_lt (Nat.lt_succ_of_lt b0))
      · cases r2 with
        | error e => exact hr2
        | ok fl2 =>
          cases fl2 with
          | ret r =>
            obtain ⟨rfl, h', tk, c', rfl, k1, k2, k3⟩ := hr2
            repeat (any_goals (first | assumption | wp_step))
            exact fin _ _ _ k1 k2 k3
          | _ => exact hr2.elim
    | _ => exact hr.elim
end
/-- sorted(set(xs)), xs a list of ints, fewer than 64 -/
def tSortedSet (K : PySem.W.Frag) (ta : TE) : TE := fun σ H Q => ta σ H fun x H1 => ∃ (l : Addr) (ns : List Int), x = .ref l ∧ SqL K H1 l (ns.map V.int) ∧ ns.length < 64 ∧ ∀ (ms : List Int) (p : Addr), ms.Pairwise (· < ·) → (∀ k, k ∈ ms ↔ k ∈ ns) → H1 p = none → Q (.ref p) (upd H1 p (.lst (ms.map V.int)))
section
variable {X : Cx} {W : WX} {a : Expr} {ta : TE} {p p2 q pos : Pos}
theorem pe_sortedSet (hg : Gl X "sorted") (hm : X.mg "sorted" = none) (hg2 : Gl X "set") (hm2 : X.mg "set" = none) (ha : PE X a ta) (hc : X.calm = true)
    (hs : starEach [a] X.env = (false, eval a X.env) :: starEach [] X.env := by rfl) : PE X (.Call (.Name "sorted" p) [.Call (.Name "set" p2) [a] [] q] [] pos) (tSortedSet X.K ta) := by
  refine ⟨fun pins s σ H Q I h => ?_⟩
  refine Call_ (ld_blt I hg hm PyProof.Rows.boot_sorted ?_)
  refine PyProof.Rows.callWith_builtin1 (PyProof.Rows.args_cons ?_ rfl) rfl rfl
  refine Call_ (ld_blt I hg2 hm2 PyProof.Rows.boot_set ?_)
  refine PyProof.Rows.callWith_type1 (PyProof.Rows.args_cons (L2.thn (ha.run pins s σ H _ I h) fun v s1 ⟨x, H1, I1, r1, q1⟩ => PyProof.Rows.args_nil ?_) hs) hs rfl
  obtain ⟨l, ns, rfl, hq, hl, q1⟩ := q1
  cases r1
  obtain ⟨its, r, pl, hz⟩ := I1.list hq
  refine call_set_lstI ns (I1.ok.hd hc) pl.isList (by simpa using ints_of_vals r) (by unfold scanBound; omega) fun h' tk c hS hcn k => ?_
  refine PyProof.Rows.args_nil ?_
  have I2 : Inv X pins σ H1 { s1 with heap := h', toks := tk } := I1.kept fun b o e => k b o e
  generalize hs2 : ({ s1 with heap := h', toks := tk } : Shared) = s2 at I2 ⊢
  have hS' : SetR X.w s2.heap s1.heap.objs.size (fun j => decide (j ∈ ns)) c := by rw [← hs2]; exact hS
  clear hS
  refine sorted_set hS' (I2.ok.hd hc) (by omega) fun s' p out c ms k2 g o hp hgp his hs3 hm3 hl2 => ?_
  have hsub : ms.length ≤ ns.length := by
    have nd : ms.Nodup := hs3.imp fun h => by omega
    have := nd.length_le_of_subset (l₂ := ns) fun y hy => by simpa using (hm3 y).mp hy
    exact this
  have hlen : (ms.map V.int).length ≤ sizeLine := by rw [List.length_map, sizeLine_eq]; omega
  have hp' : H1 p = none := I2.hok.fresh hp
  have J : Inv X pins σ (upd H1 p (.lst (ms.map V.int))) { s2 with heap := s'.heap, gens := s'.gens, drawn := s'.drawn, toks := s'.toks } :=
    I2.call (ch := []) (Un.laid k2 hp hp') (I2.hok.laid k2 hp ⟨hlen, out.toList, c, vals_of_ints his, hgp⟩) (by rw [g]; exact I2.bare) (fun _ z => nomatch z)
  have e : s' = { s2 with heap := s'.heap, gens := s'.gens, drawn := s'.drawn, toks := s'.toks } := by
    cases s'; cases s2; cases o; rfl
  rw [e]
  exact ⟨.ref p, _, J, rfl, q1 ms p hs3 (fun k => by rw [hm3 k]; simp) hp'⟩
end
end DL

/-! Data compared; sorted(set(..)); in range(..); list.insert, list.pop; max, min. -/
namespace DL
open PySem L2
section
variable {X : Cx} {W : WX} {a b e : Expr} {p p2 q pos : Pos} {fa fb : DS → R D} {K : PySem.W.Frag}
/-! ### < of alike data -/
def rCmpD (K : PySem.W.Frag) (f : PyData → PyData → Bool) : R2 := fun x y H Q => ∃ d e, Dp K H x d ∧ Dp K H y e ∧ PySem.W.alike d e = true ∧ d ≠ .none ∧ d.depth ≤ 64 ∧ Q (.bl (f d e)) H
theorem op_ltD (hu : X.A.units + 64 < cLine) : OpR X (compareOp .Lt) (rCmpD X.K fun d e => PySem.W.dataLt d e) := by
  intro pins s σ H x y v u Q I rx ry h
  obtain ⟨d, e, hd, he, ha, hn, hz, q⟩ := h
  obtain ⟨as, r1⟩ := Dp.reads I d x v hd rx
  obtain ⟨bs, r2⟩ := Dp.reads I e y u he ry
  exact PySem.W.lt_data r1 r2 ha hn (by omega) ⟨.bl _, H, I, rfl, q⟩
theorem op_gtD (hu : X.A.units + 64 < cLine) : OpR X (compareOp .Gt) (rCmpD X.K fun d e => PySem.W.dataLt e d) := by
  intro pins s σ H x y v u Q I rx ry h
  obtain ⟨d, e, hd, he, ha, hn, hz, q⟩ := h
  obtain ⟨as, r1⟩ := Dp.reads I d x v hd rx
  obtain ⟨bs, r2⟩ := Dp.reads I e y u he ry
  exact PySem.W.gt_data r1 r2 ha hn (by omega) ⟨.bl _, H, I, rfl, q⟩
theorem op_leD (hu : X.A.units + 64 < cLine) : OpR X (compareOp .LtE) (rCmpD X.K fun d e => !PySem.W.dataLt e d) := by
  intro pins s σ H x y v u Q I rx ry h
  obtain ⟨d, e, hd, he, ha, hn, hz, q⟩ := h
  obtain ⟨as, r1⟩ := Dp.reads I d x v hd rx
  obtain ⟨bs, r2⟩ := Dp.reads I e y u he ry
  exact PySem.W.le_data r1 r2 ha hn (by omega) ⟨.bl _, H, I, rfl, q⟩
theorem op_geD (hu : X.A.units + 64 < cLine) : OpR X (compareOp .GtE) (rCmpD X.K fun d e => !PySem.W.dataLt d e) := by
  intro pins s σ H x y v u Q I rx ry h
  obtain ⟨d, e, hd, he, ha, hn, hz, q⟩ := h
  obtain ⟨as, r1⟩ := Dp.reads I d x v hd rx
  obtain ⟨bs, r2⟩ := Dp.reads I e y u he ry
  exact PySem.W.ge_data r1 r2 ha hn (by omega) ⟨.bl _, H, I, rfl, q⟩
def ltDD (x y : D) : Bool := PySem.W.dataLt (toP x) (toP y)
def isNonP : PyData → Bool
  | .none => true
  | _ => false
def gCmpD (f : D → D → Bool) : D → D → DS → R D := fun x y s => if okD 64 x = true ∧ okD 64 y = true ∧ PySem.W.alike (toP x) (toP y) = true ∧ isNonP (toP x) = false then .ok (.bl (f x y)) s else .bad
theorem vw_self {n : Nat} {d : D} {s : DS} (h : okD n d = true) : vw s d = d := vw_ok h
theorem opd_cmpD {f : PyData → PyData → Bool} : OpD X W (rCmpD X.K f) (gCmpD fun x y => f (toP x) (toP y)) := by
  intro ρ F s σ H x y v u Q rl r1 r2 h
  unfold gCmpD at h
  split at h
  · rename_i hc
    obtain ⟨h1, h2, h3, h4⟩ := hc
    refine ⟨toP x, toP y, Rd.dp rl.mem.sub 64 x v h1 r1, Rd.dp rl.mem.sub 64 y u h2 r2, h3, (fun z => by rw [z] at h4; cases h4), (okD_lay 64 x h1).2, h ρ F H _ (Ext.refl ..) rl rfl⟩
  · exact h.elim
/-! ### sorted(set(xs)) -/
def insU (x : Int) : List Int → List Int
  | [] => [x]
  | y :: l => if x < y then x :: y :: l else if x = y then y :: l else y :: insU x l
def sortU : List Int → List Int
  | [] => []
  | x :: l => insU x (sortU l)
theorem insU_mem (x k : Int) : ∀ l : List Int, k ∈ insU x l ↔ k = x ∨ k ∈ l
  | [] => by simp [insU]
  | y :: l => by
    unfold insU
    split
    · simp
    · split
      · rename_i h
        subst h
        simp
      · simp only [List.mem_cons, insU_mem x k l]
        constructor
        · rintro (h | h | h)
          · exact .inr (.inl h)
          · exact .inl h
          · exact .inr (.inr h)
        · rintro (h | h | h)
          · exact .inr (.inl h)
          · exact .inl h
          · exact .inr (.inr h)
theorem insU_lt (x : Int) : ∀ l : List Int, l.Pairwise (· < ·) → (insU x l).Pairwise (· < ·)
  | [], _ => by simp [insU]
  | y :: l, h => by
    unfold insU
    have h1 := List.pairwise_cons.mp h
    split
    · rename_i hx
      exact List.pairwise_cons.mpr ⟨fun z hz => by
        rcases List.mem_cons.mp hz with rfl | hz
        · exact hx
        · have := h1.1 z hz; omega, h⟩
    · split
      · exact h
      · exact List.pairwise_cons.mpr ⟨fun z hz => by
          rcases (insU_mem x z l).mp hz with rfl | hz
          · omega
          · exact h1.1 z hz, insU_lt x l h1.2⟩
theorem sortU_lt : ∀ l : List Int, (sortU l).Pairwise (· < ·)
  | [] => List.Pairwise.nil
  | x :: l => insU_lt x _ (sortU_lt l)
theorem sortU_mem (k : Int) : ∀ l : List Int, k ∈ sortU l ↔ k ∈ l
  | [] => by simp [sortU]
  | x :: l => by
    unfold sortU
    rw [insU_mem, sortU_mem k l]
    simp
theorem lt_unique : ∀ a b : List Int, a.Pairwise (· < ·) → b.Pairwise (· < ·) → (∀ k, k ∈ a ↔ k ∈ b) → a = b
  | [], [], _, _, _ => rfl
  | [], y :: b, _, _, h => by simpa using (h y).mpr (by simp)
  | x :: a, [], _, _, h => by simpa using (h x).mp (by simp)
  | x :: a, y :: b, ha, hb, h => by
    have a1 := List.pairwise_cons.mp ha
    have b1 := List.pairwise_cons.mp hb
    have e : x = y := by
      rcases List.mem_cons.mp ((h x).mp (by simp)) with z | z
      · exact z
      · have z1 := b1.1 x z
        rcases List.mem_cons.mp ((h y).mpr (by simp)) with z2 | z2
        · exact z2.symm
        · have z3 := a1.1 y z2
          omega
    subst e
    congr 1
    refine lt_unique a b a1.2 b1.2 fun k => ⟨fun hk => ?_, fun hk => ?_⟩
    · rcases List.mem_cons.mp ((h k).mp (by simp [hk])) with z | z
      · have := a1.1 k hk; omega
      · exact z
    · rcases List.mem_cons.mp ((h k).mpr (by simp [hk])) with z | z
      · have := b1.1 k hk; omega
      · exact z
def fSortedSet (fa : DS → R D) : DS → R D := fun s => (fa s).bind fun d s1 => match lstV s1 d with
  | some ds => (match intsD ds with
    | some ns => if ns.length < 64 then .ok (.lst ((sortU ns).map .int)) s1 else .bad
    | none => .bad)
  | none => .bad
theorem ints_rd {ρ : List Addr} {F : Hp} : ∀ {ns : List Int} {vs : List V}, RdL K ρ F (ns.map .int) vs → vs = ns.map V.int
  | [], _, h => h
  | n :: ns, _, h => by
    simp only [List.map_cons, RdL] at h
    obtain ⟨v, r, rfl, h1, h2⟩ := h
    cases h1
    rw [ints_rd h2]
    rfl
theorem pd_sortedSet (hg : Gl X "sorted") (hm : X.mg "sorted" = none) (hg2 : Gl X "set") (hm2 : X.mg "set" = none) (ha : PD X W a fa) (hc : X.calm = true)
    (hs : starEach [a] X.env = (false, eval a X.env) :: starEach [] X.env := by rfl) : PD X W (.Call (.Name "sorted" p) [.Call (.Name "set" p2) [a] [] q] [] pos) (fSortedSet fa) := by
  obtain ⟨t, ea, l⟩ := ha
  refine ⟨_, pe_sortedSet hg hm hg2 hm2 ea hc hs, fun ρ F s σ H Q rl h => l ρ F s σ H _ rl (Post.bind h fun d s1 ρ1 F1 H1 v x1 rl1 rd1 h1 => ?_)⟩
  split at h1
  · rename_i ds q1
    split at h1
    · rename_i ns q2
      split at h1
      · rename_i hl
        obtain ⟨x, vs, rfl, hv, rv⟩ := lstV_rd rl1.mem rd1 q1
        have e := ints_eq q2
        subst e
        have e2 := ints_rd rv
        subst e2
        refine ⟨x, ns, rfl, .inl (.inl hv), hl, fun ms z h2 h3 hz => ?_⟩
        have em : ms = sortU ns := lt_unique ms _ h2 (sortU_lt ns) fun k => by rw [h3 k, sortU_mem]
        subst em
        exact Post.lst h1 rl1 (rdl_ints _) z hz
      · exact h1.elim
    · exact h1.elim
  · exact h1.elim
/-! ### i in range(..) -/
theorem op_notin_rng : OpR X (compareOp .NotIn) (fun x y H Q => ∃ i a lo hi, x = V.int i ∧ y = V.ref a ∧ H a = some (.rng lo hi) ∧ Q (.bl (!decide (lo ≤ i ∧ i < hi))) H) := by
  intro pins s σ H x y v u Q I rx ry h
  obtain ⟨i, a, lo, hi, rfl, rfl, ha, q⟩ := h
  obtain ⟨k, rfl⟩ := rx
  obtain rfl : u = Value.ref a := ry
  obtain ⟨t1, t2, t3, ho⟩ := I.hok a _ ha
  show wpAny _ _ (do return Value.bool (!(← contains (Value.ref a) (Value.int i k)))) _ _ s
  refine wpAny_bind (PySem.wpAny_contains_slot (T := "range") ⟨_, ho, rfl⟩ PySem.F.slot_range_contains (call_meets PySem.F.slot_range_contains ⟨_, ho, rfl⟩ PySem.F.entry_range_contains (PySem.F.args_range_contains_2 _ _) (q_contains a lo hi i t1 t2 t3 k) ⟨ho, wpAny_truthy_bool (wpAny_pure ⟨.bl _, H, I, rfl, ?_⟩)⟩))
  rw [place1]
  exact q
/-- range(j), a value -/
theorem cr_range1 : CallR X (.type "range") (fun vs H Q => ∃ j, vs = [V.int j] ∧ ∀ p, H p = none → Q (.ref p) (upd H p (.rng 0 j))) := by
  intro pins s σ H vs us Q I r h
  obtain ⟨j, rfl, q⟩ := h
  obtain ⟨u, rfl, rj⟩ := Vals.one r
  obtain ⟨t, rfl⟩ := rj
  refine call_range_1 ⟨.ref s.heap.objs.size, upd H s.heap.objs.size (.rng 0 j), I.laid (t' := s.toks + 1 + 1) (fun b o e => Heap.get?_push_of_some _ e) (Nat.le_refl _) ?_, rfl, q _ (I.hok.fresh (Nat.le_refl _))⟩
  exact ⟨s.toks, t, s.toks + 1, Heap.get?_push_size _ rfl⟩
/-- i in range(lo, hi) -/
noncomputable def fInRng (neg : Bool) (fa : DS → R D) (fb : DS → R (List D)) : DS → R D := fun s => (fa s).bind fun x s1 => (fb s1).bind fun ds s2 => match x, ds with
  | .int i, [.int hi] => .ok (.bl (if neg = true then !dcd (0 ≤ i ∧ i < hi) else dcd (0 ≤ i ∧ i < hi))) s2
  | .int i, [.int lo, .int hi] => .ok (.bl (if neg = true then !dcd (lo ≤ i ∧ i < hi) else dcd (lo ≤ i ∧ i < hi))) s2
  | _, _ => .bad
theorem MRel.waste {mg : Str → Option Value} {ρ : List Addr} {F H : Hp} {μ : List MO} {z : Addr} {o : HO} (m : MRel K mg ρ F μ H) (hz : H z = none) : MRel K mg ρ F μ (upd H z o) ∧ Ext ρ F H ρ F (upd H z o) :=
  ⟨m.other (m.notin hz) (m.sub.free hz), (Ext.refl ρ F H).bump hz⟩
theorem dec_dcd {c : Prop} [Decidable c] : decide c = dcd c := dcd_eq c
variable {fl : DS → R (List D)} {rest : List Expr}
theorem rng_run {ta : TE} {tb : TA} {neg : Bool} (la : Stl X W (Rd X.K) ta fa) (lb : Stl X W (RdL X.K) tb fl) {rr : List V → Hp → VK → Prop}
    (hr1 : ∀ (j : Int) (H : Hp) (Q : VK), (∀ z, H z = none → Q (.ref z) (upd H z (.rng 0 j))) → rr [.int j] H Q) (hr2 : ∀ (i j : Int) (H : Hp) (Q : VK), (∀ z, H z = none → Q (.ref z) (upd H z (.rng i j))) → rr [.int i, .int j] H Q) {ro : R2}
    (ho : ∀ (i lo hi : Int) (z : Addr) (H : Hp) (Q : VK), H z = some (.rng lo hi) → Q (.bl (if neg = true then !decide (lo ≤ i ∧ i < hi) else decide (lo ≤ i ∧ i < hi))) H → ro (.int i) (.ref z) H Q) :
    Stl X W (Rd X.K) (tOp ro ta (tCB rr tb)) (fInRng neg fa fl) := by
  intro ρ F s σ H Q rl h
  refine la ρ F s σ H _ rl (Post.bind h fun x s1 ρ1 F1 H1 v x1 rl1 rd1 h1 => ?_)
  refine lb ρ1 F1 s1 σ H1 _ rl1 (Post.bind h1 fun ds s2 ρ2 F2 H2 vs x2 rl2 rd2 h2 => ?_)
  split at h2
  · rename_i i hi
    obtain ⟨u, rfl, r1⟩ := rdl1 rd2
    cases r1
    cases (rd1 : v = .int i)
    refine hr1 hi H2 _ fun z hz => ho i 0 hi z _ _ upd_same ?_
    obtain ⟨m, x⟩ := MRel.waste (o := .rng 0 hi) rl2.mem hz
    refine h2 _ _ _ _ x ⟨m, rl2.slo⟩ ?_
    simp only [dec_dcd]
    rfl
  · rename_i i lo hi
    obtain ⟨u, w, rfl, r1, r2⟩ := rdl2 rd2
    cases r1
    cases r2
    cases (rd1 : v = .int i)
    refine hr2 lo hi H2 _ fun z hz => ho i lo hi z _ _ upd_same ?_
    obtain ⟨m, x⟩ := MRel.waste (o := .rng lo hi) rl2.mem hz
    refine h2 _ _ _ _ x ⟨m, rl2.slo⟩ ?_
    simp only [dec_dcd]
    rfl
  · exact h2.elim
theorem cr_rangeA : CallR X (.type "range") (fun vs H Q => (∃ j, vs = [V.int j] ∧ ∀ p, H p = none → Q (.ref p) (upd H p (.rng 0 j))) ∨ ∃ i j, vs = [V.int i, V.int j] ∧ ∀ p, H p = none → Q (.ref p) (upd H p (.rng i j))) := by
  intro pins s σ H vs us Q I r h
  rcases h with h | h
  · exact cr_range1 pins s σ H vs us Q I r h
  · exact cr_range2 pins s σ H vs us Q I r h
theorem pd_inRng (hg : Gl X "range") (hm : X.mg "range" = none) (ha : PD X W a fa) (hb : PDA X W (e :: rest) fl) (hbm : behindInMarks .In (.Call (.Name "range" p) (e :: rest) [] q) = false := by rfl)
    (he : starEach (e :: rest) X.env = (false, eval e X.env) :: starEach rest X.env := by rfl) (hpl : (backTo q (starEach rest X.env)).any (·.1) = false := by rfl) : PD X W (.Compare a [.In] [.Call (.Name "range" p) (e :: rest) [] q] pos) (fInRng false fa fl) := by
  obtain ⟨ta, ea, la⟩ := ha
  obtain ⟨tb, eb, lb⟩ := hb
  exact ⟨_, pe_cmpR op_in_rng ea (pe_callTy cr_rangeA hg hm (by decide +kernel) eb (by decide) (by decide) he hpl) hbm, rng_run la lb (fun j H Q h => .inl ⟨j, rfl, h⟩) (fun i j H Q h => .inr ⟨i, j, rfl, h⟩) fun i lo hi z H Q h q => ⟨i, z, lo, hi, rfl, rfl, h, q⟩⟩
theorem pd_notinRng (hg : Gl X "range") (hm : X.mg "range" = none) (ha : PD X W a fa) (hb : PDA X W (e :: rest) fl) (hbm : behindInMarks .NotIn (.Call (.Name "range" p) (e :: rest) [] q) = false := by rfl)
    (he : starEach (e :: rest) X.env = (false, eval e X.env) :: starEach rest X.env := by rfl) (hpl : (backTo q (starEach rest X.env)).any (·.1) = false := by rfl) : PD X W (.Compare a [.NotIn] [.Call (.Name "range" p) (e :: rest) [] q] pos) (fInRng true fa fl) := by
  obtain ⟨ta, ea, la⟩ := ha
  obtain ⟨tb, eb, lb⟩ := hb
  exact ⟨_, pe_cmpR op_notin_rng ea (pe_callTy cr_rangeA hg hm (by decide +kernel) eb (by decide) (by decide) he hpl) hbm, rng_run la lb (fun j H Q h => .inl ⟨j, rfl, h⟩) (fun i j H Q h => .inr ⟨i, j, rfl, h⟩) fun i lo hi z H Q h q => ⟨i, z, lo, hi, rfl, rfl, h, q⟩⟩
theorem pdt_inRng (hg : Gl X "range") (hm : X.mg "range" = none) (ha : PD X W a fa) (hb : PDA X W (e :: rest) fl) (hbm : behindInMarks .In (.Call (.Name "range" p) (e :: rest) [] q) = false := by rfl)
    (he : starEach (e :: rest) X.env = (false, eval e X.env) :: starEach rest X.env := by rfl) (hpl : (backTo q (starEach rest X.env)).any (·.1) = false := by rfl) : PDT X W (.Compare a [.In] [.Call (.Name "range" p) (e :: rest) [] q] pos) (fTst (fInRng false fa fl)) := by
  obtain ⟨ta, ea, la⟩ := ha
  obtain ⟨tb, eb, lb⟩ := hb
  exact ⟨_, pt_cmpR op_in_rng ea (pe_callTy cr_rangeA hg hm (by decide +kernel) eb (by decide) (by decide) he hpl) hbm, fun ρ F s σ H Q rl h => rng_run (neg := false) (ro := fun x y H Q => ∃ i a lo hi, x = V.int i ∧ y = V.ref a ∧ H a = some (.rng lo hi) ∧ Q (.bl (decide (lo ≤ i ∧ i < hi))) H) la lb (fun j H Q h => .inl ⟨j, rfl, h⟩) (fun i j H Q h => .inr ⟨i, j, rfl, h⟩) (fun i lo hi z H Q h q => ⟨i, z, lo, hi, rfl, rfl, h, q⟩) ρ F s σ H _ rl h.asB⟩
theorem pdt_notinRng (hg : Gl X "range") (hm : X.mg "range" = none) (ha : PD X W a fa) (hb : PDA X W (e :: rest) fl) (hbm : behindInMarks .NotIn (.Call (.Name "range" p) (e :: rest) [] q) = false := by rfl)
    (he : starEach (e :: rest) X.env = (false, eval e X.env) :: starEach rest X.env := by rfl) (hpl : (backTo q (starEach rest X.env)).any (·.1) = false := by rfl) : PDT X W (.Compare a [.NotIn] [.Call (.Name "range" p) (e :: rest) [] q] pos) (fTst (fInRng true fa fl)) := by
  obtain ⟨ta, ea, la⟩ := ha
  obtain ⟨tb, eb, lb⟩ := hb
  exact ⟨_, pt_cmpR op_notin_rng ea (pe_callTy cr_rangeA hg hm (by decide +kernel) eb (by decide) (by decide) he hpl) hbm, fun ρ F s σ H Q rl h => rng_run (neg := true) (ro := fun x y H Q => ∃ i a lo hi, x = V.int i ∧ y = V.ref a ∧ H a = some (.rng lo hi) ∧ Q (.bl (!decide (lo ≤ i ∧ i < hi))) H) la lb (fun j H Q h => .inl ⟨j, rfl, h⟩) (fun i j H Q h => .inr ⟨i, j, rfl, h⟩) (fun i lo hi z H Q h q => ⟨i, z, lo, hi, rfl, rfl, h, q⟩) ρ F s σ H _ rl h.asB⟩
/-! ### list.insert, list.pop(i) -/
noncomputable def gInsert : D → List D → DS → R D := fun o as s => match o, as with
  | .obj k, [.int i, y] => (match objL s k with
    | some ds => if Pr (ds.length < sizeLine ∧ 0 ≤ i ∧ i < 2 ^ 63) then .ok .non { s with m := s.m.set k (.lst (ds.take i.toNat ++ [y] ++ ds.drop i.toNat)) } else .bad
    | none => .bad)
  | _, _ => .bad
theorem md_insert : MtD X W (fun x vs H Q => ∃ (l : Addr) (xs : List V) (i : Int) (y : V), x = .ref l ∧ vs = [.int i, y] ∧ H l = some (.lst xs) ∧ xs.length < sizeLine ∧ 0 ≤ i ∧ i < 2 ^ 63 ∧ Q .non (upd H l (.lst (xs.take i.toNat ++ [y] ++ xs.drop i.toNat)))) gInsert := by
  intro ρ F s σ H x d vs ds Q rl r1 r2 h
  unfold gInsert at h
  split at h
  · rename_i k i y
    obtain ⟨u, v, rfl, r3, r4⟩ := rdl2 r2
    cases r3
    split at h
    · rename_i es e
      split at h
      · rename_i hc
        obtain ⟨h1, h2, h3⟩ := hc
        obtain ⟨a, rfl, ha, fa, us, hl, l⟩ := Rel.objAt rl.mem r1 (objL_eq e) trivial
        refine ⟨a, us, i, v, rfl, rfl, hl, by rw [l.length]; exact h1, h2, h3, ?_⟩
        obtain ⟨m, x⟩ := rl.mem.set (n := .lst (es.take i.toNat ++ [y] ++ es.drop i.toNat)) (o := .lst (us.take i.toNat ++ [v] ++ us.drop i.toNat)) ha (objL_eq e) trivial ⟨_, upd_same, ((l.take _).append (RdL.one r4)).append (l.drop _)⟩
        exact h _ _ _ _ x ⟨m, rl.slo.ext x⟩ rfl
      · exact h.elim
    · exact h.elim
  · exact h.elim
theorem RdL.erase {ρ : List Addr} {F : Hp} : ∀ {ds : List D} {vs : List V} (n : Nat), RdL K ρ F ds vs → RdL K ρ F (ds.eraseIdx n) (vs.eraseIdx n)
  | [], _, n, h => by
    simp only [RdL] at h
    subst h
    simp [RdL]
  | d :: ds, _, n, h => by
    simp only [RdL] at h
    obtain ⟨v, t, rfl, h1, h2⟩ := h
    cases n with
    | zero => exact h2
    | succ n => exact ⟨v, _, rfl, h1, RdL.erase n h2⟩
noncomputable def gPopAt : D → List D → DS → R D := fun o as s => match o, as with
  | .obj k, [.int i] => (match objL s k with
    | some ds => (match ixN ds.length i with
      | some n => (match ds[n]? with
        | some y => if Pr (ds.length ≤ sizeLine) then .ok y { s with m := s.m.set k (.lst (ds.eraseIdx n)) } else .bad
        | none => .bad)
      | none => .bad)
    | none => .bad)
  | _, _ => .bad
theorem md_popAt : MtD X W rPopAt gPopAt := by
  intro ρ F s σ H x d vs ds Q rl r1 r2 h
  unfold gPopAt at h
  split at h
  · rename_i k i
    obtain ⟨u, rfl, r3⟩ := rdl1 r2
    cases r3
    split at h
    · rename_i es e
      split at h
      · rename_i n hn
        split at h
        · rename_i y hy
          split at h
          · rename_i hc
            have hc' : es.length ≤ sizeLine := hc
            rw [sizeLine_eq] at hc'
            obtain ⟨a, rfl, ha, fa, us, hl, l⟩ := Rel.objAt rl.mem r1 (objL_eq e) trivial
            obtain ⟨v, hv, rv⟩ := l.get hy
            obtain ⟨q1, q2, q3, q4⟩ := ixN_seq hn
            refine ⟨a, us, i, n, v, rfl, rfl, hl, by omega, by omega, by rw [l.length]; exact q1, hv, ?_⟩
            obtain ⟨m, x⟩ := rl.mem.set (n := .lst (es.eraseIdx n)) (o := .lst (us.eraseIdx n)) ha (objL_eq e) trivial ⟨_, upd_same, RdL.erase n l⟩
            exact h _ _ _ _ x ⟨m, rl.slo.ext x⟩ (rv.ext x)
          · exact h.elim
        · exact h.elim
      · exact h.elim
    · exact h.elim
  · exact h.elim
/-! ### max, min -/
noncomputable def gMax : List D → DS → R D := fun ds s => match ds with
  | [.int i, .int j] => .ok (.int (if Pr (i < j) then j else i)) s
  | [d] => (match lsV s d with
    | some xs => (match intsD xs with
      | some (n :: ns) => .ok (.int (ns.foldl max n)) s
      | _ => .bad)
    | none => .bad)
  | _ => .bad
noncomputable def gMin : List D → DS → R D := fun ds s => match ds with
  | [.int i, .int j] => .ok (.int (if Pr (j < i) then j else i)) s
  | [d] => (match lsV s d with
    | some xs => (match intsD xs with
      | some (n :: ns) => .ok (.int (ns.foldl min n)) s
      | _ => .bad)
    | none => .bad)
  | _ => .bad
theorem foldl_max (m : Int) : ∀ (ns : List Int) (n : Int), m ∈ n :: ns → (∀ y ∈ n :: ns, y ≤ m) → ns.foldl max n = m
  | [], n, h, _ => by
    have e : m = n := by simpa using h
    exact e.symm
  | x :: ns, n, h, h2 => by
    have h1 := h2 n (by simp)
    have h3 := h2 x (by simp)
    refine foldl_max m ns (max n x) ?_ fun y hy => ?_
    · rcases List.mem_cons.mp h with rfl | h
      · exact List.mem_cons.mpr (.inl (by omega))
      · rcases List.mem_cons.mp h with rfl | h
        · exact List.mem_cons.mpr (.inl (by omega))
        · exact List.mem_cons.mpr (.inr h)
    · rcases List.mem_cons.mp hy with rfl | hy
      · omega
      · exact h2 y (by simp [hy])
theorem foldl_min (m : Int) : ∀ (ns : List Int) (n : Int), m ∈ n :: ns → (∀ y ∈ n :: ns, m ≤ y) → ns.foldl min n = m
  | [], n, h, _ => by
    have e : m = n := by simpa using h
    exact e.symm
  | x :: ns, n, h, h2 => by
    have h1 := h2 n (by simp)
    have h3 := h2 x (by simp)
    refine foldl_min m ns (min n x) ?_ fun y hy => ?_
    · rcases List.mem_cons.mp h with rfl | h
      · exact List.mem_cons.mpr (.inl (by omega))
      · rcases List.mem_cons.mp h with rfl | h
        · exact List.mem_cons.mpr (.inl (by omega))
        · exact List.mem_cons.mpr (.inr h)
    · rcases List.mem_cons.mp hy with rfl | hy
      · omega
      · exact h2 y (by simp [hy])
def rMaxA (K : PySem.W.Frag) : List V → Hp → VK → Prop := fun xs H Q => (∃ i j, xs = [.int i, .int j] ∧ Q (.int (if j > i then j else i)) H) ∨ rMax K xs H Q
def rMinA (K : PySem.W.Frag) : List V → Hp → VK → Prop := fun xs H Q => (∃ i j, xs = [.int i, .int j] ∧ Q (.int (if j < i then j else i)) H) ∨ rMin K xs H Q
theorem cr_maxA (hc : X.calm = true) : CallR X (.builtin "max") (rMaxA X.K) := fun pins s σ H xs us Q I r h => h.elim (call_max2 hc pins s σ H xs us Q I r) (cr_max hc pins s σ H xs us Q I r)
theorem cr_minA (hc : X.calm = true) : CallR X (.builtin "min") (rMinA X.K) := fun pins s σ H xs us Q I r h => h.elim (call_min2 hc pins s σ H xs us Q I r) (cr_min hc pins s σ H xs us Q I r)
theorem ifPr {c : Prop} [Decidable c] {α : Type} {x y : α} : (if Pr c then x else y) = if c then x else y := by
  by_cases h : c
  · rw [if_Pr h, if_pos h]
  · rw [if_nPr h, if_neg h]
theorem cd_max : CallD X W (rMaxA X.K) gMax := by
  intro ρ F s σ H ds vs Q rl r h
  unfold gMax at h
  split at h
  · rename_i i j
    obtain ⟨u, v, rfl, r1, r2⟩ := rdl2 r
    cases r1
    cases r2
    rw [ifPr] at h
    exact .inl ⟨i, j, rfl, h ρ F H _ (Ext.refl ..) rl rfl⟩
  · rename_i d _
    obtain ⟨v, rfl, r1⟩ := rdl1 r
    split at h
    · rename_i xs e
      split at h
      · rename_i n ns e2
        obtain ⟨a, us, rfl, q, l⟩ := lsV_rd rl.mem r1 e
        have := ints_eq e2
        subst this
        have := ints_rd l
        subst this
        refine .inr ⟨a, n :: ns, rfl, q, by simp, fun m h1 h2 => ?_⟩
        rw [← foldl_max m ns n h1 h2]
        exact h ρ F H _ (Ext.refl ..) rl rfl
      · exact h.elim
    · exact h.elim
  · exact h.elim
theorem cd_min : CallD X W (rMinA X.K) gMin := by
  intro ρ F s σ H ds vs Q rl r h
  unfold gMin at h
  split at h
  · rename_i i j
    obtain ⟨u, v, rfl, r1, r2⟩ := rdl2 r
    cases r1
    cases r2
    rw [ifPr] at h
    exact .inl ⟨i, j, rfl, h ρ F H _ (Ext.refl ..) rl rfl⟩
  · rename_i d _
    obtain ⟨v, rfl, r1⟩ := rdl1 r
    split at h
    · rename_i xs e
      split at h
      · rename_i n ns e2
        obtain ⟨a, us, rfl, q, l⟩ := lsV_rd rl.mem r1 e
        have := ints_eq e2
        subst this
        have := ints_rd l
        subst this
        refine .inr ⟨a, n :: ns, rfl, q, by simp, fun m h1 h2 => ?_⟩
        rw [← foldl_min m ns n h1 h2]
        exact h ρ F H _ (Ext.refl ..) rl rfl
      · exact h.elim
    · exact h.elim
  · exact h.elim
end
end DL

/-! min, max of alike data; list.index. -/
namespace DL
open PySem L2
section
variable {prog : Program} {w : World} {A : Around} {E : Value → Shared → Prop} {s : Shared}
/-- the place of the first of the least -/
def ltIx (xs : List PyData) : Nat := argBest (fun i j => PySem.W.dataLt (xs.getD i .none) (xs.getD j .none)) (xs.length - 1)
def gtIx (xs : List PyData) : Nat := argBest (fun i j => PySem.W.dataLt (xs.getD j .none) (xs.getD i .none)) (xs.length - 1)
theorem min_list_ix {l : Addr} {vs : Array Value} {xs : List PyData} {as : List Addr} {Q : Value → Shared → Prop} (hh : A.handled = none) (hl : s.heap.IsList l vs) (hr : ReadsAll s.heap vs.toList xs as) (ha : PySem.W.AlikeAll xs) (hu : A.units + 1 + PyData.depthAll xs < cLine) (h0 : 0 < xs.length)
    (h : ∀ v h' tk, vs[ltIx xs]? = some v → (∀ b o, s.heap.get? b = some o → h'.get? b = some o) → Q v { s with heap := h', toks := tk }) : wpAny (model prog w) A (call (.builtin "min") [.ref l]) Q E s := by
  have hn : vs.size = xs.length := PySem.W.readsAll_len hr
  refine call_min_walkH (PySem.W.iter_listW (A := A.in1) hh hl fun s₂ e W st hfp hw hk => ?_)
  refine ⟨_, _, _, _, _, _, _, s.heap, _, rfl, W, st, hfp, by omega, hw, hk, PySem.W.cmpIn_lt (A := A.in1) hr ha (by show A.units + 1 + _ < _; exact hu), fun v s' hP m => ?_⟩
  obtain ⟨h', tk, rfl, hk'⟩ := PySem.W.moved_old e rfl m
  rw [hn] at hP
  exact h v h' tk hP hk'
theorem max_list_ix {l : Addr} {vs : Array Value} {xs : List PyData} {as : List Addr} {Q : Value → Shared → Prop} (hh : A.handled = none) (hl : s.heap.IsList l vs) (hr : ReadsAll s.heap vs.toList xs as) (ha : PySem.W.AlikeAll xs) (hu : A.units + 1 + PyData.depthAll xs < cLine) (h0 : 0 < xs.length)
    (h : ∀ v h' tk, vs[gtIx xs]? = some v → (∀ b o, s.heap.get? b = some o → h'.get? b = some o) → Q v { s with heap := h', toks := tk }) : wpAny (model prog w) A (call (.builtin "max") [.ref l]) Q E s := by
  have hn : vs.size = xs.length := PySem.W.readsAll_len hr
  refine call_max_walkH (PySem.W.iter_listW (A := A.in1) hh hl fun s₂ e W st hfp hw hk => ?_)
  refine ⟨_, _, _, _, _, _, _, s.heap, _, rfl, W, st, hfp, by omega, hw, hk, PySem.W.cmpIn_gt (A := A.in1) hr ha (by show A.units + 1 + _ < _; exact hu), fun v s' hP m => ?_⟩
  obtain ⟨h', tk, rfl, hk'⟩ := PySem.W.moved_old e rfl m
  rw [hn] at hP
  exact h v h' tk hP hk'
theorem min_tup_ix {l : Addr} {vs : Array Value} {xs : List PyData} {as : List Addr} {Q : Value → Shared → Prop} (hh : A.handled = none) (hl : s.heap.IsTuple l vs) (hr : ReadsAll s.heap vs.toList xs as) (ha : PySem.W.AlikeAll xs) (hu : A.units + 1 + PyData.depthAll xs < cLine) (h0 : 0 < xs.length)
    (h : ∀ v h' tk, vs[ltIx xs]? = some v → (∀ b o, s.heap.get? b = some o → h'.get? b = some o) → Q v { s with heap := h', toks := tk }) : wpAny (model prog w) A (call (.builtin "min") [.ref l]) Q E s := by
  have hn : vs.size = xs.length := PySem.W.readsAll_len hr
  refine call_min_walkH (PySem.W.iter_tupleW (A := A.in1) hh hl fun s₂ e W st hfp hw hk => ?_)
  refine ⟨_, _, _, _, _, _, _, s.heap, _, rfl, W, st, hfp, by omega, hw, hk, PySem.W.cmpIn_lt (A := A.in1) hr ha (by show A.units + 1 + _ < _; exact hu), fun v s' hP m => ?_⟩
  obtain ⟨h', tk, rfl, hk'⟩ := PySem.W.moved_old e rfl m
  rw [hn] at hP
  exact h v h' tk hP hk'
theorem max_tup_ix {l : Addr} {vs : Array Value} {xs : List PyData} {as : List Addr} {Q : Value → Shared → Prop} (hh : A.handled = none) (hl : s.heap.IsTuple l vs) (hr : ReadsAll s.heap vs.toList xs as) (ha : PySem.W.AlikeAll xs) (hu : A.units + 1 + PyData.depthAll xs < cLine) (h0 : 0 < xs.length)
    (h : ∀ v h' tk, vs[gtIx xs]? = some v → (∀ b o, s.heap.get? b = some o → h'.get? b = some o) → Q v { s with heap := h', toks := tk }) : wpAny (model prog w) A (call (.builtin "max") [.ref l]) Q E s := by
  have hn : vs.size = xs.length := PySem.W.readsAll_len hr
  refine call_max_walkH (PySem.W.iter_tupleW (A := A.in1) hh hl fun s₂ e W st hfp hw hk => ?_)
  refine ⟨_, _, _, _, _, _, _, s.heap, _, rfl, W, st, hfp, by omega, hw, hk, PySem.W.cmpIn_gt (A := A.in1) hr ha (by show A.units + 1 + _ < _; exact hu), fun v s' hP m => ?_⟩
  obtain ⟨h', tk, rfl, hk'⟩ := PySem.W.moved_old e rfl m
  rw [hn] at hP
  exact h v h' tk hP hk'
end
/-! as data -/
/-- pairwise alike, none of them None -/
def alkL (ds : List D) : Bool := ds.all (fun x => ds.all (fun y => PySem.W.alike (toP x) (toP y)) && !isNonP (toP x))
theorem toPL_mem : ∀ {ds : List D} {p : PyData}, p ∈ toPL ds → ∃ d ∈ ds, p = toP d
  | [], _, h => by simp [toPL] at h
  | d :: ds, p, h => by
    simp only [toPL, List.mem_cons] at h
    rcases h with rfl | h
    · exact ⟨d, by simp, rfl⟩
    · obtain ⟨x, hx, e⟩ := toPL_mem h
      exact ⟨x, by simp [hx], e⟩
theorem alkL_ok {ds : List D} (h : alkL ds = true) : PySem.W.AlikeAll (toPL ds) := by
  unfold alkL at h
  rw [List.all_eq_true] at h
  refine ⟨fun x hx y hy => ?_, fun x hx => ?_⟩
  · obtain ⟨a, ha, rfl⟩ := toPL_mem hx
    obtain ⟨b, hb, rfl⟩ := toPL_mem hy
    have := h a ha
    rw [Bool.and_eq_true, List.all_eq_true] at this
    exact this.1 b hb
  · obtain ⟨a, ha, rfl⟩ := toPL_mem hx
    have := h a ha
    rw [Bool.and_eq_true] at this
    intro z
    rw [z] at this
    exact absurd this.2 (by simp [isNonP])
theorem toPL_len : ∀ ds : List D, (toPL ds).length = ds.length
  | [] => rfl
  | d :: ds => by simp only [toPL, List.length_cons, toPL_len ds]
theorem argBest_le (bt : Nat → Nat → Bool) : ∀ k, argBest bt k ≤ k
  | 0 => Nat.le_refl _
  | k + 1 => by
    unfold argBest
    split
    · exact Nat.le_refl _
    · exact Nat.le_succ_of_le (argBest_le bt k)
noncomputable def gMinD : List D → DS → R D := fun ds s => match ds with
  | [d] => (match seqV s d with
    | some xs => if okL 60 xs = true ∧ alkL xs = true then (match xs[ltIx (toPL xs)]? with
      | some x => .ok x s
      | none => .bad) else .bad
    | none => .bad)
  | _ => .bad
noncomputable def gMaxD : List D → DS → R D := fun ds s => match ds with
  | [d] => (match seqV s d with
    | some xs => if okL 60 xs = true ∧ alkL xs = true then (match xs[gtIx (toPL xs)]? with
      | some x => .ok x s
      | none => .bad) else .bad
    | none => .bad)
  | _ => .bad
section
variable {X : Cx} {W : WX}
def rBest (K : PySem.W.Frag) (f : List PyData → Nat) : List V → Hp → VK → Prop := fun vs H Q => ∃ (a : Addr) (xs : List V) (ps : List PyData) (v : V), vs = [.ref a] ∧ (SqL K H a xs ∨ SqT K H a xs) ∧ DpAll K H xs ps ∧ PySem.W.AlikeAll ps ∧ PyData.depthAll ps ≤ 60 ∧ xs[f ps]? = some v ∧ Q v H
theorem best_ok {f : List PyData → Nat} {idn : String} (hc : X.calm = true) (hu : X.A.units + 64 < cLine)
    (h1 : ∀ {s : Shared} {l : Addr} {vs : Array Value} {xs : List PyData} {as : List Addr} {Q : Value → Shared → Prop}, X.A.handled = none → s.heap.IsList l vs → ReadsAll s.heap vs.toList xs as → PySem.W.AlikeAll xs → X.A.units + 1 + PyData.depthAll xs < cLine → 0 < xs.length → (∀ v h' tk, vs[f xs]? = some v → (∀ b o, s.heap.get? b = some o → h'.get? b = some o) → Q v { s with heap := h', toks := tk }) → wpAny (model X.prog X.w) X.A (call (.builtin idn) [.ref l]) Q X.xe s)
    (h2 : ∀ {s : Shared} {l : Addr} {vs : Array Value} {xs : List PyData} {as : List Addr} {Q : Value → Shared → Prop}, X.A.handled = none → s.heap.IsTuple l vs → ReadsAll s.heap vs.toList xs as → PySem.W.AlikeAll xs → X.A.units + 1 + PyData.depthAll xs < cLine → 0 < xs.length → (∀ v h' tk, vs[f xs]? = some v → (∀ b o, s.heap.get? b = some o → h'.get? b = some o) → Q v { s with heap := h', toks := tk }) → wpAny (model X.prog X.w) X.A (call (.builtin idn) [.ref l]) Q X.xe s) :
    CallR X (.builtin idn) (rBest X.K f) := by
  intro pins s σ H vs us Q I r h
  obtain ⟨a, xs, ps, v, rfl, hs, hd, ha, hz, hv, q⟩ := h
  rw [Vals.ref1 r]
  have fin : ∀ (its : List Value), Vals xs its → ∀ u h' tk, its.toArray[f ps]? = some u → (∀ b o, s.heap.get? b = some o → h'.get? b = some o) → EP X pins σ Q u { s with heap := h', toks := tk } := fun its rv u h' tk hu' hk => by
    obtain ⟨u2, e2, ru⟩ := rv.get hv
    have : u = u2 := by
      rw [List.getElem?_toArray, e2] at hu'
      exact (Option.some.inj hu').symm
    subst this
    exact ⟨v, H, I.kept hk, ru, q⟩
  have len : ∀ (its : List Value), Vals xs its → ∀ as, ReadsAll s.heap its.toArray.toList ps as → 0 < ps.length := fun its rv as hr => by
    have e1 := PySem.W.readsAll_len hr
    have e2 := (List.getElem?_eq_some_iff.mp hv).1
    rw [List.size_toArray, ← rv.length] at e1
    omega
  rcases hs with hs | hs
  · obtain ⟨its, rv, hl, _⟩ := I.list hs
    obtain ⟨as, hr⟩ := Dp.readsAll I ps xs its hd rv
    exact h1 (I.ok.hd hc) hl.isList (by simpa using hr) ha (by omega) (len its rv as (by simpa using hr)) (fin its rv)
  · obtain ⟨its, rv, hl, _⟩ := I.tuple hs
    obtain ⟨as, hr⟩ := Dp.readsAll I ps xs its hd rv
    exact h2 (I.ok.hd hc) hl (by simpa using hr) ha (by omega) (len its rv as (by simpa using hr)) (fin its rv)
theorem cr_minD (hc : X.calm = true) (hu : X.A.units + 64 < cLine) : CallR X (.builtin "min") (rBest X.K ltIx) := best_ok hc hu (fun a b c d e f g => min_list_ix a b c d e f g) (fun a b c d e f g => min_tup_ix a b c d e f g)
theorem cr_maxD (hc : X.calm = true) (hu : X.A.units + 64 < cLine) : CallR X (.builtin "max") (rBest X.K gtIx) := best_ok hc hu (fun a b c d e f g => max_list_ix a b c d e f g) (fun a b c d e f g => max_tup_ix a b c d e f g)
theorem best_run {f : List PyData → Nat} {ρ : List Addr} {F : Hp} {s : DS} {σ : L2.St} {H : Hp} {d : D} {vs : List V} {Q : VK} (rl : Rel X.K X.mg ρ F s σ H) (r : RdL X.K ρ F [d] vs) {xs : List D} (e : seqV s d = some xs) (h1 : okL 60 xs = true) (h2 : alkL xs = true) {x : D} (hx : xs[f (toPL xs)]? = some x)
    (h : Post X W (Rd X.K) ρ F H σ Q (.ok x s)) : rBest X.K f vs H Q := by
  obtain ⟨v, rfl, r1⟩ := rdl1 r
  obtain ⟨a, us, rfl, hq, l⟩ := seqV_rd rl.mem r1 e
  obtain ⟨u, hu, ru⟩ := l.get hx
  exact ⟨a, us, toPL xs, u, rfl, hq, RdL.dp rl.mem.sub 60 xs us h1 l, alkL_ok h2, (okL_lay 60 xs h1).2, hu, h ρ F H _ (Ext.refl ..) rl ru⟩
theorem cd_minD : CallD X W (rBest X.K ltIx) gMinD := by
  intro ρ F s σ H ds vs Q rl r h
  unfold gMinD at h
  split at h
  · split at h
    · rename_i xs e
      split at h
      · rename_i hc
        split at h
        · rename_i x hx
          exact best_run rl r e hc.1 hc.2 hx h
        · exact h.elim
      · exact h.elim
    · exact h.elim
  · exact h.elim
theorem cd_maxD : CallD X W (rBest X.K gtIx) gMaxD := by
  intro ρ F s σ H ds vs Q rl r h
  unfold gMaxD at h
  split at h
  · split at h
    · rename_i xs e
      split at h
      · rename_i hc
        split at h
        · rename_i x hx
          exact best_run rl r e hc.1 hc.2 hx h
        · exact h.elim
      · exact h.elim
    · exact h.elim
  · exact h.elim
/-! ### xs.index(y) -/
noncomputable def ixD (y : D) (ds : List D) : Option Nat := ds.findIdx? fun x => eqD x y
end
end DL

/-! while; list(range(n)); list.index. -/
namespace DL
open PySem L2
/-- n turns at most -/
def whileN (c : DS → R Bool) (b : DS → R Fl) : Nat → DS → R Fl
  | 0, _ => .bad
  | n + 1, s => match c s with
    | .ok true s1 => (match b s1 with
      | .ok .nx s2 => whileN c b n s2
      | .ok .ct s2 => whileN c b n s2
      | .ok .bk s2 => .ok .nx s2
      | r => r)
    | .ok false s1 => .ok .nx s1
    | .ex e s1 => .ex e s1
    | .bad => .bad
section
variable {X : Cx} {W : WX}
theorem pds_while {n : Nat} {c : Expr} {b : List Stmt} {fc : DS → R Bool} {fb : DS → R Fl} {pos : Pos} (hp : PassesOwn (model X.prog X.w) X.A X.env X.xe) (hc : PDT X W c fc) (hb : PDss X W b fb) : PDs X W (.While c b [] pos) (whileN fc fb n) := by
  obtain ⟨t, e1, l⟩ := hc
  obtain ⟨tb, eb, lb⟩ := hb
  refine ⟨_, ps_while hp e1 eb, fun ρ F s σ H E rl h => ?_⟩
  refine ⟨fun m σ' H' => ∃ ρ2 F2 s2, Ext ρ F H ρ2 F2 H' ∧ Rel X.K X.mg ρ2 F2 s2 σ' H' ∧ PostS X W ρ2 F2 H' E (whileN fc fb m s2), ⟨n, ρ, F, s, Ext.refl .., rl, h⟩, ?_⟩
  rintro m σ2 H2 ⟨ρ2, F2, s2, x2, rl2, h2⟩
  cases m with
  | zero => exact h2.elim
  | succ m =>
    unfold whileN at h2
    refine l ρ2 F2 s2 σ2 H2 _ rl2 ?_
    cases q : fc s2 with
    | bad => rw [q] at h2; exact h2
    | ex e s3 => rw [q] at h2; exact fun ρ' F' H' cls d x rl' er => h2 ρ' F' H' σ2 cls d x rl' er
    | ok v s3 =>
      rw [q] at h2
      intro ρ3 F3 H3 v' x3 rl3 hv
      subst hv
      cases v' with
      | false =>
        rw [if_neg Bool.false_ne_true]
        exact h2 ρ3 F3 H3 σ2 x3 rl3
      | true =>
        rw [if_pos rfl]
        refine ⟨fun σ4 H4 => ∃ ρ4 F4 s4, Ext ρ F H ρ4 F4 H4 ∧ Rel X.K X.mg ρ4 F4 s4 σ4 H4 ∧ PostS X W ρ4 F4 H4 E (whileN fc fb m s4), fun σ4 H4 z => ⟨m, Nat.lt_succ_self _, z⟩, ?_⟩
        refine lb ρ3 F3 s3 σ2 H3 _ rl3 ?_
        have x23 := x2.trans x3
        cases q3 : fb s3 with
        | bad => simp only [q3] at h2; exact h2
        | ex e s5 => simp only [q3] at h2; exact fun ρ5 F5 H5 σ5 cls d x5 => h2 ρ5 F5 H5 σ5 cls d (x3.trans x5)
        | ok fl s5 =>
          simp only [q3] at h2
          cases fl with
          | nx => exact fun ρ5 F5 H5 σ5 x5 rl5 => ⟨ρ5, F5, s5, x23.trans x5, rl5, PostS.ext h2 (x3.trans x5)⟩
          | ct => exact fun ρ5 F5 H5 σ5 x5 rl5 => ⟨ρ5, F5, s5, x23.trans x5, rl5, PostS.ext h2 (x3.trans x5)⟩
          | bk => exact fun ρ5 F5 H5 σ5 x5 rl5 => h2 ρ5 F5 H5 σ5 (x3.trans x5) rl5
          | rt d => exact fun ρ5 F5 H5 v x5 => h2 ρ5 F5 H5 v (x3.trans x5)
/-! ### list(range(n)) -/
noncomputable def fLstRg1 (f : DS → R D) : DS → R D := fun s => (f s).bind fun d s1 => match d with
  | .int n => if Pr (-(2 ^ 62) ≤ n ∧ n ≤ 2 ^ 24) then .ok (.lst (rngD 0 n.toNat)) s1 else .bad
  | _ => .bad
theorem rdl_rgV {K : PySem.W.Frag} {ρ : List Addr} {F : Hp} {i : Int} : ∀ n : Nat, RdL K ρ F (rngD i n) ((List.range n).map fun k => V.int (i + (k : Nat))) := fun n => by
  unfold rngD
  generalize List.range n = l
  induction l with
  | nil => rfl
  | cons m l ih => exact ⟨_, _, rfl, rfl, ih⟩
theorem pd_listRg1 {a : Expr} {f : DS → R D} {p pos p2 pos2 : Pos} (hc : X.calm = true) (hgl : Gl X "list") (hml : X.mg "list" = none) (hg : Gl X "range") (hm : X.mg "range" = none) (ha : PD X W a f)
    (na : starEach [a] X.env = (false, eval a X.env) :: starEach [] X.env := by rfl)
    (nb : starEach [.Call (.Name "range" p2) [a] [] pos2] X.env = (false, eval (.Call (.Name "range" p2) [a] [] pos2) X.env) :: starEach [] X.env := by rfl) :
    PD X W (.Call (.Name "list" p) [.Call (.Name "range" p2) [a] [] pos2] [] pos) (fLstRg1 f) := by
  obtain ⟨t, e1, l⟩ := ha
  refine ⟨_, pe_listRg hc hgl hml (prg_1 hg hm e1 na) nb, fun ρ F s σ H Q rl h => l ρ F s σ H _ rl (h.bind fun d s1 ρ1 F1 H1 v x1 rl1 rd1 h1 => ?_)⟩
  split at h1
  · rename_i n
    split at h1
    · rename_i hc
      cases rd1
      have e : (n - 0).toNat = n.toNat := by omega
      have h2 : n ≤ 16777216 := hc.2
      refine ⟨n, rfl, ⟨by omega, by omega, hc.1, by omega, by omega⟩, ?_⟩
      show ∀ q, H1 q = none → Q (.ref q) (upd H1 q (.lst ((List.range (n - 0).toNat).map fun i => V.int (0 + (i : Nat)))))
      rw [e]
      exact Post.lst h1 rl1 (rdl_rgV _)
    · exact h1.elim
  · exact h1.elim
end
end DL

/-! a new list from [..] * n; list.index. -/
namespace DL
open PySem L2
theorem room65 {k : Nat} {A : Around} (r : Room k A) : A.units + 65 < cLine := by have := r.un; omega
/-- a comprehension's scope as its own def has it -/
def relS (sc0 sd : Scope) : Scope := { sc0 with names := sc0.names.map fun (n, k) => if (k == .free && sd.kind == .function && sd.names.lookup n == some .cell) then (n, .cell) else (n, k) }
/-- a comprehension in a comprehension -/
theorem blkOk_in {N : List Str} {own : List (Str × Nat)} {scope sc0 : Scope} {env : Env} {sd : Scope} (he : env.scope = sd) (h : blkC N (relS sc0 sd) scope own = true) : BlkOk N (relabel sc0 env) scope own := by
  subst he
  exact blkOk_by h
section
variable {X : Cx} {W : WX}
noncomputable def gMulN : D → D → DS → R D := fun x y s => match y with
  | .int k => (match lstV s x with
    | some xs => if Pr (-(2 ^ 63) ≤ k ∧ k < 2 ^ 63 ∧ xs.length * k.toNat ≤ sizeLine) then .ok (.obj s.m.length) { s with m := s.m ++ [.lst (List.replicate k.toNat xs).flatten] } else .bad
    | none => .bad)
  | _ => .bad
theorem opd_mulN : OpD X W (rMulA X.K) gMulN := by
  intro ρ F s σ H x y v u Q rl r1 r2 h
  unfold gMulN at h
  split at h
  · rename_i k
    split at h
    · rename_i xs e1
      obtain ⟨a, vs, rfl, q1, l1⟩ := lstV_rd rl.mem r1 e1
      split at h
      · rename_i hc
        exact .inl (.inl (.inl (.inr ⟨a, _, vs, rfl, r2, q1, hc.1, hc.2.1, by rw [l1.length]; exact hc.2.2, Post.new h rl (l1.rep _)⟩)))
      · exact h.elim
    · exact h.elim
  · exact h.elim
theorem okL_at {n : Nat} : ∀ {ds : List D} {j : Nat} {d : D}, okL n ds = true → ds[j]? = some d → okD n d = true
  | [], _, _, _, e => by simp at e
  | x :: xs, 0, d, h, e => by
    simp at e
    subst e
    simp only [okL, Bool.and_eq_true] at h
    exact h.1
  | x :: xs, j + 1, d, h, e => by
    simp at e
    simp only [okL, Bool.and_eq_true] at h
    exact okL_at h.2 e
theorem toPL_at : ∀ {ds : List D} {j : Nat} {p : PyData}, (toPL ds)[j]? = some p → ∃ d, ds[j]? = some d ∧ p = toP d
  | [], _, _, e => by simp [toPL] at e
  | x :: xs, 0, p, e => by
    simp [toPL] at e
    exact ⟨x, rfl, e.symm⟩
  | x :: xs, j + 1, p, e => by
    simp [toPL] at e
    obtain ⟨d, h1, h2⟩ := toPL_at e
    exact ⟨d, by simpa using h1, h2⟩
/-- the place of the first equal one -/
noncomputable def ixF (y : D) : List D → Option Nat
  | [] => none
  | x :: xs => if eqD x y = true then some 0 else (ixF y xs).map (· + 1)
theorem ixF_spec {y : D} : ∀ {xs : List D} {j : Nat}, ixF y xs = some j → (∃ z, xs[j]? = some z ∧ eqD z y = true) ∧ ∀ m z', m < j → xs[m]? = some z' → eqD z' y = false
  | [], j, h => by simp [ixF] at h
  | x :: xs, j, h => by
    unfold ixF at h
    split at h
    · rename_i hq
      cases h
      exact ⟨⟨x, rfl, hq⟩, fun m z' hm => absurd hm (Nat.not_lt_zero _)⟩
    · rename_i hq
      cases q : ixF y xs with
      | none => rw [q] at h; cases h
      | some i =>
        rw [q] at h
        cases h
        obtain ⟨⟨z, h1, h2⟩, h3⟩ := ixF_spec q
        refine ⟨⟨z, by simpa using h1, h2⟩, fun m z' hm e => ?_⟩
        cases m with
        | zero =>
          simp at e
          subst e
          exact Bool.eq_false_iff.mpr hq
        | succ m =>
          simp at e
          exact h3 m z' (Nat.lt_of_succ_lt_succ hm) e
noncomputable def gIndex : D → List D → DS → R D := fun o as s => match as with
  | [y] => (match vw s o with
    | .lst xs => if okL 63 xs = true ∧ okD 64 (vw s y) = true then (match ixF (vw s y) xs with
      | some j => .ok (.int ((j : Nat) : Int)) s
      | none => .bad) else .bad
    | _ => .bad)
  | _ => .bad
theorem md_index : MtD X W (rIndexD X.K) gIndex := by
  intro ρ F s σ H x d vs ds Q rl r1 r2 h
  unfold gIndex at h
  split at h
  · rename_i y
    obtain ⟨u, rfl, r3⟩ := rdl1 r2
    split at h
    · rename_i xs e
      split at h
      · rename_i hc
        split at h
        · rename_i j hj
          have h64 : okD 64 (vw s d) = true := by rw [e]; exact hc.1
          have d1 := vw_dp rl.mem h64 r1
          have d2 := vw_dp rl.mem hc.2 r3
          have hs := okD_shaped h64 (Nat.le_refl _)
          rw [e] at d1 hs
          obtain ⟨⟨z, hz, hzq⟩, hno⟩ := ixF_spec hj
          have hz' : (toPL xs)[j]? = some (toP z) := by
            cases q : (toPL xs)[j]? with
            | none =>
              rw [List.getElem?_eq_none_iff, toPL_len] at q
              have := (List.getElem?_eq_some_iff.mp hz).1
              omega
            | some p =>
              obtain ⟨d', e1, e2⟩ := toPL_at q
              rw [hz] at e1
              cases e1
              rw [e2]
          have ha : ∃ a, x = .ref a := by
            cases d1 with
            | lst hs ha => exact ⟨_, rfl⟩
          obtain ⟨a, rfl⟩ := ha
          refine ⟨a, u, _, toPL xs, j, toP z, rfl, rfl, d1, d2, hs, okD_shaped hc.2 (Nat.le_refl _), hz', ?_, fun m z' hm e' => ?_, h ρ F H _ (Ext.refl ..) rl rfl⟩
          · rw [eqD_eqv 63 64 _ _ (okL_at hc.1 hz) hc.2]
            exact hzq
          · obtain ⟨d', e1, rfl⟩ := toPL_at e'
            rw [eqD_eqv 63 64 _ _ (okL_at hc.1 e1) hc.2]
            exact hno m d' hm e1
        · exact h.elim
      · exact h.elim
    · exact h.elim
  · exact h.elim
end
end DL

/-! enumerate(zip(a, b)), a and b tuples. -/
namespace DL
open PySem L2 PySem.Spec PyProof.Rows RZ
section
variable {prog : Program} {w : World} {A : Around} {E : Value → Shared → Prop} {s : Shared}
/-- a zip, whatever it knows of the tuple it gave out last -/
abbrev ZipU (h : Heap) (zp tI tO : Addr) (f : Value) (b : Bool) : Prop :=
  h.get? zp = some { cls := .type "zip", dict := none, data := .fields #[f, .bool b, .bool false, .ref tI, .ref tO], slots := #[] }
def ZipF (f : Value) : Prop := f = .none ∨ ∃ T : Nat, f = rawInt ((T : Nat) : Int)
theorem alive_any {a : Addr} {Q : Option Obj → Shared → Prop} (h : Q (s.heap.get? a) s) : wpAny (model prog w) A (loadIfAlive a) Q E s := fun _ _ _ => h
theorem zu_free {zp tI tO : Addr} {f : Value} {b : Bool} {Q : Bool → Shared → Prop} (gz : ZipU s.heap zp tI tO f b) (hf : ZipF f) (ht : Q true s)
    (hn : ∀ h', ZipU h' zp tI tO f true → Heap.SameBut zp s.heap h' → Q false { s with heap := h' }) : wpAny (model prog w) A (Builtin.SmallTypes.ownedTupleIsFree (.ref zp)) Q E s := by
  unfold Builtin.SmallTypes.ownedTupleIsFree; rcases hf with rfl | ⟨T, rfl⟩
  · exact wpAny_bind (wpAny_field gz rfl (x := .none) rfl (wpAny_pure ht))
  · refine wpAny_bind (wpAny_field gz rfl (x := rawInt ((T : Nat) : Int)) rfl ?_)
    show wpAny _ _ (loadIfAlive (((T : Nat) : Int).toNat) >>= _) _ _ _; rw [Int.toNat_natCast]
    refine wpAny_bind (alive_any ?_)
    cases s.heap.get? T with
    | none => simp only [Option.isNone_none, if_true]; exact wpAny_pure ht
    | some o =>
      simp only [Option.isNone_some, Bool.false_eq_true, if_false]; refine wpAny_bind (wpAny_field gz rfl (x := .bool b) rfl ?_)
      cases b with
      | true => rw [if_neg (show ¬ ((Value.bool true != Value.bool true) = true) from Bool.false_ne_true)]; exact wpAny_pure (hn s.heap gz (Heap.SameBut.refl _ _))
      | false => rw [if_pos (show (Value.bool false != Value.bool true) = true from rfl)]; exact wpAny_bind (wpAny_setField_rec gz (by simp) fun h' gz' sb => wpAny_pure (hn h' gz' sb))
/-- the next pair -/
theorem zu_item {zp tI tO j1 j2 m1 m2 : Addr} {n1 n2 : Nat} {xs ys : Array Value} {x y a b f : Value} {fb : Bool} {Q : Value → Shared → Prop} (S : ZipApart zp tI tO j1 j2 m1 m2)
    (gz : ZipU s.heap zp tI tO f fb) (hf : ZipF f) (gI : IsPair s.heap tI (.ref j1) (.ref j2)) (gO : IsPair s.heap tO a b) (q1 : s.heap.IsTupleIter j1 m1 n1) (q2 : s.heap.IsTupleIter j2 m2 n2)
    (t1 : s.heap.IsTuple m1 xs) (t2 : s.heap.IsTuple m2 ys) (ex : xs[n1]? = some x) (ey : ys[n2]? = some y)
    (hQ : ∀ h' a' b' f' fb', ZipF f' → ZipU h' zp tI tO f' fb' → IsPair h' tO a' b' → h'.IsTupleIter j1 m1 (n1 + 1) → h'.IsTupleIter j2 m2 (n2 + 1) → IsPair h' s.heap.objs.size x y → h'.objs.size = s.heap.objs.size + 1 →
      (∀ c o, c ≠ zp → c ≠ tO → c ≠ j1 → c ≠ j2 → s.heap.get? c = some o → h'.get? c = some o) → Q (.ref s.heap.objs.size) { s with heap := h' }) :
    wpAny (model prog w) A (Builtin.«zip.__next__» ⟨[.ref zp], []⟩) (fun fin s' => ∃ v, fin = .done (.ret v) ∧ Q v s') E s := by
  show wpAny _ _ (field (.ref zp) 2 >>= _) _ _ _; refine wpAny_bind (wpAny_field gz rfl (x := .bool false) rfl ?_)
  show wpAny _ _ (field (.ref zp) 3 >>= _) _ _ _; refine wpAny_bind (wpAny_field gz rfl (x := .ref tI) rfl ?_)
  refine wpAny_bind (wpAny_seqItems gI rfl ?_); show wpAny _ _ (Builtin.SmallTypes.ownedTupleIsFree (.ref zp) >>= _) _ _ _
  refine wpAny_bind (zu_free gz hf ?_ fun g1 gz1 s1 => ?_)
  · simp only [if_true]; refine wpAny_bind (wpAny_rule ?_); refine wpAny_bind (wpAny_field gz rfl (x := .ref tO) rfl ?_)
    refine wpAny_bind (wpAny_setField_rec gz (by simp) fun g1 gz1 s1 => ?_)
    replace gz1 : ZipU g1 zp tI tO .ellipsis fb := gz1
    refine wpAny_bind ?_; simp only [List.zipIdx_cons, List.zipIdx_nil, List.forIn_cons, List.forIn_nil]; refine wpAny_bind (wpAny_bind (wpAny_onRaise ?_))
    show wpAny _ _ (Builtin.SmallTypes.nextOf (.ref j1) >>= _) _ _ _
    refine wpAny_bind (nextOf_tuple_item (q1.extBut s1.extBut S.i1z) (t1.extBut s1.extBut S.l1z) ex fun g2 q12 s2 => wpAny_pure ?_)
    have gO2 : IsPair g2 tO a b := s2.extBut _ _ S.TOi1 (s1.extBut _ _ S.TOz gO)
    refine wpAny_bind (wpAny_seqItems gO2 rfl ?_); refine wpAny_bind (wpAny_updateSeq_pair gO2 fun g3 gO3 s3 => ?_)
    replace gO3 : IsPair g3 tO x b := gO3
    refine wpAny_bind (wpAny_letGo (wpAny_pure ?_)); refine wpAny_bind (wpAny_bind (wpAny_onRaise ?_))
    show wpAny _ _ (Builtin.SmallTypes.nextOf (.ref j2) >>= _) _ _ _
    refine wpAny_bind (nextOf_tuple_item (((q2.extBut s1.extBut S.i2z).extBut s2.extBut S.i12.symm).extBut s3.extBut S.TOi2.symm) (((t2.extBut s1.extBut S.l2z).extBut s2.extBut S.l2i1).extBut s3.extBut S.l2TO) ey fun g4 q24 s4 => wpAny_pure ?_)
    have gO4 : IsPair g4 tO x b := s4.extBut _ _ S.TOi2 gO3
    refine wpAny_bind (wpAny_seqItems gO4 rfl ?_); refine wpAny_bind (wpAny_updateSeq_pair gO4 fun g5 gO5 s5 => ?_)
    replace gO5 : IsPair g5 tO x y := gO5
    refine wpAny_bind (wpAny_letGo (wpAny_pure (wpAny_pure ?_))); refine wpAny_bind (wpAny_seqItems gO5 rfl ?_); refine wpAny_bind (wpAny_newTuple ?_)
    have sz : g5.objs.size = s.heap.objs.size := by rw [s5.1, s4.1, s3.1, s2.1, s1.1]
    have gz5 : ZipU g5 zp tI tO .ellipsis fb := s5.extBut _ _ S.TOz.symm (s4.extBut _ _ S.i2z.symm (s3.extBut _ _ S.TOz.symm (s2.extBut _ _ S.i1z.symm gz1)))
    have k5 : ∀ c o, c ≠ zp → c ≠ tO → c ≠ j1 → c ≠ j2 → s.heap.get? c = some o → g5.get? c = some o := fun c o c1 c2 c3 c4 e => s5.extBut _ _ c2 (s4.extBut _ _ c4 (s3.extBut _ _ c2 (s2.extBut _ _ c3 (s1.extBut _ _ c1 e))))
    have q15 : g5.IsTupleIter j1 m1 (n1 + 1) := ((q12.extBut s3.extBut S.TOi1.symm).extBut s4.extBut S.i12).extBut s5.extBut S.TOi1.symm
    have q25 : g5.IsTupleIter j2 m2 (n2 + 1) := q24.extBut s5.extBut S.TOi2.symm
    have zlt : zp < g5.objs.size := Heap.lt_size gz5
    show wpAny _ _ (Builtin.SmallTypes.ownedTupleHandOut (.ref zp) (.ref g5.objs.size) >>= _) _ _ _
    refine wpAny_bind ?_; unfold Builtin.SmallTypes.ownedTupleHandOut
    have gz6 : ZipU (g5.push { cls := .type "tuple", data := .seq #[x, y] }) zp tI tO .ellipsis fb := Heap.get?_push_of_some _ gz5
    refine wpAny_bind (wpAny_setField_rec gz6 (by simp) fun g7 gz7 s7 => ?_)
    replace gz7 : ZipU g7 zp tI tO (rawInt g5.objs.size) fb := gz7
    refine wpAny_setField_rec gz7 (by simp) fun g8 gz8 s8 => ?_
    replace gz8 : ZipU g8 zp tI tO (rawInt g5.objs.size) false := gz8
    have up : ∀ c o, c ≠ zp → g5.get? c = some o → g8.get? c = some o := fun c o c1 e => s8.extBut _ _ c1 (s7.extBut _ _ c1 (Heap.get?_push_of_some _ e))
    have gT8 : IsPair g8 g5.objs.size x y := s8.extBut _ _ (Nat.ne_of_gt zlt) (s7.extBut _ _ (Nat.ne_of_gt zlt) (Heap.get?_push_size _ rfl))
    have sz8 : g8.objs.size = g5.objs.size + 1 := by rw [s8.1, s7.1, Heap.size_push]
    rw [sz] at gz8 gT8 sz8
    refine wpAny_pure ⟨_, rfl, ?_⟩; show Q (.ref g5.objs.size) _; rw [sz]
    exact hQ g8 _ _ _ _ (.inr ⟨_, rfl⟩) gz8 (up _ _ S.TOz gO5) (q15.at fun o e => up _ o S.i1z e) (q25.at fun o e => up _ o S.i2z e) gT8 sz8 fun c o c1 c2 c3 c4 e => up c o c1 (k5 c o c1 c2 c3 c4 e)
  · simp only [Bool.false_eq_true, if_false]; refine wpAny_bind ?_; rw [← Array.forIn_toList]; simp only [List.forIn_cons, List.forIn_nil]
    refine wpAny_bind (wpAny_bind (wpAny_holding ?_)); show wpAny _ _ (Builtin.SmallTypes.nextOf (.ref j1) >>= _) _ _ _
    refine wpAny_bind (nextOf_tuple_item (s := { s with heap := g1 }) (q1.extBut s1.extBut S.i1z) (t1.extBut s1.extBut S.l1z) ex fun g2 q12 s2 => wpAny_pure ?_); refine wpAny_pure ?_
    refine wpAny_bind (wpAny_bind (wpAny_holding ?_)); show wpAny _ _ (Builtin.SmallTypes.nextOf (.ref j2) >>= _) _ _ _
    refine wpAny_bind (nextOf_tuple_item (s := { s with heap := g2 }) ((q2.extBut s1.extBut S.i2z).extBut s2.extBut S.i12.symm) ((t2.extBut s1.extBut S.l2z).extBut s2.extBut S.l2i1) ey fun g3 q23 s3 => wpAny_pure ?_)
    refine wpAny_pure (wpAny_pure ?_); show wpAny _ _ (newTuple [x, y] >>= _) _ _ _; refine wpAny_bind (wpAny_newTuple ?_)
    have sz : g3.objs.size = s.heap.objs.size := by rw [s3.1, s2.1, s1.1]
    have gz3 : ZipU g3 zp tI tO f true := s3.extBut _ _ S.i2z.symm (s2.extBut _ _ S.i1z.symm gz1)
    have gO3 : IsPair g3 tO a b := s3.extBut _ _ S.TOi2 (s2.extBut _ _ S.TOi1 (s1.extBut _ _ S.TOz gO))
    have k3 : ∀ c o, c ≠ zp → c ≠ j1 → c ≠ j2 → s.heap.get? c = some o → g3.get? c = some o := fun c o c1 c2 c3 e => s3.extBut _ _ c3 (s2.extBut _ _ c2 (s1.extBut _ _ c1 e))
    have q13 : g3.IsTupleIter j1 m1 (n1 + 1) := q12.extBut s3.extBut S.i12
    refine wpAny_pure ⟨_, rfl, ?_⟩; show Q (.ref g3.objs.size) _
    have gp : IsPair (g3.push { cls := .type "tuple", data := .seq #[x, y] }) g3.objs.size x y := Heap.get?_push_size _ rfl
    have sz4 : (g3.push { cls := .type "tuple", data := .seq #[x, y] }).objs.size = g3.objs.size + 1 := Heap.size_push ..
    rw [sz] at gp sz4 ⊢
    exact hQ _ _ _ _ _ hf (Heap.get?_push_of_some _ gz3) (Heap.get?_push_of_some _ gO3) (q13.at fun o e => Heap.get?_push_of_some _ e) (q23.at fun o e => Heap.get?_push_of_some _ e) gp sz4 fun c o c1 _ c2 c3 e => Heap.get?_push_of_some _ (k3 c o c1 c2 c3 e)
/-- .. at the end of either -/
theorem zu_end {zp tI tO j1 j2 m1 m2 : Addr} {n1 n2 : Nat} {xs ys : Array Value} {a b f : Value} {fb : Bool} {Q : Fin → Shared → Prop} (hh : A.handled = none) (S : ZipApart zp tI tO j1 j2 m1 m2)
    (gz : ZipU s.heap zp tI tO f fb) (hf : ZipF f) (gI : IsPair s.heap tI (.ref j1) (.ref j2)) (gO : IsPair s.heap tO a b) (q1 : s.heap.IsTupleIter j1 m1 n1) (q2 : s.heap.IsTupleIter j2 m2 n2)
    (t1 : s.heap.IsTuple m1 xs) (t2 : s.heap.IsTuple m2 ys) (he : xs[n1]? = none ∨ ys[n2]? = none)
    (hE : ∀ h' e, (∀ c o, c ≠ zp → c ≠ tO → c ≠ j1 → c ≠ j2 → s.heap.get? c = some o → h'.get? c = some o) → (∃ o, h'.get? e = some o ∧ o.cls = .type "StopIteration") → E (.ref e) { s with heap := h' }) :
    wpAny (model prog w) A (Builtin.«zip.__next__» ⟨[.ref zp], []⟩) Q E s := by
  show wpAny _ _ (field (.ref zp) 2 >>= _) _ _ _; refine wpAny_bind (wpAny_field gz rfl (x := .bool false) rfl ?_)
  show wpAny _ _ (field (.ref zp) 3 >>= _) _ _ _; refine wpAny_bind (wpAny_field gz rfl (x := .ref tI) rfl ?_)
  refine wpAny_bind (wpAny_seqItems gI rfl ?_); show wpAny _ _ (Builtin.SmallTypes.ownedTupleIsFree (.ref zp) >>= _) _ _ _
  refine wpAny_bind (zu_free gz hf ?_ fun g1 gz1 s1 => ?_)
  · simp only [if_true]; refine wpAny_bind (wpAny_rule ?_); refine wpAny_bind (wpAny_field gz rfl (x := .ref tO) rfl ?_)
    refine wpAny_bind (wpAny_setField_rec gz (by simp) fun g1 gz1 s1 => ?_)
    replace gz1 : ZipU g1 zp tI tO .ellipsis fb := gz1
    refine wpAny_bind ?_; simp only [List.zipIdx_cons, List.zipIdx_nil, List.forIn_cons, List.forIn_nil]; refine wpAny_bind (wpAny_bind (wpAny_onRaise ?_))
    show wpAny _ _ (Builtin.SmallTypes.nextOf (.ref j1) >>= _) _ _ _
    cases ex : xs[n1]? with
    | none =>
      refine wpAny_bind (nextOf_tuple_end hh (q1.extBut s1.extBut S.i1z) (t1.extBut s1.extBut S.l1z) ex fun g2 e s2 hx => ?_)
      obtain ⟨oe, hoe, hce⟩ := hx
      have gz2 : ZipU g2 zp tI tO .ellipsis fb := s2 _ _ S.i1z.symm gz1
      have ez : e ≠ zp := fun z => by subst z; rw [gz2] at hoe; cases hoe; simp at hce
      refine wpAny_setField_rec gz2 (by simp) fun g3 _ s3 => hE g3 e (fun c o c1 _ c3 _ z => s3.extBut _ _ c1 (s2 _ _ c3 (s1.extBut _ _ c1 z))) ⟨oe, s3.extBut _ _ ez hoe, hce⟩
    | some x =>
      have ey : ys[n2]? = none := by rcases he with h | h; rw [ex] at h; cases h; exact h
      refine wpAny_bind (nextOf_tuple_item (q1.extBut s1.extBut S.i1z) (t1.extBut s1.extBut S.l1z) ex fun g2 q12 s2 => wpAny_pure ?_)
      have gO2 : IsPair g2 tO a b := s2.extBut _ _ S.TOi1 (s1.extBut _ _ S.TOz gO)
      refine wpAny_bind (wpAny_seqItems gO2 rfl ?_); refine wpAny_bind (wpAny_updateSeq_pair gO2 fun g3 gO3 s3 => ?_)
      refine wpAny_bind (wpAny_letGo (wpAny_pure ?_)); refine wpAny_bind (wpAny_bind (wpAny_onRaise ?_))
      show wpAny _ _ (Builtin.SmallTypes.nextOf (.ref j2) >>= _) _ _ _
      refine wpAny_bind (nextOf_tuple_end hh (((q2.extBut s1.extBut S.i2z).extBut s2.extBut S.i12.symm).extBut s3.extBut S.TOi2.symm) (((t2.extBut s1.extBut S.l2z).extBut s2.extBut S.l2i1).extBut s3.extBut S.l2TO) ey fun g4 e s4 hx => ?_)
      obtain ⟨oe, hoe, hce⟩ := hx
      have gz4 : ZipU g4 zp tI tO .ellipsis fb := s4 _ _ S.i2z.symm (s3.extBut _ _ S.TOz.symm (s2.extBut _ _ S.i1z.symm gz1))
      have ez : e ≠ zp := fun z => by subst z; rw [gz4] at hoe; cases hoe; simp at hce
      refine wpAny_setField_rec gz4 (by simp) fun g5 _ s5 => hE g5 e (fun c o c1 c2 c3 c4 z => s5.extBut _ _ c1 (s4 _ _ c4 (s3.extBut _ _ c2 (s2.extBut _ _ c3 (s1.extBut _ _ c1 z))))) ⟨oe, s5.extBut _ _ ez hoe, hce⟩
  · simp only [Bool.false_eq_true, if_false]; refine wpAny_bind ?_; rw [← Array.forIn_toList]; simp only [List.forIn_cons, List.forIn_nil]
    refine wpAny_bind (wpAny_bind (wpAny_holding ?_)); show wpAny _ _ (Builtin.SmallTypes.nextOf (.ref j1) >>= _) _ _ _
    cases ex : xs[n1]? with
    | none =>
      refine wpAny_bind (nextOf_tuple_end (s := { s with heap := g1 }) hh (q1.extBut s1.extBut S.i1z) (t1.extBut s1.extBut S.l1z) ex fun g2 e s2 hx => ?_)
      exact hE g2 e (fun c o c1 _ c2 _ z => s2 _ _ c2 (s1.extBut _ _ c1 z)) hx
    | some x =>
      have ey : ys[n2]? = none := by rcases he with h | h; rw [ex] at h; cases h; exact h
      refine wpAny_bind (nextOf_tuple_item (s := { s with heap := g1 }) (q1.extBut s1.extBut S.i1z) (t1.extBut s1.extBut S.l1z) ex fun g2 q12 s2 => wpAny_pure ?_); refine wpAny_pure ?_
      refine wpAny_bind (wpAny_bind (wpAny_holding ?_)); show wpAny _ _ (Builtin.SmallTypes.nextOf (.ref j2) >>= _) _ _ _
      refine wpAny_bind (nextOf_tuple_end (s := { s with heap := g2 }) hh ((q2.extBut s1.extBut S.i2z).extBut s2.extBut S.i12.symm) ((t2.extBut s1.extBut S.l2z).extBut s2.extBut S.l2i1) ey fun g3 e s3 hx => ?_)
      exact hE g3 e (fun c o c1 _ c2 c3 z => s3 _ _ c3 (s2.extBut _ _ c2 (s1.extBut _ _ c1 z))) hx
/-- drawing from the zip, by another iterator -/
theorem zu_draw {zp tI tO j1 j2 m1 m2 : Addr} {n1 n2 : Nat} {xs ys : Array Value} {x y a b f : Value} {fb : Bool} {Q : Value → Shared → Prop} (S : ZipApart zp tI tO j1 j2 m1 m2)
    (gz : ZipU s.heap zp tI tO f fb) (hf : ZipF f) (gI : IsPair s.heap tI (.ref j1) (.ref j2)) (gO : IsPair s.heap tO a b) (q1 : s.heap.IsTupleIter j1 m1 n1) (q2 : s.heap.IsTupleIter j2 m2 n2)
    (t1 : s.heap.IsTuple m1 xs) (t2 : s.heap.IsTuple m2 ys) (ex : xs[n1]? = some x) (ey : ys[n2]? = some y)
    (hQ : ∀ h' a' b' f' fb', ZipF f' → ZipU h' zp tI tO f' fb' → IsPair h' tO a' b' → h'.IsTupleIter j1 m1 (n1 + 1) → h'.IsTupleIter j2 m2 (n2 + 1) → IsPair h' s.heap.objs.size x y → h'.objs.size = s.heap.objs.size + 1 →
      (∀ c o, c ≠ zp → c ≠ tO → c ≠ j1 → c ≠ j2 → s.heap.get? c = some o → h'.get? c = some o) → Q (.ref s.heap.objs.size) { s with heap := h' }) :
    wpAny (model prog w) A (Builtin.SmallTypes.nextOf (.ref zp)) Q E s := by
  have ty : s.TypeIs (.ref zp) "zip" := ⟨_, gz, rfl⟩
  unfold Builtin.SmallTypes.nextOf; refine wpAny_bind (wpAny_callSpecial?_slot (name := Str.ofString "__next__") ty F.slot_zip_next (wpAny_call_entry F.slot_zip_next ty F.entry_zip_next
      (zu_item S gz hf gI gO q1 q2 t1 t2 ex ey fun h' a' b' f' fb' k1 k2 k3 k4 k5 k6 k7 k8 => wpAny_pure (hQ h' a' b' f' fb' k1 k2 k3 k4 k5 k6 k7 k8)) (F.args_zip_next_1 _)))
theorem zu_over {zp tI tO j1 j2 m1 m2 : Addr} {n1 n2 : Nat} {xs ys : Array Value} {a b f : Value} {fb : Bool} {Q : Value → Shared → Prop} (hh : A.handled = none) (S : ZipApart zp tI tO j1 j2 m1 m2)
    (gz : ZipU s.heap zp tI tO f fb) (hf : ZipF f) (gI : IsPair s.heap tI (.ref j1) (.ref j2)) (gO : IsPair s.heap tO a b) (q1 : s.heap.IsTupleIter j1 m1 n1) (q2 : s.heap.IsTupleIter j2 m2 n2)
    (t1 : s.heap.IsTuple m1 xs) (t2 : s.heap.IsTuple m2 ys) (he : xs[n1]? = none ∨ ys[n2]? = none)
    (hE : ∀ h' e, (∀ c o, c ≠ zp → c ≠ tO → c ≠ j1 → c ≠ j2 → s.heap.get? c = some o → h'.get? c = some o) → (∃ o, h'.get? e = some o ∧ o.cls = .type "StopIteration") → E (.ref e) { s with heap := h' }) :
    wpAny (model prog w) A (Builtin.SmallTypes.nextOf (.ref zp)) Q E s := by
  have ty : s.TypeIs (.ref zp) "zip" := ⟨_, gz, rfl⟩
  unfold Builtin.SmallTypes.nextOf; exact wpAny_bind (wpAny_callSpecial?_slot (name := Str.ofString "__next__") ty F.slot_zip_next (wpAny_call_entry F.slot_zip_next ty F.entry_zip_next (zu_end (A := A.in1) hh S gz hf gI gO q1 q2 t1 t2 he hE) (F.args_zip_next_1 _)))
/-- enumerate's next, whatever is drawn -/
theorem enz_item {e it : Addr} {i : Nat} {old : Value} {K : Value → Heap → Prop} {Q : Value → Shared → Prop} (he : IsEnum s.heap e it ((i : Nat) : Int) old)
    (hd : wpAny (model prog w) A (Builtin.SmallTypes.nextOf (.ref it)) (fun x s1 => ∃ h1, s1 = { s with heap := h1 } ∧ K x h1 ∧ IsEnum h1 e it ((i : Nat) : Int) old) E s)
    (hQ : ∀ x h1 h', K x h1 → IsEnumOut h' e it (((i : Nat) : Int) + 1) x h1.objs.size → h'.get? h1.objs.size = some { cls := .type "tuple", data := .seq #[.int ((i : Nat) : Int) s.toks, x] } → h'.objs.size = h1.objs.size + 1 →
      (∀ c o, c ≠ e → h1.get? c = some o → h'.get? c = some o) → Q (.ref h1.objs.size) { s with heap := h', toks := s.toks + 1 }) :
    wpAny (model prog w) A (Builtin.«enumerate.__next__» ⟨[.ref e], []⟩) (fun fin s' => ∃ v, fin = .done (.ret v) ∧ Q v s') E s := by
  obtain ⟨hp, gn, dr, tk, os⟩ := s
  show wpAny _ _ (field (.ref e) 2 >>= _) _ _ _; refine wpAny_bind (wpAny_field he rfl (x := .ref it) rfl ?_)
  refine wpAny_bind (wpAny_mono hd (fun x s1 ⟨g1, e1, hK, ge1⟩ => ?_) fun _ _ z => z)
  subst e1
  show wpAny _ _ (field (.ref e) 3 >>= _) _ _ ⟨g1, gn, dr, tk, os⟩; refine wpAny_bind (wpAny_field ge1 rfl (x := rawInt ((i : Nat) : Int)) rfl ?_)
  show wpAny _ _ (field (.ref e) 4 >>= _) _ _ ⟨g1, gn, dr, tk, os⟩; refine wpAny_bind (wpAny_field ge1 rfl (x := .none) rfl ?_)
  show wpAny _ _ (mkInt ((i : Nat) : Int) >>= _) _ _ ⟨g1, gn, dr, tk, os⟩; refine wpAny_bind (wpAny_mkInt ?_)
  show wpAny _ _ (setField (.ref e) 3 (rawInt (((i : Nat) : Int) + 1)) >>= _) _ _ ⟨g1, gn, dr, tk + 1, os⟩
  refine wpAny_bind (wpAny_setField_rec ge1 (by simp) fun g2 ge2 s2 => ?_)
  replace s2 : Heap.SameBut e g1 g2 := s2
  replace ge2 : IsEnum g2 e it (((i : Nat) : Int) + 1) old := ge2
  show wpAny _ _ (setField (.ref e) 4 .none >>= _) _ _ ⟨g2, gn, dr, tk + 1, os⟩; refine wpAny_bind (wpAny_setField_rec ge2 (by simp) fun g3 ge3 s3 => ?_)
  replace s3 : Heap.SameBut e g2 g3 := s3
  replace ge3 : IsEnum g3 e it (((i : Nat) : Int) + 1) old := ge3
  show wpAny _ _ (newTuple [.int ((i : Nat) : Int) tk, x] >>= _) _ _ ⟨g3, gn, dr, tk + 1, os⟩; refine wpAny_bind (wpAny_newTuple ?_)
  have ge4 : IsEnum (g3.push { cls := .type "tuple", data := .seq #[.int ((i : Nat) : Int) tk, x] }) e it (((i : Nat) : Int) + 1) old := Heap.get?_push_of_some _ ge3
  have sz : g3.objs.size = g1.objs.size := by rw [s3.1, s2.1]
  have elt : e < g1.objs.size := Heap.lt_size ge1
  have gt4 : (g3.push { cls := .type "tuple", data := .seq #[.int ((i : Nat) : Int) tk, x] }).get? g1.objs.size = some { cls := .type "tuple", data := .seq #[.int ((i : Nat) : Int) tk, x] } := by rw [← sz]; exact Heap.get?_push_size _ rfl
  have sz4 : (g3.push { cls := .type "tuple", data := .seq #[.int ((i : Nat) : Int) tk, x] }).objs.size = g1.objs.size + 1 := by rw [Heap.size_push, sz]
  have k4 : ∀ c o, c ≠ e → g1.get? c = some o → (g3.push { cls := .type "tuple", data := .seq #[.int ((i : Nat) : Int) tk, x] }).get? c = some o := fun c o c1 z => Heap.get?_push_of_some _ (s3.extBut c o c1 (s2.extBut c o c1 z))
  generalize g3.push { cls := .type "tuple", data := .seq #[.int ((i : Nat) : Int) tk, x] } = g4 at *
  show wpAny _ _ (Builtin.SmallTypes.ownedTupleIsFree (.ref e) >>= _) _ _ ⟨g4, gn, dr, tk + 1, os⟩
  rw [sz]
  refine wpAny_bind ?_; unfold Builtin.SmallTypes.ownedTupleIsFree; refine wpAny_bind (wpAny_field ge4 rfl (x := .none) rfl (wpAny_pure ?_))
  simp only [if_true]; refine wpAny_bind (wpAny_rule ?_); refine wpAny_bind (wpAny_field ge4 rfl (x := old) rfl ?_)
  refine wpAny_bind (wpAny_setField_rec ge4 (by simp) fun g5 ge5 s5 => ?_)
  replace s5 : Heap.SameBut e g4 g5 := s5
  replace ge5 : IsEnum g5 e it (((i : Nat) : Int) + 1) x := ge5
  show wpAny _ _ (Builtin.SmallTypes.ownedTupleHandOut (.ref e) (.ref g1.objs.size) >>= _) _ _ ⟨g5, gn, dr, tk + 1, os⟩
  refine wpAny_bind ?_; unfold Builtin.SmallTypes.ownedTupleHandOut; refine wpAny_bind (wpAny_setField_rec ge5 (by simp) fun g6 ge6 s6 => ?_)
  replace s6 : Heap.SameBut e g5 g6 := s6
  replace ge6 : IsEnumOut g6 e it (((i : Nat) : Int) + 1) x g1.objs.size := ge6
  refine wpAny_setField_rec ge6 (by simp) fun g7 ge7 s7 => ?_
  replace s7 : Heap.SameBut e g6 g7 := s7
  replace ge7 : IsEnumOut g7 e it (((i : Nat) : Int) + 1) x g1.objs.size := ge7
  have k7 : ∀ c o, c ≠ e → g4.get? c = some o → g7.get? c = some o := fun c o c1 z => s7.extBut c o c1 (s6.extBut c o c1 (s5.extBut c o c1 z))
  refine wpAny_bind (wpAny_letGo (wpAny_pure ⟨_, rfl, hQ x g1 g7 hK ge7 (k7 _ _ (Nat.ne_of_gt elt) gt4) (by rw [s7.1, s6.1, s5.1, sz4]) fun c o c1 z => k7 c o c1 (k4 c o c1 z)⟩))
theorem enz_next {e it : Addr} {i : Nat} {old : Value} {K : Value → Heap → Prop} {Q : Option Value → Shared → Prop} (he : IsEnum s.heap e it ((i : Nat) : Int) old)
    (hd : wpAny (model prog w) A.in1 (Builtin.SmallTypes.nextOf (.ref it)) (fun x s1 => ∃ h1, s1 = { s with heap := h1 } ∧ K x h1 ∧ IsEnum h1 e it ((i : Nat) : Int) old) (fun _ _ => False) s)
    (hQ : ∀ x h1 h', K x h1 → IsEnumOut h' e it (((i : Nat) : Int) + 1) x h1.objs.size → h'.get? h1.objs.size = some { cls := .type "tuple", data := .seq #[.int ((i : Nat) : Int) s.toks, x] } → h'.objs.size = h1.objs.size + 1 →
      (∀ c o, c ≠ e → h1.get? c = some o → h'.get? c = some o) → Q (some (.ref h1.objs.size)) { s with heap := h', toks := s.toks + 1 }) : wpAny (model prog w) A (pyNext (.ref e)) Q E s := by
  have ty : s.TypeIs (.ref e) "enumerate" := ⟨_, he, rfl⟩
  unfold pyNext; refine wpAny_bind (wpAny_attempt (wpAny_callSpecial?_slot (name := Str.ofString "__next__") ty F.slot_enumerate_next (wpAny_call_entry F.slot_enumerate_next ty F.entry_enumerate_next ?_ (F.args_enumerate_next_1 _))))
  exact enz_item (K := K) he (wpAny_mono hd (fun _ _ z => z) fun _ _ z => z.elim) fun x h1 h' k1 k2 k3 k4 k5 => wpAny_pure (hQ x h1 h' k1 k2 k3 k4 k5)
end
/-- the tuples at a and b as they stand at each turn: the place, and the items in a new pair -/
def IteZ (K : PySem.W.Frag) (a b : Addr) : It :=
  ⟨fun i H => ∃ (xs ys : List V) (x y : V), SqT K H a xs ∧ SqT K H b ys ∧ xs[i]? = some x ∧ ys[i]? = some y,
    fun i H v H' => ∃ T T2 x y, v = .ref T2 ∧ H T = none ∧ T2 ≠ T ∧ H T2 = none ∧ H' = upd (upd H T (.tup [x, y])) T2 (.tup [.int ((i : Nat) : Int), .ref T]) ∧ (∀ xs, SqT K H a xs → xs[i]? = some x) ∧ ∀ ys, SqT K H b ys → ys[i]? = some y,
    fun i H => ∃ xs ys : List V, SqT K H a xs ∧ SqT K H b ys ∧ (xs.length ≤ i ∨ ys.length ≤ i)⟩
theorem turn_enumZ {P : Program} {w : World} {K : PySem.W.Frag} {elts : List Expr} {kk : Nat} {tpos : Pos} {a b e zp tI tO j1 j2 : Addr} (S : ZipApart zp tI tO j1 j2 a b) (he : e ≠ zp ∧ e ≠ tI ∧ e ≠ tO ∧ e ≠ j1 ∧ e ≠ j2 ∧ a ≠ e ∧ b ≠ e) :
    Turn P w K (.Tuple elts kk tpos) (IteZ K a b) [e, zp, tI, tO, j1, j2] e (fun i h => (∃ old, IsEnum h e zp ((i : Nat) : Int) old) ∧ (∃ f fb x0 y0, ZipF f ∧ ZipU h zp tI tO f fb ∧ IsPair h tI (.ref j1) (.ref j2) ∧ IsPair h tO x0 y0) ∧ h.IsTupleIter j1 a i ∧ h.IsTupleIter j2 b i) where
  mem := by simp
  obj := fun i h st c hc => by
    obtain ⟨⟨old, k1⟩, ⟨f, fb, x0, y0, hf, k2, k3, k4⟩, ⟨o1, e1, _, d1⟩, ⟨o2, e2, _, d2⟩⟩ := st
    have q : c = e ∨ c = zp ∨ c = tI ∨ c = tO ∨ c = j1 ∨ c = j2 := by simpa using hc
    rcases q with q | q | q | q | q | q
    · rw [q]; exact ⟨_, k1, fun v z => nomatch z⟩
    · rw [q]; exact ⟨_, k2, fun v z => nomatch z⟩
    · rw [q]; exact ⟨_, k3, fun v z => nomatch z⟩
    · rw [q]; exact ⟨_, k4, fun v z => nomatch z⟩
    · rw [q]; exact ⟨o1, e1, fun v z => by rw [d1] at z; cases z⟩
    · rw [q]; exact ⟨o2, e2, fun v z => by rw [d2] at z; cases z⟩
  keep := fun i h h' st k => by
    obtain ⟨⟨old, k1⟩, ⟨f, fb, x0, y0, hf, k2, k3, k4⟩, h1, h2⟩ := st
    exact ⟨⟨old, k e (by simp) _ k1⟩, ⟨f, fb, x0, y0, hf, k zp (by simp) _ k2, k tI (by simp) _ k3, k tO (by simp) _ k4⟩, h1.at fun o q => k j1 (by simp) o q, h2.at fun o q => k j2 (by simp) o q⟩
  item := by
    intro X hP hw hK hc i pins s σ H E I hf st hg
    subst hP hw hK
    obtain ⟨⟨old, k1⟩, ⟨f, fb, x0, y0, hF, k2, k3, k4⟩, q1, q2⟩ := st
    obtain ⟨xs, ys, x, y, hx, hy, ex, ey⟩ := hg
    obtain ⟨its, rv, pt, _⟩ := I.tuple hx
    obtain ⟨its2, rv2, pt2, _⟩ := I.tuple hy
    obtain ⟨u, hu, ru⟩ := rv.get ex
    obtain ⟨u2, hu2, ru2⟩ := rv2.get ey
    obtain ⟨n1, n2, n3, n4, n5, n6, n7⟩ := he
    have elt : e < s.heap.objs.size := Heap.lt_size k1
    refine enz_next (K := fun v h1 => v = .ref s.heap.objs.size ∧ ∃ a' b' f' fb', ZipF f' ∧ ZipU h1 zp tI tO f' fb' ∧ IsPair h1 tO a' b' ∧ h1.IsTupleIter j1 a (i + 1) ∧ h1.IsTupleIter j2 b (i + 1) ∧ IsPair h1 s.heap.objs.size u u2 ∧ h1.objs.size = s.heap.objs.size + 1 ∧
        (∀ c o, c ≠ zp → c ≠ tO → c ≠ j1 → c ≠ j2 → s.heap.get? c = some o → h1.get? c = some o)) k1
      (zu_draw (xs := its.toArray) (ys := its2.toArray) S k2 hF k3 k4 q1 q2 pt pt2 (by simpa using hu) (by simpa using hu2) fun h' a' b' f' fb' m1 m2 m3 m4 m5 m6 m7 m8 => ⟨h', rfl, ⟨rfl, a', b', f', fb', m1, m2, m3, m4, m5, m6, m7, m8⟩, m8 _ _ n1 n3 n4 n5 k1⟩) ?_
    rintro v h1 h' ⟨rfl, a', b', f', fb', m1, m2, m3, m4, m5, m6, m7, m8⟩ ho hT hsz hk
    refine ⟨_, rfl, wpAny_letOwnedTupleGo_enum (s := { s with heap := h', toks := s.toks + 1 }) ho fun h'' he' sb => ?_⟩
    have w1 : ObjOk X.prog X.w (upd H s.heap.objs.size (.tup [x, y])) h1 s.heap.objs.size (.tup [x, y]) := ⟨by show 2 ≤ sizeLine; decide, [u, u2], .cons ru (.cons ru2 .nil), ⟨_, m6, rfl, _, rfl⟩⟩
    have I1 : Inv X pins σ (upd H s.heap.objs.size (.tup [x, y])) { s with heap := h1 } :=
      I.turnedNew (t' := s.toks) (ch := [zp, tO, j1, j2]) (fun c o hcm q => m8 c o (fun z => hcm (by simp [z])) (fun z => hcm (by simp [z])) (fun z => hcm (by simp [z])) (fun z => hcm (by simp [z])) q)
        (fun c hcm => hf c (by simp only [List.mem_cons, List.not_mem_nil, or_false] at hcm ⊢; rcases hcm with z | z | z | z <;> simp [z])) (Nat.le_refl _) w1
    have hkk : ∀ c o, c ≠ e → h1.get? c = some o → h''.get? c = some o := fun c o c1 q => (sb.2 c c1).trans (hk c o c1 q)
    have elt1 : e < h1.objs.size := by rw [m7]; exact Nat.lt_succ_of_lt elt
    have hT2 : h''.get? h1.objs.size = some { cls := .type "tuple", data := .seq #[.int ((i : Nat) : Int) s.toks, .ref s.heap.objs.size] } := (sb.2 _ (Nat.ne_of_gt elt1)).trans hT
    have fe : FpOk X pins (upd H s.heap.objs.size (.tup [x, y])) e := ⟨by rw [upd_ne (Nat.ne_of_lt elt)]; exact (hf e (by simp)).1, (hf e (by simp)).2⟩
    have w2 : ObjOk X.prog X.w (upd (upd H s.heap.objs.size (.tup [x, y])) h1.objs.size (.tup [.int ((i : Nat) : Int), .ref s.heap.objs.size])) h'' h1.objs.size (.tup [.int ((i : Nat) : Int), .ref s.heap.objs.size]) :=
      ⟨by show 2 ≤ sizeLine; decide, [.int ((i : Nat) : Int) s.toks, .ref s.heap.objs.size], .cons ⟨_, rfl⟩ (.cons rfl .nil), ⟨_, hT2, rfl, _, rfl⟩⟩
    have I2 : Inv X pins σ (upd (upd H s.heap.objs.size (.tup [x, y])) h1.objs.size (.tup [.int ((i : Nat) : Int), .ref s.heap.objs.size])) { s with heap := h'', toks := s.toks + 1 } :=
      I1.turnedNew (t' := s.toks + 1) (ch := [e]) (fun c o hcm q => hkk c o (fun z => hcm (by simp [z])) q) (fun c hcm => by rw [List.mem_singleton.mp hcm]; exact fe) (Nat.le_refl _) w2
    have neq : h1.objs.size ≠ s.heap.objs.size := by rw [m7]; exact Nat.succ_ne_self _
    refine ⟨.ref h1.objs.size, _, I2, rfl, ⟨s.heap.objs.size, h1.objs.size, x, y, rfl, I.hok.fresh (Nat.le_refl _), neq, I.hok.fresh (by rw [m7]; exact Nat.le_succ _), rfl, fun l hl => by rw [I.tuple_inj hl hx]; exact ex, fun l hl => by rw [I.tuple_inj hl hy]; exact ey⟩,
      ⟨⟨.ref s.heap.objs.size, ?_⟩, ⟨f', fb', a', b', m1, hkk _ _ n1.symm m2, hkk _ _ n2.symm (m8 _ _ S.TIz S.TITO S.TIi1 S.TIi2 k3), hkk _ _ n3.symm m3⟩, m4.at fun o q => hkk _ o n4.symm q, m5.at fun o q => hkk _ o n5.symm q⟩, fun c hcm => ?_⟩
    · have e1 : ((i + 1 : Nat) : Int) = (i : Int) + 1 := by omega
      rw [e1]; exact he'
    · have hlt : c < s.heap.objs.size := by
        have q : c = e ∨ c = zp ∨ c = tI ∨ c = tO ∨ c = j1 ∨ c = j2 := by simpa using hcm
        rcases q with q | q | q | q | q | q
        · rw [q]; exact elt
        · rw [q]; exact Heap.lt_size k2
        · rw [q]; exact Heap.lt_size k3
        · rw [q]; exact Heap.lt_size k4
        · rw [q]; obtain ⟨_, z, _⟩ := q1; exact Heap.lt_size z
        · rw [q]; obtain ⟨_, z, _⟩ := q2; exact Heap.lt_size z
      rw [upd_ne (Nat.ne_of_lt (by rw [m7]; exact Nat.lt_succ_of_lt hlt)), upd_ne (Nat.ne_of_lt hlt)]
      exact (hf c hcm).1
  done := by
    intro X hP hw hK hc i pins s σ H E I hf st hg
    subst hP hw hK
    obtain ⟨⟨old, k1⟩, ⟨f, fb, x0, y0, hF, k2, k3, k4⟩, q1, q2⟩ := st
    obtain ⟨xs, ys, hx, hy, hend⟩ := hg
    obtain ⟨its, rv, pt, _⟩ := I.tuple hx
    obtain ⟨its2, rv2, pt2, _⟩ := I.tuple hy
    have l1 := rv.length
    have l2 := rv2.length
    have hx' : its.toArray[i]? = none ∨ its2.toArray[i]? = none := by
      rcases hend with q | q
      · exact .inl (by simp; omega)
      · exact .inr (by simp; omega)
    have ty : s.TypeIs (.ref e) "enumerate" := ⟨_, k1, rfl⟩
    unfold pyNext; refine wpAny_bind (wpAny_attempt (wpAny_callSpecial?_slot (name := Str.ofString "__next__") ty F.slot_enumerate_next (wpAny_call_entry F.slot_enumerate_next ty F.entry_enumerate_next ?_ (F.args_enumerate_next_1 _))))
    show wpAny _ _ (field (.ref e) 2 >>= _) _ _ _; refine wpAny_bind (wpAny_field k1 rfl (x := .ref zp) rfl ?_)
    refine wpAny_bind (zu_over (I.ok.hd hc) S k2 hF k3 k4 q1 q2 pt pt2 hx' fun h' ee hk2 hx2 => ?_)
    obtain ⟨o, ho, hc2⟩ := hx2
    refine wpAny_bind (wpAny_isInstance (T := "StopIteration") (b := true) ⟨o, ho, hc2⟩ isSubtype_stop ?_)
    exact wpAny_pure ⟨rfl, I.turnedL (t' := s.toks) (ch := [zp, tO, j1, j2]) (fun c o hcm q => hk2 c o (fun z => hcm (by simp [z])) (fun z => hcm (by simp [z])) (fun z => hcm (by simp [z])) (fun z => hcm (by simp [z])) q)
      (fun c hcm => hf c (by simp only [List.mem_cons, List.not_mem_nil, or_false] at hcm ⊢; rcases hcm with z | z | z | z <;> simp [z]))⟩
  self := fun A i s Q E st h => let ⟨⟨_, k1⟩, _⟩ := st; wpAny_pyIter_enum k1 h
end DL

/-! for i, (x, y) in enumerate(zip(a, b)), a and b tuples. -/
namespace DL
open PySem L2 PySem.Spec PyProof.Rows RZ
theorem meets_enumZ (zp tI tO : Addr) (f0 : Value) :
    Meets (Builtin.«enumerate.__new__» ⟨[.type "enumerate", .ref zp], []⟩) (fun _ R s => IsZip s.heap zp tI tO f0 ∧
      R (.ok (.ret (.ref s.heap.objs.size))) { s with heap := s.heap.push { cls := .type "enumerate", data := .fields #[.none, .bool false, .ref zp, rawInt 0, .none, .none] } }) :=
  .of_wp fun prog w A R s h => by
    obtain ⟨hp, gn, dr, tk, os⟩ := s; obtain ⟨h1, h⟩ := h
    have su := sub_enumerate
    have q1 : ∀ {A' : Around} {E : Value → Shared → Prop} {Q : Value → Shared → Prop}, Q (.ref zp) ⟨hp, gn, dr, tk, os⟩ → wpAny (model prog w) A' (pyIter (.ref zp)) Q E ⟨hp, gn, dr, tk, os⟩ :=
      fun q => wpAny_pyIter_zip h1 q
    wp_walk using q1
    refine wpAny_stack_any fun st => wpAny_pure ?_
    split
    · rename_i c _ _ _ _ _
      cases (c == Value.type "enumerate")
      · wp_walk using q1
        exact ⟨_, rfl, h⟩
      · wp_walk using q1
        exact ⟨_, rfl, h⟩
    · wp_walk using q1
      exact ⟨_, rfl, h⟩
theorem call_enumZ {prog : Program} {w : World} {A : Around} {E : Value → Shared → Prop} {s : Shared} {zp tI tO : Addr} {f0 : Value} {Q : Value → Shared → Prop} (h1 : IsZip s.heap zp tI tO f0)
    (h : ∀ h', IsEnum h' s.heap.objs.size zp 0 .none → h'.objs.size = s.heap.objs.size + 1 → (∀ b o, s.heap.get? b = some o → h'.get? b = some o) → Q (.ref s.heap.objs.size) { s with heap := h' }) :
    wpAny (model prog w) A (call (.type "enumerate") [.ref zp]) Q E s := by
  refine callType_new F.called_enumerate (by decide) (F.typeCall_enumerate_1 _) (F.newCall_enumerate_1 _) (fun obj => F.args_object_init_2 obj _) F.entry_enumerate_new (meets_enumZ zp tI tO f0) ⟨h1, ?_⟩
  have ge : IsEnum (s.heap.push { cls := .type "enumerate", data := .fields #[.none, .bool false, .ref zp, rawInt 0, .none, .none] }) s.heap.objs.size zp 0 .none := Heap.get?_push_size _ rfl
  exact ⟨⟨_, ge, rfl⟩, h _ ge (by rw [Heap.size_push]) fun b o x => Heap.get?_push_of_some _ x⟩
def iEnumZ (K : PySem.W.Frag) (ta : TA) : TI := fun σ H R => ta σ H fun vs H1 => ∃ a b xs ys, vs = [.ref a, .ref b] ∧ SqT K H1 a xs ∧ SqT K H1 b ys ∧ R (IteZ K a b) H1
theorem pi_enumZ {X : Cx} {e e2 : Expr} {ta : TA} {p pos p2 pos2 tpos : Pos} {elts : List Expr} {kk : Nat} (hg : Gl X "enumerate") (hm : X.mg "enumerate" = none) (hg2 : Gl X "zip") (hm2 : X.mg "zip" = none) (ha : PA X [e, e2] ta)
    (hs : starEach [e, e2] X.env = (false, eval e X.env) :: starEach [e2] X.env := by rfl) (hpl : (backTo pos2 (starEach [e2] X.env)).any (·.1) = false := by rfl)
    (nb : starEach [.Call (.Name "zip" p2) [e, e2] [] pos2] X.env = (false, eval (.Call (.Name "zip" p2) [e, e2] [] pos2) X.env) :: starEach [] X.env := by rfl) :
    PI X (.Tuple elts kk tpos) (.Call (.Name "enumerate" p) [.Call (.Name "zip" p2) [e, e2] [] pos2] [] pos) (iEnumZ X.K ta) := by
  refine ⟨fun pins s σ H R I h => ?_⟩
  have inner : wpAny (model X.prog X.w) X.A (eval (.Call (.Name "zip" p2) [e, e2] [] pos2) X.env) (fun x s1 => ∃ a b xs ys zp tI tO j1 j2 H1 h0, x = .ref zp ∧ Inv X pins σ H1 s1 ∧ Inv X pins σ H1 { s1 with heap := h0 } ∧ (∀ c o, h0.get? c = some o → s1.heap.get? c = some o) ∧ SqT X.K H1 a xs ∧ SqT X.K H1 b ys ∧ R (IteZ X.K a b) H1 ∧ ZipApart zp tI tO j1 j2 a b ∧ IsZip s1.heap zp tI tO .none ∧ IsPair s1.heap tI (.ref j1) (.ref j2) ∧ IsPair s1.heap tO .none .none ∧
      s1.heap.IsTupleIter j1 a 0 ∧ s1.heap.IsTupleIter j2 b 0 ∧ (∀ c ∈ [zp, tI, tO, j1, j2], FpOk X pins H1 c ∧ c < s1.heap.objs.size) ∧ a < s1.heap.objs.size ∧ b < s1.heap.objs.size) X.xe s := by
    refine Call_ (ld_blt I hg2 hm2 PyProof.Rows.boot_zip (PyProof.Rows.callWith_type1 (thn (ha.run pos2 pins s σ H _ I h) fun us s1 ⟨vs, H1, I1, r1, q1⟩ => ?_) hs hpl))
    obtain ⟨a, b, xs, ys, ex, hqx, hqy, q⟩ := q1
    subst ex
    cases r1 with
    | cons r rr =>
      cases rr with
      | cons r' rr =>
        cases rr
        cases r
        cases r'
        obtain ⟨its, rv, p1, _⟩ := I1.tuple hqx
        obtain ⟨its2, rv2, p2, _⟩ := I1.tuple hqy
        obtain ⟨o1, ho1, _⟩ := id p1
        obtain ⟨o2, ho2, _⟩ := id p2
        refine call_zipT (show s1.heap.IsTuple a its.toArray from p1) (show s1.heap.IsTuple b its2.toArray from p2) fun h' hz hTI hTO h1 h2 hsz hk => ?_
        have I2 : Inv X pins σ H1 { s1 with heap := h' } := I1.kept (t' := s1.toks) hk
        refine ⟨a, b, xs, ys, s1.heap.objs.size + 4, s1.heap.objs.size + 2, s1.heap.objs.size + 3, s1.heap.objs.size, s1.heap.objs.size + 1, H1, s1.heap, rfl, I2, I1, hk, hqx, hqy, q, PySem.W.ktu_apart s1.heap.objs.size a b (Heap.lt_size ho1) (Heap.lt_size ho2), hz, hTI, hTO, h1, h2, fun c hcm => ?_, by show a < h'.objs.size; rw [hsz]; exact Nat.lt_of_lt_of_le (Heap.lt_size ho1) (Nat.le_add_right _ _), by show b < h'.objs.size; rw [hsz]; exact Nat.lt_of_lt_of_le (Heap.lt_size ho2) (Nat.le_add_right _ _)⟩
        have hc : s1.heap.objs.size ≤ c ∧ c < s1.heap.objs.size + 5 := by
          simp only [List.mem_cons, List.not_mem_nil, or_false] at hcm
          rcases hcm with z | z | z | z | z <;> rw [z] <;> first | exact ⟨Nat.le_add_right _ _, Nat.add_lt_add_left (by decide) _⟩ | exact ⟨Nat.le_refl _, Nat.lt_add_of_pos_right (by decide)⟩
        exact ⟨I1.fpOk hc.1 (I1.hok.fresh hc.1), by show c < h'.objs.size; rw [hsz]; exact hc.2⟩
  refine Call_ (ld_blt I hg hm boot_enumerate (PyProof.Rows.callWith_type1 (args_cons (thn inner fun x s1 ⟨a, b, xs, ys, zp, tI, tO, j1, j2, H1, h0, ex, I1, _, _, hqx, hqy, q, S, k1, k2, k3, k4, k5, k6, k7, k8⟩ => args_nil ?_) nb) nb))
  subst ex
  refine call_enumZ k1 fun h' ge hsz hk => wpAny_pyIter_enum ge ?_
  have I2 : Inv X pins σ H1 { s1 with heap := h' } := I1.kept (t' := s1.toks) hk
  have lt := fun c hc => (k6 c hc).2
  have ne : ∀ c, c < s1.heap.objs.size → s1.heap.objs.size ≠ c := fun c hc => Nat.ne_of_gt hc
  refine ⟨s1.heap.objs.size, [s1.heap.objs.size, zp, tI, tO, j1, j2], _, _, H1, rfl, I2, turn_enumZ S ⟨ne _ (lt zp (by simp)), ne _ (lt tI (by simp)), ne _ (lt tO (by simp)), ne _ (lt j1 (by simp)), ne _ (lt j2 (by simp)), (ne _ k7).symm, (ne _ k8).symm⟩,
    ⟨⟨.none, ge⟩, ⟨.none, false, .none, .none, .inl rfl, hk _ _ k1, hk _ _ k2, hk _ _ k3⟩, k4.at fun o z => hk _ o z, k5.at fun o z => hk _ o z⟩, fun c hcm => ?_, q⟩
  rcases List.mem_cons.mp hcm with z | z
  · rw [z]; exact I1.fpOk (Nat.le_refl _) (I1.hok.fresh (Nat.le_refl _))
  · exact (k6 c z).1
/-- as data -/
def zipD (xs ys : List D) : List D := (List.range (min xs.length ys.length)).map fun i => .tup [.int ((i : Nat) : Int), .tup [xs.getD i .non, ys.getD i .non]]
@[simp] theorem zipD_len (xs ys : List D) : (zipD xs ys).length = min xs.length ys.length := by simp [zipD]
theorem zipD_get {xs ys : List D} {i : Nat} {p : D} (h : (zipD xs ys)[i]? = some p) : ∃ x y, xs[i]? = some x ∧ ys[i]? = some y ∧ p = .tup [.int ((i : Nat) : Int), .tup [x, y]] := by
  have hi : i < min xs.length ys.length := by
    have := (List.getElem?_eq_some_iff.mp h).1
    simpa using this
  have h1 : i < xs.length := by omega
  have h2 : i < ys.length := by omega
  unfold zipD at h
  simp [hi, List.getD, h1, h2] at h
  exact ⟨xs[i], ys[i], List.getElem?_eq_getElem h1, List.getElem?_eq_getElem h2, h.symm⟩
def wkEnumZ : List D → DS → R Wk := fun as s => match as with
  | [.tup xs, .tup ys] => .ok (zipD xs ys, allw) s
  | _ => .bad
def fWEZ (f : DS → R (List D)) : DS → R Wk := fun s => (f s).bind wkEnumZ
section
variable {X : Cx} {W : WX} {p pos p2 pos2 tpos : Pos} {elts : List Expr} {kk : Nat}
theorem pdi_enumZ {e e2 : Expr} {f : DS → R (List D)} (hg : Gl X "enumerate") (hm : X.mg "enumerate" = none) (hg2 : Gl X "zip") (hm2 : X.mg "zip" = none) (ha : PDA X W [e, e2] f)
    (hs : starEach [e, e2] X.env = (false, eval e X.env) :: starEach [e2] X.env := by rfl) (hpl : (backTo pos2 (starEach [e2] X.env)).any (·.1) = false := by rfl)
    (nb : starEach [.Call (.Name "zip" p2) [e, e2] [] pos2] X.env = (false, eval (.Call (.Name "zip" p2) [e, e2] [] pos2) X.env) :: starEach [] X.env := by rfl) :
    PDI X W (.Tuple elts kk tpos) (.Call (.Name "enumerate" p) [.Call (.Name "zip" p2) [e, e2] [] pos2] [] pos) (fWEZ f) := by
  obtain ⟨t, e1, l⟩ := ha
  refine ⟨_, pi_enumZ hg hm hg2 hm2 e1 hs hpl nb, fun ρ F s σ H Rr rl h => l ρ F s σ H _ rl (PostI.bind h fun ds s1 ρ1 F1 H1 vs x1 rl1 rd1 h1 => ?_)⟩
  unfold wkEnumZ at h1
  split at h1
  · rename_i es es2
    obtain ⟨w, w2, rfl, ⟨a, us, rfl, q, le⟩, ⟨b, us2, rfl, q2, le2⟩⟩ := rdl2 rd1
    refine ⟨a, b, us, us2, rfl, sqT_mono rl1.mem.sub q, sqT_mono rl1.mem.sub q2, h1 ρ1 F1 H1 _ (Ext.refl ..) rl1 ⟨fun ρ' F' H' μ x m _ => ⟨us, us2, sqT_mono (x.fro.trans m.sub) q, sqT_mono (x.fro.trans m.sub) q2, by rw [zipD_len, le.length, le2.length]; omega⟩, fun i p hp ρ' F' H' μ x m _ => ?_⟩⟩
    obtain ⟨d, d2, hd, hd2, rfl⟩ := zipD_get hp
    obtain ⟨v, hv, rv⟩ := le.get hd
    obtain ⟨v2, hv2, rv2⟩ := le2.get hd2
    have q' := sqT_mono (x.fro.trans m.sub) q
    have q2' := sqT_mono (x.fro.trans m.sub) q2
    refine ⟨⟨us, us2, v, v2, q', q2', hv, hv2⟩, fun y H2 yd => ?_⟩
    obtain ⟨T, T2, z, z2, rfl, hT, hne, hT2, rfl, hz, hz2⟩ := yd
    have e1 : z = v := by
      have := hz us q'
      rw [hv] at this
      exact (Option.some.inj this).symm
    have e2 : z2 = v2 := by
      have := hz2 us2 q2'
      rw [hv2] at this
      exact (Option.some.inj this).symm
    subst e1 e2
    obtain ⟨m2, x2⟩ := m.frozen (o := .tup [z, z2]) hT
    have hT2' : upd H' T (.tup [z, z2]) T2 = none := by rw [upd_ne hne]; exact hT2
    obtain ⟨m3, x3⟩ := m2.frozen (o := .tup [.int ((i : Nat) : Int), .ref T]) hT2'
    have r1 : Rd X.K ρ' (upd F' T (.tup [z, z2])) (.tup [d, d2]) (.ref T) := ⟨T, _, rfl, .new upd_same, _, _, rfl, (rv.ext x).ext x2, _, _, rfl, (rv2.ext x).ext x2, rfl⟩
    exact ⟨_, x2.trans x3, m3, T2, _, rfl, .new upd_same, _, _, rfl, rfl, _, _, rfl, r1.ext x3, rfl⟩
  · exact h1.elim
theorem pdg_nest {es2 : List Expr} {k2 : Nat} {i : Nat} {is : List Nat} {e1 : Expr} (h : PG X (.Tuple [e1, .Tuple es2 k2 p2] kk p) (gTup X.K 2 (gCons (gName i) (gCons (gTup X.K is.length (gNms is)) gNil)))) : PDG X (.Tuple [e1, .Tuple es2 k2 p2] kk p) (.nest i is) := h
end
end DL

/-! t += u, tuples; a suite that is not reached. -/
namespace DL
open PySem L2 PySem.Spec PyProof.Rows RZ
theorem noI_tup_add : typeLookup (.type "tuple") (dunderI "add") = pure none := am_miss_of_fast (by decide +kernel)
section
variable {X : Cx} {W : WX}
def rICat (K : PySem.W.Frag) : R2 := fun x y H Q => ∃ a b xs ys, x = .ref a ∧ y = .ref b ∧ SqT K H a xs ∧ SqT K H b ys ∧ xs ≠ [] ∧ ys ≠ [] ∧ xs.length + ys.length ≤ sizeLine ∧ ∀ p, H p = none → Q (.ref p) (upd H p (.tup (xs ++ ys)))
theorem iop_catT : OpR X (inplaceOp .Add) (rICat X.K) := by
  intro pins s σ H x y v u Q I rx ry h
  obtain ⟨a, b, xs, ys, rfl, rfl, ha, hb, hx, hy, hz, q⟩ := h
  cases rx
  cases ry
  obtain ⟨its, r1, p1, _⟩ := I.tuple ha
  obtain ⟨its2, r2, p2, _⟩ := I.tuple hb
  obtain ⟨⟨cls, dd, data, sl⟩, ho, hc, n, hd⟩ := id p1
  obtain ⟨⟨cls2, dd2, data2, sl2⟩, ho2, hc2, n2, hd2⟩ := id p2
  simp only at hc hd hc2 hd2
  subst hc hd hc2 hd2
  have e : its.toArray ++ its2.toArray = (its ++ its2).toArray := by simp
  have v1 : its ≠ [] := fun z => hx (r1.nil_iff.mp z)
  have v2 : its2 ≠ [] := fun z => hy (r2.nil_iff.mp z)
  refine wpAny_inplaceOp_concat (id := "tuple.__add__") ⟨_, ho, rfl⟩ ⟨_, ho2, rfl⟩ noI_tup_add noFill_tuple_add seq_tuple_add (call_meets PySem.F.slot_tuple_add ⟨_, ho, rfl⟩ PySem.F.entry_tuple_add (PySem.F.args_tuple_add_2 _ _)
    (tuple_addW2 a b its.toArray its2.toArray n n2 dd dd2 sl sl2 (by simpa using v1) (by simpa using v2) (by rw [List.size_toArray, List.size_toArray, ← r1.length, ← r2.length]; exact hz)) ⟨ho, ho2, ?_⟩)
  rw [e]
  exact ⟨.ref s.heap.objs.size, _, I.laid (t' := s.toks) (o := .tup (xs ++ ys)) (fun b ob q => Heap.get?_push_of_some _ q) (Nat.le_refl _) ⟨by rw [List.length_append]; exact hz, _, r1.append r2, IsTup.new _ _⟩, rfl, q _ (I.hok.fresh (Nat.le_refl _))⟩
noncomputable def gICat : D → D → DS → R D := fun x y s => match x, y with
  | .tup (a :: as), .tup (b :: bs) => if Pr ((a :: as).length + (b :: bs).length ≤ sizeLine) then .ok (.tup (a :: as ++ b :: bs)) s else .bad
  | _, _ => .bad
theorem opd_icat : OpD X W (rICat X.K) gICat := by
  intro ρ F s σ H x y v u Q rl r1 r2 h
  unfold gICat at h
  split at h
  · rename_i a as b bs
    obtain ⟨p1, vs, rfl, q1, l1⟩ := r1
    obtain ⟨p2, us, rfl, q2, l2⟩ := r2
    split at h
    · rename_i hc
      refine ⟨p1, p2, vs, us, rfl, rfl, sqT_mono rl.mem.sub q1, sqT_mono rl.mem.sub q2, fun z => ?_, fun z => ?_, by rw [l1.length, l2.length]; exact hc, Post.tup h rl (l1.append l2)⟩
      · have := l1.nil_iff.mp z; cases this
      · have := l2.nil_iff.mp z; cases this
    · exact h.elim
  · exact h.elim
/-- a suite that is not reached -/
theorem pdss_never (sts : List Stmt) : PDss X W sts (fun _ => .bad) := ⟨fun _ _ _ => False, ⟨fun _ _ _ _ _ _ h => h.elim⟩, fun _ _ _ _ _ _ _ h => h.elim⟩
end
end DL

/-! raise C(v) with a field, context None; try: .. except B as n: raise C(.. n.f ..) from n. -/
namespace DL
open PySem PySem.Spec PyProof.Rows L2 HotX L2H
section
variable {X : Cx} {e : Expr} {es : List Expr} {ta : TA} {p pos : Pos}
/-- C(e, ..) where nothing is handled: the six fields told -/
theorem pmk5_oexC {CX : CXT} {x : Str} {C fI : Addr} {k : Nat} {fd : FuncData} {ps : List Str} {sp : Sp} (T : OexC X.K C) (iC : PySem.W.findIn X.K (.ref C) "__init__" = some (some (.ref fI))) (tI : PySem.W.typeIn X.K (.ref fI) = some (.type "function"))
    (F1 : FnOk X.prog X.w X.K X.mg X.base CX k fI fd ps sp) (hr : Room (k + 1) X.A) (hb : Binds X.K fd ps []) (hx : Passes CX X (fun _ _ _ => False)) (hg : Gl X x) (hm : X.mg x = some (.ref C)) (ha : PA X (e :: es) ta)
    (hdb : (x == ("__debug__" : Str)) = false := by decide) (he : starEach (e :: es) X.env = (false, eval e X.env) :: starEach es X.env := by rfl) (hpl : (backTo pos (starEach es X.env)).any (·.1) = false := by rfl) :
    PMk5 X (.Call (.Name x p) (e :: es) [] pos) (tMkO C sp [] ta) := by
  intro pins s σ H Q I h
  obtain ⟨nm, q, N, bs, bm, sn, sub, ab, col, dd, k0, k1, k2, k3, k5, hC, hbm⟩ := T.cls
  refine wpAny_Call_Name_kw (ld_glob I hg hm ?_ hdb)
  refine PySem.W.callWith_K (h₀ := X.base) I.ok.mod.kin T.kC (thn (ha.run pos pins s σ H _ I h) fun us s1 ⟨vs, H1, I1, r1, hz, q1⟩ => ⟨I1.kIn, ?_⟩) he hpl
  show wpAny _ _ (call (.ref C) us) _ _ _
  obtain ⟨hp, g, dr, tk, os⟩ := s1
  have hsz : hp.objs.size ≤ hp.objs.size + 1 := Nat.le_succ _
  have hn : H1 (hp.objs.size + 1) = none := I1.hok.fresh hsz
  have hq := q1 (hp.objs.size + 1) hn
  rw [List.append_nil] at hq
  have kk : ∀ b o, hp.get? b = some o → ((hp.push (PySem.W.kdv_tup us)).push (PySem.HandSPX.excO C hp.objs.size)).get? b = some o := fun b o e => Heap.get?_push_of_some _ (Heap.get?_push_of_some _ e)
  have hget : ((hp.push (PySem.W.kdv_tup us)).push (PySem.HandSPX.excO C hp.objs.size)).get? (hp.objs.size + 1) = some (PySem.HandSPX.excO C hp.objs.size) := by heap_get
  have I2 : Inv X pins σ (upd H1 (hp.objs.size + 1) (exo (hp.objs.size + 1) C none)) ⟨(hp.push (PySem.W.kdv_tup us)).push (PySem.HandSPX.excO C hp.objs.size), g, dr, tk, os⟩ :=
    I1.laid (t' := tk) (a := hp.objs.size + 1) (o := exo (hp.objs.size + 1) C none) (h' := (hp.push (PySem.W.kdv_tup us)).push (PySem.HandSPX.excO C hp.objs.size)) kk hsz (exo_ok hget)
  have r2 : Vals (V.ref (hp.objs.size + 1) :: vs) (Value.ref (hp.objs.size + 1) :: us) := .cons rfl r1
  have hl : (Value.ref (hp.objs.size + 1) :: us ++ []).length = ps.length := by
    have e := r2.length
    rw [F1.len _ _ _ _ hq] at e
    rw [List.append_nil]
    exact e.symm
  have b2 := hb _ (Value.ref (hp.objs.size + 1) :: us) I2.kIn hl
  rw [List.append_nil] at b2
  have hus : us.length ≤ sizeLine := by
    rw [← Paired.length r1, sizeLine_eq]
    omega
  refine wpAny_call (PySem.HandSPX.call_own F.excBase_ValueError (fun Y => PySem.HandSPX.refsVE_contains Y bm hbm) (I1.kIn _ _ hC) (PySem.W.looks_findIn I1.kIn iC) (fun self => PySem.W.bind_fn I1.kIn self tI) hus
    (codeAny_mono (F1.run _ X.stack _ _ ⟨Value.ref (hp.objs.size + 1) :: us, []⟩ (Value.ref (hp.objs.size + 1) :: us) _ _ (fun _ _ _ => False) (hr.make C us []) (I2.env0.make C us []) b2 r2 hq) fun r s' hq' => ?_))
  cases r with
  | error er => exact hx pins σ _ _ er s' I2 hq'
  | ok fl =>
    cases fl with
    | ret u =>
      obtain ⟨v, H2, os2, bare2, un2, hok2, rv, ev, d, fs, ea, ed, hd1, q2⟩ := hq'
      subst ev
      obtain ⟨h2, g2, d2, t2, os'⟩ := s'
      obtain ⟨t0, G, J, kG, ge, hoe, na⟩ := mk_end0 (d2 := d2) (t2 := t2) I1 hsz kk un2 hok2 os2 bare2 ea ed hd1
      refine ⟨rv, ⟨hp.objs.size + 1, _, _, ⟨G, g2, d2, t2, os'⟩, _, .ref C, some d, rfl, J, kG, ge, hoe, ⟨rfl, rfl, fun vs hv => ?_⟩, rfl, rfl, na, rfl, bare2, raises_own T.exC T.tyC, q2⟩, fun a oe vs ea2 hg2 hd2 => ?_⟩
      · cases hv
        rfl
      · cases ea2
        have hg3 : h2.get? (hp.objs.size + 1) = some oe := hg2
        rw [hoe] at hg3
        cases hg3
        cases hd2
        show (4 : Nat) < 6
        decide
    | next => exact False.elim hq'
    | brk => exact False.elim hq'
    | cont => exact False.elim hq'
end
/-- a def of two names under a handled exception -/
theorem fun_okH {P : Program} {w : World} {K : PySem.W.Frag} {mg : Str → Option Value} {base : Heap} {CX : CXT} {x qual : Str} {st : Stmt} {f : Addr} {fd : FuncData} {N ps : List Str} {k : Nat} {sp : Sp} (F : Fun K x qual st f fd) (S : FnScope N ps (defScope st)) (len : ∀ vs H Q E, sp vs H Q E → vs.length = ps.length)
    (hb : ∀ (cdv : Value) (A : Around) (outer : List Env) (s : Shared) (H : Hp) (vs : List V) (Q : VK) (E : XK) (p : Addr × Obj), Hot1 A p → RoomH k (A.deeper (envOfC qual (defScope st) s.heap.objs.size f cdv)) → sp vs H Q E →
      ∃ t, PSs (cxH CX P w K mg base N qual (defScope st) f cdv A outer s H E p) (defBody st) t ∧ t { nx := fun _ H' => Q .non H', rt := Q } (L2.start N vs) H) :
    FnH P w K mg base CX (k + 1) f fd ps sp := by
  obtain ⟨oc, od, kV, doc, pm, an, cdv, ct, osl, rfl, lk, hcd⟩ := F.ex
  exact fn_ofH lk hcd S len fun A outer s H vs Q E p hot hr h => hb cdv A outer s H vs Q E p hot hr h
section
variable {X : Cx} {W : WX} {c f p : Str} {C fI : Addr} {fd : FuncData} {ok : V → Prop} {okd : D → Prop} {e : Expr} {fa : DS → R (List D)} {p1 pos pos2 : Pos}
theorem pds_raiseFN (T : ExcF X.prog X.w X.K X.mg X.base c f p C fI fd ok) (hok : ∀ ρ F d v, okd d → Rd X.K ρ F d v → ok v) (hc : X.calm = true) (hr : Room 2 X.A) (tk : L2N.Takes X W) (ha : PDA X W [e] fa) (hg : Gl X c := by rfl)
    (hdb : (c == ("__debug__" : Str)) = false := by decide) (he : starEach [e] X.env = (false, eval e X.env) :: starEach [] X.env := by rfl) (hpl : (backTo pos (starEach [] X.env)).any (·.1) = false := by rfl) :
    PDs X W (.Raise (some (.Call (.Name c p1) [e] [] pos)) none pos2) (fRaiseF c f okd fa) := by
  obtain ⟨t, ea, l⟩ := ha
  exact ⟨_, L2N.ps_raise hc tk (pmk5_oexC T.ox T.iC T.tI T.fn hr T.hb passL hg T.gC ea hdb he hpl).pmk, fun ρ F s σ H E rl h => raiseF_run T hok l rl h⟩
/-! ### in a suite that may raise -/
theorem suiteY_in {a : Addr} {pn pins : List (Addr × Obj)} {xe : Value → Shared → Prop} {σ : L2.St} {H : Hp} {s : Shared} (I : Inv (suiteY X a pn xe) pins σ H s) : Inv (X.suite a pn) pins σ H s := I.wish fun _ _ => False
theorem pa_suiteY {a : Addr} {pn : List (Addr × Obj)} {xe : Value → Shared → Prop} {es : List Expr} {t : TA} (h : PA (X.suite a pn) es t) : PA (suiteY X a pn xe) es t := by
  refine ⟨fun pos pins s σ H Q I q => ?_⟩
  exact wpAny_mono (h.run pos pins s σ H Q (suiteY_in I) q) (fun us s1 ⟨vs, H1, J, r, q1⟩ => ⟨vs, H1, suiteY_of J, r, q1⟩) fun _ _ z => z.elim
/-- as ExcF, under a handled exception too -/
structure ExcFH (P : Program) (w : World) (K : PySem.W.Frag) (mg : Str → Option Value) (base : Heap) (c f p : Str) (C fI : Addr) (fd : FuncData) (ok : V → Prop) : Prop extends ExcF P w K mg base c f p C fI fd ok where
  fnH : FnH P w K mg base (L2.CX P w) 1 fI fd ["self", p] (spI K C f ok)
theorem raiseH_run {t : TA} {a0 : Addr} {pn : List (Addr × Obj)} {i : Nat} (T : ExcF X.prog X.w X.K X.mg X.base c f p C fI fd ok) (hok : ∀ ρ F d v, okd d → Rd X.K ρ F d v → ok v) (l : Stl (X.suite a0 pn) W0 (RdL X.K) t fa) {ρ : List Addr} {F : Hp} {s s2 : DS} {σ : L2.St} {H : Hp} {E : Ends} {d : D}
    (rl : Rel X.K X.mg ρ F s σ H) (q : fa s = .ok [d] s2) (hd : okd d) (h : PostS X W ρ F H E (.ex ⟨c, [(f, d)]⟩ { s2 with g := s2.g.set i none })) : tMkO C (spI X.K C f ok) [] t σ H (fun cls d H' => W cls d (σ.set i none) H') := by
  refine l ρ F s σ H _ rl ?_
  rw [q]
  intro ρ1 F1 H1 vs x1 rl1 rd1
  obtain ⟨v, rfl, rd⟩ := rdl1 rd1
  refine ⟨by simp, fun a ha => ⟨a, v, rfl, hok _ _ _ _ hd rd, upd_same, fun dx hdx hne => ?_⟩⟩
  rw [upd_ne hne] at hdx
  refine ⟨rfl, dx, [(f, v)], upd_same, by rw [upd_ne hne, upd_same], hdx, ?_⟩
  rw [made_heap ha hne]
  have rl1' : Rel X.K X.mg ρ1 F1 s2 σ H1 := rl1
  obtain ⟨m2, x2⟩ := rl1'.mem.frozen (p := dx) (o := .xd [(f, v)]) hdx
  exact h _ _ _ (σ.set i none) _ _ (x1.trans x2) ⟨m2, (rl1'.slo.ext x2).unset i⟩ ⟨C, T.gC, rfl, (fun z => by cases z), fun _ => ⟨dx, [(f, v)], rfl, upd_same, ⟨v, [], rfl, rd.ext x2, rfl⟩⟩⟩
end
/-- try: .. except B as n: raise C(e) from n -/
noncomputable def fTryFromF (fb : DS → R Fl) (ctch : Ex → Option Bool) (i : Nat) (c f : Str) (okd : D → Prop) (fa : Addr → Addr → Ex → DS → R (List D)) : DS → R Fl := fun s => match fb s with
  | .ex e s1 => match ctch e with
    | some true => if i < s1.g.length then (match fa 0 0 e { s1 with g := s1.g.set i (some (excD 0 0 e)) } with
      | .ok [d] s2 => if Pr (okd d) then .ex ⟨c, [(f, d)]⟩ { s2 with g := s2.g.set i none } else .bad
      | _ => .bad) else .bad
    | some false => .ex e s1
    | none => .bad
  | r => r
section
variable {X : Cx} {W : WX}
theorem pds_try_fromF {xn n c2 f2 q2 : Str} {c : Value} {C2 fI : Addr} {fd : FuncData} {ok : V → Prop} {okd : D → Prop} {e2 : Expr} {i : Nat} {body : List Stmt} {np np2 p2 p4 p5 pos pos' : Pos} {fb : DS → R Fl} {ctch : Ex → Option Bool} {fa : Addr → Addr → Ex → DS → R (List D)}
    (hs : X.stack = X.env :: X.outer) (hf : X.env.frame = some X.env.locals) (hN : X.N.Nodup) (hi : X.N[i]? = some n) (hln : X.env.kindOf n = some .local) (hc : Names X xn c) (hpa : ∀ hd : Option Value, PassesOwnAt (model X.prog X.w) (X.A.mark hd) X.A X.env X.xe) (tk : Takes X W) (hr : Room 2 X.A)
    (hct : ∀ (e : Ex) b C, ctch e = some b → X.mg e.cls = some (.ref C) → PySem.W.exmOne X.K (.ref C) c = some b)
    (hra : ∀ (e : Ex) C, ctch e = some true → X.mg e.cls = some (.ref C) → PySem.W.subIn X.K (.ref C) (.type "BaseException") = some true ∧ PySem.W.typeIn X.K (.ref C) = some (.type "type"))
    (T : ExcFH X.prog X.w X.K X.mg X.base c2 f2 q2 C2 fI fd ok) (hok : ∀ ρ F d v, okd d → Rd X.K ρ F d v → ok v)
    (hb : ∀ (W' : WX) (pn : List (Addr × Obj)) (xe : Value → Shared → Prop), L2N.Takes (X.tr pn xe) W' → PassesOwn (model X.prog X.w) X.A X.env xe → PDss (X.tr pn xe) W' body fb)
    (ha : ∀ (a dx : Addr) (oe : Obj) (cls : Value) (d : Option Addr) (pn : List (Addr × Obj)) (e : Ex), HeldF X e cls d dx a oe → ctch e = some true → PDA (X.suite a ((a, oe) :: pn)) W0 [e2] (fa a dx e))
    (hin : ∀ (a dx : Addr) (e : Ex) (s : DS), (fa a dx e { s with g := s.g.set i (some (excD a dx e)) }).bind (fun fl s2 => R.ok fl { s2 with g := s2.g.set i none }) = (fa 0 0 e { s with g := s.g.set i (some (excD 0 0 e)) }).bind (fun fl s2 => R.ok fl { s2 with g := s2.g.set i none }))
    (hv : Vis X.env.scope n) (hg : Gl X c2 := by rfl) (hdb : (c2 == ("__debug__" : Str)) = false := by decide) (hd1 : (n == ("__debug__" : Str)) = false := by decide) (hd2 : (n == ("__classdict__" : Str)) = false := by decide)
    (he : starEach [e2] X.env = (false, eval e2 X.env) :: starEach [] X.env := by rfl) (hpl : (backTo p4 (starEach [] X.env)).any (·.1) = false := by rfl) :
    PDs X W (.Try body [.ExceptHandler (some (.Name xn np)) (some n) [.Raise (some (.Call (.Name c2 p2) [e2] [] p4)) (some (.Name n np2)) p5] pos'] [] [] pos) (fTryFromF fb ctch i c2 f2 okd fa) := by
  let tb : WX → TS := fun W' => fun D σ H => ∀ pn xe (h1 : L2N.Takes (X.tr pn xe) W') (h2 : PassesOwn (model X.prog X.w) X.A X.env xe), (Classical.choose (hb W' pn xe h1 h2)) D σ H
  let tsO : Addr → Addr → Value → Option Addr → Ex → Obj → List (Addr × Obj) → L2.St → Hp → Prop := fun a dx cls d e oe pn => fun σ H => ∀ (h : HeldF X e cls d dx a oe) (h' : ctch e = some true), tMkO C2 (spI X.K C2 f2 ok) [] (Classical.choose (ha a dx oe cls d pn e h h')) σ H (fun cls d H' => W cls d (σ.set i none) H')
  let ts : Addr → Value → Option Addr → TS := fun a cls d => fun D σ H => Raises X cls ∧ σ[i]? = some (some (.ref a)) ∧ ∃ (e : Ex) (dx : Addr), (∃ C, X.mg e.cls = some (.ref C) ∧ cls = .ref C) ∧ (e.fs = [] → d = none) ∧ (e.fs ≠ [] → d = some dx) ∧ ctch e = some true ∧ ∀ oe pn, tsO a dx cls d e oe pn σ H
  refine ⟨_, ps_try_asX (tb := tb) (ts := ts) hs hf hN hi hln hc hpa tk (fun W' pn xe h1 h2 => ⟨fun pins s σ H D I h => (Classical.choose_spec (hb W' pn xe h1 h2)).1.run pins s σ H D I (h pn xe h1 h2)⟩)
    (fun a oe cls d pn xe hz hf' tkS => ⟨fun pins s σ H D I h => ?_⟩), fun ρ F s σ H E rl h => ?_⟩
  · obtain ⟨hra, hσ, e, dx, hcl, hn, hn2, hq, hw⟩ := h
    obtain ⟨vs, hd⟩ := id hf'
    have hr0 : Raises (suiteY X a ((a, oe) :: pn) xe) oe.cls := by rw [hz.1]; exact hra
    have hh : HeldF X e cls d dx a oe := ⟨hz.zc, hf', hcl, hn, hn2⟩
    have hot : HotC (suiteY X a ((a, oe) :: pn) xe) := ⟨(a, oe), ⟨rfl, vs, hd, hz.2.2 vs hd⟩, List.mem_cons_self⟩
    have pm := pmk5_oexH (X := suiteY X a ((a, oe) :: pn) xe) (CX := L2.CX X.prog X.w) (x := c2) (p := p2) (pos := p4) T.ox T.iC T.tI T.fnH (roomH_mark hr _) hot T.hb passL hg T.gC (pa_suiteY (xe := xe) (Classical.choose_spec (ha a dx oe cls d pn e hh hq)).1) hdb he hpl
    have ps := ps_raiseHC (X := suiteY X a ((a, oe) :: pn) xe) (i := i) (n := n) (np := np2) (pos := p5) (List.mem_cons_self) rfl hd (hz.2.2 vs hd) hr0 hi hv tkS pm hd1 hd2
    exact (pss_one ps).run pins s σ H D I ⟨hσ, hw oe pn hh hq⟩
  · intro pn xe h1 h2
    refine (Classical.choose_spec (hb _ pn xe h1 h2)).2 ρ F s σ H E rl ?_
    unfold fTryFromF at h
    cases q : fb s with
    | bad => rw [q] at h; exact h
    | ok fl s1 => rw [q] at h; cases fl <;> exact h
    | ex e s1 =>
      rw [q] at h
      simp only at h
      intro ρ1 F1 H1 σ1 cls d x1 rl1 er
      have er0 := er
      obtain ⟨C, hC, rfl, hn1, hn2⟩ := er
      cases qc : ctch e with
      | none => rw [qc] at h; exact h.elim
      | some b =>
        rw [qc] at h
        refine ⟨b, hct _ b C qc hC, fun hb' a hna => ?_, fun hb' => ?_⟩
        · subst hb'
          simp only at h
          split at h
          · rename_i hl
            obtain ⟨z1, z2⟩ := hra e C qc hC
            have hl' : i < σ1.length := by rw [← rl1.slo.len]; exact hl
            obtain ⟨dx, hdx⟩ : ∃ dx, e.fs ≠ [] → d = some dx := by
              by_cases hz : e.fs = []
              · exact ⟨0, fun z => absurd hz z⟩
              · obtain ⟨x, vs, e1, _⟩ := hn2 hz
                exact ⟨x, fun _ => e1⟩
            refine ⟨raises_own z1 z2, by rw [List.getElem?_set_self hl'], e, dx, ⟨C, hC, rfl⟩, hn1, hdx, qc, fun oe pn hh hq => ?_⟩
            have hin' := hin a dx e s1
            cases q0 : fa 0 0 e { s1 with g := s1.g.set i (some (excD 0 0 e)) } with
            | bad => rw [q0] at h; exact h.elim
            | ex _ _ => rw [q0] at h; exact h.elim
            | ok ds s0 =>
              rw [q0] at h hin'
              cases qa : fa a dx e { s1 with g := s1.g.set i (some (excD a dx e)) } with
              | bad => rw [qa] at hin'; cases hin'
              | ex _ _ => rw [qa] at hin'; cases hin'
              | ok dsa sa =>
                rw [qa] at hin'
                have hin2 : R.ok dsa { sa with g := sa.g.set i none } = R.ok ds { s0 with g := s0.g.set i none } := hin'
                injection hin2 with e1 e2
                subst e1
                match dsa, h, qa with
                | [d2], h, qa =>
                  simp only at h
                  split at h
                  · rename_i hd
                    have h3 : PostS X W ρ1 F1 H1 E (.ex ⟨c2, [(f2, d2)]⟩ { sa with g := sa.g.set i none }) := by
                      rw [e2]
                      exact PostS.ext h x1
                    have rr := raiseH_run (i := i) T.toExcF hok (Classical.choose_spec (ha a dx oe (.ref C) d pn e hh hq)).2 (s := { s1 with g := s1.g.set i (some (excD a dx e)) }) (σ := σ1.set i (some (.ref a))) ⟨rl1.mem, rl1.slo.set i (excD_rd er0 hdx)⟩ qa hd h3
                    exact rr
                  · exact h.elim
                | [], h, _ => exact h.elim
                | _ :: _ :: _, h, _ => exact h.elim
          · exact h.elim
        · subst hb'
          simp only at h
          exact h ρ1 F1 H1 σ1 (.ref C) d x1 rl1 ⟨C, hC, rfl, hn1, hn2⟩
end
end DL

/-! Targets of every kind: names, o[i], tuples of such. -/
namespace DL
open PySem L2
abbrev GT := D → DS → R Unit
def nxU : Unit → DS → R Fl := fun _ s => .ok .nx s
def PGD (X : Cx) (W : WX) (tg : Expr) (f : GT) : Prop := ∃ g : TG, PG X tg g ∧ ∀ ρ F s σ H E d v, Rel X.K X.mg ρ F s σ H → Rd X.K ρ F d v → PostS X W ρ F H E ((f d s).bind nxU) → g v σ H E.nx
def PGDs (X : Cx) (W : WX) (tgs : List Expr) (f : List D → DS → R Unit) : Prop := ∃ g : TGs, PGs X tgs g ∧ ∀ ρ F s σ H E ds vs, Rel X.K X.mg ρ F s σ H → RdL X.K ρ F ds vs → PostS X W ρ F H E ((f ds s).bind nxU) → g vs σ H E.nx
def wtNil : List D → DS → R Unit := fun ds s => match ds with
  | [] => .ok () s
  | _ => .bad
def wtCons (f : GT) (fr : List D → DS → R Unit) : List D → DS → R Unit := fun ds s => match ds with
  | d :: r => (f d s).bind fun _ s1 => fr r s1
  | _ => .bad
def wtName (i : Nat) : GT := fun d s => .ok () { s with g := s.g.set i (some d) }
def wtSub (fo fi : DS → R D) (g : D → D → D → DS → R Unit) : GT := fun d s => (fo s).bind fun o s1 => (fi s1).bind fun i s2 => g o i d s2
def wtTup (n : Nat) (fr : List D → DS → R Unit) : GT := fun d s => match d with
  | .tup ds => if ds.length = n then fr ds s else .bad
  | _ => .bad
def fAsgW (fd : DS → R D) (f : GT) : DS → R Fl := fun s => (fd s).bind fun d s1 => (f d s1).bind nxU
section
variable {X : Cx} {W : WX} {pos : Pos} {o i tg e : Expr} {es : List Expr} {fd fo fi : DS → R D} {f : GT} {fr : List D → DS → R Unit}
theorem pdw_name {i : Nat} {x : Str} (hN : X.N.Nodup) (hi : X.N[i]? = some x) (hx : Loc X.env.scope x) (hf : X.fn x = true ∨ X.env.scope.names.lookup x = some .local := by first | exact .inl rfl | exact .inr rfl | assumption) : PGD X W (.Name x pos) (wtName i) :=
  ⟨_, pg_name hN hi hx hf, fun ρ F s σ H E d v rl r h => h ρ F H _ (Ext.refl ..) ⟨rl.mem, rl.slo.set i r⟩⟩
theorem pdw_sub {t : TSet} {g : D → D → D → DS → R Unit} (ho : PD X W o fo) (hi : PD X W i fi) (hset : PSet X t) (hg : SetD X W t g)
    (ha : ∀ v, assign (.Subscript o i pos) X.env v = (do
      let ov ← holding [v] (eval o X.env)
      let iv ← holding [v, ov] (eval i X.env)
      standAt pos
      holding [v, ov, iv] (setItem ov iv v)
      release [v, ov, iv] []) := by intro _; rfl) : PGD X W (.Subscript o i pos) (wtSub fo fi g) := by
  obtain ⟨to, e2, l2⟩ := ho
  obtain ⟨ti, e3, l3⟩ := hi
  refine ⟨_, pg_sub e2 e3 hset ha, fun ρ F s σ H E d v rl r h => ?_⟩
  have h' : PostS X W ρ F H E ((fo s).bind fun o s1 => ((fi s1).bind fun i s2 => g o i d s2).bind nxU) := by
    unfold wtSub at h
    cases q : fo s <;> rw [q] at h <;> exact h
  refine l2 ρ F s σ H _ rl (PostS.bind h' fun ov s2 ρ2 F2 H2 ovv x2 rl2 rd2 h2 => ?_)
  have h2' : PostS X W ρ2 F2 H2 E ((fi s2).bind fun i s3 => (g ov i d s3).bind nxU) := by
    cases q : fi s2 <;> rw [q] at h2 <;> exact h2
  refine l3 ρ2 F2 s2 σ H2 _ rl2 (PostS.bind h2' fun iv s3 ρ3 F3 H3 ivv x3 rl3 rd3 h3 => ?_)
  refine hg ρ3 F3 s3 σ H3 ov iv d ovv ivv v _ rl3 (rd2.ext x3) rd3 ((r.ext x2).ext x3) (PostS.bind h3 fun _ s4 ρ4 F4 H4 _ x4 rl4 _ h4 => ?_)
  exact h4 ρ4 F4 H4 σ (Ext.refl ..) rl4
theorem pdws_nil : PGDs X W [] wtNil := by
  refine ⟨_, pgs_nil, fun ρ F s σ H E ds vs rl r h => ?_⟩
  cases ds with
  | nil =>
    have r' : vs = [] := r
    subst r'
    exact ⟨rfl, h ρ F H _ (Ext.refl ..) rl⟩
  | cons _ _ => exact h.elim
theorem pdws_cons (h1 : PGD X W tg f) (h2 : PGDs X W es fr) (hs : (assignEach (tg :: es) X.env).map (·.2) = assign tg X.env :: (assignEach es X.env).map (·.2) := by rfl) : PGDs X W (tg :: es) (wtCons f fr) := by
  obtain ⟨g1, e1, l1⟩ := h1
  obtain ⟨g2, e2, l2⟩ := h2
  refine ⟨_, pgs_cons e1 e2 hs, fun ρ F s σ H E ds vs rl r h => ?_⟩
  cases ds with
  | nil => exact h.elim
  | cons d ds =>
    obtain ⟨v, t, rfl, r1, r2⟩ := r
    refine ⟨v, t, rfl, l1 ρ F s σ H { E with nx := fun σ' H' => g2 t σ' H' E.nx } d v rl r1 ?_⟩
    have h' : PostS X W ρ F H E ((f d s).bind fun _ s1 => (fr ds s1).bind nxU) := by
      unfold wtCons at h
      simp only at h
      cases q : f d s <;> rw [q] at h <;> exact h
    cases q : f d s with
    | bad => rw [q] at h'; exact h'
    | ex e s1 => rw [q] at h'; exact h'
    | ok u s1 =>
      rw [q] at h'
      have h2 : PostS X W ρ F H E ((fr ds s1).bind nxU) := h'
      exact fun ρ' F' H' σ' x rl' => l2 ρ' F' s1 σ' H' E ds t rl' (r2.ext x) (h2.ext x)
theorem pdw_tup {k : Nat} {n : Nat} (hc : X.calm = true) (h : PGDs X W es fr) (hn : (assignEach es X.env).length = n := by rfl) (hst : (assignEach es X.env).findIdx? (·.1) = none := by rfl) : PGD X W (.Tuple es k pos) (wtTup n fr) := by
  obtain ⟨g, e, l⟩ := h
  refine ⟨_, pg_tup hc e hn hst, fun ρ F s σ H E d v rl r hp => ?_⟩
  unfold wtTup at hp
  split at hp
  · rename_i ds
    obtain ⟨a, vs, rfl, q1, r1⟩ := r
    split at hp
    · rename_i hl
      exact ⟨a, vs, rfl, sqT_mono rl.mem.sub q1, by rw [r1.length]; exact hl, l ρ F s σ H E ds vs rl r1 hp⟩
    · exact hp.elim
  · exact hp.elim
theorem pds_asgW (he : PD X W e fd) (hg : PGD X W tg f) (hs : swapsWithSole [tg] e pos.line X.env = pure false := by rfl) (hw : swappedStores [tg] e X.env = pure none := by rfl)
    (h1 : (assignEach [tg] X.env).map (·.2) = [assign tg X.env] := by rfl) : PDs X W (.Assign [tg] e pos) (fAsgW fd f) := by
  obtain ⟨te, e1, l⟩ := he
  obtain ⟨g, e2, l2⟩ := hg
  refine ⟨_, ps_asg e1 e2 hs hw h1, fun ρ F s σ H E rl h => l ρ F s σ H _ rl (PostS.bind h fun d s1 ρ1 F1 H1 v x1 rl1 rd1 h1 => ?_)⟩
  exact l2 ρ1 F1 s1 σ H1 E d v rl1 rd1 h1
end
end DL

/-! x in a list, data of any depth. -/
namespace DL
open PySem L2
noncomputable def gInD (neg : Bool) : D → D → DS → R D := fun x y s => match vw s y with
  | .lst ds => if okD 63 (vw s x) = true ∧ okD 64 (.lst ds) = true then .ok (.bl (if neg = true then !ds.any (fun z => eqD z (vw s x)) else ds.any (fun z => eqD z (vw s x)))) s else .bad
  | _ => .bad
theorem anyD_eqv {x : D} (hx : okD 63 x = true) : ∀ ds : List D, okL 63 ds = true → ((toPL ds).any fun z => PyData.eqv z (toP x)) = ds.any fun z => eqD z x
  | [], _ => rfl
  | d :: ds, h => by
    simp only [okL, Bool.and_eq_true] at h
    simp only [toPL, List.any_cons, eqD_eqv 63 63 d x h.1 hx, anyD_eqv hx ds h.2]
section
variable {X : Cx} {W : WX}
theorem inD_run {neg : Bool} {x y : D} {s : DS} {r : R D} (h : gInD neg x y s = r) (hb : r ≠ .bad) : ∃ ds, vw s y = .lst ds ∧ okD 63 (vw s x) = true ∧ okD 64 (.lst ds) = true ∧ r = .ok (.bl (if neg = true then !ds.any (fun z => eqD z (vw s x)) else ds.any (fun z => eqD z (vw s x)))) s := by
  unfold gInD at h
  split at h
  · rename_i ds e
    split at h
    · rename_i hc
      exact ⟨ds, e, hc.1, hc.2, h.symm⟩
    · exact absurd h.symm hb
  · exact absurd h.symm hb
theorem opd_inD : OpD X W (rInD X.K) (gInD false) := by
  intro ρ F s σ H x y v u Q rl r1 r2 h
  obtain ⟨ds, e, h1, h2, e2⟩ := inD_run (r := gInD false x y s) rfl (fun z => by rw [z] at h; exact h)
  rw [e2] at h
  have d1 := vw_dp rl.mem h1 r1
  have d2 := vw_dp rl.mem (show okD 64 (vw s y) = true by rw [e]; exact h2) r2
  rw [e] at d2
  refine ⟨_, _, d1, d2, okD_shaped h1 (by omega), okD_shaped h2 (Nat.le_refl _), ?_⟩
  rw [anyD_eqv h1 ds (by simpa [okD] using h2)]
  exact h ρ F H _ (Ext.refl ..) rl rfl
theorem opd_notInD : OpD X W (rNotInD X.K) (gInD true) := by
  intro ρ F s σ H x y v u Q rl r1 r2 h
  obtain ⟨ds, e, h1, h2, e2⟩ := inD_run (r := gInD true x y s) rfl (fun z => by rw [z] at h; exact h)
  rw [e2] at h
  have d1 := vw_dp rl.mem h1 r1
  have d2 := vw_dp rl.mem (show okD 64 (vw s y) = true by rw [e]; exact h2) r2
  rw [e] at d2
  refine ⟨_, _, d1, d2, okD_shaped h1 (by omega), okD_shaped h2 (Nat.le_refl _), ?_⟩
  rw [anyD_eqv h1 ds (by simpa [okD] using h2)]
  exact h ρ F H _ (Ext.refl ..) rl rfl
end
end DL

set_option Elab.async false
set_option linter.all false
set_option maxRecDepth 100000
set_option maxHeartbeats 4000000
namespace DL.My
open PySem L2 DL

def topS (i : Nat) : Stmt := PySem.Challenge.pw_plugtree_k22_journals_looked_at.main.body.getD i (.Pass ⟨0, 0, 0, 0⟩)
abbrev s_need_number : Stmt := topS 6
abbrev N_need_number : List Str := ["number", "least", "most"]
theorem sc_need_number : FnScope ["number", "least", "most"] ["number", "least", "most"] (defScope s_need_number) := ⟨rfl, rfl, rfl, by decide +kernel, rfl, by decide +kernel, by decide +kernel⟩
abbrev s_bits_of : Stmt := topS 7
abbrev N_bits_of : List Str := ["number", "many", "found", "at"]
theorem sc_bits_of : FnScope ["number", "many", "found", "at"] ["number", "many"] (defScope s_bits_of) := ⟨rfl, rfl, rfl, by decide +kernel, rfl, by decide +kernel, by decide +kernel⟩
abbrev s_shifted : Stmt := topS 8
abbrev N_shifted : List Str := ["row", "form", "full", "marks", "found", "bit", "top"]
theorem sc_shifted : FnScope ["row", "form", "full", "marks", "found", "bit", "top"] ["row", "form"] (defScope s_shifted) := ⟨rfl, rfl, rfl, by decide +kernel, rfl, by decide +kernel, by decide +kernel⟩
abbrev s_sum16 : Stmt := topS 9
abbrev N_sum16 : List Str := ["data", "row", "byte"]
theorem sc_sum16 : FnScope ["data", "row", "byte"] ["data"] (defScope s_sum16) := ⟨rfl, rfl, rfl, by decide +kernel, rfl, by decide +kernel, by decide +kernel⟩
abbrev s_need_packet : Stmt := topS 14
abbrev N_need_packet : List Str := ["packet", "word", "sizes", "e"]
theorem sc_need_packet : FnScope ["packet", "word", "sizes", "e"] ["packet"] (defScope s_need_packet) := ⟨rfl, rfl, rfl, by decide +kernel, rfl, by decide +kernel, by decide +kernel⟩
abbrev s_cost : Stmt := topS 19
abbrev N_cost : List Str := ["size"]
theorem sc_cost : FnScope ["size"] ["size"] (defScope s_cost) := ⟨rfl, rfl, rfl, by decide +kernel, rfl, by decide +kernel, by decide +kernel⟩
abbrev s_next_words : Stmt := topS 21
abbrev N_next_words : List Str := ["row", "frame", "who", "packet", "came", "begin", "word"]
theorem sc_next_words : FnScope ["row", "frame", "who", "packet", "came", "begin", "word"] ["row"] (defScope s_next_words) := ⟨rfl, rfl, rfl, by decide +kernel, rfl, by decide +kernel, by decide +kernel⟩
abbrev s_takes : Stmt := topS 22
abbrev N_takes : List Str := ["row", "packet"]
theorem sc_takes : FnScope ["row", "packet"] ["row"] (defScope s_takes) := ⟨rfl, rfl, rfl, by decide +kernel, rfl, by decide +kernel, by decide +kernel⟩
abbrev s_shaped : Stmt := topS 23
abbrev N_shaped : List Str := ["row", "frame", "who", "packet", "came"]
theorem sc_shaped : FnScope ["row", "frame", "who", "packet", "came"] ["row"] (defScope s_shaped) := ⟨rfl, rfl, rfl, by decide +kernel, rfl, by decide +kernel, by decide +kernel⟩
abbrev s_first_wrong : Stmt := topS 24
abbrev N_first_wrong : List Str := ["rows", "room", "at", "row", "frame", "who", "packet", "came", "ahead"]
theorem sc_first_wrong : FnScope ["rows", "room", "at", "row", "frame", "who", "packet", "came", "ahead"] ["rows"] (defScope s_first_wrong) := ⟨rfl, rfl, rfl, by decide +kernel, rfl, by decide +kernel, by decide +kernel⟩
abbrev s_law_bag : Stmt := topS 26
abbrev N_law_bag : List Str := ["_law_script", "_law_cells", "_law_knot", "_law_cell"]
theorem sc_law_bag : FnScope ["_law_script", "_law_cells", "_law_knot", "_law_cell"] ["_law_script"] (defScope s_law_bag) := ⟨rfl, rfl, rfl, by decide +kernel, rfl, by decide +kernel, by decide +kernel⟩
abbrev s_law_pull : Stmt := topS 27
abbrev N_law_pull : List Str := ["_law_bag_here", "_law_upto", "_law_seed", "_law_fold", "_law_twist", "_law_drawn"]
theorem sc_law_pull : FnScope ["_law_bag_here", "_law_upto", "_law_seed", "_law_fold", "_law_twist", "_law_drawn"] ["_law_bag_here", "_law_upto"] (defScope s_law_pull) := ⟨rfl, rfl, rfl, by decide +kernel, rfl, by decide +kernel, by decide +kernel⟩
abbrev s_law_whole : Stmt := topS 28
abbrev N_law_whole : List Str := ["_law_found"]
theorem sc_law_whole : FnScope ["_law_found"] ["_law_found"] (defScope s_law_whole) := ⟨rfl, rfl, rfl, by decide +kernel, rfl, by decide +kernel, by decide +kernel⟩
abbrev s_law_same : Stmt := topS 29
abbrev N_law_same : List Str := ["_law_found", "_law_due", "_law_spot"]
theorem sc_law_same : FnScope ["_law_found", "_law_due", "_law_spot"] ["_law_found", "_law_due"] (defScope s_law_same) := ⟨rfl, rfl, rfl, by decide +kernel, rfl, by decide +kernel, by decide +kernel⟩
abbrev s_law_one : Stmt := topS 30
abbrev N_law_one : List Str := ["_law_bag_here", "_law_row"]
theorem sc_law_one : FnScope ["_law_bag_here", "_law_row"] ["_law_bag_here", "_law_row"] (defScope s_law_one) := ⟨rfl, rfl, rfl, by decide +kernel, rfl, by decide +kernel, by decide +kernel⟩
abbrev s_law_bytes : Stmt := topS 31
abbrev N_law_bytes : List Str := ["_law_bag_here", "_law_most", "_law_many", "_law_k"]
theorem sc_law_bytes : FnScope ["_law_bag_here", "_law_most", "_law_many", "_law_k"] ["_law_bag_here", "_law_most"] (defScope s_law_bytes) := ⟨rfl, rfl, rfl, by decide +kernel, rfl, by decide +kernel, by decide +kernel⟩
abbrev s_law_turn : Stmt := topS 32
abbrev N_law_turn : List Str := ["_law_bag_here", "_law_frame", "_law_number", "_law_endpoint", "_law_came", "_law_rows", "_law_reply", "_law_there"]
theorem sc_law_turn : FnScope ["_law_bag_here", "_law_frame", "_law_number", "_law_endpoint", "_law_came", "_law_rows", "_law_reply", "_law_there"] ["_law_bag_here", "_law_frame"] (defScope s_law_turn) := ⟨rfl, rfl, rfl, by decide +kernel, rfl, by decide +kernel, by decide +kernel⟩
abbrev s_law_made : Stmt := topS 33
abbrev N_law_made : List Str := ["_law_bag_here", "_law_frame", "_law_rows", "_law_k", "_law_more"]
theorem sc_law_made : FnScope ["_law_bag_here", "_law_frame", "_law_rows", "_law_k", "_law_more"] ["_law_bag_here"] (defScope s_law_made) := ⟨rfl, rfl, rfl, by decide +kernel, rfl, by decide +kernel, by decide +kernel⟩
abbrev s_law_after : Stmt := topS 34
abbrev N_law_after : List Str := ["_law_row", "_law_frame", "_law_who", "_law_packet", "_law_came", "_law_starts"]
theorem sc_law_after : FnScope ["_law_row", "_law_frame", "_law_who", "_law_packet", "_law_came", "_law_starts"] ["_law_row"] (defScope s_law_after) := ⟨rfl, rfl, rfl, by decide +kernel, rfl, by decide +kernel, by decide +kernel⟩
abbrev s_law_shape : Stmt := topS 35
abbrev N_law_shape : List Str := ["_law_row", "_law_frame", "_law_who", "_law_packet", "_law_came", "_law_sizes", "_law_speakers", "_law_byte"]
theorem sc_law_shape : FnScope ["_law_row", "_law_frame", "_law_who", "_law_packet", "_law_came", "_law_sizes", "_law_speakers", "_law_byte"] ["_law_row"] (defScope s_law_shape) := ⟨rfl, rfl, rfl, by decide +kernel, rfl, by decide +kernel, by decide +kernel⟩
abbrev s_law_wrong : Stmt := topS 36
abbrev N_law_wrong : List Str := ["_law_rows", "_law_room", "_law_at", "_law_row", "_law_word", "_law_taken"]
theorem sc_law_wrong : FnScope ["_law_rows", "_law_room", "_law_at", "_law_row", "_law_word", "_law_taken"] ["_law_rows"] (defScope s_law_wrong) := ⟨rfl, rfl, rfl, by decide +kernel, rfl, by decide +kernel, by decide +kernel⟩
abbrev s_law_bent : Stmt := topS 37
abbrev N_law_bent : List Str := ["_law_bag_here", "_law_rows", "_law_at", "_law_other", "_law_frame", "_law_who", "_law_packet", "_law_came", "_law_pick", "_law_found"]
theorem sc_law_bent : FnScope ["_law_bag_here", "_law_rows", "_law_at", "_law_other", "_law_frame", "_law_who", "_law_packet", "_law_came", "_law_pick", "_law_found"] ["_law_bag_here", "_law_rows"] (defScope s_law_bent) := ⟨rfl, rfl, rfl, by decide +kernel, rfl, by decide +kernel, by decide +kernel⟩
abbrev s_law : Stmt := topS 38
abbrev N_law : List Str := ["_law_script", "_law_bag_here", "_law_k", "_law_rows", "_law_more", "_law_given"]
theorem sc_law : FnScope ["_law_script", "_law_bag_here", "_law_k", "_law_rows", "_law_more", "_law_given"] ["_law_script"] (defScope s_law) := ⟨rfl, rfl, rfl, by decide +kernel, rfl, by decide +kernel, by decide +kernel⟩
def ct_BadNumber : Ex → Option Bool := fun e => if e.cls = "BadNumber" ∧ e.fs = [] then some true else if e.cls = "BadPacket" ∧ e.fs = [] then some false else none
def ct_BadPacket : Ex → Option Bool := fun e => if e.cls = "BadNumber" ∧ e.fs = [] then some false else if e.cls = "BadPacket" ∧ e.fs = [] then some true else none

abbrev gv_SIXTEEN : D := (.tup [(.int 65535), (.int 32773)])
abbrev gv_TOKENS : D := (.tup [(.str "out"), (.str "in"), (.str "setup")])
abbrev gv_ANSWERS : D := (.tup [(.str "ack"), (.str "nak"), (.str "stall")])
abbrev gv_MOST_DATA : D := (.int 64)
abbrev gv_FRAME : D := (.int 1500)
abbrev gv_BESIDE : D := (.int 13)
abbrev gv_BEGIN : D := (.int 6)

noncomputable section

def b_need_number : DS → R Fl :=
  (fIfS (fNotT (fTst (fChain (fVar 1) (fVar 0) (fVar 2) gLe gLe))) (fRaise "BadNumber") fNx)
def g_need_number : GP := fun args => match args with
  | [.int n, .int lo, .int hi] => if Pr (lo ≤ n ∧ n ≤ hi) then .ok .non ⟨[], []⟩ else .ex ⟨"BadNumber", []⟩ ⟨[], []⟩
  | _ => .bad
theorem eq_need_number : ∀ args, args.length = 3 → g_need_number args ≠ .bad → pureF (runF 3 b_need_number) args = g_need_number args := by
  intro args hl h
  unfold g_need_number at h ⊢
  split
  · rename_i n lo hi
    by_cases h1 : lo ≤ n
    · by_cases h2 : n ≤ hi <;> simp -dsimp -implicitDefEqProofs [pureF, runF, fVar, fC, fBin, gI, gI0, gAdd, gSub, gMul, gDiv, gMod, gPow, gAnd, gOr, gXor, gShl, gShr, gLt, gLe, gGt, gGe, fTst, asB, fChain, fNotT, fAndT, fOrT, fNotV, fAndV, fOrV, fIf, fIsN, isNon, fIfS, fSeq, fNx, fCt, fRet, fRetN, fDrop, fAsg, Tg.run, setAll, fCall, fCons, fNil, fTup, fLst, fNew, fMt, isLst, lstV, seqV, objL, gAppend, gExtend, gIx, fSl, gSl, fO, fNoO, fRev, fWR1, fWR2, fWL, wkSeq, fWT, wkTup, allw, fFor, fCallP, fCallS, clL, clD, clK, fVarZ, frzG, fRaise, fSetIx, fPar, gSetL, fAug, gLen, gList, gListN, gTuple, gInt, gIsi, tyOf, isTy, sizeLine, CPow, gIAdd, gAddN, wkEnumL, wkEnumT, fWEL, fWET, fNeg, fCallK, gSumT, gSumL, lsV, fWR3, fCallNP, b_need_number, h1, h2]
    · simp -dsimp -implicitDefEqProofs [pureF, runF, fVar, fC, fBin, gI, gI0, gAdd, gSub, gMul, gDiv, gMod, gPow, gAnd, gOr, gXor, gShl, gShr, gLt, gLe, gGt, gGe, fTst, asB, fChain, fNotT, fAndT, fOrT, fNotV, fAndV, fOrV, fIf, fIsN, isNon, fIfS, fSeq, fNx, fCt, fRet, fRetN, fDrop, fAsg, Tg.run, setAll, fCall, fCons, fNil, fTup, fLst, fNew, fMt, isLst, lstV, seqV, objL, gAppend, gExtend, gIx, fSl, gSl, fO, fNoO, fRev, fWR1, fWR2, fWL, wkSeq, fWT, wkTup, allw, fFor, fCallP, fCallS, clL, clD, clK, fVarZ, frzG, fRaise, fSetIx, fPar, gSetL, fAug, gLen, gList, gListN, gTuple, gInt, gIsi, tyOf, isTy, sizeLine, CPow, gIAdd, gAddN, wkEnumL, wkEnumT, fWEL, fWET, fNeg, fCallK, gSumT, gSumL, lsV, fWR3, fCallNP, b_need_number, h1]
  · simp at h

def lb_bits_of_0 : DS → R Fl := (fSeq (fDrop (fMt isLst (fVar 2) (fCons (fBin (fVar 0) (fC (.int 1)) gAnd) fNil) gAppend))
    (fAug 0 (fC (.int 1)) gShr))
def b_bits_of : DS → R Fl :=
  (fSeq (fDrop (fCallP 3 (fCons (fVar 0) (fCons (fC (.int 0)) (fCons (fBin (fC (.int 10)) (fC (.int 60)) gPow) fNil))) [] g_need_number))
    (fSeq (fDrop (fCallP 3 (fCons (fVar 1) (fCons (fC (.int 0)) (fCons (fC (.int 64)) fNil))) [] g_need_number))
    (fSeq (fAsg (fNew fNil) (.one 2))
    (fSeq (fFor (fWR1 (fCons (fVar 1) fNil)) (.one 3) lb_bits_of_0)
    (fRet (fVarZ 2))))))
def g_bits_of : GP := fun args => match args with
  | [.int n, .int m] => if Pr ((0 ≤ n ∧ n ≤ 1000000000000000000000000000000000000000000000000000000000000) ∧ 0 ≤ m ∧ m ≤ 64) then .ok (.lst ((bitsI n m.toNat).map .int)) ⟨[], []⟩ else .ex ⟨"BadNumber", []⟩ ⟨[], []⟩
  | _ => .bad
theorem eq_bits_of : ∀ args, args.length = 2 → g_bits_of args ≠ .bad → pureF (runF 4 b_bits_of) args = g_bits_of args := by
  intro args hl h
  unfold g_bits_of at h ⊢
  split
  · rename_i n m
    by_cases h1 : 0 ≤ n ∧ n ≤ 1000000000000000000000000000000000000000000000000000000000000
    · by_cases h2 : 0 ≤ m ∧ m ≤ 64
      · have hm : (m.toNat : Int) = m := Int.toNat_of_nonneg h2.1
        obtain ⟨s', l1, x, l2⟩ := loop_inv (P := allw) (step := fStep (.one 3) lb_bits_of_0) (fun i s => ∃ x, s = ⟨[some (.int (n / 2 ^ i)), some (.int m), some (.obj 0), x], [.lst ((bitsI n i).map .int)]⟩) (rngD 0 m.toNat) (fun _ _ _ => rfl)
          (fun i d s e ⟨x, hs⟩ => by
            obtain ⟨hi, rfl⟩ := rng0_get e
            subst hs
            refine ⟨_, .inl ?_, some (.int i), rfl⟩
            have hz : (bitsI n i).length < 16777216 := by rw [bitsI_len]; omega
            simp -dsimp -implicitDefEqProofs [pureF, runF, fVar, fC, fBin, gI, gI0, gAdd, gSub, gMul, gDiv, gMod, gPow, gAnd, gOr, gXor, gShl, gShr, gLt, gLe, gGt, gGe, fTst, asB, fChain, fNotT, fAndT, fOrT, fNotV, fAndV, fOrV, fIf, fIsN, isNon, fIfS, fSeq, fNx, fCt, fRet, fRetN, fDrop, fAsg, Tg.run, setAll, fCall, fCons, fNil, fTup, fLst, fNew, fMt, isLst, lstV, seqV, objL, gAppend, gExtend, gIx, fSl, gSl, fO, fNoO, fRev, fWR1, fWR2, fWL, wkSeq, fWT, wkTup, allw, fFor, fCallP, fCallS, clL, clD, clK, fVarZ, frzG, fRaise, fSetIx, fPar, gSetL, fAug, gLen, gList, gListN, gTuple, gInt, gIsi, tyOf, isTy, sizeLine, CPow, gIAdd, gAddN, wkEnumL, wkEnumT, fWEL, fWET, fNeg, fCallK, gSumT, gSumL, lsV, fWR3, fCallNP, fStep, lb_bits_of_0, hz, bitsI_succ, PyProof.Rows.bitAnd_m1, half_pow])
          (s := ⟨[some (.int n), some (.int m), some (.obj 0), none], [.lst []]⟩) ⟨none, by simp [bitsI]⟩
        rw [rng_len] at l2
        subst l2
        simp -dsimp -implicitDefEqProofs [pureF, runF, fVar, fC, fBin, gI, gI0, gAdd, gSub, gMul, gDiv, gMod, gPow, gAnd, gOr, gXor, gShl, gShr, gLt, gLe, gGt, gGe, fTst, asB, fChain, fNotT, fAndT, fOrT, fNotV, fAndV, fOrV, fIf, fIsN, isNon, fIfS, fSeq, fNx, fCt, fRet, fRetN, fDrop, fAsg, Tg.run, setAll, fCall, fCons, fNil, fTup, fLst, fNew, fMt, isLst, lstV, seqV, objL, gAppend, gExtend, gIx, fSl, gSl, fO, fNoO, fRev, fWR1, fWR2, fWL, wkSeq, fWT, wkTup, allw, fFor, fCallP, fCallS, clL, clD, clK, fVarZ, frzG, fRaise, fSetIx, fPar, gSetL, fAug, gLen, gList, gListN, gTuple, gInt, gIsi, tyOf, isTy, sizeLine, CPow, gIAdd, gAddN, wkEnumL, wkEnumT, fWEL, fWET, fNeg, fCallK, gSumT, gSumL, lsV, fWR3, fCallNP, b_bits_of, g_need_number, h1, h2, wkR1_int m _ h2.1 (by omega), l1]
      · simp -dsimp -implicitDefEqProofs [pureF, runF, fVar, fC, fBin, gI, gI0, gAdd, gSub, gMul, gDiv, gMod, gPow, gAnd, gOr, gXor, gShl, gShr, gLt, gLe, gGt, gGe, fTst, asB, fChain, fNotT, fAndT, fOrT, fNotV, fAndV, fOrV, fIf, fIsN, isNon, fIfS, fSeq, fNx, fCt, fRet, fRetN, fDrop, fAsg, Tg.run, setAll, fCall, fCons, fNil, fTup, fLst, fNew, fMt, isLst, lstV, seqV, objL, gAppend, gExtend, gIx, fSl, gSl, fO, fNoO, fRev, fWR1, fWR2, fWL, wkSeq, fWT, wkTup, allw, fFor, fCallP, fCallS, clL, clD, clK, fVarZ, frzG, fRaise, fSetIx, fPar, gSetL, fAug, gLen, gList, gListN, gTuple, gInt, gIsi, tyOf, isTy, sizeLine, CPow, gIAdd, gAddN, wkEnumL, wkEnumT, fWEL, fWET, fNeg, fCallK, gSumT, gSumL, lsV, fWR3, fCallNP, b_bits_of, g_need_number, h1, h2]
    · simp -dsimp -implicitDefEqProofs [pureF, runF, fVar, fC, fBin, gI, gI0, gAdd, gSub, gMul, gDiv, gMod, gPow, gAnd, gOr, gXor, gShl, gShr, gLt, gLe, gGt, gGe, fTst, asB, fChain, fNotT, fAndT, fOrT, fNotV, fAndV, fOrV, fIf, fIsN, isNon, fIfS, fSeq, fNx, fCt, fRet, fRetN, fDrop, fAsg, Tg.run, setAll, fCall, fCons, fNil, fTup, fLst, fNew, fMt, isLst, lstV, seqV, objL, gAppend, gExtend, gIx, fSl, gSl, fO, fNoO, fRev, fWR1, fWR2, fWL, wkSeq, fWT, wkTup, allw, fFor, fCallP, fCallS, clL, clD, clK, fVarZ, frzG, fRaise, fSetIx, fPar, gSetL, fAug, gLen, gList, gListN, gTuple, gInt, gIsi, tyOf, isTy, sizeLine, CPow, gIAdd, gAddN, wkEnumL, wkEnumT, fWEL, fWET, fNeg, fCallK, gSumT, gSumL, lsV, fWR3, fCallNP, b_bits_of, g_need_number, h1]
  · simp at h

def lb_shifted_0 : DS → R Fl := (fSeq (fAsg (fCall (fCons (fBin (fBin (fVar 4) (fC (.int 2)) gMul) (fVar 2) gGt) fNil) gInt) (.one 6))
    (fSeq (fAsg (fBin (fBin (fVar 4) (fC (.int 1)) gShl) (fVar 2) gAnd) (.one 4))
    (fIfS (fTst (fBin (fVar 6) (fVar 5) gNe)) (fAug 4 (fVar 3) gXor) fNx)))
def b_shifted : DS → R Fl :=
  (fSeq (fAsg (fVar 1) (.many [2, 3]))
    (fSeq (fAsg (fVar 2) (.one 4))
    (fSeq (fFor (fWL (fVar 0)) (.one 5) lb_shifted_0)
    (fRet (fBin (fVar 4) (fVar 2) gXor)))))
def g_shifted : GP := pureF (runF 7 b_shifted)
theorem eq_shifted : ∀ args, args.length = 2 → g_shifted args ≠ .bad → pureF (runF 7 b_shifted) args = g_shifted args := fun _ _ _ => rfl

theorem shifted_gen (W row : List Int) (full marks : Int) (hW : bits01 W) (h0 : 0 < W.length) (h16 : W.length ≤ 16) (hf : full + 1 = 2 ^ W.length) (hand : ∀ x, Builtin.bitAnd x full = x % (full + 1)) (hm : highI W = marks) (hr : bits01 row) :
    g_shifted [.lst (row.map .int), .tup [.int full, .int marks]] = .ok (.int (highI (crcI W row))) ⟨[], []⟩ := by
  subst hm
  have hones : bits01 (List.replicate W.length 1) := fun c hc => .inr (List.mem_replicate.mp hc).2
  have hfull : highI (List.replicate W.length 1) = full := by
    have e := highI_not _ (List.replicate W.length (0 : Int)) rfl
    rw [List.map_replicate, List.length_replicate] at e
    have z : ∀ n, highI (List.replicate n (0 : Int)) = 0 := fun n => by
      induction n with
      | zero => rfl
      | succ n ih => rw [List.replicate_succ', highI_snoc, ih]; rfl
    rw [z] at e
    have : (1 : Int) - 0 = 1 := by decide
    rw [this] at e
    omega
  obtain ⟨s', l1, x5, x6, l2⟩ := loop_ints (step := fStep (.one 5) lb_shifted_0) (fun i s => ∃ x5 x6, s = ⟨[some (.lst (row.map .int)), some (.tup [.int full, .int (highI W)]), some (.int full), some (.int (highI W)), some (.int (highI (regN W (List.replicate W.length 1) (row.take i)))), x5, x6], []⟩) row
    (fun i b s e ⟨x5, x6, hs⟩ => by
      subst hs
      have hb := hr b (List.mem_of_getElem? e)
      rw [take_get e, regN_snoc]
      generalize hR : regN W (List.replicate W.length 1) (row.take i) = R
      have hRb : bits01 R := hR ▸ regN_bits W _ _ hones
      have hRl : R.length = W.length := by rw [← hR, regN_len]; simp
      obtain ⟨c0, c1, c2, c3, c4⟩ := reg_num W R b full hW hRb hRl h0 hf hand hb
      have cm : CMul (highI R) 2 := .inr ⟨by decide, by decide⟩
      have hn : (highI R).natAbs < 18446744073709551616 := by
        have q := highI_lt _ R rfl hRb
        have h5 : (2 : Nat) ^ R.length ≤ 2 ^ 16 := Nat.pow_le_pow_right (by decide) (by omega)
        have h6 : ((2 : Int) ^ R.length) = ((2 ^ R.length : Nat) : Int) := by simp
        rw [h6] at q
        omega
      rcases c0 with g | g
      · have g' : ¬ highI R * 2 ≤ full := by omega
        rcases hb with rfl | rfl
        · rw [c1 g rfl]
          simp -dsimp -implicitDefEqProofs [pureF, runF, fVar, fC, fBin, gI, gI0, gAdd, gSub, gMul, gDiv, gMod, gPow, gAnd, gOr, gXor, gShl, gShr, gLt, gLe, gGt, gGe, fTst, asB, fChain, fNotT, fAndT, fOrT, fNotV, fAndV, fOrV, fIf, fIsN, isNon, fIfS, fSeq, fNx, fCt, fRet, fRetN, fDrop, fAsg, Tg.run, setAll, fCall, fCons, fNil, fTup, fLst, fNew, fMt, isLst, lstV, seqV, objL, gAppend, gExtend, gIx, fSl, gSl, fO, fNoO, fRev, fWR1, fWR2, fWL, wkSeq, fWT, wkTup, allw, fFor, fCallP, fCallS, clL, clD, clK, fVarZ, frzG, fRaise, fSetIx, fPar, gSetL, fAug, gLen, gList, gListN, gTuple, gInt, gIsi, tyOf, isTy, sizeLine, CPow, gIAdd, gAddN, wkEnumL, wkEnumT, fWEL, fWET, fNeg, fCallK, gSumT, gSumL, lsV, fWR3, fCallNP, fStep, lb_shifted_0, cm, hn, g, g']
          exact ⟨.inl rfl, _, _, rfl⟩
        · rw [c2 g rfl]
          simp -dsimp -implicitDefEqProofs [pureF, runF, fVar, fC, fBin, gI, gI0, gAdd, gSub, gMul, gDiv, gMod, gPow, gAnd, gOr, gXor, gShl, gShr, gLt, gLe, gGt, gGe, fTst, asB, fChain, fNotT, fAndT, fOrT, fNotV, fAndV, fOrV, fIf, fIsN, isNon, fIfS, fSeq, fNx, fCt, fRet, fRetN, fDrop, fAsg, Tg.run, setAll, fCall, fCons, fNil, fTup, fLst, fNew, fMt, isLst, lstV, seqV, objL, gAppend, gExtend, gIx, fSl, gSl, fO, fNoO, fRev, fWR1, fWR2, fWL, wkSeq, fWT, wkTup, allw, fFor, fCallP, fCallS, clL, clD, clK, fVarZ, frzG, fRaise, fSetIx, fPar, gSetL, fAug, gLen, gList, gListN, gTuple, gInt, gIsi, tyOf, isTy, sizeLine, CPow, gIAdd, gAddN, wkEnumL, wkEnumT, fWEL, fWET, fNeg, fCallK, gSumT, gSumL, lsV, fWR3, fCallNP, fStep, lb_shifted_0, cm, hn, g, g']
          exact ⟨.inl rfl, _, _, rfl⟩
      · have g' : ¬ full < highI R * 2 := by omega
        rcases hb with rfl | rfl
        · rw [c4 g rfl]
          simp -dsimp -implicitDefEqProofs [pureF, runF, fVar, fC, fBin, gI, gI0, gAdd, gSub, gMul, gDiv, gMod, gPow, gAnd, gOr, gXor, gShl, gShr, gLt, gLe, gGt, gGe, fTst, asB, fChain, fNotT, fAndT, fOrT, fNotV, fAndV, fOrV, fIf, fIsN, isNon, fIfS, fSeq, fNx, fCt, fRet, fRetN, fDrop, fAsg, Tg.run, setAll, fCall, fCons, fNil, fTup, fLst, fNew, fMt, isLst, lstV, seqV, objL, gAppend, gExtend, gIx, fSl, gSl, fO, fNoO, fRev, fWR1, fWR2, fWL, wkSeq, fWT, wkTup, allw, fFor, fCallP, fCallS, clL, clD, clK, fVarZ, frzG, fRaise, fSetIx, fPar, gSetL, fAug, gLen, gList, gListN, gTuple, gInt, gIsi, tyOf, isTy, sizeLine, CPow, gIAdd, gAddN, wkEnumL, wkEnumT, fWEL, fWET, fNeg, fCallK, gSumT, gSumL, lsV, fWR3, fCallNP, fStep, lb_shifted_0, cm, hn, g, g']
          exact ⟨.inl rfl, _, _, rfl⟩
        · rw [c3 g rfl]
          simp -dsimp -implicitDefEqProofs [pureF, runF, fVar, fC, fBin, gI, gI0, gAdd, gSub, gMul, gDiv, gMod, gPow, gAnd, gOr, gXor, gShl, gShr, gLt, gLe, gGt, gGe, fTst, asB, fChain, fNotT, fAndT, fOrT, fNotV, fAndV, fOrV, fIf, fIsN, isNon, fIfS, fSeq, fNx, fCt, fRet, fRetN, fDrop, fAsg, Tg.run, setAll, fCall, fCons, fNil, fTup, fLst, fNew, fMt, isLst, lstV, seqV, objL, gAppend, gExtend, gIx, fSl, gSl, fO, fNoO, fRev, fWR1, fWR2, fWL, wkSeq, fWT, wkTup, allw, fFor, fCallP, fCallS, clL, clD, clK, fVarZ, frzG, fRaise, fSetIx, fPar, gSetL, fAug, gLen, gList, gListN, gTuple, gInt, gIsi, tyOf, isTy, sizeLine, CPow, gIAdd, gAddN, wkEnumL, wkEnumT, fWEL, fWET, fNeg, fCallK, gSumT, gSumL, lsV, fWR3, fCallNP, fStep, lb_shifted_0, cm, hn, g, g']
          exact ⟨.inl rfl, _, _, rfl⟩)
    (s := ⟨[some (.lst (row.map .int)), some (.tup [.int full, .int (highI W)]), some (.int full), some (.int (highI W)), some (.int full), none, none], []⟩) ⟨none, none, by simp [regN, hfull]⟩
  subst l2
  rw [List.take_length] at l1
  have hc := crc_num W row full hf hW
  simp -dsimp -implicitDefEqProofs [pureF, runF, fVar, fC, fBin, gI, gI0, gAdd, gSub, gMul, gDiv, gMod, gPow, gAnd, gOr, gXor, gShl, gShr, gLt, gLe, gGt, gGe, fTst, asB, fChain, fNotT, fAndT, fOrT, fNotV, fAndV, fOrV, fIf, fIsN, isNon, fIfS, fSeq, fNx, fCt, fRet, fRetN, fDrop, fAsg, Tg.run, setAll, fCall, fCons, fNil, fTup, fLst, fNew, fMt, isLst, lstV, seqV, objL, gAppend, gExtend, gIx, fSl, gSl, fO, fNoO, fRev, fWR1, fWR2, fWL, wkSeq, fWT, wkTup, allw, fFor, fCallP, fCallS, clL, clD, clK, fVarZ, frzG, fRaise, fSetIx, fPar, gSetL, fAug, gLen, gList, gListN, gTuple, gInt, gIsi, tyOf, isTy, sizeLine, CPow, gIAdd, gAddN, wkEnumL, wkEnumT, fWEL, fWET, fNeg, fCallK, gSumT, gSumL, lsV, fWR3, fCallNP, g_shifted, b_shifted, l1, hc]
theorem shifted5 (row : List Int) (hr : bits01 row) : g_shifted [.lst (row.map .int), .tup [.int 31, .int 5]] = .ok (.int (highI (crcI W5 row))) ⟨[], []⟩ :=
  shifted_gen W5 row 31 5 (by unfold bits01; decide) (by decide) (by decide) (by decide) PyProof.Rows.bitAnd_m5 (by decide) hr
theorem shifted16 (row : List Int) (hr : bits01 row) : g_shifted [.lst (row.map .int), .tup [.int 65535, .int 32773]] = .ok (.int (highI (crcI W16 row))) ⟨[], []⟩ :=
  shifted_gen W16 row 65535 32773 (by unfold bits01; decide) (by decide) (by decide) (by decide) PyProof.Rows.bitAnd_m16 (by decide) hr

def lb_sum16_0 : DS → R Fl := (fSeq (fDrop (fCallP 3 (fCons (fVar 2) (fCons (fC (.int 0)) (fCons (fC (.int 255)) fNil))) [] g_need_number))
    (fDrop (fMt isLst (fVar 1) (fCons (fCallP 2 (fCons (fVar 2) (fCons (fC (.int 8)) fNil)) [] g_bits_of) fNil) gExtend)))
def b_sum16 : DS → R Fl :=
  (fSeq (fAsg (fNew fNil) (.one 1))
    (fSeq (fFor (fWT (fVar 0)) (.one 2) lb_sum16_0)
    (fRet (fCallP 2 (fCons (fVarZ 1) (fCons (fC gv_SIXTEEN) fNil)) [] g_shifted))))
def g_sum16 : GP := pureF (runF 3 b_sum16)
theorem eq_sum16 : ∀ args, args.length = 1 → g_sum16 args ≠ .bad → pureF (runF 3 b_sum16) args = g_sum16 args := fun _ _ _ => rfl

def byteB (ds : List Int) : List Int := (ds.map fun b => bitsI b 8).flatten
theorem byteB_01 (ds : List Int) : bits01 (byteB ds) := by
  intro b hb
  obtain ⟨l, hl, hb⟩ := List.mem_flatten.mp hb
  obtain ⟨d, _, rfl⟩ := List.mem_map.mp hl
  exact bitsI_01 d 8 b hb
theorem byteB_snoc (ds : List Int) (d : Int) : byteB (ds ++ [d]) = byteB ds ++ bitsI d 8 := by simp [byteB]
theorem byteB_len (ds : List Int) : (byteB ds).length = 8 * ds.length := by
  induction ds with
  | nil => rfl
  | cons d ds ih =>
    simp only [byteB, List.map_cons, List.flatten_cons, List.length_append, bitsI_len, List.length_cons] at ih ⊢
    omega
def isByte (d : Int) : Prop := 0 ≤ d ∧ d ≤ 255
theorem sum16_eq (ds : List Int) (hb : ∀ d ∈ ds, isByte d) (hl : ds.length ≤ 1000) : g_sum16 [.tup (ds.map .int)] = .ok (.int (highI (crcI W16 (byteB ds)))) ⟨[], []⟩ := by
  obtain ⟨s', l1, x2, l2⟩ := loop_ints (step := fStep (.one 2) lb_sum16_0) (fun i s => ∃ x2, s = ⟨[some (.tup (ds.map .int)), some (.obj 0), x2], [.lst ((byteB (ds.take i)).map .int)]⟩) ds
    (fun i b s e ⟨x2, hs⟩ => by
      subst hs
      have hb1 := hb b (List.mem_of_getElem? e)
      have h1 : 0 ≤ b := hb1.1
      have h2 : b ≤ 255 := hb1.2
      have h3 : b ≤ 1000000000000000000000000000000000000000000000000000000000000 := by omega
      have hz : (byteB (ds.take i)).length + 8 ≤ 16777216 := by
        rw [byteB_len, List.length_take]
        omega
      rw [take_get e, byteB_snoc]
      simp -dsimp -implicitDefEqProofs [pureF, runF, fVar, fC, fBin, gI, gI0, gAdd, gSub, gMul, gDiv, gMod, gPow, gAnd, gOr, gXor, gShl, gShr, gLt, gLe, gGt, gGe, fTst, asB, fChain, fNotT, fAndT, fOrT, fNotV, fAndV, fOrV, fIf, fIsN, isNon, fIfS, fSeq, fNx, fCt, fRet, fRetN, fDrop, fAsg, Tg.run, setAll, fCall, fCons, fNil, fTup, fLst, fNew, fMt, isLst, lstV, seqV, objL, gAppend, gExtend, gIx, fSl, gSl, fO, fNoO, fRev, fWR1, fWR2, fWL, wkSeq, fWT, wkTup, allw, fFor, fCallP, fCallS, clL, clD, clK, fVarZ, frzG, fRaise, fSetIx, fPar, gSetL, fAug, gLen, gList, gListN, gTuple, gInt, gIsi, tyOf, isTy, sizeLine, CPow, gIAdd, gAddN, wkEnumL, wkEnumT, fWEL, fWET, fNeg, fCallK, gSumT, gSumL, lsV, fWR3, fCallNP, fStep, lb_sum16_0, g_need_number, g_bits_of, h1, h2, h3, bitsI_len, hz]
      exact ⟨.inl rfl, some (.int b), by simp⟩)
    (s := ⟨[some (.tup (ds.map .int)), some (.obj 0), none], [.lst []]⟩) ⟨none, by simp [byteB]⟩
  subst l2
  rw [List.take_length] at l1
  have hs := shifted16 (byteB ds) (byteB_01 ds)
  simp -dsimp -implicitDefEqProofs [pureF, runF, fVar, fC, fBin, gI, gI0, gAdd, gSub, gMul, gDiv, gMod, gPow, gAnd, gOr, gXor, gShl, gShr, gLt, gLe, gGt, gGe, fTst, asB, fChain, fNotT, fAndT, fOrT, fNotV, fAndV, fOrV, fIf, fIsN, isNon, fIfS, fSeq, fNx, fCt, fRet, fRetN, fDrop, fAsg, Tg.run, setAll, fCall, fCons, fNil, fTup, fLst, fNew, fMt, isLst, lstV, seqV, objL, gAppend, gExtend, gIx, fSl, gSl, fO, fNoO, fRev, fWR1, fWR2, fWL, wkSeq, fWT, wkTup, allw, fFor, fCallP, fCallS, clL, clD, clK, fVarZ, frzG, fRaise, fSetIx, fPar, gSetL, fAug, gLen, gList, gListN, gTuple, gInt, gIsi, tyOf, isTy, sizeLine, CPow, gIAdd, gAddN, wkEnumL, wkEnumT, fWEL, fWET, fNeg, fCallK, gSumT, gSumL, lsV, fWR3, fCallNP, g_sum16, b_sum16, l1, hs]
theorem sum16_bad (as : List Int) (o : Int) (bs : List Int) (ha : ∀ d ∈ as, isByte d) (hl : as.length ≤ 1000) (ho : ¬ isByte o) : g_sum16 [.tup ((as ++ o :: bs).map .int)] = .ex ⟨"BadNumber", []⟩ ⟨[], []⟩ := by
  obtain ⟨s', ⟨x2, l1⟩, l2⟩ := loop_to (P := allw) (step := fStep (.one 2) lb_sum16_0) (fun i s => ∃ x2, s = ⟨[some (.tup ((as ++ o :: bs).map .int)), some (.obj 0), x2], [.lst ((byteB (as.take i)).map .int)]⟩) ((as ++ o :: bs).map .int) (fun _ _ _ => rfl) as.length (by simp)
    (fun i d s hi e ⟨x2, hs⟩ => by
      subst hs
      rw [List.getElem?_map, List.getElem?_append_left hi, List.getElem?_eq_getElem hi] at e
      cases e
      have hb1 := ha _ (List.getElem_mem hi)
      have h1 : 0 ≤ as[i] := hb1.1
      have h2 : as[i] ≤ 255 := hb1.2
      have h3 : as[i] ≤ 1000000000000000000000000000000000000000000000000000000000000 := by omega
      have hz : (byteB (as.take i)).length + 8 ≤ 16777216 := by
        rw [byteB_len, List.length_take]
        omega
      rw [take_get (List.getElem?_eq_getElem hi), byteB_snoc]
      simp -dsimp -implicitDefEqProofs [pureF, runF, fVar, fC, fBin, gI, gI0, gAdd, gSub, gMul, gDiv, gMod, gPow, gAnd, gOr, gXor, gShl, gShr, gLt, gLe, gGt, gGe, fTst, asB, fChain, fNotT, fAndT, fOrT, fNotV, fAndV, fOrV, fIf, fIsN, isNon, fIfS, fSeq, fNx, fCt, fRet, fRetN, fDrop, fAsg, Tg.run, setAll, fCall, fCons, fNil, fTup, fLst, fNew, fMt, isLst, lstV, seqV, objL, gAppend, gExtend, gIx, fSl, gSl, fO, fNoO, fRev, fWR1, fWR2, fWL, wkSeq, fWT, wkTup, allw, fFor, fCallP, fCallS, clL, clD, clK, fVarZ, frzG, fRaise, fSetIx, fPar, gSetL, fAug, gLen, gList, gListN, gTuple, gInt, gIsi, tyOf, isTy, sizeLine, CPow, gIAdd, gAddN, wkEnumL, wkEnumT, fWEL, fWET, fNeg, fCallK, gSumT, gSumL, lsV, fWR3, fCallNP, fStep, lb_sum16_0, g_need_number, g_bits_of, h1, h2, h3, bitsI_len, hz]
      exact ⟨.inl rfl, some (.int as[i]), by simp⟩)
    (s := ⟨[some (.tup ((as ++ o :: bs).map .int)), some (.obj 0), none], [.lst []]⟩) ⟨none, by simp [byteB]⟩
  subst l1
  unfold isByte at ho
  have l3 : ((as ++ o :: bs).map D.int).drop as.length = (o :: bs).map .int := by
    rw [List.map_append, List.drop_append_of_le_length (by simp), List.drop_of_length_le (by simp), List.nil_append]
  rw [l3] at l2
  have l4 : ∀ s, s = (⟨[some (.tup ((as ++ o :: bs).map .int)), some (.obj 0), x2], [.lst ((byteB (as.take as.length)).map .int)]⟩ : DS) → loopL allw (fStep (.one 2) lb_sum16_0) ((o :: bs).map .int) s = .ex ⟨"BadNumber", []⟩ ⟨[some (.tup ((as ++ o :: bs).map .int)), some (.obj 0), some (.int o)], [.lst ((byteB (as.take as.length)).map .int)]⟩ := by
    intro s hs
    subst hs
    simp -dsimp -implicitDefEqProofs [pureF, runF, fVar, fC, fBin, gI, gI0, gAdd, gSub, gMul, gDiv, gMod, gPow, gAnd, gOr, gXor, gShl, gShr, gLt, gLe, gGt, gGe, fTst, asB, fChain, fNotT, fAndT, fOrT, fNotV, fAndV, fOrV, fIf, fIsN, isNon, fIfS, fSeq, fNx, fCt, fRet, fRetN, fDrop, fAsg, Tg.run, setAll, fCall, fCons, fNil, fTup, fLst, fNew, fMt, isLst, lstV, seqV, objL, gAppend, gExtend, gIx, fSl, gSl, fO, fNoO, fRev, fWR1, fWR2, fWL, wkSeq, fWT, wkTup, allw, fFor, fCallP, fCallS, clL, clD, clK, fVarZ, frzG, fRaise, fSetIx, fPar, gSetL, fAug, gLen, gList, gListN, gTuple, gInt, gIsi, tyOf, isTy, sizeLine, CPow, gIAdd, gAddN, wkEnumL, wkEnumT, fWEL, fWET, fNeg, fCallK, gSumT, gSumL, lsV, fWR3, fCallNP, loopL, fStep, lb_sum16_0, g_need_number, ho]
  rw [l4 _ rfl] at l2
  clear l4 l3
  generalize as ++ o :: bs = cs at *
  simp -dsimp -implicitDefEqProofs [pureF, runF, fVar, fC, fBin, gI, gI0, gAdd, gSub, gMul, gDiv, gMod, gPow, gAnd, gOr, gXor, gShl, gShr, gLt, gLe, gGt, gGe, fTst, asB, fChain, fNotT, fAndT, fOrT, fNotV, fAndV, fOrV, fIf, fIsN, isNon, fIfS, fSeq, fNx, fCt, fRet, fRetN, fDrop, fAsg, Tg.run, setAll, fCall, fCons, fNil, fTup, fLst, fNew, fMt, isLst, lstV, seqV, objL, gAppend, gExtend, gIx, fSl, gSl, fO, fNoO, fRev, fWR1, fWR2, fWL, wkSeq, fWT, wkTup, allw, fFor, fCallP, fCallS, clL, clD, clK, fVarZ, frzG, fRaise, fSetIx, fPar, gSetL, fAug, gLen, gList, gListN, gTuple, gInt, gIsi, tyOf, isTy, sizeLine, CPow, gIAdd, gAddN, wkEnumL, wkEnumT, fWEL, fWET, fNeg, fCallK, gSumT, gSumL, lsV, fWR3, fCallNP, g_sum16, b_sum16, l2]

def b_need_packet : DS → R Fl :=
  (fSeq (fAsg (fBin (fVar 0) (fC (.int 0)) gIx) (.one 1))
    (fSeq (fAsg (fDisp (fPCons (fC (.str "out")) (fC (.int 3)) (fPCons (fC (.str "in")) (fC (.int 3)) (fPCons (fC (.str "setup")) (fC (.int 3)) (fPCons (fC (.str "frame")) (fC (.int 2)) (fPCons (fC (.str "data")) (fC (.int 3)) (fPCons (fC (.str "ack")) (fC (.int 1)) (fPCons (fC (.str "nak")) (fC (.int 1)) (fPCons (fC (.str "stall")) (fC (.int 1)) fPNil))))))))) (.one 2))
    (fSeq (fIfS (fTst (fBin (fCall (fCons (fVar 0) fNil) gLen) (fDget2 (fVar 2) (fVar 1) (fC (.int 0))) gNe)) (fRaise "BadPacket") fNx)
    (fTryFrom (fSeq (fIfS (fTst (fBin (fVar 1) (fC gv_TOKENS) (gIn false))) (fSeq (fDrop (fCallP 3 (fCons (fBin (fVar 0) (fC (.int 1)) gIx) (fCons (fC (.int 0)) (fCons (fC (.int 127)) fNil))) [] g_need_number))
    (fDrop (fCallP 3 (fCons (fBin (fVar 0) (fC (.int 2)) gIx) (fCons (fC (.int 0)) (fCons (fC (.int 15)) fNil))) [] g_need_number))) fNx)
    (fSeq (fIfS (fTst (fBin (fVar 1) (fC (.str "frame")) gEq)) (fDrop (fCallP 3 (fCons (fBin (fVar 0) (fC (.int 1)) gIx) (fCons (fC (.int 0)) (fCons (fC (.int 2047)) fNil))) [] g_need_number)) fNx)
    (fIfS (fTst (fBin (fVar 1) (fC (.str "data")) gEq)) (fSeq (fDrop (fCallP 3 (fCons (fBin (fVar 0) (fC (.int 1)) gIx) (fCons (fC (.int 0)) (fCons (fC (.int 1)) fNil))) [] g_need_number))
    (fSeq (fDrop (fCallP 3 (fCons (fCall (fCons (fBin (fVar 0) (fC (.int 2)) gIx) fNil) gLen) (fCons (fC (.int 0)) (fCons (fC gv_MOST_DATA) fNil))) [] g_need_number))
    (fDrop (fCallP 1 (fCons (fBin (fVar 0) (fC (.int 2)) gIx) fNil) [] g_sum16)))) fNx))) ct_BadNumber 3 "BadPacket"))))
def g_need_packet : GP := pureF (runF 4 b_need_packet)
theorem eq_need_packet : ∀ args, args.length = 1 → g_need_packet args ≠ .bad → pureF (runF 4 b_need_packet) args = g_need_packet args := fun _ _ _ => rfl

def isTok (w : Str) : Prop := w = "out" ∨ w = "in" ∨ w = "setup"
def isAns (w : Str) : Prop := w = "ack" ∨ w = "nak" ∨ w = "stall"
def szK : List (Key × D) := [(.inr "out", .int 3), (.inr "in", .int 3), (.inr "setup", .int 3), (.inr "frame", .int 2), (.inr "data", .int 3), (.inr "ack", .int 1), (.inr "nak", .int 1), (.inr "stall", .int 1)]
theorem sz_tab : tabD [(D.str ("out" : Str), D.int 3), (D.str ("in" : Str), D.int 3), (D.str ("setup" : Str), D.int 3), (D.str ("frame" : Str), D.int 2), (D.str ("data" : Str), D.int 3), (D.str ("ack" : Str), D.int 1), (D.str ("nak" : Str), D.int 1), (D.str ("stall" : Str), D.int 1)] = some szK := rfl
theorem sz_nd : (szK.map fun x => x.fst).Nodup := by decide +kernel
theorem sz_len : szK.length ≤ 15 := by decide
theorem sz_val : valD szK (.inr ("out" : Str)) = some (.int 3) ∧ valD szK (.inr ("in" : Str)) = some (.int 3) ∧ valD szK (.inr ("setup" : Str)) = some (.int 3) ∧ valD szK (.inr ("frame" : Str)) = some (.int 2) ∧ valD szK (.inr ("data" : Str)) = some (.int 3) ∧ valD szK (.inr ("ack" : Str)) = some (.int 1) ∧ valD szK (.inr ("nak" : Str)) = some (.int 1) ∧ valD szK (.inr ("stall" : Str)) = some (.int 1) := ⟨rfl, rfl, rfl, rfl, rfl, rfl, rfl, rfl⟩
theorem need_tok (w : Str) (hw : isTok w) (a b : Int) (ha : 0 ≤ a ∧ a ≤ 127) (hb : 0 ≤ b ∧ b ≤ 15) : g_need_packet [.tup [.str w, .int a, .int b]] = .ok .non ⟨[], []⟩ := by
  have z1 := sz_tab
  have z2 := sz_nd
  have z3 := sz_len
  have z4 := sz_val
  generalize szK = S at *
  rcases hw with rfl | rfl | rfl <;> simp -dsimp -implicitDefEqProofs [pureF, runF, fVar, fC, fBin, gI, gI0, gAdd, gSub, gMul, gDiv, gMod, gPow, gAnd, gOr, gXor, gShl, gShr, gLt, gLe, gGt, gGe, fTst, asB, fChain, fNotT, fAndT, fOrT, fNotV, fAndV, fOrV, fIf, fIsN, isNon, fIfS, fSeq, fNx, fCt, fRet, fRetN, fDrop, fAsg, Tg.run, setAll, fCall, fCons, fNil, fTup, fLst, fNew, fMt, isLst, lstV, seqV, objL, gAppend, gExtend, gIx, fSl, gSl, fO, fNoO, fRev, fWR1, fWR2, fWL, wkSeq, fWT, wkTup, allw, fFor, fCallP, fCallS, clL, clD, clK, fVarZ, frzG, fRaise, fSetIx, fPar, gSetL, fAug, gLen, gList, gListN, gTuple, gInt, gIsi, tyOf, isTy, sizeLine, CPow, gIAdd, gAddN, wkEnumL, wkEnumT, fWEL, fWET, fNeg, fCallK, gSumT, gSumL, lsV, fWR3, fCallNP, g_need_packet, b_need_packet, fTryFrom, g_need_number, fDget2, fDisp, fPCons, fPNil, z1, z2, z3, z4, dctV, keyD, ha.1, ha.2, hb.1, hb.2]
theorem need_ans (w : Str) (hw : isAns w) : g_need_packet [.tup [.str w]] = .ok .non ⟨[], []⟩ := by
  have z1 := sz_tab
  have z2 := sz_nd
  have z3 := sz_len
  have z4 := sz_val
  generalize szK = S at *
  rcases hw with rfl | rfl | rfl <;> simp -dsimp -implicitDefEqProofs [pureF, runF, fVar, fC, fBin, gI, gI0, gAdd, gSub, gMul, gDiv, gMod, gPow, gAnd, gOr, gXor, gShl, gShr, gLt, gLe, gGt, gGe, fTst, asB, fChain, fNotT, fAndT, fOrT, fNotV, fAndV, fOrV, fIf, fIsN, isNon, fIfS, fSeq, fNx, fCt, fRet, fRetN, fDrop, fAsg, Tg.run, setAll, fCall, fCons, fNil, fTup, fLst, fNew, fMt, isLst, lstV, seqV, objL, gAppend, gExtend, gIx, fSl, gSl, fO, fNoO, fRev, fWR1, fWR2, fWL, wkSeq, fWT, wkTup, allw, fFor, fCallP, fCallS, clL, clD, clK, fVarZ, frzG, fRaise, fSetIx, fPar, gSetL, fAug, gLen, gList, gListN, gTuple, gInt, gIsi, tyOf, isTy, sizeLine, CPow, gIAdd, gAddN, wkEnumL, wkEnumT, fWEL, fWET, fNeg, fCallK, gSumT, gSumL, lsV, fWR3, fCallNP, g_need_packet, b_need_packet, fTryFrom, g_need_number, fDget2, fDisp, fPCons, fPNil, z1, z2, z3, z4, dctV, keyD]
theorem need_frame (n : Int) (hn : 0 ≤ n ∧ n ≤ 2047) : g_need_packet [.tup [.str ("frame" : Str), .int n]] = .ok .non ⟨[], []⟩ := by
  have z1 := sz_tab
  have z2 := sz_nd
  have z3 := sz_len
  have z4 := sz_val
  generalize szK = S at *
  simp -dsimp -implicitDefEqProofs [pureF, runF, fVar, fC, fBin, gI, gI0, gAdd, gSub, gMul, gDiv, gMod, gPow, gAnd, gOr, gXor, gShl, gShr, gLt, gLe, gGt, gGe, fTst, asB, fChain, fNotT, fAndT, fOrT, fNotV, fAndV, fOrV, fIf, fIsN, isNon, fIfS, fSeq, fNx, fCt, fRet, fRetN, fDrop, fAsg, Tg.run, setAll, fCall, fCons, fNil, fTup, fLst, fNew, fMt, isLst, lstV, seqV, objL, gAppend, gExtend, gIx, fSl, gSl, fO, fNoO, fRev, fWR1, fWR2, fWL, wkSeq, fWT, wkTup, allw, fFor, fCallP, fCallS, clL, clD, clK, fVarZ, frzG, fRaise, fSetIx, fPar, gSetL, fAug, gLen, gList, gListN, gTuple, gInt, gIsi, tyOf, isTy, sizeLine, CPow, gIAdd, gAddN, wkEnumL, wkEnumT, fWEL, fWET, fNeg, fCallK, gSumT, gSumL, lsV, fWR3, fCallNP, g_need_packet, b_need_packet, fTryFrom, g_need_number, fDget2, fDisp, fPCons, fPNil, z1, z2, z3, z4, dctV, keyD, hn.1, hn.2]
theorem need_data (m : Int) (hm : 0 ≤ m ∧ m ≤ 1) (ds : List Int) (hd : ∀ d ∈ ds, isByte d) (hl : ds.length ≤ 64) : g_need_packet [.tup [.str ("data" : Str), .int m, .tup (ds.map .int)]] = .ok .non ⟨[], []⟩ := by
  have z1 := sz_tab
  have z2 := sz_nd
  have z3 := sz_len
  have z4 := sz_val
  generalize szK = S at *
  have h16 := sum16_eq ds hd (by omega)
  have hl' : (ds.length : Int) ≤ 64 := by omega
  have hc : clL 0 (ds.map D.int) = true := clL_int 0 ds
  have hln : (ds.map D.int).length = ds.length := by simp
  generalize ds.map D.int = xs at *
  simp -dsimp -implicitDefEqProofs [pureF, runF, fVar, fC, fBin, gI, gI0, gAdd, gSub, gMul, gDiv, gMod, gPow, gAnd, gOr, gXor, gShl, gShr, gLt, gLe, gGt, gGe, fTst, asB, fChain, fNotT, fAndT, fOrT, fNotV, fAndV, fOrV, fIf, fIsN, isNon, fIfS, fSeq, fNx, fCt, fRet, fRetN, fDrop, fAsg, Tg.run, setAll, fCall, fCons, fNil, fTup, fLst, fNew, fMt, isLst, lstV, seqV, objL, gAppend, gExtend, gIx, fSl, gSl, fO, fNoO, fRev, fWR1, fWR2, fWL, wkSeq, fWT, wkTup, allw, fFor, fCallP, fCallS, clL, clD, clK, fVarZ, frzG, fRaise, fSetIx, fPar, gSetL, fAug, gLen, gList, gListN, gTuple, gInt, gIsi, tyOf, isTy, sizeLine, CPow, gIAdd, gAddN, wkEnumL, wkEnumT, fWEL, fWET, fNeg, fCallK, gSumT, gSumL, lsV, fWR3, fCallNP, g_need_packet, b_need_packet, fTryFrom, g_need_number, fDget2, fDisp, fPCons, fPNil, z1, z2, z3, z4, dctV, keyD, hm.1, hm.2, hln, hl', h16, hc]

def b_cost : DS → R Fl :=
  (fSeq (fDrop (fCallP 3 (fCons (fVar 0) (fCons (fC (.int 0)) (fCons (fC (.int 64)) fNil))) [] g_need_number))
    (fRet (fBin (fVar 0) (fC gv_BESIDE) gAdd)))
def g_cost : GP := pureF (runF 1 b_cost)
theorem eq_cost : ∀ args, args.length = 1 → g_cost args ≠ .bad → pureF (runF 1 b_cost) args = g_cost args := fun _ _ _ => rfl

theorem cost_eq (n : Int) : g_cost [.int n] = if Pr (0 ≤ n ∧ n ≤ 64) then .ok (.int (n + 13)) ⟨[], []⟩ else .ex ⟨"BadNumber", []⟩ ⟨[], []⟩ := by
  by_cases h : 0 ≤ n ∧ n ≤ 64
  · rw [if_Pr h]
    simp -dsimp -implicitDefEqProofs [pureF, runF, fVar, fC, fBin, gI, gI0, gAdd, gSub, gMul, gDiv, gMod, gPow, gAnd, gOr, gXor, gShl, gShr, gLt, gLe, gGt, gGe, fTst, asB, fChain, fNotT, fAndT, fOrT, fNotV, fAndV, fOrV, fIf, fIsN, isNon, fIfS, fSeq, fNx, fCt, fRet, fRetN, fDrop, fAsg, Tg.run, setAll, fCall, fCons, fNil, fTup, fLst, fNew, fMt, isLst, lstV, seqV, objL, gAppend, gExtend, gIx, fSl, gSl, fO, fNoO, fRev, fWR1, fWR2, fWL, wkSeq, fWT, wkTup, allw, fFor, fCallP, fCallS, clL, clD, clK, fVarZ, frzG, fRaise, fSetIx, fPar, gSetL, fAug, gLen, gList, gListN, gTuple, gInt, gIsi, tyOf, isTy, sizeLine, CPow, gIAdd, gAddN, wkEnumL, wkEnumT, fWEL, fWET, fNeg, fCallK, gSumT, gSumL, lsV, fWR3, fCallNP, g_cost, b_cost, g_need_number, h]
  · rw [if_nPr h]
    simp -dsimp -implicitDefEqProofs [pureF, runF, fVar, fC, fBin, gI, gI0, gAdd, gSub, gMul, gDiv, gMod, gPow, gAnd, gOr, gXor, gShl, gShr, gLt, gLe, gGt, gGe, fTst, asB, fChain, fNotT, fAndT, fOrT, fNotV, fAndV, fOrV, fIf, fIsN, isNon, fIfS, fSeq, fNx, fCt, fRet, fRetN, fDrop, fAsg, Tg.run, setAll, fCall, fCons, fNil, fTup, fLst, fNew, fMt, isLst, lstV, seqV, objL, gAppend, gExtend, gIx, fSl, gSl, fO, fNoO, fRev, fWR1, fWR2, fWL, wkSeq, fWT, wkTup, allw, fFor, fCallP, fCallS, clL, clD, clK, fVarZ, frzG, fRaise, fSetIx, fPar, gSetL, fAug, gLen, gList, gListN, gTuple, gInt, gIsi, tyOf, isTy, sizeLine, CPow, gIAdd, gAddN, wkEnumL, wkEnumT, fWEL, fWET, fNeg, fCallK, gSumT, gSumL, lsV, fWR3, fCallNP, g_cost, b_cost, g_need_number, h]

def ce_next_words_0 : DS → R D := (fTup (fCons (fC (.str "thing")) (fCons (fVar 6) fNil)))
def b_next_words : DS → R Fl :=
  (fSeq (fAsg (fVar 0) (.many [1, 2, 3, 4]))
    (fSeq (fAsg (fLst (fCons (fTup (fCons (fC (.str "host")) (fCons (fC (.str "frame")) fNil))) (fCons (fTup (fCons (fC (.str "host")) (fCons (fC (.str "in")) fNil))) (fCons (fTup (fCons (fC (.str "host")) (fCons (fC (.str "out")) fNil))) (fCons (fTup (fCons (fC (.str "host")) (fCons (fC (.str "setup")) fNil))) fNil))))) (.one 5))
    (fSeq (fIfS (fTst (fBin (fBin (fVar 3) (fC (.int 0)) gIx) (fTup (fCons (fC (.str "out")) (fCons (fC (.str "setup")) fNil))) (gIn false))) (fRet (fLst (fCons (fTup (fCons (fC (.str "host")) (fCons (fC (.str "data")) fNil))) fNil))) fNx)
    (fSeq (fIfS (fTst (fBin (fBin (fVar 3) (fC (.int 0)) gIx) (fC (.str "in")) gEq)) (fRet (fIf (fTst (fVar 4)) (fBin (fVar 5) (fLst (fCons (fTup (fCons (fC (.str "thing")) (fCons (fC (.str "data")) fNil))) (fCons (fTup (fCons (fC (.str "thing")) (fCons (fC (.str "nak")) fNil))) (fCons (fTup (fCons (fC (.str "thing")) (fCons (fC (.str "stall")) fNil))) fNil)))) gAdd) (fVar 5))) fNx)
    (fSeq (fIfS (fAndT (fTst (fBin (fBin (fVar 3) (fC (.int 0)) gIx) (fC (.str "data")) gEq)) (fTst (fBin (fVar 2) (fC (.str "host")) gEq))) (fRet (fIf (fTst (fVar 4)) (fBin (fVar 5) (fLc (fComp (fWT (fC gv_ANSWERS)) (.one 6) [6] fYes ce_next_words_0)) gAdd) (fVar 5))) fNx)
    (fSeq (fIfS (fAndT (fTst (fBin (fBin (fVar 3) (fC (.int 0)) gIx) (fC (.str "data")) gEq)) (fTst (fVar 4))) (fRet (fLst (fCons (fTup (fCons (fC (.str "host")) (fCons (fC (.str "ack")) fNil))) fNil))) fNx)
    (fRet (fVar 5))))))))
def g_next_words : GP := pureF (runF 7 b_next_words)
theorem eq_next_words : ∀ args, args.length = 1 → g_next_words args ≠ .bad → pureF (runF 7 b_next_words) args = g_next_words args := fun _ _ _ => rfl

def word8 (w : String) : Prop := w = "out" ∨ w = "in" ∨ w = "setup" ∨ w = "frame" ∨ w = "data" ∨ w = "ack" ∨ w = "nak" ∨ w = "stall"
theorem sz_none (w : String) (h : ¬ word8 w) : valD szK (.inr (Str.ofString w)) = none := by
  unfold word8 at h
  simp only [not_or] at h
  have e : ∀ a : String, ¬ w = a → decide ((Sum.inr (Str.ofString a) : Key) = Sum.inr (Str.ofString w)) = false := fun a ha => by
    simp
    exact fun z => ha z.symm
  obtain ⟨h1, h2, h3, h4, h5, h6, h7, h8⟩ := h
  unfold valD szK
  simp only [List.find?, e _ h1, e _ h2, e _ h3, e _ h4, e _ h5, e _ h6, e _ h7, e _ h8, Option.map_none]
def szIs (w : String) (n : Int) : Prop := valD szK (.inr (Str.ofString w)) = some (.int n) ∨ (valD szK (.inr (Str.ofString w)) = none ∧ n = 0)
theorem need_size (w : String) (n : Int) (rest : List D) (hv : szIs w n) (hl : ¬ (rest.length : Int) + 1 = n) (hc : clL 0 rest = true) : g_need_packet [.tup (.str w :: rest)] = .ex ⟨"BadPacket", []⟩ ⟨[], []⟩ := by
  have z1 := sz_tab
  have z2 := sz_nd
  have z3 := sz_len
  unfold szIs at hv
  generalize szK = S at *
  rcases hv with hv | ⟨hv, rfl⟩ <;> simp -dsimp -implicitDefEqProofs [pureF, runF, fVar, fC, fBin, gI, gI0, gAdd, gSub, gMul, gDiv, gMod, gPow, gAnd, gOr, gXor, gShl, gShr, gLt, gLe, gGt, gGe, fTst, asB, fChain, fNotT, fAndT, fOrT, fNotV, fAndV, fOrV, fIf, fIsN, isNon, fIfS, fSeq, fNx, fCt, fRet, fRetN, fDrop, fAsg, Tg.run, setAll, fCall, fCons, fNil, fTup, fLst, fNew, fMt, isLst, lstV, seqV, objL, gAppend, gExtend, gIx, fSl, gSl, fO, fNoO, fRev, fWR1, fWR2, fWL, wkSeq, fWT, wkTup, allw, fFor, fCallP, fCallS, clL, clD, clK, fVarZ, frzG, fRaise, fSetIx, fPar, gSetL, fAug, gLen, gList, gListN, gTuple, gInt, gIsi, tyOf, isTy, sizeLine, CPow, gIAdd, gAddN, wkEnumL, wkEnumT, fWEL, fWET, fNeg, fCallK, gSumT, gSumL, lsV, fWR3, fCallNP, g_need_packet, b_need_packet, fTryFrom, g_need_number, fDget2, fDisp, fPCons, fPNil, z1, z2, z3, hv, hl, dctV, keyD]
theorem need_tok_bad (w : Str) (hw : isTok w) (a b : Int) (h : ¬ ((0 ≤ a ∧ a ≤ 127) ∧ 0 ≤ b ∧ b ≤ 15)) : g_need_packet [.tup [.str w, .int a, .int b]] = .ex ⟨"BadPacket", []⟩ ⟨[], []⟩ := by
  have z1 := sz_tab
  have z2 := sz_nd
  have z3 := sz_len
  have z4 := sz_val
  generalize szK = S at *
  by_cases ha : 0 ≤ a ∧ a ≤ 127
  · have hb : ¬ (0 ≤ b ∧ b ≤ 15) := fun z => h ⟨ha, z⟩
    rcases hw with rfl | rfl | rfl <;> simp -dsimp -implicitDefEqProofs [pureF, runF, fVar, fC, fBin, gI, gI0, gAdd, gSub, gMul, gDiv, gMod, gPow, gAnd, gOr, gXor, gShl, gShr, gLt, gLe, gGt, gGe, fTst, asB, fChain, fNotT, fAndT, fOrT, fNotV, fAndV, fOrV, fIf, fIsN, isNon, fIfS, fSeq, fNx, fCt, fRet, fRetN, fDrop, fAsg, Tg.run, setAll, fCall, fCons, fNil, fTup, fLst, fNew, fMt, isLst, lstV, seqV, objL, gAppend, gExtend, gIx, fSl, gSl, fO, fNoO, fRev, fWR1, fWR2, fWL, wkSeq, fWT, wkTup, allw, fFor, fCallP, fCallS, clL, clD, clK, fVarZ, frzG, fRaise, fSetIx, fPar, gSetL, fAug, gLen, gList, gListN, gTuple, gInt, gIsi, tyOf, isTy, sizeLine, CPow, gIAdd, gAddN, wkEnumL, wkEnumT, fWEL, fWET, fNeg, fCallK, gSumT, gSumL, lsV, fWR3, fCallNP, g_need_packet, b_need_packet, fTryFrom, g_need_number, fDget2, fDisp, fPCons, fPNil, z1, z2, z3, z4, dctV, keyD, ha.1, ha.2, hb, ct_BadNumber]
  · rcases hw with rfl | rfl | rfl <;> simp -dsimp -implicitDefEqProofs [pureF, runF, fVar, fC, fBin, gI, gI0, gAdd, gSub, gMul, gDiv, gMod, gPow, gAnd, gOr, gXor, gShl, gShr, gLt, gLe, gGt, gGe, fTst, asB, fChain, fNotT, fAndT, fOrT, fNotV, fAndV, fOrV, fIf, fIsN, isNon, fIfS, fSeq, fNx, fCt, fRet, fRetN, fDrop, fAsg, Tg.run, setAll, fCall, fCons, fNil, fTup, fLst, fNew, fMt, isLst, lstV, seqV, objL, gAppend, gExtend, gIx, fSl, gSl, fO, fNoO, fRev, fWR1, fWR2, fWL, wkSeq, fWT, wkTup, allw, fFor, fCallP, fCallS, clL, clD, clK, fVarZ, frzG, fRaise, fSetIx, fPar, gSetL, fAug, gLen, gList, gListN, gTuple, gInt, gIsi, tyOf, isTy, sizeLine, CPow, gIAdd, gAddN, wkEnumL, wkEnumT, fWEL, fWET, fNeg, fCallK, gSumT, gSumL, lsV, fWR3, fCallNP, g_need_packet, b_need_packet, fTryFrom, g_need_number, fDget2, fDisp, fPCons, fPNil, z1, z2, z3, z4, dctV, keyD, ha, ct_BadNumber]
theorem need_frame_bad (n : Int) (hn : ¬ (0 ≤ n ∧ n ≤ 2047)) : g_need_packet [.tup [.str ("frame" : Str), .int n]] = .ex ⟨"BadPacket", []⟩ ⟨[], []⟩ := by
  have z1 := sz_tab
  have z2 := sz_nd
  have z3 := sz_len
  have z4 := sz_val
  generalize szK = S at *
  simp -dsimp -implicitDefEqProofs [pureF, runF, fVar, fC, fBin, gI, gI0, gAdd, gSub, gMul, gDiv, gMod, gPow, gAnd, gOr, gXor, gShl, gShr, gLt, gLe, gGt, gGe, fTst, asB, fChain, fNotT, fAndT, fOrT, fNotV, fAndV, fOrV, fIf, fIsN, isNon, fIfS, fSeq, fNx, fCt, fRet, fRetN, fDrop, fAsg, Tg.run, setAll, fCall, fCons, fNil, fTup, fLst, fNew, fMt, isLst, lstV, seqV, objL, gAppend, gExtend, gIx, fSl, gSl, fO, fNoO, fRev, fWR1, fWR2, fWL, wkSeq, fWT, wkTup, allw, fFor, fCallP, fCallS, clL, clD, clK, fVarZ, frzG, fRaise, fSetIx, fPar, gSetL, fAug, gLen, gList, gListN, gTuple, gInt, gIsi, tyOf, isTy, sizeLine, CPow, gIAdd, gAddN, wkEnumL, wkEnumT, fWEL, fWET, fNeg, fCallK, gSumT, gSumL, lsV, fWR3, fCallNP, g_need_packet, b_need_packet, fTryFrom, g_need_number, fDget2, fDisp, fPCons, fPNil, z1, z2, z3, z4, dctV, keyD, hn, ct_BadNumber]
theorem first_bad : ∀ ds : List Int, (∀ d ∈ ds, isByte d) ∨ ∃ as o bs, ds = as ++ o :: bs ∧ (∀ d ∈ as, isByte d) ∧ ¬ isByte o
  | [] => .inl (by simp)
  | d :: ds => by
    by_cases hd : isByte d
    · rcases first_bad ds with h | ⟨as, o, bs, rfl, h1, h2⟩
      · exact .inl (by simpa using ⟨hd, h⟩)
      · exact .inr ⟨d :: as, o, bs, rfl, by simpa using ⟨hd, h1⟩, h2⟩
    · exact .inr ⟨[], d, ds, rfl, by simp, hd⟩
theorem need_data_bad (m : Int) (ds : List Int) (hl : ds.length ≤ 1000) (h : ¬ ((m = 0 ∨ m = 1) ∧ (∀ d ∈ ds, isByte d) ∧ ds.length ≤ 64)) : g_need_packet [.tup [.str ("data" : Str), .int m, .tup (ds.map .int)]] = .ex ⟨"BadPacket", []⟩ ⟨[], []⟩ := by
  have z1 := sz_tab
  have z2 := sz_nd
  have z3 := sz_len
  have z4 := sz_val
  generalize szK = S at *
  have hc : clL 0 (ds.map D.int) = true := clL_int 0 ds
  have hln : (ds.map D.int).length = ds.length := by simp
  by_cases hm : 0 ≤ m ∧ m ≤ 1
  · by_cases hl' : (ds.length : Int) ≤ 64
    · rcases first_bad ds with hb | ⟨as, o, bs, e, h1, h2⟩
      · exact (h ⟨by omega, hb, by omega⟩).elim
      · have h16 := sum16_bad as o bs h1 (by rw [e] at hl; simp at hl; omega) h2
        rw [← e] at h16
        generalize ds.map D.int = xs at *
        simp -dsimp -implicitDefEqProofs [pureF, runF, fVar, fC, fBin, gI, gI0, gAdd, gSub, gMul, gDiv, gMod, gPow, gAnd, gOr, gXor, gShl, gShr, gLt, gLe, gGt, gGe, fTst, asB, fChain, fNotT, fAndT, fOrT, fNotV, fAndV, fOrV, fIf, fIsN, isNon, fIfS, fSeq, fNx, fCt, fRet, fRetN, fDrop, fAsg, Tg.run, setAll, fCall, fCons, fNil, fTup, fLst, fNew, fMt, isLst, lstV, seqV, objL, gAppend, gExtend, gIx, fSl, gSl, fO, fNoO, fRev, fWR1, fWR2, fWL, wkSeq, fWT, wkTup, allw, fFor, fCallP, fCallS, clL, clD, clK, fVarZ, frzG, fRaise, fSetIx, fPar, gSetL, fAug, gLen, gList, gListN, gTuple, gInt, gIsi, tyOf, isTy, sizeLine, CPow, gIAdd, gAddN, wkEnumL, wkEnumT, fWEL, fWET, fNeg, fCallK, gSumT, gSumL, lsV, fWR3, fCallNP, g_need_packet, b_need_packet, fTryFrom, g_need_number, fDget2, fDisp, fPCons, fPNil, z1, z2, z3, z4, dctV, keyD, hm.1, hm.2, hln, hl', h16, hc, ct_BadNumber]
    · generalize ds.map D.int = xs at *
      simp -dsimp -implicitDefEqProofs [pureF, runF, fVar, fC, fBin, gI, gI0, gAdd, gSub, gMul, gDiv, gMod, gPow, gAnd, gOr, gXor, gShl, gShr, gLt, gLe, gGt, gGe, fTst, asB, fChain, fNotT, fAndT, fOrT, fNotV, fAndV, fOrV, fIf, fIsN, isNon, fIfS, fSeq, fNx, fCt, fRet, fRetN, fDrop, fAsg, Tg.run, setAll, fCall, fCons, fNil, fTup, fLst, fNew, fMt, isLst, lstV, seqV, objL, gAppend, gExtend, gIx, fSl, gSl, fO, fNoO, fRev, fWR1, fWR2, fWL, wkSeq, fWT, wkTup, allw, fFor, fCallP, fCallS, clL, clD, clK, fVarZ, frzG, fRaise, fSetIx, fPar, gSetL, fAug, gLen, gList, gListN, gTuple, gInt, gIsi, tyOf, isTy, sizeLine, CPow, gIAdd, gAddN, wkEnumL, wkEnumT, fWEL, fWET, fNeg, fCallK, gSumT, gSumL, lsV, fWR3, fCallNP, g_need_packet, b_need_packet, fTryFrom, g_need_number, fDget2, fDisp, fPCons, fPNil, z1, z2, z3, z4, dctV, keyD, hm.1, hm.2, hln, hl', hc, ct_BadNumber]
  · generalize ds.map D.int = xs at *
    simp -dsimp -implicitDefEqProofs [pureF, runF, fVar, fC, fBin, gI, gI0, gAdd, gSub, gMul, gDiv, gMod, gPow, gAnd, gOr, gXor, gShl, gShr, gLt, gLe, gGt, gGe, fTst, asB, fChain, fNotT, fAndT, fOrT, fNotV, fAndV, fOrV, fIf, fIsN, isNon, fIfS, fSeq, fNx, fCt, fRet, fRetN, fDrop, fAsg, Tg.run, setAll, fCall, fCons, fNil, fTup, fLst, fNew, fMt, isLst, lstV, seqV, objL, gAppend, gExtend, gIx, fSl, gSl, fO, fNoO, fRev, fWR1, fWR2, fWL, wkSeq, fWT, wkTup, allw, fFor, fCallP, fCallS, clL, clD, clK, fVarZ, frzG, fRaise, fSetIx, fPar, gSetL, fAug, gLen, gList, gListN, gTuple, gInt, gIsi, tyOf, isTy, sizeLine, CPow, gIAdd, gAddN, wkEnumL, wkEnumT, fWEL, fWET, fNeg, fCallK, gSumT, gSumL, lsV, fWR3, fCallNP, g_need_packet, b_need_packet, fTryFrom, g_need_number, fDget2, fDisp, fPCons, fPNil, z1, z2, z3, z4, dctV, keyD, hm, hc, ct_BadNumber]
/-- what comes behind a packet's word -/
inductive Rs where
  | z | one (a : Int) | two (a b : Int) | dat (a : Int) (ds : List Int)
def encR : Rs → List D
  | .z => []
  | .one a => [.int a]
  | .two a b => [.int a, .int b]
  | .dat a ds => [.int a, .tup (ds.map .int)]
structure Rw where
  f : Int
  who : String
  w : String
  r : Rs
  c : Bool
def encW (x : Rw) : D := .tup [.int x.f, .str (x.who : Str), .tup (.str (x.w : Str) :: encR x.r), .bl x.c]
def tokS (w : String) : Prop := w = "out" ∨ w = "in" ∨ w = "setup"
def Pk (x : Rw) : Prop := (tokS x.w ∧ ∃ a b, x.r = .two a b) ∨ (x.w = "frame" ∧ ∃ a, x.r = .one a) ∨ (x.w = "data" ∧ ∃ a ds, x.r = .dat a ds ∧ (∀ d ∈ ds, isByte d) ∧ ds.length ≤ 64) ∨ ((x.w = "ack" ∨ x.w = "nak" ∨ x.w = "stall" ∨ x.w = "" ∨ x.w = "token") ∧ ∀ a ds, x.r = .dat a ds → (∀ d ∈ ds, isByte d) ∧ ds.length ≤ 64)
/-- a row that is right by itself -/
def Sh (x : Rw) : Prop := 0 ≤ x.f ∧ ((tokS x.w ∧ x.who = "host" ∧ ∃ a b, x.r = .two a b ∧ (0 ≤ a ∧ a ≤ 127) ∧ 0 ≤ b ∧ b ≤ 15) ∨ (x.w = "frame" ∧ x.who = "host" ∧ x.r = .one (x.f % 2048)) ∨
  (x.w = "data" ∧ (x.who = "host" ∨ x.who = "thing") ∧ ∃ m ds, x.r = .dat m ds ∧ (m = 0 ∨ m = 1) ∧ (∀ d ∈ ds, isByte d) ∧ ds.length ≤ 64) ∨ (x.w = "ack" ∧ (x.who = "host" ∨ x.who = "thing") ∧ x.r = .z) ∨ ((x.w = "nak" ∨ x.w = "stall") ∧ x.who = "thing" ∧ x.r = .z))
theorem encR_cl (n : Nat) (r : Rs) : clL n (encR r) = true := by
  cases r <;> simp [encR, clL, clD, clL_ints]
theorem encW_cl (n : Nat) (x : Rw) : clD n (encW x) = true := by simp [encW, clD, clL, encR_cl]
theorem encL_clW (n : Nat) (xs : List Rw) : clL n (xs.map encW) = true := by
  induction xs with
  | nil => rfl
  | cons x xs ih => simp only [List.map_cons, clL, ih, encW_cl, Bool.and_self]
theorem encR_ok (n : Nat) (r : Rs) : okL (n + 2) (encR r) = true := by
  have h : ∀ (ds : List Int), okL (n + 1) (ds.map D.int) = true := fun ds => by
    induction ds with
    | nil => rfl
    | cons d ds ih => simp only [List.map_cons, okL, okD, ih, Bool.and_self]
  cases r <;> simp [encR, okL, okD, h]
theorem encW_ok (n : Nat) (x : Rw) : okD (n + 4) (encW x) = true := by simp [encW, okD, okL, encR_ok]
/-- what may come next: who and word -/
def beg : List (String × String) := [("host", "frame"), ("host", "in"), ("host", "out"), ("host", "setup")]
def nx (a : Rw) : List (String × String) :=
  if a.w = "out" ∨ a.w = "setup" then [("host", "data")]
  else if a.w = "in" then (if a.c = true then beg ++ [("thing", "data"), ("thing", "nak"), ("thing", "stall")] else beg)
  else if a.w = "data" ∧ a.who = "host" then (if a.c = true then beg ++ [("thing", "ack"), ("thing", "nak"), ("thing", "stall")] else beg)
  else if a.w = "data" ∧ a.c = true then [("host", "ack")] else beg
def prD (p : String × String) : D := .tup [.str (p.1 : Str), .str (p.2 : Str)]
theorem sh_word {x : Rw} (h : Sh x) : (x.w = "out" ∨ x.w = "in" ∨ x.w = "setup" ∨ x.w = "frame" ∨ x.w = "data" ∨ x.w = "ack" ∨ x.w = "nak" ∨ x.w = "stall") ∧ (x.who = "host" ∨ x.who = "thing") := by
  rcases h with ⟨_, ⟨h, e, _⟩ | ⟨h, e, _⟩ | ⟨h, e, _⟩ | ⟨h, e, _⟩ | ⟨h, e, _⟩⟩
  · rcases h with h | h | h <;> simp [h, e]
  · simp [h, e]
  · simp [h, e]
  · simp [h, e]
  · rcases h with h | h <;> simp [h, e]
theorem at0L (a : D) (l : List D) : L2.atI (a :: l) 0 = some a := atI_nat (j := 0) rfl
theorem at1L (a b : D) (l : List D) : L2.atI (a :: b :: l) 1 = some b := atI_nat (j := 1) rfl
theorem ans3 : gv_ANSWERS = .tup [.str ("ack" : Str), .str ("nak" : Str), .str ("stall" : Str)] := rfl
theorem next_words_eq (a : Rw) (h : Sh a) : g_next_words [encW a] = .ok (.lst ((nx a).map prD)) ⟨[], []⟩ := by
  obtain ⟨hw, hwho⟩ := sh_word h
  obtain ⟨f, who, w, r, c⟩ := a
  have hR := encR_cl 0 r
  simp only at hw hwho
  unfold encW nx
  simp only
  clear h
  have at0 := at0L
  generalize encR r = RR at *
  have a3 := ans3
  rcases hw with rfl | rfl | rfl | rfl | rfl | rfl | rfl | rfl <;> rcases hwho with rfl | rfl <;> cases c <;> simp -dsimp -implicitDefEqProofs [pureF, runF, fVar, fC, fBin, gI, gI0, gAdd, gSub, gMul, gDiv, gMod, gPow, gAnd, gOr, gXor, gShl, gShr, gLt, gLe, gGt, gGe, fTst, asB, fChain, fNotT, fAndT, fOrT, fNotV, fAndV, fOrV, fIf, fIsN, isNon, fIfS, fSeq, fNx, fCt, fRet, fRetN, fDrop, fAsg, Tg.run, setAll, fCall, fCons, fNil, fTup, fLst, fNew, fMt, isLst, lstV, seqV, objL, gAppend, gExtend, gIx, fSl, gSl, fO, fNoO, fRev, fWR1, fWR2, fWL, wkSeq, fWT, wkTup, allw, fFor, fCallP, fCallS, clL, clD, clK, fVarZ, frzG, fRaise, fSetIx, fPar, gSetL, fAug, gLen, gList, gListN, gTuple, gInt, gIsi, tyOf, isTy, sizeLine, CPow, gIAdd, gAddN, wkEnumL, wkEnumT, fWEL, fWET, fNeg, fCallK, gSumT, gSumL, lsV, fWR3, fCallNP, g_next_words, b_next_words, beg, prD, hR, at0, fLc, fComp, compL_cons, compL_nil, cStep, wipeG, fYes, ce_next_words_0, a3]

def b_takes : DS → R Fl :=
  (fSeq (fAsg (fBin (fVar 0) (fC (.int 2)) gIx) (.one 1))
    (fSeq (fIfS (fTst (fBin (fBin (fVar 1) (fC (.int 0)) gIx) (fC (.str "frame")) gEq)) (fRet (fC gv_BEGIN)) fNx)
    (fSeq (fIfS (fTst (fBin (fBin (fVar 1) (fC (.int 0)) gIx) (fC gv_TOKENS) (gIn false))) (fRet (fCallP 1 (fCons (fC (.int 0)) fNil) [] g_cost)) fNx)
    (fRet (fIf (fTst (fBin (fBin (fVar 1) (fC (.int 0)) gIx) (fC (.str "data")) gEq)) (fCall (fCons (fBin (fVar 1) (fC (.int 2)) gIx) fNil) gLen) (fC (.int 0)))))))
def g_takes : GP := pureF (runF 2 b_takes)
theorem eq_takes : ∀ args, args.length = 1 → g_takes args ≠ .bad → pureF (runF 2 b_takes) args = g_takes args := fun _ _ _ => rfl

def datL : Rs → Int
  | .dat _ ds => ds.length
  | _ => 0
def tk (x : Rw) : Int := if x.w = "frame" then 6 else if x.w = "out" ∨ x.w = "in" ∨ x.w = "setup" then 13 else if x.w = "data" then datL x.r else 0
theorem takes_eq (x : Rw) (h : Sh x) : g_takes [encW x] = .ok (.int (tk x)) ⟨[], []⟩ := by
  have at2 : ∀ a b c d : D, L2.atI [a, b, c, d] 2 = some c := fun a b c d => rfl
  have at0 := at0L
  have hc := cost_eq 0
  rw [if_Pr (by decide)] at hc
  obtain ⟨_, h⟩ := h
  obtain ⟨f, who, w, r, c⟩ := x
  unfold encW tk
  simp only at h ⊢
  rcases h with ⟨hw, _, a, b, rfl, _⟩ | ⟨rfl, _, rfl⟩ | ⟨rfl, _, m, ds, rfl, _, _, _⟩ | ⟨rfl, _, rfl⟩ | ⟨hw, _, rfl⟩
  · rcases hw with rfl | rfl | rfl <;> simp -dsimp -implicitDefEqProofs [pureF, runF, fVar, fC, fBin, gI, gI0, gAdd, gSub, gMul, gDiv, gMod, gPow, gAnd, gOr, gXor, gShl, gShr, gLt, gLe, gGt, gGe, fTst, asB, fChain, fNotT, fAndT, fOrT, fNotV, fAndV, fOrV, fIf, fIsN, isNon, fIfS, fSeq, fNx, fCt, fRet, fRetN, fDrop, fAsg, Tg.run, setAll, fCall, fCons, fNil, fTup, fLst, fNew, fMt, isLst, lstV, seqV, objL, gAppend, gExtend, gIx, fSl, gSl, fO, fNoO, fRev, fWR1, fWR2, fWL, wkSeq, fWT, wkTup, allw, fFor, fCallP, fCallS, clL, clD, clK, fVarZ, frzG, fRaise, fSetIx, fPar, gSetL, fAug, gLen, gList, gListN, gTuple, gInt, gIsi, tyOf, isTy, sizeLine, CPow, gIAdd, gAddN, wkEnumL, wkEnumT, fWEL, fWET, fNeg, fCallK, gSumT, gSumL, lsV, fWR3, fCallNP, g_takes, b_takes, encR, at2, at0, hc, datL]
  · simp -dsimp -implicitDefEqProofs [pureF, runF, fVar, fC, fBin, gI, gI0, gAdd, gSub, gMul, gDiv, gMod, gPow, gAnd, gOr, gXor, gShl, gShr, gLt, gLe, gGt, gGe, fTst, asB, fChain, fNotT, fAndT, fOrT, fNotV, fAndV, fOrV, fIf, fIsN, isNon, fIfS, fSeq, fNx, fCt, fRet, fRetN, fDrop, fAsg, Tg.run, setAll, fCall, fCons, fNil, fTup, fLst, fNew, fMt, isLst, lstV, seqV, objL, gAppend, gExtend, gIx, fSl, gSl, fO, fNoO, fRev, fWR1, fWR2, fWL, wkSeq, fWT, wkTup, allw, fFor, fCallP, fCallS, clL, clD, clK, fVarZ, frzG, fRaise, fSetIx, fPar, gSetL, fAug, gLen, gList, gListN, gTuple, gInt, gIsi, tyOf, isTy, sizeLine, CPow, gIAdd, gAddN, wkEnumL, wkEnumT, fWEL, fWET, fNeg, fCallK, gSumT, gSumL, lsV, fWR3, fCallNP, g_takes, b_takes, encR, at2, at0, hc, datL]
  · have hl : (ds.map D.int).length = ds.length := by simp
    generalize ds.map D.int = xs at *
    have at2' : ∀ a b c : D, L2.atI [a, b, c] 2 = some c := fun a b c => rfl
    simp -dsimp -implicitDefEqProofs [pureF, runF, fVar, fC, fBin, gI, gI0, gAdd, gSub, gMul, gDiv, gMod, gPow, gAnd, gOr, gXor, gShl, gShr, gLt, gLe, gGt, gGe, fTst, asB, fChain, fNotT, fAndT, fOrT, fNotV, fAndV, fOrV, fIf, fIsN, isNon, fIfS, fSeq, fNx, fCt, fRet, fRetN, fDrop, fAsg, Tg.run, setAll, fCall, fCons, fNil, fTup, fLst, fNew, fMt, isLst, lstV, seqV, objL, gAppend, gExtend, gIx, fSl, gSl, fO, fNoO, fRev, fWR1, fWR2, fWL, wkSeq, fWT, wkTup, allw, fFor, fCallP, fCallS, clL, clD, clK, fVarZ, frzG, fRaise, fSetIx, fPar, gSetL, fAug, gLen, gList, gListN, gTuple, gInt, gIsi, tyOf, isTy, sizeLine, CPow, gIAdd, gAddN, wkEnumL, wkEnumT, fWEL, fWET, fNeg, fCallK, gSumT, gSumL, lsV, fWR3, fCallNP, g_takes, b_takes, encR, at2, at0, at2', hc, datL, hl]
  · simp -dsimp -implicitDefEqProofs [pureF, runF, fVar, fC, fBin, gI, gI0, gAdd, gSub, gMul, gDiv, gMod, gPow, gAnd, gOr, gXor, gShl, gShr, gLt, gLe, gGt, gGe, fTst, asB, fChain, fNotT, fAndT, fOrT, fNotV, fAndV, fOrV, fIf, fIsN, isNon, fIfS, fSeq, fNx, fCt, fRet, fRetN, fDrop, fAsg, Tg.run, setAll, fCall, fCons, fNil, fTup, fLst, fNew, fMt, isLst, lstV, seqV, objL, gAppend, gExtend, gIx, fSl, gSl, fO, fNoO, fRev, fWR1, fWR2, fWL, wkSeq, fWT, wkTup, allw, fFor, fCallP, fCallS, clL, clD, clK, fVarZ, frzG, fRaise, fSetIx, fPar, gSetL, fAug, gLen, gList, gListN, gTuple, gInt, gIsi, tyOf, isTy, sizeLine, CPow, gIAdd, gAddN, wkEnumL, wkEnumT, fWEL, fWET, fNeg, fCallK, gSumT, gSumL, lsV, fWR3, fCallNP, g_takes, b_takes, encR, at2, at0, hc, datL]
  · rcases hw with rfl | rfl <;> simp -dsimp -implicitDefEqProofs [pureF, runF, fVar, fC, fBin, gI, gI0, gAdd, gSub, gMul, gDiv, gMod, gPow, gAnd, gOr, gXor, gShl, gShr, gLt, gLe, gGt, gGe, fTst, asB, fChain, fNotT, fAndT, fOrT, fNotV, fAndV, fOrV, fIf, fIsN, isNon, fIfS, fSeq, fNx, fCt, fRet, fRetN, fDrop, fAsg, Tg.run, setAll, fCall, fCons, fNil, fTup, fLst, fNew, fMt, isLst, lstV, seqV, objL, gAppend, gExtend, gIx, fSl, gSl, fO, fNoO, fRev, fWR1, fWR2, fWL, wkSeq, fWT, wkTup, allw, fFor, fCallP, fCallS, clL, clD, clK, fVarZ, frzG, fRaise, fSetIx, fPar, gSetL, fAug, gLen, gList, gListN, gTuple, gInt, gIsi, tyOf, isTy, sizeLine, CPow, gIAdd, gAddN, wkEnumL, wkEnumT, fWEL, fWET, fNeg, fCallK, gSumT, gSumL, lsV, fWR3, fCallNP, g_takes, b_takes, encR, at2, at0, hc, datL]

def fs_shaped_0 : DS → R Fl := (fRet (fC (.bl false)))
def b_shaped : DS → R Fl :=
  (fSeq (fAsg (fVar 0) (.many [1, 2, 3, 4]))
    (fSeq (fTryOnly (fDrop (fCallP 1 (fCons (fVar 3) fNil) [] g_need_packet)) ct_BadPacket fs_shaped_0)
    (fSeq (fIfS (fOrT (fAndT (fTst (fBin (fBin (fVar 3) (fC (.int 0)) gIx) (fBin (fC gv_TOKENS) (fTup (fCons (fC (.str "frame")) fNil)) gAdd) (gIn false))) (fTst (fBin (fVar 2) (fC (.str "host")) gNe))) (fAndT (fTst (fBin (fBin (fVar 3) (fC (.int 0)) gIx) (fTup (fCons (fC (.str "nak")) (fCons (fC (.str "stall")) fNil))) (gIn false))) (fTst (fBin (fVar 2) (fC (.str "thing")) gNe)))) (fRet (fC (.bl false))) fNx)
    (fRet (fAndV (fBin (fVar 2) (fTup (fCons (fC (.str "host")) (fCons (fC (.str "thing")) fNil))) (gIn false)) (fAndV (fBin (fVar 1) (fC (.int 0)) gGe) (fOrV (fBin (fBin (fVar 3) (fC (.int 0)) gIx) (fC (.str "frame")) gNe) (fBin (fBin (fVar 3) (fC (.int 1)) gIx) (fBin (fVar 1) (fC (.int 2048)) gMod) gEq))))))))
def g_shaped : GP := pureF (runF 5 b_shaped)
theorem eq_shaped : ∀ args, args.length = 1 → g_shaped args ≠ .bad → pureF (runF 5 b_shaped) args = g_shaped args := fun _ _ _ => rfl

theorem np_split (x : Rw) (h : Pk x) : (g_need_packet [.tup (.str (x.w : Str) :: encR x.r)] = .ok .non ⟨[], []⟩ ∧ ((tokS x.w ∧ ∃ a b, x.r = .two a b ∧ (0 ≤ a ∧ a ≤ 127) ∧ 0 ≤ b ∧ b ≤ 15) ∨ (x.w = "frame" ∧ ∃ a, x.r = .one a ∧ 0 ≤ a ∧ a ≤ 2047) ∨ (x.w = "data" ∧ ∃ m ds, x.r = .dat m ds ∧ (m = 0 ∨ m = 1) ∧ (∀ d ∈ ds, isByte d) ∧ ds.length ≤ 64) ∨ ((x.w = "ack" ∨ x.w = "nak" ∨ x.w = "stall") ∧ x.r = .z))) ∨
    (g_need_packet [.tup (.str (x.w : Str) :: encR x.r)] = .ex ⟨"BadPacket", []⟩ ⟨[], []⟩ ∧ ¬ Sh x) := by
  obtain ⟨f, who, w, r, c⟩ := x
  rcases h with ⟨hw, a, b, h⟩ | ⟨hw, a, h⟩ | ⟨hw, a, ds, h, hd, hl⟩ | ⟨hw, hd⟩
  · simp only at hw h
    subst h
    have ht : isTok (w : Str) := by rcases hw with rfl | rfl | rfl <;> simp [isTok]
    by_cases hc : (0 ≤ a ∧ a ≤ 127) ∧ 0 ≤ b ∧ b ≤ 15
    · exact .inl ⟨need_tok _ ht a b hc.1 hc.2, .inl ⟨hw, a, b, rfl, hc⟩⟩
    · refine .inr ⟨need_tok_bad _ ht a b hc, fun z => ?_⟩
      rcases z with ⟨_, ⟨_, _, a', b', e, z⟩ | ⟨_, _, e⟩ | ⟨_, _, _, _, e, _⟩ | ⟨_, _, e⟩ | ⟨_, _, e⟩⟩ <;> cases e
      exact hc z
  · simp only at hw h
    subst hw h
    by_cases hc : 0 ≤ a ∧ a ≤ 2047
    · exact .inl ⟨need_frame a hc, .inr (.inl ⟨rfl, a, rfl, hc⟩)⟩
    · refine .inr ⟨need_frame_bad a hc, fun z => ?_⟩
      rcases z with ⟨_, ⟨_, _, a', b', e, z⟩ | ⟨_, _, e⟩ | ⟨_, _, _, _, e, _⟩ | ⟨_, _, e⟩ | ⟨_, _, e⟩⟩
      · cases e
      · injection e with e1
        simp only at e1
        omega
      all_goals cases e
  · simp only at hw h
    subst hw h
    by_cases hc : (a = 0 ∨ a = 1) ∧ (∀ d ∈ ds, isByte d) ∧ ds.length ≤ 64
    · exact .inl ⟨need_data a (by omega) ds hd hl, .inr (.inr (.inl ⟨rfl, a, ds, rfl, hc⟩))⟩
    · refine .inr ⟨need_data_bad a ds (by omega) hc, fun z => ?_⟩
      rcases z with ⟨_, ⟨_, _, a', b', e, z⟩ | ⟨_, _, e⟩ | ⟨_, _, _, _, e, z⟩ | ⟨_, _, e⟩ | ⟨_, _, e⟩⟩ <;> cases e
      exact hc z
  · simp only at hw hd
    have hrl : ∀ n : Int, ((encR r).length : Int) + 1 = n → n = 1 → r = .z := fun n e e2 => by
      cases r <;> simp [encR] at e <;> first | rfl | omega
    have nsz : ∀ w' : String, ¬ word8 w' → szIs w' 0 := fun w' h => .inr ⟨sz_none w' h, rfl⟩
    have sv := sz_val
    rcases hw with rfl | rfl | rfl | rfl | rfl
    · by_cases hz : r = .z
      · subst hz; exact .inl ⟨need_ans _ (.inl rfl), .inr (.inr (.inr ⟨.inl rfl, rfl⟩))⟩
      · refine .inr ⟨need_size "ack" 1 _ (.inl sv.2.2.2.2.2.1) (fun e => hz (hrl _ e rfl)) (encR_cl 0 r), fun z => ?_⟩
        rcases z with ⟨_, ⟨z, _⟩ | ⟨z, _⟩ | ⟨z, _⟩ | ⟨_, _, e⟩ | ⟨_, _, e⟩⟩
        · rcases z with z | z | z <;> simp at z
        · simp at z
        · simp at z
        · exact hz e
        · exact hz e
    · by_cases hz : r = .z
      · subst hz; exact .inl ⟨need_ans _ (.inr (.inl rfl)), .inr (.inr (.inr ⟨.inr (.inl rfl), rfl⟩))⟩
      · refine .inr ⟨need_size "nak" 1 _ (.inl sv.2.2.2.2.2.2.1) (fun e => hz (hrl _ e rfl)) (encR_cl 0 r), fun z => ?_⟩
        rcases z with ⟨_, ⟨z, _⟩ | ⟨z, _⟩ | ⟨z, _⟩ | ⟨_, _, e⟩ | ⟨_, _, e⟩⟩
        · rcases z with z | z | z <;> simp at z
        · simp at z
        · simp at z
        · exact hz e
        · exact hz e
    · by_cases hz : r = .z
      · subst hz; exact .inl ⟨need_ans _ (.inr (.inr rfl)), .inr (.inr (.inr ⟨.inr (.inr rfl), rfl⟩))⟩
      · refine .inr ⟨need_size "stall" 1 _ (.inl sv.2.2.2.2.2.2.2) (fun e => hz (hrl _ e rfl)) (encR_cl 0 r), fun z => ?_⟩
        rcases z with ⟨_, ⟨z, _⟩ | ⟨z, _⟩ | ⟨z, _⟩ | ⟨_, _, e⟩ | ⟨_, _, e⟩⟩
        · rcases z with z | z | z <;> simp at z
        · simp at z
        · simp at z
        · exact hz e
        · exact hz e
    · refine .inr ⟨need_size "" 0 _ (nsz "" (by simp [word8])) (by omega) (encR_cl 0 r), fun z => ?_⟩
      have := (sh_word z).1
      simp at this
    · refine .inr ⟨need_size "token" 0 _ (nsz "token" (by simp [word8])) (by omega) (encR_cl 0 r), fun z => ?_⟩
      have := (sh_word z).1
      simp at this
theorem beq_comm'' (a b : String) : (a == b) = (b == a) := by rw [Bool.eq_iff_iff]; simp; exact ⟨fun h => h.symm, fun h => h.symm⟩
theorem tok3 : gv_TOKENS = .tup [.str ("out" : Str), .str ("in" : Str), .str ("setup" : Str)] := rfl
theorem shaped_eq (x : Rw) (h : Pk x) : g_shaped [encW x] = .ok (.bl (dcd (Sh x))) ⟨[], []⟩ := by
  have at0 := at0L
  have at1 := at1L
  have t3 := tok3
  have sw1 : ("host" == x.who) = (x.who == "host") := beq_comm'' _ _
  have sw2 : ("thing" == x.who) = (x.who == "thing") := beq_comm'' _ _
  rcases np_split x h with ⟨hn, hs⟩ | ⟨hn, hs⟩
  · obtain ⟨f, who, w, r, c⟩ := x
    have hcl := encR_cl 0 r
    by_cases hf : 0 ≤ f
    · rcases hs with ⟨hw, a, b, e, hab⟩ | ⟨hw, a, e, ha⟩ | ⟨hw, m, ds, e, hm⟩ | ⟨hw, e⟩
      · simp only at hw e hn
        subst e
        have e2 : dcd (Sh ⟨f, who, w, .two a b, c⟩) = (who == "host") := by
          by_cases hh : who = "host"
          · subst hh
            rw [dcd_pos ⟨hf, .inl ⟨hw, rfl, a, b, rfl, hab⟩⟩]; rfl
          · rw [dcd_neg fun z => by
              rcases z with ⟨_, ⟨_, z, _⟩ | ⟨_, _, e⟩ | ⟨_, _, _, _, e, _⟩ | ⟨_, _, e⟩ | ⟨_, _, e⟩⟩
              · exact hh z
              all_goals cases e]
            simp [hh]
        rw [e2]
        unfold encW encR at *
        simp only at *
        clear h e2 hab
        rcases hw with rfl | rfl | rfl <;> cases hh : (who == "host") <;> cases ht : (who == "thing") <;> simp -dsimp -implicitDefEqProofs [pureF, runF, fVar, fC, fBin, gI, gI0, gAdd, gSub, gMul, gDiv, gMod, gPow, gAnd, gOr, gXor, gShl, gShr, gLt, gLe, gGt, gGe, fTst, asB, fChain, fNotT, fAndT, fOrT, fNotV, fAndV, fOrV, fIf, fIsN, isNon, fIfS, fSeq, fNx, fCt, fRet, fRetN, fDrop, fAsg, Tg.run, setAll, fCall, fCons, fNil, fTup, fLst, fNew, fMt, isLst, lstV, seqV, objL, gAppend, gExtend, gIx, fSl, gSl, fO, fNoO, fRev, fWR1, fWR2, fWL, wkSeq, fWT, wkTup, allw, fFor, fCallP, fCallS, clL, clD, clK, fVarZ, frzG, fRaise, fSetIx, fPar, gSetL, fAug, gLen, gList, gListN, gTuple, gInt, gIsi, tyOf, isTy, sizeLine, CPow, gIAdd, gAddN, wkEnumL, wkEnumT, fWEL, fWET, fNeg, fCallK, gSumT, gSumL, lsV, fWR3, fCallNP, g_shaped, b_shaped, fTryOnly, hn, at0, at1, t3, hf, sw1, sw2, hh, ht]
      · simp only at hw e hn
        subst e hw
        by_cases hq : a = f % 2048
        · have e2 : dcd (Sh ⟨f, who, "frame", .one a, c⟩) = (who == "host") := by
            by_cases hh : who = "host"
            · subst hh
              rw [dcd_pos ⟨hf, .inr (.inl ⟨rfl, rfl, by rw [hq]⟩)⟩]; rfl
            · rw [dcd_neg fun z => by
                rcases z with ⟨_, ⟨_, z, _⟩ | ⟨_, z, e⟩ | ⟨_, _, _, _, e, _⟩ | ⟨_, _, e⟩ | ⟨_, _, e⟩⟩
                · exact hh z
                · exact hh z
                all_goals cases e]
              simp [hh]
          rw [e2]
          have hq2 : dcd (a = f % 2048) = true := dcd_pos hq
          unfold encW encR at *
          simp only at *
          clear h e2 hq ha
          cases hh : (who == "host") <;> cases ht : (who == "thing") <;> simp -dsimp -implicitDefEqProofs [pureF, runF, fVar, fC, fBin, gI, gI0, gAdd, gSub, gMul, gDiv, gMod, gPow, gAnd, gOr, gXor, gShl, gShr, gLt, gLe, gGt, gGe, fTst, asB, fChain, fNotT, fAndT, fOrT, fNotV, fAndV, fOrV, fIf, fIsN, isNon, fIfS, fSeq, fNx, fCt, fRet, fRetN, fDrop, fAsg, Tg.run, setAll, fCall, fCons, fNil, fTup, fLst, fNew, fMt, isLst, lstV, seqV, objL, gAppend, gExtend, gIx, fSl, gSl, fO, fNoO, fRev, fWR1, fWR2, fWL, wkSeq, fWT, wkTup, allw, fFor, fCallP, fCallS, clL, clD, clK, fVarZ, frzG, fRaise, fSetIx, fPar, gSetL, fAug, gLen, gList, gListN, gTuple, gInt, gIsi, tyOf, isTy, sizeLine, CPow, gIAdd, gAddN, wkEnumL, wkEnumT, fWEL, fWET, fNeg, fCallK, gSumT, gSumL, lsV, fWR3, fCallNP, g_shaped, b_shaped, fTryOnly, hn, at0, at1, t3, hf, sw1, sw2, hh, ht, hq2]
        · have e2 : dcd (Sh ⟨f, who, "frame", .one a, c⟩) = false := dcd_neg fun z => by
            rcases z with ⟨_, ⟨_, z, _, _, e, _⟩ | ⟨_, z, e⟩ | ⟨_, _, _, _, e, _⟩ | ⟨_, _, e⟩ | ⟨_, _, e⟩⟩
            · cases e
            · injection e with e1
              exact hq e1
            all_goals cases e
          rw [e2]
          have hq2 : dcd (a = f % 2048) = false := dcd_neg hq
          unfold encW encR at *
          simp only at *
          clear h e2 hq ha
          cases hh : (who == "host") <;> cases ht : (who == "thing") <;> simp -dsimp -implicitDefEqProofs [pureF, runF, fVar, fC, fBin, gI, gI0, gAdd, gSub, gMul, gDiv, gMod, gPow, gAnd, gOr, gXor, gShl, gShr, gLt, gLe, gGt, gGe, fTst, asB, fChain, fNotT, fAndT, fOrT, fNotV, fAndV, fOrV, fIf, fIsN, isNon, fIfS, fSeq, fNx, fCt, fRet, fRetN, fDrop, fAsg, Tg.run, setAll, fCall, fCons, fNil, fTup, fLst, fNew, fMt, isLst, lstV, seqV, objL, gAppend, gExtend, gIx, fSl, gSl, fO, fNoO, fRev, fWR1, fWR2, fWL, wkSeq, fWT, wkTup, allw, fFor, fCallP, fCallS, clL, clD, clK, fVarZ, frzG, fRaise, fSetIx, fPar, gSetL, fAug, gLen, gList, gListN, gTuple, gInt, gIsi, tyOf, isTy, sizeLine, CPow, gIAdd, gAddN, wkEnumL, wkEnumT, fWEL, fWET, fNeg, fCallK, gSumT, gSumL, lsV, fWR3, fCallNP, g_shaped, b_shaped, fTryOnly, hn, at0, at1, t3, hf, sw1, sw2, hh, ht, hq2]
      · simp only at hw e hn
        subst e hw
        have e2 : dcd (Sh ⟨f, who, "data", .dat m ds, c⟩) = (who == "host" || who == "thing") := by
          by_cases hh : who = "host" ∨ who = "thing"
          · rw [dcd_pos ⟨hf, .inr (.inr (.inl ⟨rfl, hh, m, ds, rfl, hm⟩))⟩]
            rcases hh with rfl | rfl <;> rfl
          · rw [dcd_neg fun z => by
              rcases z with ⟨_, ⟨_, _, _, _, e, _⟩ | ⟨_, z, e⟩ | ⟨_, z, _, _, e, _⟩ | ⟨_, _, e⟩ | ⟨_, _, e⟩⟩
              · cases e
              · cases e
              · exact hh z
              all_goals cases e]
            simp only [not_or] at hh
            simp [hh.1, hh.2]
        rw [e2]
        unfold encW encR at *
        simp only at *
        clear h e2 hm
        have hcl2 := clL_ints 0 ds
        generalize ds.map D.int = DS' at *
        cases hh : (who == "host") <;> cases ht : (who == "thing") <;> simp -dsimp -implicitDefEqProofs [pureF, runF, fVar, fC, fBin, gI, gI0, gAdd, gSub, gMul, gDiv, gMod, gPow, gAnd, gOr, gXor, gShl, gShr, gLt, gLe, gGt, gGe, fTst, asB, fChain, fNotT, fAndT, fOrT, fNotV, fAndV, fOrV, fIf, fIsN, isNon, fIfS, fSeq, fNx, fCt, fRet, fRetN, fDrop, fAsg, Tg.run, setAll, fCall, fCons, fNil, fTup, fLst, fNew, fMt, isLst, lstV, seqV, objL, gAppend, gExtend, gIx, fSl, gSl, fO, fNoO, fRev, fWR1, fWR2, fWL, wkSeq, fWT, wkTup, allw, fFor, fCallP, fCallS, clL, clD, clK, fVarZ, frzG, fRaise, fSetIx, fPar, gSetL, fAug, gLen, gList, gListN, gTuple, gInt, gIsi, tyOf, isTy, sizeLine, CPow, gIAdd, gAddN, wkEnumL, wkEnumT, fWEL, fWET, fNeg, fCallK, gSumT, gSumL, lsV, fWR3, fCallNP, g_shaped, b_shaped, fTryOnly, hn, at0, at1, t3, hf, sw1, sw2, hh, ht, hcl2]
      · simp only at hw e hn
        subst e
        rcases hw with rfl | hw
        · have e2 : dcd (Sh ⟨f, who, "ack", .z, c⟩) = (who == "host" || who == "thing") := by
            by_cases hh : who = "host" ∨ who = "thing"
            · rw [dcd_pos ⟨hf, .inr (.inr (.inr (.inl ⟨rfl, hh, rfl⟩)))⟩]
              rcases hh with rfl | rfl <;> rfl
            · rw [dcd_neg fun z => by
                rcases z with ⟨_, ⟨_, _, _, _, e, _⟩ | ⟨_, z, e⟩ | ⟨_, z, _, _, e, _⟩ | ⟨_, z, e⟩ | ⟨z, _, e⟩⟩
                · cases e
                · cases e
                · cases e
                · exact hh z
                · simp at z]
              simp only [not_or] at hh
              simp [hh.1, hh.2]
          rw [e2]
          unfold encW encR at *
          simp only at *
          clear h e2
          cases hh : (who == "host") <;> cases ht : (who == "thing") <;> simp -dsimp -implicitDefEqProofs [pureF, runF, fVar, fC, fBin, gI, gI0, gAdd, gSub, gMul, gDiv, gMod, gPow, gAnd, gOr, gXor, gShl, gShr, gLt, gLe, gGt, gGe, fTst, asB, fChain, fNotT, fAndT, fOrT, fNotV, fAndV, fOrV, fIf, fIsN, isNon, fIfS, fSeq, fNx, fCt, fRet, fRetN, fDrop, fAsg, Tg.run, setAll, fCall, fCons, fNil, fTup, fLst, fNew, fMt, isLst, lstV, seqV, objL, gAppend, gExtend, gIx, fSl, gSl, fO, fNoO, fRev, fWR1, fWR2, fWL, wkSeq, fWT, wkTup, allw, fFor, fCallP, fCallS, clL, clD, clK, fVarZ, frzG, fRaise, fSetIx, fPar, gSetL, fAug, gLen, gList, gListN, gTuple, gInt, gIsi, tyOf, isTy, sizeLine, CPow, gIAdd, gAddN, wkEnumL, wkEnumT, fWEL, fWET, fNeg, fCallK, gSumT, gSumL, lsV, fWR3, fCallNP, g_shaped, b_shaped, fTryOnly, hn, at0, at1, t3, hf, sw1, sw2, hh, ht]
        · have e2 : dcd (Sh ⟨f, who, w, .z, c⟩) = (who == "thing") := by
            by_cases hh : who = "thing"
            · subst hh
              rw [dcd_pos ⟨hf, .inr (.inr (.inr (.inr ⟨hw, rfl, rfl⟩)))⟩]; rfl
            · rw [dcd_neg fun z => by
                rcases z with ⟨_, ⟨_, _, _, _, e, _⟩ | ⟨_, z, e⟩ | ⟨_, z, _, _, e, _⟩ | ⟨z, _, e⟩ | ⟨_, z, e⟩⟩
                · cases e
                · cases e
                · cases e
                · rcases hw with rfl | rfl <;> simp at z
                · exact hh z]
              simp [hh]
          rw [e2]
          unfold encW encR at *
          simp only at *
          clear h e2
          rcases hw with rfl | rfl <;> cases hh : (who == "host") <;> cases ht : (who == "thing") <;> simp -dsimp -implicitDefEqProofs [pureF, runF, fVar, fC, fBin, gI, gI0, gAdd, gSub, gMul, gDiv, gMod, gPow, gAnd, gOr, gXor, gShl, gShr, gLt, gLe, gGt, gGe, fTst, asB, fChain, fNotT, fAndT, fOrT, fNotV, fAndV, fOrV, fIf, fIsN, isNon, fIfS, fSeq, fNx, fCt, fRet, fRetN, fDrop, fAsg, Tg.run, setAll, fCall, fCons, fNil, fTup, fLst, fNew, fMt, isLst, lstV, seqV, objL, gAppend, gExtend, gIx, fSl, gSl, fO, fNoO, fRev, fWR1, fWR2, fWL, wkSeq, fWT, wkTup, allw, fFor, fCallP, fCallS, clL, clD, clK, fVarZ, frzG, fRaise, fSetIx, fPar, gSetL, fAug, gLen, gList, gListN, gTuple, gInt, gIsi, tyOf, isTy, sizeLine, CPow, gIAdd, gAddN, wkEnumL, wkEnumT, fWEL, fWET, fNeg, fCallK, gSumT, gSumL, lsV, fWR3, fCallNP, g_shaped, b_shaped, fTryOnly, hn, at0, at1, t3, hf, sw1, sw2, hh, ht]
    · rw [dcd_neg fun z => hf z.1]
      rcases hs with ⟨hw, a, b, e, hab⟩ | ⟨hw, a, e, ha⟩ | ⟨hw, m, ds, e, hm⟩ | ⟨hw, e⟩
      · simp only at hw e hn
        subst e
        unfold encW encR at *
        simp only at *
        clear h hab
        rcases hw with rfl | rfl | rfl <;> cases hh : (who == "host") <;> cases ht : (who == "thing") <;> simp -dsimp -implicitDefEqProofs [pureF, runF, fVar, fC, fBin, gI, gI0, gAdd, gSub, gMul, gDiv, gMod, gPow, gAnd, gOr, gXor, gShl, gShr, gLt, gLe, gGt, gGe, fTst, asB, fChain, fNotT, fAndT, fOrT, fNotV, fAndV, fOrV, fIf, fIsN, isNon, fIfS, fSeq, fNx, fCt, fRet, fRetN, fDrop, fAsg, Tg.run, setAll, fCall, fCons, fNil, fTup, fLst, fNew, fMt, isLst, lstV, seqV, objL, gAppend, gExtend, gIx, fSl, gSl, fO, fNoO, fRev, fWR1, fWR2, fWL, wkSeq, fWT, wkTup, allw, fFor, fCallP, fCallS, clL, clD, clK, fVarZ, frzG, fRaise, fSetIx, fPar, gSetL, fAug, gLen, gList, gListN, gTuple, gInt, gIsi, tyOf, isTy, sizeLine, CPow, gIAdd, gAddN, wkEnumL, wkEnumT, fWEL, fWET, fNeg, fCallK, gSumT, gSumL, lsV, fWR3, fCallNP, g_shaped, b_shaped, fTryOnly, hn, at0, at1, t3, hf, sw1, sw2, hh, ht]
      · simp only at hw e hn
        subst e hw
        unfold encW encR at *
        simp only at *
        clear h ha
        cases hh : (who == "host") <;> cases ht : (who == "thing") <;> simp -dsimp -implicitDefEqProofs [pureF, runF, fVar, fC, fBin, gI, gI0, gAdd, gSub, gMul, gDiv, gMod, gPow, gAnd, gOr, gXor, gShl, gShr, gLt, gLe, gGt, gGe, fTst, asB, fChain, fNotT, fAndT, fOrT, fNotV, fAndV, fOrV, fIf, fIsN, isNon, fIfS, fSeq, fNx, fCt, fRet, fRetN, fDrop, fAsg, Tg.run, setAll, fCall, fCons, fNil, fTup, fLst, fNew, fMt, isLst, lstV, seqV, objL, gAppend, gExtend, gIx, fSl, gSl, fO, fNoO, fRev, fWR1, fWR2, fWL, wkSeq, fWT, wkTup, allw, fFor, fCallP, fCallS, clL, clD, clK, fVarZ, frzG, fRaise, fSetIx, fPar, gSetL, fAug, gLen, gList, gListN, gTuple, gInt, gIsi, tyOf, isTy, sizeLine, CPow, gIAdd, gAddN, wkEnumL, wkEnumT, fWEL, fWET, fNeg, fCallK, gSumT, gSumL, lsV, fWR3, fCallNP, g_shaped, b_shaped, fTryOnly, hn, at0, at1, t3, hf, sw1, sw2, hh, ht]
      · simp only at hw e hn
        subst e hw
        unfold encW encR at *
        simp only at *
        clear h hm
        have hcl2 := clL_ints 0 ds
        generalize ds.map D.int = DS' at *
        cases hh : (who == "host") <;> cases ht : (who == "thing") <;> simp -dsimp -implicitDefEqProofs [pureF, runF, fVar, fC, fBin, gI, gI0, gAdd, gSub, gMul, gDiv, gMod, gPow, gAnd, gOr, gXor, gShl, gShr, gLt, gLe, gGt, gGe, fTst, asB, fChain, fNotT, fAndT, fOrT, fNotV, fAndV, fOrV, fIf, fIsN, isNon, fIfS, fSeq, fNx, fCt, fRet, fRetN, fDrop, fAsg, Tg.run, setAll, fCall, fCons, fNil, fTup, fLst, fNew, fMt, isLst, lstV, seqV, objL, gAppend, gExtend, gIx, fSl, gSl, fO, fNoO, fRev, fWR1, fWR2, fWL, wkSeq, fWT, wkTup, allw, fFor, fCallP, fCallS, clL, clD, clK, fVarZ, frzG, fRaise, fSetIx, fPar, gSetL, fAug, gLen, gList, gListN, gTuple, gInt, gIsi, tyOf, isTy, sizeLine, CPow, gIAdd, gAddN, wkEnumL, wkEnumT, fWEL, fWET, fNeg, fCallK, gSumT, gSumL, lsV, fWR3, fCallNP, g_shaped, b_shaped, fTryOnly, hn, at0, at1, t3, hf, sw1, sw2, hh, ht, hcl2]
      · simp only at hw e hn
        subst e
        unfold encW encR at *
        simp only at *
        clear h
        rcases hw with rfl | rfl | rfl <;> cases hh : (who == "host") <;> cases ht : (who == "thing") <;> simp -dsimp -implicitDefEqProofs [pureF, runF, fVar, fC, fBin, gI, gI0, gAdd, gSub, gMul, gDiv, gMod, gPow, gAnd, gOr, gXor, gShl, gShr, gLt, gLe, gGt, gGe, fTst, asB, fChain, fNotT, fAndT, fOrT, fNotV, fAndV, fOrV, fIf, fIsN, isNon, fIfS, fSeq, fNx, fCt, fRet, fRetN, fDrop, fAsg, Tg.run, setAll, fCall, fCons, fNil, fTup, fLst, fNew, fMt, isLst, lstV, seqV, objL, gAppend, gExtend, gIx, fSl, gSl, fO, fNoO, fRev, fWR1, fWR2, fWL, wkSeq, fWT, wkTup, allw, fFor, fCallP, fCallS, clL, clD, clK, fVarZ, frzG, fRaise, fSetIx, fPar, gSetL, fAug, gLen, gList, gListN, gTuple, gInt, gIsi, tyOf, isTy, sizeLine, CPow, gIAdd, gAddN, wkEnumL, wkEnumT, fWEL, fWET, fNeg, fCallK, gSumT, gSumL, lsV, fWR3, fCallNP, g_shaped, b_shaped, fTryOnly, hn, at0, at1, t3, hf, sw1, sw2, hh, ht]
  · obtain ⟨f, who, w, r, c⟩ := x
    rw [dcd_neg hs]
    have hcl := encR_cl 0 r
    unfold encW
    simp only at *
    generalize encR r = RR at *
    clear h hs
    simp -dsimp -implicitDefEqProofs [pureF, runF, fVar, fC, fBin, gI, gI0, gAdd, gSub, gMul, gDiv, gMod, gPow, gAnd, gOr, gXor, gShl, gShr, gLt, gLe, gGt, gGe, fTst, asB, fChain, fNotT, fAndT, fOrT, fNotV, fAndV, fOrV, fIf, fIsN, isNon, fIfS, fSeq, fNx, fCt, fRet, fRetN, fDrop, fAsg, Tg.run, setAll, fCall, fCons, fNil, fTup, fLst, fNew, fMt, isLst, lstV, seqV, objL, gAppend, gExtend, gIx, fSl, gSl, fO, fNoO, fRev, fWR1, fWR2, fWL, wkSeq, fWT, wkTup, allw, fFor, fCallP, fCallS, clL, clD, clK, fVarZ, frzG, fRaise, fSetIx, fPar, gSetL, fAug, gLen, gList, gListN, gTuple, gInt, gIsi, tyOf, isTy, sizeLine, CPow, gIAdd, gAddN, wkEnumL, wkEnumT, fWEL, fWET, fNeg, fCallK, gSumT, gSumL, lsV, fWR3, fCallNP, g_shaped, b_shaped, fTryOnly, hn, hcl, ct_BadPacket, fs_shaped_0]

def lb_first_wrong_0 : DS → R Fl := (fSeq (fAsg (fVar 3) (.many [4, 5, 6, 7]))
    (fSeq (fIfS (fNotT (fTst (fCallP 1 (fCons (fVar 3) fNil) [] g_shaped))) (fRet (fVar 2)) fNx)
    (fSeq (fAsg (fIf (fTst (fBin (fVar 2) (fC (.int 0)) gGt)) (fBin (fVar 0) (fBin (fVar 2) (fC (.int 1)) gSub) gIx) (fC .non)) (.one 8))
    (fSeq (fIfS (fAndT (fTst (fIsN false (fVar 8))) (fTst (fBin (fBin (fVar 6) (fC (.int 0)) gIx) (fC (.str "frame")) gNe))) (fRet (fVar 2)) fNx)
    (fSeq (fIfS (fAndT (fTst (fIsN true (fVar 8))) (fTst (fBin (fTup (fCons (fVar 5) (fCons (fBin (fVar 6) (fC (.int 0)) gIx) fNil))) (fCallP 1 (fCons (fVar 8) fNil) [] g_next_words) (gInD true)))) (fRet (fVar 2)) fNx)
    (fSeq (fIfS (fAndT (fTst (fIsN true (fVar 8))) (fTst (fBin (fVar 4) (fBin (fBin (fVar 8) (fC (.int 0)) gIx) (fCall (fCons (fBin (fBin (fVar 6) (fC (.int 0)) gIx) (fC (.str "frame")) gEq) fNil) gInt) gAdd) gNe))) (fRet (fVar 2)) fNx)
    (fSeq (fAsg (fIf (fTst (fBin (fBin (fVar 6) (fC (.int 0)) gIx) (fC (.str "frame")) gEq)) (fCallP 1 (fCons (fVar 3) fNil) [] g_takes) (fBin (fVar 1) (fCallP 1 (fCons (fVar 3) fNil) [] g_takes) gAdd)) (.one 1))
    (fIfS (fTst (fBin (fVar 1) (fC gv_FRAME) gGt)) (fRet (fVar 2)) fNx))))))))
def b_first_wrong : DS → R Fl :=
  (fSeq (fAsg (fC (.int 0)) (.one 1))
    (fSeq (fFor (fWEL (fCons (fVar 0) fNil)) (.many [2, 3]) lb_first_wrong_0)
    (fRet (fBin (fC (.int 0)) (fC (.int 1)) gSub))))
def g_first_wrong : GP := pureF (runF 9 b_first_wrong)
theorem eq_first_wrong : ∀ args, args.length = 1 → g_first_wrong args ≠ .bad → pureF (runF 9 b_first_wrong) args = g_first_wrong args := fun _ _ _ => rfl

theorem ofs_app (a b : String) : (Str.ofString a ++ Str.ofString b : Str) = Str.ofString (a ++ b) := by
  rw [Str.ofString_eq_toList, Str.ofString_eq_toList, Str.ofString_eq_toList]
  show Str.append _ _ = _
  unfold Str.append
  simp
theorem ofs_len (a : String) : (Str.ofString a).length = a.length := by
  rw [Str.ofString_eq_toList]
  simp [Str.length, String.length_toList]
def W2 : List String := ["host", "thing"]
def W8 : List String := ["out", "in", "setup", "frame", "data", "ack", "nak", "stall"]
theorem inj16 : ∀ u ∈ W2, ∀ v ∈ W8, ∀ u' ∈ W2, ∀ v' ∈ W8, u ++ " " ++ v = u' ++ " " ++ v' → u = u' ∧ v = v' := by decide +kernel
theorem nx_all (y : Rw) : (nx y).all (fun p => decide (p.1 ∈ W2) && decide (p.2 ∈ W8)) = true := by
  unfold nx
  repeat' split
  all_goals decide +kernel
theorem nx_mem (y : Rw) : ∀ p ∈ nx y, p.1 ∈ W2 ∧ p.2 ∈ W8 := fun p hp => by
  have := List.all_eq_true.mp (nx_all y) p hp
  simpa using this
theorem inD_eq (who w : String) (l : List (String × String)) (s : DS) : gInD true (.tup [.str (who : Str), .str (w : Str)]) (.lst (l.map prD)) s = .ok (.bl (!dcd ((who, w) ∈ l))) s := by
  have ok1 : ∀ l : List (String × String), okL 63 (l.map prD) = true := fun l => by
    induction l with
    | nil => rfl
    | cons p l ih => simp only [List.map_cons, okL, ih, Bool.and_true]; simp [prD, okD, okL]
  have e : ∀ l : List (String × String), (l.map prD).any (fun z => eqD z (.tup [.str (who : Str), .str (w : Str)])) = dcd ((who, w) ∈ l) := fun l => by
    induction l with
    | nil => simp
    | cons p l ih =>
      obtain ⟨a, b⟩ := p
      have e1 : eqD (prD (a, b)) (.tup [.str (who : Str), .str (w : Str)]) = (a == who && b == w) := by
        show (eqD (.str (Str.ofString a)) (.str (Str.ofString who)) && (eqD (.str (Str.ofString b)) (.str (Str.ofString w)) && true)) = _
        rw [eqD_ofs, eqD_ofs, Bool.and_true]
      simp only [List.map_cons, List.any_cons, ih, e1]
      rw [Bool.eq_iff_iff]
      simp only [Bool.or_eq_true, Bool.and_eq_true, beq_iff_eq, dcd_iff, List.mem_cons, Prod.mk.injEq]
      constructor
      · rintro (⟨h1, h2⟩ | h)
        · first | exact .inl ⟨h1.symm, h2.symm⟩ | exact .inl ⟨h1, h2⟩
        · exact .inr h
      · rintro (⟨h1, h2⟩ | h)
        · first | exact .inl ⟨h1.symm, h2.symm⟩ | exact .inl ⟨h1, h2⟩
        · exact .inr h
  unfold gInD
  simp only [vw]
  rw [if_pos ⟨by simp [okD, okL], by simp only [okD, ok1]⟩, e]
  simp
noncomputable def nr (r : Int) (x : Rw) : Int := if x.w = "frame" then tk x else r + tk x
def gd (p : Option Rw) (x : Rw) : Prop := match p with
  | none => x.w = "frame"
  | some a => (x.who, x.w) ∈ nx a ∧ x.f = a.f + (if x.w = "frame" then 1 else 0)
noncomputable def nxt (p : Option Rw) (r : Int) (x : Rw) : Option Int := if Pr (Sh x ∧ gd p x ∧ nr r x ≤ 1500) then some (nr r x) else none
def prv (xs : List Rw) (i : Nat) : Option Rw := match i with
  | 0 => none
  | j + 1 => xs[j]?
noncomputable def roomAt (xs : List Rw) : Nat → Option Int
  | 0 => some 0
  | i + 1 => match roomAt xs i, xs[i]? with
    | some r, some x => nxt (prv xs i) r x
    | _, _ => none
theorem nxt_sh {p : Option Rw} {r r' : Int} {x : Rw} (h : nxt p r x = some r') : Sh x := by
  unfold nxt at h
  split at h
  · rename_i z; exact z.1
  · cases h
theorem fw_step (xs : List Rw) (i : Nat) (x : Rw) (hx : xs[i]? = some x) (hp : Pk x) (hprev : ∀ j y, i = j + 1 → xs[j]? = some y → Sh y) (r : Int) (x2 x3 x4 x5 x6 x7 x8 : Option D) :
    (∀ r', nxt (prv xs i) r x = some r' → ∃ y2 y3 y4 y5 y6 y7 y8, fStep (.many [2, 3]) lb_first_wrong_0 (.tup [.int i, encW x]) ⟨[some (.lst (xs.map encW)), some (.int r), x2, x3, x4, x5, x6, x7, x8], []⟩ = .ok .nx ⟨[some (.lst (xs.map encW)), some (.int r'), y2, y3, y4, y5, y6, y7, y8], []⟩) ∧
    (nxt (prv xs i) r x = none → ∃ s', fStep (.many [2, 3]) lb_first_wrong_0 (.tup [.int i, encW x]) ⟨[some (.lst (xs.map encW)), some (.int r), x2, x3, x4, x5, x6, x7, x8], []⟩ = .ok (.rt (.int i)) s') := by
  have hs := shaped_eq x hp
  have hcl := encR_cl 0 x.r
  have at0 := at0L
  by_cases hsh : Sh x
  · have ht := takes_eq x hsh
    have hE : encW x = .tup [.int x.f, .str (x.who : Str), .tup (.str (x.w : Str) :: encR x.r), .bl x.c] := rfl
    rw [dcd_pos hsh] at hs
    have hfr : gv_FRAME = .int 1500 := rfl
    cases i with
    | zero =>
      have e : nxt (prv xs 0) r x = if Pr (x.w = "frame" ∧ nr r x ≤ 1500) then some (nr r x) else none := by
        unfold nxt
        rw [show (Sh x ∧ gd (prv xs 0) x ∧ nr r x ≤ 1500) = (x.w = "frame" ∧ nr r x ≤ 1500) from propext ⟨fun z => z.2, fun z => ⟨hsh, z⟩⟩]
      rw [e]
      clear e
      rw [hE] at hs ht ⊢
      generalize encR x.r = RR at *
      generalize xs.map encW = L at *
      by_cases hw : x.w = "frame"
      · have hnr : nr r x = tk x := by unfold nr; rw [if_pos hw]
        have htk : tk x = 6 := by unfold tk; rw [if_pos hw]
        rw [htk] at ht hnr
        rw [hnr, if_Pr ⟨hw, by omega⟩]
        rw [hw] at hs ht ⊢
        refine ⟨fun r' h => ?_, fun h => (by cases h)⟩
        cases h
        refine ⟨some (.int (0 : Nat)), some (.tup [.int x.f, .str (x.who : Str), .tup (.str ("frame" : Str) :: RR), .bl x.c]), some (.int x.f), some (.str (x.who : Str)), some (.tup (.str ("frame" : Str) :: RR)), some (.bl x.c), some .non, ?_⟩
        simp -dsimp -implicitDefEqProofs [pureF, runF, fVar, fC, fBin, gI, gI0, gAdd, gSub, gMul, gDiv, gMod, gPow, gAnd, gOr, gXor, gShl, gShr, gLt, gLe, gGt, gGe, fTst, asB, fChain, fNotT, fAndT, fOrT, fNotV, fAndV, fOrV, fIf, fIsN, isNon, fIfS, fSeq, fNx, fCt, fRet, fRetN, fDrop, fAsg, Tg.run, setAll, fCall, fCons, fNil, fTup, fLst, fNew, fMt, isLst, lstV, seqV, objL, gAppend, gExtend, gIx, fSl, gSl, fO, fNoO, fRev, fWR1, fWR2, fWL, wkSeq, fWT, wkTup, allw, fFor, fCallP, fCallS, clL, clD, clK, fVarZ, frzG, fRaise, fSetIx, fPar, gSetL, fAug, gLen, gList, gListN, gTuple, gInt, gIsi, tyOf, isTy, sizeLine, CPow, gIAdd, gAddN, wkEnumL, wkEnumT, fWEL, fWET, fNeg, fCallK, gSumT, gSumL, lsV, fWR3, fCallNP, fStep, lb_first_wrong_0, hs, hcl, at0, ht, hfr]
      · rw [if_nPr fun z => hw z.1]
        have hwb : (x.w == "frame") = false := by simpa using hw
        refine ⟨fun r' h => (by cases h), fun _ => ⟨⟨[some (.lst L), some (.int r), some (.int (0 : Nat)), some (.tup [.int x.f, .str (x.who : Str), .tup (.str (x.w : Str) :: RR), .bl x.c]), some (.int x.f), some (.str (x.who : Str)), some (.tup (.str (x.w : Str) :: RR)), some (.bl x.c), some .non], []⟩, ?_⟩⟩
        simp -dsimp -implicitDefEqProofs [pureF, runF, fVar, fC, fBin, gI, gI0, gAdd, gSub, gMul, gDiv, gMod, gPow, gAnd, gOr, gXor, gShl, gShr, gLt, gLe, gGt, gGe, fTst, asB, fChain, fNotT, fAndT, fOrT, fNotV, fAndV, fOrV, fIf, fIsN, isNon, fIfS, fSeq, fNx, fCt, fRet, fRetN, fDrop, fAsg, Tg.run, setAll, fCall, fCons, fNil, fTup, fLst, fNew, fMt, isLst, lstV, seqV, objL, gAppend, gExtend, gIx, fSl, gSl, fO, fNoO, fRev, fWR1, fWR2, fWL, wkSeq, fWT, wkTup, allw, fFor, fCallP, fCallS, clL, clD, clK, fVarZ, frzG, fRaise, fSetIx, fPar, gSetL, fAug, gLen, gList, gListN, gTuple, gInt, gIsi, tyOf, isTy, sizeLine, CPow, gIAdd, gAddN, wkEnumL, wkEnumT, fWEL, fWET, fNeg, fCallK, gSumT, gSumL, lsV, fWR3, fCallNP, fStep, lb_first_wrong_0, hs, hcl, at0, hwb]
    | succ j =>
      have hj : j < xs.length := by have := (List.getElem?_eq_some_iff.mp hx).1; omega
      obtain ⟨y, hy⟩ : ∃ y, xs[j]? = some y := ⟨_, List.getElem?_eq_getElem hj⟩
      have hys := hprev j y rfl hy
      have hnw := next_words_eq y hys
      have hin := inD_eq x.who x.w (nx y)
      have hcy := encR_cl 0 y.r
      have hcn : clL 0 ((nx y).map prD) = true := by
        generalize nx y = l
        induction l with
        | nil => rfl
        | cons p l ih => simp only [List.map_cons, clL, ih, Bool.and_true]; rfl
      have ha : L2.atI (xs.map encW) ((j + 1 : Nat) - 1 : Int) = some (encW y) := by
        have : (((j + 1 : Nat) : Int) - 1) = ((j : Nat) : Int) := by omega
        rw [this]
        exact atI_nat (by rw [List.getElem?_map, hy]; rfl)
      have hi0 : (0 : Int) < ((j + 1 : Nat) : Int) := by omega
      have e : nxt (prv xs (j + 1)) r x = if Pr (((x.who, x.w) ∈ nx y ∧ x.f = y.f + (if x.w = "frame" then 1 else 0)) ∧ nr r x ≤ 1500) then some (nr r x) else none := by
        unfold nxt
        simp only [prv, hy]
        rw [show (Sh x ∧ gd (some y) x ∧ nr r x ≤ 1500) = (((x.who, x.w) ∈ nx y ∧ x.f = y.f + (if x.w = "frame" then 1 else 0)) ∧ nr r x ≤ 1500) from propext ⟨fun z => ⟨z.2.1, z.2.2⟩, fun z => ⟨hsh, z.1, z.2⟩⟩]
      rw [e]
      clear e
      have hF : encW y = .tup [.int y.f, .str (y.who : Str), .tup (.str (y.w : Str) :: encR y.r), .bl y.c] := rfl
      rw [hF] at hnw ha
      rw [hE] at hs ht ⊢
      have hn0 : nr r x = if x.w = "frame" then tk x else r + tk x := rfl
      generalize encR x.r = RR at *
      generalize encR y.r = RY at *
      generalize xs.map encW = L at *
      generalize (nx y).map prD = NL at *
      generalize ((j + 1 : Nat) : Int) = I at *
      generalize tk x = TK at *
      by_cases h1 : (x.who, x.w) ∈ nx y
      · rw [dcd_pos h1] at hin
        by_cases h2 : x.f = y.f + (if x.w = "frame" then 1 else 0)
        · by_cases h3 : nr r x ≤ 1500
          · rw [if_Pr ⟨⟨h1, h2⟩, h3⟩]
            refine ⟨fun r' h => ?_, fun h => (by cases h)⟩
            cases h
            refine ⟨some (.int I), some (.tup [.int x.f, .str (x.who : Str), .tup (.str (x.w : Str) :: RR), .bl x.c]), some (.int x.f), some (.str (x.who : Str)), some (.tup (.str (x.w : Str) :: RR)), some (.bl x.c), some (.tup [.int y.f, .str (y.who : Str), .tup (.str (y.w : Str) :: RY), .bl y.c]), ?_⟩
            rw [hn0] at h3 ⊢
            by_cases hw : x.w = "frame"
            · rw [if_pos hw] at h2 h3 ⊢
              rw [hw] at hs ht hin ⊢
              have hd : dcd (x.f = y.f + 1) = true := dcd_pos h2
              have h4 : ¬ 1500 < TK := by omega
              clear h1 h2 h3
              simp -dsimp -implicitDefEqProofs [pureF, runF, fVar, fC, fBin, gI, gI0, gAdd, gSub, gMul, gDiv, gMod, gPow, gAnd, gOr, gXor, gShl, gShr, gLt, gLe, gGt, gGe, fTst, asB, fChain, fNotT, fAndT, fOrT, fNotV, fAndV, fOrV, fIf, fIsN, isNon, fIfS, fSeq, fNx, fCt, fRet, fRetN, fDrop, fAsg, Tg.run, setAll, fCall, fCons, fNil, fTup, fLst, fNew, fMt, isLst, lstV, seqV, objL, gAppend, gExtend, gIx, fSl, gSl, fO, fNoO, fRev, fWR1, fWR2, fWL, wkSeq, fWT, wkTup, allw, fFor, fCallP, fCallS, clL, clD, clK, fVarZ, frzG, fRaise, fSetIx, fPar, gSetL, fAug, gLen, gList, gListN, gTuple, gInt, gIsi, tyOf, isTy, sizeLine, CPow, gIAdd, gAddN, wkEnumL, wkEnumT, fWEL, fWET, fNeg, fCallK, gSumT, gSumL, lsV, fWR3, fCallNP, fStep, lb_first_wrong_0, hs, hcl, at0, ht, hfr, hi0, ha, hnw, hin, hcy, hcn, hd, h4]
            · rw [if_neg hw] at h2 h3 ⊢
              have hwb : (x.w == "frame") = false := by simpa using hw
              have hd : dcd (x.f = y.f) = true := dcd_pos (by omega)
              have h4 : ¬ 1500 < r + TK := by omega
              clear h1 h2 h3
              simp -dsimp -implicitDefEqProofs [pureF, runF, fVar, fC, fBin, gI, gI0, gAdd, gSub, gMul, gDiv, gMod, gPow, gAnd, gOr, gXor, gShl, gShr, gLt, gLe, gGt, gGe, fTst, asB, fChain, fNotT, fAndT, fOrT, fNotV, fAndV, fOrV, fIf, fIsN, isNon, fIfS, fSeq, fNx, fCt, fRet, fRetN, fDrop, fAsg, Tg.run, setAll, fCall, fCons, fNil, fTup, fLst, fNew, fMt, isLst, lstV, seqV, objL, gAppend, gExtend, gIx, fSl, gSl, fO, fNoO, fRev, fWR1, fWR2, fWL, wkSeq, fWT, wkTup, allw, fFor, fCallP, fCallS, clL, clD, clK, fVarZ, frzG, fRaise, fSetIx, fPar, gSetL, fAug, gLen, gList, gListN, gTuple, gInt, gIsi, tyOf, isTy, sizeLine, CPow, gIAdd, gAddN, wkEnumL, wkEnumT, fWEL, fWET, fNeg, fCallK, gSumT, gSumL, lsV, fWR3, fCallNP, fStep, lb_first_wrong_0, hs, hcl, at0, ht, hfr, hi0, ha, hnw, hin, hcy, hcn, hd, h4, hwb]
          · rw [if_nPr fun z => h3 z.2]
            refine ⟨fun r' h => (by cases h), fun _ => ?_⟩
            rw [hn0] at h3
            by_cases hw : x.w = "frame"
            · rw [if_pos hw] at h2 h3
              refine ⟨⟨[some (.lst L), some (.int TK), some (.int I), some (.tup [.int x.f, .str (x.who : Str), .tup (.str (x.w : Str) :: RR), .bl x.c]), some (.int x.f), some (.str (x.who : Str)), some (.tup (.str (x.w : Str) :: RR)), some (.bl x.c), some (.tup [.int y.f, .str (y.who : Str), .tup (.str (y.w : Str) :: RY), .bl y.c])], []⟩, ?_⟩
              rw [hw] at hs ht hin ⊢
              have hd : dcd (x.f = y.f + 1) = true := dcd_pos h2
              have h4 : 1500 < TK := by omega
              clear h1 h2 h3
              simp -dsimp -implicitDefEqProofs [pureF, runF, fVar, fC, fBin, gI, gI0, gAdd, gSub, gMul, gDiv, gMod, gPow, gAnd, gOr, gXor, gShl, gShr, gLt, gLe, gGt, gGe, fTst, asB, fChain, fNotT, fAndT, fOrT, fNotV, fAndV, fOrV, fIf, fIsN, isNon, fIfS, fSeq, fNx, fCt, fRet, fRetN, fDrop, fAsg, Tg.run, setAll, fCall, fCons, fNil, fTup, fLst, fNew, fMt, isLst, lstV, seqV, objL, gAppend, gExtend, gIx, fSl, gSl, fO, fNoO, fRev, fWR1, fWR2, fWL, wkSeq, fWT, wkTup, allw, fFor, fCallP, fCallS, clL, clD, clK, fVarZ, frzG, fRaise, fSetIx, fPar, gSetL, fAug, gLen, gList, gListN, gTuple, gInt, gIsi, tyOf, isTy, sizeLine, CPow, gIAdd, gAddN, wkEnumL, wkEnumT, fWEL, fWET, fNeg, fCallK, gSumT, gSumL, lsV, fWR3, fCallNP, fStep, lb_first_wrong_0, hs, hcl, at0, ht, hfr, hi0, ha, hnw, hin, hcy, hcn, hd, h4]
            · rw [if_neg hw] at h2 h3
              refine ⟨⟨[some (.lst L), some (.int (r + TK)), some (.int I), some (.tup [.int x.f, .str (x.who : Str), .tup (.str (x.w : Str) :: RR), .bl x.c]), some (.int x.f), some (.str (x.who : Str)), some (.tup (.str (x.w : Str) :: RR)), some (.bl x.c), some (.tup [.int y.f, .str (y.who : Str), .tup (.str (y.w : Str) :: RY), .bl y.c])], []⟩, ?_⟩
              have hwb : (x.w == "frame") = false := by simpa using hw
              have hd : dcd (x.f = y.f) = true := dcd_pos (by omega)
              have h4 : 1500 < r + TK := by omega
              clear h1 h2 h3
              simp -dsimp -implicitDefEqProofs [pureF, runF, fVar, fC, fBin, gI, gI0, gAdd, gSub, gMul, gDiv, gMod, gPow, gAnd, gOr, gXor, gShl, gShr, gLt, gLe, gGt, gGe, fTst, asB, fChain, fNotT, fAndT, fOrT, fNotV, fAndV, fOrV, fIf, fIsN, isNon, fIfS, fSeq, fNx, fCt, fRet, fRetN, fDrop, fAsg, Tg.run, setAll, fCall, fCons, fNil, fTup, fLst, fNew, fMt, isLst, lstV, seqV, objL, gAppend, gExtend, gIx, fSl, gSl, fO, fNoO, fRev, fWR1, fWR2, fWL, wkSeq, fWT, wkTup, allw, fFor, fCallP, fCallS, clL, clD, clK, fVarZ, frzG, fRaise, fSetIx, fPar, gSetL, fAug, gLen, gList, gListN, gTuple, gInt, gIsi, tyOf, isTy, sizeLine, CPow, gIAdd, gAddN, wkEnumL, wkEnumT, fWEL, fWET, fNeg, fCallK, gSumT, gSumL, lsV, fWR3, fCallNP, fStep, lb_first_wrong_0, hs, hcl, at0, ht, hfr, hi0, ha, hnw, hin, hcy, hcn, hd, h4, hwb]
        · rw [if_nPr fun z => h2 z.1.2]
          refine ⟨fun r' h => (by cases h), fun _ => ⟨⟨[some (.lst L), some (.int r), some (.int I), some (.tup [.int x.f, .str (x.who : Str), .tup (.str (x.w : Str) :: RR), .bl x.c]), some (.int x.f), some (.str (x.who : Str)), some (.tup (.str (x.w : Str) :: RR)), some (.bl x.c), some (.tup [.int y.f, .str (y.who : Str), .tup (.str (y.w : Str) :: RY), .bl y.c])], []⟩, ?_⟩⟩
          by_cases hw : x.w = "frame"
          · rw [if_pos hw] at h2
            rw [hw] at hs ht hin ⊢
            have hd : dcd (x.f = y.f + 1) = false := dcd_neg h2
            clear h1 h2 hn0
            simp -dsimp -implicitDefEqProofs [pureF, runF, fVar, fC, fBin, gI, gI0, gAdd, gSub, gMul, gDiv, gMod, gPow, gAnd, gOr, gXor, gShl, gShr, gLt, gLe, gGt, gGe, fTst, asB, fChain, fNotT, fAndT, fOrT, fNotV, fAndV, fOrV, fIf, fIsN, isNon, fIfS, fSeq, fNx, fCt, fRet, fRetN, fDrop, fAsg, Tg.run, setAll, fCall, fCons, fNil, fTup, fLst, fNew, fMt, isLst, lstV, seqV, objL, gAppend, gExtend, gIx, fSl, gSl, fO, fNoO, fRev, fWR1, fWR2, fWL, wkSeq, fWT, wkTup, allw, fFor, fCallP, fCallS, clL, clD, clK, fVarZ, frzG, fRaise, fSetIx, fPar, gSetL, fAug, gLen, gList, gListN, gTuple, gInt, gIsi, tyOf, isTy, sizeLine, CPow, gIAdd, gAddN, wkEnumL, wkEnumT, fWEL, fWET, fNeg, fCallK, gSumT, gSumL, lsV, fWR3, fCallNP, fStep, lb_first_wrong_0, hs, hcl, at0, hi0, ha, hnw, hin, hcy, hcn, hd]
          · rw [if_neg hw] at h2
            have hwb : (x.w == "frame") = false := by simpa using hw
            have hd : dcd (x.f = y.f) = false := dcd_neg (by omega)
            clear h1 h2 hn0
            simp -dsimp -implicitDefEqProofs [pureF, runF, fVar, fC, fBin, gI, gI0, gAdd, gSub, gMul, gDiv, gMod, gPow, gAnd, gOr, gXor, gShl, gShr, gLt, gLe, gGt, gGe, fTst, asB, fChain, fNotT, fAndT, fOrT, fNotV, fAndV, fOrV, fIf, fIsN, isNon, fIfS, fSeq, fNx, fCt, fRet, fRetN, fDrop, fAsg, Tg.run, setAll, fCall, fCons, fNil, fTup, fLst, fNew, fMt, isLst, lstV, seqV, objL, gAppend, gExtend, gIx, fSl, gSl, fO, fNoO, fRev, fWR1, fWR2, fWL, wkSeq, fWT, wkTup, allw, fFor, fCallP, fCallS, clL, clD, clK, fVarZ, frzG, fRaise, fSetIx, fPar, gSetL, fAug, gLen, gList, gListN, gTuple, gInt, gIsi, tyOf, isTy, sizeLine, CPow, gIAdd, gAddN, wkEnumL, wkEnumT, fWEL, fWET, fNeg, fCallK, gSumT, gSumL, lsV, fWR3, fCallNP, fStep, lb_first_wrong_0, hs, hcl, at0, hi0, ha, hnw, hin, hcy, hcn, hd, hwb]
      · rw [if_nPr fun z => h1 z.1.1]
        rw [dcd_neg h1] at hin
        refine ⟨fun r' h => (by cases h), fun _ => ⟨⟨[some (.lst L), some (.int r), some (.int I), some (.tup [.int x.f, .str (x.who : Str), .tup (.str (x.w : Str) :: RR), .bl x.c]), some (.int x.f), some (.str (x.who : Str)), some (.tup (.str (x.w : Str) :: RR)), some (.bl x.c), some (.tup [.int y.f, .str (y.who : Str), .tup (.str (y.w : Str) :: RY), .bl y.c])], []⟩, ?_⟩⟩
        clear h1 hn0
        simp -dsimp -implicitDefEqProofs [pureF, runF, fVar, fC, fBin, gI, gI0, gAdd, gSub, gMul, gDiv, gMod, gPow, gAnd, gOr, gXor, gShl, gShr, gLt, gLe, gGt, gGe, fTst, asB, fChain, fNotT, fAndT, fOrT, fNotV, fAndV, fOrV, fIf, fIsN, isNon, fIfS, fSeq, fNx, fCt, fRet, fRetN, fDrop, fAsg, Tg.run, setAll, fCall, fCons, fNil, fTup, fLst, fNew, fMt, isLst, lstV, seqV, objL, gAppend, gExtend, gIx, fSl, gSl, fO, fNoO, fRev, fWR1, fWR2, fWL, wkSeq, fWT, wkTup, allw, fFor, fCallP, fCallS, clL, clD, clK, fVarZ, frzG, fRaise, fSetIx, fPar, gSetL, fAug, gLen, gList, gListN, gTuple, gInt, gIsi, tyOf, isTy, sizeLine, CPow, gIAdd, gAddN, wkEnumL, wkEnumT, fWEL, fWET, fNeg, fCallK, gSumT, gSumL, lsV, fWR3, fCallNP, fStep, lb_first_wrong_0, hs, hcl, at0, hi0, ha, hnw, hin, hcy, hcn]
  · rw [dcd_neg hsh] at hs
    have e : nxt (prv xs i) r x = none := by unfold nxt; rw [if_nPr fun z => hsh z.1]
    rw [e]
    refine ⟨fun r' h => (by cases h), fun _ => ?_⟩
    have hE : encW x = .tup [.int x.f, .str (x.who : Str), .tup (.str (x.w : Str) :: encR x.r), .bl x.c] := rfl
    rw [hE] at hs ⊢
    generalize encR x.r = RR at *
    generalize xs.map encW = L at *
    refine ⟨⟨[some (.lst L), some (.int r), some (.int (i : Nat)), some (.tup [.int x.f, .str (x.who : Str), .tup (.str (x.w : Str) :: RR), .bl x.c]), some (.int x.f), some (.str (x.who : Str)), some (.tup (.str (x.w : Str) :: RR)), some (.bl x.c), x8], []⟩, ?_⟩
    simp -dsimp -implicitDefEqProofs [pureF, runF, fVar, fC, fBin, gI, gI0, gAdd, gSub, gMul, gDiv, gMod, gPow, gAnd, gOr, gXor, gShl, gShr, gLt, gLe, gGt, gGe, fTst, asB, fChain, fNotT, fAndT, fOrT, fNotV, fAndV, fOrV, fIf, fIsN, isNon, fIfS, fSeq, fNx, fCt, fRet, fRetN, fDrop, fAsg, Tg.run, setAll, fCall, fCons, fNil, fTup, fLst, fNew, fMt, isLst, lstV, seqV, objL, gAppend, gExtend, gIx, fSl, gSl, fO, fNoO, fRev, fWR1, fWR2, fWL, wkSeq, fWT, wkTup, allw, fFor, fCallP, fCallS, clL, clD, clK, fVarZ, frzG, fRaise, fSetIx, fPar, gSetL, fAug, gLen, gList, gListN, gTuple, gInt, gIsi, tyOf, isTy, sizeLine, CPow, gIAdd, gAddN, wkEnumL, wkEnumT, fWEL, fWET, fNeg, fCallK, gSumT, gSumL, lsV, fWR3, fCallNP, fStep, lb_first_wrong_0, hs, hcl]

def lb_law_bag_0 : DS → R Fl := (fAsg (fBin (fBin (fBin (fVar 2) (fC (.int 1543)) gMul) (fVar 3) gAdd) (fC (.int 2147483629)) gMod) (.one 2))
def b_law_bag : DS → R Fl :=
  (fSeq (fAsg (fCall (fCons (fSl (fVar 0) fNoO (fO (fC (.int 63)))) fNil) gList) (.one 1))
    (fSeq (fAsg (fBin (fC (.int 17)) (fCall (fCons (fVar 1) fNil) gLen) gAdd) (.one 2))
    (fSeq (fFor (fWL (fVar 1)) (.one 3) lb_law_bag_0)
    (fRet (fNew (fCons (fVar 1) (fCons (fC (.int 0)) (fCons (fC (.int 0)) (fCons (fVar 2) fNil)))))))))
theorem eq_law_bag : ∀ args μ, args.length = 1 → g_law_bag args μ ≠ .bad → runF 4 b_law_bag args μ = g_law_bag args μ := by
  intro args μ hl h
  unfold g_law_bag at h ⊢
  split
  · rename_i cs
    cases q : intsD cs with
    | none => simp [q] at h
    | some ns =>
      simp only [q] at h ⊢
      split
      · rename_i hc
        have hd := ints_eq q
        subst hd
        have hcut : cutG (ns.map D.int) none (some 63) = ns.map D.int := by
          unfold cutG
          rw [show HT.sIx (ns.map D.int).length 0 none = 0 from rfl, show HT.sIx (ns.map D.int).length (ns.map D.int).length (some 63) = min 63 (ns.map D.int).length from HT.sIx_nat _ _ 63]
          rw [List.drop_zero, List.length_map, Nat.sub_zero, List.take_of_length_le (by rw [List.length_map]; omega)]
        obtain ⟨s', l1, x, l2⟩ := loop_inv (P := allw) (step := fStep (.one 3) lb_law_bag_0) (fun i s => ∃ x, s = ⟨[some (.lsr (ns.map .int)), some (.lst (ns.map .int)), some (.int ((ns.take i).foldl (fun k c => (k * 1543 + c) % 2147483629) (17 + ns.length))), x], μ⟩) (ns.map .int) (fun _ _ _ => rfl)
          (fun i d s e ⟨x, hs⟩ => by
            rw [List.getElem?_map] at e
            cases qe : ns[i]? with
            | none => rw [qe] at e; cases e
            | some b =>
              rw [qe] at e
              cases e
              subst hs
              refine ⟨_, .inl ?_, some (.int b), rfl⟩
              simp -dsimp -implicitDefEqProofs [pureF, runF, fVar, fC, fBin, gI, gI0, gAdd, gSub, gMul, gDiv, gMod, gPow, gAnd, gOr, gXor, gShl, gShr, gLt, gLe, gGt, gGe, fTst, asB, fChain, fNotT, fAndT, fOrT, fNotV, fAndV, fOrV, fIf, fIsN, isNon, fIfS, fSeq, fNx, fCt, fRet, fRetN, fDrop, fAsg, Tg.run, setAll, fCall, fCons, fNil, fTup, fLst, fNew, fMt, isLst, lstV, seqV, objL, gAppend, gExtend, gIx, fSl, gSl, fO, fNoO, fRev, fWR1, fWR2, fWL, wkSeq, fWT, wkTup, allw, fFor, fCallP, fCallS, clL, clD, clK, fVarZ, frzG, fRaise, fSetIx, fPar, gSetL, fAug, gLen, gList, gListN, gTuple, gInt, gIsi, tyOf, isTy, sizeLine, CPow, gIAdd, gAddN, wkEnumL, wkEnumT, fWEL, fWET, fNeg, fCallK, gSumT, gSumL, lsV, fWR3, fCallNP, fStep, lb_law_bag_0, CMul, List.take_add_one, qe, List.foldl_append])
          (s := ⟨[some (.lsr (ns.map .int)), some (.lst (ns.map .int)), some (.int (17 + ns.length)), none], μ⟩) ⟨none, by simp⟩
        rw [List.length_map, List.take_length] at l2
        subst l2
        simp -dsimp -implicitDefEqProofs [pureF, runF, fVar, fC, fBin, gI, gI0, gAdd, gSub, gMul, gDiv, gMod, gPow, gAnd, gOr, gXor, gShl, gShr, gLt, gLe, gGt, gGe, fTst, asB, fChain, fNotT, fAndT, fOrT, fNotV, fAndV, fOrV, fIf, fIsN, isNon, fIfS, fSeq, fNx, fCt, fRet, fRetN, fDrop, fAsg, Tg.run, setAll, fCall, fCons, fNil, fTup, fLst, fNew, fMt, isLst, lstV, seqV, objL, gAppend, gExtend, gIx, fSl, gSl, fO, fNoO, fRev, fWR1, fWR2, fWL, wkSeq, fWT, wkTup, allw, fFor, fCallP, fCallS, clL, clD, clK, fVarZ, frzG, fRaise, fSetIx, fPar, gSetL, fAug, gLen, gList, gListN, gTuple, gInt, gIsi, tyOf, isTy, sizeLine, CPow, gIAdd, gAddN, wkEnumL, wkEnumT, fWEL, fWET, fNeg, fCallK, gSumT, gSumL, lsV, fWR3, fCallNP, b_law_bag, hcut, l1, Bag.mo, bag0, bagKnot]
      · rename_i hc
        exact (h (if_neg hc)).elim
  · simp at h

def b_law_pull : DS → R Fl :=
  (fSeq (fIfS (fTst (fBin (fBin (fVar 0) (fC (.int 2)) gIx) (fC (.int 2)) gLt)) (fSeq (fSetIx (fBin (fBin (fVar 0) (fC (.int 1)) gIx) (fC (.int 1)) gAdd) (fVar 0) (fC (.int 1)) gSetL)
    (fSeq (fAsg (fBin (fBin (fVar 0) (fC (.int 3)) gIx) (fBin (fBin (fVar 0) (fC (.int 1)) gIx) (fC (.int 7919)) gMul) gAdd) (.one 2))
    (fSeq (fIfS (fTst (fBin (fBin (fVar 0) (fC (.int 1)) gIx) (fCall (fCons (fBin (fVar 0) (fC (.int 0)) gIx) fNil) gLen) gLe)) (fAsg (fBin (fBin (fVar 0) (fC (.int 0)) gIx) (fBin (fBin (fVar 0) (fC (.int 1)) gIx) (fC (.int 1)) gSub) gIx) (.one 2)) fNx)
    (fSeq (fIfS (fOrT (fTst (fBin (fBin (fVar 0) (fC (.int 1)) gIx) (fCall (fCons (fBin (fVar 0) (fC (.int 0)) gIx) fNil) gLen) gGt)) (fTst (fBin (fVar 2) (fBin (fC (.int 10)) (fC (.int 18)) gPow) gLt))) (fSeq (fAsg (fBin (fBin (fBin (fBin (fVar 2) (fC (.int 48271)) gMul) (fBin (fBin (fVar 0) (fC (.int 1)) gIx) (fC (.int 40692)) gMul) gAdd) (fBin (fVar 0) (fC (.int 3)) gIx) gAdd) (fC (.int 2147483647)) gMod) (.one 3))
    (fSeq (fAsg (fBin (fBin (fBin (fVar 3) (fVar 3) gMul) (fBin (fVar 0) (fC (.int 1)) gIx) gAdd) (fC (.int 998244353)) gMod) (.one 4))
    (fRet (fBin (fBin (fBin (fBin (fBin (fVar 4) (fC (.int 69621)) gMul) (fVar 3) gAdd) (fC (.int 2147483629)) gMod) (fC (.int 7)) gDiv) (fVar 1) gMod)))) fNx)
    (fSetIx (fVar 2) (fVar 0) (fC (.int 2)) gSetL))))) fNx)
    (fSeq (fAsg (fBin (fBin (fVar 0) (fC (.int 2)) gIx) (fVar 1) gMod) (.one 5))
    (fSeq (fSetIx (fBin (fBin (fVar 0) (fC (.int 2)) gIx) (fVar 1) gDiv) (fVar 0) (fC (.int 2)) gSetL)
    (fRet (fVar 5)))))
theorem atP {α : Type} (a b c d : α) : L2.atI [a, b, c, d] 0 = some a ∧ L2.atI [a, b, c, d] 1 = some b ∧ L2.atI [a, b, c, d] 2 = some c ∧ L2.atI [a, b, c, d] 3 = some d := ⟨rfl, rfl, rfl, rfl⟩
theorem eq_law_pull : ∀ args μ, args.length = 2 → g_law_pull args μ ≠ .bad → runF 6 b_law_pull args μ = g_law_pull args μ := by
  intro args μ hl h
  unfold g_law_pull at h ⊢
  split
  · rename_i n
    cases q : bagAt μ with
    | none => simp [q] at h
    | some b =>
      simp only [q] at h ⊢
      split
      · rename_i hc
        obtain ⟨⟨r, rfl⟩, hi0⟩ := bagAt_eq q
        obtain ⟨cells, i, sd, kn⟩ := b
        simp only at hi0
        have hw : ∀ z : Int, CDivW z n := fun z => cdw hc.1 hc.2
        have h7 : ∀ z : Int, CDivW z 7 := fun z => cdw (by omega) (by omega)
        have hn : 0 < n := hc.1
        have a1 : ∀ z : Int, CMul z 7919 := fun z => .inr ⟨by decide, by decide⟩
        have a2 : ∀ z : Int, CMul z 48271 := fun z => .inr ⟨by decide, by decide⟩
        have a3 : ∀ z : Int, CMul z 40692 := fun z => .inr ⟨by decide, by decide⟩
        have a4 : ∀ z : Int, CMul z 69621 := fun z => .inr ⟨by decide, by decide⟩
        have a5 : ∀ z : Int, CMul (z % 2147483647) (z % 2147483647) := fun z => .inl ⟨by omega, by omega⟩
        by_cases c1 : sd < 2
        · by_cases c2 : i + 1 ≤ (cells.length : Int)
          · have c3 : ¬ (cells.length : Int) < i + 1 := by omega
            have hat : L2.atI (cells.map D.int) i = some (.int (cells.getD i.toNat 0)) := by
              have e : i = ((i.toNat : Nat) : Int) := (Int.toNat_of_nonneg hi0).symm
              rw [show L2.atI (cells.map D.int) i = L2.atI (cells.map D.int) ((i.toNat : Nat) : Int) by rw [← e]]
              refine atI_nat ?_
              rw [List.getElem?_map, List.getElem?_eq_getElem (by omega)]
              simp [List.getD, List.getElem?_eq_getElem (show i.toNat < cells.length by omega)]
            have hgd : cells[i.toNat]?.getD 0 = cells.getD i.toNat 0 := by simp
            generalize hg : cells.getD i.toNat 0 = z at hat hgd
            by_cases c4 : z < 1000000000000000000
            · simp -dsimp -implicitDefEqProofs [pureF, runF, fVar, fC, fBin, gI, gI0, gAdd, gSub, gMul, gDiv, gMod, gPow, gAnd, gOr, gXor, gShl, gShr, gLt, gLe, gGt, gGe, fTst, asB, fChain, fNotT, fAndT, fOrT, fNotV, fAndV, fOrV, fIf, fIsN, isNon, fIfS, fSeq, fNx, fCt, fRet, fRetN, fDrop, fAsg, Tg.run, setAll, fCall, fCons, fNil, fTup, fLst, fNew, fMt, isLst, lstV, seqV, objL, gAppend, gExtend, gIx, fSl, gSl, fO, fNoO, fRev, fWR1, fWR2, fWL, wkSeq, fWT, wkTup, allw, fFor, fCallP, fCallS, clL, clD, clK, fVarZ, frzG, fRaise, fSetIx, fPar, gSetL, fAug, gLen, gList, gListN, gTuple, gInt, gIsi, tyOf, isTy, sizeLine, CPow, gIAdd, gAddN, wkEnumL, wkEnumT, fWEL, fWET, fNeg, fCallK, gSumT, gSumL, lsV, fWR3, fCallNP, b_law_pull, Bag.mo, atP, ixN, c1, c2, c3, hat, c4, a1, a2, a3, a4, a5, h7, hw, Bag.pull, Bag.mixed, hn, hgd]
            · simp -dsimp -implicitDefEqProofs [pureF, runF, fVar, fC, fBin, gI, gI0, gAdd, gSub, gMul, gDiv, gMod, gPow, gAnd, gOr, gXor, gShl, gShr, gLt, gLe, gGt, gGe, fTst, asB, fChain, fNotT, fAndT, fOrT, fNotV, fAndV, fOrV, fIf, fIsN, isNon, fIfS, fSeq, fNx, fCt, fRet, fRetN, fDrop, fAsg, Tg.run, setAll, fCall, fCons, fNil, fTup, fLst, fNew, fMt, isLst, lstV, seqV, objL, gAppend, gExtend, gIx, fSl, gSl, fO, fNoO, fRev, fWR1, fWR2, fWL, wkSeq, fWT, wkTup, allw, fFor, fCallP, fCallS, clL, clD, clK, fVarZ, frzG, fRaise, fSetIx, fPar, gSetL, fAug, gLen, gList, gListN, gTuple, gInt, gIsi, tyOf, isTy, sizeLine, CPow, gIAdd, gAddN, wkEnumL, wkEnumT, fWEL, fWET, fNeg, fCallK, gSumT, gSumL, lsV, fWR3, fCallNP, b_law_pull, Bag.mo, atP, ixN, c1, c2, c3, hat, c4, a1, a2, a3, a4, a5, h7, hw, Bag.pull, Bag.mixed, hn, hgd]
          · have c3 : (cells.length : Int) < i + 1 := by omega
            simp -dsimp -implicitDefEqProofs [pureF, runF, fVar, fC, fBin, gI, gI0, gAdd, gSub, gMul, gDiv, gMod, gPow, gAnd, gOr, gXor, gShl, gShr, gLt, gLe, gGt, gGe, fTst, asB, fChain, fNotT, fAndT, fOrT, fNotV, fAndV, fOrV, fIf, fIsN, isNon, fIfS, fSeq, fNx, fCt, fRet, fRetN, fDrop, fAsg, Tg.run, setAll, fCall, fCons, fNil, fTup, fLst, fNew, fMt, isLst, lstV, seqV, objL, gAppend, gExtend, gIx, fSl, gSl, fO, fNoO, fRev, fWR1, fWR2, fWL, wkSeq, fWT, wkTup, allw, fFor, fCallP, fCallS, clL, clD, clK, fVarZ, frzG, fRaise, fSetIx, fPar, gSetL, fAug, gLen, gList, gListN, gTuple, gInt, gIsi, tyOf, isTy, sizeLine, CPow, gIAdd, gAddN, wkEnumL, wkEnumT, fWEL, fWET, fNeg, fCallK, gSumT, gSumL, lsV, fWR3, fCallNP, b_law_pull, Bag.mo, atP, ixN, c1, c2, c3, a1, a2, a3, a4, a5, h7, hw, Bag.pull, Bag.mixed, hn]
        · simp -dsimp -implicitDefEqProofs [pureF, runF, fVar, fC, fBin, gI, gI0, gAdd, gSub, gMul, gDiv, gMod, gPow, gAnd, gOr, gXor, gShl, gShr, gLt, gLe, gGt, gGe, fTst, asB, fChain, fNotT, fAndT, fOrT, fNotV, fAndV, fOrV, fIf, fIsN, isNon, fIfS, fSeq, fNx, fCt, fRet, fRetN, fDrop, fAsg, Tg.run, setAll, fCall, fCons, fNil, fTup, fLst, fNew, fMt, isLst, lstV, seqV, objL, gAppend, gExtend, gIx, fSl, gSl, fO, fNoO, fRev, fWR1, fWR2, fWL, wkSeq, fWT, wkTup, allw, fFor, fCallP, fCallS, clL, clD, clK, fVarZ, frzG, fRaise, fSetIx, fPar, gSetL, fAug, gLen, gList, gListN, gTuple, gInt, gIsi, tyOf, isTy, sizeLine, CPow, gIAdd, gAddN, wkEnumL, wkEnumT, fWEL, fWET, fNeg, fCallK, gSumT, gSumL, lsV, fWR3, fCallNP, b_law_pull, Bag.mo, atP, ixN, c1, a1, a2, a3, a4, a5, h7, hw, Bag.pull, Bag.mixed, hn]
      · rename_i hc
        exact (h (if_neg hc)).elim
  · simp at h

def b_law_whole : DS → R Fl :=
  (fRet (fAndV (fCall (fCons (fVar 0) (fCons (fC (.ty "int")) fNil)) gIsi) (fNotV (fCall (fCons (fVar 0) (fCons (fC (.ty "bool")) fNil)) gIsi))))
def g_law_whole : GP := fun args => match args with
  | [.int _] => .ok (.bl true) ⟨[], []⟩
  | _ => .bad
theorem eq_law_whole : ∀ args, args.length = 1 → g_law_whole args ≠ .bad → pureF (runF 1 b_law_whole) args = g_law_whole args := by
  intro args hl h
  unfold g_law_whole at h ⊢
  split
  · simp -dsimp -implicitDefEqProofs [pureF, runF, fVar, fC, fBin, gI, gI0, gAdd, gSub, gMul, gDiv, gMod, gPow, gAnd, gOr, gXor, gShl, gShr, gLt, gLe, gGt, gGe, fTst, asB, fChain, fNotT, fAndT, fOrT, fNotV, fAndV, fOrV, fIf, fIsN, isNon, fIfS, fSeq, fNx, fCt, fRet, fRetN, fDrop, fAsg, Tg.run, setAll, fCall, fCons, fNil, fTup, fLst, fNew, fMt, isLst, lstV, seqV, objL, gAppend, gExtend, gIx, fSl, gSl, fO, fNoO, fRev, fWR1, fWR2, fWL, wkSeq, fWT, wkTup, allw, fFor, fCallP, fCallS, clL, clD, clK, fVarZ, frzG, fRaise, fSetIx, fPar, gSetL, fAug, gLen, gList, gListN, gTuple, gInt, gIsi, tyOf, isTy, sizeLine, CPow, gIAdd, gAddN, wkEnumL, wkEnumT, fWEL, fWET, fNeg, fCallK, gSumT, gSumL, lsV, fWR3, fCallNP, b_law_whole]
  · simp at h

def ce_law_same_0 (n : Nat) : DS → R D := (fCallP 2 (fCons (fBin (fVar 0) (fVar 2) gIx) (fCons (fBin (fVar 1) (fVar 2) gIx) fNil)) [] (g_sameN n))
def b_law_same (n : Nat) : DS → R Fl :=
  (fSeq (fIfS (fTst (fIsN false (fVar 1))) (fRet (fIsN false (fVar 0))) fNx)
    (fSeq (fIfS (fTst (fCall (fCons (fVar 1) (fCons (fC (.ty "bool")) fNil)) gIsi)) (fRet (fAndV (fCall (fCons (fVar 0) (fCons (fC (.ty "bool")) fNil)) gIsi) (fBin (fVar 0) (fVar 1) gEq))) fNx)
    (fSeq (fIfS (fTst (fCall (fCons (fVar 1) (fCons (fC (.ty "int")) fNil)) gIsi)) (fRet (fAndV (fCallP 1 (fCons (fVar 0) fNil) [] g_law_whole) (fBin (fVar 0) (fVar 1) gEq))) fNx)
    (fSeq (fIfS (fTst (fCall (fCons (fVar 1) (fCons (fC (.ty "str")) fNil)) gIsi)) (fRet (fAndV (fCall (fCons (fVar 0) (fCons (fC (.ty "str")) fNil)) gIsi) (fBin (fVar 0) (fVar 1) gEq))) fNx)
    (fSeq (fIfS (fOrT (fTst (fBin (fCall (fCons (fVar 1) (fCons (fC (.ty "list")) fNil)) gIsi) (fCall (fCons (fVar 0) (fCons (fC (.ty "list")) fNil)) gIsi) gNe)) (fTst (fBin (fCall (fCons (fVar 1) (fCons (fC (.ty "tuple")) fNil)) gIsi) (fCall (fCons (fVar 0) (fCons (fC (.ty "tuple")) fNil)) gIsi) gNe))) (fRet (fC (.bl false))) fNx)
    (fSeq (fIfS (fTst (fBin (fCall (fCons (fVar 0) fNil) gLen) (fCall (fCons (fVar 1) fNil) gLen) gNe)) (fRet (fC (.bl false))) fNx)
    (fRet (fCall (fCons (fLc (fComp (fWR1 (fCons (fCall (fCons (fVar 1) fNil) gLen) fNil)) (.one 2) [2] fYes (ce_law_same_0 n))) fNil) (gAllAny false)))))))))
theorem same_items (n : Nat) (ds : List D) (v : D) (x : Option D) (hv : v = .tup ds ∨ v = .lst ds) (h1 : ∀ d ∈ ds, g_sameN n [d, d] = .ok (.bl true) ⟨[], []⟩ ∧ clD 0 d = true) (h3 : ds.length ≤ 16777216) :
    fComp (fWR1 (fCons (fCall (fCons (fVar 1) fNil) gLen) fNil)) (.one 2) [2] fYes (ce_law_same_0 n) ⟨[some v, some v, x], []⟩ = .ok (List.replicate ds.length (.bl true)) ⟨[some v, some v, x], []⟩ := by
  have hw : fWR1 (fCons (fCall (fCons (fVar 1) fNil) gLen) fNil) ⟨[some v, some v, x], []⟩ = .ok (rngD 0 ds.length, allw) ⟨[some v, some v, x], []⟩ := by
    have a1 : ds.length < 2 ^ 40 := by omega
    rcases hv with rfl | rfl <;> simp -dsimp -implicitDefEqProofs [pureF, runF, fVar, fC, fBin, gI, gI0, gAdd, gSub, gMul, gDiv, gMod, gPow, gAnd, gOr, gXor, gShl, gShr, gLt, gLe, gGt, gGe, fTst, asB, fChain, fNotT, fAndT, fOrT, fNotV, fAndV, fOrV, fIf, fIsN, isNon, fIfS, fSeq, fNx, fCt, fRet, fRetN, fDrop, fAsg, Tg.run, setAll, fCall, fCons, fNil, fTup, fLst, fNew, fMt, isLst, lstV, seqV, objL, gAppend, gExtend, gIx, fSl, gSl, fO, fNoO, fRev, fWR1, fWR2, fWL, wkSeq, fWT, wkTup, allw, fFor, fCallP, fCallS, clL, clD, clK, fVarZ, frzG, fRaise, fSetIx, fPar, gSetL, fAug, gLen, gList, gListN, gTuple, gInt, gIsi, tyOf, isTy, sizeLine, CPow, gIAdd, gAddN, wkEnumL, wkEnumT, fWEL, fWET, fNeg, fCallK, gSumT, gSumL, lsV, fWR3, fCallNP, wkR1_nat _ _ a1]
  unfold fComp
  rw [hw]
  show compL allw _ (rngD 0 ds.length) [] _ = _
  refine (comp_go (P := allw) rfl (rngD 0 ds.length) (List.replicate ds.length (.bl true)) [] (by simp) (fun i a b e1 e2 => ?_) (by simp [sizeLine_eq]; omega)).trans (by simp)
  obtain ⟨hi, rfl⟩ := rng0_get e1
  rw [List.getElem?_replicate, if_pos hi] at e2
  cases e2
  have hat : L2.atI ds ((i : Nat) : Int) = some ds[i] := atI_nat (List.getElem?_eq_getElem hi)
  obtain ⟨q1, q2⟩ := h1 ds[i] (List.getElem_mem hi)
  rcases hv with rfl | rfl <;> simp -dsimp -implicitDefEqProofs [pureF, runF, fVar, fC, fBin, gI, gI0, gAdd, gSub, gMul, gDiv, gMod, gPow, gAnd, gOr, gXor, gShl, gShr, gLt, gLe, gGt, gGe, fTst, asB, fChain, fNotT, fAndT, fOrT, fNotV, fAndV, fOrV, fIf, fIsN, isNon, fIfS, fSeq, fNx, fCt, fRet, fRetN, fDrop, fAsg, Tg.run, setAll, fCall, fCons, fNil, fTup, fLst, fNew, fMt, isLst, lstV, seqV, objL, gAppend, gExtend, gIx, fSl, gSl, fO, fNoO, fRev, fWR1, fWR2, fWL, wkSeq, fWT, wkTup, allw, fFor, fCallP, fCallS, clL, clD, clK, fVarZ, frzG, fRaise, fSetIx, fPar, gSetL, fAug, gLen, gList, gListN, gTuple, gInt, gIsi, tyOf, isTy, sizeLine, CPow, gIAdd, gAddN, wkEnumL, wkEnumT, fWEL, fWET, fNeg, fCallK, gSumT, gSumL, lsV, fWR3, fCallNP, cStep, wipeG, fYes, ce_law_same_0, hat, q1, q2]
theorem bls_rep : ∀ n : Nat, bls (List.replicate n (.bl true)) = some (List.replicate n true)
  | 0 => rfl
  | n + 1 => by simp only [List.replicate_succ, bls, bls_rep n, Option.map_some]
theorem eq_law_same (n : Nat) : ∀ args, args.length = 2 → g_sameN (n + 1) args ≠ .bad → pureF (runF 3 (b_law_same n)) args = g_sameN (n + 1) args := by
  intro args hl h
  simp only [g_sameN] at h ⊢
  split
  · rename_i f d
    split
    · rename_i hc
      obtain ⟨h1, h2, h3⟩ := hc
      have e := sm_eq f d h2
      subst e
      have items : ∀ ds, okL (n - 1) ds = true → 1 ≤ n → sizeOkL ds = true → ∀ d ∈ ds, g_sameN n [d, d] = .ok (.bl true) ⟨[], []⟩ ∧ clD 0 d = true := by
        intro ds q1 q2 q3 d hd
        obtain ⟨m, rfl⟩ : ∃ m, n = m + 1 := ⟨n - 1, by omega⟩
        obtain ⟨i, hi⟩ := List.getElem?_of_mem hd
        have k1 : okD m d = true := okL_get q1 hi
        have k2 : sizeOkD d = true := by
          clear hi q1 h h1 h2 h3 hl k1
          revert q3 hd
          induction ds with
          | nil => intro _ hd; cases hd
          | cons a r ih =>
            intro q3 hd
            simp only [sizeOkL, Bool.and_eq_true] at q3
            rcases List.mem_cons.mp hd with z | z
            · rw [z]; exact q3.1
            · exact ih q3.2 z
        simp only [g_sameN]
        rw [if_Pr ⟨k1, sm_refl m d k1, k2⟩]
        exact ⟨rfl, okD_cl m d k1 0⟩
      cases f with
      | non => simp -dsimp -implicitDefEqProofs [pureF, runF, fVar, fC, fBin, gI, gI0, gAdd, gSub, gMul, gDiv, gMod, gPow, gAnd, gOr, gXor, gShl, gShr, gLt, gLe, gGt, gGe, fTst, asB, fChain, fNotT, fAndT, fOrT, fNotV, fAndV, fOrV, fIf, fIsN, isNon, fIfS, fSeq, fNx, fCt, fRet, fRetN, fDrop, fAsg, Tg.run, setAll, fCall, fCons, fNil, fTup, fLst, fNew, fMt, isLst, lstV, seqV, objL, gAppend, gExtend, gIx, fSl, gSl, fO, fNoO, fRev, fWR1, fWR2, fWL, wkSeq, fWT, wkTup, allw, fFor, fCallP, fCallS, clL, clD, clK, fVarZ, frzG, fRaise, fSetIx, fPar, gSetL, fAug, gLen, gList, gListN, gTuple, gInt, gIsi, tyOf, isTy, sizeLine, CPow, gIAdd, gAddN, wkEnumL, wkEnumT, fWEL, fWET, fNeg, fCallK, gSumT, gSumL, lsV, fWR3, fCallNP, b_law_same]
      | bl b => simp -dsimp -implicitDefEqProofs [pureF, runF, fVar, fC, fBin, gI, gI0, gAdd, gSub, gMul, gDiv, gMod, gPow, gAnd, gOr, gXor, gShl, gShr, gLt, gLe, gGt, gGe, fTst, asB, fChain, fNotT, fAndT, fOrT, fNotV, fAndV, fOrV, fIf, fIsN, isNon, fIfS, fSeq, fNx, fCt, fRet, fRetN, fDrop, fAsg, Tg.run, setAll, fCall, fCons, fNil, fTup, fLst, fNew, fMt, isLst, lstV, seqV, objL, gAppend, gExtend, gIx, fSl, gSl, fO, fNoO, fRev, fWR1, fWR2, fWL, wkSeq, fWT, wkTup, allw, fFor, fCallP, fCallS, clL, clD, clK, fVarZ, frzG, fRaise, fSetIx, fPar, gSetL, fAug, gLen, gList, gListN, gTuple, gInt, gIsi, tyOf, isTy, sizeLine, CPow, gIAdd, gAddN, wkEnumL, wkEnumT, fWEL, fWET, fNeg, fCallK, gSumT, gSumL, lsV, fWR3, fCallNP, b_law_same]
      | int b => simp -dsimp -implicitDefEqProofs [pureF, runF, fVar, fC, fBin, gI, gI0, gAdd, gSub, gMul, gDiv, gMod, gPow, gAnd, gOr, gXor, gShl, gShr, gLt, gLe, gGt, gGe, fTst, asB, fChain, fNotT, fAndT, fOrT, fNotV, fAndV, fOrV, fIf, fIsN, isNon, fIfS, fSeq, fNx, fCt, fRet, fRetN, fDrop, fAsg, Tg.run, setAll, fCall, fCons, fNil, fTup, fLst, fNew, fMt, isLst, lstV, seqV, objL, gAppend, gExtend, gIx, fSl, gSl, fO, fNoO, fRev, fWR1, fWR2, fWL, wkSeq, fWT, wkTup, allw, fFor, fCallP, fCallS, clL, clD, clK, fVarZ, frzG, fRaise, fSetIx, fPar, gSetL, fAug, gLen, gList, gListN, gTuple, gInt, gIsi, tyOf, isTy, sizeLine, CPow, gIAdd, gAddN, wkEnumL, wkEnumT, fWEL, fWET, fNeg, fCallK, gSumT, gSumL, lsV, fWR3, fCallNP, b_law_same, g_law_whole]
      | str b =>
        simp only [okD] at h1
        simp -dsimp -implicitDefEqProofs [pureF, runF, fVar, fC, fBin, gI, gI0, gAdd, gSub, gMul, gDiv, gMod, gPow, gAnd, gOr, gXor, gShl, gShr, gLt, gLe, gGt, gGe, fTst, asB, fChain, fNotT, fAndT, fOrT, fNotV, fAndV, fOrV, fIf, fIsN, isNon, fIfS, fSeq, fNx, fCt, fRet, fRetN, fDrop, fAsg, Tg.run, setAll, fCall, fCons, fNil, fTup, fLst, fNew, fMt, isLst, lstV, seqV, objL, gAppend, gExtend, gIx, fSl, gSl, fO, fNoO, fRev, fWR1, fWR2, fWL, wkSeq, fWT, wkTup, allw, fFor, fCallP, fCallS, clL, clD, clK, fVarZ, frzG, fRaise, fSetIx, fPar, gSetL, fAug, gLen, gList, gListN, gTuple, gInt, gIsi, tyOf, isTy, sizeLine, CPow, gIAdd, gAddN, wkEnumL, wkEnumT, fWEL, fWET, fNeg, fCallK, gSumT, gSumL, lsV, fWR3, fCallNP, b_law_same, gEq_str _ _ _ h1 h1]
      | tup ds =>
        obtain ⟨m, rfl⟩ : ∃ m, n = m + 1 := by
          cases n with
          | zero => simp [okD] at h1
          | succ m => exact ⟨m, rfl⟩
        simp only [okD] at h1
        simp only [sizeOkD, Bool.and_eq_true, dcd_iff, sizeLine_eq] at h3
        have hi := same_items (m + 1) ds (.tup ds) none (.inl rfl) (items ds h1 (by omega) h3.2) h3.1
        simp -dsimp -implicitDefEqProofs [pureF, runF, fVar, fC, fBin, gI, gI0, gAdd, gSub, gMul, gDiv, gMod, gPow, gAnd, gOr, gXor, gShl, gShr, gLt, gLe, gGt, gGe, fTst, asB, fChain, fNotT, fAndT, fOrT, fNotV, fAndV, fOrV, fIf, fIsN, isNon, fIfS, fSeq, fNx, fCt, fRet, fRetN, fDrop, fAsg, Tg.run, setAll, fCall, fCons, fNil, fTup, fLst, fNew, fMt, isLst, lstV, seqV, objL, gAppend, gExtend, gIx, fSl, gSl, fO, fNoO, fRev, fWR1, fWR2, fWL, wkSeq, fWT, wkTup, allw, fFor, fCallP, fCallS, clL, clD, clK, fVarZ, frzG, fRaise, fSetIx, fPar, gSetL, fAug, gLen, gList, gListN, gTuple, gInt, gIsi, tyOf, isTy, sizeLine, CPow, gIAdd, gAddN, wkEnumL, wkEnumT, fWEL, fWET, fNeg, fCallK, gSumT, gSumL, lsV, fWR3, fCallNP, b_law_same, fLc, hi, gAllAny, bls_rep]
      | lst ds =>
        obtain ⟨m, rfl⟩ : ∃ m, n = m + 1 := by
          cases n with
          | zero => simp [okD] at h1
          | succ m => exact ⟨m, rfl⟩
        simp only [okD] at h1
        simp only [sizeOkD, Bool.and_eq_true, dcd_iff, sizeLine_eq] at h3
        have hi := same_items (m + 1) ds (.lst ds) none (.inr rfl) (items ds h1 (by omega) h3.2) h3.1
        simp -dsimp -implicitDefEqProofs [pureF, runF, fVar, fC, fBin, gI, gI0, gAdd, gSub, gMul, gDiv, gMod, gPow, gAnd, gOr, gXor, gShl, gShr, gLt, gLe, gGt, gGe, fTst, asB, fChain, fNotT, fAndT, fOrT, fNotV, fAndV, fOrV, fIf, fIsN, isNon, fIfS, fSeq, fNx, fCt, fRet, fRetN, fDrop, fAsg, Tg.run, setAll, fCall, fCons, fNil, fTup, fLst, fNew, fMt, isLst, lstV, seqV, objL, gAppend, gExtend, gIx, fSl, gSl, fO, fNoO, fRev, fWR1, fWR2, fWL, wkSeq, fWT, wkTup, allw, fFor, fCallP, fCallS, clL, clD, clK, fVarZ, frzG, fRaise, fSetIx, fPar, gSetL, fAug, gLen, gList, gListN, gTuple, gInt, gIsi, tyOf, isTy, sizeLine, CPow, gIAdd, gAddN, wkEnumL, wkEnumT, fWEL, fWET, fNeg, fCallK, gSumT, gSumL, lsV, fWR3, fCallNP, b_law_same, fLc, hi, gAllAny, bls_rep]
      | _ => simp [okD] at h1
    · rename_i hc
      exact (h (if_neg hc)).elim
  · simp at h
def g_law_same : GP := g_sameN 5

def b_law_one : DS → R Fl :=
  (fRet (fBin (fVar 1) (fCallS 2 (fCons (fVar 0) (fCons (fCall (fCons (fVar 1) fNil) gLen) fNil)) [] g_law_pull) gIx))
def g_law_one : GF := runF 2 b_law_one
theorem eq_law_one : ∀ args μ, args.length = 2 → g_law_one args μ ≠ .bad → runF 2 b_law_one args μ = g_law_one args μ := fun _ _ _ _ => rfl

def ce_law_bytes_0 : DS → R D := (fCallS 2 (fCons (fVar 0) (fCons (fC (.int 256)) fNil)) [] g_law_pull)
def b_law_bytes : DS → R Fl :=
  (fSeq (fAsg (fCallS 2 (fCons (fVar 0) (fCons (fBin (fVar 1) (fC (.int 1)) gAdd) fNil)) [] g_law_pull) (.one 2))
    (fSeq (fIfS (fTst (fBin (fCallS 2 (fCons (fVar 0) (fCons (fC (.int 4)) fNil)) [] g_law_pull) (fC (.int 0)) gEq)) (fRet (fBin (fTup (fCons (fCallS 2 (fCons (fVar 0) (fCons (fC (.int 256)) fNil)) [] g_law_pull) fNil)) (fVar 2) gMul)) fNx)
    (fRet (fCall (fCons (fLc (fComp (fWR1 (fCons (fVar 2) fNil)) (.one 3) [3] fYes ce_law_bytes_0)) fNil) gTuple))))
def g_law_bytes : GF := runF 4 b_law_bytes
theorem eq_law_bytes : ∀ args μ, args.length = 2 → g_law_bytes args μ ≠ .bad → runF 4 b_law_bytes args μ = g_law_bytes args μ := fun _ _ _ _ => rfl

theorem law_bytes_eq (most : Int) (h0 : 0 ≤ most) (h1 : most ≤ 999) (b : Bag) (hb : 0 ≤ b.i) (μ : List MO) : g_law_bytes [.obj 0, .int most] (b.mo :: μ) = .ok (.tup ((bytesF most b).1.map .int)) ⟨[], (bytesF most b).2.mo :: μ⟩ := by
  have i1 := b.pull_i (most + 1) hb
  have i2 := Bag.pull_i _ 4 i1
  have p1 := pull_ok (μ := μ) hb (show 0 < most + 1 by omega) (by omega)
  have p2 := pull_ok (μ := μ) (n := 4) i1 (by omega) (by omega)
  have p3 : ∀ b : Bag, 0 ≤ b.i → g_law_pull [.obj 0, .int 256] (b.mo :: μ) = .ok (.int (b.pull 256).1) ⟨[], (b.pull 256).2.mo :: μ⟩ := fun b hb => pull_ok hb (by omega) (by omega)
  obtain ⟨l1, u1⟩ := b.pull_lt (n := most + 1) (by omega)
  have hn : ((b.pull (most + 1)).1.toNat : Int) = (b.pull (most + 1)).1 := Int.toNat_of_nonneg l1
  unfold bytesF
  simp only
  generalize b.pull (most + 1) = q1 at *
  obtain ⟨n, b1⟩ := q1
  simp only at *
  generalize b1.pull 4 = q2 at *
  obtain ⟨z, b2⟩ := q2
  simp only at *
  have hb1 : -9223372036854775808 ≤ n := by omega
  have hb2 : n ≤ 1000 := by omega
  have hw := wkR1_int n ⟨[some (.obj 0), some (.int most), some (.int n), none], b2.mo :: μ⟩ l1 (by omega)
  by_cases hz : z = 0
  · simp -dsimp -implicitDefEqProofs [pureF, runF, fVar, fC, fBin, gI, gI0, gAdd, gSub, gMul, gDiv, gMod, gPow, gAnd, gOr, gXor, gShl, gShr, gLt, gLe, gGt, gGe, fTst, asB, fChain, fNotT, fAndT, fOrT, fNotV, fAndV, fOrV, fIf, fIsN, isNon, fIfS, fSeq, fNx, fCt, fRet, fRetN, fDrop, fAsg, Tg.run, setAll, fCall, fCons, fNil, fTup, fLst, fNew, fMt, isLst, lstV, seqV, objL, gAppend, gExtend, gIx, fSl, gSl, fO, fNoO, fRev, fWR1, fWR2, fWL, wkSeq, fWT, wkTup, allw, fFor, fCallP, fCallS, clL, clD, clK, fVarZ, frzG, fRaise, fSetIx, fPar, gSetL, fAug, gLen, gList, gListN, gTuple, gInt, gIsi, tyOf, isTy, sizeLine, CPow, gIAdd, gAddN, wkEnumL, wkEnumT, fWEL, fWET, fNeg, fCallK, gSumT, gSumL, lsV, fWR3, fCallNP, g_law_bytes, b_law_bytes, p1, p2, p3 b2 i2, hz, hb1, hb2, flat_rep]
  · have hc := comp_draw (f := (·.pull 256)) (em := .int) (step := cStep (.one 3) [3] fYes ce_law_bytes_0) (g := [some (.obj 0), some (.int most), some (.int n), none]) (μ := μ) (fun b hb => b.pull_i 256 hb) (fun b x hb => by simp -dsimp -implicitDefEqProofs [pureF, runF, fVar, fC, fBin, gI, gI0, gAdd, gSub, gMul, gDiv, gMod, gPow, gAnd, gOr, gXor, gShl, gShr, gLt, gLe, gGt, gGe, fTst, asB, fChain, fNotT, fAndT, fOrT, fNotV, fAndV, fOrV, fIf, fIsN, isNon, fIfS, fSeq, fNx, fCt, fRet, fRetN, fDrop, fAsg, Tg.run, setAll, fCall, fCons, fNil, fTup, fLst, fNew, fMt, isLst, lstV, seqV, objL, gAppend, gExtend, gIx, fSl, gSl, fO, fNoO, fRev, fWR1, fWR2, fWL, wkSeq, fWT, wkTup, allw, fFor, fCallP, fCallS, clL, clD, clK, fVarZ, frzG, fRaise, fSetIx, fPar, gSetL, fAug, gLen, gList, gListN, gTuple, gInt, gIsi, tyOf, isTy, sizeLine, CPow, gIAdd, gAddN, wkEnumL, wkEnumT, fWEL, fWET, fNeg, fCallK, gSumT, gSumL, lsV, fWR3, fCallNP, cStep, wipeG, fYes, ce_law_bytes_0, p3 b hb]) (rngD 0 n.toNat) [] b2 i2 (by simp [sizeLine]; omega)
    rw [rng_len, List.nil_append] at hc
    simp -dsimp -implicitDefEqProofs [pureF, runF, fVar, fC, fBin, gI, gI0, gAdd, gSub, gMul, gDiv, gMod, gPow, gAnd, gOr, gXor, gShl, gShr, gLt, gLe, gGt, gGe, fTst, asB, fChain, fNotT, fAndT, fOrT, fNotV, fAndV, fOrV, fIf, fIsN, isNon, fIfS, fSeq, fNx, fCt, fRet, fRetN, fDrop, fAsg, Tg.run, setAll, fCall, fCons, fNil, fTup, fLst, fNew, fMt, isLst, lstV, seqV, objL, gAppend, gExtend, gIx, fSl, gSl, fO, fNoO, fRev, fWR1, fWR2, fWL, wkSeq, fWT, wkTup, allw, fFor, fCallP, fCallS, clL, clD, clK, fVarZ, frzG, fRaise, fSetIx, fPar, gSetL, fAug, gLen, gList, gListN, gTuple, gInt, gIsi, tyOf, isTy, sizeLine, CPow, gIAdd, gAddN, wkEnumL, wkEnumT, fWEL, fWET, fNeg, fCallK, gSumT, gSumL, lsV, fWR3, fCallNP, g_law_bytes, b_law_bytes, p1, p2, hz, fLc, fComp, hw, hc]

def b_law_turn : DS → R Fl :=
  (fSeq (fPar 2 3 (fCons (fCallS 2 (fCons (fVar 0) (fCons (fC (.int 16)) fNil)) [] g_law_pull) (fCons (fCallS 2 (fCons (fVar 0) (fCons (fC (.int 8)) fNil)) [] g_law_pull) fNil)))
    (fSeq (fAsg (fBin (fCallS 2 (fCons (fVar 0) (fCons (fC (.int 3)) fNil)) [] g_law_pull) (fC (.int 0)) gGt) (.one 4))
    (fSeq (fIfS (fTst (fBin (fCallS 2 (fCons (fVar 0) (fCons (fC (.int 2)) fNil)) [] g_law_pull) (fC (.int 0)) gEq)) (fSeq (fAsg (fNew (fCons (fTup (fCons (fVar 1) (fCons (fC (.str "host")) (fCons (fTup (fCons (fC (.str "in")) (fCons (fVar 2) (fCons (fVar 3) fNil)))) (fCons (fVar 4) fNil))))) fNil)) (.one 5))
    (fSeq (fIfS (fAndT (fTst (fVar 4)) (fTst (fBin (fCallS 2 (fCons (fVar 0) (fCons (fC (.int 4)) fNil)) [] g_law_pull) (fC (.int 0)) gGt))) (fSeq (fAsg (fCallS 2 (fCons (fVar 0) (fCons (fLst (fCons (fTup (fCons (fC (.str "data")) (fCons (fCallS 2 (fCons (fVar 0) (fCons (fC (.int 2)) fNil)) [] g_law_pull) (fCons (fCallS 2 (fCons (fVar 0) (fCons (fC (.int 9)) fNil)) [] g_law_bytes) fNil)))) (fCons (fTup (fCons (fC (.str "nak")) fNil)) (fCons (fTup (fCons (fC (.str "stall")) fNil)) fNil)))) fNil)) [] g_law_one) (.one 6))
    (fSeq (fAsg (fBin (fCallS 2 (fCons (fVar 0) (fCons (fC (.int 3)) fNil)) [] g_law_pull) (fC (.int 0)) gGt) (.one 7))
    (fSeq (fDrop (fMt isLst (fVar 5) (fCons (fTup (fCons (fVar 1) (fCons (fC (.str "thing")) (fCons (fVar 6) (fCons (fVar 7) fNil))))) fNil) gAppend))
    (fIfS (fAndT (fTst (fBin (fBin (fVar 6) (fC (.int 0)) gIx) (fC (.str "data")) gEq)) (fTst (fVar 7))) (fDrop (fMt isLst (fVar 5) (fCons (fTup (fCons (fVar 1) (fCons (fC (.str "host")) (fCons (fTup (fCons (fC (.str "ack")) fNil)) (fCons (fBin (fCallS 2 (fCons (fVar 0) (fCons (fC (.int 2)) fNil)) [] g_law_pull) (fC (.int 0)) gEq) fNil))))) fNil) gAppend)) fNx)))) fNx)
    (fRet (fVarZ 5)))) fNx)
    (fSeq (fAsg (fNew (fCons (fTup (fCons (fVar 1) (fCons (fC (.str "host")) (fCons (fTup (fCons (fCallS 2 (fCons (fVar 0) (fCons (fLst (fCons (fC (.str "out")) (fCons (fC (.str "setup")) fNil))) fNil)) [] g_law_one) (fCons (fVar 2) (fCons (fVar 3) fNil)))) (fCons (fVar 4) fNil))))) fNil)) (.one 5))
    (fSeq (fAsg (fAndV (fVar 4) (fBin (fCallS 2 (fCons (fVar 0) (fCons (fC (.int 3)) fNil)) [] g_law_pull) (fC (.int 0)) gGt)) (.one 7))
    (fSeq (fDrop (fMt isLst (fVar 5) (fCons (fTup (fCons (fVar 1) (fCons (fC (.str "host")) (fCons (fTup (fCons (fC (.str "data")) (fCons (fCallS 2 (fCons (fVar 0) (fCons (fC (.int 2)) fNil)) [] g_law_pull) (fCons (fCallS 2 (fCons (fVar 0) (fCons (fC (.int 9)) fNil)) [] g_law_bytes) fNil)))) (fCons (fVar 7) fNil))))) fNil) gAppend))
    (fSeq (fIfS (fAndT (fTst (fVar 7)) (fTst (fBin (fCallS 2 (fCons (fVar 0) (fCons (fC (.int 4)) fNil)) [] g_law_pull) (fC (.int 0)) gGt))) (fDrop (fMt isLst (fVar 5) (fCons (fTup (fCons (fVar 1) (fCons (fC (.str "thing")) (fCons (fTup (fCons (fCallS 2 (fCons (fVar 0) (fCons (fLst (fCons (fC (.str "ack")) (fCons (fC (.str "nak")) (fCons (fC (.str "stall")) fNil)))) fNil)) [] g_law_one) fNil)) (fCons (fBin (fCallS 2 (fCons (fVar 0) (fCons (fC (.int 2)) fNil)) [] g_law_pull) (fC (.int 0)) gEq) fNil))))) fNil) gAppend)) fNx)
    (fRet (fVarZ 5)))))))))
def g_law_turn : GF := cutF (runF 8 b_law_turn)
theorem eq_law_turn : ∀ args μ, args.length = 2 → g_law_turn args μ ≠ .bad → cutF (runF 8 b_law_turn) args μ = g_law_turn args μ := fun _ _ _ _ => rfl

theorem bag_cl (n : Nat) (b : Bag) : clM n b.mo = true := by simp [Bag.mo, clM, clL, clD]
/-- what stands beside the bag: journals -/
def Jn (μ : List MO) : Prop := ∀ m ∈ μ, m = .gone ∨ ∃ xs : List Rw, m = .lst (xs.map encW)
theorem jn_cl {μ : List MO} (h : Jn μ) (n : Nat) : μ.all (clM n) = true := by
  rw [List.all_eq_true]
  intro m hm
  rcases h m hm with rfl | ⟨xs, rfl⟩
  · rfl
  · exact encL_clW n xs
theorem law_turn_ex (f : Int) (b : Bag) (hi : 0 ≤ b.i) : ∃ (xs : List Rw) (b' : Bag), (∀ x ∈ xs, Pk x) ∧ xs.length ≤ 3 ∧ 0 ≤ b'.i ∧ ∀ μ, Jn μ → g_law_turn [.obj 0, .int f] (b.mo :: μ) = .ok (.lst (xs.map encW)) ⟨[], b'.mo :: μ⟩ := by
  obtain ⟨v1, b1, i1, l1, u1, p1⟩ := pull_ex b 16 hi (by omega) (by omega)
  obtain ⟨v2, b2, i2, l2, u2, p2⟩ := pull_ex b1 8 i1 (by omega) (by omega)
  obtain ⟨v3, b3, i3, l3, u3, p3⟩ := pull_ex b2 3 i2 (by omega) (by omega)
  obtain ⟨v4, b4, i4, l4, u4, p4⟩ := pull_ex b3 2 i3 (by omega) (by omega)
  have pin : ∀ c, Pk ⟨f, "host", "in", .two v1 v2, c⟩ := fun c => .inl ⟨.inr (.inl rfl), v1, v2, rfl⟩
  have pans : ∀ who w c, (w = "ack" ∨ w = "nak" ∨ w = "stall") → Pk ⟨f, who, w, .z, c⟩ := fun who w c h => .inr (.inr (.inr ⟨by rcases h with h | h | h <;> simp [h], fun a ds z => by cases z⟩))
  have pdat : ∀ who c m (bb : Bag), 0 ≤ bb.i → Pk ⟨f, who, "data", .dat m (bytesF 9 bb).1, c⟩ := fun who c m bb hbb => by
    have h1 := bytesF_all 9 bb hbb
    have h2 := bytesF_len 9 bb (by omega)
    exact .inr (.inr (.inl ⟨rfl, m, _, rfl, fun d hd => (by have := h1 d hd; unfold isByte; omega), by omega⟩))
  by_cases h4 : v4 = 0
  · subst h4
    by_cases h3 : 0 < v3
    · obtain ⟨v5, b5, i5, l5, u5, p5⟩ := pull_ex b4 4 i4 (by omega) (by omega)
      by_cases h5 : 0 < v5
      · obtain ⟨v6, b6, i6, l6, u6, p6⟩ := pull_ex b5 2 i5 (by omega) (by omega)
        have e7 := fun μ => law_bytes_eq 9 (by omega) (by omega) b6 i6 μ
        have i7 := bytesF_i 9 b6 i6
        have pd := fun c => pdat "thing" c v6 b6 i6
        generalize bytesF 9 b6 = q at *
        obtain ⟨ds, b7⟩ := q
        simp only at e7 i7 pd
        obtain ⟨d, b8, hd, i8, e8⟩ := one_ex (g_law_one := g_law_one) (b_law_one := b_law_one) rfl rfl b7 i7 (.lst [.tup [.str ("data" : Str), .int v6, .tup (ds.map .int)], .tup [.str ("nak" : Str)], .tup [.str ("stall" : Str)]]) _ (.inl rfl) (by simp) (by simp)
        obtain ⟨v9, b9, i9, l9, u9, p9⟩ := pull_ex b8 3 i8 (by omega) (by omega)
        simp only [List.mem_cons, List.not_mem_nil, or_false] at hd
        rcases hd with rfl | hd
        · by_cases h9 : 0 < v9
          · obtain ⟨v10, b10, i10, l10, u10, p10⟩ := pull_ex b9 2 i9 (by omega) (by omega)
            refine ⟨[⟨f, "host", "in", .two v1 v2, true⟩, ⟨f, "thing", "data", .dat v6 ds, true⟩, ⟨f, "host", "ack", .z, dcd (v10 = 0)⟩], b10, fun x hx => ?_, by simp, i10, fun μ hμ => ?_⟩
            · simp only [List.mem_cons, List.not_mem_nil, or_false] at hx
              rcases hx with rfl | rfl | rfl
              · exact pin _
              · exact pd _
              · exact pans _ _ _ (.inl rfl)
            · clear pd pdat pans pin
              have hg : ∀ x : MO, (μ ++ [x])[μ.length]? = some x := fun x => by simp
              have hs : ∀ x y : MO, (μ ++ [x]).set μ.length y = μ ++ [y] := fun x y => by simp
              have ht : ∀ x : MO, (μ ++ [x]).take μ.length = μ := fun x => by simp
              have hc := jn_cl hμ
              have hb := bag_cl
              generalize hN : μ.length = N at *
              have hcd := fun n => clL_ints n ds
              simp -dsimp -implicitDefEqProofs [pureF, runF, fVar, fC, fBin, gI, gI0, gAdd, gSub, gMul, gDiv, gMod, gPow, gAnd, gOr, gXor, gShl, gShr, gLt, gLe, gGt, gGe, fTst, asB, fChain, fNotT, fAndT, fOrT, fNotV, fAndV, fOrV, fIf, fIsN, isNon, fIfS, fSeq, fNx, fCt, fRet, fRetN, fDrop, fAsg, Tg.run, setAll, fCall, fCons, fNil, fTup, fLst, fNew, fMt, isLst, lstV, seqV, objL, gAppend, gExtend, gIx, fSl, gSl, fO, fNoO, fRev, fWR1, fWR2, fWL, wkSeq, fWT, wkTup, allw, fFor, fCallP, fCallS, clL, clD, clK, fVarZ, frzG, fRaise, fSetIx, fPar, gSetL, fAug, gLen, gList, gListN, gTuple, gInt, gIsi, tyOf, isTy, sizeLine, CPow, gIAdd, gAddN, wkEnumL, wkEnumT, fWEL, fWET, fNeg, fCallK, gSumT, gSumL, lsV, fWR3, fCallNP, g_law_turn, cutF, b_law_turn, p1, p2, p3, p4, p5, p6, e7, e8, p9, p10, h3, h5, h9, hg, hs, ht, hc, hb, hN, encW, encR, hcd]
          · refine ⟨[⟨f, "host", "in", .two v1 v2, true⟩, ⟨f, "thing", "data", .dat v6 ds, false⟩], b9, fun x hx => ?_, by simp, i9, fun μ hμ => ?_⟩
            · simp only [List.mem_cons, List.not_mem_nil, or_false] at hx
              rcases hx with rfl | rfl
              · exact pin _
              · exact pd _
            · clear pd pdat pans pin
              have hg : ∀ x : MO, (μ ++ [x])[μ.length]? = some x := fun x => by simp
              have hs : ∀ x y : MO, (μ ++ [x]).set μ.length y = μ ++ [y] := fun x y => by simp
              have ht : ∀ x : MO, (μ ++ [x]).take μ.length = μ := fun x => by simp
              have hc := jn_cl hμ
              have hb := bag_cl
              generalize hN : μ.length = N at *
              have hcd := fun n => clL_ints n ds
              simp -dsimp -implicitDefEqProofs [pureF, runF, fVar, fC, fBin, gI, gI0, gAdd, gSub, gMul, gDiv, gMod, gPow, gAnd, gOr, gXor, gShl, gShr, gLt, gLe, gGt, gGe, fTst, asB, fChain, fNotT, fAndT, fOrT, fNotV, fAndV, fOrV, fIf, fIsN, isNon, fIfS, fSeq, fNx, fCt, fRet, fRetN, fDrop, fAsg, Tg.run, setAll, fCall, fCons, fNil, fTup, fLst, fNew, fMt, isLst, lstV, seqV, objL, gAppend, gExtend, gIx, fSl, gSl, fO, fNoO, fRev, fWR1, fWR2, fWL, wkSeq, fWT, wkTup, allw, fFor, fCallP, fCallS, clL, clD, clK, fVarZ, frzG, fRaise, fSetIx, fPar, gSetL, fAug, gLen, gList, gListN, gTuple, gInt, gIsi, tyOf, isTy, sizeLine, CPow, gIAdd, gAddN, wkEnumL, wkEnumT, fWEL, fWET, fNeg, fCallK, gSumT, gSumL, lsV, fWR3, fCallNP, g_law_turn, cutF, b_law_turn, p1, p2, p3, p4, p5, p6, e7, e8, p9, h3, h5, h9, hg, hs, ht, hc, hb, hN, encW, encR, hcd]
        · obtain ⟨w, rfl, hw⟩ : ∃ w : String, d = .tup [.str (w : Str)] ∧ (w = "nak" ∨ w = "stall") := by
            rcases hd with rfl | rfl
            · exact ⟨_, rfl, .inl rfl⟩
            · exact ⟨_, rfl, .inr rfl⟩
          have hwd : (w == "data") = false := by rcases hw with rfl | rfl <;> rfl
          refine ⟨[⟨f, "host", "in", .two v1 v2, true⟩, ⟨f, "thing", w, .z, dcd (0 < v9)⟩], b9, fun x hx => ?_, by simp, i9, fun μ hμ => ?_⟩
          · simp only [List.mem_cons, List.not_mem_nil, or_false] at hx
            rcases hx with rfl | rfl
            · exact pin _
            · exact pans _ _ _ (.inr hw)
          · clear pd pdat pans pin hd hw
            have hg : ∀ x : MO, (μ ++ [x])[μ.length]? = some x := fun x => by simp
            have hs : ∀ x y : MO, (μ ++ [x]).set μ.length y = μ ++ [y] := fun x y => by simp
            have ht : ∀ x : MO, (μ ++ [x]).take μ.length = μ := fun x => by simp
            have hc := jn_cl hμ
            have hb := bag_cl
            generalize hN : μ.length = N at *
            have hcd := fun n => clL_ints n ds
            have a1 : L2.atI [D.str (w : Str)] 0 = some (.str (w : Str)) := rfl
            simp -dsimp -implicitDefEqProofs [pureF, runF, fVar, fC, fBin, gI, gI0, gAdd, gSub, gMul, gDiv, gMod, gPow, gAnd, gOr, gXor, gShl, gShr, gLt, gLe, gGt, gGe, fTst, asB, fChain, fNotT, fAndT, fOrT, fNotV, fAndV, fOrV, fIf, fIsN, isNon, fIfS, fSeq, fNx, fCt, fRet, fRetN, fDrop, fAsg, Tg.run, setAll, fCall, fCons, fNil, fTup, fLst, fNew, fMt, isLst, lstV, seqV, objL, gAppend, gExtend, gIx, fSl, gSl, fO, fNoO, fRev, fWR1, fWR2, fWL, wkSeq, fWT, wkTup, allw, fFor, fCallP, fCallS, clL, clD, clK, fVarZ, frzG, fRaise, fSetIx, fPar, gSetL, fAug, gLen, gList, gListN, gTuple, gInt, gIsi, tyOf, isTy, sizeLine, CPow, gIAdd, gAddN, wkEnumL, wkEnumT, fWEL, fWET, fNeg, fCallK, gSumT, gSumL, lsV, fWR3, fCallNP, g_law_turn, cutF, b_law_turn, p1, p2, p3, p4, p5, p6, e7, e8, p9, h3, h5, hwd, a1, hg, hs, ht, hc, hb, hN, encW, encR, hcd]
      · refine ⟨[⟨f, "host", "in", .two v1 v2, true⟩], b5, fun x hx => ?_, by simp, i5, fun μ hμ => ?_⟩
        · simp only [List.mem_singleton] at hx
          subst hx
          exact pin _
        · clear pdat pans pin
          have hg : ∀ x : MO, (μ ++ [x])[μ.length]? = some x := fun x => by simp
          have hs : ∀ x y : MO, (μ ++ [x]).set μ.length y = μ ++ [y] := fun x y => by simp
          have ht : ∀ x : MO, (μ ++ [x]).take μ.length = μ := fun x => by simp
          have hc := jn_cl hμ
          have hb := bag_cl
          generalize hN : μ.length = N at *
          simp -dsimp -implicitDefEqProofs [pureF, runF, fVar, fC, fBin, gI, gI0, gAdd, gSub, gMul, gDiv, gMod, gPow, gAnd, gOr, gXor, gShl, gShr, gLt, gLe, gGt, gGe, fTst, asB, fChain, fNotT, fAndT, fOrT, fNotV, fAndV, fOrV, fIf, fIsN, isNon, fIfS, fSeq, fNx, fCt, fRet, fRetN, fDrop, fAsg, Tg.run, setAll, fCall, fCons, fNil, fTup, fLst, fNew, fMt, isLst, lstV, seqV, objL, gAppend, gExtend, gIx, fSl, gSl, fO, fNoO, fRev, fWR1, fWR2, fWL, wkSeq, fWT, wkTup, allw, fFor, fCallP, fCallS, clL, clD, clK, fVarZ, frzG, fRaise, fSetIx, fPar, gSetL, fAug, gLen, gList, gListN, gTuple, gInt, gIsi, tyOf, isTy, sizeLine, CPow, gIAdd, gAddN, wkEnumL, wkEnumT, fWEL, fWET, fNeg, fCallK, gSumT, gSumL, lsV, fWR3, fCallNP, g_law_turn, cutF, b_law_turn, p1, p2, p3, p4, p5, h3, h5, hg, hs, ht, hc, hb, hN, encW, encR]
    · refine ⟨[⟨f, "host", "in", .two v1 v2, false⟩], b4, fun x hx => ?_, by simp, i4, fun μ hμ => ?_⟩
      · simp only [List.mem_singleton] at hx
        subst hx
        exact pin _
      · clear pdat pans pin
        have hg : ∀ x : MO, (μ ++ [x])[μ.length]? = some x := fun x => by simp
        have hs : ∀ x y : MO, (μ ++ [x]).set μ.length y = μ ++ [y] := fun x y => by simp
        have ht : ∀ x : MO, (μ ++ [x]).take μ.length = μ := fun x => by simp
        have hc := jn_cl hμ
        have hb := bag_cl
        generalize hN : μ.length = N at *
        simp -dsimp -implicitDefEqProofs [pureF, runF, fVar, fC, fBin, gI, gI0, gAdd, gSub, gMul, gDiv, gMod, gPow, gAnd, gOr, gXor, gShl, gShr, gLt, gLe, gGt, gGe, fTst, asB, fChain, fNotT, fAndT, fOrT, fNotV, fAndV, fOrV, fIf, fIsN, isNon, fIfS, fSeq, fNx, fCt, fRet, fRetN, fDrop, fAsg, Tg.run, setAll, fCall, fCons, fNil, fTup, fLst, fNew, fMt, isLst, lstV, seqV, objL, gAppend, gExtend, gIx, fSl, gSl, fO, fNoO, fRev, fWR1, fWR2, fWL, wkSeq, fWT, wkTup, allw, fFor, fCallP, fCallS, clL, clD, clK, fVarZ, frzG, fRaise, fSetIx, fPar, gSetL, fAug, gLen, gList, gListN, gTuple, gInt, gIsi, tyOf, isTy, sizeLine, CPow, gIAdd, gAddN, wkEnumL, wkEnumT, fWEL, fWET, fNeg, fCallK, gSumT, gSumL, lsV, fWR3, fCallNP, g_law_turn, cutF, b_law_turn, p1, p2, p3, p4, h3, hg, hs, ht, hc, hb, hN, encW, encR]
  · have h4' : dcd (v4 = 0) = false := dcd_neg h4
    obtain ⟨d, b5, hd, i5, e5⟩ := one_ex (g_law_one := g_law_one) (b_law_one := b_law_one) rfl rfl b4 i4 (.lst [.str ("out" : Str), .str ("setup" : Str)]) _ (.inl rfl) (by decide) (by decide)
    obtain ⟨w, rfl, hw⟩ : ∃ w : String, d = .str (w : Str) ∧ (w = "out" ∨ w = "setup") := by
      simp only [List.mem_cons, List.not_mem_nil, or_false] at hd
      rcases hd with rfl | rfl
      · exact ⟨_, rfl, .inl rfl⟩
      · exact ⟨_, rfl, .inr rfl⟩
    have pout : ∀ c, Pk ⟨f, "host", w, .two v1 v2, c⟩ := fun c => .inl ⟨by rcases hw with h | h <;> simp [tokS, h], v1, v2, rfl⟩
    clear hd
    -- came to the thing or not
    have there : ∃ (c1 c2 : Bool) (b6 : Bag), 0 ≤ b6.i ∧ dcd (0 < v3) = c1 ∧ ((c1 = false ∧ c2 = false ∧ b6 = b5) ∨ (c1 = true ∧ ∃ v, dcd (0 < v) = c2 ∧ ∀ μ, g_law_pull [.obj 0, .int 3] (b5.mo :: μ) = .ok (.int v) ⟨[], b6.mo :: μ⟩)) := by
      by_cases h3 : 0 < v3
      · obtain ⟨v6, b6, i6, l6, u6, p6⟩ := pull_ex b5 3 i5 (by omega) (by omega)
        exact ⟨true, dcd (0 < v6), b6, i6, dcd_pos h3, .inr ⟨rfl, v6, rfl, p6⟩⟩
      · exact ⟨false, false, b5, i5, dcd_neg h3, .inl ⟨rfl, rfl, rfl⟩⟩
    obtain ⟨c1, c2, b6, i6, hc1, hc2⟩ := there
    obtain ⟨v7, b7, i7, l7, u7, p7⟩ := pull_ex b6 2 i6 (by omega) (by omega)
    have e8 := fun μ => law_bytes_eq 9 (by omega) (by omega) b7 i7 μ
    have i8 := bytesF_i 9 b7 i7
    have pd := fun c => pdat "host" c v7 b7 i7
    generalize bytesF 9 b7 = q at *
    obtain ⟨ds, b8⟩ := q
    simp only at e8 i8 pd
    -- the answer
    cases c2 with
    | false =>
      refine ⟨[⟨f, "host", w, .two v1 v2, c1⟩, ⟨f, "host", "data", .dat v7 ds, false⟩], b8, fun x hx => ?_, by simp, i8, fun μ hμ => ?_⟩
      · simp only [List.mem_cons, List.not_mem_nil, or_false] at hx
        rcases hx with rfl | rfl
        · exact pout _
        · exact pd _
      · clear pd pdat pans pin pout hw
        have hg : ∀ x : MO, (μ ++ [x])[μ.length]? = some x := fun x => by simp
        have hs : ∀ x y : MO, (μ ++ [x]).set μ.length y = μ ++ [y] := fun x y => by simp
        have ht : ∀ x : MO, (μ ++ [x]).take μ.length = μ := fun x => by simp
        have hc := jn_cl hμ
        have hb := bag_cl
        generalize hN : μ.length = N at *
        have hcd := fun n => clL_ints n ds
        rcases hc2 with ⟨rfl, _, rfl⟩ | ⟨rfl, v, hv, p6⟩
        · simp -dsimp -implicitDefEqProofs [pureF, runF, fVar, fC, fBin, gI, gI0, gAdd, gSub, gMul, gDiv, gMod, gPow, gAnd, gOr, gXor, gShl, gShr, gLt, gLe, gGt, gGe, fTst, asB, fChain, fNotT, fAndT, fOrT, fNotV, fAndV, fOrV, fIf, fIsN, isNon, fIfS, fSeq, fNx, fCt, fRet, fRetN, fDrop, fAsg, Tg.run, setAll, fCall, fCons, fNil, fTup, fLst, fNew, fMt, isLst, lstV, seqV, objL, gAppend, gExtend, gIx, fSl, gSl, fO, fNoO, fRev, fWR1, fWR2, fWL, wkSeq, fWT, wkTup, allw, fFor, fCallP, fCallS, clL, clD, clK, fVarZ, frzG, fRaise, fSetIx, fPar, gSetL, fAug, gLen, gList, gListN, gTuple, gInt, gIsi, tyOf, isTy, sizeLine, CPow, gIAdd, gAddN, wkEnumL, wkEnumT, fWEL, fWET, fNeg, fCallK, gSumT, gSumL, lsV, fWR3, fCallNP, g_law_turn, cutF, b_law_turn, p1, p2, p3, p4, h4', e5, hc1, p7, e8, hg, hs, ht, hc, hb, hN, encW, encR, hcd]
        · simp -dsimp -implicitDefEqProofs [pureF, runF, fVar, fC, fBin, gI, gI0, gAdd, gSub, gMul, gDiv, gMod, gPow, gAnd, gOr, gXor, gShl, gShr, gLt, gLe, gGt, gGe, fTst, asB, fChain, fNotT, fAndT, fOrT, fNotV, fAndV, fOrV, fIf, fIsN, isNon, fIfS, fSeq, fNx, fCt, fRet, fRetN, fDrop, fAsg, Tg.run, setAll, fCall, fCons, fNil, fTup, fLst, fNew, fMt, isLst, lstV, seqV, objL, gAppend, gExtend, gIx, fSl, gSl, fO, fNoO, fRev, fWR1, fWR2, fWL, wkSeq, fWT, wkTup, allw, fFor, fCallP, fCallS, clL, clD, clK, fVarZ, frzG, fRaise, fSetIx, fPar, gSetL, fAug, gLen, gList, gListN, gTuple, gInt, gIsi, tyOf, isTy, sizeLine, CPow, gIAdd, gAddN, wkEnumL, wkEnumT, fWEL, fWET, fNeg, fCallK, gSumT, gSumL, lsV, fWR3, fCallNP, g_law_turn, cutF, b_law_turn, p1, p2, p3, p4, h4', e5, hc1, p6, hv, p7, e8, hg, hs, ht, hc, hb, hN, encW, encR, hcd]
    | true =>
      rcases hc2 with ⟨_, z, _⟩ | ⟨rfl, v, hv, p6⟩
      · cases z
      · obtain ⟨v9, b9, i9, l9, u9, p9⟩ := pull_ex b8 4 i8 (by omega) (by omega)
        by_cases h9 : 0 < v9
        · obtain ⟨d2, b10, hd2, i10, e10⟩ := one_ex (g_law_one := g_law_one) (b_law_one := b_law_one) rfl rfl b9 i9 (.lst [.str ("ack" : Str), .str ("nak" : Str), .str ("stall" : Str)]) _ (.inl rfl) (by decide) (by decide)
          obtain ⟨w2, rfl, hw2⟩ : ∃ w : String, d2 = .str (w : Str) ∧ (w = "ack" ∨ w = "nak" ∨ w = "stall") := by
            simp only [List.mem_cons, List.not_mem_nil, or_false] at hd2
            rcases hd2 with rfl | rfl | rfl
            · exact ⟨_, rfl, .inl rfl⟩
            · exact ⟨_, rfl, .inr (.inl rfl)⟩
            · exact ⟨_, rfl, .inr (.inr rfl)⟩
          obtain ⟨v11, b11, i11, l11, u11, p11⟩ := pull_ex b10 2 i10 (by omega) (by omega)
          refine ⟨[⟨f, "host", w, .two v1 v2, true⟩, ⟨f, "host", "data", .dat v7 ds, true⟩, ⟨f, "thing", w2, .z, dcd (v11 = 0)⟩], b11, fun x hx => ?_, by simp, i11, fun μ hμ => ?_⟩
          · simp only [List.mem_cons, List.not_mem_nil, or_false] at hx
            rcases hx with rfl | rfl | rfl
            · exact pout _
            · exact pd _
            · exact pans _ _ _ hw2
          · clear pd pdat pans pin pout hw hw2 hd2
            have hg : ∀ x : MO, (μ ++ [x])[μ.length]? = some x := fun x => by simp
            have hs : ∀ x y : MO, (μ ++ [x]).set μ.length y = μ ++ [y] := fun x y => by simp
            have ht : ∀ x : MO, (μ ++ [x]).take μ.length = μ := fun x => by simp
            have hc := jn_cl hμ
            have hb := bag_cl
            generalize hN : μ.length = N at *
            have hcd := fun n => clL_ints n ds
            simp -dsimp -implicitDefEqProofs [pureF, runF, fVar, fC, fBin, gI, gI0, gAdd, gSub, gMul, gDiv, gMod, gPow, gAnd, gOr, gXor, gShl, gShr, gLt, gLe, gGt, gGe, fTst, asB, fChain, fNotT, fAndT, fOrT, fNotV, fAndV, fOrV, fIf, fIsN, isNon, fIfS, fSeq, fNx, fCt, fRet, fRetN, fDrop, fAsg, Tg.run, setAll, fCall, fCons, fNil, fTup, fLst, fNew, fMt, isLst, lstV, seqV, objL, gAppend, gExtend, gIx, fSl, gSl, fO, fNoO, fRev, fWR1, fWR2, fWL, wkSeq, fWT, wkTup, allw, fFor, fCallP, fCallS, clL, clD, clK, fVarZ, frzG, fRaise, fSetIx, fPar, gSetL, fAug, gLen, gList, gListN, gTuple, gInt, gIsi, tyOf, isTy, sizeLine, CPow, gIAdd, gAddN, wkEnumL, wkEnumT, fWEL, fWET, fNeg, fCallK, gSumT, gSumL, lsV, fWR3, fCallNP, g_law_turn, cutF, b_law_turn, p1, p2, p3, p4, h4', e5, hc1, p6, hv, p7, e8, p9, h9, e10, p11, hg, hs, ht, hc, hb, hN, encW, encR, hcd]
        · refine ⟨[⟨f, "host", w, .two v1 v2, true⟩, ⟨f, "host", "data", .dat v7 ds, true⟩], b9, fun x hx => ?_, by simp, i9, fun μ hμ => ?_⟩
          · simp only [List.mem_cons, List.not_mem_nil, or_false] at hx
            rcases hx with rfl | rfl
            · exact pout _
            · exact pd _
          · clear pd pdat pans pin pout hw
            have hg : ∀ x : MO, (μ ++ [x])[μ.length]? = some x := fun x => by simp
            have hs : ∀ x y : MO, (μ ++ [x]).set μ.length y = μ ++ [y] := fun x y => by simp
            have ht : ∀ x : MO, (μ ++ [x]).take μ.length = μ := fun x => by simp
            have hc := jn_cl hμ
            have hb := bag_cl
            generalize hN : μ.length = N at *
            have hcd := fun n => clL_ints n ds
            simp -dsimp -implicitDefEqProofs [pureF, runF, fVar, fC, fBin, gI, gI0, gAdd, gSub, gMul, gDiv, gMod, gPow, gAnd, gOr, gXor, gShl, gShr, gLt, gLe, gGt, gGe, fTst, asB, fChain, fNotT, fAndT, fOrT, fNotV, fAndV, fOrV, fIf, fIsN, isNon, fIfS, fSeq, fNx, fCt, fRet, fRetN, fDrop, fAsg, Tg.run, setAll, fCall, fCons, fNil, fTup, fLst, fNew, fMt, isLst, lstV, seqV, objL, gAppend, gExtend, gIx, fSl, gSl, fO, fNoO, fRev, fWR1, fWR2, fWL, wkSeq, fWT, wkTup, allw, fFor, fCallP, fCallS, clL, clD, clK, fVarZ, frzG, fRaise, fSetIx, fPar, gSetL, fAug, gLen, gList, gListN, gTuple, gInt, gIsi, tyOf, isTy, sizeLine, CPow, gIAdd, gAddN, wkEnumL, wkEnumT, fWEL, fWET, fNeg, fCallK, gSumT, gSumL, lsV, fWR3, fCallNP, g_law_turn, cutF, b_law_turn, p1, p2, p3, p4, h4', e5, hc1, p6, hv, p7, e8, p9, h9, hg, hs, ht, hc, hb, hN, encW, encR, hcd]

def lb_law_made_0 : DS → R Fl := (fAsg (fBin (fVar 2) (fCallS 2 (fCons (fVar 0) (fCons (fVar 1) fNil)) [] g_law_turn) gAddN) (.one 2))
def lb_law_made_1 : DS → R Fl := (fSeq (fDrop (fMt isLst (fVar 2) (fCons (fTup (fCons (fVar 1) (fCons (fC (.str "host")) (fCons (fTup (fCons (fC (.str "frame")) (fCons (fBin (fVar 1) (fC (.int 2048)) gMod) fNil))) (fCons (fBin (fCallS 2 (fCons (fVar 0) (fCons (fC (.int 4)) fNil)) [] g_law_pull) (fC (.int 0)) gGt) fNil))))) fNil) gAppend))
    (fSeq (fFor (fWR1 (fCons (fCallS 2 (fCons (fVar 0) (fCons (fBin (fLst (fCons (fC (.int 4)) (fCons (fC (.int 80)) fNil))) (fCall (fCons (fBin (fCallS 2 (fCons (fVar 0) (fCons (fC (.int 6)) fNil)) [] g_law_pull) (fC (.int 0)) gEq) fNil) gInt) gIx) fNil)) [] g_law_pull) fNil)) (.one 4) lb_law_made_0)
    (fAsg (fBin (fVar 1) (fC (.int 1)) gAdd) (.one 1))))
def b_law_made : DS → R Fl :=
  (fSeq (fAsg (fCallS 2 (fCons (fVar 0) (fCons (fLst (fCons (fC (.int 0)) (fCons (fC (.int 5)) (fCons (fC (.int 2046)) (fCons (fC (.int 2047)) (fCons (fC (.int 5000)) fNil)))))) fNil)) [] g_law_one) (.one 1))
    (fSeq (fAsg (fNew fNil) (.one 2))
    (fSeq (fFor (fWR1 (fCons (fCallS 2 (fCons (fVar 0) (fCons (fC (.int 5)) fNil)) [] g_law_pull) fNil)) (.one 3) lb_law_made_1)
    (fRet (fVarZ 2)))))
def g_law_made : GF := cutF (runF 5 b_law_made)
theorem eq_law_made : ∀ args μ, args.length = 1 → g_law_made args μ ≠ .bad → cutF (runF 5 b_law_made) args μ = g_law_made args μ := fun _ _ _ _ => rfl

theorem made_step (f : Int) (x3 x4 : Option D) (b : Bag) (hi : 0 ≤ b.i) (pre : List MO) (hj : Jn pre) (R : List Rw) (hR : ∀ x ∈ R, Pk x) (hl : R.length ≤ 2000) (i : Int) :
    ∃ (T : List Rw) (b' : Bag), (∀ x ∈ T, Pk x) ∧ T.length ≤ 3 ∧ 0 ≤ b'.i ∧ fStep (.one 4) lb_law_made_0 (.int i) ⟨[some (.obj 0), some (.int f), some (.obj (pre.length + 1)), x3, x4], b.mo :: (pre ++ [.lst (R.map encW)])⟩ =
      .ok .nx ⟨[some (.obj 0), some (.int f), some (.obj ((pre ++ [MO.lst (R.map encW)]).length + 1)), x3, some (.int i)], b'.mo :: ((pre ++ [.lst (R.map encW)]) ++ [.lst ((R ++ T).map encW)])⟩ := by
  obtain ⟨T, b', hT, lT, i', e⟩ := law_turn_ex f b hi
  refine ⟨T, b', hT, lT, i', ?_⟩
  have e' := e (pre ++ [.lst (R.map encW)]) (fun m hm => by
    rcases List.mem_append.mp hm with hm | hm
    · exact hj m hm
    · simp only [List.mem_singleton] at hm; exact .inr ⟨R, hm⟩)
  have hg : (pre ++ [MO.lst (R.map encW)])[pre.length]? = some (.lst (R.map encW)) := by simp
  have hl2 : (R.map encW).length + (T.map encW).length ≤ 16777216 := by simp; omega
  have hlen : (pre ++ [MO.lst (R.map encW)]).length = pre.length + 1 := by simp
  rw [List.map_append]
  generalize R.map encW = X at *
  generalize T.map encW = Y at *
  rw [hlen]
  generalize hN : pre.length = N at *
  simp -dsimp -implicitDefEqProofs [pureF, runF, fVar, fC, fBin, gI, gI0, gAdd, gSub, gMul, gDiv, gMod, gPow, gAnd, gOr, gXor, gShl, gShr, gLt, gLe, gGt, gGe, fTst, asB, fChain, fNotT, fAndT, fOrT, fNotV, fAndV, fOrV, fIf, fIsN, isNon, fIfS, fSeq, fNx, fCt, fRet, fRetN, fDrop, fAsg, Tg.run, setAll, fCall, fCons, fNil, fTup, fLst, fNew, fMt, isLst, lstV, seqV, objL, gAppend, gExtend, gIx, fSl, gSl, fO, fNoO, fRev, fWR1, fWR2, fWL, wkSeq, fWT, wkTup, allw, fFor, fCallP, fCallS, clL, clD, clK, fVarZ, frzG, fRaise, fSetIx, fPar, gSetL, fAug, gLen, gList, gListN, gTuple, gInt, gIsi, tyOf, isTy, sizeLine, CPow, gIAdd, gAddN, wkEnumL, wkEnumT, fWEL, fWET, fNeg, fCallK, gSumT, gSumL, lsV, fWR3, fCallNP, fStep, lb_law_made_0, e', hg, hl2, hN, List.append_assoc]
theorem made_loop (n : Nat) (hn : n ≤ 80) (f : Int) (x3 x4 : Option D) (b : Bag) (hi : 0 ≤ b.i) (pre : List MO) (hj : Jn pre) (R : List Rw) (hR : ∀ x ∈ R, Pk x) (hl : R.length ≤ 1500) :
    ∃ (T : List Rw) (b' : Bag) (pre' : List MO) (y4 : Option D), (∀ x ∈ T, Pk x) ∧ T.length ≤ R.length + 3 * n ∧ 0 ≤ b'.i ∧ Jn pre' ∧ loopL allw (fStep (.one 4) lb_law_made_0) (rngD 0 n) ⟨[some (.obj 0), some (.int f), some (.obj (pre.length + 1)), x3, x4], b.mo :: (pre ++ [.lst (R.map encW)])⟩ =
      .ok .nx ⟨[some (.obj 0), some (.int f), some (.obj (pre'.length + 1)), x3, y4], b'.mo :: (pre' ++ [.lst (T.map encW)])⟩ := by
  obtain ⟨s', l1, T, b', pre', y4, h1, h2, h3, h4, l2⟩ := loop_rng (step := fStep (.one 4) lb_law_made_0) (fun i s => ∃ (T : List Rw) (b' : Bag) (pre' : List MO) (y4 : Option D), (∀ x ∈ T, Pk x) ∧ T.length ≤ R.length + 3 * i ∧ 0 ≤ b'.i ∧ Jn pre' ∧ s = ⟨[some (.obj 0), some (.int f), some (.obj (pre'.length + 1)), x3, y4], b'.mo :: (pre' ++ [.lst (T.map encW)])⟩) n
    (fun i s hi2 ⟨T, b', pre', y4, h1, h2, h3, h4, hs⟩ => by
      subst hs
      obtain ⟨T2, b2, k1, k2, k3, e⟩ := made_step f x3 y4 b' h3 pre' h4 T h1 (by omega) i
      rw [e]
      refine ⟨.inl rfl, T ++ T2, b2, pre' ++ [.lst (T.map encW)], _, fun x hx => (List.mem_append.mp hx).elim (h1 x) (k1 x), by rw [List.length_append]; omega, k3, fun m hm => ?_, rfl⟩
      rcases List.mem_append.mp hm with hm | hm
      · exact h4 m hm
      · simp only [List.mem_singleton] at hm; exact .inr ⟨T, hm⟩)
    (s := ⟨[some (.obj 0), some (.int f), some (.obj (pre.length + 1)), x3, x4], b.mo :: (pre ++ [.lst (R.map encW)])⟩) ⟨R, b, pre, x4, hR, by omega, hi, hj, rfl⟩
  subst l2
  exact ⟨T, b', pre', y4, h1, h2, h3, h4, l1⟩
theorem made_turn (f : Int) (x3 x4 : Option D) (b : Bag) (hi : 0 ≤ b.i) (pre : List MO) (hj : Jn pre) (R : List Rw) (hR : ∀ x ∈ R, Pk x) (hl : R.length ≤ 1400) (i : Int) :
    ∃ (T : List Rw) (b' : Bag) (pre' : List MO) (y4 : Option D), (∀ x ∈ T, Pk x) ∧ T.length ≤ R.length + 250 ∧ 0 ≤ b'.i ∧ Jn pre' ∧ fStep (.one 3) lb_law_made_1 (.int i) ⟨[some (.obj 0), some (.int f), some (.obj (pre.length + 1)), x3, x4], b.mo :: (pre ++ [.lst (R.map encW)])⟩ =
      .ok .nx ⟨[some (.obj 0), some (.int (f + 1)), some (.obj (pre'.length + 1)), some (.int i), y4], b'.mo :: (pre' ++ [.lst (T.map encW)])⟩ := by
  obtain ⟨v1, b1, i1, l1, u1, p1⟩ := pull_ex b 4 hi (by omega) (by omega)
  obtain ⟨v2, b2, i2, l2, u2, p2⟩ := pull_ex b1 6 i1 (by omega) (by omega)
  obtain ⟨z, hz⟩ : ∃ z : Int, (v2 = 0 ∧ z = 80) ∨ (¬ v2 = 0 ∧ z = 4) := by
    by_cases h : v2 = 0
    · exact ⟨80, .inl ⟨h, rfl⟩⟩
    · exact ⟨4, .inr ⟨h, rfl⟩⟩
  obtain ⟨v3, b3, i3, l3, u3, p3⟩ := pull_ex b2 z i2 (by omega) (by omega)
  obtain ⟨T, b4, pre', y4, h1, h2, h3, h4, e4⟩ := made_loop v3.toNat (by omega) f (some (.int i)) x4 b3 i3 pre hj (R ++ [⟨f, "host", "frame", .one (f % 2048), dcd (0 < v1)⟩]) (fun x hx => by
    rcases List.mem_append.mp hx with hx | hx
    · exact hR x hx
    · simp only [List.mem_singleton] at hx
      subst hx
      exact .inr (.inl ⟨rfl, _, rfl⟩)) (by rw [List.length_append, List.length_singleton]; omega)
  refine ⟨T, b4, pre', y4, h1, by rw [List.length_append, List.length_singleton] at h2; omega, h3, h4, ?_⟩
  have hw := fun s => wkR1_int v3 s l3 (by omega)
  have hg : ∀ x : MO, (pre ++ [x])[pre.length]? = some x := fun x => by simp
  have hs : ∀ x y : MO, (pre ++ [x]).set pre.length y = pre ++ [y] := fun x y => by simp
  have hl2 : (R.map encW).length < 16777216 := by simp; omega
  rw [List.map_append] at e4
  simp only [List.map_cons, List.map_nil] at e4
  generalize R.map encW = X at *
  generalize T.map encW = Y at *
  generalize hN : pre.length = N at *
  generalize pre'.length = N' at *
  simp only [encW, encR] at e4
  have at2 : ∀ a b : D, L2.atI [a, b] 0 = some a ∧ L2.atI [a, b] 1 = some b := fun a b => ⟨rfl, rfl⟩
  rcases hz with ⟨h, rfl⟩ | ⟨h, rfl⟩
  · simp -dsimp -implicitDefEqProofs [pureF, runF, fVar, fC, fBin, gI, gI0, gAdd, gSub, gMul, gDiv, gMod, gPow, gAnd, gOr, gXor, gShl, gShr, gLt, gLe, gGt, gGe, fTst, asB, fChain, fNotT, fAndT, fOrT, fNotV, fAndV, fOrV, fIf, fIsN, isNon, fIfS, fSeq, fNx, fCt, fRet, fRetN, fDrop, fAsg, Tg.run, setAll, fCall, fCons, fNil, fTup, fLst, fNew, fMt, isLst, lstV, seqV, objL, gAppend, gExtend, gIx, fSl, gSl, fO, fNoO, fRev, fWR1, fWR2, fWL, wkSeq, fWT, wkTup, allw, fFor, fCallP, fCallS, clL, clD, clK, fVarZ, frzG, fRaise, fSetIx, fPar, gSetL, fAug, gLen, gList, gListN, gTuple, gInt, gIsi, tyOf, isTy, sizeLine, CPow, gIAdd, gAddN, wkEnumL, wkEnumT, fWEL, fWET, fNeg, fCallK, gSumT, gSumL, lsV, fWR3, fCallNP, fStep, lb_law_made_1, p1, p2, p3, hw, hg, hs, hl2, hN, e4, h, at2]
  · have h' : dcd (v2 = 0) = false := dcd_neg h
    simp -dsimp -implicitDefEqProofs [pureF, runF, fVar, fC, fBin, gI, gI0, gAdd, gSub, gMul, gDiv, gMod, gPow, gAnd, gOr, gXor, gShl, gShr, gLt, gLe, gGt, gGe, fTst, asB, fChain, fNotT, fAndT, fOrT, fNotV, fAndV, fOrV, fIf, fIsN, isNon, fIfS, fSeq, fNx, fCt, fRet, fRetN, fDrop, fAsg, Tg.run, setAll, fCall, fCons, fNil, fTup, fLst, fNew, fMt, isLst, lstV, seqV, objL, gAppend, gExtend, gIx, fSl, gSl, fO, fNoO, fRev, fWR1, fWR2, fWL, wkSeq, fWT, wkTup, allw, fFor, fCallP, fCallS, clL, clD, clK, fVarZ, frzG, fRaise, fSetIx, fPar, gSetL, fAug, gLen, gList, gListN, gTuple, gInt, gIsi, tyOf, isTy, sizeLine, CPow, gIAdd, gAddN, wkEnumL, wkEnumT, fWEL, fWET, fNeg, fCallK, gSumT, gSumL, lsV, fWR3, fCallNP, fStep, lb_law_made_1, p1, p2, p3, hw, hg, hs, hl2, hN, e4, h', at2]
theorem law_made_ex (b : Bag) (hi : 0 ≤ b.i) : ∃ (xs : List Rw) (b' : Bag), (∀ x ∈ xs, Pk x) ∧ xs.length ≤ 1300 ∧ 0 ≤ b'.i ∧ g_law_made [.obj 0] [b.mo] = .ok (.lst (xs.map encW)) ⟨[], [b'.mo]⟩ := by
  obtain ⟨d, b1, hd, i1, e1⟩ := one_ex (g_law_one := g_law_one) (b_law_one := b_law_one) rfl rfl b hi (.lst [.int 0, .int 5, .int 2046, .int 2047, .int 5000]) _ (.inl rfl) (by decide) (by decide)
  obtain ⟨f, rfl⟩ : ∃ f : Int, d = .int f := by
    simp only [List.mem_cons, List.not_mem_nil, or_false] at hd
    rcases hd with rfl | rfl | rfl | rfl | rfl <;> exact ⟨_, rfl⟩
  clear hd
  obtain ⟨v2, b2, i2, l2, u2, p2⟩ := pull_ex b1 5 i1 (by omega) (by omega)
  have hw := fun s => wkR1_int v2 s l2 (by omega)
  obtain ⟨s', l1, f', T, b3, pre', y3, y4, h1, h2, h3, h4, hs⟩ := loop_rng (step := fStep (.one 3) lb_law_made_1) (fun i s => ∃ (f' : Int) (T : List Rw) (b' : Bag) (pre' : List MO) (y3 y4 : Option D), (∀ x ∈ T, Pk x) ∧ T.length ≤ 250 * i ∧ 0 ≤ b'.i ∧ Jn pre' ∧ s = ⟨[some (.obj 0), some (.int f'), some (.obj (pre'.length + 1)), y3, y4], b'.mo :: (pre' ++ [.lst (T.map encW)])⟩) v2.toNat
    (fun i s hi2 ⟨f', T, b', pre', y3, y4, h1, h2, h3, h4, hs⟩ => by
      subst hs
      obtain ⟨T2, b2, pre2, z4, k1, k2, k3, k4, e⟩ := made_turn f' y3 y4 b' h3 pre' h4 T h1 (by omega) i
      rw [e]
      exact ⟨.inl rfl, _, T2, b2, pre2, _, _, k1, by omega, k3, k4, rfl⟩)
    (s := ⟨[some (.obj 0), some (.int f), some (.obj 1), none, none], [b2.mo, .lst []]⟩) ⟨f, [], b2, [], none, none, by simp, by simp, i2, by intro m hm; simp at hm, rfl⟩
  subst hs
  refine ⟨T, b3, h1, by omega, h3, ?_⟩
  have hg : ∀ x : MO, (pre' ++ [x])[pre'.length]? = some x := fun x => by simp
  have hset : ∀ x y : MO, (pre' ++ [x]).set pre'.length y = pre' ++ [y] := fun x y => by simp
  have hc := encL_clW 1 T
  have hb := bag_cl
  generalize T.map encW = Y at *
  generalize hN : pre'.length = N' at *
  simp -dsimp -implicitDefEqProofs [pureF, runF, fVar, fC, fBin, gI, gI0, gAdd, gSub, gMul, gDiv, gMod, gPow, gAnd, gOr, gXor, gShl, gShr, gLt, gLe, gGt, gGe, fTst, asB, fChain, fNotT, fAndT, fOrT, fNotV, fAndV, fOrV, fIf, fIsN, isNon, fIfS, fSeq, fNx, fCt, fRet, fRetN, fDrop, fAsg, Tg.run, setAll, fCall, fCons, fNil, fTup, fLst, fNew, fMt, isLst, lstV, seqV, objL, gAppend, gExtend, gIx, fSl, gSl, fO, fNoO, fRev, fWR1, fWR2, fWL, wkSeq, fWT, wkTup, allw, fFor, fCallP, fCallS, clL, clD, clK, fVarZ, frzG, fRaise, fSetIx, fPar, gSetL, fAug, gLen, gList, gListN, gTuple, gInt, gIsi, tyOf, isTy, sizeLine, CPow, gIAdd, gAddN, wkEnumL, wkEnumT, fWEL, fWET, fNeg, fCallK, gSumT, gSumL, lsV, fWR3, fCallNP, g_law_made, cutF, b_law_made, e1, p2, hw, l1, hg, hset, hN, hc, hb]

def b_law_after : DS → R Fl :=
  (fSeq (fAsg (fVar 0) (.many [1, 2, 3, 4]))
    (fSeq (fAsg (fLst (fCons (fC (.str "host frame")) (fCons (fC (.str "host in")) (fCons (fC (.str "host out")) (fCons (fC (.str "host setup")) fNil))))) (.one 5))
    (fSeq (fIfS (fTst (fBin (fBin (fVar 3) (fC (.int 0)) gIx) (fTup (fCons (fC (.str "out")) (fCons (fC (.str "setup")) fNil))) (gIn false))) (fRet (fLst (fCons (fC (.str "host data")) fNil))) fNx)
    (fSeq (fIfS (fAndT (fTst (fBin (fBin (fVar 3) (fC (.int 0)) gIx) (fC (.str "in")) gEq)) (fTst (fVar 4))) (fRet (fBin (fVar 5) (fLst (fCons (fC (.str "thing data")) (fCons (fC (.str "thing nak")) (fCons (fC (.str "thing stall")) fNil)))) gAdd)) fNx)
    (fSeq (fIfS (fAndT (fTst (fBin (fBin (fVar 3) (fC (.int 0)) gIx) (fC (.str "data")) gEq)) (fTst (fVar 4))) (fRet (fIf (fTst (fBin (fVar 2) (fC (.str "thing")) gEq)) (fLst (fCons (fC (.str "host ack")) fNil)) (fBin (fVar 5) (fLst (fCons (fC (.str "thing ack")) (fCons (fC (.str "thing nak")) (fCons (fC (.str "thing stall")) fNil)))) gAdd))) fNx)
    (fRet (fVar 5)))))))
def g_law_after : GP := pureF (runF 6 b_law_after)
theorem eq_law_after : ∀ args, args.length = 1 → g_law_after args ≠ .bad → pureF (runF 6 b_law_after) args = g_law_after args := fun _ _ _ => rfl

def spD2 (p : String × String) : D := .str ((p.1 ++ " " ++ p.2 : String) : Str)
theorem law_after_eq (a : Rw) (h : Sh a) : g_law_after [encW a] = .ok (.lst ((nx a).map spD2)) ⟨[], []⟩ := by
  obtain ⟨hw, hwho⟩ := sh_word h
  obtain ⟨f, who, w, r, c⟩ := a
  have hR := encR_cl 0 r
  simp only at hw hwho
  unfold encW nx
  simp only
  clear h
  have at0 := at0L
  generalize encR r = RR at *
  rcases hw with rfl | rfl | rfl | rfl | rfl | rfl | rfl | rfl <;> rcases hwho with rfl | rfl <;> cases c <;> simp -dsimp -implicitDefEqProofs [pureF, runF, fVar, fC, fBin, gI, gI0, gAdd, gSub, gMul, gDiv, gMod, gPow, gAnd, gOr, gXor, gShl, gShr, gLt, gLe, gGt, gGe, fTst, asB, fChain, fNotT, fAndT, fOrT, fNotV, fAndV, fOrV, fIf, fIsN, isNon, fIfS, fSeq, fNx, fCt, fRet, fRetN, fDrop, fAsg, Tg.run, setAll, fCall, fCons, fNil, fTup, fLst, fNew, fMt, isLst, lstV, seqV, objL, gAppend, gExtend, gIx, fSl, gSl, fO, fNoO, fRev, fWR1, fWR2, fWL, wkSeq, fWT, wkTup, allw, fFor, fCallP, fCallS, clL, clD, clK, fVarZ, frzG, fRaise, fSetIx, fPar, gSetL, fAug, gLen, gList, gListN, gTuple, gInt, gIsi, tyOf, isTy, sizeLine, CPow, gIAdd, gAddN, wkEnumL, wkEnumT, fWEL, fWET, fNeg, fCallK, gSumT, gSumL, lsV, fWR3, fCallNP, g_law_after, b_law_after, beg, spD2, hR, at0]

def ce_law_shape_0 : DS → R D := (fChain (fC (.int 0)) (fVar 7) (fC (.int 256)) gLe gLt)
def b_law_shape : DS → R Fl :=
  (fSeq (fAsg (fVar 0) (.many [1, 2, 3, 4]))
    (fSeq (fAsg (fDisp (fPCons (fC (.str "out")) (fC (.int 3)) (fPCons (fC (.str "in")) (fC (.int 3)) (fPCons (fC (.str "setup")) (fC (.int 3)) (fPCons (fC (.str "frame")) (fC (.int 2)) (fPCons (fC (.str "data")) (fC (.int 3)) (fPCons (fC (.str "ack")) (fC (.int 1)) (fPCons (fC (.str "nak")) (fC (.int 1)) (fPCons (fC (.str "stall")) (fC (.int 1)) fPNil))))))))) (.one 5))
    (fSeq (fIfS (fOrT (fTst (fBin (fVar 1) (fC (.int 0)) gLt)) (fOrT (fTst (fDin true (fBin (fVar 3) (fC (.int 0)) gIx) (fVar 5))) (fTst (fBin (fCall (fCons (fVar 3) fNil) gLen) (fBin (fVar 5) (fBin (fVar 3) (fC (.int 0)) gIx) gDget) gNe)))) (fRet (fC (.bl false))) fNx)
    (fSeq (fAsg (fDisp (fPCons (fC (.str "data")) (fLst (fCons (fC (.str "host")) (fCons (fC (.str "thing")) fNil))) (fPCons (fC (.str "ack")) (fLst (fCons (fC (.str "host")) (fCons (fC (.str "thing")) fNil))) (fPCons (fC (.str "nak")) (fLst (fCons (fC (.str "thing")) fNil)) (fPCons (fC (.str "stall")) (fLst (fCons (fC (.str "thing")) fNil)) fPNil))))) (.one 6))
    (fSeq (fIfS (fTst (fBin (fVar 2) (fDget2 (fVar 6) (fBin (fVar 3) (fC (.int 0)) gIx) (fLst (fCons (fC (.str "host")) fNil))) (gIn true))) (fRet (fC (.bl false))) fNx)
    (fSeq (fIfS (fTst (fBin (fBin (fVar 3) (fC (.int 0)) gIx) (fC (.str "frame")) gEq)) (fRet (fBin (fBin (fVar 3) (fC (.int 1)) gIx) (fBin (fVar 1) (fC (.int 2048)) gMod) gEq)) fNx)
    (fSeq (fIfS (fTst (fBin (fBin (fVar 3) (fC (.int 0)) gIx) (fC (.str "data")) gEq)) (fRet (fAndV (fBin (fBin (fVar 3) (fC (.int 1)) gIx) (fTup (fCons (fC (.int 0)) (fCons (fC (.int 1)) fNil))) (gIn false)) (fAndV (fBin (fCall (fCons (fBin (fVar 3) (fC (.int 2)) gIx) fNil) gLen) (fC (.int 64)) gLe) (fCall (fCons (fLc (fComp (fWT (fBin (fVar 3) (fC (.int 2)) gIx)) (.one 7) [7] fYes ce_law_shape_0)) fNil) (gAllAny false))))) fNx)
    (fRet (fOrV (fBin (fCall (fCons (fVar 3) fNil) gLen) (fC (.int 1)) gEq) (fAndV (fChain (fC (.int 0)) (fBin (fVar 3) (fC (.int 1)) gIx) (fC (.int 127)) gLe gLe) (fChain (fC (.int 0)) (fBin (fVar 3) (fC (.int 2)) gIx) (fC (.int 15)) gLe gLe)))))))))))
def g_law_shape : GP := pureF (runF 8 b_law_shape)
theorem eq_law_shape : ∀ args, args.length = 1 → g_law_shape args ≠ .bad → pureF (runF 8 b_law_shape) args = g_law_shape args := fun _ _ _ => rfl

def spK : List (Key × D) := [(.inr "data", .lst [.str ("host" : Str), .str ("thing" : Str)]), (.inr "ack", .lst [.str ("host" : Str), .str ("thing" : Str)]), (.inr "nak", .lst [.str ("thing" : Str)]), (.inr "stall", .lst [.str ("thing" : Str)])]
theorem sp_tab : tabD [(D.str ("data" : Str), .lst [.str ("host" : Str), .str ("thing" : Str)]), (D.str ("ack" : Str), .lst [.str ("host" : Str), .str ("thing" : Str)]), (D.str ("nak" : Str), .lst [.str ("thing" : Str)]), (D.str ("stall" : Str), .lst [.str ("thing" : Str)])] = some spK := rfl
theorem sp_nd : (spK.map fun x => x.fst).Nodup := by decide +kernel
theorem sp_len : spK.length ≤ 15 := by decide
theorem sp_val : (valD spK (.inr ("out" : Str)) = none ∧ valD spK (.inr ("in" : Str)) = none ∧ valD spK (.inr ("setup" : Str)) = none ∧ valD spK (.inr ("frame" : Str)) = none) ∧ valD spK (.inr ("data" : Str)) = some (.lst [.str ("host" : Str), .str ("thing" : Str)]) ∧ valD spK (.inr ("ack" : Str)) = some (.lst [.str ("host" : Str), .str ("thing" : Str)]) ∧ valD spK (.inr ("nak" : Str)) = some (.lst [.str ("thing" : Str)]) ∧ valD spK (.inr ("stall" : Str)) = some (.lst [.str ("thing" : Str)]) :=
  ⟨⟨by rfl, by rfl, by rfl, by rfl⟩, by rfl, by rfl, by rfl, by rfl⟩
theorem all_map {α : Type} (l : List α) (p : α → Bool) (s : DS) : gAllAny false [.lst (l.map fun x => D.bl (p x))] s = .ok (.bl (l.all p)) s := by
  have h : bls (l.map fun x => D.bl (p x)) = some (l.map p) := by
    induction l with
    | nil => rfl
    | cons x xs ih => simp only [List.map_cons, bls, ih, Option.map_some]
  simp [gAllAny, lstV, h, List.all_map]
theorem law_shape_eq (x : Rw) (h : Pk x) : g_law_shape [encW x] = .ok (.bl (dcd (Sh x))) ⟨[], []⟩ := by
  have at0 := at0L
  have at1 := at1L
  have at2 : ∀ a b c : D, L2.atI [a, b, c] 2 = some c := fun _ _ _ => rfl
  have sw1 : ("host" == x.who) = (x.who == "host") := beq_comm'' _ _
  have sw2 : ("thing" == x.who) = (x.who == "thing") := beq_comm'' _ _
  have z1 := sz_tab
  have z2 := sz_nd
  have z3 := sz_len
  have z4 := sz_val
  have y1 := sp_tab
  have y2 := sp_nd
  have y3 := sp_len
  have y4 := sp_val
  obtain ⟨f, who, w, r, c⟩ := x
  simp only at sw1 sw2
  by_cases hf : f < 0
  · rw [dcd_neg fun z => by have := z.1; simp only at this; omega]
    unfold encW
    simp only
    generalize encR r = RR at *
    generalize szK = S at *
    generalize spK = S2 at *
    clear h
    simp -dsimp -implicitDefEqProofs [pureF, runF, fVar, fC, fBin, gI, gI0, gAdd, gSub, gMul, gDiv, gMod, gPow, gAnd, gOr, gXor, gShl, gShr, gLt, gLe, gGt, gGe, fTst, asB, fChain, fNotT, fAndT, fOrT, fNotV, fAndV, fOrV, fIf, fIsN, isNon, fIfS, fSeq, fNx, fCt, fRet, fRetN, fDrop, fAsg, Tg.run, setAll, fCall, fCons, fNil, fTup, fLst, fNew, fMt, isLst, lstV, seqV, objL, gAppend, gExtend, gIx, fSl, gSl, fO, fNoO, fRev, fWR1, fWR2, fWL, wkSeq, fWT, wkTup, allw, fFor, fCallP, fCallS, clL, clD, clK, fVarZ, frzG, fRaise, fSetIx, fPar, gSetL, fAug, gLen, gList, gListN, gTuple, gInt, gIsi, tyOf, isTy, sizeLine, CPow, gIAdd, gAddN, wkEnumL, wkEnumT, fWEL, fWET, fNeg, fCallK, gSumT, gSumL, lsV, fWR3, fCallNP, g_law_shape, b_law_shape, fDisp, fPCons, fPNil, z1, z2, z3, hf]
  · have hf0 : 0 ≤ f := by omega
    rcases h with ⟨hw, a, b, h⟩ | ⟨hw, a, h⟩ | ⟨hw, a, ds, h, hd, hl⟩ | ⟨hw, hd⟩
    · simp only at hw h
      subst h
      have e2 : dcd (Sh ⟨f, who, w, .two a b, c⟩) = ((who == "host") && dcd ((0 ≤ a ∧ a ≤ 127) ∧ 0 ≤ b ∧ b ≤ 15)) := by
        rw [Bool.eq_iff_iff]
        simp only [dcd_iff, Bool.and_eq_true, beq_iff_eq]
        constructor
        · intro z
          rcases z with ⟨_, ⟨_, z, _, _, e, z2⟩ | ⟨_, _, e⟩ | ⟨_, _, _, _, e, _⟩ | ⟨_, _, e⟩ | ⟨_, _, e⟩⟩
          · injection e with e1 e2
            subst e1 e2
            exact ⟨z, z2⟩
          all_goals cases e
        · exact fun z => ⟨hf0, .inl ⟨hw, z.1, a, b, rfl, z.2⟩⟩
      rw [e2]
      clear e2
      unfold encW encR
      simp only
      generalize szK = S at *
      generalize spK = S2 at *
      cases hh : (who == "host")
      · rcases hw with rfl | rfl | rfl <;> simp -dsimp -implicitDefEqProofs [pureF, runF, fVar, fC, fBin, gI, gI0, gAdd, gSub, gMul, gDiv, gMod, gPow, gAnd, gOr, gXor, gShl, gShr, gLt, gLe, gGt, gGe, fTst, asB, fChain, fNotT, fAndT, fOrT, fNotV, fAndV, fOrV, fIf, fIsN, isNon, fIfS, fSeq, fNx, fCt, fRet, fRetN, fDrop, fAsg, Tg.run, setAll, fCall, fCons, fNil, fTup, fLst, fNew, fMt, isLst, lstV, seqV, objL, gAppend, gExtend, gIx, fSl, gSl, fO, fNoO, fRev, fWR1, fWR2, fWL, wkSeq, fWT, wkTup, allw, fFor, fCallP, fCallS, clL, clD, clK, fVarZ, frzG, fRaise, fSetIx, fPar, gSetL, fAug, gLen, gList, gListN, gTuple, gInt, gIsi, tyOf, isTy, sizeLine, CPow, gIAdd, gAddN, wkEnumL, wkEnumT, fWEL, fWET, fNeg, fCallK, gSumT, gSumL, lsV, fWR3, fCallNP, g_law_shape, b_law_shape, fDisp, fPCons, fPNil, fDin, gDin, gDget, fDget2, dctV, keyD, z1, z2, z3, z4, y1, y2, y3, y4, hf, at0, at1, at2, sw1, sw2, hh]
      · by_cases h1 : 0 ≤ a
        · by_cases h2 : a ≤ 127
          · by_cases h3 : 0 ≤ b
            · rcases hw with rfl | rfl | rfl <;> simp -dsimp -implicitDefEqProofs [pureF, runF, fVar, fC, fBin, gI, gI0, gAdd, gSub, gMul, gDiv, gMod, gPow, gAnd, gOr, gXor, gShl, gShr, gLt, gLe, gGt, gGe, fTst, asB, fChain, fNotT, fAndT, fOrT, fNotV, fAndV, fOrV, fIf, fIsN, isNon, fIfS, fSeq, fNx, fCt, fRet, fRetN, fDrop, fAsg, Tg.run, setAll, fCall, fCons, fNil, fTup, fLst, fNew, fMt, isLst, lstV, seqV, objL, gAppend, gExtend, gIx, fSl, gSl, fO, fNoO, fRev, fWR1, fWR2, fWL, wkSeq, fWT, wkTup, allw, fFor, fCallP, fCallS, clL, clD, clK, fVarZ, frzG, fRaise, fSetIx, fPar, gSetL, fAug, gLen, gList, gListN, gTuple, gInt, gIsi, tyOf, isTy, sizeLine, CPow, gIAdd, gAddN, wkEnumL, wkEnumT, fWEL, fWET, fNeg, fCallK, gSumT, gSumL, lsV, fWR3, fCallNP, g_law_shape, b_law_shape, fDisp, fPCons, fPNil, fDin, gDin, gDget, fDget2, dctV, keyD, z1, z2, z3, z4, y1, y2, y3, y4, hf, at0, at1, at2, sw1, sw2, hh, h1, h2, h3]
            · rcases hw with rfl | rfl | rfl <;> simp -dsimp -implicitDefEqProofs [pureF, runF, fVar, fC, fBin, gI, gI0, gAdd, gSub, gMul, gDiv, gMod, gPow, gAnd, gOr, gXor, gShl, gShr, gLt, gLe, gGt, gGe, fTst, asB, fChain, fNotT, fAndT, fOrT, fNotV, fAndV, fOrV, fIf, fIsN, isNon, fIfS, fSeq, fNx, fCt, fRet, fRetN, fDrop, fAsg, Tg.run, setAll, fCall, fCons, fNil, fTup, fLst, fNew, fMt, isLst, lstV, seqV, objL, gAppend, gExtend, gIx, fSl, gSl, fO, fNoO, fRev, fWR1, fWR2, fWL, wkSeq, fWT, wkTup, allw, fFor, fCallP, fCallS, clL, clD, clK, fVarZ, frzG, fRaise, fSetIx, fPar, gSetL, fAug, gLen, gList, gListN, gTuple, gInt, gIsi, tyOf, isTy, sizeLine, CPow, gIAdd, gAddN, wkEnumL, wkEnumT, fWEL, fWET, fNeg, fCallK, gSumT, gSumL, lsV, fWR3, fCallNP, g_law_shape, b_law_shape, fDisp, fPCons, fPNil, fDin, gDin, gDget, fDget2, dctV, keyD, z1, z2, z3, z4, y1, y2, y3, y4, hf, at0, at1, at2, sw1, sw2, hh, h1, h2, h3]
          · rcases hw with rfl | rfl | rfl <;> simp -dsimp -implicitDefEqProofs [pureF, runF, fVar, fC, fBin, gI, gI0, gAdd, gSub, gMul, gDiv, gMod, gPow, gAnd, gOr, gXor, gShl, gShr, gLt, gLe, gGt, gGe, fTst, asB, fChain, fNotT, fAndT, fOrT, fNotV, fAndV, fOrV, fIf, fIsN, isNon, fIfS, fSeq, fNx, fCt, fRet, fRetN, fDrop, fAsg, Tg.run, setAll, fCall, fCons, fNil, fTup, fLst, fNew, fMt, isLst, lstV, seqV, objL, gAppend, gExtend, gIx, fSl, gSl, fO, fNoO, fRev, fWR1, fWR2, fWL, wkSeq, fWT, wkTup, allw, fFor, fCallP, fCallS, clL, clD, clK, fVarZ, frzG, fRaise, fSetIx, fPar, gSetL, fAug, gLen, gList, gListN, gTuple, gInt, gIsi, tyOf, isTy, sizeLine, CPow, gIAdd, gAddN, wkEnumL, wkEnumT, fWEL, fWET, fNeg, fCallK, gSumT, gSumL, lsV, fWR3, fCallNP, g_law_shape, b_law_shape, fDisp, fPCons, fPNil, fDin, gDin, gDget, fDget2, dctV, keyD, z1, z2, z3, z4, y1, y2, y3, y4, hf, at0, at1, at2, sw1, sw2, hh, h1, h2]
        · rcases hw with rfl | rfl | rfl <;> simp -dsimp -implicitDefEqProofs [pureF, runF, fVar, fC, fBin, gI, gI0, gAdd, gSub, gMul, gDiv, gMod, gPow, gAnd, gOr, gXor, gShl, gShr, gLt, gLe, gGt, gGe, fTst, asB, fChain, fNotT, fAndT, fOrT, fNotV, fAndV, fOrV, fIf, fIsN, isNon, fIfS, fSeq, fNx, fCt, fRet, fRetN, fDrop, fAsg, Tg.run, setAll, fCall, fCons, fNil, fTup, fLst, fNew, fMt, isLst, lstV, seqV, objL, gAppend, gExtend, gIx, fSl, gSl, fO, fNoO, fRev, fWR1, fWR2, fWL, wkSeq, fWT, wkTup, allw, fFor, fCallP, fCallS, clL, clD, clK, fVarZ, frzG, fRaise, fSetIx, fPar, gSetL, fAug, gLen, gList, gListN, gTuple, gInt, gIsi, tyOf, isTy, sizeLine, CPow, gIAdd, gAddN, wkEnumL, wkEnumT, fWEL, fWET, fNeg, fCallK, gSumT, gSumL, lsV, fWR3, fCallNP, g_law_shape, b_law_shape, fDisp, fPCons, fPNil, fDin, gDin, gDget, fDget2, dctV, keyD, z1, z2, z3, z4, y1, y2, y3, y4, hf, at0, at1, at2, sw1, sw2, hh, h1]
    · simp only at hw h
      subst h hw
      have e2 : dcd (Sh ⟨f, who, "frame", .one a, c⟩) = ((who == "host") && dcd (a = f % 2048)) := by
        rw [Bool.eq_iff_iff]
        simp only [dcd_iff, Bool.and_eq_true, beq_iff_eq]
        constructor
        · intro z
          rcases z with ⟨_, ⟨_, z, _, _, e, z2⟩ | ⟨_, z, e⟩ | ⟨_, _, _, _, e, _⟩ | ⟨_, _, e⟩ | ⟨_, _, e⟩⟩
          · cases e
          · injection e with e1
            exact ⟨z, e1⟩
          all_goals cases e
        · exact fun z => ⟨hf0, .inr (.inl ⟨rfl, z.1, by rw [z.2]⟩)⟩
      rw [e2]
      clear e2
      unfold encW encR
      simp only
      generalize szK = S at *
      generalize spK = S2 at *
      cases hh : (who == "host") <;> simp -dsimp -implicitDefEqProofs [pureF, runF, fVar, fC, fBin, gI, gI0, gAdd, gSub, gMul, gDiv, gMod, gPow, gAnd, gOr, gXor, gShl, gShr, gLt, gLe, gGt, gGe, fTst, asB, fChain, fNotT, fAndT, fOrT, fNotV, fAndV, fOrV, fIf, fIsN, isNon, fIfS, fSeq, fNx, fCt, fRet, fRetN, fDrop, fAsg, Tg.run, setAll, fCall, fCons, fNil, fTup, fLst, fNew, fMt, isLst, lstV, seqV, objL, gAppend, gExtend, gIx, fSl, gSl, fO, fNoO, fRev, fWR1, fWR2, fWL, wkSeq, fWT, wkTup, allw, fFor, fCallP, fCallS, clL, clD, clK, fVarZ, frzG, fRaise, fSetIx, fPar, gSetL, fAug, gLen, gList, gListN, gTuple, gInt, gIsi, tyOf, isTy, sizeLine, CPow, gIAdd, gAddN, wkEnumL, wkEnumT, fWEL, fWET, fNeg, fCallK, gSumT, gSumL, lsV, fWR3, fCallNP, g_law_shape, b_law_shape, fDisp, fPCons, fPNil, fDin, gDin, gDget, fDget2, dctV, keyD, z1, z2, z3, z4, y1, y2, y3, y4, hf, at0, at1, at2, sw1, sw2, hh]
    · simp only at hw h
      subst h hw
      have e2 : dcd (Sh ⟨f, who, "data", .dat a ds, c⟩) = ((who == "host" || who == "thing") && dcd (a = 0 ∨ a = 1)) := by
        rw [Bool.eq_iff_iff]
        simp only [dcd_iff, Bool.and_eq_true, Bool.or_eq_true, beq_iff_eq]
        constructor
        · intro z
          rcases z with ⟨_, ⟨_, z, _, _, e, z2⟩ | ⟨_, z, e⟩ | ⟨_, z, _, _, e, z2, _⟩ | ⟨_, _, e⟩ | ⟨_, _, e⟩⟩
          · cases e
          · cases e
          · injection e with e1 e3
            subst e1
            exact ⟨z, z2⟩
          all_goals cases e
        · exact fun z => ⟨hf0, .inr (.inr (.inl ⟨rfl, z.1, a, ds, rfl, z.2, hd, hl⟩))⟩
      rw [e2]
      clear e2
      have hc := fun (mu : List MO) => comp_ints (step := cStep (.one 7) [7] fYes ce_law_shape_0) (s := ⟨[some (encW ⟨f, who, "data", .dat a ds, c⟩), some (.int f), some (.str (who : Str)), some (.tup [.str ("data" : Str), .int a, .tup (ds.map .int)]), some (.bl c), some (.obj 0), some (.obj 1), none], mu⟩) (fun d => .bl (dcd (isByte d))) ds (fun d hd' => by
        have hb := hd d hd'
        have h1 : 0 ≤ d := by unfold isByte at hb; omega
        have h2 : d < 256 := by unfold isByte at hb; omega
        have h3 : dcd (isByte d) = true := dcd_pos hb
        rw [h3]
        generalize encW ⟨f, who, "data", .dat a ds, c⟩ = E at *
        simp -dsimp -implicitDefEqProofs [pureF, runF, fVar, fC, fBin, gI, gI0, gAdd, gSub, gMul, gDiv, gMod, gPow, gAnd, gOr, gXor, gShl, gShr, gLt, gLe, gGt, gGe, fTst, asB, fChain, fNotT, fAndT, fOrT, fNotV, fAndV, fOrV, fIf, fIsN, isNon, fIfS, fSeq, fNx, fCt, fRet, fRetN, fDrop, fAsg, Tg.run, setAll, fCall, fCons, fNil, fTup, fLst, fNew, fMt, isLst, lstV, seqV, objL, gAppend, gExtend, gIx, fSl, gSl, fO, fNoO, fRev, fWR1, fWR2, fWL, wkSeq, fWT, wkTup, allw, fFor, fCallP, fCallS, clL, clD, clK, fVarZ, frzG, fRaise, fSetIx, fPar, gSetL, fAug, gLen, gList, gListN, gTuple, gInt, gIsi, tyOf, isTy, sizeLine, CPow, gIAdd, gAddN, wkEnumL, wkEnumT, fWEL, fWET, fNeg, fCallK, gSumT, gSumL, lsV, fWR3, fCallNP, cStep, wipeG, fYes, ce_law_shape_0, h1, h2]) (by rw [sizeLine_eq]; omega)
      have ha := all_map ds fun d => dcd (isByte d)
      have hall : (ds.all fun d => dcd (isByte d)) = true := by
        rw [List.all_eq_true]
        exact fun d h => dcd_pos (hd d h)
      rw [hall] at ha
      have hin : ∀ s, gIn false (.int a) (.tup [.int 0, .int 1]) s = .ok (.bl (dcd (a = 0 ∨ a = 1))) s := fun s => by
        have := gIn_ints false a (.tup [.int 0, .int 1]) [0, 1] (.inl rfl) s
        rw [this]
        congr 2
        rw [Bool.eq_iff_iff]
        simp
        omega
      have hln : (ds.map D.int).length = ds.length := by simp
      have hl4 : (ds.length : Int) ≤ 64 := by omega
      have hcl := clL_ints 0 ds
      unfold encW encR at *
      simp only at *
      generalize (ds.map fun d => D.bl (dcd (isByte d))) = Y at *
      generalize ds.map D.int = xs at *
      generalize dcd (a = 0 ∨ a = 1) = q at *
      generalize szK = S at *
      generalize spK = S2 at *
      clear hall hd hl
      cases q <;> cases hh : (who == "host") <;> cases ht : (who == "thing") <;> simp -dsimp -implicitDefEqProofs [pureF, runF, fVar, fC, fBin, gI, gI0, gAdd, gSub, gMul, gDiv, gMod, gPow, gAnd, gOr, gXor, gShl, gShr, gLt, gLe, gGt, gGe, fTst, asB, fChain, fNotT, fAndT, fOrT, fNotV, fAndV, fOrV, fIf, fIsN, isNon, fIfS, fSeq, fNx, fCt, fRet, fRetN, fDrop, fAsg, Tg.run, setAll, fCall, fCons, fNil, fTup, fLst, fNew, fMt, isLst, lstV, seqV, objL, gAppend, gExtend, gIx, fSl, gSl, fO, fNoO, fRev, fWR1, fWR2, fWL, wkSeq, fWT, wkTup, allw, fFor, fCallP, fCallS, clL, clD, clK, fVarZ, frzG, fRaise, fSetIx, fPar, gSetL, fAug, gLen, gList, gListN, gTuple, gInt, gIsi, tyOf, isTy, sizeLine, CPow, gIAdd, gAddN, wkEnumL, wkEnumT, fWEL, fWET, fNeg, fCallK, gSumT, gSumL, lsV, fWR3, fCallNP, g_law_shape, b_law_shape, fDisp, fPCons, fPNil, fDin, gDin, gDget, fDget2, dctV, keyD, z1, z2, z3, z4, y1, y2, y3, y4, hf, at0, at1, at2, sw1, sw2, hh, ht, fLc, fComp, hc, ha, hin, hln, hl4, hcl]
    · simp only at hw hd
      have hcl := encR_cl 0 r
      by_cases hz : r = .z
      · subst hz
        have e2 : dcd (Sh ⟨f, who, w, .z, c⟩) = ((w == "ack" && (who == "host" || who == "thing")) || ((w == "nak" || w == "stall") && who == "thing")) := by
          rw [Bool.eq_iff_iff]
          simp only [dcd_iff, Bool.and_eq_true, Bool.or_eq_true, beq_iff_eq]
          constructor
          · intro z
            rcases z with ⟨_, ⟨_, z, _, _, e, z2⟩ | ⟨_, z, e⟩ | ⟨_, z, _, _, e, z2, _⟩ | ⟨z, z2, _⟩ | ⟨z, z2, _⟩⟩
            · cases e
            · cases e
            · cases e
            · exact .inl ⟨z, z2⟩
            · exact .inr ⟨z, z2⟩
          · intro z
            rcases z with ⟨z, z2⟩ | ⟨z, z2⟩
            · exact ⟨hf0, .inr (.inr (.inr (.inl ⟨z, z2, rfl⟩)))⟩
            · exact ⟨hf0, .inr (.inr (.inr (.inr ⟨z, z2, rfl⟩)))⟩
        rw [e2]
        clear e2
        have zn1 := sz_none "" (by simp [word8])
        have zn2 := sz_none "token" (by simp [word8])
        unfold encW encR
        simp only
        generalize szK = S at *
        generalize spK = S2 at *
        rcases hw with rfl | rfl | rfl | rfl | rfl <;> cases hh : (who == "host") <;> cases ht : (who == "thing") <;> simp -dsimp -implicitDefEqProofs [pureF, runF, fVar, fC, fBin, gI, gI0, gAdd, gSub, gMul, gDiv, gMod, gPow, gAnd, gOr, gXor, gShl, gShr, gLt, gLe, gGt, gGe, fTst, asB, fChain, fNotT, fAndT, fOrT, fNotV, fAndV, fOrV, fIf, fIsN, isNon, fIfS, fSeq, fNx, fCt, fRet, fRetN, fDrop, fAsg, Tg.run, setAll, fCall, fCons, fNil, fTup, fLst, fNew, fMt, isLst, lstV, seqV, objL, gAppend, gExtend, gIx, fSl, gSl, fO, fNoO, fRev, fWR1, fWR2, fWL, wkSeq, fWT, wkTup, allw, fFor, fCallP, fCallS, clL, clD, clK, fVarZ, frzG, fRaise, fSetIx, fPar, gSetL, fAug, gLen, gList, gListN, gTuple, gInt, gIsi, tyOf, isTy, sizeLine, CPow, gIAdd, gAddN, wkEnumL, wkEnumT, fWEL, fWET, fNeg, fCallK, gSumT, gSumL, lsV, fWR3, fCallNP, g_law_shape, b_law_shape, fDisp, fPCons, fPNil, fDin, gDin, gDget, fDget2, dctV, keyD, z1, z2, z3, z4, y1, y2, y3, y4, hf, at0, at1, sw1, sw2, hh, ht, zn1, zn2]
      · have e2 : dcd (Sh ⟨f, who, w, r, c⟩) = false := dcd_neg fun z => by
          rcases z with ⟨_, ⟨z, _⟩ | ⟨z, _⟩ | ⟨z, _⟩ | ⟨_, _, e⟩ | ⟨_, _, e⟩⟩
          · simp only at z
            rcases hw with rfl | rfl | rfl | rfl | rfl <;> rcases z with z | z | z <;> simp at z
          · simp only at z
            rcases hw with rfl | rfl | rfl | rfl | rfl <;> simp at z
          · simp only at z
            rcases hw with rfl | rfl | rfl | rfl | rfl <;> simp at z
          · exact hz e
          · exact hz e
        rw [e2]
        have hln : ¬ ((encR r).length : Int) + 1 = 1 := fun z => hz (by cases r <;> simp [encR] at z <;> first | rfl | omega)
        have hln2 : dcd (((encR r).length : Int) + 1 = 1) = false := dcd_neg hln
        have zn1 := sz_none "" (by simp [word8])
        have zn2 := sz_none "token" (by simp [word8])
        unfold encW
        simp only
        generalize encR r = RR at *
        generalize szK = S at *
        generalize spK = S2 at *
        clear hd hz e2
        rcases hw with rfl | rfl | rfl | rfl | rfl <;> simp -dsimp -implicitDefEqProofs [pureF, runF, fVar, fC, fBin, gI, gI0, gAdd, gSub, gMul, gDiv, gMod, gPow, gAnd, gOr, gXor, gShl, gShr, gLt, gLe, gGt, gGe, fTst, asB, fChain, fNotT, fAndT, fOrT, fNotV, fAndV, fOrV, fIf, fIsN, isNon, fIfS, fSeq, fNx, fCt, fRet, fRetN, fDrop, fAsg, Tg.run, setAll, fCall, fCons, fNil, fTup, fLst, fNew, fMt, isLst, lstV, seqV, objL, gAppend, gExtend, gIx, fSl, gSl, fO, fNoO, fRev, fWR1, fWR2, fWL, wkSeq, fWT, wkTup, allw, fFor, fCallP, fCallS, clL, clD, clK, fVarZ, frzG, fRaise, fSetIx, fPar, gSetL, fAug, gLen, gList, gListN, gTuple, gInt, gIsi, tyOf, isTy, sizeLine, CPow, gIAdd, gAddN, wkEnumL, wkEnumT, fWEL, fWET, fNeg, fCallK, gSumT, gSumL, lsV, fWR3, fCallNP, g_law_shape, b_law_shape, fDisp, fPCons, fPNil, fDin, gDin, gDget, fDget2, dctV, keyD, z1, z2, z3, z4, y1, y2, y3, y4, hf, at0, zn1, zn2, hln2, hln]

def lb_law_wrong_0 : DS → R Fl := (fSeq (fIfS (fNotT (fTst (fCallP 1 (fCons (fVar 3) fNil) [] g_law_shape))) (fRet (fVar 2)) fNx)
    (fSeq (fAsg (fBin (fBin (fVar 3) (fC (.int 2)) gIx) (fC (.int 0)) gIx) (.one 4))
    (fSeq (fIfS (fAndT (fTst (fBin (fVar 2) (fC (.int 0)) gEq)) (fTst (fBin (fVar 4) (fC (.str "frame")) gNe))) (fRet (fVar 2)) fNx)
    (fSeq (fIfS (fAndT (fTst (fBin (fVar 2) (fC (.int 0)) gGt)) (fTst (fBin (fBin (fBin (fBin (fVar 3) (fC (.int 1)) gIx) (fC (.str " ")) gAdd) (fVar 4) gAdd) (fCallP 1 (fCons (fBin (fVar 0) (fBin (fVar 2) (fC (.int 1)) gSub) gIx) fNil) [] g_law_after) (gIn true)))) (fRet (fVar 2)) fNx)
    (fSeq (fIfS (fAndT (fTst (fBin (fVar 2) (fC (.int 0)) gGt)) (fTst (fBin (fBin (fVar 3) (fC (.int 0)) gIx) (fBin (fBin (fBin (fVar 0) (fBin (fVar 2) (fC (.int 1)) gSub) gIx) (fC (.int 0)) gIx) (fCall (fCons (fBin (fVar 4) (fC (.str "frame")) gEq) fNil) gInt) gAdd) gNe))) (fRet (fVar 2)) fNx)
    (fSeq (fAsg (fDget2 (fDisp (fPCons (fC (.str "frame")) (fC (.int 6)) (fPCons (fC (.str "in")) (fC (.int 13)) (fPCons (fC (.str "out")) (fC (.int 13)) (fPCons (fC (.str "setup")) (fC (.int 13)) fPNil))))) (fVar 4) (fIf (fTst (fBin (fVar 4) (fC (.str "data")) gEq)) (fCall (fCons (fBin (fBin (fVar 3) (fC (.int 2)) gIx) (fC (.int 2)) gIx) fNil) gLen) (fC (.int 0)))) (.one 5))
    (fSeq (fAsg (fIf (fTst (fBin (fVar 4) (fC (.str "frame")) gEq)) (fVar 5) (fBin (fVar 1) (fVar 5) gAdd)) (.one 1))
    (fIfS (fTst (fBin (fVar 1) (fC (.int 1500)) gGt)) (fRet (fVar 2)) fNx))))))))
def b_law_wrong : DS → R Fl :=
  (fSeq (fAsg (fC (.int 0)) (.one 1))
    (fSeq (fFor (fWEL (fCons (fVar 0) fNil)) (.many [2, 3]) lb_law_wrong_0)
    (fRet (fBin (fC (.int 0)) (fC (.int 1)) gSub))))
def g_law_wrong : GP := pureF (runF 6 b_law_wrong)
theorem eq_law_wrong : ∀ args, args.length = 1 → g_law_wrong args ≠ .bad → pureF (runF 6 b_law_wrong) args = g_law_wrong args := fun _ _ _ => rfl

def tkK : List (Key × D) := [(.inr "frame", .int 6), (.inr "in", .int 13), (.inr "out", .int 13), (.inr "setup", .int 13)]
theorem tk_disp (g : List (Option D)) (m : List MO) : fDisp (fPCons (fC (.str "frame")) (fC (.int 6)) (fPCons (fC (.str "in")) (fC (.int 13)) (fPCons (fC (.str "out")) (fC (.int 13)) (fPCons (fC (.str "setup")) (fC (.int 13)) fPNil)))) ⟨g, m⟩ = .ok (.obj m.length) ⟨g, m ++ [.dK tkK]⟩ := by
  have nd : (tkK.map fun x => x.fst).Nodup := by decide +kernel
  have e : (m ++ [MO.dK []])[m.length]? = some (.dK []) := by simp
  have tb : tabD [(D.str ("frame" : Str), D.int 6), (D.str ("in" : Str), D.int 13), (D.str ("out" : Str), D.int 13), (D.str ("setup" : Str), D.int 13)] = some tkK := rfl
  simp only [fDisp, fPCons, fPNil, fC, bind_ok, tb, e]
  rw [if_pos ⟨nd, by decide⟩]
  simp
theorem tk_val : valD tkK (.inr ("frame" : Str)) = some (.int 6) ∧ valD tkK (.inr ("in" : Str)) = some (.int 13) ∧ valD tkK (.inr ("out" : Str)) = some (.int 13) ∧ valD tkK (.inr ("setup" : Str)) = some (.int 13) ∧ valD tkK (.inr ("data" : Str)) = none ∧ valD tkK (.inr ("ack" : Str)) = none ∧ valD tkK (.inr ("nak" : Str)) = none ∧ valD tkK (.inr ("stall" : Str)) = none := ⟨by rfl, by rfl, by rfl, by rfl, by rfl, by rfl, by rfl, by rfl⟩
theorem taken_eq (x : Rw) (h : Sh x) (L r i x5 : Option D) (μ : List MO) : fDget2 (fDisp (fPCons (fC (.str "frame")) (fC (.int 6)) (fPCons (fC (.str "in")) (fC (.int 13)) (fPCons (fC (.str "out")) (fC (.int 13)) (fPCons (fC (.str "setup")) (fC (.int 13)) fPNil))))) (fVar 4) (fIf (fTst (fBin (fVar 4) (fC (.str "data")) gEq)) (fCall (fCons (fBin (fBin (fVar 3) (fC (.int 2)) gIx) (fC (.int 2)) gIx) fNil) gLen) (fC (.int 0))) ⟨[L, r, i, some (encW x), some (.str (x.w : Str)), x5], μ⟩ =
    .ok (.int (tk x)) ⟨[L, r, i, some (encW x), some (.str (x.w : Str)), x5], μ ++ [.dK tkK]⟩ := by
  have td := tk_disp
  have tv := tk_val
  have hd : ∀ g, dctV ⟨g, μ ++ [.dK tkK]⟩ (.obj μ.length) = some tkK := fun g => by simp [dctV]
  have at2 : ∀ a b c d : D, L2.atI [a, b, c, d] 2 = some c := fun _ _ _ _ => rfl
  have at23 : ∀ a b c : D, L2.atI [a, b, c] 2 = some c := fun _ _ _ => rfl
  obtain ⟨_, h⟩ := h
  obtain ⟨f, who, w, rr, c⟩ := x
  unfold encW tk
  simp only at h ⊢
  generalize tkK = S at *
  rcases h with ⟨hw, _, a, b, rfl, _⟩ | ⟨rfl, _, rfl⟩ | ⟨rfl, _, m, ds, rfl, _, _, _⟩ | ⟨rfl, _, rfl⟩ | ⟨hw, _, rfl⟩
  · rcases hw with rfl | rfl | rfl <;> simp -dsimp -implicitDefEqProofs [pureF, runF, fVar, fC, fBin, gI, gI0, gAdd, gSub, gMul, gDiv, gMod, gPow, gAnd, gOr, gXor, gShl, gShr, gLt, gLe, gGt, gGe, fTst, asB, fChain, fNotT, fAndT, fOrT, fNotV, fAndV, fOrV, fIf, fIsN, isNon, fIfS, fSeq, fNx, fCt, fRet, fRetN, fDrop, fAsg, Tg.run, setAll, fCall, fCons, fNil, fTup, fLst, fNew, fMt, isLst, lstV, seqV, objL, gAppend, gExtend, gIx, fSl, gSl, fO, fNoO, fRev, fWR1, fWR2, fWL, wkSeq, fWT, wkTup, allw, fFor, fCallP, fCallS, clL, clD, clK, fVarZ, frzG, fRaise, fSetIx, fPar, gSetL, fAug, gLen, gList, gListN, gTuple, gInt, gIsi, tyOf, isTy, sizeLine, CPow, gIAdd, gAddN, wkEnumL, wkEnumT, fWEL, fWET, fNeg, fCallK, gSumT, gSumL, lsV, fWR3, fCallNP, fDget2, td, hd, tv, keyD]
  · simp -dsimp -implicitDefEqProofs [pureF, runF, fVar, fC, fBin, gI, gI0, gAdd, gSub, gMul, gDiv, gMod, gPow, gAnd, gOr, gXor, gShl, gShr, gLt, gLe, gGt, gGe, fTst, asB, fChain, fNotT, fAndT, fOrT, fNotV, fAndV, fOrV, fIf, fIsN, isNon, fIfS, fSeq, fNx, fCt, fRet, fRetN, fDrop, fAsg, Tg.run, setAll, fCall, fCons, fNil, fTup, fLst, fNew, fMt, isLst, lstV, seqV, objL, gAppend, gExtend, gIx, fSl, gSl, fO, fNoO, fRev, fWR1, fWR2, fWL, wkSeq, fWT, wkTup, allw, fFor, fCallP, fCallS, clL, clD, clK, fVarZ, frzG, fRaise, fSetIx, fPar, gSetL, fAug, gLen, gList, gListN, gTuple, gInt, gIsi, tyOf, isTy, sizeLine, CPow, gIAdd, gAddN, wkEnumL, wkEnumT, fWEL, fWET, fNeg, fCallK, gSumT, gSumL, lsV, fWR3, fCallNP, fDget2, td, hd, tv, keyD]
  · have hl : (ds.map D.int).length = ds.length := by simp
    generalize ds.map D.int = xs at *
    simp -dsimp -implicitDefEqProofs [pureF, runF, fVar, fC, fBin, gI, gI0, gAdd, gSub, gMul, gDiv, gMod, gPow, gAnd, gOr, gXor, gShl, gShr, gLt, gLe, gGt, gGe, fTst, asB, fChain, fNotT, fAndT, fOrT, fNotV, fAndV, fOrV, fIf, fIsN, isNon, fIfS, fSeq, fNx, fCt, fRet, fRetN, fDrop, fAsg, Tg.run, setAll, fCall, fCons, fNil, fTup, fLst, fNew, fMt, isLst, lstV, seqV, objL, gAppend, gExtend, gIx, fSl, gSl, fO, fNoO, fRev, fWR1, fWR2, fWL, wkSeq, fWT, wkTup, allw, fFor, fCallP, fCallS, clL, clD, clK, fVarZ, frzG, fRaise, fSetIx, fPar, gSetL, fAug, gLen, gList, gListN, gTuple, gInt, gIsi, tyOf, isTy, sizeLine, CPow, gIAdd, gAddN, wkEnumL, wkEnumT, fWEL, fWET, fNeg, fCallK, gSumT, gSumL, lsV, fWR3, fCallNP, fDget2, td, hd, tv, keyD, encR, at2, at23, hl, datL]
  · simp -dsimp -implicitDefEqProofs [pureF, runF, fVar, fC, fBin, gI, gI0, gAdd, gSub, gMul, gDiv, gMod, gPow, gAnd, gOr, gXor, gShl, gShr, gLt, gLe, gGt, gGe, fTst, asB, fChain, fNotT, fAndT, fOrT, fNotV, fAndV, fOrV, fIf, fIsN, isNon, fIfS, fSeq, fNx, fCt, fRet, fRetN, fDrop, fAsg, Tg.run, setAll, fCall, fCons, fNil, fTup, fLst, fNew, fMt, isLst, lstV, seqV, objL, gAppend, gExtend, gIx, fSl, gSl, fO, fNoO, fRev, fWR1, fWR2, fWL, wkSeq, fWT, wkTup, allw, fFor, fCallP, fCallS, clL, clD, clK, fVarZ, frzG, fRaise, fSetIx, fPar, gSetL, fAug, gLen, gList, gListN, gTuple, gInt, gIsi, tyOf, isTy, sizeLine, CPow, gIAdd, gAddN, wkEnumL, wkEnumT, fWEL, fWET, fNeg, fCallK, gSumT, gSumL, lsV, fWR3, fCallNP, fDget2, td, hd, tv, keyD]
  · rcases hw with rfl | rfl <;> simp -dsimp -implicitDefEqProofs [pureF, runF, fVar, fC, fBin, gI, gI0, gAdd, gSub, gMul, gDiv, gMod, gPow, gAnd, gOr, gXor, gShl, gShr, gLt, gLe, gGt, gGe, fTst, asB, fChain, fNotT, fAndT, fOrT, fNotV, fAndV, fOrV, fIf, fIsN, isNon, fIfS, fSeq, fNx, fCt, fRet, fRetN, fDrop, fAsg, Tg.run, setAll, fCall, fCons, fNil, fTup, fLst, fNew, fMt, isLst, lstV, seqV, objL, gAppend, gExtend, gIx, fSl, gSl, fO, fNoO, fRev, fWR1, fWR2, fWL, wkSeq, fWT, wkTup, allw, fFor, fCallP, fCallS, clL, clD, clK, fVarZ, frzG, fRaise, fSetIx, fPar, gSetL, fAug, gLen, gList, gListN, gTuple, gInt, gIsi, tyOf, isTy, sizeLine, CPow, gIAdd, gAddN, wkEnumL, wkEnumT, fWEL, fWET, fNeg, fCallK, gSumT, gSumL, lsV, fWR3, fCallNP, fDget2, td, hd, tv, keyD]
--PART
theorem inS_eq (who w : String) (h : (w = "out" ∨ w = "in" ∨ w = "setup" ∨ w = "frame" ∨ w = "data" ∨ w = "ack" ∨ w = "nak" ∨ w = "stall") ∧ (who = "host" ∨ who = "thing")) (l : List (String × String)) (hl : ∀ p ∈ l, p.1 ∈ W2 ∧ p.2 ∈ W8) (s : DS) : gIn true (.str ((who ++ " " ++ w : String) : Str)) (.lst (l.map spD2)) s = .ok (.bl (!dcd ((who, w) ∈ l))) s := by
  have h1 : who ∈ W2 := by rcases h.2 with rfl | rfl <;> decide
  have h2 : w ∈ W8 := by rcases h.1 with rfl | rfl | rfl | rfl | rfl | rfl | rfl | rfl <;> decide
  have e := gIn_strs true (who ++ " " ++ w) (.lst (l.map spD2)) (l.map fun p => p.1 ++ " " ++ p.2) (.inr (by rw [List.map_map]; rfl)) s
  rw [e]
  have e2 : ((l.map fun p => p.1 ++ " " ++ p.2).any fun b => b == who ++ " " ++ w) = dcd ((who, w) ∈ l) := by
    rw [Bool.eq_iff_iff, List.any_eq_true, dcd_iff]
    constructor
    · rintro ⟨b, hb, he⟩
      obtain ⟨p, hp, rfl⟩ := List.mem_map.mp hb
      obtain ⟨m1, m2⟩ := hl p hp
      obtain ⟨q1, q2⟩ := inj16 _ m1 _ m2 _ h1 _ h2 (by simpa using he)
      rw [← q1, ← q2]
      exact hp
    · exact fun hp => ⟨_, List.mem_map.mpr ⟨_, hp, rfl⟩, by simp⟩
  rw [e2]
  simp
theorem lw_step (xs : List Rw) (i : Nat) (x : Rw) (hx : xs[i]? = some x) (hp : Pk x) (hprev : ∀ j y, i = j + 1 → xs[j]? = some y → Sh y) (r : Int) (x2 x3 x4 x5 : Option D) (μ : List MO) :
    (∀ r', nxt (prv xs i) r x = some r' → ∃ y2 y3 y4 y5, fStep (.many [2, 3]) lb_law_wrong_0 (.tup [.int i, encW x]) ⟨[some (.lst (xs.map encW)), some (.int r), x2, x3, x4, x5], μ⟩ = .ok .nx ⟨[some (.lst (xs.map encW)), some (.int r'), y2, y3, y4, y5], μ ++ [.dK tkK]⟩) ∧
    (nxt (prv xs i) r x = none → ∃ s', fStep (.many [2, 3]) lb_law_wrong_0 (.tup [.int i, encW x]) ⟨[some (.lst (xs.map encW)), some (.int r), x2, x3, x4, x5], μ⟩ = .ok (.rt (.int i)) s') := by
  have hs := law_shape_eq x hp
  have hcl := encR_cl 0 x.r
  have at0 := at0L
  by_cases hsh : Sh x
  · have ht := taken_eq x hsh
    have h2w := sh_word hsh
    have l1 : (Str.ofString x.who).length + (Str.ofString " ").length ≤ 16777216 := by
      rcases h2w.2 with e | e <;> rw [e] <;> decide
    have l2 : (Str.ofString (x.who ++ " ")).length + (Str.ofString x.w).length ≤ 16777216 := by
      rcases h2w.2 with e | e <;> rcases h2w.1 with f | f | f | f | f | f | f | f <;> rw [e, f] <;> decide +kernel
    have at1 := at1L
    have at2 : ∀ a b c d : D, L2.atI [a, b, c, d] 2 = some c := fun _ _ _ _ => rfl
    have oa := ofs_app
    have hE : encW x = .tup [.int x.f, .str (x.who : Str), .tup (.str (x.w : Str) :: encR x.r), .bl x.c] := rfl
    rw [dcd_pos hsh] at hs
    cases i with
    | zero =>
      have e : nxt (prv xs 0) r x = if Pr (x.w = "frame" ∧ nr r x ≤ 1500) then some (nr r x) else none := by
        unfold nxt
        rw [show (Sh x ∧ gd (prv xs 0) x ∧ nr r x ≤ 1500) = (x.w = "frame" ∧ nr r x ≤ 1500) from propext ⟨fun z => z.2, fun z => ⟨hsh, z⟩⟩]
      rw [e]
      clear e
      rw [hE] at hs ht ⊢
      generalize encR x.r = RR at *
      generalize xs.map encW = L at *
      by_cases hw : x.w = "frame"
      · have hnr : nr r x = tk x := by unfold nr; rw [if_pos hw]
        have htk : tk x = 6 := by unfold tk; rw [if_pos hw]
        rw [htk] at ht hnr
        rw [hnr, if_Pr ⟨hw, by omega⟩]
        rw [hw] at hs ht ⊢
        refine ⟨fun r' h => ?_, fun h => (by cases h)⟩
        cases h
        refine ⟨some (.int (0 : Nat)), some (.tup [.int x.f, .str (x.who : Str), .tup (.str ("frame" : Str) :: RR), .bl x.c]), some (.str ("frame" : Str)), some (.int 6), ?_⟩
        simp -dsimp -implicitDefEqProofs [pureF, runF, fVar, fC, fBin, gI, gI0, gAdd, gSub, gMul, gDiv, gMod, gPow, gAnd, gOr, gXor, gShl, gShr, gLt, gLe, gGt, gGe, fTst, asB, fChain, fNotT, fAndT, fOrT, fNotV, fAndV, fOrV, fIf, fIsN, isNon, fIfS, fSeq, fNx, fCt, fRet, fRetN, fDrop, fAsg, Tg.run, setAll, fCall, fCons, fNil, fTup, fLst, fNew, fMt, isLst, lstV, seqV, objL, gAppend, gExtend, gIx, fSl, gSl, fO, fNoO, fRev, fWR1, fWR2, fWL, wkSeq, fWT, wkTup, allw, fFor, fCallP, fCallS, clL, clD, clK, fVarZ, frzG, fRaise, fSetIx, fPar, gSetL, fAug, gLen, gList, gListN, gTuple, gInt, gIsi, tyOf, isTy, sizeLine, CPow, gIAdd, gAddN, wkEnumL, wkEnumT, fWEL, fWET, fNeg, fCallK, gSumT, gSumL, lsV, fWR3, fCallNP, fStep, lb_law_wrong_0, hs, hcl, at0, at2, ht]
      · rw [if_nPr fun z => hw z.1]
        have hwb : (x.w == "frame") = false := by simpa using hw
        refine ⟨fun r' h => (by cases h), fun _ => ⟨⟨[some (.lst L), some (.int r), some (.int (0 : Nat)), some (.tup [.int x.f, .str (x.who : Str), .tup (.str (x.w : Str) :: RR), .bl x.c]), some (.str (x.w : Str)), x5], μ⟩, ?_⟩⟩
        simp -dsimp -implicitDefEqProofs [pureF, runF, fVar, fC, fBin, gI, gI0, gAdd, gSub, gMul, gDiv, gMod, gPow, gAnd, gOr, gXor, gShl, gShr, gLt, gLe, gGt, gGe, fTst, asB, fChain, fNotT, fAndT, fOrT, fNotV, fAndV, fOrV, fIf, fIsN, isNon, fIfS, fSeq, fNx, fCt, fRet, fRetN, fDrop, fAsg, Tg.run, setAll, fCall, fCons, fNil, fTup, fLst, fNew, fMt, isLst, lstV, seqV, objL, gAppend, gExtend, gIx, fSl, gSl, fO, fNoO, fRev, fWR1, fWR2, fWL, wkSeq, fWT, wkTup, allw, fFor, fCallP, fCallS, clL, clD, clK, fVarZ, frzG, fRaise, fSetIx, fPar, gSetL, fAug, gLen, gList, gListN, gTuple, gInt, gIsi, tyOf, isTy, sizeLine, CPow, gIAdd, gAddN, wkEnumL, wkEnumT, fWEL, fWET, fNeg, fCallK, gSumT, gSumL, lsV, fWR3, fCallNP, fStep, lb_law_wrong_0, hs, hcl, at0, at2, hwb]
    | succ j =>
      have hj : j < xs.length := by have := (List.getElem?_eq_some_iff.mp hx).1; omega
      obtain ⟨y, hy⟩ : ∃ y, xs[j]? = some y := ⟨_, List.getElem?_eq_getElem hj⟩
      have hys := hprev j y rfl hy
      have hnw := law_after_eq y hys
      have hin := inS_eq x.who x.w h2w (nx y) (nx_mem y)
      have hcy := encR_cl 0 y.r
      have hcn : clL 0 ((nx y).map spD2) = true := by
        generalize nx y = l
        induction l with
        | nil => rfl
        | cons p l ih => simp only [List.map_cons, clL, ih, Bool.and_true]; rfl
      have ha : L2.atI (xs.map encW) ((j + 1 : Nat) - 1 : Int) = some (encW y) := by
        have : (((j + 1 : Nat) : Int) - 1) = ((j : Nat) : Int) := by omega
        rw [this]
        exact atI_nat (by rw [List.getElem?_map, hy]; rfl)
      have hi0 : (0 : Int) < ((j + 1 : Nat) : Int) := by omega
      have hI0 : dcd (((j + 1 : Nat) : Int) = 0) = false := dcd_neg (by omega)
      have e : nxt (prv xs (j + 1)) r x = if Pr (((x.who, x.w) ∈ nx y ∧ x.f = y.f + (if x.w = "frame" then 1 else 0)) ∧ nr r x ≤ 1500) then some (nr r x) else none := by
        unfold nxt
        simp only [prv, hy]
        rw [show (Sh x ∧ gd (some y) x ∧ nr r x ≤ 1500) = (((x.who, x.w) ∈ nx y ∧ x.f = y.f + (if x.w = "frame" then 1 else 0)) ∧ nr r x ≤ 1500) from propext ⟨fun z => ⟨z.2.1, z.2.2⟩, fun z => ⟨hsh, z.1, z.2⟩⟩]
      rw [e]
      clear e
      have hF : encW y = .tup [.int y.f, .str (y.who : Str), .tup (.str (y.w : Str) :: encR y.r), .bl y.c] := rfl
      rw [hF] at hnw ha
      rw [hE] at hs ht ⊢
      have hn0 : nr r x = if x.w = "frame" then tk x else r + tk x := rfl
      generalize encR x.r = RR at *
      generalize encR y.r = RY at *
      generalize xs.map encW = L at *
      generalize (nx y).map spD2 = NL at *
      generalize ((j + 1 : Nat) : Int) = I at *
      generalize tk x = TK at *
      by_cases h1 : (x.who, x.w) ∈ nx y
      · rw [dcd_pos h1] at hin
        by_cases h2 : x.f = y.f + (if x.w = "frame" then 1 else 0)
        · by_cases h3 : nr r x ≤ 1500
          · rw [if_Pr ⟨⟨h1, h2⟩, h3⟩]
            refine ⟨fun r' h => ?_, fun h => (by cases h)⟩
            cases h
            refine ⟨some (.int I), some (.tup [.int x.f, .str (x.who : Str), .tup (.str (x.w : Str) :: RR), .bl x.c]), some (.str (x.w : Str)), some (.int TK), ?_⟩
            rw [hn0] at h3 ⊢
            by_cases hw : x.w = "frame"
            · rw [if_pos hw] at h2 h3 ⊢
              rw [hw] at hs ht hin l2 ⊢
              have hd : dcd (x.f = y.f + 1) = true := dcd_pos h2
              have h4 : ¬ 1500 < TK := by omega
              clear h1 h2 h3
              simp -dsimp -implicitDefEqProofs [pureF, runF, fVar, fC, fBin, gI, gI0, gAdd, gSub, gMul, gDiv, gMod, gPow, gAnd, gOr, gXor, gShl, gShr, gLt, gLe, gGt, gGe, fTst, asB, fChain, fNotT, fAndT, fOrT, fNotV, fAndV, fOrV, fIf, fIsN, isNon, fIfS, fSeq, fNx, fCt, fRet, fRetN, fDrop, fAsg, Tg.run, setAll, fCall, fCons, fNil, fTup, fLst, fNew, fMt, isLst, lstV, seqV, objL, gAppend, gExtend, gIx, fSl, gSl, fO, fNoO, fRev, fWR1, fWR2, fWL, wkSeq, fWT, wkTup, allw, fFor, fCallP, fCallS, clL, clD, clK, fVarZ, frzG, fRaise, fSetIx, fPar, gSetL, fAug, gLen, gList, gListN, gTuple, gInt, gIsi, tyOf, isTy, sizeLine, CPow, gIAdd, gAddN, wkEnumL, wkEnumT, fWEL, fWET, fNeg, fCallK, gSumT, gSumL, lsV, fWR3, fCallNP, fStep, lb_law_wrong_0, hs, hcl, at0, at1, at2, l1, l2, oa, hI0, ht, hi0, ha, hnw, hin, hcy, hcn, hd, h4]
            · rw [if_neg hw] at h2 h3 ⊢
              have hwb : (x.w == "frame") = false := by simpa using hw
              have hd : dcd (x.f = y.f) = true := dcd_pos (by omega)
              have h4 : ¬ 1500 < r + TK := by omega
              clear h1 h2 h3
              simp -dsimp -implicitDefEqProofs [pureF, runF, fVar, fC, fBin, gI, gI0, gAdd, gSub, gMul, gDiv, gMod, gPow, gAnd, gOr, gXor, gShl, gShr, gLt, gLe, gGt, gGe, fTst, asB, fChain, fNotT, fAndT, fOrT, fNotV, fAndV, fOrV, fIf, fIsN, isNon, fIfS, fSeq, fNx, fCt, fRet, fRetN, fDrop, fAsg, Tg.run, setAll, fCall, fCons, fNil, fTup, fLst, fNew, fMt, isLst, lstV, seqV, objL, gAppend, gExtend, gIx, fSl, gSl, fO, fNoO, fRev, fWR1, fWR2, fWL, wkSeq, fWT, wkTup, allw, fFor, fCallP, fCallS, clL, clD, clK, fVarZ, frzG, fRaise, fSetIx, fPar, gSetL, fAug, gLen, gList, gListN, gTuple, gInt, gIsi, tyOf, isTy, sizeLine, CPow, gIAdd, gAddN, wkEnumL, wkEnumT, fWEL, fWET, fNeg, fCallK, gSumT, gSumL, lsV, fWR3, fCallNP, fStep, lb_law_wrong_0, hs, hcl, at0, at1, at2, l1, l2, oa, hI0, ht, hi0, ha, hnw, hin, hcy, hcn, hd, h4, hwb]
          · rw [if_nPr fun z => h3 z.2]
            refine ⟨fun r' h => (by cases h), fun _ => ?_⟩
            rw [hn0] at h3
            by_cases hw : x.w = "frame"
            · rw [if_pos hw] at h2 h3
              refine ⟨⟨[some (.lst L), some (.int TK), some (.int I), some (.tup [.int x.f, .str (x.who : Str), .tup (.str (x.w : Str) :: RR), .bl x.c]), some (.str (x.w : Str)), some (.int TK)], μ ++ [.dK tkK]⟩, ?_⟩
              rw [hw] at hs ht hin l2 ⊢
              have hd : dcd (x.f = y.f + 1) = true := dcd_pos h2
              have h4 : 1500 < TK := by omega
              clear h1 h2 h3
              simp -dsimp -implicitDefEqProofs [pureF, runF, fVar, fC, fBin, gI, gI0, gAdd, gSub, gMul, gDiv, gMod, gPow, gAnd, gOr, gXor, gShl, gShr, gLt, gLe, gGt, gGe, fTst, asB, fChain, fNotT, fAndT, fOrT, fNotV, fAndV, fOrV, fIf, fIsN, isNon, fIfS, fSeq, fNx, fCt, fRet, fRetN, fDrop, fAsg, Tg.run, setAll, fCall, fCons, fNil, fTup, fLst, fNew, fMt, isLst, lstV, seqV, objL, gAppend, gExtend, gIx, fSl, gSl, fO, fNoO, fRev, fWR1, fWR2, fWL, wkSeq, fWT, wkTup, allw, fFor, fCallP, fCallS, clL, clD, clK, fVarZ, frzG, fRaise, fSetIx, fPar, gSetL, fAug, gLen, gList, gListN, gTuple, gInt, gIsi, tyOf, isTy, sizeLine, CPow, gIAdd, gAddN, wkEnumL, wkEnumT, fWEL, fWET, fNeg, fCallK, gSumT, gSumL, lsV, fWR3, fCallNP, fStep, lb_law_wrong_0, hs, hcl, at0, at1, at2, l1, l2, oa, hI0, ht, hi0, ha, hnw, hin, hcy, hcn, hd, h4]
            · rw [if_neg hw] at h2 h3
              refine ⟨⟨[some (.lst L), some (.int (r + TK)), some (.int I), some (.tup [.int x.f, .str (x.who : Str), .tup (.str (x.w : Str) :: RR), .bl x.c]), some (.str (x.w : Str)), some (.int TK)], μ ++ [.dK tkK]⟩, ?_⟩
              have hwb : (x.w == "frame") = false := by simpa using hw
              have hd : dcd (x.f = y.f) = true := dcd_pos (by omega)
              have h4 : 1500 < r + TK := by omega
              clear h1 h2 h3
              simp -dsimp -implicitDefEqProofs [pureF, runF, fVar, fC, fBin, gI, gI0, gAdd, gSub, gMul, gDiv, gMod, gPow, gAnd, gOr, gXor, gShl, gShr, gLt, gLe, gGt, gGe, fTst, asB, fChain, fNotT, fAndT, fOrT, fNotV, fAndV, fOrV, fIf, fIsN, isNon, fIfS, fSeq, fNx, fCt, fRet, fRetN, fDrop, fAsg, Tg.run, setAll, fCall, fCons, fNil, fTup, fLst, fNew, fMt, isLst, lstV, seqV, objL, gAppend, gExtend, gIx, fSl, gSl, fO, fNoO, fRev, fWR1, fWR2, fWL, wkSeq, fWT, wkTup, allw, fFor, fCallP, fCallS, clL, clD, clK, fVarZ, frzG, fRaise, fSetIx, fPar, gSetL, fAug, gLen, gList, gListN, gTuple, gInt, gIsi, tyOf, isTy, sizeLine, CPow, gIAdd, gAddN, wkEnumL, wkEnumT, fWEL, fWET, fNeg, fCallK, gSumT, gSumL, lsV, fWR3, fCallNP, fStep, lb_law_wrong_0, hs, hcl, at0, at1, at2, l1, l2, oa, hI0, ht, hi0, ha, hnw, hin, hcy, hcn, hd, h4, hwb]
        · rw [if_nPr fun z => h2 z.1.2]
          refine ⟨fun r' h => (by cases h), fun _ => ⟨⟨[some (.lst L), some (.int r), some (.int I), some (.tup [.int x.f, .str (x.who : Str), .tup (.str (x.w : Str) :: RR), .bl x.c]), some (.str (x.w : Str)), x5], μ⟩, ?_⟩⟩
          by_cases hw : x.w = "frame"
          · rw [if_pos hw] at h2
            rw [hw] at hs ht hin l2 ⊢
            have hd : dcd (x.f = y.f + 1) = false := dcd_neg h2
            clear h1 h2 hn0
            simp -dsimp -implicitDefEqProofs [pureF, runF, fVar, fC, fBin, gI, gI0, gAdd, gSub, gMul, gDiv, gMod, gPow, gAnd, gOr, gXor, gShl, gShr, gLt, gLe, gGt, gGe, fTst, asB, fChain, fNotT, fAndT, fOrT, fNotV, fAndV, fOrV, fIf, fIsN, isNon, fIfS, fSeq, fNx, fCt, fRet, fRetN, fDrop, fAsg, Tg.run, setAll, fCall, fCons, fNil, fTup, fLst, fNew, fMt, isLst, lstV, seqV, objL, gAppend, gExtend, gIx, fSl, gSl, fO, fNoO, fRev, fWR1, fWR2, fWL, wkSeq, fWT, wkTup, allw, fFor, fCallP, fCallS, clL, clD, clK, fVarZ, frzG, fRaise, fSetIx, fPar, gSetL, fAug, gLen, gList, gListN, gTuple, gInt, gIsi, tyOf, isTy, sizeLine, CPow, gIAdd, gAddN, wkEnumL, wkEnumT, fWEL, fWET, fNeg, fCallK, gSumT, gSumL, lsV, fWR3, fCallNP, fStep, lb_law_wrong_0, hs, hcl, at0, at1, at2, l1, l2, oa, hI0, hi0, ha, hnw, hin, hcy, hcn, hd]
          · rw [if_neg hw] at h2
            have hwb : (x.w == "frame") = false := by simpa using hw
            have hd : dcd (x.f = y.f) = false := dcd_neg (by omega)
            clear h1 h2 hn0
            simp -dsimp -implicitDefEqProofs [pureF, runF, fVar, fC, fBin, gI, gI0, gAdd, gSub, gMul, gDiv, gMod, gPow, gAnd, gOr, gXor, gShl, gShr, gLt, gLe, gGt, gGe, fTst, asB, fChain, fNotT, fAndT, fOrT, fNotV, fAndV, fOrV, fIf, fIsN, isNon, fIfS, fSeq, fNx, fCt, fRet, fRetN, fDrop, fAsg, Tg.run, setAll, fCall, fCons, fNil, fTup, fLst, fNew, fMt, isLst, lstV, seqV, objL, gAppend, gExtend, gIx, fSl, gSl, fO, fNoO, fRev, fWR1, fWR2, fWL, wkSeq, fWT, wkTup, allw, fFor, fCallP, fCallS, clL, clD, clK, fVarZ, frzG, fRaise, fSetIx, fPar, gSetL, fAug, gLen, gList, gListN, gTuple, gInt, gIsi, tyOf, isTy, sizeLine, CPow, gIAdd, gAddN, wkEnumL, wkEnumT, fWEL, fWET, fNeg, fCallK, gSumT, gSumL, lsV, fWR3, fCallNP, fStep, lb_law_wrong_0, hs, hcl, at0, at1, at2, l1, l2, oa, hI0, hi0, ha, hnw, hin, hcy, hcn, hd, hwb]
      · rw [if_nPr fun z => h1 z.1.1]
        rw [dcd_neg h1] at hin
        refine ⟨fun r' h => (by cases h), fun _ => ⟨⟨[some (.lst L), some (.int r), some (.int I), some (.tup [.int x.f, .str (x.who : Str), .tup (.str (x.w : Str) :: RR), .bl x.c]), some (.str (x.w : Str)), x5], μ⟩, ?_⟩⟩
        clear h1 hn0
        simp -dsimp -implicitDefEqProofs [pureF, runF, fVar, fC, fBin, gI, gI0, gAdd, gSub, gMul, gDiv, gMod, gPow, gAnd, gOr, gXor, gShl, gShr, gLt, gLe, gGt, gGe, fTst, asB, fChain, fNotT, fAndT, fOrT, fNotV, fAndV, fOrV, fIf, fIsN, isNon, fIfS, fSeq, fNx, fCt, fRet, fRetN, fDrop, fAsg, Tg.run, setAll, fCall, fCons, fNil, fTup, fLst, fNew, fMt, isLst, lstV, seqV, objL, gAppend, gExtend, gIx, fSl, gSl, fO, fNoO, fRev, fWR1, fWR2, fWL, wkSeq, fWT, wkTup, allw, fFor, fCallP, fCallS, clL, clD, clK, fVarZ, frzG, fRaise, fSetIx, fPar, gSetL, fAug, gLen, gList, gListN, gTuple, gInt, gIsi, tyOf, isTy, sizeLine, CPow, gIAdd, gAddN, wkEnumL, wkEnumT, fWEL, fWET, fNeg, fCallK, gSumT, gSumL, lsV, fWR3, fCallNP, fStep, lb_law_wrong_0, hs, hcl, at0, at1, at2, l1, l2, oa, hI0, hi0, ha, hnw, hin, hcy, hcn]
  · rw [dcd_neg hsh] at hs
    have e : nxt (prv xs i) r x = none := by unfold nxt; rw [if_nPr fun z => hsh z.1]
    rw [e]
    refine ⟨fun r' h => (by cases h), fun _ => ?_⟩
    have hE : encW x = .tup [.int x.f, .str (x.who : Str), .tup (.str (x.w : Str) :: encR x.r), .bl x.c] := rfl
    rw [hE] at hs ⊢
    generalize encR x.r = RR at *
    generalize xs.map encW = L at *
    refine ⟨⟨[some (.lst L), some (.int r), some (.int (i : Nat)), some (.tup [.int x.f, .str (x.who : Str), .tup (.str (x.w : Str) :: RR), .bl x.c]), x4, x5], μ⟩, ?_⟩
    simp -dsimp -implicitDefEqProofs [pureF, runF, fVar, fC, fBin, gI, gI0, gAdd, gSub, gMul, gDiv, gMod, gPow, gAnd, gOr, gXor, gShl, gShr, gLt, gLe, gGt, gGe, fTst, asB, fChain, fNotT, fAndT, fOrT, fNotV, fAndV, fOrV, fIf, fIsN, isNon, fIfS, fSeq, fNx, fCt, fRet, fRetN, fDrop, fAsg, Tg.run, setAll, fCall, fCons, fNil, fTup, fLst, fNew, fMt, isLst, lstV, seqV, objL, gAppend, gExtend, gIx, fSl, gSl, fO, fNoO, fRev, fWR1, fWR2, fWL, wkSeq, fWT, wkTup, allw, fFor, fCallP, fCallS, clL, clD, clK, fVarZ, frzG, fRaise, fSetIx, fPar, gSetL, fAug, gLen, gList, gListN, gTuple, gInt, gIsi, tyOf, isTy, sizeLine, CPow, gIAdd, gAddN, wkEnumL, wkEnumT, fWEL, fWET, fNeg, fCallK, gSumT, gSumL, lsV, fWR3, fCallNP, fStep, lb_law_wrong_0, hs, hcl]
theorem enum_w (xs : List Rw) (i : Nat) (x : Rw) (hx : xs[i]? = some x) : (enumD (xs.map encW))[i]? = some (.tup [.int i, encW x]) := by
  have hi : i < xs.length := (List.getElem?_eq_some_iff.mp hx).1
  unfold enumD
  rw [List.getElem?_map, List.getElem?_range (by simpa using hi)]
  simp [List.getD_eq_getElem?_getD, hx]
theorem room_prev {xs : List Rw} : ∀ {i : Nat} {r : Int}, roomAt xs i = some r → ∀ j y, i = j + 1 → xs[j]? = some y → Sh y := by
  intro i r h j y e hy
  subst e
  simp only [roomAt] at h
  split at h
  · rename_i r0 x e1 e2
    rw [hy] at e2
    cases e2
    exact nxt_sh h
  · cases h
theorem room_next {xs : List Rw} {i : Nat} {r : Int} {x : Rw} (h : roomAt xs i = some r) (hx : xs[i]? = some x) : roomAt xs (i + 1) = nxt (prv xs i) r x := by
  simp only [roomAt, h, hx]
theorem room_some {xs : List Rw} {k : Nat} (h : ∀ i, i < k → roomAt xs (i + 1) ≠ none) : ∀ i, i ≤ k → ∃ r, roomAt xs i = some r := by
  intro i hi
  cases i with
  | zero => exact ⟨0, rfl⟩
  | succ i =>
    cases q : roomAt xs (i + 1) with
    | none => exact absurd q (h i (by omega))
    | some r => exact ⟨r, rfl⟩
/-- the place of the first row that could not be -/
def Wr (xs : List Rw) (n : Int) : Prop := ((∀ i, i < xs.length → roomAt xs (i + 1) ≠ none) ∧ n = -1) ∨ ∃ i, i < xs.length ∧ roomAt xs (i + 1) = none ∧ (∀ j, j < i → roomAt xs (j + 1) ≠ none) ∧ n = (i : Int)
theorem first_of2 (P : Nat → Prop) : ∀ n : Nat, (∀ i, i < n → ¬ P i) ∨ ∃ i, i < n ∧ P i ∧ ∀ j, j < i → ¬ P j
  | 0 => .inl fun i h => absurd h (by omega)
  | n + 1 => by
    rcases first_of2 P n with h | ⟨i, h1, h2, h3⟩
    · by_cases hn : P n
      · exact .inr ⟨n, by omega, hn, h⟩
      · refine .inl fun i hi => ?_
        by_cases e : i = n
        · rw [e]; exact hn
        · exact h i (by omega)
    · exact .inr ⟨i, by omega, h2, h3⟩
theorem wr_ex (xs : List Rw) : ∃ n, Wr xs n := by
  rcases first_of2 (fun i => roomAt xs (i + 1) = none) xs.length with h | ⟨i, h1, h2, h3⟩
  · exact ⟨-1, .inl ⟨h, rfl⟩⟩
  · exact ⟨i, .inr ⟨i, h1, h2, h3, rfl⟩⟩
theorem fw_to (xs : List Rw) (hp : ∀ x ∈ xs, Pk x) (k : Nat) (hk : k ≤ xs.length) (h : ∀ i, i < k → roomAt xs (i + 1) ≠ none) : ∃ (r : Int) (y2 y3 y4 y5 y6 y7 y8 : Option D), roomAt xs k = some r ∧
    loopL allw (fStep (.many [2, 3]) lb_first_wrong_0) (enumD (xs.map encW)) ⟨[some (.lst (xs.map encW)), some (.int 0), none, none, none, none, none, none, none], []⟩ = loopL allw (fStep (.many [2, 3]) lb_first_wrong_0) ((enumD (xs.map encW)).drop k) ⟨[some (.lst (xs.map encW)), some (.int r), y2, y3, y4, y5, y6, y7, y8], []⟩ := by
  have hlen : (enumD (xs.map encW)).length = xs.length := by simp
  obtain ⟨s', ⟨r, y2, y3, y4, y5, y6, y7, y8, hr, hs⟩, l1⟩ := loop_to (P := allw) (step := fStep (.many [2, 3]) lb_first_wrong_0) (fun i s => ∃ (r : Int) (y2 y3 y4 y5 y6 y7 y8 : Option D), roomAt xs i = some r ∧ s = ⟨[some (.lst (xs.map encW)), some (.int r), y2, y3, y4, y5, y6, y7, y8], []⟩) (enumD (xs.map encW)) (fun _ _ _ => rfl) k (by omega)
    (fun i d s hi e ⟨r, y2, y3, y4, y5, y6, y7, y8, hr, hs⟩ => by
      subst hs
      have hix : i < xs.length := by omega
      have hx := List.getElem?_eq_getElem hix
      rw [enum_w xs i _ hx] at e
      cases e
      obtain ⟨r', hr'⟩ := room_some h (i + 1) (by omega)
      rw [room_next hr hx] at hr'
      obtain ⟨z2, z3, z4, z5, z6, z7, z8, st⟩ := (fw_step xs i _ hx (hp _ (List.getElem_mem hix)) (room_prev hr) r y2 y3 y4 y5 y6 y7 y8).1 r' hr'
      rw [st]
      exact ⟨.inl rfl, r', _, _, _, _, _, _, _, by rw [room_next hr hx]; exact hr', rfl⟩)
    (s := ⟨[some (.lst (xs.map encW)), some (.int 0), none, none, none, none, none, none, none], []⟩) ⟨0, none, none, none, none, none, none, none, rfl, rfl⟩
  subst hs
  exact ⟨r, y2, y3, y4, y5, y6, y7, y8, hr, l1⟩
theorem first_wrong_eq (xs : List Rw) (hp : ∀ x ∈ xs, Pk x) (n : Int) (h : Wr xs n) : g_first_wrong [.lst (xs.map encW)] = .ok (.int n) ⟨[], []⟩ := by
  have hcl := encL_clW 0 xs
  have hlen : (enumD (xs.map encW)).length = xs.length := by simp
  rcases h with ⟨h, rfl⟩ | ⟨i, hi, hn, hj, rfl⟩
  · obtain ⟨r, y2, y3, y4, y5, y6, y7, y8, _, l1⟩ := fw_to xs hp xs.length (Nat.le_refl _) h
    rw [List.drop_of_length_le (by omega)] at l1
    have l2 : ∀ s, loopL allw (fStep (.many [2, 3]) lb_first_wrong_0) [] s = .ok .nx s := fun s => rfl
    rw [l2] at l1
    generalize xs.map encW = L at *
    simp -dsimp -implicitDefEqProofs [pureF, runF, fVar, fC, fBin, gI, gI0, gAdd, gSub, gMul, gDiv, gMod, gPow, gAnd, gOr, gXor, gShl, gShr, gLt, gLe, gGt, gGe, fTst, asB, fChain, fNotT, fAndT, fOrT, fNotV, fAndV, fOrV, fIf, fIsN, isNon, fIfS, fSeq, fNx, fCt, fRet, fRetN, fDrop, fAsg, Tg.run, setAll, fCall, fCons, fNil, fTup, fLst, fNew, fMt, isLst, lstV, seqV, objL, gAppend, gExtend, gIx, fSl, gSl, fO, fNoO, fRev, fWR1, fWR2, fWL, wkSeq, fWT, wkTup, allw, fFor, fCallP, fCallS, clL, clD, clK, fVarZ, frzG, fRaise, fSetIx, fPar, gSetL, fAug, gLen, gList, gListN, gTuple, gInt, gIsi, tyOf, isTy, sizeLine, CPow, gIAdd, gAddN, wkEnumL, wkEnumT, fWEL, fWET, fNeg, fCallK, gSumT, gSumL, lsV, fWR3, fCallNP, g_first_wrong, b_first_wrong, l1]
  · obtain ⟨r, y2, y3, y4, y5, y6, y7, y8, hr, l1⟩ := fw_to xs hp i (by omega) hj
    have hx := List.getElem?_eq_getElem hi
    rw [room_next hr hx] at hn
    obtain ⟨s', st⟩ := (fw_step xs i _ hx (hp _ (List.getElem_mem hi)) (room_prev hr) r y2 y3 y4 y5 y6 y7 y8).2 hn
    have hz : i < (enumD (xs.map encW)).length := by omega
    have e1 := enum_w xs i _ hx
    rw [List.drop_eq_getElem_cons hz] at l1
    rw [List.getElem?_eq_getElem hz] at e1
    rw [Option.some.inj e1] at l1
    have l2 : loopL allw (fStep (.many [2, 3]) lb_first_wrong_0) (enumD (xs.map encW)) ⟨[some (.lst (xs.map encW)), some (.int 0), none, none, none, none, none, none, none], []⟩ = .ok (.rt (.int i)) s' := by
      rw [l1]
      unfold loopL
      rw [if_pos (show allw _ = true from rfl), st]
    clear l1 st e1 hx
    generalize xs.map encW = L at *
    simp -dsimp -implicitDefEqProofs [pureF, runF, fVar, fC, fBin, gI, gI0, gAdd, gSub, gMul, gDiv, gMod, gPow, gAnd, gOr, gXor, gShl, gShr, gLt, gLe, gGt, gGe, fTst, asB, fChain, fNotT, fAndT, fOrT, fNotV, fAndV, fOrV, fIf, fIsN, isNon, fIfS, fSeq, fNx, fCt, fRet, fRetN, fDrop, fAsg, Tg.run, setAll, fCall, fCons, fNil, fTup, fLst, fNew, fMt, isLst, lstV, seqV, objL, gAppend, gExtend, gIx, fSl, gSl, fO, fNoO, fRev, fWR1, fWR2, fWL, wkSeq, fWT, wkTup, allw, fFor, fCallP, fCallS, clL, clD, clK, fVarZ, frzG, fRaise, fSetIx, fPar, gSetL, fAug, gLen, gList, gListN, gTuple, gInt, gIsi, tyOf, isTy, sizeLine, CPow, gIAdd, gAddN, wkEnumL, wkEnumT, fWEL, fWET, fNeg, fCallK, gSumT, gSumL, lsV, fWR3, fCallNP, g_first_wrong, b_first_wrong, l2]
theorem lw_to (xs : List Rw) (hp : ∀ x ∈ xs, Pk x) (k : Nat) (hk : k ≤ xs.length) (h : ∀ i, i < k → roomAt xs (i + 1) ≠ none) : ∃ (r : Int) (y2 y3 y4 y5 : Option D) (μ : List MO), roomAt xs k = some r ∧
    loopL allw (fStep (.many [2, 3]) lb_law_wrong_0) (enumD (xs.map encW)) ⟨[some (.lst (xs.map encW)), some (.int 0), none, none, none, none], []⟩ = loopL allw (fStep (.many [2, 3]) lb_law_wrong_0) ((enumD (xs.map encW)).drop k) ⟨[some (.lst (xs.map encW)), some (.int r), y2, y3, y4, y5], μ⟩ := by
  have hlen : (enumD (xs.map encW)).length = xs.length := by simp
  obtain ⟨s', ⟨r, y2, y3, y4, y5, μ, hr, hs⟩, l1⟩ := loop_to (P := allw) (step := fStep (.many [2, 3]) lb_law_wrong_0) (fun i s => ∃ (r : Int) (y2 y3 y4 y5 : Option D) (μ : List MO), roomAt xs i = some r ∧ s = ⟨[some (.lst (xs.map encW)), some (.int r), y2, y3, y4, y5], μ⟩) (enumD (xs.map encW)) (fun _ _ _ => rfl) k (by omega)
    (fun i d s hi e ⟨r, y2, y3, y4, y5, μ, hr, hs⟩ => by
      subst hs
      have hix : i < xs.length := by omega
      have hx := List.getElem?_eq_getElem hix
      rw [enum_w xs i _ hx] at e
      cases e
      obtain ⟨r', hr'⟩ := room_some h (i + 1) (by omega)
      rw [room_next hr hx] at hr'
      obtain ⟨z2, z3, z4, z5, st⟩ := (lw_step xs i _ hx (hp _ (List.getElem_mem hix)) (room_prev hr) r y2 y3 y4 y5 μ).1 r' hr'
      rw [st]
      exact ⟨.inl rfl, r', _, _, _, _, _, by rw [room_next hr hx]; exact hr', rfl⟩)
    (s := ⟨[some (.lst (xs.map encW)), some (.int 0), none, none, none, none], []⟩) ⟨0, none, none, none, none, [], rfl, rfl⟩
  subst hs
  exact ⟨r, y2, y3, y4, y5, μ, hr, l1⟩
theorem law_wrong_eq (xs : List Rw) (hp : ∀ x ∈ xs, Pk x) (n : Int) (h : Wr xs n) : g_law_wrong [.lst (xs.map encW)] = .ok (.int n) ⟨[], []⟩ := by
  have hcl := encL_clW 0 xs
  have hlen : (enumD (xs.map encW)).length = xs.length := by simp
  rcases h with ⟨h, rfl⟩ | ⟨i, hi, hn, hj, rfl⟩
  · obtain ⟨r, y2, y3, y4, y5, μ, _, l1⟩ := lw_to xs hp xs.length (Nat.le_refl _) h
    rw [List.drop_of_length_le (by omega)] at l1
    have l2 : ∀ s, loopL allw (fStep (.many [2, 3]) lb_law_wrong_0) [] s = .ok .nx s := fun s => rfl
    rw [l2] at l1
    generalize xs.map encW = L at *
    simp -dsimp -implicitDefEqProofs [pureF, runF, fVar, fC, fBin, gI, gI0, gAdd, gSub, gMul, gDiv, gMod, gPow, gAnd, gOr, gXor, gShl, gShr, gLt, gLe, gGt, gGe, fTst, asB, fChain, fNotT, fAndT, fOrT, fNotV, fAndV, fOrV, fIf, fIsN, isNon, fIfS, fSeq, fNx, fCt, fRet, fRetN, fDrop, fAsg, Tg.run, setAll, fCall, fCons, fNil, fTup, fLst, fNew, fMt, isLst, lstV, seqV, objL, gAppend, gExtend, gIx, fSl, gSl, fO, fNoO, fRev, fWR1, fWR2, fWL, wkSeq, fWT, wkTup, allw, fFor, fCallP, fCallS, clL, clD, clK, fVarZ, frzG, fRaise, fSetIx, fPar, gSetL, fAug, gLen, gList, gListN, gTuple, gInt, gIsi, tyOf, isTy, sizeLine, CPow, gIAdd, gAddN, wkEnumL, wkEnumT, fWEL, fWET, fNeg, fCallK, gSumT, gSumL, lsV, fWR3, fCallNP, g_law_wrong, b_law_wrong, l1]
  · obtain ⟨r, y2, y3, y4, y5, μ, hr, l1⟩ := lw_to xs hp i (by omega) hj
    have hx := List.getElem?_eq_getElem hi
    rw [room_next hr hx] at hn
    obtain ⟨s', st⟩ := (lw_step xs i _ hx (hp _ (List.getElem_mem hi)) (room_prev hr) r y2 y3 y4 y5 μ).2 hn
    have hz : i < (enumD (xs.map encW)).length := by omega
    have e1 := enum_w xs i _ hx
    rw [List.drop_eq_getElem_cons hz] at l1
    rw [List.getElem?_eq_getElem hz] at e1
    rw [Option.some.inj e1] at l1
    have l2 : loopL allw (fStep (.many [2, 3]) lb_law_wrong_0) (enumD (xs.map encW)) ⟨[some (.lst (xs.map encW)), some (.int 0), none, none, none, none], []⟩ = .ok (.rt (.int i)) s' := by
      rw [l1]
      unfold loopL
      rw [if_pos (show allw _ = true from rfl), st]
    clear l1 st e1 hx
    generalize xs.map encW = L at *
    simp -dsimp -implicitDefEqProofs [pureF, runF, fVar, fC, fBin, gI, gI0, gAdd, gSub, gMul, gDiv, gMod, gPow, gAnd, gOr, gXor, gShl, gShr, gLt, gLe, gGt, gGe, fTst, asB, fChain, fNotT, fAndT, fOrT, fNotV, fAndV, fOrV, fIf, fIsN, isNon, fIfS, fSeq, fNx, fCt, fRet, fRetN, fDrop, fAsg, Tg.run, setAll, fCall, fCons, fNil, fTup, fLst, fNew, fMt, isLst, lstV, seqV, objL, gAppend, gExtend, gIx, fSl, gSl, fO, fNoO, fRev, fWR1, fWR2, fWL, wkSeq, fWT, wkTup, allw, fFor, fCallP, fCallS, clL, clD, clK, fVarZ, frzG, fRaise, fSetIx, fPar, gSetL, fAug, gLen, gList, gListN, gTuple, gInt, gIsi, tyOf, isTy, sizeLine, CPow, gIAdd, gAddN, wkEnumL, wkEnumT, fWEL, fWET, fNeg, fCallK, gSumT, gSumL, lsV, fWR3, fCallNP, g_law_wrong, b_law_wrong, l2]

def b_law_bent : DS → R Fl :=
  (fSeq (fIfS (fTst (fBin (fVar 1) (fLst fNil) gEq)) (fRet (fVar 1)) fNx)
    (fSeq (fAsg (fCallS 2 (fCons (fVar 0) (fCons (fCall (fCons (fVar 1) fNil) gLen) fNil)) [] g_law_pull) (.one 2))
    (fSeq (fAsg (fCallS 2 (fCons (fVar 0) (fCons (fCall (fCons (fVar 1) fNil) gLen) fNil)) [] g_law_pull) (.one 3))
    (fSeq (fAsg (fBin (fVar 1) (fVar 2) gIx) (.many [4, 5, 6, 7]))
    (fSeq (fAsg (fCallS 2 (fCons (fVar 0) (fCons (fC (.int 8)) fNil)) [] g_law_pull) (.one 8))
    (fSeq (fIfS (fTst (fBin (fVar 8) (fC (.int 0)) gEq)) (fRet (fBin (fSl (fVar 1) fNoO (fO (fVar 2))) (fSl (fVar 1) (fO (fBin (fVar 2) (fC (.int 1)) gAdd)) fNoO) gAdd)) fNx)
    (fSeq (fIfS (fTst (fBin (fVar 8) (fC (.int 1)) gEq)) (fRet (fBin (fBin (fSl (fVar 1) fNoO (fO (fVar 2))) (fLst (fCons (fBin (fVar 1) (fVar 2) gIx) fNil)) gAdd) (fSl (fVar 1) (fO (fVar 2)) fNoO) gAdd)) fNx)
    (fSeq (fAsg (fCall (fCons (fVar 1) fNil) gListN) (.one 9))
    (fSeq (fIfS (fTst (fBin (fVar 8) (fC (.int 2)) gEq)) (fAsgW (fTup (fCons (fBin (fVar 9) (fVar 3) gIx) (fCons (fBin (fVar 9) (fVar 2) gIx) fNil))) (wtTup 2 (wtCons (wtSub (fVar 9) (fVar 2) gSetL) (wtCons (wtSub (fVar 9) (fVar 3) gSetL) wtNil)))) fNx)
    (fSeq (fIfS (fTst (fBin (fVar 8) (fC (.int 3)) gEq)) (fSetIx (fTup (fCons (fBin (fVar 4) (fBin (fLst (fCons (fC (.int 1)) (fCons (fBin (fC (.int 0)) (fC (.int 1)) gSub) (fCons (fC (.int 2048)) fNil)))) (fCallS 2 (fCons (fVar 0) (fCons (fC (.int 3)) fNil)) [] g_law_pull) gIx) gAdd) (fCons (fVar 5) (fCons (fVar 6) (fCons (fVar 7) fNil))))) (fVar 9) (fVar 2) gSetL) fNx)
    (fSeq (fIfS (fTst (fBin (fVar 8) (fC (.int 4)) gEq)) (fSetIx (fTup (fCons (fVar 4) (fCons (fCallS 2 (fCons (fVar 0) (fCons (fLst (fCons (fC (.str "host")) (fCons (fC (.str "thing")) (fCons (fC (.str "")) (fCons (fC (.str "hub")) fNil))))) fNil)) [] g_law_one) (fCons (fVar 6) (fCons (fVar 7) fNil))))) (fVar 9) (fVar 2) gSetL) fNx)
    (fSeq (fIfS (fTst (fBin (fVar 8) (fC (.int 5)) gEq)) (fSetIx (fTup (fCons (fVar 4) (fCons (fVar 5) (fCons (fVar 6) (fCons (fNotV (fVar 7)) fNil))))) (fVar 9) (fVar 2) gSetL) fNx)
    (fSeq (fIfS (fTst (fBin (fVar 8) (fC (.int 6)) gEq)) (fSetIx (fTup (fCons (fVar 4) (fCons (fVar 5) (fCons (fBin (fTup (fCons (fCallS 2 (fCons (fVar 0) (fCons (fLst (fCons (fC (.str "ack")) (fCons (fC (.str "")) (fCons (fC (.str "stall")) (fCons (fC (.str "token")) fNil))))) fNil)) [] g_law_one) fNil)) (fSl (fVar 6) (fO (fC (.int 1))) fNoO) gAdd) (fCons (fVar 7) fNil))))) (fVar 9) (fVar 2) gSetL) fNx)
    (fSeq (fIfS (fAndT (fTst (fBin (fVar 8) (fC (.int 7)) gEq)) (fTst (fBin (fCall (fCons (fVar 6) fNil) gLen) (fC (.int 1)) gGt))) (fSetIx (fTup (fCons (fVar 4) (fCons (fVar 5) (fCons (fBin (fBin (fSl (fVar 6) fNoO (fO (fC (.int 1)))) (fTup (fCons (fBin (fBin (fVar 6) (fC (.int 1)) gIx) (fC (.int 128)) gAdd) fNil)) gAdd) (fSl (fVar 6) (fO (fC (.int 2))) fNoO) gAdd) (fCons (fVar 7) fNil))))) (fVar 9) (fVar 2) gSetL) fNx)
    (fRet (fVarZ 9))))))))))))))))
def g_law_bent : GF := cutF (runF 10 b_law_bent)
theorem eq_law_bent : ∀ args μ, args.length = 2 → g_law_bent args μ ≠ .bad → cutF (runF 10 b_law_bent) args μ = g_law_bent args μ := fun _ _ _ _ => rfl

theorem pk_dat {x : Rw} (h : Pk x) : ∀ a ds, x.r = .dat a ds → (∀ d ∈ ds, isByte d) ∧ ds.length ≤ 64 := by
  intro a ds e
  rcases h with ⟨_, a', b', z⟩ | ⟨_, a', z⟩ | ⟨_, a', ds', z, h1, h2⟩ | ⟨_, h⟩
  · rw [z] at e; cases e
  · rw [z] at e; cases e
  · rw [z] at e
    injection e with e1 e2
    subst e2
    exact ⟨h1, h2⟩
  · exact h a ds e
theorem encWL_ok (n : Nat) (xs : List Rw) : okL (n + 4) (xs.map encW) = true := by
  induction xs with
  | nil => rfl
  | cons x xs ih => simp only [List.map_cons, okL, ih, encW_ok, Bool.and_self]
theorem pk_fwc {x y : Rw} (h : Pk x) (hw : y.w = x.w) (hr : y.r = x.r) : Pk y := by
  unfold Pk at *
  rw [hw, hr]
  exact h
def addR : Rs → Rs
  | .z => .z
  | .one a => .one (a + 128)
  | .two a b => .two (a + 128) b
  | .dat a ds => .dat (a + 128) ds
theorem pk_add {x : Rw} (h : Pk x) (f : Int) (who : String) (c : Bool) : Pk ⟨f, who, x.w, addR x.r, c⟩ := by
  rcases h with ⟨h, a', b', z⟩ | ⟨h, a', z⟩ | ⟨h, a', ds', z, h1⟩ | ⟨h, hd⟩
  · exact .inl ⟨h, a' + 128, b', by rw [z]; rfl⟩
  · exact .inr (.inl ⟨h, a' + 128, by rw [z]; rfl⟩)
  · exact .inr (.inr (.inl ⟨h, a' + 128, ds', by rw [z]; rfl, h1⟩))
  · refine .inr (.inr (.inr ⟨h, fun a ds e => ?_⟩))
    cases q : x.r with
    | dat a0 ds0 =>
      rw [q] at e
      simp only [addR] at e
      injection e with e1 e2
      subst e2
      exact hd _ _ q
    | _ => rw [q] at e; cases e
theorem law_bent_ex (xs : List Rw) (hp : ∀ x ∈ xs, Pk x) (hl : xs.length ≤ 2000) (b : Bag) (hi : 0 ≤ b.i) : ∃ (ys : List Rw) (b' : Bag), (∀ x ∈ ys, Pk x) ∧ ys.length ≤ xs.length + 1 ∧ 0 ≤ b'.i ∧ g_law_bent [.obj 0, .lst (xs.map encW)] [b.mo] = .ok (.lst (ys.map encW)) ⟨[], [b'.mo]⟩ := by
  have hok := encWL_ok 59 xs
  have heq : ∀ s : DS, gEq (.lst (xs.map encW)) (.lst []) s = .ok (.bl xs.isEmpty) s := fun s => by
    rw [gEq_ok (by simpa [okD] using hok) (by simp [okD, okL])]
    congr 2
    cases xs <;> rfl
  have hcx := encL_clW 1 xs
  have hb := bag_cl
  by_cases he : xs = []
  · subst he
    refine ⟨[], b, by simp, by simp, hi, ?_⟩
    simp only [List.map_nil, List.isEmpty_nil] at *
    simp -dsimp -implicitDefEqProofs [pureF, runF, fVar, fC, fBin, gI, gI0, gAdd, gSub, gMul, gDiv, gMod, gPow, gAnd, gOr, gXor, gShl, gShr, gLt, gLe, gGt, gGe, fTst, asB, fChain, fNotT, fAndT, fOrT, fNotV, fAndV, fOrV, fIf, fIsN, isNon, fIfS, fSeq, fNx, fCt, fRet, fRetN, fDrop, fAsg, Tg.run, setAll, fCall, fCons, fNil, fTup, fLst, fNew, fMt, isLst, lstV, seqV, objL, gAppend, gExtend, gIx, fSl, gSl, fO, fNoO, fRev, fWR1, fWR2, fWL, wkSeq, fWT, wkTup, allw, fFor, fCallP, fCallS, clL, clD, clK, fVarZ, frzG, fRaise, fSetIx, fPar, gSetL, fAug, gLen, gList, gListN, gTuple, gInt, gIsi, tyOf, isTy, sizeLine, CPow, gIAdd, gAddN, wkEnumL, wkEnumT, fWEL, fWET, fNeg, fCallK, gSumT, gSumL, lsV, fWR3, fCallNP, g_law_bent, cutF, b_law_bent, heq, hb]
  · have hne : xs.isEmpty = false := by cases xs <;> simp_all
    rw [hne] at heq
    have hpos : 0 < xs.length := List.length_pos_iff.mpr he
    have hlx : (xs.map encW).length = xs.length := by simp
    obtain ⟨v1, b1, i1, l1, u1, p1⟩ := pull_ex b xs.length hi (by omega) (by omega)
    obtain ⟨v2, b2, i2, l2, u2, p2⟩ := pull_ex b1 xs.length i1 (by omega) (by omega)
    obtain ⟨v3, b3, i3, l3, u3, p3⟩ := pull_ex b2 8 i2 (by omega) (by omega)
    obtain ⟨n, rfl⟩ : ∃ n : Nat, v1 = (n : Int) := ⟨v1.toNat, (Int.toNat_of_nonneg l1).symm⟩
    obtain ⟨m, rfl⟩ : ∃ n : Nat, v2 = (n : Int) := ⟨v2.toNat, (Int.toNat_of_nonneg l2).symm⟩
    have hn : n < xs.length := by omega
    have hm : m < xs.length := by omega
    have hx := List.getElem?_eq_getElem hn
    have hy := List.getElem?_eq_getElem hm
    have px := hp _ (List.getElem_mem hn)
    have py := hp _ (List.getElem_mem hm)
    generalize xs[n] = x at *
    generalize xs[m] = y at *
    have a1 : L2.atI (xs.map encW) (n : Int) = some (encW x) := atI_nat (by rw [List.getElem?_map, hx]; rfl)
    have a2 : L2.atI (xs.map encW) (m : Int) = some (encW y) := atI_nat (by rw [List.getElem?_map, hy]; rfl)
    have n1 : ixN xs.length (n : Int) = some n := by
      unfold ixN
      rw [if_pos (by omega), if_pos (by omega)]
      rfl
    have n2 : ixN xs.length (m : Int) = some m := by
      unfold ixN
      rw [if_pos (by omega), if_pos (by omega)]
      rfl
    have hE : encW x = .tup [.int x.f, .str (x.who : Str), .tup (.str (x.w : Str) :: encR x.r), .bl x.c] := rfl
    have hset : ∀ z : Rw, (xs.map encW).set n (encW z) = (xs.set n z).map encW := fun z => by rw [List.map_set]
    have hcs : ∀ zs : List Rw, clL 1 (zs.map encW) = true := encL_clW 1
    have one_set : ∀ z : Rw, Pk z → ∀ w ∈ xs.set n z, Pk w := fun z hz w hw => by
      rcases List.mem_or_eq_of_mem_set hw with h | h
      · exact hp w h
      · rw [h]; exact hz
    have hv : v3 = 0 ∨ v3 = 1 ∨ v3 = 2 ∨ v3 = 3 ∨ v3 = 4 ∨ v3 = 5 ∨ v3 = 6 ∨ v3 = 7 := by omega
    clear l3 u3
    have c1 := cut_to (xs.map encW) (n : Int) (by omega) (by rw [hlx]; omega)
    have c2 := cut_from (xs.map encW) (n : Int) (by omega)
    have c3 := cut_from (xs.map encW) ((n : Int) + 1) (by omega)
    rw [← List.map_take] at c1
    rw [← List.map_drop] at c2 c3
    simp only [Int.toNat_natCast] at c1 c2
    rw [show ((n : Int) + 1).toNat = n + 1 by omega] at c3
    rcases hv with rfl | rfl | rfl | rfl | rfl | rfl | rfl | rfl
    · refine ⟨xs.take n ++ xs.drop (n + 1), b3, fun w hw => (List.mem_append.mp hw).elim (fun h => hp w (List.mem_of_mem_take h)) (fun h => hp w (List.mem_of_mem_drop h)), by simp; omega, i3, ?_⟩
      have hz : ((xs.take n).map encW).length + ((xs.drop (n + 1)).map encW).length ≤ 16777216 := by simp; omega
      have hc' := hcs (xs.take n ++ xs.drop (n + 1))
      rw [List.map_append] at hc' ⊢
      rw [hE] at a1
      generalize (xs.take n).map encW = X1 at *
      generalize (xs.drop (n + 1)).map encW = X2 at *
      generalize encR x.r = RR at *
      generalize xs.map encW = X at *
      simp -dsimp -implicitDefEqProofs [pureF, runF, fVar, fC, fBin, gI, gI0, gAdd, gSub, gMul, gDiv, gMod, gPow, gAnd, gOr, gXor, gShl, gShr, gLt, gLe, gGt, gGe, fTst, asB, fChain, fNotT, fAndT, fOrT, fNotV, fAndV, fOrV, fIf, fIsN, isNon, fIfS, fSeq, fNx, fCt, fRet, fRetN, fDrop, fAsg, Tg.run, setAll, fCall, fCons, fNil, fTup, fLst, fNew, fMt, isLst, lstV, seqV, objL, gAppend, gExtend, gIx, fSl, gSl, fO, fNoO, fRev, fWR1, fWR2, fWL, wkSeq, fWT, wkTup, allw, fFor, fCallP, fCallS, clL, clD, clK, fVarZ, frzG, fRaise, fSetIx, fPar, gSetL, fAug, gLen, gList, gListN, gTuple, gInt, gIsi, tyOf, isTy, sizeLine, CPow, gIAdd, gAddN, wkEnumL, wkEnumT, fWEL, fWET, fNeg, fCallK, gSumT, gSumL, lsV, fWR3, fCallNP, g_law_bent, cutF, b_law_bent, heq, hlx, p1, p2, p3, a1, c1, c3, hz, hc', hb]
    · refine ⟨xs.take n ++ x :: xs.drop n, b3, fun w hw => ?_, by simp; omega, i3, ?_⟩
      · rcases List.mem_append.mp hw with h | h
        · exact hp w (List.mem_of_mem_take h)
        · rcases List.mem_cons.mp h with h | h
          · rw [h]; exact px
          · exact hp w (List.mem_of_mem_drop h)
      have hz : ((xs.take n).map encW).length + 1 ≤ 16777216 := by simp; omega
      have hz2 : ((xs.take n).map encW).length + (1 + ((xs.drop n).map encW).length) ≤ 16777216 := by simp; omega
      have hz3 : ((xs.take n).map encW).length + 1 + ((xs.drop n).map encW).length ≤ 16777216 := by simp; omega
      have hc' := hcs (xs.take n ++ x :: xs.drop n)
      rw [List.map_append, List.map_cons, hE] at hc' ⊢
      rw [hE] at a1
      have hRR := encR_cl 1 x.r
      generalize (xs.take n).map encW = X1 at *
      generalize (xs.drop n).map encW = X2 at *
      generalize encR x.r = RR at *
      generalize xs.map encW = X at *
      simp only [clL_append, clL, Bool.and_eq_true] at hc'
      simp -dsimp -implicitDefEqProofs [pureF, runF, fVar, fC, fBin, gI, gI0, gAdd, gSub, gMul, gDiv, gMod, gPow, gAnd, gOr, gXor, gShl, gShr, gLt, gLe, gGt, gGe, fTst, asB, fChain, fNotT, fAndT, fOrT, fNotV, fAndV, fOrV, fIf, fIsN, isNon, fIfS, fSeq, fNx, fCt, fRet, fRetN, fDrop, fAsg, Tg.run, setAll, fCall, fCons, fNil, fTup, fLst, fNew, fMt, isLst, lstV, seqV, objL, gAppend, gExtend, gIx, fSl, gSl, fO, fNoO, fRev, fWR1, fWR2, fWL, wkSeq, fWT, wkTup, allw, fFor, fCallP, fCallS, clL, clD, clK, fVarZ, frzG, fRaise, fSetIx, fPar, gSetL, fAug, gLen, gList, gListN, gTuple, gInt, gIsi, tyOf, isTy, sizeLine, CPow, gIAdd, gAddN, wkEnumL, wkEnumT, fWEL, fWET, fNeg, fCallK, gSumT, gSumL, lsV, fWR3, fCallNP, g_law_bent, cutF, b_law_bent, heq, hlx, p1, p2, p3, a1, c1, c2, hz, hz2, hz3, hc', hb, clL_append, hRR]
    · refine ⟨(xs.set n y).set m x, b3, fun w hw => ?_, by simp, i3, ?_⟩
      · rcases List.mem_or_eq_of_mem_set hw with h | h
        · exact one_set y py w h
        · rw [h]; exact px
      have hs2 : ((xs.map encW).set n (encW y)).set m (encW x) = ((xs.set n y).set m x).map encW := by rw [List.map_set, List.map_set]
      have hc' := hcs ((xs.set n y).set m x)
      rw [← hs2] at hc' ⊢
      have hF : encW y = .tup [.int y.f, .str (y.who : Str), .tup (.str (y.w : Str) :: encR y.r), .bl y.c] := rfl
      have n3 : ixN ((xs.map encW).set n (encW y)).length (m : Int) = some m := by rw [List.length_set, hlx]; exact n2
      rw [hE] at a1 hc' ⊢
      rw [hF] at a2 hc' n3 ⊢
      generalize encR x.r = RR at *
      generalize encR y.r = RY at *
      generalize xs.map encW = X at *
      simp -dsimp -implicitDefEqProofs [pureF, runF, fVar, fC, fBin, gI, gI0, gAdd, gSub, gMul, gDiv, gMod, gPow, gAnd, gOr, gXor, gShl, gShr, gLt, gLe, gGt, gGe, fTst, asB, fChain, fNotT, fAndT, fOrT, fNotV, fAndV, fOrV, fIf, fIsN, isNon, fIfS, fSeq, fNx, fCt, fRet, fRetN, fDrop, fAsg, Tg.run, setAll, fCall, fCons, fNil, fTup, fLst, fNew, fMt, isLst, lstV, seqV, objL, gAppend, gExtend, gIx, fSl, gSl, fO, fNoO, fRev, fWR1, fWR2, fWL, wkSeq, fWT, wkTup, allw, fFor, fCallP, fCallS, clL, clD, clK, fVarZ, frzG, fRaise, fSetIx, fPar, gSetL, fAug, gLen, gList, gListN, gTuple, gInt, gIsi, tyOf, isTy, sizeLine, CPow, gIAdd, gAddN, wkEnumL, wkEnumT, fWEL, fWET, fNeg, fCallK, gSumT, gSumL, lsV, fWR3, fCallNP, g_law_bent, cutF, b_law_bent, heq, hlx, p1, p2, p3, a1, a2, n1, n2, n3, gListN, fAsgW, wtTup, wtCons, wtSub, wtNil, nxU, hc', hb]
    · obtain ⟨v4, b4, i4, l4, u4, p4⟩ := pull_ex b3 3 i3 (by omega) (by omega)
      obtain ⟨d, hd, e4⟩ := atI_pick [.int 1, .int (-1), .int 2048] v4 l4 u4
      obtain ⟨o, rfl⟩ : ∃ o : Int, d = .int o := by
        simp only [List.mem_cons, List.not_mem_nil, or_false] at hd
        rcases hd with rfl | rfl | rfl <;> exact ⟨_, rfl⟩
      clear hd
      have h1 := hset ⟨x.f + o, x.who, x.w, x.r, x.c⟩
      refine ⟨xs.set n ⟨x.f + o, x.who, x.w, x.r, x.c⟩, b4, one_set _ (pk_fwc px rfl rfl), by simp, i4, ?_⟩
      have hc' := hcs (xs.set n ⟨x.f + o, x.who, x.w, x.r, x.c⟩)
      have hE2 : encW ⟨x.f + o, x.who, x.w, x.r, x.c⟩ = .tup [.int (x.f + o), .str (x.who : Str), .tup (.str (x.w : Str) :: encR x.r), .bl x.c] := rfl
      rw [← h1, hE2] at hc' ⊢
      rw [hE] at a1
      clear h1 hset hcs one_set hE2
      generalize encR x.r = RR at *
      generalize xs.map encW = X at *
      simp -dsimp -implicitDefEqProofs [pureF, runF, fVar, fC, fBin, gI, gI0, gAdd, gSub, gMul, gDiv, gMod, gPow, gAnd, gOr, gXor, gShl, gShr, gLt, gLe, gGt, gGe, fTst, asB, fChain, fNotT, fAndT, fOrT, fNotV, fAndV, fOrV, fIf, fIsN, isNon, fIfS, fSeq, fNx, fCt, fRet, fRetN, fDrop, fAsg, Tg.run, setAll, fCall, fCons, fNil, fTup, fLst, fNew, fMt, isLst, lstV, seqV, objL, gAppend, gExtend, gIx, fSl, gSl, fO, fNoO, fRev, fWR1, fWR2, fWL, wkSeq, fWT, wkTup, allw, fFor, fCallP, fCallS, clL, clD, clK, fVarZ, frzG, fRaise, fSetIx, fPar, gSetL, fAug, gLen, gList, gListN, gTuple, gInt, gIsi, tyOf, isTy, sizeLine, CPow, gIAdd, gAddN, wkEnumL, wkEnumT, fWEL, fWET, fNeg, fCallK, gSumT, gSumL, lsV, fWR3, fCallNP, g_law_bent, cutF, b_law_bent, heq, hlx, p1, p2, p3, a1, n1, gListN, hc', hb, p4, e4]
    · obtain ⟨d, b4, hd, i4, e4⟩ := one_ex (g_law_one := g_law_one) (b_law_one := b_law_one) rfl rfl b3 i3 (.lst [.str ("host" : Str), .str ("thing" : Str), .str ("" : Str), .str ("hub" : Str)]) _ (.inl rfl) (by decide) (by decide)
      obtain ⟨w, rfl⟩ : ∃ w : String, d = .str (w : Str) := by
        simp only [List.mem_cons, List.not_mem_nil, or_false] at hd
        rcases hd with rfl | rfl | rfl | rfl <;> exact ⟨_, rfl⟩
      clear hd
      have h1 := hset ⟨x.f, w, x.w, x.r, x.c⟩
      refine ⟨xs.set n ⟨x.f, w, x.w, x.r, x.c⟩, b4, one_set _ (pk_fwc px rfl rfl), by simp, i4, ?_⟩
      have hc' := hcs (xs.set n ⟨x.f, w, x.w, x.r, x.c⟩)
      have hE2 : encW ⟨x.f, w, x.w, x.r, x.c⟩ = .tup [.int x.f, .str (w : Str), .tup (.str (x.w : Str) :: encR x.r), .bl x.c] := rfl
      rw [← h1, hE2] at hc' ⊢
      rw [hE] at a1
      clear h1 hset hcs one_set hE2
      generalize encR x.r = RR at *
      generalize xs.map encW = X at *
      simp -dsimp -implicitDefEqProofs [pureF, runF, fVar, fC, fBin, gI, gI0, gAdd, gSub, gMul, gDiv, gMod, gPow, gAnd, gOr, gXor, gShl, gShr, gLt, gLe, gGt, gGe, fTst, asB, fChain, fNotT, fAndT, fOrT, fNotV, fAndV, fOrV, fIf, fIsN, isNon, fIfS, fSeq, fNx, fCt, fRet, fRetN, fDrop, fAsg, Tg.run, setAll, fCall, fCons, fNil, fTup, fLst, fNew, fMt, isLst, lstV, seqV, objL, gAppend, gExtend, gIx, fSl, gSl, fO, fNoO, fRev, fWR1, fWR2, fWL, wkSeq, fWT, wkTup, allw, fFor, fCallP, fCallS, clL, clD, clK, fVarZ, frzG, fRaise, fSetIx, fPar, gSetL, fAug, gLen, gList, gListN, gTuple, gInt, gIsi, tyOf, isTy, sizeLine, CPow, gIAdd, gAddN, wkEnumL, wkEnumT, fWEL, fWET, fNeg, fCallK, gSumT, gSumL, lsV, fWR3, fCallNP, g_law_bent, cutF, b_law_bent, heq, hlx, p1, p2, p3, a1, n1, gListN, hc', hb, e4]
    · skip
      have h1 := hset ⟨x.f, x.who, x.w, x.r, !x.c⟩
      refine ⟨xs.set n ⟨x.f, x.who, x.w, x.r, !x.c⟩, b3, one_set _ (pk_fwc px rfl rfl), by simp, i3, ?_⟩
      have hc' := hcs (xs.set n ⟨x.f, x.who, x.w, x.r, !x.c⟩)
      have hE2 : encW ⟨x.f, x.who, x.w, x.r, !x.c⟩ = .tup [.int x.f, .str (x.who : Str), .tup (.str (x.w : Str) :: encR x.r), .bl (!x.c)] := rfl
      rw [← h1, hE2] at hc' ⊢
      rw [hE] at a1
      clear h1 hset hcs one_set hE2
      generalize encR x.r = RR at *
      generalize xs.map encW = X at *
      simp -dsimp -implicitDefEqProofs [pureF, runF, fVar, fC, fBin, gI, gI0, gAdd, gSub, gMul, gDiv, gMod, gPow, gAnd, gOr, gXor, gShl, gShr, gLt, gLe, gGt, gGe, fTst, asB, fChain, fNotT, fAndT, fOrT, fNotV, fAndV, fOrV, fIf, fIsN, isNon, fIfS, fSeq, fNx, fCt, fRet, fRetN, fDrop, fAsg, Tg.run, setAll, fCall, fCons, fNil, fTup, fLst, fNew, fMt, isLst, lstV, seqV, objL, gAppend, gExtend, gIx, fSl, gSl, fO, fNoO, fRev, fWR1, fWR2, fWL, wkSeq, fWT, wkTup, allw, fFor, fCallP, fCallS, clL, clD, clK, fVarZ, frzG, fRaise, fSetIx, fPar, gSetL, fAug, gLen, gList, gListN, gTuple, gInt, gIsi, tyOf, isTy, sizeLine, CPow, gIAdd, gAddN, wkEnumL, wkEnumT, fWEL, fWET, fNeg, fCallK, gSumT, gSumL, lsV, fWR3, fCallNP, g_law_bent, cutF, b_law_bent, heq, hlx, p1, p2, p3, a1, n1, gListN, hc', hb, Bool.not_eq_eq_eq_not]
    · obtain ⟨d, b4, hd, i4, e4⟩ := one_ex (g_law_one := g_law_one) (b_law_one := b_law_one) rfl rfl b3 i3 (.lst [.str ("ack" : Str), .str ("" : Str), .str ("stall" : Str), .str ("token" : Str)]) _ (.inl rfl) (by decide) (by decide)
      obtain ⟨w, rfl, hw⟩ : ∃ w : String, d = .str (w : Str) ∧ (w = "ack" ∨ w = "nak" ∨ w = "stall" ∨ w = "" ∨ w = "token") := by
        simp only [List.mem_cons, List.not_mem_nil, or_false] at hd
        rcases hd with rfl | rfl | rfl | rfl
        · exact ⟨_, rfl, .inl rfl⟩
        · exact ⟨_, rfl, .inr (.inr (.inr (.inl rfl)))⟩
        · exact ⟨_, rfl, .inr (.inr (.inl rfl))⟩
        · exact ⟨_, rfl, .inr (.inr (.inr (.inr rfl)))⟩
      clear hd
      have hcut : cutG (D.str (x.w : Str) :: encR x.r) (some 1) none = encR x.r := by
        rw [cut_from _ 1 (by decide)]
        rfl
      have hrl : 1 + (encR x.r).length ≤ 16777216 := by cases x.r <;> simp [encR]
      have h1 := hset ⟨x.f, x.who, w, x.r, x.c⟩
      refine ⟨xs.set n ⟨x.f, x.who, w, x.r, x.c⟩, b4, one_set _ (.inr (.inr (.inr ⟨hw, fun a ds e => pk_dat px a ds e⟩))), by simp, i4, ?_⟩
      have hc' := hcs (xs.set n ⟨x.f, x.who, w, x.r, x.c⟩)
      have hE2 : encW ⟨x.f, x.who, w, x.r, x.c⟩ = .tup [.int x.f, .str (x.who : Str), .tup (.str (w : Str) :: encR x.r), .bl x.c] := rfl
      rw [← h1, hE2] at hc' ⊢
      rw [hE] at a1
      clear h1 hset hcs one_set hE2
      generalize encR x.r = RR at *
      generalize xs.map encW = X at *
      simp -dsimp -implicitDefEqProofs [pureF, runF, fVar, fC, fBin, gI, gI0, gAdd, gSub, gMul, gDiv, gMod, gPow, gAnd, gOr, gXor, gShl, gShr, gLt, gLe, gGt, gGe, fTst, asB, fChain, fNotT, fAndT, fOrT, fNotV, fAndV, fOrV, fIf, fIsN, isNon, fIfS, fSeq, fNx, fCt, fRet, fRetN, fDrop, fAsg, Tg.run, setAll, fCall, fCons, fNil, fTup, fLst, fNew, fMt, isLst, lstV, seqV, objL, gAppend, gExtend, gIx, fSl, gSl, fO, fNoO, fRev, fWR1, fWR2, fWL, wkSeq, fWT, wkTup, allw, fFor, fCallP, fCallS, clL, clD, clK, fVarZ, frzG, fRaise, fSetIx, fPar, gSetL, fAug, gLen, gList, gListN, gTuple, gInt, gIsi, tyOf, isTy, sizeLine, CPow, gIAdd, gAddN, wkEnumL, wkEnumT, fWEL, fWET, fNeg, fCallK, gSumT, gSumL, lsV, fWR3, fCallNP, g_law_bent, cutF, b_law_bent, heq, hlx, p1, p2, p3, a1, n1, gListN, hc', hb, e4, hcut, hrl]
    · by_cases hz : x.r = .z
      · refine ⟨xs, b3, hp, by simp, i3, ?_⟩
        rw [hE, hz] at a1
        simp only [encR] at a1
        generalize xs.map encW = X at *
        simp -dsimp -implicitDefEqProofs [pureF, runF, fVar, fC, fBin, gI, gI0, gAdd, gSub, gMul, gDiv, gMod, gPow, gAnd, gOr, gXor, gShl, gShr, gLt, gLe, gGt, gGe, fTst, asB, fChain, fNotT, fAndT, fOrT, fNotV, fAndV, fOrV, fIf, fIsN, isNon, fIfS, fSeq, fNx, fCt, fRet, fRetN, fDrop, fAsg, Tg.run, setAll, fCall, fCons, fNil, fTup, fLst, fNew, fMt, isLst, lstV, seqV, objL, gAppend, gExtend, gIx, fSl, gSl, fO, fNoO, fRev, fWR1, fWR2, fWL, wkSeq, fWT, wkTup, allw, fFor, fCallP, fCallS, clL, clD, clK, fVarZ, frzG, fRaise, fSetIx, fPar, gSetL, fAug, gLen, gList, gListN, gTuple, gInt, gIsi, tyOf, isTy, sizeLine, CPow, gIAdd, gAddN, wkEnumL, wkEnumT, fWEL, fWET, fNeg, fCallK, gSumT, gSumL, lsV, fWR3, fCallNP, g_law_bent, cutF, b_law_bent, heq, hlx, p1, p2, p3, a1, n1, gListN, hcx, hb]
      · have h1 := hset ⟨x.f, x.who, x.w, addR x.r, x.c⟩
        refine ⟨xs.set n ⟨x.f, x.who, x.w, addR x.r, x.c⟩, b3, one_set _ (pk_add px _ _ _), by simp, i3, ?_⟩
        have hc' := hcs (xs.set n ⟨x.f, x.who, x.w, addR x.r, x.c⟩)
        have hE2 : encW ⟨x.f, x.who, x.w, addR x.r, x.c⟩ = .tup [.int x.f, .str (x.who : Str), .tup (.str (x.w : Str) :: encR (addR x.r)), .bl x.c] := rfl
        obtain ⟨a, rest, e1, e2, hrl⟩ : ∃ (a : Int) (rest : List D), encR x.r = .int a :: rest ∧ encR (addR x.r) = .int (a + 128) :: rest ∧ rest.length ≤ 1 := by
          cases q : x.r with
          | z => exact absurd q hz
          | one a => exact ⟨a, [], rfl, rfl, by simp⟩
          | two a b => exact ⟨a, [.int b], rfl, rfl, by simp⟩
          | dat a ds => exact ⟨a, [.tup (ds.map .int)], rfl, rfl, by simp⟩
        rw [← h1, hE2, e2] at hc' ⊢
        rw [hE, e1] at a1
        have k1 : cutG (D.str (x.w : Str) :: .int a :: rest) none (some 1) = [.str (x.w : Str)] := by
          rw [cut_to _ 1 (by decide) (by simp; omega)]
          rfl
        have k2 : cutG (D.str (x.w : Str) :: .int a :: rest) (some 2) none = rest := by
          rw [cut_from _ 2 (by decide)]
          rfl
        have k3 := at1L (.str (x.w : Str)) (.int a) rest
        have k4 : (1 : Int) < (rest.length : Int) + 1 + 1 := by omega
        have k6 : (1 : Int) ≤ (rest.length : Int) + 1 + 1 := by omega
        have k5 : 2 + rest.length ≤ 16777216 := by omega
        clear h1 hset hcs one_set hE2 e1 e2
        generalize xs.map encW = X at *
        simp -dsimp -implicitDefEqProofs [pureF, runF, fVar, fC, fBin, gI, gI0, gAdd, gSub, gMul, gDiv, gMod, gPow, gAnd, gOr, gXor, gShl, gShr, gLt, gLe, gGt, gGe, fTst, asB, fChain, fNotT, fAndT, fOrT, fNotV, fAndV, fOrV, fIf, fIsN, isNon, fIfS, fSeq, fNx, fCt, fRet, fRetN, fDrop, fAsg, Tg.run, setAll, fCall, fCons, fNil, fTup, fLst, fNew, fMt, isLst, lstV, seqV, objL, gAppend, gExtend, gIx, fSl, gSl, fO, fNoO, fRev, fWR1, fWR2, fWL, wkSeq, fWT, wkTup, allw, fFor, fCallP, fCallS, clL, clD, clK, fVarZ, frzG, fRaise, fSetIx, fPar, gSetL, fAug, gLen, gList, gListN, gTuple, gInt, gIsi, tyOf, isTy, sizeLine, CPow, gIAdd, gAddN, wkEnumL, wkEnumT, fWEL, fWET, fNeg, fCallK, gSumT, gSumL, lsV, fWR3, fCallNP, g_law_bent, cutF, b_law_bent, heq, hlx, p1, p2, p3, a1, n1, gListN, hc', hb, k1, k2, k3, k4, k5]

def lb_law_0 : DS → R Fl := (fAsg (fCallS 2 (fCons (fVar 1) (fCons (fVar 3) fNil)) [] g_law_bent) (.one 3))
def lb_law_1 : DS → R Fl := (fSeq (fAsg (fCallS 1 (fCons (fVar 1) fNil) [] g_law_made) (.one 3))
    (fSeq (fFor (fWR1 (fCons (fCallS 2 (fCons (fVar 1) (fCons (fC (.int 3)) fNil)) [] g_law_pull) fNil)) (.one 4) lb_law_0)
    (fSeq (fAsg (fCall (fCons (fVar 3) fNil) gList) (.one 5))
    (fIfS (fOrT (fNotT (fTst (fCallP 2 (fCons (fCallP 1 (fCons (fVar 5) fNil) [] g_first_wrong) (fCons (fCallP 1 (fCons (fVar 3) fNil) [] g_law_wrong) fNil)) [] g_law_same))) (fTst (fBin (fVar 5) (fVar 3) gNe))) (fRet (fC (.bl false))) fNx))))
def b_law : DS → R Fl :=
  (fSeq (fAsg (fCallS 1 (fCons (fVar 0) fNil) [] g_law_bag) (.one 1))
    (fSeq (fFor (fWR1 (fCons (fC (.int 3)) fNil)) (.one 2) lb_law_1)
    (fRet (fC (.bl true)))))
theorem turn22 (a0 : D) (i : Int) (x3 x4 x5 : Option D) (b : Bag) (hi : 0 ≤ b.i) : ∃ (b' : Bag) (y3 y4 y5 : Option D), 0 ≤ b'.i ∧ lb_law_1 ⟨[some a0, some (.obj 0), some (.int i), x3, x4, x5], [b.mo]⟩ = .ok .nx ⟨[some a0, some (.obj 0), some (.int i), y3, y4, y5], [b'.mo]⟩ := by
  obtain ⟨xs, b1, h1, h2, i1, e1⟩ := law_made_ex b hi
  obtain ⟨v2, b2, i2, l2, u2, p2⟩ := pull_ex b1 3 i1 (by omega) (by omega)
  have hw := fun s => wkR1_int v2 s l2 (by omega)
  obtain ⟨s', l1, ys, b3, y4, k1, k2, k3, hs⟩ := loop_rng (step := fStep (.one 4) lb_law_0) (fun j s => ∃ (ys : List Rw) (b' : Bag) (y4 : Option D), (∀ x ∈ ys, Pk x) ∧ ys.length ≤ 1300 + j ∧ 0 ≤ b'.i ∧ s = ⟨[some a0, some (.obj 0), some (.int i), some (.lst (ys.map encW)), y4, x5], [b'.mo]⟩) v2.toNat
    (fun j s hj ⟨ys, b', y4, k1, k2, k3, hs⟩ => by
      subst hs
      obtain ⟨zs, b4, m1, m2, m3, e4⟩ := law_bent_ex ys k1 (by omega) b' k3
      have e : fStep (.one 4) lb_law_0 (.int j) ⟨[some a0, some (.obj 0), some (.int i), some (.lst (ys.map encW)), y4, x5], [b'.mo]⟩ = .ok .nx ⟨[some a0, some (.obj 0), some (.int i), some (.lst (zs.map encW)), some (.int j), x5], [b4.mo]⟩ := by
        generalize ys.map encW = Y at *
        generalize zs.map encW = Z at *
        simp -dsimp -implicitDefEqProofs [pureF, runF, fVar, fC, fBin, gI, gI0, gAdd, gSub, gMul, gDiv, gMod, gPow, gAnd, gOr, gXor, gShl, gShr, gLt, gLe, gGt, gGe, fTst, asB, fChain, fNotT, fAndT, fOrT, fNotV, fAndV, fOrV, fIf, fIsN, isNon, fIfS, fSeq, fNx, fCt, fRet, fRetN, fDrop, fAsg, Tg.run, setAll, fCall, fCons, fNil, fTup, fLst, fNew, fMt, isLst, lstV, seqV, objL, gAppend, gExtend, gIx, fSl, gSl, fO, fNoO, fRev, fWR1, fWR2, fWL, wkSeq, fWT, wkTup, allw, fFor, fCallP, fCallS, clL, clD, clK, fVarZ, frzG, fRaise, fSetIx, fPar, gSetL, fAug, gLen, gList, gListN, gTuple, gInt, gIsi, tyOf, isTy, sizeLine, CPow, gIAdd, gAddN, wkEnumL, wkEnumT, fWEL, fWET, fNeg, fCallK, gSumT, gSumL, lsV, fWR3, fCallNP, fStep, lb_law_0, e4]
      rw [e]
      exact ⟨.inl rfl, zs, b4, _, m1, by omega, m3, rfl⟩)
    (s := ⟨[some a0, some (.obj 0), some (.int i), some (.lst (xs.map encW)), x4, x5], [b2.mo]⟩) ⟨xs, b2, x4, h1, by omega, i2, rfl⟩
  subst hs
  obtain ⟨n, hn⟩ := wr_ex ys
  have f1 := first_wrong_eq ys k1 n hn
  have f2 := law_wrong_eq ys k1 n hn
  have sm : g_law_same [.int n, .int n] = .ok (.bl true) ⟨[], []⟩ := g_same_refl 4 _ (by simp [okD]) (by simp [sizeOkD])
  have hcl := encL_clW 0 ys
  have hok := encWL_ok 59 ys
  have hne : ∀ s : DS, gNe (.lst (ys.map encW)) (.lst (ys.map encW)) s = .ok (.bl false) s := fun s => gNe_self (by simpa [okD] using hok)
  have hz : (ys.map encW).length ≤ 16777216 := by simp; omega
  refine ⟨b3, some (.lst (ys.map encW)), y4, some (.lst (ys.map encW)), k3, ?_⟩
  clear hok hn
  generalize ys.map encW = Y at *
  generalize xs.map encW = X at *
  simp -dsimp -implicitDefEqProofs [pureF, runF, fVar, fC, fBin, gI, gI0, gAdd, gSub, gMul, gDiv, gMod, gPow, gAnd, gOr, gXor, gShl, gShr, gLt, gLe, gGt, gGe, fTst, asB, fChain, fNotT, fAndT, fOrT, fNotV, fAndV, fOrV, fIf, fIsN, isNon, fIfS, fSeq, fNx, fCt, fRet, fRetN, fDrop, fAsg, Tg.run, setAll, fCall, fCons, fNil, fTup, fLst, fNew, fMt, isLst, lstV, seqV, objL, gAppend, gExtend, gIx, fSl, gSl, fO, fNoO, fRev, fWR1, fWR2, fWL, wkSeq, fWT, wkTup, allw, fFor, fCallP, fCallS, clL, clD, clK, fVarZ, frzG, fRaise, fSetIx, fPar, gSetL, fAug, gLen, gList, gListN, gTuple, gInt, gIsi, tyOf, isTy, sizeLine, CPow, gIAdd, gAddN, wkEnumL, wkEnumT, fWEL, fWET, fNeg, fCallK, gSumT, gSumL, lsV, fWR3, fCallNP, lb_law_1, e1, p2, hw, l1, f1, f2, sm, hcl, hne, hz]
theorem law_true (ns : List Int) (h : ns.length ≤ 63) : ∃ s, runF 6 b_law [.lsr (ns.map D.int)] [] = .ok (.bl true) s := by
  obtain ⟨s', l1, b, x2, x3, x4, x5, hb, l2⟩ := loop_rng (step := fStep (.one 2) lb_law_1) (fun i s => ∃ (b : Bag) (x2 x3 x4 x5 : Option D), 0 ≤ b.i ∧ s = ⟨[some (.lsr (ns.map .int)), some (.obj 0), x2, x3, x4, x5], [b.mo]⟩) 3
    (fun i s hi ⟨b, x2, x3, x4, x5, hb, hs⟩ => by
      subst hs
      obtain ⟨b', y3, y4, y5, hb', e⟩ := turn22 (.lsr (ns.map .int)) i x3 x4 x5 b hb
      have e' : fStep (.one 2) lb_law_1 (.int i) ⟨[some (.lsr (ns.map .int)), some (.obj 0), x2, x3, x4, x5], [b.mo]⟩ = _ := e
      rw [e']
      exact ⟨.inl rfl, b', _, _, _, _, hb', rfl⟩)
    (s := ⟨[some (.lsr (ns.map .int)), some (.obj 0), none, none, none, none], [(bag0 ns).mo]⟩) ⟨bag0 ns, _, _, _, _, by simp [bag0], rfl⟩
  subst l2
  refine ⟨⟨[], [b.mo]⟩, ?_⟩
  have hw := fun s => wkR1_int 3 s (by decide) (by decide)
  rw [show (3 : Int).toNat = 3 from rfl] at hw
  simp -dsimp -implicitDefEqProofs [pureF, runF, fVar, fC, fBin, gI, gI0, gAdd, gSub, gMul, gDiv, gMod, gPow, gAnd, gOr, gXor, gShl, gShr, gLt, gLe, gGt, gGe, fTst, asB, fChain, fNotT, fAndT, fOrT, fNotV, fAndV, fOrV, fIf, fIsN, isNon, fIfS, fSeq, fNx, fCt, fRet, fRetN, fDrop, fAsg, Tg.run, setAll, fCall, fCons, fNil, fTup, fLst, fNew, fMt, isLst, lstV, seqV, objL, gAppend, gExtend, gIx, fSl, gSl, fO, fNoO, fRev, fWR1, fWR2, fWL, wkSeq, fWT, wkTup, allw, fFor, fCallP, fCallS, clL, clD, clK, fVarZ, frzG, fRaise, fSetIx, fPar, gSetL, fAug, gLen, gList, gListN, gTuple, gInt, gIsi, tyOf, isTy, sizeLine, CPow, gIAdd, gAddN, wkEnumL, wkEnumT, fWEL, fWET, fNeg, fCallK, gSumT, gSumL, lsV, fWR3, fCallNP, b_law, g_law_bag, h, l1, hw]

end

structure Ad where
  f_need_number : Addr
  d_need_number : FuncData
  f_bits_of : Addr
  d_bits_of : FuncData
  f_shifted : Addr
  d_shifted : FuncData
  f_sum16 : Addr
  d_sum16 : FuncData
  f_need_packet : Addr
  d_need_packet : FuncData
  f_cost : Addr
  d_cost : FuncData
  f_next_words : Addr
  d_next_words : FuncData
  f_takes : Addr
  d_takes : FuncData
  f_shaped : Addr
  d_shaped : FuncData
  f_first_wrong : Addr
  d_first_wrong : FuncData
  f_law_bag : Addr
  d_law_bag : FuncData
  f_law_pull : Addr
  d_law_pull : FuncData
  f_law_whole : Addr
  d_law_whole : FuncData
  f_law_same : Addr
  d_law_same : FuncData
  f_law_one : Addr
  d_law_one : FuncData
  f_law_bytes : Addr
  d_law_bytes : FuncData
  f_law_turn : Addr
  d_law_turn : FuncData
  f_law_made : Addr
  d_law_made : FuncData
  f_law_after : Addr
  d_law_after : FuncData
  f_law_shape : Addr
  d_law_shape : FuncData
  f_law_wrong : Addr
  d_law_wrong : FuncData
  f_law_bent : Addr
  d_law_bent : FuncData
  f_law : Addr
  d_law : FuncData
  C_BadNumber : Addr
  C_BadPacket : Addr
  G_SIXTEEN : Value
  V_SIXTEEN : V
  G_TOKENS : Value
  V_TOKENS : V
  G_ANSWERS : Value
  V_ANSWERS : V
  G_MOST_DATA : Value
  V_MOST_DATA : V
  G_FRAME : Value
  V_FRAME : V
  G_BESIDE : Value
  V_BESIDE : V
  G_BEGIN : Value
  V_BEGIN : V
structure Tx (w : World) (K : PySem.W.Frag) (mg : Str → Option Value) (A : Ad) : Prop where
  F_need_number : Fun K "need_number" "need_number" s_need_number A.f_need_number A.d_need_number
  m_need_number : mg "need_number" = some (.ref A.f_need_number)
  b_need_number : Binds K A.d_need_number ["number", "least", "most"] []
  F_bits_of : Fun K "bits_of" "bits_of" s_bits_of A.f_bits_of A.d_bits_of
  m_bits_of : mg "bits_of" = some (.ref A.f_bits_of)
  b_bits_of : Binds K A.d_bits_of ["number", "many"] []
  F_shifted : Fun K "shifted" "shifted" s_shifted A.f_shifted A.d_shifted
  m_shifted : mg "shifted" = some (.ref A.f_shifted)
  b_shifted : Binds K A.d_shifted ["row", "form"] []
  F_sum16 : Fun K "sum16" "sum16" s_sum16 A.f_sum16 A.d_sum16
  m_sum16 : mg "sum16" = some (.ref A.f_sum16)
  b_sum16 : Binds K A.d_sum16 ["data"] []
  F_need_packet : Fun K "need_packet" "need_packet" s_need_packet A.f_need_packet A.d_need_packet
  m_need_packet : mg "need_packet" = some (.ref A.f_need_packet)
  b_need_packet : Binds K A.d_need_packet ["packet"] []
  F_cost : Fun K "cost" "cost" s_cost A.f_cost A.d_cost
  m_cost : mg "cost" = some (.ref A.f_cost)
  b_cost : Binds K A.d_cost ["size"] []
  F_next_words : Fun K "next_words" "next_words" s_next_words A.f_next_words A.d_next_words
  m_next_words : mg "next_words" = some (.ref A.f_next_words)
  b_next_words : Binds K A.d_next_words ["row"] []
  F_takes : Fun K "takes" "takes" s_takes A.f_takes A.d_takes
  m_takes : mg "takes" = some (.ref A.f_takes)
  b_takes : Binds K A.d_takes ["row"] []
  F_shaped : Fun K "shaped" "shaped" s_shaped A.f_shaped A.d_shaped
  m_shaped : mg "shaped" = some (.ref A.f_shaped)
  b_shaped : Binds K A.d_shaped ["row"] []
  F_first_wrong : Fun K "first_wrong" "first_wrong" s_first_wrong A.f_first_wrong A.d_first_wrong
  m_first_wrong : mg "first_wrong" = some (.ref A.f_first_wrong)
  b_first_wrong : Binds K A.d_first_wrong ["rows"] []
  F_law_bag : Fun K "_law_bag" "_law_bag" s_law_bag A.f_law_bag A.d_law_bag
  m_law_bag : mg "_law_bag" = some (.ref A.f_law_bag)
  b_law_bag : Binds K A.d_law_bag ["_law_script"] []
  F_law_pull : Fun K "_law_pull" "_law_pull" s_law_pull A.f_law_pull A.d_law_pull
  m_law_pull : mg "_law_pull" = some (.ref A.f_law_pull)
  b_law_pull : Binds K A.d_law_pull ["_law_bag_here", "_law_upto"] []
  F_law_whole : Fun K "_law_whole" "_law_whole" s_law_whole A.f_law_whole A.d_law_whole
  m_law_whole : mg "_law_whole" = some (.ref A.f_law_whole)
  b_law_whole : Binds K A.d_law_whole ["_law_found"] []
  F_law_same : Fun K "_law_same" "_law_same" s_law_same A.f_law_same A.d_law_same
  m_law_same : mg "_law_same" = some (.ref A.f_law_same)
  b_law_same : Binds K A.d_law_same ["_law_found", "_law_due"] []
  F_law_one : Fun K "_law_one" "_law_one" s_law_one A.f_law_one A.d_law_one
  m_law_one : mg "_law_one" = some (.ref A.f_law_one)
  b_law_one : Binds K A.d_law_one ["_law_bag_here", "_law_row"] []
  F_law_bytes : Fun K "_law_bytes" "_law_bytes" s_law_bytes A.f_law_bytes A.d_law_bytes
  m_law_bytes : mg "_law_bytes" = some (.ref A.f_law_bytes)
  b_law_bytes : Binds K A.d_law_bytes ["_law_bag_here", "_law_most"] []
  F_law_turn : Fun K "_law_turn" "_law_turn" s_law_turn A.f_law_turn A.d_law_turn
  m_law_turn : mg "_law_turn" = some (.ref A.f_law_turn)
  b_law_turn : Binds K A.d_law_turn ["_law_bag_here", "_law_frame"] []
  F_law_made : Fun K "_law_made" "_law_made" s_law_made A.f_law_made A.d_law_made
  m_law_made : mg "_law_made" = some (.ref A.f_law_made)
  b_law_made : Binds K A.d_law_made ["_law_bag_here"] []
  F_law_after : Fun K "_law_after" "_law_after" s_law_after A.f_law_after A.d_law_after
  m_law_after : mg "_law_after" = some (.ref A.f_law_after)
  b_law_after : Binds K A.d_law_after ["_law_row"] []
  F_law_shape : Fun K "_law_shape" "_law_shape" s_law_shape A.f_law_shape A.d_law_shape
  m_law_shape : mg "_law_shape" = some (.ref A.f_law_shape)
  b_law_shape : Binds K A.d_law_shape ["_law_row"] []
  F_law_wrong : Fun K "_law_wrong" "_law_wrong" s_law_wrong A.f_law_wrong A.d_law_wrong
  m_law_wrong : mg "_law_wrong" = some (.ref A.f_law_wrong)
  b_law_wrong : Binds K A.d_law_wrong ["_law_rows"] []
  F_law_bent : Fun K "_law_bent" "_law_bent" s_law_bent A.f_law_bent A.d_law_bent
  m_law_bent : mg "_law_bent" = some (.ref A.f_law_bent)
  b_law_bent : Binds K A.d_law_bent ["_law_bag_here", "_law_rows"] []
  F_law : Fun K "law" "law" s_law A.f_law A.d_law
  m_law : mg "law" = some (.ref A.f_law)
  b_law : Binds K A.d_law ["_law_script"] []
  e_BadNumber : ExcT K mg "BadNumber" A.C_BadNumber "ValueError" "ValueError.__new__" "ValueError.__init__" [.type "ValueError", .type "Exception", .type "BaseException", .type "object"]
  e_BadPacket : ExcT K mg "BadPacket" A.C_BadPacket "ValueError" "ValueError.__new__" "ValueError.__init__" [.type "ValueError", .type "Exception", .type "BaseException", .type "object"]
  z_all : mg "all" = none
  z_bool : mg "bool" = none
  z_enumerate : mg "enumerate" = none
  z_int : mg "int" = none
  z_isinstance : mg "isinstance" = none
  z_len : mg "len" = none
  z_list : mg "list" = none
  z_range : mg "range" = none
  z_str : mg "str" = none
  z_tuple : mg "tuple" = none
  xm_BadNumber_BadNumber : PySem.W.exmOne K (.ref A.C_BadNumber) (.ref A.C_BadNumber) = some true
  xm_BadPacket_BadNumber : PySem.W.exmOne K (.ref A.C_BadPacket) (.ref A.C_BadNumber) = some false
  xm_BadNumber_BadPacket : PySem.W.exmOne K (.ref A.C_BadNumber) (.ref A.C_BadPacket) = some false
  xm_BadPacket_BadPacket : PySem.W.exmOne K (.ref A.C_BadPacket) (.ref A.C_BadPacket) = some true
  c_SIXTEEN : mg "SIXTEEN" = some A.G_SIXTEEN
  q_SIXTEEN : RelV A.V_SIXTEEN A.G_SIXTEEN
  r_SIXTEEN : ∀ ρ F, Rd K ρ F gv_SIXTEEN A.V_SIXTEEN
  c_TOKENS : mg "TOKENS" = some A.G_TOKENS
  q_TOKENS : RelV A.V_TOKENS A.G_TOKENS
  r_TOKENS : ∀ ρ F, Rd K ρ F gv_TOKENS A.V_TOKENS
  c_ANSWERS : mg "ANSWERS" = some A.G_ANSWERS
  q_ANSWERS : RelV A.V_ANSWERS A.G_ANSWERS
  r_ANSWERS : ∀ ρ F, Rd K ρ F gv_ANSWERS A.V_ANSWERS
  c_MOST_DATA : mg "MOST_DATA" = some A.G_MOST_DATA
  q_MOST_DATA : RelV A.V_MOST_DATA A.G_MOST_DATA
  r_MOST_DATA : ∀ ρ F, Rd K ρ F gv_MOST_DATA A.V_MOST_DATA
  c_FRAME : mg "FRAME" = some A.G_FRAME
  q_FRAME : RelV A.V_FRAME A.G_FRAME
  r_FRAME : ∀ ρ F, Rd K ρ F gv_FRAME A.V_FRAME
  c_BESIDE : mg "BESIDE" = some A.G_BESIDE
  q_BESIDE : RelV A.V_BESIDE A.G_BESIDE
  r_BESIDE : ∀ ρ F, Rd K ρ F gv_BESIDE A.V_BESIDE
  c_BEGIN : mg "BEGIN" = some A.G_BEGIN
  q_BEGIN : RelV A.V_BEGIN A.G_BEGIN
  r_BEGIN : ∀ ρ F, Rd K ρ F gv_BEGIN A.V_BEGIN
section
variable {w : World} {K : PySem.W.Frag} {mg : Str → Option Value} {A : Ad}
theorem Tx.ct_BadNumber (T : Tx w K mg A) : ∀ (e : Ex) b C, DL.My.ct_BadNumber e = some b → mg e.cls = some (.ref C) → PySem.W.exmOne K (.ref C) (.ref A.C_BadNumber) = some b := by
  intro e b C h hm
  unfold DL.My.ct_BadNumber at h
  split at h
  · rename_i z
    rw [z.1, T.e_BadNumber.gC] at hm
    cases hm
    cases h
    exact T.xm_BadNumber_BadNumber
  split at h
  · rename_i z
    rw [z.1, T.e_BadPacket.gC] at hm
    cases hm
    cases h
    exact T.xm_BadPacket_BadNumber
  cases h
theorem Tx.rs_BadNumber (T : Tx w K mg A) : ∀ (e : Ex) C, DL.My.ct_BadNumber e = some true → mg e.cls = some (.ref C) → PySem.W.subIn K (.ref C) (.type "BaseException") = some true ∧ PySem.W.typeIn K (.ref C) = some (.type "type") := by
  intro e C h hm
  unfold DL.My.ct_BadNumber at h
  split at h
  · rename_i z
    rw [z.1, T.e_BadNumber.gC] at hm
    cases hm
    exact ⟨T.e_BadNumber.sC, T.e_BadNumber.tC⟩
  split at h
  · rename_i z
    rw [z.1, T.e_BadPacket.gC] at hm
    cases hm
    exact ⟨T.e_BadPacket.sC, T.e_BadPacket.tC⟩
  cases h
theorem Tx.nf_BadNumber (_ : Tx w K mg A) : ∀ {e : Ex} {b}, DL.My.ct_BadNumber e = some b → e.fs = [] := by
  intro e b h
  unfold DL.My.ct_BadNumber at h
  split at h
  · rename_i z
    exact z.2
  split at h
  · rename_i z
    exact z.2
  cases h
theorem Tx.ct_BadPacket (T : Tx w K mg A) : ∀ (e : Ex) b C, DL.My.ct_BadPacket e = some b → mg e.cls = some (.ref C) → PySem.W.exmOne K (.ref C) (.ref A.C_BadPacket) = some b := by
  intro e b C h hm
  unfold DL.My.ct_BadPacket at h
  split at h
  · rename_i z
    rw [z.1, T.e_BadNumber.gC] at hm
    cases hm
    cases h
    exact T.xm_BadNumber_BadPacket
  split at h
  · rename_i z
    rw [z.1, T.e_BadPacket.gC] at hm
    cases hm
    cases h
    exact T.xm_BadPacket_BadPacket
  cases h
theorem Tx.rs_BadPacket (T : Tx w K mg A) : ∀ (e : Ex) C, DL.My.ct_BadPacket e = some true → mg e.cls = some (.ref C) → PySem.W.subIn K (.ref C) (.type "BaseException") = some true ∧ PySem.W.typeIn K (.ref C) = some (.type "type") := by
  intro e C h hm
  unfold DL.My.ct_BadPacket at h
  split at h
  · rename_i z
    rw [z.1, T.e_BadNumber.gC] at hm
    cases hm
    exact ⟨T.e_BadNumber.sC, T.e_BadNumber.tC⟩
  split at h
  · rename_i z
    rw [z.1, T.e_BadPacket.gC] at hm
    cases hm
    exact ⟨T.e_BadPacket.sC, T.e_BadPacket.tC⟩
  cases h
end
section
variable {P : Program} {w : World} {K : PySem.W.Frag} {mg : Str → Option Value} {base : Heap} {A : Ad}

theorem bd_need_number (T : Tx w K mg A) : FnOk P w K mg base (L2N.CX P w) 1 A.f_need_number A.d_need_number ["number", "least", "most"] (spD K mg 3 (runF 3 b_need_number)) :=
  fn_stN T.F_need_number sc_need_number fun cdv Ar outer s H E hr => by
    have tk : L2N.Takes (cxOf (L2N.CX P w) P w K mg base N_need_number "need_number" (defScope s_need_number) A.f_need_number cdv Ar outer s H E) (fun cls d _ H' => E cls d H') := L2N.takes_of rfl rfl rfl rfl
    exact (pdss_one (pds_if (pdt_not (pdt_chain op_le opd_le op_le opd_le (pd_var 1 (pv 1)) (pd_var 0 (pv 0)) (pd_var 2 (pv 2)))) (pdss_one (pds_raiseN T.e_BadNumber rfl tk)) pdss_nil))
theorem okN_need_number (T : Tx w K mg A) : FnOk P w K mg base (L2N.CX P w) 1 A.f_need_number A.d_need_number ["number", "least", "most"] (spP K mg 3 g_need_number) :=
  fn_asPC (fn_pureC (bd_need_number T)) eq_need_number
theorem ok_need_number (T : Tx w K mg A) : FnOk P w K mg base (L2.CX P w) 1 A.f_need_number A.d_need_number ["number", "least", "most"] (spP K mg 3 g_need_number) := fnok_zc (okN_need_number T)
theorem bd_bits_of (T : Tx w K mg A) : FnOk P w K mg base (L2N.CX P w) 2 A.f_bits_of A.d_bits_of ["number", "many"] (spD K mg 2 (runF 4 b_bits_of)) :=
  fn_stN T.F_bits_of sc_bits_of fun cdv Ar outer s H E hr => by
    have tk : L2N.Takes (cxOf (L2N.CX P w) P w K mg base N_bits_of "bits_of" (defScope s_bits_of) A.f_bits_of cdv Ar outer s H E) (fun cls d _ H' => E cls d H') := L2N.takes_of rfl rfl rfl rfl
    exact (pdss_cons (pds_expr (pd_callPN (dds := []) (okN_need_number T) (hr.mono (by first | decide | omega)) T.m_need_number T.F_need_number.kp T.b_need_number .nil (fun _ _ => rfl) tk (pda_cons (pd_var 0 (pv 0)) (pda_cons pd_int (pda_cons (pd_op op_pow opd_pow pd_int pd_int) pda_nil)))))
      (pdss_cons (pds_expr (pd_callPN (dds := []) (okN_need_number T) (hr.mono (by first | decide | omega)) T.m_need_number T.F_need_number.kp T.b_need_number .nil (fun _ _ => rfl) tk (pda_cons (pd_var 1 (pv 1)) (pda_cons pd_int (pda_cons pd_int pda_nil)))))
      (pdss_cons (pds_set (i := 2) sc_bits_of.nd rfl (by first | exact Or.inl rfl | exact Or.inr rfl) (pd_new pda_nil))
      (pdss_cons (pds_for (passes_of rfl) rfl (pdi_range1 rfl T.z_range (pda_cons (pd_var 1 (pv 1)) pda_nil)) (pdg_name sc_bits_of.nd rfl (by first | exact Or.inl rfl | exact Or.inr rfl)) (pdss_cons (pds_expr (pd_lstM (fun h1 h2 => pe_bm PySem.F.plainAttrs_list PySem.F.slot_list_append PySem.F.type_list_append mt_append h1 h2) md_append (pd_var 2 (pv 2)) (pda_cons (pd_op op_and opd_and (pd_var 0 (pv 0)) pd_int) pda_nil)))
      (pdss_one (pds_aug (i := 0) sc_bits_of.nd rfl (by first | exact Or.inl rfl | exact Or.inr rfl) pd_int (pip_of iop_shr) opd_shr))))
      (pdss_one (pds_ret (pd_varZ 2 (pv 2))))))))
theorem okN_bits_of (T : Tx w K mg A) : FnOk P w K mg base (L2N.CX P w) 2 A.f_bits_of A.d_bits_of ["number", "many"] (spP K mg 2 g_bits_of) :=
  fn_asPC (fn_pureC (bd_bits_of T)) eq_bits_of
theorem ok_bits_of (T : Tx w K mg A) : FnOk P w K mg base (L2.CX P w) 2 A.f_bits_of A.d_bits_of ["number", "many"] (spP K mg 2 g_bits_of) := fnok_zc (okN_bits_of T)
theorem bd_shifted (T : Tx w K mg A) : FnOk P w K mg base (L2N.CX P w) 1 A.f_shifted A.d_shifted ["row", "form"] (spD K mg 2 (runF 7 b_shifted)) :=
  fn_stN T.F_shifted sc_shifted fun cdv Ar outer s H E hr => by
    have tk : L2N.Takes (cxOf (L2N.CX P w) P w K mg base N_shifted "shifted" (defScope s_shifted) A.f_shifted cdv Ar outer s H E) (fun cls d _ H' => E cls d H') := L2N.takes_of rfl rfl rfl rfl
    exact (pdss_cons (pds_asg (pd_var 1 (pv 1)) (pdg_tup (is := [2, 3]) rfl (pgs_cons (pg_name (i := 2) sc_shifted.nd rfl (by first | exact Or.inl rfl | exact Or.inr rfl)) (pgs_cons (pg_name (i := 3) sc_shifted.nd rfl (by first | exact Or.inl rfl | exact Or.inr rfl)) pgs_nil))))
      (pdss_cons (pds_set (i := 4) sc_shifted.nd rfl (by first | exact Or.inl rfl | exact Or.inr rfl) (pd_var 2 (pv 2)))
      (pdss_cons (pds_for (passes_of rfl) rfl (pdi_list (pd_var 0 (pv 0))) (pdg_name sc_shifted.nd rfl (by first | exact Or.inl rfl | exact Or.inr rfl)) (pdss_cons (pds_set (i := 6) sc_shifted.nd rfl (by first | exact Or.inl rfl | exact Or.inr rfl) (pd_callTy call_int1 cd_int rfl T.z_int (by decide +kernel) (pda_cons (pd_cmp op_gt opd_gt (pd_op op_mulA opd_mul (pd_var 4 (pv 4)) pd_int) (pd_var 2 (pv 2))) pda_nil)))
      (pdss_cons (pds_set (i := 4) sc_shifted.nd rfl (by first | exact Or.inl rfl | exact Or.inr rfl) (pd_op op_and opd_and (pd_op op_shl opd_shl (pd_var 4 (pv 4)) pd_int) (pd_var 2 (pv 2))))
      (pdss_one (pds_if (pdt_cmp (op_neD hr.units) opd_ne (pd_var 6 (pv 6)) (pd_var 5 (pv 5))) (pdss_one (pds_aug (i := 4) sc_shifted.nd rfl (by first | exact Or.inl rfl | exact Or.inr rfl) (pd_var 3 (pv 3)) (pip_of iop_xor) opd_xor)) pdss_nil)))))
      (pdss_one (pds_ret (pd_op op_xor opd_xor (pd_var 4 (pv 4)) (pd_var 2 (pv 2))))))))
theorem okN_shifted (T : Tx w K mg A) : FnOk P w K mg base (L2N.CX P w) 1 A.f_shifted A.d_shifted ["row", "form"] (spP K mg 2 g_shifted) :=
  fn_asPC (fn_pureC (bd_shifted T)) eq_shifted
theorem ok_shifted (T : Tx w K mg A) : FnOk P w K mg base (L2.CX P w) 1 A.f_shifted A.d_shifted ["row", "form"] (spP K mg 2 g_shifted) := fnok_zc (okN_shifted T)
theorem bd_sum16 (T : Tx w K mg A) : FnOk P w K mg base (L2N.CX P w) 3 A.f_sum16 A.d_sum16 ["data"] (spD K mg 1 (runF 3 b_sum16)) :=
  fn_stN T.F_sum16 sc_sum16 fun cdv Ar outer s H E hr => by
    have tk : L2N.Takes (cxOf (L2N.CX P w) P w K mg base N_sum16 "sum16" (defScope s_sum16) A.f_sum16 cdv Ar outer s H E) (fun cls d _ H' => E cls d H') := L2N.takes_of rfl rfl rfl rfl
    exact (pdss_cons (pds_set (i := 1) sc_sum16.nd rfl (by first | exact Or.inl rfl | exact Or.inr rfl) (pd_new pda_nil))
      (pdss_cons (pds_for (passes_of rfl) rfl (pdi_tup (pd_var 0 (pv 0))) (pdg_name sc_sum16.nd rfl (by first | exact Or.inl rfl | exact Or.inr rfl)) (pdss_cons (pds_expr (pd_callPN (dds := []) (okN_need_number T) (hr.mono (by first | decide | omega)) T.m_need_number T.F_need_number.kp T.b_need_number .nil (fun _ _ => rfl) tk (pda_cons (pd_var 2 (pv 2)) (pda_cons pd_int (pda_cons pd_int pda_nil)))))
      (pdss_one (pds_expr (pd_lstM (fun h1 h2 => pe_bm PySem.F.plainAttrs_list PySem.F.slot_list_extend PySem.F.type_list_extend mt_extend h1 h2) md_extend (pd_var 1 (pv 1)) (pda_cons (pd_callPN (dds := []) (okN_bits_of T) (hr.mono (by first | decide | omega)) T.m_bits_of T.F_bits_of.kp T.b_bits_of .nil (fun _ _ => rfl) tk (pda_cons (pd_var 2 (pv 2)) (pda_cons pd_int pda_nil))) pda_nil))))))
      (pdss_one (pds_ret (pd_callPN (dds := []) (okN_shifted T) (hr.mono (by first | decide | omega)) T.m_shifted T.F_shifted.kp T.b_shifted .nil (fun _ _ => rfl) tk (pda_cons (pd_varZ 1 (pv 1)) (pda_cons (pd_glob (d := gv_SIXTEEN) rfl T.c_SIXTEEN T.q_SIXTEEN T.r_SIXTEEN) pda_nil)))))))
theorem okN_sum16 (T : Tx w K mg A) : FnOk P w K mg base (L2N.CX P w) 3 A.f_sum16 A.d_sum16 ["data"] (spP K mg 1 g_sum16) :=
  fn_asPC (fn_pureC (bd_sum16 T)) eq_sum16
theorem ok_sum16 (T : Tx w K mg A) : FnOk P w K mg base (L2.CX P w) 3 A.f_sum16 A.d_sum16 ["data"] (spP K mg 1 g_sum16) := fnok_zc (okN_sum16 T)
theorem bd_need_packet (T : Tx w K mg A) : FnOk P w K mg base (L2.CX P w) 4 A.f_need_packet A.d_need_packet ["packet"] (spD K mg 1 (runF 4 b_need_packet)) :=
  fn_st T.F_need_packet sc_need_packet fun cdv Ar outer s H E hr => by
    have tk : Takes (cxOf (L2.CX P w) P w K mg base N_need_packet "need_packet" (defScope s_need_packet) A.f_need_packet cdv Ar outer s H E) (fun cls d _ H' => E cls d H') := takes_of rfl rfl rfl rfl
    exact (pdss_cons (pds_set (i := 1) sc_need_packet.nd rfl (by first | exact Or.inl rfl | exact Or.inr rfl) (pd_ix (pd_var 0 (pv 0)) pd_int))
      (pdss_cons (pds_set (i := 2) sc_need_packet.nd rfl (by first | exact Or.inl rfl | exact Or.inr rfl) (pd_disp (pdp_cons pd_str pd_int (pdp_cons pd_str pd_int (pdp_cons pd_str pd_int (pdp_cons pd_str pd_int (pdp_cons pd_str pd_int (pdp_cons pd_str pd_int (pdp_cons pd_str pd_int (pdp_cons pd_str pd_int pdp_nil))))))))))
      (pdss_cons (pds_if (pdt_cmp (op_neD hr.units) opd_ne (pd_callB call_len cd_len rfl T.z_len (by decide +kernel) (pda_cons (pd_var 0 (pv 0)) pda_nil)) (pd_dget2 (by first | (have := hr.units; omega) | exact Nat.lt_of_le_of_lt (Nat.add_le_add_left (by decide) _) hr.units) (pd_var 2 (pv 2)) (pd_var 1 (pv 1)) pd_int)) (pdss_one (pds_raise T.e_BadPacket rfl tk)) pdss_nil)
      (pdss_one (pds_try_from (i := 3) rfl rfl sc_need_packet.nd rfl rfl ⟨rfl, by decide, Or.inl T.e_BadNumber.gC⟩ (L2H.passesAt_of rfl) tk T.ct_BadNumber T.rs_BadNumber T.e_BadPacket
      (fun W2 pn2 xe2 tk2 hp2 => (pdss_cons (pds_if (pdt_cmp op_in_seq opd_in (pd_var 1 (pv 1)) (pd_glob (d := gv_TOKENS) rfl T.c_TOKENS T.q_TOKENS T.r_TOKENS)) (pdss_cons (pds_expr (pd_callPN (dds := []) (okN_need_number T) (hr.mono (by first | decide | omega)) T.m_need_number T.F_need_number.kp T.b_need_number .nil (fun _ _ => rfl) tk2 (pda_cons (pd_ix (pd_var 0 (pv 0)) pd_int) (pda_cons pd_int (pda_cons pd_int pda_nil)))))
      (pdss_one (pds_expr (pd_callPN (dds := []) (okN_need_number T) (hr.mono (by first | decide | omega)) T.m_need_number T.F_need_number.kp T.b_need_number .nil (fun _ _ => rfl) tk2 (pda_cons (pd_ix (pd_var 0 (pv 0)) pd_int) (pda_cons pd_int (pda_cons pd_int pda_nil))))))) pdss_nil)
      (pdss_cons (pds_if (pdt_cmp (op_eqD hr.units) opd_eq (pd_var 1 (pv 1)) pd_str) (pdss_one (pds_expr (pd_callPN (dds := []) (okN_need_number T) (hr.mono (by first | decide | omega)) T.m_need_number T.F_need_number.kp T.b_need_number .nil (fun _ _ => rfl) tk2 (pda_cons (pd_ix (pd_var 0 (pv 0)) pd_int) (pda_cons pd_int (pda_cons pd_int pda_nil)))))) pdss_nil)
      (pdss_one (pds_if (pdt_cmp (op_eqD hr.units) opd_eq (pd_var 1 (pv 1)) pd_str) (pdss_cons (pds_expr (pd_callPN (dds := []) (okN_need_number T) (hr.mono (by first | decide | omega)) T.m_need_number T.F_need_number.kp T.b_need_number .nil (fun _ _ => rfl) tk2 (pda_cons (pd_ix (pd_var 0 (pv 0)) pd_int) (pda_cons pd_int (pda_cons pd_int pda_nil)))))
      (pdss_cons (pds_expr (pd_callPN (dds := []) (okN_need_number T) (hr.mono (by first | decide | omega)) T.m_need_number T.F_need_number.kp T.b_need_number .nil (fun _ _ => rfl) tk2 (pda_cons (pd_callB call_len cd_len rfl T.z_len (by decide +kernel) (pda_cons (pd_ix (pd_var 0 (pv 0)) pd_int) pda_nil)) (pda_cons pd_int (pda_cons (pd_glob (d := gv_MOST_DATA) rfl T.c_MOST_DATA T.q_MOST_DATA T.r_MOST_DATA) pda_nil)))))
      (pdss_one (pds_expr (pd_callPN (dds := []) (okN_sum16 T) (hr.mono (by first | decide | omega)) T.m_sum16 T.F_sum16.kp T.b_sum16 .nil (fun _ _ => rfl) tk2 (pda_cons (pd_ix (pd_var 0 (pv 0)) pd_int) pda_nil)))))) pdss_nil))))) (Or.inl rfl))))))
theorem ok_need_packet (T : Tx w K mg A) : FnOk P w K mg base (L2.CX P w) 4 A.f_need_packet A.d_need_packet ["packet"] (spP K mg 1 g_need_packet) :=
  fn_asP (fn_pure (bd_need_packet T)) eq_need_packet
theorem bd_cost (T : Tx w K mg A) : FnOk P w K mg base (L2.CX P w) 2 A.f_cost A.d_cost ["size"] (spD K mg 1 (runF 1 b_cost)) :=
  fn_st T.F_cost sc_cost fun cdv Ar outer s H E hr => by
    have tk : Takes (cxOf (L2.CX P w) P w K mg base N_cost "cost" (defScope s_cost) A.f_cost cdv Ar outer s H E) (fun cls d _ H' => E cls d H') := takes_of rfl rfl rfl rfl
    exact (pdss_cons (pds_expr (pd_callP (dds := []) (ok_need_number T) (hr.mono (by first | decide | omega)) T.m_need_number T.F_need_number.kp T.b_need_number .nil (fun _ _ => rfl) tk (pda_cons (pd_var 0 (pv 0)) (pda_cons pd_int (pda_cons pd_int pda_nil)))))
      (pdss_one (pds_ret (pd_op op_addA opd_add (pd_var 0 (pv 0)) (pd_glob (d := gv_BESIDE) rfl T.c_BESIDE T.q_BESIDE T.r_BESIDE)))))
theorem ok_cost (T : Tx w K mg A) : FnOk P w K mg base (L2.CX P w) 2 A.f_cost A.d_cost ["size"] (spP K mg 1 g_cost) :=
  fn_asP (fn_pure (bd_cost T)) eq_cost
theorem bd_next_words (T : Tx w K mg A) : FnOk P w K mg base (L2.CX P w) 1 A.f_next_words A.d_next_words ["row"] (spD K mg 1 (runF 7 b_next_words)) :=
  fn_st T.F_next_words sc_next_words fun cdv Ar outer s H E hr => by
    have tk : Takes (cxOf (L2.CX P w) P w K mg base N_next_words "next_words" (defScope s_next_words) A.f_next_words cdv Ar outer s H E) (fun cls d _ H' => E cls d H') := takes_of rfl rfl rfl rfl
    exact (pdss_cons (pds_asg (pd_var 0 (pv 0)) (pdg_tup (is := [1, 2, 3, 4]) rfl (pgs_cons (pg_name (i := 1) sc_next_words.nd rfl (by first | exact Or.inl rfl | exact Or.inr rfl)) (pgs_cons (pg_name (i := 2) sc_next_words.nd rfl (by first | exact Or.inl rfl | exact Or.inr rfl)) (pgs_cons (pg_name (i := 3) sc_next_words.nd rfl (by first | exact Or.inl rfl | exact Or.inr rfl)) (pgs_cons (pg_name (i := 4) sc_next_words.nd rfl (by first | exact Or.inl rfl | exact Or.inr rfl)) pgs_nil))))))
      (pdss_cons (pds_set (i := 5) sc_next_words.nd rfl (by first | exact Or.inl rfl | exact Or.inr rfl) (pd_lst (pda_cons (pd_tup (pda_cons pd_str (pda_cons pd_str pda_nil))) (pda_cons (pd_tup (pda_cons pd_str (pda_cons pd_str pda_nil))) (pda_cons (pd_tup (pda_cons pd_str (pda_cons pd_str pda_nil))) (pda_cons (pd_tup (pda_cons pd_str (pda_cons pd_str pda_nil))) pda_nil))))))
      (pdss_cons (pds_if (pdt_cmp op_in_seq opd_in (pd_ix (pd_var 3 (pv 3)) pd_int) (pd_tup (pda_cons pd_str (pda_cons pd_str pda_nil)))) (pdss_one (pds_ret (pd_lst (pda_cons (pd_tup (pda_cons pd_str (pda_cons pd_str pda_nil))) pda_nil)))) pdss_nil)
      (pdss_cons (pds_if (pdt_cmp (op_eqD hr.units) opd_eq (pd_ix (pd_var 3 (pv 3)) pd_int) pd_str) (pdss_one (pds_ret (pd_if (pdt_val (pd_var 4 (pv 4))) (pd_op op_addA opd_add (pd_var 5 (pv 5)) (pd_lst (pda_cons (pd_tup (pda_cons pd_str (pda_cons pd_str pda_nil))) (pda_cons (pd_tup (pda_cons pd_str (pda_cons pd_str pda_nil))) (pda_cons (pd_tup (pda_cons pd_str (pda_cons pd_str pda_nil))) pda_nil))))) (pd_var 5 (pv 5))))) pdss_nil)
      (pdss_cons (pds_if (pdw_pdt (pdw_and (pdt_cmp (op_eqD hr.units) opd_eq (pd_ix (pd_var 3 (pv 3)) pd_int) pd_str) (pdw_and1 (pdt_cmp (op_eqD hr.units) opd_eq (pd_var 2 (pv 2)) pd_str)))) (pdss_one (pds_ret (pd_if (pdt_val (pd_var 4 (pv 4))) (pd_op op_addA opd_add (pd_var 5 (pv 5)) (pd_lc (own := [("word", 6)]) rfl sc_next_words.nd (pdi_tup (pd_glob (d := gv_ANSWERS) rfl T.c_ANSWERS T.q_ANSWERS T.r_ANSWERS)) (blkOk_by (N := N_next_words) (sc := defScope s_next_words) (by decide +kernel)) (fun _ _ _ _ _ => (pdg_name sc_next_words.nd rfl (by first | exact Or.inl rfl | exact Or.inr rfl))) (fun _ _ _ _ _ => pdts_nil) (fun _ _ _ _ _ => (pd_tup (pda_cons pd_str (pda_cons (pd_var 6 (pv 6)) pda_nil)))) (by decide))) (pd_var 5 (pv 5))))) pdss_nil)
      (pdss_cons (pds_if (pdw_pdt (pdw_and (pdt_cmp (op_eqD hr.units) opd_eq (pd_ix (pd_var 3 (pv 3)) pd_int) pd_str) (pdw_and1 (pdt_val (pd_var 4 (pv 4)))))) (pdss_one (pds_ret (pd_lst (pda_cons (pd_tup (pda_cons pd_str (pda_cons pd_str pda_nil))) pda_nil)))) pdss_nil)
      (pdss_one (pds_ret (pd_var 5 (pv 5))))))))))
theorem ok_next_words (T : Tx w K mg A) : FnOk P w K mg base (L2.CX P w) 1 A.f_next_words A.d_next_words ["row"] (spP K mg 1 g_next_words) :=
  fn_asP (fn_pure (bd_next_words T)) eq_next_words
theorem bd_takes (T : Tx w K mg A) : FnOk P w K mg base (L2.CX P w) 3 A.f_takes A.d_takes ["row"] (spD K mg 1 (runF 2 b_takes)) :=
  fn_st T.F_takes sc_takes fun cdv Ar outer s H E hr => by
    have tk : Takes (cxOf (L2.CX P w) P w K mg base N_takes "takes" (defScope s_takes) A.f_takes cdv Ar outer s H E) (fun cls d _ H' => E cls d H') := takes_of rfl rfl rfl rfl
    exact (pdss_cons (pds_set (i := 1) sc_takes.nd rfl (by first | exact Or.inl rfl | exact Or.inr rfl) (pd_ix (pd_var 0 (pv 0)) pd_int))
      (pdss_cons (pds_if (pdt_cmp (op_eqD hr.units) opd_eq (pd_ix (pd_var 1 (pv 1)) pd_int) pd_str) (pdss_one (pds_ret (pd_glob (d := gv_BEGIN) rfl T.c_BEGIN T.q_BEGIN T.r_BEGIN))) pdss_nil)
      (pdss_cons (pds_if (pdt_cmp op_in_seq opd_in (pd_ix (pd_var 1 (pv 1)) pd_int) (pd_glob (d := gv_TOKENS) rfl T.c_TOKENS T.q_TOKENS T.r_TOKENS)) (pdss_one (pds_ret (pd_callP (dds := []) (ok_cost T) (hr.mono (by first | decide | omega)) T.m_cost T.F_cost.kp T.b_cost .nil (fun _ _ => rfl) tk (pda_cons pd_int pda_nil)))) pdss_nil)
      (pdss_one (pds_ret (pd_if (pdt_cmp (op_eqD hr.units) opd_eq (pd_ix (pd_var 1 (pv 1)) pd_int) pd_str) (pd_callB call_len cd_len rfl T.z_len (by decide +kernel) (pda_cons (pd_ix (pd_var 1 (pv 1)) pd_int) pda_nil)) pd_int))))))
theorem ok_takes (T : Tx w K mg A) : FnOk P w K mg base (L2.CX P w) 3 A.f_takes A.d_takes ["row"] (spP K mg 1 g_takes) :=
  fn_asP (fn_pure (bd_takes T)) eq_takes
theorem bd_shaped (T : Tx w K mg A) : FnOk P w K mg base (L2.CX P w) 5 A.f_shaped A.d_shaped ["row"] (spD K mg 1 (runF 5 b_shaped)) :=
  fn_st T.F_shaped sc_shaped fun cdv Ar outer s H E hr => by
    have tk : Takes (cxOf (L2.CX P w) P w K mg base N_shaped "shaped" (defScope s_shaped) A.f_shaped cdv Ar outer s H E) (fun cls d _ H' => E cls d H') := takes_of rfl rfl rfl rfl
    exact (pdss_cons (pds_asg (pd_var 0 (pv 0)) (pdg_tup (is := [1, 2, 3, 4]) rfl (pgs_cons (pg_name (i := 1) sc_shaped.nd rfl (by first | exact Or.inl rfl | exact Or.inr rfl)) (pgs_cons (pg_name (i := 2) sc_shaped.nd rfl (by first | exact Or.inl rfl | exact Or.inr rfl)) (pgs_cons (pg_name (i := 3) sc_shaped.nd rfl (by first | exact Or.inl rfl | exact Or.inr rfl)) (pgs_cons (pg_name (i := 4) sc_shaped.nd rfl (by first | exact Or.inl rfl | exact Or.inr rfl)) pgs_nil))))))
      (pdss_cons (pds_try_only rfl rfl ⟨rfl, by decide, Or.inl T.e_BadPacket.gC⟩ tk T.ct_BadPacket
      (fun W2 pn2 xe2 tk2 hp2 => (pdss_one (pds_expr (pd_callP (dds := []) (ok_need_packet T) (hr.mono (by first | decide | omega)) T.m_need_packet T.F_need_packet.kp T.b_need_packet .nil (fun _ _ => rfl) tk2 (pda_cons (pd_var 3 (pv 3)) pda_nil)))))
      (fun a oe cls d pn => (pdss_one (pds_ret pd_bl))))
      (pdss_cons (pds_if (pdw_pdt (pdw_or (pdw_pdt (pdw_and (pdt_cmp op_in_seq opd_in (pd_ix (pd_var 3 (pv 3)) pd_int) (pd_op op_addA opd_add (pd_glob (d := gv_TOKENS) rfl T.c_TOKENS T.q_TOKENS T.r_TOKENS) (pd_tup (pda_cons pd_str pda_nil)))) (pdw_and1 (pdt_cmp (op_neD hr.units) opd_ne (pd_var 2 (pv 2)) pd_str)))) (pdw_or1 (pdw_pdt (pdw_and (pdt_cmp op_in_seq opd_in (pd_ix (pd_var 3 (pv 3)) pd_int) (pd_tup (pda_cons pd_str (pda_cons pd_str pda_nil)))) (pdw_and1 (pdt_cmp (op_neD hr.units) opd_ne (pd_var 2 (pv 2)) pd_str))))))) (pdss_one (pds_ret pd_bl)) pdss_nil)
      (pdss_one (pds_ret (pd_and (pd_cmp op_in_seq opd_in (pd_var 2 (pv 2)) (pd_tup (pda_cons pd_str (pda_cons pd_str pda_nil)))) (pd_and (pd_cmp op_ge opd_ge (pd_var 1 (pv 1)) pd_int) (pd_one (pd_or (pd_cmp (op_neD hr.units) opd_ne (pd_ix (pd_var 3 (pv 3)) pd_int) pd_str) (pd_one (pd_cmp (op_eqD hr.units) opd_eq (pd_ix (pd_var 3 (pv 3)) pd_int) (pd_op op_mod opd_mod (pd_var 1 (pv 1)) pd_int))))))))))))
theorem ok_shaped (T : Tx w K mg A) : FnOk P w K mg base (L2.CX P w) 5 A.f_shaped A.d_shaped ["row"] (spP K mg 1 g_shaped) :=
  fn_asP (fn_pure (bd_shaped T)) eq_shaped
theorem bd_first_wrong (T : Tx w K mg A) : FnOk P w K mg base (L2.CX P w) 6 A.f_first_wrong A.d_first_wrong ["rows"] (spD K mg 1 (runF 9 b_first_wrong)) :=
  fn_st T.F_first_wrong sc_first_wrong fun cdv Ar outer s H E hr => by
    have tk : Takes (cxOf (L2.CX P w) P w K mg base N_first_wrong "first_wrong" (defScope s_first_wrong) A.f_first_wrong cdv Ar outer s H E) (fun cls d _ H' => E cls d H') := takes_of rfl rfl rfl rfl
    exact (pdss_cons (pds_set (i := 1) sc_first_wrong.nd rfl (by first | exact Or.inl rfl | exact Or.inr rfl) pd_int)
      (pdss_cons (pds_for (passes_of rfl) rfl (pdi_enumL rfl T.z_enumerate (pda_cons (pd_var 0 (pv 0)) pda_nil)) (pdg_tup (is := [2, 3]) rfl (pgs_cons (pg_name (i := 2) sc_first_wrong.nd rfl (by first | exact Or.inl rfl | exact Or.inr rfl)) (pgs_cons (pg_name (i := 3) sc_first_wrong.nd rfl (by first | exact Or.inl rfl | exact Or.inr rfl)) pgs_nil))) (pdss_cons (pds_asg (pd_var 3 (pv 3)) (pdg_tup (is := [4, 5, 6, 7]) rfl (pgs_cons (pg_name (i := 4) sc_first_wrong.nd rfl (by first | exact Or.inl rfl | exact Or.inr rfl)) (pgs_cons (pg_name (i := 5) sc_first_wrong.nd rfl (by first | exact Or.inl rfl | exact Or.inr rfl)) (pgs_cons (pg_name (i := 6) sc_first_wrong.nd rfl (by first | exact Or.inl rfl | exact Or.inr rfl)) (pgs_cons (pg_name (i := 7) sc_first_wrong.nd rfl (by first | exact Or.inl rfl | exact Or.inr rfl)) pgs_nil))))))
      (pdss_cons (pds_if (pdt_not (pdt_val (pd_callP (dds := []) (ok_shaped T) (hr.mono (by first | decide | omega)) T.m_shaped T.F_shaped.kp T.b_shaped .nil (fun _ _ => rfl) tk (pda_cons (pd_var 3 (pv 3)) pda_nil)))) (pdss_one (pds_ret (pd_var 2 (pv 2)))) pdss_nil)
      (pdss_cons (pds_set (i := 8) sc_first_wrong.nd rfl (by first | exact Or.inl rfl | exact Or.inr rfl) (pd_if (pdt_cmp op_gt opd_gt (pd_var 2 (pv 2)) pd_int) (pd_ix (pd_var 0 (pv 0)) (pd_op op_sub opd_sub (pd_var 2 (pv 2)) pd_int)) pd_non))
      (pdss_cons (pds_if (pdw_pdt (pdw_and (pdt_isN (pd_var 8 (pv 8))) (pdw_and1 (pdt_cmp (op_neD hr.units) opd_ne (pd_ix (pd_var 6 (pv 6)) pd_int) pd_str)))) (pdss_one (pds_ret (pd_var 2 (pv 2)))) pdss_nil)
      (pdss_cons (pds_if (pdw_pdt (pdw_and (pdt_notN (pd_var 8 (pv 8))) (pdw_and1 (pdt_cmp (op_notInD (room65 hr)) opd_notInD (pd_tup (pda_cons (pd_var 5 (pv 5)) (pda_cons (pd_ix (pd_var 6 (pv 6)) pd_int) pda_nil))) (pd_callP (dds := []) (ok_next_words T) (hr.mono (by first | decide | omega)) T.m_next_words T.F_next_words.kp T.b_next_words .nil (fun _ _ => rfl) tk (pda_cons (pd_var 8 (pv 8)) pda_nil)))))) (pdss_one (pds_ret (pd_var 2 (pv 2)))) pdss_nil)
      (pdss_cons (pds_if (pdw_pdt (pdw_and (pdt_notN (pd_var 8 (pv 8))) (pdw_and1 (pdt_cmp (op_neD hr.units) opd_ne (pd_var 4 (pv 4)) (pd_op op_addA opd_add (pd_ix (pd_var 8 (pv 8)) pd_int) (pd_callTy call_int1 cd_int rfl T.z_int (by decide +kernel) (pda_cons (pd_cmp (op_eqD hr.units) opd_eq (pd_ix (pd_var 6 (pv 6)) pd_int) pd_str) pda_nil))))))) (pdss_one (pds_ret (pd_var 2 (pv 2)))) pdss_nil)
      (pdss_cons (pds_set (i := 1) sc_first_wrong.nd rfl (by first | exact Or.inl rfl | exact Or.inr rfl) (pd_if (pdt_cmp (op_eqD hr.units) opd_eq (pd_ix (pd_var 6 (pv 6)) pd_int) pd_str) (pd_callP (dds := []) (ok_takes T) (hr.mono (by first | decide | omega)) T.m_takes T.F_takes.kp T.b_takes .nil (fun _ _ => rfl) tk (pda_cons (pd_var 3 (pv 3)) pda_nil)) (pd_op op_addA opd_add (pd_var 1 (pv 1)) (pd_callP (dds := []) (ok_takes T) (hr.mono (by first | decide | omega)) T.m_takes T.F_takes.kp T.b_takes .nil (fun _ _ => rfl) tk (pda_cons (pd_var 3 (pv 3)) pda_nil)))))
      (pdss_one (pds_if (pdt_cmp op_gt opd_gt (pd_var 1 (pv 1)) (pd_glob (d := gv_FRAME) rfl T.c_FRAME T.q_FRAME T.r_FRAME)) (pdss_one (pds_ret (pd_var 2 (pv 2)))) pdss_nil))))))))))
      (pdss_one (pds_ret (pd_op op_sub opd_sub pd_int pd_int)))))
theorem ok_first_wrong (T : Tx w K mg A) : FnOk P w K mg base (L2.CX P w) 6 A.f_first_wrong A.d_first_wrong ["rows"] (spP K mg 1 g_first_wrong) :=
  fn_asP (fn_pure (bd_first_wrong T)) eq_first_wrong
theorem bd_law_bag (T : Tx w K mg A) : FnOk P w K mg base (L2.CX P w) 1 A.f_law_bag A.d_law_bag ["_law_script"] (spD K mg 1 (runF 4 b_law_bag)) :=
  fn_st T.F_law_bag sc_law_bag fun cdv Ar outer s H E hr => by
    have tk : Takes (cxOf (L2.CX P w) P w K mg base N_law_bag "_law_bag" (defScope s_law_bag) A.f_law_bag cdv Ar outer s H E) (fun cls d _ H' => E cls d H') := takes_of rfl rfl rfl rfl
    exact (pdss_cons (pds_set (i := 1) sc_law_bag.nd rfl (by first | exact Or.inl rfl | exact Or.inr rfl) (pd_callTy call_list_of cd_list rfl T.z_list (by decide +kernel) (pda_cons (pd_sl (pd_var 0 (pv 0)) pdo_none (pdo_some pd_int)) pda_nil)))
      (pdss_cons (pds_set (i := 2) sc_law_bag.nd rfl (by first | exact Or.inl rfl | exact Or.inr rfl) (pd_op op_addA opd_add pd_int (pd_callB call_len cd_len rfl T.z_len (by decide +kernel) (pda_cons (pd_var 1 (pv 1)) pda_nil))))
      (pdss_cons (pds_for (passes_of rfl) rfl (pdi_list (pd_var 1 (pv 1))) (pdg_name sc_law_bag.nd rfl (by first | exact Or.inl rfl | exact Or.inr rfl)) (pdss_one (pds_set (i := 2) sc_law_bag.nd rfl (by first | exact Or.inl rfl | exact Or.inr rfl) (pd_op op_mod opd_mod (pd_op op_addA opd_add (pd_op op_mulA opd_mul (pd_var 2 (pv 2)) pd_int) (pd_var 3 (pv 3))) pd_int))))
      (pdss_one (pds_ret (pd_new (pda_cons (pd_var 1 (pv 1)) (pda_cons pd_int (pda_cons pd_int (pda_cons (pd_var 2 (pv 2)) pda_nil))))))))))
theorem ok_law_bag (T : Tx w K mg A) : FnOk P w K mg base (L2.CX P w) 1 A.f_law_bag A.d_law_bag ["_law_script"] (spD K mg 1 g_law_bag) :=
  fn_as (bd_law_bag T) eq_law_bag
theorem bd_law_pull (T : Tx w K mg A) : FnOk P w K mg base (L2.CX P w) 1 A.f_law_pull A.d_law_pull ["_law_bag_here", "_law_upto"] (spD K mg 2 (runF 6 b_law_pull)) :=
  fn_st T.F_law_pull sc_law_pull fun cdv Ar outer s H E hr => by
    have tk : Takes (cxOf (L2.CX P w) P w K mg base N_law_pull "_law_pull" (defScope s_law_pull) A.f_law_pull cdv Ar outer s H E) (fun cls d _ H' => E cls d H') := takes_of rfl rfl rfl rfl
    exact (pdss_cons (pds_if (pdt_cmp op_lt opd_lt (pd_ix (pd_var 0 (pv 0)) pd_int) pd_int) (pdss_cons (pds_setIx (pd_op op_addA opd_add (pd_ix (pd_var 0 (pv 0)) pd_int) pd_int) (pd_var 0 (pv 0)) pd_int set_list setd_list)
      (pdss_cons (pds_set (i := 2) sc_law_pull.nd rfl (by first | exact Or.inl rfl | exact Or.inr rfl) (pd_op op_addA opd_add (pd_ix (pd_var 0 (pv 0)) pd_int) (pd_op op_mulA opd_mul (pd_ix (pd_var 0 (pv 0)) pd_int) pd_int)))
      (pdss_cons (pds_if (pdt_cmp op_le opd_le (pd_ix (pd_var 0 (pv 0)) pd_int) (pd_callB call_len cd_len rfl T.z_len (by decide +kernel) (pda_cons (pd_ix (pd_var 0 (pv 0)) pd_int) pda_nil))) (pdss_one (pds_set (i := 2) sc_law_pull.nd rfl (by first | exact Or.inl rfl | exact Or.inr rfl) (pd_ix (pd_ix (pd_var 0 (pv 0)) pd_int) (pd_op op_sub opd_sub (pd_ix (pd_var 0 (pv 0)) pd_int) pd_int)))) pdss_nil)
      (pdss_cons (pds_if (pdw_pdt (pdw_or (pdt_cmp op_gt opd_gt (pd_ix (pd_var 0 (pv 0)) pd_int) (pd_callB call_len cd_len rfl T.z_len (by decide +kernel) (pda_cons (pd_ix (pd_var 0 (pv 0)) pd_int) pda_nil))) (pdw_or1 (pdt_cmp op_lt opd_lt (pd_var 2 (pv 2)) (pd_op op_pow opd_pow pd_int pd_int))))) (pdss_cons (pds_set (i := 3) sc_law_pull.nd rfl (by first | exact Or.inl rfl | exact Or.inr rfl) (pd_op op_mod opd_mod (pd_op op_addA opd_add (pd_op op_addA opd_add (pd_op op_mulA opd_mul (pd_var 2 (pv 2)) pd_int) (pd_op op_mulA opd_mul (pd_ix (pd_var 0 (pv 0)) pd_int) pd_int)) (pd_ix (pd_var 0 (pv 0)) pd_int)) pd_int))
      (pdss_cons (pds_set (i := 4) sc_law_pull.nd rfl (by first | exact Or.inl rfl | exact Or.inr rfl) (pd_op op_mod opd_mod (pd_op op_addA opd_add (pd_op op_mulA opd_mul (pd_var 3 (pv 3)) (pd_var 3 (pv 3))) (pd_ix (pd_var 0 (pv 0)) pd_int)) pd_int))
      (pdss_one (pds_ret (pd_op op_mod opd_mod (pd_op op_fdivW opd_div (pd_op op_mod opd_mod (pd_op op_addA opd_add (pd_op op_mulA opd_mul (pd_var 4 (pv 4)) pd_int) (pd_var 3 (pv 3))) pd_int) pd_int) (pd_var 1 (pv 1))))))) pdss_nil)
      (pdss_one (pds_setIx (pd_var 2 (pv 2)) (pd_var 0 (pv 0)) pd_int set_list setd_list)))))) pdss_nil)
      (pdss_cons (pds_set (i := 5) sc_law_pull.nd rfl (by first | exact Or.inl rfl | exact Or.inr rfl) (pd_op op_mod opd_mod (pd_ix (pd_var 0 (pv 0)) pd_int) (pd_var 1 (pv 1))))
      (pdss_cons (pds_setIx (pd_op op_fdivW opd_div (pd_ix (pd_var 0 (pv 0)) pd_int) (pd_var 1 (pv 1))) (pd_var 0 (pv 0)) pd_int set_list setd_list)
      (pdss_one (pds_ret (pd_var 5 (pv 5)))))))
theorem ok_law_pull (T : Tx w K mg A) : FnOk P w K mg base (L2.CX P w) 1 A.f_law_pull A.d_law_pull ["_law_bag_here", "_law_upto"] (spD K mg 2 g_law_pull) :=
  fn_as (bd_law_pull T) eq_law_pull
theorem bd_law_whole (T : Tx w K mg A) : FnOk P w K mg base (L2.CX P w) 1 A.f_law_whole A.d_law_whole ["_law_found"] (spD K mg 1 (runF 1 b_law_whole)) :=
  fn_st T.F_law_whole sc_law_whole fun cdv Ar outer s H E hr => by
    have tk : Takes (cxOf (L2.CX P w) P w K mg base N_law_whole "_law_whole" (defScope s_law_whole) A.f_law_whole cdv Ar outer s H E) (fun cls d _ H' => E cls d H') := takes_of rfl rfl rfl rfl
    exact (pdss_one (pds_ret (pd_and (pd_callB call_isi cd_isi rfl T.z_isinstance (by decide +kernel) (pda_cons (pd_var 0 (pv 0)) (pda_cons (pd_ty (n := "int") rfl T.z_int (by decide +kernel)) pda_nil))) (pd_one (pd_not (pd_callB call_isi cd_isi rfl T.z_isinstance (by decide +kernel) (pda_cons (pd_var 0 (pv 0)) (pda_cons (pd_ty (n := "bool") rfl T.z_bool (by decide +kernel)) pda_nil))))))))
theorem ok_law_whole (T : Tx w K mg A) : FnOk P w K mg base (L2.CX P w) 1 A.f_law_whole A.d_law_whole ["_law_found"] (spP K mg 1 g_law_whole) :=
  fn_asP (fn_pure (bd_law_whole T)) eq_law_whole
theorem bd_law_same (T : Tx w K mg A) {n : Nat} (IH : FnOk P w K mg base (L2.CX P w) (n + 1) A.f_law_same A.d_law_same ["_law_found", "_law_due"] (spP K mg 2 (g_sameN n))) : FnOk P w K mg base (L2.CX P w) (n + 2) A.f_law_same A.d_law_same ["_law_found", "_law_due"] (spD K mg 2 (runF 3 (b_law_same n))) :=
  fn_st T.F_law_same sc_law_same fun cdv Ar outer s H E hr => by
    have tk : Takes (cxOf (L2.CX P w) P w K mg base N_law_same "_law_same" (defScope s_law_same) A.f_law_same cdv Ar outer s H E) (fun cls d _ H' => E cls d H') := takes_of rfl rfl rfl rfl
    exact (pdss_cons (pds_if (pdt_isN (pd_var 1 (pv 1))) (pdss_one (pds_ret (pd_isN (pd_var 0 (pv 0))))) pdss_nil)
      (pdss_cons (pds_if (pdt_val (pd_callB call_isi cd_isi rfl T.z_isinstance (by decide +kernel) (pda_cons (pd_var 1 (pv 1)) (pda_cons (pd_ty (n := "bool") rfl T.z_bool (by decide +kernel)) pda_nil)))) (pdss_one (pds_ret (pd_and (pd_callB call_isi cd_isi rfl T.z_isinstance (by decide +kernel) (pda_cons (pd_var 0 (pv 0)) (pda_cons (pd_ty (n := "bool") rfl T.z_bool (by decide +kernel)) pda_nil))) (pd_one (pd_cmp (op_eqD hr.units) opd_eq (pd_var 0 (pv 0)) (pd_var 1 (pv 1))))))) pdss_nil)
      (pdss_cons (pds_if (pdt_val (pd_callB call_isi cd_isi rfl T.z_isinstance (by decide +kernel) (pda_cons (pd_var 1 (pv 1)) (pda_cons (pd_ty (n := "int") rfl T.z_int (by decide +kernel)) pda_nil)))) (pdss_one (pds_ret (pd_and (pd_callP (dds := []) (ok_law_whole T) (hr.mono (by first | decide | omega)) T.m_law_whole T.F_law_whole.kp T.b_law_whole .nil (fun _ _ => rfl) tk (pda_cons (pd_var 0 (pv 0)) pda_nil)) (pd_one (pd_cmp (op_eqD hr.units) opd_eq (pd_var 0 (pv 0)) (pd_var 1 (pv 1))))))) pdss_nil)
      (pdss_cons (pds_if (pdt_val (pd_callB call_isi cd_isi rfl T.z_isinstance (by decide +kernel) (pda_cons (pd_var 1 (pv 1)) (pda_cons (pd_ty (n := "str") rfl T.z_str (by decide +kernel)) pda_nil)))) (pdss_one (pds_ret (pd_and (pd_callB call_isi cd_isi rfl T.z_isinstance (by decide +kernel) (pda_cons (pd_var 0 (pv 0)) (pda_cons (pd_ty (n := "str") rfl T.z_str (by decide +kernel)) pda_nil))) (pd_one (pd_cmp (op_eqD hr.units) opd_eq (pd_var 0 (pv 0)) (pd_var 1 (pv 1))))))) pdss_nil)
      (pdss_cons (pds_if (pdw_pdt (pdw_or (pdt_cmp (op_neD hr.units) opd_ne (pd_callB call_isi cd_isi rfl T.z_isinstance (by decide +kernel) (pda_cons (pd_var 1 (pv 1)) (pda_cons (pd_ty (n := "list") rfl T.z_list (by decide +kernel)) pda_nil))) (pd_callB call_isi cd_isi rfl T.z_isinstance (by decide +kernel) (pda_cons (pd_var 0 (pv 0)) (pda_cons (pd_ty (n := "list") rfl T.z_list (by decide +kernel)) pda_nil)))) (pdw_or1 (pdt_cmp (op_neD hr.units) opd_ne (pd_callB call_isi cd_isi rfl T.z_isinstance (by decide +kernel) (pda_cons (pd_var 1 (pv 1)) (pda_cons (pd_ty (n := "tuple") rfl T.z_tuple (by decide +kernel)) pda_nil))) (pd_callB call_isi cd_isi rfl T.z_isinstance (by decide +kernel) (pda_cons (pd_var 0 (pv 0)) (pda_cons (pd_ty (n := "tuple") rfl T.z_tuple (by decide +kernel)) pda_nil))))))) (pdss_one (pds_ret pd_bl)) pdss_nil)
      (pdss_cons (pds_if (pdt_cmp (op_neD hr.units) opd_ne (pd_callB call_len cd_len rfl T.z_len (by decide +kernel) (pda_cons (pd_var 0 (pv 0)) pda_nil)) (pd_callB call_len cd_len rfl T.z_len (by decide +kernel) (pda_cons (pd_var 1 (pv 1)) pda_nil))) (pdss_one (pds_ret pd_bl)) pdss_nil)
      (pdss_one (pds_ret (pd_callB (cr_all rfl) cd_all rfl T.z_all (by decide +kernel) (pda_cons (pd_lc (own := [("_law_spot", 2)]) rfl sc_law_same.nd (pdi_range1 rfl T.z_range (pda_cons (pd_callB call_len cd_len rfl T.z_len (by decide +kernel) (pda_cons (pd_var 1 (pv 1)) pda_nil)) pda_nil)) (blkOk_by (N := N_law_same) (sc := defScope s_law_same) (by decide +kernel)) (fun _ _ _ _ _ => (pdg_name sc_law_same.nd rfl (by first | exact Or.inl rfl | exact Or.inr rfl))) (fun _ _ _ _ _ => pdts_nil) (fun _ _ _ _ _ => (pd_callP (dds := []) (IH) (hr.mono (by first | decide | omega)) T.m_law_same T.F_law_same.kp T.b_law_same .nil (fun _ _ => rfl) takes0 (pda_cons (pd_ix (pd_var 0 (pv 0)) (pd_var 2 (pv 2))) (pda_cons (pd_ix (pd_var 1 (pv 1)) (pd_var 2 (pv 2))) pda_nil)))) (by decide)) pda_nil))))))))))
theorem same0 {f : Addr} {fd : FuncData} : FnOk P w K mg base (L2.CX P w) 1 f fd ["_law_found", "_law_due"] (spP K mg 2 (g_sameN 0)) :=
  ⟨fun _ _ _ _ q => spP_len q, fun _ _ _ _ _ _ _ _ _ _ _ _ _ hs => by obtain ⟨_, _, _, _, _, z⟩ := hs; exact z.elim⟩
theorem sameN_ok (T : Tx w K mg A) : ∀ n, FnOk P w K mg base (L2.CX P w) (n + 1) A.f_law_same A.d_law_same ["_law_found", "_law_due"] (spP K mg 2 (g_sameN n))
  | 0 => same0
  | n + 1 => fn_asP (fn_pure (bd_law_same T (sameN_ok T n))) (eq_law_same n)
theorem ok_law_same (T : Tx w K mg A) : FnOk P w K mg base (L2.CX P w) 6 A.f_law_same A.d_law_same ["_law_found", "_law_due"] (spP K mg 2 g_law_same) := sameN_ok T 5

theorem bd_law_one (T : Tx w K mg A) : FnOk P w K mg base (L2.CX P w) 2 A.f_law_one A.d_law_one ["_law_bag_here", "_law_row"] (spD K mg 2 (runF 2 b_law_one)) :=
  fn_st T.F_law_one sc_law_one fun cdv Ar outer s H E hr => by
    have tk : Takes (cxOf (L2.CX P w) P w K mg base N_law_one "_law_one" (defScope s_law_one) A.f_law_one cdv Ar outer s H E) (fun cls d _ H' => E cls d H') := takes_of rfl rfl rfl rfl
    exact (pdss_one (pds_ret (pd_ix (pd_var 1 (pv 1)) (pd_callS (dds := []) (ok_law_pull T) (hr.mono (by first | decide | omega)) T.m_law_pull T.F_law_pull.kp T.b_law_pull .nil (fun _ _ => rfl) tk (pda_cons (pd_var 0 (pv 0)) (pda_cons (pd_callB call_len cd_len rfl T.z_len (by decide +kernel) (pda_cons (pd_var 1 (pv 1)) pda_nil)) pda_nil))))))
theorem ok_law_one (T : Tx w K mg A) : FnOk P w K mg base (L2.CX P w) 2 A.f_law_one A.d_law_one ["_law_bag_here", "_law_row"] (spD K mg 2 g_law_one) :=
  fn_as (bd_law_one T) eq_law_one
theorem bd_law_bytes (T : Tx w K mg A) : FnOk P w K mg base (L2.CX P w) 2 A.f_law_bytes A.d_law_bytes ["_law_bag_here", "_law_most"] (spD K mg 2 (runF 4 b_law_bytes)) :=
  fn_st T.F_law_bytes sc_law_bytes fun cdv Ar outer s H E hr => by
    have tk : Takes (cxOf (L2.CX P w) P w K mg base N_law_bytes "_law_bytes" (defScope s_law_bytes) A.f_law_bytes cdv Ar outer s H E) (fun cls d _ H' => E cls d H') := takes_of rfl rfl rfl rfl
    exact (pdss_cons (pds_set (i := 2) sc_law_bytes.nd rfl (by first | exact Or.inl rfl | exact Or.inr rfl) (pd_callS (dds := []) (ok_law_pull T) (hr.mono (by first | decide | omega)) T.m_law_pull T.F_law_pull.kp T.b_law_pull .nil (fun _ _ => rfl) tk (pda_cons (pd_var 0 (pv 0)) (pda_cons (pd_op op_addA opd_add (pd_var 1 (pv 1)) pd_int) pda_nil))))
      (pdss_cons (pds_if (pdt_cmp (op_eqD hr.units) opd_eq (pd_callS (dds := []) (ok_law_pull T) (hr.mono (by first | decide | omega)) T.m_law_pull T.F_law_pull.kp T.b_law_pull .nil (fun _ _ => rfl) tk (pda_cons (pd_var 0 (pv 0)) (pda_cons pd_int pda_nil))) pd_int) (pdss_one (pds_ret (pd_op op_mulA opd_mul (pd_tup (pda_cons (pd_callS (dds := []) (ok_law_pull T) (hr.mono (by first | decide | omega)) T.m_law_pull T.F_law_pull.kp T.b_law_pull .nil (fun _ _ => rfl) tk (pda_cons (pd_var 0 (pv 0)) (pda_cons pd_int pda_nil))) pda_nil)) (pd_var 2 (pv 2))))) pdss_nil)
      (pdss_one (pds_ret (pd_callTy call_tuple_of cd_tuple rfl T.z_tuple (by decide +kernel) (pda_cons (pd_lc (own := [("_law_k", 3)]) rfl sc_law_bytes.nd (pdi_range1 rfl T.z_range (pda_cons (pd_var 2 (pv 2)) pda_nil)) (blkOk_by (N := N_law_bytes) (sc := defScope s_law_bytes) (by decide +kernel)) (fun _ _ _ _ _ => (pdg_name sc_law_bytes.nd rfl (by first | exact Or.inl rfl | exact Or.inr rfl))) (fun _ _ _ _ _ => pdts_nil) (fun _ _ _ _ _ => (pd_callS (dds := []) (ok_law_pull T) (hr.mono (by first | decide | omega)) T.m_law_pull T.F_law_pull.kp T.b_law_pull .nil (fun _ _ => rfl) takes0 (pda_cons (pd_var 0 (pv 0)) (pda_cons pd_int pda_nil)))) (by decide)) pda_nil))))))
theorem ok_law_bytes (T : Tx w K mg A) : FnOk P w K mg base (L2.CX P w) 2 A.f_law_bytes A.d_law_bytes ["_law_bag_here", "_law_most"] (spD K mg 2 g_law_bytes) :=
  fn_as (bd_law_bytes T) eq_law_bytes
theorem bd_law_turn (T : Tx w K mg A) : FnOk P w K mg base (L2.CX P w) 3 A.f_law_turn A.d_law_turn ["_law_bag_here", "_law_frame"] (spD K mg 2 (runF 8 b_law_turn)) :=
  fn_st T.F_law_turn sc_law_turn fun cdv Ar outer s H E hr => by
    have tk : Takes (cxOf (L2.CX P w) P w K mg base N_law_turn "_law_turn" (defScope s_law_turn) A.f_law_turn cdv Ar outer s H E) (fun cls d _ H' => E cls d H') := takes_of rfl rfl rfl rfl
    exact (pdss_cons (pds_par (i := 2) (j := 3) rfl sc_law_turn.nd rfl rfl (by decide) rfl rfl (pda_cons (pd_callS (dds := []) (ok_law_pull T) (hr.mono (by first | decide | omega)) T.m_law_pull T.F_law_pull.kp T.b_law_pull .nil (fun _ _ => rfl) tk (pda_cons (pd_var 0 (pv 0)) (pda_cons pd_int pda_nil))) (pda_cons (pd_callS (dds := []) (ok_law_pull T) (hr.mono (by first | decide | omega)) T.m_law_pull T.F_law_pull.kp T.b_law_pull .nil (fun _ _ => rfl) tk (pda_cons (pd_var 0 (pv 0)) (pda_cons pd_int pda_nil))) pda_nil)))
      (pdss_cons (pds_set (i := 4) sc_law_turn.nd rfl (by first | exact Or.inl rfl | exact Or.inr rfl) (pd_cmp op_gt opd_gt (pd_callS (dds := []) (ok_law_pull T) (hr.mono (by first | decide | omega)) T.m_law_pull T.F_law_pull.kp T.b_law_pull .nil (fun _ _ => rfl) tk (pda_cons (pd_var 0 (pv 0)) (pda_cons pd_int pda_nil))) pd_int))
      (pdss_cons (pds_if (pdt_cmp (op_eqD hr.units) opd_eq (pd_callS (dds := []) (ok_law_pull T) (hr.mono (by first | decide | omega)) T.m_law_pull T.F_law_pull.kp T.b_law_pull .nil (fun _ _ => rfl) tk (pda_cons (pd_var 0 (pv 0)) (pda_cons pd_int pda_nil))) pd_int) (pdss_cons (pds_set (i := 5) sc_law_turn.nd rfl (by first | exact Or.inl rfl | exact Or.inr rfl) (pd_new (pda_cons (pd_tup (pda_cons (pd_var 1 (pv 1)) (pda_cons pd_str (pda_cons (pd_tup (pda_cons pd_str (pda_cons (pd_var 2 (pv 2)) (pda_cons (pd_var 3 (pv 3)) pda_nil)))) (pda_cons (pd_var 4 (pv 4)) pda_nil))))) pda_nil)))
      (pdss_cons (pds_if (pdw_pdt (pdw_and (pdt_val (pd_var 4 (pv 4))) (pdw_and1 (pdt_cmp op_gt opd_gt (pd_callS (dds := []) (ok_law_pull T) (hr.mono (by first | decide | omega)) T.m_law_pull T.F_law_pull.kp T.b_law_pull .nil (fun _ _ => rfl) tk (pda_cons (pd_var 0 (pv 0)) (pda_cons pd_int pda_nil))) pd_int)))) (pdss_cons (pds_set (i := 6) sc_law_turn.nd rfl (by first | exact Or.inl rfl | exact Or.inr rfl) (pd_callS (dds := []) (ok_law_one T) (hr.mono (by first | decide | omega)) T.m_law_one T.F_law_one.kp T.b_law_one .nil (fun _ _ => rfl) tk (pda_cons (pd_var 0 (pv 0)) (pda_cons (pd_lst (pda_cons (pd_tup (pda_cons pd_str (pda_cons (pd_callS (dds := []) (ok_law_pull T) (hr.mono (by first | decide | omega)) T.m_law_pull T.F_law_pull.kp T.b_law_pull .nil (fun _ _ => rfl) tk (pda_cons (pd_var 0 (pv 0)) (pda_cons pd_int pda_nil))) (pda_cons (pd_callS (dds := []) (ok_law_bytes T) (hr.mono (by first | decide | omega)) T.m_law_bytes T.F_law_bytes.kp T.b_law_bytes .nil (fun _ _ => rfl) tk (pda_cons (pd_var 0 (pv 0)) (pda_cons pd_int pda_nil))) pda_nil)))) (pda_cons (pd_tup (pda_cons pd_str pda_nil)) (pda_cons (pd_tup (pda_cons pd_str pda_nil)) pda_nil)))) pda_nil))))
      (pdss_cons (pds_set (i := 7) sc_law_turn.nd rfl (by first | exact Or.inl rfl | exact Or.inr rfl) (pd_cmp op_gt opd_gt (pd_callS (dds := []) (ok_law_pull T) (hr.mono (by first | decide | omega)) T.m_law_pull T.F_law_pull.kp T.b_law_pull .nil (fun _ _ => rfl) tk (pda_cons (pd_var 0 (pv 0)) (pda_cons pd_int pda_nil))) pd_int))
      (pdss_cons (pds_expr (pd_lstM (fun h1 h2 => pe_bm PySem.F.plainAttrs_list PySem.F.slot_list_append PySem.F.type_list_append mt_append h1 h2) md_append (pd_var 5 (pv 5)) (pda_cons (pd_tup (pda_cons (pd_var 1 (pv 1)) (pda_cons pd_str (pda_cons (pd_var 6 (pv 6)) (pda_cons (pd_var 7 (pv 7)) pda_nil))))) pda_nil)))
      (pdss_one (pds_if (pdw_pdt (pdw_and (pdt_cmp (op_eqD hr.units) opd_eq (pd_ix (pd_var 6 (pv 6)) pd_int) pd_str) (pdw_and1 (pdt_val (pd_var 7 (pv 7)))))) (pdss_one (pds_expr (pd_lstM (fun h1 h2 => pe_bm PySem.F.plainAttrs_list PySem.F.slot_list_append PySem.F.type_list_append mt_append h1 h2) md_append (pd_var 5 (pv 5)) (pda_cons (pd_tup (pda_cons (pd_var 1 (pv 1)) (pda_cons pd_str (pda_cons (pd_tup (pda_cons pd_str pda_nil)) (pda_cons (pd_cmp (op_eqD hr.units) opd_eq (pd_callS (dds := []) (ok_law_pull T) (hr.mono (by first | decide | omega)) T.m_law_pull T.F_law_pull.kp T.b_law_pull .nil (fun _ _ => rfl) tk (pda_cons (pd_var 0 (pv 0)) (pda_cons pd_int pda_nil))) pd_int) pda_nil))))) pda_nil)))) pdss_nil))))) pdss_nil)
      (pdss_one (pds_ret (pd_varZ 5 (pv 5)))))) pdss_nil)
      (pdss_cons (pds_set (i := 5) sc_law_turn.nd rfl (by first | exact Or.inl rfl | exact Or.inr rfl) (pd_new (pda_cons (pd_tup (pda_cons (pd_var 1 (pv 1)) (pda_cons pd_str (pda_cons (pd_tup (pda_cons (pd_callS (dds := []) (ok_law_one T) (hr.mono (by first | decide | omega)) T.m_law_one T.F_law_one.kp T.b_law_one .nil (fun _ _ => rfl) tk (pda_cons (pd_var 0 (pv 0)) (pda_cons (pd_lst (pda_cons pd_str (pda_cons pd_str pda_nil))) pda_nil))) (pda_cons (pd_var 2 (pv 2)) (pda_cons (pd_var 3 (pv 3)) pda_nil)))) (pda_cons (pd_var 4 (pv 4)) pda_nil))))) pda_nil)))
      (pdss_cons (pds_set (i := 7) sc_law_turn.nd rfl (by first | exact Or.inl rfl | exact Or.inr rfl) (pd_and (pd_var 4 (pv 4)) (pd_one (pd_cmp op_gt opd_gt (pd_callS (dds := []) (ok_law_pull T) (hr.mono (by first | decide | omega)) T.m_law_pull T.F_law_pull.kp T.b_law_pull .nil (fun _ _ => rfl) tk (pda_cons (pd_var 0 (pv 0)) (pda_cons pd_int pda_nil))) pd_int))))
      (pdss_cons (pds_expr (pd_lstM (fun h1 h2 => pe_bm PySem.F.plainAttrs_list PySem.F.slot_list_append PySem.F.type_list_append mt_append h1 h2) md_append (pd_var 5 (pv 5)) (pda_cons (pd_tup (pda_cons (pd_var 1 (pv 1)) (pda_cons pd_str (pda_cons (pd_tup (pda_cons pd_str (pda_cons (pd_callS (dds := []) (ok_law_pull T) (hr.mono (by first | decide | omega)) T.m_law_pull T.F_law_pull.kp T.b_law_pull .nil (fun _ _ => rfl) tk (pda_cons (pd_var 0 (pv 0)) (pda_cons pd_int pda_nil))) (pda_cons (pd_callS (dds := []) (ok_law_bytes T) (hr.mono (by first | decide | omega)) T.m_law_bytes T.F_law_bytes.kp T.b_law_bytes .nil (fun _ _ => rfl) tk (pda_cons (pd_var 0 (pv 0)) (pda_cons pd_int pda_nil))) pda_nil)))) (pda_cons (pd_var 7 (pv 7)) pda_nil))))) pda_nil)))
      (pdss_cons (pds_if (pdw_pdt (pdw_and (pdt_val (pd_var 7 (pv 7))) (pdw_and1 (pdt_cmp op_gt opd_gt (pd_callS (dds := []) (ok_law_pull T) (hr.mono (by first | decide | omega)) T.m_law_pull T.F_law_pull.kp T.b_law_pull .nil (fun _ _ => rfl) tk (pda_cons (pd_var 0 (pv 0)) (pda_cons pd_int pda_nil))) pd_int)))) (pdss_one (pds_expr (pd_lstM (fun h1 h2 => pe_bm PySem.F.plainAttrs_list PySem.F.slot_list_append PySem.F.type_list_append mt_append h1 h2) md_append (pd_var 5 (pv 5)) (pda_cons (pd_tup (pda_cons (pd_var 1 (pv 1)) (pda_cons pd_str (pda_cons (pd_tup (pda_cons (pd_callS (dds := []) (ok_law_one T) (hr.mono (by first | decide | omega)) T.m_law_one T.F_law_one.kp T.b_law_one .nil (fun _ _ => rfl) tk (pda_cons (pd_var 0 (pv 0)) (pda_cons (pd_lst (pda_cons pd_str (pda_cons pd_str (pda_cons pd_str pda_nil)))) pda_nil))) pda_nil)) (pda_cons (pd_cmp (op_eqD hr.units) opd_eq (pd_callS (dds := []) (ok_law_pull T) (hr.mono (by first | decide | omega)) T.m_law_pull T.F_law_pull.kp T.b_law_pull .nil (fun _ _ => rfl) tk (pda_cons (pd_var 0 (pv 0)) (pda_cons pd_int pda_nil))) pd_int) pda_nil))))) pda_nil)))) pdss_nil)
      (pdss_one (pds_ret (pd_varZ 5 (pv 5)))))))))))
theorem ok_law_turn (T : Tx w K mg A) : FnOk P w K mg base (L2.CX P w) 3 A.f_law_turn A.d_law_turn ["_law_bag_here", "_law_frame"] (spD K mg 2 g_law_turn) :=
  fn_as (fn_cut (bd_law_turn T)) eq_law_turn
theorem bd_law_made (T : Tx w K mg A) : FnOk P w K mg base (L2.CX P w) 4 A.f_law_made A.d_law_made ["_law_bag_here"] (spD K mg 1 (runF 5 b_law_made)) :=
  fn_st T.F_law_made sc_law_made fun cdv Ar outer s H E hr => by
    have tk : Takes (cxOf (L2.CX P w) P w K mg base N_law_made "_law_made" (defScope s_law_made) A.f_law_made cdv Ar outer s H E) (fun cls d _ H' => E cls d H') := takes_of rfl rfl rfl rfl
    exact (pdss_cons (pds_set (i := 1) sc_law_made.nd rfl (by first | exact Or.inl rfl | exact Or.inr rfl) (pd_callS (dds := []) (ok_law_one T) (hr.mono (by first | decide | omega)) T.m_law_one T.F_law_one.kp T.b_law_one .nil (fun _ _ => rfl) tk (pda_cons (pd_var 0 (pv 0)) (pda_cons (pd_lst (pda_cons pd_int (pda_cons pd_int (pda_cons pd_int (pda_cons pd_int (pda_cons pd_int pda_nil)))))) pda_nil))))
      (pdss_cons (pds_set (i := 2) sc_law_made.nd rfl (by first | exact Or.inl rfl | exact Or.inr rfl) (pd_new pda_nil))
      (pdss_cons (pds_for (passes_of rfl) rfl (pdi_range1 rfl T.z_range (pda_cons (pd_callS (dds := []) (ok_law_pull T) (hr.mono (by first | decide | omega)) T.m_law_pull T.F_law_pull.kp T.b_law_pull .nil (fun _ _ => rfl) tk (pda_cons (pd_var 0 (pv 0)) (pda_cons pd_int pda_nil))) pda_nil)) (pdg_name sc_law_made.nd rfl (by first | exact Or.inl rfl | exact Or.inr rfl)) (pdss_cons (pds_expr (pd_lstM (fun h1 h2 => pe_bm PySem.F.plainAttrs_list PySem.F.slot_list_append PySem.F.type_list_append mt_append h1 h2) md_append (pd_var 2 (pv 2)) (pda_cons (pd_tup (pda_cons (pd_var 1 (pv 1)) (pda_cons pd_str (pda_cons (pd_tup (pda_cons pd_str (pda_cons (pd_op op_mod opd_mod (pd_var 1 (pv 1)) pd_int) pda_nil))) (pda_cons (pd_cmp op_gt opd_gt (pd_callS (dds := []) (ok_law_pull T) (hr.mono (by first | decide | omega)) T.m_law_pull T.F_law_pull.kp T.b_law_pull .nil (fun _ _ => rfl) tk (pda_cons (pd_var 0 (pv 0)) (pda_cons pd_int pda_nil))) pd_int) pda_nil))))) pda_nil)))
      (pdss_cons (pds_for (passes_of rfl) rfl (pdi_range1 rfl T.z_range (pda_cons (pd_callS (dds := []) (ok_law_pull T) (hr.mono (by first | decide | omega)) T.m_law_pull T.F_law_pull.kp T.b_law_pull .nil (fun _ _ => rfl) tk (pda_cons (pd_var 0 (pv 0)) (pda_cons (pd_ix (pd_lst (pda_cons pd_int (pda_cons pd_int pda_nil))) (pd_callTy call_int1 cd_int rfl T.z_int (by decide +kernel) (pda_cons (pd_cmp (op_eqD hr.units) opd_eq (pd_callS (dds := []) (ok_law_pull T) (hr.mono (by first | decide | omega)) T.m_law_pull T.F_law_pull.kp T.b_law_pull .nil (fun _ _ => rfl) tk (pda_cons (pd_var 0 (pv 0)) (pda_cons pd_int pda_nil))) pd_int) pda_nil))) pda_nil))) pda_nil)) (pdg_name sc_law_made.nd rfl (by first | exact Or.inl rfl | exact Or.inr rfl)) (pdss_one (pds_set (i := 2) sc_law_made.nd rfl (by first | exact Or.inl rfl | exact Or.inr rfl) (pd_op op_addA opd_addN (pd_var 2 (pv 2)) (pd_callS (dds := []) (ok_law_turn T) (hr.mono (by first | decide | omega)) T.m_law_turn T.F_law_turn.kp T.b_law_turn .nil (fun _ _ => rfl) tk (pda_cons (pd_var 0 (pv 0)) (pda_cons (pd_var 1 (pv 1)) pda_nil)))))))
      (pdss_one (pds_set (i := 1) sc_law_made.nd rfl (by first | exact Or.inl rfl | exact Or.inr rfl) (pd_op op_addA opd_add (pd_var 1 (pv 1)) pd_int))))))
      (pdss_one (pds_ret (pd_varZ 2 (pv 2)))))))
theorem ok_law_made (T : Tx w K mg A) : FnOk P w K mg base (L2.CX P w) 4 A.f_law_made A.d_law_made ["_law_bag_here"] (spD K mg 1 g_law_made) :=
  fn_as (fn_cut (bd_law_made T)) eq_law_made
theorem bd_law_after (T : Tx w K mg A) : FnOk P w K mg base (L2.CX P w) 1 A.f_law_after A.d_law_after ["_law_row"] (spD K mg 1 (runF 6 b_law_after)) :=
  fn_st T.F_law_after sc_law_after fun cdv Ar outer s H E hr => by
    have tk : Takes (cxOf (L2.CX P w) P w K mg base N_law_after "_law_after" (defScope s_law_after) A.f_law_after cdv Ar outer s H E) (fun cls d _ H' => E cls d H') := takes_of rfl rfl rfl rfl
    exact (pdss_cons (pds_asg (pd_var 0 (pv 0)) (pdg_tup (is := [1, 2, 3, 4]) rfl (pgs_cons (pg_name (i := 1) sc_law_after.nd rfl (by first | exact Or.inl rfl | exact Or.inr rfl)) (pgs_cons (pg_name (i := 2) sc_law_after.nd rfl (by first | exact Or.inl rfl | exact Or.inr rfl)) (pgs_cons (pg_name (i := 3) sc_law_after.nd rfl (by first | exact Or.inl rfl | exact Or.inr rfl)) (pgs_cons (pg_name (i := 4) sc_law_after.nd rfl (by first | exact Or.inl rfl | exact Or.inr rfl)) pgs_nil))))))
      (pdss_cons (pds_set (i := 5) sc_law_after.nd rfl (by first | exact Or.inl rfl | exact Or.inr rfl) (pd_lst (pda_cons pd_str (pda_cons pd_str (pda_cons pd_str (pda_cons pd_str pda_nil))))))
      (pdss_cons (pds_if (pdt_cmp op_in_seq opd_in (pd_ix (pd_var 3 (pv 3)) pd_int) (pd_tup (pda_cons pd_str (pda_cons pd_str pda_nil)))) (pdss_one (pds_ret (pd_lst (pda_cons pd_str pda_nil)))) pdss_nil)
      (pdss_cons (pds_if (pdw_pdt (pdw_and (pdt_cmp (op_eqD hr.units) opd_eq (pd_ix (pd_var 3 (pv 3)) pd_int) pd_str) (pdw_and1 (pdt_val (pd_var 4 (pv 4)))))) (pdss_one (pds_ret (pd_op op_addA opd_add (pd_var 5 (pv 5)) (pd_lst (pda_cons pd_str (pda_cons pd_str (pda_cons pd_str pda_nil))))))) pdss_nil)
      (pdss_cons (pds_if (pdw_pdt (pdw_and (pdt_cmp (op_eqD hr.units) opd_eq (pd_ix (pd_var 3 (pv 3)) pd_int) pd_str) (pdw_and1 (pdt_val (pd_var 4 (pv 4)))))) (pdss_one (pds_ret (pd_if (pdt_cmp (op_eqD hr.units) opd_eq (pd_var 2 (pv 2)) pd_str) (pd_lst (pda_cons pd_str pda_nil)) (pd_op op_addA opd_add (pd_var 5 (pv 5)) (pd_lst (pda_cons pd_str (pda_cons pd_str (pda_cons pd_str pda_nil)))))))) pdss_nil)
      (pdss_one (pds_ret (pd_var 5 (pv 5)))))))))
theorem ok_law_after (T : Tx w K mg A) : FnOk P w K mg base (L2.CX P w) 1 A.f_law_after A.d_law_after ["_law_row"] (spP K mg 1 g_law_after) :=
  fn_asP (fn_pure (bd_law_after T)) eq_law_after
theorem bd_law_shape (T : Tx w K mg A) : FnOk P w K mg base (L2.CX P w) 1 A.f_law_shape A.d_law_shape ["_law_row"] (spD K mg 1 (runF 8 b_law_shape)) :=
  fn_st T.F_law_shape sc_law_shape fun cdv Ar outer s H E hr => by
    have tk : Takes (cxOf (L2.CX P w) P w K mg base N_law_shape "_law_shape" (defScope s_law_shape) A.f_law_shape cdv Ar outer s H E) (fun cls d _ H' => E cls d H') := takes_of rfl rfl rfl rfl
    exact (pdss_cons (pds_asg (pd_var 0 (pv 0)) (pdg_tup (is := [1, 2, 3, 4]) rfl (pgs_cons (pg_name (i := 1) sc_law_shape.nd rfl (by first | exact Or.inl rfl | exact Or.inr rfl)) (pgs_cons (pg_name (i := 2) sc_law_shape.nd rfl (by first | exact Or.inl rfl | exact Or.inr rfl)) (pgs_cons (pg_name (i := 3) sc_law_shape.nd rfl (by first | exact Or.inl rfl | exact Or.inr rfl)) (pgs_cons (pg_name (i := 4) sc_law_shape.nd rfl (by first | exact Or.inl rfl | exact Or.inr rfl)) pgs_nil))))))
      (pdss_cons (pds_set (i := 5) sc_law_shape.nd rfl (by first | exact Or.inl rfl | exact Or.inr rfl) (pd_disp (pdp_cons pd_str pd_int (pdp_cons pd_str pd_int (pdp_cons pd_str pd_int (pdp_cons pd_str pd_int (pdp_cons pd_str pd_int (pdp_cons pd_str pd_int (pdp_cons pd_str pd_int (pdp_cons pd_str pd_int pdp_nil))))))))))
      (pdss_cons (pds_if (pdw_pdt (pdw_or (pdt_cmp op_lt opd_lt (pd_var 1 (pv 1)) pd_int) (pdw_or (pdt_dnotin (by first | (have := hr.units; omega) | exact Nat.lt_of_le_of_lt (Nat.add_le_add_left (by decide) _) hr.units) (pd_ix (pd_var 3 (pv 3)) pd_int) (pd_var 5 (pv 5))) (pdw_or1 (pdt_cmp (op_neD hr.units) opd_ne (pd_callB call_len cd_len rfl T.z_len (by decide +kernel) (pda_cons (pd_var 3 (pv 3)) pda_nil)) (pd_dget (by first | (have := hr.units; omega) | exact Nat.lt_of_le_of_lt (Nat.add_le_add_left (by decide) _) hr.units) (pd_var 5 (pv 5)) (pd_ix (pd_var 3 (pv 3)) pd_int) (fun _ _ => rfl))))))) (pdss_one (pds_ret pd_bl)) pdss_nil)
      (pdss_cons (pds_set (i := 6) sc_law_shape.nd rfl (by first | exact Or.inl rfl | exact Or.inr rfl) (pd_disp (pdp_cons pd_str (pd_lst (pda_cons pd_str (pda_cons pd_str pda_nil))) (pdp_cons pd_str (pd_lst (pda_cons pd_str (pda_cons pd_str pda_nil))) (pdp_cons pd_str (pd_lst (pda_cons pd_str pda_nil)) (pdp_cons pd_str (pd_lst (pda_cons pd_str pda_nil)) pdp_nil))))))
      (pdss_cons (pds_if (pdt_cmp op_notIn_seq opd_in (pd_var 2 (pv 2)) (pd_dget2 (by first | (have := hr.units; omega) | exact Nat.lt_of_le_of_lt (Nat.add_le_add_left (by decide) _) hr.units) (pd_var 6 (pv 6)) (pd_ix (pd_var 3 (pv 3)) pd_int) (pd_lst (pda_cons pd_str pda_nil)))) (pdss_one (pds_ret pd_bl)) pdss_nil)
      (pdss_cons (pds_if (pdt_cmp (op_eqD hr.units) opd_eq (pd_ix (pd_var 3 (pv 3)) pd_int) pd_str) (pdss_one (pds_ret (pd_cmp (op_eqD hr.units) opd_eq (pd_ix (pd_var 3 (pv 3)) pd_int) (pd_op op_mod opd_mod (pd_var 1 (pv 1)) pd_int)))) pdss_nil)
      (pdss_cons (pds_if (pdt_cmp (op_eqD hr.units) opd_eq (pd_ix (pd_var 3 (pv 3)) pd_int) pd_str) (pdss_one (pds_ret (pd_and (pd_cmp op_in_seq opd_in (pd_ix (pd_var 3 (pv 3)) pd_int) (pd_tup (pda_cons pd_int (pda_cons pd_int pda_nil)))) (pd_and (pd_cmp op_le opd_le (pd_callB call_len cd_len rfl T.z_len (by decide +kernel) (pda_cons (pd_ix (pd_var 3 (pv 3)) pd_int) pda_nil)) pd_int) (pd_one (pd_callB (cr_all rfl) cd_all rfl T.z_all (by decide +kernel) (pda_cons (pd_lc (own := [("_law_byte", 7)]) rfl sc_law_shape.nd (pdi_tup (pd_ix (pd_var 3 (pv 3)) pd_int)) (blkOk_by (N := N_law_shape) (sc := defScope s_law_shape) (by decide +kernel)) (fun _ _ _ _ _ => (pdg_name sc_law_shape.nd rfl (by first | exact Or.inl rfl | exact Or.inr rfl))) (fun _ _ _ _ _ => pdts_nil) (fun _ _ _ _ _ => (pd_chain op_le opd_le op_lt opd_lt pd_int (pd_var 7 (pv 7)) pd_int)) (by decide)) pda_nil))))))) pdss_nil)
      (pdss_one (pds_ret (pd_or (pd_cmp (op_eqD hr.units) opd_eq (pd_callB call_len cd_len rfl T.z_len (by decide +kernel) (pda_cons (pd_var 3 (pv 3)) pda_nil)) pd_int) (pd_one (pd_and (pd_chain op_le opd_le op_le opd_le pd_int (pd_ix (pd_var 3 (pv 3)) pd_int) pd_int) (pd_one (pd_chain op_le opd_le op_le opd_le pd_int (pd_ix (pd_var 3 (pv 3)) pd_int) pd_int))))))))))))))
theorem ok_law_shape (T : Tx w K mg A) : FnOk P w K mg base (L2.CX P w) 1 A.f_law_shape A.d_law_shape ["_law_row"] (spP K mg 1 g_law_shape) :=
  fn_asP (fn_pure (bd_law_shape T)) eq_law_shape
theorem bd_law_wrong (T : Tx w K mg A) : FnOk P w K mg base (L2.CX P w) 2 A.f_law_wrong A.d_law_wrong ["_law_rows"] (spD K mg 1 (runF 6 b_law_wrong)) :=
  fn_st T.F_law_wrong sc_law_wrong fun cdv Ar outer s H E hr => by
    have tk : Takes (cxOf (L2.CX P w) P w K mg base N_law_wrong "_law_wrong" (defScope s_law_wrong) A.f_law_wrong cdv Ar outer s H E) (fun cls d _ H' => E cls d H') := takes_of rfl rfl rfl rfl
    exact (pdss_cons (pds_set (i := 1) sc_law_wrong.nd rfl (by first | exact Or.inl rfl | exact Or.inr rfl) pd_int)
      (pdss_cons (pds_for (passes_of rfl) rfl (pdi_enumL rfl T.z_enumerate (pda_cons (pd_var 0 (pv 0)) pda_nil)) (pdg_tup (is := [2, 3]) rfl (pgs_cons (pg_name (i := 2) sc_law_wrong.nd rfl (by first | exact Or.inl rfl | exact Or.inr rfl)) (pgs_cons (pg_name (i := 3) sc_law_wrong.nd rfl (by first | exact Or.inl rfl | exact Or.inr rfl)) pgs_nil))) (pdss_cons (pds_if (pdt_not (pdt_val (pd_callP (dds := []) (ok_law_shape T) (hr.mono (by first | decide | omega)) T.m_law_shape T.F_law_shape.kp T.b_law_shape .nil (fun _ _ => rfl) tk (pda_cons (pd_var 3 (pv 3)) pda_nil)))) (pdss_one (pds_ret (pd_var 2 (pv 2)))) pdss_nil)
      (pdss_cons (pds_set (i := 4) sc_law_wrong.nd rfl (by first | exact Or.inl rfl | exact Or.inr rfl) (pd_ix (pd_ix (pd_var 3 (pv 3)) pd_int) pd_int))
      (pdss_cons (pds_if (pdw_pdt (pdw_and (pdt_cmp (op_eqD hr.units) opd_eq (pd_var 2 (pv 2)) pd_int) (pdw_and1 (pdt_cmp (op_neD hr.units) opd_ne (pd_var 4 (pv 4)) pd_str)))) (pdss_one (pds_ret (pd_var 2 (pv 2)))) pdss_nil)
      (pdss_cons (pds_if (pdw_pdt (pdw_and (pdt_cmp op_gt opd_gt (pd_var 2 (pv 2)) pd_int) (pdw_and1 (pdt_cmp op_notIn_seq opd_in (pd_op op_addA opd_add (pd_op op_addA opd_add (pd_ix (pd_var 3 (pv 3)) pd_int) pd_str) (pd_var 4 (pv 4))) (pd_callP (dds := []) (ok_law_after T) (hr.mono (by first | decide | omega)) T.m_law_after T.F_law_after.kp T.b_law_after .nil (fun _ _ => rfl) tk (pda_cons (pd_ix (pd_var 0 (pv 0)) (pd_op op_sub opd_sub (pd_var 2 (pv 2)) pd_int)) pda_nil)))))) (pdss_one (pds_ret (pd_var 2 (pv 2)))) pdss_nil)
      (pdss_cons (pds_if (pdw_pdt (pdw_and (pdt_cmp op_gt opd_gt (pd_var 2 (pv 2)) pd_int) (pdw_and1 (pdt_cmp (op_neD hr.units) opd_ne (pd_ix (pd_var 3 (pv 3)) pd_int) (pd_op op_addA opd_add (pd_ix (pd_ix (pd_var 0 (pv 0)) (pd_op op_sub opd_sub (pd_var 2 (pv 2)) pd_int)) pd_int) (pd_callTy call_int1 cd_int rfl T.z_int (by decide +kernel) (pda_cons (pd_cmp (op_eqD hr.units) opd_eq (pd_var 4 (pv 4)) pd_str) pda_nil))))))) (pdss_one (pds_ret (pd_var 2 (pv 2)))) pdss_nil)
      (pdss_cons (pds_set (i := 5) sc_law_wrong.nd rfl (by first | exact Or.inl rfl | exact Or.inr rfl) (pd_dget2 (by first | (have := hr.units; omega) | exact Nat.lt_of_le_of_lt (Nat.add_le_add_left (by decide) _) hr.units) (pd_disp (pdp_cons pd_str pd_int (pdp_cons pd_str pd_int (pdp_cons pd_str pd_int (pdp_cons pd_str pd_int pdp_nil))))) (pd_var 4 (pv 4)) (pd_if (pdt_cmp (op_eqD hr.units) opd_eq (pd_var 4 (pv 4)) pd_str) (pd_callB call_len cd_len rfl T.z_len (by decide +kernel) (pda_cons (pd_ix (pd_ix (pd_var 3 (pv 3)) pd_int) pd_int) pda_nil)) pd_int)))
      (pdss_cons (pds_set (i := 1) sc_law_wrong.nd rfl (by first | exact Or.inl rfl | exact Or.inr rfl) (pd_if (pdt_cmp (op_eqD hr.units) opd_eq (pd_var 4 (pv 4)) pd_str) (pd_var 5 (pv 5)) (pd_op op_addA opd_add (pd_var 1 (pv 1)) (pd_var 5 (pv 5)))))
      (pdss_one (pds_if (pdt_cmp op_gt opd_gt (pd_var 1 (pv 1)) pd_int) (pdss_one (pds_ret (pd_var 2 (pv 2)))) pdss_nil))))))))))
      (pdss_one (pds_ret (pd_op op_sub opd_sub pd_int pd_int)))))
theorem ok_law_wrong (T : Tx w K mg A) : FnOk P w K mg base (L2.CX P w) 2 A.f_law_wrong A.d_law_wrong ["_law_rows"] (spP K mg 1 g_law_wrong) :=
  fn_asP (fn_pure (bd_law_wrong T)) eq_law_wrong
theorem bd_law_bent (T : Tx w K mg A) : FnOk P w K mg base (L2.CX P w) 3 A.f_law_bent A.d_law_bent ["_law_bag_here", "_law_rows"] (spD K mg 2 (runF 10 b_law_bent)) :=
  fn_st T.F_law_bent sc_law_bent fun cdv Ar outer s H E hr => by
    have tk : Takes (cxOf (L2.CX P w) P w K mg base N_law_bent "_law_bent" (defScope s_law_bent) A.f_law_bent cdv Ar outer s H E) (fun cls d _ H' => E cls d H') := takes_of rfl rfl rfl rfl
    exact (pdss_cons (pds_if (pdt_cmp (op_eqD hr.units) opd_eq (pd_var 1 (pv 1)) (pd_lst pda_nil)) (pdss_one (pds_ret (pd_var 1 (pv 1)))) pdss_nil)
      (pdss_cons (pds_set (i := 2) sc_law_bent.nd rfl (by first | exact Or.inl rfl | exact Or.inr rfl) (pd_callS (dds := []) (ok_law_pull T) (hr.mono (by first | decide | omega)) T.m_law_pull T.F_law_pull.kp T.b_law_pull .nil (fun _ _ => rfl) tk (pda_cons (pd_var 0 (pv 0)) (pda_cons (pd_callB call_len cd_len rfl T.z_len (by decide +kernel) (pda_cons (pd_var 1 (pv 1)) pda_nil)) pda_nil))))
      (pdss_cons (pds_set (i := 3) sc_law_bent.nd rfl (by first | exact Or.inl rfl | exact Or.inr rfl) (pd_callS (dds := []) (ok_law_pull T) (hr.mono (by first | decide | omega)) T.m_law_pull T.F_law_pull.kp T.b_law_pull .nil (fun _ _ => rfl) tk (pda_cons (pd_var 0 (pv 0)) (pda_cons (pd_callB call_len cd_len rfl T.z_len (by decide +kernel) (pda_cons (pd_var 1 (pv 1)) pda_nil)) pda_nil))))
      (pdss_cons (pds_asg (pd_ix (pd_var 1 (pv 1)) (pd_var 2 (pv 2))) (pdg_tup (is := [4, 5, 6, 7]) rfl (pgs_cons (pg_name (i := 4) sc_law_bent.nd rfl (by first | exact Or.inl rfl | exact Or.inr rfl)) (pgs_cons (pg_name (i := 5) sc_law_bent.nd rfl (by first | exact Or.inl rfl | exact Or.inr rfl)) (pgs_cons (pg_name (i := 6) sc_law_bent.nd rfl (by first | exact Or.inl rfl | exact Or.inr rfl)) (pgs_cons (pg_name (i := 7) sc_law_bent.nd rfl (by first | exact Or.inl rfl | exact Or.inr rfl)) pgs_nil))))))
      (pdss_cons (pds_set (i := 8) sc_law_bent.nd rfl (by first | exact Or.inl rfl | exact Or.inr rfl) (pd_callS (dds := []) (ok_law_pull T) (hr.mono (by first | decide | omega)) T.m_law_pull T.F_law_pull.kp T.b_law_pull .nil (fun _ _ => rfl) tk (pda_cons (pd_var 0 (pv 0)) (pda_cons pd_int pda_nil))))
      (pdss_cons (pds_if (pdt_cmp (op_eqD hr.units) opd_eq (pd_var 8 (pv 8)) pd_int) (pdss_one (pds_ret (pd_op op_addA opd_add (pd_sl (pd_var 1 (pv 1)) pdo_none (pdo_some (pd_var 2 (pv 2)))) (pd_sl (pd_var 1 (pv 1)) (pdo_some (pd_op op_addA opd_add (pd_var 2 (pv 2)) pd_int)) pdo_none)))) pdss_nil)
      (pdss_cons (pds_if (pdt_cmp (op_eqD hr.units) opd_eq (pd_var 8 (pv 8)) pd_int) (pdss_one (pds_ret (pd_op op_addA opd_add (pd_op op_addA opd_add (pd_sl (pd_var 1 (pv 1)) pdo_none (pdo_some (pd_var 2 (pv 2)))) (pd_lst (pda_cons (pd_ix (pd_var 1 (pv 1)) (pd_var 2 (pv 2))) pda_nil))) (pd_sl (pd_var 1 (pv 1)) (pdo_some (pd_var 2 (pv 2))) pdo_none)))) pdss_nil)
      (pdss_cons (pds_set (i := 9) sc_law_bent.nd rfl (by first | exact Or.inl rfl | exact Or.inr rfl) (pd_callTy call_list_of cd_listN rfl T.z_list (by decide +kernel) (pda_cons (pd_var 1 (pv 1)) pda_nil)))
      (pdss_cons (pds_if (pdt_cmp (op_eqD hr.units) opd_eq (pd_var 8 (pv 8)) pd_int) (pdss_one (pds_asgW (pd_tup (pda_cons (pd_ix (pd_var 9 (pv 9)) (pd_var 3 (pv 3))) (pda_cons (pd_ix (pd_var 9 (pv 9)) (pd_var 2 (pv 2))) pda_nil))) (pdw_tup (n := 2) rfl (pdws_cons (pdw_sub (pd_var 9 (pv 9)) (pd_var 2 (pv 2)) set_list setd_list) (pdws_cons (pdw_sub (pd_var 9 (pv 9)) (pd_var 3 (pv 3)) set_list setd_list) pdws_nil))))) pdss_nil)
      (pdss_cons (pds_if (pdt_cmp (op_eqD hr.units) opd_eq (pd_var 8 (pv 8)) pd_int) (pdss_one (pds_setIx (pd_tup (pda_cons (pd_op op_addA opd_add (pd_var 4 (pv 4)) (pd_ix (pd_lst (pda_cons pd_int (pda_cons (pd_op op_sub opd_sub pd_int pd_int) (pda_cons pd_int pda_nil)))) (pd_callS (dds := []) (ok_law_pull T) (hr.mono (by first | decide | omega)) T.m_law_pull T.F_law_pull.kp T.b_law_pull .nil (fun _ _ => rfl) tk (pda_cons (pd_var 0 (pv 0)) (pda_cons pd_int pda_nil))))) (pda_cons (pd_var 5 (pv 5)) (pda_cons (pd_var 6 (pv 6)) (pda_cons (pd_var 7 (pv 7)) pda_nil))))) (pd_var 9 (pv 9)) (pd_var 2 (pv 2)) set_list setd_list)) pdss_nil)
      (pdss_cons (pds_if (pdt_cmp (op_eqD hr.units) opd_eq (pd_var 8 (pv 8)) pd_int) (pdss_one (pds_setIx (pd_tup (pda_cons (pd_var 4 (pv 4)) (pda_cons (pd_callS (dds := []) (ok_law_one T) (hr.mono (by first | decide | omega)) T.m_law_one T.F_law_one.kp T.b_law_one .nil (fun _ _ => rfl) tk (pda_cons (pd_var 0 (pv 0)) (pda_cons (pd_lst (pda_cons pd_str (pda_cons pd_str (pda_cons pd_str (pda_cons pd_str pda_nil))))) pda_nil))) (pda_cons (pd_var 6 (pv 6)) (pda_cons (pd_var 7 (pv 7)) pda_nil))))) (pd_var 9 (pv 9)) (pd_var 2 (pv 2)) set_list setd_list)) pdss_nil)
      (pdss_cons (pds_if (pdt_cmp (op_eqD hr.units) opd_eq (pd_var 8 (pv 8)) pd_int) (pdss_one (pds_setIx (pd_tup (pda_cons (pd_var 4 (pv 4)) (pda_cons (pd_var 5 (pv 5)) (pda_cons (pd_var 6 (pv 6)) (pda_cons (pd_not (pd_var 7 (pv 7))) pda_nil))))) (pd_var 9 (pv 9)) (pd_var 2 (pv 2)) set_list setd_list)) pdss_nil)
      (pdss_cons (pds_if (pdt_cmp (op_eqD hr.units) opd_eq (pd_var 8 (pv 8)) pd_int) (pdss_one (pds_setIx (pd_tup (pda_cons (pd_var 4 (pv 4)) (pda_cons (pd_var 5 (pv 5)) (pda_cons (pd_op op_addA opd_add (pd_tup (pda_cons (pd_callS (dds := []) (ok_law_one T) (hr.mono (by first | decide | omega)) T.m_law_one T.F_law_one.kp T.b_law_one .nil (fun _ _ => rfl) tk (pda_cons (pd_var 0 (pv 0)) (pda_cons (pd_lst (pda_cons pd_str (pda_cons pd_str (pda_cons pd_str (pda_cons pd_str pda_nil))))) pda_nil))) pda_nil)) (pd_sl (pd_var 6 (pv 6)) (pdo_some pd_int) pdo_none)) (pda_cons (pd_var 7 (pv 7)) pda_nil))))) (pd_var 9 (pv 9)) (pd_var 2 (pv 2)) set_list setd_list)) pdss_nil)
      (pdss_cons (pds_if (pdw_pdt (pdw_and (pdt_cmp (op_eqD hr.units) opd_eq (pd_var 8 (pv 8)) pd_int) (pdw_and1 (pdt_cmp op_gt opd_gt (pd_callB call_len cd_len rfl T.z_len (by decide +kernel) (pda_cons (pd_var 6 (pv 6)) pda_nil)) pd_int)))) (pdss_one (pds_setIx (pd_tup (pda_cons (pd_var 4 (pv 4)) (pda_cons (pd_var 5 (pv 5)) (pda_cons (pd_op op_addA opd_add (pd_op op_addA opd_add (pd_sl (pd_var 6 (pv 6)) pdo_none (pdo_some pd_int)) (pd_tup (pda_cons (pd_op op_addA opd_add (pd_ix (pd_var 6 (pv 6)) pd_int) pd_int) pda_nil))) (pd_sl (pd_var 6 (pv 6)) (pdo_some pd_int) pdo_none)) (pda_cons (pd_var 7 (pv 7)) pda_nil))))) (pd_var 9 (pv 9)) (pd_var 2 (pv 2)) set_list setd_list)) pdss_nil)
      (pdss_one (pds_ret (pd_varZ 9 (pv 9))))))))))))))))))
theorem ok_law_bent (T : Tx w K mg A) : FnOk P w K mg base (L2.CX P w) 3 A.f_law_bent A.d_law_bent ["_law_bag_here", "_law_rows"] (spD K mg 2 g_law_bent) :=
  fn_as (fn_cut (bd_law_bent T)) eq_law_bent
theorem bd_law (T : Tx w K mg A) : FnOk P w K mg base (L2.CX P w) 7 A.f_law A.d_law ["_law_script"] (spD K mg 1 (runF 6 b_law)) :=
  fn_st T.F_law sc_law fun cdv Ar outer s H E hr => by
    have tk : Takes (cxOf (L2.CX P w) P w K mg base N_law "law" (defScope s_law) A.f_law cdv Ar outer s H E) (fun cls d _ H' => E cls d H') := takes_of rfl rfl rfl rfl
    exact (pdss_cons (pds_set (i := 1) sc_law.nd rfl (by first | exact Or.inl rfl | exact Or.inr rfl) (pd_callS (dds := []) (ok_law_bag T) (hr.mono (by first | decide | omega)) T.m_law_bag T.F_law_bag.kp T.b_law_bag .nil (fun _ _ => rfl) tk (pda_cons (pd_var 0 (pv 0)) pda_nil)))
      (pdss_cons (pds_for (passes_of rfl) rfl (pdi_range1 rfl T.z_range (pda_cons pd_int pda_nil)) (pdg_name sc_law.nd rfl (by first | exact Or.inl rfl | exact Or.inr rfl)) (pdss_cons (pds_set (i := 3) sc_law.nd rfl (by first | exact Or.inl rfl | exact Or.inr rfl) (pd_callS (dds := []) (ok_law_made T) (hr.mono (by first | decide | omega)) T.m_law_made T.F_law_made.kp T.b_law_made .nil (fun _ _ => rfl) tk (pda_cons (pd_var 1 (pv 1)) pda_nil)))
      (pdss_cons (pds_for (passes_of rfl) rfl (pdi_range1 rfl T.z_range (pda_cons (pd_callS (dds := []) (ok_law_pull T) (hr.mono (by first | decide | omega)) T.m_law_pull T.F_law_pull.kp T.b_law_pull .nil (fun _ _ => rfl) tk (pda_cons (pd_var 1 (pv 1)) (pda_cons pd_int pda_nil))) pda_nil)) (pdg_name sc_law.nd rfl (by first | exact Or.inl rfl | exact Or.inr rfl)) (pdss_one (pds_set (i := 3) sc_law.nd rfl (by first | exact Or.inl rfl | exact Or.inr rfl) (pd_callS (dds := []) (ok_law_bent T) (hr.mono (by first | decide | omega)) T.m_law_bent T.F_law_bent.kp T.b_law_bent .nil (fun _ _ => rfl) tk (pda_cons (pd_var 1 (pv 1)) (pda_cons (pd_var 3 (pv 3)) pda_nil))))))
      (pdss_cons (pds_set (i := 5) sc_law.nd rfl (by first | exact Or.inl rfl | exact Or.inr rfl) (pd_callTy call_list_of cd_list rfl T.z_list (by decide +kernel) (pda_cons (pd_var 3 (pv 3)) pda_nil)))
      (pdss_one (pds_if (pdw_pdt (pdw_or (pdt_not (pdt_val (pd_callP (dds := []) (ok_law_same T) (hr.mono (by first | decide | omega)) T.m_law_same T.F_law_same.kp T.b_law_same .nil (fun _ _ => rfl) tk (pda_cons (pd_callP (dds := []) (ok_first_wrong T) (hr.mono (by first | decide | omega)) T.m_first_wrong T.F_first_wrong.kp T.b_first_wrong .nil (fun _ _ => rfl) tk (pda_cons (pd_var 5 (pv 5)) pda_nil)) (pda_cons (pd_callP (dds := []) (ok_law_wrong T) (hr.mono (by first | decide | omega)) T.m_law_wrong T.F_law_wrong.kp T.b_law_wrong .nil (fun _ _ => rfl) tk (pda_cons (pd_var 3 (pv 3)) pda_nil)) pda_nil))))) (pdw_or1 (pdt_cmp (op_neD hr.units) opd_ne (pd_var 5 (pv 5)) (pd_var 3 (pv 3)))))) (pdss_one (pds_ret pd_bl)) pdss_nil))))))
      (pdss_one (pds_ret pd_bl))))
theorem law_ok (T : Tx w K mg A) : FnOk P w K mg base (L2.CX P w) 7 A.f_law A.d_law ["_law_script"] (spLaw K) := fn_law (bd_law T) law_true

end
/-! ### what the top has written -/
theorem all_mk {l : PySem.W.OpenLaw} {w : World} {K : PySem.W.Frag} {h : Heap} {mg : Str → Option Value} {fa : Addr} (X : K.In h) (G : h.Ns mainGlobals mg) (hfa : mg "law" = some (.ref fa))
    {f0 : Addr} {od0 an0 : Option Addr} {sl0 : Array (Option Value)} {oc0 kV0 dc0 pm0 cd0 ct0 : Value}
    {f1 : Addr} {od1 an1 : Option Addr} {sl1 : Array (Option Value)} {oc1 kV1 dc1 pm1 cd1 ct1 : Value}
    {f2 : Addr} {od2 an2 : Option Addr} {sl2 : Array (Option Value)} {oc2 kV2 dc2 pm2 cd2 ct2 : Value}
    {f3 : Addr} {od3 an3 : Option Addr} {sl3 : Array (Option Value)} {oc3 kV3 dc3 pm3 cd3 ct3 : Value}
    {f4 : Addr} {od4 an4 : Option Addr} {sl4 : Array (Option Value)} {oc4 kV4 dc4 pm4 cd4 ct4 : Value}
    {f5 : Addr} {od5 an5 : Option Addr} {sl5 : Array (Option Value)} {oc5 kV5 dc5 pm5 cd5 ct5 : Value}
    {f6 : Addr} {od6 an6 : Option Addr} {sl6 : Array (Option Value)} {oc6 kV6 dc6 pm6 cd6 ct6 : Value}
    {f7 : Addr} {od7 an7 : Option Addr} {sl7 : Array (Option Value)} {oc7 kV7 dc7 pm7 cd7 ct7 : Value}
    {f8 : Addr} {od8 an8 : Option Addr} {sl8 : Array (Option Value)} {oc8 kV8 dc8 pm8 cd8 ct8 : Value}
    {f9 : Addr} {od9 an9 : Option Addr} {sl9 : Array (Option Value)} {oc9 kV9 dc9 pm9 cd9 ct9 : Value}
    {f10 : Addr} {od10 an10 : Option Addr} {sl10 : Array (Option Value)} {oc10 kV10 dc10 pm10 cd10 ct10 : Value}
    {f11 : Addr} {od11 an11 : Option Addr} {sl11 : Array (Option Value)} {oc11 kV11 dc11 pm11 cd11 ct11 : Value}
    {f12 : Addr} {od12 an12 : Option Addr} {sl12 : Array (Option Value)} {oc12 kV12 dc12 pm12 cd12 ct12 : Value}
    {f13 : Addr} {od13 an13 : Option Addr} {sl13 : Array (Option Value)} {oc13 kV13 dc13 pm13 cd13 ct13 : Value}
    {f14 : Addr} {od14 an14 : Option Addr} {sl14 : Array (Option Value)} {oc14 kV14 dc14 pm14 cd14 ct14 : Value}
    {f15 : Addr} {od15 an15 : Option Addr} {sl15 : Array (Option Value)} {oc15 kV15 dc15 pm15 cd15 ct15 : Value}
    {f16 : Addr} {od16 an16 : Option Addr} {sl16 : Array (Option Value)} {oc16 kV16 dc16 pm16 cd16 ct16 : Value}
    {f17 : Addr} {od17 an17 : Option Addr} {sl17 : Array (Option Value)} {oc17 kV17 dc17 pm17 cd17 ct17 : Value}
    {f18 : Addr} {od18 an18 : Option Addr} {sl18 : Array (Option Value)} {oc18 kV18 dc18 pm18 cd18 ct18 : Value}
    {f19 : Addr} {od19 an19 : Option Addr} {sl19 : Array (Option Value)} {oc19 kV19 dc19 pm19 cd19 ct19 : Value}
    {f20 : Addr} {od20 an20 : Option Addr} {sl20 : Array (Option Value)} {oc20 kV20 dc20 pm20 cd20 ct20 : Value}
    {f21 : Addr} {od21 an21 : Option Addr} {sl21 : Array (Option Value)} {oc21 kV21 dc21 pm21 cd21 ct21 : Value}
    {f22 : Addr} {od22 an22 : Option Addr} {sl22 : Array (Option Value)} {oc22 kV22 dc22 pm22 cd22 ct22 : Value}
    {C_BadNumber : Addr}
    {C_BadPacket : Addr}
    {G_SIXTEEN : Addr} {od_SIXTEEN : Option Addr} {n_SIXTEEN : Nat} {sl_SIXTEEN : Array (Option Value)}
    {t_SIXTEEN_0 : Tok}
    {t_SIXTEEN_1 : Tok}
    {G_TOKENS : Addr} {od_TOKENS : Option Addr} {n_TOKENS : Nat} {sl_TOKENS : Array (Option Value)}
    {t_TOKENS_0 : Tok}
    {t_TOKENS_1 : Tok}
    {t_TOKENS_2 : Tok}
    {G_ANSWERS : Addr} {od_ANSWERS : Option Addr} {n_ANSWERS : Nat} {sl_ANSWERS : Array (Option Value)}
    {t_ANSWERS_0 : Tok}
    {t_ANSWERS_1 : Tok}
    {t_ANSWERS_2 : Tok}
    {t_MOST_DATA : Tok}
    {t_FRAME : Tok}
    {t_BESIDE : Tok}
    {t_BEGIN : Tok}
    (a0 : PySem.W.nsIn K mainGlobals "need_number" = some (some (.ref f0)))
    (l0 : K.lookup f0 = some ⟨oc0, od0, .func (PySem.W.fnOf "need_number" "need_number" (defArgs s_need_number) (defBody s_need_number) (defScope s_need_number) .none kV0 dc0 pm0 an0 cd0 ct0), sl0⟩)
    (c0 : PySem.W.codeIn K cd0 "need_number" = true)
    (k0 : PySem.W.keepIn K (.ref f0) = true)
    (a1 : PySem.W.nsIn K mainGlobals "bits_of" = some (some (.ref f1)))
    (l1 : K.lookup f1 = some ⟨oc1, od1, .func (PySem.W.fnOf "bits_of" "bits_of" (defArgs s_bits_of) (defBody s_bits_of) (defScope s_bits_of) .none kV1 dc1 pm1 an1 cd1 ct1), sl1⟩)
    (c1 : PySem.W.codeIn K cd1 "bits_of" = true)
    (k1 : PySem.W.keepIn K (.ref f1) = true)
    (a2 : PySem.W.nsIn K mainGlobals "shifted" = some (some (.ref f2)))
    (l2 : K.lookup f2 = some ⟨oc2, od2, .func (PySem.W.fnOf "shifted" "shifted" (defArgs s_shifted) (defBody s_shifted) (defScope s_shifted) .none kV2 dc2 pm2 an2 cd2 ct2), sl2⟩)
    (c2 : PySem.W.codeIn K cd2 "shifted" = true)
    (k2 : PySem.W.keepIn K (.ref f2) = true)
    (a3 : PySem.W.nsIn K mainGlobals "sum16" = some (some (.ref f3)))
    (l3 : K.lookup f3 = some ⟨oc3, od3, .func (PySem.W.fnOf "sum16" "sum16" (defArgs s_sum16) (defBody s_sum16) (defScope s_sum16) .none kV3 dc3 pm3 an3 cd3 ct3), sl3⟩)
    (c3 : PySem.W.codeIn K cd3 "sum16" = true)
    (k3 : PySem.W.keepIn K (.ref f3) = true)
    (a4 : PySem.W.nsIn K mainGlobals "need_packet" = some (some (.ref f4)))
    (l4 : K.lookup f4 = some ⟨oc4, od4, .func (PySem.W.fnOf "need_packet" "need_packet" (defArgs s_need_packet) (defBody s_need_packet) (defScope s_need_packet) .none kV4 dc4 pm4 an4 cd4 ct4), sl4⟩)
    (c4 : PySem.W.codeIn K cd4 "need_packet" = true)
    (k4 : PySem.W.keepIn K (.ref f4) = true)
    (a5 : PySem.W.nsIn K mainGlobals "cost" = some (some (.ref f5)))
    (l5 : K.lookup f5 = some ⟨oc5, od5, .func (PySem.W.fnOf "cost" "cost" (defArgs s_cost) (defBody s_cost) (defScope s_cost) .none kV5 dc5 pm5 an5 cd5 ct5), sl5⟩)
    (c5 : PySem.W.codeIn K cd5 "cost" = true)
    (k5 : PySem.W.keepIn K (.ref f5) = true)
    (a6 : PySem.W.nsIn K mainGlobals "next_words" = some (some (.ref f6)))
    (l6 : K.lookup f6 = some ⟨oc6, od6, .func (PySem.W.fnOf "next_words" "next_words" (defArgs s_next_words) (defBody s_next_words) (defScope s_next_words) .none kV6 dc6 pm6 an6 cd6 ct6), sl6⟩)
    (c6 : PySem.W.codeIn K cd6 "next_words" = true)
    (k6 : PySem.W.keepIn K (.ref f6) = true)
    (a7 : PySem.W.nsIn K mainGlobals "takes" = some (some (.ref f7)))
    (l7 : K.lookup f7 = some ⟨oc7, od7, .func (PySem.W.fnOf "takes" "takes" (defArgs s_takes) (defBody s_takes) (defScope s_takes) .none kV7 dc7 pm7 an7 cd7 ct7), sl7⟩)
    (c7 : PySem.W.codeIn K cd7 "takes" = true)
    (k7 : PySem.W.keepIn K (.ref f7) = true)
    (a8 : PySem.W.nsIn K mainGlobals "shaped" = some (some (.ref f8)))
    (l8 : K.lookup f8 = some ⟨oc8, od8, .func (PySem.W.fnOf "shaped" "shaped" (defArgs s_shaped) (defBody s_shaped) (defScope s_shaped) .none kV8 dc8 pm8 an8 cd8 ct8), sl8⟩)
    (c8 : PySem.W.codeIn K cd8 "shaped" = true)
    (k8 : PySem.W.keepIn K (.ref f8) = true)
    (a9 : PySem.W.nsIn K mainGlobals "first_wrong" = some (some (.ref f9)))
    (l9 : K.lookup f9 = some ⟨oc9, od9, .func (PySem.W.fnOf "first_wrong" "first_wrong" (defArgs s_first_wrong) (defBody s_first_wrong) (defScope s_first_wrong) .none kV9 dc9 pm9 an9 cd9 ct9), sl9⟩)
    (c9 : PySem.W.codeIn K cd9 "first_wrong" = true)
    (k9 : PySem.W.keepIn K (.ref f9) = true)
    (a10 : PySem.W.nsIn K mainGlobals "_law_bag" = some (some (.ref f10)))
    (l10 : K.lookup f10 = some ⟨oc10, od10, .func (PySem.W.fnOf "_law_bag" "_law_bag" (defArgs s_law_bag) (defBody s_law_bag) (defScope s_law_bag) .none kV10 dc10 pm10 an10 cd10 ct10), sl10⟩)
    (c10 : PySem.W.codeIn K cd10 "_law_bag" = true)
    (k10 : PySem.W.keepIn K (.ref f10) = true)
    (a11 : PySem.W.nsIn K mainGlobals "_law_pull" = some (some (.ref f11)))
    (l11 : K.lookup f11 = some ⟨oc11, od11, .func (PySem.W.fnOf "_law_pull" "_law_pull" (defArgs s_law_pull) (defBody s_law_pull) (defScope s_law_pull) .none kV11 dc11 pm11 an11 cd11 ct11), sl11⟩)
    (c11 : PySem.W.codeIn K cd11 "_law_pull" = true)
    (k11 : PySem.W.keepIn K (.ref f11) = true)
    (a12 : PySem.W.nsIn K mainGlobals "_law_whole" = some (some (.ref f12)))
    (l12 : K.lookup f12 = some ⟨oc12, od12, .func (PySem.W.fnOf "_law_whole" "_law_whole" (defArgs s_law_whole) (defBody s_law_whole) (defScope s_law_whole) .none kV12 dc12 pm12 an12 cd12 ct12), sl12⟩)
    (c12 : PySem.W.codeIn K cd12 "_law_whole" = true)
    (k12 : PySem.W.keepIn K (.ref f12) = true)
    (a13 : PySem.W.nsIn K mainGlobals "_law_same" = some (some (.ref f13)))
    (l13 : K.lookup f13 = some ⟨oc13, od13, .func (PySem.W.fnOf "_law_same" "_law_same" (defArgs s_law_same) (defBody s_law_same) (defScope s_law_same) .none kV13 dc13 pm13 an13 cd13 ct13), sl13⟩)
    (c13 : PySem.W.codeIn K cd13 "_law_same" = true)
    (k13 : PySem.W.keepIn K (.ref f13) = true)
    (a14 : PySem.W.nsIn K mainGlobals "_law_one" = some (some (.ref f14)))
    (l14 : K.lookup f14 = some ⟨oc14, od14, .func (PySem.W.fnOf "_law_one" "_law_one" (defArgs s_law_one) (defBody s_law_one) (defScope s_law_one) .none kV14 dc14 pm14 an14 cd14 ct14), sl14⟩)
    (c14 : PySem.W.codeIn K cd14 "_law_one" = true)
    (k14 : PySem.W.keepIn K (.ref f14) = true)
    (a15 : PySem.W.nsIn K mainGlobals "_law_bytes" = some (some (.ref f15)))
    (l15 : K.lookup f15 = some ⟨oc15, od15, .func (PySem.W.fnOf "_law_bytes" "_law_bytes" (defArgs s_law_bytes) (defBody s_law_bytes) (defScope s_law_bytes) .none kV15 dc15 pm15 an15 cd15 ct15), sl15⟩)
    (c15 : PySem.W.codeIn K cd15 "_law_bytes" = true)
    (k15 : PySem.W.keepIn K (.ref f15) = true)
    (a16 : PySem.W.nsIn K mainGlobals "_law_turn" = some (some (.ref f16)))
    (l16 : K.lookup f16 = some ⟨oc16, od16, .func (PySem.W.fnOf "_law_turn" "_law_turn" (defArgs s_law_turn) (defBody s_law_turn) (defScope s_law_turn) .none kV16 dc16 pm16 an16 cd16 ct16), sl16⟩)
    (c16 : PySem.W.codeIn K cd16 "_law_turn" = true)
    (k16 : PySem.W.keepIn K (.ref f16) = true)
    (a17 : PySem.W.nsIn K mainGlobals "_law_made" = some (some (.ref f17)))
    (l17 : K.lookup f17 = some ⟨oc17, od17, .func (PySem.W.fnOf "_law_made" "_law_made" (defArgs s_law_made) (defBody s_law_made) (defScope s_law_made) .none kV17 dc17 pm17 an17 cd17 ct17), sl17⟩)
    (c17 : PySem.W.codeIn K cd17 "_law_made" = true)
    (k17 : PySem.W.keepIn K (.ref f17) = true)
    (a18 : PySem.W.nsIn K mainGlobals "_law_after" = some (some (.ref f18)))
    (l18 : K.lookup f18 = some ⟨oc18, od18, .func (PySem.W.fnOf "_law_after" "_law_after" (defArgs s_law_after) (defBody s_law_after) (defScope s_law_after) .none kV18 dc18 pm18 an18 cd18 ct18), sl18⟩)
    (c18 : PySem.W.codeIn K cd18 "_law_after" = true)
    (k18 : PySem.W.keepIn K (.ref f18) = true)
    (a19 : PySem.W.nsIn K mainGlobals "_law_shape" = some (some (.ref f19)))
    (l19 : K.lookup f19 = some ⟨oc19, od19, .func (PySem.W.fnOf "_law_shape" "_law_shape" (defArgs s_law_shape) (defBody s_law_shape) (defScope s_law_shape) .none kV19 dc19 pm19 an19 cd19 ct19), sl19⟩)
    (c19 : PySem.W.codeIn K cd19 "_law_shape" = true)
    (k19 : PySem.W.keepIn K (.ref f19) = true)
    (a20 : PySem.W.nsIn K mainGlobals "_law_wrong" = some (some (.ref f20)))
    (l20 : K.lookup f20 = some ⟨oc20, od20, .func (PySem.W.fnOf "_law_wrong" "_law_wrong" (defArgs s_law_wrong) (defBody s_law_wrong) (defScope s_law_wrong) .none kV20 dc20 pm20 an20 cd20 ct20), sl20⟩)
    (c20 : PySem.W.codeIn K cd20 "_law_wrong" = true)
    (k20 : PySem.W.keepIn K (.ref f20) = true)
    (a21 : PySem.W.nsIn K mainGlobals "_law_bent" = some (some (.ref f21)))
    (l21 : K.lookup f21 = some ⟨oc21, od21, .func (PySem.W.fnOf "_law_bent" "_law_bent" (defArgs s_law_bent) (defBody s_law_bent) (defScope s_law_bent) .none kV21 dc21 pm21 an21 cd21 ct21), sl21⟩)
    (c21 : PySem.W.codeIn K cd21 "_law_bent" = true)
    (k21 : PySem.W.keepIn K (.ref f21) = true)
    (a22 : PySem.W.nsIn K mainGlobals "law" = some (some (.ref f22)))
    (l22 : K.lookup f22 = some ⟨oc22, od22, .func (PySem.W.fnOf "law" "law" (defArgs s_law) (defBody s_law) (defScope s_law) .none kV22 dc22 pm22 an22 cd22 ct22), sl22⟩)
    (c22 : PySem.W.codeIn K cd22 "law" = true)
    (k22 : PySem.W.keepIn K (.ref f22) = true)
    (eg_BadNumber : PySem.W.nsIn K mainGlobals "BadNumber" = some (some (.ref C_BadNumber)))
    (ex_BadNumber : PySem.W.excIn K C_BadNumber [.type "ValueError", .type "Exception", .type "BaseException", .type "object"] "ValueError.__new__" = true)
    (ek_BadNumber : PySem.W.keepIn K (.ref C_BadNumber) = true)
    (es_BadNumber : PySem.W.subIn K (.ref C_BadNumber) (.type "BaseException") = some true)
    (et_BadNumber : PySem.W.typeIn K (.ref C_BadNumber) = some (.type "type"))
    (eg_BadPacket : PySem.W.nsIn K mainGlobals "BadPacket" = some (some (.ref C_BadPacket)))
    (ex_BadPacket : PySem.W.excIn K C_BadPacket [.type "ValueError", .type "Exception", .type "BaseException", .type "object"] "ValueError.__new__" = true)
    (ek_BadPacket : PySem.W.keepIn K (.ref C_BadPacket) = true)
    (es_BadPacket : PySem.W.subIn K (.ref C_BadPacket) (.type "BaseException") = some true)
    (et_BadPacket : PySem.W.typeIn K (.ref C_BadPacket) = some (.type "type"))
    (z_all : PySem.W.nsIn K mainGlobals "all" = some none)
    (z_bool : PySem.W.nsIn K mainGlobals "bool" = some none)
    (z_enumerate : PySem.W.nsIn K mainGlobals "enumerate" = some none)
    (z_int : PySem.W.nsIn K mainGlobals "int" = some none)
    (z_isinstance : PySem.W.nsIn K mainGlobals "isinstance" = some none)
    (z_len : PySem.W.nsIn K mainGlobals "len" = some none)
    (z_list : PySem.W.nsIn K mainGlobals "list" = some none)
    (z_range : PySem.W.nsIn K mainGlobals "range" = some none)
    (z_str : PySem.W.nsIn K mainGlobals "str" = some none)
    (z_tuple : PySem.W.nsIn K mainGlobals "tuple" = some none)
    (hd_BadNumber : PySem.W.hasDictIn K C_BadNumber = true)
    (xm_BadNumber_BadNumber : PySem.W.subIn K (.ref C_BadNumber) (.ref C_BadNumber) = some true)
    (xm_BadPacket_BadNumber : PySem.W.subIn K (.ref C_BadPacket) (.ref C_BadNumber) = some false)
    (hd_BadPacket : PySem.W.hasDictIn K C_BadPacket = true)
    (xm_BadNumber_BadPacket : PySem.W.subIn K (.ref C_BadNumber) (.ref C_BadPacket) = some false)
    (xm_BadPacket_BadPacket : PySem.W.subIn K (.ref C_BadPacket) (.ref C_BadPacket) = some true)
    (gg_SIXTEEN : PySem.W.nsIn K mainGlobals "SIXTEEN" = some (some (.ref G_SIXTEEN)))
    (gl_SIXTEEN : K.lookup G_SIXTEEN = some ⟨.type "tuple", od_SIXTEEN, .seq #[(.int 65535 t_SIXTEEN_0), (.int 32773 t_SIXTEEN_1)] n_SIXTEEN, sl_SIXTEEN⟩)
    (gg_TOKENS : PySem.W.nsIn K mainGlobals "TOKENS" = some (some (.ref G_TOKENS)))
    (gl_TOKENS : K.lookup G_TOKENS = some ⟨.type "tuple", od_TOKENS, .seq #[(.str "out" t_TOKENS_0), (.str "in" t_TOKENS_1), (.str "setup" t_TOKENS_2)] n_TOKENS, sl_TOKENS⟩)
    (gg_ANSWERS : PySem.W.nsIn K mainGlobals "ANSWERS" = some (some (.ref G_ANSWERS)))
    (gl_ANSWERS : K.lookup G_ANSWERS = some ⟨.type "tuple", od_ANSWERS, .seq #[(.str "ack" t_ANSWERS_0), (.str "nak" t_ANSWERS_1), (.str "stall" t_ANSWERS_2)] n_ANSWERS, sl_ANSWERS⟩)
    (gg_MOST_DATA : PySem.W.nsIn K mainGlobals "MOST_DATA" = some (some (.int 64 t_MOST_DATA)))
    (gg_FRAME : PySem.W.nsIn K mainGlobals "FRAME" = some (some (.int 1500 t_FRAME)))
    (gg_BESIDE : PySem.W.nsIn K mainGlobals "BESIDE" = some (some (.int 13 t_BESIDE)))
    (gg_BEGIN : PySem.W.nsIn K mainGlobals "BEGIN" = some (some (.int 6 t_BEGIN)))
    : ∃ fd : FuncData, (∀ (s : Shared) (v : Value), BindsTo s fd ⟨[v], []⟩ [("_law_script", v)]) ∧ ∀ base : Heap, K.In base → base.Ns mainGlobals mg → FnOk l.prog w K mg base (L2.CX l.prog w) 7 fa fd ["_law_script"] (spLaw K) := by
  have e := hfa.symm.trans (PySem.W.mg_of X G a22)
  cases e
  have F0 := fun_mk (st := s_need_number) l0 c0 k0
  have b0 := F0.binds (ps := ["number", "least", "most"]) fun _ _ _ _ _ _ us hl => match us, hl with | [_, _, _], _ => rfl
  have F1 := fun_mk (st := s_bits_of) l1 c1 k1
  have b1 := F1.binds (ps := ["number", "many"]) fun _ _ _ _ _ _ us hl => match us, hl with | [_, _], _ => rfl
  have F2 := fun_mk (st := s_shifted) l2 c2 k2
  have b2 := F2.binds (ps := ["row", "form"]) fun _ _ _ _ _ _ us hl => match us, hl with | [_, _], _ => rfl
  have F3 := fun_mk (st := s_sum16) l3 c3 k3
  have b3 := F3.binds (ps := ["data"]) fun _ _ _ _ _ _ us hl => match us, hl with | [_], _ => rfl
  have F4 := fun_mk (st := s_need_packet) l4 c4 k4
  have b4 := F4.binds (ps := ["packet"]) fun _ _ _ _ _ _ us hl => match us, hl with | [_], _ => rfl
  have F5 := fun_mk (st := s_cost) l5 c5 k5
  have b5 := F5.binds (ps := ["size"]) fun _ _ _ _ _ _ us hl => match us, hl with | [_], _ => rfl
  have F6 := fun_mk (st := s_next_words) l6 c6 k6
  have b6 := F6.binds (ps := ["row"]) fun _ _ _ _ _ _ us hl => match us, hl with | [_], _ => rfl
  have F7 := fun_mk (st := s_takes) l7 c7 k7
  have b7 := F7.binds (ps := ["row"]) fun _ _ _ _ _ _ us hl => match us, hl with | [_], _ => rfl
  have F8 := fun_mk (st := s_shaped) l8 c8 k8
  have b8 := F8.binds (ps := ["row"]) fun _ _ _ _ _ _ us hl => match us, hl with | [_], _ => rfl
  have F9 := fun_mk (st := s_first_wrong) l9 c9 k9
  have b9 := F9.binds (ps := ["rows"]) fun _ _ _ _ _ _ us hl => match us, hl with | [_], _ => rfl
  have F10 := fun_mk (st := s_law_bag) l10 c10 k10
  have b10 := F10.binds (ps := ["_law_script"]) fun _ _ _ _ _ _ us hl => match us, hl with | [_], _ => rfl
  have F11 := fun_mk (st := s_law_pull) l11 c11 k11
  have b11 := F11.binds (ps := ["_law_bag_here", "_law_upto"]) fun _ _ _ _ _ _ us hl => match us, hl with | [_, _], _ => rfl
  have F12 := fun_mk (st := s_law_whole) l12 c12 k12
  have b12 := F12.binds (ps := ["_law_found"]) fun _ _ _ _ _ _ us hl => match us, hl with | [_], _ => rfl
  have F13 := fun_mk (st := s_law_same) l13 c13 k13
  have b13 := F13.binds (ps := ["_law_found", "_law_due"]) fun _ _ _ _ _ _ us hl => match us, hl with | [_, _], _ => rfl
  have F14 := fun_mk (st := s_law_one) l14 c14 k14
  have b14 := F14.binds (ps := ["_law_bag_here", "_law_row"]) fun _ _ _ _ _ _ us hl => match us, hl with | [_, _], _ => rfl
  have F15 := fun_mk (st := s_law_bytes) l15 c15 k15
  have b15 := F15.binds (ps := ["_law_bag_here", "_law_most"]) fun _ _ _ _ _ _ us hl => match us, hl with | [_, _], _ => rfl
  have F16 := fun_mk (st := s_law_turn) l16 c16 k16
  have b16 := F16.binds (ps := ["_law_bag_here", "_law_frame"]) fun _ _ _ _ _ _ us hl => match us, hl with | [_, _], _ => rfl
  have F17 := fun_mk (st := s_law_made) l17 c17 k17
  have b17 := F17.binds (ps := ["_law_bag_here"]) fun _ _ _ _ _ _ us hl => match us, hl with | [_], _ => rfl
  have F18 := fun_mk (st := s_law_after) l18 c18 k18
  have b18 := F18.binds (ps := ["_law_row"]) fun _ _ _ _ _ _ us hl => match us, hl with | [_], _ => rfl
  have F19 := fun_mk (st := s_law_shape) l19 c19 k19
  have b19 := F19.binds (ps := ["_law_row"]) fun _ _ _ _ _ _ us hl => match us, hl with | [_], _ => rfl
  have F20 := fun_mk (st := s_law_wrong) l20 c20 k20
  have b20 := F20.binds (ps := ["_law_rows"]) fun _ _ _ _ _ _ us hl => match us, hl with | [_], _ => rfl
  have F21 := fun_mk (st := s_law_bent) l21 c21 k21
  have b21 := F21.binds (ps := ["_law_bag_here", "_law_rows"]) fun _ _ _ _ _ _ us hl => match us, hl with | [_, _], _ => rfl
  have F22 := fun_mk (st := s_law) l22 c22 k22
  have b22 := F22.binds (ps := ["_law_script"]) fun _ _ _ _ _ _ us hl => match us, hl with | [_], _ => rfl
  have xn_BadNumber_BadNumber := PySem.W.exm_ref es_BadNumber hd_BadNumber et_BadNumber xm_BadNumber_BadNumber
  have xn_BadPacket_BadNumber := PySem.W.exm_ref es_BadNumber hd_BadNumber et_BadNumber xm_BadPacket_BadNumber
  have xn_BadNumber_BadPacket := PySem.W.exm_ref es_BadPacket hd_BadPacket et_BadPacket xm_BadNumber_BadPacket
  have xn_BadPacket_BadPacket := PySem.W.exm_ref es_BadPacket hd_BadPacket et_BadPacket xm_BadPacket_BadPacket
  have T : Tx w K mg ⟨f0, _, f1, _, f2, _, f3, _, f4, _, f5, _, f6, _, f7, _, f8, _, f9, _, f10, _, f11, _, f12, _, f13, _, f14, _, f15, _, f16, _, f17, _, f18, _, f19, _, f20, _, f21, _, fa, _, C_BadNumber, C_BadPacket, (.ref G_SIXTEEN), (.ref G_SIXTEEN), (.ref G_TOKENS), (.ref G_TOKENS), (.ref G_ANSWERS), (.ref G_ANSWERS), (.int 64 t_MOST_DATA), (.int 64), (.int 1500 t_FRAME), (.int 1500), (.int 13 t_BESIDE), (.int 13), (.int 6 t_BEGIN), (.int 6)⟩ := { F_need_number := F0, m_need_number := PySem.W.mg_of X G a0, b_need_number := b0, F_bits_of := F1, m_bits_of := PySem.W.mg_of X G a1, b_bits_of := b1, F_shifted := F2, m_shifted := PySem.W.mg_of X G a2, b_shifted := b2, F_sum16 := F3, m_sum16 := PySem.W.mg_of X G a3, b_sum16 := b3, F_need_packet := F4, m_need_packet := PySem.W.mg_of X G a4, b_need_packet := b4, F_cost := F5, m_cost := PySem.W.mg_of X G a5, b_cost := b5, F_next_words := F6, m_next_words := PySem.W.mg_of X G a6, b_next_words := b6, F_takes := F7, m_takes := PySem.W.mg_of X G a7, b_takes := b7, F_shaped := F8, m_shaped := PySem.W.mg_of X G a8, b_shaped := b8, F_first_wrong := F9, m_first_wrong := PySem.W.mg_of X G a9, b_first_wrong := b9, F_law_bag := F10, m_law_bag := PySem.W.mg_of X G a10, b_law_bag := b10, F_law_pull := F11, m_law_pull := PySem.W.mg_of X G a11, b_law_pull := b11, F_law_whole := F12, m_law_whole := PySem.W.mg_of X G a12, b_law_whole := b12, F_law_same := F13, m_law_same := PySem.W.mg_of X G a13, b_law_same := b13, F_law_one := F14, m_law_one := PySem.W.mg_of X G a14, b_law_one := b14, F_law_bytes := F15, m_law_bytes := PySem.W.mg_of X G a15, b_law_bytes := b15, F_law_turn := F16, m_law_turn := PySem.W.mg_of X G a16, b_law_turn := b16, F_law_made := F17, m_law_made := PySem.W.mg_of X G a17, b_law_made := b17, F_law_after := F18, m_law_after := PySem.W.mg_of X G a18, b_law_after := b18, F_law_shape := F19, m_law_shape := PySem.W.mg_of X G a19, b_law_shape := b19, F_law_wrong := F20, m_law_wrong := PySem.W.mg_of X G a20, b_law_wrong := b20, F_law_bent := F21, m_law_bent := PySem.W.mg_of X G a21, b_law_bent := b21, F_law := F22, m_law := PySem.W.mg_of X G a22, b_law := b22, e_BadNumber := ⟨PySem.W.mg_of X G eg_BadNumber, PySem.F.excBase_ValueError, ex_BadNumber, ek_BadNumber, es_BadNumber, et_BadNumber⟩, e_BadPacket := ⟨PySem.W.mg_of X G eg_BadPacket, PySem.F.excBase_ValueError, ex_BadPacket, ek_BadPacket, es_BadPacket, et_BadPacket⟩, z_all := PySem.W.mg_none_of X G z_all, z_bool := PySem.W.mg_none_of X G z_bool, z_enumerate := PySem.W.mg_none_of X G z_enumerate, z_int := PySem.W.mg_none_of X G z_int, z_isinstance := PySem.W.mg_none_of X G z_isinstance, z_len := PySem.W.mg_none_of X G z_len, z_list := PySem.W.mg_none_of X G z_list, z_range := PySem.W.mg_none_of X G z_range, z_str := PySem.W.mg_none_of X G z_str, z_tuple := PySem.W.mg_none_of X G z_tuple, xm_BadNumber_BadNumber := xn_BadNumber_BadNumber, xm_BadPacket_BadNumber := xn_BadPacket_BadNumber, xm_BadNumber_BadPacket := xn_BadNumber_BadPacket, xm_BadPacket_BadPacket := xn_BadPacket_BadPacket, c_SIXTEEN := PySem.W.mg_of X G gg_SIXTEEN, q_SIXTEEN := rfl, r_SIXTEEN := fun ρ F => (rd_tupF [(.int 65535), (.int 32773)] gl_SIXTEEN rfl rfl (Nat.le_trans (show 2 ≤ 1000 by decide) (by rw [sizeLine_eq]; omega)) (.cons ⟨_, rfl⟩ (.cons ⟨_, rfl⟩ .nil)) ⟨_, _, rfl, rfl, ⟨_, _, rfl, rfl, rfl⟩⟩), c_TOKENS := PySem.W.mg_of X G gg_TOKENS, q_TOKENS := rfl, r_TOKENS := fun ρ F => (rd_tupF [(.str "out"), (.str "in"), (.str "setup")] gl_TOKENS rfl rfl (Nat.le_trans (show 3 ≤ 1000 by decide) (by rw [sizeLine_eq]; omega)) (.cons ⟨_, rfl⟩ (.cons ⟨_, rfl⟩ (.cons ⟨_, rfl⟩ .nil))) ⟨_, _, rfl, rfl, ⟨_, _, rfl, rfl, ⟨_, _, rfl, rfl, rfl⟩⟩⟩), c_ANSWERS := PySem.W.mg_of X G gg_ANSWERS, q_ANSWERS := rfl, r_ANSWERS := fun ρ F => (rd_tupF [(.str "ack"), (.str "nak"), (.str "stall")] gl_ANSWERS rfl rfl (Nat.le_trans (show 3 ≤ 1000 by decide) (by rw [sizeLine_eq]; omega)) (.cons ⟨_, rfl⟩ (.cons ⟨_, rfl⟩ (.cons ⟨_, rfl⟩ .nil))) ⟨_, _, rfl, rfl, ⟨_, _, rfl, rfl, ⟨_, _, rfl, rfl, rfl⟩⟩⟩), c_MOST_DATA := PySem.W.mg_of X G gg_MOST_DATA, q_MOST_DATA := ⟨_, rfl⟩, r_MOST_DATA := fun ρ F => rfl, c_FRAME := PySem.W.mg_of X G gg_FRAME, q_FRAME := ⟨_, rfl⟩, r_FRAME := fun ρ F => rfl, c_BESIDE := PySem.W.mg_of X G gg_BESIDE, q_BESIDE := ⟨_, rfl⟩, r_BESIDE := fun ρ F => rfl, c_BEGIN := PySem.W.mg_of X G gg_BEGIN, q_BEGIN := ⟨_, rfl⟩, r_BEGIN := fun ρ F => rfl }
  exact ⟨_, fun s v => .of_eq rfl, fun base _ _ => law_ok T⟩
end DL.My
open PySem PySem.W PyProof.Rows
set_option maxRecDepth 100000 in
set_option maxHeartbeats 0 in
theorem PySem.Challenge.cw_plugtree_k22_journals_looked_at_holds : PySem.Challenge.rw_plugtree_k22_journals_looked_at.Holds := by
  w_on; o_law; k_head; (case hw => w_witness2)
  k_fill
  refine L2.walk_of (l := PySem.Challenge.rw_plugtree_k22_journals_looked_at) (n := 63) (k := 7) (x := "_law_script") (CX := fun w => L2.CX PySem.Challenge.rw_plugtree_k22_journals_looked_at.prog w) (sp := fun w => DL.spLaw _) rfl (by decide) rfl ⟨rfl, by decide, by decide⟩ (fun w h Y => PySem.W.kIn_of Y) ?F (fun _ _ a ns hl _ hS => ⟨a, ns, rfl, hS, hl, fun _ => rfl⟩) (fun _ _ _ _ _ h => DL.cx_no h)
  case F =>
    intro w mg fa h KX G hmg
    refine' DL.My.all_mk KX G hmg ?a0 ?l0 ?c0 ?k0 ?a1 ?l1 ?c1 ?k1 ?a2 ?l2 ?c2 ?k2 ?a3 ?l3 ?c3 ?k3 ?a4 ?l4 ?c4 ?k4 ?a5 ?l5 ?c5 ?k5 ?a6 ?l6 ?c6 ?k6 ?a7 ?l7 ?c7 ?k7 ?a8 ?l8 ?c8 ?k8 ?a9 ?l9 ?c9 ?k9 ?a10 ?l10 ?c10 ?k10 ?a11 ?l11 ?c11 ?k11 ?a12 ?l12 ?c12 ?k12 ?a13 ?l13 ?c13 ?k13 ?a14 ?l14 ?c14 ?k14 ?a15 ?l15 ?c15 ?k15 ?a16 ?l16 ?c16 ?k16 ?a17 ?l17 ?c17 ?k17 ?a18 ?l18 ?c18 ?k18 ?a19 ?l19 ?c19 ?k19 ?a20 ?l20 ?c20 ?k20 ?a21 ?l21 ?c21 ?k21 ?a22 ?l22 ?c22 ?k22 ?eg_BadNumber ?ex_BadNumber ?ek_BadNumber ?es_BadNumber ?et_BadNumber ?eg_BadPacket ?ex_BadPacket ?ek_BadPacket ?es_BadPacket ?et_BadPacket ?z_all ?z_bool ?z_enumerate ?z_int ?z_isinstance ?z_len ?z_list ?z_range ?z_str ?z_tuple ?hd_BadNumber ?xm_BadNumber_BadNumber ?xm_BadPacket_BadNumber ?hd_BadPacket ?xm_BadNumber_BadPacket ?xm_BadPacket_BadPacket ?gg_SIXTEEN ?gl_SIXTEEN ?gg_TOKENS ?gl_TOKENS ?gg_ANSWERS ?gl_ANSWERS ?gg_MOST_DATA ?gg_FRAME ?gg_BESIDE ?gg_BEGIN
    (case a0 => k_is)
    (case l0 => k_is)
    (case c0 => k_is)
    (case k0 => k_is)
    (case a1 => k_is)
    (case l1 => k_is)
    (case c1 => k_is)
    (case k1 => k_is)
    (case a2 => k_is)
    (case l2 => k_is)
    (case c2 => k_is)
    (case k2 => k_is)
    (case a3 => k_is)
    (case l3 => k_is)
    (case c3 => k_is)
    (case k3 => k_is)
    (case a4 => k_is)
    (case l4 => k_is)
    (case c4 => k_is)
    (case k4 => k_is)
    (case a5 => k_is)
    (case l5 => k_is)
    (case c5 => k_is)
    (case k5 => k_is)
    (case a6 => k_is)
    (case l6 => k_is)
    (case c6 => k_is)
    (case k6 => k_is)
    (case a7 => k_is)
    (case l7 => k_is)
    (case c7 => k_is)
    (case k7 => k_is)
    (case a8 => k_is)
    (case l8 => k_is)
    (case c8 => k_is)
    (case k8 => k_is)
    (case a9 => k_is)
    (case l9 => k_is)
    (case c9 => k_is)
    (case k9 => k_is)
    (case a10 => k_is)
    (case l10 => k_is)
    (case c10 => k_is)
    (case k10 => k_is)
    (case a11 => k_is)
    (case l11 => k_is)
    (case c11 => k_is)
    (case k11 => k_is)
    (case a12 => k_is)
    (case l12 => k_is)
    (case c12 => k_is)
    (case k12 => k_is)
    (case a13 => k_is)
    (case l13 => k_is)
    (case c13 => k_is)
    (case k13 => k_is)
    (case a14 => k_is)
    (case l14 => k_is)
    (case c14 => k_is)
    (case k14 => k_is)
    (case a15 => k_is)
    (case l15 => k_is)
    (case c15 => k_is)
    (case k15 => k_is)
    (case a16 => k_is)
    (case l16 => k_is)
    (case c16 => k_is)
    (case k16 => k_is)
    (case a17 => k_is)
    (case l17 => k_is)
    (case c17 => k_is)
    (case k17 => k_is)
    (case a18 => k_is)
    (case l18 => k_is)
    (case c18 => k_is)
    (case k18 => k_is)
    (case a19 => k_is)
    (case l19 => k_is)
    (case c19 => k_is)
    (case k19 => k_is)
    (case a20 => k_is)
    (case l20 => k_is)
    (case c20 => k_is)
    (case k20 => k_is)
    (case a21 => k_is)
    (case l21 => k_is)
    (case c21 => k_is)
    (case k21 => k_is)
    (case a22 => k_is)
    (case l22 => k_is)
    (case c22 => k_is)
    (case k22 => k_is)
    (case eg_BadNumber => k_is)
    (case ex_BadNumber => k_exc)
    (case ek_BadNumber => k_is)
    (case es_BadNumber => k_is)
    (case et_BadNumber => k_is)
    (case eg_BadPacket => k_is)
    (case ex_BadPacket => k_exc)
    (case ek_BadPacket => k_is)
    (case es_BadPacket => k_is)
    (case et_BadPacket => k_is)
    (case z_all => k_is)
    (case z_bool => k_is)
    (case z_enumerate => k_is)
    (case z_int => k_is)
    (case z_isinstance => k_is)
    (case z_len => k_is)
    (case z_list => k_is)
    (case z_range => k_is)
    (case z_str => k_is)
    (case z_tuple => k_is)
    (case hd_BadNumber => k_is)
    (case xm_BadNumber_BadNumber => first | rfl | k_is)
    (case xm_BadPacket_BadNumber => first | rfl | k_is)
    (case hd_BadPacket => k_is)
    (case xm_BadNumber_BadPacket => first | rfl | k_is)
    (case xm_BadPacket_BadPacket => first | rfl | k_is)
    (case gg_SIXTEEN => k_is)
    (case gl_SIXTEEN => k_is)
    (case gg_TOKENS => k_is)
    (case gl_TOKENS => k_is)
    (case gg_ANSWERS => k_is)
    (case gl_ANSWERS => k_is)
    (case gg_MOST_DATA => k_is)
    (case gg_FRAME => k_is)
    (case gg_BESIDE => k_is)
    (case gg_BEGIN => k_is)
