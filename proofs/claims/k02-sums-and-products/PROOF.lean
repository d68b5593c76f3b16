import PyProof.Rows.All
import Wide.All
import OpenK.AllK
import Wide.FinOn
import KE.KStateDown
import KE.KOpsOwn
import HandS.ForMost
import HandS.Exc
import HandS.WordsExc
import HandS.CallSlots
import HandS.Defaults
import HandS.Wide
import HandS.TupAny
import HandS.TupMul
import HandS.IsInst
import PyProof.ReprRoads
import HandS.RaiseMore
import HandS.Style
import HandS.HeadEnd
import HandS.Head2
import HandS.HeadHook1
import HandS.HeadHook2
import HandS.HeadNt
import PySem.Challenge.RW_sixasone_k02_sums_and_products
set_option Elab.async false
set_option linter.all false
set_option maxRecDepth 100000
set_option maxHeartbeats 4000000
set_option exponentiation.threshold 100000
/-! G: a shallow layer over the hand layer. Every piece of Python gets a plain Lean function over data (D) and a store of changeable objects. -/
namespace G
open PySem PySem.Spec PyProof.Rows L2

abbrev Sg := L2.St
/-- data: what never changes is written out, what may change is a number into the store -/
inductive D where
  | non | bl (b : Bool) | int (i : Int) | str (x : Str) | ty (n : String)
  | tup (l : List D) | lst (l : List D) | lck (l : List D)
  | ins (c : Nat) (l : List D)
  | ref (k : Nat)
  | cls (c : Nat)
  deriving Inhabited
/-- a changeable object -/
inductive MO where
  | lst (l : List D)
  | ins (c : Nat) (l : List D)
  | dead
  deriving Inhabited
abbrev Stor := List MO
abbrev Gam := List (Option D)
abbrev Flds := Option (List Str × List D)
inductive R (α : Type) where
  | ok (a : α) (M : Stor)
  | ex (c : Nat) (fs : Flds) (M : Stor)
  | no
inductive RS where
  | nx (g : Gam) (M : Stor)
  | rt (d : D) (M : Stor)
  | bk (g : Gam) (M : Stor)
  | ct (g : Gam) (M : Stor)
  | ex (c : Nat) (fs : Flds) (g : Gam) (M : Stor)
  | no
def R.bind {α β : Type} (r : R α) (k : α → Stor → R β) : R β :=
  match r with
  | .ok a M => k a M
  | .ex c fs M => .ex c fs M
  | .no => .no
@[simp] theorem R.bind_ok {α β : Type} (a : α) (M : Stor) (k : α → Stor → R β) : (R.ok a M).bind k = k a M := rfl
@[simp] theorem R.bind_ex {α β : Type} (c : Nat) (fs : Flds) (M : Stor) (k : α → Stor → R β) : (R.ex c fs M : R α).bind k = .ex c fs M := rfl
@[simp] theorem R.bind_no {α β : Type} (k : α → Stor → R β) : (R.no : R α).bind k = .no := rfl
/-- a statement made of an expression -/
def R.bindS {α : Type} (r : R α) (g : Gam) (k : α → Stor → RS) : RS :=
  match r with
  | .ok a M => k a M
  | .ex c fs M => .ex c fs g M
  | .no => .no
@[simp] theorem R.bindS_ok {α : Type} (a : α) (M : Stor) (g : Gam) (k : α → Stor → RS) : (R.ok a M).bindS g k = k a M := rfl
@[simp] theorem R.bindS_ex {α : Type} (c : Nat) (fs : Flds) (M : Stor) (g : Gam) (k : α → Stor → RS) : (R.ex c fs M : R α).bindS g k = .ex c fs g M := rfl
@[simp] theorem R.bindS_no {α : Type} (g : Gam) (k : α → Stor → RS) : (R.no : R α).bindS g k = .no := rfl

/-- where things stand: the written part, the classes by number, their fields -/
structure Wd where
  K : PySem.W.Frag
  T : Nat → Addr
  fn : Nat → List Str
/-- objects that stand aside, untouched -/
abbrev Xi := List (Addr × HO)

mutual
def Is (W : Wd) (F : Hp) (ρ : List Addr) : D → V → Prop
  | .non, v => v = .non
  | .bl b, v => v = .bl b
  | .int i, v => v = .int i
  | .str x, v => v = .str x
  | .ty n, v => v = .ty n
  | .tup l, v => ∃ a vs, v = .ref a ∧ SqT W.K F a vs ∧ IsL W F ρ l vs
  | .lst l, v => ∃ a vs, v = .ref a ∧ F a = some (.lst vs) ∧ IsL W F ρ l vs
  | .lck l, v => ∃ a vs, v = .ref a ∧ SqL W.K F a vs ∧ IsL W F ρ l vs
  | .ins c l, v => ∃ a dx fvs, v = .ref a ∧ F a = some (.ins (W.T c) dx fvs) ∧ fvs.map (·.1) = (W.fn c).take l.length ∧ IsL W F ρ l (fvs.map (·.2))
  | .cls c, v => v = .ref (W.T c)
  | .ref k, v => ∃ a, v = .ref a ∧ ρ[k]? = some a
def IsL (W : Wd) (F : Hp) (ρ : List Addr) : List D → List V → Prop
  | [], vs => vs = []
  | d :: ds, vs => ∃ v r, vs = v :: r ∧ Is W F ρ d v ∧ IsL W F ρ ds r
end

def Le (F F' : Hp) : Prop := ∀ a o, F a = some o → F' a = some o
theorem Le.rfl' {F : Hp} : Le F F := fun _ _ h => h
theorem Le.tr {F F1 F2 : Hp} (a : Le F F1) (b : Le F1 F2) : Le F F2 := fun x o h => b x o (a x o h)
theorem Le.new {F : Hp} {p : Addr} {o : HO} (h : F p = none) : Le F (upd F p o) := fun a u e => by
  rw [upd_ne (ne_of_none e h)]; exact e
theorem Le.sqT {K : PySem.W.Frag} {F F' : Hp} {a : Addr} {xs : List V} (e : Le F F') (h : SqT K F a xs) : SqT K F' a xs := by
  rcases h with (h | ⟨o, h⟩) | h
  · exact .inl (.inl (e _ _ h))
  · exact .inl (.inr ⟨o, e _ _ h⟩)
  · exact .inr h
theorem Le.sqL {K : PySem.W.Frag} {F F' : Hp} {a : Addr} {xs : List V} (e : Le F F') (h : SqL K F a xs) : SqL K F' a xs := by
  rcases h with (h | ⟨o, h⟩) | h
  · exact .inl (.inl (e _ _ h))
  · exact .inl (.inr ⟨o, e _ _ h⟩)
  · exact .inr h

theorem pre_get {ρ ρ' : List Addr} (p : ρ <+: ρ') {k : Nat} {a : Addr} (h : ρ[k]? = some a) : ρ'[k]? = some a := by
  obtain ⟨t, rfl⟩ := p
  have hk : k < ρ.length := (List.getElem?_eq_some_iff.mp h).1
  rw [List.getElem?_append_left hk]; exact h

mutual
theorem Is.mono {W : Wd} {F F' : Hp} {ρ ρ' : List Addr} (e : Le F F') (p : ρ <+: ρ') : ∀ {d : D} {v : V}, Is W F ρ d v → Is W F' ρ' d v
  | .non, _, h => by simpa only [Is] using h
  | .bl _, _, h => by simpa only [Is] using h
  | .int _, _, h => by simpa only [Is] using h
  | .str _, _, h => by simpa only [Is] using h
  | .ty _, _, h => by simpa only [Is] using h
  | .tup l, _, h => by
    simp only [Is] at h ⊢
    obtain ⟨a, vs, e1, q, hl⟩ := h
    exact ⟨a, vs, e1, e.sqT q, IsL.mono e p hl⟩
  | .lst l, _, h => by
    simp only [Is] at h ⊢
    obtain ⟨a, vs, e1, q, hl⟩ := h
    exact ⟨a, vs, e1, e _ _ q, IsL.mono e p hl⟩
  | .lck l, _, h => by
    simp only [Is] at h ⊢
    obtain ⟨a, vs, e1, q, hl⟩ := h
    exact ⟨a, vs, e1, e.sqL q, IsL.mono e p hl⟩
  | .cls _, _, h => by simpa only [Is] using h
  | .ins c l, _, h => by
    simp only [Is] at h ⊢
    obtain ⟨a, dx, fvs, e1, q, n, hl⟩ := h
    exact ⟨a, dx, fvs, e1, e _ _ q, n, IsL.mono e p hl⟩
  | .ref k, _, h => by
    simp only [Is] at h ⊢
    obtain ⟨a, e1, q⟩ := h
    exact ⟨a, e1, pre_get p q⟩
theorem IsL.mono {W : Wd} {F F' : Hp} {ρ ρ' : List Addr} (e : Le F F') (p : ρ <+: ρ') : ∀ {ds : List D} {vs : List V}, IsL W F ρ ds vs → IsL W F' ρ' ds vs
  | [], _, h => by simpa only [IsL] using h
  | d :: ds, _, h => by
    simp only [IsL] at h ⊢
    obtain ⟨v, r, e1, h1, h2⟩ := h
    exact ⟨v, r, e1, Is.mono e p h1, IsL.mono e p h2⟩
end
section
variable {W : Wd} {F : Hp} {ρ : List Addr}
theorem IsL.nil_iff {vs : List V} : IsL W F ρ [] vs ↔ vs = [] := by simp only [IsL]
theorem IsL.cons_iff {d : D} {ds : List D} {vs : List V} : IsL W F ρ (d :: ds) vs ↔ ∃ v r, vs = v :: r ∧ Is W F ρ d v ∧ IsL W F ρ ds r := by simp only [IsL]
theorem IsL.nil : IsL W F ρ [] [] := by simp only [IsL]
theorem IsL.cons {d : D} {ds : List D} {v : V} {vs : List V} (h : Is W F ρ d v) (t : IsL W F ρ ds vs) : IsL W F ρ (d :: ds) (v :: vs) := by
  simp only [IsL]; exact ⟨v, vs, rfl, h, t⟩
theorem IsL.len : ∀ {ds : List D} {vs : List V}, IsL W F ρ ds vs → vs.length = ds.length
  | [], _, h => by rw [IsL.nil_iff] at h; subst h; rfl
  | d :: ds, _, h => by
    obtain ⟨v, r, rfl, _, t⟩ := IsL.cons_iff.mp h
    simp [IsL.len t]
theorem IsL.get : ∀ {ds : List D} {vs : List V} {i : Nat} {d : D}, IsL W F ρ ds vs → ds[i]? = some d → ∃ v, vs[i]? = some v ∧ Is W F ρ d v
  | [], _, _, _, _, e => by simp at e
  | x :: ds, _, 0, d, h, e => by
    obtain ⟨v, r, rfl, h1, _⟩ := IsL.cons_iff.mp h
    simp at e; subst e; exact ⟨v, rfl, h1⟩
  | x :: ds, _, i + 1, d, h, e => by
    obtain ⟨v, r, rfl, _, t⟩ := IsL.cons_iff.mp h
    simp at e
    obtain ⟨u, e1, e2⟩ := IsL.get (i := i) t e
    exact ⟨u, by simpa using e1, e2⟩
theorem IsL.getV {ds : List D} {vs : List V} {i : Nat} {v : V} (h : IsL W F ρ ds vs) (e : vs[i]? = some v) : ∃ d, ds[i]? = some d ∧ Is W F ρ d v := by
  have hi : i < vs.length := (List.getElem?_eq_some_iff.mp e).1
  have hd : i < ds.length := by rw [← h.len]; exact hi
  obtain ⟨v', e1, h1⟩ := h.get (List.getElem?_eq_getElem hd)
  rw [e] at e1; cases e1
  exact ⟨_, List.getElem?_eq_getElem hd, h1⟩
theorem IsL.append : ∀ {ds es : List D} {vs us : List V}, IsL W F ρ ds vs → IsL W F ρ es us → IsL W F ρ (ds ++ es) (vs ++ us)
  | [], _, _, _, h, k => by rw [IsL.nil_iff] at h; subst h; exact k
  | d :: ds, _, _, _, h, k => by
    obtain ⟨v, r, rfl, h1, t⟩ := IsL.cons_iff.mp h
    exact IsL.cons h1 (IsL.append t k)
theorem IsL.set : ∀ {ds : List D} {vs : List V} {d : D} {v : V} (i : Nat), IsL W F ρ ds vs → Is W F ρ d v → IsL W F ρ (ds.set i d) (vs.set i v)
  | [], _, _, _, _, h, _ => by rw [IsL.nil_iff] at h; subst h; exact IsL.nil
  | x :: ds, _, _, _, 0, h, k => by
    obtain ⟨u, r, rfl, _, t⟩ := IsL.cons_iff.mp h
    exact IsL.cons k t
  | x :: ds, _, _, _, i + 1, h, k => by
    obtain ⟨u, r, rfl, h1, t⟩ := IsL.cons_iff.mp h
    exact IsL.cons h1 (IsL.set i t k)
theorem IsL.take : ∀ {ds : List D} {vs : List V} (n : Nat), IsL W F ρ ds vs → IsL W F ρ (ds.take n) (vs.take n)
  | [], _, n, h => by rw [IsL.nil_iff] at h; subst h; simp [IsL.nil]
  | x :: ds, _, 0, h => by simp [IsL.nil]
  | x :: ds, _, n + 1, h => by
    obtain ⟨u, r, rfl, h1, t⟩ := IsL.cons_iff.mp h
    exact IsL.cons h1 (IsL.take n t)
theorem IsL.drop : ∀ {ds : List D} {vs : List V} (n : Nat), IsL W F ρ ds vs → IsL W F ρ (ds.drop n) (vs.drop n)
  | [], _, n, h => by rw [IsL.nil_iff] at h; subst h; simp [IsL.nil]
  | x :: ds, _, 0, h => h
  | x :: ds, _, n + 1, h => by
    obtain ⟨u, r, rfl, h1, t⟩ := IsL.cons_iff.mp h
    exact IsL.drop n t
theorem isL_ints : ∀ (ns : List Int), IsL W F ρ (ns.map D.int) (ns.map V.int)
  | [] => IsL.nil
  | n :: ns => IsL.cons (by simp only [Is]) (isL_ints ns)
end

/-- the names' values -/
structure En (W : Wd) (Γ : Gam) (σ : Sg) (F : Hp) (ρ : List Addr) : Prop where
  len : Γ.length = σ.length
  at_ : ∀ (i : Nat) (d : D), Γ[i]? = some (some d) → ∃ v, σ[i]? = some (some v) ∧ Is W F ρ d v
theorem En.mono {W : Wd} {Γ : Gam} {σ : Sg} {F F' : Hp} {ρ ρ' : List Addr} (h : En W Γ σ F ρ) (e : Le F F') (p : ρ <+: ρ') : En W Γ σ F' ρ' :=
  ⟨h.len, fun i d q => let ⟨v, a, b⟩ := h.at_ i d q; ⟨v, a, b.mono e p⟩⟩
theorem En.set {W : Wd} {Γ : Gam} {σ : Sg} {F : Hp} {ρ : List Addr} (h : En W Γ σ F ρ) {i : Nat} {d : D} {v : V} (k : Is W F ρ d v) : En W (Γ.set i (some d)) (σ.set i (some v)) F ρ := by
  refine ⟨by simp [h.len], fun j e q => ?_⟩
  by_cases hj : i = j
  · subst hj
    have hi : i < Γ.length := by
      have := (List.getElem?_eq_some_iff.mp q).1
      simpa using this
    rw [List.getElem?_set_self hi] at q
    cases q
    exact ⟨v, by rw [List.getElem?_set_self (by rw [← h.len]; exact hi)], k⟩
  · rw [List.getElem?_set_ne hj] at q ⊢
    exact h.at_ j e q
theorem En.wipe {W : Wd} {Γ : Gam} {σ : Sg} {F : Hp} {ρ : List Addr} (h : En W Γ σ F ρ) {i : Nat} {o : Option V} : En W (Γ.set i none) (σ.set i o) F ρ := by
  refine ⟨by simp [h.len], fun j e q => ?_⟩
  by_cases hj : i = j
  · subst hj
    have hi : i < Γ.length := by
      have := (List.getElem?_eq_some_iff.mp q).1
      simpa using this
    rw [List.getElem?_set_self hi] at q
    cases q
  · rw [List.getElem?_set_ne hj] at q ⊢
    exact h.at_ j e q

theorem nd_ix {α : Type} {l : List α} (hl : l.Nodup) {i j : Nat} {x : α} (a : l[i]? = some x) (b : l[j]? = some x) : i = j := by
  obtain ⟨h1, e1⟩ := List.getElem?_eq_some_iff.mp a
  obtain ⟨h2, e2⟩ := List.getElem?_eq_some_iff.mp b
  exact (List.getElem_inj hl).mp (by rw [e1, e2])
/-- an object of the store, as it stands in the heap -/
def MoIs (W : Wd) (F : Hp) (ρ : List Addr) (m : MO) (o : Option HO) : Prop :=
  match m with
  | .lst l => ∃ vs, o = some (.lst vs) ∧ IsL W F ρ l vs
  | .ins c l => ∃ dx fvs, o = some (.ins (W.T c) dx fvs) ∧ fvs.map (·.1) = (W.fn c).take l.length ∧ IsL W F ρ l (fvs.map (·.2))
  | .dead => ∃ h, o = some h
theorem MoIs.mono {W : Wd} {F F' : Hp} {ρ ρ' : List Addr} (e : Le F F') (p : ρ <+: ρ') {m : MO} {o : Option HO} (h : MoIs W F ρ m o) : MoIs W F' ρ' m o := by
  cases m with
  | lst l => obtain ⟨vs, a, b⟩ := h; exact ⟨vs, a, b.mono e p⟩
  | ins c l => obtain ⟨dx, fvs, a, n, b⟩ := h; exact ⟨dx, fvs, a, n, b.mono e p⟩
  | dead => exact h
theorem MoIs.some_ {W : Wd} {F : Hp} {ρ : List Addr} {m : MO} {o : Option HO} (h : MoIs W F ρ m o) : ∃ x, o = some x := by
  cases m with
  | lst l => obtain ⟨vs, a, _⟩ := h; exact ⟨_, a⟩
  | ins c l => obtain ⟨dx, fvs, a, _⟩ := h; exact ⟨_, a⟩
  | dead => exact h
/-- the store -/
structure Rp (W : Wd) (ξ : Xi) (M : Stor) (F H : Hp) (ρ : List Addr) : Prop where
  sub : Le F H
  len : ρ.length = M.length
  nd : ρ.Nodup
  obj : ∀ (i : Nat) (m : MO) (a : Addr), M[i]? = some m → ρ[i]? = some a → F a = none ∧ MoIs W F ρ m (H a)
  xt : ∀ q ∈ ξ, H q.1 = some q.2 ∧ F q.1 = none ∧ q.1 ∉ ρ
section
variable {W : Wd} {ξ : Xi} {M : Stor} {F H : Hp} {ρ : List Addr}
theorem Rp.free (h : Rp W ξ M F H ρ) {p : Addr} (n : H p = none) : F p = none := by
  cases e : F p with
  | none => rfl
  | some o => rw [h.sub _ _ e] at n; cases n
theorem Rp.ne (h : Rp W ξ M F H ρ) {p a : Addr} {i : Nat} (n : H p = none) (e : ρ[i]? = some a) : a ≠ p := by
  intro z; subst z
  have hi : i < M.length := by rw [← h.len]; exact (List.getElem?_eq_some_iff.mp e).1
  obtain ⟨_, q⟩ := h.obj i _ a (List.getElem?_eq_getElem hi) e
  obtain ⟨x, q⟩ := q.some_
  rw [n] at q; cases q
/-- a new thing that never changes -/
theorem Rp.new (h : Rp W ξ M F H ρ) {p : Addr} {o : HO} (n : H p = none) : Rp W ξ M (upd F p o) (upd H p o) ρ := by
  have nF := h.free n
  refine ⟨fun a u e => ?_, h.len, h.nd, fun i m a em ea => ?_, fun q hq => by
    obtain ⟨q1, q2, q3⟩ := h.xt q hq
    have ne := ne_of_none q1 n
    rw [upd_ne ne, upd_ne ne]; exact ⟨q1, q2, q3⟩⟩
  · by_cases hp : a = p
    · subst hp; rw [upd_same] at e ⊢; exact e
    · rw [upd_ne hp] at e ⊢; exact h.sub _ _ e
  · have ne := h.ne n ea
    obtain ⟨q1, q2⟩ := h.obj i m a em ea
    rw [upd_ne ne, upd_ne ne]
    exact ⟨q1, q2.mono (Le.new nF) (List.prefix_refl _)⟩
/-- a new thing that is of no interest -/
theorem Rp.newH (h : Rp W ξ M F H ρ) {p : Addr} {o : HO} (n : H p = none) : Rp W ξ M F (upd H p o) ρ := by
  refine ⟨fun a u e => ?_, h.len, h.nd, fun i m a em ea => ?_, fun q hq => by
    obtain ⟨q1, q2, q3⟩ := h.xt q hq
    rw [upd_ne (ne_of_none q1 n)]; exact ⟨q1, q2, q3⟩⟩
  · have := h.sub _ _ e
    rw [upd_ne (ne_of_none this n)]; exact this
  · rw [upd_ne (h.ne n ea)]; exact h.obj i m a em ea
/-- a new changeable object -/
theorem Rp.mut (h : Rp W ξ M F H ρ) {p : Addr} {o : HO} {m : MO} (n : H p = none) (k : MoIs W F (ρ ++ [p]) m (some o)) : Rp W ξ (M ++ [m]) F (upd H p o) (ρ ++ [p]) := by
  have nF := h.free n
  have np : p ∉ ρ := fun hm => by
    obtain ⟨i, hi, e⟩ := List.getElem_of_mem hm
    exact h.ne n (List.getElem?_eq_some_iff.mpr ⟨hi, e⟩) rfl
  refine ⟨fun a u e => ?_, by simp [h.len], ?_, fun i m' a em ea => ?_, fun q hq => by
    obtain ⟨q1, q2, q3⟩ := h.xt q hq
    have ne := ne_of_none q1 n
    rw [upd_ne ne]; exact ⟨q1, q2, by simp [q3, ne]⟩⟩
  · have := h.sub _ _ e
    rw [upd_ne (ne_of_none this n)]; exact this
  · rw [List.nodup_append]
    refine ⟨h.nd, by simp, fun a ha b hb => ?_⟩
    simp at hb; subst hb
    intro z; subst z; exact np ha
  · by_cases hi : i < M.length
    · rw [List.getElem?_append_left hi] at em
      rw [List.getElem?_append_left (by rw [h.len]; exact hi)] at ea
      obtain ⟨q1, q2⟩ := h.obj i m' a em ea
      rw [upd_ne (h.ne n ea)]
      exact ⟨q1, q2.mono Le.rfl' (List.prefix_append _ _)⟩
    · have hi' : i = M.length := by
        have := (List.getElem?_eq_some_iff.mp em).1
        simp at this; omega
      subst hi'
      rw [List.getElem?_append_right (Nat.le_refl _)] at em
      rw [List.getElem?_append_right (by rw [h.len]; exact Nat.le_refl _), h.len] at ea
      simp at em ea
      subst em; subst ea
      rw [upd_same]
      exact ⟨nF, k⟩
/-- a changeable object changes -/
theorem Rp.set (h : Rp W ξ M F H ρ) {i : Nat} {a : Addr} {o : HO} {m : MO} (e : ρ[i]? = some a) (k : MoIs W F ρ m (some o)) : Rp W ξ (M.set i m) F (upd H a o) ρ := by
  have hi : i < M.length := by rw [← h.len]; exact (List.getElem?_eq_some_iff.mp e).1
  have fa := (h.obj i _ a (List.getElem?_eq_getElem hi) e).1
  refine ⟨fun b u q => ?_, by simp [h.len], h.nd, fun j m' b em eb => ?_, fun q hq => by
    obtain ⟨q1, q2, q3⟩ := h.xt q hq
    have ne : q.1 ≠ a := fun z => q3 (z ▸ List.mem_of_getElem? e)
    rw [upd_ne ne]; exact ⟨q1, q2, q3⟩⟩
  · rw [upd_ne (ne_of_none q fa)]; exact h.sub _ _ q
  · by_cases hj : i = j
    · subst hj
      rw [List.getElem?_set_self hi] at em
      rw [e] at eb; cases eb; cases em
      rw [upd_same]; exact ⟨fa, k⟩
    · rw [List.getElem?_set_ne hj] at em
      obtain ⟨q1, q2⟩ := h.obj j m' b em eb
      have ne : b ≠ a := fun z => hj (nd_ix h.nd e (by rw [← z]; exact eb))
      rw [upd_ne ne]; exact ⟨q1, q2⟩
end

/-! ### what is wanted behind -/
/-- an exception's own dict -/
def XcIs (W : Wd) (F : Hp) (ρ : List Addr) (fs : Flds) (dx : Option Addr) : Prop :=
  match fs with
  | none => dx = none
  | some (ns, l) => ∃ x fvs, dx = some x ∧ F x = some (.xd fvs) ∧ fvs.map (·.1) = ns ∧ IsL W F ρ l (fvs.map (·.2))
def Po {α β : Type} (W : Wd) (ξ : Xi) (rel : Hp → List Addr → α → β → Prop) (F : Hp) (ρ : List Addr) (r : R α) (Q : β → Hp → Prop) (E : XK) : Prop :=
  match r with
  | .ok a M => ∀ v F' ρ' H', Le F F' → ρ <+: ρ' → Rp W ξ M F' H' ρ' → rel F' ρ' a v → Q v H'
  | .ex c fs M => ∀ dx F' ρ' H', Le F F' → ρ <+: ρ' → Rp W ξ M F' H' ρ' → XcIs W F' ρ' fs dx → E (.ref (W.T c)) dx H'
  | .no => False
def PoS (W : Wd) (ξ : Xi) (F : Hp) (ρ : List Addr) (r : RS) (N : Ends) (E : Sg → XK) : Prop :=
  match r with
  | .nx g M => ∀ σ' F' ρ' H', Le F F' → ρ <+: ρ' → Rp W ξ M F' H' ρ' → En W g σ' F' ρ' → N.nx σ' H'
  | .rt d M => ∀ v F' ρ' H', Le F F' → ρ <+: ρ' → Rp W ξ M F' H' ρ' → Is W F' ρ' d v → N.rt v H'
  | .bk g M => ∀ σ' F' ρ' H', Le F F' → ρ <+: ρ' → Rp W ξ M F' H' ρ' → En W g σ' F' ρ' → N.bk σ' H'
  | .ct g M => ∀ σ' F' ρ' H', Le F F' → ρ <+: ρ' → Rp W ξ M F' H' ρ' → En W g σ' F' ρ' → N.ct σ' H'
  | .ex c fs g M => ∀ σ' dx F' ρ' H', Le F F' → ρ <+: ρ' → Rp W ξ M F' H' ρ' → En W g σ' F' ρ' → XcIs W F' ρ' fs dx → E σ' (.ref (W.T c)) dx H'
  | .no => False
section
variable {α β γ δ : Type} {W : Wd} {ξ : Xi} {rel : Hp → List Addr → α → β → Prop} {rel2 : Hp → List Addr → γ → δ → Prop} {F F' : Hp} {ρ ρ' : List Addr} {Q : β → Hp → Prop} {E : XK}
theorem Po.mono {r : R α} (h : Po W ξ rel F ρ r Q E) (e : Le F F') (p : ρ <+: ρ') : Po W ξ rel F' ρ' r Q E := by
  cases r with
  | ok a M => exact fun v F2 ρ2 H2 e2 p2 => h v F2 ρ2 H2 (e.tr e2) (p.trans p2)
  | ex c fs M => exact fun v F2 ρ2 H2 e2 p2 => h v F2 ρ2 H2 (e.tr e2) (p.trans p2)
  | no => exact h
theorem PoS.mono {r : RS} {N : Ends} {E : Sg → XK} (h : PoS W ξ F ρ r N E) (e : Le F F') (p : ρ <+: ρ') : PoS W ξ F' ρ' r N E := by
  cases r with
  | nx g M => exact fun v F2 ρ2 H2 e2 p2 => h v F2 ρ2 H2 (e.tr e2) (p.trans p2)
  | rt d M => exact fun v F2 ρ2 H2 e2 p2 => h v F2 ρ2 H2 (e.tr e2) (p.trans p2)
  | bk g M => exact fun v F2 ρ2 H2 e2 p2 => h v F2 ρ2 H2 (e.tr e2) (p.trans p2)
  | ct g M => exact fun v F2 ρ2 H2 e2 p2 => h v F2 ρ2 H2 (e.tr e2) (p.trans p2)
  | ex c fs g M => exact fun v dx F2 ρ2 H2 e2 p2 => h v dx F2 ρ2 H2 (e.tr e2) (p.trans p2)
  | no => exact h
/-- one behind another -/
theorem Po.bind {r : R α} {k : α → Stor → R γ} {Q : δ → Hp → Prop} (h : Po W ξ rel2 F ρ (r.bind k) Q E) :
    Po W ξ rel F ρ r (fun v H' => ∃ a M' F' ρ', Le F F' ∧ ρ <+: ρ' ∧ Rp W ξ M' F' H' ρ' ∧ rel F' ρ' a v ∧ Po W ξ rel2 F' ρ' (k a M') Q E) E := by
  cases r with
  | ok a M => exact fun v F' ρ' H' e p rp is => ⟨a, M, F', ρ', e, p, rp, is, h.mono e p⟩
  | ex c fs M => exact h
  | no => exact h
theorem Po.bindS {r : R α} {g : Gam} {k : α → Stor → RS} {N : Ends} {E : Sg → XK} {σ : Sg} (en : En W g σ F ρ) (h : PoS W ξ F ρ (r.bindS g k) N E) :
    Po W ξ rel F ρ r (fun v H' => ∃ a M' F' ρ', Le F F' ∧ ρ <+: ρ' ∧ Rp W ξ M' F' H' ρ' ∧ rel F' ρ' a v ∧ PoS W ξ F' ρ' (k a M') N E) (E σ) := by
  cases r with
  | ok a M => exact fun v F' ρ' H' e p rp is => ⟨a, M, F', ρ', e, p, rp, is, h.mono e p⟩
  | ex c fs M => exact fun dx F' ρ' H' e p rp x => h σ dx F' ρ' H' e p rp (en.mono e p) x
  | no => exact h
theorem Po.imp {r : R α} {Q' : β → Hp → Prop} (h : Po W ξ rel F ρ r Q E) (k : ∀ v H, Q v H → Q' v H) : Po W ξ rel F ρ r Q' E := by
  cases r with
  | ok a M => exact fun v F' ρ' H' e p rp is => k _ _ (h v F' ρ' H' e p rp is)
  | ex c fs M => exact h
  | no => exact h
end

/-! ### the judgements: the hand layer's, at one reading -/
abbrev GE' := Gam → Stor → R D
abbrev GT' := Gam → Stor → R Bool
abbrev GA' := Gam → Stor → R (List D)
abbrev GS' := Gam → Stor → RS
abbrev relB : Hp → List Addr → Bool → Bool → Prop := fun _ _ a b => a = b
def tG (W : Wd) (E : Sg → XK) (g : GE') : TE := fun σ H Q => ∃ ξ Γ M F ρ, En W Γ σ F ρ ∧ Rp W ξ M F H ρ ∧ Po W ξ (Is W) F ρ (g Γ M) Q (E σ)
def tGT (W : Wd) (E : Sg → XK) (g : GT') : TT := fun σ H Q => ∃ ξ Γ M F ρ, En W Γ σ F ρ ∧ Rp W ξ M F H ρ ∧ Po W ξ relB F ρ (g Γ M) Q (E σ)
def tGA (W : Wd) (E : Sg → XK) (g : GA') : TA := fun σ H Q => ∃ ξ Γ M F ρ, En W Γ σ F ρ ∧ Rp W ξ M F H ρ ∧ Po W ξ (IsL W) F ρ (g Γ M) Q (E σ)
def tGS (W : Wd) (E : Sg → XK) (g : GS') : TS := fun N σ H => ∃ ξ Γ M F ρ, En W Γ σ F ρ ∧ Rp W ξ M F H ρ ∧ PoS W ξ F ρ (g Γ M) N E
abbrev GE (X : Cx) (W : Wd) (E : Sg → XK) (e : Expr) (g : GE') : Prop := PE X e (tG W E g)
abbrev GT (X : Cx) (W : Wd) (E : Sg → XK) (e : Expr) (g : GT') : Prop := PT X e (tGT W E g)
abbrev GW (X : Cx) (W : Wd) (E : Sg → XK) (e : Expr) (g : GT') : Prop := PW X e (tGT W E g)
abbrev GA (X : Cx) (W : Wd) (E : Sg → XK) (es : List Expr) (g : GA') : Prop := PA X es (tGA W E g)
abbrev GS (X : Cx) (W : Wd) (E : Sg → XK) (st : Stmt) (g : GS') : Prop := PS X st (tGS W E g)
abbrev GSs (X : Cx) (W : Wd) (E : Sg → XK) (st : List Stmt) (g : GS') : Prop := PSs X st (tGS W E g)
theorem mE {X : Cx} {e : Expr} {t t' : TE} (h : PE X e t) (k : ∀ σ H Q, t' σ H Q → t σ H Q) : PE X e t' := ⟨fun pins s σ H Q I z => h.run pins s σ H Q I (k σ H Q z)⟩
theorem mT {X : Cx} {e : Expr} {t t' : TT} (h : PT X e t) (k : ∀ σ H Q, t' σ H Q → t σ H Q) : PT X e t' := ⟨fun pins s σ H Q I z => h.run pins s σ H Q I (k σ H Q z)⟩
theorem mW {X : Cx} {e : Expr} {t t' : TT} (h : PW X e t) (k : ∀ σ H Q, t' σ H Q → t σ H Q) : PW X e t' := ⟨fun wh pins s σ H Q I z => h.run wh pins s σ H Q I (k σ H Q z)⟩
theorem mA {X : Cx} {es : List Expr} {t t' : TA} (h : PA X es t) (k : ∀ σ H Q, t' σ H Q → t σ H Q) : PA X es t' := ⟨fun pos pins s σ H Q I z => h.run pos pins s σ H Q I (k σ H Q z)⟩
theorem mS {X : Cx} {st : Stmt} {t t' : TS} (h : PS X st t) (k : ∀ N σ H, t' N σ H → t N σ H) : PS X st t' := ⟨fun pins s σ H N I z => h.run pins s σ H N I (k N σ H z)⟩
theorem mSs {X : Cx} {st : List Stmt} {t t' : TS} (h : PSs X st t) (k : ∀ N σ H, t' N σ H → t N σ H) : PSs X st t' := ⟨fun pins s σ H N I z => h.run pins s σ H N I (k N σ H z)⟩
end G

namespace G
open PySem PySem.Spec PyProof.Rows L2

/-! ### names, constants -/
def gVar (i : Nat) : GE' := fun Γ M => match Γ[i]? with
  | some (some d) => .ok d M
  | _ => .no
def gC (d : D) : GE' := fun _ M => .ok d M
section
variable {X : Cx} {W : Wd} {ξ : Xi} {E : Sg → XK} {a b e : Expr} {ga gb : GE'} {pos : Pos}
/-- a value that stands everywhere -/
def Flat (W : Wd) (d : D) (v : V) : Prop := ∀ F ρ, Is W F ρ d v
theorem flat_int {i : Int} : Flat W (.int i) (.int i) := fun _ _ => by simp only [Is]
theorem flat_bl {i : Bool} : Flat W (.bl i) (.bl i) := fun _ _ => by simp only [Is]
theorem flat_str {i : Str} : Flat W (.str i) (.str i) := fun _ _ => by simp only [Is]
theorem flat_non : Flat W .non .non := fun _ _ => by simp only [Is]
theorem flat_ty {n : String} : Flat W (.ty n) (.ty n) := fun _ _ => by simp only [Is]
theorem ge_const {d : D} {v : V} (h : PE X e (tC v)) (f : Flat W d v) : GE X W E e (gC d) :=
  mE h fun σ H Q ⟨ξ, Γ, M, F, ρ, en, rp, po⟩ => po v F ρ H Le.rfl' (List.prefix_refl _) rp (f F ρ)
theorem ge_int {i : Int} {j pos} : GE X W E (.Constant (.int i) j pos) (gC (.int i)) := ge_const pe_int flat_int
theorem ge_bl {i : Bool} {j pos} : GE X W E (.Constant (.bool i) j pos) (gC (.bl i)) := ge_const pe_bl flat_bl
theorem ge_str {i : Str} {j pos} : GE X W E (.Constant (.str i) j pos) (gC (.str i)) := ge_const pe_str flat_str
theorem ge_non {j pos} : GE X W E (.Constant .none j pos) (gC .non) := ge_const pe_non flat_non
theorem ge_var {i : Nat} {x : Str} (h : PE X (.Name x pos) (tVar i)) : GE X W E (.Name x pos) (gVar i) :=
  mE h fun σ H Q ⟨ξ, Γ, M, F, ρ, en, rp, po⟩ => by
    unfold gVar at po
    split at po
    · rename_i d hd
      obtain ⟨v, e1, is⟩ := en.at_ i d hd
      exact ⟨v, e1, po v F ρ H Le.rfl' (List.prefix_refl _) rp is⟩
    · exact po.elim

/-! ### operators -/
def gBin (f : D → D → Stor → R D) (a b : GE') : GE' := fun Γ M => (a Γ M).bind fun x M1 => (b Γ M1).bind fun y M2 => f x y M2
def gUn (f : D → Stor → R D) (a : GE') : GE' := fun Γ M => (a Γ M).bind fun x M1 => f x M1
/-- a two-place operation of the model does what op says -/
def OpG (X : Cx) (W : Wd) (E : Sg → XK) (f : Value → Value → Sem Value) (op : D → D → Stor → R D) : Prop :=
  ∀ (ξ : Xi) (pins : List (Addr × Obj)) (s : Shared) (σ : Sg) (H : Hp) (M : Stor) (F : Hp) (ρ : List Addr) (x y : D) (vx vy : V) (ux uy : Value) (Q : VK),
    Inv X pins σ H s → RelV vx ux → RelV vy uy → Rp W ξ M F H ρ → Is W F ρ x vx → Is W F ρ y vy → Po W ξ (Is W) F ρ (op x y M) Q (E σ) →
    wpAny (model X.prog X.w) X.A (f ux uy) (EP X pins σ Q) X.xe s
def UnG (X : Cx) (W : Wd) (E : Sg → XK) (f : Value → Sem Value) (op : D → Stor → R D) : Prop :=
  ∀ (ξ : Xi) (pins : List (Addr × Obj)) (s : Shared) (σ : Sg) (H : Hp) (M : Stor) (F : Hp) (ρ : List Addr) (x : D) (vx : V) (ux : Value) (Q : VK),
    Inv X pins σ H s → RelV vx ux → Rp W ξ M F H ρ → Is W F ρ x vx → Po W ξ (Is W) F ρ (op x M) Q (E σ) →
    wpAny (model X.prog X.w) X.A (f ux) (EP X pins σ Q) X.xe s
/-- what an operation on plain values gives, as the hand layer's rule asks -/
theorem OpG.of {f : Value → Value → Sem Value} {r : R2} {op : D → D → Stor → R D} (h : OpR X f r)
    (k : ∀ (ξ : Xi) (M : Stor) (F H : Hp) (ρ : List Addr) (x y : D) (vx vy : V) (Q : VK) (Z : XK), Rp W ξ M F H ρ → Is W F ρ x vx → Is W F ρ y vy → Po W ξ (Is W) F ρ (op x y M) Q Z → r vx vy H Q) : OpG X W E f op :=
  fun ξ pins s σ H M F ρ x y vx vy ux uy Q I rx ry rp ix iy po => h pins s σ H vx vy ux uy Q I rx ry (k ξ M F H ρ x y vx vy Q (E σ) rp ix iy po)
theorem UnG.of {f : Value → Sem Value} {r : V → Hp → VK → Prop} {op : D → Stor → R D} (h : UnR X f r)
    (k : ∀ (ξ : Xi) (M : Stor) (F H : Hp) (ρ : List Addr) (x : D) (vx : V) (Q : VK) (Z : XK), Rp W ξ M F H ρ → Is W F ρ x vx → Po W ξ (Is W) F ρ (op x M) Q Z → r vx H Q) : UnG X W E f op :=
  fun ξ pins s σ H M F ρ x vx ux Q I rx rp ix po => h pins s σ H vx ux Q I rx (k ξ M F H ρ x vx Q (E σ) rp ix po)
/-- the first that says something -/
def orR {α : Type} (r q : R α) : R α := match r with
  | .no => q
  | r => r
@[simp] theorem orR_ok {α : Type} (a : α) (M : Stor) (q : R α) : orR (.ok a M) q = .ok a M := rfl
@[simp] theorem orR_ex {α : Type} (c : Nat) (fs : Flds) (M : Stor) (q : R α) : orR (.ex c fs M) q = .ex c fs M := rfl
@[simp] theorem orR_no {α : Type} (q : R α) : orR .no q = q := rfl
theorem OpG.or {f : Value → Value → Sem Value} {op op' : D → D → Stor → R D} (h : OpG X W E f op) (h' : OpG X W E f op') : OpG X W E f (fun x y M => orR (op x y M) (op' x y M)) :=
  fun ξ pins s σ H M F ρ x y vx vy ux uy Q I rx ry rp ix iy po => by
    cases e : op x y M with
    | no =>
      simp only [e, orR_no] at po
      exact h' ξ pins s σ H M F ρ x y vx vy ux uy Q I rx ry rp ix iy po
    | ok a M1 =>
      simp only [e, orR_ok] at po
      exact h ξ pins s σ H M F ρ x y vx vy ux uy Q I rx ry rp ix iy (by rw [e]; exact po)
    | ex c fs M1 =>
      simp only [e, orR_ex] at po
      exact h ξ pins s σ H M F ρ x y vx vy ux uy Q I rx ry rp ix iy (by rw [e]; exact po)
theorem UnG.or {f : Value → Sem Value} {op op' : D → Stor → R D} (h : UnG X W E f op) (h' : UnG X W E f op') : UnG X W E f (fun x M => orR (op x M) (op' x M)) :=
  fun ξ pins s σ H M F ρ x vx ux Q I rx rp ix po => by
    cases e : op x M with
    | no =>
      simp only [e, orR_no] at po
      exact h' ξ pins s σ H M F ρ x vx ux Q I rx rp ix po
    | ok a M1 =>
      simp only [e, orR_ok] at po
      exact h ξ pins s σ H M F ρ x vx ux Q I rx rp ix (by rw [e]; exact po)
    | ex c fs M1 =>
      simp only [e, orR_ex] at po
      exact h ξ pins s σ H M F ρ x vx ux Q I rx rp ix (by rw [e]; exact po)
/-- two expressions, one behind the other -/
theorem two {k : D → D → Stor → R D} {σ : Sg} {H : Hp} {Q : VK} (h : tG W E (fun Γ M => (ga Γ M).bind fun x M1 => (gb Γ M1).bind fun y M2 => k x y M2) σ H Q) :
    tG W E ga σ H fun vx H1 => tG W E gb σ H1 fun vy H2 => ∃ ξ x y M F ρ, Rp W ξ M F H2 ρ ∧ Is W F ρ x vx ∧ Is W F ρ y vy ∧ Po W ξ (Is W) F ρ (k x y M) Q (E σ) := by
  obtain ⟨ξ, Γ, M, F, ρ, en, rp, po⟩ := h
  refine ⟨ξ, Γ, M, F, ρ, en, rp, po.bind.imp ?_⟩
  rintro vx H1 ⟨x, M1, F1, ρ1, e1, p1, rp1, ix, po1⟩
  refine ⟨ξ, Γ, M1, F1, ρ1, en.mono e1 p1, rp1, po1.bind.imp ?_⟩
  rintro vy H2 ⟨y, M2, F2, ρ2, e2, p2, rp2, iy, po2⟩
  exact ⟨ξ, x, y, M2, F2, ρ2, rp2, ix.mono e2 p2, iy, po2⟩
theorem ge_bin {op : Operator} {f : D → D → Stor → R D} (ho : OpG X W E (binaryOp op) f) (ha : GE X W E a ga) (hb : GE X W E b gb) : GE X W E (.BinOp a op b pos) (gBin f ga gb) := by
  refine ⟨fun pins s σ H Q I h => ?_⟩
  refine wpAny_BinOp (bin ha hb I (two h) fun v u s2 x y H2 I2 rx ry q => ?_)
  obtain ⟨ξ, dx, dy, M, F, ρ, rp, ix, iy, po⟩ := q
  exact ho ξ pins s2 σ H2 M F ρ dx dy x y v u Q I2 rx ry rp ix iy po
theorem ge_un {op : UnaryOp} {f : D → Stor → R D} (ho : UnG X W E (unaryOp op) f) (ha : GE X W E a ga) : GE X W E (.UnaryOp op a pos) (gUn f ga) := by
  refine ⟨fun pins s σ H Q I h => ?_⟩
  obtain ⟨ξ, Γ, M, F, ρ, en, rp, po⟩ := h
  refine UnaryOp_ (thn (ha.run pins s σ H _ I ⟨ξ, Γ, M, F, ρ, en, rp, po.bind⟩) ?_)
  rintro v s1 ⟨vx, H1, I1, r1, x, M1, F1, ρ1, e1, p1, rp1, ix, po1⟩
  exact ho ξ pins s1 σ H1 M1 F1 ρ1 x vx v Q I1 r1 rp1 ix po1
theorem ge_cmp {op : CmpOp} {f : D → D → Stor → R D} (ho : OpG X W E (compareOp op) f) (ha : GE X W E a ga) (hb : GE X W E b gb) (hm : behindInMarks op b = false) : GE X W E (.Compare a [op] [b] pos) (gBin f ga gb) := by
  refine ⟨fun pins s σ H Q I h => ?_⟩
  refine wpAny_Compare1 (bin ha hb I (two h) fun v u s2 x y H2 I2 rx ry q => ?_) hm
  obtain ⟨ξ, dx, dy, M, F, ρ, rp, ix, iy, po⟩ := q
  exact ho ξ pins s2 σ H2 M F ρ dx dy x y v u Q I2 rx ry rp ix iy po

/-! ### truth -/
def TruG (X : Cx) (W : Wd) (E : Sg → XK) (tr : D → Stor → R Bool) : Prop :=
  ∀ (ξ : Xi) (pins : List (Addr × Obj)) (s : Shared) (σ : Sg) (H : Hp) (M : Stor) (F : Hp) (ρ : List Addr) (x : D) (vx : V) (ux : Value) (Q : Bool → Hp → Prop),
    Inv X pins σ H s → RelV vx ux → Rp W ξ M F H ρ → Is W F ρ x vx → Po W ξ relB F ρ (tr x M) Q (E σ) →
    wpAny (model X.prog X.w) X.A (truthy ux) (TP X pins σ Q) X.xe s
/-- the truth of plain data -/
def truD : D → Stor → R Bool
  | .non, M => .ok false M
  | .bl b, M => .ok b M
  | .int i, M => .ok (i != 0) M
  | .str x, M => if x.length ≤ 1000000 then .ok ((x.length : Int) != 0) M else .no
  | .tup l, M => .ok (!l.isEmpty) M
  | .lst l, M => .ok (!l.isEmpty) M
  | .lck l, M => .ok (!l.isEmpty) M
  | .ref k, M => match M[k]? with
    | some (.lst l) => .ok (!l.isEmpty) M
    | _ => .no
  | _, _ => .no
theorem IsL.isEmpty {F : Hp} {ρ : List Addr} {ds : List D} {vs : List V} (h : IsL W F ρ ds vs) : vs.isEmpty = ds.isEmpty := by
  have e := h.len
  cases ds <;> cases vs <;> simp at e ⊢
theorem small_line {n : Nat} (h : n ≤ 1000000) : n ≤ sizeLine := by rw [sizeLine_eq]; omega
theorem tru_plain (hK : X.K = W.K) : TruG X W E truD := by
  intro ξ pins s σ H M F ρ x vx ux Q I rx rp ix po
  have go : ∀ {k : Bool}, truD x M = .ok k M → TruV X.K vx H k → wpAny (model X.prog X.w) X.A (truthy ux) (TP X pins σ Q) X.xe s := fun {k} e t => by
    rw [e] at po
    exact tru_ok pins s σ H vx ux Q I rx ⟨k, t, po k F ρ H Le.rfl' (List.prefix_refl _) rp rfl⟩
  cases x with
  | non => simp only [Is] at ix; subst ix; exact go rfl rfl
  | bl b => simp only [Is] at ix; subst ix; exact go rfl rfl
  | int i => simp only [Is] at ix; subst ix; exact go rfl rfl
  | str y =>
    simp only [Is] at ix; subst ix
    by_cases hy : y.length ≤ 1000000
    · exact go (by simp only [truD, hy, if_true]) ⟨small_line hy, rfl⟩
    · simp only [truD, hy, if_false] at po; exact po.elim
  | ty n => exact po.elim
  | tup l =>
    simp only [Is] at ix; obtain ⟨a, vs, rfl, q, hl⟩ := ix
    exact go rfl (.inr (.inl ⟨vs, by rw [hK]; exact rp.sub.sqT q, by rw [hl.isEmpty]⟩))
  | lst l =>
    simp only [Is] at ix; obtain ⟨a, vs, rfl, q, hl⟩ := ix
    exact go rfl (.inl ⟨vs, SqL.of (rp.sub _ _ q), by rw [hl.isEmpty]⟩)
  | lck l =>
    simp only [Is] at ix; obtain ⟨a, vs, rfl, q, hl⟩ := ix
    exact go rfl (.inl ⟨vs, by rw [hK]; exact rp.sub.sqL q, by rw [hl.isEmpty]⟩)
  | cls c => exact po.elim
  | ins c l => exact po.elim
  | ref k =>
    simp only [Is] at ix; obtain ⟨a, rfl, ea⟩ := ix
    cases e : M[k]? with
    | none => simp only [truD, e] at po; exact po.elim
    | some m =>
      cases m with
      | lst l =>
        obtain ⟨_, vs, hv, hl⟩ := rp.obj k _ a e ea
        exact go (k := !l.isEmpty) (by simp only [truD, e]) (.inl ⟨vs, SqL.of hv, by rw [hl.isEmpty]⟩)
      | ins c l => simp only [truD, e] at po; exact po.elim
      | dead => simp only [truD, e] at po; exact po.elim
/-- a value's truth as a test -/
def gTr (tr : D → Stor → R Bool) (a : GE') : GT' := fun Γ M => (a Γ M).bind tr
theorem gt_tr {tr : D → Stor → R Bool} (ht : TruG X W E tr) (ha : GE X W E a ga) (he : ∀ whole, isTrue a X.env whole = (do let v ← whole; standAt a.pos; holding [v] (truthy v)) := by intro _; rfl) : GT X W E a (gTr tr ga) := by
  refine ⟨fun pins s σ H Q I h => ?_⟩
  obtain ⟨ξ, Γ, M, F, ρ, en, rp, po⟩ := h
  refine isTrue_plain (thn (ha.run pins s σ H _ I ⟨ξ, Γ, M, F, ρ, en, rp, po.bind⟩) ?_) (he _)
  rintro v s1 ⟨vx, H1, I1, r1, x, M1, F1, ρ1, e1, p1, rp1, ix, po1⟩
  exact ht ξ pins s1 σ H1 M1 F1 ρ1 x vx v Q I1 r1 rp1 ix po1
/-- a comparison as a test -/
theorem gt_cmp {op : CmpOp} {f : D → D → Stor → R D} {tr : D → Stor → R Bool} (ht : TruG X W E tr) (ho : OpG X W E (compareOp op) f) (ha : GE X W E a ga) (hb : GE X W E b gb) (hm : behindInMarks op b = false) : GT X W E (.Compare a [op] [b] pos) (gTr tr (gBin f ga gb)) := by
  refine ⟨fun pins s σ H Q I h => ?_⟩
  obtain ⟨ξ, Γ, M, F, ρ, en, rp, po⟩ := h
  refine wpAny_isTrue_Compare1 (bin ha hb I (two ⟨ξ, Γ, M, F, ρ, en, rp, po.bind⟩) fun v u s2 x y H2 I2 rx ry q => ?_) hm
  obtain ⟨ξ', dx, dy, M2, F2, ρ2, rp2, ix, iy, po2⟩ := q
  refine thn (ho ξ' pins s2 σ H2 M2 F2 ρ2 dx dy x y v u _ I2 rx ry rp2 ix iy po2) ?_
  rintro c s3 ⟨vz, H3, I3, r3, z, M3, F3, ρ3, e3, p3, rp3, iz, po3⟩
  exact ht ξ pins s3 σ H3 M3 F3 ρ3 z vz c Q I3 r3 rp3 iz po3
/-! ### and, or, not -/
variable {ta tb : GT'} {rest : List Expr}
def gAnd (a b : GT') : GT' := fun Γ M => (a Γ M).bind fun c M1 => if c then b Γ M1 else .ok false M1
def gOr (a b : GT') : GT' := fun Γ M => (a Γ M).bind fun c M1 => if c then .ok true M1 else b Γ M1
def gNot (a : GT') : GT' := fun Γ M => (a Γ M).bind fun c M1 => .ok (!c) M1
theorem gw_and1 (ha : GT X W E a ta) : GW X W E (.BoolOp .And [a] pos) ta := pw_and1 ha
theorem gw_or1 (ha : GT X W E a ta) : GW X W E (.BoolOp .Or [a] pos) ta := pw_or1 ha
theorem gw_and (ha : GT X W E a ta) (hb : GW X W E (.BoolOp .And (b :: rest) pos) tb) : GW X W E (.BoolOp .And (a :: b :: rest) pos) (gAnd ta tb) :=
  mW (pw_and ha hb) fun σ H Q ⟨ξ, Γ, M, F, ρ, en, rp, po⟩ => ⟨ξ, Γ, M, F, ρ, en, rp, po.bind.imp (by
    rintro c H1 ⟨c', M1, F1, ρ1, e1, p1, rp1, rfl, po1⟩
    cases c' with
    | true => exact ⟨ξ, Γ, M1, F1, ρ1, en.mono e1 p1, rp1, po1⟩
    | false => exact po1 false F1 ρ1 H1 Le.rfl' (List.prefix_refl _) rp1 rfl)⟩
theorem gw_or (ha : GT X W E a ta) (hb : GW X W E (.BoolOp .Or (b :: rest) pos) tb) : GW X W E (.BoolOp .Or (a :: b :: rest) pos) (gOr ta tb) :=
  mW (pw_or ha hb) fun σ H Q ⟨ξ, Γ, M, F, ρ, en, rp, po⟩ => ⟨ξ, Γ, M, F, ρ, en, rp, po.bind.imp (by
    rintro c H1 ⟨c', M1, F1, ρ1, e1, p1, rp1, rfl, po1⟩
    cases c' with
    | true => exact po1 true F1 ρ1 H1 Le.rfl' (List.prefix_refl _) rp1 rfl
    | false => exact ⟨ξ, Γ, M1, F1, ρ1, en.mono e1 p1, rp1, po1⟩)⟩
theorem gt_not (ha : GT X W E a ta) : GT X W E (.UnaryOp .Not a pos) (gNot ta) :=
  mT (pt_not ha) fun σ H Q ⟨ξ, Γ, M, F, ρ, en, rp, po⟩ => ⟨ξ, Γ, M, F, ρ, en, rp, po.bind.imp (by
    rintro c H1 ⟨c', M1, F1, ρ1, e1, p1, rp1, rfl, po1⟩
    exact po1 (!c') F1 ρ1 H1 Le.rfl' (List.prefix_refl _) rp1 rfl)⟩
/-- as values -/
def gAndV (tr : D → Stor → R Bool) (a b : GE') : GE' := fun Γ M => (a Γ M).bind fun x M1 => (tr x M1).bind fun c M2 => if c then b Γ M2 else .ok x M2
def gOrV (tr : D → Stor → R Bool) (a b : GE') : GE' := fun Γ M => (a Γ M).bind fun x M1 => (tr x M1).bind fun c M2 => if c then .ok x M2 else b Γ M2
def gNotV (tr : D → Stor → R Bool) (a : GE') : GE' := fun Γ M => (a Γ M).bind fun x M1 => (tr x M1).bind fun c M2 => .ok (.bl (!c)) M2
theorem ge_one {op} (h : GE X W E a ga) : GE X W E (.BoolOp op [a] pos) ga := pe_one h
theorem ge_and {tr : D → Stor → R Bool} (ht : TruG X W E tr) (ha : GE X W E a ga) (hb : GE X W E (.BoolOp .And (b :: rest) pos) gb) : GE X W E (.BoolOp .And (a :: b :: rest) pos) (gAndV tr ga gb) := by
  refine ⟨fun pins s σ H Q I h => ?_⟩
  obtain ⟨ξ, Γ, M, F, ρ, en, rp, po⟩ := h
  refine BoolOp_and (thn (ha.run pins s σ H _ I ⟨ξ, Γ, M, F, ρ, en, rp, po.bind⟩) ?_)
  rintro v s1 ⟨vx, H1, I1, r1, x, M1, F1, ρ1, e1, p1, rp1, ix, po1⟩
  refine thn (ht ξ pins s1 σ H1 M1 F1 ρ1 x vx v _ I1 r1 rp1 ix po1.bind) ?_
  rintro c s2 ⟨H2, I2, c', M2, F2, ρ2, e2, p2, rp2, rfl, po2⟩
  cases c' with
  | true => exact hb.run pins s2 σ H2 Q I2 ⟨ξ, Γ, M2, F2, ρ2, (en.mono e1 p1).mono e2 p2, rp2, po2⟩
  | false => exact ⟨vx, H2, I2, r1, po2 vx F2 ρ2 H2 Le.rfl' (List.prefix_refl _) rp2 (ix.mono e2 p2)⟩
theorem ge_or {tr : D → Stor → R Bool} (ht : TruG X W E tr) (ha : GE X W E a ga) (hb : GE X W E (.BoolOp .Or (b :: rest) pos) gb) : GE X W E (.BoolOp .Or (a :: b :: rest) pos) (gOrV tr ga gb) := by
  refine ⟨fun pins s σ H Q I h => ?_⟩
  obtain ⟨ξ, Γ, M, F, ρ, en, rp, po⟩ := h
  refine BoolOp_or (thn (ha.run pins s σ H _ I ⟨ξ, Γ, M, F, ρ, en, rp, po.bind⟩) ?_)
  rintro v s1 ⟨vx, H1, I1, r1, x, M1, F1, ρ1, e1, p1, rp1, ix, po1⟩
  refine thn (ht ξ pins s1 σ H1 M1 F1 ρ1 x vx v _ I1 r1 rp1 ix po1.bind) ?_
  rintro c s2 ⟨H2, I2, c', M2, F2, ρ2, e2, p2, rp2, rfl, po2⟩
  cases c' with
  | true => exact ⟨vx, H2, I2, r1, po2 vx F2 ρ2 H2 Le.rfl' (List.prefix_refl _) rp2 (ix.mono e2 p2)⟩
  | false => exact hb.run pins s2 σ H2 Q I2 ⟨ξ, Γ, M2, F2, ρ2, (en.mono e1 p1).mono e2 p2, rp2, po2⟩
theorem ge_not {tr : D → Stor → R Bool} (ht : TruG X W E tr) (ha : GE X W E a ga) : GE X W E (.UnaryOp .Not a pos) (gNotV tr ga) := by
  refine ⟨fun pins s σ H Q I h => ?_⟩
  obtain ⟨ξ, Γ, M, F, ρ, en, rp, po⟩ := h
  refine UnaryOp_ (thn (ha.run pins s σ H _ I ⟨ξ, Γ, M, F, ρ, en, rp, po.bind⟩) ?_)
  rintro v s1 ⟨vx, H1, I1, r1, x, M1, F1, ρ1, e1, p1, rp1, ix, po1⟩
  refine not_of (thn (ht ξ pins s1 σ H1 M1 F1 ρ1 x vx v _ I1 r1 rp1 ix po1.bind) ?_)
  rintro c s2 ⟨H2, I2, c', M2, F2, ρ2, e2, p2, rp2, rfl, po2⟩
  exact ⟨.bl (!c'), H2, I2, rfl, po2 (.bl (!c')) F2 ρ2 H2 Le.rfl' (List.prefix_refl _) rp2 (by simp only [Is])⟩
def gIfE (t : GT') (a b : GE') : GE' := fun Γ M => (t Γ M).bind fun c M1 => if c then a Γ M1 else b Γ M1
theorem ge_ifExp {c : Expr} {tc : GT'} (hc : GT X W E c tc) (ha : GE X W E a ga) (hb : GE X W E b gb) : GE X W E (.IfExp c a b pos) (gIfE tc ga gb) :=
  mE (pe_ifExp hc ha hb) fun σ H Q ⟨ξ, Γ, M, F, ρ, en, rp, po⟩ => ⟨ξ, Γ, M, F, ρ, en, rp, po.bind.imp (by
    rintro c H1 ⟨c', M1, F1, ρ1, e1, p1, rp1, rfl, po1⟩
    cases c' with
    | true => exact ⟨ξ, Γ, M1, F1, ρ1, en.mono e1 p1, rp1, po1⟩
    | false => exact ⟨ξ, Γ, M1, F1, ρ1, en.mono e1 p1, rp1, po1⟩)⟩
/-! ### arguments, displays -/
variable {es : List Expr} {gs : GA'}
def gNil : GA' := fun _ M => .ok [] M
def gCons (a : GE') (b : GA') : GA' := fun Γ M => (a Γ M).bind fun x M1 => (b Γ M1).bind fun xs M2 => .ok (x :: xs) M2
theorem ga_nil : GA X W E [] gNil := mA pa_nil fun σ H Q ⟨ξ, Γ, M, F, ρ, en, rp, po⟩ => po [] F ρ H Le.rfl' (List.prefix_refl _) rp IsL.nil
theorem ga_cons (ha : GE X W E e ga) (hr : GA X W E es gs) (hs : starEach (e :: es) X.env = (false, eval e X.env) :: starEach es X.env := by rfl) : GA X W E (e :: es) (gCons ga gs) :=
  mA (pa_cons ha hr hs) fun σ H Q ⟨ξ, Γ, M, F, ρ, en, rp, po⟩ => ⟨ξ, Γ, M, F, ρ, en, rp, po.bind.imp (by
    rintro v H1 ⟨x, M1, F1, ρ1, e1, p1, rp1, ix, po1⟩
    refine ⟨ξ, Γ, M1, F1, ρ1, en.mono e1 p1, rp1, po1.bind.imp ?_⟩
    rintro vs H2 ⟨xs, M2, F2, ρ2, e2, p2, rp2, ixs, po2⟩
    exact po2 _ F2 ρ2 H2 Le.rfl' (List.prefix_refl _) rp2 (IsL.cons (ix.mono e2 p2) ixs))⟩
def gTup (t : GA') : GE' := fun Γ M => (t Γ M).bind fun xs M1 => if xs.length ≤ 1000000 then .ok (.tup xs) M1 else .no
def gLst (t : GA') : GE' := fun Γ M => (t Γ M).bind fun xs M1 => if xs.length ≤ 1000000 then .ok (.lst xs) M1 else .no
/-- a list that will be changed -/
def gLstM (t : GA') : GE' := fun Γ M => (t Γ M).bind fun xs M1 => if xs.length ≤ 1000000 then .ok (.ref M1.length) (M1 ++ [.lst xs]) else .no
theorem new_tup {F H : Hp} {M : Stor} {ρ : List Addr} {p : Addr} {xs : List D} {vs : List V} {Q : VK} {Z : XK} (rp : Rp W ξ M F H ρ) (hl : IsL W F ρ xs vs) (n : H p = none) (po : Po W ξ (Is W) F ρ (.ok (.tup xs) M) Q Z) : Q (.ref p) (upd H p (.tup vs)) := by
  have nF := rp.free n
  refine po _ _ ρ _ (Le.new nF) (List.prefix_refl _) (rp.new n) ?_
  simp only [Is]
  exact ⟨p, vs, rfl, SqT.of upd_same, hl.mono (Le.new nF) (List.prefix_refl _)⟩
theorem new_lst {F H : Hp} {M : Stor} {ρ : List Addr} {p : Addr} {xs : List D} {vs : List V} {Q : VK} {Z : XK} (rp : Rp W ξ M F H ρ) (hl : IsL W F ρ xs vs) (n : H p = none) (po : Po W ξ (Is W) F ρ (.ok (.lst xs) M) Q Z) : Q (.ref p) (upd H p (.lst vs)) := by
  have nF := rp.free n
  refine po _ _ ρ _ (Le.new nF) (List.prefix_refl _) (rp.new n) ?_
  simp only [Is]
  exact ⟨p, vs, rfl, upd_same, hl.mono (Le.new nF) (List.prefix_refl _)⟩
theorem new_lstM {F H : Hp} {M : Stor} {ρ : List Addr} {p : Addr} {xs : List D} {vs : List V} {Q : VK} {Z : XK} (rp : Rp W ξ M F H ρ) (hl : IsL W F ρ xs vs) (n : H p = none) (po : Po W ξ (Is W) F ρ (.ok (.ref M.length) (M ++ [.lst xs])) Q Z) : Q (.ref p) (upd H p (.lst vs)) := by
  refine po _ F (ρ ++ [p]) _ Le.rfl' (List.prefix_append _ _) (rp.mut n ⟨vs, rfl, hl.mono Le.rfl' (List.prefix_append _ _)⟩) ?_
  simp only [Is]
  exact ⟨p, rfl, by rw [List.getElem?_append_right (by rw [rp.len]; exact Nat.le_refl _), rp.len]; simp⟩
theorem ge_tup {x1} (h : GA X W E es gs) : GE X W E (.Tuple es x1 pos) (gTup gs) :=
  mE (pe_tup h) fun σ H Q ⟨ξ, Γ, M, F, ρ, en, rp, po⟩ => ⟨ξ, Γ, M, F, ρ, en, rp, po.bind.imp (by
    rintro vs H1 ⟨xs, M1, F1, ρ1, e1, p1, rp1, ix, po1⟩
    split at po1
    · rename_i hz
      exact ⟨small_line (by rw [ix.len]; exact hz), fun p n => new_tup rp1 ix n po1⟩
    · exact po1.elim)⟩
theorem ge_lst (h : GA X W E es gs) : GE X W E (.List es pos) (gLst gs) :=
  mE (pe_lst h) fun σ H Q ⟨ξ, Γ, M, F, ρ, en, rp, po⟩ => ⟨ξ, Γ, M, F, ρ, en, rp, po.bind.imp (by
    rintro vs H1 ⟨xs, M1, F1, ρ1, e1, p1, rp1, ix, po1⟩
    split at po1
    · rename_i hz
      exact ⟨small_line (by rw [ix.len]; exact hz), fun p n => new_lst rp1 ix n po1⟩
    · exact po1.elim)⟩
theorem ge_lstM (h : GA X W E es gs) : GE X W E (.List es pos) (gLstM gs) :=
  mE (pe_lst h) fun σ H Q ⟨ξ, Γ, M, F, ρ, en, rp, po⟩ => ⟨ξ, Γ, M, F, ρ, en, rp, po.bind.imp (by
    rintro vs H1 ⟨xs, M1, F1, ρ1, e1, p1, rp1, ix, po1⟩
    split at po1
    · rename_i hz
      exact ⟨small_line (by rw [ix.len]; exact hz), fun p n => new_lstM rp1 ix n po1⟩
    · exact po1.elim)⟩
end
end G

namespace G
open PySem PySem.Spec PyProof.Rows L2
/-! ### statements -/
section
variable {X : Cx} {W : Wd} {ξ : Xi} {E : Sg → XK} {a b e : Expr} {ga gb : GE'} {pos : Pos} {st : Stmt} {rest : List Stmt} {gs gr : GS'}
def gSeq (a b : GS') : GS' := fun Γ M => match a Γ M with
  | .nx Γ1 M1 => b Γ1 M1
  | r => r
def gSkip : GS' := fun Γ M => .nx Γ M
def gRet (a : GE') : GS' := fun Γ M => (a Γ M).bindS Γ fun d M1 => .rt d M1
def gRetN : GS' := fun _ M => .rt .non M
def gExpr (a : GE') : GS' := fun Γ M => (a Γ M).bindS Γ fun _ M1 => .nx Γ M1
def gSet (i : Nat) (a : GE') : GS' := fun Γ M => (a Γ M).bindS Γ fun d M1 => .nx (Γ.set i (some d)) M1
def gIf (t : GT') (a b : GS') : GS' := fun Γ M => (t Γ M).bindS Γ fun c M1 => if c then a Γ M1 else b Γ M1
def gBreak : GS' := fun Γ M => .bk Γ M
def gCont : GS' := fun Γ M => .ct Γ M
theorem gs_nil : GSs X W E [] gSkip := mSs pss_nil fun N σ H ⟨ξ, Γ, M, F, ρ, en, rp, po⟩ => po σ F ρ H Le.rfl' (List.prefix_refl _) rp en
theorem gs_one (h : GS X W E st gs) : GSs X W E [st] gs := pss_one h
theorem gs_cons (h1 : GS X W E st gs) (h2 : GSs X W E rest gr) : GSs X W E (st :: rest) (gSeq gs gr) :=
  mSs (pss_cons h1 h2) fun N σ H ⟨ξ, Γ, M, F, ρ, en, rp, po⟩ => by
    refine ⟨ξ, Γ, M, F, ρ, en, rp, ?_⟩
    unfold gSeq at po
    cases e : gs Γ M with
    | nx Γ1 M1 =>
      rw [e] at po
      exact fun σ' F' ρ' H' le p rp' en' => ⟨ξ, Γ1, M1, F', ρ', en', rp', po.mono le p⟩
    | rt d M1 => rw [e] at po; exact po
    | bk Γ1 M1 => rw [e] at po; exact po
    | ct Γ1 M1 => rw [e] at po; exact po
    | ex c fs Γ1 M1 => rw [e] at po; exact po
    | no => rw [e] at po; exact po
theorem gs_pass : GS X W E (.Pass pos) gSkip := mS ps_pass fun N σ H ⟨ξ, Γ, M, F, ρ, en, rp, po⟩ => po σ F ρ H Le.rfl' (List.prefix_refl _) rp en
theorem gs_break : GS X W E (.Break pos) gBreak := mS ps_break fun N σ H ⟨ξ, Γ, M, F, ρ, en, rp, po⟩ => po σ F ρ H Le.rfl' (List.prefix_refl _) rp en
theorem gs_continue : GS X W E (.Continue pos) gCont := mS ps_continue fun N σ H ⟨ξ, Γ, M, F, ρ, en, rp, po⟩ => po σ F ρ H Le.rfl' (List.prefix_refl _) rp en
theorem gs_ret (h : GE X W E e ga) : GS X W E (.Return (some e) pos) (gRet ga) :=
  mS (ps_ret h) fun N σ H ⟨ξ, Γ, M, F, ρ, en, rp, po⟩ => ⟨ξ, Γ, M, F, ρ, en, rp, (Po.bindS en po).imp (by
    rintro v H1 ⟨x, M1, F1, ρ1, e1, p1, rp1, ix, po1⟩
    exact po1 v F1 ρ1 H1 Le.rfl' (List.prefix_refl _) rp1 ix)⟩
theorem gs_retN : GS X W E (.Return none pos) gRetN :=
  mS ps_retN fun N σ H ⟨ξ, Γ, M, F, ρ, en, rp, po⟩ => po .non F ρ H Le.rfl' (List.prefix_refl _) rp (by simp only [Is])
theorem gs_expr (h : GE X W E e ga) (hs : swapsWith e none pos.line X.env = pure false := by rfl) : GS X W E (.Expr e pos) (gExpr ga) :=
  mS (ps_expr h hs) fun N σ H ⟨ξ, Γ, M, F, ρ, en, rp, po⟩ => ⟨ξ, Γ, M, F, ρ, en, rp, (Po.bindS en po).imp (by
    rintro v H1 ⟨x, M1, F1, ρ1, e1, p1, rp1, ix, po1⟩
    exact po1 σ F1 ρ1 H1 Le.rfl' (List.prefix_refl _) rp1 (en.mono e1 p1))⟩
theorem gs_set {i : Nat} {x : Str} {pos' : Pos} (hN : X.N.Nodup) (hi : X.N[i]? = some x) (hx : Loc X.env.scope x) (he : GE X W E e ga) (hs : swapsWith e (some (.Name x pos')) pos.line X.env = pure false := by rfl)
    (hf : X.fn x = true ∨ X.env.scope.names.lookup x = some .local := by first | exact .inl rfl | exact .inr rfl) : GS X W E (.Assign [.Name x pos'] e pos) (gSet i ga) :=
  mS (ps_set hN hi hx he hs hf) fun N σ H ⟨ξ, Γ, M, F, ρ, en, rp, po⟩ => ⟨ξ, Γ, M, F, ρ, en, rp, (Po.bindS en po).imp (by
    rintro v H1 ⟨x, M1, F1, ρ1, e1, p1, rp1, ix, po1⟩
    exact po1 _ F1 ρ1 H1 Le.rfl' (List.prefix_refl _) rp1 ((en.mono e1 p1).set ix))⟩
theorem gs_if {c : Expr} {l m : List Stmt} {tc : GT'} (hc : GT X W E c tc) (ha : GSs X W E l gs) (hb : GSs X W E m gr) : GS X W E (.If c l m pos) (gIf tc gs gr) :=
  mS (ps_if hc ha hb) fun N σ H ⟨ξ, Γ, M, F, ρ, en, rp, po⟩ => ⟨ξ, Γ, M, F, ρ, en, rp, (Po.bindS en po).imp (by
    rintro c H1 ⟨c', M1, F1, ρ1, e1, p1, rp1, rfl, po1⟩
    cases c' with
    | true => exact ⟨ξ, Γ, M1, F1, ρ1, en.mono e1 p1, rp1, po1⟩
    | false => exact ⟨ξ, Γ, M1, F1, ρ1, en.mono e1 p1, rp1, po1⟩)⟩
/-- code that is never reached -/
def gStuck : GS' := fun _ _ => .no
theorem gs_stuck : GS X W E st gStuck := mS ps_never fun N σ H ⟨ξ, Γ, M, F, ρ, en, rp, po⟩ => po
theorem gss_stuck {l : List Stmt} : GSs X W E l gStuck := mSs pss_never fun N σ H ⟨ξ, Γ, M, F, ρ, en, rp, po⟩ => po
/-- x op= e -/
def gAug (i : Nat) (f : D → D → Stor → R D) (a : GE') : GS' := fun Γ M => match Γ[i]? with
  | some (some x) => ((a Γ M).bind fun y M1 => f x y M1).bindS Γ fun d M2 => .nx (Γ.set i (some d)) M2
  | _ => .no
theorem gs_aug {i : Nat} {x : Str} {pos' : Pos} {op : Operator} {f : D → D → Stor → R D} (hN : X.N.Nodup) (hi : X.N[i]? = some x) (hx : Loc X.env.scope x) (ho : OpG X W E (inplaceOp op) f) (he : GE X W E e ga)
    (hf : X.fn x = true ∨ X.env.scope.names.lookup x = some .local := by first | exact .inl rfl | exact .inr rfl) : GS X W E (.AugAssign (.Name x pos') op e pos) (gAug i f ga) := by
  refine ⟨fun pins s σ H N I h => ?_⟩
  obtain ⟨ξ, Γ, M, F, ρ, en, rp, po⟩ := h
  unfold gAug at po
  split at po
  · rename_i dx hdx
    obtain ⟨vx, ex, ix⟩ := en.at_ i dx hdx
    obtain ⟨m, hn, hl⟩ := I.loc
    have vis : Vis X.env.scope x := by rcases hx with k | k; exact .inl k; exact .inr (.inl k)
    obtain ⟨u, r, l⟩ := hl i x vx hi ex vis
    refine wpAny_AugAssign_Name ?_
    have go : wpAny (model X.prog X.w) X.A (eval e X.env) (fun w' s2 => wpAny (model X.prog X.w) X.A (inplaceOp op u w') (fun r s3 => wpAny (model X.prog X.w) X.A (storeName X.env x r) (fun _ => SP X pins N .next) X.xe s3) X.xe s2) X.xe s := by
      refine thn (he.run pins s σ H _ I ⟨ξ, Γ, M, F, ρ, en, rp, Po.bind (rel2 := Is W) (Po.bindS (rel := Is W) en po)⟩) ?_
      rintro w' s1 ⟨vy, H1, I1, r1, y, M1, F1, ρ1, e1, p1, rp1, iy, po1⟩
      refine thn (ho ξ pins s1 σ H1 M1 F1 ρ1 dx y vx vy u w' _ I1 r r1 rp1 (ix.mono e1 p1) iy po1) ?_
      rintro z s2 ⟨vz, H2, I2, r2, dz, M2, F2, ρ2, e2, p2, rp2, iz, po2⟩
      refine store_ok I2 hN hi hx r2 (fun s3 I3 => ⟨_, H2, I3, ?_⟩) hf
      exact po2 _ F2 ρ2 H2 Le.rfl' (List.prefix_refl _) rp2 (((en.mono e2 p2)).set iz)
    rcases l with ⟨hk, hm⟩ | ⟨hk, c, hc, hcell⟩
    · exact wpAny_loadName_local I.ok.kind hk hn hm go
    · rcases hk with hk | hk
      · exact wpAny_loadName_cell I.ok.kind hk hc hcell go
      · have z : X.env.scope.names.lookup x = some .free := hk
        rcases hx with k | k <;> (rw [k] at z; cases z)
  · exact po.elim
end
end G

namespace G
open PySem PySem.Spec PyProof.Rows L2
section
variable {X : Cx} {W : Wd} {ξ : Xi} {E : Sg → XK} {a b e : Expr} {ga gb : GE'} {pos : Pos} {st : Stmt} {body : List Stmt} {gs gr : GS'}
/-! ### while -/
def gWhile (t : GT') (b : GS') : Nat → GS'
  | 0 => fun _ _ => .no
  | n + 1 => fun Γ M => (t Γ M).bindS Γ fun c M1 => if c then (match b Γ M1 with
    | .nx Γ2 M2 => gWhile t b n Γ2 M2
    | .ct Γ2 M2 => gWhile t b n Γ2 M2
    | .bk Γ2 M2 => .nx Γ2 M2
    | r => r) else .nx Γ M1
theorem gs_while (n : Nat) {c : Expr} {tc : GT'} (hp : PassesOwn (model X.prog X.w) X.A X.env X.xe) (hc : GT X W E c tc) (hb : GSs X W E body gs) : GS X W E (.While c body [] pos) (gWhile tc gs n) :=
  mS (ps_while hp hc hb) fun N σ H h => by
    refine ⟨fun m σ H => ∃ ξ Γ M F ρ, En W Γ σ F ρ ∧ Rp W ξ M F H ρ ∧ PoS W ξ F ρ (gWhile tc gs m Γ M) N E, ⟨n, h⟩, ?_⟩
    rintro m σ H ⟨ξ, Γ, M, F, ρ, en, rp, po⟩
    cases m with
    | zero => exact po.elim
    | succ m =>
      refine ⟨ξ, Γ, M, F, ρ, en, rp, (Po.bindS en po).imp ?_⟩
      rintro c H1 ⟨c', M1, F1, ρ1, e1, p1, rp1, rfl, po1⟩
      cases c' with
      | false => exact po1 σ F1 ρ1 H1 Le.rfl' (List.prefix_refl _) rp1 (en.mono e1 p1)
      | true =>
        refine ⟨fun σ' H' => ∃ ξ Γ M F ρ, En W Γ σ' F ρ ∧ Rp W ξ M F H' ρ ∧ PoS W ξ F ρ (gWhile tc gs m Γ M) N E, fun σ' H' z => ⟨m, Nat.lt_succ_self m, z⟩, ξ, Γ, M1, F1, ρ1, en.mono e1 p1, rp1, ?_⟩
        simp only [if_true] at po1
        cases e : gs Γ M1 with
        | nx Γ2 M2 => rw [e] at po1; exact fun σ' F' ρ' H' le p rp' en' => ⟨ξ, Γ2, M2, F', ρ', en', rp', po1.mono le p⟩
        | ct Γ2 M2 => rw [e] at po1; exact fun σ' F' ρ' H' le p rp' en' => ⟨ξ, Γ2, M2, F', ρ', en', rp', po1.mono le p⟩
        | bk Γ2 M2 => rw [e] at po1; exact po1
        | rt d M2 => rw [e] at po1; exact po1
        | ex c fs Γ2 M2 => rw [e] at po1; exact po1
        | no => rw [e] at po1; exact po1
/-! ### targets -/
abbrev GG' := D → Gam → Stor → Option (Gam × Stor)
def PoG (W : Wd) (ξ : Xi) (F : Hp) (ρ : List Addr) (r : Option (Gam × Stor)) (Q : Sg → Hp → Prop) : Prop :=
  match r with
  | some (g, M) => ∀ σ' F' ρ' H', Le F F' → ρ <+: ρ' → Rp W ξ M F' H' ρ' → En W g σ' F' ρ' → Q σ' H'
  | none => False
theorem PoG.mono {F F' : Hp} {ρ ρ' : List Addr} {r : Option (Gam × Stor)} {Q : Sg → Hp → Prop} (h : PoG W ξ F ρ r Q) (e : Le F F') (p : ρ <+: ρ') : PoG W ξ F' ρ' r Q := by
  cases r with
  | none => exact h
  | some q => exact fun v F2 ρ2 H2 e2 p2 => h v F2 ρ2 H2 (e.tr e2) (p.trans p2)
def tGG (W : Wd) (g : GG') : TG := fun v σ H Q => ∃ ξ d Γ M F ρ, Is W F ρ d v ∧ En W Γ σ F ρ ∧ Rp W ξ M F H ρ ∧ PoG W ξ F ρ (g d Γ M) Q
abbrev GG (X : Cx) (W : Wd) (e : Expr) (g : GG') : Prop := PG X e (tGG W g)
theorem mG {t t' : TG} (h : PG X e t) (k : ∀ v σ H Q, t' v σ H Q → t v σ H Q) : PG X e t' := ⟨fun pins s σ H v u Q I r z => h.run pins s σ H v u Q I r (k v σ H Q z)⟩
def ggName (i : Nat) : GG' := fun d Γ M => some (Γ.set i (some d), M)
theorem gg_name {i : Nat} {x : Str} (h : PG X (.Name x pos) (gName i)) : GG X W (.Name x pos) (ggName i) :=
  mG h fun v σ H Q ⟨ξ, d, Γ, M, F, ρ, is, en, rp, po⟩ => po _ F ρ H Le.rfl' (List.prefix_refl _) rp (en.set is)
/-- several targets, one behind another -/
abbrev GGs' := List D → Gam → Stor → Option (Gam × Stor)
def ggNil : GGs' := fun ds Γ M => match ds with
  | [] => some (Γ, M)
  | _ => none
def ggCons (g : GG') (r : GGs') : GGs' := fun ds Γ M => match ds with
  | d :: ds => (match g d Γ M with
    | some (Γ1, M1) => r ds Γ1 M1
    | none => none)
  | [] => none
def tGGs (W : Wd) (g : GGs') : TGs := fun vs σ H Q => ∃ ξ ds Γ M F ρ, IsL W F ρ ds vs ∧ En W Γ σ F ρ ∧ Rp W ξ M F H ρ ∧ PoG W ξ F ρ (g ds Γ M) Q
abbrev GGs (X : Cx) (W : Wd) (es : List Expr) (g : GGs') : Prop := PGs X es (tGGs W g)
theorem mGs {es : List Expr} {t t' : TGs} (h : PGs X es t) (k : ∀ v σ H Q, t' v σ H Q → t v σ H Q) : PGs X es t' := ⟨fun pins s σ H v u Q I r z => h.run pins s σ H v u Q I r (k v σ H Q z)⟩
theorem ggs_nil : GGs X W [] ggNil := mGs pgs_nil fun vs σ H Q ⟨ξ, ds, Γ, M, F, ρ, is, en, rp, po⟩ => by
  cases ds with
  | nil => exact ⟨IsL.nil_iff.mp is, po σ F ρ H Le.rfl' (List.prefix_refl _) rp en⟩
  | cons d ds => exact po.elim
theorem ggs_cons {es : List Expr} {g : GG'} {r : GGs'} (h1 : GG X W e g) (h2 : GGs X W es r) (hs : (assignEach (e :: es) X.env).map (·.2) = assign e X.env :: (assignEach es X.env).map (·.2) := by rfl) : GGs X W (e :: es) (ggCons g r) :=
  mGs (pgs_cons h1 h2 hs) fun vs σ H Q ⟨ξ, ds, Γ, M, F, ρ, is, en, rp, po⟩ => by
    cases ds with
    | nil => exact po.elim
    | cons d ds =>
      obtain ⟨v, vr, rfl, i1, i2⟩ := IsL.cons_iff.mp is
      refine ⟨v, vr, rfl, ξ, d, Γ, M, F, ρ, i1, en, rp, ?_⟩
      unfold ggCons at po
      simp only at po
      cases e : g d Γ M with
      | none => rw [e] at po; exact po.elim
      | some q =>
        rw [e] at po
        exact fun σ' F' ρ' H' le p rp' en' => ⟨ξ, ds, q.1, q.2, F', ρ', i2.mono le p, en', rp', po.mono le p⟩
def ggTup (n : Nat) (r : GGs') : GG' := fun d Γ M => match d with
  | .tup ds => if ds.length = n then r ds Γ M else none
  | _ => none
theorem gg_tup {es : List Expr} {k n : Nat} {r : GGs'} (hK : X.K = W.K) (hc : X.calm = true) (h : GGs X W es r) (hn : (assignEach es X.env).length = n := by rfl) (hst : (assignEach es X.env).findIdx? (·.1) = none := by rfl) : GG X W (.Tuple es k pos) (ggTup n r) :=
  mG (pg_tup hc h hn hst) fun v σ H Q ⟨ξ, d, Γ, M, F, ρ, is, en, rp, po⟩ => by
    cases d with
    | tup ds =>
      simp only [Is] at is
      obtain ⟨p, vs, rfl, q, hl⟩ := is
      simp only [ggTup] at po
      split at po
      · rename_i hz
        exact ⟨p, vs, rfl, by rw [hK]; exact rp.sub.sqT q, by rw [hl.len]; exact hz, ξ, ds, Γ, M, F, ρ, hl, en, rp, po⟩
      · exact po.elim
    | _ => exact po.elim
def gAsg (g : GG') (a : GE') : GS' := fun Γ M => (a Γ M).bindS Γ fun d M1 => match g d Γ M1 with
  | some (Γ2, M2) => .nx Γ2 M2
  | none => .no
theorem gs_asg {tg : Expr} {g : GG'} (he : GE X W E e ga) (hg : GG X W tg g) (hs : swapsWithSole [tg] e pos.line X.env = pure false := by rfl) (hw : swappedStores [tg] e X.env = pure none := by rfl)
    (h1 : (assignEach [tg] X.env).map (·.2) = [assign tg X.env] := by rfl) : GS X W E (.Assign [tg] e pos) (gAsg g ga) :=
  mS (ps_asg he hg hs hw h1) fun N σ H ⟨ξ, Γ, M, F, ρ, en, rp, po⟩ => ⟨ξ, Γ, M, F, ρ, en, rp, (Po.bindS en po).imp (by
    rintro v H1 ⟨x, M1, F1, ρ1, e1, p1, rp1, ix, po1⟩
    refine ⟨ξ, x, Γ, M1, F1, ρ1, ix, en.mono e1 p1, rp1, ?_⟩
    cases e : g x Γ M1 with
    | none => rw [e] at po1; exact po1.elim
    | some q => rw [e] at po1; exact po1)⟩
/-! ### for -/
/-- what is walked yields these, as long as the store is kept -/
def GoodIt (W : Wd) (F0 : Hp) (ρ0 : List Addr) (q : List D × (Stor → Prop)) (J : It) : Prop :=
  ∀ (ξ : Xi) (i : Nat) (M : Stor) (F H : Hp) (ρ : List Addr), Le F0 F → ρ0 <+: ρ → Rp W ξ M F H ρ → q.2 M →
    (∀ d, q.1[i]? = some d → J.go i H ∧ ∀ x H', J.yld i H x H' → ∃ F', Le F F' ∧ Rp W ξ M F' H' ρ ∧ Is W F' ρ d x) ∧ (q.1.length ≤ i → J.stop i H)
abbrev GI' := Gam → Stor → R (List D × (Stor → Prop))
def tGI (W : Wd) (E : Sg → XK) (g : GI') : TI := fun σ H Q => ∃ ξ Γ M F ρ, En W Γ σ F ρ ∧ Rp W ξ M F H ρ ∧ Po W ξ (fun F ρ q J => GoodIt W F ρ q J) F ρ (g Γ M) Q (E σ)
abbrev GI (X : Cx) (W : Wd) (E : Sg → XK) (tg e : Expr) (g : GI') : Prop := PI X tg e (tGI W E g)
theorem mI {tg : Expr} {t t' : TI} (h : PI X tg e t) (k : ∀ σ H Q, t' σ H Q → t σ H Q) : PI X tg e t' := ⟨fun pins s σ H Q I z => h.run pins s σ H Q I (k σ H Q z)⟩
open Classical in
noncomputable def loopG (keep : Stor → Prop) (tg : GG') (b : GS') : List D → Gam → Stor → RS
  | [], Γ, M => .nx Γ M
  | d :: ds, Γ, M => match tg d Γ M with
    | some (Γ1, M1) => (match b Γ1 M1 with
      | .nx Γ2 M2 => if keep M2 then loopG keep tg b ds Γ2 M2 else .no
      | .ct Γ2 M2 => if keep M2 then loopG keep tg b ds Γ2 M2 else .no
      | .bk Γ2 M2 => .nx Γ2 M2
      | r => r)
    | none => .no
open Classical in
noncomputable def gFor (it : GI') (tg : GG') (b : GS') : GS' := fun Γ M => (it Γ M).bindS Γ fun q M1 => if q.2 M1 then loopG q.2 tg b q.1 Γ M1 else .no
theorem gs_for {iter tg : Expr} {gi : GI'} {g : GG'} (hp : PassesOwn (model X.prog X.w) X.A X.env X.xe) (hc : X.calm = true) (hi : GI X W E tg iter gi) (hg : GG X W tg g) (hb : GSs X W E body gs)
    (hs : ∀ x, foldedSetIterable iter X.env x = pure x := by intro _; rfl) : GS X W E (.For tg iter body [] pos) (gFor gi g gs) :=
  mS (ps_for hp hc hi hg hb hs) fun N σ H ⟨ξ, Γ, M, F, ρ, en, rp, po⟩ => ⟨ξ, Γ, M, F, ρ, en, rp, (Po.bindS en po).imp (by
    rintro J H0 ⟨q, M0, F0, ρ0, e0, p0, rp0, good, po0⟩
    split at po0
    case isFalse => exact po0.elim
    rename_i k0
    refine ⟨fun i m σ H => m = q.1.length - i ∧ i ≤ q.1.length ∧ ∃ Γ M F ρ, Le F0 F ∧ ρ0 <+: ρ ∧ q.2 M ∧ En W Γ σ F ρ ∧ Rp W ξ M F H ρ ∧ PoS W ξ F ρ (loopG q.2 g gs (q.1.drop i) Γ M) N E,
      ⟨_, rfl, Nat.zero_le _, Γ, M0, F0, ρ0, Le.rfl', List.prefix_refl _, k0, en.mono e0 p0, rp0, by simpa using po0⟩, ?_⟩
    rintro i m σ1 H1 ⟨rfl, hi, Γ1, M1, F1, ρ1, le1, p1, k1, en1, rp1, po1⟩
    obtain ⟨g1, g2⟩ := good ξ i M1 F1 H1 ρ1 le1 p1 rp1 k1
    by_cases hlt : i < q.1.length
    · right
      have ed : q.1[i]? = some q.1[i] := List.getElem?_eq_getElem hlt
      rw [List.drop_eq_getElem_cons hlt] at po1
      obtain ⟨go, yl⟩ := g1 _ ed
      refine ⟨go, fun σ' H' => ∃ Γ M F ρ, Le F0 F ∧ ρ0 <+: ρ ∧ q.2 M ∧ En W Γ σ' F ρ ∧ Rp W ξ M F H' ρ ∧ PoS W ξ F ρ (loopG q.2 g gs (q.1.drop (i + 1)) Γ M) N E,
        fun σ' H' z => ⟨_, by omega, rfl, hlt, z⟩, fun x H' y => ?_⟩
      obtain ⟨F2, le2, rp2, ix⟩ := yl x H' y
      refine ⟨ξ, _, Γ1, M1, F2, ρ1, ix, en1.mono le2 (List.prefix_refl _), rp2, ?_⟩
      unfold loopG at po1
      cases e : g q.1[i] Γ1 M1 with
      | none => rw [e] at po1; exact po1.elim
      | some z =>
        obtain ⟨Γ3, M3⟩ := z
        rw [e] at po1
        refine fun σ3 F3 ρ3 H3 le3 p3 rp3 en3 => ⟨ξ, Γ3, M3, F3, ρ3, en3, rp3, ?_⟩
        simp only at po1
        cases eb : gs Γ3 M3 with
        | nx Γ4 M4 =>
          rw [eb] at po1
          simp only at po1
          split at po1
          · rename_i k4
            exact fun σ' F' ρ' H' le p rp' en' => ⟨Γ4, M4, F', ρ', le1.tr (le2.tr (le3.tr le)), p1.trans (p3.trans p), k4, en', rp', po1.mono (le2.tr (le3.tr le)) (p3.trans p)⟩
          · exact po1.elim
        | ct Γ4 M4 =>
          rw [eb] at po1
          simp only at po1
          split at po1
          · rename_i k4
            exact fun σ' F' ρ' H' le p rp' en' => ⟨Γ4, M4, F', ρ', le1.tr (le2.tr (le3.tr le)), p1.trans (p3.trans p), k4, en', rp', po1.mono (le2.tr (le3.tr le)) (p3.trans p)⟩
          · exact po1.elim
        | bk Γ4 M4 => rw [eb] at po1; exact (PoS.mono (r := .nx Γ4 M4) po1 (le2.tr le3) p3)
        | rt d M4 => rw [eb] at po1; exact (PoS.mono (r := .rt d M4) po1 (le2.tr le3) p3)
        | ex c fs Γ4 M4 => rw [eb] at po1; exact (PoS.mono (r := .ex c fs Γ4 M4) po1 (le2.tr le3) p3)
        | no => rw [eb] at po1; exact po1.elim
    · left
      have hi' : i = q.1.length := by omega
      refine ⟨g2 (by omega), ?_⟩
      subst hi'
      rw [List.drop_length] at po1
      exact po1 σ1 F1 ρ1 H1 Le.rfl' (List.prefix_refl _) rp1 en1)⟩
end
end G

namespace G
open PySem PySem.Spec PyProof.Rows L2
/-! ### what is new is made firm -/
mutual
def frzD (look : Nat → Option D) : D → Option D
  | .ref k => look k
  | .tup l => (frzL look l).map D.tup
  | .lst l => (frzL look l).map D.lst
  | .lck l => (frzL look l).map D.lck
  | .ins c l => (frzL look l).map (D.ins c)
  | .cls c => some (.cls c)
  | .non => some .non
  | .bl b => some (.bl b)
  | .int i => some (.int i)
  | .str x => some (.str x)
  | .ty n => some (.ty n)
def frzL (look : Nat → Option D) : List D → Option (List D)
  | [] => some []
  | d :: ds => match frzD look d, frzL look ds with
    | some x, some xs => some (x :: xs)
    | _, _ => none
end
theorem frzL_len {look : Nat → Option D} : ∀ {l l' : List D}, frzL look l = some l' → l'.length = l.length
  | [], l', e => by simp only [frzL, Option.some.injEq] at e; subst e; rfl
  | d :: ds, l', e => by
    simp only [frzL] at e
    cases e1 : frzD look d with
    | none => rw [e1] at e; cases e
    | some x =>
      cases e2 : frzL look ds with
      | none => rw [e1, e2] at e; cases e
      | some xs => rw [e1, e2] at e; cases e; simp [frzL_len e2]
def lookN (n : Nat) (M : Stor) : Nat → Nat → Option D
  | 0, k => if k < n then some (.ref k) else none
  | f + 1, k => if k < n then some (.ref k) else match M[k]? with
    | some (.lst l) => (frzL (lookN n M f) l).map D.lst
    | some (.ins c l) => (frzL (lookN n M f) l).map (D.ins c)
    | _ => none
mutual
def D.low (n : Nat) : D → Bool
  | .ref k => decide (k < n)
  | .tup l => lowL n l
  | .lst l => lowL n l
  | .lck l => lowL n l
  | .ins _ l => lowL n l
  | .cls _ => true
  | .non => true
  | .bl _ => true
  | .int _ => true
  | .str _ => true
  | .ty _ => true
def lowL (n : Nat) : List D → Bool
  | [] => true
  | d :: ds => d.low n && lowL n ds
end
def MO.low (n : Nat) : MO → Bool
  | .lst l => lowL n l
  | .ins _ l => lowL n l
  | .dead => true
section
variable {W : Wd} {ξ : Xi} {F H : Hp} {ρ ρ' : List Addr} {M : Stor}
mutual
theorem Is.low : ∀ {d : D} {v : V}, Is W F ρ d v → d.low ρ.length = true
  | .ref k, _, h => by
    simp only [Is] at h; obtain ⟨a, _, e⟩ := h
    simp only [D.low, decide_eq_true_eq]
    exact (List.getElem?_eq_some_iff.mp e).1
  | .tup l, _, h => by simp only [Is] at h; obtain ⟨a, vs, _, _, hl⟩ := h; simpa only [D.low] using IsL.low hl
  | .lst l, _, h => by simp only [Is] at h; obtain ⟨a, vs, _, _, hl⟩ := h; simpa only [D.low] using IsL.low hl
  | .lck l, _, h => by simp only [Is] at h; obtain ⟨a, vs, _, _, hl⟩ := h; simpa only [D.low] using IsL.low hl
  | .cls _, _, _ => by simp only [D.low]
  | .ins c l, _, h => by simp only [Is] at h; obtain ⟨a, dx, fvs, _, _, _, hl⟩ := h; simpa only [D.low] using IsL.low hl
  | .non, _, _ => by simp only [D.low]
  | .bl _, _, _ => by simp only [D.low]
  | .int _, _, _ => by simp only [D.low]
  | .str _, _, _ => by simp only [D.low]
  | .ty _, _, _ => by simp only [D.low]
theorem IsL.low : ∀ {ds : List D} {vs : List V}, IsL W F ρ ds vs → lowL ρ.length ds = true
  | [], _, _ => by simp only [lowL]
  | d :: ds, _, h => by
    obtain ⟨v, r, _, h1, h2⟩ := IsL.cons_iff.mp h
    simp only [lowL, Bool.and_eq_true]
    exact ⟨Is.low h1, IsL.low h2⟩
end
mutual
theorem Is.less (p : ρ <+: ρ') : ∀ {d : D} {v : V}, Is W F ρ' d v → d.low ρ.length = true → Is W F ρ d v
  | .ref k, _, h, b => by
    simp only [Is] at h ⊢; obtain ⟨a, e1, e⟩ := h
    simp only [D.low, decide_eq_true_eq] at b
    obtain ⟨t, rfl⟩ := p
    rw [List.getElem?_append_left b] at e
    exact ⟨a, e1, e⟩
  | .tup l, _, h, b => by simp only [Is] at h ⊢; obtain ⟨a, vs, e1, q, hl⟩ := h; exact ⟨a, vs, e1, q, IsL.less p hl (by simpa only [D.low] using b)⟩
  | .lst l, _, h, b => by simp only [Is] at h ⊢; obtain ⟨a, vs, e1, q, hl⟩ := h; exact ⟨a, vs, e1, q, IsL.less p hl (by simpa only [D.low] using b)⟩
  | .lck l, _, h, b => by simp only [Is] at h ⊢; obtain ⟨a, vs, e1, q, hl⟩ := h; exact ⟨a, vs, e1, q, IsL.less p hl (by simpa only [D.low] using b)⟩
  | .cls _, _, h, _ => by simpa only [Is] using h
  | .ins c l, _, h, b => by simp only [Is] at h ⊢; obtain ⟨a, dx, fvs, e1, q, nn, hl⟩ := h; exact ⟨a, dx, fvs, e1, q, nn, IsL.less p hl (by simpa only [D.low] using b)⟩
  | .non, _, h, _ => by simpa only [Is] using h
  | .bl _, _, h, _ => by simpa only [Is] using h
  | .int _, _, h, _ => by simpa only [Is] using h
  | .str _, _, h, _ => by simpa only [Is] using h
  | .ty _, _, h, _ => by simpa only [Is] using h
theorem IsL.less (p : ρ <+: ρ') : ∀ {ds : List D} {vs : List V}, IsL W F ρ' ds vs → lowL ρ.length ds = true → IsL W F ρ ds vs
  | [], _, h, _ => by simpa only [IsL] using h
  | d :: ds, _, h, b => by
    obtain ⟨v, r, rfl, h1, h2⟩ := IsL.cons_iff.mp h
    simp only [lowL, Bool.and_eq_true] at b
    exact IsL.cons (Is.less p h1 b.1) (IsL.less p h2 b.2)
end
theorem MoIs.low {m : MO} {o : Option HO} (h : MoIs W F ρ m o) : m.low ρ.length = true := by
  cases m with
  | lst l => obtain ⟨vs, _, hl⟩ := h; exact hl.low
  | ins c l => obtain ⟨dx, fvs, _, _, hl⟩ := h; exact hl.low
  | dead => rfl
theorem MoIs.less (p : ρ <+: ρ') {m : MO} {o : Option HO} (h : MoIs W F ρ' m o) (b : m.low ρ.length = true) : MoIs W F ρ m o := by
  cases m with
  | lst l => obtain ⟨vs, a, hl⟩ := h; exact ⟨vs, a, hl.less p b⟩
  | ins c l => obtain ⟨dx, fvs, a, nn, hl⟩ := h; exact ⟨dx, fvs, a, nn, hl.less p b⟩
  | dead => exact h
/-- every object of a store that stands bears numbers of that store -/
theorem Rp.low (h : Rp W ξ M F H ρ) : ∀ m ∈ M, m.low M.length = true := fun m hm => by
  obtain ⟨i, hi, e⟩ := List.getElem_of_mem hm
  have hr : i < ρ.length := by rw [h.len]; exact hi
  obtain ⟨_, q⟩ := h.obj i m ρ[i] (by rw [List.getElem?_eq_getElem hi, e]) (List.getElem?_eq_getElem hr)
  have := q.low
  rw [h.len] at this; exact this
/-- the heap of what is firm, with all that the store has from n on -/
noncomputable def firm (F H : Hp) (l : List Addr) : Hp := fun a => if a ∈ l then H a else F a
theorem firm_le (rp : Rp W ξ M F H ρ') {n : Nat} : Le F (firm F H (ρ'.drop n)) := fun a o e => by
  unfold firm
  split
  · exact rp.sub _ _ e
  · exact e
theorem Rp.cut (rp : Rp W ξ M F H ρ') (p : ρ <+: ρ') (hb : ∀ m ∈ M.take ρ.length, m.low ρ.length = true) : Rp W ξ (M.take ρ.length) (firm F H (ρ'.drop ρ.length)) H ρ := by
  obtain ⟨t, rfl⟩ := p
  have hd : (ρ ++ t).drop ρ.length = t := by simp
  rw [hd]
  have nd := rp.nd
  rw [List.nodup_append] at nd
  refine ⟨fun a o e => ?_, ?_, nd.1, fun i m a em ea => ?_, fun q hq => by
    obtain ⟨q1, q2, q3⟩ := rp.xt q hq
    rw [List.mem_append, not_or] at q3
    refine ⟨q1, ?_, q3.1⟩
    unfold firm; rw [if_neg q3.2]; exact q2⟩
  · unfold firm at e
    split at e
    · exact e
    · exact rp.sub _ _ e
  · have := rp.len; simp at this ⊢; omega
  · have hi : i < ρ.length := (List.getElem?_eq_some_iff.mp ea).1
    rw [List.getElem?_take_of_lt hi] at em
    have ea' : (ρ ++ t)[i]? = some a := by rw [List.getElem?_append_left hi]; exact ea
    obtain ⟨q1, q2⟩ := rp.obj i m a em ea'
    have hm : m ∈ M.take ρ.length := by
      have : (M.take ρ.length)[i]? = some m := by rw [List.getElem?_take_of_lt hi]; exact em
      exact List.mem_of_getElem? this
    have na : a ∉ t := fun hz => nd.2.2 a (List.mem_of_getElem? ea) a hz rfl
    have le : Le F (firm F H t) := by have := firm_le rp (n := ρ.length); rw [hd] at this; exact this
    refine ⟨?_, ((q2.mono le (List.prefix_refl _)).less (List.prefix_append _ _) (hb m hm))⟩
    unfold firm; rw [if_neg na]; exact q1
mutual
theorem frz_ok {look : Nat → Option D} {F2 : Hp} {ρ2 : List Addr} (le : Le F F2) (hlook : ∀ k d v, look k = some d → Is W F ρ (.ref k) v → Is W F2 ρ2 d v) :
    ∀ {d d' : D} {v : V}, frzD look d = some d' → Is W F ρ d v → Is W F2 ρ2 d' v
  | .ref k, d', v, e, h => hlook k d' v (by simpa only [frzD] using e) h
  | .tup l, d', v, e, h => by
    simp only [frzD, Option.map_eq_some_iff] at e; obtain ⟨l', el, rfl⟩ := e
    simp only [Is] at h ⊢; obtain ⟨a, vs, e1, q, hl⟩ := h
    exact ⟨a, vs, e1, le.sqT q, frzL_ok le hlook el hl⟩
  | .lst l, d', v, e, h => by
    simp only [frzD, Option.map_eq_some_iff] at e; obtain ⟨l', el, rfl⟩ := e
    simp only [Is] at h ⊢; obtain ⟨a, vs, e1, q, hl⟩ := h
    exact ⟨a, vs, e1, le _ _ q, frzL_ok le hlook el hl⟩
  | .lck l, d', v, e, h => by
    simp only [frzD, Option.map_eq_some_iff] at e; obtain ⟨l', el, rfl⟩ := e
    simp only [Is] at h ⊢; obtain ⟨a, vs, e1, q, hl⟩ := h
    exact ⟨a, vs, e1, le.sqL q, frzL_ok le hlook el hl⟩
  | .cls _, d', v, e, h => by simp only [frzD, Option.some.injEq] at e; subst e; simpa only [Is] using h
  | .ins c l, d', v, e, h => by
    simp only [frzD, Option.map_eq_some_iff] at e; obtain ⟨l', el, rfl⟩ := e
    simp only [Is] at h ⊢; obtain ⟨a, dx, fvs, e1, q, nn, hl⟩ := h
    exact ⟨a, dx, fvs, e1, le _ _ q, by rw [nn, frzL_len el], frzL_ok le hlook el hl⟩
  | .non, d', v, e, h => by simp only [frzD, Option.some.injEq] at e; subst e; simpa only [Is] using h
  | .bl _, d', v, e, h => by simp only [frzD, Option.some.injEq] at e; subst e; simpa only [Is] using h
  | .int _, d', v, e, h => by simp only [frzD, Option.some.injEq] at e; subst e; simpa only [Is] using h
  | .str _, d', v, e, h => by simp only [frzD, Option.some.injEq] at e; subst e; simpa only [Is] using h
  | .ty _, d', v, e, h => by simp only [frzD, Option.some.injEq] at e; subst e; simpa only [Is] using h
theorem frzL_ok {look : Nat → Option D} {F2 : Hp} {ρ2 : List Addr} (le : Le F F2) (hlook : ∀ k d v, look k = some d → Is W F ρ (.ref k) v → Is W F2 ρ2 d v) :
    ∀ {ds ds' : List D} {vs : List V}, frzL look ds = some ds' → IsL W F ρ ds vs → IsL W F2 ρ2 ds' vs
  | [], ds', vs, e, h => by simp only [frzL, Option.some.injEq] at e; subst e; simpa only [IsL] using h
  | d :: ds, ds', vs, e, h => by
    obtain ⟨v, r, rfl, h1, h2⟩ := IsL.cons_iff.mp h
    simp only [frzL] at e
    cases e1 : frzD look d with
    | none => rw [e1] at e; cases e
    | some x =>
      cases e2 : frzL look ds with
      | none => rw [e1, e2] at e; cases e
      | some xs =>
        rw [e1, e2] at e
        cases e
        exact IsL.cons (frz_ok le hlook e1 h1) (frzL_ok le hlook e2 h2)
end
theorem look_ok (rp : Rp W ξ M F H ρ') (p : ρ <+: ρ') : ∀ (f k : Nat) (d : D) (v : V), lookN ρ.length M f k = some d → Is W F ρ' (.ref k) v → Is W (firm F H (ρ'.drop ρ.length)) ρ d v := by
  intro f
  have old : ∀ (k : Nat) (v : V), k < ρ.length → Is W F ρ' (.ref k) v → Is W (firm F H (ρ'.drop ρ.length)) ρ (.ref k) v := fun k v hk h =>
    (h.mono (firm_le rp) (List.prefix_refl _)).less p (by simp only [D.low, decide_eq_true_eq]; exact hk)
  induction f with
  | zero =>
    intro k d v e h
    unfold lookN at e
    split at e
    · rename_i hk; cases e; exact old k v hk h
    · cases e
  | succ f ih =>
    intro k d v e h
    unfold lookN at e
    split at e
    · rename_i hk; cases e; exact old k v hk h
    · rename_i hk
      simp only [Is] at h
      obtain ⟨a, rfl, ea⟩ := h
      have hmem : a ∈ ρ'.drop ρ.length := by
        obtain ⟨t, rfl⟩ := p
        rw [List.getElem?_append_right (by omega)] at ea
        simpa using List.mem_of_getElem? ea
      cases em : M[k]? with
      | none => rw [em] at e; cases e
      | some m =>
        rw [em] at e
        cases m with
        | lst l =>
          simp only [Option.map_eq_some_iff] at e; obtain ⟨l', el, rfl⟩ := e
          obtain ⟨_, vs, hv, hl⟩ := rp.obj k _ a em ea
          simp only [Is]
          exact ⟨a, vs, rfl, by unfold firm; rw [if_pos hmem]; exact hv, frzL_ok (firm_le rp) ih el hl⟩
        | ins c l =>
          simp only [Option.map_eq_some_iff] at e; obtain ⟨l', el, rfl⟩ := e
          obtain ⟨_, dx, fvs, hv, hn, hl⟩ := rp.obj k _ a em ea
          simp only [Is]
          exact ⟨a, dx, fvs, rfl, by unfold firm; rw [if_pos hmem]; exact hv, by rw [hn, frzL_len el], frzL_ok (firm_le rp) ih el hl⟩
        | dead => cases e
end
def lowF (n : Nat) : Flds → Bool
  | none => true
  | some (_, l) => lowL n l
/-- what a call leaves in the store: n objects, as they were or bearing no new numbers -/
def Kept (M M' : Stor) : Prop := M'.take M.length = M ∨ ∀ m ∈ M'.take M.length, m.low M.length = true
open Classical in
/-- the new objects are made firm at a call's end -/
noncomputable def frz (M : Stor) (r : R D) : R D := match r with
  | .ok d M' => if M'.length = M.length then .ok d M' else if Kept M M' then (match frzD (lookN M.length M' 4) d with
    | some d' => .ok d' (M'.take M.length)
    | none => .no) else .no
  | .ex c fs M' => if M'.length = M.length then .ex c fs M' else if Kept M M' ∧ lowF M.length fs = true then .ex c fs (M'.take M.length) else .no
  | .no => .no
section
variable {W : Wd} {ξ : Xi} {F F' H H' : Hp} {ρ ρ' : List Addr} {M M' : Stor}
theorem Kept.low (k : Kept M M') (rp : Rp W ξ M F H ρ) : ∀ m ∈ M'.take M.length, m.low M.length = true := by
  rcases k with k | k
  · rw [k]; exact rp.low
  · exact k
theorem XcIs.mono {fs : Flds} {dx : Option Addr} (h : XcIs W F ρ fs dx) (e : Le F F') (p : ρ <+: ρ') : XcIs W F' ρ' fs dx := by
  cases fs with
  | none => exact h
  | some q => obtain ⟨x, fvs, a, b, c, d⟩ := h; exact ⟨x, fvs, a, e _ _ b, c, d.mono e p⟩
theorem XcIs.less {fs : Flds} {dx : Option Addr} (h : XcIs W F ρ' fs dx) (p : ρ <+: ρ') (b : lowF ρ.length fs = true) : XcIs W F ρ fs dx := by
  cases fs with
  | none => exact h
  | some q => obtain ⟨x, fvs, a, b', c, d⟩ := h; exact ⟨x, fvs, a, b', c, d.less p b⟩
/-- what is shown of the firm end is shown of the end -/
theorem Po.frz {r : R D} {Q : VK} {E : XK} (rp : Rp W ξ M F H ρ) (po : Po W ξ (Is W) F ρ (frz M r) Q E) : Po W ξ (Is W) F ρ r Q E := by
  cases r with
  | no => exact po
  | ok d M' =>
    unfold G.frz at po
    simp only at po
    split at po
    · exact po
    · split at po
      · rename_i hk
        cases e : frzD (lookN M.length M' 4) d with
        | none => rw [e] at po; exact po.elim
        | some d' =>
          rw [e] at po
          intro v F' ρ' H' le p rp' is
          have hl := hk.low rp
          rw [← rp.len] at hl e po
          refine po v (firm F' H' (ρ'.drop ρ.length)) ρ H' (le.tr (firm_le rp')) (List.prefix_refl _) (rp'.cut p hl) ?_
          exact frz_ok (firm_le rp') (look_ok rp' p 4) e is
      · exact po.elim
  | ex c fs M' =>
    unfold G.frz at po
    simp only at po
    split at po
    · exact po
    · split at po
      · rename_i hk
        intro dx F' ρ' H' le p rp' is
        have hl := hk.1.low rp
        have hf := hk.2
        rw [← rp.len] at hl po hf
        exact po dx (firm F' H' (ρ'.drop ρ.length)) ρ H' (le.tr (firm_le rp')) (List.prefix_refl _) (rp'.cut p hl) ((is.mono (firm_le rp') (List.prefix_refl _)).less p hf)
      · exact po.elim
end
end G

namespace G
open PySem PySem.Spec PyProof.Rows L2
/-! ### defs and calls -/
/-- a def's promise -/
def spG (W : Wd) (g : List D → Stor → R D) : Sp := fun vs H Q E => ∃ ξ ds M F ρ, IsL W F ρ ds vs ∧ Rp W ξ M F H ρ ∧ Po W ξ (Is W) F ρ (g ds M) Q E
/-- the def at f does what g says, where no repr is under way -/
structure FnG (P : Program) (w : World) (W : Wd) (mg : Str → Option Value) (base : Heap) (k : Nat) (f : Addr) (fd : FuncData) (ps : List Str) (g : List D → Stor → R D) : Prop where
  len : ∀ vs H Q E, spG W g vs H Q E → vs.length = ps.length
  run : ∀ (A : Around) (outer : List Env) (s : Shared) (H : Hp) (args : Args) (us : List Value) (vs : List V) (Q : VK) (E : XK), Room k A → A.guards = some [] → Env0 P w W.K mg base A outer s H →
    BindsTo s fd args (ps.zip us) → Vals vs us → spG W g vs H Q E → codeAny (model P w) A (.call (.ref f) args) (CR (L2.CX P w) outer P w H s Q E) s
def outS (r : RS) : R D := match r with
  | .nx _ M => .ok .non M
  | .rt d M => .ok d M
  | .ex c fs _ M => .ex c fs M
  | _ => .no
@[simp] theorem outS_nx (g : Gam) (M : Stor) : outS (.nx g M) = .ok .non M := rfl
@[simp] theorem outS_rt (d : D) (M : Stor) : outS (.rt d M) = .ok d M := rfl
@[simp] theorem outS_ex (c : Nat) (fs : Flds) (g : Gam) (M : Stor) : outS (.ex c fs g M) = .ex c fs M := rfl
/-- a def: n parameters, N names -/
def gFn (n N : Nat) (gb : GS') : List D → Stor → R D := fun ds M => if ds.length = n then outS (gb (ds.map some ++ List.replicate (N - n) none) M) else .no
section
variable {P : Program} {w : World} {W : Wd} {ξ : Xi} {mg : Str → Option Value} {base : Heap} {x qual : Str} {params : Arguments} {body : List Stmt} {scope : Scope} {dvs : List V} {kws : List (Str × V)} {f : Addr} {fd : FuncData}
theorem en_start {N : List Str} {F : Hp} {ρ : List Addr} {ds : List D} {vs : List V} (h : IsL W F ρ ds vs) : En W (ds.map some ++ List.replicate (N.length - ds.length) none) (L2.start N vs) F ρ := by
  have el := h.len
  unfold L2.start
  refine ⟨by simp [el], fun i d q => ?_⟩
  by_cases hi : i < ds.length
  · rw [List.getElem?_append_left (by simpa using hi), List.getElem?_map] at q
    cases e : ds[i]? with
    | none => rw [e] at q; cases q
    | some d' =>
      rw [e] at q
      simp at q; subst q
      obtain ⟨v, ev, is⟩ := h.get e
      refine ⟨v, ?_, is⟩
      rw [List.getElem?_append_left (by simpa [el] using hi), List.getElem?_map, ev]; rfl
  · rw [List.getElem?_append_right (by simpa using hi)] at q
    rw [List.getElem?_replicate] at q
    split at q
    · cases q
    · cases q
theorem fng_of {N ps : List Str} {k : Nat} {gb : GS'} (F : FunD W.K x qual params body scope dvs kws f fd) (S : FnScope N ps scope)
    (hb : ∀ (cdv : Value) (A : Around) (outer : List Env) (s : Shared) (H : Hp) (E : XK), Room k (A.deeper (envOfC qual scope s.heap.objs.size f cdv)) → A.guards = some [] →
      GSs (cxOf (L2.CX P w) P w W.K mg base N qual scope f cdv A outer s H E) W (fun _ => E) body gb) : FnG P w W mg base (k + 1) f fd ps (gFn ps.length N.length gb) := by
  have len : ∀ vs H Q E, spG W (gFn ps.length N.length gb) vs H Q E → vs.length = ps.length := fun vs H Q E h => by
    obtain ⟨ξ, ds, M, F', ρ, is, rp, po⟩ := h
    unfold gFn at po
    split at po
    · rename_i e; rw [is.len]; exact e
    · exact po.elim
  refine ⟨len, fun A outer st H args us vs Q Z room gd env binds rel hsp => ?_⟩
  obtain ⟨oc, od, dV, kV, doc, pm, an, cdv, ct, osl, rfl, lk, hcd, _, _⟩ := F.ex
  have hlen := len _ _ _ _ hsp
  have kin : W.K.In st.heap := env.mod.kin.keeps (fun b o z => (env.bs b o z).1)
  have nolim : st.heap.NoLimit := env.mod.nolimit.keeps (fun b o z => (env.bs b o z).1)
  have kinds : ∀ y ∈ ps.zip us, scope.names.lookup y.1 = some .local ∨
      (scope.names.lookup y.1 = some .cell ∧ ((cellsFrom (st.heap.objs.size + 1) scope.names []).lookup y.1).isSome = true) := by
    rintro ⟨nm, val⟩ hy
    have hin := (List.of_mem_zip hy).1
    cases S.par nm hin with
    | inl z => exact Or.inl z
    | inr z => exact Or.inr ⟨z, PySem.W.cellsFrom_some _ _ _ (Or.inl z)⟩
  refine codeAny_call_function room.depth (kin _ _ lk) rfl S.co S.gen rfl (PySem.W.codeRec_of kin hcd)
    (binds _ _ _ _ (wpAny_newFunctionEnv_cells S.kind kinds fun env' he s1 x1 => ?_))
  subst he
  refine ⟨nolim.keeps x1.toInCall.keep, codeAny_func ?_⟩
  have GB := hb cdv A outer st H Z (room.deeper _) gd
  have I : Inv (cxOf (L2.CX P w) P w W.K mg base N qual scope f cdv A outer st H Z) [] (L2.start N vs) H s1 := inv_start S room.hd env hlen rel x1
  have hq : tGS W (fun _ => Z) gb { nx := fun _ H' => Q .non H', rt := Q } (L2.start N vs) H := by
    obtain ⟨ξ, ds, M, F', ρ, is, rp, po⟩ := hsp
    unfold gFn at po
    split at po
    · rename_i e
      refine ⟨ξ, _, M, F', ρ, en_start (N := N) is, rp, ?_⟩
      rw [← e] at po
      cases er : gb (ds.map some ++ List.replicate (N.length - ds.length) none) M with
      | nx g M1 => rw [er] at po; exact fun σ' F2 ρ2 H2 le p rp2 en2 => po .non F2 ρ2 H2 le p rp2 (by simp only [Is])
      | rt d M1 => rw [er] at po; exact po
      | bk g M1 => rw [er] at po; exact po.elim
      | ct g M1 => rw [er] at po; exact po.elim
      | ex c fs g M1 => rw [er] at po; exact fun σ' dx F2 ρ2 H2 le p rp2 en2 xc => po dx F2 ρ2 H2 le p rp2 xc
      | no => rw [er] at po; exact po.elim
    · exact po.elim
  refine wpAny_mono (GB.run [] s1 _ H _ I hq) (fun fl s' out => ?_) (fun er s' out => out)
  cases fl with
  | ret u => obtain ⟨v, σ', H', J, rv, q⟩ := out; exact ⟨v, H', J.os, J.bare, J.base, J.hok, rv, q⟩
  | next => obtain ⟨σ', H', J, q⟩ := out; exact ⟨.non, H', J.os, J.bare, J.base, J.hok, rfl, q⟩
  | brk => obtain ⟨_, _, _, q⟩ := out; exact q.elim
  | cont => obtain ⟨_, _, _, q⟩ := out; exact q.elim
theorem FnG.imp {k : Nat} {ps : List Str} {g g' : List D → Stor → R D} (h : FnG P w W mg base k f fd ps g) (i : ∀ vs H Q E, spG W g' vs H Q E → spG W g vs H Q E) : FnG P w W mg base k f fd ps g' :=
  ⟨fun vs H Q E z => h.len vs H Q E (i vs H Q E z), fun A outer s H args us vs Q E hr hg e0 hb r z => h.run A outer s H args us vs Q E hr hg e0 hb r (i vs H Q E z)⟩
theorem FnG.mono {j k : Nat} {ps : List Str} {g : List D → Stor → R D} (h : FnG P w W mg base j f fd ps g) (hjk : j ≤ k) : FnG P w W mg base k f fd ps g :=
  ⟨h.len, fun A outer s H args us vs Q E hr => h.run A outer s H args us vs Q E (hr.mono hjk)⟩
/-- the new objects are firm behind the call -/
theorem FnG.frz {k : Nat} {ps : List Str} {g : List D → Stor → R D} (h : FnG P w W mg base k f fd ps g) : FnG P w W mg base k f fd ps (fun ds M => frz M (g ds M)) :=
  h.imp fun vs H Q E ⟨ξ, ds, M, F', ρ, is, rp, po⟩ => ⟨ξ, ds, M, F', ρ, is, rp, Po.frz rp po⟩
theorem FnG.cong {k : Nat} {ps : List Str} {g g' : List D → Stor → R D} (h : FnG P w W mg base k f fd ps g) (e : g = g') : FnG P w W mg base k f fd ps g' := e ▸ h
end
section
variable {X : Cx} {W : Wd} {ξ : Xi} {E : Sg → XK} {e : Expr} {es : List Expr} {pos p : Pos} {gs : GA'} {x : Str}
def CallG (X : Cx) (W : Wd) (E : Sg → XK) (f : Value) (g : List D → Stor → R D) : Prop :=
  ∀ (ξ : Xi) (pins : List (Addr × Obj)) (s : Shared) (σ : Sg) (H : Hp) (M : Stor) (F : Hp) (ρ : List Addr) (ds : List D) (vs : List V) (us : List Value) (Q : VK),
    Inv X pins σ H s → Vals vs us → Rp W ξ M F H ρ → IsL W F ρ ds vs → Po W ξ (Is W) F ρ (g ds M) Q (E σ) →
    wpAny (model X.prog X.w) X.A (call f us) (EP X pins σ Q) X.xe s
abbrev Pass (X : Cx) (E : Sg → XK) : Prop := ∀ σ, PassesAt (L2.CX X.prog X.w) X σ (E σ)
theorem run_g {k : Nat} {f : Addr} {fd : FuncData} {ps : List Str} {g : List D → Stor → R D} {dvs : List V} {dus : List Value} {pins : List (Addr × Obj)} {σ : Sg} {H : Hp} {s : Shared} {Q : VK} {us : List Value} {vs : List V}
    (F : FnG X.prog X.w W X.mg X.base k f fd ps g) (hK : X.K = W.K) (hr : Room k X.A) (gd : X.A.guards = some []) (hb : Binds X.K fd ps dus) (hd : Vals dvs dus) (hx : PassesAt (L2.CX X.prog X.w) X σ (E σ))
    (I : Inv X pins σ H s) (r : Vals vs us) (h : spG W g (vs ++ dvs) H Q (E σ)) : wpAny (model X.prog X.w) X.A (call (.ref f) us) (EP X pins σ Q) X.xe s := by
  have rel := r.append hd
  have hlen : (us ++ dus).length = ps.length := by rw [← rel.length, F.len _ _ _ _ h]
  have e0 := I.env0
  rw [hK] at e0
  refine wpAny_call (codeAny_mono (F.run X.A X.stack s H ⟨us, []⟩ (us ++ dus) (vs ++ dvs) Q (E σ) hr gd e0 (hb s us I.kIn hlen) rel h) fun res s' out => ?_)
  cases res with
  | error er => exact hx pins H s er s' I out
  | ok fl =>
    cases fl with
    | ret u => exact I.after out
    | next => exact out.elim
    | brk => exact out.elim
    | cont => exact out.elim
theorem callg_fn {k : Nat} {f : Addr} {fd : FuncData} {ps : List Str} {g : List D → Stor → R D} {dds : List D} {dvs : List V} {dus : List Value} (F : FnG X.prog X.w W X.mg X.base k f fd ps g) (hK : X.K = W.K) (hr : Room k X.A) (gd : X.A.guards = some [])
    (hb : Binds X.K fd ps dus) (hd : Vals dvs dus) (fl : ∀ F ρ, IsL W F ρ dds dvs) (hx : Pass X E) : CallG X W E (.ref f) (fun xs M => g (xs ++ dds) M) :=
  fun ξ pins s σ H M F' ρ ds vs us Q I r rp is po => run_g F hK hr gd hb hd (hx σ) I r ⟨ξ, ds ++ dds, M, F', ρ, is.append (fl F' ρ), rp, po⟩
theorem callg_fn0 {k : Nat} {f : Addr} {fd : FuncData} {ps : List Str} {g : List D → Stor → R D} (F : FnG X.prog X.w W X.mg X.base k f fd ps g) (hK : X.K = W.K) (hr : Room k X.A) (gd : X.A.guards = some [])
    (hb : Binds X.K fd ps []) (hx : Pass X E) : CallG X W E (.ref f) g :=
  fun ξ pins s σ H M F' ρ ds vs us Q I r rp is po => run_g (dvs := []) (dus := []) F hK hr gd hb .nil (hx σ) I r ⟨ξ, ds, M, F', ρ, by rw [List.append_nil]; exact is, rp, po⟩
theorem CallG.of {f : Value} {r : List V → Hp → VK → Prop} {g : List D → Stor → R D} (h : CallR X f r)
    (k : ∀ (ξ : Xi) (M : Stor) (F H : Hp) (ρ : List Addr) (ds : List D) (vs : List V) (Q : VK) (Z : XK), Rp W ξ M F H ρ → IsL W F ρ ds vs → Po W ξ (Is W) F ρ (g ds M) Q Z → r vs H Q) : CallG X W E f g :=
  fun ξ pins s σ H M F ρ ds vs us Q I rv rp is po => h pins s σ H vs us Q I rv (k ξ M F H ρ ds vs Q (E σ) rp is po)
theorem CallG.or {f : Value} {g g' : List D → Stor → R D} (h : CallG X W E f g) (h' : CallG X W E f g') : CallG X W E f (fun ds M => orR (g ds M) (g' ds M)) :=
  fun ξ pins s σ H M F ρ ds vs us Q I rv rp is po => by
    cases e : g ds M with
    | no => simp only [e, orR_no] at po; exact h' ξ pins s σ H M F ρ ds vs us Q I rv rp is po
    | ok a M1 => simp only [e, orR_ok] at po; exact h ξ pins s σ H M F ρ ds vs us Q I rv rp is (by rw [e]; exact po)
    | ex c fs M1 => simp only [e, orR_ex] at po; exact h ξ pins s σ H M F ρ ds vs us Q I rv rp is (by rw [e]; exact po)
theorem CallG.frz {f : Value} {g : List D → Stor → R D} (h : CallG X W E f g) : CallG X W E f (fun ds M => frz M (g ds M)) :=
  fun ξ pins s σ H M F ρ ds vs us Q I rv rp is po => h ξ pins s σ H M F ρ ds vs us Q I rv rp is (Po.frz rp po)
theorem under_guards {A : Around} {C : Addr} {us : List Value} {kw : List (Str × Value)} : (A.under (.builtin "type.__call__" ⟨.ref C :: us, kw⟩)).guards = A.guards := by
  unfold Around.under
  have h : (Code.builtin "type.__call__" ⟨.ref C :: us, kw⟩).isGuard = false := (by decide +kernel : guardIds.contains "type.__call__" = false)
  simp only [Code.guards, h]
  cases A.guards <;> simp [pushGuards]
/-- a new instance by an own __init__ -/
def gMakeM (c : Nat) (g : List D → Stor → R D) : List D → Stor → R D := fun xs M => (g (.ref M.length :: xs) (M ++ [.ins c []])).bind fun r M' => match r with
  | .non => .ok (.ref M.length) M'
  | _ => .no
theorem callg_make {k c : Nat} {C f : Addr} {fd : FuncData} {ps : List Str} {g : List D → Stor → R D} {dds : List D} {dvs : List V} {dus : List Value} (hT : W.T c = C) (MK : Mk X.K C f) (F : FnG X.prog X.w W X.mg X.base k f fd ps g) (hK : X.K = W.K) (hr : Room (k + 1) X.A) (gd : X.A.guards = some [])
    (hb : Binds X.K fd ps dus) (hd : Vals dvs dus) (fl : ∀ F ρ, IsL W F ρ dds dvs) (hx : Pass X E) : CallG X W E (.ref C) (gMakeM c fun xs M => g (xs ++ dds) M) := by
  intro ξ pins s σ H M F' ρ ds vs us Q I r rp is po
  have nx := I.hok.fresh (a := s.heap.objs.size + 1) (Nat.le_succ _)
  have ndx := I.hok.fresh (a := s.heap.objs.size) (Nat.le_refl _)
  have hne : s.heap.objs.size + 1 ≠ s.heap.objs.size := Nat.succ_ne_self _
  have I2 := Inv.made (C := C) I
  have r2 : Vals (V.ref (s.heap.objs.size + 1) :: (vs ++ dvs)) (Value.ref (s.heap.objs.size + 1) :: (us ++ dus)) := .cons rfl (r.append hd)
  have rp1 : Rp W ξ M F' (upd H s.heap.objs.size (.own (s.heap.objs.size + 1))) ρ := rp.newH ndx
  have nx1 : (upd H s.heap.objs.size (.own (s.heap.objs.size + 1))) (s.heap.objs.size + 1) = none := by rw [upd_ne hne]; exact nx
  have rp2 := rp1.mut (m := .ins c []) (o := .ins C s.heap.objs.size []) nx1 ⟨s.heap.objs.size, [], by rw [hT], by simp, IsL.nil⟩
  have pr : ρ <+: ρ ++ [s.heap.objs.size + 1] := List.prefix_append _ _
  have isx : Is W F' (ρ ++ [s.heap.objs.size + 1]) (.ref M.length) (.ref (s.heap.objs.size + 1)) := by
    simp only [Is]
    exact ⟨_, rfl, by rw [List.getElem?_append_right (by rw [rp.len]; exact Nat.le_refl _), rp.len]; simp⟩
  have hq : spG W g (V.ref (s.heap.objs.size + 1) :: (vs ++ dvs)) (upd (upd H s.heap.objs.size (.own (s.heap.objs.size + 1))) (s.heap.objs.size + 1) (.ins C s.heap.objs.size []))
      (fun v H2 => v = .non ∧ Q (.ref (s.heap.objs.size + 1)) H2) (E σ) := by
    refine ⟨ξ, .ref M.length :: (ds ++ dds), _, F', _, IsL.cons isx ((is.mono Le.rfl' pr).append (fl _ _)), rp2, ?_⟩
    have po' := Po.bind (rel := Is W) (Po.mono po Le.rfl' pr)
    refine po'.imp ?_
    rintro v H2 ⟨d, M2, F2, ρ2, le2, p2, rp3, isd, po2⟩
    cases d with
    | non =>
      simp only [Is] at isd; subst isd
      exact ⟨rfl, po2 _ F2 ρ2 H2 Le.rfl' (List.prefix_refl _) rp3 (isx.mono le2 p2)⟩
    | _ => exact po2.elim
  have hl : (Value.ref (s.heap.objs.size + 1) :: us ++ dus).length = ps.length := by
    have e := r2.length
    rw [F.len _ _ _ _ hq] at e
    exact e.symm
  have e0 := I2.env0.make C us []
  rw [hK] at e0
  have run := F.run _ X.stack _ _ ⟨Value.ref (s.heap.objs.size + 1) :: us, []⟩ _ _ _ (E σ) (hr.make C us []) (by rw [under_guards]; exact gd) e0 (hb _ _ I2.kIn hl) r2 hq
  refine wpAny_call (make_map (f := f) I.kIn MK.makes MK.init (beq_iff_eq.mp MK.fn) (codeAny_mono run fun res s' hq' => ?_))
  cases res with
  | error er => exact hx σ pins _ _ er s' I2 hq'
  | ok fl =>
    cases fl with
    | ret u =>
      obtain ⟨v, H', I3, rv, ev, q3⟩ := I2.after hq'
      subst ev
      exact ⟨rv, ⟨V.ref (s.heap.objs.size + 1), H', I3, rfl, q3⟩⟩
    | next => exact False.elim hq'
    | brk => exact False.elim hq'
    | cont => exact False.elim hq'
/-! ### f(..) as an expression -/
def gCall (g : List D → Stor → R D) (a : GA') : GE' := fun Γ M => (a Γ M).bind fun xs M1 => g xs M1
theorem ge_call {f : Addr} {g : List D → Stor → R D} (hc : CallG X W E (.ref f) g) (hg : Gl X x) (hm : X.mg x = some (.ref f)) (hk : PySem.W.keepIn X.K (.ref f) = true) (ha : GA X W E (e :: es) gs)
    (hdb : (x == ("__debug__" : Str)) = false := by decide) (he : starEach (e :: es) X.env = (false, eval e X.env) :: starEach es X.env := by rfl) (hpl : (backTo pos (starEach es X.env)).any (·.1) = false := by rfl) :
    GE X W E (.Call (.Name x p) (e :: es) [] pos) (gCall g gs) := by
  refine ⟨fun pins s σ H Q I ⟨ξ, Γ, M, F, ρ, en, rp, po⟩ => ?_⟩
  refine wpAny_Call_Name_kw (ld_glob I hg hm ?_ hdb)
  refine PySem.W.callWith_K (h₀ := X.base) I.ok.mod.kin hk (thn (ha.run pos pins s σ H _ I ⟨ξ, Γ, M, F, ρ, en, rp, po.bind⟩) ?_) he hpl
  rintro us s1 ⟨vs, H1, I1, r, ds, M1, F1, ρ1, e1, p1, rp1, is, po1⟩
  exact ⟨I1.kIn, hc ξ pins s1 σ H1 M1 F1 ρ1 ds vs us Q I1 r rp1 is po1⟩
theorem ge_call0 {f : Addr} {g : List D → Stor → R D} (hc : CallG X W E (.ref f) g) (hg : Gl X x) (hm : X.mg x = some (.ref f)) (hk : PySem.W.keepIn X.K (.ref f) = true)
    (hdb : (x == ("__debug__" : Str)) = false := by decide) : GE X W E (.Call (.Name x p) [] [] pos) (gCall g gNil) := by
  refine ⟨fun pins s σ H Q I ⟨ξ, Γ, M, F, ρ, en, rp, po⟩ => ?_⟩
  refine wpAny_Call_Name_kw (ld_glob I hg hm ?_ hdb)
  exact PySem.W.callWith_K0 I.kIn hk (hc ξ pins s σ H M F ρ [] [] [] Q I .nil rp IsL.nil po)
theorem ge_callB {id : String} {g : List D → Stor → R D} (hc : CallG X W E (.builtin id) g) (hg : Gl X x) (hm : X.mg x = none) (hv : bootBuiltins x = some (.builtin id)) (ha : GA X W E (e :: es) gs) (hn : x ≠ "__name__" := by decide)
    (hdb : (x == ("__debug__" : Str)) = false := by decide) (he : starEach (e :: es) X.env = (false, eval e X.env) :: starEach es X.env := by rfl) (hpl : (backTo pos (starEach es X.env)).any (·.1) = false := by rfl) :
    GE X W E (.Call (.Name x p) (e :: es) [] pos) (gCall g gs) := by
  refine ⟨fun pins s σ H Q I ⟨ξ, Γ, M, F, ρ, en, rp, po⟩ => ?_⟩
  refine wpAny_Call_Name_kw (ld_blt I hg hm hv ?_ hn hdb)
  refine PyProof.Rows.callWith_builtin1 (thn (ha.run pos pins s σ H _ I ⟨ξ, Γ, M, F, ρ, en, rp, po.bind⟩) ?_) he hpl
  rintro us s1 ⟨vs, H1, I1, r, ds, M1, F1, ρ1, e1, p1, rp1, is, po1⟩
  exact hc ξ pins s1 σ H1 M1 F1 ρ1 ds vs us Q I1 r rp1 is po1
theorem ge_callTy {T : String} {g : List D → Stor → R D} (hc : CallG X W E (.type T) g) (hg : Gl X x) (hm : X.mg x = none) (hv : bootBuiltins x = some (.type T)) (ha : GA X W E (e :: es) gs) (hn : x ≠ "__name__" := by decide)
    (hdb : (x == ("__debug__" : Str)) = false := by decide) (he : starEach (e :: es) X.env = (false, eval e X.env) :: starEach es X.env := by rfl) (hpl : (backTo pos (starEach es X.env)).any (·.1) = false := by rfl) :
    GE X W E (.Call (.Name x p) (e :: es) [] pos) (gCall g gs) := by
  refine ⟨fun pins s σ H Q I ⟨ξ, Γ, M, F, ρ, en, rp, po⟩ => ?_⟩
  refine wpAny_Call_Name_kw (ld_blt I hg hm hv ?_ hn hdb)
  refine PyProof.Rows.callWith_type1 (thn (ha.run pos pins s σ H _ I ⟨ξ, Γ, M, F, ρ, en, rp, po.bind⟩) ?_) he hpl
  rintro us s1 ⟨vs, H1, I1, r, ds, M1, F1, ρ1, e1, p1, rp1, is, po1⟩
  exact hc ξ pins s1 σ H1 M1 F1 ρ1 ds vs us Q I1 r rp1 is po1
end
end G

namespace G
open PySem PySem.Spec PyProof.Rows L2
/-! ### operators on plain data -/
def dI (g : Int → Int → Option D) : D → D → Stor → R D := fun x y M => match x, y with
  | .int i, .int j => (match g i j with
    | some d => .ok d M
    | none => .no)
  | _, _ => .no
def mulOk (i j : Int) : Bool := decide (i.natAbs < 2 ^ 64) || decide (j.natAbs < 2 ^ 64) || decide (i.natAbs.log2 + j.natAbs.log2 < 1000000)
def divOk (j : Int) : Bool := decide (j ≠ 0) && decide (j.natAbs.log2 < 9000)
def powOk (i j : Int) : Bool := decide (0 ≤ j) && decide (j ≤ 1000000) && decide (i.natAbs < 2 ^ 64)
def dAddI := dI fun i j => some (.int (i + j))
def dSubI := dI fun i j => some (.int (i - j))
def dMulI := dI fun i j => if mulOk i j then some (.int (i * j)) else none
def dDivI := dI fun i j => if divOk j then some (.int (i.fdiv j)) else none
def dModI := dI fun i j => if j = 0 then none else some (.int (i.fmod j))
def dPowI := dI fun i j => if powOk i j then some (.int (i ^ j.toNat)) else none
def dLtI := dI fun i j => some (.bl (decide (i < j)))
def dLeI := dI fun i j => some (.bl (decide (i ≤ j)))
def dGtI := dI fun i j => some (.bl (decide (j < i)))
def dGeI := dI fun i j => some (.bl (decide (j ≤ i)))
section
variable {X : Cx} {W : Wd} {ξ : Xi} {E : Sg → XK}
theorem dI_ok {g : Int → Int → Option D} {M : Stor} {F H : Hp} {ρ : List Addr} {x y : D} {vx vy : V} {Q : VK} {Z : XK} (ix : Is W F ρ x vx) (iy : Is W F ρ y vy) (po : Po W ξ (Is W) F ρ (dI g x y M) Q Z) :
    ∃ i j d, vx = .int i ∧ vy = .int j ∧ g i j = some d ∧ Po W ξ (Is W) F ρ (.ok d M) Q Z := by
  unfold dI at po
  split at po
  · simp only [Is] at ix iy
    subst ix; subst iy
    split at po
    · rename_i d hd
      exact ⟨_, _, d, rfl, rfl, hd, po⟩
    · exact po.elim
  · exact po.elim
theorem Po.now {M : Stor} {F H : Hp} {ρ : List Addr} {d : D} {v : V} {Q : VK} {Z : XK} (po : Po W ξ (Is W) F ρ (.ok d M) Q Z) (rp : Rp W ξ M F H ρ) (is : Is W F ρ d v) : Q v H := po v F ρ H Le.rfl' (List.prefix_refl _) rp is
theorem opg_I {f : Value → Value → Sem Value} {C : Int → Int → Prop} {g : Int → Int → Option D} {h : Int → Int → V} (ho : OpR X f (rI C h)) (k : ∀ i j d, g i j = some d → C i j ∧ Flat W d (h i j)) : OpG X W E f (dI g) :=
  OpG.of ho fun ξ M F H ρ x y vx vy Q Z rp ix iy po => by
    obtain ⟨i, j, d, rfl, rfl, hd, po⟩ := dI_ok (H := H) ix iy po
    obtain ⟨c, fl⟩ := k i j d hd
    exact ⟨i, j, rfl, rfl, c, po.now rp (fl F ρ)⟩
theorem opg_I0 {f : Value → Value → Sem Value} {g : Int → Int → Option D} {h : Int → Int → V} (ho : OpR X f (rI0 h)) (k : ∀ i j d, g i j = some d → Flat W d (h i j)) : OpG X W E f (dI g) :=
  OpG.of ho fun ξ M F H ρ x y vx vy Q Z rp ix iy po => by
    obtain ⟨i, j, d, rfl, rfl, hd, po⟩ := dI_ok (H := H) ix iy po
    exact ⟨i, j, rfl, rfl, po.now rp (k i j d hd F ρ)⟩
theorem og_addI : OpG X W E (binaryOp .Add) dAddI := opg_I0 op_add fun i j d h => by cases h; exact flat_int
theorem og_subI : OpG X W E (binaryOp .Sub) dSubI := opg_I0 op_sub fun i j d h => by cases h; exact flat_int
theorem og_iaddI : OpG X W E (inplaceOp .Add) dAddI := opg_I0 iop_add fun i j d h => by cases h; exact flat_int
theorem og_isubI : OpG X W E (inplaceOp .Sub) dSubI := opg_I0 iop_sub fun i j d h => by cases h; exact flat_int
theorem og_ltI : OpG X W E (compareOp .Lt) dLtI := opg_I0 op_lt fun i j d h => by cases h; exact flat_bl
theorem og_leI : OpG X W E (compareOp .LtE) dLeI := opg_I0 op_le fun i j d h => by cases h; exact flat_bl
theorem og_gtI : OpG X W E (compareOp .Gt) dGtI := opg_I0 op_gt fun i j d h => by cases h; exact flat_bl
theorem og_geI : OpG X W E (compareOp .GtE) dGeI := opg_I0 op_ge fun i j d h => by cases h; exact flat_bl
theorem mulOk_ok {i j : Int} (h : mulOk i j = true) : CMul i j ∨ CMulW i j := by
  simp only [mulOk, Bool.or_eq_true, decide_eq_true_eq] at h
  rcases h with (h | h) | h
  · left; left; constructor <;> omega
  · left; right; constructor <;> omega
  · right; exact h
theorem og_mulI : OpG X W E (binaryOp .Mult) dMulI := opg_I (C := fun i j => CMul i j ∨ CMulW i j) (h := fun i j => .int (i * j)) (opI fun _ _ _ _ _ _ _ hc q => mul_int q (hc.elim CMul.ok CMulW.ok)) fun i j d h => by
  split at h
  · rename_i hm; cases h; exact ⟨mulOk_ok hm, flat_int⟩
  · cases h
theorem og_imulI : OpG X W E (inplaceOp .Mult) dMulI := opg_I (C := fun i j => CMul i j ∨ CMulW i j) (h := fun i j => .int (i * j)) (opI fun _ _ _ _ _ _ _ hc q => imul_int q (hc.elim CMul.ok CMulW.ok)) fun i j d h => by
  split at h
  · rename_i hm; cases h; exact ⟨mulOk_ok hm, flat_int⟩
  · cases h
theorem og_divI : OpG X W E (binaryOp .FloorDiv) dDivI := opg_I (C := fun _ j => divOk j = true) (h := fun i j => .int (i.fdiv j)) (opI fun _ j _ _ _ _ _ hc q => by
    simp only [divOk, Bool.and_eq_true, decide_eq_true_eq] at hc
    exact floordiv_int hc.1 q (.inl (PyProof.noPylong_of_log2 hc.2))) fun i j d h => by
  split at h
  · rename_i hm; cases h; exact ⟨hm, flat_int⟩
  · cases h
theorem og_modI : OpG X W E (binaryOp .Mod) dModI := opg_I op_modN fun i j d h => by
  split at h
  · cases h
  · rename_i hm; cases h; exact ⟨hm, flat_int⟩
theorem og_powI : OpG X W E (binaryOp .Pow) dPowI := opg_I op_pow fun i j d h => by
  split at h
  · rename_i hm
    cases h
    simp only [powOk, Bool.and_eq_true, decide_eq_true_eq] at hm
    exact ⟨⟨hm.1.1, hm.1.2, hm.2⟩, flat_int⟩
  · cases h
/-! ### texts, lists, tuples -/
def dAddS : D → D → Stor → R D := fun x y M => match x, y with
  | .str i, .str j => if i.length + j.length ≤ 1000000 then .ok (.str (i ++ j)) M else .no
  | _, _ => .no
theorem og_addS : OpG X W E (binaryOp .Add) dAddS := OpG.of op_add_str fun ξ M F H ρ x y vx vy Q Z rp ix iy po => by
  unfold dAddS at po
  split at po
  · simp only [Is] at ix iy
    subst ix; subst iy
    split at po
    · rename_i hz; exact ⟨_, _, rfl, rfl, small_line hz, po.now rp (flat_str F ρ)⟩
    · exact po.elim
  · exact po.elim
def dAddT : D → D → Stor → R D := fun x y M => match x, y with
  | .tup i, .tup j => if i.length + j.length ≤ 1000000 then .ok (.tup (i ++ j)) M else .no
  | _, _ => .no
theorem og_addT (hK : X.K = W.K) : OpG X W E (binaryOp .Add) dAddT := OpG.of op_catA fun ξ M F H ρ x y vx vy Q Z rp ix iy po => by
  unfold dAddT at po
  split at po
  · rename_i i j
    simp only [Is] at ix iy
    obtain ⟨a, xs, rfl, qa, la⟩ := ix
    obtain ⟨b, ys, rfl, qb, lb⟩ := iy
    split at po
    · rename_i hz
      refine ⟨a, b, xs, ys, rfl, rfl, by rw [hK]; exact rp.sub.sqT qa, by rw [hK]; exact rp.sub.sqT qb, small_line (by rw [la.len, lb.len]; exact hz), fun e => ?_, fun _ e => ?_, fun _ _ p n => new_tup rp (la.append lb) n po⟩
      · subst e
        have : i = [] := by have := la.len; simpa using this.symm
        subst this
        exact po.now rp (by simp only [Is, List.nil_append]; exact ⟨b, ys, rfl, qb, lb⟩)
      · subst e
        have : j = [] := by have := lb.len; simpa using this.symm
        subst this
        exact po.now rp (by simp only [Is, List.append_nil]; exact ⟨a, xs, rfl, qa, la⟩)
    · exact po.elim
  · exact po.elim
/-- a list's items, firm or not -/
def lstOf (x : D) (M : Stor) : Option (List D) := match x with
  | .lst l => some l
  | .lck l => some l
  | .ref k => (match M[k]? with
    | some (.lst l) => some l
    | _ => none)
  | _ => none
theorem lstOf_ok {M : Stor} {F H : Hp} {ρ : List Addr} {x : D} {vx : V} {l : List D} (rp : Rp W ξ M F H ρ) (ix : Is W F ρ x vx) (e : lstOf x M = some l) : ∃ a vs, vx = .ref a ∧ SqL W.K H a vs ∧ IsL W F ρ l vs := by
  unfold lstOf at e
  split at e
  · cases e
    simp only [Is] at ix
    obtain ⟨a, vs, e1, q, hl⟩ := ix
    exact ⟨a, vs, e1, SqL.of (rp.sub _ _ q), hl⟩
  · cases e
    simp only [Is] at ix
    obtain ⟨a, vs, e1, q, hl⟩ := ix
    exact ⟨a, vs, e1, rp.sub.sqL q, hl⟩
  · rename_i k
    simp only [Is] at ix
    obtain ⟨a, e1, ea⟩ := ix
    split at e
    · rename_i l' em
      cases e
      obtain ⟨_, vs, hv, hl⟩ := rp.obj k _ a em ea
      exact ⟨a, vs, e1, SqL.of hv, hl⟩
    · cases e
  · cases e
/-- a list's or a tuple's items -/
def seqOf (x : D) (M : Stor) : Option (List D) := match x with
  | .tup l => some l
  | x => lstOf x M
theorem seqOf_ok {M : Stor} {F H : Hp} {ρ : List Addr} {x : D} {vx : V} {l : List D} (rp : Rp W ξ M F H ρ) (ix : Is W F ρ x vx) (e : seqOf x M = some l) : ∃ a vs, vx = .ref a ∧ (SqL W.K H a vs ∨ SqT W.K H a vs) ∧ IsL W F ρ l vs := by
  unfold seqOf at e
  split at e
  · cases e
    simp only [Is] at ix
    obtain ⟨a, vs, e1, q, hl⟩ := ix
    exact ⟨a, vs, e1, .inr (rp.sub.sqT q), hl⟩
  · obtain ⟨a, vs, e1, q, hl⟩ := lstOf_ok rp ix e
    exact ⟨a, vs, e1, .inl q, hl⟩
/-- a list's items that stand by themselves -/
def lstOwn (x : D) (M : Stor) : Option (List D) := match x with
  | .lst l => some l
  | .ref k => (match M[k]? with
    | some (.lst l) => some l
    | _ => none)
  | _ => none
theorem lstOwn_ok {M : Stor} {F H : Hp} {ρ : List Addr} {x : D} {vx : V} {l : List D} (rp : Rp W ξ M F H ρ) (ix : Is W F ρ x vx) (e : lstOwn x M = some l) : ∃ a vs, vx = .ref a ∧ H a = some (.lst vs) ∧ IsL W F ρ l vs := by
  unfold lstOwn at e
  split at e
  · cases e
    simp only [Is] at ix
    obtain ⟨a, vs, e1, q, hl⟩ := ix
    exact ⟨a, vs, e1, rp.sub _ _ q, hl⟩
  · rename_i k
    simp only [Is] at ix
    obtain ⟨a, e1, ea⟩ := ix
    split at e
    · rename_i l' em
      cases e
      obtain ⟨_, vs, hv, hl⟩ := rp.obj k _ a em ea
      exact ⟨a, vs, e1, hv, hl⟩
    · cases e
  · cases e
def dAddL : D → D → Stor → R D := fun x y M => match lstOwn x M, lstOwn y M with
  | some i, some j => if i.length + j.length ≤ 1000000 then .ok (.lst (i ++ j)) M else .no
  | _, _ => .no
theorem og_addL : OpG X W E (binaryOp .Add) dAddL := OpG.of op_cat fun ξ M F H ρ x y vx vy Q Z rp ix iy po => by
  unfold dAddL at po
  split at po
  · rename_i i j ei ej
    obtain ⟨a, xs, rfl, qa, la⟩ := lstOwn_ok rp ix ei
    obtain ⟨b, ys, rfl, qb, lb⟩ := lstOwn_ok rp iy ej
    split at po
    · rename_i hz
      exact ⟨a, b, xs, ys, rfl, rfl, qa, qb, small_line (by rw [la.len, lb.len]; exact hz), fun p n => new_lst rp (la.append lb) n po⟩
    · exact po.elim
  · exact po.elim
theorem IsL.flat {F : Hp} {ρ : List Addr} {l : List D} {vs : List V} (h : IsL W F ρ l vs) : ∀ n : Nat, IsL W F ρ (List.replicate n l).flatten (List.replicate n vs).flatten
  | 0 => IsL.nil
  | n + 1 => by
    rw [List.replicate_succ, List.replicate_succ, List.flatten_cons, List.flatten_cons]
    exact h.append (IsL.flat h n)
def dMulL : D → D → Stor → R D := fun x y M => match lstOwn x M, y with
  | some l, .int k => if -(2 ^ 63) ≤ k ∧ k < 2 ^ 63 ∧ l.length * k.toNat ≤ 1000000 then .ok (.lst (List.replicate k.toNat l).flatten) M else .no
  | _, _ => .no
theorem og_mulL : OpG X W E (binaryOp .Mult) dMulL := OpG.of op_rep fun ξ M F H ρ x y vx vy Q Z rp ix iy po => by
  unfold dMulL at po
  split at po
  · rename_i l k el
    obtain ⟨a, xs, rfl, qa, la⟩ := lstOwn_ok rp ix el
    simp only [Is] at iy; subst iy
    split at po
    · rename_i hz
      exact ⟨a, k, xs, rfl, rfl, qa, hz.1, hz.2.1, small_line (by rw [la.len]; exact hz.2.2), fun p n => new_lst rp (la.flat _) n po⟩
    · exact po.elim
  · exact po.elim
def dAdd : D → D → Stor → R D := fun x y M => orR (dAddI x y M) (orR (dAddS x y M) (orR (dAddL x y M) (dAddT x y M)))
def dMul : D → D → Stor → R D := fun x y M => orR (dMulI x y M) (dMulL x y M)
theorem og_add (hK : X.K = W.K) : OpG X W E (binaryOp .Add) dAdd := og_addI.or (og_addS.or (og_addL.or (og_addT hK)))
theorem og_mul : OpG X W E (binaryOp .Mult) dMul := og_mulI.or og_mulL
/-! ### == -/
mutual
def toPy : D → Option PyData
  | .non => some .none
  | .bl b => some (.bool b)
  | .int i => some (.int i)
  | .str x => some (.str x)
  | .tup l => (toPyL l).map PyData.tuple
  | .lst l => (toPyL l).map PyData.list
  | .lck l => (toPyL l).map PyData.list
  | .ty _ => none
  | .ins _ _ => none
  | .cls _ => none
  | .ref _ => none
def toPyL : List D → Option (List PyData)
  | [] => some []
  | d :: ds => match toPy d, toPyL ds with
    | some x, some xs => some (x :: xs)
    | _, _ => none
end
mutual
theorem toPy_ok {F H : Hp} {ρ : List Addr} (le : Le F H) : ∀ {d : D} {v : V} {p : PyData}, toPy d = some p → Is W F ρ d v → Dp W.K H v p
  | .non, _, _, e, h => by simp only [toPy, Option.some.injEq] at e; simp only [Is] at h; subst e; subst h; exact .non
  | .bl b, _, _, e, h => by simp only [toPy, Option.some.injEq] at e; simp only [Is] at h; subst e; subst h; exact .bl b
  | .int i, _, _, e, h => by simp only [toPy, Option.some.injEq] at e; simp only [Is] at h; subst e; subst h; exact .int i
  | .str x, _, _, e, h => by simp only [toPy, Option.some.injEq] at e; simp only [Is] at h; subst e; subst h; exact .str x
  | .tup l, _, _, e, h => by
    simp only [toPy, Option.map_eq_some_iff] at e; obtain ⟨l', el, rfl⟩ := e
    simp only [Is] at h; obtain ⟨a, vs, rfl, q, hl⟩ := h
    exact .tup (le.sqT q) (toPyL_ok le el hl)
  | .lst l, _, _, e, h => by
    simp only [toPy, Option.map_eq_some_iff] at e; obtain ⟨l', el, rfl⟩ := e
    simp only [Is] at h; obtain ⟨a, vs, rfl, q, hl⟩ := h
    exact .lst (SqL.of (le _ _ q)) (toPyL_ok le el hl)
  | .lck l, _, _, e, h => by
    simp only [toPy, Option.map_eq_some_iff] at e; obtain ⟨l', el, rfl⟩ := e
    simp only [Is] at h; obtain ⟨a, vs, rfl, q, hl⟩ := h
    exact .lst (le.sqL q) (toPyL_ok le el hl)
  | .ty _, _, _, e, _ => by simp only [toPy] at e; cases e
  | .ins _ _, _, _, e, _ => by simp only [toPy] at e; cases e
  | .cls _, _, _, e, _ => by simp only [toPy] at e; cases e
  | .ref _, _, _, e, _ => by simp only [toPy] at e; cases e
theorem toPyL_ok {F H : Hp} {ρ : List Addr} (le : Le F H) : ∀ {ds : List D} {vs : List V} {ps : List PyData}, toPyL ds = some ps → IsL W F ρ ds vs → DpAll W.K H vs ps
  | [], _, _, e, h => by simp only [toPyL, Option.some.injEq] at e; subst e; rw [IsL.nil_iff] at h; subst h; exact .nil
  | d :: ds, _, _, e, h => by
    obtain ⟨v, r, rfl, h1, h2⟩ := IsL.cons_iff.mp h
    simp only [toPyL] at e
    cases e1 : toPy d with
    | none => rw [e1] at e; cases e
    | some x =>
      cases e2 : toPyL ds with
      | none => rw [e1, e2] at e; cases e
      | some xs =>
        rw [e1, e2] at e
        cases e
        exact .cons (toPy_ok le e1 h1) (toPyL_ok le e2 h2)
end
/-- a list of the store as data, at the top -/
def topPy (x : D) (M : Stor) : Option PyData := match x with
  | .ref k => (match M[k]? with
    | some (.lst l) => (toPyL l).map PyData.list
    | _ => none)
  | x => toPy x
theorem topPy_ok {M : Stor} {F H : Hp} {ρ : List Addr} {d : D} {v : V} {p : PyData} (rp : Rp W ξ M F H ρ) (e : topPy d M = some p) (h : Is W F ρ d v) : Dp W.K H v p := by
  unfold topPy at e
  split at e
  · rename_i k
    simp only [Is] at h
    obtain ⟨a, rfl, ea⟩ := h
    split at e
    · rename_i l em
      simp only [Option.map_eq_some_iff] at e; obtain ⟨l', el, rfl⟩ := e
      obtain ⟨_, vs, hv, hl⟩ := rp.obj k _ a em ea
      exact .lst (SqL.of hv) (toPyL_ok rp.sub el hl)
    · cases e
  · exact toPy_ok rp.sub e h
def dEqD : D → D → Stor → R D := fun x y M => match topPy x M, topPy y M with
  | some a, some b => if SeqAt.shaped a = true ∧ SeqAt.shaped b = true then .ok (.bl (PyData.eqv a b)) M else .no
  | _, _ => .no
def dNeD : D → D → Stor → R D := fun x y M => match topPy x M, topPy y M with
  | some a, some b => if SeqAt.shaped a = true ∧ SeqAt.shaped b = true then .ok (.bl (!PyData.eqv a b)) M else .no
  | _, _ => .no
theorem og_eqD (hK : X.K = W.K) (hu : X.A.units + 64 < cLine) : OpG X W E (compareOp .Eq) dEqD := OpG.of (op_eqD hu) fun ξ M F H ρ x y vx vy Q Z rp ix iy po => by
  unfold dEqD at po
  split at po
  · rename_i a b ea eb
    split at po
    · rename_i hz
      rw [hK]
      exact ⟨a, b, topPy_ok rp ea ix, topPy_ok rp eb iy, hz.1, hz.2, po.now rp (flat_bl F ρ)⟩
    · exact po.elim
  · exact po.elim
theorem og_neD (hK : X.K = W.K) (hu : X.A.units + 64 < cLine) : OpG X W E (compareOp .NotEq) dNeD := OpG.of (op_neD hu) fun ξ M F H ρ x y vx vy Q Z rp ix iy po => by
  unfold dNeD at po
  split at po
  · rename_i a b ea eb
    split at po
    · rename_i hz
      rw [hK]
      exact ⟨a, b, topPy_ok rp ea ix, topPy_ok rp eb iy, hz.1, hz.2, po.now rp (flat_bl F ρ)⟩
    · exact po.elim
  · exact po.elim
/-- scalars -/
def dEqI := dI fun i j => some (.bl (decide (i = j)))
def dNeI := dI fun i j => some (.bl (!decide (i = j)))
theorem og_eqI : OpG X W E (compareOp .Eq) dEqI := OpG.of op_eq fun ξ M F H ρ x y vx vy Q Z rp ix iy po => by
  obtain ⟨i, j, d, rfl, rfl, hd, po⟩ := dI_ok (H := H) ix iy po
  cases hd
  refine ⟨rfl, po.now rp ?_⟩
  have : decide (V.int i = V.int j) = decide (i = j) := by simp
  rw [this]; exact flat_bl F ρ
theorem og_neI : OpG X W E (compareOp .NotEq) dNeI := OpG.of op_ne fun ξ M F H ρ x y vx vy Q Z rp ix iy po => by
  obtain ⟨i, j, d, rfl, rfl, hd, po⟩ := dI_ok (H := H) ix iy po
  cases hd
  refine ⟨rfl, po.now rp ?_⟩
  have : decide (V.int i = V.int j) = decide (i = j) := by simp
  rw [this]; exact flat_bl F ρ
def dEqS : D → D → Stor → R D := fun x y M => match x, y with
  | .str i, .str j => .ok (.bl (decide (i = j))) M
  | _, _ => .no
def dNeS : D → D → Stor → R D := fun x y M => match x, y with
  | .str i, .str j => .ok (.bl (!decide (i = j))) M
  | _, _ => .no
theorem og_eqS : OpG X W E (compareOp .Eq) dEqS := OpG.of op_eq fun ξ M F H ρ x y vx vy Q Z rp ix iy po => by
  unfold dEqS at po
  split at po
  · rename_i i j
    simp only [Is] at ix iy; subst ix; subst iy
    refine ⟨rfl, po.now rp ?_⟩
    have : decide (V.str i = V.str j) = decide (i = j) := by simp
    rw [this]; exact flat_bl F ρ
  · exact po.elim
theorem og_neS : OpG X W E (compareOp .NotEq) dNeS := OpG.of op_ne fun ξ M F H ρ x y vx vy Q Z rp ix iy po => by
  unfold dNeS at po
  split at po
  · rename_i i j
    simp only [Is] at ix iy; subst ix; subst iy
    refine ⟨rfl, po.now rp ?_⟩
    have : decide (V.str i = V.str j) = decide (i = j) := by simp
    rw [this]; exact flat_bl F ρ
  · exact po.elim
def dEq : D → D → Stor → R D := fun x y M => orR (dEqI x y M) (orR (dEqS x y M) (dEqD x y M))
def dNe : D → D → Stor → R D := fun x y M => orR (dNeI x y M) (orR (dNeS x y M) (dNeD x y M))
theorem og_eq (hK : X.K = W.K) (hu : X.A.units + 64 < cLine) : OpG X W E (compareOp .Eq) dEq := og_eqI.or (og_eqS.or (og_eqD hK hu))
theorem og_ne (hK : X.K = W.K) (hu : X.A.units + 64 < cLine) : OpG X W E (compareOp .NotEq) dNe := og_neI.or (og_neS.or (og_neD hK hu))
/-- is None -/
def dIsN : D → D → Stor → R D := fun x y M => match y with
  | .non => .ok (.bl (match x with
    | .non => true
    | _ => false)) M
  | _ => .no
end
end G

namespace G
open PySem PySem.Spec PyProof.Rows L2
section
variable {X : Cx} {W : Wd} {ξ : Xi} {E : Sg → XK}
/-! ### built-in functions -/
def fLen : List D → Stor → R D := fun ds M => match ds with
  | [x] => (match x with
    | .str z => if z.length ≤ 1000000 then .ok (.int z.length) M else .no
    | x => (match seqOf x M with
      | some l => .ok (.int l.length) M
      | none => .no))
  | _ => .no
theorem one_of {F : Hp} {ρ : List Addr} {x : D} {vs : List V} (h : IsL W F ρ [x] vs) : ∃ v, vs = [v] ∧ Is W F ρ x v := by
  obtain ⟨v, r, rfl, h1, h2⟩ := IsL.cons_iff.mp h
  rw [IsL.nil_iff] at h2; subst h2; exact ⟨v, rfl, h1⟩
theorem two_of {F : Hp} {ρ : List Addr} {x y : D} {vs : List V} (h : IsL W F ρ [x, y] vs) : ∃ v u, vs = [v, u] ∧ Is W F ρ x v ∧ Is W F ρ y u := by
  obtain ⟨v, r, rfl, h1, h2⟩ := IsL.cons_iff.mp h
  obtain ⟨u, rfl, h3⟩ := one_of h2
  exact ⟨v, u, rfl, h1, h3⟩
theorem cg_len (hK : X.K = W.K) : CallG X W E (.builtin "len") fLen := CallG.of call_len fun ξ M F H ρ ds vs Q Z rp is po => by
  unfold fLen at po
  split at po
  · rename_i x
    obtain ⟨v, rfl, ix⟩ := one_of is
    split at po
    · rename_i z
      simp only [Is] at ix; subst ix
      split at po
      · rename_i hz; exact ⟨_, z.length, rfl, ⟨small_line hz, rfl⟩, po.now rp (flat_int F ρ)⟩
      · exact po.elim
    · split at po
      · rename_i l el
        obtain ⟨a, xs, rfl, q, hl⟩ := seqOf_ok rp ix el
        refine ⟨_, xs.length, rfl, ?_, by rw [hl.len]; exact po.now rp (flat_int F ρ)⟩
        rw [hK]
        rcases q with q | q
        · exact .inl ⟨xs, q, rfl⟩
        · exact .inr ⟨xs, q, rfl⟩
      · exact po.elim
  · exact po.elim
def fAbsI : List D → Stor → R D := fun ds M => match ds with
  | [.int i] => .ok (.int i.natAbs) M
  | _ => .no
theorem cg_abs : CallG X W E (.builtin "abs") fAbsI := CallG.of call_abs fun ξ M F H ρ ds vs Q Z rp is po => by
  unfold fAbsI at po
  split at po
  · rename_i i
    obtain ⟨v, rfl, ix⟩ := one_of is
    simp only [Is] at ix; subst ix
    refine ⟨i, rfl, po.now rp ?_⟩
    have : (if i < 0 then -i else i) = (i.natAbs : Int) := by split <;> omega
    rw [this]; exact flat_int F ρ
  · exact po.elim
def fInt : List D → Stor → R D := fun ds M => match ds with
  | [.int i] => .ok (.int i) M
  | [.bl b] => .ok (.int (if b then 1 else 0)) M
  | _ => .no
theorem cg_int : CallG X W E (.type "int") fInt := CallG.of call_int1 fun ξ M F H ρ ds vs Q Z rp is po => by
  unfold fInt at po
  split at po
  · rename_i i
    obtain ⟨v, rfl, ix⟩ := one_of is
    simp only [Is] at ix; subst ix
    exact .inl ⟨i, rfl, po.now rp (flat_int F ρ)⟩
  · rename_i i
    obtain ⟨v, rfl, ix⟩ := one_of is
    simp only [Is] at ix; subst ix
    exact .inr ⟨i, rfl, po.now rp (flat_int F ρ)⟩
  · exact po.elim
def fBool : List D → Stor → R D := fun ds M => match ds with
  | [.int i] => .ok (.bl (i != 0)) M
  | [.bl b] => .ok (.bl b) M
  | _ => .no
theorem cg_bool : CallG X W E (.type "bool") fBool := CallG.of call_bool1 fun ξ M F H ρ ds vs Q Z rp is po => by
  unfold fBool at po
  split at po
  · rename_i i
    obtain ⟨v, rfl, ix⟩ := one_of is
    simp only [Is] at ix; subst ix
    exact .inl ⟨i, rfl, po.now rp (flat_bl F ρ)⟩
  · rename_i i
    obtain ⟨v, rfl, ix⟩ := one_of is
    simp only [Is] at ix; subst ix
    exact .inr ⟨i, rfl, po.now rp (flat_bl F ρ)⟩
  · exact po.elim
/-- list(x): a firm list | one that will be changed -/
def fList : List D → Stor → R D := fun ds M => match ds with
  | [x] => (match seqOf x M with
    | some l => .ok (.lst l) M
    | none => .no)
  | _ => .no
def fListM : List D → Stor → R D := fun ds M => match ds with
  | [x] => (match seqOf x M with
    | some l => .ok (.ref M.length) (M ++ [.lst l])
    | none => .no)
  | _ => .no
theorem cg_list (hK : X.K = W.K) : CallG X W E (.type "list") fList := CallG.of call_list_of fun ξ M F H ρ ds vs Q Z rp is po => by
  unfold fList at po
  split at po
  · obtain ⟨v, rfl, ix⟩ := one_of is
    split at po
    · rename_i l el
      obtain ⟨a, xs, rfl, q, hl⟩ := seqOf_ok rp ix el
      exact ⟨a, xs, rfl, by rw [hK]; exact q, fun p n => new_lst rp hl n po⟩
    · exact po.elim
  · exact po.elim
theorem cg_listM (hK : X.K = W.K) : CallG X W E (.type "list") fListM := CallG.of call_list_of fun ξ M F H ρ ds vs Q Z rp is po => by
  unfold fListM at po
  split at po
  · obtain ⟨v, rfl, ix⟩ := one_of is
    split at po
    · rename_i l el
      obtain ⟨a, xs, rfl, q, hl⟩ := seqOf_ok rp ix el
      exact ⟨a, xs, rfl, by rw [hK]; exact q, fun p n => new_lstM rp hl n po⟩
    · exact po.elim
  · exact po.elim
/-- repr of lists and tuples of plain data -/
def reprOk (p : PyData) : Bool := p.showable && !p.hasDict && decide (p.depth ≤ 60) && decide (p.shown.length ≤ 1000000)
def fRepr : List D → Stor → R D := fun ds M => match ds with
  | [x] => (match x with
    | .int i => if i.natAbs.log2 < 1920 then .ok (.str (toString i)) M else .no
    | .str _ => .no
    | .bl _ => .no
    | .non => .no
    | x => (match topPy x M with
      | some p => if reprOk p then .ok (.str p.shown) M else .no
      | none => .no))
  | _ => .no
theorem cg_repr (hK : X.K = W.K) (gd : X.A.guards = some []) (hu : X.A.units + 64 < cLine) : CallG X W E (.builtin "repr") fRepr := by
  intro ξ pins s σ H M F ρ ds vs us Q I rv rp is po
  unfold fRepr at po
  split at po
  · rename_i x
    obtain ⟨v, rfl, ix⟩ := one_of is
    have big : ∀ {p : PyData} {a : Addr}, v = .ref a → topPy x M = some p → Po W ξ (Is W) F ρ (if reprOk p then .ok (.str p.shown) M else .no) Q (E σ) → wpAny (model X.prog X.w) X.A (call (.builtin "repr") us) (EP X pins σ Q) X.xe s := fun {p a} ev ep po => by
      subst ev
      obtain ⟨u, rfl, ru⟩ := vals1 rv
      cases ru
      split at po
      · rename_i hz
        simp only [reprOk, Bool.and_eq_true, decide_eq_true_eq, Bool.not_eq_true'] at hz
        have dp := topPy_ok rp ep ix
        rw [← hK] at dp
        obtain ⟨as, rd⟩ := Dp.reads I p (.ref a) (.ref a) dp rfl
        refine repr_of_reads' rd hz.1.1.1 (fun z => by rw [hz.1.1.2] at z; cases z) gd (by have := hz.1.2; omega) (fun b o e => e) (fun h' u tk hk => ?_) (small_line hz.2)
        exact ⟨.str p.shown, H, I.kept hk, ⟨u, rfl⟩, po.now rp (flat_str F ρ)⟩
      · exact po.elim
    split at po
    · rename_i i
      simp only [Is] at ix; subst ix
      obtain ⟨u, rfl, ru⟩ := vals1 rv
      obtain ⟨t, rfl⟩ := ru
      split at po
      · rename_i hz
        exact SkE.call_repr_int pins s σ H _ _ Q I rv ⟨i, rfl, hz, po.now rp (flat_str F ρ)⟩
      · exact po.elim
    · exact po.elim
    · exact po.elim
    · exact po.elim
    · split at po
      · rename_i p ep
        have dp := topPy_ok rp ep ix
        cases dp with
        | non => cases x <;> simp_all [Is]
        | bl b => cases x <;> simp_all [Is]
        | int i => cases x <;> simp_all [Is]
        | str y => cases x <;> simp_all [Is]
        | lst _ _ => exact big rfl ep po
        | tup _ _ => exact big rfl ep po
      · exact po.elim
  · exact po.elim
end
end G

namespace G
open PySem PySem.Spec PyProof.Rows L2
section
variable {X : Cx} {W : Wd} {ξ : Xi} {E : Sg → XK} {a b e o : Expr} {es : List Expr} {ga gb go : GE'} {gs : GA'} {pos p2 : Pos}
/-! ### x[i] -/
theorem IsL.atI {F : Hp} {ρ : List Addr} {l : List D} {vs : List V} {i : Int} {d : D} (h : IsL W F ρ l vs) (e : atI l i = some d) : ∃ v, L2.atI vs i = some v ∧ Is W F ρ d v := by
  unfold L2.atI at e ⊢
  rw [h.len]
  cases en : ixN l.length i with
  | none => rw [en] at e; cases e
  | some j => rw [en] at e; exact h.get e
def dIx : D → D → Stor → R D := fun x y M => match y with
  | .int i => (match x with
    | .str z => if z.length ≤ 1000000 then (match L2.atI z.cps.toList i with
      | some c => .ok (.str ⟨#[c]⟩) M
      | none => .no) else .no
    | x => (match seqOf x M with
      | some l => (match L2.atI l i with
        | some d => .ok d M
        | none => .no)
      | none => .no))
  | _ => .no
theorem ge_ix (hK : X.K = W.K) (ha : GE X W E a ga) (hb : GE X W E b gb) (hs : PlainIx b) : GE X W E (.Subscript a b pos) (gBin dIx ga gb) := by
  refine mE (pe_ix ix_seq ha hb hs) fun σ H Q h => ?_
  obtain ⟨ξ, Γ, M, F, ρ, en, rp, po⟩ := two h
  refine ⟨ξ, Γ, M, F, ρ, en, rp, po.imp ?_⟩
  rintro vx H1 ⟨ξ1, Γ1, M1, F1, ρ1, en1, rp1, po1⟩
  refine ⟨ξ1, Γ1, M1, F1, ρ1, en1, rp1, po1.imp ?_⟩
  rintro vy H2 ⟨ξ2, x, y, M2, F2, ρ2, rp2, ix, iy, po2⟩
  unfold dIx at po2
  split at po2
  · rename_i i
    simp only [Is] at iy; subst iy
    split at po2
    · rename_i z
      simp only [Is] at ix; subst ix
      split at po2
      · rename_i hz
        split at po2
        · rename_i c hc
          exact .inr (.inr ⟨z, i, c, rfl, rfl, small_line hz, hc, po2.now rp2 (flat_str F2 ρ2)⟩)
        · exact po2.elim
      · exact po2.elim
    · split at po2
      · rename_i l el
        split at po2
        · rename_i d hd
          obtain ⟨p, vs, rfl, q, hl⟩ := seqOf_ok rp2 ix el
          obtain ⟨v, ev, iv⟩ := hl.atI hd
          rw [hK]
          rcases q with q | q
          · exact .inl ⟨p, vs, i, v, rfl, rfl, q, ev, po2.now rp2 iv⟩
          · exact .inr (.inl ⟨p, vs, i, v, rfl, rfl, q, ev, po2.now rp2 iv⟩)
        · exact po2.elim
      · exact po2.elim
  · exact po2.elim
/-- o[i] = .. for a list of the store -/
def ggSub (go gi : GE') : GG' := fun d Γ M => match go Γ M with
  | .ok (.ref k) M1 => (match gi Γ M1 with
    | .ok (.int i) M2 => (match M2[k]? with
      | some (.lst l) => (match ixN l.length i with
        | some j => some (Γ, M2.set k (.lst (l.set j d)))
        | none => none)
      | _ => none)
    | _ => none)
  | _ => none
theorem gg_sub {i : Expr} {gi : GE'} (ho : GE X W E o go) (hi : GE X W E i gi) (h : ∀ v, assign (.Subscript o i pos) X.env v = (do
      let ov ← holding [v] (eval o X.env)
      let iv ← holding [v, ov] (eval i X.env)
      standAt pos
      holding [v, ov, iv] (setItem ov iv v)
      release [v, ov, iv] []) := by intro _; rfl) : GG X W (.Subscript o i pos) (ggSub go gi) :=
  mG (pg_sub ho hi set_list h) fun v σ H Q ⟨ξ, d, Γ, M, F, ρ, is, en, rp, po⟩ => by
    unfold ggSub at po
    split at po
    · rename_i k M1 eo
      refine ⟨ξ, Γ, M, F, ρ, en, rp, ?_⟩
      rw [eo]
      intro vo F1 ρ1 H1 le1 p1 rp1 iso
      simp only [Is] at iso; obtain ⟨a, rfl, ea⟩ := iso
      split at po
      · rename_i z M2 ei
        refine ⟨ξ, Γ, M1, F1, ρ1, en.mono le1 p1, rp1, ?_⟩
        rw [ei]
        intro vi F2 ρ2 H2 le2 p2 rp2 isi
        simp only [Is] at isi; subst isi
        split at po
        · rename_i l em
          split at po
          · rename_i j ej
            have ea2 := pre_get p2 ea
            obtain ⟨_, vs, hv, hl⟩ := rp2.obj k _ a em ea2
            have is2 := is.mono (le1.tr le2) (p1.trans p2)
            refine ⟨a, vs, z, j, rfl, rfl, hv, by rw [hl.len]; exact ej, ?_⟩
            exact po σ F2 ρ2 _ (le1.tr le2) (p1.trans p2) (rp2.set ea2 ⟨_, rfl, hl.set j is2⟩) (en.mono (le1.tr le2) (p1.trans p2))
          · exact po.elim
        · exact po.elim
      · exact po.elim
    · exact po.elim
/-! ### slices -/
abbrev GO' := Gam → Stor → R (Option Int)
def tGO (W : Wd) (E : Sg → XK) (g : GO') : TO := fun σ H Q => ∃ ξ Γ M F ρ, En W Γ σ F ρ ∧ Rp W ξ M F H ρ ∧ Po W ξ (fun _ _ (x y : Option Int) => x = y) F ρ (g Γ M) Q (E σ)
abbrev GO (X : Cx) (W : Wd) (E : Sg → XK) (e : Option Expr) (g : GO') : Prop := PO X e (tGO W E g)
def goNone : GO' := fun _ M => .ok none M
def goSome (a : GE') : GO' := fun Γ M => (a Γ M).bind fun x M1 => match x with
  | .int i => .ok (some i) M1
  | _ => .no
theorem go_none : GO X W E none goNone := ⟨fun pins s σ H Q I ⟨ξ, Γ, M, F, ρ, en, rp, po⟩ => po_none.run pins s σ H Q I (po none F ρ H Le.rfl' (List.prefix_refl _) rp rfl)⟩
theorem go_some (h : GE X W E e ga) : GO X W E (some e) (goSome ga) := ⟨fun pins s σ H Q I ⟨ξ, Γ, M, F, ρ, en, rp, po⟩ => (po_some h).run pins s σ H Q I ⟨ξ, Γ, M, F, ρ, en, rp, (Po.bind (rel := Is W) po).imp (by
  rintro v H1 ⟨x, M1, F1, ρ1, e1, p1, rp1, ix, po1⟩
  cases x with
  | int i => simp only [Is] at ix; subst ix; exact ⟨i, rfl, po1 (some i) F1 ρ1 H1 Le.rfl' (List.prefix_refl _) rp1 rfl⟩
  | _ => exact po1.elim)⟩⟩
def cutD (l : List D) (lo hi : Option Int) : List D := (l.drop (HT.sIx l.length 0 lo)).take (HT.sIx l.length l.length hi - HT.sIx l.length 0 lo)
theorem IsL.cut {F : Hp} {ρ : List Addr} {l : List D} {vs : List V} (h : IsL W F ρ l vs) (lo hi : Option Int) : IsL W F ρ (cutD l lo hi) (cutV vs lo hi) := by
  unfold cutD cutV
  rw [h.len]
  exact (h.drop _).take _
def dSl (x : D) (lo hi : Option Int) (M : Stor) : R D := match x with
  | .str z => if z.length ≤ 1000000 then .ok (.str (cutS z lo hi)) M else .no
  | .tup l => .ok (.tup (cutD l lo hi)) M
  | x => (match lstOf x M with
    | some l => .ok (.lst (cutD l lo hi)) M
    | none => .no)
def gSl (a : GE') (lo hi : GO') : GE' := fun Γ M => (a Γ M).bind fun x M1 => (lo Γ M1).bind fun l M2 => (hi Γ M2).bind fun h M3 => dSl x l h M3
theorem ge_slice {lo hi : Option Expr} {gl gh : GO'} (hK : X.K = W.K) (ha : GE X W E a ga) (hl : GO X W E lo gl) (hh : GO X W E hi gh) : GE X W E (.Subscript a (.Slice lo hi none p2) pos) (gSl ga gl gh) := by
  refine mE (pe_slice (sl_list.or (sl_tupA.or sl_str)) ha hl hh) fun σ H Q ⟨ξ, Γ, M, F, ρ, en, rp, po⟩ => ?_
  refine ⟨ξ, Γ, M, F, ρ, en, rp, po.bind.imp ?_⟩
  rintro vx H1 ⟨x, M1, F1, ρ1, e1, p1, rp1, ix, po1⟩
  refine ⟨ξ, Γ, M1, F1, ρ1, en.mono e1 p1, rp1, po1.bind.imp ?_⟩
  rintro l H2 ⟨l', M2, F2, ρ2, e2, p2, rp2, rfl, po2⟩
  refine ⟨ξ, Γ, M2, F2, ρ2, (en.mono e1 p1).mono e2 p2, rp2, po2.bind.imp ?_⟩
  rintro h H3 ⟨h', M3, F3, ρ3, e3, p3, rp3, rfl, po3⟩
  have ix3 := (ix.mono e2 p2).mono e3 p3
  unfold dSl at po3
  split at po3
  · rename_i z
    simp only [Is] at ix3; subst ix3
    split at po3
    · rename_i hz; exact .inr (.inr ⟨z, rfl, small_line hz, po3.now rp3 (flat_str F3 ρ3)⟩)
    · exact po3.elim
  · rename_i l
    simp only [Is] at ix3; obtain ⟨p, vs, rfl, q, hl⟩ := ix3
    refine .inr (.inl ⟨p, vs, rfl, by rw [hK]; exact rp3.sub.sqT q, fun hw => ?_, fun _ q n => new_tup rp3 (hl.cut _ _) n po3⟩)
    refine po3.now rp3 ?_
    simp only [Is]
    refine ⟨p, vs, rfl, q, ?_⟩
    have e : cutD l l' h' = l := by
      unfold cutD
      rw [← hl.len, hw.1, hw.2]
      simp [hl.len]
    rw [e]; exact hl
  · split at po3
    · rename_i l el
      obtain ⟨p, vs, rfl, q, hl⟩ := lstOf_ok rp3 ix3 el
      exact .inl ⟨p, vs, rfl, by rw [hK]; exact q, fun q n => new_lst rp3 (hl.cut _ _) n po3⟩
    · exact po3.elim
end
end G

namespace G
open PySem PySem.Spec PyProof.Rows L2
section
variable {X : Cx} {W : Wd} {ξ : Xi} {E : Sg → XK} {a b e o : Expr} {es : List Expr} {ga gb go : GE'} {gs : GA'} {pos pos' p2 : Pos} {x : Str}
/-! ### isinstance -/
inductive TK where
  | non | bl | int | str | lst | tup | ins (c : Nat)
  deriving DecidableEq
def tkV (W : Wd) : TK → Value
  | .non => .type "NoneType"
  | .bl => .type "bool"
  | .int => .type "int"
  | .str => .type "str"
  | .lst => .type "list"
  | .tup => .type "tuple"
  | .ins c => .ref (W.T c)
def tkOf (x : D) (M : Stor) : Option TK := match x with
  | .non => some .non
  | .bl _ => some .bl
  | .int _ => some .int
  | .str _ => some .str
  | .lst _ => some .lst
  | .tup _ => some .tup
  | .ins c _ => some (.ins c)
  | .ref k => (match M[k]? with
    | some (.lst _) => some .lst
    | some (.ins c _) => some (.ins c)
    | _ => none)
  | _ => none
/-- what is asked of a class whose instances are looked at -/
structure ClsI (K : PySem.W.Frag) (C : Addr) : Prop where
  cl : Cls K C
  ha : PySem.W.findIn K (.ref C) "__class__" = some (some (.builtin "object.__class__"))
  hn : PySem.W.specialIn K (.builtin "object.__class__") "__get__" = some (some (.builtin "getset_descriptor.__get__"))
  htk : PySem.W.takesIn K (.builtin "object.__class__") = some true
  hm : PySem.W.mroIn K C (.type "object") = some true
/-- ok: the classes whose facts are known -/
def ClsOk (W : Wd) (ok : Nat → Bool) : Prop := ∀ c, ok c = true → ClsI W.K (W.T c)
def tkGood (ok : Nat → Bool) : TK → Bool
  | .ins c => ok c
  | _ => true
theorem sqT_ty {K : PySem.W.Frag} {H : Hp} {a : Addr} {vs : List V} (h : SqT K H a vs) : TyX K H (.ref a) (.type "tuple") := by
  rcases h with (h | ⟨ob, h⟩) | ⟨ob, its, n, h, hc, _⟩
  · exact .base (.tup h)
  · exact .fTuple h
  · exact .kTuple h hc
theorem tkOf_ok {ok : Nat → Bool} (hc : ClsOk W ok) {M : Stor} {F H : Hp} {ρ : List Addr} {x : D} {v : V} {t : TK} (rp : Rp W ξ M F H ρ) (ix : Is W F ρ x v) (e : tkOf x M = some t) (g : tkGood ok t = true) : TyX W.K H v (tkV W t) := by
  unfold tkOf at e
  split at e
  · cases e; simp only [Is] at ix; subst ix; exact .base .non
  · cases e; simp only [Is] at ix; subst ix; exact .base (.bl _)
  · cases e; simp only [Is] at ix; subst ix; exact .base (.int _)
  · cases e; simp only [Is] at ix; subst ix; exact .base (.str _)
  · cases e; simp only [Is] at ix; obtain ⟨a, vs, rfl, q, _⟩ := ix; exact .base (.lst (rp.sub _ _ q))
  · cases e; simp only [Is] at ix; obtain ⟨a, vs, rfl, q, _⟩ := ix; exact sqT_ty (rp.sub.sqT q)
  · rename_i c l
    cases e; simp only [Is] at ix; obtain ⟨a, dx, fvs, rfl, q, _⟩ := ix
    have z := hc c g
    exact .base (.ins (rp.sub _ _ q) z.cl z.ha z.hn z.htk z.hm)
  · rename_i k
    simp only [Is] at ix; obtain ⟨a, rfl, ea⟩ := ix
    split at e
    · rename_i l em
      cases e
      obtain ⟨_, vs, hv, _⟩ := rp.obj k _ a em ea
      exact .base (.lst hv)
    · rename_i c l em
      cases e
      obtain ⟨_, dx, fvs, hv, _⟩ := rp.obj k _ a em ea
      have z := hc c g
      exact .base (.ins hv z.cl z.ha z.hn z.htk z.hm)
    · cases e
  · cases e
/-- the classes asked for -/
inductive CK where
  | ty (n : String) | own (c : Nat)
def ckV (W : Wd) : CK → Value
  | .ty n => .type n
  | .own c => .ref (W.T c)
def ckOf : D → Option CK
  | .ty n => some (.ty n)
  | .cls c => some (.own c)
  | _ => none
def IsiOk (W : Wd) (tab : TK → CK → Option Bool) : Prop := ∀ t c b, tab t c = some b → PySem.W.kitOne W.K (tkV W t) (ckV W c) = some b
def fIsi (ok : Nat → Bool) (tab : TK → CK → Option Bool) : List D → Stor → R D := fun ds M => match ds with
  | [x, y] => (match tkOf x M, ckOf y with
    | some t, some c => if tkGood ok t then (match tab t c with
      | some b => .ok (.bl b) M
      | none => .no) else .no
    | _, _ => .no)
  | _ => .no
theorem cg_isi {ok : Nat → Bool} {tab : TK → CK → Option Bool} (hK : X.K = W.K) (hc : ClsOk W ok) (ht : IsiOk W tab) : CallG X W E (.builtin "isinstance") (fIsi ok tab) := CallG.of call_isi fun ξ M F H ρ ds vs Q Z rp is po => by
  unfold fIsi at po
  split at po
  · rename_i x y
    obtain ⟨v, u, rfl, ix, iy⟩ := two_of is
    split at po
    · rename_i t c et ec
      split at po
      · rename_i hg
        split at po
        · rename_i b hb
          rw [hK]
          refine ⟨v, u, tkV W t, ckV W c, b, rfl, ?_, tkOf_ok hc rp ix et hg, ht t c b hb, po.now rp (flat_bl F ρ)⟩
          unfold ckOf at ec
          split at ec
          · cases ec; simp only [Is] at iy; subst iy; exact .ty _
          · cases ec; simp only [Is] at iy; subst iy; exact .own _
          · cases ec
        · exact po.elim
      · exact po.elim
    · exact po.elim
  · exact po.elim
/-- a built-in class, an own class, as a value -/
theorem ge_ty {n : String} (hg : Gl X x) (hm : X.mg x = none) (hv : bootBuiltins x = some (.type n)) (hn : x ≠ "__name__" := by decide) (hd : (x == ("__debug__" : Str)) = false := by decide) : GE X W E (.Name x pos) (gC (.ty n)) :=
  ge_const (pe_bltn (v := .ty n) hg hm hv rfl hn hd) flat_ty
theorem ge_cls {c : Nat} (hg : Gl X x) (hm : X.mg x = some (.ref (W.T c))) (hd : (x == ("__debug__" : Str)) = false := by decide) : GE X W E (.Name x pos) (gC (.cls c)) :=
  ge_const (pe_glob (v := .ref (W.T c)) hg hm rfl hd) fun F ρ => by simp only [Is]
/-- a module's constant -/
theorem ge_glob {d : D} {v : V} {u : Value} (hg : Gl X x) (hm : X.mg x = some u) (r : RelV v u) (fl : Flat W d v) (hd : (x == ("__debug__" : Str)) = false := by decide) : GE X W E (.Name x pos) (gC d) :=
  ge_const (pe_glob hg hm r hd) fl
/-! ### attributes -/
/-- an instance's class and values -/
def insOf (x : D) (M : Stor) : Option (Nat × List D) := match x with
  | .ins c l => some (c, l)
  | .ref k => (match M[k]? with
    | some (.ins c l) => some (c, l)
    | _ => none)
  | _ => none
theorem insOf_ok {M : Stor} {F H : Hp} {ρ : List Addr} {x : D} {v : V} {c : Nat} {l : List D} (rp : Rp W ξ M F H ρ) (ix : Is W F ρ x v) (e : insOf x M = some (c, l)) :
    ∃ a dx fvs, v = .ref a ∧ H a = some (.ins (W.T c) dx fvs) ∧ fvs.map (·.1) = (W.fn c).take l.length ∧ IsL W F ρ l (fvs.map (·.2)) := by
  unfold insOf at e
  split at e
  · cases e; simp only [Is] at ix; obtain ⟨a, dx, fvs, e1, q, n, hl⟩ := ix; exact ⟨a, dx, fvs, e1, rp.sub _ _ q, n, hl⟩
  · rename_i k
    simp only [Is] at ix; obtain ⟨a, e1, ea⟩ := ix
    split at e
    · rename_i c' l' em
      cases e
      obtain ⟨_, dx, fvs, hv, n, hl⟩ := rp.obj k _ a em ea
      exact ⟨a, dx, fvs, e1, hv, n, hl⟩
    · cases e
  · cases e
/-- the field f is the i-th of class c, and nothing of the class hides it -/
structure FldOk (W : Wd) (f : Str) (c i : Nat) : Prop where
  cl : Cls W.K (W.T c)
  na : NoAttr W.K (W.T c) f
  ix : (W.fn c)[i]? = some f
  nd : (W.fn c).Nodup
def FldsOk (W : Wd) (f : Str) (tab : Nat → Option Nat) : Prop := ∀ c i, tab c = some i → FldOk W f c i
def dFld (tab : Nat → Option Nat) : D → Stor → R D := fun x M => match insOf x M with
  | some (c, l) => (match tab c with
    | some i => (match l[i]? with
      | some d => .ok d M
      | none => .no)
    | none => .no)
  | none => .no
theorem look_at : ∀ {fvs : List (Str × V)} {i : Nat} {f : Str} {v : V}, (fvs.map (·.1)).Nodup → (fvs.map (·.1))[i]? = some f → (fvs.map (·.2))[i]? = some v → fvs.lookup f = some v
  | [], _, _, _, _, e, _ => by simp at e
  | (g, z) :: r, 0, f, v, _, e, e2 => by simp at e e2; subst e; subst e2; simp [List.lookup]
  | (g, z) :: r, i + 1, f, v, nd, e, e2 => by
    simp at e e2 nd
    have hne : (f == g) = false := by
      apply beq_eq_false_iff_ne.mpr
      intro h; subst h
      obtain ⟨y, hy⟩ := e
      exact nd.1 y (List.mem_of_getElem? hy)
    have := look_at (fvs := r) (i := i) (f := f) (v := v) (by simpa using nd.2) (by simpa using e) (by simpa using e2)
    simp [List.lookup, hne, this]
theorem ge_fld {tab : Nat → Option Nat} {f : Str} (hK : X.K = W.K) (ht : FldsOk W f tab) (he : GE X W E e ga) (hb : attributeBase e f X.env (eval e X.env) = eval e X.env := by rfl) : GE X W E (.Attribute e f pos) (gUn (dFld tab) ga) :=
  mE (pe_fld he hb) fun σ H Q ⟨ξ, Γ, M, F, ρ, en, rp, po⟩ => ⟨ξ, Γ, M, F, ρ, en, rp, po.bind.imp (by
    rintro v H1 ⟨x, M1, F1, ρ1, e1, p1, rp1, ix, po1⟩
    unfold dFld at po1
    split at po1
    · rename_i c l ei
      split at po1
      · rename_i i et
        split at po1
        · rename_i d hd
          obtain ⟨a, dx, fvs, rfl, hv, hn, hl⟩ := insOf_ok rp1 ix ei
          have z := ht c i et
          obtain ⟨w, ew, iw⟩ := hl.get hd
          have hi : i < l.length := (List.getElem?_eq_some_iff.mp hd).1
          refine ⟨a, W.T c, dx, fvs, w, rfl, hv, by rw [hK]; exact z.cl, by rw [hK]; exact z.na, look_at (i := i) ?_ ?_ ew, po1.now rp1 iw⟩
          · rw [hn]; exact z.nd.sublist (List.take_sublist _ _)
          · rw [hn, List.getElem?_take_of_lt hi]; exact z.ix
        · exact po1.elim
      · exact po1.elim
    · exact po1.elim)⟩
/-- e.f = value, of an object of the store -/
def setFl (l : List D) (i : Nat) (d : D) : Option (List D) := if i < l.length then some (l.set i d) else if i = l.length then some (l ++ [d]) else none
def gSetF (tab : Nat → Option Nat) (o v : GE') : GS' := fun Γ M => (v Γ M).bindS Γ fun d M1 => (o Γ M1).bindS Γ fun x M2 => match x with
  | .ref k => (match M2[k]? with
    | some (.ins c l) => (match tab c with
      | some i => (match setFl l i d with
        | some l' => if l.length < 100 then .nx Γ (M2.set k (.ins c l')) else .no
        | none => .no)
      | none => .no)
    | _ => .no)
  | _ => .no
theorem putF_at : ∀ {fvs : List (Str × V)} {i : Nat} {f : Str} {v : V}, (fvs.map (·.1)).Nodup → (fvs.map (·.1))[i]? = some f → (putF f v fvs).map (·.1) = fvs.map (·.1) ∧ (putF f v fvs).map (·.2) = (fvs.map (·.2)).set i v
  | [], _, _, _, _, e => by simp at e
  | (g, z) :: r, 0, f, v, _, e => by simp at e; subst e; simp [putF]
  | (g, z) :: r, i + 1, f, v, nd, e => by
    simp at e nd
    have hne : ¬ g = f := by
      intro h; subst h
      obtain ⟨y, hy⟩ := e
      exact nd.1 y (List.mem_of_getElem? hy)
    obtain ⟨h1, h2⟩ := putF_at (fvs := r) (i := i) (f := f) (v := v) (by simpa using nd.2) (by simpa using e)
    simp [putF, hne, h1, h2]
theorem putF_new : ∀ {fvs : List (Str × V)} {f : Str} {v : V}, f ∉ fvs.map (·.1) → putF f v fvs = fvs ++ [(f, v)]
  | [], _, _, _ => rfl
  | (g, z) :: r, f, v, h => by
    simp at h
    have hne : ¬ g = f := fun q => h.1 q.symm
    have := putF_new (fvs := r) (f := f) (v := v) (by simpa using h.2)
    simp [putF, hne, this]
theorem gs_setF {tab : Nat → Option Nat} {f : Str} (hK : X.K = W.K) (ht : FldsOk W f tab) (ho : GE X W E o go) (hv : GE X W E e ga) (hs : swapsWith e (some (.Attribute o f pos')) pos.line X.env = pure false := by rfl) : GS X W E (.Assign [.Attribute o f pos'] e pos) (gSetF tab go ga) :=
  mS (ps_fld ho hv hs) fun N σ H ⟨ξ, Γ, M, F, ρ, en, rp, po⟩ => ⟨ξ, Γ, M, F, ρ, en, rp, (Po.bindS en po).imp (by
    rintro vy H1 ⟨d, M1, F1, ρ1, e1, p1, rp1, iy, po1⟩
    refine ⟨ξ, Γ, M1, F1, ρ1, en.mono e1 p1, rp1, (Po.bindS (en.mono e1 p1) po1).imp ?_⟩
    rintro vx H2 ⟨x, M2, F2, ρ2, e2, p2, rp2, ix, po2⟩
    split at po2
    · rename_i k
      split at po2
      · rename_i c l em
        split at po2
        · rename_i i et
          split at po2
          · rename_i l' el
            split at po2
            · rename_i hz
              simp only [Is] at ix; obtain ⟨a, rfl, ea⟩ := ix
              obtain ⟨_, dx, fvs, hv, hn, hl⟩ := rp2.obj k _ a em ea
              have z := ht c i et
              have len : fvs.length = l.length := by have := hl.len; simpa using this
              have nd : (fvs.map (·.1)).Nodup := by rw [hn]; exact z.nd.sublist (List.take_sublist _ _)
              have iy2 := iy.mono e2 p2
              refine ⟨a, W.T c, dx, fvs, rfl, hv, by rw [hK]; exact z.cl, by rw [hK]; exact z.na, by omega, ?_⟩
              refine po2 σ F2 ρ2 _ Le.rfl' (List.prefix_refl _) (rp2.set ea ?_) ((en.mono e1 p1).mono e2 p2)
              unfold setFl at el
              split at el
              · rename_i hi
                cases el
                obtain ⟨h1, h2⟩ := putF_at (v := vy) nd (i := i) (f := f) (by rw [hn, List.getElem?_take_of_lt hi]; exact z.ix)
                exact ⟨dx, _, rfl, by rw [h1, hn]; simp, by rw [h2]; exact hl.set i iy2⟩
              · split at el
                · rename_i hi
                  cases el
                  have hlt : l.length < (W.fn c).length := by have := (List.getElem?_eq_some_iff.mp z.ix).1; omega
                  have ef : (W.fn c)[l.length] = f := by
                    have := z.ix
                    rw [hi, List.getElem?_eq_getElem hlt] at this
                    exact Option.some.inj this
                  have nf : f ∉ fvs.map (·.1) := by
                    rw [hn]
                    intro hm
                    obtain ⟨j, hj, ej⟩ := List.getElem_of_mem hm
                    rw [List.getElem_take] at ej
                    have hj' : j < l.length := by rw [List.length_take] at hj; omega
                    have := (List.getElem_inj z.nd).mp (ej.trans ef.symm)
                    omega
                  rw [putF_new nf]
                  refine ⟨dx, _, rfl, ?_, ?_⟩
                  · rw [List.map_append, hn, List.length_append, List.length_singleton, List.take_succ_eq_append_getElem hlt, ef]; rfl
                  · rw [List.map_append]; exact hl.append (IsL.cons iy2 IsL.nil)
                · cases el
            · exact po2.elim
          · exact po2.elim
        · exact po2.elim
      · exact po2.elim
    · exact po2.elim)⟩
end
end G

namespace G
open PySem PySem.Spec PyProof.Rows L2
section
variable {X : Cx} {W : Wd} {ξ : Xi} {E : Sg → XK} {a b e o tg : Expr} {es : List Expr} {ga gb : GE'} {gs : GA'} {pos pos' p2 p : Pos} {x : Str}
/-! ### what is walked -/
abbrev anyS : Stor → Prop := fun _ => True
def giSeq (a : GE') : GI' := fun Γ M => (a Γ M).bind fun x M1 => match x with
  | .tup l => .ok (l, anyS) M1
  | .lst l => .ok (l, anyS) M1
  | .lck l => .ok (l, anyS) M1
  | .ref k => (match M1[k]? with
    | some (.lst l) => .ok (l, fun M => M[k]? = some (.lst l)) M1
    | _ => .no)
  | _ => .no
/-- a list is walked -/
def giLst (a : GE') : GI' := fun Γ M => (a Γ M).bind fun x M1 => match x with
  | .lst l => .ok (l, anyS) M1
  | .lck l => .ok (l, anyS) M1
  | .ref k => (match M1[k]? with
    | some (.lst l) => .ok (l, fun M => M[k]? = some (.lst l)) M1
    | _ => .no)
  | _ => .no
theorem good_list {F0 : Hp} {ρ0 : List Addr} {l : List D} {vs : List V} {q : Addr} {keep : Stor → Prop} (h : ∀ ξ M F H ρ, Le F0 F → ρ0 <+: ρ → Rp W ξ M F H ρ → keep M → ∃ vs, SqL W.K H q vs ∧ IsL W F ρ l vs) : GoodIt W F0 ρ0 (l, keep) (Itl W.K q) := by
  intro ξ i M F H ρ le pr rp hk
  obtain ⟨vs, hv, hl⟩ := h ξ M F H ρ le pr rp hk
  refine ⟨fun d hd => ?_, fun hi => ⟨vs, hv, by rw [hl.len]; exact hi⟩⟩
  obtain ⟨v, ev, iv⟩ := hl.get hd
  refine ⟨⟨vs, v, hv, ev⟩, fun x H' ⟨eH, ey⟩ => ?_⟩
  subst eH
  have := ey vs hv
  rw [ev] at this; cases this
  exact ⟨F, Le.rfl', rp, iv⟩
theorem good_tup {F0 : Hp} {ρ0 : List Addr} {l : List D} {vs : List V} {q : Addr} (hq : SqT W.K F0 q vs) (hl0 : IsL W F0 ρ0 l vs) : GoodIt W F0 ρ0 (l, anyS) (Itt W.K q) := by
  intro ξ i M F H ρ le pr rp hk
  have hl := hl0.mono le pr
  have hv := rp.sub.sqT (le.sqT hq)
  refine ⟨fun d hd => ?_, fun hi => ⟨vs, hv, by rw [hl.len]; exact hi⟩⟩
  obtain ⟨v, ev, iv⟩ := hl.get hd
  refine ⟨⟨vs, v, hv, ev⟩, fun x H' ⟨eH, ey⟩ => ?_⟩
  subst eH
  have := ey vs hv
  rw [ev] at this; cases this
  exact ⟨F, Le.rfl', rp, iv⟩
theorem gi_list (hK : X.K = W.K) (h : GE X W E e ga) : GI X W E tg e (giLst ga) :=
  mI (pi_list h) fun σ H Q ⟨ξ, Γ, M, F, ρ, en, rp, po⟩ => ⟨ξ, Γ, M, F, ρ, en, rp, (Po.bind (rel := Is W) po).imp (by
    rintro v H1 ⟨x, M1, F1, ρ1, e1, p1, rp1, ix, po1⟩
    rw [hK]
    split at po1
    · rename_i l
      simp only [Is] at ix; obtain ⟨q, vs, rfl, hq, hl⟩ := ix
      exact ⟨q, rfl, ⟨vs, SqL.of (rp1.sub _ _ hq)⟩, po1 _ F1 ρ1 H1 Le.rfl' (List.prefix_refl _) rp1 (good_list (vs := vs) fun ξ M F H ρ le pr rp _ => ⟨vs, SqL.of (rp.sub _ _ (le _ _ hq)), hl.mono le pr⟩)⟩
    · rename_i l
      simp only [Is] at ix; obtain ⟨q, vs, rfl, hq, hl⟩ := ix
      exact ⟨q, rfl, ⟨vs, rp1.sub.sqL hq⟩, po1 _ F1 ρ1 H1 Le.rfl' (List.prefix_refl _) rp1 (good_list (vs := vs) fun ξ M F H ρ le pr rp _ => ⟨vs, rp.sub.sqL (le.sqL hq), hl.mono le pr⟩)⟩
    · rename_i k
      split at po1
      · rename_i l em
        simp only [Is] at ix; obtain ⟨q, rfl, eq⟩ := ix
        obtain ⟨_, vs, hv, hl⟩ := rp1.obj k _ q em eq
        refine ⟨q, rfl, ⟨vs, SqL.of hv⟩, po1 _ F1 ρ1 H1 Le.rfl' (List.prefix_refl _) rp1 (good_list (vs := vs) fun ξ M F H ρ le pr rp hm => ?_)⟩
        obtain ⟨_, us, hu, hlu⟩ := rp.obj k _ q hm (pre_get pr eq)
        exact ⟨us, SqL.of hu, hlu⟩
      · exact po1.elim
    · exact po1.elim)⟩
def giTup (a : GE') : GI' := fun Γ M => (a Γ M).bind fun x M1 => match x with
  | .tup l => .ok (l, anyS) M1
  | _ => .no
theorem gi_tup (hK : X.K = W.K) (h : GE X W E e ga) : GI X W E tg e (giTup ga) :=
  mI (pi_tup h) fun σ H Q ⟨ξ, Γ, M, F, ρ, en, rp, po⟩ => ⟨ξ, Γ, M, F, ρ, en, rp, (Po.bind (rel := Is W) po).imp (by
    rintro v H1 ⟨x, M1, F1, ρ1, e1, p1, rp1, ix, po1⟩
    rw [hK]
    split at po1
    · rename_i l
      simp only [Is] at ix; obtain ⟨q, vs, rfl, hq, hl⟩ := ix
      exact ⟨q, rfl, ⟨vs, rp1.sub.sqT hq⟩, po1 _ F1 ρ1 H1 Le.rfl' (List.prefix_refl _) rp1 (good_tup hq hl)⟩
    · exact po1.elim)⟩
/-- either of the two, by what comes -/
theorem PI.or {t t' : TI} (h : PI X tg e t) (h' : PI X tg e t') : PI X tg e (fun σ H Q => t σ H Q ∨ t' σ H Q) := ⟨fun pins s σ H R I z => z.elim (h.run pins s σ H R I) (h'.run pins s σ H R I)⟩
theorem gi_seq (hK : X.K = W.K) (h : GE X W E e ga) : GI X W E tg e (giSeq ga) :=
  mI (PI.or (gi_list hK h) (gi_tup hK h)) fun σ H Q ⟨ξ, Γ, M, F, ρ, en, rp, po⟩ => by
    unfold giSeq at po
    cases er : ga Γ M with
    | no => rw [er] at po; exact po.elim
    | ex c fs M1 => rw [er] at po; exact .inl ⟨ξ, Γ, M, F, ρ, en, rp, by unfold giLst; rw [er]; exact po⟩
    | ok d M1 =>
      rw [er] at po
      cases d with
      | tup l => exact .inr ⟨ξ, Γ, M, F, ρ, en, rp, by unfold giTup; rw [er]; exact po⟩
      | lst l => exact .inl ⟨ξ, Γ, M, F, ρ, en, rp, by unfold giLst; rw [er]; exact po⟩
      | lck l => exact .inl ⟨ξ, Γ, M, F, ρ, en, rp, by unfold giLst; rw [er]; exact po⟩
      | ref k => exact .inl ⟨ξ, Γ, M, F, ρ, en, rp, by unfold giLst; rw [er]; exact po⟩
      | _ => exact po.elim
/-- the numbers from lo on, n of them -/
def upFrom (lo : Int) (n : Nat) : List D := (List.range n).map fun i => .int (lo + (i : Nat))
theorem good_range {F0 : Hp} {ρ0 : List Addr} {lo : Int} {n : Nat} : GoodIt W F0 ρ0 (upFrom lo n, anyS) (Itr lo n) := by
  intro ξ i M F H ρ le pr rp hk
  refine ⟨fun d hd => ?_, fun hi => (by simpa [upFrom] using hi : n ≤ i)⟩
  have hi : i < n := by have := (List.getElem?_eq_some_iff.mp hd).1; simpa [upFrom] using this
  refine ⟨hi, fun x H' ⟨eH, ex⟩ => ?_⟩
  subst eH; subst ex
  have : d = .int (lo + (i : Nat)) := by
    unfold upFrom at hd
    rw [List.getElem?_map, List.getElem?_range hi] at hd
    exact (Option.some.inj hd).symm
  subst this
  exact ⟨F, Le.rfl', rp, by simp only [Is]⟩
def giRange1 (a : GA') : GI' := fun Γ M => (a Γ M).bind fun xs M1 => match xs with
  | [.int j] => if -(2 ^ 62) ≤ j ∧ j < 2 ^ 62 then .ok (upFrom 0 j.toNat, anyS) M1 else .no
  | _ => .no
theorem gi_range1 (hg : Gl X "range") (hm : X.mg "range" = none) (ha : GA X W E [a] gs) (hs : starEach [a] X.env = [(false, eval a X.env)] := by rfl) : GI X W E tg (.Call (.Name "range" p) [a] [] pos) (giRange1 gs) :=
  mI (pi_range1 hg hm ha hs) fun σ H Q ⟨ξ, Γ, M, F, ρ, en, rp, po⟩ => ⟨ξ, Γ, M, F, ρ, en, rp, (Po.bind (rel := IsL W) po).imp (by
    rintro vs H1 ⟨xs, M1, F1, ρ1, e1, p1, rp1, is, po1⟩
    split at po1
    · rename_i j
      split at po1
      · rename_i hz
        obtain ⟨v, rfl, iv⟩ := one_of is
        simp only [Is] at iv; subst iv
        exact ⟨j, rfl, hz.1, hz.2, po1 _ F1 ρ1 H1 Le.rfl' (List.prefix_refl _) rp1 good_range⟩
      · exact po1.elim
    · exact po1.elim)⟩
def giRange2 (a : GA') : GI' := fun Γ M => (a Γ M).bind fun xs M1 => match xs with
  | [.int i, .int j] => if -(2 ^ 62) ≤ i ∧ i < 2 ^ 62 ∧ -(2 ^ 62) ≤ j ∧ j < 2 ^ 62 then .ok (upFrom i (j - i).toNat, anyS) M1 else .no
  | _ => .no
theorem gi_range2 (hg : Gl X "range") (hm : X.mg "range" = none) (ha : GA X W E [a, b] gs) (hs : starEach [a, b] X.env = [(false, eval a X.env), (false, eval b X.env)] := by rfl) (hs2 : starEach [b] X.env = [(false, eval b X.env)] := by rfl) : GI X W E tg (.Call (.Name "range" p) [a, b] [] pos) (giRange2 gs) :=
  mI (pi_range2 hg hm ha hs hs2) fun σ H Q ⟨ξ, Γ, M, F, ρ, en, rp, po⟩ => ⟨ξ, Γ, M, F, ρ, en, rp, (Po.bind (rel := IsL W) po).imp (by
    rintro vs H1 ⟨xs, M1, F1, ρ1, e1, p1, rp1, is, po1⟩
    split at po1
    · rename_i i j
      split at po1
      · rename_i hz
        obtain ⟨v, u, rfl, iv, iu⟩ := two_of is
        simp only [Is] at iv iu; subst iv; subst iu
        exact ⟨i, j, rfl, hz, po1 _ F1 ρ1 H1 Le.rfl' (List.prefix_refl _) rp1 good_range⟩
      · exact po1.elim
    · exact po1.elim)⟩
/-! ### [e for x in xs if t] -/
/-- targets of a block: a name, a tuple of names -/
inductive Tgt where
  | one (i : Nat) | tup (is : List Nat)
def gsSlots : List Nat → TGs
  | [] => L2.gNil
  | i :: is => L2.gCons (gName i) (gsSlots is)
def Tgt.raw (K : PySem.W.Frag) : Tgt → TG
  | .one i => gName i
  | .tup is => L2.gTup K is.length (gsSlots is)
def setAll : List Nat → List D → Gam → Option Gam
  | [], [], Γ => some Γ
  | i :: is, d :: ds, Γ => setAll is ds (Γ.set i (some d))
  | _, _, _ => none
def Tgt.run : Tgt → D → Gam → Option Gam
  | .one i, d, Γ => some (Γ.set i (some d))
  | .tup is, .tup ds, Γ => setAll is ds Γ
  | _, _, _ => none
def Tgt.slots : Tgt → List Nat
  | .one i => [i]
  | .tup is => is
open Classical in
noncomputable def compG (keep : Stor → Prop) (t : Tgt) (tt : GT') (te : GE') (Γ : Gam) : List D → Stor → List D → R (List D)
  | [], M, acc => .ok acc M
  | d :: ds, M, acc => match t.run d Γ with
    | some Γ1 => (match tt Γ1 M with
      | .ok true M2 => (match te Γ1 M2 with
        | .ok y M3 => if keep M3 ∧ acc.length < 1000000 then compG keep t tt te Γ ds M3 (acc ++ [y]) else .no
        | _ => .no)
      | .ok false M2 => if keep M2 then compG keep t tt te Γ ds M2 acc else .no
      | _ => .no)
    | none => .no
def wipeG (Γ : Gam) : List Nat → Gam
  | [] => Γ
  | v :: vs => (wipeG Γ vs).set v none
theorem En.wipes {Γ : Gam} {σ : Sg} {F : Hp} {ρ : List Addr} (h : En W Γ σ F ρ) : ∀ vs : List Nat, En W (wipeG Γ vs) (L2.wipe σ vs) F ρ
  | [] => h
  | v :: vs => (En.wipes h vs).wipe
open Classical in
noncomputable def gComp (it : GI') (t : Tgt) (tt : GT') (te : GE') : GE' := fun Γ M => (it Γ M).bind fun q M1 => if q.2 M1 then (compG q.2 t tt te (wipeG Γ t.slots) q.1 M1 []).bind fun l M2 => .ok (.lst l) M2 else .no
theorem Rp.aside {M : Stor} {F H : Hp} {ρ : List Addr} (h : Rp W ξ M F H ρ) {q : Addr} {ob : HO} (n : H q = none) : Rp W ((q, ob) :: ξ) M F (upd H q ob) ρ := by
  have z := h.newH (o := ob) n
  refine ⟨z.sub, z.len, z.nd, z.obj, fun r hr => ?_⟩
  rcases List.mem_cons.mp hr with rfl | hr
  · exact ⟨upd_same, h.free n, fun hm => by
      obtain ⟨i, hi, e⟩ := List.getElem_of_mem hm
      exact h.ne n (List.getElem?_eq_some_iff.mpr ⟨hi, e⟩) rfl⟩
  · exact z.xt r hr
theorem Rp.aset {M : Stor} {F H : Hp} {ρ : List Addr} {q : Addr} {ob ob' : HO} (h : Rp W ((q, ob) :: ξ) M F H ρ) (nd : ∀ r ∈ ξ, r.1 ≠ q) : Rp W ((q, ob') :: ξ) M F (upd H q ob') ρ := by
  obtain ⟨q1, q2, q3⟩ := h.xt (q, ob) List.mem_cons_self
  refine ⟨fun a u e => ?_, h.len, h.nd, fun i m a em ea => ?_, fun r hr => ?_⟩
  · rw [upd_ne (ne_of_none e q2)]; exact h.sub _ _ e
  · have ne : a ≠ q := fun z => q3 (by have := List.mem_of_getElem? ea; rw [z] at this; exact this)
    rw [upd_ne ne]; exact h.obj i m a em ea
  · rcases List.mem_cons.mp hr with rfl | hr'
    · exact ⟨upd_same, q2, q3⟩
    · obtain ⟨r1, r2, r3⟩ := h.xt r (List.mem_cons_of_mem _ hr')
      rw [upd_ne (nd r hr')]
      exact ⟨r1, r2, r3⟩
theorem Rp.firmD {M : Stor} {F H : Hp} {ρ : List Addr} {q : Addr} {ob : HO} (h : Rp W ((q, ob) :: ξ) M F H ρ) (nd : ∀ r ∈ ξ, r.1 ≠ q) : Rp W ξ M (upd F q ob) H ρ ∧ Le F (upd F q ob) := by
  obtain ⟨q1, q2, q3⟩ := h.xt (q, ob) List.mem_cons_self
  refine ⟨⟨fun a u e => ?_, h.len, h.nd, fun i m a em ea => ?_, fun r hr => ?_⟩, Le.new q2⟩
  · by_cases hq : a = q
    · subst hq; rw [upd_same] at e; cases e; exact q1
    · rw [upd_ne hq] at e; exact h.sub _ _ e
  · have ne : a ≠ q := fun z => q3 (by have := List.mem_of_getElem? ea; rw [z] at this; exact this)
    obtain ⟨z1, z2⟩ := h.obj i m a em ea
    rw [upd_ne ne]; exact ⟨z1, z2.mono (Le.new q2) (List.prefix_refl _)⟩
  · obtain ⟨r1, r2, r3⟩ := h.xt r (List.mem_cons_of_mem _ hr)
    rw [upd_ne (nd r hr)]; exact ⟨r1, r2, r3⟩
theorem wipe_at {σ : Sg} {j : Nat} : ∀ (vs : List Nat), (wipe σ vs)[j]? = if j ∈ vs then (if j < σ.length then some none else none) else σ[j]?
  | [] => by simp [wipe]
  | v :: vs => by
    unfold wipe
    by_cases hv : v = j
    · subst hv
      rw [if_pos List.mem_cons_self]
      by_cases hl : v < σ.length
      · rw [List.getElem?_set_self (by rw [wipe_length]; exact hl), if_pos hl]
      · rw [if_neg hl, List.getElem?_eq_none (by rw [List.length_set, wipe_length]; omega)]
    · rw [List.getElem?_set_ne hv, wipe_at vs]
      have : (j ∈ v :: vs) ↔ j ∈ vs := ⟨fun z => (List.mem_cons.mp z).elim (fun q => absurd q.symm hv) id, List.mem_cons_of_mem _⟩
      by_cases hm : j ∈ vs
      · rw [if_pos hm, if_pos (this.mpr hm)]
      · rw [if_neg hm, if_neg (fun z => hm (this.mp z))]
theorem wipe_set {σ : Sg} {i : Nat} {o : Option V} {vs : List Nat} (hi : i ∈ vs) : wipe (σ.set i o) vs = wipe σ vs := by
  apply List.ext_getElem?
  intro j
  rw [wipe_at, wipe_at, List.length_set]
  by_cases hj : j ∈ vs
  · rw [if_pos hj, if_pos hj]
  · rw [if_neg hj, if_neg hj, List.getElem?_set_ne (fun z => hj (by rw [← z]; exact hi))]
theorem wipe_wipe {σ : Sg} {vs : List Nat} : wipe (wipe σ vs) vs = wipe σ vs := by
  apply List.ext_getElem?
  intro j
  rw [wipe_at, wipe_at, wipe_length]
  by_cases hj : j ∈ vs
  · rw [if_pos hj, if_pos hj]
  · rw [if_neg hj, if_neg hj]
theorem slots_ok {F H : Hp} {ρ : List Addr} {vs : List Nat} : ∀ {is : List Nat} {ds : List D} {us : List V} {Γ Γ1 : Gam} {σ : Sg} {Q : Sg → Hp → Prop}, (∀ i ∈ is, i ∈ vs) → setAll is ds Γ = some Γ1 → IsL W F ρ ds us → En W Γ σ F ρ →
    (∀ σ2, wipe σ2 vs = wipe σ vs → En W Γ1 σ2 F ρ → Q σ2 H) → gsSlots is us σ H Q
  | [], [], _, _, _, σ, _, _, e, h, en, k => by
    simp only [setAll, Option.some.injEq] at e; subst e
    rw [IsL.nil_iff] at h
    exact ⟨h, k σ rfl en⟩
  | i :: is, d :: ds, _, Γ, Γ1, σ, Q, hi, e, h, en, k => by
    obtain ⟨v, r, rfl, h1, h2⟩ := IsL.cons_iff.mp h
    simp only [setAll] at e
    refine ⟨v, r, rfl, ?_⟩
    refine slots_ok (is := is) (fun j hj => hi j (List.mem_cons_of_mem _ hj)) e h2 (en.set h1) fun σ2 hw en2 => k σ2 ?_ en2
    rw [hw, wipe_set (hi i List.mem_cons_self)]
  | [], _ :: _, _, _, _, _, _, _, e, _, _, _ => by simp [setAll] at e
  | _ :: _, [], _, _, _, _, _, _, e, _, _, _ => by simp [setAll] at e
theorem tgt_ok {F H : Hp} {ρ : List Addr} {M : Stor} {t : Tgt} {d : D} {v : V} {Γ Γ1 : Gam} {σ : Sg} {Q : Sg → Hp → Prop} (rp : Rp W ξ M F H ρ) (e : t.run d Γ = some Γ1) (is : Is W F ρ d v) (en : En W Γ σ F ρ)
    (k : ∀ σ2, wipe σ2 t.slots = wipe σ t.slots → En W Γ1 σ2 F ρ → Q σ2 H) : t.raw W.K v σ H Q := by
  cases t with
  | one i =>
    simp only [Tgt.run, Option.some.injEq] at e; subst e
    exact k _ (wipe_set (by simp [Tgt.slots])) (en.set is)
  | tup js =>
    cases d with
    | tup ds =>
      simp only [Tgt.run] at e
      simp only [Is] at is; obtain ⟨q, us, rfl, hq, hl⟩ := is
      refine ⟨q, us, rfl, rp.sub.sqT hq, ?_, slots_ok (fun _ z => z) e hl en k⟩
      rw [hl.len]
      clear hl hq k rp en
      induction js generalizing ds Γ with
      | nil => cases ds with
        | nil => rfl
        | cons _ _ => simp [setAll] at e
      | cons j js ih => cases ds with
        | nil => simp [setAll] at e
        | cons d ds => simp only [setAll] at e; simp [ih ds e]
    | _ => simp [Tgt.run] at e
abbrev E0 : Sg → XK := fun _ _ _ _ => False
theorem pass_E0 {X : Cx} : Pass X E0 := fun σ pins H s e s' I c => by
  obtain ⟨_, _, _, _, _, _, _, _, _, _, _, _, z⟩ := c
  exact z.elim
theorem ge_comp {elt iter : Expr} {ifs : List Expr} {scope : Scope} {own : List (Str × Nat)} {gi : GI'} {t : Tgt} {tt : GT'} {te : GE'} (hK : X.K = W.K) (hc : X.calm = true) (hN : X.N.Nodup) (hi : GI X W E tg iter gi) (ok : BlkOk X.N X.env.scope scope own) (hsl : own.map (·.2) = t.slots)
    (hg : ∀ (s : Shared) (H : Hp) (C : Addr) (cl : List (Str × Addr)) (fp : List Addr), PG (X.blk s H scope (compEnvC scope cl C X.env) fp) tg (t.raw X.K)) (ht : ∀ (s : Shared) (H : Hp) (C : Addr) (cl : List (Str × Addr)) (fp : List Addr), PTs (X.blk s H scope (compEnvC scope cl C X.env) fp) ifs (tGT W E0 tt))
    (he : ∀ (s : Shared) (H : Hp) (C : Addr) (cl : List (Str × Addr)) (fp : List Addr), GE (X.blk s H scope (compEnvC scope cl C X.env) fp) W E0 elt te) (hs : ∀ x, foldedSetIterable iter X.env x = pure x := by intro _; rfl) :
    GE X W E (.ListComp elt [⟨tg, iter, ifs, 0⟩] scope pos) (gComp gi t tt te) :=
  mE (pe_lc hc hN hi ok hg ht he hs) fun σ H Q ⟨ξ, Γ, M, F, ρ, en, rp, po⟩ => ⟨ξ, Γ, M, F, ρ, en, rp, po.bind.imp (by
    rintro J H0 ⟨q, M0, F0, ρ0, e0, p0, rp0, good, po0⟩
    split at po0
    case isFalse => exact po0.elim
    rename_i k0
    rw [hsl, hK]
    intro DD nD
    have nd : ∀ r ∈ ξ, r.1 ≠ DD := fun r hr => ne_of_none (rp0.xt r hr).1 nD
    have en0 := (en.mono e0 p0).wipes t.slots
    refine ⟨fun i m H => m = q.1.length - i ∧ i ≤ q.1.length ∧ ∃ M F ρ acc vs, Le F0 F ∧ ρ0 <+: ρ ∧ q.2 M ∧ Rp W ((DD, .lst vs) :: ξ) M F H ρ ∧ IsL W F ρ acc vs ∧
        Po W ξ (Is W) F ρ ((compG q.2 t tt te (wipeG Γ t.slots) (q.1.drop i) M acc).bind fun l M2 => .ok (.lst l) M2) Q (E σ),
      ⟨_, rfl, Nat.zero_le _, M0, F0, ρ0, [], [], Le.rfl', List.prefix_refl _, k0, rp0.aside nD, IsL.nil, by simpa using po0⟩, ?_⟩
    rintro i m H1 ⟨rfl, hi, M1, F1, ρ1, acc, vs, le1, p1, k1, rp1, ia, po1⟩
    obtain ⟨g1, g2⟩ := good _ i M1 F1 H1 ρ1 le1 p1 rp1 k1
    by_cases hlt : i < q.1.length
    · right
      have ed : q.1[i]? = some q.1[i] := List.getElem?_eq_getElem hlt
      rw [List.drop_eq_getElem_cons hlt] at po1
      obtain ⟨go, yl⟩ := g1 _ ed
      refine ⟨go, fun H' => ∃ M F ρ acc vs, Le F0 F ∧ ρ0 <+: ρ ∧ q.2 M ∧ Rp W ((DD, .lst vs) :: ξ) M F H' ρ ∧ IsL W F ρ acc vs ∧
          Po W ξ (Is W) F ρ ((compG q.2 t tt te (wipeG Γ t.slots) (q.1.drop (i + 1)) M acc).bind fun l M2 => .ok (.lst l) M2) Q (E σ), fun H' z => ⟨_, by omega, rfl, hlt, z⟩, fun x H' y => ?_⟩
      obtain ⟨F2, le2, rp2, ix⟩ := yl x H' y
      unfold compG at po1
      cases eg : t.run q.1[i] (wipeG Γ t.slots) with
      | none => rw [eg] at po1; exact po1.elim
      | some Γ3 =>
        rw [eg] at po1
        refine tgt_ok rp2 eg ix ((en0.mono le1 p1).mono le2 (List.prefix_refl _)) fun σ2 hw en3 => ⟨by rw [hw, wipe_wipe], _, Γ3, M1, F2, ρ1, en3, rp2, ?_⟩
        simp only at po1
        cases et : tt Γ3 M1 with
        | no => rw [et] at po1; exact po1.elim
        | ex c fs M2 => rw [et] at po1; exact po1.elim
        | ok c M2 =>
          rw [et] at po1
          intro c' F4 ρ4 H4 le4 p4 rp4 ec
          cases (show c = c' from ec)
          cases c with
          | false =>
            simp only at po1
            split at po1
            · rename_i k4
              refine iteF ⟨M2, F4, ρ4, acc, vs, le1.tr (le2.tr le4), p1.trans p4, k4, rp4, ia.mono (le2.tr le4) p4, po1.mono (le2.tr le4) p4⟩
            · exact po1.elim
          | true =>
            simp only at po1
            refine iteT ⟨_, Γ3, M2, F4, ρ4, en3.mono le4 p4, rp4, ?_⟩
            cases ee : te Γ3 M2 with
            | no => rw [ee] at po1; exact po1.elim
            | ex c fs M3 => rw [ee] at po1; exact po1.elim
            | ok y M3 =>
              rw [ee] at po1
              simp only at po1
              split at po1
              · rename_i k5
                intro vy F5 ρ5 H5 le5 p5 rp5 iy
                have ia5 := ia.mono (le2.tr (le4.tr le5)) (p4.trans p5)
                refine ⟨vs, (rp5.xt _ List.mem_cons_self).1, ?_, M3, F5, ρ5, acc ++ [y], vs ++ [vy], le1.tr (le2.tr (le4.tr le5)), p1.trans (p4.trans p5), k5.1, rp5.aset nd, ia5.append (IsL.cons iy IsL.nil), po1.mono (le2.tr (le4.tr le5)) (p4.trans p5)⟩
                rw [ia5.len, sizeLine_eq]; have := k5.2; omega
              · exact po1.elim
    · left
      have hi' : i = q.1.length := by omega
      refine ⟨g2 (by omega), ?_⟩
      subst hi'
      rw [List.drop_length] at po1
      obtain ⟨rp2, le2⟩ := rp1.firmD nd
      refine po1 (.ref DD) _ ρ1 H1 le2 (List.prefix_refl _) rp2 ?_
      simp only [Is]
      exact ⟨DD, vs, rfl, upd_same, ia.mono le2 (List.prefix_refl _)⟩)⟩
end
end G

namespace G
open PySem PySem.Spec PyProof.Rows L2
/-! ### an int and an own thing: the int's operator declines, the thing's reflected one answers -/
theorem dec_add (a : Int) (t : Tok) (l : Addr) (C dx : Addr) : Meets (Builtin.«int.__add__» ⟨[.int a t, .ref l], []⟩) (fun _ R s => s.heap.get? l = some (PySem.W.instObj C dx) ∧ R (.ok (.ret .notImplemented)) s) :=
  .of_wp fun prog w A R s h => by obtain ⟨hp, g, d, tk, os⟩ := s; obtain ⟨hl, h⟩ := h; wp_walk using wpAny_loadPart' hl, wpAny_load hl; exact ⟨_, rfl, h⟩
theorem dec_sub (a : Int) (t : Tok) (l : Addr) (C dx : Addr) : Meets (Builtin.«int.__sub__» ⟨[.int a t, .ref l], []⟩) (fun _ R s => s.heap.get? l = some (PySem.W.instObj C dx) ∧ R (.ok (.ret .notImplemented)) s) :=
  .of_wp fun prog w A R s h => by obtain ⟨hp, g, d, tk, os⟩ := s; obtain ⟨hl, h⟩ := h; wp_walk using wpAny_loadPart' hl, wpAny_load hl; exact ⟨_, rfl, h⟩
theorem dec_mul (a : Int) (t : Tok) (l : Addr) (C dx : Addr) : Meets (Builtin.«int.__mul__» ⟨[.int a t, .ref l], []⟩) (fun _ R s => s.heap.get? l = some (PySem.W.instObj C dx) ∧ R (.ok (.ret .notImplemented)) s) :=
  .of_wp fun prog w A R s h => by obtain ⟨hp, g, d, tk, os⟩ := s; obtain ⟨hl, h⟩ := h; wp_walk using wpAny_loadPart' hl, wpAny_load hl; exact ⟨_, rfl, h⟩
theorem dec_floordiv (a : Int) (t : Tok) (l : Addr) (C dx : Addr) : Meets (Builtin.«int.__floordiv__» ⟨[.int a t, .ref l], []⟩) (fun _ R s => s.heap.get? l = some (PySem.W.instObj C dx) ∧ R (.ok (.ret .notImplemented)) s) :=
  .of_wp fun prog w A R s h => by obtain ⟨hp, g, d, tk, os⟩ := s; obtain ⟨hl, h⟩ := h; wp_walk using wpAny_loadPart' hl, wpAny_load hl; exact ⟨_, rfl, h⟩
theorem dec_mod (a : Int) (t : Tok) (l : Addr) (C dx : Addr) : Meets (Builtin.«int.__mod__» ⟨[.int a t, .ref l], []⟩) (fun _ R s => s.heap.get? l = some (PySem.W.instObj C dx) ∧ R (.ok (.ret .notImplemented)) s) :=
  .of_wp fun prog w A R s h => by obtain ⟨hp, g, d, tk, os⟩ := s; obtain ⟨hl, h⟩ := h; wp_walk using wpAny_loadPart' hl, wpAny_load hl; exact ⟨_, rfl, h⟩
section
variable {prog : Program} {w : World} {A : Around} {E : Value → Shared → Prop} {s : Shared} {K : PySem.W.Frag} {x C f f0 : Addr} {ox : Obj} {od : Option Obj} {nm idl : String} {i : Int} {t : Tok} {b : Value}
open PySem.W in
theorem bin1_right {Q : Value → Shared → Prop} (X : K.In s.heap) (I : InstAt s.heap x ox C od) (hc : selfFirst K C = true) (hs : findIn K (.ref C) (dunder nm) = some (some (.ref f0))) (hr : findIn K (.ref C) (dunderR nm) = some (some (.ref f))) (hf : isFn K (.ref f) = true)
    (hsub : subIn K (.ref C) (.type "int") = some false) (fl : fillsNumberSlot (.type "int") nm = pure true) (sl : Slot "int" (dunder nm) idl)
    (hd : ∀ Q' : Value → Shared → Prop, Q' .notImplemented s → wpAny (model prog w) A (call (.builtin idl) [.int i t, .ref x]) Q' E s)
    (h : wpAny (model prog w) A (call (.ref f) [.ref x, .int i t]) (PySem.W.CmpBack Q) E s) : wpAny (model prog w) A (binaryOp1 nm (.int i t) (.ref x)) (fun r s' => ∃ v, r = some v ∧ Q v s') E s := by
  obtain ⟨cd, rest, hcd, hm⟩ := ksp_first hc
  have one := ksp_try X I hr hf h
  have dec : ∀ Q' : Option Value → Shared → Prop, Q' none s → wpAny (model prog w) A (tryMethod (.int i t) (dunder nm) (.ref x)) Q' E s := fun Q' q => wpAny_tryMethod_declines (typeIs_int s i t) sl (hd _ ⟨rfl, q⟩)
  obtain ⟨hh, g, d, tt, os⟩ := s
  have L1 : Looks (model prog w) hh (typeOf (.int i t)) (.type "int") := Looks.of_pure rfl
  have L2 : Looks (model prog w) hh (typeOf (.ref x)) (.ref C) := I.type
  have L3 : Looks (model prog w) hh (fillsNumberSlot (.type "int") nm) true := Looks.of_pure fl
  have L4 : Looks (model prog w) hh (fillsNumberSlot (.ref C) nm) true := fills_K X hcd hm hs
  have L5 : Looks (model prog w) hh (isSubtype (.ref C) (.type "int")) false := looks_subIn X hsub
  have L6 : Looks (model prog w) hh (numberSlotInPython (.type "int") nm) false := Looks.of_pure rfl
  have hne : (Value.type "int" == Value.ref C) = false := Bool.eq_false_iff.mpr fun q => by cases beq_iff_eq.mp q
  unfold binaryOp1
  refine wpAny_bind (L1.at (wpAny_bind (L2.at (wpAny_bind (L3.at ?_)))))
  simp only [hne, Bool.false_eq_true, if_false]
  ksp_lk
  refine dec _ ?_
  ksp_lk
  refine wpAny_mono one (fun r s' hr' => ?_) fun _ _ e => e
  obtain ⟨v, rfl, hq⟩ := hr'
  ksp_lk
  exact ⟨v, rfl, hq⟩
open PySem.W in
theorem bin1_left {Q : Value → Shared → Prop} {rc : Addr} (X : K.In s.heap) (I : InstAt s.heap x ox C od) (hc : selfFirst K C = true) (hs : findIn K (.ref C) (dunder nm) = some (some (.ref f))) (hf : isFn K (.ref f) = true) (hr : findIn K (.ref C) (dunderR nm) = some (some (.ref rc)))
    (hsub : subIn K (.type "int") (.ref C) = some false) (fl : fillsNumberSlot (.type "int") nm = pure true) {ro : Option Value} (h2 : findIn K (.type "int") (dunderR nm) = some ro)
    (h : wpAny (model prog w) A (call (.ref f) [.ref x, .int i t]) (PySem.W.CmpBack Q) E s) : wpAny (model prog w) A (binaryOp1 nm (.ref x) (.int i t)) (fun r s' => ∃ v, r = some v ∧ Q v s') E s := by
  obtain ⟨cd, rest, hcd, hm⟩ := ksp_first hc
  have one := ksp_try X I hs hf h
  obtain ⟨hh, g, d, tt, os⟩ := s
  have L1 : Looks (model prog w) hh (typeOf (.int i t)) (.type "int") := Looks.of_pure rfl
  have L2 : Looks (model prog w) hh (typeOf (.ref x)) (.ref C) := I.type
  have L3 : Looks (model prog w) hh (fillsNumberSlot (.type "int") nm) true := Looks.of_pure fl
  have L4 : Looks (model prog w) hh (fillsNumberSlot (.ref C) nm) true := fills_K X hcd hm hs
  have L5 : Looks (model prog w) hh (isSubtype (.type "int") (.ref C)) false := looks_subIn X hsub
  have L6 : Looks (model prog w) hh (numberSlotInPython (.type "int") nm) false := Looks.of_pure rfl
  have L7 : Looks (model prog w) hh (numberSlotInPython (.ref C) nm) true := ksp_inPy X hs hr (.inr ⟨rc, rfl⟩)
  have L8 : Looks (model prog w) hh (typeLookup (.type "int") (dunderR nm)) ro := looks_findIn X h2
  have hne : (Value.ref C == Value.type "int") = false := Bool.eq_false_iff.mpr fun q => by cases beq_iff_eq.mp q
  unfold binaryOp1
  refine wpAny_bind (L2.at (wpAny_bind (L1.at (wpAny_bind (L4.at ?_)))))
  simp only [hne, Bool.false_eq_true, if_false]
  ksp_lk
  refine wpAny_mono one (fun r s' hr' => ?_) fun _ _ e => e
  obtain ⟨v, rfl, hq⟩ := hr'
  ksp_lk
  exact ⟨v, rfl, hq⟩
open PySem.W in
theorem bin1_same {y : Addr} {oy : Obj} {oe : Option Obj} {Q : Value → Shared → Prop} (X : K.In s.heap) (I : InstAt s.heap x ox C od) (J : InstAt s.heap y oy C oe) (hc : selfFirst K C = true) (hs : findIn K (.ref C) (dunder nm) = some (some (.ref f))) (hf : isFn K (.ref f) = true)
    (h : wpAny (model prog w) A (call (.ref f) [.ref x, .ref y]) (PySem.W.CmpBack Q) E s) : wpAny (model prog w) A (binaryOp1 nm (.ref x) (.ref y)) (fun r s' => ∃ v, r = some v ∧ Q v s') E s := by
  obtain ⟨cd, rest, hcd, hm⟩ := ksp_first hc
  have one := ksp_try X I hs hf h
  obtain ⟨hh, g, d, tt, os⟩ := s
  have L1 : Looks (model prog w) hh (typeOf (.ref y)) (.ref C) := J.type
  have L2 : Looks (model prog w) hh (typeOf (.ref x)) (.ref C) := I.type
  have L4 : Looks (model prog w) hh (fillsNumberSlot (.ref C) nm) true := fills_K X hcd hm hs
  unfold binaryOp1
  refine wpAny_bind (L2.at (wpAny_bind (L1.at (wpAny_bind (L4.at ?_)))))
  simp only [beq_self_eq_true, if_true]
  ksp_lk
  refine wpAny_mono one (fun r s' hr' => ?_) fun _ _ e => e
  obtain ⟨v, rfl, hq⟩ := hr'
  ksp_lk
  exact ⟨v, rfl, hq⟩
/-- the whole operator, by its first part -/
theorem bin_of1 {op : Operator} {a b : Value} {Q : Value → Shared → Prop} (h : wpAny (model prog w) A (binaryOp1 op.info.2 a b) (fun r s' => ∃ v, r = some v ∧ Q v s') E s) : wpAny (model prog w) A (binaryOp op a b) Q E s := by
  rcases hi : op.info with ⟨sym, nm'⟩
  rw [hi] at h
  simp only [binaryOp, hi]
  refine wpAny_holding (wpAny_bind (wpAny_mono h (fun r s' hr' => ?_) fun _ _ e => e))
  obtain ⟨v, rfl, hq⟩ := hr'
  exact wpAny_pure hq
open PySem.W in
/-- x op= b where the class has no own __iop__ -/
theorem inpl_of1 {op : Operator} {Q : Value → Shared → Prop} (X : K.In s.heap) (I : InstAt s.heap x ox C od) {cd : ClassData} (hcd : clsIn K C = some cd) (hm : cd.mro = [.ref C, .type "object"]) (hi1 : findIn K (.ref C) (dunderI op.info.2) = some none) (hi2 : findIn K (.type "object") (dunderI op.info.2) = some none)
    (h : wpAny (model prog w) A (binaryOp1 op.info.2 (.ref x) b) (fun r s' => ∃ v, r = some v ∧ Q v s') E s) : wpAny (model prog w) A (inplaceOp op (.ref x) b) Q E s := by
  obtain ⟨hh, g, d, tt, os⟩ := s
  have L1 : Looks (model prog w) hh (typeOf (.ref x)) (.ref C) := I.type
  have L2 : Looks (model prog w) hh (fillsInplaceSlot (.ref C) op.info.2 (op == .Add)) false := by
    intro A' Q' E' s' k' q
    have Lm : Looks (model prog w) hh (mroOf (.ref C)) cd.mro := (looks_clsIn X hcd).andThen (f := fun cd => pure cd.mro) .now
    have Lm' := Lm.keeps k'
    obtain ⟨hh', g', d', tt', os'⟩ := s'
    have X' : K.In hh' := X.keeps k'
    have M1 : Looks (model prog w) hh' (typeLookup (.ref C) (dunderI op.info.2)) none := looks_findIn X' hi1
    have M2 : Looks (model prog w) hh' (typeLookup (.type "object") (dunderI op.info.2)) none := looks_findIn X' hi2
    unfold fillsInplaceSlot
    refine wpAny_bind (Lm'.at ?_)
    rw [hm, List.anyM_cons]
    refine wpAny_bind ?_
    repeat lk
    exact q
  unfold inplaceOp
  refine wpAny_holding ?_
  refine wpAny_bind (L1.at ?_)
  refine wpAny_bind (L2.at ?_)
  simp only [Bool.false_eq_true, if_false]
  refine wpAny_bind (wpAny_mono h (fun r s' hr' => ?_) fun _ _ e => e)
  obtain ⟨v, rfl, hq⟩ := hr'
  exact wpAny_pure hq
/-- n op= b where b is an own thing -/
theorem inpl_int {op : Operator} {Q : Value → Shared → Prop} (noI : typeLookup (.type "int") (dunderI op.info.2) = pure none)
    (h : wpAny (model prog w) A (binaryOp1 op.info.2 (.int i t) b) (fun r s' => ∃ v, r = some v ∧ Q v s') E s) : wpAny (model prog w) A (inplaceOp op (.int i t) b) Q E s := by
  unfold inplaceOp
  refine wpAny_holding ?_
  have e1 : typeOf (.int i t) = pure (.type "int") := rfl
  have e2 : fillsInplaceSlot (.type "int") op.info.2 (op == .Add) = pure false := by
    unfold fillsInplaceSlot
    simp only [noI]
    rfl
  rw [e1]
  refine wpAny_bind (wpAny_pure ?_)
  rw [e2]
  refine wpAny_bind (wpAny_pure ?_)
  simp only [Bool.false_eq_true, if_false]
  refine wpAny_bind (wpAny_mono h (fun r s' hr' => ?_) fun _ _ e => e)
  obtain ⟨v, rfl, hq⟩ := hr'
  exact wpAny_pure hq
end
end G

namespace G
open PySem PySem.Spec PyProof.Rows L2
/-! ### operators of own classes -/
structure OpC (K : PySem.W.Frag) (C : Addr) (nm : String) (f fr : Addr) : Prop where
  sf : PySem.W.selfFirst K C = true
  hs : PySem.W.findIn K (.ref C) (dunder nm) = some (some (.ref f))
  hf : PySem.W.isFn K (.ref f) = true
  hr : PySem.W.findIn K (.ref C) (dunderR nm) = some (some (.ref fr))
  hfr : PySem.W.isFn K (.ref fr) = true
  s1 : PySem.W.subIn K (.ref C) (.type "int") = some false
  s2 : PySem.W.subIn K (.type "int") (.ref C) = some false
  ir : ∃ ro, PySem.W.findIn K (.type "int") (dunderR nm) = some ro
structure IpC (K : PySem.W.Frag) (C : Addr) (nm : String) : Prop where
  mro : ∃ cd, PySem.W.clsIn K C = some cd ∧ cd.mro = [.ref C, .type "object"]
  i1 : PySem.W.findIn K (.ref C) (dunderI nm) = some none
  i2 : PySem.W.findIn K (.type "object") (dunderI nm) = some none
/-- an int's own operator, beside an own thing -/
structure IntDec (nm : String) : Prop where
  fl : fillsNumberSlot (.type "int") nm = pure true
  noI : typeLookup (.type "int") (dunderI nm) = pure none
  dec : ∃ idl, Slot "int" (dunder nm) idl ∧ ∀ (prog : Program) (w : World) (A : Around) (E : Value → Shared → Prop) (s : Shared) (i : Int) (t : Tok) (x C dx : Addr) (Q' : Value → Shared → Prop),
    s.heap.get? x = some (PySem.W.instObj C dx) → Q' .notImplemented s → wpAny (model prog w) A (call (.builtin idl) [.int i t, .ref x]) Q' E s
theorem intdec_add : IntDec "add" := ⟨F.fills_int_add, F.noI_int_add, _, F.slot_int_add, fun _ _ _ _ s i t x C dx Q' h q => call_meets F.slot_int_add (typeIs_int s i t) F.entry_int_add (F.args_int_add_2 _ _) (dec_add i t x C dx) ⟨h, q⟩⟩
theorem intdec_sub : IntDec "sub" := ⟨F.fills_int_sub, F.noI_int_sub, _, F.slot_int_sub, fun _ _ _ _ s i t x C dx Q' h q => call_meets F.slot_int_sub (typeIs_int s i t) F.entry_int_sub (F.args_int_sub_2 _ _) (dec_sub i t x C dx) ⟨h, q⟩⟩
theorem intdec_mul : IntDec "mul" := ⟨F.fills_int_mul, F.noI_int_mul, _, F.slot_int_mul, fun _ _ _ _ s i t x C dx Q' h q => call_meets F.slot_int_mul (typeIs_int s i t) F.entry_int_mul (F.args_int_mul_2 _ _) (dec_mul i t x C dx) ⟨h, q⟩⟩
theorem intdec_floordiv : IntDec "floordiv" := ⟨F.fills_int_floordiv, F.noI_int_floordiv, _, F.slot_int_floordiv, fun _ _ _ _ s i t x C dx Q' h q => call_meets F.slot_int_floordiv (typeIs_int s i t) F.entry_int_floordiv (F.args_int_floordiv_2 _ _) (dec_floordiv i t x C dx) ⟨h, q⟩⟩
theorem intdec_mod : IntDec "mod" := ⟨F.fills_int_mod, F.noI_int_mod, _, F.slot_int_mod, fun _ _ _ _ s i t x C dx Q' h q => call_meets F.slot_int_mod (typeIs_int s i t) F.entry_int_mod (F.args_int_mod_2 _ _) (dec_mod i t x C dx) ⟨h, q⟩⟩
section
variable {X : Cx} {W : Wd} {ξ : Xi} {E : Sg → XK} {a b e o tg : Expr} {es : List Expr} {ga gb : GE'} {gs : GA'} {pos pos' p2 p : Pos} {x : Str}
theorem rel_ref (p : Addr) : RelV (.ref p) (.ref p) := rfl
theorem back_of {pins : List (Addr × Obj)} {σ : Sg} {Q : VK} {u : Value} {s' : Shared} (h : EP X pins σ Q u s') : PySem.W.CmpBack (EP X pins σ Q) u s' := by
  obtain ⟨v, H', I, r, q⟩ := h
  have : EP X pins σ Q u s' := ⟨v, H', I, r, q⟩
  cases v with
  | non => cases r; exact this
  | bl b => cases r; exact this
  | int i => obtain ⟨t, rfl⟩ := r; exact this
  | str x => obtain ⟨t, rfl⟩ := r; exact this
  | byt x => obtain ⟨t, rfl⟩ := r; exact this
  | flt x => obtain ⟨t, rfl⟩ := r; exact this
  | ref a => cases r; exact this
  | ty n => cases r; exact this
/-- an instance as the model sees it -/
theorem inst_of {pins : List (Addr × Obj)} {σ : Sg} {H : Hp} {s : Shared} {q C dx : Addr} {fvs : List (Str × V)} (I : Inv X pins σ H s) (h : H q = some (.ins C dx fvs)) :
    ∃ od, PySem.W.InstAt s.heap q (PySem.W.instObj C dx) C (some od) ∧ s.heap.get? q = some (PySem.W.instObj C dx) := by
  obtain ⟨mA, O, _⟩ := ins_get I.hok h
  obtain ⟨od, J, _⟩ := O.look
  obtain ⟨_, _, _, e, _⟩ := I.hok q _ h
  exact ⟨od, J, e⟩
def own2 (c : Nat) (g gr : List D → Stor → R D) : D → D → Stor → R D := fun x y M => match insOf x M with
  | some (c1, _) => if c1 = c then (match y with
    | .int _ => g [x, y] M
    | y => (match insOf y M with
      | some (c2, _) => if c2 = c then g [x, y] M else .no
      | none => .no)) else .no
  | none => (match x with
    | .int _ => (match insOf y M with
      | some (c2, _) => if c2 = c then gr [y, x] M else .no
      | none => .no)
    | _ => .no)
theorem own_core {c : Nat} {f fr : Addr} {g gr : List D → Stor → R D} {nm : String} (O : OpC X.K (W.T c) nm f fr) (Z : IntDec nm) (hg : CallG X W E (.ref f) g) (hgr : CallG X W E (.ref fr) gr)
    {pins : List (Addr × Obj)} {s : Shared} {σ : Sg} {H : Hp} {M : Stor} {F : Hp} {ρ : List Addr} {x y : D} {vx vy : V} {ux uy : Value} {Q : VK}
    (I : Inv X pins σ H s) (rx : RelV vx ux) (ry : RelV vy uy) (rp : Rp W ξ M F H ρ) (ix : Is W F ρ x vx) (iy : Is W F ρ y vy) (po : Po W ξ (Is W) F ρ (own2 c g gr x y M) Q (E σ)) :
    wpAny (model X.prog X.w) X.A (binaryOp1 nm ux uy) (fun r s' => ∃ v, r = some v ∧ EP X pins σ Q v s') X.xe s := by
  unfold own2 at po
  split at po
  · rename_i c1 l ex
    split at po
    · rename_i hc
      subst hc
      obtain ⟨p, dx, fvs, rfl, hp, _, _⟩ := insOf_ok rp ix ex
      cases rx
      obtain ⟨od, J, _⟩ := inst_of I hp
      split at po
      · rename_i j
        have iy' := iy
        simp only [Is] at iy'; subst iy'
        obtain ⟨t, rfl⟩ := id ry
        obtain ⟨ro, ir⟩ := O.ir
        exact bin1_left I.kIn J O.sf O.hs O.hf O.hr O.s2 Z.fl ir (thn (hg ξ pins s σ H M F ρ _ _ _ Q I (.cons (rel_ref p) (.cons ry .nil)) rp (IsL.cons ix (IsL.cons iy IsL.nil)) po) fun _ _ z => back_of z)
      · split at po
        · rename_i c2 l2 ey
          split at po
          · rename_i hc2
            subst hc2
            obtain ⟨q, dy, gvs, rfl, hq, _, _⟩ := insOf_ok rp iy ey
            cases ry
            obtain ⟨oe, J2, _⟩ := inst_of I hq
            exact bin1_same I.kIn J J2 O.sf O.hs O.hf (thn (hg ξ pins s σ H M F ρ _ _ _ Q I (.cons (rel_ref p) (.cons (rel_ref q) .nil)) rp (IsL.cons ix (IsL.cons iy IsL.nil)) po) fun _ _ z => back_of z)
          · exact po.elim
        · exact po.elim
    · exact po.elim
  · split at po
    · rename_i j _
      split at po
      · rename_i c2 l2 ey
        split at po
        · rename_i hc2
          subst hc2
          obtain ⟨q, dy, gvs, rfl, hq, _, _⟩ := insOf_ok rp iy ey
          cases ry
          have ix' := ix
          simp only [Is] at ix'; subst ix'
          obtain ⟨t, rfl⟩ := id rx
          obtain ⟨oe, J2, e2⟩ := inst_of I hq
          obtain ⟨idl, sl, dec⟩ := Z.dec
          exact bin1_right I.kIn J2 O.sf O.hs O.hr O.hfr O.s1 Z.fl sl (fun Q' q' => dec _ _ _ _ s j t q _ dy Q' e2 q')
            (thn (hgr ξ pins s σ H M F ρ _ _ _ Q I (.cons (rel_ref q) (.cons rx .nil)) rp (IsL.cons iy (IsL.cons ix IsL.nil)) po) fun _ _ z => back_of z)
        · exact po.elim
      · exact po.elim
    · exact po.elim
theorem og_own {c : Nat} {f fr : Addr} {g gr : List D → Stor → R D} {op : Operator} (O : OpC X.K (W.T c) op.info.2 f fr) (Z : IntDec op.info.2) (hg : CallG X W E (.ref f) g) (hgr : CallG X W E (.ref fr) gr) :
    OpG X W E (binaryOp op) (own2 c g gr) := fun ξ pins s σ H M F ρ x y vx vy ux uy Q I rx ry rp ix iy po => bin_of1 (own_core O Z hg hgr I rx ry rp ix iy po)
theorem og_iown {c : Nat} {f fr : Addr} {g gr : List D → Stor → R D} {op : Operator} (O : OpC X.K (W.T c) op.info.2 f fr) (Z : IntDec op.info.2) (Ip : IpC X.K (W.T c) op.info.2) (hg : CallG X W E (.ref f) g) (hgr : CallG X W E (.ref fr) gr) :
    OpG X W E (inplaceOp op) (own2 c g gr) := fun ξ pins s σ H M F ρ x y vx vy ux uy Q I rx ry rp ix iy po => by
  have core := own_core O Z hg hgr I rx ry rp ix iy po
  cases ex : insOf x M with
  | some q =>
    obtain ⟨c1, l⟩ := q
    have hc : c1 = c := by
      unfold own2 at po
      rw [ex] at po
      simp only at po
      split at po
      · assumption
      · exact po.elim
    subst hc
    obtain ⟨p, dx, fvs, rfl, hp, _, _⟩ := insOf_ok rp ix ex
    cases rx
    obtain ⟨od, J, _⟩ := inst_of I hp
    obtain ⟨cd, h1, h2⟩ := Ip.mro
    exact inpl_of1 I.kIn J h1 h2 Ip.i1 Ip.i2 core
  | none =>
    have hx : ∃ j, x = .int j := by
      unfold own2 at po
      rw [ex] at po
      simp only at po
      split at po
      · exact ⟨_, rfl⟩
      · exact po.elim
    obtain ⟨j, rfl⟩ := hx
    simp only [Is] at ix; subst ix
    obtain ⟨t, rfl⟩ := rx
    exact inpl_int Z.noI core
/-- one thing: -x, ~x -/
def own1 (c : Nat) (g : List D → Stor → R D) : D → Stor → R D := fun x M => match insOf x M with
  | some (c1, _) => if c1 = c then g [x] M else .no
  | none => .no
theorem ug_neg {c : Nat} {f : Addr} {g : List D → Stor → R D} (hs : PySem.W.findIn X.K (.ref (W.T c)) "__neg__" = some (some (.ref f))) (hf : PySem.W.isFn X.K (.ref f) = true) (hg : CallG X W E (.ref f) g) : UnG X W E (unaryOp .USub) (own1 c g) :=
  fun ξ pins s σ H M F ρ x vx ux Q I rx rp ix po => by
    unfold own1 at po
    split at po
    · rename_i c1 l ex
      split at po
      · rename_i hc
        subst hc
        obtain ⟨p, dx, fvs, rfl, hp, _, _⟩ := insOf_ok rp ix ex
        cases rx
        obtain ⟨od, J, _⟩ := inst_of I hp
        obtain ⟨m, fr⟩ := I.fr
        exact PySem.W.ksp_neg fr I.mod.kin J hs hf (hg ξ pins s σ H M F ρ _ _ _ Q I (.cons (rel_ref p) .nil) rp (IsL.cons ix IsL.nil) po)
      · exact po.elim
    · exact po.elim
theorem ug_inv {c : Nat} {f : Addr} {g : List D → Stor → R D} (hs : PySem.W.findIn X.K (.ref (W.T c)) "__invert__" = some (some (.ref f))) (hf : PySem.W.isFn X.K (.ref f) = true) (hg : CallG X W E (.ref f) g) : UnG X W E (unaryOp .Invert) (own1 c g) :=
  fun ξ pins s σ H M F ρ x vx ux Q I rx rp ix po => by
    unfold own1 at po
    split at po
    · rename_i c1 l ex
      split at po
      · rename_i hc
        subst hc
        obtain ⟨p, dx, fvs, rfl, hp, _, _⟩ := insOf_ok rp ix ex
        cases rx
        obtain ⟨od, J, _⟩ := inst_of I hp
        obtain ⟨m, fr⟩ := I.fr
        exact PySem.W.ksp_inv fr I.mod.kin J hs hf (hg ξ pins s σ H M F ρ _ _ _ Q I (.cons (rel_ref p) .nil) rp (IsL.cons ix IsL.nil) po)
      · exact po.elim
    · exact po.elim
def dNegI : D → Stor → R D := fun x M => match x with
  | .int i => .ok (.int (-i)) M
  | _ => .no
theorem ug_negI : UnG X W E (unaryOp .USub) dNegI := UnG.of un_neg fun ξ M F H ρ x vx Q Z rp ix po => by
  unfold dNegI at po
  split at po
  · rename_i i
    simp only [Is] at ix; subst ix
    exact ⟨i, rfl, po.now rp (flat_int F ρ)⟩
  · exact po.elim
/-! ### a built-in that asks an own method one room deeper: abs(x) -/
abbrev Cx.in1 (X : Cx) : Cx := { X with A := X.A.in1 }
theorem inv_in1 {pins : List (Addr × Obj)} {σ : Sg} {H : Hp} {s : Shared} (I : Inv X pins σ H s) : Inv (Cx.in1 X) pins σ H s :=
  ⟨⟨I.ok.mod, I.ok.kind, I.ok.glob, I.ok.blt, I.ok.above, I.ok.inj, I.ok.has, I.ok.cab, I.ok.hd, I.ok.frames, I.ok.stk, I.ok.exf, I.ok.bs, I.ok.bsz, I.ok.noex, I.ok.exfs, I.ok.funs, I.ok.frf⟩, I.os, I.bare, I.base, I.loc, I.cell, I.free, I.freeC, I.pin, I.hok, I.len⟩
theorem inv_out1 {pins : List (Addr × Obj)} {σ : Sg} {H : Hp} {s : Shared} (I : Inv (Cx.in1 X) pins σ H s) : Inv X pins σ H s :=
  ⟨⟨I.ok.mod, I.ok.kind, I.ok.glob, I.ok.blt, I.ok.above, I.ok.inj, I.ok.has, I.ok.cab, I.ok.hd, I.ok.frames, I.ok.stk, I.ok.exf, I.ok.bs, I.ok.bsz, I.ok.noex, I.ok.exfs, I.ok.funs, I.ok.frf⟩, I.os, I.bare, I.base, I.loc, I.cell, I.free, I.freeC, I.pin, I.hok, I.len⟩
theorem pass_in1 (h : Pass X E) : Pass (Cx.in1 X) E := fun σ pins H s e s' I c => h σ pins H s e s' (inv_out1 I) c
def fAbsO (c : Nat) (g : List D → Stor → R D) : List D → Stor → R D := fun ds M => match ds with
  | [x] => own1 c g x M
  | _ => .no
theorem cg_absO {c : Nat} {f : Addr} {g : List D → Stor → R D} (hs : PySem.W.findIn X.K (.ref (W.T c)) "__abs__" = some (some (.ref f))) (hf : PySem.W.isFn X.K (.ref f) = true) (hg : CallG (Cx.in1 X) W E (.ref f) g) : CallG X W E (.builtin "abs") (fAbsO c g) :=
  fun ξ pins s σ H M F ρ ds vs us Q I rv rp is po => by
    unfold fAbsO at po
    split at po
    · rename_i x
      obtain ⟨v, rfl, ix⟩ := one_of is
      unfold own1 at po
      split at po
      · rename_i c1 l ex
        split at po
        · rename_i hc
          subst hc
          obtain ⟨p, dx, fvs, rfl, hp, _, _⟩ := insOf_ok rp ix ex
          obtain ⟨u, rfl, ru⟩ := vals1 rv
          cases ru
          obtain ⟨od, J, _⟩ := inst_of I hp
          refine Calls.call_function_entry kind_abs plain_abs entry_abs (args_abs _) ?_
          unfold Builtin.«abs»
          refine wpAny_bind (m := oneArg "abs" _) (wpAny_pure ?_)
          refine wpAny_bind (PySem.W.special_fn I.kIn J hs (beq_iff_eq.mp hf) ?_)
          refine wpAny_mono (hg ξ pins s σ H M F ρ _ _ _ Q (inv_in1 I) (.cons (rel_ref p) .nil) rp (IsL.cons ix IsL.nil) po) ?_ fun _ _ z => z
          rintro r s' ⟨w', H', I', rw', q'⟩
          exact wpAny_pure ⟨_, rfl, ⟨w', H', inv_out1 I', rw', q'⟩⟩
        · exact po.elim
      · exact po.elim
    · exact po.elim
end
end G

namespace G
open PySem PySem.Spec PyProof.Rows L2
section
variable {X : Cx} {W : Wd} {ξ : Xi} {E : Sg → XK} {a b e o tg : Expr} {es : List Expr} {ga gb : GE'} {gs : GA'} {pos pos' p2 p apos : Pos} {x : Str}
/-! ### C.m(..), m a staticmethod of the class C -/
structure SMet (K : PySem.W.Frag) (C : Addr) (m : Str) (f : Addr) : Prop where
  rd : PySem.W.readsIn K C (.type "type") = true
  ga : PySem.W.specialIn K (.ref C) "__getattribute__" = some (some (.builtin "type.__getattribute__"))
  at_ : ∃ q rest, PySem.W.findCls K (.ref C) (.type "type") m = some (.get (.builtin "staticmethod.__get__") (.ref q) .none (.ref C)) ∧ PySem.W.recIn K q "staticmethod" = some (.ref f :: rest)
  kp : PySem.W.keepIn K (.ref f) = true
theorem smet_get {m : Str} {C f : Addr} {pins : List (Addr × Obj)} {s : Shared} {σ : Sg} {H : Hp} {pl : Sem Bool} {A : Around} {Z : Value → Shared → Prop} {Q : Value × List Value → Shared → Prop} (I : Inv X pins σ H s) (k : SMet X.K C m f) (h : Q (.ref f, []) { s with toks := s.toks + 1 }) :
    wpAny (model X.prog X.w) A (getMethod (.ref C) m pl) Q Z s := by
  obtain ⟨q, rest, h1, h2⟩ := k.at_
  refine PySem.W.method_cls I.kIn k.ga (PySem.W.cls_bind I.kIn k.rd h1 ?_)
  exact wpAny_call (PySem.W.sm_get (s := { s with toks := s.toks + 1 }) I.kIn h2 (PySem.W.handed_on rfl h))
theorem ge_smeth {m : Str} {c : Nat} {f : Addr} {g : List D → Stor → R D} {pl : Sem Bool} (hc : CallG X W E (.ref f) g) (k : SMet X.K (W.T c) m f) (ho : GE X W E o (gC (.cls c))) (ha : GA X W E (e :: es) gs)
    (he : starEach (e :: es) X.env = (false, eval e X.env) :: starEach es X.env := by rfl) (hpl : (backTo pos (starEach es X.env)).any (·.1) = false := by rfl)
    (ht : eval (.Call (.Attribute o m apos) (e :: es) [] pos) X.env = (do
      let ov ← eval o X.env
      standAt apos.atName
      let (f, first) ← holding [ov] (getMethod ov m pl)
      callWith pos f first (backTo pos (starEach (e :: es) X.env)) (backToKw pos (keywordEach [] X.env))) := by rfl) : GE X W E (.Call (.Attribute o m apos) (e :: es) [] pos) (gCall g gs) := by
  refine ⟨fun pins s σ H Q I ⟨ξ, Γ, M, F, ρ, en, rp, po⟩ => ?_⟩
  refine PySem.W.methodCall_KW (pl := pl) (thn (ho.run pins s σ H (fun v H1 => v = .ref (W.T c) ∧ ∃ F1 ρ1, Le F F1 ∧ ρ <+: ρ1 ∧ Rp W ξ M F1 H1 ρ1) I ⟨ξ, Γ, M, F, ρ, en, rp, fun v F1 ρ1 H1 le pr rp1 is => ⟨by simpa only [Is] using is, F1, ρ1, le, pr, rp1⟩⟩) ?_) ht
  rintro u s1 ⟨v, H1, I1, r1, rfl, F1, ρ1, le, pr, rp1⟩
  cases r1
  refine smet_get I1 k ?_
  have I2 := I1.tok (s1.toks + 1)
  refine PySem.W.callWith_K (h₀ := X.base) I.ok.mod.kin k.kp (thn (ha.run pos pins _ σ H1 _ I2 ⟨ξ, Γ, M, F1, ρ1, en.mono le pr, rp1, (po.mono le pr).bind⟩) ?_) he hpl
  rintro us s2 ⟨vs, H2, I3, r, ds, M2, F2, ρ2, e2, p2, rp2, is, po2⟩
  exact ⟨I3.kIn, hc ξ pins s2 σ H2 M2 F2 ρ2 ds vs us Q I3 r rp2 is po2⟩
theorem ge_smeth0 {m : Str} {c : Nat} {f : Addr} {g : List D → Stor → R D} {pl : Sem Bool} (hc : CallG X W E (.ref f) g) (k : SMet X.K (W.T c) m f) (ho : GE X W E o (gC (.cls c)))
    (ht : eval (.Call (.Attribute o m apos) [] [] pos) X.env = (do
      let ov ← eval o X.env
      standAt apos.atName
      let (f, first) ← holding [ov] (getMethod ov m pl)
      callWith pos f first (backTo pos (starEach [] X.env)) (backToKw pos (keywordEach [] X.env))) := by rfl) : GE X W E (.Call (.Attribute o m apos) [] [] pos) (gCall g gNil) := by
  refine ⟨fun pins s σ H Q I ⟨ξ, Γ, M, F, ρ, en, rp, po⟩ => ?_⟩
  refine PySem.W.methodCall_KW (pl := pl) (thn (ho.run pins s σ H (fun v H1 => v = .ref (W.T c) ∧ ∃ F1 ρ1, Le F F1 ∧ ρ <+: ρ1 ∧ Rp W ξ M F1 H1 ρ1) I ⟨ξ, Γ, M, F, ρ, en, rp, fun v F1 ρ1 H1 le pr rp1 is => ⟨by simpa only [Is] using is, F1, ρ1, le, pr, rp1⟩⟩) ?_) ht
  rintro u s1 ⟨v, H1, I1, r1, rfl, F1, ρ1, le, pr, rp1⟩
  cases r1
  refine smet_get I1 k ?_
  have I2 := I1.tok (s1.toks + 1)
  exact PySem.W.callWith_K0 I2.kIn k.kp (hc ξ pins _ σ H1 M F1 ρ1 [] [] [] Q I2 .nil rp1 IsL.nil (po.mono le pr))
/-! ### a, b = x, y -/
def gPar2 (i j : Nat) (t : GA') : GS' := fun Γ M => (t Γ M).bindS Γ fun ds M1 => match ds with
  | [u, v] => .nx ((Γ.set i (some u)).set j (some v)) M1
  | _ => .no
theorem gs_par2 {i j : Nat} {x y : Str} {px py pt : Pos} {kt k2 pt2} (hc : X.calm = true) (hN : X.N.Nodup) (hi : X.N[i]? = some x) (hj : X.N[j]? = some y) (hij : i ≠ j)
    (hx : X.env.scope.names.lookup x = some .local) (hy : X.env.scope.names.lookup y = some .local) (ha : GA X W E [a, b] gs)
    (hw : swappedStores [.Tuple [.Name x px, .Name y py] kt pt] (.Tuple [a, b] k2 pt2) X.env = pure (some [x, y]) := by rfl)
    (hs : swapsWithSole [.Tuple [.Name x px, .Name y py] kt pt] (.Tuple [a, b] k2 pt2) pos.line X.env = pure false := by rfl) :
    GS X W E (.Assign [.Tuple [.Name x px, .Name y py] kt pt] (.Tuple [a, b] k2 pt2) pos) (gPar2 i j gs) :=
  mS (ps_par hc hN hi hj hij hx hy ha hw hs) fun N σ H ⟨ξ, Γ, M, F, ρ, en, rp, po⟩ => ⟨ξ, Γ, M, F, ρ, en, rp, (Po.bindS (rel := IsL W) en po).imp (by
    rintro vs H1 ⟨ds, M1, F1, ρ1, e1, p1, rp1, is, po1⟩
    split at po1
    · rename_i u v
      obtain ⟨vu, vv, rfl, iu, iv⟩ := two_of is
      exact ⟨vu, vv, rfl, po1 _ F1 ρ1 H1 Le.rfl' (List.prefix_refl _) rp1 (((en.mono e1 p1).set iu).set iv)⟩
    · exact po1.elim)⟩
def gPar3 (i j l : Nat) (t : GA') : GS' := fun Γ M => (t Γ M).bindS Γ fun ds M1 => match ds with
  | [u, v, w] => .nx (((Γ.set i (some u)).set j (some v)).set l (some w)) M1
  | _ => .no
theorem gs_par3 {c : Expr} {i j l : Nat} {x y z : Str} {px py pz pt : Pos} {kt k2 pt2} (hc : X.calm = true) (hN : X.N.Nodup) (hi : X.N[i]? = some x) (hj : X.N[j]? = some y) (hl : X.N[l]? = some z) (hij : i ≠ j) (hil : i ≠ l) (hjl : j ≠ l)
    (hx : X.env.scope.names.lookup x = some .local) (hy : X.env.scope.names.lookup y = some .local) (hz : X.env.scope.names.lookup z = some .local) (ha : GA X W E [a, b, c] gs)
    (hw : swappedStores [.Tuple [.Name x px, .Name y py, .Name z pz] kt pt] (.Tuple [a, b, c] k2 pt2) X.env = pure (some [x, y, z]) := by rfl)
    (hs : swapsWithSole [.Tuple [.Name x px, .Name y py, .Name z pz] kt pt] (.Tuple [a, b, c] k2 pt2) pos.line X.env = pure false := by rfl) :
    GS X W E (.Assign [.Tuple [.Name x px, .Name y py, .Name z pz] kt pt] (.Tuple [a, b, c] k2 pt2) pos) (gPar3 i j l gs) :=
  mS (ps_par3 hc hN hi hj hl hij hil hjl hx hy hz ha hw hs) fun N σ H ⟨ξ, Γ, M, F, ρ, en, rp, po⟩ => ⟨ξ, Γ, M, F, ρ, en, rp, (Po.bindS (rel := IsL W) en po).imp (by
    rintro vs H1 ⟨ds, M1, F1, ρ1, e1, p1, rp1, is, po1⟩
    split at po1
    · rename_i u v w
      obtain ⟨vu, r, rfl, iu, h2⟩ := IsL.cons_iff.mp is
      obtain ⟨vv, vw, rfl, iv, iw⟩ := two_of h2
      exact ⟨vu, vv, vw, rfl, po1 _ F1 ρ1 H1 Le.rfl' (List.prefix_refl _) rp1 ((((en.mono e1 p1).set iu).set iv).set iw)⟩
    · exact po1.elim)⟩
/-! ### methods of lists -/
def MtG (X : Cx) (W : Wd) (id : String) (f : D → List D → Stor → R D) : Prop :=
  ∃ r, MtR X id r ∧ ∀ (ξ : Xi) (M : Stor) (F H : Hp) (ρ : List Addr) (x : D) (ds : List D) (v : V) (vs : List V) (Q : VK) (Z : XK), Rp W ξ M F H ρ → Is W F ρ x v → IsL W F ρ ds vs → Po W ξ (Is W) F ρ (f x ds M) Q Z → r v vs H Q
def gMtL (f : D → List D → Stor → R D) (o : GE') (a : GA') : GE' := fun Γ M => (o Γ M).bind fun x M1 => match lstOf x M1 with
  | some _ => (a Γ M1).bind fun ds M2 => f x ds M2
  | none => .no
theorem ge_mtL {id : String} {name : Str} {f : D → List D → Stor → R D} {go : GE'} (hK : X.K = W.K) (slot : Slot "list" name id) (hty : typeOf (.builtin id) = pure (.type "method_descriptor")) (hm : MtG X W id f) (ho : GE X W E o go) (ha : GA X W E (e :: es) gs)
    (hbase : attributeBase o name X.env (eval o X.env) = eval o X.env := by rfl)
    (hfew : ((backTo pos (starEach (e :: es) X.env)).all (fun x => !x.1) && (backToKw pos (keywordEach [] X.env)).all (fun x => x.1.isSome)
      && decide ((e :: es).length + ([] : List Keyword).length + (if ([] : List Keyword).isEmpty then 0 else 1) < 30)) = true := by rfl)
    (hline : (apos.endLine == pos.line) = true := by rfl) (hs : starEach (e :: es) X.env = (false, eval e X.env) :: starEach es X.env := by rfl) (hplain : (backTo pos (starEach es X.env)).any (·.1) = false := by rfl) :
    GE X W E (.Call (.Attribute o name apos) (e :: es) [] pos) (gMtL f go gs) := by
  obtain ⟨r, hr, hk⟩ := hm
  refine mE (pe_bm PySem.F.plainAttrs_list slot hty hr ho ha hbase hfew hline hs hplain) fun σ H Q ⟨ξ, Γ, M, F, ρ, en, rp, po⟩ => ⟨ξ, Γ, M, F, ρ, en, rp, po.bind.imp ?_⟩
  rintro v H1 ⟨x, M1, F1, ρ1, e1, p1, rp1, ix, po1⟩
  split at po1
  · rename_i l el
    obtain ⟨q, vs, rfl, hq, hl⟩ := lstOf_ok rp1 ix el
    refine ⟨.inl ⟨rfl, vs, by rw [hK]; exact hq⟩, ξ, Γ, M1, F1, ρ1, en.mono e1 p1, rp1, po1.bind.imp ?_⟩
    rintro us H2 ⟨ds, M2, F2, ρ2, e2, p2, rp2, is, po2⟩
    exact hk ξ M2 F2 H2 ρ2 x ds _ us Q _ rp2 (ix.mono e2 p2) is po2
  · exact po1.elim
def mAppend : D → List D → Stor → R D := fun x ds M => match x, ds with
  | .ref k, [d] => (match M[k]? with
    | some (.lst l) => if l.length < 1000000 then .ok .non (M.set k (.lst (l ++ [d]))) else .no
    | _ => .no)
  | _, _ => .no
theorem mg_append : MtG X W "list.append" mAppend := ⟨_, mt_append, fun ξ M F H ρ x ds v vs Q Z rp ix is po => by
  unfold mAppend at po
  split at po
  · rename_i k d
    split at po
    · rename_i l em
      split at po
      · rename_i hz
        simp only [Is] at ix; obtain ⟨a, rfl, ea⟩ := ix
        obtain ⟨u, rfl, iu⟩ := one_of is
        obtain ⟨_, us, hv, hl⟩ := rp.obj k _ a em ea
        refine ⟨a, us, u, rfl, rfl, hv, by rw [hl.len, sizeLine_eq]; omega, ?_⟩
        exact po .non F ρ _ Le.rfl' (List.prefix_refl _) (rp.set ea ⟨_, rfl, hl.append (IsL.cons iu IsL.nil)⟩) (by simp only [Is])
      · exact po.elim
    · exact po.elim
  · exact po.elim⟩
end
end G

namespace G
open PySem PySem.Spec PyProof.Rows L2
/-! ### the law's own call -/
theorem law_g {P : Program} {w : World} {W : Wd} {mg mb : Str → Option Value} {k : Nat} {fa a : Addr} {fd : FuncData} {x : Str} {g : List D → Stor → R D} {st : Shared} {us : List Value} {zs : List Int}
    (kin : W.K.In st.heap) (glob : st.heap.Ns mainGlobals mg) (blt : st.heap.Ns builtinsNs mb) (bltv : ∀ y : Str, y ≠ "__name__" → mb y = bootBuiltins y) (lim : st.heap.NoLimit) (nogen : st.gens = #[])
    (scr : st.heap.get? a = some { cls := .type "list", data := .seq us.toArray }) (hin : IntsAre us zs) (few : zs.length ≤ sizeLine) (room : Room k callerA)
    (fn : ∀ base : Heap, W.K.In base → base.Ns mainGlobals mg → FnG P w W mg base k fa fd [x] g) (bind : ∀ (s : Shared) (u : Value), BindsTo s fd ⟨[u], []⟩ [(x, u)])
    (good : ∃ M, g [.lck (zs.map D.int)] [] = .ok (.bl true) M) :
    codeAny (model P w) callerA (.call (.ref fa) ⟨[.ref a], []⟩) (fun r s' => r = .ok (.ret (.bool true)) ∧ OldK st.heap s'.heap ∧ s'.os = st.os ∧ AllBare s'.gens) st := by
  obtain ⟨Mz, good⟩ := good
  have vals : Vals (zs.map V.int) us := vals_ints hin
  have usl : us.length = zs.length := hin.length
  -- whatever is tracked is the script alone
  have main : ∀ H : Hp, Only H → SqL W.K H a (zs.map V.int) → HOk P w H st.heap → (∀ b, H b ≠ none → b = a) → (H a ≠ none → W.K.lookup a = none) →
      codeAny (model P w) callerA (.call (.ref fa) ⟨[.ref a], []⟩) (fun r s' => r = .ok (.ret (.bool true)) ∧ OldK st.heap s'.heap ∧ s'.os = st.os ∧ AllBare s'.gens) st := by
    intro H only sq hok alone free
    have stays : ∀ {b : Addr} {ob : Obj}, st.heap.get? b = some ob → H b = none → (hidT st.heap H).get? b = some ob := fun q n => hidT_get q n
    have nodict : ∀ {b : Addr} {ob : Obj} {es : Array DictEntry} {n : Nat}, st.heap.get? b = some ob → ob.data = .dict es n → H b = none := by
      intro b ob es n q dd
      cases hb : H b with
      | none => rfl
      | some z =>
        obtain rfl : b = a := alone b (by rw [hb]; exact fun h => nomatch h)
        rw [scr] at q
        cases q
        have dd' : Data.seq us.toArray _ = Data.dict es n := dd
        cases dd'
    have ns : ∀ {b : Addr} {m : Str → Option Value}, st.heap.Ns b m → (hidT st.heap H).Ns b m := by
      rintro b m ⟨ob, es, n, q, dd, r⟩
      exact ⟨ob, es, n, stays q (nodict q dd), dd, r⟩
    have kin' : W.K.In (hidT st.heap H) := by
      intro b ob q
      refine stays (kin b ob q) ?_
      cases hb : H b with
      | none => rfl
      | some z =>
        obtain rfl : b = a := alone b (by rw [hb]; exact fun h => nomatch h)
        rw [free (by rw [hb]; exact fun h => nomatch h)] at q
        cases q
    have md : Mod W.K mg (hidT st.heap H) := by
      obtain ⟨mc, l1, l2⟩ := lim
      exact ⟨kin', ns glob, ⟨mb, ns blt, bltv⟩, ⟨mc, ns l1, l2⟩⟩
    have env : Env0 P w W.K mg (hidT st.heap H) callerA [] st H := by
      refine ⟨rfl, md, fun b ob q => of_hidT q, Nat.le_of_eq (hidT_size _ _), trivial, fun b hb => ?_, hok, .of_eq nogen⟩
      have hb' : b ∈ ([] : List Addr) := hb
      exact nomatch hb'
    have rp : Rp W [] [] H H [] := ⟨fun _ _ q => q, rfl, List.nodup_nil, fun i m b em _ => by simp at em, fun q hq => nomatch hq⟩
    have sp : spG W g [.ref a] H (fun v _ => v = .bl true) fun _ _ _ => False := by
      refine ⟨[], [.lck (zs.map D.int)], [], H, [], IsL.cons ?_ IsL.nil, rp, ?_⟩
      · simp only [Is]; exact ⟨a, _, rfl, sq, isL_ints zs⟩
      · rw [good]; exact fun v F' ρ' H' _ _ _ is => by simpa only [Is] using is
    refine codeAny_mono ((fn _ kin' (ns glob)).run callerA [] st H ⟨[.ref a], []⟩ [.ref a] [.ref a] _ _ room rfl env (bind st (.ref a)) (.cons rfl .nil) sp) ?_
    intro res s' out
    cases res with
    | error er => obtain ⟨_, _, _, _, _, _, _, _, _, _, _, _, z⟩ := out; exact z.elim
    | ok fl =>
      cases fl with
      | next => exact out.elim
      | brk => exact out.elim
      | cont => exact out.elim
      | ret u =>
        obtain ⟨v, H', os, bare, un, hok', rel, q⟩ := out
        obtain rfl : v = .bl true := q
        obtain rfl : u = Value.bool true := rel
        refine ⟨rfl, OldK.of_keep (fun b ob e => ?_), os, bare⟩
        cases hb : H b with
        | none => exact un.keep b ob e hb (fun z => by have z' : b ∈ ([] : List Addr) := z; exact nomatch z') (fun z => nomatch z)
        | some z =>
          rcases only b with h0 | ⟨oz, xs, h0⟩
          · rw [hb] at h0; cases h0
          · obtain ⟨e1, _⟩ := hok b _ h0
            obtain ⟨e2, _⟩ := hok' b _ (un.frzs b oz _ h0)
            rw [e] at e1
            cases e1
            exact e2
  cases hk : W.K.lookup a with
  | some ob =>
    have q := kin a ob hk
    rw [scr] at q
    cases q
    refine main (fun _ => none) (fun _ => Or.inl rfl) (Or.inr ⟨_, us.toArray, _, hk, rfl, rfl, rfl, ?_, ?_⟩) ?_ ?_ ?_
    · rw [List.size_toArray, usl]; exact few
    · simpa using vals
    · intro b u z
      have z' : (none : Option HO) = some u := z
      cases z'
    · intro b z; exact absurd rfl z
    · intro z; exact absurd rfl z
  | none =>
    let lock : HO := .frz { cls := .type "list", data := .seq us.toArray } (.lst (zs.map V.int))
    refine main (fun b => if b = a then some lock else none) (fun b => ?_) (Or.inl (Or.inr ⟨{ cls := .type "list", data := .seq us.toArray }, if_pos rfl⟩)) (fun b u z => ?_) (fun b z => ?_) (fun _ => hk)
    · by_cases hb : b = a
      · exact Or.inr ⟨_, _, if_pos hb⟩
      · exact Or.inl (if_neg hb)
    · by_cases hb : b = a
      · have z' := (if_pos hb).symm.trans z
        cases z'
        subst hb
        exact ⟨scr, by rw [List.length_map]; exact few, us, _, vals, scr⟩
      · have z' := (if_neg hb).symm.trans z
        cases z'
    · by_cases hb : b = a
      · exact hb
      · exact absurd (if_neg hb) z
theorem walk_g {l : PySem.W.OpenLaw} {n k : Nat} {q : Program} {loose : List Str} {XP : (Str → Option Value) → Heap → Prop} {YP : World → Heap → Prop} {d : DefRec} {x : Str}
    (hn : l.most = some n) (hn2 : n ≤ sizeLine) (hdf : d.params.defaults = []) (room : Room k callerA)
    (F : ∀ (w : World) (mg : Str → Option Value) (fa : Addr) (h : Heap), YP w h → h.Ns mainGlobals mg → mg d.name = some (.ref fa) →
      ∃ (W : Wd) (fd : FuncData) (g : List D → Stor → R D), W.K.In h ∧ (∀ (s : Shared) (u : Value), BindsTo s fd ⟨[u], []⟩ [(x, u)]) ∧
        (∀ zs : List Int, zs.length ≤ n → ∃ M, g [.lck (zs.map D.int)] [] = .ok (.bl true) M) ∧
        ∀ base : Heap, W.K.In base → base.Ns mainGlobals mg → FnG l.prog w W mg base k fa fd [x] g) :
    PySem.W.WalkO q loose XP YP l.row.toRowW d [] (fun f vs => PySem.call f vs) := by
  refine Att.attach_call hn hdf ?_
  intro w s0 s1 mg mb fa ob pm cd doc a us zs G Y ho hd hcd hmg hobj hints hlen hg
  obtain ⟨W, fd, g, kin, hb, hgood, hF⟩ := F w mg fa _ Y G.T.g hmg
  exact law_g kin G.T.g G.T.b G.T.builtins G.T.nolimit hg hobj hints (Nat.le_trans hlen hn2) room hF hb (hgood zs hlen)
end G

namespace G
open PySem PySem.Spec PyProof.Rows L2
/-! ### the head's facts: the house's own, further ones, the defs -/
abbrev Fx := PySem.W.Frag → Bool
def obsE (fa : List He.Fa) (fx : List Fx) (fn : List He5.DefA) (K : PySem.W.Frag) : He.AlD := ((fa.all fun f => f.ok K) && (fx.all fun f => f K) && fn.all fun d => d.ok K, fn.map fun d => He5.fnA K (d.at_ K))
def SaysE (fa : List He.Fa) (fx : List Fx) (fn : List He5.DefA) (K : PySem.W.Frag) : Prop := obsE fa fx fn K = He5.valA fn
def obsEG (n : Nat) (fa : List He.Fa) (fx : List Fx) (fn : List He5.DefA) (g : Addr → Option Obj) : He.AlD := obsE fa fx fn (He.frG g (He5.asA g n))
def hookE (n : Nat) (fa : List He.Fa) (fx : List Fx) (fn : List He5.DefA) : PySem.W.Hook where
  α := He.AlD
  obs := fun s => obsEG n fa fx fn s.heap.get?
  val := fun _ => He5.valA fn
  says := fun _ h => ∃ K : PySem.W.Frag, K.In h ∧ SaysE fa fx fn K
  of := fun _ _ e => ⟨_, He.frG_in, e⟩
  keeps := fun _ _ _ ⟨K, hK, c⟩ k => ⟨K, PySem.W.Frag.In.keeps hK k, c⟩
theorem obsEG_eq {n : Nat} {fa : List He.Fa} {fx : List Fx} {fn : List He5.DefA} {g : Addr → Option Obj} {s : Shared} (h : ∀ a, g a = s.heap.get? a) : obsEG n fa fx fn g = (hookE n fa fx fn).obs s := by
  have e : g = s.heap.get? := funext h
  subst e; rfl
section
variable {fa : List He.Fa} {fx : List Fx} {fn : List He5.DefA} {K : PySem.W.Frag}
theorem SaysE.all (c : SaysE fa fx fn K) : ((fa.all fun f => f.ok K) && (fx.all fun f => f K) && fn.all fun d => d.ok K) = true := congrArg (fun z : He.AlD => z.1) c
theorem SaysE.fact (c : SaysE fa fx fn K) (i : Nat) {f : He.Fa} (h : fa[i]? = some f := by rfl) : f.ok K = true := by
  have z := c.all
  simp only [Bool.and_eq_true] at z
  exact List.all_eq_true.mp z.1.1 f (List.mem_of_getElem? h)
theorem SaysE.factX (c : SaysE fa fx fn K) (i : Nat) {f : Fx} (h : fx[i]? = some f := by rfl) : f K = true := by
  have z := c.all
  simp only [Bool.and_eq_true] at z
  exact List.all_eq_true.mp z.1.2 f (List.mem_of_getElem? h)
theorem SaysE.def_ (c : SaysE fa fx fn K) (i : Nat) {d : He5.DefA} (h : fn[i]? = some d := by rfl) : ∃ fd, FunD K d.name d.qual d.params d.body d.scope (d.dvs K) (d.kws K) (d.at_ K) fd := by
  have z := c.all
  simp only [Bool.and_eq_true] at z
  have e : fn.map (fun d => He5.fnA K (d.at_ K)) = fn.map He5.DefA.val := congrArg (fun z : He.AlD => z.2) c
  have e2 : (fn.map fun d => He5.fnA K (d.at_ K))[i]? = (fn.map He5.DefA.val)[i]? := by rw [e]
  rw [List.getElem?_map, List.getElem?_map, h] at e2
  exact He5.DefA.funD (Option.some.inj e2) (List.all_eq_true.mp z.2 d (List.mem_of_getElem? h))
end
/-! ### a def that may be called -/
structure FnB (P : Program) (w : World) (W : Wd) (mg : Str → Option Value) (base : Heap) (k : Nat) (f : Addr) (ps : List Str) (g : List D → Stor → R D) : Prop where
  ex : ∃ fd, FnG P w W mg base k f fd ps g ∧ Binds W.K fd ps []
  kp : PySem.W.keepIn W.K (.ref f) = true
/-- .. with values that fill up -/
structure FnBD (P : Program) (w : World) (W : Wd) (mg : Str → Option Value) (base : Heap) (k : Nat) (f : Addr) (ps : List Str) (dds : List D) (g : List D → Stor → R D) : Prop where
  ex : ∃ fd dvs dus, FnG P w W mg base k f fd ps g ∧ Binds W.K fd ps dus ∧ Vals dvs dus ∧ ∀ F ρ, IsL W F ρ dds dvs
  kp : PySem.W.keepIn W.K (.ref f) = true
section
variable {P : Program} {w : World} {W : Wd} {mg : Str → Option Value} {base : Heap} {k : Nat} {f : Addr} {ps : List Str} {dds : List D} {g : List D → Stor → R D}
theorem FnB.frz (h : FnB P w W mg base k f ps g) : FnB P w W mg base k f ps (fun ds M => frz M (g ds M)) := ⟨let ⟨fd, a, b⟩ := h.ex; ⟨fd, a.frz, b⟩, h.kp⟩
theorem FnB.mono {j : Nat} (h : FnB P w W mg base k f ps g) (hj : k ≤ j) : FnB P w W mg base j f ps g := ⟨let ⟨fd, a, b⟩ := h.ex; ⟨fd, a.mono hj, b⟩, h.kp⟩
theorem FnB.all (h : FnB P w W mg base k f ps g) : FnBD P w W mg base k f ps [] g := ⟨let ⟨fd, a, b⟩ := h.ex; ⟨fd, [], [], a, b, .nil, fun _ _ => IsL.nil⟩, h.kp⟩
end
section
variable {X : Cx} {W : Wd} {E : Sg → XK} {k c : Nat} {f C : Addr} {ps : List Str} {dds : List D} {g : List D → Stor → R D}
theorem cg_b (h : FnB X.prog X.w W X.mg X.base k f ps g) (hK : X.K = W.K) (hr : Room k X.A) (gd : X.A.guards = some []) (hx : Pass X E) : CallG X W E (.ref f) g := by
  obtain ⟨fd, a, b⟩ := h.ex
  rw [← hK] at b
  exact callg_fn0 a hK hr gd b hx
theorem cg_bd (h : FnBD X.prog X.w W X.mg X.base k f ps dds g) (hK : X.K = W.K) (hr : Room k X.A) (gd : X.A.guards = some []) (hx : Pass X E) : CallG X W E (.ref f) (fun xs M => g (xs ++ dds) M) := by
  obtain ⟨fd, dvs, dus, a, b, d, e⟩ := h.ex
  rw [← hK] at b
  exact callg_fn a hK hr gd b d e hx
/-- C(..): firm at once -/
noncomputable def gMake (c : Nat) (dds : List D) (g : List D → Stor → R D) : List D → Stor → R D := fun xs M => frz M (gMakeM c (fun ys N => g (ys ++ dds) N) xs M)
theorem cg_make (MK : Mk X.K (W.T c) f) (h : FnBD X.prog X.w W X.mg X.base k f ps dds g) (hK : X.K = W.K) (hr : Room (k + 1) X.A) (gd : X.A.guards = some []) (hx : Pass X E) : CallG X W E (.ref (W.T c)) (gMake c dds g) := by
  obtain ⟨fd, dvs, dus, a, b, d, e⟩ := h.ex
  rw [← hK] at b
  exact (callg_make rfl MK a hK hr gd b d e hx).frz
theorem cg_makeM (MK : Mk X.K (W.T c) f) (h : FnBD X.prog X.w W X.mg X.base k f ps dds g) (hK : X.K = W.K) (hr : Room (k + 1) X.A) (gd : X.A.guards = some []) (hx : Pass X E) : CallG X W E (.ref (W.T c)) (gMakeM c (fun ys N => g (ys ++ dds) N)) := by
  obtain ⟨fd, dvs, dus, a, b, d, e⟩ := h.ex
  rw [← hK] at b
  exact callg_make rfl MK a hK hr gd b d e hx
end
/-- in a def's body what a callee raises leaves it -/
theorem pass_def {P : Program} {w : World} {K : PySem.W.Frag} {mg : Str → Option Value} {base : Heap} {N : List Str} {qual : Str} {scope : Scope} {f : Addr} {cd : Value} {A : Around} {outer : List Env} {s : Shared} {H : Hp} {E : XK} :
    Pass (cxOf (L2.CX P w) P w K mg base N qual scope f cd A outer s H E) (fun _ => E) := fun σ => passAt (X := cxOf (L2.CX P w) P w K mg base N qual scope f cd A outer s H E) (W := fun cls d _ H => E cls d H) (takes_of rfl rfl rfl rfl) σ
theorem own_def {P : Program} {w : World} {K : PySem.W.Frag} {mg : Str → Option Value} {base : Heap} {N : List Str} {qual : Str} {scope : Scope} {f : Addr} {cd : Value} {A : Around} {outer : List Env} {s : Shared} {H : Hp} {E : XK} :
    let X := cxOf (L2.CX P w) P w K mg base N qual scope f cd A outer s H E
    PassesOwn (model X.prog X.w) X.A X.env X.xe := passes_of (X := cxOf (L2.CX P w) P w K mg base N qual scope f cd A outer s H E) rfl
/-- enough turns for a while -/
@[irreducible] def fuel : Nat := 2 ^ 100000
theorem fuel_ge {n : Nat} (h : n ≤ 2 ^ 100000) : n ≤ fuel := by unfold fuel; exact h
/-! ### further facts as truths -/
open He in
def fxClsI (x : Str) : Fx := fun K => eqO (PySem.W.findIn K (.ref (ga K x)) "__class__") (some (some (.builtin "object.__class__"))) && (eqO (PySem.W.specialIn K (.builtin "object.__class__") "__get__") (some (some (.builtin "getset_descriptor.__get__"))) &&
  (decide (PySem.W.takesIn K (.builtin "object.__class__") = some true) && decide (PySem.W.mroIn K (ga K x) (.type "object") = some true)))
theorem clsI_of {K : PySem.W.Frag} {x : Str} (c : Cls K (He.ga K x)) (h : fxClsI x K = true) : ClsI K (He.ga K x) := by
  obtain ⟨h1, h⟩ := He.ba h
  obtain ⟨h2, h⟩ := He.ba h
  obtain ⟨h3, h4⟩ := He.ba h
  exact ⟨c, He.eqO_ok h1, He.eqO_ok h2, of_decide_eq_true h3, of_decide_eq_true h4⟩
open He in
def fxOp (x : Str) (nm : String) : Fx := fun K => PySem.W.selfFirst K (ga K x) && (eqO (PySem.W.findIn K (.ref (ga K x)) (dunder nm)) (some (some (.ref (ma K (ga K x) (dunder nm))))) && (PySem.W.isFn K (.ref (ma K (ga K x) (dunder nm))) &&
  (eqO (PySem.W.findIn K (.ref (ga K x)) (dunderR nm)) (some (some (.ref (ma K (ga K x) (dunderR nm))))) && (PySem.W.isFn K (.ref (ma K (ga K x) (dunderR nm))) &&
  (decide (PySem.W.subIn K (.ref (ga K x)) (.type "int") = some false) && (decide (PySem.W.subIn K (.type "int") (.ref (ga K x)) = some false) && (PySem.W.findIn K (.type "int") (dunderR nm)).isSome))))))
theorem opC_of {K : PySem.W.Frag} {x : Str} {nm : String} (h : fxOp x nm K = true) : OpC K (He.ga K x) nm (He.ma K (He.ga K x) (dunder nm)) (He.ma K (He.ga K x) (dunderR nm)) := by
  obtain ⟨h1, h⟩ := He.ba h
  obtain ⟨h2, h⟩ := He.ba h
  obtain ⟨h3, h⟩ := He.ba h
  obtain ⟨h4, h⟩ := He.ba h
  obtain ⟨h5, h⟩ := He.ba h
  obtain ⟨h6, h⟩ := He.ba h
  obtain ⟨h7, h8⟩ := He.ba h
  exact ⟨h1, He.eqO_ok h2, h3, He.eqO_ok h4, h5, of_decide_eq_true h6, of_decide_eq_true h7, Option.isSome_iff_exists.mp h8⟩
open He in
def fxIp (x : Str) (nm : String) : Fx := fun K => (match PySem.W.clsIn K (ga K x) with
  | some cd => decide (cd.mro = [.ref (ga K x), .type "object"])
  | none => false) && (eqO (PySem.W.findIn K (.ref (ga K x)) (dunderI nm)) (some none) && eqO (PySem.W.findIn K (.type "object") (dunderI nm)) (some none))
theorem ipC_of {K : PySem.W.Frag} {x : Str} {nm : String} (h : fxIp x nm K = true) : IpC K (He.ga K x) nm := by
  obtain ⟨h1, h⟩ := He.ba h
  obtain ⟨h2, h3⟩ := He.ba h
  refine ⟨?_, He.eqO_ok h2, He.eqO_ok h3⟩
  cases e : PySem.W.clsIn K (He.ga K x) with
  | none => rw [e] at h1; cases h1
  | some cd => rw [e] at h1; exact ⟨cd, rfl, of_decide_eq_true h1⟩
open He in
def fxSm (x m : Str) : Fx := fun K => PySem.W.readsIn K (ga K x) (.type "type") && (eqO (PySem.W.specialIn K (.ref (ga K x)) "__getattribute__") (some (some (.builtin "type.__getattribute__"))) &&
  (He5.wrapB K (ga K x) "staticmethod" "staticmethod.__get__" m && PySem.W.keepIn K (.ref (He5.wf K (ga K x) "staticmethod" m))))
theorem sm_of {K : PySem.W.Frag} {x m : Str} (h : fxSm x m K = true) : SMet K (He.ga K x) m (He5.wf K (He.ga K x) "staticmethod" m) := by
  obtain ⟨h1, h⟩ := He.ba h
  obtain ⟨h2, h⟩ := He.ba h
  obtain ⟨h3, h4⟩ := He.ba h
  obtain ⟨k1, rest, k2⟩ := He5.wrapB_ok h3
  exact ⟨h1, He.eqO_ok h2, ⟨_, rest, k1, k2⟩, h4⟩
/-- a value's kind and a class, by names -/
inductive TN where
  | b (n : String) | o (x : Str)
def TN.v (K : PySem.W.Frag) : TN → Value
  | .b n => .type n
  | .o x => .ref (He.ga K x)
def fxKit (t c : TN) (r : Bool) : Fx := fun K => decide (PySem.W.kitOne K (t.v K) (c.v K) = some r)
theorem kit_of {K : PySem.W.Frag} {t c : TN} {r : Bool} (h : fxKit t c r K = true) : PySem.W.kitOne K (t.v K) (c.v K) = some r := of_decide_eq_true h
theorem ge_stuck {X : Cx} {W : Wd} {E : Sg → XK} {e : Expr} : GE X W E e (fun _ _ => .no) := ⟨fun _ _ _ _ _ _ ⟨_, _, _, _, _, _, _, po⟩ => po.elim⟩
def gYes : GT' := fun _ M => .ok true M
theorem pts_none {X : Cx} {W : Wd} {E : Sg → XK} : PTs X [] (tGT W E gYes) := ⟨fun pins s σ H Q I ⟨ξ, Γ, M, F, ρ, en, rp, po⟩ => pts_nil.run pins s σ H Q I (po true F ρ H Le.rfl' (List.prefix_refl _) rp rfl)⟩
end G

namespace G
open PySem L2
/-! ### reckoning with the plain functions -/
section
variable {i j : Int} {M : Stor} {a b : Bool} {x y : Str}
theorem eAdd : dAdd (.int i) (.int j) M = .ok (.int (i + j)) M := rfl
theorem eAddI : dAddI (.int i) (.int j) M = .ok (.int (i + j)) M := rfl
theorem eSub : dSubI (.int i) (.int j) M = .ok (.int (i - j)) M := rfl
theorem eMulI (h : mulOk i j = true) : dMulI (.int i) (.int j) M = .ok (.int (i * j)) M := by
  unfold dMulI dI; simp only [h, if_true]
theorem eMul (h : mulOk i j = true) : dMul (.int i) (.int j) M = .ok (.int (i * j)) M := by
  unfold dMul; rw [eMulI h]; rfl
theorem eDiv (h : divOk j = true) : dDivI (.int i) (.int j) M = .ok (.int (i.fdiv j)) M := by
  unfold dDivI dI; simp only [h, if_true]
theorem eMod (h : j ≠ 0) : dModI (.int i) (.int j) M = .ok (.int (i.fmod j)) M := by
  unfold dModI dI; simp only [h, if_false]
theorem ePow (h : powOk i j = true) : dPowI (.int i) (.int j) M = .ok (.int (i ^ j.toNat)) M := by
  unfold dPowI dI; simp only [h, if_true]
theorem eLt : dLtI (.int i) (.int j) M = .ok (.bl (decide (i < j))) M := rfl
theorem eLe : dLeI (.int i) (.int j) M = .ok (.bl (decide (i ≤ j))) M := rfl
theorem eGt : dGtI (.int i) (.int j) M = .ok (.bl (decide (j < i))) M := rfl
theorem eGe : dGeI (.int i) (.int j) M = .ok (.bl (decide (j ≤ i))) M := rfl
theorem eEq : dEq (.int i) (.int j) M = .ok (.bl (decide (i = j))) M := rfl
theorem eNe : dNe (.int i) (.int j) M = .ok (.bl (!decide (i = j))) M := rfl
theorem eEqS : dEq (.str x) (.str y) M = .ok (.bl (decide (x = y))) M := rfl
theorem eNeS : dNe (.str x) (.str y) M = .ok (.bl (!decide (x = y))) M := rfl
theorem eTru : truD (.bl a) M = .ok a M := rfl
theorem eNeg : dNegI (.int i) M = .ok (.int (-i)) M := rfl
theorem eAbs : fAbsI [.int i] M = .ok (.int i.natAbs) M := rfl
theorem eInt : fInt [.int i] M = .ok (.int i) M := rfl
theorem eIntB : fInt [.bl a] M = .ok (.int (if a then 1 else 0)) M := rfl
theorem eLenL {l : List D} : fLen [.lst l] M = .ok (.int l.length) M := rfl
theorem eLenT {l : List D} : fLen [.tup l] M = .ok (.int l.length) M := rfl
/-- small numbers -/
theorem mulOk_of {m n : Nat} (h1 : i.natAbs < 2 ^ m) (h2 : j.natAbs < 2 ^ n) (h3 : m + n ≤ 1000000 := by decide) : mulOk i j = true := by
  simp only [mulOk, Bool.or_eq_true, decide_eq_true_eq]
  right
  have l : ∀ {k : Nat} {z : Nat}, z < 2 ^ k → z.log2 < k ∨ z = 0 := fun {k z} h => by
    by_cases hz : z = 0
    · exact .inr hz
    · exact .inl ((Nat.log2_lt hz).mpr h)
  rcases l h1 with a | a <;> rcases l h2 with b | b
  · omega
  · rw [b]; have : Nat.log2 0 = 0 := by decide
    omega
  · rw [a]; have : Nat.log2 0 = 0 := by decide
    omega
  · rw [a, b]; decide
theorem mulOk_left (h : i.natAbs < 2 ^ 64) : mulOk i j = true := by simp only [mulOk, decide_eq_true h, Bool.true_or]
theorem mulOk_right (h : j.natAbs < 2 ^ 64) : mulOk i j = true := by simp only [mulOk, decide_eq_true h, Bool.true_or, Bool.or_true]
theorem log2_of {z k : Nat} (h : z < 2 ^ k) (hk : 0 < k) : z.log2 < k := by
  by_cases hz : z = 0
  · subst hz; have : Nat.log2 0 = 0 := by decide
    omega
  · exact (Nat.log2_lt hz).mpr h
theorem divOk_of {n : Nat} (h0 : j ≠ 0) (h : j.natAbs < 2 ^ n) (hn : n ≤ 9000 := by decide) : divOk j = true := by
  simp only [divOk, Bool.and_eq_true, decide_eq_true_eq]
  refine ⟨h0, ?_⟩
  exact (Nat.log2_lt (by omega)).mpr (Nat.lt_of_lt_of_le h (Nat.pow_le_pow_right (by decide) hn))
end
/-- one turn of a while -/
theorem while_step {t : GT'} {b : GS'} {n : Nat} {Γ : Gam} {M : Stor} : gWhile t b (n + 1) Γ M = (t Γ M).bindS Γ fun c M1 => if c then (match b Γ M1 with
    | .nx Γ2 M2 => gWhile t b n Γ2 M2
    | .ct Γ2 M2 => gWhile t b n Γ2 M2
    | .bk Γ2 M2 => .nx Γ2 M2
    | r => r) else .nx Γ M1 := rfl
theorem loop_nil {keep : Stor → Prop} {tg : GG'} {b : GS'} {Γ : Gam} {M : Stor} : loopG keep tg b [] Γ M = .nx Γ M := by unfold loopG; rfl
theorem set_last {M : Stor} {m m' : MO} : (M ++ [m]).set M.length m' = M ++ [m'] := by
  rw [List.set_append_right _ _ (Nat.le_refl _)]; simp
theorem get_last {M : Stor} {m : MO} : (M ++ [m])[M.length]? = some m := by simp
theorem kept_last {M : Stor} {m : MO} : Kept M (M ++ [m]) := .inl (by simp)
/-- what was made last is made firm -/
theorem frz_new {M : Stor} {m : MO} {d : D} (h : lookN M.length (M ++ [m]) 4 M.length = some d) : frz M (.ok (.ref M.length) (M ++ [m])) = .ok d M := by
  unfold frz
  have e : ¬ (M ++ [m]).length = M.length := by simp
  simp only [e, if_false, kept_last, if_true, frzD, h]
  simp
theorem look_ins {M : Stor} {c : Nat} {l l' : List D} (h : frzL (lookN M.length (M ++ [.ins c l]) 3) l = some l') : lookN M.length (M ++ [.ins c l]) 4 M.length = some (.ins c l') := by
  unfold lookN
  rw [if_neg (Nat.lt_irrefl _), get_last]
  simp only [h, Option.map_some]
theorem look_lst {M : Stor} {l l' : List D} (h : frzL (lookN M.length (M ++ [.lst l]) 3) l = some l') : lookN M.length (M ++ [.lst l]) 4 M.length = some (.lst l') := by
  unfold lookN
  rw [if_neg (Nat.lt_irrefl _), get_last]
  simp only [h, Option.map_some]
mutual
/-- firm data stays as it is -/
def D.firm : D → Bool
  | .ref _ => false
  | .tup l => firmL l
  | .lst l => firmL l
  | .lck l => firmL l
  | .ins _ l => firmL l
  | .non => true
  | .bl _ => true
  | .int _ => true
  | .str _ => true
  | .ty _ => true
  | .cls _ => true
def firmL : List D → Bool
  | [] => true
  | d :: ds => d.firm && firmL ds
end
mutual
theorem frzD_firm {look : Nat → Option D} : ∀ {d : D}, d.firm = true → frzD look d = some d
  | .ref _, h => by simp [D.firm] at h
  | .tup l, h => by simp only [D.firm] at h; simp only [frzD, frzL_firm h, Option.map_some]
  | .lst l, h => by simp only [D.firm] at h; simp only [frzD, frzL_firm h, Option.map_some]
  | .lck l, h => by simp only [D.firm] at h; simp only [frzD, frzL_firm h, Option.map_some]
  | .ins c l, h => by simp only [D.firm] at h; simp only [frzD, frzL_firm h, Option.map_some]
  | .non, _ => by simp only [frzD]
  | .bl _, _ => by simp only [frzD]
  | .int _, _ => by simp only [frzD]
  | .str _, _ => by simp only [frzD]
  | .ty _, _ => by simp only [frzD]
  | .cls _, _ => by simp only [frzD]
theorem frzL_firm {look : Nat → Option D} : ∀ {l : List D}, firmL l = true → frzL look l = some l
  | [], _ => by simp only [frzL]
  | d :: ds, h => by
    simp only [firmL, Bool.and_eq_true] at h
    simp only [frzL, frzD_firm h.1, frzL_firm h.2]
end
theorem frz_insF {M : Stor} {c : Nat} {l : List D} (h : firmL l = true) : frz M (.ok (.ref M.length) (M ++ [.ins c l])) = .ok (.ins c l) M := frz_new (look_ins (frzL_firm h))
theorem frz_lstF {M : Stor} {l : List D} (h : firmL l = true) : frz M (.ok (.ref M.length) (M ++ [.lst l])) = .ok (.lst l) M := frz_new (look_lst (frzL_firm h))
/-- statement by statement -/
theorem seq_nx {a b : GS'} {Γ Γ1 : Gam} {M M1 : Stor} (h : a Γ M = .nx Γ1 M1) : gSeq a b Γ M = b Γ1 M1 := by unfold gSeq; rw [h]
theorem seq_rt {a b : GS'} {Γ : Gam} {M M1 : Stor} {d : D} (h : a Γ M = .rt d M1) : gSeq a b Γ M = .rt d M1 := by unfold gSeq; rw [h]
theorem fn_rt {n N : Nat} {gb : GS'} {ds : List D} {M M1 : Stor} {d : D} (hl : ds.length = n) (h : gb (ds.map some ++ List.replicate (N - n) none) M = .rt d M1) : gFn n N gb ds M = .ok d M1 := by
  unfold gFn; rw [if_pos hl, h]; rfl
theorem if_t {t : GT'} {a b : GS'} {Γ : Gam} {M M1 : Stor} (h : t Γ M = .ok true M1) : gIf t a b Γ M = a Γ M1 := by unfold gIf; rw [h]; rfl
theorem if_f {t : GT'} {a b : GS'} {Γ : Gam} {M M1 : Stor} (h : t Γ M = .ok false M1) : gIf t a b Γ M = b Γ M1 := by unfold gIf; rw [h]; rfl
end G

namespace K02
open PySem PySem.Spec PyProof.Rows L2 G
def top (i : Nat) : Stmt := PySem.Challenge.pw_sixasone_k02_sums_and_products.main.body.getD i (.Pass ⟨0, 0, 0, 0⟩)

abbrev s__law_pen : Stmt := top 27
abbrev s__law_draw : Stmt := top 28
abbrev s__law_low : Stmt := top 30
abbrev s__law_pick : Stmt := top 29
abbrev s__law_fraction : Stmt := top 33
abbrev s__law_results : Stmt := top 34
abbrev s_is_integer : Stmt := top 9
abbrev s_common : Stmt := top 10
abbrev s_Ratio___init__ : Stmt := inClass (top 12) 0
abbrev s__law_made : Stmt := top 32
abbrev s__law_is : Stmt := top 31
abbrev s__law_are : Stmt := top 35
abbrev s_multiplied : Stmt := top 18
abbrev s_Ratio_of : Stmt := inClass (top 12) 2
abbrev s_Ratio___mul__ : Stmt := inClass (top 12) 14
abbrev s_Ratio___rmul__ : Stmt := inClass (top 12) 15
abbrev s_less_another : Stmt := top 17
abbrev s_Ratio___sub__ : Stmt := inClass (top 12) 12
abbrev s_Ratio___rsub__ : Stmt := inClass (top 12) 13
abbrev s_added : Stmt := top 16
abbrev s_Ratio___add__ : Stmt := inClass (top 12) 10
abbrev s_Ratio___radd__ : Stmt := inClass (top 12) 11
abbrev s__law_in_place : Stmt := top 36
abbrev s__law_pair_right : Stmt := top 37
abbrev s_Ratio___neg__ : Stmt := inClass (top 12) 20
abbrev s_Ratio___abs__ : Stmt := inClass (top 12) 21
abbrev s__law_alone_right : Stmt := top 38
abbrev s_law : Stmt := top 39
abbrev clsT (K : PySem.W.Frag) : Nat → Addr := fun c => ([He.ga K "WebError", He.ga K "BadRatio", He.ga K "NoRatio", He.ga K "BadText", He.ga K "Nothing", He.ga K "Ratio"] : List Addr).getD c 0
abbrev fldN : Nat → List Str := fun c => ([[], ["at"], [], ["at"], [], ["top", "bottom"]] : List (List Str)).getD c []
abbrev WW (K : PySem.W.Frag) : Wd := ⟨K, clsT K, fldN⟩
def ft_top : Nat → Option Nat := fun c => if c = 5 then some 0 else none
def ft_bottom : Nat → Option Nat := fun c => if c = 5 then some 1 else none
def isOk : Nat → Bool := fun c => decide (c = 5)
def isTab : TK → CK → Option Bool
  | .int, .ty "int" => some true
  | .int, .ty "bool" => some false
  | .ins 5, .own 5 => some true
  | .int, .own 5 => some false
  | .int, .own 4 => some false
  | _, _ => none
structure Tx (K : PySem.W.Frag) (mg : Str → Option Value) : Prop where
  g__law_pen : mg "_law_pen" = some (.ref (He.ga K "_law_pen"))
  g__law_fraction : mg "_law_fraction" = some (.ref (He.ga K "_law_fraction"))
  g__law_draw : mg "_law_draw" = some (.ref (He.ga K "_law_draw"))
  g__law_pair_right : mg "_law_pair_right" = some (.ref (He.ga K "_law_pair_right"))
  g__law_alone_right : mg "_law_alone_right" = some (.ref (He.ga K "_law_alone_right"))
  g__law_pick : mg "_law_pick" = some (.ref (He.ga K "_law_pick"))
  g__law_low : mg "_law_low" = some (.ref (He.ga K "_law_low"))
  g__law_results : mg "_law_results" = some (.ref (He.ga K "_law_results"))
  g__law_made : mg "_law_made" = some (.ref (He.ga K "_law_made"))
  g__law_are : mg "_law_are" = some (.ref (He.ga K "_law_are"))
  g__law_in_place : mg "_law_in_place" = some (.ref (He.ga K "_law_in_place"))
  g__law_is : mg "_law_is" = some (.ref (He.ga K "_law_is"))
  g_Ratio : mg "Ratio" = some (.ref (He.ga K "Ratio"))
  g_is_integer : mg "is_integer" = some (.ref (He.ga K "is_integer"))
  g_Nothing : mg "Nothing" = some (.ref (He.ga K "Nothing"))
  g_common : mg "common" = some (.ref (He.ga K "common"))
  g_multiplied : mg "multiplied" = some (.ref (He.ga K "multiplied"))
  g_less_another : mg "less_another" = some (.ref (He.ga K "less_another"))
  g_added : mg "added" = some (.ref (He.ga K "added"))
  n_range : mg "range" = none
  n_list : mg "list" = none
  n_int : mg "int" = none
  n_len : mg "len" = none
  n_abs : mg "abs" = none
  n_isinstance : mg "isinstance" = none
  n_bool : mg "bool" = none
  n_repr : mg "repr" = none
  op_Ratio_mul : OpC K (He.ga K "Ratio") "mul" (He.ma K (He.ga K "Ratio") (dunder "mul")) (He.ma K (He.ga K "Ratio") (dunderR "mul"))
  op_Ratio_sub : OpC K (He.ga K "Ratio") "sub" (He.ma K (He.ga K "Ratio") (dunder "sub")) (He.ma K (He.ga K "Ratio") (dunderR "sub"))
  op_Ratio_add : OpC K (He.ga K "Ratio") "add" (He.ma K (He.ga K "Ratio") (dunder "add")) (He.ma K (He.ga K "Ratio") (dunderR "add"))
  mk_Ratio : Mk K (He.ga K "Ratio") (He.ma K (He.ga K "Ratio") "__init__")
  cls_Ratio : Cls K (He.ga K "Ratio")
  na_Ratio_top : NoAttr K (He.ga K "Ratio") "top"
  na_Ratio_bottom : NoAttr K (He.ga K "Ratio") "bottom"
  sm_Ratio_of : SMet K (He.ga K "Ratio") "of" (He5.wf K (He.ga K "Ratio") "staticmethod" "of")
  ip_Ratio_add : IpC K (He.ga K "Ratio") "add"
  ip_Ratio_sub : IpC K (He.ga K "Ratio") "sub"
  ip_Ratio_mul : IpC K (He.ga K "Ratio") "mul"
  me_Ratio___neg__ : Meth K (He.ga K "Ratio") "__neg__" (He.ma K (He.ga K "Ratio") "__neg__")
  me_Ratio___abs__ : Meth K (He.ga K "Ratio") "__abs__" (He.ma K (He.ga K "Ratio") "__abs__")
  i_Ratio : ClsI K (He.ga K "Ratio")
  kit_int_int : PySem.W.kitOne K (TN.v K (.b "int")) (TN.v K (.b "int")) = some true
  kit_int_bool : PySem.W.kitOne K (TN.v K (.b "int")) (TN.v K (.b "bool")) = some false
  kit_Ratio_Ratio : PySem.W.kitOne K (TN.v K (.o "Ratio")) (TN.v K (.o "Ratio")) = some true
  kit_int_Ratio : PySem.W.kitOne K (TN.v K (.b "int")) (TN.v K (.o "Ratio")) = some false
  kit_int_Nothing : PySem.W.kitOne K (TN.v K (.b "int")) (TN.v K (.o "Nothing")) = some false
  d__law_pen : ∃ fd, FunD K "_law_pen" "_law_pen" (defArgs s__law_pen) (defBody s__law_pen) (defScope s__law_pen) [] [] (He.ga K "_law_pen") fd
  k__law_pen : PySem.W.keepIn K (.ref (He.ga K "_law_pen")) = true
  d__law_draw : ∃ fd, FunD K "_law_draw" "_law_draw" (defArgs s__law_draw) (defBody s__law_draw) (defScope s__law_draw) [] [] (He.ga K "_law_draw") fd
  k__law_draw : PySem.W.keepIn K (.ref (He.ga K "_law_draw")) = true
  d__law_low : ∃ fd, FunD K "_law_low" "_law_low" (defArgs s__law_low) (defBody s__law_low) (defScope s__law_low) [] [] (He.ga K "_law_low") fd
  k__law_low : PySem.W.keepIn K (.ref (He.ga K "_law_low")) = true
  d__law_pick : ∃ fd, FunD K "_law_pick" "_law_pick" (defArgs s__law_pick) (defBody s__law_pick) (defScope s__law_pick) [] [] (He.ga K "_law_pick") fd
  k__law_pick : PySem.W.keepIn K (.ref (He.ga K "_law_pick")) = true
  d__law_fraction : ∃ fd, FunD K "_law_fraction" "_law_fraction" (defArgs s__law_fraction) (defBody s__law_fraction) (defScope s__law_fraction) [] [] (He.ga K "_law_fraction") fd
  k__law_fraction : PySem.W.keepIn K (.ref (He.ga K "_law_fraction")) = true
  d__law_results : ∃ fd, FunD K "_law_results" "_law_results" (defArgs s__law_results) (defBody s__law_results) (defScope s__law_results) [] [] (He.ga K "_law_results") fd
  k__law_results : PySem.W.keepIn K (.ref (He.ga K "_law_results")) = true
  d_is_integer : ∃ fd, FunD K "is_integer" "is_integer" (defArgs s_is_integer) (defBody s_is_integer) (defScope s_is_integer) [] [] (He.ga K "is_integer") fd
  k_is_integer : PySem.W.keepIn K (.ref (He.ga K "is_integer")) = true
  d_common : ∃ fd, FunD K "common" "common" (defArgs s_common) (defBody s_common) (defScope s_common) [] [] (He.ga K "common") fd
  k_common : PySem.W.keepIn K (.ref (He.ga K "common")) = true
  d_Ratio___init__ : ∃ fd, FunD K "__init__" "Ratio.__init__" (defArgs s_Ratio___init__) (defBody s_Ratio___init__) (defScope s_Ratio___init__) [V.int 1] [] (He.ma K (He.ga K "Ratio") "__init__") fd
  k_Ratio___init__ : PySem.W.keepIn K (.ref (He.ma K (He.ga K "Ratio") "__init__")) = true
  d__law_made : ∃ fd, FunD K "_law_made" "_law_made" (defArgs s__law_made) (defBody s__law_made) (defScope s__law_made) [] [] (He.ga K "_law_made") fd
  k__law_made : PySem.W.keepIn K (.ref (He.ga K "_law_made")) = true
  d__law_is : ∃ fd, FunD K "_law_is" "_law_is" (defArgs s__law_is) (defBody s__law_is) (defScope s__law_is) [] [] (He.ga K "_law_is") fd
  k__law_is : PySem.W.keepIn K (.ref (He.ga K "_law_is")) = true
  d__law_are : ∃ fd, FunD K "_law_are" "_law_are" (defArgs s__law_are) (defBody s__law_are) (defScope s__law_are) [] [] (He.ga K "_law_are") fd
  k__law_are : PySem.W.keepIn K (.ref (He.ga K "_law_are")) = true
  d_multiplied : ∃ fd, FunD K "multiplied" "multiplied" (defArgs s_multiplied) (defBody s_multiplied) (defScope s_multiplied) [] [] (He.ga K "multiplied") fd
  k_multiplied : PySem.W.keepIn K (.ref (He.ga K "multiplied")) = true
  d_Ratio_of : ∃ fd, FunD K "of" "Ratio.of" (defArgs s_Ratio_of) (defBody s_Ratio_of) (defScope s_Ratio_of) [] [] (He5.wf K (He.ga K "Ratio") "staticmethod" "of") fd
  k_Ratio_of : PySem.W.keepIn K (.ref (He5.wf K (He.ga K "Ratio") "staticmethod" "of")) = true
  d_Ratio___mul__ : ∃ fd, FunD K "__mul__" "Ratio.__mul__" (defArgs s_Ratio___mul__) (defBody s_Ratio___mul__) (defScope s_Ratio___mul__) [] [] (He.ma K (He.ga K "Ratio") "__mul__") fd
  k_Ratio___mul__ : PySem.W.keepIn K (.ref (He.ma K (He.ga K "Ratio") "__mul__")) = true
  d_Ratio___rmul__ : ∃ fd, FunD K "__rmul__" "Ratio.__rmul__" (defArgs s_Ratio___rmul__) (defBody s_Ratio___rmul__) (defScope s_Ratio___rmul__) [] [] (He.ma K (He.ga K "Ratio") "__rmul__") fd
  k_Ratio___rmul__ : PySem.W.keepIn K (.ref (He.ma K (He.ga K "Ratio") "__rmul__")) = true
  d_less_another : ∃ fd, FunD K "less_another" "less_another" (defArgs s_less_another) (defBody s_less_another) (defScope s_less_another) [] [] (He.ga K "less_another") fd
  k_less_another : PySem.W.keepIn K (.ref (He.ga K "less_another")) = true
  d_Ratio___sub__ : ∃ fd, FunD K "__sub__" "Ratio.__sub__" (defArgs s_Ratio___sub__) (defBody s_Ratio___sub__) (defScope s_Ratio___sub__) [] [] (He.ma K (He.ga K "Ratio") "__sub__") fd
  k_Ratio___sub__ : PySem.W.keepIn K (.ref (He.ma K (He.ga K "Ratio") "__sub__")) = true
  d_Ratio___rsub__ : ∃ fd, FunD K "__rsub__" "Ratio.__rsub__" (defArgs s_Ratio___rsub__) (defBody s_Ratio___rsub__) (defScope s_Ratio___rsub__) [] [] (He.ma K (He.ga K "Ratio") "__rsub__") fd
  k_Ratio___rsub__ : PySem.W.keepIn K (.ref (He.ma K (He.ga K "Ratio") "__rsub__")) = true
  d_added : ∃ fd, FunD K "added" "added" (defArgs s_added) (defBody s_added) (defScope s_added) [] [] (He.ga K "added") fd
  k_added : PySem.W.keepIn K (.ref (He.ga K "added")) = true
  d_Ratio___add__ : ∃ fd, FunD K "__add__" "Ratio.__add__" (defArgs s_Ratio___add__) (defBody s_Ratio___add__) (defScope s_Ratio___add__) [] [] (He.ma K (He.ga K "Ratio") "__add__") fd
  k_Ratio___add__ : PySem.W.keepIn K (.ref (He.ma K (He.ga K "Ratio") "__add__")) = true
  d_Ratio___radd__ : ∃ fd, FunD K "__radd__" "Ratio.__radd__" (defArgs s_Ratio___radd__) (defBody s_Ratio___radd__) (defScope s_Ratio___radd__) [] [] (He.ma K (He.ga K "Ratio") "__radd__") fd
  k_Ratio___radd__ : PySem.W.keepIn K (.ref (He.ma K (He.ga K "Ratio") "__radd__")) = true
  d__law_in_place : ∃ fd, FunD K "_law_in_place" "_law_in_place" (defArgs s__law_in_place) (defBody s__law_in_place) (defScope s__law_in_place) [] [] (He.ga K "_law_in_place") fd
  k__law_in_place : PySem.W.keepIn K (.ref (He.ga K "_law_in_place")) = true
  d__law_pair_right : ∃ fd, FunD K "_law_pair_right" "_law_pair_right" (defArgs s__law_pair_right) (defBody s__law_pair_right) (defScope s__law_pair_right) [] [] (He.ga K "_law_pair_right") fd
  k__law_pair_right : PySem.W.keepIn K (.ref (He.ga K "_law_pair_right")) = true
  d_Ratio___neg__ : ∃ fd, FunD K "__neg__" "Ratio.__neg__" (defArgs s_Ratio___neg__) (defBody s_Ratio___neg__) (defScope s_Ratio___neg__) [] [] (He.ma K (He.ga K "Ratio") "__neg__") fd
  k_Ratio___neg__ : PySem.W.keepIn K (.ref (He.ma K (He.ga K "Ratio") "__neg__")) = true
  d_Ratio___abs__ : ∃ fd, FunD K "__abs__" "Ratio.__abs__" (defArgs s_Ratio___abs__) (defBody s_Ratio___abs__) (defScope s_Ratio___abs__) [] [] (He.ma K (He.ga K "Ratio") "__abs__") fd
  k_Ratio___abs__ : PySem.W.keepIn K (.ref (He.ma K (He.ga K "Ratio") "__abs__")) = true
  d__law_alone_right : ∃ fd, FunD K "_law_alone_right" "_law_alone_right" (defArgs s__law_alone_right) (defBody s__law_alone_right) (defScope s__law_alone_right) [] [] (He.ga K "_law_alone_right") fd
  k__law_alone_right : PySem.W.keepIn K (.ref (He.ga K "_law_alone_right")) = true
  d_law : ∃ fd, FunD K "law" "law" (defArgs s_law) (defBody s_law) (defScope s_law) [] [] (He.ga K "law") fd
  k_law : PySem.W.keepIn K (.ref (He.ga K "law")) = true
section
variable {P : Program} {w : World} {K : PySem.W.Frag} {mg : Str → Option Value} {base : Heap}
theorem Tx.fld_top (T : Tx K mg) : FldsOk (WW K) "top" ft_top := by
  intro c i h
  unfold ft_top at h
  split at h
  · rename_i e; subst e; cases h; exact ⟨T.cls_Ratio, T.na_Ratio_top, rfl, by show (["top", "bottom"] : List Str).Nodup; decide +kernel⟩
  cases h
theorem Tx.fld_bottom (T : Tx K mg) : FldsOk (WW K) "bottom" ft_bottom := by
  intro c i h
  unfold ft_bottom at h
  split at h
  · rename_i e; subst e; cases h; exact ⟨T.cls_Ratio, T.na_Ratio_bottom, rfl, by show (["top", "bottom"] : List Str).Nodup; decide +kernel⟩
  cases h
theorem Tx.isOk (T : Tx K mg) : ClsOk (WW K) isOk := by
  intro c h
  simp only [K02.isOk, Bool.or_eq_true, decide_eq_true_eq] at h
  subst h; exact T.i_Ratio
theorem Tx.isTab (T : Tx K mg) : IsiOk (WW K) isTab := by
  intro t c b h
  unfold K02.isTab at h
  split at h
  · cases h; exact T.kit_int_int
  · cases h; exact T.kit_int_bool
  · cases h; exact T.kit_Ratio_Ratio
  · cases h; exact T.kit_int_Ratio
  · cases h; exact T.kit_int_Nothing
  · cases h
theorem sc__law_pen : FnScope ["_law_script"] ["_law_script"] (defScope s__law_pen) := ⟨rfl, rfl, rfl, by decide +kernel, rfl, by decide +kernel, by decide +kernel⟩
noncomputable def b__law_pen : GS' :=
  (gRet (gLstM (gCons (gCall fList (gCons (gSl (gVar 0) goNone (goSome (gC (.int 63)))) gNil)) (gCons (gC (.int 0)) (gCons (gC (.int 0)) gNil)))))
noncomputable def f__law_pen : List D → Stor → R D := gFn 1 1 b__law_pen
theorem fg__law_pen (T : Tx K mg) {fd : FuncData} (F : FunD K "_law_pen" "_law_pen" (defArgs s__law_pen) (defBody s__law_pen) (defScope s__law_pen) [] [] (He.ga K "_law_pen") fd) : FnG P w (WW K) mg base 1 (He.ga K "_law_pen") fd ["_law_script"] f__law_pen :=
  fng_of (W := WW K) (N := ["_law_script"]) F sc__law_pen (fun cdv A outer s H E hr gd =>
    (gs_one (gs_ret (ge_lstM (ga_cons (ge_callTy (cg_list rfl) rfl T.n_list (by decide +kernel) (ga_cons (ge_slice rfl (ge_var (pv 0)) go_none (go_some ge_int)) ga_nil)) (ga_cons ge_int (ga_cons ge_int ga_nil)))))))
theorem ok__law_pen (T : Tx K mg) : FnB P w (WW K) mg base 1 (He.ga K "_law_pen") ["_law_script"] f__law_pen := by
  obtain ⟨fd, F⟩ := T.d__law_pen
  exact ⟨⟨fd, fg__law_pen T F, F.bindsN fun _ _ _ _ _ _ us hl => match us, hl with | [_], _ => rfl⟩, T.k__law_pen⟩
theorem sc__law_draw : FnScope ["_law_pen_here", "_law_many", "_law_digit", "_law_at", "_law_cell", "_law_great", "_law_blended"] ["_law_pen_here", "_law_many"] (defScope s__law_draw) := ⟨rfl, rfl, rfl, by decide +kernel, rfl, by decide +kernel, by decide +kernel⟩
noncomputable def b__law_draw : GS' :=
  (gSeq (gIf (gTr truD (gBin dGtI (gBin dIx (gVar 0) (gC (.int 2))) (gC (.int 0)))) (gSeq (gSet 2 (gBin dModI (gCall fInt (gCons (gBin dIx (gVar 0) (gC (.int 2))) gNil)) (gVar 1)))
    (gSeq (gAsg (ggSub (gVar 0) (gC (.int 2))) (gBin dDivI (gCall fInt (gCons (gBin dIx (gVar 0) (gC (.int 2))) gNil)) (gVar 1)))
    (gRet (gVar 2)))) gSkip)
    (gSeq (gSet 3 (gBin dIx (gVar 0) (gC (.int 1))))
    (gSeq (gAsg (ggSub (gVar 0) (gC (.int 1))) (gBin dAdd (gVar 3) (gC (.int 1))))
    (gSeq (gSet 4 (gBin dAdd (gBin dMul (gC (.int 30433)) (gVar 3)) (gC (.int 415))))
    (gSeq (gIf (gTr truD (gBin dNe (gBin dIx (gVar 0) (gC (.int 0))) (gLst gNil))) (gSet 4 (gBin dIx (gBin dIx (gVar 0) (gC (.int 0))) (gBin dModI (gCall fInt (gCons (gVar 3) gNil)) (gCall fLen (gCons (gBin dIx (gVar 0) (gC (.int 0))) gNil))))) gSkip)
    (gSeq (gIf (gAnd (gTr truD (gBin dLtI (gVar 3) (gCall fLen (gCons (gBin dIx (gVar 0) (gC (.int 0))) gNil)))) (gTr truD (gBin dGeI (gCall fAbsI (gCons (gVar 4) gNil)) (gBin dPowI (gC (.int 10)) (gC (.int 18)))))) (gSeq (gSet 5 (gBin dAdd (gBin dMul (gC (.int 2)) (gBin dSubI (gCall fAbsI (gCons (gVar 4) gNil)) (gBin dPowI (gC (.int 10)) (gC (.int 18))))) (gCall fInt (gCons (gBin dLtI (gVar 4) (gC (.int 0))) gNil))))
    (gSeq (gAsg (ggSub (gVar 0) (gC (.int 2))) (gBin dDivI (gCall fInt (gCons (gVar 5) gNil)) (gVar 1)))
    (gRet (gBin dModI (gCall fInt (gCons (gVar 5) gNil)) (gVar 1))))) gSkip)
    (gSeq (gSet 6 (gBin dModI (gCall fInt (gCons (gBin dPowI (gBin dAdd (gBin dAdd (gBin dModI (gCall fInt (gCons (gVar 4) gNil)) (gC (.int 2147483629))) (gBin dMul (gC (.int 50095)) (gVar 3))) (gC (.int 95))) (gC (.int 5))) gNil)) (gC (.int 2147483549))))
    (gSeq (gSet 6 (gBin dModI (gCall fInt (gCons (gBin dPowI (gBin dAdd (gBin dAdd (gBin dMul (gVar 6) (gBin dAdd (gBin dMul (gC (.int 2)) (gVar 3)) (gC (.int 87)))) (gBin dMul (gBin dMul (gC (.int 40121)) (gVar 3)) (gVar 3))) (gC (.int 23))) (gC (.int 3))) gNil)) (gC (.int 2147483579))))
    (gRet (gBin dModI (gCall fInt (gCons (gBin dDivI (gVar 6) (gC (.int 32))) gNil)) (gVar 1)))))))))))
noncomputable def f__law_draw : List D → Stor → R D := gFn 2 7 b__law_draw
theorem fg__law_draw (T : Tx K mg) {fd : FuncData} (F : FunD K "_law_draw" "_law_draw" (defArgs s__law_draw) (defBody s__law_draw) (defScope s__law_draw) [] [] (He.ga K "_law_draw") fd) : FnG P w (WW K) mg base 1 (He.ga K "_law_draw") fd ["_law_pen_here", "_law_many"] f__law_draw :=
  fng_of (W := WW K) (N := ["_law_pen_here", "_law_many", "_law_digit", "_law_at", "_law_cell", "_law_great", "_law_blended"]) F sc__law_draw (fun cdv A outer s H E hr gd =>
    (gs_cons (gs_if (gt_cmp (tru_plain rfl) og_gtI (ge_ix rfl (ge_var (pv 0)) ge_int (fun _ _ => rfl)) ge_int (nomark _)) (gs_cons (gs_set (i := 2) sc__law_draw.nd rfl (by first | exact Or.inl rfl | exact Or.inr rfl) (ge_bin og_modI (ge_callTy cg_int rfl T.n_int (by decide +kernel) (ga_cons (ge_ix rfl (ge_var (pv 0)) ge_int (fun _ _ => rfl)) ga_nil)) (ge_var (pv 1))))
    (gs_cons (gs_asg (ge_bin og_divI (ge_callTy cg_int rfl T.n_int (by decide +kernel) (ga_cons (ge_ix rfl (ge_var (pv 0)) ge_int (fun _ _ => rfl)) ga_nil)) (ge_var (pv 1))) (gg_sub (E := fun _ => E) (ge_var (pv 0)) ge_int))
    (gs_one (gs_ret (ge_var (pv 2)))))) gs_nil)
    (gs_cons (gs_set (i := 3) sc__law_draw.nd rfl (by first | exact Or.inl rfl | exact Or.inr rfl) (ge_ix rfl (ge_var (pv 0)) ge_int (fun _ _ => rfl)))
    (gs_cons (gs_asg (ge_bin (og_add rfl) (ge_var (pv 3)) ge_int) (gg_sub (E := fun _ => E) (ge_var (pv 0)) ge_int))
    (gs_cons (gs_set (i := 4) sc__law_draw.nd rfl (by first | exact Or.inl rfl | exact Or.inr rfl) (ge_bin (og_add rfl) (ge_bin og_mul ge_int (ge_var (pv 3))) ge_int))
    (gs_cons (gs_if (gt_cmp (tru_plain rfl) (og_ne rfl hr.units) (ge_ix rfl (ge_var (pv 0)) ge_int (fun _ _ => rfl)) (ge_lst ga_nil) (nomark _)) (gs_one (gs_set (i := 4) sc__law_draw.nd rfl (by first | exact Or.inl rfl | exact Or.inr rfl) (ge_ix rfl (ge_ix rfl (ge_var (pv 0)) ge_int (fun _ _ => rfl)) (ge_bin og_modI (ge_callTy cg_int rfl T.n_int (by decide +kernel) (ga_cons (ge_var (pv 3)) ga_nil)) (ge_callB (cg_len rfl) rfl T.n_len (by decide +kernel) (ga_cons (ge_ix rfl (ge_var (pv 0)) ge_int (fun _ _ => rfl)) ga_nil))) (fun _ _ => rfl)))) gs_nil)
    (gs_cons (gs_if (PW.pt (gw_and (gt_cmp (tru_plain rfl) og_ltI (ge_var (pv 3)) (ge_callB (cg_len rfl) rfl T.n_len (by decide +kernel) (ga_cons (ge_ix rfl (ge_var (pv 0)) ge_int (fun _ _ => rfl)) ga_nil)) (nomark _)) (gw_and1 (gt_cmp (tru_plain rfl) og_geI (ge_callB cg_abs rfl T.n_abs (by decide +kernel) (ga_cons (ge_var (pv 4)) ga_nil)) (ge_bin og_powI ge_int ge_int) (nomark _))))) (gs_cons (gs_set (i := 5) sc__law_draw.nd rfl (by first | exact Or.inl rfl | exact Or.inr rfl) (ge_bin (og_add rfl) (ge_bin og_mul ge_int (ge_bin og_subI (ge_callB cg_abs rfl T.n_abs (by decide +kernel) (ga_cons (ge_var (pv 4)) ga_nil)) (ge_bin og_powI ge_int ge_int))) (ge_callTy cg_int rfl T.n_int (by decide +kernel) (ga_cons (ge_cmp og_ltI (ge_var (pv 4)) ge_int (nomark _)) ga_nil))))
    (gs_cons (gs_asg (ge_bin og_divI (ge_callTy cg_int rfl T.n_int (by decide +kernel) (ga_cons (ge_var (pv 5)) ga_nil)) (ge_var (pv 1))) (gg_sub (E := fun _ => E) (ge_var (pv 0)) ge_int))
    (gs_one (gs_ret (ge_bin og_modI (ge_callTy cg_int rfl T.n_int (by decide +kernel) (ga_cons (ge_var (pv 5)) ga_nil)) (ge_var (pv 1))))))) gs_nil)
    (gs_cons (gs_set (i := 6) sc__law_draw.nd rfl (by first | exact Or.inl rfl | exact Or.inr rfl) (ge_bin og_modI (ge_callTy cg_int rfl T.n_int (by decide +kernel) (ga_cons (ge_bin og_powI (ge_bin (og_add rfl) (ge_bin (og_add rfl) (ge_bin og_modI (ge_callTy cg_int rfl T.n_int (by decide +kernel) (ga_cons (ge_var (pv 4)) ga_nil)) ge_int) (ge_bin og_mul ge_int (ge_var (pv 3)))) ge_int) ge_int) ga_nil)) ge_int))
    (gs_cons (gs_set (i := 6) sc__law_draw.nd rfl (by first | exact Or.inl rfl | exact Or.inr rfl) (ge_bin og_modI (ge_callTy cg_int rfl T.n_int (by decide +kernel) (ga_cons (ge_bin og_powI (ge_bin (og_add rfl) (ge_bin (og_add rfl) (ge_bin og_mul (ge_var (pv 6)) (ge_bin (og_add rfl) (ge_bin og_mul ge_int (ge_var (pv 3))) ge_int)) (ge_bin og_mul (ge_bin og_mul ge_int (ge_var (pv 3))) (ge_var (pv 3)))) ge_int) ge_int) ga_nil)) ge_int))
    (gs_one (gs_ret (ge_bin og_modI (ge_callTy cg_int rfl T.n_int (by decide +kernel) (ga_cons (ge_bin og_divI (ge_var (pv 6)) ge_int) ga_nil)) (ge_var (pv 1))))))))))))))
theorem ok__law_draw (T : Tx K mg) : FnB P w (WW K) mg base 1 (He.ga K "_law_draw") ["_law_pen_here", "_law_many"] f__law_draw := by
  obtain ⟨fd, F⟩ := T.d__law_draw
  exact ⟨⟨fd, fg__law_draw T F, F.bindsN fun _ _ _ _ _ _ us hl => match us, hl with | [_, _], _ => rfl⟩, T.k__law_draw⟩
theorem sc__law_low : FnScope ["_law_upper", "_law_lower", "_law_first", "_law_second"] ["_law_upper", "_law_lower"] (defScope s__law_low) := ⟨rfl, rfl, rfl, by decide +kernel, rfl, by decide +kernel, by decide +kernel⟩
noncomputable def b__law_low : GS' :=
  (gSeq (gPar2 2 3 (gCons (gCall fAbsI (gCons (gCall fInt (gCons (gVar 0) gNil)) gNil)) (gCons (gCall fInt (gCons (gVar 1) gNil)) gNil)))
    (gSeq (gWhile (gTr truD (gBin dNe (gVar 3) (gC (.int 0)))) (gPar2 2 3 (gCons (gVar 3) (gCons (gBin dModI (gCall fInt (gCons (gVar 2) gNil)) (gVar 3)) gNil))) fuel)
    (gRet (gTup (gCons (gBin dDivI (gCall fInt (gCons (gVar 0) gNil)) (gVar 2)) (gCons (gBin dDivI (gCall fInt (gCons (gVar 1) gNil)) (gVar 2)) gNil))))))
noncomputable def f__law_low : List D → Stor → R D := gFn 2 4 b__law_low
theorem fg__law_low (T : Tx K mg) {fd : FuncData} (F : FunD K "_law_low" "_law_low" (defArgs s__law_low) (defBody s__law_low) (defScope s__law_low) [] [] (He.ga K "_law_low") fd) : FnG P w (WW K) mg base 1 (He.ga K "_law_low") fd ["_law_upper", "_law_lower"] f__law_low :=
  fng_of (W := WW K) (N := ["_law_upper", "_law_lower", "_law_first", "_law_second"]) F sc__law_low (fun cdv A outer s H E hr gd =>
    (gs_cons (gs_par2 (i := 2) (j := 3) rfl sc__law_low.nd rfl rfl (by decide) rfl rfl (ga_cons (ge_callB cg_abs rfl T.n_abs (by decide +kernel) (ga_cons (ge_callTy cg_int rfl T.n_int (by decide +kernel) (ga_cons (ge_var (pv 0)) ga_nil)) ga_nil)) (ga_cons (ge_callTy cg_int rfl T.n_int (by decide +kernel) (ga_cons (ge_var (pv 1)) ga_nil)) ga_nil)))
    (gs_cons (gs_while fuel own_def (gt_cmp (tru_plain rfl) (og_ne rfl hr.units) (ge_var (pv 3)) ge_int (nomark _)) (gs_one (gs_par2 (i := 2) (j := 3) rfl sc__law_low.nd rfl rfl (by decide) rfl rfl (ga_cons (ge_var (pv 3)) (ga_cons (ge_bin og_modI (ge_callTy cg_int rfl T.n_int (by decide +kernel) (ga_cons (ge_var (pv 2)) ga_nil)) (ge_var (pv 3))) ga_nil)))))
    (gs_one (gs_ret (ge_tup (ga_cons (ge_bin og_divI (ge_callTy cg_int rfl T.n_int (by decide +kernel) (ga_cons (ge_var (pv 0)) ga_nil)) (ge_var (pv 2))) (ga_cons (ge_bin og_divI (ge_callTy cg_int rfl T.n_int (by decide +kernel) (ga_cons (ge_var (pv 1)) ga_nil)) (ge_var (pv 2))) ga_nil))))))))
theorem ok__law_low (T : Tx K mg) : FnB P w (WW K) mg base 1 (He.ga K "_law_low") ["_law_upper", "_law_lower"] f__law_low := by
  obtain ⟨fd, F⟩ := T.d__law_low
  exact ⟨⟨fd, fg__law_low T F, F.bindsN fun _ _ _ _ _ _ us hl => match us, hl with | [_, _], _ => rfl⟩, T.k__law_low⟩
theorem sc__law_pick : FnScope ["_law_pen_here", "_law_some"] ["_law_pen_here", "_law_some"] (defScope s__law_pick) := ⟨rfl, rfl, rfl, by decide +kernel, rfl, by decide +kernel, by decide +kernel⟩
noncomputable def b__law_pick : GS' :=
  (gRet (gBin dIx (gVar 1) (gCall f__law_draw (gCons (gVar 0) (gCons (gCall fLen (gCons (gVar 1) gNil)) gNil)))))
noncomputable def f__law_pick : List D → Stor → R D := gFn 2 2 b__law_pick
theorem fg__law_pick (T : Tx K mg) {fd : FuncData} (F : FunD K "_law_pick" "_law_pick" (defArgs s__law_pick) (defBody s__law_pick) (defScope s__law_pick) [] [] (He.ga K "_law_pick") fd) : FnG P w (WW K) mg base 2 (He.ga K "_law_pick") fd ["_law_pen_here", "_law_some"] f__law_pick :=
  fng_of (W := WW K) (N := ["_law_pen_here", "_law_some"]) F sc__law_pick (fun cdv A outer s H E hr gd =>
    (gs_one (gs_ret (ge_ix rfl (ge_var (pv 1)) (ge_call (cg_b (ok__law_draw T) rfl (hr.mono (by decide)) gd pass_def) rfl T.g__law_draw T.k__law_draw (ga_cons (ge_var (pv 0)) (ga_cons (ge_callB (cg_len rfl) rfl T.n_len (by decide +kernel) (ga_cons (ge_var (pv 1)) ga_nil)) ga_nil))) (fun _ _ => rfl)))))
theorem ok__law_pick (T : Tx K mg) : FnB P w (WW K) mg base 2 (He.ga K "_law_pick") ["_law_pen_here", "_law_some"] f__law_pick := by
  obtain ⟨fd, F⟩ := T.d__law_pick
  exact ⟨⟨fd, fg__law_pick T F, F.bindsN fun _ _ _ _ _ _ us hl => match us, hl with | [_, _], _ => rfl⟩, T.k__law_pick⟩
theorem sc__law_fraction : FnScope ["_law_pen_here", "_law_tops", "_law_bottoms", "_law_sign"] ["_law_pen_here"] (defScope s__law_fraction) := ⟨rfl, rfl, rfl, by decide +kernel, rfl, by decide +kernel, by decide +kernel⟩
noncomputable def b__law_fraction : GS' :=
  (gSeq (gSet 1 (gLst (gCons (gC (.int 0)) (gCons (gC (.int 1)) (gCons (gC (.int 1)) (gCons (gC (.int 2)) (gCons (gC (.int 3)) (gCons (gC (.int 5)) (gCons (gC (.int 7)) (gCons (gC (.int 12)) (gCons (gC (.int 30)) (gCons (gBin dAdd (gBin dPowI (gC (.int 10)) (gC (.int 9))) (gC (.int 7))) (gCons (gBin dPowI (gC (.int 10)) (gC (.int 29))) (gCons (gCall f__law_draw (gCons (gVar 0) (gCons (gC (.int 100)) gNil))) gNil))))))))))))))
    (gSeq (gSet 2 (gLst (gCons (gC (.int 1)) (gCons (gC (.int 1)) (gCons (gC (.int 1)) (gCons (gC (.int 2)) (gCons (gC (.int 2)) (gCons (gC (.int 3)) (gCons (gC (.int 4)) (gCons (gC (.int 6)) (gCons (gC (.int 12)) (gCons (gBin dAdd (gBin dPowI (gC (.int 10)) (gC (.int 9))) (gC (.int 7))) (gCons (gBin dPowI (gC (.int 10)) (gC (.int 29))) (gCons (gBin dAdd (gC (.int 1)) (gCall f__law_draw (gCons (gVar 0) (gCons (gC (.int 100)) gNil)))) gNil))))))))))))))
    (gSeq (gSet 3 (gBin dSubI (gC (.int 1)) (gBin dMul (gC (.int 2)) (gCall fInt (gCons (gBin dEq (gCall f__law_draw (gCons (gVar 0) (gCons (gC (.int 3)) gNil))) (gC (.int 0))) gNil)))))
    (gRet (gCall f__law_low (gCons (gBin dMul (gVar 3) (gCall f__law_pick (gCons (gVar 0) (gCons (gVar 1) gNil)))) (gCons (gCall f__law_pick (gCons (gVar 0) (gCons (gVar 2) gNil))) gNil)))))))
noncomputable def f__law_fraction : List D → Stor → R D := gFn 1 4 b__law_fraction
theorem fg__law_fraction (T : Tx K mg) {fd : FuncData} (F : FunD K "_law_fraction" "_law_fraction" (defArgs s__law_fraction) (defBody s__law_fraction) (defScope s__law_fraction) [] [] (He.ga K "_law_fraction") fd) : FnG P w (WW K) mg base 3 (He.ga K "_law_fraction") fd ["_law_pen_here"] f__law_fraction :=
  fng_of (W := WW K) (N := ["_law_pen_here", "_law_tops", "_law_bottoms", "_law_sign"]) F sc__law_fraction (fun cdv A outer s H E hr gd =>
    (gs_cons (gs_set (i := 1) sc__law_fraction.nd rfl (by first | exact Or.inl rfl | exact Or.inr rfl) (ge_lst (ga_cons ge_int (ga_cons ge_int (ga_cons ge_int (ga_cons ge_int (ga_cons ge_int (ga_cons ge_int (ga_cons ge_int (ga_cons ge_int (ga_cons ge_int (ga_cons (ge_bin (og_add rfl) (ge_bin og_powI ge_int ge_int) ge_int) (ga_cons (ge_bin og_powI ge_int ge_int) (ga_cons (ge_call (cg_b (ok__law_draw T) rfl (hr.mono (by decide)) gd pass_def) rfl T.g__law_draw T.k__law_draw (ga_cons (ge_var (pv 0)) (ga_cons ge_int ga_nil))) ga_nil))))))))))))))
    (gs_cons (gs_set (i := 2) sc__law_fraction.nd rfl (by first | exact Or.inl rfl | exact Or.inr rfl) (ge_lst (ga_cons ge_int (ga_cons ge_int (ga_cons ge_int (ga_cons ge_int (ga_cons ge_int (ga_cons ge_int (ga_cons ge_int (ga_cons ge_int (ga_cons ge_int (ga_cons (ge_bin (og_add rfl) (ge_bin og_powI ge_int ge_int) ge_int) (ga_cons (ge_bin og_powI ge_int ge_int) (ga_cons (ge_bin (og_add rfl) ge_int (ge_call (cg_b (ok__law_draw T) rfl (hr.mono (by decide)) gd pass_def) rfl T.g__law_draw T.k__law_draw (ga_cons (ge_var (pv 0)) (ga_cons ge_int ga_nil)))) ga_nil))))))))))))))
    (gs_cons (gs_set (i := 3) sc__law_fraction.nd rfl (by first | exact Or.inl rfl | exact Or.inr rfl) (ge_bin og_subI ge_int (ge_bin og_mul ge_int (ge_callTy cg_int rfl T.n_int (by decide +kernel) (ga_cons (ge_cmp (og_eq rfl hr.units) (ge_call (cg_b (ok__law_draw T) rfl (hr.mono (by decide)) gd pass_def) rfl T.g__law_draw T.k__law_draw (ga_cons (ge_var (pv 0)) (ga_cons ge_int ga_nil))) ge_int (nomark _)) ga_nil)))))
    (gs_one (gs_ret (ge_call (cg_b (ok__law_low T) rfl (hr.mono (by decide)) gd pass_def) rfl T.g__law_low T.k__law_low (ga_cons (ge_bin og_mul (ge_var (pv 3)) (ge_call (cg_b (ok__law_pick T) rfl (hr.mono (by decide)) gd pass_def) rfl T.g__law_pick T.k__law_pick (ga_cons (ge_var (pv 0)) (ga_cons (ge_var (pv 1)) ga_nil)))) (ga_cons (ge_call (cg_b (ok__law_pick T) rfl (hr.mono (by decide)) gd pass_def) rfl T.g__law_pick T.k__law_pick (ga_cons (ge_var (pv 0)) (ga_cons (ge_var (pv 2)) ga_nil))) ga_nil)))))))))
theorem ok__law_fraction (T : Tx K mg) : FnB P w (WW K) mg base 3 (He.ga K "_law_fraction") ["_law_pen_here"] f__law_fraction := by
  obtain ⟨fd, F⟩ := T.d__law_fraction
  exact ⟨⟨fd, fg__law_fraction T F, F.bindsN fun _ _ _ _ _ _ us hl => match us, hl with | [_], _ => rfl⟩, T.k__law_fraction⟩
theorem sc__law_results : FnScope ["_law_one", "_law_other", "_law_found"] ["_law_one", "_law_other"] (defScope s__law_results) := ⟨rfl, rfl, rfl, by decide +kernel, rfl, by decide +kernel, by decide +kernel⟩
noncomputable def b__law_results : GS' :=
  (gSeq (gSet 2 (gLstM (gCons (gCall f__law_low (gCons (gBin dAdd (gBin dMul (gBin dIx (gVar 0) (gC (.int 0))) (gBin dIx (gVar 1) (gC (.int 1)))) (gBin dMul (gBin dIx (gVar 1) (gC (.int 0))) (gBin dIx (gVar 0) (gC (.int 1))))) (gCons (gBin dMul (gBin dIx (gVar 0) (gC (.int 1))) (gBin dIx (gVar 1) (gC (.int 1)))) gNil))) gNil)))
    (gSeq (gExpr (gMtL mAppend (gVar 2) (gCons (gCall f__law_low (gCons (gBin dSubI (gBin dMul (gBin dIx (gVar 0) (gC (.int 0))) (gBin dIx (gVar 1) (gC (.int 1)))) (gBin dMul (gBin dIx (gVar 1) (gC (.int 0))) (gBin dIx (gVar 0) (gC (.int 1))))) (gCons (gBin dMul (gBin dIx (gVar 0) (gC (.int 1))) (gBin dIx (gVar 1) (gC (.int 1)))) gNil))) gNil)))
    (gSeq (gExpr (gMtL mAppend (gVar 2) (gCons (gCall f__law_low (gCons (gBin dMul (gBin dIx (gVar 0) (gC (.int 0))) (gBin dIx (gVar 1) (gC (.int 0)))) (gCons (gBin dMul (gBin dIx (gVar 0) (gC (.int 1))) (gBin dIx (gVar 1) (gC (.int 1)))) gNil))) gNil)))
    (gRet (gVar 2)))))
noncomputable def f__law_results : List D → Stor → R D := fun ds M => frz M (gFn 2 3 b__law_results ds M)
theorem fg__law_results (T : Tx K mg) {fd : FuncData} (F : FunD K "_law_results" "_law_results" (defArgs s__law_results) (defBody s__law_results) (defScope s__law_results) [] [] (He.ga K "_law_results") fd) : FnG P w (WW K) mg base 2 (He.ga K "_law_results") fd ["_law_one", "_law_other"] f__law_results :=
  FnG.frz (fng_of (W := WW K) (N := ["_law_one", "_law_other", "_law_found"]) F sc__law_results (fun cdv A outer s H E hr gd =>
    (gs_cons (gs_set (i := 2) sc__law_results.nd rfl (by first | exact Or.inl rfl | exact Or.inr rfl) (ge_lstM (ga_cons (ge_call (cg_b (ok__law_low T) rfl (hr.mono (by decide)) gd pass_def) rfl T.g__law_low T.k__law_low (ga_cons (ge_bin (og_add rfl) (ge_bin og_mul (ge_ix rfl (ge_var (pv 0)) ge_int (fun _ _ => rfl)) (ge_ix rfl (ge_var (pv 1)) ge_int (fun _ _ => rfl))) (ge_bin og_mul (ge_ix rfl (ge_var (pv 1)) ge_int (fun _ _ => rfl)) (ge_ix rfl (ge_var (pv 0)) ge_int (fun _ _ => rfl)))) (ga_cons (ge_bin og_mul (ge_ix rfl (ge_var (pv 0)) ge_int (fun _ _ => rfl)) (ge_ix rfl (ge_var (pv 1)) ge_int (fun _ _ => rfl))) ga_nil))) ga_nil)))
    (gs_cons (gs_expr (ge_mtL rfl PySem.F.slot_list_append PySem.F.type_list_append mg_append (ge_var (pv 2)) (ga_cons (ge_call (cg_b (ok__law_low T) rfl (hr.mono (by decide)) gd pass_def) rfl T.g__law_low T.k__law_low (ga_cons (ge_bin og_subI (ge_bin og_mul (ge_ix rfl (ge_var (pv 0)) ge_int (fun _ _ => rfl)) (ge_ix rfl (ge_var (pv 1)) ge_int (fun _ _ => rfl))) (ge_bin og_mul (ge_ix rfl (ge_var (pv 1)) ge_int (fun _ _ => rfl)) (ge_ix rfl (ge_var (pv 0)) ge_int (fun _ _ => rfl)))) (ga_cons (ge_bin og_mul (ge_ix rfl (ge_var (pv 0)) ge_int (fun _ _ => rfl)) (ge_ix rfl (ge_var (pv 1)) ge_int (fun _ _ => rfl))) ga_nil))) ga_nil)))
    (gs_cons (gs_expr (ge_mtL rfl PySem.F.slot_list_append PySem.F.type_list_append mg_append (ge_var (pv 2)) (ga_cons (ge_call (cg_b (ok__law_low T) rfl (hr.mono (by decide)) gd pass_def) rfl T.g__law_low T.k__law_low (ga_cons (ge_bin og_mul (ge_ix rfl (ge_var (pv 0)) ge_int (fun _ _ => rfl)) (ge_ix rfl (ge_var (pv 1)) ge_int (fun _ _ => rfl))) (ga_cons (ge_bin og_mul (ge_ix rfl (ge_var (pv 0)) ge_int (fun _ _ => rfl)) (ge_ix rfl (ge_var (pv 1)) ge_int (fun _ _ => rfl))) ga_nil))) ga_nil)))
    (gs_one (gs_ret (ge_var (pv 2)))))))))
theorem ok__law_results (T : Tx K mg) : FnB P w (WW K) mg base 2 (He.ga K "_law_results") ["_law_one", "_law_other"] f__law_results := by
  obtain ⟨fd, F⟩ := T.d__law_results
  exact ⟨⟨fd, fg__law_results T F, F.bindsN fun _ _ _ _ _ _ us hl => match us, hl with | [_, _], _ => rfl⟩, T.k__law_results⟩
theorem sc_is_integer : FnScope ["value"] ["value"] (defScope s_is_integer) := ⟨rfl, rfl, rfl, by decide +kernel, rfl, by decide +kernel, by decide +kernel⟩
noncomputable def b_is_integer : GS' :=
  (gRet (gAndV truD (gCall (fIsi isOk isTab) (gCons (gVar 0) (gCons (gC (.ty "int")) gNil))) (gNotV truD (gCall (fIsi isOk isTab) (gCons (gVar 0) (gCons (gC (.ty "bool")) gNil))))))
noncomputable def f_is_integer : List D → Stor → R D := gFn 1 1 b_is_integer
theorem fg_is_integer (T : Tx K mg) {fd : FuncData} (F : FunD K "is_integer" "is_integer" (defArgs s_is_integer) (defBody s_is_integer) (defScope s_is_integer) [] [] (He.ga K "is_integer") fd) : FnG P w (WW K) mg base 1 (He.ga K "is_integer") fd ["value"] f_is_integer :=
  fng_of (W := WW K) (N := ["value"]) F sc_is_integer (fun cdv A outer s H E hr gd =>
    (gs_one (gs_ret (ge_and (tru_plain rfl) (ge_callB (cg_isi rfl T.isOk T.isTab) rfl T.n_isinstance (by decide +kernel) (ga_cons (ge_var (pv 0)) (ga_cons (ge_ty rfl T.n_int (by decide +kernel)) ga_nil))) (ge_one (ge_not (tru_plain rfl) (ge_callB (cg_isi rfl T.isOk T.isTab) rfl T.n_isinstance (by decide +kernel) (ga_cons (ge_var (pv 0)) (ga_cons (ge_ty rfl T.n_bool (by decide +kernel)) ga_nil)))))))))
theorem ok_is_integer (T : Tx K mg) : FnB P w (WW K) mg base 1 (He.ga K "is_integer") ["value"] f_is_integer := by
  obtain ⟨fd, F⟩ := T.d_is_integer
  exact ⟨⟨fd, fg_is_integer T F, F.bindsN fun _ _ _ _ _ _ us hl => match us, hl with | [_], _ => rfl⟩, T.k_is_integer⟩
theorem sc_common : FnScope ["one", "other", "first", "second"] ["one", "other"] (defScope s_common) := ⟨rfl, rfl, rfl, by decide +kernel, rfl, by decide +kernel, by decide +kernel⟩
noncomputable def b_common : GS' :=
  (gSeq (gPar2 2 3 (gCons (gCall fAbsI (gCons (gVar 0) gNil)) (gCons (gVar 1) gNil)))
    (gSeq (gWhile (gTr truD (gBin dNe (gVar 3) (gC (.int 0)))) (gPar2 2 3 (gCons (gVar 3) (gCons (gBin dModI (gVar 2) (gVar 3)) gNil))) fuel)
    (gRet (gVar 2))))
noncomputable def f_common : List D → Stor → R D := gFn 2 4 b_common
theorem fg_common (T : Tx K mg) {fd : FuncData} (F : FunD K "common" "common" (defArgs s_common) (defBody s_common) (defScope s_common) [] [] (He.ga K "common") fd) : FnG P w (WW K) mg base 1 (He.ga K "common") fd ["one", "other"] f_common :=
  fng_of (W := WW K) (N := ["one", "other", "first", "second"]) F sc_common (fun cdv A outer s H E hr gd =>
    (gs_cons (gs_par2 (i := 2) (j := 3) rfl sc_common.nd rfl rfl (by decide) rfl rfl (ga_cons (ge_callB cg_abs rfl T.n_abs (by decide +kernel) (ga_cons (ge_var (pv 0)) ga_nil)) (ga_cons (ge_var (pv 1)) ga_nil)))
    (gs_cons (gs_while fuel own_def (gt_cmp (tru_plain rfl) (og_ne rfl hr.units) (ge_var (pv 3)) ge_int (nomark _)) (gs_one (gs_par2 (i := 2) (j := 3) rfl sc_common.nd rfl rfl (by decide) rfl rfl (ga_cons (ge_var (pv 3)) (ga_cons (ge_bin og_modI (ge_var (pv 2)) (ge_var (pv 3))) ga_nil)))))
    (gs_one (gs_ret (ge_var (pv 2)))))))
theorem ok_common (T : Tx K mg) : FnB P w (WW K) mg base 1 (He.ga K "common") ["one", "other"] f_common := by
  obtain ⟨fd, F⟩ := T.d_common
  exact ⟨⟨fd, fg_common T F, F.bindsN fun _ _ _ _ _ _ us hl => match us, hl with | [_, _], _ => rfl⟩, T.k_common⟩
theorem sc_Ratio___init__ : FnScope ["self", "top", "bottom", "shared"] ["self", "top", "bottom"] (defScope s_Ratio___init__) := ⟨rfl, rfl, rfl, by decide +kernel, rfl, by decide +kernel, by decide +kernel⟩
noncomputable def b_Ratio___init__ : GS' :=
  (gSeq (gIf (gNot (gTr truD (gCall f_is_integer (gCons (gVar 1) gNil)))) gStuck gSkip)
    (gIf (gTr truD (gCall (fIsi isOk isTab) (gCons (gVar 2) (gCons (gC (.cls 4)) gNil)))) (gSeq (gSetF ft_top (gVar 0) (gC (.int 1)))
    (gSetF ft_bottom (gVar 0) (gC (.int 0)))) (gIf (gOr (gNot (gTr truD (gCall f_is_integer (gCons (gVar 2) gNil)))) (gTr truD (gBin dLtI (gVar 2) (gC (.int 1))))) gStuck (gSeq (gSet 3 (gCall f_common (gCons (gVar 1) (gCons (gVar 2) gNil))))
    (gSeq (gSetF ft_top (gVar 0) (gBin dDivI (gVar 1) (gVar 3)))
    (gSetF ft_bottom (gVar 0) (gBin dDivI (gVar 2) (gVar 3))))))))
noncomputable def f_Ratio___init__ : List D → Stor → R D := gFn 3 4 b_Ratio___init__
theorem fg_Ratio___init__ (T : Tx K mg) {fd : FuncData} (F : FunD K "__init__" "Ratio.__init__" (defArgs s_Ratio___init__) (defBody s_Ratio___init__) (defScope s_Ratio___init__) [V.int 1] [] (He.ma K (He.ga K "Ratio") "__init__") fd) : FnG P w (WW K) mg base 2 (He.ma K (He.ga K "Ratio") "__init__") fd ["self", "top", "bottom"] f_Ratio___init__ :=
  fng_of (W := WW K) (N := ["self", "top", "bottom", "shared"]) F sc_Ratio___init__ (fun cdv A outer s H E hr gd =>
    (gs_cons (gs_if (gt_not (gt_tr (tru_plain rfl) (ge_call (cg_b (ok_is_integer T) rfl (hr.mono (by decide)) gd pass_def) rfl T.g_is_integer T.k_is_integer (ga_cons (ge_var (pv 1)) ga_nil)))) (gs_one gs_stuck) gs_nil)
    (gs_one (gs_if (gt_tr (tru_plain rfl) (ge_callB (cg_isi rfl T.isOk T.isTab) rfl T.n_isinstance (by decide +kernel) (ga_cons (ge_var (pv 2)) (ga_cons (ge_cls (c := 4) rfl T.g_Nothing) ga_nil)))) (gs_cons (gs_setF rfl (T.fld_top) (ge_var (pv 0)) ge_int)
    (gs_one (gs_setF rfl (T.fld_bottom) (ge_var (pv 0)) ge_int))) (gs_one (gs_if (PW.pt (gw_or (gt_not (gt_tr (tru_plain rfl) (ge_call (cg_b (ok_is_integer T) rfl (hr.mono (by decide)) gd pass_def) rfl T.g_is_integer T.k_is_integer (ga_cons (ge_var (pv 2)) ga_nil)))) (gw_or1 (gt_cmp (tru_plain rfl) og_ltI (ge_var (pv 2)) ge_int (nomark _))))) (gs_one gs_stuck) (gs_cons (gs_set (i := 3) sc_Ratio___init__.nd rfl (by first | exact Or.inl rfl | exact Or.inr rfl) (ge_call (cg_b (ok_common T) rfl (hr.mono (by decide)) gd pass_def) rfl T.g_common T.k_common (ga_cons (ge_var (pv 1)) (ga_cons (ge_var (pv 2)) ga_nil))))
    (gs_cons (gs_setF rfl (T.fld_top) (ge_var (pv 0)) (ge_bin og_divI (ge_var (pv 1)) (ge_var (pv 3))))
    (gs_one (gs_setF rfl (T.fld_bottom) (ge_var (pv 0)) (ge_bin og_divI (ge_var (pv 2)) (ge_var (pv 3)))))))))))))
theorem okd_Ratio___init___0 (T : Tx K mg) : FnBD P w (WW K) mg base 2 (He.ma K (He.ga K "Ratio") "__init__") ["self", "top", "bottom"] [] f_Ratio___init__ := by
  obtain ⟨fd, F⟩ := T.d_Ratio___init__
  obtain ⟨dus, hv, hb⟩ := F.binds1 (ps := ["self", "top", "bottom"]) 3 1 (by simp) (by decide) fun _ _ _ _ _ _ _ us its hl hi => match us, its, hl, hi with | [_, _, _], [_], _, _ => ⟨_, rfl, rfl⟩
  exact ⟨⟨fd, [], dus, fg_Ratio___init__ T F, hb, hv, fun F ρ => IsL.nil⟩, T.k_Ratio___init__⟩
theorem okd_Ratio___init___1 (T : Tx K mg) : FnBD P w (WW K) mg base 2 (He.ma K (He.ga K "Ratio") "__init__") ["self", "top", "bottom"] [.int 1] f_Ratio___init__ := by
  obtain ⟨fd, F⟩ := T.d_Ratio___init__
  obtain ⟨dus, hv, hb⟩ := F.binds1 (ps := ["self", "top", "bottom"]) 2 0 (by simp) (by decide) fun _ _ _ _ _ _ _ us its hl hi => match us, its, hl, hi with | [_, _], [_], _, _ => ⟨_, rfl, rfl⟩
  exact ⟨⟨fd, [V.int 1], dus, fg_Ratio___init__ T F, hb, hv, fun F ρ => IsL.cons (by simp only [Is]) (IsL.nil)⟩, T.k_Ratio___init__⟩
theorem sc__law_made : FnScope ["_law_pair"] ["_law_pair"] (defScope s__law_made) := ⟨rfl, rfl, rfl, by decide +kernel, rfl, by decide +kernel, by decide +kernel⟩
noncomputable def b__law_made : GS' :=
  (gRet (gIfE (gTr truD (gBin dEq (gBin dIx (gVar 0) (gC (.int 1))) (gC (.int 0)))) (fun _ _ => .no) (gCall (gMake 5 [] f_Ratio___init__) (gCons (gBin dIx (gVar 0) (gC (.int 0))) (gCons (gBin dIx (gVar 0) (gC (.int 1))) gNil)))))
noncomputable def f__law_made : List D → Stor → R D := gFn 1 1 b__law_made
theorem fg__law_made (T : Tx K mg) {fd : FuncData} (F : FunD K "_law_made" "_law_made" (defArgs s__law_made) (defBody s__law_made) (defScope s__law_made) [] [] (He.ga K "_law_made") fd) : FnG P w (WW K) mg base 4 (He.ga K "_law_made") fd ["_law_pair"] f__law_made :=
  fng_of (W := WW K) (N := ["_law_pair"]) F sc__law_made (fun cdv A outer s H E hr gd =>
    (gs_one (gs_ret (ge_ifExp (gt_cmp (tru_plain rfl) (og_eq rfl hr.units) (ge_ix rfl (ge_var (pv 0)) ge_int (fun _ _ => rfl)) ge_int (nomark _)) ge_stuck (ge_call (cg_make (c := 5) T.mk_Ratio (okd_Ratio___init___0 T) rfl (hr.mono (by decide)) gd pass_def) rfl T.g_Ratio T.mk_Ratio.kp (ga_cons (ge_ix rfl (ge_var (pv 0)) ge_int (fun _ _ => rfl)) (ga_cons (ge_ix rfl (ge_var (pv 0)) ge_int (fun _ _ => rfl)) ga_nil)))))))
theorem ok__law_made (T : Tx K mg) : FnB P w (WW K) mg base 4 (He.ga K "_law_made") ["_law_pair"] f__law_made := by
  obtain ⟨fd, F⟩ := T.d__law_made
  exact ⟨⟨fd, fg__law_made T F, F.bindsN fun _ _ _ _ _ _ us hl => match us, hl with | [_], _ => rfl⟩, T.k__law_made⟩
theorem sc__law_is : FnScope ["_law_found", "_law_pair"] ["_law_found", "_law_pair"] (defScope s__law_is) := ⟨rfl, rfl, rfl, by decide +kernel, rfl, by decide +kernel, by decide +kernel⟩
noncomputable def b__law_is : GS' :=
  (gRet (gAndV truD (gCall (fIsi isOk isTab) (gCons (gVar 0) (gCons (gC (.cls 5)) gNil))) (gBin dEq (gCall fRepr (gCons (gTup (gCons (gUn (dFld ft_top) (gVar 0)) (gCons (gUn (dFld ft_bottom) (gVar 0)) gNil))) gNil)) (gCall fRepr (gCons (gVar 1) gNil)))))
noncomputable def f__law_is : List D → Stor → R D := gFn 2 2 b__law_is
theorem fg__law_is (T : Tx K mg) {fd : FuncData} (F : FunD K "_law_is" "_law_is" (defArgs s__law_is) (defBody s__law_is) (defScope s__law_is) [] [] (He.ga K "_law_is") fd) : FnG P w (WW K) mg base 1 (He.ga K "_law_is") fd ["_law_found", "_law_pair"] f__law_is :=
  fng_of (W := WW K) (N := ["_law_found", "_law_pair"]) F sc__law_is (fun cdv A outer s H E hr gd =>
    (gs_one (gs_ret (ge_and (tru_plain rfl) (ge_callB (cg_isi rfl T.isOk T.isTab) rfl T.n_isinstance (by decide +kernel) (ga_cons (ge_var (pv 0)) (ga_cons (ge_cls (c := 5) rfl T.g_Ratio) ga_nil))) (ge_one (ge_cmp (og_eq rfl hr.units) (ge_callB (cg_repr rfl gd hr.units) rfl T.n_repr (by decide +kernel) (ga_cons (ge_tup (ga_cons (ge_fld rfl (T.fld_top) (ge_var (pv 0))) (ga_cons (ge_fld rfl (T.fld_bottom) (ge_var (pv 0))) ga_nil))) ga_nil)) (ge_callB (cg_repr rfl gd hr.units) rfl T.n_repr (by decide +kernel) (ga_cons (ge_var (pv 1)) ga_nil)) (nomark _)))))))
theorem ok__law_is (T : Tx K mg) : FnB P w (WW K) mg base 1 (He.ga K "_law_is") ["_law_found", "_law_pair"] f__law_is := by
  obtain ⟨fd, F⟩ := T.d__law_is
  exact ⟨⟨fd, fg__law_is T F, F.bindsN fun _ _ _ _ _ _ us hl => match us, hl with | [_, _], _ => rfl⟩, T.k__law_is⟩
theorem sc__law_are : FnScope ["_law_found", "_law_due", "_law_at"] ["_law_found", "_law_due"] (defScope s__law_are) := ⟨rfl, rfl, rfl, by decide +kernel, rfl, by decide +kernel, by decide +kernel⟩
noncomputable def b__law_are : GS' :=
  (gSeq (gIf (gTr truD (gBin dNe (gCall fLen (gCons (gVar 0) gNil)) (gCall fLen (gCons (gVar 1) gNil)))) (gRet (gC (.bl false))) gSkip)
    (gRet (gBin dEq (gComp (giRange1 (gCons (gCall fLen (gCons (gVar 1) gNil)) gNil)) (.one 2) (gNot (gTr truD (gCall f__law_is (gCons (gBin dIx (gVar 0) (gVar 2)) (gCons (gBin dIx (gVar 1) (gVar 2)) gNil))))) (gVar 2)) (gLst gNil))))
noncomputable def f__law_are : List D → Stor → R D := gFn 2 3 b__law_are
theorem fg__law_are (T : Tx K mg) {fd : FuncData} (F : FunD K "_law_are" "_law_are" (defArgs s__law_are) (defBody s__law_are) (defScope s__law_are) [] [] (He.ga K "_law_are") fd) : FnG P w (WW K) mg base 2 (He.ga K "_law_are") fd ["_law_found", "_law_due"] f__law_are :=
  fng_of (W := WW K) (N := ["_law_found", "_law_due", "_law_at"]) F sc__law_are (fun cdv A outer s H E hr gd =>
    (gs_cons (gs_if (gt_cmp (tru_plain rfl) (og_ne rfl hr.units) (ge_callB (cg_len rfl) rfl T.n_len (by decide +kernel) (ga_cons (ge_var (pv 0)) ga_nil)) (ge_callB (cg_len rfl) rfl T.n_len (by decide +kernel) (ga_cons (ge_var (pv 1)) ga_nil)) (nomark _)) (gs_one (gs_ret ge_bl)) gs_nil)
    (gs_one (gs_ret (ge_cmp (og_eq rfl hr.units) (ge_comp (own := [("_law_at", 2)]) (t := (.one 2)) rfl rfl sc__law_are.nd (gi_range1 rfl T.n_range (ga_cons (ge_callB (cg_len rfl) rfl T.n_len (by decide +kernel) (ga_cons (ge_var (pv 1)) ga_nil)) ga_nil)) (blkOk_by (own := [("_law_at", 2)]) (N := ["_law_found", "_law_due", "_law_at"]) (sc := defScope s__law_are) (by decide +kernel)) rfl (fun _ _ _ _ _ => pg_name (i := 2) sc__law_are.nd rfl (Or.inl rfl)) (fun _ _ _ _ _ => (pts_one (gt_not (gt_tr (tru_plain rfl) (ge_call (cg_b (ok__law_is T) rfl (hr.mono (by decide)) gd pass_E0) rfl T.g__law_is T.k__law_is (ga_cons (ge_ix rfl (ge_var (pv 0)) (ge_var (pv 2)) (fun _ _ => rfl)) (ga_cons (ge_ix rfl (ge_var (pv 1)) (ge_var (pv 2)) (fun _ _ => rfl)) ga_nil))))))) (fun _ _ _ _ _ => (ge_var (pv 2)))) (ge_lst ga_nil) (nomark _))))))
theorem ok__law_are (T : Tx K mg) : FnB P w (WW K) mg base 2 (He.ga K "_law_are") ["_law_found", "_law_due"] f__law_are := by
  obtain ⟨fd, F⟩ := T.d__law_are
  exact ⟨⟨fd, fg__law_are T F, F.bindsN fun _ _ _ _ _ _ us hl => match us, hl with | [_, _], _ => rfl⟩, T.k__law_are⟩
theorem sc_multiplied : FnScope ["one", "other"] ["one", "other"] (defScope s_multiplied) := ⟨rfl, rfl, rfl, by decide +kernel, rfl, by decide +kernel, by decide +kernel⟩
noncomputable def b_multiplied : GS' :=
  (gSeq (gIf (gOr (gTr truD (gBin dEq (gUn (dFld ft_bottom) (gVar 0)) (gC (.int 0)))) (gTr truD (gBin dEq (gUn (dFld ft_bottom) (gVar 1)) (gC (.int 0))))) (gSeq (gIf (gOr (gTr truD (gBin dLtI (gUn (dFld ft_top) (gVar 0)) (gC (.int 1)))) (gTr truD (gBin dLtI (gUn (dFld ft_top) (gVar 1)) (gC (.int 1))))) gStuck gSkip)
    gStuck) gSkip)
    (gRet (gCall (gMake 5 [] f_Ratio___init__) (gCons (gBin dMul (gUn (dFld ft_top) (gVar 0)) (gUn (dFld ft_top) (gVar 1))) (gCons (gBin dMul (gUn (dFld ft_bottom) (gVar 0)) (gUn (dFld ft_bottom) (gVar 1))) gNil)))))
noncomputable def f_multiplied : List D → Stor → R D := gFn 2 2 b_multiplied
theorem fg_multiplied (T : Tx K mg) {fd : FuncData} (F : FunD K "multiplied" "multiplied" (defArgs s_multiplied) (defBody s_multiplied) (defScope s_multiplied) [] [] (He.ga K "multiplied") fd) : FnG P w (WW K) mg base 4 (He.ga K "multiplied") fd ["one", "other"] f_multiplied :=
  fng_of (W := WW K) (N := ["one", "other"]) F sc_multiplied (fun cdv A outer s H E hr gd =>
    (gs_cons (gs_if (PW.pt (gw_or (gt_cmp (tru_plain rfl) (og_eq rfl hr.units) (ge_fld rfl (T.fld_bottom) (ge_var (pv 0))) ge_int (nomark _)) (gw_or1 (gt_cmp (tru_plain rfl) (og_eq rfl hr.units) (ge_fld rfl (T.fld_bottom) (ge_var (pv 1))) ge_int (nomark _))))) (gs_cons (gs_if (PW.pt (gw_or (gt_cmp (tru_plain rfl) og_ltI (ge_fld rfl (T.fld_top) (ge_var (pv 0))) ge_int (nomark _)) (gw_or1 (gt_cmp (tru_plain rfl) og_ltI (ge_fld rfl (T.fld_top) (ge_var (pv 1))) ge_int (nomark _))))) (gs_one gs_stuck) gs_nil)
    (gs_one gs_stuck)) gs_nil)
    (gs_one (gs_ret (ge_call (cg_make (c := 5) T.mk_Ratio (okd_Ratio___init___0 T) rfl (hr.mono (by decide)) gd pass_def) rfl T.g_Ratio T.mk_Ratio.kp (ga_cons (ge_bin og_mul (ge_fld rfl (T.fld_top) (ge_var (pv 0))) (ge_fld rfl (T.fld_top) (ge_var (pv 1)))) (ga_cons (ge_bin og_mul (ge_fld rfl (T.fld_bottom) (ge_var (pv 0))) (ge_fld rfl (T.fld_bottom) (ge_var (pv 1)))) ga_nil)))))))
theorem ok_multiplied (T : Tx K mg) : FnB P w (WW K) mg base 4 (He.ga K "multiplied") ["one", "other"] f_multiplied := by
  obtain ⟨fd, F⟩ := T.d_multiplied
  exact ⟨⟨fd, fg_multiplied T F, F.bindsN fun _ _ _ _ _ _ us hl => match us, hl with | [_, _], _ => rfl⟩, T.k_multiplied⟩
theorem sc_Ratio_of : FnScope ["thing"] ["thing"] (defScope s_Ratio_of) := ⟨rfl, rfl, rfl, by decide +kernel, rfl, by decide +kernel, by decide +kernel⟩
noncomputable def b_Ratio_of : GS' :=
  (gSeq (gIf (gTr truD (gCall (fIsi isOk isTab) (gCons (gVar 0) (gCons (gC (.cls 5)) gNil)))) (gRet (gVar 0)) gSkip)
    (gSeq (gIf (gNot (gTr truD (gCall f_is_integer (gCons (gVar 0) gNil)))) gStuck gSkip)
    (gRet (gCall (gMake 5 [.int 1] f_Ratio___init__) (gCons (gVar 0) gNil)))))
noncomputable def f_Ratio_of : List D → Stor → R D := gFn 1 1 b_Ratio_of
theorem fg_Ratio_of (T : Tx K mg) {fd : FuncData} (F : FunD K "of" "Ratio.of" (defArgs s_Ratio_of) (defBody s_Ratio_of) (defScope s_Ratio_of) [] [] (He5.wf K (He.ga K "Ratio") "staticmethod" "of") fd) : FnG P w (WW K) mg base 4 (He5.wf K (He.ga K "Ratio") "staticmethod" "of") fd ["thing"] f_Ratio_of :=
  fng_of (W := WW K) (N := ["thing"]) F sc_Ratio_of (fun cdv A outer s H E hr gd =>
    (gs_cons (gs_if (gt_tr (tru_plain rfl) (ge_callB (cg_isi rfl T.isOk T.isTab) rfl T.n_isinstance (by decide +kernel) (ga_cons (ge_var (pv 0)) (ga_cons (ge_cls (c := 5) rfl T.g_Ratio) ga_nil)))) (gs_one (gs_ret (ge_var (pv 0)))) gs_nil)
    (gs_cons (gs_if (gt_not (gt_tr (tru_plain rfl) (ge_call (cg_b (ok_is_integer T) rfl (hr.mono (by decide)) gd pass_def) rfl T.g_is_integer T.k_is_integer (ga_cons (ge_var (pv 0)) ga_nil)))) (gs_one gs_stuck) gs_nil)
    (gs_one (gs_ret (ge_call (cg_make (c := 5) T.mk_Ratio (okd_Ratio___init___1 T) rfl (hr.mono (by decide)) gd pass_def) rfl T.g_Ratio T.mk_Ratio.kp (ga_cons (ge_var (pv 0)) ga_nil)))))))
theorem ok_Ratio_of (T : Tx K mg) : FnB P w (WW K) mg base 4 (He5.wf K (He.ga K "Ratio") "staticmethod" "of") ["thing"] f_Ratio_of := by
  obtain ⟨fd, F⟩ := T.d_Ratio_of
  exact ⟨⟨fd, fg_Ratio_of T F, F.bindsN fun _ _ _ _ _ _ us hl => match us, hl with | [_], _ => rfl⟩, T.k_Ratio_of⟩
theorem sc_Ratio___mul__ : FnScope ["self", "other"] ["self", "other"] (defScope s_Ratio___mul__) := ⟨rfl, rfl, rfl, by decide +kernel, rfl, by decide +kernel, by decide +kernel⟩
noncomputable def b_Ratio___mul__ : GS' :=
  (gRet (gCall f_multiplied (gCons (gVar 0) (gCons (gCall f_Ratio_of (gCons (gVar 1) gNil)) gNil))))
noncomputable def f_Ratio___mul__ : List D → Stor → R D := gFn 2 2 b_Ratio___mul__
theorem fg_Ratio___mul__ (T : Tx K mg) {fd : FuncData} (F : FunD K "__mul__" "Ratio.__mul__" (defArgs s_Ratio___mul__) (defBody s_Ratio___mul__) (defScope s_Ratio___mul__) [] [] (He.ma K (He.ga K "Ratio") "__mul__") fd) : FnG P w (WW K) mg base 5 (He.ma K (He.ga K "Ratio") "__mul__") fd ["self", "other"] f_Ratio___mul__ :=
  fng_of (W := WW K) (N := ["self", "other"]) F sc_Ratio___mul__ (fun cdv A outer s H E hr gd =>
    (gs_one (gs_ret (ge_call (cg_b (ok_multiplied T) rfl (hr.mono (by decide)) gd pass_def) rfl T.g_multiplied T.k_multiplied (ga_cons (ge_var (pv 0)) (ga_cons (ge_smeth (c := 5) (cg_b (ok_Ratio_of T) rfl (hr.mono (by decide)) gd pass_def) T.sm_Ratio_of (ge_cls (c := 5) rfl T.g_Ratio) (ga_cons (ge_var (pv 1)) ga_nil)) ga_nil))))))
theorem ok_Ratio___mul__ (T : Tx K mg) : FnB P w (WW K) mg base 5 (He.ma K (He.ga K "Ratio") "__mul__") ["self", "other"] f_Ratio___mul__ := by
  obtain ⟨fd, F⟩ := T.d_Ratio___mul__
  exact ⟨⟨fd, fg_Ratio___mul__ T F, F.bindsN fun _ _ _ _ _ _ us hl => match us, hl with | [_, _], _ => rfl⟩, T.k_Ratio___mul__⟩
theorem sc_Ratio___rmul__ : FnScope ["self", "other"] ["self", "other"] (defScope s_Ratio___rmul__) := ⟨rfl, rfl, rfl, by decide +kernel, rfl, by decide +kernel, by decide +kernel⟩
noncomputable def b_Ratio___rmul__ : GS' :=
  (gRet (gCall f_multiplied (gCons (gCall f_Ratio_of (gCons (gVar 1) gNil)) (gCons (gVar 0) gNil))))
noncomputable def f_Ratio___rmul__ : List D → Stor → R D := gFn 2 2 b_Ratio___rmul__
theorem fg_Ratio___rmul__ (T : Tx K mg) {fd : FuncData} (F : FunD K "__rmul__" "Ratio.__rmul__" (defArgs s_Ratio___rmul__) (defBody s_Ratio___rmul__) (defScope s_Ratio___rmul__) [] [] (He.ma K (He.ga K "Ratio") "__rmul__") fd) : FnG P w (WW K) mg base 5 (He.ma K (He.ga K "Ratio") "__rmul__") fd ["self", "other"] f_Ratio___rmul__ :=
  fng_of (W := WW K) (N := ["self", "other"]) F sc_Ratio___rmul__ (fun cdv A outer s H E hr gd =>
    (gs_one (gs_ret (ge_call (cg_b (ok_multiplied T) rfl (hr.mono (by decide)) gd pass_def) rfl T.g_multiplied T.k_multiplied (ga_cons (ge_smeth (c := 5) (cg_b (ok_Ratio_of T) rfl (hr.mono (by decide)) gd pass_def) T.sm_Ratio_of (ge_cls (c := 5) rfl T.g_Ratio) (ga_cons (ge_var (pv 1)) ga_nil)) (ga_cons (ge_var (pv 0)) ga_nil))))))
theorem ok_Ratio___rmul__ (T : Tx K mg) : FnB P w (WW K) mg base 5 (He.ma K (He.ga K "Ratio") "__rmul__") ["self", "other"] f_Ratio___rmul__ := by
  obtain ⟨fd, F⟩ := T.d_Ratio___rmul__
  exact ⟨⟨fd, fg_Ratio___rmul__ T F, F.bindsN fun _ _ _ _ _ _ us hl => match us, hl with | [_, _], _ => rfl⟩, T.k_Ratio___rmul__⟩
theorem sc_less_another : FnScope ["one", "other"] ["one", "other"] (defScope s_less_another) := ⟨rfl, rfl, rfl, by decide +kernel, rfl, by decide +kernel, by decide +kernel⟩
noncomputable def b_less_another : GS' :=
  (gSeq (gIf (gOr (gTr truD (gBin dEq (gUn (dFld ft_bottom) (gVar 0)) (gC (.int 0)))) (gTr truD (gBin dEq (gUn (dFld ft_bottom) (gVar 1)) (gC (.int 0))))) gStuck gSkip)
    (gRet (gCall (gMake 5 [] f_Ratio___init__) (gCons (gBin dSubI (gBin dMul (gUn (dFld ft_top) (gVar 0)) (gUn (dFld ft_bottom) (gVar 1))) (gBin dMul (gUn (dFld ft_top) (gVar 1)) (gUn (dFld ft_bottom) (gVar 0)))) (gCons (gBin dMul (gUn (dFld ft_bottom) (gVar 0)) (gUn (dFld ft_bottom) (gVar 1))) gNil)))))
noncomputable def f_less_another : List D → Stor → R D := gFn 2 2 b_less_another
theorem fg_less_another (T : Tx K mg) {fd : FuncData} (F : FunD K "less_another" "less_another" (defArgs s_less_another) (defBody s_less_another) (defScope s_less_another) [] [] (He.ga K "less_another") fd) : FnG P w (WW K) mg base 4 (He.ga K "less_another") fd ["one", "other"] f_less_another :=
  fng_of (W := WW K) (N := ["one", "other"]) F sc_less_another (fun cdv A outer s H E hr gd =>
    (gs_cons (gs_if (PW.pt (gw_or (gt_cmp (tru_plain rfl) (og_eq rfl hr.units) (ge_fld rfl (T.fld_bottom) (ge_var (pv 0))) ge_int (nomark _)) (gw_or1 (gt_cmp (tru_plain rfl) (og_eq rfl hr.units) (ge_fld rfl (T.fld_bottom) (ge_var (pv 1))) ge_int (nomark _))))) (gs_one gs_stuck) gs_nil)
    (gs_one (gs_ret (ge_call (cg_make (c := 5) T.mk_Ratio (okd_Ratio___init___0 T) rfl (hr.mono (by decide)) gd pass_def) rfl T.g_Ratio T.mk_Ratio.kp (ga_cons (ge_bin og_subI (ge_bin og_mul (ge_fld rfl (T.fld_top) (ge_var (pv 0))) (ge_fld rfl (T.fld_bottom) (ge_var (pv 1)))) (ge_bin og_mul (ge_fld rfl (T.fld_top) (ge_var (pv 1))) (ge_fld rfl (T.fld_bottom) (ge_var (pv 0))))) (ga_cons (ge_bin og_mul (ge_fld rfl (T.fld_bottom) (ge_var (pv 0))) (ge_fld rfl (T.fld_bottom) (ge_var (pv 1)))) ga_nil)))))))
theorem ok_less_another (T : Tx K mg) : FnB P w (WW K) mg base 4 (He.ga K "less_another") ["one", "other"] f_less_another := by
  obtain ⟨fd, F⟩ := T.d_less_another
  exact ⟨⟨fd, fg_less_another T F, F.bindsN fun _ _ _ _ _ _ us hl => match us, hl with | [_, _], _ => rfl⟩, T.k_less_another⟩
theorem sc_Ratio___sub__ : FnScope ["self", "other"] ["self", "other"] (defScope s_Ratio___sub__) := ⟨rfl, rfl, rfl, by decide +kernel, rfl, by decide +kernel, by decide +kernel⟩
noncomputable def b_Ratio___sub__ : GS' :=
  (gRet (gCall f_less_another (gCons (gVar 0) (gCons (gCall f_Ratio_of (gCons (gVar 1) gNil)) gNil))))
noncomputable def f_Ratio___sub__ : List D → Stor → R D := gFn 2 2 b_Ratio___sub__
theorem fg_Ratio___sub__ (T : Tx K mg) {fd : FuncData} (F : FunD K "__sub__" "Ratio.__sub__" (defArgs s_Ratio___sub__) (defBody s_Ratio___sub__) (defScope s_Ratio___sub__) [] [] (He.ma K (He.ga K "Ratio") "__sub__") fd) : FnG P w (WW K) mg base 5 (He.ma K (He.ga K "Ratio") "__sub__") fd ["self", "other"] f_Ratio___sub__ :=
  fng_of (W := WW K) (N := ["self", "other"]) F sc_Ratio___sub__ (fun cdv A outer s H E hr gd =>
    (gs_one (gs_ret (ge_call (cg_b (ok_less_another T) rfl (hr.mono (by decide)) gd pass_def) rfl T.g_less_another T.k_less_another (ga_cons (ge_var (pv 0)) (ga_cons (ge_smeth (c := 5) (cg_b (ok_Ratio_of T) rfl (hr.mono (by decide)) gd pass_def) T.sm_Ratio_of (ge_cls (c := 5) rfl T.g_Ratio) (ga_cons (ge_var (pv 1)) ga_nil)) ga_nil))))))
theorem ok_Ratio___sub__ (T : Tx K mg) : FnB P w (WW K) mg base 5 (He.ma K (He.ga K "Ratio") "__sub__") ["self", "other"] f_Ratio___sub__ := by
  obtain ⟨fd, F⟩ := T.d_Ratio___sub__
  exact ⟨⟨fd, fg_Ratio___sub__ T F, F.bindsN fun _ _ _ _ _ _ us hl => match us, hl with | [_, _], _ => rfl⟩, T.k_Ratio___sub__⟩
theorem sc_Ratio___rsub__ : FnScope ["self", "other"] ["self", "other"] (defScope s_Ratio___rsub__) := ⟨rfl, rfl, rfl, by decide +kernel, rfl, by decide +kernel, by decide +kernel⟩
noncomputable def b_Ratio___rsub__ : GS' :=
  (gRet (gCall f_less_another (gCons (gCall f_Ratio_of (gCons (gVar 1) gNil)) (gCons (gVar 0) gNil))))
noncomputable def f_Ratio___rsub__ : List D → Stor → R D := gFn 2 2 b_Ratio___rsub__
theorem fg_Ratio___rsub__ (T : Tx K mg) {fd : FuncData} (F : FunD K "__rsub__" "Ratio.__rsub__" (defArgs s_Ratio___rsub__) (defBody s_Ratio___rsub__) (defScope s_Ratio___rsub__) [] [] (He.ma K (He.ga K "Ratio") "__rsub__") fd) : FnG P w (WW K) mg base 5 (He.ma K (He.ga K "Ratio") "__rsub__") fd ["self", "other"] f_Ratio___rsub__ :=
  fng_of (W := WW K) (N := ["self", "other"]) F sc_Ratio___rsub__ (fun cdv A outer s H E hr gd =>
    (gs_one (gs_ret (ge_call (cg_b (ok_less_another T) rfl (hr.mono (by decide)) gd pass_def) rfl T.g_less_another T.k_less_another (ga_cons (ge_smeth (c := 5) (cg_b (ok_Ratio_of T) rfl (hr.mono (by decide)) gd pass_def) T.sm_Ratio_of (ge_cls (c := 5) rfl T.g_Ratio) (ga_cons (ge_var (pv 1)) ga_nil)) (ga_cons (ge_var (pv 0)) ga_nil))))))
theorem ok_Ratio___rsub__ (T : Tx K mg) : FnB P w (WW K) mg base 5 (He.ma K (He.ga K "Ratio") "__rsub__") ["self", "other"] f_Ratio___rsub__ := by
  obtain ⟨fd, F⟩ := T.d_Ratio___rsub__
  exact ⟨⟨fd, fg_Ratio___rsub__ T F, F.bindsN fun _ _ _ _ _ _ us hl => match us, hl with | [_, _], _ => rfl⟩, T.k_Ratio___rsub__⟩
theorem sc_added : FnScope ["one", "other"] ["one", "other"] (defScope s_added) := ⟨rfl, rfl, rfl, by decide +kernel, rfl, by decide +kernel, by decide +kernel⟩
noncomputable def b_added : GS' :=
  (gSeq (gIf (gOr (gTr truD (gBin dEq (gUn (dFld ft_bottom) (gVar 0)) (gC (.int 0)))) (gTr truD (gBin dEq (gUn (dFld ft_bottom) (gVar 1)) (gC (.int 0))))) (gSeq (gIf (gOr (gTr truD (gBin dLtI (gUn (dFld ft_top) (gVar 0)) (gC (.int 0)))) (gTr truD (gBin dLtI (gUn (dFld ft_top) (gVar 1)) (gC (.int 0))))) gStuck gSkip)
    gStuck) gSkip)
    (gRet (gCall (gMake 5 [] f_Ratio___init__) (gCons (gBin dAdd (gBin dMul (gUn (dFld ft_top) (gVar 0)) (gUn (dFld ft_bottom) (gVar 1))) (gBin dMul (gUn (dFld ft_top) (gVar 1)) (gUn (dFld ft_bottom) (gVar 0)))) (gCons (gBin dMul (gUn (dFld ft_bottom) (gVar 0)) (gUn (dFld ft_bottom) (gVar 1))) gNil)))))
noncomputable def f_added : List D → Stor → R D := gFn 2 2 b_added
theorem fg_added (T : Tx K mg) {fd : FuncData} (F : FunD K "added" "added" (defArgs s_added) (defBody s_added) (defScope s_added) [] [] (He.ga K "added") fd) : FnG P w (WW K) mg base 4 (He.ga K "added") fd ["one", "other"] f_added :=
  fng_of (W := WW K) (N := ["one", "other"]) F sc_added (fun cdv A outer s H E hr gd =>
    (gs_cons (gs_if (PW.pt (gw_or (gt_cmp (tru_plain rfl) (og_eq rfl hr.units) (ge_fld rfl (T.fld_bottom) (ge_var (pv 0))) ge_int (nomark _)) (gw_or1 (gt_cmp (tru_plain rfl) (og_eq rfl hr.units) (ge_fld rfl (T.fld_bottom) (ge_var (pv 1))) ge_int (nomark _))))) (gs_cons (gs_if (PW.pt (gw_or (gt_cmp (tru_plain rfl) og_ltI (ge_fld rfl (T.fld_top) (ge_var (pv 0))) ge_int (nomark _)) (gw_or1 (gt_cmp (tru_plain rfl) og_ltI (ge_fld rfl (T.fld_top) (ge_var (pv 1))) ge_int (nomark _))))) (gs_one gs_stuck) gs_nil)
    (gs_one gs_stuck)) gs_nil)
    (gs_one (gs_ret (ge_call (cg_make (c := 5) T.mk_Ratio (okd_Ratio___init___0 T) rfl (hr.mono (by decide)) gd pass_def) rfl T.g_Ratio T.mk_Ratio.kp (ga_cons (ge_bin (og_add rfl) (ge_bin og_mul (ge_fld rfl (T.fld_top) (ge_var (pv 0))) (ge_fld rfl (T.fld_bottom) (ge_var (pv 1)))) (ge_bin og_mul (ge_fld rfl (T.fld_top) (ge_var (pv 1))) (ge_fld rfl (T.fld_bottom) (ge_var (pv 0))))) (ga_cons (ge_bin og_mul (ge_fld rfl (T.fld_bottom) (ge_var (pv 0))) (ge_fld rfl (T.fld_bottom) (ge_var (pv 1)))) ga_nil)))))))
theorem ok_added (T : Tx K mg) : FnB P w (WW K) mg base 4 (He.ga K "added") ["one", "other"] f_added := by
  obtain ⟨fd, F⟩ := T.d_added
  exact ⟨⟨fd, fg_added T F, F.bindsN fun _ _ _ _ _ _ us hl => match us, hl with | [_, _], _ => rfl⟩, T.k_added⟩
theorem sc_Ratio___add__ : FnScope ["self", "other"] ["self", "other"] (defScope s_Ratio___add__) := ⟨rfl, rfl, rfl, by decide +kernel, rfl, by decide +kernel, by decide +kernel⟩
noncomputable def b_Ratio___add__ : GS' :=
  (gRet (gCall f_added (gCons (gVar 0) (gCons (gCall f_Ratio_of (gCons (gVar 1) gNil)) gNil))))
noncomputable def f_Ratio___add__ : List D → Stor → R D := gFn 2 2 b_Ratio___add__
theorem fg_Ratio___add__ (T : Tx K mg) {fd : FuncData} (F : FunD K "__add__" "Ratio.__add__" (defArgs s_Ratio___add__) (defBody s_Ratio___add__) (defScope s_Ratio___add__) [] [] (He.ma K (He.ga K "Ratio") "__add__") fd) : FnG P w (WW K) mg base 5 (He.ma K (He.ga K "Ratio") "__add__") fd ["self", "other"] f_Ratio___add__ :=
  fng_of (W := WW K) (N := ["self", "other"]) F sc_Ratio___add__ (fun cdv A outer s H E hr gd =>
    (gs_one (gs_ret (ge_call (cg_b (ok_added T) rfl (hr.mono (by decide)) gd pass_def) rfl T.g_added T.k_added (ga_cons (ge_var (pv 0)) (ga_cons (ge_smeth (c := 5) (cg_b (ok_Ratio_of T) rfl (hr.mono (by decide)) gd pass_def) T.sm_Ratio_of (ge_cls (c := 5) rfl T.g_Ratio) (ga_cons (ge_var (pv 1)) ga_nil)) ga_nil))))))
theorem ok_Ratio___add__ (T : Tx K mg) : FnB P w (WW K) mg base 5 (He.ma K (He.ga K "Ratio") "__add__") ["self", "other"] f_Ratio___add__ := by
  obtain ⟨fd, F⟩ := T.d_Ratio___add__
  exact ⟨⟨fd, fg_Ratio___add__ T F, F.bindsN fun _ _ _ _ _ _ us hl => match us, hl with | [_, _], _ => rfl⟩, T.k_Ratio___add__⟩
theorem sc_Ratio___radd__ : FnScope ["self", "other"] ["self", "other"] (defScope s_Ratio___radd__) := ⟨rfl, rfl, rfl, by decide +kernel, rfl, by decide +kernel, by decide +kernel⟩
noncomputable def b_Ratio___radd__ : GS' :=
  (gRet (gCall f_added (gCons (gCall f_Ratio_of (gCons (gVar 1) gNil)) (gCons (gVar 0) gNil))))
noncomputable def f_Ratio___radd__ : List D → Stor → R D := gFn 2 2 b_Ratio___radd__
theorem fg_Ratio___radd__ (T : Tx K mg) {fd : FuncData} (F : FunD K "__radd__" "Ratio.__radd__" (defArgs s_Ratio___radd__) (defBody s_Ratio___radd__) (defScope s_Ratio___radd__) [] [] (He.ma K (He.ga K "Ratio") "__radd__") fd) : FnG P w (WW K) mg base 5 (He.ma K (He.ga K "Ratio") "__radd__") fd ["self", "other"] f_Ratio___radd__ :=
  fng_of (W := WW K) (N := ["self", "other"]) F sc_Ratio___radd__ (fun cdv A outer s H E hr gd =>
    (gs_one (gs_ret (ge_call (cg_b (ok_added T) rfl (hr.mono (by decide)) gd pass_def) rfl T.g_added T.k_added (ga_cons (ge_smeth (c := 5) (cg_b (ok_Ratio_of T) rfl (hr.mono (by decide)) gd pass_def) T.sm_Ratio_of (ge_cls (c := 5) rfl T.g_Ratio) (ga_cons (ge_var (pv 1)) ga_nil)) (ga_cons (ge_var (pv 0)) ga_nil))))))
theorem ok_Ratio___radd__ (T : Tx K mg) : FnB P w (WW K) mg base 5 (He.ma K (He.ga K "Ratio") "__radd__") ["self", "other"] f_Ratio___radd__ := by
  obtain ⟨fd, F⟩ := T.d_Ratio___radd__
  exact ⟨⟨fd, fg_Ratio___radd__ T F, F.bindsN fun _ _ _ _ _ _ us hl => match us, hl with | [_, _], _ => rfl⟩, T.k_Ratio___radd__⟩
theorem sc__law_in_place : FnScope ["_law_left", "_law_right", "_law_first", "_law_second", "_law_third"] ["_law_left", "_law_right"] (defScope s__law_in_place) := ⟨rfl, rfl, rfl, by decide +kernel, rfl, by decide +kernel, by decide +kernel⟩
noncomputable def b__law_in_place : GS' :=
  (gSeq (gSet 2 (gVar 0))
    (gSeq (gAug 2 (fun x y M => orR (dAddI x y M) (own2 5 f_Ratio___add__ f_Ratio___radd__ x y M)) (gVar 1))
    (gSeq (gSet 3 (gVar 0))
    (gSeq (gAug 3 (fun x y M => orR (dSubI x y M) (own2 5 f_Ratio___sub__ f_Ratio___rsub__ x y M)) (gVar 1))
    (gSeq (gSet 4 (gVar 0))
    (gSeq (gAug 4 (fun x y M => orR (dMulI x y M) (own2 5 f_Ratio___mul__ f_Ratio___rmul__ x y M)) (gVar 1))
    (gRet (gLst (gCons (gVar 2) (gCons (gVar 3) (gCons (gVar 4) gNil)))))))))))
noncomputable def f__law_in_place : List D → Stor → R D := gFn 2 5 b__law_in_place
theorem fg__law_in_place (T : Tx K mg) {fd : FuncData} (F : FunD K "_law_in_place" "_law_in_place" (defArgs s__law_in_place) (defBody s__law_in_place) (defScope s__law_in_place) [] [] (He.ga K "_law_in_place") fd) : FnG P w (WW K) mg base 6 (He.ga K "_law_in_place") fd ["_law_left", "_law_right"] f__law_in_place :=
  fng_of (W := WW K) (N := ["_law_left", "_law_right", "_law_first", "_law_second", "_law_third"]) F sc__law_in_place (fun cdv A outer s H E hr gd =>
    (gs_cons (gs_set (i := 2) sc__law_in_place.nd rfl (by first | exact Or.inl rfl | exact Or.inr rfl) (ge_var (pv 0)))
    (gs_cons (gs_aug (i := 2) sc__law_in_place.nd rfl (by first | exact Or.inl rfl | exact Or.inr rfl) (og_iaddI.or (og_iown (c := 5) T.op_Ratio_add intdec_add T.ip_Ratio_add (cg_b (ok_Ratio___add__ T) rfl (hr.mono (by decide)) gd pass_def) (cg_b (ok_Ratio___radd__ T) rfl (hr.mono (by decide)) gd pass_def))) (ge_var (pv 1)))
    (gs_cons (gs_set (i := 3) sc__law_in_place.nd rfl (by first | exact Or.inl rfl | exact Or.inr rfl) (ge_var (pv 0)))
    (gs_cons (gs_aug (i := 3) sc__law_in_place.nd rfl (by first | exact Or.inl rfl | exact Or.inr rfl) (og_isubI.or (og_iown (c := 5) T.op_Ratio_sub intdec_sub T.ip_Ratio_sub (cg_b (ok_Ratio___sub__ T) rfl (hr.mono (by decide)) gd pass_def) (cg_b (ok_Ratio___rsub__ T) rfl (hr.mono (by decide)) gd pass_def))) (ge_var (pv 1)))
    (gs_cons (gs_set (i := 4) sc__law_in_place.nd rfl (by first | exact Or.inl rfl | exact Or.inr rfl) (ge_var (pv 0)))
    (gs_cons (gs_aug (i := 4) sc__law_in_place.nd rfl (by first | exact Or.inl rfl | exact Or.inr rfl) (og_imulI.or (og_iown (c := 5) T.op_Ratio_mul intdec_mul T.ip_Ratio_mul (cg_b (ok_Ratio___mul__ T) rfl (hr.mono (by decide)) gd pass_def) (cg_b (ok_Ratio___rmul__ T) rfl (hr.mono (by decide)) gd pass_def))) (ge_var (pv 1)))
    (gs_one (gs_ret (ge_lst (ga_cons (ge_var (pv 2)) (ga_cons (ge_var (pv 3)) (ga_cons (ge_var (pv 4)) ga_nil)))))))))))))
theorem ok__law_in_place (T : Tx K mg) : FnB P w (WW K) mg base 6 (He.ga K "_law_in_place") ["_law_left", "_law_right"] f__law_in_place := by
  obtain ⟨fd, F⟩ := T.d__law_in_place
  exact ⟨⟨fd, fg__law_in_place T F, F.bindsN fun _ _ _ _ _ _ us hl => match us, hl with | [_, _], _ => rfl⟩, T.k__law_in_place⟩
theorem sc__law_pair_right : FnScope ["_law_one", "_law_other", "_law_left", "_law_right", "_law_due", "_law_number", "_law_back"] ["_law_one", "_law_other"] (defScope s__law_pair_right) := ⟨rfl, rfl, rfl, by decide +kernel, rfl, by decide +kernel, by decide +kernel⟩
noncomputable def b__law_pair_right : GS' :=
  (gSeq (gPar3 2 3 4 (gCons (gCall f__law_made (gCons (gVar 0) gNil)) (gCons (gCall f__law_made (gCons (gVar 1) gNil)) (gCons (gCall f__law_results (gCons (gVar 0) (gCons (gVar 1) gNil))) gNil))))
    (gSeq (gIf (gNot (gTr truD (gCall f__law_are (gCons (gLst (gCons (gBin (fun x y M => orR (dAdd x y M) (own2 5 f_Ratio___add__ f_Ratio___radd__ x y M)) (gVar 2) (gVar 3)) (gCons (gBin (fun x y M => orR (dSubI x y M) (own2 5 f_Ratio___sub__ f_Ratio___rsub__ x y M)) (gVar 2) (gVar 3)) (gCons (gBin (fun x y M => orR (dMul x y M) (own2 5 f_Ratio___mul__ f_Ratio___rmul__ x y M)) (gVar 2) (gVar 3)) gNil)))) (gCons (gVar 4) gNil))))) (gRet (gC (.bl false))) gSkip)
    (gSeq (gIf (gNot (gTr truD (gCall f__law_are (gCons (gCall f__law_in_place (gCons (gVar 2) (gCons (gVar 3) gNil))) (gCons (gVar 4) gNil))))) (gRet (gC (.bl false))) gSkip)
    (gSeq (gIf (gTr truD (gBin dEq (gBin dIx (gVar 1) (gC (.int 1))) (gC (.int 1)))) (gSeq (gPar2 5 6 (gCons (gBin dIx (gVar 1) (gC (.int 0))) (gCons (gCall f__law_results (gCons (gVar 1) (gCons (gVar 0) gNil))) gNil)))
    (gSeq (gIf (gNot (gTr truD (gCall f__law_are (gCons (gLst (gCons (gBin (fun x y M => orR (dAdd x y M) (own2 5 f_Ratio___add__ f_Ratio___radd__ x y M)) (gVar 2) (gVar 5)) (gCons (gBin (fun x y M => orR (dSubI x y M) (own2 5 f_Ratio___sub__ f_Ratio___rsub__ x y M)) (gVar 2) (gVar 5)) (gCons (gBin (fun x y M => orR (dMul x y M) (own2 5 f_Ratio___mul__ f_Ratio___rmul__ x y M)) (gVar 2) (gVar 5)) gNil)))) (gCons (gVar 4) gNil))))) (gRet (gC (.bl false))) gSkip)
    (gSeq (gIf (gNot (gTr truD (gCall f__law_are (gCons (gLst (gCons (gBin (fun x y M => orR (dAdd x y M) (own2 5 f_Ratio___add__ f_Ratio___radd__ x y M)) (gVar 5) (gVar 2)) (gCons (gBin (fun x y M => orR (dSubI x y M) (own2 5 f_Ratio___sub__ f_Ratio___rsub__ x y M)) (gVar 5) (gVar 2)) (gCons (gBin (fun x y M => orR (dMul x y M) (own2 5 f_Ratio___mul__ f_Ratio___rmul__ x y M)) (gVar 5) (gVar 2)) gNil)))) (gCons (gVar 6) gNil))))) (gRet (gC (.bl false))) gSkip)
    (gIf (gOr (gNot (gTr truD (gCall f__law_are (gCons (gCall f__law_in_place (gCons (gVar 2) (gCons (gVar 5) gNil))) (gCons (gVar 4) gNil))))) (gNot (gTr truD (gCall f__law_are (gCons (gCall f__law_in_place (gCons (gVar 5) (gCons (gVar 2) gNil))) (gCons (gVar 6) gNil)))))) (gRet (gC (.bl false))) gSkip)))) gSkip)
    (gRet (gAndV truD (gCall f__law_is (gCons (gVar 2) (gCons (gVar 0) gNil))) (gCall f__law_is (gCons (gVar 3) (gCons (gVar 1) gNil)))))))))
noncomputable def f__law_pair_right : List D → Stor → R D := gFn 2 7 b__law_pair_right
theorem fg__law_pair_right (T : Tx K mg) {fd : FuncData} (F : FunD K "_law_pair_right" "_law_pair_right" (defArgs s__law_pair_right) (defBody s__law_pair_right) (defScope s__law_pair_right) [] [] (He.ga K "_law_pair_right") fd) : FnG P w (WW K) mg base 7 (He.ga K "_law_pair_right") fd ["_law_one", "_law_other"] f__law_pair_right :=
  fng_of (W := WW K) (N := ["_law_one", "_law_other", "_law_left", "_law_right", "_law_due", "_law_number", "_law_back"]) F sc__law_pair_right (fun cdv A outer s H E hr gd =>
    (gs_cons (gs_par3 (i := 2) (j := 3) (l := 4) rfl sc__law_pair_right.nd rfl rfl rfl (by decide) (by decide) (by decide) rfl rfl rfl (ga_cons (ge_call (cg_b (ok__law_made T) rfl (hr.mono (by decide)) gd pass_def) rfl T.g__law_made T.k__law_made (ga_cons (ge_var (pv 0)) ga_nil)) (ga_cons (ge_call (cg_b (ok__law_made T) rfl (hr.mono (by decide)) gd pass_def) rfl T.g__law_made T.k__law_made (ga_cons (ge_var (pv 1)) ga_nil)) (ga_cons (ge_call (cg_b (ok__law_results T) rfl (hr.mono (by decide)) gd pass_def) rfl T.g__law_results T.k__law_results (ga_cons (ge_var (pv 0)) (ga_cons (ge_var (pv 1)) ga_nil))) ga_nil))))
    (gs_cons (gs_if (gt_not (gt_tr (tru_plain rfl) (ge_call (cg_b (ok__law_are T) rfl (hr.mono (by decide)) gd pass_def) rfl T.g__law_are T.k__law_are (ga_cons (ge_lst (ga_cons (ge_bin ((og_add rfl).or (og_own (c := 5) T.op_Ratio_add intdec_add (cg_b (ok_Ratio___add__ T) rfl (hr.mono (by decide)) gd pass_def) (cg_b (ok_Ratio___radd__ T) rfl (hr.mono (by decide)) gd pass_def))) (ge_var (pv 2)) (ge_var (pv 3))) (ga_cons (ge_bin (og_subI.or (og_own (c := 5) T.op_Ratio_sub intdec_sub (cg_b (ok_Ratio___sub__ T) rfl (hr.mono (by decide)) gd pass_def) (cg_b (ok_Ratio___rsub__ T) rfl (hr.mono (by decide)) gd pass_def))) (ge_var (pv 2)) (ge_var (pv 3))) (ga_cons (ge_bin (og_mul.or (og_own (c := 5) T.op_Ratio_mul intdec_mul (cg_b (ok_Ratio___mul__ T) rfl (hr.mono (by decide)) gd pass_def) (cg_b (ok_Ratio___rmul__ T) rfl (hr.mono (by decide)) gd pass_def))) (ge_var (pv 2)) (ge_var (pv 3))) ga_nil)))) (ga_cons (ge_var (pv 4)) ga_nil))))) (gs_one (gs_ret ge_bl)) gs_nil)
    (gs_cons (gs_if (gt_not (gt_tr (tru_plain rfl) (ge_call (cg_b (ok__law_are T) rfl (hr.mono (by decide)) gd pass_def) rfl T.g__law_are T.k__law_are (ga_cons (ge_call (cg_b (ok__law_in_place T) rfl (hr.mono (by decide)) gd pass_def) rfl T.g__law_in_place T.k__law_in_place (ga_cons (ge_var (pv 2)) (ga_cons (ge_var (pv 3)) ga_nil))) (ga_cons (ge_var (pv 4)) ga_nil))))) (gs_one (gs_ret ge_bl)) gs_nil)
    (gs_cons (gs_if (gt_cmp (tru_plain rfl) (og_eq rfl hr.units) (ge_ix rfl (ge_var (pv 1)) ge_int (fun _ _ => rfl)) ge_int (nomark _)) (gs_cons (gs_par2 (i := 5) (j := 6) rfl sc__law_pair_right.nd rfl rfl (by decide) rfl rfl (ga_cons (ge_ix rfl (ge_var (pv 1)) ge_int (fun _ _ => rfl)) (ga_cons (ge_call (cg_b (ok__law_results T) rfl (hr.mono (by decide)) gd pass_def) rfl T.g__law_results T.k__law_results (ga_cons (ge_var (pv 1)) (ga_cons (ge_var (pv 0)) ga_nil))) ga_nil)))
    (gs_cons (gs_if (gt_not (gt_tr (tru_plain rfl) (ge_call (cg_b (ok__law_are T) rfl (hr.mono (by decide)) gd pass_def) rfl T.g__law_are T.k__law_are (ga_cons (ge_lst (ga_cons (ge_bin ((og_add rfl).or (og_own (c := 5) T.op_Ratio_add intdec_add (cg_b (ok_Ratio___add__ T) rfl (hr.mono (by decide)) gd pass_def) (cg_b (ok_Ratio___radd__ T) rfl (hr.mono (by decide)) gd pass_def))) (ge_var (pv 2)) (ge_var (pv 5))) (ga_cons (ge_bin (og_subI.or (og_own (c := 5) T.op_Ratio_sub intdec_sub (cg_b (ok_Ratio___sub__ T) rfl (hr.mono (by decide)) gd pass_def) (cg_b (ok_Ratio___rsub__ T) rfl (hr.mono (by decide)) gd pass_def))) (ge_var (pv 2)) (ge_var (pv 5))) (ga_cons (ge_bin (og_mul.or (og_own (c := 5) T.op_Ratio_mul intdec_mul (cg_b (ok_Ratio___mul__ T) rfl (hr.mono (by decide)) gd pass_def) (cg_b (ok_Ratio___rmul__ T) rfl (hr.mono (by decide)) gd pass_def))) (ge_var (pv 2)) (ge_var (pv 5))) ga_nil)))) (ga_cons (ge_var (pv 4)) ga_nil))))) (gs_one (gs_ret ge_bl)) gs_nil)
    (gs_cons (gs_if (gt_not (gt_tr (tru_plain rfl) (ge_call (cg_b (ok__law_are T) rfl (hr.mono (by decide)) gd pass_def) rfl T.g__law_are T.k__law_are (ga_cons (ge_lst (ga_cons (ge_bin ((og_add rfl).or (og_own (c := 5) T.op_Ratio_add intdec_add (cg_b (ok_Ratio___add__ T) rfl (hr.mono (by decide)) gd pass_def) (cg_b (ok_Ratio___radd__ T) rfl (hr.mono (by decide)) gd pass_def))) (ge_var (pv 5)) (ge_var (pv 2))) (ga_cons (ge_bin (og_subI.or (og_own (c := 5) T.op_Ratio_sub intdec_sub (cg_b (ok_Ratio___sub__ T) rfl (hr.mono (by decide)) gd pass_def) (cg_b (ok_Ratio___rsub__ T) rfl (hr.mono (by decide)) gd pass_def))) (ge_var (pv 5)) (ge_var (pv 2))) (ga_cons (ge_bin (og_mul.or (og_own (c := 5) T.op_Ratio_mul intdec_mul (cg_b (ok_Ratio___mul__ T) rfl (hr.mono (by decide)) gd pass_def) (cg_b (ok_Ratio___rmul__ T) rfl (hr.mono (by decide)) gd pass_def))) (ge_var (pv 5)) (ge_var (pv 2))) ga_nil)))) (ga_cons (ge_var (pv 6)) ga_nil))))) (gs_one (gs_ret ge_bl)) gs_nil)
    (gs_one (gs_if (PW.pt (gw_or (gt_not (gt_tr (tru_plain rfl) (ge_call (cg_b (ok__law_are T) rfl (hr.mono (by decide)) gd pass_def) rfl T.g__law_are T.k__law_are (ga_cons (ge_call (cg_b (ok__law_in_place T) rfl (hr.mono (by decide)) gd pass_def) rfl T.g__law_in_place T.k__law_in_place (ga_cons (ge_var (pv 2)) (ga_cons (ge_var (pv 5)) ga_nil))) (ga_cons (ge_var (pv 4)) ga_nil))))) (gw_or1 (gt_not (gt_tr (tru_plain rfl) (ge_call (cg_b (ok__law_are T) rfl (hr.mono (by decide)) gd pass_def) rfl T.g__law_are T.k__law_are (ga_cons (ge_call (cg_b (ok__law_in_place T) rfl (hr.mono (by decide)) gd pass_def) rfl T.g__law_in_place T.k__law_in_place (ga_cons (ge_var (pv 5)) (ga_cons (ge_var (pv 2)) ga_nil))) (ga_cons (ge_var (pv 6)) ga_nil)))))))) (gs_one (gs_ret ge_bl)) gs_nil))))) gs_nil)
    (gs_one (gs_ret (ge_and (tru_plain rfl) (ge_call (cg_b (ok__law_is T) rfl (hr.mono (by decide)) gd pass_def) rfl T.g__law_is T.k__law_is (ga_cons (ge_var (pv 2)) (ga_cons (ge_var (pv 0)) ga_nil))) (ge_one (ge_call (cg_b (ok__law_is T) rfl (hr.mono (by decide)) gd pass_def) rfl T.g__law_is T.k__law_is (ga_cons (ge_var (pv 3)) (ga_cons (ge_var (pv 1)) ga_nil))))))))))))
theorem ok__law_pair_right (T : Tx K mg) : FnB P w (WW K) mg base 7 (He.ga K "_law_pair_right") ["_law_one", "_law_other"] f__law_pair_right := by
  obtain ⟨fd, F⟩ := T.d__law_pair_right
  exact ⟨⟨fd, fg__law_pair_right T F, F.bindsN fun _ _ _ _ _ _ us hl => match us, hl with | [_, _], _ => rfl⟩, T.k__law_pair_right⟩
theorem sc_Ratio___neg__ : FnScope ["self"] ["self"] (defScope s_Ratio___neg__) := ⟨rfl, rfl, rfl, by decide +kernel, rfl, by decide +kernel, by decide +kernel⟩
noncomputable def b_Ratio___neg__ : GS' :=
  (gSeq (gIf (gTr truD (gBin dEq (gUn (dFld ft_bottom) (gVar 0)) (gC (.int 0)))) gStuck gSkip)
    (gRet (gCall (gMake 5 [] f_Ratio___init__) (gCons (gUn dNegI (gUn (dFld ft_top) (gVar 0))) (gCons (gUn (dFld ft_bottom) (gVar 0)) gNil)))))
noncomputable def f_Ratio___neg__ : List D → Stor → R D := gFn 1 1 b_Ratio___neg__
theorem fg_Ratio___neg__ (T : Tx K mg) {fd : FuncData} (F : FunD K "__neg__" "Ratio.__neg__" (defArgs s_Ratio___neg__) (defBody s_Ratio___neg__) (defScope s_Ratio___neg__) [] [] (He.ma K (He.ga K "Ratio") "__neg__") fd) : FnG P w (WW K) mg base 4 (He.ma K (He.ga K "Ratio") "__neg__") fd ["self"] f_Ratio___neg__ :=
  fng_of (W := WW K) (N := ["self"]) F sc_Ratio___neg__ (fun cdv A outer s H E hr gd =>
    (gs_cons (gs_if (gt_cmp (tru_plain rfl) (og_eq rfl hr.units) (ge_fld rfl (T.fld_bottom) (ge_var (pv 0))) ge_int (nomark _)) (gs_one gs_stuck) gs_nil)
    (gs_one (gs_ret (ge_call (cg_make (c := 5) T.mk_Ratio (okd_Ratio___init___0 T) rfl (hr.mono (by decide)) gd pass_def) rfl T.g_Ratio T.mk_Ratio.kp (ga_cons (ge_un ug_negI (ge_fld rfl (T.fld_top) (ge_var (pv 0)))) (ga_cons (ge_fld rfl (T.fld_bottom) (ge_var (pv 0))) ga_nil)))))))
theorem ok_Ratio___neg__ (T : Tx K mg) : FnB P w (WW K) mg base 4 (He.ma K (He.ga K "Ratio") "__neg__") ["self"] f_Ratio___neg__ := by
  obtain ⟨fd, F⟩ := T.d_Ratio___neg__
  exact ⟨⟨fd, fg_Ratio___neg__ T F, F.bindsN fun _ _ _ _ _ _ us hl => match us, hl with | [_], _ => rfl⟩, T.k_Ratio___neg__⟩
theorem sc_Ratio___abs__ : FnScope ["self"] ["self"] (defScope s_Ratio___abs__) := ⟨rfl, rfl, rfl, by decide +kernel, rfl, by decide +kernel, by decide +kernel⟩
noncomputable def b_Ratio___abs__ : GS' :=
  (gSeq (gIf (gTr truD (gBin dEq (gUn (dFld ft_bottom) (gVar 0)) (gC (.int 0)))) gStuck gSkip)
    (gRet (gCall (gMake 5 [] f_Ratio___init__) (gCons (gCall fAbsI (gCons (gUn (dFld ft_top) (gVar 0)) gNil)) (gCons (gUn (dFld ft_bottom) (gVar 0)) gNil)))))
noncomputable def f_Ratio___abs__ : List D → Stor → R D := gFn 1 1 b_Ratio___abs__
theorem fg_Ratio___abs__ (T : Tx K mg) {fd : FuncData} (F : FunD K "__abs__" "Ratio.__abs__" (defArgs s_Ratio___abs__) (defBody s_Ratio___abs__) (defScope s_Ratio___abs__) [] [] (He.ma K (He.ga K "Ratio") "__abs__") fd) : FnG P w (WW K) mg base 4 (He.ma K (He.ga K "Ratio") "__abs__") fd ["self"] f_Ratio___abs__ :=
  fng_of (W := WW K) (N := ["self"]) F sc_Ratio___abs__ (fun cdv A outer s H E hr gd =>
    (gs_cons (gs_if (gt_cmp (tru_plain rfl) (og_eq rfl hr.units) (ge_fld rfl (T.fld_bottom) (ge_var (pv 0))) ge_int (nomark _)) (gs_one gs_stuck) gs_nil)
    (gs_one (gs_ret (ge_call (cg_make (c := 5) T.mk_Ratio (okd_Ratio___init___0 T) rfl (hr.mono (by decide)) gd pass_def) rfl T.g_Ratio T.mk_Ratio.kp (ga_cons (ge_callB cg_abs rfl T.n_abs (by decide +kernel) (ga_cons (ge_fld rfl (T.fld_top) (ge_var (pv 0))) ga_nil)) (ga_cons (ge_fld rfl (T.fld_bottom) (ge_var (pv 0))) ga_nil)))))))
theorem ok_Ratio___abs__ (T : Tx K mg) : FnB P w (WW K) mg base 4 (He.ma K (He.ga K "Ratio") "__abs__") ["self"] f_Ratio___abs__ := by
  obtain ⟨fd, F⟩ := T.d_Ratio___abs__
  exact ⟨⟨fd, fg_Ratio___abs__ T F, F.bindsN fun _ _ _ _ _ _ us hl => match us, hl with | [_], _ => rfl⟩, T.k_Ratio___abs__⟩
theorem sc__law_alone_right : FnScope ["_law_one", "_law_here", "_law_back", "_law_size", "_law_found"] ["_law_one"] (defScope s__law_alone_right) := ⟨rfl, rfl, rfl, by decide +kernel, rfl, by decide +kernel, by decide +kernel⟩
noncomputable def b__law_alone_right : GS' :=
  (gSeq (gPar2 1 2 (gCons (gCall f__law_made (gCons (gVar 0) gNil)) (gCons (gTup (gCons (gBin dSubI (gC (.int 0)) (gBin dIx (gVar 0) (gC (.int 0)))) (gCons (gBin dIx (gVar 0) (gC (.int 1))) gNil))) gNil)))
    (gSeq (gSet 3 (gTup (gCons (gCall fAbsI (gCons (gBin dIx (gVar 0) (gC (.int 0))) gNil)) (gCons (gBin dIx (gVar 0) (gC (.int 1))) gNil))))
    (gSeq (gSet 4 (gLst (gCons (gUn (fun x M => orR (dNegI x M) (own1 5 f_Ratio___neg__ x M)) (gVar 1)) (gCons (gUn (fun x M => orR (dNegI x M) (own1 5 f_Ratio___neg__ x M)) (gUn (fun x M => orR (dNegI x M) (own1 5 f_Ratio___neg__ x M)) (gVar 1))) (gCons (gCall (fun ds M => orR (fAbsI ds M) (fAbsO 5 f_Ratio___abs__ ds M)) (gCons (gVar 1) gNil)) (gCons (gCall (fun ds M => orR (fAbsI ds M) (fAbsO 5 f_Ratio___abs__ ds M)) (gCons (gUn (fun x M => orR (dNegI x M) (own1 5 f_Ratio___neg__ x M)) (gVar 1)) gNil)) gNil))))))
    (gSeq (gIf (gNot (gTr truD (gCall f__law_are (gCons (gVar 4) (gCons (gLst (gCons (gVar 2) (gCons (gVar 0) (gCons (gVar 3) (gCons (gVar 3) gNil))))) gNil))))) (gRet (gC (.bl false))) gSkip)
    (gRet (gCall f__law_are (gCons (gLst (gCons (gBin (fun x y M => orR (dSubI x y M) (own2 5 f_Ratio___sub__ f_Ratio___rsub__ x y M)) (gVar 1) (gVar 1)) (gCons (gBin (fun x y M => orR (dAdd x y M) (own2 5 f_Ratio___add__ f_Ratio___radd__ x y M)) (gVar 1) (gUn (fun x M => orR (dNegI x M) (own1 5 f_Ratio___neg__ x M)) (gVar 1))) (gCons (gBin (fun x y M => orR (dMul x y M) (own2 5 f_Ratio___mul__ f_Ratio___rmul__ x y M)) (gVar 1) (gC (.int 0))) (gCons (gBin (fun x y M => orR (dMul x y M) (own2 5 f_Ratio___mul__ f_Ratio___rmul__ x y M)) (gC (.int 0)) (gVar 1)) (gCons (gBin (fun x y M => orR (dMul x y M) (own2 5 f_Ratio___mul__ f_Ratio___rmul__ x y M)) (gVar 1) (gC (.int 1))) gNil)))))) (gCons (gBin dAdd (gBin dMul (gLst (gCons (gTup (gCons (gC (.int 0)) (gCons (gC (.int 1)) gNil))) gNil)) (gC (.int 4))) (gLst (gCons (gVar 0) gNil))) gNil))))))))
noncomputable def f__law_alone_right : List D → Stor → R D := gFn 1 5 b__law_alone_right
theorem fg__law_alone_right (T : Tx K mg) {fd : FuncData} (F : FunD K "_law_alone_right" "_law_alone_right" (defArgs s__law_alone_right) (defBody s__law_alone_right) (defScope s__law_alone_right) [] [] (He.ga K "_law_alone_right") fd) : FnG P w (WW K) mg base 6 (He.ga K "_law_alone_right") fd ["_law_one"] f__law_alone_right :=
  fng_of (W := WW K) (N := ["_law_one", "_law_here", "_law_back", "_law_size", "_law_found"]) F sc__law_alone_right (fun cdv A outer s H E hr gd =>
    (gs_cons (gs_par2 (i := 1) (j := 2) rfl sc__law_alone_right.nd rfl rfl (by decide) rfl rfl (ga_cons (ge_call (cg_b (ok__law_made T) rfl (hr.mono (by decide)) gd pass_def) rfl T.g__law_made T.k__law_made (ga_cons (ge_var (pv 0)) ga_nil)) (ga_cons (ge_tup (ga_cons (ge_bin og_subI ge_int (ge_ix rfl (ge_var (pv 0)) ge_int (fun _ _ => rfl))) (ga_cons (ge_ix rfl (ge_var (pv 0)) ge_int (fun _ _ => rfl)) ga_nil))) ga_nil)))
    (gs_cons (gs_set (i := 3) sc__law_alone_right.nd rfl (by first | exact Or.inl rfl | exact Or.inr rfl) (ge_tup (ga_cons (ge_callB cg_abs rfl T.n_abs (by decide +kernel) (ga_cons (ge_ix rfl (ge_var (pv 0)) ge_int (fun _ _ => rfl)) ga_nil)) (ga_cons (ge_ix rfl (ge_var (pv 0)) ge_int (fun _ _ => rfl)) ga_nil))))
    (gs_cons (gs_set (i := 4) sc__law_alone_right.nd rfl (by first | exact Or.inl rfl | exact Or.inr rfl) (ge_lst (ga_cons (ge_un (ug_negI.or (ug_neg (c := 5) T.me_Ratio___neg__.at_ T.me_Ratio___neg__.fn (cg_b (ok_Ratio___neg__ T) rfl (hr.mono (by decide)) gd pass_def))) (ge_var (pv 1))) (ga_cons (ge_un (ug_negI.or (ug_neg (c := 5) T.me_Ratio___neg__.at_ T.me_Ratio___neg__.fn (cg_b (ok_Ratio___neg__ T) rfl (hr.mono (by decide)) gd pass_def))) (ge_un (ug_negI.or (ug_neg (c := 5) T.me_Ratio___neg__.at_ T.me_Ratio___neg__.fn (cg_b (ok_Ratio___neg__ T) rfl (hr.mono (by decide)) gd pass_def))) (ge_var (pv 1)))) (ga_cons (ge_callB (cg_abs.or (cg_absO (c := 5) T.me_Ratio___abs__.at_ T.me_Ratio___abs__.fn (cg_b (ok_Ratio___abs__ T) rfl (Room.in1 (hr.mono (by decide))) gd (pass_in1 pass_def)))) rfl T.n_abs (by decide +kernel) (ga_cons (ge_var (pv 1)) ga_nil)) (ga_cons (ge_callB (cg_abs.or (cg_absO (c := 5) T.me_Ratio___abs__.at_ T.me_Ratio___abs__.fn (cg_b (ok_Ratio___abs__ T) rfl (Room.in1 (hr.mono (by decide))) gd (pass_in1 pass_def)))) rfl T.n_abs (by decide +kernel) (ga_cons (ge_un (ug_negI.or (ug_neg (c := 5) T.me_Ratio___neg__.at_ T.me_Ratio___neg__.fn (cg_b (ok_Ratio___neg__ T) rfl (hr.mono (by decide)) gd pass_def))) (ge_var (pv 1))) ga_nil)) ga_nil))))))
    (gs_cons (gs_if (gt_not (gt_tr (tru_plain rfl) (ge_call (cg_b (ok__law_are T) rfl (hr.mono (by decide)) gd pass_def) rfl T.g__law_are T.k__law_are (ga_cons (ge_var (pv 4)) (ga_cons (ge_lst (ga_cons (ge_var (pv 2)) (ga_cons (ge_var (pv 0)) (ga_cons (ge_var (pv 3)) (ga_cons (ge_var (pv 3)) ga_nil))))) ga_nil))))) (gs_one (gs_ret ge_bl)) gs_nil)
    (gs_one (gs_ret (ge_call (cg_b (ok__law_are T) rfl (hr.mono (by decide)) gd pass_def) rfl T.g__law_are T.k__law_are (ga_cons (ge_lst (ga_cons (ge_bin (og_subI.or (og_own (c := 5) T.op_Ratio_sub intdec_sub (cg_b (ok_Ratio___sub__ T) rfl (hr.mono (by decide)) gd pass_def) (cg_b (ok_Ratio___rsub__ T) rfl (hr.mono (by decide)) gd pass_def))) (ge_var (pv 1)) (ge_var (pv 1))) (ga_cons (ge_bin ((og_add rfl).or (og_own (c := 5) T.op_Ratio_add intdec_add (cg_b (ok_Ratio___add__ T) rfl (hr.mono (by decide)) gd pass_def) (cg_b (ok_Ratio___radd__ T) rfl (hr.mono (by decide)) gd pass_def))) (ge_var (pv 1)) (ge_un (ug_negI.or (ug_neg (c := 5) T.me_Ratio___neg__.at_ T.me_Ratio___neg__.fn (cg_b (ok_Ratio___neg__ T) rfl (hr.mono (by decide)) gd pass_def))) (ge_var (pv 1)))) (ga_cons (ge_bin (og_mul.or (og_own (c := 5) T.op_Ratio_mul intdec_mul (cg_b (ok_Ratio___mul__ T) rfl (hr.mono (by decide)) gd pass_def) (cg_b (ok_Ratio___rmul__ T) rfl (hr.mono (by decide)) gd pass_def))) (ge_var (pv 1)) ge_int) (ga_cons (ge_bin (og_mul.or (og_own (c := 5) T.op_Ratio_mul intdec_mul (cg_b (ok_Ratio___mul__ T) rfl (hr.mono (by decide)) gd pass_def) (cg_b (ok_Ratio___rmul__ T) rfl (hr.mono (by decide)) gd pass_def))) ge_int (ge_var (pv 1))) (ga_cons (ge_bin (og_mul.or (og_own (c := 5) T.op_Ratio_mul intdec_mul (cg_b (ok_Ratio___mul__ T) rfl (hr.mono (by decide)) gd pass_def) (cg_b (ok_Ratio___rmul__ T) rfl (hr.mono (by decide)) gd pass_def))) (ge_var (pv 1)) ge_int) ga_nil)))))) (ga_cons (ge_bin (og_add rfl) (ge_bin og_mul (ge_lst (ga_cons (ge_tup (ga_cons ge_int (ga_cons ge_int ga_nil))) ga_nil)) ge_int) (ge_lst (ga_cons (ge_var (pv 0)) ga_nil))) ga_nil))))))))))
theorem ok__law_alone_right (T : Tx K mg) : FnB P w (WW K) mg base 6 (He.ga K "_law_alone_right") ["_law_one"] f__law_alone_right := by
  obtain ⟨fd, F⟩ := T.d__law_alone_right
  exact ⟨⟨fd, fg__law_alone_right T F, F.bindsN fun _ _ _ _ _ _ us hl => match us, hl with | [_], _ => rfl⟩, T.k__law_alone_right⟩
theorem sc_law : FnScope ["_law_script", "_law_pen_here", "_law_spin", "_law_one", "_law_other", "_law_way"] ["_law_script"] (defScope s_law) := ⟨rfl, rfl, rfl, by decide +kernel, rfl, by decide +kernel, by decide +kernel⟩
noncomputable def b_law : GS' :=
  (gSeq (gSet 1 (gCall f__law_pen (gCons (gVar 0) gNil)))
    (gSeq (gFor (giRange1 (gCons (gC (.int 8)) gNil)) (ggName 2) (gSeq (gPar2 3 4 (gCons (gCall f__law_fraction (gCons (gVar 1) gNil)) (gCons (gCall f__law_fraction (gCons (gVar 1) gNil)) gNil)))
    (gSeq (gSet 5 (gCall f__law_draw (gCons (gVar 1) (gCons (gC (.int 6)) gNil))))
    (gSeq (gIf (gTr truD (gBin dEq (gVar 5) (gC (.int 0)))) (gSet 4 (gVar 3)) gSkip)
    (gSeq (gIf (gTr truD (gBin dEq (gVar 5) (gC (.int 1)))) (gSet 4 (gTup (gCons (gBin dSubI (gC (.int 0)) (gBin dIx (gVar 3) (gC (.int 0)))) (gCons (gBin dIx (gVar 3) (gC (.int 1))) gNil)))) gSkip)
    (gSeq (gIf (gTr truD (gBin dGtI (gVar 5) (gC (.int 3)))) (gSet 4 (gTup (gCons (gBin dIx (gVar 4) (gC (.int 0))) (gCons (gC (.int 1)) gNil)))) gSkip)
    (gSeq (gIf (gOr (gNot (gTr truD (gCall f__law_pair_right (gCons (gVar 3) (gCons (gVar 4) gNil))))) (gNot (gTr truD (gCall f__law_pair_right (gCons (gVar 4) (gCons (gVar 3) gNil)))))) (gRet (gC (.bl false))) gSkip)
    (gIf (gNot (gTr truD (gCall f__law_alone_right (gCons (gVar 3) gNil)))) (gRet (gC (.bl false))) gSkip))))))))
    (gRet (gC (.bl true)))))
noncomputable def f_law : List D → Stor → R D := gFn 1 6 b_law
theorem fg_law (T : Tx K mg) {fd : FuncData} (F : FunD K "law" "law" (defArgs s_law) (defBody s_law) (defScope s_law) [] [] (He.ga K "law") fd) : FnG P w (WW K) mg base 8 (He.ga K "law") fd ["_law_script"] f_law :=
  fng_of (W := WW K) (N := ["_law_script", "_law_pen_here", "_law_spin", "_law_one", "_law_other", "_law_way"]) F sc_law (fun cdv A outer s H E hr gd =>
    (gs_cons (gs_set (i := 1) sc_law.nd rfl (by first | exact Or.inl rfl | exact Or.inr rfl) (ge_call (cg_b (ok__law_pen T) rfl (hr.mono (by decide)) gd pass_def) rfl T.g__law_pen T.k__law_pen (ga_cons (ge_var (pv 0)) ga_nil)))
    (gs_cons (gs_for own_def rfl (gi_range1 rfl T.n_range (ga_cons ge_int ga_nil)) (gg_name (pg_name (i := 2) sc_law.nd rfl (by first | exact Or.inl rfl | exact Or.inr rfl))) (gs_cons (gs_par2 (i := 3) (j := 4) rfl sc_law.nd rfl rfl (by decide) rfl rfl (ga_cons (ge_call (cg_b (ok__law_fraction T) rfl (hr.mono (by decide)) gd pass_def) rfl T.g__law_fraction T.k__law_fraction (ga_cons (ge_var (pv 1)) ga_nil)) (ga_cons (ge_call (cg_b (ok__law_fraction T) rfl (hr.mono (by decide)) gd pass_def) rfl T.g__law_fraction T.k__law_fraction (ga_cons (ge_var (pv 1)) ga_nil)) ga_nil)))
    (gs_cons (gs_set (i := 5) sc_law.nd rfl (by first | exact Or.inl rfl | exact Or.inr rfl) (ge_call (cg_b (ok__law_draw T) rfl (hr.mono (by decide)) gd pass_def) rfl T.g__law_draw T.k__law_draw (ga_cons (ge_var (pv 1)) (ga_cons ge_int ga_nil))))
    (gs_cons (gs_if (gt_cmp (tru_plain rfl) (og_eq rfl hr.units) (ge_var (pv 5)) ge_int (nomark _)) (gs_one (gs_set (i := 4) sc_law.nd rfl (by first | exact Or.inl rfl | exact Or.inr rfl) (ge_var (pv 3)))) gs_nil)
    (gs_cons (gs_if (gt_cmp (tru_plain rfl) (og_eq rfl hr.units) (ge_var (pv 5)) ge_int (nomark _)) (gs_one (gs_set (i := 4) sc_law.nd rfl (by first | exact Or.inl rfl | exact Or.inr rfl) (ge_tup (ga_cons (ge_bin og_subI ge_int (ge_ix rfl (ge_var (pv 3)) ge_int (fun _ _ => rfl))) (ga_cons (ge_ix rfl (ge_var (pv 3)) ge_int (fun _ _ => rfl)) ga_nil))))) gs_nil)
    (gs_cons (gs_if (gt_cmp (tru_plain rfl) og_gtI (ge_var (pv 5)) ge_int (nomark _)) (gs_one (gs_set (i := 4) sc_law.nd rfl (by first | exact Or.inl rfl | exact Or.inr rfl) (ge_tup (ga_cons (ge_ix rfl (ge_var (pv 4)) ge_int (fun _ _ => rfl)) (ga_cons ge_int ga_nil))))) gs_nil)
    (gs_cons (gs_if (PW.pt (gw_or (gt_not (gt_tr (tru_plain rfl) (ge_call (cg_b (ok__law_pair_right T) rfl (hr.mono (by decide)) gd pass_def) rfl T.g__law_pair_right T.k__law_pair_right (ga_cons (ge_var (pv 3)) (ga_cons (ge_var (pv 4)) ga_nil))))) (gw_or1 (gt_not (gt_tr (tru_plain rfl) (ge_call (cg_b (ok__law_pair_right T) rfl (hr.mono (by decide)) gd pass_def) rfl T.g__law_pair_right T.k__law_pair_right (ga_cons (ge_var (pv 4)) (ga_cons (ge_var (pv 3)) ga_nil)))))))) (gs_one (gs_ret ge_bl)) gs_nil)
    (gs_one (gs_if (gt_not (gt_tr (tru_plain rfl) (ge_call (cg_b (ok__law_alone_right T) rfl (hr.mono (by decide)) gd pass_def) rfl T.g__law_alone_right T.k__law_alone_right (ga_cons (ge_var (pv 3)) ga_nil)))) (gs_one (gs_ret ge_bl)) gs_nil)))))))))
    (gs_one (gs_ret ge_bl)))))
theorem ok_law (T : Tx K mg) : FnB P w (WW K) mg base 8 (He.ga K "law") ["_law_script"] f_law := by
  obtain ⟨fd, F⟩ := T.d_law
  exact ⟨⟨fd, fg_law T F, F.bindsN fun _ _ _ _ _ _ us hl => match us, hl with | [_], _ => rfl⟩, T.k_law⟩
end
def fa : List He.Fa := ([.glo "_law_pen", .glo "_law_fraction", .glo "_law_draw", .glo "_law_pair_right", .glo "_law_alone_right", .glo "_law_pick", .glo "_law_low", .glo "_law_results", .glo "_law_made", .glo "_law_are", .glo "_law_in_place", .glo "_law_is", .glo "Ratio", .glo "is_integer", .glo "Nothing", .glo "common", .glo "multiplied", .glo "less_another", .glo "added", .free "range", .free "list", .free "int", .free "len", .free "abs", .free "isinstance"] : List He.Fa) ++ ([.free "bool", .free "repr", .mkr "Ratio", .cls "Ratio", .noat "Ratio" "top", .noat "Ratio" "bottom", .meth "Ratio" "__neg__", .meth "Ratio" "__abs__", .glo "law"] : List He.Fa)
def fx : List Fx := ([fxOp "Ratio" "mul", fxOp "Ratio" "sub", fxOp "Ratio" "add", fxSm "Ratio" "of", fxIp "Ratio" "add", fxIp "Ratio" "sub", fxIp "Ratio" "mul", fxClsI "Ratio", fxKit (.b "int") (.b "int") true, fxKit (.b "int") (.b "bool") false, fxKit (.o "Ratio") (.o "Ratio") true, fxKit (.b "int") (.o "Ratio") false, fxKit (.b "int") (.o "Nothing") false] : List Fx)
def da__law_pen : He5.DefA := ⟨fun K => (He.ga K "_law_pen"), "_law_pen", "_law_pen", defArgs s__law_pen, defBody s__law_pen, defScope s__law_pen, [], []⟩
def da__law_draw : He5.DefA := ⟨fun K => (He.ga K "_law_draw"), "_law_draw", "_law_draw", defArgs s__law_draw, defBody s__law_draw, defScope s__law_draw, [], []⟩
def da__law_low : He5.DefA := ⟨fun K => (He.ga K "_law_low"), "_law_low", "_law_low", defArgs s__law_low, defBody s__law_low, defScope s__law_low, [], []⟩
def da__law_pick : He5.DefA := ⟨fun K => (He.ga K "_law_pick"), "_law_pick", "_law_pick", defArgs s__law_pick, defBody s__law_pick, defScope s__law_pick, [], []⟩
def da__law_fraction : He5.DefA := ⟨fun K => (He.ga K "_law_fraction"), "_law_fraction", "_law_fraction", defArgs s__law_fraction, defBody s__law_fraction, defScope s__law_fraction, [], []⟩
def da__law_results : He5.DefA := ⟨fun K => (He.ga K "_law_results"), "_law_results", "_law_results", defArgs s__law_results, defBody s__law_results, defScope s__law_results, [], []⟩
def da_is_integer : He5.DefA := ⟨fun K => (He.ga K "is_integer"), "is_integer", "is_integer", defArgs s_is_integer, defBody s_is_integer, defScope s_is_integer, [], []⟩
def da_common : He5.DefA := ⟨fun K => (He.ga K "common"), "common", "common", defArgs s_common, defBody s_common, defScope s_common, [], []⟩
def da_Ratio___init__ : He5.DefA := ⟨fun K => (He.ma K (He.ga K "Ratio") "__init__"), "__init__", "Ratio.__init__", defArgs s_Ratio___init__, defBody s_Ratio___init__, defScope s_Ratio___init__, [.int 1], []⟩
def da__law_made : He5.DefA := ⟨fun K => (He.ga K "_law_made"), "_law_made", "_law_made", defArgs s__law_made, defBody s__law_made, defScope s__law_made, [], []⟩
def da__law_is : He5.DefA := ⟨fun K => (He.ga K "_law_is"), "_law_is", "_law_is", defArgs s__law_is, defBody s__law_is, defScope s__law_is, [], []⟩
def da__law_are : He5.DefA := ⟨fun K => (He.ga K "_law_are"), "_law_are", "_law_are", defArgs s__law_are, defBody s__law_are, defScope s__law_are, [], []⟩
def da_multiplied : He5.DefA := ⟨fun K => (He.ga K "multiplied"), "multiplied", "multiplied", defArgs s_multiplied, defBody s_multiplied, defScope s_multiplied, [], []⟩
def da_Ratio_of : He5.DefA := ⟨fun K => (He5.wf K (He.ga K "Ratio") "staticmethod" "of"), "of", "Ratio.of", defArgs s_Ratio_of, defBody s_Ratio_of, defScope s_Ratio_of, [], []⟩
def da_Ratio___mul__ : He5.DefA := ⟨fun K => (He.ma K (He.ga K "Ratio") "__mul__"), "__mul__", "Ratio.__mul__", defArgs s_Ratio___mul__, defBody s_Ratio___mul__, defScope s_Ratio___mul__, [], []⟩
def da_Ratio___rmul__ : He5.DefA := ⟨fun K => (He.ma K (He.ga K "Ratio") "__rmul__"), "__rmul__", "Ratio.__rmul__", defArgs s_Ratio___rmul__, defBody s_Ratio___rmul__, defScope s_Ratio___rmul__, [], []⟩
def da_less_another : He5.DefA := ⟨fun K => (He.ga K "less_another"), "less_another", "less_another", defArgs s_less_another, defBody s_less_another, defScope s_less_another, [], []⟩
def da_Ratio___sub__ : He5.DefA := ⟨fun K => (He.ma K (He.ga K "Ratio") "__sub__"), "__sub__", "Ratio.__sub__", defArgs s_Ratio___sub__, defBody s_Ratio___sub__, defScope s_Ratio___sub__, [], []⟩
def da_Ratio___rsub__ : He5.DefA := ⟨fun K => (He.ma K (He.ga K "Ratio") "__rsub__"), "__rsub__", "Ratio.__rsub__", defArgs s_Ratio___rsub__, defBody s_Ratio___rsub__, defScope s_Ratio___rsub__, [], []⟩
def da_added : He5.DefA := ⟨fun K => (He.ga K "added"), "added", "added", defArgs s_added, defBody s_added, defScope s_added, [], []⟩
def da_Ratio___add__ : He5.DefA := ⟨fun K => (He.ma K (He.ga K "Ratio") "__add__"), "__add__", "Ratio.__add__", defArgs s_Ratio___add__, defBody s_Ratio___add__, defScope s_Ratio___add__, [], []⟩
def da_Ratio___radd__ : He5.DefA := ⟨fun K => (He.ma K (He.ga K "Ratio") "__radd__"), "__radd__", "Ratio.__radd__", defArgs s_Ratio___radd__, defBody s_Ratio___radd__, defScope s_Ratio___radd__, [], []⟩
def da__law_in_place : He5.DefA := ⟨fun K => (He.ga K "_law_in_place"), "_law_in_place", "_law_in_place", defArgs s__law_in_place, defBody s__law_in_place, defScope s__law_in_place, [], []⟩
def da__law_pair_right : He5.DefA := ⟨fun K => (He.ga K "_law_pair_right"), "_law_pair_right", "_law_pair_right", defArgs s__law_pair_right, defBody s__law_pair_right, defScope s__law_pair_right, [], []⟩
def da_Ratio___neg__ : He5.DefA := ⟨fun K => (He.ma K (He.ga K "Ratio") "__neg__"), "__neg__", "Ratio.__neg__", defArgs s_Ratio___neg__, defBody s_Ratio___neg__, defScope s_Ratio___neg__, [], []⟩
def da_Ratio___abs__ : He5.DefA := ⟨fun K => (He.ma K (He.ga K "Ratio") "__abs__"), "__abs__", "Ratio.__abs__", defArgs s_Ratio___abs__, defBody s_Ratio___abs__, defScope s_Ratio___abs__, [], []⟩
def da__law_alone_right : He5.DefA := ⟨fun K => (He.ga K "_law_alone_right"), "_law_alone_right", "_law_alone_right", defArgs s__law_alone_right, defBody s__law_alone_right, defScope s__law_alone_right, [], []⟩
def da_law : He5.DefA := ⟨fun K => (He.ga K "law"), "law", "law", defArgs s_law, defBody s_law, defScope s_law, [], []⟩
def fn : List He5.DefA := ([da__law_pen, da__law_draw, da__law_low, da__law_pick, da__law_fraction, da__law_results, da_is_integer, da_common, da_Ratio___init__, da__law_made, da__law_is, da__law_are, da_multiplied, da_Ratio_of, da_Ratio___mul__, da_Ratio___rmul__, da_less_another, da_Ratio___sub__, da_Ratio___rsub__, da_added, da_Ratio___add__, da_Ratio___radd__, da__law_in_place, da__law_pair_right, da_Ratio___neg__] : List He5.DefA) ++ ([da_Ratio___abs__, da__law_alone_right, da_law] : List He5.DefA)
theorem tx_of {K : PySem.W.Frag} {h : Heap} {mg : Str → Option Value} (X : K.In h) (G0 : h.Ns mainGlobals mg) (c : SaysE fa fx fn K) : Tx K mg := by
  have t_g__law_pen := He.glo_ok X G0 (c.fact 0 (f := .glo "_law_pen") rfl)
  have t_g__law_fraction := He.glo_ok X G0 (c.fact 1 (f := .glo "_law_fraction") rfl)
  have t_g__law_draw := He.glo_ok X G0 (c.fact 2 (f := .glo "_law_draw") rfl)
  have t_g__law_pair_right := He.glo_ok X G0 (c.fact 3 (f := .glo "_law_pair_right") rfl)
  have t_g__law_alone_right := He.glo_ok X G0 (c.fact 4 (f := .glo "_law_alone_right") rfl)
  have t_g__law_pick := He.glo_ok X G0 (c.fact 5 (f := .glo "_law_pick") rfl)
  have t_g__law_low := He.glo_ok X G0 (c.fact 6 (f := .glo "_law_low") rfl)
  have t_g__law_results := He.glo_ok X G0 (c.fact 7 (f := .glo "_law_results") rfl)
  have t_g__law_made := He.glo_ok X G0 (c.fact 8 (f := .glo "_law_made") rfl)
  have t_g__law_are := He.glo_ok X G0 (c.fact 9 (f := .glo "_law_are") rfl)
  have t_g__law_in_place := He.glo_ok X G0 (c.fact 10 (f := .glo "_law_in_place") rfl)
  have t_g__law_is := He.glo_ok X G0 (c.fact 11 (f := .glo "_law_is") rfl)
  have t_g_Ratio := He.glo_ok X G0 (c.fact 12 (f := .glo "Ratio") rfl)
  have t_g_is_integer := He.glo_ok X G0 (c.fact 13 (f := .glo "is_integer") rfl)
  have t_g_Nothing := He.glo_ok X G0 (c.fact 14 (f := .glo "Nothing") rfl)
  have t_g_common := He.glo_ok X G0 (c.fact 15 (f := .glo "common") rfl)
  have t_g_multiplied := He.glo_ok X G0 (c.fact 16 (f := .glo "multiplied") rfl)
  have t_g_less_another := He.glo_ok X G0 (c.fact 17 (f := .glo "less_another") rfl)
  have t_g_added := He.glo_ok X G0 (c.fact 18 (f := .glo "added") rfl)
  have t_n_range := He.free_ok X G0 (c.fact 19 (f := .free "range") rfl)
  have t_n_list := He.free_ok X G0 (c.fact 20 (f := .free "list") rfl)
  have t_n_int := He.free_ok X G0 (c.fact 21 (f := .free "int") rfl)
  have t_n_len := He.free_ok X G0 (c.fact 22 (f := .free "len") rfl)
  have t_n_abs := He.free_ok X G0 (c.fact 23 (f := .free "abs") rfl)
  have t_n_isinstance := He.free_ok X G0 (c.fact 24 (f := .free "isinstance") rfl)
  have t_n_bool := He.free_ok X G0 (c.fact 25 (f := .free "bool") rfl)
  have t_n_repr := He.free_ok X G0 (c.fact 26 (f := .free "repr") rfl)
  have t_op_Ratio_mul : OpC K (He.ga K "Ratio") "mul" (He.ma K (He.ga K "Ratio") (dunder "mul")) (He.ma K (He.ga K "Ratio") (dunderR "mul")) := opC_of (c.factX 0 (f := fxOp "Ratio" "mul") rfl)
  have t_op_Ratio_sub : OpC K (He.ga K "Ratio") "sub" (He.ma K (He.ga K "Ratio") (dunder "sub")) (He.ma K (He.ga K "Ratio") (dunderR "sub")) := opC_of (c.factX 1 (f := fxOp "Ratio" "sub") rfl)
  have t_op_Ratio_add : OpC K (He.ga K "Ratio") "add" (He.ma K (He.ga K "Ratio") (dunder "add")) (He.ma K (He.ga K "Ratio") (dunderR "add")) := opC_of (c.factX 2 (f := fxOp "Ratio" "add") rfl)
  have t_mk_Ratio : Mk K (He.ga K "Ratio") (He.ma K (He.ga K "Ratio") "__init__") := He.mkr_ok (c.fact 27 (f := .mkr "Ratio") rfl)
  have t_cls_Ratio : Cls K (He.ga K "Ratio") := He.cls_ok (x := "Ratio") (c.fact 28 (f := .cls "Ratio") rfl)
  have t_na_Ratio_top : NoAttr K (He.ga K "Ratio") "top" := He.noat_ok (c.fact 29 (f := .noat "Ratio" "top") rfl)
  have t_na_Ratio_bottom : NoAttr K (He.ga K "Ratio") "bottom" := He.noat_ok (c.fact 30 (f := .noat "Ratio" "bottom") rfl)
  have t_sm_Ratio_of : SMet K (He.ga K "Ratio") "of" (He5.wf K (He.ga K "Ratio") "staticmethod" "of") := sm_of (c.factX 3 (f := fxSm "Ratio" "of") rfl)
  have t_ip_Ratio_add : IpC K (He.ga K "Ratio") "add" := ipC_of (c.factX 4 (f := fxIp "Ratio" "add") rfl)
  have t_ip_Ratio_sub : IpC K (He.ga K "Ratio") "sub" := ipC_of (c.factX 5 (f := fxIp "Ratio" "sub") rfl)
  have t_ip_Ratio_mul : IpC K (He.ga K "Ratio") "mul" := ipC_of (c.factX 6 (f := fxIp "Ratio" "mul") rfl)
  have t_me_Ratio___neg__ : Meth K (He.ga K "Ratio") "__neg__" (He.ma K (He.ga K "Ratio") "__neg__") := He.meth_ok (c.fact 31 (f := .meth "Ratio" "__neg__") rfl)
  have t_me_Ratio___abs__ : Meth K (He.ga K "Ratio") "__abs__" (He.ma K (He.ga K "Ratio") "__abs__") := He.meth_ok (c.fact 32 (f := .meth "Ratio" "__abs__") rfl)
  have t_i_Ratio : ClsI K (He.ga K "Ratio") := clsI_of t_cls_Ratio (c.factX 7 (f := fxClsI "Ratio") rfl)
  have t_kit_int_int : PySem.W.kitOne K (TN.v K (.b "int")) (TN.v K (.b "int")) = some true := G.kit_of (c.factX 8 (f := fxKit (.b "int") (.b "int") true) rfl)
  have t_kit_int_bool : PySem.W.kitOne K (TN.v K (.b "int")) (TN.v K (.b "bool")) = some false := G.kit_of (c.factX 9 (f := fxKit (.b "int") (.b "bool") false) rfl)
  have t_kit_Ratio_Ratio : PySem.W.kitOne K (TN.v K (.o "Ratio")) (TN.v K (.o "Ratio")) = some true := G.kit_of (c.factX 10 (f := fxKit (.o "Ratio") (.o "Ratio") true) rfl)
  have t_kit_int_Ratio : PySem.W.kitOne K (TN.v K (.b "int")) (TN.v K (.o "Ratio")) = some false := G.kit_of (c.factX 11 (f := fxKit (.b "int") (.o "Ratio") false) rfl)
  have t_kit_int_Nothing : PySem.W.kitOne K (TN.v K (.b "int")) (TN.v K (.o "Nothing")) = some false := G.kit_of (c.factX 12 (f := fxKit (.b "int") (.o "Nothing") false) rfl)
  have t_d__law_pen := c.def_ 0 (d := da__law_pen) rfl
  have t_k__law_pen : PySem.W.keepIn K (.ref (He.ga K "_law_pen")) = true := by obtain ⟨_, F⟩ := t_d__law_pen; exact F.kp
  have t_d__law_draw := c.def_ 1 (d := da__law_draw) rfl
  have t_k__law_draw : PySem.W.keepIn K (.ref (He.ga K "_law_draw")) = true := by obtain ⟨_, F⟩ := t_d__law_draw; exact F.kp
  have t_d__law_low := c.def_ 2 (d := da__law_low) rfl
  have t_k__law_low : PySem.W.keepIn K (.ref (He.ga K "_law_low")) = true := by obtain ⟨_, F⟩ := t_d__law_low; exact F.kp
  have t_d__law_pick := c.def_ 3 (d := da__law_pick) rfl
  have t_k__law_pick : PySem.W.keepIn K (.ref (He.ga K "_law_pick")) = true := by obtain ⟨_, F⟩ := t_d__law_pick; exact F.kp
  have t_d__law_fraction := c.def_ 4 (d := da__law_fraction) rfl
  have t_k__law_fraction : PySem.W.keepIn K (.ref (He.ga K "_law_fraction")) = true := by obtain ⟨_, F⟩ := t_d__law_fraction; exact F.kp
  have t_d__law_results := c.def_ 5 (d := da__law_results) rfl
  have t_k__law_results : PySem.W.keepIn K (.ref (He.ga K "_law_results")) = true := by obtain ⟨_, F⟩ := t_d__law_results; exact F.kp
  have t_d_is_integer := c.def_ 6 (d := da_is_integer) rfl
  have t_k_is_integer : PySem.W.keepIn K (.ref (He.ga K "is_integer")) = true := by obtain ⟨_, F⟩ := t_d_is_integer; exact F.kp
  have t_d_common := c.def_ 7 (d := da_common) rfl
  have t_k_common : PySem.W.keepIn K (.ref (He.ga K "common")) = true := by obtain ⟨_, F⟩ := t_d_common; exact F.kp
  have t_d_Ratio___init__ := c.def_ 8 (d := da_Ratio___init__) rfl
  have t_k_Ratio___init__ : PySem.W.keepIn K (.ref (He.ma K (He.ga K "Ratio") "__init__")) = true := by obtain ⟨_, F⟩ := t_d_Ratio___init__; exact F.kp
  have t_d__law_made := c.def_ 9 (d := da__law_made) rfl
  have t_k__law_made : PySem.W.keepIn K (.ref (He.ga K "_law_made")) = true := by obtain ⟨_, F⟩ := t_d__law_made; exact F.kp
  have t_d__law_is := c.def_ 10 (d := da__law_is) rfl
  have t_k__law_is : PySem.W.keepIn K (.ref (He.ga K "_law_is")) = true := by obtain ⟨_, F⟩ := t_d__law_is; exact F.kp
  have t_d__law_are := c.def_ 11 (d := da__law_are) rfl
  have t_k__law_are : PySem.W.keepIn K (.ref (He.ga K "_law_are")) = true := by obtain ⟨_, F⟩ := t_d__law_are; exact F.kp
  have t_d_multiplied := c.def_ 12 (d := da_multiplied) rfl
  have t_k_multiplied : PySem.W.keepIn K (.ref (He.ga K "multiplied")) = true := by obtain ⟨_, F⟩ := t_d_multiplied; exact F.kp
  have t_d_Ratio_of := c.def_ 13 (d := da_Ratio_of) rfl
  have t_k_Ratio_of : PySem.W.keepIn K (.ref (He5.wf K (He.ga K "Ratio") "staticmethod" "of")) = true := by obtain ⟨_, F⟩ := t_d_Ratio_of; exact F.kp
  have t_d_Ratio___mul__ := c.def_ 14 (d := da_Ratio___mul__) rfl
  have t_k_Ratio___mul__ : PySem.W.keepIn K (.ref (He.ma K (He.ga K "Ratio") "__mul__")) = true := by obtain ⟨_, F⟩ := t_d_Ratio___mul__; exact F.kp
  have t_d_Ratio___rmul__ := c.def_ 15 (d := da_Ratio___rmul__) rfl
  have t_k_Ratio___rmul__ : PySem.W.keepIn K (.ref (He.ma K (He.ga K "Ratio") "__rmul__")) = true := by obtain ⟨_, F⟩ := t_d_Ratio___rmul__; exact F.kp
  have t_d_less_another := c.def_ 16 (d := da_less_another) rfl
  have t_k_less_another : PySem.W.keepIn K (.ref (He.ga K "less_another")) = true := by obtain ⟨_, F⟩ := t_d_less_another; exact F.kp
  have t_d_Ratio___sub__ := c.def_ 17 (d := da_Ratio___sub__) rfl
  have t_k_Ratio___sub__ : PySem.W.keepIn K (.ref (He.ma K (He.ga K "Ratio") "__sub__")) = true := by obtain ⟨_, F⟩ := t_d_Ratio___sub__; exact F.kp
  have t_d_Ratio___rsub__ := c.def_ 18 (d := da_Ratio___rsub__) rfl
  have t_k_Ratio___rsub__ : PySem.W.keepIn K (.ref (He.ma K (He.ga K "Ratio") "__rsub__")) = true := by obtain ⟨_, F⟩ := t_d_Ratio___rsub__; exact F.kp
  have t_d_added := c.def_ 19 (d := da_added) rfl
  have t_k_added : PySem.W.keepIn K (.ref (He.ga K "added")) = true := by obtain ⟨_, F⟩ := t_d_added; exact F.kp
  have t_d_Ratio___add__ := c.def_ 20 (d := da_Ratio___add__) rfl
  have t_k_Ratio___add__ : PySem.W.keepIn K (.ref (He.ma K (He.ga K "Ratio") "__add__")) = true := by obtain ⟨_, F⟩ := t_d_Ratio___add__; exact F.kp
  have t_d_Ratio___radd__ := c.def_ 21 (d := da_Ratio___radd__) rfl
  have t_k_Ratio___radd__ : PySem.W.keepIn K (.ref (He.ma K (He.ga K "Ratio") "__radd__")) = true := by obtain ⟨_, F⟩ := t_d_Ratio___radd__; exact F.kp
  have t_d__law_in_place := c.def_ 22 (d := da__law_in_place) rfl
  have t_k__law_in_place : PySem.W.keepIn K (.ref (He.ga K "_law_in_place")) = true := by obtain ⟨_, F⟩ := t_d__law_in_place; exact F.kp
  have t_d__law_pair_right := c.def_ 23 (d := da__law_pair_right) rfl
  have t_k__law_pair_right : PySem.W.keepIn K (.ref (He.ga K "_law_pair_right")) = true := by obtain ⟨_, F⟩ := t_d__law_pair_right; exact F.kp
  have t_d_Ratio___neg__ := c.def_ 24 (d := da_Ratio___neg__) rfl
  have t_k_Ratio___neg__ : PySem.W.keepIn K (.ref (He.ma K (He.ga K "Ratio") "__neg__")) = true := by obtain ⟨_, F⟩ := t_d_Ratio___neg__; exact F.kp
  have t_d_Ratio___abs__ := c.def_ 25 (d := da_Ratio___abs__) rfl
  have t_k_Ratio___abs__ : PySem.W.keepIn K (.ref (He.ma K (He.ga K "Ratio") "__abs__")) = true := by obtain ⟨_, F⟩ := t_d_Ratio___abs__; exact F.kp
  have t_d__law_alone_right := c.def_ 26 (d := da__law_alone_right) rfl
  have t_k__law_alone_right : PySem.W.keepIn K (.ref (He.ga K "_law_alone_right")) = true := by obtain ⟨_, F⟩ := t_d__law_alone_right; exact F.kp
  have t_d_law := c.def_ 27 (d := da_law) rfl
  have t_k_law : PySem.W.keepIn K (.ref (He.ga K "law")) = true := by obtain ⟨_, F⟩ := t_d_law; exact F.kp
  exact ⟨t_g__law_pen, t_g__law_fraction, t_g__law_draw, t_g__law_pair_right, t_g__law_alone_right, t_g__law_pick, t_g__law_low, t_g__law_results, t_g__law_made, t_g__law_are, t_g__law_in_place, t_g__law_is, t_g_Ratio, t_g_is_integer, t_g_Nothing, t_g_common, t_g_multiplied, t_g_less_another, t_g_added, t_n_range, t_n_list, t_n_int, t_n_len, t_n_abs, t_n_isinstance, t_n_bool, t_n_repr, t_op_Ratio_mul, t_op_Ratio_sub, t_op_Ratio_add, t_mk_Ratio, t_cls_Ratio, t_na_Ratio_top, t_na_Ratio_bottom, t_sm_Ratio_of, t_ip_Ratio_add, t_ip_Ratio_sub, t_ip_Ratio_mul, t_me_Ratio___neg__, t_me_Ratio___abs__, t_i_Ratio, t_kit_int_int, t_kit_int_bool, t_kit_Ratio_Ratio, t_kit_int_Ratio, t_kit_int_Nothing, t_d__law_pen, t_k__law_pen, t_d__law_draw, t_k__law_draw, t_d__law_low, t_k__law_low, t_d__law_pick, t_k__law_pick, t_d__law_fraction, t_k__law_fraction, t_d__law_results, t_k__law_results, t_d_is_integer, t_k_is_integer, t_d_common, t_k_common, t_d_Ratio___init__, t_k_Ratio___init__, t_d__law_made, t_k__law_made, t_d__law_is, t_k__law_is, t_d__law_are, t_k__law_are, t_d_multiplied, t_k_multiplied, t_d_Ratio_of, t_k_Ratio_of, t_d_Ratio___mul__, t_k_Ratio___mul__, t_d_Ratio___rmul__, t_k_Ratio___rmul__, t_d_less_another, t_k_less_another, t_d_Ratio___sub__, t_k_Ratio___sub__, t_d_Ratio___rsub__, t_k_Ratio___rsub__, t_d_added, t_k_added, t_d_Ratio___add__, t_k_Ratio___add__, t_d_Ratio___radd__, t_k_Ratio___radd__, t_d__law_in_place, t_k__law_in_place, t_d__law_pair_right, t_k__law_pair_right, t_d_Ratio___neg__, t_k_Ratio___neg__, t_d_Ratio___abs__, t_k_Ratio___abs__, t_d__law_alone_right, t_k__law_alone_right, t_d_law, t_k_law⟩
def loose : List PySem.Str := (["_wall", "__name__", "WebError", "BadRatio", "NoRatio", "BadText", "FIGURES", "ENDLESS", "is_integer", "common", "Nothing", "Ratio", "written", "all_ratios", "is_less", "added", "less_another", "multiplied", "divided", "whole_quotient", "rest_of", "need_endless", "figures_end", "top_end", "need_bottom"] : List PySem.Str) ++ (["_law_pen", "_law_draw", "_law_pick", "_law_low", "_law_is", "_law_made", "_law_fraction", "_law_results", "_law_are", "_law_in_place", "_law_pair_right", "_law_alone_right"] : List PySem.Str)
end K02

namespace K02
open PySem PySem.Spec PyProof.Rows L2 G
abbrev RR : PySem.W.OpenRow := PySem.W.OpenLaw.row PySem.Challenge.rw_sixasone_k02_sums_and_products
abbrev hk : PySem.W.Hook := hookE 6 fa fx fn
def ob (s : PySem.W.SharedT) : He.AlD := obsEG 6 fa fx fn (HandSHeadRun.getT s)
theorem ob_eq (s : PySem.W.SharedT) : ob s = hk.obs s.abs := obsEG_eq (HandSHeadRun.getT_eq s)
theorem run (w : World) : HandSHeadRun.RunEq RR (PySem.W.view RR.prog [39]) hk ob 60000 loose w := by
  intro os
  kernel_rfl
theorem whole (good : ∀ zs : List Int, zs.length ≤ 63 → ∃ M, f_law [.lck (zs.map D.int)] [] = .ok (.bl true) M) : PySem.Challenge.rw_sixasone_k02_sums_and_products.Holds := by
  w_on; o_law
  refine HandSHeadRun.head_any (r := PySem.W.OpenLaw.row PySem.Challenge.rw_sixasone_k02_sums_and_products) (q := PySem.W.view (PySem.W.OpenLaw.row PySem.Challenge.rw_sixasone_k02_sums_and_products).prog [39]) (H := hk) (ob := ob) (M := 60000) (loose := loose) (d := HandSHeadRun.topDef (PySem.W.OpenLaw.row PySem.Challenge.rw_sixasone_k02_sums_and_products).prog 39) (kwd := []) ob_eq
    (by kernel_rfl) (fun s => by kernel_rfl) run (by kernel_rfl) (by kernel_rfl) (by kernel_rfl) (by rfl) (by first | assumption | decide +kernel) (by decide +kernel) ⟨rfl, rfl, rfl, rfl, rfl, by decide +kernel⟩ ?hw ?hc
  case hw => w_witness2
  case hc =>
    refine walk_g (l := PySem.Challenge.rw_sixasone_k02_sums_and_products) (n := 63) (k := 8) (x := "_law_script") rfl (by decide) (by kernel_rfl) ⟨rfl, by decide, by decide⟩ ?F
    intro w mg fa h Y G hmg0
    obtain ⟨K, KX, c⟩ := Y
    have hmg : mg ("law" : PySem.Str) = some (.ref fa) := by
      have e : (HandSHeadRun.topDef (PySem.W.OpenLaw.row PySem.Challenge.rw_sixasone_k02_sums_and_products).prog 39).name = ("law" : PySem.Str) := by kernel_rfl
      rw [← e]
      exact hmg0
    have T := tx_of KX G c
    have e := hmg.symm.trans (He.glo_ok KX G (c.fact 33 (f := .glo "law") rfl))
    cases e
    obtain ⟨fd, F⟩ := T.d_law
    exact ⟨WW K, fd, f_law, KX, fun s v => F.bindsA (ps := ["_law_script"]) (fun _ _ _ _ _ _ us hl => match us, hl with | [_], _ => rfl) s [v] rfl, good, fun base _ _ => fg_law T F⟩
end K02

namespace K02
open PySem L2 G
abbrev rat (a b : Int) : D := .ins 5 [.int a, .int b]
theorem isint (i : Int) (M : Stor) : f_is_integer [.int i] M = .ok (.bl true) M := rfl
theorem of_rat (a b : Int) (M : Stor) : f_Ratio_of [rat a b] M = .ok (rat a b) M := rfl
/-- the greatest common divisor, as the loop reckons it -/
theorem gcd_loop (t : GT') (b : GS') (x0 x1 : Option D) (M : Stor) (ht : ∀ x y : Int, t [x0, x1, some (.int x), some (.int y)] M = .ok (!decide (y = 0)) M)
    (hb : ∀ x y : Int, y ≠ 0 → b [x0, x1, some (.int x), some (.int y)] M = .nx [x0, x1, some (.int y), some (.int (x.fmod y))] M) :
    ∀ (n : Nat) (x y : Nat), y < n → gWhile t b n [x0, x1, some (.int x), some (.int y)] M = .nx [x0, x1, some (.int (Nat.gcd x y)), some (.int 0)] M := by
  intro n
  induction n with
  | zero => intro x y h; omega
  | succ n ih =>
    intro x y h
    rw [while_step, ht]
    by_cases hy : y = 0
    · subst hy
      simp
    · have hy' : ((y : Nat) : Int) ≠ 0 := by omega
      simp only [R.bindS_ok, hy', decide_false, Bool.not_false, if_true]
      rw [hb _ _ hy']
      have e : ((x : Nat) : Int).fmod (y : Nat) = ((x % y : Nat) : Int) := by
        rw [Int.fmod_eq_emod_of_nonneg _ (by omega)]; rfl
      have hlt : x % y < y := Nat.mod_lt _ (by omega)
      simp only [e]
      rw [ih y (x % y) (by omega)]
      rw [Nat.gcd_comm x y, Nat.gcd_rec y x, Nat.gcd_comm (x % y) y]
theorem common_ok (a : Int) (b : Nat) (M : Stor) (hb : b < 2 ^ 90000) : f_common [.int a, .int b] M = .ok (.int (Nat.gcd a.natAbs b)) M := by
  have h := gcd_loop (gTr truD (gBin dNe (gVar 3) (gC (.int 0)))) (gPar2 2 3 (G.gCons (gVar 3) (G.gCons (gBin dModI (gVar 2) (gVar 3)) G.gNil))) (some (.int a)) (some (.int b)) M (fun x y => rfl) (fun x y hy => by
    simp only [gFn, gSeq, gSkip, gRet, gRetN, gExpr, gSet, gIf, gAug, gAsg, gPar2, gPar3, gVar, gC, gBin, gUn, gTr, gAnd, gOr, gNot, gAndV, gOrV, gNotV, gIfE, gCall, G.gCons, G.gNil, G.gTup, gLst, gLstM, gSl, goSome, goNone, R.bind_ok, R.bind_ex, R.bind_no, R.bindS_ok, R.bindS_ex, R.bindS_no, outS_nx, outS_rt, outS_ex, orR_ok, orR_ex, orR_no, ggName, ggSub, List.getElem?_cons_zero, List.getElem?_cons_succ, List.set_cons_zero, List.set_cons_succ, List.map_cons, List.map_nil, List.length_cons, List.length_nil, List.replicate, List.append_nil, List.nil_append, List.cons_append, Nat.reduceAdd, Nat.reduceSub, Nat.reduceLeDiff, Nat.reduceLT, if_true, if_false, Bool.false_eq_true, Bool.true_eq_false, Bool.not_true, Bool.not_false, decide_true, decide_false, decide_eq_true_eq, reduceIte, reduceCtorEq, eAdd, eAddI, eSub, eLt, eLe, eGt, eGe, eEq, eNe, eEqS, eNeS, eTru, eNeg, eAbs, eInt, eIntB, eLenL, eLenT, eMod hy]) fuel a.natAbs b (Nat.lt_of_lt_of_le hb (fuel_ge (Nat.pow_le_pow_right (by decide) (by decide))))
  simp only [f_common, b_common, gFn, gSeq, gSkip, gRet, gRetN, gExpr, gSet, gIf, gAug, gAsg, gPar2, gPar3, gVar, gC, gBin, gUn, gTr, gAnd, gOr, gNot, gAndV, gOrV, gNotV, gIfE, gCall, G.gCons, G.gNil, G.gTup, gLst, gLstM, gSl, goSome, goNone, R.bind_ok, R.bind_ex, R.bind_no, R.bindS_ok, R.bindS_ex, R.bindS_no, outS_nx, outS_rt, outS_ex, orR_ok, orR_ex, orR_no, ggName, ggSub, List.getElem?_cons_zero, List.getElem?_cons_succ, List.set_cons_zero, List.set_cons_succ, List.map_cons, List.map_nil, List.length_cons, List.length_nil, List.replicate, List.append_nil, List.nil_append, List.cons_append, Nat.reduceAdd, Nat.reduceSub, Nat.reduceLeDiff, Nat.reduceLT, if_true, if_false, Bool.false_eq_true, Bool.true_eq_false, Bool.not_true, Bool.not_false, decide_true, decide_false, decide_eq_true_eq, reduceIte, reduceCtorEq, eAdd, eAddI, eSub, eLt, eLe, eGt, eGe, eEq, eNe, eEqS, eNeS, eTru, eNeg, eAbs, eInt, eIntB, eLenL, eLenT, h]
/-- in lowest terms -/
def lowP (a : Int) (b : Nat) : Int × Int := (a / (Nat.gcd a.natAbs b : Nat), (b : Int) / (Nat.gcd a.natAbs b : Nat))
def mkR (a : Int) (b : Nat) : D := rat (lowP a b).1 (lowP a b).2
theorem isNo (i : Int) (M : Stor) : fIsi isOk isTab [.int i, .cls 4] M = .ok (.bl false) M := rfl
theorem set_self {M : Stor} {k : Nat} {m m' : MO} (h : M[k]? = some m) : (M.set k m')[k]? = some m' := by
  rw [List.getElem?_set_self]
  exact (List.getElem?_eq_some_iff.mp h).1
theorem ft_top5 : ft_top 5 = some 0 := rfl
theorem ft_bot5 : ft_bottom 5 = some 1 := rfl
theorem setFl0 (d : D) : setFl [] 0 d = some [d] := rfl
theorem setFl1 (x d : D) : setFl [x] 1 d = some [x, d] := rfl
theorem fdiv_nat (a : Int) (n : Nat) : a.fdiv n = a / n := Int.fdiv_eq_ediv_of_nonneg a (by omega)
theorem gcd_pos (a : Int) {b : Nat} (h : 0 < b) : 0 < Nat.gcd a.natAbs b := Nat.gcd_pos_of_pos_right _ h
theorem gcd_div (a : Int) {b : Nat} (h : 0 < b) {n : Nat} (hb : b < 2 ^ n) (hn : n ≤ 9000) : divOk ((Nat.gcd a.natAbs b : Nat) : Int) = true :=
  divOk_of (n := n) (by have := gcd_pos a h; omega) (Nat.lt_of_le_of_lt (Nat.gcd_le_right _ h) hb) hn
theorem init_ok (a : Int) (b : Nat) (k : Nat) (M : Stor) (hb0 : 0 < b) (hb : b < 2 ^ 8000) (hk : M[k]? = some (.ins 5 [])) : f_Ratio___init__ [.ref k, .int a, .int b] M = .ok .non (M.set k (.ins 5 [.int (lowP a b).1, .int (lowP a b).2])) := by
  have hc := common_ok a b M (Nat.lt_trans hb (Nat.pow_lt_pow_right (by decide) (by decide)))
  have h1 : ¬ ((b : Nat) : Int) < 1 := by omega
  have hd := gcd_div a hb0 hb (by decide)
  simp only [f_Ratio___init__, b_Ratio___init__, gFn, gSeq, gSkip, gRet, gRetN, gExpr, gSet, gIf, gAug, gAsg, gPar2, gPar3, gVar, gC, gBin, gUn, gTr, gAnd, gOr, gNot, gAndV, gOrV, gNotV, gIfE, gCall, G.gCons, G.gNil, G.gTup, gLst, gLstM, gSl, goSome, goNone, R.bind_ok, R.bind_ex, R.bind_no, R.bindS_ok, R.bindS_ex, R.bindS_no, outS_nx, outS_rt, outS_ex, orR_ok, orR_ex, orR_no, ggName, ggSub, List.getElem?_cons_zero, List.getElem?_cons_succ, List.set_cons_zero, List.set_cons_succ, List.map_cons, List.map_nil, List.length_cons, List.length_nil, List.replicate, List.append_nil, List.nil_append, List.cons_append, Nat.reduceAdd, Nat.reduceSub, Nat.reduceLeDiff, Nat.reduceLT, if_true, if_false, Bool.false_eq_true, Bool.true_eq_false, Bool.not_true, Bool.not_false, decide_true, decide_false, decide_eq_true_eq, reduceIte, reduceCtorEq, eAdd, eAddI, eSub, eLt, eLe, eGt, eGe, eEq, eNe, eEqS, eNeS, eTru, eNeg, eAbs, eInt, eIntB, eLenL, eLenT, isint, isNo, h1, hc, gSetF, eDiv hd, hk, ft_top5, setFl0, set_self hk, ft_bot5, setFl1, List.set_set, fdiv_nat, lowP]
theorem make_ok (a : Int) (b : Nat) (M : Stor) (hb0 : 0 < b) (hb : b < 2 ^ 8000) : gMake 5 [] f_Ratio___init__ [.int a, .int b] M = .ok (mkR a b) M := by
  have hk : (M ++ [MO.ins 5 []])[M.length]? = some (.ins 5 []) := by simp
  have h := init_ok a b M.length (M ++ [.ins 5 []]) hb0 hb hk
  simp only [gMake, gMakeM, List.append_nil, h, R.bind_ok, set_last]
  exact frz_insF rfl
theorem make1_ok (a : Int) (M : Stor) : gMake 5 [.int 1] f_Ratio___init__ [.int a] M = .ok (mkR a 1) M := by
  have hk : (M ++ [MO.ins 5 []])[M.length]? = some (.ins 5 []) := by simp
  have h := init_ok a 1 M.length (M ++ [.ins 5 []]) (by decide) (by decide) hk
  simp only [gMake, gMakeM, List.cons_append, List.nil_append]
  rw [show ((1 : Int)) = ((1 : Nat) : Int) from rfl, h]
  simp only [R.bind_ok, set_last]
  exact frz_insF rfl
theorem fTop (a b : Int) (M : Stor) : dFld ft_top (rat a b) M = .ok (.int a) M := rfl
theorem fBot (a b : Int) (M : Stor) : dFld ft_bottom (rat a b) M = .ok (.int b) M := rfl
/-- small numbers -/
abbrev Sm (a : Int) : Prop := a.natAbs < 2 ^ 1000
theorem mo {a b : Int} (ha : Sm a) (hb : Sm b) : mulOk a b = true := mulOk_of ha hb (by decide)
theorem prod_lt {b d : Nat} (hb : b < 2 ^ 1000) (hd : d < 2 ^ 1000) : b * d < 2 ^ 8000 := by
  have h1 : b * d < 2 ^ 1000 * 2 ^ 1000 := Nat.mul_lt_mul'' hb hd
  have h2 : (2 : Nat) ^ 1000 * 2 ^ 1000 = 2 ^ 2000 := by rw [← Nat.pow_add]
  have h3 : (2 : Nat) ^ 2000 ≤ 2 ^ 8000 := Nat.pow_le_pow_right (by decide) (by decide)
  omega
section
variable (a c : Int) (b d : Nat) (M : Stor) (ha : Sm a) (hc : Sm c) (hb0 : 0 < b) (hb : b < 2 ^ 1000) (hd0 : 0 < d) (hd : d < 2 ^ 1000)
include ha hc hb0 hb hd0 hd
theorem nz (n : Nat) (h : 0 < n) : ¬ ((n : Nat) : Int) = 0 := by omega
theorem added_ok : f_added [rat a b, rat c d] M = .ok (mkR (a * d + c * b) (b * d)) M := by
  have e1 : ¬ ((b : Nat) : Int) = 0 := by omega
  have e2 : ¬ ((d : Nat) : Int) = 0 := by omega
  have hm := make_ok (a * d + c * b) (b * d) M (Nat.mul_pos hb0 hd0) (prod_lt hb hd)
  rw [Int.natCast_mul] at hm
  simp only [f_added, b_added, gFn, gSeq, gSkip, gRet, gRetN, gExpr, gSet, gIf, gAug, gAsg, gPar2, gPar3, gVar, gC, gBin, gUn, gTr, gAnd, gOr, gNot, gAndV, gOrV, gNotV, gIfE, gCall, G.gCons, G.gNil, G.gTup, gLst, gLstM, gSl, goSome, goNone, R.bind_ok, R.bind_ex, R.bind_no, R.bindS_ok, R.bindS_ex, R.bindS_no, outS_nx, outS_rt, outS_ex, orR_ok, orR_ex, orR_no, ggName, ggSub, List.getElem?_cons_zero, List.getElem?_cons_succ, List.set_cons_zero, List.set_cons_succ, List.map_cons, List.map_nil, List.length_cons, List.length_nil, List.replicate, List.append_nil, List.nil_append, List.cons_append, Nat.reduceAdd, Nat.reduceSub, Nat.reduceLeDiff, Nat.reduceLT, if_true, if_false, Bool.false_eq_true, Bool.true_eq_false, Bool.not_true, Bool.not_false, decide_true, decide_false, decide_eq_true_eq, reduceIte, reduceCtorEq, eAdd, eAddI, eSub, eLt, eLe, eGt, eGe, eEq, eNe, eEqS, eNeS, eTru, eNeg, eAbs, eInt, eIntB, eLenL, eLenT, fTop, fBot, e1, e2, eMul (mo ha (show Sm (d : Int) from hd)), eMul (mo hc (show Sm (b : Int) from hb)), eMul (mo (show Sm (b : Int) from hb) (show Sm (d : Int) from hd)), hm]
theorem less_ok : f_less_another [rat a b, rat c d] M = .ok (mkR (a * d - c * b) (b * d)) M := by
  have e1 : ¬ ((b : Nat) : Int) = 0 := by omega
  have e2 : ¬ ((d : Nat) : Int) = 0 := by omega
  have hm := make_ok (a * d - c * b) (b * d) M (Nat.mul_pos hb0 hd0) (prod_lt hb hd)
  rw [Int.natCast_mul] at hm
  simp only [f_less_another, b_less_another, gFn, gSeq, gSkip, gRet, gRetN, gExpr, gSet, gIf, gAug, gAsg, gPar2, gPar3, gVar, gC, gBin, gUn, gTr, gAnd, gOr, gNot, gAndV, gOrV, gNotV, gIfE, gCall, G.gCons, G.gNil, G.gTup, gLst, gLstM, gSl, goSome, goNone, R.bind_ok, R.bind_ex, R.bind_no, R.bindS_ok, R.bindS_ex, R.bindS_no, outS_nx, outS_rt, outS_ex, orR_ok, orR_ex, orR_no, ggName, ggSub, List.getElem?_cons_zero, List.getElem?_cons_succ, List.set_cons_zero, List.set_cons_succ, List.map_cons, List.map_nil, List.length_cons, List.length_nil, List.replicate, List.append_nil, List.nil_append, List.cons_append, Nat.reduceAdd, Nat.reduceSub, Nat.reduceLeDiff, Nat.reduceLT, if_true, if_false, Bool.false_eq_true, Bool.true_eq_false, Bool.not_true, Bool.not_false, decide_true, decide_false, decide_eq_true_eq, reduceIte, reduceCtorEq, eAdd, eAddI, eSub, eLt, eLe, eGt, eGe, eEq, eNe, eEqS, eNeS, eTru, eNeg, eAbs, eInt, eIntB, eLenL, eLenT, fTop, fBot, e1, e2, eMul (mo ha (show Sm (d : Int) from hd)), eMul (mo hc (show Sm (b : Int) from hb)), eMul (mo (show Sm (b : Int) from hb) (show Sm (d : Int) from hd)), hm]
theorem mult_ok : f_multiplied [rat a b, rat c d] M = .ok (mkR (a * c) (b * d)) M := by
  have e1 : ¬ ((b : Nat) : Int) = 0 := by omega
  have e2 : ¬ ((d : Nat) : Int) = 0 := by omega
  have hm := make_ok (a * c) (b * d) M (Nat.mul_pos hb0 hd0) (prod_lt hb hd)
  rw [Int.natCast_mul] at hm
  simp only [f_multiplied, b_multiplied, gFn, gSeq, gSkip, gRet, gRetN, gExpr, gSet, gIf, gAug, gAsg, gPar2, gPar3, gVar, gC, gBin, gUn, gTr, gAnd, gOr, gNot, gAndV, gOrV, gNotV, gIfE, gCall, G.gCons, G.gNil, G.gTup, gLst, gLstM, gSl, goSome, goNone, R.bind_ok, R.bind_ex, R.bind_no, R.bindS_ok, R.bindS_ex, R.bindS_no, outS_nx, outS_rt, outS_ex, orR_ok, orR_ex, orR_no, ggName, ggSub, List.getElem?_cons_zero, List.getElem?_cons_succ, List.set_cons_zero, List.set_cons_succ, List.map_cons, List.map_nil, List.length_cons, List.length_nil, List.replicate, List.append_nil, List.nil_append, List.cons_append, Nat.reduceAdd, Nat.reduceSub, Nat.reduceLeDiff, Nat.reduceLT, if_true, if_false, Bool.false_eq_true, Bool.true_eq_false, Bool.not_true, Bool.not_false, decide_true, decide_false, decide_eq_true_eq, reduceIte, reduceCtorEq, eAdd, eAddI, eSub, eLt, eLe, eGt, eGe, eEq, eNe, eEqS, eNeS, eTru, eNeg, eAbs, eInt, eIntB, eLenL, eLenT, fTop, fBot, e1, e2, eMul (mo ha hc), eMul (mo (show Sm (b : Int) from hb) (show Sm (d : Int) from hd)), hm]
end
end K02

namespace K02
open PySem L2 G
theorem ix_ref {M : Stor} {k : Nat} {l : List D} (h : M[k]? = some (.lst l)) (i : Int) : dIx (.ref k) (.int i) M = (match L2.atI l i with | some d => .ok d M | none => .no) := by
  unfold dIx seqOf lstOf; simp only [h]; try rfl
theorem at3_0 (a b c : D) : L2.atI [a, b, c] 0 = some a := rfl
theorem at3_1 (a b c : D) : L2.atI [a, b, c] 1 = some b := rfl
theorem at3_2 (a b c : D) : L2.atI [a, b, c] 2 = some c := rfl
theorem ixN3_1 : L2.ixN 3 1 = some 1 := rfl
theorem ixN3_2 : L2.ixN 3 2 = some 2 := rfl
theorem eqvAll_nil (l : List PyData) : PyData.eqvAll l [] = l.isEmpty := by cases l <;> simp [PyData.eqvAll]
theorem toPy_ints : ∀ zs : List Int, toPyL (zs.map D.int) = some (zs.map PyData.int)
  | [] => by simp [toPyL]
  | z :: zs => by simp only [List.map_cons, toPyL, toPy, toPy_ints zs]
theorem lay_ints : ∀ zs : List Int, PyData.canLayAll0 (zs.map PyData.int) = true
  | [] => by simp [PyData.canLayAll0]
  | z :: zs => by simp [PyData.canLayAll0, PyData.canLay0, lay_ints zs]
theorem dep_ints : ∀ zs : List Int, PyData.depthAll (zs.map PyData.int) = 0
  | [] => by simp [PyData.depthAll]
  | z :: zs => by simp [PyData.depthAll, PyData.depth, dep_ints zs]
theorem ne_empty (zs : List Int) (M : Stor) : dNe (.lst (zs.map D.int)) (.lst []) M = .ok (.bl (!zs.isEmpty)) M := by
  have s1 : SeqAt.shaped (.list (zs.map PyData.int)) = true := by simp [SeqAt.shaped, PyData.canLay0, lay_ints, PyData.depth, dep_ints]
  have s2 : SeqAt.shaped (.list []) = true := by simp [SeqAt.shaped, PyData.canLay0, PyData.canLayAll0, PyData.depth, PyData.depthAll]
  have e : dNeD (.lst (zs.map D.int)) (.lst []) M = .ok (.bl (!zs.isEmpty)) M := by
    unfold dNeD topPy
    simp only [toPy, toPy_ints, toPyL, Option.map_some, s1, s2, and_self, if_true, PyData.eqv, eqvAll_nil, List.isEmpty_map]
  show orR (dNeI (.lst (zs.map D.int)) (.lst []) M) (orR (dNeS (.lst (zs.map D.int)) (.lst []) M) (dNeD (.lst (zs.map D.int)) (.lst []) M)) = _
  rw [e]; rfl
/-- the pen: cells, the next index, what is left of a great cell -/
def Pen (M : Stor) (k : Nat) (zs : List Int) (at_ : Nat) : Prop := ∃ great : Int, M[k]? = some (.lst [.lst (zs.map D.int), .int at_, .int great])
theorem fmod_lt (a : Int) {m : Int} (h : 0 < m) : 0 ≤ a.fmod m ∧ a.fmod m < m := by
  rw [Int.fmod_eq_emod_of_nonneg a (by omega)]
  exact ⟨Int.emod_nonneg _ (by omega), Int.emod_lt_of_pos _ h⟩
theorem len_ints (zs : List Int) : ((zs.map D.int).length : Int) = (zs.length : Int) := by simp
theorem at_ints {zs : List Int} {i : Int} (h0 : 0 ≤ i) (h1 : i < zs.length) : ∃ z, L2.atI (zs.map D.int) i = some (.int z) := by
  refine ⟨zs[i.toNat]'(by omega), ?_⟩
  unfold L2.atI L2.ixN
  rw [if_pos h0, if_pos (by simpa using h1)]
  simp only [Option.bind_some, List.getElem?_map]
  rw [List.getElem?_eq_getElem (by omega)]; rfl
theorem ix_lst {M : Stor} {l : List D} (i : Int) : dIx (.lst l) (.int i) M = (match L2.atI l i with | some d => .ok d M | none => .no) := rfl
theorem draw_ok {M : Stor} {k : Nat} {zs : List Int} {at_ : Nat} {many : Int} (h : Pen M k zs at_) (ha : at_ ≤ 100000) (hm0 : 0 < many) (hm : many < 2 ^ 60) :
    ∃ r at' M', f__law_draw [.ref k, .int many] M = .ok (.int r) M' ∧ 0 ≤ r ∧ r < many ∧ at' ≤ at_ + 1 ∧ Pen M' k zs at' ∧ (∃ m, M' = M.set k m) := by
  obtain ⟨great, h⟩ := h
  have dm : divOk many = true := divOk_of (n := 61) (by omega) (by omega) (by decide)
  have mm : many ≠ 0 := by omega
  by_cases hg : 0 < great
  · refine ⟨great.fmod many, at_, _, ?_, (fmod_lt great hm0).1, (fmod_lt great hm0).2, by omega, ⟨great.fdiv many, set_self h⟩, ⟨_, rfl⟩⟩
    simp only [f__law_draw, b__law_draw, gFn, gSeq, gSkip, gRet, gRetN, gExpr, gSet, gIf, gAug, gAsg, gPar2, gPar3, gVar, gC, gBin, gUn, gTr, gAnd, gOr, gNot, gAndV, gOrV, gNotV, gIfE, gCall, G.gCons, G.gNil, G.gTup, gLst, gLstM, gSl, goSome, goNone, R.bind_ok, R.bind_ex, R.bind_no, R.bindS_ok, R.bindS_ex, R.bindS_no, outS_nx, outS_rt, outS_ex, orR_ok, orR_ex, orR_no, ggName, ggSub, List.getElem?_cons_zero, List.getElem?_cons_succ, List.set_cons_zero, List.set_cons_succ, List.map_cons, List.map_nil, List.length_cons, List.length_nil, List.replicate, List.append_nil, List.nil_append, List.cons_append, Nat.reduceAdd, Nat.reduceSub, Nat.reduceLeDiff, Nat.reduceLT, if_true, if_false, Bool.false_eq_true, Bool.true_eq_false, Bool.not_true, Bool.not_false, decide_true, decide_false, decide_eq_true_eq, reduceIte, reduceCtorEq, eAdd, eAddI, eSub, eLt, eLe, eGt, eGe, eEq, eNe, eEqS, eNeS, eTru, eNeg, eAbs, eInt, eIntB, eLenL, eLenT, ix_ref h, at3_2, eMod mm, eDiv dm, hg, h, ixN3_2]
  · have hg' : ¬ (0 : Int) < great := hg
    have h1 := set_self (m' := .lst [.lst (zs.map D.int), .int ((at_ : Int) + 1), .int great]) h
    have m1 : mulOk 30433 (at_ : Int) = true := mulOk_left (by decide)
    have m2 : mulOk 50095 (at_ : Int) = true := mulOk_left (by decide)
    have m3 : mulOk 2 (at_ : Int) = true := mulOk_left (by decide)
    have m4 : mulOk 40121 (at_ : Int) = true := mulOk_left (by decide)
    have m5 : mulOk (40121 * (at_ : Int)) (at_ : Int) = true := mulOk_right (by omega)
    have p0 : powOk 10 18 = true := by decide
    have d32 : divOk 32 = true := by decide
    have n1 : (2147483629 : Int) ≠ 0 := by decide
    have n2 : (2147483549 : Int) ≠ 0 := by decide
    have n3 : (2147483579 : Int) ≠ 0 := by decide
    -- the mixed number
    have fin : ∀ (cell : Int), ∃ r : Int, (0 ≤ r ∧ r < many) ∧ ∀ (Γ : Gam) (M1 : Stor), Γ = [some (.ref k), some (.int many), none, some (.int at_), some (.int cell), none, none] →
        (gSeq (gSet 6 (gBin dModI (gCall fInt (G.gCons (gBin dPowI (gBin dAdd (gBin dAdd (gBin dModI (gCall fInt (G.gCons (gVar 4) G.gNil)) (gC (.int 2147483629))) (gBin dMul (gC (.int 50095)) (gVar 3))) (gC (.int 95))) (gC (.int 5))) G.gNil)) (gC (.int 2147483549))))
        (gSeq (gSet 6 (gBin dModI (gCall fInt (G.gCons (gBin dPowI (gBin dAdd (gBin dAdd (gBin dMul (gVar 6) (gBin dAdd (gBin dMul (gC (.int 2)) (gVar 3)) (gC (.int 87)))) (gBin dMul (gBin dMul (gC (.int 40121)) (gVar 3)) (gVar 3))) (gC (.int 23))) (gC (.int 3))) G.gNil)) (gC (.int 2147483579))))
        (gRet (gBin dModI (gCall fInt (G.gCons (gBin dDivI (gVar 6) (gC (.int 32))) G.gNil)) (gVar 1))))) Γ M1 = .rt (.int r) M1 := by
      intro cell
      have b1 := fmod_lt cell (m := 2147483629) (by decide)
      have q1 : powOk (cell.fmod 2147483629 + 50095 * (at_ : Int) + 95) 5 = true := by
        simp only [powOk, Bool.and_eq_true, decide_eq_true_eq]; refine ⟨⟨by decide, by decide⟩, ?_⟩; omega
      generalize hx : (cell.fmod 2147483629 + 50095 * (at_ : Int) + 95) ^ (5 : Int).toNat = x1
      have b2 := fmod_lt x1 (m := 2147483549) (by decide)
      have m6 : mulOk (x1.fmod 2147483549) (2 * (at_ : Int) + 87) = true := mulOk_left (by omega)
      have q2 : powOk (x1.fmod 2147483549 * (2 * (at_ : Int) + 87) + 40121 * (at_ : Int) * (at_ : Int) + 23) 3 = true := by
        simp only [powOk, Bool.and_eq_true, decide_eq_true_eq]; refine ⟨⟨by decide, by decide⟩, ?_⟩
        have z1 : 0 ≤ x1.fmod 2147483549 * (2 * (at_ : Int) + 87) := Int.mul_nonneg b2.1 (by omega)
        have z2 : x1.fmod 2147483549 * (2 * (at_ : Int) + 87) ≤ 2147483549 * 200087 := Int.mul_le_mul (by omega) (by omega) (by omega) (by decide)
        have z3 : 0 ≤ 40121 * (at_ : Int) * (at_ : Int) := Int.mul_nonneg (by omega) (by omega)
        have z4 : 40121 * (at_ : Int) * (at_ : Int) ≤ 40121 * 100000 * 100000 := Int.mul_le_mul (by omega) (by omega) (by omega) (by decide)
        omega
      generalize hy : (x1.fmod 2147483549 * (2 * (at_ : Int) + 87) + 40121 * (at_ : Int) * (at_ : Int) + 23) ^ (3 : Int).toNat = x2
      refine ⟨((x2.fmod 2147483579).fdiv 32).fmod many, fmod_lt _ hm0, fun Γ M1 e => ?_⟩
      subst e
      simp only [gFn, gSeq, gSkip, gRet, gRetN, gExpr, gSet, gIf, gAug, gAsg, gPar2, gPar3, gVar, gC, gBin, gUn, gTr, gAnd, gOr, gNot, gAndV, gOrV, gNotV, gIfE, gCall, G.gCons, G.gNil, G.gTup, gLst, gLstM, gSl, goSome, goNone, R.bind_ok, R.bind_ex, R.bind_no, R.bindS_ok, R.bindS_ex, R.bindS_no, outS_nx, outS_rt, outS_ex, orR_ok, orR_ex, orR_no, ggName, ggSub, List.getElem?_cons_zero, List.getElem?_cons_succ, List.set_cons_zero, List.set_cons_succ, List.map_cons, List.map_nil, List.length_cons, List.length_nil, List.replicate, List.append_nil, List.nil_append, List.cons_append, Nat.reduceAdd, Nat.reduceSub, Nat.reduceLeDiff, Nat.reduceLT, if_true, if_false, Bool.false_eq_true, Bool.true_eq_false, Bool.not_true, Bool.not_false, decide_true, decide_false, decide_eq_true_eq, reduceIte, reduceCtorEq, eAdd, eAddI, eSub, eLt, eLe, eGt, eGe, eEq, eNe, eEqS, eNeS, eTru, eNeg, eAbs, eInt, eIntB, eLenL, eLenT, eMod mm, eDiv d32, eMod n1, eMod n2, eMod n3, eMul m2, eMul m3, eMul m4, eMul m5, ePow q1, hx, eMul m6, ePow q2, hy]
    -- the cell
    have cells : ∃ cell : Int, ∀ rest : GS', gSeq (gSet 4 (gBin dAdd (gBin dMul (gC (.int 30433)) (gVar 3)) (gC (.int 415))))
        (gSeq (gIf (gTr truD (gBin dNe (gBin dIx (gVar 0) (gC (.int 0))) (gLst G.gNil))) (gSet 4 (gBin dIx (gBin dIx (gVar 0) (gC (.int 0))) (gBin dModI (gCall fInt (G.gCons (gVar 3) G.gNil)) (gCall fLen (G.gCons (gBin dIx (gVar 0) (gC (.int 0))) G.gNil))))) gSkip) rest)
        [some (.ref k), some (.int many), none, some (.int at_), none, none, none] (M.set k (.lst [.lst (zs.map D.int), .int ((at_ : Int) + 1), .int great])) =
        rest [some (.ref k), some (.int many), none, some (.int at_), some (.int cell), none, none] (M.set k (.lst [.lst (zs.map D.int), .int ((at_ : Int) + 1), .int great])) := by
      by_cases hz : zs = []
      · have he : zs.isEmpty = true := by simp [hz]
        refine ⟨30433 * (at_ : Int) + 415, fun rest => ?_⟩
        rw [seq_nx (Γ1 := [some (.ref k), some (.int many), none, some (.int at_), some (.int (30433 * (at_ : Int) + 415)), none, none]) (by simp only [gFn, gSeq, gSkip, gRet, gRetN, gExpr, gSet, gIf, gAug, gAsg, gPar2, gPar3, gVar, gC, gBin, gUn, gTr, gAnd, gOr, gNot, gAndV, gOrV, gNotV, gIfE, gCall, G.gCons, G.gNil, G.gTup, gLst, gLstM, gSl, goSome, goNone, R.bind_ok, R.bind_ex, R.bind_no, R.bindS_ok, R.bindS_ex, R.bindS_no, outS_nx, outS_rt, outS_ex, orR_ok, orR_ex, orR_no, ggName, ggSub, List.getElem?_cons_zero, List.getElem?_cons_succ, List.set_cons_zero, List.set_cons_succ, List.map_cons, List.map_nil, List.length_cons, List.length_nil, List.replicate, List.append_nil, List.nil_append, List.cons_append, Nat.reduceAdd, Nat.reduceSub, Nat.reduceLeDiff, Nat.reduceLT, if_true, if_false, Bool.false_eq_true, Bool.true_eq_false, Bool.not_true, Bool.not_false, decide_true, decide_false, decide_eq_true_eq, reduceIte, reduceCtorEq, eAdd, eAddI, eSub, eLt, eLe, eGt, eGe, eEq, eNe, eEqS, eNeS, eTru, eNeg, eAbs, eInt, eIntB, eLenL, eLenT, eMul m1] <;> rfl)]
        rw [seq_nx (by rw [if_f (by simp only [gFn, gSeq, gSkip, gRet, gRetN, gExpr, gSet, gIf, gAug, gAsg, gPar2, gPar3, gVar, gC, gBin, gUn, gTr, gAnd, gOr, gNot, gAndV, gOrV, gNotV, gIfE, gCall, G.gCons, G.gNil, G.gTup, gLst, gLstM, gSl, goSome, goNone, R.bind_ok, R.bind_ex, R.bind_no, R.bindS_ok, R.bindS_ex, R.bindS_no, outS_nx, outS_rt, outS_ex, orR_ok, orR_ex, orR_no, ggName, ggSub, List.getElem?_cons_zero, List.getElem?_cons_succ, List.set_cons_zero, List.set_cons_succ, List.map_cons, List.map_nil, List.length_cons, List.length_nil, List.replicate, List.append_nil, List.nil_append, List.cons_append, Nat.reduceAdd, Nat.reduceSub, Nat.reduceLeDiff, Nat.reduceLT, if_true, if_false, Bool.false_eq_true, Bool.true_eq_false, Bool.not_true, Bool.not_false, decide_true, decide_false, decide_eq_true_eq, reduceIte, reduceCtorEq, eAdd, eAddI, eSub, eLt, eLe, eGt, eGe, eEq, eNe, eEqS, eNeS, eTru, eNeg, eAbs, eInt, eIntB, eLenL, eLenT, ix_ref h1, at3_0, ne_empty, he] <;> rfl)]; rfl)]
      · have hl : 0 < zs.length := List.length_pos_iff.mpr hz
        have he : zs.isEmpty = false := by simpa using hz
        have hl' : ((zs.length : Nat) : Int) ≠ 0 := by omega
        obtain ⟨z, ez⟩ := at_ints (zs := zs) (fmod_lt (at_ : Int) (m := zs.length) (by omega)).1 (fmod_lt (at_ : Int) (m := zs.length) (by omega)).2
        refine ⟨z, fun rest => ?_⟩
        rw [seq_nx (Γ1 := [some (.ref k), some (.int many), none, some (.int at_), some (.int (30433 * (at_ : Int) + 415)), none, none]) (by simp only [gFn, gSeq, gSkip, gRet, gRetN, gExpr, gSet, gIf, gAug, gAsg, gPar2, gPar3, gVar, gC, gBin, gUn, gTr, gAnd, gOr, gNot, gAndV, gOrV, gNotV, gIfE, gCall, G.gCons, G.gNil, G.gTup, gLst, gLstM, gSl, goSome, goNone, R.bind_ok, R.bind_ex, R.bind_no, R.bindS_ok, R.bindS_ex, R.bindS_no, outS_nx, outS_rt, outS_ex, orR_ok, orR_ex, orR_no, ggName, ggSub, List.getElem?_cons_zero, List.getElem?_cons_succ, List.set_cons_zero, List.set_cons_succ, List.map_cons, List.map_nil, List.length_cons, List.length_nil, List.replicate, List.append_nil, List.nil_append, List.cons_append, Nat.reduceAdd, Nat.reduceSub, Nat.reduceLeDiff, Nat.reduceLT, if_true, if_false, Bool.false_eq_true, Bool.true_eq_false, Bool.not_true, Bool.not_false, decide_true, decide_false, decide_eq_true_eq, reduceIte, reduceCtorEq, eAdd, eAddI, eSub, eLt, eLe, eGt, eGe, eEq, eNe, eEqS, eNeS, eTru, eNeg, eAbs, eInt, eIntB, eLenL, eLenT, eMul m1] <;> rfl)]
        rw [seq_nx (by
          rw [if_t (by simp only [gFn, gSeq, gSkip, gRet, gRetN, gExpr, gSet, gIf, gAug, gAsg, gPar2, gPar3, gVar, gC, gBin, gUn, gTr, gAnd, gOr, gNot, gAndV, gOrV, gNotV, gIfE, gCall, G.gCons, G.gNil, G.gTup, gLst, gLstM, gSl, goSome, goNone, R.bind_ok, R.bind_ex, R.bind_no, R.bindS_ok, R.bindS_ex, R.bindS_no, outS_nx, outS_rt, outS_ex, orR_ok, orR_ex, orR_no, ggName, ggSub, List.getElem?_cons_zero, List.getElem?_cons_succ, List.set_cons_zero, List.set_cons_succ, List.map_cons, List.map_nil, List.length_cons, List.length_nil, List.replicate, List.append_nil, List.nil_append, List.cons_append, Nat.reduceAdd, Nat.reduceSub, Nat.reduceLeDiff, Nat.reduceLT, if_true, if_false, Bool.false_eq_true, Bool.true_eq_false, Bool.not_true, Bool.not_false, decide_true, decide_false, decide_eq_true_eq, reduceIte, reduceCtorEq, eAdd, eAddI, eSub, eLt, eLe, eGt, eGe, eEq, eNe, eEqS, eNeS, eTru, eNeg, eAbs, eInt, eIntB, eLenL, eLenT, ix_ref h1, at3_0, ne_empty, he] <;> rfl)]
          simp only [gFn, gSeq, gSkip, gRet, gRetN, gExpr, gSet, gIf, gAug, gAsg, gPar2, gPar3, gVar, gC, gBin, gUn, gTr, gAnd, gOr, gNot, gAndV, gOrV, gNotV, gIfE, gCall, G.gCons, G.gNil, G.gTup, gLst, gLstM, gSl, goSome, goNone, R.bind_ok, R.bind_ex, R.bind_no, R.bindS_ok, R.bindS_ex, R.bindS_no, outS_nx, outS_rt, outS_ex, orR_ok, orR_ex, orR_no, ggName, ggSub, List.getElem?_cons_zero, List.getElem?_cons_succ, List.set_cons_zero, List.set_cons_succ, List.map_cons, List.map_nil, List.length_cons, List.length_nil, List.replicate, List.append_nil, List.nil_append, List.cons_append, Nat.reduceAdd, Nat.reduceSub, Nat.reduceLeDiff, Nat.reduceLT, if_true, if_false, Bool.false_eq_true, Bool.true_eq_false, Bool.not_true, Bool.not_false, decide_true, decide_false, decide_eq_true_eq, reduceIte, reduceCtorEq, eAdd, eAddI, eSub, eLt, eLe, eGt, eGe, eEq, eNe, eEqS, eNeS, eTru, eNeg, eAbs, eInt, eIntB, eLenL, eLenT, ix_ref h1, at3_0, len_ints, eMod hl', ix_lst, ez] <;> rfl)]
    obtain ⟨cell, hcell⟩ := cells
    obtain ⟨r, hr, hfin⟩ := fin cell
    by_cases hbig : (at_ : Int) < zs.length ∧ (10 : Int) ^ 18 ≤ cell.natAbs
    · have p1 : (10 : Int) ^ (18 : Int).toNat = 10 ^ 18 := rfl
      have h2 := set_self (m' := .lst [.lst (zs.map D.int), .int ((at_ : Int) + 1), .int ((2 * ((cell.natAbs : Int) - 10 ^ 18) + (if cell < 0 then 1 else 0)).fdiv many)]) h1
      have m7 : mulOk 2 ((cell.natAbs : Int) - 10 ^ 18) = true := mulOk_left (by decide)
      refine ⟨(2 * ((cell.natAbs : Int) - 10 ^ 18) + (if cell < 0 then 1 else 0)).fmod many, at_ + 1, _, ?_, (fmod_lt _ hm0).1, (fmod_lt _ hm0).2, Nat.le_refl _, ⟨_, by rw [List.set_set] at h2; exact h2⟩, ⟨_, rfl⟩⟩
      refine fn_rt rfl ?_
      show b__law_draw [some (.ref k), some (.int many), none, none, none, none, none] M = _
      unfold b__law_draw
      rw [seq_nx (by rw [if_f (by simp only [gFn, gSeq, gSkip, gRet, gRetN, gExpr, gSet, gIf, gAug, gAsg, gPar2, gPar3, gVar, gC, gBin, gUn, gTr, gAnd, gOr, gNot, gAndV, gOrV, gNotV, gIfE, gCall, G.gCons, G.gNil, G.gTup, gLst, gLstM, gSl, goSome, goNone, R.bind_ok, R.bind_ex, R.bind_no, R.bindS_ok, R.bindS_ex, R.bindS_no, outS_nx, outS_rt, outS_ex, orR_ok, orR_ex, orR_no, ggName, ggSub, List.getElem?_cons_zero, List.getElem?_cons_succ, List.set_cons_zero, List.set_cons_succ, List.map_cons, List.map_nil, List.length_cons, List.length_nil, List.replicate, List.append_nil, List.nil_append, List.cons_append, Nat.reduceAdd, Nat.reduceSub, Nat.reduceLeDiff, Nat.reduceLT, if_true, if_false, Bool.false_eq_true, Bool.true_eq_false, Bool.not_true, Bool.not_false, decide_true, decide_false, decide_eq_true_eq, reduceIte, reduceCtorEq, eAdd, eAddI, eSub, eLt, eLe, eGt, eGe, eEq, eNe, eEqS, eNeS, eTru, eNeg, eAbs, eInt, eIntB, eLenL, eLenT, ix_ref h, at3_2, hg'] <;> rfl)]; rfl)]
      rw [seq_nx (Γ1 := [some (.ref k), some (.int many), none, some (.int at_), none, none, none]) (by simp only [gFn, gSeq, gSkip, gRet, gRetN, gExpr, gSet, gIf, gAug, gAsg, gPar2, gPar3, gVar, gC, gBin, gUn, gTr, gAnd, gOr, gNot, gAndV, gOrV, gNotV, gIfE, gCall, G.gCons, G.gNil, G.gTup, gLst, gLstM, gSl, goSome, goNone, R.bind_ok, R.bind_ex, R.bind_no, R.bindS_ok, R.bindS_ex, R.bindS_no, outS_nx, outS_rt, outS_ex, orR_ok, orR_ex, orR_no, ggName, ggSub, List.getElem?_cons_zero, List.getElem?_cons_succ, List.set_cons_zero, List.set_cons_succ, List.map_cons, List.map_nil, List.length_cons, List.length_nil, List.replicate, List.append_nil, List.nil_append, List.cons_append, Nat.reduceAdd, Nat.reduceSub, Nat.reduceLeDiff, Nat.reduceLT, if_true, if_false, Bool.false_eq_true, Bool.true_eq_false, Bool.not_true, Bool.not_false, decide_true, decide_false, decide_eq_true_eq, reduceIte, reduceCtorEq, eAdd, eAddI, eSub, eLt, eLe, eGt, eGe, eEq, eNe, eEqS, eNeS, eTru, eNeg, eAbs, eInt, eIntB, eLenL, eLenT, ix_ref h, at3_1] <;> rfl)]
      rw [seq_nx (by simp only [gFn, gSeq, gSkip, gRet, gRetN, gExpr, gSet, gIf, gAug, gAsg, gPar2, gPar3, gVar, gC, gBin, gUn, gTr, gAnd, gOr, gNot, gAndV, gOrV, gNotV, gIfE, gCall, G.gCons, G.gNil, G.gTup, gLst, gLstM, gSl, goSome, goNone, R.bind_ok, R.bind_ex, R.bind_no, R.bindS_ok, R.bindS_ex, R.bindS_no, outS_nx, outS_rt, outS_ex, orR_ok, orR_ex, orR_no, ggName, ggSub, List.getElem?_cons_zero, List.getElem?_cons_succ, List.set_cons_zero, List.set_cons_succ, List.map_cons, List.map_nil, List.length_cons, List.length_nil, List.replicate, List.append_nil, List.nil_append, List.cons_append, Nat.reduceAdd, Nat.reduceSub, Nat.reduceLeDiff, Nat.reduceLT, if_true, if_false, Bool.false_eq_true, Bool.true_eq_false, Bool.not_true, Bool.not_false, decide_true, decide_false, decide_eq_true_eq, reduceIte, reduceCtorEq, eAdd, eAddI, eSub, eLt, eLe, eGt, eGe, eEq, eNe, eEqS, eNeS, eTru, eNeg, eAbs, eInt, eIntB, eLenL, eLenT, h, ixN3_1] <;> rfl)]
      rw [hcell]
      refine seq_rt ?_
      rw [if_t (by simp only [gFn, gSeq, gSkip, gRet, gRetN, gExpr, gSet, gIf, gAug, gAsg, gPar2, gPar3, gVar, gC, gBin, gUn, gTr, gAnd, gOr, gNot, gAndV, gOrV, gNotV, gIfE, gCall, G.gCons, G.gNil, G.gTup, gLst, gLstM, gSl, goSome, goNone, R.bind_ok, R.bind_ex, R.bind_no, R.bindS_ok, R.bindS_ex, R.bindS_no, outS_nx, outS_rt, outS_ex, orR_ok, orR_ex, orR_no, ggName, ggSub, List.getElem?_cons_zero, List.getElem?_cons_succ, List.set_cons_zero, List.set_cons_succ, List.map_cons, List.map_nil, List.length_cons, List.length_nil, List.replicate, List.append_nil, List.nil_append, List.cons_append, Nat.reduceAdd, Nat.reduceSub, Nat.reduceLeDiff, Nat.reduceLT, if_true, if_false, Bool.false_eq_true, Bool.true_eq_false, Bool.not_true, Bool.not_false, decide_true, decide_false, decide_eq_true_eq, reduceIte, reduceCtorEq, eAdd, eAddI, eSub, eLt, eLe, eGt, eGe, eEq, eNe, eEqS, eNeS, eTru, eNeg, eAbs, eInt, eIntB, eLenL, eLenT, ix_ref h1, at3_0, len_ints, ePow p0, p1, hbig.1, hbig.2] <;> rfl)]
      simp only [gFn, gSeq, gSkip, gRet, gRetN, gExpr, gSet, gIf, gAug, gAsg, gPar2, gPar3, gVar, gC, gBin, gUn, gTr, gAnd, gOr, gNot, gAndV, gOrV, gNotV, gIfE, gCall, G.gCons, G.gNil, G.gTup, gLst, gLstM, gSl, goSome, goNone, R.bind_ok, R.bind_ex, R.bind_no, R.bindS_ok, R.bindS_ex, R.bindS_no, outS_nx, outS_rt, outS_ex, orR_ok, orR_ex, orR_no, ggName, ggSub, List.getElem?_cons_zero, List.getElem?_cons_succ, List.set_cons_zero, List.set_cons_succ, List.map_cons, List.map_nil, List.length_cons, List.length_nil, List.replicate, List.append_nil, List.nil_append, List.cons_append, Nat.reduceAdd, Nat.reduceSub, Nat.reduceLeDiff, Nat.reduceLT, if_true, if_false, Bool.false_eq_true, Bool.true_eq_false, Bool.not_true, Bool.not_false, decide_true, decide_false, decide_eq_true_eq, reduceIte, reduceCtorEq, eAdd, eAddI, eSub, eLt, eLe, eGt, eGe, eEq, eNe, eEqS, eNeS, eTru, eNeg, eAbs, eInt, eIntB, eLenL, eLenT, ePow p0, p1, eMul m7, eMod mm, eDiv dm, h1, ixN3_2, List.set_set]
    · refine ⟨r, at_ + 1, _, ?_, hr.1, hr.2, Nat.le_refl _, ⟨_, h1⟩, ⟨_, rfl⟩⟩
      refine fn_rt rfl ?_
      show b__law_draw [some (.ref k), some (.int many), none, none, none, none, none] M = _
      unfold b__law_draw
      rw [seq_nx (by rw [if_f (by simp only [gFn, gSeq, gSkip, gRet, gRetN, gExpr, gSet, gIf, gAug, gAsg, gPar2, gPar3, gVar, gC, gBin, gUn, gTr, gAnd, gOr, gNot, gAndV, gOrV, gNotV, gIfE, gCall, G.gCons, G.gNil, G.gTup, gLst, gLstM, gSl, goSome, goNone, R.bind_ok, R.bind_ex, R.bind_no, R.bindS_ok, R.bindS_ex, R.bindS_no, outS_nx, outS_rt, outS_ex, orR_ok, orR_ex, orR_no, ggName, ggSub, List.getElem?_cons_zero, List.getElem?_cons_succ, List.set_cons_zero, List.set_cons_succ, List.map_cons, List.map_nil, List.length_cons, List.length_nil, List.replicate, List.append_nil, List.nil_append, List.cons_append, Nat.reduceAdd, Nat.reduceSub, Nat.reduceLeDiff, Nat.reduceLT, if_true, if_false, Bool.false_eq_true, Bool.true_eq_false, Bool.not_true, Bool.not_false, decide_true, decide_false, decide_eq_true_eq, reduceIte, reduceCtorEq, eAdd, eAddI, eSub, eLt, eLe, eGt, eGe, eEq, eNe, eEqS, eNeS, eTru, eNeg, eAbs, eInt, eIntB, eLenL, eLenT, ix_ref h, at3_2, hg'] <;> rfl)]; rfl)]
      rw [seq_nx (Γ1 := [some (.ref k), some (.int many), none, some (.int at_), none, none, none]) (by simp only [gFn, gSeq, gSkip, gRet, gRetN, gExpr, gSet, gIf, gAug, gAsg, gPar2, gPar3, gVar, gC, gBin, gUn, gTr, gAnd, gOr, gNot, gAndV, gOrV, gNotV, gIfE, gCall, G.gCons, G.gNil, G.gTup, gLst, gLstM, gSl, goSome, goNone, R.bind_ok, R.bind_ex, R.bind_no, R.bindS_ok, R.bindS_ex, R.bindS_no, outS_nx, outS_rt, outS_ex, orR_ok, orR_ex, orR_no, ggName, ggSub, List.getElem?_cons_zero, List.getElem?_cons_succ, List.set_cons_zero, List.set_cons_succ, List.map_cons, List.map_nil, List.length_cons, List.length_nil, List.replicate, List.append_nil, List.nil_append, List.cons_append, Nat.reduceAdd, Nat.reduceSub, Nat.reduceLeDiff, Nat.reduceLT, if_true, if_false, Bool.false_eq_true, Bool.true_eq_false, Bool.not_true, Bool.not_false, decide_true, decide_false, decide_eq_true_eq, reduceIte, reduceCtorEq, eAdd, eAddI, eSub, eLt, eLe, eGt, eGe, eEq, eNe, eEqS, eNeS, eTru, eNeg, eAbs, eInt, eIntB, eLenL, eLenT, ix_ref h, at3_1] <;> rfl)]
      rw [seq_nx (by simp only [gFn, gSeq, gSkip, gRet, gRetN, gExpr, gSet, gIf, gAug, gAsg, gPar2, gPar3, gVar, gC, gBin, gUn, gTr, gAnd, gOr, gNot, gAndV, gOrV, gNotV, gIfE, gCall, G.gCons, G.gNil, G.gTup, gLst, gLstM, gSl, goSome, goNone, R.bind_ok, R.bind_ex, R.bind_no, R.bindS_ok, R.bindS_ex, R.bindS_no, outS_nx, outS_rt, outS_ex, orR_ok, orR_ex, orR_no, ggName, ggSub, List.getElem?_cons_zero, List.getElem?_cons_succ, List.set_cons_zero, List.set_cons_succ, List.map_cons, List.map_nil, List.length_cons, List.length_nil, List.replicate, List.append_nil, List.nil_append, List.cons_append, Nat.reduceAdd, Nat.reduceSub, Nat.reduceLeDiff, Nat.reduceLT, if_true, if_false, Bool.false_eq_true, Bool.true_eq_false, Bool.not_true, Bool.not_false, decide_true, decide_false, decide_eq_true_eq, reduceIte, reduceCtorEq, eAdd, eAddI, eSub, eLt, eLe, eGt, eGe, eEq, eNe, eEqS, eNeS, eTru, eNeg, eAbs, eInt, eIntB, eLenL, eLenT, h, ixN3_1] <;> rfl)]
      rw [hcell]
      have p1 : (10 : Int) ^ (18 : Int).toNat = 10 ^ 18 := rfl
      rw [seq_nx (by
        rw [if_f (by
          by_cases hq : (at_ : Int) < zs.length
          · have hn : ¬ (10 : Int) ^ 18 ≤ cell.natAbs := fun z => hbig ⟨hq, z⟩
            simp only [gFn, gSeq, gSkip, gRet, gRetN, gExpr, gSet, gIf, gAug, gAsg, gPar2, gPar3, gVar, gC, gBin, gUn, gTr, gAnd, gOr, gNot, gAndV, gOrV, gNotV, gIfE, gCall, G.gCons, G.gNil, G.gTup, gLst, gLstM, gSl, goSome, goNone, R.bind_ok, R.bind_ex, R.bind_no, R.bindS_ok, R.bindS_ex, R.bindS_no, outS_nx, outS_rt, outS_ex, orR_ok, orR_ex, orR_no, ggName, ggSub, List.getElem?_cons_zero, List.getElem?_cons_succ, List.set_cons_zero, List.set_cons_succ, List.map_cons, List.map_nil, List.length_cons, List.length_nil, List.replicate, List.append_nil, List.nil_append, List.cons_append, Nat.reduceAdd, Nat.reduceSub, Nat.reduceLeDiff, Nat.reduceLT, if_true, if_false, Bool.false_eq_true, Bool.true_eq_false, Bool.not_true, Bool.not_false, decide_true, decide_false, decide_eq_true_eq, reduceIte, reduceCtorEq, eAdd, eAddI, eSub, eLt, eLe, eGt, eGe, eEq, eNe, eEqS, eNeS, eTru, eNeg, eAbs, eInt, eIntB, eLenL, eLenT, ix_ref h1, at3_0, len_ints, ePow p0, p1, hq, hn] <;> rfl
          · simp only [gFn, gSeq, gSkip, gRet, gRetN, gExpr, gSet, gIf, gAug, gAsg, gPar2, gPar3, gVar, gC, gBin, gUn, gTr, gAnd, gOr, gNot, gAndV, gOrV, gNotV, gIfE, gCall, G.gCons, G.gNil, G.gTup, gLst, gLstM, gSl, goSome, goNone, R.bind_ok, R.bind_ex, R.bind_no, R.bindS_ok, R.bindS_ex, R.bindS_no, outS_nx, outS_rt, outS_ex, orR_ok, orR_ex, orR_no, ggName, ggSub, List.getElem?_cons_zero, List.getElem?_cons_succ, List.set_cons_zero, List.set_cons_succ, List.map_cons, List.map_nil, List.length_cons, List.length_nil, List.replicate, List.append_nil, List.nil_append, List.cons_append, Nat.reduceAdd, Nat.reduceSub, Nat.reduceLeDiff, Nat.reduceLT, if_true, if_false, Bool.false_eq_true, Bool.true_eq_false, Bool.not_true, Bool.not_false, decide_true, decide_false, decide_eq_true_eq, reduceIte, reduceCtorEq, eAdd, eAddI, eSub, eLt, eLe, eGt, eGe, eEq, eNe, eEqS, eNeS, eTru, eNeg, eAbs, eInt, eIntB, eLenL, eLenT, ix_ref h1, at3_0, len_ints, hq] <;> rfl)]
        rfl)]
      exact hfin _ _ rfl
end K02

namespace K02
open PySem L2 G
abbrev pairD (a b : Int) : D := .tup [.int a, .int b]
theorem lowP_cop {a : Int} {b : Nat} (h : Nat.gcd a.natAbs b = 1) : lowP a b = (a, (b : Int)) := by
  unfold lowP; rw [h]; simp
theorem lowP_cop1 {a : Int} : lowP a 1 = (a, 1) := by
  have : Nat.gcd a.natAbs 1 = 1 := Nat.gcd_one_right _
  rw [lowP_cop this]; rfl
/-- what lowest terms are -/
theorem lowP_ok (a : Int) {b : Nat} (h : 0 < b) : ∃ (u : Int) (l : Nat), lowP a b = (u, (l : Int)) ∧ 0 < l ∧ l ≤ b ∧ u.natAbs ≤ a.natAbs ∧ Nat.gcd u.natAbs l = 1 := by
  have hg := gcd_pos a h
  have d1 : Nat.gcd a.natAbs b ∣ a.natAbs := Nat.gcd_dvd_left _ _
  have d2 : Nat.gcd a.natAbs b ∣ b := Nat.gcd_dvd_right _ _
  refine ⟨a / (Nat.gcd a.natAbs b : Nat), b / Nat.gcd a.natAbs b, by unfold lowP; rw [Int.natCast_ediv], Nat.div_pos (Nat.le_of_dvd h d2) hg, Nat.div_le_self _ _, ?_, ?_⟩
  · have : ((Nat.gcd a.natAbs b : Nat) : Int) ∣ a := Int.ofNat_dvd_left.mpr d1
    rw [Int.natAbs_ediv_of_dvd this]; exact Nat.div_le_self _ _
  · have : ((Nat.gcd a.natAbs b : Nat) : Int) ∣ a := Int.ofNat_dvd_left.mpr d1
    rw [Int.natAbs_ediv_of_dvd this, Int.natAbs_natCast, Nat.gcd_div d1 d2, Nat.div_self hg]
theorem low_ok (a : Int) (b : Nat) (M : Stor) (hb0 : 0 < b) (hb : b < 2 ^ 8000) : f__law_low [.int a, .int b] M = .ok (pairD (lowP a b).1 (lowP a b).2) M := by
  have h := gcd_loop (gTr truD (gBin dNe (gVar 3) (gC (.int 0)))) (gPar2 2 3 (G.gCons (gVar 3) (G.gCons (gBin dModI (gCall fInt (G.gCons (gVar 2) G.gNil)) (gVar 3)) G.gNil))) (some (.int a)) (some (.int b)) M (fun x y => rfl) (fun x y hy => by
    simp only [gFn, gSeq, gSkip, gRet, gRetN, gExpr, gSet, gIf, gAug, gAsg, gPar2, gPar3, gVar, gC, gBin, gUn, gTr, gAnd, gOr, gNot, gAndV, gOrV, gNotV, gIfE, gCall, G.gCons, G.gNil, G.gTup, gLst, gLstM, gSl, goSome, goNone, R.bind_ok, R.bind_ex, R.bind_no, R.bindS_ok, R.bindS_ex, R.bindS_no, outS_nx, outS_rt, outS_ex, orR_ok, orR_ex, orR_no, ggName, ggSub, List.getElem?_cons_zero, List.getElem?_cons_succ, List.set_cons_zero, List.set_cons_succ, List.map_cons, List.map_nil, List.length_cons, List.length_nil, List.replicate, List.append_nil, List.nil_append, List.cons_append, Nat.reduceAdd, Nat.reduceSub, Nat.reduceLeDiff, Nat.reduceLT, if_true, if_false, Bool.false_eq_true, Bool.true_eq_false, Bool.not_true, Bool.not_false, decide_true, decide_false, decide_eq_true_eq, reduceIte, reduceCtorEq, eAdd, eAddI, eSub, eLt, eLe, eGt, eGe, eEq, eNe, eEqS, eNeS, eTru, eNeg, eAbs, eInt, eIntB, eLenL, eLenT, eMod hy]) fuel a.natAbs b (Nat.lt_of_lt_of_le hb (fuel_ge (Nat.pow_le_pow_right (by decide) (by decide))))
  have hd := gcd_div a hb0 hb (by decide)
  simp only [f__law_low, b__law_low, gFn, gSeq, gSkip, gRet, gRetN, gExpr, gSet, gIf, gAug, gAsg, gPar2, gPar3, gVar, gC, gBin, gUn, gTr, gAnd, gOr, gNot, gAndV, gOrV, gNotV, gIfE, gCall, G.gCons, G.gNil, G.gTup, gLst, gLstM, gSl, goSome, goNone, R.bind_ok, R.bind_ex, R.bind_no, R.bindS_ok, R.bindS_ex, R.bindS_no, outS_nx, outS_rt, outS_ex, orR_ok, orR_ex, orR_no, ggName, ggSub, List.getElem?_cons_zero, List.getElem?_cons_succ, List.set_cons_zero, List.set_cons_succ, List.map_cons, List.map_nil, List.length_cons, List.length_nil, List.replicate, List.append_nil, List.nil_append, List.cons_append, Nat.reduceAdd, Nat.reduceSub, Nat.reduceLeDiff, Nat.reduceLT, if_true, if_false, Bool.false_eq_true, Bool.true_eq_false, Bool.not_true, Bool.not_false, decide_true, decide_false, decide_eq_true_eq, reduceIte, reduceCtorEq, eAdd, eAddI, eSub, eLt, eLe, eGt, eGe, eEq, eNe, eEqS, eNeS, eTru, eNeg, eAbs, eInt, eIntB, eLenL, eLenT, h, eDiv hd, fdiv_nat, lowP]
/-! ### repr of a pair -/
theorem repr_pair {a b : Int} (ha : Sm a) (hb : Sm b) : ∃ s : Str, ∀ M, fRepr [pairD a b] M = .ok (.str s) M := by
  refine ⟨(PyData.tuple [.int a, .int b]).shown, fun M => ?_⟩
  have la : a.natAbs.log2 < 1000 := log2_of ha (by decide)
  have lb : b.natAbs.log2 < 1000 := log2_of hb (by decide)
  have ok : reprOk (.tuple [.int a, .int b]) = true := by
    have t1 := int_text_length_le (a := a) (k := 1000) (by decide) la
    have t2 := int_text_length_le (a := b) (k := 1000) (by decide) lb
    have t := tupleText_len_le [Str.ofString (toString a), Str.ofString (toString b)]
    have e1 : (Str.ofString (toString a)).length = (toString a).length := ofString_length _
    have e2 : (Str.ofString (toString b)).length = (toString b).length := ofString_length _
    simp only [reprOk, Bool.and_eq_true, decide_eq_true_eq, Bool.not_eq_true']
    refine ⟨⟨⟨?_, ?_⟩, ?_⟩, ?_⟩
    · simp only [PyData.showable, PyData.showableAll, Bool.and_eq_true, decide_eq_true_eq]
      exact ⟨by omega, by omega, trivial⟩
    · simp [PyData.hasDict, PyData.hasDictAll]
    · simp [PyData.depth, PyData.depthAll]
    · simp only [PyData.shown, PyData.shownAll]
      simp only [List.map_cons, List.map_nil, List.sum_cons, List.sum_nil, List.length_cons, List.length_nil, e1, e2] at t
      refine Nat.le_trans t ?_
      omega
  have tp : topPy (pairD a b) M = some (.tuple [.int a, .int b]) := by simp [topPy, toPy, toPyL]
  show (match topPy (pairD a b) M with
      | some p => if reprOk p then R.ok (D.str p.shown) M else R.no
      | none => R.no) = _
  rw [tp]
  simp only [ok, if_true]
theorem isR (a b : Int) (M : Stor) : fIsi isOk isTab [rat a b, .cls 5] M = .ok (.bl true) M := rfl
theorem is_ok {a b : Int} (ha : Sm a) (hb : Sm b) (M : Stor) : f__law_is [rat a b, pairD a b] M = .ok (.bl true) M := by
  obtain ⟨s, hs⟩ := repr_pair ha hb
  simp only [f__law_is, b__law_is, gFn, gSeq, gSkip, gRet, gRetN, gExpr, gSet, gIf, gAug, gAsg, gPar2, gPar3, gVar, gC, gBin, gUn, gTr, gAnd, gOr, gNot, gAndV, gOrV, gNotV, gIfE, gCall, G.gCons, G.gNil, G.gTup, gLst, gLstM, gSl, goSome, goNone, R.bind_ok, R.bind_ex, R.bind_no, R.bindS_ok, R.bindS_ex, R.bindS_no, outS_nx, outS_rt, outS_ex, orR_ok, orR_ex, orR_no, ggName, ggSub, List.getElem?_cons_zero, List.getElem?_cons_succ, List.set_cons_zero, List.set_cons_succ, List.map_cons, List.map_nil, List.length_cons, List.length_nil, List.replicate, List.append_nil, List.nil_append, List.cons_append, Nat.reduceAdd, Nat.reduceSub, Nat.reduceLeDiff, Nat.reduceLT, if_true, if_false, Bool.false_eq_true, Bool.true_eq_false, Bool.not_true, Bool.not_false, decide_true, decide_false, decide_eq_true_eq, reduceIte, reduceCtorEq, eAdd, eAddI, eSub, eLt, eLe, eGt, eGe, eEq, eNe, eEqS, eNeS, eTru, eNeg, eAbs, eInt, eIntB, eLenL, eLenT, isR, fTop, fBot, hs]
/-! ### a comprehension that keeps nothing -/
theorem comp_none {keep : Stor → Prop} {t : Tgt} {tt : GT'} {te : GE'} {Γ : Gam} {M : Stor} (hk : keep M) : ∀ (l : List D), (∀ d ∈ l, ∃ Γ1, t.run d Γ = some Γ1 ∧ tt Γ1 M = .ok false M) → compG keep t tt te Γ l M [] = .ok [] M
  | [], _ => by unfold compG; rfl
  | d :: ds, h => by
    obtain ⟨Γ1, e1, e2⟩ := h d List.mem_cons_self
    unfold compG
    rw [e1]
    simp only [e2, hk, if_true]
    exact comp_none hk ds fun d' hd => h d' (List.mem_cons_of_mem _ hd)
theorem mem_up {d : D} {lo : Int} {n : Nat} (h : d ∈ upFrom lo n) : ∃ i : Nat, i < n ∧ d = .int (lo + i) := by
  unfold upFrom at h
  obtain ⟨i, hi, e⟩ := List.mem_map.mp h
  exact ⟨i, List.mem_range.mp hi, e.symm⟩
theorem at_nat {l : List D} {i : Nat} {d : D} (h : l[i]? = some d) : L2.atI l (i : Int) = some d := by
  have hi : i < l.length := (List.getElem?_eq_some_iff.mp h).1
  unfold L2.atI L2.ixN
  rw [if_pos (by omega), if_pos (by omega)]
  simpa using h
abbrev fr (l : List (Int × Int)) : D := .lst (l.map fun p => rat p.1 p.2)
abbrev du (l : List (Int × Int)) : D := .lst (l.map fun p => pairD p.1 p.2)
theorem eq_nil (M : Stor) : dEq (.lst []) (.lst []) M = .ok (.bl true) M := by
  have s2 : SeqAt.shaped (.list []) = true := by simp [SeqAt.shaped, PyData.canLay0, PyData.canLayAll0, PyData.depth, PyData.depthAll]
  have e : dEqD (.lst []) (.lst []) M = .ok (.bl true) M := by
    unfold dEqD topPy
    simp only [toPy, toPyL, Option.map_some, s2, and_self, if_true, PyData.eqv, PyData.eqvAll]
  show orR (dEqI (.lst []) (.lst []) M) (orR (dEqS (.lst []) (.lst []) M) (dEqD (.lst []) (.lst []) M)) = _
  rw [e]; rfl
theorem range1_ok {a : GA'} {Γ : Gam} {M M1 : Stor} {n : Nat} (h : a Γ M = .ok [.int n] M1) (hn : n < 100000) : giRange1 a Γ M = .ok (upFrom 0 n, anyS) M1 := by
  have h1 : ((n : Nat) : Int) < 4611686018427387904 := by omega
  have h2 : -4611686018427387904 ≤ ((n : Nat) : Int) := by omega
  have e : (2 : Int) ^ 62 = 4611686018427387904 := by decide
  unfold giRange1
  rw [h, R.bind_ok]
  generalize hxs : [D.int n] = xs
  split
  · rename_i j
    have hj : j = (n : Int) := by
      have := List.head_eq_of_cons_eq hxs
      injection this with q; exact q.symm
    subst hj
    rw [e, if_pos ⟨h2, h1⟩, Int.toNat_natCast]
  · rename_i q
    exact absurd hxs.symm (q _)
theorem are_ok (l : List (Int × Int)) (hl : l.length < 1000) (h : ∀ p ∈ l, Sm p.1 ∧ Sm p.2) (M : Stor) : f__law_are [fr l, du l] M = .ok (.bl true) M := by
  have c1 : gComp (giRange1 (G.gCons (gCall fLen (G.gCons (gVar 1) G.gNil)) G.gNil)) (.one 2) (gNot (gTr truD (gCall f__law_is (G.gCons (gBin dIx (gVar 0) (gVar 2)) (G.gCons (gBin dIx (gVar 1) (gVar 2)) G.gNil))))) (gVar 2) [some (fr l), some (du l), none] M = .ok (.lst []) M := by
    have e0 : giRange1 (G.gCons (gCall fLen (G.gCons (gVar 1) G.gNil)) G.gNil) [some (fr l), some (du l), none] M = .ok (upFrom 0 l.length, anyS) M := by
      refine range1_ok ?_ (by omega)
      simp only [gFn, gSeq, gSkip, gRet, gRetN, gExpr, gSet, gIf, gAug, gAsg, gPar2, gPar3, gVar, gC, gBin, gUn, gTr, gAnd, gOr, gNot, gAndV, gOrV, gNotV, gIfE, gCall, G.gCons, G.gNil, G.gTup, gLst, gLstM, gSl, goSome, goNone, R.bind_ok, R.bind_ex, R.bind_no, R.bindS_ok, R.bindS_ex, R.bindS_no, outS_nx, outS_rt, outS_ex, orR_ok, orR_ex, orR_no, ggName, ggSub, List.getElem?_cons_zero, List.getElem?_cons_succ, List.set_cons_zero, List.set_cons_succ, List.map_cons, List.map_nil, List.length_cons, List.length_nil, List.replicate, List.append_nil, List.nil_append, List.cons_append, Nat.reduceAdd, Nat.reduceSub, Nat.reduceLeDiff, Nat.reduceLT, if_true, if_false, Bool.false_eq_true, Bool.true_eq_false, Bool.not_true, Bool.not_false, decide_true, decide_false, decide_eq_true_eq, reduceIte, reduceCtorEq, eAdd, eAddI, eSub, eLt, eLe, eGt, eGe, eEq, eNe, eEqS, eNeS, eTru, eNeg, eAbs, eInt, eIntB, eLenL, eLenT, List.length_map]
    have e1 := comp_none (keep := anyS) (t := .one 2) (tt := gNot (gTr truD (gCall f__law_is (G.gCons (gBin dIx (gVar 0) (gVar 2)) (G.gCons (gBin dIx (gVar 1) (gVar 2)) G.gNil))))) (te := gVar 2) (Γ := [some (fr l), some (du l), none]) (M := M) trivial (upFrom 0 l.length) (fun d hd => by
      obtain ⟨i, hi, rfl⟩ := mem_up hd
      refine ⟨_, rfl, ?_⟩
      have hp := h l[i] (List.getElem_mem hi)
      have g1 : (l.map fun p => rat p.1 p.2)[i]? = some (rat l[i].1 l[i].2) := by rw [List.getElem?_map, List.getElem?_eq_getElem hi]; rfl
      have g2 : (l.map fun p => pairD p.1 p.2)[i]? = some (pairD l[i].1 l[i].2) := by rw [List.getElem?_map, List.getElem?_eq_getElem hi]; rfl
      have z : (0 : Int) + (i : Nat) = (i : Nat) := by omega
      simp only [gFn, gSeq, gSkip, gRet, gRetN, gExpr, gSet, gIf, gAug, gAsg, gPar2, gPar3, gVar, gC, gBin, gUn, gTr, gAnd, gOr, gNot, gAndV, gOrV, gNotV, gIfE, gCall, G.gCons, G.gNil, G.gTup, gLst, gLstM, gSl, goSome, goNone, R.bind_ok, R.bind_ex, R.bind_no, R.bindS_ok, R.bindS_ex, R.bindS_no, outS_nx, outS_rt, outS_ex, orR_ok, orR_ex, orR_no, ggName, ggSub, List.getElem?_cons_zero, List.getElem?_cons_succ, List.set_cons_zero, List.set_cons_succ, List.map_cons, List.map_nil, List.length_cons, List.length_nil, List.replicate, List.append_nil, List.nil_append, List.cons_append, Nat.reduceAdd, Nat.reduceSub, Nat.reduceLeDiff, Nat.reduceLT, if_true, if_false, Bool.false_eq_true, Bool.true_eq_false, Bool.not_true, Bool.not_false, decide_true, decide_false, decide_eq_true_eq, reduceIte, reduceCtorEq, eAdd, eAddI, eSub, eLt, eLe, eGt, eGe, eEq, eNe, eEqS, eNeS, eTru, eNeg, eAbs, eInt, eIntB, eLenL, eLenT, z, ix_lst, at_nat g1, at_nat g2, is_ok hp.1 hp.2])
    unfold gComp
    rw [e0]
    simp only [R.bind_ok, if_true]
    show R.bind (compG anyS (.one 2) _ _ (wipeG [some (fr l), some (du l), none] [2]) _ M []) _ = _
    rw [show wipeG [some (fr l), some (du l), none] [2] = [some (fr l), some (du l), none] from rfl, e1]
    rfl
  simp only [f__law_are, b__law_are, gFn, gSeq, gSkip, gRet, gRetN, gExpr, gSet, gIf, gAug, gAsg, gPar2, gPar3, gVar, gC, gBin, gUn, gTr, gAnd, gOr, gNot, gAndV, gOrV, gNotV, gIfE, gCall, G.gCons, G.gNil, G.gTup, gLst, gLstM, gSl, goSome, goNone, R.bind_ok, R.bind_ex, R.bind_no, R.bindS_ok, R.bindS_ex, R.bindS_no, outS_nx, outS_rt, outS_ex, orR_ok, orR_ex, orR_no, ggName, ggSub, List.getElem?_cons_zero, List.getElem?_cons_succ, List.set_cons_zero, List.set_cons_succ, List.map_cons, List.map_nil, List.length_cons, List.length_nil, List.replicate, List.append_nil, List.nil_append, List.cons_append, Nat.reduceAdd, Nat.reduceSub, Nat.reduceLeDiff, Nat.reduceLT, if_true, if_false, Bool.false_eq_true, Bool.true_eq_false, Bool.not_true, Bool.not_false, decide_true, decide_false, decide_eq_true_eq, reduceIte, reduceCtorEq, eAdd, eAddI, eSub, eLt, eLe, eGt, eGe, eEq, eNe, eEqS, eNeS, eTru, eNeg, eAbs, eInt, eIntB, eLenL, eLenT, List.length_map, c1, eq_nil]
/-! ### the operators -/
theorem mk1 (n : Int) : mkR n 1 = rat n 1 := by unfold mkR; rw [lowP_cop1]
theorem of_int (n : Int) (M : Stor) : f_Ratio_of [.int n] M = .ok (rat n 1) M := by
  have e : fIsi isOk isTab [.int n, .cls 5] M = .ok (.bl false) M := rfl
  simp only [f_Ratio_of, b_Ratio_of, gFn, gSeq, gSkip, gRet, gRetN, gExpr, gSet, gIf, gAug, gAsg, gPar2, gPar3, gVar, gC, gBin, gUn, gTr, gAnd, gOr, gNot, gAndV, gOrV, gNotV, gIfE, gCall, G.gCons, G.gNil, G.gTup, gLst, gLstM, gSl, goSome, goNone, R.bind_ok, R.bind_ex, R.bind_no, R.bindS_ok, R.bindS_ex, R.bindS_no, outS_nx, outS_rt, outS_ex, orR_ok, orR_ex, orR_no, ggName, ggSub, List.getElem?_cons_zero, List.getElem?_cons_succ, List.set_cons_zero, List.set_cons_succ, List.map_cons, List.map_nil, List.length_cons, List.length_nil, List.replicate, List.append_nil, List.nil_append, List.cons_append, Nat.reduceAdd, Nat.reduceSub, Nat.reduceLeDiff, Nat.reduceLT, if_true, if_false, Bool.false_eq_true, Bool.true_eq_false, Bool.not_true, Bool.not_false, decide_true, decide_false, decide_eq_true_eq, reduceIte, reduceCtorEq, eAdd, eAddI, eSub, eLt, eLe, eGt, eGe, eEq, eNe, eEqS, eNeS, eTru, eNeg, eAbs, eInt, eIntB, eLenL, eLenT, e, isint, make1_ok, mk1]
/-- an operand, and the fraction for which it stands -/
inductive Opd : D → Int → Nat → Prop
  | r (a : Int) (b : Nat) : Opd (rat a b) a b
  | n (a : Int) (b : Nat) (h : b = 1) : Opd (.int a) a b
theorem of_opd {x : D} {a : Int} {b : Nat} (h : Opd x a b) (M : Stor) : f_Ratio_of [x] M = .ok (rat a b) M := by
  cases h with
  | r => exact of_rat a b M
  | n _ _ h => subst h; exact of_int _ M
end K02

namespace K02
open PySem L2 G
def isI : D → Bool
  | .int _ => true
  | _ => false
/-- a fraction of the law: in lowest terms and not too great -/
def Fr (a : Int) (b : Nat) : Prop := a.natAbs < 2 ^ 100 ∧ 0 < b ∧ b < 2 ^ 100 ∧ Nat.gcd a.natAbs b = 1
theorem sm_of {a : Int} (h : a.natAbs < 2 ^ 300) : Sm a := Nat.lt_of_lt_of_le h (Nat.pow_le_pow_right (by decide) (by decide))
theorem big_of {a : Nat} (h : a < 2 ^ 100) : a < 2 ^ 1000 := Nat.lt_of_lt_of_le h (Nat.pow_le_pow_right (by decide) (by decide))
theorem nmul {a b : Nat} (h : a < 2 ^ 100) (h' : b < 2 ^ 100) : a * b < 2 ^ 200 := by
  have : a * b < 2 ^ 100 * 2 ^ 100 := Nat.mul_lt_mul'' h h'
  rwa [← Nat.pow_add] at this
theorem nsum {a b : Int} (h : a.natAbs < 2 ^ 200) (h' : b.natAbs < 2 ^ 200) : (a + b).natAbs < 2 ^ 300 := by
  have h3 : (2 : Nat) ^ 200 + 2 ^ 200 ≤ 2 ^ 300 := by decide +kernel
  have := Int.natAbs_add_le a b
  omega
theorem sm_low {x : Int} {y : Nat} (hx : x.natAbs < 2 ^ 300) (hy0 : 0 < y) (hy : y < 2 ^ 300) : Sm (lowP x y).1 ∧ Sm (lowP x y).2 := by
  obtain ⟨u, l, e, h0, hl, hu, _⟩ := lowP_ok x hy0
  rw [e]
  exact ⟨sm_of (Nat.lt_of_le_of_lt hu hx), sm_of (a := (l : Int)) (by rw [Int.natAbs_natCast]; exact Nat.lt_of_le_of_lt hl hy)⟩
section
variable {a c : Int} {b d : Nat} {x y : D} (M : Stor) (f1 : Fr a b) (f2 : Fr c d) (hx : Opd x a b) (hy : Opd y c d) (hn : (isI x && isI y) = false)
include f1 f2 hx hy hn
theorem add_ok : own2 5 f_Ratio___add__ f_Ratio___radd__ x y M = .ok (mkR (a * d + c * b) (b * d)) M := by
  have o1 := of_opd hx M
  have o2 := of_opd hy M
  have k := added_ok a c b d M (big_of f1.1) (big_of f2.1) f1.2.1 (big_of f1.2.2.1) f2.2.1 (big_of f2.2.2.1)
  cases hx with
  | r =>
    cases hy with
    | r => show f_Ratio___add__ [_, _] M = _; simp only [f_Ratio___add__, b_Ratio___add__, gFn, gSeq, gSkip, gRet, gRetN, gExpr, gSet, gIf, gAug, gAsg, gPar2, gPar3, gVar, gC, gBin, gUn, gTr, gAnd, gOr, gNot, gAndV, gOrV, gNotV, gIfE, gCall, G.gCons, G.gNil, G.gTup, gLst, gLstM, gSl, goSome, goNone, R.bind_ok, R.bind_ex, R.bind_no, R.bindS_ok, R.bindS_ex, R.bindS_no, outS_nx, outS_rt, outS_ex, orR_ok, orR_ex, orR_no, ggName, ggSub, List.getElem?_cons_zero, List.getElem?_cons_succ, List.set_cons_zero, List.set_cons_succ, List.map_cons, List.map_nil, List.length_cons, List.length_nil, List.replicate, List.append_nil, List.nil_append, List.cons_append, Nat.reduceAdd, Nat.reduceSub, Nat.reduceLeDiff, Nat.reduceLT, if_true, if_false, Bool.false_eq_true, Bool.true_eq_false, Bool.not_true, Bool.not_false, decide_true, decide_false, decide_eq_true_eq, reduceIte, reduceCtorEq, eAdd, eAddI, eSub, eLt, eLe, eGt, eGe, eEq, eNe, eEqS, eNeS, eTru, eNeg, eAbs, eInt, eIntB, eLenL, eLenT, o2, k]
    | n _ _ h => show f_Ratio___add__ [_, _] M = _; simp only [f_Ratio___add__, b_Ratio___add__, gFn, gSeq, gSkip, gRet, gRetN, gExpr, gSet, gIf, gAug, gAsg, gPar2, gPar3, gVar, gC, gBin, gUn, gTr, gAnd, gOr, gNot, gAndV, gOrV, gNotV, gIfE, gCall, G.gCons, G.gNil, G.gTup, gLst, gLstM, gSl, goSome, goNone, R.bind_ok, R.bind_ex, R.bind_no, R.bindS_ok, R.bindS_ex, R.bindS_no, outS_nx, outS_rt, outS_ex, orR_ok, orR_ex, orR_no, ggName, ggSub, List.getElem?_cons_zero, List.getElem?_cons_succ, List.set_cons_zero, List.set_cons_succ, List.map_cons, List.map_nil, List.length_cons, List.length_nil, List.replicate, List.append_nil, List.nil_append, List.cons_append, Nat.reduceAdd, Nat.reduceSub, Nat.reduceLeDiff, Nat.reduceLT, if_true, if_false, Bool.false_eq_true, Bool.true_eq_false, Bool.not_true, Bool.not_false, decide_true, decide_false, decide_eq_true_eq, reduceIte, reduceCtorEq, eAdd, eAddI, eSub, eLt, eLe, eGt, eGe, eEq, eNe, eEqS, eNeS, eTru, eNeg, eAbs, eInt, eIntB, eLenL, eLenT, o2, k]
  | n _ _ h =>
    cases hy with
    | r => show f_Ratio___radd__ [_, _] M = _; simp only [f_Ratio___radd__, b_Ratio___radd__, gFn, gSeq, gSkip, gRet, gRetN, gExpr, gSet, gIf, gAug, gAsg, gPar2, gPar3, gVar, gC, gBin, gUn, gTr, gAnd, gOr, gNot, gAndV, gOrV, gNotV, gIfE, gCall, G.gCons, G.gNil, G.gTup, gLst, gLstM, gSl, goSome, goNone, R.bind_ok, R.bind_ex, R.bind_no, R.bindS_ok, R.bindS_ex, R.bindS_no, outS_nx, outS_rt, outS_ex, orR_ok, orR_ex, orR_no, ggName, ggSub, List.getElem?_cons_zero, List.getElem?_cons_succ, List.set_cons_zero, List.set_cons_succ, List.map_cons, List.map_nil, List.length_cons, List.length_nil, List.replicate, List.append_nil, List.nil_append, List.cons_append, Nat.reduceAdd, Nat.reduceSub, Nat.reduceLeDiff, Nat.reduceLT, if_true, if_false, Bool.false_eq_true, Bool.true_eq_false, Bool.not_true, Bool.not_false, decide_true, decide_false, decide_eq_true_eq, reduceIte, reduceCtorEq, eAdd, eAddI, eSub, eLt, eLe, eGt, eGe, eEq, eNe, eEqS, eNeS, eTru, eNeg, eAbs, eInt, eIntB, eLenL, eLenT, o1, k]
    | n _ _ h => cases hn
theorem sub_ok : own2 5 f_Ratio___sub__ f_Ratio___rsub__ x y M = .ok (mkR (a * d - c * b) (b * d)) M := by
  have o1 := of_opd hx M
  have o2 := of_opd hy M
  have k := less_ok a c b d M (big_of f1.1) (big_of f2.1) f1.2.1 (big_of f1.2.2.1) f2.2.1 (big_of f2.2.2.1)
  cases hx with
  | r =>
    cases hy with
    | r => show f_Ratio___sub__ [_, _] M = _; simp only [f_Ratio___sub__, b_Ratio___sub__, gFn, gSeq, gSkip, gRet, gRetN, gExpr, gSet, gIf, gAug, gAsg, gPar2, gPar3, gVar, gC, gBin, gUn, gTr, gAnd, gOr, gNot, gAndV, gOrV, gNotV, gIfE, gCall, G.gCons, G.gNil, G.gTup, gLst, gLstM, gSl, goSome, goNone, R.bind_ok, R.bind_ex, R.bind_no, R.bindS_ok, R.bindS_ex, R.bindS_no, outS_nx, outS_rt, outS_ex, orR_ok, orR_ex, orR_no, ggName, ggSub, List.getElem?_cons_zero, List.getElem?_cons_succ, List.set_cons_zero, List.set_cons_succ, List.map_cons, List.map_nil, List.length_cons, List.length_nil, List.replicate, List.append_nil, List.nil_append, List.cons_append, Nat.reduceAdd, Nat.reduceSub, Nat.reduceLeDiff, Nat.reduceLT, if_true, if_false, Bool.false_eq_true, Bool.true_eq_false, Bool.not_true, Bool.not_false, decide_true, decide_false, decide_eq_true_eq, reduceIte, reduceCtorEq, eAdd, eAddI, eSub, eLt, eLe, eGt, eGe, eEq, eNe, eEqS, eNeS, eTru, eNeg, eAbs, eInt, eIntB, eLenL, eLenT, o2, k]
    | n _ _ h => show f_Ratio___sub__ [_, _] M = _; simp only [f_Ratio___sub__, b_Ratio___sub__, gFn, gSeq, gSkip, gRet, gRetN, gExpr, gSet, gIf, gAug, gAsg, gPar2, gPar3, gVar, gC, gBin, gUn, gTr, gAnd, gOr, gNot, gAndV, gOrV, gNotV, gIfE, gCall, G.gCons, G.gNil, G.gTup, gLst, gLstM, gSl, goSome, goNone, R.bind_ok, R.bind_ex, R.bind_no, R.bindS_ok, R.bindS_ex, R.bindS_no, outS_nx, outS_rt, outS_ex, orR_ok, orR_ex, orR_no, ggName, ggSub, List.getElem?_cons_zero, List.getElem?_cons_succ, List.set_cons_zero, List.set_cons_succ, List.map_cons, List.map_nil, List.length_cons, List.length_nil, List.replicate, List.append_nil, List.nil_append, List.cons_append, Nat.reduceAdd, Nat.reduceSub, Nat.reduceLeDiff, Nat.reduceLT, if_true, if_false, Bool.false_eq_true, Bool.true_eq_false, Bool.not_true, Bool.not_false, decide_true, decide_false, decide_eq_true_eq, reduceIte, reduceCtorEq, eAdd, eAddI, eSub, eLt, eLe, eGt, eGe, eEq, eNe, eEqS, eNeS, eTru, eNeg, eAbs, eInt, eIntB, eLenL, eLenT, o2, k]
  | n _ _ h =>
    cases hy with
    | r => show f_Ratio___rsub__ [_, _] M = _; simp only [f_Ratio___rsub__, b_Ratio___rsub__, gFn, gSeq, gSkip, gRet, gRetN, gExpr, gSet, gIf, gAug, gAsg, gPar2, gPar3, gVar, gC, gBin, gUn, gTr, gAnd, gOr, gNot, gAndV, gOrV, gNotV, gIfE, gCall, G.gCons, G.gNil, G.gTup, gLst, gLstM, gSl, goSome, goNone, R.bind_ok, R.bind_ex, R.bind_no, R.bindS_ok, R.bindS_ex, R.bindS_no, outS_nx, outS_rt, outS_ex, orR_ok, orR_ex, orR_no, ggName, ggSub, List.getElem?_cons_zero, List.getElem?_cons_succ, List.set_cons_zero, List.set_cons_succ, List.map_cons, List.map_nil, List.length_cons, List.length_nil, List.replicate, List.append_nil, List.nil_append, List.cons_append, Nat.reduceAdd, Nat.reduceSub, Nat.reduceLeDiff, Nat.reduceLT, if_true, if_false, Bool.false_eq_true, Bool.true_eq_false, Bool.not_true, Bool.not_false, decide_true, decide_false, decide_eq_true_eq, reduceIte, reduceCtorEq, eAdd, eAddI, eSub, eLt, eLe, eGt, eGe, eEq, eNe, eEqS, eNeS, eTru, eNeg, eAbs, eInt, eIntB, eLenL, eLenT, o1, k]
    | n _ _ h => cases hn
theorem mul_ok : own2 5 f_Ratio___mul__ f_Ratio___rmul__ x y M = .ok (mkR (a * c) (b * d)) M := by
  have o1 := of_opd hx M
  have o2 := of_opd hy M
  have k := mult_ok a c b d M (big_of f1.1) (big_of f2.1) f1.2.1 (big_of f1.2.2.1) f2.2.1 (big_of f2.2.2.1)
  cases hx with
  | r =>
    cases hy with
    | r => show f_Ratio___mul__ [_, _] M = _; simp only [f_Ratio___mul__, b_Ratio___mul__, gFn, gSeq, gSkip, gRet, gRetN, gExpr, gSet, gIf, gAug, gAsg, gPar2, gPar3, gVar, gC, gBin, gUn, gTr, gAnd, gOr, gNot, gAndV, gOrV, gNotV, gIfE, gCall, G.gCons, G.gNil, G.gTup, gLst, gLstM, gSl, goSome, goNone, R.bind_ok, R.bind_ex, R.bind_no, R.bindS_ok, R.bindS_ex, R.bindS_no, outS_nx, outS_rt, outS_ex, orR_ok, orR_ex, orR_no, ggName, ggSub, List.getElem?_cons_zero, List.getElem?_cons_succ, List.set_cons_zero, List.set_cons_succ, List.map_cons, List.map_nil, List.length_cons, List.length_nil, List.replicate, List.append_nil, List.nil_append, List.cons_append, Nat.reduceAdd, Nat.reduceSub, Nat.reduceLeDiff, Nat.reduceLT, if_true, if_false, Bool.false_eq_true, Bool.true_eq_false, Bool.not_true, Bool.not_false, decide_true, decide_false, decide_eq_true_eq, reduceIte, reduceCtorEq, eAdd, eAddI, eSub, eLt, eLe, eGt, eGe, eEq, eNe, eEqS, eNeS, eTru, eNeg, eAbs, eInt, eIntB, eLenL, eLenT, o2, k]
    | n _ _ h => show f_Ratio___mul__ [_, _] M = _; simp only [f_Ratio___mul__, b_Ratio___mul__, gFn, gSeq, gSkip, gRet, gRetN, gExpr, gSet, gIf, gAug, gAsg, gPar2, gPar3, gVar, gC, gBin, gUn, gTr, gAnd, gOr, gNot, gAndV, gOrV, gNotV, gIfE, gCall, G.gCons, G.gNil, G.gTup, gLst, gLstM, gSl, goSome, goNone, R.bind_ok, R.bind_ex, R.bind_no, R.bindS_ok, R.bindS_ex, R.bindS_no, outS_nx, outS_rt, outS_ex, orR_ok, orR_ex, orR_no, ggName, ggSub, List.getElem?_cons_zero, List.getElem?_cons_succ, List.set_cons_zero, List.set_cons_succ, List.map_cons, List.map_nil, List.length_cons, List.length_nil, List.replicate, List.append_nil, List.nil_append, List.cons_append, Nat.reduceAdd, Nat.reduceSub, Nat.reduceLeDiff, Nat.reduceLT, if_true, if_false, Bool.false_eq_true, Bool.true_eq_false, Bool.not_true, Bool.not_false, decide_true, decide_false, decide_eq_true_eq, reduceIte, reduceCtorEq, eAdd, eAddI, eSub, eLt, eLe, eGt, eGe, eEq, eNe, eEqS, eNeS, eTru, eNeg, eAbs, eInt, eIntB, eLenL, eLenT, o2, k]
  | n _ _ h =>
    cases hy with
    | r => show f_Ratio___rmul__ [_, _] M = _; simp only [f_Ratio___rmul__, b_Ratio___rmul__, gFn, gSeq, gSkip, gRet, gRetN, gExpr, gSet, gIf, gAug, gAsg, gPar2, gPar3, gVar, gC, gBin, gUn, gTr, gAnd, gOr, gNot, gAndV, gOrV, gNotV, gIfE, gCall, G.gCons, G.gNil, G.gTup, gLst, gLstM, gSl, goSome, goNone, R.bind_ok, R.bind_ex, R.bind_no, R.bindS_ok, R.bindS_ex, R.bindS_no, outS_nx, outS_rt, outS_ex, orR_ok, orR_ex, orR_no, ggName, ggSub, List.getElem?_cons_zero, List.getElem?_cons_succ, List.set_cons_zero, List.set_cons_succ, List.map_cons, List.map_nil, List.length_cons, List.length_nil, List.replicate, List.append_nil, List.nil_append, List.cons_append, Nat.reduceAdd, Nat.reduceSub, Nat.reduceLeDiff, Nat.reduceLT, if_true, if_false, Bool.false_eq_true, Bool.true_eq_false, Bool.not_true, Bool.not_false, decide_true, decide_false, decide_eq_true_eq, reduceIte, reduceCtorEq, eAdd, eAddI, eSub, eLt, eLe, eGt, eGe, eEq, eNe, eEqS, eNeS, eTru, eNeg, eAbs, eInt, eIntB, eLenL, eLenT, o1, k]
    | n _ _ h => cases hn
end
theorem nos {x y : D} {a c : Int} {b d : Nat} (M : Stor) (hx : Opd x a b) (hy : Opd y c d) (hn : (isI x && isI y) = false) :
    dAdd x y M = .no ∧ dAddI x y M = .no ∧ dSubI x y M = .no ∧ dMul x y M = .no ∧ dMulI x y M = .no := by
  cases hx with
  | r => cases hy with
    | r => exact ⟨rfl, rfl, rfl, rfl, rfl⟩
    | n _ _ h => exact ⟨rfl, rfl, rfl, rfl, rfl⟩
  | n _ _ h => cases hy with
    | r => exact ⟨rfl, rfl, rfl, rfl, rfl⟩
    | n _ _ h => cases hn
/-- the three results -/
abbrev R3 (a : Int) (b : Nat) (c : Int) (d : Nat) : List D := [mkR (a * d + c * b) (b * d), mkR (a * d - c * b) (b * d), mkR (a * c) (b * d)]
abbrev lp (p : Int × Int) : D := pairD p.1 p.2
abbrev P3 (a : Int) (b : Nat) (c : Int) (d : Nat) : List D := [lp (lowP (a * d + c * b) (b * d)), lp (lowP (a * d - c * b) (b * d)), lp (lowP (a * c) (b * d))]
section
variable {a c : Int} {b d : Nat} {x y : D} (M : Stor) (f1 : Fr a b) (f2 : Fr c d)
include f1 f2
theorem bounds : (a * d + c * b).natAbs < 2 ^ 300 ∧ (a * d - c * b).natAbs < 2 ^ 300 ∧ (a * c).natAbs < 2 ^ 300 ∧ 0 < b * d ∧ b * d < 2 ^ 300 := by
  have w : (2 : Nat) ^ 200 ≤ 2 ^ 300 := by decide +kernel
  have e1 : (a * d).natAbs < 2 ^ 200 := by rw [Int.natAbs_mul, Int.natAbs_natCast]; exact nmul f1.1 f2.2.2.1
  have e2 : (c * b).natAbs < 2 ^ 200 := by rw [Int.natAbs_mul, Int.natAbs_natCast]; exact nmul f2.1 f1.2.2.1
  have e3 : (a * c).natAbs < 2 ^ 200 := by rw [Int.natAbs_mul]; exact nmul f1.1 f2.1
  have e4 : b * d < 2 ^ 200 := nmul f1.2.2.1 f2.2.2.1
  refine ⟨nsum e1 e2, ?_, by omega, Nat.mul_pos f1.2.1 f2.2.1, by omega⟩
  rw [Int.sub_eq_add_neg]
  exact nsum e1 (by rwa [Int.natAbs_neg])
theorem are3 : f__law_are [.lst (R3 a b c d), .lst (P3 a b c d)] M = .ok (.bl true) M := by
  obtain ⟨b1, b2, b3, b4, b5⟩ := bounds f1 f2
  refine are_ok [lowP (a * d + c * b) (b * d), lowP (a * d - c * b) (b * d), lowP (a * c) (b * d)] (by show 3 < 1000; decide) ?_ M
  intro p hp
  simp only [List.mem_cons, List.not_mem_nil, or_false] at hp
  rcases hp with rfl | rfl | rfl
  · exact sm_low b1 b4 b5
  · exact sm_low b2 b4 b5
  · exact sm_low b3 b4 b5
theorem results_ok : f__law_results [pairD a b, pairD c d] M = .ok (.lst (P3 a b c d)) M := by
  obtain ⟨b1, b2, b3, b4, b5⟩ := bounds f1 f2
  have w : b * d < 2 ^ 8000 := Nat.lt_of_lt_of_le b5 (Nat.pow_le_pow_right (by decide) (by decide))
  have l1 := fun M => low_ok (a * d + c * b) (b * d) M b4 w
  have l2 := fun M => low_ok (a * d - c * b) (b * d) M b4 w
  have l3 := fun M => low_ok (a * c) (b * d) M b4 w
  simp only [Int.natCast_mul] at l1 l2 l3
  have m1 : mulOk a (d : Int) = true := mo (big_of f1.1) (by show ((d : Nat) : Int).natAbs < _; rw [Int.natAbs_natCast]; exact big_of f2.2.2.1)
  have m2 : mulOk c (b : Int) = true := mo (big_of f2.1) (by show ((b : Nat) : Int).natAbs < _; rw [Int.natAbs_natCast]; exact big_of f1.2.2.1)
  have m3 : mulOk (b : Int) (d : Int) = true := mo (by show ((b : Nat) : Int).natAbs < _; rw [Int.natAbs_natCast]; exact big_of f1.2.2.1) (by show ((d : Nat) : Int).natAbs < _; rw [Int.natAbs_natCast]; exact big_of f2.2.2.1)
  have m4 : mulOk a c = true := mo (big_of f1.1) (big_of f2.1)
  have i0 : ∀ (p q : D) (M : Stor), dIx (.tup [p, q]) (.int 0) M = .ok p M := fun _ _ _ => rfl
  have i1 : ∀ (p q : D) (M : Stor), dIx (.tup [p, q]) (.int 1) M = .ok q M := fun _ _ _ => rfl
  have ap : ∀ (M : Stor) (l : List D) (d : D), l.length < 10 → mAppend (.ref M.length) [d] (M ++ [.lst l]) = .ok .non (M ++ [.lst (l ++ [d])]) := fun M l d hl => by
    unfold mAppend
    simp only [get_last]
    rw [if_pos (by omega), set_last]
  have lo : ∀ (M : Stor) (l : List D), lstOf (.ref M.length) (M ++ [.lst l]) = some l := fun M l => by
    unfold lstOf; simp only [get_last]
  have body : gFn 2 3 b__law_results [pairD a b, pairD c d] M = .ok (.ref M.length) (M ++ [.lst (P3 a b c d)]) := by
    refine fn_rt rfl ?_
    show b__law_results [some (pairD a b), some (pairD c d), none] M = _
    unfold b__law_results
    rw [seq_nx (Γ1 := [some (pairD a b), some (pairD c d), some (.ref M.length)]) (M1 := M ++ [.lst [lp (lowP (a * d + c * b) (b * d))]]) (by
      simp only [gFn, gSeq, gSkip, gRet, gRetN, gExpr, gSet, gIf, gAug, gAsg, gPar2, gPar3, gVar, gC, gBin, gUn, gTr, gAnd, gOr, gNot, gAndV, gOrV, gNotV, gIfE, gCall, G.gCons, G.gNil, G.gTup, gLst, gLstM, gSl, goSome, goNone, R.bind_ok, R.bind_ex, R.bind_no, R.bindS_ok, R.bindS_ex, R.bindS_no, outS_nx, outS_rt, outS_ex, orR_ok, orR_ex, orR_no, ggName, ggSub, List.getElem?_cons_zero, List.getElem?_cons_succ, List.set_cons_zero, List.set_cons_succ, List.map_cons, List.map_nil, List.length_cons, List.length_nil, List.replicate, List.append_nil, List.nil_append, List.cons_append, Nat.reduceAdd, Nat.reduceSub, Nat.reduceLeDiff, Nat.reduceLT, if_true, if_false, Bool.false_eq_true, Bool.true_eq_false, Bool.not_true, Bool.not_false, decide_true, decide_false, decide_eq_true_eq, reduceIte, reduceCtorEq, eAdd, eAddI, eSub, eLt, eLe, eGt, eGe, eEq, eNe, eEqS, eNeS, eTru, eNeg, eAbs, eInt, eIntB, eLenL, eLenT, i0, i1, eMul m1, eMul m2, eMul m3, l1])]
    rw [seq_nx (Γ1 := [some (pairD a b), some (pairD c d), some (.ref M.length)]) (M1 := M ++ [.lst [lp (lowP (a * d + c * b) (b * d)), lp (lowP (a * d - c * b) (b * d))]]) (by
      have z := ap M [lp (lowP (a * d + c * b) (b * d))] (lp (lowP (a * d - c * b) (b * d))) (by simp)
      simp only [List.cons_append, List.nil_append] at z
      simp only [gFn, gSeq, gSkip, gRet, gRetN, gExpr, gSet, gIf, gAug, gAsg, gPar2, gPar3, gVar, gC, gBin, gUn, gTr, gAnd, gOr, gNot, gAndV, gOrV, gNotV, gIfE, gCall, G.gCons, G.gNil, G.gTup, gLst, gLstM, gSl, goSome, goNone, R.bind_ok, R.bind_ex, R.bind_no, R.bindS_ok, R.bindS_ex, R.bindS_no, outS_nx, outS_rt, outS_ex, orR_ok, orR_ex, orR_no, ggName, ggSub, List.getElem?_cons_zero, List.getElem?_cons_succ, List.set_cons_zero, List.set_cons_succ, List.map_cons, List.map_nil, List.length_cons, List.length_nil, List.replicate, List.append_nil, List.nil_append, List.cons_append, Nat.reduceAdd, Nat.reduceSub, Nat.reduceLeDiff, Nat.reduceLT, if_true, if_false, Bool.false_eq_true, Bool.true_eq_false, Bool.not_true, Bool.not_false, decide_true, decide_false, decide_eq_true_eq, reduceIte, reduceCtorEq, eAdd, eAddI, eSub, eLt, eLe, eGt, eGe, eEq, eNe, eEqS, eNeS, eTru, eNeg, eAbs, eInt, eIntB, eLenL, eLenT, gMtL, lo, i0, i1, eMul m1, eMul m2, eMul m3, l2, z])]
    rw [seq_nx (Γ1 := [some (pairD a b), some (pairD c d), some (.ref M.length)]) (M1 := M ++ [.lst (P3 a b c d)]) (by
      have z := ap M [lp (lowP (a * d + c * b) (b * d)), lp (lowP (a * d - c * b) (b * d))] (lp (lowP (a * c) (b * d))) (by simp)
      simp only [List.cons_append, List.nil_append] at z
      simp only [gFn, gSeq, gSkip, gRet, gRetN, gExpr, gSet, gIf, gAug, gAsg, gPar2, gPar3, gVar, gC, gBin, gUn, gTr, gAnd, gOr, gNot, gAndV, gOrV, gNotV, gIfE, gCall, G.gCons, G.gNil, G.gTup, gLst, gLstM, gSl, goSome, goNone, R.bind_ok, R.bind_ex, R.bind_no, R.bindS_ok, R.bindS_ex, R.bindS_no, outS_nx, outS_rt, outS_ex, orR_ok, orR_ex, orR_no, ggName, ggSub, List.getElem?_cons_zero, List.getElem?_cons_succ, List.set_cons_zero, List.set_cons_succ, List.map_cons, List.map_nil, List.length_cons, List.length_nil, List.replicate, List.append_nil, List.nil_append, List.cons_append, Nat.reduceAdd, Nat.reduceSub, Nat.reduceLeDiff, Nat.reduceLT, if_true, if_false, Bool.false_eq_true, Bool.true_eq_false, Bool.not_true, Bool.not_false, decide_true, decide_false, decide_eq_true_eq, reduceIte, reduceCtorEq, eAdd, eAddI, eSub, eLt, eLe, eGt, eGe, eEq, eNe, eEqS, eNeS, eTru, eNeg, eAbs, eInt, eIntB, eLenL, eLenT, gMtL, lo, i0, i1, eMul m1, eMul m2, eMul m3, eMul m4, l3, z])]
    rfl
  show frz M (gFn 2 3 b__law_results [pairD a b, pairD c d] M) = _
  rw [body]
  exact frz_lstF rfl
theorem in_place_ok (hx : Opd x a b) (hy : Opd y c d) (hn : (isI x && isI y) = false) : f__law_in_place [x, y] M = .ok (.lst (R3 a b c d)) M := by
  obtain ⟨n1, n2, n3, n4, n5⟩ := nos M hx hy hn
  simp only [f__law_in_place, b__law_in_place, gFn, gSeq, gSkip, gRet, gRetN, gExpr, gSet, gIf, gAug, gAsg, gPar2, gPar3, gVar, gC, gBin, gUn, gTr, gAnd, gOr, gNot, gAndV, gOrV, gNotV, gIfE, gCall, G.gCons, G.gNil, G.gTup, gLst, gLstM, gSl, goSome, goNone, R.bind_ok, R.bind_ex, R.bind_no, R.bindS_ok, R.bindS_ex, R.bindS_no, outS_nx, outS_rt, outS_ex, orR_ok, orR_ex, orR_no, ggName, ggSub, List.getElem?_cons_zero, List.getElem?_cons_succ, List.set_cons_zero, List.set_cons_succ, List.map_cons, List.map_nil, List.length_cons, List.length_nil, List.replicate, List.append_nil, List.nil_append, List.cons_append, Nat.reduceAdd, Nat.reduceSub, Nat.reduceLeDiff, Nat.reduceLT, if_true, if_false, Bool.false_eq_true, Bool.true_eq_false, Bool.not_true, Bool.not_false, decide_true, decide_false, decide_eq_true_eq, reduceIte, reduceCtorEq, eAdd, eAddI, eSub, eLt, eLe, eGt, eGe, eEq, eNe, eEqS, eNeS, eTru, eNeg, eAbs, eInt, eIntB, eLenL, eLenT, n2, n3, n5, add_ok M f1 f2 hx hy hn, sub_ok M f1 f2 hx hy hn, mul_ok M f1 f2 hx hy hn]
end
theorem mk_cop {a : Int} {b : Nat} (f : Fr a b) : mkR a b = rat a b := by unfold mkR; rw [lowP_cop f.2.2.2]
theorem made_ok {a : Int} {b : Nat} (f : Fr a b) (M : Stor) : f__law_made [pairD a b] M = .ok (rat a b) M := by
  have i0 : ∀ (p q : D) (M : Stor), dIx (.tup [p, q]) (.int 0) M = .ok p M := fun _ _ _ => rfl
  have i1 : ∀ (p q : D) (M : Stor), dIx (.tup [p, q]) (.int 1) M = .ok q M := fun _ _ _ => rfl
  have h0 := f.2.1
  have h : ¬ ((b : Nat) : Int) = 0 := by omega
  have k := make_ok a b M h0 (Nat.lt_trans (big_of f.2.2.1) (Nat.pow_lt_pow_right (by decide) (by decide)))
  rw [mk_cop f] at k
  simp only [f__law_made, b__law_made, gFn, gSeq, gSkip, gRet, gRetN, gExpr, gSet, gIf, gAug, gAsg, gPar2, gPar3, gVar, gC, gBin, gUn, gTr, gAnd, gOr, gNot, gAndV, gOrV, gNotV, gIfE, gCall, G.gCons, G.gNil, G.gTup, gLst, gLstM, gSl, goSome, goNone, R.bind_ok, R.bind_ex, R.bind_no, R.bindS_ok, R.bindS_ex, R.bindS_no, outS_nx, outS_rt, outS_ex, orR_ok, orR_ex, orR_no, ggName, ggSub, List.getElem?_cons_zero, List.getElem?_cons_succ, List.set_cons_zero, List.set_cons_succ, List.map_cons, List.map_nil, List.length_cons, List.length_nil, List.replicate, List.append_nil, List.nil_append, List.cons_append, Nat.reduceAdd, Nat.reduceSub, Nat.reduceLeDiff, Nat.reduceLT, if_true, if_false, Bool.false_eq_true, Bool.true_eq_false, Bool.not_true, Bool.not_false, decide_true, decide_false, decide_eq_true_eq, reduceIte, reduceCtorEq, eAdd, eAddI, eSub, eLt, eLe, eGt, eGe, eEq, eNe, eEqS, eNeS, eTru, eNeg, eAbs, eInt, eIntB, eLenL, eLenT, i0, i1, h, k]
end K02

namespace K02
open PySem L2 G
theorem i0 (p q : D) (M : Stor) : dIx (.tup [p, q]) (.int 0) M = .ok p M := rfl
theorem i1 (p q : D) (M : Stor) : dIx (.tup [p, q]) (.int 1) M = .ok q M := rfl
theorem sm_b {a : Int} {b : Nat} (f : Fr a b) : Sm (b : Int) := by show ((b : Nat) : Int).natAbs < _; rw [Int.natAbs_natCast]; exact big_of f.2.2.1
theorem pair_right_ok {a c : Int} {b d : Nat} (f1 : Fr a b) (f2 : Fr c d) (M : Stor) : f__law_pair_right [pairD a b, pairD c d] M = .ok (.bl true) M := by
  have e1 := is_ok (a := a) (b := b) (big_of f1.1) (sm_b f1) M
  have e2 := is_ok (a := c) (b := d) (big_of f2.1) (sm_b f2) M
  have mk1 := made_ok f1 M
  have mk2 := made_ok f2 M
  have rs := results_ok M f1 f2
  have rs' := results_ok M f2 f1
  have ar := are3 M f1 f2
  have ar' := are3 M f2 f1
  obtain ⟨n1, n2, n3, n4, n5⟩ := nos M (Opd.r a b) (Opd.r c d) rfl
  have ip := in_place_ok M f1 f2 (Opd.r a b) (Opd.r c d) rfl
  have p1 := add_ok M f1 f2 (Opd.r a b) (Opd.r c d) rfl
  have p2 := sub_ok M f1 f2 (Opd.r a b) (Opd.r c d) rfl
  have p3 := mul_ok M f1 f2 (Opd.r a b) (Opd.r c d) rfl
  by_cases hd : d = 1
  · have hd' : ((d : Nat) : Int) = 1 := by omega
    have x1 : Opd (.int c) c d := Opd.n c d hd
    obtain ⟨u1, u2, u3, u4, u5⟩ := nos M (Opd.r a b) x1 rfl
    obtain ⟨v1, v2, v3, v4, v5⟩ := nos M x1 (Opd.r a b) rfl
    have ip1 := in_place_ok M f1 f2 (Opd.r a b) x1 rfl
    have ip2 := in_place_ok M f2 f1 x1 (Opd.r a b) rfl
    have q1 := add_ok M f1 f2 (Opd.r a b) x1 rfl
    have q2 := sub_ok M f1 f2 (Opd.r a b) x1 rfl
    have q3 := mul_ok M f1 f2 (Opd.r a b) x1 rfl
    have r1 := add_ok M f2 f1 x1 (Opd.r a b) rfl
    have r2 := sub_ok M f2 f1 x1 (Opd.r a b) rfl
    have r3 := mul_ok M f2 f1 x1 (Opd.r a b) rfl
    have dd : decide (((d : Nat) : Int) = 1) = true := decide_eq_true hd'
    simp only [f__law_pair_right, b__law_pair_right, gFn, gSeq, gSkip, gRet, gRetN, gExpr, gSet, gIf, gAug, gAsg, gPar2, gPar3, gVar, gC, gBin, gUn, gTr, gAnd, gOr, gNot, gAndV, gOrV, gNotV, gIfE, gCall, G.gCons, G.gNil, G.gTup, gLst, gLstM, gSl, goSome, goNone, R.bind_ok, R.bind_ex, R.bind_no, R.bindS_ok, R.bindS_ex, R.bindS_no, outS_nx, outS_rt, outS_ex, orR_ok, orR_ex, orR_no, ggName, ggSub, List.getElem?_cons_zero, List.getElem?_cons_succ, List.set_cons_zero, List.set_cons_succ, List.map_cons, List.map_nil, List.length_cons, List.length_nil, List.replicate, List.append_nil, List.nil_append, List.cons_append, Nat.reduceAdd, Nat.reduceSub, Nat.reduceLeDiff, Nat.reduceLT, if_true, if_false, Bool.false_eq_true, Bool.true_eq_false, Bool.not_true, Bool.not_false, decide_true, decide_false, decide_eq_true_eq, reduceIte, reduceCtorEq, eAdd, eAddI, eSub, eLt, eLe, eGt, eGe, eEq, eNe, eEqS, eNeS, eTru, eNeg, eAbs, eInt, eIntB, eLenL, eLenT, mk1, mk2, rs, rs', ar, ar', n1, n3, n4, ip, p1, p2, p3, u1, u3, u4, v1, v3, v4, ip1, ip2, q1, q2, q3, r1, r2, r3, i0, i1, dd, e1, e2]
  · have hd' : ¬ ((d : Nat) : Int) = 1 := by omega
    have dd : decide (((d : Nat) : Int) = 1) = false := decide_eq_false hd'
    simp only [f__law_pair_right, b__law_pair_right, gFn, gSeq, gSkip, gRet, gRetN, gExpr, gSet, gIf, gAug, gAsg, gPar2, gPar3, gVar, gC, gBin, gUn, gTr, gAnd, gOr, gNot, gAndV, gOrV, gNotV, gIfE, gCall, G.gCons, G.gNil, G.gTup, gLst, gLstM, gSl, goSome, goNone, R.bind_ok, R.bind_ex, R.bind_no, R.bindS_ok, R.bindS_ex, R.bindS_no, outS_nx, outS_rt, outS_ex, orR_ok, orR_ex, orR_no, ggName, ggSub, List.getElem?_cons_zero, List.getElem?_cons_succ, List.set_cons_zero, List.set_cons_succ, List.map_cons, List.map_nil, List.length_cons, List.length_nil, List.replicate, List.append_nil, List.nil_append, List.cons_append, Nat.reduceAdd, Nat.reduceSub, Nat.reduceLeDiff, Nat.reduceLT, if_true, if_false, Bool.false_eq_true, Bool.true_eq_false, Bool.not_true, Bool.not_false, decide_true, decide_false, decide_eq_true_eq, reduceIte, reduceCtorEq, eAdd, eAddI, eSub, eLt, eLe, eGt, eGe, eEq, eNe, eEqS, eNeS, eTru, eNeg, eAbs, eInt, eIntB, eLenL, eLenT, mk1, mk2, rs, rs', ar, ar', n1, n3, n4, ip, p1, p2, p3, i0, i1, dd, e1, e2]
theorem Fr.neg {a : Int} {b : Nat} (f : Fr a b) : Fr (-a) b := ⟨by rw [Int.natAbs_neg]; exact f.1, f.2.1, f.2.2.1, by rw [Int.natAbs_neg]; exact f.2.2.2⟩
theorem Fr.abs {a : Int} {b : Nat} (f : Fr a b) : Fr (a.natAbs : Int) b := ⟨by rw [Int.natAbs_natCast]; exact f.1, f.2.1, f.2.2.1, by rw [Int.natAbs_natCast]; exact f.2.2.2⟩
theorem Fr.one {a : Int} (h : a.natAbs < 2 ^ 100) : Fr a 1 := ⟨h, by decide, by decide, Nat.gcd_one_right _⟩
theorem neg_ok {a : Int} {b : Nat} (f : Fr a b) (M : Stor) : f_Ratio___neg__ [rat a b] M = .ok (rat (-a) b) M := by
  have h0 := f.2.1
  have h : ¬ ((b : Nat) : Int) = 0 := by omega
  have k := make_ok (-a) b M h0 (Nat.lt_trans (big_of f.2.2.1) (Nat.pow_lt_pow_right (by decide) (by decide)))
  rw [mk_cop f.neg] at k
  simp only [f_Ratio___neg__, b_Ratio___neg__, gFn, gSeq, gSkip, gRet, gRetN, gExpr, gSet, gIf, gAug, gAsg, gPar2, gPar3, gVar, gC, gBin, gUn, gTr, gAnd, gOr, gNot, gAndV, gOrV, gNotV, gIfE, gCall, G.gCons, G.gNil, G.gTup, gLst, gLstM, gSl, goSome, goNone, R.bind_ok, R.bind_ex, R.bind_no, R.bindS_ok, R.bindS_ex, R.bindS_no, outS_nx, outS_rt, outS_ex, orR_ok, orR_ex, orR_no, ggName, ggSub, List.getElem?_cons_zero, List.getElem?_cons_succ, List.set_cons_zero, List.set_cons_succ, List.map_cons, List.map_nil, List.length_cons, List.length_nil, List.replicate, List.append_nil, List.nil_append, List.cons_append, Nat.reduceAdd, Nat.reduceSub, Nat.reduceLeDiff, Nat.reduceLT, if_true, if_false, Bool.false_eq_true, Bool.true_eq_false, Bool.not_true, Bool.not_false, decide_true, decide_false, decide_eq_true_eq, reduceIte, reduceCtorEq, eAdd, eAddI, eSub, eLt, eLe, eGt, eGe, eEq, eNe, eEqS, eNeS, eTru, eNeg, eAbs, eInt, eIntB, eLenL, eLenT, fTop, fBot, h, k]
theorem abs_ok {a : Int} {b : Nat} (f : Fr a b) (M : Stor) : f_Ratio___abs__ [rat a b] M = .ok (rat a.natAbs b) M := by
  have h0 := f.2.1
  have h : ¬ ((b : Nat) : Int) = 0 := by omega
  have k := make_ok (a.natAbs : Int) b M h0 (Nat.lt_trans (big_of f.2.2.1) (Nat.pow_lt_pow_right (by decide) (by decide)))
  rw [mk_cop f.abs] at k
  simp only [f_Ratio___abs__, b_Ratio___abs__, gFn, gSeq, gSkip, gRet, gRetN, gExpr, gSet, gIf, gAug, gAsg, gPar2, gPar3, gVar, gC, gBin, gUn, gTr, gAnd, gOr, gNot, gAndV, gOrV, gNotV, gIfE, gCall, G.gCons, G.gNil, G.gTup, gLst, gLstM, gSl, goSome, goNone, R.bind_ok, R.bind_ex, R.bind_no, R.bindS_ok, R.bindS_ex, R.bindS_no, outS_nx, outS_rt, outS_ex, orR_ok, orR_ex, orR_no, ggName, ggSub, List.getElem?_cons_zero, List.getElem?_cons_succ, List.set_cons_zero, List.set_cons_succ, List.map_cons, List.map_nil, List.length_cons, List.length_nil, List.replicate, List.append_nil, List.nil_append, List.cons_append, Nat.reduceAdd, Nat.reduceSub, Nat.reduceLeDiff, Nat.reduceLT, if_true, if_false, Bool.false_eq_true, Bool.true_eq_false, Bool.not_true, Bool.not_false, decide_true, decide_false, decide_eq_true_eq, reduceIte, reduceCtorEq, eAdd, eAddI, eSub, eLt, eLe, eGt, eGe, eEq, eNe, eEqS, eNeS, eTru, eNeg, eAbs, eInt, eIntB, eLenL, eLenT, fTop, fBot, h, k]
theorem neg_o (a b : Int) (M : Stor) : orR (dNegI (rat a b) M) (own1 5 f_Ratio___neg__ (rat a b) M) = f_Ratio___neg__ [rat a b] M := rfl
theorem abs_o (a b : Int) (M : Stor) : orR (fAbsI [rat a b] M) (fAbsO 5 f_Ratio___abs__ [rat a b] M) = f_Ratio___abs__ [rat a b] M := rfl
theorem mk_zero {n : Nat} (h : 0 < n) : mkR 0 n = rat 0 1 := by
  have e : Nat.gcd (0 : Int).natAbs n = n := Nat.gcd_zero_left n
  unfold mkR lowP
  rw [e]
  have : ((n : Nat) : Int) / ((n : Nat) : Int) = 1 := Int.ediv_self (by omega)
  simp only [this, Int.zero_ediv]
theorem alone_right_ok {a : Int} {b : Nat} (f : Fr a b) (M : Stor) : f__law_alone_right [pairD a b] M = .ok (.bl true) M := by
  have mk1 := made_ok f M
  have n1 := neg_ok f M
  have n2 := neg_ok f.neg M
  have n3 := abs_ok f M
  have n4 := abs_ok f.neg M
  rw [Int.neg_neg] at n2
  rw [Int.natAbs_neg] at n4
  have ar := are_ok [(-a, (b : Int)), (a, (b : Int)), ((a.natAbs : Int), (b : Int)), ((a.natAbs : Int), (b : Int))] (by show 4 < 1000; decide) (by
    intro p hp
    simp only [List.mem_cons, List.not_mem_nil, or_false] at hp
    rcases hp with rfl | rfl | rfl | rfl
    · exact ⟨big_of f.neg.1, sm_b f⟩
    · exact ⟨big_of f.1, sm_b f⟩
    · exact ⟨big_of f.abs.1, sm_b f⟩
    · exact ⟨big_of f.abs.1, sm_b f⟩) M
  have ar2 := are_ok [(0, 1), (0, 1), (0, 1), (0, 1), (a, (b : Int))] (by show 5 < 1000; decide) (by
    intro p hp
    simp only [List.mem_cons, List.not_mem_nil, or_false] at hp
    have z : Sm (0 : Int) ∧ Sm (1 : Int) := ⟨by show 0 < _; exact Nat.two_pow_pos _, by show 1 < _; exact Nat.one_lt_two_pow (by decide)⟩
    rcases hp with rfl | rfl | rfl | rfl | rfl
    · exact z
    · exact z
    · exact z
    · exact z
    · exact ⟨big_of f.1, sm_b f⟩) M
  have z0 : Fr 0 1 := Fr.one (by decide)
  have z1 : Fr 1 1 := Fr.one (by decide)
  have hb := f.2.1
  obtain ⟨_, _, s0, _, _⟩ := nos M (Opd.r a b) (Opd.r a b) rfl
  have s1 := sub_ok M f f (Opd.r a b) (Opd.r a b) rfl
  obtain ⟨t0, _, _, _, _⟩ := nos M (Opd.r a b) (Opd.r (-a) b) rfl
  have t1 := add_ok M f f.neg (Opd.r a b) (Opd.r (-a) b) rfl
  obtain ⟨_, _, _, u0, _⟩ := nos M (Opd.r a b) (Opd.n 0 1 rfl) rfl
  have u1 := mul_ok M f z0 (Opd.r a b) (Opd.n 0 1 rfl) rfl
  obtain ⟨_, _, _, v0, _⟩ := nos M (Opd.n 0 1 rfl) (Opd.r a b) rfl
  have v1 := mul_ok M z0 f (Opd.n 0 1 rfl) (Opd.r a b) rfl
  obtain ⟨_, _, _, w0, _⟩ := nos M (Opd.r a b) (Opd.n 1 1 rfl) rfl
  have w1 := mul_ok M f z1 (Opd.r a b) (Opd.n 1 1 rfl) rfl
  rw [Int.sub_self, mk_zero (Nat.mul_pos hb hb)] at s1
  rw [Int.neg_mul, Int.add_right_neg, mk_zero (Nat.mul_pos hb hb)] at t1
  rw [Int.mul_zero, mk_zero (Nat.mul_pos hb (by decide))] at u1
  rw [Int.zero_mul, mk_zero (Nat.mul_pos (by decide) hb)] at v1
  rw [Int.mul_one, Nat.mul_one, mk_cop f] at w1
  have rep : ∀ (p : D) (M : Stor), dMul (.lst [p]) (.int 4) M = .ok (.lst [p, p, p, p]) M := fun p M => rfl
  have cat : ∀ (p q : D) (M : Stor), dAdd (.lst [p, p, p, p]) (.lst [q]) M = .ok (.lst [p, p, p, p, q]) M := fun p q M => rfl
  simp only [f__law_alone_right, b__law_alone_right, gFn, gSeq, gSkip, gRet, gRetN, gExpr, gSet, gIf, gAug, gAsg, gPar2, gPar3, gVar, gC, gBin, gUn, gTr, gAnd, gOr, gNot, gAndV, gOrV, gNotV, gIfE, gCall, G.gCons, G.gNil, G.gTup, gLst, gLstM, gSl, goSome, goNone, R.bind_ok, R.bind_ex, R.bind_no, R.bindS_ok, R.bindS_ex, R.bindS_no, outS_nx, outS_rt, outS_ex, orR_ok, orR_ex, orR_no, ggName, ggSub, List.getElem?_cons_zero, List.getElem?_cons_succ, List.set_cons_zero, List.set_cons_succ, List.map_cons, List.map_nil, List.length_cons, List.length_nil, List.replicate, List.append_nil, List.nil_append, List.cons_append, Nat.reduceAdd, Nat.reduceSub, Nat.reduceLeDiff, Nat.reduceLT, if_true, if_false, Bool.false_eq_true, Bool.true_eq_false, Bool.not_true, Bool.not_false, decide_true, decide_false, decide_eq_true_eq, reduceIte, reduceCtorEq, eAdd, eAddI, eSub, eLt, eLe, eGt, eGe, eEq, eNe, eEqS, eNeS, eTru, eNeg, eAbs, eInt, eIntB, eLenL, eLenT, mk1, i0, i1, Int.zero_sub, neg_o, abs_o, n1, n2, n3, n4, rep, cat]
  simp only [fr, du, List.map_cons, List.map_nil] at ar ar2
  simp only [gFn, gSeq, gSkip, gRet, gRetN, gExpr, gSet, gIf, gAug, gAsg, gPar2, gPar3, gVar, gC, gBin, gUn, gTr, gAnd, gOr, gNot, gAndV, gOrV, gNotV, gIfE, gCall, G.gCons, G.gNil, G.gTup, gLst, gLstM, gSl, goSome, goNone, R.bind_ok, R.bind_ex, R.bind_no, R.bindS_ok, R.bindS_ex, R.bindS_no, outS_nx, outS_rt, outS_ex, orR_ok, orR_ex, orR_no, ggName, ggSub, List.getElem?_cons_zero, List.getElem?_cons_succ, List.set_cons_zero, List.set_cons_succ, List.map_cons, List.map_nil, List.length_cons, List.length_nil, List.replicate, List.append_nil, List.nil_append, List.cons_append, Nat.reduceAdd, Nat.reduceSub, Nat.reduceLeDiff, Nat.reduceLT, if_true, if_false, Bool.false_eq_true, Bool.true_eq_false, Bool.not_true, Bool.not_false, decide_true, decide_false, decide_eq_true_eq, reduceIte, reduceCtorEq, eAdd, eAddI, eSub, eLt, eLe, eGt, eGe, eEq, eNe, eEqS, eNeS, eTru, eNeg, eAbs, eInt, eIntB, eLenL, eLenT, neg_o, n1, rep, cat, ar, s0, s1, t0, t1, u0, u1, v0, v1, w0, w1, ar2]
end K02

namespace K02
open PySem L2 G
theorem pen_ok (zs : List Int) (h : zs.length ≤ 63) : ∃ M k, f__law_pen [.lck (zs.map D.int)] [] = .ok (.ref k) M ∧ Pen M k zs 0 := by
  have c : cutD (zs.map D.int) none (some 63) = zs.map D.int := by
    have z := HT.sIx_nat (zs.map D.int).length (zs.map D.int).length 63
    unfold cutD
    rw [HT.sIx_none, show ((63 : Int)) = ((63 : Nat) : Int) from rfl, z]
    simp only [List.drop_zero, List.length_map]
    rw [List.take_of_length_le]
    rw [List.length_map]; omega
  refine ⟨[.lst [.lst (zs.map D.int), .int 0, .int 0]], 0, ?_, ⟨0, rfl⟩⟩
  have sl : dSl (.lck (zs.map D.int)) none (some 63) [] = .ok (.lst (zs.map D.int)) [] := by
    show R.ok (D.lst (cutD (zs.map D.int) none (some 63))) [] = _
    rw [c]
  have li : fList [.lst (zs.map D.int)] [] = .ok (.lst (zs.map D.int)) [] := rfl
  simp only [f__law_pen, b__law_pen, gFn, gSeq, gSkip, gRet, gRetN, gExpr, gSet, gIf, gAug, gAsg, gPar2, gPar3, gVar, gC, gBin, gUn, gTr, gAnd, gOr, gNot, gAndV, gOrV, gNotV, gIfE, gCall, G.gCons, G.gNil, G.gTup, gLst, gLstM, gSl, goSome, goNone, R.bind_ok, R.bind_ex, R.bind_no, R.bindS_ok, R.bindS_ex, R.bindS_no, outS_nx, outS_rt, outS_ex, orR_ok, orR_ex, orR_no, ggName, ggSub, List.getElem?_cons_zero, List.getElem?_cons_succ, List.set_cons_zero, List.set_cons_succ, List.map_cons, List.map_nil, List.length_cons, List.length_nil, List.replicate, List.append_nil, List.nil_append, List.cons_append, Nat.reduceAdd, Nat.reduceSub, Nat.reduceLeDiff, Nat.reduceLT, if_true, if_false, Bool.false_eq_true, Bool.true_eq_false, Bool.not_true, Bool.not_false, decide_true, decide_false, decide_eq_true_eq, reduceIte, reduceCtorEq, eAdd, eAddI, eSub, eLt, eLe, eGt, eGe, eEq, eNe, eEqS, eNeS, eTru, eNeg, eAbs, eInt, eIntB, eLenL, eLenT, sl, li]
theorem pick_ok {M : Stor} {k : Nat} {zs : List Int} {at_ : Nat} {l : List D} (h : Pen M k zs at_) (ha : at_ ≤ 100000) (h0 : 0 < l.length) (h1 : l.length < 1000) :
    ∃ d at' M', f__law_pick [.ref k, .lst l] M = .ok d M' ∧ d ∈ l ∧ at' ≤ at_ + 1 ∧ Pen M' k zs at' := by
  obtain ⟨r, at', M', e, r0, r1, hat, hp, -⟩ := draw_ok (many := l.length) h ha (by omega) (by omega)
  have hr : r.toNat < l.length := by omega
  have g : L2.atI l r = some l[r.toNat] := by
    have q := at_nat (l := l) (i := r.toNat) (List.getElem?_eq_getElem hr)
    rwa [Int.toNat_of_nonneg r0] at q
  refine ⟨l[r.toNat], at', M', ?_, List.getElem_mem hr, hat, hp⟩
  simp only [f__law_pick, b__law_pick, gFn, gSeq, gSkip, gRet, gRetN, gExpr, gSet, gIf, gAug, gAsg, gPar2, gPar3, gVar, gC, gBin, gUn, gTr, gAnd, gOr, gNot, gAndV, gOrV, gNotV, gIfE, gCall, G.gCons, G.gNil, G.gTup, gLst, gLstM, gSl, goSome, goNone, R.bind_ok, R.bind_ex, R.bind_no, R.bindS_ok, R.bindS_ex, R.bindS_no, outS_nx, outS_rt, outS_ex, orR_ok, orR_ex, orR_no, ggName, ggSub, List.getElem?_cons_zero, List.getElem?_cons_succ, List.set_cons_zero, List.set_cons_succ, List.map_cons, List.map_nil, List.length_cons, List.length_nil, List.replicate, List.append_nil, List.nil_append, List.cons_append, Nat.reduceAdd, Nat.reduceSub, Nat.reduceLeDiff, Nat.reduceLT, if_true, if_false, Bool.false_eq_true, Bool.true_eq_false, Bool.not_true, Bool.not_false, decide_true, decide_false, decide_eq_true_eq, reduceIte, reduceCtorEq, eAdd, eAddI, eSub, eLt, eLe, eGt, eGe, eEq, eNe, eEqS, eNeS, eTru, eNeg, eAbs, eInt, eIntB, eLenL, eLenT, e, ix_lst, g]
abbrev topsD (r : Int) : List D := [.int 0, .int 1, .int 1, .int 2, .int 3, .int 5, .int 7, .int 12, .int 30, .int 1000000007, .int 100000000000000000000000000000, .int r]
abbrev botsD (r : Int) : List D := [.int 1, .int 1, .int 1, .int 2, .int 2, .int 3, .int 4, .int 6, .int 12, .int 1000000007, .int 100000000000000000000000000000, .int (1 + r)]
theorem tops_in {r : Int} (h0 : 0 ≤ r) (h1 : r < 100) {d : D} (h : d ∈ topsD r) : ∃ z : Int, d = .int z ∧ z.natAbs < 2 ^ 100 := by
  simp only [List.mem_cons, List.not_mem_nil, or_false] at h
  rcases h with rfl | rfl | rfl | rfl | rfl | rfl | rfl | rfl | rfl | rfl | rfl | rfl
  iterate 11 exact ⟨_, rfl, by decide⟩
  exact ⟨_, rfl, Nat.lt_trans (by omega : r.natAbs < 100) (by decide)⟩
theorem bots_in {r : Int} (h0 : 0 ≤ r) (h1 : r < 100) {d : D} (h : d ∈ botsD r) : ∃ z : Nat, d = .int z ∧ 0 < z ∧ z < 2 ^ 100 := by
  simp only [List.mem_cons, List.not_mem_nil, or_false] at h
  rcases h with rfl | rfl | rfl | rfl | rfl | rfl | rfl | rfl | rfl | rfl | rfl | rfl
  · exact ⟨1, rfl, by decide, by decide⟩
  · exact ⟨1, rfl, by decide, by decide⟩
  · exact ⟨1, rfl, by decide, by decide⟩
  · exact ⟨2, rfl, by decide, by decide⟩
  · exact ⟨2, rfl, by decide, by decide⟩
  · exact ⟨3, rfl, by decide, by decide⟩
  · exact ⟨4, rfl, by decide, by decide⟩
  · exact ⟨6, rfl, by decide, by decide⟩
  · exact ⟨12, rfl, by decide, by decide⟩
  · exact ⟨1000000007, rfl, by decide, by decide⟩
  · exact ⟨100000000000000000000000000000, rfl, by decide, by decide⟩
  · exact ⟨(1 + r).toNat, by rw [Int.toNat_of_nonneg (by omega)], by omega, Nat.lt_trans (by omega : (1 + r).toNat < 102) (by decide)⟩
theorem fraction_ok {M : Stor} {k : Nat} {zs : List Int} {at_ : Nat} (h : Pen M k zs at_) (ha : at_ ≤ 90000) :
    ∃ (a : Int) (b : Nat) (at' : Nat) (M' : Stor), f__law_fraction [.ref k] M = .ok (pairD a b) M' ∧ Fr a b ∧ at' ≤ at_ + 5 ∧ Pen M' k zs at' := by
  obtain ⟨r1, t1, M1, e1, r10, r11, h1, p1, -⟩ := draw_ok (many := 100) h (by omega) (by decide) (by decide)
  obtain ⟨r2, t2, M2, e2, r20, r21, h2, p2, -⟩ := draw_ok (many := 100) p1 (by omega) (by decide) (by decide)
  obtain ⟨r3, t3, M3, e3, r30, r31, h3, p3, -⟩ := draw_ok (many := 3) p2 (by omega) (by decide) (by decide)
  obtain ⟨d4, t4, M4, e4, m4, h4, p4⟩ := pick_ok (l := topsD r1) p3 (by omega) (by show 0 < 12; decide) (by show 12 < 1000; decide)
  obtain ⟨d5, t5, M5, e5, m5, h5, p5⟩ := pick_ok (l := botsD r2) p4 (by omega) (by show 0 < 12; decide) (by show 12 < 1000; decide)
  obtain ⟨u, rfl, hu⟩ := tops_in r10 r11 m4
  obtain ⟨v, rfl, v0, v1⟩ := bots_in r20 r21 m5
  have hs : ∃ s : Int, (1 - 2 * (if r3 = 0 then 1 else 0) : Int) = s ∧ s.natAbs = 1 := by
    by_cases z : r3 = 0
    · exact ⟨-1, by simp [z], rfl⟩
    · exact ⟨1, by simp [z], rfl⟩
  obtain ⟨s, es, hs⟩ := hs
  have lw := low_ok (s * u) v M5 v0 (Nat.lt_trans (big_of v1) (Nat.pow_lt_pow_right (by decide) (by decide)))
  obtain ⟨a, b, e, b0, bl, al, gc⟩ := lowP_ok (s * u) v0
  rw [e] at lw
  have hn : (s * u).natAbs = u.natAbs := by rw [Int.natAbs_mul, hs, Nat.one_mul]
  refine ⟨a, b, t5, M5, ?_, ⟨by omega, b0, by omega, gc⟩, by omega, p5⟩
  have q1 : powOk 10 9 = true := by decide
  have q2 : powOk 10 29 = true := by decide
  have q3 : (10 : Int) ^ (9 : Int).toNat = 1000000000 := by decide
  have q4 : (10 : Int) ^ (29 : Int).toNat = 100000000000000000000000000000 := by decide
  have q5 : (1000000000 : Int) + 7 = 1000000007 := by decide
  have m1 : ∀ z : Int, mulOk 2 z = true := fun z => mulOk_left (by decide)
  have m2 : mulOk s u = true := mulOk_left (by omega)
  refine fn_rt rfl ?_
  show b__law_fraction [some (.ref k), none, none, none] M = _
  unfold b__law_fraction
  rw [seq_nx (Γ1 := [some (.ref k), some (.lst (topsD r1)), none, none]) (M1 := M1) (by
    simp only [gFn, gSeq, gSkip, gRet, gRetN, gExpr, gSet, gIf, gAug, gAsg, gPar2, gPar3, gVar, gC, gBin, gUn, gTr, gAnd, gOr, gNot, gAndV, gOrV, gNotV, gIfE, gCall, G.gCons, G.gNil, G.gTup, gLst, gLstM, gSl, goSome, goNone, R.bind_ok, R.bind_ex, R.bind_no, R.bindS_ok, R.bindS_ex, R.bindS_no, outS_nx, outS_rt, outS_ex, orR_ok, orR_ex, orR_no, ggName, ggSub, List.getElem?_cons_zero, List.getElem?_cons_succ, List.set_cons_zero, List.set_cons_succ, List.map_cons, List.map_nil, List.length_cons, List.length_nil, List.replicate, List.append_nil, List.nil_append, List.cons_append, Nat.reduceAdd, Nat.reduceSub, Nat.reduceLeDiff, Nat.reduceLT, if_true, if_false, Bool.false_eq_true, Bool.true_eq_false, Bool.not_true, Bool.not_false, decide_true, decide_false, decide_eq_true_eq, reduceIte, reduceCtorEq, eAdd, eAddI, eSub, eLt, eLe, eGt, eGe, eEq, eNe, eEqS, eNeS, eTru, eNeg, eAbs, eInt, eIntB, eLenL, eLenT, ePow q1, ePow q2, q3, q4, q5, e1])]
  rw [seq_nx (Γ1 := [some (.ref k), some (.lst (topsD r1)), some (.lst (botsD r2)), none]) (M1 := M2) (by
    simp only [gFn, gSeq, gSkip, gRet, gRetN, gExpr, gSet, gIf, gAug, gAsg, gPar2, gPar3, gVar, gC, gBin, gUn, gTr, gAnd, gOr, gNot, gAndV, gOrV, gNotV, gIfE, gCall, G.gCons, G.gNil, G.gTup, gLst, gLstM, gSl, goSome, goNone, R.bind_ok, R.bind_ex, R.bind_no, R.bindS_ok, R.bindS_ex, R.bindS_no, outS_nx, outS_rt, outS_ex, orR_ok, orR_ex, orR_no, ggName, ggSub, List.getElem?_cons_zero, List.getElem?_cons_succ, List.set_cons_zero, List.set_cons_succ, List.map_cons, List.map_nil, List.length_cons, List.length_nil, List.replicate, List.append_nil, List.nil_append, List.cons_append, Nat.reduceAdd, Nat.reduceSub, Nat.reduceLeDiff, Nat.reduceLT, if_true, if_false, Bool.false_eq_true, Bool.true_eq_false, Bool.not_true, Bool.not_false, decide_true, decide_false, decide_eq_true_eq, reduceIte, reduceCtorEq, eAdd, eAddI, eSub, eLt, eLe, eGt, eGe, eEq, eNe, eEqS, eNeS, eTru, eNeg, eAbs, eInt, eIntB, eLenL, eLenT, ePow q1, ePow q2, q3, q4, q5, e2])]
  rw [seq_nx (Γ1 := [some (.ref k), some (.lst (topsD r1)), some (.lst (botsD r2)), some (.int s)]) (M1 := M3) (by
    simp only [gFn, gSeq, gSkip, gRet, gRetN, gExpr, gSet, gIf, gAug, gAsg, gPar2, gPar3, gVar, gC, gBin, gUn, gTr, gAnd, gOr, gNot, gAndV, gOrV, gNotV, gIfE, gCall, G.gCons, G.gNil, G.gTup, gLst, gLstM, gSl, goSome, goNone, R.bind_ok, R.bind_ex, R.bind_no, R.bindS_ok, R.bindS_ex, R.bindS_no, outS_nx, outS_rt, outS_ex, orR_ok, orR_ex, orR_no, ggName, ggSub, List.getElem?_cons_zero, List.getElem?_cons_succ, List.set_cons_zero, List.set_cons_succ, List.map_cons, List.map_nil, List.length_cons, List.length_nil, List.replicate, List.append_nil, List.nil_append, List.cons_append, Nat.reduceAdd, Nat.reduceSub, Nat.reduceLeDiff, Nat.reduceLT, if_true, if_false, Bool.false_eq_true, Bool.true_eq_false, Bool.not_true, Bool.not_false, decide_true, decide_false, decide_eq_true_eq, reduceIte, reduceCtorEq, eAdd, eAddI, eSub, eLt, eLe, eGt, eGe, eEq, eNe, eEqS, eNeS, eTru, eNeg, eAbs, eInt, eIntB, eLenL, eLenT, e3, eMul (m1 _)]
    rw [← es])]
  simp only [gFn, gSeq, gSkip, gRet, gRetN, gExpr, gSet, gIf, gAug, gAsg, gPar2, gPar3, gVar, gC, gBin, gUn, gTr, gAnd, gOr, gNot, gAndV, gOrV, gNotV, gIfE, gCall, G.gCons, G.gNil, G.gTup, gLst, gLstM, gSl, goSome, goNone, R.bind_ok, R.bind_ex, R.bind_no, R.bindS_ok, R.bindS_ex, R.bindS_no, outS_nx, outS_rt, outS_ex, orR_ok, orR_ex, orR_no, ggName, ggSub, List.getElem?_cons_zero, List.getElem?_cons_succ, List.set_cons_zero, List.set_cons_succ, List.map_cons, List.map_nil, List.length_cons, List.length_nil, List.replicate, List.append_nil, List.nil_append, List.cons_append, Nat.reduceAdd, Nat.reduceSub, Nat.reduceLeDiff, Nat.reduceLT, if_true, if_false, Bool.false_eq_true, Bool.true_eq_false, Bool.not_true, Bool.not_false, decide_true, decide_false, decide_eq_true_eq, reduceIte, reduceCtorEq, eAdd, eAddI, eSub, eLt, eLe, eGt, eGe, eEq, eNe, eEqS, eNeS, eTru, eNeg, eAbs, eInt, eIntB, eLenL, eLenT, e4, e5, eMul m2, lw]
theorem loop_ok {k : Nat} {zs : List Int} {s0 : D} {tt : GE'} : ∀ (l : List D) (M : Stor) (at_ : Nat) (x2 x3 x4 x5 : Option D), Pen M k zs at_ → at_ + 11 * l.length ≤ 80000 →
    ∃ Γ' M', loopG anyS (ggName 2) (gSeq (gPar2 3 4 (G.gCons (gCall f__law_fraction (G.gCons (gVar 1) G.gNil)) (G.gCons (gCall f__law_fraction (G.gCons (gVar 1) G.gNil)) G.gNil)))
    (gSeq (gSet 5 (gCall f__law_draw (G.gCons (gVar 1) (G.gCons (gC (.int 6)) G.gNil))))
    (gSeq (gIf (gTr truD (gBin dEq (gVar 5) (gC (.int 0)))) (gSet 4 (gVar 3)) gSkip)
    (gSeq (gIf (gTr truD (gBin dEq (gVar 5) (gC (.int 1)))) (gSet 4 (G.gTup (G.gCons (gBin dSubI (gC (.int 0)) (gBin dIx (gVar 3) (gC (.int 0)))) (G.gCons (gBin dIx (gVar 3) (gC (.int 1))) G.gNil)))) gSkip)
    (gSeq (gIf (gTr truD (gBin dGtI (gVar 5) (gC (.int 3)))) (gSet 4 (G.gTup (G.gCons (gBin dIx (gVar 4) (gC (.int 0))) (G.gCons (gC (.int 1)) G.gNil)))) gSkip)
    (gSeq (gIf (gOr (gNot (gTr truD (gCall f__law_pair_right (G.gCons (gVar 3) (G.gCons (gVar 4) G.gNil))))) (gNot (gTr truD (gCall f__law_pair_right (G.gCons (gVar 4) (G.gCons (gVar 3) G.gNil)))))) (gRet (gC (.bl false))) gSkip)
    (gIf (gNot (gTr truD (gCall f__law_alone_right (G.gCons (gVar 3) G.gNil)))) (gRet (gC (.bl false))) gSkip))))))) l [some s0, some (.ref k), x2, x3, x4, x5] M = .nx Γ' M'
  | [], M, at_, x2, x3, x4, x5, h, hl => ⟨_, _, loop_nil⟩
  | d :: ds, M, at_, x2, x3, x4, x5, h, hl => by
    simp only [List.length_cons] at hl
    obtain ⟨a, b, t1, M1, e1, f1, h1, p1⟩ := fraction_ok h (by omega)
    obtain ⟨c, e, t2, M2, e2, f2, h2, p2⟩ := fraction_ok p1 (by omega)
    obtain ⟨w, t3, M3, e3, w0, w1, h3, p3, -⟩ := draw_ok (many := 6) p2 (by omega) (by decide) (by decide)
    unfold loopG
    simp only [ggName, List.set_cons_succ, List.set_cons_zero]
    rw [seq_nx (Γ1 := [some s0, some (.ref k), some d, some (pairD a b), some (pairD c e), x5]) (M1 := M2) (by
      simp only [gFn, gSeq, gSkip, gRet, gRetN, gExpr, gSet, gIf, gAug, gAsg, gPar2, gPar3, gVar, gC, gBin, gUn, gTr, gAnd, gOr, gNot, gAndV, gOrV, gNotV, gIfE, gCall, G.gCons, G.gNil, G.gTup, gLst, gLstM, gSl, goSome, goNone, R.bind_ok, R.bind_ex, R.bind_no, R.bindS_ok, R.bindS_ex, R.bindS_no, outS_nx, outS_rt, outS_ex, orR_ok, orR_ex, orR_no, ggName, ggSub, List.getElem?_cons_zero, List.getElem?_cons_succ, List.set_cons_zero, List.set_cons_succ, List.map_cons, List.map_nil, List.length_cons, List.length_nil, List.replicate, List.append_nil, List.nil_append, List.cons_append, Nat.reduceAdd, Nat.reduceSub, Nat.reduceLeDiff, Nat.reduceLT, if_true, if_false, Bool.false_eq_true, Bool.true_eq_false, Bool.not_true, Bool.not_false, decide_true, decide_false, decide_eq_true_eq, reduceIte, reduceCtorEq, eAdd, eAddI, eSub, eLt, eLe, eGt, eGe, eEq, eNe, eEqS, eNeS, eTru, eNeg, eAbs, eInt, eIntB, eLenL, eLenT, e1, e2])]
    rw [seq_nx (Γ1 := [some s0, some (.ref k), some d, some (pairD a b), some (pairD c e), some (.int w)]) (M1 := M3) (by
      simp only [gFn, gSeq, gSkip, gRet, gRetN, gExpr, gSet, gIf, gAug, gAsg, gPar2, gPar3, gVar, gC, gBin, gUn, gTr, gAnd, gOr, gNot, gAndV, gOrV, gNotV, gIfE, gCall, G.gCons, G.gNil, G.gTup, gLst, gLstM, gSl, goSome, goNone, R.bind_ok, R.bind_ex, R.bind_no, R.bindS_ok, R.bindS_ex, R.bindS_no, outS_nx, outS_rt, outS_ex, orR_ok, orR_ex, orR_no, ggName, ggSub, List.getElem?_cons_zero, List.getElem?_cons_succ, List.set_cons_zero, List.set_cons_succ, List.map_cons, List.map_nil, List.length_cons, List.length_nil, List.replicate, List.append_nil, List.nil_append, List.cons_append, Nat.reduceAdd, Nat.reduceSub, Nat.reduceLeDiff, Nat.reduceLT, if_true, if_false, Bool.false_eq_true, Bool.true_eq_false, Bool.not_true, Bool.not_false, decide_true, decide_false, decide_eq_true_eq, reduceIte, reduceCtorEq, eAdd, eAddI, eSub, eLt, eLe, eGt, eGe, eEq, eNe, eEqS, eNeS, eTru, eNeg, eAbs, eInt, eIntB, eLenL, eLenT, e3])]
    have key : ∃ (c' : Int) (e' : Nat), Fr c' e' ∧ ∀ rest : GS', gSeq (gIf (gTr truD (gBin dEq (gVar 5) (gC (.int 0)))) (gSet 4 (gVar 3)) gSkip)
        (gSeq (gIf (gTr truD (gBin dEq (gVar 5) (gC (.int 1)))) (gSet 4 (G.gTup (G.gCons (gBin dSubI (gC (.int 0)) (gBin dIx (gVar 3) (gC (.int 0)))) (G.gCons (gBin dIx (gVar 3) (gC (.int 1))) G.gNil)))) gSkip)
        (gSeq (gIf (gTr truD (gBin dGtI (gVar 5) (gC (.int 3)))) (gSet 4 (G.gTup (G.gCons (gBin dIx (gVar 4) (gC (.int 0))) (G.gCons (gC (.int 1)) G.gNil)))) gSkip) rest)) [some s0, some (.ref k), some d, some (pairD a b), some (pairD c e), some (.int w)] M3
        = rest [some s0, some (.ref k), some d, some (pairD a b), some (pairD c' e'), some (.int w)] M3 := by
      by_cases z0 : w = 0
      · refine ⟨a, b, f1, fun rest => ?_⟩
        subst z0
        simp only [gFn, gSeq, gSkip, gRet, gRetN, gExpr, gSet, gIf, gAug, gAsg, gPar2, gPar3, gVar, gC, gBin, gUn, gTr, gAnd, gOr, gNot, gAndV, gOrV, gNotV, gIfE, gCall, G.gCons, G.gNil, G.gTup, gLst, gLstM, gSl, goSome, goNone, R.bind_ok, R.bind_ex, R.bind_no, R.bindS_ok, R.bindS_ex, R.bindS_no, outS_nx, outS_rt, outS_ex, orR_ok, orR_ex, orR_no, ggName, ggSub, List.getElem?_cons_zero, List.getElem?_cons_succ, List.set_cons_zero, List.set_cons_succ, List.map_cons, List.map_nil, List.length_cons, List.length_nil, List.replicate, List.append_nil, List.nil_append, List.cons_append, Nat.reduceAdd, Nat.reduceSub, Nat.reduceLeDiff, Nat.reduceLT, if_true, if_false, Bool.false_eq_true, Bool.true_eq_false, Bool.not_true, Bool.not_false, decide_true, decide_false, decide_eq_true_eq, reduceIte, reduceCtorEq, eAdd, eAddI, eSub, eLt, eLe, eGt, eGe, eEq, eNe, eEqS, eNeS, eTru, eNeg, eAbs, eInt, eIntB, eLenL, eLenT, show decide ((0 : Int) = 0) = true from rfl, show decide ((0 : Int) = 1) = false from rfl, show decide ((3 : Int) < 0) = false from rfl]
      · by_cases z1 : w = 1
        · refine ⟨-a, b, f1.neg, fun rest => ?_⟩
          subst z1
          simp only [gFn, gSeq, gSkip, gRet, gRetN, gExpr, gSet, gIf, gAug, gAsg, gPar2, gPar3, gVar, gC, gBin, gUn, gTr, gAnd, gOr, gNot, gAndV, gOrV, gNotV, gIfE, gCall, G.gCons, G.gNil, G.gTup, gLst, gLstM, gSl, goSome, goNone, R.bind_ok, R.bind_ex, R.bind_no, R.bindS_ok, R.bindS_ex, R.bindS_no, outS_nx, outS_rt, outS_ex, orR_ok, orR_ex, orR_no, ggName, ggSub, List.getElem?_cons_zero, List.getElem?_cons_succ, List.set_cons_zero, List.set_cons_succ, List.map_cons, List.map_nil, List.length_cons, List.length_nil, List.replicate, List.append_nil, List.nil_append, List.cons_append, Nat.reduceAdd, Nat.reduceSub, Nat.reduceLeDiff, Nat.reduceLT, if_true, if_false, Bool.false_eq_true, Bool.true_eq_false, Bool.not_true, Bool.not_false, decide_true, decide_false, decide_eq_true_eq, reduceIte, reduceCtorEq, eAdd, eAddI, eSub, eLt, eLe, eGt, eGe, eEq, eNe, eEqS, eNeS, eTru, eNeg, eAbs, eInt, eIntB, eLenL, eLenT, show decide ((1 : Int) = 0) = false from rfl, show decide ((1 : Int) = 1) = true from rfl, show decide ((3 : Int) < 1) = false from rfl, i0, i1, Int.zero_sub]
        · by_cases z2 : 3 < w
          · refine ⟨c, 1, Fr.one f2.1, fun rest => ?_⟩
            simp only [gFn, gSeq, gSkip, gRet, gRetN, gExpr, gSet, gIf, gAug, gAsg, gPar2, gPar3, gVar, gC, gBin, gUn, gTr, gAnd, gOr, gNot, gAndV, gOrV, gNotV, gIfE, gCall, G.gCons, G.gNil, G.gTup, gLst, gLstM, gSl, goSome, goNone, R.bind_ok, R.bind_ex, R.bind_no, R.bindS_ok, R.bindS_ex, R.bindS_no, outS_nx, outS_rt, outS_ex, orR_ok, orR_ex, orR_no, ggName, ggSub, List.getElem?_cons_zero, List.getElem?_cons_succ, List.set_cons_zero, List.set_cons_succ, List.map_cons, List.map_nil, List.length_cons, List.length_nil, List.replicate, List.append_nil, List.nil_append, List.cons_append, Nat.reduceAdd, Nat.reduceSub, Nat.reduceLeDiff, Nat.reduceLT, if_true, if_false, Bool.false_eq_true, Bool.true_eq_false, Bool.not_true, Bool.not_false, decide_true, decide_false, decide_eq_true_eq, reduceIte, reduceCtorEq, eAdd, eAddI, eSub, eLt, eLe, eGt, eGe, eEq, eNe, eEqS, eNeS, eTru, eNeg, eAbs, eInt, eIntB, eLenL, eLenT, z0, z1, z2, i0, i1]
            rfl
          · refine ⟨c, e, f2, fun rest => ?_⟩
            simp only [gFn, gSeq, gSkip, gRet, gRetN, gExpr, gSet, gIf, gAug, gAsg, gPar2, gPar3, gVar, gC, gBin, gUn, gTr, gAnd, gOr, gNot, gAndV, gOrV, gNotV, gIfE, gCall, G.gCons, G.gNil, G.gTup, gLst, gLstM, gSl, goSome, goNone, R.bind_ok, R.bind_ex, R.bind_no, R.bindS_ok, R.bindS_ex, R.bindS_no, outS_nx, outS_rt, outS_ex, orR_ok, orR_ex, orR_no, ggName, ggSub, List.getElem?_cons_zero, List.getElem?_cons_succ, List.set_cons_zero, List.set_cons_succ, List.map_cons, List.map_nil, List.length_cons, List.length_nil, List.replicate, List.append_nil, List.nil_append, List.cons_append, Nat.reduceAdd, Nat.reduceSub, Nat.reduceLeDiff, Nat.reduceLT, if_true, if_false, Bool.false_eq_true, Bool.true_eq_false, Bool.not_true, Bool.not_false, decide_true, decide_false, decide_eq_true_eq, reduceIte, reduceCtorEq, eAdd, eAddI, eSub, eLt, eLe, eGt, eGe, eEq, eNe, eEqS, eNeS, eTru, eNeg, eAbs, eInt, eIntB, eLenL, eLenT, z0, z1, z2]
    obtain ⟨c', e', f3, k3⟩ := key
    rw [k3]
    have q1 := pair_right_ok f1 f3 M3
    have q2 := pair_right_ok f3 f1 M3
    have q3 := alone_right_ok f1 M3
    have q : ∀ Γ, Γ = [some s0, some (.ref k), some d, some (pairD a b), some (pairD c' e'), some (.int w)] → (gSeq (gIf (gOr (gNot (gTr truD (gCall f__law_pair_right (G.gCons (gVar 3) (G.gCons (gVar 4) G.gNil))))) (gNot (gTr truD (gCall f__law_pair_right (G.gCons (gVar 4) (G.gCons (gVar 3) G.gNil)))))) (gRet (gC (.bl false))) gSkip)
      (gIf (gNot (gTr truD (gCall f__law_alone_right (G.gCons (gVar 3) G.gNil)))) (gRet (gC (.bl false))) gSkip)) Γ M3 = .nx Γ M3 := by
      intro Γ e; subst e
      simp only [gFn, gSeq, gSkip, gRet, gRetN, gExpr, gSet, gIf, gAug, gAsg, gPar2, gPar3, gVar, gC, gBin, gUn, gTr, gAnd, gOr, gNot, gAndV, gOrV, gNotV, gIfE, gCall, G.gCons, G.gNil, G.gTup, gLst, gLstM, gSl, goSome, goNone, R.bind_ok, R.bind_ex, R.bind_no, R.bindS_ok, R.bindS_ex, R.bindS_no, outS_nx, outS_rt, outS_ex, orR_ok, orR_ex, orR_no, ggName, ggSub, List.getElem?_cons_zero, List.getElem?_cons_succ, List.set_cons_zero, List.set_cons_succ, List.map_cons, List.map_nil, List.length_cons, List.length_nil, List.replicate, List.append_nil, List.nil_append, List.cons_append, Nat.reduceAdd, Nat.reduceSub, Nat.reduceLeDiff, Nat.reduceLT, if_true, if_false, Bool.false_eq_true, Bool.true_eq_false, Bool.not_true, Bool.not_false, decide_true, decide_false, decide_eq_true_eq, reduceIte, reduceCtorEq, eAdd, eAddI, eSub, eLt, eLe, eGt, eGe, eEq, eNe, eEqS, eNeS, eTru, eNeg, eAbs, eInt, eIntB, eLenL, eLenT, q1, q2, q3]
    rw [q _ rfl]
    simp only [anyS, if_true]
    exact loop_ok (tt := tt) ds M3 t3 _ _ _ _ p3 (by omega)
theorem law_ok (zs : List Int) (hz : zs.length ≤ 63) : ∃ M, f_law [.lck (zs.map D.int)] [] = .ok (.bl true) M := by
  obtain ⟨M1, k, e1, p1⟩ := pen_ok zs hz
  obtain ⟨Γ', M', el⟩ := loop_ok (k := k) (zs := zs) (s0 := .lck (zs.map D.int)) (tt := gVar 0) (upFrom 0 8) M1 0 none none none none p1 (by show 0 + 11 * 8 ≤ 80000; decide)
  refine ⟨M', fn_rt rfl ?_⟩
  show b_law [some (.lck (zs.map D.int)), none, none, none, none, none] [] = _
  unfold b_law
  rw [seq_nx (Γ1 := [some (.lck (zs.map D.int)), some (.ref k), none, none, none, none]) (M1 := M1) (by simp only [gFn, gSeq, gSkip, gRet, gRetN, gExpr, gSet, gIf, gAug, gAsg, gPar2, gPar3, gVar, gC, gBin, gUn, gTr, gAnd, gOr, gNot, gAndV, gOrV, gNotV, gIfE, gCall, G.gCons, G.gNil, G.gTup, gLst, gLstM, gSl, goSome, goNone, R.bind_ok, R.bind_ex, R.bind_no, R.bindS_ok, R.bindS_ex, R.bindS_no, outS_nx, outS_rt, outS_ex, orR_ok, orR_ex, orR_no, ggName, ggSub, List.getElem?_cons_zero, List.getElem?_cons_succ, List.set_cons_zero, List.set_cons_succ, List.map_cons, List.map_nil, List.length_cons, List.length_nil, List.replicate, List.append_nil, List.nil_append, List.cons_append, Nat.reduceAdd, Nat.reduceSub, Nat.reduceLeDiff, Nat.reduceLT, if_true, if_false, Bool.false_eq_true, Bool.true_eq_false, Bool.not_true, Bool.not_false, decide_true, decide_false, decide_eq_true_eq, reduceIte, reduceCtorEq, eAdd, eAddI, eSub, eLt, eLe, eGt, eGe, eEq, eNe, eEqS, eNeS, eTru, eNeg, eAbs, eInt, eIntB, eLenL, eLenT, e1])]
  rw [seq_nx (Γ1 := Γ') (M1 := M') (by
    have r := range1_ok (a := G.gCons (gC (.int 8)) G.gNil) (Γ := [some (.lck (zs.map D.int)), some (.ref k), none, none, none, none]) (M := M1) (M1 := M1) (n := 8) rfl (by decide)
    unfold gFor
    rw [r]
    simp only [R.bindS_ok, anyS, if_true]
    exact el)]
  rfl
theorem holds : PySem.Challenge.rw_sixasone_k02_sums_and_products.Holds := whole law_ok
end K02

theorem PySem.Challenge.cw_sixasone_k02_sums_and_products_holds : PySem.Challenge.rw_sixasone_k02_sums_and_products.Holds := by
  exact K02.holds
