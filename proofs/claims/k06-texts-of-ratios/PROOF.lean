import PyProof.Rows.All
import Wide.All
import OpenK.AllK
import Wide.FinOn
import KE.KStateDown
import KE.KOpsOwn
import HandS.ForMost
import HandS.Exc
import HandS.WordsExc
import HandS.CallSlots
import HandS.Defaults
import HandS.Wide
import HandS.Lambda
import HandS.TupAny
import HandS.TupMul
import HandS.IsInst
import PyProof.ReprRoads
import HandS.RaiseMore
import HandS.Style
import HandS.HeadEnd
import HandS.Head2
import HandS.HeadHook1
import HandS.HeadHook2
import HandS.HeadNt
import HandS.ExcOwn
import HandS.ExcInit
import PyProof.ExcBaseAll.ValueError
import HandS.EndTab
import HandS.ExcIs
import HandS.Deep
import HandS.SetFor
import HandS.New0
import HandS.ExcValue
import HandS.ExcField
import HandS.MakeKw
import KE.KCallOwn
import KE.KFmtOwn
import HandS.Property
import HandS.FStr
import HandS.More
import HandS.Zip
import PyProof.RowDictHeap
import HandS.ClsMeth
import HandS.Text
import HandS.OwnEq
import HandS.NoneIn
import HandS.Codes
import KE.KIntText
import PySem.Challenge.RW_sixasone_k06_texts_of_ratios
set_option Elab.async false
set_option linter.all false
set_option maxRecDepth 100000
set_option maxHeartbeats 4000000
set_option exponentiation.threshold 100000
/-! G: a shallow layer over the hand layer. Every piece of Python gets a plain Lean function over data (D) and a store of changeable objects. -/
namespace G
open PySem PySem.Spec PyProof.Rows L2

abbrev Sg := L2.St
/-- data: what never changes is written out, what may change is a number into the store -/
inductive D where
  | non | bl (b : Bool) | int (i : Int) | str (x : Str) | ty (n : String)
  | tup (l : List D) | lst (l : List D) | lck (l : List D) | dct (ks : List Key) (l : List D)
  | ins (c : Nat) (l : List D)
  | ref (k : Nat)
  | cls (c : Nat)
  | exc (c : Nat) (own : Bool) (l : List D)
  | lam (f c : Addr) (q : Str) (vs : List V) (l : List D)
  deriving Inhabited
/-- a changeable object -/
inductive MO where
  | lst (l : List D)
  | ins (c : Nat) (l : List D)
  | dct (ks : List Key) (l : List D)
  | dead
  deriving Inhabited
abbrev Stor := List MO
abbrev Gam := List (Option D)
abbrev Flds := Option (List D)
inductive R (α : Type) where
  | ok (a : α) (M : Stor)
  | ex (c : Nat) (fs : Flds) (M : Stor)
  | no
inductive RS where
  | nx (g : Gam) (M : Stor)
  | rt (d : D) (M : Stor)
  | bk (g : Gam) (M : Stor)
  | ct (g : Gam) (M : Stor)
  | ex (c : Nat) (fs : Flds) (g : Gam) (M : Stor)
  | no
def R.bind {α β : Type} (r : R α) (k : α → Stor → R β) : R β :=
  match r with
  | .ok a M => k a M
  | .ex c fs M => .ex c fs M
  | .no => .no
@[simp] theorem R.bind_ok {α β : Type} (a : α) (M : Stor) (k : α → Stor → R β) : (R.ok a M).bind k = k a M := rfl
@[simp] theorem R.bind_ex {α β : Type} (c : Nat) (fs : Flds) (M : Stor) (k : α → Stor → R β) : (R.ex c fs M : R α).bind k = .ex c fs M := rfl
@[simp] theorem R.bind_no {α β : Type} (k : α → Stor → R β) : (R.no : R α).bind k = .no := rfl
/-- a statement made of an expression -/
def R.bindS {α : Type} (r : R α) (g : Gam) (k : α → Stor → RS) : RS :=
  match r with
  | .ok a M => k a M
  | .ex c fs M => .ex c fs g M
  | .no => .no
@[simp] theorem R.bindS_ok {α : Type} (a : α) (M : Stor) (g : Gam) (k : α → Stor → RS) : (R.ok a M).bindS g k = k a M := rfl
@[simp] theorem R.bindS_ex {α : Type} (c : Nat) (fs : Flds) (M : Stor) (g : Gam) (k : α → Stor → RS) : (R.ex c fs M : R α).bindS g k = .ex c fs g M := rfl
@[simp] theorem R.bindS_no {α : Type} (g : Gam) (k : α → Stor → RS) : (R.no : R α).bindS g k = .no := rfl

/-- where things stand: the written part, the classes by number, their fields -/
structure Wd where
  K : PySem.W.Frag
  T : Nat → Addr
  fn : Nat → List Str
  tb : List (Addr × Str)
/-- a caught error's object -/
def ExcO (a : Addr) (cls : Value) (d : Option Addr) : HO := .ext fun h => ∃ (o : Obj) (vs : Array Value), h.get? a = some o ∧ o.cls = cls ∧ o.dict = d ∧ o.data = .fields vs
/-- objects that stand aside, untouched -/
abbrev Xi := List (Addr × HO)

mutual
def Is (W : Wd) (F : Hp) (ρ : List Addr) : D → V → Prop
  | .non, v => v = .non
  | .bl b, v => v = .bl b
  | .int i, v => v = .int i
  | .str x, v => v = .str x
  | .ty n, v => v = .ty n
  | .tup l, v => ∃ a vs, v = .ref a ∧ SqT W.K F a vs ∧ IsL W F ρ l vs
  | .lst l, v => ∃ a vs, v = .ref a ∧ F a = some (.lst vs) ∧ IsL W F ρ l vs
  | .lck l, v => ∃ a vs, v = .ref a ∧ SqL W.K F a vs ∧ IsL W F ρ l vs
  | .dct ks l, v => ∃ a vs, v = .ref a ∧ F a = some (.dK (ks.zip vs)) ∧ ks.length = l.length ∧ IsL W F ρ l vs
  | .ins c l, v => ∃ a dx fvs, v = .ref a ∧ F a = some (.ins (W.T c) dx fvs) ∧ fvs.map (·.1) = (W.fn c).take l.length ∧ IsL W F ρ l (fvs.map (·.2))
  | .cls c, v => v = .ref (W.T c)
  | .ref k, v => ∃ a, v = .ref a ∧ ρ[k]? = some a
  | .exc c own l, v => ∃ a d, v = .ref a ∧ F a = some (ExcO a (.ref (W.T c)) d) ∧ (own = false → d = none ∧ l = []) ∧ (own = true → ∃ x fvs, d = some x ∧ F x = some (.xd fvs) ∧ fvs.map (·.1) = (W.fn c).take l.length ∧ IsL W F ρ l (fvs.map (·.2)))
  | .lam f c q us l, v => v = .ref f ∧ F c = some (LamX.CodeO c q) ∧ IsL W F ρ l us
def IsL (W : Wd) (F : Hp) (ρ : List Addr) : List D → List V → Prop
  | [], vs => vs = []
  | d :: ds, vs => ∃ v r, vs = v :: r ∧ Is W F ρ d v ∧ IsL W F ρ ds r
end

def Le (F F' : Hp) : Prop := ∀ a o, F a = some o → F' a = some o
theorem Le.rfl' {F : Hp} : Le F F := fun _ _ h => h
theorem Le.tr {F F1 F2 : Hp} (a : Le F F1) (b : Le F1 F2) : Le F F2 := fun x o h => b x o (a x o h)
theorem Le.new {F : Hp} {p : Addr} {o : HO} (h : F p = none) : Le F (upd F p o) := fun a u e => by
  rw [upd_ne (ne_of_none e h)]; exact e
theorem Le.sqT {K : PySem.W.Frag} {F F' : Hp} {a : Addr} {xs : List V} (e : Le F F') (h : SqT K F a xs) : SqT K F' a xs := by
  rcases h with (h | ⟨o, h⟩) | h
  · exact .inl (.inl (e _ _ h))
  · exact .inl (.inr ⟨o, e _ _ h⟩)
  · exact .inr h
theorem Le.sqL {K : PySem.W.Frag} {F F' : Hp} {a : Addr} {xs : List V} (e : Le F F') (h : SqL K F a xs) : SqL K F' a xs := by
  rcases h with (h | ⟨o, h⟩) | h
  · exact .inl (.inl (e _ _ h))
  · exact .inl (.inr ⟨o, e _ _ h⟩)
  · exact .inr h

theorem pre_get {ρ ρ' : List Addr} (p : ρ <+: ρ') {k : Nat} {a : Addr} (h : ρ[k]? = some a) : ρ'[k]? = some a := by
  obtain ⟨t, rfl⟩ := p
  have hk : k < ρ.length := (List.getElem?_eq_some_iff.mp h).1
  rw [List.getElem?_append_left hk]; exact h

mutual
theorem Is.mono {W : Wd} {F F' : Hp} {ρ ρ' : List Addr} (e : Le F F') (p : ρ <+: ρ') : ∀ {d : D} {v : V}, Is W F ρ d v → Is W F' ρ' d v
  | .non, _, h => by simpa only [Is] using h
  | .bl _, _, h => by simpa only [Is] using h
  | .int _, _, h => by simpa only [Is] using h
  | .str _, _, h => by simpa only [Is] using h
  | .ty _, _, h => by simpa only [Is] using h
  | .tup l, _, h => by
    simp only [Is] at h ⊢
    obtain ⟨a, vs, e1, q, hl⟩ := h
    exact ⟨a, vs, e1, e.sqT q, IsL.mono e p hl⟩
  | .lst l, _, h => by
    simp only [Is] at h ⊢
    obtain ⟨a, vs, e1, q, hl⟩ := h
    exact ⟨a, vs, e1, e _ _ q, IsL.mono e p hl⟩
  | .lck l, _, h => by
    simp only [Is] at h ⊢
    obtain ⟨a, vs, e1, q, hl⟩ := h
    exact ⟨a, vs, e1, e.sqL q, IsL.mono e p hl⟩
  | .dct ks l, _, h => by
    simp only [Is] at h ⊢
    obtain ⟨a, vs, e1, q, n, hl⟩ := h
    exact ⟨a, vs, e1, e _ _ q, n, IsL.mono e p hl⟩
  | .cls _, _, h => by simpa only [Is] using h
  | .ins c l, _, h => by
    simp only [Is] at h ⊢
    obtain ⟨a, dx, fvs, e1, q, n, hl⟩ := h
    exact ⟨a, dx, fvs, e1, e _ _ q, n, IsL.mono e p hl⟩
  | .ref k, _, h => by
    simp only [Is] at h ⊢
    obtain ⟨a, e1, q⟩ := h
    exact ⟨a, e1, pre_get p q⟩
  | .exc c own l, _, h => by
    simp only [Is] at h ⊢
    obtain ⟨a, d, e1, q, n0, n1⟩ := h
    refine ⟨a, d, e1, e _ _ q, n0, fun z => ?_⟩
    obtain ⟨x, fvs, ex, fx, n, hl⟩ := n1 z
    exact ⟨x, fvs, ex, e _ _ fx, n, IsL.mono e p hl⟩
  | .lam f c q us l, _, h => by
    simp only [Is] at h ⊢
    exact ⟨h.1, e _ _ h.2.1, IsL.mono e p h.2.2⟩
theorem IsL.mono {W : Wd} {F F' : Hp} {ρ ρ' : List Addr} (e : Le F F') (p : ρ <+: ρ') : ∀ {ds : List D} {vs : List V}, IsL W F ρ ds vs → IsL W F' ρ' ds vs
  | [], _, h => by simpa only [IsL] using h
  | d :: ds, _, h => by
    simp only [IsL] at h ⊢
    obtain ⟨v, r, e1, h1, h2⟩ := h
    exact ⟨v, r, e1, Is.mono e p h1, IsL.mono e p h2⟩
end
section
variable {W : Wd} {F : Hp} {ρ : List Addr}
theorem IsL.nil_iff {vs : List V} : IsL W F ρ [] vs ↔ vs = [] := by simp only [IsL]
theorem IsL.cons_iff {d : D} {ds : List D} {vs : List V} : IsL W F ρ (d :: ds) vs ↔ ∃ v r, vs = v :: r ∧ Is W F ρ d v ∧ IsL W F ρ ds r := by simp only [IsL]
theorem IsL.nil : IsL W F ρ [] [] := by simp only [IsL]
theorem IsL.cons {d : D} {ds : List D} {v : V} {vs : List V} (h : Is W F ρ d v) (t : IsL W F ρ ds vs) : IsL W F ρ (d :: ds) (v :: vs) := by
  simp only [IsL]; exact ⟨v, vs, rfl, h, t⟩
theorem IsL.len : ∀ {ds : List D} {vs : List V}, IsL W F ρ ds vs → vs.length = ds.length
  | [], _, h => by rw [IsL.nil_iff] at h; subst h; rfl
  | d :: ds, _, h => by
    obtain ⟨v, r, rfl, _, t⟩ := IsL.cons_iff.mp h
    simp [IsL.len t]
theorem IsL.get : ∀ {ds : List D} {vs : List V} {i : Nat} {d : D}, IsL W F ρ ds vs → ds[i]? = some d → ∃ v, vs[i]? = some v ∧ Is W F ρ d v
  | [], _, _, _, _, e => by simp at e
  | x :: ds, _, 0, d, h, e => by
    obtain ⟨v, r, rfl, h1, _⟩ := IsL.cons_iff.mp h
    simp at e; subst e; exact ⟨v, rfl, h1⟩
  | x :: ds, _, i + 1, d, h, e => by
    obtain ⟨v, r, rfl, _, t⟩ := IsL.cons_iff.mp h
    simp at e
    obtain ⟨u, e1, e2⟩ := IsL.get (i := i) t e
    exact ⟨u, by simpa using e1, e2⟩
theorem IsL.getV {ds : List D} {vs : List V} {i : Nat} {v : V} (h : IsL W F ρ ds vs) (e : vs[i]? = some v) : ∃ d, ds[i]? = some d ∧ Is W F ρ d v := by
  have hi : i < vs.length := (List.getElem?_eq_some_iff.mp e).1
  have hd : i < ds.length := by rw [← h.len]; exact hi
  obtain ⟨v', e1, h1⟩ := h.get (List.getElem?_eq_getElem hd)
  rw [e] at e1; cases e1
  exact ⟨_, List.getElem?_eq_getElem hd, h1⟩
theorem IsL.append : ∀ {ds es : List D} {vs us : List V}, IsL W F ρ ds vs → IsL W F ρ es us → IsL W F ρ (ds ++ es) (vs ++ us)
  | [], _, _, _, h, k => by rw [IsL.nil_iff] at h; subst h; exact k
  | d :: ds, _, _, _, h, k => by
    obtain ⟨v, r, rfl, h1, t⟩ := IsL.cons_iff.mp h
    exact IsL.cons h1 (IsL.append t k)
theorem IsL.set : ∀ {ds : List D} {vs : List V} {d : D} {v : V} (i : Nat), IsL W F ρ ds vs → Is W F ρ d v → IsL W F ρ (ds.set i d) (vs.set i v)
  | [], _, _, _, _, h, _ => by rw [IsL.nil_iff] at h; subst h; exact IsL.nil
  | x :: ds, _, _, _, 0, h, k => by
    obtain ⟨u, r, rfl, _, t⟩ := IsL.cons_iff.mp h
    exact IsL.cons k t
  | x :: ds, _, _, _, i + 1, h, k => by
    obtain ⟨u, r, rfl, h1, t⟩ := IsL.cons_iff.mp h
    exact IsL.cons h1 (IsL.set i t k)
theorem IsL.take : ∀ {ds : List D} {vs : List V} (n : Nat), IsL W F ρ ds vs → IsL W F ρ (ds.take n) (vs.take n)
  | [], _, n, h => by rw [IsL.nil_iff] at h; subst h; simp [IsL.nil]
  | x :: ds, _, 0, h => by simp [IsL.nil]
  | x :: ds, _, n + 1, h => by
    obtain ⟨u, r, rfl, h1, t⟩ := IsL.cons_iff.mp h
    exact IsL.cons h1 (IsL.take n t)
theorem IsL.drop : ∀ {ds : List D} {vs : List V} (n : Nat), IsL W F ρ ds vs → IsL W F ρ (ds.drop n) (vs.drop n)
  | [], _, n, h => by rw [IsL.nil_iff] at h; subst h; simp [IsL.nil]
  | x :: ds, _, 0, h => h
  | x :: ds, _, n + 1, h => by
    obtain ⟨u, r, rfl, h1, t⟩ := IsL.cons_iff.mp h
    exact IsL.drop n t
theorem isL_ints : ∀ (ns : List Int), IsL W F ρ (ns.map D.int) (ns.map V.int)
  | [] => IsL.nil
  | n :: ns => IsL.cons (by simp only [Is]) (isL_ints ns)
end

/-- the names' values -/
structure En (W : Wd) (Γ : Gam) (σ : Sg) (F : Hp) (ρ : List Addr) : Prop where
  len : Γ.length = σ.length
  at_ : ∀ (i : Nat) (d : D), Γ[i]? = some (some d) → ∃ v, σ[i]? = some (some v) ∧ Is W F ρ d v
theorem En.mono {W : Wd} {Γ : Gam} {σ : Sg} {F F' : Hp} {ρ ρ' : List Addr} (h : En W Γ σ F ρ) (e : Le F F') (p : ρ <+: ρ') : En W Γ σ F' ρ' :=
  ⟨h.len, fun i d q => let ⟨v, a, b⟩ := h.at_ i d q; ⟨v, a, b.mono e p⟩⟩
theorem En.set {W : Wd} {Γ : Gam} {σ : Sg} {F : Hp} {ρ : List Addr} (h : En W Γ σ F ρ) {i : Nat} {d : D} {v : V} (k : Is W F ρ d v) : En W (Γ.set i (some d)) (σ.set i (some v)) F ρ := by
  refine ⟨by simp [h.len], fun j e q => ?_⟩
  by_cases hj : i = j
  · subst hj
    have hi : i < Γ.length := by
      have := (List.getElem?_eq_some_iff.mp q).1
      simpa using this
    rw [List.getElem?_set_self hi] at q
    cases q
    exact ⟨v, by rw [List.getElem?_set_self (by rw [← h.len]; exact hi)], k⟩
  · rw [List.getElem?_set_ne hj] at q ⊢
    exact h.at_ j e q
theorem En.wipe {W : Wd} {Γ : Gam} {σ : Sg} {F : Hp} {ρ : List Addr} (h : En W Γ σ F ρ) {i : Nat} {o : Option V} : En W (Γ.set i none) (σ.set i o) F ρ := by
  refine ⟨by simp [h.len], fun j e q => ?_⟩
  by_cases hj : i = j
  · subst hj
    have hi : i < Γ.length := by
      have := (List.getElem?_eq_some_iff.mp q).1
      simpa using this
    rw [List.getElem?_set_self hi] at q
    cases q
  · rw [List.getElem?_set_ne hj] at q ⊢
    exact h.at_ j e q

theorem nd_ix {α : Type} {l : List α} (hl : l.Nodup) {i j : Nat} {x : α} (a : l[i]? = some x) (b : l[j]? = some x) : i = j := by
  obtain ⟨h1, e1⟩ := List.getElem?_eq_some_iff.mp a
  obtain ⟨h2, e2⟩ := List.getElem?_eq_some_iff.mp b
  exact (List.getElem_inj hl).mp (by rw [e1, e2])
/-- an object of the store, as it stands in the heap -/
def MoIs (W : Wd) (F : Hp) (ρ : List Addr) (m : MO) (o : Option HO) : Prop :=
  match m with
  | .lst l => ∃ vs, o = some (.lst vs) ∧ IsL W F ρ l vs
  | .ins c l => ∃ dx fvs, o = some (.ins (W.T c) dx fvs) ∧ fvs.map (·.1) = (W.fn c).take l.length ∧ IsL W F ρ l (fvs.map (·.2))
  | .dct ks l => ∃ vs, o = some (.dK (ks.zip vs)) ∧ ks.length = l.length ∧ IsL W F ρ l vs
  | .dead => ∃ h, o = some h
theorem MoIs.mono {W : Wd} {F F' : Hp} {ρ ρ' : List Addr} (e : Le F F') (p : ρ <+: ρ') {m : MO} {o : Option HO} (h : MoIs W F ρ m o) : MoIs W F' ρ' m o := by
  cases m with
  | lst l => obtain ⟨vs, a, b⟩ := h; exact ⟨vs, a, b.mono e p⟩
  | ins c l => obtain ⟨dx, fvs, a, n, b⟩ := h; exact ⟨dx, fvs, a, n, b.mono e p⟩
  | dct ks l => obtain ⟨vs, a, n, b⟩ := h; exact ⟨vs, a, n, b.mono e p⟩
  | dead => exact h
theorem MoIs.some_ {W : Wd} {F : Hp} {ρ : List Addr} {m : MO} {o : Option HO} (h : MoIs W F ρ m o) : ∃ x, o = some x := by
  cases m with
  | lst l => obtain ⟨vs, a, _⟩ := h; exact ⟨_, a⟩
  | ins c l => obtain ⟨dx, fvs, a, _⟩ := h; exact ⟨_, a⟩
  | dct ks l => obtain ⟨vs, a, _⟩ := h; exact ⟨_, a⟩
  | dead => exact h
/-- the store -/
structure Rp (W : Wd) (ξ : Xi) (M : Stor) (F H : Hp) (ρ : List Addr) : Prop where
  sub : Le F H
  len : ρ.length = M.length
  nd : ρ.Nodup
  obj : ∀ (i : Nat) (m : MO) (a : Addr), M[i]? = some m → ρ[i]? = some a → F a = none ∧ MoIs W F ρ m (H a)
  xt : ∀ q ∈ ξ, H q.1 = some q.2 ∧ F q.1 = none ∧ q.1 ∉ ρ
  tb : ∀ p ∈ W.tb, p.1 ∉ ρ ∧ (∀ q ∈ ξ, q.1 ≠ p.1) ∧ F p.1 = none ∧ ∃ ps : Array Value, H p.1 = some (.tbl ps) ∧ TriplesOk ps.toList ∧ ∀ (pos : Pos) (cv : Value), codeAmong pos ps.toList = some cv → ∃ c, cv = .ref c ∧ F c = some (LamX.CodeO c p.2)
section
variable {W : Wd} {ξ : Xi} {M : Stor} {F H : Hp} {ρ : List Addr}
theorem Rp.free (h : Rp W ξ M F H ρ) {p : Addr} (n : H p = none) : F p = none := by
  cases e : F p with
  | none => rfl
  | some o => rw [h.sub _ _ e] at n; cases n
theorem Rp.ne (h : Rp W ξ M F H ρ) {p a : Addr} {i : Nat} (n : H p = none) (e : ρ[i]? = some a) : a ≠ p := by
  intro z; subst z
  have hi : i < M.length := by rw [← h.len]; exact (List.getElem?_eq_some_iff.mp e).1
  obtain ⟨_, q⟩ := h.obj i _ a (List.getElem?_eq_getElem hi) e
  obtain ⟨x, q⟩ := q.some_
  rw [n] at q; cases q
/-- a new thing that never changes -/
theorem Rp.new (h : Rp W ξ M F H ρ) {p : Addr} {o : HO} (n : H p = none) : Rp W ξ M (upd F p o) (upd H p o) ρ := by
  have nF := h.free n
  refine ⟨fun a u e => ?_, h.len, h.nd, fun i m a em ea => ?_, fun q hq => by
    obtain ⟨q1, q2, q3⟩ := h.xt q hq
    have ne := ne_of_none q1 n
    rw [upd_ne ne, upd_ne ne]; exact ⟨q1, q2, q3⟩, fun q hq => by
    obtain ⟨t1, t2, t3, ps, t4, t5, t6⟩ := h.tb q hq
    have ne := ne_of_none t4 n
    rw [upd_ne ne, upd_ne ne]
    exact ⟨t1, t2, t3, ps, t4, t5, fun pos cv z => let ⟨c, c1, c2⟩ := t6 pos cv z; ⟨c, c1, Le.new nF _ _ c2⟩⟩⟩
  · by_cases hp : a = p
    · subst hp; rw [upd_same] at e ⊢; exact e
    · rw [upd_ne hp] at e ⊢; exact h.sub _ _ e
  · have ne := h.ne n ea
    obtain ⟨q1, q2⟩ := h.obj i m a em ea
    rw [upd_ne ne, upd_ne ne]
    exact ⟨q1, q2.mono (Le.new nF) (List.prefix_refl _)⟩
/-- a new thing that is of no interest -/
theorem Rp.newH (h : Rp W ξ M F H ρ) {p : Addr} {o : HO} (n : H p = none) : Rp W ξ M F (upd H p o) ρ := by
  refine ⟨fun a u e => ?_, h.len, h.nd, fun i m a em ea => ?_, fun q hq => by
    obtain ⟨q1, q2, q3⟩ := h.xt q hq
    rw [upd_ne (ne_of_none q1 n)]; exact ⟨q1, q2, q3⟩, fun q hq => by
    obtain ⟨t1, t2, t3, ps, t4, t5, t6⟩ := h.tb q hq
    rw [upd_ne (ne_of_none t4 n)]
    exact ⟨t1, t2, t3, ps, t4, t5, t6⟩⟩
  · have := h.sub _ _ e
    rw [upd_ne (ne_of_none this n)]; exact this
  · rw [upd_ne (h.ne n ea)]; exact h.obj i m a em ea
/-- a new changeable object -/
theorem Rp.mut (h : Rp W ξ M F H ρ) {p : Addr} {o : HO} {m : MO} (n : H p = none) (k : MoIs W F (ρ ++ [p]) m (some o)) : Rp W ξ (M ++ [m]) F (upd H p o) (ρ ++ [p]) := by
  have nF := h.free n
  have np : p ∉ ρ := fun hm => by
    obtain ⟨i, hi, e⟩ := List.getElem_of_mem hm
    exact h.ne n (List.getElem?_eq_some_iff.mpr ⟨hi, e⟩) rfl
  refine ⟨fun a u e => ?_, by simp [h.len], ?_, fun i m' a em ea => ?_, fun q hq => by
    obtain ⟨q1, q2, q3⟩ := h.xt q hq
    have ne := ne_of_none q1 n
    rw [upd_ne ne]; exact ⟨q1, q2, by simp [q3, ne]⟩, fun q hq => by
    obtain ⟨t1, t2, t3, ps, t4, t5, t6⟩ := h.tb q hq
    have ne := ne_of_none t4 n
    rw [upd_ne ne]
    exact ⟨by simp [t1, ne], t2, t3, ps, t4, t5, t6⟩⟩
  · have := h.sub _ _ e
    rw [upd_ne (ne_of_none this n)]; exact this
  · rw [List.nodup_append]
    refine ⟨h.nd, by simp, fun a ha b hb => ?_⟩
    simp at hb; subst hb
    intro z; subst z; exact np ha
  · by_cases hi : i < M.length
    · rw [List.getElem?_append_left hi] at em
      rw [List.getElem?_append_left (by rw [h.len]; exact hi)] at ea
      obtain ⟨q1, q2⟩ := h.obj i m' a em ea
      rw [upd_ne (h.ne n ea)]
      exact ⟨q1, q2.mono Le.rfl' (List.prefix_append _ _)⟩
    · have hi' : i = M.length := by
        have := (List.getElem?_eq_some_iff.mp em).1
        simp at this; omega
      subst hi'
      rw [List.getElem?_append_right (Nat.le_refl _)] at em
      rw [List.getElem?_append_right (by rw [h.len]; exact Nat.le_refl _), h.len] at ea
      simp at em ea
      subst em; subst ea
      rw [upd_same]
      exact ⟨nF, k⟩
/-- a changeable object changes -/
theorem Rp.set (h : Rp W ξ M F H ρ) {i : Nat} {a : Addr} {o : HO} {m : MO} (e : ρ[i]? = some a) (k : MoIs W F ρ m (some o)) : Rp W ξ (M.set i m) F (upd H a o) ρ := by
  have hi : i < M.length := by rw [← h.len]; exact (List.getElem?_eq_some_iff.mp e).1
  have fa := (h.obj i _ a (List.getElem?_eq_getElem hi) e).1
  refine ⟨fun b u q => ?_, by simp [h.len], h.nd, fun j m' b em eb => ?_, fun q hq => by
    obtain ⟨q1, q2, q3⟩ := h.xt q hq
    have ne : q.1 ≠ a := fun z => q3 (z ▸ List.mem_of_getElem? e)
    rw [upd_ne ne]; exact ⟨q1, q2, q3⟩, fun q hq => by
    obtain ⟨t1, t2, t3, ps, t4, t5, t6⟩ := h.tb q hq
    have ne : q.1 ≠ a := fun z => t1 (z ▸ List.mem_of_getElem? e)
    rw [upd_ne ne]
    exact ⟨t1, t2, t3, ps, t4, t5, t6⟩⟩
  · rw [upd_ne (ne_of_none q fa)]; exact h.sub _ _ q
  · by_cases hj : i = j
    · subst hj
      rw [List.getElem?_set_self hi] at em
      rw [e] at eb; cases eb; cases em
      rw [upd_same]; exact ⟨fa, k⟩
    · rw [List.getElem?_set_ne hj] at em
      obtain ⟨q1, q2⟩ := h.obj j m' b em eb
      have ne : b ≠ a := fun z => hj (nd_ix h.nd e (by rw [← z]; exact eb))
      rw [upd_ne ne]; exact ⟨q1, q2⟩
end

/-! ### what is wanted behind -/
/-- an exception's own dict -/
def XcIs (W : Wd) (F : Hp) (ρ : List Addr) (c : Nat) (fs : Flds) (dx : Option Addr) : Prop :=
  match fs with
  | none => dx = none
  | some l => ∃ x fvs, dx = some x ∧ F x = some (.xd fvs) ∧ fvs.map (·.1) = (W.fn c).take l.length ∧ IsL W F ρ l (fvs.map (·.2))
def Po {α β : Type} (W : Wd) (ξ : Xi) (rel : Hp → List Addr → α → β → Prop) (F : Hp) (ρ : List Addr) (r : R α) (Q : β → Hp → Prop) (E : XK) : Prop :=
  match r with
  | .ok a M => ∀ v F' ρ' H', Le F F' → ρ <+: ρ' → Rp W ξ M F' H' ρ' → rel F' ρ' a v → Q v H'
  | .ex c fs M => ∀ dx F' ρ' H', Le F F' → ρ <+: ρ' → Rp W ξ M F' H' ρ' → XcIs W F' ρ' c fs dx → E (.ref (W.T c)) dx H'
  | .no => False
def PoS (W : Wd) (ξ : Xi) (F : Hp) (ρ : List Addr) (r : RS) (N : Ends) (E : Sg → XK) : Prop :=
  match r with
  | .nx g M => ∀ σ' F' ρ' H', Le F F' → ρ <+: ρ' → Rp W ξ M F' H' ρ' → En W g σ' F' ρ' → N.nx σ' H'
  | .rt d M => ∀ v F' ρ' H', Le F F' → ρ <+: ρ' → Rp W ξ M F' H' ρ' → Is W F' ρ' d v → N.rt v H'
  | .bk g M => ∀ σ' F' ρ' H', Le F F' → ρ <+: ρ' → Rp W ξ M F' H' ρ' → En W g σ' F' ρ' → N.bk σ' H'
  | .ct g M => ∀ σ' F' ρ' H', Le F F' → ρ <+: ρ' → Rp W ξ M F' H' ρ' → En W g σ' F' ρ' → N.ct σ' H'
  | .ex c fs g M => ∀ σ' dx F' ρ' H', Le F F' → ρ <+: ρ' → Rp W ξ M F' H' ρ' → En W g σ' F' ρ' → XcIs W F' ρ' c fs dx → E σ' (.ref (W.T c)) dx H'
  | .no => False
section
variable {α β γ δ : Type} {W : Wd} {ξ : Xi} {rel : Hp → List Addr → α → β → Prop} {rel2 : Hp → List Addr → γ → δ → Prop} {F F' : Hp} {ρ ρ' : List Addr} {Q : β → Hp → Prop} {E : XK}
theorem Po.mono {r : R α} (h : Po W ξ rel F ρ r Q E) (e : Le F F') (p : ρ <+: ρ') : Po W ξ rel F' ρ' r Q E := by
  cases r with
  | ok a M => exact fun v F2 ρ2 H2 e2 p2 => h v F2 ρ2 H2 (e.tr e2) (p.trans p2)
  | ex c fs M => exact fun v F2 ρ2 H2 e2 p2 => h v F2 ρ2 H2 (e.tr e2) (p.trans p2)
  | no => exact h
theorem PoS.mono {r : RS} {N : Ends} {E : Sg → XK} (h : PoS W ξ F ρ r N E) (e : Le F F') (p : ρ <+: ρ') : PoS W ξ F' ρ' r N E := by
  cases r with
  | nx g M => exact fun v F2 ρ2 H2 e2 p2 => h v F2 ρ2 H2 (e.tr e2) (p.trans p2)
  | rt d M => exact fun v F2 ρ2 H2 e2 p2 => h v F2 ρ2 H2 (e.tr e2) (p.trans p2)
  | bk g M => exact fun v F2 ρ2 H2 e2 p2 => h v F2 ρ2 H2 (e.tr e2) (p.trans p2)
  | ct g M => exact fun v F2 ρ2 H2 e2 p2 => h v F2 ρ2 H2 (e.tr e2) (p.trans p2)
  | ex c fs g M => exact fun v dx F2 ρ2 H2 e2 p2 => h v dx F2 ρ2 H2 (e.tr e2) (p.trans p2)
  | no => exact h
/-- one behind another -/
theorem Po.bind {r : R α} {k : α → Stor → R γ} {Q : δ → Hp → Prop} (h : Po W ξ rel2 F ρ (r.bind k) Q E) :
    Po W ξ rel F ρ r (fun v H' => ∃ a M' F' ρ', Le F F' ∧ ρ <+: ρ' ∧ Rp W ξ M' F' H' ρ' ∧ rel F' ρ' a v ∧ Po W ξ rel2 F' ρ' (k a M') Q E) E := by
  cases r with
  | ok a M => exact fun v F' ρ' H' e p rp is => ⟨a, M, F', ρ', e, p, rp, is, h.mono e p⟩
  | ex c fs M => exact h
  | no => exact h
theorem Po.bindS {r : R α} {g : Gam} {k : α → Stor → RS} {N : Ends} {E : Sg → XK} {σ : Sg} (en : En W g σ F ρ) (h : PoS W ξ F ρ (r.bindS g k) N E) :
    Po W ξ rel F ρ r (fun v H' => ∃ a M' F' ρ', Le F F' ∧ ρ <+: ρ' ∧ Rp W ξ M' F' H' ρ' ∧ rel F' ρ' a v ∧ PoS W ξ F' ρ' (k a M') N E) (E σ) := by
  cases r with
  | ok a M => exact fun v F' ρ' H' e p rp is => ⟨a, M, F', ρ', e, p, rp, is, h.mono e p⟩
  | ex c fs M => exact fun dx F' ρ' H' e p rp x => h σ dx F' ρ' H' e p rp (en.mono e p) x
  | no => exact h
theorem Po.imp {r : R α} {Q' : β → Hp → Prop} (h : Po W ξ rel F ρ r Q E) (k : ∀ v H, Q v H → Q' v H) : Po W ξ rel F ρ r Q' E := by
  cases r with
  | ok a M => exact fun v F' ρ' H' e p rp is => k _ _ (h v F' ρ' H' e p rp is)
  | ex c fs M => exact h
  | no => exact h
end

/-! ### the judgements: the hand layer's, at one reading -/
abbrev GE' := Gam → Stor → R D
abbrev GT' := Gam → Stor → R Bool
abbrev GA' := Gam → Stor → R (List D)
abbrev GS' := Gam → Stor → RS
abbrev relB : Hp → List Addr → Bool → Bool → Prop := fun _ _ a b => a = b
def tG (W : Wd) (E : Sg → XK) (g : GE') : TE := fun σ H Q => ∃ ξ Γ M F ρ, En W Γ σ F ρ ∧ Rp W ξ M F H ρ ∧ Po W ξ (Is W) F ρ (g Γ M) Q (E σ)
def tGT (W : Wd) (E : Sg → XK) (g : GT') : TT := fun σ H Q => ∃ ξ Γ M F ρ, En W Γ σ F ρ ∧ Rp W ξ M F H ρ ∧ Po W ξ relB F ρ (g Γ M) Q (E σ)
def tGA (W : Wd) (E : Sg → XK) (g : GA') : TA := fun σ H Q => ∃ ξ Γ M F ρ, En W Γ σ F ρ ∧ Rp W ξ M F H ρ ∧ Po W ξ (IsL W) F ρ (g Γ M) Q (E σ)
def tGS (W : Wd) (E : Sg → XK) (g : GS') : TS := fun N σ H => ∃ ξ Γ M F ρ, En W Γ σ F ρ ∧ Rp W ξ M F H ρ ∧ PoS W ξ F ρ (g Γ M) N E
abbrev GE (X : Cx) (W : Wd) (E : Sg → XK) (e : Expr) (g : GE') : Prop := PE X e (tG W E g)
abbrev GT (X : Cx) (W : Wd) (E : Sg → XK) (e : Expr) (g : GT') : Prop := PT X e (tGT W E g)
abbrev GW (X : Cx) (W : Wd) (E : Sg → XK) (e : Expr) (g : GT') : Prop := PW X e (tGT W E g)
abbrev GA (X : Cx) (W : Wd) (E : Sg → XK) (es : List Expr) (g : GA') : Prop := PA X es (tGA W E g)
abbrev GS (X : Cx) (W : Wd) (E : Sg → XK) (st : Stmt) (g : GS') : Prop := PS X st (tGS W E g)
abbrev GSs (X : Cx) (W : Wd) (E : Sg → XK) (st : List Stmt) (g : GS') : Prop := PSs X st (tGS W E g)
theorem mE {X : Cx} {e : Expr} {t t' : TE} (h : PE X e t) (k : ∀ σ H Q, t' σ H Q → t σ H Q) : PE X e t' := ⟨fun pins s σ H Q I z => h.run pins s σ H Q I (k σ H Q z)⟩
theorem mT {X : Cx} {e : Expr} {t t' : TT} (h : PT X e t) (k : ∀ σ H Q, t' σ H Q → t σ H Q) : PT X e t' := ⟨fun pins s σ H Q I z => h.run pins s σ H Q I (k σ H Q z)⟩
theorem mW {X : Cx} {e : Expr} {t t' : TT} (h : PW X e t) (k : ∀ σ H Q, t' σ H Q → t σ H Q) : PW X e t' := ⟨fun wh pins s σ H Q I z => h.run wh pins s σ H Q I (k σ H Q z)⟩
theorem mA {X : Cx} {es : List Expr} {t t' : TA} (h : PA X es t) (k : ∀ σ H Q, t' σ H Q → t σ H Q) : PA X es t' := ⟨fun pos pins s σ H Q I z => h.run pos pins s σ H Q I (k σ H Q z)⟩
theorem mS {X : Cx} {st : Stmt} {t t' : TS} (h : PS X st t) (k : ∀ N σ H, t' N σ H → t N σ H) : PS X st t' := ⟨fun pins s σ H N I z => h.run pins s σ H N I (k N σ H z)⟩
theorem mSs {X : Cx} {st : List Stmt} {t t' : TS} (h : PSs X st t) (k : ∀ N σ H, t' N σ H → t N σ H) : PSs X st t' := ⟨fun pins s σ H N I z => h.run pins s σ H N I (k N σ H z)⟩
end G

namespace G
open PySem PySem.Spec PyProof.Rows L2

/-! ### names, constants -/
def gVar (i : Nat) : GE' := fun Γ M => match Γ[i]? with
  | some (some d) => .ok d M
  | _ => .no
def gC (d : D) : GE' := fun _ M => .ok d M
section
variable {X : Cx} {W : Wd} {ξ : Xi} {E : Sg → XK} {a b e : Expr} {ga gb : GE'} {pos : Pos}
/-- a value that stands everywhere -/
def Flat (W : Wd) (d : D) (v : V) : Prop := ∀ F ρ, Is W F ρ d v
theorem flat_int {i : Int} : Flat W (.int i) (.int i) := fun _ _ => by simp only [Is]
theorem flat_bl {i : Bool} : Flat W (.bl i) (.bl i) := fun _ _ => by simp only [Is]
theorem flat_str {i : Str} : Flat W (.str i) (.str i) := fun _ _ => by simp only [Is]
theorem flat_non : Flat W .non .non := fun _ _ => by simp only [Is]
theorem flat_ty {n : String} : Flat W (.ty n) (.ty n) := fun _ _ => by simp only [Is]
theorem ge_const {d : D} {v : V} (h : PE X e (tC v)) (f : Flat W d v) : GE X W E e (gC d) :=
  mE h fun σ H Q ⟨ξ, Γ, M, F, ρ, en, rp, po⟩ => po v F ρ H Le.rfl' (List.prefix_refl _) rp (f F ρ)
theorem ge_int {i : Int} {j pos} : GE X W E (.Constant (.int i) j pos) (gC (.int i)) := ge_const pe_int flat_int
theorem ge_bl {i : Bool} {j pos} : GE X W E (.Constant (.bool i) j pos) (gC (.bl i)) := ge_const pe_bl flat_bl
theorem ge_str {i : Str} {j pos} : GE X W E (.Constant (.str i) j pos) (gC (.str i)) := ge_const pe_str flat_str
theorem ge_non {j pos} : GE X W E (.Constant .none j pos) (gC .non) := ge_const pe_non flat_non
theorem ge_var {i : Nat} {x : Str} (h : PE X (.Name x pos) (tVar i)) : GE X W E (.Name x pos) (gVar i) :=
  mE h fun σ H Q ⟨ξ, Γ, M, F, ρ, en, rp, po⟩ => by
    unfold gVar at po
    split at po
    · rename_i d hd
      obtain ⟨v, e1, is⟩ := en.at_ i d hd
      exact ⟨v, e1, po v F ρ H Le.rfl' (List.prefix_refl _) rp is⟩
    · exact po.elim

/-! ### operators -/
def gBin (f : D → D → Stor → R D) (a b : GE') : GE' := fun Γ M => (a Γ M).bind fun x M1 => (b Γ M1).bind fun y M2 => f x y M2
def gUn (f : D → Stor → R D) (a : GE') : GE' := fun Γ M => (a Γ M).bind fun x M1 => f x M1
/-- a two-place operation of the model does what op says -/
def OpG (X : Cx) (W : Wd) (E : Sg → XK) (f : Value → Value → Sem Value) (op : D → D → Stor → R D) : Prop :=
  ∀ (ξ : Xi) (pins : List (Addr × Obj)) (s : Shared) (σ : Sg) (H : Hp) (M : Stor) (F : Hp) (ρ : List Addr) (x y : D) (vx vy : V) (ux uy : Value) (Q : VK),
    Inv X pins σ H s → RelV vx ux → RelV vy uy → Rp W ξ M F H ρ → Is W F ρ x vx → Is W F ρ y vy → Po W ξ (Is W) F ρ (op x y M) Q (E σ) →
    wpAny (model X.prog X.w) X.A (f ux uy) (EP X pins σ Q) X.xe s
def UnG (X : Cx) (W : Wd) (E : Sg → XK) (f : Value → Sem Value) (op : D → Stor → R D) : Prop :=
  ∀ (ξ : Xi) (pins : List (Addr × Obj)) (s : Shared) (σ : Sg) (H : Hp) (M : Stor) (F : Hp) (ρ : List Addr) (x : D) (vx : V) (ux : Value) (Q : VK),
    Inv X pins σ H s → RelV vx ux → Rp W ξ M F H ρ → Is W F ρ x vx → Po W ξ (Is W) F ρ (op x M) Q (E σ) →
    wpAny (model X.prog X.w) X.A (f ux) (EP X pins σ Q) X.xe s
/-- what an operation on plain values gives, as the hand layer's rule asks -/
theorem OpG.of {f : Value → Value → Sem Value} {r : R2} {op : D → D → Stor → R D} (h : OpR X f r)
    (k : ∀ (ξ : Xi) (M : Stor) (F H : Hp) (ρ : List Addr) (x y : D) (vx vy : V) (Q : VK) (Z : XK), Rp W ξ M F H ρ → Is W F ρ x vx → Is W F ρ y vy → Po W ξ (Is W) F ρ (op x y M) Q Z → r vx vy H Q) : OpG X W E f op :=
  fun ξ pins s σ H M F ρ x y vx vy ux uy Q I rx ry rp ix iy po => h pins s σ H vx vy ux uy Q I rx ry (k ξ M F H ρ x y vx vy Q (E σ) rp ix iy po)
theorem UnG.of {f : Value → Sem Value} {r : V → Hp → VK → Prop} {op : D → Stor → R D} (h : UnR X f r)
    (k : ∀ (ξ : Xi) (M : Stor) (F H : Hp) (ρ : List Addr) (x : D) (vx : V) (Q : VK) (Z : XK), Rp W ξ M F H ρ → Is W F ρ x vx → Po W ξ (Is W) F ρ (op x M) Q Z → r vx H Q) : UnG X W E f op :=
  fun ξ pins s σ H M F ρ x vx ux Q I rx rp ix po => h pins s σ H vx ux Q I rx (k ξ M F H ρ x vx Q (E σ) rp ix po)
/-- the first that says something -/
def orR {α : Type} (r q : R α) : R α := match r with
  | .no => q
  | r => r
@[simp] theorem orR_ok {α : Type} (a : α) (M : Stor) (q : R α) : orR (.ok a M) q = .ok a M := rfl
@[simp] theorem orR_ex {α : Type} (c : Nat) (fs : Flds) (M : Stor) (q : R α) : orR (.ex c fs M) q = .ex c fs M := rfl
@[simp] theorem orR_no {α : Type} (q : R α) : orR .no q = q := rfl
theorem OpG.or {f : Value → Value → Sem Value} {op op' : D → D → Stor → R D} (h : OpG X W E f op) (h' : OpG X W E f op') : OpG X W E f (fun x y M => orR (op x y M) (op' x y M)) :=
  fun ξ pins s σ H M F ρ x y vx vy ux uy Q I rx ry rp ix iy po => by
    cases e : op x y M with
    | no =>
      simp only [e, orR_no] at po
      exact h' ξ pins s σ H M F ρ x y vx vy ux uy Q I rx ry rp ix iy po
    | ok a M1 =>
      simp only [e, orR_ok] at po
      exact h ξ pins s σ H M F ρ x y vx vy ux uy Q I rx ry rp ix iy (by rw [e]; exact po)
    | ex c fs M1 =>
      simp only [e, orR_ex] at po
      exact h ξ pins s σ H M F ρ x y vx vy ux uy Q I rx ry rp ix iy (by rw [e]; exact po)
theorem UnG.or {f : Value → Sem Value} {op op' : D → Stor → R D} (h : UnG X W E f op) (h' : UnG X W E f op') : UnG X W E f (fun x M => orR (op x M) (op' x M)) :=
  fun ξ pins s σ H M F ρ x vx ux Q I rx rp ix po => by
    cases e : op x M with
    | no =>
      simp only [e, orR_no] at po
      exact h' ξ pins s σ H M F ρ x vx ux Q I rx rp ix po
    | ok a M1 =>
      simp only [e, orR_ok] at po
      exact h ξ pins s σ H M F ρ x vx ux Q I rx rp ix (by rw [e]; exact po)
    | ex c fs M1 =>
      simp only [e, orR_ex] at po
      exact h ξ pins s σ H M F ρ x vx ux Q I rx rp ix (by rw [e]; exact po)
/-- two expressions, one behind the other -/
theorem two {k : D → D → Stor → R D} {σ : Sg} {H : Hp} {Q : VK} (h : tG W E (fun Γ M => (ga Γ M).bind fun x M1 => (gb Γ M1).bind fun y M2 => k x y M2) σ H Q) :
    tG W E ga σ H fun vx H1 => tG W E gb σ H1 fun vy H2 => ∃ ξ x y M F ρ, Rp W ξ M F H2 ρ ∧ Is W F ρ x vx ∧ Is W F ρ y vy ∧ Po W ξ (Is W) F ρ (k x y M) Q (E σ) := by
  obtain ⟨ξ, Γ, M, F, ρ, en, rp, po⟩ := h
  refine ⟨ξ, Γ, M, F, ρ, en, rp, po.bind.imp ?_⟩
  rintro vx H1 ⟨x, M1, F1, ρ1, e1, p1, rp1, ix, po1⟩
  refine ⟨ξ, Γ, M1, F1, ρ1, en.mono e1 p1, rp1, po1.bind.imp ?_⟩
  rintro vy H2 ⟨y, M2, F2, ρ2, e2, p2, rp2, iy, po2⟩
  exact ⟨ξ, x, y, M2, F2, ρ2, rp2, ix.mono e2 p2, iy, po2⟩
theorem ge_bin {op : Operator} {f : D → D → Stor → R D} (ho : OpG X W E (binaryOp op) f) (ha : GE X W E a ga) (hb : GE X W E b gb) : GE X W E (.BinOp a op b pos) (gBin f ga gb) := by
  refine ⟨fun pins s σ H Q I h => ?_⟩
  refine wpAny_BinOp (bin ha hb I (two h) fun v u s2 x y H2 I2 rx ry q => ?_)
  obtain ⟨ξ, dx, dy, M, F, ρ, rp, ix, iy, po⟩ := q
  exact ho ξ pins s2 σ H2 M F ρ dx dy x y v u Q I2 rx ry rp ix iy po
theorem ge_un {op : UnaryOp} {f : D → Stor → R D} (ho : UnG X W E (unaryOp op) f) (ha : GE X W E a ga) : GE X W E (.UnaryOp op a pos) (gUn f ga) := by
  refine ⟨fun pins s σ H Q I h => ?_⟩
  obtain ⟨ξ, Γ, M, F, ρ, en, rp, po⟩ := h
  refine UnaryOp_ (thn (ha.run pins s σ H _ I ⟨ξ, Γ, M, F, ρ, en, rp, po.bind⟩) ?_)
  rintro v s1 ⟨vx, H1, I1, r1, x, M1, F1, ρ1, e1, p1, rp1, ix, po1⟩
  exact ho ξ pins s1 σ H1 M1 F1 ρ1 x vx v Q I1 r1 rp1 ix po1
theorem ge_cmp {op : CmpOp} {f : D → D → Stor → R D} (ho : OpG X W E (compareOp op) f) (ha : GE X W E a ga) (hb : GE X W E b gb) (hm : behindInMarks op b = false) : GE X W E (.Compare a [op] [b] pos) (gBin f ga gb) := by
  refine ⟨fun pins s σ H Q I h => ?_⟩
  refine wpAny_Compare1 (bin ha hb I (two h) fun v u s2 x y H2 I2 rx ry q => ?_) hm
  obtain ⟨ξ, dx, dy, M, F, ρ, rp, ix, iy, po⟩ := q
  exact ho ξ pins s2 σ H2 M F ρ dx dy x y v u Q I2 rx ry rp ix iy po

/-! ### truth -/
def TruG (X : Cx) (W : Wd) (E : Sg → XK) (tr : D → Stor → R Bool) : Prop :=
  ∀ (ξ : Xi) (pins : List (Addr × Obj)) (s : Shared) (σ : Sg) (H : Hp) (M : Stor) (F : Hp) (ρ : List Addr) (x : D) (vx : V) (ux : Value) (Q : Bool → Hp → Prop),
    Inv X pins σ H s → RelV vx ux → Rp W ξ M F H ρ → Is W F ρ x vx → Po W ξ relB F ρ (tr x M) Q (E σ) →
    wpAny (model X.prog X.w) X.A (truthy ux) (TP X pins σ Q) X.xe s
/-- the truth of plain data -/
def truD : D → Stor → R Bool
  | .non, M => .ok false M
  | .bl b, M => .ok b M
  | .int i, M => .ok (i != 0) M
  | .str x, M => if x.length ≤ 1000000 then .ok ((x.length : Int) != 0) M else .no
  | .tup l, M => .ok (!l.isEmpty) M
  | .lst l, M => .ok (!l.isEmpty) M
  | .lck l, M => .ok (!l.isEmpty) M
  | .ref k, M => match M[k]? with
    | some (.lst l) => .ok (!l.isEmpty) M
    | some (.dct _ l) => .ok (!l.isEmpty) M
    | _ => .no
  | .dct _ l, M => .ok (!l.isEmpty) M
  | _, _ => .no
theorem IsL.isEmpty {F : Hp} {ρ : List Addr} {ds : List D} {vs : List V} (h : IsL W F ρ ds vs) : vs.isEmpty = ds.isEmpty := by
  have e := h.len
  cases ds <;> cases vs <;> simp at e ⊢
theorem zip_empty {F : Hp} {ρ : List Addr} {ks : List Key} {ds : List D} {vs : List V} (hn : ks.length = ds.length) (h : IsL W F ρ ds vs) : (ks.zip vs).isEmpty = ds.isEmpty := by
  have e := h.len
  cases ds <;> cases vs <;> cases ks <;> simp at e hn ⊢
theorem small_line {n : Nat} (h : n ≤ 1000000) : n ≤ sizeLine := by rw [sizeLine_eq]; omega
theorem tru_plain (hK : X.K = W.K) : TruG X W E truD := by
  intro ξ pins s σ H M F ρ x vx ux Q I rx rp ix po
  have go : ∀ {k : Bool}, truD x M = .ok k M → TruV X.K vx H k → wpAny (model X.prog X.w) X.A (truthy ux) (TP X pins σ Q) X.xe s := fun {k} e t => by
    rw [e] at po
    exact tru_ok pins s σ H vx ux Q I rx ⟨k, t, po k F ρ H Le.rfl' (List.prefix_refl _) rp rfl⟩
  cases x with
  | non => simp only [Is] at ix; subst ix; exact go rfl rfl
  | bl b => simp only [Is] at ix; subst ix; exact go rfl rfl
  | int i => simp only [Is] at ix; subst ix; exact go rfl rfl
  | str y =>
    simp only [Is] at ix; subst ix
    by_cases hy : y.length ≤ 1000000
    · exact go (by simp only [truD, hy, if_true]) ⟨small_line hy, rfl⟩
    · simp only [truD, hy, if_false] at po; exact po.elim
  | ty n => exact po.elim
  | tup l =>
    simp only [Is] at ix; obtain ⟨a, vs, rfl, q, hl⟩ := ix
    exact go rfl (.inr (.inl ⟨vs, by rw [hK]; exact rp.sub.sqT q, by rw [hl.isEmpty]⟩))
  | lst l =>
    simp only [Is] at ix; obtain ⟨a, vs, rfl, q, hl⟩ := ix
    exact go rfl (.inl ⟨vs, SqL.of (rp.sub _ _ q), by rw [hl.isEmpty]⟩)
  | lck l =>
    simp only [Is] at ix; obtain ⟨a, vs, rfl, q, hl⟩ := ix
    exact go rfl (.inl ⟨vs, by rw [hK]; exact rp.sub.sqL q, by rw [hl.isEmpty]⟩)
  | dct ks l =>
    simp only [Is] at ix; obtain ⟨a, vs, rfl, q, hn, hl⟩ := ix
    exact go rfl (.inr (.inr ⟨_, rp.sub _ _ q, by rw [zip_empty hn hl]⟩))
  | cls c => exact po.elim
  | exc c o l => exact po.elim
  | lam f c q us l => exact po.elim
  | ins c l => exact po.elim
  | ref k =>
    simp only [Is] at ix; obtain ⟨a, rfl, ea⟩ := ix
    cases e : M[k]? with
    | none => simp only [truD, e] at po; exact po.elim
    | some m =>
      cases m with
      | lst l =>
        obtain ⟨_, vs, hv, hl⟩ := rp.obj k _ a e ea
        exact go (k := !l.isEmpty) (by simp only [truD, e]) (.inl ⟨vs, SqL.of hv, by rw [hl.isEmpty]⟩)
      | ins c l => simp only [truD, e] at po; exact po.elim
      | dct ks l =>
        obtain ⟨_, vs, hv, hn, hl⟩ := rp.obj k _ a e ea
        exact go (k := !l.isEmpty) (by simp only [truD, e]) (.inr (.inr ⟨_, hv, by rw [zip_empty hn hl]⟩))
      | dead => simp only [truD, e] at po; exact po.elim
/-- a value's truth as a test -/
def gTr (tr : D → Stor → R Bool) (a : GE') : GT' := fun Γ M => (a Γ M).bind tr
theorem gt_tr {tr : D → Stor → R Bool} (ht : TruG X W E tr) (ha : GE X W E a ga) (he : ∀ whole, isTrue a X.env whole = (do let v ← whole; standAt a.pos; holding [v] (truthy v)) := by intro _; rfl) : GT X W E a (gTr tr ga) := by
  refine ⟨fun pins s σ H Q I h => ?_⟩
  obtain ⟨ξ, Γ, M, F, ρ, en, rp, po⟩ := h
  refine isTrue_plain (thn (ha.run pins s σ H _ I ⟨ξ, Γ, M, F, ρ, en, rp, po.bind⟩) ?_) (he _)
  rintro v s1 ⟨vx, H1, I1, r1, x, M1, F1, ρ1, e1, p1, rp1, ix, po1⟩
  exact ht ξ pins s1 σ H1 M1 F1 ρ1 x vx v Q I1 r1 rp1 ix po1
/-- a comparison as a test -/
theorem gt_cmp {op : CmpOp} {f : D → D → Stor → R D} {tr : D → Stor → R Bool} (ht : TruG X W E tr) (ho : OpG X W E (compareOp op) f) (ha : GE X W E a ga) (hb : GE X W E b gb) (hm : behindInMarks op b = false) : GT X W E (.Compare a [op] [b] pos) (gTr tr (gBin f ga gb)) := by
  refine ⟨fun pins s σ H Q I h => ?_⟩
  obtain ⟨ξ, Γ, M, F, ρ, en, rp, po⟩ := h
  refine wpAny_isTrue_Compare1 (bin ha hb I (two ⟨ξ, Γ, M, F, ρ, en, rp, po.bind⟩) fun v u s2 x y H2 I2 rx ry q => ?_) hm
  obtain ⟨ξ', dx, dy, M2, F2, ρ2, rp2, ix, iy, po2⟩ := q
  refine thn (ho ξ' pins s2 σ H2 M2 F2 ρ2 dx dy x y v u _ I2 rx ry rp2 ix iy po2) ?_
  rintro c s3 ⟨vz, H3, I3, r3, z, M3, F3, ρ3, e3, p3, rp3, iz, po3⟩
  exact ht ξ pins s3 σ H3 M3 F3 ρ3 z vz c Q I3 r3 rp3 iz po3
/-! ### and, or, not -/
variable {ta tb : GT'} {rest : List Expr}
def gAnd (a b : GT') : GT' := fun Γ M => (a Γ M).bind fun c M1 => if c then b Γ M1 else .ok false M1
def gOr (a b : GT') : GT' := fun Γ M => (a Γ M).bind fun c M1 => if c then .ok true M1 else b Γ M1
def gNot (a : GT') : GT' := fun Γ M => (a Γ M).bind fun c M1 => .ok (!c) M1
theorem gw_and1 (ha : GT X W E a ta) : GW X W E (.BoolOp .And [a] pos) ta := pw_and1 ha
theorem gw_or1 (ha : GT X W E a ta) : GW X W E (.BoolOp .Or [a] pos) ta := pw_or1 ha
theorem gw_and (ha : GT X W E a ta) (hb : GW X W E (.BoolOp .And (b :: rest) pos) tb) : GW X W E (.BoolOp .And (a :: b :: rest) pos) (gAnd ta tb) :=
  mW (pw_and ha hb) fun σ H Q ⟨ξ, Γ, M, F, ρ, en, rp, po⟩ => ⟨ξ, Γ, M, F, ρ, en, rp, po.bind.imp (by
    rintro c H1 ⟨c', M1, F1, ρ1, e1, p1, rp1, rfl, po1⟩
    cases c' with
    | true => exact ⟨ξ, Γ, M1, F1, ρ1, en.mono e1 p1, rp1, po1⟩
    | false => exact po1 false F1 ρ1 H1 Le.rfl' (List.prefix_refl _) rp1 rfl)⟩
theorem gw_or (ha : GT X W E a ta) (hb : GW X W E (.BoolOp .Or (b :: rest) pos) tb) : GW X W E (.BoolOp .Or (a :: b :: rest) pos) (gOr ta tb) :=
  mW (pw_or ha hb) fun σ H Q ⟨ξ, Γ, M, F, ρ, en, rp, po⟩ => ⟨ξ, Γ, M, F, ρ, en, rp, po.bind.imp (by
    rintro c H1 ⟨c', M1, F1, ρ1, e1, p1, rp1, rfl, po1⟩
    cases c' with
    | true => exact po1 true F1 ρ1 H1 Le.rfl' (List.prefix_refl _) rp1 rfl
    | false => exact ⟨ξ, Γ, M1, F1, ρ1, en.mono e1 p1, rp1, po1⟩)⟩
theorem gt_not (ha : GT X W E a ta) : GT X W E (.UnaryOp .Not a pos) (gNot ta) :=
  mT (pt_not ha) fun σ H Q ⟨ξ, Γ, M, F, ρ, en, rp, po⟩ => ⟨ξ, Γ, M, F, ρ, en, rp, po.bind.imp (by
    rintro c H1 ⟨c', M1, F1, ρ1, e1, p1, rp1, rfl, po1⟩
    exact po1 (!c') F1 ρ1 H1 Le.rfl' (List.prefix_refl _) rp1 rfl)⟩
/-- as values -/
def gAndV (tr : D → Stor → R Bool) (a b : GE') : GE' := fun Γ M => (a Γ M).bind fun x M1 => (tr x M1).bind fun c M2 => if c then b Γ M2 else .ok x M2
def gOrV (tr : D → Stor → R Bool) (a b : GE') : GE' := fun Γ M => (a Γ M).bind fun x M1 => (tr x M1).bind fun c M2 => if c then .ok x M2 else b Γ M2
def gNotV (tr : D → Stor → R Bool) (a : GE') : GE' := fun Γ M => (a Γ M).bind fun x M1 => (tr x M1).bind fun c M2 => .ok (.bl (!c)) M2
theorem ge_one {op} (h : GE X W E a ga) : GE X W E (.BoolOp op [a] pos) ga := pe_one h
theorem ge_and {tr : D → Stor → R Bool} (ht : TruG X W E tr) (ha : GE X W E a ga) (hb : GE X W E (.BoolOp .And (b :: rest) pos) gb) : GE X W E (.BoolOp .And (a :: b :: rest) pos) (gAndV tr ga gb) := by
  refine ⟨fun pins s σ H Q I h => ?_⟩
  obtain ⟨ξ, Γ, M, F, ρ, en, rp, po⟩ := h
  refine BoolOp_and (thn (ha.run pins s σ H _ I ⟨ξ, Γ, M, F, ρ, en, rp, po.bind⟩) ?_)
  rintro v s1 ⟨vx, H1, I1, r1, x, M1, F1, ρ1, e1, p1, rp1, ix, po1⟩
  refine thn (ht ξ pins s1 σ H1 M1 F1 ρ1 x vx v _ I1 r1 rp1 ix po1.bind) ?_
  rintro c s2 ⟨H2, I2, c', M2, F2, ρ2, e2, p2, rp2, rfl, po2⟩
  cases c' with
  | true => exact hb.run pins s2 σ H2 Q I2 ⟨ξ, Γ, M2, F2, ρ2, (en.mono e1 p1).mono e2 p2, rp2, po2⟩
  | false => exact ⟨vx, H2, I2, r1, po2 vx F2 ρ2 H2 Le.rfl' (List.prefix_refl _) rp2 (ix.mono e2 p2)⟩
theorem ge_or {tr : D → Stor → R Bool} (ht : TruG X W E tr) (ha : GE X W E a ga) (hb : GE X W E (.BoolOp .Or (b :: rest) pos) gb) : GE X W E (.BoolOp .Or (a :: b :: rest) pos) (gOrV tr ga gb) := by
  refine ⟨fun pins s σ H Q I h => ?_⟩
  obtain ⟨ξ, Γ, M, F, ρ, en, rp, po⟩ := h
  refine BoolOp_or (thn (ha.run pins s σ H _ I ⟨ξ, Γ, M, F, ρ, en, rp, po.bind⟩) ?_)
  rintro v s1 ⟨vx, H1, I1, r1, x, M1, F1, ρ1, e1, p1, rp1, ix, po1⟩
  refine thn (ht ξ pins s1 σ H1 M1 F1 ρ1 x vx v _ I1 r1 rp1 ix po1.bind) ?_
  rintro c s2 ⟨H2, I2, c', M2, F2, ρ2, e2, p2, rp2, rfl, po2⟩
  cases c' with
  | true => exact ⟨vx, H2, I2, r1, po2 vx F2 ρ2 H2 Le.rfl' (List.prefix_refl _) rp2 (ix.mono e2 p2)⟩
  | false => exact hb.run pins s2 σ H2 Q I2 ⟨ξ, Γ, M2, F2, ρ2, (en.mono e1 p1).mono e2 p2, rp2, po2⟩
theorem ge_not {tr : D → Stor → R Bool} (ht : TruG X W E tr) (ha : GE X W E a ga) : GE X W E (.UnaryOp .Not a pos) (gNotV tr ga) := by
  refine ⟨fun pins s σ H Q I h => ?_⟩
  obtain ⟨ξ, Γ, M, F, ρ, en, rp, po⟩ := h
  refine UnaryOp_ (thn (ha.run pins s σ H _ I ⟨ξ, Γ, M, F, ρ, en, rp, po.bind⟩) ?_)
  rintro v s1 ⟨vx, H1, I1, r1, x, M1, F1, ρ1, e1, p1, rp1, ix, po1⟩
  refine not_of (thn (ht ξ pins s1 σ H1 M1 F1 ρ1 x vx v _ I1 r1 rp1 ix po1.bind) ?_)
  rintro c s2 ⟨H2, I2, c', M2, F2, ρ2, e2, p2, rp2, rfl, po2⟩
  exact ⟨.bl (!c'), H2, I2, rfl, po2 (.bl (!c')) F2 ρ2 H2 Le.rfl' (List.prefix_refl _) rp2 (by simp only [Is])⟩
def gIfE (t : GT') (a b : GE') : GE' := fun Γ M => (t Γ M).bind fun c M1 => if c then a Γ M1 else b Γ M1
theorem ge_ifExp {c : Expr} {tc : GT'} (hc : GT X W E c tc) (ha : GE X W E a ga) (hb : GE X W E b gb) : GE X W E (.IfExp c a b pos) (gIfE tc ga gb) :=
  mE (pe_ifExp hc ha hb) fun σ H Q ⟨ξ, Γ, M, F, ρ, en, rp, po⟩ => ⟨ξ, Γ, M, F, ρ, en, rp, po.bind.imp (by
    rintro c H1 ⟨c', M1, F1, ρ1, e1, p1, rp1, rfl, po1⟩
    cases c' with
    | true => exact ⟨ξ, Γ, M1, F1, ρ1, en.mono e1 p1, rp1, po1⟩
    | false => exact ⟨ξ, Γ, M1, F1, ρ1, en.mono e1 p1, rp1, po1⟩)⟩
/-! ### arguments, displays -/
variable {es : List Expr} {gs : GA'}
def gNil : GA' := fun _ M => .ok [] M
def gCons (a : GE') (b : GA') : GA' := fun Γ M => (a Γ M).bind fun x M1 => (b Γ M1).bind fun xs M2 => .ok (x :: xs) M2
theorem ga_nil : GA X W E [] gNil := mA pa_nil fun σ H Q ⟨ξ, Γ, M, F, ρ, en, rp, po⟩ => po [] F ρ H Le.rfl' (List.prefix_refl _) rp IsL.nil
theorem ga_cons (ha : GE X W E e ga) (hr : GA X W E es gs) (hs : starEach (e :: es) X.env = (false, eval e X.env) :: starEach es X.env := by rfl) : GA X W E (e :: es) (gCons ga gs) :=
  mA (pa_cons ha hr hs) fun σ H Q ⟨ξ, Γ, M, F, ρ, en, rp, po⟩ => ⟨ξ, Γ, M, F, ρ, en, rp, po.bind.imp (by
    rintro v H1 ⟨x, M1, F1, ρ1, e1, p1, rp1, ix, po1⟩
    refine ⟨ξ, Γ, M1, F1, ρ1, en.mono e1 p1, rp1, po1.bind.imp ?_⟩
    rintro vs H2 ⟨xs, M2, F2, ρ2, e2, p2, rp2, ixs, po2⟩
    exact po2 _ F2 ρ2 H2 Le.rfl' (List.prefix_refl _) rp2 (IsL.cons (ix.mono e2 p2) ixs))⟩
def gTup (t : GA') : GE' := fun Γ M => (t Γ M).bind fun xs M1 => if xs.length ≤ 1000000 then .ok (.tup xs) M1 else .no
def gLst (t : GA') : GE' := fun Γ M => (t Γ M).bind fun xs M1 => if xs.length ≤ 1000000 then .ok (.lst xs) M1 else .no
/-- a list that will be changed -/
def gLstM (t : GA') : GE' := fun Γ M => (t Γ M).bind fun xs M1 => if xs.length ≤ 1000000 then .ok (.ref M1.length) (M1 ++ [.lst xs]) else .no
theorem new_tup {F H : Hp} {M : Stor} {ρ : List Addr} {p : Addr} {xs : List D} {vs : List V} {Q : VK} {Z : XK} (rp : Rp W ξ M F H ρ) (hl : IsL W F ρ xs vs) (n : H p = none) (po : Po W ξ (Is W) F ρ (.ok (.tup xs) M) Q Z) : Q (.ref p) (upd H p (.tup vs)) := by
  have nF := rp.free n
  refine po _ _ ρ _ (Le.new nF) (List.prefix_refl _) (rp.new n) ?_
  simp only [Is]
  exact ⟨p, vs, rfl, SqT.of upd_same, hl.mono (Le.new nF) (List.prefix_refl _)⟩
theorem new_lst {F H : Hp} {M : Stor} {ρ : List Addr} {p : Addr} {xs : List D} {vs : List V} {Q : VK} {Z : XK} (rp : Rp W ξ M F H ρ) (hl : IsL W F ρ xs vs) (n : H p = none) (po : Po W ξ (Is W) F ρ (.ok (.lst xs) M) Q Z) : Q (.ref p) (upd H p (.lst vs)) := by
  have nF := rp.free n
  refine po _ _ ρ _ (Le.new nF) (List.prefix_refl _) (rp.new n) ?_
  simp only [Is]
  exact ⟨p, vs, rfl, upd_same, hl.mono (Le.new nF) (List.prefix_refl _)⟩
theorem new_lstM {F H : Hp} {M : Stor} {ρ : List Addr} {p : Addr} {xs : List D} {vs : List V} {Q : VK} {Z : XK} (rp : Rp W ξ M F H ρ) (hl : IsL W F ρ xs vs) (n : H p = none) (po : Po W ξ (Is W) F ρ (.ok (.ref M.length) (M ++ [.lst xs])) Q Z) : Q (.ref p) (upd H p (.lst vs)) := by
  refine po _ F (ρ ++ [p]) _ Le.rfl' (List.prefix_append _ _) (rp.mut n ⟨vs, rfl, hl.mono Le.rfl' (List.prefix_append _ _)⟩) ?_
  simp only [Is]
  exact ⟨p, rfl, by rw [List.getElem?_append_right (by rw [rp.len]; exact Nat.le_refl _), rp.len]; simp⟩
theorem ge_tup {x1} (h : GA X W E es gs) : GE X W E (.Tuple es x1 pos) (gTup gs) :=
  mE (pe_tup h) fun σ H Q ⟨ξ, Γ, M, F, ρ, en, rp, po⟩ => ⟨ξ, Γ, M, F, ρ, en, rp, po.bind.imp (by
    rintro vs H1 ⟨xs, M1, F1, ρ1, e1, p1, rp1, ix, po1⟩
    split at po1
    · rename_i hz
      exact ⟨small_line (by rw [ix.len]; exact hz), fun p n => new_tup rp1 ix n po1⟩
    · exact po1.elim)⟩
theorem ge_lst (h : GA X W E es gs) : GE X W E (.List es pos) (gLst gs) :=
  mE (pe_lst h) fun σ H Q ⟨ξ, Γ, M, F, ρ, en, rp, po⟩ => ⟨ξ, Γ, M, F, ρ, en, rp, po.bind.imp (by
    rintro vs H1 ⟨xs, M1, F1, ρ1, e1, p1, rp1, ix, po1⟩
    split at po1
    · rename_i hz
      exact ⟨small_line (by rw [ix.len]; exact hz), fun p n => new_lst rp1 ix n po1⟩
    · exact po1.elim)⟩
theorem ge_lstM (h : GA X W E es gs) : GE X W E (.List es pos) (gLstM gs) :=
  mE (pe_lst h) fun σ H Q ⟨ξ, Γ, M, F, ρ, en, rp, po⟩ => ⟨ξ, Γ, M, F, ρ, en, rp, po.bind.imp (by
    rintro vs H1 ⟨xs, M1, F1, ρ1, e1, p1, rp1, ix, po1⟩
    split at po1
    · rename_i hz
      exact ⟨small_line (by rw [ix.len]; exact hz), fun p n => new_lstM rp1 ix n po1⟩
    · exact po1.elim)⟩
end
end G

namespace G
open PySem PySem.Spec PyProof.Rows L2
/-! ### statements -/
section
variable {X : Cx} {W : Wd} {ξ : Xi} {E : Sg → XK} {a b e : Expr} {ga gb : GE'} {pos : Pos} {st : Stmt} {rest : List Stmt} {gs gr : GS'}
def gSeq (a b : GS') : GS' := fun Γ M => match a Γ M with
  | .nx Γ1 M1 => b Γ1 M1
  | r => r
def gSkip : GS' := fun Γ M => .nx Γ M
def gRet (a : GE') : GS' := fun Γ M => (a Γ M).bindS Γ fun d M1 => .rt d M1
def gRetN : GS' := fun _ M => .rt .non M
def gExpr (a : GE') : GS' := fun Γ M => (a Γ M).bindS Γ fun _ M1 => .nx Γ M1
def gSet (i : Nat) (a : GE') : GS' := fun Γ M => (a Γ M).bindS Γ fun d M1 => .nx (Γ.set i (some d)) M1
def gIf (t : GT') (a b : GS') : GS' := fun Γ M => (t Γ M).bindS Γ fun c M1 => if c then a Γ M1 else b Γ M1
def gBreak : GS' := fun Γ M => .bk Γ M
def gCont : GS' := fun Γ M => .ct Γ M
theorem gs_nil : GSs X W E [] gSkip := mSs pss_nil fun N σ H ⟨ξ, Γ, M, F, ρ, en, rp, po⟩ => po σ F ρ H Le.rfl' (List.prefix_refl _) rp en
theorem gs_one (h : GS X W E st gs) : GSs X W E [st] gs := pss_one h
theorem gs_cons (h1 : GS X W E st gs) (h2 : GSs X W E rest gr) : GSs X W E (st :: rest) (gSeq gs gr) :=
  mSs (pss_cons h1 h2) fun N σ H ⟨ξ, Γ, M, F, ρ, en, rp, po⟩ => by
    refine ⟨ξ, Γ, M, F, ρ, en, rp, ?_⟩
    unfold gSeq at po
    cases e : gs Γ M with
    | nx Γ1 M1 =>
      rw [e] at po
      exact fun σ' F' ρ' H' le p rp' en' => ⟨ξ, Γ1, M1, F', ρ', en', rp', po.mono le p⟩
    | rt d M1 => rw [e] at po; exact po
    | bk Γ1 M1 => rw [e] at po; exact po
    | ct Γ1 M1 => rw [e] at po; exact po
    | ex c fs Γ1 M1 => rw [e] at po; exact po
    | no => rw [e] at po; exact po
theorem gs_pass : GS X W E (.Pass pos) gSkip := mS ps_pass fun N σ H ⟨ξ, Γ, M, F, ρ, en, rp, po⟩ => po σ F ρ H Le.rfl' (List.prefix_refl _) rp en
theorem gs_break : GS X W E (.Break pos) gBreak := mS ps_break fun N σ H ⟨ξ, Γ, M, F, ρ, en, rp, po⟩ => po σ F ρ H Le.rfl' (List.prefix_refl _) rp en
theorem gs_continue : GS X W E (.Continue pos) gCont := mS ps_continue fun N σ H ⟨ξ, Γ, M, F, ρ, en, rp, po⟩ => po σ F ρ H Le.rfl' (List.prefix_refl _) rp en
theorem gs_ret (h : GE X W E e ga) : GS X W E (.Return (some e) pos) (gRet ga) :=
  mS (ps_ret h) fun N σ H ⟨ξ, Γ, M, F, ρ, en, rp, po⟩ => ⟨ξ, Γ, M, F, ρ, en, rp, (Po.bindS en po).imp (by
    rintro v H1 ⟨x, M1, F1, ρ1, e1, p1, rp1, ix, po1⟩
    exact po1 v F1 ρ1 H1 Le.rfl' (List.prefix_refl _) rp1 ix)⟩
theorem gs_retN : GS X W E (.Return none pos) gRetN :=
  mS ps_retN fun N σ H ⟨ξ, Γ, M, F, ρ, en, rp, po⟩ => po .non F ρ H Le.rfl' (List.prefix_refl _) rp (by simp only [Is])
theorem gs_expr (h : GE X W E e ga) (hs : swapsWith e none pos.line X.env = pure false := by rfl) : GS X W E (.Expr e pos) (gExpr ga) :=
  mS (ps_expr h hs) fun N σ H ⟨ξ, Γ, M, F, ρ, en, rp, po⟩ => ⟨ξ, Γ, M, F, ρ, en, rp, (Po.bindS en po).imp (by
    rintro v H1 ⟨x, M1, F1, ρ1, e1, p1, rp1, ix, po1⟩
    exact po1 σ F1 ρ1 H1 Le.rfl' (List.prefix_refl _) rp1 (en.mono e1 p1))⟩
theorem gs_set {i : Nat} {x : Str} {pos' : Pos} (hN : X.N.Nodup) (hi : X.N[i]? = some x) (hx : Loc X.env.scope x) (he : GE X W E e ga) (hs : swapsWith e (some (.Name x pos')) pos.line X.env = pure false := by rfl)
    (hf : X.fn x = true ∨ X.env.scope.names.lookup x = some .local := by first | exact .inl rfl | exact .inr rfl) : GS X W E (.Assign [.Name x pos'] e pos) (gSet i ga) :=
  mS (ps_set hN hi hx he hs hf) fun N σ H ⟨ξ, Γ, M, F, ρ, en, rp, po⟩ => ⟨ξ, Γ, M, F, ρ, en, rp, (Po.bindS en po).imp (by
    rintro v H1 ⟨x, M1, F1, ρ1, e1, p1, rp1, ix, po1⟩
    exact po1 _ F1 ρ1 H1 Le.rfl' (List.prefix_refl _) rp1 ((en.mono e1 p1).set ix))⟩
theorem gs_if {c : Expr} {l m : List Stmt} {tc : GT'} (hc : GT X W E c tc) (ha : GSs X W E l gs) (hb : GSs X W E m gr) : GS X W E (.If c l m pos) (gIf tc gs gr) :=
  mS (ps_if hc ha hb) fun N σ H ⟨ξ, Γ, M, F, ρ, en, rp, po⟩ => ⟨ξ, Γ, M, F, ρ, en, rp, (Po.bindS en po).imp (by
    rintro c H1 ⟨c', M1, F1, ρ1, e1, p1, rp1, rfl, po1⟩
    cases c' with
    | true => exact ⟨ξ, Γ, M1, F1, ρ1, en.mono e1 p1, rp1, po1⟩
    | false => exact ⟨ξ, Γ, M1, F1, ρ1, en.mono e1 p1, rp1, po1⟩)⟩
/-- code that is never reached -/
def gStuck : GS' := fun _ _ => .no
theorem gs_stuck : GS X W E st gStuck := mS ps_never fun N σ H ⟨ξ, Γ, M, F, ρ, en, rp, po⟩ => po
theorem gss_stuck {l : List Stmt} : GSs X W E l gStuck := mSs pss_never fun N σ H ⟨ξ, Γ, M, F, ρ, en, rp, po⟩ => po
/-- x op= e -/
def gAug (i : Nat) (f : D → D → Stor → R D) (a : GE') : GS' := fun Γ M => match Γ[i]? with
  | some (some x) => ((a Γ M).bind fun y M1 => f x y M1).bindS Γ fun d M2 => .nx (Γ.set i (some d)) M2
  | _ => .no
theorem gs_aug {i : Nat} {x : Str} {pos' : Pos} {op : Operator} {f : D → D → Stor → R D} (hN : X.N.Nodup) (hi : X.N[i]? = some x) (hx : Loc X.env.scope x) (ho : OpG X W E (inplaceOp op) f) (he : GE X W E e ga)
    (hf : X.fn x = true ∨ X.env.scope.names.lookup x = some .local := by first | exact .inl rfl | exact .inr rfl) : GS X W E (.AugAssign (.Name x pos') op e pos) (gAug i f ga) := by
  refine ⟨fun pins s σ H N I h => ?_⟩
  obtain ⟨ξ, Γ, M, F, ρ, en, rp, po⟩ := h
  unfold gAug at po
  split at po
  · rename_i dx hdx
    obtain ⟨vx, ex, ix⟩ := en.at_ i dx hdx
    obtain ⟨m, hn, hl⟩ := I.loc
    have vis : Vis X.env.scope x := by rcases hx with k | k; exact .inl k; exact .inr (.inl k)
    obtain ⟨u, r, l⟩ := hl i x vx hi ex vis
    refine wpAny_AugAssign_Name ?_
    have go : wpAny (model X.prog X.w) X.A (eval e X.env) (fun w' s2 => wpAny (model X.prog X.w) X.A (inplaceOp op u w') (fun r s3 => wpAny (model X.prog X.w) X.A (storeName X.env x r) (fun _ => SP X pins N .next) X.xe s3) X.xe s2) X.xe s := by
      refine thn (he.run pins s σ H _ I ⟨ξ, Γ, M, F, ρ, en, rp, Po.bind (rel2 := Is W) (Po.bindS (rel := Is W) en po)⟩) ?_
      rintro w' s1 ⟨vy, H1, I1, r1, y, M1, F1, ρ1, e1, p1, rp1, iy, po1⟩
      refine thn (ho ξ pins s1 σ H1 M1 F1 ρ1 dx y vx vy u w' _ I1 r r1 rp1 (ix.mono e1 p1) iy po1) ?_
      rintro z s2 ⟨vz, H2, I2, r2, dz, M2, F2, ρ2, e2, p2, rp2, iz, po2⟩
      refine store_ok I2 hN hi hx r2 (fun s3 I3 => ⟨_, H2, I3, ?_⟩) hf
      exact po2 _ F2 ρ2 H2 Le.rfl' (List.prefix_refl _) rp2 (((en.mono e2 p2)).set iz)
    rcases l with ⟨hk, hm⟩ | ⟨hk, c, hc, hcell⟩
    · exact wpAny_loadName_local I.ok.kind hk hn hm go
    · rcases hk with hk | hk
      · exact wpAny_loadName_cell I.ok.kind hk hc hcell go
      · have z : X.env.scope.names.lookup x = some .free := hk
        rcases hx with k | k <;> (rw [k] at z; cases z)
  · exact po.elim
end
end G

namespace G
open PySem PySem.Spec PyProof.Rows L2
section
variable {X : Cx} {W : Wd} {ξ : Xi} {E : Sg → XK} {a b e : Expr} {ga gb : GE'} {pos : Pos} {st : Stmt} {body : List Stmt} {gs gr : GS'}
/-! ### while -/
def gWhile (t : GT') (b : GS') : Nat → GS'
  | 0 => fun _ _ => .no
  | n + 1 => fun Γ M => (t Γ M).bindS Γ fun c M1 => if c then (match b Γ M1 with
    | .nx Γ2 M2 => gWhile t b n Γ2 M2
    | .ct Γ2 M2 => gWhile t b n Γ2 M2
    | .bk Γ2 M2 => .nx Γ2 M2
    | r => r) else .nx Γ M1
theorem gs_while (n : Nat) {c : Expr} {tc : GT'} (hp : PassesOwn (model X.prog X.w) X.A X.env X.xe) (hc : GT X W E c tc) (hb : GSs X W E body gs) : GS X W E (.While c body [] pos) (gWhile tc gs n) :=
  mS (ps_while hp hc hb) fun N σ H h => by
    refine ⟨fun m σ H => ∃ ξ Γ M F ρ, En W Γ σ F ρ ∧ Rp W ξ M F H ρ ∧ PoS W ξ F ρ (gWhile tc gs m Γ M) N E, ⟨n, h⟩, ?_⟩
    rintro m σ H ⟨ξ, Γ, M, F, ρ, en, rp, po⟩
    cases m with
    | zero => exact po.elim
    | succ m =>
      refine ⟨ξ, Γ, M, F, ρ, en, rp, (Po.bindS en po).imp ?_⟩
      rintro c H1 ⟨c', M1, F1, ρ1, e1, p1, rp1, rfl, po1⟩
      cases c' with
      | false => exact po1 σ F1 ρ1 H1 Le.rfl' (List.prefix_refl _) rp1 (en.mono e1 p1)
      | true =>
        refine ⟨fun σ' H' => ∃ ξ Γ M F ρ, En W Γ σ' F ρ ∧ Rp W ξ M F H' ρ ∧ PoS W ξ F ρ (gWhile tc gs m Γ M) N E, fun σ' H' z => ⟨m, Nat.lt_succ_self m, z⟩, ξ, Γ, M1, F1, ρ1, en.mono e1 p1, rp1, ?_⟩
        simp only [if_true] at po1
        cases e : gs Γ M1 with
        | nx Γ2 M2 => rw [e] at po1; exact fun σ' F' ρ' H' le p rp' en' => ⟨ξ, Γ2, M2, F', ρ', en', rp', po1.mono le p⟩
        | ct Γ2 M2 => rw [e] at po1; exact fun σ' F' ρ' H' le p rp' en' => ⟨ξ, Γ2, M2, F', ρ', en', rp', po1.mono le p⟩
        | bk Γ2 M2 => rw [e] at po1; exact po1
        | rt d M2 => rw [e] at po1; exact po1
        | ex c fs Γ2 M2 => rw [e] at po1; exact po1
        | no => rw [e] at po1; exact po1
/-! ### targets -/
abbrev GG' := D → Gam → Stor → Option (Gam × Stor)
def PoG (W : Wd) (ξ : Xi) (F : Hp) (ρ : List Addr) (r : Option (Gam × Stor)) (Q : Sg → Hp → Prop) : Prop :=
  match r with
  | some (g, M) => ∀ σ' F' ρ' H', Le F F' → ρ <+: ρ' → Rp W ξ M F' H' ρ' → En W g σ' F' ρ' → Q σ' H'
  | none => False
theorem PoG.mono {F F' : Hp} {ρ ρ' : List Addr} {r : Option (Gam × Stor)} {Q : Sg → Hp → Prop} (h : PoG W ξ F ρ r Q) (e : Le F F') (p : ρ <+: ρ') : PoG W ξ F' ρ' r Q := by
  cases r with
  | none => exact h
  | some q => exact fun v F2 ρ2 H2 e2 p2 => h v F2 ρ2 H2 (e.tr e2) (p.trans p2)
def tGG (W : Wd) (g : GG') : TG := fun v σ H Q => ∃ ξ d Γ M F ρ, Is W F ρ d v ∧ En W Γ σ F ρ ∧ Rp W ξ M F H ρ ∧ PoG W ξ F ρ (g d Γ M) Q
abbrev GG (X : Cx) (W : Wd) (e : Expr) (g : GG') : Prop := PG X e (tGG W g)
theorem mG {t t' : TG} (h : PG X e t) (k : ∀ v σ H Q, t' v σ H Q → t v σ H Q) : PG X e t' := ⟨fun pins s σ H v u Q I r z => h.run pins s σ H v u Q I r (k v σ H Q z)⟩
def ggName (i : Nat) : GG' := fun d Γ M => some (Γ.set i (some d), M)
theorem gg_name {i : Nat} {x : Str} (h : PG X (.Name x pos) (gName i)) : GG X W (.Name x pos) (ggName i) :=
  mG h fun v σ H Q ⟨ξ, d, Γ, M, F, ρ, is, en, rp, po⟩ => po _ F ρ H Le.rfl' (List.prefix_refl _) rp (en.set is)
/-- several targets, one behind another -/
abbrev GGs' := List D → Gam → Stor → Option (Gam × Stor)
def ggNil : GGs' := fun ds Γ M => match ds with
  | [] => some (Γ, M)
  | _ => none
def ggCons (g : GG') (r : GGs') : GGs' := fun ds Γ M => match ds with
  | d :: ds => (match g d Γ M with
    | some (Γ1, M1) => r ds Γ1 M1
    | none => none)
  | [] => none
def tGGs (W : Wd) (g : GGs') : TGs := fun vs σ H Q => ∃ ξ ds Γ M F ρ, IsL W F ρ ds vs ∧ En W Γ σ F ρ ∧ Rp W ξ M F H ρ ∧ PoG W ξ F ρ (g ds Γ M) Q
abbrev GGs (X : Cx) (W : Wd) (es : List Expr) (g : GGs') : Prop := PGs X es (tGGs W g)
theorem mGs {es : List Expr} {t t' : TGs} (h : PGs X es t) (k : ∀ v σ H Q, t' v σ H Q → t v σ H Q) : PGs X es t' := ⟨fun pins s σ H v u Q I r z => h.run pins s σ H v u Q I r (k v σ H Q z)⟩
theorem ggs_nil : GGs X W [] ggNil := mGs pgs_nil fun vs σ H Q ⟨ξ, ds, Γ, M, F, ρ, is, en, rp, po⟩ => by
  cases ds with
  | nil => exact ⟨IsL.nil_iff.mp is, po σ F ρ H Le.rfl' (List.prefix_refl _) rp en⟩
  | cons d ds => exact po.elim
theorem ggs_cons {es : List Expr} {g : GG'} {r : GGs'} (h1 : GG X W e g) (h2 : GGs X W es r) (hs : (assignEach (e :: es) X.env).map (·.2) = assign e X.env :: (assignEach es X.env).map (·.2) := by rfl) : GGs X W (e :: es) (ggCons g r) :=
  mGs (pgs_cons h1 h2 hs) fun vs σ H Q ⟨ξ, ds, Γ, M, F, ρ, is, en, rp, po⟩ => by
    cases ds with
    | nil => exact po.elim
    | cons d ds =>
      obtain ⟨v, vr, rfl, i1, i2⟩ := IsL.cons_iff.mp is
      refine ⟨v, vr, rfl, ξ, d, Γ, M, F, ρ, i1, en, rp, ?_⟩
      unfold ggCons at po
      simp only at po
      cases e : g d Γ M with
      | none => rw [e] at po; exact po.elim
      | some q =>
        rw [e] at po
        exact fun σ' F' ρ' H' le p rp' en' => ⟨ξ, ds, q.1, q.2, F', ρ', i2.mono le p, en', rp', po.mono le p⟩
def ggTup (n : Nat) (r : GGs') : GG' := fun d Γ M => match d with
  | .tup ds => if ds.length = n then r ds Γ M else none
  | _ => none
theorem gg_tup {es : List Expr} {k n : Nat} {r : GGs'} (hK : X.K = W.K) (hc : X.calm = true) (h : GGs X W es r) (hn : (assignEach es X.env).length = n := by rfl) (hst : (assignEach es X.env).findIdx? (·.1) = none := by rfl) : GG X W (.Tuple es k pos) (ggTup n r) :=
  mG (pg_tup hc h hn hst) fun v σ H Q ⟨ξ, d, Γ, M, F, ρ, is, en, rp, po⟩ => by
    cases d with
    | tup ds =>
      simp only [Is] at is
      obtain ⟨p, vs, rfl, q, hl⟩ := is
      simp only [ggTup] at po
      split at po
      · rename_i hz
        exact ⟨p, vs, rfl, by rw [hK]; exact rp.sub.sqT q, by rw [hl.len]; exact hz, ξ, ds, Γ, M, F, ρ, hl, en, rp, po⟩
      · exact po.elim
    | _ => exact po.elim
def gAsg (g : GG') (a : GE') : GS' := fun Γ M => (a Γ M).bindS Γ fun d M1 => match g d Γ M1 with
  | some (Γ2, M2) => .nx Γ2 M2
  | none => .no
theorem gs_asg {tg : Expr} {g : GG'} (he : GE X W E e ga) (hg : GG X W tg g) (hs : swapsWithSole [tg] e pos.line X.env = pure false := by rfl) (hw : swappedStores [tg] e X.env = pure none := by rfl)
    (h1 : (assignEach [tg] X.env).map (·.2) = [assign tg X.env] := by rfl) : GS X W E (.Assign [tg] e pos) (gAsg g ga) :=
  mS (ps_asg he hg hs hw h1) fun N σ H ⟨ξ, Γ, M, F, ρ, en, rp, po⟩ => ⟨ξ, Γ, M, F, ρ, en, rp, (Po.bindS en po).imp (by
    rintro v H1 ⟨x, M1, F1, ρ1, e1, p1, rp1, ix, po1⟩
    refine ⟨ξ, x, Γ, M1, F1, ρ1, ix, en.mono e1 p1, rp1, ?_⟩
    cases e : g x Γ M1 with
    | none => rw [e] at po1; exact po1.elim
    | some q => rw [e] at po1; exact po1)⟩
/-! ### for -/
/-- what is walked yields these, as long as the store is kept -/
def GoodIt (W : Wd) (F0 : Hp) (ρ0 : List Addr) (q : List D × (Stor → Prop)) (J : It) : Prop :=
  ∀ (ξ : Xi) (i : Nat) (M : Stor) (F H : Hp) (ρ : List Addr), Le F0 F → ρ0 <+: ρ → Rp W ξ M F H ρ → q.2 M →
    (∀ d, q.1[i]? = some d → J.go i H ∧ ∀ x H', J.yld i H x H' → ∃ F', Le F F' ∧ Rp W ξ M F' H' ρ ∧ Is W F' ρ d x) ∧ (q.1.length ≤ i → J.stop i H)
abbrev GI' := Gam → Stor → R (List D × (Stor → Prop))
def tGI (W : Wd) (E : Sg → XK) (g : GI') : TI := fun σ H Q => ∃ ξ Γ M F ρ, En W Γ σ F ρ ∧ Rp W ξ M F H ρ ∧ Po W ξ (fun F ρ q J => GoodIt W F ρ q J) F ρ (g Γ M) Q (E σ)
abbrev GI (X : Cx) (W : Wd) (E : Sg → XK) (tg e : Expr) (g : GI') : Prop := PI X tg e (tGI W E g)
theorem mI {tg : Expr} {t t' : TI} (h : PI X tg e t) (k : ∀ σ H Q, t' σ H Q → t σ H Q) : PI X tg e t' := ⟨fun pins s σ H Q I z => h.run pins s σ H Q I (k σ H Q z)⟩
open Classical in
noncomputable def loopG (keep : Stor → Prop) (tg : GG') (b : GS') : List D → Gam → Stor → RS
  | [], Γ, M => .nx Γ M
  | d :: ds, Γ, M => match tg d Γ M with
    | some (Γ1, M1) => (match b Γ1 M1 with
      | .nx Γ2 M2 => if keep M2 then loopG keep tg b ds Γ2 M2 else .no
      | .ct Γ2 M2 => if keep M2 then loopG keep tg b ds Γ2 M2 else .no
      | .bk Γ2 M2 => .nx Γ2 M2
      | r => r)
    | none => .no
open Classical in
noncomputable def gFor (it : GI') (tg : GG') (b : GS') : GS' := fun Γ M => (it Γ M).bindS Γ fun q M1 => if q.2 M1 then loopG q.2 tg b q.1 Γ M1 else .no
theorem gs_for {iter tg : Expr} {gi : GI'} {g : GG'} (hp : PassesOwn (model X.prog X.w) X.A X.env X.xe) (hc : X.calm = true) (hi : GI X W E tg iter gi) (hg : GG X W tg g) (hb : GSs X W E body gs)
    (hs : ∀ x, foldedSetIterable iter X.env x = pure x := by intro _; rfl) : GS X W E (.For tg iter body [] pos) (gFor gi g gs) :=
  mS (ps_for hp hc hi hg hb hs) fun N σ H ⟨ξ, Γ, M, F, ρ, en, rp, po⟩ => ⟨ξ, Γ, M, F, ρ, en, rp, (Po.bindS en po).imp (by
    rintro J H0 ⟨q, M0, F0, ρ0, e0, p0, rp0, good, po0⟩
    split at po0
    case isFalse => exact po0.elim
    rename_i k0
    refine ⟨fun i m σ H => m = q.1.length - i ∧ i ≤ q.1.length ∧ ∃ Γ M F ρ, Le F0 F ∧ ρ0 <+: ρ ∧ q.2 M ∧ En W Γ σ F ρ ∧ Rp W ξ M F H ρ ∧ PoS W ξ F ρ (loopG q.2 g gs (q.1.drop i) Γ M) N E,
      ⟨_, rfl, Nat.zero_le _, Γ, M0, F0, ρ0, Le.rfl', List.prefix_refl _, k0, en.mono e0 p0, rp0, by simpa using po0⟩, ?_⟩
    rintro i m σ1 H1 ⟨rfl, hi, Γ1, M1, F1, ρ1, le1, p1, k1, en1, rp1, po1⟩
    obtain ⟨g1, g2⟩ := good ξ i M1 F1 H1 ρ1 le1 p1 rp1 k1
    by_cases hlt : i < q.1.length
    · right
      have ed : q.1[i]? = some q.1[i] := List.getElem?_eq_getElem hlt
      rw [List.drop_eq_getElem_cons hlt] at po1
      obtain ⟨go, yl⟩ := g1 _ ed
      refine ⟨go, fun σ' H' => ∃ Γ M F ρ, Le F0 F ∧ ρ0 <+: ρ ∧ q.2 M ∧ En W Γ σ' F ρ ∧ Rp W ξ M F H' ρ ∧ PoS W ξ F ρ (loopG q.2 g gs (q.1.drop (i + 1)) Γ M) N E,
        fun σ' H' z => ⟨_, by omega, rfl, hlt, z⟩, fun x H' y => ?_⟩
      obtain ⟨F2, le2, rp2, ix⟩ := yl x H' y
      refine ⟨ξ, _, Γ1, M1, F2, ρ1, ix, en1.mono le2 (List.prefix_refl _), rp2, ?_⟩
      unfold loopG at po1
      cases e : g q.1[i] Γ1 M1 with
      | none => rw [e] at po1; exact po1.elim
      | some z =>
        obtain ⟨Γ3, M3⟩ := z
        rw [e] at po1
        refine fun σ3 F3 ρ3 H3 le3 p3 rp3 en3 => ⟨ξ, Γ3, M3, F3, ρ3, en3, rp3, ?_⟩
        simp only at po1
        cases eb : gs Γ3 M3 with
        | nx Γ4 M4 =>
          rw [eb] at po1
          simp only at po1
          split at po1
          · rename_i k4
            exact fun σ' F' ρ' H' le p rp' en' => ⟨Γ4, M4, F', ρ', le1.tr (le2.tr (le3.tr le)), p1.trans (p3.trans p), k4, en', rp', po1.mono (le2.tr (le3.tr le)) (p3.trans p)⟩
          · exact po1.elim
        | ct Γ4 M4 =>
          rw [eb] at po1
          simp only at po1
          split at po1
          · rename_i k4
            exact fun σ' F' ρ' H' le p rp' en' => ⟨Γ4, M4, F', ρ', le1.tr (le2.tr (le3.tr le)), p1.trans (p3.trans p), k4, en', rp', po1.mono (le2.tr (le3.tr le)) (p3.trans p)⟩
          · exact po1.elim
        | bk Γ4 M4 => rw [eb] at po1; exact (PoS.mono (r := .nx Γ4 M4) po1 (le2.tr le3) p3)
        | rt d M4 => rw [eb] at po1; exact (PoS.mono (r := .rt d M4) po1 (le2.tr le3) p3)
        | ex c fs Γ4 M4 => rw [eb] at po1; exact (PoS.mono (r := .ex c fs Γ4 M4) po1 (le2.tr le3) p3)
        | no => rw [eb] at po1; exact po1.elim
    · left
      have hi' : i = q.1.length := by omega
      refine ⟨g2 (by omega), ?_⟩
      subst hi'
      rw [List.drop_length] at po1
      exact po1 σ1 F1 ρ1 H1 Le.rfl' (List.prefix_refl _) rp1 en1)⟩
end
end G

namespace G
open PySem PySem.Spec PyProof.Rows L2
/-! ### what is new is made firm -/
mutual
def frzD (look : Nat → Option D) : D → Option D
  | .ref k => look k
  | .tup l => (frzL look l).map D.tup
  | .lst l => (frzL look l).map D.lst
  | .lck l => (frzL look l).map D.lck
  | .ins c l => (frzL look l).map (D.ins c)
  | .dct ks l => (frzL look l).map (D.dct ks)
  | .exc c o l => (frzL look l).map (D.exc c o)
  | .lam f c q us l => (frzL look l).map (D.lam f c q us)
  | .cls c => some (.cls c)
  | .non => some .non
  | .bl b => some (.bl b)
  | .int i => some (.int i)
  | .str x => some (.str x)
  | .ty n => some (.ty n)
def frzL (look : Nat → Option D) : List D → Option (List D)
  | [] => some []
  | d :: ds => match frzD look d, frzL look ds with
    | some x, some xs => some (x :: xs)
    | _, _ => none
end
theorem frzL_len {look : Nat → Option D} : ∀ {l l' : List D}, frzL look l = some l' → l'.length = l.length
  | [], l', e => by simp only [frzL, Option.some.injEq] at e; subst e; rfl
  | d :: ds, l', e => by
    simp only [frzL] at e
    cases e1 : frzD look d with
    | none => rw [e1] at e; cases e
    | some x =>
      cases e2 : frzL look ds with
      | none => rw [e1, e2] at e; cases e
      | some xs => rw [e1, e2] at e; cases e; simp [frzL_len e2]
def lookN (n : Nat) (M : Stor) : Nat → Nat → Option D
  | 0, k => if k < n then some (.ref k) else none
  | f + 1, k => if k < n then some (.ref k) else match M[k]? with
    | some (.lst l) => (frzL (lookN n M f) l).map D.lst
    | some (.ins c l) => (frzL (lookN n M f) l).map (D.ins c)
    | some (.dct ks l) => (frzL (lookN n M f) l).map (D.dct ks)
    | _ => none
mutual
def D.low (n : Nat) : D → Bool
  | .ref k => decide (k < n)
  | .tup l => lowL n l
  | .lst l => lowL n l
  | .lck l => lowL n l
  | .ins _ l => lowL n l
  | .dct _ l => lowL n l
  | .exc _ _ l => lowL n l
  | .lam _ _ _ _ l => lowL n l
  | .cls _ => true
  | .non => true
  | .bl _ => true
  | .int _ => true
  | .str _ => true
  | .ty _ => true
def lowL (n : Nat) : List D → Bool
  | [] => true
  | d :: ds => d.low n && lowL n ds
end
def MO.low (n : Nat) : MO → Bool
  | .lst l => lowL n l
  | .ins _ l => lowL n l
  | .dct _ l => lowL n l
  | .dead => true
section
variable {W : Wd} {ξ : Xi} {F H : Hp} {ρ ρ' : List Addr} {M : Stor}
mutual
theorem Is.low : ∀ {d : D} {v : V}, Is W F ρ d v → d.low ρ.length = true
  | .ref k, _, h => by
    simp only [Is] at h; obtain ⟨a, _, e⟩ := h
    simp only [D.low, decide_eq_true_eq]
    exact (List.getElem?_eq_some_iff.mp e).1
  | .tup l, _, h => by simp only [Is] at h; obtain ⟨a, vs, _, _, hl⟩ := h; simpa only [D.low] using IsL.low hl
  | .lst l, _, h => by simp only [Is] at h; obtain ⟨a, vs, _, _, hl⟩ := h; simpa only [D.low] using IsL.low hl
  | .lck l, _, h => by simp only [Is] at h; obtain ⟨a, vs, _, _, hl⟩ := h; simpa only [D.low] using IsL.low hl
  | .dct ks l, _, h => by simp only [Is] at h; obtain ⟨a, vs, _, _, _, hl⟩ := h; simpa only [D.low] using IsL.low hl
  | .cls _, _, _ => by simp only [D.low]
  | .exc c own l, _, h => by
    simp only [Is] at h; obtain ⟨a, d, _, _, n0, n1⟩ := h
    cases own with
    | false => obtain ⟨_, rfl⟩ := n0 rfl; simp only [D.low, lowL]
    | true => obtain ⟨x, fvs, _, _, _, hl⟩ := n1 rfl; simpa only [D.low] using IsL.low hl
  | .lam f c q us l, _, h => by simp only [Is] at h; simpa only [D.low] using IsL.low h.2.2
  | .ins c l, _, h => by simp only [Is] at h; obtain ⟨a, dx, fvs, _, _, _, hl⟩ := h; simpa only [D.low] using IsL.low hl
  | .non, _, _ => by simp only [D.low]
  | .bl _, _, _ => by simp only [D.low]
  | .int _, _, _ => by simp only [D.low]
  | .str _, _, _ => by simp only [D.low]
  | .ty _, _, _ => by simp only [D.low]
theorem IsL.low : ∀ {ds : List D} {vs : List V}, IsL W F ρ ds vs → lowL ρ.length ds = true
  | [], _, _ => by simp only [lowL]
  | d :: ds, _, h => by
    obtain ⟨v, r, _, h1, h2⟩ := IsL.cons_iff.mp h
    simp only [lowL, Bool.and_eq_true]
    exact ⟨Is.low h1, IsL.low h2⟩
end
mutual
theorem Is.less (p : ρ <+: ρ') : ∀ {d : D} {v : V}, Is W F ρ' d v → d.low ρ.length = true → Is W F ρ d v
  | .ref k, _, h, b => by
    simp only [Is] at h ⊢; obtain ⟨a, e1, e⟩ := h
    simp only [D.low, decide_eq_true_eq] at b
    obtain ⟨t, rfl⟩ := p
    rw [List.getElem?_append_left b] at e
    exact ⟨a, e1, e⟩
  | .tup l, _, h, b => by simp only [Is] at h ⊢; obtain ⟨a, vs, e1, q, hl⟩ := h; exact ⟨a, vs, e1, q, IsL.less p hl (by simpa only [D.low] using b)⟩
  | .lst l, _, h, b => by simp only [Is] at h ⊢; obtain ⟨a, vs, e1, q, hl⟩ := h; exact ⟨a, vs, e1, q, IsL.less p hl (by simpa only [D.low] using b)⟩
  | .lck l, _, h, b => by simp only [Is] at h ⊢; obtain ⟨a, vs, e1, q, hl⟩ := h; exact ⟨a, vs, e1, q, IsL.less p hl (by simpa only [D.low] using b)⟩
  | .dct ks l, _, h, b => by simp only [Is] at h ⊢; obtain ⟨a, vs, e1, q, n, hl⟩ := h; exact ⟨a, vs, e1, q, n, IsL.less p hl (by simpa only [D.low] using b)⟩
  | .cls _, _, h, _ => by simpa only [Is] using h
  | .exc c own l, _, h, b => by
    simp only [Is] at h ⊢; obtain ⟨a, d, e1, q, n0, n1⟩ := h
    refine ⟨a, d, e1, q, n0, fun z => ?_⟩
    obtain ⟨x, fvs, ex, fx, nn, hl⟩ := n1 z
    exact ⟨x, fvs, ex, fx, nn, IsL.less p hl (by simpa only [D.low] using b)⟩
  | .lam f c q us l, _, h, b => by simp only [Is] at h ⊢; exact ⟨h.1, h.2.1, IsL.less p h.2.2 (by simpa only [D.low] using b)⟩
  | .ins c l, _, h, b => by simp only [Is] at h ⊢; obtain ⟨a, dx, fvs, e1, q, nn, hl⟩ := h; exact ⟨a, dx, fvs, e1, q, nn, IsL.less p hl (by simpa only [D.low] using b)⟩
  | .non, _, h, _ => by simpa only [Is] using h
  | .bl _, _, h, _ => by simpa only [Is] using h
  | .int _, _, h, _ => by simpa only [Is] using h
  | .str _, _, h, _ => by simpa only [Is] using h
  | .ty _, _, h, _ => by simpa only [Is] using h
theorem IsL.less (p : ρ <+: ρ') : ∀ {ds : List D} {vs : List V}, IsL W F ρ' ds vs → lowL ρ.length ds = true → IsL W F ρ ds vs
  | [], _, h, _ => by simpa only [IsL] using h
  | d :: ds, _, h, b => by
    obtain ⟨v, r, rfl, h1, h2⟩ := IsL.cons_iff.mp h
    simp only [lowL, Bool.and_eq_true] at b
    exact IsL.cons (Is.less p h1 b.1) (IsL.less p h2 b.2)
end
theorem MoIs.low {m : MO} {o : Option HO} (h : MoIs W F ρ m o) : m.low ρ.length = true := by
  cases m with
  | lst l => obtain ⟨vs, _, hl⟩ := h; exact hl.low
  | ins c l => obtain ⟨dx, fvs, _, _, hl⟩ := h; exact hl.low
  | dct ks l => obtain ⟨vs, _, _, hl⟩ := h; exact hl.low
  | dead => rfl
theorem MoIs.less (p : ρ <+: ρ') {m : MO} {o : Option HO} (h : MoIs W F ρ' m o) (b : m.low ρ.length = true) : MoIs W F ρ m o := by
  cases m with
  | lst l => obtain ⟨vs, a, hl⟩ := h; exact ⟨vs, a, hl.less p b⟩
  | ins c l => obtain ⟨dx, fvs, a, nn, hl⟩ := h; exact ⟨dx, fvs, a, nn, hl.less p b⟩
  | dct ks l => obtain ⟨vs, a, nn, hl⟩ := h; exact ⟨vs, a, nn, hl.less p b⟩
  | dead => exact h
/-- every object of a store that stands bears numbers of that store -/
theorem Rp.low (h : Rp W ξ M F H ρ) : ∀ m ∈ M, m.low M.length = true := fun m hm => by
  obtain ⟨i, hi, e⟩ := List.getElem_of_mem hm
  have hr : i < ρ.length := by rw [h.len]; exact hi
  obtain ⟨_, q⟩ := h.obj i m ρ[i] (by rw [List.getElem?_eq_getElem hi, e]) (List.getElem?_eq_getElem hr)
  have := q.low
  rw [h.len] at this; exact this
/-- the heap of what is firm, with all that the store has from n on -/
noncomputable def firm (F H : Hp) (l : List Addr) : Hp := fun a => if a ∈ l then H a else F a
theorem firm_le (rp : Rp W ξ M F H ρ') {n : Nat} : Le F (firm F H (ρ'.drop n)) := fun a o e => by
  unfold firm
  split
  · exact rp.sub _ _ e
  · exact e
theorem Rp.cut (rp : Rp W ξ M F H ρ') (p : ρ <+: ρ') (hb : ∀ m ∈ M.take ρ.length, m.low ρ.length = true) : Rp W ξ (M.take ρ.length) (firm F H (ρ'.drop ρ.length)) H ρ := by
  obtain ⟨t, rfl⟩ := p
  have hd : (ρ ++ t).drop ρ.length = t := by simp
  rw [hd]
  have nd := rp.nd
  rw [List.nodup_append] at nd
  refine ⟨fun a o e => ?_, ?_, nd.1, fun i m a em ea => ?_, fun q hq => by
    obtain ⟨q1, q2, q3⟩ := rp.xt q hq
    rw [List.mem_append, not_or] at q3
    refine ⟨q1, ?_, q3.1⟩
    unfold firm; rw [if_neg q3.2]; exact q2, fun q hq => by
    obtain ⟨t1, t2, t3, ps, t4, t5, t6⟩ := rp.tb q hq
    rw [List.mem_append, not_or] at t1
    have le : Le F (firm F H t) := by have := firm_le rp (n := ρ.length); rw [hd] at this; exact this
    refine ⟨t1.1, t2, ?_, ps, t4, t5, fun pos cv z => let ⟨c, c1, c2⟩ := t6 pos cv z; ⟨c, c1, le _ _ c2⟩⟩
    unfold firm; rw [if_neg t1.2]; exact t3⟩
  · unfold firm at e
    split at e
    · exact e
    · exact rp.sub _ _ e
  · have := rp.len; simp at this ⊢; omega
  · have hi : i < ρ.length := (List.getElem?_eq_some_iff.mp ea).1
    rw [List.getElem?_take_of_lt hi] at em
    have ea' : (ρ ++ t)[i]? = some a := by rw [List.getElem?_append_left hi]; exact ea
    obtain ⟨q1, q2⟩ := rp.obj i m a em ea'
    have hm : m ∈ M.take ρ.length := by
      have : (M.take ρ.length)[i]? = some m := by rw [List.getElem?_take_of_lt hi]; exact em
      exact List.mem_of_getElem? this
    have na : a ∉ t := fun hz => nd.2.2 a (List.mem_of_getElem? ea) a hz rfl
    have le : Le F (firm F H t) := by have := firm_le rp (n := ρ.length); rw [hd] at this; exact this
    refine ⟨?_, ((q2.mono le (List.prefix_refl _)).less (List.prefix_append _ _) (hb m hm))⟩
    unfold firm; rw [if_neg na]; exact q1
mutual
theorem frz_ok {look : Nat → Option D} {F2 : Hp} {ρ2 : List Addr} (le : Le F F2) (hlook : ∀ k d v, look k = some d → Is W F ρ (.ref k) v → Is W F2 ρ2 d v) :
    ∀ {d d' : D} {v : V}, frzD look d = some d' → Is W F ρ d v → Is W F2 ρ2 d' v
  | .ref k, d', v, e, h => hlook k d' v (by simpa only [frzD] using e) h
  | .tup l, d', v, e, h => by
    simp only [frzD, Option.map_eq_some_iff] at e; obtain ⟨l', el, rfl⟩ := e
    simp only [Is] at h ⊢; obtain ⟨a, vs, e1, q, hl⟩ := h
    exact ⟨a, vs, e1, le.sqT q, frzL_ok le hlook el hl⟩
  | .lst l, d', v, e, h => by
    simp only [frzD, Option.map_eq_some_iff] at e; obtain ⟨l', el, rfl⟩ := e
    simp only [Is] at h ⊢; obtain ⟨a, vs, e1, q, hl⟩ := h
    exact ⟨a, vs, e1, le _ _ q, frzL_ok le hlook el hl⟩
  | .lck l, d', v, e, h => by
    simp only [frzD, Option.map_eq_some_iff] at e; obtain ⟨l', el, rfl⟩ := e
    simp only [Is] at h ⊢; obtain ⟨a, vs, e1, q, hl⟩ := h
    exact ⟨a, vs, e1, le.sqL q, frzL_ok le hlook el hl⟩
  | .dct ks l, d', v, e, h => by
    simp only [frzD, Option.map_eq_some_iff] at e; obtain ⟨l', el, rfl⟩ := e
    simp only [Is] at h ⊢; obtain ⟨a, vs, e1, q, n, hl⟩ := h
    exact ⟨a, vs, e1, le _ _ q, by rw [n, frzL_len el], frzL_ok le hlook el hl⟩
  | .cls _, d', v, e, h => by simp only [frzD, Option.some.injEq] at e; subst e; simpa only [Is] using h
  | .exc c own l, d', v, e, h => by
    simp only [frzD, Option.map_eq_some_iff] at e; obtain ⟨l', el, rfl⟩ := e
    simp only [Is] at h ⊢; obtain ⟨a, d, e1, q, n0, n1⟩ := h
    refine ⟨a, d, e1, le _ _ q, fun z => ?_, fun z => ?_⟩
    · obtain ⟨z1, rfl⟩ := n0 z
      simp only [frzL, Option.some.injEq] at el
      exact ⟨z1, el.symm⟩
    · obtain ⟨x, fvs, ex, fx, nn, hl⟩ := n1 z
      exact ⟨x, fvs, ex, le _ _ fx, by rw [nn, frzL_len el], frzL_ok le hlook el hl⟩
  | .lam f c q us l, d', v, e, h => by
    simp only [frzD, Option.map_eq_some_iff] at e; obtain ⟨l', el, rfl⟩ := e
    simp only [Is] at h ⊢
    exact ⟨h.1, le _ _ h.2.1, frzL_ok le hlook el h.2.2⟩
  | .ins c l, d', v, e, h => by
    simp only [frzD, Option.map_eq_some_iff] at e; obtain ⟨l', el, rfl⟩ := e
    simp only [Is] at h ⊢; obtain ⟨a, dx, fvs, e1, q, nn, hl⟩ := h
    exact ⟨a, dx, fvs, e1, le _ _ q, by rw [nn, frzL_len el], frzL_ok le hlook el hl⟩
  | .non, d', v, e, h => by simp only [frzD, Option.some.injEq] at e; subst e; simpa only [Is] using h
  | .bl _, d', v, e, h => by simp only [frzD, Option.some.injEq] at e; subst e; simpa only [Is] using h
  | .int _, d', v, e, h => by simp only [frzD, Option.some.injEq] at e; subst e; simpa only [Is] using h
  | .str _, d', v, e, h => by simp only [frzD, Option.some.injEq] at e; subst e; simpa only [Is] using h
  | .ty _, d', v, e, h => by simp only [frzD, Option.some.injEq] at e; subst e; simpa only [Is] using h
theorem frzL_ok {look : Nat → Option D} {F2 : Hp} {ρ2 : List Addr} (le : Le F F2) (hlook : ∀ k d v, look k = some d → Is W F ρ (.ref k) v → Is W F2 ρ2 d v) :
    ∀ {ds ds' : List D} {vs : List V}, frzL look ds = some ds' → IsL W F ρ ds vs → IsL W F2 ρ2 ds' vs
  | [], ds', vs, e, h => by simp only [frzL, Option.some.injEq] at e; subst e; simpa only [IsL] using h
  | d :: ds, ds', vs, e, h => by
    obtain ⟨v, r, rfl, h1, h2⟩ := IsL.cons_iff.mp h
    simp only [frzL] at e
    cases e1 : frzD look d with
    | none => rw [e1] at e; cases e
    | some x =>
      cases e2 : frzL look ds with
      | none => rw [e1, e2] at e; cases e
      | some xs =>
        rw [e1, e2] at e
        cases e
        exact IsL.cons (frz_ok le hlook e1 h1) (frzL_ok le hlook e2 h2)
end
theorem look_ok (rp : Rp W ξ M F H ρ') (p : ρ <+: ρ') : ∀ (f k : Nat) (d : D) (v : V), lookN ρ.length M f k = some d → Is W F ρ' (.ref k) v → Is W (firm F H (ρ'.drop ρ.length)) ρ d v := by
  intro f
  have old : ∀ (k : Nat) (v : V), k < ρ.length → Is W F ρ' (.ref k) v → Is W (firm F H (ρ'.drop ρ.length)) ρ (.ref k) v := fun k v hk h =>
    (h.mono (firm_le rp) (List.prefix_refl _)).less p (by simp only [D.low, decide_eq_true_eq]; exact hk)
  induction f with
  | zero =>
    intro k d v e h
    unfold lookN at e
    split at e
    · rename_i hk; cases e; exact old k v hk h
    · cases e
  | succ f ih =>
    intro k d v e h
    unfold lookN at e
    split at e
    · rename_i hk; cases e; exact old k v hk h
    · rename_i hk
      simp only [Is] at h
      obtain ⟨a, rfl, ea⟩ := h
      have hmem : a ∈ ρ'.drop ρ.length := by
        obtain ⟨t, rfl⟩ := p
        rw [List.getElem?_append_right (by omega)] at ea
        simpa using List.mem_of_getElem? ea
      cases em : M[k]? with
      | none => rw [em] at e; cases e
      | some m =>
        rw [em] at e
        cases m with
        | lst l =>
          simp only [Option.map_eq_some_iff] at e; obtain ⟨l', el, rfl⟩ := e
          obtain ⟨_, vs, hv, hl⟩ := rp.obj k _ a em ea
          simp only [Is]
          exact ⟨a, vs, rfl, by unfold firm; rw [if_pos hmem]; exact hv, frzL_ok (firm_le rp) ih el hl⟩
        | ins c l =>
          simp only [Option.map_eq_some_iff] at e; obtain ⟨l', el, rfl⟩ := e
          obtain ⟨_, dx, fvs, hv, hn, hl⟩ := rp.obj k _ a em ea
          simp only [Is]
          exact ⟨a, dx, fvs, rfl, by unfold firm; rw [if_pos hmem]; exact hv, by rw [hn, frzL_len el], frzL_ok (firm_le rp) ih el hl⟩
        | dct ks l =>
          simp only [Option.map_eq_some_iff] at e; obtain ⟨l', el, rfl⟩ := e
          obtain ⟨_, vs, hv, hn, hl⟩ := rp.obj k _ a em ea
          simp only [Is]
          exact ⟨a, vs, rfl, by unfold firm; rw [if_pos hmem]; exact hv, by rw [hn, frzL_len el], frzL_ok (firm_le rp) ih el hl⟩
        | dead => cases e
end
def lowF (n : Nat) : Flds → Bool
  | none => true
  | some l => lowL n l
/-- what a call leaves in the store: n objects, as they were or bearing no new numbers -/
def Kept (M M' : Stor) : Prop := M'.take M.length = M ∨ ∀ m ∈ M'.take M.length, m.low M.length = true
open Classical in
/-- the new objects are made firm at a call's end -/
noncomputable def frz (M : Stor) (r : R D) : R D := match r with
  | .ok d M' => if M'.length = M.length then .ok d M' else if Kept M M' then (match frzD (lookN M.length M' 4) d with
    | some d' => .ok d' (M'.take M.length)
    | none => .no) else .no
  | .ex c fs M' => if M'.length = M.length then .ex c fs M' else if Kept M M' ∧ lowF M.length fs = true then .ex c fs (M'.take M.length) else .no
  | .no => .no
section
variable {W : Wd} {ξ : Xi} {F F' H H' : Hp} {ρ ρ' : List Addr} {M M' : Stor}
theorem Kept.low (k : Kept M M') (rp : Rp W ξ M F H ρ) : ∀ m ∈ M'.take M.length, m.low M.length = true := by
  rcases k with k | k
  · rw [k]; exact rp.low
  · exact k
theorem XcIs.mono {k : Nat} {fs : Flds} {dx : Option Addr} (h : XcIs W F ρ k fs dx) (e : Le F F') (p : ρ <+: ρ') : XcIs W F' ρ' k fs dx := by
  cases fs with
  | none => exact h
  | some q => obtain ⟨x, fvs, a, b, c, d⟩ := h; exact ⟨x, fvs, a, e _ _ b, c, d.mono e p⟩
theorem XcIs.less {k : Nat} {fs : Flds} {dx : Option Addr} (h : XcIs W F ρ' k fs dx) (p : ρ <+: ρ') (b : lowF ρ.length fs = true) : XcIs W F ρ k fs dx := by
  cases fs with
  | none => exact h
  | some q => obtain ⟨x, fvs, a, b', c, d⟩ := h; exact ⟨x, fvs, a, b', c, d.less p b⟩
/-- what is shown of the firm end is shown of the end -/
theorem Po.frz {r : R D} {Q : VK} {E : XK} (rp : Rp W ξ M F H ρ) (po : Po W ξ (Is W) F ρ (frz M r) Q E) : Po W ξ (Is W) F ρ r Q E := by
  cases r with
  | no => exact po
  | ok d M' =>
    unfold G.frz at po
    simp only at po
    split at po
    · exact po
    · split at po
      · rename_i hk
        cases e : frzD (lookN M.length M' 4) d with
        | none => rw [e] at po; exact po.elim
        | some d' =>
          rw [e] at po
          intro v F' ρ' H' le p rp' is
          have hl := hk.low rp
          rw [← rp.len] at hl e po
          refine po v (firm F' H' (ρ'.drop ρ.length)) ρ H' (le.tr (firm_le rp')) (List.prefix_refl _) (rp'.cut p hl) ?_
          exact frz_ok (firm_le rp') (look_ok rp' p 4) e is
      · exact po.elim
  | ex c fs M' =>
    unfold G.frz at po
    simp only at po
    split at po
    · exact po
    · split at po
      · rename_i hk
        intro dx F' ρ' H' le p rp' is
        have hl := hk.1.low rp
        have hf := hk.2
        rw [← rp.len] at hl po hf
        exact po dx (firm F' H' (ρ'.drop ρ.length)) ρ H' (le.tr (firm_le rp')) (List.prefix_refl _) (rp'.cut p hl) ((is.mono (firm_le rp') (List.prefix_refl _)).less p hf)
      · exact po.elim
end
end G

namespace G
open PySem PySem.Spec PyProof.Rows L2
/-! ### defs and calls -/
/-- a def's promise -/
def spG (W : Wd) (g : List D → Stor → R D) : Sp := fun vs H Q E => ∃ ξ ds M F ρ, IsL W F ρ ds vs ∧ Rp W ξ M F H ρ ∧ Po W ξ (Is W) F ρ (g ds M) Q E
/-- the def at f does what g says, where no repr is under way -/
structure FnG (P : Program) (w : World) (W : Wd) (mg : Str → Option Value) (base : Heap) (k : Nat) (f : Addr) (fd : FuncData) (ps : List Str) (g : List D → Stor → R D) : Prop where
  len : ∀ vs H Q E, spG W g vs H Q E → vs.length = ps.length
  run : ∀ (A : Around) (outer : List Env) (s : Shared) (H : Hp) (args : Args) (us : List Value) (vs : List V) (Q : VK) (E : XK), Room k A → A.guards = some [] → Env0 P w W.K mg base A outer s H →
    BindsTo s fd args (ps.zip us) → Vals vs us → spG W g vs H Q E → codeAny (model P w) A (.call (.ref f) args) (CR (L2.CX P w) outer P w H s Q E) s
def outS (r : RS) : R D := match r with
  | .nx _ M => .ok .non M
  | .rt d M => .ok d M
  | .ex c fs _ M => .ex c fs M
  | _ => .no
@[simp] theorem outS_nx (g : Gam) (M : Stor) : outS (.nx g M) = .ok .non M := rfl
@[simp] theorem outS_rt (d : D) (M : Stor) : outS (.rt d M) = .ok d M := rfl
@[simp] theorem outS_ex (c : Nat) (fs : Flds) (g : Gam) (M : Stor) : outS (.ex c fs g M) = .ex c fs M := rfl
/-- a def: n parameters, N names -/
def gFn (n N : Nat) (gb : GS') : List D → Stor → R D := fun ds M => if ds.length = n then outS (gb (ds.map some ++ List.replicate (N - n) none) M) else .no
section
variable {P : Program} {w : World} {W : Wd} {ξ : Xi} {mg : Str → Option Value} {base : Heap} {x qual : Str} {params : Arguments} {body : List Stmt} {scope : Scope} {dvs : List V} {kws : List (Str × V)} {f : Addr} {fd : FuncData}
theorem en_start {N : List Str} {F : Hp} {ρ : List Addr} {ds : List D} {vs : List V} (h : IsL W F ρ ds vs) : En W (ds.map some ++ List.replicate (N.length - ds.length) none) (L2.start N vs) F ρ := by
  have el := h.len
  unfold L2.start
  refine ⟨by simp [el], fun i d q => ?_⟩
  by_cases hi : i < ds.length
  · rw [List.getElem?_append_left (by simpa using hi), List.getElem?_map] at q
    cases e : ds[i]? with
    | none => rw [e] at q; cases q
    | some d' =>
      rw [e] at q
      simp at q; subst q
      obtain ⟨v, ev, is⟩ := h.get e
      refine ⟨v, ?_, is⟩
      rw [List.getElem?_append_left (by simpa [el] using hi), List.getElem?_map, ev]; rfl
  · rw [List.getElem?_append_right (by simpa using hi)] at q
    rw [List.getElem?_replicate] at q
    split at q
    · cases q
    · cases q
theorem fng_of {N ps : List Str} {k : Nat} {gb : GS'} (F : FunD W.K x qual params body scope dvs kws f fd) (S : FnScope N ps scope)
    (hb : ∀ (cdv : Value) (A : Around) (outer : List Env) (s : Shared) (H : Hp) (E : XK), Room k (A.deeper (envOfC qual scope s.heap.objs.size f cdv)) → A.guards = some [] →
      GSs (cxOf (L2.CX P w) P w W.K mg base N qual scope f cdv A outer s H E) W (fun _ => E) body gb) : FnG P w W mg base (k + 1) f fd ps (gFn ps.length N.length gb) := by
  have len : ∀ vs H Q E, spG W (gFn ps.length N.length gb) vs H Q E → vs.length = ps.length := fun vs H Q E h => by
    obtain ⟨ξ, ds, M, F', ρ, is, rp, po⟩ := h
    unfold gFn at po
    split at po
    · rename_i e; rw [is.len]; exact e
    · exact po.elim
  refine ⟨len, fun A outer st H args us vs Q Z room gd env binds rel hsp => ?_⟩
  obtain ⟨oc, od, dV, kV, doc, pm, an, cdv, ct, osl, rfl, lk, hcd, _, _⟩ := F.ex
  have hlen := len _ _ _ _ hsp
  have kin : W.K.In st.heap := env.mod.kin.keeps (fun b o z => (env.bs b o z).1)
  have nolim : st.heap.NoLimit := env.mod.nolimit.keeps (fun b o z => (env.bs b o z).1)
  have kinds : ∀ y ∈ ps.zip us, scope.names.lookup y.1 = some .local ∨
      (scope.names.lookup y.1 = some .cell ∧ ((cellsFrom (st.heap.objs.size + 1) scope.names []).lookup y.1).isSome = true) := by
    rintro ⟨nm, val⟩ hy
    have hin := (List.of_mem_zip hy).1
    cases S.par nm hin with
    | inl z => exact Or.inl z
    | inr z => exact Or.inr ⟨z, PySem.W.cellsFrom_some _ _ _ (Or.inl z)⟩
  refine codeAny_call_function room.depth (kin _ _ lk) rfl S.co S.gen rfl (PySem.W.codeRec_of kin hcd)
    (binds _ _ _ _ (wpAny_newFunctionEnv_cells S.kind kinds fun env' he s1 x1 => ?_))
  subst he
  refine ⟨nolim.keeps x1.toInCall.keep, codeAny_func ?_⟩
  have GB := hb cdv A outer st H Z (room.deeper _) gd
  have I : Inv (cxOf (L2.CX P w) P w W.K mg base N qual scope f cdv A outer st H Z) [] (L2.start N vs) H s1 := inv_start S room.hd env hlen rel x1
  have hq : tGS W (fun _ => Z) gb { nx := fun _ H' => Q .non H', rt := Q } (L2.start N vs) H := by
    obtain ⟨ξ, ds, M, F', ρ, is, rp, po⟩ := hsp
    unfold gFn at po
    split at po
    · rename_i e
      refine ⟨ξ, _, M, F', ρ, en_start (N := N) is, rp, ?_⟩
      rw [← e] at po
      cases er : gb (ds.map some ++ List.replicate (N.length - ds.length) none) M with
      | nx g M1 => rw [er] at po; exact fun σ' F2 ρ2 H2 le p rp2 en2 => po .non F2 ρ2 H2 le p rp2 (by simp only [Is])
      | rt d M1 => rw [er] at po; exact po
      | bk g M1 => rw [er] at po; exact po.elim
      | ct g M1 => rw [er] at po; exact po.elim
      | ex c fs g M1 => rw [er] at po; exact fun σ' dx F2 ρ2 H2 le p rp2 en2 xc => po dx F2 ρ2 H2 le p rp2 xc
      | no => rw [er] at po; exact po.elim
    · exact po.elim
  refine wpAny_mono (GB.run [] s1 _ H _ I hq) (fun fl s' out => ?_) (fun er s' out => out)
  cases fl with
  | ret u => obtain ⟨v, σ', H', J, rv, q⟩ := out; exact ⟨v, H', J.os, J.bare, J.base, J.hok, rv, q⟩
  | next => obtain ⟨σ', H', J, q⟩ := out; exact ⟨.non, H', J.os, J.bare, J.base, J.hok, rfl, q⟩
  | brk => obtain ⟨_, _, _, q⟩ := out; exact q.elim
  | cont => obtain ⟨_, _, _, q⟩ := out; exact q.elim
theorem FnG.imp {k : Nat} {ps : List Str} {g g' : List D → Stor → R D} (h : FnG P w W mg base k f fd ps g) (i : ∀ vs H Q E, spG W g' vs H Q E → spG W g vs H Q E) : FnG P w W mg base k f fd ps g' :=
  ⟨fun vs H Q E z => h.len vs H Q E (i vs H Q E z), fun A outer s H args us vs Q E hr hg e0 hb r z => h.run A outer s H args us vs Q E hr hg e0 hb r (i vs H Q E z)⟩
theorem FnG.mono {j k : Nat} {ps : List Str} {g : List D → Stor → R D} (h : FnG P w W mg base j f fd ps g) (hjk : j ≤ k) : FnG P w W mg base k f fd ps g :=
  ⟨h.len, fun A outer s H args us vs Q E hr => h.run A outer s H args us vs Q E (hr.mono hjk)⟩
/-- the new objects are firm behind the call -/
theorem FnG.frz {k : Nat} {ps : List Str} {g : List D → Stor → R D} (h : FnG P w W mg base k f fd ps g) : FnG P w W mg base k f fd ps (fun ds M => frz M (g ds M)) :=
  h.imp fun vs H Q E ⟨ξ, ds, M, F', ρ, is, rp, po⟩ => ⟨ξ, ds, M, F', ρ, is, rp, Po.frz rp po⟩
theorem FnG.cong {k : Nat} {ps : List Str} {g g' : List D → Stor → R D} (h : FnG P w W mg base k f fd ps g) (e : g = g') : FnG P w W mg base k f fd ps g' := e ▸ h
end
section
variable {X : Cx} {W : Wd} {ξ : Xi} {E : Sg → XK} {e : Expr} {es : List Expr} {pos p : Pos} {gs : GA'} {x : Str}
def CallG (X : Cx) (W : Wd) (E : Sg → XK) (f : Value) (g : List D → Stor → R D) : Prop :=
  ∀ (ξ : Xi) (pins : List (Addr × Obj)) (s : Shared) (σ : Sg) (H : Hp) (M : Stor) (F : Hp) (ρ : List Addr) (ds : List D) (vs : List V) (us : List Value) (Q : VK),
    Inv X pins σ H s → Vals vs us → Rp W ξ M F H ρ → IsL W F ρ ds vs → Po W ξ (Is W) F ρ (g ds M) Q (E σ) →
    wpAny (model X.prog X.w) X.A (call f us) (EP X pins σ Q) X.xe s
abbrev Pass (X : Cx) (E : Sg → XK) : Prop := ∀ σ, PassesAt (L2.CX X.prog X.w) X σ (E σ)
theorem run_g {k : Nat} {f : Addr} {fd : FuncData} {ps : List Str} {g : List D → Stor → R D} {dvs : List V} {dus : List Value} {pins : List (Addr × Obj)} {σ : Sg} {H : Hp} {s : Shared} {Q : VK} {us : List Value} {vs : List V}
    (F : FnG X.prog X.w W X.mg X.base k f fd ps g) (hK : X.K = W.K) (hr : Room k X.A) (gd : X.A.guards = some []) (hb : Binds X.K fd ps dus) (hd : Vals dvs dus) (hx : PassesAt (L2.CX X.prog X.w) X σ (E σ))
    (I : Inv X pins σ H s) (r : Vals vs us) (h : spG W g (vs ++ dvs) H Q (E σ)) : wpAny (model X.prog X.w) X.A (call (.ref f) us) (EP X pins σ Q) X.xe s := by
  have rel := r.append hd
  have hlen : (us ++ dus).length = ps.length := by rw [← rel.length, F.len _ _ _ _ h]
  have e0 := I.env0
  rw [hK] at e0
  refine wpAny_call (codeAny_mono (F.run X.A X.stack s H ⟨us, []⟩ (us ++ dus) (vs ++ dvs) Q (E σ) hr gd e0 (hb s us I.kIn hlen) rel h) fun res s' out => ?_)
  cases res with
  | error er => exact hx pins H s er s' I out
  | ok fl =>
    cases fl with
    | ret u => exact I.after out
    | next => exact out.elim
    | brk => exact out.elim
    | cont => exact out.elim
theorem callg_fn {k : Nat} {f : Addr} {fd : FuncData} {ps : List Str} {g : List D → Stor → R D} {dds : List D} {dvs : List V} {dus : List Value} (F : FnG X.prog X.w W X.mg X.base k f fd ps g) (hK : X.K = W.K) (hr : Room k X.A) (gd : X.A.guards = some [])
    (hb : Binds X.K fd ps dus) (hd : Vals dvs dus) (fl : ∀ F ρ, IsL W F ρ dds dvs) (hx : Pass X E) : CallG X W E (.ref f) (fun xs M => g (xs ++ dds) M) :=
  fun ξ pins s σ H M F' ρ ds vs us Q I r rp is po => run_g F hK hr gd hb hd (hx σ) I r ⟨ξ, ds ++ dds, M, F', ρ, is.append (fl F' ρ), rp, po⟩
theorem callg_fn0 {k : Nat} {f : Addr} {fd : FuncData} {ps : List Str} {g : List D → Stor → R D} (F : FnG X.prog X.w W X.mg X.base k f fd ps g) (hK : X.K = W.K) (hr : Room k X.A) (gd : X.A.guards = some [])
    (hb : Binds X.K fd ps []) (hx : Pass X E) : CallG X W E (.ref f) g :=
  fun ξ pins s σ H M F' ρ ds vs us Q I r rp is po => run_g (dvs := []) (dus := []) F hK hr gd hb .nil (hx σ) I r ⟨ξ, ds, M, F', ρ, by rw [List.append_nil]; exact is, rp, po⟩
theorem CallG.of {f : Value} {r : List V → Hp → VK → Prop} {g : List D → Stor → R D} (h : CallR X f r)
    (k : ∀ (ξ : Xi) (M : Stor) (F H : Hp) (ρ : List Addr) (ds : List D) (vs : List V) (Q : VK) (Z : XK), Rp W ξ M F H ρ → IsL W F ρ ds vs → Po W ξ (Is W) F ρ (g ds M) Q Z → r vs H Q) : CallG X W E f g :=
  fun ξ pins s σ H M F ρ ds vs us Q I rv rp is po => h pins s σ H vs us Q I rv (k ξ M F H ρ ds vs Q (E σ) rp is po)
theorem CallG.or {f : Value} {g g' : List D → Stor → R D} (h : CallG X W E f g) (h' : CallG X W E f g') : CallG X W E f (fun ds M => orR (g ds M) (g' ds M)) :=
  fun ξ pins s σ H M F ρ ds vs us Q I rv rp is po => by
    cases e : g ds M with
    | no => simp only [e, orR_no] at po; exact h' ξ pins s σ H M F ρ ds vs us Q I rv rp is po
    | ok a M1 => simp only [e, orR_ok] at po; exact h ξ pins s σ H M F ρ ds vs us Q I rv rp is (by rw [e]; exact po)
    | ex c fs M1 => simp only [e, orR_ex] at po; exact h ξ pins s σ H M F ρ ds vs us Q I rv rp is (by rw [e]; exact po)
theorem CallG.frz {f : Value} {g : List D → Stor → R D} (h : CallG X W E f g) : CallG X W E f (fun ds M => frz M (g ds M)) :=
  fun ξ pins s σ H M F ρ ds vs us Q I rv rp is po => h ξ pins s σ H M F ρ ds vs us Q I rv rp is (Po.frz rp po)
theorem under_guards {A : Around} {C : Addr} {us : List Value} {kw : List (Str × Value)} : (A.under (.builtin "type.__call__" ⟨.ref C :: us, kw⟩)).guards = A.guards := by
  unfold Around.under
  have h : (Code.builtin "type.__call__" ⟨.ref C :: us, kw⟩).isGuard = false := (by decide +kernel : guardIds.contains "type.__call__" = false)
  simp only [Code.guards, h]
  cases A.guards <;> simp [pushGuards]
/-- a new instance by an own __init__ -/
def gMakeM (c : Nat) (g : List D → Stor → R D) : List D → Stor → R D := fun xs M => (g (.ref M.length :: xs) (M ++ [.ins c []])).bind fun r M' => match r with
  | .non => .ok (.ref M.length) M'
  | _ => .no
theorem callg_make {k c : Nat} {C f : Addr} {fd : FuncData} {ps : List Str} {g : List D → Stor → R D} {dds : List D} {dvs : List V} {dus : List Value} (hT : W.T c = C) (MK : Mk X.K C f) (F : FnG X.prog X.w W X.mg X.base k f fd ps g) (hK : X.K = W.K) (hr : Room (k + 1) X.A) (gd : X.A.guards = some [])
    (hb : Binds X.K fd ps dus) (hd : Vals dvs dus) (fl : ∀ F ρ, IsL W F ρ dds dvs) (hx : Pass X E) : CallG X W E (.ref C) (gMakeM c fun xs M => g (xs ++ dds) M) := by
  intro ξ pins s σ H M F' ρ ds vs us Q I r rp is po
  have nx := I.hok.fresh (a := s.heap.objs.size + 1) (Nat.le_succ _)
  have ndx := I.hok.fresh (a := s.heap.objs.size) (Nat.le_refl _)
  have hne : s.heap.objs.size + 1 ≠ s.heap.objs.size := Nat.succ_ne_self _
  have I2 := Inv.made (C := C) I
  have r2 : Vals (V.ref (s.heap.objs.size + 1) :: (vs ++ dvs)) (Value.ref (s.heap.objs.size + 1) :: (us ++ dus)) := .cons rfl (r.append hd)
  have rp1 : Rp W ξ M F' (upd H s.heap.objs.size (.own (s.heap.objs.size + 1))) ρ := rp.newH ndx
  have nx1 : (upd H s.heap.objs.size (.own (s.heap.objs.size + 1))) (s.heap.objs.size + 1) = none := by rw [upd_ne hne]; exact nx
  have rp2 := rp1.mut (m := .ins c []) (o := .ins C s.heap.objs.size []) nx1 ⟨s.heap.objs.size, [], by rw [hT], by simp, IsL.nil⟩
  have pr : ρ <+: ρ ++ [s.heap.objs.size + 1] := List.prefix_append _ _
  have isx : Is W F' (ρ ++ [s.heap.objs.size + 1]) (.ref M.length) (.ref (s.heap.objs.size + 1)) := by
    simp only [Is]
    exact ⟨_, rfl, by rw [List.getElem?_append_right (by rw [rp.len]; exact Nat.le_refl _), rp.len]; simp⟩
  have hq : spG W g (V.ref (s.heap.objs.size + 1) :: (vs ++ dvs)) (upd (upd H s.heap.objs.size (.own (s.heap.objs.size + 1))) (s.heap.objs.size + 1) (.ins C s.heap.objs.size []))
      (fun v H2 => v = .non ∧ Q (.ref (s.heap.objs.size + 1)) H2) (E σ) := by
    refine ⟨ξ, .ref M.length :: (ds ++ dds), _, F', _, IsL.cons isx ((is.mono Le.rfl' pr).append (fl _ _)), rp2, ?_⟩
    have po' := Po.bind (rel := Is W) (Po.mono po Le.rfl' pr)
    refine po'.imp ?_
    rintro v H2 ⟨d, M2, F2, ρ2, le2, p2, rp3, isd, po2⟩
    cases d with
    | non =>
      simp only [Is] at isd; subst isd
      exact ⟨rfl, po2 _ F2 ρ2 H2 Le.rfl' (List.prefix_refl _) rp3 (isx.mono le2 p2)⟩
    | _ => exact po2.elim
  have hl : (Value.ref (s.heap.objs.size + 1) :: us ++ dus).length = ps.length := by
    have e := r2.length
    rw [F.len _ _ _ _ hq] at e
    exact e.symm
  have e0 := I2.env0.make C us []
  rw [hK] at e0
  have run := F.run _ X.stack _ _ ⟨Value.ref (s.heap.objs.size + 1) :: us, []⟩ _ _ _ (E σ) (hr.make C us []) (by rw [under_guards]; exact gd) e0 (hb _ _ I2.kIn hl) r2 hq
  refine wpAny_call (make_map (f := f) I.kIn MK.makes MK.init (beq_iff_eq.mp MK.fn) (codeAny_mono run fun res s' hq' => ?_))
  cases res with
  | error er => exact hx σ pins _ _ er s' I2 hq'
  | ok fl =>
    cases fl with
    | ret u =>
      obtain ⟨v, H', I3, rv, ev, q3⟩ := I2.after hq'
      subst ev
      exact ⟨rv, ⟨V.ref (s.heap.objs.size + 1), H', I3, rfl, q3⟩⟩
    | next => exact False.elim hq'
    | brk => exact False.elim hq'
    | cont => exact False.elim hq'
/-! ### f(..) as an expression -/
def gCall (g : List D → Stor → R D) (a : GA') : GE' := fun Γ M => (a Γ M).bind fun xs M1 => g xs M1
theorem ge_call {f : Addr} {g : List D → Stor → R D} (hc : CallG X W E (.ref f) g) (hg : Gl X x) (hm : X.mg x = some (.ref f)) (hk : PySem.W.keepIn X.K (.ref f) = true) (ha : GA X W E (e :: es) gs)
    (hdb : (x == ("__debug__" : Str)) = false := by decide) (he : starEach (e :: es) X.env = (false, eval e X.env) :: starEach es X.env := by rfl) (hpl : (backTo pos (starEach es X.env)).any (·.1) = false := by rfl) :
    GE X W E (.Call (.Name x p) (e :: es) [] pos) (gCall g gs) := by
  refine ⟨fun pins s σ H Q I ⟨ξ, Γ, M, F, ρ, en, rp, po⟩ => ?_⟩
  refine wpAny_Call_Name_kw (ld_glob I hg hm ?_ hdb)
  refine PySem.W.callWith_K (h₀ := X.base) I.ok.mod.kin hk (thn (ha.run pos pins s σ H _ I ⟨ξ, Γ, M, F, ρ, en, rp, po.bind⟩) ?_) he hpl
  rintro us s1 ⟨vs, H1, I1, r, ds, M1, F1, ρ1, e1, p1, rp1, is, po1⟩
  exact ⟨I1.kIn, hc ξ pins s1 σ H1 M1 F1 ρ1 ds vs us Q I1 r rp1 is po1⟩
theorem ge_call0 {f : Addr} {g : List D → Stor → R D} (hc : CallG X W E (.ref f) g) (hg : Gl X x) (hm : X.mg x = some (.ref f)) (hk : PySem.W.keepIn X.K (.ref f) = true)
    (hdb : (x == ("__debug__" : Str)) = false := by decide) : GE X W E (.Call (.Name x p) [] [] pos) (gCall g gNil) := by
  refine ⟨fun pins s σ H Q I ⟨ξ, Γ, M, F, ρ, en, rp, po⟩ => ?_⟩
  refine wpAny_Call_Name_kw (ld_glob I hg hm ?_ hdb)
  exact PySem.W.callWith_K0 I.kIn hk (hc ξ pins s σ H M F ρ [] [] [] Q I .nil rp IsL.nil po)
theorem ge_callB {id : String} {g : List D → Stor → R D} (hc : CallG X W E (.builtin id) g) (hg : Gl X x) (hm : X.mg x = none) (hv : bootBuiltins x = some (.builtin id)) (ha : GA X W E (e :: es) gs) (hn : x ≠ "__name__" := by decide)
    (hdb : (x == ("__debug__" : Str)) = false := by decide) (he : starEach (e :: es) X.env = (false, eval e X.env) :: starEach es X.env := by rfl) (hpl : (backTo pos (starEach es X.env)).any (·.1) = false := by rfl) :
    GE X W E (.Call (.Name x p) (e :: es) [] pos) (gCall g gs) := by
  refine ⟨fun pins s σ H Q I ⟨ξ, Γ, M, F, ρ, en, rp, po⟩ => ?_⟩
  refine wpAny_Call_Name_kw (ld_blt I hg hm hv ?_ hn hdb)
  refine PyProof.Rows.callWith_builtin1 (thn (ha.run pos pins s σ H _ I ⟨ξ, Γ, M, F, ρ, en, rp, po.bind⟩) ?_) he hpl
  rintro us s1 ⟨vs, H1, I1, r, ds, M1, F1, ρ1, e1, p1, rp1, is, po1⟩
  exact hc ξ pins s1 σ H1 M1 F1 ρ1 ds vs us Q I1 r rp1 is po1
theorem ge_callTy {T : String} {g : List D → Stor → R D} (hc : CallG X W E (.type T) g) (hg : Gl X x) (hm : X.mg x = none) (hv : bootBuiltins x = some (.type T)) (ha : GA X W E (e :: es) gs) (hn : x ≠ "__name__" := by decide)
    (hdb : (x == ("__debug__" : Str)) = false := by decide) (he : starEach (e :: es) X.env = (false, eval e X.env) :: starEach es X.env := by rfl) (hpl : (backTo pos (starEach es X.env)).any (·.1) = false := by rfl) :
    GE X W E (.Call (.Name x p) (e :: es) [] pos) (gCall g gs) := by
  refine ⟨fun pins s σ H Q I ⟨ξ, Γ, M, F, ρ, en, rp, po⟩ => ?_⟩
  refine wpAny_Call_Name_kw (ld_blt I hg hm hv ?_ hn hdb)
  refine PyProof.Rows.callWith_type1 (thn (ha.run pos pins s σ H _ I ⟨ξ, Γ, M, F, ρ, en, rp, po.bind⟩) ?_) he hpl
  rintro us s1 ⟨vs, H1, I1, r, ds, M1, F1, ρ1, e1, p1, rp1, is, po1⟩
  exact hc ξ pins s1 σ H1 M1 F1 ρ1 ds vs us Q I1 r rp1 is po1
end
end G

namespace G
open PySem PySem.Spec PyProof.Rows L2
/-! ### operators on plain data -/
def dI (g : Int → Int → Option D) : D → D → Stor → R D := fun x y M => match x, y with
  | .int i, .int j => (match g i j with
    | some d => .ok d M
    | none => .no)
  | _, _ => .no
def mulOk (i j : Int) : Bool := decide (i.natAbs < 2 ^ 64) || decide (j.natAbs < 2 ^ 64) || decide (i.natAbs.log2 + j.natAbs.log2 < 1000000)
def divOk (j : Int) : Bool := decide (j ≠ 0) && decide (j.natAbs.log2 < 9000)
def powOk (i j : Int) : Bool := decide (0 ≤ j) && decide (j ≤ 1000000) && decide (i.natAbs < 2 ^ 64)
def dAddI := dI fun i j => some (.int (i + j))
def dSubI := dI fun i j => some (.int (i - j))
def dMulI := dI fun i j => if mulOk i j then some (.int (i * j)) else none
def dDivI := dI fun i j => if divOk j then some (.int (i.fdiv j)) else none
def dModI := dI fun i j => if j = 0 then none else some (.int (i.fmod j))
def dPowI := dI fun i j => if powOk i j then some (.int (i ^ j.toNat)) else none
def dLtI := dI fun i j => some (.bl (decide (i < j)))
def dLeI := dI fun i j => some (.bl (decide (i ≤ j)))
def dGtI := dI fun i j => some (.bl (decide (j < i)))
def dGeI := dI fun i j => some (.bl (decide (j ≤ i)))
section
variable {X : Cx} {W : Wd} {ξ : Xi} {E : Sg → XK}
theorem dI_ok {g : Int → Int → Option D} {M : Stor} {F H : Hp} {ρ : List Addr} {x y : D} {vx vy : V} {Q : VK} {Z : XK} (ix : Is W F ρ x vx) (iy : Is W F ρ y vy) (po : Po W ξ (Is W) F ρ (dI g x y M) Q Z) :
    ∃ i j d, vx = .int i ∧ vy = .int j ∧ g i j = some d ∧ Po W ξ (Is W) F ρ (.ok d M) Q Z := by
  unfold dI at po
  split at po
  · simp only [Is] at ix iy
    subst ix; subst iy
    split at po
    · rename_i d hd
      exact ⟨_, _, d, rfl, rfl, hd, po⟩
    · exact po.elim
  · exact po.elim
theorem Po.now {M : Stor} {F H : Hp} {ρ : List Addr} {d : D} {v : V} {Q : VK} {Z : XK} (po : Po W ξ (Is W) F ρ (.ok d M) Q Z) (rp : Rp W ξ M F H ρ) (is : Is W F ρ d v) : Q v H := po v F ρ H Le.rfl' (List.prefix_refl _) rp is
theorem opg_I {f : Value → Value → Sem Value} {C : Int → Int → Prop} {g : Int → Int → Option D} {h : Int → Int → V} (ho : OpR X f (rI C h)) (k : ∀ i j d, g i j = some d → C i j ∧ Flat W d (h i j)) : OpG X W E f (dI g) :=
  OpG.of ho fun ξ M F H ρ x y vx vy Q Z rp ix iy po => by
    obtain ⟨i, j, d, rfl, rfl, hd, po⟩ := dI_ok (H := H) ix iy po
    obtain ⟨c, fl⟩ := k i j d hd
    exact ⟨i, j, rfl, rfl, c, po.now rp (fl F ρ)⟩
theorem opg_I0 {f : Value → Value → Sem Value} {g : Int → Int → Option D} {h : Int → Int → V} (ho : OpR X f (rI0 h)) (k : ∀ i j d, g i j = some d → Flat W d (h i j)) : OpG X W E f (dI g) :=
  OpG.of ho fun ξ M F H ρ x y vx vy Q Z rp ix iy po => by
    obtain ⟨i, j, d, rfl, rfl, hd, po⟩ := dI_ok (H := H) ix iy po
    exact ⟨i, j, rfl, rfl, po.now rp (k i j d hd F ρ)⟩
theorem og_addI : OpG X W E (binaryOp .Add) dAddI := opg_I0 op_add fun i j d h => by cases h; exact flat_int
theorem og_subI : OpG X W E (binaryOp .Sub) dSubI := opg_I0 op_sub fun i j d h => by cases h; exact flat_int
theorem og_iaddI : OpG X W E (inplaceOp .Add) dAddI := opg_I0 iop_add fun i j d h => by cases h; exact flat_int
theorem og_isubI : OpG X W E (inplaceOp .Sub) dSubI := opg_I0 iop_sub fun i j d h => by cases h; exact flat_int
theorem og_ltI : OpG X W E (compareOp .Lt) dLtI := opg_I0 op_lt fun i j d h => by cases h; exact flat_bl
theorem og_leI : OpG X W E (compareOp .LtE) dLeI := opg_I0 op_le fun i j d h => by cases h; exact flat_bl
theorem og_gtI : OpG X W E (compareOp .Gt) dGtI := opg_I0 op_gt fun i j d h => by cases h; exact flat_bl
theorem og_geI : OpG X W E (compareOp .GtE) dGeI := opg_I0 op_ge fun i j d h => by cases h; exact flat_bl
theorem mulOk_ok {i j : Int} (h : mulOk i j = true) : CMul i j ∨ CMulW i j := by
  simp only [mulOk, Bool.or_eq_true, decide_eq_true_eq] at h
  rcases h with (h | h) | h
  · left; left; constructor <;> omega
  · left; right; constructor <;> omega
  · right; exact h
theorem og_mulI : OpG X W E (binaryOp .Mult) dMulI := opg_I (C := fun i j => CMul i j ∨ CMulW i j) (h := fun i j => .int (i * j)) (opI fun _ _ _ _ _ _ _ hc q => mul_int q (hc.elim CMul.ok CMulW.ok)) fun i j d h => by
  split at h
  · rename_i hm; cases h; exact ⟨mulOk_ok hm, flat_int⟩
  · cases h
theorem og_imulI : OpG X W E (inplaceOp .Mult) dMulI := opg_I (C := fun i j => CMul i j ∨ CMulW i j) (h := fun i j => .int (i * j)) (opI fun _ _ _ _ _ _ _ hc q => imul_int q (hc.elim CMul.ok CMulW.ok)) fun i j d h => by
  split at h
  · rename_i hm; cases h; exact ⟨mulOk_ok hm, flat_int⟩
  · cases h
theorem og_divI : OpG X W E (binaryOp .FloorDiv) dDivI := opg_I (C := fun _ j => divOk j = true) (h := fun i j => .int (i.fdiv j)) (opI fun _ j _ _ _ _ _ hc q => by
    simp only [divOk, Bool.and_eq_true, decide_eq_true_eq] at hc
    exact floordiv_int hc.1 q (.inl (PyProof.noPylong_of_log2 hc.2))) fun i j d h => by
  split at h
  · rename_i hm; cases h; exact ⟨hm, flat_int⟩
  · cases h
theorem og_modI : OpG X W E (binaryOp .Mod) dModI := opg_I op_modN fun i j d h => by
  split at h
  · cases h
  · rename_i hm; cases h; exact ⟨hm, flat_int⟩
theorem og_powI : OpG X W E (binaryOp .Pow) dPowI := opg_I op_pow fun i j d h => by
  split at h
  · rename_i hm
    cases h
    simp only [powOk, Bool.and_eq_true, decide_eq_true_eq] at hm
    exact ⟨⟨hm.1.1, hm.1.2, hm.2⟩, flat_int⟩
  · cases h
/-! ### texts, lists, tuples -/
def dAddS : D → D → Stor → R D := fun x y M => match x, y with
  | .str i, .str j => if i.length + j.length ≤ 1000000 then .ok (.str (i ++ j)) M else .no
  | _, _ => .no
theorem og_addS : OpG X W E (binaryOp .Add) dAddS := OpG.of op_add_str fun ξ M F H ρ x y vx vy Q Z rp ix iy po => by
  unfold dAddS at po
  split at po
  · simp only [Is] at ix iy
    subst ix; subst iy
    split at po
    · rename_i hz; exact ⟨_, _, rfl, rfl, small_line hz, po.now rp (flat_str F ρ)⟩
    · exact po.elim
  · exact po.elim
def dAddT : D → D → Stor → R D := fun x y M => match x, y with
  | .tup i, .tup j => if i.length + j.length ≤ 1000000 then .ok (.tup (i ++ j)) M else .no
  | _, _ => .no
theorem og_addT (hK : X.K = W.K) : OpG X W E (binaryOp .Add) dAddT := OpG.of op_catA fun ξ M F H ρ x y vx vy Q Z rp ix iy po => by
  unfold dAddT at po
  split at po
  · rename_i i j
    simp only [Is] at ix iy
    obtain ⟨a, xs, rfl, qa, la⟩ := ix
    obtain ⟨b, ys, rfl, qb, lb⟩ := iy
    split at po
    · rename_i hz
      refine ⟨a, b, xs, ys, rfl, rfl, by rw [hK]; exact rp.sub.sqT qa, by rw [hK]; exact rp.sub.sqT qb, small_line (by rw [la.len, lb.len]; exact hz), fun e => ?_, fun _ e => ?_, fun _ _ p n => new_tup rp (la.append lb) n po⟩
      · subst e
        have : i = [] := by have := la.len; simpa using this.symm
        subst this
        exact po.now rp (by simp only [Is, List.nil_append]; exact ⟨b, ys, rfl, qb, lb⟩)
      · subst e
        have : j = [] := by have := lb.len; simpa using this.symm
        subst this
        exact po.now rp (by simp only [Is, List.append_nil]; exact ⟨a, xs, rfl, qa, la⟩)
    · exact po.elim
  · exact po.elim
/-- a list's items, firm or not -/
def lstOf (x : D) (M : Stor) : Option (List D) := match x with
  | .lst l => some l
  | .lck l => some l
  | .ref k => (match M[k]? with
    | some (.lst l) => some l
    | _ => none)
  | _ => none
theorem lstOf_ok {M : Stor} {F H : Hp} {ρ : List Addr} {x : D} {vx : V} {l : List D} (rp : Rp W ξ M F H ρ) (ix : Is W F ρ x vx) (e : lstOf x M = some l) : ∃ a vs, vx = .ref a ∧ SqL W.K H a vs ∧ IsL W F ρ l vs := by
  unfold lstOf at e
  split at e
  · cases e
    simp only [Is] at ix
    obtain ⟨a, vs, e1, q, hl⟩ := ix
    exact ⟨a, vs, e1, SqL.of (rp.sub _ _ q), hl⟩
  · cases e
    simp only [Is] at ix
    obtain ⟨a, vs, e1, q, hl⟩ := ix
    exact ⟨a, vs, e1, rp.sub.sqL q, hl⟩
  · rename_i k
    simp only [Is] at ix
    obtain ⟨a, e1, ea⟩ := ix
    split at e
    · rename_i l' em
      cases e
      obtain ⟨_, vs, hv, hl⟩ := rp.obj k _ a em ea
      exact ⟨a, vs, e1, SqL.of hv, hl⟩
    · cases e
  · cases e
/-- a list's or a tuple's items -/
def seqOf (x : D) (M : Stor) : Option (List D) := match x with
  | .tup l => some l
  | x => lstOf x M
theorem seqOf_ok {M : Stor} {F H : Hp} {ρ : List Addr} {x : D} {vx : V} {l : List D} (rp : Rp W ξ M F H ρ) (ix : Is W F ρ x vx) (e : seqOf x M = some l) : ∃ a vs, vx = .ref a ∧ (SqL W.K H a vs ∨ SqT W.K H a vs) ∧ IsL W F ρ l vs := by
  unfold seqOf at e
  split at e
  · cases e
    simp only [Is] at ix
    obtain ⟨a, vs, e1, q, hl⟩ := ix
    exact ⟨a, vs, e1, .inr (rp.sub.sqT q), hl⟩
  · obtain ⟨a, vs, e1, q, hl⟩ := lstOf_ok rp ix e
    exact ⟨a, vs, e1, .inl q, hl⟩
/-- a list's items that stand by themselves -/
def lstOwn (x : D) (M : Stor) : Option (List D) := match x with
  | .lst l => some l
  | .ref k => (match M[k]? with
    | some (.lst l) => some l
    | _ => none)
  | _ => none
theorem lstOwn_ok {M : Stor} {F H : Hp} {ρ : List Addr} {x : D} {vx : V} {l : List D} (rp : Rp W ξ M F H ρ) (ix : Is W F ρ x vx) (e : lstOwn x M = some l) : ∃ a vs, vx = .ref a ∧ H a = some (.lst vs) ∧ IsL W F ρ l vs := by
  unfold lstOwn at e
  split at e
  · cases e
    simp only [Is] at ix
    obtain ⟨a, vs, e1, q, hl⟩ := ix
    exact ⟨a, vs, e1, rp.sub _ _ q, hl⟩
  · rename_i k
    simp only [Is] at ix
    obtain ⟨a, e1, ea⟩ := ix
    split at e
    · rename_i l' em
      cases e
      obtain ⟨_, vs, hv, hl⟩ := rp.obj k _ a em ea
      exact ⟨a, vs, e1, hv, hl⟩
    · cases e
  · cases e
def dAddL : D → D → Stor → R D := fun x y M => match lstOwn x M, lstOwn y M with
  | some i, some j => if i.length + j.length ≤ 1000000 then .ok (.lst (i ++ j)) M else .no
  | _, _ => .no
theorem og_addL : OpG X W E (binaryOp .Add) dAddL := OpG.of op_cat fun ξ M F H ρ x y vx vy Q Z rp ix iy po => by
  unfold dAddL at po
  split at po
  · rename_i i j ei ej
    obtain ⟨a, xs, rfl, qa, la⟩ := lstOwn_ok rp ix ei
    obtain ⟨b, ys, rfl, qb, lb⟩ := lstOwn_ok rp iy ej
    split at po
    · rename_i hz
      exact ⟨a, b, xs, ys, rfl, rfl, qa, qb, small_line (by rw [la.len, lb.len]; exact hz), fun p n => new_lst rp (la.append lb) n po⟩
    · exact po.elim
  · exact po.elim
theorem IsL.flat {F : Hp} {ρ : List Addr} {l : List D} {vs : List V} (h : IsL W F ρ l vs) : ∀ n : Nat, IsL W F ρ (List.replicate n l).flatten (List.replicate n vs).flatten
  | 0 => IsL.nil
  | n + 1 => by
    rw [List.replicate_succ, List.replicate_succ, List.flatten_cons, List.flatten_cons]
    exact h.append (IsL.flat h n)
def dMulL : D → D → Stor → R D := fun x y M => match lstOwn x M, y with
  | some l, .int k => if -(2 ^ 63) ≤ k ∧ k < 2 ^ 63 ∧ l.length * k.toNat ≤ 1000000 then .ok (.lst (List.replicate k.toNat l).flatten) M else .no
  | _, _ => .no
theorem og_mulL : OpG X W E (binaryOp .Mult) dMulL := OpG.of op_rep fun ξ M F H ρ x y vx vy Q Z rp ix iy po => by
  unfold dMulL at po
  split at po
  · rename_i l k el
    obtain ⟨a, xs, rfl, qa, la⟩ := lstOwn_ok rp ix el
    simp only [Is] at iy; subst iy
    split at po
    · rename_i hz
      exact ⟨a, k, xs, rfl, rfl, qa, hz.1, hz.2.1, small_line (by rw [la.len]; exact hz.2.2), fun p n => new_lst rp (la.flat _) n po⟩
    · exact po.elim
  · exact po.elim
def dAdd : D → D → Stor → R D := fun x y M => orR (dAddI x y M) (orR (dAddS x y M) (orR (dAddL x y M) (dAddT x y M)))
def dMul : D → D → Stor → R D := fun x y M => orR (dMulI x y M) (dMulL x y M)
theorem og_add (hK : X.K = W.K) : OpG X W E (binaryOp .Add) dAdd := og_addI.or (og_addS.or (og_addL.or (og_addT hK)))
theorem og_mul : OpG X W E (binaryOp .Mult) dMul := og_mulI.or og_mulL
/-! ### == -/
mutual
def toPy : D → Option PyData
  | .non => some .none
  | .bl b => some (.bool b)
  | .int i => some (.int i)
  | .str x => some (.str x)
  | .tup l => (toPyL l).map PyData.tuple
  | .lst l => (toPyL l).map PyData.list
  | .lck l => (toPyL l).map PyData.list
  | .ty _ => none
  | .ins _ _ => none
  | .cls _ => none
  | .ref _ => none
  | .dct _ _ => none
  | .exc _ _ _ => none
  | .lam _ _ _ _ _ => none
def toPyL : List D → Option (List PyData)
  | [] => some []
  | d :: ds => match toPy d, toPyL ds with
    | some x, some xs => some (x :: xs)
    | _, _ => none
end
mutual
theorem toPy_ok {F H : Hp} {ρ : List Addr} (le : Le F H) : ∀ {d : D} {v : V} {p : PyData}, toPy d = some p → Is W F ρ d v → Dp W.K H v p
  | .non, _, _, e, h => by simp only [toPy, Option.some.injEq] at e; simp only [Is] at h; subst e; subst h; exact .non
  | .bl b, _, _, e, h => by simp only [toPy, Option.some.injEq] at e; simp only [Is] at h; subst e; subst h; exact .bl b
  | .int i, _, _, e, h => by simp only [toPy, Option.some.injEq] at e; simp only [Is] at h; subst e; subst h; exact .int i
  | .str x, _, _, e, h => by simp only [toPy, Option.some.injEq] at e; simp only [Is] at h; subst e; subst h; exact .str x
  | .tup l, _, _, e, h => by
    simp only [toPy, Option.map_eq_some_iff] at e; obtain ⟨l', el, rfl⟩ := e
    simp only [Is] at h; obtain ⟨a, vs, rfl, q, hl⟩ := h
    exact .tup (le.sqT q) (toPyL_ok le el hl)
  | .lst l, _, _, e, h => by
    simp only [toPy, Option.map_eq_some_iff] at e; obtain ⟨l', el, rfl⟩ := e
    simp only [Is] at h; obtain ⟨a, vs, rfl, q, hl⟩ := h
    exact .lst (SqL.of (le _ _ q)) (toPyL_ok le el hl)
  | .lck l, _, _, e, h => by
    simp only [toPy, Option.map_eq_some_iff] at e; obtain ⟨l', el, rfl⟩ := e
    simp only [Is] at h; obtain ⟨a, vs, rfl, q, hl⟩ := h
    exact .lst (le.sqL q) (toPyL_ok le el hl)
  | .ty _, _, _, e, _ => by simp only [toPy] at e; cases e
  | .ins _ _, _, _, e, _ => by simp only [toPy] at e; cases e
  | .cls _, _, _, e, _ => by simp only [toPy] at e; cases e
  | .ref _, _, _, e, _ => by simp only [toPy] at e; cases e
  | .dct _ _, _, _, e, _ => by simp only [toPy] at e; cases e
  | .exc _ _ _, _, _, e, _ => by simp only [toPy] at e; cases e
  | .lam _ _ _ _ _, _, _, e, _ => by simp only [toPy] at e; cases e
theorem toPyL_ok {F H : Hp} {ρ : List Addr} (le : Le F H) : ∀ {ds : List D} {vs : List V} {ps : List PyData}, toPyL ds = some ps → IsL W F ρ ds vs → DpAll W.K H vs ps
  | [], _, _, e, h => by simp only [toPyL, Option.some.injEq] at e; subst e; rw [IsL.nil_iff] at h; subst h; exact .nil
  | d :: ds, _, _, e, h => by
    obtain ⟨v, r, rfl, h1, h2⟩ := IsL.cons_iff.mp h
    simp only [toPyL] at e
    cases e1 : toPy d with
    | none => rw [e1] at e; cases e
    | some x =>
      cases e2 : toPyL ds with
      | none => rw [e1, e2] at e; cases e
      | some xs =>
        rw [e1, e2] at e
        cases e
        exact .cons (toPy_ok le e1 h1) (toPyL_ok le e2 h2)
end
/-- a list of the store as data, at the top -/
def topPy (x : D) (M : Stor) : Option PyData := match x with
  | .ref k => (match M[k]? with
    | some (.lst l) => (toPyL l).map PyData.list
    | _ => none)
  | x => toPy x
theorem topPy_ok {M : Stor} {F H : Hp} {ρ : List Addr} {d : D} {v : V} {p : PyData} (rp : Rp W ξ M F H ρ) (e : topPy d M = some p) (h : Is W F ρ d v) : Dp W.K H v p := by
  unfold topPy at e
  split at e
  · rename_i k
    simp only [Is] at h
    obtain ⟨a, rfl, ea⟩ := h
    split at e
    · rename_i l em
      simp only [Option.map_eq_some_iff] at e; obtain ⟨l', el, rfl⟩ := e
      obtain ⟨_, vs, hv, hl⟩ := rp.obj k _ a em ea
      exact .lst (SqL.of hv) (toPyL_ok rp.sub el hl)
    · cases e
  · exact toPy_ok rp.sub e h
def dEqD : D → D → Stor → R D := fun x y M => match topPy x M, topPy y M with
  | some a, some b => if SeqAt.shaped a = true ∧ SeqAt.shaped b = true then .ok (.bl (PyData.eqv a b)) M else .no
  | _, _ => .no
def dNeD : D → D → Stor → R D := fun x y M => match topPy x M, topPy y M with
  | some a, some b => if SeqAt.shaped a = true ∧ SeqAt.shaped b = true then .ok (.bl (!PyData.eqv a b)) M else .no
  | _, _ => .no
theorem og_eqD (hK : X.K = W.K) (hu : X.A.units + 64 < cLine) : OpG X W E (compareOp .Eq) dEqD := OpG.of (op_eqD hu) fun ξ M F H ρ x y vx vy Q Z rp ix iy po => by
  unfold dEqD at po
  split at po
  · rename_i a b ea eb
    split at po
    · rename_i hz
      rw [hK]
      exact ⟨a, b, topPy_ok rp ea ix, topPy_ok rp eb iy, hz.1, hz.2, po.now rp (flat_bl F ρ)⟩
    · exact po.elim
  · exact po.elim
theorem og_neD (hK : X.K = W.K) (hu : X.A.units + 64 < cLine) : OpG X W E (compareOp .NotEq) dNeD := OpG.of (op_neD hu) fun ξ M F H ρ x y vx vy Q Z rp ix iy po => by
  unfold dNeD at po
  split at po
  · rename_i a b ea eb
    split at po
    · rename_i hz
      rw [hK]
      exact ⟨a, b, topPy_ok rp ea ix, topPy_ok rp eb iy, hz.1, hz.2, po.now rp (flat_bl F ρ)⟩
    · exact po.elim
  · exact po.elim
/-- scalars -/
def dEqI := dI fun i j => some (.bl (decide (i = j)))
def dNeI := dI fun i j => some (.bl (!decide (i = j)))
theorem og_eqI : OpG X W E (compareOp .Eq) dEqI := OpG.of op_eq fun ξ M F H ρ x y vx vy Q Z rp ix iy po => by
  obtain ⟨i, j, d, rfl, rfl, hd, po⟩ := dI_ok (H := H) ix iy po
  cases hd
  refine ⟨rfl, po.now rp ?_⟩
  have : decide (V.int i = V.int j) = decide (i = j) := by simp
  rw [this]; exact flat_bl F ρ
theorem og_neI : OpG X W E (compareOp .NotEq) dNeI := OpG.of op_ne fun ξ M F H ρ x y vx vy Q Z rp ix iy po => by
  obtain ⟨i, j, d, rfl, rfl, hd, po⟩ := dI_ok (H := H) ix iy po
  cases hd
  refine ⟨rfl, po.now rp ?_⟩
  have : decide (V.int i = V.int j) = decide (i = j) := by simp
  rw [this]; exact flat_bl F ρ
def dEqS : D → D → Stor → R D := fun x y M => match x, y with
  | .str i, .str j => .ok (.bl (decide (i = j))) M
  | _, _ => .no
def dNeS : D → D → Stor → R D := fun x y M => match x, y with
  | .str i, .str j => .ok (.bl (!decide (i = j))) M
  | _, _ => .no
theorem og_eqS : OpG X W E (compareOp .Eq) dEqS := OpG.of op_eq fun ξ M F H ρ x y vx vy Q Z rp ix iy po => by
  unfold dEqS at po
  split at po
  · rename_i i j
    simp only [Is] at ix iy; subst ix; subst iy
    refine ⟨rfl, po.now rp ?_⟩
    have : decide (V.str i = V.str j) = decide (i = j) := by simp
    rw [this]; exact flat_bl F ρ
  · exact po.elim
theorem og_neS : OpG X W E (compareOp .NotEq) dNeS := OpG.of op_ne fun ξ M F H ρ x y vx vy Q Z rp ix iy po => by
  unfold dNeS at po
  split at po
  · rename_i i j
    simp only [Is] at ix iy; subst ix; subst iy
    refine ⟨rfl, po.now rp ?_⟩
    have : decide (V.str i = V.str j) = decide (i = j) := by simp
    rw [this]; exact flat_bl F ρ
  · exact po.elim
def dEq : D → D → Stor → R D := fun x y M => orR (dEqI x y M) (orR (dEqS x y M) (dEqD x y M))
def dNe : D → D → Stor → R D := fun x y M => orR (dNeI x y M) (orR (dNeS x y M) (dNeD x y M))
theorem og_eq (hK : X.K = W.K) (hu : X.A.units + 64 < cLine) : OpG X W E (compareOp .Eq) dEq := og_eqI.or (og_eqS.or (og_eqD hK hu))
theorem og_ne (hK : X.K = W.K) (hu : X.A.units + 64 < cLine) : OpG X W E (compareOp .NotEq) dNe := og_neI.or (og_neS.or (og_neD hK hu))
/-- is None -/
def dIsN : D → D → Stor → R D := fun x y M => match y with
  | .non => .ok (.bl (match x with
    | .non => true
    | _ => false)) M
  | _ => .no
end
end G

namespace G
open PySem PySem.Spec PyProof.Rows L2
section
variable {X : Cx} {W : Wd} {ξ : Xi} {E : Sg → XK}
/-! ### built-in functions -/
def fLen : List D → Stor → R D := fun ds M => match ds with
  | [x] => (match x with
    | .str z => if z.length ≤ 1000000 then .ok (.int z.length) M else .no
    | x => (match seqOf x M with
      | some l => .ok (.int l.length) M
      | none => .no))
  | _ => .no
theorem one_of {F : Hp} {ρ : List Addr} {x : D} {vs : List V} (h : IsL W F ρ [x] vs) : ∃ v, vs = [v] ∧ Is W F ρ x v := by
  obtain ⟨v, r, rfl, h1, h2⟩ := IsL.cons_iff.mp h
  rw [IsL.nil_iff] at h2; subst h2; exact ⟨v, rfl, h1⟩
theorem two_of {F : Hp} {ρ : List Addr} {x y : D} {vs : List V} (h : IsL W F ρ [x, y] vs) : ∃ v u, vs = [v, u] ∧ Is W F ρ x v ∧ Is W F ρ y u := by
  obtain ⟨v, r, rfl, h1, h2⟩ := IsL.cons_iff.mp h
  obtain ⟨u, rfl, h3⟩ := one_of h2
  exact ⟨v, u, rfl, h1, h3⟩
theorem cg_len (hK : X.K = W.K) : CallG X W E (.builtin "len") fLen := CallG.of call_len fun ξ M F H ρ ds vs Q Z rp is po => by
  unfold fLen at po
  split at po
  · rename_i x
    obtain ⟨v, rfl, ix⟩ := one_of is
    split at po
    · rename_i z
      simp only [Is] at ix; subst ix
      split at po
      · rename_i hz; exact ⟨_, z.length, rfl, ⟨small_line hz, rfl⟩, po.now rp (flat_int F ρ)⟩
      · exact po.elim
    · split at po
      · rename_i l el
        obtain ⟨a, xs, rfl, q, hl⟩ := seqOf_ok rp ix el
        refine ⟨_, xs.length, rfl, ?_, by rw [hl.len]; exact po.now rp (flat_int F ρ)⟩
        rw [hK]
        rcases q with q | q
        · exact .inl ⟨xs, q, rfl⟩
        · exact .inr ⟨xs, q, rfl⟩
      · exact po.elim
  · exact po.elim
def fAbsI : List D → Stor → R D := fun ds M => match ds with
  | [.int i] => .ok (.int i.natAbs) M
  | _ => .no
theorem cg_abs : CallG X W E (.builtin "abs") fAbsI := CallG.of call_abs fun ξ M F H ρ ds vs Q Z rp is po => by
  unfold fAbsI at po
  split at po
  · rename_i i
    obtain ⟨v, rfl, ix⟩ := one_of is
    simp only [Is] at ix; subst ix
    refine ⟨i, rfl, po.now rp ?_⟩
    have : (if i < 0 then -i else i) = (i.natAbs : Int) := by split <;> omega
    rw [this]; exact flat_int F ρ
  · exact po.elim
def fInt : List D → Stor → R D := fun ds M => match ds with
  | [.int i] => .ok (.int i) M
  | [.bl b] => .ok (.int (if b then 1 else 0)) M
  | _ => .no
theorem cg_int : CallG X W E (.type "int") fInt := CallG.of call_int1 fun ξ M F H ρ ds vs Q Z rp is po => by
  unfold fInt at po
  split at po
  · rename_i i
    obtain ⟨v, rfl, ix⟩ := one_of is
    simp only [Is] at ix; subst ix
    exact .inl ⟨i, rfl, po.now rp (flat_int F ρ)⟩
  · rename_i i
    obtain ⟨v, rfl, ix⟩ := one_of is
    simp only [Is] at ix; subst ix
    exact .inr ⟨i, rfl, po.now rp (flat_int F ρ)⟩
  · exact po.elim
def fBool : List D → Stor → R D := fun ds M => match ds with
  | [.int i] => .ok (.bl (i != 0)) M
  | [.bl b] => .ok (.bl b) M
  | _ => .no
theorem cg_bool : CallG X W E (.type "bool") fBool := CallG.of call_bool1 fun ξ M F H ρ ds vs Q Z rp is po => by
  unfold fBool at po
  split at po
  · rename_i i
    obtain ⟨v, rfl, ix⟩ := one_of is
    simp only [Is] at ix; subst ix
    exact .inl ⟨i, rfl, po.now rp (flat_bl F ρ)⟩
  · rename_i i
    obtain ⟨v, rfl, ix⟩ := one_of is
    simp only [Is] at ix; subst ix
    exact .inr ⟨i, rfl, po.now rp (flat_bl F ρ)⟩
  · exact po.elim
/-- list(x): a firm list | one that will be changed -/
def fList : List D → Stor → R D := fun ds M => match ds with
  | [x] => (match seqOf x M with
    | some l => .ok (.lst l) M
    | none => .no)
  | _ => .no
def fListM : List D → Stor → R D := fun ds M => match ds with
  | [x] => (match seqOf x M with
    | some l => .ok (.ref M.length) (M ++ [.lst l])
    | none => .no)
  | _ => .no
theorem cg_list (hK : X.K = W.K) : CallG X W E (.type "list") fList := CallG.of call_list_of fun ξ M F H ρ ds vs Q Z rp is po => by
  unfold fList at po
  split at po
  · obtain ⟨v, rfl, ix⟩ := one_of is
    split at po
    · rename_i l el
      obtain ⟨a, xs, rfl, q, hl⟩ := seqOf_ok rp ix el
      exact ⟨a, xs, rfl, by rw [hK]; exact q, fun p n => new_lst rp hl n po⟩
    · exact po.elim
  · exact po.elim
theorem cg_listM (hK : X.K = W.K) : CallG X W E (.type "list") fListM := CallG.of call_list_of fun ξ M F H ρ ds vs Q Z rp is po => by
  unfold fListM at po
  split at po
  · obtain ⟨v, rfl, ix⟩ := one_of is
    split at po
    · rename_i l el
      obtain ⟨a, xs, rfl, q, hl⟩ := seqOf_ok rp ix el
      exact ⟨a, xs, rfl, by rw [hK]; exact q, fun p n => new_lstM rp hl n po⟩
    · exact po.elim
  · exact po.elim
/-- repr of lists and tuples of plain data -/
def reprOk (p : PyData) : Bool := p.showable && !p.hasDict && decide (p.depth ≤ 60) && decide (p.shown.length ≤ 1000000)
def fRepr : List D → Stor → R D := fun ds M => match ds with
  | [x] => (match x with
    | .int i => if i.natAbs.log2 < 1920 then .ok (.str (toString i)) M else .no
    | .str _ => .no
    | .bl _ => .no
    | .non => .no
    | x => (match topPy x M with
      | some p => if reprOk p then .ok (.str p.shown) M else .no
      | none => .no))
  | _ => .no
theorem cg_repr (hK : X.K = W.K) (gd : X.A.guards = some []) (hu : X.A.units + 64 < cLine) : CallG X W E (.builtin "repr") fRepr := by
  intro ξ pins s σ H M F ρ ds vs us Q I rv rp is po
  unfold fRepr at po
  split at po
  · rename_i x
    obtain ⟨v, rfl, ix⟩ := one_of is
    have big : ∀ {p : PyData} {a : Addr}, v = .ref a → topPy x M = some p → Po W ξ (Is W) F ρ (if reprOk p then .ok (.str p.shown) M else .no) Q (E σ) → wpAny (model X.prog X.w) X.A (call (.builtin "repr") us) (EP X pins σ Q) X.xe s := fun {p a} ev ep po => by
      subst ev
      obtain ⟨u, rfl, ru⟩ := vals1 rv
      cases ru
      split at po
      · rename_i hz
        simp only [reprOk, Bool.and_eq_true, decide_eq_true_eq, Bool.not_eq_true'] at hz
        have dp := topPy_ok rp ep ix
        rw [← hK] at dp
        obtain ⟨as, rd⟩ := Dp.reads I p (.ref a) (.ref a) dp rfl
        refine repr_of_reads' rd hz.1.1.1 (fun z => by rw [hz.1.1.2] at z; cases z) gd (by have := hz.1.2; omega) (fun b o e => e) (fun h' u tk hk => ?_) (small_line hz.2)
        exact ⟨.str p.shown, H, I.kept hk, ⟨u, rfl⟩, po.now rp (flat_str F ρ)⟩
      · exact po.elim
    split at po
    · rename_i i
      simp only [Is] at ix; subst ix
      obtain ⟨u, rfl, ru⟩ := vals1 rv
      obtain ⟨t, rfl⟩ := ru
      split at po
      · rename_i hz
        exact SkE.call_repr_int pins s σ H _ _ Q I rv ⟨i, rfl, hz, po.now rp (flat_str F ρ)⟩
      · exact po.elim
    · exact po.elim
    · exact po.elim
    · exact po.elim
    · split at po
      · rename_i p ep
        have dp := topPy_ok rp ep ix
        cases dp with
        | non => cases x <;> simp_all [Is]
        | bl b => cases x <;> simp_all [Is]
        | int i => cases x <;> simp_all [Is]
        | str y => cases x <;> simp_all [Is]
        | lst _ _ => exact big rfl ep po
        | tup _ _ => exact big rfl ep po
      · exact po.elim
  · exact po.elim
end
end G

namespace G
open PySem PySem.Spec PyProof.Rows L2
section
variable {X : Cx} {W : Wd} {ξ : Xi} {E : Sg → XK} {a b e o : Expr} {es : List Expr} {ga gb go : GE'} {gs : GA'} {pos p2 : Pos}
/-! ### x[i] -/
theorem IsL.atI {F : Hp} {ρ : List Addr} {l : List D} {vs : List V} {i : Int} {d : D} (h : IsL W F ρ l vs) (e : atI l i = some d) : ∃ v, L2.atI vs i = some v ∧ Is W F ρ d v := by
  unfold L2.atI at e ⊢
  rw [h.len]
  cases en : ixN l.length i with
  | none => rw [en] at e; cases e
  | some j => rw [en] at e; exact h.get e
def dIx : D → D → Stor → R D := fun x y M => match y with
  | .int i => (match x with
    | .str z => if z.length ≤ 1000000 then (match L2.atI z.cps.toList i with
      | some c => .ok (.str ⟨#[c]⟩) M
      | none => .no) else .no
    | x => (match seqOf x M with
      | some l => (match L2.atI l i with
        | some d => .ok d M
        | none => .no)
      | none => .no))
  | _ => .no
theorem ge_ix (hK : X.K = W.K) (ha : GE X W E a ga) (hb : GE X W E b gb) (hs : PlainIx b) : GE X W E (.Subscript a b pos) (gBin dIx ga gb) := by
  refine mE (pe_ix ix_seq ha hb hs) fun σ H Q h => ?_
  obtain ⟨ξ, Γ, M, F, ρ, en, rp, po⟩ := two h
  refine ⟨ξ, Γ, M, F, ρ, en, rp, po.imp ?_⟩
  rintro vx H1 ⟨ξ1, Γ1, M1, F1, ρ1, en1, rp1, po1⟩
  refine ⟨ξ1, Γ1, M1, F1, ρ1, en1, rp1, po1.imp ?_⟩
  rintro vy H2 ⟨ξ2, x, y, M2, F2, ρ2, rp2, ix, iy, po2⟩
  unfold dIx at po2
  split at po2
  · rename_i i
    simp only [Is] at iy; subst iy
    split at po2
    · rename_i z
      simp only [Is] at ix; subst ix
      split at po2
      · rename_i hz
        split at po2
        · rename_i c hc
          exact .inr (.inr ⟨z, i, c, rfl, rfl, small_line hz, hc, po2.now rp2 (flat_str F2 ρ2)⟩)
        · exact po2.elim
      · exact po2.elim
    · split at po2
      · rename_i l el
        split at po2
        · rename_i d hd
          obtain ⟨p, vs, rfl, q, hl⟩ := seqOf_ok rp2 ix el
          obtain ⟨v, ev, iv⟩ := hl.atI hd
          rw [hK]
          rcases q with q | q
          · exact .inl ⟨p, vs, i, v, rfl, rfl, q, ev, po2.now rp2 iv⟩
          · exact .inr (.inl ⟨p, vs, i, v, rfl, rfl, q, ev, po2.now rp2 iv⟩)
        · exact po2.elim
      · exact po2.elim
  · exact po2.elim
/-- o[i] = .. for a list of the store -/
def ggSub (go gi : GE') : GG' := fun d Γ M => match go Γ M with
  | .ok (.ref k) M1 => (match gi Γ M1 with
    | .ok (.int i) M2 => (match M2[k]? with
      | some (.lst l) => (match ixN l.length i with
        | some j => some (Γ, M2.set k (.lst (l.set j d)))
        | none => none)
      | _ => none)
    | _ => none)
  | _ => none
theorem gg_sub {i : Expr} {gi : GE'} (ho : GE X W E o go) (hi : GE X W E i gi) (h : ∀ v, assign (.Subscript o i pos) X.env v = (do
      let ov ← holding [v] (eval o X.env)
      let iv ← holding [v, ov] (eval i X.env)
      standAt pos
      holding [v, ov, iv] (setItem ov iv v)
      release [v, ov, iv] []) := by intro _; rfl) : GG X W (.Subscript o i pos) (ggSub go gi) :=
  mG (pg_sub ho hi set_list h) fun v σ H Q ⟨ξ, d, Γ, M, F, ρ, is, en, rp, po⟩ => by
    unfold ggSub at po
    split at po
    · rename_i k M1 eo
      refine ⟨ξ, Γ, M, F, ρ, en, rp, ?_⟩
      rw [eo]
      intro vo F1 ρ1 H1 le1 p1 rp1 iso
      simp only [Is] at iso; obtain ⟨a, rfl, ea⟩ := iso
      split at po
      · rename_i z M2 ei
        refine ⟨ξ, Γ, M1, F1, ρ1, en.mono le1 p1, rp1, ?_⟩
        rw [ei]
        intro vi F2 ρ2 H2 le2 p2 rp2 isi
        simp only [Is] at isi; subst isi
        split at po
        · rename_i l em
          split at po
          · rename_i j ej
            have ea2 := pre_get p2 ea
            obtain ⟨_, vs, hv, hl⟩ := rp2.obj k _ a em ea2
            have is2 := is.mono (le1.tr le2) (p1.trans p2)
            refine ⟨a, vs, z, j, rfl, rfl, hv, by rw [hl.len]; exact ej, ?_⟩
            exact po σ F2 ρ2 _ (le1.tr le2) (p1.trans p2) (rp2.set ea2 ⟨_, rfl, hl.set j is2⟩) (en.mono (le1.tr le2) (p1.trans p2))
          · exact po.elim
        · exact po.elim
      · exact po.elim
    · exact po.elim
/-! ### slices -/
abbrev GO' := Gam → Stor → R (Option Int)
def tGO (W : Wd) (E : Sg → XK) (g : GO') : TO := fun σ H Q => ∃ ξ Γ M F ρ, En W Γ σ F ρ ∧ Rp W ξ M F H ρ ∧ Po W ξ (fun _ _ (x y : Option Int) => x = y) F ρ (g Γ M) Q (E σ)
abbrev GO (X : Cx) (W : Wd) (E : Sg → XK) (e : Option Expr) (g : GO') : Prop := PO X e (tGO W E g)
def goNone : GO' := fun _ M => .ok none M
def goSome (a : GE') : GO' := fun Γ M => (a Γ M).bind fun x M1 => match x with
  | .int i => .ok (some i) M1
  | _ => .no
theorem go_none : GO X W E none goNone := ⟨fun pins s σ H Q I ⟨ξ, Γ, M, F, ρ, en, rp, po⟩ => po_none.run pins s σ H Q I (po none F ρ H Le.rfl' (List.prefix_refl _) rp rfl)⟩
theorem go_some (h : GE X W E e ga) : GO X W E (some e) (goSome ga) := ⟨fun pins s σ H Q I ⟨ξ, Γ, M, F, ρ, en, rp, po⟩ => (po_some h).run pins s σ H Q I ⟨ξ, Γ, M, F, ρ, en, rp, (Po.bind (rel := Is W) po).imp (by
  rintro v H1 ⟨x, M1, F1, ρ1, e1, p1, rp1, ix, po1⟩
  cases x with
  | int i => simp only [Is] at ix; subst ix; exact ⟨i, rfl, po1 (some i) F1 ρ1 H1 Le.rfl' (List.prefix_refl _) rp1 rfl⟩
  | _ => exact po1.elim)⟩⟩
def cutD (l : List D) (lo hi : Option Int) : List D := (l.drop (HT.sIx l.length 0 lo)).take (HT.sIx l.length l.length hi - HT.sIx l.length 0 lo)
theorem IsL.cut {F : Hp} {ρ : List Addr} {l : List D} {vs : List V} (h : IsL W F ρ l vs) (lo hi : Option Int) : IsL W F ρ (cutD l lo hi) (cutV vs lo hi) := by
  unfold cutD cutV
  rw [h.len]
  exact (h.drop _).take _
def dSl (x : D) (lo hi : Option Int) (M : Stor) : R D := match x with
  | .str z => if z.length ≤ 1000000 then .ok (.str (cutS z lo hi)) M else .no
  | .tup l => .ok (.tup (cutD l lo hi)) M
  | x => (match lstOf x M with
    | some l => .ok (.lst (cutD l lo hi)) M
    | none => .no)
def gSl (a : GE') (lo hi : GO') : GE' := fun Γ M => (a Γ M).bind fun x M1 => (lo Γ M1).bind fun l M2 => (hi Γ M2).bind fun h M3 => dSl x l h M3
theorem ge_slice {lo hi : Option Expr} {gl gh : GO'} (hK : X.K = W.K) (ha : GE X W E a ga) (hl : GO X W E lo gl) (hh : GO X W E hi gh) : GE X W E (.Subscript a (.Slice lo hi none p2) pos) (gSl ga gl gh) := by
  refine mE (pe_slice (sl_list.or (sl_tupA.or sl_str)) ha hl hh) fun σ H Q ⟨ξ, Γ, M, F, ρ, en, rp, po⟩ => ?_
  refine ⟨ξ, Γ, M, F, ρ, en, rp, po.bind.imp ?_⟩
  rintro vx H1 ⟨x, M1, F1, ρ1, e1, p1, rp1, ix, po1⟩
  refine ⟨ξ, Γ, M1, F1, ρ1, en.mono e1 p1, rp1, po1.bind.imp ?_⟩
  rintro l H2 ⟨l', M2, F2, ρ2, e2, p2, rp2, rfl, po2⟩
  refine ⟨ξ, Γ, M2, F2, ρ2, (en.mono e1 p1).mono e2 p2, rp2, po2.bind.imp ?_⟩
  rintro h H3 ⟨h', M3, F3, ρ3, e3, p3, rp3, rfl, po3⟩
  have ix3 := (ix.mono e2 p2).mono e3 p3
  unfold dSl at po3
  split at po3
  · rename_i z
    simp only [Is] at ix3; subst ix3
    split at po3
    · rename_i hz; exact .inr (.inr ⟨z, rfl, small_line hz, po3.now rp3 (flat_str F3 ρ3)⟩)
    · exact po3.elim
  · rename_i l
    simp only [Is] at ix3; obtain ⟨p, vs, rfl, q, hl⟩ := ix3
    refine .inr (.inl ⟨p, vs, rfl, by rw [hK]; exact rp3.sub.sqT q, fun hw => ?_, fun _ q n => new_tup rp3 (hl.cut _ _) n po3⟩)
    refine po3.now rp3 ?_
    simp only [Is]
    refine ⟨p, vs, rfl, q, ?_⟩
    have e : cutD l l' h' = l := by
      unfold cutD
      rw [← hl.len, hw.1, hw.2]
      simp [hl.len]
    rw [e]; exact hl
  · split at po3
    · rename_i l el
      obtain ⟨p, vs, rfl, q, hl⟩ := lstOf_ok rp3 ix3 el
      exact .inl ⟨p, vs, rfl, by rw [hK]; exact q, fun q n => new_lst rp3 (hl.cut _ _) n po3⟩
    · exact po3.elim
end
end G

namespace G
open PySem PySem.Spec PyProof.Rows L2
section
variable {X : Cx} {W : Wd} {ξ : Xi} {E : Sg → XK} {a b e o : Expr} {es : List Expr} {ga gb go : GE'} {gs : GA'} {pos pos' p2 : Pos} {x : Str}
/-! ### isinstance -/
inductive TK where
  | non | bl | int | str | lst | tup | dct | ins (c : Nat)
  deriving DecidableEq
def tkV (W : Wd) : TK → Value
  | .non => .type "NoneType"
  | .bl => .type "bool"
  | .int => .type "int"
  | .str => .type "str"
  | .lst => .type "list"
  | .tup => .type "tuple"
  | .dct => .type "dict"
  | .ins c => .ref (W.T c)
def tkOf (x : D) (M : Stor) : Option TK := match x with
  | .non => some .non
  | .bl _ => some .bl
  | .int _ => some .int
  | .str _ => some .str
  | .lst _ => some .lst
  | .tup _ => some .tup
  | .dct _ _ => some .dct
  | .ins c _ => some (.ins c)
  | .ref k => (match M[k]? with
    | some (.lst _) => some .lst
    | some (.ins c _) => some (.ins c)
    | some (.dct _ _) => some .dct
    | _ => none)
  | _ => none
/-- what is asked of a class whose instances are looked at -/
structure ClsI (K : PySem.W.Frag) (C : Addr) : Prop where
  cl : Cls K C
  ha : PySem.W.findIn K (.ref C) "__class__" = some (some (.builtin "object.__class__"))
  hn : PySem.W.specialIn K (.builtin "object.__class__") "__get__" = some (some (.builtin "getset_descriptor.__get__"))
  htk : PySem.W.takesIn K (.builtin "object.__class__") = some true
  hm : PySem.W.mroIn K C (.type "object") = some true
/-- ok: the classes whose facts are known -/
def ClsOk (W : Wd) (ok : Nat → Bool) : Prop := ∀ c, ok c = true → ClsI W.K (W.T c)
def tkGood (ok : Nat → Bool) : TK → Bool
  | .ins c => ok c
  | _ => true
theorem sqT_ty {K : PySem.W.Frag} {H : Hp} {a : Addr} {vs : List V} (h : SqT K H a vs) : TyX K H (.ref a) (.type "tuple") := by
  rcases h with (h | ⟨ob, h⟩) | ⟨ob, its, n, h, hc, _⟩
  · exact .base (.tup h)
  · exact .fTuple h
  · exact .kTuple h hc
theorem tkOf_ok {ok : Nat → Bool} (hc : ClsOk W ok) {M : Stor} {F H : Hp} {ρ : List Addr} {x : D} {v : V} {t : TK} (rp : Rp W ξ M F H ρ) (ix : Is W F ρ x v) (e : tkOf x M = some t) (g : tkGood ok t = true) : TyX W.K H v (tkV W t) := by
  unfold tkOf at e
  split at e
  · cases e; simp only [Is] at ix; subst ix; exact .base .non
  · cases e; simp only [Is] at ix; subst ix; exact .base (.bl _)
  · cases e; simp only [Is] at ix; subst ix; exact .base (.int _)
  · cases e; simp only [Is] at ix; subst ix; exact .base (.str _)
  · cases e; simp only [Is] at ix; obtain ⟨a, vs, rfl, q, _⟩ := ix; exact .base (.lst (rp.sub _ _ q))
  · cases e; simp only [Is] at ix; obtain ⟨a, vs, rfl, q, _⟩ := ix; exact sqT_ty (rp.sub.sqT q)
  · cases e; simp only [Is] at ix; obtain ⟨a, vs, rfl, q, _⟩ := ix; exact .base (.dK (rp.sub _ _ q))
  · rename_i c l
    cases e; simp only [Is] at ix; obtain ⟨a, dx, fvs, rfl, q, _⟩ := ix
    have z := hc c g
    exact .base (.ins (rp.sub _ _ q) z.cl z.ha z.hn z.htk z.hm)
  · rename_i k
    simp only [Is] at ix; obtain ⟨a, rfl, ea⟩ := ix
    split at e
    · rename_i l em
      cases e
      obtain ⟨_, vs, hv, _⟩ := rp.obj k _ a em ea
      exact .base (.lst hv)
    · rename_i c l em
      cases e
      obtain ⟨_, dx, fvs, hv, _⟩ := rp.obj k _ a em ea
      have z := hc c g
      exact .base (.ins hv z.cl z.ha z.hn z.htk z.hm)
    · rename_i ks l em
      cases e
      obtain ⟨_, vs, hv, _⟩ := rp.obj k _ a em ea
      exact .base (.dK hv)
    · cases e
  · cases e
/-- the classes asked for -/
inductive CK where
  | ty (n : String) | own (c : Nat)
def ckV (W : Wd) : CK → Value
  | .ty n => .type n
  | .own c => .ref (W.T c)
def ckOf : D → Option CK
  | .ty n => some (.ty n)
  | .cls c => some (.own c)
  | _ => none
def IsiOk (W : Wd) (tab : TK → CK → Option Bool) : Prop := ∀ t c b, tab t c = some b → PySem.W.kitOne W.K (tkV W t) (ckV W c) = some b
def fIsi (ok : Nat → Bool) (tab : TK → CK → Option Bool) : List D → Stor → R D := fun ds M => match ds with
  | [x, y] => (match tkOf x M, ckOf y with
    | some t, some c => if tkGood ok t then (match tab t c with
      | some b => .ok (.bl b) M
      | none => .no) else .no
    | _, _ => .no)
  | _ => .no
theorem cg_isi {ok : Nat → Bool} {tab : TK → CK → Option Bool} (hK : X.K = W.K) (hc : ClsOk W ok) (ht : IsiOk W tab) : CallG X W E (.builtin "isinstance") (fIsi ok tab) := CallG.of call_isi fun ξ M F H ρ ds vs Q Z rp is po => by
  unfold fIsi at po
  split at po
  · rename_i x y
    obtain ⟨v, u, rfl, ix, iy⟩ := two_of is
    split at po
    · rename_i t c et ec
      split at po
      · rename_i hg
        split at po
        · rename_i b hb
          rw [hK]
          refine ⟨v, u, tkV W t, ckV W c, b, rfl, ?_, tkOf_ok hc rp ix et hg, ht t c b hb, po.now rp (flat_bl F ρ)⟩
          unfold ckOf at ec
          split at ec
          · cases ec; simp only [Is] at iy; subst iy; exact .ty _
          · cases ec; simp only [Is] at iy; subst iy; exact .own _
          · cases ec
        · exact po.elim
      · exact po.elim
    · exact po.elim
  · exact po.elim
/-- a built-in class, an own class, as a value -/
theorem ge_ty {n : String} (hg : Gl X x) (hm : X.mg x = none) (hv : bootBuiltins x = some (.type n)) (hn : x ≠ "__name__" := by decide) (hd : (x == ("__debug__" : Str)) = false := by decide) : GE X W E (.Name x pos) (gC (.ty n)) :=
  ge_const (pe_bltn (v := .ty n) hg hm hv rfl hn hd) flat_ty
theorem ge_cls {c : Nat} (hg : Gl X x) (hm : X.mg x = some (.ref (W.T c))) (hd : (x == ("__debug__" : Str)) = false := by decide) : GE X W E (.Name x pos) (gC (.cls c)) :=
  ge_const (pe_glob (v := .ref (W.T c)) hg hm rfl hd) fun F ρ => by simp only [Is]
/-- a module's constant -/
theorem ge_glob {d : D} {v : V} {u : Value} (hg : Gl X x) (hm : X.mg x = some u) (r : RelV v u) (fl : Flat W d v) (hd : (x == ("__debug__" : Str)) = false := by decide) : GE X W E (.Name x pos) (gC d) :=
  ge_const (pe_glob hg hm r hd) fl
/-! ### attributes -/
/-- an instance's class and values -/
def insOf (x : D) (M : Stor) : Option (Nat × List D) := match x with
  | .ins c l => some (c, l)
  | .ref k => (match M[k]? with
    | some (.ins c l) => some (c, l)
    | _ => none)
  | _ => none
theorem insOf_ok {M : Stor} {F H : Hp} {ρ : List Addr} {x : D} {v : V} {c : Nat} {l : List D} (rp : Rp W ξ M F H ρ) (ix : Is W F ρ x v) (e : insOf x M = some (c, l)) :
    ∃ a dx fvs, v = .ref a ∧ H a = some (.ins (W.T c) dx fvs) ∧ fvs.map (·.1) = (W.fn c).take l.length ∧ IsL W F ρ l (fvs.map (·.2)) := by
  unfold insOf at e
  split at e
  · cases e; simp only [Is] at ix; obtain ⟨a, dx, fvs, e1, q, n, hl⟩ := ix; exact ⟨a, dx, fvs, e1, rp.sub _ _ q, n, hl⟩
  · rename_i k
    simp only [Is] at ix; obtain ⟨a, e1, ea⟩ := ix
    split at e
    · rename_i c' l' em
      cases e
      obtain ⟨_, dx, fvs, hv, n, hl⟩ := rp.obj k _ a em ea
      exact ⟨a, dx, fvs, e1, hv, n, hl⟩
    · cases e
  · cases e
/-- the field f is the i-th of class c, and nothing of the class hides it -/
structure FldOk (W : Wd) (f : Str) (c i : Nat) : Prop where
  cl : Cls W.K (W.T c)
  na : NoAttr W.K (W.T c) f
  ix : (W.fn c)[i]? = some f
  nd : (W.fn c).Nodup
def FldsOk (W : Wd) (f : Str) (tab : Nat → Option Nat) : Prop := ∀ c i, tab c = some i → FldOk W f c i
def dFld (tab : Nat → Option Nat) : D → Stor → R D := fun x M => match insOf x M with
  | some (c, l) => (match tab c with
    | some i => (match l[i]? with
      | some d => .ok d M
      | none => .no)
    | none => .no)
  | none => .no
theorem look_at : ∀ {fvs : List (Str × V)} {i : Nat} {f : Str} {v : V}, (fvs.map (·.1)).Nodup → (fvs.map (·.1))[i]? = some f → (fvs.map (·.2))[i]? = some v → fvs.lookup f = some v
  | [], _, _, _, _, e, _ => by simp at e
  | (g, z) :: r, 0, f, v, _, e, e2 => by simp at e e2; subst e; subst e2; simp [List.lookup]
  | (g, z) :: r, i + 1, f, v, nd, e, e2 => by
    simp at e e2 nd
    have hne : (f == g) = false := by
      apply beq_eq_false_iff_ne.mpr
      intro h; subst h
      obtain ⟨y, hy⟩ := e
      exact nd.1 y (List.mem_of_getElem? hy)
    have := look_at (fvs := r) (i := i) (f := f) (v := v) (by simpa using nd.2) (by simpa using e) (by simpa using e2)
    simp [List.lookup, hne, this]
theorem ge_fld {tab : Nat → Option Nat} {f : Str} (hK : X.K = W.K) (ht : FldsOk W f tab) (he : GE X W E e ga) (hb : attributeBase e f X.env (eval e X.env) = eval e X.env := by rfl) : GE X W E (.Attribute e f pos) (gUn (dFld tab) ga) :=
  mE (pe_fld he hb) fun σ H Q ⟨ξ, Γ, M, F, ρ, en, rp, po⟩ => ⟨ξ, Γ, M, F, ρ, en, rp, po.bind.imp (by
    rintro v H1 ⟨x, M1, F1, ρ1, e1, p1, rp1, ix, po1⟩
    unfold dFld at po1
    split at po1
    · rename_i c l ei
      split at po1
      · rename_i i et
        split at po1
        · rename_i d hd
          obtain ⟨a, dx, fvs, rfl, hv, hn, hl⟩ := insOf_ok rp1 ix ei
          have z := ht c i et
          obtain ⟨w, ew, iw⟩ := hl.get hd
          have hi : i < l.length := (List.getElem?_eq_some_iff.mp hd).1
          refine ⟨a, W.T c, dx, fvs, w, rfl, hv, by rw [hK]; exact z.cl, by rw [hK]; exact z.na, look_at (i := i) ?_ ?_ ew, po1.now rp1 iw⟩
          · rw [hn]; exact z.nd.sublist (List.take_sublist _ _)
          · rw [hn, List.getElem?_take_of_lt hi]; exact z.ix
        · exact po1.elim
      · exact po1.elim
    · exact po1.elim)⟩
/-- e.f = value, of an object of the store -/
def setFl (l : List D) (i : Nat) (d : D) : Option (List D) := if i < l.length then some (l.set i d) else if i = l.length then some (l ++ [d]) else none
def gSetF (tab : Nat → Option Nat) (o v : GE') : GS' := fun Γ M => (v Γ M).bindS Γ fun d M1 => (o Γ M1).bindS Γ fun x M2 => match x with
  | .ref k => (match M2[k]? with
    | some (.ins c l) => (match tab c with
      | some i => (match setFl l i d with
        | some l' => if l.length < 100 then .nx Γ (M2.set k (.ins c l')) else .no
        | none => .no)
      | none => .no)
    | _ => .no)
  | _ => .no
theorem putF_at : ∀ {fvs : List (Str × V)} {i : Nat} {f : Str} {v : V}, (fvs.map (·.1)).Nodup → (fvs.map (·.1))[i]? = some f → (putF f v fvs).map (·.1) = fvs.map (·.1) ∧ (putF f v fvs).map (·.2) = (fvs.map (·.2)).set i v
  | [], _, _, _, _, e => by simp at e
  | (g, z) :: r, 0, f, v, _, e => by simp at e; subst e; simp [putF]
  | (g, z) :: r, i + 1, f, v, nd, e => by
    simp at e nd
    have hne : ¬ g = f := by
      intro h; subst h
      obtain ⟨y, hy⟩ := e
      exact nd.1 y (List.mem_of_getElem? hy)
    obtain ⟨h1, h2⟩ := putF_at (fvs := r) (i := i) (f := f) (v := v) (by simpa using nd.2) (by simpa using e)
    simp [putF, hne, h1, h2]
theorem putF_new : ∀ {fvs : List (Str × V)} {f : Str} {v : V}, f ∉ fvs.map (·.1) → putF f v fvs = fvs ++ [(f, v)]
  | [], _, _, _ => rfl
  | (g, z) :: r, f, v, h => by
    simp at h
    have hne : ¬ g = f := fun q => h.1 q.symm
    have := putF_new (fvs := r) (f := f) (v := v) (by simpa using h.2)
    simp [putF, hne, this]
theorem gs_setF {tab : Nat → Option Nat} {f : Str} (hK : X.K = W.K) (ht : FldsOk W f tab) (ho : GE X W E o go) (hv : GE X W E e ga) (hs : swapsWith e (some (.Attribute o f pos')) pos.line X.env = pure false := by rfl) : GS X W E (.Assign [.Attribute o f pos'] e pos) (gSetF tab go ga) :=
  mS (ps_fld ho hv hs) fun N σ H ⟨ξ, Γ, M, F, ρ, en, rp, po⟩ => ⟨ξ, Γ, M, F, ρ, en, rp, (Po.bindS en po).imp (by
    rintro vy H1 ⟨d, M1, F1, ρ1, e1, p1, rp1, iy, po1⟩
    refine ⟨ξ, Γ, M1, F1, ρ1, en.mono e1 p1, rp1, (Po.bindS (en.mono e1 p1) po1).imp ?_⟩
    rintro vx H2 ⟨x, M2, F2, ρ2, e2, p2, rp2, ix, po2⟩
    split at po2
    · rename_i k
      split at po2
      · rename_i c l em
        split at po2
        · rename_i i et
          split at po2
          · rename_i l' el
            split at po2
            · rename_i hz
              simp only [Is] at ix; obtain ⟨a, rfl, ea⟩ := ix
              obtain ⟨_, dx, fvs, hv, hn, hl⟩ := rp2.obj k _ a em ea
              have z := ht c i et
              have len : fvs.length = l.length := by have := hl.len; simpa using this
              have nd : (fvs.map (·.1)).Nodup := by rw [hn]; exact z.nd.sublist (List.take_sublist _ _)
              have iy2 := iy.mono e2 p2
              refine ⟨a, W.T c, dx, fvs, rfl, hv, by rw [hK]; exact z.cl, by rw [hK]; exact z.na, by omega, ?_⟩
              refine po2 σ F2 ρ2 _ Le.rfl' (List.prefix_refl _) (rp2.set ea ?_) ((en.mono e1 p1).mono e2 p2)
              unfold setFl at el
              split at el
              · rename_i hi
                cases el
                obtain ⟨h1, h2⟩ := putF_at (v := vy) nd (i := i) (f := f) (by rw [hn, List.getElem?_take_of_lt hi]; exact z.ix)
                exact ⟨dx, _, rfl, by rw [h1, hn]; simp, by rw [h2]; exact hl.set i iy2⟩
              · split at el
                · rename_i hi
                  cases el
                  have hlt : l.length < (W.fn c).length := by have := (List.getElem?_eq_some_iff.mp z.ix).1; omega
                  have ef : (W.fn c)[l.length] = f := by
                    have := z.ix
                    rw [hi, List.getElem?_eq_getElem hlt] at this
                    exact Option.some.inj this
                  have nf : f ∉ fvs.map (·.1) := by
                    rw [hn]
                    intro hm
                    obtain ⟨j, hj, ej⟩ := List.getElem_of_mem hm
                    rw [List.getElem_take] at ej
                    have hj' : j < l.length := by rw [List.length_take] at hj; omega
                    have := (List.getElem_inj z.nd).mp (ej.trans ef.symm)
                    omega
                  rw [putF_new nf]
                  refine ⟨dx, _, rfl, ?_, ?_⟩
                  · rw [List.map_append, hn, List.length_append, List.length_singleton, List.take_succ_eq_append_getElem hlt, ef]; rfl
                  · rw [List.map_append]; exact hl.append (IsL.cons iy2 IsL.nil)
                · cases el
            · exact po2.elim
          · exact po2.elim
        · exact po2.elim
      · exact po2.elim
    · exact po2.elim)⟩
end
end G

namespace G
open PySem PySem.Spec PyProof.Rows L2
section
variable {X : Cx} {W : Wd} {ξ : Xi} {E : Sg → XK} {a b e o tg : Expr} {es : List Expr} {ga gb : GE'} {gs : GA'} {pos pos' p2 p : Pos} {x : Str}
/-! ### what is walked -/
abbrev anyS : Stor → Prop := fun _ => True
def giSeq (a : GE') : GI' := fun Γ M => (a Γ M).bind fun x M1 => match x with
  | .tup l => .ok (l, anyS) M1
  | .lst l => .ok (l, anyS) M1
  | .lck l => .ok (l, anyS) M1
  | .ref k => (match M1[k]? with
    | some (.lst l) => .ok (l, fun M => M[k]? = some (.lst l)) M1
    | _ => .no)
  | _ => .no
/-- a list is walked -/
def giLst (a : GE') : GI' := fun Γ M => (a Γ M).bind fun x M1 => match x with
  | .lst l => .ok (l, anyS) M1
  | .lck l => .ok (l, anyS) M1
  | .ref k => (match M1[k]? with
    | some (.lst l) => .ok (l, fun M => M[k]? = some (.lst l)) M1
    | _ => .no)
  | _ => .no
theorem good_list {F0 : Hp} {ρ0 : List Addr} {l : List D} {vs : List V} {q : Addr} {keep : Stor → Prop} (h : ∀ ξ M F H ρ, Le F0 F → ρ0 <+: ρ → Rp W ξ M F H ρ → keep M → ∃ vs, SqL W.K H q vs ∧ IsL W F ρ l vs) : GoodIt W F0 ρ0 (l, keep) (Itl W.K q) := by
  intro ξ i M F H ρ le pr rp hk
  obtain ⟨vs, hv, hl⟩ := h ξ M F H ρ le pr rp hk
  refine ⟨fun d hd => ?_, fun hi => ⟨vs, hv, by rw [hl.len]; exact hi⟩⟩
  obtain ⟨v, ev, iv⟩ := hl.get hd
  refine ⟨⟨vs, v, hv, ev⟩, fun x H' ⟨eH, ey⟩ => ?_⟩
  subst eH
  have := ey vs hv
  rw [ev] at this; cases this
  exact ⟨F, Le.rfl', rp, iv⟩
theorem good_tup {F0 : Hp} {ρ0 : List Addr} {l : List D} {vs : List V} {q : Addr} (hq : SqT W.K F0 q vs) (hl0 : IsL W F0 ρ0 l vs) : GoodIt W F0 ρ0 (l, anyS) (Itt W.K q) := by
  intro ξ i M F H ρ le pr rp hk
  have hl := hl0.mono le pr
  have hv := rp.sub.sqT (le.sqT hq)
  refine ⟨fun d hd => ?_, fun hi => ⟨vs, hv, by rw [hl.len]; exact hi⟩⟩
  obtain ⟨v, ev, iv⟩ := hl.get hd
  refine ⟨⟨vs, v, hv, ev⟩, fun x H' ⟨eH, ey⟩ => ?_⟩
  subst eH
  have := ey vs hv
  rw [ev] at this; cases this
  exact ⟨F, Le.rfl', rp, iv⟩
theorem gi_list (hK : X.K = W.K) (h : GE X W E e ga) : GI X W E tg e (giLst ga) :=
  mI (pi_list h) fun σ H Q ⟨ξ, Γ, M, F, ρ, en, rp, po⟩ => ⟨ξ, Γ, M, F, ρ, en, rp, (Po.bind (rel := Is W) po).imp (by
    rintro v H1 ⟨x, M1, F1, ρ1, e1, p1, rp1, ix, po1⟩
    rw [hK]
    split at po1
    · rename_i l
      simp only [Is] at ix; obtain ⟨q, vs, rfl, hq, hl⟩ := ix
      exact ⟨q, rfl, ⟨vs, SqL.of (rp1.sub _ _ hq)⟩, po1 _ F1 ρ1 H1 Le.rfl' (List.prefix_refl _) rp1 (good_list (vs := vs) fun ξ M F H ρ le pr rp _ => ⟨vs, SqL.of (rp.sub _ _ (le _ _ hq)), hl.mono le pr⟩)⟩
    · rename_i l
      simp only [Is] at ix; obtain ⟨q, vs, rfl, hq, hl⟩ := ix
      exact ⟨q, rfl, ⟨vs, rp1.sub.sqL hq⟩, po1 _ F1 ρ1 H1 Le.rfl' (List.prefix_refl _) rp1 (good_list (vs := vs) fun ξ M F H ρ le pr rp _ => ⟨vs, rp.sub.sqL (le.sqL hq), hl.mono le pr⟩)⟩
    · rename_i k
      split at po1
      · rename_i l em
        simp only [Is] at ix; obtain ⟨q, rfl, eq⟩ := ix
        obtain ⟨_, vs, hv, hl⟩ := rp1.obj k _ q em eq
        refine ⟨q, rfl, ⟨vs, SqL.of hv⟩, po1 _ F1 ρ1 H1 Le.rfl' (List.prefix_refl _) rp1 (good_list (vs := vs) fun ξ M F H ρ le pr rp hm => ?_)⟩
        obtain ⟨_, us, hu, hlu⟩ := rp.obj k _ q hm (pre_get pr eq)
        exact ⟨us, SqL.of hu, hlu⟩
      · exact po1.elim
    · exact po1.elim)⟩
def giTup (a : GE') : GI' := fun Γ M => (a Γ M).bind fun x M1 => match x with
  | .tup l => .ok (l, anyS) M1
  | _ => .no
theorem gi_tup (hK : X.K = W.K) (h : GE X W E e ga) : GI X W E tg e (giTup ga) :=
  mI (pi_tup h) fun σ H Q ⟨ξ, Γ, M, F, ρ, en, rp, po⟩ => ⟨ξ, Γ, M, F, ρ, en, rp, (Po.bind (rel := Is W) po).imp (by
    rintro v H1 ⟨x, M1, F1, ρ1, e1, p1, rp1, ix, po1⟩
    rw [hK]
    split at po1
    · rename_i l
      simp only [Is] at ix; obtain ⟨q, vs, rfl, hq, hl⟩ := ix
      exact ⟨q, rfl, ⟨vs, rp1.sub.sqT hq⟩, po1 _ F1 ρ1 H1 Le.rfl' (List.prefix_refl _) rp1 (good_tup hq hl)⟩
    · exact po1.elim)⟩
/-- either of the two, by what comes -/
theorem PI.or {t t' : TI} (h : PI X tg e t) (h' : PI X tg e t') : PI X tg e (fun σ H Q => t σ H Q ∨ t' σ H Q) := ⟨fun pins s σ H R I z => z.elim (h.run pins s σ H R I) (h'.run pins s σ H R I)⟩
theorem gi_seq (hK : X.K = W.K) (h : GE X W E e ga) : GI X W E tg e (giSeq ga) :=
  mI (PI.or (gi_list hK h) (gi_tup hK h)) fun σ H Q ⟨ξ, Γ, M, F, ρ, en, rp, po⟩ => by
    unfold giSeq at po
    cases er : ga Γ M with
    | no => rw [er] at po; exact po.elim
    | ex c fs M1 => rw [er] at po; exact .inl ⟨ξ, Γ, M, F, ρ, en, rp, by unfold giLst; rw [er]; exact po⟩
    | ok d M1 =>
      rw [er] at po
      cases d with
      | tup l => exact .inr ⟨ξ, Γ, M, F, ρ, en, rp, by unfold giTup; rw [er]; exact po⟩
      | lst l => exact .inl ⟨ξ, Γ, M, F, ρ, en, rp, by unfold giLst; rw [er]; exact po⟩
      | lck l => exact .inl ⟨ξ, Γ, M, F, ρ, en, rp, by unfold giLst; rw [er]; exact po⟩
      | ref k => exact .inl ⟨ξ, Γ, M, F, ρ, en, rp, by unfold giLst; rw [er]; exact po⟩
      | _ => exact po.elim
/-- the numbers from lo on, n of them -/
def upFrom (lo : Int) (n : Nat) : List D := (List.range n).map fun i => .int (lo + (i : Nat))
theorem good_range {F0 : Hp} {ρ0 : List Addr} {lo : Int} {n : Nat} : GoodIt W F0 ρ0 (upFrom lo n, anyS) (Itr lo n) := by
  intro ξ i M F H ρ le pr rp hk
  refine ⟨fun d hd => ?_, fun hi => (by simpa [upFrom] using hi : n ≤ i)⟩
  have hi : i < n := by have := (List.getElem?_eq_some_iff.mp hd).1; simpa [upFrom] using this
  refine ⟨hi, fun x H' ⟨eH, ex⟩ => ?_⟩
  subst eH; subst ex
  have : d = .int (lo + (i : Nat)) := by
    unfold upFrom at hd
    rw [List.getElem?_map, List.getElem?_range hi] at hd
    exact (Option.some.inj hd).symm
  subst this
  exact ⟨F, Le.rfl', rp, by simp only [Is]⟩
def giRange1 (a : GA') : GI' := fun Γ M => (a Γ M).bind fun xs M1 => match xs with
  | [.int j] => if -(2 ^ 62) ≤ j ∧ j < 2 ^ 62 then .ok (upFrom 0 j.toNat, anyS) M1 else .no
  | _ => .no
theorem gi_range1 (hg : Gl X "range") (hm : X.mg "range" = none) (ha : GA X W E [a] gs) (hs : starEach [a] X.env = [(false, eval a X.env)] := by rfl) : GI X W E tg (.Call (.Name "range" p) [a] [] pos) (giRange1 gs) :=
  mI (pi_range1 hg hm ha hs) fun σ H Q ⟨ξ, Γ, M, F, ρ, en, rp, po⟩ => ⟨ξ, Γ, M, F, ρ, en, rp, (Po.bind (rel := IsL W) po).imp (by
    rintro vs H1 ⟨xs, M1, F1, ρ1, e1, p1, rp1, is, po1⟩
    split at po1
    · rename_i j
      split at po1
      · rename_i hz
        obtain ⟨v, rfl, iv⟩ := one_of is
        simp only [Is] at iv; subst iv
        exact ⟨j, rfl, hz.1, hz.2, po1 _ F1 ρ1 H1 Le.rfl' (List.prefix_refl _) rp1 good_range⟩
      · exact po1.elim
    · exact po1.elim)⟩
def giRange2 (a : GA') : GI' := fun Γ M => (a Γ M).bind fun xs M1 => match xs with
  | [.int i, .int j] => if -(2 ^ 62) ≤ i ∧ i < 2 ^ 62 ∧ -(2 ^ 62) ≤ j ∧ j < 2 ^ 62 then .ok (upFrom i (j - i).toNat, anyS) M1 else .no
  | _ => .no
theorem gi_range2 (hg : Gl X "range") (hm : X.mg "range" = none) (ha : GA X W E [a, b] gs) (hs : starEach [a, b] X.env = [(false, eval a X.env), (false, eval b X.env)] := by rfl) (hs2 : starEach [b] X.env = [(false, eval b X.env)] := by rfl) : GI X W E tg (.Call (.Name "range" p) [a, b] [] pos) (giRange2 gs) :=
  mI (pi_range2 hg hm ha hs hs2) fun σ H Q ⟨ξ, Γ, M, F, ρ, en, rp, po⟩ => ⟨ξ, Γ, M, F, ρ, en, rp, (Po.bind (rel := IsL W) po).imp (by
    rintro vs H1 ⟨xs, M1, F1, ρ1, e1, p1, rp1, is, po1⟩
    split at po1
    · rename_i i j
      split at po1
      · rename_i hz
        obtain ⟨v, u, rfl, iv, iu⟩ := two_of is
        simp only [Is] at iv iu; subst iv; subst iu
        exact ⟨i, j, rfl, hz, po1 _ F1 ρ1 H1 Le.rfl' (List.prefix_refl _) rp1 good_range⟩
      · exact po1.elim
    · exact po1.elim)⟩
/-! ### [e for x in xs if t] -/
/-- targets of a block: a name, a tuple of names -/
inductive Tgt where
  | one (i : Nat) | tup (is : List Nat)
def gsSlots : List Nat → TGs
  | [] => L2.gNil
  | i :: is => L2.gCons (gName i) (gsSlots is)
def Tgt.raw (K : PySem.W.Frag) : Tgt → TG
  | .one i => gName i
  | .tup is => L2.gTup K is.length (gsSlots is)
def setAll : List Nat → List D → Gam → Option Gam
  | [], [], Γ => some Γ
  | i :: is, d :: ds, Γ => setAll is ds (Γ.set i (some d))
  | _, _, _ => none
def Tgt.run : Tgt → D → Gam → Option Gam
  | .one i, d, Γ => some (Γ.set i (some d))
  | .tup is, .tup ds, Γ => setAll is ds Γ
  | _, _, _ => none
def Tgt.slots : Tgt → List Nat
  | .one i => [i]
  | .tup is => is
open Classical in
noncomputable def compG (keep : Stor → Prop) (t : Tgt) (tt : GT') (te : GE') (Γ : Gam) : List D → Stor → List D → R (List D)
  | [], M, acc => .ok acc M
  | d :: ds, M, acc => match t.run d Γ with
    | some Γ1 => (match tt Γ1 M with
      | .ok true M2 => (match te Γ1 M2 with
        | .ok y M3 => if keep M3 ∧ acc.length < 1000000 then compG keep t tt te Γ ds M3 (acc ++ [y]) else .no
        | _ => .no)
      | .ok false M2 => if keep M2 then compG keep t tt te Γ ds M2 acc else .no
      | _ => .no)
    | none => .no
def wipeG (Γ : Gam) : List Nat → Gam
  | [] => Γ
  | v :: vs => (wipeG Γ vs).set v none
theorem En.wipes {Γ : Gam} {σ : Sg} {F : Hp} {ρ : List Addr} (h : En W Γ σ F ρ) : ∀ vs : List Nat, En W (wipeG Γ vs) (L2.wipe σ vs) F ρ
  | [] => h
  | v :: vs => (En.wipes h vs).wipe
open Classical in
noncomputable def gComp (it : GI') (t : Tgt) (tt : GT') (te : GE') : GE' := fun Γ M => (it Γ M).bind fun q M1 => if q.2 M1 then (compG q.2 t tt te (wipeG Γ t.slots) q.1 M1 []).bind fun l M2 => .ok (.lst l) M2 else .no
theorem Rp.aside {M : Stor} {F H : Hp} {ρ : List Addr} (h : Rp W ξ M F H ρ) {q : Addr} {ob : HO} (n : H q = none) : Rp W ((q, ob) :: ξ) M F (upd H q ob) ρ := by
  have z := h.newH (o := ob) n
  refine ⟨z.sub, z.len, z.nd, z.obj, fun r hr => ?_, fun r hr => by
    obtain ⟨t1, t2, t3, ps, t4, t5, t6⟩ := z.tb r hr
    refine ⟨t1, fun u hu => ?_, t3, ps, t4, t5, t6⟩
    rcases List.mem_cons.mp hu with rfl | hu
    · obtain ⟨_, _, _, ps', t4', _⟩ := h.tb r hr
      exact (ne_of_none t4' n).symm
    · exact t2 u hu⟩
  rcases List.mem_cons.mp hr with rfl | hr
  · exact ⟨upd_same, h.free n, fun hm => by
      obtain ⟨i, hi, e⟩ := List.getElem_of_mem hm
      exact h.ne n (List.getElem?_eq_some_iff.mpr ⟨hi, e⟩) rfl⟩
  · exact z.xt r hr
theorem Rp.aset {M : Stor} {F H : Hp} {ρ : List Addr} {q : Addr} {ob ob' : HO} (h : Rp W ((q, ob) :: ξ) M F H ρ) (nd : ∀ r ∈ ξ, r.1 ≠ q) : Rp W ((q, ob') :: ξ) M F (upd H q ob') ρ := by
  obtain ⟨q1, q2, q3⟩ := h.xt (q, ob) List.mem_cons_self
  refine ⟨fun a u e => ?_, h.len, h.nd, fun i m a em ea => ?_, fun r hr => ?_, fun r hr => by
    obtain ⟨t1, t2, t3, ps, t4, t5, t6⟩ := h.tb r hr
    have ne : r.1 ≠ q := (t2 (q, ob) List.mem_cons_self).symm
    rw [upd_ne ne]
    refine ⟨t1, fun u hu => ?_, t3, ps, t4, t5, t6⟩
    rcases List.mem_cons.mp hu with rfl | hu
    · exact ne.symm
    · exact t2 u (List.mem_cons_of_mem _ hu)⟩
  · rw [upd_ne (ne_of_none e q2)]; exact h.sub _ _ e
  · have ne : a ≠ q := fun z => q3 (by have := List.mem_of_getElem? ea; rw [z] at this; exact this)
    rw [upd_ne ne]; exact h.obj i m a em ea
  · rcases List.mem_cons.mp hr with rfl | hr'
    · exact ⟨upd_same, q2, q3⟩
    · obtain ⟨r1, r2, r3⟩ := h.xt r (List.mem_cons_of_mem _ hr')
      rw [upd_ne (nd r hr')]
      exact ⟨r1, r2, r3⟩
theorem Rp.firmD {M : Stor} {F H : Hp} {ρ : List Addr} {q : Addr} {ob : HO} (h : Rp W ((q, ob) :: ξ) M F H ρ) (nd : ∀ r ∈ ξ, r.1 ≠ q) : Rp W ξ M (upd F q ob) H ρ ∧ Le F (upd F q ob) := by
  obtain ⟨q1, q2, q3⟩ := h.xt (q, ob) List.mem_cons_self
  refine ⟨⟨fun a u e => ?_, h.len, h.nd, fun i m a em ea => ?_, fun r hr => ?_, fun r hr => by
    obtain ⟨t1, t2, t3, ps, t4, t5, t6⟩ := h.tb r hr
    have ne : r.1 ≠ q := (t2 (q, ob) List.mem_cons_self).symm
    rw [upd_ne ne]
    exact ⟨t1, fun u hu => t2 u (List.mem_cons_of_mem _ hu), t3, ps, t4, t5, fun pos cv z => let ⟨c, c1, c2⟩ := t6 pos cv z; ⟨c, c1, Le.new q2 _ _ c2⟩⟩⟩, Le.new q2⟩
  · by_cases hq : a = q
    · subst hq; rw [upd_same] at e; cases e; exact q1
    · rw [upd_ne hq] at e; exact h.sub _ _ e
  · have ne : a ≠ q := fun z => q3 (by have := List.mem_of_getElem? ea; rw [z] at this; exact this)
    obtain ⟨z1, z2⟩ := h.obj i m a em ea
    rw [upd_ne ne]; exact ⟨z1, z2.mono (Le.new q2) (List.prefix_refl _)⟩
  · obtain ⟨r1, r2, r3⟩ := h.xt r (List.mem_cons_of_mem _ hr)
    rw [upd_ne (nd r hr)]; exact ⟨r1, r2, r3⟩
theorem wipe_at {σ : Sg} {j : Nat} : ∀ (vs : List Nat), (wipe σ vs)[j]? = if j ∈ vs then (if j < σ.length then some none else none) else σ[j]?
  | [] => by simp [wipe]
  | v :: vs => by
    unfold wipe
    by_cases hv : v = j
    · subst hv
      rw [if_pos List.mem_cons_self]
      by_cases hl : v < σ.length
      · rw [List.getElem?_set_self (by rw [wipe_length]; exact hl), if_pos hl]
      · rw [if_neg hl, List.getElem?_eq_none (by rw [List.length_set, wipe_length]; omega)]
    · rw [List.getElem?_set_ne hv, wipe_at vs]
      have : (j ∈ v :: vs) ↔ j ∈ vs := ⟨fun z => (List.mem_cons.mp z).elim (fun q => absurd q.symm hv) id, List.mem_cons_of_mem _⟩
      by_cases hm : j ∈ vs
      · rw [if_pos hm, if_pos (this.mpr hm)]
      · rw [if_neg hm, if_neg (fun z => hm (this.mp z))]
theorem wipe_set {σ : Sg} {i : Nat} {o : Option V} {vs : List Nat} (hi : i ∈ vs) : wipe (σ.set i o) vs = wipe σ vs := by
  apply List.ext_getElem?
  intro j
  rw [wipe_at, wipe_at, List.length_set]
  by_cases hj : j ∈ vs
  · rw [if_pos hj, if_pos hj]
  · rw [if_neg hj, if_neg hj, List.getElem?_set_ne (fun z => hj (by rw [← z]; exact hi))]
theorem wipe_wipe {σ : Sg} {vs : List Nat} : wipe (wipe σ vs) vs = wipe σ vs := by
  apply List.ext_getElem?
  intro j
  rw [wipe_at, wipe_at, wipe_length]
  by_cases hj : j ∈ vs
  · rw [if_pos hj, if_pos hj]
  · rw [if_neg hj, if_neg hj]
theorem slots_ok {F H : Hp} {ρ : List Addr} {vs : List Nat} : ∀ {is : List Nat} {ds : List D} {us : List V} {Γ Γ1 : Gam} {σ : Sg} {Q : Sg → Hp → Prop}, (∀ i ∈ is, i ∈ vs) → setAll is ds Γ = some Γ1 → IsL W F ρ ds us → En W Γ σ F ρ →
    (∀ σ2, wipe σ2 vs = wipe σ vs → En W Γ1 σ2 F ρ → Q σ2 H) → gsSlots is us σ H Q
  | [], [], _, _, _, σ, _, _, e, h, en, k => by
    simp only [setAll, Option.some.injEq] at e; subst e
    rw [IsL.nil_iff] at h
    exact ⟨h, k σ rfl en⟩
  | i :: is, d :: ds, _, Γ, Γ1, σ, Q, hi, e, h, en, k => by
    obtain ⟨v, r, rfl, h1, h2⟩ := IsL.cons_iff.mp h
    simp only [setAll] at e
    refine ⟨v, r, rfl, ?_⟩
    refine slots_ok (is := is) (fun j hj => hi j (List.mem_cons_of_mem _ hj)) e h2 (en.set h1) fun σ2 hw en2 => k σ2 ?_ en2
    rw [hw, wipe_set (hi i List.mem_cons_self)]
  | [], _ :: _, _, _, _, _, _, _, e, _, _, _ => by simp [setAll] at e
  | _ :: _, [], _, _, _, _, _, _, e, _, _, _ => by simp [setAll] at e
theorem tgt_ok {F H : Hp} {ρ : List Addr} {M : Stor} {t : Tgt} {d : D} {v : V} {Γ Γ1 : Gam} {σ : Sg} {Q : Sg → Hp → Prop} (rp : Rp W ξ M F H ρ) (e : t.run d Γ = some Γ1) (is : Is W F ρ d v) (en : En W Γ σ F ρ)
    (k : ∀ σ2, wipe σ2 t.slots = wipe σ t.slots → En W Γ1 σ2 F ρ → Q σ2 H) : t.raw W.K v σ H Q := by
  cases t with
  | one i =>
    simp only [Tgt.run, Option.some.injEq] at e; subst e
    exact k _ (wipe_set (by simp [Tgt.slots])) (en.set is)
  | tup js =>
    cases d with
    | tup ds =>
      simp only [Tgt.run] at e
      simp only [Is] at is; obtain ⟨q, us, rfl, hq, hl⟩ := is
      refine ⟨q, us, rfl, rp.sub.sqT hq, ?_, slots_ok (fun _ z => z) e hl en k⟩
      rw [hl.len]
      clear hl hq k rp en
      induction js generalizing ds Γ with
      | nil => cases ds with
        | nil => rfl
        | cons _ _ => simp [setAll] at e
      | cons j js ih => cases ds with
        | nil => simp [setAll] at e
        | cons d ds => simp only [setAll] at e; simp [ih ds e]
    | _ => simp [Tgt.run] at e
abbrev E0 : Sg → XK := fun _ _ _ _ => False
theorem pass_E0 {X : Cx} : Pass X E0 := fun σ pins H s e s' I c => by
  obtain ⟨_, _, _, _, _, _, _, _, _, _, _, _, z⟩ := c
  exact z.elim
theorem ge_comp {elt iter : Expr} {ifs : List Expr} {scope : Scope} {own : List (Str × Nat)} {gi : GI'} {t : Tgt} {tt : GT'} {te : GE'} (hK : X.K = W.K) (hc : X.calm = true) (hN : X.N.Nodup) (hi : GI X W E tg iter gi) (ok : BlkOk X.N X.env.scope scope own) (hsl : own.map (·.2) = t.slots)
    (hg : ∀ (s : Shared) (H : Hp) (C : Addr) (cl : List (Str × Addr)) (fp : List Addr), PG (X.blk s H scope (compEnvC scope cl C X.env) fp) tg (t.raw X.K)) (ht : ∀ (s : Shared) (H : Hp) (C : Addr) (cl : List (Str × Addr)) (fp : List Addr), PTs (X.blk s H scope (compEnvC scope cl C X.env) fp) ifs (tGT W E0 tt))
    (he : ∀ (s : Shared) (H : Hp) (C : Addr) (cl : List (Str × Addr)) (fp : List Addr), GE (X.blk s H scope (compEnvC scope cl C X.env) fp) W E0 elt te) (hs : ∀ x, foldedSetIterable iter X.env x = pure x := by intro _; rfl) :
    GE X W E (.ListComp elt [⟨tg, iter, ifs, 0⟩] scope pos) (gComp gi t tt te) :=
  mE (pe_lc hc hN hi ok hg ht he hs) fun σ H Q ⟨ξ, Γ, M, F, ρ, en, rp, po⟩ => ⟨ξ, Γ, M, F, ρ, en, rp, po.bind.imp (by
    rintro J H0 ⟨q, M0, F0, ρ0, e0, p0, rp0, good, po0⟩
    split at po0
    case isFalse => exact po0.elim
    rename_i k0
    rw [hsl, hK]
    intro DD nD
    have nd : ∀ r ∈ ξ, r.1 ≠ DD := fun r hr => ne_of_none (rp0.xt r hr).1 nD
    have en0 := (en.mono e0 p0).wipes t.slots
    refine ⟨fun i m H => m = q.1.length - i ∧ i ≤ q.1.length ∧ ∃ M F ρ acc vs, Le F0 F ∧ ρ0 <+: ρ ∧ q.2 M ∧ Rp W ((DD, .lst vs) :: ξ) M F H ρ ∧ IsL W F ρ acc vs ∧
        Po W ξ (Is W) F ρ ((compG q.2 t tt te (wipeG Γ t.slots) (q.1.drop i) M acc).bind fun l M2 => .ok (.lst l) M2) Q (E σ),
      ⟨_, rfl, Nat.zero_le _, M0, F0, ρ0, [], [], Le.rfl', List.prefix_refl _, k0, rp0.aside nD, IsL.nil, by simpa using po0⟩, ?_⟩
    rintro i m H1 ⟨rfl, hi, M1, F1, ρ1, acc, vs, le1, p1, k1, rp1, ia, po1⟩
    obtain ⟨g1, g2⟩ := good _ i M1 F1 H1 ρ1 le1 p1 rp1 k1
    by_cases hlt : i < q.1.length
    · right
      have ed : q.1[i]? = some q.1[i] := List.getElem?_eq_getElem hlt
      rw [List.drop_eq_getElem_cons hlt] at po1
      obtain ⟨go, yl⟩ := g1 _ ed
      refine ⟨go, fun H' => ∃ M F ρ acc vs, Le F0 F ∧ ρ0 <+: ρ ∧ q.2 M ∧ Rp W ((DD, .lst vs) :: ξ) M F H' ρ ∧ IsL W F ρ acc vs ∧
          Po W ξ (Is W) F ρ ((compG q.2 t tt te (wipeG Γ t.slots) (q.1.drop (i + 1)) M acc).bind fun l M2 => .ok (.lst l) M2) Q (E σ), fun H' z => ⟨_, by omega, rfl, hlt, z⟩, fun x H' y => ?_⟩
      obtain ⟨F2, le2, rp2, ix⟩ := yl x H' y
      unfold compG at po1
      cases eg : t.run q.1[i] (wipeG Γ t.slots) with
      | none => rw [eg] at po1; exact po1.elim
      | some Γ3 =>
        rw [eg] at po1
        refine tgt_ok rp2 eg ix ((en0.mono le1 p1).mono le2 (List.prefix_refl _)) fun σ2 hw en3 => ⟨by rw [hw, wipe_wipe], _, Γ3, M1, F2, ρ1, en3, rp2, ?_⟩
        simp only at po1
        cases et : tt Γ3 M1 with
        | no => rw [et] at po1; exact po1.elim
        | ex c fs M2 => rw [et] at po1; exact po1.elim
        | ok c M2 =>
          rw [et] at po1
          intro c' F4 ρ4 H4 le4 p4 rp4 ec
          cases (show c = c' from ec)
          cases c with
          | false =>
            simp only at po1
            split at po1
            · rename_i k4
              refine iteF ⟨M2, F4, ρ4, acc, vs, le1.tr (le2.tr le4), p1.trans p4, k4, rp4, ia.mono (le2.tr le4) p4, po1.mono (le2.tr le4) p4⟩
            · exact po1.elim
          | true =>
            simp only at po1
            refine iteT ⟨_, Γ3, M2, F4, ρ4, en3.mono le4 p4, rp4, ?_⟩
            cases ee : te Γ3 M2 with
            | no => rw [ee] at po1; exact po1.elim
            | ex c fs M3 => rw [ee] at po1; exact po1.elim
            | ok y M3 =>
              rw [ee] at po1
              simp only at po1
              split at po1
              · rename_i k5
                intro vy F5 ρ5 H5 le5 p5 rp5 iy
                have ia5 := ia.mono (le2.tr (le4.tr le5)) (p4.trans p5)
                refine ⟨vs, (rp5.xt _ List.mem_cons_self).1, ?_, M3, F5, ρ5, acc ++ [y], vs ++ [vy], le1.tr (le2.tr (le4.tr le5)), p1.trans (p4.trans p5), k5.1, rp5.aset nd, ia5.append (IsL.cons iy IsL.nil), po1.mono (le2.tr (le4.tr le5)) (p4.trans p5)⟩
                rw [ia5.len, sizeLine_eq]; have := k5.2; omega
              · exact po1.elim
    · left
      have hi' : i = q.1.length := by omega
      refine ⟨g2 (by omega), ?_⟩
      subst hi'
      rw [List.drop_length] at po1
      obtain ⟨rp2, le2⟩ := rp1.firmD nd
      refine po1 (.ref DD) _ ρ1 H1 le2 (List.prefix_refl _) rp2 ?_
      simp only [Is]
      exact ⟨DD, vs, rfl, upd_same, ia.mono le2 (List.prefix_refl _)⟩)⟩
end
end G

namespace G
open PySem PySem.Spec PyProof.Rows L2
/-! ### an int and an own thing: the int's operator declines, the thing's reflected one answers -/
theorem dec_add (a : Int) (t : Tok) (l : Addr) (C dx : Addr) : Meets (Builtin.«int.__add__» ⟨[.int a t, .ref l], []⟩) (fun _ R s => s.heap.get? l = some (PySem.W.instObj C dx) ∧ R (.ok (.ret .notImplemented)) s) :=
  .of_wp fun prog w A R s h => by obtain ⟨hp, g, d, tk, os⟩ := s; obtain ⟨hl, h⟩ := h; wp_walk using wpAny_loadPart' hl, wpAny_load hl; exact ⟨_, rfl, h⟩
theorem dec_sub (a : Int) (t : Tok) (l : Addr) (C dx : Addr) : Meets (Builtin.«int.__sub__» ⟨[.int a t, .ref l], []⟩) (fun _ R s => s.heap.get? l = some (PySem.W.instObj C dx) ∧ R (.ok (.ret .notImplemented)) s) :=
  .of_wp fun prog w A R s h => by obtain ⟨hp, g, d, tk, os⟩ := s; obtain ⟨hl, h⟩ := h; wp_walk using wpAny_loadPart' hl, wpAny_load hl; exact ⟨_, rfl, h⟩
theorem dec_mul (a : Int) (t : Tok) (l : Addr) (C dx : Addr) : Meets (Builtin.«int.__mul__» ⟨[.int a t, .ref l], []⟩) (fun _ R s => s.heap.get? l = some (PySem.W.instObj C dx) ∧ R (.ok (.ret .notImplemented)) s) :=
  .of_wp fun prog w A R s h => by obtain ⟨hp, g, d, tk, os⟩ := s; obtain ⟨hl, h⟩ := h; wp_walk using wpAny_loadPart' hl, wpAny_load hl; exact ⟨_, rfl, h⟩
theorem dec_floordiv (a : Int) (t : Tok) (l : Addr) (C dx : Addr) : Meets (Builtin.«int.__floordiv__» ⟨[.int a t, .ref l], []⟩) (fun _ R s => s.heap.get? l = some (PySem.W.instObj C dx) ∧ R (.ok (.ret .notImplemented)) s) :=
  .of_wp fun prog w A R s h => by obtain ⟨hp, g, d, tk, os⟩ := s; obtain ⟨hl, h⟩ := h; wp_walk using wpAny_loadPart' hl, wpAny_load hl; exact ⟨_, rfl, h⟩
theorem dec_mod (a : Int) (t : Tok) (l : Addr) (C dx : Addr) : Meets (Builtin.«int.__mod__» ⟨[.int a t, .ref l], []⟩) (fun _ R s => s.heap.get? l = some (PySem.W.instObj C dx) ∧ R (.ok (.ret .notImplemented)) s) :=
  .of_wp fun prog w A R s h => by obtain ⟨hp, g, d, tk, os⟩ := s; obtain ⟨hl, h⟩ := h; wp_walk using wpAny_loadPart' hl, wpAny_load hl; exact ⟨_, rfl, h⟩
section
variable {prog : Program} {w : World} {A : Around} {E : Value → Shared → Prop} {s : Shared} {K : PySem.W.Frag} {x C f f0 : Addr} {ox : Obj} {od : Option Obj} {nm idl : String} {i : Int} {t : Tok} {b : Value}
open PySem.W in
theorem bin1_right {Q : Value → Shared → Prop} (X : K.In s.heap) (I : InstAt s.heap x ox C od) (hc : selfFirst K C = true) (hs : findIn K (.ref C) (dunder nm) = some (some (.ref f0))) (hr : findIn K (.ref C) (dunderR nm) = some (some (.ref f))) (hf : isFn K (.ref f) = true)
    (hsub : subIn K (.ref C) (.type "int") = some false) (fl : fillsNumberSlot (.type "int") nm = pure true) (sl : Slot "int" (dunder nm) idl)
    (hd : ∀ Q' : Value → Shared → Prop, Q' .notImplemented s → wpAny (model prog w) A (call (.builtin idl) [.int i t, .ref x]) Q' E s)
    (h : wpAny (model prog w) A (call (.ref f) [.ref x, .int i t]) (PySem.W.CmpBack Q) E s) : wpAny (model prog w) A (binaryOp1 nm (.int i t) (.ref x)) (fun r s' => ∃ v, r = some v ∧ Q v s') E s := by
  obtain ⟨cd, rest, hcd, hm⟩ := ksp_first hc
  have one := ksp_try X I hr hf h
  have dec : ∀ Q' : Option Value → Shared → Prop, Q' none s → wpAny (model prog w) A (tryMethod (.int i t) (dunder nm) (.ref x)) Q' E s := fun Q' q => wpAny_tryMethod_declines (typeIs_int s i t) sl (hd _ ⟨rfl, q⟩)
  obtain ⟨hh, g, d, tt, os⟩ := s
  have L1 : Looks (model prog w) hh (typeOf (.int i t)) (.type "int") := Looks.of_pure rfl
  have L2 : Looks (model prog w) hh (typeOf (.ref x)) (.ref C) := I.type
  have L3 : Looks (model prog w) hh (fillsNumberSlot (.type "int") nm) true := Looks.of_pure fl
  have L4 : Looks (model prog w) hh (fillsNumberSlot (.ref C) nm) true := fills_K X hcd hm hs
  have L5 : Looks (model prog w) hh (isSubtype (.ref C) (.type "int")) false := looks_subIn X hsub
  have L6 : Looks (model prog w) hh (numberSlotInPython (.type "int") nm) false := Looks.of_pure rfl
  have hne : (Value.type "int" == Value.ref C) = false := Bool.eq_false_iff.mpr fun q => by cases beq_iff_eq.mp q
  unfold binaryOp1
  refine wpAny_bind (L1.at (wpAny_bind (L2.at (wpAny_bind (L3.at ?_)))))
  simp only [hne, Bool.false_eq_true, if_false]
  ksp_lk
  refine dec _ ?_
  ksp_lk
  refine wpAny_mono one (fun r s' hr' => ?_) fun _ _ e => e
  obtain ⟨v, rfl, hq⟩ := hr'
  ksp_lk
  exact ⟨v, rfl, hq⟩
open PySem.W in
theorem bin1_left {Q : Value → Shared → Prop} {rc : Addr} (X : K.In s.heap) (I : InstAt s.heap x ox C od) (hc : selfFirst K C = true) (hs : findIn K (.ref C) (dunder nm) = some (some (.ref f))) (hf : isFn K (.ref f) = true) (hr : findIn K (.ref C) (dunderR nm) = some (some (.ref rc)))
    (hsub : subIn K (.type "int") (.ref C) = some false) (fl : fillsNumberSlot (.type "int") nm = pure true) {ro : Option Value} (h2 : findIn K (.type "int") (dunderR nm) = some ro)
    (h : wpAny (model prog w) A (call (.ref f) [.ref x, .int i t]) (PySem.W.CmpBack Q) E s) : wpAny (model prog w) A (binaryOp1 nm (.ref x) (.int i t)) (fun r s' => ∃ v, r = some v ∧ Q v s') E s := by
  obtain ⟨cd, rest, hcd, hm⟩ := ksp_first hc
  have one := ksp_try X I hs hf h
  obtain ⟨hh, g, d, tt, os⟩ := s
  have L1 : Looks (model prog w) hh (typeOf (.int i t)) (.type "int") := Looks.of_pure rfl
  have L2 : Looks (model prog w) hh (typeOf (.ref x)) (.ref C) := I.type
  have L3 : Looks (model prog w) hh (fillsNumberSlot (.type "int") nm) true := Looks.of_pure fl
  have L4 : Looks (model prog w) hh (fillsNumberSlot (.ref C) nm) true := fills_K X hcd hm hs
  have L5 : Looks (model prog w) hh (isSubtype (.type "int") (.ref C)) false := looks_subIn X hsub
  have L6 : Looks (model prog w) hh (numberSlotInPython (.type "int") nm) false := Looks.of_pure rfl
  have L7 : Looks (model prog w) hh (numberSlotInPython (.ref C) nm) true := ksp_inPy X hs hr (.inr ⟨rc, rfl⟩)
  have L8 : Looks (model prog w) hh (typeLookup (.type "int") (dunderR nm)) ro := looks_findIn X h2
  have hne : (Value.ref C == Value.type "int") = false := Bool.eq_false_iff.mpr fun q => by cases beq_iff_eq.mp q
  unfold binaryOp1
  refine wpAny_bind (L2.at (wpAny_bind (L1.at (wpAny_bind (L4.at ?_)))))
  simp only [hne, Bool.false_eq_true, if_false]
  ksp_lk
  refine wpAny_mono one (fun r s' hr' => ?_) fun _ _ e => e
  obtain ⟨v, rfl, hq⟩ := hr'
  ksp_lk
  exact ⟨v, rfl, hq⟩
open PySem.W in
theorem bin1_same {y : Addr} {oy : Obj} {oe : Option Obj} {Q : Value → Shared → Prop} (X : K.In s.heap) (I : InstAt s.heap x ox C od) (J : InstAt s.heap y oy C oe) (hc : selfFirst K C = true) (hs : findIn K (.ref C) (dunder nm) = some (some (.ref f))) (hf : isFn K (.ref f) = true)
    (h : wpAny (model prog w) A (call (.ref f) [.ref x, .ref y]) (PySem.W.CmpBack Q) E s) : wpAny (model prog w) A (binaryOp1 nm (.ref x) (.ref y)) (fun r s' => ∃ v, r = some v ∧ Q v s') E s := by
  obtain ⟨cd, rest, hcd, hm⟩ := ksp_first hc
  have one := ksp_try X I hs hf h
  obtain ⟨hh, g, d, tt, os⟩ := s
  have L1 : Looks (model prog w) hh (typeOf (.ref y)) (.ref C) := J.type
  have L2 : Looks (model prog w) hh (typeOf (.ref x)) (.ref C) := I.type
  have L4 : Looks (model prog w) hh (fillsNumberSlot (.ref C) nm) true := fills_K X hcd hm hs
  unfold binaryOp1
  refine wpAny_bind (L2.at (wpAny_bind (L1.at (wpAny_bind (L4.at ?_)))))
  simp only [beq_self_eq_true, if_true]
  ksp_lk
  refine wpAny_mono one (fun r s' hr' => ?_) fun _ _ e => e
  obtain ⟨v, rfl, hq⟩ := hr'
  ksp_lk
  exact ⟨v, rfl, hq⟩
/-- the whole operator, by its first part -/
theorem bin_of1 {op : Operator} {a b : Value} {Q : Value → Shared → Prop} (h : wpAny (model prog w) A (binaryOp1 op.info.2 a b) (fun r s' => ∃ v, r = some v ∧ Q v s') E s) : wpAny (model prog w) A (binaryOp op a b) Q E s := by
  rcases hi : op.info with ⟨sym, nm'⟩
  rw [hi] at h
  simp only [binaryOp, hi]
  refine wpAny_holding (wpAny_bind (wpAny_mono h (fun r s' hr' => ?_) fun _ _ e => e))
  obtain ⟨v, rfl, hq⟩ := hr'
  exact wpAny_pure hq
open PySem.W in
/-- x op= b where the class has no own __iop__ -/
theorem inpl_of1 {op : Operator} {Q : Value → Shared → Prop} (X : K.In s.heap) (I : InstAt s.heap x ox C od) {cd : ClassData} (hcd : clsIn K C = some cd) (hm : cd.mro = [.ref C, .type "object"]) (hi1 : findIn K (.ref C) (dunderI op.info.2) = some none) (hi2 : findIn K (.type "object") (dunderI op.info.2) = some none)
    (h : wpAny (model prog w) A (binaryOp1 op.info.2 (.ref x) b) (fun r s' => ∃ v, r = some v ∧ Q v s') E s) : wpAny (model prog w) A (inplaceOp op (.ref x) b) Q E s := by
  obtain ⟨hh, g, d, tt, os⟩ := s
  have L1 : Looks (model prog w) hh (typeOf (.ref x)) (.ref C) := I.type
  have L2 : Looks (model prog w) hh (fillsInplaceSlot (.ref C) op.info.2 (op == .Add)) false := by
    intro A' Q' E' s' k' q
    have Lm : Looks (model prog w) hh (mroOf (.ref C)) cd.mro := (looks_clsIn X hcd).andThen (f := fun cd => pure cd.mro) .now
    have Lm' := Lm.keeps k'
    obtain ⟨hh', g', d', tt', os'⟩ := s'
    have X' : K.In hh' := X.keeps k'
    have M1 : Looks (model prog w) hh' (typeLookup (.ref C) (dunderI op.info.2)) none := looks_findIn X' hi1
    have M2 : Looks (model prog w) hh' (typeLookup (.type "object") (dunderI op.info.2)) none := looks_findIn X' hi2
    unfold fillsInplaceSlot
    refine wpAny_bind (Lm'.at ?_)
    rw [hm, List.anyM_cons]
    refine wpAny_bind ?_
    repeat lk
    exact q
  unfold inplaceOp
  refine wpAny_holding ?_
  refine wpAny_bind (L1.at ?_)
  refine wpAny_bind (L2.at ?_)
  simp only [Bool.false_eq_true, if_false]
  refine wpAny_bind (wpAny_mono h (fun r s' hr' => ?_) fun _ _ e => e)
  obtain ⟨v, rfl, hq⟩ := hr'
  exact wpAny_pure hq
/-- n op= b where b is an own thing -/
theorem inpl_int {op : Operator} {Q : Value → Shared → Prop} (noI : typeLookup (.type "int") (dunderI op.info.2) = pure none)
    (h : wpAny (model prog w) A (binaryOp1 op.info.2 (.int i t) b) (fun r s' => ∃ v, r = some v ∧ Q v s') E s) : wpAny (model prog w) A (inplaceOp op (.int i t) b) Q E s := by
  unfold inplaceOp
  refine wpAny_holding ?_
  have e1 : typeOf (.int i t) = pure (.type "int") := rfl
  have e2 : fillsInplaceSlot (.type "int") op.info.2 (op == .Add) = pure false := by
    unfold fillsInplaceSlot
    simp only [noI]
    rfl
  rw [e1]
  refine wpAny_bind (wpAny_pure ?_)
  rw [e2]
  refine wpAny_bind (wpAny_pure ?_)
  simp only [Bool.false_eq_true, if_false]
  refine wpAny_bind (wpAny_mono h (fun r s' hr' => ?_) fun _ _ e => e)
  obtain ⟨v, rfl, hq⟩ := hr'
  exact wpAny_pure hq
end
end G

namespace G
open PySem PySem.Spec PyProof.Rows L2
/-! ### operators of own classes -/
structure OpC (K : PySem.W.Frag) (C : Addr) (nm : String) (f fr : Addr) : Prop where
  sf : PySem.W.selfFirst K C = true
  hs : PySem.W.findIn K (.ref C) (dunder nm) = some (some (.ref f))
  hf : PySem.W.isFn K (.ref f) = true
  hr : PySem.W.findIn K (.ref C) (dunderR nm) = some (some (.ref fr))
  hfr : PySem.W.isFn K (.ref fr) = true
  s1 : PySem.W.subIn K (.ref C) (.type "int") = some false
  s2 : PySem.W.subIn K (.type "int") (.ref C) = some false
  ir : ∃ ro, PySem.W.findIn K (.type "int") (dunderR nm) = some ro
structure IpC (K : PySem.W.Frag) (C : Addr) (nm : String) : Prop where
  mro : ∃ cd, PySem.W.clsIn K C = some cd ∧ cd.mro = [.ref C, .type "object"]
  i1 : PySem.W.findIn K (.ref C) (dunderI nm) = some none
  i2 : PySem.W.findIn K (.type "object") (dunderI nm) = some none
/-- an int's own operator, beside an own thing -/
structure IntDec (nm : String) : Prop where
  fl : fillsNumberSlot (.type "int") nm = pure true
  noI : typeLookup (.type "int") (dunderI nm) = pure none
  dec : ∃ idl, Slot "int" (dunder nm) idl ∧ ∀ (prog : Program) (w : World) (A : Around) (E : Value → Shared → Prop) (s : Shared) (i : Int) (t : Tok) (x C dx : Addr) (Q' : Value → Shared → Prop),
    s.heap.get? x = some (PySem.W.instObj C dx) → Q' .notImplemented s → wpAny (model prog w) A (call (.builtin idl) [.int i t, .ref x]) Q' E s
theorem intdec_add : IntDec "add" := ⟨F.fills_int_add, F.noI_int_add, _, F.slot_int_add, fun _ _ _ _ s i t x C dx Q' h q => call_meets F.slot_int_add (typeIs_int s i t) F.entry_int_add (F.args_int_add_2 _ _) (dec_add i t x C dx) ⟨h, q⟩⟩
theorem intdec_sub : IntDec "sub" := ⟨F.fills_int_sub, F.noI_int_sub, _, F.slot_int_sub, fun _ _ _ _ s i t x C dx Q' h q => call_meets F.slot_int_sub (typeIs_int s i t) F.entry_int_sub (F.args_int_sub_2 _ _) (dec_sub i t x C dx) ⟨h, q⟩⟩
theorem intdec_mul : IntDec "mul" := ⟨F.fills_int_mul, F.noI_int_mul, _, F.slot_int_mul, fun _ _ _ _ s i t x C dx Q' h q => call_meets F.slot_int_mul (typeIs_int s i t) F.entry_int_mul (F.args_int_mul_2 _ _) (dec_mul i t x C dx) ⟨h, q⟩⟩
theorem intdec_floordiv : IntDec "floordiv" := ⟨F.fills_int_floordiv, F.noI_int_floordiv, _, F.slot_int_floordiv, fun _ _ _ _ s i t x C dx Q' h q => call_meets F.slot_int_floordiv (typeIs_int s i t) F.entry_int_floordiv (F.args_int_floordiv_2 _ _) (dec_floordiv i t x C dx) ⟨h, q⟩⟩
theorem intdec_mod : IntDec "mod" := ⟨F.fills_int_mod, F.noI_int_mod, _, F.slot_int_mod, fun _ _ _ _ s i t x C dx Q' h q => call_meets F.slot_int_mod (typeIs_int s i t) F.entry_int_mod (F.args_int_mod_2 _ _) (dec_mod i t x C dx) ⟨h, q⟩⟩
section
variable {X : Cx} {W : Wd} {ξ : Xi} {E : Sg → XK} {a b e o tg : Expr} {es : List Expr} {ga gb : GE'} {gs : GA'} {pos pos' p2 p : Pos} {x : Str}
theorem rel_ref (p : Addr) : RelV (.ref p) (.ref p) := rfl
theorem back_of {pins : List (Addr × Obj)} {σ : Sg} {Q : VK} {u : Value} {s' : Shared} (h : EP X pins σ Q u s') : PySem.W.CmpBack (EP X pins σ Q) u s' := by
  obtain ⟨v, H', I, r, q⟩ := h
  have : EP X pins σ Q u s' := ⟨v, H', I, r, q⟩
  cases v with
  | non => cases r; exact this
  | bl b => cases r; exact this
  | int i => obtain ⟨t, rfl⟩ := r; exact this
  | str x => obtain ⟨t, rfl⟩ := r; exact this
  | byt x => obtain ⟨t, rfl⟩ := r; exact this
  | flt x => obtain ⟨t, rfl⟩ := r; exact this
  | ref a => cases r; exact this
  | ty n => cases r; exact this
/-- an instance as the model sees it -/
theorem inst_of {pins : List (Addr × Obj)} {σ : Sg} {H : Hp} {s : Shared} {q C dx : Addr} {fvs : List (Str × V)} (I : Inv X pins σ H s) (h : H q = some (.ins C dx fvs)) :
    ∃ od, PySem.W.InstAt s.heap q (PySem.W.instObj C dx) C (some od) ∧ s.heap.get? q = some (PySem.W.instObj C dx) := by
  obtain ⟨mA, O, _⟩ := ins_get I.hok h
  obtain ⟨od, J, _⟩ := O.look
  obtain ⟨_, _, _, e, _⟩ := I.hok q _ h
  exact ⟨od, J, e⟩
def own2 (c : Nat) (g gr : List D → Stor → R D) : D → D → Stor → R D := fun x y M => match insOf x M with
  | some (c1, _) => if c1 = c then (match y with
    | .int _ => g [x, y] M
    | y => (match insOf y M with
      | some (c2, _) => if c2 = c then g [x, y] M else .no
      | none => .no)) else .no
  | none => (match x with
    | .int _ => (match insOf y M with
      | some (c2, _) => if c2 = c then gr [y, x] M else .no
      | none => .no)
    | _ => .no)
theorem own_core {c : Nat} {f fr : Addr} {g gr : List D → Stor → R D} {nm : String} (O : OpC X.K (W.T c) nm f fr) (Z : IntDec nm) (hg : CallG X W E (.ref f) g) (hgr : CallG X W E (.ref fr) gr)
    {pins : List (Addr × Obj)} {s : Shared} {σ : Sg} {H : Hp} {M : Stor} {F : Hp} {ρ : List Addr} {x y : D} {vx vy : V} {ux uy : Value} {Q : VK}
    (I : Inv X pins σ H s) (rx : RelV vx ux) (ry : RelV vy uy) (rp : Rp W ξ M F H ρ) (ix : Is W F ρ x vx) (iy : Is W F ρ y vy) (po : Po W ξ (Is W) F ρ (own2 c g gr x y M) Q (E σ)) :
    wpAny (model X.prog X.w) X.A (binaryOp1 nm ux uy) (fun r s' => ∃ v, r = some v ∧ EP X pins σ Q v s') X.xe s := by
  unfold own2 at po
  split at po
  · rename_i c1 l ex
    split at po
    · rename_i hc
      subst hc
      obtain ⟨p, dx, fvs, rfl, hp, _, _⟩ := insOf_ok rp ix ex
      cases rx
      obtain ⟨od, J, _⟩ := inst_of I hp
      split at po
      · rename_i j
        have iy' := iy
        simp only [Is] at iy'; subst iy'
        obtain ⟨t, rfl⟩ := id ry
        obtain ⟨ro, ir⟩ := O.ir
        exact bin1_left I.kIn J O.sf O.hs O.hf O.hr O.s2 Z.fl ir (thn (hg ξ pins s σ H M F ρ _ _ _ Q I (.cons (rel_ref p) (.cons ry .nil)) rp (IsL.cons ix (IsL.cons iy IsL.nil)) po) fun _ _ z => back_of z)
      · split at po
        · rename_i c2 l2 ey
          split at po
          · rename_i hc2
            subst hc2
            obtain ⟨q, dy, gvs, rfl, hq, _, _⟩ := insOf_ok rp iy ey
            cases ry
            obtain ⟨oe, J2, _⟩ := inst_of I hq
            exact bin1_same I.kIn J J2 O.sf O.hs O.hf (thn (hg ξ pins s σ H M F ρ _ _ _ Q I (.cons (rel_ref p) (.cons (rel_ref q) .nil)) rp (IsL.cons ix (IsL.cons iy IsL.nil)) po) fun _ _ z => back_of z)
          · exact po.elim
        · exact po.elim
    · exact po.elim
  · split at po
    · rename_i j _
      split at po
      · rename_i c2 l2 ey
        split at po
        · rename_i hc2
          subst hc2
          obtain ⟨q, dy, gvs, rfl, hq, _, _⟩ := insOf_ok rp iy ey
          cases ry
          have ix' := ix
          simp only [Is] at ix'; subst ix'
          obtain ⟨t, rfl⟩ := id rx
          obtain ⟨oe, J2, e2⟩ := inst_of I hq
          obtain ⟨idl, sl, dec⟩ := Z.dec
          exact bin1_right I.kIn J2 O.sf O.hs O.hr O.hfr O.s1 Z.fl sl (fun Q' q' => dec _ _ _ _ s j t q _ dy Q' e2 q')
            (thn (hgr ξ pins s σ H M F ρ _ _ _ Q I (.cons (rel_ref q) (.cons rx .nil)) rp (IsL.cons iy (IsL.cons ix IsL.nil)) po) fun _ _ z => back_of z)
        · exact po.elim
      · exact po.elim
    · exact po.elim
theorem og_own {c : Nat} {f fr : Addr} {g gr : List D → Stor → R D} {op : Operator} (O : OpC X.K (W.T c) op.info.2 f fr) (Z : IntDec op.info.2) (hg : CallG X W E (.ref f) g) (hgr : CallG X W E (.ref fr) gr) :
    OpG X W E (binaryOp op) (own2 c g gr) := fun ξ pins s σ H M F ρ x y vx vy ux uy Q I rx ry rp ix iy po => bin_of1 (own_core O Z hg hgr I rx ry rp ix iy po)
theorem og_iown {c : Nat} {f fr : Addr} {g gr : List D → Stor → R D} {op : Operator} (O : OpC X.K (W.T c) op.info.2 f fr) (Z : IntDec op.info.2) (Ip : IpC X.K (W.T c) op.info.2) (hg : CallG X W E (.ref f) g) (hgr : CallG X W E (.ref fr) gr) :
    OpG X W E (inplaceOp op) (own2 c g gr) := fun ξ pins s σ H M F ρ x y vx vy ux uy Q I rx ry rp ix iy po => by
  have core := own_core O Z hg hgr I rx ry rp ix iy po
  cases ex : insOf x M with
  | some q =>
    obtain ⟨c1, l⟩ := q
    have hc : c1 = c := by
      unfold own2 at po
      rw [ex] at po
      simp only at po
      split at po
      · assumption
      · exact po.elim
    subst hc
    obtain ⟨p, dx, fvs, rfl, hp, _, _⟩ := insOf_ok rp ix ex
    cases rx
    obtain ⟨od, J, _⟩ := inst_of I hp
    obtain ⟨cd, h1, h2⟩ := Ip.mro
    exact inpl_of1 I.kIn J h1 h2 Ip.i1 Ip.i2 core
  | none =>
    have hx : ∃ j, x = .int j := by
      unfold own2 at po
      rw [ex] at po
      simp only at po
      split at po
      · exact ⟨_, rfl⟩
      · exact po.elim
    obtain ⟨j, rfl⟩ := hx
    simp only [Is] at ix; subst ix
    obtain ⟨t, rfl⟩ := rx
    exact inpl_int Z.noI core
/-- one thing: -x, ~x -/
def own1 (c : Nat) (g : List D → Stor → R D) : D → Stor → R D := fun x M => match insOf x M with
  | some (c1, _) => if c1 = c then g [x] M else .no
  | none => .no
theorem ug_neg {c : Nat} {f : Addr} {g : List D → Stor → R D} (hs : PySem.W.findIn X.K (.ref (W.T c)) "__neg__" = some (some (.ref f))) (hf : PySem.W.isFn X.K (.ref f) = true) (hg : CallG X W E (.ref f) g) : UnG X W E (unaryOp .USub) (own1 c g) :=
  fun ξ pins s σ H M F ρ x vx ux Q I rx rp ix po => by
    unfold own1 at po
    split at po
    · rename_i c1 l ex
      split at po
      · rename_i hc
        subst hc
        obtain ⟨p, dx, fvs, rfl, hp, _, _⟩ := insOf_ok rp ix ex
        cases rx
        obtain ⟨od, J, _⟩ := inst_of I hp
        obtain ⟨m, fr⟩ := I.fr
        exact PySem.W.ksp_neg fr I.mod.kin J hs hf (hg ξ pins s σ H M F ρ _ _ _ Q I (.cons (rel_ref p) .nil) rp (IsL.cons ix IsL.nil) po)
      · exact po.elim
    · exact po.elim
theorem ug_inv {c : Nat} {f : Addr} {g : List D → Stor → R D} (hs : PySem.W.findIn X.K (.ref (W.T c)) "__invert__" = some (some (.ref f))) (hf : PySem.W.isFn X.K (.ref f) = true) (hg : CallG X W E (.ref f) g) : UnG X W E (unaryOp .Invert) (own1 c g) :=
  fun ξ pins s σ H M F ρ x vx ux Q I rx rp ix po => by
    unfold own1 at po
    split at po
    · rename_i c1 l ex
      split at po
      · rename_i hc
        subst hc
        obtain ⟨p, dx, fvs, rfl, hp, _, _⟩ := insOf_ok rp ix ex
        cases rx
        obtain ⟨od, J, _⟩ := inst_of I hp
        obtain ⟨m, fr⟩ := I.fr
        exact PySem.W.ksp_inv fr I.mod.kin J hs hf (hg ξ pins s σ H M F ρ _ _ _ Q I (.cons (rel_ref p) .nil) rp (IsL.cons ix IsL.nil) po)
      · exact po.elim
    · exact po.elim
def dNegI : D → Stor → R D := fun x M => match x with
  | .int i => .ok (.int (-i)) M
  | _ => .no
theorem ug_negI : UnG X W E (unaryOp .USub) dNegI := UnG.of un_neg fun ξ M F H ρ x vx Q Z rp ix po => by
  unfold dNegI at po
  split at po
  · rename_i i
    simp only [Is] at ix; subst ix
    exact ⟨i, rfl, po.now rp (flat_int F ρ)⟩
  · exact po.elim
/-! ### a built-in that asks an own method one room deeper: abs(x) -/
abbrev Cx.in1 (X : Cx) : Cx := { X with A := X.A.in1 }
theorem inv_in1 {pins : List (Addr × Obj)} {σ : Sg} {H : Hp} {s : Shared} (I : Inv X pins σ H s) : Inv (Cx.in1 X) pins σ H s :=
  ⟨⟨I.ok.mod, I.ok.kind, I.ok.glob, I.ok.blt, I.ok.above, I.ok.inj, I.ok.has, I.ok.cab, I.ok.hd, I.ok.frames, I.ok.stk, I.ok.exf, I.ok.bs, I.ok.bsz, I.ok.noex, I.ok.exfs, I.ok.funs, I.ok.frf⟩, I.os, I.bare, I.base, I.loc, I.cell, I.free, I.freeC, I.pin, I.hok, I.len⟩
theorem inv_out1 {pins : List (Addr × Obj)} {σ : Sg} {H : Hp} {s : Shared} (I : Inv (Cx.in1 X) pins σ H s) : Inv X pins σ H s :=
  ⟨⟨I.ok.mod, I.ok.kind, I.ok.glob, I.ok.blt, I.ok.above, I.ok.inj, I.ok.has, I.ok.cab, I.ok.hd, I.ok.frames, I.ok.stk, I.ok.exf, I.ok.bs, I.ok.bsz, I.ok.noex, I.ok.exfs, I.ok.funs, I.ok.frf⟩, I.os, I.bare, I.base, I.loc, I.cell, I.free, I.freeC, I.pin, I.hok, I.len⟩
theorem pass_in1 (h : Pass X E) : Pass (Cx.in1 X) E := fun σ pins H s e s' I c => h σ pins H s e s' (inv_out1 I) c
def fAbsO (c : Nat) (g : List D → Stor → R D) : List D → Stor → R D := fun ds M => match ds with
  | [x] => own1 c g x M
  | _ => .no
theorem cg_absO {c : Nat} {f : Addr} {g : List D → Stor → R D} (hs : PySem.W.findIn X.K (.ref (W.T c)) "__abs__" = some (some (.ref f))) (hf : PySem.W.isFn X.K (.ref f) = true) (hg : CallG (Cx.in1 X) W E (.ref f) g) : CallG X W E (.builtin "abs") (fAbsO c g) :=
  fun ξ pins s σ H M F ρ ds vs us Q I rv rp is po => by
    unfold fAbsO at po
    split at po
    · rename_i x
      obtain ⟨v, rfl, ix⟩ := one_of is
      unfold own1 at po
      split at po
      · rename_i c1 l ex
        split at po
        · rename_i hc
          subst hc
          obtain ⟨p, dx, fvs, rfl, hp, _, _⟩ := insOf_ok rp ix ex
          obtain ⟨u, rfl, ru⟩ := vals1 rv
          cases ru
          obtain ⟨od, J, _⟩ := inst_of I hp
          refine Calls.call_function_entry kind_abs plain_abs entry_abs (args_abs _) ?_
          unfold Builtin.«abs»
          refine wpAny_bind (m := oneArg "abs" _) (wpAny_pure ?_)
          refine wpAny_bind (PySem.W.special_fn I.kIn J hs (beq_iff_eq.mp hf) ?_)
          refine wpAny_mono (hg ξ pins s σ H M F ρ _ _ _ Q (inv_in1 I) (.cons (rel_ref p) .nil) rp (IsL.cons ix IsL.nil) po) ?_ fun _ _ z => z
          rintro r s' ⟨w', H', I', rw', q'⟩
          exact wpAny_pure ⟨_, rfl, ⟨w', H', inv_out1 I', rw', q'⟩⟩
        · exact po.elim
      · exact po.elim
    · exact po.elim
end
end G

namespace G
open PySem PySem.Spec PyProof.Rows L2
section
variable {X : Cx} {W : Wd} {ξ : Xi} {E : Sg → XK} {a b e o tg : Expr} {es : List Expr} {ga gb : GE'} {gs : GA'} {pos pos' p2 p apos : Pos} {x : Str}
/-! ### C.m(..), m a staticmethod of the class C -/
structure SMet (K : PySem.W.Frag) (C : Addr) (m : Str) (f : Addr) : Prop where
  rd : PySem.W.readsIn K C (.type "type") = true
  ga : PySem.W.specialIn K (.ref C) "__getattribute__" = some (some (.builtin "type.__getattribute__"))
  at_ : ∃ q rest, PySem.W.findCls K (.ref C) (.type "type") m = some (.get (.builtin "staticmethod.__get__") (.ref q) .none (.ref C)) ∧ PySem.W.recIn K q "staticmethod" = some (.ref f :: rest)
  kp : PySem.W.keepIn K (.ref f) = true
theorem smet_get {m : Str} {C f : Addr} {pins : List (Addr × Obj)} {s : Shared} {σ : Sg} {H : Hp} {pl : Sem Bool} {A : Around} {Z : Value → Shared → Prop} {Q : Value × List Value → Shared → Prop} (I : Inv X pins σ H s) (k : SMet X.K C m f) (h : Q (.ref f, []) { s with toks := s.toks + 1 }) :
    wpAny (model X.prog X.w) A (getMethod (.ref C) m pl) Q Z s := by
  obtain ⟨q, rest, h1, h2⟩ := k.at_
  refine PySem.W.method_cls I.kIn k.ga (PySem.W.cls_bind I.kIn k.rd h1 ?_)
  exact wpAny_call (PySem.W.sm_get (s := { s with toks := s.toks + 1 }) I.kIn h2 (PySem.W.handed_on rfl h))
theorem ge_smeth {m : Str} {c : Nat} {f : Addr} {g : List D → Stor → R D} {pl : Sem Bool} (hc : CallG X W E (.ref f) g) (k : SMet X.K (W.T c) m f) (ho : GE X W E o (gC (.cls c))) (ha : GA X W E (e :: es) gs)
    (he : starEach (e :: es) X.env = (false, eval e X.env) :: starEach es X.env := by rfl) (hpl : (backTo pos (starEach es X.env)).any (·.1) = false := by rfl)
    (ht : eval (.Call (.Attribute o m apos) (e :: es) [] pos) X.env = (do
      let ov ← eval o X.env
      standAt apos.atName
      let (f, first) ← holding [ov] (getMethod ov m pl)
      callWith pos f first (backTo pos (starEach (e :: es) X.env)) (backToKw pos (keywordEach [] X.env))) := by rfl) : GE X W E (.Call (.Attribute o m apos) (e :: es) [] pos) (gCall g gs) := by
  refine ⟨fun pins s σ H Q I ⟨ξ, Γ, M, F, ρ, en, rp, po⟩ => ?_⟩
  refine PySem.W.methodCall_KW (pl := pl) (thn (ho.run pins s σ H (fun v H1 => v = .ref (W.T c) ∧ ∃ F1 ρ1, Le F F1 ∧ ρ <+: ρ1 ∧ Rp W ξ M F1 H1 ρ1) I ⟨ξ, Γ, M, F, ρ, en, rp, fun v F1 ρ1 H1 le pr rp1 is => ⟨by simpa only [Is] using is, F1, ρ1, le, pr, rp1⟩⟩) ?_) ht
  rintro u s1 ⟨v, H1, I1, r1, rfl, F1, ρ1, le, pr, rp1⟩
  cases r1
  refine smet_get I1 k ?_
  have I2 := I1.tok (s1.toks + 1)
  refine PySem.W.callWith_K (h₀ := X.base) I.ok.mod.kin k.kp (thn (ha.run pos pins _ σ H1 _ I2 ⟨ξ, Γ, M, F1, ρ1, en.mono le pr, rp1, (po.mono le pr).bind⟩) ?_) he hpl
  rintro us s2 ⟨vs, H2, I3, r, ds, M2, F2, ρ2, e2, p2, rp2, is, po2⟩
  exact ⟨I3.kIn, hc ξ pins s2 σ H2 M2 F2 ρ2 ds vs us Q I3 r rp2 is po2⟩
theorem ge_smeth0 {m : Str} {c : Nat} {f : Addr} {g : List D → Stor → R D} {pl : Sem Bool} (hc : CallG X W E (.ref f) g) (k : SMet X.K (W.T c) m f) (ho : GE X W E o (gC (.cls c)))
    (ht : eval (.Call (.Attribute o m apos) [] [] pos) X.env = (do
      let ov ← eval o X.env
      standAt apos.atName
      let (f, first) ← holding [ov] (getMethod ov m pl)
      callWith pos f first (backTo pos (starEach [] X.env)) (backToKw pos (keywordEach [] X.env))) := by rfl) : GE X W E (.Call (.Attribute o m apos) [] [] pos) (gCall g gNil) := by
  refine ⟨fun pins s σ H Q I ⟨ξ, Γ, M, F, ρ, en, rp, po⟩ => ?_⟩
  refine PySem.W.methodCall_KW (pl := pl) (thn (ho.run pins s σ H (fun v H1 => v = .ref (W.T c) ∧ ∃ F1 ρ1, Le F F1 ∧ ρ <+: ρ1 ∧ Rp W ξ M F1 H1 ρ1) I ⟨ξ, Γ, M, F, ρ, en, rp, fun v F1 ρ1 H1 le pr rp1 is => ⟨by simpa only [Is] using is, F1, ρ1, le, pr, rp1⟩⟩) ?_) ht
  rintro u s1 ⟨v, H1, I1, r1, rfl, F1, ρ1, le, pr, rp1⟩
  cases r1
  refine smet_get I1 k ?_
  have I2 := I1.tok (s1.toks + 1)
  exact PySem.W.callWith_K0 I2.kIn k.kp (hc ξ pins _ σ H1 M F1 ρ1 [] [] [] Q I2 .nil rp1 IsL.nil (po.mono le pr))
/-! ### a, b = x, y -/
def gPar2 (i j : Nat) (t : GA') : GS' := fun Γ M => (t Γ M).bindS Γ fun ds M1 => match ds with
  | [u, v] => .nx ((Γ.set i (some u)).set j (some v)) M1
  | _ => .no
theorem gs_par2 {i j : Nat} {x y : Str} {px py pt : Pos} {kt k2 pt2} (hc : X.calm = true) (hN : X.N.Nodup) (hi : X.N[i]? = some x) (hj : X.N[j]? = some y) (hij : i ≠ j)
    (hx : X.env.scope.names.lookup x = some .local) (hy : X.env.scope.names.lookup y = some .local) (ha : GA X W E [a, b] gs)
    (hw : swappedStores [.Tuple [.Name x px, .Name y py] kt pt] (.Tuple [a, b] k2 pt2) X.env = pure (some [x, y]) := by rfl)
    (hs : swapsWithSole [.Tuple [.Name x px, .Name y py] kt pt] (.Tuple [a, b] k2 pt2) pos.line X.env = pure false := by rfl) :
    GS X W E (.Assign [.Tuple [.Name x px, .Name y py] kt pt] (.Tuple [a, b] k2 pt2) pos) (gPar2 i j gs) :=
  mS (ps_par hc hN hi hj hij hx hy ha hw hs) fun N σ H ⟨ξ, Γ, M, F, ρ, en, rp, po⟩ => ⟨ξ, Γ, M, F, ρ, en, rp, (Po.bindS (rel := IsL W) en po).imp (by
    rintro vs H1 ⟨ds, M1, F1, ρ1, e1, p1, rp1, is, po1⟩
    split at po1
    · rename_i u v
      obtain ⟨vu, vv, rfl, iu, iv⟩ := two_of is
      exact ⟨vu, vv, rfl, po1 _ F1 ρ1 H1 Le.rfl' (List.prefix_refl _) rp1 (((en.mono e1 p1).set iu).set iv)⟩
    · exact po1.elim)⟩
def gPar3 (i j l : Nat) (t : GA') : GS' := fun Γ M => (t Γ M).bindS Γ fun ds M1 => match ds with
  | [u, v, w] => .nx (((Γ.set i (some u)).set j (some v)).set l (some w)) M1
  | _ => .no
theorem gs_par3 {c : Expr} {i j l : Nat} {x y z : Str} {px py pz pt : Pos} {kt k2 pt2} (hc : X.calm = true) (hN : X.N.Nodup) (hi : X.N[i]? = some x) (hj : X.N[j]? = some y) (hl : X.N[l]? = some z) (hij : i ≠ j) (hil : i ≠ l) (hjl : j ≠ l)
    (hx : X.env.scope.names.lookup x = some .local) (hy : X.env.scope.names.lookup y = some .local) (hz : X.env.scope.names.lookup z = some .local) (ha : GA X W E [a, b, c] gs)
    (hw : swappedStores [.Tuple [.Name x px, .Name y py, .Name z pz] kt pt] (.Tuple [a, b, c] k2 pt2) X.env = pure (some [x, y, z]) := by rfl)
    (hs : swapsWithSole [.Tuple [.Name x px, .Name y py, .Name z pz] kt pt] (.Tuple [a, b, c] k2 pt2) pos.line X.env = pure false := by rfl) :
    GS X W E (.Assign [.Tuple [.Name x px, .Name y py, .Name z pz] kt pt] (.Tuple [a, b, c] k2 pt2) pos) (gPar3 i j l gs) :=
  mS (ps_par3 hc hN hi hj hl hij hil hjl hx hy hz ha hw hs) fun N σ H ⟨ξ, Γ, M, F, ρ, en, rp, po⟩ => ⟨ξ, Γ, M, F, ρ, en, rp, (Po.bindS (rel := IsL W) en po).imp (by
    rintro vs H1 ⟨ds, M1, F1, ρ1, e1, p1, rp1, is, po1⟩
    split at po1
    · rename_i u v w
      obtain ⟨vu, r, rfl, iu, h2⟩ := IsL.cons_iff.mp is
      obtain ⟨vv, vw, rfl, iv, iw⟩ := two_of h2
      exact ⟨vu, vv, vw, rfl, po1 _ F1 ρ1 H1 Le.rfl' (List.prefix_refl _) rp1 ((((en.mono e1 p1).set iu).set iv).set iw)⟩
    · exact po1.elim)⟩
/-! ### methods of lists -/
def MtG (X : Cx) (W : Wd) (id : String) (f : D → List D → Stor → R D) : Prop :=
  ∃ r, MtR X id r ∧ ∀ (ξ : Xi) (M : Stor) (F H : Hp) (ρ : List Addr) (x : D) (ds : List D) (v : V) (vs : List V) (Q : VK) (Z : XK), Rp W ξ M F H ρ → Is W F ρ x v → IsL W F ρ ds vs → Po W ξ (Is W) F ρ (f x ds M) Q Z → r v vs H Q
def gMtL (f : D → List D → Stor → R D) (o : GE') (a : GA') : GE' := fun Γ M => (o Γ M).bind fun x M1 => match lstOf x M1 with
  | some _ => (a Γ M1).bind fun ds M2 => f x ds M2
  | none => .no
theorem ge_mtL {id : String} {name : Str} {f : D → List D → Stor → R D} {go : GE'} (hK : X.K = W.K) (slot : Slot "list" name id) (hty : typeOf (.builtin id) = pure (.type "method_descriptor")) (hm : MtG X W id f) (ho : GE X W E o go) (ha : GA X W E (e :: es) gs)
    (hbase : attributeBase o name X.env (eval o X.env) = eval o X.env := by rfl)
    (hfew : ((backTo pos (starEach (e :: es) X.env)).all (fun x => !x.1) && (backToKw pos (keywordEach [] X.env)).all (fun x => x.1.isSome)
      && decide ((e :: es).length + ([] : List Keyword).length + (if ([] : List Keyword).isEmpty then 0 else 1) < 30)) = true := by rfl)
    (hline : (apos.endLine == pos.line) = true := by rfl) (hs : starEach (e :: es) X.env = (false, eval e X.env) :: starEach es X.env := by rfl) (hplain : (backTo pos (starEach es X.env)).any (·.1) = false := by rfl) :
    GE X W E (.Call (.Attribute o name apos) (e :: es) [] pos) (gMtL f go gs) := by
  obtain ⟨r, hr, hk⟩ := hm
  refine mE (pe_bm PySem.F.plainAttrs_list slot hty hr ho ha hbase hfew hline hs hplain) fun σ H Q ⟨ξ, Γ, M, F, ρ, en, rp, po⟩ => ⟨ξ, Γ, M, F, ρ, en, rp, po.bind.imp ?_⟩
  rintro v H1 ⟨x, M1, F1, ρ1, e1, p1, rp1, ix, po1⟩
  split at po1
  · rename_i l el
    obtain ⟨q, vs, rfl, hq, hl⟩ := lstOf_ok rp1 ix el
    refine ⟨.inl ⟨rfl, vs, by rw [hK]; exact hq⟩, ξ, Γ, M1, F1, ρ1, en.mono e1 p1, rp1, po1.bind.imp ?_⟩
    rintro us H2 ⟨ds, M2, F2, ρ2, e2, p2, rp2, is, po2⟩
    exact hk ξ M2 F2 H2 ρ2 x ds _ us Q _ rp2 (ix.mono e2 p2) is po2
  · exact po1.elim
def mAppend : D → List D → Stor → R D := fun x ds M => match x, ds with
  | .ref k, [d] => (match M[k]? with
    | some (.lst l) => if l.length < 1000000 then .ok .non (M.set k (.lst (l ++ [d]))) else .no
    | _ => .no)
  | _, _ => .no
theorem mg_append : MtG X W "list.append" mAppend := ⟨_, mt_append, fun ξ M F H ρ x ds v vs Q Z rp ix is po => by
  unfold mAppend at po
  split at po
  · rename_i k d
    split at po
    · rename_i l em
      split at po
      · rename_i hz
        simp only [Is] at ix; obtain ⟨a, rfl, ea⟩ := ix
        obtain ⟨u, rfl, iu⟩ := one_of is
        obtain ⟨_, us, hv, hl⟩ := rp.obj k _ a em ea
        refine ⟨a, us, u, rfl, rfl, hv, by rw [hl.len, sizeLine_eq]; omega, ?_⟩
        exact po .non F ρ _ Le.rfl' (List.prefix_refl _) (rp.set ea ⟨_, rfl, hl.append (IsL.cons iu IsL.nil)⟩) (by simp only [Is])
      · exact po.elim
    · exact po.elim
  · exact po.elim⟩
end
end G

namespace G
open PySem PySem.Spec PyProof.Rows L2
/-! ### the law's own call -/
theorem law_g {P : Program} {w : World} {W : Wd} {mg mb : Str → Option Value} {k : Nat} {fa a : Addr} {fd : FuncData} {x : Str} {g : List D → Stor → R D} {st : Shared} {us : List Value} {zs : List Int}
    (kin : W.K.In st.heap) (glob : st.heap.Ns mainGlobals mg) (blt : st.heap.Ns builtinsNs mb) (bltv : ∀ y : Str, y ≠ "__name__" → mb y = bootBuiltins y) (lim : st.heap.NoLimit) (nogen : st.gens = #[])
    (scr : st.heap.get? a = some { cls := .type "list", data := .seq us.toArray }) (hin : IntsAre us zs) (few : zs.length ≤ sizeLine) (room : Room k callerA)
    (fn : ∀ base : Heap, W.K.In base → base.Ns mainGlobals mg → FnG P w W mg base k fa fd [x] g) (bind : ∀ (s : Shared) (u : Value), BindsTo s fd ⟨[u], []⟩ [(x, u)])
    (good : ∃ M, g [.lck (zs.map D.int)] [] = .ok (.bl true) M) (ntb : W.tb = []) :
    codeAny (model P w) callerA (.call (.ref fa) ⟨[.ref a], []⟩) (fun r s' => r = .ok (.ret (.bool true)) ∧ OldK st.heap s'.heap ∧ s'.os = st.os ∧ AllBare s'.gens) st := by
  obtain ⟨Mz, good⟩ := good
  have vals : Vals (zs.map V.int) us := vals_ints hin
  have usl : us.length = zs.length := hin.length
  -- whatever is tracked is the script alone
  have main : ∀ H : Hp, Only H → SqL W.K H a (zs.map V.int) → HOk P w H st.heap → (∀ b, H b ≠ none → b = a) → (H a ≠ none → W.K.lookup a = none) →
      codeAny (model P w) callerA (.call (.ref fa) ⟨[.ref a], []⟩) (fun r s' => r = .ok (.ret (.bool true)) ∧ OldK st.heap s'.heap ∧ s'.os = st.os ∧ AllBare s'.gens) st := by
    intro H only sq hok alone free
    have stays : ∀ {b : Addr} {ob : Obj}, st.heap.get? b = some ob → H b = none → (hidT st.heap H).get? b = some ob := fun q n => hidT_get q n
    have nodict : ∀ {b : Addr} {ob : Obj} {es : Array DictEntry} {n : Nat}, st.heap.get? b = some ob → ob.data = .dict es n → H b = none := by
      intro b ob es n q dd
      cases hb : H b with
      | none => rfl
      | some z =>
        obtain rfl : b = a := alone b (by rw [hb]; exact fun h => nomatch h)
        rw [scr] at q
        cases q
        have dd' : Data.seq us.toArray _ = Data.dict es n := dd
        cases dd'
    have ns : ∀ {b : Addr} {m : Str → Option Value}, st.heap.Ns b m → (hidT st.heap H).Ns b m := by
      rintro b m ⟨ob, es, n, q, dd, r⟩
      exact ⟨ob, es, n, stays q (nodict q dd), dd, r⟩
    have kin' : W.K.In (hidT st.heap H) := by
      intro b ob q
      refine stays (kin b ob q) ?_
      cases hb : H b with
      | none => rfl
      | some z =>
        obtain rfl : b = a := alone b (by rw [hb]; exact fun h => nomatch h)
        rw [free (by rw [hb]; exact fun h => nomatch h)] at q
        cases q
    have md : Mod W.K mg (hidT st.heap H) := by
      obtain ⟨mc, l1, l2⟩ := lim
      exact ⟨kin', ns glob, ⟨mb, ns blt, bltv⟩, ⟨mc, ns l1, l2⟩⟩
    have env : Env0 P w W.K mg (hidT st.heap H) callerA [] st H := by
      refine ⟨rfl, md, fun b ob q => of_hidT q, Nat.le_of_eq (hidT_size _ _), trivial, fun b hb => ?_, hok, .of_eq nogen⟩
      have hb' : b ∈ ([] : List Addr) := hb
      exact nomatch hb'
    have rp : Rp W [] [] H H [] := ⟨fun _ _ q => q, rfl, List.nodup_nil, fun i m b em _ => by simp at em, fun q hq => (nomatch hq), fun q hq => by rw [ntb] at hq; exact (nomatch hq)⟩
    have sp : spG W g [.ref a] H (fun v _ => v = .bl true) fun _ _ _ => False := by
      refine ⟨[], [.lck (zs.map D.int)], [], H, [], IsL.cons ?_ IsL.nil, rp, ?_⟩
      · simp only [Is]; exact ⟨a, _, rfl, sq, isL_ints zs⟩
      · rw [good]; exact fun v F' ρ' H' _ _ _ is => by simpa only [Is] using is
    refine codeAny_mono ((fn _ kin' (ns glob)).run callerA [] st H ⟨[.ref a], []⟩ [.ref a] [.ref a] _ _ room rfl env (bind st (.ref a)) (.cons rfl .nil) sp) ?_
    intro res s' out
    cases res with
    | error er => obtain ⟨_, _, _, _, _, _, _, _, _, _, _, _, z⟩ := out; exact z.elim
    | ok fl =>
      cases fl with
      | next => exact out.elim
      | brk => exact out.elim
      | cont => exact out.elim
      | ret u =>
        obtain ⟨v, H', os, bare, un, hok', rel, q⟩ := out
        obtain rfl : v = .bl true := q
        obtain rfl : u = Value.bool true := rel
        refine ⟨rfl, OldK.of_keep (fun b ob e => ?_), os, bare⟩
        cases hb : H b with
        | none => exact un.keep b ob e hb (fun z => by have z' : b ∈ ([] : List Addr) := z; exact nomatch z') (fun z => nomatch z)
        | some z =>
          rcases only b with h0 | ⟨oz, xs, h0⟩
          · rw [hb] at h0; cases h0
          · obtain ⟨e1, _⟩ := hok b _ h0
            obtain ⟨e2, _⟩ := hok' b _ (un.frzs b oz _ h0)
            rw [e] at e1
            cases e1
            exact e2
  cases hk : W.K.lookup a with
  | some ob =>
    have q := kin a ob hk
    rw [scr] at q
    cases q
    refine main (fun _ => none) (fun _ => Or.inl rfl) (Or.inr ⟨_, us.toArray, _, hk, rfl, rfl, rfl, ?_, ?_⟩) ?_ ?_ ?_
    · rw [List.size_toArray, usl]; exact few
    · simpa using vals
    · intro b u z
      have z' : (none : Option HO) = some u := z
      cases z'
    · intro b z; exact absurd rfl z
    · intro z; exact absurd rfl z
  | none =>
    let lock : HO := .frz { cls := .type "list", data := .seq us.toArray } (.lst (zs.map V.int))
    refine main (fun b => if b = a then some lock else none) (fun b => ?_) (Or.inl (Or.inr ⟨{ cls := .type "list", data := .seq us.toArray }, if_pos rfl⟩)) (fun b u z => ?_) (fun b z => ?_) (fun _ => hk)
    · by_cases hb : b = a
      · exact Or.inr ⟨_, _, if_pos hb⟩
      · exact Or.inl (if_neg hb)
    · by_cases hb : b = a
      · have z' := (if_pos hb).symm.trans z
        cases z'
        subst hb
        exact ⟨scr, by rw [List.length_map]; exact few, us, _, vals, scr⟩
      · have z' := (if_neg hb).symm.trans z
        cases z'
    · by_cases hb : b = a
      · exact hb
      · exact absurd (if_neg hb) z
theorem walk_g {l : PySem.W.OpenLaw} {n k : Nat} {q : Program} {loose : List Str} {XP : (Str → Option Value) → Heap → Prop} {YP : World → Heap → Prop} {d : DefRec} {x : Str}
    (hn : l.most = some n) (hn2 : n ≤ sizeLine) (hdf : d.params.defaults = []) (room : Room k callerA)
    (F : ∀ (w : World) (mg : Str → Option Value) (fa : Addr) (h : Heap), YP w h → h.Ns mainGlobals mg → mg d.name = some (.ref fa) →
      ∃ (W : Wd) (fd : FuncData) (g : List D → Stor → R D), W.tb = [] ∧ W.K.In h ∧ (∀ (s : Shared) (u : Value), BindsTo s fd ⟨[u], []⟩ [(x, u)]) ∧
        (∀ zs : List Int, zs.length ≤ n → ∃ M, g [.lck (zs.map D.int)] [] = .ok (.bl true) M) ∧
        ∀ base : Heap, W.K.In base → base.Ns mainGlobals mg → FnG l.prog w W mg base k fa fd [x] g) :
    PySem.W.WalkO q loose XP YP l.row.toRowW d [] (fun f vs => PySem.call f vs) := by
  refine Att.attach_call hn hdf ?_
  intro w s0 s1 mg mb fa ob pm cd doc a us zs G Y ho hd hcd hmg hobj hints hlen hg
  obtain ⟨W, fd, g, ntb, kin, hb, hgood, hF⟩ := F w mg fa _ Y G.T.g hmg
  exact law_g kin G.T.g G.T.b G.T.builtins G.T.nolimit hg hobj hints (Nat.le_trans hlen hn2) room hF hb (hgood zs hlen) ntb
end G

namespace G
open PySem PySem.Spec PyProof.Rows L2
/-! ### the head's facts: the house's own, further ones, the defs -/
abbrev Fx := PySem.W.Frag → Bool
def obsE (fa : List He.Fa) (fx : List Fx) (fn : List He5.DefA) (K : PySem.W.Frag) : He.AlD := ((fa.all fun f => f.ok K) && (fx.all fun f => f K) && fn.all fun d => d.ok K, fn.map fun d => He5.fnA K (d.at_ K))
def SaysE (fa : List He.Fa) (fx : List Fx) (fn : List He5.DefA) (K : PySem.W.Frag) : Prop := obsE fa fx fn K = He5.valA fn
def obsEG (n : Nat) (fa : List He.Fa) (fx : List Fx) (fn : List He5.DefA) (g : Addr → Option Obj) : He.AlD := obsE fa fx fn (He.frG g (He5.asA g n))
def hookE (n : Nat) (fa : List He.Fa) (fx : List Fx) (fn : List He5.DefA) : PySem.W.Hook where
  α := He.AlD
  obs := fun s => obsEG n fa fx fn s.heap.get?
  val := fun _ => He5.valA fn
  says := fun _ h => ∃ K : PySem.W.Frag, K.In h ∧ SaysE fa fx fn K
  of := fun _ _ e => ⟨_, He.frG_in, e⟩
  keeps := fun _ _ _ ⟨K, hK, c⟩ k => ⟨K, PySem.W.Frag.In.keeps hK k, c⟩
theorem obsEG_eq {n : Nat} {fa : List He.Fa} {fx : List Fx} {fn : List He5.DefA} {g : Addr → Option Obj} {s : Shared} (h : ∀ a, g a = s.heap.get? a) : obsEG n fa fx fn g = (hookE n fa fx fn).obs s := by
  have e : g = s.heap.get? := funext h
  subst e; rfl
section
variable {fa : List He.Fa} {fx : List Fx} {fn : List He5.DefA} {K : PySem.W.Frag}
theorem SaysE.all (c : SaysE fa fx fn K) : ((fa.all fun f => f.ok K) && (fx.all fun f => f K) && fn.all fun d => d.ok K) = true := congrArg (fun z : He.AlD => z.1) c
theorem SaysE.fact (c : SaysE fa fx fn K) (i : Nat) {f : He.Fa} (h : fa[i]? = some f := by rfl) : f.ok K = true := by
  have z := c.all
  simp only [Bool.and_eq_true] at z
  exact List.all_eq_true.mp z.1.1 f (List.mem_of_getElem? h)
theorem SaysE.factX (c : SaysE fa fx fn K) (i : Nat) {f : Fx} (h : fx[i]? = some f := by rfl) : f K = true := by
  have z := c.all
  simp only [Bool.and_eq_true] at z
  exact List.all_eq_true.mp z.1.2 f (List.mem_of_getElem? h)
theorem SaysE.def_ (c : SaysE fa fx fn K) (i : Nat) {d : He5.DefA} (h : fn[i]? = some d := by rfl) : ∃ fd, FunD K d.name d.qual d.params d.body d.scope (d.dvs K) (d.kws K) (d.at_ K) fd := by
  have z := c.all
  simp only [Bool.and_eq_true] at z
  have e : fn.map (fun d => He5.fnA K (d.at_ K)) = fn.map He5.DefA.val := congrArg (fun z : He.AlD => z.2) c
  have e2 : (fn.map fun d => He5.fnA K (d.at_ K))[i]? = (fn.map He5.DefA.val)[i]? := by rw [e]
  rw [List.getElem?_map, List.getElem?_map, h] at e2
  exact He5.DefA.funD (Option.some.inj e2) (List.all_eq_true.mp z.2 d (List.mem_of_getElem? h))
end
/-! ### a def that may be called -/
structure FnB (P : Program) (w : World) (W : Wd) (mg : Str → Option Value) (base : Heap) (k : Nat) (f : Addr) (ps : List Str) (g : List D → Stor → R D) : Prop where
  ex : ∃ fd, FnG P w W mg base k f fd ps g ∧ Binds W.K fd ps []
  kp : PySem.W.keepIn W.K (.ref f) = true
/-- .. with values that fill up -/
structure FnBD (P : Program) (w : World) (W : Wd) (mg : Str → Option Value) (base : Heap) (k : Nat) (f : Addr) (ps : List Str) (dds : List D) (g : List D → Stor → R D) : Prop where
  ex : ∃ fd dvs dus, FnG P w W mg base k f fd ps g ∧ Binds W.K fd ps dus ∧ Vals dvs dus ∧ ∀ F ρ, IsL W F ρ dds dvs
  kp : PySem.W.keepIn W.K (.ref f) = true
section
variable {P : Program} {w : World} {W : Wd} {mg : Str → Option Value} {base : Heap} {k : Nat} {f : Addr} {ps : List Str} {dds : List D} {g : List D → Stor → R D}
theorem FnB.frz (h : FnB P w W mg base k f ps g) : FnB P w W mg base k f ps (fun ds M => frz M (g ds M)) := ⟨let ⟨fd, a, b⟩ := h.ex; ⟨fd, a.frz, b⟩, h.kp⟩
theorem FnB.mono {j : Nat} (h : FnB P w W mg base k f ps g) (hj : k ≤ j) : FnB P w W mg base j f ps g := ⟨let ⟨fd, a, b⟩ := h.ex; ⟨fd, a.mono hj, b⟩, h.kp⟩
theorem FnB.all (h : FnB P w W mg base k f ps g) : FnBD P w W mg base k f ps [] g := ⟨let ⟨fd, a, b⟩ := h.ex; ⟨fd, [], [], a, b, .nil, fun _ _ => IsL.nil⟩, h.kp⟩
end
section
variable {X : Cx} {W : Wd} {E : Sg → XK} {k c : Nat} {f C : Addr} {ps : List Str} {dds : List D} {g : List D → Stor → R D}
theorem cg_b (h : FnB X.prog X.w W X.mg X.base k f ps g) (hK : X.K = W.K) (hr : Room k X.A) (gd : X.A.guards = some []) (hx : Pass X E) : CallG X W E (.ref f) g := by
  obtain ⟨fd, a, b⟩ := h.ex
  rw [← hK] at b
  exact callg_fn0 a hK hr gd b hx
theorem cg_bd (h : FnBD X.prog X.w W X.mg X.base k f ps dds g) (hK : X.K = W.K) (hr : Room k X.A) (gd : X.A.guards = some []) (hx : Pass X E) : CallG X W E (.ref f) (fun xs M => g (xs ++ dds) M) := by
  obtain ⟨fd, dvs, dus, a, b, d, e⟩ := h.ex
  rw [← hK] at b
  exact callg_fn a hK hr gd b d e hx
/-- C(..): firm at once -/
noncomputable def gMake (c : Nat) (dds : List D) (g : List D → Stor → R D) : List D → Stor → R D := fun xs M => frz M (gMakeM c (fun ys N => g (ys ++ dds) N) xs M)
theorem cg_make (MK : Mk X.K (W.T c) f) (h : FnBD X.prog X.w W X.mg X.base k f ps dds g) (hK : X.K = W.K) (hr : Room (k + 1) X.A) (gd : X.A.guards = some []) (hx : Pass X E) : CallG X W E (.ref (W.T c)) (gMake c dds g) := by
  obtain ⟨fd, dvs, dus, a, b, d, e⟩ := h.ex
  rw [← hK] at b
  exact (callg_make rfl MK a hK hr gd b d e hx).frz
theorem cg_makeM (MK : Mk X.K (W.T c) f) (h : FnBD X.prog X.w W X.mg X.base k f ps dds g) (hK : X.K = W.K) (hr : Room (k + 1) X.A) (gd : X.A.guards = some []) (hx : Pass X E) : CallG X W E (.ref (W.T c)) (gMakeM c (fun ys N => g (ys ++ dds) N)) := by
  obtain ⟨fd, dvs, dus, a, b, d, e⟩ := h.ex
  rw [← hK] at b
  exact callg_make rfl MK a hK hr gd b d e hx
end
/-- in a def's body what a callee raises leaves it -/
theorem pass_def {P : Program} {w : World} {K : PySem.W.Frag} {mg : Str → Option Value} {base : Heap} {N : List Str} {qual : Str} {scope : Scope} {f : Addr} {cd : Value} {A : Around} {outer : List Env} {s : Shared} {H : Hp} {E : XK} :
    Pass (cxOf (L2.CX P w) P w K mg base N qual scope f cd A outer s H E) (fun _ => E) := fun σ => passAt (X := cxOf (L2.CX P w) P w K mg base N qual scope f cd A outer s H E) (W := fun cls d _ H => E cls d H) (takes_of rfl rfl rfl rfl) σ
theorem own_def {P : Program} {w : World} {K : PySem.W.Frag} {mg : Str → Option Value} {base : Heap} {N : List Str} {qual : Str} {scope : Scope} {f : Addr} {cd : Value} {A : Around} {outer : List Env} {s : Shared} {H : Hp} {E : XK} :
    let X := cxOf (L2.CX P w) P w K mg base N qual scope f cd A outer s H E
    PassesOwn (model X.prog X.w) X.A X.env X.xe := passes_of (X := cxOf (L2.CX P w) P w K mg base N qual scope f cd A outer s H E) rfl
/-- enough turns for a while -/
@[irreducible] def fuel : Nat := 2 ^ 100000
theorem fuel_ge {n : Nat} (h : n ≤ 2 ^ 100000) : n ≤ fuel := by unfold fuel; exact h
/-! ### further facts as truths -/
open He in
def fxClsI (x : Str) : Fx := fun K => eqO (PySem.W.findIn K (.ref (ga K x)) "__class__") (some (some (.builtin "object.__class__"))) && (eqO (PySem.W.specialIn K (.builtin "object.__class__") "__get__") (some (some (.builtin "getset_descriptor.__get__"))) &&
  (decide (PySem.W.takesIn K (.builtin "object.__class__") = some true) && decide (PySem.W.mroIn K (ga K x) (.type "object") = some true)))
theorem clsI_of {K : PySem.W.Frag} {x : Str} (c : Cls K (He.ga K x)) (h : fxClsI x K = true) : ClsI K (He.ga K x) := by
  obtain ⟨h1, h⟩ := He.ba h
  obtain ⟨h2, h⟩ := He.ba h
  obtain ⟨h3, h4⟩ := He.ba h
  exact ⟨c, He.eqO_ok h1, He.eqO_ok h2, of_decide_eq_true h3, of_decide_eq_true h4⟩
open He in
def fxOp (x : Str) (nm : String) : Fx := fun K => PySem.W.selfFirst K (ga K x) && (eqO (PySem.W.findIn K (.ref (ga K x)) (dunder nm)) (some (some (.ref (ma K (ga K x) (dunder nm))))) && (PySem.W.isFn K (.ref (ma K (ga K x) (dunder nm))) &&
  (eqO (PySem.W.findIn K (.ref (ga K x)) (dunderR nm)) (some (some (.ref (ma K (ga K x) (dunderR nm))))) && (PySem.W.isFn K (.ref (ma K (ga K x) (dunderR nm))) &&
  (decide (PySem.W.subIn K (.ref (ga K x)) (.type "int") = some false) && (decide (PySem.W.subIn K (.type "int") (.ref (ga K x)) = some false) && (PySem.W.findIn K (.type "int") (dunderR nm)).isSome))))))
theorem opC_of {K : PySem.W.Frag} {x : Str} {nm : String} (h : fxOp x nm K = true) : OpC K (He.ga K x) nm (He.ma K (He.ga K x) (dunder nm)) (He.ma K (He.ga K x) (dunderR nm)) := by
  obtain ⟨h1, h⟩ := He.ba h
  obtain ⟨h2, h⟩ := He.ba h
  obtain ⟨h3, h⟩ := He.ba h
  obtain ⟨h4, h⟩ := He.ba h
  obtain ⟨h5, h⟩ := He.ba h
  obtain ⟨h6, h⟩ := He.ba h
  obtain ⟨h7, h8⟩ := He.ba h
  exact ⟨h1, He.eqO_ok h2, h3, He.eqO_ok h4, h5, of_decide_eq_true h6, of_decide_eq_true h7, Option.isSome_iff_exists.mp h8⟩
open He in
def fxIp (x : Str) (nm : String) : Fx := fun K => (match PySem.W.clsIn K (ga K x) with
  | some cd => decide (cd.mro = [.ref (ga K x), .type "object"])
  | none => false) && (eqO (PySem.W.findIn K (.ref (ga K x)) (dunderI nm)) (some none) && eqO (PySem.W.findIn K (.type "object") (dunderI nm)) (some none))
theorem ipC_of {K : PySem.W.Frag} {x : Str} {nm : String} (h : fxIp x nm K = true) : IpC K (He.ga K x) nm := by
  obtain ⟨h1, h⟩ := He.ba h
  obtain ⟨h2, h3⟩ := He.ba h
  refine ⟨?_, He.eqO_ok h2, He.eqO_ok h3⟩
  cases e : PySem.W.clsIn K (He.ga K x) with
  | none => rw [e] at h1; cases h1
  | some cd => rw [e] at h1; exact ⟨cd, rfl, of_decide_eq_true h1⟩
open He in
def fxSm (x m : Str) : Fx := fun K => PySem.W.readsIn K (ga K x) (.type "type") && (eqO (PySem.W.specialIn K (.ref (ga K x)) "__getattribute__") (some (some (.builtin "type.__getattribute__"))) &&
  (He5.wrapB K (ga K x) "staticmethod" "staticmethod.__get__" m && PySem.W.keepIn K (.ref (He5.wf K (ga K x) "staticmethod" m))))
theorem sm_of {K : PySem.W.Frag} {x m : Str} (h : fxSm x m K = true) : SMet K (He.ga K x) m (He5.wf K (He.ga K x) "staticmethod" m) := by
  obtain ⟨h1, h⟩ := He.ba h
  obtain ⟨h2, h⟩ := He.ba h
  obtain ⟨h3, h4⟩ := He.ba h
  obtain ⟨k1, rest, k2⟩ := He5.wrapB_ok h3
  exact ⟨h1, He.eqO_ok h2, ⟨_, rest, k1, k2⟩, h4⟩
/-- a value's kind and a class, by names -/
inductive TN where
  | b (n : String) | o (x : Str)
def TN.v (K : PySem.W.Frag) : TN → Value
  | .b n => .type n
  | .o x => .ref (He.ga K x)
def fxKit (t c : TN) (r : Bool) : Fx := fun K => decide (PySem.W.kitOne K (t.v K) (c.v K) = some r)
theorem kit_of {K : PySem.W.Frag} {t c : TN} {r : Bool} (h : fxKit t c r K = true) : PySem.W.kitOne K (t.v K) (c.v K) = some r := of_decide_eq_true h
theorem ge_stuck {X : Cx} {W : Wd} {E : Sg → XK} {e : Expr} : GE X W E e (fun _ _ => .no) := ⟨fun _ _ _ _ _ _ ⟨_, _, _, _, _, _, _, po⟩ => po.elim⟩
def gYes : GT' := fun _ M => .ok true M
theorem pts_none {X : Cx} {W : Wd} {E : Sg → XK} : PTs X [] (tGT W E gYes) := ⟨fun pins s σ H Q I ⟨ξ, Γ, M, F, ρ, en, rp, po⟩ => pts_nil.run pins s σ H Q I (po true F ρ H Le.rfl' (List.prefix_refl _) rp rfl)⟩
end G

namespace G
open PySem L2
/-! ### reckoning with the plain functions -/
section
variable {i j : Int} {M : Stor} {a b : Bool} {x y : Str}
theorem eAdd : dAdd (.int i) (.int j) M = .ok (.int (i + j)) M := rfl
theorem eAddI : dAddI (.int i) (.int j) M = .ok (.int (i + j)) M := rfl
theorem eSub : dSubI (.int i) (.int j) M = .ok (.int (i - j)) M := rfl
theorem eMulI (h : mulOk i j = true) : dMulI (.int i) (.int j) M = .ok (.int (i * j)) M := by
  unfold dMulI dI; simp only [h, if_true]
theorem eMul (h : mulOk i j = true) : dMul (.int i) (.int j) M = .ok (.int (i * j)) M := by
  unfold dMul; rw [eMulI h]; rfl
theorem eDiv (h : divOk j = true) : dDivI (.int i) (.int j) M = .ok (.int (i.fdiv j)) M := by
  unfold dDivI dI; simp only [h, if_true]
theorem eMod (h : j ≠ 0) : dModI (.int i) (.int j) M = .ok (.int (i.fmod j)) M := by
  unfold dModI dI; simp only [h, if_false]
theorem ePow (h : powOk i j = true) : dPowI (.int i) (.int j) M = .ok (.int (i ^ j.toNat)) M := by
  unfold dPowI dI; simp only [h, if_true]
theorem eLt : dLtI (.int i) (.int j) M = .ok (.bl (decide (i < j))) M := rfl
theorem eLe : dLeI (.int i) (.int j) M = .ok (.bl (decide (i ≤ j))) M := rfl
theorem eGt : dGtI (.int i) (.int j) M = .ok (.bl (decide (j < i))) M := rfl
theorem eGe : dGeI (.int i) (.int j) M = .ok (.bl (decide (j ≤ i))) M := rfl
theorem eEq : dEq (.int i) (.int j) M = .ok (.bl (decide (i = j))) M := rfl
theorem eNe : dNe (.int i) (.int j) M = .ok (.bl (!decide (i = j))) M := rfl
theorem eEqS : dEq (.str x) (.str y) M = .ok (.bl (decide (x = y))) M := rfl
theorem eNeS : dNe (.str x) (.str y) M = .ok (.bl (!decide (x = y))) M := rfl
theorem eTru : truD (.bl a) M = .ok a M := rfl
theorem eNeg : dNegI (.int i) M = .ok (.int (-i)) M := rfl
theorem eAbs : fAbsI [.int i] M = .ok (.int i.natAbs) M := rfl
theorem eInt : fInt [.int i] M = .ok (.int i) M := rfl
theorem eIntB : fInt [.bl a] M = .ok (.int (if a then 1 else 0)) M := rfl
theorem eLenL {l : List D} : fLen [.lst l] M = .ok (.int l.length) M := rfl
theorem eLenT {l : List D} : fLen [.tup l] M = .ok (.int l.length) M := rfl
/-- small numbers -/
theorem mulOk_of {m n : Nat} (h1 : i.natAbs < 2 ^ m) (h2 : j.natAbs < 2 ^ n) (h3 : m + n ≤ 1000000 := by decide) : mulOk i j = true := by
  simp only [mulOk, Bool.or_eq_true, decide_eq_true_eq]
  right
  have l : ∀ {k : Nat} {z : Nat}, z < 2 ^ k → z.log2 < k ∨ z = 0 := fun {k z} h => by
    by_cases hz : z = 0
    · exact .inr hz
    · exact .inl ((Nat.log2_lt hz).mpr h)
  rcases l h1 with a | a <;> rcases l h2 with b | b
  · omega
  · rw [b]; have : Nat.log2 0 = 0 := by decide
    omega
  · rw [a]; have : Nat.log2 0 = 0 := by decide
    omega
  · rw [a, b]; decide
theorem mulOk_left (h : i.natAbs < 2 ^ 64) : mulOk i j = true := by simp only [mulOk, decide_eq_true h, Bool.true_or]
theorem mulOk_right (h : j.natAbs < 2 ^ 64) : mulOk i j = true := by simp only [mulOk, decide_eq_true h, Bool.true_or, Bool.or_true]
theorem log2_of {z k : Nat} (h : z < 2 ^ k) (hk : 0 < k) : z.log2 < k := by
  by_cases hz : z = 0
  · subst hz; have : Nat.log2 0 = 0 := by decide
    omega
  · exact (Nat.log2_lt hz).mpr h
theorem divOk_of {n : Nat} (h0 : j ≠ 0) (h : j.natAbs < 2 ^ n) (hn : n ≤ 9000 := by decide) : divOk j = true := by
  simp only [divOk, Bool.and_eq_true, decide_eq_true_eq]
  refine ⟨h0, ?_⟩
  exact (Nat.log2_lt (by omega)).mpr (Nat.lt_of_lt_of_le h (Nat.pow_le_pow_right (by decide) hn))
end
/-- one turn of a while -/
theorem while_step {t : GT'} {b : GS'} {n : Nat} {Γ : Gam} {M : Stor} : gWhile t b (n + 1) Γ M = (t Γ M).bindS Γ fun c M1 => if c then (match b Γ M1 with
    | .nx Γ2 M2 => gWhile t b n Γ2 M2
    | .ct Γ2 M2 => gWhile t b n Γ2 M2
    | .bk Γ2 M2 => .nx Γ2 M2
    | r => r) else .nx Γ M1 := rfl
theorem loop_nil {keep : Stor → Prop} {tg : GG'} {b : GS'} {Γ : Gam} {M : Stor} : loopG keep tg b [] Γ M = .nx Γ M := by unfold loopG; rfl
theorem set_last {M : Stor} {m m' : MO} : (M ++ [m]).set M.length m' = M ++ [m'] := by
  rw [List.set_append_right _ _ (Nat.le_refl _)]; simp
theorem get_last {M : Stor} {m : MO} : (M ++ [m])[M.length]? = some m := by simp
theorem kept_last {M : Stor} {m : MO} : Kept M (M ++ [m]) := .inl (by simp)
/-- what was made last is made firm -/
theorem frz_new {M : Stor} {m : MO} {d : D} (h : lookN M.length (M ++ [m]) 4 M.length = some d) : frz M (.ok (.ref M.length) (M ++ [m])) = .ok d M := by
  unfold frz
  have e : ¬ (M ++ [m]).length = M.length := by simp
  simp only [e, if_false, kept_last, if_true, frzD, h]
  simp
theorem look_ins {M : Stor} {c : Nat} {l l' : List D} (h : frzL (lookN M.length (M ++ [.ins c l]) 3) l = some l') : lookN M.length (M ++ [.ins c l]) 4 M.length = some (.ins c l') := by
  unfold lookN
  rw [if_neg (Nat.lt_irrefl _), get_last]
  simp only [h, Option.map_some]
theorem look_lst {M : Stor} {l l' : List D} (h : frzL (lookN M.length (M ++ [.lst l]) 3) l = some l') : lookN M.length (M ++ [.lst l]) 4 M.length = some (.lst l') := by
  unfold lookN
  rw [if_neg (Nat.lt_irrefl _), get_last]
  simp only [h, Option.map_some]
mutual
/-- firm data stays as it is -/
def D.firm : D → Bool
  | .ref _ => false
  | .tup l => firmL l
  | .lst l => firmL l
  | .lck l => firmL l
  | .ins _ l => firmL l
  | .dct _ l => firmL l
  | .exc _ _ l => firmL l
  | .lam _ _ _ _ l => firmL l
  | .non => true
  | .bl _ => true
  | .int _ => true
  | .str _ => true
  | .ty _ => true
  | .cls _ => true
def firmL : List D → Bool
  | [] => true
  | d :: ds => d.firm && firmL ds
end
mutual
theorem frzD_firm {look : Nat → Option D} : ∀ {d : D}, d.firm = true → frzD look d = some d
  | .ref _, h => by simp [D.firm] at h
  | .tup l, h => by simp only [D.firm] at h; simp only [frzD, frzL_firm h, Option.map_some]
  | .lst l, h => by simp only [D.firm] at h; simp only [frzD, frzL_firm h, Option.map_some]
  | .lck l, h => by simp only [D.firm] at h; simp only [frzD, frzL_firm h, Option.map_some]
  | .ins c l, h => by simp only [D.firm] at h; simp only [frzD, frzL_firm h, Option.map_some]
  | .dct ks l, h => by simp only [D.firm] at h; simp only [frzD, frzL_firm h, Option.map_some]
  | .exc c o l, h => by simp only [D.firm] at h; simp only [frzD, frzL_firm h, Option.map_some]
  | .lam f c q us l, h => by simp only [D.firm] at h; simp only [frzD, frzL_firm h, Option.map_some]
  | .non, _ => by simp only [frzD]
  | .bl _, _ => by simp only [frzD]
  | .int _, _ => by simp only [frzD]
  | .str _, _ => by simp only [frzD]
  | .ty _, _ => by simp only [frzD]
  | .cls _, _ => by simp only [frzD]
theorem frzL_firm {look : Nat → Option D} : ∀ {l : List D}, firmL l = true → frzL look l = some l
  | [], _ => by simp only [frzL]
  | d :: ds, h => by
    simp only [firmL, Bool.and_eq_true] at h
    simp only [frzL, frzD_firm h.1, frzL_firm h.2]
end
theorem frz_insF {M : Stor} {c : Nat} {l : List D} (h : firmL l = true) : frz M (.ok (.ref M.length) (M ++ [.ins c l])) = .ok (.ins c l) M := frz_new (look_ins (frzL_firm h))
theorem frz_lstF {M : Stor} {l : List D} (h : firmL l = true) : frz M (.ok (.ref M.length) (M ++ [.lst l])) = .ok (.lst l) M := frz_new (look_lst (frzL_firm h))
/-- statement by statement -/
theorem seq_nx {a b : GS'} {Γ Γ1 : Gam} {M M1 : Stor} (h : a Γ M = .nx Γ1 M1) : gSeq a b Γ M = b Γ1 M1 := by unfold gSeq; rw [h]
theorem seq_rt {a b : GS'} {Γ : Gam} {M M1 : Stor} {d : D} (h : a Γ M = .rt d M1) : gSeq a b Γ M = .rt d M1 := by unfold gSeq; rw [h]
theorem fn_rt {n N : Nat} {gb : GS'} {ds : List D} {M M1 : Stor} {d : D} (hl : ds.length = n) (h : gb (ds.map some ++ List.replicate (N - n) none) M = .rt d M1) : gFn n N gb ds M = .ok d M1 := by
  unfold gFn; rw [if_pos hl, h]; rfl
theorem if_t {t : GT'} {a b : GS'} {Γ : Gam} {M M1 : Stor} (h : t Γ M = .ok true M1) : gIf t a b Γ M = a Γ M1 := by unfold gIf; rw [h]; rfl
theorem if_f {t : GT'} {a b : GS'} {Γ : Gam} {M M1 : Stor} (h : t Γ M = .ok false M1) : gIf t a b Γ M = b Γ M1 := by unfold gIf; rw [h]; rfl
end G

namespace G
open PySem PySem.Spec PyProof.Rows L2
/-! ### raise -/
section
variable {X : Cx} {W : Wd} {E : Sg → XK} {x : Str} {p pos pos' : Pos} {c : Nat}
/-- what is raised is taken, with the slots as they are -/
abbrev Tk (X : Cx) (E : Sg → XK) : Prop := Takes X (fun cls d σ H => E σ cls d H)
theorem Tk.pass (t : Tk X E) : Pass X E := fun σ => passAt (W := fun cls d σ H => E σ cls d H) t σ
theorem tk_def {P : Program} {w : World} {K : PySem.W.Frag} {mg : Str → Option Value} {base : Heap} {N : List Str} {qual : Str} {scope : Scope} {f : Addr} {cd : Value} {A : Around} {outer : List Env} {s : Shared} {H : Hp} {E : XK} :
    Tk (cxOf (L2.CX P w) P w K mg base N qual scope f cd A outer s H E) (fun _ => E) := takes_of rfl rfl rfl rfl
/-- X(), X an own error without own making -/
theorem pmk_none {C : Addr} {bmB : List Value} {B newId initId : String} (F : ExcBaseFacts B newId initId bmB) (q : PySem.W.excIn X.K C bmB newId = true) (gC : X.mg x = some (.ref C)) (kC : PySem.W.keepIn X.K (.ref C) = true) (r : Raises X (.ref C)) (hg : Gl X x)
    (hdb : (x == ("__debug__" : Str)) = false := by decide) : PMk X (.Call (.Name x p) [] [] pos) (fun _ H Q => Q (.ref C) none H) := by
  intro pins s σ H Q I h
  refine wpAny_Call_Name_kw (ld_glob I hg gC ?_ hdb)
  refine PySem.W.callWith_K0 I.kIn kC ?_
  obtain ⟨bm, N, nm, qn, bs, hdct, sn, sub, ab, col, dd, k0, k1, k2, k3, k5, mN, hC, hN, hni, T⟩ := exc_obj I.kIn q
  refine wpAny_call_exc_subT F T hC hN hni (fun h' e hm => ?_) (Nat.zero_le _)
  exact mk_of I hm r h (I.hok.gone hm.new)
def gRaise0 (c : Nat) : GS' := fun Γ M => .ex c none Γ M
/-- what the written part tells of an own error without own making -/
structure Ex0 (K : PySem.W.Frag) (C : Addr) : Prop where
  q : PySem.W.excIn K C [.type "ValueError", .type "Exception", .type "BaseException", .type "object"] "ValueError.__new__" = true
  kC : PySem.W.keepIn K (.ref C) = true
  sb : PySem.W.subIn K (.ref C) (.type "BaseException") = some true
  ty : PySem.W.typeIn K (.ref C) = some (.type "type")
theorem gs_raise0 (hK : X.K = W.K) (T : Ex0 W.K (W.T c)) (gC : X.mg x = some (.ref (W.T c))) (hg : Gl X x) (hc : X.calm = true) (tk : Tk X E) (hdb : (x == ("__debug__" : Str)) = false := by decide) :
    GS X W E (.Raise (some (.Call (.Name x p) [] [] pos')) none pos) (gRaise0 c) :=
  mS (ps_raise hc tk (pmk_none PySem.F.excBase_ValueError (by rw [hK]; exact T.q) gC (by rw [hK]; exact T.kC) (raises_own (by rw [hK]; exact T.sb) (by rw [hK]; exact T.ty)) hg hdb))
    fun N σ H ⟨ξ, Γ, M, F, ρ, en, rp, po⟩ => po σ none F ρ H Le.rfl' (List.prefix_refl _) rp en rfl
end
end G

namespace G
open PySem PySem.Spec PyProof.Rows L2
/-! ### try: .. except X as n: y = n: the error is kept behind the suite -/
theorem excO_ok {P : Program} {w : World} {H : Hp} {h : Heap} {a : Addr} {cls : Value} {d : Option Addr} {oe : Obj} {vs : Array Value} (e : h.get? a = some oe) (z : Zc cls d oe) (dd : oe.data = .fields vs) : ObjOk P w H h a (ExcO a cls d) :=
  ⟨⟨oe, vs, e, z.1, z.2, dd⟩, ⟨oe, e⟩, fun _ _ ⟨o, v, q, r⟩ k => ⟨o, v, k o q, r⟩⟩
section
variable {X : Cx} {pins : List (Addr × Obj)} {σ : L2.St} {H : Hp} {s : Shared}
/-- an object that no one knew is known from now on -/
theorem inv_learn {a : Addr} {o : HO} {oe : Obj} (I : Inv X pins σ H s) (n : H a = none) (n0 : X.s_0.heap.get? a = none) (nL : a ≠ X.env.locals) (nC : ∀ x c, X.env.cells.lookup x = some c → c ≠ a) (nP : ∀ p ∈ X.pn ++ pins, p.1 ≠ a)
    (k : ∀ H', ObjOk X.prog X.w H' s.heap a o) : Inv X pins σ (upd H a o) s := by
  refine ⟨I.ok, I.os, I.bare, ⟨I.base.keep, I.base.slot, fun b u e q hx => ?_, I.base.there, fun b xs e => ?_, fun b u v e => ?_, fun b ps e => ?_⟩, I.loc, I.cell, ?_, fun x c e => ?_, fun p hp => ?_, fun b u e => ?_, I.len⟩
  · rw [upd_ne (fun z => by rw [z, n0] at e; cases e)]; exact I.base.free b u e q hx
  · have q := I.base.tups b xs e
    rw [upd_ne (ne_of_none q n)]; exact q
  · have q := I.base.frzs b u v e
    rw [upd_ne (ne_of_none q n)]; exact q
  · obtain ⟨more, q⟩ := I.base.tbls b ps e
    exact ⟨more, by rw [upd_ne (ne_of_none q n)]; exact q⟩
  · rw [upd_ne nL.symm]; exact I.free
  · rw [upd_ne (nC x c e)]; exact I.freeC x c e
  · obtain ⟨p1, p2, p3⟩ := I.pin p hp
    rw [upd_ne (nP p hp)]; exact ⟨p1, p2, p3⟩
  · by_cases hb : b = a
    · subst hb
      rw [upd_same] at e; cases e
      exact k _
    · rw [upd_ne hb] at e
      exact (I.hok b u e).stay (fun c v _ q => q) (fun c q => by rw [upd_ne (ne_of_none q n)]; exact q) fun c xs q => by rw [upd_ne (ne_of_none q n)]; exact q
end
/-- what the clause wishes of the body's error -/
def wKp (K : PySem.W.Frag) (c : Value) (i j : Nat) (Wout : WX) (D : Ends) : WX := fun cls d σ H =>
  ∃ b, PySem.W.exmOne K cls c = some b ∧ (b = true → ∀ a, H a = none → D.nx (((σ.set i (some (.ref a))).set j (some (.ref a))).set i none) (upd H a (ExcO a cls d))) ∧ (b = false → Wout cls d σ H)
section
variable {X : Cx} {x n y : Str} {c : Value} {i j : Nat} {body : List Stmt} {np pos pos' py pn' pa : Pos} {tb : WX → TS} {Wout : WX}
theorem ps_try_kp (hs : X.stack = X.env :: X.outer) (hf : X.env.frame = some X.env.locals) (hex : X.ex = []) (hN : X.N.Nodup) (hi : X.N[i]? = some n) (hln : X.env.scope.names.lookup n = some .local) (hj : X.N[j]? = some y) (hly : X.env.scope.names.lookup y = some .local) (hc : Names X x c) (tk : Takes X Wout)
    (hdn : (n == ("__debug__" : Str)) = false) (hcn : (n == ("__classdict__" : Str)) = false)
    (hb : ∀ (W : WX) (pn : List (Addr × Obj)) (xe : Value → Shared → Prop), Takes (X.tr pn xe) W → PassesOwn (model X.prog X.w) X.A X.env xe → PSs (X.tr pn xe) body (tb W)) 
    (hsw : swapsWith (.Name n pn') (some (.Name y py)) pa.line X.env = pure false := by rfl) :
    PS X (.Try body [.ExceptHandler (some (.Name x np)) (some n) [.Assign [.Name y py] (.Name n pn') pa] pos'] [] [] pos) (fun D σ H => tb (wKp X.K c i j Wout D) D σ H) := by
  refine ⟨fun pins s σ H D I h => ?_⟩
  have ok := I.ok
  have hfr : X.A.frames = some (X.env :: X.outer) := by rw [ok.frames, hs]
  have hloc : Loc X.env.scope n := .inl hln
  refine wpAny_Try_except ?_
  refine wpAny_mono ((hb (wKp X.K c i j Wout D) (X.pn ++ pins) (fun e s₁ => wpAny (model X.prog X.w) X.A (noteFrame e X.env) (fun _ s₂ => wpAny (model X.prog X.w) X.A (setFlight e none) (fun _ s₃ =>
    wpAny (model X.prog X.w) X.A (handleBy e X.env [.ExceptHandler (some (.Name x np)) (some n) [.Assign [.Name y py] (.Name n pn') pa] pos']) (SP X pins D) X.xe s₃) X.xe s₂) X.xe s₁) (fun u s' xx => ?_) PassesOwn.looking).run [] s σ H D (I.toTry _) h) (fun f s1 hsp => ?_) (fun e s1 he => he)
  · obtain ⟨a, B, sI, pins', σ', H', cls, d, rfl, J', nb, up, sky, na, os, ag, b, hb1, hyes, hno⟩ := xx
    have J : Inv X pins σ' H' sI := J'.ofTry ok
    have sky' : Sky B (X.env :: X.outer) a (Zc cls d) X.env.locals s'.heap := by rw [← hs]; exact sky
    show wpAny (model X.prog X.w) X.A (noteFrame (.ref a) X.env) _ _ _
    refine Sky.land Zc.steady hfr hf sky' fun h3 fl3 up3 => ?_
    have J3 : Inv X pins σ' H' { s' with heap := h3 } := J.landed nb fl3.1 (up.trans up3) os ag
    obtain ⟨oe3, vs3, he3, hz3, hd3⟩ := fl3.there
    have nfr : a ∉ frs (X.env :: X.outer) := fun hm => by
      obtain ⟨_, o', e', hnf⟩ := fl3.2.2.1.mem hm
      rw [he3] at e'; cases e'
      exact hnf _ hd3
    have nL : a ≠ X.env.locals := fun z => nfr (List.mem_filterMap.mpr ⟨X.env, List.mem_cons_self, by rw [hf, z]⟩)
    have nF : a ∉ X.fs := fun hm => by
      obtain ⟨e, he, q⟩ := List.mem_filterMap.mp hm
      exact nfr (List.mem_filterMap.mpr ⟨e, List.mem_cons_of_mem _ he, q⟩)
    -- the error is new
    have new : sI.heap.get? a = none := by
      cases e : sI.heap.get? a with
      | none => rfl
      | some o =>
        have z := nb a o e (by rw [hs]; exact nfr)
        rw [fl3.2.1] at z; cases z
    have n0 : a ∉ X.ex → X.s_0.heap.get? a = none := fun hx => by
      cases e : X.s_0.heap.get? a with
      | none => rfl
      | some o =>
        obtain ⟨o', z⟩ := J.base.there a o e hx
        rw [new] at z; cases z
    have nC : ∀ x c, X.env.cells.lookup x = some c → c ≠ a := fun x c e z => by
      obtain ⟨v, o, ho, _⟩ := J.cell x c e
      rw [z, new] at ho; cases ho
    have nP : ∀ p ∈ X.pn ++ pins, p.1 ≠ a := fun p hp z => by
      obtain ⟨e, _⟩ := J.pin p hp
      rw [z, new] at e; cases e
    have S3 := J3.suite he3 hd3 na nL nF
    refine wpAny_handleBy_cons (codeAny_handlers_test ?_) (by intro q; cases q)
    have LT : PySem.W.Looks (model X.prog X.w) h3 (typeOf (.ref a)) cls := fun A Q E s k q => wpAny_typeOf_ref (k _ _ he3) (by rw [hz3.1]; exact q)
    have LM := PySem.W.exm_one (M := model X.prog X.w) (J3.kIn) LT hb1
    have test : ∀ {Q : Value → Shared → Prop} {E : Value → Shared → Prop}, Q c { s' with heap := h3 } → wpAny (model X.prog X.w) (X.A.mark (some (.ref a))) (eval (.Name x np) X.env) Q E { s' with heap := h3 } := fun {Q E} q => by
      obtain ⟨hg, hdbg, hm | ⟨hm, hv, hnn⟩⟩ := hc
      · exact ld_glob (X := X.suite a ((a, oe3) :: (X.pn ++ pins))) S3 hg hm q hdbg
      · exact ld_blt (X := X.suite a ((a, oe3) :: (X.pn ++ pins))) S3 hg hm hv q hnn hdbg
    refine test (LM.here ?_)
    cases b with
    | true =>
      refine codeAny_handlers_suite_as ?_
      refine HandSPX.lands_againZ fl3 fun h4 fl4 up4 => ?_
      have J4 : Inv X pins σ' H' { s' with heap := h4 } := J.landed nb fl4.1 ((up.trans up3).trans up4) os ag
      obtain ⟨oe4, vs4, he4, hz4, hd4⟩ := fl4.there
      have S4 := J4.suite he4 hd4 na nL nF
      refine store_ok (X := X.suite a ((a, oe4) :: (X.pn ++ pins))) (v := .ref a) S4 hN hi hloc rfl (fun s5 S5 => ?_) (.inr hln)
      have su : PSs (X.suite a ((a, oe4) :: (X.pn ++ pins))) [.Assign [.Name y py] (.Name n pn') pa] (fun D σ H => ∃ v, σ[i]? = some (some v) ∧ D.nx (σ.set j (some v)) H) :=
        pss_one (ps_set (X := X.suite a ((a, oe4) :: (X.pn ++ pins))) hN hj (.inl hly) (pe_var (X := X.suite a ((a, oe4) :: (X.pn ++ pins))) (i := i) hi (.inl hln) hdn hcn) hsw (.inr hly))
      have li : i < σ'.length := by
        have := (List.getElem?_eq_some_iff.mp hi).1
        rw [← J.len] at this; exact this
      refine wpAny_mono (su.run [] s5 _ H' { nx := fun σ6 H6 => σ6 = (σ'.set i (some (.ref a))).set j (some (.ref a)) ∧ H6 = H', rt := fun _ _ => False, bk := fun _ _ => False, ct := fun _ _ => False } S5 ⟨.ref a, by rw [List.getElem?_set_self li], rfl, rfl⟩) (fun f s6 hsp => ?_) (fun _ _ z => False.elim z)
      cases f with
      | next =>
        obtain ⟨σ6, H6, S6, rfl, rfl⟩ := hsp
        obtain ⟨pa1, pa2, _⟩ := S6.pin (a, oe4) (List.mem_append_left _ List.mem_cons_self)
        have I6 : Inv X pins _ _ s6 := S6.unsuite ok
        have hx : a ∉ X.ex := fun hm => by rw [hex] at hm; cases hm
        have I7 := inv_learn (o := ExcO a cls d) (oe := oe4) I6 na (n0 hx) nL nC nP fun H' => excO_ok pa1 hz4 hd4
        exact gone_ok I7 hN hi hln fun s7 J7 => ⟨_, _, J7, hyes rfl a na⟩
      | brk => obtain ⟨σ6, H6, S6, q6⟩ := hsp; exact q6.elim
      | cont => obtain ⟨σ6, H6, S6, q6⟩ := hsp; exact q6.elim
      | ret u => obtain ⟨v6, σ6, H6, S6, r6, q6⟩ := hsp; exact q6.elim
    | false =>
      show wpAny _ X.A (handleBy (.ref a) X.env []) _ _ _
      refine wpAny_handleBy_nil ?_
      obtain ⟨k1, k2, k3, oe, vs, T, oT, ts', he, hz, hd, h1, hr⟩ := id fl3
      unfold PySem.passOn
      refine wpAny_bind (wpAny_field he hd h1 ?_)
      rw [if_neg (show ¬ ((Value.ref T == Value.none) = true) from by simp)]
      have fin : wpAny (model X.prog X.w) X.A (setFlight (.ref a) X.env.frame) (fun _ s4 => wpAny (model X.prog X.w) X.A (throw (.ref a) : Sem Flow) (SP X pins D) X.xe s4) X.xe { s' with heap := h3 } := by
        rw [hf]
        refine HandSPX.setFlight_upZ fl3 fun h4 hh4 up4 => wpAny_throw (tk _ _ ?_)
        exact ⟨a, B, sI, pins, σ', H', cls, d, rfl, J, nb, (up.trans up3).trans up4, .inr (.inr (by rw [hs]; exact hh4)), na, os, ag, hno rfl⟩
      first
        | exact wpAny_bind (wpAny_pure (wpAny_bind fin))
        | exact wpAny_bind fin
  · cases f with
    | next =>
      obtain ⟨σ', H', J', q⟩ := hsp
      exact wpAny_execs_nil ⟨σ', H', J'.ofTry ok, q⟩
    | brk =>
      obtain ⟨σ', H', J', q⟩ := hsp
      exact ⟨σ', H', J'.ofTry ok, q⟩
    | cont =>
      obtain ⟨σ', H', J', q⟩ := hsp
      exact ⟨σ', H', J'.ofTry ok, q⟩
    | ret u =>
      obtain ⟨v, σ', H', J', r, q⟩ := hsp
      exact ⟨v, σ', H', J'.ofTry ok, r, q⟩
/-- try: body, except X as n: y = n -/
def gTryK (b : GS') (mt : Nat → Option Bool) (i j : Nat) : GS' := fun Γ M => match b Γ M with
  | .ex c fs Γ1 M1 => (match mt c with
    | some true => .nx (((Γ1.set i none).set j (some (.exc c fs.isSome (fs.getD []))))) M1
    | some false => .ex c fs Γ1 M1
    | none => .no)
  | r => r
def MtOk (W : Wd) (c : Value) (mt : Nat → Option Bool) : Prop := ∀ k b, mt k = some b → PySem.W.exmOne W.K (.ref (W.T k)) c = some b
variable {W : Wd} {E : Sg → XK} {gb : GS'} {mt : Nat → Option Bool}
theorem gs_tryK (hK : X.K = W.K) (hs : X.stack = X.env :: X.outer) (hf : X.env.frame = some X.env.locals) (hex : X.ex = []) (hN : X.N.Nodup) (hi : X.N[i]? = some n) (hij : i ≠ j) (hln : X.env.scope.names.lookup n = some .local) (hj : X.N[j]? = some y) (hly : X.env.scope.names.lookup y = some .local) (hc : Names X x c) (tk : Tk X E) (hm : MtOk W c mt)
    (hb : ∀ (E' : Sg → XK) (pn : List (Addr × Obj)) (xe : Value → Shared → Prop), Tk (X.tr pn xe) E' → PassesOwn (model X.prog X.w) X.A X.env xe → GSs (X.tr pn xe) W E' body gb)
    (hdn : (n == ("__debug__" : Str)) = false := by decide) (hcn : (n == ("__classdict__" : Str)) = false := by decide) (hsw : swapsWith (.Name n pn') (some (.Name y py)) pa.line X.env = pure false := by rfl) :
    GS X W E (.Try body [.ExceptHandler (some (.Name x np)) (some n) [.Assign [.Name y py] (.Name n pn') pa] pos'] [] [] pos) (gTryK gb mt i j) := by
  refine mS (ps_try_kp (tb := fun Wx => tGS W (fun σ cls d H => Wx cls d σ H) gb) (i := i) (j := j) hs hf hex hN hi hln hj hly hc tk hdn hcn (fun Wx pn xe t po => hb (fun σ cls d H => Wx cls d σ H) pn xe t po) hsw) fun N σ H ⟨ξ, Γ, M, F, ρ, en, rp, po⟩ => ⟨ξ, Γ, M, F, ρ, en, rp, ?_⟩
  unfold gTryK at po
  cases er : gb Γ M with
  | nx g M1 => rw [er] at po; exact po
  | rt d M1 => rw [er] at po; exact po
  | bk g M1 => rw [er] at po; exact po
  | ct g M1 => rw [er] at po; exact po
  | no => rw [er] at po; exact po
  | ex k fs g M1 =>
    rw [er] at po
    intro σ1 dx F1 ρ1 H1 le p1 rp1 en1 xc
    cases em : mt k with
    | none => simp only [em] at po; exact po.elim
    | some b =>
      rw [hK]
      refine ⟨b, hm k b em, fun hb' a ha => ?_, fun hb' => ?_⟩
      · subst hb'
        simp only [em] at po
        have fa := rp1.free ha
        have e2 : Is W (upd F1 a (ExcO a (.ref (W.T k)) dx)) ρ1 (.exc k fs.isSome (fs.getD [])) (.ref a) := by
          simp only [Is]
          refine ⟨a, dx, rfl, upd_same, fun z => ?_, fun z => ?_⟩
          · cases fs with
            | none => exact ⟨xc, rfl⟩
            | some l => cases z
          · cases fs with
            | none => cases z
            | some l =>
              obtain ⟨w, fvs, e3, e4, e5, e6⟩ := xc
              exact ⟨w, fvs, e3, Le.new fa _ _ e4, e5, e6.mono (Le.new fa) (List.prefix_refl _)⟩
        refine po _ _ ρ1 _ (le.tr (Le.new fa)) p1 (rp1.new ha) ?_
        have en2 := en1.mono (Le.new (o := ExcO a (.ref (W.T k)) dx) fa) (List.prefix_refl ρ1)
        refine ⟨by simp [en2.len], fun q d hq => ?_⟩
        by_cases hqj : j = q
        · subst hqj
          have lj : j < g.length := by
            have := (List.getElem?_eq_some_iff.mp hq).1
            simpa using this
          rw [List.getElem?_set_self (by simpa using lj)] at hq
          cases hq
          refine ⟨.ref a, ?_, e2⟩
          rw [List.getElem?_set_ne hij, List.getElem?_set_self (by simpa [← en2.len] using lj)]
        · rw [List.getElem?_set_ne hqj] at hq
          by_cases hqi : i = q
          · subst hqi
            have li : i < g.length := by
              have := (List.getElem?_eq_some_iff.mp hq).1
              simpa using this
            rw [List.getElem?_set_self li] at hq; cases hq
          · rw [List.getElem?_set_ne hqi] at hq
            obtain ⟨v, e3, e4⟩ := en2.at_ q d hq
            exact ⟨v, by rw [List.getElem?_set_ne hqi, List.getElem?_set_ne hqj, List.getElem?_set_ne hqi]; exact e3, e4⟩
      · subst hb'
        simp only [em] at po
        exact po σ1 dx F1 ρ1 H1 le p1 rp1 en1 xc
end
end G

namespace G
open PySem PySem.Spec PyProof.Rows L2
/-! ### f(lambda: ..) -/
section
variable {X : Cx} {pins : List (Addr × Obj)} {σ : L2.St} {H : Hp} {s : Shared}
/-- the lambda is made; what becomes of the known heap is told -/
theorem lam_made {c P : Addr} {ps : Array Value} {params : Arguments} {body : Expr} {scope : Scope} {pos : Pos} {Z : Value → Shared → Prop} {Q : Value → Shared → Prop} (I : Inv X pins σ H s) (TB : LamX.TabB X.base X.mg c P) (hcode : X.env.code = .ref c)
    (hP : H P = some (.tbl ps)) (ht : TriplesOk ps.toList) (ha : ∀ (pos : Pos) (cv : Value), codeAmong pos ps.toList = some cv → ∃ c, cv = .ref c ∧ H c = some (LamX.CodeO c (X.env.qual ++ "<lambda>")))
    (hdef : defaultsOf params X.env = ([], [])) (hfree : ∀ y ∈ scope.names, y.2 = .free → ∃ c, X.env.cells.lookup y.1 = some c)
    (h : ∀ (f c' : Addr) (pm ctv : Value) (H1 : Hp) (s' : Shared), Inv X pins σ H1 s' →
      ((H1 = H ∧ codeAmong pos ps.toList = some (.ref c')) ∨ ∃ qs : Array Value, H1 = upd (upd H P (.tbl qs)) c' (LamX.CodeO c' (X.env.qual ++ "<lambda>")) ∧ H c' = none ∧ TriplesOk qs.toList ∧
        ∀ (pos : Pos) (cv : Value), codeAmong pos qs.toList = some cv → cv = .ref c' ∨ codeAmong pos ps.toList = some cv) →
      s'.heap.get? f = some (PySem.W.kla_obj "<lambda>" (X.env.qual ++ "<lambda>") params body scope (cloFrom X.env.cells scope.names []) pm c' ctv) → H1 f = none → f ∉ frs X.stack → Q (.ref f) s') :
    wpAny (model X.prog X.w) X.A (eval (.Lambda params body scope pos) X.env) Q Z s := by
  refine PySem.W.kla_eval hdef ?_
  have bP : s.heap.BuiltinsAt X.mg P := TB.bm.keeps I.bk
  have hP' : s.heap.get? P = some { cls := .none, data := .fields ps } := I.hok P _ hP
  have nofr : ∀ f, s.heap.objs.size ≤ f → f ∉ frs X.stack := fun f hf z => by
    rcases List.mem_cons.mp (I.stkSub _ z) with e | e
    · have h1 := I.lt
      rw [← e] at h1
      exact Nat.lt_irrefl _ (Nat.lt_of_lt_of_le h1 hf)
    · exact I.nofs hf e
  cases hc : codeAmong pos ps.toList with
  | none =>
    refine PySem.W.kla_makeFunction (mg := X.mg) (c := c) (P := P) (ps := ps) (closure_ok hfree) I.ok.glob (I.mod.glob.keeps I.bk) hcode (TB.code.keeps I.bk) hP' ht hc TB.gP bP fun c' ctv h' tk hx hge hlt hrec htb => ?_
    obtain ⟨c2, oc, vs, t, e2, hoc, hd, hv⟩ := hrec
    cases e2
    have hsz : s.heap.objs.size ≤ h'.objs.size := Nat.le_trans hge (Nat.le_of_lt hlt)
    have nC : H c' = none := I.hok.fresh hge
    have I1 := LamX.inv_table (t' := tk) (more := #[rawInt pos.line, rawInt pos.col, .ref c']) (h' := h'.push (PySem.W.kla_obj "<lambda>" (X.env.qual ++ "<lambda>") params body scope (cloFrom X.env.cells scope.names []) ((X.mg "__name__").getD .none) c' ctv)) I hP
      (fun b o hb e => Heap.get?_push_of_some _ (hx b o hb e)) (Heap.get?_push_of_some _ htb) hge ⟨oc, vs, t, Heap.get?_push_of_some _ hoc, hd, hv⟩
    have eL : (ps ++ #[rawInt pos.line, rawInt pos.col, .ref c']).toList = ps.toList ++ [rawInt pos.line, rawInt pos.col, .ref c'] := by simp
    refine h h'.objs.size c' ((X.mg "__name__").getD .none) ctv _ _ I1 (.inr ⟨_, rfl, nC, by rw [eL]; exact PySem.TriplesOk_snoc _ _ _ _ ht, fun p' cv hcv => ?_⟩) (Heap.get?_push_size _ rfl) ?_ (nofr _ hsz)
    · rw [eL] at hcv
      rcases LamX.among_app _ ht hcv with z | z
      · exact .inr z
      · exact .inl z
    · have n1 : h'.objs.size ≠ c' := Nat.ne_of_gt hlt
      have n2 : h'.objs.size ≠ P := Nat.ne_of_gt (Nat.lt_of_lt_of_le (Heap.lt_size hP') hsz)
      rw [upd_ne n1, upd_ne n2]
      exact I.hok.fresh hsz
  | some cv =>
    obtain ⟨c', e, hco⟩ := ha pos cv hc
    subst e
    refine PySem.W.kla_makeFunctionHit (mg := X.mg) (c := c) (P := P) (ps := ps) (closure_ok hfree) I.ok.glob (I.mod.glob.keeps I.bk) hcode (TB.code.keeps I.bk) hP' ht hc bP fun ctv h' tk hx hsz => ?_
    have I1 : Inv X pins σ H { s with heap := h'.push (PySem.W.kla_obj "<lambda>" (X.env.qual ++ "<lambda>") params body scope (cloFrom X.env.cells scope.names []) ((X.mg "__name__").getD .none) c' ctv), toks := tk } := I.kept fun b o e => Heap.get?_push_of_some _ (hx b o e)
    exact h h'.objs.size c' ((X.mg "__name__").getD .none) ctv H _ I1 (.inl ⟨rfl, hc⟩) (Heap.get?_push_size _ rfl) (I.hok.fresh hsz) (nofr _ hsz)
/-- the lambda is called, in the def that got it: what it raises comes with that def's slots -/
theorem pe_acts {CXg : CXT} {Eg : XK} {Ng : List Str} {qg : Str} {sg : Scope} {g f c' : Addr} {cdg pm ctv : Value} {params : Arguments} {body : Expr} {scope : Scope} {k i : Nat} {a : Str} {pn : List (Addr × Obj)} {xe : Value → Shared → Prop} {V : WX} {tb : XK → TE} {p1 p2 : Pos}
    (I : Inv X pins σ H s) (L : LamX.LamS X.env.scope scope) (hf : s.heap.get? f = some (PySem.W.kla_obj "<lambda>" (X.env.qual ++ "<lambda>") params body scope (cloFrom X.env.cells scope.names []) pm c' ctv)) (hfn : H f = none) (hfr : f ∉ frs X.stack)
    (hbind : bindArgs (PySem.W.kla_fn "<lambda>" (X.env.qual ++ "<lambda>") params body scope (cloFrom X.env.cells scope.names []) pm (.ref c') ctv) ⟨[], []⟩ = pure [])
    (tk : Takes ((cxOf CXg X.prog X.w X.K X.mg X.base Ng qg sg g cdg X.A X.stack s H Eg).tr pn xe) V) (hr : Room (k + 1) (X.A.deeper (envOfC qg sg s.heap.objs.size g cdg)))
    (hbody : ∀ (E : XK) (A : Around) (outer : List Env) (s : Shared) (H : Hp), A.guards = X.A.guards → Room k (A.deeper (LamX.lamEnv X scope s.heap.objs.size f c')) → PE (LamX.lamCx X A outer s H E scope f c') body (tb E))
    (hN : Ng[i]? = some a) (hv : Vis sg a) (hd : (a == ("__debug__" : Str)) = false := by decide) (hcd : (a == ("__classdict__" : Str)) = false := by decide) :
    PE ((cxOf CXg X.prog X.w X.K X.mg X.base Ng qg sg g cdg X.A X.stack s H Eg).tr pn xe) (.Call (.Name a p1) [] [] p2)
      (fun σZ HZ Q => σZ[i]? = some (some (.ref f)) ∧ HZ c' = some (LamX.CodeO c' (X.env.qual ++ "<lambda>")) ∧ ∃ E : XK, (∀ cls d H', E cls d H' → V cls d σZ H') ∧ tb E σ HZ Q) := by
  refine ⟨fun pinsZ sZ σZ HZ Q IZ h => ?_⟩
  obtain ⟨hs, hc, E, hE, ht⟩ := h
  refine wpAny_Call_Name_kw (thn ((pe_var (pos := p1) (i := i) hN hv hd hcd).run pinsZ sZ σZ HZ (fun v H1 => v = .ref f ∧ H1 = HZ) IZ ⟨.ref f, hs, rfl, rfl⟩) fun u s1 ⟨v, H1, I1, r1, q1⟩ => ?_)
  obtain ⟨ev, eH⟩ := q1
  subst ev
  rw [eH] at I1
  obtain rfl : u = Value.ref f := r1
  have of1 : s1.heap.get? f = some (PySem.W.kla_obj "<lambda>" (X.env.qual ++ "<lambda>") params body scope (cloFrom X.env.cells scope.names []) pm c' ctv) := I1.base.keep f _ hf hfn hfr (fun z => nomatch (show f ∈ ([] : List Addr) from z))
  refine PySem.W.callWith_F0 ⟨_, _, _, _, of1⟩ ?_
  obtain ⟨⟨oc, vs, t, hoc, hdc, hvc⟩, _, _⟩ := I1.hok c' _ hc
  have rc : codeAny (model X.prog X.w) (X.A.deeper (envOfC qg sg s.heap.objs.size g cdg)) (.call (.ref f) ⟨[], []⟩) (CR (L2.CX X.prog X.w) (envOfC qg sg s.heap.objs.size g cdg :: X.stack) X.prog X.w HZ s1 Q E) s1 := by
    refine PySem.W.kla_callFunE hr.depth of1 rfl L.co L.gen rfl ⟨c', oc, vs, t, rfl, hoc, hdc, hvc⟩ ?_
    rw [hbind]
    refine wpAny_pure (wpAny_newFunctionEnv (fun y hy => (L.own y hy).2) (fun y hy => absurd hy (by simp)) (fun h₁ hns hsb => ⟨I1.nolimit.fresh _ hsb, ?_⟩) L.kind)
    show codeAny _ _ (.expr body (LamX.lamEnv X scope s1.heap.objs.size f c')) _ _
    have kp : ∀ b o, s1.heap.get? b = some o → h₁.get? b = some o := fun b o e => hsb.extBut b o (Nat.ne_of_lt (Heap.lt_size e)) (Heap.get?_push_of_some _ e)
    have un : Un (frs X.stack) [] H HZ s.heap s1.heap := I1.base
    have J : Inv (LamX.lamCx X (X.A.deeper (envOfC qg sg s.heap.objs.size g cdg)) (envOfC qg sg s.heap.objs.size g cdg :: X.stack) s1 HZ E scope f c') [] σ HZ { s1 with heap := h₁, toks := s1.toks + ([] : List (Str × Value)).length } :=
      LamX.lam_start2 I L I1.env0 hr.hd un hns kp
    refine PySem.W.kla_codeExpr (wpAny_mono ((hbody E (X.A.deeper (envOfC qg sg s.heap.objs.size g cdg)) _ s1 HZ rfl (hr.deeper _)).run [] _ _ HZ Q J ht) (fun v s' hq => ?_) fun e s' hq => hq)
    obtain ⟨w', H', J', rv, q⟩ := hq
    exact ⟨w', H', J'.os, J'.bare, J'.base, J'.hok, rv, q⟩
  refine wpAny_call (codeAny_mono rc fun r s' hq => ?_)
  cases r with
  | error e => exact tk _ _ (XE.of_call I1 (fun cls d H' z => hE cls d H' z) hq)
  | ok fl =>
    cases fl with
    | ret u => exact I1.after hq
    | next => exact False.elim hq
    | brk => exact False.elim hq
    | cont => exact False.elim hq
end
end G

namespace G
open PySem PySem.Spec PyProof.Rows L2
section
variable {W : Wd} {ξ : Xi} {M : Stor} {F H : Hp} {ρ : List Addr}
/-- a table of code objects has grown -/
theorem Rp.table (rp : Rp W ξ M F H ρ) {P c' : Addr} {q : Str} {ps qs : Array Value} (hm : (P, q) ∈ W.tb) (hu : ∀ p ∈ W.tb, p.1 = P → p.2 = q) (hP : H P = some (.tbl ps)) (hc : H c' = none) (ht : TriplesOk qs.toList)
    (ha : ∀ (pos : Pos) (cv : Value), codeAmong pos qs.toList = some cv → cv = .ref c' ∨ codeAmong pos ps.toList = some cv) :
    Rp W ξ M (upd F c' (LamX.CodeO c' q)) (upd (upd H P (.tbl qs)) c' (LamX.CodeO c' q)) ρ := by
  have fc := rp.free hc
  obtain ⟨p1, p2, p3, ps', p4, p5, p6⟩ := rp.tb _ hm
  have nPc : P ≠ c' := ne_of_none hP hc
  have le : Le F (upd F c' (LamX.CodeO c' q)) := Le.new fc
  refine ⟨fun a o e => ?_, rp.len, rp.nd, fun i m a em ea => ?_, fun r hr => ?_, fun r hr => ?_⟩
  · by_cases hac : a = c'
    · subst hac; rw [upd_same] at e ⊢; exact e
    · rw [upd_ne hac] at e ⊢
      rw [upd_ne (fun z => by rw [z, p3] at e; cases e)]
      exact rp.sub _ _ e
  · obtain ⟨q1, q2⟩ := rp.obj i m a em ea
    have n1 : a ≠ c' := rp.ne hc ea
    have n2 : a ≠ P := fun z => p1 (z ▸ List.mem_of_getElem? ea)
    rw [upd_ne n1, upd_ne n1, upd_ne n2]
    exact ⟨q1, q2.mono le (List.prefix_refl _)⟩
  · obtain ⟨q1, q2, q3⟩ := rp.xt r hr
    have n1 : r.1 ≠ c' := ne_of_none q1 hc
    rw [upd_ne n1, upd_ne n1, upd_ne (p2 r hr)]
    exact ⟨q1, q2, q3⟩
  · obtain ⟨r1, r2, r3, rs, r4, r5, r6⟩ := rp.tb r hr
    have n1 : r.1 ≠ c' := ne_of_none r4 hc
    rw [upd_ne n1, upd_ne n1]
    refine ⟨r1, r2, r3, ?_⟩
    by_cases hr1 : r.1 = P
    · have e2 := hu r hr hr1
      rw [hr1, upd_same]
      refine ⟨qs, rfl, ht, fun pos cv z => ?_⟩
      rw [e2]
      rcases ha pos cv z with z' | z'
      · exact ⟨c', z', upd_same⟩
      · have hp' : ps = ps' := by
          have z0 : H P = some (.tbl ps') := p4
          rw [hP] at z0
          exact HO.tbl.inj (Option.some.inj z0)
        subst hp'
        obtain ⟨c, c1, c2⟩ := p6 pos cv z'
        exact ⟨c, c1, le _ _ c2⟩
    · rw [upd_ne hr1]
      exact ⟨rs, r4, r5, fun pos cv z => let ⟨c, c1, c2⟩ := r6 pos cv z; ⟨c, c1, le _ _ c2⟩⟩
end
/-! ### the data of a lambda -/
def capD (Γ : Gam) : List D := Γ.map fun o => o.getD .non
def capV : Gam → Sg → List V
  | [], _ => []
  | none :: Γ, σ => .non :: capV Γ σ.tail
  | some _ :: Γ, σ => ((σ.head?.getD none).getD .non) :: capV Γ σ.tail
theorem En.tail {W : Wd} {o : Option D} {Γ : Gam} {u : Option V} {σ : Sg} {F : Hp} {ρ : List Addr} (h : En W (o :: Γ) (u :: σ) F ρ) : En W Γ σ F ρ :=
  ⟨by simpa using h.len, fun i d q => h.at_ (i + 1) d (by simpa using q)⟩
theorem cap_is {W : Wd} {F : Hp} {ρ : List Addr} : ∀ {Γ : Gam} {σ : Sg}, En W Γ σ F ρ → IsL W F ρ (capD Γ) (capV Γ σ)
  | [], _, _ => IsL.nil
  | o :: Γ, [], h => by have := h.len; simp at this
  | none :: Γ, u :: σ, h => IsL.cons (by simp only [Option.getD, Is]) (cap_is h.tail)
  | some d :: Γ, u :: σ, h => by
    obtain ⟨v, e, is⟩ := h.at_ 0 d rfl
    simp at e; subst e
    exact IsL.cons is (cap_is h.tail)
theorem cap_en {W : Wd} {F F' : Hp} {ρ ρ' : List Addr} : ∀ {Γ : Gam} {σ : Sg}, En W Γ σ F ρ → IsL W F' ρ' (capD Γ) (capV Γ σ) → En W Γ σ F' ρ'
  | [], σ, h, _ => ⟨h.len, fun i d q => by simp at q⟩
  | o :: Γ, [], h, _ => by have := h.len; simp at this
  | o :: Γ, u :: σ, h, k => by
    have k' : ∃ v r, capV (o :: Γ) (u :: σ) = v :: r ∧ Is W F' ρ' (o.getD .non) v ∧ IsL W F' ρ' (capD Γ) r := IsL.cons_iff.mp k
    obtain ⟨v, r, e, is, rest⟩ := k'
    have er : r = capV Γ σ := by cases o <;> (simp only [capV, List.cons.injEq] at e; exact e.2.symm)
    subst er
    have t := cap_en h.tail rest
    refine ⟨h.len, fun i d q => ?_⟩
    cases i with
    | zero =>
      simp at q; subst q
      obtain ⟨v', e', _⟩ := h.at_ 0 d rfl
      simp at e'; subst e'
      simp only [capV, List.head?_cons, Option.getD_some, List.cons.injEq] at e
      exact ⟨v', rfl, by rw [e.1]; exact is⟩
    | succ i => exact t.at_ i d (by simpa using q)
open Classical in
/-- the lambda is called -/
noncomputable def gAct (i : Nat) (Y : D) (th : Stor → R D) : GE' := fun Γ M => if Γ[i]? = some (some Y) then th M else .no
/-- the def at g: what it does with a lambda, hF -/
def LamDef (P : Program) (w : World) (W : Wd) (mg : Str → Option Value) (base : Heap) (Ng : List Str) (qg : Str) (sg : Scope) (g : Addr) (bg : List Stmt) (a : Str) (k : Nat) (gb : D → (Stor → R D) → GS') : Prop :=
  ∀ (cdv : Value) (A : Around) (outer : List Env) (s : Shared) (H : Hp) (Z : XK) (Y : D) (th : Stor → R D), Room k (A.deeper (envOfC qg sg s.heap.objs.size g cdv)) → A.guards = some [] →
    (∀ (E' : Sg → XK) (pn : List (Addr × Obj)) (xe : Value → Shared → Prop) (p1 p2 : Pos), Tk ((cxOf (L2.CX P w) P w W.K mg base Ng qg sg g cdv A outer s H Z).tr pn xe) E' →
      GE ((cxOf (L2.CX P w) P w W.K mg base Ng qg sg g cdv A outer s H Z).tr pn xe) W E' (.Call (.Name a p1) [] [] p2) (gAct 0 Y th)) →
    GSs (cxOf (L2.CX P w) P w W.K mg base Ng qg sg g cdv A outer s H Z) W (fun _ => Z) bg (gb Y th)
/-- run from its start -/
def hLam (N : Nat) (gb : D → (Stor → R D) → GS') (Y : D) (th : Stor → R D) (M : Stor) : R D := outS (gb Y th (some Y :: List.replicate (N - 1) none) M)
open Classical in
noncomputable def gLam (N : Nat) (gb : D → (Stor → R D) → GS') (body : GE') : GE' := fun Γ M =>
  if ∀ Y, hLam N gb Y (body Γ) M = hLam N gb .non (body Γ) M then frz M (hLam N gb .non (body Γ) M) else .no
section
variable {X : Cx} {W : Wd} {E : Sg → XK}
theorem ge_lam {x a : Str} {g c P : Addr} {k : Nat} {pg : Arguments} {bg : List Stmt} {sg : Scope} {fd : FuncData} {Ng : List Str} {params : Arguments} {body : Expr} {scope : Scope} {gbody : GE'} {gb : D → (Stor → R D) → GS'} {p lpos pos : Pos}
    (hK : X.K = W.K) (hg : Gl X x) (hm : X.mg x = some (.ref g)) (hk : PySem.W.keepIn X.K (.ref g) = true) (FD : FunD W.K x x pg bg sg [] [] g fd) (hbd : Binds W.K fd [a] []) (Sg : FnScope Ng [a] sg) (hNg : Ng[0]? = some a) (hva : Vis sg a)
    (LD : LamDef X.prog X.w W X.mg X.base Ng x sg g bg a (k + 1) gb)
    (TB : LamX.TabB X.base X.mg c P) (hcode : X.env.code = .ref c) (hmT : (P, X.env.qual ++ "<lambda>") ∈ W.tb) (hu : ∀ p ∈ W.tb, p.1 = P → p.2 = X.env.qual ++ "<lambda>") (hr : Room (k + 2) X.A) (gd : X.A.guards = some []) (L : LamX.LamS X.env.scope scope) (hx : Pass X E)
    (hdef : defaultsOf params X.env = ([], []))
    (hbind : ∀ (q : Str) (cl : List (Str × Addr)) (pm cv ctv : Value), bindArgs (PySem.W.kla_fn "<lambda>" q params body scope cl pm cv ctv) ⟨[], []⟩ = pure [])
    (hbody : ∀ (A : Around) (outer : List Env) (s : Shared) (H : Hp) (E' : XK) (f c' : Addr), Room k (A.deeper (LamX.lamEnv X scope s.heap.objs.size f c')) → A.guards = some [] → GE (LamX.lamCx X A outer s H E' scope f c') W (fun _ => E') body gbody)
    (hdb : (x == ("__debug__" : Str)) = false := by decide) (hd : (a == ("__debug__" : Str)) = false := by decide) (hcd : (a == ("__classdict__" : Str)) = false := by decide) :
    GE X W E (.Call (.Name x p) [.Lambda params body scope lpos] [] pos) (gLam Ng.length gb gbody) := by
  refine ⟨fun pins s σ H Q I ⟨ξ, Γ, M, F, ρ, en, rp, po⟩ => ?_⟩
  obtain ⟨oc, od, dV, kV, doc, pm, an, cdv, ct, osl, rfl, lk, hcg, _, _⟩ := FD.ex
  obtain ⟨t1, t2, t3, ps, t4, t5, t6⟩ := rp.tb _ hmT
  refine wpAny_Call_Name_kw (ld_glob I hg hm ?_ hdb)
  refine PySem.W.callWith_K (h₀ := X.base) I.ok.mod.kin hk ?_ (by rfl) (by rfl)
  show wpAny _ _ (spliced ((false, eval (.Lambda params body scope lpos) X.env) :: backTo pos (starEach [] X.env))) _ _ s
  refine Calls.spliced_cons (lam_made I TB hcode t4 t5 (fun pos cv z => let ⟨c, c1, c2⟩ := t6 pos cv z; ⟨c, c1, rp.sub _ _ c2⟩) hdef (L.has I.ok) fun f c' pm' ctv H1 s' I1 alt hf hfn hfr => ?_)
  refine Calls.spliced_nil ⟨I1.kIn, ?_⟩
  have nw : ∃ F1, Le F F1 ∧ F1 c' = some (LamX.CodeO c' (X.env.qual ++ "<lambda>")) ∧ Rp W ξ M F1 H1 ρ := by
    rcases alt with ⟨rfl, hc'⟩ | ⟨qs, rfl, hc', q1, q2⟩
    · obtain ⟨c2, e2, e3⟩ := t6 _ _ hc'
      cases e2
      exact ⟨F, Le.rfl', e3, rp⟩
    · exact ⟨_, Le.new (rp.free hc'), upd_same, rp.table hmT hu t4 hc' q1 q2⟩
  obtain ⟨F1, le1, fc, rp1⟩ := nw
  have isc := cap_is (en.mono le1 (List.prefix_refl _))
  have isY : Is W F1 ρ (.lam f c' (X.env.qual ++ "<lambda>") (capV Γ σ) (capD Γ)) (.ref f) := by
    simp only [Is]; exact ⟨trivial, fc, isc⟩
  have po' : Po W ξ (Is W) F ρ (hLam Ng.length gb (.lam f c' (X.env.qual ++ "<lambda>") (capV Γ σ) (capD Γ)) (gbody Γ) M) Q (E σ) := by
    unfold gLam at po
    split at po
    · rename_i hY
      rw [hY]
      exact Po.frz rp po
    · exact po.elim
  have rc : codeAny (model X.prog X.w) X.A (.call (.ref g) ⟨[.ref f], []⟩) (CR (L2.CX X.prog X.w) X.stack X.prog X.w H1 s' Q (E σ)) s' := by
    have e0 := I1.env0
    refine LamX.run_ofS (N := Ng) (ps := [a]) (us := [.ref f]) (vs := [.ref f]) (by rw [hK]; exact lk) (by rw [hK]; exact hcg) Sg hr e0 (hbd s' [.ref f] (by rw [← hK]; exact I1.kIn) rfl) (.cons rfl .nil) rfl fun hr' => ?_
    rw [hK] 
    refine ⟨_, LD cdv X.A X.stack s' H1 (E σ) (.lam f c' (X.env.qual ++ "<lambda>") (capV Γ σ) (capD Γ)) (gbody Γ) hr' gd (fun E' pn xe p1 p2 tk => ?_), ξ, _, M, F1, ρ, en_start (N := Ng) (IsL.cons isY IsL.nil), rp1, ?_⟩
    · rw [← hK] at tk ⊢
      refine mE (pe_acts (i := 0) (V := fun cls d σ H => E' σ cls d H) (tb := fun Z => tG W (fun _ => Z) gbody) I1 L hf hfn hfr (hbind _ _ _ _ _) tk hr' (fun Z A outer s H hgA hR => hbody A outer s H Z f c' hR (hgA.trans gd)) hNg hva hd hcd) ?_
      rintro σZ HZ Q' ⟨ξ', Γ', M', F', ρ', en', rp', po2⟩
      unfold gAct at po2
      split at po2
      · rename_i eY
        obtain ⟨v, e1, e2⟩ := en'.at_ 0 _ eY
        simp only [Is] at e2
        obtain ⟨rfl, e3, e4⟩ := e2
        exact ⟨e1, rp'.sub _ _ e3, E' σZ, fun cls d H' z => z, ξ', Γ, M', F', ρ', cap_en en e4, rp', po2⟩
      · exact po2.elim
    · have po3 := Po.mono po' le1 (List.prefix_refl ρ)
      unfold hLam at po3
      show PoS W ξ F1 ρ (gb _ _ (some _ :: List.replicate (Ng.length - 1) none) M) _ _
      cases er : gb (.lam f c' (X.env.qual ++ "<lambda>") (capV Γ σ) (capD Γ)) (gbody Γ) (some (.lam f c' (X.env.qual ++ "<lambda>") (capV Γ σ) (capD Γ)) :: List.replicate (Ng.length - 1) none) M with
      | nx g' M1 => rw [er] at po3; exact fun σ' F2 ρ2 H2 le p rp2 en2 => po3 .non F2 ρ2 H2 le p rp2 (by simp only [Is])
      | rt d M1 => rw [er] at po3; exact po3
      | bk g' M1 => rw [er] at po3; exact po3.elim
      | ct g' M1 => rw [er] at po3; exact po3.elim
      | ex c fs g' M1 => rw [er] at po3; exact fun σ' dx F2 ρ2 H2 le p rp2 en2 xc => po3 dx F2 ρ2 H2 le p rp2 xc
      | no => rw [er] at po3; exact po3.elim
  refine wpAny_call (codeAny_mono rc fun r s2 hq => ?_)
  cases r with
  | error e => exact hx σ pins _ _ e s2 I1 hq
  | ok fl =>
    cases fl with
    | ret u => exact I1.after hq
    | next => exact False.elim hq
    | brk => exact False.elim hq
    | cont => exact False.elim hq
end
end G

namespace G
open PySem PySem.Spec PyProof.Rows L2
/-! ### the law's own call, with tables of code objects -/
theorem law_gt {P : Program} {w : World} {W : Wd} {mg mb : Str → Option Value} {k : Nat} {fa a : Addr} {cs : List (Addr × Addr)} {fd : FuncData} {x : Str} {g : List D → Stor → R D} {st : Shared} {us : List Value} {zs : List Int}
    (kin : W.K.In st.heap) (glob : st.heap.Ns mainGlobals mg) (blt : st.heap.Ns builtinsNs mb) (bltv : ∀ y : Str, y ≠ "__name__" → mb y = bootBuiltins y) (lim : st.heap.NoLimit) (nogen : st.gens = #[])
    (hT : ∀ p ∈ cs, st.heap.get? p.2 = some { cls := .none, data := .fields #[] }) (nT : ∀ p ∈ cs, W.K.lookup p.2 = none) (C : ∀ p ∈ cs, PySem.W.CodeHd st.heap p.1 p.2)
    (hbm : ∃ (bm : Addr) (ob : Obj), mg "__builtins__" = some (.ref bm) ∧ bm ≠ builtinsNs ∧ st.heap.get? bm = some ob ∧ ob.cls = .type "module" ∧ ob.dict = some builtinsNs ∧ ob.data = .plain)
    (wtb : ∀ q ∈ W.tb, ∃ p ∈ cs, p.2 = q.1)
    (scr : st.heap.get? a = some { cls := .type "list", data := .seq us.toArray }) (hin : IntsAre us zs) (few : zs.length ≤ sizeLine) (room : Room k callerA)
    (fn : ∀ base : Heap, W.K.In base → base.Ns mainGlobals mg → (∀ p ∈ cs, LamX.TabB base mg p.1 p.2) → FnG P w W mg base k fa fd [x] g) (bind : ∀ (s : Shared) (u : Value), BindsTo s fd ⟨[u], []⟩ [(x, u)])
    (good : ∃ M, g [.lck (zs.map D.int)] [] = .ok (.bl true) M) :
    codeAny (model P w) callerA (.call (.ref fa) ⟨[.ref a], []⟩) (fun r s' => r = .ok (.ret (.bool true)) ∧ OldK st.heap s'.heap ∧ s'.os = st.os ∧ AllBare s'.gens) st := by
  obtain ⟨Mz, good⟩ := good
  have vals : Vals (zs.map V.int) us := vals_ints hin
  have usl : us.length = zs.length := hin.length
  have isT : ∀ b : Addr, b ∈ cs.map (·.2) → st.heap.get? b = some { cls := .none, data := .fields #[] } := by
    intro b hb
    obtain ⟨p, hp, rfl⟩ := List.mem_map.mp hb
    exact hT p hp
  have aT : a ∉ cs.map (·.2) := by
    intro z
    have q := isT a z
    rw [scr] at q
    have q' : Data.seq us.toArray _ = Data.fields #[] := congrArg Obj.data (Option.some.inj q)
    cases q'
  have inT : ∀ p ∈ cs, p.2 ∈ cs.map (·.2) := fun p hp => List.mem_map.mpr ⟨p, hp, rfl⟩
  -- what is tracked: the script, and the tables
  have main : ∀ H : Hp, (∀ b, b ∈ cs.map (·.2) → H b = some (.tbl #[])) → (∀ b, H b = none ∨ b ∈ cs.map (·.2) ∨ ∃ o xs, H b = some (.frz o (.lst xs))) → SqL W.K (fun b => if b ∈ cs.map (·.2) then none else H b) a (zs.map V.int) → HOk P w H st.heap →
      (∀ b, H b ≠ none → b = a ∨ b ∈ cs.map (·.2)) → (H a ≠ none → W.K.lookup a = none) →
      codeAny (model P w) callerA (.call (.ref fa) ⟨[.ref a], []⟩) (fun r s' => r = .ok (.ret (.bool true)) ∧ OldK st.heap s'.heap ∧ s'.os = st.os ∧ AllBare s'.gens) st := by
    intro H hH only sq hok alone free
    have stays : ∀ {b : Addr} {ob : Obj}, st.heap.get? b = some ob → H b = none → (hidT st.heap H).get? b = some ob := fun q n => hidT_get q n
    have plain : ∀ {b : Addr} {ob : Obj}, st.heap.get? b = some ob → (∀ vs n, ob.data ≠ .seq vs n) → ob.data ≠ .fields #[] → H b = none := by
      intro b ob q h1 h2
      cases hb : H b with
      | none => rfl
      | some z =>
        rcases alone b (by rw [hb]; exact fun h => nomatch h) with rfl | ht
        · rw [scr] at q
          cases q
          exact absurd rfl (h1 _ _)
        · rw [isT b ht] at q
          cases q
          exact absurd rfl h2
    have nodict : ∀ {b : Addr} {ob : Obj} {es : Array DictEntry} {n : Nat}, st.heap.get? b = some ob → ob.data = .dict es n → H b = none := by
      intro b ob es n q dd
      exact plain q (fun vs m z => by rw [dd] at z; cases z) (fun z => by rw [dd] at z; cases z)
    have ns : ∀ {b : Addr} {m : Str → Option Value}, st.heap.Ns b m → (hidT st.heap H).Ns b m := by
      rintro b m ⟨ob, es, n, q, dd, r⟩
      exact ⟨ob, es, n, stays q (nodict q dd), dd, r⟩
    have kin' : W.K.In (hidT st.heap H) := by
      intro b ob q
      refine stays (kin b ob q) ?_
      cases hb : H b with
      | none => rfl
      | some z =>
        rcases alone b (by rw [hb]; exact fun h => nomatch h) with rfl | ht
        · rw [free (by rw [hb]; exact fun h => nomatch h)] at q
          cases q
        · obtain ⟨p, hp, rfl⟩ := List.mem_map.mp ht
          rw [nT p hp] at q
          cases q
    have md : Mod W.K mg (hidT st.heap H) := by
      obtain ⟨mc, l1, l2⟩ := lim
      exact ⟨kin', ns glob, ⟨mb, ns blt, bltv⟩, ⟨mc, ns l1, l2⟩⟩
    have tabs : ∀ p ∈ cs, LamX.TabB (hidT st.heap H) mg p.1 p.2 := by
      intro p hp
      have tp := hT p hp
      obtain ⟨o, fs, file, tf, flags, tg, inF, text, tt, e1, r1, r2, r3, r4, r5, r6, r7, r8, hne⟩ := C p hp
      obtain ⟨bm, ob, b1, b2, b3, b4, b5, b6⟩ := hbm
      have nG : bm ≠ mainGlobals := by
        rintro rfl
        obtain ⟨o, es, ep, e, hd, _⟩ := glob
        rw [e] at b3
        cases b3
        rw [hd] at b6
        cases b6
      have nP : bm ≠ p.2 := by
        rintro rfl
        rw [tp] at b3
        cases b3
        cases b6
      refine ⟨⟨o, fs, file, tf, flags, tg, inF, text, tt, stays e1 (plain e1 (fun vs n z => ?_) fun z => ?_), r1, r2, r3, r4, r5, r6, r7, r8, hne⟩, ⟨bm, ob, b1, b2, nG, nP, stays b3 (plain b3 (fun vs n z => ?_) fun z => ?_), b4, b5, b6⟩, fun z => ?_⟩
      · rw [r2] at z; cases z
      · rw [r2] at z
        cases z
        simp at r3
      · rw [b6] at z; cases z
      · rw [b6] at z; cases z
      · obtain ⟨o, es, ep, e, hd, _⟩ := glob
        rw [z, tp] at e
        cases e
        cases hd
    have env : Env0 P w W.K mg (hidT st.heap H) callerA [] st H := by
      refine ⟨rfl, md, fun b ob q => of_hidT q, Nat.le_of_eq (hidT_size _ _), trivial, fun b hb => ?_, hok, .of_eq nogen⟩
      have hb' : b ∈ ([] : List Addr) := hb
      exact nomatch hb'
    have rp : Rp W [] [] (fun b => if b ∈ cs.map (·.2) then none else H b) H [] := by
      refine ⟨fun b o q => ?_, rfl, List.nodup_nil, fun i m b em _ => by simp at em, fun q hq => (nomatch hq), fun q hq => ?_⟩
      · by_cases hb : b ∈ cs.map (·.2)
        · simp only [hb, if_true] at q; cases q
        · simp only [hb, if_false] at q; exact q
      · obtain ⟨p, hp, e⟩ := wtb q hq
        have ht : q.1 ∈ cs.map (·.2) := by rw [← e]; exact inT p hp
        refine ⟨by simp, fun r hr => (nomatch hr), if_pos ht, #[], hH _ ht, True.intro, fun pos cv z => ?_⟩
        have z' : codeAmong pos [] = some cv := z
        simp [codeAmong] at z'
    have sp : spG W g [.ref a] H (fun v _ => v = .bl true) fun _ _ _ => False := by
      refine ⟨[], [.lck (zs.map D.int)], [], _, [], IsL.cons ?_ IsL.nil, rp, ?_⟩
      · simp only [Is]; exact ⟨a, _, rfl, sq, isL_ints zs⟩
      · rw [good]; exact fun v F' ρ' H' _ _ _ is => by simpa only [Is] using is
    refine codeAny_mono ((fn _ kin' (ns glob) tabs).run callerA [] st H ⟨[.ref a], []⟩ [.ref a] [.ref a] _ _ room rfl env (bind st (.ref a)) (.cons rfl .nil) sp) ?_
    intro res s' out
    cases res with
    | error er => obtain ⟨_, _, _, _, _, _, _, _, _, _, _, _, z⟩ := out; exact z.elim
    | ok fl =>
      cases fl with
      | next => exact out.elim
      | brk => exact out.elim
      | cont => exact out.elim
      | ret u =>
        obtain ⟨v, H', os, bare, un, hok', rel, q⟩ := out
        obtain rfl : v = .bl true := q
        obtain rfl : u = Value.bool true := rel
        have key : ∀ b o, b ∉ cs.map (·.2) → st.heap.get? b = some o → s'.heap.get? b = some o := by
          intro b o nb e
          rcases only b with h0 | h0 | ⟨oz, xs, h0⟩
          · exact un.keep b o e h0 (fun z => by have z' : b ∈ ([] : List Addr) := z; exact nomatch z') (fun z => nomatch z)
          · exact absurd h0 nb
          · obtain ⟨e1, _⟩ := hok b _ h0
            obtain ⟨e2, _⟩ := hok' b _ (un.frzs b oz _ h0)
            rw [e] at e1
            cases e1
            exact e2
        have grown : ∀ b, b ∈ cs.map (·.2) → ∃ more : Array Value, s'.heap.get? b = some { cls := .none, data := .fields more } := by
          intro b hb
          obtain ⟨more, z⟩ := un.tbls b #[] (hH b hb)
          exact ⟨_, hok' b _ z⟩
        refine ⟨rfl, ⟨fun b o e => ?_, fun b o e => ?_⟩, os, bare⟩
        · by_cases hb : b ∈ cs.map (·.2)
          · obtain ⟨more, hm⟩ := grown b hb
            obtain ⟨p, hp, rfl⟩ := List.mem_map.mp hb
            rw [hT p hp] at e
            cases e
            exact .inr (.inl ⟨((C p hp).tab (hT p hp)).isCodeTable, rfl, #[], more, rfl, by rw [Array.empty_append]; exact hm⟩)
          · exact .inl (key b o hb e)
        · by_cases hb : b ∈ cs.map (·.2)
          · obtain ⟨more, hm⟩ := grown b hb
            exact ⟨_, hm⟩
          · exact ⟨o, key b o hb e⟩
  cases hk : W.K.lookup a with
  | some ob =>
    have q := kin a ob hk
    rw [scr] at q
    cases q
    refine main (fun b => if b ∈ cs.map (·.2) then some (.tbl #[]) else none) (fun b hb => if_pos hb) (fun b => ?_) (Or.inr ⟨_, us.toArray, _, hk, rfl, rfl, rfl, ?_, ?_⟩) (fun b u z => ?_) (fun b z => ?_) (fun z => absurd (if_neg aT) z)
    · by_cases hb : b ∈ cs.map (·.2)
      · exact Or.inr (Or.inl hb)
      · exact Or.inl (if_neg hb)
    · rw [List.size_toArray, usl]; exact few
    · simpa using vals
    · by_cases hb : b ∈ cs.map (·.2)
      · have z' := (if_pos hb).symm.trans z
        cases z'
        exact isT b hb
      · have z' := (if_neg hb).symm.trans z
        cases z'
    · by_cases hb : b ∈ cs.map (·.2)
      · exact Or.inr hb
      · exact absurd (if_neg hb) z
  | none =>
    let lock : HO := .frz { cls := .type "list", data := .seq us.toArray } (.lst (zs.map V.int))
    refine main (fun b => if b = a then some lock else if b ∈ cs.map (·.2) then some (.tbl #[]) else none) (fun b hb => ?_) (fun b => ?_) (Or.inl (Or.inr ⟨{ cls := .type "list", data := .seq us.toArray }, ?_⟩)) (fun b u z => ?_) (fun b z => ?_) (fun _ => hk)
    · have : ¬ b = a := fun e => aT (e ▸ hb)
      exact (if_neg this).trans (if_pos hb)
    · by_cases hb : b = a
      · exact Or.inr (Or.inr ⟨_, _, if_pos hb⟩)
      · by_cases hb2 : b ∈ cs.map (·.2)
        · exact Or.inr (Or.inl hb2)
        · exact Or.inl ((if_neg hb).trans (if_neg hb2))
    · show (if a ∈ cs.map (·.2) then none else if a = a then some lock else _) = _
      rw [if_neg aT, if_pos rfl]
    · by_cases hb : b = a
      · have z' := (if_pos hb).symm.trans z
        cases z'
        subst hb
        exact ⟨scr, by rw [List.length_map]; exact few, us, _, vals, scr⟩
      · have z1 := (if_neg hb).symm.trans z
        by_cases hb2 : b ∈ cs.map (·.2)
        · have z' := (if_pos hb2).symm.trans z1
          cases z'
          exact isT b hb2
        · have z' := (if_neg hb2).symm.trans z1
          cases z'
    · by_cases hb : b = a
      · exact Or.inl hb
      · by_cases hb2 : b ∈ cs.map (·.2)
        · exact Or.inr hb2
        · exact absurd ((if_neg hb).trans (if_neg hb2)) z
theorem walk_gt {l : PySem.W.OpenLaw} {n k : Nat} {q : Program} {loose : List Str} {XP : (Str → Option Value) → Heap → Prop} {YP : World → Heap → Prop} {d : DefRec} {x : Str}
    (hn : l.most = some n) (hn2 : n ≤ sizeLine) (hdf : d.params.defaults = []) (room : Room k callerA)
    (F : ∀ (w : World) (mg mb : Str → Option Value) (fa : Addr) (h : Heap) (lo : List Str) (mean : ExcName → Option Value), YP w h → Top q lo mean mg mb h → mg d.name = some (.ref fa) →
      ∃ (W : Wd) (cs : List (Addr × Addr)) (fd : FuncData) (g : List D → Stor → R D), W.K.In h ∧ (∀ p ∈ cs, h.get? p.2 = some { cls := .none, data := .fields #[] }) ∧ (∀ p ∈ cs, W.K.lookup p.2 = none) ∧ (∀ p ∈ cs, PySem.W.CodeHd h p.1 p.2) ∧ (∀ q ∈ W.tb, ∃ p ∈ cs, p.2 = q.1) ∧
        (∀ (s : Shared) (u : Value), BindsTo s fd ⟨[u], []⟩ [(x, u)]) ∧
        (∀ zs : List Int, zs.length ≤ n → ∃ M, g [.lck (zs.map D.int)] [] = .ok (.bl true) M) ∧
        ∀ base : Heap, W.K.In base → base.Ns mainGlobals mg → (∀ p ∈ cs, LamX.TabB base mg p.1 p.2) → FnG l.prog w W mg base k fa fd [x] g) :
    PySem.W.WalkO q loose XP YP l.row.toRowW d [] (fun f vs => PySem.call f vs) := by
  refine Att.attach_call hn hdf ?_
  intro w s0 s1 mg mb fa ob pm cd doc a us zs G Y ho hd hcd hmg hobj hints hlen hg
  obtain ⟨W, cs, fd, g, kin, hT, nT, C, wtb, hb, hgood, hF⟩ := F w mg mb fa _ _ _ Y G.T hmg
  exact law_gt kin G.T.g G.T.b G.T.builtins G.T.nolimit hg hT nT C G.T.bmain wtb hobj hints (Nat.le_trans hlen hn2) room hF hb (hgood zs hlen)
end G

namespace G
open PySem PySem.Spec PyProof.Rows L2
section
variable {X : Cx} {W : Wd} {ξ : Xi} {E : Sg → XK} {a b e o tg : Expr} {es : List Expr} {ga gb go : GE'} {gs : GA'} {pos pos' p2 p apos : Pos} {x : Str}
/-! ### is None -/
theorem Is.non_iff {F : Hp} {ρ : List Addr} {d : D} {v : V} (h : Is W F ρ d v) : v = .non ↔ d = .non := by
  cases d with
  | non => simp only [Is] at h; simp [h]
  | bl b => simp only [Is] at h; simp [h]
  | int i => simp only [Is] at h; simp [h]
  | str y => simp only [Is] at h; simp [h]
  | ty n => simp only [Is] at h; simp [h]
  | tup l => simp only [Is] at h; obtain ⟨q, vs, rfl, _⟩ := h; simp
  | lst l => simp only [Is] at h; obtain ⟨q, vs, rfl, _⟩ := h; simp
  | lck l => simp only [Is] at h; obtain ⟨q, vs, rfl, _⟩ := h; simp
  | ins c l => simp only [Is] at h; obtain ⟨q, dx, fvs, rfl, _⟩ := h; simp
  | dct ks l => simp only [Is] at h; obtain ⟨q, vs, rfl, _⟩ := h; simp
  | cls c => simp only [Is] at h; simp [h]
  | ref k => simp only [Is] at h; obtain ⟨q, rfl, _⟩ := h; simp
  | exc c w l => simp only [Is] at h; obtain ⟨q, dx, rfl, _⟩ := h; simp
  | lam f c q us l => simp only [Is] at h; simp [h.1]
theorem flat_blv (F : Hp) (ρ : List Addr) (k : Bool) : Is W F ρ (.bl k) (.bl k) := by simp only [Is]
theorem og_isN : OpG X W E (compareOp .Is) dIsN :=
  fun ξ pins s σ H M F ρ x y vx vy ux uy Q I rx ry rp ix iy po => by
    unfold dIsN at po
    split at po
    · simp only [Is] at iy; subst iy
      refine op_isN pins s σ H vx .non ux uy Q I rx ry ⟨rfl, ?_⟩
      have hz := ix.non_iff
      refine po _ F ρ H Le.rfl' (List.prefix_refl _) rp ?_
      simp only [Is]
      cases x <;> simp [hz]
    · exact po.elim
/-! ### isinstance of a caught error -/
def ExOk (W : Wd) (ok : Nat → Bool) : Prop := ∀ c, ok c = true → ExcC W.K (W.T c)
def fIsiE (ok : Nat → Bool) (tab : Nat → CK → Option Bool) : List D → Stor → R D := fun ds M => match ds with
  | [.exc c false [], y] => (match ckOf y with
    | some k => if ok c then (match tab c k with
      | some b => .ok (.bl b) M
      | none => .no) else .no
    | _ => .no)
  | _ => .no
def IsiEOk (W : Wd) (tab : Nat → CK → Option Bool) : Prop := ∀ t c b, tab t c = some b → PySem.W.kitOne W.K (.ref (W.T t)) (ckV W c) = some b
theorem cg_isiE {ok : Nat → Bool} {tab : Nat → CK → Option Bool} (hK : X.K = W.K) (hc : ExOk W ok) (ht : IsiEOk W tab) : CallG X W E (.builtin "isinstance") (fIsiE ok tab) :=
  fun ξ pins s σ H M F ρ ds vs us Q I rv rp is po => by
    unfold fIsiE at po
    split at po
    · rename_i c y
      split at po
      · rename_i k ek
        split at po
        · rename_i hg
          split at po
          · rename_i b hb
            obtain ⟨v, u, rfl, ix, iy⟩ := two_of is
            simp only [Is] at ix
            obtain ⟨q, dx, rfl, fq, n0, _⟩ := ix
            obtain ⟨rfl, _⟩ := n0 trivial
            obtain ⟨u1, u2, rfl, r1, r2⟩ := vals2 rv
            obtain rfl : u1 = Value.ref q := r1
            have e2 : u2 = ckV W k := by
              unfold ckOf at ek
              split at ek
              · cases ek; simp only [Is] at iy; subst iy; exact r2
              · cases ek; simp only [Is] at iy; subst iy; exact r2
              · cases ek
            subst e2
            obtain ⟨⟨oe, fs, hget, h1, h2, hv⟩, _, _⟩ := I.hok q _ (rp.sub _ _ fq)
            have C := hc c hg
            have J : PySem.W.InstAt s.heap q oe (W.T c) none := by
              obtain ⟨oc, od, oda, osl⟩ := oe
              dsimp only at h1 h2 hv
              subst h1 h2 hv
              exact ⟨hget, rfl, rfl, trivial⟩
            have kin : W.K.In s.heap := by rw [← hK]; exact I.kIn
            exact PySem.W.kia_one (PySem.W.handS_kitx_exc C.hg C.hk C.hs C.hd C.ha C.hn C.ht C.hm) kin J (ht c k b hb) (fun z => nomatch z) fun tk => ⟨.bl b, H, I.kept (t' := tk) fun _ _ z => z, rfl, po _ F ρ H Le.rfl' (List.prefix_refl _) rp (flat_blv F ρ b)⟩
          · exact po.elim
        · exact po.elim
      · exact po.elim
    · exact po.elim
/-! ### o.m(..), m a method of the class c -/
def gMeth (c : Nat) (g : List D → Stor → R D) (o : GE') (a : GA') : GE' := fun Γ M => (o Γ M).bind fun x M1 => match insOf x M1 with
  | some (c', _) => if c' = c then (a Γ M1).bind fun ds M2 => g (x :: ds) M2 else .no
  | none => .no
theorem ge_meth {m : Str} {c : Nat} {f : Addr} {g : List D → Stor → R D} {pl : Sem Bool} (hc : CallG X W E (.ref f) g) (hK : X.K = W.K) (cl : Cls W.K (W.T c)) (hm : Meth W.K (W.T c) m f) (hfn : m ∉ W.fn c) (ho : GE X W E o go) (ha : GA X W E (e :: es) gs)
    (he : starEach (e :: es) X.env = (false, eval e X.env) :: starEach es X.env := by rfl) (hpl : (backTo pos (starEach es X.env)).any (·.1) = false := by rfl)
    (ht : eval (.Call (.Attribute o m apos) (e :: es) [] pos) X.env = (do
      let ov ← eval o X.env
      standAt apos.atName
      let (f, first) ← holding [ov] (getMethod ov m pl)
      callWith pos f first (backTo pos (starEach (e :: es) X.env)) (backToKw pos (keywordEach [] X.env))) := by rfl) : GE X W E (.Call (.Attribute o m apos) (e :: es) [] pos) (gMeth c g go gs) := by
  refine ⟨fun pins s σ H Q I ⟨ξ, Γ, M, F, ρ, en, rp, po⟩ => ?_⟩
  refine PySem.W.methodCall_KW (pl := pl) (thn (ho.run pins s σ H _ I ⟨ξ, Γ, M, F, ρ, en, rp, po.bind⟩) ?_) ht
  rintro u s1 ⟨v, H1, I1, r1, x, M1, F1, ρ1, le, pr, rp1, ix, po1⟩
  split at po1
  · rename_i c' l el
    split at po1
    · rename_i hcc
      subst hcc
      obtain ⟨q, dx, fvs, rfl, hq, hn, hl⟩ := insOf_ok rp1 ix el
      cases r1
      have lk : fvs.lookup m = none := by
        cases z : fvs.lookup m with
        | none => rfl
        | some y =>
          have hm' : m ∈ fvs.map (·.1) := List.mem_map.mpr ⟨(m, y), PySem.mem_of_lookup z, rfl⟩
          rw [hn] at hm'
          exact absurd (List.mem_of_mem_take hm') hfn
      refine getmeth_ok I1 hq (by rw [hK]; exact cl) (by rw [hK]; exact hm) lk ?_
      refine PySem.W.callWith_K (first := [.ref q]) (h₀ := X.base) I.ok.mod.kin (by rw [hK]; exact hm.kp) (thn (ha.run pos pins s1 σ H1 _ I1 ⟨ξ, Γ, M1, F1, ρ1, en.mono le pr, rp1, po1.bind⟩) ?_) he hpl
      rintro us s2 ⟨vs, H2, I2, r, ds, M2, F2, ρ2, e2, p2, rp2, is, po2⟩
      exact ⟨I2.kIn, hc ξ pins s2 σ H2 M2 F2 ρ2 (x :: ds) (.ref q :: vs) (.ref q :: us) Q I2 (.cons rfl r) rp2 (IsL.cons (ix.mono e2 p2) is) po2⟩
    · exact po1.elim
  · exact po1.elim
end
end G

namespace G
open PySem PySem.Spec PyProof.Rows L2
/-! ### l.count(x), l.index(x), x in l: by what is equal -/
def rCountD (K : PySem.W.Frag) : V → List V → Hp → VK → Prop := fun x xs H Q => ∃ (a : Addr) (y : V) (d : PyData) (ds : List PyData), x = V.ref a ∧ xs = [y] ∧ Dp K H (V.ref a) (.list ds) ∧ Dp K H y d ∧
  SeqAt.shaped (.list ds) = true ∧ SeqAt.shaped d = true ∧ Q (.int (ds.countP fun z => PyData.eqv z d : Nat)) H
theorem mt_countD {X : Cx} (hu : X.A.units + 65 < cLine) : MtR X "list.count" (rCountD X.K) := by
  intro pins s σ H x xs v us Q I rx rxs h
  obtain ⟨a, y, d, ds, rfl, rfl, hl, hy, sl, sd, q⟩ := h
  cases rx
  cases rxs with
  | cons ry rt =>
    rename_i uy ut
    cases rt
    obtain ⟨bs, r1⟩ := Dp.reads I d y uy hy ry
    have hxs : PyData.canLayAll0 ds = true := SeqAt.canLay_of_shaped sl
    have hroom : X.A.units + 1 + min (PyData.depthAll ds) d.depth < cLine := room_in_shaped sd hu
    cases hl with
    | lst hs ha =>
      obtain ⟨its, rv, ⟨⟨cls, dd, data, sls⟩, n, ho, hc, hdn, hdt⟩, hlen⟩ := I.list hs
      simp only at hc hdt
      subst hc hdt
      obtain ⟨as, h4⟩ := Dp.readsAll I ds _ its ha rv
      have hmap : its.map (SeqAt.readOf s.heap) = ds := SeqAt.readsAll_map ds its as hxs h4
      refine call_meets PySem.F.slot_list_count ⟨_, ho, rfl⟩ PySem.F.entry_list_count (PySem.F.args_list_count_2 _ _)
        (SeqAt.list_countAt a its.toArray n dd sls uy (fun u => PyData.eqv (SeqAt.readOf s.heap u) d)) ⟨ho, SeqAt.items_eqAt (vs := its.toArray) (show ReadsAll s.heap its.toArray.toList ds as from h4) r1 hxs (SeqAt.canLay_of_shaped sd) hroom, ?_⟩
      have ec : its.toArray.toList.countP (fun u => PyData.eqv (SeqAt.readOf s.heap u) d) = ds.countP fun z => PyData.eqv z d := by
        rw [← hmap, List.countP_map]
        rfl
      refine ⟨.int (ds.countP fun z => PyData.eqv z d : Nat), H, I.tok _, ⟨s.toks, ?_⟩, q⟩
      show Value.int ((its.toArray.toList.countP (fun u => PyData.eqv (SeqAt.readOf s.heap u) d) : Nat) : Int) s.toks = _
      rw [ec]
/-- a list's items as plain data -/
def pyL (x : D) (M : Stor) : Option (List PyData) := match topPy x M with
  | some (.list l) => some l
  | _ => none
def mCount : D → List D → Stor → R D := fun x ds M => match ds with
  | [y] => (match pyL x M, topPy y M with
    | some l, some d => if SeqAt.shaped (.list l) = true ∧ SeqAt.shaped d = true then .ok (.int (l.countP fun z => PyData.eqv z d : Nat)) M else .no
    | _, _ => .no)
  | _ => .no
section
variable {X : Cx} {W : Wd}
theorem pyL_some {x : D} {M : Stor} {l : List PyData} (h : pyL x M = some l) : topPy x M = some (.list l) := by
  unfold pyL at h
  split at h
  · rename_i e; cases h; exact e
  · cases h
theorem mg_count (hK : X.K = W.K) (hu : X.A.units + 65 < cLine) : MtG X W "list.count" mCount := ⟨_, mt_countD hu, fun ξ M F H ρ x ds v vs Q Z rp ix is po => by
  unfold mCount at po
  split at po
  · rename_i y
    split at po
    · rename_i l d el ed
      split at po
      · rename_i hs
        obtain ⟨u, rfl, iy⟩ := one_of is
        have h1 := topPy_ok rp (pyL_some el) ix
        have h2 := topPy_ok rp ed iy
        rw [hK]
        cases h1 with
        | lst hq ha => exact ⟨_, u, d, l, rfl, rfl, .lst hq ha, h2, hs.1, hs.2, po _ F ρ H Le.rfl' (List.prefix_refl _) rp (by simp only [Is])⟩
      · exact po.elim
    · exact po.elim
  · exact po.elim⟩
def mIndex : D → List D → Stor → R D := fun x ds M => match ds with
  | [y] => (match pyL x M, topPy y M with
    | some l, some d => if SeqAt.shaped (.list l) = true ∧ SeqAt.shaped d = true then (match l.findIdx? (fun z => PyData.eqv z d) with
      | some j => .ok (.int (j : Nat)) M
      | none => .no) else .no
    | _, _ => .no)
  | _ => .no
theorem mg_index (hK : X.K = W.K) (hu : X.A.units + 65 < cLine) : MtG X W "list.index" mIndex := ⟨_, mt_indexD hu, fun ξ M F H ρ x ds v vs Q Z rp ix is po => by
  unfold mIndex at po
  split at po
  · rename_i y
    split at po
    · rename_i l d el ed
      split at po
      · rename_i hs
        split at po
        · rename_i j ej
          obtain ⟨u, rfl, iy⟩ := one_of is
          have h1 := topPy_ok rp (pyL_some el) ix
          have h2 := topPy_ok rp ed iy
          rw [hK]
          obtain ⟨hj, hz, hno⟩ := List.findIdx?_eq_some_iff_getElem.mp ej
          cases h1 with
          | lst hq ha =>
            refine ⟨_, u, d, l, j, l[j], rfl, rfl, .lst hq ha, h2, hs.1, hs.2, List.getElem?_eq_getElem hj, hz, fun m z' hm e => ?_, po _ F ρ H Le.rfl' (List.prefix_refl _) rp (by simp only [Is])⟩
            obtain ⟨hm', rfl⟩ := List.getElem?_eq_some_iff.mp e
            simpa using hno m hm
        · exact po.elim
      · exact po.elim
    · exact po.elim
  · exact po.elim⟩
/-- x in l, x not in l -/
def dIn : D → D → Stor → R D := fun x y M => match topPy x M, pyL y M with
  | some d, some l => if SeqAt.shaped d = true ∧ SeqAt.shaped (.list l) = true then .ok (.bl (l.any fun z => PyData.eqv z d)) M else .no
  | _, _ => .no
end
end G

namespace G
open PySem PySem.Spec PyProof.Rows L2
/-! ### o.m(k = e) -/
structure FnBK (P : Program) (w : World) (W : Wd) (mg : Str → Option Value) (base : Heap) (k : Nat) (f : Addr) (ps : List Str) (kn : Str) (g : List D → Stor → R D) : Prop where
  ex : ∃ fd, FnG P w W mg base k f fd ps g ∧ ∀ (s : Shared) (a u : Value), BindsTo s fd ⟨[a], [(kn, u)]⟩ (ps.zip [a, u])
  kp : PySem.W.keepIn W.K (.ref f) = true
section
variable {X : Cx} {W : Wd} {ξ : Xi} {E : Sg → XK} {a b e o tg : Expr} {es : List Expr} {ga gb go ge : GE'} {gs : GA'} {pos pos' p2 p apos kpos : Pos} {x : Str}
theorem ge_methK {m kn : Str} {c k : Nat} {f : Addr} {ps : List Str} {g : List D → Stor → R D} {pl : Sem Bool} (fn : FnBK X.prog X.w W X.mg X.base k f ps kn g) (hr : Room k X.A) (gd : X.A.guards = some []) (hx : Pass X E) (hK : X.K = W.K) (cl : Cls W.K (W.T c)) (hm : Meth W.K (W.T c) m f) (hfn : m ∉ W.fn c)
    (ho : GE X W E o go) (he : GE X W E e ge)
    (hall : (backToKw pos (keywordEach [⟨some kn, e, kpos⟩] X.env)).all (·.1.isSome) = true := by rfl) (hks : (backToKw pos (keywordEach [⟨some kn, e, kpos⟩] X.env)).filterMap (·.1) = [kn] := by rfl)
    (hpl : ((backTo pos (starEach [] X.env)).any (·.1) || (backToKw pos (keywordEach [⟨some kn, e, kpos⟩] X.env)).any (·.1.isNone)) = false := by rfl)
    (ht : eval (.Call (.Attribute o m apos) [] [⟨some kn, e, kpos⟩] pos) X.env = (do
      let ov ← eval o X.env
      standAt apos.atName
      let (f, first) ← holding [ov] (getMethod ov m pl)
      callWith pos f first (backTo pos (starEach [] X.env)) (backToKw pos (keywordEach [⟨some kn, e, kpos⟩] X.env))) := by rfl) :
    GE X W E (.Call (.Attribute o m apos) [] [⟨some kn, e, kpos⟩] pos) (gMeth c g go (G.gCons ge G.gNil)) := by
  obtain ⟨fd, FG, kb⟩ := fn.ex
  refine ⟨fun pins s σ H Q I ⟨ξ, Γ, M, F, ρ, en, rp, po⟩ => ?_⟩
  refine PySem.W.methodCall_KW (pl := pl) (thn (ho.run pins s σ H _ I ⟨ξ, Γ, M, F, ρ, en, rp, po.bind⟩) ?_) ht
  rintro u s1 ⟨v, H1, I1, r1, x, M1, F1, ρ1, le, pr, rp1, ix, po1⟩
  split at po1
  · rename_i c' l el
    split at po1
    · rename_i hcc
      subst hcc
      obtain ⟨q, dx, fvs, rfl, hq, hn, hl⟩ := insOf_ok rp1 ix el
      cases r1
      have lk : fvs.lookup m = none := by
        cases z : fvs.lookup m with
        | none => rfl
        | some y =>
          have hm' : m ∈ fvs.map (·.1) := List.mem_map.mpr ⟨(m, y), PySem.mem_of_lookup z, rfl⟩
          rw [hn] at hm'
          exact absurd (List.mem_of_mem_take hm') hfn
      refine getmeth_ok I1 hq (by rw [hK]; exact cl) (by rw [hK]; exact hm) lk ?_
      have pk : PK X [⟨some kn, e, kpos⟩] (tCons (tG W E ge) tNil) := pk_cons he pk_nil
      have po2 : Po W ξ (Is W) F1 ρ1 ((ge Γ M1).bind fun d M2 => g [x, d] M2) Q (E σ) := by
        have z : (G.gCons ge G.gNil Γ M1).bind (fun ds M2 => g (x :: ds) M2) = (ge Γ M1).bind fun d M2 => g [x, d] M2 := by
          unfold G.gCons G.gNil
          cases ge Γ M1 <;> rfl
        rw [← z]; exact po1
      have want : tCons (tG W E ge) tNil σ H1 (fun zs H2 => ∃ d w M2 F2 ρ2, zs = [w] ∧ Le F1 F2 ∧ ρ1 <+: ρ2 ∧ Rp W ξ M2 F2 H2 ρ2 ∧ Is W F2 ρ2 d w ∧ Po W ξ (Is W) F2 ρ2 (g [x, d] M2) Q (E σ)) := by
        refine ⟨ξ, Γ, M1, F1, ρ1, en.mono le pr, rp1, (Po.bind (rel := Is W) po2).imp ?_⟩
        rintro w H2 ⟨d, M2, F2, ρ2, e2, p2, rp2, iw, po3⟩
        exact ⟨d, w, M2, F2, ρ2, rfl, e2, p2, rp2, iw, po3⟩
      refine PySem.W.callWith_KW0 (first := [.ref q]) (h₀ := X.base) I.ok.mod.kin (by rw [hK]; exact hm.kp) hall (thn (pk.run pos pins s1 σ H1 _ I1 want) ?_) hpl
      rintro ws s2 ⟨zs, H2, I2, rz, d, w, M2, F2, ρ2, rfl, e2, p2, rp2, iw, po3⟩
      refine ⟨I2.kIn, ?_⟩
      rw [hks]
      obtain ⟨uw, rfl, rw1⟩ := rz.one
      have rel : Vals [V.ref q, w] [Value.ref q, uw] := .cons rfl (.cons rw1 .nil)
      have sp : spG W g [V.ref q, w] H2 Q (E σ) := ⟨ξ, [x, d], M2, F2, ρ2, IsL.cons (ix.mono e2 p2) (IsL.cons iw IsL.nil), rp2, po3⟩
      have e0 := I2.env0
      rw [hK] at e0
      show wpAny _ _ (call (.ref f) [.ref q] [(kn, uw)]) _ _ _
      refine wpAny_call (codeAny_mono (FG.run X.A X.stack s2 H2 ⟨[.ref q], [(kn, uw)]⟩ [.ref q, uw] [V.ref q, w] Q (E σ) hr gd e0 (kb s2 (.ref q) uw) rel sp) fun res s' out => ?_)
      cases res with
      | error er => exact hx σ pins H2 s2 er s' I2 out
      | ok fl =>
        cases fl with
        | ret u => exact I2.after out
        | next => exact out.elim
        | brk => exact out.elim
        | cont => exact out.elim
    · exact po1.elim
  · exact po1.elim
end
end G

namespace G
open PySem PySem.Spec PyProof.Rows L2
/-- the code object of the def at f -/
def codeOf (K : PySem.W.Frag) (f : Addr) : Option Value := match K.lookup f with
  | some ⟨_, _, .func fd, _⟩ => some fd.code
  | _ => none
section
variable {P : Program} {w : World} {W : Wd} {ξ : Xi} {mg : Str → Option Value} {base : Heap} {x qual : Str} {params : Arguments} {body : List Stmt} {scope : Scope} {dvs : List V} {kws : List (Str × V)} {f : Addr} {fd : FuncData}
theorem fng_ofC {N ps : List Str} {k : Nat} {gb : GS'} (F : FunD W.K x qual params body scope dvs kws f fd) (S : FnScope N ps scope)
    (hb : ∀ (cdv : Value), codeOf W.K f = some cdv → ∀ (A : Around) (outer : List Env) (s : Shared) (H : Hp) (E : XK), Room k (A.deeper (envOfC qual scope s.heap.objs.size f cdv)) → A.guards = some [] →
      GSs (cxOf (L2.CX P w) P w W.K mg base N qual scope f cdv A outer s H E) W (fun _ => E) body gb) : FnG P w W mg base (k + 1) f fd ps (gFn ps.length N.length gb) := by
  have len : ∀ vs H Q E, spG W (gFn ps.length N.length gb) vs H Q E → vs.length = ps.length := fun vs H Q E h => by
    obtain ⟨ξ, ds, M, F', ρ, is, rp, po⟩ := h
    unfold gFn at po
    split at po
    · rename_i e; rw [is.len]; exact e
    · exact po.elim
  refine ⟨len, fun A outer st H args us vs Q Z room gd env binds rel hsp => ?_⟩
  obtain ⟨oc, od, dV, kV, doc, pm, an, cdv, ct, osl, rfl, lk, hcd, _, _⟩ := F.ex
  have hlen := len _ _ _ _ hsp
  have kin : W.K.In st.heap := env.mod.kin.keeps (fun b o z => (env.bs b o z).1)
  have nolim : st.heap.NoLimit := env.mod.nolimit.keeps (fun b o z => (env.bs b o z).1)
  have kinds : ∀ y ∈ ps.zip us, scope.names.lookup y.1 = some .local ∨
      (scope.names.lookup y.1 = some .cell ∧ ((cellsFrom (st.heap.objs.size + 1) scope.names []).lookup y.1).isSome = true) := by
    rintro ⟨nm, val⟩ hy
    have hin := (List.of_mem_zip hy).1
    cases S.par nm hin with
    | inl z => exact Or.inl z
    | inr z => exact Or.inr ⟨z, PySem.W.cellsFrom_some _ _ _ (Or.inl z)⟩
  refine codeAny_call_function room.depth (kin _ _ lk) rfl S.co S.gen rfl (PySem.W.codeRec_of kin hcd)
    (binds _ _ _ _ (wpAny_newFunctionEnv_cells S.kind kinds fun env' he s1 x1 => ?_))
  subst he
  refine ⟨nolim.keeps x1.toInCall.keep, codeAny_func ?_⟩
  have GB := hb cdv (by unfold codeOf; rw [lk]) A outer st H Z (room.deeper _) gd
  have I : Inv (cxOf (L2.CX P w) P w W.K mg base N qual scope f cdv A outer st H Z) [] (L2.start N vs) H s1 := inv_start S room.hd env hlen rel x1
  have hq : tGS W (fun _ => Z) gb { nx := fun _ H' => Q .non H', rt := Q } (L2.start N vs) H := by
    obtain ⟨ξ, ds, M, F', ρ, is, rp, po⟩ := hsp
    unfold gFn at po
    split at po
    · rename_i e
      refine ⟨ξ, _, M, F', ρ, en_start (N := N) is, rp, ?_⟩
      rw [← e] at po
      cases er : gb (ds.map some ++ List.replicate (N.length - ds.length) none) M with
      | nx g M1 => rw [er] at po; exact fun σ' F2 ρ2 H2 le p rp2 en2 => po .non F2 ρ2 H2 le p rp2 (by simp only [Is])
      | rt d M1 => rw [er] at po; exact po
      | bk g M1 => rw [er] at po; exact po.elim
      | ct g M1 => rw [er] at po; exact po.elim
      | ex c fs g M1 => rw [er] at po; exact fun σ' dx F2 ρ2 H2 le p rp2 en2 xc => po dx F2 ρ2 H2 le p rp2 xc
      | no => rw [er] at po; exact po.elim
    · exact po.elim
  refine wpAny_mono (GB.run [] s1 _ H _ I hq) (fun fl s' out => ?_) (fun er s' out => out)
  cases fl with
  | ret u => obtain ⟨v, σ', H', J, rv, q⟩ := out; exact ⟨v, H', J.os, J.bare, J.base, J.hok, rv, q⟩
  | next => obtain ⟨σ', H', J, q⟩ := out; exact ⟨.non, H', J.os, J.bare, J.base, J.hok, rfl, q⟩
  | brk => obtain ⟨_, _, _, q⟩ := out; exact q.elim
  | cont => obtain ⟨_, _, _, q⟩ := out; exact q.elim
end
/-! ### tables of code objects, by the names of the defs that make lambdas -/
def tcC (K : PySem.W.Frag) (x : Str) : Addr := ((PySem.W.tabIn K x).getD (0, 0)).1
def tcP (K : PySem.W.Frag) (x : Str) : Addr := ((PySem.W.tabIn K x).getD (0, 0)).2
structure TabK (K : PySem.W.Frag) (x : Str) : Prop where
  tab : PySem.W.tabIn K x = some (tcC K x, tcP K x)
  cd : codeOf K (He.ga K x) = some (.ref (tcC K x))
  nk : K.lookup (tcP K x) = none
def fxTab (x : Str) : Fx := fun K => (PySem.W.tabIn K x).isSome && (He.eqO ((codeOf K (He.ga K x)).map some) (some (some (.ref (tcC K x)))) && (K.lookup (tcP K x)).isNone)
theorem tabK_of {K : PySem.W.Frag} {x : Str} (h : fxTab x K = true) : TabK K x := by
  obtain ⟨h1, h⟩ := He.ba h
  obtain ⟨h2, h3⟩ := He.ba h
  refine ⟨?_, ?_, ?_⟩
  · obtain ⟨q, e⟩ := Option.isSome_iff_exists.mp h1
    unfold tcC tcP
    rw [e]; rfl
  · have z := He.eqO_ok h2
    cases e : codeOf K (He.ga K x) with
    | none => rw [e] at z; cases z
    | some v => rw [e] at z; simpa using z
  · cases e : K.lookup (tcP K x) with
    | none => rfl
    | some o => rw [e] at h3; cases h3
def lamName (x : Str) : Str := (x ++ ".<locals>.") ++ "<lambda>"
def tbOf (K : PySem.W.Frag) (l : List Str) : List (Addr × Str) := l.map fun x => (tcP K x, lamName x)
def csOf (K : PySem.W.Frag) (l : List Str) : List (Addr × Addr) := l.map fun x => (tcC K x, tcP K x)
def fxApart (l : List Str) : Fx := fun K => decide ((l.map (tcP K)).Nodup)
theorem apart_of {K : PySem.W.Frag} {l : List Str} (h : fxApart l K = true) : (l.map (tcP K)).Nodup := of_decide_eq_true h
theorem tb_mem {K : PySem.W.Frag} {l : List Str} {x : Str} (h : x ∈ l) : (tcP K x, lamName x) ∈ tbOf K l := List.mem_map.mpr ⟨x, h, rfl⟩
theorem nodup_map_inj {α β : Type} {f : α → β} : ∀ {l : List α}, (l.map f).Nodup → ∀ {a b : α}, a ∈ l → b ∈ l → f a = f b → a = b
  | [], _, _, _, h, _, _ => nomatch h
  | c :: l, n, a, b, ha, hb, e => by
    simp only [List.map_cons, List.nodup_cons] at n
    rcases List.mem_cons.mp ha with ea | ha'
    · rcases List.mem_cons.mp hb with eb | hb'
      · rw [ea, eb]
      · exact absurd (List.mem_map.mpr ⟨b, hb', by rw [← e, ea]⟩) n.1
    · rcases List.mem_cons.mp hb with eb | hb'
      · exact absurd (List.mem_map.mpr ⟨a, ha', by rw [e, eb]⟩) n.1
      · exact nodup_map_inj n.2 ha' hb' e
theorem tb_uniq {K : PySem.W.Frag} {l : List Str} {x : Str} (n : (l.map (tcP K)).Nodup) (h : x ∈ l) : ∀ p ∈ tbOf K l, p.1 = tcP K x → p.2 = lamName x := by
  intro p hp e
  obtain ⟨y, hy, rfl⟩ := List.mem_map.mp hp
  rw [nodup_map_inj n hy h e]
theorem tb_cs {K : PySem.W.Frag} {l : List Str} : ∀ q ∈ tbOf K l, ∃ p ∈ csOf K l, p.2 = q.1 := by
  intro q hq
  obtain ⟨x, hx, rfl⟩ := List.mem_map.mp hq
  exact ⟨_, List.mem_map.mpr ⟨x, hx, rfl⟩, rfl⟩
theorem tb_at {K : PySem.W.Frag} {l : List Str} {x : Str} {mg : Str → Option Value} {base : Heap} (B : ∀ p ∈ csOf K l, LamX.TabB base mg p.1 p.2) (h : x ∈ l) : LamX.TabB base mg (tcC K x) (tcP K x) := B _ (List.mem_map.mpr ⟨x, h, rfl⟩)
/-! ### errors: facts as truths -/
open He in
def fxEx0 (x : Str) : Fx := fun K => PySem.W.excIn K (ga K x) [.type "ValueError", .type "Exception", .type "BaseException", .type "object"] "ValueError.__new__" && (PySem.W.keepIn K (.ref (ga K x)) &&
  (decide (PySem.W.subIn K (.ref (ga K x)) (.type "BaseException") = some true) && eqO ((PySem.W.typeIn K (.ref (ga K x))).map some) (some (some (.type "type")))))
theorem ex0_of {K : PySem.W.Frag} {x : Str} (h : fxEx0 x K = true) : Ex0 K (He.ga K x) := by
  obtain ⟨h1, h⟩ := He.ba h
  obtain ⟨h2, h⟩ := He.ba h
  obtain ⟨h3, h4⟩ := He.ba h
  refine ⟨h1, h2, of_decide_eq_true h3, ?_⟩
  have z := He.eqO_ok h4
  cases e : PySem.W.typeIn K (.ref (He.ga K x)) with
  | none => rw [e] at z; cases z
  | some v => rw [e] at z; simpa using z
open He in
def fxExC (x : Str) : Fx := fun K => eqO (PySem.W.findIn K (.ref (ga K x)) "__getattribute__") (some (some (.builtin "BaseException.__getattribute__"))) && (eqO (PySem.W.findIn K (.ref (ga K x)) "__getattr__") (some none) &&
  (decide (PySem.W.subIn K (.ref (ga K x)) (.type "BaseException") = some true) && (PySem.W.hasDictIn K (ga K x) && (eqO (PySem.W.findIn K (.ref (ga K x)) "__class__") (some (some (.builtin "object.__class__"))) &&
  (eqO (PySem.W.specialIn K (.builtin "object.__class__") "__get__") (some (some (.builtin "getset_descriptor.__get__"))) && (decide (PySem.W.takesIn K (.builtin "object.__class__") = some true) && decide (PySem.W.mroIn K (ga K x) (.type "object") = some true)))))))
theorem exC_of {K : PySem.W.Frag} {x : Str} (h : fxExC x K = true) : ExcC K (He.ga K x) := by
  obtain ⟨h1, h⟩ := He.ba h
  obtain ⟨h2, h⟩ := He.ba h
  obtain ⟨h3, h⟩ := He.ba h
  obtain ⟨h4, h⟩ := He.ba h
  obtain ⟨h5, h⟩ := He.ba h
  obtain ⟨h6, h⟩ := He.ba h
  obtain ⟨h7, h8⟩ := He.ba h
  exact ⟨He.eqO_ok h1, He.eqO_ok h2, of_decide_eq_true h3, h4, He.eqO_ok h5, He.eqO_ok h6, of_decide_eq_true h7, of_decide_eq_true h8⟩
def fxExm (x c : Str) (r : Bool) : Fx := fun K => decide (PySem.W.exmOne K (.ref (He.ga K x)) (.ref (He.ga K c)) = some r)
theorem exm_of {K : PySem.W.Frag} {x c : Str} {r : Bool} (h : fxExm x c r K = true) : PySem.W.exmOne K (.ref (He.ga K x)) (.ref (He.ga K c)) = some r := of_decide_eq_true h
end G

namespace G
open PySem PySem.Spec PyProof.Rows L2
theorem pass_lam {X : Cx} {A : Around} {outer : List Env} {s : Shared} {H : Hp} {E : XK} {scope : Scope} {f c' : Addr} : Pass (LamX.lamCx X A outer s H E scope f c') (fun _ => E) :=
  Tk.pass (E := fun _ => E) (takes_of (X := LamX.lamCx X A outer s H E scope f c') rfl rfl rfl rfl)
theorem _root_.L2.Room.units65 {k : Nat} {A : Around} (r : Room k A) : A.units + 65 < cLine := by have := r.un; omega
end G

namespace G
open PySem PySem.Spec PyProof.Rows L2
/-! ### the head's facts over what is written, without the tables of code objects -/
def noTab : Option Obj → Bool
  | some ⟨.none, _, .fields vs, _⟩ => !vs.isEmpty
  | _ => true
def asF (g : Addr → Option Obj) (n : Nat) : List Addr := (He5.asA g n).filter fun a => noTab (g a)
def obsFG (n : Nat) (fa : List He.Fa) (fx : List Fx) (fn : List He5.DefA) (g : Addr → Option Obj) : He.AlD := obsE fa fx fn (He.frG g (asF g n))
def hookF (n : Nat) (fa : List He.Fa) (fx : List Fx) (fn : List He5.DefA) : PySem.W.Hook where
  α := He.AlD
  obs := fun s => obsFG n fa fx fn s.heap.get?
  val := fun _ => He5.valA fn
  says := fun _ h => ∃ K : PySem.W.Frag, K.In h ∧ SaysE fa fx fn K
  of := fun _ _ e => ⟨_, He.frG_in, e⟩
  keeps := fun _ _ _ ⟨K, hK, c⟩ k => ⟨K, PySem.W.Frag.In.keeps hK k, c⟩
theorem obsFG_eq {n : Nat} {fa : List He.Fa} {fx : List Fx} {fn : List He5.DefA} {g : Addr → Option Obj} {s : Shared} (h : ∀ a, g a = s.heap.get? a) : obsFG n fa fx fn g = (hookF n fa fx fn).obs s := by
  have e : g = s.heap.get? := funext h
  subst e; rfl
end G

namespace G
open PySem PySem.Spec PyProof.Rows L2
/-! ### C(), C a class without __init__ -/
structure Mk0 (K : PySem.W.Frag) (C : Addr) : Prop where
  makes : PySem.W.makesIn K C = true
  init : PySem.W.findIn K (.ref C) "__init__" = some (some (.builtin "object.__init__"))
  top : PySem.W.mroIn K C (.type "object") = some true
  kp : PySem.W.keepIn K (.ref C) = true
def gBare (c : Nat) : List D → Stor → R D := fun xs M => match xs with
  | [] => .ok (.ins c []) M
  | _ => .no
section
open PySem.W PySem.Calls Builtin
theorem oi_call {prog : Program} {w : World} {A : Around} {K : PySem.W.Frag} {C y : Addr} {o : Obj} {s : Shared} {R : Result → Shared → Prop} (X : K.In s.heap) (ho : s.heap.get? y = some o) (hc : o.cls = .ref C) (top : mroIn K C (.type "object") = some true)
    (q : R (.ok (.ret .none)) s) : codeAny (model prog w) A (.call (.builtin "object.__init__") ⟨[.ref y], []⟩) R s := by
  have t1 : Looks (model prog w) s.heap (typeOf (.ref y)) (.ref C) := NwA.type_at ho hc
  have t2 : Looks (model prog w) s.heap (isInstance (.ref y) (.type "object")) true := t1.andThen (looks_mroIn X top)
  refine codeAny_call_builtin oi_plain entry_oi (@check_slot (model prog w) _ _ _ "object.__init__" "object" "__init__" (.ref y) [] [] _ oi_kind oi_split t2 (NwA.oi_args_any (.ref y) [] []) ?_)
  obtain ⟨hh, g, d, t, os⟩ := s
  rw [oi_run]
  exact wpAny_pure q
end
section
variable {X : Cx} {W : Wd} {ξ : Xi} {E : Sg → XK}
theorem cg_bare {c : Nat} (MK : Mk0 X.K (W.T c)) : CallG X W E (.ref (W.T c)) (gBare c) := by
  intro ξ pins s σ H M F ρ ds vs us Q I r rp is po
  unfold gBare at po
  split at po
  · rw [IsL.nil_iff] at is; subst is
    cases r
    have nx := I.hok.fresh (a := s.heap.objs.size + 1) (Nat.le_succ _)
    have ndx := I.hok.fresh (a := s.heap.objs.size) (Nat.le_refl _)
    have hne : s.heap.objs.size + 1 ≠ s.heap.objs.size := Nat.succ_ne_self _
    have I2 := Inv.made (C := W.T c) I
    have rp1 : Rp W ξ M F (upd H s.heap.objs.size (.own (s.heap.objs.size + 1))) ρ := rp.newH ndx
    have nx1 : (upd H s.heap.objs.size (.own (s.heap.objs.size + 1))) (s.heap.objs.size + 1) = none := by rw [upd_ne hne]; exact nx
    have rp2 := rp1.new (o := .ins (W.T c) s.heap.objs.size []) nx1
    have q := po (.ref (s.heap.objs.size + 1)) _ ρ _ (Le.new (rp1.free nx1)) (List.prefix_refl _) rp2 (by
      simp only [Is]
      exact ⟨_, s.heap.objs.size, [], rfl, upd_same, by simp, IsL.nil⟩)
    refine wpAny_call (make_map0 I.kIn MK.makes MK.init (fun self => PySem.W.Looks.of_pure (PySem.W.oi_bind _)) ?_)
    refine oi_call (C := W.T c) (o := PySem.W.instObj (W.T c) s.heap.objs.size) I2.kIn ?_ rfl MK.top ?_
    · have := Heap.get?_push_size (s.heap.push PySem.W.emptyDict) (o := PySem.W.instObj (W.T c) s.heap.objs.size) rfl
      rwa [Heap.size_push] at this
    · exact ⟨rfl, ⟨V.ref (s.heap.objs.size + 1), _, I2, rfl, q⟩⟩
  · exact po.elim
/-! ### x < y, x == y .. by a method of the class of x -/
def NfOk (W : Wd) (c : Nat) (nf : TK → Bool) : Prop := ∀ t, nf t = true → PySem.W.notFirst W.K (W.T c) (tkV W t) = true
def cmpO (c : Nat) (ok : Nat → Bool) (nf : TK → Bool) (g : List D → Stor → R D) : D → D → Stor → R D := fun x y M => match insOf x M with
  | some (c1, _) => if c1 = c then (match tkOf y M with
    | some t => if tkGood ok t && nf t then g [x, y] M else .no
    | none => .no) else .no
  | none => .no
theorem og_cmpO {c : Nat} {f : Addr} {g : List D → Stor → R D} {op : CmpOp} {ok : Nat → Bool} {nf : TK → Bool} (hop : ∀ a b, compareOp op a b = richCompare op a b) (hK : X.K = W.K) (hu : X.A.units < cLine)
    (hs : PySem.W.findIn X.K (.ref (W.T c)) (cmpInfo op).2.1 = some (some (.ref f))) (hf : PySem.W.isFn X.K (.ref f) = true) (hc : ClsOk W ok) (hn : NfOk W c nf) (hg : CallG X W E (.ref f) g) : OpG X W E (compareOp op) (cmpO c ok nf g) :=
  fun ξ pins s σ H M F ρ x y vx vy ux uy Q I rx ry rp ix iy po => by
    unfold cmpO at po
    split at po
    · rename_i c1 l ex
      split at po
      · rename_i hc1
        subst hc1
        split at po
        · rename_i t et
          split at po
          · rename_i hb
            obtain ⟨b1, b2⟩ := Bool.and_eq_true_iff.mp hb
            obtain ⟨p, dx, fvs, rfl, hp, _, _⟩ := insOf_ok rp ix ex
            cases rx
            obtain ⟨od, J, _⟩ := inst_of I hp
            have ty := tkOf_ok hc rp iy et b1
            rw [← hK] at ty
            obtain ⟨P, kx, hP, _⟩ := L2.kit_of I ry ty
            obtain ⟨m, hF⟩ := I.fr
            have nf' := hn t b2
            rw [← hK] at nf'
            rw [hop]
            exact PySem.W.cmp_K hu hF I.ok.mod.kin J (kx.ty _ _ I.kIn hP) nf' hs hf (thn (hg ξ pins s σ H M F ρ _ _ _ Q I (.cons (rel_ref p) (.cons ry .nil)) rp (IsL.cons ix (IsL.cons iy IsL.nil)) po) fun _ _ z => back_of z)
          · exact po.elim
        · exact po.elim
      · exact po.elim
    · exact po.elim
end
/-! ### facts as truths -/
open He in
def fxMk0 (x : Str) : Fx := fun K => PySem.W.makesIn K (ga K x) && (eqO (PySem.W.findIn K (.ref (ga K x)) "__init__") (some (some (.builtin "object.__init__"))) && (decide (PySem.W.mroIn K (ga K x) (.type "object") = some true) && PySem.W.keepIn K (.ref (ga K x))))
theorem mk0_of {K : PySem.W.Frag} {x : Str} (h : fxMk0 x K = true) : Mk0 K (He.ga K x) := by
  obtain ⟨h1, h⟩ := He.ba h
  obtain ⟨h2, h⟩ := He.ba h
  obtain ⟨h3, h4⟩ := He.ba h
  exact ⟨h1, He.eqO_ok h2, of_decide_eq_true h3, h4⟩
def fxNf (x : Str) (t : TN) : Fx := fun K => PySem.W.notFirst K (He.ga K x) (t.v K)
theorem nf_of {K : PySem.W.Frag} {x : Str} {t : TN} (h : fxNf x t K = true) : PySem.W.notFirst K (He.ga K x) (t.v K) = true := h
end G

namespace G
open PySem L2
/-! ### reckoning: comprehensions, appended lists, heard values -/
theorem ret_id (r : R D) (Γ : Gam) : outS (r.bindS Γ fun d M1 => .rt d M1) = r := by cases r <;> rfl
theorem comp_mapF {keep : Stor → Prop} {t : Tgt} {tt : GT'} {te : GE'} {Γ : Gam} {M : Stor} (hk : keep M) (f : D → D) : ∀ (l acc : List D), acc.length + l.length < 1000000 →
    (∀ d ∈ l, ∃ Γ1, t.run d Γ = some Γ1 ∧ tt Γ1 M = .ok true M ∧ te Γ1 M = .ok (f d) M) → compG keep t tt te Γ l M acc = .ok (acc ++ l.map f) M
  | [], acc, _, _ => by unfold compG; simp
  | d :: ds, acc, hl, h => by
    obtain ⟨Γ1, e1, e2, e3⟩ := h d List.mem_cons_self
    simp only [List.length_cons] at hl
    unfold compG
    simp only [e1, e2, e3]
    rw [if_pos ⟨hk, by omega⟩, comp_mapF hk f ds (acc ++ [f d]) (by simp; omega) fun d' hd => h d' (List.mem_cons_of_mem _ hd)]
    simp
/-- [e for x in xs]: nothing changes -/
theorem comp_all {it : GI'} {t : Tgt} {te : GE'} {Γ : Gam} {M : Stor} {l : List D} {keep : Stor → Prop} (hi : it Γ M = .ok (l, keep) M) (hk : keep M) (f : D → D) (hl : l.length < 1000000)
    (h : ∀ d ∈ l, ∃ Γ1, t.run d (wipeG Γ t.slots) = some Γ1 ∧ te Γ1 M = .ok (f d) M) : gComp it t gYes te Γ M = .ok (.lst (l.map f)) M := by
  unfold gComp
  rw [hi]
  simp only [R.bind_ok, hk, if_true]
  rw [comp_mapF (tt := gYes) hk f l [] (by simpa using hl) fun d hd => let ⟨Γ1, a, b⟩ := h d hd; ⟨Γ1, a, rfl, b⟩]
  simp
theorem comp_noneF {keep : Stor → Prop} {t : Tgt} {tt : GT'} {te : GE'} {Γ : Gam} {M : Stor} (hk : keep M) : ∀ (l : List D), (∀ d ∈ l, ∃ Γ1, t.run d Γ = some Γ1 ∧ tt Γ1 M = .ok false M) → compG keep t tt te Γ l M [] = .ok [] M
  | [], _ => by unfold compG; rfl
  | d :: ds, h => by
    obtain ⟨Γ1, e1, e2⟩ := h d List.mem_cons_self
    unfold compG
    simp only [e1, e2]
    rw [if_pos hk]
    exact comp_noneF hk ds fun d' hd => h d' (List.mem_cons_of_mem _ hd)
/-- [e for x in xs if t]: none is kept -/
theorem comp_nothing {it : GI'} {t : Tgt} {tt : GT'} {te : GE'} {Γ : Gam} {M : Stor} {l : List D} {keep : Stor → Prop} (hi : it Γ M = .ok (l, keep) M) (hk : keep M)
    (h : ∀ d ∈ l, ∃ Γ1, t.run d (wipeG Γ t.slots) = some Γ1 ∧ tt Γ1 M = .ok false M) : gComp it t tt te Γ M = .ok (.lst []) M := by
  unfold gComp
  rw [hi]
  simp only [R.bind_ok, hk, if_true]
  rw [comp_noneF hk l h]
  rfl
theorem append_last {M : Stor} {l : List D} {d : D} (hl : l.length < 1000) : mAppend (.ref M.length) [d] (M ++ [.lst l]) = .ok .non (M ++ [.lst (l ++ [d])]) := by
  unfold mAppend
  simp only [get_last]
  rw [if_pos (by omega), set_last]
theorem lstOf_last {M : Stor} {l : List D} : lstOf (.ref M.length) (M ++ [.lst l]) = some l := by
  unfold lstOf; simp only [get_last]
/-- o.append(e), o the list made last -/
theorem ap_last {g : GE'} {Γ : Gam} {M : Stor} {l : List D} {d : D} {i : Nat} (h2 : Γ[i]? = some (some (.ref M.length))) (h : g Γ (M ++ [.lst l]) = .ok d (M ++ [.lst l])) (hl : l.length < 1000) :
    gExpr (gMtL mAppend (gVar i) (gCons g gNil)) Γ (M ++ [.lst l]) = .nx Γ (M ++ [.lst (l ++ [d])]) := by
  have z := append_last (M := M) (d := d) hl
  simp only [gExpr, gMtL, gVar, h2, R.bind_ok, lstOf_last, gCons, gNil, h, z, R.bindS_ok]
theorem frz_ok0 {M : Stor} {d : D} : frz M (.ok d M) = .ok d M := by
  unfold frz; simp only [if_true]
theorem frz_ex0 {M : Stor} {c : Nat} {fs : Flds} : frz M (.ex c fs M) = .ex c fs M := by
  unfold frz; simp only [if_true]
/-- firm data behind a call that made one object -/
theorem frz_firm1 {M : Stor} {m : MO} {d : D} (h : d.firm = true) : frz M (.ok d (M ++ [m])) = .ok d M := by
  unfold frz
  have e : ¬ (M ++ [m]).length = M.length := by simp
  simp only [e, if_false, kept_last, if_true, frzD_firm h]
  simp
/-- a lambda handed to a def -/
theorem lam_of {N : Nat} {gb : D → (Stor → R D) → GS'} {g : GE'} {Γ : Gam} {M : Stor} {d : D} (z : ∀ Y, hLam N gb Y (g Γ) M = .ok d M) : gLam N gb g Γ M = .ok d M := by
  unfold gLam
  rw [if_pos (fun Y => by rw [z, z]), z]
  exact frz_ok0
theorem toPy_tup {l : List D} {ps : List PyData} (h : toPyL l = some ps) : toPy (.tup l) = some (.tuple ps) := by simp only [toPy, h, Option.map_some]
theorem toPy_lst {l : List D} {ps : List PyData} (h : toPyL l = some ps) : toPy (.lst l) = some (.list ps) := by simp only [toPy, h, Option.map_some]
theorem neD_self {x y : D} {M : Stor} {p : PyData} (hx : topPy x M = some p) (hy : topPy y M = some p) (s : SeqAt.shaped p = true) : dNeD x y M = .ok (.bl false) M := by
  unfold dNeD
  simp only [hx, hy, s, and_self, if_true, SeqAt.eqv_refl p (SeqAt.canLay_of_shaped s), Bool.not_true]
theorem eqD_self {x y : D} {M : Stor} {p : PyData} (hx : topPy x M = some p) (hy : topPy y M = some p) (s : SeqAt.shaped p = true) : dEqD x y M = .ok (.bl true) M := by
  unfold dEqD
  simp only [hx, hy, s, and_self, if_true, SeqAt.eqv_refl p (SeqAt.canLay_of_shaped s)]
theorem ne_lst {l m : List D} {M : Stor} : dNe (.lst l) (.lst m) M = dNeD (.lst l) (.lst m) M := rfl
theorem eq_lst {l m : List D} {M : Stor} : dEq (.lst l) (.lst m) M = dEqD (.lst l) (.lst m) M := rfl
theorem ne_tup {l m : List D} {M : Stor} : dNe (.tup l) (.tup m) M = dNeD (.tup l) (.tup m) M := rfl
theorem eq_tup {l m : List D} {M : Stor} : dEq (.tup l) (.tup m) M = dEqD (.tup l) (.tup m) M := rfl
end G

/-! ### isinstance of an error, with its own dict or without -/
namespace G
section
open PySem PySem.Spec PySem.Calls PyProof.Rows PySem.W
variable {prog : Program} {w : World} {A : Around} {E : Value → Shared → Prop} {s : Shared} {K : Frag} {x D : Addr} {ox : Obj} {od : Option Obj}
theorem exc_class {Q : Option Value → Shared → Prop} (C : L2.ExcC K D) (X : K.In s.heap) (I : InstAt s.heap x ox D od) (h : Q (some (.ref D)) { s with toks := s.toks + 1 }) :
    wpAny (model prog w) A (getAttr? (.ref x) "__class__") Q E s := by
  have isC : (clsIn K D).isSome = true := by
    obtain ⟨cd, e, _⟩ := any_some C.hd
    rw [e]; rfl
  have fo : findObj K D od "__class__" = some (.bind (.builtin "getset_descriptor.__get__") (.builtin "object.__class__")) := by
    cases od with
    | none => exact findObj_dataN isC C.ha C.hn C.ht
    | some o => exact findObj_data isC C.ha C.hn C.ht
  obtain ⟨hp, gg, dr, tt, os⟩ := s
  have T0 := I.type (M := model prog w)
  have T1 := looks_findIn (M := model prog w) X C.hg
  have T2 := looks_findIn (M := model prog w) X C.hk
  have T3 := looks_find (M := model prog w) X I fo
  have isB : Looks (model prog w) hp (isInstance (.ref x) (.type "BaseException")) true := T0.andThen (looks_subIn X C.hs)
  have ne2 : (Value.builtin "BaseException.__getattribute__" == Value.builtin "object.__getattribute__") = false := by decide +kernel
  have ne1 : (onTheHeap (Value.ref D) && (Value.builtin "BaseException.__getattribute__" == Value.builtin "object.__getattribute__")) = false := by rw [ne2]; rfl
  unfold getAttr? getAttrBy? getAttrBy
  refine wpAny_bind (wpAny_mkText (wpAny_bind (wpAny_attempt (wpAny_holding (wpAny_bind (T0.at (wpAny_bind (T1.at ?_))))))))
  show wpAny _ _ (if (onTheHeap (Value.ref D) && (Value.builtin "BaseException.__getattribute__" == Value.builtin "object.__getattribute__")) = true then _ else _) _ _ _
  rw [ne1, if_neg (by decide : ¬ (false = true))]
  unfold getAttrByItsOwn hookBefore
  refine wpAny_bind ?_
  have onH : onTheHeap (Value.ref D) = true := rfl
  rw [if_pos onH]
  refine T2.at (wpAny_bind (wpAny_attempt (wpAny_holding ?_)))
  unfold callGetattribute
  rw [if_neg (by decide +kernel : ¬ ((false && onTheHeap (Value.builtin "BaseException.__getattribute__")) = true))]
  unfold boundAndCalled
  rw [PySem.F.excAttr_ValueError.ga.bind (.ref x)]
  refine wpAny_bind (wpAny_pure (?_ : wpAny _ _ (call (.builtin "BaseException.__getattribute__") [.ref x, .str "__class__" tt]) _ _ _))
  refine wpAny_call (codeAny_call_builtin PySem.F.excAttr_ValueError.ga.plain PySem.F.entry_bexc_ga (@check_slot (model prog w) _ _ ⟨hp, gg, dr, tt + 1, os⟩ "BaseException.__getattribute__" "BaseException" "__getattribute__" (.ref x) [.str "__class__" tt] [] _ (by decide +kernel) (by decide +kernel) isB (PySem.F.args_bexc_ga (.ref x) (.str "__class__" tt)) ?_))
  unfold Builtin.«object.__getattribute__»
  refine wpAny_bind (wpAny_of_eq (a := ((Value.ref x : Value), [Value.str "__class__" tt])) (by first | rfl | (simp only [slotArgs]; rfl)) (wpAny_bind (wpAny_pure (wpAny_bind (T0.at (wpAny_bind (T3.at ?_)))))))
  show wpAny _ _ (holding [Value.builtin "object.__class__"] (call (.builtin "getset_descriptor.__get__") [.builtin "object.__class__", .ref x, .ref D]) >>= ret) _ _ _
  refine wpAny_bind (wpAny_holding (wpAny_call (class_get (s := ⟨hp, gg, dr, tt + 1, os⟩) (ox := ox) (od := od) X I C.hm (wpAny_pure ?_))))
  show wpAny _ _ (handedOut (.ref D)) _ _ _
  rw [handedOut_of (v := .ref D) rfl]
  first
    | exact wpAny_pure (wpAny_pure h)
    | exact wpAny_pure h
    | exact wpAny_pure (wpAny_bind (wpAny_pure (wpAny_pure h)))
theorem kitx_err (C : L2.ExcC K D) : KitX K (.ref x) (.ref D) (fun h => InstAt h x ox D od) where
  ty := fun _ _ _ I => I.type
  it := fun _ _ X _ => by
    obtain ⟨cdD, eD, _⟩ := any_some C.hd
    unfold clsIn at eD
    split at eD
    · rename_i c1 d1 cd1 sl1 ho
      intro A1 Q1 E1 s1 k q
      unfold isType loadHead
      exact wpAny_bind (wpAny_loadPart (k _ _ (X _ _ ho)) (wpAny_pure q))
    · cases eD
  ne := fun h tp dd its n sl X htp => by
    obtain ⟨cdD, eD, _⟩ := any_some C.hd
    refine Bool.eq_false_iff.mpr fun q => ?_
    obtain rfl : D = tp := Value.ref.inj (beq_iff_eq.mp q)
    unfold clsIn at eD
    split at eD
    · rename_i c1 d1 cd1 sl1 ho
      cases (X _ _ ho).symm.trans htp
    · cases eD
  ca := fun X I k => exc_class C X I k
end
open PySem PySem.Spec PyProof.Rows L2
section
variable {X : Cx} {W : Wd} {ξ : Xi} {E : Sg → XK} {a b e o tg : Expr} {es : List Expr} {ga gb go : GE'} {gs : GA'} {pos pos' p2 p apos : Pos} {x : Str}
def fIsiX (ok : Nat → Bool) (tab : Nat → CK → Option Bool) : List D → Stor → R D := fun ds M => match ds with
  | [.exc c _ _, y] => (match ckOf y with
    | some k => if ok c then (match tab c k with
      | some b => .ok (.bl b) M
      | none => .no) else .no
    | _ => .no)
  | _ => .no
/-- an error as the model sees it -/
theorem err_inst {pins : List (Addr × Obj)} {σ : Sg} {H F : Hp} {ρ : List Addr} {s : Shared} {c : Nat} {own : Bool} {l : List D} {v : V} (I : Inv X pins σ H s) (le : Le F H) (ix : Is W F ρ (.exc c own l) v) :
    ∃ q oe od, v = .ref q ∧ PySem.W.InstAt s.heap q oe (W.T c) od ∧ s.heap.get? q = some oe ∧ (∃ fs, oe.data = .fields fs) := by
  simp only [Is] at ix
  obtain ⟨q, dx, rfl, fq, n0, n1⟩ := ix
  obtain ⟨⟨oe, fs, hget, h1, h2, hv⟩, _, _⟩ := I.hok q _ (le _ _ fq)
  cases own with
  | false =>
    obtain ⟨rfl, _⟩ := n0 rfl
    refine ⟨q, oe, none, rfl, ?_, hget, fs, hv⟩
    obtain ⟨oc, od, oda, osl⟩ := oe
    dsimp only at h1 h2 hv
    subst h1 h2 hv
    exact ⟨hget, rfl, rfl, trivial⟩
  | true =>
    obtain ⟨d, fvs, rfl, fd, _, _⟩ := n1 rfl
    obtain ⟨mA, hns, _⟩ := (show ObjOk X.prog X.w H s.heap d (.xd fvs) from I.hok d _ (le _ _ fd))
    obtain ⟨od, ho, _⟩ := lookIn_ns hns
    refine ⟨q, oe, some od, rfl, ?_, hget, fs, hv⟩
    exact ⟨hget, h1, by unfold PySem.W.notCls; rw [hv] <;> rfl, by rw [h2]; exact ho⟩
theorem cg_isiX {ok : Nat → Bool} {tab : Nat → CK → Option Bool} (hK : X.K = W.K) (hc : ExOk W ok) (ht : IsiEOk W tab) : CallG X W E (.builtin "isinstance") (fIsiX ok tab) :=
  fun ξ pins s σ H M F ρ ds vs us Q I rv rp is po => by
    unfold fIsiX at po
    split at po
    · rename_i c own l y
      split at po
      · rename_i k ek
        split at po
        · rename_i hg
          split at po
          · rename_i b hb
            obtain ⟨v, u, rfl, ix, iy⟩ := two_of is
            obtain ⟨q, oe, od, rfl, J, _, _⟩ := err_inst I rp.sub ix
            obtain ⟨u1, u2, rfl, r1, r2⟩ := vals2 rv
            obtain rfl : u1 = Value.ref q := r1
            have e2 : u2 = ckV W k := by
              unfold ckOf at ek
              split at ek
              · cases ek; simp only [Is] at iy; subst iy; exact r2
              · cases ek; simp only [Is] at iy; subst iy; exact r2
              · cases ek
            subst e2
            have kin : W.K.In s.heap := by rw [← hK]; exact I.kIn
            exact PySem.W.kia_one (kitx_err (hc c hg)) kin J (ht c k b hb) (fun z => nomatch z) fun tk => ⟨.bl b, H, I.kept (t' := tk) fun _ _ z => z, rfl, po _ F ρ H Le.rfl' (List.prefix_refl _) rp (flat_blv F ρ b)⟩
          · exact po.elim
        · exact po.elim
      · exact po.elim
    · exact po.elim
/-! ### err.f -/
/-- the field f is the i-th of the error class c -/
structure EflOk (W : Wd) (f : Str) (c i : Nat) : Prop where
  xf : XfC W.K (W.T c)
  no : PySem.W.findIn W.K (.ref (W.T c)) f = some none
  at_ : (W.fn c)[i]? = some f
  nd : (W.fn c).Nodup
def EflsOk (W : Wd) (f : Str) (tab : Nat → Option Nat) : Prop := ∀ c i, tab c = some i → EflOk W f c i
def dEfl (tab : Nat → Option Nat) : D → Stor → R D := fun x M => match x with
  | .exc c true l => (match tab c with
    | some i => (match l[i]? with
      | some d => .ok d M
      | none => .no)
    | none => .no)
  | _ => .no
theorem ge_efl {tab : Nat → Option Nat} {f : Str} (hK : X.K = W.K) (ht : EflsOk W f tab) (he : GE X W E e ga) (hb : attributeBase e f X.env (eval e X.env) = eval e X.env := by rfl) : GE X W E (.Attribute e f pos) (gUn (dEfl tab) ga) := by
  refine ⟨fun pins s σ H Q I ⟨ξ, Γ, M, F, ρ, en, rp, po⟩ => ?_⟩
  refine attr_of hb (thn (he.run pins s σ H _ I ⟨ξ, Γ, M, F, ρ, en, rp, po.bind⟩) ?_)
  rintro u s1 ⟨v, H1, I1, rx, d, M1, F1, ρ1, e1, p1, rp1, ix, po1⟩
  unfold dEfl at po1
  split at po1
  · rename_i c l
    split at po1
    · rename_i i hi
      split at po1
      · rename_i dv hd
        have T := ht c i hi
        simp only [Is] at ix
        obtain ⟨q, dx, rfl, fq, _, n1⟩ := ix
        obtain ⟨d, fvs, rfl, fd, nm, hl⟩ := n1 trivial
        obtain rfl : u = Value.ref q := rx
        obtain ⟨⟨oe, fs, hget, h1, h2, hv⟩, _, _⟩ := I1.hok q _ (rp1.sub _ _ fq)
        obtain ⟨mA, hns, hr⟩ := (show ObjOk X.prog X.w H1 s1.heap d (.xd fvs) from I1.hok d _ (rp1.sub _ _ fd))
        obtain ⟨od, ho, hlk⟩ := lookIn_ns hns
        obtain ⟨y, ey, iy⟩ := hl.get hd
        have il : i < l.length := (List.getElem?_eq_some_iff.mp hd).1
        have hn : (fvs.map (·.1))[i]? = some f := by rw [nm, List.getElem?_take_of_lt il]; exact T.at_
        have lk : fvs.lookup f = some y := look_at (by rw [nm]; exact (List.take_sublist _ _).nodup T.nd) hn ey
        obtain ⟨u, hu, ru⟩ := RelO.some_of (v := y) (o := mA f) (by rw [← lk]; exact hr f)
        have J : PySem.W.InstAt s1.heap q oe (W.T c) (some od) := ⟨hget, h1, by unfold PySem.W.notCls; rw [hv] <;> rfl, by rw [h2]; exact ho⟩
        have kin : W.K.In s1.heap := by rw [← hK]; exact I1.kIn
        exact HandSPX.exc_get kin J T.xf.ga T.xf.gg T.xf.exC (PySem.W.findObj_own T.xf.hdC T.no rfl (by rw [hlk, hu])) (handed_of ru) ⟨y, H1, I1.tok _, ru, po1 y F1 ρ1 H1 Le.rfl' (List.prefix_refl _) rp1 iy⟩
      · exact po1.elim
    · exact po1.elim
  · exact po1.elim
/-! ### an error with fields is made -/
/-- the promise of an error's __init__(self, y): self.f = y -/
def spE1 (C : Addr) (f : Str) : Sp := fun vs H Q _ => ∃ (q : Addr) (y : V), vs = [.ref q, y] ∧ H q = some (exo q C none) ∧ ∀ dx, H dx = none → dx ≠ q → Q .non (upd (upd H dx (exd dx [(f, y)])) q (exo q C (some dx)))
/-- .. of __init__(self, y, z): self.f = y; self.g = z -/
def spE2 (C : Addr) (f g : Str) : Sp := fun vs H Q _ => ∃ (q : Addr) (y z : V), vs = [.ref q, y, z] ∧ H q = some (exo q C none) ∧ ∀ dx, H dx = none → dx ≠ q → Q .non (upd (upd (upd H dx (exd dx [(f, y)])) q (exo q C (some dx))) dx (exd dx [(g, z), (f, y)]))
/-- what is told of an own error whose __init__ stores its arguments -/
structure ExI (K : PySem.W.Frag) (C fI : Addr) (fs : List Str) : Prop where
  oex : OexC K C
  iC : PySem.W.findIn K (.ref C) "__init__" = some (some (.ref fI))
  tI : PySem.W.typeIn K (.ref fI) = some (.type "function")
  nf : ∀ f ∈ fs, PySem.W.findIn K (.ref C) f = some none
def tMk1 (W : Wd) (ξ : Xi) (c : Nat) (F : Hp) (ρ : List Addr) (xs : List D) (M : Stor) (Q : XK) : Prop := ∀ dx F' ρ' H', Le F F' → ρ <+: ρ' → Rp W ξ M F' H' ρ' → XcIs W F' ρ' c (some xs) dx → Q (.ref (W.T c)) dx H'
theorem mk_heap1 {H : Hp} {q dx : Addr} {C : Addr} {o1 : HO} {o2 o3 : HO} (hq : H q = none) (hd : H dx = none) (ne : dx ≠ q) : upd (del (upd (upd (upd H q o1) dx o2) q o3) q) dx (.xd []) = upd H dx (.xd []) := by
  funext b
  by_cases h1 : b = dx
  · subst h1; rw [upd_same, upd_same]
  · rw [upd_ne h1, upd_ne h1]
    by_cases h2 : b = q
    · subst h2; rw [del_same, hq]
    · rw [del_ne h2, upd_ne h2, upd_ne h1, upd_ne h2]
theorem mk_heap {H : Hp} {q dx : Addr} {o1 o2 o3 o4 : HO} (hq : H q = none) (ne : dx ≠ q) : upd (del (upd (upd (upd H q o1) dx o2) q o3) q) dx o4 = upd H dx o4 := by
  funext b
  by_cases h1 : b = dx
  · subst h1; rw [upd_same, upd_same]
  · rw [upd_ne h1, upd_ne h1]
    by_cases h2 : b = q
    · subst h2; rw [del_same, hq]
    · rw [del_ne h2, upd_ne h2, upd_ne h1, upd_ne h2]
theorem mk_heap' {H : Hp} {q dx : Addr} {o1 o2 o3 o4 o5 : HO} (hq : H q = none) (ne : dx ≠ q) : upd (del (upd (upd (upd (upd H q o1) dx o2) q o3) dx o5) q) dx o4 = upd H dx o4 := by
  funext b
  by_cases h1 : b = dx
  · subst h1; rw [upd_same, upd_same]
  · rw [upd_ne h1, upd_ne h1]
    by_cases h2 : b = q
    · subst h2; rw [del_same, hq]
    · rw [del_ne h2, upd_ne h1, upd_ne h2, upd_ne h1, upd_ne h2]
/-- the maker of an error with one field -/
theorem mk1_of {c k : Nat} {fI : Addr} {fd : FuncData} {f : Str} {ps : List Str} (hK : X.K = W.K) (T : ExI W.K (W.T c) fI [f]) (hf : W.fn c = [f]) (F1 : FnOk X.prog X.w W.K X.mg X.base CX0 k fI fd ps (spE1 (W.T c) f)) (hb : Binds W.K fd ps []) (hr : Room (k + 1) X.A) (hg : Gl X x) (hm : X.mg x = some (.ref (W.T c))) (ha : GA X W E [e] gs)
    (hdb : (x == ("__debug__" : Str)) = false := by decide) (he : starEach [e] X.env = (false, eval e X.env) :: starEach [] X.env := by rfl) :
    PMk X (.Call (.Name x p) [e] [] pos) (fun σ H Q => tGA W E gs σ H fun vs H1 => ∃ ξ y M F ρ, Rp W ξ M F H1 ρ ∧ IsL W F ρ [y] vs ∧ tMk1 W ξ c F ρ [y] M Q) := by
  intro pins s σ H Q I h
  have F1' : FnOk X.prog X.w X.K X.mg X.base CX0 k fI fd ps (spE1 (W.T c) f) := by rw [hK]; exact F1
  refine pmk_oex (by rw [hK]; exact T.oex) (by rw [hK]; exact T.iC) (by rw [hK]; exact T.tI) F1' hr (by rw [hK]; exact hb) .nil pass0 hg hm ha hdb he (by rfl) pins s σ H Q I ?_
  obtain ⟨ξ0, Γ, M0, F0, ρ0, en, rp0, po⟩ := h
  refine ⟨ξ0, Γ, M0, F0, ρ0, en, rp0, po.imp ?_⟩
  rintro vs H1 ⟨ξ, y, M, F, ρ, rp, is, q⟩
  obtain ⟨v, rfl, iv⟩ := one_of is
  refine ⟨by simp, fun a na => ⟨a, v, rfl, upd_same, fun dx nd ne => ⟨rfl, dx, [(f, v)], upd_same, ?_, ?_, ?_⟩⟩⟩
  · rw [upd_ne ne, upd_same]
  · rw [upd_ne ne] at nd; exact nd
  · rw [upd_ne ne] at nd
    rw [mk_heap na ne]
    refine q (some dx) (upd F dx (.xd [(f, v)])) ρ _ (Le.new (rp.free nd)) (List.prefix_refl _) (rp.new nd) ⟨dx, _, rfl, upd_same, by rw [hf]; rfl, is.mono (Le.new (rp.free nd)) (List.prefix_refl _)⟩
/-- .. with two fields; what is told of them: the second one first -/
theorem mk2_of {c k : Nat} {fI : Addr} {fd : FuncData} {f g : Str} {ps : List Str} {e2 : Expr} (hK : X.K = W.K) (T : ExI W.K (W.T c) fI [f, g]) (hf : W.fn c = [g, f]) (F1 : FnOk X.prog X.w W.K X.mg X.base CX0 k fI fd ps (spE2 (W.T c) f g)) (hb : Binds W.K fd ps []) (hr : Room (k + 1) X.A) (hg : Gl X x) (hm : X.mg x = some (.ref (W.T c))) (ha : GA X W E [e, e2] gs)
    (hdb : (x == ("__debug__" : Str)) = false := by decide) (he : starEach [e, e2] X.env = (false, eval e X.env) :: starEach [e2] X.env := by rfl) (hpl : (backTo pos (starEach [e2] X.env)).any (·.1) = false := by rfl) :
    PMk X (.Call (.Name x p) [e, e2] [] pos) (fun σ H Q => tGA W E gs σ H fun vs H1 => ∃ ξ y z M F ρ, Rp W ξ M F H1 ρ ∧ IsL W F ρ [y, z] vs ∧ tMk1 W ξ c F ρ [z, y] M Q) := by
  intro pins s σ H Q I h
  have F1' : FnOk X.prog X.w X.K X.mg X.base CX0 k fI fd ps (spE2 (W.T c) f g) := by rw [hK]; exact F1
  refine pmk_oex (by rw [hK]; exact T.oex) (by rw [hK]; exact T.iC) (by rw [hK]; exact T.tI) F1' hr (by rw [hK]; exact hb) .nil pass0 hg hm ha hdb he hpl pins s σ H Q I ?_
  obtain ⟨ξ0, Γ, M0, F0, ρ0, en, rp0, po⟩ := h
  refine ⟨ξ0, Γ, M0, F0, ρ0, en, rp0, po.imp ?_⟩
  rintro vs H1 ⟨ξ, y, z, M, F, ρ, rp, is, q⟩
  obtain ⟨v, u, rfl, iv, iu⟩ := two_of is
  refine ⟨by simp, fun a na => ⟨a, v, u, rfl, upd_same, fun dx nd ne => ⟨rfl, dx, [(g, u), (f, v)], ?_, upd_same, ?_, ?_⟩⟩⟩
  · rw [upd_ne ne.symm, upd_same]
  · rw [upd_ne ne] at nd; exact nd
  · rw [upd_ne ne] at nd
    rw [mk_heap' na ne]
    refine q (some dx) (upd F dx (.xd [(g, u), (f, v)])) ρ _ (Le.new (rp.free nd)) (List.prefix_refl _) (rp.new nd) ⟨dx, _, rfl, upd_same, by rw [hf]; rfl, (IsL.cons iu (IsL.cons iv IsL.nil)).mono (Le.new (rp.free nd)) (List.prefix_refl _)⟩
/-- raise X(e) -/
def gRaise1 (c : Nat) (a : GA') : GS' := fun Γ M => (a Γ M).bindS Γ fun xs M1 => match xs with
  | [y] => .ex c (some [y]) Γ M1
  | _ => .no
/-- raise X(e, e') -/
def gRaise2 (c : Nat) (a : GA') : GS' := fun Γ M => (a Γ M).bindS Γ fun xs M1 => match xs with
  | [y, z] => .ex c (some [z, y]) Γ M1
  | _ => .no
theorem gs_raise1 {c k : Nat} {fI : Addr} {fd : FuncData} {f : Str} {ps : List Str} (hK : X.K = W.K) (T : ExI W.K (W.T c) fI [f]) (hf : W.fn c = [f]) (F1 : FnOk X.prog X.w W.K X.mg X.base CX0 k fI fd ps (spE1 (W.T c) f)) (hb : Binds W.K fd ps []) (hr : Room (k + 1) X.A) (hg : Gl X x) (hm : X.mg x = some (.ref (W.T c))) (hc : X.calm = true) (tk : Tk X E) (ha : GA X W E [e] gs)
    (hdb : (x == ("__debug__" : Str)) = false := by decide) (he : starEach [e] X.env = (false, eval e X.env) :: starEach [] X.env := by rfl) :
    GS X W E (.Raise (some (.Call (.Name x p) [e] [] pos')) none pos) (gRaise1 c gs) :=
  mS (ps_raise hc tk (mk1_of hK T hf F1 hb hr hg hm ha hdb he)) fun N σ H ⟨ξ, Γ, M, F, ρ, en, rp, po⟩ => ⟨ξ, Γ, M, F, ρ, en, rp, (Po.bindS en po).imp (by
    rintro vs H1 ⟨xs, M1, F1, ρ1, e1, p1, rp1, is, po1⟩
    split at po1
    · rename_i y
      exact ⟨ξ, y, M1, F1, ρ1, rp1, is, fun dx F2 ρ2 H2 le2 p2 rp2 xc => po1 σ dx F2 ρ2 H2 le2 p2 rp2 (en.mono (e1.tr le2) (p1.trans p2)) xc⟩
    · exact po1.elim)⟩
theorem gs_raise2 {c k : Nat} {fI : Addr} {fd : FuncData} {f g : Str} {ps : List Str} {e2 : Expr} (hK : X.K = W.K) (T : ExI W.K (W.T c) fI [f, g]) (hf : W.fn c = [g, f]) (F1 : FnOk X.prog X.w W.K X.mg X.base CX0 k fI fd ps (spE2 (W.T c) f g)) (hb : Binds W.K fd ps []) (hr : Room (k + 1) X.A) (hg : Gl X x) (hm : X.mg x = some (.ref (W.T c))) (hc : X.calm = true) (tk : Tk X E) (ha : GA X W E [e, e2] gs)
    (hdb : (x == ("__debug__" : Str)) = false := by decide) (he : starEach [e, e2] X.env = (false, eval e X.env) :: starEach [e2] X.env := by rfl) (hpl : (backTo pos' (starEach [e2] X.env)).any (·.1) = false := by rfl) :
    GS X W E (.Raise (some (.Call (.Name x p) [e, e2] [] pos')) none pos) (gRaise2 c gs) :=
  mS (ps_raise hc tk (mk2_of hK T hf F1 hb hr hg hm ha hdb he hpl)) fun N σ H ⟨ξ, Γ, M, F, ρ, en, rp, po⟩ => ⟨ξ, Γ, M, F, ρ, en, rp, (Po.bindS en po).imp (by
    rintro vs H1 ⟨xs, M1, F1, ρ1, e1, p1, rp1, is, po1⟩
    split at po1
    · rename_i y z
      exact ⟨ξ, y, z, M1, F1, ρ1, rp1, is, fun dx F2 ρ2 H2 le2 p2 rp2 xc => po1 σ dx F2 ρ2 H2 le2 p2 rp2 (en.mono (e1.tr le2) (p1.trans p2)) xc⟩
    · exact po1.elim)⟩
/-! ### an error as a value -/
/-- the error is kept: from now on it is known -/
theorem mk_known {pins : List (Addr × Obj)} {σ : Sg} {Q : XK} {u : Value} {s : Shared} (h : MkP X pins σ Q u s) : ∃ q cls d H', u = .ref q ∧ H' q = none ∧ Q cls d H' ∧ Inv X pins σ (upd H' q (ExcO q cls d)) s := by
  obtain ⟨q, oe, vs, sI, H', cls, d, rfl, J, k, hne, hq, hz, hd, _, na, os, ag, _, z⟩ := h
  refine ⟨q, cls, d, H', rfl, na, z, ?_⟩
  have L := J.laidN (t' := s.toks) (o := ExcO q cls d) k hne na (excO_ok hq hz hd)
  obtain ⟨hp, gg, dr, tk, o⟩ := s
  obtain ⟨hpI, ggI, drI, tkI, oI⟩ := sI
  dsimp only at os
  subst os
  exact ⟨L.ok, L.os, ag, L.base, L.loc, L.cell, L.free, L.freeC, L.pin, L.hok, L.len⟩
def gErr1 (c : Nat) (a : GA') : GE' := fun Γ M => (a Γ M).bind fun xs M1 => match xs with
  | [y] => .ok (.exc c true [y]) M1
  | _ => .no
def gErr2 (c : Nat) (a : GA') : GE' := fun Γ M => (a Γ M).bind fun xs M1 => match xs with
  | [y, z] => .ok (.exc c true [z, y]) M1
  | _ => .no
theorem ge_err1 {c k : Nat} {fI : Addr} {fd : FuncData} {f : Str} {ps : List Str} (hK : X.K = W.K) (T : ExI W.K (W.T c) fI [f]) (hf : W.fn c = [f]) (F1 : FnOk X.prog X.w W.K X.mg X.base CX0 k fI fd ps (spE1 (W.T c) f)) (hb : Binds W.K fd ps []) (hr : Room (k + 1) X.A) (hg : Gl X x) (hm : X.mg x = some (.ref (W.T c))) (ha : GA X W E [e] gs)
    (hdb : (x == ("__debug__" : Str)) = false := by decide) (he : starEach [e] X.env = (false, eval e X.env) :: starEach [] X.env := by rfl) :
    GE X W E (.Call (.Name x p) [e] [] pos) (gErr1 c gs) := by
  refine ⟨fun pins s σ H Q I ⟨ξ, Γ, M, F, ρ, en, rp, po⟩ => ?_⟩
  refine thn (mk1_of hK T hf F1 hb hr hg hm ha hdb he pins s σ H (fun cls d H' => ∀ q, H' q = none → Q (.ref q) (upd H' q (ExcO q cls d))) I ⟨ξ, Γ, M, F, ρ, en, rp, po.bind.imp ?_⟩) ?_
  · rintro vs H1 ⟨xs, M1, F1, ρ1, e1, p1, rp1, is, po1⟩
    split at po1
    · rename_i y
      refine ⟨ξ, y, M1, F1, ρ1, rp1, is, fun dx F2 ρ2 H2 le2 p2 rp2 xc q nq => ?_⟩
      refine po1 (.ref q) (upd F2 q (ExcO q (.ref (W.T c)) dx)) ρ2 _ (le2.tr (Le.new (rp2.free nq))) p2 (rp2.new nq) ?_
      obtain ⟨d, fvs, rfl, fd, nm, hl⟩ := xc
      simp only [Is]
      refine ⟨q, some d, rfl, upd_same, fun z => (by cases z), fun _ => ⟨d, fvs, rfl, Le.new (rp2.free nq) _ _ fd, nm, hl.mono (Le.new (rp2.free nq)) (List.prefix_refl _)⟩⟩
    · exact po1.elim
  · intro u s1 h
    obtain ⟨q, cls, d, H', rfl, na, z, J⟩ := mk_known h
    exact ⟨.ref q, _, J, rfl, z q na⟩
theorem ge_err2 {c k : Nat} {fI : Addr} {fd : FuncData} {f g : Str} {ps : List Str} {e2 : Expr} (hK : X.K = W.K) (T : ExI W.K (W.T c) fI [f, g]) (hf : W.fn c = [g, f]) (F1 : FnOk X.prog X.w W.K X.mg X.base CX0 k fI fd ps (spE2 (W.T c) f g)) (hb : Binds W.K fd ps []) (hr : Room (k + 1) X.A) (hg : Gl X x) (hm : X.mg x = some (.ref (W.T c))) (ha : GA X W E [e, e2] gs)
    (hdb : (x == ("__debug__" : Str)) = false := by decide) (he : starEach [e, e2] X.env = (false, eval e X.env) :: starEach [e2] X.env := by rfl) (hpl : (backTo pos (starEach [e2] X.env)).any (·.1) = false := by rfl) :
    GE X W E (.Call (.Name x p) [e, e2] [] pos) (gErr2 c gs) := by
  refine ⟨fun pins s σ H Q I ⟨ξ, Γ, M, F, ρ, en, rp, po⟩ => ?_⟩
  refine thn (mk2_of hK T hf F1 hb hr hg hm ha hdb he hpl pins s σ H (fun cls d H' => ∀ q, H' q = none → Q (.ref q) (upd H' q (ExcO q cls d))) I ⟨ξ, Γ, M, F, ρ, en, rp, po.bind.imp ?_⟩) ?_
  · rintro vs H1 ⟨xs, M1, F1, ρ1, e1, p1, rp1, is, po1⟩
    split at po1
    · rename_i y z
      refine ⟨ξ, y, z, M1, F1, ρ1, rp1, is, fun dx F2 ρ2 H2 le2 p2 rp2 xc q nq => ?_⟩
      refine po1 (.ref q) (upd F2 q (ExcO q (.ref (W.T c)) dx)) ρ2 _ (le2.tr (Le.new (rp2.free nq))) p2 (rp2.new nq) ?_
      obtain ⟨d, fvs, rfl, fd, nm, hl⟩ := xc
      simp only [Is]
      refine ⟨q, some d, rfl, upd_same, fun z => (by cases z), fun _ => ⟨d, fvs, rfl, Le.new (rp2.free nq) _ _ fd, nm, hl.mono (Le.new (rp2.free nq)) (List.prefix_refl _)⟩⟩
    · exact po1.elim
  · intro u s1 h
    obtain ⟨q, cls, d, H', rfl, na, z, J⟩ := mk_known h
    exact ⟨.ref q, _, J, rfl, z q na⟩
/-- X(), without fields -/
def gErr0 (c : Nat) : GE' := fun _ M => .ok (.exc c false []) M
theorem ge_err0 {c : Nat} (hK : X.K = W.K) (T : Ex0 W.K (W.T c)) (gC : X.mg x = some (.ref (W.T c))) (hg : Gl X x) (hdb : (x == ("__debug__" : Str)) = false := by decide) : GE X W E (.Call (.Name x p) [] [] pos) (gErr0 c) := by
  refine ⟨fun pins s σ H Q I ⟨ξ, Γ, M, F, ρ, en, rp, po⟩ => ?_⟩
  refine thn (pmk_none PySem.F.excBase_ValueError (by rw [hK]; exact T.q) gC (by rw [hK]; exact T.kC) (raises_own (by rw [hK]; exact T.sb) (by rw [hK]; exact T.ty)) hg hdb pins s σ H (fun cls d H' => ∀ q, H' q = none → Q (.ref q) (upd H' q (ExcO q cls d))) I fun q nq => ?_) ?_
  · refine po (.ref q) (upd F q (ExcO q (.ref (W.T c)) none)) ρ _ (Le.new (rp.free nq)) (List.prefix_refl _) (rp.new nq) ?_
    simp only [Is]
    exact ⟨q, none, rfl, upd_same, fun _ => ⟨rfl, trivial⟩, fun z => by cases z⟩
  · intro u s1 h
    obtain ⟨q, cls, d, H', rfl, na, z, J⟩ := mk_known h
    exact ⟨.ref q, _, J, rfl, z q na⟩
end
/-! ### facts as truths -/
def oexB (K : PySem.W.Frag) (C : Addr) : Bool := match K.lookup C with
  | some ⟨.type "type", _, .cls cd, sl⟩ => (match cd.mro, sl.toList with
    | .ref C1 :: bm, [_, _, _, _, some (.builtin n), _] => C1 == C && (n == "ValueError.__new__" && (!cd.hasDel && (cd.hasDict && PySem.HandSPX.refsVE bm)))
    | _, _ => false)
  | _ => false
theorem oexB_ok {K : PySem.W.Frag} {C : Addr} (h : oexB K C = true) : ∃ nm q N bs bm sn sub ab col dd k0 k1 k2 k3 k5, K.lookup C = some (excClassObj nm q C N bs bm true sn sub ab col dd k0 k1 k2 k3 k5 "ValueError.__new__") ∧ PySem.HandSPX.refsVE bm = true := by
  unfold oexB at h
  split at h
  · rename_i dd cd sl ho
    split at h
    · rename_i C1 bm k0 k1 k2 k3 n k5 em es
      obtain ⟨h1, h⟩ := Bool.and_eq_true_iff.mp h
      obtain ⟨h2, h⟩ := Bool.and_eq_true_iff.mp h
      obtain ⟨h3, h⟩ := Bool.and_eq_true_iff.mp h
      obtain ⟨h4, h5⟩ := Bool.and_eq_true_iff.mp h
      obtain rfl := beq_iff_eq.mp h1
      obtain rfl := beq_iff_eq.mp h2
      obtain ⟨nm, bs, mro, ns, qn, hd, sn, sub, ab, col, dl⟩ := cd
      dsimp only at em h3 h4
      have e3 : dl = false := by simpa using h3
      subst em e3 h4
      obtain ⟨l⟩ := sl
      dsimp only at es
      subst es
      exact ⟨nm, qn, ns, bs, bm, sn, sub, ab, col, dd, k0, k1, k2, k3, k5, ho, h5⟩
    · cases h
  · cases h
open He in
def fxExI (x : Str) (fs : List Str) : Fx := fun K => oexB K (ga K x) && (eqO (PySem.W.findIn K (.ref (ga K x)) "__setattr__") (some (some (.builtin "object.__setattr__"))) && (decide (PySem.W.subIn K (.ref (ga K x)) (.type "BaseException") = some true) &&
  (decide (PySem.W.typeIn K (.ref (ga K x)) = some (.type "type")) && (PySem.W.keepIn K (.ref (ga K x)) && (eqO (PySem.W.findIn K (.ref (ga K x)) "__init__") (some (some (.ref (ma K (ga K x) "__init__")))) &&
  (decide (PySem.W.typeIn K (.ref (ma K (ga K x) "__init__")) = some (.type "function")) && fs.all fun f => eqO (PySem.W.findIn K (.ref (ga K x)) f) (some none)))))))
theorem exI_of {K : PySem.W.Frag} {x : Str} {fs : List Str} (h : fxExI x fs K = true) : ExI K (He.ga K x) (He.ma K (He.ga K x) "__init__") fs := by
  obtain ⟨h1, h⟩ := He.ba h
  obtain ⟨h2, h⟩ := He.ba h
  obtain ⟨h3, h⟩ := He.ba h
  obtain ⟨h4, h⟩ := He.ba h
  obtain ⟨h5, h⟩ := He.ba h
  obtain ⟨h6, h⟩ := He.ba h
  obtain ⟨h7, h8⟩ := He.ba h
  exact ⟨⟨oexB_ok h1, He.eqO_ok h2, of_decide_eq_true h3, of_decide_eq_true h4, h5⟩, He.eqO_ok h6, of_decide_eq_true h7, fun f hf => He.eqO_ok (List.all_eq_true.mp h8 f hf)⟩
def fxXf (x : Str) : Fx := fun K => xfB K (He.ga K x)
theorem xf_of {K : PySem.W.Frag} {x : Str} (h : fxXf x K = true) : XfC K (He.ga K x) := xfB_ok h
def fxNo (x f : Str) : Fx := fun K => He.eqO (PySem.W.findIn K (.ref (He.ga K x)) f) (some none)
theorem no_of {K : PySem.W.Frag} {x f : Str} (h : fxNo x f K = true) : PySem.W.findIn K (.ref (He.ga K x)) f = some none := He.eqO_ok h
end G

namespace G
open PySem PySem.Spec PyProof.Rows L2
/-! ### calls by keywords alone -/
/-- the values by their places -/
def pmI {α : Type} (ix : List Nat) (l : List α) : List α := ix.filterMap fun i => l[i]?
theorem IsL.pm {W : Wd} {F : Hp} {ρ : List Addr} {ds : List D} {vs : List V} (h : IsL W F ρ ds vs) : ∀ ix : List Nat, IsL W F ρ (pmI ix ds) (pmI ix vs)
  | [] => IsL.nil
  | i :: ix => by
    have t := IsL.pm h ix
    unfold pmI at t ⊢
    cases e : ds[i]? with
    | none =>
      have e2 : vs[i]? = none := by
        rw [List.getElem?_eq_none_iff] at e ⊢
        rw [h.len]; exact e
      rw [List.filterMap_cons_none e, List.filterMap_cons_none e2]; exact t
    | some d =>
      obtain ⟨v, e2, is⟩ := h.get e
      rw [List.filterMap_cons_some e, List.filterMap_cons_some e2]
      exact IsL.cons is t
theorem vals_pm {vs : List V} {us : List Value} (h : Vals vs us) : ∀ ix : List Nat, Vals (pmI ix vs) (pmI ix us) := by
  have get : ∀ {vs : List V} {us : List Value} (i : Nat), Vals vs us → (vs[i]? = none ∧ us[i]? = none) ∨ ∃ v u, vs[i]? = some v ∧ us[i]? = some u ∧ RelV v u := by
    intro vs us i h
    induction h generalizing i with
    | nil => exact .inl ⟨by simp, by simp⟩
    | cons r t ih =>
      cases i with
      | zero => exact .inr ⟨_, _, by simp, by simp, r⟩
      | succ i => simpa using ih i
  intro ix
  induction ix with
  | nil => exact .nil
  | cons i ix ih =>
    unfold pmI at ih ⊢
    rcases get i h with ⟨e1, e2⟩ | ⟨v, u, e1, e2, r⟩
    · rw [List.filterMap_cons_none e1, List.filterMap_cons_none e2]; exact ih
    · rw [List.filterMap_cons_some e1, List.filterMap_cons_some e2]; exact .cons r ih
structure FnKw (P : Program) (w : World) (W : Wd) (mg : Str → Option Value) (base : Heap) (k : Nat) (f : Addr) (ps : List Str) (n : Nat) (ks : List Str) (ix : List Nat) (g : List D → Stor → R D) : Prop where
  ex : ∃ fd, FnG P w W mg base k f fd ps g ∧ ∀ (s : Shared) (us ws : List Value), W.K.In s.heap → us.length = n → ws.length = ks.length → BindsTo s fd ⟨us, ks.zip ws⟩ (ps.zip (pmI ix (us ++ ws)))
  kp : PySem.W.keepIn W.K (.ref f) = true
section
variable {X : Cx} {W : Wd} {ξ : Xi} {E : Sg → XK} {a b e o tg : Expr} {es : List Expr} {ga gb go ge : GE'} {gs : GA'} {pos pos' p2 p apos kpos : Pos} {x : Str} {kws : List Keyword} {ks : List Str}
def CallGK (X : Cx) (W : Wd) (E : Sg → XK) (f : Value) (ks : List Str) (g : List D → Stor → R D) : Prop :=
  ∀ (ξ : Xi) (pins : List (Addr × Obj)) (s : Shared) (σ : Sg) (H : Hp) (M : Stor) (F : Hp) (ρ : List Addr) (ds : List D) (vs : List V) (us : List Value) (Q : VK),
    Inv X pins σ H s → Vals vs us → us.length = ks.length → Rp W ξ M F H ρ → IsL W F ρ ds vs → Po W ξ (Is W) F ρ (g ds M) Q (E σ) →
    wpAny (model X.prog X.w) X.A (call f [] (ks.zip us)) (EP X pins σ Q) X.xe s
theorem cg_kw {k : Nat} {f : Addr} {ps : List Str} {ix : List Nat} {g : List D → Stor → R D} (h : FnKw X.prog X.w W X.mg X.base k f ps 0 ks ix g) (hK : X.K = W.K) (hr : Room k X.A) (gd : X.A.guards = some []) (hx : Pass X E) :
    CallGK X W E (.ref f) ks (fun l M => g (pmI ix l) M) := by
  intro ξ pins s σ H M F ρ ds vs us Q I r hl rp is po
  obtain ⟨fd, FG, hb⟩ := h.ex
  have e0 := I.env0
  rw [hK] at e0
  have bt := hb s [] us (by rw [← hK]; exact I.kIn) rfl hl
  have run := FG.run X.A X.stack s H ⟨[], ks.zip us⟩ (pmI ix us) (pmI ix vs) Q (E σ) hr gd e0 (by simpa using bt) (vals_pm r ix) ⟨ξ, pmI ix ds, M, F, ρ, is.pm ix, rp, po⟩
  refine wpAny_call (codeAny_mono run fun res s' out => ?_)
  cases res with
  | error er => exact hx σ pins H s er s' I out
  | ok fl =>
    cases fl with
    | ret u => exact I.after out
    | next => exact out.elim
    | brk => exact out.elim
    | cont => exact out.elim
/-- C(k = e, ..) -/
noncomputable def gMakeK (c : Nat) (ix : List Nat) (g : List D → Stor → R D) : List D → Stor → R D := fun xs M => frz M (gMakeM c (fun ys N => g (pmI ix ys) N) xs M)
theorem cg_makeK {k c : Nat} {f : Addr} {ps : List Str} {ix : List Nat} {g : List D → Stor → R D} (MK : Mk X.K (W.T c) f) (h : FnKw X.prog X.w W X.mg X.base k f ps 1 ks ix g) (hK : X.K = W.K) (hr : Room (k + 1) X.A) (gd : X.A.guards = some []) (hx : Pass X E) :
    CallGK X W E (.ref (W.T c)) ks (gMakeK c ix g) := by
  intro ξ pins s σ H M F' ρ ds vs us Q I r hlk rp is po0
  have po := Po.frz rp po0
  obtain ⟨fd, FG, hb⟩ := h.ex
  have nx := I.hok.fresh (a := s.heap.objs.size + 1) (Nat.le_succ _)
  have ndx := I.hok.fresh (a := s.heap.objs.size) (Nat.le_refl _)
  have hne : s.heap.objs.size + 1 ≠ s.heap.objs.size := Nat.succ_ne_self _
  have I2 := Inv.made (C := W.T c) I
  have r2 : Vals (V.ref (s.heap.objs.size + 1) :: vs) (Value.ref (s.heap.objs.size + 1) :: us) := .cons rfl r
  have rp1 : Rp W ξ M F' (upd H s.heap.objs.size (.own (s.heap.objs.size + 1))) ρ := rp.newH ndx
  have nx1 : (upd H s.heap.objs.size (.own (s.heap.objs.size + 1))) (s.heap.objs.size + 1) = none := by rw [upd_ne hne]; exact nx
  have rp2 := rp1.mut (m := .ins c []) (o := .ins (W.T c) s.heap.objs.size []) nx1 ⟨s.heap.objs.size, [], rfl, by simp, IsL.nil⟩
  have pr : ρ <+: ρ ++ [s.heap.objs.size + 1] := List.prefix_append _ _
  have isx : Is W F' (ρ ++ [s.heap.objs.size + 1]) (.ref M.length) (.ref (s.heap.objs.size + 1)) := by
    simp only [Is]
    exact ⟨_, rfl, by rw [List.getElem?_append_right (by rw [rp.len]; exact Nat.le_refl _), rp.len]; simp⟩
  have hq : spG W g (pmI ix (V.ref (s.heap.objs.size + 1) :: vs)) (upd (upd H s.heap.objs.size (.own (s.heap.objs.size + 1))) (s.heap.objs.size + 1) (.ins (W.T c) s.heap.objs.size []))
      (fun v H2 => v = .non ∧ Q (.ref (s.heap.objs.size + 1)) H2) (E σ) := by
    refine ⟨ξ, pmI ix (.ref M.length :: ds), _, F', _, (IsL.cons isx (is.mono Le.rfl' pr)).pm ix, rp2, ?_⟩
    refine (Po.bind (rel := Is W) (Po.mono po Le.rfl' pr)).imp ?_
    rintro v H2 ⟨d, M2, F2, ρ2, le2, p2, rp3, isd, po2⟩
    cases d with
    | non =>
      simp only [Is] at isd; subst isd
      exact ⟨rfl, po2 _ F2 ρ2 H2 Le.rfl' (List.prefix_refl _) rp3 (isx.mono le2 p2)⟩
    | _ => exact po2.elim
  have e0 := I2.env0.make (W.T c) [] (ks.zip us)
  rw [hK] at e0
  have bt := hb { s with heap := (s.heap.push PySem.W.emptyDict).push (PySem.W.instObj (W.T c) s.heap.objs.size) } [Value.ref (s.heap.objs.size + 1)] us (by rw [← hK]; exact I2.kIn) rfl hlk
  have run := FG.run _ X.stack _ _ ⟨[Value.ref (s.heap.objs.size + 1)], ks.zip us⟩ _ _ _ (E σ) (hr.make (W.T c) [] (ks.zip us)) (by rw [under_guards]; exact gd) e0 bt (vals_pm r2 ix) hq
  refine wpAny_call (make_map (f := f) I.kIn MK.makes MK.init (beq_iff_eq.mp MK.fn) (codeAny_mono run fun res s' hq' => ?_))
  cases res with
  | error er => exact hx σ pins _ _ er s' I2 hq'
  | ok fl =>
    cases fl with
    | ret u =>
      obtain ⟨v, H', I3, rv, ev, q3⟩ := I2.after hq'
      subst ev
      exact ⟨rv, ⟨V.ref (s.heap.objs.size + 1), H', I3, rfl, q3⟩⟩
    | next => exact False.elim hq'
    | brk => exact False.elim hq'
    | cont => exact False.elim hq'
/-- the values of the keywords, from the left -/
abbrev GK (X : Cx) (W : Wd) (E : Sg → XK) (kws : List Keyword) (g : GA') : Prop := PK X kws (tGA W E g)
theorem mK {t t' : TA} (h : PK X kws t) (k : ∀ σ H Q, t' σ H Q → t σ H Q) : PK X kws t' := ⟨fun pos pins s σ H Q I z => h.run pos pins s σ H Q I (k σ H Q z)⟩
theorem gk_nil : GK X W E [] gNil := mK pk_nil fun σ H Q ⟨ξ, Γ, M, F, ρ, en, rp, po⟩ => po [] F ρ H Le.rfl' (List.prefix_refl _) rp IsL.nil
theorem gk_cons {kn : Str} (he : GE X W E e ge) (hk : GK X W E kws gs) : GK X W E (⟨some kn, e, kpos⟩ :: kws) (gCons ge gs) :=
  mK (pk_cons he hk) fun σ H Q ⟨ξ, Γ, M, F, ρ, en, rp, po⟩ => ⟨ξ, Γ, M, F, ρ, en, rp, po.bind.imp (by
    rintro v H1 ⟨x, M1, F1, ρ1, e1, p1, rp1, ix, po1⟩
    refine ⟨ξ, Γ, M1, F1, ρ1, en.mono e1 p1, rp1, po1.bind.imp ?_⟩
    rintro vs H2 ⟨xs, M2, F2, ρ2, e2, p2, rp2, ixs, po2⟩
    exact po2 _ F2 ρ2 H2 Le.rfl' (List.prefix_refl _) rp2 (IsL.cons (ix.mono e2 p2) ixs))⟩
/-- f(k = e, ..), C(k = e, ..) by a module's name -/
def gCallK (n : Nat) (g : List D → Stor → R D) (a : GA') : GE' := fun Γ M => (a Γ M).bind fun xs M1 => if xs.length = n then g xs M1 else .no
theorem ge_callK {f : Addr} {g : List D → Stor → R D} (hc : CallGK X W E (.ref f) ks g) (hg : Gl X x) (hm : X.mg x = some (.ref f)) (hk : PySem.W.keepIn X.K (.ref f) = true) (hkw : GK X W E kws gs)
    (hall : (backToKw pos (keywordEach kws X.env)).all (·.1.isSome) = true := by rfl) (hks : (backToKw pos (keywordEach kws X.env)).filterMap (·.1) = ks := by rfl)
    (hpl : ((backTo pos (starEach [] X.env)).any (·.1) || (backToKw pos (keywordEach kws X.env)).any (·.1.isNone)) = false := by rfl) (hdb : (x == ("__debug__" : Str)) = false := by decide) :
    GE X W E (.Call (.Name x p) [] kws pos) (gCallK ks.length g gs) := by
  refine ⟨fun pins s σ H Q I ⟨ξ, Γ, M, F, ρ, en, rp, po⟩ => ?_⟩
  refine wpAny_Call_Name_kw (ld_glob I hg hm ?_ hdb)
  refine PySem.W.callWith_KW0 (first := []) (h₀ := X.base) I.ok.mod.kin hk hall (thn (hkw.run pos pins s σ H _ I ⟨ξ, Γ, M, F, ρ, en, rp, po.bind⟩) ?_) hpl
  rintro us s1 ⟨vs, H1, I1, r, ds, M1, F1, ρ1, e1, p1, rp1, is, po1⟩
  refine ⟨I1.kIn, ?_⟩
  rw [hks]
  split at po1
  · rename_i hl
    exact hc ξ pins s1 σ H1 M1 F1 ρ1 ds vs us Q I1 r (by rw [← r.length, is.len]; exact hl) rp1 is po1
  · exact po1.elim
/-- C.m(k = e, ..), m a staticmethod -/
theorem ge_smethK {m : Str} {c : Nat} {f : Addr} {g : List D → Stor → R D} {pl : Sem Bool} (hc : CallGK X W E (.ref f) ks g) (k : SMet X.K (W.T c) m f) (ho : GE X W E o (gC (.cls c))) (hkw : GK X W E kws gs)
    (hall : (backToKw pos (keywordEach kws X.env)).all (·.1.isSome) = true := by rfl) (hks : (backToKw pos (keywordEach kws X.env)).filterMap (·.1) = ks := by rfl)
    (hpl : ((backTo pos (starEach [] X.env)).any (·.1) || (backToKw pos (keywordEach kws X.env)).any (·.1.isNone)) = false := by rfl)
    (ht : eval (.Call (.Attribute o m apos) [] kws pos) X.env = (do
      let ov ← eval o X.env
      standAt apos.atName
      let (f, first) ← holding [ov] (getMethod ov m pl)
      callWith pos f first (backTo pos (starEach [] X.env)) (backToKw pos (keywordEach kws X.env))) := by rfl) : GE X W E (.Call (.Attribute o m apos) [] kws pos) (gCallK ks.length g gs) := by
  refine ⟨fun pins s σ H Q I ⟨ξ, Γ, M, F, ρ, en, rp, po⟩ => ?_⟩
  refine PySem.W.methodCall_KW (pl := pl) (thn (ho.run pins s σ H (fun v H1 => v = .ref (W.T c) ∧ ∃ F1 ρ1, Le F F1 ∧ ρ <+: ρ1 ∧ Rp W ξ M F1 H1 ρ1) I ⟨ξ, Γ, M, F, ρ, en, rp, fun v F1 ρ1 H1 le pr rp1 is => ⟨by simpa only [Is] using is, F1, ρ1, le, pr, rp1⟩⟩) ?_) ht
  rintro u s1 ⟨v, H1, I1, r1, rfl, F1, ρ1, le, pr, rp1⟩
  cases r1
  refine smet_get I1 k ?_
  have I2 := I1.tok (s1.toks + 1)
  refine PySem.W.callWith_KW0 (first := []) (h₀ := X.base) I.ok.mod.kin k.kp hall (thn (hkw.run pos pins _ σ H1 _ I2 ⟨ξ, Γ, M, F1, ρ1, en.mono le pr, rp1, (po.mono le pr).bind⟩) ?_) hpl
  rintro us s2 ⟨vs, H2, I3, r, ds, M2, F2, ρ2, e2, p2, rp2, is, po2⟩
  refine ⟨I3.kIn, ?_⟩
  rw [hks]
  split at po2
  · rename_i hl
    exact hc ξ pins s2 σ H2 M2 F2 ρ2 ds vs us Q I3 r (by rw [← r.length, is.len]; exact hl) rp2 is po2
  · exact po2.elim
/-- the first that says something -/
theorem GE.or (h : GE X W E e ga) (h' : GE X W E e gb) : GE X W E e (fun Γ M => orR (ga Γ M) (gb Γ M)) :=
  ⟨fun pins s σ H Q I ⟨ξ, Γ, M, F, ρ, en, rp, po⟩ => by
    cases z : ga Γ M with
    | no => simp only [z, orR_no] at po; exact h'.run pins s σ H Q I ⟨ξ, Γ, M, F, ρ, en, rp, po⟩
    | ok d M1 => simp only [z, orR_ok] at po; exact h.run pins s σ H Q I ⟨ξ, Γ, M, F, ρ, en, rp, by rw [z]; exact po⟩
    | ex c fs M1 => simp only [z, orR_ex] at po; exact h.run pins s σ H Q I ⟨ξ, Γ, M, F, ρ, en, rp, by rw [z]; exact po⟩⟩
end
end G

namespace G
open PySem PySem.Spec PyProof.Rows L2
/-! ### str(x), repr(x), bool(x), {x}, truth, properties of own things -/
def strOnly (r : R D) : R D := match r with
  | .ok (.str y) M => .ok (.str y) M
  | .ex c fs M => .ex c fs M
  | _ => .no
def blOnly (r : R D) : R D := match r with
  | .ok (.bl y) M => .ok (.bl y) M
  | .ex c fs M => .ex c fs M
  | _ => .no
section
variable {X : Cx} {W : Wd} {ξ : Xi} {E : Sg → XK} {a b e o tg : Expr} {es : List Expr} {ga gb go ge : GE'} {gs : GA'} {pos pos' p2 p apos kpos : Pos} {x : Str}
theorem po_str {F : Hp} {ρ : List Addr} {r : R D} {Q : VK} {Z : XK} (h : Po W ξ (Is W) F ρ (strOnly r) Q Z) : Po W ξ (Is W) F ρ r (fun v H => ∃ y, v = .str y ∧ Q v H) Z := by
  unfold strOnly at h
  split at h
  · exact fun v F' ρ' H' le pr rp is => ⟨_, by simpa only [Is] using is, h v F' ρ' H' le pr rp is⟩
  · exact h
  · exact h.elim
theorem po_bl {F : Hp} {ρ : List Addr} {r : R D} {Q : VK} {Z : XK} (h : Po W ξ (Is W) F ρ (blOnly r) Q Z) : Po W ξ (Is W) F ρ r (fun v H => ∃ y, v = .bl y ∧ Q v H) Z := by
  unfold blOnly at h
  split at h
  · exact fun v F' ρ' H' le pr rp is => ⟨_, by simpa only [Is] using is, h v F' ρ' H' le pr rp is⟩
  · exact h
  · exact h.elim
theorem own1_ok {c : Nat} {g : List D → Stor → R D} {M : Stor} {F H : Hp} {ρ : List Addr} {d : D} {v : V} {Q : VK} {Z : XK} (rp : Rp W ξ M F H ρ) (ix : Is W F ρ d v) (po : Po W ξ (Is W) F ρ (own1 c g d M) Q Z) :
    ∃ q dx fvs, v = .ref q ∧ H q = some (.ins (W.T c) dx fvs) ∧ Po W ξ (Is W) F ρ (g [d] M) Q Z := by
  unfold own1 at po
  split at po
  · rename_i c1 l ex
    split at po
    · rename_i hc
      subst hc
      obtain ⟨q, dx, fvs, rfl, hq, _, _⟩ := insOf_ok rp ix ex
      exact ⟨q, dx, fvs, rfl, hq, po⟩
    · exact po.elim
  · exact po.elim
theorem back_str {pins : List (Addr × Obj)} {σ : Sg} {Q : VK} {u : Value} {s' : Shared} (h : EP X pins σ (fun v H => ∃ y, v = .str y ∧ Q v H) u s') : PySem.W.StrBack (EP X pins σ Q) u s' := by
  obtain ⟨v, H', I, r, y, rfl, q⟩ := h
  obtain ⟨t, rfl⟩ := r
  exact ⟨.str y, H', I, ⟨t, rfl⟩, q⟩
def fOwnS (c : Nat) (g : List D → Stor → R D) : List D → Stor → R D := fun ds M => match ds with
  | [x] => own1 c (fun l N => strOnly (g l N)) x M
  | _ => .no
def fOwnB (c : Nat) (g : List D → Stor → R D) : List D → Stor → R D := fun ds M => match ds with
  | [x] => own1 c (fun l N => blOnly (g l N)) x M
  | _ => .no
theorem EP.out1 {pins : List (Addr × Obj)} {σ : Sg} {Q : VK} {u : Value} {s : Shared} (h : EP (Cx.in1 X) pins σ Q u s) : EP X pins σ Q u s := by
  obtain ⟨v, H', I, r, q⟩ := h
  exact ⟨v, H', inv_out1 I, r, q⟩
theorem cg_strO {c : Nat} {f : Addr} {g : List D → Stor → R D} (hu : X.A.in1.in1.units < cLine) (hs : PySem.W.findIn X.K (.ref (W.T c)) "__str__" = some (some (.ref f))) (hf : PySem.W.isFn X.K (.ref f) = true) (hg : CallG (Cx.in1 (Cx.in1 X)) W E (.ref f) g) : CallG X W E (.type "str") (fOwnS c g) :=
  fun ξ pins s σ H M F ρ ds vs us Q I rv rp is po => by
    unfold fOwnS at po
    split at po
    · rename_i d
      obtain ⟨v, rfl, ix⟩ := one_of is
      obtain ⟨q, dx, fvs, rfl, hq, po1⟩ := own1_ok rp ix po
      obtain ⟨u, rfl, ru⟩ := vals1 rv
      cases ru
      obtain ⟨od, J, _⟩ := inst_of I hq
      exact PySem.W.kso_call hu I.kIn J hs hf (thn (hg ξ pins s σ H M F ρ _ _ _ _ (inv_in1 (inv_in1 I)) (.cons (rel_ref q) .nil) rp (IsL.cons ix IsL.nil) (po_str po1)) fun _ _ z => back_str (EP.out1 (EP.out1 z)))
    · exact po.elim
theorem cg_reprO {c : Nat} {f : Addr} {g : List D → Stor → R D} (hu : X.A.in1.units < cLine) (hs : PySem.W.findIn X.K (.ref (W.T c)) "__repr__" = some (some (.ref f))) (hf : PySem.W.isFn X.K (.ref f) = true) (hg : CallG (Cx.in1 X) W E (.ref f) g) : CallG X W E (.builtin "repr") (fOwnS c g) :=
  fun ξ pins s σ H M F ρ ds vs us Q I rv rp is po => by
    unfold fOwnS at po
    split at po
    · rename_i d
      obtain ⟨v, rfl, ix⟩ := one_of is
      obtain ⟨q, dx, fvs, rfl, hq, po1⟩ := own1_ok rp ix po
      obtain ⟨u, rfl, ru⟩ := vals1 rv
      cases ru
      obtain ⟨od, J, _⟩ := inst_of I hq
      obtain ⟨m, hF⟩ := I.fr
      exact PySem.W.repr_K hu hF I.ok.mod.kin J hs hf (thn (hg ξ pins s σ H M F ρ _ _ _ _ (inv_in1 I) (.cons (rel_ref q) .nil) rp (IsL.cons ix IsL.nil) (po_str po1)) fun _ _ z => back_str (EP.out1 z))
    · exact po.elim
/-- {x}, x an own thing -/
theorem ge_fmtO {c : Nat} {f : Addr} {g : List D → Stor → R D} (hu : X.A.in1.units < cLine) (hfm : PySem.W.findIn X.K (.ref (W.T c)) "__format__" = some (some (.builtin "object.__format__"))) (hm : PySem.W.mroIn X.K (W.T c) (.type "object") = some true)
    (hs : PySem.W.findIn X.K (.ref (W.T c)) "__str__" = some (some (.ref f))) (hf : PySem.W.isFn X.K (.ref f) = true) (hg : CallG (Cx.in1 X) W E (.ref f) g) (he : GE X W E e ga) : GE X W E (.FormattedValue e (-1) none pos) (gUn (own1 c fun l N => strOnly (g l N)) ga) := by
  refine ⟨fun pins s σ H Q I ⟨ξ, Γ, M, F, ρ, en, rp, po⟩ => ?_⟩
  refine wpAny_FormattedValue_plain (thn (he.run pins s σ H _ I ⟨ξ, Γ, M, F, ρ, en, rp, po.bind⟩) ?_)
  rintro u s1 ⟨v, H1, I1, r1, d, M1, F1, ρ1, e1, p1, rp1, ix, po1⟩
  obtain ⟨q, dx, fvs, rfl, hq, po2⟩ := own1_ok rp1 ix po1
  cases r1
  obtain ⟨od, J, _⟩ := inst_of I1 hq
  exact PySem.W.kfo_fieldS hu I1.kIn J hfm hm hs hf (thn (hg ξ pins _ σ H1 M1 F1 ρ1 _ _ _ _ (inv_in1 (I1.tok _)) (.cons (rel_ref q) .nil) rp1 (IsL.cons ix IsL.nil) (po_str po2)) fun _ _ z => back_str (EP.out1 z))
/-- {x}, x a text or an int -/
def dFmt : D → Stor → R D := fun x M => match x with
  | .str y => if y.length ≤ 1000000 then .ok (.str y) M else .no
  | .int i => if i.natAbs.log2 < 1920 then .ok (.str (toString i)) M else .no
  | _ => .no
theorem ge_fmt (he : GE X W E e ga) : GE X W E (.FormattedValue e (-1) none pos) (gUn dFmt ga) :=
  mE (pe_fmt he) fun σ H Q ⟨ξ, Γ, M, F, ρ, en, rp, po⟩ => ⟨ξ, Γ, M, F, ρ, en, rp, po.bind.imp (by
    rintro v H1 ⟨d, M1, F1, ρ1, e1, p1, rp1, ix, po1⟩
    unfold dFmt at po1
    split at po1
    · rename_i y
      simp only [Is] at ix; subst ix
      split at po1
      · rename_i hz
        exact .inl ⟨y, rfl, small_line hz, po1.now rp1 (flat_str F1 ρ1)⟩
      · exact po1.elim
    · rename_i i
      simp only [Is] at ix; subst ix
      split at po1
      · rename_i hz
        exact .inr ⟨i, rfl, hz, po1.now rp1 (flat_str F1 ρ1)⟩
      · exact po1.elim
    · exact po1.elim)⟩
/-- the parts of f'..' -/
inductive GJ (X : Cx) (W : Wd) (E : Sg → XK) : List Expr → List GE' → Prop where
  | nil : GJ X W E [] []
  | cons {e : Expr} {g : GE'} {es : List Expr} {gs : List GE'} (h : GE X W E e g) (r : GJ X W E es gs) : GJ X W E (e :: es) (g :: gs)
def jsG : List GE' → Str → GE'
  | [], acc, _, M => .ok (.str acc) M
  | g :: gs, acc, Γ, M => (g Γ M).bind fun x M1 => match x with
    | .str y => if (acc ++ y).length ≤ 1000000 then jsG gs (acc ++ y) Γ M1 else .no
    | _ => .no
theorem gj_pj {es : List Expr} {gs : List GE'} (h : GJ X W E es gs) : PJ X es (gs.map (tG W E)) := by
  induction h with
  | nil => exact .nil
  | cons h _ ih => exact .cons h ih
theorem js_ok {gs : List GE'} : ∀ (acc : Str) {Γ : Gam} {σ : Sg} {M : Stor} {F H : Hp} {ρ : List Addr} {Q : VK}, En W Γ σ F ρ → Rp W ξ M F H ρ → Po W ξ (Is W) F ρ (jsG gs acc Γ M) Q (E σ) → tJs (gs.map (tG W E)) acc σ H fun out H1 => Q (.str out) H1 := by
  induction gs with
  | nil => intro acc Γ σ M F H ρ Q en rp po; exact po.now rp (flat_str F ρ)
  | cons g gs ih =>
    intro acc Γ σ M F H ρ Q en rp po
    refine ⟨ξ, Γ, M, F, ρ, en, rp, (Po.bind (rel := Is W) po).imp ?_⟩
    rintro v H1 ⟨d, M1, F1, ρ1, e1, p1, rp1, ix, po1⟩
    split at po1
    · rename_i y
      simp only [Is] at ix; subst ix
      split at po1
      · rename_i hz
        exact ⟨y, rfl, small_line hz, ih (acc ++ y) (en.mono e1 p1) rp1 po1⟩
      · exact po1.elim
    · exact po1.elim
theorem ge_joined {v1 v2 : Expr} {rest : List Expr} {gs : List GE'} (h : GJ X W E (v1 :: v2 :: rest) gs) : GE X W E (.JoinedStr (v1 :: v2 :: rest) pos) (jsG gs Str.empty) :=
  mE (pe_joined (gj_pj h)) fun σ H Q ⟨ξ, Γ, M, F, ρ, en, rp, po⟩ => js_ok Str.empty en rp po
theorem ge_joined1 (he : GE X W E e ga) : GE X W E (.JoinedStr [e] pos) ga := pe_joined1 he
/-! str of an int, of a text -/
def fStr : List D → Stor → R D := fun ds M => match ds with
  | [.int i] => if i.natAbs.log2 < 1920 then .ok (.str (toString i)) M else .no
  | [.str y] => .ok (.str y) M
  | _ => .no
theorem cg_str : CallG X W E (.type "str") fStr := fun ξ pins s σ H M F ρ ds vs us Q I rv rp is po => by
  unfold fStr at po
  split at po
  · rename_i i
    obtain ⟨v, rfl, ix⟩ := one_of is
    simp only [Is] at ix; subst ix
    split at po
    · rename_i hz
      exact call_str_int pins s σ H _ us Q I rv ⟨i, rfl, hz, po.now rp (flat_str F ρ)⟩
    · exact po.elim
  · rename_i y
    obtain ⟨v, rfl, ix⟩ := one_of is
    simp only [Is] at ix; subst ix
    exact SkE.call_str_str pins s σ H _ us Q I rv ⟨y, rfl, po.now rp (flat_str F ρ)⟩
  · exact po.elim
/-! truth by an own __bool__ -/
def truO (c : Nat) (g : List D → Stor → R D) : D → Stor → R Bool := fun x M => match insOf x M with
  | some (c1, _) => if c1 = c then (match g [x] M with
    | .ok (.bl k) M1 => .ok k M1
    | .ex d fs M1 => .ex d fs M1
    | _ => .no) else .no
  | none => .no
theorem tru_own {c : Nat} {f : Addr} {g : List D → Stor → R D} (hs : PySem.W.findIn X.K (.ref (W.T c)) "__bool__" = some (some (.ref f))) (hf : PySem.W.isFn X.K (.ref f) = true) (hg : CallG X W E (.ref f) g) : TruG X W E (truO c g) :=
  fun ξ pins s σ H M F ρ x vx ux Q I rx rp ix po => by
    unfold truO at po
    split at po
    · rename_i c1 l ex
      split at po
      · rename_i hc
        subst hc
        obtain ⟨q, dx, fvs, rfl, hq, _, _⟩ := insOf_ok rp ix ex
        cases rx
        obtain ⟨od, J, _⟩ := inst_of I hq
        obtain ⟨m, hF⟩ := I.fr
        have po2 : Po W ξ (Is W) F ρ (g [x] M) (fun v H' => ∃ k, v = .bl k ∧ Q k H') (E σ) := by
          split at po
          · rename_i k M1 eg
            rw [eg]
            exact fun v F' ρ' H' le pr rp' is => ⟨k, by simpa only [Is] using is, po k F' ρ' H' le pr rp' rfl⟩
          · rename_i d fs M1 eg
            rw [eg]; exact po
          · exact po.elim
        refine PySem.W.truthy_K hF I.ok.mod.kin J hs hf (thn (hg ξ pins s σ H M F ρ _ _ _ _ I (.cons (rel_ref q) .nil) rp (IsL.cons ix IsL.nil) po2) ?_)
        rintro r s' ⟨v, H', I', rv, k, rfl, qk⟩
        cases rv
        exact ⟨H', I', qk⟩
      · exact po.elim
    · exact po.elim
theorem TruG.or {tr tr' : D → Stor → R Bool} (h : TruG X W E tr) (h' : TruG X W E tr') : TruG X W E (fun x M => orR (tr x M) (tr' x M)) :=
  fun ξ pins s σ H M F ρ x vx ux Q I rx rp ix po => by
    cases e : tr x M with
    | no => simp only [e, orR_no] at po; exact h' ξ pins s σ H M F ρ x vx ux Q I rx rp ix po
    | ok k M1 => simp only [e, orR_ok] at po; exact h ξ pins s σ H M F ρ x vx ux Q I rx rp ix (by rw [e]; exact po)
    | ex c fs M1 => simp only [e, orR_ex] at po; exact h ξ pins s σ H M F ρ x vx ux Q I rx rp ix (by rw [e]; exact po)
/-! e.f, a property -/
def noEx (r : R D) : R D := match r with
  | .ok d M => .ok d M
  | _ => .no
theorem ge_prop {c k : Nat} {q0 g0 : Addr} {f : Str} {ps : List Str} {g : List D → Stor → R D} (hK : X.K = W.K) (cl : Cls W.K (W.T c)) (hp : PropOf W.K (W.T c) f q0 g0) (fn : FnB X.prog X.w W X.mg X.base k g0 ps g) (hr : Room (k + 1) X.A) (gd : X.A.guards = some [])
    (he : GE X W E e ga) (hb : attributeBase e f X.env (eval e X.env) = eval e X.env := by rfl) : GE X W E (.Attribute e f pos) (gUn (own1 c fun l N => noEx (g l N)) ga) := by
  refine ⟨fun pins s σ H Q I ⟨ξ, Γ, M, F, ρ, en, rp, po⟩ => ?_⟩
  refine attr_of hb (thn (he.run pins s σ H _ I ⟨ξ, Γ, M, F, ρ, en, rp, po.bind⟩) ?_)
  rintro u s1 ⟨v, H1, I1, rx, d, M1, F1, ρ1, e1, p1, rp1, ix, po1⟩
  obtain ⟨q, dx, fvs, rfl, hq, po2⟩ := own1_ok rp1 ix po1
  obtain rfl : u = Value.ref q := rx
  obtain ⟨fd, FG, b0⟩ := fn.ex
  have po3 : Po W ξ (Is W) F1 ρ1 (g [d] M1) Q (fun _ _ _ => False) := by
    unfold noEx at po2
    split at po2
    · rename_i d2 M2 eg
      rw [eg]; exact po2
    · exact po2.elim
  have sp : spG W g [V.ref q] H1 Q (fun _ _ _ => False) := ⟨ξ, [d], M1, F1, ρ1, IsL.cons ix IsL.nil, rp1, po3⟩
  obtain ⟨od, J, _⟩ := inst_of I1 hq
  obtain ⟨rest, hrec⟩ := hp.rec_
  have I2 := I1.tok (s1.toks + 1)
  have kin : W.K.In s1.heap := by rw [← hK]; exact I1.kIn
  have isC : (PySem.W.clsIn W.K (W.T c)).isSome = true := by
    obtain ⟨cd, ec, _⟩ := PySem.W.any_some cl.hd
    rw [ec]; rfl
  have hl : ([Value.ref q] ++ []).length = ps.length := by rw [← FG.len _ _ _ _ sp]; rfl
  have e0 := I2.env0.in1
  rw [hK] at e0
  refine PySem.W.get_bind kin J (PySem.W.plainGet_of (cl.get f)).1 (PySem.W.findObj_data isC hp.at_ hp.get hp.tak) (PySem.W.plainGet_of (cl.get f)).2 (wpAny_call (PySem.W.prop_get (s := { s1 with toks := s1.toks + 1 }) kin hrec ?_))
  refine codeAny_mono (FG.run X.A.in1 X.stack { s1 with toks := s1.toks + 1 } H1 ⟨[.ref q], []⟩ [.ref q] [.ref q] Q (fun _ _ _ => False) hr.in1 gd e0 (by have z := b0 { s1 with toks := s1.toks + 1 } [.ref q] (by rw [← hK]; exact I2.kIn) hl; simpa using z) (.cons rfl .nil) sp) fun r s' hq' => ?_
  cases r with
  | error er =>
    obtain ⟨_, _, _, _, _, _, _, _, _, _, _, _, z⟩ := hq'
    exact z.elim
  | ok fl =>
    cases fl with
    | ret u =>
      obtain ⟨v, H', I3, rv, q3⟩ := I2.after hq'
      show wpAny _ _ (handedOut u) _ _ _
      rw [PySem.W.handedOut_of (handed_of rv)]
      exact wpAny_pure ⟨v, H', I3, rv, q3⟩
    | next => exact False.elim hq'
    | brk => exact False.elim hq'
    | cont => exact False.elim hq'
/-! bool(x) -/
theorem bool_own {prog : Program} {w : World} {A : Around} {Z : Value → Shared → Prop} {s : Shared} {q : Addr} {Q : Value → Shared → Prop} (h : wpAny (model prog w) A.in1.in1 (truthy (.ref q)) (fun k s' => Q (.bool k) s') Z s) : wpAny (model prog w) A (call (.type "bool") [.ref q]) Q Z s := by
  refine callType_codes (T := "bool") (Bi := Builtin.«object.__init__») (Q₁ := fun r s1 => ∃ k, r = .bool k ∧ Q r s1) PySem.F.called_bool (PySem.F.typeCall_bool_1 _) PySem.F.entry_object_init ?_ ?_
  · refine codeAny_of_tree ?_
    show wpAny _ A.in1.in1 (do checkBuiltinCall "bool.__new__" ⟨[.type "bool", .ref q], []⟩; again (.builtin "bool.__new__" ⟨[.type "bool", .ref q], []⟩)) _ _ s
    refine wpAny_bind (wpAny_of_eq (PySem.F.newCall_bool_1 _) (wpAny_pure ⟨plainId_quiet (by decide +kernel) _, codeAny_builtin PySem.F.entry_bool_new ?_⟩))
    rw [Around.under_plainId (by decide +kernel) _]
    unfold Builtin.«bool.__new__»
    obtain ⟨hp, gg, dr, tk, os⟩ := s
    have f1 := F.conv_sub_bool
    repeat (any_goals (first | assumption | (with_reducible refine wpAny_mono h (fun k s' hk => ?_) (fun _ _ z => z)) | wp_step))
    all_goals first | exact ⟨_, rfl, hk⟩ | exact wpAny_pure ⟨_, rfl, hk⟩ | skip
  · rintro obj s1 ⟨k, rfl, hq⟩
    exact ⟨rfl, PySem.F.args_object_init_2 _ _, object_init_meets PySem.F.called_bool.init.lookup PySem.F.called_bool.made (by decide) prog w A.in1 _ s1 ⟨rfl, rfl, hq⟩⟩
end
end G

namespace G
open PySem PySem.Spec PyProof.Rows L2
/-! ### an int beside an own thing: < <= > >= ; != by an own == -/
theorem dec_lt (a : Int) (t : Tok) (l C dx : Addr) : Meets (Builtin.«int.__lt__» ⟨[.int a t, .ref l], []⟩) (fun _ R s => s.heap.get? l = some (PySem.W.instObj C dx) ∧ R (.ok (.ret .notImplemented)) s) :=
  .of_wp fun prog w A R s h => by obtain ⟨hp, g, d, tk, os⟩ := s; obtain ⟨hl, h⟩ := h; wp_walk using wpAny_loadPart' hl, wpAny_load hl; exact ⟨_, rfl, h⟩
theorem dec_le (a : Int) (t : Tok) (l C dx : Addr) : Meets (Builtin.«int.__le__» ⟨[.int a t, .ref l], []⟩) (fun _ R s => s.heap.get? l = some (PySem.W.instObj C dx) ∧ R (.ok (.ret .notImplemented)) s) :=
  .of_wp fun prog w A R s h => by obtain ⟨hp, g, d, tk, os⟩ := s; obtain ⟨hl, h⟩ := h; wp_walk using wpAny_loadPart' hl, wpAny_load hl; exact ⟨_, rfl, h⟩
theorem dec_gt (a : Int) (t : Tok) (l C dx : Addr) : Meets (Builtin.«int.__gt__» ⟨[.int a t, .ref l], []⟩) (fun _ R s => s.heap.get? l = some (PySem.W.instObj C dx) ∧ R (.ok (.ret .notImplemented)) s) :=
  .of_wp fun prog w A R s h => by obtain ⟨hp, g, d, tk, os⟩ := s; obtain ⟨hl, h⟩ := h; wp_walk using wpAny_loadPart' hl, wpAny_load hl; exact ⟨_, rfl, h⟩
theorem dec_ge (a : Int) (t : Tok) (l C dx : Addr) : Meets (Builtin.«int.__ge__» ⟨[.int a t, .ref l], []⟩) (fun _ R s => s.heap.get? l = some (PySem.W.instObj C dx) ∧ R (.ok (.ret .notImplemented)) s) :=
  .of_wp fun prog w A R s h => by obtain ⟨hp, g, d, tk, os⟩ := s; obtain ⟨hl, h⟩ := h; wp_walk using wpAny_loadPart' hl, wpAny_load hl; exact ⟨_, rfl, h⟩
/-- an int's own comparison declines beside an own thing -/
structure IntCmp (op : CmpOp) : Prop where
  rich : ∀ a b, compareOp op a b = richCompare op a b
  dec : ∃ idl, Slot "int" (cmpInfo op).2.1 idl ∧ ∀ (prog : Program) (w : World) (A : Around) (E : Value → Shared → Prop) (s : Shared) (i : Int) (t : Tok) (x C dx : Addr) (Q' : Value → Shared → Prop),
    s.heap.get? x = some (PySem.W.instObj C dx) → Q' .notImplemented s → wpAny (model prog w) A (call (.builtin idl) [.int i t, .ref x]) Q' E s
theorem intcmp_lt : IntCmp .Lt := ⟨fun _ _ => rfl, _, F.slot_int_lt, fun _ _ _ _ s i t x C dx Q' h q => call_meets F.slot_int_lt (typeIs_int s i t) F.entry_int_lt (F.args_int_lt_2 _ _) (dec_lt i t x C dx) ⟨h, q⟩⟩
theorem intcmp_le : IntCmp .LtE := ⟨fun _ _ => rfl, _, F.slot_int_le, fun _ _ _ _ s i t x C dx Q' h q => call_meets F.slot_int_le (typeIs_int s i t) F.entry_int_le (F.args_int_le_2 _ _) (dec_le i t x C dx) ⟨h, q⟩⟩
theorem intcmp_gt : IntCmp .Gt := ⟨fun _ _ => rfl, _, F.slot_int_gt, fun _ _ _ _ s i t x C dx Q' h q => call_meets F.slot_int_gt (typeIs_int s i t) F.entry_int_gt (F.args_int_gt_2 _ _) (dec_gt i t x C dx) ⟨h, q⟩⟩
theorem intcmp_ge : IntCmp .GtE := ⟨fun _ _ => rfl, _, F.slot_int_ge, fun _ _ _ _ s i t x C dx Q' h q => call_meets F.slot_int_ge (typeIs_int s i t) F.entry_int_ge (F.args_int_ge_2 _ _) (dec_ge i t x C dx) ⟨h, q⟩⟩
section
open PySem.W
variable {prog : Program} {w : World} {A : Around} {E : Value → Shared → Prop} {s : Shared} {K : PySem.W.Frag} {x C f : Addr} {ox : Obj} {od : Option Obj} {i : Int} {t : Tok} {b tb : Value}
theorem cmp_refl {op : CmpOp} {idl : String} {Q : Value → Shared → Prop} (hu : A.units < cLine) (X : K.In s.heap) (I : InstAt s.heap x ox C od) (hsub : subIn K (.ref C) (.type "int") = some false) (sl : Slot "int" (cmpInfo op).2.1 idl)
    (hd : ∀ Q' : Value → Shared → Prop, Q' .notImplemented s → wpAny (model prog w) A (call (.builtin idl) [.int i t, .ref x]) Q' E s)
    (hs : findIn K (.ref C) (cmpInfo op).2.2 = some (some (.ref f))) (hf : isFn K (.ref f) = true)
    (h : wpAny (model prog w) A (call (.ref f) [.ref x, .int i t]) (PySem.W.CmpBack Q) E s) : wpAny (model prog w) A (richCompare op (.int i t) (.ref x)) Q E s := by
  have one : wpAny (model prog w) A (tryCompare (.ref x) (cmpInfo op).2.2 (.int i t)) (fun r s' => ∃ v, r = some v ∧ Q v s') E s := by
    unfold tryCompare
    refine wpAny_bind (ifBound_K X I hs hf (wpAny_mono h (fun v s' hv => ?_) fun _ _ z => z))
    cases v <;> first | exact hv.elim | exact wpAny_pure ⟨_, rfl, hv⟩
  have dec : ∀ Q' : Option Value → Shared → Prop, Q' none s → wpAny (model prog w) A (tryCompare (.int i t) (cmpInfo op).2.1 (.ref x)) Q' E s := fun Q' q => wpAny_tryCompare_declines (typeIs_int s i t) sl (hd _ ⟨rfl, q⟩)
  have L1 : Looks (model prog w) s.heap (typeOf (.int i t)) (.type "int") := Looks.of_pure rfl
  have no1 : oneThing? op (.int i t) (.ref x) = none := rfl
  have hne : (Value.type "int" != Value.ref C) = true := by
    rw [bne_iff_ne]; exact fun z => by cases z
  unfold richCompare
  simp only [no1]
  refine wpAny_holding (wpAny_bind (wpAny_cRoomFor hu (wpAny_bind (L1.here (wpAny_bind (I.type.here ?_))))))
  rw [if_pos hne]
  refine wpAny_bind ((looks_subIn X hsub).here ?_)
  simp only [Bool.false_eq_true, if_false, Bool.not_false, if_true]
  refine wpAny_bind (dec _ ?_)
  refine wpAny_bind (wpAny_mono one (fun r s' z => ?_) fun _ _ z => z)
  obtain ⟨v, rfl, hq⟩ := z
  exact wpAny_pure hq
/-- a special method that is a built-in -/
theorem ifBound_B {M : Model} {name : Str} {id : String} {args : List Value} {Q : Option Value → Shared → Prop} (X : K.In s.heap) (I : InstAt s.heap x ox C od) (hs : findIn K (.ref C) name = some (some (.builtin id))) (hb : ∀ self, bindSpecial (.builtin id) self = pure (.builtin id, [self]))
    (h : wpAny M A (call (.builtin id) (.ref x :: args)) (fun v => Q (some v)) E s) : wpAny M A (callSpecialIfBound? (.ref x) name args) Q E s := by
  have last : wpAny M A (call (.builtin id) ([.ref x] ++ args) >>= fun v => pure (some v)) Q E s := wpAny_bind (wpAny_mono h (fun v s' q => wpAny_pure q) fun _ _ q => q)
  simp only [callSpecialIfBound?, bindSpecialIfBound?]
  refine wpAny_holding (wpAny_bind (wpAny_bind (wpAny_bind (I.type.here ((looks_findIn X hs).here (wpAny_bind (wpAny_askSetting (wpAny_ite ?_))))))))
  split
  · exact wpAny_bind ((Looks.of_pure (hb _)).here (wpAny_pure (by exact last)))
  · exact wpAny_tryCatch (wpAny_bind ((Looks.of_pure (hb _)).here (wpAny_pure (by exact last))))
theorem ne_own {Q : Value → Shared → Prop} (hu : A.units + 1 < cLine) (X : K.In s.heap) (I : InstAt s.heap x ox C od) (hb : Looks (model prog w) s.heap (typeOf b) tb) (hn : notFirst K C tb = true) (hne : findIn K (.ref C) "__ne__" = some (some (.builtin "object.__ne__")))
    (hbd : ∀ self, bindSpecial (.builtin "object.__ne__") self = pure (.builtin "object.__ne__", [self])) (hm : mroIn K C (.type "object") = some true) (he : findIn K (.ref C) "__eq__" = some (some (.ref f))) (hf : isFn K (.ref f) = true)
    (h : wpAny (model prog w) A.in1 (call (.ref f) [.ref x, b]) (fun v s' => ∃ k, v = .bool k ∧ Q (.bool (!k)) s') E s) : wpAny (model prog w) A (richCompare .NotEq (.ref x) b) Q E s := by
  have inner : wpAny (model prog w) A (call (.builtin "object.__ne__") [.ref x, b]) (fun v s' => ∃ k, v = .bool (!k) ∧ Q (.bool (!k)) s') E s := by
    have isO : Looks (model prog w) s.heap (isInstance (.ref x) (.type "object")) true := I.type.andThen (looks_mroIn X hm)
    refine wpAny_call (codeAny_call_builtin (by decide +kernel) F.cmpEntry_ne (@check_slot (model prog w) _ _ s "object.__ne__" "object" "__ne__" (.ref x) [b] [] _ F.cmpKind_ne F.cmpSplit_ne isO (F.cmpArgs_ne _ _) ?_))
    unfold Builtin.«object.__ne__»
    refine wpAny_bind (wpAny_of_eq (a := ((Value.ref x : Value), [b])) (by first | rfl | (simp only [slotArgs]; rfl)) ?_)
    refine wpAny_bind (wpAny_cRoomFor hu ?_)
    refine wpAny_bind (ifBound_K X I he hf (wpAny_mono h (fun v s' hv => ?_) fun _ _ z => z))
    obtain ⟨k, rfl, q⟩ := hv
    refine wpAny_bind (m := truthy (.bool k)) (wpAny_truthy_bool (wpAny_pure ?_))
    exact ⟨k, rfl, q⟩
  have one : wpAny (model prog w) A (tryCompare (.ref x) (cmpInfo .NotEq).2.1 b) (fun r s' => ∃ v, r = some v ∧ Q v s') E s := by
    unfold tryCompare
    refine wpAny_bind (ifBound_B X I hne hbd (wpAny_mono inner (fun v s' hv => ?_) fun _ _ z => z))
    obtain ⟨k, rfl, q⟩ := hv
    exact wpAny_pure ⟨_, rfl, q⟩
  unfold richCompare
  simp only [oneThing_ref]
  refine wpAny_holding (wpAny_bind (wpAny_cRoomFor (by omega) (wpAny_bind (I.type.here (wpAny_bind (hb.here ?_))))))
  split
  · rename_i q
    have e : subIn K tb (.ref C) = some false := by
      rcases Bool.or_eq_true_iff.mp hn with z | z
      · rw [beq_iff_eq.mp z] at q; simp at q
      · exact beq_iff_eq.mp z
    refine wpAny_bind ((looks_subIn X e).here ?_)
    simp only [Bool.false_eq_true, if_false]
    refine wpAny_bind (wpAny_mono one (fun r s' z => ?_) fun _ _ z => z)
    obtain ⟨v, rfl, hq⟩ := z
    exact wpAny_pure hq
  · refine wpAny_bind (wpAny_pure ?_)
    simp only [Bool.false_eq_true, if_false]
    refine wpAny_bind (wpAny_mono one (fun r s' z => ?_) fun _ _ z => z)
    obtain ⟨v, rfl, hq⟩ := z
    exact wpAny_pure hq
end
section
variable {X : Cx} {W : Wd} {ξ : Xi} {E : Sg → XK}
/-- i < x, i an int: x's reflected method -/
def cmpR (c : Nat) (g : List D → Stor → R D) : D → D → Stor → R D := fun x y M => match x with
  | .int _ => (match insOf y M with
    | some (c1, _) => if c1 = c then g [y, x] M else .no
    | none => .no)
  | _ => .no
theorem og_cmpR {c : Nat} {f : Addr} {g : List D → Stor → R D} {op : CmpOp} (Z : IntCmp op) (hu : X.A.units < cLine) (hsub : PySem.W.subIn X.K (.ref (W.T c)) (.type "int") = some false)
    (hs : PySem.W.findIn X.K (.ref (W.T c)) (cmpInfo op).2.2 = some (some (.ref f))) (hf : PySem.W.isFn X.K (.ref f) = true) (hg : CallG X W E (.ref f) g) : OpG X W E (compareOp op) (cmpR c g) :=
  fun ξ pins s σ H M F ρ x y vx vy ux uy Q I rx ry rp ix iy po => by
    unfold cmpR at po
    split at po
    · rename_i j
      split at po
      · rename_i c1 l ey
        split at po
        · rename_i hc
          subst hc
          obtain ⟨q, dx, fvs, rfl, hq, _, _⟩ := insOf_ok rp iy ey
          cases ry
          have ix' := ix
          simp only [Is] at ix'; subst ix'
          obtain ⟨t, rfl⟩ := id rx
          obtain ⟨oe, J, e2⟩ := inst_of I hq
          obtain ⟨idl, sl, dec⟩ := Z.dec
          rw [Z.rich]
          exact cmp_refl hu I.kIn J hsub sl (fun Q' q' => dec _ _ _ _ s j t q _ dx Q' e2 q') hs hf (thn (hg ξ pins s σ H M F ρ _ _ _ Q I (.cons (rel_ref q) (.cons rx .nil)) rp (IsL.cons iy (IsL.cons ix IsL.nil)) po) fun _ _ z => back_of z)
        · exact po.elim
      · exact po.elim
    · exact po.elim
/-- x != y, by x's own == -/
def notB (r : R D) : R D := match r with
  | .ok (.bl k) M => .ok (.bl (!k)) M
  | .ex c fs M => .ex c fs M
  | _ => .no
structure NeC (K : PySem.W.Frag) (C : Addr) : Prop where
  ne : PySem.W.findIn K (.ref C) "__ne__" = some (some (.builtin "object.__ne__"))
  top : PySem.W.mroIn K C (.type "object") = some true
theorem ne_bind (self : Value) : bindSpecial (.builtin "object.__ne__") self = pure (.builtin "object.__ne__", [self]) := by kernel_rfl
theorem og_neO {c : Nat} {f : Addr} {g : List D → Stor → R D} {ok : Nat → Bool} {nf : TK → Bool} (hK : X.K = W.K) (hu : X.A.units + 1 < cLine) (T : NeC X.K (W.T c)) (hs : PySem.W.findIn X.K (.ref (W.T c)) "__eq__" = some (some (.ref f))) (hf : PySem.W.isFn X.K (.ref f) = true)
    (hc : ClsOk W ok) (hn : NfOk W c nf) (hg : CallG (Cx.in1 X) W E (.ref f) g) : OpG X W E (compareOp .NotEq) (cmpO c ok nf fun l N => notB (g l N)) :=
  fun ξ pins s σ H M F ρ x y vx vy ux uy Q I rx ry rp ix iy po => by
    unfold cmpO at po
    split at po
    · rename_i c1 l ex
      split at po
      · rename_i hc1
        subst hc1
        split at po
        · rename_i t et
          split at po
          · rename_i hb
            obtain ⟨b1, b2⟩ := Bool.and_eq_true_iff.mp hb
            obtain ⟨p, dx, fvs, rfl, hp, _, _⟩ := insOf_ok rp ix ex
            cases rx
            obtain ⟨od, J, _⟩ := inst_of I hp
            have ty := tkOf_ok hc rp iy et b1
            rw [← hK] at ty
            obtain ⟨P, kx, hP, _⟩ := L2.kit_of I ry ty
            have nf' := hn t b2
            rw [← hK] at nf'
            have po2 : Po W ξ (Is W) F ρ (g [x, y] M) (fun v H' => ∃ k, v = .bl k ∧ Q (.bl (!k)) H') (E σ) := by
              have po' : Po W ξ (Is W) F ρ (notB (g [x, y] M)) Q (E σ) := po
              clear po
              have po := po'
              clear po'
              unfold notB at po
              split at po
              · rename_i k M1 eg
                rw [eg]
                exact fun v F' ρ' H' le pr rp' is => ⟨k, by simpa only [Is] using is, po _ F' ρ' H' le pr rp' (by simp only [Is])⟩
              · rename_i d fs M1 eg
                rw [eg]; exact po
              · exact po.elim
            show wpAny _ _ (richCompare .NotEq _ _) _ _ _
            refine ne_own hu I.kIn J (kx.ty _ _ I.kIn hP) nf' T.ne ne_bind T.top hs hf (thn (hg ξ pins s σ H M F ρ _ _ _ _ (inv_in1 I) (.cons (rel_ref p) (.cons ry .nil)) rp (IsL.cons ix (IsL.cons iy IsL.nil)) po2) ?_)
            rintro r s' ⟨v, H', I', rv, k, rfl, q⟩
            cases rv
            exact ⟨k, rfl, ⟨.bl (!k), H', inv_out1 I', rfl, q⟩⟩
          · exact po.elim
        · exact po.elim
      · exact po.elim
    · exact po.elim
/-- bool(x) -/
theorem cg_boolO {c : Nat} {f : Addr} {g : List D → Stor → R D} (hs : PySem.W.findIn X.K (.ref (W.T c)) "__bool__" = some (some (.ref f))) (hf : PySem.W.isFn X.K (.ref f) = true) (hg : CallG (Cx.in1 (Cx.in1 X)) W E (.ref f) g) : CallG X W E (.type "bool") (fOwnB c g) :=
  fun ξ pins s σ H M F ρ ds vs us Q I rv rp is po => by
    unfold fOwnB at po
    split at po
    · rename_i d
      obtain ⟨v, rfl, ix⟩ := one_of is
      obtain ⟨q, dx, fvs, rfl, hq, po1⟩ := own1_ok rp ix po
      obtain ⟨u, rfl, ru⟩ := vals1 rv
      cases ru
      obtain ⟨od, J, _⟩ := inst_of I hq
      obtain ⟨m, hF⟩ := I.fr
      refine bool_own (PySem.W.truthy_K hF I.ok.mod.kin J hs hf (thn (hg ξ pins s σ H M F ρ _ _ _ _ (inv_in1 (inv_in1 I)) (.cons (rel_ref q) .nil) rp (IsL.cons ix IsL.nil) (po_bl po1)) ?_))
      rintro r s' ⟨v, H', I', rv', k, rfl, qk⟩
      cases rv'
      exact ⟨.bl k, H', inv_out1 (inv_out1 I'), rfl, qk⟩
    · exact po.elim
end
/-! ### facts as truths -/
open He in
def fxNe (x : Str) : Fx := fun K => eqO (PySem.W.findIn K (.ref (ga K x)) "__ne__") (some (some (.builtin "object.__ne__"))) && decide (PySem.W.mroIn K (ga K x) (.type "object") = some true)
theorem ne_of {K : PySem.W.Frag} {x : Str} (h : fxNe x K = true) : NeC K (He.ga K x) := by
  obtain ⟨h1, h2⟩ := He.ba h
  exact ⟨He.eqO_ok h1, of_decide_eq_true h2⟩
def fxSub (x : Str) : Fx := fun K => decide (PySem.W.subIn K (.ref (He.ga K x)) (.type "int") = some false)
theorem sub_of {K : PySem.W.Frag} {x : Str} (h : fxSub x K = true) : PySem.W.subIn K (.ref (He.ga K x)) (.type "int") = some false := of_decide_eq_true h
def fxFmt (x : Str) : Fx := fun K => He.eqO (PySem.W.findIn K (.ref (He.ga K x)) "__format__") (some (some (.builtin "object.__format__")))
theorem fmt_of {K : PySem.W.Frag} {x : Str} (h : fxFmt x K = true) : PySem.W.findIn K (.ref (He.ga K x)) "__format__" = some (some (.builtin "object.__format__")) := He.eqO_ok h
end G

namespace G
open PySem PySem.Spec PyProof.Rows L2
open He in
def fxProp (x f : Str) : Fx := fun K => eqO (PySem.W.findIn K (.ref (ga K x)) f) (some (some (.ref (ma K (ga K x) f)))) && (eqO (PySem.W.specialIn K (.ref (ma K (ga K x) f)) "__get__") (some (some (.builtin "property.__get__"))) &&
  (decide (PySem.W.takesIn K (.ref (ma K (ga K x) f)) = some true) && (match PySem.W.recIn K (ma K (ga K x) f) "property" with
    | some (.ref _ :: _) => true
    | _ => false)))
theorem prop_of {K : PySem.W.Frag} {x f : Str} (h : fxProp x f K = true) : PropOf K (He.ga K x) f (He.ma K (He.ga K x) f) (He5.wf K (He.ga K x) "property" f) := by
  obtain ⟨h1, h⟩ := He.ba h
  obtain ⟨h2, h⟩ := He.ba h
  obtain ⟨h3, h4⟩ := He.ba h
  refine ⟨He.eqO_ok h1, He.eqO_ok h2, of_decide_eq_true h3, ?_⟩
  unfold He5.wf
  split at h4
  · rename_i f' rest e
    rw [e]; exact ⟨rest, rfl⟩
  · cases h4
section
variable {X : Cx} {W : Wd} {ξ : Xi} {E : Sg → XK} {a b e o tg : Expr} {es : List Expr} {ga gb go ge : GE'} {gs : GA'} {pos pos' p2 p apos kpos : Pos} {x : Str}
/-- {} -/
theorem ge_dct0 : GE X W E (.Dict [] [] pos) (gC (.dct [] [])) :=
  mE pe_dnewK fun σ H Q ⟨ξ, Γ, M, F, ρ, en, rp, po⟩ p n => by
    refine po (.ref p) (upd F p (.dK [])) ρ _ (Le.new (rp.free n)) (List.prefix_refl _) (rp.new n) ?_
    simp only [Is]
    exact ⟨p, [], rfl, upd_same, rfl, IsL.nil⟩
/-- tuple(x) -/
def fTuple : List D → Stor → R D := fun ds M => match ds with
  | [.tup l] => .ok (.tup l) M
  | [x] => (match lstOf x M with
    | some l => .ok (.tup l) M
    | none => .no)
  | _ => .no
theorem cg_tuple (hK : X.K = W.K) : CallG X W E (.type "tuple") fTuple := CallG.of call_tuple_of fun ξ M F H ρ ds vs Q Z rp is po => by
  unfold fTuple at po
  split at po
  · rename_i l
    obtain ⟨v, rfl, ix⟩ := one_of is
    have ix' := ix
    simp only [Is] at ix'
    obtain ⟨q, ys, rfl, hq, hl⟩ := ix'
    exact ⟨q, ys, rfl, .inr ⟨by rw [hK]; exact rp.sub.sqT hq, po.now rp ix⟩⟩
  · obtain ⟨v, rfl, ix⟩ := one_of is
    split at po
    · rename_i l el
      obtain ⟨q, ys, rfl, hq, hl⟩ := lstOf_ok rp ix el
      exact ⟨q, ys, rfl, .inl ⟨by rw [hK]; exact hq, fun p n => new_tup rp hl n po⟩⟩
    · exact po.elim
  · exact po.elim
/-- any, all of truths -/
def blsOf : List D → Option (List Bool)
  | [] => some []
  | .bl b :: ds => (blsOf ds).map (b :: ·)
  | _ => none
theorem blsOf_ok {F : Hp} {ρ : List Addr} : ∀ {ds : List D} {bs : List Bool} {vs : List V}, blsOf ds = some bs → IsL W F ρ ds vs → vs = bs.map V.bl
  | [], _, _, e, h => by cases e; rw [IsL.nil_iff] at h; exact h
  | .bl b :: ds, bs, vs, e, h => by
    obtain ⟨v, r, rfl, h1, h2⟩ := IsL.cons_iff.mp h
    simp only [blsOf, Option.map_eq_some_iff] at e
    obtain ⟨cs, e1, rfl⟩ := e
    simp only [Is] at h1; subst h1
    rw [blsOf_ok e1 h2]; rfl
  | .non :: _, _, _, e, _ => by cases e
  | .int _ :: _, _, _, e, _ => by cases e
  | .str _ :: _, _, _, e, _ => by cases e
  | .ty _ :: _, _, _, e, _ => by cases e
  | .tup _ :: _, _, _, e, _ => by cases e
  | .lst _ :: _, _, _, e, _ => by cases e
  | .lck _ :: _, _, _, e, _ => by cases e
  | .dct _ _ :: _, _, _, e, _ => by cases e
  | .ins _ _ :: _, _, _, e, _ => by cases e
  | .ref _ :: _, _, _, e, _ => by cases e
  | .cls _ :: _, _, _, e, _ => by cases e
  | .exc _ _ _ :: _, _, _, e, _ => by cases e
  | .lam _ _ _ _ _ :: _, _, _, e, _ => by cases e
def fAny : List D → Stor → R D := fun ds M => match ds with
  | [x] => (match (lstOf x M).bind blsOf with
    | some bs => .ok (.bl (bs.any id)) M
    | none => .no)
  | _ => .no
def fAll : List D → Stor → R D := fun ds M => match ds with
  | [x] => (match (lstOf x M).bind blsOf with
    | some bs => .ok (.bl (bs.all id)) M
    | none => .no)
  | _ => .no
theorem cg_any (hK : X.K = W.K) (hc : X.calm = true) : CallG X W E (.builtin "any") fAny := CallG.of (cr_any hc) fun ξ M F H ρ ds vs Q Z rp is po => by
  unfold fAny at po
  split at po
  · obtain ⟨v, rfl, ix⟩ := one_of is
    split at po
    · rename_i bs eb
      obtain ⟨l, el, eb⟩ := Option.bind_eq_some_iff.mp eb
      obtain ⟨q, ys, rfl, hq, hl⟩ := lstOf_ok rp ix el
      refine ⟨q, bs, rfl, ?_, po.now rp (flat_bl F ρ)⟩
      rw [hK, ← blsOf_ok eb hl]; exact hq
    · exact po.elim
  · exact po.elim
theorem cg_all (hK : X.K = W.K) (hc : X.calm = true) : CallG X W E (.builtin "all") fAll := CallG.of (cr_all hc) fun ξ M F H ρ ds vs Q Z rp is po => by
  unfold fAll at po
  split at po
  · obtain ⟨v, rfl, ix⟩ := one_of is
    split at po
    · rename_i bs eb
      obtain ⟨l, el, eb⟩ := Option.bind_eq_some_iff.mp eb
      obtain ⟨q, ys, rfl, hq, hl⟩ := lstOf_ok rp ix el
      refine ⟨q, bs, rfl, ?_, po.now rp (flat_bl F ρ)⟩
      rw [hK, ← blsOf_ok eb hl]; exact hq
    · exact po.elim
  · exact po.elim
/-- l.insert(i, d), l.extend(m), l.pop(i), l.pop() of a list of the store -/
def mInsert : D → List D → Stor → R D := fun x ds M => match x, ds with
  | .ref k, [.int i, d] => (match M[k]? with
    | some (.lst l) => if l.length < 1000000 ∧ 0 ≤ i ∧ i < 1000000 then .ok .non (M.set k (.lst (l.take i.toNat ++ [d] ++ l.drop i.toNat))) else .no
    | _ => .no)
  | _, _ => .no
theorem mg_insert : MtG X W "list.insert" mInsert := ⟨_, mt_insert, fun ξ M F H ρ x ds v vs Q Z rp ix is po => by
  unfold mInsert at po
  split at po
  · rename_i k i d
    split at po
    · rename_i l em
      split at po
      · rename_i hz
        simp only [Is] at ix
        obtain ⟨q, rfl, eq⟩ := ix
        obtain ⟨_, ys, hv, hl⟩ := rp.obj k _ q em eq
        obtain ⟨u1, u2, rfl, i1, i2⟩ := two_of is
        simp only [Is] at i1; subst i1
        refine ⟨q, ys, i, u2, rfl, rfl, hv, Nat.lt_of_lt_of_le (by rw [hl.len]; exact hz.1) (small_line (Nat.le_refl _)), hz.2.1, by omega, ?_⟩
        exact po _ F ρ _ Le.rfl' (List.prefix_refl _) (rp.set eq ⟨_, rfl, ((hl.take _).append (IsL.cons i2 IsL.nil)).append (hl.drop _)⟩) (by simp only [Is])
      · exact po.elim
    · exact po.elim
  · exact po.elim⟩
def mPopAt : D → List D → Stor → R D := fun x ds M => match x, ds with
  | .ref k, [.int i] => (match M[k]? with
    | some (.lst l) => if 0 ≤ i ∧ i < 1000000 then (match l[i.toNat]? with
      | some d => .ok d (M.set k (.lst (l.eraseIdx i.toNat)))
      | none => .no) else .no
    | _ => .no)
  | _, _ => .no
theorem IsL.erase {F : Hp} {ρ : List Addr} : ∀ {ds : List D} {vs : List V} (i : Nat), IsL W F ρ ds vs → IsL W F ρ (ds.eraseIdx i) (vs.eraseIdx i)
  | [], _, i, h => by rw [IsL.nil_iff] at h; subst h; exact IsL.nil
  | d :: ds, _, 0, h => by
    obtain ⟨v, r, rfl, _, t⟩ := IsL.cons_iff.mp h
    exact t
  | d :: ds, _, i + 1, h => by
    obtain ⟨v, r, rfl, h1, t⟩ := IsL.cons_iff.mp h
    exact IsL.cons h1 (IsL.erase i t)
theorem mg_popAt : MtG X W "list.pop" mPopAt := ⟨_, mt_popAt, fun ξ M F H ρ x ds v vs Q Z rp ix is po => by
  unfold mPopAt at po
  split at po
  · rename_i k i
    split at po
    · rename_i l em
      split at po
      · rename_i hz
        split at po
        · rename_i d ed
          simp only [Is] at ix
          obtain ⟨q, rfl, eq⟩ := ix
          obtain ⟨_, ys, hv, hl⟩ := rp.obj k _ q em eq
          obtain ⟨u1, rfl, i1⟩ := one_of is
          simp only [Is] at i1; subst i1
          obtain ⟨y, ey, iy⟩ := hl.get ed
          have hi : i.toNat < ys.length := (List.getElem?_eq_some_iff.mp ey).1
          refine ⟨q, ys, i, i.toNat, y, rfl, rfl, hv, by omega, by omega, ?_, ey, ?_⟩
          · unfold seqIndex?
            have h1 : ¬ i < 0 := by omega
            have h2 : ¬ (ys.length : Int) ≤ i := by omega
            simp [h1, h2]
          · exact po _ F ρ _ Le.rfl' (List.prefix_refl _) (rp.set eq ⟨_, rfl, hl.erase _⟩) iy
        · exact po.elim
      · exact po.elim
    · exact po.elim
  · exact po.elim⟩
end
end G

namespace G
open PySem PySem.Spec PyProof.Rows L2
/-! ### enumerate(list), zip(list, list) -/
def enumD (l : List D) : List D := l.zipIdx.map fun p => .tup [.int (p.2 : Nat), p.1]
def zipD (l m : List D) : List D := (l.zip m).map fun p => .tup [p.1, p.2]
theorem enumD_at {l : List D} {i : Nat} {d : D} (h : (enumD l)[i]? = some d) : ∃ x, l[i]? = some x ∧ d = .tup [.int (i : Nat), x] := by
  unfold enumD at h
  rw [List.getElem?_map, List.getElem?_zipIdx] at h
  cases e : l[i]? with
  | none => rw [e] at h; simp at h
  | some x => rw [e] at h; simp at h; exact ⟨x, rfl, h.symm⟩
theorem enumD_len (l : List D) : (enumD l).length = l.length := by simp [enumD]
theorem zipD_at {l m : List D} {i : Nat} {d : D} (h : (zipD l m)[i]? = some d) : ∃ x y, l[i]? = some x ∧ m[i]? = some y ∧ d = .tup [x, y] := by
  unfold zipD at h
  rw [List.getElem?_map] at h
  cases e : (l.zip m)[i]? with
  | none => rw [e] at h; simp at h
  | some p =>
    rw [e] at h
    simp only [Option.map_some, Option.some.injEq] at h
    obtain ⟨e1, e2⟩ := List.getElem?_zip_eq_some.mp e
    exact ⟨p.1, p.2, e1, e2, h.symm⟩
theorem zipD_len (l m : List D) : (zipD l m).length = min l.length m.length := by simp [zipD]
/-- a list's items, and how long they stand -/
def lstIt (x : D) (M : Stor) : Option (List D × (Stor → Prop)) := match x with
  | .lst l => some (l, anyS)
  | .lck l => some (l, anyS)
  | .ref k => (match M[k]? with
    | some (.lst l) => some (l, fun N => N[k]? = some (.lst l))
    | _ => none)
  | _ => none
section
variable {X : Cx} {W : Wd} {ξ : Xi} {E : Sg → XK} {a b e o tg : Expr} {es : List Expr} {ga gb go ge : GE'} {gs : GA'} {pos pos' p2 p apos kpos tpos : Pos} {x : Str} {elts : List Expr} {kk : Nat}
theorem lstIt_ok {M : Stor} {F H : Hp} {ρ : List Addr} {d : D} {v : V} {l : List D} {keep : Stor → Prop} (rp : Rp W ξ M F H ρ) (ix : Is W F ρ d v) (e : lstIt d M = some (l, keep)) :
    keep M ∧ ∃ q, v = .ref q ∧ ∀ ξ' M' F' H' ρ', Le F F' → ρ <+: ρ' → Rp W ξ' M' F' H' ρ' → keep M' → ∃ vs, SqL W.K H' q vs ∧ IsL W F' ρ' l vs := by
  unfold lstIt at e
  split at e
  · cases e
    simp only [Is] at ix; obtain ⟨q, vs, rfl, hq, hl⟩ := ix
    exact ⟨trivial, q, rfl, fun ξ' M' F' H' ρ' le pr rp' _ => ⟨vs, SqL.of (rp'.sub _ _ (le _ _ hq)), hl.mono le pr⟩⟩
  · cases e
    simp only [Is] at ix; obtain ⟨q, vs, rfl, hq, hl⟩ := ix
    exact ⟨trivial, q, rfl, fun ξ' M' F' H' ρ' le pr rp' _ => ⟨vs, rp'.sub.sqL (le.sqL hq), hl.mono le pr⟩⟩
  · rename_i k
    split at e
    · rename_i l' em
      cases e
      simp only [Is] at ix; obtain ⟨q, rfl, eq⟩ := ix
      refine ⟨em, q, rfl, fun ξ' M' F' H' ρ' le pr rp' hm => ?_⟩
      obtain ⟨_, us, hu, hlu⟩ := rp'.obj k _ q hm (pre_get pr eq)
      exact ⟨us, SqL.of hu, hlu⟩
    · cases e
  · cases e
theorem good_enum {F0 : Hp} {ρ0 : List Addr} {l : List D} {q : Addr} {keep : Stor → Prop} (h : ∀ ξ M F H ρ, Le F0 F → ρ0 <+: ρ → Rp W ξ M F H ρ → keep M → ∃ vs, SqL W.K H q vs ∧ IsL W F ρ l vs) : GoodIt W F0 ρ0 (enumD l, keep) (Ite W.K q) := by
  intro ξ i M F H ρ le pr rp hk
  obtain ⟨vs, hv, hl⟩ := h ξ M F H ρ le pr rp hk
  refine ⟨fun d hd => ?_, fun hi => ⟨vs, hv, by rw [hl.len]; rw [enumD_len] at hi; exact hi⟩⟩
  obtain ⟨x, ex, rfl⟩ := enumD_at hd
  obtain ⟨v, ev, iv⟩ := hl.get ex
  refine ⟨⟨vs, v, hv, ev⟩, ?_⟩
  rintro w H' ⟨T, y, rfl, hT, rfl, hy⟩
  have := hy vs hv
  rw [ev] at this; cases this
  refine ⟨upd F T (.tup [.int (i : Nat), v]), Le.new (rp.free hT), rp.new hT, ?_⟩
  simp only [Is]
  exact ⟨T, _, rfl, SqT.of upd_same, IsL.cons (by simp only [Is]) (IsL.cons (iv.mono (Le.new (rp.free hT)) (List.prefix_refl _)) IsL.nil)⟩
theorem good_zip {F0 : Hp} {ρ0 : List Addr} {l m : List D} {q r : Addr} {keep keep2 : Stor → Prop} (h : ∀ ξ M F H ρ, Le F0 F → ρ0 <+: ρ → Rp W ξ M F H ρ → keep M → ∃ vs, SqL W.K H q vs ∧ IsL W F ρ l vs)
    (h2 : ∀ ξ M F H ρ, Le F0 F → ρ0 <+: ρ → Rp W ξ M F H ρ → keep2 M → ∃ vs, SqL W.K H r vs ∧ IsL W F ρ m vs) : GoodIt W F0 ρ0 (zipD l m, fun N => keep N ∧ keep2 N) (Itz W.K q r) := by
  intro ξ i M F H ρ le pr rp hk
  obtain ⟨vs, hv, hl⟩ := h ξ M F H ρ le pr rp hk.1
  obtain ⟨us, hu, hm⟩ := h2 ξ M F H ρ le pr rp hk.2
  refine ⟨fun d hd => ?_, fun hi => ⟨vs, us, hv, hu, by rw [hl.len, hm.len]; rw [zipD_len] at hi; omega⟩⟩
  obtain ⟨x, y, ex, ey, rfl⟩ := zipD_at hd
  obtain ⟨v, ev, iv⟩ := hl.get ex
  obtain ⟨u, eu, iu⟩ := hm.get ey
  refine ⟨⟨vs, us, v, u, hv, hu, ev, eu⟩, ?_⟩
  rintro w H' ⟨T, x', y', rfl, hT, rfl, hx', hy'⟩
  have z1 := hx' vs hv
  have z2 := hy' us hu
  rw [ev] at z1; cases z1
  rw [eu] at z2; cases z2
  have le' := Le.new (o := HO.tup [v, u]) (rp.free hT)
  refine ⟨upd F T (.tup [v, u]), le', rp.new hT, ?_⟩
  simp only [Is]
  exact ⟨T, _, rfl, SqT.of upd_same, IsL.cons (iv.mono le' (List.prefix_refl _)) (IsL.cons (iu.mono le' (List.prefix_refl _)) IsL.nil)⟩
def giEnum (a : GA') : GI' := fun Γ M => (a Γ M).bind fun xs M1 => match xs with
  | [x] => (match lstIt x M1 with
    | some (l, keep) => .ok (enumD l, keep) M1
    | none => .no)
  | _ => .no
theorem gi_enum (hK : X.K = W.K) (hg : Gl X "enumerate") (hm : X.mg "enumerate" = none) (ha : GA X W E [a] gs) (hs : starEach [a] X.env = [(false, eval a X.env)] := by rfl) : GI X W E (.Tuple elts kk tpos) (.Call (.Name "enumerate" p) [a] [] pos) (giEnum gs) :=
  mI (pi_enum hg hm ha hs) fun σ H Q ⟨ξ, Γ, M, F, ρ, en, rp, po⟩ => ⟨ξ, Γ, M, F, ρ, en, rp, (Po.bind (rel := IsL W) po).imp (by
    rintro vs H1 ⟨xs, M1, F1, ρ1, e1, p1, rp1, is, po1⟩
    split at po1
    · rename_i x
      obtain ⟨v, rfl, ix⟩ := one_of is
      split at po1
      · rename_i l keep el
        obtain ⟨k0, q, rfl, hq⟩ := lstIt_ok rp1 ix el
        obtain ⟨ys, h1, _⟩ := hq ξ M1 F1 H1 ρ1 Le.rfl' (List.prefix_refl _) rp1 k0
        rw [hK]
        exact ⟨q, ys, rfl, h1, po1 _ F1 ρ1 H1 Le.rfl' (List.prefix_refl _) rp1 (good_enum fun ξ M F H ρ le pr rp hk => hq ξ M F H ρ le pr rp hk)⟩
      · exact po1.elim
    · exact po1.elim)⟩
def giZip (a : GA') : GI' := fun Γ M => (a Γ M).bind fun xs M1 => match xs with
  | [x, y] => (match lstIt x M1, lstIt y M1 with
    | some (l, keep), some (m, keep2) => .ok (zipD l m, fun N => keep N ∧ keep2 N) M1
    | _, _ => .no)
  | _ => .no
theorem gi_zip (hK : X.K = W.K) (hg : Gl X "zip") (hm : X.mg "zip" = none) (ha : GA X W E [a, b] gs) (hs : starEach [a, b] X.env = (false, eval a X.env) :: starEach [b] X.env := by rfl) (hpl : (backTo pos (starEach [b] X.env)).any (·.1) = false := by rfl) :
    GI X W E (.Tuple elts kk tpos) (.Call (.Name "zip" p) [a, b] [] pos) (giZip gs) :=
  mI (pi_zip hg hm ha hs hpl) fun σ H Q ⟨ξ, Γ, M, F, ρ, en, rp, po⟩ => ⟨ξ, Γ, M, F, ρ, en, rp, (Po.bind (rel := IsL W) po).imp (by
    rintro vs H1 ⟨xs, M1, F1, ρ1, e1, p1, rp1, is, po1⟩
    split at po1
    · rename_i x y
      obtain ⟨v, u, rfl, ix, iy⟩ := two_of is
      split at po1
      · rename_i l keep m keep2 el em
        obtain ⟨k0, q, rfl, hq⟩ := lstIt_ok rp1 ix el
        obtain ⟨k1, r, rfl, hr⟩ := lstIt_ok rp1 iy em
        obtain ⟨ys, h1, _⟩ := hq ξ M1 F1 H1 ρ1 Le.rfl' (List.prefix_refl _) rp1 k0
        obtain ⟨zs, h2, _⟩ := hr ξ M1 F1 H1 ρ1 Le.rfl' (List.prefix_refl _) rp1 k1
        rw [hK]
        exact ⟨q, r, ys, zs, rfl, h1, h2, po1 _ F1 ρ1 H1 Le.rfl' (List.prefix_refl _) rp1 (good_zip (fun ξ M F H ρ le pr rp hk => hq ξ M F H ρ le pr rp hk) (fun ξ M F H ρ le pr rp hk => hr ξ M F H ρ le pr rp hk))⟩
      · exact po1.elim
    · exact po1.elim)⟩
/-! ### {'k': e} -/
theorem Rp.drop {M : Stor} {F H : Hp} {ρ : List Addr} {z : Addr × HO} (h : Rp W (z :: ξ) M F H ρ) : Rp W ξ M F H ρ :=
  ⟨h.sub, h.len, h.nd, h.obj, fun q hq => h.xt q (List.mem_cons_of_mem _ hq), fun t ht => by
    obtain ⟨t1, t2, t3⟩ := h.tb t ht
    exact ⟨t1, fun q hq => t2 q (List.mem_cons_of_mem _ hq), t3⟩⟩
def gDct1 (k : Str) (v : GE') : GE' := fun Γ M => (v Γ M).bind fun d M1 => .ok (.dct [.inr k] [d]) M1
theorem ge_dct1 {k : Str} {j : _} {pk : Pos} (hv : GE X W E e ge) : GE X W E (.Dict [some (.Constant (.str k) j pk)] [e] pos) (gDct1 k ge) := by
  refine mE (pe_disp (pps_cons (pe_str (x := k)) hv pps_nil) rfl rfl (by simp) (by show 1 ≤ 15; decide)) fun σ H Q ⟨ξ, Γ, M, F, ρ, en, rp, po⟩ q nq => ?_
  have rp1 : Rp W ((q, .dK []) :: ξ) M F (upd H q (.dK [])) ρ := rp.aside nq
  refine ⟨(q, .dK []) :: ξ, Γ, M, F, ρ, en, rp1, ?_⟩
  unfold gDct1 at po
  cases eg : ge Γ M with
  | no => rw [eg] at po; exact po.elim
  | ex c fs M1 =>
    rw [eg] at po
    exact fun dx F' ρ' H' le pr rp' xc => po dx F' ρ' H' le pr rp'.drop xc
  | ok d M1 =>
    rw [eg] at po
    intro v F' ρ' H' le pr rp' iv
    obtain ⟨x1, x2, x3⟩ := rp'.xt _ List.mem_cons_self
    refine ⟨x1, [(.inr k, v)], rfl, by simp, ?_⟩
    have nd : ∀ r ∈ ξ, r.1 ≠ q := fun r hr z => by
      obtain ⟨y1, _, _⟩ := rp.xt r hr
      rw [z, nq] at y1; cases y1
    have rp2 := rp'.aset (ob' := .dK (mergeK [] [(.inr k, v)])) nd
    obtain ⟨rp3, le3⟩ := rp2.firmD nd
    refine po (.ref q) _ ρ' _ (le.tr le3) pr rp3 ?_
    simp only [Is]
    exact ⟨q, [v], rfl, upd_same, rfl, IsL.cons (iv.mono le3 (List.prefix_refl _)) IsL.nil⟩
end
end G

namespace G
open PySem PySem.Spec PyProof.Rows L2
/-! ### repr of data with dicts -/
def keyP : Key → PyData
  | .inl i => .int i
  | .inr x => .str x
mutual
def toPyX : D → Option PyData
  | .non => some .none
  | .bl b => some (.bool b)
  | .int i => some (.int i)
  | .str x => some (.str x)
  | .tup l => (toPyXL l).map PyData.tuple
  | .lst l => (toPyXL l).map PyData.list
  | .lck l => (toPyXL l).map PyData.list
  | .dct ks l => (toPyXL l).map fun ps => PyData.dict ((ks.map keyP).zip ps)
  | .ty _ => none
  | .ins _ _ => none
  | .cls _ => none
  | .ref _ => none
  | .exc _ _ _ => none
  | .lam _ _ _ _ _ => none
def toPyXL : List D → Option (List PyData)
  | [] => some []
  | d :: ds => match toPyX d, toPyXL ds with
    | some x, some xs => some (x :: xs)
    | _, _ => none
end
theorem toPyXL_len : ∀ {l : List D} {ps : List PyData}, toPyXL l = some ps → ps.length = l.length
  | [], _, e => by simp only [toPyXL, Option.some.injEq] at e; subst e; rfl
  | d :: ds, _, e => by
    simp only [toPyXL] at e
    cases e1 : toPyX d with
    | none => rw [e1] at e; cases e
    | some x =>
      cases e2 : toPyXL ds with
      | none => rw [e1, e2] at e; cases e
      | some xs => rw [e1, e2] at e; cases e; simp [toPyXL_len e2]
/-- the table of modules is a dict of the written part -/
structure SysK (K : PySem.W.Frag) : Prop where
  at_ : ∃ o es n, K.lookup sysModules = some o ∧ o.data = .dict es n
section
variable {X : Cx} {W : Wd} {ξ : Xi} {pins : List (Addr × Obj)} {σ : Sg} {F H : Hp} {ρ : List Addr} {s : Shared}
theorem not_sys (S : SysK X.K) (I : Inv X pins σ H s) {a : Addr} {o : Obj} {vs : Array Value} {n : Nat} (h : s.heap.get? a = some o) (hd : o.data = .seq vs n) : a ≠ sysModules := by
  intro z
  obtain ⟨o', es, m, lk, e⟩ := S.at_
  have := I.kIn _ _ lk
  rw [← z, h] at this
  cases this
  rw [hd] at e; cases e
theorem IsL.pair {kvs : List (Key × V)} {ks : List Key} {vs : List V} (hn : ks.length = vs.length) (e : kvs = ks.zip vs) : kvs.map (·.1) = ks ∧ kvs.map (·.2) = vs := by
  subst e
  exact ⟨by rw [List.map_fst_zip (by omega)], by rw [List.map_snd_zip (by omega)]⟩
mutual
theorem toPyX_reads (hK : X.K = W.K) (S : SysK X.K) (I : Inv X pins σ H s) (le : Le F H) : ∀ (d : D) {v : V} {u : Value} {p : PyData}, toPyX d = some p → Is W F ρ d v → RelV v u → ∃ as, Reads s.heap u p as ∧ sysModules ∉ as
  | .non, _, _, _, e, h, r => by simp only [toPyX, Option.some.injEq] at e; simp only [Is] at h; subst e; subst h; cases r; exact ⟨_, Reads.none, by simp⟩
  | .bl b, _, _, _, e, h, r => by simp only [toPyX, Option.some.injEq] at e; simp only [Is] at h; subst e; subst h; cases r; exact ⟨_, Reads.bool b, by simp⟩
  | .int i, _, _, _, e, h, r => by simp only [toPyX, Option.some.injEq] at e; simp only [Is] at h; subst e; subst h; obtain ⟨t, rfl⟩ := r; exact ⟨_, Reads.int i t, by simp⟩
  | .str x, _, _, _, e, h, r => by simp only [toPyX, Option.some.injEq] at e; simp only [Is] at h; subst e; subst h; obtain ⟨t, rfl⟩ := r; exact ⟨_, Reads.str x t, by simp⟩
  | .tup l, _, _, _, e, h, r => by
    simp only [toPyX, Option.map_eq_some_iff] at e; obtain ⟨l', el, rfl⟩ := e
    simp only [Is] at h; obtain ⟨a, vs, rfl, q, hl⟩ := h
    cases r
    obtain ⟨its, rv, ⟨o, ho, hc, n, hd⟩, _⟩ := I.tuple (by rw [hK]; exact le.sqT q)
    obtain ⟨as, hr, ns⟩ := toPyXL_reads hK S I le l el hl rv
    exact ⟨_, Reads.tuple ho hc hd hr, ns⟩
  | .lst l, _, _, _, e, h, r => by
    simp only [toPyX, Option.map_eq_some_iff] at e; obtain ⟨l', el, rfl⟩ := e
    simp only [Is] at h; obtain ⟨a, vs, rfl, q, hl⟩ := h
    cases r
    obtain ⟨its, rv, ⟨o, n, ho, hc, _, hd⟩, _⟩ := I.list (SqL.of (le _ _ q))
    obtain ⟨as, hr, ns⟩ := toPyXL_reads hK S I le l el hl rv
    refine ⟨_, Reads.list ho hc hd hr, ?_⟩
    have := not_sys S I ho hd
    simp only [List.mem_cons, not_or]
    exact ⟨this.symm, ns⟩
  | .lck l, _, _, _, e, h, r => by
    simp only [toPyX, Option.map_eq_some_iff] at e; obtain ⟨l', el, rfl⟩ := e
    simp only [Is] at h; obtain ⟨a, vs, rfl, q, hl⟩ := h
    cases r
    obtain ⟨its, rv, ⟨o, n, ho, hc, _, hd⟩, _⟩ := I.list (by rw [hK]; exact le.sqL q)
    obtain ⟨as, hr, ns⟩ := toPyXL_reads hK S I le l el hl rv
    refine ⟨_, Reads.list ho hc hd hr, ?_⟩
    have := not_sys S I ho hd
    simp only [List.mem_cons, not_or]
    exact ⟨this.symm, ns⟩
  | .dct ks l, _, _, _, e, h, r => by
    simp only [toPyX, Option.map_eq_some_iff] at e; obtain ⟨ps, el, rfl⟩ := e
    simp only [Is] at h; obtain ⟨a, vs, rfl, q, hn, hl⟩ := h
    cases r
    obtain ⟨_, hsys, us, kv, ⟨o, es, ep, ho, hx, hd, _, prs, _⟩⟩ := dk_of I.hok (le _ _ q)
    have hz : ks.length = vs.length := by rw [hn, hl.len]
    have key : ∀ {ks : List Key} {vs : List V} {us : List (Key × Value)} {el : List DictEntry}, ks.length = vs.length → KV (ks.zip vs) us → Pairs (mixKind X.prog X.w) el us → ReadsAll s.heap (el.map (·.key)) (ks.map keyP) [] ∧ Vals vs (el.map (·.val)) := by
      intro ks
      induction ks with
      | nil =>
        intro vs us el hl kv prs
        cases vs with
        | nil =>
          cases kv; cases prs
          exact ⟨ReadsAll.nil, .nil⟩
        | cons _ _ => cases hl
      | cons k ks ih =>
        intro vs us el hl kv prs
        cases vs with
        | nil => cases hl
        | cons v vs =>
          cases kv with
          | cons h t =>
            obtain ⟨hk, hv⟩ := h
            cases prs with
            | cons hi hval tp =>
              obtain ⟨i1, i2⟩ := ih (by simpa using hl) t tp
              rename_i kv' kvs' e es'
              refine ⟨?_, ?_⟩
              · have rd : Reads s.heap e.key (keyP k) [] := by
                  have hk' : k = kv'.1 := hk
                  rcases keyIs_shape (k := kv'.1) (v := e.key) hi with ⟨i, t', e1, e2⟩ | ⟨y, t', e1, e2⟩
                  · rw [e2, hk', e1]; exact Reads.int i t'
                  · rw [e2, hk', e1]; exact Reads.str y t'
                exact ReadsAll.cons rd i1
              · exact .cons (by show RelV v e.val; rw [hval]; exact hv) i2
    obtain ⟨rk, rv⟩ := key hz kv prs
    obtain ⟨bs, hr, ns⟩ := toPyXL_reads hK S I le l el hl rv
    have pl : ps.length = ks.length := by rw [toPyXL_len el, hn]
    have m1 : ((ks.map keyP).zip ps).map (·.1) = ks.map keyP := List.map_fst_zip (by simp [pl])
    have m2 : ((ks.map keyP).zip ps).map (·.2) = ps := List.map_snd_zip (by simp [pl])
    refine ⟨_, Reads.dict ho hx.1 hd (by rw [m1]; exact rk) (by rw [m2]; exact hr), ?_⟩
    have na : sysModules ≠ a := fun z => by rw [z] at hsys; simp at hsys
    simp [na, ns]
  | .ty _, _, _, _, e, _, _ => by simp only [toPyX] at e; cases e
  | .ins _ _, _, _, _, e, _, _ => by simp only [toPyX] at e; cases e
  | .cls _, _, _, _, e, _, _ => by simp only [toPyX] at e; cases e
  | .ref _, _, _, _, e, _, _ => by simp only [toPyX] at e; cases e
  | .exc _ _ _, _, _, _, e, _, _ => by simp only [toPyX] at e; cases e
  | .lam _ _ _ _ _, _, _, _, e, _, _ => by simp only [toPyX] at e; cases e
theorem toPyXL_reads (hK : X.K = W.K) (S : SysK X.K) (I : Inv X pins σ H s) (le : Le F H) : ∀ (ds : List D) {vs : List V} {us : List Value} {ps : List PyData}, toPyXL ds = some ps → IsL W F ρ ds vs → Vals vs us → ∃ as, ReadsAll s.heap us ps as ∧ sysModules ∉ as
  | [], _, _, _, e, h, r => by simp only [toPyXL, Option.some.injEq] at e; subst e; rw [IsL.nil_iff] at h; subst h; cases r; exact ⟨_, ReadsAll.nil, by simp⟩
  | d :: ds, _, _, _, e, h, r => by
    obtain ⟨v, t, rfl, h1, h2⟩ := IsL.cons_iff.mp h
    simp only [toPyXL] at e
    cases r with
    | cons r1 r2 =>
      cases e1 : toPyX d with
      | none => rw [e1] at e; cases e
      | some x =>
        cases e2 : toPyXL ds with
        | none => rw [e1, e2] at e; cases e
        | some xs =>
          rw [e1, e2] at e
          cases e
          obtain ⟨as, q1, n1⟩ := toPyX_reads hK S I le d e1 h1 r1
          obtain ⟨bs, q2, n2⟩ := toPyXL_reads hK S I le ds e2 h2 r2
          exact ⟨_, ReadsAll.cons q1 q2, by simp [n1, n2]⟩
end
def reprOkX (p : PyData) : Bool := p.showable && decide (p.depth ≤ 60) && decide (p.shown.length ≤ 1000000)
/-- repr of lists of data, with dicts in them -/
def fReprX : List D → Stor → R D := fun ds M => match ds with
  | [.lst l] => (match toPyXL l with
    | some ps => if reprOkX (.list ps) then .ok (.str (PyData.list ps).shown) M else .no
    | none => .no)
  | _ => .no
theorem cg_reprX {E : Sg → XK} (hK : X.K = W.K) (S : SysK X.K) (gd : X.A.guards = some []) (hu : X.A.units + 64 < cLine) : CallG X W E (.builtin "repr") fReprX := by
  intro ξ pins s σ H M F ρ ds vs us Q I rv rp is po
  unfold fReprX at po
  split at po
  · rename_i l
    obtain ⟨v, rfl, ix⟩ := one_of is
    split at po
    · rename_i ps ep
      split at po
      · rename_i hz
        simp only [reprOkX, Bool.and_eq_true, decide_eq_true_eq] at hz
        obtain ⟨u, rfl, ru⟩ := vals1 rv
        obtain ⟨as, rd, ns⟩ := toPyX_reads hK S I rp.sub (.lst l) (p := .list ps) (by simp only [toPyX, ep, Option.map_some]) ix ru
        have ix' := ix
        simp only [Is] at ix'
        obtain ⟨a, xs, rfl, _, _⟩ := ix'
        cases ru
        refine repr_of_reads' rd hz.1.1 (fun _ => ns) gd (by have := hz.1.2; omega) (fun b o e => e) (fun h' u tk hk => ?_) (small_line hz.2)
        exact ⟨.str _, H, I.kept hk, ⟨u, rfl⟩, po.now rp (flat_str F ρ)⟩
      · exact po.elim
    · exact po.elim
  · exact po.elim
end
/-! ### the head's facts, with the table of modules -/
def fxSys : Fx := fun K => match K.lookup sysModules with
  | some o => (match o.data with
    | .dict _ _ => true
    | _ => false)
  | none => false
theorem sys_of {K : PySem.W.Frag} (h : fxSys K = true) : SysK K := by
  unfold fxSys at h
  split at h
  · rename_i o lk
    split at h
    · rename_i es n hd
      exact ⟨o, es, n, lk, hd⟩
    · cases h
  · cases h
def asS (g : Addr → Option Obj) (n : Nat) : List Addr := He5.asA g n ++ [sysModules]
def obsSG (n : Nat) (fa : List He.Fa) (fx : List Fx) (fn : List He5.DefA) (g : Addr → Option Obj) : He.AlD := obsE fa fx fn (He.frG g (asS g n))
def hookS (n : Nat) (fa : List He.Fa) (fx : List Fx) (fn : List He5.DefA) : PySem.W.Hook where
  α := He.AlD
  obs := fun s => obsSG n fa fx fn s.heap.get?
  val := fun _ => He5.valA fn
  says := fun _ h => ∃ K : PySem.W.Frag, K.In h ∧ SaysE fa fx fn K
  of := fun _ _ e => ⟨_, He.frG_in, e⟩
  keeps := fun _ _ _ ⟨K, hK, c⟩ k => ⟨K, PySem.W.Frag.In.keeps hK k, c⟩
theorem obsSG_eq {n : Nat} {fa : List He.Fa} {fx : List Fx} {fn : List He5.DefA} {g : Addr → Option Obj} {s : Shared} (h : ∀ a, g a = s.heap.get? a) : obsSG n fa fx fn g = (hookS n fa fx fn).obs s := by
  have e : g = s.heap.get? := funext h
  subst e; rfl
end G

namespace G
open PySem PySem.Spec PyProof.Rows L2
/-! ### a table of isinstance's answers as rows -/
def ckEq : CK → CK → Bool
  | .ty n, .ty m => n == m
  | .own c, .own d => c == d
  | _, _ => false
theorem ckEq_ok : ∀ {a b : CK}, ckEq a b = true → a = b
  | .ty n, .ty m, h => by simp only [ckEq, beq_iff_eq] at h; rw [h]
  | .own n, .own m, h => by simp only [ckEq, beq_iff_eq] at h; rw [h]
  | .ty _, .own _, h => by cases h
  | .own _, .ty _, h => by cases h
def rowTab (rows : List (Nat × CK × Bool)) : Nat → CK → Option Bool := fun c k => (rows.find? fun r => r.1 == c && ckEq r.2.1 k).map (·.2.2)
def fxRows (T : PySem.W.Frag → Nat → Addr) (rows : List (Nat × CK × Bool)) : Fx := fun K => rows.all fun r => decide (PySem.W.kitOne K (.ref (T K r.1)) (match r.2.1 with
  | .ty n => .type n
  | .own c => .ref (T K c)) = some r.2.2)
theorem rows_of {T : PySem.W.Frag → Nat → Addr} {rows : List (Nat × CK × Bool)} {K : PySem.W.Frag} {fn : Nat → List Str} {tb : List (Addr × Str)} (h : fxRows T rows K = true) : IsiEOk ⟨K, T K, fn, tb⟩ (rowTab rows) := by
  intro c k b e
  unfold rowTab at e
  simp only [Option.map_eq_some_iff] at e
  obtain ⟨r, er, rfl⟩ := e
  have m := List.mem_of_find?_eq_some er
  have p := List.find?_some er
  simp only [Bool.and_eq_true, beq_iff_eq] at p
  obtain ⟨p1, p2⟩ := p
  have p2 := ckEq_ok p2
  have q := of_decide_eq_true (List.all_eq_true.mp h r m)
  subst p1
  rw [← p2]
  unfold ckV
  generalize r.2.1 = z at q ⊢
  cases z <;> exact q
/-- [e for x in xs if t] -/
theorem comp_filtF {keep : Stor → Prop} {t : Tgt} {tt : GT'} {te : GE'} {Γ : Gam} {M : Stor} (hk : keep M) (q : D → Bool) (f : D → D) : ∀ (l acc : List D), acc.length + l.length < 1000000 →
    (∀ d ∈ l, ∃ Γ1, t.run d Γ = some Γ1 ∧ tt Γ1 M = .ok (q d) M ∧ te Γ1 M = .ok (f d) M) → compG keep t tt te Γ l M acc = .ok (acc ++ (l.filter q).map f) M
  | [], acc, _, _ => by unfold compG; simp
  | d :: ds, acc, hl, h => by
    obtain ⟨Γ1, e1, e2, e3⟩ := h d List.mem_cons_self
    simp only [List.length_cons] at hl
    have ih := fun acc' hl' => comp_filtF (t := t) (tt := tt) (te := te) (Γ := Γ) hk q f ds acc' hl' fun d' hd => h d' (List.mem_cons_of_mem _ hd)
    unfold compG
    cases hq : q d with
    | true =>
      rw [hq] at e2
      simp only [e1, e2, e3]
      rw [if_pos ⟨hk, by omega⟩, ih (acc ++ [f d]) (by simp; omega)]
      simp [hq]
    | false =>
      rw [hq] at e2
      simp only [e1, e2]
      rw [if_pos hk, ih acc (by omega)]
      simp [hq]
theorem comp_filt {it : GI'} {t : Tgt} {tt : GT'} {te : GE'} {Γ : Gam} {M : Stor} {l : List D} {keep : Stor → Prop} (hi : it Γ M = .ok (l, keep) M) (hk : keep M) (q : D → Bool) (f : D → D) (hl : l.length < 1000000)
    (h : ∀ d ∈ l, ∃ Γ1, t.run d (wipeG Γ t.slots) = some Γ1 ∧ tt Γ1 M = .ok (q d) M ∧ te Γ1 M = .ok (f d) M) : gComp it t tt te Γ M = .ok (.lst ((l.filter q).map f)) M := by
  unfold gComp
  rw [hi]
  simp only [R.bind_ok, hk, if_true]
  rw [comp_filtF hk q f l [] (by simpa using hl) h]
  simp
end G

namespace G
open PySem PySem.Spec PyProof.Rows L2 ClX
section
variable {X : Cx} {W : Wd} {ξ : Xi} {E : Sg → XK} {a b e o tg : Expr} {es : List Expr} {ga gb go ge : GE'} {gs : GA'} {pos pos' p2 p apos kpos tpos : Pos} {x : Str}
/-! ### a sign in a text -/
def dInS : D → D → Stor → R D := fun x y M => match x, y with
  | .str i, .str z => (match i.cps.toList with
    | [c] => .ok (.bl (decide (c ∈ z.cps.toList))) M
    | _ => .no)
  | _, _ => .no
def dNotInS : D → D → Stor → R D := fun x y M => match x, y with
  | .str i, .str z => (match i.cps.toList with
    | [c] => .ok (.bl (!decide (c ∈ z.cps.toList))) M
    | _ => .no)
  | _, _ => .no
theorem one_sign {i : Str} {c : Nat} (h : i.cps.toList = [c]) : i = ⟨#[c]⟩ := by
  obtain ⟨⟨l⟩⟩ := i
  simp only at h
  subst h; rfl
theorem og_inS : OpG X W E (compareOp .In) dInS := OpG.of op_in_sign fun ξ M F H ρ x y vx vy Q Z rp ix iy po => by
  unfold dInS at po
  split at po
  · rename_i i z
    split at po
    · rename_i c hc
      have := one_sign hc
      subst this
      simp only [Is] at ix iy
      subst ix; subst iy
      exact ⟨c, z, rfl, rfl, po.now rp (flat_bl F ρ)⟩
    · exact po.elim
  · exact po.elim
theorem og_notInS : OpG X W E (compareOp .NotIn) dNotInS := OpG.of op_notIn_sign fun ξ M F H ρ x y vx vy Q Z rp ix iy po => by
  unfold dNotInS at po
  split at po
  · rename_i i z
    split at po
    · rename_i c hc
      have := one_sign hc
      subst this
      simp only [Is] at ix iy
      subst ix; subst iy
      exact ⟨c, z, rfl, rfl, po.now rp (flat_bl F ρ)⟩
    · exact po.elim
  · exact po.elim
/-! ### int(text) -/
def fIntS : List D → Stor → R D := fun ds M => match ds with
  | [.str a] => (match PySem.intText? a with
    | some n => if a.length ≤ 640 then .ok (.int n) M else .no
    | none => .no)
  | _ => .no
theorem cg_intS : CallG X W E (.type "int") fIntS := CallG.of call_int_str fun ξ M F H ρ ds vs Q Z rp is po => by
  unfold fIntS at po
  split at po
  · rename_i a
    obtain ⟨v, rfl, ix⟩ := one_of is
    simp only [Is] at ix; subst ix
    split at po
    · rename_i n hn
      split at po
      · rename_i hl
        exact ⟨a, n, rfl, hn, hl, po.now rp (flat_int F ρ)⟩
      · exact po.elim
    · exact po.elim
  · exact po.elim
/-! ### C.m(..), m a classmethod -/
theorem run_gC {k : Nat} {f : Addr} {ps : List Str} {g : List D → Stor → R D} {pins : List (Addr × Obj)} {σ : Sg} {H : Hp} {s : Shared} {Q : VK} {us : List Value} {vs : List V}
    (h : FnB X.prog X.w W X.mg X.base k f ps g) (hK : X.K = W.K) (hr : Room k X.A) (gd : X.A.guards = some []) (hx : Pass X E)
    (I : Inv X pins σ H s) (r : Vals vs us) (sp : spG W g vs H Q (E σ)) : codeAny (model X.prog X.w) X.A (.call (.ref f) ⟨us, []⟩) (fun r s' => match r with
      | .ok (.ret v) => EP X pins σ Q v s'
      | .ok _ => False
      | .error e => X.xe e s') s := by
  obtain ⟨fd, F, hb⟩ := h.ex
  have hlen : us.length = ps.length := by rw [← r.length, F.len _ _ _ _ sp]
  have e0 := I.env0
  rw [hK] at e0
  have hb' := hb s us (by rw [← hK]; exact I.kIn) (by rw [List.append_nil]; exact hlen)
  rw [List.append_nil] at hb'
  refine codeAny_mono (F.run X.A X.stack s H ⟨us, []⟩ us vs Q (E σ) hr gd e0 hb' r sp) fun res s' out => ?_
  cases res with
  | error er => exact hx σ pins H s er s' I out
  | ok fl =>
    cases fl with
    | ret u => exact I.after out
    | next => exact out.elim
    | brk => exact out.elim
    | cont => exact out.elim
theorem ge_cmeth {m : Str} {c n : Nat} {q f : Addr} {mc : Value} {ps : List Str} {g : List D → Stor → R D} {pl : Sem Bool} (h : FnB X.prog X.w W X.mg X.base n f ps g) (hK : X.K = W.K) (hr : Room n X.A) (gd : X.A.guards = some []) (hx : Pass X E) (r : CRead X.K (W.T c) mc) (k : CMet X.K (W.T c) mc m q f) (ho : GE X W E o (gC (.cls c))) (ha : GA X W E (e :: es) gs)
    (he : starEach (e :: es) X.env = (false, eval e X.env) :: starEach es X.env := by rfl) (hpl : (backTo pos (starEach es X.env)).any (·.1) = false := by rfl)
    (ht : eval (.Call (.Attribute o m apos) (e :: es) [] pos) X.env = (do
      let ov ← eval o X.env
      standAt apos.atName
      let (f, first) ← holding [ov] (getMethod ov m pl)
      callWith pos f first (backTo pos (starEach (e :: es) X.env)) (backToKw pos (keywordEach [] X.env))) := by rfl) : GE X W E (.Call (.Attribute o m apos) (e :: es) [] pos) (gCall (fun ds M => g (.cls c :: ds) M) gs) := by
  refine ⟨fun pins s σ H Q I ⟨ξ, Γ, M, F, ρ, en, rp, po⟩ => ?_⟩
  refine PySem.W.methodCall_KW (pl := pl) (thn (ho.run pins s σ H (fun v H1 => v = .ref (W.T c) ∧ ∃ F1 ρ1, Le F F1 ∧ ρ <+: ρ1 ∧ Rp W ξ M F1 H1 ρ1) I ⟨ξ, Γ, M, F, ρ, en, rp, fun v F1 ρ1 H1 le pr rp1 is => ⟨by simpa only [Is] using is, F1, ρ1, le, pr, rp1⟩⟩) ?_) ht
  rintro u s1 ⟨v, H1, I1, r1, rfl, F1, ρ1, le, pr, rp1⟩
  cases r1
  refine getmethcm_ok I1 r k fun s2 I2 => ?_
  refine callwith_cm I2 (base_none I1 (Nat.le_refl _)) k.fi (thn (ha.run pos _ s2 σ H1 _ I2 ⟨ξ, Γ, M, F1, ρ1, en.mono le pr, rp1, (po.mono le pr).bind⟩) ?_) he hpl
  rintro us s3 ⟨vs, H2, I3, rv, ds, M2, F2, ρ2, e2, p2, rp2, is, po2⟩
  refine ⟨⟨pin_at I3, I3.kIn⟩, ?_⟩
  refine thn (wpAny_call (PySem.W.method_call (pin_at I3) (run_gC h hK hr gd hx I3 (us := .ref (W.T c) :: us) (vs := .ref (W.T c) :: vs) (.cons rfl rv) ⟨ξ, .cls c :: ds, M2, F2, ρ2, IsL.cons (by simp only [Is]) is, rp2, po2⟩))) fun _ _ y => unpinE y
/-! ### x(..), the variable x holds a class -/
def gCallV (i c : Nat) (g : List D → Stor → R D) (gs : GA') : GE' := fun Γ M => match Γ[i]? with
  | some (some (.cls c')) => if c' = c then gCall g gs Γ M else .no
  | _ => .no
theorem ge_callV {i c : Nat} {g : List D → Stor → R D} (hc : CallG X W E (.ref (W.T c)) g) (hv : PE X (.Name x p) (tVar i)) (hk : PySem.W.keepIn X.K (.ref (W.T c)) = true) (ha : GA X W E (e :: es) gs)
    (hdb : (x == ("__debug__" : Str)) = false := by decide) (he : starEach (e :: es) X.env = (false, eval e X.env) :: starEach es X.env := by rfl) (hpl : (backTo pos (starEach es X.env)).any (·.1) = false := by rfl) :
    GE X W E (.Call (.Name x p) (e :: es) [] pos) (gCallV i c g gs) := by
  refine ⟨fun pins s σ H Q I ⟨ξ, Γ, M, F, ρ, en, rp, po⟩ => ?_⟩
  unfold gCallV at po
  split at po
  · rename_i c' hd
    split at po
    · rename_i ec
      subst ec
      obtain ⟨v, e1, is⟩ := en.at_ i _ hd
      simp only [Is] at is
      subst is
      refine wpAny_Call_Name_kw (thn (hv.run pins s σ H (fun v H1 => v = .ref (W.T c') ∧ H1 = H) I ⟨_, e1, rfl, rfl⟩) ?_)
      rintro u s1 ⟨v, H1, I1, r1, rfl, rfl⟩
      cases r1
      refine PySem.W.callWith_K (h₀ := X.base) I.ok.mod.kin hk (thn (ha.run pos pins s1 σ _ _ I1 ⟨ξ, Γ, M, F, ρ, en, rp, po.bind⟩) ?_) he hpl
      rintro us s2 ⟨vs, H2, I2, r, ds, M2, F2, ρ2, e2, p2, rp2, is2, po2⟩
      exact ⟨I2.kIn, hc ξ pins s2 σ H2 M2 F2 ρ2 ds vs us Q I2 r rp2 is2 po2⟩
    · exact po.elim
  · exact po.elim
end
end G

namespace G
open PySem PySem.Spec PyProof.Rows L2
section
variable {X : Cx} {W : Wd} {ξ : Xi} {E : Sg → XK}
/-! ### lists of different lengths are not equal -/
def rEqLen (K : PySem.W.Frag) : R2 := fun x y H Q => ∃ a b xs ys, x = .ref a ∧ y = .ref b ∧ SqL K H a xs ∧ SqL K H b ys ∧ xs.length ≠ ys.length ∧ Q (.bl false) H
theorem op_eqLen (hu : X.A.units < cLine) : OpR X (compareOp .Eq) (rEqLen X.K) := by
  intro pins s σ H x y v u Q I rx ry h
  obtain ⟨a, b, xs, ys, rfl, rfl, qa, qb, hl, q⟩ := h
  cases rx; cases ry
  obtain ⟨its, r, pl, _⟩ := I.list qa
  obtain ⟨its2, r2, pl2, _⟩ := I.list qb
  obtain ⟨⟨cls, dd, data, sl⟩, ho, hc, n, hd⟩ := pl.isList
  obtain ⟨⟨cls2, dd2, data2, sl2⟩, ho2, hc2, n2, hd2⟩ := pl2.isList
  simp only at hc hd hc2 hd2
  subst hc hd hc2 hd2
  have hne : (its.toArray.size != its2.toArray.size) = true := by
    have e1 := r.length
    have e2 := r2.length
    simp only [List.size_toArray, bne_iff_ne]
    omega
  show wpAny (model X.prog X.w) X.A (richCompare .Eq (.ref a) (.ref b)) (EP X pins σ Q) X.xe s
  refine wpAny_richCompare_same_room (op := .Eq) ⟨_, ho, rfl⟩ ⟨_, ho2, rfl⟩ F.slot_list_eq (GQ.call_here F.slot_list_eq ⟨_, ho, rfl⟩ F.entry_list_eq (F.args_list_eq_2 _ _) ?_) hu
  exact SeqAt.list_eq_lengthsAt a b its.toArray its2.toArray n n2 dd dd2 sl sl2 hne X.prog X.w X.A _ s ⟨ho, ho2, (fun x => nomatch x), ⟨.bl false, H, I, rfl, q⟩⟩
def dEqLen : D → D → Stor → R D := fun x y M => match lstOf x M, lstOf y M with
  | some l, some m => if l.length = m.length then .no else .ok (.bl false) M
  | _, _ => .no
theorem og_eqLen (hK : X.K = W.K) (hu : X.A.units < cLine) : OpG X W E (compareOp .Eq) dEqLen := OpG.of (op_eqLen hu) fun ξ M F H ρ x y vx vy Q Z rp ix iy po => by
  unfold dEqLen at po
  split at po
  · rename_i l m el em
    split at po
    · exact po.elim
    · rename_i hn
      obtain ⟨a, xs, rfl, qa, la⟩ := lstOf_ok rp ix el
      obtain ⟨b, ys, rfl, qb, lb⟩ := lstOf_ok rp iy em
      rw [← hK] at qa qb
      exact ⟨a, b, xs, ys, rfl, rfl, qa, qb, by rw [la.len, lb.len]; exact hn, po.now rp (flat_bl F ρ)⟩
  · exact po.elim
end
end G

namespace G
open PySem PySem.Spec PyProof.Rows L2
open AutoSeq1 (wpAny_loadPart')
open MeetsSeq MeetsSeq2 MeetsSeq3 SeqRoads2 PySem.SeqAt
/-! ### x in a list of own things -/
section
variable {prog : Program} {w : World} {A : Around} {R : Result → Shared → Prop}
def ContI (prog : Program) (w : World) (A : Around) (R : Result → Shared → Prop) (l : Addr) (x : Value) (N : Nat) (I : Nat → Shared → Prop) : Prop :=
  ∀ i s, I i s → ∃ (items : Array Value) (n : Nat) (dd : Option Addr) (sl : Array (Option Value)), s.heap.get? l = some { cls := .type "list", dict := dd, data := .seq items n, slots := sl } ∧ items.size = N ∧
    ∀ (h1 : i < items.size), wpAny (model prog w) A.in1 (eqBool items[i] x) (fun r s' => (r = true ∧ R (.ok (.ret (.bool true))) s') ∨ (r = false ∧ I (i + 1) s')) (fun e s' => R (.error e) s') s
theorem cont_loopG (l : Addr) (x : Value) (N : Nat) (I : Nat → Shared → Prop) (hl : ContI prog w A R l x N I) (fin : ∀ s, I N s → R (.ok (.ret (.bool false))) s) (k : Nat) :
    ∀ i : Nat, N - i = k → i ≤ N → ∀ s, I i s →
      wpAny (model prog w) A.in1 (Builtin.«list.__contains__.loop» ⟨[.ref l, x, rawInt i], []⟩) (GQ.FinOf prog w A R) (fun e s' => R (.error e) s') s := by
  induction k with
  | zero =>
    intro i hk hi s h
    obtain ⟨items, n, dd, sl, hl1, hs1, _⟩ := hl _ _ h
    have hi' : i = N := by omega
    have hR : R (.ok (.ret (.bool false))) s := fin s (hi' ▸ h)
    obtain ⟨hp, g, d, tk, os⟩ := s
    wp_walk using wpAny_loadPart' hl1
    have hi1 : items[((i : Nat) : Int).toNat]? = none := by simp; omega
    rw [hi1]
    wp_walk
    exact hR
  | succ k ih =>
    intro i hk hi s h
    obtain ⟨items, n, dd, sl, hl1, hs1, turn⟩ := hl _ _ h
    have hlt : i < items.size := by omega
    have ht := turn hlt
    obtain ⟨hp, g, d, tk, os⟩ := s
    wp_walk using wpAny_loadPart' hl1
    have hi1 : items[((i : Nat) : Int).toNat]? = some items[i] := by simp [hlt]
    have hc : ((i : Int) + 1) = ((i + 1 : Nat) : Int) := by omega
    rw [hi1]
    refine wpAny_bind (wpAny_mono ht (fun r s2 h2 => ?_) fun _ _ x => x)
    rcases h2 with ⟨hr, h2⟩ | ⟨hr, h2⟩
    · subst hr
      obtain ⟨hp2, g2, d2, tk2, os2⟩ := s2
      wp_walk
      exact h2
    · subst hr
      have hrec := ih (i + 1) (by omega) (by omega) s2 h2
      obtain ⟨hp2, g2, d2, tk2, os2⟩ := s2
      wp_walk
      rw [hc]
      exact ⟨plainId_quiet plain_contains_loop _, codeAny_builtin entry_contains_loop (by
        rw [Around.under_plainId plain_contains_loop _]
        exact hrec)⟩
theorem cont_listG (l : Addr) (x : Value) (N : Nat) (I : Nat → Shared → Prop) (hl : ContI prog w A R l x N I) (fin : ∀ s, I N s → R (.ok (.ret (.bool false))) s) {s : Shared} (h : I 0 s) :
    wpAny (model prog w) A.in1 (Builtin.«list.__contains__» ⟨[.ref l, x], []⟩) (GQ.FinOf prog w A R) (fun e s' => R (.error e) s') s := by
  have hrec := cont_loopG (A := A) (R := R) l x N I hl fin _ 0 rfl (Nat.zero_le _) s h
  obtain ⟨items, n, dd, sl, hl1, _, _⟩ := hl _ _ h
  obtain ⟨hp, g, d, tk, os⟩ := s
  wp_walk using wpAny_loadPart' hl1
  exact ⟨plainId_quiet plain_contains_loop _, codeAny_builtin entry_contains_loop (by
    rw [Around.under_plainId plain_contains_loop _]
    exact hrec)⟩
end
end G

namespace G
open PySem PySem.Spec PyProof.Rows L2
def isI : D → Bool
  | .int _ => true
  | _ => false
def insI (c : Nat) : D → Bool
  | .ins c' l => decide (c' = c) && l.all isI
  | _ => false
theorem ints_uniq {W : Wd} {F : Hp} {ρ : List Addr} : ∀ {l l' : List D} {vs : List V}, l.all isI = true → l'.all isI = true → IsL W F ρ l vs → IsL W F ρ l' vs → l = l'
  | [], [], _, _, _, _, _ => rfl
  | [], d :: ds, vs, _, _, h, h' => by
    have e1 := h.len
    have e2 := h'.len
    rw [e1] at e2
    simp at e2
  | d :: ds, [], vs, _, _, h, h' => by
    have e1 := h.len
    have e2 := h'.len
    rw [e1] at e2
    simp at e2
  | d :: ds, d' :: ds', vs, a, a', h, h' => by
    obtain ⟨v, r, rfl, h1, h2⟩ := IsL.cons_iff.mp h
    obtain ⟨v', r', e, h1', h2'⟩ := IsL.cons_iff.mp h'
    injection e with e1 e2
    subst e1; subst e2
    simp only [List.all_cons, Bool.and_eq_true] at a a'
    have t := ints_uniq a.2 a'.2 h2 h2'
    subst t
    cases d with
    | int i =>
      cases d' with
      | int j =>
        simp only [Is] at h1 h1'
        subst h1
        injection h1' with q
        rw [q]
      | _ => exact absurd a'.1 (by simp [isI])
    | _ => exact absurd a.1 (by simp [isI])
theorem ins_uniq {W : Wd} {F : Hp} {ρ : List Addr} {c : Nat} {d d' : D} {v : V} (a : insI c d = true) (a' : insI c d' = true) (h : Is W F ρ d v) (h' : Is W F ρ d' v) : d = d' := by
  cases d with
  | ins c1 l =>
    cases d' with
    | ins c2 l' =>
      simp only [insI, Bool.and_eq_true, decide_eq_true_eq] at a a'
      obtain ⟨rfl, a⟩ := a
      obtain ⟨e, a'⟩ := a'
      subst e
      simp only [Is] at h h'
      obtain ⟨q, dx, fvs, rfl, hq, _, is⟩ := h
      obtain ⟨q', dx', fvs', e, hq', _, is'⟩ := h'
      injection e with e
      subst e
      rw [hq] at hq'
      injection hq' with hq'
      injection hq' with _ _ e3
      subst e3
      rw [ints_uniq a a' is is']
    | _ => exact absurd a' (by simp [insI])
  | _ => exact absurd a (by simp [insI])
theorem ins_ref {W : Wd} {F : Hp} {ρ : List Addr} {c : Nat} {d : D} {v : V} (a : insI c d = true) (h : Is W F ρ d v) : ∃ q, v = .ref q := by
  cases d with
  | ins c1 l =>
    simp only [Is] at h
    obtain ⟨q, dx, fvs, rfl, _⟩ := h
    exact ⟨q, rfl⟩
  | _ => exact absurd a (by simp [insI])
open Classical in
noncomputable def inGo (f : Bool → Bool) (op : D → D → Stor → R D) (x : D) (M : Stor) : List D → R D
  | [] => .ok (.bl (f false)) M
  | y :: ys => match op y x M with
    | .ok (.bl b) M' => if M' = M then (if b then .ok (.bl (f true)) M else inGo f op x M ys) else .no
    | _ => .no
open Classical in
noncomputable def dInF (f : Bool → Bool) (c : Nat) (op : D → D → Stor → R D) : D → D → Stor → R D := fun x y M => match y with
  | .lst l => if insI c x = true ∧ l.all (insI c) = true ∧ op x x M = .ok (.bl true) M then inGo f op x M l else .no
  | _ => .no
section
variable {X : Cx} {W : Wd} {E : Sg → XK}
theorem og_inF {c : Nat} {cmp : CmpOp} {f : Bool → Bool} {op : D → D → Stor → R D} (hcmp : ∀ c x, compareOp cmp x c = (do return Value.bool (f (← contains c x)))) (hop : OpG (Cx.in1 X) W E (compareOp .Eq) op) : OpG X W E (compareOp cmp) (dInF f c op) := by
  intro ξ pins s σ H M F ρ x y vx vy ux uy Q I rx ry rp ix iy po
  unfold dInF at po
  split at po
  · rename_i l
    split at po
    · rename_i hz
      obtain ⟨hx, hl, hxx⟩ := hz
      obtain ⟨a, rfl⟩ := ins_ref hx ix
      cases rx
      have iy' := iy
      simp only [Is] at iy'
      obtain ⟨q, vs, rfl, hq, il⟩ := iy'
      cases ry
      have tq : s.TypeIs (.ref q) "list" := by
        obtain ⟨its, r, pl, _⟩ := I.list (SqL.of (rp.sub _ _ hq))
        obtain ⟨o, ho, hc, n, hd⟩ := pl.isList
        exact ⟨o, ho, hc⟩
      rw [hcmp]
      refine wpAny_bind (wpAny_contains_slot tq PySem.F.slot_list_contains (wpAny_mono (Q := fun v s' => ∃ b, v = .bool b ∧ EP X pins σ Q (.bool (f b)) s') (GQ.call_here PySem.F.slot_list_contains tq PySem.F.entry_list_contains (PySem.F.args_list_contains_2 _ _)
        (cont_listG (R := PySem.wants (fun v s' => ∃ b, v = .bool b ∧ EP X pins σ Q (.bool (f b)) s') X.xe) q (.ref a) vs.length (fun i s' => ∃ H1 F1 ρ1, Inv X pins σ H1 s' ∧ Le F F1 ∧ ρ <+: ρ1 ∧ Rp W ξ M F1 H1 ρ1 ∧ Po W ξ (Is W) F ρ (inGo f op x M (l.drop i)) Q (E σ)) ?turn ?fin ⟨H, F, ρ, I, Le.rfl', List.prefix_refl _, rp, po⟩)) (fun v s' hv => ?last) fun _ _ e => e))
      case last =>
        obtain ⟨b, rfl, hq⟩ := hv
        exact wpAny_truthy_bool (wpAny_pure hq)
      case fin =>
        rintro s' ⟨H1, F1, ρ1, I1, le, pr, rp1, po1⟩
        rw [List.drop_of_length_le (by rw [il.len]; exact Nat.le_refl _)] at po1
        exact ⟨false, rfl, .bl (f false), H1, I1, rfl, (po1.mono le pr).now rp1 (flat_bl F1 ρ1)⟩
      case turn =>
        rintro i s' ⟨H1, F1, ρ1, I1, le, pr, rp1, po1⟩
        obtain ⟨its, r, pl, _⟩ := I1.list (SqL.of (rp1.sub _ _ (le _ _ hq)))
        obtain ⟨⟨cls, dd, data, sl⟩, ho, hc, n, hd⟩ := pl.isList
        simp only at hc hd
        subst hc hd
        refine ⟨its.toArray, n, dd, sl, ho, by rw [List.size_toArray, ← r.length], fun h1 => ?_⟩
        have h1' : i < its.length := by simpa using h1
        have hv : i < vs.length := by rw [r.length]; exact h1'
        have hli : i < l.length := by rw [← il.len]; exact hv
        obtain ⟨u, hu, ru⟩ := r.get (List.getElem?_eq_getElem hv)
        have hu' : its.toArray[i] = u := by
          rw [List.getElem?_eq_getElem h1'] at hu
          simpa using hu
        rw [hu']
        obtain ⟨v, hv2, iv⟩ := il.get (List.getElem?_eq_getElem hli)
        rw [List.getElem?_eq_getElem hv] at hv2
        injection hv2 with hv2
        rw [hv2] at ru
        have ai : insI c l[i] = true := List.all_eq_true.mp hl _ (List.getElem_mem hli)
        obtain ⟨b, rfl⟩ := ins_ref ai iv
        cases ru
        rw [List.drop_eq_getElem_cons hli] at po1
        by_cases hab : b = a
        · subst hab
          have ed := ins_uniq ai hx iv ix
          unfold inGo at po1
          rw [ed, hxx] at po1
          simp only [if_true] at po1
          exact SeqAt.EqAt.same (A := X.A.in1) (s := s') (.ref b) X.prog X.w X.xe _ (.inl ⟨rfl, true, rfl, .bl (f true), H1, I1, rfl, (po1.mono le pr).now rp1 (flat_bl F1 ρ1)⟩)
        · refine GQ.eqBool_refG hab ?_
          unfold inGo at po1
          split at po1
          · rename_i bb M' eo
            split at po1
            · rename_i eM
              subst eM
              refine wpAny_mono (hop ξ pins s' σ H1 M' F1 ρ1 l[i] x (.ref b) (.ref a) (.ref b) (.ref a) (fun v H2 => v = .bl bb ∧ ∃ F2 ρ2, Le F1 F2 ∧ ρ1 <+: ρ2 ∧ Rp W ξ M' F2 H2 ρ2) (inv_in1 I1) rfl rfl rp1 (iv.mono le pr) (ix.mono le pr) ?_) (fun v s2 hv => ?_) fun _ _ e => e
              · rw [eo]
                exact fun v F2 ρ2 H2 le2 pr2 rp2 is2 => ⟨by simpa only [Is] using is2, F2, ρ2, le2, pr2, rp2⟩
              · obtain ⟨v', H2, I2, r2, rfl, F2, ρ2, le2, pr2, rp2⟩ := EP.out1 hv
                cases r2
                refine ⟨bb, rfl, ?_⟩
                cases bb with
                | true =>
                  simp only [if_true] at po1
                  exact .inl ⟨rfl, true, rfl, .bl (f true), H2, I2, rfl, (po1.mono (le.tr le2) (pr.trans pr2)).now rp2 (flat_bl F2 ρ2)⟩
                | false =>
                  simp only [Bool.false_eq_true, if_false] at po1
                  exact .inr ⟨rfl, H2, F2, ρ2, I2, le.tr le2, pr.trans pr2, rp2, po1⟩
            · exact po1.elim
          · exact po1.elim
    · exact po.elim
  · exact po.elim
noncomputable abbrev dInO (c : Nat) (op : D → D → Stor → R D) := dInF (fun b => b) c op
noncomputable abbrev dNotInO (c : Nat) (op : D → D → Stor → R D) := dInF (fun b => !b) c op
theorem og_inO {c : Nat} {op : D → D → Stor → R D} (hop : OpG (Cx.in1 X) W E (compareOp .Eq) op) : OpG X W E (compareOp .In) (dInO c op) := og_inF (fun _ _ => rfl) hop
theorem og_notInO {c : Nat} {op : D → D → Stor → R D} (hop : OpG (Cx.in1 X) W E (compareOp .Eq) op) : OpG X W E (compareOp .NotIn) (dNotInO c op) := og_inF (fun _ _ => rfl) hop
end
end G

namespace G
open PySem PySem.Spec PyProof.Rows L2 He ClX
/-- C.m is a classmethod, its def at f -/
structure CmK (K : PySem.W.Frag) (C : Addr) (m : Str) (f : Addr) : Prop where
  rd : CRead K C (.type "type")
  ex : ∃ q, CMet K C (.type "type") m q f
def fxCm (x m : Str) : Fx := fun K => PySem.W.readsIn K (ga K x) (.type "type") && (eqO (PySem.W.specialIn K (.ref (ga K x)) "__getattribute__") (some (some (.builtin "type.__getattribute__"))) &&
  (He5.wrapB K (ga K x) "classmethod" "classmethod.__get__" m && PySem.W.fnIn K (He5.wf K (ga K x) "classmethod" m)))
theorem cm_of {K : PySem.W.Frag} {x m : Str} (h : fxCm x m K = true) : CmK K (He.ga K x) m (He5.wf K (He.ga K x) "classmethod" m) := by
  obtain ⟨h1, h⟩ := He.ba h
  obtain ⟨h2, h⟩ := He.ba h
  obtain ⟨h3, h4⟩ := He.ba h
  obtain ⟨k1, rest, k2⟩ := He5.wrapB_ok h3
  exact ⟨⟨h1, He.eqO_ok h2⟩, _, ⟨k1, ⟨rest, k2⟩, h4⟩⟩
end G

namespace G
open PySem L2
/-! ### reckoning: for and comprehensions over what is known -/
noncomputable def forX (tg : GG') (b : GS') (x : D) : GS' := gFor (giSeq (gC x)) tg b
theorem bindS_bind {α β : Type} (r : R α) (f : α → Stor → R β) (Γ : Gam) (k : β → Stor → RS) : (r.bind f).bindS Γ k = r.bindS Γ fun x M => (f x M).bindS Γ k := by cases r <;> rfl
theorem bind_bind {α β γ : Type} (r : R α) (f : α → Stor → R β) (k : β → Stor → R γ) : (r.bind f).bind k = r.bind fun x M => (f x M).bind k := by cases r <;> rfl
theorem for_seq (g : GE') (tg : GG') (b : GS') (Γ : Gam) (M : Stor) : gFor (giSeq g) tg b Γ M = (g Γ M).bindS Γ fun x M1 => forX tg b x Γ M1 := by
  unfold forX gFor giSeq
  rw [bindS_bind]; rfl
theorem forX_lst (tg : GG') (b : GS') (l : List D) (Γ : Gam) (M : Stor) : forX tg b (.lst l) Γ M = loopG anyS tg b l Γ M := by
  unfold forX gFor giSeq gC
  simp only [R.bind_ok, R.bindS_ok, if_true]
theorem forX_tup (tg : GG') (b : GS') (l : List D) (Γ : Gam) (M : Stor) : forX tg b (.tup l) Γ M = loopG anyS tg b l Γ M := by
  unfold forX gFor giSeq gC
  simp only [R.bind_ok, R.bindS_ok, if_true]
noncomputable def compX (t : Tgt) (tt : GT') (te : GE') (x : D) : GE' := gComp (giSeq (gC x)) t tt te
theorem comp_seq (g : GE') (t : Tgt) (tt : GT') (te : GE') (Γ : Gam) (M : Stor) : gComp (giSeq g) t tt te Γ M = (g Γ M).bind fun x M1 => compX t tt te x Γ M1 := by
  unfold compX gComp giSeq
  rw [bind_bind]; rfl
theorem compX_lst (t : Tgt) (tt : GT') (te : GE') (l : List D) (Γ : Gam) (M : Stor) (q : D → Bool) (f : D → D) (hl : l.length < 1000000)
    (h : ∀ d ∈ l, ∃ Γ1, t.run d (wipeG Γ t.slots) = some Γ1 ∧ tt Γ1 M = .ok (q d) M ∧ te Γ1 M = .ok (f d) M) : compX t tt te (.lst l) Γ M = .ok (.lst ((l.filter q).map f)) M :=
  comp_filt (keep := anyS) rfl trivial q f hl h
theorem compX_tup (t : Tgt) (tt : GT') (te : GE') (l : List D) (Γ : Gam) (M : Stor) (q : D → Bool) (f : D → D) (hl : l.length < 1000000)
    (h : ∀ d ∈ l, ∃ Γ1, t.run d (wipeG Γ t.slots) = some Γ1 ∧ tt Γ1 M = .ok (q d) M ∧ te Γ1 M = .ok (f d) M) : compX t tt te (.tup l) Γ M = .ok (.lst ((l.filter q).map f)) M :=
  comp_filt (keep := anyS) rfl trivial q f hl h
theorem compX_lst0 (t : Tgt) (te : GE') (l : List D) (Γ : Gam) (M : Stor) (f : D → D) (hl : l.length < 1000000)
    (h : ∀ d ∈ l, ∃ Γ1, t.run d (wipeG Γ t.slots) = some Γ1 ∧ te Γ1 M = .ok (f d) M) : compX t gYes te (.lst l) Γ M = .ok (.lst (l.map f)) M :=
  comp_all (keep := anyS) rfl trivial f hl h
theorem compX_tup0 (t : Tgt) (te : GE') (l : List D) (Γ : Gam) (M : Stor) (f : D → D) (hl : l.length < 1000000)
    (h : ∀ d ∈ l, ∃ Γ1, t.run d (wipeG Γ t.slots) = some Γ1 ∧ te Γ1 M = .ok (f d) M) : compX t gYes te (.tup l) Γ M = .ok (.lst (l.map f)) M :=
  comp_all (keep := anyS) rfl trivial f hl h
noncomputable def forE (tg : GG') (b : GS') (x : D) : GS' := gFor (giEnum (gCons (gC x) gNil)) tg b
theorem for_enum (g : GE') (tg : GG') (b : GS') (Γ : Gam) (M : Stor) : gFor (giEnum (gCons g gNil)) tg b Γ M = (g Γ M).bindS Γ fun x M1 => forE tg b x Γ M1 := by
  unfold forE gFor giEnum gCons gNil gC
  rw [bindS_bind]
  cases e : g Γ M <;> rfl
theorem forE_lst (tg : GG') (b : GS') (l : List D) (Γ : Gam) (M : Stor) : forE tg b (.lst l) Γ M = loopG anyS tg b (enumD l) Γ M := by
  unfold forE gFor giEnum gCons gNil gC
  simp only [R.bind_ok, R.bindS_ok, lstIt, if_true]
theorem loop_fold {σ : Type} {tg : GG'} {b : GS'} {M : Stor} (G : σ → Gam) (step : σ → D → σ) : ∀ (l : List D) (s : σ), (∀ s, ∀ d ∈ l, ∃ Γ1, tg d (G s) M = some (Γ1, M) ∧ b Γ1 M = .nx (G (step s d)) M) → loopG anyS tg b l (G s) M = .nx (G (l.foldl step s)) M
  | [], s, _ => by unfold loopG; rfl
  | d :: ds, s, h => by
    obtain ⟨Γ1, e1, e2⟩ := h s d List.mem_cons_self
    unfold loopG
    rw [e1]; dsimp only; rw [e2]; dsimp only
    rw [if_pos trivial]
    exact loop_fold G step ds (step s d) fun s' d' hd => h s' d' (List.mem_cons_of_mem _ hd)
theorem loop_nilA {tg : GG'} {b : GS'} {Γ : Gam} {M : Stor} : loopG anyS tg b [] Γ M = .nx Γ M := by unfold loopG; rfl
theorem loop_cons {tg : GG'} {b : GS'} {d : D} {ds : List D} {Γ Γ1 Γ2 : Gam} {M M1 M2 : Stor} (h1 : tg d Γ M = some (Γ1, M1)) (h2 : b Γ1 M1 = .nx Γ2 M2) : loopG anyS tg b (d :: ds) Γ M = loopG anyS tg b ds Γ2 M2 := by
  conv => lhs; unfold loopG
  rw [h1]; dsimp only; rw [h2]; dsimp only
  rw [if_pos trivial]
theorem loop_consR {tg : GG'} {b : GS'} {d : D} {ds : List D} {Γ Γ1 : Gam} {M M1 M2 : Stor} {v : D} (h1 : tg d Γ M = some (Γ1, M1)) (h2 : b Γ1 M1 = .rt v M2) : loopG anyS tg b (d :: ds) Γ M = .rt v M2 := by
  conv => lhs; unfold loopG
  rw [h1]; dsimp only; rw [h2]
theorem loop_consX {tg : GG'} {b : GS'} {d : D} {ds : List D} {Γ Γ1 Γ2 : Gam} {M M1 M2 : Stor} {c : Nat} {f : Flds} (h1 : tg d Γ M = some (Γ1, M1)) (h2 : b Γ1 M1 = .ex c f Γ2 M2) : loopG anyS tg b (d :: ds) Γ M = .ex c f Γ2 M2 := by
  conv => lhs; unfold loopG
  rw [h1]; dsimp only; rw [h2]
theorem comp_mapA {α : Type} {keep : Stor → Prop} {t : Tgt} {tt : GT'} {te : GE'} {Γ : Gam} {M : Stor} (hk : keep M) (F H : α → D) : ∀ (l : List α) (acc : List D), acc.length + l.length < 1000000 →
    (∀ a ∈ l, ∃ Γ1, t.run (F a) Γ = some Γ1 ∧ tt Γ1 M = .ok true M ∧ te Γ1 M = .ok (H a) M) → compG keep t tt te Γ (l.map F) M acc = .ok (acc ++ l.map H) M
  | [], acc, _, _ => by simp only [List.map_nil]; unfold compG; simp
  | a :: as, acc, hl, h => by
    obtain ⟨Γ1, e1, e2, e3⟩ := h a List.mem_cons_self
    simp only [List.length_cons] at hl
    rw [List.map_cons]
    unfold compG
    simp only [e1, e2, e3]
    rw [if_pos ⟨hk, by omega⟩, comp_mapA hk F H as (acc ++ [H a]) (by simp; omega) fun a' ha => h a' (List.mem_cons_of_mem _ ha)]
    simp
theorem compX_mapA {α : Type} (t : Tgt) (te : GE') (F H : α → D) (l : List α) (Γ : Gam) (M : Stor) (hl : l.length < 1000000)
    (h : ∀ a ∈ l, ∃ Γ1, t.run (F a) (wipeG Γ t.slots) = some Γ1 ∧ te Γ1 M = .ok (H a) M) : compX t gYes te (.lst (l.map F)) Γ M = .ok (.lst (l.map H)) M := by
  unfold compX gComp giSeq gC
  simp only [R.bind_ok, if_true]
  rw [comp_mapA (tt := gYes) (keep := anyS) trivial F H l [] (by simpa using hl) fun a ha => let ⟨Γ1, x, y⟩ := h a ha; ⟨Γ1, x, rfl, y⟩]
  simp
theorem gg2 (i j : Nat) (u v : D) (Γ : Gam) (M : Stor) : ggTup 2 (ggCons (ggName i) (ggCons (ggName j) ggNil)) (.tup [u, v]) Γ M = some ((Γ.set i (some u)).set j (some v), M) := rfl
theorem gg3 (i j k : Nat) (u v w : D) (Γ : Gam) (M : Stor) : ggTup 3 (ggCons (ggName i) (ggCons (ggName j) (ggCons (ggName k) ggNil))) (.tup [u, v, w]) Γ M = some (((Γ.set i (some u)).set j (some v)).set k (some w), M) := rfl
end G

namespace G
open PySem PySem.Spec PyProof.Rows L2
section
variable {X : Cx} {W : Wd} {pos : Pos}
/-! ### a, b = a list -/
def ggUnl (n : Nat) (r : GGs') : GG' := fun d Γ M => match d with
  | .lst ds => if ds.length = n then r ds Γ M else none
  | .lck ds => if ds.length = n then r ds Γ M else none
  | _ => none
theorem gg_unl {es : List Expr} {k n : Nat} {r : GGs'} (hK : X.K = W.K) (hc : X.calm = true) (h : GGs X W es r) (hn : (assignEach es X.env).length = n := by rfl) (hst : (assignEach es X.env).findIdx? (·.1) = none := by rfl) : GG X W (.Tuple es k pos) (ggUnl n r) :=
  mG (pg_unl hc h hn hst) fun v σ H Q ⟨ξ, d, Γ, M, F, ρ, is, en, rp, po⟩ => by
    cases d with
    | lst ds =>
      simp only [Is] at is
      obtain ⟨p, vs, rfl, q, hl⟩ := is
      simp only [ggUnl] at po
      split at po
      · rename_i hz
        exact ⟨p, vs, rfl, by rw [hK]; exact rp.sub.sqL (.inl (.inl q)), by rw [hl.len]; exact hz, ξ, ds, Γ, M, F, ρ, hl, en, rp, po⟩
      · exact po.elim
    | lck ds =>
      simp only [Is] at is
      obtain ⟨p, vs, rfl, q, hl⟩ := is
      simp only [ggUnl] at po
      split at po
      · rename_i hz
        exact ⟨p, vs, rfl, by rw [hK]; exact rp.sub.sqL q, by rw [hl.len]; exact hz, ξ, ds, Γ, M, F, ρ, hl, en, rp, po⟩
      · exact po.elim
    | _ => exact po.elim
theorem gu2 (i j : Nat) (u v : D) (Γ : Gam) (M : Stor) : ggUnl 2 (ggCons (ggName i) (ggCons (ggName j) ggNil)) (.lst [u, v]) Γ M = some ((Γ.set i (some u)).set j (some v), M) := rfl
theorem gu3 (i j k : Nat) (u v w : D) (Γ : Gam) (M : Stor) : ggUnl 3 (ggCons (ggName i) (ggCons (ggName j) (ggCons (ggName k) ggNil))) (.lst [u, v, w]) Γ M = some (((Γ.set i (some u)).set j (some v)).set k (some w), M) := rfl
end
end G

namespace G
open PySem L2 SX
/-! ### texts as lists of signs -/
theorem str_S (x : Str) : x = S x.cps.toList := (S_tl x).symm
theorem S_eq {a b : List Nat} : (S a = S b) = (a = b) := propext ⟨S_inj, fun h => by rw [h]⟩
theorem S_list (a : List Nat) : (S a).cps.toList = a := by simp
theorem S_app (a b : List Nat) : (S a ++ S b : Str) = S (a ++ b) := S_cat a b
theorem cut_to (a : List Nat) (n : Nat) : cutS (S a) none (some (n : Int)) = S (a.take n) := by
  unfold cutS
  rw [HT.sIx_none, HT.sIx_nat, S_len, S_list]
  show S _ = S _
  congr 1
  simp only [Nat.sub_zero, List.drop_zero]
  by_cases h : n ≤ a.length
  · rw [Nat.min_eq_left h]
  · rw [Nat.min_eq_right (by omega), List.take_of_length_le (by omega), List.take_of_length_le (by omega)]
theorem cut_from (a : List Nat) (n : Nat) : cutS (S a) (some (n : Int)) none = S (a.drop n) := by
  unfold cutS
  rw [HT.sIx_none, HT.sIx_nat, S_len, S_list]
  show S _ = S _
  congr 1
  by_cases h : n ≤ a.length
  · rw [Nat.min_eq_left h, List.take_of_length_le (by simp)]
  · rw [Nat.min_eq_right (by omega), List.drop_of_length_le (by omega), List.drop_of_length_le (by omega)]; simp
theorem cut_mid (a : List Nat) (i j : Nat) : cutS (S a) (some (i : Int)) (some (j : Int)) = S ((a.drop i).take (j - i)) := by
  unfold cutS
  rw [HT.sIx_nat, HT.sIx_nat, S_len, S_list]
  show S _ = S _
  congr 1
  by_cases h : i ≤ a.length
  · rw [Nat.min_eq_left h]
    by_cases h2 : j ≤ a.length
    · rw [Nat.min_eq_left h2]
    · rw [Nat.min_eq_right (by omega), List.take_of_length_le (by simp), List.take_of_length_le (by simp; omega)]
  · rw [Nat.min_eq_right (show a.length ≤ i by omega), List.drop_of_length_le (by omega), List.drop_of_length_le (by omega)]; simp
theorem tIx {a : List Nat} {i c : Nat} (M : Stor) (hl : a.length ≤ 1000000) (h : a[i]? = some c) : dIx (.str (S a)) (.int i) M = .ok (.str (S [c])) M := by
  have hi : i < a.length := (List.getElem?_eq_some_iff.mp h).1
  have e : L2.atI (S a).cps.toList (i : Int) = some c := by
    rw [S_list]
    unfold L2.atI L2.ixN
    rw [if_pos (by omega), if_pos (by omega)]
    simpa using h
  show (if (S a).length ≤ 1000000 then (match L2.atI (S a).cps.toList (i : Int) with | some c => R.ok (D.str ⟨#[c]⟩) M | none => .no) else .no) = _
  rw [S_len, if_pos hl, e]
theorem tLen (a : List Nat) (M : Stor) (hl : a.length ≤ 1000000) : fLen [.str (S a)] M = .ok (.int (a.length : Nat)) M := by
  show (if (S a).length ≤ 1000000 then R.ok (D.int (S a).length) M else .no) = _
  rw [S_len, if_pos hl]
theorem tSl (a : List Nat) (lo hi : Option Int) (M : Stor) (hl : a.length ≤ 1000000) : dSl (.str (S a)) lo hi M = .ok (.str (cutS (S a) lo hi)) M := by
  show (if (S a).length ≤ 1000000 then R.ok (D.str (cutS (S a) lo hi)) M else .no) = _
  rw [S_len, if_pos hl]
theorem tEq (a b : List Nat) (M : Stor) : dEq (.str (S a)) (.str (S b)) M = .ok (.bl (decide (a = b))) M := by
  show R.ok (D.bl (decide (S a = S b))) M = _
  congr 3; exact S_eq
theorem tNe (a b : List Nat) (M : Stor) : dNe (.str (S a)) (.str (S b)) M = .ok (.bl (!decide (a = b))) M := by
  show R.ok (D.bl (!decide (S a = S b))) M = _
  congr 4; exact S_eq
theorem tIn (c : Nat) (b : List Nat) (M : Stor) : dInS (.str (S [c])) (.str (S b)) M = .ok (.bl (decide (c ∈ b))) M := by
  show (match (S [c]).cps.toList with | [c] => R.ok (D.bl (decide (c ∈ (S b).cps.toList))) M | _ => .no) = _
  rw [S_list, S_list]
theorem tAdd (a b : List Nat) (M : Stor) (hl : a.length + b.length ≤ 1000000) : dAdd (.str (S a)) (.str (S b)) M = .ok (.str (S (a ++ b))) M := by
  have : (S a).length + (S b).length ≤ 1000000 := by rw [S_len, S_len]; exact hl
  show orR (dAddI _ _ _) (orR (dAddS _ _ _) _) = _
  unfold dAddS
  simp only [this, if_true]
  rw [S_app]; rfl
/-! ### numbers written out -/
def dig (n : Nat) : List Nat := (Nat.toDigits 10 n).map Char.toNat
def isDg (c : Nat) : Prop := 48 ≤ c ∧ c ≤ 57
instance (c : Nat) : Decidable (isDg c) := inferInstanceAs (Decidable (_ ∧ _))
theorem dgc : ∀ d : Nat, d < 10 → isDg (Nat.digitChar d).toNat ∧ (0 < d → (Nat.digitChar d).toNat ≠ 48) := by decide
theorem dig_lt {n : Nat} (h : n < 10) : dig n = [(Nat.digitChar n).toNat] := by unfold dig; rw [Nat.toDigits_of_lt_base h]; rfl
theorem dig_ge {n : Nat} (h : 10 ≤ n) : dig n = dig (n / 10) ++ [(Nat.digitChar (n % 10)).toNat] := by
  have hm : n % 10 < 10 := Nat.mod_lt n (by decide)
  have t : Nat.toDigits 10 (n / 10) ++ Nat.toDigits 10 (n % 10) = Nat.toDigits 10 (10 * (n / 10) + n % 10) := Nat.toDigits_append_toDigits (by decide) (by omega) hm
  rw [Nat.div_add_mod] at t
  unfold dig
  rw [← t, List.map_append, Nat.toDigits_of_lt_base hm]; rfl
theorem dig_all (n : Nat) : ∀ c ∈ dig n, isDg c := by
  induction n using Nat.strongRecOn with
  | _ n ih =>
    by_cases h : n < 10
    · rw [dig_lt h]
      intro c hc
      rw [List.mem_singleton.mp hc]; exact (dgc n h).1
    · rw [dig_ge (by omega)]
      intro c hc
      rcases List.mem_append.mp hc with hc | hc
      · exact ih _ (by omega) c hc
      · rw [List.mem_singleton.mp hc]; exact (dgc _ (Nat.mod_lt n (by decide))).1
theorem dig_head (n : Nat) : ∃ c l, dig n = c :: l ∧ (0 < n → c ≠ 48) ∧ isDg c := by
  induction n using Nat.strongRecOn with
  | _ n ih =>
    by_cases h : n < 10
    · exact ⟨_, [], dig_lt h, (dgc n h).2, (dgc n h).1⟩
    · obtain ⟨c, l, e, h1, h2⟩ := ih (n / 10) (by omega)
      rw [dig_ge (by omega), e]
      exact ⟨c, _, rfl, fun _ => h1 (by omega), h2⟩
theorem dig0 : dig 0 = [48] := by decide
def iL (a : Int) : List Nat := if a < 0 then 45 :: dig a.natAbs else dig a.natAbs
theorem strL (s : String) : Str.ofString s = S (s.toList.map Char.toNat) := by
  rw [Str.ofString_eq_toList]
theorem str_int (a : Int) : Str.ofString (toString a) = S (iL a) := by
  rw [strL]
  unfold iL
  cases a with
  | ofNat m =>
    have : ¬ (Int.ofNat m) < 0 := by have : Int.ofNat m = (m : Int) := rfl; omega
    rw [if_neg this]
    show S ((Nat.repr m).toList.map Char.toNat) = _
    rw [Nat.toList_repr]; rfl
  | negSucc m =>
    rw [if_pos (Int.negSucc_lt_zero m)]
    show S (("-" ++ Nat.repr (m + 1)).toList.map Char.toNat) = _
    rw [String.toList_append, Nat.toList_repr, List.map_append]
    rfl
theorem int_read {a : Int} (h : (iL a).length ≤ 640) (M : Stor) : fIntS [.str (S (iL a))] M = .ok (.int a) M := by
  have e : PySem.intText? (S (iL a)) = some a := by
    by_cases c : a < 0
    · have hx : (S (iL a)).cps.toList = 45 :: dig a.natAbs := by rw [S_list]; unfold iL; rw [if_pos c]
      have hl : (S (iL a)).length ≤ 4300 := by rw [S_len]; omega
      obtain ⟨d, l, e, _⟩ := dig_head a.natAbs
      have := intText_neg hx (dig_all _) (by rw [e]; simp) hl
      rw [this]
      unfold dig
      rw [PySem.W.KIN.val_back]
      congr 1; omega
    · have hx : (S (iL a)).cps.toList = dig a.natAbs := by rw [S_list]; unfold iL; rw [if_neg c]
      have hl : (S (iL a)).length ≤ 4300 := by rw [S_len]; omega
      obtain ⟨d, l, e, _⟩ := dig_head a.natAbs
      have := intText_digits (x := S (iL a)) (by rw [hx]; exact dig_all _) (by rw [hx, e]; simp) hl
      rw [this, hx]
      unfold dig
      rw [PySem.W.KIN.val_back]
      congr 1; omega
  unfold fIntS
  dsimp only
  rw [e]
  dsimp only
  rw [if_pos (by rw [S_len]; exact h)]
theorem int_readO {a : Int} (h : (iL a).length ≤ 640) (M : Stor) : orR (fInt [.str (S (iL a))] M) (fIntS [.str (S (iL a))] M) = .ok (.int a) M := by
  rw [int_read h]; rfl
theorem iL_len {a : Int} {k : Nat} (hk : 0 < k) (h : a.natAbs < 2 ^ k) : (iL a).length ≤ k + 1 := by
  have l2 : a.natAbs.log2 < k := by
    by_cases h0 : a.natAbs = 0
    · rw [h0]; exact hk
    · exact (Nat.log2_lt h0).mpr h
  have t := int_text_length_le (a := a) (k := k) hk l2
  have e : (Str.ofString (toString a)).length = (iL a).length := by rw [str_int]; exact S_len _
  have : (Str.ofString (toString a)).length = (toString a).length := ofString_length _
  omega
end G

namespace G
open PySem L2
/-! ### loops with an invariant -/
theorem loop_inv {tg : GG'} {b : GS'} (I : Nat → Gam → Stor → Prop) : ∀ (l : List D) (n : Nat) (Γ : Gam) (M : Stor), I n Γ M →
    (∀ j Γ M d, j < n + l.length → d ∈ l → I j Γ M → ∃ Γ1 M1 Γ2 M2, tg d Γ M = some (Γ1, M1) ∧ b Γ1 M1 = .nx Γ2 M2 ∧ I (j + 1) Γ2 M2) →
    ∃ Γ' M', loopG anyS tg b l Γ M = .nx Γ' M' ∧ I (n + l.length) Γ' M'
  | [], n, Γ, M, h, _ => ⟨Γ, M, loop_nilA, h⟩
  | d :: ds, n, Γ, M, h, st => by
    obtain ⟨Γ1, M1, Γ2, M2, e1, e2, h2⟩ := st n Γ M d (by simp) List.mem_cons_self h
    obtain ⟨Γ', M', e3, h3⟩ := loop_inv I ds (n + 1) Γ2 M2 h2 fun j Γ M d' hj hd hI => st j Γ M d' (by simp; omega) (List.mem_cons_of_mem _ hd) hI
    exact ⟨Γ', M', (loop_cons e1 e2).trans e3, by rw [List.length_cons]; rwa [Nat.add_assoc, Nat.add_comm 1] at h3⟩
theorem range1G {a : GA'} {Γ : Gam} {M M1 : Stor} {n : Nat} (h : a Γ M = .ok [.int n] M1) (hn : n < 100000) : giRange1 a Γ M = .ok (upFrom 0 n, anyS) M1 := by
  have h1 : ((n : Nat) : Int) < 4611686018427387904 := by omega
  have h2 : -4611686018427387904 ≤ ((n : Nat) : Int) := by omega
  have e : (2 : Int) ^ 62 = 4611686018427387904 := by decide
  unfold giRange1
  rw [h, R.bind_ok]
  generalize hxs : [D.int n] = xs
  split
  · rename_i j
    have hj : j = (n : Int) := by
      have := List.head_eq_of_cons_eq hxs
      injection this with q; exact q.symm
    subst hj
    rw [e, if_pos ⟨h2, h1⟩, Int.toNat_natCast]
  · rename_i q
    exact absurd hxs.symm (q _)
theorem upFrom_len (n : Nat) : (upFrom 0 n).length = n := by simp [upFrom]
/-- for i in range(n): every turn keeps the invariant -/
theorem for_range {P : RS → Prop} (n : Nat) {tg : GG'} {b rest : GS'} {a : GA'} {Γ : Gam} {M M1 : Stor} (I : Nat → Gam → Stor → Prop) (hn : n < 100000) (ha : a Γ M = .ok [.int n] M1) (h0 : I 0 Γ M1)
    (st : ∀ j Γ M d, j < n → I j Γ M → ∃ Γ1 M1 Γ2 M2, tg d Γ M = some (Γ1, M1) ∧ b Γ1 M1 = .nx Γ2 M2 ∧ I (j + 1) Γ2 M2)
    (fin : ∀ Γ' M', I n Γ' M' → P (rest Γ' M')) : P (gSeq (gFor (giRange1 a) tg b) rest Γ M) := by
  obtain ⟨Γ', M', e, hI⟩ := loop_inv (tg := tg) (b := b) I (upFrom 0 n) 0 Γ M1 h0 fun j Γ M d hj _ h => st j Γ M d (by rw [upFrom_len] at hj; omega) h
  rw [upFrom_len, Nat.zero_add] at hI
  have e2 : gFor (giRange1 a) tg b Γ M = .nx Γ' M' := by
    unfold gFor
    rw [range1G ha hn]
    simp only [R.bindS_ok, if_true]
    exact e
  rw [seq_nx e2]
  exact fin Γ' M' hI
end G

namespace G
open PySem PySem.Spec PyProof.Rows L2
section
variable {X : Cx} {W : Wd} {ξ : Xi} {E : Sg → XK} {a b e o tg : Expr} {es : List Expr} {ga gb go ge : GE'} {gs : GA'} {pos pos' p2 p apos : Pos} {x : Str}
/-! ### the signs of a text, walked -/
def signsD (z : Str) : List D := z.cps.toList.map fun c => .str ⟨#[c]⟩
def giTxt (a : GE') : GI' := fun Γ M => (a Γ M).bind fun x M1 => match x with
  | .str z => .ok (signsD z, anyS) M1
  | _ => .no
theorem good_text {F0 : Hp} {ρ0 : List Addr} {z : Str} : GoodIt W F0 ρ0 (signsD z, anyS) (Its z) := by
  intro ξ i M F H ρ le pr rp hk
  have sz : z.cps.size = z.cps.toList.length := by simp
  refine ⟨fun d hd => ?_, fun hi => (by
    simp only [signsD, List.length_map] at hi
    show z.cps.size ≤ i
    omega)⟩
  have hi : i < z.cps.size := by
    have := (List.getElem?_eq_some_iff.mp hd).1
    simp only [signsD, List.length_map] at this
    omega
  refine ⟨hi, fun v H' ⟨eH, c, ec, ev⟩ => ?_⟩
  subst eH; subst ev
  have : d = .str ⟨#[c]⟩ := by
    simp only [signsD, List.getElem?_map, Array.getElem?_toList, ec, Option.map_some, Option.some.injEq] at hd
    exact hd.symm
  subst this
  exact ⟨F, Le.rfl', rp, flat_str F ρ⟩
theorem gi_txt (h : GE X W E e ga) : GI X W E tg e (giTxt ga) :=
  mI (pi_str h) fun σ H Q ⟨ξ, Γ, M, F, ρ, en, rp, po⟩ => ⟨ξ, Γ, M, F, ρ, en, rp, (Po.bind (rel := Is W) po).imp (by
    rintro v H1 ⟨x, M1, F1, ρ1, e1, p1, rp1, ix, po1⟩
    split at po1
    · rename_i z
      simp only [Is] at ix
      exact ⟨z, ix, po1 _ F1 ρ1 H1 Le.rfl' (List.prefix_refl _) rp1 good_text⟩
    · exact po1.elim)⟩
/-! ### flat values in lists and tuples -/
def flatD : D → Option V
  | .non => some .non
  | .bl b => some (.bl b)
  | .int i => some (.int i)
  | .str z => some (.str z)
  | _ => none
theorem flatD_ok {F : Hp} {ρ : List Addr} {d : D} {v u : V} (h : flatD d = some u) (is : Is W F ρ d v) : v = u ∧ flatV u = true := by
  cases d <;> simp only [flatD, Option.some.injEq, reduceCtorEq] at h <;> subst h <;> simp only [Is] at is <;> exact ⟨is, rfl⟩
def flatL : List D → Option (List V)
  | [] => some []
  | d :: ds => match flatD d, flatL ds with
    | some v, some vs => some (v :: vs)
    | _, _ => none
theorem flatL_ok {F : Hp} {ρ : List Addr} : ∀ {ds : List D} {us vs : List V}, flatL ds = some us → IsL W F ρ ds vs → vs = us ∧ us.all flatV = true
  | [], _, _, e, h => by cases e; rw [IsL.nil_iff] at h; exact ⟨h, rfl⟩
  | d :: ds, us, vs, e, h => by
    obtain ⟨v, r, rfl, h1, h2⟩ := IsL.cons_iff.mp h
    unfold flatL at e
    split at e
    · rename_i u us' e1 e2
      cases e
      obtain ⟨q1, q2⟩ := flatD_ok e1 h1
      obtain ⟨q3, q4⟩ := flatL_ok e2 h2
      exact ⟨by rw [q1, q3], by simp [q2, q4]⟩
    · cases e
def dInQ (neg : Bool) : D → D → Stor → R D := fun x y M => match flatD x, (seqOf y M).bind flatL with
  | some v, some vs => .ok (.bl (if neg then !inV v vs else inV v vs)) M
  | _, _ => .no
theorem inQ_ok {neg : Bool} {M : Stor} {F H : Hp} {ρ : List Addr} {x y : D} {vx vy : V} {Q : VK} {Z : XK} (hK : X.K = W.K) (rp : Rp W ξ M F H ρ) (ix : Is W F ρ x vx) (iy : Is W F ρ y vy) (po : Po W ξ (Is W) F ρ (dInQ neg x y M) Q Z) : rIn X.K neg vx vy H Q := by
  unfold dInQ at po
  split at po
  · rename_i v vs e1 e2
    obtain ⟨l, el, e2⟩ := Option.bind_eq_some_iff.mp e2
    obtain ⟨q, us, rfl, hq, hl⟩ := seqOf_ok rp iy el
    obtain ⟨rfl, f1⟩ := flatD_ok e1 ix
    obtain ⟨rfl, f2⟩ := flatL_ok e2 hl
    exact ⟨q, _, rfl, by rw [hK]; exact hq, f1, f2, po.now rp (flat_bl F ρ)⟩
  · exact po.elim
theorem og_inQ (hK : X.K = W.K) : OpG X W E (compareOp .In) (dInQ false) := OpG.of op_in_seq fun ξ M F H ρ x y vx vy Q Z rp ix iy po => inQ_ok hK rp ix iy po
theorem og_notInQ (hK : X.K = W.K) : OpG X W E (compareOp .NotIn) (dInQ true) := OpG.of op_notIn_seq fun ξ M F H ρ x y vx vy Q Z rp ix iy po => inQ_ok hK rp ix iy po
/-! ### methods of texts -/
def gMtS (f : D → List D → Stor → R D) (o e : GE') : GE' := fun Γ M => (o Γ M).bind fun x M1 => match x with
  | .str _ => (e Γ M1).bind fun y M2 => f x [y] M2
  | _ => .no
def gMtS0 (f : D → List D → Stor → R D) (o : GE') : GE' := fun Γ M => (o Γ M).bind fun x M1 => match x with
  | .str _ => f x [] M1
  | _ => .no
theorem ge_mtS {id : String} {name : Str} {f : D → List D → Stor → R D} (slot : Slot "str" name id) (ty : typeOf (.builtin id) = pure (.type "method_descriptor")) (hm : MtG X W id f) (ho : GE X W E o go) (he : GE X W E e ge)
    (hs : starEach [e] X.env = [(false, eval e X.env)] := by rfl) (hbase : attributeBase o name X.env (eval o X.env) = eval o X.env := by rfl) (hline : (apos.endLine == pos.line) = true := by rfl) :
    GE X W E (.Call (.Attribute o name apos) [e] [] pos) (gMtS f go ge) := by
  obtain ⟨r, hr, hk⟩ := hm
  refine mE (pe_m1 slot ty hr ho he hs hbase hline) fun σ H Q ⟨ξ, Γ, M, F, ρ, en, rp, po⟩ => ⟨ξ, Γ, M, F, ρ, en, rp, (Po.bind (rel := Is W) po).imp ?_⟩
  rintro v H1 ⟨x, M1, F1, ρ1, e1, p1, rp1, ix, po1⟩
  split at po1
  · rename_i z
    refine ⟨⟨z, by simpa only [Is] using ix⟩, ξ, Γ, M1, F1, ρ1, en.mono e1 p1, rp1, (Po.bind (rel := Is W) po1).imp ?_⟩
    rintro u H2 ⟨y, M2, F2, ρ2, e2, p2, rp2, iy, po2⟩
    exact hk ξ M2 F2 H2 ρ2 _ [y] _ [u] Q _ rp2 (ix.mono e2 p2) (IsL.cons_iff.mpr ⟨u, [], rfl, iy, IsL.nil_iff.mpr rfl⟩) po2
  · exact po1.elim
theorem ge_mtS0 {id : String} {name : Str} {f : D → List D → Stor → R D} (slot : Slot "str" name id) (ty : typeOf (.builtin id) = pure (.type "method_descriptor")) (hm : MtG X W id f) (ho : GE X W E o go)
    (hbase : attributeBase o name X.env (eval o X.env) = eval o X.env := by rfl) (hline : (apos.endLine == pos.line) = true := by rfl) :
    GE X W E (.Call (.Attribute o name apos) [] [] pos) (gMtS0 f go) := by
  obtain ⟨r, hr, hk⟩ := hm
  refine mE (pe_m0 slot ty hr ho hbase hline) fun σ H Q ⟨ξ, Γ, M, F, ρ, en, rp, po⟩ => ⟨ξ, Γ, M, F, ρ, en, rp, (Po.bind (rel := Is W) po).imp ?_⟩
  rintro v H1 ⟨x, M1, F1, ρ1, e1, p1, rp1, ix, po1⟩
  split at po1
  · rename_i z
    exact ⟨⟨z, by simpa only [Is] using ix⟩, hk ξ M1 F1 H1 ρ1 _ [] _ [] Q _ rp1 ix (IsL.nil_iff.mpr rfl) po1⟩
  · exact po1.elim
def mPartition : D → List D → Stor → R D := fun x ds M => match x, ds with
  | .str a, [.str b] => if a.length ≤ 1000000 ∧ (b.length == 0) = false then .ok (.tup [.str (Txt.partition a b).1, .str (Txt.partition a b).2.1, .str (Txt.partition a b).2.2]) M else .no
  | _, _ => .no
theorem mg_partition : MtG X W "str.partition" mPartition := ⟨_, mt_partition, fun ξ M F H ρ x ds v vs Q Z rp ix is po => by
  unfold mPartition at po
  split at po
  · rename_i a b
    split at po
    · rename_i hz
      obtain ⟨u, rfl, iu⟩ := one_of is
      simp only [Is] at ix iu
      subst ix; subst iu
      refine ⟨a, b, rfl, rfl, hz.2, small_line hz.1, fun p n => new_tup rp ?_ n po⟩
      exact IsL.cons_iff.mpr ⟨_, _, rfl, flat_str F ρ, IsL.cons_iff.mpr ⟨_, _, rfl, flat_str F ρ, IsL.cons_iff.mpr ⟨_, _, rfl, flat_str F ρ, IsL.nil_iff.mpr rfl⟩⟩⟩
    · exact po.elim
  · exact po.elim⟩
end
/-! ### reckoning -/
theorem comp_txt {a : GE'} {t : Tgt} {tt : GT'} {te : GE'} {Γ : Gam} {M M1 : Stor} {z : Str} (h : a Γ M = .ok (.str z) M1) (q : D → Bool) (f : D → D) (hl : z.length < 1000000)
    (hh : ∀ d ∈ signsD z, ∃ Γ1, t.run d (wipeG Γ t.slots) = some Γ1 ∧ tt Γ1 M1 = .ok (q d) M1 ∧ te Γ1 M1 = .ok (f d) M1) : gComp (giTxt a) t tt te Γ M = .ok (.lst (((signsD z).filter q).map f)) M1 := by
  have e : giTxt a Γ M = .ok (signsD z, anyS) M1 := by unfold giTxt; rw [h]; rfl
  unfold gComp
  rw [e]
  simp only [R.bind_ok, if_true]
  rw [comp_filtF (keep := anyS) trivial q f (signsD z) [] (by simp only [signsD, List.length_map, List.length_nil]; have : z.cps.toList.length = z.length := Array.length_toList; omega) hh]
  simp
end G

namespace G
open PySem PySem.Spec PyProof.Rows L2
section
variable {X : Cx} {W : Wd} {ξ : Xi} {E : Sg → XK} {a b e o tg : Expr} {es : List Expr} {ga gb go ge : GE'} {gs : GA'} {pos pos' p2 p apos : Pos} {x : Str}
/-! ### cls.m(): a static method of the class that a variable holds -/
def gClsM0 (c : Nat) (g : List D → Stor → R D) (go : GE') : GE' := fun Γ M => (go Γ M).bind fun x M1 => match x with
  | .cls c' => if c' = c then g [] M1 else .no
  | _ => .no
theorem ge_smethV0 {m : Str} {c : Nat} {f : Addr} {g : List D → Stor → R D} {pl : Sem Bool} (hc : CallG X W E (.ref f) g) (k : SMet X.K (W.T c) m f) (ho : GE X W E o go)
    (ht : eval (.Call (.Attribute o m apos) [] [] pos) X.env = (do
      let ov ← eval o X.env
      standAt apos.atName
      let (f, first) ← holding [ov] (getMethod ov m pl)
      callWith pos f first (backTo pos (starEach [] X.env)) (backToKw pos (keywordEach [] X.env))) := by rfl) : GE X W E (.Call (.Attribute o m apos) [] [] pos) (gClsM0 c g go) := by
  refine ⟨fun pins s σ H Q I ⟨ξ, Γ, M, F, ρ, en, rp, po⟩ => ?_⟩
  refine PySem.W.methodCall_KW (pl := pl) (thn (ho.run pins s σ H _ I ⟨ξ, Γ, M, F, ρ, en, rp, Po.bind (rel := Is W) po⟩) ?_) ht
  rintro u s1 ⟨v, H1, I1, r1, x, M1, F1, ρ1, e1, p1, rp1, ix, po1⟩
  split at po1
  · rename_i c'
    split at po1
    · rename_i hcc
      subst hcc
      simp only [Is] at ix
      subst ix
      cases r1
      refine smet_get I1 k ?_
      have I2 := I1.tok (s1.toks + 1)
      exact PySem.W.callWith_K0 I2.kIn k.kp (hc ξ pins _ σ H1 M1 F1 ρ1 [] [] [] Q I2 .nil rp1 IsL.nil po1)
    · exact po1.elim
  · exact po1.elim
end
end G

namespace K06
open PySem PySem.Spec PyProof.Rows L2 G
def top (i : Nat) : Stmt := PySem.Challenge.pw_sixasone_k06_texts_of_ratios.main.body.getD i (.Pass ⟨0, 0, 0, 0⟩)

abbrev s__law_pen : Stmt := top 27
abbrev s__law_draw : Stmt := top 28
abbrev s__law_low : Stmt := top 30
abbrev s__law_pick : Stmt := top 29
abbrev s__law_fraction : Stmt := top 34
abbrev s__law_text : Stmt := top 31
abbrev s__law_drawn_text : Stmt := top 41
abbrev s__law_is_number : Stmt := top 36
abbrev s__law_begins : Stmt := top 37
abbrev s__law_is_right : Stmt := top 38
abbrev s__law_due : Stmt := top 39
abbrev s__law_told : Stmt := top 40
abbrev s__law_heard : Stmt := top 35
abbrev s_BadText___init__ : Stmt := inClass (top 5) 0
abbrev s_need_endless : Stmt := top 22
abbrev s_is_integer : Stmt := top 9
abbrev s_common : Stmt := top 10
abbrev s_Ratio___init__ : Stmt := inClass (top 12) 0
abbrev s_Ratio_endless : Stmt := inClass (top 12) 1
abbrev s_figures_end : Stmt := top 23
abbrev s_top_end : Stmt := top 24
abbrev s_need_bottom : Stmt := top 25
abbrev s_Ratio_read : Stmt := inClass (top 12) 6
abbrev s__law_right : Stmt := top 43
abbrev s__law_spoilt : Stmt := top 42
abbrev s_Ratio___eq__ : Stmt := inClass (top 12) 26
abbrev s_written : Stmt := top 13
abbrev s_Ratio___str__ : Stmt := inClass (top 12) 28
abbrev s__law_made : Stmt := top 33
abbrev s_law : Stmt := top 44
abbrev clsT (K : PySem.W.Frag) : Nat → Addr := fun c => ([He.ga K "WebError", He.ga K "BadRatio", He.ga K "NoRatio", He.ga K "BadText", He.ga K "Nothing", He.ga K "Ratio"] : List Addr).getD c 0
abbrev fldN : Nat → List Str := fun c => ([[], ["at"], [], ["at"], [], ["top", "bottom"]] : List (List Str)).getD c []
abbrev lams : List Str := ["law", "_law_right"]
abbrev WW (K : PySem.W.Frag) : Wd := ⟨K, clsT K, fldN, tbOf K lams⟩
def ft_bottom : Nat → Option Nat := fun c => if c = 5 then some 1 else none
def ft_top : Nat → Option Nat := fun c => if c = 5 then some 0 else none
def et_at : Nat → Option Nat := fun c => if c = 3 then some 0 else none
def isOk : Nat → Bool := fun c => decide (c = 4) || decide (c = 5)
def isTab : TK → CK → Option Bool
  | .non, .ty "int" => some false
  | .bl, .ty "int" => some true
  | .int, .ty "int" => some true
  | .str, .ty "int" => some false
  | .lst, .ty "int" => some false
  | .tup, .ty "int" => some false
  | .dct, .ty "int" => some false
  | .ins 5, .ty "int" => some false
  | .non, .ty "str" => some false
  | .bl, .ty "str" => some false
  | .int, .ty "str" => some false
  | .str, .ty "str" => some true
  | .lst, .ty "str" => some false
  | .tup, .ty "str" => some false
  | .dct, .ty "str" => some false
  | .ins 5, .ty "str" => some false
  | .bl, .ty "bool" => some true
  | .int, .ty "bool" => some false
  | .non, .own 5 => some false
  | .bl, .own 5 => some false
  | .int, .own 5 => some false
  | .str, .own 5 => some false
  | .lst, .own 5 => some false
  | .tup, .own 5 => some false
  | .dct, .own 5 => some false
  | .ins 5, .own 5 => some true
  | .non, .ty "list" => some false
  | .bl, .ty "list" => some false
  | .int, .ty "list" => some false
  | .str, .ty "list" => some false
  | .lst, .ty "list" => some true
  | .tup, .ty "list" => some false
  | .dct, .ty "list" => some false
  | .ins 5, .ty "list" => some false
  | .non, .own 4 => some false
  | .bl, .own 4 => some false
  | .int, .own 4 => some false
  | .str, .own 4 => some false
  | .lst, .own 4 => some false
  | .tup, .own 4 => some false
  | .dct, .own 4 => some false
  | .ins 5, .own 4 => some false
  | .ins 4, .own 4 => some true
  | _, _ => none
def nfTab : TK → Bool
  | .non => true
  | .bl => true
  | .int => true
  | .str => true
  | .lst => true
  | .tup => true
  | .dct => true
  | .ins 5 => true
  | _ => false
def exOk : Nat → Bool := fun c => decide (c = 3)
def exTab : Nat → CK → Option Bool
  | 3, .own 1 => some false
  | 3, .own 2 => some false
  | 3, .own 3 => some true
  | 3, .ty "ValueError" => some true
  | _, _ => none
def mt_WebError : Nat → Option Bool
  | 3 => some true
  | _ => none
structure Tx (K : PySem.W.Frag) (mg : Str → Option Value) : Prop where
  g__law_pen : mg "_law_pen" = some (.ref (He.ga K "_law_pen"))
  g__law_drawn_text : mg "_law_drawn_text" = some (.ref (He.ga K "_law_drawn_text"))
  g__law_is_right : mg "_law_is_right" = some (.ref (He.ga K "_law_is_right"))
  g__law_right : mg "_law_right" = some (.ref (He.ga K "_law_right"))
  g__law_draw : mg "_law_draw" = some (.ref (He.ga K "_law_draw"))
  g__law_spoilt : mg "_law_spoilt" = some (.ref (He.ga K "_law_spoilt"))
  g__law_fraction : mg "_law_fraction" = some (.ref (He.ga K "_law_fraction"))
  g__law_made : mg "_law_made" = some (.ref (He.ga K "_law_made"))
  g_Ratio : mg "Ratio" = some (.ref (He.ga K "Ratio"))
  g__law_text : mg "_law_text" = some (.ref (He.ga K "_law_text"))
  g__law_pick : mg "_law_pick" = some (.ref (He.ga K "_law_pick"))
  g__law_heard : mg "_law_heard" = some (.ref (He.ga K "_law_heard"))
  g__law_low : mg "_law_low" = some (.ref (He.ga K "_law_low"))
  g__law_begins : mg "_law_begins" = some (.ref (He.ga K "_law_begins"))
  g__law_is_number : mg "_law_is_number" = some (.ref (He.ga K "_law_is_number"))
  g__law_due : mg "_law_due" = some (.ref (He.ga K "_law_due"))
  g__law_told : mg "_law_told" = some (.ref (He.ga K "_law_told"))
  g_WebError : mg "WebError" = some (.ref (He.ga K "WebError"))
  g_BadText : mg "BadText" = some (.ref (He.ga K "BadText"))
  g_NoRatio : mg "NoRatio" = some (.ref (He.ga K "NoRatio"))
  g_BadRatio : mg "BadRatio" = some (.ref (He.ga K "BadRatio"))
  g_need_endless : mg "need_endless" = some (.ref (He.ga K "need_endless"))
  g_top_end : mg "top_end" = some (.ref (He.ga K "top_end"))
  g_need_bottom : mg "need_bottom" = some (.ref (He.ga K "need_bottom"))
  g_Nothing : mg "Nothing" = some (.ref (He.ga K "Nothing"))
  g_is_integer : mg "is_integer" = some (.ref (He.ga K "is_integer"))
  g_common : mg "common" = some (.ref (He.ga K "common"))
  g_figures_end : mg "figures_end" = some (.ref (He.ga K "figures_end"))
  g_written : mg "written" = some (.ref (He.ga K "written"))
  n_range : mg "range" = none
  n_str : mg "str" = none
  n_list : mg "list" = none
  n_abs : mg "abs" = none
  n_int : mg "int" = none
  n_len : mg "len" = none
  n_isinstance : mg "isinstance" = none
  n_ValueError : mg "ValueError" = none
  n_bool : mg "bool" = none
  nf_non : PySem.W.notFirst K (He.ga K "Ratio") (TN.v K (.b "NoneType")) = true
  nf_bl : PySem.W.notFirst K (He.ga K "Ratio") (TN.v K (.b "bool")) = true
  nf_int : PySem.W.notFirst K (He.ga K "Ratio") (TN.v K (.b "int")) = true
  nf_str : PySem.W.notFirst K (He.ga K "Ratio") (TN.v K (.b "str")) = true
  nf_lst : PySem.W.notFirst K (He.ga K "Ratio") (TN.v K (.b "list")) = true
  nf_tup : PySem.W.notFirst K (He.ga K "Ratio") (TN.v K (.b "tuple")) = true
  nf_dct : PySem.W.notFirst K (He.ga K "Ratio") (TN.v K (.b "dict")) = true
  nf_Ratio : PySem.W.notFirst K (He.ga K "Ratio") (TN.v K (.o "Ratio")) = true
  me_Ratio___eq__ : Meth K (He.ga K "Ratio") "__eq__" (He.ma K (He.ga K "Ratio") "__eq__")
  ne_Ratio : NeC K (He.ga K "Ratio")
  me_Ratio___str__ : Meth K (He.ga K "Ratio") "__str__" (He.ma K (He.ga K "Ratio") "__str__")
  cm_Ratio_read : CmK K (He.ga K "Ratio") "read" (He5.wf K (He.ga K "Ratio") "classmethod" "read")
  mk_Ratio : Mk K (He.ga K "Ratio") (He.ma K (He.ga K "Ratio") "__init__")
  tab_law : TabK K "law"
  apart : (lams.map (tcP K)).Nodup
  tab__law_right : TabK K "_law_right"
  cls_Ratio : Cls K (He.ga K "Ratio")
  na_Ratio_bottom : NoAttr K (He.ga K "Ratio") "bottom"
  na_Ratio_top : NoAttr K (He.ga K "Ratio") "top"
  xf_BadText : XfC K (He.ga K "BadText")
  no_BadText_at : PySem.W.findIn K (.ref (He.ga K "BadText")) "at" = some none
  exi_BadText : ExI K (He.ga K "BadText") (He.ma K (He.ga K "BadText") "__init__") ["at"]
  c_ENDLESS : ∃ t, mg "ENDLESS" = some (.str "endless" t)
  sm_Ratio_endless : SMet K (He.ga K "Ratio") "endless" (He5.wf K (He.ga K "Ratio") "staticmethod" "endless")
  mk0_Nothing : Mk0 K (He.ga K "Nothing")
  c_FIGURES : ∃ t, mg "FIGURES" = some (.str "0123456789" t)
  cls_Nothing : Cls K (He.ga K "Nothing")
  i_Nothing : ClsI K (He.ga K "Nothing")
  i_Ratio : ClsI K (He.ga K "Ratio")
  kit_non_int : PySem.W.kitOne K (TN.v K (.b "NoneType")) (TN.v K (.b "int")) = some false
  kit_bl_int : PySem.W.kitOne K (TN.v K (.b "bool")) (TN.v K (.b "int")) = some true
  kit_int_int : PySem.W.kitOne K (TN.v K (.b "int")) (TN.v K (.b "int")) = some true
  kit_str_int : PySem.W.kitOne K (TN.v K (.b "str")) (TN.v K (.b "int")) = some false
  kit_lst_int : PySem.W.kitOne K (TN.v K (.b "list")) (TN.v K (.b "int")) = some false
  kit_tup_int : PySem.W.kitOne K (TN.v K (.b "tuple")) (TN.v K (.b "int")) = some false
  kit_dct_int : PySem.W.kitOne K (TN.v K (.b "dict")) (TN.v K (.b "int")) = some false
  kit_Ratio_int : PySem.W.kitOne K (TN.v K (.o "Ratio")) (TN.v K (.b "int")) = some false
  kit_non_str : PySem.W.kitOne K (TN.v K (.b "NoneType")) (TN.v K (.b "str")) = some false
  kit_bl_str : PySem.W.kitOne K (TN.v K (.b "bool")) (TN.v K (.b "str")) = some false
  kit_int_str : PySem.W.kitOne K (TN.v K (.b "int")) (TN.v K (.b "str")) = some false
  kit_str_str : PySem.W.kitOne K (TN.v K (.b "str")) (TN.v K (.b "str")) = some true
  kit_lst_str : PySem.W.kitOne K (TN.v K (.b "list")) (TN.v K (.b "str")) = some false
  kit_tup_str : PySem.W.kitOne K (TN.v K (.b "tuple")) (TN.v K (.b "str")) = some false
  kit_dct_str : PySem.W.kitOne K (TN.v K (.b "dict")) (TN.v K (.b "str")) = some false
  kit_Ratio_str : PySem.W.kitOne K (TN.v K (.o "Ratio")) (TN.v K (.b "str")) = some false
  kit_bl_bool : PySem.W.kitOne K (TN.v K (.b "bool")) (TN.v K (.b "bool")) = some true
  kit_int_bool : PySem.W.kitOne K (TN.v K (.b "int")) (TN.v K (.b "bool")) = some false
  kit_non_Ratio : PySem.W.kitOne K (TN.v K (.b "NoneType")) (TN.v K (.o "Ratio")) = some false
  kit_bl_Ratio : PySem.W.kitOne K (TN.v K (.b "bool")) (TN.v K (.o "Ratio")) = some false
  kit_int_Ratio : PySem.W.kitOne K (TN.v K (.b "int")) (TN.v K (.o "Ratio")) = some false
  kit_str_Ratio : PySem.W.kitOne K (TN.v K (.b "str")) (TN.v K (.o "Ratio")) = some false
  kit_lst_Ratio : PySem.W.kitOne K (TN.v K (.b "list")) (TN.v K (.o "Ratio")) = some false
  kit_tup_Ratio : PySem.W.kitOne K (TN.v K (.b "tuple")) (TN.v K (.o "Ratio")) = some false
  kit_dct_Ratio : PySem.W.kitOne K (TN.v K (.b "dict")) (TN.v K (.o "Ratio")) = some false
  kit_Ratio_Ratio : PySem.W.kitOne K (TN.v K (.o "Ratio")) (TN.v K (.o "Ratio")) = some true
  kit_non_list : PySem.W.kitOne K (TN.v K (.b "NoneType")) (TN.v K (.b "list")) = some false
  kit_bl_list : PySem.W.kitOne K (TN.v K (.b "bool")) (TN.v K (.b "list")) = some false
  kit_int_list : PySem.W.kitOne K (TN.v K (.b "int")) (TN.v K (.b "list")) = some false
  kit_str_list : PySem.W.kitOne K (TN.v K (.b "str")) (TN.v K (.b "list")) = some false
  kit_lst_list : PySem.W.kitOne K (TN.v K (.b "list")) (TN.v K (.b "list")) = some true
  kit_tup_list : PySem.W.kitOne K (TN.v K (.b "tuple")) (TN.v K (.b "list")) = some false
  kit_dct_list : PySem.W.kitOne K (TN.v K (.b "dict")) (TN.v K (.b "list")) = some false
  kit_Ratio_list : PySem.W.kitOne K (TN.v K (.o "Ratio")) (TN.v K (.b "list")) = some false
  kit_non_Nothing : PySem.W.kitOne K (TN.v K (.b "NoneType")) (TN.v K (.o "Nothing")) = some false
  kit_bl_Nothing : PySem.W.kitOne K (TN.v K (.b "bool")) (TN.v K (.o "Nothing")) = some false
  kit_int_Nothing : PySem.W.kitOne K (TN.v K (.b "int")) (TN.v K (.o "Nothing")) = some false
  kit_str_Nothing : PySem.W.kitOne K (TN.v K (.b "str")) (TN.v K (.o "Nothing")) = some false
  kit_lst_Nothing : PySem.W.kitOne K (TN.v K (.b "list")) (TN.v K (.o "Nothing")) = some false
  kit_tup_Nothing : PySem.W.kitOne K (TN.v K (.b "tuple")) (TN.v K (.o "Nothing")) = some false
  kit_dct_Nothing : PySem.W.kitOne K (TN.v K (.b "dict")) (TN.v K (.o "Nothing")) = some false
  kit_Ratio_Nothing : PySem.W.kitOne K (TN.v K (.o "Ratio")) (TN.v K (.o "Nothing")) = some false
  kit_Nothing_Nothing : PySem.W.kitOne K (TN.v K (.o "Nothing")) (TN.v K (.o "Nothing")) = some true
  exC_BadText : ExcC K (He.ga K "BadText")
  kit_BadText_BadRatio : PySem.W.kitOne K (TN.v K (.o "BadText")) (TN.v K (.o "BadRatio")) = some false
  kit_BadText_NoRatio : PySem.W.kitOne K (TN.v K (.o "BadText")) (TN.v K (.o "NoRatio")) = some false
  kit_BadText_BadText : PySem.W.kitOne K (TN.v K (.o "BadText")) (TN.v K (.o "BadText")) = some true
  kit_BadText_ValueError : PySem.W.kitOne K (TN.v K (.o "BadText")) (TN.v K (.b "ValueError")) = some true
  exm_BadText_WebError : PySem.W.exmOne K (.ref (He.ga K "BadText")) (.ref (He.ga K "WebError")) = some true
  d__law_pen : ∃ fd, FunD K "_law_pen" "_law_pen" (defArgs s__law_pen) (defBody s__law_pen) (defScope s__law_pen) [] [] (He.ga K "_law_pen") fd
  k__law_pen : PySem.W.keepIn K (.ref (He.ga K "_law_pen")) = true
  d__law_draw : ∃ fd, FunD K "_law_draw" "_law_draw" (defArgs s__law_draw) (defBody s__law_draw) (defScope s__law_draw) [] [] (He.ga K "_law_draw") fd
  k__law_draw : PySem.W.keepIn K (.ref (He.ga K "_law_draw")) = true
  d__law_low : ∃ fd, FunD K "_law_low" "_law_low" (defArgs s__law_low) (defBody s__law_low) (defScope s__law_low) [] [] (He.ga K "_law_low") fd
  k__law_low : PySem.W.keepIn K (.ref (He.ga K "_law_low")) = true
  d__law_pick : ∃ fd, FunD K "_law_pick" "_law_pick" (defArgs s__law_pick) (defBody s__law_pick) (defScope s__law_pick) [] [] (He.ga K "_law_pick") fd
  k__law_pick : PySem.W.keepIn K (.ref (He.ga K "_law_pick")) = true
  d__law_fraction : ∃ fd, FunD K "_law_fraction" "_law_fraction" (defArgs s__law_fraction) (defBody s__law_fraction) (defScope s__law_fraction) [] [] (He.ga K "_law_fraction") fd
  k__law_fraction : PySem.W.keepIn K (.ref (He.ga K "_law_fraction")) = true
  d__law_text : ∃ fd, FunD K "_law_text" "_law_text" (defArgs s__law_text) (defBody s__law_text) (defScope s__law_text) [] [] (He.ga K "_law_text") fd
  k__law_text : PySem.W.keepIn K (.ref (He.ga K "_law_text")) = true
  d__law_drawn_text : ∃ fd, FunD K "_law_drawn_text" "_law_drawn_text" (defArgs s__law_drawn_text) (defBody s__law_drawn_text) (defScope s__law_drawn_text) [] [] (He.ga K "_law_drawn_text") fd
  k__law_drawn_text : PySem.W.keepIn K (.ref (He.ga K "_law_drawn_text")) = true
  d__law_is_number : ∃ fd, FunD K "_law_is_number" "_law_is_number" (defArgs s__law_is_number) (defBody s__law_is_number) (defScope s__law_is_number) [] [] (He.ga K "_law_is_number") fd
  k__law_is_number : PySem.W.keepIn K (.ref (He.ga K "_law_is_number")) = true
  d__law_begins : ∃ fd, FunD K "_law_begins" "_law_begins" (defArgs s__law_begins) (defBody s__law_begins) (defScope s__law_begins) [] [] (He.ga K "_law_begins") fd
  k__law_begins : PySem.W.keepIn K (.ref (He.ga K "_law_begins")) = true
  d__law_is_right : ∃ fd, FunD K "_law_is_right" "_law_is_right" (defArgs s__law_is_right) (defBody s__law_is_right) (defScope s__law_is_right) [] [] (He.ga K "_law_is_right") fd
  k__law_is_right : PySem.W.keepIn K (.ref (He.ga K "_law_is_right")) = true
  d__law_due : ∃ fd, FunD K "_law_due" "_law_due" (defArgs s__law_due) (defBody s__law_due) (defScope s__law_due) [] [] (He.ga K "_law_due") fd
  k__law_due : PySem.W.keepIn K (.ref (He.ga K "_law_due")) = true
  d__law_told : ∃ fd, FunD K "_law_told" "_law_told" (defArgs s__law_told) (defBody s__law_told) (defScope s__law_told) [] [] (He.ga K "_law_told") fd
  k__law_told : PySem.W.keepIn K (.ref (He.ga K "_law_told")) = true
  d__law_heard : ∃ fd, FunD K "_law_heard" "_law_heard" (defArgs s__law_heard) (defBody s__law_heard) (defScope s__law_heard) [] [] (He.ga K "_law_heard") fd
  k__law_heard : PySem.W.keepIn K (.ref (He.ga K "_law_heard")) = true
  d_BadText___init__ : ∃ fd, FunD K "__init__" "BadText.__init__" (defArgs s_BadText___init__) (defBody s_BadText___init__) (defScope s_BadText___init__) [] [] (He.ma K (He.ga K "BadText") "__init__") fd
  k_BadText___init__ : PySem.W.keepIn K (.ref (He.ma K (He.ga K "BadText") "__init__")) = true
  d_need_endless : ∃ fd, FunD K "need_endless" "need_endless" (defArgs s_need_endless) (defBody s_need_endless) (defScope s_need_endless) [] [] (He.ga K "need_endless") fd
  k_need_endless : PySem.W.keepIn K (.ref (He.ga K "need_endless")) = true
  d_is_integer : ∃ fd, FunD K "is_integer" "is_integer" (defArgs s_is_integer) (defBody s_is_integer) (defScope s_is_integer) [] [] (He.ga K "is_integer") fd
  k_is_integer : PySem.W.keepIn K (.ref (He.ga K "is_integer")) = true
  d_common : ∃ fd, FunD K "common" "common" (defArgs s_common) (defBody s_common) (defScope s_common) [] [] (He.ga K "common") fd
  k_common : PySem.W.keepIn K (.ref (He.ga K "common")) = true
  d_Ratio___init__ : ∃ fd, FunD K "__init__" "Ratio.__init__" (defArgs s_Ratio___init__) (defBody s_Ratio___init__) (defScope s_Ratio___init__) [V.int 1] [] (He.ma K (He.ga K "Ratio") "__init__") fd
  k_Ratio___init__ : PySem.W.keepIn K (.ref (He.ma K (He.ga K "Ratio") "__init__")) = true
  d_Ratio_endless : ∃ fd, FunD K "endless" "Ratio.endless" (defArgs s_Ratio_endless) (defBody s_Ratio_endless) (defScope s_Ratio_endless) [] [] (He5.wf K (He.ga K "Ratio") "staticmethod" "endless") fd
  k_Ratio_endless : PySem.W.keepIn K (.ref (He5.wf K (He.ga K "Ratio") "staticmethod" "endless")) = true
  d_figures_end : ∃ fd, FunD K "figures_end" "figures_end" (defArgs s_figures_end) (defBody s_figures_end) (defScope s_figures_end) [] [] (He.ga K "figures_end") fd
  k_figures_end : PySem.W.keepIn K (.ref (He.ga K "figures_end")) = true
  d_top_end : ∃ fd, FunD K "top_end" "top_end" (defArgs s_top_end) (defBody s_top_end) (defScope s_top_end) [] [] (He.ga K "top_end") fd
  k_top_end : PySem.W.keepIn K (.ref (He.ga K "top_end")) = true
  d_need_bottom : ∃ fd, FunD K "need_bottom" "need_bottom" (defArgs s_need_bottom) (defBody s_need_bottom) (defScope s_need_bottom) [] [] (He.ga K "need_bottom") fd
  k_need_bottom : PySem.W.keepIn K (.ref (He.ga K "need_bottom")) = true
  d_Ratio_read : ∃ fd, FunD K "read" "Ratio.read" (defArgs s_Ratio_read) (defBody s_Ratio_read) (defScope s_Ratio_read) [] [] (He5.wf K (He.ga K "Ratio") "classmethod" "read") fd
  k_Ratio_read : PySem.W.keepIn K (.ref (He5.wf K (He.ga K "Ratio") "classmethod" "read")) = true
  d__law_right : ∃ fd, FunD K "_law_right" "_law_right" (defArgs s__law_right) (defBody s__law_right) (defScope s__law_right) [] [] (He.ga K "_law_right") fd
  k__law_right : PySem.W.keepIn K (.ref (He.ga K "_law_right")) = true
  d__law_spoilt : ∃ fd, FunD K "_law_spoilt" "_law_spoilt" (defArgs s__law_spoilt) (defBody s__law_spoilt) (defScope s__law_spoilt) [] [] (He.ga K "_law_spoilt") fd
  k__law_spoilt : PySem.W.keepIn K (.ref (He.ga K "_law_spoilt")) = true
  d_Ratio___eq__ : ∃ fd, FunD K "__eq__" "Ratio.__eq__" (defArgs s_Ratio___eq__) (defBody s_Ratio___eq__) (defScope s_Ratio___eq__) [] [] (He.ma K (He.ga K "Ratio") "__eq__") fd
  k_Ratio___eq__ : PySem.W.keepIn K (.ref (He.ma K (He.ga K "Ratio") "__eq__")) = true
  d_written : ∃ fd, FunD K "written" "written" (defArgs s_written) (defBody s_written) (defScope s_written) [] [] (He.ga K "written") fd
  k_written : PySem.W.keepIn K (.ref (He.ga K "written")) = true
  d_Ratio___str__ : ∃ fd, FunD K "__str__" "Ratio.__str__" (defArgs s_Ratio___str__) (defBody s_Ratio___str__) (defScope s_Ratio___str__) [] [] (He.ma K (He.ga K "Ratio") "__str__") fd
  k_Ratio___str__ : PySem.W.keepIn K (.ref (He.ma K (He.ga K "Ratio") "__str__")) = true
  d__law_made : ∃ fd, FunD K "_law_made" "_law_made" (defArgs s__law_made) (defBody s__law_made) (defScope s__law_made) [] [] (He.ga K "_law_made") fd
  k__law_made : PySem.W.keepIn K (.ref (He.ga K "_law_made")) = true
  d_law : ∃ fd, FunD K "law" "law" (defArgs s_law) (defBody s_law) (defScope s_law) [] [] (He.ga K "law") fd
  k_law : PySem.W.keepIn K (.ref (He.ga K "law")) = true
section
variable {P : Program} {w : World} {K : PySem.W.Frag} {mg : Str → Option Value} {base : Heap}
theorem Tx.fld_bottom (T : Tx K mg) : FldsOk (WW K) "bottom" ft_bottom := by
  intro c i h
  unfold ft_bottom at h
  split at h
  · rename_i e; subst e; cases h; exact ⟨T.cls_Ratio, T.na_Ratio_bottom, rfl, by show (["top", "bottom"] : List Str).Nodup; decide +kernel⟩
  cases h
theorem Tx.fld_top (T : Tx K mg) : FldsOk (WW K) "top" ft_top := by
  intro c i h
  unfold ft_top at h
  split at h
  · rename_i e; subst e; cases h; exact ⟨T.cls_Ratio, T.na_Ratio_top, rfl, by show (["top", "bottom"] : List Str).Nodup; decide +kernel⟩
  cases h
theorem Tx.efl_at (T : Tx K mg) : EflsOk (WW K) "at" et_at := by
  intro c i h
  unfold et_at at h
  split at h
  · rename_i e; subst e; cases h; exact ⟨T.xf_BadText, T.no_BadText_at, rfl, by show (["at"] : List Str).Nodup; decide +kernel⟩
  cases h
theorem Tx.isOk (T : Tx K mg) : ClsOk (WW K) isOk := by
  intro c h
  simp only [K06.isOk, Bool.or_eq_true, decide_eq_true_eq] at h
  rcases h with h | h
  · subst h; exact T.i_Nothing
  · subst h; exact T.i_Ratio
theorem Tx.isTab (T : Tx K mg) : IsiOk (WW K) isTab := by
  intro t c b h
  unfold K06.isTab at h
  split at h
  · cases h; exact T.kit_non_int
  · cases h; exact T.kit_bl_int
  · cases h; exact T.kit_int_int
  · cases h; exact T.kit_str_int
  · cases h; exact T.kit_lst_int
  · cases h; exact T.kit_tup_int
  · cases h; exact T.kit_dct_int
  · cases h; exact T.kit_Ratio_int
  · cases h; exact T.kit_non_str
  · cases h; exact T.kit_bl_str
  · cases h; exact T.kit_int_str
  · cases h; exact T.kit_str_str
  · cases h; exact T.kit_lst_str
  · cases h; exact T.kit_tup_str
  · cases h; exact T.kit_dct_str
  · cases h; exact T.kit_Ratio_str
  · cases h; exact T.kit_bl_bool
  · cases h; exact T.kit_int_bool
  · cases h; exact T.kit_non_Ratio
  · cases h; exact T.kit_bl_Ratio
  · cases h; exact T.kit_int_Ratio
  · cases h; exact T.kit_str_Ratio
  · cases h; exact T.kit_lst_Ratio
  · cases h; exact T.kit_tup_Ratio
  · cases h; exact T.kit_dct_Ratio
  · cases h; exact T.kit_Ratio_Ratio
  · cases h; exact T.kit_non_list
  · cases h; exact T.kit_bl_list
  · cases h; exact T.kit_int_list
  · cases h; exact T.kit_str_list
  · cases h; exact T.kit_lst_list
  · cases h; exact T.kit_tup_list
  · cases h; exact T.kit_dct_list
  · cases h; exact T.kit_Ratio_list
  · cases h; exact T.kit_non_Nothing
  · cases h; exact T.kit_bl_Nothing
  · cases h; exact T.kit_int_Nothing
  · cases h; exact T.kit_str_Nothing
  · cases h; exact T.kit_lst_Nothing
  · cases h; exact T.kit_tup_Nothing
  · cases h; exact T.kit_dct_Nothing
  · cases h; exact T.kit_Ratio_Nothing
  · cases h; exact T.kit_Nothing_Nothing
  · cases h
theorem Tx.nfTab (T : Tx K mg) : NfOk (WW K) 5 nfTab := by
  intro t h
  unfold K06.nfTab at h
  split at h
  · exact T.nf_non
  · exact T.nf_bl
  · exact T.nf_int
  · exact T.nf_str
  · exact T.nf_lst
  · exact T.nf_tup
  · exact T.nf_dct
  · exact T.nf_Ratio
  · cases h
theorem Tx.exOk (T : Tx K mg) : ExOk (WW K) exOk := by
  intro c h
  simp only [K06.exOk, Bool.or_eq_true, decide_eq_true_eq] at h
  subst h; exact T.exC_BadText
theorem Tx.exTab (T : Tx K mg) : IsiEOk (WW K) exTab := by
  intro t c b h
  unfold K06.exTab at h
  split at h
  · cases h; exact T.kit_BadText_BadRatio
  · cases h; exact T.kit_BadText_NoRatio
  · cases h; exact T.kit_BadText_BadText
  · cases h; exact T.kit_BadText_ValueError
  · cases h
theorem Tx.mt_WebError (T : Tx K mg) : MtOk (WW K) (.ref (He.ga K "WebError")) mt_WebError := by
  intro k b h
  unfold K06.mt_WebError at h
  split at h
  · cases h; exact T.exm_BadText_WebError
  · cases h
theorem sc__law_pen : FnScope ["_law_script"] ["_law_script"] (defScope s__law_pen) := ⟨rfl, rfl, rfl, by decide +kernel, rfl, by decide +kernel, by decide +kernel⟩
noncomputable def b__law_pen : GS' :=
  (gRet (gLstM (gCons (gCall fList (gCons (gSl (gVar 0) goNone (goSome (gC (.int 63)))) gNil)) (gCons (gC (.int 0)) (gCons (gC (.int 0)) gNil)))))
noncomputable def f__law_pen : List D → Stor → R D := gFn 1 1 b__law_pen
theorem fg__law_pen (T : Tx K mg) (B : ∀ p ∈ csOf K lams, LamX.TabB base mg p.1 p.2) {fd : FuncData} (F : FunD K "_law_pen" "_law_pen" (defArgs s__law_pen) (defBody s__law_pen) (defScope s__law_pen) [] [] (He.ga K "_law_pen") fd) : FnG P w (WW K) mg base 1 (He.ga K "_law_pen") fd ["_law_script"] f__law_pen :=
  fng_of (W := WW K) (N := ["_law_script"]) F sc__law_pen (fun cdv A outer s H E hr gd =>
    (gs_one (gs_ret (ge_lstM (ga_cons (ge_callTy (cg_list rfl) rfl T.n_list (by decide +kernel) (ga_cons (ge_slice rfl (ge_var (pv 0)) go_none (go_some ge_int)) ga_nil)) (ga_cons ge_int (ga_cons ge_int ga_nil)))))))
theorem ok__law_pen (T : Tx K mg) (B : ∀ p ∈ csOf K lams, LamX.TabB base mg p.1 p.2) : FnB P w (WW K) mg base 1 (He.ga K "_law_pen") ["_law_script"] f__law_pen := by
  obtain ⟨fd, F⟩ := T.d__law_pen
  exact ⟨⟨fd, fg__law_pen T B F, F.bindsN fun _ _ _ _ _ _ us hl => match us, hl with | [_], _ => rfl⟩, T.k__law_pen⟩
theorem sc__law_draw : FnScope ["_law_pen_here", "_law_many", "_law_digit", "_law_at", "_law_cell", "_law_great", "_law_blended"] ["_law_pen_here", "_law_many"] (defScope s__law_draw) := ⟨rfl, rfl, rfl, by decide +kernel, rfl, by decide +kernel, by decide +kernel⟩
noncomputable def b__law_draw : GS' :=
  (gSeq (gIf (gTr truD (gBin dGtI (gBin dIx (gVar 0) (gC (.int 2))) (gC (.int 0)))) (gSeq (gSet 2 (gBin dModI (gCall fInt (gCons (gBin dIx (gVar 0) (gC (.int 2))) gNil)) (gVar 1)))
    (gSeq (gAsg (ggSub (gVar 0) (gC (.int 2))) (gBin dDivI (gCall fInt (gCons (gBin dIx (gVar 0) (gC (.int 2))) gNil)) (gVar 1)))
    (gRet (gVar 2)))) gSkip)
    (gSeq (gSet 3 (gBin dIx (gVar 0) (gC (.int 1))))
    (gSeq (gAsg (ggSub (gVar 0) (gC (.int 1))) (gBin dAdd (gVar 3) (gC (.int 1))))
    (gSeq (gSet 4 (gBin dAdd (gBin dMul (gC (.int 31277)) (gVar 3)) (gC (.int 443))))
    (gSeq (gIf (gTr truD (gBin dNe (gBin dIx (gVar 0) (gC (.int 0))) (gLst gNil))) (gSet 4 (gBin dIx (gBin dIx (gVar 0) (gC (.int 0))) (gBin dModI (gCall fInt (gCons (gVar 3) gNil)) (gCall fLen (gCons (gBin dIx (gVar 0) (gC (.int 0))) gNil))))) gSkip)
    (gSeq (gIf (gAnd (gTr truD (gBin dLtI (gVar 3) (gCall fLen (gCons (gBin dIx (gVar 0) (gC (.int 0))) gNil)))) (gTr truD (gBin dGeI (gCall fAbsI (gCons (gVar 4) gNil)) (gBin dPowI (gC (.int 10)) (gC (.int 18)))))) (gSeq (gSet 5 (gBin dAdd (gBin dMul (gC (.int 2)) (gBin dSubI (gCall fAbsI (gCons (gVar 4) gNil)) (gBin dPowI (gC (.int 10)) (gC (.int 18))))) (gCall fInt (gCons (gBin dLtI (gVar 4) (gC (.int 0))) gNil))))
    (gSeq (gAsg (ggSub (gVar 0) (gC (.int 2))) (gBin dDivI (gCall fInt (gCons (gVar 5) gNil)) (gVar 1)))
    (gRet (gBin dModI (gCall fInt (gCons (gVar 5) gNil)) (gVar 1))))) gSkip)
    (gSeq (gSet 6 (gBin dModI (gCall fInt (gCons (gBin dPowI (gBin dAdd (gBin dAdd (gBin dModI (gCall fInt (gCons (gVar 4) gNil)) (gC (.int 2147483563))) (gBin dMul (gC (.int 50243)) (gVar 3))) (gC (.int 103))) (gC (.int 5))) gNil)) (gC (.int 2147483587))))
    (gSeq (gSet 6 (gBin dModI (gCall fInt (gCons (gBin dPowI (gBin dAdd (gBin dAdd (gBin dMul (gVar 6) (gBin dAdd (gBin dMul (gC (.int 2)) (gVar 3)) (gC (.int 95)))) (gBin dMul (gBin dMul (gC (.int 40237)) (gVar 3)) (gVar 3))) (gC (.int 35))) (gC (.int 3))) gNil)) (gC (.int 2147483629))))
    (gRet (gBin dModI (gCall fInt (gCons (gBin dDivI (gVar 6) (gC (.int 32))) gNil)) (gVar 1)))))))))))
noncomputable def f__law_draw : List D → Stor → R D := gFn 2 7 b__law_draw
theorem fg__law_draw (T : Tx K mg) (B : ∀ p ∈ csOf K lams, LamX.TabB base mg p.1 p.2) {fd : FuncData} (F : FunD K "_law_draw" "_law_draw" (defArgs s__law_draw) (defBody s__law_draw) (defScope s__law_draw) [] [] (He.ga K "_law_draw") fd) : FnG P w (WW K) mg base 1 (He.ga K "_law_draw") fd ["_law_pen_here", "_law_many"] f__law_draw :=
  fng_of (W := WW K) (N := ["_law_pen_here", "_law_many", "_law_digit", "_law_at", "_law_cell", "_law_great", "_law_blended"]) F sc__law_draw (fun cdv A outer s H E hr gd =>
    (gs_cons (gs_if (gt_cmp (tru_plain rfl) og_gtI (ge_ix rfl (ge_var (pv 0)) ge_int (fun _ _ => rfl)) ge_int (nomark _)) (gs_cons (gs_set (i := 2) sc__law_draw.nd rfl (by first | exact Or.inl rfl | exact Or.inr rfl) (ge_bin og_modI (ge_callTy cg_int rfl T.n_int (by decide +kernel) (ga_cons (ge_ix rfl (ge_var (pv 0)) ge_int (fun _ _ => rfl)) ga_nil)) (ge_var (pv 1))))
    (gs_cons (gs_asg (ge_bin og_divI (ge_callTy cg_int rfl T.n_int (by decide +kernel) (ga_cons (ge_ix rfl (ge_var (pv 0)) ge_int (fun _ _ => rfl)) ga_nil)) (ge_var (pv 1))) (gg_sub (E := fun _ => E) (ge_var (pv 0)) ge_int))
    (gs_one (gs_ret (ge_var (pv 2)))))) gs_nil)
    (gs_cons (gs_set (i := 3) sc__law_draw.nd rfl (by first | exact Or.inl rfl | exact Or.inr rfl) (ge_ix rfl (ge_var (pv 0)) ge_int (fun _ _ => rfl)))
    (gs_cons (gs_asg (ge_bin (og_add rfl) (ge_var (pv 3)) ge_int) (gg_sub (E := fun _ => E) (ge_var (pv 0)) ge_int))
    (gs_cons (gs_set (i := 4) sc__law_draw.nd rfl (by first | exact Or.inl rfl | exact Or.inr rfl) (ge_bin (og_add rfl) (ge_bin og_mul ge_int (ge_var (pv 3))) ge_int))
    (gs_cons (gs_if (gt_cmp (tru_plain rfl) (og_ne rfl hr.units) (ge_ix rfl (ge_var (pv 0)) ge_int (fun _ _ => rfl)) (ge_lst ga_nil) (nomark _)) (gs_one (gs_set (i := 4) sc__law_draw.nd rfl (by first | exact Or.inl rfl | exact Or.inr rfl) (ge_ix rfl (ge_ix rfl (ge_var (pv 0)) ge_int (fun _ _ => rfl)) (ge_bin og_modI (ge_callTy cg_int rfl T.n_int (by decide +kernel) (ga_cons (ge_var (pv 3)) ga_nil)) (ge_callB (cg_len rfl) rfl T.n_len (by decide +kernel) (ga_cons (ge_ix rfl (ge_var (pv 0)) ge_int (fun _ _ => rfl)) ga_nil))) (fun _ _ => rfl)))) gs_nil)
    (gs_cons (gs_if (PW.pt (gw_and (gt_cmp (tru_plain rfl) og_ltI (ge_var (pv 3)) (ge_callB (cg_len rfl) rfl T.n_len (by decide +kernel) (ga_cons (ge_ix rfl (ge_var (pv 0)) ge_int (fun _ _ => rfl)) ga_nil)) (nomark _)) (gw_and1 (gt_cmp (tru_plain rfl) og_geI (ge_callB cg_abs rfl T.n_abs (by decide +kernel) (ga_cons (ge_var (pv 4)) ga_nil)) (ge_bin og_powI ge_int ge_int) (nomark _))))) (gs_cons (gs_set (i := 5) sc__law_draw.nd rfl (by first | exact Or.inl rfl | exact Or.inr rfl) (ge_bin (og_add rfl) (ge_bin og_mul ge_int (ge_bin og_subI (ge_callB cg_abs rfl T.n_abs (by decide +kernel) (ga_cons (ge_var (pv 4)) ga_nil)) (ge_bin og_powI ge_int ge_int))) (ge_callTy cg_int rfl T.n_int (by decide +kernel) (ga_cons (ge_cmp og_ltI (ge_var (pv 4)) ge_int (nomark _)) ga_nil))))
    (gs_cons (gs_asg (ge_bin og_divI (ge_callTy cg_int rfl T.n_int (by decide +kernel) (ga_cons (ge_var (pv 5)) ga_nil)) (ge_var (pv 1))) (gg_sub (E := fun _ => E) (ge_var (pv 0)) ge_int))
    (gs_one (gs_ret (ge_bin og_modI (ge_callTy cg_int rfl T.n_int (by decide +kernel) (ga_cons (ge_var (pv 5)) ga_nil)) (ge_var (pv 1))))))) gs_nil)
    (gs_cons (gs_set (i := 6) sc__law_draw.nd rfl (by first | exact Or.inl rfl | exact Or.inr rfl) (ge_bin og_modI (ge_callTy cg_int rfl T.n_int (by decide +kernel) (ga_cons (ge_bin og_powI (ge_bin (og_add rfl) (ge_bin (og_add rfl) (ge_bin og_modI (ge_callTy cg_int rfl T.n_int (by decide +kernel) (ga_cons (ge_var (pv 4)) ga_nil)) ge_int) (ge_bin og_mul ge_int (ge_var (pv 3)))) ge_int) ge_int) ga_nil)) ge_int))
    (gs_cons (gs_set (i := 6) sc__law_draw.nd rfl (by first | exact Or.inl rfl | exact Or.inr rfl) (ge_bin og_modI (ge_callTy cg_int rfl T.n_int (by decide +kernel) (ga_cons (ge_bin og_powI (ge_bin (og_add rfl) (ge_bin (og_add rfl) (ge_bin og_mul (ge_var (pv 6)) (ge_bin (og_add rfl) (ge_bin og_mul ge_int (ge_var (pv 3))) ge_int)) (ge_bin og_mul (ge_bin og_mul ge_int (ge_var (pv 3))) (ge_var (pv 3)))) ge_int) ge_int) ga_nil)) ge_int))
    (gs_one (gs_ret (ge_bin og_modI (ge_callTy cg_int rfl T.n_int (by decide +kernel) (ga_cons (ge_bin og_divI (ge_var (pv 6)) ge_int) ga_nil)) (ge_var (pv 1))))))))))))))
theorem ok__law_draw (T : Tx K mg) (B : ∀ p ∈ csOf K lams, LamX.TabB base mg p.1 p.2) : FnB P w (WW K) mg base 1 (He.ga K "_law_draw") ["_law_pen_here", "_law_many"] f__law_draw := by
  obtain ⟨fd, F⟩ := T.d__law_draw
  exact ⟨⟨fd, fg__law_draw T B F, F.bindsN fun _ _ _ _ _ _ us hl => match us, hl with | [_, _], _ => rfl⟩, T.k__law_draw⟩
theorem sc__law_low : FnScope ["_law_upper", "_law_lower", "_law_first", "_law_second"] ["_law_upper", "_law_lower"] (defScope s__law_low) := ⟨rfl, rfl, rfl, by decide +kernel, rfl, by decide +kernel, by decide +kernel⟩
noncomputable def b__law_low : GS' :=
  (gSeq (gPar2 2 3 (gCons (gCall fAbsI (gCons (gCall fInt (gCons (gVar 0) gNil)) gNil)) (gCons (gCall fInt (gCons (gVar 1) gNil)) gNil)))
    (gSeq (gWhile (gTr truD (gBin dNe (gVar 3) (gC (.int 0)))) (gPar2 2 3 (gCons (gVar 3) (gCons (gBin dModI (gCall fInt (gCons (gVar 2) gNil)) (gVar 3)) gNil))) fuel)
    (gRet (gTup (gCons (gBin dDivI (gCall fInt (gCons (gVar 0) gNil)) (gVar 2)) (gCons (gBin dDivI (gCall fInt (gCons (gVar 1) gNil)) (gVar 2)) gNil))))))
noncomputable def f__law_low : List D → Stor → R D := gFn 2 4 b__law_low
theorem fg__law_low (T : Tx K mg) (B : ∀ p ∈ csOf K lams, LamX.TabB base mg p.1 p.2) {fd : FuncData} (F : FunD K "_law_low" "_law_low" (defArgs s__law_low) (defBody s__law_low) (defScope s__law_low) [] [] (He.ga K "_law_low") fd) : FnG P w (WW K) mg base 1 (He.ga K "_law_low") fd ["_law_upper", "_law_lower"] f__law_low :=
  fng_of (W := WW K) (N := ["_law_upper", "_law_lower", "_law_first", "_law_second"]) F sc__law_low (fun cdv A outer s H E hr gd =>
    (gs_cons (gs_par2 (i := 2) (j := 3) rfl sc__law_low.nd rfl rfl (by decide) rfl rfl (ga_cons (ge_callB cg_abs rfl T.n_abs (by decide +kernel) (ga_cons (ge_callTy cg_int rfl T.n_int (by decide +kernel) (ga_cons (ge_var (pv 0)) ga_nil)) ga_nil)) (ga_cons (ge_callTy cg_int rfl T.n_int (by decide +kernel) (ga_cons (ge_var (pv 1)) ga_nil)) ga_nil)))
    (gs_cons (gs_while fuel own_def (gt_cmp (tru_plain rfl) (og_ne rfl hr.units) (ge_var (pv 3)) ge_int (nomark _)) (gs_one (gs_par2 (i := 2) (j := 3) rfl sc__law_low.nd rfl rfl (by decide) rfl rfl (ga_cons (ge_var (pv 3)) (ga_cons (ge_bin og_modI (ge_callTy cg_int rfl T.n_int (by decide +kernel) (ga_cons (ge_var (pv 2)) ga_nil)) (ge_var (pv 3))) ga_nil)))))
    (gs_one (gs_ret (ge_tup (ga_cons (ge_bin og_divI (ge_callTy cg_int rfl T.n_int (by decide +kernel) (ga_cons (ge_var (pv 0)) ga_nil)) (ge_var (pv 2))) (ga_cons (ge_bin og_divI (ge_callTy cg_int rfl T.n_int (by decide +kernel) (ga_cons (ge_var (pv 1)) ga_nil)) (ge_var (pv 2))) ga_nil))))))))
theorem ok__law_low (T : Tx K mg) (B : ∀ p ∈ csOf K lams, LamX.TabB base mg p.1 p.2) : FnB P w (WW K) mg base 1 (He.ga K "_law_low") ["_law_upper", "_law_lower"] f__law_low := by
  obtain ⟨fd, F⟩ := T.d__law_low
  exact ⟨⟨fd, fg__law_low T B F, F.bindsN fun _ _ _ _ _ _ us hl => match us, hl with | [_, _], _ => rfl⟩, T.k__law_low⟩
theorem sc__law_pick : FnScope ["_law_pen_here", "_law_some"] ["_law_pen_here", "_law_some"] (defScope s__law_pick) := ⟨rfl, rfl, rfl, by decide +kernel, rfl, by decide +kernel, by decide +kernel⟩
noncomputable def b__law_pick : GS' :=
  (gRet (gBin dIx (gVar 1) (gCall f__law_draw (gCons (gVar 0) (gCons (gCall fLen (gCons (gVar 1) gNil)) gNil)))))
noncomputable def f__law_pick : List D → Stor → R D := gFn 2 2 b__law_pick
theorem fg__law_pick (T : Tx K mg) (B : ∀ p ∈ csOf K lams, LamX.TabB base mg p.1 p.2) {fd : FuncData} (F : FunD K "_law_pick" "_law_pick" (defArgs s__law_pick) (defBody s__law_pick) (defScope s__law_pick) [] [] (He.ga K "_law_pick") fd) : FnG P w (WW K) mg base 2 (He.ga K "_law_pick") fd ["_law_pen_here", "_law_some"] f__law_pick :=
  fng_of (W := WW K) (N := ["_law_pen_here", "_law_some"]) F sc__law_pick (fun cdv A outer s H E hr gd =>
    (gs_one (gs_ret (ge_ix rfl (ge_var (pv 1)) (ge_call (cg_b (ok__law_draw T B) rfl (hr.mono (by decide)) gd pass_def) rfl T.g__law_draw T.k__law_draw (ga_cons (ge_var (pv 0)) (ga_cons (ge_callB (cg_len rfl) rfl T.n_len (by decide +kernel) (ga_cons (ge_var (pv 1)) ga_nil)) ga_nil))) (fun _ _ => rfl)))))
theorem ok__law_pick (T : Tx K mg) (B : ∀ p ∈ csOf K lams, LamX.TabB base mg p.1 p.2) : FnB P w (WW K) mg base 2 (He.ga K "_law_pick") ["_law_pen_here", "_law_some"] f__law_pick := by
  obtain ⟨fd, F⟩ := T.d__law_pick
  exact ⟨⟨fd, fg__law_pick T B F, F.bindsN fun _ _ _ _ _ _ us hl => match us, hl with | [_, _], _ => rfl⟩, T.k__law_pick⟩
theorem sc__law_fraction : FnScope ["_law_pen_here", "_law_tops", "_law_bottoms", "_law_sign"] ["_law_pen_here"] (defScope s__law_fraction) := ⟨rfl, rfl, rfl, by decide +kernel, rfl, by decide +kernel, by decide +kernel⟩
noncomputable def b__law_fraction : GS' :=
  (gSeq (gSet 1 (gLst (gCons (gC (.int 0)) (gCons (gC (.int 1)) (gCons (gC (.int 1)) (gCons (gC (.int 2)) (gCons (gC (.int 3)) (gCons (gC (.int 5)) (gCons (gC (.int 7)) (gCons (gC (.int 12)) (gCons (gC (.int 30)) (gCons (gBin dAdd (gBin dPowI (gC (.int 10)) (gC (.int 9))) (gC (.int 7))) (gCons (gBin dPowI (gC (.int 10)) (gC (.int 29))) (gCons (gCall f__law_draw (gCons (gVar 0) (gCons (gC (.int 100)) gNil))) gNil))))))))))))))
    (gSeq (gSet 2 (gLst (gCons (gC (.int 1)) (gCons (gC (.int 1)) (gCons (gC (.int 1)) (gCons (gC (.int 2)) (gCons (gC (.int 2)) (gCons (gC (.int 3)) (gCons (gC (.int 4)) (gCons (gC (.int 6)) (gCons (gC (.int 12)) (gCons (gBin dAdd (gBin dPowI (gC (.int 10)) (gC (.int 9))) (gC (.int 7))) (gCons (gBin dPowI (gC (.int 10)) (gC (.int 29))) (gCons (gBin dAdd (gC (.int 1)) (gCall f__law_draw (gCons (gVar 0) (gCons (gC (.int 100)) gNil)))) gNil))))))))))))))
    (gSeq (gSet 3 (gBin dSubI (gC (.int 1)) (gBin dMul (gC (.int 2)) (gCall fInt (gCons (gBin dEq (gCall f__law_draw (gCons (gVar 0) (gCons (gC (.int 3)) gNil))) (gC (.int 0))) gNil)))))
    (gRet (gCall f__law_low (gCons (gBin dMul (gVar 3) (gCall f__law_pick (gCons (gVar 0) (gCons (gVar 1) gNil)))) (gCons (gCall f__law_pick (gCons (gVar 0) (gCons (gVar 2) gNil))) gNil)))))))
noncomputable def f__law_fraction : List D → Stor → R D := gFn 1 4 b__law_fraction
theorem fg__law_fraction (T : Tx K mg) (B : ∀ p ∈ csOf K lams, LamX.TabB base mg p.1 p.2) {fd : FuncData} (F : FunD K "_law_fraction" "_law_fraction" (defArgs s__law_fraction) (defBody s__law_fraction) (defScope s__law_fraction) [] [] (He.ga K "_law_fraction") fd) : FnG P w (WW K) mg base 3 (He.ga K "_law_fraction") fd ["_law_pen_here"] f__law_fraction :=
  fng_of (W := WW K) (N := ["_law_pen_here", "_law_tops", "_law_bottoms", "_law_sign"]) F sc__law_fraction (fun cdv A outer s H E hr gd =>
    (gs_cons (gs_set (i := 1) sc__law_fraction.nd rfl (by first | exact Or.inl rfl | exact Or.inr rfl) (ge_lst (ga_cons ge_int (ga_cons ge_int (ga_cons ge_int (ga_cons ge_int (ga_cons ge_int (ga_cons ge_int (ga_cons ge_int (ga_cons ge_int (ga_cons ge_int (ga_cons (ge_bin (og_add rfl) (ge_bin og_powI ge_int ge_int) ge_int) (ga_cons (ge_bin og_powI ge_int ge_int) (ga_cons (ge_call (cg_b (ok__law_draw T B) rfl (hr.mono (by decide)) gd pass_def) rfl T.g__law_draw T.k__law_draw (ga_cons (ge_var (pv 0)) (ga_cons ge_int ga_nil))) ga_nil))))))))))))))
    (gs_cons (gs_set (i := 2) sc__law_fraction.nd rfl (by first | exact Or.inl rfl | exact Or.inr rfl) (ge_lst (ga_cons ge_int (ga_cons ge_int (ga_cons ge_int (ga_cons ge_int (ga_cons ge_int (ga_cons ge_int (ga_cons ge_int (ga_cons ge_int (ga_cons ge_int (ga_cons (ge_bin (og_add rfl) (ge_bin og_powI ge_int ge_int) ge_int) (ga_cons (ge_bin og_powI ge_int ge_int) (ga_cons (ge_bin (og_add rfl) ge_int (ge_call (cg_b (ok__law_draw T B) rfl (hr.mono (by decide)) gd pass_def) rfl T.g__law_draw T.k__law_draw (ga_cons (ge_var (pv 0)) (ga_cons ge_int ga_nil)))) ga_nil))))))))))))))
    (gs_cons (gs_set (i := 3) sc__law_fraction.nd rfl (by first | exact Or.inl rfl | exact Or.inr rfl) (ge_bin og_subI ge_int (ge_bin og_mul ge_int (ge_callTy cg_int rfl T.n_int (by decide +kernel) (ga_cons (ge_cmp (og_eq rfl hr.units) (ge_call (cg_b (ok__law_draw T B) rfl (hr.mono (by decide)) gd pass_def) rfl T.g__law_draw T.k__law_draw (ga_cons (ge_var (pv 0)) (ga_cons ge_int ga_nil))) ge_int (nomark _)) ga_nil)))))
    (gs_one (gs_ret (ge_call (cg_b (ok__law_low T B) rfl (hr.mono (by decide)) gd pass_def) rfl T.g__law_low T.k__law_low (ga_cons (ge_bin og_mul (ge_var (pv 3)) (ge_call (cg_b (ok__law_pick T B) rfl (hr.mono (by decide)) gd pass_def) rfl T.g__law_pick T.k__law_pick (ga_cons (ge_var (pv 0)) (ga_cons (ge_var (pv 1)) ga_nil)))) (ga_cons (ge_call (cg_b (ok__law_pick T B) rfl (hr.mono (by decide)) gd pass_def) rfl T.g__law_pick T.k__law_pick (ga_cons (ge_var (pv 0)) (ga_cons (ge_var (pv 2)) ga_nil))) ga_nil)))))))))
theorem ok__law_fraction (T : Tx K mg) (B : ∀ p ∈ csOf K lams, LamX.TabB base mg p.1 p.2) : FnB P w (WW K) mg base 3 (He.ga K "_law_fraction") ["_law_pen_here"] f__law_fraction := by
  obtain ⟨fd, F⟩ := T.d__law_fraction
  exact ⟨⟨fd, fg__law_fraction T B F, F.bindsN fun _ _ _ _ _ _ us hl => match us, hl with | [_], _ => rfl⟩, T.k__law_fraction⟩
theorem sc__law_text : FnScope ["_law_pair"] ["_law_pair"] (defScope s__law_text) := ⟨rfl, rfl, rfl, by decide +kernel, rfl, by decide +kernel, by decide +kernel⟩
noncomputable def b__law_text : GS' :=
  (gSeq (gIf (gTr truD (gBin dEq (gBin dIx (gVar 0) (gC (.int 1))) (gC (.int 0)))) (gRet (gC (.str "endless"))) gSkip)
    (gRet (gIfE (gTr truD (gBin dEq (gBin dIx (gVar 0) (gC (.int 1))) (gC (.int 1)))) (gCall fStr (gCons (gBin dIx (gVar 0) (gC (.int 0))) gNil)) (gBin dAdd (gBin dAdd (gCall fStr (gCons (gBin dIx (gVar 0) (gC (.int 0))) gNil)) (gC (.str "/"))) (gCall fStr (gCons (gBin dIx (gVar 0) (gC (.int 1))) gNil))))))
noncomputable def f__law_text : List D → Stor → R D := gFn 1 1 b__law_text
theorem fg__law_text (T : Tx K mg) (B : ∀ p ∈ csOf K lams, LamX.TabB base mg p.1 p.2) {fd : FuncData} (F : FunD K "_law_text" "_law_text" (defArgs s__law_text) (defBody s__law_text) (defScope s__law_text) [] [] (He.ga K "_law_text") fd) : FnG P w (WW K) mg base 1 (He.ga K "_law_text") fd ["_law_pair"] f__law_text :=
  fng_of (W := WW K) (N := ["_law_pair"]) F sc__law_text (fun cdv A outer s H E hr gd =>
    (gs_cons (gs_if (gt_cmp (tru_plain rfl) (og_eq rfl hr.units) (ge_ix rfl (ge_var (pv 0)) ge_int (fun _ _ => rfl)) ge_int (nomark _)) (gs_one (gs_ret ge_str)) gs_nil)
    (gs_one (gs_ret (ge_ifExp (gt_cmp (tru_plain rfl) (og_eq rfl hr.units) (ge_ix rfl (ge_var (pv 0)) ge_int (fun _ _ => rfl)) ge_int (nomark _)) (ge_callTy cg_str rfl T.n_str (by decide +kernel) (ga_cons (ge_ix rfl (ge_var (pv 0)) ge_int (fun _ _ => rfl)) ga_nil)) (ge_bin (og_add rfl) (ge_bin (og_add rfl) (ge_callTy cg_str rfl T.n_str (by decide +kernel) (ga_cons (ge_ix rfl (ge_var (pv 0)) ge_int (fun _ _ => rfl)) ga_nil)) ge_str) (ge_callTy cg_str rfl T.n_str (by decide +kernel) (ga_cons (ge_ix rfl (ge_var (pv 0)) ge_int (fun _ _ => rfl)) ga_nil))))))))
theorem ok__law_text (T : Tx K mg) (B : ∀ p ∈ csOf K lams, LamX.TabB base mg p.1 p.2) : FnB P w (WW K) mg base 1 (He.ga K "_law_text") ["_law_pair"] f__law_text := by
  obtain ⟨fd, F⟩ := T.d__law_text
  exact ⟨⟨fd, fg__law_text T B F, F.bindsN fun _ _ _ _ _ _ us hl => match us, hl with | [_], _ => rfl⟩, T.k__law_text⟩
theorem sc__law_drawn_text : FnScope ["_law_pen_here", "_law_pair", "_law_times"] ["_law_pen_here"] (defScope s__law_drawn_text) := ⟨rfl, rfl, rfl, by decide +kernel, rfl, by decide +kernel, by decide +kernel⟩
noncomputable def b__law_drawn_text : GS' :=
  (gSeq (gSet 1 (gIfE (gTr truD (gBin dEq (gCall f__law_draw (gCons (gVar 0) (gCons (gC (.int 6)) gNil))) (gC (.int 0)))) (gTup (gCons (gC (.int 1)) (gCons (gC (.int 0)) gNil))) (gCall f__law_fraction (gCons (gVar 0) gNil))))
    (gSeq (gIf (gOr (gTr truD (gBin dEq (gBin dIx (gVar 1) (gC (.int 1))) (gC (.int 0)))) (gTr truD (gBin dEq (gCall f__law_draw (gCons (gVar 0) (gCons (gC (.int 3)) gNil))) (gC (.int 0))))) (gRet (gCall f__law_text (gCons (gVar 1) gNil))) gSkip)
    (gSeq (gSet 2 (gCall f__law_pick (gCons (gVar 0) (gCons (gLst (gCons (gC (.int 1)) (gCons (gC (.int 2)) (gCons (gC (.int 6)) (gCons (gC (.int 10)) gNil))))) gNil))))
    (gSeq (gIf (gOr (gTr truD (gBin dGtI (gCall fAbsI (gCons (gBin dIx (gVar 1) (gC (.int 0))) gNil)) (gBin dPowI (gC (.int 10)) (gC (.int 20))))) (gTr truD (gBin dGtI (gBin dIx (gVar 1) (gC (.int 1))) (gBin dPowI (gC (.int 10)) (gC (.int 20)))))) (gSet 2 (gC (.int 1))) gSkip)
    (gRet (gBin dAdd (gBin dAdd (gCall fStr (gCons (gBin dMul (gBin dIx (gVar 1) (gC (.int 0))) (gVar 2)) gNil)) (gC (.str "/"))) (gCall fStr (gCons (gBin dMul (gBin dIx (gVar 1) (gC (.int 1))) (gVar 2)) gNil))))))))
noncomputable def f__law_drawn_text : List D → Stor → R D := gFn 1 3 b__law_drawn_text
theorem fg__law_drawn_text (T : Tx K mg) (B : ∀ p ∈ csOf K lams, LamX.TabB base mg p.1 p.2) {fd : FuncData} (F : FunD K "_law_drawn_text" "_law_drawn_text" (defArgs s__law_drawn_text) (defBody s__law_drawn_text) (defScope s__law_drawn_text) [] [] (He.ga K "_law_drawn_text") fd) : FnG P w (WW K) mg base 4 (He.ga K "_law_drawn_text") fd ["_law_pen_here"] f__law_drawn_text :=
  fng_of (W := WW K) (N := ["_law_pen_here", "_law_pair", "_law_times"]) F sc__law_drawn_text (fun cdv A outer s H E hr gd =>
    (gs_cons (gs_set (i := 1) sc__law_drawn_text.nd rfl (by first | exact Or.inl rfl | exact Or.inr rfl) (ge_ifExp (gt_cmp (tru_plain rfl) (og_eq rfl hr.units) (ge_call (cg_b (ok__law_draw T B) rfl (hr.mono (by decide)) gd pass_def) rfl T.g__law_draw T.k__law_draw (ga_cons (ge_var (pv 0)) (ga_cons ge_int ga_nil))) ge_int (nomark _)) (ge_tup (ga_cons ge_int (ga_cons ge_int ga_nil))) (ge_call (cg_b (ok__law_fraction T B) rfl (hr.mono (by decide)) gd pass_def) rfl T.g__law_fraction T.k__law_fraction (ga_cons (ge_var (pv 0)) ga_nil))))
    (gs_cons (gs_if (PW.pt (gw_or (gt_cmp (tru_plain rfl) (og_eq rfl hr.units) (ge_ix rfl (ge_var (pv 1)) ge_int (fun _ _ => rfl)) ge_int (nomark _)) (gw_or1 (gt_cmp (tru_plain rfl) (og_eq rfl hr.units) (ge_call (cg_b (ok__law_draw T B) rfl (hr.mono (by decide)) gd pass_def) rfl T.g__law_draw T.k__law_draw (ga_cons (ge_var (pv 0)) (ga_cons ge_int ga_nil))) ge_int (nomark _))))) (gs_one (gs_ret (ge_call (cg_b (ok__law_text T B) rfl (hr.mono (by decide)) gd pass_def) rfl T.g__law_text T.k__law_text (ga_cons (ge_var (pv 1)) ga_nil)))) gs_nil)
    (gs_cons (gs_set (i := 2) sc__law_drawn_text.nd rfl (by first | exact Or.inl rfl | exact Or.inr rfl) (ge_call (cg_b (ok__law_pick T B) rfl (hr.mono (by decide)) gd pass_def) rfl T.g__law_pick T.k__law_pick (ga_cons (ge_var (pv 0)) (ga_cons (ge_lst (ga_cons ge_int (ga_cons ge_int (ga_cons ge_int (ga_cons ge_int ga_nil))))) ga_nil))))
    (gs_cons (gs_if (PW.pt (gw_or (gt_cmp (tru_plain rfl) og_gtI (ge_callB cg_abs rfl T.n_abs (by decide +kernel) (ga_cons (ge_ix rfl (ge_var (pv 1)) ge_int (fun _ _ => rfl)) ga_nil)) (ge_bin og_powI ge_int ge_int) (nomark _)) (gw_or1 (gt_cmp (tru_plain rfl) og_gtI (ge_ix rfl (ge_var (pv 1)) ge_int (fun _ _ => rfl)) (ge_bin og_powI ge_int ge_int) (nomark _))))) (gs_one (gs_set (i := 2) sc__law_drawn_text.nd rfl (by first | exact Or.inl rfl | exact Or.inr rfl) ge_int)) gs_nil)
    (gs_one (gs_ret (ge_bin (og_add rfl) (ge_bin (og_add rfl) (ge_callTy cg_str rfl T.n_str (by decide +kernel) (ga_cons (ge_bin og_mul (ge_ix rfl (ge_var (pv 1)) ge_int (fun _ _ => rfl)) (ge_var (pv 2))) ga_nil)) ge_str) (ge_callTy cg_str rfl T.n_str (by decide +kernel) (ga_cons (ge_bin og_mul (ge_ix rfl (ge_var (pv 1)) ge_int (fun _ _ => rfl)) (ge_var (pv 2))) ga_nil))))))))))
theorem ok__law_drawn_text (T : Tx K mg) (B : ∀ p ∈ csOf K lams, LamX.TabB base mg p.1 p.2) : FnB P w (WW K) mg base 4 (He.ga K "_law_drawn_text") ["_law_pen_here"] f__law_drawn_text := by
  obtain ⟨fd, F⟩ := T.d__law_drawn_text
  exact ⟨⟨fd, fg__law_drawn_text T B F, F.bindsN fun _ _ _ _ _ _ us hl => match us, hl with | [_], _ => rfl⟩, T.k__law_drawn_text⟩
theorem sc__law_is_number : FnScope ["_law_piece", "_law_sign"] ["_law_piece"] (defScope s__law_is_number) := ⟨rfl, rfl, rfl, by decide +kernel, rfl, by decide +kernel, by decide +kernel⟩
noncomputable def b__law_is_number : GS' :=
  (gSeq (gIf (gOr (gTr truD (gBin dEq (gVar 0) (gC (.str "")))) (gTr truD (gBin dNe (gComp (giTxt (gVar 0)) (.one 1) (gTr truD (gBin dNotInS (gVar 1) (gC (.str "0123456789")))) (gVar 1)) (gLst gNil)))) (gRet (gC (.bl false))) gSkip)
    (gRet (gOrV truD (gBin dEq (gVar 0) (gC (.str "0"))) (gBin dNe (gBin dIx (gVar 0) (gC (.int 0))) (gC (.str "0"))))))
noncomputable def f__law_is_number : List D → Stor → R D := gFn 1 2 b__law_is_number
theorem fg__law_is_number (T : Tx K mg) (B : ∀ p ∈ csOf K lams, LamX.TabB base mg p.1 p.2) {fd : FuncData} (F : FunD K "_law_is_number" "_law_is_number" (defArgs s__law_is_number) (defBody s__law_is_number) (defScope s__law_is_number) [] [] (He.ga K "_law_is_number") fd) : FnG P w (WW K) mg base 1 (He.ga K "_law_is_number") fd ["_law_piece"] f__law_is_number :=
  fng_of (W := WW K) (N := ["_law_piece", "_law_sign"]) F sc__law_is_number (fun cdv A outer s H E hr gd =>
    (gs_cons (gs_if (PW.pt (gw_or (gt_cmp (tru_plain rfl) (og_eq rfl hr.units) (ge_var (pv 0)) ge_str (nomark _)) (gw_or1 (gt_cmp (tru_plain rfl) (og_ne rfl hr.units) (ge_comp (own := [("_law_sign", 1)]) (t := (.one 1)) rfl rfl sc__law_is_number.nd (gi_txt (ge_var (pv 0))) (blkOk_by (own := [("_law_sign", 1)]) (N := ["_law_piece", "_law_sign"]) (sc := defScope s__law_is_number) (by decide +kernel)) rfl (fun _ _ _ _ _ => pg_name (i := 1) sc__law_is_number.nd rfl (Or.inl rfl)) (fun _ _ _ _ _ => (pts_one (gt_cmp (tru_plain rfl) og_notInS (ge_var (pv 1)) ge_str (by with_unfolding_all rfl)))) (fun _ _ _ _ _ => (ge_var (pv 1)))) (ge_lst ga_nil) (nomark _))))) (gs_one (gs_ret ge_bl)) gs_nil)
    (gs_one (gs_ret (ge_or (tru_plain rfl) (ge_cmp (og_eq rfl hr.units) (ge_var (pv 0)) ge_str (nomark _)) (ge_one (ge_cmp (og_ne rfl hr.units) (ge_ix rfl (ge_var (pv 0)) ge_int (fun _ _ => rfl)) ge_str (nomark _))))))))
theorem ok__law_is_number (T : Tx K mg) (B : ∀ p ∈ csOf K lams, LamX.TabB base mg p.1 p.2) : FnB P w (WW K) mg base 1 (He.ga K "_law_is_number") ["_law_piece"] f__law_is_number := by
  obtain ⟨fd, F⟩ := T.d__law_is_number
  exact ⟨⟨fd, fg__law_is_number T B F, F.bindsN fun _ _ _ _ _ _ us hl => match us, hl with | [_], _ => rfl⟩, T.k__law_is_number⟩
theorem sc__law_begins : FnScope ["_law_piece", "_law_front", "_law_stroke", "_law_after", "_law_body"] ["_law_piece"] (defScope s__law_begins) := ⟨rfl, rfl, rfl, by decide +kernel, rfl, by decide +kernel, by decide +kernel⟩
noncomputable def b__law_begins : GS' :=
  (gSeq (gIf (gOr (gTr truD (gBin dEq (gSl (gC (.str "endless")) goNone (goSome (gCall fLen (gCons (gVar 0) gNil)))) (gVar 0))) (gTr truD (gBin dEq (gVar 0) (gC (.str "-"))))) (gRet (gC (.bl true))) gSkip)
    (gSeq (gAsg (ggTup 3 (ggCons (ggName 1) (ggCons (ggName 2) (ggCons (ggName 3) ggNil)))) (gMtS mPartition (gVar 0) (gC (.str "/"))))
    (gSeq (gSet 4 (gIfE (gTr truD (gBin dEq (gSl (gVar 1) goNone (goSome (gC (.int 1)))) (gC (.str "-")))) (gSl (gVar 1) (goSome (gC (.int 1))) goNone) (gVar 1)))
    (gSeq (gIf (gOr (gNot (gTr truD (gCall f__law_is_number (gCons (gVar 4) gNil)))) (gTr truD (gBin dEq (gVar 1) (gC (.str "-0"))))) (gRet (gC (.bl false))) gSkip)
    (gRet (gOrV truD (gBin dEq (gVar 2) (gC (.str ""))) (gOrV truD (gBin dEq (gVar 3) (gC (.str ""))) (gAndV truD (gCall f__law_is_number (gCons (gVar 3) gNil)) (gBin dNe (gVar 3) (gC (.str "0")))))))))))
noncomputable def f__law_begins : List D → Stor → R D := gFn 1 5 b__law_begins
theorem fg__law_begins (T : Tx K mg) (B : ∀ p ∈ csOf K lams, LamX.TabB base mg p.1 p.2) {fd : FuncData} (F : FunD K "_law_begins" "_law_begins" (defArgs s__law_begins) (defBody s__law_begins) (defScope s__law_begins) [] [] (He.ga K "_law_begins") fd) : FnG P w (WW K) mg base 2 (He.ga K "_law_begins") fd ["_law_piece"] f__law_begins :=
  fng_of (W := WW K) (N := ["_law_piece", "_law_front", "_law_stroke", "_law_after", "_law_body"]) F sc__law_begins (fun cdv A outer s H E hr gd =>
    (gs_cons (gs_if (PW.pt (gw_or (gt_cmp (tru_plain rfl) (og_eq rfl hr.units) (ge_slice rfl ge_str go_none (go_some (ge_callB (cg_len rfl) rfl T.n_len (by decide +kernel) (ga_cons (ge_var (pv 0)) ga_nil)))) (ge_var (pv 0)) (nomark _)) (gw_or1 (gt_cmp (tru_plain rfl) (og_eq rfl hr.units) (ge_var (pv 0)) ge_str (nomark _))))) (gs_one (gs_ret ge_bl)) gs_nil)
    (gs_cons (gs_asg (ge_mtS PySem.F.slot_str_partition PySem.F.type_str_partition mg_partition (ge_var (pv 0)) ge_str) (gg_tup rfl rfl (ggs_cons (gg_name (pg_name (i := 1) sc__law_begins.nd rfl (by first | exact Or.inl rfl | exact Or.inr rfl))) (ggs_cons (gg_name (pg_name (i := 2) sc__law_begins.nd rfl (by first | exact Or.inl rfl | exact Or.inr rfl))) (ggs_cons (gg_name (pg_name (i := 3) sc__law_begins.nd rfl (by first | exact Or.inl rfl | exact Or.inr rfl))) ggs_nil)))))
    (gs_cons (gs_set (i := 4) sc__law_begins.nd rfl (by first | exact Or.inl rfl | exact Or.inr rfl) (ge_ifExp (gt_cmp (tru_plain rfl) (og_eq rfl hr.units) (ge_slice rfl (ge_var (pv 1)) go_none (go_some ge_int)) ge_str (nomark _)) (ge_slice rfl (ge_var (pv 1)) (go_some ge_int) go_none) (ge_var (pv 1))))
    (gs_cons (gs_if (PW.pt (gw_or (gt_not (gt_tr (tru_plain rfl) (ge_call (cg_b (ok__law_is_number T B) rfl (hr.mono (by decide)) gd pass_def) rfl T.g__law_is_number T.k__law_is_number (ga_cons (ge_var (pv 4)) ga_nil)))) (gw_or1 (gt_cmp (tru_plain rfl) (og_eq rfl hr.units) (ge_var (pv 1)) ge_str (nomark _))))) (gs_one (gs_ret ge_bl)) gs_nil)
    (gs_one (gs_ret (ge_or (tru_plain rfl) (ge_cmp (og_eq rfl hr.units) (ge_var (pv 2)) ge_str (nomark _)) (ge_or (tru_plain rfl) (ge_cmp (og_eq rfl hr.units) (ge_var (pv 3)) ge_str (nomark _)) (ge_one (ge_and (tru_plain rfl) (ge_call (cg_b (ok__law_is_number T B) rfl (hr.mono (by decide)) gd pass_def) rfl T.g__law_is_number T.k__law_is_number (ga_cons (ge_var (pv 3)) ga_nil)) (ge_one (ge_cmp (og_ne rfl hr.units) (ge_var (pv 3)) ge_str (nomark _))))))))))))))
theorem ok__law_begins (T : Tx K mg) (B : ∀ p ∈ csOf K lams, LamX.TabB base mg p.1 p.2) : FnB P w (WW K) mg base 2 (He.ga K "_law_begins") ["_law_piece"] f__law_begins := by
  obtain ⟨fd, F⟩ := T.d__law_begins
  exact ⟨⟨fd, fg__law_begins T B F, F.bindsN fun _ _ _ _ _ _ us hl => match us, hl with | [_], _ => rfl⟩, T.k__law_begins⟩
theorem sc__law_is_right : FnScope ["_law_line"] ["_law_line"] (defScope s__law_is_right) := ⟨rfl, rfl, rfl, by decide +kernel, rfl, by decide +kernel, by decide +kernel⟩
noncomputable def b__law_is_right : GS' :=
  (gSeq (gIf (gOr (gTr truD (gBin (dInQ false) (gVar 0) (gTup (gCons (gC (.str "")) (gCons (gC (.str "-")) gNil))))) (gOr (gNot (gTr truD (gCall f__law_begins (gCons (gVar 0) gNil)))) (gTr truD (gBin dEq (gBin dIx (gVar 0) (gUn dNegI (gC (.int 1)))) (gC (.str "/")))))) (gRet (gC (.bl false))) gSkip)
    (gRet (gOrV truD (gBin dEq (gVar 0) (gC (.str "endless"))) (gBin dInS (gBin dIx (gVar 0) (gUn dNegI (gC (.int 1)))) (gC (.str "0123456789"))))))
noncomputable def f__law_is_right : List D → Stor → R D := gFn 1 1 b__law_is_right
theorem fg__law_is_right (T : Tx K mg) (B : ∀ p ∈ csOf K lams, LamX.TabB base mg p.1 p.2) {fd : FuncData} (F : FunD K "_law_is_right" "_law_is_right" (defArgs s__law_is_right) (defBody s__law_is_right) (defScope s__law_is_right) [] [] (He.ga K "_law_is_right") fd) : FnG P w (WW K) mg base 3 (He.ga K "_law_is_right") fd ["_law_line"] f__law_is_right :=
  fng_of (W := WW K) (N := ["_law_line"]) F sc__law_is_right (fun cdv A outer s H E hr gd =>
    (gs_cons (gs_if (PW.pt (gw_or (gt_cmp (tru_plain rfl) (og_inQ rfl) (ge_var (pv 0)) (ge_tup (ga_cons ge_str (ga_cons ge_str ga_nil))) (by with_unfolding_all rfl)) (gw_or (gt_not (gt_tr (tru_plain rfl) (ge_call (cg_b (ok__law_begins T B) rfl (hr.mono (by decide)) gd pass_def) rfl T.g__law_begins T.k__law_begins (ga_cons (ge_var (pv 0)) ga_nil)))) (gw_or1 (gt_cmp (tru_plain rfl) (og_eq rfl hr.units) (ge_ix rfl (ge_var (pv 0)) (ge_un ug_negI ge_int) (fun _ _ => rfl)) ge_str (nomark _)))))) (gs_one (gs_ret ge_bl)) gs_nil)
    (gs_one (gs_ret (ge_or (tru_plain rfl) (ge_cmp (og_eq rfl hr.units) (ge_var (pv 0)) ge_str (nomark _)) (ge_one (ge_cmp og_inS (ge_ix rfl (ge_var (pv 0)) (ge_un ug_negI ge_int) (fun _ _ => rfl)) ge_str (by with_unfolding_all rfl))))))))
theorem ok__law_is_right (T : Tx K mg) (B : ∀ p ∈ csOf K lams, LamX.TabB base mg p.1 p.2) : FnB P w (WW K) mg base 3 (He.ga K "_law_is_right") ["_law_line"] f__law_is_right := by
  obtain ⟨fd, F⟩ := T.d__law_is_right
  exact ⟨⟨fd, fg__law_is_right T B F, F.bindsN fun _ _ _ _ _ _ us hl => match us, hl with | [_], _ => rfl⟩, T.k__law_is_right⟩
theorem sc__law_due : FnScope ["_law_line", "_law_many", "_law_front", "_law_stroke", "_law_after"] ["_law_line"] (defScope s__law_due) := ⟨rfl, rfl, rfl, by decide +kernel, rfl, by decide +kernel, by decide +kernel⟩
noncomputable def b__law_due : GS' :=
  (gSeq (gFor (giRange2 (gCons (gC (.int 1)) (gCons (gBin dAdd (gCall fLen (gCons (gVar 0) gNil)) (gC (.int 1))) gNil))) (ggName 1) (gIf (gNot (gTr truD (gCall f__law_begins (gCons (gSl (gVar 0) goNone (goSome (gVar 1))) gNil)))) (gRet (gTup (gCons (gC (.str "text")) (gCons (gBin dSubI (gVar 1) (gC (.int 1))) gNil)))) gSkip))
    (gSeq (gIf (gNot (gTr truD (gCall f__law_is_right (gCons (gVar 0) gNil)))) (gRet (gTup (gCons (gC (.str "text")) (gCons (gCall fLen (gCons (gVar 0) gNil)) gNil)))) gSkip)
    (gSeq (gIf (gTr truD (gBin dEq (gVar 0) (gC (.str "endless")))) (gRet (gTup (gCons (gC (.int 1)) (gCons (gC (.int 0)) gNil)))) gSkip)
    (gSeq (gAsg (ggTup 3 (ggCons (ggName 2) (ggCons (ggName 3) (ggCons (ggName 4) ggNil)))) (gMtS mPartition (gVar 0) (gC (.str "/"))))
    (gRet (gCall f__law_low (gCons (gCall (fun ds M => orR (fInt ds M) (fIntS ds M)) (gCons (gVar 2) gNil)) (gCons (gIfE (gTr truD (gBin dNe (gVar 3) (gC (.str "")))) (gCall (fun ds M => orR (fInt ds M) (fIntS ds M)) (gCons (gVar 4) gNil)) (gC (.int 1))) gNil))))))))
noncomputable def f__law_due : List D → Stor → R D := gFn 1 5 b__law_due
theorem fg__law_due (T : Tx K mg) (B : ∀ p ∈ csOf K lams, LamX.TabB base mg p.1 p.2) {fd : FuncData} (F : FunD K "_law_due" "_law_due" (defArgs s__law_due) (defBody s__law_due) (defScope s__law_due) [] [] (He.ga K "_law_due") fd) : FnG P w (WW K) mg base 4 (He.ga K "_law_due") fd ["_law_line"] f__law_due :=
  fng_of (W := WW K) (N := ["_law_line", "_law_many", "_law_front", "_law_stroke", "_law_after"]) F sc__law_due (fun cdv A outer s H E hr gd =>
    (gs_cons (gs_for own_def rfl (gi_range2 rfl T.n_range (ga_cons ge_int (ga_cons (ge_bin (og_add rfl) (ge_callB (cg_len rfl) rfl T.n_len (by decide +kernel) (ga_cons (ge_var (pv 0)) ga_nil)) ge_int) ga_nil))) (gg_name (pg_name (i := 1) sc__law_due.nd rfl (by first | exact Or.inl rfl | exact Or.inr rfl))) (gs_one (gs_if (gt_not (gt_tr (tru_plain rfl) (ge_call (cg_b (ok__law_begins T B) rfl (hr.mono (by decide)) gd pass_def) rfl T.g__law_begins T.k__law_begins (ga_cons (ge_slice rfl (ge_var (pv 0)) go_none (go_some (ge_var (pv 1)))) ga_nil)))) (gs_one (gs_ret (ge_tup (ga_cons ge_str (ga_cons (ge_bin og_subI (ge_var (pv 1)) ge_int) ga_nil))))) gs_nil)))
    (gs_cons (gs_if (gt_not (gt_tr (tru_plain rfl) (ge_call (cg_b (ok__law_is_right T B) rfl (hr.mono (by decide)) gd pass_def) rfl T.g__law_is_right T.k__law_is_right (ga_cons (ge_var (pv 0)) ga_nil)))) (gs_one (gs_ret (ge_tup (ga_cons ge_str (ga_cons (ge_callB (cg_len rfl) rfl T.n_len (by decide +kernel) (ga_cons (ge_var (pv 0)) ga_nil)) ga_nil))))) gs_nil)
    (gs_cons (gs_if (gt_cmp (tru_plain rfl) (og_eq rfl hr.units) (ge_var (pv 0)) ge_str (nomark _)) (gs_one (gs_ret (ge_tup (ga_cons ge_int (ga_cons ge_int ga_nil))))) gs_nil)
    (gs_cons (gs_asg (ge_mtS PySem.F.slot_str_partition PySem.F.type_str_partition mg_partition (ge_var (pv 0)) ge_str) (gg_tup rfl rfl (ggs_cons (gg_name (pg_name (i := 2) sc__law_due.nd rfl (by first | exact Or.inl rfl | exact Or.inr rfl))) (ggs_cons (gg_name (pg_name (i := 3) sc__law_due.nd rfl (by first | exact Or.inl rfl | exact Or.inr rfl))) (ggs_cons (gg_name (pg_name (i := 4) sc__law_due.nd rfl (by first | exact Or.inl rfl | exact Or.inr rfl))) ggs_nil)))))
    (gs_one (gs_ret (ge_call (cg_b (ok__law_low T B) rfl (hr.mono (by decide)) gd pass_def) rfl T.g__law_low T.k__law_low (ga_cons (ge_callTy (cg_int.or cg_intS) rfl T.n_int (by decide +kernel) (ga_cons (ge_var (pv 2)) ga_nil)) (ga_cons (ge_ifExp (gt_cmp (tru_plain rfl) (og_ne rfl hr.units) (ge_var (pv 3)) ge_str (nomark _)) (ge_callTy (cg_int.or cg_intS) rfl T.n_int (by decide +kernel) (ga_cons (ge_var (pv 4)) ga_nil)) ge_int) ga_nil))))))))))
theorem ok__law_due (T : Tx K mg) (B : ∀ p ∈ csOf K lams, LamX.TabB base mg p.1 p.2) : FnB P w (WW K) mg base 4 (He.ga K "_law_due") ["_law_line"] f__law_due := by
  obtain ⟨fd, F⟩ := T.d__law_due
  exact ⟨⟨fd, fg__law_due T B F, F.bindsN fun _ _ _ _ _ _ us hl => match us, hl with | [_], _ => rfl⟩, T.k__law_due⟩
theorem sc__law_told : FnScope ["_law_heard_here", "_law_found"] ["_law_heard_here"] (defScope s__law_told) := ⟨rfl, rfl, rfl, by decide +kernel, rfl, by decide +kernel, by decide +kernel⟩
noncomputable def b__law_told : GS' :=
  (gSeq (gIf (gNot (gTr truD (gCall (fIsi isOk isTab) (gCons (gVar 0) (gCons (gC (.ty "list")) gNil))))) (gRet (gVar 0)) gSkip)
    (gSeq (gSet 1 (gBin dIx (gVar 0) (gC (.int 0))))
    (gRet (gIfE (gTr truD (gCall (fIsi isOk isTab) (gCons (gVar 1) (gCons (gC (.cls 5)) gNil)))) (gTup (gCons (gUn (dFld ft_top) (gVar 1)) (gCons (gUn (dFld ft_bottom) (gVar 1)) gNil))) (gTup (gCons (gC (.str "odd")) (gCons (fun _ _ => .no) gNil)))))))
noncomputable def f__law_told : List D → Stor → R D := gFn 1 2 b__law_told
theorem fg__law_told (T : Tx K mg) (B : ∀ p ∈ csOf K lams, LamX.TabB base mg p.1 p.2) {fd : FuncData} (F : FunD K "_law_told" "_law_told" (defArgs s__law_told) (defBody s__law_told) (defScope s__law_told) [] [] (He.ga K "_law_told") fd) : FnG P w (WW K) mg base 1 (He.ga K "_law_told") fd ["_law_heard_here"] f__law_told :=
  fng_of (W := WW K) (N := ["_law_heard_here", "_law_found"]) F sc__law_told (fun cdv A outer s H E hr gd =>
    (gs_cons (gs_if (gt_not (gt_tr (tru_plain rfl) (ge_callB (cg_isi rfl T.isOk T.isTab) rfl T.n_isinstance (by decide +kernel) (ga_cons (ge_var (pv 0)) (ga_cons (ge_ty rfl T.n_list (by decide +kernel)) ga_nil))))) (gs_one (gs_ret (ge_var (pv 0)))) gs_nil)
    (gs_cons (gs_set (i := 1) sc__law_told.nd rfl (by first | exact Or.inl rfl | exact Or.inr rfl) (ge_ix rfl (ge_var (pv 0)) ge_int (fun _ _ => rfl)))
    (gs_one (gs_ret (ge_ifExp (gt_tr (tru_plain rfl) (ge_callB (cg_isi rfl T.isOk T.isTab) rfl T.n_isinstance (by decide +kernel) (ga_cons (ge_var (pv 1)) (ga_cons (ge_cls (c := 5) rfl T.g_Ratio) ga_nil)))) (ge_tup (ga_cons (ge_fld rfl (T.fld_top) (ge_var (pv 1))) (ga_cons (ge_fld rfl (T.fld_bottom) (ge_var (pv 1))) ga_nil))) (ge_tup (ga_cons ge_str (ga_cons ge_stuck ga_nil)))))))))
theorem ok__law_told (T : Tx K mg) (B : ∀ p ∈ csOf K lams, LamX.TabB base mg p.1 p.2) : FnB P w (WW K) mg base 1 (He.ga K "_law_told") ["_law_heard_here"] f__law_told := by
  obtain ⟨fd, F⟩ := T.d__law_told
  exact ⟨⟨fd, fg__law_told T B F, F.bindsN fun _ _ _ _ _ _ us hl => match us, hl with | [_], _ => rfl⟩, T.k__law_told⟩
theorem sc__law_heard : FnScope ["_law_ask", "_law_caught", "_law_found", "error", "_law_kinds"] ["_law_ask"] (defScope s__law_heard) := ⟨rfl, rfl, rfl, by decide +kernel, rfl, by decide +kernel, by decide +kernel⟩
noncomputable def b__law_heard (Y : D) (th : Stor → R D) : GS' :=
  (gSeq (gAsg (ggTup 2 (ggCons (ggName 1) (ggCons (ggName 2) ggNil))) (gTup (gCons (gC .non) (gCons (gC .non) gNil))))
    (gSeq (gTryK (gSet 2 (gAct 0 Y th)) mt_WebError 3 1)
    (gSeq (gIf (gTr truD (gBin dIsN (gVar 1) (gC .non))) (gRet (gLst (gCons (gVar 2) gNil))) gSkip)
    (gSeq (gSet 4 (gLst (gCons (gCall (fun ds M => orR (fIsi isOk isTab ds M) (fIsiX exOk exTab ds M)) (gCons (gVar 1) (gCons (gC (.cls 1)) gNil))) (gCons (gCall (fun ds M => orR (fIsi isOk isTab ds M) (fIsiX exOk exTab ds M)) (gCons (gVar 1) (gCons (gC (.cls 2)) gNil))) (gCons (gCall (fun ds M => orR (fIsi isOk isTab ds M) (fIsiX exOk exTab ds M)) (gCons (gVar 1) (gCons (gC (.cls 3)) gNil))) gNil)))))
    (gSeq (gIf (gOr (gTr truD (gBin dNe (gMtL mCount (gVar 4) (gCons (gC (.bl true)) gNil)) (gC (.int 1)))) (gNot (gTr truD (gCall (fun ds M => orR (fIsi isOk isTab ds M) (fIsiX exOk exTab ds M)) (gCons (gVar 1) (gCons (gC (.ty "ValueError")) gNil)))))) (gRet (gTup (gCons (gC (.str "odd")) gNil))) gSkip)
    (gSeq (gIf (gTr truD (gBin dIx (gVar 4) (gC (.int 1)))) (gRet (gTup (gCons (gC (.str "none")) gNil))) gSkip)
    (gRet (gTup (gCons (gBin dIx (gLst (gCons (gC (.str "ratio")) (gCons (gC (.str "")) (gCons (gC (.str "text")) gNil)))) (gMtL mIndex (gVar 4) (gCons (gC (.bl true)) gNil))) (gCons (gUn (dEfl et_at) (gVar 1)) gNil))))))))))
theorem ld__law_heard (T : Tx K mg) (B : ∀ p ∈ csOf K lams, LamX.TabB base mg p.1 p.2) {k : Nat} : LamDef P w (WW K) mg base ["_law_ask", "_law_caught", "_law_found", "error", "_law_kinds"] "_law_heard" (defScope s__law_heard) (He.ga K "_law_heard") (defBody s__law_heard) "_law_ask" k b__law_heard :=
  fun cdv A outer s H E Y th hr gd act =>
    (gs_cons (gs_asg (ge_tup (ga_cons ge_non (ga_cons ge_non ga_nil))) (gg_tup rfl rfl (ggs_cons (gg_name (pg_name (i := 1) sc__law_heard.nd rfl (by first | exact Or.inl rfl | exact Or.inr rfl))) (ggs_cons (gg_name (pg_name (i := 2) sc__law_heard.nd rfl (by first | exact Or.inl rfl | exact Or.inr rfl))) ggs_nil))))
    (gs_cons (gs_tryK (i := 3) (j := 1) rfl rfl rfl rfl sc__law_heard.nd rfl (by decide) rfl rfl rfl ⟨rfl, by decide, Or.inl T.g_WebError⟩ tk_def T.mt_WebError (fun E1 pn xe tk _ => (gs_one (gs_set (i := 2) sc__law_heard.nd rfl (by first | exact Or.inl rfl | exact Or.inr rfl) (act _ _ _ _ _ tk)))))
    (gs_cons (gs_if (gt_cmp (tru_plain rfl) og_isN (ge_var (pv 1)) ge_non (nomark _)) (gs_one (gs_ret (ge_lst (ga_cons (ge_var (pv 2)) ga_nil)))) gs_nil)
    (gs_cons (gs_set (i := 4) sc__law_heard.nd rfl (by first | exact Or.inl rfl | exact Or.inr rfl) (ge_lst (ga_cons (ge_callB ((cg_isi rfl T.isOk T.isTab).or (cg_isiX rfl T.exOk T.exTab)) rfl T.n_isinstance (by decide +kernel) (ga_cons (ge_var (pv 1)) (ga_cons (ge_cls (c := 1) rfl T.g_BadRatio) ga_nil))) (ga_cons (ge_callB ((cg_isi rfl T.isOk T.isTab).or (cg_isiX rfl T.exOk T.exTab)) rfl T.n_isinstance (by decide +kernel) (ga_cons (ge_var (pv 1)) (ga_cons (ge_cls (c := 2) rfl T.g_NoRatio) ga_nil))) (ga_cons (ge_callB ((cg_isi rfl T.isOk T.isTab).or (cg_isiX rfl T.exOk T.exTab)) rfl T.n_isinstance (by decide +kernel) (ga_cons (ge_var (pv 1)) (ga_cons (ge_cls (c := 3) rfl T.g_BadText) ga_nil))) ga_nil)))))
    (gs_cons (gs_if (PW.pt (gw_or (gt_cmp (tru_plain rfl) (og_ne rfl hr.units) (ge_mtL rfl PySem.F.slot_list_count PySem.F.type_list_count (mg_count rfl hr.units65) (ge_var (pv 4)) (ga_cons ge_bl ga_nil)) ge_int (nomark _)) (gw_or1 (gt_not (gt_tr (tru_plain rfl) (ge_callB ((cg_isi rfl T.isOk T.isTab).or (cg_isiX rfl T.exOk T.exTab)) rfl T.n_isinstance (by decide +kernel) (ga_cons (ge_var (pv 1)) (ga_cons (ge_ty rfl T.n_ValueError (by decide +kernel)) ga_nil)))))))) (gs_one (gs_ret (ge_tup (ga_cons ge_str ga_nil)))) gs_nil)
    (gs_cons (gs_if (gt_tr (tru_plain rfl) (ge_ix rfl (ge_var (pv 4)) ge_int (fun _ _ => rfl))) (gs_one (gs_ret (ge_tup (ga_cons ge_str ga_nil)))) gs_nil)
    (gs_one (gs_ret (ge_tup (ga_cons (ge_ix rfl (ge_lst (ga_cons ge_str (ga_cons ge_str (ga_cons ge_str ga_nil)))) (ge_mtL rfl PySem.F.slot_list_index PySem.F.type_list_index (mg_index rfl hr.units65) (ge_var (pv 4)) (ga_cons ge_bl ga_nil)) (fun _ _ => rfl)) (ga_cons (ge_efl rfl T.efl_at (ge_var (pv 1))) ga_nil)))))))))))
theorem sc_BadText___init__ : FnScope ["self", "at"] ["self", "at"] (defScope s_BadText___init__) := ⟨rfl, rfl, rfl, by decide +kernel, rfl, by decide +kernel, by decide +kernel⟩
theorem oke_BadText (T : Tx K mg) : ∃ fd, FnOk P w K mg base CX0 1 (He.ma K (He.ga K "BadText") "__init__") fd ["self", "at"] (spE1 (He.ga K "BadText") "at") ∧ Binds K fd ["self", "at"] [] := by
  obtain ⟨fd, F⟩ := T.d_BadText___init__
  refine ⟨fd, F.ok (N := ["self", "at"]) sc_BadText___init__ (fun vs H Q E h => by obtain ⟨_, _, rfl, _⟩ := h; rfl) (fun cdv A outer s H vs Q E hr h => ?_), F.bindsN fun _ _ _ _ _ _ us hl => match us, hl with | [_, _], _ => rfl⟩
  obtain ⟨q, y, rfl, hq, z0⟩ := h
  exact ⟨_, pss_one (ps_ost (pv 0) (pv 1)), ⟨y, rfl, .ref q, rfl, q, He.ga K "BadText", rfl, T.exi_BadText.oex, T.exi_BadText.nf _ (by simp), .inl ⟨hq, z0⟩⟩⟩
theorem sc_need_endless : FnScope ["text", "same"] ["text"] (defScope s_need_endless) := ⟨rfl, rfl, rfl, by decide +kernel, rfl, by decide +kernel, by decide +kernel⟩
noncomputable def b_need_endless : GS' :=
  (gSeq (gSet 1 (gC (.int 0)))
    (gSeq (gWhile (gAnd (gTr truD (gBin dLtI (gVar 1) (gCall fLen (gCons (gC (.str "endless")) gNil)))) (gTr truD (gBin dEq (gSl (gVar 0) (goSome (gVar 1)) (goSome (gBin dAdd (gVar 1) (gC (.int 1))))) (gBin dIx (gC (.str "endless")) (gVar 1))))) (gAug 1 dAddI (gC (.int 1))) fuel)
    (gIf (gOr (gTr truD (gBin dLtI (gVar 1) (gCall fLen (gCons (gC (.str "endless")) gNil)))) (gTr truD (gBin dGtI (gCall fLen (gCons (gVar 0) gNil)) (gVar 1)))) (gRaise1 3 (gCons (gVar 1) gNil)) gSkip)))
noncomputable def f_need_endless : List D → Stor → R D := gFn 1 2 b_need_endless
theorem fg_need_endless (T : Tx K mg) (B : ∀ p ∈ csOf K lams, LamX.TabB base mg p.1 p.2) {fd : FuncData} (F : FunD K "need_endless" "need_endless" (defArgs s_need_endless) (defBody s_need_endless) (defScope s_need_endless) [] [] (He.ga K "need_endless") fd) : FnG P w (WW K) mg base 3 (He.ga K "need_endless") fd ["text"] f_need_endless :=
  fng_of (W := WW K) (N := ["text", "same"]) F sc_need_endless (fun cdv A outer s H E hr gd =>
    (gs_cons (gs_set (i := 1) sc_need_endless.nd rfl (by first | exact Or.inl rfl | exact Or.inr rfl) ge_int)
    (gs_cons (gs_while fuel own_def (PW.pt (gw_and (gt_cmp (tru_plain rfl) og_ltI (ge_var (pv 1)) (ge_callB (cg_len rfl) rfl T.n_len (by decide +kernel) (ga_cons (ge_glob (v := .str "endless") rfl T.c_ENDLESS.choose_spec ⟨_, rfl⟩ flat_str) ga_nil)) (nomark _)) (gw_and1 (gt_cmp (tru_plain rfl) (og_eq rfl hr.units) (ge_slice rfl (ge_var (pv 0)) (go_some (ge_var (pv 1))) (go_some (ge_bin (og_add rfl) (ge_var (pv 1)) ge_int))) (ge_ix rfl (ge_glob (v := .str "endless") rfl T.c_ENDLESS.choose_spec ⟨_, rfl⟩ flat_str) (ge_var (pv 1)) (fun _ _ => rfl)) (nomark _))))) (gs_one (gs_aug (i := 1) sc_need_endless.nd rfl (by first | exact Or.inl rfl | exact Or.inr rfl) og_iaddI ge_int)))
    (gs_one (gs_if (PW.pt (gw_or (gt_cmp (tru_plain rfl) og_ltI (ge_var (pv 1)) (ge_callB (cg_len rfl) rfl T.n_len (by decide +kernel) (ga_cons (ge_glob (v := .str "endless") rfl T.c_ENDLESS.choose_spec ⟨_, rfl⟩ flat_str) ga_nil)) (nomark _)) (gw_or1 (gt_cmp (tru_plain rfl) og_gtI (ge_callB (cg_len rfl) rfl T.n_len (by decide +kernel) (ga_cons (ge_var (pv 0)) ga_nil)) (ge_var (pv 1)) (nomark _))))) (gs_one (gs_raise1 (c := 3) rfl T.exi_BadText rfl (oke_BadText T).choose_spec.1 (oke_BadText T).choose_spec.2 (hr.mono (by decide)) rfl T.g_BadText rfl tk_def (ga_cons (ge_var (pv 1)) ga_nil))) gs_nil)))))
theorem ok_need_endless (T : Tx K mg) (B : ∀ p ∈ csOf K lams, LamX.TabB base mg p.1 p.2) : FnB P w (WW K) mg base 3 (He.ga K "need_endless") ["text"] f_need_endless := by
  obtain ⟨fd, F⟩ := T.d_need_endless
  exact ⟨⟨fd, fg_need_endless T B F, F.bindsN fun _ _ _ _ _ _ us hl => match us, hl with | [_], _ => rfl⟩, T.k_need_endless⟩
theorem sc_is_integer : FnScope ["value"] ["value"] (defScope s_is_integer) := ⟨rfl, rfl, rfl, by decide +kernel, rfl, by decide +kernel, by decide +kernel⟩
noncomputable def b_is_integer : GS' :=
  (gRet (gAndV truD (gCall (fIsi isOk isTab) (gCons (gVar 0) (gCons (gC (.ty "int")) gNil))) (gNotV truD (gCall (fIsi isOk isTab) (gCons (gVar 0) (gCons (gC (.ty "bool")) gNil))))))
noncomputable def f_is_integer : List D → Stor → R D := gFn 1 1 b_is_integer
theorem fg_is_integer (T : Tx K mg) (B : ∀ p ∈ csOf K lams, LamX.TabB base mg p.1 p.2) {fd : FuncData} (F : FunD K "is_integer" "is_integer" (defArgs s_is_integer) (defBody s_is_integer) (defScope s_is_integer) [] [] (He.ga K "is_integer") fd) : FnG P w (WW K) mg base 1 (He.ga K "is_integer") fd ["value"] f_is_integer :=
  fng_of (W := WW K) (N := ["value"]) F sc_is_integer (fun cdv A outer s H E hr gd =>
    (gs_one (gs_ret (ge_and (tru_plain rfl) (ge_callB (cg_isi rfl T.isOk T.isTab) rfl T.n_isinstance (by decide +kernel) (ga_cons (ge_var (pv 0)) (ga_cons (ge_ty rfl T.n_int (by decide +kernel)) ga_nil))) (ge_one (ge_not (tru_plain rfl) (ge_callB (cg_isi rfl T.isOk T.isTab) rfl T.n_isinstance (by decide +kernel) (ga_cons (ge_var (pv 0)) (ga_cons (ge_ty rfl T.n_bool (by decide +kernel)) ga_nil)))))))))
theorem ok_is_integer (T : Tx K mg) (B : ∀ p ∈ csOf K lams, LamX.TabB base mg p.1 p.2) : FnB P w (WW K) mg base 1 (He.ga K "is_integer") ["value"] f_is_integer := by
  obtain ⟨fd, F⟩ := T.d_is_integer
  exact ⟨⟨fd, fg_is_integer T B F, F.bindsN fun _ _ _ _ _ _ us hl => match us, hl with | [_], _ => rfl⟩, T.k_is_integer⟩
theorem sc_common : FnScope ["one", "other", "first", "second"] ["one", "other"] (defScope s_common) := ⟨rfl, rfl, rfl, by decide +kernel, rfl, by decide +kernel, by decide +kernel⟩
noncomputable def b_common : GS' :=
  (gSeq (gPar2 2 3 (gCons (gCall fAbsI (gCons (gVar 0) gNil)) (gCons (gVar 1) gNil)))
    (gSeq (gWhile (gTr truD (gBin dNe (gVar 3) (gC (.int 0)))) (gPar2 2 3 (gCons (gVar 3) (gCons (gBin dModI (gVar 2) (gVar 3)) gNil))) fuel)
    (gRet (gVar 2))))
noncomputable def f_common : List D → Stor → R D := gFn 2 4 b_common
theorem fg_common (T : Tx K mg) (B : ∀ p ∈ csOf K lams, LamX.TabB base mg p.1 p.2) {fd : FuncData} (F : FunD K "common" "common" (defArgs s_common) (defBody s_common) (defScope s_common) [] [] (He.ga K "common") fd) : FnG P w (WW K) mg base 1 (He.ga K "common") fd ["one", "other"] f_common :=
  fng_of (W := WW K) (N := ["one", "other", "first", "second"]) F sc_common (fun cdv A outer s H E hr gd =>
    (gs_cons (gs_par2 (i := 2) (j := 3) rfl sc_common.nd rfl rfl (by decide) rfl rfl (ga_cons (ge_callB cg_abs rfl T.n_abs (by decide +kernel) (ga_cons (ge_var (pv 0)) ga_nil)) (ga_cons (ge_var (pv 1)) ga_nil)))
    (gs_cons (gs_while fuel own_def (gt_cmp (tru_plain rfl) (og_ne rfl hr.units) (ge_var (pv 3)) ge_int (nomark _)) (gs_one (gs_par2 (i := 2) (j := 3) rfl sc_common.nd rfl rfl (by decide) rfl rfl (ga_cons (ge_var (pv 3)) (ga_cons (ge_bin og_modI (ge_var (pv 2)) (ge_var (pv 3))) ga_nil)))))
    (gs_one (gs_ret (ge_var (pv 2)))))))
theorem ok_common (T : Tx K mg) (B : ∀ p ∈ csOf K lams, LamX.TabB base mg p.1 p.2) : FnB P w (WW K) mg base 1 (He.ga K "common") ["one", "other"] f_common := by
  obtain ⟨fd, F⟩ := T.d_common
  exact ⟨⟨fd, fg_common T B F, F.bindsN fun _ _ _ _ _ _ us hl => match us, hl with | [_, _], _ => rfl⟩, T.k_common⟩
theorem sc_Ratio___init__ : FnScope ["self", "top", "bottom", "shared"] ["self", "top", "bottom"] (defScope s_Ratio___init__) := ⟨rfl, rfl, rfl, by decide +kernel, rfl, by decide +kernel, by decide +kernel⟩
noncomputable def b_Ratio___init__ : GS' :=
  (gSeq (gIf (gNot (gTr truD (gCall f_is_integer (gCons (gVar 1) gNil)))) gStuck gSkip)
    (gIf (gTr truD (gCall (fIsi isOk isTab) (gCons (gVar 2) (gCons (gC (.cls 4)) gNil)))) (gSeq (gSetF ft_top (gVar 0) (gC (.int 1)))
    (gSetF ft_bottom (gVar 0) (gC (.int 0)))) (gIf (gOr (gNot (gTr truD (gCall f_is_integer (gCons (gVar 2) gNil)))) (gTr truD (gBin dLtI (gVar 2) (gC (.int 1))))) gStuck (gSeq (gSet 3 (gCall f_common (gCons (gVar 1) (gCons (gVar 2) gNil))))
    (gSeq (gSetF ft_top (gVar 0) (gBin dDivI (gVar 1) (gVar 3)))
    (gSetF ft_bottom (gVar 0) (gBin dDivI (gVar 2) (gVar 3))))))))
noncomputable def f_Ratio___init__ : List D → Stor → R D := gFn 3 4 b_Ratio___init__
theorem fg_Ratio___init__ (T : Tx K mg) (B : ∀ p ∈ csOf K lams, LamX.TabB base mg p.1 p.2) {fd : FuncData} (F : FunD K "__init__" "Ratio.__init__" (defArgs s_Ratio___init__) (defBody s_Ratio___init__) (defScope s_Ratio___init__) [V.int 1] [] (He.ma K (He.ga K "Ratio") "__init__") fd) : FnG P w (WW K) mg base 2 (He.ma K (He.ga K "Ratio") "__init__") fd ["self", "top", "bottom"] f_Ratio___init__ :=
  fng_of (W := WW K) (N := ["self", "top", "bottom", "shared"]) F sc_Ratio___init__ (fun cdv A outer s H E hr gd =>
    (gs_cons (gs_if (gt_not (gt_tr (tru_plain rfl) (ge_call (cg_b (ok_is_integer T B) rfl (hr.mono (by decide)) gd pass_def) rfl T.g_is_integer T.k_is_integer (ga_cons (ge_var (pv 1)) ga_nil)))) (gs_one gs_stuck) gs_nil)
    (gs_one (gs_if (gt_tr (tru_plain rfl) (ge_callB (cg_isi rfl T.isOk T.isTab) rfl T.n_isinstance (by decide +kernel) (ga_cons (ge_var (pv 2)) (ga_cons (ge_cls (c := 4) rfl T.g_Nothing) ga_nil)))) (gs_cons (gs_setF rfl (T.fld_top) (ge_var (pv 0)) ge_int)
    (gs_one (gs_setF rfl (T.fld_bottom) (ge_var (pv 0)) ge_int))) (gs_one (gs_if (PW.pt (gw_or (gt_not (gt_tr (tru_plain rfl) (ge_call (cg_b (ok_is_integer T B) rfl (hr.mono (by decide)) gd pass_def) rfl T.g_is_integer T.k_is_integer (ga_cons (ge_var (pv 2)) ga_nil)))) (gw_or1 (gt_cmp (tru_plain rfl) og_ltI (ge_var (pv 2)) ge_int (nomark _))))) (gs_one gs_stuck) (gs_cons (gs_set (i := 3) sc_Ratio___init__.nd rfl (by first | exact Or.inl rfl | exact Or.inr rfl) (ge_call (cg_b (ok_common T B) rfl (hr.mono (by decide)) gd pass_def) rfl T.g_common T.k_common (ga_cons (ge_var (pv 1)) (ga_cons (ge_var (pv 2)) ga_nil))))
    (gs_cons (gs_setF rfl (T.fld_top) (ge_var (pv 0)) (ge_bin og_divI (ge_var (pv 1)) (ge_var (pv 3))))
    (gs_one (gs_setF rfl (T.fld_bottom) (ge_var (pv 0)) (ge_bin og_divI (ge_var (pv 2)) (ge_var (pv 3)))))))))))))
theorem okd_Ratio___init___0 (T : Tx K mg) (B : ∀ p ∈ csOf K lams, LamX.TabB base mg p.1 p.2) : FnBD P w (WW K) mg base 2 (He.ma K (He.ga K "Ratio") "__init__") ["self", "top", "bottom"] [] f_Ratio___init__ := by
  obtain ⟨fd, F⟩ := T.d_Ratio___init__
  obtain ⟨dus, hv, hb⟩ := F.binds1 (ps := ["self", "top", "bottom"]) 3 1 (by simp) (by decide) fun _ _ _ _ _ _ _ us its hl hi => match us, its, hl, hi with | [_, _, _], [_], _, _ => ⟨_, rfl, rfl⟩
  exact ⟨⟨fd, [], dus, fg_Ratio___init__ T B F, hb, hv, fun F ρ => IsL.nil⟩, T.k_Ratio___init__⟩
theorem okd_Ratio___init___1 (T : Tx K mg) (B : ∀ p ∈ csOf K lams, LamX.TabB base mg p.1 p.2) : FnBD P w (WW K) mg base 2 (He.ma K (He.ga K "Ratio") "__init__") ["self", "top", "bottom"] [.int 1] f_Ratio___init__ := by
  obtain ⟨fd, F⟩ := T.d_Ratio___init__
  obtain ⟨dus, hv, hb⟩ := F.binds1 (ps := ["self", "top", "bottom"]) 2 0 (by simp) (by decide) fun _ _ _ _ _ _ _ us its hl hi => match us, its, hl, hi with | [_, _], [_], _, _ => ⟨_, rfl, rfl⟩
  exact ⟨⟨fd, [V.int 1], dus, fg_Ratio___init__ T B F, hb, hv, fun F ρ => IsL.cons (by simp only [Is]) (IsL.nil)⟩, T.k_Ratio___init__⟩
theorem sc_Ratio_endless : FnScope [] [] (defScope s_Ratio_endless) := ⟨rfl, rfl, rfl, by decide +kernel, rfl, by decide +kernel, by decide +kernel⟩
noncomputable def b_Ratio_endless : GS' :=
  (gRet (gCall (gMake 5 [] f_Ratio___init__) (gCons (gC (.int 1)) (gCons (gCall (gBare 4) gNil) gNil))))
noncomputable def f_Ratio_endless : List D → Stor → R D := gFn 0 0 b_Ratio_endless
theorem fg_Ratio_endless (T : Tx K mg) (B : ∀ p ∈ csOf K lams, LamX.TabB base mg p.1 p.2) {fd : FuncData} (F : FunD K "endless" "Ratio.endless" (defArgs s_Ratio_endless) (defBody s_Ratio_endless) (defScope s_Ratio_endless) [] [] (He5.wf K (He.ga K "Ratio") "staticmethod" "endless") fd) : FnG P w (WW K) mg base 4 (He5.wf K (He.ga K "Ratio") "staticmethod" "endless") fd [] f_Ratio_endless :=
  fng_of (W := WW K) (N := []) F sc_Ratio_endless (fun cdv A outer s H E hr gd =>
    (gs_one (gs_ret (ge_call (cg_make (c := 5) T.mk_Ratio (okd_Ratio___init___0 T B) rfl (hr.mono (by decide)) gd pass_def) rfl T.g_Ratio T.mk_Ratio.kp (ga_cons ge_int (ga_cons (ge_call0 (cg_bare (c := 4) T.mk0_Nothing) rfl T.g_Nothing T.mk0_Nothing.kp) ga_nil))))))
theorem ok_Ratio_endless (T : Tx K mg) (B : ∀ p ∈ csOf K lams, LamX.TabB base mg p.1 p.2) : FnB P w (WW K) mg base 4 (He5.wf K (He.ga K "Ratio") "staticmethod" "endless") [] f_Ratio_endless := by
  obtain ⟨fd, F⟩ := T.d_Ratio_endless
  exact ⟨⟨fd, fg_Ratio_endless T B F, F.bindsN fun _ _ _ _ _ _ us hl => match us, hl with | [], _ => rfl⟩, T.k_Ratio_endless⟩
theorem sc_figures_end : FnScope ["text", "start", "end"] ["text", "start"] (defScope s_figures_end) := ⟨rfl, rfl, rfl, by decide +kernel, rfl, by decide +kernel, by decide +kernel⟩
noncomputable def b_figures_end : GS' :=
  (gSeq (gSet 2 (gVar 1))
    (gSeq (gWhile (gAnd (gTr truD (gBin dLtI (gVar 2) (gCall fLen (gCons (gVar 0) gNil)))) (gTr truD (gBin dInS (gBin dIx (gVar 0) (gVar 2)) (gC (.str "0123456789"))))) (gAug 2 dAddI (gC (.int 1))) fuel)
    (gRet (gVar 2))))
noncomputable def f_figures_end : List D → Stor → R D := gFn 2 3 b_figures_end
theorem fg_figures_end (T : Tx K mg) (B : ∀ p ∈ csOf K lams, LamX.TabB base mg p.1 p.2) {fd : FuncData} (F : FunD K "figures_end" "figures_end" (defArgs s_figures_end) (defBody s_figures_end) (defScope s_figures_end) [] [] (He.ga K "figures_end") fd) : FnG P w (WW K) mg base 1 (He.ga K "figures_end") fd ["text", "start"] f_figures_end :=
  fng_of (W := WW K) (N := ["text", "start", "end"]) F sc_figures_end (fun cdv A outer s H E hr gd =>
    (gs_cons (gs_set (i := 2) sc_figures_end.nd rfl (by first | exact Or.inl rfl | exact Or.inr rfl) (ge_var (pv 1)))
    (gs_cons (gs_while fuel own_def (PW.pt (gw_and (gt_cmp (tru_plain rfl) og_ltI (ge_var (pv 2)) (ge_callB (cg_len rfl) rfl T.n_len (by decide +kernel) (ga_cons (ge_var (pv 0)) ga_nil)) (nomark _)) (gw_and1 (gt_cmp (tru_plain rfl) og_inS (ge_ix rfl (ge_var (pv 0)) (ge_var (pv 2)) (fun _ _ => rfl)) (ge_glob (v := .str "0123456789") rfl T.c_FIGURES.choose_spec ⟨_, rfl⟩ flat_str) (by with_unfolding_all rfl))))) (gs_one (gs_aug (i := 2) sc_figures_end.nd rfl (by first | exact Or.inl rfl | exact Or.inr rfl) og_iaddI ge_int)))
    (gs_one (gs_ret (ge_var (pv 2)))))))
theorem ok_figures_end (T : Tx K mg) (B : ∀ p ∈ csOf K lams, LamX.TabB base mg p.1 p.2) : FnB P w (WW K) mg base 1 (He.ga K "figures_end") ["text", "start"] f_figures_end := by
  obtain ⟨fd, F⟩ := T.d_figures_end
  exact ⟨⟨fd, fg_figures_end T B F, F.bindsN fun _ _ _ _ _ _ us hl => match us, hl with | [_, _], _ => rfl⟩, T.k_figures_end⟩
theorem sc_top_end : FnScope ["text", "start", "end"] ["text"] (defScope s_top_end) := ⟨rfl, rfl, rfl, by decide +kernel, rfl, by decide +kernel, by decide +kernel⟩
noncomputable def b_top_end : GS' :=
  (gSeq (gSet 1 (gIfE (gTr truD (gBin dEq (gSl (gVar 0) goNone (goSome (gC (.int 1)))) (gC (.str "-")))) (gC (.int 1)) (gC (.int 0))))
    (gSeq (gIf (gTr truD (gBin dEq (gSl (gVar 0) (goSome (gVar 1)) (goSome (gBin dAdd (gVar 1) (gC (.int 1))))) (gC (.str "0")))) (gSeq (gIf (gTr truD (gBin dEq (gVar 1) (gC (.int 1)))) (gRaise1 3 (gCons (gC (.int 1)) gNil)) gSkip)
    (gRet (gC (.int 1)))) gSkip)
    (gSeq (gSet 2 (gCall f_figures_end (gCons (gVar 0) (gCons (gVar 1) gNil))))
    (gSeq (gIf (gTr truD (gBin dEq (gVar 2) (gVar 1))) (gRaise1 3 (gCons (gVar 1) gNil)) gSkip)
    (gRet (gVar 2))))))
noncomputable def f_top_end : List D → Stor → R D := gFn 1 3 b_top_end
theorem fg_top_end (T : Tx K mg) (B : ∀ p ∈ csOf K lams, LamX.TabB base mg p.1 p.2) {fd : FuncData} (F : FunD K "top_end" "top_end" (defArgs s_top_end) (defBody s_top_end) (defScope s_top_end) [] [] (He.ga K "top_end") fd) : FnG P w (WW K) mg base 3 (He.ga K "top_end") fd ["text"] f_top_end :=
  fng_of (W := WW K) (N := ["text", "start", "end"]) F sc_top_end (fun cdv A outer s H E hr gd =>
    (gs_cons (gs_set (i := 1) sc_top_end.nd rfl (by first | exact Or.inl rfl | exact Or.inr rfl) (ge_ifExp (gt_cmp (tru_plain rfl) (og_eq rfl hr.units) (ge_slice rfl (ge_var (pv 0)) go_none (go_some ge_int)) ge_str (nomark _)) ge_int ge_int))
    (gs_cons (gs_if (gt_cmp (tru_plain rfl) (og_eq rfl hr.units) (ge_slice rfl (ge_var (pv 0)) (go_some (ge_var (pv 1))) (go_some (ge_bin (og_add rfl) (ge_var (pv 1)) ge_int))) ge_str (nomark _)) (gs_cons (gs_if (gt_cmp (tru_plain rfl) (og_eq rfl hr.units) (ge_var (pv 1)) ge_int (nomark _)) (gs_one (gs_raise1 (c := 3) rfl T.exi_BadText rfl (oke_BadText T).choose_spec.1 (oke_BadText T).choose_spec.2 (hr.mono (by decide)) rfl T.g_BadText rfl tk_def (ga_cons ge_int ga_nil))) gs_nil)
    (gs_one (gs_ret ge_int))) gs_nil)
    (gs_cons (gs_set (i := 2) sc_top_end.nd rfl (by first | exact Or.inl rfl | exact Or.inr rfl) (ge_call (cg_b (ok_figures_end T B) rfl (hr.mono (by decide)) gd pass_def) rfl T.g_figures_end T.k_figures_end (ga_cons (ge_var (pv 0)) (ga_cons (ge_var (pv 1)) ga_nil))))
    (gs_cons (gs_if (gt_cmp (tru_plain rfl) (og_eq rfl hr.units) (ge_var (pv 2)) (ge_var (pv 1)) (nomark _)) (gs_one (gs_raise1 (c := 3) rfl T.exi_BadText rfl (oke_BadText T).choose_spec.1 (oke_BadText T).choose_spec.2 (hr.mono (by decide)) rfl T.g_BadText rfl tk_def (ga_cons (ge_var (pv 1)) ga_nil))) gs_nil)
    (gs_one (gs_ret (ge_var (pv 2)))))))))
theorem ok_top_end (T : Tx K mg) (B : ∀ p ∈ csOf K lams, LamX.TabB base mg p.1 p.2) : FnB P w (WW K) mg base 3 (He.ga K "top_end") ["text"] f_top_end := by
  obtain ⟨fd, F⟩ := T.d_top_end
  exact ⟨⟨fd, fg_top_end T B F, F.bindsN fun _ _ _ _ _ _ us hl => match us, hl with | [_], _ => rfl⟩, T.k_top_end⟩
theorem sc_need_bottom : FnScope ["text", "start", "end"] ["text", "start"] (defScope s_need_bottom) := ⟨rfl, rfl, rfl, by decide +kernel, rfl, by decide +kernel, by decide +kernel⟩
noncomputable def b_need_bottom : GS' :=
  (gSeq (gIf (gTr truD (gBin dEq (gSl (gVar 0) (goSome (gVar 1)) (goSome (gBin dAdd (gVar 1) (gC (.int 1))))) (gC (.str "0")))) (gRaise1 3 (gCons (gVar 1) gNil)) gSkip)
    (gSeq (gSet 2 (gCall f_figures_end (gCons (gVar 0) (gCons (gVar 1) gNil))))
    (gIf (gOr (gTr truD (gBin dEq (gVar 2) (gVar 1))) (gTr truD (gBin dLtI (gVar 2) (gCall fLen (gCons (gVar 0) gNil))))) (gRaise1 3 (gCons (gVar 2) gNil)) gSkip)))
noncomputable def f_need_bottom : List D → Stor → R D := gFn 2 3 b_need_bottom
theorem fg_need_bottom (T : Tx K mg) (B : ∀ p ∈ csOf K lams, LamX.TabB base mg p.1 p.2) {fd : FuncData} (F : FunD K "need_bottom" "need_bottom" (defArgs s_need_bottom) (defBody s_need_bottom) (defScope s_need_bottom) [] [] (He.ga K "need_bottom") fd) : FnG P w (WW K) mg base 3 (He.ga K "need_bottom") fd ["text", "start"] f_need_bottom :=
  fng_of (W := WW K) (N := ["text", "start", "end"]) F sc_need_bottom (fun cdv A outer s H E hr gd =>
    (gs_cons (gs_if (gt_cmp (tru_plain rfl) (og_eq rfl hr.units) (ge_slice rfl (ge_var (pv 0)) (go_some (ge_var (pv 1))) (go_some (ge_bin (og_add rfl) (ge_var (pv 1)) ge_int))) ge_str (nomark _)) (gs_one (gs_raise1 (c := 3) rfl T.exi_BadText rfl (oke_BadText T).choose_spec.1 (oke_BadText T).choose_spec.2 (hr.mono (by decide)) rfl T.g_BadText rfl tk_def (ga_cons (ge_var (pv 1)) ga_nil))) gs_nil)
    (gs_cons (gs_set (i := 2) sc_need_bottom.nd rfl (by first | exact Or.inl rfl | exact Or.inr rfl) (ge_call (cg_b (ok_figures_end T B) rfl (hr.mono (by decide)) gd pass_def) rfl T.g_figures_end T.k_figures_end (ga_cons (ge_var (pv 0)) (ga_cons (ge_var (pv 1)) ga_nil))))
    (gs_one (gs_if (PW.pt (gw_or (gt_cmp (tru_plain rfl) (og_eq rfl hr.units) (ge_var (pv 2)) (ge_var (pv 1)) (nomark _)) (gw_or1 (gt_cmp (tru_plain rfl) og_ltI (ge_var (pv 2)) (ge_callB (cg_len rfl) rfl T.n_len (by decide +kernel) (ga_cons (ge_var (pv 0)) ga_nil)) (nomark _))))) (gs_one (gs_raise1 (c := 3) rfl T.exi_BadText rfl (oke_BadText T).choose_spec.1 (oke_BadText T).choose_spec.2 (hr.mono (by decide)) rfl T.g_BadText rfl tk_def (ga_cons (ge_var (pv 2)) ga_nil))) gs_nil)))))
theorem ok_need_bottom (T : Tx K mg) (B : ∀ p ∈ csOf K lams, LamX.TabB base mg p.1 p.2) : FnB P w (WW K) mg base 3 (He.ga K "need_bottom") ["text", "start"] f_need_bottom := by
  obtain ⟨fd, F⟩ := T.d_need_bottom
  exact ⟨⟨fd, fg_need_bottom T B F, F.bindsN fun _ _ _ _ _ _ us hl => match us, hl with | [_, _], _ => rfl⟩, T.k_need_bottom⟩
theorem sc_Ratio_read : FnScope ["cls", "text", "end"] ["cls", "text"] (defScope s_Ratio_read) := ⟨rfl, rfl, rfl, by decide +kernel, rfl, by decide +kernel, by decide +kernel⟩
noncomputable def b_Ratio_read : GS' :=
  (gSeq (gIf (gNot (gTr truD (gCall (fIsi isOk isTab) (gCons (gVar 1) (gCons (gC (.ty "str")) gNil))))) (gRaise1 3 (gCons (gC (.int 0)) gNil)) gSkip)
    (gSeq (gIf (gTr truD (gBin dEq (gSl (gVar 1) goNone (goSome (gC (.int 1)))) (gSl (gC (.str "endless")) goNone (goSome (gC (.int 1)))))) (gSeq (gExpr (gCall f_need_endless (gCons (gVar 1) gNil)))
    (gRet (gClsM0 5 f_Ratio_endless (gVar 0)))) gSkip)
    (gSeq (gSet 2 (gCall f_top_end (gCons (gVar 1) gNil)))
    (gSeq (gIf (gTr truD (gBin dEq (gVar 2) (gCall fLen (gCons (gVar 1) gNil)))) (gRet (gCallV 0 5 (gMake 5 [.int 1] f_Ratio___init__) (gCons (gCall (fun ds M => orR (fInt ds M) (fIntS ds M)) (gCons (gVar 1) gNil)) gNil))) gSkip)
    (gSeq (gIf (gTr truD (gBin dNe (gBin dIx (gVar 1) (gVar 2)) (gC (.str "/")))) (gRaise1 3 (gCons (gVar 2) gNil)) gSkip)
    (gSeq (gExpr (gCall f_need_bottom (gCons (gVar 1) (gCons (gBin dAdd (gVar 2) (gC (.int 1))) gNil))))
    (gRet (gCallV 0 5 (gMake 5 [] f_Ratio___init__) (gCons (gCall (fun ds M => orR (fInt ds M) (fIntS ds M)) (gCons (gSl (gVar 1) goNone (goSome (gVar 2))) gNil)) (gCons (gCall (fun ds M => orR (fInt ds M) (fIntS ds M)) (gCons (gSl (gVar 1) (goSome (gBin dAdd (gVar 2) (gC (.int 1)))) goNone) gNil)) gNil))))))))))
noncomputable def f_Ratio_read : List D → Stor → R D := gFn 2 3 b_Ratio_read
theorem fg_Ratio_read (T : Tx K mg) (B : ∀ p ∈ csOf K lams, LamX.TabB base mg p.1 p.2) {fd : FuncData} (F : FunD K "read" "Ratio.read" (defArgs s_Ratio_read) (defBody s_Ratio_read) (defScope s_Ratio_read) [] [] (He5.wf K (He.ga K "Ratio") "classmethod" "read") fd) : FnG P w (WW K) mg base 5 (He5.wf K (He.ga K "Ratio") "classmethod" "read") fd ["cls", "text"] f_Ratio_read :=
  fng_of (W := WW K) (N := ["cls", "text", "end"]) F sc_Ratio_read (fun cdv A outer s H E hr gd =>
    (gs_cons (gs_if (gt_not (gt_tr (tru_plain rfl) (ge_callB (cg_isi rfl T.isOk T.isTab) rfl T.n_isinstance (by decide +kernel) (ga_cons (ge_var (pv 1)) (ga_cons (ge_ty rfl T.n_str (by decide +kernel)) ga_nil))))) (gs_one (gs_raise1 (c := 3) rfl T.exi_BadText rfl (oke_BadText T).choose_spec.1 (oke_BadText T).choose_spec.2 (hr.mono (by decide)) rfl T.g_BadText rfl tk_def (ga_cons ge_int ga_nil))) gs_nil)
    (gs_cons (gs_if (gt_cmp (tru_plain rfl) (og_eq rfl hr.units) (ge_slice rfl (ge_var (pv 1)) go_none (go_some ge_int)) (ge_slice rfl (ge_glob (v := .str "endless") rfl T.c_ENDLESS.choose_spec ⟨_, rfl⟩ flat_str) go_none (go_some ge_int)) (nomark _)) (gs_cons (gs_expr (ge_call (cg_b (ok_need_endless T B) rfl (hr.mono (by decide)) gd pass_def) rfl T.g_need_endless T.k_need_endless (ga_cons (ge_var (pv 1)) ga_nil)))
    (gs_one (gs_ret (ge_smethV0 (c := 5) (cg_b (ok_Ratio_endless T B) rfl (hr.mono (by decide)) gd pass_def) T.sm_Ratio_endless (ge_var (pv 0)))))) gs_nil)
    (gs_cons (gs_set (i := 2) sc_Ratio_read.nd rfl (by first | exact Or.inl rfl | exact Or.inr rfl) (ge_call (cg_b (ok_top_end T B) rfl (hr.mono (by decide)) gd pass_def) rfl T.g_top_end T.k_top_end (ga_cons (ge_var (pv 1)) ga_nil)))
    (gs_cons (gs_if (gt_cmp (tru_plain rfl) (og_eq rfl hr.units) (ge_var (pv 2)) (ge_callB (cg_len rfl) rfl T.n_len (by decide +kernel) (ga_cons (ge_var (pv 1)) ga_nil)) (nomark _)) (gs_one (gs_ret (ge_callV (c := 5) (cg_make (c := 5) T.mk_Ratio (okd_Ratio___init___1 T B) rfl (hr.mono (by decide)) gd pass_def) (pv 0) T.mk_Ratio.kp (ga_cons (ge_callTy (cg_int.or cg_intS) rfl T.n_int (by decide +kernel) (ga_cons (ge_var (pv 1)) ga_nil)) ga_nil)))) gs_nil)
    (gs_cons (gs_if (gt_cmp (tru_plain rfl) (og_ne rfl hr.units) (ge_ix rfl (ge_var (pv 1)) (ge_var (pv 2)) (fun _ _ => rfl)) ge_str (nomark _)) (gs_one (gs_raise1 (c := 3) rfl T.exi_BadText rfl (oke_BadText T).choose_spec.1 (oke_BadText T).choose_spec.2 (hr.mono (by decide)) rfl T.g_BadText rfl tk_def (ga_cons (ge_var (pv 2)) ga_nil))) gs_nil)
    (gs_cons (gs_expr (ge_call (cg_b (ok_need_bottom T B) rfl (hr.mono (by decide)) gd pass_def) rfl T.g_need_bottom T.k_need_bottom (ga_cons (ge_var (pv 1)) (ga_cons (ge_bin (og_add rfl) (ge_var (pv 2)) ge_int) ga_nil))))
    (gs_one (gs_ret (ge_callV (c := 5) (cg_make (c := 5) T.mk_Ratio (okd_Ratio___init___0 T B) rfl (hr.mono (by decide)) gd pass_def) (pv 0) T.mk_Ratio.kp (ga_cons (ge_callTy (cg_int.or cg_intS) rfl T.n_int (by decide +kernel) (ga_cons (ge_slice rfl (ge_var (pv 1)) go_none (go_some (ge_var (pv 2)))) ga_nil)) (ga_cons (ge_callTy (cg_int.or cg_intS) rfl T.n_int (by decide +kernel) (ga_cons (ge_slice rfl (ge_var (pv 1)) (go_some (ge_bin (og_add rfl) (ge_var (pv 2)) ge_int)) go_none) ga_nil)) ga_nil))))))))))))
theorem ok_Ratio_read (T : Tx K mg) (B : ∀ p ∈ csOf K lams, LamX.TabB base mg p.1 p.2) : FnB P w (WW K) mg base 5 (He5.wf K (He.ga K "Ratio") "classmethod" "read") ["cls", "text"] f_Ratio_read := by
  obtain ⟨fd, F⟩ := T.d_Ratio_read
  exact ⟨⟨fd, fg_Ratio_read T B F, F.bindsN fun _ _ _ _ _ _ us hl => match us, hl with | [_, _], _ => rfl⟩, T.k_Ratio_read⟩
theorem sc__law_right : FnScope ["_law_line", "_law_due_here"] ["_law_line"] (defScope s__law_right) := ⟨rfl, rfl, rfl, by decide +kernel, rfl, by decide +kernel, by decide +kernel⟩
noncomputable def b__law_right : GS' :=
  (gSeq (gSet 1 (gCall f__law_due (gCons (gVar 0) gNil)))
    (gRet (gBin dEq (gCall f__law_told (gCons (gLam 5 (b__law_heard) (gCall (fun ds M => f_Ratio_read (.cls 5 :: ds) M) (gCons (gVar 0) gNil))) gNil)) (gVar 1))))
noncomputable def f__law_right : List D → Stor → R D := gFn 1 2 b__law_right
theorem fg__law_right (T : Tx K mg) (B : ∀ p ∈ csOf K lams, LamX.TabB base mg p.1 p.2) {fd : FuncData} (F : FunD K "_law_right" "_law_right" (defArgs s__law_right) (defBody s__law_right) (defScope s__law_right) [] [] (He.ga K "_law_right") fd) : FnG P w (WW K) mg base 8 (He.ga K "_law_right") fd ["_law_line"] f__law_right :=
  fng_ofC (W := WW K) (N := ["_law_line", "_law_due_here"]) F sc__law_right (fun cdv hcd A outer s H E hr gd =>
    (gs_cons (gs_set (i := 1) sc__law_right.nd rfl (by first | exact Or.inl rfl | exact Or.inr rfl) (ge_call (cg_b (ok__law_due T B) rfl (hr.mono (by decide)) gd pass_def) rfl T.g__law_due T.k__law_due (ga_cons (ge_var (pv 0)) ga_nil)))
    (gs_one (gs_ret (ge_cmp (og_eq rfl hr.units) (ge_call (cg_b (ok__law_told T B) rfl (hr.mono (by decide)) gd pass_def) rfl T.g__law_told T.k__law_told (ga_cons (ge_lam (k := 5) (a := "_law_ask") (Ng := ["_law_ask", "_law_caught", "_law_found", "error", "_law_kinds"]) rfl rfl T.g__law_heard T.k__law_heard T.d__law_heard.choose_spec (T.d__law_heard.choose_spec.bindsN fun _ _ _ _ _ _ us hl => match us, hl with | [_], _ => rfl) sc__law_heard rfl (Or.inl rfl) (ld__law_heard T B) (tb_at B (x := "_law_right") (by decide +kernel)) (Option.some.inj (hcd.symm.trans T.tab__law_right.cd)) (tb_mem (by decide +kernel)) (tb_uniq T.apart (by decide +kernel)) (hr.mono (by decide)) gd (LamX.lamS_by (by show LamX.lamSB (defScope s__law_right) _ = true; decide +kernel)) pass_def rfl (fun _ _ _ _ _ => rfl) (fun A outer s H E f c hr gd => (ge_cmeth (c := 5) (ok_Ratio_read T B) rfl (hr.mono (by decide)) gd pass_lam T.cm_Ratio_read.rd T.cm_Ratio_read.ex.choose_spec (ge_cls (c := 5) rfl T.g_Ratio) (ga_cons (ge_var (pv 0)) ga_nil)))) ga_nil)) (ge_var (pv 1)) (nomark _))))))
theorem ok__law_right (T : Tx K mg) (B : ∀ p ∈ csOf K lams, LamX.TabB base mg p.1 p.2) : FnB P w (WW K) mg base 8 (He.ga K "_law_right") ["_law_line"] f__law_right := by
  obtain ⟨fd, F⟩ := T.d__law_right
  exact ⟨⟨fd, fg__law_right T B F, F.bindsN fun _ _ _ _ _ _ us hl => match us, hl with | [_], _ => rfl⟩, T.k__law_right⟩
theorem sc__law_spoilt : FnScope ["_law_pen_here", "_law_line", "_law_spot", "_law_way", "_law_sign"] ["_law_pen_here", "_law_line"] (defScope s__law_spoilt) := ⟨rfl, rfl, rfl, by decide +kernel, rfl, by decide +kernel, by decide +kernel⟩
noncomputable def b__law_spoilt : GS' :=
  (gSeq (gPar2 2 3 (gCons (gCall f__law_draw (gCons (gVar 0) (gCons (gBin dAdd (gCall fLen (gCons (gVar 1) gNil)) (gC (.int 1))) gNil))) (gCons (gCall f__law_draw (gCons (gVar 0) (gCons (gC (.int 6)) gNil))) gNil)))
    (gSeq (gSet 4 (gCall f__law_pick (gCons (gVar 0) (gCons (gLst (gCons (gC (.str "0")) (gCons (gC (.str "0")) (gCons (gC (.str "1")) (gCons (gC (.str "7")) (gCons (gC (.str "/")) (gCons (gC (.str "/")) (gCons (gC (.str "-")) (gCons (gC (.str "e")) (gCons (gC (.str "n")) (gCons (gC (.str "s")) (gCons (gC (.str " ")) (gCons (gC (.str "+")) (gCons (gC (.str ".")) (gCons (gC (.str "E")) (gCons (gC (.str "x")) (gCons (gC (.str "_")) gNil))))))))))))))))) gNil))))
    (gSeq (gIf (gTr truD (gBin dEq (gVar 3) (gC (.int 0)))) (gRet (gBin dAdd (gSl (gVar 1) goNone (goSome (gVar 2))) (gSl (gVar 1) (goSome (gBin dAdd (gVar 2) (gC (.int 1)))) goNone))) gSkip)
    (gSeq (gIf (gTr truD (gBin dEq (gVar 3) (gC (.int 1)))) (gRet (gBin dAdd (gBin dAdd (gSl (gVar 1) goNone (goSome (gVar 2))) (gSl (gVar 1) (goSome (gVar 2)) (goSome (gBin dAdd (gVar 2) (gC (.int 1)))))) (gSl (gVar 1) (goSome (gVar 2)) goNone))) gSkip)
    (gSeq (gIf (gTr truD (gBin dEq (gVar 3) (gC (.int 2)))) (gRet (gSl (gVar 1) goNone (goSome (gVar 2)))) gSkip)
    (gRet (gBin dAdd (gBin dAdd (gSl (gVar 1) goNone (goSome (gVar 2))) (gVar 4)) (gSl (gVar 1) (goSome (gBin dAdd (gVar 2) (gCall fInt (gCons (gBin dEq (gVar 3) (gC (.int 3))) gNil)))) goNone))))))))
noncomputable def f__law_spoilt : List D → Stor → R D := gFn 2 5 b__law_spoilt
theorem fg__law_spoilt (T : Tx K mg) (B : ∀ p ∈ csOf K lams, LamX.TabB base mg p.1 p.2) {fd : FuncData} (F : FunD K "_law_spoilt" "_law_spoilt" (defArgs s__law_spoilt) (defBody s__law_spoilt) (defScope s__law_spoilt) [] [] (He.ga K "_law_spoilt") fd) : FnG P w (WW K) mg base 3 (He.ga K "_law_spoilt") fd ["_law_pen_here", "_law_line"] f__law_spoilt :=
  fng_of (W := WW K) (N := ["_law_pen_here", "_law_line", "_law_spot", "_law_way", "_law_sign"]) F sc__law_spoilt (fun cdv A outer s H E hr gd =>
    (gs_cons (gs_par2 (i := 2) (j := 3) rfl sc__law_spoilt.nd rfl rfl (by decide) rfl rfl (ga_cons (ge_call (cg_b (ok__law_draw T B) rfl (hr.mono (by decide)) gd pass_def) rfl T.g__law_draw T.k__law_draw (ga_cons (ge_var (pv 0)) (ga_cons (ge_bin (og_add rfl) (ge_callB (cg_len rfl) rfl T.n_len (by decide +kernel) (ga_cons (ge_var (pv 1)) ga_nil)) ge_int) ga_nil))) (ga_cons (ge_call (cg_b (ok__law_draw T B) rfl (hr.mono (by decide)) gd pass_def) rfl T.g__law_draw T.k__law_draw (ga_cons (ge_var (pv 0)) (ga_cons ge_int ga_nil))) ga_nil)))
    (gs_cons (gs_set (i := 4) sc__law_spoilt.nd rfl (by first | exact Or.inl rfl | exact Or.inr rfl) (ge_call (cg_b (ok__law_pick T B) rfl (hr.mono (by decide)) gd pass_def) rfl T.g__law_pick T.k__law_pick (ga_cons (ge_var (pv 0)) (ga_cons (ge_lst (ga_cons ge_str (ga_cons ge_str (ga_cons ge_str (ga_cons ge_str (ga_cons ge_str (ga_cons ge_str (ga_cons ge_str (ga_cons ge_str (ga_cons ge_str (ga_cons ge_str (ga_cons ge_str (ga_cons ge_str (ga_cons ge_str (ga_cons ge_str (ga_cons ge_str (ga_cons ge_str ga_nil))))))))))))))))) ga_nil))))
    (gs_cons (gs_if (gt_cmp (tru_plain rfl) (og_eq rfl hr.units) (ge_var (pv 3)) ge_int (nomark _)) (gs_one (gs_ret (ge_bin (og_add rfl) (ge_slice rfl (ge_var (pv 1)) go_none (go_some (ge_var (pv 2)))) (ge_slice rfl (ge_var (pv 1)) (go_some (ge_bin (og_add rfl) (ge_var (pv 2)) ge_int)) go_none)))) gs_nil)
    (gs_cons (gs_if (gt_cmp (tru_plain rfl) (og_eq rfl hr.units) (ge_var (pv 3)) ge_int (nomark _)) (gs_one (gs_ret (ge_bin (og_add rfl) (ge_bin (og_add rfl) (ge_slice rfl (ge_var (pv 1)) go_none (go_some (ge_var (pv 2)))) (ge_slice rfl (ge_var (pv 1)) (go_some (ge_var (pv 2))) (go_some (ge_bin (og_add rfl) (ge_var (pv 2)) ge_int)))) (ge_slice rfl (ge_var (pv 1)) (go_some (ge_var (pv 2))) go_none)))) gs_nil)
    (gs_cons (gs_if (gt_cmp (tru_plain rfl) (og_eq rfl hr.units) (ge_var (pv 3)) ge_int (nomark _)) (gs_one (gs_ret (ge_slice rfl (ge_var (pv 1)) go_none (go_some (ge_var (pv 2)))))) gs_nil)
    (gs_one (gs_ret (ge_bin (og_add rfl) (ge_bin (og_add rfl) (ge_slice rfl (ge_var (pv 1)) go_none (go_some (ge_var (pv 2)))) (ge_var (pv 4))) (ge_slice rfl (ge_var (pv 1)) (go_some (ge_bin (og_add rfl) (ge_var (pv 2)) (ge_callTy cg_int rfl T.n_int (by decide +kernel) (ga_cons (ge_cmp (og_eq rfl hr.units) (ge_var (pv 3)) ge_int (nomark _)) ga_nil)))) go_none))))))))))
theorem ok__law_spoilt (T : Tx K mg) (B : ∀ p ∈ csOf K lams, LamX.TabB base mg p.1 p.2) : FnB P w (WW K) mg base 3 (He.ga K "_law_spoilt") ["_law_pen_here", "_law_line"] f__law_spoilt := by
  obtain ⟨fd, F⟩ := T.d__law_spoilt
  exact ⟨⟨fd, fg__law_spoilt T B F, F.bindsN fun _ _ _ _ _ _ us hl => match us, hl with | [_, _], _ => rfl⟩, T.k__law_spoilt⟩
theorem sc_Ratio___eq__ : FnScope ["self", "other"] ["self", "other"] (defScope s_Ratio___eq__) := ⟨rfl, rfl, rfl, by decide +kernel, rfl, by decide +kernel, by decide +kernel⟩
noncomputable def b_Ratio___eq__ : GS' :=
  (gRet (gAndV truD (gCall (fIsi isOk isTab) (gCons (gVar 1) (gCons (gC (.cls 5)) gNil))) (gAndV truD (gBin dEq (gUn (dFld ft_top) (gVar 0)) (gUn (dFld ft_top) (gVar 1))) (gBin dEq (gUn (dFld ft_bottom) (gVar 0)) (gUn (dFld ft_bottom) (gVar 1))))))
noncomputable def f_Ratio___eq__ : List D → Stor → R D := gFn 2 2 b_Ratio___eq__
theorem fg_Ratio___eq__ (T : Tx K mg) (B : ∀ p ∈ csOf K lams, LamX.TabB base mg p.1 p.2) {fd : FuncData} (F : FunD K "__eq__" "Ratio.__eq__" (defArgs s_Ratio___eq__) (defBody s_Ratio___eq__) (defScope s_Ratio___eq__) [] [] (He.ma K (He.ga K "Ratio") "__eq__") fd) : FnG P w (WW K) mg base 1 (He.ma K (He.ga K "Ratio") "__eq__") fd ["self", "other"] f_Ratio___eq__ :=
  fng_of (W := WW K) (N := ["self", "other"]) F sc_Ratio___eq__ (fun cdv A outer s H E hr gd =>
    (gs_one (gs_ret (ge_and (tru_plain rfl) (ge_callB (cg_isi rfl T.isOk T.isTab) rfl T.n_isinstance (by decide +kernel) (ga_cons (ge_var (pv 1)) (ga_cons (ge_cls (c := 5) rfl T.g_Ratio) ga_nil))) (ge_and (tru_plain rfl) (ge_cmp (og_eq rfl hr.units) (ge_fld rfl (T.fld_top) (ge_var (pv 0))) (ge_fld rfl (T.fld_top) (ge_var (pv 1))) (nomark _)) (ge_one (ge_cmp (og_eq rfl hr.units) (ge_fld rfl (T.fld_bottom) (ge_var (pv 0))) (ge_fld rfl (T.fld_bottom) (ge_var (pv 1))) (nomark _))))))))
theorem ok_Ratio___eq__ (T : Tx K mg) (B : ∀ p ∈ csOf K lams, LamX.TabB base mg p.1 p.2) : FnB P w (WW K) mg base 1 (He.ma K (He.ga K "Ratio") "__eq__") ["self", "other"] f_Ratio___eq__ := by
  obtain ⟨fd, F⟩ := T.d_Ratio___eq__
  exact ⟨⟨fd, fg_Ratio___eq__ T B F, F.bindsN fun _ _ _ _ _ _ us hl => match us, hl with | [_, _], _ => rfl⟩, T.k_Ratio___eq__⟩
theorem sc_written : FnScope ["top", "bottom"] ["top", "bottom"] (defScope s_written) := ⟨rfl, rfl, rfl, by decide +kernel, rfl, by decide +kernel, by decide +kernel⟩
noncomputable def b_written : GS' :=
  (gSeq (gIf (gTr truD (gBin dEq (gVar 1) (gC (.int 0)))) (gRet (gC (.str "endless"))) gSkip)
    (gRet (gIfE (gTr truD (gBin dEq (gVar 1) (gC (.int 1)))) (gCall fStr (gCons (gVar 0) gNil)) (jsG [(gUn dFmt (gVar 0)), (gC (.str "/")), (gUn dFmt (gVar 1))] Str.empty))))
noncomputable def f_written : List D → Stor → R D := gFn 2 2 b_written
theorem fg_written (T : Tx K mg) (B : ∀ p ∈ csOf K lams, LamX.TabB base mg p.1 p.2) {fd : FuncData} (F : FunD K "written" "written" (defArgs s_written) (defBody s_written) (defScope s_written) [] [] (He.ga K "written") fd) : FnG P w (WW K) mg base 1 (He.ga K "written") fd ["top", "bottom"] f_written :=
  fng_of (W := WW K) (N := ["top", "bottom"]) F sc_written (fun cdv A outer s H E hr gd =>
    (gs_cons (gs_if (gt_cmp (tru_plain rfl) (og_eq rfl hr.units) (ge_var (pv 1)) ge_int (nomark _)) (gs_one (gs_ret (ge_glob (v := .str "endless") rfl T.c_ENDLESS.choose_spec ⟨_, rfl⟩ flat_str))) gs_nil)
    (gs_one (gs_ret (ge_ifExp (gt_cmp (tru_plain rfl) (og_eq rfl hr.units) (ge_var (pv 1)) ge_int (nomark _)) (ge_callTy cg_str rfl T.n_str (by decide +kernel) (ga_cons (ge_var (pv 0)) ga_nil)) (ge_joined (.cons (ge_fmt (ge_var (pv 0))) (.cons ge_str (.cons (ge_fmt (ge_var (pv 1))) .nil)))))))))
theorem ok_written (T : Tx K mg) (B : ∀ p ∈ csOf K lams, LamX.TabB base mg p.1 p.2) : FnB P w (WW K) mg base 1 (He.ga K "written") ["top", "bottom"] f_written := by
  obtain ⟨fd, F⟩ := T.d_written
  exact ⟨⟨fd, fg_written T B F, F.bindsN fun _ _ _ _ _ _ us hl => match us, hl with | [_, _], _ => rfl⟩, T.k_written⟩
theorem sc_Ratio___str__ : FnScope ["self"] ["self"] (defScope s_Ratio___str__) := ⟨rfl, rfl, rfl, by decide +kernel, rfl, by decide +kernel, by decide +kernel⟩
noncomputable def b_Ratio___str__ : GS' :=
  (gRet (gCall fStr (gCons (gCall f_written (gCons (gUn (dFld ft_top) (gVar 0)) (gCons (gUn (dFld ft_bottom) (gVar 0)) gNil))) gNil)))
noncomputable def f_Ratio___str__ : List D → Stor → R D := gFn 1 1 b_Ratio___str__
theorem fg_Ratio___str__ (T : Tx K mg) (B : ∀ p ∈ csOf K lams, LamX.TabB base mg p.1 p.2) {fd : FuncData} (F : FunD K "__str__" "Ratio.__str__" (defArgs s_Ratio___str__) (defBody s_Ratio___str__) (defScope s_Ratio___str__) [] [] (He.ma K (He.ga K "Ratio") "__str__") fd) : FnG P w (WW K) mg base 2 (He.ma K (He.ga K "Ratio") "__str__") fd ["self"] f_Ratio___str__ :=
  fng_of (W := WW K) (N := ["self"]) F sc_Ratio___str__ (fun cdv A outer s H E hr gd =>
    (gs_one (gs_ret (ge_callTy cg_str rfl T.n_str (by decide +kernel) (ga_cons (ge_call (cg_b (ok_written T B) rfl (hr.mono (by decide)) gd pass_def) rfl T.g_written T.k_written (ga_cons (ge_fld rfl (T.fld_top) (ge_var (pv 0))) (ga_cons (ge_fld rfl (T.fld_bottom) (ge_var (pv 0))) ga_nil))) ga_nil)))))
theorem ok_Ratio___str__ (T : Tx K mg) (B : ∀ p ∈ csOf K lams, LamX.TabB base mg p.1 p.2) : FnB P w (WW K) mg base 2 (He.ma K (He.ga K "Ratio") "__str__") ["self"] f_Ratio___str__ := by
  obtain ⟨fd, F⟩ := T.d_Ratio___str__
  exact ⟨⟨fd, fg_Ratio___str__ T B F, F.bindsN fun _ _ _ _ _ _ us hl => match us, hl with | [_], _ => rfl⟩, T.k_Ratio___str__⟩
theorem sc__law_made : FnScope ["_law_pair"] ["_law_pair"] (defScope s__law_made) := ⟨rfl, rfl, rfl, by decide +kernel, rfl, by decide +kernel, by decide +kernel⟩
noncomputable def b__law_made : GS' :=
  (gRet (gIfE (gTr truD (gBin dEq (gBin dIx (gVar 0) (gC (.int 1))) (gC (.int 0)))) (gCall f_Ratio_endless gNil) (gCall (gMake 5 [] f_Ratio___init__) (gCons (gBin dIx (gVar 0) (gC (.int 0))) (gCons (gBin dIx (gVar 0) (gC (.int 1))) gNil)))))
noncomputable def f__law_made : List D → Stor → R D := gFn 1 1 b__law_made
theorem fg__law_made (T : Tx K mg) (B : ∀ p ∈ csOf K lams, LamX.TabB base mg p.1 p.2) {fd : FuncData} (F : FunD K "_law_made" "_law_made" (defArgs s__law_made) (defBody s__law_made) (defScope s__law_made) [] [] (He.ga K "_law_made") fd) : FnG P w (WW K) mg base 5 (He.ga K "_law_made") fd ["_law_pair"] f__law_made :=
  fng_of (W := WW K) (N := ["_law_pair"]) F sc__law_made (fun cdv A outer s H E hr gd =>
    (gs_one (gs_ret (ge_ifExp (gt_cmp (tru_plain rfl) (og_eq rfl hr.units) (ge_ix rfl (ge_var (pv 0)) ge_int (fun _ _ => rfl)) ge_int (nomark _)) (ge_smeth0 (c := 5) (cg_b (ok_Ratio_endless T B) rfl (hr.mono (by decide)) gd pass_def) T.sm_Ratio_endless (ge_cls (c := 5) rfl T.g_Ratio)) (ge_call (cg_make (c := 5) T.mk_Ratio (okd_Ratio___init___0 T B) rfl (hr.mono (by decide)) gd pass_def) rfl T.g_Ratio T.mk_Ratio.kp (ga_cons (ge_ix rfl (ge_var (pv 0)) ge_int (fun _ _ => rfl)) (ga_cons (ge_ix rfl (ge_var (pv 0)) ge_int (fun _ _ => rfl)) ga_nil)))))))
theorem ok__law_made (T : Tx K mg) (B : ∀ p ∈ csOf K lams, LamX.TabB base mg p.1 p.2) : FnB P w (WW K) mg base 5 (He.ga K "_law_made") ["_law_pair"] f__law_made := by
  obtain ⟨fd, F⟩ := T.d__law_made
  exact ⟨⟨fd, fg__law_made T B F, F.bindsN fun _ _ _ _ _ _ us hl => match us, hl with | [_], _ => rfl⟩, T.k__law_made⟩
theorem sc_law : FnScope ["_law_script", "_law_pen_here", "_law_spin", "_law_line", "_law_again", "_law_bent", "_law_more", "_law_pair", "_law_odd"] ["_law_script"] (defScope s_law) := ⟨rfl, rfl, rfl, by decide +kernel, rfl, by decide +kernel, by decide +kernel⟩
noncomputable def b_law : GS' :=
  (gSeq (gSet 1 (gCall f__law_pen (gCons (gVar 0) gNil)))
    (gSeq (gFor (giRange1 (gCons (gC (.int 12)) gNil)) (ggName 2) (gSeq (gSet 3 (gCall f__law_drawn_text (gCons (gVar 1) gNil)))
    (gSeq (gIf (gOr (gNot (gTr truD (gCall f__law_is_right (gCons (gVar 3) gNil)))) (gNot (gTr truD (gCall f__law_right (gCons (gVar 3) gNil))))) (gRet (gC (.bl false))) gSkip)
    (gSeq (gFor (giRange1 (gCons (gC (.int 3)) gNil)) (ggName 4) (gSeq (gSet 5 (gVar 3))
    (gSeq (gFor (giRange1 (gCons (gBin dAdd (gC (.int 1)) (gCall f__law_draw (gCons (gVar 1) (gCons (gC (.int 2)) gNil)))) gNil)) (ggName 6) (gSet 5 (gCall f__law_spoilt (gCons (gVar 1) (gCons (gVar 5) gNil)))))
    (gIf (gNot (gTr truD (gCall f__law_right (gCons (gVar 5) gNil)))) (gRet (gC (.bl false))) gSkip))))
    (gSeq (gSet 7 (gCall f__law_fraction (gCons (gVar 1) gNil)))
    (gSeq (gIf (gTr truD (gBin (fun x y M => orR (dNe x y M) (cmpO 5 isOk nfTab (fun l N => notB (f_Ratio___eq__ l N)) x y M)) (gCall (fun ds M => orR (fStr ds M) (fOwnS 5 f_Ratio___str__ ds M)) (gCons (gCall (fun ds M => f_Ratio_read (.cls 5 :: ds) M) (gCons (gCall (fun ds M => orR (fStr ds M) (fOwnS 5 f_Ratio___str__ ds M)) (gCons (gCall f__law_made (gCons (gVar 7) gNil)) gNil)) gNil)) gNil)) (gCall f__law_text (gCons (gVar 7) gNil)))) (gRet (gC (.bl false))) gSkip)
    (gSeq (gSet 8 (gCall f__law_pick (gCons (gVar 1) (gCons (gLst (gCons (gC .non) (gCons (gC (.int 7)) (gCons (gC (.bl true)) (gCons (gLst (gCons (gC (.str "1")) gNil)) (gCons (gTup (gCons (gC (.str "1")) gNil)) (gCons (gC (.dct [] [])) (gCons (gCall (gMake 5 [.int 1] f_Ratio___init__) (gCons (gC (.int 1)) gNil)) (gCons (gBin dPowI (gC (.int 10)) (gC (.int 29))) (gCons (gLst gNil) (gCons (gC (.bl false)) gNil))))))))))) gNil))))
    (gIf (gTr truD (gBin dNe (gLam 5 (b__law_heard) (gCall (fun ds M => f_Ratio_read (.cls 5 :: ds) M) (gCons (gVar 8) gNil))) (gTup (gCons (gC (.str "text")) (gCons (gC (.int 0)) gNil))))) (gRet (gC (.bl false))) gSkip))))))))
    (gSeq (gFor (giSeq (gTup (gCons (gC (.str "")) (gCons (gC (.str "-")) (gCons (gC (.str "0")) (gCons (gC (.str "-0")) (gCons (gC (.str "03")) (gCons (gC (.str "3/")) (gCons (gC (.str "2/0")) (gCons (gC (.str "2/00")) (gCons (gC (.str "0/7")) (gCons (gC (.str "6/4")) (gCons (gC (.str "endles")) (gCons (gC (.str "endlessx")) (gCons (gC (.str "3/4/")) (gCons (gC (.str "+3")) (gCons (gC (.str "1e")) gNil))))))))))))))))) (ggName 3) (gIf (gNot (gTr truD (gCall f__law_right (gCons (gVar 3) gNil)))) (gRet (gC (.bl false))) gSkip))
    (gRet (gAndV truD (gCall f__law_right (gCons (gC (.str "endless")) gNil)) (gAndV truD (gCall f__law_right (gCons (gC (.str " 3")) gNil)) (gCall f__law_right (gCons (gC (.str "3 ")) gNil))))))))
noncomputable def f_law : List D → Stor → R D := gFn 1 9 b_law
theorem fg_law (T : Tx K mg) (B : ∀ p ∈ csOf K lams, LamX.TabB base mg p.1 p.2) {fd : FuncData} (F : FunD K "law" "law" (defArgs s_law) (defBody s_law) (defScope s_law) [] [] (He.ga K "law") fd) : FnG P w (WW K) mg base 9 (He.ga K "law") fd ["_law_script"] f_law :=
  fng_ofC (W := WW K) (N := ["_law_script", "_law_pen_here", "_law_spin", "_law_line", "_law_again", "_law_bent", "_law_more", "_law_pair", "_law_odd"]) F sc_law (fun cdv hcd A outer s H E hr gd =>
    (gs_cons (gs_set (i := 1) sc_law.nd rfl (by first | exact Or.inl rfl | exact Or.inr rfl) (ge_call (cg_b (ok__law_pen T B) rfl (hr.mono (by decide)) gd pass_def) rfl T.g__law_pen T.k__law_pen (ga_cons (ge_var (pv 0)) ga_nil)))
    (gs_cons (gs_for own_def rfl (gi_range1 rfl T.n_range (ga_cons ge_int ga_nil)) (gg_name (pg_name (i := 2) sc_law.nd rfl (by first | exact Or.inl rfl | exact Or.inr rfl))) (gs_cons (gs_set (i := 3) sc_law.nd rfl (by first | exact Or.inl rfl | exact Or.inr rfl) (ge_call (cg_b (ok__law_drawn_text T B) rfl (hr.mono (by decide)) gd pass_def) rfl T.g__law_drawn_text T.k__law_drawn_text (ga_cons (ge_var (pv 1)) ga_nil)))
    (gs_cons (gs_if (PW.pt (gw_or (gt_not (gt_tr (tru_plain rfl) (ge_call (cg_b (ok__law_is_right T B) rfl (hr.mono (by decide)) gd pass_def) rfl T.g__law_is_right T.k__law_is_right (ga_cons (ge_var (pv 3)) ga_nil)))) (gw_or1 (gt_not (gt_tr (tru_plain rfl) (ge_call (cg_b (ok__law_right T B) rfl (hr.mono (by decide)) gd pass_def) rfl T.g__law_right T.k__law_right (ga_cons (ge_var (pv 3)) ga_nil))))))) (gs_one (gs_ret ge_bl)) gs_nil)
    (gs_cons (gs_for own_def rfl (gi_range1 rfl T.n_range (ga_cons ge_int ga_nil)) (gg_name (pg_name (i := 4) sc_law.nd rfl (by first | exact Or.inl rfl | exact Or.inr rfl))) (gs_cons (gs_set (i := 5) sc_law.nd rfl (by first | exact Or.inl rfl | exact Or.inr rfl) (ge_var (pv 3)))
    (gs_cons (gs_for own_def rfl (gi_range1 rfl T.n_range (ga_cons (ge_bin (og_add rfl) ge_int (ge_call (cg_b (ok__law_draw T B) rfl (hr.mono (by decide)) gd pass_def) rfl T.g__law_draw T.k__law_draw (ga_cons (ge_var (pv 1)) (ga_cons ge_int ga_nil)))) ga_nil)) (gg_name (pg_name (i := 6) sc_law.nd rfl (by first | exact Or.inl rfl | exact Or.inr rfl))) (gs_one (gs_set (i := 5) sc_law.nd rfl (by first | exact Or.inl rfl | exact Or.inr rfl) (ge_call (cg_b (ok__law_spoilt T B) rfl (hr.mono (by decide)) gd pass_def) rfl T.g__law_spoilt T.k__law_spoilt (ga_cons (ge_var (pv 1)) (ga_cons (ge_var (pv 5)) ga_nil))))))
    (gs_one (gs_if (gt_not (gt_tr (tru_plain rfl) (ge_call (cg_b (ok__law_right T B) rfl (hr.mono (by decide)) gd pass_def) rfl T.g__law_right T.k__law_right (ga_cons (ge_var (pv 5)) ga_nil)))) (gs_one (gs_ret ge_bl)) gs_nil)))))
    (gs_cons (gs_set (i := 7) sc_law.nd rfl (by first | exact Or.inl rfl | exact Or.inr rfl) (ge_call (cg_b (ok__law_fraction T B) rfl (hr.mono (by decide)) gd pass_def) rfl T.g__law_fraction T.k__law_fraction (ga_cons (ge_var (pv 1)) ga_nil)))
    (gs_cons (gs_if (gt_cmp (tru_plain rfl) ((og_ne rfl hr.units).or (og_neO (c := 5) rfl (Room.in1 (hr.mono (by decide) : Room 2 _)).units0 T.ne_Ratio T.me_Ratio___eq__.at_ T.me_Ratio___eq__.fn T.isOk T.nfTab (cg_b (ok_Ratio___eq__ T B) rfl (Room.in1 (hr.mono (by decide))) gd (pass_in1 pass_def)))) (ge_callTy (cg_str.or (cg_strO (c := 5) (Room.in1 (Room.in1 (hr.mono (by decide) : Room 3 _))).units0 T.me_Ratio___str__.at_ T.me_Ratio___str__.fn (cg_b (ok_Ratio___str__ T B) rfl (Room.in1 (Room.in1 (hr.mono (by decide)))) gd (pass_in1 (pass_in1 pass_def))))) rfl T.n_str (by decide +kernel) (ga_cons (ge_cmeth (c := 5) (ok_Ratio_read T B) rfl (hr.mono (by decide)) gd pass_def T.cm_Ratio_read.rd T.cm_Ratio_read.ex.choose_spec (ge_cls (c := 5) rfl T.g_Ratio) (ga_cons (ge_callTy (cg_str.or (cg_strO (c := 5) (Room.in1 (Room.in1 (hr.mono (by decide) : Room 3 _))).units0 T.me_Ratio___str__.at_ T.me_Ratio___str__.fn (cg_b (ok_Ratio___str__ T B) rfl (Room.in1 (Room.in1 (hr.mono (by decide)))) gd (pass_in1 (pass_in1 pass_def))))) rfl T.n_str (by decide +kernel) (ga_cons (ge_call (cg_b (ok__law_made T B) rfl (hr.mono (by decide)) gd pass_def) rfl T.g__law_made T.k__law_made (ga_cons (ge_var (pv 7)) ga_nil)) ga_nil)) ga_nil)) ga_nil)) (ge_call (cg_b (ok__law_text T B) rfl (hr.mono (by decide)) gd pass_def) rfl T.g__law_text T.k__law_text (ga_cons (ge_var (pv 7)) ga_nil)) (nomark _)) (gs_one (gs_ret ge_bl)) gs_nil)
    (gs_cons (gs_set (i := 8) sc_law.nd rfl (by first | exact Or.inl rfl | exact Or.inr rfl) (ge_call (cg_b (ok__law_pick T B) rfl (hr.mono (by decide)) gd pass_def) rfl T.g__law_pick T.k__law_pick (ga_cons (ge_var (pv 1)) (ga_cons (ge_lst (ga_cons ge_non (ga_cons ge_int (ga_cons ge_bl (ga_cons (ge_lst (ga_cons ge_str ga_nil)) (ga_cons (ge_tup (ga_cons ge_str ga_nil)) (ga_cons ge_dct0 (ga_cons (ge_call (cg_make (c := 5) T.mk_Ratio (okd_Ratio___init___1 T B) rfl (hr.mono (by decide)) gd pass_def) rfl T.g_Ratio T.mk_Ratio.kp (ga_cons ge_int ga_nil)) (ga_cons (ge_bin og_powI ge_int ge_int) (ga_cons (ge_lst ga_nil) (ga_cons ge_bl ga_nil))))))))))) ga_nil))))
    (gs_one (gs_if (gt_cmp (tru_plain rfl) (og_ne rfl hr.units) (ge_lam (k := 5) (a := "_law_ask") (Ng := ["_law_ask", "_law_caught", "_law_found", "error", "_law_kinds"]) rfl rfl T.g__law_heard T.k__law_heard T.d__law_heard.choose_spec (T.d__law_heard.choose_spec.bindsN fun _ _ _ _ _ _ us hl => match us, hl with | [_], _ => rfl) sc__law_heard rfl (Or.inl rfl) (ld__law_heard T B) (tb_at B (x := "law") (by decide +kernel)) (Option.some.inj (hcd.symm.trans T.tab_law.cd)) (tb_mem (by decide +kernel)) (tb_uniq T.apart (by decide +kernel)) (hr.mono (by decide)) gd (LamX.lamS_by (by show LamX.lamSB (defScope s_law) _ = true; decide +kernel)) pass_def rfl (fun _ _ _ _ _ => rfl) (fun A outer s H E f c hr gd => (ge_cmeth (c := 5) (ok_Ratio_read T B) rfl (hr.mono (by decide)) gd pass_lam T.cm_Ratio_read.rd T.cm_Ratio_read.ex.choose_spec (ge_cls (c := 5) rfl T.g_Ratio) (ga_cons (ge_var (pv 8)) ga_nil)))) (ge_tup (ga_cons ge_str (ga_cons ge_int ga_nil))) (nomark _)) (gs_one (gs_ret ge_bl)) gs_nil)))))))))
    (gs_cons (gs_for own_def rfl (gi_seq rfl (ge_tup (ga_cons ge_str (ga_cons ge_str (ga_cons ge_str (ga_cons ge_str (ga_cons ge_str (ga_cons ge_str (ga_cons ge_str (ga_cons ge_str (ga_cons ge_str (ga_cons ge_str (ga_cons ge_str (ga_cons ge_str (ga_cons ge_str (ga_cons ge_str (ga_cons ge_str ga_nil))))))))))))))))) (gg_name (pg_name (i := 3) sc_law.nd rfl (by first | exact Or.inl rfl | exact Or.inr rfl))) (gs_one (gs_if (gt_not (gt_tr (tru_plain rfl) (ge_call (cg_b (ok__law_right T B) rfl (hr.mono (by decide)) gd pass_def) rfl T.g__law_right T.k__law_right (ga_cons (ge_var (pv 3)) ga_nil)))) (gs_one (gs_ret ge_bl)) gs_nil)))
    (gs_one (gs_ret (ge_and (tru_plain rfl) (ge_call (cg_b (ok__law_right T B) rfl (hr.mono (by decide)) gd pass_def) rfl T.g__law_right T.k__law_right (ga_cons ge_str ga_nil)) (ge_and (tru_plain rfl) (ge_call (cg_b (ok__law_right T B) rfl (hr.mono (by decide)) gd pass_def) rfl T.g__law_right T.k__law_right (ga_cons ge_str ga_nil)) (ge_one (ge_call (cg_b (ok__law_right T B) rfl (hr.mono (by decide)) gd pass_def) rfl T.g__law_right T.k__law_right (ga_cons ge_str ga_nil)))))))))))
theorem ok_law (T : Tx K mg) (B : ∀ p ∈ csOf K lams, LamX.TabB base mg p.1 p.2) : FnB P w (WW K) mg base 9 (He.ga K "law") ["_law_script"] f_law := by
  obtain ⟨fd, F⟩ := T.d_law
  exact ⟨⟨fd, fg_law T B F, F.bindsN fun _ _ _ _ _ _ us hl => match us, hl with | [_], _ => rfl⟩, T.k_law⟩
end
def fa : List He.Fa := ([.glo "_law_pen", .glo "_law_drawn_text", .glo "_law_is_right", .glo "_law_right", .glo "_law_draw", .glo "_law_spoilt", .glo "_law_fraction", .glo "_law_made", .glo "Ratio", .glo "_law_text", .glo "_law_pick", .glo "_law_heard", .glo "_law_low", .glo "_law_begins", .glo "_law_is_number", .glo "_law_due", .glo "_law_told", .glo "WebError", .glo "BadText", .glo "NoRatio", .glo "BadRatio", .glo "need_endless", .glo "top_end", .glo "need_bottom", .glo "Nothing"] : List He.Fa) ++ ([.glo "is_integer", .glo "common", .glo "figures_end", .glo "written", .free "range", .free "str", .free "list", .free "abs", .free "int", .free "len", .free "isinstance", .free "ValueError", .free "bool", .meth "Ratio" "__eq__", .meth "Ratio" "__str__", .mkr "Ratio", .cls "Ratio", .noat "Ratio" "bottom", .noat "Ratio" "top", .str "ENDLESS" "endless", .str "FIGURES" "0123456789", .cls "Nothing", .glo "law"] : List He.Fa)
def fx : List Fx := ([fxNf "Ratio" (.b "NoneType"), fxNf "Ratio" (.b "bool"), fxNf "Ratio" (.b "int"), fxNf "Ratio" (.b "str"), fxNf "Ratio" (.b "list"), fxNf "Ratio" (.b "tuple"), fxNf "Ratio" (.b "dict"), fxNf "Ratio" (.o "Ratio"), fxNe "Ratio", fxCm "Ratio" "read", fxTab "law", fxApart lams, fxTab "_law_right", fxXf "BadText", fxNo "BadText" "at", fxExI "BadText" ["at"], fxSm "Ratio" "endless", fxMk0 "Nothing", fxClsI "Nothing", fxClsI "Ratio", fxKit (.b "NoneType") (.b "int") false, fxKit (.b "bool") (.b "int") true, fxKit (.b "int") (.b "int") true, fxKit (.b "str") (.b "int") false, fxKit (.b "list") (.b "int") false] : List Fx) ++ ([fxKit (.b "tuple") (.b "int") false, fxKit (.b "dict") (.b "int") false, fxKit (.o "Ratio") (.b "int") false, fxKit (.b "NoneType") (.b "str") false, fxKit (.b "bool") (.b "str") false, fxKit (.b "int") (.b "str") false, fxKit (.b "str") (.b "str") true, fxKit (.b "list") (.b "str") false, fxKit (.b "tuple") (.b "str") false, fxKit (.b "dict") (.b "str") false, fxKit (.o "Ratio") (.b "str") false, fxKit (.b "bool") (.b "bool") true, fxKit (.b "int") (.b "bool") false, fxKit (.b "NoneType") (.o "Ratio") false, fxKit (.b "bool") (.o "Ratio") false, fxKit (.b "int") (.o "Ratio") false, fxKit (.b "str") (.o "Ratio") false, fxKit (.b "list") (.o "Ratio") false, fxKit (.b "tuple") (.o "Ratio") false, fxKit (.b "dict") (.o "Ratio") false, fxKit (.o "Ratio") (.o "Ratio") true, fxKit (.b "NoneType") (.b "list") false, fxKit (.b "bool") (.b "list") false, fxKit (.b "int") (.b "list") false, fxKit (.b "str") (.b "list") false] : List Fx) ++ ([fxKit (.b "list") (.b "list") true, fxKit (.b "tuple") (.b "list") false, fxKit (.b "dict") (.b "list") false, fxKit (.o "Ratio") (.b "list") false, fxKit (.b "NoneType") (.o "Nothing") false, fxKit (.b "bool") (.o "Nothing") false, fxKit (.b "int") (.o "Nothing") false, fxKit (.b "str") (.o "Nothing") false, fxKit (.b "list") (.o "Nothing") false, fxKit (.b "tuple") (.o "Nothing") false, fxKit (.b "dict") (.o "Nothing") false, fxKit (.o "Ratio") (.o "Nothing") false, fxKit (.o "Nothing") (.o "Nothing") true, fxExC "BadText", fxKit (.o "BadText") (.o "BadRatio") false, fxKit (.o "BadText") (.o "NoRatio") false, fxKit (.o "BadText") (.o "BadText") true, fxKit (.o "BadText") (.b "ValueError") true, fxExm "BadText" "WebError" true] : List Fx)
def da__law_pen : He5.DefA := ⟨fun K => (He.ga K "_law_pen"), "_law_pen", "_law_pen", defArgs s__law_pen, defBody s__law_pen, defScope s__law_pen, [], []⟩
def da__law_draw : He5.DefA := ⟨fun K => (He.ga K "_law_draw"), "_law_draw", "_law_draw", defArgs s__law_draw, defBody s__law_draw, defScope s__law_draw, [], []⟩
def da__law_low : He5.DefA := ⟨fun K => (He.ga K "_law_low"), "_law_low", "_law_low", defArgs s__law_low, defBody s__law_low, defScope s__law_low, [], []⟩
def da__law_pick : He5.DefA := ⟨fun K => (He.ga K "_law_pick"), "_law_pick", "_law_pick", defArgs s__law_pick, defBody s__law_pick, defScope s__law_pick, [], []⟩
def da__law_fraction : He5.DefA := ⟨fun K => (He.ga K "_law_fraction"), "_law_fraction", "_law_fraction", defArgs s__law_fraction, defBody s__law_fraction, defScope s__law_fraction, [], []⟩
def da__law_text : He5.DefA := ⟨fun K => (He.ga K "_law_text"), "_law_text", "_law_text", defArgs s__law_text, defBody s__law_text, defScope s__law_text, [], []⟩
def da__law_drawn_text : He5.DefA := ⟨fun K => (He.ga K "_law_drawn_text"), "_law_drawn_text", "_law_drawn_text", defArgs s__law_drawn_text, defBody s__law_drawn_text, defScope s__law_drawn_text, [], []⟩
def da__law_is_number : He5.DefA := ⟨fun K => (He.ga K "_law_is_number"), "_law_is_number", "_law_is_number", defArgs s__law_is_number, defBody s__law_is_number, defScope s__law_is_number, [], []⟩
def da__law_begins : He5.DefA := ⟨fun K => (He.ga K "_law_begins"), "_law_begins", "_law_begins", defArgs s__law_begins, defBody s__law_begins, defScope s__law_begins, [], []⟩
def da__law_is_right : He5.DefA := ⟨fun K => (He.ga K "_law_is_right"), "_law_is_right", "_law_is_right", defArgs s__law_is_right, defBody s__law_is_right, defScope s__law_is_right, [], []⟩
def da__law_due : He5.DefA := ⟨fun K => (He.ga K "_law_due"), "_law_due", "_law_due", defArgs s__law_due, defBody s__law_due, defScope s__law_due, [], []⟩
def da__law_told : He5.DefA := ⟨fun K => (He.ga K "_law_told"), "_law_told", "_law_told", defArgs s__law_told, defBody s__law_told, defScope s__law_told, [], []⟩
def da__law_heard : He5.DefA := ⟨fun K => (He.ga K "_law_heard"), "_law_heard", "_law_heard", defArgs s__law_heard, defBody s__law_heard, defScope s__law_heard, [], []⟩
def da_BadText___init__ : He5.DefA := ⟨fun K => (He.ma K (He.ga K "BadText") "__init__"), "__init__", "BadText.__init__", defArgs s_BadText___init__, defBody s_BadText___init__, defScope s_BadText___init__, [], []⟩
def da_need_endless : He5.DefA := ⟨fun K => (He.ga K "need_endless"), "need_endless", "need_endless", defArgs s_need_endless, defBody s_need_endless, defScope s_need_endless, [], []⟩
def da_is_integer : He5.DefA := ⟨fun K => (He.ga K "is_integer"), "is_integer", "is_integer", defArgs s_is_integer, defBody s_is_integer, defScope s_is_integer, [], []⟩
def da_common : He5.DefA := ⟨fun K => (He.ga K "common"), "common", "common", defArgs s_common, defBody s_common, defScope s_common, [], []⟩
def da_Ratio___init__ : He5.DefA := ⟨fun K => (He.ma K (He.ga K "Ratio") "__init__"), "__init__", "Ratio.__init__", defArgs s_Ratio___init__, defBody s_Ratio___init__, defScope s_Ratio___init__, [.int 1], []⟩
def da_Ratio_endless : He5.DefA := ⟨fun K => (He5.wf K (He.ga K "Ratio") "staticmethod" "endless"), "endless", "Ratio.endless", defArgs s_Ratio_endless, defBody s_Ratio_endless, defScope s_Ratio_endless, [], []⟩
def da_figures_end : He5.DefA := ⟨fun K => (He.ga K "figures_end"), "figures_end", "figures_end", defArgs s_figures_end, defBody s_figures_end, defScope s_figures_end, [], []⟩
def da_top_end : He5.DefA := ⟨fun K => (He.ga K "top_end"), "top_end", "top_end", defArgs s_top_end, defBody s_top_end, defScope s_top_end, [], []⟩
def da_need_bottom : He5.DefA := ⟨fun K => (He.ga K "need_bottom"), "need_bottom", "need_bottom", defArgs s_need_bottom, defBody s_need_bottom, defScope s_need_bottom, [], []⟩
def da_Ratio_read : He5.DefA := ⟨fun K => (He5.wf K (He.ga K "Ratio") "classmethod" "read"), "read", "Ratio.read", defArgs s_Ratio_read, defBody s_Ratio_read, defScope s_Ratio_read, [], []⟩
def da__law_right : He5.DefA := ⟨fun K => (He.ga K "_law_right"), "_law_right", "_law_right", defArgs s__law_right, defBody s__law_right, defScope s__law_right, [], []⟩
def da__law_spoilt : He5.DefA := ⟨fun K => (He.ga K "_law_spoilt"), "_law_spoilt", "_law_spoilt", defArgs s__law_spoilt, defBody s__law_spoilt, defScope s__law_spoilt, [], []⟩
def da_Ratio___eq__ : He5.DefA := ⟨fun K => (He.ma K (He.ga K "Ratio") "__eq__"), "__eq__", "Ratio.__eq__", defArgs s_Ratio___eq__, defBody s_Ratio___eq__, defScope s_Ratio___eq__, [], []⟩
def da_written : He5.DefA := ⟨fun K => (He.ga K "written"), "written", "written", defArgs s_written, defBody s_written, defScope s_written, [], []⟩
def da_Ratio___str__ : He5.DefA := ⟨fun K => (He.ma K (He.ga K "Ratio") "__str__"), "__str__", "Ratio.__str__", defArgs s_Ratio___str__, defBody s_Ratio___str__, defScope s_Ratio___str__, [], []⟩
def da__law_made : He5.DefA := ⟨fun K => (He.ga K "_law_made"), "_law_made", "_law_made", defArgs s__law_made, defBody s__law_made, defScope s__law_made, [], []⟩
def da_law : He5.DefA := ⟨fun K => (He.ga K "law"), "law", "law", defArgs s_law, defBody s_law, defScope s_law, [], []⟩
def fn : List He5.DefA := ([da__law_pen, da__law_draw, da__law_low, da__law_pick, da__law_fraction, da__law_text, da__law_drawn_text, da__law_is_number, da__law_begins, da__law_is_right, da__law_due, da__law_told, da__law_heard, da_BadText___init__, da_need_endless, da_is_integer, da_common, da_Ratio___init__, da_Ratio_endless, da_figures_end, da_top_end, da_need_bottom, da_Ratio_read, da__law_right, da__law_spoilt] : List He5.DefA) ++ ([da_Ratio___eq__, da_written, da_Ratio___str__, da__law_made, da_law] : List He5.DefA)
theorem tx_of {K : PySem.W.Frag} {h : Heap} {mg : Str → Option Value} (X : K.In h) (G0 : h.Ns mainGlobals mg) (c : SaysE fa fx fn K) : Tx K mg := by
  have t_g__law_pen := He.glo_ok X G0 (c.fact 0 (f := .glo "_law_pen") rfl)
  have t_g__law_drawn_text := He.glo_ok X G0 (c.fact 1 (f := .glo "_law_drawn_text") rfl)
  have t_g__law_is_right := He.glo_ok X G0 (c.fact 2 (f := .glo "_law_is_right") rfl)
  have t_g__law_right := He.glo_ok X G0 (c.fact 3 (f := .glo "_law_right") rfl)
  have t_g__law_draw := He.glo_ok X G0 (c.fact 4 (f := .glo "_law_draw") rfl)
  have t_g__law_spoilt := He.glo_ok X G0 (c.fact 5 (f := .glo "_law_spoilt") rfl)
  have t_g__law_fraction := He.glo_ok X G0 (c.fact 6 (f := .glo "_law_fraction") rfl)
  have t_g__law_made := He.glo_ok X G0 (c.fact 7 (f := .glo "_law_made") rfl)
  have t_g_Ratio := He.glo_ok X G0 (c.fact 8 (f := .glo "Ratio") rfl)
  have t_g__law_text := He.glo_ok X G0 (c.fact 9 (f := .glo "_law_text") rfl)
  have t_g__law_pick := He.glo_ok X G0 (c.fact 10 (f := .glo "_law_pick") rfl)
  have t_g__law_heard := He.glo_ok X G0 (c.fact 11 (f := .glo "_law_heard") rfl)
  have t_g__law_low := He.glo_ok X G0 (c.fact 12 (f := .glo "_law_low") rfl)
  have t_g__law_begins := He.glo_ok X G0 (c.fact 13 (f := .glo "_law_begins") rfl)
  have t_g__law_is_number := He.glo_ok X G0 (c.fact 14 (f := .glo "_law_is_number") rfl)
  have t_g__law_due := He.glo_ok X G0 (c.fact 15 (f := .glo "_law_due") rfl)
  have t_g__law_told := He.glo_ok X G0 (c.fact 16 (f := .glo "_law_told") rfl)
  have t_g_WebError := He.glo_ok X G0 (c.fact 17 (f := .glo "WebError") rfl)
  have t_g_BadText := He.glo_ok X G0 (c.fact 18 (f := .glo "BadText") rfl)
  have t_g_NoRatio := He.glo_ok X G0 (c.fact 19 (f := .glo "NoRatio") rfl)
  have t_g_BadRatio := He.glo_ok X G0 (c.fact 20 (f := .glo "BadRatio") rfl)
  have t_g_need_endless := He.glo_ok X G0 (c.fact 21 (f := .glo "need_endless") rfl)
  have t_g_top_end := He.glo_ok X G0 (c.fact 22 (f := .glo "top_end") rfl)
  have t_g_need_bottom := He.glo_ok X G0 (c.fact 23 (f := .glo "need_bottom") rfl)
  have t_g_Nothing := He.glo_ok X G0 (c.fact 24 (f := .glo "Nothing") rfl)
  have t_g_is_integer := He.glo_ok X G0 (c.fact 25 (f := .glo "is_integer") rfl)
  have t_g_common := He.glo_ok X G0 (c.fact 26 (f := .glo "common") rfl)
  have t_g_figures_end := He.glo_ok X G0 (c.fact 27 (f := .glo "figures_end") rfl)
  have t_g_written := He.glo_ok X G0 (c.fact 28 (f := .glo "written") rfl)
  have t_n_range := He.free_ok X G0 (c.fact 29 (f := .free "range") rfl)
  have t_n_str := He.free_ok X G0 (c.fact 30 (f := .free "str") rfl)
  have t_n_list := He.free_ok X G0 (c.fact 31 (f := .free "list") rfl)
  have t_n_abs := He.free_ok X G0 (c.fact 32 (f := .free "abs") rfl)
  have t_n_int := He.free_ok X G0 (c.fact 33 (f := .free "int") rfl)
  have t_n_len := He.free_ok X G0 (c.fact 34 (f := .free "len") rfl)
  have t_n_isinstance := He.free_ok X G0 (c.fact 35 (f := .free "isinstance") rfl)
  have t_n_ValueError := He.free_ok X G0 (c.fact 36 (f := .free "ValueError") rfl)
  have t_n_bool := He.free_ok X G0 (c.fact 37 (f := .free "bool") rfl)
  have t_nf_non : PySem.W.notFirst K (He.ga K "Ratio") (TN.v K (.b "NoneType")) = true := nf_of (c.factX 0 (f := fxNf "Ratio" (.b "NoneType")) rfl)
  have t_nf_bl : PySem.W.notFirst K (He.ga K "Ratio") (TN.v K (.b "bool")) = true := nf_of (c.factX 1 (f := fxNf "Ratio" (.b "bool")) rfl)
  have t_nf_int : PySem.W.notFirst K (He.ga K "Ratio") (TN.v K (.b "int")) = true := nf_of (c.factX 2 (f := fxNf "Ratio" (.b "int")) rfl)
  have t_nf_str : PySem.W.notFirst K (He.ga K "Ratio") (TN.v K (.b "str")) = true := nf_of (c.factX 3 (f := fxNf "Ratio" (.b "str")) rfl)
  have t_nf_lst : PySem.W.notFirst K (He.ga K "Ratio") (TN.v K (.b "list")) = true := nf_of (c.factX 4 (f := fxNf "Ratio" (.b "list")) rfl)
  have t_nf_tup : PySem.W.notFirst K (He.ga K "Ratio") (TN.v K (.b "tuple")) = true := nf_of (c.factX 5 (f := fxNf "Ratio" (.b "tuple")) rfl)
  have t_nf_dct : PySem.W.notFirst K (He.ga K "Ratio") (TN.v K (.b "dict")) = true := nf_of (c.factX 6 (f := fxNf "Ratio" (.b "dict")) rfl)
  have t_nf_Ratio : PySem.W.notFirst K (He.ga K "Ratio") (TN.v K (.o "Ratio")) = true := nf_of (c.factX 7 (f := fxNf "Ratio" (.o "Ratio")) rfl)
  have t_me_Ratio___eq__ : Meth K (He.ga K "Ratio") "__eq__" (He.ma K (He.ga K "Ratio") "__eq__") := He.meth_ok (c.fact 38 (f := .meth "Ratio" "__eq__") rfl)
  have t_ne_Ratio : NeC K (He.ga K "Ratio") := ne_of (c.factX 8 (f := fxNe "Ratio") rfl)
  have t_me_Ratio___str__ : Meth K (He.ga K "Ratio") "__str__" (He.ma K (He.ga K "Ratio") "__str__") := He.meth_ok (c.fact 39 (f := .meth "Ratio" "__str__") rfl)
  have t_cm_Ratio_read : CmK K (He.ga K "Ratio") "read" (He5.wf K (He.ga K "Ratio") "classmethod" "read") := cm_of (c.factX 9 (f := fxCm "Ratio" "read") rfl)
  have t_mk_Ratio : Mk K (He.ga K "Ratio") (He.ma K (He.ga K "Ratio") "__init__") := He.mkr_ok (c.fact 40 (f := .mkr "Ratio") rfl)
  have t_tab_law : TabK K "law" := tabK_of (c.factX 10 (f := fxTab "law") rfl)
  have t_apart : (lams.map (tcP K)).Nodup := apart_of (c.factX 11 (f := fxApart lams) rfl)
  have t_tab__law_right : TabK K "_law_right" := tabK_of (c.factX 12 (f := fxTab "_law_right") rfl)
  have t_cls_Ratio : Cls K (He.ga K "Ratio") := He.cls_ok (x := "Ratio") (c.fact 41 (f := .cls "Ratio") rfl)
  have t_na_Ratio_bottom : NoAttr K (He.ga K "Ratio") "bottom" := He.noat_ok (c.fact 42 (f := .noat "Ratio" "bottom") rfl)
  have t_na_Ratio_top : NoAttr K (He.ga K "Ratio") "top" := He.noat_ok (c.fact 43 (f := .noat "Ratio" "top") rfl)
  have t_xf_BadText : XfC K (He.ga K "BadText") := xf_of (c.factX 13 (f := fxXf "BadText") rfl)
  have t_no_BadText_at : PySem.W.findIn K (.ref (He.ga K "BadText")) "at" = some none := no_of (c.factX 14 (f := fxNo "BadText" "at") rfl)
  have t_exi_BadText : ExI K (He.ga K "BadText") (He.ma K (He.ga K "BadText") "__init__") ["at"] := exI_of (c.factX 15 (f := fxExI "BadText" ["at"]) rfl)
  have t_c_ENDLESS : ∃ t, mg "ENDLESS" = some (.str "endless" t) := He.str_ok X G0 (c.fact 44 (f := .str "ENDLESS" "endless") rfl)
  have t_sm_Ratio_endless : SMet K (He.ga K "Ratio") "endless" (He5.wf K (He.ga K "Ratio") "staticmethod" "endless") := sm_of (c.factX 16 (f := fxSm "Ratio" "endless") rfl)
  have t_mk0_Nothing : Mk0 K (He.ga K "Nothing") := mk0_of (c.factX 17 (f := fxMk0 "Nothing") rfl)
  have t_c_FIGURES : ∃ t, mg "FIGURES" = some (.str "0123456789" t) := He.str_ok X G0 (c.fact 45 (f := .str "FIGURES" "0123456789") rfl)
  have t_cls_Nothing : Cls K (He.ga K "Nothing") := He.cls_ok (x := "Nothing") (c.fact 46 (f := .cls "Nothing") rfl)
  have t_i_Nothing : ClsI K (He.ga K "Nothing") := clsI_of t_cls_Nothing (c.factX 18 (f := fxClsI "Nothing") rfl)
  have t_i_Ratio : ClsI K (He.ga K "Ratio") := clsI_of t_cls_Ratio (c.factX 19 (f := fxClsI "Ratio") rfl)
  have t_kit_non_int : PySem.W.kitOne K (TN.v K (.b "NoneType")) (TN.v K (.b "int")) = some false := G.kit_of (c.factX 20 (f := fxKit (.b "NoneType") (.b "int") false) rfl)
  have t_kit_bl_int : PySem.W.kitOne K (TN.v K (.b "bool")) (TN.v K (.b "int")) = some true := G.kit_of (c.factX 21 (f := fxKit (.b "bool") (.b "int") true) rfl)
  have t_kit_int_int : PySem.W.kitOne K (TN.v K (.b "int")) (TN.v K (.b "int")) = some true := G.kit_of (c.factX 22 (f := fxKit (.b "int") (.b "int") true) rfl)
  have t_kit_str_int : PySem.W.kitOne K (TN.v K (.b "str")) (TN.v K (.b "int")) = some false := G.kit_of (c.factX 23 (f := fxKit (.b "str") (.b "int") false) rfl)
  have t_kit_lst_int : PySem.W.kitOne K (TN.v K (.b "list")) (TN.v K (.b "int")) = some false := G.kit_of (c.factX 24 (f := fxKit (.b "list") (.b "int") false) rfl)
  have t_kit_tup_int : PySem.W.kitOne K (TN.v K (.b "tuple")) (TN.v K (.b "int")) = some false := G.kit_of (c.factX 25 (f := fxKit (.b "tuple") (.b "int") false) rfl)
  have t_kit_dct_int : PySem.W.kitOne K (TN.v K (.b "dict")) (TN.v K (.b "int")) = some false := G.kit_of (c.factX 26 (f := fxKit (.b "dict") (.b "int") false) rfl)
  have t_kit_Ratio_int : PySem.W.kitOne K (TN.v K (.o "Ratio")) (TN.v K (.b "int")) = some false := G.kit_of (c.factX 27 (f := fxKit (.o "Ratio") (.b "int") false) rfl)
  have t_kit_non_str : PySem.W.kitOne K (TN.v K (.b "NoneType")) (TN.v K (.b "str")) = some false := G.kit_of (c.factX 28 (f := fxKit (.b "NoneType") (.b "str") false) rfl)
  have t_kit_bl_str : PySem.W.kitOne K (TN.v K (.b "bool")) (TN.v K (.b "str")) = some false := G.kit_of (c.factX 29 (f := fxKit (.b "bool") (.b "str") false) rfl)
  have t_kit_int_str : PySem.W.kitOne K (TN.v K (.b "int")) (TN.v K (.b "str")) = some false := G.kit_of (c.factX 30 (f := fxKit (.b "int") (.b "str") false) rfl)
  have t_kit_str_str : PySem.W.kitOne K (TN.v K (.b "str")) (TN.v K (.b "str")) = some true := G.kit_of (c.factX 31 (f := fxKit (.b "str") (.b "str") true) rfl)
  have t_kit_lst_str : PySem.W.kitOne K (TN.v K (.b "list")) (TN.v K (.b "str")) = some false := G.kit_of (c.factX 32 (f := fxKit (.b "list") (.b "str") false) rfl)
  have t_kit_tup_str : PySem.W.kitOne K (TN.v K (.b "tuple")) (TN.v K (.b "str")) = some false := G.kit_of (c.factX 33 (f := fxKit (.b "tuple") (.b "str") false) rfl)
  have t_kit_dct_str : PySem.W.kitOne K (TN.v K (.b "dict")) (TN.v K (.b "str")) = some false := G.kit_of (c.factX 34 (f := fxKit (.b "dict") (.b "str") false) rfl)
  have t_kit_Ratio_str : PySem.W.kitOne K (TN.v K (.o "Ratio")) (TN.v K (.b "str")) = some false := G.kit_of (c.factX 35 (f := fxKit (.o "Ratio") (.b "str") false) rfl)
  have t_kit_bl_bool : PySem.W.kitOne K (TN.v K (.b "bool")) (TN.v K (.b "bool")) = some true := G.kit_of (c.factX 36 (f := fxKit (.b "bool") (.b "bool") true) rfl)
  have t_kit_int_bool : PySem.W.kitOne K (TN.v K (.b "int")) (TN.v K (.b "bool")) = some false := G.kit_of (c.factX 37 (f := fxKit (.b "int") (.b "bool") false) rfl)
  have t_kit_non_Ratio : PySem.W.kitOne K (TN.v K (.b "NoneType")) (TN.v K (.o "Ratio")) = some false := G.kit_of (c.factX 38 (f := fxKit (.b "NoneType") (.o "Ratio") false) rfl)
  have t_kit_bl_Ratio : PySem.W.kitOne K (TN.v K (.b "bool")) (TN.v K (.o "Ratio")) = some false := G.kit_of (c.factX 39 (f := fxKit (.b "bool") (.o "Ratio") false) rfl)
  have t_kit_int_Ratio : PySem.W.kitOne K (TN.v K (.b "int")) (TN.v K (.o "Ratio")) = some false := G.kit_of (c.factX 40 (f := fxKit (.b "int") (.o "Ratio") false) rfl)
  have t_kit_str_Ratio : PySem.W.kitOne K (TN.v K (.b "str")) (TN.v K (.o "Ratio")) = some false := G.kit_of (c.factX 41 (f := fxKit (.b "str") (.o "Ratio") false) rfl)
  have t_kit_lst_Ratio : PySem.W.kitOne K (TN.v K (.b "list")) (TN.v K (.o "Ratio")) = some false := G.kit_of (c.factX 42 (f := fxKit (.b "list") (.o "Ratio") false) rfl)
  have t_kit_tup_Ratio : PySem.W.kitOne K (TN.v K (.b "tuple")) (TN.v K (.o "Ratio")) = some false := G.kit_of (c.factX 43 (f := fxKit (.b "tuple") (.o "Ratio") false) rfl)
  have t_kit_dct_Ratio : PySem.W.kitOne K (TN.v K (.b "dict")) (TN.v K (.o "Ratio")) = some false := G.kit_of (c.factX 44 (f := fxKit (.b "dict") (.o "Ratio") false) rfl)
  have t_kit_Ratio_Ratio : PySem.W.kitOne K (TN.v K (.o "Ratio")) (TN.v K (.o "Ratio")) = some true := G.kit_of (c.factX 45 (f := fxKit (.o "Ratio") (.o "Ratio") true) rfl)
  have t_kit_non_list : PySem.W.kitOne K (TN.v K (.b "NoneType")) (TN.v K (.b "list")) = some false := G.kit_of (c.factX 46 (f := fxKit (.b "NoneType") (.b "list") false) rfl)
  have t_kit_bl_list : PySem.W.kitOne K (TN.v K (.b "bool")) (TN.v K (.b "list")) = some false := G.kit_of (c.factX 47 (f := fxKit (.b "bool") (.b "list") false) rfl)
  have t_kit_int_list : PySem.W.kitOne K (TN.v K (.b "int")) (TN.v K (.b "list")) = some false := G.kit_of (c.factX 48 (f := fxKit (.b "int") (.b "list") false) rfl)
  have t_kit_str_list : PySem.W.kitOne K (TN.v K (.b "str")) (TN.v K (.b "list")) = some false := G.kit_of (c.factX 49 (f := fxKit (.b "str") (.b "list") false) rfl)
  have t_kit_lst_list : PySem.W.kitOne K (TN.v K (.b "list")) (TN.v K (.b "list")) = some true := G.kit_of (c.factX 50 (f := fxKit (.b "list") (.b "list") true) rfl)
  have t_kit_tup_list : PySem.W.kitOne K (TN.v K (.b "tuple")) (TN.v K (.b "list")) = some false := G.kit_of (c.factX 51 (f := fxKit (.b "tuple") (.b "list") false) rfl)
  have t_kit_dct_list : PySem.W.kitOne K (TN.v K (.b "dict")) (TN.v K (.b "list")) = some false := G.kit_of (c.factX 52 (f := fxKit (.b "dict") (.b "list") false) rfl)
  have t_kit_Ratio_list : PySem.W.kitOne K (TN.v K (.o "Ratio")) (TN.v K (.b "list")) = some false := G.kit_of (c.factX 53 (f := fxKit (.o "Ratio") (.b "list") false) rfl)
  have t_kit_non_Nothing : PySem.W.kitOne K (TN.v K (.b "NoneType")) (TN.v K (.o "Nothing")) = some false := G.kit_of (c.factX 54 (f := fxKit (.b "NoneType") (.o "Nothing") false) rfl)
  have t_kit_bl_Nothing : PySem.W.kitOne K (TN.v K (.b "bool")) (TN.v K (.o "Nothing")) = some false := G.kit_of (c.factX 55 (f := fxKit (.b "bool") (.o "Nothing") false) rfl)
  have t_kit_int_Nothing : PySem.W.kitOne K (TN.v K (.b "int")) (TN.v K (.o "Nothing")) = some false := G.kit_of (c.factX 56 (f := fxKit (.b "int") (.o "Nothing") false) rfl)
  have t_kit_str_Nothing : PySem.W.kitOne K (TN.v K (.b "str")) (TN.v K (.o "Nothing")) = some false := G.kit_of (c.factX 57 (f := fxKit (.b "str") (.o "Nothing") false) rfl)
  have t_kit_lst_Nothing : PySem.W.kitOne K (TN.v K (.b "list")) (TN.v K (.o "Nothing")) = some false := G.kit_of (c.factX 58 (f := fxKit (.b "list") (.o "Nothing") false) rfl)
  have t_kit_tup_Nothing : PySem.W.kitOne K (TN.v K (.b "tuple")) (TN.v K (.o "Nothing")) = some false := G.kit_of (c.factX 59 (f := fxKit (.b "tuple") (.o "Nothing") false) rfl)
  have t_kit_dct_Nothing : PySem.W.kitOne K (TN.v K (.b "dict")) (TN.v K (.o "Nothing")) = some false := G.kit_of (c.factX 60 (f := fxKit (.b "dict") (.o "Nothing") false) rfl)
  have t_kit_Ratio_Nothing : PySem.W.kitOne K (TN.v K (.o "Ratio")) (TN.v K (.o "Nothing")) = some false := G.kit_of (c.factX 61 (f := fxKit (.o "Ratio") (.o "Nothing") false) rfl)
  have t_kit_Nothing_Nothing : PySem.W.kitOne K (TN.v K (.o "Nothing")) (TN.v K (.o "Nothing")) = some true := G.kit_of (c.factX 62 (f := fxKit (.o "Nothing") (.o "Nothing") true) rfl)
  have t_exC_BadText : ExcC K (He.ga K "BadText") := exC_of (c.factX 63 (f := fxExC "BadText") rfl)
  have t_kit_BadText_BadRatio : PySem.W.kitOne K (TN.v K (.o "BadText")) (TN.v K (.o "BadRatio")) = some false := G.kit_of (c.factX 64 (f := fxKit (.o "BadText") (.o "BadRatio") false) rfl)
  have t_kit_BadText_NoRatio : PySem.W.kitOne K (TN.v K (.o "BadText")) (TN.v K (.o "NoRatio")) = some false := G.kit_of (c.factX 65 (f := fxKit (.o "BadText") (.o "NoRatio") false) rfl)
  have t_kit_BadText_BadText : PySem.W.kitOne K (TN.v K (.o "BadText")) (TN.v K (.o "BadText")) = some true := G.kit_of (c.factX 66 (f := fxKit (.o "BadText") (.o "BadText") true) rfl)
  have t_kit_BadText_ValueError : PySem.W.kitOne K (TN.v K (.o "BadText")) (TN.v K (.b "ValueError")) = some true := G.kit_of (c.factX 67 (f := fxKit (.o "BadText") (.b "ValueError") true) rfl)
  have t_exm_BadText_WebError : PySem.W.exmOne K (.ref (He.ga K "BadText")) (.ref (He.ga K "WebError")) = some true := exm_of (c.factX 68 (f := fxExm "BadText" "WebError" true) rfl)
  have t_d__law_pen := c.def_ 0 (d := da__law_pen) rfl
  have t_k__law_pen : PySem.W.keepIn K (.ref (He.ga K "_law_pen")) = true := by obtain ⟨_, F⟩ := t_d__law_pen; exact F.kp
  have t_d__law_draw := c.def_ 1 (d := da__law_draw) rfl
  have t_k__law_draw : PySem.W.keepIn K (.ref (He.ga K "_law_draw")) = true := by obtain ⟨_, F⟩ := t_d__law_draw; exact F.kp
  have t_d__law_low := c.def_ 2 (d := da__law_low) rfl
  have t_k__law_low : PySem.W.keepIn K (.ref (He.ga K "_law_low")) = true := by obtain ⟨_, F⟩ := t_d__law_low; exact F.kp
  have t_d__law_pick := c.def_ 3 (d := da__law_pick) rfl
  have t_k__law_pick : PySem.W.keepIn K (.ref (He.ga K "_law_pick")) = true := by obtain ⟨_, F⟩ := t_d__law_pick; exact F.kp
  have t_d__law_fraction := c.def_ 4 (d := da__law_fraction) rfl
  have t_k__law_fraction : PySem.W.keepIn K (.ref (He.ga K "_law_fraction")) = true := by obtain ⟨_, F⟩ := t_d__law_fraction; exact F.kp
  have t_d__law_text := c.def_ 5 (d := da__law_text) rfl
  have t_k__law_text : PySem.W.keepIn K (.ref (He.ga K "_law_text")) = true := by obtain ⟨_, F⟩ := t_d__law_text; exact F.kp
  have t_d__law_drawn_text := c.def_ 6 (d := da__law_drawn_text) rfl
  have t_k__law_drawn_text : PySem.W.keepIn K (.ref (He.ga K "_law_drawn_text")) = true := by obtain ⟨_, F⟩ := t_d__law_drawn_text; exact F.kp
  have t_d__law_is_number := c.def_ 7 (d := da__law_is_number) rfl
  have t_k__law_is_number : PySem.W.keepIn K (.ref (He.ga K "_law_is_number")) = true := by obtain ⟨_, F⟩ := t_d__law_is_number; exact F.kp
  have t_d__law_begins := c.def_ 8 (d := da__law_begins) rfl
  have t_k__law_begins : PySem.W.keepIn K (.ref (He.ga K "_law_begins")) = true := by obtain ⟨_, F⟩ := t_d__law_begins; exact F.kp
  have t_d__law_is_right := c.def_ 9 (d := da__law_is_right) rfl
  have t_k__law_is_right : PySem.W.keepIn K (.ref (He.ga K "_law_is_right")) = true := by obtain ⟨_, F⟩ := t_d__law_is_right; exact F.kp
  have t_d__law_due := c.def_ 10 (d := da__law_due) rfl
  have t_k__law_due : PySem.W.keepIn K (.ref (He.ga K "_law_due")) = true := by obtain ⟨_, F⟩ := t_d__law_due; exact F.kp
  have t_d__law_told := c.def_ 11 (d := da__law_told) rfl
  have t_k__law_told : PySem.W.keepIn K (.ref (He.ga K "_law_told")) = true := by obtain ⟨_, F⟩ := t_d__law_told; exact F.kp
  have t_d__law_heard := c.def_ 12 (d := da__law_heard) rfl
  have t_k__law_heard : PySem.W.keepIn K (.ref (He.ga K "_law_heard")) = true := by obtain ⟨_, F⟩ := t_d__law_heard; exact F.kp
  have t_d_BadText___init__ := c.def_ 13 (d := da_BadText___init__) rfl
  have t_k_BadText___init__ : PySem.W.keepIn K (.ref (He.ma K (He.ga K "BadText") "__init__")) = true := by obtain ⟨_, F⟩ := t_d_BadText___init__; exact F.kp
  have t_d_need_endless := c.def_ 14 (d := da_need_endless) rfl
  have t_k_need_endless : PySem.W.keepIn K (.ref (He.ga K "need_endless")) = true := by obtain ⟨_, F⟩ := t_d_need_endless; exact F.kp
  have t_d_is_integer := c.def_ 15 (d := da_is_integer) rfl
  have t_k_is_integer : PySem.W.keepIn K (.ref (He.ga K "is_integer")) = true := by obtain ⟨_, F⟩ := t_d_is_integer; exact F.kp
  have t_d_common := c.def_ 16 (d := da_common) rfl
  have t_k_common : PySem.W.keepIn K (.ref (He.ga K "common")) = true := by obtain ⟨_, F⟩ := t_d_common; exact F.kp
  have t_d_Ratio___init__ := c.def_ 17 (d := da_Ratio___init__) rfl
  have t_k_Ratio___init__ : PySem.W.keepIn K (.ref (He.ma K (He.ga K "Ratio") "__init__")) = true := by obtain ⟨_, F⟩ := t_d_Ratio___init__; exact F.kp
  have t_d_Ratio_endless := c.def_ 18 (d := da_Ratio_endless) rfl
  have t_k_Ratio_endless : PySem.W.keepIn K (.ref (He5.wf K (He.ga K "Ratio") "staticmethod" "endless")) = true := by obtain ⟨_, F⟩ := t_d_Ratio_endless; exact F.kp
  have t_d_figures_end := c.def_ 19 (d := da_figures_end) rfl
  have t_k_figures_end : PySem.W.keepIn K (.ref (He.ga K "figures_end")) = true := by obtain ⟨_, F⟩ := t_d_figures_end; exact F.kp
  have t_d_top_end := c.def_ 20 (d := da_top_end) rfl
  have t_k_top_end : PySem.W.keepIn K (.ref (He.ga K "top_end")) = true := by obtain ⟨_, F⟩ := t_d_top_end; exact F.kp
  have t_d_need_bottom := c.def_ 21 (d := da_need_bottom) rfl
  have t_k_need_bottom : PySem.W.keepIn K (.ref (He.ga K "need_bottom")) = true := by obtain ⟨_, F⟩ := t_d_need_bottom; exact F.kp
  have t_d_Ratio_read := c.def_ 22 (d := da_Ratio_read) rfl
  have t_k_Ratio_read : PySem.W.keepIn K (.ref (He5.wf K (He.ga K "Ratio") "classmethod" "read")) = true := by obtain ⟨_, F⟩ := t_d_Ratio_read; exact F.kp
  have t_d__law_right := c.def_ 23 (d := da__law_right) rfl
  have t_k__law_right : PySem.W.keepIn K (.ref (He.ga K "_law_right")) = true := by obtain ⟨_, F⟩ := t_d__law_right; exact F.kp
  have t_d__law_spoilt := c.def_ 24 (d := da__law_spoilt) rfl
  have t_k__law_spoilt : PySem.W.keepIn K (.ref (He.ga K "_law_spoilt")) = true := by obtain ⟨_, F⟩ := t_d__law_spoilt; exact F.kp
  have t_d_Ratio___eq__ := c.def_ 25 (d := da_Ratio___eq__) rfl
  have t_k_Ratio___eq__ : PySem.W.keepIn K (.ref (He.ma K (He.ga K "Ratio") "__eq__")) = true := by obtain ⟨_, F⟩ := t_d_Ratio___eq__; exact F.kp
  have t_d_written := c.def_ 26 (d := da_written) rfl
  have t_k_written : PySem.W.keepIn K (.ref (He.ga K "written")) = true := by obtain ⟨_, F⟩ := t_d_written; exact F.kp
  have t_d_Ratio___str__ := c.def_ 27 (d := da_Ratio___str__) rfl
  have t_k_Ratio___str__ : PySem.W.keepIn K (.ref (He.ma K (He.ga K "Ratio") "__str__")) = true := by obtain ⟨_, F⟩ := t_d_Ratio___str__; exact F.kp
  have t_d__law_made := c.def_ 28 (d := da__law_made) rfl
  have t_k__law_made : PySem.W.keepIn K (.ref (He.ga K "_law_made")) = true := by obtain ⟨_, F⟩ := t_d__law_made; exact F.kp
  have t_d_law := c.def_ 29 (d := da_law) rfl
  have t_k_law : PySem.W.keepIn K (.ref (He.ga K "law")) = true := by obtain ⟨_, F⟩ := t_d_law; exact F.kp
  exact ⟨t_g__law_pen, t_g__law_drawn_text, t_g__law_is_right, t_g__law_right, t_g__law_draw, t_g__law_spoilt, t_g__law_fraction, t_g__law_made, t_g_Ratio, t_g__law_text, t_g__law_pick, t_g__law_heard, t_g__law_low, t_g__law_begins, t_g__law_is_number, t_g__law_due, t_g__law_told, t_g_WebError, t_g_BadText, t_g_NoRatio, t_g_BadRatio, t_g_need_endless, t_g_top_end, t_g_need_bottom, t_g_Nothing, t_g_is_integer, t_g_common, t_g_figures_end, t_g_written, t_n_range, t_n_str, t_n_list, t_n_abs, t_n_int, t_n_len, t_n_isinstance, t_n_ValueError, t_n_bool, t_nf_non, t_nf_bl, t_nf_int, t_nf_str, t_nf_lst, t_nf_tup, t_nf_dct, t_nf_Ratio, t_me_Ratio___eq__, t_ne_Ratio, t_me_Ratio___str__, t_cm_Ratio_read, t_mk_Ratio, t_tab_law, t_apart, t_tab__law_right, t_cls_Ratio, t_na_Ratio_bottom, t_na_Ratio_top, t_xf_BadText, t_no_BadText_at, t_exi_BadText, t_c_ENDLESS, t_sm_Ratio_endless, t_mk0_Nothing, t_c_FIGURES, t_cls_Nothing, t_i_Nothing, t_i_Ratio, t_kit_non_int, t_kit_bl_int, t_kit_int_int, t_kit_str_int, t_kit_lst_int, t_kit_tup_int, t_kit_dct_int, t_kit_Ratio_int, t_kit_non_str, t_kit_bl_str, t_kit_int_str, t_kit_str_str, t_kit_lst_str, t_kit_tup_str, t_kit_dct_str, t_kit_Ratio_str, t_kit_bl_bool, t_kit_int_bool, t_kit_non_Ratio, t_kit_bl_Ratio, t_kit_int_Ratio, t_kit_str_Ratio, t_kit_lst_Ratio, t_kit_tup_Ratio, t_kit_dct_Ratio, t_kit_Ratio_Ratio, t_kit_non_list, t_kit_bl_list, t_kit_int_list, t_kit_str_list, t_kit_lst_list, t_kit_tup_list, t_kit_dct_list, t_kit_Ratio_list, t_kit_non_Nothing, t_kit_bl_Nothing, t_kit_int_Nothing, t_kit_str_Nothing, t_kit_lst_Nothing, t_kit_tup_Nothing, t_kit_dct_Nothing, t_kit_Ratio_Nothing, t_kit_Nothing_Nothing, t_exC_BadText, t_kit_BadText_BadRatio, t_kit_BadText_NoRatio, t_kit_BadText_BadText, t_kit_BadText_ValueError, t_exm_BadText_WebError, t_d__law_pen, t_k__law_pen, t_d__law_draw, t_k__law_draw, t_d__law_low, t_k__law_low, t_d__law_pick, t_k__law_pick, t_d__law_fraction, t_k__law_fraction, t_d__law_text, t_k__law_text, t_d__law_drawn_text, t_k__law_drawn_text, t_d__law_is_number, t_k__law_is_number, t_d__law_begins, t_k__law_begins, t_d__law_is_right, t_k__law_is_right, t_d__law_due, t_k__law_due, t_d__law_told, t_k__law_told, t_d__law_heard, t_k__law_heard, t_d_BadText___init__, t_k_BadText___init__, t_d_need_endless, t_k_need_endless, t_d_is_integer, t_k_is_integer, t_d_common, t_k_common, t_d_Ratio___init__, t_k_Ratio___init__, t_d_Ratio_endless, t_k_Ratio_endless, t_d_figures_end, t_k_figures_end, t_d_top_end, t_k_top_end, t_d_need_bottom, t_k_need_bottom, t_d_Ratio_read, t_k_Ratio_read, t_d__law_right, t_k__law_right, t_d__law_spoilt, t_k__law_spoilt, t_d_Ratio___eq__, t_k_Ratio___eq__, t_d_written, t_k_written, t_d_Ratio___str__, t_k_Ratio___str__, t_d__law_made, t_k__law_made, t_d_law, t_k_law⟩
def loose : List PySem.Str := (["_wall", "__name__", "WebError", "BadRatio", "NoRatio", "BadText", "FIGURES", "ENDLESS", "is_integer", "common", "Nothing", "Ratio", "written", "all_ratios", "is_less", "added", "less_another", "multiplied", "divided", "whole_quotient", "rest_of", "need_endless", "figures_end", "top_end", "need_bottom"] : List PySem.Str) ++ (["_law_pen", "_law_draw", "_law_pick", "_law_low", "_law_text", "_law_is", "_law_made", "_law_fraction", "_law_heard", "_law_is_number", "_law_begins", "_law_is_right", "_law_due", "_law_told", "_law_drawn_text", "_law_spoilt", "_law_right"] : List PySem.Str)
end K06

namespace K06
open PySem PySem.Spec PyProof.Rows L2 G
abbrev RR : PySem.W.OpenRow := PySem.W.OpenLaw.row PySem.Challenge.rw_sixasone_k06_texts_of_ratios
abbrev hk : PySem.W.Hook := hookF 6 fa fx fn
def ob (s : PySem.W.SharedT) : He.AlD := obsFG 6 fa fx fn (HandSHeadRun.getT s)
theorem ob_eq (s : PySem.W.SharedT) : ob s = hk.obs s.abs := obsFG_eq (HandSHeadRun.getT_eq s)
theorem run (w : World) : HandSHeadRun.RunEq RR (PySem.W.view RR.prog [43, 44]) hk ob 60000 loose w := by
  intro os
  kernel_rfl
theorem whole (good : ∀ zs : List Int, zs.length ≤ 63 → ∃ M, f_law [.lck (zs.map D.int)] [] = .ok (.bl true) M) : PySem.Challenge.rw_sixasone_k06_texts_of_ratios.Holds := by
  w_on; o_law
  refine HandSHeadRun.head_any (r := PySem.W.OpenLaw.row PySem.Challenge.rw_sixasone_k06_texts_of_ratios) (q := PySem.W.view (PySem.W.OpenLaw.row PySem.Challenge.rw_sixasone_k06_texts_of_ratios).prog [43, 44]) (H := hk) (ob := ob) (M := 60000) (loose := loose) (d := HandSHeadRun.topDef (PySem.W.OpenLaw.row PySem.Challenge.rw_sixasone_k06_texts_of_ratios).prog 44) (kwd := []) ob_eq
    (by kernel_rfl) (fun s => by kernel_rfl) run (by kernel_rfl) (by kernel_rfl) (by kernel_rfl) (by rfl) (by first | assumption | decide +kernel) (by decide +kernel) ⟨rfl, rfl, rfl, rfl, rfl, by decide +kernel⟩ ?hw ?hc
  case hw => w_witness2
  case hc =>
    refine walk_gt (l := PySem.Challenge.rw_sixasone_k06_texts_of_ratios) (n := 63) (k := 9) (x := "_law_script") rfl (by decide) (by kernel_rfl) ⟨rfl, by decide, by decide⟩ ?F
    intro w mg mb fa h lo mean Y GT hmg0
    obtain ⟨K, KX, c⟩ := Y
    have G := GT.g
    have hmg : mg ("law" : PySem.Str) = some (.ref fa) := by
      have e : (HandSHeadRun.topDef (PySem.W.OpenLaw.row PySem.Challenge.rw_sixasone_k06_texts_of_ratios).prog 44).name = ("law" : PySem.Str) := by kernel_rfl
      rw [← e]
      exact hmg0
    have T := tx_of KX G c
    have e := hmg.symm.trans (He.glo_ok KX G (c.fact 47 (f := .glo "law") rfl))
    cases e
    obtain ⟨fd, F⟩ := T.d_law
    have tb0 := PySem.W.tab_of (d := HandSHeadRun.topDef (PySem.W.OpenLaw.row PySem.Challenge.rw_sixasone_k06_texts_of_ratios).prog 44) (x := "law") GT KX (by kernel_rfl) T.tab_law.tab
    have tb1 := PySem.W.tab_of (d := HandSHeadRun.topDef (PySem.W.OpenLaw.row PySem.Challenge.rw_sixasone_k06_texts_of_ratios).prog 43) (x := "_law_right") GT KX (by kernel_rfl) T.tab__law_right.tab
    have c1 : ∀ p ∈ csOf K lams, h.get? p.2 = some { cls := .none, data := .fields #[] } := fun p hp => by
      simp only [csOf, lams, List.map_cons, List.map_nil, List.mem_cons, List.not_mem_nil, or_false] at hp
      rcases hp with rfl | rfl
      · exact tb0.2
      · exact tb1.2
    have c2 : ∀ p ∈ csOf K lams, K.lookup p.2 = none := fun p hp => by
      simp only [csOf, lams, List.map_cons, List.map_nil, List.mem_cons, List.not_mem_nil, or_false] at hp
      rcases hp with rfl | rfl
      · exact T.tab_law.nk
      · exact T.tab__law_right.nk
    have c3 : ∀ p ∈ csOf K lams, PySem.W.CodeHd h p.1 p.2 := fun p hp => by
      simp only [csOf, lams, List.map_cons, List.map_nil, List.mem_cons, List.not_mem_nil, or_false] at hp
      rcases hp with rfl | rfl
      · exact tb0.1
      · exact tb1.1
    exact ⟨WW K, csOf K lams, fd, f_law, KX, c1, c2, c3, tb_cs, fun s v => F.bindsA (ps := ["_law_script"]) (fun _ _ _ _ _ _ us hl => match us, hl with | [_], _ => rfl) s [v] rfl, good, fun base _ _ B => fg_law T B F⟩
end K06

namespace K06
open PySem L2 G
abbrev rat (a b : Int) : D := .ins 5 [.int a, .int b]
theorem isint (i : Int) (M : Stor) : f_is_integer [.int i] M = .ok (.bl true) M := rfl
/-- the greatest common divisor, as the loop reckons it -/
theorem gcd_loop (t : GT') (b : GS') (x0 x1 : Option D) (M : Stor) (ht : ∀ x y : Int, t [x0, x1, some (.int x), some (.int y)] M = .ok (!decide (y = 0)) M)
    (hb : ∀ x y : Int, y ≠ 0 → b [x0, x1, some (.int x), some (.int y)] M = .nx [x0, x1, some (.int y), some (.int (x.fmod y))] M) :
    ∀ (n : Nat) (x y : Nat), y < n → gWhile t b n [x0, x1, some (.int x), some (.int y)] M = .nx [x0, x1, some (.int (Nat.gcd x y)), some (.int 0)] M := by
  intro n
  induction n with
  | zero => intro x y h; omega
  | succ n ih =>
    intro x y h
    rw [while_step, ht]
    by_cases hy : y = 0
    · subst hy
      simp
    · have hy' : ((y : Nat) : Int) ≠ 0 := by omega
      simp only [R.bindS_ok, hy', decide_false, Bool.not_false, if_true]
      rw [hb _ _ hy']
      have e : ((x : Nat) : Int).fmod (y : Nat) = ((x % y : Nat) : Int) := by
        rw [Int.fmod_eq_emod_of_nonneg _ (by omega)]; rfl
      have hlt : x % y < y := Nat.mod_lt _ (by omega)
      simp only [e]
      rw [ih y (x % y) (by omega)]
      rw [Nat.gcd_comm x y, Nat.gcd_rec y x, Nat.gcd_comm (x % y) y]
theorem common_ok (a : Int) (b : Nat) (M : Stor) (hb : b < 2 ^ 90000) : f_common [.int a, .int b] M = .ok (.int (Nat.gcd a.natAbs b)) M := by
  have h := gcd_loop (gTr truD (gBin dNe (gVar 3) (gC (.int 0)))) (gPar2 2 3 (G.gCons (gVar 3) (G.gCons (gBin dModI (gVar 2) (gVar 3)) G.gNil))) (some (.int a)) (some (.int b)) M (fun x y => rfl) (fun x y hy => by
    simp only [gFn, gSeq, gSkip, gRet, gRetN, gExpr, gSet, gIf, gAug, gAsg, gPar2, gPar3, gVar, gC, gBin, gUn, gTr, gAnd, gOr, gNot, gAndV, gOrV, gNotV, gIfE, gCall, G.gCons, G.gNil, G.gTup, G.gLst, gLstM, gSl, goSome, goNone, R.bind_ok, R.bind_ex, R.bind_no, R.bindS_ok, R.bindS_ex, R.bindS_no, outS_nx, outS_rt, outS_ex, orR_ok, orR_ex, orR_no, ggName, ggSub, List.getElem?_cons_zero, List.getElem?_cons_succ, List.set_cons_zero, List.set_cons_succ, List.map_cons, List.map_nil, List.length_cons, List.length_nil, List.replicate, List.append_nil, List.nil_append, List.cons_append, Nat.reduceAdd, Nat.reduceSub, Nat.reduceLeDiff, Nat.reduceLT, if_true, if_false, not_false_eq_true, Bool.false_eq_true, Bool.true_eq_false, Bool.not_true, Bool.not_false, decide_true, decide_false, decide_eq_true_eq, reduceIte, reduceCtorEq, eAdd, eAddI, eSub, eLt, eLe, eGt, eGe, eEq, eNe, eEqS, eNeS, eTru, eNeg, eAbs, eInt, eIntB, eLenL, eLenT, eMod hy]) fuel a.natAbs b (Nat.lt_of_lt_of_le hb (fuel_ge (Nat.pow_le_pow_right (by decide) (by decide))))
  simp only [f_common, b_common, gFn, gSeq, gSkip, gRet, gRetN, gExpr, gSet, gIf, gAug, gAsg, gPar2, gPar3, gVar, gC, gBin, gUn, gTr, gAnd, gOr, gNot, gAndV, gOrV, gNotV, gIfE, gCall, G.gCons, G.gNil, G.gTup, G.gLst, gLstM, gSl, goSome, goNone, R.bind_ok, R.bind_ex, R.bind_no, R.bindS_ok, R.bindS_ex, R.bindS_no, outS_nx, outS_rt, outS_ex, orR_ok, orR_ex, orR_no, ggName, ggSub, List.getElem?_cons_zero, List.getElem?_cons_succ, List.set_cons_zero, List.set_cons_succ, List.map_cons, List.map_nil, List.length_cons, List.length_nil, List.replicate, List.append_nil, List.nil_append, List.cons_append, Nat.reduceAdd, Nat.reduceSub, Nat.reduceLeDiff, Nat.reduceLT, if_true, if_false, not_false_eq_true, Bool.false_eq_true, Bool.true_eq_false, Bool.not_true, Bool.not_false, decide_true, decide_false, decide_eq_true_eq, reduceIte, reduceCtorEq, eAdd, eAddI, eSub, eLt, eLe, eGt, eGe, eEq, eNe, eEqS, eNeS, eTru, eNeg, eAbs, eInt, eIntB, eLenL, eLenT, h]
/-- in lowest terms -/
def lowP (a : Int) (b : Nat) : Int × Int := (a / (Nat.gcd a.natAbs b : Nat), (b : Int) / (Nat.gcd a.natAbs b : Nat))
def mkR (a : Int) (b : Nat) : D := rat (lowP a b).1 (lowP a b).2
theorem isNo (i : Int) (M : Stor) : fIsi isOk isTab [.int i, .cls 4] M = .ok (.bl false) M := rfl
theorem set_self {M : Stor} {k : Nat} {m m' : MO} (h : M[k]? = some m) : (M.set k m')[k]? = some m' := by
  rw [List.getElem?_set_self]
  exact (List.getElem?_eq_some_iff.mp h).1
theorem ft_top5 : ft_top 5 = some 0 := rfl
theorem ft_bot5 : ft_bottom 5 = some 1 := rfl
theorem setFl0 (d : D) : setFl [] 0 d = some [d] := rfl
theorem setFl1 (x d : D) : setFl [x] 1 d = some [x, d] := rfl
theorem fdiv_nat (a : Int) (n : Nat) : a.fdiv n = a / n := Int.fdiv_eq_ediv_of_nonneg a (by omega)
theorem gcd_pos (a : Int) {b : Nat} (h : 0 < b) : 0 < Nat.gcd a.natAbs b := Nat.gcd_pos_of_pos_right _ h
theorem gcd_div (a : Int) {b : Nat} (h : 0 < b) {n : Nat} (hb : b < 2 ^ n) (hn : n ≤ 9000) : divOk ((Nat.gcd a.natAbs b : Nat) : Int) = true :=
  divOk_of (n := n) (by have := gcd_pos a h; omega) (Nat.lt_of_le_of_lt (Nat.gcd_le_right _ h) hb) hn
theorem init_ok (a : Int) (b : Nat) (k : Nat) (M : Stor) (hb0 : 0 < b) (hb : b < 2 ^ 8000) (hk : M[k]? = some (.ins 5 [])) : f_Ratio___init__ [.ref k, .int a, .int b] M = .ok .non (M.set k (.ins 5 [.int (lowP a b).1, .int (lowP a b).2])) := by
  have hc := common_ok a b M (Nat.lt_trans hb (Nat.pow_lt_pow_right (by decide) (by decide)))
  have h1 : ¬ ((b : Nat) : Int) < 1 := by omega
  have hd := gcd_div a hb0 hb (by decide)
  simp only [f_Ratio___init__, b_Ratio___init__, gFn, gSeq, gSkip, gRet, gRetN, gExpr, gSet, gIf, gAug, gAsg, gPar2, gPar3, gVar, gC, gBin, gUn, gTr, gAnd, gOr, gNot, gAndV, gOrV, gNotV, gIfE, gCall, G.gCons, G.gNil, G.gTup, G.gLst, gLstM, gSl, goSome, goNone, R.bind_ok, R.bind_ex, R.bind_no, R.bindS_ok, R.bindS_ex, R.bindS_no, outS_nx, outS_rt, outS_ex, orR_ok, orR_ex, orR_no, ggName, ggSub, List.getElem?_cons_zero, List.getElem?_cons_succ, List.set_cons_zero, List.set_cons_succ, List.map_cons, List.map_nil, List.length_cons, List.length_nil, List.replicate, List.append_nil, List.nil_append, List.cons_append, Nat.reduceAdd, Nat.reduceSub, Nat.reduceLeDiff, Nat.reduceLT, if_true, if_false, not_false_eq_true, Bool.false_eq_true, Bool.true_eq_false, Bool.not_true, Bool.not_false, decide_true, decide_false, decide_eq_true_eq, reduceIte, reduceCtorEq, eAdd, eAddI, eSub, eLt, eLe, eGt, eGe, eEq, eNe, eEqS, eNeS, eTru, eNeg, eAbs, eInt, eIntB, eLenL, eLenT, isint, isNo, h1, hc, gSetF, eDiv hd, hk, ft_top5, setFl0, set_self hk, ft_bot5, setFl1, List.set_set, fdiv_nat, lowP]
theorem make_ok (a : Int) (b : Nat) (M : Stor) (hb0 : 0 < b) (hb : b < 2 ^ 8000) : gMake 5 [] f_Ratio___init__ [.int a, .int b] M = .ok (mkR a b) M := by
  have hk : (M ++ [MO.ins 5 []])[M.length]? = some (.ins 5 []) := by simp
  have h := init_ok a b M.length (M ++ [.ins 5 []]) hb0 hb hk
  simp only [gMake, gMakeM, List.append_nil, h, R.bind_ok, set_last]
  exact frz_insF rfl
theorem make1_ok (a : Int) (M : Stor) : gMake 5 [.int 1] f_Ratio___init__ [.int a] M = .ok (mkR a 1) M := by
  have hk : (M ++ [MO.ins 5 []])[M.length]? = some (.ins 5 []) := by simp
  have h := init_ok a 1 M.length (M ++ [.ins 5 []]) (by decide) (by decide) hk
  simp only [gMake, gMakeM, List.cons_append, List.nil_append]
  rw [show ((1 : Int)) = ((1 : Nat) : Int) from rfl, h]
  simp only [R.bind_ok, set_last]
  exact frz_insF rfl
theorem fTop (a b : Int) (M : Stor) : dFld ft_top (rat a b) M = .ok (.int a) M := rfl
theorem fBot (a b : Int) (M : Stor) : dFld ft_bottom (rat a b) M = .ok (.int b) M := rfl
/-- small numbers -/
abbrev Sm (a : Int) : Prop := a.natAbs < 2 ^ 1000
theorem mo {a b : Int} (ha : Sm a) (hb : Sm b) : mulOk a b = true := mulOk_of ha hb (by decide)
theorem prod_lt {b d : Nat} (hb : b < 2 ^ 1000) (hd : d < 2 ^ 1000) : b * d < 2 ^ 8000 := by
  have h1 : b * d < 2 ^ 1000 * 2 ^ 1000 := Nat.mul_lt_mul'' hb hd
  have h2 : (2 : Nat) ^ 1000 * 2 ^ 1000 = 2 ^ 2000 := by rw [← Nat.pow_add]
  have h3 : (2 : Nat) ^ 2000 ≤ 2 ^ 8000 := Nat.pow_le_pow_right (by decide) (by decide)
  omega
theorem ix_ref {M : Stor} {k : Nat} {l : List D} (h : M[k]? = some (.lst l)) (i : Int) : dIx (.ref k) (.int i) M = (match L2.atI l i with | some d => .ok d M | none => .no) := by
  unfold dIx seqOf lstOf; simp only [h]; try rfl
theorem at3_0 (a b c : D) : L2.atI [a, b, c] 0 = some a := rfl
theorem at3_1 (a b c : D) : L2.atI [a, b, c] 1 = some b := rfl
theorem at3_2 (a b c : D) : L2.atI [a, b, c] 2 = some c := rfl
theorem ixN3_1 : L2.ixN 3 1 = some 1 := rfl
theorem ixN3_2 : L2.ixN 3 2 = some 2 := rfl
theorem eqvAll_nil (l : List PyData) : PyData.eqvAll l [] = l.isEmpty := by cases l <;> simp [PyData.eqvAll]
theorem toPy_ints : ∀ zs : List Int, toPyL (zs.map D.int) = some (zs.map PyData.int)
  | [] => by simp [toPyL]
  | z :: zs => by simp only [List.map_cons, toPyL, toPy, toPy_ints zs]
theorem lay_ints : ∀ zs : List Int, PyData.canLayAll0 (zs.map PyData.int) = true
  | [] => by simp [PyData.canLayAll0]
  | z :: zs => by simp [PyData.canLayAll0, PyData.canLay0, lay_ints zs]
theorem dep_ints : ∀ zs : List Int, PyData.depthAll (zs.map PyData.int) = 0
  | [] => by simp [PyData.depthAll]
  | z :: zs => by simp [PyData.depthAll, PyData.depth, dep_ints zs]
theorem ne_empty (zs : List Int) (M : Stor) : dNe (.lst (zs.map D.int)) (.lst []) M = .ok (.bl (!zs.isEmpty)) M := by
  have s1 : SeqAt.shaped (.list (zs.map PyData.int)) = true := by simp [SeqAt.shaped, PyData.canLay0, lay_ints, PyData.depth, dep_ints]
  have s2 : SeqAt.shaped (.list []) = true := by simp [SeqAt.shaped, PyData.canLay0, PyData.canLayAll0, PyData.depth, PyData.depthAll]
  have e : dNeD (.lst (zs.map D.int)) (.lst []) M = .ok (.bl (!zs.isEmpty)) M := by
    unfold dNeD topPy
    simp only [toPy, toPy_ints, toPyL, Option.map_some, s1, s2, and_self, if_true, PyData.eqv, eqvAll_nil, List.isEmpty_map]
  show orR (dNeI (.lst (zs.map D.int)) (.lst []) M) (orR (dNeS (.lst (zs.map D.int)) (.lst []) M) (dNeD (.lst (zs.map D.int)) (.lst []) M)) = _
  rw [e]; rfl
/-- the pen: cells, the next index, what is left of a great cell -/
def Pen (M : Stor) (k : Nat) (zs : List Int) (at_ : Nat) : Prop := ∃ great : Int, M[k]? = some (.lst [.lst (zs.map D.int), .int at_, .int great])
theorem fmod_lt (a : Int) {m : Int} (h : 0 < m) : 0 ≤ a.fmod m ∧ a.fmod m < m := by
  rw [Int.fmod_eq_emod_of_nonneg a (by omega)]
  exact ⟨Int.emod_nonneg _ (by omega), Int.emod_lt_of_pos _ h⟩
theorem len_ints (zs : List Int) : ((zs.map D.int).length : Int) = (zs.length : Int) := by simp
theorem at_ints {zs : List Int} {i : Int} (h0 : 0 ≤ i) (h1 : i < zs.length) : ∃ z, L2.atI (zs.map D.int) i = some (.int z) := by
  refine ⟨zs[i.toNat]'(by omega), ?_⟩
  unfold L2.atI L2.ixN
  rw [if_pos h0, if_pos (by simpa using h1)]
  simp only [Option.bind_some, List.getElem?_map]
  rw [List.getElem?_eq_getElem (by omega)]; rfl
theorem ix_lst {M : Stor} {l : List D} (i : Int) : dIx (.lst l) (.int i) M = (match L2.atI l i with | some d => .ok d M | none => .no) := rfl
theorem draw_ok {M : Stor} {k : Nat} {zs : List Int} {at_ : Nat} {many : Int} (h : Pen M k zs at_) (ha : at_ ≤ 100000) (hm0 : 0 < many) (hm : many < 2 ^ 60) :
    ∃ r at' M', f__law_draw [.ref k, .int many] M = .ok (.int r) M' ∧ 0 ≤ r ∧ r < many ∧ at' ≤ at_ + 1 ∧ Pen M' k zs at' ∧ (∃ m, M' = M.set k m) := by
  obtain ⟨great, h⟩ := h
  have dm : divOk many = true := divOk_of (n := 61) (by omega) (by omega) (by decide)
  have mm : many ≠ 0 := by omega
  by_cases hg : 0 < great
  · refine ⟨great.fmod many, at_, _, ?_, (fmod_lt great hm0).1, (fmod_lt great hm0).2, by omega, ⟨great.fdiv many, set_self h⟩, ⟨_, rfl⟩⟩
    simp only [f__law_draw, b__law_draw, gFn, gSeq, gSkip, gRet, gRetN, gExpr, gSet, gIf, gAug, gAsg, gPar2, gPar3, gVar, gC, gBin, gUn, gTr, gAnd, gOr, gNot, gAndV, gOrV, gNotV, gIfE, gCall, G.gCons, G.gNil, G.gTup, G.gLst, gLstM, gSl, goSome, goNone, R.bind_ok, R.bind_ex, R.bind_no, R.bindS_ok, R.bindS_ex, R.bindS_no, outS_nx, outS_rt, outS_ex, orR_ok, orR_ex, orR_no, ggName, ggSub, List.getElem?_cons_zero, List.getElem?_cons_succ, List.set_cons_zero, List.set_cons_succ, List.map_cons, List.map_nil, List.length_cons, List.length_nil, List.replicate, List.append_nil, List.nil_append, List.cons_append, Nat.reduceAdd, Nat.reduceSub, Nat.reduceLeDiff, Nat.reduceLT, if_true, if_false, not_false_eq_true, Bool.false_eq_true, Bool.true_eq_false, Bool.not_true, Bool.not_false, decide_true, decide_false, decide_eq_true_eq, reduceIte, reduceCtorEq, eAdd, eAddI, eSub, eLt, eLe, eGt, eGe, eEq, eNe, eEqS, eNeS, eTru, eNeg, eAbs, eInt, eIntB, eLenL, eLenT, ix_ref h, at3_2, eMod mm, eDiv dm, hg, h, ixN3_2]
  · have hg' : ¬ (0 : Int) < great := hg
    have h1 := set_self (m' := .lst [.lst (zs.map D.int), .int ((at_ : Int) + 1), .int great]) h
    have m1 : mulOk 31277 (at_ : Int) = true := mulOk_left (by decide)
    have m2 : mulOk 50243 (at_ : Int) = true := mulOk_left (by decide)
    have m3 : mulOk 2 (at_ : Int) = true := mulOk_left (by decide)
    have m4 : mulOk 40237 (at_ : Int) = true := mulOk_left (by decide)
    have m5 : mulOk (40237 * (at_ : Int)) (at_ : Int) = true := mulOk_right (by omega)
    have p0 : powOk 10 18 = true := by decide
    have d32 : divOk 32 = true := by decide
    have n1 : (2147483563 : Int) ≠ 0 := by decide
    have n2 : (2147483587 : Int) ≠ 0 := by decide
    have n3 : (2147483629 : Int) ≠ 0 := by decide
    -- the mixed number
    have fin : ∀ (cell : Int), ∃ r : Int, (0 ≤ r ∧ r < many) ∧ ∀ (Γ : Gam) (M1 : Stor), Γ = [some (.ref k), some (.int many), none, some (.int at_), some (.int cell), none, none] →
        (gSeq (gSet 6 (gBin dModI (gCall fInt (G.gCons (gBin dPowI (gBin dAdd (gBin dAdd (gBin dModI (gCall fInt (G.gCons (gVar 4) G.gNil)) (gC (.int 2147483563))) (gBin dMul (gC (.int 50243)) (gVar 3))) (gC (.int 103))) (gC (.int 5))) G.gNil)) (gC (.int 2147483587))))
        (gSeq (gSet 6 (gBin dModI (gCall fInt (G.gCons (gBin dPowI (gBin dAdd (gBin dAdd (gBin dMul (gVar 6) (gBin dAdd (gBin dMul (gC (.int 2)) (gVar 3)) (gC (.int 95)))) (gBin dMul (gBin dMul (gC (.int 40237)) (gVar 3)) (gVar 3))) (gC (.int 35))) (gC (.int 3))) G.gNil)) (gC (.int 2147483629))))
        (gRet (gBin dModI (gCall fInt (G.gCons (gBin dDivI (gVar 6) (gC (.int 32))) G.gNil)) (gVar 1))))) Γ M1 = .rt (.int r) M1 := by
      intro cell
      have b1 := fmod_lt cell (m := 2147483563) (by decide)
      have q1 : powOk (cell.fmod 2147483563 + 50243 * (at_ : Int) + 103) 5 = true := by
        simp only [powOk, Bool.and_eq_true, decide_eq_true_eq]; refine ⟨⟨by decide, by decide⟩, ?_⟩; omega
      generalize hx : (cell.fmod 2147483563 + 50243 * (at_ : Int) + 103) ^ (5 : Int).toNat = x1
      have b2 := fmod_lt x1 (m := 2147483587) (by decide)
      have m6 : mulOk (x1.fmod 2147483587) (2 * (at_ : Int) + 95) = true := mulOk_left (by omega)
      have q2 : powOk (x1.fmod 2147483587 * (2 * (at_ : Int) + 95) + 40237 * (at_ : Int) * (at_ : Int) + 35) 3 = true := by
        simp only [powOk, Bool.and_eq_true, decide_eq_true_eq]; refine ⟨⟨by decide, by decide⟩, ?_⟩
        have z1 : 0 ≤ x1.fmod 2147483587 * (2 * (at_ : Int) + 95) := Int.mul_nonneg b2.1 (by omega)
        have z2 : x1.fmod 2147483587 * (2 * (at_ : Int) + 95) ≤ 2147483587 * 200095 := Int.mul_le_mul (by omega) (by omega) (by omega) (by decide)
        have z3 : 0 ≤ 40237 * (at_ : Int) * (at_ : Int) := Int.mul_nonneg (by omega) (by omega)
        have z4 : 40237 * (at_ : Int) * (at_ : Int) ≤ 40237 * 100000 * 100000 := Int.mul_le_mul (by omega) (by omega) (by omega) (by decide)
        omega
      generalize hy : (x1.fmod 2147483587 * (2 * (at_ : Int) + 95) + 40237 * (at_ : Int) * (at_ : Int) + 35) ^ (3 : Int).toNat = x2
      refine ⟨((x2.fmod 2147483629).fdiv 32).fmod many, fmod_lt _ hm0, fun Γ M1 e => ?_⟩
      subst e
      simp only [gFn, gSeq, gSkip, gRet, gRetN, gExpr, gSet, gIf, gAug, gAsg, gPar2, gPar3, gVar, gC, gBin, gUn, gTr, gAnd, gOr, gNot, gAndV, gOrV, gNotV, gIfE, gCall, G.gCons, G.gNil, G.gTup, G.gLst, gLstM, gSl, goSome, goNone, R.bind_ok, R.bind_ex, R.bind_no, R.bindS_ok, R.bindS_ex, R.bindS_no, outS_nx, outS_rt, outS_ex, orR_ok, orR_ex, orR_no, ggName, ggSub, List.getElem?_cons_zero, List.getElem?_cons_succ, List.set_cons_zero, List.set_cons_succ, List.map_cons, List.map_nil, List.length_cons, List.length_nil, List.replicate, List.append_nil, List.nil_append, List.cons_append, Nat.reduceAdd, Nat.reduceSub, Nat.reduceLeDiff, Nat.reduceLT, if_true, if_false, not_false_eq_true, Bool.false_eq_true, Bool.true_eq_false, Bool.not_true, Bool.not_false, decide_true, decide_false, decide_eq_true_eq, reduceIte, reduceCtorEq, eAdd, eAddI, eSub, eLt, eLe, eGt, eGe, eEq, eNe, eEqS, eNeS, eTru, eNeg, eAbs, eInt, eIntB, eLenL, eLenT, eMod mm, eDiv d32, eMod n1, eMod n2, eMod n3, eMul m2, eMul m3, eMul m4, eMul m5, ePow q1, hx, eMul m6, ePow q2, hy]
    -- the cell
    have cells : ∃ cell : Int, ∀ rest : GS', gSeq (gSet 4 (gBin dAdd (gBin dMul (gC (.int 31277)) (gVar 3)) (gC (.int 443))))
        (gSeq (gIf (gTr truD (gBin dNe (gBin dIx (gVar 0) (gC (.int 0))) (G.gLst G.gNil))) (gSet 4 (gBin dIx (gBin dIx (gVar 0) (gC (.int 0))) (gBin dModI (gCall fInt (G.gCons (gVar 3) G.gNil)) (gCall fLen (G.gCons (gBin dIx (gVar 0) (gC (.int 0))) G.gNil))))) gSkip) rest)
        [some (.ref k), some (.int many), none, some (.int at_), none, none, none] (M.set k (.lst [.lst (zs.map D.int), .int ((at_ : Int) + 1), .int great])) =
        rest [some (.ref k), some (.int many), none, some (.int at_), some (.int cell), none, none] (M.set k (.lst [.lst (zs.map D.int), .int ((at_ : Int) + 1), .int great])) := by
      by_cases hz : zs = []
      · have he : zs.isEmpty = true := by simp [hz]
        refine ⟨31277 * (at_ : Int) + 443, fun rest => ?_⟩
        rw [seq_nx (Γ1 := [some (.ref k), some (.int many), none, some (.int at_), some (.int (31277 * (at_ : Int) + 443)), none, none]) (by simp only [gFn, gSeq, gSkip, gRet, gRetN, gExpr, gSet, gIf, gAug, gAsg, gPar2, gPar3, gVar, gC, gBin, gUn, gTr, gAnd, gOr, gNot, gAndV, gOrV, gNotV, gIfE, gCall, G.gCons, G.gNil, G.gTup, G.gLst, gLstM, gSl, goSome, goNone, R.bind_ok, R.bind_ex, R.bind_no, R.bindS_ok, R.bindS_ex, R.bindS_no, outS_nx, outS_rt, outS_ex, orR_ok, orR_ex, orR_no, ggName, ggSub, List.getElem?_cons_zero, List.getElem?_cons_succ, List.set_cons_zero, List.set_cons_succ, List.map_cons, List.map_nil, List.length_cons, List.length_nil, List.replicate, List.append_nil, List.nil_append, List.cons_append, Nat.reduceAdd, Nat.reduceSub, Nat.reduceLeDiff, Nat.reduceLT, if_true, if_false, not_false_eq_true, Bool.false_eq_true, Bool.true_eq_false, Bool.not_true, Bool.not_false, decide_true, decide_false, decide_eq_true_eq, reduceIte, reduceCtorEq, eAdd, eAddI, eSub, eLt, eLe, eGt, eGe, eEq, eNe, eEqS, eNeS, eTru, eNeg, eAbs, eInt, eIntB, eLenL, eLenT, eMul m1] <;> rfl)]
        rw [seq_nx (by rw [if_f (by simp only [gFn, gSeq, gSkip, gRet, gRetN, gExpr, gSet, gIf, gAug, gAsg, gPar2, gPar3, gVar, gC, gBin, gUn, gTr, gAnd, gOr, gNot, gAndV, gOrV, gNotV, gIfE, gCall, G.gCons, G.gNil, G.gTup, G.gLst, gLstM, gSl, goSome, goNone, R.bind_ok, R.bind_ex, R.bind_no, R.bindS_ok, R.bindS_ex, R.bindS_no, outS_nx, outS_rt, outS_ex, orR_ok, orR_ex, orR_no, ggName, ggSub, List.getElem?_cons_zero, List.getElem?_cons_succ, List.set_cons_zero, List.set_cons_succ, List.map_cons, List.map_nil, List.length_cons, List.length_nil, List.replicate, List.append_nil, List.nil_append, List.cons_append, Nat.reduceAdd, Nat.reduceSub, Nat.reduceLeDiff, Nat.reduceLT, if_true, if_false, not_false_eq_true, Bool.false_eq_true, Bool.true_eq_false, Bool.not_true, Bool.not_false, decide_true, decide_false, decide_eq_true_eq, reduceIte, reduceCtorEq, eAdd, eAddI, eSub, eLt, eLe, eGt, eGe, eEq, eNe, eEqS, eNeS, eTru, eNeg, eAbs, eInt, eIntB, eLenL, eLenT, ix_ref h1, at3_0, ne_empty, he] <;> rfl)]; rfl)]
      · have hl : 0 < zs.length := List.length_pos_iff.mpr hz
        have he : zs.isEmpty = false := by simpa using hz
        have hl' : ((zs.length : Nat) : Int) ≠ 0 := by omega
        obtain ⟨z, ez⟩ := at_ints (zs := zs) (fmod_lt (at_ : Int) (m := zs.length) (by omega)).1 (fmod_lt (at_ : Int) (m := zs.length) (by omega)).2
        refine ⟨z, fun rest => ?_⟩
        rw [seq_nx (Γ1 := [some (.ref k), some (.int many), none, some (.int at_), some (.int (31277 * (at_ : Int) + 443)), none, none]) (by simp only [gFn, gSeq, gSkip, gRet, gRetN, gExpr, gSet, gIf, gAug, gAsg, gPar2, gPar3, gVar, gC, gBin, gUn, gTr, gAnd, gOr, gNot, gAndV, gOrV, gNotV, gIfE, gCall, G.gCons, G.gNil, G.gTup, G.gLst, gLstM, gSl, goSome, goNone, R.bind_ok, R.bind_ex, R.bind_no, R.bindS_ok, R.bindS_ex, R.bindS_no, outS_nx, outS_rt, outS_ex, orR_ok, orR_ex, orR_no, ggName, ggSub, List.getElem?_cons_zero, List.getElem?_cons_succ, List.set_cons_zero, List.set_cons_succ, List.map_cons, List.map_nil, List.length_cons, List.length_nil, List.replicate, List.append_nil, List.nil_append, List.cons_append, Nat.reduceAdd, Nat.reduceSub, Nat.reduceLeDiff, Nat.reduceLT, if_true, if_false, not_false_eq_true, Bool.false_eq_true, Bool.true_eq_false, Bool.not_true, Bool.not_false, decide_true, decide_false, decide_eq_true_eq, reduceIte, reduceCtorEq, eAdd, eAddI, eSub, eLt, eLe, eGt, eGe, eEq, eNe, eEqS, eNeS, eTru, eNeg, eAbs, eInt, eIntB, eLenL, eLenT, eMul m1] <;> rfl)]
        rw [seq_nx (by
          rw [if_t (by simp only [gFn, gSeq, gSkip, gRet, gRetN, gExpr, gSet, gIf, gAug, gAsg, gPar2, gPar3, gVar, gC, gBin, gUn, gTr, gAnd, gOr, gNot, gAndV, gOrV, gNotV, gIfE, gCall, G.gCons, G.gNil, G.gTup, G.gLst, gLstM, gSl, goSome, goNone, R.bind_ok, R.bind_ex, R.bind_no, R.bindS_ok, R.bindS_ex, R.bindS_no, outS_nx, outS_rt, outS_ex, orR_ok, orR_ex, orR_no, ggName, ggSub, List.getElem?_cons_zero, List.getElem?_cons_succ, List.set_cons_zero, List.set_cons_succ, List.map_cons, List.map_nil, List.length_cons, List.length_nil, List.replicate, List.append_nil, List.nil_append, List.cons_append, Nat.reduceAdd, Nat.reduceSub, Nat.reduceLeDiff, Nat.reduceLT, if_true, if_false, not_false_eq_true, Bool.false_eq_true, Bool.true_eq_false, Bool.not_true, Bool.not_false, decide_true, decide_false, decide_eq_true_eq, reduceIte, reduceCtorEq, eAdd, eAddI, eSub, eLt, eLe, eGt, eGe, eEq, eNe, eEqS, eNeS, eTru, eNeg, eAbs, eInt, eIntB, eLenL, eLenT, ix_ref h1, at3_0, ne_empty, he] <;> rfl)]
          simp only [gFn, gSeq, gSkip, gRet, gRetN, gExpr, gSet, gIf, gAug, gAsg, gPar2, gPar3, gVar, gC, gBin, gUn, gTr, gAnd, gOr, gNot, gAndV, gOrV, gNotV, gIfE, gCall, G.gCons, G.gNil, G.gTup, G.gLst, gLstM, gSl, goSome, goNone, R.bind_ok, R.bind_ex, R.bind_no, R.bindS_ok, R.bindS_ex, R.bindS_no, outS_nx, outS_rt, outS_ex, orR_ok, orR_ex, orR_no, ggName, ggSub, List.getElem?_cons_zero, List.getElem?_cons_succ, List.set_cons_zero, List.set_cons_succ, List.map_cons, List.map_nil, List.length_cons, List.length_nil, List.replicate, List.append_nil, List.nil_append, List.cons_append, Nat.reduceAdd, Nat.reduceSub, Nat.reduceLeDiff, Nat.reduceLT, if_true, if_false, not_false_eq_true, Bool.false_eq_true, Bool.true_eq_false, Bool.not_true, Bool.not_false, decide_true, decide_false, decide_eq_true_eq, reduceIte, reduceCtorEq, eAdd, eAddI, eSub, eLt, eLe, eGt, eGe, eEq, eNe, eEqS, eNeS, eTru, eNeg, eAbs, eInt, eIntB, eLenL, eLenT, ix_ref h1, at3_0, len_ints, eMod hl', ix_lst, ez] <;> rfl)]
    obtain ⟨cell, hcell⟩ := cells
    obtain ⟨r, hr, hfin⟩ := fin cell
    by_cases hbig : (at_ : Int) < zs.length ∧ (10 : Int) ^ 18 ≤ cell.natAbs
    · have p1 : (10 : Int) ^ (18 : Int).toNat = 10 ^ 18 := rfl
      have h2 := set_self (m' := .lst [.lst (zs.map D.int), .int ((at_ : Int) + 1), .int ((2 * ((cell.natAbs : Int) - 10 ^ 18) + (if cell < 0 then 1 else 0)).fdiv many)]) h1
      have m7 : mulOk 2 ((cell.natAbs : Int) - 10 ^ 18) = true := mulOk_left (by decide)
      refine ⟨(2 * ((cell.natAbs : Int) - 10 ^ 18) + (if cell < 0 then 1 else 0)).fmod many, at_ + 1, _, ?_, (fmod_lt _ hm0).1, (fmod_lt _ hm0).2, Nat.le_refl _, ⟨_, by rw [List.set_set] at h2; exact h2⟩, ⟨_, rfl⟩⟩
      refine fn_rt rfl ?_
      show b__law_draw [some (.ref k), some (.int many), none, none, none, none, none] M = _
      unfold b__law_draw
      rw [seq_nx (by rw [if_f (by simp only [gFn, gSeq, gSkip, gRet, gRetN, gExpr, gSet, gIf, gAug, gAsg, gPar2, gPar3, gVar, gC, gBin, gUn, gTr, gAnd, gOr, gNot, gAndV, gOrV, gNotV, gIfE, gCall, G.gCons, G.gNil, G.gTup, G.gLst, gLstM, gSl, goSome, goNone, R.bind_ok, R.bind_ex, R.bind_no, R.bindS_ok, R.bindS_ex, R.bindS_no, outS_nx, outS_rt, outS_ex, orR_ok, orR_ex, orR_no, ggName, ggSub, List.getElem?_cons_zero, List.getElem?_cons_succ, List.set_cons_zero, List.set_cons_succ, List.map_cons, List.map_nil, List.length_cons, List.length_nil, List.replicate, List.append_nil, List.nil_append, List.cons_append, Nat.reduceAdd, Nat.reduceSub, Nat.reduceLeDiff, Nat.reduceLT, if_true, if_false, not_false_eq_true, Bool.false_eq_true, Bool.true_eq_false, Bool.not_true, Bool.not_false, decide_true, decide_false, decide_eq_true_eq, reduceIte, reduceCtorEq, eAdd, eAddI, eSub, eLt, eLe, eGt, eGe, eEq, eNe, eEqS, eNeS, eTru, eNeg, eAbs, eInt, eIntB, eLenL, eLenT, ix_ref h, at3_2, hg'] <;> rfl)]; rfl)]
      rw [seq_nx (Γ1 := [some (.ref k), some (.int many), none, some (.int at_), none, none, none]) (by simp only [gFn, gSeq, gSkip, gRet, gRetN, gExpr, gSet, gIf, gAug, gAsg, gPar2, gPar3, gVar, gC, gBin, gUn, gTr, gAnd, gOr, gNot, gAndV, gOrV, gNotV, gIfE, gCall, G.gCons, G.gNil, G.gTup, G.gLst, gLstM, gSl, goSome, goNone, R.bind_ok, R.bind_ex, R.bind_no, R.bindS_ok, R.bindS_ex, R.bindS_no, outS_nx, outS_rt, outS_ex, orR_ok, orR_ex, orR_no, ggName, ggSub, List.getElem?_cons_zero, List.getElem?_cons_succ, List.set_cons_zero, List.set_cons_succ, List.map_cons, List.map_nil, List.length_cons, List.length_nil, List.replicate, List.append_nil, List.nil_append, List.cons_append, Nat.reduceAdd, Nat.reduceSub, Nat.reduceLeDiff, Nat.reduceLT, if_true, if_false, not_false_eq_true, Bool.false_eq_true, Bool.true_eq_false, Bool.not_true, Bool.not_false, decide_true, decide_false, decide_eq_true_eq, reduceIte, reduceCtorEq, eAdd, eAddI, eSub, eLt, eLe, eGt, eGe, eEq, eNe, eEqS, eNeS, eTru, eNeg, eAbs, eInt, eIntB, eLenL, eLenT, ix_ref h, at3_1] <;> rfl)]
      rw [seq_nx (by simp only [gFn, gSeq, gSkip, gRet, gRetN, gExpr, gSet, gIf, gAug, gAsg, gPar2, gPar3, gVar, gC, gBin, gUn, gTr, gAnd, gOr, gNot, gAndV, gOrV, gNotV, gIfE, gCall, G.gCons, G.gNil, G.gTup, G.gLst, gLstM, gSl, goSome, goNone, R.bind_ok, R.bind_ex, R.bind_no, R.bindS_ok, R.bindS_ex, R.bindS_no, outS_nx, outS_rt, outS_ex, orR_ok, orR_ex, orR_no, ggName, ggSub, List.getElem?_cons_zero, List.getElem?_cons_succ, List.set_cons_zero, List.set_cons_succ, List.map_cons, List.map_nil, List.length_cons, List.length_nil, List.replicate, List.append_nil, List.nil_append, List.cons_append, Nat.reduceAdd, Nat.reduceSub, Nat.reduceLeDiff, Nat.reduceLT, if_true, if_false, not_false_eq_true, Bool.false_eq_true, Bool.true_eq_false, Bool.not_true, Bool.not_false, decide_true, decide_false, decide_eq_true_eq, reduceIte, reduceCtorEq, eAdd, eAddI, eSub, eLt, eLe, eGt, eGe, eEq, eNe, eEqS, eNeS, eTru, eNeg, eAbs, eInt, eIntB, eLenL, eLenT, h, ixN3_1] <;> rfl)]
      rw [hcell]
      refine seq_rt ?_
      rw [if_t (by simp only [gFn, gSeq, gSkip, gRet, gRetN, gExpr, gSet, gIf, gAug, gAsg, gPar2, gPar3, gVar, gC, gBin, gUn, gTr, gAnd, gOr, gNot, gAndV, gOrV, gNotV, gIfE, gCall, G.gCons, G.gNil, G.gTup, G.gLst, gLstM, gSl, goSome, goNone, R.bind_ok, R.bind_ex, R.bind_no, R.bindS_ok, R.bindS_ex, R.bindS_no, outS_nx, outS_rt, outS_ex, orR_ok, orR_ex, orR_no, ggName, ggSub, List.getElem?_cons_zero, List.getElem?_cons_succ, List.set_cons_zero, List.set_cons_succ, List.map_cons, List.map_nil, List.length_cons, List.length_nil, List.replicate, List.append_nil, List.nil_append, List.cons_append, Nat.reduceAdd, Nat.reduceSub, Nat.reduceLeDiff, Nat.reduceLT, if_true, if_false, not_false_eq_true, Bool.false_eq_true, Bool.true_eq_false, Bool.not_true, Bool.not_false, decide_true, decide_false, decide_eq_true_eq, reduceIte, reduceCtorEq, eAdd, eAddI, eSub, eLt, eLe, eGt, eGe, eEq, eNe, eEqS, eNeS, eTru, eNeg, eAbs, eInt, eIntB, eLenL, eLenT, ix_ref h1, at3_0, len_ints, ePow p0, p1, hbig.1, hbig.2] <;> rfl)]
      simp only [gFn, gSeq, gSkip, gRet, gRetN, gExpr, gSet, gIf, gAug, gAsg, gPar2, gPar3, gVar, gC, gBin, gUn, gTr, gAnd, gOr, gNot, gAndV, gOrV, gNotV, gIfE, gCall, G.gCons, G.gNil, G.gTup, G.gLst, gLstM, gSl, goSome, goNone, R.bind_ok, R.bind_ex, R.bind_no, R.bindS_ok, R.bindS_ex, R.bindS_no, outS_nx, outS_rt, outS_ex, orR_ok, orR_ex, orR_no, ggName, ggSub, List.getElem?_cons_zero, List.getElem?_cons_succ, List.set_cons_zero, List.set_cons_succ, List.map_cons, List.map_nil, List.length_cons, List.length_nil, List.replicate, List.append_nil, List.nil_append, List.cons_append, Nat.reduceAdd, Nat.reduceSub, Nat.reduceLeDiff, Nat.reduceLT, if_true, if_false, not_false_eq_true, Bool.false_eq_true, Bool.true_eq_false, Bool.not_true, Bool.not_false, decide_true, decide_false, decide_eq_true_eq, reduceIte, reduceCtorEq, eAdd, eAddI, eSub, eLt, eLe, eGt, eGe, eEq, eNe, eEqS, eNeS, eTru, eNeg, eAbs, eInt, eIntB, eLenL, eLenT, ePow p0, p1, eMul m7, eMod mm, eDiv dm, h1, ixN3_2, List.set_set]
    · refine ⟨r, at_ + 1, _, ?_, hr.1, hr.2, Nat.le_refl _, ⟨_, h1⟩, ⟨_, rfl⟩⟩
      refine fn_rt rfl ?_
      show b__law_draw [some (.ref k), some (.int many), none, none, none, none, none] M = _
      unfold b__law_draw
      rw [seq_nx (by rw [if_f (by simp only [gFn, gSeq, gSkip, gRet, gRetN, gExpr, gSet, gIf, gAug, gAsg, gPar2, gPar3, gVar, gC, gBin, gUn, gTr, gAnd, gOr, gNot, gAndV, gOrV, gNotV, gIfE, gCall, G.gCons, G.gNil, G.gTup, G.gLst, gLstM, gSl, goSome, goNone, R.bind_ok, R.bind_ex, R.bind_no, R.bindS_ok, R.bindS_ex, R.bindS_no, outS_nx, outS_rt, outS_ex, orR_ok, orR_ex, orR_no, ggName, ggSub, List.getElem?_cons_zero, List.getElem?_cons_succ, List.set_cons_zero, List.set_cons_succ, List.map_cons, List.map_nil, List.length_cons, List.length_nil, List.replicate, List.append_nil, List.nil_append, List.cons_append, Nat.reduceAdd, Nat.reduceSub, Nat.reduceLeDiff, Nat.reduceLT, if_true, if_false, not_false_eq_true, Bool.false_eq_true, Bool.true_eq_false, Bool.not_true, Bool.not_false, decide_true, decide_false, decide_eq_true_eq, reduceIte, reduceCtorEq, eAdd, eAddI, eSub, eLt, eLe, eGt, eGe, eEq, eNe, eEqS, eNeS, eTru, eNeg, eAbs, eInt, eIntB, eLenL, eLenT, ix_ref h, at3_2, hg'] <;> rfl)]; rfl)]
      rw [seq_nx (Γ1 := [some (.ref k), some (.int many), none, some (.int at_), none, none, none]) (by simp only [gFn, gSeq, gSkip, gRet, gRetN, gExpr, gSet, gIf, gAug, gAsg, gPar2, gPar3, gVar, gC, gBin, gUn, gTr, gAnd, gOr, gNot, gAndV, gOrV, gNotV, gIfE, gCall, G.gCons, G.gNil, G.gTup, G.gLst, gLstM, gSl, goSome, goNone, R.bind_ok, R.bind_ex, R.bind_no, R.bindS_ok, R.bindS_ex, R.bindS_no, outS_nx, outS_rt, outS_ex, orR_ok, orR_ex, orR_no, ggName, ggSub, List.getElem?_cons_zero, List.getElem?_cons_succ, List.set_cons_zero, List.set_cons_succ, List.map_cons, List.map_nil, List.length_cons, List.length_nil, List.replicate, List.append_nil, List.nil_append, List.cons_append, Nat.reduceAdd, Nat.reduceSub, Nat.reduceLeDiff, Nat.reduceLT, if_true, if_false, not_false_eq_true, Bool.false_eq_true, Bool.true_eq_false, Bool.not_true, Bool.not_false, decide_true, decide_false, decide_eq_true_eq, reduceIte, reduceCtorEq, eAdd, eAddI, eSub, eLt, eLe, eGt, eGe, eEq, eNe, eEqS, eNeS, eTru, eNeg, eAbs, eInt, eIntB, eLenL, eLenT, ix_ref h, at3_1] <;> rfl)]
      rw [seq_nx (by simp only [gFn, gSeq, gSkip, gRet, gRetN, gExpr, gSet, gIf, gAug, gAsg, gPar2, gPar3, gVar, gC, gBin, gUn, gTr, gAnd, gOr, gNot, gAndV, gOrV, gNotV, gIfE, gCall, G.gCons, G.gNil, G.gTup, G.gLst, gLstM, gSl, goSome, goNone, R.bind_ok, R.bind_ex, R.bind_no, R.bindS_ok, R.bindS_ex, R.bindS_no, outS_nx, outS_rt, outS_ex, orR_ok, orR_ex, orR_no, ggName, ggSub, List.getElem?_cons_zero, List.getElem?_cons_succ, List.set_cons_zero, List.set_cons_succ, List.map_cons, List.map_nil, List.length_cons, List.length_nil, List.replicate, List.append_nil, List.nil_append, List.cons_append, Nat.reduceAdd, Nat.reduceSub, Nat.reduceLeDiff, Nat.reduceLT, if_true, if_false, not_false_eq_true, Bool.false_eq_true, Bool.true_eq_false, Bool.not_true, Bool.not_false, decide_true, decide_false, decide_eq_true_eq, reduceIte, reduceCtorEq, eAdd, eAddI, eSub, eLt, eLe, eGt, eGe, eEq, eNe, eEqS, eNeS, eTru, eNeg, eAbs, eInt, eIntB, eLenL, eLenT, h, ixN3_1] <;> rfl)]
      rw [hcell]
      have p1 : (10 : Int) ^ (18 : Int).toNat = 10 ^ 18 := rfl
      rw [seq_nx (by
        rw [if_f (by
          by_cases hq : (at_ : Int) < zs.length
          · have hn : ¬ (10 : Int) ^ 18 ≤ cell.natAbs := fun z => hbig ⟨hq, z⟩
            simp only [gFn, gSeq, gSkip, gRet, gRetN, gExpr, gSet, gIf, gAug, gAsg, gPar2, gPar3, gVar, gC, gBin, gUn, gTr, gAnd, gOr, gNot, gAndV, gOrV, gNotV, gIfE, gCall, G.gCons, G.gNil, G.gTup, G.gLst, gLstM, gSl, goSome, goNone, R.bind_ok, R.bind_ex, R.bind_no, R.bindS_ok, R.bindS_ex, R.bindS_no, outS_nx, outS_rt, outS_ex, orR_ok, orR_ex, orR_no, ggName, ggSub, List.getElem?_cons_zero, List.getElem?_cons_succ, List.set_cons_zero, List.set_cons_succ, List.map_cons, List.map_nil, List.length_cons, List.length_nil, List.replicate, List.append_nil, List.nil_append, List.cons_append, Nat.reduceAdd, Nat.reduceSub, Nat.reduceLeDiff, Nat.reduceLT, if_true, if_false, not_false_eq_true, Bool.false_eq_true, Bool.true_eq_false, Bool.not_true, Bool.not_false, decide_true, decide_false, decide_eq_true_eq, reduceIte, reduceCtorEq, eAdd, eAddI, eSub, eLt, eLe, eGt, eGe, eEq, eNe, eEqS, eNeS, eTru, eNeg, eAbs, eInt, eIntB, eLenL, eLenT, ix_ref h1, at3_0, len_ints, ePow p0, p1, hq, hn] <;> rfl
          · simp only [gFn, gSeq, gSkip, gRet, gRetN, gExpr, gSet, gIf, gAug, gAsg, gPar2, gPar3, gVar, gC, gBin, gUn, gTr, gAnd, gOr, gNot, gAndV, gOrV, gNotV, gIfE, gCall, G.gCons, G.gNil, G.gTup, G.gLst, gLstM, gSl, goSome, goNone, R.bind_ok, R.bind_ex, R.bind_no, R.bindS_ok, R.bindS_ex, R.bindS_no, outS_nx, outS_rt, outS_ex, orR_ok, orR_ex, orR_no, ggName, ggSub, List.getElem?_cons_zero, List.getElem?_cons_succ, List.set_cons_zero, List.set_cons_succ, List.map_cons, List.map_nil, List.length_cons, List.length_nil, List.replicate, List.append_nil, List.nil_append, List.cons_append, Nat.reduceAdd, Nat.reduceSub, Nat.reduceLeDiff, Nat.reduceLT, if_true, if_false, not_false_eq_true, Bool.false_eq_true, Bool.true_eq_false, Bool.not_true, Bool.not_false, decide_true, decide_false, decide_eq_true_eq, reduceIte, reduceCtorEq, eAdd, eAddI, eSub, eLt, eLe, eGt, eGe, eEq, eNe, eEqS, eNeS, eTru, eNeg, eAbs, eInt, eIntB, eLenL, eLenT, ix_ref h1, at3_0, len_ints, hq] <;> rfl)]
        rfl)]
      exact hfin _ _ rfl
abbrev pairD (a b : Int) : D := .tup [.int a, .int b]
theorem lowP_cop {a : Int} {b : Nat} (h : Nat.gcd a.natAbs b = 1) : lowP a b = (a, (b : Int)) := by
  unfold lowP; rw [h]; simp
theorem lowP_cop1 {a : Int} : lowP a 1 = (a, 1) := by
  have : Nat.gcd a.natAbs 1 = 1 := Nat.gcd_one_right _
  rw [lowP_cop this]; rfl
/-- what lowest terms are -/
theorem lowP_ok (a : Int) {b : Nat} (h : 0 < b) : ∃ (u : Int) (l : Nat), lowP a b = (u, (l : Int)) ∧ 0 < l ∧ l ≤ b ∧ u.natAbs ≤ a.natAbs ∧ Nat.gcd u.natAbs l = 1 := by
  have hg := gcd_pos a h
  have d1 : Nat.gcd a.natAbs b ∣ a.natAbs := Nat.gcd_dvd_left _ _
  have d2 : Nat.gcd a.natAbs b ∣ b := Nat.gcd_dvd_right _ _
  refine ⟨a / (Nat.gcd a.natAbs b : Nat), b / Nat.gcd a.natAbs b, by unfold lowP; rw [Int.natCast_ediv], Nat.div_pos (Nat.le_of_dvd h d2) hg, Nat.div_le_self _ _, ?_, ?_⟩
  · have : ((Nat.gcd a.natAbs b : Nat) : Int) ∣ a := Int.ofNat_dvd_left.mpr d1
    rw [Int.natAbs_ediv_of_dvd this]; exact Nat.div_le_self _ _
  · have : ((Nat.gcd a.natAbs b : Nat) : Int) ∣ a := Int.ofNat_dvd_left.mpr d1
    rw [Int.natAbs_ediv_of_dvd this, Int.natAbs_natCast, Nat.gcd_div d1 d2, Nat.div_self hg]
theorem low_ok (a : Int) (b : Nat) (M : Stor) (hb0 : 0 < b) (hb : b < 2 ^ 8000) : f__law_low [.int a, .int b] M = .ok (pairD (lowP a b).1 (lowP a b).2) M := by
  have h := gcd_loop (gTr truD (gBin dNe (gVar 3) (gC (.int 0)))) (gPar2 2 3 (G.gCons (gVar 3) (G.gCons (gBin dModI (gCall fInt (G.gCons (gVar 2) G.gNil)) (gVar 3)) G.gNil))) (some (.int a)) (some (.int b)) M (fun x y => rfl) (fun x y hy => by
    simp only [gFn, gSeq, gSkip, gRet, gRetN, gExpr, gSet, gIf, gAug, gAsg, gPar2, gPar3, gVar, gC, gBin, gUn, gTr, gAnd, gOr, gNot, gAndV, gOrV, gNotV, gIfE, gCall, G.gCons, G.gNil, G.gTup, G.gLst, gLstM, gSl, goSome, goNone, R.bind_ok, R.bind_ex, R.bind_no, R.bindS_ok, R.bindS_ex, R.bindS_no, outS_nx, outS_rt, outS_ex, orR_ok, orR_ex, orR_no, ggName, ggSub, List.getElem?_cons_zero, List.getElem?_cons_succ, List.set_cons_zero, List.set_cons_succ, List.map_cons, List.map_nil, List.length_cons, List.length_nil, List.replicate, List.append_nil, List.nil_append, List.cons_append, Nat.reduceAdd, Nat.reduceSub, Nat.reduceLeDiff, Nat.reduceLT, if_true, if_false, not_false_eq_true, Bool.false_eq_true, Bool.true_eq_false, Bool.not_true, Bool.not_false, decide_true, decide_false, decide_eq_true_eq, reduceIte, reduceCtorEq, eAdd, eAddI, eSub, eLt, eLe, eGt, eGe, eEq, eNe, eEqS, eNeS, eTru, eNeg, eAbs, eInt, eIntB, eLenL, eLenT, eMod hy]) fuel a.natAbs b (Nat.lt_of_lt_of_le hb (fuel_ge (Nat.pow_le_pow_right (by decide) (by decide))))
  have hd := gcd_div a hb0 hb (by decide)
  simp only [f__law_low, b__law_low, gFn, gSeq, gSkip, gRet, gRetN, gExpr, gSet, gIf, gAug, gAsg, gPar2, gPar3, gVar, gC, gBin, gUn, gTr, gAnd, gOr, gNot, gAndV, gOrV, gNotV, gIfE, gCall, G.gCons, G.gNil, G.gTup, G.gLst, gLstM, gSl, goSome, goNone, R.bind_ok, R.bind_ex, R.bind_no, R.bindS_ok, R.bindS_ex, R.bindS_no, outS_nx, outS_rt, outS_ex, orR_ok, orR_ex, orR_no, ggName, ggSub, List.getElem?_cons_zero, List.getElem?_cons_succ, List.set_cons_zero, List.set_cons_succ, List.map_cons, List.map_nil, List.length_cons, List.length_nil, List.replicate, List.append_nil, List.nil_append, List.cons_append, Nat.reduceAdd, Nat.reduceSub, Nat.reduceLeDiff, Nat.reduceLT, if_true, if_false, not_false_eq_true, Bool.false_eq_true, Bool.true_eq_false, Bool.not_true, Bool.not_false, decide_true, decide_false, decide_eq_true_eq, reduceIte, reduceCtorEq, eAdd, eAddI, eSub, eLt, eLe, eGt, eGe, eEq, eNe, eEqS, eNeS, eTru, eNeg, eAbs, eInt, eIntB, eLenL, eLenT, h, eDiv hd, fdiv_nat, lowP]
/-! ### repr of a pair -/
theorem repr_pair {a b : Int} (ha : Sm a) (hb : Sm b) : ∃ s : Str, ∀ M, fRepr [pairD a b] M = .ok (.str s) M := by
  refine ⟨(PyData.tuple [.int a, .int b]).shown, fun M => ?_⟩
  have la : a.natAbs.log2 < 1000 := log2_of ha (by decide)
  have lb : b.natAbs.log2 < 1000 := log2_of hb (by decide)
  have ok : reprOk (.tuple [.int a, .int b]) = true := by
    have t1 := int_text_length_le (a := a) (k := 1000) (by decide) la
    have t2 := int_text_length_le (a := b) (k := 1000) (by decide) lb
    have t := tupleText_len_le [Str.ofString (toString a), Str.ofString (toString b)]
    have e1 : (Str.ofString (toString a)).length = (toString a).length := ofString_length _
    have e2 : (Str.ofString (toString b)).length = (toString b).length := ofString_length _
    simp only [reprOk, Bool.and_eq_true, decide_eq_true_eq, Bool.not_eq_true']
    refine ⟨⟨⟨?_, ?_⟩, ?_⟩, ?_⟩
    · simp only [PyData.showable, PyData.showableAll, Bool.and_eq_true, decide_eq_true_eq]
      exact ⟨by omega, by omega, trivial⟩
    · simp [PyData.hasDict, PyData.hasDictAll]
    · simp [PyData.depth, PyData.depthAll]
    · simp only [PyData.shown, PyData.shownAll]
      simp only [List.map_cons, List.map_nil, List.sum_cons, List.sum_nil, List.length_cons, List.length_nil, e1, e2] at t
      refine Nat.le_trans t ?_
      omega
  have tp : topPy (pairD a b) M = some (.tuple [.int a, .int b]) := by simp [topPy, toPy, toPyL]
  show (match topPy (pairD a b) M with
      | some p => if reprOk p then R.ok (D.str p.shown) M else R.no
      | none => R.no) = _
  rw [tp]
  simp only [ok, if_true]
theorem isR (a b : Int) (M : Stor) : fIsi isOk isTab [rat a b, .cls 5] M = .ok (.bl true) M := rfl
theorem at_nat {l : List D} {i : Nat} {d : D} (h : l[i]? = some d) : L2.atI l (i : Int) = some d := by
  have hi : i < l.length := (List.getElem?_eq_some_iff.mp h).1
  unfold L2.atI L2.ixN
  rw [if_pos (by omega), if_pos (by omega)]
  simpa using h
theorem range1_ok {a : GA'} {Γ : Gam} {M M1 : Stor} {n : Nat} (h : a Γ M = .ok [.int n] M1) (hn : n < 100000) : giRange1 a Γ M = .ok (upFrom 0 n, anyS) M1 := by
  have h1 : ((n : Nat) : Int) < 4611686018427387904 := by omega
  have h2 : -4611686018427387904 ≤ ((n : Nat) : Int) := by omega
  have e : (2 : Int) ^ 62 = 4611686018427387904 := by decide
  unfold giRange1
  rw [h, R.bind_ok]
  generalize hxs : [D.int n] = xs
  split
  · rename_i j
    have hj : j = (n : Int) := by
      have := List.head_eq_of_cons_eq hxs
      injection this with q; exact q.symm
    subst hj
    rw [e, if_pos ⟨h2, h1⟩, Int.toNat_natCast]
  · rename_i q
    exact absurd hxs.symm (q _)
/-! ### the operators -/
theorem mk1 (n : Int) : mkR n 1 = rat n 1 := by unfold mkR; rw [lowP_cop1]
/-- an operand, and the fraction for which it stands -/
inductive Opd : D → Int → Nat → Prop
  | r (a : Int) (b : Nat) : Opd (rat a b) a b
  | n (a : Int) (b : Nat) (h : b = 1) : Opd (.int a) a b
def isI : D → Bool
  | .int _ => true
  | _ => false
/-- a fraction of the law: in lowest terms and not too great -/
def Fr (a : Int) (b : Nat) : Prop := a.natAbs < 2 ^ 100 ∧ 0 < b ∧ b < 2 ^ 100 ∧ Nat.gcd a.natAbs b = 1
theorem sm_of {a : Int} (h : a.natAbs < 2 ^ 500) : Sm a := Nat.lt_of_lt_of_le h (Nat.pow_le_pow_right (by decide) (by decide))
theorem big_of {a : Nat} (h : a < 2 ^ 100) : a < 2 ^ 1000 := Nat.lt_of_lt_of_le h (Nat.pow_le_pow_right (by decide) (by decide))
theorem huge_of {a : Nat} (h : a < 2 ^ 500) : a < 2 ^ 8000 := Nat.lt_of_lt_of_le h (Nat.pow_le_pow_right (by decide) (by decide))
theorem nmul {m n a b : Nat} (h : a < 2 ^ m) (h' : b < 2 ^ n) : a * b < 2 ^ (m + n) := by
  have : a * b < 2 ^ m * 2 ^ n := Nat.mul_lt_mul'' h h'
  rwa [← Nat.pow_add] at this
theorem nup {m n a : Nat} (h : a < 2 ^ m) (hmn : m ≤ n) : a < 2 ^ n := Nat.lt_of_lt_of_le h (Nat.pow_le_pow_right (by decide) hmn)
theorem mok {m n : Nat} {a b : Int} (h : a.natAbs < 2 ^ m) (h' : b.natAbs < 2 ^ n) (hmn : m + n ≤ 1000000 := by decide) : mulOk a b = true := mulOk_of h h' hmn
theorem nat_lt {b : Nat} {n : Nat} (h : b < 2 ^ n) : ((b : Nat) : Int).natAbs < 2 ^ n := by rw [Int.natAbs_natCast]; exact h
theorem i0 (p q : D) (M : Stor) : dIx (.tup [p, q]) (.int 0) M = .ok p M := rfl
theorem i1 (p q : D) (M : Stor) : dIx (.tup [p, q]) (.int 1) M = .ok q M := rfl
abbrev lp (p : Int × Int) : D := pairD p.1 p.2
theorem sm_low {x : Int} {y : Nat} (hx : x.natAbs < 2 ^ 500) (hy0 : 0 < y) (hy : y < 2 ^ 500) : Sm (lowP x y).1 ∧ Sm (lowP x y).2 := by
  obtain ⟨u, l, e, h0, hl, hu, _⟩ := lowP_ok x hy0
  rw [e]
  exact ⟨sm_of (Nat.lt_of_le_of_lt hu hx), sm_of (a := (l : Int)) (by rw [Int.natAbs_natCast]; exact Nat.lt_of_le_of_lt hl hy)⟩
theorem mk_cop {a : Int} {b : Nat} (f : Fr a b) : mkR a b = rat a b := by unfold mkR; rw [lowP_cop f.2.2.2]
theorem made_ok {a : Int} {b : Nat} (f : Fr a b) (M : Stor) : f__law_made [pairD a b] M = .ok (rat a b) M := by
  have h0 := f.2.1
  have h : ¬ ((b : Nat) : Int) = 0 := by omega
  have k := make_ok a b M h0 (Nat.lt_trans (big_of f.2.2.1) (Nat.pow_lt_pow_right (by decide) (by decide)))
  rw [mk_cop f] at k
  simp only [f__law_made, b__law_made, gFn, gSeq, gSkip, gRet, gRetN, gExpr, gSet, gIf, gAug, gAsg, gPar2, gPar3, gVar, gC, gBin, gUn, gTr, gAnd, gOr, gNot, gAndV, gOrV, gNotV, gIfE, gCall, G.gCons, G.gNil, G.gTup, G.gLst, gLstM, gSl, goSome, goNone, R.bind_ok, R.bind_ex, R.bind_no, R.bindS_ok, R.bindS_ex, R.bindS_no, outS_nx, outS_rt, outS_ex, orR_ok, orR_ex, orR_no, ggName, ggSub, List.getElem?_cons_zero, List.getElem?_cons_succ, List.set_cons_zero, List.set_cons_succ, List.map_cons, List.map_nil, List.length_cons, List.length_nil, List.replicate, List.append_nil, List.nil_append, List.cons_append, Nat.reduceAdd, Nat.reduceSub, Nat.reduceLeDiff, Nat.reduceLT, if_true, if_false, not_false_eq_true, Bool.false_eq_true, Bool.true_eq_false, Bool.not_true, Bool.not_false, decide_true, decide_false, decide_eq_true_eq, reduceIte, reduceCtorEq, eAdd, eAddI, eSub, eLt, eLe, eGt, eGe, eEq, eNe, eEqS, eNeS, eTru, eNeg, eAbs, eInt, eIntB, eLenL, eLenT, i0, i1, h, k]
theorem unp (Γ : Gam) (M : Stor) (u v : D) (i j : Nat) : gAsg (ggTup 2 (ggCons (ggName i) (ggCons (ggName j) ggNil))) (gC (.tup [u, v])) Γ M = .nx ((Γ.set i (some u)).set j (some v)) M := rfl
theorem insR (a b : Int) (M : Stor) : insOf (rat a b) M = some (5, [.int a, .int b]) := rfl
theorem sm_b {a : Int} {b : Nat} (f : Fr a b) : Sm (b : Int) := by show ((b : Nat) : Int).natAbs < _; rw [Int.natAbs_natCast]; exact big_of f.2.2.1
theorem apd (M : Stor) (l : List D) (d : D) (hl : l.length < 10) : mAppend (.ref M.length) [d] (M ++ [.lst l]) = .ok .non (M ++ [.lst (l ++ [d])]) := by
  unfold mAppend
  simp only [get_last]
  rw [if_pos (by omega), set_last]
theorem lo (M : Stor) (l : List D) : lstOf (.ref M.length) (M ++ [.lst l]) = some l := by
  unfold lstOf; simp only [get_last]
theorem Fr.one {a : Int} (h : a.natAbs < 2 ^ 100) : Fr a 1 := ⟨h, by decide, by decide, Nat.gcd_one_right _⟩
theorem mk0 (N : Stor) : gMake 5 [.int 1] f_Ratio___init__ [.int 0] N = .ok (rat 0 1) N := by
  have := make1_ok 0 N
  rwa [mk1] at this
theorem frz_bl {M : Stor} {m : MO} {r : Bool} : frz M (.ok (.bl r) (M ++ [m])) = .ok (.bl r) M := by
  unfold frz
  have e : ¬ (M ++ [m]).length = M.length := by simp
  simp only [e, if_false, kept_last, if_true, frzD]
  simp
theorem pen_ok (zs : List Int) (h : zs.length ≤ 63) : ∃ M k, f__law_pen [.lck (zs.map D.int)] [] = .ok (.ref k) M ∧ Pen M k zs 0 := by
  have c : cutD (zs.map D.int) none (some 63) = zs.map D.int := by
    have z := HT.sIx_nat (zs.map D.int).length (zs.map D.int).length 63
    unfold cutD
    rw [HT.sIx_none, show ((63 : Int)) = ((63 : Nat) : Int) from rfl, z]
    simp only [List.drop_zero, List.length_map]
    rw [List.take_of_length_le]
    rw [List.length_map]; omega
  refine ⟨[.lst [.lst (zs.map D.int), .int 0, .int 0]], 0, ?_, ⟨0, rfl⟩⟩
  have sl : dSl (.lck (zs.map D.int)) none (some 63) [] = .ok (.lst (zs.map D.int)) [] := by
    show R.ok (D.lst (cutD (zs.map D.int) none (some 63))) [] = _
    rw [c]
  have li : fList [.lst (zs.map D.int)] [] = .ok (.lst (zs.map D.int)) [] := rfl
  simp only [f__law_pen, b__law_pen, gFn, gSeq, gSkip, gRet, gRetN, gExpr, gSet, gIf, gAug, gAsg, gPar2, gPar3, gVar, gC, gBin, gUn, gTr, gAnd, gOr, gNot, gAndV, gOrV, gNotV, gIfE, gCall, G.gCons, G.gNil, G.gTup, G.gLst, gLstM, gSl, goSome, goNone, R.bind_ok, R.bind_ex, R.bind_no, R.bindS_ok, R.bindS_ex, R.bindS_no, outS_nx, outS_rt, outS_ex, orR_ok, orR_ex, orR_no, ggName, ggSub, List.getElem?_cons_zero, List.getElem?_cons_succ, List.set_cons_zero, List.set_cons_succ, List.map_cons, List.map_nil, List.length_cons, List.length_nil, List.replicate, List.append_nil, List.nil_append, List.cons_append, Nat.reduceAdd, Nat.reduceSub, Nat.reduceLeDiff, Nat.reduceLT, if_true, if_false, not_false_eq_true, Bool.false_eq_true, Bool.true_eq_false, Bool.not_true, Bool.not_false, decide_true, decide_false, decide_eq_true_eq, reduceIte, reduceCtorEq, eAdd, eAddI, eSub, eLt, eLe, eGt, eGe, eEq, eNe, eEqS, eNeS, eTru, eNeg, eAbs, eInt, eIntB, eLenL, eLenT, sl, li]
theorem pick_ok {M : Stor} {k : Nat} {zs : List Int} {at_ : Nat} {l : List D} (h : Pen M k zs at_) (ha : at_ ≤ 100000) (h0 : 0 < l.length) (h1 : l.length < 1000) :
    ∃ d at' M', f__law_pick [.ref k, .lst l] M = .ok d M' ∧ d ∈ l ∧ at' ≤ at_ + 1 ∧ Pen M' k zs at' := by
  obtain ⟨r, at', M', e, r0, r1, hat, hp, -⟩ := draw_ok (many := l.length) h ha (by omega) (by omega)
  have hr : r.toNat < l.length := by omega
  have g : L2.atI l r = some l[r.toNat] := by
    have q := at_nat (l := l) (i := r.toNat) (List.getElem?_eq_getElem hr)
    rwa [Int.toNat_of_nonneg r0] at q
  refine ⟨l[r.toNat], at', M', ?_, List.getElem_mem hr, hat, hp⟩
  simp only [f__law_pick, b__law_pick, gFn, gSeq, gSkip, gRet, gRetN, gExpr, gSet, gIf, gAug, gAsg, gPar2, gPar3, gVar, gC, gBin, gUn, gTr, gAnd, gOr, gNot, gAndV, gOrV, gNotV, gIfE, gCall, G.gCons, G.gNil, G.gTup, G.gLst, gLstM, gSl, goSome, goNone, R.bind_ok, R.bind_ex, R.bind_no, R.bindS_ok, R.bindS_ex, R.bindS_no, outS_nx, outS_rt, outS_ex, orR_ok, orR_ex, orR_no, ggName, ggSub, List.getElem?_cons_zero, List.getElem?_cons_succ, List.set_cons_zero, List.set_cons_succ, List.map_cons, List.map_nil, List.length_cons, List.length_nil, List.replicate, List.append_nil, List.nil_append, List.cons_append, Nat.reduceAdd, Nat.reduceSub, Nat.reduceLeDiff, Nat.reduceLT, if_true, if_false, not_false_eq_true, Bool.false_eq_true, Bool.true_eq_false, Bool.not_true, Bool.not_false, decide_true, decide_false, decide_eq_true_eq, reduceIte, reduceCtorEq, eAdd, eAddI, eSub, eLt, eLe, eGt, eGe, eEq, eNe, eEqS, eNeS, eTru, eNeg, eAbs, eInt, eIntB, eLenL, eLenT, e, ix_lst, g]
abbrev topsD (r : Int) : List D := [.int 0, .int 1, .int 1, .int 2, .int 3, .int 5, .int 7, .int 12, .int 30, .int 1000000007, .int 100000000000000000000000000000, .int r]
abbrev botsD (r : Int) : List D := [.int 1, .int 1, .int 1, .int 2, .int 2, .int 3, .int 4, .int 6, .int 12, .int 1000000007, .int 100000000000000000000000000000, .int (1 + r)]
abbrev lim : Nat := 100000000000000000000000000000
theorem tops_in {r : Int} (h0 : 0 ≤ r) (h1 : r < 100) {d : D} (h : d ∈ topsD r) : ∃ z : Int, d = .int z ∧ z.natAbs ≤ lim := by
  simp only [List.mem_cons, List.not_mem_nil, or_false] at h
  rcases h with rfl | rfl | rfl | rfl | rfl | rfl | rfl | rfl | rfl | rfl | rfl | rfl
  iterate 11 exact ⟨_, rfl, by decide⟩
  exact ⟨_, rfl, Nat.le_trans (by omega : r.natAbs ≤ 100) (by decide)⟩
theorem bots_in {r : Int} (h0 : 0 ≤ r) (h1 : r < 100) {d : D} (h : d ∈ botsD r) : ∃ z : Nat, d = .int z ∧ 0 < z ∧ z ≤ lim := by
  simp only [List.mem_cons, List.not_mem_nil, or_false] at h
  rcases h with rfl | rfl | rfl | rfl | rfl | rfl | rfl | rfl | rfl | rfl | rfl | rfl
  · exact ⟨1, rfl, by decide, by decide⟩
  · exact ⟨1, rfl, by decide, by decide⟩
  · exact ⟨1, rfl, by decide, by decide⟩
  · exact ⟨2, rfl, by decide, by decide⟩
  · exact ⟨2, rfl, by decide, by decide⟩
  · exact ⟨3, rfl, by decide, by decide⟩
  · exact ⟨4, rfl, by decide, by decide⟩
  · exact ⟨6, rfl, by decide, by decide⟩
  · exact ⟨12, rfl, by decide, by decide⟩
  · exact ⟨1000000007, rfl, by decide, by decide⟩
  · exact ⟨100000000000000000000000000000, rfl, by decide, by decide⟩
  · exact ⟨(1 + r).toNat, by rw [Int.toNat_of_nonneg (by omega)], by omega, Nat.le_trans (by omega : (1 + r).toNat ≤ 101) (by decide)⟩
/-- as they are drawn -/
def Fx (a : Int) (b : Nat) : Prop := a.natAbs ≤ lim ∧ 0 < b ∧ b ≤ lim ∧ Nat.gcd a.natAbs b = 1
theorem lim_lt : 12 * lim < 2 ^ 101 := by decide +kernel
theorem Fx.fr {a : Int} {b : Nat} (h : Fx a b) : Fr a b := by
  have : lim < 2 ^ 100 := by decide +kernel
  exact ⟨Nat.lt_of_le_of_lt h.1 this, h.2.1, Nat.lt_of_le_of_lt h.2.2.1 this, h.2.2.2⟩
/-- lowest terms of what is not too great -/
theorem fr_low {x : Int} {y : Nat} (hx : x.natAbs < 2 ^ 100) (hy0 : 0 < y) (hy : y < 2 ^ 100) (M : Stor) : ∃ (u : Int) (v : Nat), f__law_low [.int x, .int y] M = .ok (pairD u v) M ∧ Fr u v := by
  have lw := low_ok x y M hy0 (Nat.lt_trans (big_of hy) (Nat.pow_lt_pow_right (by decide) (by decide)))
  obtain ⟨u, v, e, v0, vl, ul, gc⟩ := lowP_ok x hy0
  rw [e] at lw
  exact ⟨u, v, lw, Nat.lt_of_le_of_lt ul hx, v0, Nat.lt_of_le_of_lt vl hy, gc⟩
theorem fraction_ok {M : Stor} {k : Nat} {zs : List Int} {at_ : Nat} (h : Pen M k zs at_) (ha : at_ ≤ 90000) :
    ∃ (a : Int) (b : Nat) (at' : Nat) (M' : Stor), f__law_fraction [.ref k] M = .ok (pairD a b) M' ∧ Fx a b ∧ at' ≤ at_ + 5 ∧ Pen M' k zs at' := by
  obtain ⟨r1, t1, M1, e1, r10, r11, h1, p1, -⟩ := draw_ok (many := 100) h (by omega) (by decide) (by decide)
  obtain ⟨r2, t2, M2, e2, r20, r21, h2, p2, -⟩ := draw_ok (many := 100) p1 (by omega) (by decide) (by decide)
  obtain ⟨r3, t3, M3, e3, r30, r31, h3, p3, -⟩ := draw_ok (many := 3) p2 (by omega) (by decide) (by decide)
  obtain ⟨d4, t4, M4, e4, m4, h4, p4⟩ := pick_ok (l := topsD r1) p3 (by omega) (by show 0 < 12; decide) (by show 12 < 1000; decide)
  obtain ⟨d5, t5, M5, e5, m5, h5, p5⟩ := pick_ok (l := botsD r2) p4 (by omega) (by show 0 < 12; decide) (by show 12 < 1000; decide)
  obtain ⟨u, rfl, hu⟩ := tops_in r10 r11 m4
  obtain ⟨v, rfl, v0, v1⟩ := bots_in r20 r21 m5
  have hs : ∃ s : Int, (1 - 2 * (if r3 = 0 then 1 else 0) : Int) = s ∧ s.natAbs = 1 := by
    by_cases z : r3 = 0
    · exact ⟨-1, by simp [z], rfl⟩
    · exact ⟨1, by simp [z], rfl⟩
  obtain ⟨s, es, hs⟩ := hs
  have lv : v < 2 ^ 100 := Nat.lt_of_le_of_lt v1 (by decide +kernel)
  have lw := low_ok (s * u) v M5 v0 (Nat.lt_trans (big_of lv) (Nat.pow_lt_pow_right (by decide) (by decide)))
  obtain ⟨a, b, e, b0, bl, al, gc⟩ := lowP_ok (s * u) v0
  rw [e] at lw
  have hn : (s * u).natAbs = u.natAbs := by rw [Int.natAbs_mul, hs, Nat.one_mul]
  refine ⟨a, b, t5, M5, ?_, ⟨by omega, b0, by omega, gc⟩, by omega, p5⟩
  have q1 : powOk 10 9 = true := by decide
  have q2 : powOk 10 29 = true := by decide
  have q3 : (10 : Int) ^ (9 : Int).toNat = 1000000000 := by decide
  have q4 : (10 : Int) ^ (29 : Int).toNat = 100000000000000000000000000000 := by decide
  have q5 : (1000000000 : Int) + 7 = 1000000007 := by decide
  have m1 : ∀ z : Int, mulOk 2 z = true := fun z => mulOk_left (by decide)
  have m2 : mulOk s u = true := mulOk_left (by omega)
  refine fn_rt rfl ?_
  show b__law_fraction [some (.ref k), none, none, none] M = _
  unfold b__law_fraction
  rw [seq_nx (Γ1 := [some (.ref k), some (.lst (topsD r1)), none, none]) (M1 := M1) (by
    simp only [gFn, gSeq, gSkip, gRet, gRetN, gExpr, gSet, gIf, gAug, gAsg, gPar2, gPar3, gVar, gC, gBin, gUn, gTr, gAnd, gOr, gNot, gAndV, gOrV, gNotV, gIfE, gCall, G.gCons, G.gNil, G.gTup, G.gLst, gLstM, gSl, goSome, goNone, R.bind_ok, R.bind_ex, R.bind_no, R.bindS_ok, R.bindS_ex, R.bindS_no, outS_nx, outS_rt, outS_ex, orR_ok, orR_ex, orR_no, ggName, ggSub, List.getElem?_cons_zero, List.getElem?_cons_succ, List.set_cons_zero, List.set_cons_succ, List.map_cons, List.map_nil, List.length_cons, List.length_nil, List.replicate, List.append_nil, List.nil_append, List.cons_append, Nat.reduceAdd, Nat.reduceSub, Nat.reduceLeDiff, Nat.reduceLT, if_true, if_false, not_false_eq_true, Bool.false_eq_true, Bool.true_eq_false, Bool.not_true, Bool.not_false, decide_true, decide_false, decide_eq_true_eq, reduceIte, reduceCtorEq, eAdd, eAddI, eSub, eLt, eLe, eGt, eGe, eEq, eNe, eEqS, eNeS, eTru, eNeg, eAbs, eInt, eIntB, eLenL, eLenT, ePow q1, ePow q2, q3, q4, q5, e1])]
  rw [seq_nx (Γ1 := [some (.ref k), some (.lst (topsD r1)), some (.lst (botsD r2)), none]) (M1 := M2) (by
    simp only [gFn, gSeq, gSkip, gRet, gRetN, gExpr, gSet, gIf, gAug, gAsg, gPar2, gPar3, gVar, gC, gBin, gUn, gTr, gAnd, gOr, gNot, gAndV, gOrV, gNotV, gIfE, gCall, G.gCons, G.gNil, G.gTup, G.gLst, gLstM, gSl, goSome, goNone, R.bind_ok, R.bind_ex, R.bind_no, R.bindS_ok, R.bindS_ex, R.bindS_no, outS_nx, outS_rt, outS_ex, orR_ok, orR_ex, orR_no, ggName, ggSub, List.getElem?_cons_zero, List.getElem?_cons_succ, List.set_cons_zero, List.set_cons_succ, List.map_cons, List.map_nil, List.length_cons, List.length_nil, List.replicate, List.append_nil, List.nil_append, List.cons_append, Nat.reduceAdd, Nat.reduceSub, Nat.reduceLeDiff, Nat.reduceLT, if_true, if_false, not_false_eq_true, Bool.false_eq_true, Bool.true_eq_false, Bool.not_true, Bool.not_false, decide_true, decide_false, decide_eq_true_eq, reduceIte, reduceCtorEq, eAdd, eAddI, eSub, eLt, eLe, eGt, eGe, eEq, eNe, eEqS, eNeS, eTru, eNeg, eAbs, eInt, eIntB, eLenL, eLenT, ePow q1, ePow q2, q3, q4, q5, e2])]
  rw [seq_nx (Γ1 := [some (.ref k), some (.lst (topsD r1)), some (.lst (botsD r2)), some (.int s)]) (M1 := M3) (by
    simp only [gFn, gSeq, gSkip, gRet, gRetN, gExpr, gSet, gIf, gAug, gAsg, gPar2, gPar3, gVar, gC, gBin, gUn, gTr, gAnd, gOr, gNot, gAndV, gOrV, gNotV, gIfE, gCall, G.gCons, G.gNil, G.gTup, G.gLst, gLstM, gSl, goSome, goNone, R.bind_ok, R.bind_ex, R.bind_no, R.bindS_ok, R.bindS_ex, R.bindS_no, outS_nx, outS_rt, outS_ex, orR_ok, orR_ex, orR_no, ggName, ggSub, List.getElem?_cons_zero, List.getElem?_cons_succ, List.set_cons_zero, List.set_cons_succ, List.map_cons, List.map_nil, List.length_cons, List.length_nil, List.replicate, List.append_nil, List.nil_append, List.cons_append, Nat.reduceAdd, Nat.reduceSub, Nat.reduceLeDiff, Nat.reduceLT, if_true, if_false, not_false_eq_true, Bool.false_eq_true, Bool.true_eq_false, Bool.not_true, Bool.not_false, decide_true, decide_false, decide_eq_true_eq, reduceIte, reduceCtorEq, eAdd, eAddI, eSub, eLt, eLe, eGt, eGe, eEq, eNe, eEqS, eNeS, eTru, eNeg, eAbs, eInt, eIntB, eLenL, eLenT, e3, eMul (m1 _)]
    rw [← es])]
  simp only [gFn, gSeq, gSkip, gRet, gRetN, gExpr, gSet, gIf, gAug, gAsg, gPar2, gPar3, gVar, gC, gBin, gUn, gTr, gAnd, gOr, gNot, gAndV, gOrV, gNotV, gIfE, gCall, G.gCons, G.gNil, G.gTup, G.gLst, gLstM, gSl, goSome, goNone, R.bind_ok, R.bind_ex, R.bind_no, R.bindS_ok, R.bindS_ex, R.bindS_no, outS_nx, outS_rt, outS_ex, orR_ok, orR_ex, orR_no, ggName, ggSub, List.getElem?_cons_zero, List.getElem?_cons_succ, List.set_cons_zero, List.set_cons_succ, List.map_cons, List.map_nil, List.length_cons, List.length_nil, List.replicate, List.append_nil, List.nil_append, List.cons_append, Nat.reduceAdd, Nat.reduceSub, Nat.reduceLeDiff, Nat.reduceLT, if_true, if_false, not_false_eq_true, Bool.false_eq_true, Bool.true_eq_false, Bool.not_true, Bool.not_false, decide_true, decide_false, decide_eq_true_eq, reduceIte, reduceCtorEq, eAdd, eAddI, eSub, eLt, eLe, eGt, eGe, eEq, eNe, eEqS, eNeS, eTru, eNeg, eAbs, eInt, eIntB, eLenL, eLenT, e4, e5, eMul m2, lw]
end K06

namespace K06
open PySem L2 G SX
/-! ### what the law asks of a piece -/
theorem nil_S : Str.ofString "" = S [] := by rw [strL]; rfl
theorem slash : Str.ofString "/" = S [47] := by rw [strL]; rfl
theorem minus : Str.ofString "-" = S [45] := by rw [strL]; rfl
theorem zero : Str.ofString "0" = S [48] := by rw [strL]; rfl
theorem mzero : Str.ofString "-0" = S [45, 48] := by rw [strL]; rfl
abbrev endL : List Nat := [101, 110, 100, 108, 101, 115, 115]
theorem endl : Str.ofString "endless" = S endL := by rw [strL]; rfl
theorem figs : Str.ofString "0123456789" = S [48, 49, 50, 51, 52, 53, 54, 55, 56, 57] := by rw [strL]; rfl
theorem figs_in (c : Nat) : (c ∈ [48, 49, 50, 51, 52, 53, 54, 55, 56, 57]) ↔ isDg c := by
  simp only [List.mem_cons, List.not_mem_nil, or_false, isDg]; omega
theorem figs_dec (c : Nat) : decide (c ∈ [48, 49, 50, 51, 52, 53, 54, 55, 56, 57]) = decide (isDg c) := by
  congr 1; exact propext (figs_in c)
/-- plain signs, not too many -/
structure Lo (l : List Nat) : Prop where
  lo : ∀ c ∈ l, c < 128
  len : l.length ≤ 600
theorem Lo.take {l : List Nat} (h : Lo l) (n : Nat) : Lo (l.take n) := ⟨fun c hc => h.lo c (List.mem_of_mem_take hc), by have := h.len; rw [List.length_take]; omega⟩
theorem Lo.drop {l : List Nat} (h : Lo l) (n : Nat) : Lo (l.drop n) := ⟨fun c hc => h.lo c (List.mem_of_mem_drop hc), by have := h.len; rw [List.length_drop]; omega⟩
theorem signs_S (l : List Nat) : signsD (S l) = l.map fun c => .str (S [c]) := by
  unfold signsD; rw [S_list]
theorem toPy_strs : ∀ l : List Nat, toPyL (l.map fun c => D.str (S [c])) = some (l.map fun c => PyData.str (S [c]))
  | [] => by simp [toPyL]
  | c :: l => by simp only [List.map_cons, toPyL, toPy, toPy_strs l]
theorem lay_strs : ∀ l : List Nat, (∀ c ∈ l, c < 128) → PyData.canLayAll0 (l.map fun c => PyData.str (S [c])) = true
  | [], _ => by simp [PyData.canLayAll0]
  | c :: l, h => by
    have hc : c < 1114112 := Nat.lt_trans (h c List.mem_cons_self) (by decide)
    simp only [List.map_cons, PyData.canLayAll0, PyData.canLay0, lay_strs l fun d hd => h d (List.mem_cons_of_mem _ hd), Bool.and_true]
    show (S [c]).cps.all (· < 0x110000) = true
    simp [S, hc]
theorem dep_strs : ∀ l : List Nat, PyData.depthAll (l.map fun c => PyData.str (S [c])) = 0
  | [] => by simp [PyData.depthAll]
  | c :: l => by simp [PyData.depthAll, PyData.depth, dep_strs l]
theorem eqvAll_nil' (l : List PyData) : PyData.eqvAll l [] = l.isEmpty := by cases l <;> simp [PyData.eqvAll]
theorem ne_nils (l : List Nat) (h : ∀ c ∈ l, c < 128) (M : Stor) : dNe (.lst (l.map fun c => D.str (S [c]))) (.lst []) M = .ok (.bl (!l.isEmpty)) M := by
  have s1 : SeqAt.shaped (.list (l.map fun c => PyData.str (S [c]))) = true := by simp [SeqAt.shaped, PyData.canLay0, lay_strs l h, PyData.depth, dep_strs]
  have s2 : SeqAt.shaped (.list []) = true := by simp [SeqAt.shaped, PyData.canLay0, PyData.canLayAll0, PyData.depth, PyData.depthAll]
  have e : dNeD (.lst (l.map fun c => D.str (S [c]))) (.lst []) M = .ok (.bl (!l.isEmpty)) M := by
    unfold dNeD topPy
    simp only [toPy, toPy_strs, toPyL, Option.map_some, s1, s2, and_self, if_true, PyData.eqv, eqvAll_nil', List.isEmpty_map]
  show orR (dNeI _ _ M) (orR (dNeS _ _ M) (dNeD _ _ M)) = _
  rw [e]; rfl
/-- figures without a zero ahead, but 0 itself -/
def num (x : List Nat) : Bool := decide (x ≠ []) && (x.all (fun c => decide (isDg c)) && (decide (x = [48]) || decide (x.head? ≠ some 48)))
theorem num_ok {x : List Nat} (h : Lo x) (M : Stor) : f__law_is_number [.str (S x)] M = .ok (.bl (num x)) M := by
  have hl : x.length < 1000000 := by have := h.len; omega
  have c : ∀ s1 : Option D, gComp (giTxt (gVar 0)) (.one 1) (gTr truD (gBin dNotInS (gVar 1) (gC (.str "0123456789")))) (gVar 1) [some (.str (S x)), s1] M = .ok (.lst ((x.filter fun c => !decide (isDg c)).map fun c => .str (S [c]))) M := by
    intro s1
    refine (comp_txt (z := S x) rfl (fun d => match d with | .str z => !(z.cps.toList.all fun c => decide (isDg c)) | _ => false) (fun d => d) (by rw [S_len]; exact hl) ?_).trans ?_
    · intro d hd
      rw [signs_S] at hd
      obtain ⟨c, _, rfl⟩ := List.mem_map.mp hd
      refine ⟨[some (.str (S x)), some (.str (S [c]))], rfl, ?_, rfl⟩
      have e : ((S [c]).cps.toList.all fun c => decide (isDg c)) = decide (isDg c) := by rw [S_list]; simp
      have n : dNotInS (.str (S [c])) (.str (S [48, 49, 50, 51, 52, 53, 54, 55, 56, 57])) M = .ok (.bl (!decide (isDg c))) M := by
        show (match (S [c]).cps.toList with | [c] => R.ok (D.bl (!decide (c ∈ (S [48, 49, 50, 51, 52, 53, 54, 55, 56, 57]).cps.toList))) M | _ => .no) = _
        rw [S_list, S_list]
        dsimp only
        rw [figs_dec]
      simp only [gFn, gSeq, gSkip, gRet, gRetN, gExpr, gSet, gIf, gAug, gAsg, gPar2, gPar3, gVar, gC, gBin, gUn, gTr, gAnd, gOr, gNot, gAndV, gOrV, gNotV, gIfE, gCall, G.gCons, G.gNil, G.gTup, G.gLst, gLstM, gSl, goSome, goNone, R.bind_ok, R.bind_ex, R.bind_no, R.bindS_ok, R.bindS_ex, R.bindS_no, outS_nx, outS_rt, outS_ex, orR_ok, orR_ex, orR_no, ggName, ggSub, List.getElem?_cons_zero, List.getElem?_cons_succ, List.set_cons_zero, List.set_cons_succ, List.map_cons, List.map_nil, List.length_cons, List.length_nil, List.replicate, List.append_nil, List.nil_append, List.cons_append, Nat.reduceAdd, Nat.reduceSub, Nat.reduceLeDiff, Nat.reduceLT, if_true, if_false, not_false_eq_true, Bool.false_eq_true, Bool.true_eq_false, Bool.not_true, Bool.not_false, decide_true, decide_false, decide_eq_true_eq, reduceIte, reduceCtorEq, eAdd, eAddI, eSub, eLt, eLe, eGt, eGe, eEq, eNe, eEqS, eNeS, eTru, eNeg, eAbs, eInt, eIntB, eLenL, eLenT, figs, n, e, eTru]
    · rw [signs_S, List.map_id', List.filter_map]
      congr 3
      apply List.filter_congr
      intro c _
      show (!((S [c]).cps.toList.all fun c => decide (isDg c))) = _
      rw [S_list]; simp
  have ne := ne_nils (x.filter fun c => !decide (isDg c)) (fun c hc => h.lo c (List.mem_filter.mp hc).1) M
  by_cases hx : x = []
  · subst hx
    simp only [f__law_is_number, b__law_is_number, gFn, gSeq, gSkip, gRet, gRetN, gExpr, gSet, gIf, gAug, gAsg, gPar2, gPar3, gVar, gC, gBin, gUn, gTr, gAnd, gOr, gNot, gAndV, gOrV, gNotV, gIfE, gCall, G.gCons, G.gNil, G.gTup, G.gLst, gLstM, gSl, goSome, goNone, R.bind_ok, R.bind_ex, R.bind_no, R.bindS_ok, R.bindS_ex, R.bindS_no, outS_nx, outS_rt, outS_ex, orR_ok, orR_ex, orR_no, ggName, ggSub, List.getElem?_cons_zero, List.getElem?_cons_succ, List.set_cons_zero, List.set_cons_succ, List.map_cons, List.map_nil, List.length_cons, List.length_nil, List.replicate, List.append_nil, List.nil_append, List.cons_append, Nat.reduceAdd, Nat.reduceSub, Nat.reduceLeDiff, Nat.reduceLT, if_true, if_false, not_false_eq_true, Bool.false_eq_true, Bool.true_eq_false, Bool.not_true, Bool.not_false, decide_true, decide_false, decide_eq_true_eq, reduceIte, reduceCtorEq, eAdd, eAddI, eSub, eLt, eLe, eGt, eGe, eEq, eNe, eEqS, eNeS, eTru, eNeg, eAbs, eInt, eIntB, eLenL, eLenT, nil_S, tEq, S_eq]
    rfl
  · have hall : (!(x.filter fun c => !decide (isDg c)).isEmpty) = !(x.all fun c => decide (isDg c)) := by
      rw [Bool.not_inj_iff, Bool.eq_iff_iff]
      simp only [List.isEmpty_iff, List.filter_eq_nil_iff, List.all_eq_true, Bool.not_eq_true, Bool.not_eq_false', decide_eq_true_eq]
    rw [hall] at ne
    obtain ⟨c0, l0, rfl⟩ := List.exists_cons_of_ne_nil hx
    have ix := tIx (a := c0 :: l0) (i := 0) (c := c0) M (by omega) rfl
    have ix : dIx (.str (S (c0 :: l0))) (.int 0) M = .ok (.str (S [c0])) M := ix
    by_cases ha : ((c0 :: l0).all fun c => decide (isDg c)) = true
    · rw [ha] at ne
      have nn : num (c0 :: l0) = (decide (c0 :: l0 = [48]) || decide (¬ c0 = 48)) := by
        unfold num; rw [ha]; simp
      rw [nn]
      by_cases hz : c0 :: l0 = [48]
      · have hz' := decide_eq_true hz
        simp only [f__law_is_number, b__law_is_number, gFn, gSeq, gSkip, gRet, gRetN, gExpr, gSet, gIf, gAug, gAsg, gPar2, gPar3, gVar, gC, gBin, gUn, gTr, gAnd, gOr, gNot, gAndV, gOrV, gNotV, gIfE, gCall, G.gCons, G.gNil, G.gTup, G.gLst, gLstM, gSl, goSome, goNone, R.bind_ok, R.bind_ex, R.bind_no, R.bindS_ok, R.bindS_ex, R.bindS_no, outS_nx, outS_rt, outS_ex, orR_ok, orR_ex, orR_no, ggName, ggSub, List.getElem?_cons_zero, List.getElem?_cons_succ, List.set_cons_zero, List.set_cons_succ, List.map_cons, List.map_nil, List.length_cons, List.length_nil, List.replicate, List.append_nil, List.nil_append, List.cons_append, Nat.reduceAdd, Nat.reduceSub, Nat.reduceLeDiff, Nat.reduceLT, if_true, if_false, not_false_eq_true, Bool.false_eq_true, Bool.true_eq_false, Bool.not_true, Bool.not_false, decide_true, decide_false, decide_eq_true_eq, reduceIte, reduceCtorEq, eAdd, eAddI, eSub, eLt, eLe, eGt, eGe, eEq, eNe, eEqS, eNeS, eTru, eNeg, eAbs, eInt, eIntB, eLenL, eLenT, nil_S, tEq, S_eq, hx, c, ne, zero, hz', Bool.true_or]
      · by_cases hc : c0 = 48
        · subst hc
          have e2 : decide (48 :: l0 = [48]) = false := decide_eq_false hz
          simp only [f__law_is_number, b__law_is_number, gFn, gSeq, gSkip, gRet, gRetN, gExpr, gSet, gIf, gAug, gAsg, gPar2, gPar3, gVar, gC, gBin, gUn, gTr, gAnd, gOr, gNot, gAndV, gOrV, gNotV, gIfE, gCall, G.gCons, G.gNil, G.gTup, G.gLst, gLstM, gSl, goSome, goNone, R.bind_ok, R.bind_ex, R.bind_no, R.bindS_ok, R.bindS_ex, R.bindS_no, outS_nx, outS_rt, outS_ex, orR_ok, orR_ex, orR_no, ggName, ggSub, List.getElem?_cons_zero, List.getElem?_cons_succ, List.set_cons_zero, List.set_cons_succ, List.map_cons, List.map_nil, List.length_cons, List.length_nil, List.replicate, List.append_nil, List.nil_append, List.cons_append, Nat.reduceAdd, Nat.reduceSub, Nat.reduceLeDiff, Nat.reduceLT, if_true, if_false, not_false_eq_true, Bool.false_eq_true, Bool.true_eq_false, Bool.not_true, Bool.not_false, decide_true, decide_false, decide_eq_true_eq, reduceIte, reduceCtorEq, eAdd, eAddI, eSub, eLt, eLe, eGt, eGe, eEq, eNe, eEqS, eNeS, eTru, eNeg, eAbs, eInt, eIntB, eLenL, eLenT, nil_S, tEq, tNe, S_eq, hx, c, ne, zero, e2, hz, ix, Bool.false_or, not_true_eq_false]
        · have e3 : ¬ [c0] = [48] := by simpa using hc
          simp only [f__law_is_number, b__law_is_number, gFn, gSeq, gSkip, gRet, gRetN, gExpr, gSet, gIf, gAug, gAsg, gPar2, gPar3, gVar, gC, gBin, gUn, gTr, gAnd, gOr, gNot, gAndV, gOrV, gNotV, gIfE, gCall, G.gCons, G.gNil, G.gTup, G.gLst, gLstM, gSl, goSome, goNone, R.bind_ok, R.bind_ex, R.bind_no, R.bindS_ok, R.bindS_ex, R.bindS_no, outS_nx, outS_rt, outS_ex, orR_ok, orR_ex, orR_no, ggName, ggSub, List.getElem?_cons_zero, List.getElem?_cons_succ, List.set_cons_zero, List.set_cons_succ, List.map_cons, List.map_nil, List.length_cons, List.length_nil, List.replicate, List.append_nil, List.nil_append, List.cons_append, Nat.reduceAdd, Nat.reduceSub, Nat.reduceLeDiff, Nat.reduceLT, if_true, if_false, not_false_eq_true, Bool.false_eq_true, Bool.true_eq_false, Bool.not_true, Bool.not_false, decide_true, decide_false, decide_eq_true_eq, reduceIte, reduceCtorEq, eAdd, eAddI, eSub, eLt, eLe, eGt, eGe, eEq, eNe, eEqS, eNeS, eTru, eNeg, eAbs, eInt, eIntB, eLenL, eLenT, nil_S, tEq, tNe, S_eq, hx, c, ne, zero, hz, ix, Bool.false_or, e3, hc, not_false_eq_true]
    · rw [Bool.eq_false_iff.mpr ha] at ne
      have nn : num (c0 :: l0) = false := by unfold num; rw [Bool.eq_false_iff.mpr ha]; simp
      rw [nn]
      simp only [f__law_is_number, b__law_is_number, gFn, gSeq, gSkip, gRet, gRetN, gExpr, gSet, gIf, gAug, gAsg, gPar2, gPar3, gVar, gC, gBin, gUn, gTr, gAnd, gOr, gNot, gAndV, gOrV, gNotV, gIfE, gCall, G.gCons, G.gNil, G.gTup, G.gLst, gLstM, gSl, goSome, goNone, R.bind_ok, R.bind_ex, R.bind_no, R.bindS_ok, R.bindS_ex, R.bindS_no, outS_nx, outS_rt, outS_ex, orR_ok, orR_ex, orR_no, ggName, ggSub, List.getElem?_cons_zero, List.getElem?_cons_succ, List.set_cons_zero, List.set_cons_succ, List.map_cons, List.map_nil, List.length_cons, List.length_nil, List.replicate, List.append_nil, List.nil_append, List.cons_append, Nat.reduceAdd, Nat.reduceSub, Nat.reduceLeDiff, Nat.reduceLT, if_true, if_false, not_false_eq_true, Bool.false_eq_true, Bool.true_eq_false, Bool.not_true, Bool.not_false, decide_true, decide_false, decide_eq_true_eq, reduceIte, reduceCtorEq, eAdd, eAddI, eSub, eLt, eLe, eGt, eGe, eEq, eNe, eEqS, eNeS, eTru, eNeg, eAbs, eInt, eIntB, eLenL, eLenT, nil_S, tEq, S_eq, hx, c, ne]
end K06

namespace K06
open PySem L2 G SX
def body (p : List Nat) : List Nat := if p.take 1 = [45] then p.drop 1 else p
def endp (p : List Nat) : Bool := decide (endL.take p.length = p)
theorem part_none {p : List Nat} (h : 47 ∉ p) : Txt.partition (S p) (S [47]) = (S p, S [], S []) := partition_none (by simp) (par_head_none h)
theorem part_some {p q : List Nat} (h : 47 ∉ p) : Txt.partition (S (p ++ 47 :: q)) (S [47]) = (S p, S [47], S q) := partition_some (by simp) (by simpa using par_head (sep := []) q h)
theorem mPart {p : List Nat} (h : Lo p) {a b c : Str} (e : Txt.partition (S p) (S [47]) = (a, b, c)) (M : Stor) : mPartition (.str (S p)) [.str (S [47])] M = .ok (.tup [.str a, .str b, .str c]) M := by
  have hl : (S p).length ≤ 1000000 := by rw [S_len]; have := h.len; omega
  have hb : ((S [47]).length == 0) = false := by rw [S_len]; rfl
  show (if (S p).length ≤ 1000000 ∧ ((S [47]).length == 0) = false then R.ok (D.tup [.str (Txt.partition (S p) (S [47])).1, .str (Txt.partition (S p) (S [47])).2.1, .str (Txt.partition (S p) (S [47])).2.2]) M else .no) = _
  rw [if_pos ⟨hl, hb⟩, e]
theorem sl1 {p : List Nat} (h : Lo p) (M : Stor) : dSl (.str (S p)) none (some 1) M = .ok (.str (S (p.take 1))) M := by
  have := G.tSl p none (some ((1 : Nat) : Int)) M (by have := h.len; omega)
  rw [cut_to] at this; exact this
theorem sl1' {p : List Nat} (h : Lo p) (M : Stor) : dSl (.str (S p)) (some 1) none M = .ok (.str (S (p.drop 1))) M := by
  have := G.tSl p (some ((1 : Nat) : Int)) none M (by have := h.len; omega)
  rw [cut_from] at this; exact this
theorem slE (p : List Nat) (M : Stor) : dSl (.str (S endL)) none (some (p.length : Nat)) M = .ok (.str (S (endL.take p.length))) M := by
  have := G.tSl endL none (some ((p.length : Nat) : Int)) M (by simp)
  rw [cut_to] at this; exact this
theorem body_lo {p : List Nat} (h : Lo p) : Lo (body p) := by
  unfold body; split
  · exact h.drop 1
  · exact h
/-- a piece without a stroke -/
def beg1 (p : List Nat) : Bool := endp p || (decide (p = [45]) || (num (body p) && !decide (p = [45, 48])))
/-- a piece with a stroke -/
def beg2 (f a : List Nat) : Bool := num (body f) && (!decide (f = [45, 48]) && (decide (a = []) || (num a && !decide (a = [48]))))
theorem b_body {f : List Nat} (h : Lo f) (x0 x2 x3 x4 : Option D) (M : Stor) : gIfE (gTr truD (gBin dEq (gSl (gVar 1) goNone (goSome (gC (.int 1)))) (gC (.str "-")))) (gSl (gVar 1) (goSome (gC (.int 1))) goNone) (gVar 1) [x0, some (.str (S f)), x2, x3, x4] M = .ok (.str (S (body f))) M := by
  have s1 := sl1 h M
  have s2 := sl1' h M
  unfold body
  by_cases c : f.take 1 = [45]
  · rw [if_pos c]
    rw [c] at s1
    simp only [gFn, gSeq, gSkip, gRet, gRetN, gExpr, gSet, gIf, gAug, gAsg, gPar2, gPar3, gVar, gC, gBin, gUn, gTr, gAnd, gOr, gNot, gAndV, gOrV, gNotV, gIfE, gCall, G.gCons, G.gNil, G.gTup, G.gLst, gLstM, gSl, goSome, goNone, R.bind_ok, R.bind_ex, R.bind_no, R.bindS_ok, R.bindS_ex, R.bindS_no, outS_nx, outS_rt, outS_ex, orR_ok, orR_ex, orR_no, ggName, ggSub, List.getElem?_cons_zero, List.getElem?_cons_succ, List.set_cons_zero, List.set_cons_succ, List.map_cons, List.map_nil, List.length_cons, List.length_nil, List.replicate, List.append_nil, List.nil_append, List.cons_append, Nat.reduceAdd, Nat.reduceSub, Nat.reduceLeDiff, Nat.reduceLT, if_true, if_false, not_false_eq_true, Bool.false_eq_true, Bool.true_eq_false, Bool.not_true, Bool.not_false, decide_true, decide_false, decide_eq_true_eq, reduceIte, reduceCtorEq, eAdd, eAddI, eSub, eLt, eLe, eGt, eGe, eEq, eNe, eEqS, eNeS, eTru, eNeg, eAbs, eInt, eIntB, eLenL, eLenT, s1, minus, tEq, s2]
  · rw [if_neg c]
    simp only [gFn, gSeq, gSkip, gRet, gRetN, gExpr, gSet, gIf, gAug, gAsg, gPar2, gPar3, gVar, gC, gBin, gUn, gTr, gAnd, gOr, gNot, gAndV, gOrV, gNotV, gIfE, gCall, G.gCons, G.gNil, G.gTup, G.gLst, gLstM, gSl, goSome, goNone, R.bind_ok, R.bind_ex, R.bind_no, R.bindS_ok, R.bindS_ex, R.bindS_no, outS_nx, outS_rt, outS_ex, orR_ok, orR_ex, orR_no, ggName, ggSub, List.getElem?_cons_zero, List.getElem?_cons_succ, List.set_cons_zero, List.set_cons_succ, List.map_cons, List.map_nil, List.length_cons, List.length_nil, List.replicate, List.append_nil, List.nil_append, List.cons_append, Nat.reduceAdd, Nat.reduceSub, Nat.reduceLeDiff, Nat.reduceLT, if_true, if_false, not_false_eq_true, Bool.false_eq_true, Bool.true_eq_false, Bool.not_true, Bool.not_false, decide_true, decide_false, decide_eq_true_eq, reduceIte, reduceCtorEq, eAdd, eAddI, eSub, eLt, eLe, eGt, eGe, eEq, eNe, eEqS, eNeS, eTru, eNeg, eAbs, eInt, eIntB, eLenL, eLenT, s1, minus, tEq, c, S_eq]
theorem begins1 {p : List Nat} (h : Lo p) (hs : 47 ∉ p) (M : Stor) : f__law_begins [.str (S p)] M = .ok (.bl (beg1 p)) M := by
  have len := tLen p M (by have := h.len; omega)
  have sE := slE p M
  unfold beg1
  by_cases c1 : endL.take p.length = p
  · have e : endp p = true := decide_eq_true c1
    rw [e, Bool.true_or]
    rw [c1] at sE
    simp only [f__law_begins, b__law_begins, gFn, gSeq, gSkip, gRet, gRetN, gExpr, gSet, gIf, gAug, gAsg, gPar2, gPar3, gVar, gC, gBin, gUn, gTr, gAnd, gOr, gNot, gAndV, gOrV, gNotV, gIfE, gCall, G.gCons, G.gNil, G.gTup, G.gLst, gLstM, gSl, goSome, goNone, R.bind_ok, R.bind_ex, R.bind_no, R.bindS_ok, R.bindS_ex, R.bindS_no, outS_nx, outS_rt, outS_ex, orR_ok, orR_ex, orR_no, ggName, ggSub, List.getElem?_cons_zero, List.getElem?_cons_succ, List.set_cons_zero, List.set_cons_succ, List.map_cons, List.map_nil, List.length_cons, List.length_nil, List.replicate, List.append_nil, List.nil_append, List.cons_append, Nat.reduceAdd, Nat.reduceSub, Nat.reduceLeDiff, Nat.reduceLT, if_true, if_false, not_false_eq_true, Bool.false_eq_true, Bool.true_eq_false, Bool.not_true, Bool.not_false, decide_true, decide_false, decide_eq_true_eq, reduceIte, reduceCtorEq, eAdd, eAddI, eSub, eLt, eLe, eGt, eGe, eEq, eNe, eEqS, eNeS, eTru, eNeg, eAbs, eInt, eIntB, eLenL, eLenT, len, endl, sE, tEq]
  · have e : endp p = false := decide_eq_false c1
    rw [e, Bool.false_or]
    by_cases c2 : p = [45]
    · have c2' := decide_eq_true c2
      rw [c2']
      simp only [f__law_begins, b__law_begins, gFn, gSeq, gSkip, gRet, gRetN, gExpr, gSet, gIf, gAug, gAsg, gPar2, gPar3, gVar, gC, gBin, gUn, gTr, gAnd, gOr, gNot, gAndV, gOrV, gNotV, gIfE, gCall, G.gCons, G.gNil, G.gTup, G.gLst, gLstM, gSl, goSome, goNone, R.bind_ok, R.bind_ex, R.bind_no, R.bindS_ok, R.bindS_ex, R.bindS_no, outS_nx, outS_rt, outS_ex, orR_ok, orR_ex, orR_no, ggName, ggSub, List.getElem?_cons_zero, List.getElem?_cons_succ, List.set_cons_zero, List.set_cons_succ, List.map_cons, List.map_nil, List.length_cons, List.length_nil, List.replicate, List.append_nil, List.nil_append, List.cons_append, Nat.reduceAdd, Nat.reduceSub, Nat.reduceLeDiff, Nat.reduceLT, if_true, if_false, not_false_eq_true, Bool.false_eq_true, Bool.true_eq_false, Bool.not_true, Bool.not_false, decide_true, decide_false, decide_eq_true_eq, reduceIte, reduceCtorEq, eAdd, eAddI, eSub, eLt, eLe, eGt, eGe, eEq, eNe, eEqS, eNeS, eTru, eNeg, eAbs, eInt, eIntB, eLenL, eLenT, len, endl, sE, tEq, S_eq, c1, minus, c2', Bool.true_or]
    · rw [decide_eq_false c2, Bool.false_or]
      have pt := mPart h (part_none hs) M
      have bb := fun x0 x2 x3 x4 => b_body h x0 x2 x3 x4 M
      have nb := num_ok (body_lo h) M
      cases hn : num (body p) with
      | false =>
        rw [hn] at nb
        refine fn_rt rfl ?_
        show b__law_begins [some (.str (S p)), none, none, none, none] M = _
        unfold b__law_begins
        rw [seq_nx (Γ1 := [some (.str (S p)), none, none, none, none]) (M1 := M) (by simp only [gFn, gSeq, gSkip, gRet, gRetN, gExpr, gSet, gIf, gAug, gAsg, gPar2, gPar3, gVar, gC, gBin, gUn, gTr, gAnd, gOr, gNot, gAndV, gOrV, gNotV, gIfE, gCall, G.gCons, G.gNil, G.gTup, G.gLst, gLstM, gSl, goSome, goNone, R.bind_ok, R.bind_ex, R.bind_no, R.bindS_ok, R.bindS_ex, R.bindS_no, outS_nx, outS_rt, outS_ex, orR_ok, orR_ex, orR_no, ggName, ggSub, List.getElem?_cons_zero, List.getElem?_cons_succ, List.set_cons_zero, List.set_cons_succ, List.map_cons, List.map_nil, List.length_cons, List.length_nil, List.replicate, List.append_nil, List.nil_append, List.cons_append, Nat.reduceAdd, Nat.reduceSub, Nat.reduceLeDiff, Nat.reduceLT, if_true, if_false, not_false_eq_true, Bool.false_eq_true, Bool.true_eq_false, Bool.not_true, Bool.not_false, decide_true, decide_false, decide_eq_true_eq, reduceIte, reduceCtorEq, eAdd, eAddI, eSub, eLt, eLe, eGt, eGe, eEq, eNe, eEqS, eNeS, eTru, eNeg, eAbs, eInt, eIntB, eLenL, eLenT, len, endl, sE, tEq, S_eq, c1, minus, c2])]
        rw [seq_nx (Γ1 := [some (.str (S p)), some (.str (S p)), some (.str (S [])), some (.str (S [])), none]) (M1 := M) (by simp only [gFn, gSeq, gSkip, gRet, gRetN, gExpr, gSet, gIf, gAug, gAsg, gPar2, gPar3, gVar, gC, gBin, gUn, gTr, gAnd, gOr, gNot, gAndV, gOrV, gNotV, gIfE, gCall, G.gCons, G.gNil, G.gTup, G.gLst, gLstM, gSl, goSome, goNone, R.bind_ok, R.bind_ex, R.bind_no, R.bindS_ok, R.bindS_ex, R.bindS_no, outS_nx, outS_rt, outS_ex, orR_ok, orR_ex, orR_no, ggName, ggSub, List.getElem?_cons_zero, List.getElem?_cons_succ, List.set_cons_zero, List.set_cons_succ, List.map_cons, List.map_nil, List.length_cons, List.length_nil, List.replicate, List.append_nil, List.nil_append, List.cons_append, Nat.reduceAdd, Nat.reduceSub, Nat.reduceLeDiff, Nat.reduceLT, if_true, if_false, not_false_eq_true, Bool.false_eq_true, Bool.true_eq_false, Bool.not_true, Bool.not_false, decide_true, decide_false, decide_eq_true_eq, reduceIte, reduceCtorEq, eAdd, eAddI, eSub, eLt, eLe, eGt, eGe, eEq, eNe, eEqS, eNeS, eTru, eNeg, eAbs, eInt, eIntB, eLenL, eLenT, gMtS, slash, pt, gg3])]
        rw [seq_nx (Γ1 := [some (.str (S p)), some (.str (S p)), some (.str (S [])), some (.str (S [])), some (.str (S (body p)))]) (M1 := M) (by unfold gSet; rw [bb]; rfl)]
        simp only [gFn, gSeq, gSkip, gRet, gRetN, gExpr, gSet, gIf, gAug, gAsg, gPar2, gPar3, gVar, gC, gBin, gUn, gTr, gAnd, gOr, gNot, gAndV, gOrV, gNotV, gIfE, gCall, G.gCons, G.gNil, G.gTup, G.gLst, gLstM, gSl, goSome, goNone, R.bind_ok, R.bind_ex, R.bind_no, R.bindS_ok, R.bindS_ex, R.bindS_no, outS_nx, outS_rt, outS_ex, orR_ok, orR_ex, orR_no, ggName, ggSub, List.getElem?_cons_zero, List.getElem?_cons_succ, List.set_cons_zero, List.set_cons_succ, List.map_cons, List.map_nil, List.length_cons, List.length_nil, List.replicate, List.append_nil, List.nil_append, List.cons_append, Nat.reduceAdd, Nat.reduceSub, Nat.reduceLeDiff, Nat.reduceLT, if_true, if_false, not_false_eq_true, Bool.false_eq_true, Bool.true_eq_false, Bool.not_true, Bool.not_false, decide_true, decide_false, decide_eq_true_eq, reduceIte, reduceCtorEq, eAdd, eAddI, eSub, eLt, eLe, eGt, eGe, eEq, eNe, eEqS, eNeS, eTru, eNeg, eAbs, eInt, eIntB, eLenL, eLenT, nb, Bool.false_and]
      | true =>
        rw [hn] at nb
        refine fn_rt rfl ?_
        show b__law_begins [some (.str (S p)), none, none, none, none] M = _
        unfold b__law_begins
        rw [seq_nx (Γ1 := [some (.str (S p)), none, none, none, none]) (M1 := M) (by simp only [gFn, gSeq, gSkip, gRet, gRetN, gExpr, gSet, gIf, gAug, gAsg, gPar2, gPar3, gVar, gC, gBin, gUn, gTr, gAnd, gOr, gNot, gAndV, gOrV, gNotV, gIfE, gCall, G.gCons, G.gNil, G.gTup, G.gLst, gLstM, gSl, goSome, goNone, R.bind_ok, R.bind_ex, R.bind_no, R.bindS_ok, R.bindS_ex, R.bindS_no, outS_nx, outS_rt, outS_ex, orR_ok, orR_ex, orR_no, ggName, ggSub, List.getElem?_cons_zero, List.getElem?_cons_succ, List.set_cons_zero, List.set_cons_succ, List.map_cons, List.map_nil, List.length_cons, List.length_nil, List.replicate, List.append_nil, List.nil_append, List.cons_append, Nat.reduceAdd, Nat.reduceSub, Nat.reduceLeDiff, Nat.reduceLT, if_true, if_false, not_false_eq_true, Bool.false_eq_true, Bool.true_eq_false, Bool.not_true, Bool.not_false, decide_true, decide_false, decide_eq_true_eq, reduceIte, reduceCtorEq, eAdd, eAddI, eSub, eLt, eLe, eGt, eGe, eEq, eNe, eEqS, eNeS, eTru, eNeg, eAbs, eInt, eIntB, eLenL, eLenT, len, endl, sE, tEq, S_eq, c1, minus, c2])]
        rw [seq_nx (Γ1 := [some (.str (S p)), some (.str (S p)), some (.str (S [])), some (.str (S [])), none]) (M1 := M) (by simp only [gFn, gSeq, gSkip, gRet, gRetN, gExpr, gSet, gIf, gAug, gAsg, gPar2, gPar3, gVar, gC, gBin, gUn, gTr, gAnd, gOr, gNot, gAndV, gOrV, gNotV, gIfE, gCall, G.gCons, G.gNil, G.gTup, G.gLst, gLstM, gSl, goSome, goNone, R.bind_ok, R.bind_ex, R.bind_no, R.bindS_ok, R.bindS_ex, R.bindS_no, outS_nx, outS_rt, outS_ex, orR_ok, orR_ex, orR_no, ggName, ggSub, List.getElem?_cons_zero, List.getElem?_cons_succ, List.set_cons_zero, List.set_cons_succ, List.map_cons, List.map_nil, List.length_cons, List.length_nil, List.replicate, List.append_nil, List.nil_append, List.cons_append, Nat.reduceAdd, Nat.reduceSub, Nat.reduceLeDiff, Nat.reduceLT, if_true, if_false, not_false_eq_true, Bool.false_eq_true, Bool.true_eq_false, Bool.not_true, Bool.not_false, decide_true, decide_false, decide_eq_true_eq, reduceIte, reduceCtorEq, eAdd, eAddI, eSub, eLt, eLe, eGt, eGe, eEq, eNe, eEqS, eNeS, eTru, eNeg, eAbs, eInt, eIntB, eLenL, eLenT, gMtS, slash, pt, gg3])]
        rw [seq_nx (Γ1 := [some (.str (S p)), some (.str (S p)), some (.str (S [])), some (.str (S [])), some (.str (S (body p)))]) (M1 := M) (by unfold gSet; rw [bb]; rfl)]
        by_cases c3 : p = [45, 48]
        · have c3' := decide_eq_true c3
          rw [c3']
          simp only [gFn, gSeq, gSkip, gRet, gRetN, gExpr, gSet, gIf, gAug, gAsg, gPar2, gPar3, gVar, gC, gBin, gUn, gTr, gAnd, gOr, gNot, gAndV, gOrV, gNotV, gIfE, gCall, G.gCons, G.gNil, G.gTup, G.gLst, gLstM, gSl, goSome, goNone, R.bind_ok, R.bind_ex, R.bind_no, R.bindS_ok, R.bindS_ex, R.bindS_no, outS_nx, outS_rt, outS_ex, orR_ok, orR_ex, orR_no, ggName, ggSub, List.getElem?_cons_zero, List.getElem?_cons_succ, List.set_cons_zero, List.set_cons_succ, List.map_cons, List.map_nil, List.length_cons, List.length_nil, List.replicate, List.append_nil, List.nil_append, List.cons_append, Nat.reduceAdd, Nat.reduceSub, Nat.reduceLeDiff, Nat.reduceLT, if_true, if_false, not_false_eq_true, Bool.false_eq_true, Bool.true_eq_false, Bool.not_true, Bool.not_false, decide_true, decide_false, decide_eq_true_eq, reduceIte, reduceCtorEq, eAdd, eAddI, eSub, eLt, eLe, eGt, eGe, eEq, eNe, eEqS, eNeS, eTru, eNeg, eAbs, eInt, eIntB, eLenL, eLenT, nb, mzero, tEq, S_eq, c3', Bool.true_and]
        · rw [decide_eq_false c3]
          simp only [gFn, gSeq, gSkip, gRet, gRetN, gExpr, gSet, gIf, gAug, gAsg, gPar2, gPar3, gVar, gC, gBin, gUn, gTr, gAnd, gOr, gNot, gAndV, gOrV, gNotV, gIfE, gCall, G.gCons, G.gNil, G.gTup, G.gLst, gLstM, gSl, goSome, goNone, R.bind_ok, R.bind_ex, R.bind_no, R.bindS_ok, R.bindS_ex, R.bindS_no, outS_nx, outS_rt, outS_ex, orR_ok, orR_ex, orR_no, ggName, ggSub, List.getElem?_cons_zero, List.getElem?_cons_succ, List.set_cons_zero, List.set_cons_succ, List.map_cons, List.map_nil, List.length_cons, List.length_nil, List.replicate, List.append_nil, List.nil_append, List.cons_append, Nat.reduceAdd, Nat.reduceSub, Nat.reduceLeDiff, Nat.reduceLT, if_true, if_false, not_false_eq_true, Bool.false_eq_true, Bool.true_eq_false, Bool.not_true, Bool.not_false, decide_true, decide_false, decide_eq_true_eq, reduceIte, reduceCtorEq, eAdd, eAddI, eSub, eLt, eLe, eGt, eGe, eEq, eNe, eEqS, eNeS, eTru, eNeg, eAbs, eInt, eIntB, eLenL, eLenT, nb, mzero, tEq, S_eq, c3, nil_S, Bool.true_and]
theorem begins2 {f a : List Nat} (h : Lo (f ++ 47 :: a)) (hs : 47 ∉ f) (M : Stor) : f__law_begins [.str (S (f ++ 47 :: a))] M = .ok (.bl (beg2 f a)) M := by
  have len := tLen (f ++ 47 :: a) M (by have := h.len; omega)
  have sE := slE (f ++ 47 :: a) M
  have hf : Lo f := by
    have := h.take f.length
    rwa [List.take_left] at this
  have ha : Lo a := by
    have := h.drop (f.length + 1)
    rwa [List.drop_append, show f.length + 1 - f.length = 1 by omega, List.drop_of_length_le (by omega)] at this
  have c1 : ¬ endL.take (f ++ 47 :: a).length = f ++ 47 :: a := by
    intro e
    have : 47 ∈ endL := by
      have : 47 ∈ endL.take (f ++ 47 :: a).length := by rw [e]; simp
      exact List.mem_of_mem_take this
    revert this; decide
  have c2 : ¬ f ++ 47 :: a = [45] := by
    intro e
    have : 47 ∈ [45] := by rw [← e]; simp
    revert this; decide
  have pt := mPart h (part_some (q := a) hs) M
  have bb := fun x0 x2 x3 x4 => b_body hf x0 x2 x3 x4 M
  have nb := num_ok (body_lo hf) M
  have na := num_ok ha M
  unfold beg2
  refine fn_rt rfl ?_
  show b__law_begins [some (.str (S (f ++ 47 :: a))), none, none, none, none] M = _
  unfold b__law_begins
  rw [seq_nx (Γ1 := [some (.str (S (f ++ 47 :: a))), none, none, none, none]) (M1 := M) (by simp only [gFn, gSeq, gSkip, gRet, gRetN, gExpr, gSet, gIf, gAug, gAsg, gPar2, gPar3, gVar, gC, gBin, gUn, gTr, gAnd, gOr, gNot, gAndV, gOrV, gNotV, gIfE, gCall, G.gCons, G.gNil, G.gTup, G.gLst, gLstM, gSl, goSome, goNone, R.bind_ok, R.bind_ex, R.bind_no, R.bindS_ok, R.bindS_ex, R.bindS_no, outS_nx, outS_rt, outS_ex, orR_ok, orR_ex, orR_no, ggName, ggSub, List.getElem?_cons_zero, List.getElem?_cons_succ, List.set_cons_zero, List.set_cons_succ, List.map_cons, List.map_nil, List.length_cons, List.length_nil, List.replicate, List.append_nil, List.nil_append, List.cons_append, Nat.reduceAdd, Nat.reduceSub, Nat.reduceLeDiff, Nat.reduceLT, if_true, if_false, not_false_eq_true, Bool.false_eq_true, Bool.true_eq_false, Bool.not_true, Bool.not_false, decide_true, decide_false, decide_eq_true_eq, reduceIte, reduceCtorEq, eAdd, eAddI, eSub, eLt, eLe, eGt, eGe, eEq, eNe, eEqS, eNeS, eTru, eNeg, eAbs, eInt, eIntB, eLenL, eLenT, len, endl, sE, tEq, S_eq, c1, minus, c2])]
  rw [seq_nx (Γ1 := [some (.str (S (f ++ 47 :: a))), some (.str (S f)), some (.str (S [47])), some (.str (S a)), none]) (M1 := M) (by simp only [gFn, gSeq, gSkip, gRet, gRetN, gExpr, gSet, gIf, gAug, gAsg, gPar2, gPar3, gVar, gC, gBin, gUn, gTr, gAnd, gOr, gNot, gAndV, gOrV, gNotV, gIfE, gCall, G.gCons, G.gNil, G.gTup, G.gLst, gLstM, gSl, goSome, goNone, R.bind_ok, R.bind_ex, R.bind_no, R.bindS_ok, R.bindS_ex, R.bindS_no, outS_nx, outS_rt, outS_ex, orR_ok, orR_ex, orR_no, ggName, ggSub, List.getElem?_cons_zero, List.getElem?_cons_succ, List.set_cons_zero, List.set_cons_succ, List.map_cons, List.map_nil, List.length_cons, List.length_nil, List.replicate, List.append_nil, List.nil_append, List.cons_append, Nat.reduceAdd, Nat.reduceSub, Nat.reduceLeDiff, Nat.reduceLT, if_true, if_false, not_false_eq_true, Bool.false_eq_true, Bool.true_eq_false, Bool.not_true, Bool.not_false, decide_true, decide_false, decide_eq_true_eq, reduceIte, reduceCtorEq, eAdd, eAddI, eSub, eLt, eLe, eGt, eGe, eEq, eNe, eEqS, eNeS, eTru, eNeg, eAbs, eInt, eIntB, eLenL, eLenT, gMtS, slash, pt, gg3])]
  rw [seq_nx (Γ1 := [some (.str (S (f ++ 47 :: a))), some (.str (S f)), some (.str (S [47])), some (.str (S a)), some (.str (S (body f)))]) (M1 := M) (by unfold gSet; rw [bb]; rfl)]
  cases hn : num (body f) with
  | false =>
    rw [hn] at nb
    simp only [gFn, gSeq, gSkip, gRet, gRetN, gExpr, gSet, gIf, gAug, gAsg, gPar2, gPar3, gVar, gC, gBin, gUn, gTr, gAnd, gOr, gNot, gAndV, gOrV, gNotV, gIfE, gCall, G.gCons, G.gNil, G.gTup, G.gLst, gLstM, gSl, goSome, goNone, R.bind_ok, R.bind_ex, R.bind_no, R.bindS_ok, R.bindS_ex, R.bindS_no, outS_nx, outS_rt, outS_ex, orR_ok, orR_ex, orR_no, ggName, ggSub, List.getElem?_cons_zero, List.getElem?_cons_succ, List.set_cons_zero, List.set_cons_succ, List.map_cons, List.map_nil, List.length_cons, List.length_nil, List.replicate, List.append_nil, List.nil_append, List.cons_append, Nat.reduceAdd, Nat.reduceSub, Nat.reduceLeDiff, Nat.reduceLT, if_true, if_false, not_false_eq_true, Bool.false_eq_true, Bool.true_eq_false, Bool.not_true, Bool.not_false, decide_true, decide_false, decide_eq_true_eq, reduceIte, reduceCtorEq, eAdd, eAddI, eSub, eLt, eLe, eGt, eGe, eEq, eNe, eEqS, eNeS, eTru, eNeg, eAbs, eInt, eIntB, eLenL, eLenT, nb, Bool.false_and]
  | true =>
    rw [hn] at nb
    by_cases c3 : f = [45, 48]
    · have c3' := decide_eq_true c3
      rw [c3']
      simp only [gFn, gSeq, gSkip, gRet, gRetN, gExpr, gSet, gIf, gAug, gAsg, gPar2, gPar3, gVar, gC, gBin, gUn, gTr, gAnd, gOr, gNot, gAndV, gOrV, gNotV, gIfE, gCall, G.gCons, G.gNil, G.gTup, G.gLst, gLstM, gSl, goSome, goNone, R.bind_ok, R.bind_ex, R.bind_no, R.bindS_ok, R.bindS_ex, R.bindS_no, outS_nx, outS_rt, outS_ex, orR_ok, orR_ex, orR_no, ggName, ggSub, List.getElem?_cons_zero, List.getElem?_cons_succ, List.set_cons_zero, List.set_cons_succ, List.map_cons, List.map_nil, List.length_cons, List.length_nil, List.replicate, List.append_nil, List.nil_append, List.cons_append, Nat.reduceAdd, Nat.reduceSub, Nat.reduceLeDiff, Nat.reduceLT, if_true, if_false, not_false_eq_true, Bool.false_eq_true, Bool.true_eq_false, Bool.not_true, Bool.not_false, decide_true, decide_false, decide_eq_true_eq, reduceIte, reduceCtorEq, eAdd, eAddI, eSub, eLt, eLe, eGt, eGe, eEq, eNe, eEqS, eNeS, eTru, eNeg, eAbs, eInt, eIntB, eLenL, eLenT, nb, mzero, tEq, S_eq, c3', Bool.true_and, Bool.false_and]
    · rw [decide_eq_false c3]
      have n47 : ¬ [47] = ([] : List Nat) := by simp
      by_cases c4 : a = []
      · have c4' := decide_eq_true c4
        rw [c4']
        simp only [gFn, gSeq, gSkip, gRet, gRetN, gExpr, gSet, gIf, gAug, gAsg, gPar2, gPar3, gVar, gC, gBin, gUn, gTr, gAnd, gOr, gNot, gAndV, gOrV, gNotV, gIfE, gCall, G.gCons, G.gNil, G.gTup, G.gLst, gLstM, gSl, goSome, goNone, R.bind_ok, R.bind_ex, R.bind_no, R.bindS_ok, R.bindS_ex, R.bindS_no, outS_nx, outS_rt, outS_ex, orR_ok, orR_ex, orR_no, ggName, ggSub, List.getElem?_cons_zero, List.getElem?_cons_succ, List.set_cons_zero, List.set_cons_succ, List.map_cons, List.map_nil, List.length_cons, List.length_nil, List.replicate, List.append_nil, List.nil_append, List.cons_append, Nat.reduceAdd, Nat.reduceSub, Nat.reduceLeDiff, Nat.reduceLT, if_true, if_false, not_false_eq_true, Bool.false_eq_true, Bool.true_eq_false, Bool.not_true, Bool.not_false, decide_true, decide_false, decide_eq_true_eq, reduceIte, reduceCtorEq, eAdd, eAddI, eSub, eLt, eLe, eGt, eGe, eEq, eNe, eEqS, eNeS, eTru, eNeg, eAbs, eInt, eIntB, eLenL, eLenT, nb, mzero, tEq, S_eq, c3, nil_S, n47, c4', Bool.true_and, Bool.true_or]
      · rw [decide_eq_false c4]
        cases hm : num a with
        | false =>
          rw [hm] at na
          simp only [gFn, gSeq, gSkip, gRet, gRetN, gExpr, gSet, gIf, gAug, gAsg, gPar2, gPar3, gVar, gC, gBin, gUn, gTr, gAnd, gOr, gNot, gAndV, gOrV, gNotV, gIfE, gCall, G.gCons, G.gNil, G.gTup, G.gLst, gLstM, gSl, goSome, goNone, R.bind_ok, R.bind_ex, R.bind_no, R.bindS_ok, R.bindS_ex, R.bindS_no, outS_nx, outS_rt, outS_ex, orR_ok, orR_ex, orR_no, ggName, ggSub, List.getElem?_cons_zero, List.getElem?_cons_succ, List.set_cons_zero, List.set_cons_succ, List.map_cons, List.map_nil, List.length_cons, List.length_nil, List.replicate, List.append_nil, List.nil_append, List.cons_append, Nat.reduceAdd, Nat.reduceSub, Nat.reduceLeDiff, Nat.reduceLT, if_true, if_false, not_false_eq_true, Bool.false_eq_true, Bool.true_eq_false, Bool.not_true, Bool.not_false, decide_true, decide_false, decide_eq_true_eq, reduceIte, reduceCtorEq, eAdd, eAddI, eSub, eLt, eLe, eGt, eGe, eEq, eNe, eEqS, eNeS, eTru, eNeg, eAbs, eInt, eIntB, eLenL, eLenT, nb, mzero, tEq, S_eq, c3, nil_S, n47, c4, na, Bool.true_and, Bool.false_or, Bool.false_and]
        | true =>
          rw [hm] at na
          simp only [gFn, gSeq, gSkip, gRet, gRetN, gExpr, gSet, gIf, gAug, gAsg, gPar2, gPar3, gVar, gC, gBin, gUn, gTr, gAnd, gOr, gNot, gAndV, gOrV, gNotV, gIfE, gCall, G.gCons, G.gNil, G.gTup, G.gLst, gLstM, gSl, goSome, goNone, R.bind_ok, R.bind_ex, R.bind_no, R.bindS_ok, R.bindS_ex, R.bindS_no, outS_nx, outS_rt, outS_ex, orR_ok, orR_ex, orR_no, ggName, ggSub, List.getElem?_cons_zero, List.getElem?_cons_succ, List.set_cons_zero, List.set_cons_succ, List.map_cons, List.map_nil, List.length_cons, List.length_nil, List.replicate, List.append_nil, List.nil_append, List.cons_append, Nat.reduceAdd, Nat.reduceSub, Nat.reduceLeDiff, Nat.reduceLT, if_true, if_false, not_false_eq_true, Bool.false_eq_true, Bool.true_eq_false, Bool.not_true, Bool.not_false, decide_true, decide_false, decide_eq_true_eq, reduceIte, reduceCtorEq, eAdd, eAddI, eSub, eLt, eLe, eGt, eGe, eEq, eNe, eEqS, eNeS, eTru, eNeg, eAbs, eInt, eIntB, eLenL, eLenT, nb, mzero, zero, tEq, tNe, S_eq, c3, nil_S, n47, c4, na, Bool.true_and, Bool.false_or]
end K06

namespace K06
open PySem L2 G SX
/-! ### the program's reading, piece by piece -/
abbrev NoDg (r : List Nat) : Prop := ∀ c l, r = c :: l → ¬ isDg c
theorem fig_ok (p d r : List Nat) (M : Stor) (hl : (p ++ (d ++ r)).length ≤ 1000000) (hd : ∀ c ∈ d, isDg c) (hr : NoDg r) :
    f_figures_end [.str (S (p ++ (d ++ r))), .int (p.length : Nat)] M = .ok (.int ((p ++ d).length : Nat)) M := by
  have len := tLen (p ++ (d ++ r)) M hl
  have e : ∀ (d' : List Nat) (p' : List Nat) (n : Nat), p' ++ (d' ++ r) = p ++ (d ++ r) → (∀ c ∈ d', isDg c) → d'.length < n →
      gWhile (gAnd (gTr truD (gBin dLtI (gVar 2) (gCall fLen (gCons (gVar 0) gNil)))) (gTr truD (gBin dInS (gBin dIx (gVar 0) (gVar 2)) (gC (.str "0123456789"))))) (gAug 2 dAddI (gC (.int 1))) n [some (.str (S (p ++ (d ++ r)))), some (.int (p.length : Nat)), some (.int (p'.length : Nat))] M
      = .nx [some (.str (S (p ++ (d ++ r)))), some (.int (p.length : Nat)), some (.int ((p' ++ d').length : Nat))] M := by
    intro d'
    induction d' with
    | nil =>
      intro p' n he _ hn
      obtain ⟨n, rfl⟩ : ∃ k, n = k + 1 := ⟨n - 1, by omega⟩
      rw [while_step]
      rw [List.append_nil]
      by_cases c : r = []
      · have hlt : ¬ ((p'.length : Nat) : Int) < ((p ++ (d ++ r)).length : Nat) := by rw [← he, c]; simp
        simp only [gFn, gSeq, gSkip, gRet, gRetN, gExpr, gSet, gIf, gAug, gAsg, gPar2, gPar3, gVar, gC, gBin, gUn, gTr, gAnd, gOr, gNot, gAndV, gOrV, gNotV, gIfE, gCall, G.gCons, G.gNil, G.gTup, G.gLst, gLstM, gSl, goSome, goNone, R.bind_ok, R.bind_ex, R.bind_no, R.bindS_ok, R.bindS_ex, R.bindS_no, outS_nx, outS_rt, outS_ex, orR_ok, orR_ex, orR_no, ggName, ggSub, List.getElem?_cons_zero, List.getElem?_cons_succ, List.set_cons_zero, List.set_cons_succ, List.map_cons, List.map_nil, List.length_cons, List.length_nil, List.replicate, List.append_nil, List.nil_append, List.cons_append, Nat.reduceAdd, Nat.reduceSub, Nat.reduceLeDiff, Nat.reduceLT, if_true, if_false, not_false_eq_true, Bool.false_eq_true, Bool.true_eq_false, Bool.not_true, Bool.not_false, decide_true, decide_false, decide_eq_true_eq, reduceIte, reduceCtorEq, eAdd, eAddI, eSub, eLt, eLe, eGt, eGe, eEq, eNe, eEqS, eNeS, eTru, eNeg, eAbs, eInt, eIntB, eLenL, eLenT, len, hlt]
      · obtain ⟨x, l, rfl⟩ := List.exists_cons_of_ne_nil c
        have hlt : ((p'.length : Nat) : Int) < ((p ++ (d ++ x :: l)).length : Nat) := by rw [← he]; simp; omega
        have at_ : (p ++ (d ++ x :: l))[p'.length]? = some x := by rw [← he]; simp
        have ix := tIx M hl at_
        have nd : ¬ x ∈ [48, 49, 50, 51, 52, 53, 54, 55, 56, 57] := fun z => hr x l rfl ((figs_in x).mp z)
        simp only [gFn, gSeq, gSkip, gRet, gRetN, gExpr, gSet, gIf, gAug, gAsg, gPar2, gPar3, gVar, gC, gBin, gUn, gTr, gAnd, gOr, gNot, gAndV, gOrV, gNotV, gIfE, gCall, G.gCons, G.gNil, G.gTup, G.gLst, gLstM, gSl, goSome, goNone, R.bind_ok, R.bind_ex, R.bind_no, R.bindS_ok, R.bindS_ex, R.bindS_no, outS_nx, outS_rt, outS_ex, orR_ok, orR_ex, orR_no, ggName, ggSub, List.getElem?_cons_zero, List.getElem?_cons_succ, List.set_cons_zero, List.set_cons_succ, List.map_cons, List.map_nil, List.length_cons, List.length_nil, List.replicate, List.append_nil, List.nil_append, List.cons_append, Nat.reduceAdd, Nat.reduceSub, Nat.reduceLeDiff, Nat.reduceLT, if_true, if_false, not_false_eq_true, Bool.false_eq_true, Bool.true_eq_false, Bool.not_true, Bool.not_false, decide_true, decide_false, decide_eq_true_eq, reduceIte, reduceCtorEq, eAdd, eAddI, eSub, eLt, eLe, eGt, eGe, eEq, eNe, eEqS, eNeS, eTru, eNeg, eAbs, eInt, eIntB, eLenL, eLenT, len, decide_eq_true hlt, ix, figs, tIn, decide_eq_false nd]
    | cons x d' ih =>
      intro p' n he ha hn
      obtain ⟨n, rfl⟩ : ∃ k, n = k + 1 := ⟨n - 1, by omega⟩
      rw [while_step]
      have hlt : ((p'.length : Nat) : Int) < ((p ++ (d ++ r)).length : Nat) := by rw [← he]; simp; omega
      have at_ : (p ++ (d ++ r))[p'.length]? = some x := by rw [← he]; simp
      have ix := tIx M hl at_
      have nd : x ∈ [48, 49, 50, 51, 52, 53, 54, 55, 56, 57] := (figs_in x).mpr (ha x List.mem_cons_self)
      have k := ih (p' ++ [x]) n (by rw [← he]; simp) (fun c hc => ha c (List.mem_cons_of_mem _ hc)) (by simp at hn; omega)
      have el : ((p'.length : Nat) : Int) + 1 = ((p' ++ [x]).length : Nat) := by simp
      have ea : (p' ++ [x] ++ d') = p' ++ x :: d' := by simp
      rw [ea] at k
      simp only [gFn, gSeq, gSkip, gRet, gRetN, gExpr, gSet, gIf, gAug, gAsg, gPar2, gPar3, gVar, gC, gBin, gUn, gTr, gAnd, gOr, gNot, gAndV, gOrV, gNotV, gIfE, gCall, G.gCons, G.gNil, G.gTup, G.gLst, gLstM, gSl, goSome, goNone, R.bind_ok, R.bind_ex, R.bind_no, R.bindS_ok, R.bindS_ex, R.bindS_no, outS_nx, outS_rt, outS_ex, orR_ok, orR_ex, orR_no, ggName, ggSub, List.getElem?_cons_zero, List.getElem?_cons_succ, List.set_cons_zero, List.set_cons_succ, List.map_cons, List.map_nil, List.length_cons, List.length_nil, List.replicate, List.append_nil, List.nil_append, List.cons_append, Nat.reduceAdd, Nat.reduceSub, Nat.reduceLeDiff, Nat.reduceLT, if_true, if_false, not_false_eq_true, Bool.false_eq_true, Bool.true_eq_false, Bool.not_true, Bool.not_false, decide_true, decide_false, decide_eq_true_eq, reduceIte, reduceCtorEq, eAdd, eAddI, eSub, eLt, eLe, eGt, eGe, eEq, eNe, eEqS, eNeS, eTru, eNeg, eAbs, eInt, eIntB, eLenL, eLenT, len, decide_eq_true hlt, ix, figs, tIn, decide_eq_true nd]
      rw [el]; exact k
  have w := e d p fuel rfl hd (Nat.lt_of_lt_of_le (m := 1000001) (by simp at hl; omega) (fuel_ge (Nat.le_trans (by decide : 1000001 ≤ 2 ^ 20) (Nat.pow_le_pow_right (by decide) (by decide)))))
  refine fn_rt rfl ?_
  show b_figures_end [some (.str (S (p ++ (d ++ r)))), some (.int (p.length : Nat)), none] M = _
  unfold b_figures_end
  rw [seq_nx (Γ1 := [some (.str (S (p ++ (d ++ r)))), some (.int (p.length : Nat)), some (.int (p.length : Nat))]) (M1 := M) (by simp only [gFn, gSeq, gSkip, gRet, gRetN, gExpr, gSet, gIf, gAug, gAsg, gPar2, gPar3, gVar, gC, gBin, gUn, gTr, gAnd, gOr, gNot, gAndV, gOrV, gNotV, gIfE, gCall, G.gCons, G.gNil, G.gTup, G.gLst, gLstM, gSl, goSome, goNone, R.bind_ok, R.bind_ex, R.bind_no, R.bindS_ok, R.bindS_ex, R.bindS_no, outS_nx, outS_rt, outS_ex, orR_ok, orR_ex, orR_no, ggName, ggSub, List.getElem?_cons_zero, List.getElem?_cons_succ, List.set_cons_zero, List.set_cons_succ, List.map_cons, List.map_nil, List.length_cons, List.length_nil, List.replicate, List.append_nil, List.nil_append, List.cons_append, Nat.reduceAdd, Nat.reduceSub, Nat.reduceLeDiff, Nat.reduceLT, if_true, if_false, not_false_eq_true, Bool.false_eq_true, Bool.true_eq_false, Bool.not_true, Bool.not_false, decide_true, decide_false, decide_eq_true_eq, reduceIte, reduceCtorEq, eAdd, eAddI, eSub, eLt, eLe, eGt, eGe, eEq, eNe, eEqS, eNeS, eTru, eNeg, eAbs, eInt, eIntB, eLenL, eLenT])]
  rw [seq_nx w]
  rfl
theorem slM {l : List Nat} (h : Lo l) (i : Nat) (M : Stor) : dSl (.str (S l)) (some ((i : Nat) : Int)) (some (((i : Nat) : Int) + 1)) M = .ok (.str (S ((l.drop i).take 1))) M := by
  have e : ((i : Nat) : Int) + 1 = ((i + 1 : Nat) : Int) := by omega
  have := G.tSl l (some ((i : Nat) : Int)) (some ((i + 1 : Nat) : Int)) M (by have := h.len; omega)
  rw [cut_mid, show i + 1 - i = 1 by omega] at this
  rw [e]; exact this
/-- a sign or none -/
abbrev Sg (s : List Nat) : Prop := s = [] ∨ s = [45]
abbrev startG : GE' := gIfE (gTr truD (gBin dEq (gSl (gVar 0) goNone (goSome (gC (.int 1)))) (gC (.str "-")))) (gC (.int 1)) (gC (.int 0))
theorem start_ok {s r : List Nat} (h : Lo (s ++ r)) (hs : Sg s) (hr : s = [] → ∀ c l, r = c :: l → c ≠ 45) (a b : Option D) (M : Stor) : startG [some (.str (S (s ++ r))), a, b] M = .ok (.int (s.length : Nat)) M := by
  have s1 := sl1 h M
  rcases hs with rfl | rfl
  · have : ¬ (([] : List Nat) ++ r).take 1 = [45] := by
      cases r with
      | nil => simp
      | cons c l => have := hr rfl c l rfl; simpa using this
    clear hr h
    generalize ([] : List Nat) ++ r = ln at *
    simp only [startG, gFn, gSeq, gSkip, gRet, gRetN, gExpr, gSet, gIf, gAug, gAsg, gPar2, gPar3, gVar, gC, gBin, gUn, gTr, gAnd, gOr, gNot, gAndV, gOrV, gNotV, gIfE, gCall, G.gCons, G.gNil, G.gTup, G.gLst, gLstM, gSl, goSome, goNone, R.bind_ok, R.bind_ex, R.bind_no, R.bindS_ok, R.bindS_ex, R.bindS_no, outS_nx, outS_rt, outS_ex, orR_ok, orR_ex, orR_no, ggName, ggSub, List.getElem?_cons_zero, List.getElem?_cons_succ, List.set_cons_zero, List.set_cons_succ, List.map_cons, List.map_nil, List.length_cons, List.length_nil, List.replicate, List.append_nil, List.nil_append, List.cons_append, Nat.reduceAdd, Nat.reduceSub, Nat.reduceLeDiff, Nat.reduceLT, if_true, if_false, not_false_eq_true, Bool.false_eq_true, Bool.true_eq_false, Bool.not_true, Bool.not_false, decide_true, decide_false, decide_eq_true_eq, reduceIte, reduceCtorEq, eAdd, eAddI, eSub, eLt, eLe, eGt, eGe, eEq, eNe, eEqS, eNeS, eTru, eNeg, eAbs, eInt, eIntB, eLenL, eLenT, s1, minus, tEq, S_eq, this]
    rfl
  · have : ([45] ++ r).take 1 = [45] := by simp
    rw [this] at s1
    clear hr h
    generalize [45] ++ r = ln at *
    simp only [startG, gFn, gSeq, gSkip, gRet, gRetN, gExpr, gSet, gIf, gAug, gAsg, gPar2, gPar3, gVar, gC, gBin, gUn, gTr, gAnd, gOr, gNot, gAndV, gOrV, gNotV, gIfE, gCall, G.gCons, G.gNil, G.gTup, G.gLst, gLstM, gSl, goSome, goNone, R.bind_ok, R.bind_ex, R.bind_no, R.bindS_ok, R.bindS_ex, R.bindS_no, outS_nx, outS_rt, outS_ex, orR_ok, orR_ex, orR_no, ggName, ggSub, List.getElem?_cons_zero, List.getElem?_cons_succ, List.set_cons_zero, List.set_cons_succ, List.map_cons, List.map_nil, List.length_cons, List.length_nil, List.replicate, List.append_nil, List.nil_append, List.cons_append, Nat.reduceAdd, Nat.reduceSub, Nat.reduceLeDiff, Nat.reduceLT, if_true, if_false, not_false_eq_true, Bool.false_eq_true, Bool.true_eq_false, Bool.not_true, Bool.not_false, decide_true, decide_false, decide_eq_true_eq, reduceIte, reduceCtorEq, eAdd, eAddI, eSub, eLt, eLe, eGt, eGe, eEq, eNe, eEqS, eNeS, eTru, eNeg, eAbs, eInt, eIntB, eLenL, eLenT, s1, minus, tEq]
    rfl
section
variable {s r : List Nat} (M : Stor)
/-- no figure behind the sign -/
theorem top_none (h : Lo (s ++ r)) (hs : Sg s) (hr : NoDg r) (hr' : s = [] → ∀ c l, r = c :: l → c ≠ 45) : f_top_end [.str (S (s ++ r))] M = .ex 3 (some [.int (s.length : Nat)]) M := by
  have st := fun a b => start_ok h hs hr' a b M
  have s2 := slM h s.length M
  rw [List.drop_left] at s2
  have ne : ¬ r.take 1 = [48] := by
    cases r with
    | nil => simp
    | cons c l =>
      have := hr c l rfl
      intro e
      simp at e
      subst e
      exact this (by decide)
  have f := fig_ok s [] r M (by have := h.len; simpa using Nat.le_trans this (by decide)) (fun _ h => by cases h) hr
  simp only [List.nil_append, List.append_nil] at f
  have : gFn 1 3 b_top_end [.str (S (s ++ r))] M = .ex 3 (some [.int (s.length : Nat)]) M := by
    show outS (b_top_end [some (.str (S (s ++ r))), none, none] M) = _
    unfold b_top_end
    rw [seq_nx (Γ1 := [some (.str (S (s ++ r))), some (.int (s.length : Nat)), none]) (M1 := M) (by unfold gSet; rw [show gIfE _ _ _ = startG from rfl, st]; rfl)]
    simp only [gFn, gSeq, gSkip, gRet, gRetN, gExpr, gSet, gIf, gAug, gAsg, gPar2, gPar3, gVar, gC, gBin, gUn, gTr, gAnd, gOr, gNot, gAndV, gOrV, gNotV, gIfE, gCall, G.gCons, G.gNil, G.gTup, G.gLst, gLstM, gSl, goSome, goNone, R.bind_ok, R.bind_ex, R.bind_no, R.bindS_ok, R.bindS_ex, R.bindS_no, outS_nx, outS_rt, outS_ex, orR_ok, orR_ex, orR_no, ggName, ggSub, List.getElem?_cons_zero, List.getElem?_cons_succ, List.set_cons_zero, List.set_cons_succ, List.map_cons, List.map_nil, List.length_cons, List.length_nil, List.replicate, List.append_nil, List.nil_append, List.cons_append, Nat.reduceAdd, Nat.reduceSub, Nat.reduceLeDiff, Nat.reduceLT, if_true, if_false, not_false_eq_true, Bool.false_eq_true, Bool.true_eq_false, Bool.not_true, Bool.not_false, decide_true, decide_false, decide_eq_true_eq, reduceIte, reduceCtorEq, eAdd, eAddI, eSub, eLt, eLe, eGt, eGe, eEq, eNe, eEqS, eNeS, eTru, eNeg, eAbs, eInt, eIntB, eLenL, eLenT, s2, zero, tEq, S_eq, ne, f, gRaise1]
  exact this
/-- -0 -/
theorem top_m0 (h : Lo ([45] ++ 48 :: r)) : f_top_end [.str (S ([45] ++ 48 :: r))] M = .ex 3 (some [.int 1]) M := by
  have st := fun a b => start_ok h (.inr rfl) (fun h => by cases h) a b M
  have s2 := slM h 1 M
  have e : (([45] ++ 48 :: r).drop 1).take 1 = [48] := by simp
  rw [e] at s2
  have s2 : dSl (.str (S ([45] ++ 48 :: r))) (some 1) (some (1 + 1)) M = .ok (.str (S [48])) M := s2
  have : gFn 1 3 b_top_end [.str (S ([45] ++ 48 :: r))] M = .ex 3 (some [.int 1]) M := by
    clear e h
    generalize [45] ++ 48 :: r = ln at *
    show outS (b_top_end [some (.str (S ln)), none, none] M) = _
    unfold b_top_end
    rw [seq_nx (Γ1 := [some (.str (S ln)), some (.int 1), none]) (M1 := M) (by unfold gSet; rw [show gIfE _ _ _ = startG from rfl, st]; rfl)]
    simp only [gFn, gSeq, gSkip, gRet, gRetN, gExpr, gSet, gIf, gAug, gAsg, gPar2, gPar3, gVar, gC, gBin, gUn, gTr, gAnd, gOr, gNot, gAndV, gOrV, gNotV, gIfE, gCall, G.gCons, G.gNil, G.gTup, G.gLst, gLstM, gSl, goSome, goNone, R.bind_ok, R.bind_ex, R.bind_no, R.bindS_ok, R.bindS_ex, R.bindS_no, outS_nx, outS_rt, outS_ex, orR_ok, orR_ex, orR_no, ggName, ggSub, List.getElem?_cons_zero, List.getElem?_cons_succ, List.set_cons_zero, List.set_cons_succ, List.map_cons, List.map_nil, List.length_cons, List.length_nil, List.replicate, List.append_nil, List.nil_append, List.cons_append, Nat.reduceAdd, Nat.reduceSub, Nat.reduceLeDiff, Nat.reduceLT, if_true, if_false, not_false_eq_true, Bool.false_eq_true, Bool.true_eq_false, Bool.not_true, Bool.not_false, decide_true, decide_false, decide_eq_true_eq, reduceIte, reduceCtorEq, eAdd, eAddI, eSub, eLt, eLe, eGt, eGe, eEq, eNe, eEqS, eNeS, eTru, eNeg, eAbs, eInt, eIntB, eLenL, eLenT, s2, zero, tEq, gRaise1, decide_eq_true (rfl : (1 : Int) = 1)]
  exact this
theorem top_0 (h : Lo (48 :: r)) : f_top_end [.str (S (48 :: r))] M = .ok (.int 1) M := by
  have st := fun a b => start_ok (s := []) (r := 48 :: r) h (.inl rfl) (fun _ c l e => by cases e; decide) a b M
  have s2 := slM h 0 M
  have e : ((48 :: r).drop 0).take 1 = [48] := by simp
  rw [e] at s2
  have s2 : dSl (.str (S (48 :: r))) (some 0) (some (0 + 1)) M = .ok (.str (S [48])) M := s2
  have : gFn 1 3 b_top_end [.str (S (48 :: r))] M = .ok (.int 1) M := by
    show outS (b_top_end [some (.str (S (48 :: r))), none, none] M) = _
    unfold b_top_end
    rw [seq_nx (Γ1 := [some (.str (S (48 :: r))), some (.int 0), none]) (M1 := M) (by unfold gSet; rw [show gIfE _ _ _ = startG from rfl]; have := st none none; simp only [List.nil_append] at this; rw [this]; rfl)]
    simp only [gFn, gSeq, gSkip, gRet, gRetN, gExpr, gSet, gIf, gAug, gAsg, gPar2, gPar3, gVar, gC, gBin, gUn, gTr, gAnd, gOr, gNot, gAndV, gOrV, gNotV, gIfE, gCall, G.gCons, G.gNil, G.gTup, G.gLst, gLstM, gSl, goSome, goNone, R.bind_ok, R.bind_ex, R.bind_no, R.bindS_ok, R.bindS_ex, R.bindS_no, outS_nx, outS_rt, outS_ex, orR_ok, orR_ex, orR_no, ggName, ggSub, List.getElem?_cons_zero, List.getElem?_cons_succ, List.set_cons_zero, List.set_cons_succ, List.map_cons, List.map_nil, List.length_cons, List.length_nil, List.replicate, List.append_nil, List.nil_append, List.cons_append, Nat.reduceAdd, Nat.reduceSub, Nat.reduceLeDiff, Nat.reduceLT, if_true, if_false, not_false_eq_true, Bool.false_eq_true, Bool.true_eq_false, Bool.not_true, Bool.not_false, decide_true, decide_false, decide_eq_true_eq, reduceIte, reduceCtorEq, eAdd, eAddI, eSub, eLt, eLe, eGt, eGe, eEq, eNe, eEqS, eNeS, eTru, eNeg, eAbs, eInt, eIntB, eLenL, eLenT, s2, zero, tEq, show ¬ ((0 : Int) = 1) by decide]
  exact this
theorem top_x {x : List Nat} (h : Lo (s ++ (x ++ r))) (hs : Sg s) (hx : ∀ c ∈ x, isDg c) (hne : x ≠ []) (hh : x.head? ≠ some 48) (hr : NoDg r) : f_top_end [.str (S (s ++ (x ++ r)))] M = .ok (.int ((s ++ x).length : Nat)) M := by
  obtain ⟨c, l, rfl⟩ := List.exists_cons_of_ne_nil hne
  have hc := hx c List.mem_cons_self
  have st := fun a b => start_ok h hs (fun _ c' l' e => by simp at e; obtain ⟨rfl, _⟩ := e; intro z; subst z; revert hc; decide) a b M
  have s2 := slM h s.length M
  rw [List.drop_left] at s2
  have ne : ¬ (c :: l ++ r).take 1 = [48] := by
    intro e; simp at e; exact hh (by rw [e]; rfl)
  have f := fig_ok s (c :: l) r M (by have := h.len; omega) hx hr
  have ne2 : ¬ (((s ++ c :: l).length : Nat) : Int) = (s.length : Nat) := by simp; omega
  have : gFn 1 3 b_top_end [.str (S (s ++ (c :: l ++ r)))] M = .ok (.int ((s ++ c :: l).length : Nat)) M := by
    clear h
    generalize s ++ (c :: l ++ r) = ln at *
    generalize (c :: l ++ r).take 1 = hd at *
    show outS (b_top_end [some (.str (S ln)), none, none] M) = _
    unfold b_top_end
    rw [seq_nx (Γ1 := [some (.str (S ln)), some (.int (s.length : Nat)), none]) (M1 := M) (by unfold gSet; rw [show gIfE _ _ _ = startG from rfl, st]; rfl)]
    simp only [gFn, gSeq, gSkip, gRet, gRetN, gExpr, gSet, gIf, gAug, gAsg, gPar2, gPar3, gVar, gC, gBin, gUn, gTr, gAnd, gOr, gNot, gAndV, gOrV, gNotV, gIfE, gCall, G.gCons, G.gNil, G.gTup, G.gLst, gLstM, gSl, goSome, goNone, R.bind_ok, R.bind_ex, R.bind_no, R.bindS_ok, R.bindS_ex, R.bindS_no, outS_nx, outS_rt, outS_ex, orR_ok, orR_ex, orR_no, ggName, ggSub, List.getElem?_cons_zero, List.getElem?_cons_succ, List.set_cons_zero, List.set_cons_succ, List.map_cons, List.map_nil, List.length_cons, List.length_nil, List.replicate, List.append_nil, List.nil_append, List.cons_append, Nat.reduceAdd, Nat.reduceSub, Nat.reduceLeDiff, Nat.reduceLT, if_true, if_false, not_false_eq_true, Bool.false_eq_true, Bool.true_eq_false, Bool.not_true, Bool.not_false, decide_true, decide_false, decide_eq_true_eq, reduceIte, reduceCtorEq, eAdd, eAddI, eSub, eLt, eLe, eGt, eGe, eEq, eNe, eEqS, eNeS, eTru, eNeg, eAbs, eInt, eIntB, eLenL, eLenT, s2, zero, tEq, S_eq, ne, f, ne2]
  exact this
/-! what stands behind the stroke -/
theorem bot_0 {p : List Nat} (h : Lo (p ++ 48 :: r)) : f_need_bottom [.str (S (p ++ 48 :: r)), .int (p.length : Nat)] M = .ex 3 (some [.int (p.length : Nat)]) M := by
  have s2 := slM h p.length M
  rw [List.drop_left] at s2
  have e : (48 :: r).take 1 = [48] := by simp
  rw [e] at s2
  simp only [f_need_bottom, b_need_bottom, gFn, gSeq, gSkip, gRet, gRetN, gExpr, gSet, gIf, gAug, gAsg, gPar2, gPar3, gVar, gC, gBin, gUn, gTr, gAnd, gOr, gNot, gAndV, gOrV, gNotV, gIfE, gCall, G.gCons, G.gNil, G.gTup, G.gLst, gLstM, gSl, goSome, goNone, R.bind_ok, R.bind_ex, R.bind_no, R.bindS_ok, R.bindS_ex, R.bindS_no, outS_nx, outS_rt, outS_ex, orR_ok, orR_ex, orR_no, ggName, ggSub, List.getElem?_cons_zero, List.getElem?_cons_succ, List.set_cons_zero, List.set_cons_succ, List.map_cons, List.map_nil, List.length_cons, List.length_nil, List.replicate, List.append_nil, List.nil_append, List.cons_append, Nat.reduceAdd, Nat.reduceSub, Nat.reduceLeDiff, Nat.reduceLT, if_true, if_false, not_false_eq_true, Bool.false_eq_true, Bool.true_eq_false, Bool.not_true, Bool.not_false, decide_true, decide_false, decide_eq_true_eq, reduceIte, reduceCtorEq, eAdd, eAddI, eSub, eLt, eLe, eGt, eGe, eEq, eNe, eEqS, eNeS, eTru, eNeg, eAbs, eInt, eIntB, eLenL, eLenT, s2, zero, tEq, gRaise1]
theorem bot_bad {p y : List Nat} (h : Lo (p ++ (y ++ r))) (hy : ∀ c ∈ y, isDg c) (hh : y.head? ≠ some 48) (hr : NoDg r) (hz : y = [] ∨ r ≠ []) : f_need_bottom [.str (S (p ++ (y ++ r))), .int (p.length : Nat)] M = .ex 3 (some [.int ((p ++ y).length : Nat)]) M := by
  have s2 := slM h p.length M
  rw [List.drop_left] at s2
  have ne : ¬ (y ++ r).take 1 = [48] := by
    cases y with
    | nil =>
      cases r with
      | nil => simp
      | cons c l =>
        have := hr c l rfl
        intro e
        simp at e
        subst e
        exact this (by decide)
    | cons c l => intro e; simp at e; exact hh (by rw [e]; rfl)
  have f := fig_ok p y r M (by have := h.len; omega) hy hr
  have len := tLen (p ++ (y ++ r)) M (by have := h.len; omega)
  by_cases hy0 : y = []
  · have e1 : (((p ++ y).length : Nat) : Int) = (p.length : Nat) := by rw [hy0]; simp
    simp only [f_need_bottom, b_need_bottom, gFn, gSeq, gSkip, gRet, gRetN, gExpr, gSet, gIf, gAug, gAsg, gPar2, gPar3, gVar, gC, gBin, gUn, gTr, gAnd, gOr, gNot, gAndV, gOrV, gNotV, gIfE, gCall, G.gCons, G.gNil, G.gTup, G.gLst, gLstM, gSl, goSome, goNone, R.bind_ok, R.bind_ex, R.bind_no, R.bindS_ok, R.bindS_ex, R.bindS_no, outS_nx, outS_rt, outS_ex, orR_ok, orR_ex, orR_no, ggName, ggSub, List.getElem?_cons_zero, List.getElem?_cons_succ, List.set_cons_zero, List.set_cons_succ, List.map_cons, List.map_nil, List.length_cons, List.length_nil, List.replicate, List.append_nil, List.nil_append, List.cons_append, Nat.reduceAdd, Nat.reduceSub, Nat.reduceLeDiff, Nat.reduceLT, if_true, if_false, not_false_eq_true, Bool.false_eq_true, Bool.true_eq_false, Bool.not_true, Bool.not_false, decide_true, decide_false, decide_eq_true_eq, reduceIte, reduceCtorEq, eAdd, eAddI, eSub, eLt, eLe, eGt, eGe, eEq, eNe, eEqS, eNeS, eTru, eNeg, eAbs, eInt, eIntB, eLenL, eLenT, s2, zero, tEq, S_eq, ne, f, decide_eq_true e1, gRaise1]
  · have e1 : ¬ (((p ++ y).length : Nat) : Int) = (p.length : Nat) := by
      have := List.length_pos_iff.mpr hy0
      simp; omega
    have hr0 : 0 < r.length := List.length_pos_iff.mpr (hz.resolve_left hy0)
    have e2 : (((p ++ y).length : Nat) : Int) < ((p ++ (y ++ r)).length : Nat) := by simp; omega
    simp only [f_need_bottom, b_need_bottom, gFn, gSeq, gSkip, gRet, gRetN, gExpr, gSet, gIf, gAug, gAsg, gPar2, gPar3, gVar, gC, gBin, gUn, gTr, gAnd, gOr, gNot, gAndV, gOrV, gNotV, gIfE, gCall, G.gCons, G.gNil, G.gTup, G.gLst, gLstM, gSl, goSome, goNone, R.bind_ok, R.bind_ex, R.bind_no, R.bindS_ok, R.bindS_ex, R.bindS_no, outS_nx, outS_rt, outS_ex, orR_ok, orR_ex, orR_no, ggName, ggSub, List.getElem?_cons_zero, List.getElem?_cons_succ, List.set_cons_zero, List.set_cons_succ, List.map_cons, List.map_nil, List.length_cons, List.length_nil, List.replicate, List.append_nil, List.nil_append, List.cons_append, Nat.reduceAdd, Nat.reduceSub, Nat.reduceLeDiff, Nat.reduceLT, if_true, if_false, not_false_eq_true, Bool.false_eq_true, Bool.true_eq_false, Bool.not_true, Bool.not_false, decide_true, decide_false, decide_eq_true_eq, reduceIte, reduceCtorEq, eAdd, eAddI, eSub, eLt, eLe, eGt, eGe, eEq, eNe, eEqS, eNeS, eTru, eNeg, eAbs, eInt, eIntB, eLenL, eLenT, s2, zero, tEq, S_eq, ne, f, e1, len, decide_eq_true e2, gRaise1]
theorem bot_ok {p y : List Nat} (h : Lo (p ++ y)) (hy : ∀ c ∈ y, isDg c) (hne : y ≠ []) (hh : y.head? ≠ some 48) : f_need_bottom [.str (S (p ++ y)), .int (p.length : Nat)] M = .ok .non M := by
  have s2 := slM h p.length M
  rw [List.drop_left] at s2
  have ne : ¬ y.take 1 = [48] := by
    obtain ⟨c, l, rfl⟩ := List.exists_cons_of_ne_nil hne
    intro e; simp at e; exact hh (by rw [e]; rfl)
  have f := fig_ok p y [] M (by have := h.len; simp at this ⊢; omega) hy (fun _ _ h => by cases h)
  simp only [List.append_nil] at f
  have len := tLen (p ++ y) M (by have := h.len; omega)
  have e1 : ¬ (((p ++ y).length : Nat) : Int) = (p.length : Nat) := by
    have := List.length_pos_iff.mpr hne
    simp; omega
  have e2 : ¬ (((p ++ y).length : Nat) : Int) < ((p ++ y).length : Nat) := by omega
  simp only [f_need_bottom, b_need_bottom, gFn, gSeq, gSkip, gRet, gRetN, gExpr, gSet, gIf, gAug, gAsg, gPar2, gPar3, gVar, gC, gBin, gUn, gTr, gAnd, gOr, gNot, gAndV, gOrV, gNotV, gIfE, gCall, G.gCons, G.gNil, G.gTup, G.gLst, gLstM, gSl, goSome, goNone, R.bind_ok, R.bind_ex, R.bind_no, R.bindS_ok, R.bindS_ex, R.bindS_no, outS_nx, outS_rt, outS_ex, orR_ok, orR_ex, orR_no, ggName, ggSub, List.getElem?_cons_zero, List.getElem?_cons_succ, List.set_cons_zero, List.set_cons_succ, List.map_cons, List.map_nil, List.length_cons, List.length_nil, List.replicate, List.append_nil, List.nil_append, List.cons_append, Nat.reduceAdd, Nat.reduceSub, Nat.reduceLeDiff, Nat.reduceLT, if_true, if_false, not_false_eq_true, Bool.false_eq_true, Bool.true_eq_false, Bool.not_true, Bool.not_false, decide_true, decide_false, decide_eq_true_eq, reduceIte, reduceCtorEq, eAdd, eAddI, eSub, eLt, eLe, eGt, eGe, eEq, eNe, eEqS, eNeS, eTru, eNeg, eAbs, eInt, eIntB, eLenL, eLenT, s2, zero, tEq, S_eq, ne, f, e1, len, e2]
end
end K06

namespace K06
open PySem L2 G SX
/-! ### endless -/
theorem end_ix (k : Nat) (h : k < 7) (M : Stor) : dIx (.str (S endL)) (.int (k : Nat)) M = .ok (.str (S [endL[k]'h])) M :=
  tIx M (by simp) (List.getElem?_eq_getElem h)
theorem need_end {n : Nat} {r : List Nat} (M : Stor) (h : Lo (endL.take n ++ r)) (h7 : n ≤ 7) (hr : ∀ c l, r = c :: l → endL[n]? ≠ some c) :
    f_need_endless [.str (S (endL.take n ++ r))] M = if n < 7 ∨ r ≠ [] then .ex 3 (some [.int (n : Nat)]) M else .ok .non M := by
  have len := tLen (endL.take n ++ r) M (by have := h.len; omega)
  have lenE : fLen [.str (S endL)] M = .ok (.int 7) M := tLen endL M (by simp)
  have tl : (endL.take n).length = n := by rw [List.length_take]; show min n 7 = n; omega
  have ll : (endL.take n ++ r).length = n + r.length := by rw [List.length_append, tl]
  rw [ll] at len
  have sM := fun k => slM h k M
  have d1 : ∀ k (hk : k < n), ((endL.take n ++ r).drop k).take 1 = [endL[k]'(Nat.lt_of_lt_of_le hk h7)] := by
    intro k hk
    rw [List.drop_append_of_le_length (by rw [tl]; omega)]
    have : (endL.take n).drop k = endL[k]'(Nat.lt_of_lt_of_le hk h7) :: (endL.take n).drop (k + 1) := by
      rw [List.drop_eq_getElem_cons (by rw [tl]; exact hk), List.getElem_take]
    rw [this]; rfl
  have d2 : (endL.take n ++ r).drop n = r := by
    have := List.drop_left (l₁ := endL.take n) (l₂ := r)
    rwa [tl] at this
  clear ll
  generalize hln : endL.take n ++ r = ln at *
  have lp : ∀ (m k : Nat), k ≤ n → n - k < m → gWhile (gAnd (gTr truD (gBin dLtI (gVar 1) (gCall fLen (gCons (gC (.str "endless")) gNil)))) (gTr truD (gBin dEq (gSl (gVar 0) (goSome (gVar 1)) (goSome (gBin dAdd (gVar 1) (gC (.int 1))))) (gBin dIx (gC (.str "endless")) (gVar 1))))) (gAug 1 dAddI (gC (.int 1))) m [some (.str (S ln)), some (.int (k : Nat))] M
      = .nx [some (.str (S ln)), some (.int (n : Nat))] M := by
    intro m
    induction m with
    | zero => intro k _ h; omega
    | succ m ih =>
      intro k hk hm
      rw [while_step]
      by_cases c : k = n
      · subst c
        by_cases c7 : k = 7
        · subst c7
          have lt : ¬ ((7 : Nat) : Int) < (7 : Int) := by decide
          simp only [gFn, gSeq, gSkip, gRet, gRetN, gExpr, gSet, gIf, gAug, gAsg, gPar2, gPar3, gVar, gC, gBin, gUn, gTr, gAnd, gOr, gNot, gAndV, gOrV, gNotV, gIfE, gCall, G.gCons, G.gNil, G.gTup, G.gLst, gLstM, gSl, goSome, goNone, R.bind_ok, R.bind_ex, R.bind_no, R.bindS_ok, R.bindS_ex, R.bindS_no, outS_nx, outS_rt, outS_ex, orR_ok, orR_ex, orR_no, ggName, ggSub, List.getElem?_cons_zero, List.getElem?_cons_succ, List.set_cons_zero, List.set_cons_succ, List.map_cons, List.map_nil, List.length_cons, List.length_nil, List.replicate, List.append_nil, List.nil_append, List.cons_append, Nat.reduceAdd, Nat.reduceSub, Nat.reduceLeDiff, Nat.reduceLT, if_true, if_false, not_false_eq_true, Bool.false_eq_true, Bool.true_eq_false, Bool.not_true, Bool.not_false, decide_true, decide_false, decide_eq_true_eq, reduceIte, reduceCtorEq, eAdd, eAddI, eSub, eLt, eLe, eGt, eGe, eEq, eNe, eEqS, eNeS, eTru, eNeg, eAbs, eInt, eIntB, eLenL, eLenT, endl, lenE, lt]
        · have lt : ((k : Nat) : Int) < (7 : Int) := by omega
          have s1 := sM k
          rw [d2] at s1
          have ix := end_ix k (by omega) M
          have ne : ¬ r.take 1 = [endL[k]'(by show k < 7; omega)] := by
            cases r with
            | nil => simp
            | cons x l =>
              intro e
              have := hr x l rfl
              simp only [List.take_succ_cons, List.take_zero, List.cons.injEq, and_true] at e
              exact this (by rw [List.getElem?_eq_getElem (by show k < 7; omega), e])
          simp only [gFn, gSeq, gSkip, gRet, gRetN, gExpr, gSet, gIf, gAug, gAsg, gPar2, gPar3, gVar, gC, gBin, gUn, gTr, gAnd, gOr, gNot, gAndV, gOrV, gNotV, gIfE, gCall, G.gCons, G.gNil, G.gTup, G.gLst, gLstM, gSl, goSome, goNone, R.bind_ok, R.bind_ex, R.bind_no, R.bindS_ok, R.bindS_ex, R.bindS_no, outS_nx, outS_rt, outS_ex, orR_ok, orR_ex, orR_no, ggName, ggSub, List.getElem?_cons_zero, List.getElem?_cons_succ, List.set_cons_zero, List.set_cons_succ, List.map_cons, List.map_nil, List.length_cons, List.length_nil, List.replicate, List.append_nil, List.nil_append, List.cons_append, Nat.reduceAdd, Nat.reduceSub, Nat.reduceLeDiff, Nat.reduceLT, if_true, if_false, not_false_eq_true, Bool.false_eq_true, Bool.true_eq_false, Bool.not_true, Bool.not_false, decide_true, decide_false, decide_eq_true_eq, reduceIte, reduceCtorEq, eAdd, eAddI, eSub, eLt, eLe, eGt, eGe, eEq, eNe, eEqS, eNeS, eTru, eNeg, eAbs, eInt, eIntB, eLenL, eLenT, endl, lenE, decide_eq_true lt, s1, ix, tEq, S_eq, ne]
      · have hkn : k < n := by omega
        have lt : ((k : Nat) : Int) < (7 : Int) := by omega
        have s1 := sM k
        rw [d1 k hkn] at s1
        have ix := end_ix k (by omega) M
        have el : ((k : Nat) : Int) + 1 = ((k + 1 : Nat) : Int) := by omega
        have g := ih (k + 1) (by omega) (by omega)
        simp only [gFn, gSeq, gSkip, gRet, gRetN, gExpr, gSet, gIf, gAug, gAsg, gPar2, gPar3, gVar, gC, gBin, gUn, gTr, gAnd, gOr, gNot, gAndV, gOrV, gNotV, gIfE, gCall, G.gCons, G.gNil, G.gTup, G.gLst, gLstM, gSl, goSome, goNone, R.bind_ok, R.bind_ex, R.bind_no, R.bindS_ok, R.bindS_ex, R.bindS_no, outS_nx, outS_rt, outS_ex, orR_ok, orR_ex, orR_no, ggName, ggSub, List.getElem?_cons_zero, List.getElem?_cons_succ, List.set_cons_zero, List.set_cons_succ, List.map_cons, List.map_nil, List.length_cons, List.length_nil, List.replicate, List.append_nil, List.nil_append, List.cons_append, Nat.reduceAdd, Nat.reduceSub, Nat.reduceLeDiff, Nat.reduceLT, if_true, if_false, not_false_eq_true, Bool.false_eq_true, Bool.true_eq_false, Bool.not_true, Bool.not_false, decide_true, decide_false, decide_eq_true_eq, reduceIte, reduceCtorEq, eAdd, eAddI, eSub, eLt, eLe, eGt, eGe, eEq, eNe, eEqS, eNeS, eTru, eNeg, eAbs, eInt, eIntB, eLenL, eLenT, endl, lenE, decide_eq_true lt, s1, ix, tEq]
        rw [el]; exact g
  have w := lp fuel 0 (Nat.zero_le _) (Nat.lt_of_lt_of_le (m := 10) (by omega) (fuel_ge (Nat.le_trans (by decide : 10 ≤ 2 ^ 20) (Nat.pow_le_pow_right (by decide) (by decide)))))
  show outS (b_need_endless [some (.str (S ln)), none] M) = _
  unfold b_need_endless
  rw [seq_nx (Γ1 := [some (.str (S ln)), some (.int ((0 : Nat) : Int))]) (M1 := M) (by simp only [gFn, gSeq, gSkip, gRet, gRetN, gExpr, gSet, gIf, gAug, gAsg, gPar2, gPar3, gVar, gC, gBin, gUn, gTr, gAnd, gOr, gNot, gAndV, gOrV, gNotV, gIfE, gCall, G.gCons, G.gNil, G.gTup, G.gLst, gLstM, gSl, goSome, goNone, R.bind_ok, R.bind_ex, R.bind_no, R.bindS_ok, R.bindS_ex, R.bindS_no, outS_nx, outS_rt, outS_ex, orR_ok, orR_ex, orR_no, ggName, ggSub, List.getElem?_cons_zero, List.getElem?_cons_succ, List.set_cons_zero, List.set_cons_succ, List.map_cons, List.map_nil, List.length_cons, List.length_nil, List.replicate, List.append_nil, List.nil_append, List.cons_append, Nat.reduceAdd, Nat.reduceSub, Nat.reduceLeDiff, Nat.reduceLT, if_true, if_false, not_false_eq_true, Bool.false_eq_true, Bool.true_eq_false, Bool.not_true, Bool.not_false, decide_true, decide_false, decide_eq_true_eq, reduceIte, reduceCtorEq, eAdd, eAddI, eSub, eLt, eLe, eGt, eGe, eEq, eNe, eEqS, eNeS, eTru, eNeg, eAbs, eInt, eIntB, eLenL, eLenT] <;> rfl)]
  rw [seq_nx w]
  by_cases c7 : n < 7
  · have lt : ((n : Nat) : Int) < (7 : Int) := by omega
    rw [if_pos (.inl c7)]
    simp only [gFn, gSeq, gSkip, gRet, gRetN, gExpr, gSet, gIf, gAug, gAsg, gPar2, gPar3, gVar, gC, gBin, gUn, gTr, gAnd, gOr, gNot, gAndV, gOrV, gNotV, gIfE, gCall, G.gCons, G.gNil, G.gTup, G.gLst, gLstM, gSl, goSome, goNone, R.bind_ok, R.bind_ex, R.bind_no, R.bindS_ok, R.bindS_ex, R.bindS_no, outS_nx, outS_rt, outS_ex, orR_ok, orR_ex, orR_no, ggName, ggSub, List.getElem?_cons_zero, List.getElem?_cons_succ, List.set_cons_zero, List.set_cons_succ, List.map_cons, List.map_nil, List.length_cons, List.length_nil, List.replicate, List.append_nil, List.nil_append, List.cons_append, Nat.reduceAdd, Nat.reduceSub, Nat.reduceLeDiff, Nat.reduceLT, if_true, if_false, not_false_eq_true, Bool.false_eq_true, Bool.true_eq_false, Bool.not_true, Bool.not_false, decide_true, decide_false, decide_eq_true_eq, reduceIte, reduceCtorEq, eAdd, eAddI, eSub, eLt, eLe, eGt, eGe, eEq, eNe, eEqS, eNeS, eTru, eNeg, eAbs, eInt, eIntB, eLenL, eLenT, endl, lenE, decide_eq_true lt, gRaise1]
  · have lt : ¬ ((n : Nat) : Int) < (7 : Int) := by omega
    by_cases cr : r = []
    · have g : ¬ ((n : Nat) : Int) < ((n + r.length : Nat) : Int) := by rw [cr]; simp
      rw [if_neg (by rintro (h | h); exact c7 h; exact h cr)]
      simp only [gFn, gSeq, gSkip, gRet, gRetN, gExpr, gSet, gIf, gAug, gAsg, gPar2, gPar3, gVar, gC, gBin, gUn, gTr, gAnd, gOr, gNot, gAndV, gOrV, gNotV, gIfE, gCall, G.gCons, G.gNil, G.gTup, G.gLst, gLstM, gSl, goSome, goNone, R.bind_ok, R.bind_ex, R.bind_no, R.bindS_ok, R.bindS_ex, R.bindS_no, outS_nx, outS_rt, outS_ex, orR_ok, orR_ex, orR_no, ggName, ggSub, List.getElem?_cons_zero, List.getElem?_cons_succ, List.set_cons_zero, List.set_cons_succ, List.map_cons, List.map_nil, List.length_cons, List.length_nil, List.replicate, List.append_nil, List.nil_append, List.cons_append, Nat.reduceAdd, Nat.reduceSub, Nat.reduceLeDiff, Nat.reduceLT, if_true, if_false, not_false_eq_true, Bool.false_eq_true, Bool.true_eq_false, Bool.not_true, Bool.not_false, decide_true, decide_false, decide_eq_true_eq, reduceIte, reduceCtorEq, eAdd, eAddI, eSub, eLt, eLe, eGt, eGe, eEq, eNe, eEqS, eNeS, eTru, eNeg, eAbs, eInt, eIntB, eLenL, eLenT, endl, lenE, len, lt, g]
    · have g : ((n : Nat) : Int) < ((n + r.length : Nat) : Int) := by have := List.length_pos_iff.mpr cr; omega
      rw [if_pos (.inr cr)]
      simp only [gFn, gSeq, gSkip, gRet, gRetN, gExpr, gSet, gIf, gAug, gAsg, gPar2, gPar3, gVar, gC, gBin, gUn, gTr, gAnd, gOr, gNot, gAndV, gOrV, gNotV, gIfE, gCall, G.gCons, G.gNil, G.gTup, G.gLst, gLstM, gSl, goSome, goNone, R.bind_ok, R.bind_ex, R.bind_no, R.bindS_ok, R.bindS_ex, R.bindS_no, outS_nx, outS_rt, outS_ex, orR_ok, orR_ex, orR_no, ggName, ggSub, List.getElem?_cons_zero, List.getElem?_cons_succ, List.set_cons_zero, List.set_cons_succ, List.map_cons, List.map_nil, List.length_cons, List.length_nil, List.replicate, List.append_nil, List.nil_append, List.cons_append, Nat.reduceAdd, Nat.reduceSub, Nat.reduceLeDiff, Nat.reduceLT, if_true, if_false, not_false_eq_true, Bool.false_eq_true, Bool.true_eq_false, Bool.not_true, Bool.not_false, decide_true, decide_false, decide_eq_true_eq, reduceIte, reduceCtorEq, eAdd, eAddI, eSub, eLt, eLe, eGt, eGe, eEq, eNe, eEqS, eNeS, eTru, eNeg, eAbs, eInt, eIntB, eLenL, eLenT, endl, lenE, len, lt, decide_eq_true g, gRaise1]
/-! ### numbers that are read -/
abbrev dv (x : List Nat) : Nat := PySem.NumText.digitsVal x
def sv (s x : List Nat) : Int := if s = [] then (dv x : Nat) else -(dv x : Nat)
theorem dv_go : ∀ (l : List Nat) (a : Nat), (∀ c ∈ l, isDg c) → a ≤ l.foldl (fun acc c => acc * 10 + (c - 48)) a ∧ l.foldl (fun acc c => acc * 10 + (c - 48)) a < (a + 1) * 10 ^ l.length
  | [], a, _ => by simp
  | c :: l, a, h => by
    have hc := h c List.mem_cons_self
    obtain ⟨h1, h2⟩ := dv_go l (a * 10 + (c - 48)) fun d hd => h d (List.mem_cons_of_mem _ hd)
    simp only [List.foldl_cons, List.length_cons]
    have c9 : c - 48 ≤ 9 := by have := hc.2; omega
    refine ⟨by omega, Nat.lt_of_lt_of_le h2 ?_⟩
    rw [Nat.pow_succ]
    calc (a * 10 + (c - 48) + 1) * 10 ^ l.length ≤ ((a + 1) * 10) * 10 ^ l.length := Nat.mul_le_mul_right _ (by omega)
      _ = (a + 1) * (10 ^ l.length * 10) := by rw [Nat.mul_assoc, Nat.mul_comm 10]
theorem dv_lt {x : List Nat} (h : ∀ c ∈ x, isDg c) : dv x < 10 ^ x.length := by
  have := (dv_go x 0 h).2
  simpa [PySem.NumText.digitsVal] using this
theorem dv_pos {x : List Nat} (h : ∀ c ∈ x, isDg c) (hne : x ≠ []) (hh : x.head? ≠ some 48) : 0 < dv x := by
  obtain ⟨c, l, rfl⟩ := List.exists_cons_of_ne_nil hne
  have hc := h c List.mem_cons_self
  have c48 : c ≠ 48 := fun e => hh (by rw [e]; rfl)
  have := (dv_go l (0 * 10 + (c - 48)) fun d hd => h d (List.mem_cons_of_mem _ hd)).1
  show 0 < (c :: l).foldl _ 0
  simp only [List.foldl_cons]
  have := hc.1
  omega
theorem dv_big {x : List Nat} (h : ∀ c ∈ x, isDg c) (hl : x.length ≤ 600) : dv x < 2 ^ 8000 := by
  have h1 := dv_lt h
  have h2 : (10 : Nat) ^ x.length ≤ 10 ^ 600 := Nat.pow_le_pow_right (by decide) hl
  have h3 : (10 : Nat) ^ 600 ≤ 2 ^ 8000 := by decide +kernel
  omega
theorem dgs {x : List Nat} (h : ∀ c ∈ x, isDg c) : PySem.NumText.AllDigits x := h
theorem fint {x : Str} {n : Int} (e : PySem.intText? x = some n) (hl : x.length ≤ 640) (M : Stor) : orR (fInt [.str x] M) (fIntS [.str x] M) = .ok (.int n) M := by
  have : fIntS [.str x] M = .ok (.int n) M := by
    unfold fIntS
    dsimp only
    rw [e]
    dsimp only
    rw [if_pos hl]
  rw [this]; rfl
theorem int_s {s x : List Nat} (hs : Sg s) (h : ∀ c ∈ x, isDg c) (hne : x ≠ []) (hl : (s ++ x).length ≤ 600) (M : Stor) : orR (fInt [.str (S (s ++ x))] M) (fIntS [.str (S (s ++ x))] M) = .ok (.int (sv s x)) M := by
  have hl' : (S (s ++ x)).length ≤ 640 := by rw [S_len]; omega
  refine fint ?_ hl' M
  rcases hs with rfl | rfl
  · have hx : (S ([] ++ x)).cps.toList = x := by rw [S_list]; rfl
    rw [intText_digits (by rw [hx]; exact dgs h) (by rw [hx]; exact hne) (by omega), hx]
    rfl
  · have hx : (S ([45] ++ x)).cps.toList = 45 :: x := by rw [S_list]; rfl
    rw [intText_neg hx (dgs h) hne (by omega)]
    rfl
end K06

namespace K06
open PySem L2 G SX
/-! ### the shapes of a line, and what is read -/
inductive Out
  | err (e : Nat)
  | endless
  | val (a : Int) (b : Nat)
structure NumX (s x : List Nat) : Prop where
  sg : Sg s
  dg : ∀ c ∈ x, isDg c
  ne : x ≠ []
  hd : (x = [48] ∧ s = []) ∨ x.head? ≠ some 48
inductive Sh : List Nat → Out → Prop
  | e (n : Nat) (r : List Nat) (h1 : 1 ≤ n) (h7 : n ≤ 7) (hr : ∀ c l, r = c :: l → endL[n]? ≠ some c) (hz : n < 7 ∨ r ≠ []) : Sh (endL.take n ++ r) (.err n)
  | fin : Sh endL .endless
  | no (s r : List Nat) (hs : Sg s) (hr : NoDg r) (hr' : s = [] → ∀ c l, r = c :: l → c ≠ 45 ∧ c ≠ 101) : Sh (s ++ r) (.err s.length)
  | m0 (r : List Nat) : Sh ([45] ++ 48 :: r) (.err 1)
  | w (s x : List Nat) (hX : NumX s x) : Sh (s ++ x) (.val (sv s x) 1)
  | st (s x : List Nat) (c : Nat) (r : List Nat) (hX : NumX s x) (hc : c ≠ 47) (hd : ¬ isDg c ∨ x = [48]) : Sh ((s ++ x) ++ c :: r) (.err (s ++ x).length)
  | b0 (s x r : List Nat) (hX : NumX s x) : Sh ((s ++ x) ++ 47 :: 48 :: r) (.err ((s ++ x).length + 1))
  | bb (s x y z : List Nat) (hX : NumX s x) (hy : ∀ c ∈ y, isDg c) (hh : y.head? ≠ some 48) (hz : NoDg z) (h : y = [] ∨ z ≠ []) : Sh ((s ++ x) ++ 47 :: (y ++ z)) (.err ((s ++ x).length + 1 + y.length))
  | v (s x y : List Nat) (hX : NumX s x) (hy : ∀ c ∈ y, isDg c) (hne : y ≠ []) (hh : y.head? ≠ some 48) : Sh ((s ++ x) ++ 47 :: y) (.val (sv s x) (dv y))
def readR : Out → Stor → R D
  | .err e, M => .ex 3 (some [.int (e : Nat)]) M
  | .endless, M => .ok (rat 1 0) M
  | .val a b, M => .ok (mkR a b) M
theorem top_X {s x r : List Nat} (M : Stor) (h : Lo ((s ++ x) ++ r)) (hX : NumX s x) (hr : NoDg r ∨ x = [48]) : f_top_end [.str (S ((s ++ x) ++ r))] M = .ok (.int ((s ++ x).length : Nat)) M := by
  rcases hX.hd with ⟨rfl, rfl⟩ | hh
  · exact top_0 M h
  · rcases hr with hr | rfl
    · rw [List.append_assoc] at h ⊢
      exact top_x M h hX.sg hX.dg hX.ne hh hr
    · exact absurd rfl hh
theorem isS (x : Str) (M : Stor) : fIsi isOk isTab [.str x, .ty "str"] M = .ok (.bl true) M := rfl
theorem s0 (M : Stor) : dSl (.str (S endL)) none (some 1) M = .ok (.str (S [101])) M := by
  have := G.tSl endL none (some ((1 : Nat) : Int)) M (by simp)
  rw [cut_to] at this; exact this
theorem head_ne {s x r : List Nat} (hX : NumX s x) : ¬ ((s ++ x) ++ r).take 1 = [101] := by
  obtain ⟨c, l, rfl⟩ := List.exists_cons_of_ne_nil hX.ne
  have hc := hX.dg c List.mem_cons_self
  rcases hX.sg with rfl | rfl
  · intro e
    simp only [List.nil_append, List.cons_append, List.take_succ_cons, List.take_zero, List.cons.injEq, and_true] at e
    subst e; revert hc; decide
  · simp
theorem endless_of (M : Stor) : f_Ratio_endless [] M = .ok (rat 1 0) M := by
  have isNt : fIsi isOk isTab [.ins 4 [], .cls 4] (M ++ [MO.ins 5 []]) = .ok (.bl true) (M ++ [MO.ins 5 []]) := rfl
  have hk : (M ++ [MO.ins 5 []])[M.length]? = some (.ins 5 []) := by simp
  have h : f_Ratio___init__ [.ref M.length, .int 1, .ins 4 []] (M ++ [MO.ins 5 []]) = .ok .non ((M ++ [MO.ins 5 []]).set M.length (.ins 5 [.int 1, .int 0])) := by
    simp only [f_Ratio___init__, b_Ratio___init__, gFn, gSeq, gSkip, gRet, gRetN, gExpr, gSet, gIf, gAug, gAsg, gPar2, gPar3, gVar, gC, gBin, gUn, gTr, gAnd, gOr, gNot, gAndV, gOrV, gNotV, gIfE, gCall, G.gCons, G.gNil, G.gTup, G.gLst, gLstM, gSl, goSome, goNone, R.bind_ok, R.bind_ex, R.bind_no, R.bindS_ok, R.bindS_ex, R.bindS_no, outS_nx, outS_rt, outS_ex, orR_ok, orR_ex, orR_no, ggName, ggSub, List.getElem?_cons_zero, List.getElem?_cons_succ, List.set_cons_zero, List.set_cons_succ, List.map_cons, List.map_nil, List.length_cons, List.length_nil, List.replicate, List.append_nil, List.nil_append, List.cons_append, Nat.reduceAdd, Nat.reduceSub, Nat.reduceLeDiff, Nat.reduceLT, if_true, if_false, not_false_eq_true, Bool.false_eq_true, Bool.true_eq_false, Bool.not_true, Bool.not_false, decide_true, decide_false, decide_eq_true_eq, reduceIte, reduceCtorEq, eAdd, eAddI, eSub, eLt, eLe, eGt, eGe, eEq, eNe, eEqS, eNeS, eTru, eNeg, eAbs, eInt, eIntB, eLenL, eLenT, isint, isNt, gSetF, hk, ft_top5, setFl0, set_self hk, ft_bot5, setFl1, List.set_set]
  have g : gMake 5 [] f_Ratio___init__ [.int 1, .ins 4 []] M = .ok (rat 1 0) M := by
    simp only [gMake, gMakeM, List.append_nil, h, R.bind_ok, set_last]
    exact frz_insF rfl
  simp only [f_Ratio_endless, b_Ratio_endless, gFn, gSeq, gSkip, gRet, gRetN, gExpr, gSet, gIf, gAug, gAsg, gPar2, gPar3, gVar, gC, gBin, gUn, gTr, gAnd, gOr, gNot, gAndV, gOrV, gNotV, gIfE, gCall, G.gCons, G.gNil, G.gTup, G.gLst, gLstM, gSl, goSome, goNone, R.bind_ok, R.bind_ex, R.bind_no, R.bindS_ok, R.bindS_ex, R.bindS_no, outS_nx, outS_rt, outS_ex, orR_ok, orR_ex, orR_no, ggName, ggSub, List.getElem?_cons_zero, List.getElem?_cons_succ, List.set_cons_zero, List.set_cons_succ, List.map_cons, List.map_nil, List.length_cons, List.length_nil, List.replicate, List.append_nil, List.nil_append, List.cons_append, Nat.reduceAdd, Nat.reduceSub, Nat.reduceLeDiff, Nat.reduceLT, if_true, if_false, not_false_eq_true, Bool.false_eq_true, Bool.true_eq_false, Bool.not_true, Bool.not_false, decide_true, decide_false, decide_eq_true_eq, reduceIte, reduceCtorEq, eAdd, eAddI, eSub, eLt, eLe, eGt, eGe, eEq, eNe, eEqS, eNeS, eTru, eNeg, eAbs, eInt, eIntB, eLenL, eLenT, gBare, g]
/-- reading, when no e stands ahead -/
theorem read_no_e {l : List Nat} (h : Lo l) (he : ¬ l.take 1 = [101]) (M : Stor) {e : Nat} (ht : f_top_end [.str (S l)] M = .ex 3 (some [.int (e : Nat)]) M) : f_Ratio_read [.cls 5, .str (S l)] M = .ex 3 (some [.int (e : Nat)]) M := by
  have s1 := sl1 h M
  simp only [f_Ratio_read, b_Ratio_read, gFn, gSeq, gSkip, gRet, gRetN, gExpr, gSet, gIf, gAug, gAsg, gPar2, gPar3, gVar, gC, gBin, gUn, gTr, gAnd, gOr, gNot, gAndV, gOrV, gNotV, gIfE, gCall, G.gCons, G.gNil, G.gTup, G.gLst, gLstM, gSl, goSome, goNone, R.bind_ok, R.bind_ex, R.bind_no, R.bindS_ok, R.bindS_ex, R.bindS_no, outS_nx, outS_rt, outS_ex, orR_ok, orR_ex, orR_no, ggName, ggSub, List.getElem?_cons_zero, List.getElem?_cons_succ, List.set_cons_zero, List.set_cons_succ, List.map_cons, List.map_nil, List.length_cons, List.length_nil, List.replicate, List.append_nil, List.nil_append, List.cons_append, Nat.reduceAdd, Nat.reduceSub, Nat.reduceLeDiff, Nat.reduceLT, if_true, if_false, not_false_eq_true, Bool.false_eq_true, Bool.true_eq_false, Bool.not_true, Bool.not_false, decide_true, decide_false, decide_eq_true_eq, reduceIte, reduceCtorEq, eAdd, eAddI, eSub, eLt, eLe, eGt, eGe, eEq, eNe, eEqS, eNeS, eTru, eNeg, eAbs, eInt, eIntB, eLenL, eLenT, isS, s1, endl, s0, tEq, S_eq, he, ht]
theorem read_mid {l : List Nat} (h : Lo l) (he : ¬ l.take 1 = [101]) (M : Stor) {n c : Nat} (ht : f_top_end [.str (S l)] M = .ok (.int (n : Nat)) M) (hn : n < l.length) (hc : l[n]? = some c) (h47 : c ≠ 47) : f_Ratio_read [.cls 5, .str (S l)] M = .ex 3 (some [.int (n : Nat)]) M := by
  have s1 := sl1 h M
  have len := tLen l M (by have := h.len; omega)
  have ne : ¬ ((n : Nat) : Int) = (l.length : Nat) := by omega
  have ix := tIx M (by have := h.len; omega) hc
  have n47 : ¬ [c] = [47] := by simpa using h47
  simp only [f_Ratio_read, b_Ratio_read, gFn, gSeq, gSkip, gRet, gRetN, gExpr, gSet, gIf, gAug, gAsg, gPar2, gPar3, gVar, gC, gBin, gUn, gTr, gAnd, gOr, gNot, gAndV, gOrV, gNotV, gIfE, gCall, G.gCons, G.gNil, G.gTup, G.gLst, gLstM, gSl, goSome, goNone, R.bind_ok, R.bind_ex, R.bind_no, R.bindS_ok, R.bindS_ex, R.bindS_no, outS_nx, outS_rt, outS_ex, orR_ok, orR_ex, orR_no, ggName, ggSub, List.getElem?_cons_zero, List.getElem?_cons_succ, List.set_cons_zero, List.set_cons_succ, List.map_cons, List.map_nil, List.length_cons, List.length_nil, List.replicate, List.append_nil, List.nil_append, List.cons_append, Nat.reduceAdd, Nat.reduceSub, Nat.reduceLeDiff, Nat.reduceLT, if_true, if_false, not_false_eq_true, Bool.false_eq_true, Bool.true_eq_false, Bool.not_true, Bool.not_false, decide_true, decide_false, decide_eq_true_eq, reduceIte, reduceCtorEq, eAdd, eAddI, eSub, eLt, eLe, eGt, eGe, eEq, eNe, eEqS, eNeS, eTru, eNeg, eAbs, eInt, eIntB, eLenL, eLenT, isS, s1, endl, s0, tEq, tNe, S_eq, he, ht, len, ne, ix, slash, n47, gRaise1, not_false_eq_true, Bool.not_false]
theorem read_bot {l : List Nat} (h : Lo l) (he : ¬ l.take 1 = [101]) (M : Stor) {n : Nat} (ht : f_top_end [.str (S l)] M = .ok (.int (n : Nat)) M) (hn : n < l.length) (hc : l[n]? = some 47) {e : Nat}
    (hb : f_need_bottom [.str (S l), .int ((n + 1 : Nat) : Int)] M = .ex 3 (some [.int (e : Nat)]) M) : f_Ratio_read [.cls 5, .str (S l)] M = .ex 3 (some [.int (e : Nat)]) M := by
  have s1 := sl1 h M
  have len := tLen l M (by have := h.len; omega)
  have ne : ¬ ((n : Nat) : Int) = (l.length : Nat) := by omega
  have ix := tIx M (by have := h.len; omega) hc
  have b : ((n : Nat) : Int) + 1 = ((n + 1 : Nat) : Int) := by omega
  simp only [f_Ratio_read, b_Ratio_read, gFn, gSeq, gSkip, gRet, gRetN, gExpr, gSet, gIf, gAug, gAsg, gPar2, gPar3, gVar, gC, gBin, gUn, gTr, gAnd, gOr, gNot, gAndV, gOrV, gNotV, gIfE, gCall, G.gCons, G.gNil, G.gTup, G.gLst, gLstM, gSl, goSome, goNone, R.bind_ok, R.bind_ex, R.bind_no, R.bindS_ok, R.bindS_ex, R.bindS_no, outS_nx, outS_rt, outS_ex, orR_ok, orR_ex, orR_no, ggName, ggSub, List.getElem?_cons_zero, List.getElem?_cons_succ, List.set_cons_zero, List.set_cons_succ, List.map_cons, List.map_nil, List.length_cons, List.length_nil, List.replicate, List.append_nil, List.nil_append, List.cons_append, Nat.reduceAdd, Nat.reduceSub, Nat.reduceLeDiff, Nat.reduceLT, if_true, if_false, not_false_eq_true, Bool.false_eq_true, Bool.true_eq_false, Bool.not_true, Bool.not_false, decide_true, decide_false, decide_eq_true_eq, reduceIte, reduceCtorEq, eAdd, eAddI, eSub, eLt, eLe, eGt, eGe, eEq, eNe, eEqS, eNeS, eTru, eNeg, eAbs, eInt, eIntB, eLenL, eLenT, isS, s1, endl, s0, tEq, tNe, S_eq, he, ht, len, ne, ix, slash, b, hb]
theorem read_ok {l : List Nat} {o : Out} (h : Lo l) (hs : Sh l o) (M : Stor) : f_Ratio_read [.cls 5, .str (S l)] M = readR o M := by
  cases hs with
  | e n r h1 h7 hr hz =>
    have s1 := sl1 h M
    have et : (endL.take n ++ r).take 1 = [101] := by
      obtain ⟨n, rfl⟩ : ∃ k, n = k + 1 := ⟨n - 1, by omega⟩
      simp
    rw [et] at s1
    have ne := need_end M h h7 hr
    rw [if_pos hz] at ne
    generalize endL.take n ++ r = ln at *
    simp only [f_Ratio_read, b_Ratio_read, gFn, gSeq, gSkip, gRet, gRetN, gExpr, gSet, gIf, gAug, gAsg, gPar2, gPar3, gVar, gC, gBin, gUn, gTr, gAnd, gOr, gNot, gAndV, gOrV, gNotV, gIfE, gCall, G.gCons, G.gNil, G.gTup, G.gLst, gLstM, gSl, goSome, goNone, R.bind_ok, R.bind_ex, R.bind_no, R.bindS_ok, R.bindS_ex, R.bindS_no, outS_nx, outS_rt, outS_ex, orR_ok, orR_ex, orR_no, ggName, ggSub, List.getElem?_cons_zero, List.getElem?_cons_succ, List.set_cons_zero, List.set_cons_succ, List.map_cons, List.map_nil, List.length_cons, List.length_nil, List.replicate, List.append_nil, List.nil_append, List.cons_append, Nat.reduceAdd, Nat.reduceSub, Nat.reduceLeDiff, Nat.reduceLT, if_true, if_false, not_false_eq_true, Bool.false_eq_true, Bool.true_eq_false, Bool.not_true, Bool.not_false, decide_true, decide_false, decide_eq_true_eq, reduceIte, reduceCtorEq, eAdd, eAddI, eSub, eLt, eLe, eGt, eGe, eEq, eNe, eEqS, eNeS, eTru, eNeg, eAbs, eInt, eIntB, eLenL, eLenT, isS, s1, endl, s0, tEq, ne, readR]
  | fin =>
    have ne := need_end (n := 7) (r := []) M h (by decide) (fun _ _ h => by cases h)
    rw [if_neg (by simp)] at ne
    have ne : f_need_endless [.str (S endL)] M = .ok .non M := ne
    have eo := endless_of M
    simp only [f_Ratio_read, b_Ratio_read, gFn, gSeq, gSkip, gRet, gRetN, gExpr, gSet, gIf, gAug, gAsg, gPar2, gPar3, gVar, gC, gBin, gUn, gTr, gAnd, gOr, gNot, gAndV, gOrV, gNotV, gIfE, gCall, G.gCons, G.gNil, G.gTup, G.gLst, gLstM, gSl, goSome, goNone, R.bind_ok, R.bind_ex, R.bind_no, R.bindS_ok, R.bindS_ex, R.bindS_no, outS_nx, outS_rt, outS_ex, orR_ok, orR_ex, orR_no, ggName, ggSub, List.getElem?_cons_zero, List.getElem?_cons_succ, List.set_cons_zero, List.set_cons_succ, List.map_cons, List.map_nil, List.length_cons, List.length_nil, List.replicate, List.append_nil, List.nil_append, List.cons_append, Nat.reduceAdd, Nat.reduceSub, Nat.reduceLeDiff, Nat.reduceLT, if_true, if_false, not_false_eq_true, Bool.false_eq_true, Bool.true_eq_false, Bool.not_true, Bool.not_false, decide_true, decide_false, decide_eq_true_eq, reduceIte, reduceCtorEq, eAdd, eAddI, eSub, eLt, eLe, eGt, eGe, eEq, eNe, eEqS, eNeS, eTru, eNeg, eAbs, eInt, eIntB, eLenL, eLenT, isS, endl, s0, tEq, ne, readR, gClsM0, eo]
  | no s r hs hr hr' =>
    refine read_no_e h ?_ M (top_none M h hs hr fun e c l hcl => (hr' e c l hcl).1)
    rcases hs with rfl | rfl
    · cases r with
      | nil => simp
      | cons c l =>
        have := (hr' rfl c l rfl).2
        simpa using this
    · simp
  | m0 r => exact read_no_e h (by simp) M (top_m0 M h)
  | w s x hX =>
    have hh := head_ne (r := []) hX
    rw [List.append_nil] at hh
    have t := top_X (r := []) M (by rw [List.append_nil]; exact h) hX (.inl fun _ _ h => by cases h)
    rw [List.append_nil] at t
    have s1 := sl1 h M
    have len := tLen (s ++ x) M (by have := h.len; omega)
    have i := int_s hX.sg hX.dg hX.ne h.len M
    have mk := make1_ok (sv s x) M
    generalize s ++ x = ln at *
    simp only [f_Ratio_read, b_Ratio_read, gFn, gSeq, gSkip, gRet, gRetN, gExpr, gSet, gIf, gAug, gAsg, gPar2, gPar3, gVar, gC, gBin, gUn, gTr, gAnd, gOr, gNot, gAndV, gOrV, gNotV, gIfE, gCall, G.gCons, G.gNil, G.gTup, G.gLst, gLstM, gSl, goSome, goNone, R.bind_ok, R.bind_ex, R.bind_no, R.bindS_ok, R.bindS_ex, R.bindS_no, outS_nx, outS_rt, outS_ex, orR_ok, orR_ex, orR_no, ggName, ggSub, List.getElem?_cons_zero, List.getElem?_cons_succ, List.set_cons_zero, List.set_cons_succ, List.map_cons, List.map_nil, List.length_cons, List.length_nil, List.replicate, List.append_nil, List.nil_append, List.cons_append, Nat.reduceAdd, Nat.reduceSub, Nat.reduceLeDiff, Nat.reduceLT, if_true, if_false, not_false_eq_true, Bool.false_eq_true, Bool.true_eq_false, Bool.not_true, Bool.not_false, decide_true, decide_false, decide_eq_true_eq, reduceIte, reduceCtorEq, eAdd, eAddI, eSub, eLt, eLe, eGt, eGe, eEq, eNe, eEqS, eNeS, eTru, eNeg, eAbs, eInt, eIntB, eLenL, eLenT, isS, s1, endl, s0, tEq, S_eq, hh, t, len, decide_eq_true (rfl : ((ln.length : Nat) : Int) = ((ln.length : Nat) : Int)), gCallV, i, mk, readR]
  | st s x c r hX hc hd =>
    refine read_mid h (head_ne hX) M (top_X M h hX ?_) (by simp) (by simp) hc
    rcases hd with hd | hd
    · exact .inl fun c' l e => by cases e; exact hd
    · exact .inr hd
  | b0 s x r hX =>
    refine read_bot (n := (s ++ x).length) h (head_ne hX) M (top_X M h hX (.inl fun c' l e => by cases e; decide)) (by simp) (by simp) ?_
    have e : (s ++ x) ++ 47 :: 48 :: r = ((s ++ x) ++ [47]) ++ 48 :: r := by simp
    have el : ((s ++ x) ++ [47]).length = (s ++ x).length + 1 := by simp; omega
    rw [e] at h ⊢
    have := bot_0 M h
    rw [el] at this
    exact this
  | bb s x y z hX hy hh hz hyz =>
    refine read_bot (n := (s ++ x).length) h (head_ne hX) M (top_X M h hX (.inl fun c' l e => by cases e; decide)) (by simp) (by simp) ?_
    have e : (s ++ x) ++ 47 :: (y ++ z) = ((s ++ x) ++ [47]) ++ (y ++ z) := by simp
    have el : ((s ++ x) ++ [47]).length = (s ++ x).length + 1 := by simp; omega
    have el2 : (((s ++ x) ++ [47]) ++ y).length = (s ++ x).length + 1 + y.length := by simp; omega
    rw [e] at h ⊢
    have := bot_bad M h hy hh hz hyz
    rw [el, el2] at this
    exact this
  | v s x y hX hy hne hh =>
    have t := top_X M h hX (.inl fun c' l e => by cases e; decide)
    have hd := head_ne (r := 47 :: y) hX
    have at_ : ((s ++ x) ++ 47 :: y)[(s ++ x).length]? = some 47 := by simp
    have ix := tIx M (by have := h.len; omega) at_
    have s1 := sl1 h M
    have len := tLen ((s ++ x) ++ 47 :: y) M (by have := h.len; omega)
    have nel : ¬ (((s ++ x).length : Nat) : Int) = (((s ++ x) ++ 47 :: y).length : Nat) := by simp; omega
    have e : (s ++ x) ++ 47 :: y = ((s ++ x) ++ [47]) ++ y := by simp
    have el : ((s ++ x) ++ [47]).length = (s ++ x).length + 1 := by simp; omega
    have nb := bot_ok (p := (s ++ x) ++ [47]) M (by rw [← e]; exact h) hy hne hh
    rw [← e, el] at nb
    have b : (((s ++ x).length : Nat) : Int) + 1 = (((s ++ x).length + 1 : Nat) : Int) := by omega
    have sA := G.tSl ((s ++ x) ++ 47 :: y) none (some ((s ++ x).length : Nat)) M (by have := h.len; omega)
    have mA : ((s ++ x) ++ 47 :: y).take (s ++ x).length = s ++ x := List.take_left
    rw [cut_to, mA] at sA
    have sB := G.tSl ((s ++ x) ++ 47 :: y) (some (((s ++ x).length + 1 : Nat) : Int)) none M (by have := h.len; omega)
    have mB : ((s ++ x) ++ 47 :: y).drop ((s ++ x).length + 1) = [] ++ y := by rw [e, ← el, List.drop_left]; rfl
    rw [cut_from, mB] at sB
    have hll := h.len
    rw [List.length_append, List.length_cons] at hll
    have i1 := int_s hX.sg hX.dg hX.ne (by omega) M
    have i2 := int_s (s := []) (.inl rfl) hy hne (by show y.length ≤ 600; omega) M
    have sv0 : sv [] y = ((dv y : Nat) : Int) := rfl
    rw [sv0] at i2
    have mk := make_ok (sv s x) (dv y) M (dv_pos hy hne hh) (dv_big hy (by omega))
    generalize (s ++ x) ++ 47 :: y = ln at *
    generalize s ++ x = lx at *
    simp only [List.nil_append] at sB i2
    simp only [f_Ratio_read, b_Ratio_read, gFn, gSeq, gSkip, gRet, gRetN, gExpr, gSet, gIf, gAug, gAsg, gPar2, gPar3, gVar, gC, gBin, gUn, gTr, gAnd, gOr, gNot, gAndV, gOrV, gNotV, gIfE, gCall, G.gCons, G.gNil, G.gTup, G.gLst, gLstM, gSl, goSome, goNone, R.bind_ok, R.bind_ex, R.bind_no, R.bindS_ok, R.bindS_ex, R.bindS_no, outS_nx, outS_rt, outS_ex, orR_ok, orR_ex, orR_no, ggName, ggSub, List.getElem?_cons_zero, List.getElem?_cons_succ, List.set_cons_zero, List.set_cons_succ, List.map_cons, List.map_nil, List.length_cons, List.length_nil, List.replicate, List.append_nil, List.nil_append, List.cons_append, Nat.reduceAdd, Nat.reduceSub, Nat.reduceLeDiff, Nat.reduceLT, if_true, if_false, not_false_eq_true, Bool.false_eq_true, Bool.true_eq_false, Bool.not_true, Bool.not_false, decide_true, decide_false, decide_eq_true_eq, reduceIte, reduceCtorEq, eAdd, eAddI, eSub, eLt, eLe, eGt, eGe, eEq, eNe, eEqS, eNeS, eTru, eNeg, eAbs, eInt, eIntB, eLenL, eLenT, isS, s1, endl, s0, tEq, tNe, S_eq, hd, t, len, nel, gCallV, ix, slash, b, nb, sA, sB, i1, i2, mk, readR]
end K06

namespace K06
open PySem L2 G SX
/-! ### which pieces begin a right text -/
def B (p : List Nat) (b : Bool) : Prop := ∀ M : Stor, f__law_begins [.str (S p)] M = .ok (.bl b) M
theorem B1 {p : List Nat} (h : Lo p) (hs : 47 ∉ p) {b : Bool} (e : beg1 p = b) : B p b := fun M => by rw [begins1 h hs M, e]
theorem B2 {f a : List Nat} (h : Lo (f ++ 47 :: a)) (hs : 47 ∉ f) {b : Bool} (e : beg2 f a = b) : B (f ++ 47 :: a) b := fun M => by rw [begins2 h hs M, e]
theorem num_t {x : List Nat} (hd : ∀ c ∈ x, isDg c) (hne : x ≠ []) (hh : x = [48] ∨ x.head? ≠ some 48) : num x = true := by
  unfold num
  have h1 : (x.all fun c => decide (isDg c)) = true := List.all_eq_true.mpr fun c hc => decide_eq_true (hd c hc)
  rw [h1, decide_eq_true hne]
  rcases hh with h | h
  · rw [decide_eq_true h]; rfl
  · rw [decide_eq_true h, Bool.or_true]; rfl
theorem num_nd {x : List Nat} {c : Nat} (hc : c ∈ x) (hd : ¬ isDg c) : num x = false := by
  unfold num
  have h1 : (x.all fun c => decide (isDg c)) = false := by
    rw [Bool.eq_false_iff]
    intro h
    exact hd (by simpa using List.all_eq_true.mp h c hc)
  rw [h1]; simp
theorem dg47 {c : Nat} (h : isDg c) : c ≠ 47 ∧ c ≠ 45 ∧ c ≠ 101 := by obtain ⟨h1, h2⟩ := h; omega
theorem dg_no {x : List Nat} (hd : ∀ c ∈ x, isDg c) : 47 ∉ x := fun h => (dg47 (hd 47 h)).1 rfl
theorem sg_no {s : List Nat} (h : Sg s) : 47 ∉ s := by rcases h with rfl | rfl <;> simp
theorem endp_head {c : Nat} {l : List Nat} (h : c ≠ 101) : endp (c :: l) = false := by
  refine decide_eq_false fun e => ?_
  rw [List.length_cons, List.take_succ_cons] at e
  injection e with e _
  exact h e.symm
theorem body_nil {c : Nat} {l : List Nat} (h : c ≠ 45) : body (c :: l) = c :: l := by
  unfold body
  rw [if_neg]
  simpa using h
theorem body_m (l : List Nat) : body (45 :: l) = l := by unfold body; simp
section
variable {s x : List Nat} (hX : NumX s x)
include hX
theorem X_no : 47 ∉ s ++ x := fun h => by
  rcases List.mem_append.mp h with h | h
  · exact sg_no hX.sg h
  · exact dg_no hX.dg h
theorem X_body (r : List Nat) : body ((s ++ x) ++ r) = x ++ r := by
  obtain ⟨c, l, rfl⟩ := List.exists_cons_of_ne_nil hX.ne
  have hc := dg47 (hX.dg c List.mem_cons_self)
  rcases hX.sg with rfl | rfl
  · exact body_nil hc.2.1
  · exact body_m _
theorem X_ne0 (r : List Nat) : ¬ (s ++ x) ++ r = [45, 48] := by
  obtain ⟨c, l, rfl⟩ := List.exists_cons_of_ne_nil hX.ne
  have hc := dg47 (hX.dg c List.mem_cons_self)
  rcases hX.hd with ⟨e, rfl⟩ | hh
  · intro h
    simp only [List.nil_append, List.cons_append, List.cons.injEq] at h
    exact hc.2.1 h.1
  · rcases hX.sg with rfl | rfl
    · intro h
      simp only [List.nil_append, List.cons_append, List.cons.injEq] at h
      exact hc.2.1 h.1
    · intro h
      simp only [List.nil_append, List.cons_append, List.cons.injEq] at h
      exact hh (by rw [h.2.1]; rfl)
theorem X_num : num x = true := num_t hX.dg hX.ne (hX.hd.imp (fun h => h.1) id)
theorem X_endp (r : List Nat) : endp ((s ++ x) ++ r) = false := by
  obtain ⟨c, l, rfl⟩ := List.exists_cons_of_ne_nil hX.ne
  have hc := dg47 (hX.dg c List.mem_cons_self)
  rcases hX.sg with rfl | rfl
  · exact endp_head hc.2.2
  · exact endp_head (by decide)
theorem X_take {j : Nat} (hj : 1 ≤ j) : NumX s (x.take j) := by
  refine ⟨hX.sg, fun c hc => hX.dg c (List.mem_of_mem_take hc), ?_, ?_⟩
  · obtain ⟨c, l, rfl⟩ := List.exists_cons_of_ne_nil hX.ne
    obtain ⟨j, rfl⟩ : ∃ k, j = k + 1 := ⟨j - 1, by omega⟩
    simp
  · obtain ⟨j, rfl⟩ : ∃ k, j = k + 1 := ⟨j - 1, by omega⟩
    rcases hX.hd with ⟨rfl, rfl⟩ | hh
    · exact .inl ⟨by simp, rfl⟩
    · refine .inr ?_
      obtain ⟨c, l, rfl⟩ := List.exists_cons_of_ne_nil hX.ne
      simpa using hh
theorem X_beg (h : Lo (s ++ x)) : B (s ++ x) true := by
  refine B1 h (X_no hX) ?_
  unfold beg1
  have e := X_body hX []
  have e2 := X_ne0 hX []
  simp only [List.append_nil] at e e2
  rw [e, X_num hX, decide_eq_false e2]
  simp
theorem X_pre (h : Lo (s ++ x)) {k : Nat} (h1 : 1 ≤ k) : B ((s ++ x).take k) true := by
  by_cases hk : k ≤ s.length
  · rcases hX.sg with rfl | rfl
    · simp at hk; omega
    · have : k = 1 := by simp at hk; omega
      subst this
      have e : ([45] ++ x).take 1 = [45] := by simp
      rw [e]
      exact B1 ⟨by simp, by simp⟩ (by simp) (by unfold beg1; simp)
  · have e : (s ++ x).take k = s ++ x.take (k - s.length) := by
      rw [List.take_append, List.take_of_length_le (by omega)]
    have hl := h.take k
    rw [e] at hl ⊢
    exact X_beg (X_take hX (by omega)) hl
theorem X_str {a : List Nat} (h : Lo ((s ++ x) ++ 47 :: a)) {b : Bool} (e : (decide (a = []) || (num a && !decide (a = [48]))) = b) : B ((s ++ x) ++ 47 :: a) b := by
  refine B2 h (X_no hX) ?_
  unfold beg2
  have e1 := X_body hX []
  have e2 := X_ne0 hX []
  simp only [List.append_nil] at e1 e2
  rw [e1, X_num hX, decide_eq_false e2, e]
  simp
theorem X_bad {c : Nat} (h : Lo ((s ++ x) ++ [c])) (hc : c ≠ 47) (hd : ¬ isDg c ∨ x = [48]) : B ((s ++ x) ++ [c]) false := by
  refine B1 h (fun hm => ?_) ?_
  · rcases List.mem_append.mp hm with hm | hm
    · exact X_no hX hm
    · exact hc (List.mem_singleton.mp hm).symm
  · unfold beg1
    have e1 := X_body hX [c]
    have e3 := X_endp hX [c]
    have e4 : ¬ (s ++ x) ++ [c] = [45] := by
      intro e
      have := congrArg List.length e
      have l := List.length_pos_iff.mpr hX.ne
      simp at this
      omega
    have e5 : num (x ++ [c]) = false := by
      rcases hd with hd | rfl
      · exact num_nd (c := c) (by simp) hd
      · unfold num; simp
    rw [e1, e3, e5, decide_eq_false e4]
    rfl
end
theorem y_num {y : List Nat} (hy : ∀ c ∈ y, isDg c) (hh : y.head? ≠ some 48) {j : Nat} : (decide (y.take j = []) || (num (y.take j) && !decide (y.take j = [48]))) = true := by
  by_cases e : y.take j = []
  · rw [decide_eq_true e]; rfl
  · have hd : ∀ c ∈ y.take j, isDg c := fun c hc => hy c (List.mem_of_mem_take hc)
    have h2 : (y.take j).head? ≠ some 48 := by
      cases y with
      | nil => simp
      | cons c l =>
        cases j with
        | zero => simp
        | succ j => simpa using hh
    have h3 : ¬ y.take j = [48] := fun z => h2 (by rw [z]; rfl)
    rw [num_t hd e (.inr h2), decide_eq_false h3]; simp
theorem end_no (n : Nat) : 47 ∉ endL.take n := fun h => by
  have := List.mem_of_mem_take h
  revert this; decide
theorem end_beg {n : Nat} (h : n ≤ 7) : B (endL.take n) true := by
  refine B1 ⟨fun c hc => ?_, by rw [List.length_take]; simp; omega⟩ (end_no n) ?_
  · have z : ∀ c ∈ endL, c < 128 := by decide
    exact z c (List.mem_of_mem_take hc)
  · unfold beg1 endp
    have : endL.take (endL.take n).length = endL.take n := by rw [List.length_take]; congr 1; show min n 7 = n; omega
    rw [decide_eq_true this]; rfl
theorem end_bad {n c : Nat} (h1 : 1 ≤ n) (h : Lo (endL.take n ++ [c])) (h7 : n ≤ 7) (hc : endL[n]? ≠ some c) : B (endL.take n ++ [c]) false := by
  obtain ⟨n, rfl⟩ : ∃ k, n = k + 1 := ⟨n - 1, by omega⟩
  have bd : ∀ l, body (endL.take (n + 1) ++ l) = endL.take (n + 1) ++ l := fun l => body_nil (by decide)
  have nn : ∀ l, num (endL.take (n + 1) ++ l) = false := fun l => num_nd (c := 101) (by simp) (by decide)
  by_cases c47 : c = 47
  · subst c47
    refine B2 h (end_no _) ?_
    unfold beg2
    have := bd []
    have n0 := nn []
    rw [List.append_nil] at this n0
    rw [this, n0]; rfl
  · refine B1 h (fun hm => ?_) ?_
    · rcases List.mem_append.mp hm with hm | hm
      · exact end_no _ hm
      · exact c47 (List.mem_singleton.mp hm).symm
    · unfold beg1
      have tl : (endL.take (n + 1)).length = n + 1 := by rw [List.length_take]; show min (n + 1) 7 = n + 1; omega
      have e1 : endp (endL.take (n + 1) ++ [c]) = false := by
        refine decide_eq_false fun e => ?_
        rw [List.length_append, tl] at e
        have := congrArg (fun l => l[n + 1]?) e
        simp only [List.length_singleton] at this
        rw [List.getElem?_take_of_lt (by omega), List.getElem?_append_right (by omega), tl] at this
        simp only [Nat.sub_self, List.getElem?_cons_zero] at this
        exact hc this
      have e2 : ¬ endL.take (n + 1) ++ [c] = [45] := by simp
      rw [e1, bd, nn, decide_eq_false e2]; rfl
theorem no_bad {s : List Nat} {c : Nat} (hs : Sg s) (h : Lo (s ++ [c])) (hd : ¬ isDg c) (hc : s = [] → c ≠ 45 ∧ c ≠ 101) : B (s ++ [c]) false := by
  by_cases c47 : c = 47
  · subst c47
    refine B2 h (sg_no hs) ?_
    unfold beg2
    have : num (body s) = false := by rcases hs with rfl | rfl <;> decide
    rw [this]; rfl
  · refine B1 h (fun hm => ?_) ?_
    · rcases List.mem_append.mp hm with hm | hm
      · exact sg_no hs hm
      · exact c47 (List.mem_singleton.mp hm).symm
    · unfold beg1
      rcases hs with rfl | rfl
      · obtain ⟨h1, h2⟩ := hc rfl
        have e1 : endp ([] ++ [c]) = false := endp_head h2
        have e2 : body ([] ++ [c]) = [c] := body_nil h1
        have e3 : ¬ [] ++ [c] = [45] := by simpa using h1
        rw [e1, e2, num_nd (c := c) (by simp) hd, decide_eq_false e3]; rfl
      · have e1 : endp ([45] ++ [c]) = false := endp_head (by decide)
        have e2 : body ([45] ++ [c]) = [c] := body_m _
        have e3 : ¬ [45] ++ [c] = [45] := by simp
        rw [e1, e2, num_nd (c := c) (by simp) hd, decide_eq_false e3]; rfl
theorem m0_bad : B [45, 48] false := by
  refine B1 ⟨by simp, by simp⟩ (by simp) ?_
  unfold beg1
  have e1 : endp [45, 48] = false := endp_head (by decide)
  rw [e1]; simp
theorem m_beg : B [45] true := B1 ⟨by simp, by simp⟩ (by simp) (by unfold beg1; simp)
end K06

namespace K06
open PySem L2 G SX
/-! ### what the law finds due -/
noncomputable abbrev dueB : GS' := gIf (gNot (gTr truD (gCall f__law_begins (G.gCons (gSl (gVar 0) goNone (goSome (gVar 1))) G.gNil)))) (gRet (G.gTup (G.gCons (gC (.str "text")) (G.gCons (gBin dSubI (gVar 1) (gC (.int 1))) G.gNil)))) gSkip
theorem slN {l : List Nat} (h : Lo l) (k : Nat) (M : Stor) : dSl (.str (S l)) none (some ((k : Nat) : Int)) M = .ok (.str (S (l.take k))) M := by
  have := G.tSl l none (some ((k : Nat) : Int)) M (by have := h.len; omega)
  rw [cut_to] at this; exact this
theorem due_loop {l : List Nat} (h : Lo l) (M : Stor) : ∀ (m a : Nat) (x1 : Option D), (∀ k, a ≤ k → k < a + m → B (l.take k) true) →
    ∃ x1', loopG anyS (ggName 1) dueB ((List.range' a m).map fun i => .int (i : Nat)) [some (.str (S l)), x1, none, none, none] M = .nx [some (.str (S l)), x1', none, none, none] M
  | 0, a, x1, _ => ⟨x1, loop_nilA⟩
  | m + 1, a, x1, hB => by
    obtain ⟨x1', e⟩ := due_loop h M m (a + 1) (some (.int (a : Nat))) fun k h1 h2 => hB k (by omega) (by omega)
    refine ⟨x1', ?_⟩
    rw [List.range'_succ, List.map_cons]
    refine (loop_cons (Γ1 := [some (.str (S l)), some (.int (a : Nat)), none, none, none]) (M1 := M) rfl ?_).trans e
    have b := hB a (Nat.le_refl _) (by omega) M
    have s := slN h a M
    simp only [dueB, gFn, gSeq, gSkip, gRet, gRetN, gExpr, gSet, gIf, gAug, gAsg, gPar2, gPar3, gVar, gC, gBin, gUn, gTr, gAnd, gOr, gNot, gAndV, gOrV, gNotV, gIfE, gCall, G.gCons, G.gNil, G.gTup, G.gLst, gLstM, gSl, goSome, goNone, R.bind_ok, R.bind_ex, R.bind_no, R.bindS_ok, R.bindS_ex, R.bindS_no, outS_nx, outS_rt, outS_ex, orR_ok, orR_ex, orR_no, ggName, ggSub, List.getElem?_cons_zero, List.getElem?_cons_succ, List.set_cons_zero, List.set_cons_succ, List.map_cons, List.map_nil, List.length_cons, List.length_nil, List.replicate, List.append_nil, List.nil_append, List.cons_append, Nat.reduceAdd, Nat.reduceSub, Nat.reduceLeDiff, Nat.reduceLT, if_true, if_false, not_false_eq_true, Bool.false_eq_true, Bool.true_eq_false, Bool.not_true, Bool.not_false, decide_true, decide_false, decide_eq_true_eq, reduceIte, reduceCtorEq, eAdd, eAddI, eSub, eLt, eLe, eGt, eGe, eEq, eNe, eEqS, eNeS, eTru, eNeg, eAbs, eInt, eIntB, eLenL, eLenT, s, b]
theorem due_bad {l : List Nat} (h : Lo l) (M : Stor) (e : Nat) (hb : B (l.take (e + 1)) false) : ∀ (m a : Nat) (x1 : Option D), a ≤ e + 1 → e + 1 < a + m → (∀ k, a ≤ k → k ≤ e → B (l.take k) true) →
    loopG anyS (ggName 1) dueB ((List.range' a m).map fun i => .int (i : Nat)) [some (.str (S l)), x1, none, none, none] M = .rt (.tup [.str "text", .int (e : Nat)]) M
  | 0, a, x1, h1, h2, _ => by omega
  | m + 1, a, x1, h1, h2, hB => by
    rw [List.range'_succ, List.map_cons]
    by_cases c : a = e + 1
    · subst c
      refine loop_consR (Γ1 := [some (.str (S l)), some (.int ((e + 1 : Nat) : Int)), none, none, none]) (M1 := M) rfl ?_
      have b := hb M
      have s := slN h (e + 1) M
      have a1 : ((e + 1 : Nat) : Int) - 1 = (e : Nat) := by omega
      simp only [dueB, gFn, gSeq, gSkip, gRet, gRetN, gExpr, gSet, gIf, gAug, gAsg, gPar2, gPar3, gVar, gC, gBin, gUn, gTr, gAnd, gOr, gNot, gAndV, gOrV, gNotV, gIfE, gCall, G.gCons, G.gNil, G.gTup, G.gLst, gLstM, gSl, goSome, goNone, R.bind_ok, R.bind_ex, R.bind_no, R.bindS_ok, R.bindS_ex, R.bindS_no, outS_nx, outS_rt, outS_ex, orR_ok, orR_ex, orR_no, ggName, ggSub, List.getElem?_cons_zero, List.getElem?_cons_succ, List.set_cons_zero, List.set_cons_succ, List.map_cons, List.map_nil, List.length_cons, List.length_nil, List.replicate, List.append_nil, List.nil_append, List.cons_append, Nat.reduceAdd, Nat.reduceSub, Nat.reduceLeDiff, Nat.reduceLT, if_true, if_false, not_false_eq_true, Bool.false_eq_true, Bool.true_eq_false, Bool.not_true, Bool.not_false, decide_true, decide_false, decide_eq_true_eq, reduceIte, reduceCtorEq, eAdd, eAddI, eSub, eLt, eLe, eGt, eGe, eEq, eNe, eEqS, eNeS, eTru, eNeg, eAbs, eInt, eIntB, eLenL, eLenT, s, b, a1]
    · refine (loop_cons (Γ1 := [some (.str (S l)), some (.int (a : Nat)), none, none, none]) (M1 := M) rfl ?_).trans (due_bad h M e hb m (a + 1) (some (.int (a : Nat))) (by omega) (by omega) fun k h1 h2 => hB k (by omega) h2)
      have b := hB a (Nat.le_refl _) (by omega) M
      have s := slN h a M
      simp only [dueB, gFn, gSeq, gSkip, gRet, gRetN, gExpr, gSet, gIf, gAug, gAsg, gPar2, gPar3, gVar, gC, gBin, gUn, gTr, gAnd, gOr, gNot, gAndV, gOrV, gNotV, gIfE, gCall, G.gCons, G.gNil, G.gTup, G.gLst, gLstM, gSl, goSome, goNone, R.bind_ok, R.bind_ex, R.bind_no, R.bindS_ok, R.bindS_ex, R.bindS_no, outS_nx, outS_rt, outS_ex, orR_ok, orR_ex, orR_no, ggName, ggSub, List.getElem?_cons_zero, List.getElem?_cons_succ, List.set_cons_zero, List.set_cons_succ, List.map_cons, List.map_nil, List.length_cons, List.length_nil, List.replicate, List.append_nil, List.nil_append, List.cons_append, Nat.reduceAdd, Nat.reduceSub, Nat.reduceLeDiff, Nat.reduceLT, if_true, if_false, not_false_eq_true, Bool.false_eq_true, Bool.true_eq_false, Bool.not_true, Bool.not_false, decide_true, decide_false, decide_eq_true_eq, reduceIte, reduceCtorEq, eAdd, eAddI, eSub, eLt, eLe, eGt, eGe, eEq, eNe, eEqS, eNeS, eTru, eNeg, eAbs, eInt, eIntB, eLenL, eLenT, s, b]
theorem up_range (n : Nat) : upFrom 1 n = (List.range' 1 n).map fun i => D.int (i : Nat) := by
  unfold upFrom
  rw [List.range'_eq_map_range, List.map_map]
  apply List.map_congr_left
  intro i _
  show D.int (1 + (i : Nat)) = D.int ((1 + i : Nat) : Int)
  congr 1
theorem range2_ok {a : GA'} {Γ : Gam} {M M1 : Stor} {n : Nat} (h : a Γ M = .ok [.int 1, .int ((n : Nat) + 1)] M1) (hn : n < 100000) : giRange2 a Γ M = .ok (upFrom 1 n, anyS) M1 := by
  have e : (2 : Int) ^ 62 = 4611686018427387904 := by decide
  unfold giRange2
  rw [h, R.bind_ok]
  generalize hxs : [D.int 1, D.int (((n : Nat) : Int) + 1)] = xs
  split
  · rename_i i j
    injection hxs with h1 h2
    injection h1 with h1
    injection h2 with h2 _
    injection h2 with h2
    subst h1; subst h2
    rw [e, if_pos ⟨by decide, by decide, by omega, by omega⟩]
    congr 3
    omega
  · rename_i q
    exact absurd hxs.symm (q _ _)
noncomputable abbrev dueF : GS' := gFor (giRange2 (G.gCons (gC (.int 1)) (G.gCons (gBin dAdd (gCall fLen (G.gCons (gVar 0) G.gNil)) (gC (.int 1))) G.gNil))) (ggName 1) dueB
theorem dueF_eq {l : List Nat} (h : Lo l) (M : Stor) : dueF [some (.str (S l)), none, none, none, none] M = loopG anyS (ggName 1) dueB ((List.range' 1 l.length).map fun i => .int (i : Nat)) [some (.str (S l)), none, none, none, none] M := by
  have len := tLen l M (by have := h.len; omega)
  have r := range2_ok (a := G.gCons (gC (.int 1)) (G.gCons (gBin dAdd (gCall fLen (G.gCons (gVar 0) G.gNil)) (gC (.int 1))) G.gNil)) (Γ := [some (.str (S l)), none, none, none, none]) (M := M) (M1 := M) (n := l.length) (by simp only [gFn, gSeq, gSkip, gRet, gRetN, gExpr, gSet, gIf, gAug, gAsg, gPar2, gPar3, gVar, gC, gBin, gUn, gTr, gAnd, gOr, gNot, gAndV, gOrV, gNotV, gIfE, gCall, G.gCons, G.gNil, G.gTup, G.gLst, gLstM, gSl, goSome, goNone, R.bind_ok, R.bind_ex, R.bind_no, R.bindS_ok, R.bindS_ex, R.bindS_no, outS_nx, outS_rt, outS_ex, orR_ok, orR_ex, orR_no, ggName, ggSub, List.getElem?_cons_zero, List.getElem?_cons_succ, List.set_cons_zero, List.set_cons_succ, List.map_cons, List.map_nil, List.length_cons, List.length_nil, List.replicate, List.append_nil, List.nil_append, List.cons_append, Nat.reduceAdd, Nat.reduceSub, Nat.reduceLeDiff, Nat.reduceLT, if_true, if_false, not_false_eq_true, Bool.false_eq_true, Bool.true_eq_false, Bool.not_true, Bool.not_false, decide_true, decide_false, decide_eq_true_eq, reduceIte, reduceCtorEq, eAdd, eAddI, eSub, eLt, eLe, eGt, eGe, eEq, eNe, eEqS, eNeS, eTru, eNeg, eAbs, eInt, eIntB, eLenL, eLenT, len]) (by have := h.len; omega)
  rw [up_range] at r
  unfold dueF gFor
  rw [r]
  simp only [R.bindS_ok, anyS, if_true]
/-! ### right texts -/
theorem inq_ok (l : List Nat) (M : Stor) : dInQ false (.str (S l)) (.tup [.str (S []), .str (S [45])]) M = .ok (.bl (decide (l = []) || decide (l = [45]))) M := by
  show R.ok (D.bl ((S [] == S l) || ((S [45] == S l) || false))) M = _
  rw [S_beq, S_beq, Bool.or_false]
  congr 3
  · cases l <;> rfl
  · rw [Bool.eq_iff_iff]; simp only [beq_iff_eq, decide_eq_true_eq]; exact ⟨fun h => h.symm, fun h => h.symm⟩
theorem ixL {l : List Nat} {c : Nat} (h : Lo (l ++ [c])) (M : Stor) : dIx (.str (S (l ++ [c]))) (.int (-1)) M = .ok (.str (S [c])) M := by
  have e : L2.atI (S (l ++ [c])).cps.toList (-1) = some c := by
    rw [S_list]
    unfold L2.atI L2.ixN
    have : (l ++ [c]).length = l.length + 1 := by simp
    rw [if_neg (by decide), this]
    rw [if_pos (by omega)]
    simp only [Option.bind_some]
    have : (-1 + ((l.length + 1 : Nat) : Int)).toNat = l.length := by omega
    rw [this]; simp
  have hl := h.len
  show (if (S (l ++ [c])).length ≤ 1000000 then (match L2.atI (S (l ++ [c])).cps.toList (-1) with | some c => R.ok (D.str ⟨#[c]⟩) M | none => .no) else .no) = _
  rw [S_len, if_pos (by omega), e]
theorem right_ok {l : List Nat} {c : Nat} (h : Lo (l ++ [c])) {bb : Bool} (hb : B (l ++ [c]) bb) (hm : ¬ l ++ [c] = [45]) (M : Stor) :
    f__law_is_right [.str (S (l ++ [c]))] M = .ok (.bl (bb && (!decide (c = 47) && (decide (l ++ [c] = endL) || decide (isDg c))))) M := by
  have q := inq_ok (l ++ [c]) M
  have n0 : decide (l ++ [c] = []) = false := by simp
  rw [n0, decide_eq_false hm] at q
  have b := hb M
  have ix := ixL h M
  generalize l ++ [c] = ln at *
  cases bb with
  | false => simp only [f__law_is_right, b__law_is_right, gFn, gSeq, gSkip, gRet, gRetN, gExpr, gSet, gIf, gAug, gAsg, gPar2, gPar3, gVar, gC, gBin, gUn, gTr, gAnd, gOr, gNot, gAndV, gOrV, gNotV, gIfE, gCall, G.gCons, G.gNil, G.gTup, G.gLst, gLstM, gSl, goSome, goNone, R.bind_ok, R.bind_ex, R.bind_no, R.bindS_ok, R.bindS_ex, R.bindS_no, outS_nx, outS_rt, outS_ex, orR_ok, orR_ex, orR_no, ggName, ggSub, List.getElem?_cons_zero, List.getElem?_cons_succ, List.set_cons_zero, List.set_cons_succ, List.map_cons, List.map_nil, List.length_cons, List.length_nil, List.replicate, List.append_nil, List.nil_append, List.cons_append, Nat.reduceAdd, Nat.reduceSub, Nat.reduceLeDiff, Nat.reduceLT, if_true, if_false, not_false_eq_true, Bool.false_eq_true, Bool.true_eq_false, Bool.not_true, Bool.not_false, decide_true, decide_false, decide_eq_true_eq, reduceIte, reduceCtorEq, eAdd, eAddI, eSub, eLt, eLe, eGt, eGe, eEq, eNe, eEqS, eNeS, eTru, eNeg, eAbs, eInt, eIntB, eLenL, eLenT, nil_S, minus, q, b, Bool.or_self, Bool.false_and]
  | true =>
    by_cases c47 : c = 47
    · subst c47
      simp only [f__law_is_right, b__law_is_right, gFn, gSeq, gSkip, gRet, gRetN, gExpr, gSet, gIf, gAug, gAsg, gPar2, gPar3, gVar, gC, gBin, gUn, gTr, gAnd, gOr, gNot, gAndV, gOrV, gNotV, gIfE, gCall, G.gCons, G.gNil, G.gTup, G.gLst, gLstM, gSl, goSome, goNone, R.bind_ok, R.bind_ex, R.bind_no, R.bindS_ok, R.bindS_ex, R.bindS_no, outS_nx, outS_rt, outS_ex, orR_ok, orR_ex, orR_no, ggName, ggSub, List.getElem?_cons_zero, List.getElem?_cons_succ, List.set_cons_zero, List.set_cons_succ, List.map_cons, List.map_nil, List.length_cons, List.length_nil, List.replicate, List.append_nil, List.nil_append, List.cons_append, Nat.reduceAdd, Nat.reduceSub, Nat.reduceLeDiff, Nat.reduceLT, if_true, if_false, not_false_eq_true, Bool.false_eq_true, Bool.true_eq_false, Bool.not_true, Bool.not_false, decide_true, decide_false, decide_eq_true_eq, reduceIte, reduceCtorEq, eAdd, eAddI, eSub, eLt, eLe, eGt, eGe, eEq, eNe, eEqS, eNeS, eTru, eNeg, eAbs, eInt, eIntB, eLenL, eLenT, nil_S, minus, slash, q, b, Bool.or_self, ix, tEq, Bool.true_and, Bool.false_and]
    · have n47 : ¬ [c] = [47] := by simpa using c47
      by_cases he : ln = endL
      · have he' := decide_eq_true he
        simp only [f__law_is_right, b__law_is_right, gFn, gSeq, gSkip, gRet, gRetN, gExpr, gSet, gIf, gAug, gAsg, gPar2, gPar3, gVar, gC, gBin, gUn, gTr, gAnd, gOr, gNot, gAndV, gOrV, gNotV, gIfE, gCall, G.gCons, G.gNil, G.gTup, G.gLst, gLstM, gSl, goSome, goNone, R.bind_ok, R.bind_ex, R.bind_no, R.bindS_ok, R.bindS_ex, R.bindS_no, outS_nx, outS_rt, outS_ex, orR_ok, orR_ex, orR_no, ggName, ggSub, List.getElem?_cons_zero, List.getElem?_cons_succ, List.set_cons_zero, List.set_cons_succ, List.map_cons, List.map_nil, List.length_cons, List.length_nil, List.replicate, List.append_nil, List.nil_append, List.cons_append, Nat.reduceAdd, Nat.reduceSub, Nat.reduceLeDiff, Nat.reduceLT, if_true, if_false, not_false_eq_true, Bool.false_eq_true, Bool.true_eq_false, Bool.not_true, Bool.not_false, decide_true, decide_false, decide_eq_true_eq, reduceIte, reduceCtorEq, eAdd, eAddI, eSub, eLt, eLe, eGt, eGe, eEq, eNe, eEqS, eNeS, eTru, eNeg, eAbs, eInt, eIntB, eLenL, eLenT, nil_S, minus, slash, endl, q, b, Bool.or_self, ix, tEq, S_eq, n47, c47, he', Bool.true_and, Bool.true_or]
      · have dd := figs_dec c
        simp only [f__law_is_right, b__law_is_right, gFn, gSeq, gSkip, gRet, gRetN, gExpr, gSet, gIf, gAug, gAsg, gPar2, gPar3, gVar, gC, gBin, gUn, gTr, gAnd, gOr, gNot, gAndV, gOrV, gNotV, gIfE, gCall, G.gCons, G.gNil, G.gTup, G.gLst, gLstM, gSl, goSome, goNone, R.bind_ok, R.bind_ex, R.bind_no, R.bindS_ok, R.bindS_ex, R.bindS_no, outS_nx, outS_rt, outS_ex, orR_ok, orR_ex, orR_no, ggName, ggSub, List.getElem?_cons_zero, List.getElem?_cons_succ, List.set_cons_zero, List.set_cons_succ, List.map_cons, List.map_nil, List.length_cons, List.length_nil, List.replicate, List.append_nil, List.nil_append, List.cons_append, Nat.reduceAdd, Nat.reduceSub, Nat.reduceLeDiff, Nat.reduceLT, if_true, if_false, not_false_eq_true, Bool.false_eq_true, Bool.true_eq_false, Bool.not_true, Bool.not_false, decide_true, decide_false, decide_eq_true_eq, reduceIte, reduceCtorEq, eAdd, eAddI, eSub, eLt, eLe, eGt, eGe, eEq, eNe, eEqS, eNeS, eTru, eNeg, eAbs, eInt, eIntB, eLenL, eLenT, nil_S, minus, slash, endl, figs, q, b, Bool.or_self, ix, tEq, tIn, S_eq, n47, c47, he, dd, Bool.true_and, Bool.false_or]
theorem right_none (M : Stor) : f__law_is_right [.str (S [])] M = .ok (.bl false) M := by
  have q := inq_ok [] M
  simp only [f__law_is_right, b__law_is_right, gFn, gSeq, gSkip, gRet, gRetN, gExpr, gSet, gIf, gAug, gAsg, gPar2, gPar3, gVar, gC, gBin, gUn, gTr, gAnd, gOr, gNot, gAndV, gOrV, gNotV, gIfE, gCall, G.gCons, G.gNil, G.gTup, G.gLst, gLstM, gSl, goSome, goNone, R.bind_ok, R.bind_ex, R.bind_no, R.bindS_ok, R.bindS_ex, R.bindS_no, outS_nx, outS_rt, outS_ex, orR_ok, orR_ex, orR_no, ggName, ggSub, List.getElem?_cons_zero, List.getElem?_cons_succ, List.set_cons_zero, List.set_cons_succ, List.map_cons, List.map_nil, List.length_cons, List.length_nil, List.replicate, List.append_nil, List.nil_append, List.cons_append, Nat.reduceAdd, Nat.reduceSub, Nat.reduceLeDiff, Nat.reduceLT, if_true, if_false, not_false_eq_true, Bool.false_eq_true, Bool.true_eq_false, Bool.not_true, Bool.not_false, decide_true, decide_false, decide_eq_true_eq, reduceIte, reduceCtorEq, eAdd, eAddI, eSub, eLt, eLe, eGt, eGe, eEq, eNe, eEqS, eNeS, eTru, eNeg, eAbs, eInt, eIntB, eLenL, eLenT, nil_S, minus, q, decide_eq_true (rfl : ([] : List Nat) = []), Bool.true_or]
theorem right_m (M : Stor) : f__law_is_right [.str (S [45])] M = .ok (.bl false) M := by
  have q := inq_ok [45] M
  simp only [f__law_is_right, b__law_is_right, gFn, gSeq, gSkip, gRet, gRetN, gExpr, gSet, gIf, gAug, gAsg, gPar2, gPar3, gVar, gC, gBin, gUn, gTr, gAnd, gOr, gNot, gAndV, gOrV, gNotV, gIfE, gCall, G.gCons, G.gNil, G.gTup, G.gLst, gLstM, gSl, goSome, goNone, R.bind_ok, R.bind_ex, R.bind_no, R.bindS_ok, R.bindS_ex, R.bindS_no, outS_nx, outS_rt, outS_ex, orR_ok, orR_ex, orR_no, ggName, ggSub, List.getElem?_cons_zero, List.getElem?_cons_succ, List.set_cons_zero, List.set_cons_succ, List.map_cons, List.map_nil, List.length_cons, List.length_nil, List.replicate, List.append_nil, List.nil_append, List.cons_append, Nat.reduceAdd, Nat.reduceSub, Nat.reduceLeDiff, Nat.reduceLT, if_true, if_false, not_false_eq_true, Bool.false_eq_true, Bool.true_eq_false, Bool.not_true, Bool.not_false, decide_true, decide_false, decide_eq_true_eq, reduceIte, reduceCtorEq, eAdd, eAddI, eSub, eLt, eLe, eGt, eGe, eEq, eNe, eEqS, eNeS, eTru, eNeg, eAbs, eInt, eIntB, eLenL, eLenT, nil_S, minus, q, decide_eq_true (rfl : [45] = [45]), Bool.or_true]
end K06

namespace K06
open PySem L2 G SX
def dueD : Out → D
  | .err e => .tup [.str "text", .int (e : Nat)]
  | .endless => pairD 1 0
  | .val a b => lp (lowP a b)
theorem due_lt {l : List Nat} (h : Lo l) (M : Stor) {e : Nat} (he : e < l.length) (hB : ∀ k, 1 ≤ k → k ≤ e → B (l.take k) true) (hb : B (l.take (e + 1)) false) : f__law_due [.str (S l)] M = .ok (dueD (.err e)) M := by
  have d := due_bad h M e hb l.length 1 none (by omega) (by omega) hB
  rw [← dueF_eq h M] at d
  refine fn_rt rfl ?_
  show b__law_due [some (.str (S l)), none, none, none, none] M = _
  exact seq_rt d
theorem due_pre {l : List Nat} (h : Lo l) (M : Stor) (hB : ∀ k, 1 ≤ k → k ≤ l.length → B (l.take k) true) : ∃ x1, dueF [some (.str (S l)), none, none, none, none] M = .nx [some (.str (S l)), x1, none, none, none] M := by
  obtain ⟨x1, d⟩ := due_loop h M l.length 1 none fun k h1 h2 => hB k h1 (by omega)
  rw [← dueF_eq h M] at d
  exact ⟨x1, d⟩
theorem due_eq {l : List Nat} (h : Lo l) (M : Stor) (hB : ∀ k, 1 ≤ k → k ≤ l.length → B (l.take k) true) (hr : f__law_is_right [.str (S l)] M = .ok (.bl false) M) : f__law_due [.str (S l)] M = .ok (dueD (.err l.length)) M := by
  obtain ⟨x1, d⟩ := due_pre h M hB
  have len := tLen l M (by have := h.len; omega)
  refine fn_rt rfl ?_
  show b__law_due [some (.str (S l)), none, none, none, none] M = _
  unfold b__law_due
  rw [show gFor _ _ _ = dueF from rfl, seq_nx d]
  simp only [gFn, gSeq, gSkip, gRet, gRetN, gExpr, gSet, gIf, gAug, gAsg, gPar2, gPar3, gVar, gC, gBin, gUn, gTr, gAnd, gOr, gNot, gAndV, gOrV, gNotV, gIfE, gCall, G.gCons, G.gNil, G.gTup, G.gLst, gLstM, gSl, goSome, goNone, R.bind_ok, R.bind_ex, R.bind_no, R.bindS_ok, R.bindS_ex, R.bindS_no, outS_nx, outS_rt, outS_ex, orR_ok, orR_ex, orR_no, ggName, ggSub, List.getElem?_cons_zero, List.getElem?_cons_succ, List.set_cons_zero, List.set_cons_succ, List.map_cons, List.map_nil, List.length_cons, List.length_nil, List.replicate, List.append_nil, List.nil_append, List.cons_append, Nat.reduceAdd, Nat.reduceSub, Nat.reduceLeDiff, Nat.reduceLT, if_true, if_false, not_false_eq_true, Bool.false_eq_true, Bool.true_eq_false, Bool.not_true, Bool.not_false, decide_true, decide_false, decide_eq_true_eq, reduceIte, reduceCtorEq, eAdd, eAddI, eSub, eLt, eLe, eGt, eGe, eEq, eNe, eEqS, eNeS, eTru, eNeg, eAbs, eInt, eIntB, eLenL, eLenT, hr, len, dueD]
theorem lo_low {a : Int} {b : Nat} (hb0 : 0 < b) (hb : b < 2 ^ 8000) (M : Stor) : f__law_low [.int a, .int (b : Nat)] M = .ok (lp (lowP a b)) M := low_ok a b M hb0 hb
section
variable {s x : List Nat} (hX : NumX s x)
include hX
theorem take_X {r : List Nat} {k : Nat} (hk : k ≤ (s ++ x).length) : ((s ++ x) ++ r).take k = (s ++ x).take k := List.take_append_of_le_length hk
theorem lo_X {r : List Nat} (h : Lo ((s ++ x) ++ r)) : Lo (s ++ x) := by
  have := h.take (s ++ x).length
  rwa [List.take_left] at this
theorem pre_X {r : List Nat} (h : Lo ((s ++ x) ++ r)) {k : Nat} (h1 : 1 ≤ k) (hk : k ≤ (s ++ x).length) : B (((s ++ x) ++ r).take k) true := by
  rw [take_X hX hk]; exact X_pre hX (lo_X hX h) h1
theorem take_st {r : List Nat} (j : Nat) : ((s ++ x) ++ 47 :: r).take ((s ++ x).length + 1 + j) = (s ++ x) ++ 47 :: r.take j := by
  rw [List.take_append, List.take_of_length_le (by omega), show (s ++ x).length + 1 + j - (s ++ x).length = j + 1 by omega, List.take_succ_cons]
theorem pre_st {y z : List Nat} (h : Lo ((s ++ x) ++ 47 :: (y ++ z))) (hy : ∀ c ∈ y, isDg c) (hh : y.head? ≠ some 48) {k : Nat} (h1 : 1 ≤ k) (hk : k ≤ (s ++ x).length + 1 + y.length) : B (((s ++ x) ++ 47 :: (y ++ z)).take k) true := by
  by_cases c : k ≤ (s ++ x).length
  · exact pre_X hX h h1 c
  · obtain ⟨j, rfl⟩ : ∃ j, k = (s ++ x).length + 1 + j := ⟨k - ((s ++ x).length + 1), by omega⟩
    have hl := h.take ((s ++ x).length + 1 + j)
    rw [take_st hX] at hl ⊢
    have e : (y ++ z).take j = y.take j := List.take_append_of_le_length (by omega)
    rw [e] at hl ⊢
    exact X_str hX hl (y_num hy hh)
theorem last_dg : ∃ l c, s ++ x = l ++ [c] ∧ isDg c := by
  refine ⟨s ++ x.dropLast, x.getLast hX.ne, ?_, hX.dg _ (List.getLast_mem _)⟩
  rw [List.append_assoc, List.dropLast_concat_getLast]
theorem X_nm : ¬ s ++ x = [45] := by
  obtain ⟨l, c, e, hc⟩ := last_dg hX
  intro z
  rw [e] at z
  have := congrArg List.getLast? z
  simp at this
  exact (dg47 hc).2.1 this
theorem X_right (h : Lo (s ++ x)) (M : Stor) : f__law_is_right [.str (S (s ++ x))] M = .ok (.bl true) M := by
  obtain ⟨l, c, e, hc⟩ := last_dg hX
  have hb := X_beg hX h
  have nm := X_nm hX
  rw [e] at h hb nm ⊢
  rw [right_ok h hb nm M, decide_eq_false (dg47 hc).1, decide_eq_true hc]
  simp
end
theorem take_all {l : List Nat} {n : Nat} (h : l.length ≤ n) : l.take n = l := List.take_of_length_le h
theorem due_ok {l : List Nat} {o : Out} (h : Lo l) (hs : Sh l o) (M : Stor) : f__law_due [.str (S l)] M = .ok (dueD o) M := by
  cases hs with
  | e n r h1 h7 hr hz =>
    have tl : (endL.take n).length = n := by rw [List.length_take]; show min n 7 = n; omega
    have pre : ∀ k, 1 ≤ k → k ≤ n → B ((endL.take n ++ r).take k) true := fun k k1 k2 => by
      rw [List.take_append_of_le_length (by omega), List.take_take, Nat.min_eq_left k2]
      exact end_beg (by omega)
    by_cases hr0 : r = []
    · subst hr0
      have hn : n < 7 := hz.resolve_right (fun z => z rfl)
      rw [List.append_nil] at h pre ⊢
      have := due_eq h M (fun k a b => pre k a (by omega)) (by
        obtain ⟨m, rfl⟩ : ∃ m, n = m + 1 := ⟨n - 1, by omega⟩
        have e : endL.take (m + 1) = endL.take m ++ [endL[m]'(by show m < 7; omega)] := (List.take_append_getElem (by show m < 7; omega)).symm
        have hb := end_beg h7
        have ne : ¬ endL.take (m + 1) = endL := fun z => by
          have := congrArg List.length z
          rw [tl] at this
          have : m + 1 = 7 := this
          omega
        have nm : ¬ endL.take (m + 1) = [45] := by simp
        rw [e] at h hb ne nm ⊢
        have dg : ¬ isDg (endL[m]'(by show m < 7; omega)) := by
          have z : ∀ c ∈ endL, ¬ isDg c := by decide
          exact z _ (List.getElem_mem _)
        rw [right_ok h hb nm M, decide_eq_false ne, decide_eq_false dg]
        simp)
      rw [tl] at this
      exact this
    · obtain ⟨c, r', rfl⟩ := List.exists_cons_of_ne_nil hr0
      refine due_lt h M (by simp; omega) pre ?_
      have e : (endL.take n ++ c :: r').take (n + 1) = endL.take n ++ [c] := by
        rw [List.take_append, take_all (by omega), tl, show n + 1 - n = 1 by omega]; simp
      have hl := h.take (n + 1)
      rw [e] at hl ⊢
      exact end_bad h1 hl h7 (hr c r' rfl)
  | fin =>
    have pre : ∀ k, 1 ≤ k → k ≤ endL.length → B (endL.take k) true := fun k k1 k2 => end_beg k2
    obtain ⟨x1, d⟩ := due_pre h M pre
    have e : endL = [101, 110, 100, 108, 101, 115] ++ [115] := rfl
    have hb := end_beg (n := 7) (by decide)
    have hb : B ([101, 110, 100, 108, 101, 115] ++ [115]) true := hb
    have rt := right_ok (l := [101, 110, 100, 108, 101, 115]) (c := 115) h hb (by decide) M
    have rt : f__law_is_right [.str (S endL)] M = .ok (.bl true) M := rt
    have en := tEq endL endL M
    refine fn_rt rfl ?_
    show b__law_due [some (.str (S endL)), none, none, none, none] M = _
    unfold b__law_due
    rw [show gFor _ _ _ = dueF from rfl, seq_nx d]
    simp only [gFn, gSeq, gSkip, gRet, gRetN, gExpr, gSet, gIf, gAug, gAsg, gPar2, gPar3, gVar, gC, gBin, gUn, gTr, gAnd, gOr, gNot, gAndV, gOrV, gNotV, gIfE, gCall, G.gCons, G.gNil, G.gTup, G.gLst, gLstM, gSl, goSome, goNone, R.bind_ok, R.bind_ex, R.bind_no, R.bindS_ok, R.bindS_ex, R.bindS_no, outS_nx, outS_rt, outS_ex, orR_ok, orR_ex, orR_no, ggName, ggSub, List.getElem?_cons_zero, List.getElem?_cons_succ, List.set_cons_zero, List.set_cons_succ, List.map_cons, List.map_nil, List.length_cons, List.length_nil, List.replicate, List.append_nil, List.nil_append, List.cons_append, Nat.reduceAdd, Nat.reduceSub, Nat.reduceLeDiff, Nat.reduceLT, if_true, if_false, not_false_eq_true, Bool.false_eq_true, Bool.true_eq_false, Bool.not_true, Bool.not_false, decide_true, decide_false, decide_eq_true_eq, reduceIte, reduceCtorEq, eAdd, eAddI, eSub, eLt, eLe, eGt, eGe, eEq, eNe, eEqS, eNeS, eTru, eNeg, eAbs, eInt, eIntB, eLenL, eLenT, rt, endl, tEq, dueD]
  | no s r hs hr hr' =>
    have pre : ∀ k, 1 ≤ k → k ≤ s.length → B ((s ++ r).take k) true := fun k k1 k2 => by
      rcases hs with rfl | rfl
      · simp at k2; omega
      · have : k = 1 := by simp at k2; omega
        subst this
        exact m_beg
    by_cases hr0 : r = []
    · subst hr0
      rw [List.append_nil] at h pre ⊢
      refine due_eq h M pre ?_
      rcases hs with rfl | rfl
      · exact right_none M
      · exact right_m M
    · obtain ⟨c, r', rfl⟩ := List.exists_cons_of_ne_nil hr0
      refine due_lt h M (by simp) pre ?_
      have e : (s ++ c :: r').take (s.length + 1) = s ++ [c] := by
        rw [List.take_append, take_all (by omega), show s.length + 1 - s.length = 1 by omega]; simp
      have hl := h.take (s.length + 1)
      rw [e] at hl ⊢
      exact no_bad hs hl (hr c r' rfl) fun e => hr' e c r' rfl
  | m0 r =>
    refine due_lt h M (by simp) (fun k k1 k2 => ?_) ?_
    · have : k = 1 := by omega
      subst this
      exact m_beg
    · exact m0_bad
  | w s x hX =>
    have pre : ∀ k, 1 ≤ k → k ≤ (s ++ x).length → B ((s ++ x).take k) true := fun k k1 _ => X_pre hX h k1
    obtain ⟨x1, d⟩ := due_pre h M pre
    have rt := X_right hX h M
    have ne : ¬ s ++ x = endL := by
      have := X_endp hX []
      rw [List.append_nil] at this
      intro e
      rw [e] at this
      revert this; decide
    have pt := mPart h (part_none (X_no hX)) M
    have i := int_s hX.sg hX.dg hX.ne h.len M
    have lw := lo_low (a := sv s x) (b := 1) (by decide) (by decide +kernel) M
    have c1 : ((1 : Nat) : Int) = 1 := rfl
    rw [c1] at lw
    refine fn_rt rfl ?_
    show b__law_due [some (.str (S (s ++ x))), none, none, none, none] M = _
    unfold b__law_due
    rw [show gFor _ _ _ = dueF from rfl, seq_nx d]
    generalize s ++ x = ln at *
    simp only [gFn, gSeq, gSkip, gRet, gRetN, gExpr, gSet, gIf, gAug, gAsg, gPar2, gPar3, gVar, gC, gBin, gUn, gTr, gAnd, gOr, gNot, gAndV, gOrV, gNotV, gIfE, gCall, G.gCons, G.gNil, G.gTup, G.gLst, gLstM, gSl, goSome, goNone, R.bind_ok, R.bind_ex, R.bind_no, R.bindS_ok, R.bindS_ex, R.bindS_no, outS_nx, outS_rt, outS_ex, orR_ok, orR_ex, orR_no, ggName, ggSub, List.getElem?_cons_zero, List.getElem?_cons_succ, List.set_cons_zero, List.set_cons_succ, List.map_cons, List.map_nil, List.length_cons, List.length_nil, List.replicate, List.append_nil, List.nil_append, List.cons_append, Nat.reduceAdd, Nat.reduceSub, Nat.reduceLeDiff, Nat.reduceLT, if_true, if_false, not_false_eq_true, Bool.false_eq_true, Bool.true_eq_false, Bool.not_true, Bool.not_false, decide_true, decide_false, decide_eq_true_eq, reduceIte, reduceCtorEq, eAdd, eAddI, eSub, eLt, eLe, eGt, eGe, eEq, eNe, eEqS, eNeS, eTru, eNeg, eAbs, eInt, eIntB, eLenL, eLenT, rt, endl, tEq, tNe, S_eq, ne, gMtS, slash, pt, gg3, i, nil_S, decide_eq_true (rfl : ([] : List Nat) = []), lw, dueD]
  | st s x c r hX hc hd =>
    refine due_lt h M (by simp) (fun k k1 k2 => pre_X hX h k1 k2) ?_
    have e : ((s ++ x) ++ c :: r).take ((s ++ x).length + 1) = (s ++ x) ++ [c] := by
      rw [List.take_append, take_all (by omega), show (s ++ x).length + 1 - (s ++ x).length = 1 by omega]; simp
    have hl := h.take ((s ++ x).length + 1)
    rw [e] at hl ⊢
    exact X_bad hX hl hc hd
  | b0 s x r hX =>
    refine due_lt h M (by simp; omega) (fun k k1 k2 => ?_) ?_
    · exact pre_st hX (y := []) (z := 48 :: r) h (fun _ h => by cases h) (by simp) k1 (by simpa using k2)
    · have e := take_st hX (r := 48 :: r) 1
      have hl := h.take ((s ++ x).length + 1 + 1)
      rw [e] at hl ⊢
      have e1 : (48 :: r).take 1 = [48] := by simp
      rw [e1] at hl ⊢
      exact X_str hX hl (by decide)
  | bb s x y z hX hy hh hz hyz =>
    by_cases hz0 : z = []
    · subst hz0
      have y0 : y = [] := hyz.resolve_right (fun z => z rfl)
      subst y0
      have e0 : (s ++ x) ++ 47 :: ([] ++ []) = (s ++ x) ++ [47] := by simp
      have hb := X_str hX (a := []) (b := true) (by simpa using h) (by decide)
      have pre : ∀ k, 1 ≤ k → k ≤ ((s ++ x) ++ [47]).length → B (((s ++ x) ++ [47]).take k) true := fun k k1 k2 => by
        have := pre_st hX (y := []) (z := []) (by simpa using h) hy hh (k := k) k1 (by simp at k2; simp; omega)
        simpa using this
      rw [e0] at h ⊢
      have hb : B ((s ++ x) ++ [47]) true := hb
      have nm : ¬ (s ++ x) ++ [47] = [45] := fun z => by
        have := congrArg List.getLast? z
        simp at this
      have := due_eq h M pre (by rw [right_ok h hb nm M]; simp)
      have el : ((s ++ x) ++ [47]).length = (s ++ x).length + 1 := by simp; omega
      rw [el] at this
      exact this
    · obtain ⟨c, z', rfl⟩ := List.exists_cons_of_ne_nil hz0
      refine due_lt h M (by simp; omega) (fun k k1 k2 => pre_st hX h hy hh k1 k2) ?_
      have e := take_st hX (r := y ++ c :: z') (y.length + 1)
      have e2 : (y ++ c :: z').take (y.length + 1) = y ++ [c] := by
        rw [List.take_append, take_all (by omega), show y.length + 1 - y.length = 1 by omega]; simp
      rw [e2] at e
      have hl := h.take ((s ++ x).length + 1 + (y.length + 1))
      rw [e] at hl
      rw [show (s ++ x).length + 1 + y.length + 1 = (s ++ x).length + 1 + (y.length + 1) by omega, e]
      refine X_str hX hl ?_
      rw [num_nd (c := c) (by simp) (hz c z' rfl)]
      simp
  | v s x y hX hy hne hh =>
    have pre : ∀ k, 1 ≤ k → k ≤ ((s ++ x) ++ 47 :: y).length → B (((s ++ x) ++ 47 :: y).take k) true := fun k k1 k2 => by
      have := pre_st hX (y := y) (z := []) (by simpa using h) hy hh (k := k) k1 (by simp at k2; simp; omega)
      simpa using this
    obtain ⟨x1, d⟩ := due_pre h M pre
    have hb : B ((s ++ x) ++ 47 :: y) true := by
      have := pre ((s ++ x) ++ 47 :: y).length (by simp; omega) (Nat.le_refl _)
      rwa [take_all (Nat.le_refl _)] at this
    have e0 : (s ++ x) ++ 47 :: y = ((s ++ x) ++ 47 :: y.dropLast) ++ [y.getLast hne] := by
      rw [List.append_assoc (s ++ x), List.cons_append, List.dropLast_concat_getLast]
    have rt : f__law_is_right [.str (S ((s ++ x) ++ 47 :: y))] M = .ok (.bl true) M := by
      have hd := hy _ (List.getLast_mem hne)
      have nm : ¬ (s ++ x) ++ 47 :: y = [45] := fun z => by
        have : 47 ∈ [45] := by rw [← z]; simp
        revert this; decide
      have h' := h
      rw [e0] at h' hb nm ⊢
      rw [right_ok h' hb nm M, decide_eq_false (dg47 hd).1, decide_eq_true hd]
      simp
    have ne : ¬ (s ++ x) ++ 47 :: y = endL := fun z => by
      have : 47 ∈ endL := by rw [← z]; simp
      revert this; decide
    have pt := mPart h (part_some (q := y) (X_no hX)) M
    have hll := h.len
    rw [List.length_append, List.length_cons] at hll
    have i1 := int_s hX.sg hX.dg hX.ne (by omega) M
    have i2 := int_s (s := []) (.inl rfl) hy hne (by show y.length ≤ 600; omega) M
    have sv0 : sv [] y = ((dv y : Nat) : Int) := rfl
    rw [sv0] at i2
    simp only [List.nil_append] at i2
    have lw := lo_low (a := sv s x) (b := dv y) (dv_pos hy hne hh) (dv_big hy (by omega)) M
    have n47 : ¬ [47] = ([] : List Nat) := by simp
    refine fn_rt rfl ?_
    show b__law_due [some (.str (S ((s ++ x) ++ 47 :: y))), none, none, none, none] M = _
    unfold b__law_due
    rw [show gFor _ _ _ = dueF from rfl, seq_nx d]
    generalize (s ++ x) ++ 47 :: y = ln at *
    generalize s ++ x = lx at *
    simp only [gFn, gSeq, gSkip, gRet, gRetN, gExpr, gSet, gIf, gAug, gAsg, gPar2, gPar3, gVar, gC, gBin, gUn, gTr, gAnd, gOr, gNot, gAndV, gOrV, gNotV, gIfE, gCall, G.gCons, G.gNil, G.gTup, G.gLst, gLstM, gSl, goSome, goNone, R.bind_ok, R.bind_ex, R.bind_no, R.bindS_ok, R.bindS_ex, R.bindS_no, outS_nx, outS_rt, outS_ex, orR_ok, orR_ex, orR_no, ggName, ggSub, List.getElem?_cons_zero, List.getElem?_cons_succ, List.set_cons_zero, List.set_cons_succ, List.map_cons, List.map_nil, List.length_cons, List.length_nil, List.replicate, List.append_nil, List.nil_append, List.cons_append, Nat.reduceAdd, Nat.reduceSub, Nat.reduceLeDiff, Nat.reduceLT, if_true, if_false, not_false_eq_true, Bool.false_eq_true, Bool.true_eq_false, Bool.not_true, Bool.not_false, decide_true, decide_false, decide_eq_true_eq, reduceIte, reduceCtorEq, eAdd, eAddI, eSub, eLt, eLe, eGt, eGe, eEq, eNe, eEqS, eNeS, eTru, eNeg, eAbs, eInt, eIntB, eLenL, eLenT, rt, endl, tEq, tNe, S_eq, ne, gMtS, slash, pt, gg3, i1, i2, nil_S, n47, lw, dueD, not_false_eq_true, Bool.not_false]
end K06

namespace K06
open PySem L2 G SX
/-! ### every line has a shape -/
theorem com_pre : ∀ (a l : List Nat), ∃ n r, n ≤ a.length ∧ l = a.take n ++ r ∧ ∀ c t, r = c :: t → a[n]? ≠ some c
  | [], l => ⟨0, l, Nat.le_refl _, rfl, fun c t _ => by simp⟩
  | b :: a, [] => ⟨0, [], Nat.zero_le _, rfl, fun c t h => by cases h⟩
  | b :: a, c :: l => by
    by_cases e : c = b
    · subst e
      obtain ⟨n, r, h1, h2, h3⟩ := com_pre a l
      exact ⟨n + 1, r, by simp; omega, by rw [h2]; simp, fun c t h => by simpa using h3 c t h⟩
    · exact ⟨0, c :: l, Nat.zero_le _, rfl, fun c' t h => by
        injection h with h1 _
        subst h1
        simpa using fun z => e z.symm⟩
theorem span_dg (l : List Nat) : ∃ d r, l = d ++ r ∧ (∀ c ∈ d, isDg c) ∧ NoDg r := by
  induction l with
  | nil => exact ⟨[], [], rfl, ⟨fun _ h => (by cases h), fun _ _ h => (by cases h)⟩⟩
  | cons c l ih =>
    by_cases hc : isDg c
    · obtain ⟨d, r, e, h1, h2⟩ := ih
      refine ⟨c :: d, r, by rw [e]; rfl, fun z hz => ?_, h2⟩
      rcases List.mem_cons.mp hz with rfl | hz
      · exact hc
      · exact h1 z hz
    · exact ⟨[], c :: l, rfl, ⟨fun _ h => (by cases h), fun c' l' h => by injection h with h _; subst h; exact hc⟩⟩
theorem sh_tail {s x r : List Nat} (hX : NumX s x) (hr : NoDg r ∨ x = [48]) : ∃ o, Sh ((s ++ x) ++ r) o := by
  cases r with
  | nil => rw [List.append_nil]; exact ⟨_, .w s x hX⟩
  | cons c r =>
    by_cases c47 : c = 47
    · subst c47
      obtain ⟨y, z, rfl, hy, hz⟩ := span_dg r
      by_cases hh : y.head? = some 48
      · obtain ⟨y', rfl⟩ : ∃ y', y = 48 :: y' := by
          cases y with
          | nil => simp at hh
          | cons a y' => simp at hh; subst hh; exact ⟨y', rfl⟩
        exact ⟨_, .b0 s x _ hX⟩
      · by_cases hyz : y = [] ∨ z ≠ []
        · exact ⟨_, .bb s x y z hX hy hh hz hyz⟩
        · have y0 : y ≠ [] := fun e => hyz (.inl e)
          have z0 : z = [] := Classical.byContradiction fun e => hyz (.inr e)
          subst z0
          rw [List.append_nil]
          exact ⟨_, .v s x y hX hy y0 hh⟩
    · exact ⟨_, .st s x c r hX c47 (hr.imp (fun h => h c r rfl) id)⟩
theorem sh_sign {s r : List Nat} (hs : Sg s) (hr : s = [] → ∀ c l, r = c :: l → c ≠ 45 ∧ c ≠ 101) : ∃ o, Sh (s ++ r) o := by
  obtain ⟨d, t, rfl, hd, ht⟩ := span_dg r
  cases d with
  | nil => exact ⟨_, .no s t hs ht hr⟩
  | cons c d =>
    by_cases c48 : c = 48
    · subst c48
      rcases hs with rfl | rfl
      · have := sh_tail (s := []) (x := [48]) (r := d ++ t) ⟨.inl rfl, by simp [isDg], by simp, .inl ⟨rfl, rfl⟩⟩ (.inr rfl)
        simpa using this
      · exact ⟨_, .m0 _⟩
    · have := sh_tail (s := s) (x := c :: d) (r := t) ⟨hs, hd, by simp, .inr (by simpa using c48)⟩ (.inl ht)
      rwa [List.append_assoc] at this
theorem sh_all (l : List Nat) : ∃ o, Sh l o := by
  cases l with
  | nil => exact ⟨_, .no [] [] (.inl rfl) (fun _ _ h => by cases h) (fun _ _ _ h => by cases h)⟩
  | cons c t =>
    by_cases c1 : c = 101
    · subst c1
      obtain ⟨n, r, h1, h2, h3⟩ := com_pre endL (101 :: t)
      have h7 : n ≤ 7 := h1
      have hn : 1 ≤ n := by
        rcases Nat.eq_zero_or_pos n with e | e
        · subst e
          exact absurd rfl (h3 101 t (by simpa using h2.symm))
        · exact e
      by_cases hz : n < 7 ∨ r ≠ []
      · rw [h2]; exact ⟨_, .e n r hn h7 h3 hz⟩
      · have n7 : n = 7 := by
          rcases Nat.lt_or_ge n 7 with e | e
          · exact absurd (.inl e) hz
          · omega
        have r0 : r = [] := Classical.byContradiction fun e => hz (.inr e)
        subst n7; subst r0
        rw [h2]; exact ⟨_, .fin⟩
    · by_cases c2 : c = 45
      · subst c2
        exact sh_sign (s := [45]) (r := t) (.inr rfl) fun h => by cases h
      · exact sh_sign (s := []) (r := c :: t) (.inl rfl) fun _ c' l' h => by injection h with h _; subst h; exact ⟨c2, c1⟩
/-! ### what is heard and told -/
abbrev badT (k : Nat) : D := .tup [.str "text", .int (k : Nat)]
theorem isE (j : Nat) (k : Int) (M : Stor) (r : Bool) (h : exTab 3 (.own j) = some r) : orR (fIsi isOk isTab [.exc 3 true [.int k], .cls j] M) (fIsiX exOk exTab [.exc 3 true [.int k], .cls j] M) = .ok (.bl r) M := by
  show (match exTab 3 (.own j) with
      | some b => R.ok (D.bl b) M
      | none => R.no) = _
  rw [h]
theorem isV (k : Int) (M : Stor) : orR (fIsi isOk isTab [.exc 3 true [.int k], .ty "ValueError"] M) (fIsiX exOk exTab [.exc 3 true [.int k], .ty "ValueError"] M) = .ok (.bl true) M := rfl
theorem cnt (M : Stor) : mCount (.lst [.bl false, .bl false, .bl true]) [.bl true] M = .ok (.int 1) M := by
  have e1 : pyL (.lst [.bl false, .bl false, .bl true]) M = some [.bool false, .bool false, .bool true] := by simp [pyL, topPy, toPy, toPyL]
  have e2 : topPy (.bl true) M = some (.bool true) := by simp [topPy, toPy]
  have s1 : SeqAt.shaped (.list [.bool false, .bool false, .bool true]) = true := by decide +kernel
  have s2 : SeqAt.shaped (.bool true) = true := by decide +kernel
  unfold mCount
  simp only [e1, e2, s1, s2, and_self, if_true]
  simp [PyData.eqv, List.countP_cons]
theorem idx (M : Stor) : mIndex (.lst [.bl false, .bl false, .bl true]) [.bl true] M = .ok (.int 2) M := by
  have e1 : pyL (.lst [.bl false, .bl false, .bl true]) M = some [.bool false, .bool false, .bool true] := by simp [pyL, topPy, toPy, toPyL]
  have e2 : topPy (.bl true) M = some (.bool true) := by simp [topPy, toPy]
  have s1 : SeqAt.shaped (.list [.bool false, .bool false, .bool true]) = true := by decide +kernel
  have s2 : SeqAt.shaped (.bool true) = true := by decide +kernel
  unfold mIndex
  simp only [e1, e2, s1, s2, and_self, if_true]
  simp [PyData.eqv, List.findIdx?_cons]
theorem heard_bad {Y : D} {th : Stor → R D} {M M1 : Stor} {k : Nat} (h : th M = .ex 3 (some [.int (k : Nat)]) M1) : hLam 5 b__law_heard Y th M = .ok (badT k) M1 := by
  have u : gAsg (ggTup 2 (ggCons (ggName 1) (ggCons (ggName 2) ggNil))) (G.gTup (G.gCons (gC .non) (G.gCons (gC .non) G.gNil))) [some Y, none, none, none, none] M = .nx [some Y, some .non, some .non, none, none] M := rfl
  have t : gTryK (gSet 2 (gAct 0 Y th)) mt_WebError 3 1 [some Y, some .non, some .non, none, none] M = .nx [some Y, some (.exc 3 true [.int (k : Nat)]), some .non, none, none] M1 := by
    have e : gSet 2 (gAct 0 Y th) [some Y, some .non, some .non, none, none] M = .ex 3 (some [.int (k : Nat)]) [some Y, some .non, some .non, none, none] M1 := by
      simp only [gSet, gAct, List.getElem?_cons_zero, if_true, h, R.bindS_ex]
    unfold gTryK
    rw [e]
    rfl
  have b1 := isE 1 (k : Nat) M1 false rfl
  have b2 := isE 2 (k : Nat) M1 false rfl
  have b3 := isE 3 (k : Nat) M1 true rfl
  have b4 := isV (k : Nat) M1
  have c := cnt M1
  have ix := idx M1
  have lo : lstOf (.lst [.bl false, .bl false, .bl true]) M1 = some [.bl false, .bl false, .bl true] := rfl
  have n : dIsN (.exc 3 true [.int (k : Nat)]) .non M1 = .ok (.bl false) M1 := rfl
  have i1' : dIx (.lst [.bl false, .bl false, .bl true]) (.int 1) M1 = .ok (.bl false) M1 := rfl
  have i2' : dIx (.lst [.str "ratio", .str "", .str "text"]) (.int 2) M1 = .ok (.str "text") M1 := rfl
  have ef : dEfl et_at (.exc 3 true [.int (k : Nat)]) M1 = .ok (.int (k : Nat)) M1 := rfl
  unfold hLam b__law_heard
  show outS (gSeq _ _ [some Y, none, none, none, none] M) = _
  rw [seq_nx u, seq_nx t]
  simp only [gFn, gSeq, gSkip, gRet, gRetN, gExpr, gSet, gIf, gAug, gAsg, gPar2, gPar3, gVar, gC, gBin, gUn, gTr, gAnd, gOr, gNot, gAndV, gOrV, gNotV, gIfE, gCall, G.gCons, G.gNil, G.gTup, G.gLst, gLstM, gSl, goSome, goNone, R.bind_ok, R.bind_ex, R.bind_no, R.bindS_ok, R.bindS_ex, R.bindS_no, outS_nx, outS_rt, outS_ex, orR_ok, orR_ex, orR_no, ggName, ggSub, List.getElem?_cons_zero, List.getElem?_cons_succ, List.set_cons_zero, List.set_cons_succ, List.map_cons, List.map_nil, List.length_cons, List.length_nil, List.replicate, List.append_nil, List.nil_append, List.cons_append, Nat.reduceAdd, Nat.reduceSub, Nat.reduceLeDiff, Nat.reduceLT, if_true, if_false, not_false_eq_true, Bool.false_eq_true, Bool.true_eq_false, Bool.not_true, Bool.not_false, decide_true, decide_false, decide_eq_true_eq, reduceIte, reduceCtorEq, eAdd, eAddI, eSub, eLt, eLe, eGt, eGe, eEq, eNe, eEqS, eNeS, eTru, eNeg, eAbs, eInt, eIntB, eLenL, eLenT, n, b1, b2, b3, b4, gMtL, lo, c, ix, i1', i2', ef]
theorem lam_bad {g : GE'} {Γ : Gam} {M : Stor} {k : Nat} (h : g Γ M = .ex 3 (some [.int (k : Nat)]) M) : gLam 5 b__law_heard g Γ M = .ok (badT k) M := lam_of fun Y => heard_bad h
theorem heard_val {Y : D} {th : Stor → R D} {M M1 : Stor} {d : D} (h : th M = .ok d M1) : hLam 5 b__law_heard Y th M = .ok (.lst [d]) M1 := by
  have u : gAsg (ggTup 2 (ggCons (ggName 1) (ggCons (ggName 2) ggNil))) (G.gTup (G.gCons (gC .non) (G.gCons (gC .non) G.gNil))) [some Y, none, none, none, none] M = .nx [some Y, some .non, some .non, none, none] M := rfl
  have t : gTryK (gSet 2 (gAct 0 Y th)) mt_WebError 3 1 [some Y, some .non, some .non, none, none] M = .nx [some Y, some .non, some d, none, none] M1 := by
    have e : gSet 2 (gAct 0 Y th) [some Y, some .non, some .non, none, none] M = .nx [some Y, some .non, some d, none, none] M1 := by
      simp only [gSet, gAct, List.getElem?_cons_zero, if_true, h, R.bindS_ok]
      rfl
    unfold gTryK
    rw [e]
  have n : dIsN .non .non M1 = .ok (.bl true) M1 := rfl
  unfold hLam b__law_heard
  show outS (gSeq _ _ [some Y, none, none, none, none] M) = _
  rw [seq_nx u, seq_nx t]
  simp only [gFn, gSeq, gSkip, gRet, gRetN, gExpr, gSet, gIf, gAug, gAsg, gPar2, gPar3, gVar, gC, gBin, gUn, gTr, gAnd, gOr, gNot, gAndV, gOrV, gNotV, gIfE, gCall, G.gCons, G.gNil, G.gTup, G.gLst, gLstM, gSl, goSome, goNone, R.bind_ok, R.bind_ex, R.bind_no, R.bindS_ok, R.bindS_ex, R.bindS_no, outS_nx, outS_rt, outS_ex, orR_ok, orR_ex, orR_no, ggName, ggSub, List.getElem?_cons_zero, List.getElem?_cons_succ, List.set_cons_zero, List.set_cons_succ, List.map_cons, List.map_nil, List.length_cons, List.length_nil, List.replicate, List.append_nil, List.nil_append, List.cons_append, Nat.reduceAdd, Nat.reduceSub, Nat.reduceLeDiff, Nat.reduceLT, if_true, if_false, not_false_eq_true, Bool.false_eq_true, Bool.true_eq_false, Bool.not_true, Bool.not_false, decide_true, decide_false, decide_eq_true_eq, reduceIte, reduceCtorEq, eAdd, eAddI, eSub, eLt, eLe, eGt, eGe, eEq, eNe, eEqS, eNeS, eTru, eNeg, eAbs, eInt, eIntB, eLenL, eLenT, n]
theorem lam_val {g : GE'} {Γ : Gam} {M : Stor} {d : D} (h : g Γ M = .ok d M) : gLam 5 b__law_heard g Γ M = .ok (.lst [d]) M := lam_of fun Y => heard_val h
theorem isL (l : List D) (M : Stor) : fIsi isOk isTab [.lst l, .ty "list"] M = .ok (.bl true) M := rfl
theorem isLt (l : List D) (M : Stor) : fIsi isOk isTab [.tup l, .ty "list"] M = .ok (.bl false) M := rfl
theorem told_rat (a b : Int) (M : Stor) : f__law_told [.lst [rat a b]] M = .ok (pairD a b) M := by
  have i : dIx (.lst [rat a b]) (.int 0) M = .ok (rat a b) M := rfl
  simp only [f__law_told, b__law_told, gFn, gSeq, gSkip, gRet, gRetN, gExpr, gSet, gIf, gAug, gAsg, gPar2, gPar3, gVar, gC, gBin, gUn, gTr, gAnd, gOr, gNot, gAndV, gOrV, gNotV, gIfE, gCall, G.gCons, G.gNil, G.gTup, G.gLst, gLstM, gSl, goSome, goNone, R.bind_ok, R.bind_ex, R.bind_no, R.bindS_ok, R.bindS_ex, R.bindS_no, outS_nx, outS_rt, outS_ex, orR_ok, orR_ex, orR_no, ggName, ggSub, List.getElem?_cons_zero, List.getElem?_cons_succ, List.set_cons_zero, List.set_cons_succ, List.map_cons, List.map_nil, List.length_cons, List.length_nil, List.replicate, List.append_nil, List.nil_append, List.cons_append, Nat.reduceAdd, Nat.reduceSub, Nat.reduceLeDiff, Nat.reduceLT, if_true, if_false, not_false_eq_true, Bool.false_eq_true, Bool.true_eq_false, Bool.not_true, Bool.not_false, decide_true, decide_false, decide_eq_true_eq, reduceIte, reduceCtorEq, eAdd, eAddI, eSub, eLt, eLe, eGt, eGe, eEq, eNe, eEqS, eNeS, eTru, eNeg, eAbs, eInt, eIntB, eLenL, eLenT, isL, i, isR, fTop, fBot]
theorem told_tup (l : List D) (M : Stor) : f__law_told [.tup l] M = .ok (.tup l) M := by
  simp only [f__law_told, b__law_told, gFn, gSeq, gSkip, gRet, gRetN, gExpr, gSet, gIf, gAug, gAsg, gPar2, gPar3, gVar, gC, gBin, gUn, gTr, gAnd, gOr, gNot, gAndV, gOrV, gNotV, gIfE, gCall, G.gCons, G.gNil, G.gTup, G.gLst, gLstM, gSl, goSome, goNone, R.bind_ok, R.bind_ex, R.bind_no, R.bindS_ok, R.bindS_ex, R.bindS_no, outS_nx, outS_rt, outS_ex, orR_ok, orR_ex, orR_no, ggName, ggSub, List.getElem?_cons_zero, List.getElem?_cons_succ, List.set_cons_zero, List.set_cons_succ, List.map_cons, List.map_nil, List.length_cons, List.length_nil, List.replicate, List.append_nil, List.nil_append, List.cons_append, Nat.reduceAdd, Nat.reduceSub, Nat.reduceLeDiff, Nat.reduceLT, if_true, if_false, not_false_eq_true, Bool.false_eq_true, Bool.true_eq_false, Bool.not_true, Bool.not_false, decide_true, decide_false, decide_eq_true_eq, reduceIte, reduceCtorEq, eAdd, eAddI, eSub, eLt, eLe, eGt, eGe, eEq, eNe, eEqS, eNeS, eTru, eNeg, eAbs, eInt, eIntB, eLenL, eLenT, isLt]
theorem eq_pair (a b : Int) (M : Stor) : dEq (pairD a b) (pairD a b) M = .ok (.bl true) M := by
  rw [eq_tup]; exact eqD_self (p := .tuple [.int a, .int b]) (by simp [topPy, toPy, toPyL]) (by simp [topPy, toPy, toPyL]) rfl
theorem eq_badT (k : Nat) (M : Stor) : dEq (badT k) (badT k) M = .ok (.bl true) M := by
  rw [eq_tup]; exact eqD_self (p := .tuple [.str "text", .int (k : Nat)]) (by simp [topPy, toPy, toPyL]) (by simp [topPy, toPy, toPyL]) (by
    have : PyData.strOk (Str.ofString "text") = true := by decide +kernel
    simp [SeqAt.shaped, PyData.canLay0, PyData.canLayAll0, PyData.depth, PyData.depthAll, this])
def heardO : Out → D
  | .err e => badT e
  | .endless => .lst [rat 1 0]
  | .val a b => .lst [mkR a b]
theorem lawR_ok {l : List Nat} (h : Lo l) (M : Stor) : f__law_right [.str (S l)] M = .ok (.bl true) M := by
  obtain ⟨o, hs⟩ := sh_all l
  have d := due_ok h hs M
  have r := read_ok h hs M
  have g : ∀ x1 : Option D, gLam 5 b__law_heard (gCall (fun ds M => f_Ratio_read (.cls 5 :: ds) M) (G.gCons (gVar 0) G.gNil)) [some (.str (S l)), x1] M = .ok (heardO o) M := by
    intro x1
    cases o with
    | err e => exact lam_bad (by simp only [gFn, gSeq, gSkip, gRet, gRetN, gExpr, gSet, gIf, gAug, gAsg, gPar2, gPar3, gVar, gC, gBin, gUn, gTr, gAnd, gOr, gNot, gAndV, gOrV, gNotV, gIfE, gCall, G.gCons, G.gNil, G.gTup, G.gLst, gLstM, gSl, goSome, goNone, R.bind_ok, R.bind_ex, R.bind_no, R.bindS_ok, R.bindS_ex, R.bindS_no, outS_nx, outS_rt, outS_ex, orR_ok, orR_ex, orR_no, ggName, ggSub, List.getElem?_cons_zero, List.getElem?_cons_succ, List.set_cons_zero, List.set_cons_succ, List.map_cons, List.map_nil, List.length_cons, List.length_nil, List.replicate, List.append_nil, List.nil_append, List.cons_append, Nat.reduceAdd, Nat.reduceSub, Nat.reduceLeDiff, Nat.reduceLT, if_true, if_false, not_false_eq_true, Bool.false_eq_true, Bool.true_eq_false, Bool.not_true, Bool.not_false, decide_true, decide_false, decide_eq_true_eq, reduceIte, reduceCtorEq, eAdd, eAddI, eSub, eLt, eLe, eGt, eGe, eEq, eNe, eEqS, eNeS, eTru, eNeg, eAbs, eInt, eIntB, eLenL, eLenT]; exact r)
    | endless => exact lam_val (by simp only [gFn, gSeq, gSkip, gRet, gRetN, gExpr, gSet, gIf, gAug, gAsg, gPar2, gPar3, gVar, gC, gBin, gUn, gTr, gAnd, gOr, gNot, gAndV, gOrV, gNotV, gIfE, gCall, G.gCons, G.gNil, G.gTup, G.gLst, gLstM, gSl, goSome, goNone, R.bind_ok, R.bind_ex, R.bind_no, R.bindS_ok, R.bindS_ex, R.bindS_no, outS_nx, outS_rt, outS_ex, orR_ok, orR_ex, orR_no, ggName, ggSub, List.getElem?_cons_zero, List.getElem?_cons_succ, List.set_cons_zero, List.set_cons_succ, List.map_cons, List.map_nil, List.length_cons, List.length_nil, List.replicate, List.append_nil, List.nil_append, List.cons_append, Nat.reduceAdd, Nat.reduceSub, Nat.reduceLeDiff, Nat.reduceLT, if_true, if_false, not_false_eq_true, Bool.false_eq_true, Bool.true_eq_false, Bool.not_true, Bool.not_false, decide_true, decide_false, decide_eq_true_eq, reduceIte, reduceCtorEq, eAdd, eAddI, eSub, eLt, eLe, eGt, eGe, eEq, eNe, eEqS, eNeS, eTru, eNeg, eAbs, eInt, eIntB, eLenL, eLenT]; exact r)
    | val a b => exact lam_val (by simp only [gFn, gSeq, gSkip, gRet, gRetN, gExpr, gSet, gIf, gAug, gAsg, gPar2, gPar3, gVar, gC, gBin, gUn, gTr, gAnd, gOr, gNot, gAndV, gOrV, gNotV, gIfE, gCall, G.gCons, G.gNil, G.gTup, G.gLst, gLstM, gSl, goSome, goNone, R.bind_ok, R.bind_ex, R.bind_no, R.bindS_ok, R.bindS_ex, R.bindS_no, outS_nx, outS_rt, outS_ex, orR_ok, orR_ex, orR_no, ggName, ggSub, List.getElem?_cons_zero, List.getElem?_cons_succ, List.set_cons_zero, List.set_cons_succ, List.map_cons, List.map_nil, List.length_cons, List.length_nil, List.replicate, List.append_nil, List.nil_append, List.cons_append, Nat.reduceAdd, Nat.reduceSub, Nat.reduceLeDiff, Nat.reduceLT, if_true, if_false, not_false_eq_true, Bool.false_eq_true, Bool.true_eq_false, Bool.not_true, Bool.not_false, decide_true, decide_false, decide_eq_true_eq, reduceIte, reduceCtorEq, eAdd, eAddI, eSub, eLt, eLe, eGt, eGe, eEq, eNe, eEqS, eNeS, eTru, eNeg, eAbs, eInt, eIntB, eLenL, eLenT]; exact r)
  refine fn_rt rfl ?_
  show b__law_right [some (.str (S l)), none] M = _
  unfold b__law_right
  rw [seq_nx (Γ1 := [some (.str (S l)), some (dueD o)]) (M1 := M) (by simp only [gFn, gSeq, gSkip, gRet, gRetN, gExpr, gSet, gIf, gAug, gAsg, gPar2, gPar3, gVar, gC, gBin, gUn, gTr, gAnd, gOr, gNot, gAndV, gOrV, gNotV, gIfE, gCall, G.gCons, G.gNil, G.gTup, G.gLst, gLstM, gSl, goSome, goNone, R.bind_ok, R.bind_ex, R.bind_no, R.bindS_ok, R.bindS_ex, R.bindS_no, outS_nx, outS_rt, outS_ex, orR_ok, orR_ex, orR_no, ggName, ggSub, List.getElem?_cons_zero, List.getElem?_cons_succ, List.set_cons_zero, List.set_cons_succ, List.map_cons, List.map_nil, List.length_cons, List.length_nil, List.replicate, List.append_nil, List.nil_append, List.cons_append, Nat.reduceAdd, Nat.reduceSub, Nat.reduceLeDiff, Nat.reduceLT, if_true, if_false, not_false_eq_true, Bool.false_eq_true, Bool.true_eq_false, Bool.not_true, Bool.not_false, decide_true, decide_false, decide_eq_true_eq, reduceIte, reduceCtorEq, eAdd, eAddI, eSub, eLt, eLe, eGt, eGe, eEq, eNe, eEqS, eNeS, eTru, eNeg, eAbs, eInt, eIntB, eLenL, eLenT, d])]
  have g := g (some (dueD o))
  have tt : f__law_told [heardO o] M = .ok (dueD o) M := by
    cases o with
    | err e => exact told_tup _ M
    | endless => exact told_rat 1 0 M
    | val a b => exact told_rat _ _ M
  have qq : dEq (dueD o) (dueD o) M = .ok (.bl true) M := by
    cases o with
    | err e => exact eq_badT e M
    | endless => exact eq_pair 1 0 M
    | val a b => exact eq_pair _ _ M
  generalize dueD o = dd at *
  simp only [gRet, gBin, gCall, G.gCons, G.gNil, g, gFn, gSeq, gSkip, gRet, gRetN, gExpr, gSet, gIf, gAug, gAsg, gPar2, gPar3, gVar, gC, gBin, gUn, gTr, gAnd, gOr, gNot, gAndV, gOrV, gNotV, gIfE, gCall, G.gCons, G.gNil, G.gTup, G.gLst, gLstM, gSl, goSome, goNone, R.bind_ok, R.bind_ex, R.bind_no, R.bindS_ok, R.bindS_ex, R.bindS_no, outS_nx, outS_rt, outS_ex, orR_ok, orR_ex, orR_no, ggName, ggSub, List.getElem?_cons_zero, List.getElem?_cons_succ, List.set_cons_zero, List.set_cons_succ, List.map_cons, List.map_nil, List.length_cons, List.length_nil, List.replicate, List.append_nil, List.nil_append, List.cons_append, Nat.reduceAdd, Nat.reduceSub, Nat.reduceLeDiff, Nat.reduceLT, if_true, if_false, not_false_eq_true, Bool.false_eq_true, Bool.true_eq_false, Bool.not_true, Bool.not_false, decide_true, decide_false, decide_eq_true_eq, reduceIte, reduceCtorEq, eAdd, eAddI, eSub, eLt, eLe, eGt, eGe, eEq, eNe, eEqS, eNeS, eTru, eNeg, eAbs, eInt, eIntB, eLenL, eLenT, tt, qq]
end K06

namespace K06
open PySem L2 G SX
/-! ### texts of fractions -/
def sg (a : Int) : List Nat := if a < 0 then [45] else []
theorem iL_sg (a : Int) : iL a = sg a ++ dig a.natAbs := by unfold iL sg; split <;> rfl
theorem dig_ne (n : Nat) : dig n ≠ [] := by obtain ⟨c, l, e, _⟩ := dig_head n; rw [e]; simp
theorem dig_nz {n : Nat} (h : 0 < n) : (dig n).head? ≠ some 48 := by
  obtain ⟨c, l, e, h1, _⟩ := dig_head n
  rw [e]
  simpa using h1 h
theorem numX_int (a : Int) : NumX (sg a) (dig a.natAbs) := by
  refine ⟨?_, dig_all _, dig_ne _, ?_⟩
  · unfold sg; split
    · exact .inr rfl
    · exact .inl rfl
  · by_cases h : a = 0
    · subst h; exact .inl ⟨dig0, rfl⟩
    · exact .inr (dig_nz (by omega))
theorem dv_dig (n : Nat) : dv (dig n) = n := PySem.W.KIN.val_back n
theorem sv_int (a : Int) : sv (sg a) (dig a.natAbs) = a := by
  unfold sv sg
  rw [dv_dig]
  by_cases h : a < 0
  · rw [if_pos h, if_neg (by simp)]; omega
  · rw [if_neg h, if_pos rfl]; omega
theorem sh_int (a : Int) : Sh (iL a) (.val a 1) := by
  have := Sh.w (sg a) (dig a.natAbs) (numX_int a)
  rwa [sv_int, ← iL_sg] at this
theorem sh_frac (a : Int) {b : Nat} (hb : 0 < b) : Sh (iL a ++ 47 :: dig b) (.val a b) := by
  have := Sh.v (sg a) (dig a.natAbs) (dig b) (numX_int a) (dig_all b) (dig_ne b) (dig_nz hb)
  rwa [sv_int, ← iL_sg, dv_dig] at this
theorem iL_lo (a : Int) : ∀ c ∈ iL a, c < 128 := by
  rw [iL_sg]
  intro c hc
  rcases List.mem_append.mp hc with hc | hc
  · unfold sg at hc; split at hc
    · rw [List.mem_singleton.mp hc]; decide
    · cases hc
  · have := (dig_all _ c hc).2; omega
theorem iL_nat (n : Nat) : iL (n : Int) = dig n := by
  unfold iL; rw [if_neg (by omega), Int.natAbs_natCast]
theorem iL_l {a : Int} (h : a.natAbs < 2 ^ 120) : (iL a).length ≤ 121 := iL_len (by decide) h
theorem dig_l {n : Nat} (h : n < 2 ^ 120) : (dig n).length ≤ 121 := by
  rw [← iL_nat]; exact iL_l (by rw [Int.natAbs_natCast]; exact h)
theorem lo_int {a : Int} (h : a.natAbs < 2 ^ 120) : Lo (iL a) := ⟨iL_lo a, by have := iL_l h; omega⟩
theorem frac_l {a : Int} {b : Nat} (h : a.natAbs < 2 ^ 120) (hb : b < 2 ^ 120) : (iL a ++ 47 :: dig b).length ≤ 243 := by
  have := iL_l h; have := dig_l hb
  simp; omega
theorem lo_frac {a : Int} {b : Nat} (h : a.natAbs < 2 ^ 120) (hb : b < 2 ^ 120) : Lo (iL a ++ 47 :: dig b) := by
  refine ⟨fun c hc => ?_, Nat.le_trans (frac_l h hb) (by decide)⟩
  rcases List.mem_append.mp hc with hc | hc
  · exact iL_lo a c hc
  · rcases List.mem_cons.mp hc with rfl | hc
    · decide
    · have := (dig_all _ c hc).2; omega
/-- lines that are right -/
def Rt (l : List Nat) : Prop := ∀ M : Stor, f__law_is_right [.str (S l)] M = .ok (.bl true) M
theorem rt_int {a : Int} (h : a.natAbs < 2 ^ 120) : Rt (iL a) := fun M => by
  have := X_right (numX_int a) (by rw [← iL_sg]; exact lo_int h) M
  rwa [← iL_sg] at this
theorem rt_frac {a : Int} {b : Nat} (h : a.natAbs < 2 ^ 120) (hb : b < 2 ^ 120) (hb0 : 0 < b) : Rt (iL a ++ 47 :: dig b) := fun M => by
  have l := lo_frac h hb
  have pre := pre_st (numX_int a) (y := dig b) (z := []) (by rw [← iL_sg]; simpa using l) (dig_all b) (dig_nz hb0) (k := (iL a ++ 47 :: dig b).length) (by simp; omega) (by rw [← iL_sg]; simp; omega)
  rw [← iL_sg] at pre
  simp only [List.append_nil] at pre
  rw [take_all (Nat.le_refl _)] at pre
  have e0 : iL a ++ 47 :: dig b = (iL a ++ 47 :: (dig b).dropLast) ++ [(dig b).getLast (dig_ne b)] := by
    rw [List.append_assoc (iL a), List.cons_append, List.dropLast_concat_getLast]
  have hd := dig_all b _ (List.getLast_mem (dig_ne b))
  have nm : ¬ iL a ++ 47 :: dig b = [45] := fun z => by
    have : 47 ∈ [45] := by rw [← z]; simp
    revert this; decide
  rw [e0] at l pre nm ⊢
  rw [right_ok l pre nm M, decide_eq_false (dg47 hd).1, decide_eq_true hd]
  simp
theorem rt_end : Rt endL := fun M => by
  have hb := end_beg (n := 7) (by decide)
  have hb : B ([101, 110, 100, 108, 101, 115] ++ [115]) true := hb
  have rt := right_ok (l := [101, 110, 100, 108, 101, 115]) (c := 115) ⟨by decide, by decide⟩ hb (by decide) M
  exact rt
theorem iS_log {i : Int} (h : i.natAbs < 2 ^ 120) : i.natAbs.log2 < 1920 := Nat.lt_trans (log2_of h (by decide)) (by decide)
theorem fStr_int {i : Int} (h : i.natAbs < 2 ^ 120) (M : Stor) : fStr [.int i] M = .ok (.str (S (iL i))) M := by
  unfold fStr; simp only [iS_log h, if_true]; rw [← str_int]
theorem dFmt_int {i : Int} (h : i.natAbs < 2 ^ 120) (M : Stor) : dFmt (.int i) M = .ok (.str (S (iL i))) M := by
  unfold dFmt; simp only [iS_log h, if_true]; rw [← str_int]
def txt (a : Int) (b : Nat) : List Nat := if b = 1 then iL a else iL a ++ 47 :: dig b
theorem nb {b : Nat} (hb : b < 2 ^ 120) : ((b : Nat) : Int).natAbs < 2 ^ 120 := by rw [Int.natAbs_natCast]; exact hb
theorem add_frac {a : Int} {b : Nat} (h : a.natAbs < 2 ^ 120) (hb : b < 2 ^ 120) (M : Stor) : dAdd (.str (S (iL a))) (.str (S [47])) M = .ok (.str (S (iL a ++ [47]))) M ∧ dAdd (.str (S (iL a ++ [47]))) (.str (S (iL (b : Nat)))) M = .ok (.str (S (iL a ++ 47 :: dig b))) M := by
  have l1 := iL_l h
  have l2 := dig_l hb
  refine ⟨tAdd _ _ M (by simp; omega), ?_⟩
  rw [tAdd _ _ M (by rw [iL_nat]; simp; omega), iL_nat]
  simp
theorem text_ok {a : Int} {b : Nat} (h : a.natAbs < 2 ^ 120) (hb : b < 2 ^ 120) (hb0 : 0 < b) (M : Stor) : f__law_text [pairD a (b : Nat)] M = .ok (.str (S (txt a b))) M := by
  have c0 : ¬ ((b : Nat) : Int) = 0 := by omega
  have s1 := fStr_int h M
  have s2 := fStr_int (nb hb) M
  obtain ⟨a1, a2⟩ := add_frac h hb M
  unfold txt
  by_cases c1 : b = 1
  · have c1' : decide (((b : Nat) : Int) = 1) = true := decide_eq_true (by omega)
    rw [if_pos c1]
    simp only [f__law_text, b__law_text, gFn, gSeq, gSkip, gRet, gRetN, gExpr, gSet, gIf, gAug, gAsg, gPar2, gPar3, gVar, gC, gBin, gUn, gTr, gAnd, gOr, gNot, gAndV, gOrV, gNotV, gIfE, gCall, G.gCons, G.gNil, G.gTup, G.gLst, gLstM, gSl, goSome, goNone, R.bind_ok, R.bind_ex, R.bind_no, R.bindS_ok, R.bindS_ex, R.bindS_no, outS_nx, outS_rt, outS_ex, orR_ok, orR_ex, orR_no, ggName, ggSub, List.getElem?_cons_zero, List.getElem?_cons_succ, List.set_cons_zero, List.set_cons_succ, List.map_cons, List.map_nil, List.length_cons, List.length_nil, List.replicate, List.append_nil, List.nil_append, List.cons_append, Nat.reduceAdd, Nat.reduceSub, Nat.reduceLeDiff, Nat.reduceLT, if_true, if_false, not_false_eq_true, Bool.false_eq_true, Bool.true_eq_false, Bool.not_true, Bool.not_false, decide_true, decide_false, decide_eq_true_eq, reduceIte, reduceCtorEq, eAdd, eAddI, eSub, eLt, eLe, eGt, eGe, eEq, eNe, eEqS, eNeS, eTru, eNeg, eAbs, eInt, eIntB, eLenL, eLenT, i0, i1, c0, c1', s1]
  · have c1' : ¬ ((b : Nat) : Int) = 1 := by omega
    rw [if_neg c1]
    simp only [f__law_text, b__law_text, gFn, gSeq, gSkip, gRet, gRetN, gExpr, gSet, gIf, gAug, gAsg, gPar2, gPar3, gVar, gC, gBin, gUn, gTr, gAnd, gOr, gNot, gAndV, gOrV, gNotV, gIfE, gCall, G.gCons, G.gNil, G.gTup, G.gLst, gLstM, gSl, goSome, goNone, R.bind_ok, R.bind_ex, R.bind_no, R.bindS_ok, R.bindS_ex, R.bindS_no, outS_nx, outS_rt, outS_ex, orR_ok, orR_ex, orR_no, ggName, ggSub, List.getElem?_cons_zero, List.getElem?_cons_succ, List.set_cons_zero, List.set_cons_succ, List.map_cons, List.map_nil, List.length_cons, List.length_nil, List.replicate, List.append_nil, List.nil_append, List.cons_append, Nat.reduceAdd, Nat.reduceSub, Nat.reduceLeDiff, Nat.reduceLT, if_true, if_false, not_false_eq_true, Bool.false_eq_true, Bool.true_eq_false, Bool.not_true, Bool.not_false, decide_true, decide_false, decide_eq_true_eq, reduceIte, reduceCtorEq, eAdd, eAddI, eSub, eLt, eLe, eGt, eGe, eEq, eNe, eEqS, eNeS, eTru, eNeg, eAbs, eInt, eIntB, eLenL, eLenT, i0, i1, c0, c1', s1, s2, slash, a1, a2]
theorem text_end (M : Stor) : f__law_text [pairD 1 0] M = .ok (.str (S endL)) M := by
  simp only [f__law_text, b__law_text, gFn, gSeq, gSkip, gRet, gRetN, gExpr, gSet, gIf, gAug, gAsg, gPar2, gPar3, gVar, gC, gBin, gUn, gTr, gAnd, gOr, gNot, gAndV, gOrV, gNotV, gIfE, gCall, G.gCons, G.gNil, G.gTup, G.gLst, gLstM, gSl, goSome, goNone, R.bind_ok, R.bind_ex, R.bind_no, R.bindS_ok, R.bindS_ex, R.bindS_no, outS_nx, outS_rt, outS_ex, orR_ok, orR_ex, orR_no, ggName, ggSub, List.getElem?_cons_zero, List.getElem?_cons_succ, List.set_cons_zero, List.set_cons_succ, List.map_cons, List.map_nil, List.length_cons, List.length_nil, List.replicate, List.append_nil, List.nil_append, List.cons_append, Nat.reduceAdd, Nat.reduceSub, Nat.reduceLeDiff, Nat.reduceLT, if_true, if_false, not_false_eq_true, Bool.false_eq_true, Bool.true_eq_false, Bool.not_true, Bool.not_false, decide_true, decide_false, decide_eq_true_eq, reduceIte, reduceCtorEq, eAdd, eAddI, eSub, eLt, eLe, eGt, eGe, eEq, eNe, eEqS, eNeS, eTru, eNeg, eAbs, eInt, eIntB, eLenL, eLenT, i0, i1, endl]
theorem sLen (a : List Nat) : (S a).length = a.length := S_len a
theorem str_ok {a : Int} {b : Nat} (h : a.natAbs < 2 ^ 120) (hb : b < 2 ^ 120) (hb0 : 0 < b) (M : Stor) : orR (fStr [rat a b] M) (fOwnS 5 f_Ratio___str__ [rat a b] M) = .ok (.str (S (txt a b))) M := by
  have l1 := iL_l h
  have l2 := dig_l hb
  have d0 : ¬ ((b : Nat) : Int) = 0 := by omega
  have w : f_written [.int a, .int (b : Nat)] M = .ok (.str (S (txt a b))) M := by
    unfold txt
    by_cases c : b = 1
    · rw [if_pos c, c]
      simp only [f_written, b_written, gFn, gSeq, gSkip, gRet, gRetN, gExpr, gSet, gIf, gAug, gAsg, gPar2, gPar3, gVar, gC, gBin, gUn, gTr, gAnd, gOr, gNot, gAndV, gOrV, gNotV, gIfE, gCall, G.gCons, G.gNil, G.gTup, G.gLst, gLstM, gSl, goSome, goNone, R.bind_ok, R.bind_ex, R.bind_no, R.bindS_ok, R.bindS_ex, R.bindS_no, outS_nx, outS_rt, outS_ex, orR_ok, orR_ex, orR_no, ggName, ggSub, List.getElem?_cons_zero, List.getElem?_cons_succ, List.set_cons_zero, List.set_cons_succ, List.map_cons, List.map_nil, List.length_cons, List.length_nil, List.replicate, List.append_nil, List.nil_append, List.cons_append, Nat.reduceAdd, Nat.reduceSub, Nat.reduceLeDiff, Nat.reduceLT, if_true, if_false, not_false_eq_true, Bool.false_eq_true, Bool.true_eq_false, Bool.not_true, Bool.not_false, decide_true, decide_false, decide_eq_true_eq, reduceIte, reduceCtorEq, eAdd, eAddI, eSub, eLt, eLe, eGt, eGe, eEq, eNe, eEqS, eNeS, eTru, eNeg, eAbs, eInt, eIntB, eLenL, eLenT, fStr_int h, show ¬ (((1 : Nat) : Int) = 0) by decide, show decide (((1 : Nat) : Int) = 1) = true by decide]
    · have c' : ¬ ((b : Nat) : Int) = 1 := by omega
      rw [if_neg c]
      have e1 : (Str.empty ++ S (iL a) : Str) = S (iL a) := Str.empty_append _
      have e2 : (S (iL a) ++ Str.ofString "/" : Str) = S (iL a ++ [47]) := by rw [slash, S_app]
      have e3 : (S (iL a ++ [47]) ++ S (iL (b : Nat)) : Str) = S (iL a ++ 47 :: dig b) := by rw [S_app, iL_nat]; simp
      have q1 : (S (iL a)).length ≤ 1000000 := by rw [sLen]; omega
      have q2 : (S (iL a ++ [47])).length ≤ 1000000 := by rw [sLen, List.length_append]; simp; omega
      have q3 : (S (iL a ++ 47 :: dig b)).length ≤ 1000000 := by rw [sLen, List.length_append]; simp; omega
      simp only [f_written, b_written, gFn, gSeq, gSkip, gRet, gRetN, gExpr, gSet, gIf, gAug, gAsg, gPar2, gPar3, gVar, gC, gBin, gUn, gTr, gAnd, gOr, gNot, gAndV, gOrV, gNotV, gIfE, gCall, G.gCons, G.gNil, G.gTup, G.gLst, gLstM, gSl, goSome, goNone, R.bind_ok, R.bind_ex, R.bind_no, R.bindS_ok, R.bindS_ex, R.bindS_no, outS_nx, outS_rt, outS_ex, orR_ok, orR_ex, orR_no, ggName, ggSub, List.getElem?_cons_zero, List.getElem?_cons_succ, List.set_cons_zero, List.set_cons_succ, List.map_cons, List.map_nil, List.length_cons, List.length_nil, List.replicate, List.append_nil, List.nil_append, List.cons_append, Nat.reduceAdd, Nat.reduceSub, Nat.reduceLeDiff, Nat.reduceLT, if_true, if_false, not_false_eq_true, Bool.false_eq_true, Bool.true_eq_false, Bool.not_true, Bool.not_false, decide_true, decide_false, decide_eq_true_eq, reduceIte, reduceCtorEq, eAdd, eAddI, eSub, eLt, eLe, eGt, eGe, eEq, eNe, eEqS, eNeS, eTru, eNeg, eAbs, eInt, eIntB, eLenL, eLenT, d0, c', jsG, dFmt_int h, dFmt_int (nb hb), e1, e2, e3, q1, q2, q3]
  have s : fStr [.str (S (txt a b))] M = .ok (.str (S (txt a b))) M := rfl
  have : f_Ratio___str__ [rat a b] M = .ok (.str (S (txt a b))) M := by
    simp only [f_Ratio___str__, b_Ratio___str__, gFn, gSeq, gSkip, gRet, gRetN, gExpr, gSet, gIf, gAug, gAsg, gPar2, gPar3, gVar, gC, gBin, gUn, gTr, gAnd, gOr, gNot, gAndV, gOrV, gNotV, gIfE, gCall, G.gCons, G.gNil, G.gTup, G.gLst, gLstM, gSl, goSome, goNone, R.bind_ok, R.bind_ex, R.bind_no, R.bindS_ok, R.bindS_ex, R.bindS_no, outS_nx, outS_rt, outS_ex, orR_ok, orR_ex, orR_no, ggName, ggSub, List.getElem?_cons_zero, List.getElem?_cons_succ, List.set_cons_zero, List.set_cons_succ, List.map_cons, List.map_nil, List.length_cons, List.length_nil, List.replicate, List.append_nil, List.nil_append, List.cons_append, Nat.reduceAdd, Nat.reduceSub, Nat.reduceLeDiff, Nat.reduceLT, if_true, if_false, not_false_eq_true, Bool.false_eq_true, Bool.true_eq_false, Bool.not_true, Bool.not_false, decide_true, decide_false, decide_eq_true_eq, reduceIte, reduceCtorEq, eAdd, eAddI, eSub, eLt, eLe, eGt, eGe, eEq, eNe, eEqS, eNeS, eTru, eNeg, eAbs, eInt, eIntB, eLenL, eLenT, fTop, fBot, w, s]
  show strOnly (f_Ratio___str__ [rat a b] M) = _
  rw [this]; rfl
theorem read_txt {a : Int} {b : Nat} (h : a.natAbs < 2 ^ 120) (hb : b < 2 ^ 120) (hb0 : 0 < b) (hc : Nat.gcd a.natAbs b = 1) (M : Stor) : f_Ratio_read [.cls 5, .str (S (txt a b))] M = .ok (rat a b) M := by
  have mk : mkR a b = rat a b := by unfold mkR; rw [lowP_cop hc]
  unfold txt
  by_cases c : b = 1
  · rw [if_pos c, read_ok (lo_int h) (sh_int a) M]
    subst c
    show R.ok (mkR a 1) M = _
    rw [mk]
  · rw [if_neg c, read_ok (lo_frac h hb) (sh_frac a hb0) M]
    show R.ok (mkR a b) M = _
    rw [mk]
end K06

namespace K06
open PySem L2 G SX
/-! ### drawn texts -/
theorem fx120 {a : Int} {b : Nat} (h : Fx a b) : a.natAbs < 2 ^ 100 ∧ b < 2 ^ 100 ∧ 0 < b := ⟨h.fr.1, h.fr.2.2.1, h.2.1⟩
theorem up120 {n : Nat} (h : n < 2 ^ 100) : n < 2 ^ 120 := nup h (by decide)
noncomputable abbrev big (e : GE') : GS' := gIf (gOr (gTr truD (gBin dGtI (gCall fAbsI (G.gCons (gBin dIx (gVar 1) (gC (.int 0))) G.gNil)) e)) (gTr truD (gBin dGtI (gBin dIx (gVar 1) (gC (.int 1))) e))) (gSet 2 (gC (.int 1))) gSkip
theorem big_ok (p : Int) (a b : Int) (x0 : Option D) (t : Int) (M : Stor) : ∃ t', (t' = t ∨ t' = 1) ∧ big (gC (.int p)) [x0, some (pairD a b), some (.int t)] M = .nx [x0, some (pairD a b), some (.int t')] M := by
  by_cases h1 : p < (a.natAbs : Nat)
  · refine ⟨1, .inr rfl, ?_⟩
    simp only [big, gFn, gSeq, gSkip, gRet, gRetN, gExpr, gSet, gIf, gAug, gAsg, gPar2, gPar3, gVar, gC, gBin, gUn, gTr, gAnd, gOr, gNot, gAndV, gOrV, gNotV, gIfE, gCall, G.gCons, G.gNil, G.gTup, G.gLst, gLstM, gSl, goSome, goNone, R.bind_ok, R.bind_ex, R.bind_no, R.bindS_ok, R.bindS_ex, R.bindS_no, outS_nx, outS_rt, outS_ex, orR_ok, orR_ex, orR_no, ggName, ggSub, List.getElem?_cons_zero, List.getElem?_cons_succ, List.set_cons_zero, List.set_cons_succ, List.map_cons, List.map_nil, List.length_cons, List.length_nil, List.replicate, List.append_nil, List.nil_append, List.cons_append, Nat.reduceAdd, Nat.reduceSub, Nat.reduceLeDiff, Nat.reduceLT, if_true, if_false, not_false_eq_true, Bool.false_eq_true, Bool.true_eq_false, Bool.not_true, Bool.not_false, decide_true, decide_false, decide_eq_true_eq, reduceIte, reduceCtorEq, eAdd, eAddI, eSub, eLt, eLe, eGt, eGe, eEq, eNe, eEqS, eNeS, eTru, eNeg, eAbs, eInt, eIntB, eLenL, eLenT, i0, i1, decide_eq_true h1]
  · by_cases h2 : p < b
    · refine ⟨1, .inr rfl, ?_⟩
      simp only [big, gFn, gSeq, gSkip, gRet, gRetN, gExpr, gSet, gIf, gAug, gAsg, gPar2, gPar3, gVar, gC, gBin, gUn, gTr, gAnd, gOr, gNot, gAndV, gOrV, gNotV, gIfE, gCall, G.gCons, G.gNil, G.gTup, G.gLst, gLstM, gSl, goSome, goNone, R.bind_ok, R.bind_ex, R.bind_no, R.bindS_ok, R.bindS_ex, R.bindS_no, outS_nx, outS_rt, outS_ex, orR_ok, orR_ex, orR_no, ggName, ggSub, List.getElem?_cons_zero, List.getElem?_cons_succ, List.set_cons_zero, List.set_cons_succ, List.map_cons, List.map_nil, List.length_cons, List.length_nil, List.replicate, List.append_nil, List.nil_append, List.cons_append, Nat.reduceAdd, Nat.reduceSub, Nat.reduceLeDiff, Nat.reduceLT, if_true, if_false, not_false_eq_true, Bool.false_eq_true, Bool.true_eq_false, Bool.not_true, Bool.not_false, decide_true, decide_false, decide_eq_true_eq, reduceIte, reduceCtorEq, eAdd, eAddI, eSub, eLt, eLe, eGt, eGe, eEq, eNe, eEqS, eNeS, eTru, eNeg, eAbs, eInt, eIntB, eLenL, eLenT, i0, i1, h1, decide_eq_true h2]
    · refine ⟨t, .inl rfl, ?_⟩
      simp only [big, gFn, gSeq, gSkip, gRet, gRetN, gExpr, gSet, gIf, gAug, gAsg, gPar2, gPar3, gVar, gC, gBin, gUn, gTr, gAnd, gOr, gNot, gAndV, gOrV, gNotV, gIfE, gCall, G.gCons, G.gNil, G.gTup, G.gLst, gLstM, gSl, goSome, goNone, R.bind_ok, R.bind_ex, R.bind_no, R.bindS_ok, R.bindS_ex, R.bindS_no, outS_nx, outS_rt, outS_ex, orR_ok, orR_ex, orR_no, ggName, ggSub, List.getElem?_cons_zero, List.getElem?_cons_succ, List.set_cons_zero, List.set_cons_succ, List.map_cons, List.map_nil, List.length_cons, List.length_nil, List.replicate, List.append_nil, List.nil_append, List.cons_append, Nat.reduceAdd, Nat.reduceSub, Nat.reduceLeDiff, Nat.reduceLT, if_true, if_false, not_false_eq_true, Bool.false_eq_true, Bool.true_eq_false, Bool.not_true, Bool.not_false, decide_true, decide_false, decide_eq_true_eq, reduceIte, reduceCtorEq, eAdd, eAddI, eSub, eLt, eLe, eGt, eGe, eEq, eNe, eEqS, eNeS, eTru, eNeg, eAbs, eInt, eIntB, eLenL, eLenT, i0, i1, h1, h2]
theorem pv20 : (10 : Int) ^ (20 : Int).toNat = 100000000000000000000 := by decide +kernel
theorem pw20 : gBin dPowI (gC (.int 10)) (gC (.int 20)) = gC (.int 100000000000000000000) := by
  have pk : powOk 10 20 = true := by decide
  funext Γ N
  show dPowI (.int 10) (.int 20) N = .ok (.int 100000000000000000000) N
  rw [ePow pk, pv20]
theorem drawn_ok {M : Stor} {k : Nat} {zs : List Int} {at_ : Nat} (h : Pen M k zs at_) (ha : at_ ≤ 80000) :
    ∃ l t M', f__law_drawn_text [.ref k] M = .ok (.str (S l)) M' ∧ Lo l ∧ l.length ≤ 300 ∧ Rt l ∧ t ≤ at_ + 10 ∧ Pen M' k zs t := by
  obtain ⟨r, t1, M1, e1, r0, r1, h1, p1, -⟩ := draw_ok (many := 6) h (by omega) (by decide) (by decide)
  by_cases hr : r = 0
  · have te := text_end M1
    refine ⟨endL, t1, M1, ?_, ⟨by decide, by decide⟩, by decide, rt_end, by omega, p1⟩
    refine fn_rt rfl ?_
    show b__law_drawn_text [some (.ref k), none, none] M = _
    unfold b__law_drawn_text
    rw [seq_nx (Γ1 := [some (.ref k), some (pairD 1 0), none]) (M1 := M1) (by simp only [gFn, gSeq, gSkip, gRet, gRetN, gExpr, gSet, gIf, gAug, gAsg, gPar2, gPar3, gVar, gC, gBin, gUn, gTr, gAnd, gOr, gNot, gAndV, gOrV, gNotV, gIfE, gCall, G.gCons, G.gNil, G.gTup, G.gLst, gLstM, gSl, goSome, goNone, R.bind_ok, R.bind_ex, R.bind_no, R.bindS_ok, R.bindS_ex, R.bindS_no, outS_nx, outS_rt, outS_ex, orR_ok, orR_ex, orR_no, ggName, ggSub, List.getElem?_cons_zero, List.getElem?_cons_succ, List.set_cons_zero, List.set_cons_succ, List.map_cons, List.map_nil, List.length_cons, List.length_nil, List.replicate, List.append_nil, List.nil_append, List.cons_append, Nat.reduceAdd, Nat.reduceSub, Nat.reduceLeDiff, Nat.reduceLT, if_true, if_false, not_false_eq_true, Bool.false_eq_true, Bool.true_eq_false, Bool.not_true, Bool.not_false, decide_true, decide_false, decide_eq_true_eq, reduceIte, reduceCtorEq, eAdd, eAddI, eSub, eLt, eLe, eGt, eGe, eEq, eNe, eEqS, eNeS, eTru, eNeg, eAbs, eInt, eIntB, eLenL, eLenT, e1, decide_eq_true hr])]
    refine seq_rt ?_
    simp only [gFn, gSeq, gSkip, gRet, gRetN, gExpr, gSet, gIf, gAug, gAsg, gPar2, gPar3, gVar, gC, gBin, gUn, gTr, gAnd, gOr, gNot, gAndV, gOrV, gNotV, gIfE, gCall, G.gCons, G.gNil, G.gTup, G.gLst, gLstM, gSl, goSome, goNone, R.bind_ok, R.bind_ex, R.bind_no, R.bindS_ok, R.bindS_ex, R.bindS_no, outS_nx, outS_rt, outS_ex, orR_ok, orR_ex, orR_no, ggName, ggSub, List.getElem?_cons_zero, List.getElem?_cons_succ, List.set_cons_zero, List.set_cons_succ, List.map_cons, List.map_nil, List.length_cons, List.length_nil, List.replicate, List.append_nil, List.nil_append, List.cons_append, Nat.reduceAdd, Nat.reduceSub, Nat.reduceLeDiff, Nat.reduceLT, if_true, if_false, not_false_eq_true, Bool.false_eq_true, Bool.true_eq_false, Bool.not_true, Bool.not_false, decide_true, decide_false, decide_eq_true_eq, reduceIte, reduceCtorEq, eAdd, eAddI, eSub, eLt, eLe, eGt, eGe, eEq, eNe, eEqS, eNeS, eTru, eNeg, eAbs, eInt, eIntB, eLenL, eLenT, i1, te]
  · obtain ⟨a, b, t2, M2, e2, f2, h2, p2⟩ := fraction_ok p1 (by omega)
    obtain ⟨fa, fb, fb0⟩ := fx120 f2
    have c0 : ¬ ((b : Nat) : Int) = 0 := by omega
    obtain ⟨r3, t3, M3, e3, r30, r31, h3, p3, -⟩ := draw_ok (many := 3) p2 (by omega) (by decide) (by decide)
    have first : gSet 1 (gIfE (gTr truD (gBin dEq (gCall f__law_draw (G.gCons (gVar 0) (G.gCons (gC (.int 6)) G.gNil))) (gC (.int 0)))) (G.gTup (G.gCons (gC (.int 1)) (G.gCons (gC (.int 0)) G.gNil))) (gCall f__law_fraction (G.gCons (gVar 0) G.gNil))) [some (.ref k), none, none] M = .nx [some (.ref k), some (pairD a b), none] M2 := by
      simp only [gFn, gSeq, gSkip, gRet, gRetN, gExpr, gSet, gIf, gAug, gAsg, gPar2, gPar3, gVar, gC, gBin, gUn, gTr, gAnd, gOr, gNot, gAndV, gOrV, gNotV, gIfE, gCall, G.gCons, G.gNil, G.gTup, G.gLst, gLstM, gSl, goSome, goNone, R.bind_ok, R.bind_ex, R.bind_no, R.bindS_ok, R.bindS_ex, R.bindS_no, outS_nx, outS_rt, outS_ex, orR_ok, orR_ex, orR_no, ggName, ggSub, List.getElem?_cons_zero, List.getElem?_cons_succ, List.set_cons_zero, List.set_cons_succ, List.map_cons, List.map_nil, List.length_cons, List.length_nil, List.replicate, List.append_nil, List.nil_append, List.cons_append, Nat.reduceAdd, Nat.reduceSub, Nat.reduceLeDiff, Nat.reduceLT, if_true, if_false, not_false_eq_true, Bool.false_eq_true, Bool.true_eq_false, Bool.not_true, Bool.not_false, decide_true, decide_false, decide_eq_true_eq, reduceIte, reduceCtorEq, eAdd, eAddI, eSub, eLt, eLe, eGt, eGe, eEq, eNe, eEqS, eNeS, eTru, eNeg, eAbs, eInt, eIntB, eLenL, eLenT, e1, hr, e2]
    by_cases hr3 : r3 = 0
    · have te := text_ok (up120 fa) (up120 fb) fb0 M3
      refine ⟨txt a b, t3, M3, ?_, ?_, ?_, ?_, by omega, p3⟩
      · refine fn_rt rfl ?_
        show b__law_drawn_text [some (.ref k), none, none] M = _
        unfold b__law_drawn_text
        rw [seq_nx first]
        refine seq_rt ?_
        simp only [gFn, gSeq, gSkip, gRet, gRetN, gExpr, gSet, gIf, gAug, gAsg, gPar2, gPar3, gVar, gC, gBin, gUn, gTr, gAnd, gOr, gNot, gAndV, gOrV, gNotV, gIfE, gCall, G.gCons, G.gNil, G.gTup, G.gLst, gLstM, gSl, goSome, goNone, R.bind_ok, R.bind_ex, R.bind_no, R.bindS_ok, R.bindS_ex, R.bindS_no, outS_nx, outS_rt, outS_ex, orR_ok, orR_ex, orR_no, ggName, ggSub, List.getElem?_cons_zero, List.getElem?_cons_succ, List.set_cons_zero, List.set_cons_succ, List.map_cons, List.map_nil, List.length_cons, List.length_nil, List.replicate, List.append_nil, List.nil_append, List.cons_append, Nat.reduceAdd, Nat.reduceSub, Nat.reduceLeDiff, Nat.reduceLT, if_true, if_false, not_false_eq_true, Bool.false_eq_true, Bool.true_eq_false, Bool.not_true, Bool.not_false, decide_true, decide_false, decide_eq_true_eq, reduceIte, reduceCtorEq, eAdd, eAddI, eSub, eLt, eLe, eGt, eGe, eEq, eNe, eEqS, eNeS, eTru, eNeg, eAbs, eInt, eIntB, eLenL, eLenT, i1, c0, e3, decide_eq_true hr3, te]
      · unfold txt; split
        · exact lo_int (up120 fa)
        · exact lo_frac (up120 fa) (up120 fb)
      · unfold txt; split
        · have := iL_l (up120 fa); omega
        · have := frac_l (up120 fa) (up120 fb); omega
      · unfold txt; split
        · exact rt_int (up120 fa)
        · exact rt_frac (up120 fa) (up120 fb) fb0
    · obtain ⟨d, t4, M4, e4, m4, h4, p4⟩ := pick_ok (l := [D.int 1, .int 2, .int 6, .int 10]) p3 (by omega) (by simp) (by simp)
      have ht : ∃ t : Int, d = .int t ∧ 1 ≤ t ∧ t ≤ 10 := by
        simp only [List.mem_cons, List.not_mem_nil, or_false] at m4
        rcases m4 with rfl | rfl | rfl | rfl
        · exact ⟨1, rfl, by decide, by decide⟩
        · exact ⟨2, rfl, by decide, by decide⟩
        · exact ⟨6, rfl, by decide, by decide⟩
        · exact ⟨10, rfl, by decide, by decide⟩
      obtain ⟨t, rfl, ht1, ht2⟩ := ht
      have bg : ∃ t', (t' = t ∨ t' = 1) ∧ big (gBin dPowI (gC (.int 10)) (gC (.int 20))) [some (.ref k), some (pairD a b), some (.int t)] M4 = .nx [some (.ref k), some (pairD a b), some (.int t')] M4 := by
        rw [pw20]; exact big_ok _ a b _ t M4
      obtain ⟨t', ht', bg⟩ := bg
      have ht'1 : 1 ≤ t' ∧ t' ≤ 10 := by rcases ht' with rfl | rfl <;> omega
      obtain ⟨n, rfl⟩ : ∃ n : Nat, t' = n := ⟨t'.toNat, by omega⟩
      have lt10 : ∀ x : Nat, x < 2 ^ 100 → x * n < 2 ^ 120 := fun x hx => by
        have h1 : x * n ≤ x * 10 := Nat.mul_le_mul_left _ (by omega)
        have h2 : (2 : Nat) ^ 100 * 10 ≤ 2 ^ 120 := by decide +kernel
        have h3 : x * 10 < 2 ^ 100 * 10 := Nat.mul_lt_mul_of_pos_right hx (by decide)
        omega
      have la : (a * (n : Int)).natAbs < 2 ^ 120 := by rw [Int.natAbs_mul, Int.natAbs_natCast]; exact lt10 _ fa
      have lb : b * n < 2 ^ 120 := lt10 _ fb
      have lb0 : 0 < b * n := Nat.mul_pos fb0 (by omega)
      have m1 : mulOk a (n : Int) = true := mulOk_right (by omega)
      have m2 : mulOk (b : Int) (n : Int) = true := mulOk_right (by omega)
      have s1 := fStr_int la M4
      have s2 := fStr_int (nb lb) M4
      rw [Int.natCast_mul] at s2
      obtain ⟨a1, a2⟩ := add_frac la lb M4
      rw [Int.natCast_mul] at a2
      refine ⟨iL (a * (n : Int)) ++ 47 :: dig (b * n), t4, M4, ?_, lo_frac la lb, by have := frac_l la lb; omega, rt_frac la lb lb0, by omega, p4⟩
      refine fn_rt rfl ?_
      show b__law_drawn_text [some (.ref k), none, none] M = _
      unfold b__law_drawn_text
      rw [seq_nx first]
      rw [seq_nx (Γ1 := [some (.ref k), some (pairD a b), none]) (M1 := M3) (by simp only [gFn, gSeq, gSkip, gRet, gRetN, gExpr, gSet, gIf, gAug, gAsg, gPar2, gPar3, gVar, gC, gBin, gUn, gTr, gAnd, gOr, gNot, gAndV, gOrV, gNotV, gIfE, gCall, G.gCons, G.gNil, G.gTup, G.gLst, gLstM, gSl, goSome, goNone, R.bind_ok, R.bind_ex, R.bind_no, R.bindS_ok, R.bindS_ex, R.bindS_no, outS_nx, outS_rt, outS_ex, orR_ok, orR_ex, orR_no, ggName, ggSub, List.getElem?_cons_zero, List.getElem?_cons_succ, List.set_cons_zero, List.set_cons_succ, List.map_cons, List.map_nil, List.length_cons, List.length_nil, List.replicate, List.append_nil, List.nil_append, List.cons_append, Nat.reduceAdd, Nat.reduceSub, Nat.reduceLeDiff, Nat.reduceLT, if_true, if_false, not_false_eq_true, Bool.false_eq_true, Bool.true_eq_false, Bool.not_true, Bool.not_false, decide_true, decide_false, decide_eq_true_eq, reduceIte, reduceCtorEq, eAdd, eAddI, eSub, eLt, eLe, eGt, eGe, eEq, eNe, eEqS, eNeS, eTru, eNeg, eAbs, eInt, eIntB, eLenL, eLenT, i1, c0, e3, hr3])]
      rw [seq_nx (Γ1 := [some (.ref k), some (pairD a b), some (.int t)]) (M1 := M4) (by simp only [gFn, gSeq, gSkip, gRet, gRetN, gExpr, gSet, gIf, gAug, gAsg, gPar2, gPar3, gVar, gC, gBin, gUn, gTr, gAnd, gOr, gNot, gAndV, gOrV, gNotV, gIfE, gCall, G.gCons, G.gNil, G.gTup, G.gLst, gLstM, gSl, goSome, goNone, R.bind_ok, R.bind_ex, R.bind_no, R.bindS_ok, R.bindS_ex, R.bindS_no, outS_nx, outS_rt, outS_ex, orR_ok, orR_ex, orR_no, ggName, ggSub, List.getElem?_cons_zero, List.getElem?_cons_succ, List.set_cons_zero, List.set_cons_succ, List.map_cons, List.map_nil, List.length_cons, List.length_nil, List.replicate, List.append_nil, List.nil_append, List.cons_append, Nat.reduceAdd, Nat.reduceSub, Nat.reduceLeDiff, Nat.reduceLT, if_true, if_false, not_false_eq_true, Bool.false_eq_true, Bool.true_eq_false, Bool.not_true, Bool.not_false, decide_true, decide_false, decide_eq_true_eq, reduceIte, reduceCtorEq, eAdd, eAddI, eSub, eLt, eLe, eGt, eGe, eEq, eNe, eEqS, eNeS, eTru, eNeg, eAbs, eInt, eIntB, eLenL, eLenT, e4])]
      rw [seq_nx bg]
      simp only [gFn, gSeq, gSkip, gRet, gRetN, gExpr, gSet, gIf, gAug, gAsg, gPar2, gPar3, gVar, gC, gBin, gUn, gTr, gAnd, gOr, gNot, gAndV, gOrV, gNotV, gIfE, gCall, G.gCons, G.gNil, G.gTup, G.gLst, gLstM, gSl, goSome, goNone, R.bind_ok, R.bind_ex, R.bind_no, R.bindS_ok, R.bindS_ex, R.bindS_no, outS_nx, outS_rt, outS_ex, orR_ok, orR_ex, orR_no, ggName, ggSub, List.getElem?_cons_zero, List.getElem?_cons_succ, List.set_cons_zero, List.set_cons_succ, List.map_cons, List.map_nil, List.length_cons, List.length_nil, List.replicate, List.append_nil, List.nil_append, List.cons_append, Nat.reduceAdd, Nat.reduceSub, Nat.reduceLeDiff, Nat.reduceLT, if_true, if_false, not_false_eq_true, Bool.false_eq_true, Bool.true_eq_false, Bool.not_true, Bool.not_false, decide_true, decide_false, decide_eq_true_eq, reduceIte, reduceCtorEq, eAdd, eAddI, eSub, eLt, eLe, eGt, eGe, eEq, eNe, eEqS, eNeS, eTru, eNeg, eAbs, eInt, eIntB, eLenL, eLenT, i0, i1, eMul m1, eMul m2, s1, s2, slash, a1, a2]
/-! ### spoilt texts -/
theorem slT {l : List Nat} (h : l.length ≤ 1000000) (n : Nat) (M : Stor) : dSl (.str (S l)) none (some ((n : Nat) : Int)) M = .ok (.str (S (l.take n))) M := by
  rw [G.tSl _ _ _ _ h, cut_to]
theorem slF {l : List Nat} (h : l.length ≤ 1000000) (n : Nat) (M : Stor) : dSl (.str (S l)) (some ((n : Nat) : Int)) none M = .ok (.str (S (l.drop n))) M := by
  rw [G.tSl _ _ _ _ h, cut_from]
def signL : List Nat := [48, 48, 49, 55, 47, 47, 45, 101, 110, 115, 32, 43, 46, 69, 120, 95]
theorem one_S (c : Nat) (s : String) (h : s.toList.map Char.toNat = [c]) : Str.ofString s = S [c] := by rw [strL, h]
theorem spoilt_ok {M : Stor} {k : Nat} {zs : List Int} {at_ : Nat} (h : Pen M k zs at_) (ha : at_ ≤ 80000) {l : List Nat} (hl : Lo l) (hn : l.length ≤ 590) :
    ∃ l' t M', f__law_spoilt [.ref k, .str (S l)] M = .ok (.str (S l')) M' ∧ Lo l' ∧ l'.length ≤ l.length + 1 ∧ t ≤ at_ + 3 ∧ Pen M' k zs t := by
  have len := tLen l M (by omega)
  obtain ⟨r, t1, M1, e1, r0, r1, h1, p1, -⟩ := draw_ok (many := (l.length : Nat) + 1) h (by omega) (by omega) (by omega)
  obtain ⟨w, t2, M2, e2, w0, w1, h2, p2, -⟩ := draw_ok (many := 6) p1 (by omega) (by decide) (by decide)
  obtain ⟨d, t3, M3, e3, m3, h3, p3⟩ := pick_ok (l := signL.map fun c => D.str (S [c])) p2 (by omega) (by decide) (by decide)
  obtain ⟨c, hc, rfl⟩ := List.mem_map.mp m3
  have hc128 : c < 128 := by
    have z : ∀ c ∈ signL, c < 128 := by decide
    exact z c hc
  obtain ⟨n, rfl⟩ : ∃ n : Nat, r = n := ⟨r.toNat, by omega⟩
  have sT := slT (l := l) (by omega) n M3
  have sF := slF (l := l) (by omega) n M3
  have sF1 := slF (l := l) (by omega) (n + 1) M3
  have sM := slM hl n M3
  have n1 : ((n : Nat) : Int) + 1 = ((n + 1 : Nat) : Int) := by omega
  have z := one_S 48 "0" rfl
  have head : ∀ rest : GS', gSeq (gPar2 2 3 (G.gCons (gCall f__law_draw (G.gCons (gVar 0) (G.gCons (gBin dAdd (gCall fLen (G.gCons (gVar 1) G.gNil)) (gC (.int 1))) G.gNil))) (G.gCons (gCall f__law_draw (G.gCons (gVar 0) (G.gCons (gC (.int 6)) G.gNil))) G.gNil)))
      (gSeq (gSet 4 (gCall f__law_pick (G.gCons (gVar 0) (G.gCons (G.gLst (G.gCons (gC (.str "0")) (G.gCons (gC (.str "0")) (G.gCons (gC (.str "1")) (G.gCons (gC (.str "7")) (G.gCons (gC (.str "/")) (G.gCons (gC (.str "/")) (G.gCons (gC (.str "-")) (G.gCons (gC (.str "e")) (G.gCons (gC (.str "n")) (G.gCons (gC (.str "s")) (G.gCons (gC (.str " ")) (G.gCons (gC (.str "+")) (G.gCons (gC (.str ".")) (G.gCons (gC (.str "E")) (G.gCons (gC (.str "x")) (G.gCons (gC (.str "_")) G.gNil))))))))))))))))) G.gNil)))) rest) [some (.ref k), some (.str (S l)), none, none, none] M = rest [some (.ref k), some (.str (S l)), some (.int n), some (.int w), some (.str (S [c]))] M3 := by
    intro rest
    rw [seq_nx (Γ1 := [some (.ref k), some (.str (S l)), some (.int n), some (.int w), none]) (M1 := M2) (by simp only [gFn, gSeq, gSkip, gRet, gRetN, gExpr, gSet, gIf, gAug, gAsg, gPar2, gPar3, gVar, gC, gBin, gUn, gTr, gAnd, gOr, gNot, gAndV, gOrV, gNotV, gIfE, gCall, G.gCons, G.gNil, G.gTup, G.gLst, gLstM, gSl, goSome, goNone, R.bind_ok, R.bind_ex, R.bind_no, R.bindS_ok, R.bindS_ex, R.bindS_no, outS_nx, outS_rt, outS_ex, orR_ok, orR_ex, orR_no, ggName, ggSub, List.getElem?_cons_zero, List.getElem?_cons_succ, List.set_cons_zero, List.set_cons_succ, List.map_cons, List.map_nil, List.length_cons, List.length_nil, List.replicate, List.append_nil, List.nil_append, List.cons_append, Nat.reduceAdd, Nat.reduceSub, Nat.reduceLeDiff, Nat.reduceLT, if_true, if_false, not_false_eq_true, Bool.false_eq_true, Bool.true_eq_false, Bool.not_true, Bool.not_false, decide_true, decide_false, decide_eq_true_eq, reduceIte, reduceCtorEq, eAdd, eAddI, eSub, eLt, eLe, eGt, eGe, eEq, eNe, eEqS, eNeS, eTru, eNeg, eAbs, eInt, eIntB, eLenL, eLenT, len, e1, e2])]
    rw [seq_nx (Γ1 := [some (.ref k), some (.str (S l)), some (.int n), some (.int w), some (.str (S [c]))]) (M1 := M3) (by
      simp only [signL, List.map_cons, List.map_nil] at e3
      simp only [gFn, gSeq, gSkip, gRet, gRetN, gExpr, gSet, gIf, gAug, gAsg, gPar2, gPar3, gVar, gC, gBin, gUn, gTr, gAnd, gOr, gNot, gAndV, gOrV, gNotV, gIfE, gCall, G.gCons, G.gNil, G.gTup, G.gLst, gLstM, gSl, goSome, goNone, R.bind_ok, R.bind_ex, R.bind_no, R.bindS_ok, R.bindS_ex, R.bindS_no, outS_nx, outS_rt, outS_ex, orR_ok, orR_ex, orR_no, ggName, ggSub, List.getElem?_cons_zero, List.getElem?_cons_succ, List.set_cons_zero, List.set_cons_succ, List.map_cons, List.map_nil, List.length_cons, List.length_nil, List.replicate, List.append_nil, List.nil_append, List.cons_append, Nat.reduceAdd, Nat.reduceSub, Nat.reduceLeDiff, Nat.reduceLT, if_true, if_false, not_false_eq_true, Bool.false_eq_true, Bool.true_eq_false, Bool.not_true, Bool.not_false, decide_true, decide_false, decide_eq_true_eq, reduceIte, reduceCtorEq, eAdd, eAddI, eSub, eLt, eLe, eGt, eGe, eEq, eNe, eEqS, eNeS, eTru, eNeg, eAbs, eInt, eIntB, eLenL, eLenT, zero, slash, minus, one_S 49 "1" rfl, one_S 55 "7" rfl, one_S 101 "e" rfl, one_S 110 "n" rfl, one_S 115 "s" rfl, one_S 32 " " rfl, one_S 43 "+" rfl, one_S 46 "." rfl, one_S 69 "E" rfl, one_S 120 "x" rfl, one_S 95 "_" rfl, e3])]
  have tl : (l.take n).length = min n l.length := List.length_take
  have dl : (l.drop n).length = l.length - n := List.length_drop
  have dl1 : (l.drop (n + 1)).length = l.length - (n + 1) := List.length_drop
  have ml : ((l.drop n).take 1).length ≤ 1 := by rw [List.length_take]; omega
  have cat : ∀ x y : List Nat, Lo x → Lo y → x.length + y.length ≤ 600 → Lo (x ++ y) := fun x y hx hy hxy => ⟨fun c hc => (List.mem_append.mp hc).elim (hx.lo c) (hy.lo c), by rw [List.length_append]; exact hxy⟩
  by_cases w0' : w = 0
  · have a1 := tAdd (l.take n) (l.drop (n + 1)) M3 (by omega)
    refine ⟨l.take n ++ l.drop (n + 1), t3, M3, ?_, cat _ _ (hl.take n) (hl.drop _) (by omega), by rw [List.length_append]; omega, by omega, p3⟩
    refine fn_rt rfl ?_
    show b__law_spoilt [some (.ref k), some (.str (S l)), none, none, none] M = _
    unfold b__law_spoilt
    rw [head]
    simp only [gFn, gSeq, gSkip, gRet, gRetN, gExpr, gSet, gIf, gAug, gAsg, gPar2, gPar3, gVar, gC, gBin, gUn, gTr, gAnd, gOr, gNot, gAndV, gOrV, gNotV, gIfE, gCall, G.gCons, G.gNil, G.gTup, G.gLst, gLstM, gSl, goSome, goNone, R.bind_ok, R.bind_ex, R.bind_no, R.bindS_ok, R.bindS_ex, R.bindS_no, outS_nx, outS_rt, outS_ex, orR_ok, orR_ex, orR_no, ggName, ggSub, List.getElem?_cons_zero, List.getElem?_cons_succ, List.set_cons_zero, List.set_cons_succ, List.map_cons, List.map_nil, List.length_cons, List.length_nil, List.replicate, List.append_nil, List.nil_append, List.cons_append, Nat.reduceAdd, Nat.reduceSub, Nat.reduceLeDiff, Nat.reduceLT, if_true, if_false, not_false_eq_true, Bool.false_eq_true, Bool.true_eq_false, Bool.not_true, Bool.not_false, decide_true, decide_false, decide_eq_true_eq, reduceIte, reduceCtorEq, eAdd, eAddI, eSub, eLt, eLe, eGt, eGe, eEq, eNe, eEqS, eNeS, eTru, eNeg, eAbs, eInt, eIntB, eLenL, eLenT, decide_eq_true w0', sT, n1, sF1, a1]
  · by_cases w1' : w = 1
    · have a1 := tAdd (l.take n) ((l.drop n).take 1) M3 (by omega)
      have a2 := tAdd (l.take n ++ (l.drop n).take 1) (l.drop n) M3 (by rw [List.length_append]; omega)
      refine ⟨l.take n ++ (l.drop n).take 1 ++ l.drop n, t3, M3, ?_, cat _ _ (cat _ _ (hl.take n) ((hl.drop n).take 1) (by omega)) (hl.drop n) (by rw [List.length_append]; omega), by rw [List.length_append, List.length_append]; omega, by omega, p3⟩
      refine fn_rt rfl ?_
      show b__law_spoilt [some (.ref k), some (.str (S l)), none, none, none] M = _
      unfold b__law_spoilt
      rw [head]
      simp only [gFn, gSeq, gSkip, gRet, gRetN, gExpr, gSet, gIf, gAug, gAsg, gPar2, gPar3, gVar, gC, gBin, gUn, gTr, gAnd, gOr, gNot, gAndV, gOrV, gNotV, gIfE, gCall, G.gCons, G.gNil, G.gTup, G.gLst, gLstM, gSl, goSome, goNone, R.bind_ok, R.bind_ex, R.bind_no, R.bindS_ok, R.bindS_ex, R.bindS_no, outS_nx, outS_rt, outS_ex, orR_ok, orR_ex, orR_no, ggName, ggSub, List.getElem?_cons_zero, List.getElem?_cons_succ, List.set_cons_zero, List.set_cons_succ, List.map_cons, List.map_nil, List.length_cons, List.length_nil, List.replicate, List.append_nil, List.nil_append, List.cons_append, Nat.reduceAdd, Nat.reduceSub, Nat.reduceLeDiff, Nat.reduceLT, if_true, if_false, not_false_eq_true, Bool.false_eq_true, Bool.true_eq_false, Bool.not_true, Bool.not_false, decide_true, decide_false, decide_eq_true_eq, reduceIte, reduceCtorEq, eAdd, eAddI, eSub, eLt, eLe, eGt, eGe, eEq, eNe, eEqS, eNeS, eTru, eNeg, eAbs, eInt, eIntB, eLenL, eLenT, w0', decide_eq_true w1', sT, sM, sF, a1, a2]
    · by_cases w2' : w = 2
      · refine ⟨l.take n, t3, M3, ?_, hl.take n, by omega, by omega, p3⟩
        refine fn_rt rfl ?_
        show b__law_spoilt [some (.ref k), some (.str (S l)), none, none, none] M = _
        unfold b__law_spoilt
        rw [head]
        simp only [gFn, gSeq, gSkip, gRet, gRetN, gExpr, gSet, gIf, gAug, gAsg, gPar2, gPar3, gVar, gC, gBin, gUn, gTr, gAnd, gOr, gNot, gAndV, gOrV, gNotV, gIfE, gCall, G.gCons, G.gNil, G.gTup, G.gLst, gLstM, gSl, goSome, goNone, R.bind_ok, R.bind_ex, R.bind_no, R.bindS_ok, R.bindS_ex, R.bindS_no, outS_nx, outS_rt, outS_ex, orR_ok, orR_ex, orR_no, ggName, ggSub, List.getElem?_cons_zero, List.getElem?_cons_succ, List.set_cons_zero, List.set_cons_succ, List.map_cons, List.map_nil, List.length_cons, List.length_nil, List.replicate, List.append_nil, List.nil_append, List.cons_append, Nat.reduceAdd, Nat.reduceSub, Nat.reduceLeDiff, Nat.reduceLT, if_true, if_false, not_false_eq_true, Bool.false_eq_true, Bool.true_eq_false, Bool.not_true, Bool.not_false, decide_true, decide_false, decide_eq_true_eq, reduceIte, reduceCtorEq, eAdd, eAddI, eSub, eLt, eLe, eGt, eGe, eEq, eNe, eEqS, eNeS, eTru, eNeg, eAbs, eInt, eIntB, eLenL, eLenT, w0', w1', decide_eq_true w2', sT]
      · have lc : Lo [c] := ⟨fun x hx => by rw [List.mem_singleton.mp hx]; exact hc128, by simp⟩
        have a1 := tAdd (l.take n) [c] M3 (by simp; omega)
        have l1 : (l.take n ++ [c]).length ≤ n + 1 ∧ (l.take n ++ [c]).length ≤ l.length + 1 := by rw [List.length_append, tl]; simp; omega
        by_cases w3 : w = 3
        · have a2 := tAdd (l.take n ++ [c]) (l.drop (n + 1)) M3 (by omega)
          refine ⟨l.take n ++ [c] ++ l.drop (n + 1), t3, M3, ?_, cat _ _ (cat _ _ (hl.take n) lc (by simp; omega)) (hl.drop _) (by omega), by rw [List.length_append, List.length_append, tl, dl1]; simp; omega, by omega, p3⟩
          refine fn_rt rfl ?_
          show b__law_spoilt [some (.ref k), some (.str (S l)), none, none, none] M = _
          unfold b__law_spoilt
          rw [head]
          simp only [gFn, gSeq, gSkip, gRet, gRetN, gExpr, gSet, gIf, gAug, gAsg, gPar2, gPar3, gVar, gC, gBin, gUn, gTr, gAnd, gOr, gNot, gAndV, gOrV, gNotV, gIfE, gCall, G.gCons, G.gNil, G.gTup, G.gLst, gLstM, gSl, goSome, goNone, R.bind_ok, R.bind_ex, R.bind_no, R.bindS_ok, R.bindS_ex, R.bindS_no, outS_nx, outS_rt, outS_ex, orR_ok, orR_ex, orR_no, ggName, ggSub, List.getElem?_cons_zero, List.getElem?_cons_succ, List.set_cons_zero, List.set_cons_succ, List.map_cons, List.map_nil, List.length_cons, List.length_nil, List.replicate, List.append_nil, List.nil_append, List.cons_append, Nat.reduceAdd, Nat.reduceSub, Nat.reduceLeDiff, Nat.reduceLT, if_true, if_false, not_false_eq_true, Bool.false_eq_true, Bool.true_eq_false, Bool.not_true, Bool.not_false, decide_true, decide_false, decide_eq_true_eq, reduceIte, reduceCtorEq, eAdd, eAddI, eSub, eLt, eLe, eGt, eGe, eEq, eNe, eEqS, eNeS, eTru, eNeg, eAbs, eInt, eIntB, eLenL, eLenT, w0', w1', w2', decide_eq_true w3, sT, n1, sF1, a1, a2]
        · have a2 := tAdd (l.take n ++ [c]) (l.drop n) M3 (by omega)
          refine ⟨l.take n ++ [c] ++ l.drop n, t3, M3, ?_, cat _ _ (cat _ _ (hl.take n) lc (by simp; omega)) (hl.drop _) (by omega), by rw [List.length_append, List.length_append, tl, dl]; simp; omega, by omega, p3⟩
          have n0 : ((n : Nat) : Int) + 0 = (n : Nat) := by omega
          refine fn_rt rfl ?_
          show b__law_spoilt [some (.ref k), some (.str (S l)), none, none, none] M = _
          unfold b__law_spoilt
          rw [head]
          simp only [gFn, gSeq, gSkip, gRet, gRetN, gExpr, gSet, gIf, gAug, gAsg, gPar2, gPar3, gVar, gC, gBin, gUn, gTr, gAnd, gOr, gNot, gAndV, gOrV, gNotV, gIfE, gCall, G.gCons, G.gNil, G.gTup, G.gLst, gLstM, gSl, goSome, goNone, R.bind_ok, R.bind_ex, R.bind_no, R.bindS_ok, R.bindS_ex, R.bindS_no, outS_nx, outS_rt, outS_ex, orR_ok, orR_ex, orR_no, ggName, ggSub, List.getElem?_cons_zero, List.getElem?_cons_succ, List.set_cons_zero, List.set_cons_succ, List.map_cons, List.map_nil, List.length_cons, List.length_nil, List.replicate, List.append_nil, List.nil_append, List.cons_append, Nat.reduceAdd, Nat.reduceSub, Nat.reduceLeDiff, Nat.reduceLT, if_true, if_false, not_false_eq_true, Bool.false_eq_true, Bool.true_eq_false, Bool.not_true, Bool.not_false, decide_true, decide_false, decide_eq_true_eq, reduceIte, reduceCtorEq, eAdd, eAddI, eSub, eLt, eLe, eGt, eGe, eEq, eNe, eEqS, eNeS, eTru, eNeg, eAbs, eInt, eIntB, eLenL, eLenT, w0', w1', w2', w3, sT, n0, sF, a1, a2]
end K06

namespace K06
open PySem L2 G SX
/-! ### the law -/
def oddL : List D := [.non, .int 7, .bl true, .lst [.str "1"], .tup [.str "1"], .dct [] [], rat 1 1, .int 100000000000000000000000000000, .lst [], .bl false]
theorem odd_read {v : D} (h : v ∈ oddL) (M : Stor) : f_Ratio_read [.cls 5, v] M = .ex 3 (some [.int ((0 : Nat) : Int)]) M := by
  have e : fIsi isOk isTab [v, .ty "str"] M = .ok (.bl false) M := by
    simp only [oddL, List.mem_cons, List.not_mem_nil, or_false] at h
    rcases h with rfl | rfl | rfl | rfl | rfl | rfl | rfl | rfl | rfl | rfl <;> rfl
  simp only [f_Ratio_read, b_Ratio_read, gFn, gSeq, gSkip, gRet, gRetN, gExpr, gSet, gIf, gAug, gAsg, gPar2, gPar3, gVar, gC, gBin, gUn, gTr, gAnd, gOr, gNot, gAndV, gOrV, gNotV, gIfE, gCall, G.gCons, G.gNil, G.gTup, G.gLst, gLstM, gSl, goSome, goNone, R.bind_ok, R.bind_ex, R.bind_no, R.bindS_ok, R.bindS_ex, R.bindS_no, outS_nx, outS_rt, outS_ex, orR_ok, orR_ex, orR_no, ggName, ggSub, List.getElem?_cons_zero, List.getElem?_cons_succ, List.set_cons_zero, List.set_cons_succ, List.map_cons, List.map_nil, List.length_cons, List.length_nil, List.replicate, List.append_nil, List.nil_append, List.cons_append, Nat.reduceAdd, Nat.reduceSub, Nat.reduceLeDiff, Nat.reduceLT, if_true, if_false, not_false_eq_true, Bool.false_eq_true, Bool.true_eq_false, Bool.not_true, Bool.not_false, decide_true, decide_false, decide_eq_true_eq, reduceIte, reduceCtorEq, eAdd, eAddI, eSub, eLt, eLe, eGt, eGe, eEq, eNe, eEqS, eNeS, eTru, eNeg, eAbs, eInt, eIntB, eLenL, eLenT, e, gRaise1]
  rfl
theorem ne_badT (M : Stor) : dNe (badT 0) (.tup [.str "text", .int 0]) M = .ok (.bl false) M := by
  rw [ne_tup]
  exact neD_self (p := .tuple [.str "text", .int 0]) (by simp [topPy, toPy, toPyL]) (by simp [topPy, toPy, toPyL]) (by decide +kernel)
theorem lawR_str (s : String) (h : Lo (s.toList.map Char.toNat)) (M : Stor) : f__law_right [.str (Str.ofString s)] M = .ok (.bl true) M := by
  rw [strL]; exact lawR_ok h M
def lineL : List String := ["", "-", "0", "-0", "03", "3/", "2/0", "2/00", "0/7", "6/4", "endles", "endlessx", "3/4/", "+3", "1e"]
noncomputable abbrev againB : GS' := gSeq (gSet 5 (gVar 3))
    (gSeq (gFor (giRange1 (G.gCons (gBin dAdd (gC (.int 1)) (gCall f__law_draw (G.gCons (gVar 1) (G.gCons (gC (.int 2)) G.gNil)))) G.gNil)) (ggName 6) (gSet 5 (gCall f__law_spoilt (G.gCons (gVar 1) (G.gCons (gVar 5) G.gNil)))))
    (gIf (gNot (gTr truD (gCall f__law_right (G.gCons (gVar 5) G.gNil)))) (gRet (gC (.bl false))) gSkip))
theorem again_ok {k : Nat} {zs : List Int} {at_ : Nat} {M : Stor} {l : List Nat} (p : Pen M k zs at_) (ha : at_ ≤ 70000) (hl : Lo l) (hn : l.length ≤ 300) (x0 x2 x4 x5 x6 x7 x8 : Option D) :
    ∃ y5 y6 M' t, againB [x0, some (.ref k), x2, some (.str (S l)), x4, x5, x6, x7, x8] M = .nx [x0, some (.ref k), x2, some (.str (S l)), x4, y5, y6, x7, x8] M' ∧ Pen M' k zs t ∧ t ≤ at_ + 8 := by
  obtain ⟨r, t1, M1, e1, r0, r1, h1, p1, -⟩ := draw_ok (many := 2) p (by omega) (by decide) (by decide)
  obtain ⟨m, rfl⟩ : ∃ m : Nat, r = m := ⟨r.toNat, by omega⟩
  unfold againB
  rw [seq_nx (Γ1 := [x0, some (.ref k), x2, some (.str (S l)), x4, some (.str (S l)), x6, x7, x8]) (M1 := M) (by simp only [gFn, gSeq, gSkip, gRet, gRetN, gExpr, gSet, gIf, gAug, gAsg, gPar2, gPar3, gVar, gC, gBin, gUn, gTr, gAnd, gOr, gNot, gAndV, gOrV, gNotV, gIfE, gCall, G.gCons, G.gNil, G.gTup, G.gLst, gLstM, gSl, goSome, goNone, R.bind_ok, R.bind_ex, R.bind_no, R.bindS_ok, R.bindS_ex, R.bindS_no, outS_nx, outS_rt, outS_ex, orR_ok, orR_ex, orR_no, ggName, ggSub, List.getElem?_cons_zero, List.getElem?_cons_succ, List.set_cons_zero, List.set_cons_succ, List.map_cons, List.map_nil, List.length_cons, List.length_nil, List.replicate, List.append_nil, List.nil_append, List.cons_append, Nat.reduceAdd, Nat.reduceSub, Nat.reduceLeDiff, Nat.reduceLT, if_true, if_false, not_false_eq_true, Bool.false_eq_true, Bool.true_eq_false, Bool.not_true, Bool.not_false, decide_true, decide_false, decide_eq_true_eq, reduceIte, reduceCtorEq, eAdd, eAddI, eSub, eLt, eLe, eGt, eGe, eEq, eNe, eEqS, eNeS, eTru, eNeg, eAbs, eInt, eIntB, eLenL, eLenT])]
  refine for_range (P := fun r => ∃ y5 y6 M' t, r = .nx [x0, some (.ref k), x2, some (.str (S l)), x4, y5, y6, x7, x8] M' ∧ Pen M' k zs t ∧ t ≤ at_ + 8) (M1 := M1) (1 + m)
    (fun j Γ N => ∃ l' y6 t, Γ = [x0, some (.ref k), x2, some (.str (S l)), x4, some (.str (S l')), y6, x7, x8] ∧ Lo l' ∧ l'.length ≤ l.length + j ∧ Pen N k zs t ∧ t ≤ at_ + 1 + 3 * j) (by omega)
    (by simp only [gFn, gSeq, gSkip, gRet, gRetN, gExpr, gSet, gIf, gAug, gAsg, gPar2, gPar3, gVar, gC, gBin, gUn, gTr, gAnd, gOr, gNot, gAndV, gOrV, gNotV, gIfE, gCall, G.gCons, G.gNil, G.gTup, G.gLst, gLstM, gSl, goSome, goNone, R.bind_ok, R.bind_ex, R.bind_no, R.bindS_ok, R.bindS_ex, R.bindS_no, outS_nx, outS_rt, outS_ex, orR_ok, orR_ex, orR_no, ggName, ggSub, List.getElem?_cons_zero, List.getElem?_cons_succ, List.set_cons_zero, List.set_cons_succ, List.map_cons, List.map_nil, List.length_cons, List.length_nil, List.replicate, List.append_nil, List.nil_append, List.cons_append, Nat.reduceAdd, Nat.reduceSub, Nat.reduceLeDiff, Nat.reduceLT, if_true, if_false, not_false_eq_true, Bool.false_eq_true, Bool.true_eq_false, Bool.not_true, Bool.not_false, decide_true, decide_false, decide_eq_true_eq, reduceIte, reduceCtorEq, eAdd, eAddI, eSub, eLt, eLe, eGt, eGe, eEq, eNe, eEqS, eNeS, eTru, eNeg, eAbs, eInt, eIntB, eLenL, eLenT, e1]; rfl) ⟨l, x6, t1, rfl, hl, by omega, p1, by omega⟩ ?_ ?_
  · rintro j Γ N d hj ⟨l', y6, t, rfl, hl', hn', pn, ht⟩
    obtain ⟨l2, t2, N2, e2, hl2, hn2, ht2, p2⟩ := spoilt_ok pn (by omega) hl' (by omega)
    refine ⟨[x0, some (.ref k), x2, some (.str (S l)), x4, some (.str (S l')), some d, x7, x8], N, [x0, some (.ref k), x2, some (.str (S l)), x4, some (.str (S l2)), some d, x7, x8], N2, rfl, ?_, ⟨l2, some d, t2, rfl, hl2, by omega, p2, by omega⟩⟩
    simp only [gFn, gSeq, gSkip, gRet, gRetN, gExpr, gSet, gIf, gAug, gAsg, gPar2, gPar3, gVar, gC, gBin, gUn, gTr, gAnd, gOr, gNot, gAndV, gOrV, gNotV, gIfE, gCall, G.gCons, G.gNil, G.gTup, G.gLst, gLstM, gSl, goSome, goNone, R.bind_ok, R.bind_ex, R.bind_no, R.bindS_ok, R.bindS_ex, R.bindS_no, outS_nx, outS_rt, outS_ex, orR_ok, orR_ex, orR_no, ggName, ggSub, List.getElem?_cons_zero, List.getElem?_cons_succ, List.set_cons_zero, List.set_cons_succ, List.map_cons, List.map_nil, List.length_cons, List.length_nil, List.replicate, List.append_nil, List.nil_append, List.cons_append, Nat.reduceAdd, Nat.reduceSub, Nat.reduceLeDiff, Nat.reduceLT, if_true, if_false, not_false_eq_true, Bool.false_eq_true, Bool.true_eq_false, Bool.not_true, Bool.not_false, decide_true, decide_false, decide_eq_true_eq, reduceIte, reduceCtorEq, eAdd, eAddI, eSub, eLt, eLe, eGt, eGe, eEq, eNe, eEqS, eNeS, eTru, eNeg, eAbs, eInt, eIntB, eLenL, eLenT, e2]
  · rintro Γ N ⟨l', y6, t, rfl, hl', hn', pn, ht⟩
    have rt := lawR_ok hl' N
    refine ⟨some (.str (S l')), y6, N, t, ?_, pn, by omega⟩
    simp only [gFn, gSeq, gSkip, gRet, gRetN, gExpr, gSet, gIf, gAug, gAsg, gPar2, gPar3, gVar, gC, gBin, gUn, gTr, gAnd, gOr, gNot, gAndV, gOrV, gNotV, gIfE, gCall, G.gCons, G.gNil, G.gTup, G.gLst, gLstM, gSl, goSome, goNone, R.bind_ok, R.bind_ex, R.bind_no, R.bindS_ok, R.bindS_ex, R.bindS_no, outS_nx, outS_rt, outS_ex, orR_ok, orR_ex, orR_no, ggName, ggSub, List.getElem?_cons_zero, List.getElem?_cons_succ, List.set_cons_zero, List.set_cons_succ, List.map_cons, List.map_nil, List.length_cons, List.length_nil, List.replicate, List.append_nil, List.nil_append, List.cons_append, Nat.reduceAdd, Nat.reduceSub, Nat.reduceLeDiff, Nat.reduceLT, if_true, if_false, not_false_eq_true, Bool.false_eq_true, Bool.true_eq_false, Bool.not_true, Bool.not_false, decide_true, decide_false, decide_eq_true_eq, reduceIte, reduceCtorEq, eAdd, eAddI, eSub, eLt, eLe, eGt, eGe, eEq, eNe, eEqS, eNeS, eTru, eNeg, eAbs, eInt, eIntB, eLenL, eLenT, rt]
theorem law_ok (zs : List Int) (hz : zs.length ≤ 63) : ∃ M, f_law [.lck (zs.map D.int)] [] = .ok (.bl true) M := by
  obtain ⟨M1, k, e1, p1⟩ := pen_ok zs hz
  suffices ∃ M, b_law [some (.lck (zs.map D.int)), none, none, none, none, none, none, none, none] [] = .rt (.bl true) M by
    obtain ⟨M, h⟩ := this
    exact ⟨M, fn_rt rfl h⟩
  unfold b_law
  rw [seq_nx (Γ1 := [some (.lck (zs.map D.int)), some (.ref k), none, none, none, none, none, none, none]) (M1 := M1) (by simp only [gFn, gSeq, gSkip, gRet, gRetN, gExpr, gSet, gIf, gAug, gAsg, gPar2, gPar3, gVar, gC, gBin, gUn, gTr, gAnd, gOr, gNot, gAndV, gOrV, gNotV, gIfE, gCall, G.gCons, G.gNil, G.gTup, G.gLst, gLstM, gSl, goSome, goNone, R.bind_ok, R.bind_ex, R.bind_no, R.bindS_ok, R.bindS_ex, R.bindS_no, outS_nx, outS_rt, outS_ex, orR_ok, orR_ex, orR_no, ggName, ggSub, List.getElem?_cons_zero, List.getElem?_cons_succ, List.set_cons_zero, List.set_cons_succ, List.map_cons, List.map_nil, List.length_cons, List.length_nil, List.replicate, List.append_nil, List.nil_append, List.cons_append, Nat.reduceAdd, Nat.reduceSub, Nat.reduceLeDiff, Nat.reduceLT, if_true, if_false, not_false_eq_true, Bool.false_eq_true, Bool.true_eq_false, Bool.not_true, Bool.not_false, decide_true, decide_false, decide_eq_true_eq, reduceIte, reduceCtorEq, eAdd, eAddI, eSub, eLt, eLe, eGt, eGe, eEq, eNe, eEqS, eNeS, eTru, eNeg, eAbs, eInt, eIntB, eLenL, eLenT, e1])]
  refine for_range (P := fun r => ∃ M, r = .rt (.bl true) M) 12 (fun n Γ M => ∃ x2 x3 x4 x5 x6 x7 x8 at_, Γ = [some (.lck (zs.map D.int)), some (.ref k), x2, x3, x4, x5, x6, x7, x8] ∧ Pen M k zs at_ ∧ at_ ≤ 60 * n) (by decide) rfl ⟨_, _, _, _, _, _, _, 0, rfl, p1, by omega⟩ ?_ ?_
  · rintro j Γ M d hj ⟨x2, x3, x4, x5, x6, x7, x8, at_, rfl, pn, ha⟩
    generalize hs0 : D.lck (zs.map D.int) = s0
    obtain ⟨l, t1, M1, e1, hl, hn, hr, h1, p1⟩ := drawn_ok pn (by omega)
    have r1 := hr M1
    have r2 := lawR_ok hl M1
    suffices ∃ y4 y5 y6 y7 y8 M' t, Pen M' k zs t ∧ t ≤ at_ + 60 ∧ (gSeq (gSet 3 (gCall f__law_drawn_text (G.gCons (gVar 1) G.gNil))) _ : GS') [some s0, some (.ref k), some d, x3, x4, x5, x6, x7, x8] M = .nx [some s0, some (.ref k), some d, some (.str (S l)), y4, y5, y6, y7, y8] M' by
      obtain ⟨y4, y5, y6, y7, y8, M', t, pt, ht, e⟩ := this
      exact ⟨_, _, _, _, rfl, e, ⟨_, _, _, _, _, _, _, t, rfl, pt, by omega⟩⟩
    rw [seq_nx (Γ1 := [some s0, some (.ref k), some d, some (.str (S l)), x4, x5, x6, x7, x8]) (M1 := M1) (by simp only [gFn, gSeq, gSkip, gRet, gRetN, gExpr, gSet, gIf, gAug, gAsg, gPar2, gPar3, gVar, gC, gBin, gUn, gTr, gAnd, gOr, gNot, gAndV, gOrV, gNotV, gIfE, gCall, G.gCons, G.gNil, G.gTup, G.gLst, gLstM, gSl, goSome, goNone, R.bind_ok, R.bind_ex, R.bind_no, R.bindS_ok, R.bindS_ex, R.bindS_no, outS_nx, outS_rt, outS_ex, orR_ok, orR_ex, orR_no, ggName, ggSub, List.getElem?_cons_zero, List.getElem?_cons_succ, List.set_cons_zero, List.set_cons_succ, List.map_cons, List.map_nil, List.length_cons, List.length_nil, List.replicate, List.append_nil, List.nil_append, List.cons_append, Nat.reduceAdd, Nat.reduceSub, Nat.reduceLeDiff, Nat.reduceLT, if_true, if_false, not_false_eq_true, Bool.false_eq_true, Bool.true_eq_false, Bool.not_true, Bool.not_false, decide_true, decide_false, decide_eq_true_eq, reduceIte, reduceCtorEq, eAdd, eAddI, eSub, eLt, eLe, eGt, eGe, eEq, eNe, eEqS, eNeS, eTru, eNeg, eAbs, eInt, eIntB, eLenL, eLenT, e1])]
    rw [seq_nx (Γ1 := [some s0, some (.ref k), some d, some (.str (S l)), x4, x5, x6, x7, x8]) (M1 := M1) (by simp only [gFn, gSeq, gSkip, gRet, gRetN, gExpr, gSet, gIf, gAug, gAsg, gPar2, gPar3, gVar, gC, gBin, gUn, gTr, gAnd, gOr, gNot, gAndV, gOrV, gNotV, gIfE, gCall, G.gCons, G.gNil, G.gTup, G.gLst, gLstM, gSl, goSome, goNone, R.bind_ok, R.bind_ex, R.bind_no, R.bindS_ok, R.bindS_ex, R.bindS_no, outS_nx, outS_rt, outS_ex, orR_ok, orR_ex, orR_no, ggName, ggSub, List.getElem?_cons_zero, List.getElem?_cons_succ, List.set_cons_zero, List.set_cons_succ, List.map_cons, List.map_nil, List.length_cons, List.length_nil, List.replicate, List.append_nil, List.nil_append, List.cons_append, Nat.reduceAdd, Nat.reduceSub, Nat.reduceLeDiff, Nat.reduceLT, if_true, if_false, not_false_eq_true, Bool.false_eq_true, Bool.true_eq_false, Bool.not_true, Bool.not_false, decide_true, decide_false, decide_eq_true_eq, reduceIte, reduceCtorEq, eAdd, eAddI, eSub, eLt, eLe, eGt, eGe, eEq, eNe, eEqS, eNeS, eTru, eNeg, eAbs, eInt, eIntB, eLenL, eLenT, r1, r2])]
    refine for_range (P := fun r => ∃ y4 y5 y6 y7 y8 M' t, Pen M' k zs t ∧ t ≤ at_ + 60 ∧ r = .nx [some s0, some (.ref k), some d, some (.str (S l)), y4, y5, y6, y7, y8] M') 3
      (fun n Γ N => ∃ y4 y5 y6 t, Γ = [some s0, some (.ref k), some d, some (.str (S l)), y4, y5, y6, x7, x8] ∧ Pen N k zs t ∧ t ≤ t1 + 8 * n) (by decide) rfl ⟨_, _, _, t1, rfl, p1, by omega⟩ ?_ ?_
    · rintro i Γ N d' hi ⟨y4, y5, y6, t, rfl, pt, ht⟩
      obtain ⟨z5, z6, N', t', e, pt', ht'⟩ := again_ok pt (by omega) hl hn (some s0) (some d) (some d') y5 y6 x7 x8
      exact ⟨_, _, _, _, rfl, e, ⟨_, _, _, t', rfl, pt', by omega⟩⟩
    · rintro Γ N ⟨y4, y5, y6, t, rfl, pt, ht⟩
      obtain ⟨a, b, t2, N2, e2, f2, h2, p2⟩ := fraction_ok pt (by omega)
      obtain ⟨fa, fb, fb0⟩ := fx120 f2
      have md := made_ok f2.fr N2
      have st := str_ok (up120 fa) (up120 fb) fb0 N2
      have rd := read_txt (up120 fa) (up120 fb) fb0 f2.2.2.2 N2
      have tx := text_ok (up120 fa) (up120 fb) fb0 N2
      have ne : orR (dNe (.str (S (txt a b))) (.str (S (txt a b))) N2) (cmpO 5 isOk nfTab (fun l N => notB (f_Ratio___eq__ l N)) (.str (S (txt a b))) (.str (S (txt a b))) N2) = .ok (.bl false) N2 := by
        rw [tNe, decide_eq_true rfl]; rfl
      have m1 := make1_ok 1 N2
      rw [show mkR 1 1 = rat 1 1 by unfold mkR; rw [lowP_cop1]] at m1
      have q2 : powOk 10 29 = true := by decide
      have q4 : (10 : Int) ^ (29 : Int).toNat = 100000000000000000000000000000 := by decide
      obtain ⟨v, t3, N3, e3, mv, h3, p3⟩ := pick_ok (l := oddL) p2 (by omega) (by decide) (by decide)
      have od := odd_read mv N3
      unfold oddL at e3
      have lb := lam_bad (g := gCall (fun ds M => f_Ratio_read (.cls 5 :: ds) M) (G.gCons (gVar 8) G.gNil)) (Γ := [some s0, some (.ref k), some d, some (.str (S l)), y4, y5, y6, some (pairD a b), some v]) (M := N3) (k := 0) (by simp only [gFn, gSeq, gSkip, gRet, gRetN, gExpr, gSet, gIf, gAug, gAsg, gPar2, gPar3, gVar, gC, gBin, gUn, gTr, gAnd, gOr, gNot, gAndV, gOrV, gNotV, gIfE, gCall, G.gCons, G.gNil, G.gTup, G.gLst, gLstM, gSl, goSome, goNone, R.bind_ok, R.bind_ex, R.bind_no, R.bindS_ok, R.bindS_ex, R.bindS_no, outS_nx, outS_rt, outS_ex, orR_ok, orR_ex, orR_no, ggName, ggSub, List.getElem?_cons_zero, List.getElem?_cons_succ, List.set_cons_zero, List.set_cons_succ, List.map_cons, List.map_nil, List.length_cons, List.length_nil, List.replicate, List.append_nil, List.nil_append, List.cons_append, Nat.reduceAdd, Nat.reduceSub, Nat.reduceLeDiff, Nat.reduceLT, if_true, if_false, not_false_eq_true, Bool.false_eq_true, Bool.true_eq_false, Bool.not_true, Bool.not_false, decide_true, decide_false, decide_eq_true_eq, reduceIte, reduceCtorEq, eAdd, eAddI, eSub, eLt, eLe, eGt, eGe, eEq, eNe, eEqS, eNeS, eTru, eNeg, eAbs, eInt, eIntB, eLenL, eLenT]; exact od)
      have nb := ne_badT N3
      refine ⟨y4, y5, y6, some (pairD a b), some v, N3, t3, p3, by omega, ?_⟩
      rw [seq_nx (Γ1 := [some s0, some (.ref k), some d, some (.str (S l)), y4, y5, y6, some (pairD a b), x8]) (M1 := N2) (by simp only [gFn, gSeq, gSkip, gRet, gRetN, gExpr, gSet, gIf, gAug, gAsg, gPar2, gPar3, gVar, gC, gBin, gUn, gTr, gAnd, gOr, gNot, gAndV, gOrV, gNotV, gIfE, gCall, G.gCons, G.gNil, G.gTup, G.gLst, gLstM, gSl, goSome, goNone, R.bind_ok, R.bind_ex, R.bind_no, R.bindS_ok, R.bindS_ex, R.bindS_no, outS_nx, outS_rt, outS_ex, orR_ok, orR_ex, orR_no, ggName, ggSub, List.getElem?_cons_zero, List.getElem?_cons_succ, List.set_cons_zero, List.set_cons_succ, List.map_cons, List.map_nil, List.length_cons, List.length_nil, List.replicate, List.append_nil, List.nil_append, List.cons_append, Nat.reduceAdd, Nat.reduceSub, Nat.reduceLeDiff, Nat.reduceLT, if_true, if_false, not_false_eq_true, Bool.false_eq_true, Bool.true_eq_false, Bool.not_true, Bool.not_false, decide_true, decide_false, decide_eq_true_eq, reduceIte, reduceCtorEq, eAdd, eAddI, eSub, eLt, eLe, eGt, eGe, eEq, eNe, eEqS, eNeS, eTru, eNeg, eAbs, eInt, eIntB, eLenL, eLenT, e2])]
      rw [seq_nx (Γ1 := [some s0, some (.ref k), some d, some (.str (S l)), y4, y5, y6, some (pairD a b), x8]) (M1 := N2) (by simp only [gFn, gSeq, gSkip, gRet, gRetN, gExpr, gSet, gIf, gAug, gAsg, gPar2, gPar3, gVar, gC, gBin, gUn, gTr, gAnd, gOr, gNot, gAndV, gOrV, gNotV, gIfE, gCall, G.gCons, G.gNil, G.gTup, G.gLst, gLstM, gSl, goSome, goNone, R.bind_ok, R.bind_ex, R.bind_no, R.bindS_ok, R.bindS_ex, R.bindS_no, outS_nx, outS_rt, outS_ex, orR_ok, orR_ex, orR_no, ggName, ggSub, List.getElem?_cons_zero, List.getElem?_cons_succ, List.set_cons_zero, List.set_cons_succ, List.map_cons, List.map_nil, List.length_cons, List.length_nil, List.replicate, List.append_nil, List.nil_append, List.cons_append, Nat.reduceAdd, Nat.reduceSub, Nat.reduceLeDiff, Nat.reduceLT, if_true, if_false, not_false_eq_true, Bool.false_eq_true, Bool.true_eq_false, Bool.not_true, Bool.not_false, decide_true, decide_false, decide_eq_true_eq, reduceIte, reduceCtorEq, eAdd, eAddI, eSub, eLt, eLe, eGt, eGe, eEq, eNe, eEqS, eNeS, eTru, eNeg, eAbs, eInt, eIntB, eLenL, eLenT, md, st, rd, tx, ne])]
      rw [seq_nx (Γ1 := [some s0, some (.ref k), some d, some (.str (S l)), y4, y5, y6, some (pairD a b), some v]) (M1 := N3) (by simp only [gFn, gSeq, gSkip, gRet, gRetN, gExpr, gSet, gIf, gAug, gAsg, gPar2, gPar3, gVar, gC, gBin, gUn, gTr, gAnd, gOr, gNot, gAndV, gOrV, gNotV, gIfE, gCall, G.gCons, G.gNil, G.gTup, G.gLst, gLstM, gSl, goSome, goNone, R.bind_ok, R.bind_ex, R.bind_no, R.bindS_ok, R.bindS_ex, R.bindS_no, outS_nx, outS_rt, outS_ex, orR_ok, orR_ex, orR_no, ggName, ggSub, List.getElem?_cons_zero, List.getElem?_cons_succ, List.set_cons_zero, List.set_cons_succ, List.map_cons, List.map_nil, List.length_cons, List.length_nil, List.replicate, List.append_nil, List.nil_append, List.cons_append, Nat.reduceAdd, Nat.reduceSub, Nat.reduceLeDiff, Nat.reduceLT, if_true, if_false, not_false_eq_true, Bool.false_eq_true, Bool.true_eq_false, Bool.not_true, Bool.not_false, decide_true, decide_false, decide_eq_true_eq, reduceIte, reduceCtorEq, eAdd, eAddI, eSub, eLt, eLe, eGt, eGe, eEq, eNe, eEqS, eNeS, eTru, eNeg, eAbs, eInt, eIntB, eLenL, eLenT, m1, ePow q2, q4, e3])]
      simp only [gIf, gTr, gBin, lb, gFn, gSeq, gSkip, gRet, gRetN, gExpr, gSet, gIf, gAug, gAsg, gPar2, gPar3, gVar, gC, gBin, gUn, gTr, gAnd, gOr, gNot, gAndV, gOrV, gNotV, gIfE, gCall, G.gCons, G.gNil, G.gTup, G.gLst, gLstM, gSl, goSome, goNone, R.bind_ok, R.bind_ex, R.bind_no, R.bindS_ok, R.bindS_ex, R.bindS_no, outS_nx, outS_rt, outS_ex, orR_ok, orR_ex, orR_no, ggName, ggSub, List.getElem?_cons_zero, List.getElem?_cons_succ, List.set_cons_zero, List.set_cons_succ, List.map_cons, List.map_nil, List.length_cons, List.length_nil, List.replicate, List.append_nil, List.nil_append, List.cons_append, Nat.reduceAdd, Nat.reduceSub, Nat.reduceLeDiff, Nat.reduceLT, if_true, if_false, not_false_eq_true, Bool.false_eq_true, Bool.true_eq_false, Bool.not_true, Bool.not_false, decide_true, decide_false, decide_eq_true_eq, reduceIte, reduceCtorEq, eAdd, eAddI, eSub, eLt, eLe, eGt, eGe, eEq, eNe, eEqS, eNeS, eTru, eNeg, eAbs, eInt, eIntB, eLenL, eLenT, nb]
  · rintro Γ M ⟨x2, x3, x4, x5, x6, x7, x8, at_, rfl, pn, ha⟩
    have RR : ∀ s ∈ lineL, f__law_right [.str (Str.ofString s)] M = .ok (.bl true) M := by
      intro s hs
      have z : ∀ s ∈ lineL, (∀ c ∈ s.toList.map Char.toNat, c < 128) ∧ (s.toList.map Char.toNat).length ≤ 600 := by decide
      exact lawR_str s ⟨(z s hs).1, (z s hs).2⟩ M
    obtain ⟨Γ', M', e, ⟨rfl, y3, rfl⟩⟩ := loop_inv (tg := ggName 3) (b := gIf (gNot (gTr truD (gCall f__law_right (G.gCons (gVar 3) G.gNil)))) (gRet (gC (.bl false))) gSkip)
      (fun n Γ N => N = M ∧ ∃ y3, Γ = [some (.lck (zs.map D.int)), some (.ref k), x2, y3, x4, x5, x6, x7, x8]) (lineL.map fun s => D.str (Str.ofString s)) 0 _ M ⟨rfl, x3, rfl⟩ (by
        rintro j Γ N d _ hd ⟨rfl, y3, rfl⟩
        obtain ⟨s, hs, rfl⟩ := List.mem_map.mp hd
        have r := RR s hs
        exact ⟨[some (.lck (zs.map D.int)), some (.ref k), x2, some (.str (Str.ofString s)), x4, x5, x6, x7, x8], N, [some (.lck (zs.map D.int)), some (.ref k), x2, some (.str (Str.ofString s)), x4, x5, x6, x7, x8], N, rfl, by simp only [gFn, gSeq, gSkip, gRet, gRetN, gExpr, gSet, gIf, gAug, gAsg, gPar2, gPar3, gVar, gC, gBin, gUn, gTr, gAnd, gOr, gNot, gAndV, gOrV, gNotV, gIfE, gCall, G.gCons, G.gNil, G.gTup, G.gLst, gLstM, gSl, goSome, goNone, R.bind_ok, R.bind_ex, R.bind_no, R.bindS_ok, R.bindS_ex, R.bindS_no, outS_nx, outS_rt, outS_ex, orR_ok, orR_ex, orR_no, ggName, ggSub, List.getElem?_cons_zero, List.getElem?_cons_succ, List.set_cons_zero, List.set_cons_succ, List.map_cons, List.map_nil, List.length_cons, List.length_nil, List.replicate, List.append_nil, List.nil_append, List.cons_append, Nat.reduceAdd, Nat.reduceSub, Nat.reduceLeDiff, Nat.reduceLT, if_true, if_false, not_false_eq_true, Bool.false_eq_true, Bool.true_eq_false, Bool.not_true, Bool.not_false, decide_true, decide_false, decide_eq_true_eq, reduceIte, reduceCtorEq, eAdd, eAddI, eSub, eLt, eLe, eGt, eGe, eEq, eNe, eEqS, eNeS, eTru, eNeg, eAbs, eInt, eIntB, eLenL, eLenT, r], rfl, _, rfl⟩)
    have r1 := lawR_str "endless" ⟨by decide, by decide⟩ M'
    have r2 := lawR_str " 3" ⟨by decide, by decide⟩ M'
    have r3 := lawR_str "3 " ⟨by decide, by decide⟩ M'
    refine ⟨M', ?_⟩
    rw [seq_nx (Γ1 := [some (.lck (zs.map D.int)), some (.ref k), x2, y3, x4, x5, x6, x7, x8]) (M1 := M') (by
      rw [for_seq]
      rw [show G.gTup _ _ M' = .ok (.tup (lineL.map fun s => D.str (Str.ofString s))) M' from rfl]
      rw [R.bindS_ok, forX_tup]
      exact e)]
    simp only [gFn, gSeq, gSkip, gRet, gRetN, gExpr, gSet, gIf, gAug, gAsg, gPar2, gPar3, gVar, gC, gBin, gUn, gTr, gAnd, gOr, gNot, gAndV, gOrV, gNotV, gIfE, gCall, G.gCons, G.gNil, G.gTup, G.gLst, gLstM, gSl, goSome, goNone, R.bind_ok, R.bind_ex, R.bind_no, R.bindS_ok, R.bindS_ex, R.bindS_no, outS_nx, outS_rt, outS_ex, orR_ok, orR_ex, orR_no, ggName, ggSub, List.getElem?_cons_zero, List.getElem?_cons_succ, List.set_cons_zero, List.set_cons_succ, List.map_cons, List.map_nil, List.length_cons, List.length_nil, List.replicate, List.append_nil, List.nil_append, List.cons_append, Nat.reduceAdd, Nat.reduceSub, Nat.reduceLeDiff, Nat.reduceLT, if_true, if_false, not_false_eq_true, Bool.false_eq_true, Bool.true_eq_false, Bool.not_true, Bool.not_false, decide_true, decide_false, decide_eq_true_eq, reduceIte, reduceCtorEq, eAdd, eAddI, eSub, eLt, eLe, eGt, eGe, eEq, eNe, eEqS, eNeS, eTru, eNeg, eAbs, eInt, eIntB, eLenL, eLenT, r1, r2, r3]
theorem holds : PySem.Challenge.rw_sixasone_k06_texts_of_ratios.Holds := whole law_ok
end K06

theorem PySem.Challenge.cw_sixasone_k06_texts_of_ratios_holds : PySem.Challenge.rw_sixasone_k06_texts_of_ratios.Holds := by
  exact K06.holds
