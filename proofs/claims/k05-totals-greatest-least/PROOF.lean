import PyProof.Rows.All
import Wide.All
import OpenK.AllK
import Wide.FinOn
import KE.KStateDown
import KE.KOpsOwn
import HandS.ForMost
import HandS.Exc
import HandS.WordsExc
import HandS.CallSlots
import HandS.Defaults
import HandS.Wide
import HandS.Lambda
import HandS.TupAny
import HandS.TupMul
import HandS.IsInst
import PyProof.ReprRoads
import HandS.RaiseMore
import HandS.Style
import HandS.HeadEnd
import HandS.Head2
import HandS.HeadHook1
import HandS.HeadHook2
import HandS.HeadNt
import HandS.ExcOwn
import HandS.ExcInit
import PyProof.ExcBaseAll.ValueError
import HandS.EndTab
import HandS.ExcIs
import HandS.Deep
import HandS.SetFor
import HandS.New0
import HandS.ExcValue
import HandS.ExcField
import HandS.MakeKw
import KE.KCallOwn
import KE.KFmtOwn
import HandS.Property
import HandS.FStr
import HandS.More
import HandS.Zip
import PyProof.RowDictHeap
import HandS.ClsMeth
import HandS.Text
import HandS.OwnEq
import HandS.NoneIn
import HandS.Codes
import KE.KIntText
import PyProof.ReprHeads
import PyProof.StrHeap
import KE.GoesMore
import KE.GoesEnum
import PyProof.StrLawsRepr
import PySem.Challenge.RW_sixasone_k05_totals_greatest_least
set_option Elab.async false
set_option linter.all false
set_option maxRecDepth 100000
set_option maxHeartbeats 4000000
set_option exponentiation.threshold 100000
/-! G: a shallow layer over the hand layer. Every piece of Python gets a plain Lean function over data (D) and a store of changeable objects. -/
namespace G
open PySem PySem.Spec PyProof.Rows L2

abbrev Sg := L2.St
/-- data: what never changes is written out, what may change is a number into the store -/
inductive D where
  | non | bl (b : Bool) | int (i : Int) | str (x : Str) | ty (n : String)
  | tup (l : List D) | lst (l : List D) | lck (l : List D) | dct (ks : List Key) (l : List D)
  | ins (c : Nat) (l : List D)
  | ref (k : Nat)
  | cls (c : Nat)
  | exc (c : Nat) (own : Bool) (l : List D)
  | lam (f c : Addr) (q : Str) (vs : List V) (l : List D)
  deriving Inhabited
/-- a changeable object -/
inductive MO where
  | lst (l : List D)
  | ins (c : Nat) (l : List D)
  | dct (ks : List Key) (l : List D)
  | dead
  deriving Inhabited
abbrev Stor := List MO
abbrev Gam := List (Option D)
abbrev Flds := Option (List D)
inductive R (α : Type) where
  | ok (a : α) (M : Stor)
  | ex (c : Nat) (fs : Flds) (M : Stor)
  | no
inductive RS where
  | nx (g : Gam) (M : Stor)
  | rt (d : D) (M : Stor)
  | bk (g : Gam) (M : Stor)
  | ct (g : Gam) (M : Stor)
  | ex (c : Nat) (fs : Flds) (g : Gam) (M : Stor)
  | no
def R.bind {α β : Type} (r : R α) (k : α → Stor → R β) : R β :=
  match r with
  | .ok a M => k a M
  | .ex c fs M => .ex c fs M
  | .no => .no
@[simp] theorem R.bind_ok {α β : Type} (a : α) (M : Stor) (k : α → Stor → R β) : (R.ok a M).bind k = k a M := rfl
@[simp] theorem R.bind_ex {α β : Type} (c : Nat) (fs : Flds) (M : Stor) (k : α → Stor → R β) : (R.ex c fs M : R α).bind k = .ex c fs M := rfl
@[simp] theorem R.bind_no {α β : Type} (k : α → Stor → R β) : (R.no : R α).bind k = .no := rfl
/-- a statement made of an expression -/
def R.bindS {α : Type} (r : R α) (g : Gam) (k : α → Stor → RS) : RS :=
  match r with
  | .ok a M => k a M
  | .ex c fs M => .ex c fs g M
  | .no => .no
@[simp] theorem R.bindS_ok {α : Type} (a : α) (M : Stor) (g : Gam) (k : α → Stor → RS) : (R.ok a M).bindS g k = k a M := rfl
@[simp] theorem R.bindS_ex {α : Type} (c : Nat) (fs : Flds) (M : Stor) (g : Gam) (k : α → Stor → RS) : (R.ex c fs M : R α).bindS g k = .ex c fs g M := rfl
@[simp] theorem R.bindS_no {α : Type} (g : Gam) (k : α → Stor → RS) : (R.no : R α).bindS g k = .no := rfl

/-- where things stand: the written part, the classes by number, their fields -/
structure Wd where
  K : PySem.W.Frag
  T : Nat → Addr
  fn : Nat → List Str
  tb : List (Addr × Str)
/-- a caught error's object -/
def ExcO (a : Addr) (cls : Value) (d : Option Addr) : HO := .ext fun h => ∃ (o : Obj) (vs : Array Value), h.get? a = some o ∧ o.cls = cls ∧ o.dict = d ∧ o.data = .fields vs
/-- objects that stand aside, untouched -/
abbrev Xi := List (Addr × HO)

mutual
def Is (W : Wd) (F : Hp) (ρ : List Addr) : D → V → Prop
  | .non, v => v = .non
  | .bl b, v => v = .bl b
  | .int i, v => v = .int i
  | .str x, v => v = .str x
  | .ty n, v => v = .ty n
  | .tup l, v => ∃ a vs, v = .ref a ∧ SqT W.K F a vs ∧ IsL W F ρ l vs
  | .lst l, v => ∃ a vs, v = .ref a ∧ F a = some (.lst vs) ∧ IsL W F ρ l vs
  | .lck l, v => ∃ a vs, v = .ref a ∧ SqL W.K F a vs ∧ IsL W F ρ l vs
  | .dct ks l, v => ∃ a vs, v = .ref a ∧ F a = some (.dK (ks.zip vs)) ∧ ks.length = l.length ∧ IsL W F ρ l vs
  | .ins c l, v => ∃ a dx fvs, v = .ref a ∧ F a = some (.ins (W.T c) dx fvs) ∧ fvs.map (·.1) = (W.fn c).take l.length ∧ IsL W F ρ l (fvs.map (·.2))
  | .cls c, v => v = .ref (W.T c)
  | .ref k, v => ∃ a, v = .ref a ∧ ρ[k]? = some a
  | .exc c own l, v => ∃ a d, v = .ref a ∧ F a = some (ExcO a (.ref (W.T c)) d) ∧ (own = false → d = none ∧ l = []) ∧ (own = true → ∃ x fvs, d = some x ∧ F x = some (.xd fvs) ∧ fvs.map (·.1) = (W.fn c).take l.length ∧ IsL W F ρ l (fvs.map (·.2)))
  | .lam f c q us l, v => v = .ref f ∧ F c = some (LamX.CodeO c q) ∧ IsL W F ρ l us
def IsL (W : Wd) (F : Hp) (ρ : List Addr) : List D → List V → Prop
  | [], vs => vs = []
  | d :: ds, vs => ∃ v r, vs = v :: r ∧ Is W F ρ d v ∧ IsL W F ρ ds r
end

def Le (F F' : Hp) : Prop := ∀ a o, F a = some o → F' a = some o
theorem Le.rfl' {F : Hp} : Le F F := fun _ _ h => h
theorem Le.tr {F F1 F2 : Hp} (a : Le F F1) (b : Le F1 F2) : Le F F2 := fun x o h => b x o (a x o h)
theorem Le.new {F : Hp} {p : Addr} {o : HO} (h : F p = none) : Le F (upd F p o) := fun a u e => by
  rw [upd_ne (ne_of_none e h)]; exact e
theorem Le.sqT {K : PySem.W.Frag} {F F' : Hp} {a : Addr} {xs : List V} (e : Le F F') (h : SqT K F a xs) : SqT K F' a xs := by
  rcases h with (h | ⟨o, h⟩) | h
  · exact .inl (.inl (e _ _ h))
  · exact .inl (.inr ⟨o, e _ _ h⟩)
  · exact .inr h
theorem Le.sqL {K : PySem.W.Frag} {F F' : Hp} {a : Addr} {xs : List V} (e : Le F F') (h : SqL K F a xs) : SqL K F' a xs := by
  rcases h with (h | ⟨o, h⟩) | h
  · exact .inl (.inl (e _ _ h))
  · exact .inl (.inr ⟨o, e _ _ h⟩)
  · exact .inr h

theorem pre_get {ρ ρ' : List Addr} (p : ρ <+: ρ') {k : Nat} {a : Addr} (h : ρ[k]? = some a) : ρ'[k]? = some a := by
  obtain ⟨t, rfl⟩ := p
  have hk : k < ρ.length := (List.getElem?_eq_some_iff.mp h).1
  rw [List.getElem?_append_left hk]; exact h

mutual
theorem Is.mono {W : Wd} {F F' : Hp} {ρ ρ' : List Addr} (e : Le F F') (p : ρ <+: ρ') : ∀ {d : D} {v : V}, Is W F ρ d v → Is W F' ρ' d v
  | .non, _, h => by simpa only [Is] using h
  | .bl _, _, h => by simpa only [Is] using h
  | .int _, _, h => by simpa only [Is] using h
  | .str _, _, h => by simpa only [Is] using h
  | .ty _, _, h => by simpa only [Is] using h
  | .tup l, _, h => by
    simp only [Is] at h ⊢
    obtain ⟨a, vs, e1, q, hl⟩ := h
    exact ⟨a, vs, e1, e.sqT q, IsL.mono e p hl⟩
  | .lst l, _, h => by
    simp only [Is] at h ⊢
    obtain ⟨a, vs, e1, q, hl⟩ := h
    exact ⟨a, vs, e1, e _ _ q, IsL.mono e p hl⟩
  | .lck l, _, h => by
    simp only [Is] at h ⊢
    obtain ⟨a, vs, e1, q, hl⟩ := h
    exact ⟨a, vs, e1, e.sqL q, IsL.mono e p hl⟩
  | .dct ks l, _, h => by
    simp only [Is] at h ⊢
    obtain ⟨a, vs, e1, q, n, hl⟩ := h
    exact ⟨a, vs, e1, e _ _ q, n, IsL.mono e p hl⟩
  | .cls _, _, h => by simpa only [Is] using h
  | .ins c l, _, h => by
    simp only [Is] at h ⊢
    obtain ⟨a, dx, fvs, e1, q, n, hl⟩ := h
    exact ⟨a, dx, fvs, e1, e _ _ q, n, IsL.mono e p hl⟩
  | .ref k, _, h => by
    simp only [Is] at h ⊢
    obtain ⟨a, e1, q⟩ := h
    exact ⟨a, e1, pre_get p q⟩
  | .exc c own l, _, h => by
    simp only [Is] at h ⊢
    obtain ⟨a, d, e1, q, n0, n1⟩ := h
    refine ⟨a, d, e1, e _ _ q, n0, fun z => ?_⟩
    obtain ⟨x, fvs, ex, fx, n, hl⟩ := n1 z
    exact ⟨x, fvs, ex, e _ _ fx, n, IsL.mono e p hl⟩
  | .lam f c q us l, _, h => by
    simp only [Is] at h ⊢
    exact ⟨h.1, e _ _ h.2.1, IsL.mono e p h.2.2⟩
theorem IsL.mono {W : Wd} {F F' : Hp} {ρ ρ' : List Addr} (e : Le F F') (p : ρ <+: ρ') : ∀ {ds : List D} {vs : List V}, IsL W F ρ ds vs → IsL W F' ρ' ds vs
  | [], _, h => by simpa only [IsL] using h
  | d :: ds, _, h => by
    simp only [IsL] at h ⊢
    obtain ⟨v, r, e1, h1, h2⟩ := h
    exact ⟨v, r, e1, Is.mono e p h1, IsL.mono e p h2⟩
end
section
variable {W : Wd} {F : Hp} {ρ : List Addr}
theorem IsL.nil_iff {vs : List V} : IsL W F ρ [] vs ↔ vs = [] := by simp only [IsL]
theorem IsL.cons_iff {d : D} {ds : List D} {vs : List V} : IsL W F ρ (d :: ds) vs ↔ ∃ v r, vs = v :: r ∧ Is W F ρ d v ∧ IsL W F ρ ds r := by simp only [IsL]
theorem IsL.nil : IsL W F ρ [] [] := by simp only [IsL]
theorem IsL.cons {d : D} {ds : List D} {v : V} {vs : List V} (h : Is W F ρ d v) (t : IsL W F ρ ds vs) : IsL W F ρ (d :: ds) (v :: vs) := by
  simp only [IsL]; exact ⟨v, vs, rfl, h, t⟩
theorem IsL.len : ∀ {ds : List D} {vs : List V}, IsL W F ρ ds vs → vs.length = ds.length
  | [], _, h => by rw [IsL.nil_iff] at h; subst h; rfl
  | d :: ds, _, h => by
    obtain ⟨v, r, rfl, _, t⟩ := IsL.cons_iff.mp h
    simp [IsL.len t]
theorem IsL.get : ∀ {ds : List D} {vs : List V} {i : Nat} {d : D}, IsL W F ρ ds vs → ds[i]? = some d → ∃ v, vs[i]? = some v ∧ Is W F ρ d v
  | [], _, _, _, _, e => by simp at e
  | x :: ds, _, 0, d, h, e => by
    obtain ⟨v, r, rfl, h1, _⟩ := IsL.cons_iff.mp h
    simp at e; subst e; exact ⟨v, rfl, h1⟩
  | x :: ds, _, i + 1, d, h, e => by
    obtain ⟨v, r, rfl, _, t⟩ := IsL.cons_iff.mp h
    simp at e
    obtain ⟨u, e1, e2⟩ := IsL.get (i := i) t e
    exact ⟨u, by simpa using e1, e2⟩
theorem IsL.getV {ds : List D} {vs : List V} {i : Nat} {v : V} (h : IsL W F ρ ds vs) (e : vs[i]? = some v) : ∃ d, ds[i]? = some d ∧ Is W F ρ d v := by
  have hi : i < vs.length := (List.getElem?_eq_some_iff.mp e).1
  have hd : i < ds.length := by rw [← h.len]; exact hi
  obtain ⟨v', e1, h1⟩ := h.get (List.getElem?_eq_getElem hd)
  rw [e] at e1; cases e1
  exact ⟨_, List.getElem?_eq_getElem hd, h1⟩
theorem IsL.append : ∀ {ds es : List D} {vs us : List V}, IsL W F ρ ds vs → IsL W F ρ es us → IsL W F ρ (ds ++ es) (vs ++ us)
  | [], _, _, _, h, k => by rw [IsL.nil_iff] at h; subst h; exact k
  | d :: ds, _, _, _, h, k => by
    obtain ⟨v, r, rfl, h1, t⟩ := IsL.cons_iff.mp h
    exact IsL.cons h1 (IsL.append t k)
theorem IsL.set : ∀ {ds : List D} {vs : List V} {d : D} {v : V} (i : Nat), IsL W F ρ ds vs → Is W F ρ d v → IsL W F ρ (ds.set i d) (vs.set i v)
  | [], _, _, _, _, h, _ => by rw [IsL.nil_iff] at h; subst h; exact IsL.nil
  | x :: ds, _, _, _, 0, h, k => by
    obtain ⟨u, r, rfl, _, t⟩ := IsL.cons_iff.mp h
    exact IsL.cons k t
  | x :: ds, _, _, _, i + 1, h, k => by
    obtain ⟨u, r, rfl, h1, t⟩ := IsL.cons_iff.mp h
    exact IsL.cons h1 (IsL.set i t k)
theorem IsL.take : ∀ {ds : List D} {vs : List V} (n : Nat), IsL W F ρ ds vs → IsL W F ρ (ds.take n) (vs.take n)
  | [], _, n, h => by rw [IsL.nil_iff] at h; subst h; simp [IsL.nil]
  | x :: ds, _, 0, h => by simp [IsL.nil]
  | x :: ds, _, n + 1, h => by
    obtain ⟨u, r, rfl, h1, t⟩ := IsL.cons_iff.mp h
    exact IsL.cons h1 (IsL.take n t)
theorem IsL.drop : ∀ {ds : List D} {vs : List V} (n : Nat), IsL W F ρ ds vs → IsL W F ρ (ds.drop n) (vs.drop n)
  | [], _, n, h => by rw [IsL.nil_iff] at h; subst h; simp [IsL.nil]
  | x :: ds, _, 0, h => h
  | x :: ds, _, n + 1, h => by
    obtain ⟨u, r, rfl, h1, t⟩ := IsL.cons_iff.mp h
    exact IsL.drop n t
theorem isL_ints : ∀ (ns : List Int), IsL W F ρ (ns.map D.int) (ns.map V.int)
  | [] => IsL.nil
  | n :: ns => IsL.cons (by simp only [Is]) (isL_ints ns)
end

/-- the names' values -/
structure En (W : Wd) (Γ : Gam) (σ : Sg) (F : Hp) (ρ : List Addr) : Prop where
  len : Γ.length = σ.length
  at_ : ∀ (i : Nat) (d : D), Γ[i]? = some (some d) → ∃ v, σ[i]? = some (some v) ∧ Is W F ρ d v
theorem En.mono {W : Wd} {Γ : Gam} {σ : Sg} {F F' : Hp} {ρ ρ' : List Addr} (h : En W Γ σ F ρ) (e : Le F F') (p : ρ <+: ρ') : En W Γ σ F' ρ' :=
  ⟨h.len, fun i d q => let ⟨v, a, b⟩ := h.at_ i d q; ⟨v, a, b.mono e p⟩⟩
theorem En.set {W : Wd} {Γ : Gam} {σ : Sg} {F : Hp} {ρ : List Addr} (h : En W Γ σ F ρ) {i : Nat} {d : D} {v : V} (k : Is W F ρ d v) : En W (Γ.set i (some d)) (σ.set i (some v)) F ρ := by
  refine ⟨by simp [h.len], fun j e q => ?_⟩
  by_cases hj : i = j
  · subst hj
    have hi : i < Γ.length := by
      have := (List.getElem?_eq_some_iff.mp q).1
      simpa using this
    rw [List.getElem?_set_self hi] at q
    cases q
    exact ⟨v, by rw [List.getElem?_set_self (by rw [← h.len]; exact hi)], k⟩
  · rw [List.getElem?_set_ne hj] at q ⊢
    exact h.at_ j e q
theorem En.wipe {W : Wd} {Γ : Gam} {σ : Sg} {F : Hp} {ρ : List Addr} (h : En W Γ σ F ρ) {i : Nat} {o : Option V} : En W (Γ.set i none) (σ.set i o) F ρ := by
  refine ⟨by simp [h.len], fun j e q => ?_⟩
  by_cases hj : i = j
  · subst hj
    have hi : i < Γ.length := by
      have := (List.getElem?_eq_some_iff.mp q).1
      simpa using this
    rw [List.getElem?_set_self hi] at q
    cases q
  · rw [List.getElem?_set_ne hj] at q ⊢
    exact h.at_ j e q

theorem nd_ix {α : Type} {l : List α} (hl : l.Nodup) {i j : Nat} {x : α} (a : l[i]? = some x) (b : l[j]? = some x) : i = j := by
  obtain ⟨h1, e1⟩ := List.getElem?_eq_some_iff.mp a
  obtain ⟨h2, e2⟩ := List.getElem?_eq_some_iff.mp b
  exact (List.getElem_inj hl).mp (by rw [e1, e2])
/-- an object of the store, as it stands in the heap -/
def MoIs (W : Wd) (F : Hp) (ρ : List Addr) (m : MO) (o : Option HO) : Prop :=
  match m with
  | .lst l => ∃ vs, o = some (.lst vs) ∧ IsL W F ρ l vs
  | .ins c l => ∃ dx fvs, o = some (.ins (W.T c) dx fvs) ∧ fvs.map (·.1) = (W.fn c).take l.length ∧ IsL W F ρ l (fvs.map (·.2))
  | .dct ks l => ∃ vs, o = some (.dK (ks.zip vs)) ∧ ks.length = l.length ∧ IsL W F ρ l vs
  | .dead => ∃ h, o = some h
theorem MoIs.mono {W : Wd} {F F' : Hp} {ρ ρ' : List Addr} (e : Le F F') (p : ρ <+: ρ') {m : MO} {o : Option HO} (h : MoIs W F ρ m o) : MoIs W F' ρ' m o := by
  cases m with
  | lst l => obtain ⟨vs, a, b⟩ := h; exact ⟨vs, a, b.mono e p⟩
  | ins c l => obtain ⟨dx, fvs, a, n, b⟩ := h; exact ⟨dx, fvs, a, n, b.mono e p⟩
  | dct ks l => obtain ⟨vs, a, n, b⟩ := h; exact ⟨vs, a, n, b.mono e p⟩
  | dead => exact h
theorem MoIs.some_ {W : Wd} {F : Hp} {ρ : List Addr} {m : MO} {o : Option HO} (h : MoIs W F ρ m o) : ∃ x, o = some x := by
  cases m with
  | lst l => obtain ⟨vs, a, _⟩ := h; exact ⟨_, a⟩
  | ins c l => obtain ⟨dx, fvs, a, _⟩ := h; exact ⟨_, a⟩
  | dct ks l => obtain ⟨vs, a, _⟩ := h; exact ⟨_, a⟩
  | dead => exact h
/-- the store -/
structure Rp (W : Wd) (ξ : Xi) (M : Stor) (F H : Hp) (ρ : List Addr) : Prop where
  sub : Le F H
  len : ρ.length = M.length
  nd : ρ.Nodup
  obj : ∀ (i : Nat) (m : MO) (a : Addr), M[i]? = some m → ρ[i]? = some a → F a = none ∧ MoIs W F ρ m (H a)
  xt : ∀ q ∈ ξ, H q.1 = some q.2 ∧ F q.1 = none ∧ q.1 ∉ ρ
  tb : ∀ p ∈ W.tb, p.1 ∉ ρ ∧ (∀ q ∈ ξ, q.1 ≠ p.1) ∧ F p.1 = none ∧ ∃ ps : Array Value, H p.1 = some (.tbl ps) ∧ TriplesOk ps.toList ∧ ∀ (pos : Pos) (cv : Value), codeAmong pos ps.toList = some cv → ∃ c, cv = .ref c ∧ F c = some (LamX.CodeO c p.2)
section
variable {W : Wd} {ξ : Xi} {M : Stor} {F H : Hp} {ρ : List Addr}
theorem Rp.free (h : Rp W ξ M F H ρ) {p : Addr} (n : H p = none) : F p = none := by
  cases e : F p with
  | none => rfl
  | some o => rw [h.sub _ _ e] at n; cases n
theorem Rp.ne (h : Rp W ξ M F H ρ) {p a : Addr} {i : Nat} (n : H p = none) (e : ρ[i]? = some a) : a ≠ p := by
  intro z; subst z
  have hi : i < M.length := by rw [← h.len]; exact (List.getElem?_eq_some_iff.mp e).1
  obtain ⟨_, q⟩ := h.obj i _ a (List.getElem?_eq_getElem hi) e
  obtain ⟨x, q⟩ := q.some_
  rw [n] at q; cases q
/-- a new thing that never changes -/
theorem Rp.new (h : Rp W ξ M F H ρ) {p : Addr} {o : HO} (n : H p = none) : Rp W ξ M (upd F p o) (upd H p o) ρ := by
  have nF := h.free n
  refine ⟨fun a u e => ?_, h.len, h.nd, fun i m a em ea => ?_, fun q hq => by
    obtain ⟨q1, q2, q3⟩ := h.xt q hq
    have ne := ne_of_none q1 n
    rw [upd_ne ne, upd_ne ne]; exact ⟨q1, q2, q3⟩, fun q hq => by
    obtain ⟨t1, t2, t3, ps, t4, t5, t6⟩ := h.tb q hq
    have ne := ne_of_none t4 n
    rw [upd_ne ne, upd_ne ne]
    exact ⟨t1, t2, t3, ps, t4, t5, fun pos cv z => let ⟨c, c1, c2⟩ := t6 pos cv z; ⟨c, c1, Le.new nF _ _ c2⟩⟩⟩
  · by_cases hp : a = p
    · subst hp; rw [upd_same] at e ⊢; exact e
    · rw [upd_ne hp] at e ⊢; exact h.sub _ _ e
  · have ne := h.ne n ea
    obtain ⟨q1, q2⟩ := h.obj i m a em ea
    rw [upd_ne ne, upd_ne ne]
    exact ⟨q1, q2.mono (Le.new nF) (List.prefix_refl _)⟩
/-- a new thing that is of no interest -/
theorem Rp.newH (h : Rp W ξ M F H ρ) {p : Addr} {o : HO} (n : H p = none) : Rp W ξ M F (upd H p o) ρ := by
  refine ⟨fun a u e => ?_, h.len, h.nd, fun i m a em ea => ?_, fun q hq => by
    obtain ⟨q1, q2, q3⟩ := h.xt q hq
    rw [upd_ne (ne_of_none q1 n)]; exact ⟨q1, q2, q3⟩, fun q hq => by
    obtain ⟨t1, t2, t3, ps, t4, t5, t6⟩ := h.tb q hq
    rw [upd_ne (ne_of_none t4 n)]
    exact ⟨t1, t2, t3, ps, t4, t5, t6⟩⟩
  · have := h.sub _ _ e
    rw [upd_ne (ne_of_none this n)]; exact this
  · rw [upd_ne (h.ne n ea)]; exact h.obj i m a em ea
/-- a new changeable object -/
theorem Rp.mut (h : Rp W ξ M F H ρ) {p : Addr} {o : HO} {m : MO} (n : H p = none) (k : MoIs W F (ρ ++ [p]) m (some o)) : Rp W ξ (M ++ [m]) F (upd H p o) (ρ ++ [p]) := by
  have nF := h.free n
  have np : p ∉ ρ := fun hm => by
    obtain ⟨i, hi, e⟩ := List.getElem_of_mem hm
    exact h.ne n (List.getElem?_eq_some_iff.mpr ⟨hi, e⟩) rfl
  refine ⟨fun a u e => ?_, by simp [h.len], ?_, fun i m' a em ea => ?_, fun q hq => by
    obtain ⟨q1, q2, q3⟩ := h.xt q hq
    have ne := ne_of_none q1 n
    rw [upd_ne ne]; exact ⟨q1, q2, by simp [q3, ne]⟩, fun q hq => by
    obtain ⟨t1, t2, t3, ps, t4, t5, t6⟩ := h.tb q hq
    have ne := ne_of_none t4 n
    rw [upd_ne ne]
    exact ⟨by simp [t1, ne], t2, t3, ps, t4, t5, t6⟩⟩
  · have := h.sub _ _ e
    rw [upd_ne (ne_of_none this n)]; exact this
  · rw [List.nodup_append]
    refine ⟨h.nd, by simp, fun a ha b hb => ?_⟩
    simp at hb; subst hb
    intro z; subst z; exact np ha
  · by_cases hi : i < M.length
    · rw [List.getElem?_append_left hi] at em
      rw [List.getElem?_append_left (by rw [h.len]; exact hi)] at ea
      obtain ⟨q1, q2⟩ := h.obj i m' a em ea
      rw [upd_ne (h.ne n ea)]
      exact ⟨q1, q2.mono Le.rfl' (List.prefix_append _ _)⟩
    · have hi' : i = M.length := by
        have := (List.getElem?_eq_some_iff.mp em).1
        simp at this; omega
      subst hi'
      rw [List.getElem?_append_right (Nat.le_refl _)] at em
      rw [List.getElem?_append_right (by rw [h.len]; exact Nat.le_refl _), h.len] at ea
      simp at em ea
      subst em; subst ea
      rw [upd_same]
      exact ⟨nF, k⟩
/-- a changeable object changes -/
theorem Rp.set (h : Rp W ξ M F H ρ) {i : Nat} {a : Addr} {o : HO} {m : MO} (e : ρ[i]? = some a) (k : MoIs W F ρ m (some o)) : Rp W ξ (M.set i m) F (upd H a o) ρ := by
  have hi : i < M.length := by rw [← h.len]; exact (List.getElem?_eq_some_iff.mp e).1
  have fa := (h.obj i _ a (List.getElem?_eq_getElem hi) e).1
  refine ⟨fun b u q => ?_, by simp [h.len], h.nd, fun j m' b em eb => ?_, fun q hq => by
    obtain ⟨q1, q2, q3⟩ := h.xt q hq
    have ne : q.1 ≠ a := fun z => q3 (z ▸ List.mem_of_getElem? e)
    rw [upd_ne ne]; exact ⟨q1, q2, q3⟩, fun q hq => by
    obtain ⟨t1, t2, t3, ps, t4, t5, t6⟩ := h.tb q hq
    have ne : q.1 ≠ a := fun z => t1 (z ▸ List.mem_of_getElem? e)
    rw [upd_ne ne]
    exact ⟨t1, t2, t3, ps, t4, t5, t6⟩⟩
  · rw [upd_ne (ne_of_none q fa)]; exact h.sub _ _ q
  · by_cases hj : i = j
    · subst hj
      rw [List.getElem?_set_self hi] at em
      rw [e] at eb; cases eb; cases em
      rw [upd_same]; exact ⟨fa, k⟩
    · rw [List.getElem?_set_ne hj] at em
      obtain ⟨q1, q2⟩ := h.obj j m' b em eb
      have ne : b ≠ a := fun z => hj (nd_ix h.nd e (by rw [← z]; exact eb))
      rw [upd_ne ne]; exact ⟨q1, q2⟩
end

/-! ### what is wanted behind -/
/-- an exception's own dict -/
def XcIs (W : Wd) (F : Hp) (ρ : List Addr) (c : Nat) (fs : Flds) (dx : Option Addr) : Prop :=
  match fs with
  | none => dx = none
  | some l => ∃ x fvs, dx = some x ∧ F x = some (.xd fvs) ∧ fvs.map (·.1) = (W.fn c).take l.length ∧ IsL W F ρ l (fvs.map (·.2))
def Po {α β : Type} (W : Wd) (ξ : Xi) (rel : Hp → List Addr → α → β → Prop) (F : Hp) (ρ : List Addr) (r : R α) (Q : β → Hp → Prop) (E : XK) : Prop :=
  match r with
  | .ok a M => ∀ v F' ρ' H', Le F F' → ρ <+: ρ' → Rp W ξ M F' H' ρ' → rel F' ρ' a v → Q v H'
  | .ex c fs M => ∀ dx F' ρ' H', Le F F' → ρ <+: ρ' → Rp W ξ M F' H' ρ' → XcIs W F' ρ' c fs dx → E (.ref (W.T c)) dx H'
  | .no => False
def PoS (W : Wd) (ξ : Xi) (F : Hp) (ρ : List Addr) (r : RS) (N : Ends) (E : Sg → XK) : Prop :=
  match r with
  | .nx g M => ∀ σ' F' ρ' H', Le F F' → ρ <+: ρ' → Rp W ξ M F' H' ρ' → En W g σ' F' ρ' → N.nx σ' H'
  | .rt d M => ∀ v F' ρ' H', Le F F' → ρ <+: ρ' → Rp W ξ M F' H' ρ' → Is W F' ρ' d v → N.rt v H'
  | .bk g M => ∀ σ' F' ρ' H', Le F F' → ρ <+: ρ' → Rp W ξ M F' H' ρ' → En W g σ' F' ρ' → N.bk σ' H'
  | .ct g M => ∀ σ' F' ρ' H', Le F F' → ρ <+: ρ' → Rp W ξ M F' H' ρ' → En W g σ' F' ρ' → N.ct σ' H'
  | .ex c fs g M => ∀ σ' dx F' ρ' H', Le F F' → ρ <+: ρ' → Rp W ξ M F' H' ρ' → En W g σ' F' ρ' → XcIs W F' ρ' c fs dx → E σ' (.ref (W.T c)) dx H'
  | .no => False
section
variable {α β γ δ : Type} {W : Wd} {ξ : Xi} {rel : Hp → List Addr → α → β → Prop} {rel2 : Hp → List Addr → γ → δ → Prop} {F F' : Hp} {ρ ρ' : List Addr} {Q : β → Hp → Prop} {E : XK}
theorem Po.mono {r : R α} (h : Po W ξ rel F ρ r Q E) (e : Le F F') (p : ρ <+: ρ') : Po W ξ rel F' ρ' r Q E := by
  cases r with
  | ok a M => exact fun v F2 ρ2 H2 e2 p2 => h v F2 ρ2 H2 (e.tr e2) (p.trans p2)
  | ex c fs M => exact fun v F2 ρ2 H2 e2 p2 => h v F2 ρ2 H2 (e.tr e2) (p.trans p2)
  | no => exact h
theorem PoS.mono {r : RS} {N : Ends} {E : Sg → XK} (h : PoS W ξ F ρ r N E) (e : Le F F') (p : ρ <+: ρ') : PoS W ξ F' ρ' r N E := by
  cases r with
  | nx g M => exact fun v F2 ρ2 H2 e2 p2 => h v F2 ρ2 H2 (e.tr e2) (p.trans p2)
  | rt d M => exact fun v F2 ρ2 H2 e2 p2 => h v F2 ρ2 H2 (e.tr e2) (p.trans p2)
  | bk g M => exact fun v F2 ρ2 H2 e2 p2 => h v F2 ρ2 H2 (e.tr e2) (p.trans p2)
  | ct g M => exact fun v F2 ρ2 H2 e2 p2 => h v F2 ρ2 H2 (e.tr e2) (p.trans p2)
  | ex c fs g M => exact fun v dx F2 ρ2 H2 e2 p2 => h v dx F2 ρ2 H2 (e.tr e2) (p.trans p2)
  | no => exact h
/-- one behind another -/
theorem Po.bind {r : R α} {k : α → Stor → R γ} {Q : δ → Hp → Prop} (h : Po W ξ rel2 F ρ (r.bind k) Q E) :
    Po W ξ rel F ρ r (fun v H' => ∃ a M' F' ρ', Le F F' ∧ ρ <+: ρ' ∧ Rp W ξ M' F' H' ρ' ∧ rel F' ρ' a v ∧ Po W ξ rel2 F' ρ' (k a M') Q E) E := by
  cases r with
  | ok a M => exact fun v F' ρ' H' e p rp is => ⟨a, M, F', ρ', e, p, rp, is, h.mono e p⟩
  | ex c fs M => exact h
  | no => exact h
theorem Po.bindS {r : R α} {g : Gam} {k : α → Stor → RS} {N : Ends} {E : Sg → XK} {σ : Sg} (en : En W g σ F ρ) (h : PoS W ξ F ρ (r.bindS g k) N E) :
    Po W ξ rel F ρ r (fun v H' => ∃ a M' F' ρ', Le F F' ∧ ρ <+: ρ' ∧ Rp W ξ M' F' H' ρ' ∧ rel F' ρ' a v ∧ PoS W ξ F' ρ' (k a M') N E) (E σ) := by
  cases r with
  | ok a M => exact fun v F' ρ' H' e p rp is => ⟨a, M, F', ρ', e, p, rp, is, h.mono e p⟩
  | ex c fs M => exact fun dx F' ρ' H' e p rp x => h σ dx F' ρ' H' e p rp (en.mono e p) x
  | no => exact h
theorem Po.imp {r : R α} {Q' : β → Hp → Prop} (h : Po W ξ rel F ρ r Q E) (k : ∀ v H, Q v H → Q' v H) : Po W ξ rel F ρ r Q' E := by
  cases r with
  | ok a M => exact fun v F' ρ' H' e p rp is => k _ _ (h v F' ρ' H' e p rp is)
  | ex c fs M => exact h
  | no => exact h
end

/-! ### the judgements: the hand layer's, at one reading -/
abbrev GE' := Gam → Stor → R D
abbrev GT' := Gam → Stor → R Bool
abbrev GA' := Gam → Stor → R (List D)
abbrev GS' := Gam → Stor → RS
abbrev relB : Hp → List Addr → Bool → Bool → Prop := fun _ _ a b => a = b
def tG (W : Wd) (E : Sg → XK) (g : GE') : TE := fun σ H Q => ∃ ξ Γ M F ρ, En W Γ σ F ρ ∧ Rp W ξ M F H ρ ∧ Po W ξ (Is W) F ρ (g Γ M) Q (E σ)
def tGT (W : Wd) (E : Sg → XK) (g : GT') : TT := fun σ H Q => ∃ ξ Γ M F ρ, En W Γ σ F ρ ∧ Rp W ξ M F H ρ ∧ Po W ξ relB F ρ (g Γ M) Q (E σ)
def tGA (W : Wd) (E : Sg → XK) (g : GA') : TA := fun σ H Q => ∃ ξ Γ M F ρ, En W Γ σ F ρ ∧ Rp W ξ M F H ρ ∧ Po W ξ (IsL W) F ρ (g Γ M) Q (E σ)
def tGS (W : Wd) (E : Sg → XK) (g : GS') : TS := fun N σ H => ∃ ξ Γ M F ρ, En W Γ σ F ρ ∧ Rp W ξ M F H ρ ∧ PoS W ξ F ρ (g Γ M) N E
abbrev GE (X : Cx) (W : Wd) (E : Sg → XK) (e : Expr) (g : GE') : Prop := PE X e (tG W E g)
abbrev GT (X : Cx) (W : Wd) (E : Sg → XK) (e : Expr) (g : GT') : Prop := PT X e (tGT W E g)
abbrev GW (X : Cx) (W : Wd) (E : Sg → XK) (e : Expr) (g : GT') : Prop := PW X e (tGT W E g)
abbrev GA (X : Cx) (W : Wd) (E : Sg → XK) (es : List Expr) (g : GA') : Prop := PA X es (tGA W E g)
abbrev GS (X : Cx) (W : Wd) (E : Sg → XK) (st : Stmt) (g : GS') : Prop := PS X st (tGS W E g)
abbrev GSs (X : Cx) (W : Wd) (E : Sg → XK) (st : List Stmt) (g : GS') : Prop := PSs X st (tGS W E g)
theorem mE {X : Cx} {e : Expr} {t t' : TE} (h : PE X e t) (k : ∀ σ H Q, t' σ H Q → t σ H Q) : PE X e t' := ⟨fun pins s σ H Q I z => h.run pins s σ H Q I (k σ H Q z)⟩
theorem mT {X : Cx} {e : Expr} {t t' : TT} (h : PT X e t) (k : ∀ σ H Q, t' σ H Q → t σ H Q) : PT X e t' := ⟨fun pins s σ H Q I z => h.run pins s σ H Q I (k σ H Q z)⟩
theorem mW {X : Cx} {e : Expr} {t t' : TT} (h : PW X e t) (k : ∀ σ H Q, t' σ H Q → t σ H Q) : PW X e t' := ⟨fun wh pins s σ H Q I z => h.run wh pins s σ H Q I (k σ H Q z)⟩
theorem mA {X : Cx} {es : List Expr} {t t' : TA} (h : PA X es t) (k : ∀ σ H Q, t' σ H Q → t σ H Q) : PA X es t' := ⟨fun pos pins s σ H Q I z => h.run pos pins s σ H Q I (k σ H Q z)⟩
theorem mS {X : Cx} {st : Stmt} {t t' : TS} (h : PS X st t) (k : ∀ N σ H, t' N σ H → t N σ H) : PS X st t' := ⟨fun pins s σ H N I z => h.run pins s σ H N I (k N σ H z)⟩
theorem mSs {X : Cx} {st : List Stmt} {t t' : TS} (h : PSs X st t) (k : ∀ N σ H, t' N σ H → t N σ H) : PSs X st t' := ⟨fun pins s σ H N I z => h.run pins s σ H N I (k N σ H z)⟩
end G

namespace G
open PySem PySem.Spec PyProof.Rows L2

/-! ### names, constants -/
def gVar (i : Nat) : GE' := fun Γ M => match Γ[i]? with
  | some (some d) => .ok d M
  | _ => .no
def gC (d : D) : GE' := fun _ M => .ok d M
section
variable {X : Cx} {W : Wd} {ξ : Xi} {E : Sg → XK} {a b e : Expr} {ga gb : GE'} {pos : Pos}
/-- a value that stands everywhere -/
def Flat (W : Wd) (d : D) (v : V) : Prop := ∀ F ρ, Is W F ρ d v
theorem flat_int {i : Int} : Flat W (.int i) (.int i) := fun _ _ => by simp only [Is]
theorem flat_bl {i : Bool} : Flat W (.bl i) (.bl i) := fun _ _ => by simp only [Is]
theorem flat_str {i : Str} : Flat W (.str i) (.str i) := fun _ _ => by simp only [Is]
theorem flat_non : Flat W .non .non := fun _ _ => by simp only [Is]
theorem flat_ty {n : String} : Flat W (.ty n) (.ty n) := fun _ _ => by simp only [Is]
theorem ge_const {d : D} {v : V} (h : PE X e (tC v)) (f : Flat W d v) : GE X W E e (gC d) :=
  mE h fun σ H Q ⟨ξ, Γ, M, F, ρ, en, rp, po⟩ => po v F ρ H Le.rfl' (List.prefix_refl _) rp (f F ρ)
theorem ge_int {i : Int} {j pos} : GE X W E (.Constant (.int i) j pos) (gC (.int i)) := ge_const pe_int flat_int
theorem ge_bl {i : Bool} {j pos} : GE X W E (.Constant (.bool i) j pos) (gC (.bl i)) := ge_const pe_bl flat_bl
theorem ge_str {i : Str} {j pos} : GE X W E (.Constant (.str i) j pos) (gC (.str i)) := ge_const pe_str flat_str
theorem ge_non {j pos} : GE X W E (.Constant .none j pos) (gC .non) := ge_const pe_non flat_non
theorem ge_var {i : Nat} {x : Str} (h : PE X (.Name x pos) (tVar i)) : GE X W E (.Name x pos) (gVar i) :=
  mE h fun σ H Q ⟨ξ, Γ, M, F, ρ, en, rp, po⟩ => by
    unfold gVar at po
    split at po
    · rename_i d hd
      obtain ⟨v, e1, is⟩ := en.at_ i d hd
      exact ⟨v, e1, po v F ρ H Le.rfl' (List.prefix_refl _) rp is⟩
    · exact po.elim

/-! ### operators -/
def gBin (f : D → D → Stor → R D) (a b : GE') : GE' := fun Γ M => (a Γ M).bind fun x M1 => (b Γ M1).bind fun y M2 => f x y M2
def gUn (f : D → Stor → R D) (a : GE') : GE' := fun Γ M => (a Γ M).bind fun x M1 => f x M1
/-- a two-place operation of the model does what op says -/
def OpG (X : Cx) (W : Wd) (E : Sg → XK) (f : Value → Value → Sem Value) (op : D → D → Stor → R D) : Prop :=
  ∀ (ξ : Xi) (pins : List (Addr × Obj)) (s : Shared) (σ : Sg) (H : Hp) (M : Stor) (F : Hp) (ρ : List Addr) (x y : D) (vx vy : V) (ux uy : Value) (Q : VK),
    Inv X pins σ H s → RelV vx ux → RelV vy uy → Rp W ξ M F H ρ → Is W F ρ x vx → Is W F ρ y vy → Po W ξ (Is W) F ρ (op x y M) Q (E σ) →
    wpAny (model X.prog X.w) X.A (f ux uy) (EP X pins σ Q) X.xe s
def UnG (X : Cx) (W : Wd) (E : Sg → XK) (f : Value → Sem Value) (op : D → Stor → R D) : Prop :=
  ∀ (ξ : Xi) (pins : List (Addr × Obj)) (s : Shared) (σ : Sg) (H : Hp) (M : Stor) (F : Hp) (ρ : List Addr) (x : D) (vx : V) (ux : Value) (Q : VK),
    Inv X pins σ H s → RelV vx ux → Rp W ξ M F H ρ → Is W F ρ x vx → Po W ξ (Is W) F ρ (op x M) Q (E σ) →
    wpAny (model X.prog X.w) X.A (f ux) (EP X pins σ Q) X.xe s
/-- what an operation on plain values gives, as the hand layer's rule asks -/
theorem OpG.of {f : Value → Value → Sem Value} {r : R2} {op : D → D → Stor → R D} (h : OpR X f r)
    (k : ∀ (ξ : Xi) (M : Stor) (F H : Hp) (ρ : List Addr) (x y : D) (vx vy : V) (Q : VK) (Z : XK), Rp W ξ M F H ρ → Is W F ρ x vx → Is W F ρ y vy → Po W ξ (Is W) F ρ (op x y M) Q Z → r vx vy H Q) : OpG X W E f op :=
  fun ξ pins s σ H M F ρ x y vx vy ux uy Q I rx ry rp ix iy po => h pins s σ H vx vy ux uy Q I rx ry (k ξ M F H ρ x y vx vy Q (E σ) rp ix iy po)
theorem UnG.of {f : Value → Sem Value} {r : V → Hp → VK → Prop} {op : D → Stor → R D} (h : UnR X f r)
    (k : ∀ (ξ : Xi) (M : Stor) (F H : Hp) (ρ : List Addr) (x : D) (vx : V) (Q : VK) (Z : XK), Rp W ξ M F H ρ → Is W F ρ x vx → Po W ξ (Is W) F ρ (op x M) Q Z → r vx H Q) : UnG X W E f op :=
  fun ξ pins s σ H M F ρ x vx ux Q I rx rp ix po => h pins s σ H vx ux Q I rx (k ξ M F H ρ x vx Q (E σ) rp ix po)
/-- the first that says something -/
def orR {α : Type} (r q : R α) : R α := match r with
  | .no => q
  | r => r
@[simp] theorem orR_ok {α : Type} (a : α) (M : Stor) (q : R α) : orR (.ok a M) q = .ok a M := rfl
@[simp] theorem orR_ex {α : Type} (c : Nat) (fs : Flds) (M : Stor) (q : R α) : orR (.ex c fs M) q = .ex c fs M := rfl
@[simp] theorem orR_no {α : Type} (q : R α) : orR .no q = q := rfl
theorem OpG.or {f : Value → Value → Sem Value} {op op' : D → D → Stor → R D} (h : OpG X W E f op) (h' : OpG X W E f op') : OpG X W E f (fun x y M => orR (op x y M) (op' x y M)) :=
  fun ξ pins s σ H M F ρ x y vx vy ux uy Q I rx ry rp ix iy po => by
    cases e : op x y M with
    | no =>
      simp only [e, orR_no] at po
      exact h' ξ pins s σ H M F ρ x y vx vy ux uy Q I rx ry rp ix iy po
    | ok a M1 =>
      simp only [e, orR_ok] at po
      exact h ξ pins s σ H M F ρ x y vx vy ux uy Q I rx ry rp ix iy (by rw [e]; exact po)
    | ex c fs M1 =>
      simp only [e, orR_ex] at po
      exact h ξ pins s σ H M F ρ x y vx vy ux uy Q I rx ry rp ix iy (by rw [e]; exact po)
theorem UnG.or {f : Value → Sem Value} {op op' : D → Stor → R D} (h : UnG X W E f op) (h' : UnG X W E f op') : UnG X W E f (fun x M => orR (op x M) (op' x M)) :=
  fun ξ pins s σ H M F ρ x vx ux Q I rx rp ix po => by
    cases e : op x M with
    | no =>
      simp only [e, orR_no] at po
      exact h' ξ pins s σ H M F ρ x vx ux Q I rx rp ix po
    | ok a M1 =>
      simp only [e, orR_ok] at po
      exact h ξ pins s σ H M F ρ x vx ux Q I rx rp ix (by rw [e]; exact po)
    | ex c fs M1 =>
      simp only [e, orR_ex] at po
      exact h ξ pins s σ H M F ρ x vx ux Q I rx rp ix (by rw [e]; exact po)
/-- two expressions, one behind the other -/
theorem two {k : D → D → Stor → R D} {σ : Sg} {H : Hp} {Q : VK} (h : tG W E (fun Γ M => (ga Γ M).bind fun x M1 => (gb Γ M1).bind fun y M2 => k x y M2) σ H Q) :
    tG W E ga σ H fun vx H1 => tG W E gb σ H1 fun vy H2 => ∃ ξ x y M F ρ, Rp W ξ M F H2 ρ ∧ Is W F ρ x vx ∧ Is W F ρ y vy ∧ Po W ξ (Is W) F ρ (k x y M) Q (E σ) := by
  obtain ⟨ξ, Γ, M, F, ρ, en, rp, po⟩ := h
  refine ⟨ξ, Γ, M, F, ρ, en, rp, po.bind.imp ?_⟩
  rintro vx H1 ⟨x, M1, F1, ρ1, e1, p1, rp1, ix, po1⟩
  refine ⟨ξ, Γ, M1, F1, ρ1, en.mono e1 p1, rp1, po1.bind.imp ?_⟩
  rintro vy H2 ⟨y, M2, F2, ρ2, e2, p2, rp2, iy, po2⟩
  exact ⟨ξ, x, y, M2, F2, ρ2, rp2, ix.mono e2 p2, iy, po2⟩
theorem ge_bin {op : Operator} {f : D → D → Stor → R D} (ho : OpG X W E (binaryOp op) f) (ha : GE X W E a ga) (hb : GE X W E b gb) : GE X W E (.BinOp a op b pos) (gBin f ga gb) := by
  refine ⟨fun pins s σ H Q I h => ?_⟩
  refine wpAny_BinOp (bin ha hb I (two h) fun v u s2 x y H2 I2 rx ry q => ?_)
  obtain ⟨ξ, dx, dy, M, F, ρ, rp, ix, iy, po⟩ := q
  exact ho ξ pins s2 σ H2 M F ρ dx dy x y v u Q I2 rx ry rp ix iy po
theorem ge_un {op : UnaryOp} {f : D → Stor → R D} (ho : UnG X W E (unaryOp op) f) (ha : GE X W E a ga) : GE X W E (.UnaryOp op a pos) (gUn f ga) := by
  refine ⟨fun pins s σ H Q I h => ?_⟩
  obtain ⟨ξ, Γ, M, F, ρ, en, rp, po⟩ := h
  refine UnaryOp_ (thn (ha.run pins s σ H _ I ⟨ξ, Γ, M, F, ρ, en, rp, po.bind⟩) ?_)
  rintro v s1 ⟨vx, H1, I1, r1, x, M1, F1, ρ1, e1, p1, rp1, ix, po1⟩
  exact ho ξ pins s1 σ H1 M1 F1 ρ1 x vx v Q I1 r1 rp1 ix po1
theorem ge_cmp {op : CmpOp} {f : D → D → Stor → R D} (ho : OpG X W E (compareOp op) f) (ha : GE X W E a ga) (hb : GE X W E b gb) (hm : behindInMarks op b = false) : GE X W E (.Compare a [op] [b] pos) (gBin f ga gb) := by
  refine ⟨fun pins s σ H Q I h => ?_⟩
  refine wpAny_Compare1 (bin ha hb I (two h) fun v u s2 x y H2 I2 rx ry q => ?_) hm
  obtain ⟨ξ, dx, dy, M, F, ρ, rp, ix, iy, po⟩ := q
  exact ho ξ pins s2 σ H2 M F ρ dx dy x y v u Q I2 rx ry rp ix iy po

/-! ### truth -/
def TruG (X : Cx) (W : Wd) (E : Sg → XK) (tr : D → Stor → R Bool) : Prop :=
  ∀ (ξ : Xi) (pins : List (Addr × Obj)) (s : Shared) (σ : Sg) (H : Hp) (M : Stor) (F : Hp) (ρ : List Addr) (x : D) (vx : V) (ux : Value) (Q : Bool → Hp → Prop),
    Inv X pins σ H s → RelV vx ux → Rp W ξ M F H ρ → Is W F ρ x vx → Po W ξ relB F ρ (tr x M) Q (E σ) →
    wpAny (model X.prog X.w) X.A (truthy ux) (TP X pins σ Q) X.xe s
/-- the truth of plain data -/
def truD : D → Stor → R Bool
  | .non, M => .ok false M
  | .bl b, M => .ok b M
  | .int i, M => .ok (i != 0) M
  | .str x, M => if x.length ≤ 1000000 then .ok ((x.length : Int) != 0) M else .no
  | .tup l, M => .ok (!l.isEmpty) M
  | .lst l, M => .ok (!l.isEmpty) M
  | .lck l, M => .ok (!l.isEmpty) M
  | .ref k, M => match M[k]? with
    | some (.lst l) => .ok (!l.isEmpty) M
    | some (.dct _ l) => .ok (!l.isEmpty) M
    | _ => .no
  | .dct _ l, M => .ok (!l.isEmpty) M
  | _, _ => .no
theorem IsL.isEmpty {F : Hp} {ρ : List Addr} {ds : List D} {vs : List V} (h : IsL W F ρ ds vs) : vs.isEmpty = ds.isEmpty := by
  have e := h.len
  cases ds <;> cases vs <;> simp at e ⊢
theorem zip_empty {F : Hp} {ρ : List Addr} {ks : List Key} {ds : List D} {vs : List V} (hn : ks.length = ds.length) (h : IsL W F ρ ds vs) : (ks.zip vs).isEmpty = ds.isEmpty := by
  have e := h.len
  cases ds <;> cases vs <;> cases ks <;> simp at e hn ⊢
theorem small_line {n : Nat} (h : n ≤ 1000000) : n ≤ sizeLine := by rw [sizeLine_eq]; omega
theorem tru_plain (hK : X.K = W.K) : TruG X W E truD := by
  intro ξ pins s σ H M F ρ x vx ux Q I rx rp ix po
  have go : ∀ {k : Bool}, truD x M = .ok k M → TruV X.K vx H k → wpAny (model X.prog X.w) X.A (truthy ux) (TP X pins σ Q) X.xe s := fun {k} e t => by
    rw [e] at po
    exact tru_ok pins s σ H vx ux Q I rx ⟨k, t, po k F ρ H Le.rfl' (List.prefix_refl _) rp rfl⟩
  cases x with
  | non => simp only [Is] at ix; subst ix; exact go rfl rfl
  | bl b => simp only [Is] at ix; subst ix; exact go rfl rfl
  | int i => simp only [Is] at ix; subst ix; exact go rfl rfl
  | str y =>
    simp only [Is] at ix; subst ix
    by_cases hy : y.length ≤ 1000000
    · exact go (by simp only [truD, hy, if_true]) ⟨small_line hy, rfl⟩
    · simp only [truD, hy, if_false] at po; exact po.elim
  | ty n => exact po.elim
  | tup l =>
    simp only [Is] at ix; obtain ⟨a, vs, rfl, q, hl⟩ := ix
    exact go rfl (.inr (.inl ⟨vs, by rw [hK]; exact rp.sub.sqT q, by rw [hl.isEmpty]⟩))
  | lst l =>
    simp only [Is] at ix; obtain ⟨a, vs, rfl, q, hl⟩ := ix
    exact go rfl (.inl ⟨vs, SqL.of (rp.sub _ _ q), by rw [hl.isEmpty]⟩)
  | lck l =>
    simp only [Is] at ix; obtain ⟨a, vs, rfl, q, hl⟩ := ix
    exact go rfl (.inl ⟨vs, by rw [hK]; exact rp.sub.sqL q, by rw [hl.isEmpty]⟩)
  | dct ks l =>
    simp only [Is] at ix; obtain ⟨a, vs, rfl, q, hn, hl⟩ := ix
    exact go rfl (.inr (.inr ⟨_, rp.sub _ _ q, by rw [zip_empty hn hl]⟩))
  | cls c => exact po.elim
  | exc c o l => exact po.elim
  | lam f c q us l => exact po.elim
  | ins c l => exact po.elim
  | ref k =>
    simp only [Is] at ix; obtain ⟨a, rfl, ea⟩ := ix
    cases e : M[k]? with
    | none => simp only [truD, e] at po; exact po.elim
    | some m =>
      cases m with
      | lst l =>
        obtain ⟨_, vs, hv, hl⟩ := rp.obj k _ a e ea
        exact go (k := !l.isEmpty) (by simp only [truD, e]) (.inl ⟨vs, SqL.of hv, by rw [hl.isEmpty]⟩)
      | ins c l => simp only [truD, e] at po; exact po.elim
      | dct ks l =>
        obtain ⟨_, vs, hv, hn, hl⟩ := rp.obj k _ a e ea
        exact go (k := !l.isEmpty) (by simp only [truD, e]) (.inr (.inr ⟨_, hv, by rw [zip_empty hn hl]⟩))
      | dead => simp only [truD, e] at po; exact po.elim
/-- a value's truth as a test -/
def gTr (tr : D → Stor → R Bool) (a : GE') : GT' := fun Γ M => (a Γ M).bind tr
theorem gt_tr {tr : D → Stor → R Bool} (ht : TruG X W E tr) (ha : GE X W E a ga) (he : ∀ whole, isTrue a X.env whole = (do let v ← whole; standAt a.pos; holding [v] (truthy v)) := by intro _; rfl) : GT X W E a (gTr tr ga) := by
  refine ⟨fun pins s σ H Q I h => ?_⟩
  obtain ⟨ξ, Γ, M, F, ρ, en, rp, po⟩ := h
  refine isTrue_plain (thn (ha.run pins s σ H _ I ⟨ξ, Γ, M, F, ρ, en, rp, po.bind⟩) ?_) (he _)
  rintro v s1 ⟨vx, H1, I1, r1, x, M1, F1, ρ1, e1, p1, rp1, ix, po1⟩
  exact ht ξ pins s1 σ H1 M1 F1 ρ1 x vx v Q I1 r1 rp1 ix po1
/-- a comparison as a test -/
theorem gt_cmp {op : CmpOp} {f : D → D → Stor → R D} {tr : D → Stor → R Bool} (ht : TruG X W E tr) (ho : OpG X W E (compareOp op) f) (ha : GE X W E a ga) (hb : GE X W E b gb) (hm : behindInMarks op b = false) : GT X W E (.Compare a [op] [b] pos) (gTr tr (gBin f ga gb)) := by
  refine ⟨fun pins s σ H Q I h => ?_⟩
  obtain ⟨ξ, Γ, M, F, ρ, en, rp, po⟩ := h
  refine wpAny_isTrue_Compare1 (bin ha hb I (two ⟨ξ, Γ, M, F, ρ, en, rp, po.bind⟩) fun v u s2 x y H2 I2 rx ry q => ?_) hm
  obtain ⟨ξ', dx, dy, M2, F2, ρ2, rp2, ix, iy, po2⟩ := q
  refine thn (ho ξ' pins s2 σ H2 M2 F2 ρ2 dx dy x y v u _ I2 rx ry rp2 ix iy po2) ?_
  rintro c s3 ⟨vz, H3, I3, r3, z, M3, F3, ρ3, e3, p3, rp3, iz, po3⟩
  exact ht ξ pins s3 σ H3 M3 F3 ρ3 z vz c Q I3 r3 rp3 iz po3
/-! ### and, or, not -/
variable {ta tb : GT'} {rest : List Expr}
def gAnd (a b : GT') : GT' := fun Γ M => (a Γ M).bind fun c M1 => if c then b Γ M1 else .ok false M1
def gOr (a b : GT') : GT' := fun Γ M => (a Γ M).bind fun c M1 => if c then .ok true M1 else b Γ M1
def gNot (a : GT') : GT' := fun Γ M => (a Γ M).bind fun c M1 => .ok (!c) M1
theorem gw_and1 (ha : GT X W E a ta) : GW X W E (.BoolOp .And [a] pos) ta := pw_and1 ha
theorem gw_or1 (ha : GT X W E a ta) : GW X W E (.BoolOp .Or [a] pos) ta := pw_or1 ha
theorem gw_and (ha : GT X W E a ta) (hb : GW X W E (.BoolOp .And (b :: rest) pos) tb) : GW X W E (.BoolOp .And (a :: b :: rest) pos) (gAnd ta tb) :=
  mW (pw_and ha hb) fun σ H Q ⟨ξ, Γ, M, F, ρ, en, rp, po⟩ => ⟨ξ, Γ, M, F, ρ, en, rp, po.bind.imp (by
    rintro c H1 ⟨c', M1, F1, ρ1, e1, p1, rp1, rfl, po1⟩
    cases c' with
    | true => exact ⟨ξ, Γ, M1, F1, ρ1, en.mono e1 p1, rp1, po1⟩
    | false => exact po1 false F1 ρ1 H1 Le.rfl' (List.prefix_refl _) rp1 rfl)⟩
theorem gw_or (ha : GT X W E a ta) (hb : GW X W E (.BoolOp .Or (b :: rest) pos) tb) : GW X W E (.BoolOp .Or (a :: b :: rest) pos) (gOr ta tb) :=
  mW (pw_or ha hb) fun σ H Q ⟨ξ, Γ, M, F, ρ, en, rp, po⟩ => ⟨ξ, Γ, M, F, ρ, en, rp, po.bind.imp (by
    rintro c H1 ⟨c', M1, F1, ρ1, e1, p1, rp1, rfl, po1⟩
    cases c' with
    | true => exact po1 true F1 ρ1 H1 Le.rfl' (List.prefix_refl _) rp1 rfl
    | false => exact ⟨ξ, Γ, M1, F1, ρ1, en.mono e1 p1, rp1, po1⟩)⟩
theorem gt_not (ha : GT X W E a ta) : GT X W E (.UnaryOp .Not a pos) (gNot ta) :=
  mT (pt_not ha) fun σ H Q ⟨ξ, Γ, M, F, ρ, en, rp, po⟩ => ⟨ξ, Γ, M, F, ρ, en, rp, po.bind.imp (by
    rintro c H1 ⟨c', M1, F1, ρ1, e1, p1, rp1, rfl, po1⟩
    exact po1 (!c') F1 ρ1 H1 Le.rfl' (List.prefix_refl _) rp1 rfl)⟩
/-- as values -/
def gAndV (tr : D → Stor → R Bool) (a b : GE') : GE' := fun Γ M => (a Γ M).bind fun x M1 => (tr x M1).bind fun c M2 => if c then b Γ M2 else .ok x M2
def gOrV (tr : D → Stor → R Bool) (a b : GE') : GE' := fun Γ M => (a Γ M).bind fun x M1 => (tr x M1).bind fun c M2 => if c then .ok x M2 else b Γ M2
def gNotV (tr : D → Stor → R Bool) (a : GE') : GE' := fun Γ M => (a Γ M).bind fun x M1 => (tr x M1).bind fun c M2 => .ok (.bl (!c)) M2
theorem ge_one {op} (h : GE X W E a ga) : GE X W E (.BoolOp op [a] pos) ga := pe_one h
theorem ge_and {tr : D → Stor → R Bool} (ht : TruG X W E tr) (ha : GE X W E a ga) (hb : GE X W E (.BoolOp .And (b :: rest) pos) gb) : GE X W E (.BoolOp .And (a :: b :: rest) pos) (gAndV tr ga gb) := by
  refine ⟨fun pins s σ H Q I h => ?_⟩
  obtain ⟨ξ, Γ, M, F, ρ, en, rp, po⟩ := h
  refine BoolOp_and (thn (ha.run pins s σ H _ I ⟨ξ, Γ, M, F, ρ, en, rp, po.bind⟩) ?_)
  rintro v s1 ⟨vx, H1, I1, r1, x, M1, F1, ρ1, e1, p1, rp1, ix, po1⟩
  refine thn (ht ξ pins s1 σ H1 M1 F1 ρ1 x vx v _ I1 r1 rp1 ix po1.bind) ?_
  rintro c s2 ⟨H2, I2, c', M2, F2, ρ2, e2, p2, rp2, rfl, po2⟩
  cases c' with
  | true => exact hb.run pins s2 σ H2 Q I2 ⟨ξ, Γ, M2, F2, ρ2, (en.mono e1 p1).mono e2 p2, rp2, po2⟩
  | false => exact ⟨vx, H2, I2, r1, po2 vx F2 ρ2 H2 Le.rfl' (List.prefix_refl _) rp2 (ix.mono e2 p2)⟩
theorem ge_or {tr : D → Stor → R Bool} (ht : TruG X W E tr) (ha : GE X W E a ga) (hb : GE X W E (.BoolOp .Or (b :: rest) pos) gb) : GE X W E (.BoolOp .Or (a :: b :: rest) pos) (gOrV tr ga gb) := by
  refine ⟨fun pins s σ H Q I h => ?_⟩
  obtain ⟨ξ, Γ, M, F, ρ, en, rp, po⟩ := h
  refine BoolOp_or (thn (ha.run pins s σ H _ I ⟨ξ, Γ, M, F, ρ, en, rp, po.bind⟩) ?_)
  rintro v s1 ⟨vx, H1, I1, r1, x, M1, F1, ρ1, e1, p1, rp1, ix, po1⟩
  refine thn (ht ξ pins s1 σ H1 M1 F1 ρ1 x vx v _ I1 r1 rp1 ix po1.bind) ?_
  rintro c s2 ⟨H2, I2, c', M2, F2, ρ2, e2, p2, rp2, rfl, po2⟩
  cases c' with
  | true => exact ⟨vx, H2, I2, r1, po2 vx F2 ρ2 H2 Le.rfl' (List.prefix_refl _) rp2 (ix.mono e2 p2)⟩
  | false => exact hb.run pins s2 σ H2 Q I2 ⟨ξ, Γ, M2, F2, ρ2, (en.mono e1 p1).mono e2 p2, rp2, po2⟩
theorem ge_not {tr : D → Stor → R Bool} (ht : TruG X W E tr) (ha : GE X W E a ga) : GE X W E (.UnaryOp .Not a pos) (gNotV tr ga) := by
  refine ⟨fun pins s σ H Q I h => ?_⟩
  obtain ⟨ξ, Γ, M, F, ρ, en, rp, po⟩ := h
  refine UnaryOp_ (thn (ha.run pins s σ H _ I ⟨ξ, Γ, M, F, ρ, en, rp, po.bind⟩) ?_)
  rintro v s1 ⟨vx, H1, I1, r1, x, M1, F1, ρ1, e1, p1, rp1, ix, po1⟩
  refine not_of (thn (ht ξ pins s1 σ H1 M1 F1 ρ1 x vx v _ I1 r1 rp1 ix po1.bind) ?_)
  rintro c s2 ⟨H2, I2, c', M2, F2, ρ2, e2, p2, rp2, rfl, po2⟩
  exact ⟨.bl (!c'), H2, I2, rfl, po2 (.bl (!c')) F2 ρ2 H2 Le.rfl' (List.prefix_refl _) rp2 (by simp only [Is])⟩
def gIfE (t : GT') (a b : GE') : GE' := fun Γ M => (t Γ M).bind fun c M1 => if c then a Γ M1 else b Γ M1
theorem ge_ifExp {c : Expr} {tc : GT'} (hc : GT X W E c tc) (ha : GE X W E a ga) (hb : GE X W E b gb) : GE X W E (.IfExp c a b pos) (gIfE tc ga gb) :=
  mE (pe_ifExp hc ha hb) fun σ H Q ⟨ξ, Γ, M, F, ρ, en, rp, po⟩ => ⟨ξ, Γ, M, F, ρ, en, rp, po.bind.imp (by
    rintro c H1 ⟨c', M1, F1, ρ1, e1, p1, rp1, rfl, po1⟩
    cases c' with
    | true => exact ⟨ξ, Γ, M1, F1, ρ1, en.mono e1 p1, rp1, po1⟩
    | false => exact ⟨ξ, Γ, M1, F1, ρ1, en.mono e1 p1, rp1, po1⟩)⟩
/-! ### arguments, displays -/
variable {es : List Expr} {gs : GA'}
def gNil : GA' := fun _ M => .ok [] M
def gCons (a : GE') (b : GA') : GA' := fun Γ M => (a Γ M).bind fun x M1 => (b Γ M1).bind fun xs M2 => .ok (x :: xs) M2
theorem ga_nil : GA X W E [] gNil := mA pa_nil fun σ H Q ⟨ξ, Γ, M, F, ρ, en, rp, po⟩ => po [] F ρ H Le.rfl' (List.prefix_refl _) rp IsL.nil
theorem ga_cons (ha : GE X W E e ga) (hr : GA X W E es gs) (hs : starEach (e :: es) X.env = (false, eval e X.env) :: starEach es X.env := by rfl) : GA X W E (e :: es) (gCons ga gs) :=
  mA (pa_cons ha hr hs) fun σ H Q ⟨ξ, Γ, M, F, ρ, en, rp, po⟩ => ⟨ξ, Γ, M, F, ρ, en, rp, po.bind.imp (by
    rintro v H1 ⟨x, M1, F1, ρ1, e1, p1, rp1, ix, po1⟩
    refine ⟨ξ, Γ, M1, F1, ρ1, en.mono e1 p1, rp1, po1.bind.imp ?_⟩
    rintro vs H2 ⟨xs, M2, F2, ρ2, e2, p2, rp2, ixs, po2⟩
    exact po2 _ F2 ρ2 H2 Le.rfl' (List.prefix_refl _) rp2 (IsL.cons (ix.mono e2 p2) ixs))⟩
def gTup (t : GA') : GE' := fun Γ M => (t Γ M).bind fun xs M1 => if xs.length ≤ 1000000 then .ok (.tup xs) M1 else .no
def gLst (t : GA') : GE' := fun Γ M => (t Γ M).bind fun xs M1 => if xs.length ≤ 1000000 then .ok (.lst xs) M1 else .no
/-- a list that will be changed -/
def gLstM (t : GA') : GE' := fun Γ M => (t Γ M).bind fun xs M1 => if xs.length ≤ 1000000 then .ok (.ref M1.length) (M1 ++ [.lst xs]) else .no
theorem new_tup {F H : Hp} {M : Stor} {ρ : List Addr} {p : Addr} {xs : List D} {vs : List V} {Q : VK} {Z : XK} (rp : Rp W ξ M F H ρ) (hl : IsL W F ρ xs vs) (n : H p = none) (po : Po W ξ (Is W) F ρ (.ok (.tup xs) M) Q Z) : Q (.ref p) (upd H p (.tup vs)) := by
  have nF := rp.free n
  refine po _ _ ρ _ (Le.new nF) (List.prefix_refl _) (rp.new n) ?_
  simp only [Is]
  exact ⟨p, vs, rfl, SqT.of upd_same, hl.mono (Le.new nF) (List.prefix_refl _)⟩
theorem new_lst {F H : Hp} {M : Stor} {ρ : List Addr} {p : Addr} {xs : List D} {vs : List V} {Q : VK} {Z : XK} (rp : Rp W ξ M F H ρ) (hl : IsL W F ρ xs vs) (n : H p = none) (po : Po W ξ (Is W) F ρ (.ok (.lst xs) M) Q Z) : Q (.ref p) (upd H p (.lst vs)) := by
  have nF := rp.free n
  refine po _ _ ρ _ (Le.new nF) (List.prefix_refl _) (rp.new n) ?_
  simp only [Is]
  exact ⟨p, vs, rfl, upd_same, hl.mono (Le.new nF) (List.prefix_refl _)⟩
theorem new_lstM {F H : Hp} {M : Stor} {ρ : List Addr} {p : Addr} {xs : List D} {vs : List V} {Q : VK} {Z : XK} (rp : Rp W ξ M F H ρ) (hl : IsL W F ρ xs vs) (n : H p = none) (po : Po W ξ (Is W) F ρ (.ok (.ref M.length) (M ++ [.lst xs])) Q Z) : Q (.ref p) (upd H p (.lst vs)) := by
  refine po _ F (ρ ++ [p]) _ Le.rfl' (List.prefix_append _ _) (rp.mut n ⟨vs, rfl, hl.mono Le.rfl' (List.prefix_append _ _)⟩) ?_
  simp only [Is]
  exact ⟨p, rfl, by rw [List.getElem?_append_right (by rw [rp.len]; exact Nat.le_refl _), rp.len]; simp⟩
theorem ge_tup {x1} (h : GA X W E es gs) : GE X W E (.Tuple es x1 pos) (gTup gs) :=
  mE (pe_tup h) fun σ H Q ⟨ξ, Γ, M, F, ρ, en, rp, po⟩ => ⟨ξ, Γ, M, F, ρ, en, rp, po.bind.imp (by
    rintro vs H1 ⟨xs, M1, F1, ρ1, e1, p1, rp1, ix, po1⟩
    split at po1
    · rename_i hz
      exact ⟨small_line (by rw [ix.len]; exact hz), fun p n => new_tup rp1 ix n po1⟩
    · exact po1.elim)⟩
theorem ge_lst (h : GA X W E es gs) : GE X W E (.List es pos) (gLst gs) :=
  mE (pe_lst h) fun σ H Q ⟨ξ, Γ, M, F, ρ, en, rp, po⟩ => ⟨ξ, Γ, M, F, ρ, en, rp, po.bind.imp (by
    rintro vs H1 ⟨xs, M1, F1, ρ1, e1, p1, rp1, ix, po1⟩
    split at po1
    · rename_i hz
      exact ⟨small_line (by rw [ix.len]; exact hz), fun p n => new_lst rp1 ix n po1⟩
    · exact po1.elim)⟩
theorem ge_lstM (h : GA X W E es gs) : GE X W E (.List es pos) (gLstM gs) :=
  mE (pe_lst h) fun σ H Q ⟨ξ, Γ, M, F, ρ, en, rp, po⟩ => ⟨ξ, Γ, M, F, ρ, en, rp, po.bind.imp (by
    rintro vs H1 ⟨xs, M1, F1, ρ1, e1, p1, rp1, ix, po1⟩
    split at po1
    · rename_i hz
      exact ⟨small_line (by rw [ix.len]; exact hz), fun p n => new_lstM rp1 ix n po1⟩
    · exact po1.elim)⟩
end
end G

namespace G
open PySem PySem.Spec PyProof.Rows L2
/-! ### statements -/
section
variable {X : Cx} {W : Wd} {ξ : Xi} {E : Sg → XK} {a b e : Expr} {ga gb : GE'} {pos : Pos} {st : Stmt} {rest : List Stmt} {gs gr : GS'}
def gSeq (a b : GS') : GS' := fun Γ M => match a Γ M with
  | .nx Γ1 M1 => b Γ1 M1
  | r => r
def gSkip : GS' := fun Γ M => .nx Γ M
def gRet (a : GE') : GS' := fun Γ M => (a Γ M).bindS Γ fun d M1 => .rt d M1
def gRetN : GS' := fun _ M => .rt .non M
def gExpr (a : GE') : GS' := fun Γ M => (a Γ M).bindS Γ fun _ M1 => .nx Γ M1
def gSet (i : Nat) (a : GE') : GS' := fun Γ M => (a Γ M).bindS Γ fun d M1 => .nx (Γ.set i (some d)) M1
def gIf (t : GT') (a b : GS') : GS' := fun Γ M => (t Γ M).bindS Γ fun c M1 => if c then a Γ M1 else b Γ M1
def gBreak : GS' := fun Γ M => .bk Γ M
def gCont : GS' := fun Γ M => .ct Γ M
theorem gs_nil : GSs X W E [] gSkip := mSs pss_nil fun N σ H ⟨ξ, Γ, M, F, ρ, en, rp, po⟩ => po σ F ρ H Le.rfl' (List.prefix_refl _) rp en
theorem gs_one (h : GS X W E st gs) : GSs X W E [st] gs := pss_one h
theorem gs_cons (h1 : GS X W E st gs) (h2 : GSs X W E rest gr) : GSs X W E (st :: rest) (gSeq gs gr) :=
  mSs (pss_cons h1 h2) fun N σ H ⟨ξ, Γ, M, F, ρ, en, rp, po⟩ => by
    refine ⟨ξ, Γ, M, F, ρ, en, rp, ?_⟩
    unfold gSeq at po
    cases e : gs Γ M with
    | nx Γ1 M1 =>
      rw [e] at po
      exact fun σ' F' ρ' H' le p rp' en' => ⟨ξ, Γ1, M1, F', ρ', en', rp', po.mono le p⟩
    | rt d M1 => rw [e] at po; exact po
    | bk Γ1 M1 => rw [e] at po; exact po
    | ct Γ1 M1 => rw [e] at po; exact po
    | ex c fs Γ1 M1 => rw [e] at po; exact po
    | no => rw [e] at po; exact po
theorem gs_pass : GS X W E (.Pass pos) gSkip := mS ps_pass fun N σ H ⟨ξ, Γ, M, F, ρ, en, rp, po⟩ => po σ F ρ H Le.rfl' (List.prefix_refl _) rp en
theorem gs_break : GS X W E (.Break pos) gBreak := mS ps_break fun N σ H ⟨ξ, Γ, M, F, ρ, en, rp, po⟩ => po σ F ρ H Le.rfl' (List.prefix_refl _) rp en
theorem gs_continue : GS X W E (.Continue pos) gCont := mS ps_continue fun N σ H ⟨ξ, Γ, M, F, ρ, en, rp, po⟩ => po σ F ρ H Le.rfl' (List.prefix_refl _) rp en
theorem gs_ret (h : GE X W E e ga) : GS X W E (.Return (some e) pos) (gRet ga) :=
  mS (ps_ret h) fun N σ H ⟨ξ, Γ, M, F, ρ, en, rp, po⟩ => ⟨ξ, Γ, M, F, ρ, en, rp, (Po.bindS en po).imp (by
    rintro v H1 ⟨x, M1, F1, ρ1, e1, p1, rp1, ix, po1⟩
    exact po1 v F1 ρ1 H1 Le.rfl' (List.prefix_refl _) rp1 ix)⟩
theorem gs_retN : GS X W E (.Return none pos) gRetN :=
  mS ps_retN fun N σ H ⟨ξ, Γ, M, F, ρ, en, rp, po⟩ => po .non F ρ H Le.rfl' (List.prefix_refl _) rp (by simp only [Is])
theorem gs_expr (h : GE X W E e ga) (hs : swapsWith e none pos.line X.env = pure false := by rfl) : GS X W E (.Expr e pos) (gExpr ga) :=
  mS (ps_expr h hs) fun N σ H ⟨ξ, Γ, M, F, ρ, en, rp, po⟩ => ⟨ξ, Γ, M, F, ρ, en, rp, (Po.bindS en po).imp (by
    rintro v H1 ⟨x, M1, F1, ρ1, e1, p1, rp1, ix, po1⟩
    exact po1 σ F1 ρ1 H1 Le.rfl' (List.prefix_refl _) rp1 (en.mono e1 p1))⟩
theorem gs_set {i : Nat} {x : Str} {pos' : Pos} (hN : X.N.Nodup) (hi : X.N[i]? = some x) (hx : Loc X.env.scope x) (he : GE X W E e ga) (hs : swapsWith e (some (.Name x pos')) pos.line X.env = pure false := by rfl)
    (hf : X.fn x = true ∨ X.env.scope.names.lookup x = some .local := by first | exact .inl rfl | exact .inr rfl) : GS X W E (.Assign [.Name x pos'] e pos) (gSet i ga) :=
  mS (ps_set hN hi hx he hs hf) fun N σ H ⟨ξ, Γ, M, F, ρ, en, rp, po⟩ => ⟨ξ, Γ, M, F, ρ, en, rp, (Po.bindS en po).imp (by
    rintro v H1 ⟨x, M1, F1, ρ1, e1, p1, rp1, ix, po1⟩
    exact po1 _ F1 ρ1 H1 Le.rfl' (List.prefix_refl _) rp1 ((en.mono e1 p1).set ix))⟩
theorem gs_if {c : Expr} {l m : List Stmt} {tc : GT'} (hc : GT X W E c tc) (ha : GSs X W E l gs) (hb : GSs X W E m gr) : GS X W E (.If c l m pos) (gIf tc gs gr) :=
  mS (ps_if hc ha hb) fun N σ H ⟨ξ, Γ, M, F, ρ, en, rp, po⟩ => ⟨ξ, Γ, M, F, ρ, en, rp, (Po.bindS en po).imp (by
    rintro c H1 ⟨c', M1, F1, ρ1, e1, p1, rp1, rfl, po1⟩
    cases c' with
    | true => exact ⟨ξ, Γ, M1, F1, ρ1, en.mono e1 p1, rp1, po1⟩
    | false => exact ⟨ξ, Γ, M1, F1, ρ1, en.mono e1 p1, rp1, po1⟩)⟩
/-- code that is never reached -/
def gStuck : GS' := fun _ _ => .no
theorem gs_stuck : GS X W E st gStuck := mS ps_never fun N σ H ⟨ξ, Γ, M, F, ρ, en, rp, po⟩ => po
theorem gss_stuck {l : List Stmt} : GSs X W E l gStuck := mSs pss_never fun N σ H ⟨ξ, Γ, M, F, ρ, en, rp, po⟩ => po
/-- x op= e -/
def gAug (i : Nat) (f : D → D → Stor → R D) (a : GE') : GS' := fun Γ M => match Γ[i]? with
  | some (some x) => ((a Γ M).bind fun y M1 => f x y M1).bindS Γ fun d M2 => .nx (Γ.set i (some d)) M2
  | _ => .no
theorem gs_aug {i : Nat} {x : Str} {pos' : Pos} {op : Operator} {f : D → D → Stor → R D} (hN : X.N.Nodup) (hi : X.N[i]? = some x) (hx : Loc X.env.scope x) (ho : OpG X W E (inplaceOp op) f) (he : GE X W E e ga)
    (hf : X.fn x = true ∨ X.env.scope.names.lookup x = some .local := by first | exact .inl rfl | exact .inr rfl) : GS X W E (.AugAssign (.Name x pos') op e pos) (gAug i f ga) := by
  refine ⟨fun pins s σ H N I h => ?_⟩
  obtain ⟨ξ, Γ, M, F, ρ, en, rp, po⟩ := h
  unfold gAug at po
  split at po
  · rename_i dx hdx
    obtain ⟨vx, ex, ix⟩ := en.at_ i dx hdx
    obtain ⟨m, hn, hl⟩ := I.loc
    have vis : Vis X.env.scope x := by rcases hx with k | k; exact .inl k; exact .inr (.inl k)
    obtain ⟨u, r, l⟩ := hl i x vx hi ex vis
    refine wpAny_AugAssign_Name ?_
    have go : wpAny (model X.prog X.w) X.A (eval e X.env) (fun w' s2 => wpAny (model X.prog X.w) X.A (inplaceOp op u w') (fun r s3 => wpAny (model X.prog X.w) X.A (storeName X.env x r) (fun _ => SP X pins N .next) X.xe s3) X.xe s2) X.xe s := by
      refine thn (he.run pins s σ H _ I ⟨ξ, Γ, M, F, ρ, en, rp, Po.bind (rel2 := Is W) (Po.bindS (rel := Is W) en po)⟩) ?_
      rintro w' s1 ⟨vy, H1, I1, r1, y, M1, F1, ρ1, e1, p1, rp1, iy, po1⟩
      refine thn (ho ξ pins s1 σ H1 M1 F1 ρ1 dx y vx vy u w' _ I1 r r1 rp1 (ix.mono e1 p1) iy po1) ?_
      rintro z s2 ⟨vz, H2, I2, r2, dz, M2, F2, ρ2, e2, p2, rp2, iz, po2⟩
      refine store_ok I2 hN hi hx r2 (fun s3 I3 => ⟨_, H2, I3, ?_⟩) hf
      exact po2 _ F2 ρ2 H2 Le.rfl' (List.prefix_refl _) rp2 (((en.mono e2 p2)).set iz)
    rcases l with ⟨hk, hm⟩ | ⟨hk, c, hc, hcell⟩
    · exact wpAny_loadName_local I.ok.kind hk hn hm go
    · rcases hk with hk | hk
      · exact wpAny_loadName_cell I.ok.kind hk hc hcell go
      · have z : X.env.scope.names.lookup x = some .free := hk
        rcases hx with k | k <;> (rw [k] at z; cases z)
  · exact po.elim
end
end G

namespace G
open PySem PySem.Spec PyProof.Rows L2
section
variable {X : Cx} {W : Wd} {ξ : Xi} {E : Sg → XK} {a b e : Expr} {ga gb : GE'} {pos : Pos} {st : Stmt} {body : List Stmt} {gs gr : GS'}
/-! ### while -/
def gWhile (t : GT') (b : GS') : Nat → GS'
  | 0 => fun _ _ => .no
  | n + 1 => fun Γ M => (t Γ M).bindS Γ fun c M1 => if c then (match b Γ M1 with
    | .nx Γ2 M2 => gWhile t b n Γ2 M2
    | .ct Γ2 M2 => gWhile t b n Γ2 M2
    | .bk Γ2 M2 => .nx Γ2 M2
    | r => r) else .nx Γ M1
theorem gs_while (n : Nat) {c : Expr} {tc : GT'} (hp : PassesOwn (model X.prog X.w) X.A X.env X.xe) (hc : GT X W E c tc) (hb : GSs X W E body gs) : GS X W E (.While c body [] pos) (gWhile tc gs n) :=
  mS (ps_while hp hc hb) fun N σ H h => by
    refine ⟨fun m σ H => ∃ ξ Γ M F ρ, En W Γ σ F ρ ∧ Rp W ξ M F H ρ ∧ PoS W ξ F ρ (gWhile tc gs m Γ M) N E, ⟨n, h⟩, ?_⟩
    rintro m σ H ⟨ξ, Γ, M, F, ρ, en, rp, po⟩
    cases m with
    | zero => exact po.elim
    | succ m =>
      refine ⟨ξ, Γ, M, F, ρ, en, rp, (Po.bindS en po).imp ?_⟩
      rintro c H1 ⟨c', M1, F1, ρ1, e1, p1, rp1, rfl, po1⟩
      cases c' with
      | false => exact po1 σ F1 ρ1 H1 Le.rfl' (List.prefix_refl _) rp1 (en.mono e1 p1)
      | true =>
        refine ⟨fun σ' H' => ∃ ξ Γ M F ρ, En W Γ σ' F ρ ∧ Rp W ξ M F H' ρ ∧ PoS W ξ F ρ (gWhile tc gs m Γ M) N E, fun σ' H' z => ⟨m, Nat.lt_succ_self m, z⟩, ξ, Γ, M1, F1, ρ1, en.mono e1 p1, rp1, ?_⟩
        simp only [if_true] at po1
        cases e : gs Γ M1 with
        | nx Γ2 M2 => rw [e] at po1; exact fun σ' F' ρ' H' le p rp' en' => ⟨ξ, Γ2, M2, F', ρ', en', rp', po1.mono le p⟩
        | ct Γ2 M2 => rw [e] at po1; exact fun σ' F' ρ' H' le p rp' en' => ⟨ξ, Γ2, M2, F', ρ', en', rp', po1.mono le p⟩
        | bk Γ2 M2 => rw [e] at po1; exact po1
        | rt d M2 => rw [e] at po1; exact po1
        | ex c fs Γ2 M2 => rw [e] at po1; exact po1
        | no => rw [e] at po1; exact po1
/-! ### targets -/
abbrev GG' := D → Gam → Stor → Option (Gam × Stor)
def PoG (W : Wd) (ξ : Xi) (F : Hp) (ρ : List Addr) (r : Option (Gam × Stor)) (Q : Sg → Hp → Prop) : Prop :=
  match r with
  | some (g, M) => ∀ σ' F' ρ' H', Le F F' → ρ <+: ρ' → Rp W ξ M F' H' ρ' → En W g σ' F' ρ' → Q σ' H'
  | none => False
theorem PoG.mono {F F' : Hp} {ρ ρ' : List Addr} {r : Option (Gam × Stor)} {Q : Sg → Hp → Prop} (h : PoG W ξ F ρ r Q) (e : Le F F') (p : ρ <+: ρ') : PoG W ξ F' ρ' r Q := by
  cases r with
  | none => exact h
  | some q => exact fun v F2 ρ2 H2 e2 p2 => h v F2 ρ2 H2 (e.tr e2) (p.trans p2)
def tGG (W : Wd) (g : GG') : TG := fun v σ H Q => ∃ ξ d Γ M F ρ, Is W F ρ d v ∧ En W Γ σ F ρ ∧ Rp W ξ M F H ρ ∧ PoG W ξ F ρ (g d Γ M) Q
abbrev GG (X : Cx) (W : Wd) (e : Expr) (g : GG') : Prop := PG X e (tGG W g)
theorem mG {t t' : TG} (h : PG X e t) (k : ∀ v σ H Q, t' v σ H Q → t v σ H Q) : PG X e t' := ⟨fun pins s σ H v u Q I r z => h.run pins s σ H v u Q I r (k v σ H Q z)⟩
def ggName (i : Nat) : GG' := fun d Γ M => some (Γ.set i (some d), M)
theorem gg_name {i : Nat} {x : Str} (h : PG X (.Name x pos) (gName i)) : GG X W (.Name x pos) (ggName i) :=
  mG h fun v σ H Q ⟨ξ, d, Γ, M, F, ρ, is, en, rp, po⟩ => po _ F ρ H Le.rfl' (List.prefix_refl _) rp (en.set is)
/-- several targets, one behind another -/
abbrev GGs' := List D → Gam → Stor → Option (Gam × Stor)
def ggNil : GGs' := fun ds Γ M => match ds with
  | [] => some (Γ, M)
  | _ => none
def ggCons (g : GG') (r : GGs') : GGs' := fun ds Γ M => match ds with
  | d :: ds => (match g d Γ M with
    | some (Γ1, M1) => r ds Γ1 M1
    | none => none)
  | [] => none
def tGGs (W : Wd) (g : GGs') : TGs := fun vs σ H Q => ∃ ξ ds Γ M F ρ, IsL W F ρ ds vs ∧ En W Γ σ F ρ ∧ Rp W ξ M F H ρ ∧ PoG W ξ F ρ (g ds Γ M) Q
abbrev GGs (X : Cx) (W : Wd) (es : List Expr) (g : GGs') : Prop := PGs X es (tGGs W g)
theorem mGs {es : List Expr} {t t' : TGs} (h : PGs X es t) (k : ∀ v σ H Q, t' v σ H Q → t v σ H Q) : PGs X es t' := ⟨fun pins s σ H v u Q I r z => h.run pins s σ H v u Q I r (k v σ H Q z)⟩
theorem ggs_nil : GGs X W [] ggNil := mGs pgs_nil fun vs σ H Q ⟨ξ, ds, Γ, M, F, ρ, is, en, rp, po⟩ => by
  cases ds with
  | nil => exact ⟨IsL.nil_iff.mp is, po σ F ρ H Le.rfl' (List.prefix_refl _) rp en⟩
  | cons d ds => exact po.elim
theorem ggs_cons {es : List Expr} {g : GG'} {r : GGs'} (h1 : GG X W e g) (h2 : GGs X W es r) (hs : (assignEach (e :: es) X.env).map (·.2) = assign e X.env :: (assignEach es X.env).map (·.2) := by rfl) : GGs X W (e :: es) (ggCons g r) :=
  mGs (pgs_cons h1 h2 hs) fun vs σ H Q ⟨ξ, ds, Γ, M, F, ρ, is, en, rp, po⟩ => by
    cases ds with
    | nil => exact po.elim
    | cons d ds =>
      obtain ⟨v, vr, rfl, i1, i2⟩ := IsL.cons_iff.mp is
      refine ⟨v, vr, rfl, ξ, d, Γ, M, F, ρ, i1, en, rp, ?_⟩
      unfold ggCons at po
      simp only at po
      cases e : g d Γ M with
      | none => rw [e] at po; exact po.elim
      | some q =>
        rw [e] at po
        exact fun σ' F' ρ' H' le p rp' en' => ⟨ξ, ds, q.1, q.2, F', ρ', i2.mono le p, en', rp', po.mono le p⟩
def ggTup (n : Nat) (r : GGs') : GG' := fun d Γ M => match d with
  | .tup ds => if ds.length = n then r ds Γ M else none
  | _ => none
theorem gg_tup {es : List Expr} {k n : Nat} {r : GGs'} (hK : X.K = W.K) (hc : X.calm = true) (h : GGs X W es r) (hn : (assignEach es X.env).length = n := by rfl) (hst : (assignEach es X.env).findIdx? (·.1) = none := by rfl) : GG X W (.Tuple es k pos) (ggTup n r) :=
  mG (pg_tup hc h hn hst) fun v σ H Q ⟨ξ, d, Γ, M, F, ρ, is, en, rp, po⟩ => by
    cases d with
    | tup ds =>
      simp only [Is] at is
      obtain ⟨p, vs, rfl, q, hl⟩ := is
      simp only [ggTup] at po
      split at po
      · rename_i hz
        exact ⟨p, vs, rfl, by rw [hK]; exact rp.sub.sqT q, by rw [hl.len]; exact hz, ξ, ds, Γ, M, F, ρ, hl, en, rp, po⟩
      · exact po.elim
    | _ => exact po.elim
def gAsg (g : GG') (a : GE') : GS' := fun Γ M => (a Γ M).bindS Γ fun d M1 => match g d Γ M1 with
  | some (Γ2, M2) => .nx Γ2 M2
  | none => .no
theorem gs_asg {tg : Expr} {g : GG'} (he : GE X W E e ga) (hg : GG X W tg g) (hs : swapsWithSole [tg] e pos.line X.env = pure false := by rfl) (hw : swappedStores [tg] e X.env = pure none := by rfl)
    (h1 : (assignEach [tg] X.env).map (·.2) = [assign tg X.env] := by rfl) : GS X W E (.Assign [tg] e pos) (gAsg g ga) :=
  mS (ps_asg he hg hs hw h1) fun N σ H ⟨ξ, Γ, M, F, ρ, en, rp, po⟩ => ⟨ξ, Γ, M, F, ρ, en, rp, (Po.bindS en po).imp (by
    rintro v H1 ⟨x, M1, F1, ρ1, e1, p1, rp1, ix, po1⟩
    refine ⟨ξ, x, Γ, M1, F1, ρ1, ix, en.mono e1 p1, rp1, ?_⟩
    cases e : g x Γ M1 with
    | none => rw [e] at po1; exact po1.elim
    | some q => rw [e] at po1; exact po1)⟩
/-! ### for -/
/-- what is walked yields these, as long as the store is kept -/
def GoodIt (W : Wd) (F0 : Hp) (ρ0 : List Addr) (q : List D × (Stor → Prop)) (J : It) : Prop :=
  ∀ (ξ : Xi) (i : Nat) (M : Stor) (F H : Hp) (ρ : List Addr), Le F0 F → ρ0 <+: ρ → Rp W ξ M F H ρ → q.2 M →
    (∀ d, q.1[i]? = some d → J.go i H ∧ ∀ x H', J.yld i H x H' → ∃ F', Le F F' ∧ Rp W ξ M F' H' ρ ∧ Is W F' ρ d x) ∧ (q.1.length ≤ i → J.stop i H)
abbrev GI' := Gam → Stor → R (List D × (Stor → Prop))
def tGI (W : Wd) (E : Sg → XK) (g : GI') : TI := fun σ H Q => ∃ ξ Γ M F ρ, En W Γ σ F ρ ∧ Rp W ξ M F H ρ ∧ Po W ξ (fun F ρ q J => GoodIt W F ρ q J) F ρ (g Γ M) Q (E σ)
abbrev GI (X : Cx) (W : Wd) (E : Sg → XK) (tg e : Expr) (g : GI') : Prop := PI X tg e (tGI W E g)
theorem mI {tg : Expr} {t t' : TI} (h : PI X tg e t) (k : ∀ σ H Q, t' σ H Q → t σ H Q) : PI X tg e t' := ⟨fun pins s σ H Q I z => h.run pins s σ H Q I (k σ H Q z)⟩
open Classical in
noncomputable def loopG (keep : Stor → Prop) (tg : GG') (b : GS') : List D → Gam → Stor → RS
  | [], Γ, M => .nx Γ M
  | d :: ds, Γ, M => match tg d Γ M with
    | some (Γ1, M1) => (match b Γ1 M1 with
      | .nx Γ2 M2 => if keep M2 then loopG keep tg b ds Γ2 M2 else .no
      | .ct Γ2 M2 => if keep M2 then loopG keep tg b ds Γ2 M2 else .no
      | .bk Γ2 M2 => .nx Γ2 M2
      | r => r)
    | none => .no
open Classical in
noncomputable def gFor (it : GI') (tg : GG') (b : GS') : GS' := fun Γ M => (it Γ M).bindS Γ fun q M1 => if q.2 M1 then loopG q.2 tg b q.1 Γ M1 else .no
theorem gs_for {iter tg : Expr} {gi : GI'} {g : GG'} (hp : PassesOwn (model X.prog X.w) X.A X.env X.xe) (hc : X.calm = true) (hi : GI X W E tg iter gi) (hg : GG X W tg g) (hb : GSs X W E body gs)
    (hs : ∀ x, foldedSetIterable iter X.env x = pure x := by intro _; rfl) : GS X W E (.For tg iter body [] pos) (gFor gi g gs) :=
  mS (ps_for hp hc hi hg hb hs) fun N σ H ⟨ξ, Γ, M, F, ρ, en, rp, po⟩ => ⟨ξ, Γ, M, F, ρ, en, rp, (Po.bindS en po).imp (by
    rintro J H0 ⟨q, M0, F0, ρ0, e0, p0, rp0, good, po0⟩
    split at po0
    case isFalse => exact po0.elim
    rename_i k0
    refine ⟨fun i m σ H => m = q.1.length - i ∧ i ≤ q.1.length ∧ ∃ Γ M F ρ, Le F0 F ∧ ρ0 <+: ρ ∧ q.2 M ∧ En W Γ σ F ρ ∧ Rp W ξ M F H ρ ∧ PoS W ξ F ρ (loopG q.2 g gs (q.1.drop i) Γ M) N E,
      ⟨_, rfl, Nat.zero_le _, Γ, M0, F0, ρ0, Le.rfl', List.prefix_refl _, k0, en.mono e0 p0, rp0, by simpa using po0⟩, ?_⟩
    rintro i m σ1 H1 ⟨rfl, hi, Γ1, M1, F1, ρ1, le1, p1, k1, en1, rp1, po1⟩
    obtain ⟨g1, g2⟩ := good ξ i M1 F1 H1 ρ1 le1 p1 rp1 k1
    by_cases hlt : i < q.1.length
    · right
      have ed : q.1[i]? = some q.1[i] := List.getElem?_eq_getElem hlt
      rw [List.drop_eq_getElem_cons hlt] at po1
      obtain ⟨go, yl⟩ := g1 _ ed
      refine ⟨go, fun σ' H' => ∃ Γ M F ρ, Le F0 F ∧ ρ0 <+: ρ ∧ q.2 M ∧ En W Γ σ' F ρ ∧ Rp W ξ M F H' ρ ∧ PoS W ξ F ρ (loopG q.2 g gs (q.1.drop (i + 1)) Γ M) N E,
        fun σ' H' z => ⟨_, by omega, rfl, hlt, z⟩, fun x H' y => ?_⟩
      obtain ⟨F2, le2, rp2, ix⟩ := yl x H' y
      refine ⟨ξ, _, Γ1, M1, F2, ρ1, ix, en1.mono le2 (List.prefix_refl _), rp2, ?_⟩
      unfold loopG at po1
      cases e : g q.1[i] Γ1 M1 with
      | none => rw [e] at po1; exact po1.elim
      | some z =>
        obtain ⟨Γ3, M3⟩ := z
        rw [e] at po1
        refine fun σ3 F3 ρ3 H3 le3 p3 rp3 en3 => ⟨ξ, Γ3, M3, F3, ρ3, en3, rp3, ?_⟩
        simp only at po1
        cases eb : gs Γ3 M3 with
        | nx Γ4 M4 =>
          rw [eb] at po1
          simp only at po1
          split at po1
          · rename_i k4
            exact fun σ' F' ρ' H' le p rp' en' => ⟨Γ4, M4, F', ρ', le1.tr (le2.tr (le3.tr le)), p1.trans (p3.trans p), k4, en', rp', po1.mono (le2.tr (le3.tr le)) (p3.trans p)⟩
          · exact po1.elim
        | ct Γ4 M4 =>
          rw [eb] at po1
          simp only at po1
          split at po1
          · rename_i k4
            exact fun σ' F' ρ' H' le p rp' en' => ⟨Γ4, M4, F', ρ', le1.tr (le2.tr (le3.tr le)), p1.trans (p3.trans p), k4, en', rp', po1.mono (le2.tr (le3.tr le)) (p3.trans p)⟩
          · exact po1.elim
        | bk Γ4 M4 => rw [eb] at po1; exact (PoS.mono (r := .nx Γ4 M4) po1 (le2.tr le3) p3)
        | rt d M4 => rw [eb] at po1; exact (PoS.mono (r := .rt d M4) po1 (le2.tr le3) p3)
        | ex c fs Γ4 M4 => rw [eb] at po1; exact (PoS.mono (r := .ex c fs Γ4 M4) po1 (le2.tr le3) p3)
        | no => rw [eb] at po1; exact po1.elim
    · left
      have hi' : i = q.1.length := by omega
      refine ⟨g2 (by omega), ?_⟩
      subst hi'
      rw [List.drop_length] at po1
      exact po1 σ1 F1 ρ1 H1 Le.rfl' (List.prefix_refl _) rp1 en1)⟩
end
end G

namespace G
open PySem PySem.Spec PyProof.Rows L2
/-! ### what is new is made firm -/
mutual
def frzD (look : Nat → Option D) : D → Option D
  | .ref k => look k
  | .tup l => (frzL look l).map D.tup
  | .lst l => (frzL look l).map D.lst
  | .lck l => (frzL look l).map D.lck
  | .ins c l => (frzL look l).map (D.ins c)
  | .dct ks l => (frzL look l).map (D.dct ks)
  | .exc c o l => (frzL look l).map (D.exc c o)
  | .lam f c q us l => (frzL look l).map (D.lam f c q us)
  | .cls c => some (.cls c)
  | .non => some .non
  | .bl b => some (.bl b)
  | .int i => some (.int i)
  | .str x => some (.str x)
  | .ty n => some (.ty n)
def frzL (look : Nat → Option D) : List D → Option (List D)
  | [] => some []
  | d :: ds => match frzD look d, frzL look ds with
    | some x, some xs => some (x :: xs)
    | _, _ => none
end
theorem frzL_len {look : Nat → Option D} : ∀ {l l' : List D}, frzL look l = some l' → l'.length = l.length
  | [], l', e => by simp only [frzL, Option.some.injEq] at e; subst e; rfl
  | d :: ds, l', e => by
    simp only [frzL] at e
    cases e1 : frzD look d with
    | none => rw [e1] at e; cases e
    | some x =>
      cases e2 : frzL look ds with
      | none => rw [e1, e2] at e; cases e
      | some xs => rw [e1, e2] at e; cases e; simp [frzL_len e2]
def lookN (n : Nat) (M : Stor) : Nat → Nat → Option D
  | 0, k => if k < n then some (.ref k) else none
  | f + 1, k => if k < n then some (.ref k) else match M[k]? with
    | some (.lst l) => (frzL (lookN n M f) l).map D.lst
    | some (.ins c l) => (frzL (lookN n M f) l).map (D.ins c)
    | some (.dct ks l) => (frzL (lookN n M f) l).map (D.dct ks)
    | _ => none
mutual
def D.low (n : Nat) : D → Bool
  | .ref k => decide (k < n)
  | .tup l => lowL n l
  | .lst l => lowL n l
  | .lck l => lowL n l
  | .ins _ l => lowL n l
  | .dct _ l => lowL n l
  | .exc _ _ l => lowL n l
  | .lam _ _ _ _ l => lowL n l
  | .cls _ => true
  | .non => true
  | .bl _ => true
  | .int _ => true
  | .str _ => true
  | .ty _ => true
def lowL (n : Nat) : List D → Bool
  | [] => true
  | d :: ds => d.low n && lowL n ds
end
def MO.low (n : Nat) : MO → Bool
  | .lst l => lowL n l
  | .ins _ l => lowL n l
  | .dct _ l => lowL n l
  | .dead => true
section
variable {W : Wd} {ξ : Xi} {F H : Hp} {ρ ρ' : List Addr} {M : Stor}
mutual
theorem Is.low : ∀ {d : D} {v : V}, Is W F ρ d v → d.low ρ.length = true
  | .ref k, _, h => by
    simp only [Is] at h; obtain ⟨a, _, e⟩ := h
    simp only [D.low, decide_eq_true_eq]
    exact (List.getElem?_eq_some_iff.mp e).1
  | .tup l, _, h => by simp only [Is] at h; obtain ⟨a, vs, _, _, hl⟩ := h; simpa only [D.low] using IsL.low hl
  | .lst l, _, h => by simp only [Is] at h; obtain ⟨a, vs, _, _, hl⟩ := h; simpa only [D.low] using IsL.low hl
  | .lck l, _, h => by simp only [Is] at h; obtain ⟨a, vs, _, _, hl⟩ := h; simpa only [D.low] using IsL.low hl
  | .dct ks l, _, h => by simp only [Is] at h; obtain ⟨a, vs, _, _, _, hl⟩ := h; simpa only [D.low] using IsL.low hl
  | .cls _, _, _ => by simp only [D.low]
  | .exc c own l, _, h => by
    simp only [Is] at h; obtain ⟨a, d, _, _, n0, n1⟩ := h
    cases own with
    | false => obtain ⟨_, rfl⟩ := n0 rfl; simp only [D.low, lowL]
    | true => obtain ⟨x, fvs, _, _, _, hl⟩ := n1 rfl; simpa only [D.low] using IsL.low hl
  | .lam f c q us l, _, h => by simp only [Is] at h; simpa only [D.low] using IsL.low h.2.2
  | .ins c l, _, h => by simp only [Is] at h; obtain ⟨a, dx, fvs, _, _, _, hl⟩ := h; simpa only [D.low] using IsL.low hl
  | .non, _, _ => by simp only [D.low]
  | .bl _, _, _ => by simp only [D.low]
  | .int _, _, _ => by simp only [D.low]
  | .str _, _, _ => by simp only [D.low]
  | .ty _, _, _ => by simp only [D.low]
theorem IsL.low : ∀ {ds : List D} {vs : List V}, IsL W F ρ ds vs → lowL ρ.length ds = true
  | [], _, _ => by simp only [lowL]
  | d :: ds, _, h => by
    obtain ⟨v, r, _, h1, h2⟩ := IsL.cons_iff.mp h
    simp only [lowL, Bool.and_eq_true]
    exact ⟨Is.low h1, IsL.low h2⟩
end
mutual
theorem Is.less (p : ρ <+: ρ') : ∀ {d : D} {v : V}, Is W F ρ' d v → d.low ρ.length = true → Is W F ρ d v
  | .ref k, _, h, b => by
    simp only [Is] at h ⊢; obtain ⟨a, e1, e⟩ := h
    simp only [D.low, decide_eq_true_eq] at b
    obtain ⟨t, rfl⟩ := p
    rw [List.getElem?_append_left b] at e
    exact ⟨a, e1, e⟩
  | .tup l, _, h, b => by simp only [Is] at h ⊢; obtain ⟨a, vs, e1, q, hl⟩ := h; exact ⟨a, vs, e1, q, IsL.less p hl (by simpa only [D.low] using b)⟩
  | .lst l, _, h, b => by simp only [Is] at h ⊢; obtain ⟨a, vs, e1, q, hl⟩ := h; exact ⟨a, vs, e1, q, IsL.less p hl (by simpa only [D.low] using b)⟩
  | .lck l, _, h, b => by simp only [Is] at h ⊢; obtain ⟨a, vs, e1, q, hl⟩ := h; exact ⟨a, vs, e1, q, IsL.less p hl (by simpa only [D.low] using b)⟩
  | .dct ks l, _, h, b => by simp only [Is] at h ⊢; obtain ⟨a, vs, e1, q, n, hl⟩ := h; exact ⟨a, vs, e1, q, n, IsL.less p hl (by simpa only [D.low] using b)⟩
  | .cls _, _, h, _ => by simpa only [Is] using h
  | .exc c own l, _, h, b => by
    simp only [Is] at h ⊢; obtain ⟨a, d, e1, q, n0, n1⟩ := h
    refine ⟨a, d, e1, q, n0, fun z => ?_⟩
    obtain ⟨x, fvs, ex, fx, nn, hl⟩ := n1 z
    exact ⟨x, fvs, ex, fx, nn, IsL.less p hl (by simpa only [D.low] using b)⟩
  | .lam f c q us l, _, h, b => by simp only [Is] at h ⊢; exact ⟨h.1, h.2.1, IsL.less p h.2.2 (by simpa only [D.low] using b)⟩
  | .ins c l, _, h, b => by simp only [Is] at h ⊢; obtain ⟨a, dx, fvs, e1, q, nn, hl⟩ := h; exact ⟨a, dx, fvs, e1, q, nn, IsL.less p hl (by simpa only [D.low] using b)⟩
  | .non, _, h, _ => by simpa only [Is] using h
  | .bl _, _, h, _ => by simpa only [Is] using h
  | .int _, _, h, _ => by simpa only [Is] using h
  | .str _, _, h, _ => by simpa only [Is] using h
  | .ty _, _, h, _ => by simpa only [Is] using h
theorem IsL.less (p : ρ <+: ρ') : ∀ {ds : List D} {vs : List V}, IsL W F ρ' ds vs → lowL ρ.length ds = true → IsL W F ρ ds vs
  | [], _, h, _ => by simpa only [IsL] using h
  | d :: ds, _, h, b => by
    obtain ⟨v, r, rfl, h1, h2⟩ := IsL.cons_iff.mp h
    simp only [lowL, Bool.and_eq_true] at b
    exact IsL.cons (Is.less p h1 b.1) (IsL.less p h2 b.2)
end
theorem MoIs.low {m : MO} {o : Option HO} (h : MoIs W F ρ m o) : m.low ρ.length = true := by
  cases m with
  | lst l => obtain ⟨vs, _, hl⟩ := h; exact hl.low
  | ins c l => obtain ⟨dx, fvs, _, _, hl⟩ := h; exact hl.low
  | dct ks l => obtain ⟨vs, _, _, hl⟩ := h; exact hl.low
  | dead => rfl
theorem MoIs.less (p : ρ <+: ρ') {m : MO} {o : Option HO} (h : MoIs W F ρ' m o) (b : m.low ρ.length = true) : MoIs W F ρ m o := by
  cases m with
  | lst l => obtain ⟨vs, a, hl⟩ := h; exact ⟨vs, a, hl.less p b⟩
  | ins c l => obtain ⟨dx, fvs, a, nn, hl⟩ := h; exact ⟨dx, fvs, a, nn, hl.less p b⟩
  | dct ks l => obtain ⟨vs, a, nn, hl⟩ := h; exact ⟨vs, a, nn, hl.less p b⟩
  | dead => exact h
/-- every object of a store that stands bears numbers of that store -/
theorem Rp.low (h : Rp W ξ M F H ρ) : ∀ m ∈ M, m.low M.length = true := fun m hm => by
  obtain ⟨i, hi, e⟩ := List.getElem_of_mem hm
  have hr : i < ρ.length := by rw [h.len]; exact hi
  obtain ⟨_, q⟩ := h.obj i m ρ[i] (by rw [List.getElem?_eq_getElem hi, e]) (List.getElem?_eq_getElem hr)
  have := q.low
  rw [h.len] at this; exact this
/-- the heap of what is firm, with all that the store has from n on -/
noncomputable def firm (F H : Hp) (l : List Addr) : Hp := fun a => if a ∈ l then H a else F a
theorem firm_le (rp : Rp W ξ M F H ρ') {n : Nat} : Le F (firm F H (ρ'.drop n)) := fun a o e => by
  unfold firm
  split
  · exact rp.sub _ _ e
  · exact e
theorem Rp.cut (rp : Rp W ξ M F H ρ') (p : ρ <+: ρ') (hb : ∀ m ∈ M.take ρ.length, m.low ρ.length = true) : Rp W ξ (M.take ρ.length) (firm F H (ρ'.drop ρ.length)) H ρ := by
  obtain ⟨t, rfl⟩ := p
  have hd : (ρ ++ t).drop ρ.length = t := by simp
  rw [hd]
  have nd := rp.nd
  rw [List.nodup_append] at nd
  refine ⟨fun a o e => ?_, ?_, nd.1, fun i m a em ea => ?_, fun q hq => by
    obtain ⟨q1, q2, q3⟩ := rp.xt q hq
    rw [List.mem_append, not_or] at q3
    refine ⟨q1, ?_, q3.1⟩
    unfold firm; rw [if_neg q3.2]; exact q2, fun q hq => by
    obtain ⟨t1, t2, t3, ps, t4, t5, t6⟩ := rp.tb q hq
    rw [List.mem_append, not_or] at t1
    have le : Le F (firm F H t) := by have := firm_le rp (n := ρ.length); rw [hd] at this; exact this
    refine ⟨t1.1, t2, ?_, ps, t4, t5, fun pos cv z => let ⟨c, c1, c2⟩ := t6 pos cv z; ⟨c, c1, le _ _ c2⟩⟩
    unfold firm; rw [if_neg t1.2]; exact t3⟩
  · unfold firm at e
    split at e
    · exact e
    · exact rp.sub _ _ e
  · have := rp.len; simp at this ⊢; omega
  · have hi : i < ρ.length := (List.getElem?_eq_some_iff.mp ea).1
    rw [List.getElem?_take_of_lt hi] at em
    have ea' : (ρ ++ t)[i]? = some a := by rw [List.getElem?_append_left hi]; exact ea
    obtain ⟨q1, q2⟩ := rp.obj i m a em ea'
    have hm : m ∈ M.take ρ.length := by
      have : (M.take ρ.length)[i]? = some m := by rw [List.getElem?_take_of_lt hi]; exact em
      exact List.mem_of_getElem? this
    have na : a ∉ t := fun hz => nd.2.2 a (List.mem_of_getElem? ea) a hz rfl
    have le : Le F (firm F H t) := by have := firm_le rp (n := ρ.length); rw [hd] at this; exact this
    refine ⟨?_, ((q2.mono le (List.prefix_refl _)).less (List.prefix_append _ _) (hb m hm))⟩
    unfold firm; rw [if_neg na]; exact q1
mutual
theorem frz_ok {look : Nat → Option D} {F2 : Hp} {ρ2 : List Addr} (le : Le F F2) (hlook : ∀ k d v, look k = some d → Is W F ρ (.ref k) v → Is W F2 ρ2 d v) :
    ∀ {d d' : D} {v : V}, frzD look d = some d' → Is W F ρ d v → Is W F2 ρ2 d' v
  | .ref k, d', v, e, h => hlook k d' v (by simpa only [frzD] using e) h
  | .tup l, d', v, e, h => by
    simp only [frzD, Option.map_eq_some_iff] at e; obtain ⟨l', el, rfl⟩ := e
    simp only [Is] at h ⊢; obtain ⟨a, vs, e1, q, hl⟩ := h
    exact ⟨a, vs, e1, le.sqT q, frzL_ok le hlook el hl⟩
  | .lst l, d', v, e, h => by
    simp only [frzD, Option.map_eq_some_iff] at e; obtain ⟨l', el, rfl⟩ := e
    simp only [Is] at h ⊢; obtain ⟨a, vs, e1, q, hl⟩ := h
    exact ⟨a, vs, e1, le _ _ q, frzL_ok le hlook el hl⟩
  | .lck l, d', v, e, h => by
    simp only [frzD, Option.map_eq_some_iff] at e; obtain ⟨l', el, rfl⟩ := e
    simp only [Is] at h ⊢; obtain ⟨a, vs, e1, q, hl⟩ := h
    exact ⟨a, vs, e1, le.sqL q, frzL_ok le hlook el hl⟩
  | .dct ks l, d', v, e, h => by
    simp only [frzD, Option.map_eq_some_iff] at e; obtain ⟨l', el, rfl⟩ := e
    simp only [Is] at h ⊢; obtain ⟨a, vs, e1, q, n, hl⟩ := h
    exact ⟨a, vs, e1, le _ _ q, by rw [n, frzL_len el], frzL_ok le hlook el hl⟩
  | .cls _, d', v, e, h => by simp only [frzD, Option.some.injEq] at e; subst e; simpa only [Is] using h
  | .exc c own l, d', v, e, h => by
    simp only [frzD, Option.map_eq_some_iff] at e; obtain ⟨l', el, rfl⟩ := e
    simp only [Is] at h ⊢; obtain ⟨a, d, e1, q, n0, n1⟩ := h
    refine ⟨a, d, e1, le _ _ q, fun z => ?_, fun z => ?_⟩
    · obtain ⟨z1, rfl⟩ := n0 z
      simp only [frzL, Option.some.injEq] at el
      exact ⟨z1, el.symm⟩
    · obtain ⟨x, fvs, ex, fx, nn, hl⟩ := n1 z
      exact ⟨x, fvs, ex, le _ _ fx, by rw [nn, frzL_len el], frzL_ok le hlook el hl⟩
  | .lam f c q us l, d', v, e, h => by
    simp only [frzD, Option.map_eq_some_iff] at e; obtain ⟨l', el, rfl⟩ := e
    simp only [Is] at h ⊢
    exact ⟨h.1, le _ _ h.2.1, frzL_ok le hlook el h.2.2⟩
  | .ins c l, d', v, e, h => by
    simp only [frzD, Option.map_eq_some_iff] at e; obtain ⟨l', el, rfl⟩ := e
    simp only [Is] at h ⊢; obtain ⟨a, dx, fvs, e1, q, nn, hl⟩ := h
    exact ⟨a, dx, fvs, e1, le _ _ q, by rw [nn, frzL_len el], frzL_ok le hlook el hl⟩
  | .non, d', v, e, h => by simp only [frzD, Option.some.injEq] at e; subst e; simpa only [Is] using h
  | .bl _, d', v, e, h => by simp only [frzD, Option.some.injEq] at e; subst e; simpa only [Is] using h
  | .int _, d', v, e, h => by simp only [frzD, Option.some.injEq] at e; subst e; simpa only [Is] using h
  | .str _, d', v, e, h => by simp only [frzD, Option.some.injEq] at e; subst e; simpa only [Is] using h
  | .ty _, d', v, e, h => by simp only [frzD, Option.some.injEq] at e; subst e; simpa only [Is] using h
theorem frzL_ok {look : Nat → Option D} {F2 : Hp} {ρ2 : List Addr} (le : Le F F2) (hlook : ∀ k d v, look k = some d → Is W F ρ (.ref k) v → Is W F2 ρ2 d v) :
    ∀ {ds ds' : List D} {vs : List V}, frzL look ds = some ds' → IsL W F ρ ds vs → IsL W F2 ρ2 ds' vs
  | [], ds', vs, e, h => by simp only [frzL, Option.some.injEq] at e; subst e; simpa only [IsL] using h
  | d :: ds, ds', vs, e, h => by
    obtain ⟨v, r, rfl, h1, h2⟩ := IsL.cons_iff.mp h
    simp only [frzL] at e
    cases e1 : frzD look d with
    | none => rw [e1] at e; cases e
    | some x =>
      cases e2 : frzL look ds with
      | none => rw [e1, e2] at e; cases e
      | some xs =>
        rw [e1, e2] at e
        cases e
        exact IsL.cons (frz_ok le hlook e1 h1) (frzL_ok le hlook e2 h2)
end
theorem look_ok (rp : Rp W ξ M F H ρ') (p : ρ <+: ρ') : ∀ (f k : Nat) (d : D) (v : V), lookN ρ.length M f k = some d → Is W F ρ' (.ref k) v → Is W (firm F H (ρ'.drop ρ.length)) ρ d v := by
  intro f
  have old : ∀ (k : Nat) (v : V), k < ρ.length → Is W F ρ' (.ref k) v → Is W (firm F H (ρ'.drop ρ.length)) ρ (.ref k) v := fun k v hk h =>
    (h.mono (firm_le rp) (List.prefix_refl _)).less p (by simp only [D.low, decide_eq_true_eq]; exact hk)
  induction f with
  | zero =>
    intro k d v e h
    unfold lookN at e
    split at e
    · rename_i hk; cases e; exact old k v hk h
    · cases e
  | succ f ih =>
    intro k d v e h
    unfold lookN at e
    split at e
    · rename_i hk; cases e; exact old k v hk h
    · rename_i hk
      simp only [Is] at h
      obtain ⟨a, rfl, ea⟩ := h
      have hmem : a ∈ ρ'.drop ρ.length := by
        obtain ⟨t, rfl⟩ := p
        rw [List.getElem?_append_right (by omega)] at ea
        simpa using List.mem_of_getElem? ea
      cases em : M[k]? with
      | none => rw [em] at e; cases e
      | some m =>
        rw [em] at e
        cases m with
        | lst l =>
          simp only [Option.map_eq_some_iff] at e; obtain ⟨l', el, rfl⟩ := e
          obtain ⟨_, vs, hv, hl⟩ := rp.obj k _ a em ea
          simp only [Is]
          exact ⟨a, vs, rfl, by unfold firm; rw [if_pos hmem]; exact hv, frzL_ok (firm_le rp) ih el hl⟩
        | ins c l =>
          simp only [Option.map_eq_some_iff] at e; obtain ⟨l', el, rfl⟩ := e
          obtain ⟨_, dx, fvs, hv, hn, hl⟩ := rp.obj k _ a em ea
          simp only [Is]
          exact ⟨a, dx, fvs, rfl, by unfold firm; rw [if_pos hmem]; exact hv, by rw [hn, frzL_len el], frzL_ok (firm_le rp) ih el hl⟩
        | dct ks l =>
          simp only [Option.map_eq_some_iff] at e; obtain ⟨l', el, rfl⟩ := e
          obtain ⟨_, vs, hv, hn, hl⟩ := rp.obj k _ a em ea
          simp only [Is]
          exact ⟨a, vs, rfl, by unfold firm; rw [if_pos hmem]; exact hv, by rw [hn, frzL_len el], frzL_ok (firm_le rp) ih el hl⟩
        | dead => cases e
end
def lowF (n : Nat) : Flds → Bool
  | none => true
  | some l => lowL n l
/-- what a call leaves in the store: n objects, as they were or bearing no new numbers -/
def Kept (M M' : Stor) : Prop := M'.take M.length = M ∨ ∀ m ∈ M'.take M.length, m.low M.length = true
open Classical in
/-- the new objects are made firm at a call's end -/
noncomputable def frz (M : Stor) (r : R D) : R D := match r with
  | .ok d M' => if M'.length = M.length then .ok d M' else if Kept M M' then (match frzD (lookN M.length M' 4) d with
    | some d' => .ok d' (M'.take M.length)
    | none => .no) else .no
  | .ex c fs M' => if M'.length = M.length then .ex c fs M' else if Kept M M' ∧ lowF M.length fs = true then .ex c fs (M'.take M.length) else .no
  | .no => .no
section
variable {W : Wd} {ξ : Xi} {F F' H H' : Hp} {ρ ρ' : List Addr} {M M' : Stor}
theorem Kept.low (k : Kept M M') (rp : Rp W ξ M F H ρ) : ∀ m ∈ M'.take M.length, m.low M.length = true := by
  rcases k with k | k
  · rw [k]; exact rp.low
  · exact k
theorem XcIs.mono {k : Nat} {fs : Flds} {dx : Option Addr} (h : XcIs W F ρ k fs dx) (e : Le F F') (p : ρ <+: ρ') : XcIs W F' ρ' k fs dx := by
  cases fs with
  | none => exact h
  | some q => obtain ⟨x, fvs, a, b, c, d⟩ := h; exact ⟨x, fvs, a, e _ _ b, c, d.mono e p⟩
theorem XcIs.less {k : Nat} {fs : Flds} {dx : Option Addr} (h : XcIs W F ρ' k fs dx) (p : ρ <+: ρ') (b : lowF ρ.length fs = true) : XcIs W F ρ k fs dx := by
  cases fs with
  | none => exact h
  | some q => obtain ⟨x, fvs, a, b', c, d⟩ := h; exact ⟨x, fvs, a, b', c, d.less p b⟩
/-- what is shown of the firm end is shown of the end -/
theorem Po.frz {r : R D} {Q : VK} {E : XK} (rp : Rp W ξ M F H ρ) (po : Po W ξ (Is W) F ρ (frz M r) Q E) : Po W ξ (Is W) F ρ r Q E := by
  cases r with
  | no => exact po
  | ok d M' =>
    unfold G.frz at po
    simp only at po
    split at po
    · exact po
    · split at po
      · rename_i hk
        cases e : frzD (lookN M.length M' 4) d with
        | none => rw [e] at po; exact po.elim
        | some d' =>
          rw [e] at po
          intro v F' ρ' H' le p rp' is
          have hl := hk.low rp
          rw [← rp.len] at hl e po
          refine po v (firm F' H' (ρ'.drop ρ.length)) ρ H' (le.tr (firm_le rp')) (List.prefix_refl _) (rp'.cut p hl) ?_
          exact frz_ok (firm_le rp') (look_ok rp' p 4) e is
      · exact po.elim
  | ex c fs M' =>
    unfold G.frz at po
    simp only at po
    split at po
    · exact po
    · split at po
      · rename_i hk
        intro dx F' ρ' H' le p rp' is
        have hl := hk.1.low rp
        have hf := hk.2
        rw [← rp.len] at hl po hf
        exact po dx (firm F' H' (ρ'.drop ρ.length)) ρ H' (le.tr (firm_le rp')) (List.prefix_refl _) (rp'.cut p hl) ((is.mono (firm_le rp') (List.prefix_refl _)).less p hf)
      · exact po.elim
end
end G

namespace G
open PySem PySem.Spec PyProof.Rows L2
/-! ### defs and calls -/
/-- a def's promise -/
def spG (W : Wd) (g : List D → Stor → R D) : Sp := fun vs H Q E => ∃ ξ ds M F ρ, IsL W F ρ ds vs ∧ Rp W ξ M F H ρ ∧ Po W ξ (Is W) F ρ (g ds M) Q E
/-- the def at f does what g says, where no repr is under way -/
structure FnG (P : Program) (w : World) (W : Wd) (mg : Str → Option Value) (base : Heap) (k : Nat) (f : Addr) (fd : FuncData) (ps : List Str) (g : List D → Stor → R D) : Prop where
  len : ∀ vs H Q E, spG W g vs H Q E → vs.length = ps.length
  run : ∀ (A : Around) (outer : List Env) (s : Shared) (H : Hp) (args : Args) (us : List Value) (vs : List V) (Q : VK) (E : XK), Room k A → A.guards = some [] → Env0 P w W.K mg base A outer s H →
    BindsTo s fd args (ps.zip us) → Vals vs us → spG W g vs H Q E → codeAny (model P w) A (.call (.ref f) args) (CR (L2.CX P w) outer P w H s Q E) s
def outS (r : RS) : R D := match r with
  | .nx _ M => .ok .non M
  | .rt d M => .ok d M
  | .ex c fs _ M => .ex c fs M
  | _ => .no
@[simp] theorem outS_nx (g : Gam) (M : Stor) : outS (.nx g M) = .ok .non M := rfl
@[simp] theorem outS_rt (d : D) (M : Stor) : outS (.rt d M) = .ok d M := rfl
@[simp] theorem outS_ex (c : Nat) (fs : Flds) (g : Gam) (M : Stor) : outS (.ex c fs g M) = .ex c fs M := rfl
/-- a def: n parameters, N names -/
def gFn (n N : Nat) (gb : GS') : List D → Stor → R D := fun ds M => if ds.length = n then outS (gb (ds.map some ++ List.replicate (N - n) none) M) else .no
section
variable {P : Program} {w : World} {W : Wd} {ξ : Xi} {mg : Str → Option Value} {base : Heap} {x qual : Str} {params : Arguments} {body : List Stmt} {scope : Scope} {dvs : List V} {kws : List (Str × V)} {f : Addr} {fd : FuncData}
theorem en_start {N : List Str} {F : Hp} {ρ : List Addr} {ds : List D} {vs : List V} (h : IsL W F ρ ds vs) : En W (ds.map some ++ List.replicate (N.length - ds.length) none) (L2.start N vs) F ρ := by
  have el := h.len
  unfold L2.start
  refine ⟨by simp [el], fun i d q => ?_⟩
  by_cases hi : i < ds.length
  · rw [List.getElem?_append_left (by simpa using hi), List.getElem?_map] at q
    cases e : ds[i]? with
    | none => rw [e] at q; cases q
    | some d' =>
      rw [e] at q
      simp at q; subst q
      obtain ⟨v, ev, is⟩ := h.get e
      refine ⟨v, ?_, is⟩
      rw [List.getElem?_append_left (by simpa [el] using hi), List.getElem?_map, ev]; rfl
  · rw [List.getElem?_append_right (by simpa using hi)] at q
    rw [List.getElem?_replicate] at q
    split at q
    · cases q
    · cases q
theorem fng_of {N ps : List Str} {k : Nat} {gb : GS'} (F : FunD W.K x qual params body scope dvs kws f fd) (S : FnScope N ps scope)
    (hb : ∀ (cdv : Value) (A : Around) (outer : List Env) (s : Shared) (H : Hp) (E : XK), Room k (A.deeper (envOfC qual scope s.heap.objs.size f cdv)) → A.guards = some [] →
      GSs (cxOf (L2.CX P w) P w W.K mg base N qual scope f cdv A outer s H E) W (fun _ => E) body gb) : FnG P w W mg base (k + 1) f fd ps (gFn ps.length N.length gb) := by
  have len : ∀ vs H Q E, spG W (gFn ps.length N.length gb) vs H Q E → vs.length = ps.length := fun vs H Q E h => by
    obtain ⟨ξ, ds, M, F', ρ, is, rp, po⟩ := h
    unfold gFn at po
    split at po
    · rename_i e; rw [is.len]; exact e
    · exact po.elim
  refine ⟨len, fun A outer st H args us vs Q Z room gd env binds rel hsp => ?_⟩
  obtain ⟨oc, od, dV, kV, doc, pm, an, cdv, ct, osl, rfl, lk, hcd, _, _⟩ := F.ex
  have hlen := len _ _ _ _ hsp
  have kin : W.K.In st.heap := env.mod.kin.keeps (fun b o z => (env.bs b o z).1)
  have nolim : st.heap.NoLimit := env.mod.nolimit.keeps (fun b o z => (env.bs b o z).1)
  have kinds : ∀ y ∈ ps.zip us, scope.names.lookup y.1 = some .local ∨
      (scope.names.lookup y.1 = some .cell ∧ ((cellsFrom (st.heap.objs.size + 1) scope.names []).lookup y.1).isSome = true) := by
    rintro ⟨nm, val⟩ hy
    have hin := (List.of_mem_zip hy).1
    cases S.par nm hin with
    | inl z => exact Or.inl z
    | inr z => exact Or.inr ⟨z, PySem.W.cellsFrom_some _ _ _ (Or.inl z)⟩
  refine codeAny_call_function room.depth (kin _ _ lk) rfl S.co S.gen rfl (PySem.W.codeRec_of kin hcd)
    (binds _ _ _ _ (wpAny_newFunctionEnv_cells S.kind kinds fun env' he s1 x1 => ?_))
  subst he
  refine ⟨nolim.keeps x1.toInCall.keep, codeAny_func ?_⟩
  have GB := hb cdv A outer st H Z (room.deeper _) gd
  have I : Inv (cxOf (L2.CX P w) P w W.K mg base N qual scope f cdv A outer st H Z) [] (L2.start N vs) H s1 := inv_start S room.hd env hlen rel x1
  have hq : tGS W (fun _ => Z) gb { nx := fun _ H' => Q .non H', rt := Q } (L2.start N vs) H := by
    obtain ⟨ξ, ds, M, F', ρ, is, rp, po⟩ := hsp
    unfold gFn at po
    split at po
    · rename_i e
      refine ⟨ξ, _, M, F', ρ, en_start (N := N) is, rp, ?_⟩
      rw [← e] at po
      cases er : gb (ds.map some ++ List.replicate (N.length - ds.length) none) M with
      | nx g M1 => rw [er] at po; exact fun σ' F2 ρ2 H2 le p rp2 en2 => po .non F2 ρ2 H2 le p rp2 (by simp only [Is])
      | rt d M1 => rw [er] at po; exact po
      | bk g M1 => rw [er] at po; exact po.elim
      | ct g M1 => rw [er] at po; exact po.elim
      | ex c fs g M1 => rw [er] at po; exact fun σ' dx F2 ρ2 H2 le p rp2 en2 xc => po dx F2 ρ2 H2 le p rp2 xc
      | no => rw [er] at po; exact po.elim
    · exact po.elim
  refine wpAny_mono (GB.run [] s1 _ H _ I hq) (fun fl s' out => ?_) (fun er s' out => out)
  cases fl with
  | ret u => obtain ⟨v, σ', H', J, rv, q⟩ := out; exact ⟨v, H', J.os, J.bare, J.base, J.hok, rv, q⟩
  | next => obtain ⟨σ', H', J, q⟩ := out; exact ⟨.non, H', J.os, J.bare, J.base, J.hok, rfl, q⟩
  | brk => obtain ⟨_, _, _, q⟩ := out; exact q.elim
  | cont => obtain ⟨_, _, _, q⟩ := out; exact q.elim
theorem FnG.imp {k : Nat} {ps : List Str} {g g' : List D → Stor → R D} (h : FnG P w W mg base k f fd ps g) (i : ∀ vs H Q E, spG W g' vs H Q E → spG W g vs H Q E) : FnG P w W mg base k f fd ps g' :=
  ⟨fun vs H Q E z => h.len vs H Q E (i vs H Q E z), fun A outer s H args us vs Q E hr hg e0 hb r z => h.run A outer s H args us vs Q E hr hg e0 hb r (i vs H Q E z)⟩
theorem FnG.mono {j k : Nat} {ps : List Str} {g : List D → Stor → R D} (h : FnG P w W mg base j f fd ps g) (hjk : j ≤ k) : FnG P w W mg base k f fd ps g :=
  ⟨h.len, fun A outer s H args us vs Q E hr => h.run A outer s H args us vs Q E (hr.mono hjk)⟩
/-- the new objects are firm behind the call -/
theorem FnG.frz {k : Nat} {ps : List Str} {g : List D → Stor → R D} (h : FnG P w W mg base k f fd ps g) : FnG P w W mg base k f fd ps (fun ds M => frz M (g ds M)) :=
  h.imp fun vs H Q E ⟨ξ, ds, M, F', ρ, is, rp, po⟩ => ⟨ξ, ds, M, F', ρ, is, rp, Po.frz rp po⟩
theorem FnG.cong {k : Nat} {ps : List Str} {g g' : List D → Stor → R D} (h : FnG P w W mg base k f fd ps g) (e : g = g') : FnG P w W mg base k f fd ps g' := e ▸ h
end
section
variable {X : Cx} {W : Wd} {ξ : Xi} {E : Sg → XK} {e : Expr} {es : List Expr} {pos p : Pos} {gs : GA'} {x : Str}
def CallG (X : Cx) (W : Wd) (E : Sg → XK) (f : Value) (g : List D → Stor → R D) : Prop :=
  ∀ (ξ : Xi) (pins : List (Addr × Obj)) (s : Shared) (σ : Sg) (H : Hp) (M : Stor) (F : Hp) (ρ : List Addr) (ds : List D) (vs : List V) (us : List Value) (Q : VK),
    Inv X pins σ H s → Vals vs us → Rp W ξ M F H ρ → IsL W F ρ ds vs → Po W ξ (Is W) F ρ (g ds M) Q (E σ) →
    wpAny (model X.prog X.w) X.A (call f us) (EP X pins σ Q) X.xe s
abbrev Pass (X : Cx) (E : Sg → XK) : Prop := ∀ σ, PassesAt (L2.CX X.prog X.w) X σ (E σ)
theorem run_g {k : Nat} {f : Addr} {fd : FuncData} {ps : List Str} {g : List D → Stor → R D} {dvs : List V} {dus : List Value} {pins : List (Addr × Obj)} {σ : Sg} {H : Hp} {s : Shared} {Q : VK} {us : List Value} {vs : List V}
    (F : FnG X.prog X.w W X.mg X.base k f fd ps g) (hK : X.K = W.K) (hr : Room k X.A) (gd : X.A.guards = some []) (hb : Binds X.K fd ps dus) (hd : Vals dvs dus) (hx : PassesAt (L2.CX X.prog X.w) X σ (E σ))
    (I : Inv X pins σ H s) (r : Vals vs us) (h : spG W g (vs ++ dvs) H Q (E σ)) : wpAny (model X.prog X.w) X.A (call (.ref f) us) (EP X pins σ Q) X.xe s := by
  have rel := r.append hd
  have hlen : (us ++ dus).length = ps.length := by rw [← rel.length, F.len _ _ _ _ h]
  have e0 := I.env0
  rw [hK] at e0
  refine wpAny_call (codeAny_mono (F.run X.A X.stack s H ⟨us, []⟩ (us ++ dus) (vs ++ dvs) Q (E σ) hr gd e0 (hb s us I.kIn hlen) rel h) fun res s' out => ?_)
  cases res with
  | error er => exact hx pins H s er s' I out
  | ok fl =>
    cases fl with
    | ret u => exact I.after out
    | next => exact out.elim
    | brk => exact out.elim
    | cont => exact out.elim
theorem callg_fn {k : Nat} {f : Addr} {fd : FuncData} {ps : List Str} {g : List D → Stor → R D} {dds : List D} {dvs : List V} {dus : List Value} (F : FnG X.prog X.w W X.mg X.base k f fd ps g) (hK : X.K = W.K) (hr : Room k X.A) (gd : X.A.guards = some [])
    (hb : Binds X.K fd ps dus) (hd : Vals dvs dus) (fl : ∀ F ρ, IsL W F ρ dds dvs) (hx : Pass X E) : CallG X W E (.ref f) (fun xs M => g (xs ++ dds) M) :=
  fun ξ pins s σ H M F' ρ ds vs us Q I r rp is po => run_g F hK hr gd hb hd (hx σ) I r ⟨ξ, ds ++ dds, M, F', ρ, is.append (fl F' ρ), rp, po⟩
theorem callg_fn0 {k : Nat} {f : Addr} {fd : FuncData} {ps : List Str} {g : List D → Stor → R D} (F : FnG X.prog X.w W X.mg X.base k f fd ps g) (hK : X.K = W.K) (hr : Room k X.A) (gd : X.A.guards = some [])
    (hb : Binds X.K fd ps []) (hx : Pass X E) : CallG X W E (.ref f) g :=
  fun ξ pins s σ H M F' ρ ds vs us Q I r rp is po => run_g (dvs := []) (dus := []) F hK hr gd hb .nil (hx σ) I r ⟨ξ, ds, M, F', ρ, by rw [List.append_nil]; exact is, rp, po⟩
theorem CallG.of {f : Value} {r : List V → Hp → VK → Prop} {g : List D → Stor → R D} (h : CallR X f r)
    (k : ∀ (ξ : Xi) (M : Stor) (F H : Hp) (ρ : List Addr) (ds : List D) (vs : List V) (Q : VK) (Z : XK), Rp W ξ M F H ρ → IsL W F ρ ds vs → Po W ξ (Is W) F ρ (g ds M) Q Z → r vs H Q) : CallG X W E f g :=
  fun ξ pins s σ H M F ρ ds vs us Q I rv rp is po => h pins s σ H vs us Q I rv (k ξ M F H ρ ds vs Q (E σ) rp is po)
theorem CallG.or {f : Value} {g g' : List D → Stor → R D} (h : CallG X W E f g) (h' : CallG X W E f g') : CallG X W E f (fun ds M => orR (g ds M) (g' ds M)) :=
  fun ξ pins s σ H M F ρ ds vs us Q I rv rp is po => by
    cases e : g ds M with
    | no => simp only [e, orR_no] at po; exact h' ξ pins s σ H M F ρ ds vs us Q I rv rp is po
    | ok a M1 => simp only [e, orR_ok] at po; exact h ξ pins s σ H M F ρ ds vs us Q I rv rp is (by rw [e]; exact po)
    | ex c fs M1 => simp only [e, orR_ex] at po; exact h ξ pins s σ H M F ρ ds vs us Q I rv rp is (by rw [e]; exact po)
theorem CallG.frz {f : Value} {g : List D → Stor → R D} (h : CallG X W E f g) : CallG X W E f (fun ds M => frz M (g ds M)) :=
  fun ξ pins s σ H M F ρ ds vs us Q I rv rp is po => h ξ pins s σ H M F ρ ds vs us Q I rv rp is (Po.frz rp po)
theorem under_guards {A : Around} {C : Addr} {us : List Value} {kw : List (Str × Value)} : (A.under (.builtin "type.__call__" ⟨.ref C :: us, kw⟩)).guards = A.guards := by
  unfold Around.under
  have h : (Code.builtin "type.__call__" ⟨.ref C :: us, kw⟩).isGuard = false := (by decide +kernel : guardIds.contains "type.__call__" = false)
  simp only [Code.guards, h]
  cases A.guards <;> simp [pushGuards]
/-- a new instance by an own __init__ -/
def gMakeM (c : Nat) (g : List D → Stor → R D) : List D → Stor → R D := fun xs M => (g (.ref M.length :: xs) (M ++ [.ins c []])).bind fun r M' => match r with
  | .non => .ok (.ref M.length) M'
  | _ => .no
theorem callg_make {k c : Nat} {C f : Addr} {fd : FuncData} {ps : List Str} {g : List D → Stor → R D} {dds : List D} {dvs : List V} {dus : List Value} (hT : W.T c = C) (MK : Mk X.K C f) (F : FnG X.prog X.w W X.mg X.base k f fd ps g) (hK : X.K = W.K) (hr : Room (k + 1) X.A) (gd : X.A.guards = some [])
    (hb : Binds X.K fd ps dus) (hd : Vals dvs dus) (fl : ∀ F ρ, IsL W F ρ dds dvs) (hx : Pass X E) : CallG X W E (.ref C) (gMakeM c fun xs M => g (xs ++ dds) M) := by
  intro ξ pins s σ H M F' ρ ds vs us Q I r rp is po
  have nx := I.hok.fresh (a := s.heap.objs.size + 1) (Nat.le_succ _)
  have ndx := I.hok.fresh (a := s.heap.objs.size) (Nat.le_refl _)
  have hne : s.heap.objs.size + 1 ≠ s.heap.objs.size := Nat.succ_ne_self _
  have I2 := Inv.made (C := C) I
  have r2 : Vals (V.ref (s.heap.objs.size + 1) :: (vs ++ dvs)) (Value.ref (s.heap.objs.size + 1) :: (us ++ dus)) := .cons rfl (r.append hd)
  have rp1 : Rp W ξ M F' (upd H s.heap.objs.size (.own (s.heap.objs.size + 1))) ρ := rp.newH ndx
  have nx1 : (upd H s.heap.objs.size (.own (s.heap.objs.size + 1))) (s.heap.objs.size + 1) = none := by rw [upd_ne hne]; exact nx
  have rp2 := rp1.mut (m := .ins c []) (o := .ins C s.heap.objs.size []) nx1 ⟨s.heap.objs.size, [], by rw [hT], by simp, IsL.nil⟩
  have pr : ρ <+: ρ ++ [s.heap.objs.size + 1] := List.prefix_append _ _
  have isx : Is W F' (ρ ++ [s.heap.objs.size + 1]) (.ref M.length) (.ref (s.heap.objs.size + 1)) := by
    simp only [Is]
    exact ⟨_, rfl, by rw [List.getElem?_append_right (by rw [rp.len]; exact Nat.le_refl _), rp.len]; simp⟩
  have hq : spG W g (V.ref (s.heap.objs.size + 1) :: (vs ++ dvs)) (upd (upd H s.heap.objs.size (.own (s.heap.objs.size + 1))) (s.heap.objs.size + 1) (.ins C s.heap.objs.size []))
      (fun v H2 => v = .non ∧ Q (.ref (s.heap.objs.size + 1)) H2) (E σ) := by
    refine ⟨ξ, .ref M.length :: (ds ++ dds), _, F', _, IsL.cons isx ((is.mono Le.rfl' pr).append (fl _ _)), rp2, ?_⟩
    have po' := Po.bind (rel := Is W) (Po.mono po Le.rfl' pr)
    refine po'.imp ?_
    rintro v H2 ⟨d, M2, F2, ρ2, le2, p2, rp3, isd, po2⟩
    cases d with
    | non =>
      simp only [Is] at isd; subst isd
      exact ⟨rfl, po2 _ F2 ρ2 H2 Le.rfl' (List.prefix_refl _) rp3 (isx.mono le2 p2)⟩
    | _ => exact po2.elim
  have hl : (Value.ref (s.heap.objs.size + 1) :: us ++ dus).length = ps.length := by
    have e := r2.length
    rw [F.len _ _ _ _ hq] at e
    exact e.symm
  have e0 := I2.env0.make C us []
  rw [hK] at e0
  have run := F.run _ X.stack _ _ ⟨Value.ref (s.heap.objs.size + 1) :: us, []⟩ _ _ _ (E σ) (hr.make C us []) (by rw [under_guards]; exact gd) e0 (hb _ _ I2.kIn hl) r2 hq
  refine wpAny_call (make_map (f := f) I.kIn MK.makes MK.init (beq_iff_eq.mp MK.fn) (codeAny_mono run fun res s' hq' => ?_))
  cases res with
  | error er => exact hx σ pins _ _ er s' I2 hq'
  | ok fl =>
    cases fl with
    | ret u =>
      obtain ⟨v, H', I3, rv, ev, q3⟩ := I2.after hq'
      subst ev
      exact ⟨rv, ⟨V.ref (s.heap.objs.size + 1), H', I3, rfl, q3⟩⟩
    | next => exact False.elim hq'
    | brk => exact False.elim hq'
    | cont => exact False.elim hq'
/-! ### f(..) as an expression -/
def gCall (g : List D → Stor → R D) (a : GA') : GE' := fun Γ M => (a Γ M).bind fun xs M1 => g xs M1
theorem ge_call {f : Addr} {g : List D → Stor → R D} (hc : CallG X W E (.ref f) g) (hg : Gl X x) (hm : X.mg x = some (.ref f)) (hk : PySem.W.keepIn X.K (.ref f) = true) (ha : GA X W E (e :: es) gs)
    (hdb : (x == ("__debug__" : Str)) = false := by decide) (he : starEach (e :: es) X.env = (false, eval e X.env) :: starEach es X.env := by rfl) (hpl : (backTo pos (starEach es X.env)).any (·.1) = false := by rfl) :
    GE X W E (.Call (.Name x p) (e :: es) [] pos) (gCall g gs) := by
  refine ⟨fun pins s σ H Q I ⟨ξ, Γ, M, F, ρ, en, rp, po⟩ => ?_⟩
  refine wpAny_Call_Name_kw (ld_glob I hg hm ?_ hdb)
  refine PySem.W.callWith_K (h₀ := X.base) I.ok.mod.kin hk (thn (ha.run pos pins s σ H _ I ⟨ξ, Γ, M, F, ρ, en, rp, po.bind⟩) ?_) he hpl
  rintro us s1 ⟨vs, H1, I1, r, ds, M1, F1, ρ1, e1, p1, rp1, is, po1⟩
  exact ⟨I1.kIn, hc ξ pins s1 σ H1 M1 F1 ρ1 ds vs us Q I1 r rp1 is po1⟩
theorem ge_call0 {f : Addr} {g : List D → Stor → R D} (hc : CallG X W E (.ref f) g) (hg : Gl X x) (hm : X.mg x = some (.ref f)) (hk : PySem.W.keepIn X.K (.ref f) = true)
    (hdb : (x == ("__debug__" : Str)) = false := by decide) : GE X W E (.Call (.Name x p) [] [] pos) (gCall g gNil) := by
  refine ⟨fun pins s σ H Q I ⟨ξ, Γ, M, F, ρ, en, rp, po⟩ => ?_⟩
  refine wpAny_Call_Name_kw (ld_glob I hg hm ?_ hdb)
  exact PySem.W.callWith_K0 I.kIn hk (hc ξ pins s σ H M F ρ [] [] [] Q I .nil rp IsL.nil po)
theorem ge_callB {id : String} {g : List D → Stor → R D} (hc : CallG X W E (.builtin id) g) (hg : Gl X x) (hm : X.mg x = none) (hv : bootBuiltins x = some (.builtin id)) (ha : GA X W E (e :: es) gs) (hn : x ≠ "__name__" := by decide)
    (hdb : (x == ("__debug__" : Str)) = false := by decide) (he : starEach (e :: es) X.env = (false, eval e X.env) :: starEach es X.env := by rfl) (hpl : (backTo pos (starEach es X.env)).any (·.1) = false := by rfl) :
    GE X W E (.Call (.Name x p) (e :: es) [] pos) (gCall g gs) := by
  refine ⟨fun pins s σ H Q I ⟨ξ, Γ, M, F, ρ, en, rp, po⟩ => ?_⟩
  refine wpAny_Call_Name_kw (ld_blt I hg hm hv ?_ hn hdb)
  refine PyProof.Rows.callWith_builtin1 (thn (ha.run pos pins s σ H _ I ⟨ξ, Γ, M, F, ρ, en, rp, po.bind⟩) ?_) he hpl
  rintro us s1 ⟨vs, H1, I1, r, ds, M1, F1, ρ1, e1, p1, rp1, is, po1⟩
  exact hc ξ pins s1 σ H1 M1 F1 ρ1 ds vs us Q I1 r rp1 is po1
theorem ge_callTy {T : String} {g : List D → Stor → R D} (hc : CallG X W E (.type T) g) (hg : Gl X x) (hm : X.mg x = none) (hv : bootBuiltins x = some (.type T)) (ha : GA X W E (e :: es) gs) (hn : x ≠ "__name__" := by decide)
    (hdb : (x == ("__debug__" : Str)) = false := by decide) (he : starEach (e :: es) X.env = (false, eval e X.env) :: starEach es X.env := by rfl) (hpl : (backTo pos (starEach es X.env)).any (·.1) = false := by rfl) :
    GE X W E (.Call (.Name x p) (e :: es) [] pos) (gCall g gs) := by
  refine ⟨fun pins s σ H Q I ⟨ξ, Γ, M, F, ρ, en, rp, po⟩ => ?_⟩
  refine wpAny_Call_Name_kw (ld_blt I hg hm hv ?_ hn hdb)
  refine PyProof.Rows.callWith_type1 (thn (ha.run pos pins s σ H _ I ⟨ξ, Γ, M, F, ρ, en, rp, po.bind⟩) ?_) he hpl
  rintro us s1 ⟨vs, H1, I1, r, ds, M1, F1, ρ1, e1, p1, rp1, is, po1⟩
  exact hc ξ pins s1 σ H1 M1 F1 ρ1 ds vs us Q I1 r rp1 is po1
end
end G

namespace G
open PySem PySem.Spec PyProof.Rows L2
/-! ### operators on plain data -/
def dI (g : Int → Int → Option D) : D → D → Stor → R D := fun x y M => match x, y with
  | .int i, .int j => (match g i j with
    | some d => .ok d M
    | none => .no)
  | _, _ => .no
def mulOk (i j : Int) : Bool := decide (i.natAbs < 2 ^ 64) || decide (j.natAbs < 2 ^ 64) || decide (i.natAbs.log2 + j.natAbs.log2 < 1000000)
def divOk (j : Int) : Bool := decide (j ≠ 0) && decide (j.natAbs.log2 < 9000)
def powOk (i j : Int) : Bool := decide (0 ≤ j) && decide (j ≤ 1000000) && decide (i.natAbs < 2 ^ 64)
def dAddI := dI fun i j => some (.int (i + j))
def dSubI := dI fun i j => some (.int (i - j))
def dMulI := dI fun i j => if mulOk i j then some (.int (i * j)) else none
def dDivI := dI fun i j => if divOk j then some (.int (i.fdiv j)) else none
def dModI := dI fun i j => if j = 0 then none else some (.int (i.fmod j))
def dPowI := dI fun i j => if powOk i j then some (.int (i ^ j.toNat)) else none
def dLtI := dI fun i j => some (.bl (decide (i < j)))
def dLeI := dI fun i j => some (.bl (decide (i ≤ j)))
def dGtI := dI fun i j => some (.bl (decide (j < i)))
def dGeI := dI fun i j => some (.bl (decide (j ≤ i)))
section
variable {X : Cx} {W : Wd} {ξ : Xi} {E : Sg → XK}
theorem dI_ok {g : Int → Int → Option D} {M : Stor} {F H : Hp} {ρ : List Addr} {x y : D} {vx vy : V} {Q : VK} {Z : XK} (ix : Is W F ρ x vx) (iy : Is W F ρ y vy) (po : Po W ξ (Is W) F ρ (dI g x y M) Q Z) :
    ∃ i j d, vx = .int i ∧ vy = .int j ∧ g i j = some d ∧ Po W ξ (Is W) F ρ (.ok d M) Q Z := by
  unfold dI at po
  split at po
  · simp only [Is] at ix iy
    subst ix; subst iy
    split at po
    · rename_i d hd
      exact ⟨_, _, d, rfl, rfl, hd, po⟩
    · exact po.elim
  · exact po.elim
theorem Po.now {M : Stor} {F H : Hp} {ρ : List Addr} {d : D} {v : V} {Q : VK} {Z : XK} (po : Po W ξ (Is W) F ρ (.ok d M) Q Z) (rp : Rp W ξ M F H ρ) (is : Is W F ρ d v) : Q v H := po v F ρ H Le.rfl' (List.prefix_refl _) rp is
theorem opg_I {f : Value → Value → Sem Value} {C : Int → Int → Prop} {g : Int → Int → Option D} {h : Int → Int → V} (ho : OpR X f (rI C h)) (k : ∀ i j d, g i j = some d → C i j ∧ Flat W d (h i j)) : OpG X W E f (dI g) :=
  OpG.of ho fun ξ M F H ρ x y vx vy Q Z rp ix iy po => by
    obtain ⟨i, j, d, rfl, rfl, hd, po⟩ := dI_ok (H := H) ix iy po
    obtain ⟨c, fl⟩ := k i j d hd
    exact ⟨i, j, rfl, rfl, c, po.now rp (fl F ρ)⟩
theorem opg_I0 {f : Value → Value → Sem Value} {g : Int → Int → Option D} {h : Int → Int → V} (ho : OpR X f (rI0 h)) (k : ∀ i j d, g i j = some d → Flat W d (h i j)) : OpG X W E f (dI g) :=
  OpG.of ho fun ξ M F H ρ x y vx vy Q Z rp ix iy po => by
    obtain ⟨i, j, d, rfl, rfl, hd, po⟩ := dI_ok (H := H) ix iy po
    exact ⟨i, j, rfl, rfl, po.now rp (k i j d hd F ρ)⟩
theorem og_addI : OpG X W E (binaryOp .Add) dAddI := opg_I0 op_add fun i j d h => by cases h; exact flat_int
theorem og_subI : OpG X W E (binaryOp .Sub) dSubI := opg_I0 op_sub fun i j d h => by cases h; exact flat_int
theorem og_iaddI : OpG X W E (inplaceOp .Add) dAddI := opg_I0 iop_add fun i j d h => by cases h; exact flat_int
theorem og_isubI : OpG X W E (inplaceOp .Sub) dSubI := opg_I0 iop_sub fun i j d h => by cases h; exact flat_int
theorem og_ltI : OpG X W E (compareOp .Lt) dLtI := opg_I0 op_lt fun i j d h => by cases h; exact flat_bl
theorem og_leI : OpG X W E (compareOp .LtE) dLeI := opg_I0 op_le fun i j d h => by cases h; exact flat_bl
theorem og_gtI : OpG X W E (compareOp .Gt) dGtI := opg_I0 op_gt fun i j d h => by cases h; exact flat_bl
theorem og_geI : OpG X W E (compareOp .GtE) dGeI := opg_I0 op_ge fun i j d h => by cases h; exact flat_bl
theorem mulOk_ok {i j : Int} (h : mulOk i j = true) : CMul i j ∨ CMulW i j := by
  simp only [mulOk, Bool.or_eq_true, decide_eq_true_eq] at h
  rcases h with (h | h) | h
  · left; left; constructor <;> omega
  · left; right; constructor <;> omega
  · right; exact h
theorem og_mulI : OpG X W E (binaryOp .Mult) dMulI := opg_I (C := fun i j => CMul i j ∨ CMulW i j) (h := fun i j => .int (i * j)) (opI fun _ _ _ _ _ _ _ hc q => mul_int q (hc.elim CMul.ok CMulW.ok)) fun i j d h => by
  split at h
  · rename_i hm; cases h; exact ⟨mulOk_ok hm, flat_int⟩
  · cases h
theorem og_imulI : OpG X W E (inplaceOp .Mult) dMulI := opg_I (C := fun i j => CMul i j ∨ CMulW i j) (h := fun i j => .int (i * j)) (opI fun _ _ _ _ _ _ _ hc q => imul_int q (hc.elim CMul.ok CMulW.ok)) fun i j d h => by
  split at h
  · rename_i hm; cases h; exact ⟨mulOk_ok hm, flat_int⟩
  · cases h
theorem og_divI : OpG X W E (binaryOp .FloorDiv) dDivI := opg_I (C := fun _ j => divOk j = true) (h := fun i j => .int (i.fdiv j)) (opI fun _ j _ _ _ _ _ hc q => by
    simp only [divOk, Bool.and_eq_true, decide_eq_true_eq] at hc
    exact floordiv_int hc.1 q (.inl (PyProof.noPylong_of_log2 hc.2))) fun i j d h => by
  split at h
  · rename_i hm; cases h; exact ⟨hm, flat_int⟩
  · cases h
theorem og_modI : OpG X W E (binaryOp .Mod) dModI := opg_I op_modN fun i j d h => by
  split at h
  · cases h
  · rename_i hm; cases h; exact ⟨hm, flat_int⟩
theorem og_powI : OpG X W E (binaryOp .Pow) dPowI := opg_I op_pow fun i j d h => by
  split at h
  · rename_i hm
    cases h
    simp only [powOk, Bool.and_eq_true, decide_eq_true_eq] at hm
    exact ⟨⟨hm.1.1, hm.1.2, hm.2⟩, flat_int⟩
  · cases h
/-! ### texts, lists, tuples -/
def dAddS : D → D → Stor → R D := fun x y M => match x, y with
  | .str i, .str j => if i.length + j.length ≤ 1000000 then .ok (.str (i ++ j)) M else .no
  | _, _ => .no
theorem og_addS : OpG X W E (binaryOp .Add) dAddS := OpG.of op_add_str fun ξ M F H ρ x y vx vy Q Z rp ix iy po => by
  unfold dAddS at po
  split at po
  · simp only [Is] at ix iy
    subst ix; subst iy
    split at po
    · rename_i hz; exact ⟨_, _, rfl, rfl, small_line hz, po.now rp (flat_str F ρ)⟩
    · exact po.elim
  · exact po.elim
def dAddT : D → D → Stor → R D := fun x y M => match x, y with
  | .tup i, .tup j => if i.length + j.length ≤ 1000000 then .ok (.tup (i ++ j)) M else .no
  | _, _ => .no
theorem og_addT (hK : X.K = W.K) : OpG X W E (binaryOp .Add) dAddT := OpG.of op_catA fun ξ M F H ρ x y vx vy Q Z rp ix iy po => by
  unfold dAddT at po
  split at po
  · rename_i i j
    simp only [Is] at ix iy
    obtain ⟨a, xs, rfl, qa, la⟩ := ix
    obtain ⟨b, ys, rfl, qb, lb⟩ := iy
    split at po
    · rename_i hz
      refine ⟨a, b, xs, ys, rfl, rfl, by rw [hK]; exact rp.sub.sqT qa, by rw [hK]; exact rp.sub.sqT qb, small_line (by rw [la.len, lb.len]; exact hz), fun e => ?_, fun _ e => ?_, fun _ _ p n => new_tup rp (la.append lb) n po⟩
      · subst e
        have : i = [] := by have := la.len; simpa using this.symm
        subst this
        exact po.now rp (by simp only [Is, List.nil_append]; exact ⟨b, ys, rfl, qb, lb⟩)
      · subst e
        have : j = [] := by have := lb.len; simpa using this.symm
        subst this
        exact po.now rp (by simp only [Is, List.append_nil]; exact ⟨a, xs, rfl, qa, la⟩)
    · exact po.elim
  · exact po.elim
/-- a list's items, firm or not -/
def lstOf (x : D) (M : Stor) : Option (List D) := match x with
  | .lst l => some l
  | .lck l => some l
  | .ref k => (match M[k]? with
    | some (.lst l) => some l
    | _ => none)
  | _ => none
theorem lstOf_ok {M : Stor} {F H : Hp} {ρ : List Addr} {x : D} {vx : V} {l : List D} (rp : Rp W ξ M F H ρ) (ix : Is W F ρ x vx) (e : lstOf x M = some l) : ∃ a vs, vx = .ref a ∧ SqL W.K H a vs ∧ IsL W F ρ l vs := by
  unfold lstOf at e
  split at e
  · cases e
    simp only [Is] at ix
    obtain ⟨a, vs, e1, q, hl⟩ := ix
    exact ⟨a, vs, e1, SqL.of (rp.sub _ _ q), hl⟩
  · cases e
    simp only [Is] at ix
    obtain ⟨a, vs, e1, q, hl⟩ := ix
    exact ⟨a, vs, e1, rp.sub.sqL q, hl⟩
  · rename_i k
    simp only [Is] at ix
    obtain ⟨a, e1, ea⟩ := ix
    split at e
    · rename_i l' em
      cases e
      obtain ⟨_, vs, hv, hl⟩ := rp.obj k _ a em ea
      exact ⟨a, vs, e1, SqL.of hv, hl⟩
    · cases e
  · cases e
/-- a list's or a tuple's items -/
def seqOf (x : D) (M : Stor) : Option (List D) := match x with
  | .tup l => some l
  | x => lstOf x M
theorem seqOf_ok {M : Stor} {F H : Hp} {ρ : List Addr} {x : D} {vx : V} {l : List D} (rp : Rp W ξ M F H ρ) (ix : Is W F ρ x vx) (e : seqOf x M = some l) : ∃ a vs, vx = .ref a ∧ (SqL W.K H a vs ∨ SqT W.K H a vs) ∧ IsL W F ρ l vs := by
  unfold seqOf at e
  split at e
  · cases e
    simp only [Is] at ix
    obtain ⟨a, vs, e1, q, hl⟩ := ix
    exact ⟨a, vs, e1, .inr (rp.sub.sqT q), hl⟩
  · obtain ⟨a, vs, e1, q, hl⟩ := lstOf_ok rp ix e
    exact ⟨a, vs, e1, .inl q, hl⟩
/-- a list's items that stand by themselves -/
def lstOwn (x : D) (M : Stor) : Option (List D) := match x with
  | .lst l => some l
  | .ref k => (match M[k]? with
    | some (.lst l) => some l
    | _ => none)
  | _ => none
theorem lstOwn_ok {M : Stor} {F H : Hp} {ρ : List Addr} {x : D} {vx : V} {l : List D} (rp : Rp W ξ M F H ρ) (ix : Is W F ρ x vx) (e : lstOwn x M = some l) : ∃ a vs, vx = .ref a ∧ H a = some (.lst vs) ∧ IsL W F ρ l vs := by
  unfold lstOwn at e
  split at e
  · cases e
    simp only [Is] at ix
    obtain ⟨a, vs, e1, q, hl⟩ := ix
    exact ⟨a, vs, e1, rp.sub _ _ q, hl⟩
  · rename_i k
    simp only [Is] at ix
    obtain ⟨a, e1, ea⟩ := ix
    split at e
    · rename_i l' em
      cases e
      obtain ⟨_, vs, hv, hl⟩ := rp.obj k _ a em ea
      exact ⟨a, vs, e1, hv, hl⟩
    · cases e
  · cases e
def dAddL : D → D → Stor → R D := fun x y M => match lstOwn x M, lstOwn y M with
  | some i, some j => if i.length + j.length ≤ 1000000 then .ok (.lst (i ++ j)) M else .no
  | _, _ => .no
theorem og_addL : OpG X W E (binaryOp .Add) dAddL := OpG.of op_cat fun ξ M F H ρ x y vx vy Q Z rp ix iy po => by
  unfold dAddL at po
  split at po
  · rename_i i j ei ej
    obtain ⟨a, xs, rfl, qa, la⟩ := lstOwn_ok rp ix ei
    obtain ⟨b, ys, rfl, qb, lb⟩ := lstOwn_ok rp iy ej
    split at po
    · rename_i hz
      exact ⟨a, b, xs, ys, rfl, rfl, qa, qb, small_line (by rw [la.len, lb.len]; exact hz), fun p n => new_lst rp (la.append lb) n po⟩
    · exact po.elim
  · exact po.elim
theorem IsL.flat {F : Hp} {ρ : List Addr} {l : List D} {vs : List V} (h : IsL W F ρ l vs) : ∀ n : Nat, IsL W F ρ (List.replicate n l).flatten (List.replicate n vs).flatten
  | 0 => IsL.nil
  | n + 1 => by
    rw [List.replicate_succ, List.replicate_succ, List.flatten_cons, List.flatten_cons]
    exact h.append (IsL.flat h n)
def dMulL : D → D → Stor → R D := fun x y M => match lstOwn x M, y with
  | some l, .int k => if -(2 ^ 63) ≤ k ∧ k < 2 ^ 63 ∧ l.length * k.toNat ≤ 1000000 then .ok (.lst (List.replicate k.toNat l).flatten) M else .no
  | _, _ => .no
theorem og_mulL : OpG X W E (binaryOp .Mult) dMulL := OpG.of op_rep fun ξ M F H ρ x y vx vy Q Z rp ix iy po => by
  unfold dMulL at po
  split at po
  · rename_i l k el
    obtain ⟨a, xs, rfl, qa, la⟩ := lstOwn_ok rp ix el
    simp only [Is] at iy; subst iy
    split at po
    · rename_i hz
      exact ⟨a, k, xs, rfl, rfl, qa, hz.1, hz.2.1, small_line (by rw [la.len]; exact hz.2.2), fun p n => new_lst rp (la.flat _) n po⟩
    · exact po.elim
  · exact po.elim
def dAdd : D → D → Stor → R D := fun x y M => orR (dAddI x y M) (orR (dAddS x y M) (orR (dAddL x y M) (dAddT x y M)))
def dMul : D → D → Stor → R D := fun x y M => orR (dMulI x y M) (dMulL x y M)
theorem og_add (hK : X.K = W.K) : OpG X W E (binaryOp .Add) dAdd := og_addI.or (og_addS.or (og_addL.or (og_addT hK)))
theorem og_mul : OpG X W E (binaryOp .Mult) dMul := og_mulI.or og_mulL
/-! ### == -/
mutual
def toPy : D → Option PyData
  | .non => some .none
  | .bl b => some (.bool b)
  | .int i => some (.int i)
  | .str x => some (.str x)
  | .tup l => (toPyL l).map PyData.tuple
  | .lst l => (toPyL l).map PyData.list
  | .lck l => (toPyL l).map PyData.list
  | .ty _ => none
  | .ins _ _ => none
  | .cls _ => none
  | .ref _ => none
  | .dct _ _ => none
  | .exc _ _ _ => none
  | .lam _ _ _ _ _ => none
def toPyL : List D → Option (List PyData)
  | [] => some []
  | d :: ds => match toPy d, toPyL ds with
    | some x, some xs => some (x :: xs)
    | _, _ => none
end
mutual
theorem toPy_ok {F H : Hp} {ρ : List Addr} (le : Le F H) : ∀ {d : D} {v : V} {p : PyData}, toPy d = some p → Is W F ρ d v → Dp W.K H v p
  | .non, _, _, e, h => by simp only [toPy, Option.some.injEq] at e; simp only [Is] at h; subst e; subst h; exact .non
  | .bl b, _, _, e, h => by simp only [toPy, Option.some.injEq] at e; simp only [Is] at h; subst e; subst h; exact .bl b
  | .int i, _, _, e, h => by simp only [toPy, Option.some.injEq] at e; simp only [Is] at h; subst e; subst h; exact .int i
  | .str x, _, _, e, h => by simp only [toPy, Option.some.injEq] at e; simp only [Is] at h; subst e; subst h; exact .str x
  | .tup l, _, _, e, h => by
    simp only [toPy, Option.map_eq_some_iff] at e; obtain ⟨l', el, rfl⟩ := e
    simp only [Is] at h; obtain ⟨a, vs, rfl, q, hl⟩ := h
    exact .tup (le.sqT q) (toPyL_ok le el hl)
  | .lst l, _, _, e, h => by
    simp only [toPy, Option.map_eq_some_iff] at e; obtain ⟨l', el, rfl⟩ := e
    simp only [Is] at h; obtain ⟨a, vs, rfl, q, hl⟩ := h
    exact .lst (SqL.of (le _ _ q)) (toPyL_ok le el hl)
  | .lck l, _, _, e, h => by
    simp only [toPy, Option.map_eq_some_iff] at e; obtain ⟨l', el, rfl⟩ := e
    simp only [Is] at h; obtain ⟨a, vs, rfl, q, hl⟩ := h
    exact .lst (le.sqL q) (toPyL_ok le el hl)
  | .ty _, _, _, e, _ => by simp only [toPy] at e; cases e
  | .ins _ _, _, _, e, _ => by simp only [toPy] at e; cases e
  | .cls _, _, _, e, _ => by simp only [toPy] at e; cases e
  | .ref _, _, _, e, _ => by simp only [toPy] at e; cases e
  | .dct _ _, _, _, e, _ => by simp only [toPy] at e; cases e
  | .exc _ _ _, _, _, e, _ => by simp only [toPy] at e; cases e
  | .lam _ _ _ _ _, _, _, e, _ => by simp only [toPy] at e; cases e
theorem toPyL_ok {F H : Hp} {ρ : List Addr} (le : Le F H) : ∀ {ds : List D} {vs : List V} {ps : List PyData}, toPyL ds = some ps → IsL W F ρ ds vs → DpAll W.K H vs ps
  | [], _, _, e, h => by simp only [toPyL, Option.some.injEq] at e; subst e; rw [IsL.nil_iff] at h; subst h; exact .nil
  | d :: ds, _, _, e, h => by
    obtain ⟨v, r, rfl, h1, h2⟩ := IsL.cons_iff.mp h
    simp only [toPyL] at e
    cases e1 : toPy d with
    | none => rw [e1] at e; cases e
    | some x =>
      cases e2 : toPyL ds with
      | none => rw [e1, e2] at e; cases e
      | some xs =>
        rw [e1, e2] at e
        cases e
        exact .cons (toPy_ok le e1 h1) (toPyL_ok le e2 h2)
end
/-- a list of the store as data, at the top -/
def topPy (x : D) (M : Stor) : Option PyData := match x with
  | .ref k => (match M[k]? with
    | some (.lst l) => (toPyL l).map PyData.list
    | _ => none)
  | x => toPy x
theorem topPy_ok {M : Stor} {F H : Hp} {ρ : List Addr} {d : D} {v : V} {p : PyData} (rp : Rp W ξ M F H ρ) (e : topPy d M = some p) (h : Is W F ρ d v) : Dp W.K H v p := by
  unfold topPy at e
  split at e
  · rename_i k
    simp only [Is] at h
    obtain ⟨a, rfl, ea⟩ := h
    split at e
    · rename_i l em
      simp only [Option.map_eq_some_iff] at e; obtain ⟨l', el, rfl⟩ := e
      obtain ⟨_, vs, hv, hl⟩ := rp.obj k _ a em ea
      exact .lst (SqL.of hv) (toPyL_ok rp.sub el hl)
    · cases e
  · exact toPy_ok rp.sub e h
def dEqD : D → D → Stor → R D := fun x y M => match topPy x M, topPy y M with
  | some a, some b => if SeqAt.shaped a = true ∧ SeqAt.shaped b = true then .ok (.bl (PyData.eqv a b)) M else .no
  | _, _ => .no
def dNeD : D → D → Stor → R D := fun x y M => match topPy x M, topPy y M with
  | some a, some b => if SeqAt.shaped a = true ∧ SeqAt.shaped b = true then .ok (.bl (!PyData.eqv a b)) M else .no
  | _, _ => .no
theorem og_eqD (hK : X.K = W.K) (hu : X.A.units + 64 < cLine) : OpG X W E (compareOp .Eq) dEqD := OpG.of (op_eqD hu) fun ξ M F H ρ x y vx vy Q Z rp ix iy po => by
  unfold dEqD at po
  split at po
  · rename_i a b ea eb
    split at po
    · rename_i hz
      rw [hK]
      exact ⟨a, b, topPy_ok rp ea ix, topPy_ok rp eb iy, hz.1, hz.2, po.now rp (flat_bl F ρ)⟩
    · exact po.elim
  · exact po.elim
theorem og_neD (hK : X.K = W.K) (hu : X.A.units + 64 < cLine) : OpG X W E (compareOp .NotEq) dNeD := OpG.of (op_neD hu) fun ξ M F H ρ x y vx vy Q Z rp ix iy po => by
  unfold dNeD at po
  split at po
  · rename_i a b ea eb
    split at po
    · rename_i hz
      rw [hK]
      exact ⟨a, b, topPy_ok rp ea ix, topPy_ok rp eb iy, hz.1, hz.2, po.now rp (flat_bl F ρ)⟩
    · exact po.elim
  · exact po.elim
/-- scalars -/
def dEqI := dI fun i j => some (.bl (decide (i = j)))
def dNeI := dI fun i j => some (.bl (!decide (i = j)))
theorem og_eqI : OpG X W E (compareOp .Eq) dEqI := OpG.of op_eq fun ξ M F H ρ x y vx vy Q Z rp ix iy po => by
  obtain ⟨i, j, d, rfl, rfl, hd, po⟩ := dI_ok (H := H) ix iy po
  cases hd
  refine ⟨rfl, po.now rp ?_⟩
  have : decide (V.int i = V.int j) = decide (i = j) := by simp
  rw [this]; exact flat_bl F ρ
theorem og_neI : OpG X W E (compareOp .NotEq) dNeI := OpG.of op_ne fun ξ M F H ρ x y vx vy Q Z rp ix iy po => by
  obtain ⟨i, j, d, rfl, rfl, hd, po⟩ := dI_ok (H := H) ix iy po
  cases hd
  refine ⟨rfl, po.now rp ?_⟩
  have : decide (V.int i = V.int j) = decide (i = j) := by simp
  rw [this]; exact flat_bl F ρ
def dEqS : D → D → Stor → R D := fun x y M => match x, y with
  | .str i, .str j => .ok (.bl (decide (i = j))) M
  | _, _ => .no
def dNeS : D → D → Stor → R D := fun x y M => match x, y with
  | .str i, .str j => .ok (.bl (!decide (i = j))) M
  | _, _ => .no
theorem og_eqS : OpG X W E (compareOp .Eq) dEqS := OpG.of op_eq fun ξ M F H ρ x y vx vy Q Z rp ix iy po => by
  unfold dEqS at po
  split at po
  · rename_i i j
    simp only [Is] at ix iy; subst ix; subst iy
    refine ⟨rfl, po.now rp ?_⟩
    have : decide (V.str i = V.str j) = decide (i = j) := by simp
    rw [this]; exact flat_bl F ρ
  · exact po.elim
theorem og_neS : OpG X W E (compareOp .NotEq) dNeS := OpG.of op_ne fun ξ M F H ρ x y vx vy Q Z rp ix iy po => by
  unfold dNeS at po
  split at po
  · rename_i i j
    simp only [Is] at ix iy; subst ix; subst iy
    refine ⟨rfl, po.now rp ?_⟩
    have : decide (V.str i = V.str j) = decide (i = j) := by simp
    rw [this]; exact flat_bl F ρ
  · exact po.elim
def dEq : D → D → Stor → R D := fun x y M => orR (dEqI x y M) (orR (dEqS x y M) (dEqD x y M))
def dNe : D → D → Stor → R D := fun x y M => orR (dNeI x y M) (orR (dNeS x y M) (dNeD x y M))
theorem og_eq (hK : X.K = W.K) (hu : X.A.units + 64 < cLine) : OpG X W E (compareOp .Eq) dEq := og_eqI.or (og_eqS.or (og_eqD hK hu))
theorem og_ne (hK : X.K = W.K) (hu : X.A.units + 64 < cLine) : OpG X W E (compareOp .NotEq) dNe := og_neI.or (og_neS.or (og_neD hK hu))
/-- is None -/
def dIsN : D → D → Stor → R D := fun x y M => match y with
  | .non => .ok (.bl (match x with
    | .non => true
    | _ => false)) M
  | _ => .no
end
end G

namespace G
open PySem PySem.Spec PyProof.Rows L2
section
variable {X : Cx} {W : Wd} {ξ : Xi} {E : Sg → XK}
/-! ### built-in functions -/
def fLen : List D → Stor → R D := fun ds M => match ds with
  | [x] => (match x with
    | .str z => if z.length ≤ 1000000 then .ok (.int z.length) M else .no
    | x => (match seqOf x M with
      | some l => .ok (.int l.length) M
      | none => .no))
  | _ => .no
theorem one_of {F : Hp} {ρ : List Addr} {x : D} {vs : List V} (h : IsL W F ρ [x] vs) : ∃ v, vs = [v] ∧ Is W F ρ x v := by
  obtain ⟨v, r, rfl, h1, h2⟩ := IsL.cons_iff.mp h
  rw [IsL.nil_iff] at h2; subst h2; exact ⟨v, rfl, h1⟩
theorem two_of {F : Hp} {ρ : List Addr} {x y : D} {vs : List V} (h : IsL W F ρ [x, y] vs) : ∃ v u, vs = [v, u] ∧ Is W F ρ x v ∧ Is W F ρ y u := by
  obtain ⟨v, r, rfl, h1, h2⟩ := IsL.cons_iff.mp h
  obtain ⟨u, rfl, h3⟩ := one_of h2
  exact ⟨v, u, rfl, h1, h3⟩
theorem cg_len (hK : X.K = W.K) : CallG X W E (.builtin "len") fLen := CallG.of call_len fun ξ M F H ρ ds vs Q Z rp is po => by
  unfold fLen at po
  split at po
  · rename_i x
    obtain ⟨v, rfl, ix⟩ := one_of is
    split at po
    · rename_i z
      simp only [Is] at ix; subst ix
      split at po
      · rename_i hz; exact ⟨_, z.length, rfl, ⟨small_line hz, rfl⟩, po.now rp (flat_int F ρ)⟩
      · exact po.elim
    · split at po
      · rename_i l el
        obtain ⟨a, xs, rfl, q, hl⟩ := seqOf_ok rp ix el
        refine ⟨_, xs.length, rfl, ?_, by rw [hl.len]; exact po.now rp (flat_int F ρ)⟩
        rw [hK]
        rcases q with q | q
        · exact .inl ⟨xs, q, rfl⟩
        · exact .inr ⟨xs, q, rfl⟩
      · exact po.elim
  · exact po.elim
def fAbsI : List D → Stor → R D := fun ds M => match ds with
  | [.int i] => .ok (.int i.natAbs) M
  | _ => .no
theorem cg_abs : CallG X W E (.builtin "abs") fAbsI := CallG.of call_abs fun ξ M F H ρ ds vs Q Z rp is po => by
  unfold fAbsI at po
  split at po
  · rename_i i
    obtain ⟨v, rfl, ix⟩ := one_of is
    simp only [Is] at ix; subst ix
    refine ⟨i, rfl, po.now rp ?_⟩
    have : (if i < 0 then -i else i) = (i.natAbs : Int) := by split <;> omega
    rw [this]; exact flat_int F ρ
  · exact po.elim
def fInt : List D → Stor → R D := fun ds M => match ds with
  | [.int i] => .ok (.int i) M
  | [.bl b] => .ok (.int (if b then 1 else 0)) M
  | _ => .no
theorem cg_int : CallG X W E (.type "int") fInt := CallG.of call_int1 fun ξ M F H ρ ds vs Q Z rp is po => by
  unfold fInt at po
  split at po
  · rename_i i
    obtain ⟨v, rfl, ix⟩ := one_of is
    simp only [Is] at ix; subst ix
    exact .inl ⟨i, rfl, po.now rp (flat_int F ρ)⟩
  · rename_i i
    obtain ⟨v, rfl, ix⟩ := one_of is
    simp only [Is] at ix; subst ix
    exact .inr ⟨i, rfl, po.now rp (flat_int F ρ)⟩
  · exact po.elim
def fBool : List D → Stor → R D := fun ds M => match ds with
  | [.int i] => .ok (.bl (i != 0)) M
  | [.bl b] => .ok (.bl b) M
  | _ => .no
theorem cg_bool : CallG X W E (.type "bool") fBool := CallG.of call_bool1 fun ξ M F H ρ ds vs Q Z rp is po => by
  unfold fBool at po
  split at po
  · rename_i i
    obtain ⟨v, rfl, ix⟩ := one_of is
    simp only [Is] at ix; subst ix
    exact .inl ⟨i, rfl, po.now rp (flat_bl F ρ)⟩
  · rename_i i
    obtain ⟨v, rfl, ix⟩ := one_of is
    simp only [Is] at ix; subst ix
    exact .inr ⟨i, rfl, po.now rp (flat_bl F ρ)⟩
  · exact po.elim
/-- list(x): a firm list | one that will be changed -/
def fList : List D → Stor → R D := fun ds M => match ds with
  | [x] => (match seqOf x M with
    | some l => .ok (.lst l) M
    | none => .no)
  | _ => .no
def fListM : List D → Stor → R D := fun ds M => match ds with
  | [x] => (match seqOf x M with
    | some l => .ok (.ref M.length) (M ++ [.lst l])
    | none => .no)
  | _ => .no
theorem cg_list (hK : X.K = W.K) : CallG X W E (.type "list") fList := CallG.of call_list_of fun ξ M F H ρ ds vs Q Z rp is po => by
  unfold fList at po
  split at po
  · obtain ⟨v, rfl, ix⟩ := one_of is
    split at po
    · rename_i l el
      obtain ⟨a, xs, rfl, q, hl⟩ := seqOf_ok rp ix el
      exact ⟨a, xs, rfl, by rw [hK]; exact q, fun p n => new_lst rp hl n po⟩
    · exact po.elim
  · exact po.elim
theorem cg_listM (hK : X.K = W.K) : CallG X W E (.type "list") fListM := CallG.of call_list_of fun ξ M F H ρ ds vs Q Z rp is po => by
  unfold fListM at po
  split at po
  · obtain ⟨v, rfl, ix⟩ := one_of is
    split at po
    · rename_i l el
      obtain ⟨a, xs, rfl, q, hl⟩ := seqOf_ok rp ix el
      exact ⟨a, xs, rfl, by rw [hK]; exact q, fun p n => new_lstM rp hl n po⟩
    · exact po.elim
  · exact po.elim
/-- repr of lists and tuples of plain data -/
def reprOk (p : PyData) : Bool := p.showable && !p.hasDict && decide (p.depth ≤ 60) && decide (p.shown.length ≤ 1000000)
def fRepr : List D → Stor → R D := fun ds M => match ds with
  | [x] => (match x with
    | .int i => if i.natAbs.log2 < 1920 then .ok (.str (toString i)) M else .no
    | .str _ => .no
    | .bl _ => .no
    | .non => .no
    | x => (match topPy x M with
      | some p => if reprOk p then .ok (.str p.shown) M else .no
      | none => .no))
  | _ => .no
theorem cg_repr (hK : X.K = W.K) (gd : X.A.guards = some []) (hu : X.A.units + 64 < cLine) : CallG X W E (.builtin "repr") fRepr := by
  intro ξ pins s σ H M F ρ ds vs us Q I rv rp is po
  unfold fRepr at po
  split at po
  · rename_i x
    obtain ⟨v, rfl, ix⟩ := one_of is
    have big : ∀ {p : PyData} {a : Addr}, v = .ref a → topPy x M = some p → Po W ξ (Is W) F ρ (if reprOk p then .ok (.str p.shown) M else .no) Q (E σ) → wpAny (model X.prog X.w) X.A (call (.builtin "repr") us) (EP X pins σ Q) X.xe s := fun {p a} ev ep po => by
      subst ev
      obtain ⟨u, rfl, ru⟩ := vals1 rv
      cases ru
      split at po
      · rename_i hz
        simp only [reprOk, Bool.and_eq_true, decide_eq_true_eq, Bool.not_eq_true'] at hz
        have dp := topPy_ok rp ep ix
        rw [← hK] at dp
        obtain ⟨as, rd⟩ := Dp.reads I p (.ref a) (.ref a) dp rfl
        refine repr_of_reads' rd hz.1.1.1 (fun z => by rw [hz.1.1.2] at z; cases z) gd (by have := hz.1.2; omega) (fun b o e => e) (fun h' u tk hk => ?_) (small_line hz.2)
        exact ⟨.str p.shown, H, I.kept hk, ⟨u, rfl⟩, po.now rp (flat_str F ρ)⟩
      · exact po.elim
    split at po
    · rename_i i
      simp only [Is] at ix; subst ix
      obtain ⟨u, rfl, ru⟩ := vals1 rv
      obtain ⟨t, rfl⟩ := ru
      split at po
      · rename_i hz
        exact SkE.call_repr_int pins s σ H _ _ Q I rv ⟨i, rfl, hz, po.now rp (flat_str F ρ)⟩
      · exact po.elim
    · exact po.elim
    · exact po.elim
    · exact po.elim
    · split at po
      · rename_i p ep
        have dp := topPy_ok rp ep ix
        cases dp with
        | non => cases x <;> simp_all [Is]
        | bl b => cases x <;> simp_all [Is]
        | int i => cases x <;> simp_all [Is]
        | str y => cases x <;> simp_all [Is]
        | lst _ _ => exact big rfl ep po
        | tup _ _ => exact big rfl ep po
      · exact po.elim
  · exact po.elim
end
end G

namespace G
open PySem PySem.Spec PyProof.Rows L2
section
variable {X : Cx} {W : Wd} {ξ : Xi} {E : Sg → XK} {a b e o : Expr} {es : List Expr} {ga gb go : GE'} {gs : GA'} {pos p2 : Pos}
/-! ### x[i] -/
theorem IsL.atI {F : Hp} {ρ : List Addr} {l : List D} {vs : List V} {i : Int} {d : D} (h : IsL W F ρ l vs) (e : atI l i = some d) : ∃ v, L2.atI vs i = some v ∧ Is W F ρ d v := by
  unfold L2.atI at e ⊢
  rw [h.len]
  cases en : ixN l.length i with
  | none => rw [en] at e; cases e
  | some j => rw [en] at e; exact h.get e
def dIx : D → D → Stor → R D := fun x y M => match y with
  | .int i => (match x with
    | .str z => if z.length ≤ 1000000 then (match L2.atI z.cps.toList i with
      | some c => .ok (.str ⟨#[c]⟩) M
      | none => .no) else .no
    | x => (match seqOf x M with
      | some l => (match L2.atI l i with
        | some d => .ok d M
        | none => .no)
      | none => .no))
  | _ => .no
theorem ge_ix (hK : X.K = W.K) (ha : GE X W E a ga) (hb : GE X W E b gb) (hs : PlainIx b) : GE X W E (.Subscript a b pos) (gBin dIx ga gb) := by
  refine mE (pe_ix ix_seq ha hb hs) fun σ H Q h => ?_
  obtain ⟨ξ, Γ, M, F, ρ, en, rp, po⟩ := two h
  refine ⟨ξ, Γ, M, F, ρ, en, rp, po.imp ?_⟩
  rintro vx H1 ⟨ξ1, Γ1, M1, F1, ρ1, en1, rp1, po1⟩
  refine ⟨ξ1, Γ1, M1, F1, ρ1, en1, rp1, po1.imp ?_⟩
  rintro vy H2 ⟨ξ2, x, y, M2, F2, ρ2, rp2, ix, iy, po2⟩
  unfold dIx at po2
  split at po2
  · rename_i i
    simp only [Is] at iy; subst iy
    split at po2
    · rename_i z
      simp only [Is] at ix; subst ix
      split at po2
      · rename_i hz
        split at po2
        · rename_i c hc
          exact .inr (.inr ⟨z, i, c, rfl, rfl, small_line hz, hc, po2.now rp2 (flat_str F2 ρ2)⟩)
        · exact po2.elim
      · exact po2.elim
    · split at po2
      · rename_i l el
        split at po2
        · rename_i d hd
          obtain ⟨p, vs, rfl, q, hl⟩ := seqOf_ok rp2 ix el
          obtain ⟨v, ev, iv⟩ := hl.atI hd
          rw [hK]
          rcases q with q | q
          · exact .inl ⟨p, vs, i, v, rfl, rfl, q, ev, po2.now rp2 iv⟩
          · exact .inr (.inl ⟨p, vs, i, v, rfl, rfl, q, ev, po2.now rp2 iv⟩)
        · exact po2.elim
      · exact po2.elim
  · exact po2.elim
/-- o[i] = .. for a list of the store -/
def ggSub (go gi : GE') : GG' := fun d Γ M => match go Γ M with
  | .ok (.ref k) M1 => (match gi Γ M1 with
    | .ok (.int i) M2 => (match M2[k]? with
      | some (.lst l) => (match ixN l.length i with
        | some j => some (Γ, M2.set k (.lst (l.set j d)))
        | none => none)
      | _ => none)
    | _ => none)
  | _ => none
theorem gg_sub {i : Expr} {gi : GE'} (ho : GE X W E o go) (hi : GE X W E i gi) (h : ∀ v, assign (.Subscript o i pos) X.env v = (do
      let ov ← holding [v] (eval o X.env)
      let iv ← holding [v, ov] (eval i X.env)
      standAt pos
      holding [v, ov, iv] (setItem ov iv v)
      release [v, ov, iv] []) := by intro _; rfl) : GG X W (.Subscript o i pos) (ggSub go gi) :=
  mG (pg_sub ho hi set_list h) fun v σ H Q ⟨ξ, d, Γ, M, F, ρ, is, en, rp, po⟩ => by
    unfold ggSub at po
    split at po
    · rename_i k M1 eo
      refine ⟨ξ, Γ, M, F, ρ, en, rp, ?_⟩
      rw [eo]
      intro vo F1 ρ1 H1 le1 p1 rp1 iso
      simp only [Is] at iso; obtain ⟨a, rfl, ea⟩ := iso
      split at po
      · rename_i z M2 ei
        refine ⟨ξ, Γ, M1, F1, ρ1, en.mono le1 p1, rp1, ?_⟩
        rw [ei]
        intro vi F2 ρ2 H2 le2 p2 rp2 isi
        simp only [Is] at isi; subst isi
        split at po
        · rename_i l em
          split at po
          · rename_i j ej
            have ea2 := pre_get p2 ea
            obtain ⟨_, vs, hv, hl⟩ := rp2.obj k _ a em ea2
            have is2 := is.mono (le1.tr le2) (p1.trans p2)
            refine ⟨a, vs, z, j, rfl, rfl, hv, by rw [hl.len]; exact ej, ?_⟩
            exact po σ F2 ρ2 _ (le1.tr le2) (p1.trans p2) (rp2.set ea2 ⟨_, rfl, hl.set j is2⟩) (en.mono (le1.tr le2) (p1.trans p2))
          · exact po.elim
        · exact po.elim
      · exact po.elim
    · exact po.elim
/-! ### slices -/
abbrev GO' := Gam → Stor → R (Option Int)
def tGO (W : Wd) (E : Sg → XK) (g : GO') : TO := fun σ H Q => ∃ ξ Γ M F ρ, En W Γ σ F ρ ∧ Rp W ξ M F H ρ ∧ Po W ξ (fun _ _ (x y : Option Int) => x = y) F ρ (g Γ M) Q (E σ)
abbrev GO (X : Cx) (W : Wd) (E : Sg → XK) (e : Option Expr) (g : GO') : Prop := PO X e (tGO W E g)
def goNone : GO' := fun _ M => .ok none M
def goSome (a : GE') : GO' := fun Γ M => (a Γ M).bind fun x M1 => match x with
  | .int i => .ok (some i) M1
  | _ => .no
theorem go_none : GO X W E none goNone := ⟨fun pins s σ H Q I ⟨ξ, Γ, M, F, ρ, en, rp, po⟩ => po_none.run pins s σ H Q I (po none F ρ H Le.rfl' (List.prefix_refl _) rp rfl)⟩
theorem go_some (h : GE X W E e ga) : GO X W E (some e) (goSome ga) := ⟨fun pins s σ H Q I ⟨ξ, Γ, M, F, ρ, en, rp, po⟩ => (po_some h).run pins s σ H Q I ⟨ξ, Γ, M, F, ρ, en, rp, (Po.bind (rel := Is W) po).imp (by
  rintro v H1 ⟨x, M1, F1, ρ1, e1, p1, rp1, ix, po1⟩
  cases x with
  | int i => simp only [Is] at ix; subst ix; exact ⟨i, rfl, po1 (some i) F1 ρ1 H1 Le.rfl' (List.prefix_refl _) rp1 rfl⟩
  | _ => exact po1.elim)⟩⟩
def cutD (l : List D) (lo hi : Option Int) : List D := (l.drop (HT.sIx l.length 0 lo)).take (HT.sIx l.length l.length hi - HT.sIx l.length 0 lo)
theorem IsL.cut {F : Hp} {ρ : List Addr} {l : List D} {vs : List V} (h : IsL W F ρ l vs) (lo hi : Option Int) : IsL W F ρ (cutD l lo hi) (cutV vs lo hi) := by
  unfold cutD cutV
  rw [h.len]
  exact (h.drop _).take _
def dSl (x : D) (lo hi : Option Int) (M : Stor) : R D := match x with
  | .str z => if z.length ≤ 1000000 then .ok (.str (cutS z lo hi)) M else .no
  | .tup l => .ok (.tup (cutD l lo hi)) M
  | x => (match lstOf x M with
    | some l => .ok (.lst (cutD l lo hi)) M
    | none => .no)
def gSl (a : GE') (lo hi : GO') : GE' := fun Γ M => (a Γ M).bind fun x M1 => (lo Γ M1).bind fun l M2 => (hi Γ M2).bind fun h M3 => dSl x l h M3
theorem ge_slice {lo hi : Option Expr} {gl gh : GO'} (hK : X.K = W.K) (ha : GE X W E a ga) (hl : GO X W E lo gl) (hh : GO X W E hi gh) : GE X W E (.Subscript a (.Slice lo hi none p2) pos) (gSl ga gl gh) := by
  refine mE (pe_slice (sl_list.or (sl_tupA.or sl_str)) ha hl hh) fun σ H Q ⟨ξ, Γ, M, F, ρ, en, rp, po⟩ => ?_
  refine ⟨ξ, Γ, M, F, ρ, en, rp, po.bind.imp ?_⟩
  rintro vx H1 ⟨x, M1, F1, ρ1, e1, p1, rp1, ix, po1⟩
  refine ⟨ξ, Γ, M1, F1, ρ1, en.mono e1 p1, rp1, po1.bind.imp ?_⟩
  rintro l H2 ⟨l', M2, F2, ρ2, e2, p2, rp2, rfl, po2⟩
  refine ⟨ξ, Γ, M2, F2, ρ2, (en.mono e1 p1).mono e2 p2, rp2, po2.bind.imp ?_⟩
  rintro h H3 ⟨h', M3, F3, ρ3, e3, p3, rp3, rfl, po3⟩
  have ix3 := (ix.mono e2 p2).mono e3 p3
  unfold dSl at po3
  split at po3
  · rename_i z
    simp only [Is] at ix3; subst ix3
    split at po3
    · rename_i hz; exact .inr (.inr ⟨z, rfl, small_line hz, po3.now rp3 (flat_str F3 ρ3)⟩)
    · exact po3.elim
  · rename_i l
    simp only [Is] at ix3; obtain ⟨p, vs, rfl, q, hl⟩ := ix3
    refine .inr (.inl ⟨p, vs, rfl, by rw [hK]; exact rp3.sub.sqT q, fun hw => ?_, fun _ q n => new_tup rp3 (hl.cut _ _) n po3⟩)
    refine po3.now rp3 ?_
    simp only [Is]
    refine ⟨p, vs, rfl, q, ?_⟩
    have e : cutD l l' h' = l := by
      unfold cutD
      rw [← hl.len, hw.1, hw.2]
      simp [hl.len]
    rw [e]; exact hl
  · split at po3
    · rename_i l el
      obtain ⟨p, vs, rfl, q, hl⟩ := lstOf_ok rp3 ix3 el
      exact .inl ⟨p, vs, rfl, by rw [hK]; exact q, fun q n => new_lst rp3 (hl.cut _ _) n po3⟩
    · exact po3.elim
end
end G

namespace G
open PySem PySem.Spec PyProof.Rows L2
section
variable {X : Cx} {W : Wd} {ξ : Xi} {E : Sg → XK} {a b e o : Expr} {es : List Expr} {ga gb go : GE'} {gs : GA'} {pos pos' p2 : Pos} {x : Str}
/-! ### isinstance -/
inductive TK where
  | non | bl | int | str | lst | tup | dct | ins (c : Nat)
  deriving DecidableEq
def tkV (W : Wd) : TK → Value
  | .non => .type "NoneType"
  | .bl => .type "bool"
  | .int => .type "int"
  | .str => .type "str"
  | .lst => .type "list"
  | .tup => .type "tuple"
  | .dct => .type "dict"
  | .ins c => .ref (W.T c)
def tkOf (x : D) (M : Stor) : Option TK := match x with
  | .non => some .non
  | .bl _ => some .bl
  | .int _ => some .int
  | .str _ => some .str
  | .lst _ => some .lst
  | .tup _ => some .tup
  | .dct _ _ => some .dct
  | .ins c _ => some (.ins c)
  | .ref k => (match M[k]? with
    | some (.lst _) => some .lst
    | some (.ins c _) => some (.ins c)
    | some (.dct _ _) => some .dct
    | _ => none)
  | _ => none
/-- what is asked of a class whose instances are looked at -/
structure ClsI (K : PySem.W.Frag) (C : Addr) : Prop where
  cl : Cls K C
  ha : PySem.W.findIn K (.ref C) "__class__" = some (some (.builtin "object.__class__"))
  hn : PySem.W.specialIn K (.builtin "object.__class__") "__get__" = some (some (.builtin "getset_descriptor.__get__"))
  htk : PySem.W.takesIn K (.builtin "object.__class__") = some true
  hm : PySem.W.mroIn K C (.type "object") = some true
/-- ok: the classes whose facts are known -/
def ClsOk (W : Wd) (ok : Nat → Bool) : Prop := ∀ c, ok c = true → ClsI W.K (W.T c)
def tkGood (ok : Nat → Bool) : TK → Bool
  | .ins c => ok c
  | _ => true
theorem sqT_ty {K : PySem.W.Frag} {H : Hp} {a : Addr} {vs : List V} (h : SqT K H a vs) : TyX K H (.ref a) (.type "tuple") := by
  rcases h with (h | ⟨ob, h⟩) | ⟨ob, its, n, h, hc, _⟩
  · exact .base (.tup h)
  · exact .fTuple h
  · exact .kTuple h hc
theorem tkOf_ok {ok : Nat → Bool} (hc : ClsOk W ok) {M : Stor} {F H : Hp} {ρ : List Addr} {x : D} {v : V} {t : TK} (rp : Rp W ξ M F H ρ) (ix : Is W F ρ x v) (e : tkOf x M = some t) (g : tkGood ok t = true) : TyX W.K H v (tkV W t) := by
  unfold tkOf at e
  split at e
  · cases e; simp only [Is] at ix; subst ix; exact .base .non
  · cases e; simp only [Is] at ix; subst ix; exact .base (.bl _)
  · cases e; simp only [Is] at ix; subst ix; exact .base (.int _)
  · cases e; simp only [Is] at ix; subst ix; exact .base (.str _)
  · cases e; simp only [Is] at ix; obtain ⟨a, vs, rfl, q, _⟩ := ix; exact .base (.lst (rp.sub _ _ q))
  · cases e; simp only [Is] at ix; obtain ⟨a, vs, rfl, q, _⟩ := ix; exact sqT_ty (rp.sub.sqT q)
  · cases e; simp only [Is] at ix; obtain ⟨a, vs, rfl, q, _⟩ := ix; exact .base (.dK (rp.sub _ _ q))
  · rename_i c l
    cases e; simp only [Is] at ix; obtain ⟨a, dx, fvs, rfl, q, _⟩ := ix
    have z := hc c g
    exact .base (.ins (rp.sub _ _ q) z.cl z.ha z.hn z.htk z.hm)
  · rename_i k
    simp only [Is] at ix; obtain ⟨a, rfl, ea⟩ := ix
    split at e
    · rename_i l em
      cases e
      obtain ⟨_, vs, hv, _⟩ := rp.obj k _ a em ea
      exact .base (.lst hv)
    · rename_i c l em
      cases e
      obtain ⟨_, dx, fvs, hv, _⟩ := rp.obj k _ a em ea
      have z := hc c g
      exact .base (.ins hv z.cl z.ha z.hn z.htk z.hm)
    · rename_i ks l em
      cases e
      obtain ⟨_, vs, hv, _⟩ := rp.obj k _ a em ea
      exact .base (.dK hv)
    · cases e
  · cases e
/-- the classes asked for -/
inductive CK where
  | ty (n : String) | own (c : Nat)
def ckV (W : Wd) : CK → Value
  | .ty n => .type n
  | .own c => .ref (W.T c)
def ckOf : D → Option CK
  | .ty n => some (.ty n)
  | .cls c => some (.own c)
  | _ => none
def IsiOk (W : Wd) (tab : TK → CK → Option Bool) : Prop := ∀ t c b, tab t c = some b → PySem.W.kitOne W.K (tkV W t) (ckV W c) = some b
def fIsi (ok : Nat → Bool) (tab : TK → CK → Option Bool) : List D → Stor → R D := fun ds M => match ds with
  | [x, y] => (match tkOf x M, ckOf y with
    | some t, some c => if tkGood ok t then (match tab t c with
      | some b => .ok (.bl b) M
      | none => .no) else .no
    | _, _ => .no)
  | _ => .no
theorem cg_isi {ok : Nat → Bool} {tab : TK → CK → Option Bool} (hK : X.K = W.K) (hc : ClsOk W ok) (ht : IsiOk W tab) : CallG X W E (.builtin "isinstance") (fIsi ok tab) := CallG.of call_isi fun ξ M F H ρ ds vs Q Z rp is po => by
  unfold fIsi at po
  split at po
  · rename_i x y
    obtain ⟨v, u, rfl, ix, iy⟩ := two_of is
    split at po
    · rename_i t c et ec
      split at po
      · rename_i hg
        split at po
        · rename_i b hb
          rw [hK]
          refine ⟨v, u, tkV W t, ckV W c, b, rfl, ?_, tkOf_ok hc rp ix et hg, ht t c b hb, po.now rp (flat_bl F ρ)⟩
          unfold ckOf at ec
          split at ec
          · cases ec; simp only [Is] at iy; subst iy; exact .ty _
          · cases ec; simp only [Is] at iy; subst iy; exact .own _
          · cases ec
        · exact po.elim
      · exact po.elim
    · exact po.elim
  · exact po.elim
/-- a built-in class, an own class, as a value -/
theorem ge_ty {n : String} (hg : Gl X x) (hm : X.mg x = none) (hv : bootBuiltins x = some (.type n)) (hn : x ≠ "__name__" := by decide) (hd : (x == ("__debug__" : Str)) = false := by decide) : GE X W E (.Name x pos) (gC (.ty n)) :=
  ge_const (pe_bltn (v := .ty n) hg hm hv rfl hn hd) flat_ty
theorem ge_cls {c : Nat} (hg : Gl X x) (hm : X.mg x = some (.ref (W.T c))) (hd : (x == ("__debug__" : Str)) = false := by decide) : GE X W E (.Name x pos) (gC (.cls c)) :=
  ge_const (pe_glob (v := .ref (W.T c)) hg hm rfl hd) fun F ρ => by simp only [Is]
/-- a module's constant -/
theorem ge_glob {d : D} {v : V} {u : Value} (hg : Gl X x) (hm : X.mg x = some u) (r : RelV v u) (fl : Flat W d v) (hd : (x == ("__debug__" : Str)) = false := by decide) : GE X W E (.Name x pos) (gC d) :=
  ge_const (pe_glob hg hm r hd) fl
/-! ### attributes -/
/-- an instance's class and values -/
def insOf (x : D) (M : Stor) : Option (Nat × List D) := match x with
  | .ins c l => some (c, l)
  | .ref k => (match M[k]? with
    | some (.ins c l) => some (c, l)
    | _ => none)
  | _ => none
theorem insOf_ok {M : Stor} {F H : Hp} {ρ : List Addr} {x : D} {v : V} {c : Nat} {l : List D} (rp : Rp W ξ M F H ρ) (ix : Is W F ρ x v) (e : insOf x M = some (c, l)) :
    ∃ a dx fvs, v = .ref a ∧ H a = some (.ins (W.T c) dx fvs) ∧ fvs.map (·.1) = (W.fn c).take l.length ∧ IsL W F ρ l (fvs.map (·.2)) := by
  unfold insOf at e
  split at e
  · cases e; simp only [Is] at ix; obtain ⟨a, dx, fvs, e1, q, n, hl⟩ := ix; exact ⟨a, dx, fvs, e1, rp.sub _ _ q, n, hl⟩
  · rename_i k
    simp only [Is] at ix; obtain ⟨a, e1, ea⟩ := ix
    split at e
    · rename_i c' l' em
      cases e
      obtain ⟨_, dx, fvs, hv, n, hl⟩ := rp.obj k _ a em ea
      exact ⟨a, dx, fvs, e1, hv, n, hl⟩
    · cases e
  · cases e
/-- the field f is the i-th of class c, and nothing of the class hides it -/
structure FldOk (W : Wd) (f : Str) (c i : Nat) : Prop where
  cl : Cls W.K (W.T c)
  na : NoAttr W.K (W.T c) f
  ix : (W.fn c)[i]? = some f
  nd : (W.fn c).Nodup
def FldsOk (W : Wd) (f : Str) (tab : Nat → Option Nat) : Prop := ∀ c i, tab c = some i → FldOk W f c i
def dFld (tab : Nat → Option Nat) : D → Stor → R D := fun x M => match insOf x M with
  | some (c, l) => (match tab c with
    | some i => (match l[i]? with
      | some d => .ok d M
      | none => .no)
    | none => .no)
  | none => .no
theorem look_at : ∀ {fvs : List (Str × V)} {i : Nat} {f : Str} {v : V}, (fvs.map (·.1)).Nodup → (fvs.map (·.1))[i]? = some f → (fvs.map (·.2))[i]? = some v → fvs.lookup f = some v
  | [], _, _, _, _, e, _ => by simp at e
  | (g, z) :: r, 0, f, v, _, e, e2 => by simp at e e2; subst e; subst e2; simp [List.lookup]
  | (g, z) :: r, i + 1, f, v, nd, e, e2 => by
    simp at e e2 nd
    have hne : (f == g) = false := by
      apply beq_eq_false_iff_ne.mpr
      intro h; subst h
      obtain ⟨y, hy⟩ := e
      exact nd.1 y (List.mem_of_getElem? hy)
    have := look_at (fvs := r) (i := i) (f := f) (v := v) (by simpa using nd.2) (by simpa using e) (by simpa using e2)
    simp [List.lookup, hne, this]
theorem ge_fld {tab : Nat → Option Nat} {f : Str} (hK : X.K = W.K) (ht : FldsOk W f tab) (he : GE X W E e ga) (hb : attributeBase e f X.env (eval e X.env) = eval e X.env := by rfl) : GE X W E (.Attribute e f pos) (gUn (dFld tab) ga) :=
  mE (pe_fld he hb) fun σ H Q ⟨ξ, Γ, M, F, ρ, en, rp, po⟩ => ⟨ξ, Γ, M, F, ρ, en, rp, po.bind.imp (by
    rintro v H1 ⟨x, M1, F1, ρ1, e1, p1, rp1, ix, po1⟩
    unfold dFld at po1
    split at po1
    · rename_i c l ei
      split at po1
      · rename_i i et
        split at po1
        · rename_i d hd
          obtain ⟨a, dx, fvs, rfl, hv, hn, hl⟩ := insOf_ok rp1 ix ei
          have z := ht c i et
          obtain ⟨w, ew, iw⟩ := hl.get hd
          have hi : i < l.length := (List.getElem?_eq_some_iff.mp hd).1
          refine ⟨a, W.T c, dx, fvs, w, rfl, hv, by rw [hK]; exact z.cl, by rw [hK]; exact z.na, look_at (i := i) ?_ ?_ ew, po1.now rp1 iw⟩
          · rw [hn]; exact z.nd.sublist (List.take_sublist _ _)
          · rw [hn, List.getElem?_take_of_lt hi]; exact z.ix
        · exact po1.elim
      · exact po1.elim
    · exact po1.elim)⟩
/-- e.f = value, of an object of the store -/
def setFl (l : List D) (i : Nat) (d : D) : Option (List D) := if i < l.length then some (l.set i d) else if i = l.length then some (l ++ [d]) else none
def gSetF (tab : Nat → Option Nat) (o v : GE') : GS' := fun Γ M => (v Γ M).bindS Γ fun d M1 => (o Γ M1).bindS Γ fun x M2 => match x with
  | .ref k => (match M2[k]? with
    | some (.ins c l) => (match tab c with
      | some i => (match setFl l i d with
        | some l' => if l.length < 100 then .nx Γ (M2.set k (.ins c l')) else .no
        | none => .no)
      | none => .no)
    | _ => .no)
  | _ => .no
theorem putF_at : ∀ {fvs : List (Str × V)} {i : Nat} {f : Str} {v : V}, (fvs.map (·.1)).Nodup → (fvs.map (·.1))[i]? = some f → (putF f v fvs).map (·.1) = fvs.map (·.1) ∧ (putF f v fvs).map (·.2) = (fvs.map (·.2)).set i v
  | [], _, _, _, _, e => by simp at e
  | (g, z) :: r, 0, f, v, _, e => by simp at e; subst e; simp [putF]
  | (g, z) :: r, i + 1, f, v, nd, e => by
    simp at e nd
    have hne : ¬ g = f := by
      intro h; subst h
      obtain ⟨y, hy⟩ := e
      exact nd.1 y (List.mem_of_getElem? hy)
    obtain ⟨h1, h2⟩ := putF_at (fvs := r) (i := i) (f := f) (v := v) (by simpa using nd.2) (by simpa using e)
    simp [putF, hne, h1, h2]
theorem putF_new : ∀ {fvs : List (Str × V)} {f : Str} {v : V}, f ∉ fvs.map (·.1) → putF f v fvs = fvs ++ [(f, v)]
  | [], _, _, _ => rfl
  | (g, z) :: r, f, v, h => by
    simp at h
    have hne : ¬ g = f := fun q => h.1 q.symm
    have := putF_new (fvs := r) (f := f) (v := v) (by simpa using h.2)
    simp [putF, hne, this]
theorem gs_setF {tab : Nat → Option Nat} {f : Str} (hK : X.K = W.K) (ht : FldsOk W f tab) (ho : GE X W E o go) (hv : GE X W E e ga) (hs : swapsWith e (some (.Attribute o f pos')) pos.line X.env = pure false := by rfl) : GS X W E (.Assign [.Attribute o f pos'] e pos) (gSetF tab go ga) :=
  mS (ps_fld ho hv hs) fun N σ H ⟨ξ, Γ, M, F, ρ, en, rp, po⟩ => ⟨ξ, Γ, M, F, ρ, en, rp, (Po.bindS en po).imp (by
    rintro vy H1 ⟨d, M1, F1, ρ1, e1, p1, rp1, iy, po1⟩
    refine ⟨ξ, Γ, M1, F1, ρ1, en.mono e1 p1, rp1, (Po.bindS (en.mono e1 p1) po1).imp ?_⟩
    rintro vx H2 ⟨x, M2, F2, ρ2, e2, p2, rp2, ix, po2⟩
    split at po2
    · rename_i k
      split at po2
      · rename_i c l em
        split at po2
        · rename_i i et
          split at po2
          · rename_i l' el
            split at po2
            · rename_i hz
              simp only [Is] at ix; obtain ⟨a, rfl, ea⟩ := ix
              obtain ⟨_, dx, fvs, hv, hn, hl⟩ := rp2.obj k _ a em ea
              have z := ht c i et
              have len : fvs.length = l.length := by have := hl.len; simpa using this
              have nd : (fvs.map (·.1)).Nodup := by rw [hn]; exact z.nd.sublist (List.take_sublist _ _)
              have iy2 := iy.mono e2 p2
              refine ⟨a, W.T c, dx, fvs, rfl, hv, by rw [hK]; exact z.cl, by rw [hK]; exact z.na, by omega, ?_⟩
              refine po2 σ F2 ρ2 _ Le.rfl' (List.prefix_refl _) (rp2.set ea ?_) ((en.mono e1 p1).mono e2 p2)
              unfold setFl at el
              split at el
              · rename_i hi
                cases el
                obtain ⟨h1, h2⟩ := putF_at (v := vy) nd (i := i) (f := f) (by rw [hn, List.getElem?_take_of_lt hi]; exact z.ix)
                exact ⟨dx, _, rfl, by rw [h1, hn]; simp, by rw [h2]; exact hl.set i iy2⟩
              · split at el
                · rename_i hi
                  cases el
                  have hlt : l.length < (W.fn c).length := by have := (List.getElem?_eq_some_iff.mp z.ix).1; omega
                  have ef : (W.fn c)[l.length] = f := by
                    have := z.ix
                    rw [hi, List.getElem?_eq_getElem hlt] at this
                    exact Option.some.inj this
                  have nf : f ∉ fvs.map (·.1) := by
                    rw [hn]
                    intro hm
                    obtain ⟨j, hj, ej⟩ := List.getElem_of_mem hm
                    rw [List.getElem_take] at ej
                    have hj' : j < l.length := by rw [List.length_take] at hj; omega
                    have := (List.getElem_inj z.nd).mp (ej.trans ef.symm)
                    omega
                  rw [putF_new nf]
                  refine ⟨dx, _, rfl, ?_, ?_⟩
                  · rw [List.map_append, hn, List.length_append, List.length_singleton, List.take_succ_eq_append_getElem hlt, ef]; rfl
                  · rw [List.map_append]; exact hl.append (IsL.cons iy2 IsL.nil)
                · cases el
            · exact po2.elim
          · exact po2.elim
        · exact po2.elim
      · exact po2.elim
    · exact po2.elim)⟩
end
end G

namespace G
open PySem PySem.Spec PyProof.Rows L2
section
variable {X : Cx} {W : Wd} {ξ : Xi} {E : Sg → XK} {a b e o tg : Expr} {es : List Expr} {ga gb : GE'} {gs : GA'} {pos pos' p2 p : Pos} {x : Str}
/-! ### what is walked -/
abbrev anyS : Stor → Prop := fun _ => True
def giSeq (a : GE') : GI' := fun Γ M => (a Γ M).bind fun x M1 => match x with
  | .tup l => .ok (l, anyS) M1
  | .lst l => .ok (l, anyS) M1
  | .lck l => .ok (l, anyS) M1
  | .ref k => (match M1[k]? with
    | some (.lst l) => .ok (l, fun M => M[k]? = some (.lst l)) M1
    | _ => .no)
  | _ => .no
/-- a list is walked -/
def giLst (a : GE') : GI' := fun Γ M => (a Γ M).bind fun x M1 => match x with
  | .lst l => .ok (l, anyS) M1
  | .lck l => .ok (l, anyS) M1
  | .ref k => (match M1[k]? with
    | some (.lst l) => .ok (l, fun M => M[k]? = some (.lst l)) M1
    | _ => .no)
  | _ => .no
theorem good_list {F0 : Hp} {ρ0 : List Addr} {l : List D} {vs : List V} {q : Addr} {keep : Stor → Prop} (h : ∀ ξ M F H ρ, Le F0 F → ρ0 <+: ρ → Rp W ξ M F H ρ → keep M → ∃ vs, SqL W.K H q vs ∧ IsL W F ρ l vs) : GoodIt W F0 ρ0 (l, keep) (Itl W.K q) := by
  intro ξ i M F H ρ le pr rp hk
  obtain ⟨vs, hv, hl⟩ := h ξ M F H ρ le pr rp hk
  refine ⟨fun d hd => ?_, fun hi => ⟨vs, hv, by rw [hl.len]; exact hi⟩⟩
  obtain ⟨v, ev, iv⟩ := hl.get hd
  refine ⟨⟨vs, v, hv, ev⟩, fun x H' ⟨eH, ey⟩ => ?_⟩
  subst eH
  have := ey vs hv
  rw [ev] at this; cases this
  exact ⟨F, Le.rfl', rp, iv⟩
theorem good_tup {F0 : Hp} {ρ0 : List Addr} {l : List D} {vs : List V} {q : Addr} (hq : SqT W.K F0 q vs) (hl0 : IsL W F0 ρ0 l vs) : GoodIt W F0 ρ0 (l, anyS) (Itt W.K q) := by
  intro ξ i M F H ρ le pr rp hk
  have hl := hl0.mono le pr
  have hv := rp.sub.sqT (le.sqT hq)
  refine ⟨fun d hd => ?_, fun hi => ⟨vs, hv, by rw [hl.len]; exact hi⟩⟩
  obtain ⟨v, ev, iv⟩ := hl.get hd
  refine ⟨⟨vs, v, hv, ev⟩, fun x H' ⟨eH, ey⟩ => ?_⟩
  subst eH
  have := ey vs hv
  rw [ev] at this; cases this
  exact ⟨F, Le.rfl', rp, iv⟩
theorem gi_list (hK : X.K = W.K) (h : GE X W E e ga) : GI X W E tg e (giLst ga) :=
  mI (pi_list h) fun σ H Q ⟨ξ, Γ, M, F, ρ, en, rp, po⟩ => ⟨ξ, Γ, M, F, ρ, en, rp, (Po.bind (rel := Is W) po).imp (by
    rintro v H1 ⟨x, M1, F1, ρ1, e1, p1, rp1, ix, po1⟩
    rw [hK]
    split at po1
    · rename_i l
      simp only [Is] at ix; obtain ⟨q, vs, rfl, hq, hl⟩ := ix
      exact ⟨q, rfl, ⟨vs, SqL.of (rp1.sub _ _ hq)⟩, po1 _ F1 ρ1 H1 Le.rfl' (List.prefix_refl _) rp1 (good_list (vs := vs) fun ξ M F H ρ le pr rp _ => ⟨vs, SqL.of (rp.sub _ _ (le _ _ hq)), hl.mono le pr⟩)⟩
    · rename_i l
      simp only [Is] at ix; obtain ⟨q, vs, rfl, hq, hl⟩ := ix
      exact ⟨q, rfl, ⟨vs, rp1.sub.sqL hq⟩, po1 _ F1 ρ1 H1 Le.rfl' (List.prefix_refl _) rp1 (good_list (vs := vs) fun ξ M F H ρ le pr rp _ => ⟨vs, rp.sub.sqL (le.sqL hq), hl.mono le pr⟩)⟩
    · rename_i k
      split at po1
      · rename_i l em
        simp only [Is] at ix; obtain ⟨q, rfl, eq⟩ := ix
        obtain ⟨_, vs, hv, hl⟩ := rp1.obj k _ q em eq
        refine ⟨q, rfl, ⟨vs, SqL.of hv⟩, po1 _ F1 ρ1 H1 Le.rfl' (List.prefix_refl _) rp1 (good_list (vs := vs) fun ξ M F H ρ le pr rp hm => ?_)⟩
        obtain ⟨_, us, hu, hlu⟩ := rp.obj k _ q hm (pre_get pr eq)
        exact ⟨us, SqL.of hu, hlu⟩
      · exact po1.elim
    · exact po1.elim)⟩
def giTup (a : GE') : GI' := fun Γ M => (a Γ M).bind fun x M1 => match x with
  | .tup l => .ok (l, anyS) M1
  | _ => .no
theorem gi_tup (hK : X.K = W.K) (h : GE X W E e ga) : GI X W E tg e (giTup ga) :=
  mI (pi_tup h) fun σ H Q ⟨ξ, Γ, M, F, ρ, en, rp, po⟩ => ⟨ξ, Γ, M, F, ρ, en, rp, (Po.bind (rel := Is W) po).imp (by
    rintro v H1 ⟨x, M1, F1, ρ1, e1, p1, rp1, ix, po1⟩
    rw [hK]
    split at po1
    · rename_i l
      simp only [Is] at ix; obtain ⟨q, vs, rfl, hq, hl⟩ := ix
      exact ⟨q, rfl, ⟨vs, rp1.sub.sqT hq⟩, po1 _ F1 ρ1 H1 Le.rfl' (List.prefix_refl _) rp1 (good_tup hq hl)⟩
    · exact po1.elim)⟩
/-- either of the two, by what comes -/
theorem PI.or {t t' : TI} (h : PI X tg e t) (h' : PI X tg e t') : PI X tg e (fun σ H Q => t σ H Q ∨ t' σ H Q) := ⟨fun pins s σ H R I z => z.elim (h.run pins s σ H R I) (h'.run pins s σ H R I)⟩
theorem gi_seq (hK : X.K = W.K) (h : GE X W E e ga) : GI X W E tg e (giSeq ga) :=
  mI (PI.or (gi_list hK h) (gi_tup hK h)) fun σ H Q ⟨ξ, Γ, M, F, ρ, en, rp, po⟩ => by
    unfold giSeq at po
    cases er : ga Γ M with
    | no => rw [er] at po; exact po.elim
    | ex c fs M1 => rw [er] at po; exact .inl ⟨ξ, Γ, M, F, ρ, en, rp, by unfold giLst; rw [er]; exact po⟩
    | ok d M1 =>
      rw [er] at po
      cases d with
      | tup l => exact .inr ⟨ξ, Γ, M, F, ρ, en, rp, by unfold giTup; rw [er]; exact po⟩
      | lst l => exact .inl ⟨ξ, Γ, M, F, ρ, en, rp, by unfold giLst; rw [er]; exact po⟩
      | lck l => exact .inl ⟨ξ, Γ, M, F, ρ, en, rp, by unfold giLst; rw [er]; exact po⟩
      | ref k => exact .inl ⟨ξ, Γ, M, F, ρ, en, rp, by unfold giLst; rw [er]; exact po⟩
      | _ => exact po.elim
/-- the numbers from lo on, n of them -/
def upFrom (lo : Int) (n : Nat) : List D := (List.range n).map fun i => .int (lo + (i : Nat))
theorem good_range {F0 : Hp} {ρ0 : List Addr} {lo : Int} {n : Nat} : GoodIt W F0 ρ0 (upFrom lo n, anyS) (Itr lo n) := by
  intro ξ i M F H ρ le pr rp hk
  refine ⟨fun d hd => ?_, fun hi => (by simpa [upFrom] using hi : n ≤ i)⟩
  have hi : i < n := by have := (List.getElem?_eq_some_iff.mp hd).1; simpa [upFrom] using this
  refine ⟨hi, fun x H' ⟨eH, ex⟩ => ?_⟩
  subst eH; subst ex
  have : d = .int (lo + (i : Nat)) := by
    unfold upFrom at hd
    rw [List.getElem?_map, List.getElem?_range hi] at hd
    exact (Option.some.inj hd).symm
  subst this
  exact ⟨F, Le.rfl', rp, by simp only [Is]⟩
def giRange1 (a : GA') : GI' := fun Γ M => (a Γ M).bind fun xs M1 => match xs with
  | [.int j] => if -(2 ^ 62) ≤ j ∧ j < 2 ^ 62 then .ok (upFrom 0 j.toNat, anyS) M1 else .no
  | _ => .no
theorem gi_range1 (hg : Gl X "range") (hm : X.mg "range" = none) (ha : GA X W E [a] gs) (hs : starEach [a] X.env = [(false, eval a X.env)] := by rfl) : GI X W E tg (.Call (.Name "range" p) [a] [] pos) (giRange1 gs) :=
  mI (pi_range1 hg hm ha hs) fun σ H Q ⟨ξ, Γ, M, F, ρ, en, rp, po⟩ => ⟨ξ, Γ, M, F, ρ, en, rp, (Po.bind (rel := IsL W) po).imp (by
    rintro vs H1 ⟨xs, M1, F1, ρ1, e1, p1, rp1, is, po1⟩
    split at po1
    · rename_i j
      split at po1
      · rename_i hz
        obtain ⟨v, rfl, iv⟩ := one_of is
        simp only [Is] at iv; subst iv
        exact ⟨j, rfl, hz.1, hz.2, po1 _ F1 ρ1 H1 Le.rfl' (List.prefix_refl _) rp1 good_range⟩
      · exact po1.elim
    · exact po1.elim)⟩
def giRange2 (a : GA') : GI' := fun Γ M => (a Γ M).bind fun xs M1 => match xs with
  | [.int i, .int j] => if -(2 ^ 62) ≤ i ∧ i < 2 ^ 62 ∧ -(2 ^ 62) ≤ j ∧ j < 2 ^ 62 then .ok (upFrom i (j - i).toNat, anyS) M1 else .no
  | _ => .no
theorem gi_range2 (hg : Gl X "range") (hm : X.mg "range" = none) (ha : GA X W E [a, b] gs) (hs : starEach [a, b] X.env = [(false, eval a X.env), (false, eval b X.env)] := by rfl) (hs2 : starEach [b] X.env = [(false, eval b X.env)] := by rfl) : GI X W E tg (.Call (.Name "range" p) [a, b] [] pos) (giRange2 gs) :=
  mI (pi_range2 hg hm ha hs hs2) fun σ H Q ⟨ξ, Γ, M, F, ρ, en, rp, po⟩ => ⟨ξ, Γ, M, F, ρ, en, rp, (Po.bind (rel := IsL W) po).imp (by
    rintro vs H1 ⟨xs, M1, F1, ρ1, e1, p1, rp1, is, po1⟩
    split at po1
    · rename_i i j
      split at po1
      · rename_i hz
        obtain ⟨v, u, rfl, iv, iu⟩ := two_of is
        simp only [Is] at iv iu; subst iv; subst iu
        exact ⟨i, j, rfl, hz, po1 _ F1 ρ1 H1 Le.rfl' (List.prefix_refl _) rp1 good_range⟩
      · exact po1.elim
    · exact po1.elim)⟩
/-! ### [e for x in xs if t] -/
/-- targets of a block: a name, a tuple of names -/
inductive Tgt where
  | one (i : Nat) | tup (is : List Nat)
def gsSlots : List Nat → TGs
  | [] => L2.gNil
  | i :: is => L2.gCons (gName i) (gsSlots is)
def Tgt.raw (K : PySem.W.Frag) : Tgt → TG
  | .one i => gName i
  | .tup is => L2.gTup K is.length (gsSlots is)
def setAll : List Nat → List D → Gam → Option Gam
  | [], [], Γ => some Γ
  | i :: is, d :: ds, Γ => setAll is ds (Γ.set i (some d))
  | _, _, _ => none
def Tgt.run : Tgt → D → Gam → Option Gam
  | .one i, d, Γ => some (Γ.set i (some d))
  | .tup is, .tup ds, Γ => setAll is ds Γ
  | _, _, _ => none
def Tgt.slots : Tgt → List Nat
  | .one i => [i]
  | .tup is => is
open Classical in
noncomputable def compG (keep : Stor → Prop) (t : Tgt) (tt : GT') (te : GE') (Γ : Gam) : List D → Stor → List D → R (List D)
  | [], M, acc => .ok acc M
  | d :: ds, M, acc => match t.run d Γ with
    | some Γ1 => (match tt Γ1 M with
      | .ok true M2 => (match te Γ1 M2 with
        | .ok y M3 => if keep M3 ∧ acc.length < 1000000 then compG keep t tt te Γ ds M3 (acc ++ [y]) else .no
        | _ => .no)
      | .ok false M2 => if keep M2 then compG keep t tt te Γ ds M2 acc else .no
      | _ => .no)
    | none => .no
def wipeG (Γ : Gam) : List Nat → Gam
  | [] => Γ
  | v :: vs => (wipeG Γ vs).set v none
theorem En.wipes {Γ : Gam} {σ : Sg} {F : Hp} {ρ : List Addr} (h : En W Γ σ F ρ) : ∀ vs : List Nat, En W (wipeG Γ vs) (L2.wipe σ vs) F ρ
  | [] => h
  | v :: vs => (En.wipes h vs).wipe
open Classical in
noncomputable def gComp (it : GI') (t : Tgt) (tt : GT') (te : GE') : GE' := fun Γ M => (it Γ M).bind fun q M1 => if q.2 M1 then (compG q.2 t tt te (wipeG Γ t.slots) q.1 M1 []).bind fun l M2 => .ok (.lst l) M2 else .no
theorem Rp.aside {M : Stor} {F H : Hp} {ρ : List Addr} (h : Rp W ξ M F H ρ) {q : Addr} {ob : HO} (n : H q = none) : Rp W ((q, ob) :: ξ) M F (upd H q ob) ρ := by
  have z := h.newH (o := ob) n
  refine ⟨z.sub, z.len, z.nd, z.obj, fun r hr => ?_, fun r hr => by
    obtain ⟨t1, t2, t3, ps, t4, t5, t6⟩ := z.tb r hr
    refine ⟨t1, fun u hu => ?_, t3, ps, t4, t5, t6⟩
    rcases List.mem_cons.mp hu with rfl | hu
    · obtain ⟨_, _, _, ps', t4', _⟩ := h.tb r hr
      exact (ne_of_none t4' n).symm
    · exact t2 u hu⟩
  rcases List.mem_cons.mp hr with rfl | hr
  · exact ⟨upd_same, h.free n, fun hm => by
      obtain ⟨i, hi, e⟩ := List.getElem_of_mem hm
      exact h.ne n (List.getElem?_eq_some_iff.mpr ⟨hi, e⟩) rfl⟩
  · exact z.xt r hr
theorem Rp.aset {M : Stor} {F H : Hp} {ρ : List Addr} {q : Addr} {ob ob' : HO} (h : Rp W ((q, ob) :: ξ) M F H ρ) (nd : ∀ r ∈ ξ, r.1 ≠ q) : Rp W ((q, ob') :: ξ) M F (upd H q ob') ρ := by
  obtain ⟨q1, q2, q3⟩ := h.xt (q, ob) List.mem_cons_self
  refine ⟨fun a u e => ?_, h.len, h.nd, fun i m a em ea => ?_, fun r hr => ?_, fun r hr => by
    obtain ⟨t1, t2, t3, ps, t4, t5, t6⟩ := h.tb r hr
    have ne : r.1 ≠ q := (t2 (q, ob) List.mem_cons_self).symm
    rw [upd_ne ne]
    refine ⟨t1, fun u hu => ?_, t3, ps, t4, t5, t6⟩
    rcases List.mem_cons.mp hu with rfl | hu
    · exact ne.symm
    · exact t2 u (List.mem_cons_of_mem _ hu)⟩
  · rw [upd_ne (ne_of_none e q2)]; exact h.sub _ _ e
  · have ne : a ≠ q := fun z => q3 (by have := List.mem_of_getElem? ea; rw [z] at this; exact this)
    rw [upd_ne ne]; exact h.obj i m a em ea
  · rcases List.mem_cons.mp hr with rfl | hr'
    · exact ⟨upd_same, q2, q3⟩
    · obtain ⟨r1, r2, r3⟩ := h.xt r (List.mem_cons_of_mem _ hr')
      rw [upd_ne (nd r hr')]
      exact ⟨r1, r2, r3⟩
theorem Rp.firmD {M : Stor} {F H : Hp} {ρ : List Addr} {q : Addr} {ob : HO} (h : Rp W ((q, ob) :: ξ) M F H ρ) (nd : ∀ r ∈ ξ, r.1 ≠ q) : Rp W ξ M (upd F q ob) H ρ ∧ Le F (upd F q ob) := by
  obtain ⟨q1, q2, q3⟩ := h.xt (q, ob) List.mem_cons_self
  refine ⟨⟨fun a u e => ?_, h.len, h.nd, fun i m a em ea => ?_, fun r hr => ?_, fun r hr => by
    obtain ⟨t1, t2, t3, ps, t4, t5, t6⟩ := h.tb r hr
    have ne : r.1 ≠ q := (t2 (q, ob) List.mem_cons_self).symm
    rw [upd_ne ne]
    exact ⟨t1, fun u hu => t2 u (List.mem_cons_of_mem _ hu), t3, ps, t4, t5, fun pos cv z => let ⟨c, c1, c2⟩ := t6 pos cv z; ⟨c, c1, Le.new q2 _ _ c2⟩⟩⟩, Le.new q2⟩
  · by_cases hq : a = q
    · subst hq; rw [upd_same] at e; cases e; exact q1
    · rw [upd_ne hq] at e; exact h.sub _ _ e
  · have ne : a ≠ q := fun z => q3 (by have := List.mem_of_getElem? ea; rw [z] at this; exact this)
    obtain ⟨z1, z2⟩ := h.obj i m a em ea
    rw [upd_ne ne]; exact ⟨z1, z2.mono (Le.new q2) (List.prefix_refl _)⟩
  · obtain ⟨r1, r2, r3⟩ := h.xt r (List.mem_cons_of_mem _ hr)
    rw [upd_ne (nd r hr)]; exact ⟨r1, r2, r3⟩
theorem wipe_at {σ : Sg} {j : Nat} : ∀ (vs : List Nat), (wipe σ vs)[j]? = if j ∈ vs then (if j < σ.length then some none else none) else σ[j]?
  | [] => by simp [wipe]
  | v :: vs => by
    unfold wipe
    by_cases hv : v = j
    · subst hv
      rw [if_pos List.mem_cons_self]
      by_cases hl : v < σ.length
      · rw [List.getElem?_set_self (by rw [wipe_length]; exact hl), if_pos hl]
      · rw [if_neg hl, List.getElem?_eq_none (by rw [List.length_set, wipe_length]; omega)]
    · rw [List.getElem?_set_ne hv, wipe_at vs]
      have : (j ∈ v :: vs) ↔ j ∈ vs := ⟨fun z => (List.mem_cons.mp z).elim (fun q => absurd q.symm hv) id, List.mem_cons_of_mem _⟩
      by_cases hm : j ∈ vs
      · rw [if_pos hm, if_pos (this.mpr hm)]
      · rw [if_neg hm, if_neg (fun z => hm (this.mp z))]
theorem wipe_set {σ : Sg} {i : Nat} {o : Option V} {vs : List Nat} (hi : i ∈ vs) : wipe (σ.set i o) vs = wipe σ vs := by
  apply List.ext_getElem?
  intro j
  rw [wipe_at, wipe_at, List.length_set]
  by_cases hj : j ∈ vs
  · rw [if_pos hj, if_pos hj]
  · rw [if_neg hj, if_neg hj, List.getElem?_set_ne (fun z => hj (by rw [← z]; exact hi))]
theorem wipe_wipe {σ : Sg} {vs : List Nat} : wipe (wipe σ vs) vs = wipe σ vs := by
  apply List.ext_getElem?
  intro j
  rw [wipe_at, wipe_at, wipe_length]
  by_cases hj : j ∈ vs
  · rw [if_pos hj, if_pos hj]
  · rw [if_neg hj, if_neg hj]
theorem slots_ok {F H : Hp} {ρ : List Addr} {vs : List Nat} : ∀ {is : List Nat} {ds : List D} {us : List V} {Γ Γ1 : Gam} {σ : Sg} {Q : Sg → Hp → Prop}, (∀ i ∈ is, i ∈ vs) → setAll is ds Γ = some Γ1 → IsL W F ρ ds us → En W Γ σ F ρ →
    (∀ σ2, wipe σ2 vs = wipe σ vs → En W Γ1 σ2 F ρ → Q σ2 H) → gsSlots is us σ H Q
  | [], [], _, _, _, σ, _, _, e, h, en, k => by
    simp only [setAll, Option.some.injEq] at e; subst e
    rw [IsL.nil_iff] at h
    exact ⟨h, k σ rfl en⟩
  | i :: is, d :: ds, _, Γ, Γ1, σ, Q, hi, e, h, en, k => by
    obtain ⟨v, r, rfl, h1, h2⟩ := IsL.cons_iff.mp h
    simp only [setAll] at e
    refine ⟨v, r, rfl, ?_⟩
    refine slots_ok (is := is) (fun j hj => hi j (List.mem_cons_of_mem _ hj)) e h2 (en.set h1) fun σ2 hw en2 => k σ2 ?_ en2
    rw [hw, wipe_set (hi i List.mem_cons_self)]
  | [], _ :: _, _, _, _, _, _, _, e, _, _, _ => by simp [setAll] at e
  | _ :: _, [], _, _, _, _, _, _, e, _, _, _ => by simp [setAll] at e
theorem tgt_ok {F H : Hp} {ρ : List Addr} {M : Stor} {t : Tgt} {d : D} {v : V} {Γ Γ1 : Gam} {σ : Sg} {Q : Sg → Hp → Prop} (rp : Rp W ξ M F H ρ) (e : t.run d Γ = some Γ1) (is : Is W F ρ d v) (en : En W Γ σ F ρ)
    (k : ∀ σ2, wipe σ2 t.slots = wipe σ t.slots → En W Γ1 σ2 F ρ → Q σ2 H) : t.raw W.K v σ H Q := by
  cases t with
  | one i =>
    simp only [Tgt.run, Option.some.injEq] at e; subst e
    exact k _ (wipe_set (by simp [Tgt.slots])) (en.set is)
  | tup js =>
    cases d with
    | tup ds =>
      simp only [Tgt.run] at e
      simp only [Is] at is; obtain ⟨q, us, rfl, hq, hl⟩ := is
      refine ⟨q, us, rfl, rp.sub.sqT hq, ?_, slots_ok (fun _ z => z) e hl en k⟩
      rw [hl.len]
      clear hl hq k rp en
      induction js generalizing ds Γ with
      | nil => cases ds with
        | nil => rfl
        | cons _ _ => simp [setAll] at e
      | cons j js ih => cases ds with
        | nil => simp [setAll] at e
        | cons d ds => simp only [setAll] at e; simp [ih ds e]
    | _ => simp [Tgt.run] at e
abbrev E0 : Sg → XK := fun _ _ _ _ => False
theorem pass_E0 {X : Cx} : Pass X E0 := fun σ pins H s e s' I c => by
  obtain ⟨_, _, _, _, _, _, _, _, _, _, _, _, z⟩ := c
  exact z.elim
theorem ge_comp {elt iter : Expr} {ifs : List Expr} {scope : Scope} {own : List (Str × Nat)} {gi : GI'} {t : Tgt} {tt : GT'} {te : GE'} (hK : X.K = W.K) (hc : X.calm = true) (hN : X.N.Nodup) (hi : GI X W E tg iter gi) (ok : BlkOk X.N X.env.scope scope own) (hsl : own.map (·.2) = t.slots)
    (hg : ∀ (s : Shared) (H : Hp) (C : Addr) (cl : List (Str × Addr)) (fp : List Addr), PG (X.blk s H scope (compEnvC scope cl C X.env) fp) tg (t.raw X.K)) (ht : ∀ (s : Shared) (H : Hp) (C : Addr) (cl : List (Str × Addr)) (fp : List Addr), PTs (X.blk s H scope (compEnvC scope cl C X.env) fp) ifs (tGT W E0 tt))
    (he : ∀ (s : Shared) (H : Hp) (C : Addr) (cl : List (Str × Addr)) (fp : List Addr), GE (X.blk s H scope (compEnvC scope cl C X.env) fp) W E0 elt te) (hs : ∀ x, foldedSetIterable iter X.env x = pure x := by intro _; rfl) :
    GE X W E (.ListComp elt [⟨tg, iter, ifs, 0⟩] scope pos) (gComp gi t tt te) :=
  mE (pe_lc hc hN hi ok hg ht he hs) fun σ H Q ⟨ξ, Γ, M, F, ρ, en, rp, po⟩ => ⟨ξ, Γ, M, F, ρ, en, rp, po.bind.imp (by
    rintro J H0 ⟨q, M0, F0, ρ0, e0, p0, rp0, good, po0⟩
    split at po0
    case isFalse => exact po0.elim
    rename_i k0
    rw [hsl, hK]
    intro DD nD
    have nd : ∀ r ∈ ξ, r.1 ≠ DD := fun r hr => ne_of_none (rp0.xt r hr).1 nD
    have en0 := (en.mono e0 p0).wipes t.slots
    refine ⟨fun i m H => m = q.1.length - i ∧ i ≤ q.1.length ∧ ∃ M F ρ acc vs, Le F0 F ∧ ρ0 <+: ρ ∧ q.2 M ∧ Rp W ((DD, .lst vs) :: ξ) M F H ρ ∧ IsL W F ρ acc vs ∧
        Po W ξ (Is W) F ρ ((compG q.2 t tt te (wipeG Γ t.slots) (q.1.drop i) M acc).bind fun l M2 => .ok (.lst l) M2) Q (E σ),
      ⟨_, rfl, Nat.zero_le _, M0, F0, ρ0, [], [], Le.rfl', List.prefix_refl _, k0, rp0.aside nD, IsL.nil, by simpa using po0⟩, ?_⟩
    rintro i m H1 ⟨rfl, hi, M1, F1, ρ1, acc, vs, le1, p1, k1, rp1, ia, po1⟩
    obtain ⟨g1, g2⟩ := good _ i M1 F1 H1 ρ1 le1 p1 rp1 k1
    by_cases hlt : i < q.1.length
    · right
      have ed : q.1[i]? = some q.1[i] := List.getElem?_eq_getElem hlt
      rw [List.drop_eq_getElem_cons hlt] at po1
      obtain ⟨go, yl⟩ := g1 _ ed
      refine ⟨go, fun H' => ∃ M F ρ acc vs, Le F0 F ∧ ρ0 <+: ρ ∧ q.2 M ∧ Rp W ((DD, .lst vs) :: ξ) M F H' ρ ∧ IsL W F ρ acc vs ∧
          Po W ξ (Is W) F ρ ((compG q.2 t tt te (wipeG Γ t.slots) (q.1.drop (i + 1)) M acc).bind fun l M2 => .ok (.lst l) M2) Q (E σ), fun H' z => ⟨_, by omega, rfl, hlt, z⟩, fun x H' y => ?_⟩
      obtain ⟨F2, le2, rp2, ix⟩ := yl x H' y
      unfold compG at po1
      cases eg : t.run q.1[i] (wipeG Γ t.slots) with
      | none => rw [eg] at po1; exact po1.elim
      | some Γ3 =>
        rw [eg] at po1
        refine tgt_ok rp2 eg ix ((en0.mono le1 p1).mono le2 (List.prefix_refl _)) fun σ2 hw en3 => ⟨by rw [hw, wipe_wipe], _, Γ3, M1, F2, ρ1, en3, rp2, ?_⟩
        simp only at po1
        cases et : tt Γ3 M1 with
        | no => rw [et] at po1; exact po1.elim
        | ex c fs M2 => rw [et] at po1; exact po1.elim
        | ok c M2 =>
          rw [et] at po1
          intro c' F4 ρ4 H4 le4 p4 rp4 ec
          cases (show c = c' from ec)
          cases c with
          | false =>
            simp only at po1
            split at po1
            · rename_i k4
              refine iteF ⟨M2, F4, ρ4, acc, vs, le1.tr (le2.tr le4), p1.trans p4, k4, rp4, ia.mono (le2.tr le4) p4, po1.mono (le2.tr le4) p4⟩
            · exact po1.elim
          | true =>
            simp only at po1
            refine iteT ⟨_, Γ3, M2, F4, ρ4, en3.mono le4 p4, rp4, ?_⟩
            cases ee : te Γ3 M2 with
            | no => rw [ee] at po1; exact po1.elim
            | ex c fs M3 => rw [ee] at po1; exact po1.elim
            | ok y M3 =>
              rw [ee] at po1
              simp only at po1
              split at po1
              · rename_i k5
                intro vy F5 ρ5 H5 le5 p5 rp5 iy
                have ia5 := ia.mono (le2.tr (le4.tr le5)) (p4.trans p5)
                refine ⟨vs, (rp5.xt _ List.mem_cons_self).1, ?_, M3, F5, ρ5, acc ++ [y], vs ++ [vy], le1.tr (le2.tr (le4.tr le5)), p1.trans (p4.trans p5), k5.1, rp5.aset nd, ia5.append (IsL.cons iy IsL.nil), po1.mono (le2.tr (le4.tr le5)) (p4.trans p5)⟩
                rw [ia5.len, sizeLine_eq]; have := k5.2; omega
              · exact po1.elim
    · left
      have hi' : i = q.1.length := by omega
      refine ⟨g2 (by omega), ?_⟩
      subst hi'
      rw [List.drop_length] at po1
      obtain ⟨rp2, le2⟩ := rp1.firmD nd
      refine po1 (.ref DD) _ ρ1 H1 le2 (List.prefix_refl _) rp2 ?_
      simp only [Is]
      exact ⟨DD, vs, rfl, upd_same, ia.mono le2 (List.prefix_refl _)⟩)⟩
end
end G

namespace G
open PySem PySem.Spec PyProof.Rows L2
/-! ### an int and an own thing: the int's operator declines, the thing's reflected one answers -/
theorem dec_add (a : Int) (t : Tok) (l : Addr) (C dx : Addr) : Meets (Builtin.«int.__add__» ⟨[.int a t, .ref l], []⟩) (fun _ R s => s.heap.get? l = some (PySem.W.instObj C dx) ∧ R (.ok (.ret .notImplemented)) s) :=
  .of_wp fun prog w A R s h => by obtain ⟨hp, g, d, tk, os⟩ := s; obtain ⟨hl, h⟩ := h; wp_walk using wpAny_loadPart' hl, wpAny_load hl; exact ⟨_, rfl, h⟩
theorem dec_sub (a : Int) (t : Tok) (l : Addr) (C dx : Addr) : Meets (Builtin.«int.__sub__» ⟨[.int a t, .ref l], []⟩) (fun _ R s => s.heap.get? l = some (PySem.W.instObj C dx) ∧ R (.ok (.ret .notImplemented)) s) :=
  .of_wp fun prog w A R s h => by obtain ⟨hp, g, d, tk, os⟩ := s; obtain ⟨hl, h⟩ := h; wp_walk using wpAny_loadPart' hl, wpAny_load hl; exact ⟨_, rfl, h⟩
theorem dec_mul (a : Int) (t : Tok) (l : Addr) (C dx : Addr) : Meets (Builtin.«int.__mul__» ⟨[.int a t, .ref l], []⟩) (fun _ R s => s.heap.get? l = some (PySem.W.instObj C dx) ∧ R (.ok (.ret .notImplemented)) s) :=
  .of_wp fun prog w A R s h => by obtain ⟨hp, g, d, tk, os⟩ := s; obtain ⟨hl, h⟩ := h; wp_walk using wpAny_loadPart' hl, wpAny_load hl; exact ⟨_, rfl, h⟩
theorem dec_floordiv (a : Int) (t : Tok) (l : Addr) (C dx : Addr) : Meets (Builtin.«int.__floordiv__» ⟨[.int a t, .ref l], []⟩) (fun _ R s => s.heap.get? l = some (PySem.W.instObj C dx) ∧ R (.ok (.ret .notImplemented)) s) :=
  .of_wp fun prog w A R s h => by obtain ⟨hp, g, d, tk, os⟩ := s; obtain ⟨hl, h⟩ := h; wp_walk using wpAny_loadPart' hl, wpAny_load hl; exact ⟨_, rfl, h⟩
theorem dec_mod (a : Int) (t : Tok) (l : Addr) (C dx : Addr) : Meets (Builtin.«int.__mod__» ⟨[.int a t, .ref l], []⟩) (fun _ R s => s.heap.get? l = some (PySem.W.instObj C dx) ∧ R (.ok (.ret .notImplemented)) s) :=
  .of_wp fun prog w A R s h => by obtain ⟨hp, g, d, tk, os⟩ := s; obtain ⟨hl, h⟩ := h; wp_walk using wpAny_loadPart' hl, wpAny_load hl; exact ⟨_, rfl, h⟩
section
variable {prog : Program} {w : World} {A : Around} {E : Value → Shared → Prop} {s : Shared} {K : PySem.W.Frag} {x C f f0 : Addr} {ox : Obj} {od : Option Obj} {nm idl : String} {i : Int} {t : Tok} {b : Value}
open PySem.W in
theorem bin1_right {Q : Value → Shared → Prop} (X : K.In s.heap) (I : InstAt s.heap x ox C od) (hc : selfFirst K C = true) (hs : findIn K (.ref C) (dunder nm) = some (some (.ref f0))) (hr : findIn K (.ref C) (dunderR nm) = some (some (.ref f))) (hf : isFn K (.ref f) = true)
    (hsub : subIn K (.ref C) (.type "int") = some false) (fl : fillsNumberSlot (.type "int") nm = pure true) (sl : Slot "int" (dunder nm) idl)
    (hd : ∀ Q' : Value → Shared → Prop, Q' .notImplemented s → wpAny (model prog w) A (call (.builtin idl) [.int i t, .ref x]) Q' E s)
    (h : wpAny (model prog w) A (call (.ref f) [.ref x, .int i t]) (PySem.W.CmpBack Q) E s) : wpAny (model prog w) A (binaryOp1 nm (.int i t) (.ref x)) (fun r s' => ∃ v, r = some v ∧ Q v s') E s := by
  obtain ⟨cd, rest, hcd, hm⟩ := ksp_first hc
  have one := ksp_try X I hr hf h
  have dec : ∀ Q' : Option Value → Shared → Prop, Q' none s → wpAny (model prog w) A (tryMethod (.int i t) (dunder nm) (.ref x)) Q' E s := fun Q' q => wpAny_tryMethod_declines (typeIs_int s i t) sl (hd _ ⟨rfl, q⟩)
  obtain ⟨hh, g, d, tt, os⟩ := s
  have L1 : Looks (model prog w) hh (typeOf (.int i t)) (.type "int") := Looks.of_pure rfl
  have L2 : Looks (model prog w) hh (typeOf (.ref x)) (.ref C) := I.type
  have L3 : Looks (model prog w) hh (fillsNumberSlot (.type "int") nm) true := Looks.of_pure fl
  have L4 : Looks (model prog w) hh (fillsNumberSlot (.ref C) nm) true := fills_K X hcd hm hs
  have L5 : Looks (model prog w) hh (isSubtype (.ref C) (.type "int")) false := looks_subIn X hsub
  have L6 : Looks (model prog w) hh (numberSlotInPython (.type "int") nm) false := Looks.of_pure rfl
  have hne : (Value.type "int" == Value.ref C) = false := Bool.eq_false_iff.mpr fun q => by cases beq_iff_eq.mp q
  unfold binaryOp1
  refine wpAny_bind (L1.at (wpAny_bind (L2.at (wpAny_bind (L3.at ?_)))))
  simp only [hne, Bool.false_eq_true, if_false]
  ksp_lk
  refine dec _ ?_
  ksp_lk
  refine wpAny_mono one (fun r s' hr' => ?_) fun _ _ e => e
  obtain ⟨v, rfl, hq⟩ := hr'
  ksp_lk
  exact ⟨v, rfl, hq⟩
open PySem.W in
theorem bin1_left {Q : Value → Shared → Prop} {rc : Addr} (X : K.In s.heap) (I : InstAt s.heap x ox C od) (hc : selfFirst K C = true) (hs : findIn K (.ref C) (dunder nm) = some (some (.ref f))) (hf : isFn K (.ref f) = true) (hr : findIn K (.ref C) (dunderR nm) = some (some (.ref rc)))
    (hsub : subIn K (.type "int") (.ref C) = some false) (fl : fillsNumberSlot (.type "int") nm = pure true) {ro : Option Value} (h2 : findIn K (.type "int") (dunderR nm) = some ro)
    (h : wpAny (model prog w) A (call (.ref f) [.ref x, .int i t]) (PySem.W.CmpBack Q) E s) : wpAny (model prog w) A (binaryOp1 nm (.ref x) (.int i t)) (fun r s' => ∃ v, r = some v ∧ Q v s') E s := by
  obtain ⟨cd, rest, hcd, hm⟩ := ksp_first hc
  have one := ksp_try X I hs hf h
  obtain ⟨hh, g, d, tt, os⟩ := s
  have L1 : Looks (model prog w) hh (typeOf (.int i t)) (.type "int") := Looks.of_pure rfl
  have L2 : Looks (model prog w) hh (typeOf (.ref x)) (.ref C) := I.type
  have L3 : Looks (model prog w) hh (fillsNumberSlot (.type "int") nm) true := Looks.of_pure fl
  have L4 : Looks (model prog w) hh (fillsNumberSlot (.ref C) nm) true := fills_K X hcd hm hs
  have L5 : Looks (model prog w) hh (isSubtype (.type "int") (.ref C)) false := looks_subIn X hsub
  have L6 : Looks (model prog w) hh (numberSlotInPython (.type "int") nm) false := Looks.of_pure rfl
  have L7 : Looks (model prog w) hh (numberSlotInPython (.ref C) nm) true := ksp_inPy X hs hr (.inr ⟨rc, rfl⟩)
  have L8 : Looks (model prog w) hh (typeLookup (.type "int") (dunderR nm)) ro := looks_findIn X h2
  have hne : (Value.ref C == Value.type "int") = false := Bool.eq_false_iff.mpr fun q => by cases beq_iff_eq.mp q
  unfold binaryOp1
  refine wpAny_bind (L2.at (wpAny_bind (L1.at (wpAny_bind (L4.at ?_)))))
  simp only [hne, Bool.false_eq_true, if_false]
  ksp_lk
  refine wpAny_mono one (fun r s' hr' => ?_) fun _ _ e => e
  obtain ⟨v, rfl, hq⟩ := hr'
  ksp_lk
  exact ⟨v, rfl, hq⟩
open PySem.W in
theorem bin1_same {y : Addr} {oy : Obj} {oe : Option Obj} {Q : Value → Shared → Prop} (X : K.In s.heap) (I : InstAt s.heap x ox C od) (J : InstAt s.heap y oy C oe) (hc : selfFirst K C = true) (hs : findIn K (.ref C) (dunder nm) = some (some (.ref f))) (hf : isFn K (.ref f) = true)
    (h : wpAny (model prog w) A (call (.ref f) [.ref x, .ref y]) (PySem.W.CmpBack Q) E s) : wpAny (model prog w) A (binaryOp1 nm (.ref x) (.ref y)) (fun r s' => ∃ v, r = some v ∧ Q v s') E s := by
  obtain ⟨cd, rest, hcd, hm⟩ := ksp_first hc
  have one := ksp_try X I hs hf h
  obtain ⟨hh, g, d, tt, os⟩ := s
  have L1 : Looks (model prog w) hh (typeOf (.ref y)) (.ref C) := J.type
  have L2 : Looks (model prog w) hh (typeOf (.ref x)) (.ref C) := I.type
  have L4 : Looks (model prog w) hh (fillsNumberSlot (.ref C) nm) true := fills_K X hcd hm hs
  unfold binaryOp1
  refine wpAny_bind (L2.at (wpAny_bind (L1.at (wpAny_bind (L4.at ?_)))))
  simp only [beq_self_eq_true, if_true]
  ksp_lk
  refine wpAny_mono one (fun r s' hr' => ?_) fun _ _ e => e
  obtain ⟨v, rfl, hq⟩ := hr'
  ksp_lk
  exact ⟨v, rfl, hq⟩
/-- the whole operator, by its first part -/
theorem bin_of1 {op : Operator} {a b : Value} {Q : Value → Shared → Prop} (h : wpAny (model prog w) A (binaryOp1 op.info.2 a b) (fun r s' => ∃ v, r = some v ∧ Q v s') E s) : wpAny (model prog w) A (binaryOp op a b) Q E s := by
  rcases hi : op.info with ⟨sym, nm'⟩
  rw [hi] at h
  simp only [binaryOp, hi]
  refine wpAny_holding (wpAny_bind (wpAny_mono h (fun r s' hr' => ?_) fun _ _ e => e))
  obtain ⟨v, rfl, hq⟩ := hr'
  exact wpAny_pure hq
open PySem.W in
/-- x op= b where the class has no own __iop__ -/
theorem inpl_of1 {op : Operator} {Q : Value → Shared → Prop} (X : K.In s.heap) (I : InstAt s.heap x ox C od) {cd : ClassData} (hcd : clsIn K C = some cd) (hm : cd.mro = [.ref C, .type "object"]) (hi1 : findIn K (.ref C) (dunderI op.info.2) = some none) (hi2 : findIn K (.type "object") (dunderI op.info.2) = some none)
    (h : wpAny (model prog w) A (binaryOp1 op.info.2 (.ref x) b) (fun r s' => ∃ v, r = some v ∧ Q v s') E s) : wpAny (model prog w) A (inplaceOp op (.ref x) b) Q E s := by
  obtain ⟨hh, g, d, tt, os⟩ := s
  have L1 : Looks (model prog w) hh (typeOf (.ref x)) (.ref C) := I.type
  have L2 : Looks (model prog w) hh (fillsInplaceSlot (.ref C) op.info.2 (op == .Add)) false := by
    intro A' Q' E' s' k' q
    have Lm : Looks (model prog w) hh (mroOf (.ref C)) cd.mro := (looks_clsIn X hcd).andThen (f := fun cd => pure cd.mro) .now
    have Lm' := Lm.keeps k'
    obtain ⟨hh', g', d', tt', os'⟩ := s'
    have X' : K.In hh' := X.keeps k'
    have M1 : Looks (model prog w) hh' (typeLookup (.ref C) (dunderI op.info.2)) none := looks_findIn X' hi1
    have M2 : Looks (model prog w) hh' (typeLookup (.type "object") (dunderI op.info.2)) none := looks_findIn X' hi2
    unfold fillsInplaceSlot
    refine wpAny_bind (Lm'.at ?_)
    rw [hm, List.anyM_cons]
    refine wpAny_bind ?_
    repeat lk
    exact q
  unfold inplaceOp
  refine wpAny_holding ?_
  refine wpAny_bind (L1.at ?_)
  refine wpAny_bind (L2.at ?_)
  simp only [Bool.false_eq_true, if_false]
  refine wpAny_bind (wpAny_mono h (fun r s' hr' => ?_) fun _ _ e => e)
  obtain ⟨v, rfl, hq⟩ := hr'
  exact wpAny_pure hq
/-- n op= b where b is an own thing -/
theorem inpl_int {op : Operator} {Q : Value → Shared → Prop} (noI : typeLookup (.type "int") (dunderI op.info.2) = pure none)
    (h : wpAny (model prog w) A (binaryOp1 op.info.2 (.int i t) b) (fun r s' => ∃ v, r = some v ∧ Q v s') E s) : wpAny (model prog w) A (inplaceOp op (.int i t) b) Q E s := by
  unfold inplaceOp
  refine wpAny_holding ?_
  have e1 : typeOf (.int i t) = pure (.type "int") := rfl
  have e2 : fillsInplaceSlot (.type "int") op.info.2 (op == .Add) = pure false := by
    unfold fillsInplaceSlot
    simp only [noI]
    rfl
  rw [e1]
  refine wpAny_bind (wpAny_pure ?_)
  rw [e2]
  refine wpAny_bind (wpAny_pure ?_)
  simp only [Bool.false_eq_true, if_false]
  refine wpAny_bind (wpAny_mono h (fun r s' hr' => ?_) fun _ _ e => e)
  obtain ⟨v, rfl, hq⟩ := hr'
  exact wpAny_pure hq
end
end G

namespace G
open PySem PySem.Spec PyProof.Rows L2
/-! ### operators of own classes -/
structure OpC (K : PySem.W.Frag) (C : Addr) (nm : String) (f fr : Addr) : Prop where
  sf : PySem.W.selfFirst K C = true
  hs : PySem.W.findIn K (.ref C) (dunder nm) = some (some (.ref f))
  hf : PySem.W.isFn K (.ref f) = true
  hr : PySem.W.findIn K (.ref C) (dunderR nm) = some (some (.ref fr))
  hfr : PySem.W.isFn K (.ref fr) = true
  s1 : PySem.W.subIn K (.ref C) (.type "int") = some false
  s2 : PySem.W.subIn K (.type "int") (.ref C) = some false
  ir : ∃ ro, PySem.W.findIn K (.type "int") (dunderR nm) = some ro
structure IpC (K : PySem.W.Frag) (C : Addr) (nm : String) : Prop where
  mro : ∃ cd, PySem.W.clsIn K C = some cd ∧ cd.mro = [.ref C, .type "object"]
  i1 : PySem.W.findIn K (.ref C) (dunderI nm) = some none
  i2 : PySem.W.findIn K (.type "object") (dunderI nm) = some none
/-- an int's own operator, beside an own thing -/
structure IntDec (nm : String) : Prop where
  fl : fillsNumberSlot (.type "int") nm = pure true
  noI : typeLookup (.type "int") (dunderI nm) = pure none
  dec : ∃ idl, Slot "int" (dunder nm) idl ∧ ∀ (prog : Program) (w : World) (A : Around) (E : Value → Shared → Prop) (s : Shared) (i : Int) (t : Tok) (x C dx : Addr) (Q' : Value → Shared → Prop),
    s.heap.get? x = some (PySem.W.instObj C dx) → Q' .notImplemented s → wpAny (model prog w) A (call (.builtin idl) [.int i t, .ref x]) Q' E s
theorem intdec_add : IntDec "add" := ⟨F.fills_int_add, F.noI_int_add, _, F.slot_int_add, fun _ _ _ _ s i t x C dx Q' h q => call_meets F.slot_int_add (typeIs_int s i t) F.entry_int_add (F.args_int_add_2 _ _) (dec_add i t x C dx) ⟨h, q⟩⟩
theorem intdec_sub : IntDec "sub" := ⟨F.fills_int_sub, F.noI_int_sub, _, F.slot_int_sub, fun _ _ _ _ s i t x C dx Q' h q => call_meets F.slot_int_sub (typeIs_int s i t) F.entry_int_sub (F.args_int_sub_2 _ _) (dec_sub i t x C dx) ⟨h, q⟩⟩
theorem intdec_mul : IntDec "mul" := ⟨F.fills_int_mul, F.noI_int_mul, _, F.slot_int_mul, fun _ _ _ _ s i t x C dx Q' h q => call_meets F.slot_int_mul (typeIs_int s i t) F.entry_int_mul (F.args_int_mul_2 _ _) (dec_mul i t x C dx) ⟨h, q⟩⟩
theorem intdec_floordiv : IntDec "floordiv" := ⟨F.fills_int_floordiv, F.noI_int_floordiv, _, F.slot_int_floordiv, fun _ _ _ _ s i t x C dx Q' h q => call_meets F.slot_int_floordiv (typeIs_int s i t) F.entry_int_floordiv (F.args_int_floordiv_2 _ _) (dec_floordiv i t x C dx) ⟨h, q⟩⟩
theorem intdec_mod : IntDec "mod" := ⟨F.fills_int_mod, F.noI_int_mod, _, F.slot_int_mod, fun _ _ _ _ s i t x C dx Q' h q => call_meets F.slot_int_mod (typeIs_int s i t) F.entry_int_mod (F.args_int_mod_2 _ _) (dec_mod i t x C dx) ⟨h, q⟩⟩
section
variable {X : Cx} {W : Wd} {ξ : Xi} {E : Sg → XK} {a b e o tg : Expr} {es : List Expr} {ga gb : GE'} {gs : GA'} {pos pos' p2 p : Pos} {x : Str}
theorem rel_ref (p : Addr) : RelV (.ref p) (.ref p) := rfl
theorem back_of {pins : List (Addr × Obj)} {σ : Sg} {Q : VK} {u : Value} {s' : Shared} (h : EP X pins σ Q u s') : PySem.W.CmpBack (EP X pins σ Q) u s' := by
  obtain ⟨v, H', I, r, q⟩ := h
  have : EP X pins σ Q u s' := ⟨v, H', I, r, q⟩
  cases v with
  | non => cases r; exact this
  | bl b => cases r; exact this
  | int i => obtain ⟨t, rfl⟩ := r; exact this
  | str x => obtain ⟨t, rfl⟩ := r; exact this
  | byt x => obtain ⟨t, rfl⟩ := r; exact this
  | flt x => obtain ⟨t, rfl⟩ := r; exact this
  | ref a => cases r; exact this
  | ty n => cases r; exact this
/-- an instance as the model sees it -/
theorem inst_of {pins : List (Addr × Obj)} {σ : Sg} {H : Hp} {s : Shared} {q C dx : Addr} {fvs : List (Str × V)} (I : Inv X pins σ H s) (h : H q = some (.ins C dx fvs)) :
    ∃ od, PySem.W.InstAt s.heap q (PySem.W.instObj C dx) C (some od) ∧ s.heap.get? q = some (PySem.W.instObj C dx) := by
  obtain ⟨mA, O, _⟩ := ins_get I.hok h
  obtain ⟨od, J, _⟩ := O.look
  obtain ⟨_, _, _, e, _⟩ := I.hok q _ h
  exact ⟨od, J, e⟩
def own2 (c : Nat) (g gr : List D → Stor → R D) : D → D → Stor → R D := fun x y M => match insOf x M with
  | some (c1, _) => if c1 = c then (match y with
    | .int _ => g [x, y] M
    | y => (match insOf y M with
      | some (c2, _) => if c2 = c then g [x, y] M else .no
      | none => .no)) else .no
  | none => (match x with
    | .int _ => (match insOf y M with
      | some (c2, _) => if c2 = c then gr [y, x] M else .no
      | none => .no)
    | _ => .no)
theorem own_core {c : Nat} {f fr : Addr} {g gr : List D → Stor → R D} {nm : String} (O : OpC X.K (W.T c) nm f fr) (Z : IntDec nm) (hg : CallG X W E (.ref f) g) (hgr : CallG X W E (.ref fr) gr)
    {pins : List (Addr × Obj)} {s : Shared} {σ : Sg} {H : Hp} {M : Stor} {F : Hp} {ρ : List Addr} {x y : D} {vx vy : V} {ux uy : Value} {Q : VK}
    (I : Inv X pins σ H s) (rx : RelV vx ux) (ry : RelV vy uy) (rp : Rp W ξ M F H ρ) (ix : Is W F ρ x vx) (iy : Is W F ρ y vy) (po : Po W ξ (Is W) F ρ (own2 c g gr x y M) Q (E σ)) :
    wpAny (model X.prog X.w) X.A (binaryOp1 nm ux uy) (fun r s' => ∃ v, r = some v ∧ EP X pins σ Q v s') X.xe s := by
  unfold own2 at po
  split at po
  · rename_i c1 l ex
    split at po
    · rename_i hc
      subst hc
      obtain ⟨p, dx, fvs, rfl, hp, _, _⟩ := insOf_ok rp ix ex
      cases rx
      obtain ⟨od, J, _⟩ := inst_of I hp
      split at po
      · rename_i j
        have iy' := iy
        simp only [Is] at iy'; subst iy'
        obtain ⟨t, rfl⟩ := id ry
        obtain ⟨ro, ir⟩ := O.ir
        exact bin1_left I.kIn J O.sf O.hs O.hf O.hr O.s2 Z.fl ir (thn (hg ξ pins s σ H M F ρ _ _ _ Q I (.cons (rel_ref p) (.cons ry .nil)) rp (IsL.cons ix (IsL.cons iy IsL.nil)) po) fun _ _ z => back_of z)
      · split at po
        · rename_i c2 l2 ey
          split at po
          · rename_i hc2
            subst hc2
            obtain ⟨q, dy, gvs, rfl, hq, _, _⟩ := insOf_ok rp iy ey
            cases ry
            obtain ⟨oe, J2, _⟩ := inst_of I hq
            exact bin1_same I.kIn J J2 O.sf O.hs O.hf (thn (hg ξ pins s σ H M F ρ _ _ _ Q I (.cons (rel_ref p) (.cons (rel_ref q) .nil)) rp (IsL.cons ix (IsL.cons iy IsL.nil)) po) fun _ _ z => back_of z)
          · exact po.elim
        · exact po.elim
    · exact po.elim
  · split at po
    · rename_i j _
      split at po
      · rename_i c2 l2 ey
        split at po
        · rename_i hc2
          subst hc2
          obtain ⟨q, dy, gvs, rfl, hq, _, _⟩ := insOf_ok rp iy ey
          cases ry
          have ix' := ix
          simp only [Is] at ix'; subst ix'
          obtain ⟨t, rfl⟩ := id rx
          obtain ⟨oe, J2, e2⟩ := inst_of I hq
          obtain ⟨idl, sl, dec⟩ := Z.dec
          exact bin1_right I.kIn J2 O.sf O.hs O.hr O.hfr O.s1 Z.fl sl (fun Q' q' => dec _ _ _ _ s j t q _ dy Q' e2 q')
            (thn (hgr ξ pins s σ H M F ρ _ _ _ Q I (.cons (rel_ref q) (.cons rx .nil)) rp (IsL.cons iy (IsL.cons ix IsL.nil)) po) fun _ _ z => back_of z)
        · exact po.elim
      · exact po.elim
    · exact po.elim
theorem og_own {c : Nat} {f fr : Addr} {g gr : List D → Stor → R D} {op : Operator} (O : OpC X.K (W.T c) op.info.2 f fr) (Z : IntDec op.info.2) (hg : CallG X W E (.ref f) g) (hgr : CallG X W E (.ref fr) gr) :
    OpG X W E (binaryOp op) (own2 c g gr) := fun ξ pins s σ H M F ρ x y vx vy ux uy Q I rx ry rp ix iy po => bin_of1 (own_core O Z hg hgr I rx ry rp ix iy po)
theorem og_iown {c : Nat} {f fr : Addr} {g gr : List D → Stor → R D} {op : Operator} (O : OpC X.K (W.T c) op.info.2 f fr) (Z : IntDec op.info.2) (Ip : IpC X.K (W.T c) op.info.2) (hg : CallG X W E (.ref f) g) (hgr : CallG X W E (.ref fr) gr) :
    OpG X W E (inplaceOp op) (own2 c g gr) := fun ξ pins s σ H M F ρ x y vx vy ux uy Q I rx ry rp ix iy po => by
  have core := own_core O Z hg hgr I rx ry rp ix iy po
  cases ex : insOf x M with
  | some q =>
    obtain ⟨c1, l⟩ := q
    have hc : c1 = c := by
      unfold own2 at po
      rw [ex] at po
      simp only at po
      split at po
      · assumption
      · exact po.elim
    subst hc
    obtain ⟨p, dx, fvs, rfl, hp, _, _⟩ := insOf_ok rp ix ex
    cases rx
    obtain ⟨od, J, _⟩ := inst_of I hp
    obtain ⟨cd, h1, h2⟩ := Ip.mro
    exact inpl_of1 I.kIn J h1 h2 Ip.i1 Ip.i2 core
  | none =>
    have hx : ∃ j, x = .int j := by
      unfold own2 at po
      rw [ex] at po
      simp only at po
      split at po
      · exact ⟨_, rfl⟩
      · exact po.elim
    obtain ⟨j, rfl⟩ := hx
    simp only [Is] at ix; subst ix
    obtain ⟨t, rfl⟩ := rx
    exact inpl_int Z.noI core
/-- one thing: -x, ~x -/
def own1 (c : Nat) (g : List D → Stor → R D) : D → Stor → R D := fun x M => match insOf x M with
  | some (c1, _) => if c1 = c then g [x] M else .no
  | none => .no
theorem ug_neg {c : Nat} {f : Addr} {g : List D → Stor → R D} (hs : PySem.W.findIn X.K (.ref (W.T c)) "__neg__" = some (some (.ref f))) (hf : PySem.W.isFn X.K (.ref f) = true) (hg : CallG X W E (.ref f) g) : UnG X W E (unaryOp .USub) (own1 c g) :=
  fun ξ pins s σ H M F ρ x vx ux Q I rx rp ix po => by
    unfold own1 at po
    split at po
    · rename_i c1 l ex
      split at po
      · rename_i hc
        subst hc
        obtain ⟨p, dx, fvs, rfl, hp, _, _⟩ := insOf_ok rp ix ex
        cases rx
        obtain ⟨od, J, _⟩ := inst_of I hp
        obtain ⟨m, fr⟩ := I.fr
        exact PySem.W.ksp_neg fr I.mod.kin J hs hf (hg ξ pins s σ H M F ρ _ _ _ Q I (.cons (rel_ref p) .nil) rp (IsL.cons ix IsL.nil) po)
      · exact po.elim
    · exact po.elim
theorem ug_inv {c : Nat} {f : Addr} {g : List D → Stor → R D} (hs : PySem.W.findIn X.K (.ref (W.T c)) "__invert__" = some (some (.ref f))) (hf : PySem.W.isFn X.K (.ref f) = true) (hg : CallG X W E (.ref f) g) : UnG X W E (unaryOp .Invert) (own1 c g) :=
  fun ξ pins s σ H M F ρ x vx ux Q I rx rp ix po => by
    unfold own1 at po
    split at po
    · rename_i c1 l ex
      split at po
      · rename_i hc
        subst hc
        obtain ⟨p, dx, fvs, rfl, hp, _, _⟩ := insOf_ok rp ix ex
        cases rx
        obtain ⟨od, J, _⟩ := inst_of I hp
        obtain ⟨m, fr⟩ := I.fr
        exact PySem.W.ksp_inv fr I.mod.kin J hs hf (hg ξ pins s σ H M F ρ _ _ _ Q I (.cons (rel_ref p) .nil) rp (IsL.cons ix IsL.nil) po)
      · exact po.elim
    · exact po.elim
def dNegI : D → Stor → R D := fun x M => match x with
  | .int i => .ok (.int (-i)) M
  | _ => .no
theorem ug_negI : UnG X W E (unaryOp .USub) dNegI := UnG.of un_neg fun ξ M F H ρ x vx Q Z rp ix po => by
  unfold dNegI at po
  split at po
  · rename_i i
    simp only [Is] at ix; subst ix
    exact ⟨i, rfl, po.now rp (flat_int F ρ)⟩
  · exact po.elim
/-! ### a built-in that asks an own method one room deeper: abs(x) -/
abbrev Cx.in1 (X : Cx) : Cx := { X with A := X.A.in1 }
theorem inv_in1 {pins : List (Addr × Obj)} {σ : Sg} {H : Hp} {s : Shared} (I : Inv X pins σ H s) : Inv (Cx.in1 X) pins σ H s :=
  ⟨⟨I.ok.mod, I.ok.kind, I.ok.glob, I.ok.blt, I.ok.above, I.ok.inj, I.ok.has, I.ok.cab, I.ok.hd, I.ok.frames, I.ok.stk, I.ok.exf, I.ok.bs, I.ok.bsz, I.ok.noex, I.ok.exfs, I.ok.funs, I.ok.frf⟩, I.os, I.bare, I.base, I.loc, I.cell, I.free, I.freeC, I.pin, I.hok, I.len⟩
theorem inv_out1 {pins : List (Addr × Obj)} {σ : Sg} {H : Hp} {s : Shared} (I : Inv (Cx.in1 X) pins σ H s) : Inv X pins σ H s :=
  ⟨⟨I.ok.mod, I.ok.kind, I.ok.glob, I.ok.blt, I.ok.above, I.ok.inj, I.ok.has, I.ok.cab, I.ok.hd, I.ok.frames, I.ok.stk, I.ok.exf, I.ok.bs, I.ok.bsz, I.ok.noex, I.ok.exfs, I.ok.funs, I.ok.frf⟩, I.os, I.bare, I.base, I.loc, I.cell, I.free, I.freeC, I.pin, I.hok, I.len⟩
theorem pass_in1 (h : Pass X E) : Pass (Cx.in1 X) E := fun σ pins H s e s' I c => h σ pins H s e s' (inv_out1 I) c
def fAbsO (c : Nat) (g : List D → Stor → R D) : List D → Stor → R D := fun ds M => match ds with
  | [x] => own1 c g x M
  | _ => .no
theorem cg_absO {c : Nat} {f : Addr} {g : List D → Stor → R D} (hs : PySem.W.findIn X.K (.ref (W.T c)) "__abs__" = some (some (.ref f))) (hf : PySem.W.isFn X.K (.ref f) = true) (hg : CallG (Cx.in1 X) W E (.ref f) g) : CallG X W E (.builtin "abs") (fAbsO c g) :=
  fun ξ pins s σ H M F ρ ds vs us Q I rv rp is po => by
    unfold fAbsO at po
    split at po
    · rename_i x
      obtain ⟨v, rfl, ix⟩ := one_of is
      unfold own1 at po
      split at po
      · rename_i c1 l ex
        split at po
        · rename_i hc
          subst hc
          obtain ⟨p, dx, fvs, rfl, hp, _, _⟩ := insOf_ok rp ix ex
          obtain ⟨u, rfl, ru⟩ := vals1 rv
          cases ru
          obtain ⟨od, J, _⟩ := inst_of I hp
          refine Calls.call_function_entry kind_abs plain_abs entry_abs (args_abs _) ?_
          unfold Builtin.«abs»
          refine wpAny_bind (m := oneArg "abs" _) (wpAny_pure ?_)
          refine wpAny_bind (PySem.W.special_fn I.kIn J hs (beq_iff_eq.mp hf) ?_)
          refine wpAny_mono (hg ξ pins s σ H M F ρ _ _ _ Q (inv_in1 I) (.cons (rel_ref p) .nil) rp (IsL.cons ix IsL.nil) po) ?_ fun _ _ z => z
          rintro r s' ⟨w', H', I', rw', q'⟩
          exact wpAny_pure ⟨_, rfl, ⟨w', H', inv_out1 I', rw', q'⟩⟩
        · exact po.elim
      · exact po.elim
    · exact po.elim
end
end G

namespace G
open PySem PySem.Spec PyProof.Rows L2
section
variable {X : Cx} {W : Wd} {ξ : Xi} {E : Sg → XK} {a b e o tg : Expr} {es : List Expr} {ga gb : GE'} {gs : GA'} {pos pos' p2 p apos : Pos} {x : Str}
/-! ### C.m(..), m a staticmethod of the class C -/
structure SMet (K : PySem.W.Frag) (C : Addr) (m : Str) (f : Addr) : Prop where
  rd : PySem.W.readsIn K C (.type "type") = true
  ga : PySem.W.specialIn K (.ref C) "__getattribute__" = some (some (.builtin "type.__getattribute__"))
  at_ : ∃ q rest, PySem.W.findCls K (.ref C) (.type "type") m = some (.get (.builtin "staticmethod.__get__") (.ref q) .none (.ref C)) ∧ PySem.W.recIn K q "staticmethod" = some (.ref f :: rest)
  kp : PySem.W.keepIn K (.ref f) = true
theorem smet_get {m : Str} {C f : Addr} {pins : List (Addr × Obj)} {s : Shared} {σ : Sg} {H : Hp} {pl : Sem Bool} {A : Around} {Z : Value → Shared → Prop} {Q : Value × List Value → Shared → Prop} (I : Inv X pins σ H s) (k : SMet X.K C m f) (h : Q (.ref f, []) { s with toks := s.toks + 1 }) :
    wpAny (model X.prog X.w) A (getMethod (.ref C) m pl) Q Z s := by
  obtain ⟨q, rest, h1, h2⟩ := k.at_
  refine PySem.W.method_cls I.kIn k.ga (PySem.W.cls_bind I.kIn k.rd h1 ?_)
  exact wpAny_call (PySem.W.sm_get (s := { s with toks := s.toks + 1 }) I.kIn h2 (PySem.W.handed_on rfl h))
theorem ge_smeth {m : Str} {c : Nat} {f : Addr} {g : List D → Stor → R D} {pl : Sem Bool} (hc : CallG X W E (.ref f) g) (k : SMet X.K (W.T c) m f) (ho : GE X W E o (gC (.cls c))) (ha : GA X W E (e :: es) gs)
    (he : starEach (e :: es) X.env = (false, eval e X.env) :: starEach es X.env := by rfl) (hpl : (backTo pos (starEach es X.env)).any (·.1) = false := by rfl)
    (ht : eval (.Call (.Attribute o m apos) (e :: es) [] pos) X.env = (do
      let ov ← eval o X.env
      standAt apos.atName
      let (f, first) ← holding [ov] (getMethod ov m pl)
      callWith pos f first (backTo pos (starEach (e :: es) X.env)) (backToKw pos (keywordEach [] X.env))) := by rfl) : GE X W E (.Call (.Attribute o m apos) (e :: es) [] pos) (gCall g gs) := by
  refine ⟨fun pins s σ H Q I ⟨ξ, Γ, M, F, ρ, en, rp, po⟩ => ?_⟩
  refine PySem.W.methodCall_KW (pl := pl) (thn (ho.run pins s σ H (fun v H1 => v = .ref (W.T c) ∧ ∃ F1 ρ1, Le F F1 ∧ ρ <+: ρ1 ∧ Rp W ξ M F1 H1 ρ1) I ⟨ξ, Γ, M, F, ρ, en, rp, fun v F1 ρ1 H1 le pr rp1 is => ⟨by simpa only [Is] using is, F1, ρ1, le, pr, rp1⟩⟩) ?_) ht
  rintro u s1 ⟨v, H1, I1, r1, rfl, F1, ρ1, le, pr, rp1⟩
  cases r1
  refine smet_get I1 k ?_
  have I2 := I1.tok (s1.toks + 1)
  refine PySem.W.callWith_K (h₀ := X.base) I.ok.mod.kin k.kp (thn (ha.run pos pins _ σ H1 _ I2 ⟨ξ, Γ, M, F1, ρ1, en.mono le pr, rp1, (po.mono le pr).bind⟩) ?_) he hpl
  rintro us s2 ⟨vs, H2, I3, r, ds, M2, F2, ρ2, e2, p2, rp2, is, po2⟩
  exact ⟨I3.kIn, hc ξ pins s2 σ H2 M2 F2 ρ2 ds vs us Q I3 r rp2 is po2⟩
theorem ge_smeth0 {m : Str} {c : Nat} {f : Addr} {g : List D → Stor → R D} {pl : Sem Bool} (hc : CallG X W E (.ref f) g) (k : SMet X.K (W.T c) m f) (ho : GE X W E o (gC (.cls c)))
    (ht : eval (.Call (.Attribute o m apos) [] [] pos) X.env = (do
      let ov ← eval o X.env
      standAt apos.atName
      let (f, first) ← holding [ov] (getMethod ov m pl)
      callWith pos f first (backTo pos (starEach [] X.env)) (backToKw pos (keywordEach [] X.env))) := by rfl) : GE X W E (.Call (.Attribute o m apos) [] [] pos) (gCall g gNil) := by
  refine ⟨fun pins s σ H Q I ⟨ξ, Γ, M, F, ρ, en, rp, po⟩ => ?_⟩
  refine PySem.W.methodCall_KW (pl := pl) (thn (ho.run pins s σ H (fun v H1 => v = .ref (W.T c) ∧ ∃ F1 ρ1, Le F F1 ∧ ρ <+: ρ1 ∧ Rp W ξ M F1 H1 ρ1) I ⟨ξ, Γ, M, F, ρ, en, rp, fun v F1 ρ1 H1 le pr rp1 is => ⟨by simpa only [Is] using is, F1, ρ1, le, pr, rp1⟩⟩) ?_) ht
  rintro u s1 ⟨v, H1, I1, r1, rfl, F1, ρ1, le, pr, rp1⟩
  cases r1
  refine smet_get I1 k ?_
  have I2 := I1.tok (s1.toks + 1)
  exact PySem.W.callWith_K0 I2.kIn k.kp (hc ξ pins _ σ H1 M F1 ρ1 [] [] [] Q I2 .nil rp1 IsL.nil (po.mono le pr))
/-! ### a, b = x, y -/
def gPar2 (i j : Nat) (t : GA') : GS' := fun Γ M => (t Γ M).bindS Γ fun ds M1 => match ds with
  | [u, v] => .nx ((Γ.set i (some u)).set j (some v)) M1
  | _ => .no
theorem gs_par2 {i j : Nat} {x y : Str} {px py pt : Pos} {kt k2 pt2} (hc : X.calm = true) (hN : X.N.Nodup) (hi : X.N[i]? = some x) (hj : X.N[j]? = some y) (hij : i ≠ j)
    (hx : X.env.scope.names.lookup x = some .local) (hy : X.env.scope.names.lookup y = some .local) (ha : GA X W E [a, b] gs)
    (hw : swappedStores [.Tuple [.Name x px, .Name y py] kt pt] (.Tuple [a, b] k2 pt2) X.env = pure (some [x, y]) := by rfl)
    (hs : swapsWithSole [.Tuple [.Name x px, .Name y py] kt pt] (.Tuple [a, b] k2 pt2) pos.line X.env = pure false := by rfl) :
    GS X W E (.Assign [.Tuple [.Name x px, .Name y py] kt pt] (.Tuple [a, b] k2 pt2) pos) (gPar2 i j gs) :=
  mS (ps_par hc hN hi hj hij hx hy ha hw hs) fun N σ H ⟨ξ, Γ, M, F, ρ, en, rp, po⟩ => ⟨ξ, Γ, M, F, ρ, en, rp, (Po.bindS (rel := IsL W) en po).imp (by
    rintro vs H1 ⟨ds, M1, F1, ρ1, e1, p1, rp1, is, po1⟩
    split at po1
    · rename_i u v
      obtain ⟨vu, vv, rfl, iu, iv⟩ := two_of is
      exact ⟨vu, vv, rfl, po1 _ F1 ρ1 H1 Le.rfl' (List.prefix_refl _) rp1 (((en.mono e1 p1).set iu).set iv)⟩
    · exact po1.elim)⟩
def gPar3 (i j l : Nat) (t : GA') : GS' := fun Γ M => (t Γ M).bindS Γ fun ds M1 => match ds with
  | [u, v, w] => .nx (((Γ.set i (some u)).set j (some v)).set l (some w)) M1
  | _ => .no
theorem gs_par3 {c : Expr} {i j l : Nat} {x y z : Str} {px py pz pt : Pos} {kt k2 pt2} (hc : X.calm = true) (hN : X.N.Nodup) (hi : X.N[i]? = some x) (hj : X.N[j]? = some y) (hl : X.N[l]? = some z) (hij : i ≠ j) (hil : i ≠ l) (hjl : j ≠ l)
    (hx : X.env.scope.names.lookup x = some .local) (hy : X.env.scope.names.lookup y = some .local) (hz : X.env.scope.names.lookup z = some .local) (ha : GA X W E [a, b, c] gs)
    (hw : swappedStores [.Tuple [.Name x px, .Name y py, .Name z pz] kt pt] (.Tuple [a, b, c] k2 pt2) X.env = pure (some [x, y, z]) := by rfl)
    (hs : swapsWithSole [.Tuple [.Name x px, .Name y py, .Name z pz] kt pt] (.Tuple [a, b, c] k2 pt2) pos.line X.env = pure false := by rfl) :
    GS X W E (.Assign [.Tuple [.Name x px, .Name y py, .Name z pz] kt pt] (.Tuple [a, b, c] k2 pt2) pos) (gPar3 i j l gs) :=
  mS (ps_par3 hc hN hi hj hl hij hil hjl hx hy hz ha hw hs) fun N σ H ⟨ξ, Γ, M, F, ρ, en, rp, po⟩ => ⟨ξ, Γ, M, F, ρ, en, rp, (Po.bindS (rel := IsL W) en po).imp (by
    rintro vs H1 ⟨ds, M1, F1, ρ1, e1, p1, rp1, is, po1⟩
    split at po1
    · rename_i u v w
      obtain ⟨vu, r, rfl, iu, h2⟩ := IsL.cons_iff.mp is
      obtain ⟨vv, vw, rfl, iv, iw⟩ := two_of h2
      exact ⟨vu, vv, vw, rfl, po1 _ F1 ρ1 H1 Le.rfl' (List.prefix_refl _) rp1 ((((en.mono e1 p1).set iu).set iv).set iw)⟩
    · exact po1.elim)⟩
/-! ### methods of lists -/
def MtG (X : Cx) (W : Wd) (id : String) (f : D → List D → Stor → R D) : Prop :=
  ∃ r, MtR X id r ∧ ∀ (ξ : Xi) (M : Stor) (F H : Hp) (ρ : List Addr) (x : D) (ds : List D) (v : V) (vs : List V) (Q : VK) (Z : XK), Rp W ξ M F H ρ → Is W F ρ x v → IsL W F ρ ds vs → Po W ξ (Is W) F ρ (f x ds M) Q Z → r v vs H Q
def gMtL (f : D → List D → Stor → R D) (o : GE') (a : GA') : GE' := fun Γ M => (o Γ M).bind fun x M1 => match lstOf x M1 with
  | some _ => (a Γ M1).bind fun ds M2 => f x ds M2
  | none => .no
theorem ge_mtL {id : String} {name : Str} {f : D → List D → Stor → R D} {go : GE'} (hK : X.K = W.K) (slot : Slot "list" name id) (hty : typeOf (.builtin id) = pure (.type "method_descriptor")) (hm : MtG X W id f) (ho : GE X W E o go) (ha : GA X W E (e :: es) gs)
    (hbase : attributeBase o name X.env (eval o X.env) = eval o X.env := by rfl)
    (hfew : ((backTo pos (starEach (e :: es) X.env)).all (fun x => !x.1) && (backToKw pos (keywordEach [] X.env)).all (fun x => x.1.isSome)
      && decide ((e :: es).length + ([] : List Keyword).length + (if ([] : List Keyword).isEmpty then 0 else 1) < 30)) = true := by rfl)
    (hline : (apos.endLine == pos.line) = true := by rfl) (hs : starEach (e :: es) X.env = (false, eval e X.env) :: starEach es X.env := by rfl) (hplain : (backTo pos (starEach es X.env)).any (·.1) = false := by rfl) :
    GE X W E (.Call (.Attribute o name apos) (e :: es) [] pos) (gMtL f go gs) := by
  obtain ⟨r, hr, hk⟩ := hm
  refine mE (pe_bm PySem.F.plainAttrs_list slot hty hr ho ha hbase hfew hline hs hplain) fun σ H Q ⟨ξ, Γ, M, F, ρ, en, rp, po⟩ => ⟨ξ, Γ, M, F, ρ, en, rp, po.bind.imp ?_⟩
  rintro v H1 ⟨x, M1, F1, ρ1, e1, p1, rp1, ix, po1⟩
  split at po1
  · rename_i l el
    obtain ⟨q, vs, rfl, hq, hl⟩ := lstOf_ok rp1 ix el
    refine ⟨.inl ⟨rfl, vs, by rw [hK]; exact hq⟩, ξ, Γ, M1, F1, ρ1, en.mono e1 p1, rp1, po1.bind.imp ?_⟩
    rintro us H2 ⟨ds, M2, F2, ρ2, e2, p2, rp2, is, po2⟩
    exact hk ξ M2 F2 H2 ρ2 x ds _ us Q _ rp2 (ix.mono e2 p2) is po2
  · exact po1.elim
def mAppend : D → List D → Stor → R D := fun x ds M => match x, ds with
  | .ref k, [d] => (match M[k]? with
    | some (.lst l) => if l.length < 1000000 then .ok .non (M.set k (.lst (l ++ [d]))) else .no
    | _ => .no)
  | _, _ => .no
theorem mg_append : MtG X W "list.append" mAppend := ⟨_, mt_append, fun ξ M F H ρ x ds v vs Q Z rp ix is po => by
  unfold mAppend at po
  split at po
  · rename_i k d
    split at po
    · rename_i l em
      split at po
      · rename_i hz
        simp only [Is] at ix; obtain ⟨a, rfl, ea⟩ := ix
        obtain ⟨u, rfl, iu⟩ := one_of is
        obtain ⟨_, us, hv, hl⟩ := rp.obj k _ a em ea
        refine ⟨a, us, u, rfl, rfl, hv, by rw [hl.len, sizeLine_eq]; omega, ?_⟩
        exact po .non F ρ _ Le.rfl' (List.prefix_refl _) (rp.set ea ⟨_, rfl, hl.append (IsL.cons iu IsL.nil)⟩) (by simp only [Is])
      · exact po.elim
    · exact po.elim
  · exact po.elim⟩
end
end G

namespace G
open PySem PySem.Spec PyProof.Rows L2
/-! ### the law's own call -/
theorem law_g {P : Program} {w : World} {W : Wd} {mg mb : Str → Option Value} {k : Nat} {fa a : Addr} {fd : FuncData} {x : Str} {g : List D → Stor → R D} {st : Shared} {us : List Value} {zs : List Int}
    (kin : W.K.In st.heap) (glob : st.heap.Ns mainGlobals mg) (blt : st.heap.Ns builtinsNs mb) (bltv : ∀ y : Str, y ≠ "__name__" → mb y = bootBuiltins y) (lim : st.heap.NoLimit) (nogen : st.gens = #[])
    (scr : st.heap.get? a = some { cls := .type "list", data := .seq us.toArray }) (hin : IntsAre us zs) (few : zs.length ≤ sizeLine) (room : Room k callerA)
    (fn : ∀ base : Heap, W.K.In base → base.Ns mainGlobals mg → FnG P w W mg base k fa fd [x] g) (bind : ∀ (s : Shared) (u : Value), BindsTo s fd ⟨[u], []⟩ [(x, u)])
    (good : ∃ M, g [.lck (zs.map D.int)] [] = .ok (.bl true) M) (ntb : W.tb = []) :
    codeAny (model P w) callerA (.call (.ref fa) ⟨[.ref a], []⟩) (fun r s' => r = .ok (.ret (.bool true)) ∧ OldK st.heap s'.heap ∧ s'.os = st.os ∧ AllBare s'.gens) st := by
  obtain ⟨Mz, good⟩ := good
  have vals : Vals (zs.map V.int) us := vals_ints hin
  have usl : us.length = zs.length := hin.length
  -- whatever is tracked is the script alone
  have main : ∀ H : Hp, Only H → SqL W.K H a (zs.map V.int) → HOk P w H st.heap → (∀ b, H b ≠ none → b = a) → (H a ≠ none → W.K.lookup a = none) →
      codeAny (model P w) callerA (.call (.ref fa) ⟨[.ref a], []⟩) (fun r s' => r = .ok (.ret (.bool true)) ∧ OldK st.heap s'.heap ∧ s'.os = st.os ∧ AllBare s'.gens) st := by
    intro H only sq hok alone free
    have stays : ∀ {b : Addr} {ob : Obj}, st.heap.get? b = some ob → H b = none → (hidT st.heap H).get? b = some ob := fun q n => hidT_get q n
    have nodict : ∀ {b : Addr} {ob : Obj} {es : Array DictEntry} {n : Nat}, st.heap.get? b = some ob → ob.data = .dict es n → H b = none := by
      intro b ob es n q dd
      cases hb : H b with
      | none => rfl
      | some z =>
        obtain rfl : b = a := alone b (by rw [hb]; exact fun h => nomatch h)
        rw [scr] at q
        cases q
        have dd' : Data.seq us.toArray _ = Data.dict es n := dd
        cases dd'
    have ns : ∀ {b : Addr} {m : Str → Option Value}, st.heap.Ns b m → (hidT st.heap H).Ns b m := by
      rintro b m ⟨ob, es, n, q, dd, r⟩
      exact ⟨ob, es, n, stays q (nodict q dd), dd, r⟩
    have kin' : W.K.In (hidT st.heap H) := by
      intro b ob q
      refine stays (kin b ob q) ?_
      cases hb : H b with
      | none => rfl
      | some z =>
        obtain rfl : b = a := alone b (by rw [hb]; exact fun h => nomatch h)
        rw [free (by rw [hb]; exact fun h => nomatch h)] at q
        cases q
    have md : Mod W.K mg (hidT st.heap H) := by
      obtain ⟨mc, l1, l2⟩ := lim
      exact ⟨kin', ns glob, ⟨mb, ns blt, bltv⟩, ⟨mc, ns l1, l2⟩⟩
    have env : Env0 P w W.K mg (hidT st.heap H) callerA [] st H := by
      refine ⟨rfl, md, fun b ob q => of_hidT q, Nat.le_of_eq (hidT_size _ _), trivial, fun b hb => ?_, hok, .of_eq nogen⟩
      have hb' : b ∈ ([] : List Addr) := hb
      exact nomatch hb'
    have rp : Rp W [] [] H H [] := ⟨fun _ _ q => q, rfl, List.nodup_nil, fun i m b em _ => by simp at em, fun q hq => (nomatch hq), fun q hq => by rw [ntb] at hq; exact (nomatch hq)⟩
    have sp : spG W g [.ref a] H (fun v _ => v = .bl true) fun _ _ _ => False := by
      refine ⟨[], [.lck (zs.map D.int)], [], H, [], IsL.cons ?_ IsL.nil, rp, ?_⟩
      · simp only [Is]; exact ⟨a, _, rfl, sq, isL_ints zs⟩
      · rw [good]; exact fun v F' ρ' H' _ _ _ is => by simpa only [Is] using is
    refine codeAny_mono ((fn _ kin' (ns glob)).run callerA [] st H ⟨[.ref a], []⟩ [.ref a] [.ref a] _ _ room rfl env (bind st (.ref a)) (.cons rfl .nil) sp) ?_
    intro res s' out
    cases res with
    | error er => obtain ⟨_, _, _, _, _, _, _, _, _, _, _, _, z⟩ := out; exact z.elim
    | ok fl =>
      cases fl with
      | next => exact out.elim
      | brk => exact out.elim
      | cont => exact out.elim
      | ret u =>
        obtain ⟨v, H', os, bare, un, hok', rel, q⟩ := out
        obtain rfl : v = .bl true := q
        obtain rfl : u = Value.bool true := rel
        refine ⟨rfl, OldK.of_keep (fun b ob e => ?_), os, bare⟩
        cases hb : H b with
        | none => exact un.keep b ob e hb (fun z => by have z' : b ∈ ([] : List Addr) := z; exact nomatch z') (fun z => nomatch z)
        | some z =>
          rcases only b with h0 | ⟨oz, xs, h0⟩
          · rw [hb] at h0; cases h0
          · obtain ⟨e1, _⟩ := hok b _ h0
            obtain ⟨e2, _⟩ := hok' b _ (un.frzs b oz _ h0)
            rw [e] at e1
            cases e1
            exact e2
  cases hk : W.K.lookup a with
  | some ob =>
    have q := kin a ob hk
    rw [scr] at q
    cases q
    refine main (fun _ => none) (fun _ => Or.inl rfl) (Or.inr ⟨_, us.toArray, _, hk, rfl, rfl, rfl, ?_, ?_⟩) ?_ ?_ ?_
    · rw [List.size_toArray, usl]; exact few
    · simpa using vals
    · intro b u z
      have z' : (none : Option HO) = some u := z
      cases z'
    · intro b z; exact absurd rfl z
    · intro z; exact absurd rfl z
  | none =>
    let lock : HO := .frz { cls := .type "list", data := .seq us.toArray } (.lst (zs.map V.int))
    refine main (fun b => if b = a then some lock else none) (fun b => ?_) (Or.inl (Or.inr ⟨{ cls := .type "list", data := .seq us.toArray }, if_pos rfl⟩)) (fun b u z => ?_) (fun b z => ?_) (fun _ => hk)
    · by_cases hb : b = a
      · exact Or.inr ⟨_, _, if_pos hb⟩
      · exact Or.inl (if_neg hb)
    · by_cases hb : b = a
      · have z' := (if_pos hb).symm.trans z
        cases z'
        subst hb
        exact ⟨scr, by rw [List.length_map]; exact few, us, _, vals, scr⟩
      · have z' := (if_neg hb).symm.trans z
        cases z'
    · by_cases hb : b = a
      · exact hb
      · exact absurd (if_neg hb) z
theorem walk_g {l : PySem.W.OpenLaw} {n k : Nat} {q : Program} {loose : List Str} {XP : (Str → Option Value) → Heap → Prop} {YP : World → Heap → Prop} {d : DefRec} {x : Str}
    (hn : l.most = some n) (hn2 : n ≤ sizeLine) (hdf : d.params.defaults = []) (room : Room k callerA)
    (F : ∀ (w : World) (mg : Str → Option Value) (fa : Addr) (h : Heap), YP w h → h.Ns mainGlobals mg → mg d.name = some (.ref fa) →
      ∃ (W : Wd) (fd : FuncData) (g : List D → Stor → R D), W.tb = [] ∧ W.K.In h ∧ (∀ (s : Shared) (u : Value), BindsTo s fd ⟨[u], []⟩ [(x, u)]) ∧
        (∀ zs : List Int, zs.length ≤ n → ∃ M, g [.lck (zs.map D.int)] [] = .ok (.bl true) M) ∧
        ∀ base : Heap, W.K.In base → base.Ns mainGlobals mg → FnG l.prog w W mg base k fa fd [x] g) :
    PySem.W.WalkO q loose XP YP l.row.toRowW d [] (fun f vs => PySem.call f vs) := by
  refine Att.attach_call hn hdf ?_
  intro w s0 s1 mg mb fa ob pm cd doc a us zs G Y ho hd hcd hmg hobj hints hlen hg
  obtain ⟨W, fd, g, ntb, kin, hb, hgood, hF⟩ := F w mg fa _ Y G.T.g hmg
  exact law_g kin G.T.g G.T.b G.T.builtins G.T.nolimit hg hobj hints (Nat.le_trans hlen hn2) room hF hb (hgood zs hlen) ntb
end G

namespace G
open PySem PySem.Spec PyProof.Rows L2
/-! ### the head's facts: the house's own, further ones, the defs -/
abbrev Fx := PySem.W.Frag → Bool
def obsE (fa : List He.Fa) (fx : List Fx) (fn : List He5.DefA) (K : PySem.W.Frag) : He.AlD := ((fa.all fun f => f.ok K) && (fx.all fun f => f K) && fn.all fun d => d.ok K, fn.map fun d => He5.fnA K (d.at_ K))
def SaysE (fa : List He.Fa) (fx : List Fx) (fn : List He5.DefA) (K : PySem.W.Frag) : Prop := obsE fa fx fn K = He5.valA fn
def obsEG (n : Nat) (fa : List He.Fa) (fx : List Fx) (fn : List He5.DefA) (g : Addr → Option Obj) : He.AlD := obsE fa fx fn (He.frG g (He5.asA g n))
def hookE (n : Nat) (fa : List He.Fa) (fx : List Fx) (fn : List He5.DefA) : PySem.W.Hook where
  α := He.AlD
  obs := fun s => obsEG n fa fx fn s.heap.get?
  val := fun _ => He5.valA fn
  says := fun _ h => ∃ K : PySem.W.Frag, K.In h ∧ SaysE fa fx fn K
  of := fun _ _ e => ⟨_, He.frG_in, e⟩
  keeps := fun _ _ _ ⟨K, hK, c⟩ k => ⟨K, PySem.W.Frag.In.keeps hK k, c⟩
theorem obsEG_eq {n : Nat} {fa : List He.Fa} {fx : List Fx} {fn : List He5.DefA} {g : Addr → Option Obj} {s : Shared} (h : ∀ a, g a = s.heap.get? a) : obsEG n fa fx fn g = (hookE n fa fx fn).obs s := by
  have e : g = s.heap.get? := funext h
  subst e; rfl
section
variable {fa : List He.Fa} {fx : List Fx} {fn : List He5.DefA} {K : PySem.W.Frag}
theorem SaysE.all (c : SaysE fa fx fn K) : ((fa.all fun f => f.ok K) && (fx.all fun f => f K) && fn.all fun d => d.ok K) = true := congrArg (fun z : He.AlD => z.1) c
theorem SaysE.fact (c : SaysE fa fx fn K) (i : Nat) {f : He.Fa} (h : fa[i]? = some f := by rfl) : f.ok K = true := by
  have z := c.all
  simp only [Bool.and_eq_true] at z
  exact List.all_eq_true.mp z.1.1 f (List.mem_of_getElem? h)
theorem SaysE.factX (c : SaysE fa fx fn K) (i : Nat) {f : Fx} (h : fx[i]? = some f := by rfl) : f K = true := by
  have z := c.all
  simp only [Bool.and_eq_true] at z
  exact List.all_eq_true.mp z.1.2 f (List.mem_of_getElem? h)
theorem SaysE.def_ (c : SaysE fa fx fn K) (i : Nat) {d : He5.DefA} (h : fn[i]? = some d := by rfl) : ∃ fd, FunD K d.name d.qual d.params d.body d.scope (d.dvs K) (d.kws K) (d.at_ K) fd := by
  have z := c.all
  simp only [Bool.and_eq_true] at z
  have e : fn.map (fun d => He5.fnA K (d.at_ K)) = fn.map He5.DefA.val := congrArg (fun z : He.AlD => z.2) c
  have e2 : (fn.map fun d => He5.fnA K (d.at_ K))[i]? = (fn.map He5.DefA.val)[i]? := by rw [e]
  rw [List.getElem?_map, List.getElem?_map, h] at e2
  exact He5.DefA.funD (Option.some.inj e2) (List.all_eq_true.mp z.2 d (List.mem_of_getElem? h))
end
/-! ### a def that may be called -/
structure FnB (P : Program) (w : World) (W : Wd) (mg : Str → Option Value) (base : Heap) (k : Nat) (f : Addr) (ps : List Str) (g : List D → Stor → R D) : Prop where
  ex : ∃ fd, FnG P w W mg base k f fd ps g ∧ Binds W.K fd ps []
  kp : PySem.W.keepIn W.K (.ref f) = true
/-- .. with values that fill up -/
structure FnBD (P : Program) (w : World) (W : Wd) (mg : Str → Option Value) (base : Heap) (k : Nat) (f : Addr) (ps : List Str) (dds : List D) (g : List D → Stor → R D) : Prop where
  ex : ∃ fd dvs dus, FnG P w W mg base k f fd ps g ∧ Binds W.K fd ps dus ∧ Vals dvs dus ∧ ∀ F ρ, IsL W F ρ dds dvs
  kp : PySem.W.keepIn W.K (.ref f) = true
section
variable {P : Program} {w : World} {W : Wd} {mg : Str → Option Value} {base : Heap} {k : Nat} {f : Addr} {ps : List Str} {dds : List D} {g : List D → Stor → R D}
theorem FnB.frz (h : FnB P w W mg base k f ps g) : FnB P w W mg base k f ps (fun ds M => frz M (g ds M)) := ⟨let ⟨fd, a, b⟩ := h.ex; ⟨fd, a.frz, b⟩, h.kp⟩
theorem FnB.mono {j : Nat} (h : FnB P w W mg base k f ps g) (hj : k ≤ j) : FnB P w W mg base j f ps g := ⟨let ⟨fd, a, b⟩ := h.ex; ⟨fd, a.mono hj, b⟩, h.kp⟩
theorem FnB.all (h : FnB P w W mg base k f ps g) : FnBD P w W mg base k f ps [] g := ⟨let ⟨fd, a, b⟩ := h.ex; ⟨fd, [], [], a, b, .nil, fun _ _ => IsL.nil⟩, h.kp⟩
end
section
variable {X : Cx} {W : Wd} {E : Sg → XK} {k c : Nat} {f C : Addr} {ps : List Str} {dds : List D} {g : List D → Stor → R D}
theorem cg_b (h : FnB X.prog X.w W X.mg X.base k f ps g) (hK : X.K = W.K) (hr : Room k X.A) (gd : X.A.guards = some []) (hx : Pass X E) : CallG X W E (.ref f) g := by
  obtain ⟨fd, a, b⟩ := h.ex
  rw [← hK] at b
  exact callg_fn0 a hK hr gd b hx
theorem cg_bd (h : FnBD X.prog X.w W X.mg X.base k f ps dds g) (hK : X.K = W.K) (hr : Room k X.A) (gd : X.A.guards = some []) (hx : Pass X E) : CallG X W E (.ref f) (fun xs M => g (xs ++ dds) M) := by
  obtain ⟨fd, dvs, dus, a, b, d, e⟩ := h.ex
  rw [← hK] at b
  exact callg_fn a hK hr gd b d e hx
/-- C(..): firm at once -/
noncomputable def gMake (c : Nat) (dds : List D) (g : List D → Stor → R D) : List D → Stor → R D := fun xs M => frz M (gMakeM c (fun ys N => g (ys ++ dds) N) xs M)
theorem cg_make (MK : Mk X.K (W.T c) f) (h : FnBD X.prog X.w W X.mg X.base k f ps dds g) (hK : X.K = W.K) (hr : Room (k + 1) X.A) (gd : X.A.guards = some []) (hx : Pass X E) : CallG X W E (.ref (W.T c)) (gMake c dds g) := by
  obtain ⟨fd, dvs, dus, a, b, d, e⟩ := h.ex
  rw [← hK] at b
  exact (callg_make rfl MK a hK hr gd b d e hx).frz
theorem cg_makeM (MK : Mk X.K (W.T c) f) (h : FnBD X.prog X.w W X.mg X.base k f ps dds g) (hK : X.K = W.K) (hr : Room (k + 1) X.A) (gd : X.A.guards = some []) (hx : Pass X E) : CallG X W E (.ref (W.T c)) (gMakeM c (fun ys N => g (ys ++ dds) N)) := by
  obtain ⟨fd, dvs, dus, a, b, d, e⟩ := h.ex
  rw [← hK] at b
  exact callg_make rfl MK a hK hr gd b d e hx
end
/-- in a def's body what a callee raises leaves it -/
theorem pass_def {P : Program} {w : World} {K : PySem.W.Frag} {mg : Str → Option Value} {base : Heap} {N : List Str} {qual : Str} {scope : Scope} {f : Addr} {cd : Value} {A : Around} {outer : List Env} {s : Shared} {H : Hp} {E : XK} :
    Pass (cxOf (L2.CX P w) P w K mg base N qual scope f cd A outer s H E) (fun _ => E) := fun σ => passAt (X := cxOf (L2.CX P w) P w K mg base N qual scope f cd A outer s H E) (W := fun cls d _ H => E cls d H) (takes_of rfl rfl rfl rfl) σ
theorem own_def {P : Program} {w : World} {K : PySem.W.Frag} {mg : Str → Option Value} {base : Heap} {N : List Str} {qual : Str} {scope : Scope} {f : Addr} {cd : Value} {A : Around} {outer : List Env} {s : Shared} {H : Hp} {E : XK} :
    let X := cxOf (L2.CX P w) P w K mg base N qual scope f cd A outer s H E
    PassesOwn (model X.prog X.w) X.A X.env X.xe := passes_of (X := cxOf (L2.CX P w) P w K mg base N qual scope f cd A outer s H E) rfl
/-- enough turns for a while -/
@[irreducible] def fuel : Nat := 2 ^ 100000
theorem fuel_ge {n : Nat} (h : n ≤ 2 ^ 100000) : n ≤ fuel := by unfold fuel; exact h
/-! ### further facts as truths -/
open He in
def fxClsI (x : Str) : Fx := fun K => eqO (PySem.W.findIn K (.ref (ga K x)) "__class__") (some (some (.builtin "object.__class__"))) && (eqO (PySem.W.specialIn K (.builtin "object.__class__") "__get__") (some (some (.builtin "getset_descriptor.__get__"))) &&
  (decide (PySem.W.takesIn K (.builtin "object.__class__") = some true) && decide (PySem.W.mroIn K (ga K x) (.type "object") = some true)))
theorem clsI_of {K : PySem.W.Frag} {x : Str} (c : Cls K (He.ga K x)) (h : fxClsI x K = true) : ClsI K (He.ga K x) := by
  obtain ⟨h1, h⟩ := He.ba h
  obtain ⟨h2, h⟩ := He.ba h
  obtain ⟨h3, h4⟩ := He.ba h
  exact ⟨c, He.eqO_ok h1, He.eqO_ok h2, of_decide_eq_true h3, of_decide_eq_true h4⟩
open He in
def fxOp (x : Str) (nm : String) : Fx := fun K => PySem.W.selfFirst K (ga K x) && (eqO (PySem.W.findIn K (.ref (ga K x)) (dunder nm)) (some (some (.ref (ma K (ga K x) (dunder nm))))) && (PySem.W.isFn K (.ref (ma K (ga K x) (dunder nm))) &&
  (eqO (PySem.W.findIn K (.ref (ga K x)) (dunderR nm)) (some (some (.ref (ma K (ga K x) (dunderR nm))))) && (PySem.W.isFn K (.ref (ma K (ga K x) (dunderR nm))) &&
  (decide (PySem.W.subIn K (.ref (ga K x)) (.type "int") = some false) && (decide (PySem.W.subIn K (.type "int") (.ref (ga K x)) = some false) && (PySem.W.findIn K (.type "int") (dunderR nm)).isSome))))))
theorem opC_of {K : PySem.W.Frag} {x : Str} {nm : String} (h : fxOp x nm K = true) : OpC K (He.ga K x) nm (He.ma K (He.ga K x) (dunder nm)) (He.ma K (He.ga K x) (dunderR nm)) := by
  obtain ⟨h1, h⟩ := He.ba h
  obtain ⟨h2, h⟩ := He.ba h
  obtain ⟨h3, h⟩ := He.ba h
  obtain ⟨h4, h⟩ := He.ba h
  obtain ⟨h5, h⟩ := He.ba h
  obtain ⟨h6, h⟩ := He.ba h
  obtain ⟨h7, h8⟩ := He.ba h
  exact ⟨h1, He.eqO_ok h2, h3, He.eqO_ok h4, h5, of_decide_eq_true h6, of_decide_eq_true h7, Option.isSome_iff_exists.mp h8⟩
open He in
def fxIp (x : Str) (nm : String) : Fx := fun K => (match PySem.W.clsIn K (ga K x) with
  | some cd => decide (cd.mro = [.ref (ga K x), .type "object"])
  | none => false) && (eqO (PySem.W.findIn K (.ref (ga K x)) (dunderI nm)) (some none) && eqO (PySem.W.findIn K (.type "object") (dunderI nm)) (some none))
theorem ipC_of {K : PySem.W.Frag} {x : Str} {nm : String} (h : fxIp x nm K = true) : IpC K (He.ga K x) nm := by
  obtain ⟨h1, h⟩ := He.ba h
  obtain ⟨h2, h3⟩ := He.ba h
  refine ⟨?_, He.eqO_ok h2, He.eqO_ok h3⟩
  cases e : PySem.W.clsIn K (He.ga K x) with
  | none => rw [e] at h1; cases h1
  | some cd => rw [e] at h1; exact ⟨cd, rfl, of_decide_eq_true h1⟩
open He in
def fxSm (x m : Str) : Fx := fun K => PySem.W.readsIn K (ga K x) (.type "type") && (eqO (PySem.W.specialIn K (.ref (ga K x)) "__getattribute__") (some (some (.builtin "type.__getattribute__"))) &&
  (He5.wrapB K (ga K x) "staticmethod" "staticmethod.__get__" m && PySem.W.keepIn K (.ref (He5.wf K (ga K x) "staticmethod" m))))
theorem sm_of {K : PySem.W.Frag} {x m : Str} (h : fxSm x m K = true) : SMet K (He.ga K x) m (He5.wf K (He.ga K x) "staticmethod" m) := by
  obtain ⟨h1, h⟩ := He.ba h
  obtain ⟨h2, h⟩ := He.ba h
  obtain ⟨h3, h4⟩ := He.ba h
  obtain ⟨k1, rest, k2⟩ := He5.wrapB_ok h3
  exact ⟨h1, He.eqO_ok h2, ⟨_, rest, k1, k2⟩, h4⟩
/-- a value's kind and a class, by names -/
inductive TN where
  | b (n : String) | o (x : Str)
def TN.v (K : PySem.W.Frag) : TN → Value
  | .b n => .type n
  | .o x => .ref (He.ga K x)
def fxKit (t c : TN) (r : Bool) : Fx := fun K => decide (PySem.W.kitOne K (t.v K) (c.v K) = some r)
theorem kit_of {K : PySem.W.Frag} {t c : TN} {r : Bool} (h : fxKit t c r K = true) : PySem.W.kitOne K (t.v K) (c.v K) = some r := of_decide_eq_true h
theorem ge_stuck {X : Cx} {W : Wd} {E : Sg → XK} {e : Expr} : GE X W E e (fun _ _ => .no) := ⟨fun _ _ _ _ _ _ ⟨_, _, _, _, _, _, _, po⟩ => po.elim⟩
def gYes : GT' := fun _ M => .ok true M
theorem pts_none {X : Cx} {W : Wd} {E : Sg → XK} : PTs X [] (tGT W E gYes) := ⟨fun pins s σ H Q I ⟨ξ, Γ, M, F, ρ, en, rp, po⟩ => pts_nil.run pins s σ H Q I (po true F ρ H Le.rfl' (List.prefix_refl _) rp rfl)⟩
end G

namespace G
open PySem L2
/-! ### reckoning with the plain functions -/
section
variable {i j : Int} {M : Stor} {a b : Bool} {x y : Str}
theorem eAdd : dAdd (.int i) (.int j) M = .ok (.int (i + j)) M := rfl
theorem eAddI : dAddI (.int i) (.int j) M = .ok (.int (i + j)) M := rfl
theorem eSub : dSubI (.int i) (.int j) M = .ok (.int (i - j)) M := rfl
theorem eMulI (h : mulOk i j = true) : dMulI (.int i) (.int j) M = .ok (.int (i * j)) M := by
  unfold dMulI dI; simp only [h, if_true]
theorem eMul (h : mulOk i j = true) : dMul (.int i) (.int j) M = .ok (.int (i * j)) M := by
  unfold dMul; rw [eMulI h]; rfl
theorem eDiv (h : divOk j = true) : dDivI (.int i) (.int j) M = .ok (.int (i.fdiv j)) M := by
  unfold dDivI dI; simp only [h, if_true]
theorem eMod (h : j ≠ 0) : dModI (.int i) (.int j) M = .ok (.int (i.fmod j)) M := by
  unfold dModI dI; simp only [h, if_false]
theorem ePow (h : powOk i j = true) : dPowI (.int i) (.int j) M = .ok (.int (i ^ j.toNat)) M := by
  unfold dPowI dI; simp only [h, if_true]
theorem eLt : dLtI (.int i) (.int j) M = .ok (.bl (decide (i < j))) M := rfl
theorem eLe : dLeI (.int i) (.int j) M = .ok (.bl (decide (i ≤ j))) M := rfl
theorem eGt : dGtI (.int i) (.int j) M = .ok (.bl (decide (j < i))) M := rfl
theorem eGe : dGeI (.int i) (.int j) M = .ok (.bl (decide (j ≤ i))) M := rfl
theorem eEq : dEq (.int i) (.int j) M = .ok (.bl (decide (i = j))) M := rfl
theorem eNe : dNe (.int i) (.int j) M = .ok (.bl (!decide (i = j))) M := rfl
theorem eEqS : dEq (.str x) (.str y) M = .ok (.bl (decide (x = y))) M := rfl
theorem eNeS : dNe (.str x) (.str y) M = .ok (.bl (!decide (x = y))) M := rfl
theorem eTru : truD (.bl a) M = .ok a M := rfl
theorem eNeg : dNegI (.int i) M = .ok (.int (-i)) M := rfl
theorem eAbs : fAbsI [.int i] M = .ok (.int i.natAbs) M := rfl
theorem eInt : fInt [.int i] M = .ok (.int i) M := rfl
theorem eIntB : fInt [.bl a] M = .ok (.int (if a then 1 else 0)) M := rfl
theorem eLenL {l : List D} : fLen [.lst l] M = .ok (.int l.length) M := rfl
theorem eLenT {l : List D} : fLen [.tup l] M = .ok (.int l.length) M := rfl
/-- small numbers -/
theorem mulOk_of {m n : Nat} (h1 : i.natAbs < 2 ^ m) (h2 : j.natAbs < 2 ^ n) (h3 : m + n ≤ 1000000 := by decide) : mulOk i j = true := by
  simp only [mulOk, Bool.or_eq_true, decide_eq_true_eq]
  right
  have l : ∀ {k : Nat} {z : Nat}, z < 2 ^ k → z.log2 < k ∨ z = 0 := fun {k z} h => by
    by_cases hz : z = 0
    · exact .inr hz
    · exact .inl ((Nat.log2_lt hz).mpr h)
  rcases l h1 with a | a <;> rcases l h2 with b | b
  · omega
  · rw [b]; have : Nat.log2 0 = 0 := by decide
    omega
  · rw [a]; have : Nat.log2 0 = 0 := by decide
    omega
  · rw [a, b]; decide
theorem mulOk_left (h : i.natAbs < 2 ^ 64) : mulOk i j = true := by simp only [mulOk, decide_eq_true h, Bool.true_or]
theorem mulOk_right (h : j.natAbs < 2 ^ 64) : mulOk i j = true := by simp only [mulOk, decide_eq_true h, Bool.true_or, Bool.or_true]
theorem log2_of {z k : Nat} (h : z < 2 ^ k) (hk : 0 < k) : z.log2 < k := by
  by_cases hz : z = 0
  · subst hz; have : Nat.log2 0 = 0 := by decide
    omega
  · exact (Nat.log2_lt hz).mpr h
theorem divOk_of {n : Nat} (h0 : j ≠ 0) (h : j.natAbs < 2 ^ n) (hn : n ≤ 9000 := by decide) : divOk j = true := by
  simp only [divOk, Bool.and_eq_true, decide_eq_true_eq]
  refine ⟨h0, ?_⟩
  exact (Nat.log2_lt (by omega)).mpr (Nat.lt_of_lt_of_le h (Nat.pow_le_pow_right (by decide) hn))
end
/-- one turn of a while -/
theorem while_step {t : GT'} {b : GS'} {n : Nat} {Γ : Gam} {M : Stor} : gWhile t b (n + 1) Γ M = (t Γ M).bindS Γ fun c M1 => if c then (match b Γ M1 with
    | .nx Γ2 M2 => gWhile t b n Γ2 M2
    | .ct Γ2 M2 => gWhile t b n Γ2 M2
    | .bk Γ2 M2 => .nx Γ2 M2
    | r => r) else .nx Γ M1 := rfl
theorem loop_nil {keep : Stor → Prop} {tg : GG'} {b : GS'} {Γ : Gam} {M : Stor} : loopG keep tg b [] Γ M = .nx Γ M := by unfold loopG; rfl
theorem set_last {M : Stor} {m m' : MO} : (M ++ [m]).set M.length m' = M ++ [m'] := by
  rw [List.set_append_right _ _ (Nat.le_refl _)]; simp
theorem get_last {M : Stor} {m : MO} : (M ++ [m])[M.length]? = some m := by simp
theorem kept_last {M : Stor} {m : MO} : Kept M (M ++ [m]) := .inl (by simp)
/-- what was made last is made firm -/
theorem frz_new {M : Stor} {m : MO} {d : D} (h : lookN M.length (M ++ [m]) 4 M.length = some d) : frz M (.ok (.ref M.length) (M ++ [m])) = .ok d M := by
  unfold frz
  have e : ¬ (M ++ [m]).length = M.length := by simp
  simp only [e, if_false, kept_last, if_true, frzD, h]
  simp
theorem look_ins {M : Stor} {c : Nat} {l l' : List D} (h : frzL (lookN M.length (M ++ [.ins c l]) 3) l = some l') : lookN M.length (M ++ [.ins c l]) 4 M.length = some (.ins c l') := by
  unfold lookN
  rw [if_neg (Nat.lt_irrefl _), get_last]
  simp only [h, Option.map_some]
theorem look_lst {M : Stor} {l l' : List D} (h : frzL (lookN M.length (M ++ [.lst l]) 3) l = some l') : lookN M.length (M ++ [.lst l]) 4 M.length = some (.lst l') := by
  unfold lookN
  rw [if_neg (Nat.lt_irrefl _), get_last]
  simp only [h, Option.map_some]
mutual
/-- firm data stays as it is -/
def D.firm : D → Bool
  | .ref _ => false
  | .tup l => firmL l
  | .lst l => firmL l
  | .lck l => firmL l
  | .ins _ l => firmL l
  | .dct _ l => firmL l
  | .exc _ _ l => firmL l
  | .lam _ _ _ _ l => firmL l
  | .non => true
  | .bl _ => true
  | .int _ => true
  | .str _ => true
  | .ty _ => true
  | .cls _ => true
def firmL : List D → Bool
  | [] => true
  | d :: ds => d.firm && firmL ds
end
mutual
theorem frzD_firm {look : Nat → Option D} : ∀ {d : D}, d.firm = true → frzD look d = some d
  | .ref _, h => by simp [D.firm] at h
  | .tup l, h => by simp only [D.firm] at h; simp only [frzD, frzL_firm h, Option.map_some]
  | .lst l, h => by simp only [D.firm] at h; simp only [frzD, frzL_firm h, Option.map_some]
  | .lck l, h => by simp only [D.firm] at h; simp only [frzD, frzL_firm h, Option.map_some]
  | .ins c l, h => by simp only [D.firm] at h; simp only [frzD, frzL_firm h, Option.map_some]
  | .dct ks l, h => by simp only [D.firm] at h; simp only [frzD, frzL_firm h, Option.map_some]
  | .exc c o l, h => by simp only [D.firm] at h; simp only [frzD, frzL_firm h, Option.map_some]
  | .lam f c q us l, h => by simp only [D.firm] at h; simp only [frzD, frzL_firm h, Option.map_some]
  | .non, _ => by simp only [frzD]
  | .bl _, _ => by simp only [frzD]
  | .int _, _ => by simp only [frzD]
  | .str _, _ => by simp only [frzD]
  | .ty _, _ => by simp only [frzD]
  | .cls _, _ => by simp only [frzD]
theorem frzL_firm {look : Nat → Option D} : ∀ {l : List D}, firmL l = true → frzL look l = some l
  | [], _ => by simp only [frzL]
  | d :: ds, h => by
    simp only [firmL, Bool.and_eq_true] at h
    simp only [frzL, frzD_firm h.1, frzL_firm h.2]
end
theorem frz_insF {M : Stor} {c : Nat} {l : List D} (h : firmL l = true) : frz M (.ok (.ref M.length) (M ++ [.ins c l])) = .ok (.ins c l) M := frz_new (look_ins (frzL_firm h))
theorem frz_lstF {M : Stor} {l : List D} (h : firmL l = true) : frz M (.ok (.ref M.length) (M ++ [.lst l])) = .ok (.lst l) M := frz_new (look_lst (frzL_firm h))
/-- statement by statement -/
theorem seq_nx {a b : GS'} {Γ Γ1 : Gam} {M M1 : Stor} (h : a Γ M = .nx Γ1 M1) : gSeq a b Γ M = b Γ1 M1 := by unfold gSeq; rw [h]
theorem seq_rt {a b : GS'} {Γ : Gam} {M M1 : Stor} {d : D} (h : a Γ M = .rt d M1) : gSeq a b Γ M = .rt d M1 := by unfold gSeq; rw [h]
theorem fn_rt {n N : Nat} {gb : GS'} {ds : List D} {M M1 : Stor} {d : D} (hl : ds.length = n) (h : gb (ds.map some ++ List.replicate (N - n) none) M = .rt d M1) : gFn n N gb ds M = .ok d M1 := by
  unfold gFn; rw [if_pos hl, h]; rfl
theorem if_t {t : GT'} {a b : GS'} {Γ : Gam} {M M1 : Stor} (h : t Γ M = .ok true M1) : gIf t a b Γ M = a Γ M1 := by unfold gIf; rw [h]; rfl
theorem if_f {t : GT'} {a b : GS'} {Γ : Gam} {M M1 : Stor} (h : t Γ M = .ok false M1) : gIf t a b Γ M = b Γ M1 := by unfold gIf; rw [h]; rfl
end G

namespace G
open PySem PySem.Spec PyProof.Rows L2
/-! ### raise -/
section
variable {X : Cx} {W : Wd} {E : Sg → XK} {x : Str} {p pos pos' : Pos} {c : Nat}
/-- what is raised is taken, with the slots as they are -/
abbrev Tk (X : Cx) (E : Sg → XK) : Prop := Takes X (fun cls d σ H => E σ cls d H)
theorem Tk.pass (t : Tk X E) : Pass X E := fun σ => passAt (W := fun cls d σ H => E σ cls d H) t σ
theorem tk_def {P : Program} {w : World} {K : PySem.W.Frag} {mg : Str → Option Value} {base : Heap} {N : List Str} {qual : Str} {scope : Scope} {f : Addr} {cd : Value} {A : Around} {outer : List Env} {s : Shared} {H : Hp} {E : XK} :
    Tk (cxOf (L2.CX P w) P w K mg base N qual scope f cd A outer s H E) (fun _ => E) := takes_of rfl rfl rfl rfl
/-- X(), X an own error without own making -/
theorem pmk_none {C : Addr} {bmB : List Value} {B newId initId : String} (F : ExcBaseFacts B newId initId bmB) (q : PySem.W.excIn X.K C bmB newId = true) (gC : X.mg x = some (.ref C)) (kC : PySem.W.keepIn X.K (.ref C) = true) (r : Raises X (.ref C)) (hg : Gl X x)
    (hdb : (x == ("__debug__" : Str)) = false := by decide) : PMk X (.Call (.Name x p) [] [] pos) (fun _ H Q => Q (.ref C) none H) := by
  intro pins s σ H Q I h
  refine wpAny_Call_Name_kw (ld_glob I hg gC ?_ hdb)
  refine PySem.W.callWith_K0 I.kIn kC ?_
  obtain ⟨bm, N, nm, qn, bs, hdct, sn, sub, ab, col, dd, k0, k1, k2, k3, k5, mN, hC, hN, hni, T⟩ := exc_obj I.kIn q
  refine wpAny_call_exc_subT F T hC hN hni (fun h' e hm => ?_) (Nat.zero_le _)
  exact mk_of I hm r h (I.hok.gone hm.new)
def gRaise0 (c : Nat) : GS' := fun Γ M => .ex c none Γ M
/-- what the written part tells of an own error without own making -/
structure Ex0 (K : PySem.W.Frag) (C : Addr) : Prop where
  q : PySem.W.excIn K C [.type "ValueError", .type "Exception", .type "BaseException", .type "object"] "ValueError.__new__" = true
  kC : PySem.W.keepIn K (.ref C) = true
  sb : PySem.W.subIn K (.ref C) (.type "BaseException") = some true
  ty : PySem.W.typeIn K (.ref C) = some (.type "type")
theorem gs_raise0 (hK : X.K = W.K) (T : Ex0 W.K (W.T c)) (gC : X.mg x = some (.ref (W.T c))) (hg : Gl X x) (hc : X.calm = true) (tk : Tk X E) (hdb : (x == ("__debug__" : Str)) = false := by decide) :
    GS X W E (.Raise (some (.Call (.Name x p) [] [] pos')) none pos) (gRaise0 c) :=
  mS (ps_raise hc tk (pmk_none PySem.F.excBase_ValueError (by rw [hK]; exact T.q) gC (by rw [hK]; exact T.kC) (raises_own (by rw [hK]; exact T.sb) (by rw [hK]; exact T.ty)) hg hdb))
    fun N σ H ⟨ξ, Γ, M, F, ρ, en, rp, po⟩ => po σ none F ρ H Le.rfl' (List.prefix_refl _) rp en rfl
end
end G

namespace G
open PySem PySem.Spec PyProof.Rows L2
/-! ### try: .. except X as n: y = n: the error is kept behind the suite -/
theorem excO_ok {P : Program} {w : World} {H : Hp} {h : Heap} {a : Addr} {cls : Value} {d : Option Addr} {oe : Obj} {vs : Array Value} (e : h.get? a = some oe) (z : Zc cls d oe) (dd : oe.data = .fields vs) : ObjOk P w H h a (ExcO a cls d) :=
  ⟨⟨oe, vs, e, z.1, z.2, dd⟩, ⟨oe, e⟩, fun _ _ ⟨o, v, q, r⟩ k => ⟨o, v, k o q, r⟩⟩
section
variable {X : Cx} {pins : List (Addr × Obj)} {σ : L2.St} {H : Hp} {s : Shared}
/-- an object that no one knew is known from now on -/
theorem inv_learn {a : Addr} {o : HO} {oe : Obj} (I : Inv X pins σ H s) (n : H a = none) (n0 : X.s_0.heap.get? a = none) (nL : a ≠ X.env.locals) (nC : ∀ x c, X.env.cells.lookup x = some c → c ≠ a) (nP : ∀ p ∈ X.pn ++ pins, p.1 ≠ a)
    (k : ∀ H', ObjOk X.prog X.w H' s.heap a o) : Inv X pins σ (upd H a o) s := by
  refine ⟨I.ok, I.os, I.bare, ⟨I.base.keep, I.base.slot, fun b u e q hx => ?_, I.base.there, fun b xs e => ?_, fun b u v e => ?_, fun b ps e => ?_⟩, I.loc, I.cell, ?_, fun x c e => ?_, fun p hp => ?_, fun b u e => ?_, I.len⟩
  · rw [upd_ne (fun z => by rw [z, n0] at e; cases e)]; exact I.base.free b u e q hx
  · have q := I.base.tups b xs e
    rw [upd_ne (ne_of_none q n)]; exact q
  · have q := I.base.frzs b u v e
    rw [upd_ne (ne_of_none q n)]; exact q
  · obtain ⟨more, q⟩ := I.base.tbls b ps e
    exact ⟨more, by rw [upd_ne (ne_of_none q n)]; exact q⟩
  · rw [upd_ne nL.symm]; exact I.free
  · rw [upd_ne (nC x c e)]; exact I.freeC x c e
  · obtain ⟨p1, p2, p3⟩ := I.pin p hp
    rw [upd_ne (nP p hp)]; exact ⟨p1, p2, p3⟩
  · by_cases hb : b = a
    · subst hb
      rw [upd_same] at e; cases e
      exact k _
    · rw [upd_ne hb] at e
      exact (I.hok b u e).stay (fun c v _ q => q) (fun c q => by rw [upd_ne (ne_of_none q n)]; exact q) fun c xs q => by rw [upd_ne (ne_of_none q n)]; exact q
end
/-- what the clause wishes of the body's error -/
def wKp (K : PySem.W.Frag) (c : Value) (i j : Nat) (Wout : WX) (D : Ends) : WX := fun cls d σ H =>
  ∃ b, PySem.W.exmOne K cls c = some b ∧ (b = true → ∀ a, H a = none → D.nx (((σ.set i (some (.ref a))).set j (some (.ref a))).set i none) (upd H a (ExcO a cls d))) ∧ (b = false → Wout cls d σ H)
section
variable {X : Cx} {x n y : Str} {c : Value} {i j : Nat} {body : List Stmt} {np pos pos' py pn' pa : Pos} {tb : WX → TS} {Wout : WX}
theorem ps_try_kp (hs : X.stack = X.env :: X.outer) (hf : X.env.frame = some X.env.locals) (hex : X.ex = []) (hN : X.N.Nodup) (hi : X.N[i]? = some n) (hln : X.env.scope.names.lookup n = some .local) (hj : X.N[j]? = some y) (hly : X.env.scope.names.lookup y = some .local) (hc : Names X x c) (tk : Takes X Wout)
    (hdn : (n == ("__debug__" : Str)) = false) (hcn : (n == ("__classdict__" : Str)) = false)
    (hb : ∀ (W : WX) (pn : List (Addr × Obj)) (xe : Value → Shared → Prop), Takes (X.tr pn xe) W → PassesOwn (model X.prog X.w) X.A X.env xe → PSs (X.tr pn xe) body (tb W)) 
    (hsw : swapsWith (.Name n pn') (some (.Name y py)) pa.line X.env = pure false := by rfl) :
    PS X (.Try body [.ExceptHandler (some (.Name x np)) (some n) [.Assign [.Name y py] (.Name n pn') pa] pos'] [] [] pos) (fun D σ H => tb (wKp X.K c i j Wout D) D σ H) := by
  refine ⟨fun pins s σ H D I h => ?_⟩
  have ok := I.ok
  have hfr : X.A.frames = some (X.env :: X.outer) := by rw [ok.frames, hs]
  have hloc : Loc X.env.scope n := .inl hln
  refine wpAny_Try_except ?_
  refine wpAny_mono ((hb (wKp X.K c i j Wout D) (X.pn ++ pins) (fun e s₁ => wpAny (model X.prog X.w) X.A (noteFrame e X.env) (fun _ s₂ => wpAny (model X.prog X.w) X.A (setFlight e none) (fun _ s₃ =>
    wpAny (model X.prog X.w) X.A (handleBy e X.env [.ExceptHandler (some (.Name x np)) (some n) [.Assign [.Name y py] (.Name n pn') pa] pos']) (SP X pins D) X.xe s₃) X.xe s₂) X.xe s₁) (fun u s' xx => ?_) PassesOwn.looking).run [] s σ H D (I.toTry _) h) (fun f s1 hsp => ?_) (fun e s1 he => he)
  · obtain ⟨a, B, sI, pins', σ', H', cls, d, rfl, J', nb, up, sky, na, os, ag, b, hb1, hyes, hno⟩ := xx
    have J : Inv X pins σ' H' sI := J'.ofTry ok
    have sky' : Sky B (X.env :: X.outer) a (Zc cls d) X.env.locals s'.heap := by rw [← hs]; exact sky
    show wpAny (model X.prog X.w) X.A (noteFrame (.ref a) X.env) _ _ _
    refine Sky.land Zc.steady hfr hf sky' fun h3 fl3 up3 => ?_
    have J3 : Inv X pins σ' H' { s' with heap := h3 } := J.landed nb fl3.1 (up.trans up3) os ag
    obtain ⟨oe3, vs3, he3, hz3, hd3⟩ := fl3.there
    have nfr : a ∉ frs (X.env :: X.outer) := fun hm => by
      obtain ⟨_, o', e', hnf⟩ := fl3.2.2.1.mem hm
      rw [he3] at e'; cases e'
      exact hnf _ hd3
    have nL : a ≠ X.env.locals := fun z => nfr (List.mem_filterMap.mpr ⟨X.env, List.mem_cons_self, by rw [hf, z]⟩)
    have nF : a ∉ X.fs := fun hm => by
      obtain ⟨e, he, q⟩ := List.mem_filterMap.mp hm
      exact nfr (List.mem_filterMap.mpr ⟨e, List.mem_cons_of_mem _ he, q⟩)
    -- the error is new
    have new : sI.heap.get? a = none := by
      cases e : sI.heap.get? a with
      | none => rfl
      | some o =>
        have z := nb a o e (by rw [hs]; exact nfr)
        rw [fl3.2.1] at z; cases z
    have n0 : a ∉ X.ex → X.s_0.heap.get? a = none := fun hx => by
      cases e : X.s_0.heap.get? a with
      | none => rfl
      | some o =>
        obtain ⟨o', z⟩ := J.base.there a o e hx
        rw [new] at z; cases z
    have nC : ∀ x c, X.env.cells.lookup x = some c → c ≠ a := fun x c e z => by
      obtain ⟨v, o, ho, _⟩ := J.cell x c e
      rw [z, new] at ho; cases ho
    have nP : ∀ p ∈ X.pn ++ pins, p.1 ≠ a := fun p hp z => by
      obtain ⟨e, _⟩ := J.pin p hp
      rw [z, new] at e; cases e
    have S3 := J3.suite he3 hd3 na nL nF
    refine wpAny_handleBy_cons (codeAny_handlers_test ?_) (by intro q; cases q)
    have LT : PySem.W.Looks (model X.prog X.w) h3 (typeOf (.ref a)) cls := fun A Q E s k q => wpAny_typeOf_ref (k _ _ he3) (by rw [hz3.1]; exact q)
    have LM := PySem.W.exm_one (M := model X.prog X.w) (J3.kIn) LT hb1
    have test : ∀ {Q : Value → Shared → Prop} {E : Value → Shared → Prop}, Q c { s' with heap := h3 } → wpAny (model X.prog X.w) (X.A.mark (some (.ref a))) (eval (.Name x np) X.env) Q E { s' with heap := h3 } := fun {Q E} q => by
      obtain ⟨hg, hdbg, hm | ⟨hm, hv, hnn⟩⟩ := hc
      · exact ld_glob (X := X.suite a ((a, oe3) :: (X.pn ++ pins))) S3 hg hm q hdbg
      · exact ld_blt (X := X.suite a ((a, oe3) :: (X.pn ++ pins))) S3 hg hm hv q hnn hdbg
    refine test (LM.here ?_)
    cases b with
    | true =>
      refine codeAny_handlers_suite_as ?_
      refine HandSPX.lands_againZ fl3 fun h4 fl4 up4 => ?_
      have J4 : Inv X pins σ' H' { s' with heap := h4 } := J.landed nb fl4.1 ((up.trans up3).trans up4) os ag
      obtain ⟨oe4, vs4, he4, hz4, hd4⟩ := fl4.there
      have S4 := J4.suite he4 hd4 na nL nF
      refine store_ok (X := X.suite a ((a, oe4) :: (X.pn ++ pins))) (v := .ref a) S4 hN hi hloc rfl (fun s5 S5 => ?_) (.inr hln)
      have su : PSs (X.suite a ((a, oe4) :: (X.pn ++ pins))) [.Assign [.Name y py] (.Name n pn') pa] (fun D σ H => ∃ v, σ[i]? = some (some v) ∧ D.nx (σ.set j (some v)) H) :=
        pss_one (ps_set (X := X.suite a ((a, oe4) :: (X.pn ++ pins))) hN hj (.inl hly) (pe_var (X := X.suite a ((a, oe4) :: (X.pn ++ pins))) (i := i) hi (.inl hln) hdn hcn) hsw (.inr hly))
      have li : i < σ'.length := by
        have := (List.getElem?_eq_some_iff.mp hi).1
        rw [← J.len] at this; exact this
      refine wpAny_mono (su.run [] s5 _ H' { nx := fun σ6 H6 => σ6 = (σ'.set i (some (.ref a))).set j (some (.ref a)) ∧ H6 = H', rt := fun _ _ => False, bk := fun _ _ => False, ct := fun _ _ => False } S5 ⟨.ref a, by rw [List.getElem?_set_self li], rfl, rfl⟩) (fun f s6 hsp => ?_) (fun _ _ z => False.elim z)
      cases f with
      | next =>
        obtain ⟨σ6, H6, S6, rfl, rfl⟩ := hsp
        obtain ⟨pa1, pa2, _⟩ := S6.pin (a, oe4) (List.mem_append_left _ List.mem_cons_self)
        have I6 : Inv X pins _ _ s6 := S6.unsuite ok
        have hx : a ∉ X.ex := fun hm => by rw [hex] at hm; cases hm
        have I7 := inv_learn (o := ExcO a cls d) (oe := oe4) I6 na (n0 hx) nL nC nP fun H' => excO_ok pa1 hz4 hd4
        exact gone_ok I7 hN hi hln fun s7 J7 => ⟨_, _, J7, hyes rfl a na⟩
      | brk => obtain ⟨σ6, H6, S6, q6⟩ := hsp; exact q6.elim
      | cont => obtain ⟨σ6, H6, S6, q6⟩ := hsp; exact q6.elim
      | ret u => obtain ⟨v6, σ6, H6, S6, r6, q6⟩ := hsp; exact q6.elim
    | false =>
      show wpAny _ X.A (handleBy (.ref a) X.env []) _ _ _
      refine wpAny_handleBy_nil ?_
      obtain ⟨k1, k2, k3, oe, vs, T, oT, ts', he, hz, hd, h1, hr⟩ := id fl3
      unfold PySem.passOn
      refine wpAny_bind (wpAny_field he hd h1 ?_)
      rw [if_neg (show ¬ ((Value.ref T == Value.none) = true) from by simp)]
      have fin : wpAny (model X.prog X.w) X.A (setFlight (.ref a) X.env.frame) (fun _ s4 => wpAny (model X.prog X.w) X.A (throw (.ref a) : Sem Flow) (SP X pins D) X.xe s4) X.xe { s' with heap := h3 } := by
        rw [hf]
        refine HandSPX.setFlight_upZ fl3 fun h4 hh4 up4 => wpAny_throw (tk _ _ ?_)
        exact ⟨a, B, sI, pins, σ', H', cls, d, rfl, J, nb, (up.trans up3).trans up4, .inr (.inr (by rw [hs]; exact hh4)), na, os, ag, hno rfl⟩
      first
        | exact wpAny_bind (wpAny_pure (wpAny_bind fin))
        | exact wpAny_bind fin
  · cases f with
    | next =>
      obtain ⟨σ', H', J', q⟩ := hsp
      exact wpAny_execs_nil ⟨σ', H', J'.ofTry ok, q⟩
    | brk =>
      obtain ⟨σ', H', J', q⟩ := hsp
      exact ⟨σ', H', J'.ofTry ok, q⟩
    | cont =>
      obtain ⟨σ', H', J', q⟩ := hsp
      exact ⟨σ', H', J'.ofTry ok, q⟩
    | ret u =>
      obtain ⟨v, σ', H', J', r, q⟩ := hsp
      exact ⟨v, σ', H', J'.ofTry ok, r, q⟩
/-- try: body, except X as n: y = n -/
def gTryK (b : GS') (mt : Nat → Option Bool) (i j : Nat) : GS' := fun Γ M => match b Γ M with
  | .ex c fs Γ1 M1 => (match mt c with
    | some true => .nx (((Γ1.set i none).set j (some (.exc c fs.isSome (fs.getD []))))) M1
    | some false => .ex c fs Γ1 M1
    | none => .no)
  | r => r
def MtOk (W : Wd) (c : Value) (mt : Nat → Option Bool) : Prop := ∀ k b, mt k = some b → PySem.W.exmOne W.K (.ref (W.T k)) c = some b
variable {W : Wd} {E : Sg → XK} {gb : GS'} {mt : Nat → Option Bool}
theorem gs_tryK (hK : X.K = W.K) (hs : X.stack = X.env :: X.outer) (hf : X.env.frame = some X.env.locals) (hex : X.ex = []) (hN : X.N.Nodup) (hi : X.N[i]? = some n) (hij : i ≠ j) (hln : X.env.scope.names.lookup n = some .local) (hj : X.N[j]? = some y) (hly : X.env.scope.names.lookup y = some .local) (hc : Names X x c) (tk : Tk X E) (hm : MtOk W c mt)
    (hb : ∀ (E' : Sg → XK) (pn : List (Addr × Obj)) (xe : Value → Shared → Prop), Tk (X.tr pn xe) E' → PassesOwn (model X.prog X.w) X.A X.env xe → GSs (X.tr pn xe) W E' body gb)
    (hdn : (n == ("__debug__" : Str)) = false := by decide) (hcn : (n == ("__classdict__" : Str)) = false := by decide) (hsw : swapsWith (.Name n pn') (some (.Name y py)) pa.line X.env = pure false := by rfl) :
    GS X W E (.Try body [.ExceptHandler (some (.Name x np)) (some n) [.Assign [.Name y py] (.Name n pn') pa] pos'] [] [] pos) (gTryK gb mt i j) := by
  refine mS (ps_try_kp (tb := fun Wx => tGS W (fun σ cls d H => Wx cls d σ H) gb) (i := i) (j := j) hs hf hex hN hi hln hj hly hc tk hdn hcn (fun Wx pn xe t po => hb (fun σ cls d H => Wx cls d σ H) pn xe t po) hsw) fun N σ H ⟨ξ, Γ, M, F, ρ, en, rp, po⟩ => ⟨ξ, Γ, M, F, ρ, en, rp, ?_⟩
  unfold gTryK at po
  cases er : gb Γ M with
  | nx g M1 => rw [er] at po; exact po
  | rt d M1 => rw [er] at po; exact po
  | bk g M1 => rw [er] at po; exact po
  | ct g M1 => rw [er] at po; exact po
  | no => rw [er] at po; exact po
  | ex k fs g M1 =>
    rw [er] at po
    intro σ1 dx F1 ρ1 H1 le p1 rp1 en1 xc
    cases em : mt k with
    | none => simp only [em] at po; exact po.elim
    | some b =>
      rw [hK]
      refine ⟨b, hm k b em, fun hb' a ha => ?_, fun hb' => ?_⟩
      · subst hb'
        simp only [em] at po
        have fa := rp1.free ha
        have e2 : Is W (upd F1 a (ExcO a (.ref (W.T k)) dx)) ρ1 (.exc k fs.isSome (fs.getD [])) (.ref a) := by
          simp only [Is]
          refine ⟨a, dx, rfl, upd_same, fun z => ?_, fun z => ?_⟩
          · cases fs with
            | none => exact ⟨xc, rfl⟩
            | some l => cases z
          · cases fs with
            | none => cases z
            | some l =>
              obtain ⟨w, fvs, e3, e4, e5, e6⟩ := xc
              exact ⟨w, fvs, e3, Le.new fa _ _ e4, e5, e6.mono (Le.new fa) (List.prefix_refl _)⟩
        refine po _ _ ρ1 _ (le.tr (Le.new fa)) p1 (rp1.new ha) ?_
        have en2 := en1.mono (Le.new (o := ExcO a (.ref (W.T k)) dx) fa) (List.prefix_refl ρ1)
        refine ⟨by simp [en2.len], fun q d hq => ?_⟩
        by_cases hqj : j = q
        · subst hqj
          have lj : j < g.length := by
            have := (List.getElem?_eq_some_iff.mp hq).1
            simpa using this
          rw [List.getElem?_set_self (by simpa using lj)] at hq
          cases hq
          refine ⟨.ref a, ?_, e2⟩
          rw [List.getElem?_set_ne hij, List.getElem?_set_self (by simpa [← en2.len] using lj)]
        · rw [List.getElem?_set_ne hqj] at hq
          by_cases hqi : i = q
          · subst hqi
            have li : i < g.length := by
              have := (List.getElem?_eq_some_iff.mp hq).1
              simpa using this
            rw [List.getElem?_set_self li] at hq; cases hq
          · rw [List.getElem?_set_ne hqi] at hq
            obtain ⟨v, e3, e4⟩ := en2.at_ q d hq
            exact ⟨v, by rw [List.getElem?_set_ne hqi, List.getElem?_set_ne hqj, List.getElem?_set_ne hqi]; exact e3, e4⟩
      · subst hb'
        simp only [em] at po
        exact po σ1 dx F1 ρ1 H1 le p1 rp1 en1 xc
end
end G

namespace G
open PySem PySem.Spec PyProof.Rows L2
/-! ### f(lambda: ..) -/
section
variable {X : Cx} {pins : List (Addr × Obj)} {σ : L2.St} {H : Hp} {s : Shared}
/-- the lambda is made; what becomes of the known heap is told -/
theorem lam_made {c P : Addr} {ps : Array Value} {params : Arguments} {body : Expr} {scope : Scope} {pos : Pos} {Z : Value → Shared → Prop} {Q : Value → Shared → Prop} (I : Inv X pins σ H s) (TB : LamX.TabB X.base X.mg c P) (hcode : X.env.code = .ref c)
    (hP : H P = some (.tbl ps)) (ht : TriplesOk ps.toList) (ha : ∀ (pos : Pos) (cv : Value), codeAmong pos ps.toList = some cv → ∃ c, cv = .ref c ∧ H c = some (LamX.CodeO c (X.env.qual ++ "<lambda>")))
    (hdef : defaultsOf params X.env = ([], [])) (hfree : ∀ y ∈ scope.names, y.2 = .free → ∃ c, X.env.cells.lookup y.1 = some c)
    (h : ∀ (f c' : Addr) (pm ctv : Value) (H1 : Hp) (s' : Shared), Inv X pins σ H1 s' →
      ((H1 = H ∧ codeAmong pos ps.toList = some (.ref c')) ∨ ∃ qs : Array Value, H1 = upd (upd H P (.tbl qs)) c' (LamX.CodeO c' (X.env.qual ++ "<lambda>")) ∧ H c' = none ∧ TriplesOk qs.toList ∧
        ∀ (pos : Pos) (cv : Value), codeAmong pos qs.toList = some cv → cv = .ref c' ∨ codeAmong pos ps.toList = some cv) →
      s'.heap.get? f = some (PySem.W.kla_obj "<lambda>" (X.env.qual ++ "<lambda>") params body scope (cloFrom X.env.cells scope.names []) pm c' ctv) → H1 f = none → f ∉ frs X.stack → Q (.ref f) s') :
    wpAny (model X.prog X.w) X.A (eval (.Lambda params body scope pos) X.env) Q Z s := by
  refine PySem.W.kla_eval hdef ?_
  have bP : s.heap.BuiltinsAt X.mg P := TB.bm.keeps I.bk
  have hP' : s.heap.get? P = some { cls := .none, data := .fields ps } := I.hok P _ hP
  have nofr : ∀ f, s.heap.objs.size ≤ f → f ∉ frs X.stack := fun f hf z => by
    rcases List.mem_cons.mp (I.stkSub _ z) with e | e
    · have h1 := I.lt
      rw [← e] at h1
      exact Nat.lt_irrefl _ (Nat.lt_of_lt_of_le h1 hf)
    · exact I.nofs hf e
  cases hc : codeAmong pos ps.toList with
  | none =>
    refine PySem.W.kla_makeFunction (mg := X.mg) (c := c) (P := P) (ps := ps) (closure_ok hfree) I.ok.glob (I.mod.glob.keeps I.bk) hcode (TB.code.keeps I.bk) hP' ht hc TB.gP bP fun c' ctv h' tk hx hge hlt hrec htb => ?_
    obtain ⟨c2, oc, vs, t, e2, hoc, hd, hv⟩ := hrec
    cases e2
    have hsz : s.heap.objs.size ≤ h'.objs.size := Nat.le_trans hge (Nat.le_of_lt hlt)
    have nC : H c' = none := I.hok.fresh hge
    have I1 := LamX.inv_table (t' := tk) (more := #[rawInt pos.line, rawInt pos.col, .ref c']) (h' := h'.push (PySem.W.kla_obj "<lambda>" (X.env.qual ++ "<lambda>") params body scope (cloFrom X.env.cells scope.names []) ((X.mg "__name__").getD .none) c' ctv)) I hP
      (fun b o hb e => Heap.get?_push_of_some _ (hx b o hb e)) (Heap.get?_push_of_some _ htb) hge ⟨oc, vs, t, Heap.get?_push_of_some _ hoc, hd, hv⟩
    have eL : (ps ++ #[rawInt pos.line, rawInt pos.col, .ref c']).toList = ps.toList ++ [rawInt pos.line, rawInt pos.col, .ref c'] := by simp
    refine h h'.objs.size c' ((X.mg "__name__").getD .none) ctv _ _ I1 (.inr ⟨_, rfl, nC, by rw [eL]; exact PySem.TriplesOk_snoc _ _ _ _ ht, fun p' cv hcv => ?_⟩) (Heap.get?_push_size _ rfl) ?_ (nofr _ hsz)
    · rw [eL] at hcv
      rcases LamX.among_app _ ht hcv with z | z
      · exact .inr z
      · exact .inl z
    · have n1 : h'.objs.size ≠ c' := Nat.ne_of_gt hlt
      have n2 : h'.objs.size ≠ P := Nat.ne_of_gt (Nat.lt_of_lt_of_le (Heap.lt_size hP') hsz)
      rw [upd_ne n1, upd_ne n2]
      exact I.hok.fresh hsz
  | some cv =>
    obtain ⟨c', e, hco⟩ := ha pos cv hc
    subst e
    refine PySem.W.kla_makeFunctionHit (mg := X.mg) (c := c) (P := P) (ps := ps) (closure_ok hfree) I.ok.glob (I.mod.glob.keeps I.bk) hcode (TB.code.keeps I.bk) hP' ht hc bP fun ctv h' tk hx hsz => ?_
    have I1 : Inv X pins σ H { s with heap := h'.push (PySem.W.kla_obj "<lambda>" (X.env.qual ++ "<lambda>") params body scope (cloFrom X.env.cells scope.names []) ((X.mg "__name__").getD .none) c' ctv), toks := tk } := I.kept fun b o e => Heap.get?_push_of_some _ (hx b o e)
    exact h h'.objs.size c' ((X.mg "__name__").getD .none) ctv H _ I1 (.inl ⟨rfl, hc⟩) (Heap.get?_push_size _ rfl) (I.hok.fresh hsz) (nofr _ hsz)
/-- the lambda is called, in the def that got it: what it raises comes with that def's slots -/
theorem pe_acts {CXg : CXT} {Eg : XK} {Ng : List Str} {qg : Str} {sg : Scope} {g f c' : Addr} {cdg pm ctv : Value} {params : Arguments} {body : Expr} {scope : Scope} {k i : Nat} {a : Str} {pn : List (Addr × Obj)} {xe : Value → Shared → Prop} {V : WX} {tb : XK → TE} {p1 p2 : Pos}
    (I : Inv X pins σ H s) (L : LamX.LamS X.env.scope scope) (hf : s.heap.get? f = some (PySem.W.kla_obj "<lambda>" (X.env.qual ++ "<lambda>") params body scope (cloFrom X.env.cells scope.names []) pm c' ctv)) (hfn : H f = none) (hfr : f ∉ frs X.stack)
    (hbind : bindArgs (PySem.W.kla_fn "<lambda>" (X.env.qual ++ "<lambda>") params body scope (cloFrom X.env.cells scope.names []) pm (.ref c') ctv) ⟨[], []⟩ = pure [])
    (tk : Takes ((cxOf CXg X.prog X.w X.K X.mg X.base Ng qg sg g cdg X.A X.stack s H Eg).tr pn xe) V) (hr : Room (k + 1) (X.A.deeper (envOfC qg sg s.heap.objs.size g cdg)))
    (hbody : ∀ (E : XK) (A : Around) (outer : List Env) (s : Shared) (H : Hp), A.guards = X.A.guards → Room k (A.deeper (LamX.lamEnv X scope s.heap.objs.size f c')) → PE (LamX.lamCx X A outer s H E scope f c') body (tb E))
    (hN : Ng[i]? = some a) (hv : Vis sg a) (hd : (a == ("__debug__" : Str)) = false := by decide) (hcd : (a == ("__classdict__" : Str)) = false := by decide) :
    PE ((cxOf CXg X.prog X.w X.K X.mg X.base Ng qg sg g cdg X.A X.stack s H Eg).tr pn xe) (.Call (.Name a p1) [] [] p2)
      (fun σZ HZ Q => σZ[i]? = some (some (.ref f)) ∧ HZ c' = some (LamX.CodeO c' (X.env.qual ++ "<lambda>")) ∧ ∃ E : XK, (∀ cls d H', E cls d H' → V cls d σZ H') ∧ tb E σ HZ Q) := by
  refine ⟨fun pinsZ sZ σZ HZ Q IZ h => ?_⟩
  obtain ⟨hs, hc, E, hE, ht⟩ := h
  refine wpAny_Call_Name_kw (thn ((pe_var (pos := p1) (i := i) hN hv hd hcd).run pinsZ sZ σZ HZ (fun v H1 => v = .ref f ∧ H1 = HZ) IZ ⟨.ref f, hs, rfl, rfl⟩) fun u s1 ⟨v, H1, I1, r1, q1⟩ => ?_)
  obtain ⟨ev, eH⟩ := q1
  subst ev
  rw [eH] at I1
  obtain rfl : u = Value.ref f := r1
  have of1 : s1.heap.get? f = some (PySem.W.kla_obj "<lambda>" (X.env.qual ++ "<lambda>") params body scope (cloFrom X.env.cells scope.names []) pm c' ctv) := I1.base.keep f _ hf hfn hfr (fun z => nomatch (show f ∈ ([] : List Addr) from z))
  refine PySem.W.callWith_F0 ⟨_, _, _, _, of1⟩ ?_
  obtain ⟨⟨oc, vs, t, hoc, hdc, hvc⟩, _, _⟩ := I1.hok c' _ hc
  have rc : codeAny (model X.prog X.w) (X.A.deeper (envOfC qg sg s.heap.objs.size g cdg)) (.call (.ref f) ⟨[], []⟩) (CR (L2.CX X.prog X.w) (envOfC qg sg s.heap.objs.size g cdg :: X.stack) X.prog X.w HZ s1 Q E) s1 := by
    refine PySem.W.kla_callFunE hr.depth of1 rfl L.co L.gen rfl ⟨c', oc, vs, t, rfl, hoc, hdc, hvc⟩ ?_
    rw [hbind]
    refine wpAny_pure (wpAny_newFunctionEnv (fun y hy => (L.own y hy).2) (fun y hy => absurd hy (by simp)) (fun h₁ hns hsb => ⟨I1.nolimit.fresh _ hsb, ?_⟩) L.kind)
    show codeAny _ _ (.expr body (LamX.lamEnv X scope s1.heap.objs.size f c')) _ _
    have kp : ∀ b o, s1.heap.get? b = some o → h₁.get? b = some o := fun b o e => hsb.extBut b o (Nat.ne_of_lt (Heap.lt_size e)) (Heap.get?_push_of_some _ e)
    have un : Un (frs X.stack) [] H HZ s.heap s1.heap := I1.base
    have J : Inv (LamX.lamCx X (X.A.deeper (envOfC qg sg s.heap.objs.size g cdg)) (envOfC qg sg s.heap.objs.size g cdg :: X.stack) s1 HZ E scope f c') [] σ HZ { s1 with heap := h₁, toks := s1.toks + ([] : List (Str × Value)).length } :=
      LamX.lam_start2 I L I1.env0 hr.hd un hns kp
    refine PySem.W.kla_codeExpr (wpAny_mono ((hbody E (X.A.deeper (envOfC qg sg s.heap.objs.size g cdg)) _ s1 HZ rfl (hr.deeper _)).run [] _ _ HZ Q J ht) (fun v s' hq => ?_) fun e s' hq => hq)
    obtain ⟨w', H', J', rv, q⟩ := hq
    exact ⟨w', H', J'.os, J'.bare, J'.base, J'.hok, rv, q⟩
  refine wpAny_call (codeAny_mono rc fun r s' hq => ?_)
  cases r with
  | error e => exact tk _ _ (XE.of_call I1 (fun cls d H' z => hE cls d H' z) hq)
  | ok fl =>
    cases fl with
    | ret u => exact I1.after hq
    | next => exact False.elim hq
    | brk => exact False.elim hq
    | cont => exact False.elim hq
end
end G

namespace G
open PySem PySem.Spec PyProof.Rows L2
section
variable {W : Wd} {ξ : Xi} {M : Stor} {F H : Hp} {ρ : List Addr}
/-- a table of code objects has grown -/
theorem Rp.table (rp : Rp W ξ M F H ρ) {P c' : Addr} {q : Str} {ps qs : Array Value} (hm : (P, q) ∈ W.tb) (hu : ∀ p ∈ W.tb, p.1 = P → p.2 = q) (hP : H P = some (.tbl ps)) (hc : H c' = none) (ht : TriplesOk qs.toList)
    (ha : ∀ (pos : Pos) (cv : Value), codeAmong pos qs.toList = some cv → cv = .ref c' ∨ codeAmong pos ps.toList = some cv) :
    Rp W ξ M (upd F c' (LamX.CodeO c' q)) (upd (upd H P (.tbl qs)) c' (LamX.CodeO c' q)) ρ := by
  have fc := rp.free hc
  obtain ⟨p1, p2, p3, ps', p4, p5, p6⟩ := rp.tb _ hm
  have nPc : P ≠ c' := ne_of_none hP hc
  have le : Le F (upd F c' (LamX.CodeO c' q)) := Le.new fc
  refine ⟨fun a o e => ?_, rp.len, rp.nd, fun i m a em ea => ?_, fun r hr => ?_, fun r hr => ?_⟩
  · by_cases hac : a = c'
    · subst hac; rw [upd_same] at e ⊢; exact e
    · rw [upd_ne hac] at e ⊢
      rw [upd_ne (fun z => by rw [z, p3] at e; cases e)]
      exact rp.sub _ _ e
  · obtain ⟨q1, q2⟩ := rp.obj i m a em ea
    have n1 : a ≠ c' := rp.ne hc ea
    have n2 : a ≠ P := fun z => p1 (z ▸ List.mem_of_getElem? ea)
    rw [upd_ne n1, upd_ne n1, upd_ne n2]
    exact ⟨q1, q2.mono le (List.prefix_refl _)⟩
  · obtain ⟨q1, q2, q3⟩ := rp.xt r hr
    have n1 : r.1 ≠ c' := ne_of_none q1 hc
    rw [upd_ne n1, upd_ne n1, upd_ne (p2 r hr)]
    exact ⟨q1, q2, q3⟩
  · obtain ⟨r1, r2, r3, rs, r4, r5, r6⟩ := rp.tb r hr
    have n1 : r.1 ≠ c' := ne_of_none r4 hc
    rw [upd_ne n1, upd_ne n1]
    refine ⟨r1, r2, r3, ?_⟩
    by_cases hr1 : r.1 = P
    · have e2 := hu r hr hr1
      rw [hr1, upd_same]
      refine ⟨qs, rfl, ht, fun pos cv z => ?_⟩
      rw [e2]
      rcases ha pos cv z with z' | z'
      · exact ⟨c', z', upd_same⟩
      · have hp' : ps = ps' := by
          have z0 : H P = some (.tbl ps') := p4
          rw [hP] at z0
          exact HO.tbl.inj (Option.some.inj z0)
        subst hp'
        obtain ⟨c, c1, c2⟩ := p6 pos cv z'
        exact ⟨c, c1, le _ _ c2⟩
    · rw [upd_ne hr1]
      exact ⟨rs, r4, r5, fun pos cv z => let ⟨c, c1, c2⟩ := r6 pos cv z; ⟨c, c1, le _ _ c2⟩⟩
end
/-! ### the data of a lambda -/
def capD (Γ : Gam) : List D := Γ.map fun o => o.getD .non
def capV : Gam → Sg → List V
  | [], _ => []
  | none :: Γ, σ => .non :: capV Γ σ.tail
  | some _ :: Γ, σ => ((σ.head?.getD none).getD .non) :: capV Γ σ.tail
theorem En.tail {W : Wd} {o : Option D} {Γ : Gam} {u : Option V} {σ : Sg} {F : Hp} {ρ : List Addr} (h : En W (o :: Γ) (u :: σ) F ρ) : En W Γ σ F ρ :=
  ⟨by simpa using h.len, fun i d q => h.at_ (i + 1) d (by simpa using q)⟩
theorem cap_is {W : Wd} {F : Hp} {ρ : List Addr} : ∀ {Γ : Gam} {σ : Sg}, En W Γ σ F ρ → IsL W F ρ (capD Γ) (capV Γ σ)
  | [], _, _ => IsL.nil
  | o :: Γ, [], h => by have := h.len; simp at this
  | none :: Γ, u :: σ, h => IsL.cons (by simp only [Option.getD, Is]) (cap_is h.tail)
  | some d :: Γ, u :: σ, h => by
    obtain ⟨v, e, is⟩ := h.at_ 0 d rfl
    simp at e; subst e
    exact IsL.cons is (cap_is h.tail)
theorem cap_en {W : Wd} {F F' : Hp} {ρ ρ' : List Addr} : ∀ {Γ : Gam} {σ : Sg}, En W Γ σ F ρ → IsL W F' ρ' (capD Γ) (capV Γ σ) → En W Γ σ F' ρ'
  | [], σ, h, _ => ⟨h.len, fun i d q => by simp at q⟩
  | o :: Γ, [], h, _ => by have := h.len; simp at this
  | o :: Γ, u :: σ, h, k => by
    have k' : ∃ v r, capV (o :: Γ) (u :: σ) = v :: r ∧ Is W F' ρ' (o.getD .non) v ∧ IsL W F' ρ' (capD Γ) r := IsL.cons_iff.mp k
    obtain ⟨v, r, e, is, rest⟩ := k'
    have er : r = capV Γ σ := by cases o <;> (simp only [capV, List.cons.injEq] at e; exact e.2.symm)
    subst er
    have t := cap_en h.tail rest
    refine ⟨h.len, fun i d q => ?_⟩
    cases i with
    | zero =>
      simp at q; subst q
      obtain ⟨v', e', _⟩ := h.at_ 0 d rfl
      simp at e'; subst e'
      simp only [capV, List.head?_cons, Option.getD_some, List.cons.injEq] at e
      exact ⟨v', rfl, by rw [e.1]; exact is⟩
    | succ i => exact t.at_ i d (by simpa using q)
open Classical in
/-- the lambda is called -/
noncomputable def gAct (i : Nat) (Y : D) (th : Stor → R D) : GE' := fun Γ M => if Γ[i]? = some (some Y) then th M else .no
/-- the def at g: what it does with a lambda, hF -/
def LamDef (P : Program) (w : World) (W : Wd) (mg : Str → Option Value) (base : Heap) (Ng : List Str) (qg : Str) (sg : Scope) (g : Addr) (bg : List Stmt) (a : Str) (k : Nat) (gb : D → (Stor → R D) → GS') : Prop :=
  ∀ (cdv : Value) (A : Around) (outer : List Env) (s : Shared) (H : Hp) (Z : XK) (Y : D) (th : Stor → R D), Room k (A.deeper (envOfC qg sg s.heap.objs.size g cdv)) → A.guards = some [] →
    (∀ (E' : Sg → XK) (pn : List (Addr × Obj)) (xe : Value → Shared → Prop) (p1 p2 : Pos), Tk ((cxOf (L2.CX P w) P w W.K mg base Ng qg sg g cdv A outer s H Z).tr pn xe) E' →
      GE ((cxOf (L2.CX P w) P w W.K mg base Ng qg sg g cdv A outer s H Z).tr pn xe) W E' (.Call (.Name a p1) [] [] p2) (gAct 0 Y th)) →
    GSs (cxOf (L2.CX P w) P w W.K mg base Ng qg sg g cdv A outer s H Z) W (fun _ => Z) bg (gb Y th)
/-- run from its start -/
def hLam (N : Nat) (gb : D → (Stor → R D) → GS') (Y : D) (th : Stor → R D) (M : Stor) : R D := outS (gb Y th (some Y :: List.replicate (N - 1) none) M)
open Classical in
noncomputable def gLam (N : Nat) (gb : D → (Stor → R D) → GS') (body : GE') : GE' := fun Γ M =>
  if ∀ Y, hLam N gb Y (body Γ) M = hLam N gb .non (body Γ) M then frz M (hLam N gb .non (body Γ) M) else .no
section
variable {X : Cx} {W : Wd} {E : Sg → XK}
theorem ge_lam {x a : Str} {g c P : Addr} {k : Nat} {pg : Arguments} {bg : List Stmt} {sg : Scope} {fd : FuncData} {Ng : List Str} {params : Arguments} {body : Expr} {scope : Scope} {gbody : GE'} {gb : D → (Stor → R D) → GS'} {p lpos pos : Pos}
    (hK : X.K = W.K) (hg : Gl X x) (hm : X.mg x = some (.ref g)) (hk : PySem.W.keepIn X.K (.ref g) = true) (FD : FunD W.K x x pg bg sg [] [] g fd) (hbd : Binds W.K fd [a] []) (Sg : FnScope Ng [a] sg) (hNg : Ng[0]? = some a) (hva : Vis sg a)
    (LD : LamDef X.prog X.w W X.mg X.base Ng x sg g bg a (k + 1) gb)
    (TB : LamX.TabB X.base X.mg c P) (hcode : X.env.code = .ref c) (hmT : (P, X.env.qual ++ "<lambda>") ∈ W.tb) (hu : ∀ p ∈ W.tb, p.1 = P → p.2 = X.env.qual ++ "<lambda>") (hr : Room (k + 2) X.A) (gd : X.A.guards = some []) (L : LamX.LamS X.env.scope scope) (hx : Pass X E)
    (hdef : defaultsOf params X.env = ([], []))
    (hbind : ∀ (q : Str) (cl : List (Str × Addr)) (pm cv ctv : Value), bindArgs (PySem.W.kla_fn "<lambda>" q params body scope cl pm cv ctv) ⟨[], []⟩ = pure [])
    (hbody : ∀ (A : Around) (outer : List Env) (s : Shared) (H : Hp) (E' : XK) (f c' : Addr), Room k (A.deeper (LamX.lamEnv X scope s.heap.objs.size f c')) → A.guards = some [] → GE (LamX.lamCx X A outer s H E' scope f c') W (fun _ => E') body gbody)
    (hdb : (x == ("__debug__" : Str)) = false := by decide) (hd : (a == ("__debug__" : Str)) = false := by decide) (hcd : (a == ("__classdict__" : Str)) = false := by decide) :
    GE X W E (.Call (.Name x p) [.Lambda params body scope lpos] [] pos) (gLam Ng.length gb gbody) := by
  refine ⟨fun pins s σ H Q I ⟨ξ, Γ, M, F, ρ, en, rp, po⟩ => ?_⟩
  obtain ⟨oc, od, dV, kV, doc, pm, an, cdv, ct, osl, rfl, lk, hcg, _, _⟩ := FD.ex
  obtain ⟨t1, t2, t3, ps, t4, t5, t6⟩ := rp.tb _ hmT
  refine wpAny_Call_Name_kw (ld_glob I hg hm ?_ hdb)
  refine PySem.W.callWith_K (h₀ := X.base) I.ok.mod.kin hk ?_ (by rfl) (by rfl)
  show wpAny _ _ (spliced ((false, eval (.Lambda params body scope lpos) X.env) :: backTo pos (starEach [] X.env))) _ _ s
  refine Calls.spliced_cons (lam_made I TB hcode t4 t5 (fun pos cv z => let ⟨c, c1, c2⟩ := t6 pos cv z; ⟨c, c1, rp.sub _ _ c2⟩) hdef (L.has I.ok) fun f c' pm' ctv H1 s' I1 alt hf hfn hfr => ?_)
  refine Calls.spliced_nil ⟨I1.kIn, ?_⟩
  have nw : ∃ F1, Le F F1 ∧ F1 c' = some (LamX.CodeO c' (X.env.qual ++ "<lambda>")) ∧ Rp W ξ M F1 H1 ρ := by
    rcases alt with ⟨rfl, hc'⟩ | ⟨qs, rfl, hc', q1, q2⟩
    · obtain ⟨c2, e2, e3⟩ := t6 _ _ hc'
      cases e2
      exact ⟨F, Le.rfl', e3, rp⟩
    · exact ⟨_, Le.new (rp.free hc'), upd_same, rp.table hmT hu t4 hc' q1 q2⟩
  obtain ⟨F1, le1, fc, rp1⟩ := nw
  have isc := cap_is (en.mono le1 (List.prefix_refl _))
  have isY : Is W F1 ρ (.lam f c' (X.env.qual ++ "<lambda>") (capV Γ σ) (capD Γ)) (.ref f) := by
    simp only [Is]; exact ⟨trivial, fc, isc⟩
  have po' : Po W ξ (Is W) F ρ (hLam Ng.length gb (.lam f c' (X.env.qual ++ "<lambda>") (capV Γ σ) (capD Γ)) (gbody Γ) M) Q (E σ) := by
    unfold gLam at po
    split at po
    · rename_i hY
      rw [hY]
      exact Po.frz rp po
    · exact po.elim
  have rc : codeAny (model X.prog X.w) X.A (.call (.ref g) ⟨[.ref f], []⟩) (CR (L2.CX X.prog X.w) X.stack X.prog X.w H1 s' Q (E σ)) s' := by
    have e0 := I1.env0
    refine LamX.run_ofS (N := Ng) (ps := [a]) (us := [.ref f]) (vs := [.ref f]) (by rw [hK]; exact lk) (by rw [hK]; exact hcg) Sg hr e0 (hbd s' [.ref f] (by rw [← hK]; exact I1.kIn) rfl) (.cons rfl .nil) rfl fun hr' => ?_
    rw [hK] 
    refine ⟨_, LD cdv X.A X.stack s' H1 (E σ) (.lam f c' (X.env.qual ++ "<lambda>") (capV Γ σ) (capD Γ)) (gbody Γ) hr' gd (fun E' pn xe p1 p2 tk => ?_), ξ, _, M, F1, ρ, en_start (N := Ng) (IsL.cons isY IsL.nil), rp1, ?_⟩
    · rw [← hK] at tk ⊢
      refine mE (pe_acts (i := 0) (V := fun cls d σ H => E' σ cls d H) (tb := fun Z => tG W (fun _ => Z) gbody) I1 L hf hfn hfr (hbind _ _ _ _ _) tk hr' (fun Z A outer s H hgA hR => hbody A outer s H Z f c' hR (hgA.trans gd)) hNg hva hd hcd) ?_
      rintro σZ HZ Q' ⟨ξ', Γ', M', F', ρ', en', rp', po2⟩
      unfold gAct at po2
      split at po2
      · rename_i eY
        obtain ⟨v, e1, e2⟩ := en'.at_ 0 _ eY
        simp only [Is] at e2
        obtain ⟨rfl, e3, e4⟩ := e2
        exact ⟨e1, rp'.sub _ _ e3, E' σZ, fun cls d H' z => z, ξ', Γ, M', F', ρ', cap_en en e4, rp', po2⟩
      · exact po2.elim
    · have po3 := Po.mono po' le1 (List.prefix_refl ρ)
      unfold hLam at po3
      show PoS W ξ F1 ρ (gb _ _ (some _ :: List.replicate (Ng.length - 1) none) M) _ _
      cases er : gb (.lam f c' (X.env.qual ++ "<lambda>") (capV Γ σ) (capD Γ)) (gbody Γ) (some (.lam f c' (X.env.qual ++ "<lambda>") (capV Γ σ) (capD Γ)) :: List.replicate (Ng.length - 1) none) M with
      | nx g' M1 => rw [er] at po3; exact fun σ' F2 ρ2 H2 le p rp2 en2 => po3 .non F2 ρ2 H2 le p rp2 (by simp only [Is])
      | rt d M1 => rw [er] at po3; exact po3
      | bk g' M1 => rw [er] at po3; exact po3.elim
      | ct g' M1 => rw [er] at po3; exact po3.elim
      | ex c fs g' M1 => rw [er] at po3; exact fun σ' dx F2 ρ2 H2 le p rp2 en2 xc => po3 dx F2 ρ2 H2 le p rp2 xc
      | no => rw [er] at po3; exact po3.elim
  refine wpAny_call (codeAny_mono rc fun r s2 hq => ?_)
  cases r with
  | error e => exact hx σ pins _ _ e s2 I1 hq
  | ok fl =>
    cases fl with
    | ret u => exact I1.after hq
    | next => exact False.elim hq
    | brk => exact False.elim hq
    | cont => exact False.elim hq
end
end G

namespace G
open PySem PySem.Spec PyProof.Rows L2
/-! ### the law's own call, with tables of code objects -/
theorem law_gt {P : Program} {w : World} {W : Wd} {mg mb : Str → Option Value} {k : Nat} {fa a : Addr} {cs : List (Addr × Addr)} {fd : FuncData} {x : Str} {g : List D → Stor → R D} {st : Shared} {us : List Value} {zs : List Int}
    (kin : W.K.In st.heap) (glob : st.heap.Ns mainGlobals mg) (blt : st.heap.Ns builtinsNs mb) (bltv : ∀ y : Str, y ≠ "__name__" → mb y = bootBuiltins y) (lim : st.heap.NoLimit) (nogen : st.gens = #[])
    (hT : ∀ p ∈ cs, st.heap.get? p.2 = some { cls := .none, data := .fields #[] }) (nT : ∀ p ∈ cs, W.K.lookup p.2 = none) (C : ∀ p ∈ cs, PySem.W.CodeHd st.heap p.1 p.2)
    (hbm : ∃ (bm : Addr) (ob : Obj), mg "__builtins__" = some (.ref bm) ∧ bm ≠ builtinsNs ∧ st.heap.get? bm = some ob ∧ ob.cls = .type "module" ∧ ob.dict = some builtinsNs ∧ ob.data = .plain)
    (wtb : ∀ q ∈ W.tb, ∃ p ∈ cs, p.2 = q.1)
    (scr : st.heap.get? a = some { cls := .type "list", data := .seq us.toArray }) (hin : IntsAre us zs) (few : zs.length ≤ sizeLine) (room : Room k callerA)
    (fn : ∀ base : Heap, W.K.In base → base.Ns mainGlobals mg → (∀ p ∈ cs, LamX.TabB base mg p.1 p.2) → FnG P w W mg base k fa fd [x] g) (bind : ∀ (s : Shared) (u : Value), BindsTo s fd ⟨[u], []⟩ [(x, u)])
    (good : ∃ M, g [.lck (zs.map D.int)] [] = .ok (.bl true) M) :
    codeAny (model P w) callerA (.call (.ref fa) ⟨[.ref a], []⟩) (fun r s' => r = .ok (.ret (.bool true)) ∧ OldK st.heap s'.heap ∧ s'.os = st.os ∧ AllBare s'.gens) st := by
  obtain ⟨Mz, good⟩ := good
  have vals : Vals (zs.map V.int) us := vals_ints hin
  have usl : us.length = zs.length := hin.length
  have isT : ∀ b : Addr, b ∈ cs.map (·.2) → st.heap.get? b = some { cls := .none, data := .fields #[] } := by
    intro b hb
    obtain ⟨p, hp, rfl⟩ := List.mem_map.mp hb
    exact hT p hp
  have aT : a ∉ cs.map (·.2) := by
    intro z
    have q := isT a z
    rw [scr] at q
    have q' : Data.seq us.toArray _ = Data.fields #[] := congrArg Obj.data (Option.some.inj q)
    cases q'
  have inT : ∀ p ∈ cs, p.2 ∈ cs.map (·.2) := fun p hp => List.mem_map.mpr ⟨p, hp, rfl⟩
  -- what is tracked: the script, and the tables
  have main : ∀ H : Hp, (∀ b, b ∈ cs.map (·.2) → H b = some (.tbl #[])) → (∀ b, H b = none ∨ b ∈ cs.map (·.2) ∨ ∃ o xs, H b = some (.frz o (.lst xs))) → SqL W.K (fun b => if b ∈ cs.map (·.2) then none else H b) a (zs.map V.int) → HOk P w H st.heap →
      (∀ b, H b ≠ none → b = a ∨ b ∈ cs.map (·.2)) → (H a ≠ none → W.K.lookup a = none) →
      codeAny (model P w) callerA (.call (.ref fa) ⟨[.ref a], []⟩) (fun r s' => r = .ok (.ret (.bool true)) ∧ OldK st.heap s'.heap ∧ s'.os = st.os ∧ AllBare s'.gens) st := by
    intro H hH only sq hok alone free
    have stays : ∀ {b : Addr} {ob : Obj}, st.heap.get? b = some ob → H b = none → (hidT st.heap H).get? b = some ob := fun q n => hidT_get q n
    have plain : ∀ {b : Addr} {ob : Obj}, st.heap.get? b = some ob → (∀ vs n, ob.data ≠ .seq vs n) → ob.data ≠ .fields #[] → H b = none := by
      intro b ob q h1 h2
      cases hb : H b with
      | none => rfl
      | some z =>
        rcases alone b (by rw [hb]; exact fun h => nomatch h) with rfl | ht
        · rw [scr] at q
          cases q
          exact absurd rfl (h1 _ _)
        · rw [isT b ht] at q
          cases q
          exact absurd rfl h2
    have nodict : ∀ {b : Addr} {ob : Obj} {es : Array DictEntry} {n : Nat}, st.heap.get? b = some ob → ob.data = .dict es n → H b = none := by
      intro b ob es n q dd
      exact plain q (fun vs m z => by rw [dd] at z; cases z) (fun z => by rw [dd] at z; cases z)
    have ns : ∀ {b : Addr} {m : Str → Option Value}, st.heap.Ns b m → (hidT st.heap H).Ns b m := by
      rintro b m ⟨ob, es, n, q, dd, r⟩
      exact ⟨ob, es, n, stays q (nodict q dd), dd, r⟩
    have kin' : W.K.In (hidT st.heap H) := by
      intro b ob q
      refine stays (kin b ob q) ?_
      cases hb : H b with
      | none => rfl
      | some z =>
        rcases alone b (by rw [hb]; exact fun h => nomatch h) with rfl | ht
        · rw [free (by rw [hb]; exact fun h => nomatch h)] at q
          cases q
        · obtain ⟨p, hp, rfl⟩ := List.mem_map.mp ht
          rw [nT p hp] at q
          cases q
    have md : Mod W.K mg (hidT st.heap H) := by
      obtain ⟨mc, l1, l2⟩ := lim
      exact ⟨kin', ns glob, ⟨mb, ns blt, bltv⟩, ⟨mc, ns l1, l2⟩⟩
    have tabs : ∀ p ∈ cs, LamX.TabB (hidT st.heap H) mg p.1 p.2 := by
      intro p hp
      have tp := hT p hp
      obtain ⟨o, fs, file, tf, flags, tg, inF, text, tt, e1, r1, r2, r3, r4, r5, r6, r7, r8, hne⟩ := C p hp
      obtain ⟨bm, ob, b1, b2, b3, b4, b5, b6⟩ := hbm
      have nG : bm ≠ mainGlobals := by
        rintro rfl
        obtain ⟨o, es, ep, e, hd, _⟩ := glob
        rw [e] at b3
        cases b3
        rw [hd] at b6
        cases b6
      have nP : bm ≠ p.2 := by
        rintro rfl
        rw [tp] at b3
        cases b3
        cases b6
      refine ⟨⟨o, fs, file, tf, flags, tg, inF, text, tt, stays e1 (plain e1 (fun vs n z => ?_) fun z => ?_), r1, r2, r3, r4, r5, r6, r7, r8, hne⟩, ⟨bm, ob, b1, b2, nG, nP, stays b3 (plain b3 (fun vs n z => ?_) fun z => ?_), b4, b5, b6⟩, fun z => ?_⟩
      · rw [r2] at z; cases z
      · rw [r2] at z
        cases z
        simp at r3
      · rw [b6] at z; cases z
      · rw [b6] at z; cases z
      · obtain ⟨o, es, ep, e, hd, _⟩ := glob
        rw [z, tp] at e
        cases e
        cases hd
    have env : Env0 P w W.K mg (hidT st.heap H) callerA [] st H := by
      refine ⟨rfl, md, fun b ob q => of_hidT q, Nat.le_of_eq (hidT_size _ _), trivial, fun b hb => ?_, hok, .of_eq nogen⟩
      have hb' : b ∈ ([] : List Addr) := hb
      exact nomatch hb'
    have rp : Rp W [] [] (fun b => if b ∈ cs.map (·.2) then none else H b) H [] := by
      refine ⟨fun b o q => ?_, rfl, List.nodup_nil, fun i m b em _ => by simp at em, fun q hq => (nomatch hq), fun q hq => ?_⟩
      · by_cases hb : b ∈ cs.map (·.2)
        · simp only [hb, if_true] at q; cases q
        · simp only [hb, if_false] at q; exact q
      · obtain ⟨p, hp, e⟩ := wtb q hq
        have ht : q.1 ∈ cs.map (·.2) := by rw [← e]; exact inT p hp
        refine ⟨by simp, fun r hr => (nomatch hr), if_pos ht, #[], hH _ ht, True.intro, fun pos cv z => ?_⟩
        have z' : codeAmong pos [] = some cv := z
        simp [codeAmong] at z'
    have sp : spG W g [.ref a] H (fun v _ => v = .bl true) fun _ _ _ => False := by
      refine ⟨[], [.lck (zs.map D.int)], [], _, [], IsL.cons ?_ IsL.nil, rp, ?_⟩
      · simp only [Is]; exact ⟨a, _, rfl, sq, isL_ints zs⟩
      · rw [good]; exact fun v F' ρ' H' _ _ _ is => by simpa only [Is] using is
    refine codeAny_mono ((fn _ kin' (ns glob) tabs).run callerA [] st H ⟨[.ref a], []⟩ [.ref a] [.ref a] _ _ room rfl env (bind st (.ref a)) (.cons rfl .nil) sp) ?_
    intro res s' out
    cases res with
    | error er => obtain ⟨_, _, _, _, _, _, _, _, _, _, _, _, z⟩ := out; exact z.elim
    | ok fl =>
      cases fl with
      | next => exact out.elim
      | brk => exact out.elim
      | cont => exact out.elim
      | ret u =>
        obtain ⟨v, H', os, bare, un, hok', rel, q⟩ := out
        obtain rfl : v = .bl true := q
        obtain rfl : u = Value.bool true := rel
        have key : ∀ b o, b ∉ cs.map (·.2) → st.heap.get? b = some o → s'.heap.get? b = some o := by
          intro b o nb e
          rcases only b with h0 | h0 | ⟨oz, xs, h0⟩
          · exact un.keep b o e h0 (fun z => by have z' : b ∈ ([] : List Addr) := z; exact nomatch z') (fun z => nomatch z)
          · exact absurd h0 nb
          · obtain ⟨e1, _⟩ := hok b _ h0
            obtain ⟨e2, _⟩ := hok' b _ (un.frzs b oz _ h0)
            rw [e] at e1
            cases e1
            exact e2
        have grown : ∀ b, b ∈ cs.map (·.2) → ∃ more : Array Value, s'.heap.get? b = some { cls := .none, data := .fields more } := by
          intro b hb
          obtain ⟨more, z⟩ := un.tbls b #[] (hH b hb)
          exact ⟨_, hok' b _ z⟩
        refine ⟨rfl, ⟨fun b o e => ?_, fun b o e => ?_⟩, os, bare⟩
        · by_cases hb : b ∈ cs.map (·.2)
          · obtain ⟨more, hm⟩ := grown b hb
            obtain ⟨p, hp, rfl⟩ := List.mem_map.mp hb
            rw [hT p hp] at e
            cases e
            exact .inr (.inl ⟨((C p hp).tab (hT p hp)).isCodeTable, rfl, #[], more, rfl, by rw [Array.empty_append]; exact hm⟩)
          · exact .inl (key b o hb e)
        · by_cases hb : b ∈ cs.map (·.2)
          · obtain ⟨more, hm⟩ := grown b hb
            exact ⟨_, hm⟩
          · exact ⟨o, key b o hb e⟩
  cases hk : W.K.lookup a with
  | some ob =>
    have q := kin a ob hk
    rw [scr] at q
    cases q
    refine main (fun b => if b ∈ cs.map (·.2) then some (.tbl #[]) else none) (fun b hb => if_pos hb) (fun b => ?_) (Or.inr ⟨_, us.toArray, _, hk, rfl, rfl, rfl, ?_, ?_⟩) (fun b u z => ?_) (fun b z => ?_) (fun z => absurd (if_neg aT) z)
    · by_cases hb : b ∈ cs.map (·.2)
      · exact Or.inr (Or.inl hb)
      · exact Or.inl (if_neg hb)
    · rw [List.size_toArray, usl]; exact few
    · simpa using vals
    · by_cases hb : b ∈ cs.map (·.2)
      · have z' := (if_pos hb).symm.trans z
        cases z'
        exact isT b hb
      · have z' := (if_neg hb).symm.trans z
        cases z'
    · by_cases hb : b ∈ cs.map (·.2)
      · exact Or.inr hb
      · exact absurd (if_neg hb) z
  | none =>
    let lock : HO := .frz { cls := .type "list", data := .seq us.toArray } (.lst (zs.map V.int))
    refine main (fun b => if b = a then some lock else if b ∈ cs.map (·.2) then some (.tbl #[]) else none) (fun b hb => ?_) (fun b => ?_) (Or.inl (Or.inr ⟨{ cls := .type "list", data := .seq us.toArray }, ?_⟩)) (fun b u z => ?_) (fun b z => ?_) (fun _ => hk)
    · have : ¬ b = a := fun e => aT (e ▸ hb)
      exact (if_neg this).trans (if_pos hb)
    · by_cases hb : b = a
      · exact Or.inr (Or.inr ⟨_, _, if_pos hb⟩)
      · by_cases hb2 : b ∈ cs.map (·.2)
        · exact Or.inr (Or.inl hb2)
        · exact Or.inl ((if_neg hb).trans (if_neg hb2))
    · show (if a ∈ cs.map (·.2) then none else if a = a then some lock else _) = _
      rw [if_neg aT, if_pos rfl]
    · by_cases hb : b = a
      · have z' := (if_pos hb).symm.trans z
        cases z'
        subst hb
        exact ⟨scr, by rw [List.length_map]; exact few, us, _, vals, scr⟩
      · have z1 := (if_neg hb).symm.trans z
        by_cases hb2 : b ∈ cs.map (·.2)
        · have z' := (if_pos hb2).symm.trans z1
          cases z'
          exact isT b hb2
        · have z' := (if_neg hb2).symm.trans z1
          cases z'
    · by_cases hb : b = a
      · exact Or.inl hb
      · by_cases hb2 : b ∈ cs.map (·.2)
        · exact Or.inr hb2
        · exact absurd ((if_neg hb).trans (if_neg hb2)) z
theorem walk_gt {l : PySem.W.OpenLaw} {n k : Nat} {q : Program} {loose : List Str} {XP : (Str → Option Value) → Heap → Prop} {YP : World → Heap → Prop} {d : DefRec} {x : Str}
    (hn : l.most = some n) (hn2 : n ≤ sizeLine) (hdf : d.params.defaults = []) (room : Room k callerA)
    (F : ∀ (w : World) (mg mb : Str → Option Value) (fa : Addr) (h : Heap) (lo : List Str) (mean : ExcName → Option Value), YP w h → Top q lo mean mg mb h → mg d.name = some (.ref fa) →
      ∃ (W : Wd) (cs : List (Addr × Addr)) (fd : FuncData) (g : List D → Stor → R D), W.K.In h ∧ (∀ p ∈ cs, h.get? p.2 = some { cls := .none, data := .fields #[] }) ∧ (∀ p ∈ cs, W.K.lookup p.2 = none) ∧ (∀ p ∈ cs, PySem.W.CodeHd h p.1 p.2) ∧ (∀ q ∈ W.tb, ∃ p ∈ cs, p.2 = q.1) ∧
        (∀ (s : Shared) (u : Value), BindsTo s fd ⟨[u], []⟩ [(x, u)]) ∧
        (∀ zs : List Int, zs.length ≤ n → ∃ M, g [.lck (zs.map D.int)] [] = .ok (.bl true) M) ∧
        ∀ base : Heap, W.K.In base → base.Ns mainGlobals mg → (∀ p ∈ cs, LamX.TabB base mg p.1 p.2) → FnG l.prog w W mg base k fa fd [x] g) :
    PySem.W.WalkO q loose XP YP l.row.toRowW d [] (fun f vs => PySem.call f vs) := by
  refine Att.attach_call hn hdf ?_
  intro w s0 s1 mg mb fa ob pm cd doc a us zs G Y ho hd hcd hmg hobj hints hlen hg
  obtain ⟨W, cs, fd, g, kin, hT, nT, C, wtb, hb, hgood, hF⟩ := F w mg mb fa _ _ _ Y G.T hmg
  exact law_gt kin G.T.g G.T.b G.T.builtins G.T.nolimit hg hT nT C G.T.bmain wtb hobj hints (Nat.le_trans hlen hn2) room hF hb (hgood zs hlen)
end G

namespace G
open PySem PySem.Spec PyProof.Rows L2
section
variable {X : Cx} {W : Wd} {ξ : Xi} {E : Sg → XK} {a b e o tg : Expr} {es : List Expr} {ga gb go : GE'} {gs : GA'} {pos pos' p2 p apos : Pos} {x : Str}
/-! ### is None -/
theorem Is.non_iff {F : Hp} {ρ : List Addr} {d : D} {v : V} (h : Is W F ρ d v) : v = .non ↔ d = .non := by
  cases d with
  | non => simp only [Is] at h; simp [h]
  | bl b => simp only [Is] at h; simp [h]
  | int i => simp only [Is] at h; simp [h]
  | str y => simp only [Is] at h; simp [h]
  | ty n => simp only [Is] at h; simp [h]
  | tup l => simp only [Is] at h; obtain ⟨q, vs, rfl, _⟩ := h; simp
  | lst l => simp only [Is] at h; obtain ⟨q, vs, rfl, _⟩ := h; simp
  | lck l => simp only [Is] at h; obtain ⟨q, vs, rfl, _⟩ := h; simp
  | ins c l => simp only [Is] at h; obtain ⟨q, dx, fvs, rfl, _⟩ := h; simp
  | dct ks l => simp only [Is] at h; obtain ⟨q, vs, rfl, _⟩ := h; simp
  | cls c => simp only [Is] at h; simp [h]
  | ref k => simp only [Is] at h; obtain ⟨q, rfl, _⟩ := h; simp
  | exc c w l => simp only [Is] at h; obtain ⟨q, dx, rfl, _⟩ := h; simp
  | lam f c q us l => simp only [Is] at h; simp [h.1]
theorem flat_blv (F : Hp) (ρ : List Addr) (k : Bool) : Is W F ρ (.bl k) (.bl k) := by simp only [Is]
theorem og_isN : OpG X W E (compareOp .Is) dIsN :=
  fun ξ pins s σ H M F ρ x y vx vy ux uy Q I rx ry rp ix iy po => by
    unfold dIsN at po
    split at po
    · simp only [Is] at iy; subst iy
      refine op_isN pins s σ H vx .non ux uy Q I rx ry ⟨rfl, ?_⟩
      have hz := ix.non_iff
      refine po _ F ρ H Le.rfl' (List.prefix_refl _) rp ?_
      simp only [Is]
      cases x <;> simp [hz]
    · exact po.elim
/-! ### isinstance of a caught error -/
def ExOk (W : Wd) (ok : Nat → Bool) : Prop := ∀ c, ok c = true → ExcC W.K (W.T c)
def fIsiE (ok : Nat → Bool) (tab : Nat → CK → Option Bool) : List D → Stor → R D := fun ds M => match ds with
  | [.exc c false [], y] => (match ckOf y with
    | some k => if ok c then (match tab c k with
      | some b => .ok (.bl b) M
      | none => .no) else .no
    | _ => .no)
  | _ => .no
def IsiEOk (W : Wd) (tab : Nat → CK → Option Bool) : Prop := ∀ t c b, tab t c = some b → PySem.W.kitOne W.K (.ref (W.T t)) (ckV W c) = some b
theorem cg_isiE {ok : Nat → Bool} {tab : Nat → CK → Option Bool} (hK : X.K = W.K) (hc : ExOk W ok) (ht : IsiEOk W tab) : CallG X W E (.builtin "isinstance") (fIsiE ok tab) :=
  fun ξ pins s σ H M F ρ ds vs us Q I rv rp is po => by
    unfold fIsiE at po
    split at po
    · rename_i c y
      split at po
      · rename_i k ek
        split at po
        · rename_i hg
          split at po
          · rename_i b hb
            obtain ⟨v, u, rfl, ix, iy⟩ := two_of is
            simp only [Is] at ix
            obtain ⟨q, dx, rfl, fq, n0, _⟩ := ix
            obtain ⟨rfl, _⟩ := n0 trivial
            obtain ⟨u1, u2, rfl, r1, r2⟩ := vals2 rv
            obtain rfl : u1 = Value.ref q := r1
            have e2 : u2 = ckV W k := by
              unfold ckOf at ek
              split at ek
              · cases ek; simp only [Is] at iy; subst iy; exact r2
              · cases ek; simp only [Is] at iy; subst iy; exact r2
              · cases ek
            subst e2
            obtain ⟨⟨oe, fs, hget, h1, h2, hv⟩, _, _⟩ := I.hok q _ (rp.sub _ _ fq)
            have C := hc c hg
            have J : PySem.W.InstAt s.heap q oe (W.T c) none := by
              obtain ⟨oc, od, oda, osl⟩ := oe
              dsimp only at h1 h2 hv
              subst h1 h2 hv
              exact ⟨hget, rfl, rfl, trivial⟩
            have kin : W.K.In s.heap := by rw [← hK]; exact I.kIn
            exact PySem.W.kia_one (PySem.W.handS_kitx_exc C.hg C.hk C.hs C.hd C.ha C.hn C.ht C.hm) kin J (ht c k b hb) (fun z => nomatch z) fun tk => ⟨.bl b, H, I.kept (t' := tk) fun _ _ z => z, rfl, po _ F ρ H Le.rfl' (List.prefix_refl _) rp (flat_blv F ρ b)⟩
          · exact po.elim
        · exact po.elim
      · exact po.elim
    · exact po.elim
/-! ### o.m(..), m a method of the class c -/
def gMeth (c : Nat) (g : List D → Stor → R D) (o : GE') (a : GA') : GE' := fun Γ M => (o Γ M).bind fun x M1 => match insOf x M1 with
  | some (c', _) => if c' = c then (a Γ M1).bind fun ds M2 => g (x :: ds) M2 else .no
  | none => .no
theorem ge_meth {m : Str} {c : Nat} {f : Addr} {g : List D → Stor → R D} {pl : Sem Bool} (hc : CallG X W E (.ref f) g) (hK : X.K = W.K) (cl : Cls W.K (W.T c)) (hm : Meth W.K (W.T c) m f) (hfn : m ∉ W.fn c) (ho : GE X W E o go) (ha : GA X W E (e :: es) gs)
    (he : starEach (e :: es) X.env = (false, eval e X.env) :: starEach es X.env := by rfl) (hpl : (backTo pos (starEach es X.env)).any (·.1) = false := by rfl)
    (ht : eval (.Call (.Attribute o m apos) (e :: es) [] pos) X.env = (do
      let ov ← eval o X.env
      standAt apos.atName
      let (f, first) ← holding [ov] (getMethod ov m pl)
      callWith pos f first (backTo pos (starEach (e :: es) X.env)) (backToKw pos (keywordEach [] X.env))) := by rfl) : GE X W E (.Call (.Attribute o m apos) (e :: es) [] pos) (gMeth c g go gs) := by
  refine ⟨fun pins s σ H Q I ⟨ξ, Γ, M, F, ρ, en, rp, po⟩ => ?_⟩
  refine PySem.W.methodCall_KW (pl := pl) (thn (ho.run pins s σ H _ I ⟨ξ, Γ, M, F, ρ, en, rp, po.bind⟩) ?_) ht
  rintro u s1 ⟨v, H1, I1, r1, x, M1, F1, ρ1, le, pr, rp1, ix, po1⟩
  split at po1
  · rename_i c' l el
    split at po1
    · rename_i hcc
      subst hcc
      obtain ⟨q, dx, fvs, rfl, hq, hn, hl⟩ := insOf_ok rp1 ix el
      cases r1
      have lk : fvs.lookup m = none := by
        cases z : fvs.lookup m with
        | none => rfl
        | some y =>
          have hm' : m ∈ fvs.map (·.1) := List.mem_map.mpr ⟨(m, y), PySem.mem_of_lookup z, rfl⟩
          rw [hn] at hm'
          exact absurd (List.mem_of_mem_take hm') hfn
      refine getmeth_ok I1 hq (by rw [hK]; exact cl) (by rw [hK]; exact hm) lk ?_
      refine PySem.W.callWith_K (first := [.ref q]) (h₀ := X.base) I.ok.mod.kin (by rw [hK]; exact hm.kp) (thn (ha.run pos pins s1 σ H1 _ I1 ⟨ξ, Γ, M1, F1, ρ1, en.mono le pr, rp1, po1.bind⟩) ?_) he hpl
      rintro us s2 ⟨vs, H2, I2, r, ds, M2, F2, ρ2, e2, p2, rp2, is, po2⟩
      exact ⟨I2.kIn, hc ξ pins s2 σ H2 M2 F2 ρ2 (x :: ds) (.ref q :: vs) (.ref q :: us) Q I2 (.cons rfl r) rp2 (IsL.cons (ix.mono e2 p2) is) po2⟩
    · exact po1.elim
  · exact po1.elim
end
end G

namespace G
open PySem PySem.Spec PyProof.Rows L2
/-! ### l.count(x), l.index(x), x in l: by what is equal -/
def rCountD (K : PySem.W.Frag) : V → List V → Hp → VK → Prop := fun x xs H Q => ∃ (a : Addr) (y : V) (d : PyData) (ds : List PyData), x = V.ref a ∧ xs = [y] ∧ Dp K H (V.ref a) (.list ds) ∧ Dp K H y d ∧
  SeqAt.shaped (.list ds) = true ∧ SeqAt.shaped d = true ∧ Q (.int (ds.countP fun z => PyData.eqv z d : Nat)) H
theorem mt_countD {X : Cx} (hu : X.A.units + 65 < cLine) : MtR X "list.count" (rCountD X.K) := by
  intro pins s σ H x xs v us Q I rx rxs h
  obtain ⟨a, y, d, ds, rfl, rfl, hl, hy, sl, sd, q⟩ := h
  cases rx
  cases rxs with
  | cons ry rt =>
    rename_i uy ut
    cases rt
    obtain ⟨bs, r1⟩ := Dp.reads I d y uy hy ry
    have hxs : PyData.canLayAll0 ds = true := SeqAt.canLay_of_shaped sl
    have hroom : X.A.units + 1 + min (PyData.depthAll ds) d.depth < cLine := room_in_shaped sd hu
    cases hl with
    | lst hs ha =>
      obtain ⟨its, rv, ⟨⟨cls, dd, data, sls⟩, n, ho, hc, hdn, hdt⟩, hlen⟩ := I.list hs
      simp only at hc hdt
      subst hc hdt
      obtain ⟨as, h4⟩ := Dp.readsAll I ds _ its ha rv
      have hmap : its.map (SeqAt.readOf s.heap) = ds := SeqAt.readsAll_map ds its as hxs h4
      refine call_meets PySem.F.slot_list_count ⟨_, ho, rfl⟩ PySem.F.entry_list_count (PySem.F.args_list_count_2 _ _)
        (SeqAt.list_countAt a its.toArray n dd sls uy (fun u => PyData.eqv (SeqAt.readOf s.heap u) d)) ⟨ho, SeqAt.items_eqAt (vs := its.toArray) (show ReadsAll s.heap its.toArray.toList ds as from h4) r1 hxs (SeqAt.canLay_of_shaped sd) hroom, ?_⟩
      have ec : its.toArray.toList.countP (fun u => PyData.eqv (SeqAt.readOf s.heap u) d) = ds.countP fun z => PyData.eqv z d := by
        rw [← hmap, List.countP_map]
        rfl
      refine ⟨.int (ds.countP fun z => PyData.eqv z d : Nat), H, I.tok _, ⟨s.toks, ?_⟩, q⟩
      show Value.int ((its.toArray.toList.countP (fun u => PyData.eqv (SeqAt.readOf s.heap u) d) : Nat) : Int) s.toks = _
      rw [ec]
/-- a list's items as plain data -/
def pyL (x : D) (M : Stor) : Option (List PyData) := match topPy x M with
  | some (.list l) => some l
  | _ => none
def mCount : D → List D → Stor → R D := fun x ds M => match ds with
  | [y] => (match pyL x M, topPy y M with
    | some l, some d => if SeqAt.shaped (.list l) = true ∧ SeqAt.shaped d = true then .ok (.int (l.countP fun z => PyData.eqv z d : Nat)) M else .no
    | _, _ => .no)
  | _ => .no
section
variable {X : Cx} {W : Wd}
theorem pyL_some {x : D} {M : Stor} {l : List PyData} (h : pyL x M = some l) : topPy x M = some (.list l) := by
  unfold pyL at h
  split at h
  · rename_i e; cases h; exact e
  · cases h
theorem mg_count (hK : X.K = W.K) (hu : X.A.units + 65 < cLine) : MtG X W "list.count" mCount := ⟨_, mt_countD hu, fun ξ M F H ρ x ds v vs Q Z rp ix is po => by
  unfold mCount at po
  split at po
  · rename_i y
    split at po
    · rename_i l d el ed
      split at po
      · rename_i hs
        obtain ⟨u, rfl, iy⟩ := one_of is
        have h1 := topPy_ok rp (pyL_some el) ix
        have h2 := topPy_ok rp ed iy
        rw [hK]
        cases h1 with
        | lst hq ha => exact ⟨_, u, d, l, rfl, rfl, .lst hq ha, h2, hs.1, hs.2, po _ F ρ H Le.rfl' (List.prefix_refl _) rp (by simp only [Is])⟩
      · exact po.elim
    · exact po.elim
  · exact po.elim⟩
def mIndex : D → List D → Stor → R D := fun x ds M => match ds with
  | [y] => (match pyL x M, topPy y M with
    | some l, some d => if SeqAt.shaped (.list l) = true ∧ SeqAt.shaped d = true then (match l.findIdx? (fun z => PyData.eqv z d) with
      | some j => .ok (.int (j : Nat)) M
      | none => .no) else .no
    | _, _ => .no)
  | _ => .no
theorem mg_index (hK : X.K = W.K) (hu : X.A.units + 65 < cLine) : MtG X W "list.index" mIndex := ⟨_, mt_indexD hu, fun ξ M F H ρ x ds v vs Q Z rp ix is po => by
  unfold mIndex at po
  split at po
  · rename_i y
    split at po
    · rename_i l d el ed
      split at po
      · rename_i hs
        split at po
        · rename_i j ej
          obtain ⟨u, rfl, iy⟩ := one_of is
          have h1 := topPy_ok rp (pyL_some el) ix
          have h2 := topPy_ok rp ed iy
          rw [hK]
          obtain ⟨hj, hz, hno⟩ := List.findIdx?_eq_some_iff_getElem.mp ej
          cases h1 with
          | lst hq ha =>
            refine ⟨_, u, d, l, j, l[j], rfl, rfl, .lst hq ha, h2, hs.1, hs.2, List.getElem?_eq_getElem hj, hz, fun m z' hm e => ?_, po _ F ρ H Le.rfl' (List.prefix_refl _) rp (by simp only [Is])⟩
            obtain ⟨hm', rfl⟩ := List.getElem?_eq_some_iff.mp e
            simpa using hno m hm
        · exact po.elim
      · exact po.elim
    · exact po.elim
  · exact po.elim⟩
/-- x in l, x not in l -/
def dIn : D → D → Stor → R D := fun x y M => match topPy x M, pyL y M with
  | some d, some l => if SeqAt.shaped d = true ∧ SeqAt.shaped (.list l) = true then .ok (.bl (l.any fun z => PyData.eqv z d)) M else .no
  | _, _ => .no
end
end G

namespace G
open PySem PySem.Spec PyProof.Rows L2
/-! ### o.m(k = e) -/
structure FnBK (P : Program) (w : World) (W : Wd) (mg : Str → Option Value) (base : Heap) (k : Nat) (f : Addr) (ps : List Str) (kn : Str) (g : List D → Stor → R D) : Prop where
  ex : ∃ fd, FnG P w W mg base k f fd ps g ∧ ∀ (s : Shared) (a u : Value), BindsTo s fd ⟨[a], [(kn, u)]⟩ (ps.zip [a, u])
  kp : PySem.W.keepIn W.K (.ref f) = true
section
variable {X : Cx} {W : Wd} {ξ : Xi} {E : Sg → XK} {a b e o tg : Expr} {es : List Expr} {ga gb go ge : GE'} {gs : GA'} {pos pos' p2 p apos kpos : Pos} {x : Str}
theorem ge_methK {m kn : Str} {c k : Nat} {f : Addr} {ps : List Str} {g : List D → Stor → R D} {pl : Sem Bool} (fn : FnBK X.prog X.w W X.mg X.base k f ps kn g) (hr : Room k X.A) (gd : X.A.guards = some []) (hx : Pass X E) (hK : X.K = W.K) (cl : Cls W.K (W.T c)) (hm : Meth W.K (W.T c) m f) (hfn : m ∉ W.fn c)
    (ho : GE X W E o go) (he : GE X W E e ge)
    (hall : (backToKw pos (keywordEach [⟨some kn, e, kpos⟩] X.env)).all (·.1.isSome) = true := by rfl) (hks : (backToKw pos (keywordEach [⟨some kn, e, kpos⟩] X.env)).filterMap (·.1) = [kn] := by rfl)
    (hpl : ((backTo pos (starEach [] X.env)).any (·.1) || (backToKw pos (keywordEach [⟨some kn, e, kpos⟩] X.env)).any (·.1.isNone)) = false := by rfl)
    (ht : eval (.Call (.Attribute o m apos) [] [⟨some kn, e, kpos⟩] pos) X.env = (do
      let ov ← eval o X.env
      standAt apos.atName
      let (f, first) ← holding [ov] (getMethod ov m pl)
      callWith pos f first (backTo pos (starEach [] X.env)) (backToKw pos (keywordEach [⟨some kn, e, kpos⟩] X.env))) := by rfl) :
    GE X W E (.Call (.Attribute o m apos) [] [⟨some kn, e, kpos⟩] pos) (gMeth c g go (G.gCons ge G.gNil)) := by
  obtain ⟨fd, FG, kb⟩ := fn.ex
  refine ⟨fun pins s σ H Q I ⟨ξ, Γ, M, F, ρ, en, rp, po⟩ => ?_⟩
  refine PySem.W.methodCall_KW (pl := pl) (thn (ho.run pins s σ H _ I ⟨ξ, Γ, M, F, ρ, en, rp, po.bind⟩) ?_) ht
  rintro u s1 ⟨v, H1, I1, r1, x, M1, F1, ρ1, le, pr, rp1, ix, po1⟩
  split at po1
  · rename_i c' l el
    split at po1
    · rename_i hcc
      subst hcc
      obtain ⟨q, dx, fvs, rfl, hq, hn, hl⟩ := insOf_ok rp1 ix el
      cases r1
      have lk : fvs.lookup m = none := by
        cases z : fvs.lookup m with
        | none => rfl
        | some y =>
          have hm' : m ∈ fvs.map (·.1) := List.mem_map.mpr ⟨(m, y), PySem.mem_of_lookup z, rfl⟩
          rw [hn] at hm'
          exact absurd (List.mem_of_mem_take hm') hfn
      refine getmeth_ok I1 hq (by rw [hK]; exact cl) (by rw [hK]; exact hm) lk ?_
      have pk : PK X [⟨some kn, e, kpos⟩] (tCons (tG W E ge) tNil) := pk_cons he pk_nil
      have po2 : Po W ξ (Is W) F1 ρ1 ((ge Γ M1).bind fun d M2 => g [x, d] M2) Q (E σ) := by
        have z : (G.gCons ge G.gNil Γ M1).bind (fun ds M2 => g (x :: ds) M2) = (ge Γ M1).bind fun d M2 => g [x, d] M2 := by
          unfold G.gCons G.gNil
          cases ge Γ M1 <;> rfl
        rw [← z]; exact po1
      have want : tCons (tG W E ge) tNil σ H1 (fun zs H2 => ∃ d w M2 F2 ρ2, zs = [w] ∧ Le F1 F2 ∧ ρ1 <+: ρ2 ∧ Rp W ξ M2 F2 H2 ρ2 ∧ Is W F2 ρ2 d w ∧ Po W ξ (Is W) F2 ρ2 (g [x, d] M2) Q (E σ)) := by
        refine ⟨ξ, Γ, M1, F1, ρ1, en.mono le pr, rp1, (Po.bind (rel := Is W) po2).imp ?_⟩
        rintro w H2 ⟨d, M2, F2, ρ2, e2, p2, rp2, iw, po3⟩
        exact ⟨d, w, M2, F2, ρ2, rfl, e2, p2, rp2, iw, po3⟩
      refine PySem.W.callWith_KW0 (first := [.ref q]) (h₀ := X.base) I.ok.mod.kin (by rw [hK]; exact hm.kp) hall (thn (pk.run pos pins s1 σ H1 _ I1 want) ?_) hpl
      rintro ws s2 ⟨zs, H2, I2, rz, d, w, M2, F2, ρ2, rfl, e2, p2, rp2, iw, po3⟩
      refine ⟨I2.kIn, ?_⟩
      rw [hks]
      obtain ⟨uw, rfl, rw1⟩ := rz.one
      have rel : Vals [V.ref q, w] [Value.ref q, uw] := .cons rfl (.cons rw1 .nil)
      have sp : spG W g [V.ref q, w] H2 Q (E σ) := ⟨ξ, [x, d], M2, F2, ρ2, IsL.cons (ix.mono e2 p2) (IsL.cons iw IsL.nil), rp2, po3⟩
      have e0 := I2.env0
      rw [hK] at e0
      show wpAny _ _ (call (.ref f) [.ref q] [(kn, uw)]) _ _ _
      refine wpAny_call (codeAny_mono (FG.run X.A X.stack s2 H2 ⟨[.ref q], [(kn, uw)]⟩ [.ref q, uw] [V.ref q, w] Q (E σ) hr gd e0 (kb s2 (.ref q) uw) rel sp) fun res s' out => ?_)
      cases res with
      | error er => exact hx σ pins H2 s2 er s' I2 out
      | ok fl =>
        cases fl with
        | ret u => exact I2.after out
        | next => exact out.elim
        | brk => exact out.elim
        | cont => exact out.elim
    · exact po1.elim
  · exact po1.elim
end
end G

namespace G
open PySem PySem.Spec PyProof.Rows L2
/-- the code object of the def at f -/
def codeOf (K : PySem.W.Frag) (f : Addr) : Option Value := match K.lookup f with
  | some ⟨_, _, .func fd, _⟩ => some fd.code
  | _ => none
section
variable {P : Program} {w : World} {W : Wd} {ξ : Xi} {mg : Str → Option Value} {base : Heap} {x qual : Str} {params : Arguments} {body : List Stmt} {scope : Scope} {dvs : List V} {kws : List (Str × V)} {f : Addr} {fd : FuncData}
theorem fng_ofC {N ps : List Str} {k : Nat} {gb : GS'} (F : FunD W.K x qual params body scope dvs kws f fd) (S : FnScope N ps scope)
    (hb : ∀ (cdv : Value), codeOf W.K f = some cdv → ∀ (A : Around) (outer : List Env) (s : Shared) (H : Hp) (E : XK), Room k (A.deeper (envOfC qual scope s.heap.objs.size f cdv)) → A.guards = some [] →
      GSs (cxOf (L2.CX P w) P w W.K mg base N qual scope f cdv A outer s H E) W (fun _ => E) body gb) : FnG P w W mg base (k + 1) f fd ps (gFn ps.length N.length gb) := by
  have len : ∀ vs H Q E, spG W (gFn ps.length N.length gb) vs H Q E → vs.length = ps.length := fun vs H Q E h => by
    obtain ⟨ξ, ds, M, F', ρ, is, rp, po⟩ := h
    unfold gFn at po
    split at po
    · rename_i e; rw [is.len]; exact e
    · exact po.elim
  refine ⟨len, fun A outer st H args us vs Q Z room gd env binds rel hsp => ?_⟩
  obtain ⟨oc, od, dV, kV, doc, pm, an, cdv, ct, osl, rfl, lk, hcd, _, _⟩ := F.ex
  have hlen := len _ _ _ _ hsp
  have kin : W.K.In st.heap := env.mod.kin.keeps (fun b o z => (env.bs b o z).1)
  have nolim : st.heap.NoLimit := env.mod.nolimit.keeps (fun b o z => (env.bs b o z).1)
  have kinds : ∀ y ∈ ps.zip us, scope.names.lookup y.1 = some .local ∨
      (scope.names.lookup y.1 = some .cell ∧ ((cellsFrom (st.heap.objs.size + 1) scope.names []).lookup y.1).isSome = true) := by
    rintro ⟨nm, val⟩ hy
    have hin := (List.of_mem_zip hy).1
    cases S.par nm hin with
    | inl z => exact Or.inl z
    | inr z => exact Or.inr ⟨z, PySem.W.cellsFrom_some _ _ _ (Or.inl z)⟩
  refine codeAny_call_function room.depth (kin _ _ lk) rfl S.co S.gen rfl (PySem.W.codeRec_of kin hcd)
    (binds _ _ _ _ (wpAny_newFunctionEnv_cells S.kind kinds fun env' he s1 x1 => ?_))
  subst he
  refine ⟨nolim.keeps x1.toInCall.keep, codeAny_func ?_⟩
  have GB := hb cdv (by unfold codeOf; rw [lk]) A outer st H Z (room.deeper _) gd
  have I : Inv (cxOf (L2.CX P w) P w W.K mg base N qual scope f cdv A outer st H Z) [] (L2.start N vs) H s1 := inv_start S room.hd env hlen rel x1
  have hq : tGS W (fun _ => Z) gb { nx := fun _ H' => Q .non H', rt := Q } (L2.start N vs) H := by
    obtain ⟨ξ, ds, M, F', ρ, is, rp, po⟩ := hsp
    unfold gFn at po
    split at po
    · rename_i e
      refine ⟨ξ, _, M, F', ρ, en_start (N := N) is, rp, ?_⟩
      rw [← e] at po
      cases er : gb (ds.map some ++ List.replicate (N.length - ds.length) none) M with
      | nx g M1 => rw [er] at po; exact fun σ' F2 ρ2 H2 le p rp2 en2 => po .non F2 ρ2 H2 le p rp2 (by simp only [Is])
      | rt d M1 => rw [er] at po; exact po
      | bk g M1 => rw [er] at po; exact po.elim
      | ct g M1 => rw [er] at po; exact po.elim
      | ex c fs g M1 => rw [er] at po; exact fun σ' dx F2 ρ2 H2 le p rp2 en2 xc => po dx F2 ρ2 H2 le p rp2 xc
      | no => rw [er] at po; exact po.elim
    · exact po.elim
  refine wpAny_mono (GB.run [] s1 _ H _ I hq) (fun fl s' out => ?_) (fun er s' out => out)
  cases fl with
  | ret u => obtain ⟨v, σ', H', J, rv, q⟩ := out; exact ⟨v, H', J.os, J.bare, J.base, J.hok, rv, q⟩
  | next => obtain ⟨σ', H', J, q⟩ := out; exact ⟨.non, H', J.os, J.bare, J.base, J.hok, rfl, q⟩
  | brk => obtain ⟨_, _, _, q⟩ := out; exact q.elim
  | cont => obtain ⟨_, _, _, q⟩ := out; exact q.elim
end
/-! ### tables of code objects, by the names of the defs that make lambdas -/
def tcC (K : PySem.W.Frag) (x : Str) : Addr := ((PySem.W.tabIn K x).getD (0, 0)).1
def tcP (K : PySem.W.Frag) (x : Str) : Addr := ((PySem.W.tabIn K x).getD (0, 0)).2
structure TabK (K : PySem.W.Frag) (x : Str) : Prop where
  tab : PySem.W.tabIn K x = some (tcC K x, tcP K x)
  cd : codeOf K (He.ga K x) = some (.ref (tcC K x))
  nk : K.lookup (tcP K x) = none
def fxTab (x : Str) : Fx := fun K => (PySem.W.tabIn K x).isSome && (He.eqO ((codeOf K (He.ga K x)).map some) (some (some (.ref (tcC K x)))) && (K.lookup (tcP K x)).isNone)
theorem tabK_of {K : PySem.W.Frag} {x : Str} (h : fxTab x K = true) : TabK K x := by
  obtain ⟨h1, h⟩ := He.ba h
  obtain ⟨h2, h3⟩ := He.ba h
  refine ⟨?_, ?_, ?_⟩
  · obtain ⟨q, e⟩ := Option.isSome_iff_exists.mp h1
    unfold tcC tcP
    rw [e]; rfl
  · have z := He.eqO_ok h2
    cases e : codeOf K (He.ga K x) with
    | none => rw [e] at z; cases z
    | some v => rw [e] at z; simpa using z
  · cases e : K.lookup (tcP K x) with
    | none => rfl
    | some o => rw [e] at h3; cases h3
def lamName (x : Str) : Str := (x ++ ".<locals>.") ++ "<lambda>"
def tbOf (K : PySem.W.Frag) (l : List Str) : List (Addr × Str) := l.map fun x => (tcP K x, lamName x)
def csOf (K : PySem.W.Frag) (l : List Str) : List (Addr × Addr) := l.map fun x => (tcC K x, tcP K x)
def fxApart (l : List Str) : Fx := fun K => decide ((l.map (tcP K)).Nodup)
theorem apart_of {K : PySem.W.Frag} {l : List Str} (h : fxApart l K = true) : (l.map (tcP K)).Nodup := of_decide_eq_true h
theorem tb_mem {K : PySem.W.Frag} {l : List Str} {x : Str} (h : x ∈ l) : (tcP K x, lamName x) ∈ tbOf K l := List.mem_map.mpr ⟨x, h, rfl⟩
theorem nodup_map_inj {α β : Type} {f : α → β} : ∀ {l : List α}, (l.map f).Nodup → ∀ {a b : α}, a ∈ l → b ∈ l → f a = f b → a = b
  | [], _, _, _, h, _, _ => nomatch h
  | c :: l, n, a, b, ha, hb, e => by
    simp only [List.map_cons, List.nodup_cons] at n
    rcases List.mem_cons.mp ha with ea | ha'
    · rcases List.mem_cons.mp hb with eb | hb'
      · rw [ea, eb]
      · exact absurd (List.mem_map.mpr ⟨b, hb', by rw [← e, ea]⟩) n.1
    · rcases List.mem_cons.mp hb with eb | hb'
      · exact absurd (List.mem_map.mpr ⟨a, ha', by rw [e, eb]⟩) n.1
      · exact nodup_map_inj n.2 ha' hb' e
theorem tb_uniq {K : PySem.W.Frag} {l : List Str} {x : Str} (n : (l.map (tcP K)).Nodup) (h : x ∈ l) : ∀ p ∈ tbOf K l, p.1 = tcP K x → p.2 = lamName x := by
  intro p hp e
  obtain ⟨y, hy, rfl⟩ := List.mem_map.mp hp
  rw [nodup_map_inj n hy h e]
theorem tb_cs {K : PySem.W.Frag} {l : List Str} : ∀ q ∈ tbOf K l, ∃ p ∈ csOf K l, p.2 = q.1 := by
  intro q hq
  obtain ⟨x, hx, rfl⟩ := List.mem_map.mp hq
  exact ⟨_, List.mem_map.mpr ⟨x, hx, rfl⟩, rfl⟩
theorem tb_at {K : PySem.W.Frag} {l : List Str} {x : Str} {mg : Str → Option Value} {base : Heap} (B : ∀ p ∈ csOf K l, LamX.TabB base mg p.1 p.2) (h : x ∈ l) : LamX.TabB base mg (tcC K x) (tcP K x) := B _ (List.mem_map.mpr ⟨x, h, rfl⟩)
/-! ### errors: facts as truths -/
open He in
def fxEx0 (x : Str) : Fx := fun K => PySem.W.excIn K (ga K x) [.type "ValueError", .type "Exception", .type "BaseException", .type "object"] "ValueError.__new__" && (PySem.W.keepIn K (.ref (ga K x)) &&
  (decide (PySem.W.subIn K (.ref (ga K x)) (.type "BaseException") = some true) && eqO ((PySem.W.typeIn K (.ref (ga K x))).map some) (some (some (.type "type")))))
theorem ex0_of {K : PySem.W.Frag} {x : Str} (h : fxEx0 x K = true) : Ex0 K (He.ga K x) := by
  obtain ⟨h1, h⟩ := He.ba h
  obtain ⟨h2, h⟩ := He.ba h
  obtain ⟨h3, h4⟩ := He.ba h
  refine ⟨h1, h2, of_decide_eq_true h3, ?_⟩
  have z := He.eqO_ok h4
  cases e : PySem.W.typeIn K (.ref (He.ga K x)) with
  | none => rw [e] at z; cases z
  | some v => rw [e] at z; simpa using z
open He in
def fxExC (x : Str) : Fx := fun K => eqO (PySem.W.findIn K (.ref (ga K x)) "__getattribute__") (some (some (.builtin "BaseException.__getattribute__"))) && (eqO (PySem.W.findIn K (.ref (ga K x)) "__getattr__") (some none) &&
  (decide (PySem.W.subIn K (.ref (ga K x)) (.type "BaseException") = some true) && (PySem.W.hasDictIn K (ga K x) && (eqO (PySem.W.findIn K (.ref (ga K x)) "__class__") (some (some (.builtin "object.__class__"))) &&
  (eqO (PySem.W.specialIn K (.builtin "object.__class__") "__get__") (some (some (.builtin "getset_descriptor.__get__"))) && (decide (PySem.W.takesIn K (.builtin "object.__class__") = some true) && decide (PySem.W.mroIn K (ga K x) (.type "object") = some true)))))))
theorem exC_of {K : PySem.W.Frag} {x : Str} (h : fxExC x K = true) : ExcC K (He.ga K x) := by
  obtain ⟨h1, h⟩ := He.ba h
  obtain ⟨h2, h⟩ := He.ba h
  obtain ⟨h3, h⟩ := He.ba h
  obtain ⟨h4, h⟩ := He.ba h
  obtain ⟨h5, h⟩ := He.ba h
  obtain ⟨h6, h⟩ := He.ba h
  obtain ⟨h7, h8⟩ := He.ba h
  exact ⟨He.eqO_ok h1, He.eqO_ok h2, of_decide_eq_true h3, h4, He.eqO_ok h5, He.eqO_ok h6, of_decide_eq_true h7, of_decide_eq_true h8⟩
def fxExm (x c : Str) (r : Bool) : Fx := fun K => decide (PySem.W.exmOne K (.ref (He.ga K x)) (.ref (He.ga K c)) = some r)
theorem exm_of {K : PySem.W.Frag} {x c : Str} {r : Bool} (h : fxExm x c r K = true) : PySem.W.exmOne K (.ref (He.ga K x)) (.ref (He.ga K c)) = some r := of_decide_eq_true h
end G

namespace G
open PySem PySem.Spec PyProof.Rows L2
theorem pass_lam {X : Cx} {A : Around} {outer : List Env} {s : Shared} {H : Hp} {E : XK} {scope : Scope} {f c' : Addr} : Pass (LamX.lamCx X A outer s H E scope f c') (fun _ => E) :=
  Tk.pass (E := fun _ => E) (takes_of (X := LamX.lamCx X A outer s H E scope f c') rfl rfl rfl rfl)
theorem _root_.L2.Room.units65 {k : Nat} {A : Around} (r : Room k A) : A.units + 65 < cLine := by have := r.un; omega
end G

namespace G
open PySem PySem.Spec PyProof.Rows L2
/-! ### the head's facts over what is written, without the tables of code objects -/
def noTab : Option Obj → Bool
  | some ⟨.none, _, .fields vs, _⟩ => !vs.isEmpty
  | _ => true
def asF (g : Addr → Option Obj) (n : Nat) : List Addr := (He5.asA g n).filter fun a => noTab (g a)
def obsFG (n : Nat) (fa : List He.Fa) (fx : List Fx) (fn : List He5.DefA) (g : Addr → Option Obj) : He.AlD := obsE fa fx fn (He.frG g (asF g n))
def hookF (n : Nat) (fa : List He.Fa) (fx : List Fx) (fn : List He5.DefA) : PySem.W.Hook where
  α := He.AlD
  obs := fun s => obsFG n fa fx fn s.heap.get?
  val := fun _ => He5.valA fn
  says := fun _ h => ∃ K : PySem.W.Frag, K.In h ∧ SaysE fa fx fn K
  of := fun _ _ e => ⟨_, He.frG_in, e⟩
  keeps := fun _ _ _ ⟨K, hK, c⟩ k => ⟨K, PySem.W.Frag.In.keeps hK k, c⟩
theorem obsFG_eq {n : Nat} {fa : List He.Fa} {fx : List Fx} {fn : List He5.DefA} {g : Addr → Option Obj} {s : Shared} (h : ∀ a, g a = s.heap.get? a) : obsFG n fa fx fn g = (hookF n fa fx fn).obs s := by
  have e : g = s.heap.get? := funext h
  subst e; rfl
end G

namespace G
open PySem PySem.Spec PyProof.Rows L2
/-! ### C(), C a class without __init__ -/
structure Mk0 (K : PySem.W.Frag) (C : Addr) : Prop where
  makes : PySem.W.makesIn K C = true
  init : PySem.W.findIn K (.ref C) "__init__" = some (some (.builtin "object.__init__"))
  top : PySem.W.mroIn K C (.type "object") = some true
  kp : PySem.W.keepIn K (.ref C) = true
def gBare (c : Nat) : List D → Stor → R D := fun xs M => match xs with
  | [] => .ok (.ins c []) M
  | _ => .no
section
open PySem.W PySem.Calls Builtin
theorem oi_call {prog : Program} {w : World} {A : Around} {K : PySem.W.Frag} {C y : Addr} {o : Obj} {s : Shared} {R : Result → Shared → Prop} (X : K.In s.heap) (ho : s.heap.get? y = some o) (hc : o.cls = .ref C) (top : mroIn K C (.type "object") = some true)
    (q : R (.ok (.ret .none)) s) : codeAny (model prog w) A (.call (.builtin "object.__init__") ⟨[.ref y], []⟩) R s := by
  have t1 : Looks (model prog w) s.heap (typeOf (.ref y)) (.ref C) := NwA.type_at ho hc
  have t2 : Looks (model prog w) s.heap (isInstance (.ref y) (.type "object")) true := t1.andThen (looks_mroIn X top)
  refine codeAny_call_builtin oi_plain entry_oi (@check_slot (model prog w) _ _ _ "object.__init__" "object" "__init__" (.ref y) [] [] _ oi_kind oi_split t2 (NwA.oi_args_any (.ref y) [] []) ?_)
  obtain ⟨hh, g, d, t, os⟩ := s
  rw [oi_run]
  exact wpAny_pure q
end
section
variable {X : Cx} {W : Wd} {ξ : Xi} {E : Sg → XK}
theorem cg_bare {c : Nat} (MK : Mk0 X.K (W.T c)) : CallG X W E (.ref (W.T c)) (gBare c) := by
  intro ξ pins s σ H M F ρ ds vs us Q I r rp is po
  unfold gBare at po
  split at po
  · rw [IsL.nil_iff] at is; subst is
    cases r
    have nx := I.hok.fresh (a := s.heap.objs.size + 1) (Nat.le_succ _)
    have ndx := I.hok.fresh (a := s.heap.objs.size) (Nat.le_refl _)
    have hne : s.heap.objs.size + 1 ≠ s.heap.objs.size := Nat.succ_ne_self _
    have I2 := Inv.made (C := W.T c) I
    have rp1 : Rp W ξ M F (upd H s.heap.objs.size (.own (s.heap.objs.size + 1))) ρ := rp.newH ndx
    have nx1 : (upd H s.heap.objs.size (.own (s.heap.objs.size + 1))) (s.heap.objs.size + 1) = none := by rw [upd_ne hne]; exact nx
    have rp2 := rp1.new (o := .ins (W.T c) s.heap.objs.size []) nx1
    have q := po (.ref (s.heap.objs.size + 1)) _ ρ _ (Le.new (rp1.free nx1)) (List.prefix_refl _) rp2 (by
      simp only [Is]
      exact ⟨_, s.heap.objs.size, [], rfl, upd_same, by simp, IsL.nil⟩)
    refine wpAny_call (make_map0 I.kIn MK.makes MK.init (fun self => PySem.W.Looks.of_pure (PySem.W.oi_bind _)) ?_)
    refine oi_call (C := W.T c) (o := PySem.W.instObj (W.T c) s.heap.objs.size) I2.kIn ?_ rfl MK.top ?_
    · have := Heap.get?_push_size (s.heap.push PySem.W.emptyDict) (o := PySem.W.instObj (W.T c) s.heap.objs.size) rfl
      rwa [Heap.size_push] at this
    · exact ⟨rfl, ⟨V.ref (s.heap.objs.size + 1), _, I2, rfl, q⟩⟩
  · exact po.elim
/-! ### x < y, x == y .. by a method of the class of x -/
def NfOk (W : Wd) (c : Nat) (nf : TK → Bool) : Prop := ∀ t, nf t = true → PySem.W.notFirst W.K (W.T c) (tkV W t) = true
def cmpO (c : Nat) (ok : Nat → Bool) (nf : TK → Bool) (g : List D → Stor → R D) : D → D → Stor → R D := fun x y M => match insOf x M with
  | some (c1, _) => if c1 = c then (match tkOf y M with
    | some t => if tkGood ok t && nf t then g [x, y] M else .no
    | none => .no) else .no
  | none => .no
theorem og_cmpO {c : Nat} {f : Addr} {g : List D → Stor → R D} {op : CmpOp} {ok : Nat → Bool} {nf : TK → Bool} (hop : ∀ a b, compareOp op a b = richCompare op a b) (hK : X.K = W.K) (hu : X.A.units < cLine)
    (hs : PySem.W.findIn X.K (.ref (W.T c)) (cmpInfo op).2.1 = some (some (.ref f))) (hf : PySem.W.isFn X.K (.ref f) = true) (hc : ClsOk W ok) (hn : NfOk W c nf) (hg : CallG X W E (.ref f) g) : OpG X W E (compareOp op) (cmpO c ok nf g) :=
  fun ξ pins s σ H M F ρ x y vx vy ux uy Q I rx ry rp ix iy po => by
    unfold cmpO at po
    split at po
    · rename_i c1 l ex
      split at po
      · rename_i hc1
        subst hc1
        split at po
        · rename_i t et
          split at po
          · rename_i hb
            obtain ⟨b1, b2⟩ := Bool.and_eq_true_iff.mp hb
            obtain ⟨p, dx, fvs, rfl, hp, _, _⟩ := insOf_ok rp ix ex
            cases rx
            obtain ⟨od, J, _⟩ := inst_of I hp
            have ty := tkOf_ok hc rp iy et b1
            rw [← hK] at ty
            obtain ⟨P, kx, hP, _⟩ := L2.kit_of I ry ty
            obtain ⟨m, hF⟩ := I.fr
            have nf' := hn t b2
            rw [← hK] at nf'
            rw [hop]
            exact PySem.W.cmp_K hu hF I.ok.mod.kin J (kx.ty _ _ I.kIn hP) nf' hs hf (thn (hg ξ pins s σ H M F ρ _ _ _ Q I (.cons (rel_ref p) (.cons ry .nil)) rp (IsL.cons ix (IsL.cons iy IsL.nil)) po) fun _ _ z => back_of z)
          · exact po.elim
        · exact po.elim
      · exact po.elim
    · exact po.elim
end
/-! ### facts as truths -/
open He in
def fxMk0 (x : Str) : Fx := fun K => PySem.W.makesIn K (ga K x) && (eqO (PySem.W.findIn K (.ref (ga K x)) "__init__") (some (some (.builtin "object.__init__"))) && (decide (PySem.W.mroIn K (ga K x) (.type "object") = some true) && PySem.W.keepIn K (.ref (ga K x))))
theorem mk0_of {K : PySem.W.Frag} {x : Str} (h : fxMk0 x K = true) : Mk0 K (He.ga K x) := by
  obtain ⟨h1, h⟩ := He.ba h
  obtain ⟨h2, h⟩ := He.ba h
  obtain ⟨h3, h4⟩ := He.ba h
  exact ⟨h1, He.eqO_ok h2, of_decide_eq_true h3, h4⟩
def fxNf (x : Str) (t : TN) : Fx := fun K => PySem.W.notFirst K (He.ga K x) (t.v K)
theorem nf_of {K : PySem.W.Frag} {x : Str} {t : TN} (h : fxNf x t K = true) : PySem.W.notFirst K (He.ga K x) (t.v K) = true := h
end G

namespace G
open PySem L2
/-! ### reckoning: comprehensions, appended lists, heard values -/
theorem ret_id (r : R D) (Γ : Gam) : outS (r.bindS Γ fun d M1 => .rt d M1) = r := by cases r <;> rfl
theorem comp_mapF {keep : Stor → Prop} {t : Tgt} {tt : GT'} {te : GE'} {Γ : Gam} {M : Stor} (hk : keep M) (f : D → D) : ∀ (l acc : List D), acc.length + l.length < 1000000 →
    (∀ d ∈ l, ∃ Γ1, t.run d Γ = some Γ1 ∧ tt Γ1 M = .ok true M ∧ te Γ1 M = .ok (f d) M) → compG keep t tt te Γ l M acc = .ok (acc ++ l.map f) M
  | [], acc, _, _ => by unfold compG; simp
  | d :: ds, acc, hl, h => by
    obtain ⟨Γ1, e1, e2, e3⟩ := h d List.mem_cons_self
    simp only [List.length_cons] at hl
    unfold compG
    simp only [e1, e2, e3]
    rw [if_pos ⟨hk, by omega⟩, comp_mapF hk f ds (acc ++ [f d]) (by simp; omega) fun d' hd => h d' (List.mem_cons_of_mem _ hd)]
    simp
/-- [e for x in xs]: nothing changes -/
theorem comp_all {it : GI'} {t : Tgt} {te : GE'} {Γ : Gam} {M : Stor} {l : List D} {keep : Stor → Prop} (hi : it Γ M = .ok (l, keep) M) (hk : keep M) (f : D → D) (hl : l.length < 1000000)
    (h : ∀ d ∈ l, ∃ Γ1, t.run d (wipeG Γ t.slots) = some Γ1 ∧ te Γ1 M = .ok (f d) M) : gComp it t gYes te Γ M = .ok (.lst (l.map f)) M := by
  unfold gComp
  rw [hi]
  simp only [R.bind_ok, hk, if_true]
  rw [comp_mapF (tt := gYes) hk f l [] (by simpa using hl) fun d hd => let ⟨Γ1, a, b⟩ := h d hd; ⟨Γ1, a, rfl, b⟩]
  simp
theorem comp_noneF {keep : Stor → Prop} {t : Tgt} {tt : GT'} {te : GE'} {Γ : Gam} {M : Stor} (hk : keep M) : ∀ (l : List D), (∀ d ∈ l, ∃ Γ1, t.run d Γ = some Γ1 ∧ tt Γ1 M = .ok false M) → compG keep t tt te Γ l M [] = .ok [] M
  | [], _ => by unfold compG; rfl
  | d :: ds, h => by
    obtain ⟨Γ1, e1, e2⟩ := h d List.mem_cons_self
    unfold compG
    simp only [e1, e2]
    rw [if_pos hk]
    exact comp_noneF hk ds fun d' hd => h d' (List.mem_cons_of_mem _ hd)
/-- [e for x in xs if t]: none is kept -/
theorem comp_nothing {it : GI'} {t : Tgt} {tt : GT'} {te : GE'} {Γ : Gam} {M : Stor} {l : List D} {keep : Stor → Prop} (hi : it Γ M = .ok (l, keep) M) (hk : keep M)
    (h : ∀ d ∈ l, ∃ Γ1, t.run d (wipeG Γ t.slots) = some Γ1 ∧ tt Γ1 M = .ok false M) : gComp it t tt te Γ M = .ok (.lst []) M := by
  unfold gComp
  rw [hi]
  simp only [R.bind_ok, hk, if_true]
  rw [comp_noneF hk l h]
  rfl
theorem append_last {M : Stor} {l : List D} {d : D} (hl : l.length < 1000) : mAppend (.ref M.length) [d] (M ++ [.lst l]) = .ok .non (M ++ [.lst (l ++ [d])]) := by
  unfold mAppend
  simp only [get_last]
  rw [if_pos (by omega), set_last]
theorem lstOf_last {M : Stor} {l : List D} : lstOf (.ref M.length) (M ++ [.lst l]) = some l := by
  unfold lstOf; simp only [get_last]
/-- o.append(e), o the list made last -/
theorem ap_last {g : GE'} {Γ : Gam} {M : Stor} {l : List D} {d : D} {i : Nat} (h2 : Γ[i]? = some (some (.ref M.length))) (h : g Γ (M ++ [.lst l]) = .ok d (M ++ [.lst l])) (hl : l.length < 1000) :
    gExpr (gMtL mAppend (gVar i) (gCons g gNil)) Γ (M ++ [.lst l]) = .nx Γ (M ++ [.lst (l ++ [d])]) := by
  have z := append_last (M := M) (d := d) hl
  simp only [gExpr, gMtL, gVar, h2, R.bind_ok, lstOf_last, gCons, gNil, h, z, R.bindS_ok]
theorem frz_ok0 {M : Stor} {d : D} : frz M (.ok d M) = .ok d M := by
  unfold frz; simp only [if_true]
theorem frz_ex0 {M : Stor} {c : Nat} {fs : Flds} : frz M (.ex c fs M) = .ex c fs M := by
  unfold frz; simp only [if_true]
/-- firm data behind a call that made one object -/
theorem frz_firm1 {M : Stor} {m : MO} {d : D} (h : d.firm = true) : frz M (.ok d (M ++ [m])) = .ok d M := by
  unfold frz
  have e : ¬ (M ++ [m]).length = M.length := by simp
  simp only [e, if_false, kept_last, if_true, frzD_firm h]
  simp
/-- a lambda handed to a def -/
theorem lam_of {N : Nat} {gb : D → (Stor → R D) → GS'} {g : GE'} {Γ : Gam} {M : Stor} {d : D} (z : ∀ Y, hLam N gb Y (g Γ) M = .ok d M) : gLam N gb g Γ M = .ok d M := by
  unfold gLam
  rw [if_pos (fun Y => by rw [z, z]), z]
  exact frz_ok0
theorem toPy_tup {l : List D} {ps : List PyData} (h : toPyL l = some ps) : toPy (.tup l) = some (.tuple ps) := by simp only [toPy, h, Option.map_some]
theorem toPy_lst {l : List D} {ps : List PyData} (h : toPyL l = some ps) : toPy (.lst l) = some (.list ps) := by simp only [toPy, h, Option.map_some]
theorem neD_self {x y : D} {M : Stor} {p : PyData} (hx : topPy x M = some p) (hy : topPy y M = some p) (s : SeqAt.shaped p = true) : dNeD x y M = .ok (.bl false) M := by
  unfold dNeD
  simp only [hx, hy, s, and_self, if_true, SeqAt.eqv_refl p (SeqAt.canLay_of_shaped s), Bool.not_true]
theorem eqD_self {x y : D} {M : Stor} {p : PyData} (hx : topPy x M = some p) (hy : topPy y M = some p) (s : SeqAt.shaped p = true) : dEqD x y M = .ok (.bl true) M := by
  unfold dEqD
  simp only [hx, hy, s, and_self, if_true, SeqAt.eqv_refl p (SeqAt.canLay_of_shaped s)]
theorem ne_lst {l m : List D} {M : Stor} : dNe (.lst l) (.lst m) M = dNeD (.lst l) (.lst m) M := rfl
theorem eq_lst {l m : List D} {M : Stor} : dEq (.lst l) (.lst m) M = dEqD (.lst l) (.lst m) M := rfl
theorem ne_tup {l m : List D} {M : Stor} : dNe (.tup l) (.tup m) M = dNeD (.tup l) (.tup m) M := rfl
theorem eq_tup {l m : List D} {M : Stor} : dEq (.tup l) (.tup m) M = dEqD (.tup l) (.tup m) M := rfl
end G

/-! ### isinstance of an error, with its own dict or without -/
namespace G
section
open PySem PySem.Spec PySem.Calls PyProof.Rows PySem.W
variable {prog : Program} {w : World} {A : Around} {E : Value → Shared → Prop} {s : Shared} {K : Frag} {x D : Addr} {ox : Obj} {od : Option Obj}
theorem exc_class {Q : Option Value → Shared → Prop} (C : L2.ExcC K D) (X : K.In s.heap) (I : InstAt s.heap x ox D od) (h : Q (some (.ref D)) { s with toks := s.toks + 1 }) :
    wpAny (model prog w) A (getAttr? (.ref x) "__class__") Q E s := by
  have isC : (clsIn K D).isSome = true := by
    obtain ⟨cd, e, _⟩ := any_some C.hd
    rw [e]; rfl
  have fo : findObj K D od "__class__" = some (.bind (.builtin "getset_descriptor.__get__") (.builtin "object.__class__")) := by
    cases od with
    | none => exact findObj_dataN isC C.ha C.hn C.ht
    | some o => exact findObj_data isC C.ha C.hn C.ht
  obtain ⟨hp, gg, dr, tt, os⟩ := s
  have T0 := I.type (M := model prog w)
  have T1 := looks_findIn (M := model prog w) X C.hg
  have T2 := looks_findIn (M := model prog w) X C.hk
  have T3 := looks_find (M := model prog w) X I fo
  have isB : Looks (model prog w) hp (isInstance (.ref x) (.type "BaseException")) true := T0.andThen (looks_subIn X C.hs)
  have ne2 : (Value.builtin "BaseException.__getattribute__" == Value.builtin "object.__getattribute__") = false := by decide +kernel
  have ne1 : (onTheHeap (Value.ref D) && (Value.builtin "BaseException.__getattribute__" == Value.builtin "object.__getattribute__")) = false := by rw [ne2]; rfl
  unfold getAttr? getAttrBy? getAttrBy
  refine wpAny_bind (wpAny_mkText (wpAny_bind (wpAny_attempt (wpAny_holding (wpAny_bind (T0.at (wpAny_bind (T1.at ?_))))))))
  show wpAny _ _ (if (onTheHeap (Value.ref D) && (Value.builtin "BaseException.__getattribute__" == Value.builtin "object.__getattribute__")) = true then _ else _) _ _ _
  rw [ne1, if_neg (by decide : ¬ (false = true))]
  unfold getAttrByItsOwn hookBefore
  refine wpAny_bind ?_
  have onH : onTheHeap (Value.ref D) = true := rfl
  rw [if_pos onH]
  refine T2.at (wpAny_bind (wpAny_attempt (wpAny_holding ?_)))
  unfold callGetattribute
  rw [if_neg (by decide +kernel : ¬ ((false && onTheHeap (Value.builtin "BaseException.__getattribute__")) = true))]
  unfold boundAndCalled
  rw [PySem.F.excAttr_ValueError.ga.bind (.ref x)]
  refine wpAny_bind (wpAny_pure (?_ : wpAny _ _ (call (.builtin "BaseException.__getattribute__") [.ref x, .str "__class__" tt]) _ _ _))
  refine wpAny_call (codeAny_call_builtin PySem.F.excAttr_ValueError.ga.plain PySem.F.entry_bexc_ga (@check_slot (model prog w) _ _ ⟨hp, gg, dr, tt + 1, os⟩ "BaseException.__getattribute__" "BaseException" "__getattribute__" (.ref x) [.str "__class__" tt] [] _ (by decide +kernel) (by decide +kernel) isB (PySem.F.args_bexc_ga (.ref x) (.str "__class__" tt)) ?_))
  unfold Builtin.«object.__getattribute__»
  refine wpAny_bind (wpAny_of_eq (a := ((Value.ref x : Value), [Value.str "__class__" tt])) (by first | rfl | (simp only [slotArgs]; rfl)) (wpAny_bind (wpAny_pure (wpAny_bind (T0.at (wpAny_bind (T3.at ?_)))))))
  show wpAny _ _ (holding [Value.builtin "object.__class__"] (call (.builtin "getset_descriptor.__get__") [.builtin "object.__class__", .ref x, .ref D]) >>= ret) _ _ _
  refine wpAny_bind (wpAny_holding (wpAny_call (class_get (s := ⟨hp, gg, dr, tt + 1, os⟩) (ox := ox) (od := od) X I C.hm (wpAny_pure ?_))))
  show wpAny _ _ (handedOut (.ref D)) _ _ _
  rw [handedOut_of (v := .ref D) rfl]
  first
    | exact wpAny_pure (wpAny_pure h)
    | exact wpAny_pure h
    | exact wpAny_pure (wpAny_bind (wpAny_pure (wpAny_pure h)))
theorem kitx_err (C : L2.ExcC K D) : KitX K (.ref x) (.ref D) (fun h => InstAt h x ox D od) where
  ty := fun _ _ _ I => I.type
  it := fun _ _ X _ => by
    obtain ⟨cdD, eD, _⟩ := any_some C.hd
    unfold clsIn at eD
    split at eD
    · rename_i c1 d1 cd1 sl1 ho
      intro A1 Q1 E1 s1 k q
      unfold isType loadHead
      exact wpAny_bind (wpAny_loadPart (k _ _ (X _ _ ho)) (wpAny_pure q))
    · cases eD
  ne := fun h tp dd its n sl X htp => by
    obtain ⟨cdD, eD, _⟩ := any_some C.hd
    refine Bool.eq_false_iff.mpr fun q => ?_
    obtain rfl : D = tp := Value.ref.inj (beq_iff_eq.mp q)
    unfold clsIn at eD
    split at eD
    · rename_i c1 d1 cd1 sl1 ho
      cases (X _ _ ho).symm.trans htp
    · cases eD
  ca := fun X I k => exc_class C X I k
end
open PySem PySem.Spec PyProof.Rows L2
section
variable {X : Cx} {W : Wd} {ξ : Xi} {E : Sg → XK} {a b e o tg : Expr} {es : List Expr} {ga gb go : GE'} {gs : GA'} {pos pos' p2 p apos : Pos} {x : Str}
def fIsiX (ok : Nat → Bool) (tab : Nat → CK → Option Bool) : List D → Stor → R D := fun ds M => match ds with
  | [.exc c _ _, y] => (match ckOf y with
    | some k => if ok c then (match tab c k with
      | some b => .ok (.bl b) M
      | none => .no) else .no
    | _ => .no)
  | _ => .no
/-- an error as the model sees it -/
theorem err_inst {pins : List (Addr × Obj)} {σ : Sg} {H F : Hp} {ρ : List Addr} {s : Shared} {c : Nat} {own : Bool} {l : List D} {v : V} (I : Inv X pins σ H s) (le : Le F H) (ix : Is W F ρ (.exc c own l) v) :
    ∃ q oe od, v = .ref q ∧ PySem.W.InstAt s.heap q oe (W.T c) od ∧ s.heap.get? q = some oe ∧ (∃ fs, oe.data = .fields fs) := by
  simp only [Is] at ix
  obtain ⟨q, dx, rfl, fq, n0, n1⟩ := ix
  obtain ⟨⟨oe, fs, hget, h1, h2, hv⟩, _, _⟩ := I.hok q _ (le _ _ fq)
  cases own with
  | false =>
    obtain ⟨rfl, _⟩ := n0 rfl
    refine ⟨q, oe, none, rfl, ?_, hget, fs, hv⟩
    obtain ⟨oc, od, oda, osl⟩ := oe
    dsimp only at h1 h2 hv
    subst h1 h2 hv
    exact ⟨hget, rfl, rfl, trivial⟩
  | true =>
    obtain ⟨d, fvs, rfl, fd, _, _⟩ := n1 rfl
    obtain ⟨mA, hns, _⟩ := (show ObjOk X.prog X.w H s.heap d (.xd fvs) from I.hok d _ (le _ _ fd))
    obtain ⟨od, ho, _⟩ := lookIn_ns hns
    refine ⟨q, oe, some od, rfl, ?_, hget, fs, hv⟩
    exact ⟨hget, h1, by unfold PySem.W.notCls; rw [hv] <;> rfl, by rw [h2]; exact ho⟩
theorem cg_isiX {ok : Nat → Bool} {tab : Nat → CK → Option Bool} (hK : X.K = W.K) (hc : ExOk W ok) (ht : IsiEOk W tab) : CallG X W E (.builtin "isinstance") (fIsiX ok tab) :=
  fun ξ pins s σ H M F ρ ds vs us Q I rv rp is po => by
    unfold fIsiX at po
    split at po
    · rename_i c own l y
      split at po
      · rename_i k ek
        split at po
        · rename_i hg
          split at po
          · rename_i b hb
            obtain ⟨v, u, rfl, ix, iy⟩ := two_of is
            obtain ⟨q, oe, od, rfl, J, _, _⟩ := err_inst I rp.sub ix
            obtain ⟨u1, u2, rfl, r1, r2⟩ := vals2 rv
            obtain rfl : u1 = Value.ref q := r1
            have e2 : u2 = ckV W k := by
              unfold ckOf at ek
              split at ek
              · cases ek; simp only [Is] at iy; subst iy; exact r2
              · cases ek; simp only [Is] at iy; subst iy; exact r2
              · cases ek
            subst e2
            have kin : W.K.In s.heap := by rw [← hK]; exact I.kIn
            exact PySem.W.kia_one (kitx_err (hc c hg)) kin J (ht c k b hb) (fun z => nomatch z) fun tk => ⟨.bl b, H, I.kept (t' := tk) fun _ _ z => z, rfl, po _ F ρ H Le.rfl' (List.prefix_refl _) rp (flat_blv F ρ b)⟩
          · exact po.elim
        · exact po.elim
      · exact po.elim
    · exact po.elim
/-! ### err.f -/
/-- the field f is the i-th of the error class c -/
structure EflOk (W : Wd) (f : Str) (c i : Nat) : Prop where
  xf : XfC W.K (W.T c)
  no : PySem.W.findIn W.K (.ref (W.T c)) f = some none
  at_ : (W.fn c)[i]? = some f
  nd : (W.fn c).Nodup
def EflsOk (W : Wd) (f : Str) (tab : Nat → Option Nat) : Prop := ∀ c i, tab c = some i → EflOk W f c i
def dEfl (tab : Nat → Option Nat) : D → Stor → R D := fun x M => match x with
  | .exc c true l => (match tab c with
    | some i => (match l[i]? with
      | some d => .ok d M
      | none => .no)
    | none => .no)
  | _ => .no
theorem ge_efl {tab : Nat → Option Nat} {f : Str} (hK : X.K = W.K) (ht : EflsOk W f tab) (he : GE X W E e ga) (hb : attributeBase e f X.env (eval e X.env) = eval e X.env := by rfl) : GE X W E (.Attribute e f pos) (gUn (dEfl tab) ga) := by
  refine ⟨fun pins s σ H Q I ⟨ξ, Γ, M, F, ρ, en, rp, po⟩ => ?_⟩
  refine attr_of hb (thn (he.run pins s σ H _ I ⟨ξ, Γ, M, F, ρ, en, rp, po.bind⟩) ?_)
  rintro u s1 ⟨v, H1, I1, rx, d, M1, F1, ρ1, e1, p1, rp1, ix, po1⟩
  unfold dEfl at po1
  split at po1
  · rename_i c l
    split at po1
    · rename_i i hi
      split at po1
      · rename_i dv hd
        have T := ht c i hi
        simp only [Is] at ix
        obtain ⟨q, dx, rfl, fq, _, n1⟩ := ix
        obtain ⟨d, fvs, rfl, fd, nm, hl⟩ := n1 trivial
        obtain rfl : u = Value.ref q := rx
        obtain ⟨⟨oe, fs, hget, h1, h2, hv⟩, _, _⟩ := I1.hok q _ (rp1.sub _ _ fq)
        obtain ⟨mA, hns, hr⟩ := (show ObjOk X.prog X.w H1 s1.heap d (.xd fvs) from I1.hok d _ (rp1.sub _ _ fd))
        obtain ⟨od, ho, hlk⟩ := lookIn_ns hns
        obtain ⟨y, ey, iy⟩ := hl.get hd
        have il : i < l.length := (List.getElem?_eq_some_iff.mp hd).1
        have hn : (fvs.map (·.1))[i]? = some f := by rw [nm, List.getElem?_take_of_lt il]; exact T.at_
        have lk : fvs.lookup f = some y := look_at (by rw [nm]; exact (List.take_sublist _ _).nodup T.nd) hn ey
        obtain ⟨u, hu, ru⟩ := RelO.some_of (v := y) (o := mA f) (by rw [← lk]; exact hr f)
        have J : PySem.W.InstAt s1.heap q oe (W.T c) (some od) := ⟨hget, h1, by unfold PySem.W.notCls; rw [hv] <;> rfl, by rw [h2]; exact ho⟩
        have kin : W.K.In s1.heap := by rw [← hK]; exact I1.kIn
        exact HandSPX.exc_get kin J T.xf.ga T.xf.gg T.xf.exC (PySem.W.findObj_own T.xf.hdC T.no rfl (by rw [hlk, hu])) (handed_of ru) ⟨y, H1, I1.tok _, ru, po1 y F1 ρ1 H1 Le.rfl' (List.prefix_refl _) rp1 iy⟩
      · exact po1.elim
    · exact po1.elim
  · exact po1.elim
/-! ### an error with fields is made -/
/-- the promise of an error's __init__(self, y): self.f = y -/
def spE1 (C : Addr) (f : Str) : Sp := fun vs H Q _ => ∃ (q : Addr) (y : V), vs = [.ref q, y] ∧ H q = some (exo q C none) ∧ ∀ dx, H dx = none → dx ≠ q → Q .non (upd (upd H dx (exd dx [(f, y)])) q (exo q C (some dx)))
/-- .. of __init__(self, y, z): self.f = y; self.g = z -/
def spE2 (C : Addr) (f g : Str) : Sp := fun vs H Q _ => ∃ (q : Addr) (y z : V), vs = [.ref q, y, z] ∧ H q = some (exo q C none) ∧ ∀ dx, H dx = none → dx ≠ q → Q .non (upd (upd (upd H dx (exd dx [(f, y)])) q (exo q C (some dx))) dx (exd dx [(g, z), (f, y)]))
/-- what is told of an own error whose __init__ stores its arguments -/
structure ExI (K : PySem.W.Frag) (C fI : Addr) (fs : List Str) : Prop where
  oex : OexC K C
  iC : PySem.W.findIn K (.ref C) "__init__" = some (some (.ref fI))
  tI : PySem.W.typeIn K (.ref fI) = some (.type "function")
  nf : ∀ f ∈ fs, PySem.W.findIn K (.ref C) f = some none
def tMk1 (W : Wd) (ξ : Xi) (c : Nat) (F : Hp) (ρ : List Addr) (xs : List D) (M : Stor) (Q : XK) : Prop := ∀ dx F' ρ' H', Le F F' → ρ <+: ρ' → Rp W ξ M F' H' ρ' → XcIs W F' ρ' c (some xs) dx → Q (.ref (W.T c)) dx H'
theorem mk_heap1 {H : Hp} {q dx : Addr} {C : Addr} {o1 : HO} {o2 o3 : HO} (hq : H q = none) (hd : H dx = none) (ne : dx ≠ q) : upd (del (upd (upd (upd H q o1) dx o2) q o3) q) dx (.xd []) = upd H dx (.xd []) := by
  funext b
  by_cases h1 : b = dx
  · subst h1; rw [upd_same, upd_same]
  · rw [upd_ne h1, upd_ne h1]
    by_cases h2 : b = q
    · subst h2; rw [del_same, hq]
    · rw [del_ne h2, upd_ne h2, upd_ne h1, upd_ne h2]
theorem mk_heap {H : Hp} {q dx : Addr} {o1 o2 o3 o4 : HO} (hq : H q = none) (ne : dx ≠ q) : upd (del (upd (upd (upd H q o1) dx o2) q o3) q) dx o4 = upd H dx o4 := by
  funext b
  by_cases h1 : b = dx
  · subst h1; rw [upd_same, upd_same]
  · rw [upd_ne h1, upd_ne h1]
    by_cases h2 : b = q
    · subst h2; rw [del_same, hq]
    · rw [del_ne h2, upd_ne h2, upd_ne h1, upd_ne h2]
theorem mk_heap' {H : Hp} {q dx : Addr} {o1 o2 o3 o4 o5 : HO} (hq : H q = none) (ne : dx ≠ q) : upd (del (upd (upd (upd (upd H q o1) dx o2) q o3) dx o5) q) dx o4 = upd H dx o4 := by
  funext b
  by_cases h1 : b = dx
  · subst h1; rw [upd_same, upd_same]
  · rw [upd_ne h1, upd_ne h1]
    by_cases h2 : b = q
    · subst h2; rw [del_same, hq]
    · rw [del_ne h2, upd_ne h1, upd_ne h2, upd_ne h1, upd_ne h2]
/-- the maker of an error with one field -/
theorem mk1_of {c k : Nat} {fI : Addr} {fd : FuncData} {f : Str} {ps : List Str} (hK : X.K = W.K) (T : ExI W.K (W.T c) fI [f]) (hf : W.fn c = [f]) (F1 : FnOk X.prog X.w W.K X.mg X.base CX0 k fI fd ps (spE1 (W.T c) f)) (hb : Binds W.K fd ps []) (hr : Room (k + 1) X.A) (hg : Gl X x) (hm : X.mg x = some (.ref (W.T c))) (ha : GA X W E [e] gs)
    (hdb : (x == ("__debug__" : Str)) = false := by decide) (he : starEach [e] X.env = (false, eval e X.env) :: starEach [] X.env := by rfl) :
    PMk X (.Call (.Name x p) [e] [] pos) (fun σ H Q => tGA W E gs σ H fun vs H1 => ∃ ξ y M F ρ, Rp W ξ M F H1 ρ ∧ IsL W F ρ [y] vs ∧ tMk1 W ξ c F ρ [y] M Q) := by
  intro pins s σ H Q I h
  have F1' : FnOk X.prog X.w X.K X.mg X.base CX0 k fI fd ps (spE1 (W.T c) f) := by rw [hK]; exact F1
  refine pmk_oex (by rw [hK]; exact T.oex) (by rw [hK]; exact T.iC) (by rw [hK]; exact T.tI) F1' hr (by rw [hK]; exact hb) .nil pass0 hg hm ha hdb he (by rfl) pins s σ H Q I ?_
  obtain ⟨ξ0, Γ, M0, F0, ρ0, en, rp0, po⟩ := h
  refine ⟨ξ0, Γ, M0, F0, ρ0, en, rp0, po.imp ?_⟩
  rintro vs H1 ⟨ξ, y, M, F, ρ, rp, is, q⟩
  obtain ⟨v, rfl, iv⟩ := one_of is
  refine ⟨by simp, fun a na => ⟨a, v, rfl, upd_same, fun dx nd ne => ⟨rfl, dx, [(f, v)], upd_same, ?_, ?_, ?_⟩⟩⟩
  · rw [upd_ne ne, upd_same]
  · rw [upd_ne ne] at nd; exact nd
  · rw [upd_ne ne] at nd
    rw [mk_heap na ne]
    refine q (some dx) (upd F dx (.xd [(f, v)])) ρ _ (Le.new (rp.free nd)) (List.prefix_refl _) (rp.new nd) ⟨dx, _, rfl, upd_same, by rw [hf]; rfl, is.mono (Le.new (rp.free nd)) (List.prefix_refl _)⟩
/-- .. with two fields; what is told of them: the second one first -/
theorem mk2_of {c k : Nat} {fI : Addr} {fd : FuncData} {f g : Str} {ps : List Str} {e2 : Expr} (hK : X.K = W.K) (T : ExI W.K (W.T c) fI [f, g]) (hf : W.fn c = [g, f]) (F1 : FnOk X.prog X.w W.K X.mg X.base CX0 k fI fd ps (spE2 (W.T c) f g)) (hb : Binds W.K fd ps []) (hr : Room (k + 1) X.A) (hg : Gl X x) (hm : X.mg x = some (.ref (W.T c))) (ha : GA X W E [e, e2] gs)
    (hdb : (x == ("__debug__" : Str)) = false := by decide) (he : starEach [e, e2] X.env = (false, eval e X.env) :: starEach [e2] X.env := by rfl) (hpl : (backTo pos (starEach [e2] X.env)).any (·.1) = false := by rfl) :
    PMk X (.Call (.Name x p) [e, e2] [] pos) (fun σ H Q => tGA W E gs σ H fun vs H1 => ∃ ξ y z M F ρ, Rp W ξ M F H1 ρ ∧ IsL W F ρ [y, z] vs ∧ tMk1 W ξ c F ρ [z, y] M Q) := by
  intro pins s σ H Q I h
  have F1' : FnOk X.prog X.w X.K X.mg X.base CX0 k fI fd ps (spE2 (W.T c) f g) := by rw [hK]; exact F1
  refine pmk_oex (by rw [hK]; exact T.oex) (by rw [hK]; exact T.iC) (by rw [hK]; exact T.tI) F1' hr (by rw [hK]; exact hb) .nil pass0 hg hm ha hdb he hpl pins s σ H Q I ?_
  obtain ⟨ξ0, Γ, M0, F0, ρ0, en, rp0, po⟩ := h
  refine ⟨ξ0, Γ, M0, F0, ρ0, en, rp0, po.imp ?_⟩
  rintro vs H1 ⟨ξ, y, z, M, F, ρ, rp, is, q⟩
  obtain ⟨v, u, rfl, iv, iu⟩ := two_of is
  refine ⟨by simp, fun a na => ⟨a, v, u, rfl, upd_same, fun dx nd ne => ⟨rfl, dx, [(g, u), (f, v)], ?_, upd_same, ?_, ?_⟩⟩⟩
  · rw [upd_ne ne.symm, upd_same]
  · rw [upd_ne ne] at nd; exact nd
  · rw [upd_ne ne] at nd
    rw [mk_heap' na ne]
    refine q (some dx) (upd F dx (.xd [(g, u), (f, v)])) ρ _ (Le.new (rp.free nd)) (List.prefix_refl _) (rp.new nd) ⟨dx, _, rfl, upd_same, by rw [hf]; rfl, (IsL.cons iu (IsL.cons iv IsL.nil)).mono (Le.new (rp.free nd)) (List.prefix_refl _)⟩
/-- raise X(e) -/
def gRaise1 (c : Nat) (a : GA') : GS' := fun Γ M => (a Γ M).bindS Γ fun xs M1 => match xs with
  | [y] => .ex c (some [y]) Γ M1
  | _ => .no
/-- raise X(e, e') -/
def gRaise2 (c : Nat) (a : GA') : GS' := fun Γ M => (a Γ M).bindS Γ fun xs M1 => match xs with
  | [y, z] => .ex c (some [z, y]) Γ M1
  | _ => .no
theorem gs_raise1 {c k : Nat} {fI : Addr} {fd : FuncData} {f : Str} {ps : List Str} (hK : X.K = W.K) (T : ExI W.K (W.T c) fI [f]) (hf : W.fn c = [f]) (F1 : FnOk X.prog X.w W.K X.mg X.base CX0 k fI fd ps (spE1 (W.T c) f)) (hb : Binds W.K fd ps []) (hr : Room (k + 1) X.A) (hg : Gl X x) (hm : X.mg x = some (.ref (W.T c))) (hc : X.calm = true) (tk : Tk X E) (ha : GA X W E [e] gs)
    (hdb : (x == ("__debug__" : Str)) = false := by decide) (he : starEach [e] X.env = (false, eval e X.env) :: starEach [] X.env := by rfl) :
    GS X W E (.Raise (some (.Call (.Name x p) [e] [] pos')) none pos) (gRaise1 c gs) :=
  mS (ps_raise hc tk (mk1_of hK T hf F1 hb hr hg hm ha hdb he)) fun N σ H ⟨ξ, Γ, M, F, ρ, en, rp, po⟩ => ⟨ξ, Γ, M, F, ρ, en, rp, (Po.bindS en po).imp (by
    rintro vs H1 ⟨xs, M1, F1, ρ1, e1, p1, rp1, is, po1⟩
    split at po1
    · rename_i y
      exact ⟨ξ, y, M1, F1, ρ1, rp1, is, fun dx F2 ρ2 H2 le2 p2 rp2 xc => po1 σ dx F2 ρ2 H2 le2 p2 rp2 (en.mono (e1.tr le2) (p1.trans p2)) xc⟩
    · exact po1.elim)⟩
theorem gs_raise2 {c k : Nat} {fI : Addr} {fd : FuncData} {f g : Str} {ps : List Str} {e2 : Expr} (hK : X.K = W.K) (T : ExI W.K (W.T c) fI [f, g]) (hf : W.fn c = [g, f]) (F1 : FnOk X.prog X.w W.K X.mg X.base CX0 k fI fd ps (spE2 (W.T c) f g)) (hb : Binds W.K fd ps []) (hr : Room (k + 1) X.A) (hg : Gl X x) (hm : X.mg x = some (.ref (W.T c))) (hc : X.calm = true) (tk : Tk X E) (ha : GA X W E [e, e2] gs)
    (hdb : (x == ("__debug__" : Str)) = false := by decide) (he : starEach [e, e2] X.env = (false, eval e X.env) :: starEach [e2] X.env := by rfl) (hpl : (backTo pos' (starEach [e2] X.env)).any (·.1) = false := by rfl) :
    GS X W E (.Raise (some (.Call (.Name x p) [e, e2] [] pos')) none pos) (gRaise2 c gs) :=
  mS (ps_raise hc tk (mk2_of hK T hf F1 hb hr hg hm ha hdb he hpl)) fun N σ H ⟨ξ, Γ, M, F, ρ, en, rp, po⟩ => ⟨ξ, Γ, M, F, ρ, en, rp, (Po.bindS en po).imp (by
    rintro vs H1 ⟨xs, M1, F1, ρ1, e1, p1, rp1, is, po1⟩
    split at po1
    · rename_i y z
      exact ⟨ξ, y, z, M1, F1, ρ1, rp1, is, fun dx F2 ρ2 H2 le2 p2 rp2 xc => po1 σ dx F2 ρ2 H2 le2 p2 rp2 (en.mono (e1.tr le2) (p1.trans p2)) xc⟩
    · exact po1.elim)⟩
/-! ### an error as a value -/
/-- the error is kept: from now on it is known -/
theorem mk_known {pins : List (Addr × Obj)} {σ : Sg} {Q : XK} {u : Value} {s : Shared} (h : MkP X pins σ Q u s) : ∃ q cls d H', u = .ref q ∧ H' q = none ∧ Q cls d H' ∧ Inv X pins σ (upd H' q (ExcO q cls d)) s := by
  obtain ⟨q, oe, vs, sI, H', cls, d, rfl, J, k, hne, hq, hz, hd, _, na, os, ag, _, z⟩ := h
  refine ⟨q, cls, d, H', rfl, na, z, ?_⟩
  have L := J.laidN (t' := s.toks) (o := ExcO q cls d) k hne na (excO_ok hq hz hd)
  obtain ⟨hp, gg, dr, tk, o⟩ := s
  obtain ⟨hpI, ggI, drI, tkI, oI⟩ := sI
  dsimp only at os
  subst os
  exact ⟨L.ok, L.os, ag, L.base, L.loc, L.cell, L.free, L.freeC, L.pin, L.hok, L.len⟩
def gErr1 (c : Nat) (a : GA') : GE' := fun Γ M => (a Γ M).bind fun xs M1 => match xs with
  | [y] => .ok (.exc c true [y]) M1
  | _ => .no
def gErr2 (c : Nat) (a : GA') : GE' := fun Γ M => (a Γ M).bind fun xs M1 => match xs with
  | [y, z] => .ok (.exc c true [z, y]) M1
  | _ => .no
theorem ge_err1 {c k : Nat} {fI : Addr} {fd : FuncData} {f : Str} {ps : List Str} (hK : X.K = W.K) (T : ExI W.K (W.T c) fI [f]) (hf : W.fn c = [f]) (F1 : FnOk X.prog X.w W.K X.mg X.base CX0 k fI fd ps (spE1 (W.T c) f)) (hb : Binds W.K fd ps []) (hr : Room (k + 1) X.A) (hg : Gl X x) (hm : X.mg x = some (.ref (W.T c))) (ha : GA X W E [e] gs)
    (hdb : (x == ("__debug__" : Str)) = false := by decide) (he : starEach [e] X.env = (false, eval e X.env) :: starEach [] X.env := by rfl) :
    GE X W E (.Call (.Name x p) [e] [] pos) (gErr1 c gs) := by
  refine ⟨fun pins s σ H Q I ⟨ξ, Γ, M, F, ρ, en, rp, po⟩ => ?_⟩
  refine thn (mk1_of hK T hf F1 hb hr hg hm ha hdb he pins s σ H (fun cls d H' => ∀ q, H' q = none → Q (.ref q) (upd H' q (ExcO q cls d))) I ⟨ξ, Γ, M, F, ρ, en, rp, po.bind.imp ?_⟩) ?_
  · rintro vs H1 ⟨xs, M1, F1, ρ1, e1, p1, rp1, is, po1⟩
    split at po1
    · rename_i y
      refine ⟨ξ, y, M1, F1, ρ1, rp1, is, fun dx F2 ρ2 H2 le2 p2 rp2 xc q nq => ?_⟩
      refine po1 (.ref q) (upd F2 q (ExcO q (.ref (W.T c)) dx)) ρ2 _ (le2.tr (Le.new (rp2.free nq))) p2 (rp2.new nq) ?_
      obtain ⟨d, fvs, rfl, fd, nm, hl⟩ := xc
      simp only [Is]
      refine ⟨q, some d, rfl, upd_same, fun z => (by cases z), fun _ => ⟨d, fvs, rfl, Le.new (rp2.free nq) _ _ fd, nm, hl.mono (Le.new (rp2.free nq)) (List.prefix_refl _)⟩⟩
    · exact po1.elim
  · intro u s1 h
    obtain ⟨q, cls, d, H', rfl, na, z, J⟩ := mk_known h
    exact ⟨.ref q, _, J, rfl, z q na⟩
theorem ge_err2 {c k : Nat} {fI : Addr} {fd : FuncData} {f g : Str} {ps : List Str} {e2 : Expr} (hK : X.K = W.K) (T : ExI W.K (W.T c) fI [f, g]) (hf : W.fn c = [g, f]) (F1 : FnOk X.prog X.w W.K X.mg X.base CX0 k fI fd ps (spE2 (W.T c) f g)) (hb : Binds W.K fd ps []) (hr : Room (k + 1) X.A) (hg : Gl X x) (hm : X.mg x = some (.ref (W.T c))) (ha : GA X W E [e, e2] gs)
    (hdb : (x == ("__debug__" : Str)) = false := by decide) (he : starEach [e, e2] X.env = (false, eval e X.env) :: starEach [e2] X.env := by rfl) (hpl : (backTo pos (starEach [e2] X.env)).any (·.1) = false := by rfl) :
    GE X W E (.Call (.Name x p) [e, e2] [] pos) (gErr2 c gs) := by
  refine ⟨fun pins s σ H Q I ⟨ξ, Γ, M, F, ρ, en, rp, po⟩ => ?_⟩
  refine thn (mk2_of hK T hf F1 hb hr hg hm ha hdb he hpl pins s σ H (fun cls d H' => ∀ q, H' q = none → Q (.ref q) (upd H' q (ExcO q cls d))) I ⟨ξ, Γ, M, F, ρ, en, rp, po.bind.imp ?_⟩) ?_
  · rintro vs H1 ⟨xs, M1, F1, ρ1, e1, p1, rp1, is, po1⟩
    split at po1
    · rename_i y z
      refine ⟨ξ, y, z, M1, F1, ρ1, rp1, is, fun dx F2 ρ2 H2 le2 p2 rp2 xc q nq => ?_⟩
      refine po1 (.ref q) (upd F2 q (ExcO q (.ref (W.T c)) dx)) ρ2 _ (le2.tr (Le.new (rp2.free nq))) p2 (rp2.new nq) ?_
      obtain ⟨d, fvs, rfl, fd, nm, hl⟩ := xc
      simp only [Is]
      refine ⟨q, some d, rfl, upd_same, fun z => (by cases z), fun _ => ⟨d, fvs, rfl, Le.new (rp2.free nq) _ _ fd, nm, hl.mono (Le.new (rp2.free nq)) (List.prefix_refl _)⟩⟩
    · exact po1.elim
  · intro u s1 h
    obtain ⟨q, cls, d, H', rfl, na, z, J⟩ := mk_known h
    exact ⟨.ref q, _, J, rfl, z q na⟩
/-- X(), without fields -/
def gErr0 (c : Nat) : GE' := fun _ M => .ok (.exc c false []) M
theorem ge_err0 {c : Nat} (hK : X.K = W.K) (T : Ex0 W.K (W.T c)) (gC : X.mg x = some (.ref (W.T c))) (hg : Gl X x) (hdb : (x == ("__debug__" : Str)) = false := by decide) : GE X W E (.Call (.Name x p) [] [] pos) (gErr0 c) := by
  refine ⟨fun pins s σ H Q I ⟨ξ, Γ, M, F, ρ, en, rp, po⟩ => ?_⟩
  refine thn (pmk_none PySem.F.excBase_ValueError (by rw [hK]; exact T.q) gC (by rw [hK]; exact T.kC) (raises_own (by rw [hK]; exact T.sb) (by rw [hK]; exact T.ty)) hg hdb pins s σ H (fun cls d H' => ∀ q, H' q = none → Q (.ref q) (upd H' q (ExcO q cls d))) I fun q nq => ?_) ?_
  · refine po (.ref q) (upd F q (ExcO q (.ref (W.T c)) none)) ρ _ (Le.new (rp.free nq)) (List.prefix_refl _) (rp.new nq) ?_
    simp only [Is]
    exact ⟨q, none, rfl, upd_same, fun _ => ⟨rfl, trivial⟩, fun z => by cases z⟩
  · intro u s1 h
    obtain ⟨q, cls, d, H', rfl, na, z, J⟩ := mk_known h
    exact ⟨.ref q, _, J, rfl, z q na⟩
end
/-! ### facts as truths -/
def oexB (K : PySem.W.Frag) (C : Addr) : Bool := match K.lookup C with
  | some ⟨.type "type", _, .cls cd, sl⟩ => (match cd.mro, sl.toList with
    | .ref C1 :: bm, [_, _, _, _, some (.builtin n), _] => C1 == C && (n == "ValueError.__new__" && (!cd.hasDel && (cd.hasDict && PySem.HandSPX.refsVE bm)))
    | _, _ => false)
  | _ => false
theorem oexB_ok {K : PySem.W.Frag} {C : Addr} (h : oexB K C = true) : ∃ nm q N bs bm sn sub ab col dd k0 k1 k2 k3 k5, K.lookup C = some (excClassObj nm q C N bs bm true sn sub ab col dd k0 k1 k2 k3 k5 "ValueError.__new__") ∧ PySem.HandSPX.refsVE bm = true := by
  unfold oexB at h
  split at h
  · rename_i dd cd sl ho
    split at h
    · rename_i C1 bm k0 k1 k2 k3 n k5 em es
      obtain ⟨h1, h⟩ := Bool.and_eq_true_iff.mp h
      obtain ⟨h2, h⟩ := Bool.and_eq_true_iff.mp h
      obtain ⟨h3, h⟩ := Bool.and_eq_true_iff.mp h
      obtain ⟨h4, h5⟩ := Bool.and_eq_true_iff.mp h
      obtain rfl := beq_iff_eq.mp h1
      obtain rfl := beq_iff_eq.mp h2
      obtain ⟨nm, bs, mro, ns, qn, hd, sn, sub, ab, col, dl⟩ := cd
      dsimp only at em h3 h4
      have e3 : dl = false := by simpa using h3
      subst em e3 h4
      obtain ⟨l⟩ := sl
      dsimp only at es
      subst es
      exact ⟨nm, qn, ns, bs, bm, sn, sub, ab, col, dd, k0, k1, k2, k3, k5, ho, h5⟩
    · cases h
  · cases h
open He in
def fxExI (x : Str) (fs : List Str) : Fx := fun K => oexB K (ga K x) && (eqO (PySem.W.findIn K (.ref (ga K x)) "__setattr__") (some (some (.builtin "object.__setattr__"))) && (decide (PySem.W.subIn K (.ref (ga K x)) (.type "BaseException") = some true) &&
  (decide (PySem.W.typeIn K (.ref (ga K x)) = some (.type "type")) && (PySem.W.keepIn K (.ref (ga K x)) && (eqO (PySem.W.findIn K (.ref (ga K x)) "__init__") (some (some (.ref (ma K (ga K x) "__init__")))) &&
  (decide (PySem.W.typeIn K (.ref (ma K (ga K x) "__init__")) = some (.type "function")) && fs.all fun f => eqO (PySem.W.findIn K (.ref (ga K x)) f) (some none)))))))
theorem exI_of {K : PySem.W.Frag} {x : Str} {fs : List Str} (h : fxExI x fs K = true) : ExI K (He.ga K x) (He.ma K (He.ga K x) "__init__") fs := by
  obtain ⟨h1, h⟩ := He.ba h
  obtain ⟨h2, h⟩ := He.ba h
  obtain ⟨h3, h⟩ := He.ba h
  obtain ⟨h4, h⟩ := He.ba h
  obtain ⟨h5, h⟩ := He.ba h
  obtain ⟨h6, h⟩ := He.ba h
  obtain ⟨h7, h8⟩ := He.ba h
  exact ⟨⟨oexB_ok h1, He.eqO_ok h2, of_decide_eq_true h3, of_decide_eq_true h4, h5⟩, He.eqO_ok h6, of_decide_eq_true h7, fun f hf => He.eqO_ok (List.all_eq_true.mp h8 f hf)⟩
def fxXf (x : Str) : Fx := fun K => xfB K (He.ga K x)
theorem xf_of {K : PySem.W.Frag} {x : Str} (h : fxXf x K = true) : XfC K (He.ga K x) := xfB_ok h
def fxNo (x f : Str) : Fx := fun K => He.eqO (PySem.W.findIn K (.ref (He.ga K x)) f) (some none)
theorem no_of {K : PySem.W.Frag} {x f : Str} (h : fxNo x f K = true) : PySem.W.findIn K (.ref (He.ga K x)) f = some none := He.eqO_ok h
end G

namespace G
open PySem PySem.Spec PyProof.Rows L2
/-! ### calls by keywords alone -/
/-- the values by their places -/
def pmI {α : Type} (ix : List Nat) (l : List α) : List α := ix.filterMap fun i => l[i]?
theorem IsL.pm {W : Wd} {F : Hp} {ρ : List Addr} {ds : List D} {vs : List V} (h : IsL W F ρ ds vs) : ∀ ix : List Nat, IsL W F ρ (pmI ix ds) (pmI ix vs)
  | [] => IsL.nil
  | i :: ix => by
    have t := IsL.pm h ix
    unfold pmI at t ⊢
    cases e : ds[i]? with
    | none =>
      have e2 : vs[i]? = none := by
        rw [List.getElem?_eq_none_iff] at e ⊢
        rw [h.len]; exact e
      rw [List.filterMap_cons_none e, List.filterMap_cons_none e2]; exact t
    | some d =>
      obtain ⟨v, e2, is⟩ := h.get e
      rw [List.filterMap_cons_some e, List.filterMap_cons_some e2]
      exact IsL.cons is t
theorem vals_pm {vs : List V} {us : List Value} (h : Vals vs us) : ∀ ix : List Nat, Vals (pmI ix vs) (pmI ix us) := by
  have get : ∀ {vs : List V} {us : List Value} (i : Nat), Vals vs us → (vs[i]? = none ∧ us[i]? = none) ∨ ∃ v u, vs[i]? = some v ∧ us[i]? = some u ∧ RelV v u := by
    intro vs us i h
    induction h generalizing i with
    | nil => exact .inl ⟨by simp, by simp⟩
    | cons r t ih =>
      cases i with
      | zero => exact .inr ⟨_, _, by simp, by simp, r⟩
      | succ i => simpa using ih i
  intro ix
  induction ix with
  | nil => exact .nil
  | cons i ix ih =>
    unfold pmI at ih ⊢
    rcases get i h with ⟨e1, e2⟩ | ⟨v, u, e1, e2, r⟩
    · rw [List.filterMap_cons_none e1, List.filterMap_cons_none e2]; exact ih
    · rw [List.filterMap_cons_some e1, List.filterMap_cons_some e2]; exact .cons r ih
structure FnKw (P : Program) (w : World) (W : Wd) (mg : Str → Option Value) (base : Heap) (k : Nat) (f : Addr) (ps : List Str) (n : Nat) (ks : List Str) (ix : List Nat) (g : List D → Stor → R D) : Prop where
  ex : ∃ fd, FnG P w W mg base k f fd ps g ∧ ∀ (s : Shared) (us ws : List Value), W.K.In s.heap → us.length = n → ws.length = ks.length → BindsTo s fd ⟨us, ks.zip ws⟩ (ps.zip (pmI ix (us ++ ws)))
  kp : PySem.W.keepIn W.K (.ref f) = true
section
variable {X : Cx} {W : Wd} {ξ : Xi} {E : Sg → XK} {a b e o tg : Expr} {es : List Expr} {ga gb go ge : GE'} {gs : GA'} {pos pos' p2 p apos kpos : Pos} {x : Str} {kws : List Keyword} {ks : List Str}
def CallGK (X : Cx) (W : Wd) (E : Sg → XK) (f : Value) (ks : List Str) (g : List D → Stor → R D) : Prop :=
  ∀ (ξ : Xi) (pins : List (Addr × Obj)) (s : Shared) (σ : Sg) (H : Hp) (M : Stor) (F : Hp) (ρ : List Addr) (ds : List D) (vs : List V) (us : List Value) (Q : VK),
    Inv X pins σ H s → Vals vs us → us.length = ks.length → Rp W ξ M F H ρ → IsL W F ρ ds vs → Po W ξ (Is W) F ρ (g ds M) Q (E σ) →
    wpAny (model X.prog X.w) X.A (call f [] (ks.zip us)) (EP X pins σ Q) X.xe s
theorem cg_kw {k : Nat} {f : Addr} {ps : List Str} {ix : List Nat} {g : List D → Stor → R D} (h : FnKw X.prog X.w W X.mg X.base k f ps 0 ks ix g) (hK : X.K = W.K) (hr : Room k X.A) (gd : X.A.guards = some []) (hx : Pass X E) :
    CallGK X W E (.ref f) ks (fun l M => g (pmI ix l) M) := by
  intro ξ pins s σ H M F ρ ds vs us Q I r hl rp is po
  obtain ⟨fd, FG, hb⟩ := h.ex
  have e0 := I.env0
  rw [hK] at e0
  have bt := hb s [] us (by rw [← hK]; exact I.kIn) rfl hl
  have run := FG.run X.A X.stack s H ⟨[], ks.zip us⟩ (pmI ix us) (pmI ix vs) Q (E σ) hr gd e0 (by simpa using bt) (vals_pm r ix) ⟨ξ, pmI ix ds, M, F, ρ, is.pm ix, rp, po⟩
  refine wpAny_call (codeAny_mono run fun res s' out => ?_)
  cases res with
  | error er => exact hx σ pins H s er s' I out
  | ok fl =>
    cases fl with
    | ret u => exact I.after out
    | next => exact out.elim
    | brk => exact out.elim
    | cont => exact out.elim
/-- C(k = e, ..) -/
noncomputable def gMakeK (c : Nat) (ix : List Nat) (g : List D → Stor → R D) : List D → Stor → R D := fun xs M => frz M (gMakeM c (fun ys N => g (pmI ix ys) N) xs M)
theorem cg_makeK {k c : Nat} {f : Addr} {ps : List Str} {ix : List Nat} {g : List D → Stor → R D} (MK : Mk X.K (W.T c) f) (h : FnKw X.prog X.w W X.mg X.base k f ps 1 ks ix g) (hK : X.K = W.K) (hr : Room (k + 1) X.A) (gd : X.A.guards = some []) (hx : Pass X E) :
    CallGK X W E (.ref (W.T c)) ks (gMakeK c ix g) := by
  intro ξ pins s σ H M F' ρ ds vs us Q I r hlk rp is po0
  have po := Po.frz rp po0
  obtain ⟨fd, FG, hb⟩ := h.ex
  have nx := I.hok.fresh (a := s.heap.objs.size + 1) (Nat.le_succ _)
  have ndx := I.hok.fresh (a := s.heap.objs.size) (Nat.le_refl _)
  have hne : s.heap.objs.size + 1 ≠ s.heap.objs.size := Nat.succ_ne_self _
  have I2 := Inv.made (C := W.T c) I
  have r2 : Vals (V.ref (s.heap.objs.size + 1) :: vs) (Value.ref (s.heap.objs.size + 1) :: us) := .cons rfl r
  have rp1 : Rp W ξ M F' (upd H s.heap.objs.size (.own (s.heap.objs.size + 1))) ρ := rp.newH ndx
  have nx1 : (upd H s.heap.objs.size (.own (s.heap.objs.size + 1))) (s.heap.objs.size + 1) = none := by rw [upd_ne hne]; exact nx
  have rp2 := rp1.mut (m := .ins c []) (o := .ins (W.T c) s.heap.objs.size []) nx1 ⟨s.heap.objs.size, [], rfl, by simp, IsL.nil⟩
  have pr : ρ <+: ρ ++ [s.heap.objs.size + 1] := List.prefix_append _ _
  have isx : Is W F' (ρ ++ [s.heap.objs.size + 1]) (.ref M.length) (.ref (s.heap.objs.size + 1)) := by
    simp only [Is]
    exact ⟨_, rfl, by rw [List.getElem?_append_right (by rw [rp.len]; exact Nat.le_refl _), rp.len]; simp⟩
  have hq : spG W g (pmI ix (V.ref (s.heap.objs.size + 1) :: vs)) (upd (upd H s.heap.objs.size (.own (s.heap.objs.size + 1))) (s.heap.objs.size + 1) (.ins (W.T c) s.heap.objs.size []))
      (fun v H2 => v = .non ∧ Q (.ref (s.heap.objs.size + 1)) H2) (E σ) := by
    refine ⟨ξ, pmI ix (.ref M.length :: ds), _, F', _, (IsL.cons isx (is.mono Le.rfl' pr)).pm ix, rp2, ?_⟩
    refine (Po.bind (rel := Is W) (Po.mono po Le.rfl' pr)).imp ?_
    rintro v H2 ⟨d, M2, F2, ρ2, le2, p2, rp3, isd, po2⟩
    cases d with
    | non =>
      simp only [Is] at isd; subst isd
      exact ⟨rfl, po2 _ F2 ρ2 H2 Le.rfl' (List.prefix_refl _) rp3 (isx.mono le2 p2)⟩
    | _ => exact po2.elim
  have e0 := I2.env0.make (W.T c) [] (ks.zip us)
  rw [hK] at e0
  have bt := hb { s with heap := (s.heap.push PySem.W.emptyDict).push (PySem.W.instObj (W.T c) s.heap.objs.size) } [Value.ref (s.heap.objs.size + 1)] us (by rw [← hK]; exact I2.kIn) rfl hlk
  have run := FG.run _ X.stack _ _ ⟨[Value.ref (s.heap.objs.size + 1)], ks.zip us⟩ _ _ _ (E σ) (hr.make (W.T c) [] (ks.zip us)) (by rw [under_guards]; exact gd) e0 bt (vals_pm r2 ix) hq
  refine wpAny_call (make_map (f := f) I.kIn MK.makes MK.init (beq_iff_eq.mp MK.fn) (codeAny_mono run fun res s' hq' => ?_))
  cases res with
  | error er => exact hx σ pins _ _ er s' I2 hq'
  | ok fl =>
    cases fl with
    | ret u =>
      obtain ⟨v, H', I3, rv, ev, q3⟩ := I2.after hq'
      subst ev
      exact ⟨rv, ⟨V.ref (s.heap.objs.size + 1), H', I3, rfl, q3⟩⟩
    | next => exact False.elim hq'
    | brk => exact False.elim hq'
    | cont => exact False.elim hq'
/-- the values of the keywords, from the left -/
abbrev GK (X : Cx) (W : Wd) (E : Sg → XK) (kws : List Keyword) (g : GA') : Prop := PK X kws (tGA W E g)
theorem mK {t t' : TA} (h : PK X kws t) (k : ∀ σ H Q, t' σ H Q → t σ H Q) : PK X kws t' := ⟨fun pos pins s σ H Q I z => h.run pos pins s σ H Q I (k σ H Q z)⟩
theorem gk_nil : GK X W E [] gNil := mK pk_nil fun σ H Q ⟨ξ, Γ, M, F, ρ, en, rp, po⟩ => po [] F ρ H Le.rfl' (List.prefix_refl _) rp IsL.nil
theorem gk_cons {kn : Str} (he : GE X W E e ge) (hk : GK X W E kws gs) : GK X W E (⟨some kn, e, kpos⟩ :: kws) (gCons ge gs) :=
  mK (pk_cons he hk) fun σ H Q ⟨ξ, Γ, M, F, ρ, en, rp, po⟩ => ⟨ξ, Γ, M, F, ρ, en, rp, po.bind.imp (by
    rintro v H1 ⟨x, M1, F1, ρ1, e1, p1, rp1, ix, po1⟩
    refine ⟨ξ, Γ, M1, F1, ρ1, en.mono e1 p1, rp1, po1.bind.imp ?_⟩
    rintro vs H2 ⟨xs, M2, F2, ρ2, e2, p2, rp2, ixs, po2⟩
    exact po2 _ F2 ρ2 H2 Le.rfl' (List.prefix_refl _) rp2 (IsL.cons (ix.mono e2 p2) ixs))⟩
/-- f(k = e, ..), C(k = e, ..) by a module's name -/
def gCallK (n : Nat) (g : List D → Stor → R D) (a : GA') : GE' := fun Γ M => (a Γ M).bind fun xs M1 => if xs.length = n then g xs M1 else .no
theorem ge_callK {f : Addr} {g : List D → Stor → R D} (hc : CallGK X W E (.ref f) ks g) (hg : Gl X x) (hm : X.mg x = some (.ref f)) (hk : PySem.W.keepIn X.K (.ref f) = true) (hkw : GK X W E kws gs)
    (hall : (backToKw pos (keywordEach kws X.env)).all (·.1.isSome) = true := by rfl) (hks : (backToKw pos (keywordEach kws X.env)).filterMap (·.1) = ks := by rfl)
    (hpl : ((backTo pos (starEach [] X.env)).any (·.1) || (backToKw pos (keywordEach kws X.env)).any (·.1.isNone)) = false := by rfl) (hdb : (x == ("__debug__" : Str)) = false := by decide) :
    GE X W E (.Call (.Name x p) [] kws pos) (gCallK ks.length g gs) := by
  refine ⟨fun pins s σ H Q I ⟨ξ, Γ, M, F, ρ, en, rp, po⟩ => ?_⟩
  refine wpAny_Call_Name_kw (ld_glob I hg hm ?_ hdb)
  refine PySem.W.callWith_KW0 (first := []) (h₀ := X.base) I.ok.mod.kin hk hall (thn (hkw.run pos pins s σ H _ I ⟨ξ, Γ, M, F, ρ, en, rp, po.bind⟩) ?_) hpl
  rintro us s1 ⟨vs, H1, I1, r, ds, M1, F1, ρ1, e1, p1, rp1, is, po1⟩
  refine ⟨I1.kIn, ?_⟩
  rw [hks]
  split at po1
  · rename_i hl
    exact hc ξ pins s1 σ H1 M1 F1 ρ1 ds vs us Q I1 r (by rw [← r.length, is.len]; exact hl) rp1 is po1
  · exact po1.elim
/-- C.m(k = e, ..), m a staticmethod -/
theorem ge_smethK {m : Str} {c : Nat} {f : Addr} {g : List D → Stor → R D} {pl : Sem Bool} (hc : CallGK X W E (.ref f) ks g) (k : SMet X.K (W.T c) m f) (ho : GE X W E o (gC (.cls c))) (hkw : GK X W E kws gs)
    (hall : (backToKw pos (keywordEach kws X.env)).all (·.1.isSome) = true := by rfl) (hks : (backToKw pos (keywordEach kws X.env)).filterMap (·.1) = ks := by rfl)
    (hpl : ((backTo pos (starEach [] X.env)).any (·.1) || (backToKw pos (keywordEach kws X.env)).any (·.1.isNone)) = false := by rfl)
    (ht : eval (.Call (.Attribute o m apos) [] kws pos) X.env = (do
      let ov ← eval o X.env
      standAt apos.atName
      let (f, first) ← holding [ov] (getMethod ov m pl)
      callWith pos f first (backTo pos (starEach [] X.env)) (backToKw pos (keywordEach kws X.env))) := by rfl) : GE X W E (.Call (.Attribute o m apos) [] kws pos) (gCallK ks.length g gs) := by
  refine ⟨fun pins s σ H Q I ⟨ξ, Γ, M, F, ρ, en, rp, po⟩ => ?_⟩
  refine PySem.W.methodCall_KW (pl := pl) (thn (ho.run pins s σ H (fun v H1 => v = .ref (W.T c) ∧ ∃ F1 ρ1, Le F F1 ∧ ρ <+: ρ1 ∧ Rp W ξ M F1 H1 ρ1) I ⟨ξ, Γ, M, F, ρ, en, rp, fun v F1 ρ1 H1 le pr rp1 is => ⟨by simpa only [Is] using is, F1, ρ1, le, pr, rp1⟩⟩) ?_) ht
  rintro u s1 ⟨v, H1, I1, r1, rfl, F1, ρ1, le, pr, rp1⟩
  cases r1
  refine smet_get I1 k ?_
  have I2 := I1.tok (s1.toks + 1)
  refine PySem.W.callWith_KW0 (first := []) (h₀ := X.base) I.ok.mod.kin k.kp hall (thn (hkw.run pos pins _ σ H1 _ I2 ⟨ξ, Γ, M, F1, ρ1, en.mono le pr, rp1, (po.mono le pr).bind⟩) ?_) hpl
  rintro us s2 ⟨vs, H2, I3, r, ds, M2, F2, ρ2, e2, p2, rp2, is, po2⟩
  refine ⟨I3.kIn, ?_⟩
  rw [hks]
  split at po2
  · rename_i hl
    exact hc ξ pins s2 σ H2 M2 F2 ρ2 ds vs us Q I3 r (by rw [← r.length, is.len]; exact hl) rp2 is po2
  · exact po2.elim
/-- the first that says something -/
theorem GE.or (h : GE X W E e ga) (h' : GE X W E e gb) : GE X W E e (fun Γ M => orR (ga Γ M) (gb Γ M)) :=
  ⟨fun pins s σ H Q I ⟨ξ, Γ, M, F, ρ, en, rp, po⟩ => by
    cases z : ga Γ M with
    | no => simp only [z, orR_no] at po; exact h'.run pins s σ H Q I ⟨ξ, Γ, M, F, ρ, en, rp, po⟩
    | ok d M1 => simp only [z, orR_ok] at po; exact h.run pins s σ H Q I ⟨ξ, Γ, M, F, ρ, en, rp, by rw [z]; exact po⟩
    | ex c fs M1 => simp only [z, orR_ex] at po; exact h.run pins s σ H Q I ⟨ξ, Γ, M, F, ρ, en, rp, by rw [z]; exact po⟩⟩
end
end G

namespace G
open PySem PySem.Spec PyProof.Rows L2
/-! ### str(x), repr(x), bool(x), {x}, truth, properties of own things -/
def strOnly (r : R D) : R D := match r with
  | .ok (.str y) M => .ok (.str y) M
  | .ex c fs M => .ex c fs M
  | _ => .no
def blOnly (r : R D) : R D := match r with
  | .ok (.bl y) M => .ok (.bl y) M
  | .ex c fs M => .ex c fs M
  | _ => .no
section
variable {X : Cx} {W : Wd} {ξ : Xi} {E : Sg → XK} {a b e o tg : Expr} {es : List Expr} {ga gb go ge : GE'} {gs : GA'} {pos pos' p2 p apos kpos : Pos} {x : Str}
theorem po_str {F : Hp} {ρ : List Addr} {r : R D} {Q : VK} {Z : XK} (h : Po W ξ (Is W) F ρ (strOnly r) Q Z) : Po W ξ (Is W) F ρ r (fun v H => ∃ y, v = .str y ∧ Q v H) Z := by
  unfold strOnly at h
  split at h
  · exact fun v F' ρ' H' le pr rp is => ⟨_, by simpa only [Is] using is, h v F' ρ' H' le pr rp is⟩
  · exact h
  · exact h.elim
theorem po_bl {F : Hp} {ρ : List Addr} {r : R D} {Q : VK} {Z : XK} (h : Po W ξ (Is W) F ρ (blOnly r) Q Z) : Po W ξ (Is W) F ρ r (fun v H => ∃ y, v = .bl y ∧ Q v H) Z := by
  unfold blOnly at h
  split at h
  · exact fun v F' ρ' H' le pr rp is => ⟨_, by simpa only [Is] using is, h v F' ρ' H' le pr rp is⟩
  · exact h
  · exact h.elim
theorem own1_ok {c : Nat} {g : List D → Stor → R D} {M : Stor} {F H : Hp} {ρ : List Addr} {d : D} {v : V} {Q : VK} {Z : XK} (rp : Rp W ξ M F H ρ) (ix : Is W F ρ d v) (po : Po W ξ (Is W) F ρ (own1 c g d M) Q Z) :
    ∃ q dx fvs, v = .ref q ∧ H q = some (.ins (W.T c) dx fvs) ∧ Po W ξ (Is W) F ρ (g [d] M) Q Z := by
  unfold own1 at po
  split at po
  · rename_i c1 l ex
    split at po
    · rename_i hc
      subst hc
      obtain ⟨q, dx, fvs, rfl, hq, _, _⟩ := insOf_ok rp ix ex
      exact ⟨q, dx, fvs, rfl, hq, po⟩
    · exact po.elim
  · exact po.elim
theorem back_str {pins : List (Addr × Obj)} {σ : Sg} {Q : VK} {u : Value} {s' : Shared} (h : EP X pins σ (fun v H => ∃ y, v = .str y ∧ Q v H) u s') : PySem.W.StrBack (EP X pins σ Q) u s' := by
  obtain ⟨v, H', I, r, y, rfl, q⟩ := h
  obtain ⟨t, rfl⟩ := r
  exact ⟨.str y, H', I, ⟨t, rfl⟩, q⟩
def fOwnS (c : Nat) (g : List D → Stor → R D) : List D → Stor → R D := fun ds M => match ds with
  | [x] => own1 c (fun l N => strOnly (g l N)) x M
  | _ => .no
def fOwnB (c : Nat) (g : List D → Stor → R D) : List D → Stor → R D := fun ds M => match ds with
  | [x] => own1 c (fun l N => blOnly (g l N)) x M
  | _ => .no
theorem EP.out1 {pins : List (Addr × Obj)} {σ : Sg} {Q : VK} {u : Value} {s : Shared} (h : EP (Cx.in1 X) pins σ Q u s) : EP X pins σ Q u s := by
  obtain ⟨v, H', I, r, q⟩ := h
  exact ⟨v, H', inv_out1 I, r, q⟩
theorem cg_strO {c : Nat} {f : Addr} {g : List D → Stor → R D} (hu : X.A.in1.in1.units < cLine) (hs : PySem.W.findIn X.K (.ref (W.T c)) "__str__" = some (some (.ref f))) (hf : PySem.W.isFn X.K (.ref f) = true) (hg : CallG (Cx.in1 (Cx.in1 X)) W E (.ref f) g) : CallG X W E (.type "str") (fOwnS c g) :=
  fun ξ pins s σ H M F ρ ds vs us Q I rv rp is po => by
    unfold fOwnS at po
    split at po
    · rename_i d
      obtain ⟨v, rfl, ix⟩ := one_of is
      obtain ⟨q, dx, fvs, rfl, hq, po1⟩ := own1_ok rp ix po
      obtain ⟨u, rfl, ru⟩ := vals1 rv
      cases ru
      obtain ⟨od, J, _⟩ := inst_of I hq
      exact PySem.W.kso_call hu I.kIn J hs hf (thn (hg ξ pins s σ H M F ρ _ _ _ _ (inv_in1 (inv_in1 I)) (.cons (rel_ref q) .nil) rp (IsL.cons ix IsL.nil) (po_str po1)) fun _ _ z => back_str (EP.out1 (EP.out1 z)))
    · exact po.elim
theorem cg_reprO {c : Nat} {f : Addr} {g : List D → Stor → R D} (hu : X.A.in1.units < cLine) (hs : PySem.W.findIn X.K (.ref (W.T c)) "__repr__" = some (some (.ref f))) (hf : PySem.W.isFn X.K (.ref f) = true) (hg : CallG (Cx.in1 X) W E (.ref f) g) : CallG X W E (.builtin "repr") (fOwnS c g) :=
  fun ξ pins s σ H M F ρ ds vs us Q I rv rp is po => by
    unfold fOwnS at po
    split at po
    · rename_i d
      obtain ⟨v, rfl, ix⟩ := one_of is
      obtain ⟨q, dx, fvs, rfl, hq, po1⟩ := own1_ok rp ix po
      obtain ⟨u, rfl, ru⟩ := vals1 rv
      cases ru
      obtain ⟨od, J, _⟩ := inst_of I hq
      obtain ⟨m, hF⟩ := I.fr
      exact PySem.W.repr_K hu hF I.ok.mod.kin J hs hf (thn (hg ξ pins s σ H M F ρ _ _ _ _ (inv_in1 I) (.cons (rel_ref q) .nil) rp (IsL.cons ix IsL.nil) (po_str po1)) fun _ _ z => back_str (EP.out1 z))
    · exact po.elim
/-- {x}, x an own thing -/
theorem ge_fmtO {c : Nat} {f : Addr} {g : List D → Stor → R D} (hu : X.A.in1.units < cLine) (hfm : PySem.W.findIn X.K (.ref (W.T c)) "__format__" = some (some (.builtin "object.__format__"))) (hm : PySem.W.mroIn X.K (W.T c) (.type "object") = some true)
    (hs : PySem.W.findIn X.K (.ref (W.T c)) "__str__" = some (some (.ref f))) (hf : PySem.W.isFn X.K (.ref f) = true) (hg : CallG (Cx.in1 X) W E (.ref f) g) (he : GE X W E e ga) : GE X W E (.FormattedValue e (-1) none pos) (gUn (own1 c fun l N => strOnly (g l N)) ga) := by
  refine ⟨fun pins s σ H Q I ⟨ξ, Γ, M, F, ρ, en, rp, po⟩ => ?_⟩
  refine wpAny_FormattedValue_plain (thn (he.run pins s σ H _ I ⟨ξ, Γ, M, F, ρ, en, rp, po.bind⟩) ?_)
  rintro u s1 ⟨v, H1, I1, r1, d, M1, F1, ρ1, e1, p1, rp1, ix, po1⟩
  obtain ⟨q, dx, fvs, rfl, hq, po2⟩ := own1_ok rp1 ix po1
  cases r1
  obtain ⟨od, J, _⟩ := inst_of I1 hq
  exact PySem.W.kfo_fieldS hu I1.kIn J hfm hm hs hf (thn (hg ξ pins _ σ H1 M1 F1 ρ1 _ _ _ _ (inv_in1 (I1.tok _)) (.cons (rel_ref q) .nil) rp1 (IsL.cons ix IsL.nil) (po_str po2)) fun _ _ z => back_str (EP.out1 z))
/-- {x}, x a text or an int -/
def dFmt : D → Stor → R D := fun x M => match x with
  | .str y => if y.length ≤ 1000000 then .ok (.str y) M else .no
  | .int i => if i.natAbs.log2 < 1920 then .ok (.str (toString i)) M else .no
  | _ => .no
theorem ge_fmt (he : GE X W E e ga) : GE X W E (.FormattedValue e (-1) none pos) (gUn dFmt ga) :=
  mE (pe_fmt he) fun σ H Q ⟨ξ, Γ, M, F, ρ, en, rp, po⟩ => ⟨ξ, Γ, M, F, ρ, en, rp, po.bind.imp (by
    rintro v H1 ⟨d, M1, F1, ρ1, e1, p1, rp1, ix, po1⟩
    unfold dFmt at po1
    split at po1
    · rename_i y
      simp only [Is] at ix; subst ix
      split at po1
      · rename_i hz
        exact .inl ⟨y, rfl, small_line hz, po1.now rp1 (flat_str F1 ρ1)⟩
      · exact po1.elim
    · rename_i i
      simp only [Is] at ix; subst ix
      split at po1
      · rename_i hz
        exact .inr ⟨i, rfl, hz, po1.now rp1 (flat_str F1 ρ1)⟩
      · exact po1.elim
    · exact po1.elim)⟩
/-- the parts of f'..' -/
inductive GJ (X : Cx) (W : Wd) (E : Sg → XK) : List Expr → List GE' → Prop where
  | nil : GJ X W E [] []
  | cons {e : Expr} {g : GE'} {es : List Expr} {gs : List GE'} (h : GE X W E e g) (r : GJ X W E es gs) : GJ X W E (e :: es) (g :: gs)
def jsG : List GE' → Str → GE'
  | [], acc, _, M => .ok (.str acc) M
  | g :: gs, acc, Γ, M => (g Γ M).bind fun x M1 => match x with
    | .str y => if (acc ++ y).length ≤ 1000000 then jsG gs (acc ++ y) Γ M1 else .no
    | _ => .no
theorem gj_pj {es : List Expr} {gs : List GE'} (h : GJ X W E es gs) : PJ X es (gs.map (tG W E)) := by
  induction h with
  | nil => exact .nil
  | cons h _ ih => exact .cons h ih
theorem js_ok {gs : List GE'} : ∀ (acc : Str) {Γ : Gam} {σ : Sg} {M : Stor} {F H : Hp} {ρ : List Addr} {Q : VK}, En W Γ σ F ρ → Rp W ξ M F H ρ → Po W ξ (Is W) F ρ (jsG gs acc Γ M) Q (E σ) → tJs (gs.map (tG W E)) acc σ H fun out H1 => Q (.str out) H1 := by
  induction gs with
  | nil => intro acc Γ σ M F H ρ Q en rp po; exact po.now rp (flat_str F ρ)
  | cons g gs ih =>
    intro acc Γ σ M F H ρ Q en rp po
    refine ⟨ξ, Γ, M, F, ρ, en, rp, (Po.bind (rel := Is W) po).imp ?_⟩
    rintro v H1 ⟨d, M1, F1, ρ1, e1, p1, rp1, ix, po1⟩
    split at po1
    · rename_i y
      simp only [Is] at ix; subst ix
      split at po1
      · rename_i hz
        exact ⟨y, rfl, small_line hz, ih (acc ++ y) (en.mono e1 p1) rp1 po1⟩
      · exact po1.elim
    · exact po1.elim
theorem ge_joined {v1 v2 : Expr} {rest : List Expr} {gs : List GE'} (h : GJ X W E (v1 :: v2 :: rest) gs) : GE X W E (.JoinedStr (v1 :: v2 :: rest) pos) (jsG gs Str.empty) :=
  mE (pe_joined (gj_pj h)) fun σ H Q ⟨ξ, Γ, M, F, ρ, en, rp, po⟩ => js_ok Str.empty en rp po
theorem ge_joined1 (he : GE X W E e ga) : GE X W E (.JoinedStr [e] pos) ga := pe_joined1 he
/-! str of an int, of a text -/
def fStr : List D → Stor → R D := fun ds M => match ds with
  | [.int i] => if i.natAbs.log2 < 1920 then .ok (.str (toString i)) M else .no
  | [.str y] => .ok (.str y) M
  | _ => .no
theorem cg_str : CallG X W E (.type "str") fStr := fun ξ pins s σ H M F ρ ds vs us Q I rv rp is po => by
  unfold fStr at po
  split at po
  · rename_i i
    obtain ⟨v, rfl, ix⟩ := one_of is
    simp only [Is] at ix; subst ix
    split at po
    · rename_i hz
      exact call_str_int pins s σ H _ us Q I rv ⟨i, rfl, hz, po.now rp (flat_str F ρ)⟩
    · exact po.elim
  · rename_i y
    obtain ⟨v, rfl, ix⟩ := one_of is
    simp only [Is] at ix; subst ix
    exact SkE.call_str_str pins s σ H _ us Q I rv ⟨y, rfl, po.now rp (flat_str F ρ)⟩
  · exact po.elim
/-! truth by an own __bool__ -/
def truO (c : Nat) (g : List D → Stor → R D) : D → Stor → R Bool := fun x M => match insOf x M with
  | some (c1, _) => if c1 = c then (match g [x] M with
    | .ok (.bl k) M1 => .ok k M1
    | .ex d fs M1 => .ex d fs M1
    | _ => .no) else .no
  | none => .no
theorem tru_own {c : Nat} {f : Addr} {g : List D → Stor → R D} (hs : PySem.W.findIn X.K (.ref (W.T c)) "__bool__" = some (some (.ref f))) (hf : PySem.W.isFn X.K (.ref f) = true) (hg : CallG X W E (.ref f) g) : TruG X W E (truO c g) :=
  fun ξ pins s σ H M F ρ x vx ux Q I rx rp ix po => by
    unfold truO at po
    split at po
    · rename_i c1 l ex
      split at po
      · rename_i hc
        subst hc
        obtain ⟨q, dx, fvs, rfl, hq, _, _⟩ := insOf_ok rp ix ex
        cases rx
        obtain ⟨od, J, _⟩ := inst_of I hq
        obtain ⟨m, hF⟩ := I.fr
        have po2 : Po W ξ (Is W) F ρ (g [x] M) (fun v H' => ∃ k, v = .bl k ∧ Q k H') (E σ) := by
          split at po
          · rename_i k M1 eg
            rw [eg]
            exact fun v F' ρ' H' le pr rp' is => ⟨k, by simpa only [Is] using is, po k F' ρ' H' le pr rp' rfl⟩
          · rename_i d fs M1 eg
            rw [eg]; exact po
          · exact po.elim
        refine PySem.W.truthy_K hF I.ok.mod.kin J hs hf (thn (hg ξ pins s σ H M F ρ _ _ _ _ I (.cons (rel_ref q) .nil) rp (IsL.cons ix IsL.nil) po2) ?_)
        rintro r s' ⟨v, H', I', rv, k, rfl, qk⟩
        cases rv
        exact ⟨H', I', qk⟩
      · exact po.elim
    · exact po.elim
theorem TruG.or {tr tr' : D → Stor → R Bool} (h : TruG X W E tr) (h' : TruG X W E tr') : TruG X W E (fun x M => orR (tr x M) (tr' x M)) :=
  fun ξ pins s σ H M F ρ x vx ux Q I rx rp ix po => by
    cases e : tr x M with
    | no => simp only [e, orR_no] at po; exact h' ξ pins s σ H M F ρ x vx ux Q I rx rp ix po
    | ok k M1 => simp only [e, orR_ok] at po; exact h ξ pins s σ H M F ρ x vx ux Q I rx rp ix (by rw [e]; exact po)
    | ex c fs M1 => simp only [e, orR_ex] at po; exact h ξ pins s σ H M F ρ x vx ux Q I rx rp ix (by rw [e]; exact po)
/-! e.f, a property -/
def noEx (r : R D) : R D := match r with
  | .ok d M => .ok d M
  | _ => .no
theorem ge_prop {c k : Nat} {q0 g0 : Addr} {f : Str} {ps : List Str} {g : List D → Stor → R D} (hK : X.K = W.K) (cl : Cls W.K (W.T c)) (hp : PropOf W.K (W.T c) f q0 g0) (fn : FnB X.prog X.w W X.mg X.base k g0 ps g) (hr : Room (k + 1) X.A) (gd : X.A.guards = some [])
    (he : GE X W E e ga) (hb : attributeBase e f X.env (eval e X.env) = eval e X.env := by rfl) : GE X W E (.Attribute e f pos) (gUn (own1 c fun l N => noEx (g l N)) ga) := by
  refine ⟨fun pins s σ H Q I ⟨ξ, Γ, M, F, ρ, en, rp, po⟩ => ?_⟩
  refine attr_of hb (thn (he.run pins s σ H _ I ⟨ξ, Γ, M, F, ρ, en, rp, po.bind⟩) ?_)
  rintro u s1 ⟨v, H1, I1, rx, d, M1, F1, ρ1, e1, p1, rp1, ix, po1⟩
  obtain ⟨q, dx, fvs, rfl, hq, po2⟩ := own1_ok rp1 ix po1
  obtain rfl : u = Value.ref q := rx
  obtain ⟨fd, FG, b0⟩ := fn.ex
  have po3 : Po W ξ (Is W) F1 ρ1 (g [d] M1) Q (fun _ _ _ => False) := by
    unfold noEx at po2
    split at po2
    · rename_i d2 M2 eg
      rw [eg]; exact po2
    · exact po2.elim
  have sp : spG W g [V.ref q] H1 Q (fun _ _ _ => False) := ⟨ξ, [d], M1, F1, ρ1, IsL.cons ix IsL.nil, rp1, po3⟩
  obtain ⟨od, J, _⟩ := inst_of I1 hq
  obtain ⟨rest, hrec⟩ := hp.rec_
  have I2 := I1.tok (s1.toks + 1)
  have kin : W.K.In s1.heap := by rw [← hK]; exact I1.kIn
  have isC : (PySem.W.clsIn W.K (W.T c)).isSome = true := by
    obtain ⟨cd, ec, _⟩ := PySem.W.any_some cl.hd
    rw [ec]; rfl
  have hl : ([Value.ref q] ++ []).length = ps.length := by rw [← FG.len _ _ _ _ sp]; rfl
  have e0 := I2.env0.in1
  rw [hK] at e0
  refine PySem.W.get_bind kin J (PySem.W.plainGet_of (cl.get f)).1 (PySem.W.findObj_data isC hp.at_ hp.get hp.tak) (PySem.W.plainGet_of (cl.get f)).2 (wpAny_call (PySem.W.prop_get (s := { s1 with toks := s1.toks + 1 }) kin hrec ?_))
  refine codeAny_mono (FG.run X.A.in1 X.stack { s1 with toks := s1.toks + 1 } H1 ⟨[.ref q], []⟩ [.ref q] [.ref q] Q (fun _ _ _ => False) hr.in1 gd e0 (by have z := b0 { s1 with toks := s1.toks + 1 } [.ref q] (by rw [← hK]; exact I2.kIn) hl; simpa using z) (.cons rfl .nil) sp) fun r s' hq' => ?_
  cases r with
  | error er =>
    obtain ⟨_, _, _, _, _, _, _, _, _, _, _, _, z⟩ := hq'
    exact z.elim
  | ok fl =>
    cases fl with
    | ret u =>
      obtain ⟨v, H', I3, rv, q3⟩ := I2.after hq'
      show wpAny _ _ (handedOut u) _ _ _
      rw [PySem.W.handedOut_of (handed_of rv)]
      exact wpAny_pure ⟨v, H', I3, rv, q3⟩
    | next => exact False.elim hq'
    | brk => exact False.elim hq'
    | cont => exact False.elim hq'
/-! bool(x) -/
theorem bool_own {prog : Program} {w : World} {A : Around} {Z : Value → Shared → Prop} {s : Shared} {q : Addr} {Q : Value → Shared → Prop} (h : wpAny (model prog w) A.in1.in1 (truthy (.ref q)) (fun k s' => Q (.bool k) s') Z s) : wpAny (model prog w) A (call (.type "bool") [.ref q]) Q Z s := by
  refine callType_codes (T := "bool") (Bi := Builtin.«object.__init__») (Q₁ := fun r s1 => ∃ k, r = .bool k ∧ Q r s1) PySem.F.called_bool (PySem.F.typeCall_bool_1 _) PySem.F.entry_object_init ?_ ?_
  · refine codeAny_of_tree ?_
    show wpAny _ A.in1.in1 (do checkBuiltinCall "bool.__new__" ⟨[.type "bool", .ref q], []⟩; again (.builtin "bool.__new__" ⟨[.type "bool", .ref q], []⟩)) _ _ s
    refine wpAny_bind (wpAny_of_eq (PySem.F.newCall_bool_1 _) (wpAny_pure ⟨plainId_quiet (by decide +kernel) _, codeAny_builtin PySem.F.entry_bool_new ?_⟩))
    rw [Around.under_plainId (by decide +kernel) _]
    unfold Builtin.«bool.__new__»
    obtain ⟨hp, gg, dr, tk, os⟩ := s
    have f1 := F.conv_sub_bool
    repeat (any_goals (first | assumption | (with_reducible refine wpAny_mono h (fun k s' hk => ?_) (fun _ _ z => z)) | wp_step))
    all_goals first | exact ⟨_, rfl, hk⟩ | exact wpAny_pure ⟨_, rfl, hk⟩ | skip
  · rintro obj s1 ⟨k, rfl, hq⟩
    exact ⟨rfl, PySem.F.args_object_init_2 _ _, object_init_meets PySem.F.called_bool.init.lookup PySem.F.called_bool.made (by decide) prog w A.in1 _ s1 ⟨rfl, rfl, hq⟩⟩
end
end G

namespace G
open PySem PySem.Spec PyProof.Rows L2
/-! ### an int beside an own thing: < <= > >= ; != by an own == -/
theorem dec_lt (a : Int) (t : Tok) (l C dx : Addr) : Meets (Builtin.«int.__lt__» ⟨[.int a t, .ref l], []⟩) (fun _ R s => s.heap.get? l = some (PySem.W.instObj C dx) ∧ R (.ok (.ret .notImplemented)) s) :=
  .of_wp fun prog w A R s h => by obtain ⟨hp, g, d, tk, os⟩ := s; obtain ⟨hl, h⟩ := h; wp_walk using wpAny_loadPart' hl, wpAny_load hl; exact ⟨_, rfl, h⟩
theorem dec_le (a : Int) (t : Tok) (l C dx : Addr) : Meets (Builtin.«int.__le__» ⟨[.int a t, .ref l], []⟩) (fun _ R s => s.heap.get? l = some (PySem.W.instObj C dx) ∧ R (.ok (.ret .notImplemented)) s) :=
  .of_wp fun prog w A R s h => by obtain ⟨hp, g, d, tk, os⟩ := s; obtain ⟨hl, h⟩ := h; wp_walk using wpAny_loadPart' hl, wpAny_load hl; exact ⟨_, rfl, h⟩
theorem dec_gt (a : Int) (t : Tok) (l C dx : Addr) : Meets (Builtin.«int.__gt__» ⟨[.int a t, .ref l], []⟩) (fun _ R s => s.heap.get? l = some (PySem.W.instObj C dx) ∧ R (.ok (.ret .notImplemented)) s) :=
  .of_wp fun prog w A R s h => by obtain ⟨hp, g, d, tk, os⟩ := s; obtain ⟨hl, h⟩ := h; wp_walk using wpAny_loadPart' hl, wpAny_load hl; exact ⟨_, rfl, h⟩
theorem dec_ge (a : Int) (t : Tok) (l C dx : Addr) : Meets (Builtin.«int.__ge__» ⟨[.int a t, .ref l], []⟩) (fun _ R s => s.heap.get? l = some (PySem.W.instObj C dx) ∧ R (.ok (.ret .notImplemented)) s) :=
  .of_wp fun prog w A R s h => by obtain ⟨hp, g, d, tk, os⟩ := s; obtain ⟨hl, h⟩ := h; wp_walk using wpAny_loadPart' hl, wpAny_load hl; exact ⟨_, rfl, h⟩
/-- an int's own comparison declines beside an own thing -/
structure IntCmp (op : CmpOp) : Prop where
  rich : ∀ a b, compareOp op a b = richCompare op a b
  dec : ∃ idl, Slot "int" (cmpInfo op).2.1 idl ∧ ∀ (prog : Program) (w : World) (A : Around) (E : Value → Shared → Prop) (s : Shared) (i : Int) (t : Tok) (x C dx : Addr) (Q' : Value → Shared → Prop),
    s.heap.get? x = some (PySem.W.instObj C dx) → Q' .notImplemented s → wpAny (model prog w) A (call (.builtin idl) [.int i t, .ref x]) Q' E s
theorem intcmp_lt : IntCmp .Lt := ⟨fun _ _ => rfl, _, F.slot_int_lt, fun _ _ _ _ s i t x C dx Q' h q => call_meets F.slot_int_lt (typeIs_int s i t) F.entry_int_lt (F.args_int_lt_2 _ _) (dec_lt i t x C dx) ⟨h, q⟩⟩
theorem intcmp_le : IntCmp .LtE := ⟨fun _ _ => rfl, _, F.slot_int_le, fun _ _ _ _ s i t x C dx Q' h q => call_meets F.slot_int_le (typeIs_int s i t) F.entry_int_le (F.args_int_le_2 _ _) (dec_le i t x C dx) ⟨h, q⟩⟩
theorem intcmp_gt : IntCmp .Gt := ⟨fun _ _ => rfl, _, F.slot_int_gt, fun _ _ _ _ s i t x C dx Q' h q => call_meets F.slot_int_gt (typeIs_int s i t) F.entry_int_gt (F.args_int_gt_2 _ _) (dec_gt i t x C dx) ⟨h, q⟩⟩
theorem intcmp_ge : IntCmp .GtE := ⟨fun _ _ => rfl, _, F.slot_int_ge, fun _ _ _ _ s i t x C dx Q' h q => call_meets F.slot_int_ge (typeIs_int s i t) F.entry_int_ge (F.args_int_ge_2 _ _) (dec_ge i t x C dx) ⟨h, q⟩⟩
section
open PySem.W
variable {prog : Program} {w : World} {A : Around} {E : Value → Shared → Prop} {s : Shared} {K : PySem.W.Frag} {x C f : Addr} {ox : Obj} {od : Option Obj} {i : Int} {t : Tok} {b tb : Value}
theorem cmp_refl {op : CmpOp} {idl : String} {Q : Value → Shared → Prop} (hu : A.units < cLine) (X : K.In s.heap) (I : InstAt s.heap x ox C od) (hsub : subIn K (.ref C) (.type "int") = some false) (sl : Slot "int" (cmpInfo op).2.1 idl)
    (hd : ∀ Q' : Value → Shared → Prop, Q' .notImplemented s → wpAny (model prog w) A (call (.builtin idl) [.int i t, .ref x]) Q' E s)
    (hs : findIn K (.ref C) (cmpInfo op).2.2 = some (some (.ref f))) (hf : isFn K (.ref f) = true)
    (h : wpAny (model prog w) A (call (.ref f) [.ref x, .int i t]) (PySem.W.CmpBack Q) E s) : wpAny (model prog w) A (richCompare op (.int i t) (.ref x)) Q E s := by
  have one : wpAny (model prog w) A (tryCompare (.ref x) (cmpInfo op).2.2 (.int i t)) (fun r s' => ∃ v, r = some v ∧ Q v s') E s := by
    unfold tryCompare
    refine wpAny_bind (ifBound_K X I hs hf (wpAny_mono h (fun v s' hv => ?_) fun _ _ z => z))
    cases v <;> first | exact hv.elim | exact wpAny_pure ⟨_, rfl, hv⟩
  have dec : ∀ Q' : Option Value → Shared → Prop, Q' none s → wpAny (model prog w) A (tryCompare (.int i t) (cmpInfo op).2.1 (.ref x)) Q' E s := fun Q' q => wpAny_tryCompare_declines (typeIs_int s i t) sl (hd _ ⟨rfl, q⟩)
  have L1 : Looks (model prog w) s.heap (typeOf (.int i t)) (.type "int") := Looks.of_pure rfl
  have no1 : oneThing? op (.int i t) (.ref x) = none := rfl
  have hne : (Value.type "int" != Value.ref C) = true := by
    rw [bne_iff_ne]; exact fun z => by cases z
  unfold richCompare
  simp only [no1]
  refine wpAny_holding (wpAny_bind (wpAny_cRoomFor hu (wpAny_bind (L1.here (wpAny_bind (I.type.here ?_))))))
  rw [if_pos hne]
  refine wpAny_bind ((looks_subIn X hsub).here ?_)
  simp only [Bool.false_eq_true, if_false, Bool.not_false, if_true]
  refine wpAny_bind (dec _ ?_)
  refine wpAny_bind (wpAny_mono one (fun r s' z => ?_) fun _ _ z => z)
  obtain ⟨v, rfl, hq⟩ := z
  exact wpAny_pure hq
/-- a special method that is a built-in -/
theorem ifBound_B {M : Model} {name : Str} {id : String} {args : List Value} {Q : Option Value → Shared → Prop} (X : K.In s.heap) (I : InstAt s.heap x ox C od) (hs : findIn K (.ref C) name = some (some (.builtin id))) (hb : ∀ self, bindSpecial (.builtin id) self = pure (.builtin id, [self]))
    (h : wpAny M A (call (.builtin id) (.ref x :: args)) (fun v => Q (some v)) E s) : wpAny M A (callSpecialIfBound? (.ref x) name args) Q E s := by
  have last : wpAny M A (call (.builtin id) ([.ref x] ++ args) >>= fun v => pure (some v)) Q E s := wpAny_bind (wpAny_mono h (fun v s' q => wpAny_pure q) fun _ _ q => q)
  simp only [callSpecialIfBound?, bindSpecialIfBound?]
  refine wpAny_holding (wpAny_bind (wpAny_bind (wpAny_bind (I.type.here ((looks_findIn X hs).here (wpAny_bind (wpAny_askSetting (wpAny_ite ?_))))))))
  split
  · exact wpAny_bind ((Looks.of_pure (hb _)).here (wpAny_pure (by exact last)))
  · exact wpAny_tryCatch (wpAny_bind ((Looks.of_pure (hb _)).here (wpAny_pure (by exact last))))
theorem ne_own {Q : Value → Shared → Prop} (hu : A.units + 1 < cLine) (X : K.In s.heap) (I : InstAt s.heap x ox C od) (hb : Looks (model prog w) s.heap (typeOf b) tb) (hn : notFirst K C tb = true) (hne : findIn K (.ref C) "__ne__" = some (some (.builtin "object.__ne__")))
    (hbd : ∀ self, bindSpecial (.builtin "object.__ne__") self = pure (.builtin "object.__ne__", [self])) (hm : mroIn K C (.type "object") = some true) (he : findIn K (.ref C) "__eq__" = some (some (.ref f))) (hf : isFn K (.ref f) = true)
    (h : wpAny (model prog w) A.in1 (call (.ref f) [.ref x, b]) (fun v s' => ∃ k, v = .bool k ∧ Q (.bool (!k)) s') E s) : wpAny (model prog w) A (richCompare .NotEq (.ref x) b) Q E s := by
  have inner : wpAny (model prog w) A (call (.builtin "object.__ne__") [.ref x, b]) (fun v s' => ∃ k, v = .bool (!k) ∧ Q (.bool (!k)) s') E s := by
    have isO : Looks (model prog w) s.heap (isInstance (.ref x) (.type "object")) true := I.type.andThen (looks_mroIn X hm)
    refine wpAny_call (codeAny_call_builtin (by decide +kernel) F.cmpEntry_ne (@check_slot (model prog w) _ _ s "object.__ne__" "object" "__ne__" (.ref x) [b] [] _ F.cmpKind_ne F.cmpSplit_ne isO (F.cmpArgs_ne _ _) ?_))
    unfold Builtin.«object.__ne__»
    refine wpAny_bind (wpAny_of_eq (a := ((Value.ref x : Value), [b])) (by first | rfl | (simp only [slotArgs]; rfl)) ?_)
    refine wpAny_bind (wpAny_cRoomFor hu ?_)
    refine wpAny_bind (ifBound_K X I he hf (wpAny_mono h (fun v s' hv => ?_) fun _ _ z => z))
    obtain ⟨k, rfl, q⟩ := hv
    refine wpAny_bind (m := truthy (.bool k)) (wpAny_truthy_bool (wpAny_pure ?_))
    exact ⟨k, rfl, q⟩
  have one : wpAny (model prog w) A (tryCompare (.ref x) (cmpInfo .NotEq).2.1 b) (fun r s' => ∃ v, r = some v ∧ Q v s') E s := by
    unfold tryCompare
    refine wpAny_bind (ifBound_B X I hne hbd (wpAny_mono inner (fun v s' hv => ?_) fun _ _ z => z))
    obtain ⟨k, rfl, q⟩ := hv
    exact wpAny_pure ⟨_, rfl, q⟩
  unfold richCompare
  simp only [oneThing_ref]
  refine wpAny_holding (wpAny_bind (wpAny_cRoomFor (by omega) (wpAny_bind (I.type.here (wpAny_bind (hb.here ?_))))))
  split
  · rename_i q
    have e : subIn K tb (.ref C) = some false := by
      rcases Bool.or_eq_true_iff.mp hn with z | z
      · rw [beq_iff_eq.mp z] at q; simp at q
      · exact beq_iff_eq.mp z
    refine wpAny_bind ((looks_subIn X e).here ?_)
    simp only [Bool.false_eq_true, if_false]
    refine wpAny_bind (wpAny_mono one (fun r s' z => ?_) fun _ _ z => z)
    obtain ⟨v, rfl, hq⟩ := z
    exact wpAny_pure hq
  · refine wpAny_bind (wpAny_pure ?_)
    simp only [Bool.false_eq_true, if_false]
    refine wpAny_bind (wpAny_mono one (fun r s' z => ?_) fun _ _ z => z)
    obtain ⟨v, rfl, hq⟩ := z
    exact wpAny_pure hq
end
section
variable {X : Cx} {W : Wd} {ξ : Xi} {E : Sg → XK}
/-- i < x, i an int: x's reflected method -/
def cmpR (c : Nat) (g : List D → Stor → R D) : D → D → Stor → R D := fun x y M => match x with
  | .int _ => (match insOf y M with
    | some (c1, _) => if c1 = c then g [y, x] M else .no
    | none => .no)
  | _ => .no
theorem og_cmpR {c : Nat} {f : Addr} {g : List D → Stor → R D} {op : CmpOp} (Z : IntCmp op) (hu : X.A.units < cLine) (hsub : PySem.W.subIn X.K (.ref (W.T c)) (.type "int") = some false)
    (hs : PySem.W.findIn X.K (.ref (W.T c)) (cmpInfo op).2.2 = some (some (.ref f))) (hf : PySem.W.isFn X.K (.ref f) = true) (hg : CallG X W E (.ref f) g) : OpG X W E (compareOp op) (cmpR c g) :=
  fun ξ pins s σ H M F ρ x y vx vy ux uy Q I rx ry rp ix iy po => by
    unfold cmpR at po
    split at po
    · rename_i j
      split at po
      · rename_i c1 l ey
        split at po
        · rename_i hc
          subst hc
          obtain ⟨q, dx, fvs, rfl, hq, _, _⟩ := insOf_ok rp iy ey
          cases ry
          have ix' := ix
          simp only [Is] at ix'; subst ix'
          obtain ⟨t, rfl⟩ := id rx
          obtain ⟨oe, J, e2⟩ := inst_of I hq
          obtain ⟨idl, sl, dec⟩ := Z.dec
          rw [Z.rich]
          exact cmp_refl hu I.kIn J hsub sl (fun Q' q' => dec _ _ _ _ s j t q _ dx Q' e2 q') hs hf (thn (hg ξ pins s σ H M F ρ _ _ _ Q I (.cons (rel_ref q) (.cons rx .nil)) rp (IsL.cons iy (IsL.cons ix IsL.nil)) po) fun _ _ z => back_of z)
        · exact po.elim
      · exact po.elim
    · exact po.elim
/-- x != y, by x's own == -/
def notB (r : R D) : R D := match r with
  | .ok (.bl k) M => .ok (.bl (!k)) M
  | .ex c fs M => .ex c fs M
  | _ => .no
structure NeC (K : PySem.W.Frag) (C : Addr) : Prop where
  ne : PySem.W.findIn K (.ref C) "__ne__" = some (some (.builtin "object.__ne__"))
  top : PySem.W.mroIn K C (.type "object") = some true
theorem ne_bind (self : Value) : bindSpecial (.builtin "object.__ne__") self = pure (.builtin "object.__ne__", [self]) := by kernel_rfl
theorem og_neO {c : Nat} {f : Addr} {g : List D → Stor → R D} {ok : Nat → Bool} {nf : TK → Bool} (hK : X.K = W.K) (hu : X.A.units + 1 < cLine) (T : NeC X.K (W.T c)) (hs : PySem.W.findIn X.K (.ref (W.T c)) "__eq__" = some (some (.ref f))) (hf : PySem.W.isFn X.K (.ref f) = true)
    (hc : ClsOk W ok) (hn : NfOk W c nf) (hg : CallG (Cx.in1 X) W E (.ref f) g) : OpG X W E (compareOp .NotEq) (cmpO c ok nf fun l N => notB (g l N)) :=
  fun ξ pins s σ H M F ρ x y vx vy ux uy Q I rx ry rp ix iy po => by
    unfold cmpO at po
    split at po
    · rename_i c1 l ex
      split at po
      · rename_i hc1
        subst hc1
        split at po
        · rename_i t et
          split at po
          · rename_i hb
            obtain ⟨b1, b2⟩ := Bool.and_eq_true_iff.mp hb
            obtain ⟨p, dx, fvs, rfl, hp, _, _⟩ := insOf_ok rp ix ex
            cases rx
            obtain ⟨od, J, _⟩ := inst_of I hp
            have ty := tkOf_ok hc rp iy et b1
            rw [← hK] at ty
            obtain ⟨P, kx, hP, _⟩ := L2.kit_of I ry ty
            have nf' := hn t b2
            rw [← hK] at nf'
            have po2 : Po W ξ (Is W) F ρ (g [x, y] M) (fun v H' => ∃ k, v = .bl k ∧ Q (.bl (!k)) H') (E σ) := by
              have po' : Po W ξ (Is W) F ρ (notB (g [x, y] M)) Q (E σ) := po
              clear po
              have po := po'
              clear po'
              unfold notB at po
              split at po
              · rename_i k M1 eg
                rw [eg]
                exact fun v F' ρ' H' le pr rp' is => ⟨k, by simpa only [Is] using is, po _ F' ρ' H' le pr rp' (by simp only [Is])⟩
              · rename_i d fs M1 eg
                rw [eg]; exact po
              · exact po.elim
            show wpAny _ _ (richCompare .NotEq _ _) _ _ _
            refine ne_own hu I.kIn J (kx.ty _ _ I.kIn hP) nf' T.ne ne_bind T.top hs hf (thn (hg ξ pins s σ H M F ρ _ _ _ _ (inv_in1 I) (.cons (rel_ref p) (.cons ry .nil)) rp (IsL.cons ix (IsL.cons iy IsL.nil)) po2) ?_)
            rintro r s' ⟨v, H', I', rv, k, rfl, q⟩
            cases rv
            exact ⟨k, rfl, ⟨.bl (!k), H', inv_out1 I', rfl, q⟩⟩
          · exact po.elim
        · exact po.elim
      · exact po.elim
    · exact po.elim
/-- bool(x) -/
theorem cg_boolO {c : Nat} {f : Addr} {g : List D → Stor → R D} (hs : PySem.W.findIn X.K (.ref (W.T c)) "__bool__" = some (some (.ref f))) (hf : PySem.W.isFn X.K (.ref f) = true) (hg : CallG (Cx.in1 (Cx.in1 X)) W E (.ref f) g) : CallG X W E (.type "bool") (fOwnB c g) :=
  fun ξ pins s σ H M F ρ ds vs us Q I rv rp is po => by
    unfold fOwnB at po
    split at po
    · rename_i d
      obtain ⟨v, rfl, ix⟩ := one_of is
      obtain ⟨q, dx, fvs, rfl, hq, po1⟩ := own1_ok rp ix po
      obtain ⟨u, rfl, ru⟩ := vals1 rv
      cases ru
      obtain ⟨od, J, _⟩ := inst_of I hq
      obtain ⟨m, hF⟩ := I.fr
      refine bool_own (PySem.W.truthy_K hF I.ok.mod.kin J hs hf (thn (hg ξ pins s σ H M F ρ _ _ _ _ (inv_in1 (inv_in1 I)) (.cons (rel_ref q) .nil) rp (IsL.cons ix IsL.nil) (po_bl po1)) ?_))
      rintro r s' ⟨v, H', I', rv', k, rfl, qk⟩
      cases rv'
      exact ⟨.bl k, H', inv_out1 (inv_out1 I'), rfl, qk⟩
    · exact po.elim
end
/-! ### facts as truths -/
open He in
def fxNe (x : Str) : Fx := fun K => eqO (PySem.W.findIn K (.ref (ga K x)) "__ne__") (some (some (.builtin "object.__ne__"))) && decide (PySem.W.mroIn K (ga K x) (.type "object") = some true)
theorem ne_of {K : PySem.W.Frag} {x : Str} (h : fxNe x K = true) : NeC K (He.ga K x) := by
  obtain ⟨h1, h2⟩ := He.ba h
  exact ⟨He.eqO_ok h1, of_decide_eq_true h2⟩
def fxSub (x : Str) : Fx := fun K => decide (PySem.W.subIn K (.ref (He.ga K x)) (.type "int") = some false)
theorem sub_of {K : PySem.W.Frag} {x : Str} (h : fxSub x K = true) : PySem.W.subIn K (.ref (He.ga K x)) (.type "int") = some false := of_decide_eq_true h
def fxFmt (x : Str) : Fx := fun K => He.eqO (PySem.W.findIn K (.ref (He.ga K x)) "__format__") (some (some (.builtin "object.__format__")))
theorem fmt_of {K : PySem.W.Frag} {x : Str} (h : fxFmt x K = true) : PySem.W.findIn K (.ref (He.ga K x)) "__format__" = some (some (.builtin "object.__format__")) := He.eqO_ok h
end G

namespace G
open PySem PySem.Spec PyProof.Rows L2
open He in
def fxProp (x f : Str) : Fx := fun K => eqO (PySem.W.findIn K (.ref (ga K x)) f) (some (some (.ref (ma K (ga K x) f)))) && (eqO (PySem.W.specialIn K (.ref (ma K (ga K x) f)) "__get__") (some (some (.builtin "property.__get__"))) &&
  (decide (PySem.W.takesIn K (.ref (ma K (ga K x) f)) = some true) && (match PySem.W.recIn K (ma K (ga K x) f) "property" with
    | some (.ref _ :: _) => true
    | _ => false)))
theorem prop_of {K : PySem.W.Frag} {x f : Str} (h : fxProp x f K = true) : PropOf K (He.ga K x) f (He.ma K (He.ga K x) f) (He5.wf K (He.ga K x) "property" f) := by
  obtain ⟨h1, h⟩ := He.ba h
  obtain ⟨h2, h⟩ := He.ba h
  obtain ⟨h3, h4⟩ := He.ba h
  refine ⟨He.eqO_ok h1, He.eqO_ok h2, of_decide_eq_true h3, ?_⟩
  unfold He5.wf
  split at h4
  · rename_i f' rest e
    rw [e]; exact ⟨rest, rfl⟩
  · cases h4
section
variable {X : Cx} {W : Wd} {ξ : Xi} {E : Sg → XK} {a b e o tg : Expr} {es : List Expr} {ga gb go ge : GE'} {gs : GA'} {pos pos' p2 p apos kpos : Pos} {x : Str}
/-- {} -/
theorem ge_dct0 : GE X W E (.Dict [] [] pos) (gC (.dct [] [])) :=
  mE pe_dnewK fun σ H Q ⟨ξ, Γ, M, F, ρ, en, rp, po⟩ p n => by
    refine po (.ref p) (upd F p (.dK [])) ρ _ (Le.new (rp.free n)) (List.prefix_refl _) (rp.new n) ?_
    simp only [Is]
    exact ⟨p, [], rfl, upd_same, rfl, IsL.nil⟩
/-- tuple(x) -/
def fTuple : List D → Stor → R D := fun ds M => match ds with
  | [.tup l] => .ok (.tup l) M
  | [x] => (match lstOf x M with
    | some l => .ok (.tup l) M
    | none => .no)
  | _ => .no
theorem cg_tuple (hK : X.K = W.K) : CallG X W E (.type "tuple") fTuple := CallG.of call_tuple_of fun ξ M F H ρ ds vs Q Z rp is po => by
  unfold fTuple at po
  split at po
  · rename_i l
    obtain ⟨v, rfl, ix⟩ := one_of is
    have ix' := ix
    simp only [Is] at ix'
    obtain ⟨q, ys, rfl, hq, hl⟩ := ix'
    exact ⟨q, ys, rfl, .inr ⟨by rw [hK]; exact rp.sub.sqT hq, po.now rp ix⟩⟩
  · obtain ⟨v, rfl, ix⟩ := one_of is
    split at po
    · rename_i l el
      obtain ⟨q, ys, rfl, hq, hl⟩ := lstOf_ok rp ix el
      exact ⟨q, ys, rfl, .inl ⟨by rw [hK]; exact hq, fun p n => new_tup rp hl n po⟩⟩
    · exact po.elim
  · exact po.elim
/-- any, all of truths -/
def blsOf : List D → Option (List Bool)
  | [] => some []
  | .bl b :: ds => (blsOf ds).map (b :: ·)
  | _ => none
theorem blsOf_ok {F : Hp} {ρ : List Addr} : ∀ {ds : List D} {bs : List Bool} {vs : List V}, blsOf ds = some bs → IsL W F ρ ds vs → vs = bs.map V.bl
  | [], _, _, e, h => by cases e; rw [IsL.nil_iff] at h; exact h
  | .bl b :: ds, bs, vs, e, h => by
    obtain ⟨v, r, rfl, h1, h2⟩ := IsL.cons_iff.mp h
    simp only [blsOf, Option.map_eq_some_iff] at e
    obtain ⟨cs, e1, rfl⟩ := e
    simp only [Is] at h1; subst h1
    rw [blsOf_ok e1 h2]; rfl
  | .non :: _, _, _, e, _ => by cases e
  | .int _ :: _, _, _, e, _ => by cases e
  | .str _ :: _, _, _, e, _ => by cases e
  | .ty _ :: _, _, _, e, _ => by cases e
  | .tup _ :: _, _, _, e, _ => by cases e
  | .lst _ :: _, _, _, e, _ => by cases e
  | .lck _ :: _, _, _, e, _ => by cases e
  | .dct _ _ :: _, _, _, e, _ => by cases e
  | .ins _ _ :: _, _, _, e, _ => by cases e
  | .ref _ :: _, _, _, e, _ => by cases e
  | .cls _ :: _, _, _, e, _ => by cases e
  | .exc _ _ _ :: _, _, _, e, _ => by cases e
  | .lam _ _ _ _ _ :: _, _, _, e, _ => by cases e
def fAny : List D → Stor → R D := fun ds M => match ds with
  | [x] => (match (lstOf x M).bind blsOf with
    | some bs => .ok (.bl (bs.any id)) M
    | none => .no)
  | _ => .no
def fAll : List D → Stor → R D := fun ds M => match ds with
  | [x] => (match (lstOf x M).bind blsOf with
    | some bs => .ok (.bl (bs.all id)) M
    | none => .no)
  | _ => .no
theorem cg_any (hK : X.K = W.K) (hc : X.calm = true) : CallG X W E (.builtin "any") fAny := CallG.of (cr_any hc) fun ξ M F H ρ ds vs Q Z rp is po => by
  unfold fAny at po
  split at po
  · obtain ⟨v, rfl, ix⟩ := one_of is
    split at po
    · rename_i bs eb
      obtain ⟨l, el, eb⟩ := Option.bind_eq_some_iff.mp eb
      obtain ⟨q, ys, rfl, hq, hl⟩ := lstOf_ok rp ix el
      refine ⟨q, bs, rfl, ?_, po.now rp (flat_bl F ρ)⟩
      rw [hK, ← blsOf_ok eb hl]; exact hq
    · exact po.elim
  · exact po.elim
theorem cg_all (hK : X.K = W.K) (hc : X.calm = true) : CallG X W E (.builtin "all") fAll := CallG.of (cr_all hc) fun ξ M F H ρ ds vs Q Z rp is po => by
  unfold fAll at po
  split at po
  · obtain ⟨v, rfl, ix⟩ := one_of is
    split at po
    · rename_i bs eb
      obtain ⟨l, el, eb⟩ := Option.bind_eq_some_iff.mp eb
      obtain ⟨q, ys, rfl, hq, hl⟩ := lstOf_ok rp ix el
      refine ⟨q, bs, rfl, ?_, po.now rp (flat_bl F ρ)⟩
      rw [hK, ← blsOf_ok eb hl]; exact hq
    · exact po.elim
  · exact po.elim
/-- l.insert(i, d), l.extend(m), l.pop(i), l.pop() of a list of the store -/
def mInsert : D → List D → Stor → R D := fun x ds M => match x, ds with
  | .ref k, [.int i, d] => (match M[k]? with
    | some (.lst l) => if l.length < 1000000 ∧ 0 ≤ i ∧ i < 1000000 then .ok .non (M.set k (.lst (l.take i.toNat ++ [d] ++ l.drop i.toNat))) else .no
    | _ => .no)
  | _, _ => .no
theorem mg_insert : MtG X W "list.insert" mInsert := ⟨_, mt_insert, fun ξ M F H ρ x ds v vs Q Z rp ix is po => by
  unfold mInsert at po
  split at po
  · rename_i k i d
    split at po
    · rename_i l em
      split at po
      · rename_i hz
        simp only [Is] at ix
        obtain ⟨q, rfl, eq⟩ := ix
        obtain ⟨_, ys, hv, hl⟩ := rp.obj k _ q em eq
        obtain ⟨u1, u2, rfl, i1, i2⟩ := two_of is
        simp only [Is] at i1; subst i1
        refine ⟨q, ys, i, u2, rfl, rfl, hv, Nat.lt_of_lt_of_le (by rw [hl.len]; exact hz.1) (small_line (Nat.le_refl _)), hz.2.1, by omega, ?_⟩
        exact po _ F ρ _ Le.rfl' (List.prefix_refl _) (rp.set eq ⟨_, rfl, ((hl.take _).append (IsL.cons i2 IsL.nil)).append (hl.drop _)⟩) (by simp only [Is])
      · exact po.elim
    · exact po.elim
  · exact po.elim⟩
def mPopAt : D → List D → Stor → R D := fun x ds M => match x, ds with
  | .ref k, [.int i] => (match M[k]? with
    | some (.lst l) => if 0 ≤ i ∧ i < 1000000 then (match l[i.toNat]? with
      | some d => .ok d (M.set k (.lst (l.eraseIdx i.toNat)))
      | none => .no) else .no
    | _ => .no)
  | _, _ => .no
theorem IsL.erase {F : Hp} {ρ : List Addr} : ∀ {ds : List D} {vs : List V} (i : Nat), IsL W F ρ ds vs → IsL W F ρ (ds.eraseIdx i) (vs.eraseIdx i)
  | [], _, i, h => by rw [IsL.nil_iff] at h; subst h; exact IsL.nil
  | d :: ds, _, 0, h => by
    obtain ⟨v, r, rfl, _, t⟩ := IsL.cons_iff.mp h
    exact t
  | d :: ds, _, i + 1, h => by
    obtain ⟨v, r, rfl, h1, t⟩ := IsL.cons_iff.mp h
    exact IsL.cons h1 (IsL.erase i t)
theorem mg_popAt : MtG X W "list.pop" mPopAt := ⟨_, mt_popAt, fun ξ M F H ρ x ds v vs Q Z rp ix is po => by
  unfold mPopAt at po
  split at po
  · rename_i k i
    split at po
    · rename_i l em
      split at po
      · rename_i hz
        split at po
        · rename_i d ed
          simp only [Is] at ix
          obtain ⟨q, rfl, eq⟩ := ix
          obtain ⟨_, ys, hv, hl⟩ := rp.obj k _ q em eq
          obtain ⟨u1, rfl, i1⟩ := one_of is
          simp only [Is] at i1; subst i1
          obtain ⟨y, ey, iy⟩ := hl.get ed
          have hi : i.toNat < ys.length := (List.getElem?_eq_some_iff.mp ey).1
          refine ⟨q, ys, i, i.toNat, y, rfl, rfl, hv, by omega, by omega, ?_, ey, ?_⟩
          · unfold seqIndex?
            have h1 : ¬ i < 0 := by omega
            have h2 : ¬ (ys.length : Int) ≤ i := by omega
            simp [h1, h2]
          · exact po _ F ρ _ Le.rfl' (List.prefix_refl _) (rp.set eq ⟨_, rfl, hl.erase _⟩) iy
        · exact po.elim
      · exact po.elim
    · exact po.elim
  · exact po.elim⟩
end
end G

namespace G
open PySem PySem.Spec PyProof.Rows L2
/-! ### enumerate(list), zip(list, list) -/
def enumD (l : List D) : List D := l.zipIdx.map fun p => .tup [.int (p.2 : Nat), p.1]
def zipD (l m : List D) : List D := (l.zip m).map fun p => .tup [p.1, p.2]
theorem enumD_at {l : List D} {i : Nat} {d : D} (h : (enumD l)[i]? = some d) : ∃ x, l[i]? = some x ∧ d = .tup [.int (i : Nat), x] := by
  unfold enumD at h
  rw [List.getElem?_map, List.getElem?_zipIdx] at h
  cases e : l[i]? with
  | none => rw [e] at h; simp at h
  | some x => rw [e] at h; simp at h; exact ⟨x, rfl, h.symm⟩
theorem enumD_len (l : List D) : (enumD l).length = l.length := by simp [enumD]
theorem zipD_at {l m : List D} {i : Nat} {d : D} (h : (zipD l m)[i]? = some d) : ∃ x y, l[i]? = some x ∧ m[i]? = some y ∧ d = .tup [x, y] := by
  unfold zipD at h
  rw [List.getElem?_map] at h
  cases e : (l.zip m)[i]? with
  | none => rw [e] at h; simp at h
  | some p =>
    rw [e] at h
    simp only [Option.map_some, Option.some.injEq] at h
    obtain ⟨e1, e2⟩ := List.getElem?_zip_eq_some.mp e
    exact ⟨p.1, p.2, e1, e2, h.symm⟩
theorem zipD_len (l m : List D) : (zipD l m).length = min l.length m.length := by simp [zipD]
/-- a list's items, and how long they stand -/
def lstIt (x : D) (M : Stor) : Option (List D × (Stor → Prop)) := match x with
  | .lst l => some (l, anyS)
  | .lck l => some (l, anyS)
  | .ref k => (match M[k]? with
    | some (.lst l) => some (l, fun N => N[k]? = some (.lst l))
    | _ => none)
  | _ => none
section
variable {X : Cx} {W : Wd} {ξ : Xi} {E : Sg → XK} {a b e o tg : Expr} {es : List Expr} {ga gb go ge : GE'} {gs : GA'} {pos pos' p2 p apos kpos tpos : Pos} {x : Str} {elts : List Expr} {kk : Nat}
theorem lstIt_ok {M : Stor} {F H : Hp} {ρ : List Addr} {d : D} {v : V} {l : List D} {keep : Stor → Prop} (rp : Rp W ξ M F H ρ) (ix : Is W F ρ d v) (e : lstIt d M = some (l, keep)) :
    keep M ∧ ∃ q, v = .ref q ∧ ∀ ξ' M' F' H' ρ', Le F F' → ρ <+: ρ' → Rp W ξ' M' F' H' ρ' → keep M' → ∃ vs, SqL W.K H' q vs ∧ IsL W F' ρ' l vs := by
  unfold lstIt at e
  split at e
  · cases e
    simp only [Is] at ix; obtain ⟨q, vs, rfl, hq, hl⟩ := ix
    exact ⟨trivial, q, rfl, fun ξ' M' F' H' ρ' le pr rp' _ => ⟨vs, SqL.of (rp'.sub _ _ (le _ _ hq)), hl.mono le pr⟩⟩
  · cases e
    simp only [Is] at ix; obtain ⟨q, vs, rfl, hq, hl⟩ := ix
    exact ⟨trivial, q, rfl, fun ξ' M' F' H' ρ' le pr rp' _ => ⟨vs, rp'.sub.sqL (le.sqL hq), hl.mono le pr⟩⟩
  · rename_i k
    split at e
    · rename_i l' em
      cases e
      simp only [Is] at ix; obtain ⟨q, rfl, eq⟩ := ix
      refine ⟨em, q, rfl, fun ξ' M' F' H' ρ' le pr rp' hm => ?_⟩
      obtain ⟨_, us, hu, hlu⟩ := rp'.obj k _ q hm (pre_get pr eq)
      exact ⟨us, SqL.of hu, hlu⟩
    · cases e
  · cases e
theorem good_enum {F0 : Hp} {ρ0 : List Addr} {l : List D} {q : Addr} {keep : Stor → Prop} (h : ∀ ξ M F H ρ, Le F0 F → ρ0 <+: ρ → Rp W ξ M F H ρ → keep M → ∃ vs, SqL W.K H q vs ∧ IsL W F ρ l vs) : GoodIt W F0 ρ0 (enumD l, keep) (Ite W.K q) := by
  intro ξ i M F H ρ le pr rp hk
  obtain ⟨vs, hv, hl⟩ := h ξ M F H ρ le pr rp hk
  refine ⟨fun d hd => ?_, fun hi => ⟨vs, hv, by rw [hl.len]; rw [enumD_len] at hi; exact hi⟩⟩
  obtain ⟨x, ex, rfl⟩ := enumD_at hd
  obtain ⟨v, ev, iv⟩ := hl.get ex
  refine ⟨⟨vs, v, hv, ev⟩, ?_⟩
  rintro w H' ⟨T, y, rfl, hT, rfl, hy⟩
  have := hy vs hv
  rw [ev] at this; cases this
  refine ⟨upd F T (.tup [.int (i : Nat), v]), Le.new (rp.free hT), rp.new hT, ?_⟩
  simp only [Is]
  exact ⟨T, _, rfl, SqT.of upd_same, IsL.cons (by simp only [Is]) (IsL.cons (iv.mono (Le.new (rp.free hT)) (List.prefix_refl _)) IsL.nil)⟩
theorem good_zip {F0 : Hp} {ρ0 : List Addr} {l m : List D} {q r : Addr} {keep keep2 : Stor → Prop} (h : ∀ ξ M F H ρ, Le F0 F → ρ0 <+: ρ → Rp W ξ M F H ρ → keep M → ∃ vs, SqL W.K H q vs ∧ IsL W F ρ l vs)
    (h2 : ∀ ξ M F H ρ, Le F0 F → ρ0 <+: ρ → Rp W ξ M F H ρ → keep2 M → ∃ vs, SqL W.K H r vs ∧ IsL W F ρ m vs) : GoodIt W F0 ρ0 (zipD l m, fun N => keep N ∧ keep2 N) (Itz W.K q r) := by
  intro ξ i M F H ρ le pr rp hk
  obtain ⟨vs, hv, hl⟩ := h ξ M F H ρ le pr rp hk.1
  obtain ⟨us, hu, hm⟩ := h2 ξ M F H ρ le pr rp hk.2
  refine ⟨fun d hd => ?_, fun hi => ⟨vs, us, hv, hu, by rw [hl.len, hm.len]; rw [zipD_len] at hi; omega⟩⟩
  obtain ⟨x, y, ex, ey, rfl⟩ := zipD_at hd
  obtain ⟨v, ev, iv⟩ := hl.get ex
  obtain ⟨u, eu, iu⟩ := hm.get ey
  refine ⟨⟨vs, us, v, u, hv, hu, ev, eu⟩, ?_⟩
  rintro w H' ⟨T, x', y', rfl, hT, rfl, hx', hy'⟩
  have z1 := hx' vs hv
  have z2 := hy' us hu
  rw [ev] at z1; cases z1
  rw [eu] at z2; cases z2
  have le' := Le.new (o := HO.tup [v, u]) (rp.free hT)
  refine ⟨upd F T (.tup [v, u]), le', rp.new hT, ?_⟩
  simp only [Is]
  exact ⟨T, _, rfl, SqT.of upd_same, IsL.cons (iv.mono le' (List.prefix_refl _)) (IsL.cons (iu.mono le' (List.prefix_refl _)) IsL.nil)⟩
def giEnum (a : GA') : GI' := fun Γ M => (a Γ M).bind fun xs M1 => match xs with
  | [x] => (match lstIt x M1 with
    | some (l, keep) => .ok (enumD l, keep) M1
    | none => .no)
  | _ => .no
theorem gi_enum (hK : X.K = W.K) (hg : Gl X "enumerate") (hm : X.mg "enumerate" = none) (ha : GA X W E [a] gs) (hs : starEach [a] X.env = [(false, eval a X.env)] := by rfl) : GI X W E (.Tuple elts kk tpos) (.Call (.Name "enumerate" p) [a] [] pos) (giEnum gs) :=
  mI (pi_enum hg hm ha hs) fun σ H Q ⟨ξ, Γ, M, F, ρ, en, rp, po⟩ => ⟨ξ, Γ, M, F, ρ, en, rp, (Po.bind (rel := IsL W) po).imp (by
    rintro vs H1 ⟨xs, M1, F1, ρ1, e1, p1, rp1, is, po1⟩
    split at po1
    · rename_i x
      obtain ⟨v, rfl, ix⟩ := one_of is
      split at po1
      · rename_i l keep el
        obtain ⟨k0, q, rfl, hq⟩ := lstIt_ok rp1 ix el
        obtain ⟨ys, h1, _⟩ := hq ξ M1 F1 H1 ρ1 Le.rfl' (List.prefix_refl _) rp1 k0
        rw [hK]
        exact ⟨q, ys, rfl, h1, po1 _ F1 ρ1 H1 Le.rfl' (List.prefix_refl _) rp1 (good_enum fun ξ M F H ρ le pr rp hk => hq ξ M F H ρ le pr rp hk)⟩
      · exact po1.elim
    · exact po1.elim)⟩
def giZip (a : GA') : GI' := fun Γ M => (a Γ M).bind fun xs M1 => match xs with
  | [x, y] => (match lstIt x M1, lstIt y M1 with
    | some (l, keep), some (m, keep2) => .ok (zipD l m, fun N => keep N ∧ keep2 N) M1
    | _, _ => .no)
  | _ => .no
theorem gi_zip (hK : X.K = W.K) (hg : Gl X "zip") (hm : X.mg "zip" = none) (ha : GA X W E [a, b] gs) (hs : starEach [a, b] X.env = (false, eval a X.env) :: starEach [b] X.env := by rfl) (hpl : (backTo pos (starEach [b] X.env)).any (·.1) = false := by rfl) :
    GI X W E (.Tuple elts kk tpos) (.Call (.Name "zip" p) [a, b] [] pos) (giZip gs) :=
  mI (pi_zip hg hm ha hs hpl) fun σ H Q ⟨ξ, Γ, M, F, ρ, en, rp, po⟩ => ⟨ξ, Γ, M, F, ρ, en, rp, (Po.bind (rel := IsL W) po).imp (by
    rintro vs H1 ⟨xs, M1, F1, ρ1, e1, p1, rp1, is, po1⟩
    split at po1
    · rename_i x y
      obtain ⟨v, u, rfl, ix, iy⟩ := two_of is
      split at po1
      · rename_i l keep m keep2 el em
        obtain ⟨k0, q, rfl, hq⟩ := lstIt_ok rp1 ix el
        obtain ⟨k1, r, rfl, hr⟩ := lstIt_ok rp1 iy em
        obtain ⟨ys, h1, _⟩ := hq ξ M1 F1 H1 ρ1 Le.rfl' (List.prefix_refl _) rp1 k0
        obtain ⟨zs, h2, _⟩ := hr ξ M1 F1 H1 ρ1 Le.rfl' (List.prefix_refl _) rp1 k1
        rw [hK]
        exact ⟨q, r, ys, zs, rfl, h1, h2, po1 _ F1 ρ1 H1 Le.rfl' (List.prefix_refl _) rp1 (good_zip (fun ξ M F H ρ le pr rp hk => hq ξ M F H ρ le pr rp hk) (fun ξ M F H ρ le pr rp hk => hr ξ M F H ρ le pr rp hk))⟩
      · exact po1.elim
    · exact po1.elim)⟩
/-! ### {'k': e} -/
theorem Rp.drop {M : Stor} {F H : Hp} {ρ : List Addr} {z : Addr × HO} (h : Rp W (z :: ξ) M F H ρ) : Rp W ξ M F H ρ :=
  ⟨h.sub, h.len, h.nd, h.obj, fun q hq => h.xt q (List.mem_cons_of_mem _ hq), fun t ht => by
    obtain ⟨t1, t2, t3⟩ := h.tb t ht
    exact ⟨t1, fun q hq => t2 q (List.mem_cons_of_mem _ hq), t3⟩⟩
def gDct1 (k : Str) (v : GE') : GE' := fun Γ M => (v Γ M).bind fun d M1 => .ok (.dct [.inr k] [d]) M1
theorem ge_dct1 {k : Str} {j : _} {pk : Pos} (hv : GE X W E e ge) : GE X W E (.Dict [some (.Constant (.str k) j pk)] [e] pos) (gDct1 k ge) := by
  refine mE (pe_disp (pps_cons (pe_str (x := k)) hv pps_nil) rfl rfl (by simp) (by show 1 ≤ 15; decide)) fun σ H Q ⟨ξ, Γ, M, F, ρ, en, rp, po⟩ q nq => ?_
  have rp1 : Rp W ((q, .dK []) :: ξ) M F (upd H q (.dK [])) ρ := rp.aside nq
  refine ⟨(q, .dK []) :: ξ, Γ, M, F, ρ, en, rp1, ?_⟩
  unfold gDct1 at po
  cases eg : ge Γ M with
  | no => rw [eg] at po; exact po.elim
  | ex c fs M1 =>
    rw [eg] at po
    exact fun dx F' ρ' H' le pr rp' xc => po dx F' ρ' H' le pr rp'.drop xc
  | ok d M1 =>
    rw [eg] at po
    intro v F' ρ' H' le pr rp' iv
    obtain ⟨x1, x2, x3⟩ := rp'.xt _ List.mem_cons_self
    refine ⟨x1, [(.inr k, v)], rfl, by simp, ?_⟩
    have nd : ∀ r ∈ ξ, r.1 ≠ q := fun r hr z => by
      obtain ⟨y1, _, _⟩ := rp.xt r hr
      rw [z, nq] at y1; cases y1
    have rp2 := rp'.aset (ob' := .dK (mergeK [] [(.inr k, v)])) nd
    obtain ⟨rp3, le3⟩ := rp2.firmD nd
    refine po (.ref q) _ ρ' _ (le.tr le3) pr rp3 ?_
    simp only [Is]
    exact ⟨q, [v], rfl, upd_same, rfl, IsL.cons (iv.mono le3 (List.prefix_refl _)) IsL.nil⟩
end
end G

namespace G
open PySem PySem.Spec PyProof.Rows L2
/-! ### repr of data with dicts -/
def keyP : Key → PyData
  | .inl i => .int i
  | .inr x => .str x
mutual
def toPyX : D → Option PyData
  | .non => some .none
  | .bl b => some (.bool b)
  | .int i => some (.int i)
  | .str x => some (.str x)
  | .tup l => (toPyXL l).map PyData.tuple
  | .lst l => (toPyXL l).map PyData.list
  | .lck l => (toPyXL l).map PyData.list
  | .dct ks l => (toPyXL l).map fun ps => PyData.dict ((ks.map keyP).zip ps)
  | .ty _ => none
  | .ins _ _ => none
  | .cls _ => none
  | .ref _ => none
  | .exc _ _ _ => none
  | .lam _ _ _ _ _ => none
def toPyXL : List D → Option (List PyData)
  | [] => some []
  | d :: ds => match toPyX d, toPyXL ds with
    | some x, some xs => some (x :: xs)
    | _, _ => none
end
theorem toPyXL_len : ∀ {l : List D} {ps : List PyData}, toPyXL l = some ps → ps.length = l.length
  | [], _, e => by simp only [toPyXL, Option.some.injEq] at e; subst e; rfl
  | d :: ds, _, e => by
    simp only [toPyXL] at e
    cases e1 : toPyX d with
    | none => rw [e1] at e; cases e
    | some x =>
      cases e2 : toPyXL ds with
      | none => rw [e1, e2] at e; cases e
      | some xs => rw [e1, e2] at e; cases e; simp [toPyXL_len e2]
/-- the table of modules is a dict of the written part -/
structure SysK (K : PySem.W.Frag) : Prop where
  at_ : ∃ o es n, K.lookup sysModules = some o ∧ o.data = .dict es n
section
variable {X : Cx} {W : Wd} {ξ : Xi} {pins : List (Addr × Obj)} {σ : Sg} {F H : Hp} {ρ : List Addr} {s : Shared}
theorem not_sys (S : SysK X.K) (I : Inv X pins σ H s) {a : Addr} {o : Obj} {vs : Array Value} {n : Nat} (h : s.heap.get? a = some o) (hd : o.data = .seq vs n) : a ≠ sysModules := by
  intro z
  obtain ⟨o', es, m, lk, e⟩ := S.at_
  have := I.kIn _ _ lk
  rw [← z, h] at this
  cases this
  rw [hd] at e; cases e
theorem IsL.pair {kvs : List (Key × V)} {ks : List Key} {vs : List V} (hn : ks.length = vs.length) (e : kvs = ks.zip vs) : kvs.map (·.1) = ks ∧ kvs.map (·.2) = vs := by
  subst e
  exact ⟨by rw [List.map_fst_zip (by omega)], by rw [List.map_snd_zip (by omega)]⟩
mutual
theorem toPyX_reads (hK : X.K = W.K) (S : SysK X.K) (I : Inv X pins σ H s) (le : Le F H) : ∀ (d : D) {v : V} {u : Value} {p : PyData}, toPyX d = some p → Is W F ρ d v → RelV v u → ∃ as, Reads s.heap u p as ∧ sysModules ∉ as
  | .non, _, _, _, e, h, r => by simp only [toPyX, Option.some.injEq] at e; simp only [Is] at h; subst e; subst h; cases r; exact ⟨_, Reads.none, by simp⟩
  | .bl b, _, _, _, e, h, r => by simp only [toPyX, Option.some.injEq] at e; simp only [Is] at h; subst e; subst h; cases r; exact ⟨_, Reads.bool b, by simp⟩
  | .int i, _, _, _, e, h, r => by simp only [toPyX, Option.some.injEq] at e; simp only [Is] at h; subst e; subst h; obtain ⟨t, rfl⟩ := r; exact ⟨_, Reads.int i t, by simp⟩
  | .str x, _, _, _, e, h, r => by simp only [toPyX, Option.some.injEq] at e; simp only [Is] at h; subst e; subst h; obtain ⟨t, rfl⟩ := r; exact ⟨_, Reads.str x t, by simp⟩
  | .tup l, _, _, _, e, h, r => by
    simp only [toPyX, Option.map_eq_some_iff] at e; obtain ⟨l', el, rfl⟩ := e
    simp only [Is] at h; obtain ⟨a, vs, rfl, q, hl⟩ := h
    cases r
    obtain ⟨its, rv, ⟨o, ho, hc, n, hd⟩, _⟩ := I.tuple (by rw [hK]; exact le.sqT q)
    obtain ⟨as, hr, ns⟩ := toPyXL_reads hK S I le l el hl rv
    exact ⟨_, Reads.tuple ho hc hd hr, ns⟩
  | .lst l, _, _, _, e, h, r => by
    simp only [toPyX, Option.map_eq_some_iff] at e; obtain ⟨l', el, rfl⟩ := e
    simp only [Is] at h; obtain ⟨a, vs, rfl, q, hl⟩ := h
    cases r
    obtain ⟨its, rv, ⟨o, n, ho, hc, _, hd⟩, _⟩ := I.list (SqL.of (le _ _ q))
    obtain ⟨as, hr, ns⟩ := toPyXL_reads hK S I le l el hl rv
    refine ⟨_, Reads.list ho hc hd hr, ?_⟩
    have := not_sys S I ho hd
    simp only [List.mem_cons, not_or]
    exact ⟨this.symm, ns⟩
  | .lck l, _, _, _, e, h, r => by
    simp only [toPyX, Option.map_eq_some_iff] at e; obtain ⟨l', el, rfl⟩ := e
    simp only [Is] at h; obtain ⟨a, vs, rfl, q, hl⟩ := h
    cases r
    obtain ⟨its, rv, ⟨o, n, ho, hc, _, hd⟩, _⟩ := I.list (by rw [hK]; exact le.sqL q)
    obtain ⟨as, hr, ns⟩ := toPyXL_reads hK S I le l el hl rv
    refine ⟨_, Reads.list ho hc hd hr, ?_⟩
    have := not_sys S I ho hd
    simp only [List.mem_cons, not_or]
    exact ⟨this.symm, ns⟩
  | .dct ks l, _, _, _, e, h, r => by
    simp only [toPyX, Option.map_eq_some_iff] at e; obtain ⟨ps, el, rfl⟩ := e
    simp only [Is] at h; obtain ⟨a, vs, rfl, q, hn, hl⟩ := h
    cases r
    obtain ⟨_, hsys, us, kv, ⟨o, es, ep, ho, hx, hd, _, prs, _⟩⟩ := dk_of I.hok (le _ _ q)
    have hz : ks.length = vs.length := by rw [hn, hl.len]
    have key : ∀ {ks : List Key} {vs : List V} {us : List (Key × Value)} {el : List DictEntry}, ks.length = vs.length → KV (ks.zip vs) us → Pairs (mixKind X.prog X.w) el us → ReadsAll s.heap (el.map (·.key)) (ks.map keyP) [] ∧ Vals vs (el.map (·.val)) := by
      intro ks
      induction ks with
      | nil =>
        intro vs us el hl kv prs
        cases vs with
        | nil =>
          cases kv; cases prs
          exact ⟨ReadsAll.nil, .nil⟩
        | cons _ _ => cases hl
      | cons k ks ih =>
        intro vs us el hl kv prs
        cases vs with
        | nil => cases hl
        | cons v vs =>
          cases kv with
          | cons h t =>
            obtain ⟨hk, hv⟩ := h
            cases prs with
            | cons hi hval tp =>
              obtain ⟨i1, i2⟩ := ih (by simpa using hl) t tp
              rename_i kv' kvs' e es'
              refine ⟨?_, ?_⟩
              · have rd : Reads s.heap e.key (keyP k) [] := by
                  have hk' : k = kv'.1 := hk
                  rcases keyIs_shape (k := kv'.1) (v := e.key) hi with ⟨i, t', e1, e2⟩ | ⟨y, t', e1, e2⟩
                  · rw [e2, hk', e1]; exact Reads.int i t'
                  · rw [e2, hk', e1]; exact Reads.str y t'
                exact ReadsAll.cons rd i1
              · exact .cons (by show RelV v e.val; rw [hval]; exact hv) i2
    obtain ⟨rk, rv⟩ := key hz kv prs
    obtain ⟨bs, hr, ns⟩ := toPyXL_reads hK S I le l el hl rv
    have pl : ps.length = ks.length := by rw [toPyXL_len el, hn]
    have m1 : ((ks.map keyP).zip ps).map (·.1) = ks.map keyP := List.map_fst_zip (by simp [pl])
    have m2 : ((ks.map keyP).zip ps).map (·.2) = ps := List.map_snd_zip (by simp [pl])
    refine ⟨_, Reads.dict ho hx.1 hd (by rw [m1]; exact rk) (by rw [m2]; exact hr), ?_⟩
    have na : sysModules ≠ a := fun z => by rw [z] at hsys; simp at hsys
    simp [na, ns]
  | .ty _, _, _, _, e, _, _ => by simp only [toPyX] at e; cases e
  | .ins _ _, _, _, _, e, _, _ => by simp only [toPyX] at e; cases e
  | .cls _, _, _, _, e, _, _ => by simp only [toPyX] at e; cases e
  | .ref _, _, _, _, e, _, _ => by simp only [toPyX] at e; cases e
  | .exc _ _ _, _, _, _, e, _, _ => by simp only [toPyX] at e; cases e
  | .lam _ _ _ _ _, _, _, _, e, _, _ => by simp only [toPyX] at e; cases e
theorem toPyXL_reads (hK : X.K = W.K) (S : SysK X.K) (I : Inv X pins σ H s) (le : Le F H) : ∀ (ds : List D) {vs : List V} {us : List Value} {ps : List PyData}, toPyXL ds = some ps → IsL W F ρ ds vs → Vals vs us → ∃ as, ReadsAll s.heap us ps as ∧ sysModules ∉ as
  | [], _, _, _, e, h, r => by simp only [toPyXL, Option.some.injEq] at e; subst e; rw [IsL.nil_iff] at h; subst h; cases r; exact ⟨_, ReadsAll.nil, by simp⟩
  | d :: ds, _, _, _, e, h, r => by
    obtain ⟨v, t, rfl, h1, h2⟩ := IsL.cons_iff.mp h
    simp only [toPyXL] at e
    cases r with
    | cons r1 r2 =>
      cases e1 : toPyX d with
      | none => rw [e1] at e; cases e
      | some x =>
        cases e2 : toPyXL ds with
        | none => rw [e1, e2] at e; cases e
        | some xs =>
          rw [e1, e2] at e
          cases e
          obtain ⟨as, q1, n1⟩ := toPyX_reads hK S I le d e1 h1 r1
          obtain ⟨bs, q2, n2⟩ := toPyXL_reads hK S I le ds e2 h2 r2
          exact ⟨_, ReadsAll.cons q1 q2, by simp [n1, n2]⟩
end
def reprOkX (p : PyData) : Bool := p.showable && decide (p.depth ≤ 60) && decide (p.shown.length ≤ 1000000)
/-- repr of lists of data, with dicts in them -/
def fReprX : List D → Stor → R D := fun ds M => match ds with
  | [.lst l] => (match toPyXL l with
    | some ps => if reprOkX (.list ps) then .ok (.str (PyData.list ps).shown) M else .no
    | none => .no)
  | _ => .no
theorem cg_reprX {E : Sg → XK} (hK : X.K = W.K) (S : SysK X.K) (gd : X.A.guards = some []) (hu : X.A.units + 64 < cLine) : CallG X W E (.builtin "repr") fReprX := by
  intro ξ pins s σ H M F ρ ds vs us Q I rv rp is po
  unfold fReprX at po
  split at po
  · rename_i l
    obtain ⟨v, rfl, ix⟩ := one_of is
    split at po
    · rename_i ps ep
      split at po
      · rename_i hz
        simp only [reprOkX, Bool.and_eq_true, decide_eq_true_eq] at hz
        obtain ⟨u, rfl, ru⟩ := vals1 rv
        obtain ⟨as, rd, ns⟩ := toPyX_reads hK S I rp.sub (.lst l) (p := .list ps) (by simp only [toPyX, ep, Option.map_some]) ix ru
        have ix' := ix
        simp only [Is] at ix'
        obtain ⟨a, xs, rfl, _, _⟩ := ix'
        cases ru
        refine repr_of_reads' rd hz.1.1 (fun _ => ns) gd (by have := hz.1.2; omega) (fun b o e => e) (fun h' u tk hk => ?_) (small_line hz.2)
        exact ⟨.str _, H, I.kept hk, ⟨u, rfl⟩, po.now rp (flat_str F ρ)⟩
      · exact po.elim
    · exact po.elim
  · exact po.elim
end
/-! ### the head's facts, with the table of modules -/
def fxSys : Fx := fun K => match K.lookup sysModules with
  | some o => (match o.data with
    | .dict _ _ => true
    | _ => false)
  | none => false
theorem sys_of {K : PySem.W.Frag} (h : fxSys K = true) : SysK K := by
  unfold fxSys at h
  split at h
  · rename_i o lk
    split at h
    · rename_i es n hd
      exact ⟨o, es, n, lk, hd⟩
    · cases h
  · cases h
def asS (g : Addr → Option Obj) (n : Nat) : List Addr := He5.asA g n ++ [sysModules]
def obsSG (n : Nat) (fa : List He.Fa) (fx : List Fx) (fn : List He5.DefA) (g : Addr → Option Obj) : He.AlD := obsE fa fx fn (He.frG g (asS g n))
def hookS (n : Nat) (fa : List He.Fa) (fx : List Fx) (fn : List He5.DefA) : PySem.W.Hook where
  α := He.AlD
  obs := fun s => obsSG n fa fx fn s.heap.get?
  val := fun _ => He5.valA fn
  says := fun _ h => ∃ K : PySem.W.Frag, K.In h ∧ SaysE fa fx fn K
  of := fun _ _ e => ⟨_, He.frG_in, e⟩
  keeps := fun _ _ _ ⟨K, hK, c⟩ k => ⟨K, PySem.W.Frag.In.keeps hK k, c⟩
theorem obsSG_eq {n : Nat} {fa : List He.Fa} {fx : List Fx} {fn : List He5.DefA} {g : Addr → Option Obj} {s : Shared} (h : ∀ a, g a = s.heap.get? a) : obsSG n fa fx fn g = (hookS n fa fx fn).obs s := by
  have e : g = s.heap.get? := funext h
  subst e; rfl
end G

namespace G
open PySem PySem.Spec PyProof.Rows L2
/-! ### a table of isinstance's answers as rows -/
def ckEq : CK → CK → Bool
  | .ty n, .ty m => n == m
  | .own c, .own d => c == d
  | _, _ => false
theorem ckEq_ok : ∀ {a b : CK}, ckEq a b = true → a = b
  | .ty n, .ty m, h => by simp only [ckEq, beq_iff_eq] at h; rw [h]
  | .own n, .own m, h => by simp only [ckEq, beq_iff_eq] at h; rw [h]
  | .ty _, .own _, h => by cases h
  | .own _, .ty _, h => by cases h
def rowTab (rows : List (Nat × CK × Bool)) : Nat → CK → Option Bool := fun c k => (rows.find? fun r => r.1 == c && ckEq r.2.1 k).map (·.2.2)
def fxRows (T : PySem.W.Frag → Nat → Addr) (rows : List (Nat × CK × Bool)) : Fx := fun K => rows.all fun r => decide (PySem.W.kitOne K (.ref (T K r.1)) (match r.2.1 with
  | .ty n => .type n
  | .own c => .ref (T K c)) = some r.2.2)
theorem rows_of {T : PySem.W.Frag → Nat → Addr} {rows : List (Nat × CK × Bool)} {K : PySem.W.Frag} {fn : Nat → List Str} {tb : List (Addr × Str)} (h : fxRows T rows K = true) : IsiEOk ⟨K, T K, fn, tb⟩ (rowTab rows) := by
  intro c k b e
  unfold rowTab at e
  simp only [Option.map_eq_some_iff] at e
  obtain ⟨r, er, rfl⟩ := e
  have m := List.mem_of_find?_eq_some er
  have p := List.find?_some er
  simp only [Bool.and_eq_true, beq_iff_eq] at p
  obtain ⟨p1, p2⟩ := p
  have p2 := ckEq_ok p2
  have q := of_decide_eq_true (List.all_eq_true.mp h r m)
  subst p1
  rw [← p2]
  unfold ckV
  generalize r.2.1 = z at q ⊢
  cases z <;> exact q
/-- [e for x in xs if t] -/
theorem comp_filtF {keep : Stor → Prop} {t : Tgt} {tt : GT'} {te : GE'} {Γ : Gam} {M : Stor} (hk : keep M) (q : D → Bool) (f : D → D) : ∀ (l acc : List D), acc.length + l.length < 1000000 →
    (∀ d ∈ l, ∃ Γ1, t.run d Γ = some Γ1 ∧ tt Γ1 M = .ok (q d) M ∧ te Γ1 M = .ok (f d) M) → compG keep t tt te Γ l M acc = .ok (acc ++ (l.filter q).map f) M
  | [], acc, _, _ => by unfold compG; simp
  | d :: ds, acc, hl, h => by
    obtain ⟨Γ1, e1, e2, e3⟩ := h d List.mem_cons_self
    simp only [List.length_cons] at hl
    have ih := fun acc' hl' => comp_filtF (t := t) (tt := tt) (te := te) (Γ := Γ) hk q f ds acc' hl' fun d' hd => h d' (List.mem_cons_of_mem _ hd)
    unfold compG
    cases hq : q d with
    | true =>
      rw [hq] at e2
      simp only [e1, e2, e3]
      rw [if_pos ⟨hk, by omega⟩, ih (acc ++ [f d]) (by simp; omega)]
      simp [hq]
    | false =>
      rw [hq] at e2
      simp only [e1, e2]
      rw [if_pos hk, ih acc (by omega)]
      simp [hq]
theorem comp_filt {it : GI'} {t : Tgt} {tt : GT'} {te : GE'} {Γ : Gam} {M : Stor} {l : List D} {keep : Stor → Prop} (hi : it Γ M = .ok (l, keep) M) (hk : keep M) (q : D → Bool) (f : D → D) (hl : l.length < 1000000)
    (h : ∀ d ∈ l, ∃ Γ1, t.run d (wipeG Γ t.slots) = some Γ1 ∧ tt Γ1 M = .ok (q d) M ∧ te Γ1 M = .ok (f d) M) : gComp it t tt te Γ M = .ok (.lst ((l.filter q).map f)) M := by
  unfold gComp
  rw [hi]
  simp only [R.bind_ok, hk, if_true]
  rw [comp_filtF hk q f l [] (by simpa using hl) h]
  simp
end G

namespace G
open PySem PySem.Spec PyProof.Rows L2 ClX
section
variable {X : Cx} {W : Wd} {ξ : Xi} {E : Sg → XK} {a b e o tg : Expr} {es : List Expr} {ga gb go ge : GE'} {gs : GA'} {pos pos' p2 p apos kpos tpos : Pos} {x : Str}
/-! ### a sign in a text -/
def dInS : D → D → Stor → R D := fun x y M => match x, y with
  | .str i, .str z => (match i.cps.toList with
    | [c] => .ok (.bl (decide (c ∈ z.cps.toList))) M
    | _ => .no)
  | _, _ => .no
def dNotInS : D → D → Stor → R D := fun x y M => match x, y with
  | .str i, .str z => (match i.cps.toList with
    | [c] => .ok (.bl (!decide (c ∈ z.cps.toList))) M
    | _ => .no)
  | _, _ => .no
theorem one_sign {i : Str} {c : Nat} (h : i.cps.toList = [c]) : i = ⟨#[c]⟩ := by
  obtain ⟨⟨l⟩⟩ := i
  simp only at h
  subst h; rfl
theorem og_inS : OpG X W E (compareOp .In) dInS := OpG.of op_in_sign fun ξ M F H ρ x y vx vy Q Z rp ix iy po => by
  unfold dInS at po
  split at po
  · rename_i i z
    split at po
    · rename_i c hc
      have := one_sign hc
      subst this
      simp only [Is] at ix iy
      subst ix; subst iy
      exact ⟨c, z, rfl, rfl, po.now rp (flat_bl F ρ)⟩
    · exact po.elim
  · exact po.elim
theorem og_notInS : OpG X W E (compareOp .NotIn) dNotInS := OpG.of op_notIn_sign fun ξ M F H ρ x y vx vy Q Z rp ix iy po => by
  unfold dNotInS at po
  split at po
  · rename_i i z
    split at po
    · rename_i c hc
      have := one_sign hc
      subst this
      simp only [Is] at ix iy
      subst ix; subst iy
      exact ⟨c, z, rfl, rfl, po.now rp (flat_bl F ρ)⟩
    · exact po.elim
  · exact po.elim
/-! ### int(text) -/
def fIntS : List D → Stor → R D := fun ds M => match ds with
  | [.str a] => (match PySem.intText? a with
    | some n => if a.length ≤ 640 then .ok (.int n) M else .no
    | none => .no)
  | _ => .no
theorem cg_intS : CallG X W E (.type "int") fIntS := CallG.of call_int_str fun ξ M F H ρ ds vs Q Z rp is po => by
  unfold fIntS at po
  split at po
  · rename_i a
    obtain ⟨v, rfl, ix⟩ := one_of is
    simp only [Is] at ix; subst ix
    split at po
    · rename_i n hn
      split at po
      · rename_i hl
        exact ⟨a, n, rfl, hn, hl, po.now rp (flat_int F ρ)⟩
      · exact po.elim
    · exact po.elim
  · exact po.elim
/-! ### C.m(..), m a classmethod -/
theorem run_gC {k : Nat} {f : Addr} {ps : List Str} {g : List D → Stor → R D} {pins : List (Addr × Obj)} {σ : Sg} {H : Hp} {s : Shared} {Q : VK} {us : List Value} {vs : List V}
    (h : FnB X.prog X.w W X.mg X.base k f ps g) (hK : X.K = W.K) (hr : Room k X.A) (gd : X.A.guards = some []) (hx : Pass X E)
    (I : Inv X pins σ H s) (r : Vals vs us) (sp : spG W g vs H Q (E σ)) : codeAny (model X.prog X.w) X.A (.call (.ref f) ⟨us, []⟩) (fun r s' => match r with
      | .ok (.ret v) => EP X pins σ Q v s'
      | .ok _ => False
      | .error e => X.xe e s') s := by
  obtain ⟨fd, F, hb⟩ := h.ex
  have hlen : us.length = ps.length := by rw [← r.length, F.len _ _ _ _ sp]
  have e0 := I.env0
  rw [hK] at e0
  have hb' := hb s us (by rw [← hK]; exact I.kIn) (by rw [List.append_nil]; exact hlen)
  rw [List.append_nil] at hb'
  refine codeAny_mono (F.run X.A X.stack s H ⟨us, []⟩ us vs Q (E σ) hr gd e0 hb' r sp) fun res s' out => ?_
  cases res with
  | error er => exact hx σ pins H s er s' I out
  | ok fl =>
    cases fl with
    | ret u => exact I.after out
    | next => exact out.elim
    | brk => exact out.elim
    | cont => exact out.elim
theorem ge_cmeth {m : Str} {c n : Nat} {q f : Addr} {mc : Value} {ps : List Str} {g : List D → Stor → R D} {pl : Sem Bool} (h : FnB X.prog X.w W X.mg X.base n f ps g) (hK : X.K = W.K) (hr : Room n X.A) (gd : X.A.guards = some []) (hx : Pass X E) (r : CRead X.K (W.T c) mc) (k : CMet X.K (W.T c) mc m q f) (ho : GE X W E o (gC (.cls c))) (ha : GA X W E (e :: es) gs)
    (he : starEach (e :: es) X.env = (false, eval e X.env) :: starEach es X.env := by rfl) (hpl : (backTo pos (starEach es X.env)).any (·.1) = false := by rfl)
    (ht : eval (.Call (.Attribute o m apos) (e :: es) [] pos) X.env = (do
      let ov ← eval o X.env
      standAt apos.atName
      let (f, first) ← holding [ov] (getMethod ov m pl)
      callWith pos f first (backTo pos (starEach (e :: es) X.env)) (backToKw pos (keywordEach [] X.env))) := by rfl) : GE X W E (.Call (.Attribute o m apos) (e :: es) [] pos) (gCall (fun ds M => g (.cls c :: ds) M) gs) := by
  refine ⟨fun pins s σ H Q I ⟨ξ, Γ, M, F, ρ, en, rp, po⟩ => ?_⟩
  refine PySem.W.methodCall_KW (pl := pl) (thn (ho.run pins s σ H (fun v H1 => v = .ref (W.T c) ∧ ∃ F1 ρ1, Le F F1 ∧ ρ <+: ρ1 ∧ Rp W ξ M F1 H1 ρ1) I ⟨ξ, Γ, M, F, ρ, en, rp, fun v F1 ρ1 H1 le pr rp1 is => ⟨by simpa only [Is] using is, F1, ρ1, le, pr, rp1⟩⟩) ?_) ht
  rintro u s1 ⟨v, H1, I1, r1, rfl, F1, ρ1, le, pr, rp1⟩
  cases r1
  refine getmethcm_ok I1 r k fun s2 I2 => ?_
  refine callwith_cm I2 (base_none I1 (Nat.le_refl _)) k.fi (thn (ha.run pos _ s2 σ H1 _ I2 ⟨ξ, Γ, M, F1, ρ1, en.mono le pr, rp1, (po.mono le pr).bind⟩) ?_) he hpl
  rintro us s3 ⟨vs, H2, I3, rv, ds, M2, F2, ρ2, e2, p2, rp2, is, po2⟩
  refine ⟨⟨pin_at I3, I3.kIn⟩, ?_⟩
  refine thn (wpAny_call (PySem.W.method_call (pin_at I3) (run_gC h hK hr gd hx I3 (us := .ref (W.T c) :: us) (vs := .ref (W.T c) :: vs) (.cons rfl rv) ⟨ξ, .cls c :: ds, M2, F2, ρ2, IsL.cons (by simp only [Is]) is, rp2, po2⟩))) fun _ _ y => unpinE y
/-! ### x(..), the variable x holds a class -/
def gCallV (i c : Nat) (g : List D → Stor → R D) (gs : GA') : GE' := fun Γ M => match Γ[i]? with
  | some (some (.cls c')) => if c' = c then gCall g gs Γ M else .no
  | _ => .no
theorem ge_callV {i c : Nat} {g : List D → Stor → R D} (hc : CallG X W E (.ref (W.T c)) g) (hv : PE X (.Name x p) (tVar i)) (hk : PySem.W.keepIn X.K (.ref (W.T c)) = true) (ha : GA X W E (e :: es) gs)
    (hdb : (x == ("__debug__" : Str)) = false := by decide) (he : starEach (e :: es) X.env = (false, eval e X.env) :: starEach es X.env := by rfl) (hpl : (backTo pos (starEach es X.env)).any (·.1) = false := by rfl) :
    GE X W E (.Call (.Name x p) (e :: es) [] pos) (gCallV i c g gs) := by
  refine ⟨fun pins s σ H Q I ⟨ξ, Γ, M, F, ρ, en, rp, po⟩ => ?_⟩
  unfold gCallV at po
  split at po
  · rename_i c' hd
    split at po
    · rename_i ec
      subst ec
      obtain ⟨v, e1, is⟩ := en.at_ i _ hd
      simp only [Is] at is
      subst is
      refine wpAny_Call_Name_kw (thn (hv.run pins s σ H (fun v H1 => v = .ref (W.T c') ∧ H1 = H) I ⟨_, e1, rfl, rfl⟩) ?_)
      rintro u s1 ⟨v, H1, I1, r1, rfl, rfl⟩
      cases r1
      refine PySem.W.callWith_K (h₀ := X.base) I.ok.mod.kin hk (thn (ha.run pos pins s1 σ _ _ I1 ⟨ξ, Γ, M, F, ρ, en, rp, po.bind⟩) ?_) he hpl
      rintro us s2 ⟨vs, H2, I2, r, ds, M2, F2, ρ2, e2, p2, rp2, is2, po2⟩
      exact ⟨I2.kIn, hc ξ pins s2 σ H2 M2 F2 ρ2 ds vs us Q I2 r rp2 is2 po2⟩
    · exact po.elim
  · exact po.elim
end
end G

namespace G
open PySem PySem.Spec PyProof.Rows L2
section
variable {X : Cx} {W : Wd} {ξ : Xi} {E : Sg → XK}
/-! ### lists of different lengths are not equal -/
def rEqLen (K : PySem.W.Frag) : R2 := fun x y H Q => ∃ a b xs ys, x = .ref a ∧ y = .ref b ∧ SqL K H a xs ∧ SqL K H b ys ∧ xs.length ≠ ys.length ∧ Q (.bl false) H
theorem op_eqLen (hu : X.A.units < cLine) : OpR X (compareOp .Eq) (rEqLen X.K) := by
  intro pins s σ H x y v u Q I rx ry h
  obtain ⟨a, b, xs, ys, rfl, rfl, qa, qb, hl, q⟩ := h
  cases rx; cases ry
  obtain ⟨its, r, pl, _⟩ := I.list qa
  obtain ⟨its2, r2, pl2, _⟩ := I.list qb
  obtain ⟨⟨cls, dd, data, sl⟩, ho, hc, n, hd⟩ := pl.isList
  obtain ⟨⟨cls2, dd2, data2, sl2⟩, ho2, hc2, n2, hd2⟩ := pl2.isList
  simp only at hc hd hc2 hd2
  subst hc hd hc2 hd2
  have hne : (its.toArray.size != its2.toArray.size) = true := by
    have e1 := r.length
    have e2 := r2.length
    simp only [List.size_toArray, bne_iff_ne]
    omega
  show wpAny (model X.prog X.w) X.A (richCompare .Eq (.ref a) (.ref b)) (EP X pins σ Q) X.xe s
  refine wpAny_richCompare_same_room (op := .Eq) ⟨_, ho, rfl⟩ ⟨_, ho2, rfl⟩ F.slot_list_eq (GQ.call_here F.slot_list_eq ⟨_, ho, rfl⟩ F.entry_list_eq (F.args_list_eq_2 _ _) ?_) hu
  exact SeqAt.list_eq_lengthsAt a b its.toArray its2.toArray n n2 dd dd2 sl sl2 hne X.prog X.w X.A _ s ⟨ho, ho2, (fun x => nomatch x), ⟨.bl false, H, I, rfl, q⟩⟩
def dEqLen : D → D → Stor → R D := fun x y M => match lstOf x M, lstOf y M with
  | some l, some m => if l.length = m.length then .no else .ok (.bl false) M
  | _, _ => .no
theorem og_eqLen (hK : X.K = W.K) (hu : X.A.units < cLine) : OpG X W E (compareOp .Eq) dEqLen := OpG.of (op_eqLen hu) fun ξ M F H ρ x y vx vy Q Z rp ix iy po => by
  unfold dEqLen at po
  split at po
  · rename_i l m el em
    split at po
    · exact po.elim
    · rename_i hn
      obtain ⟨a, xs, rfl, qa, la⟩ := lstOf_ok rp ix el
      obtain ⟨b, ys, rfl, qb, lb⟩ := lstOf_ok rp iy em
      rw [← hK] at qa qb
      exact ⟨a, b, xs, ys, rfl, rfl, qa, qb, by rw [la.len, lb.len]; exact hn, po.now rp (flat_bl F ρ)⟩
  · exact po.elim
end
end G

namespace G
open PySem PySem.Spec PyProof.Rows L2
open AutoSeq1 (wpAny_loadPart')
open MeetsSeq MeetsSeq2 MeetsSeq3 SeqRoads2 PySem.SeqAt
/-! ### x in a list of own things -/
section
variable {prog : Program} {w : World} {A : Around} {R : Result → Shared → Prop}
def ContI (prog : Program) (w : World) (A : Around) (R : Result → Shared → Prop) (l : Addr) (x : Value) (N : Nat) (I : Nat → Shared → Prop) : Prop :=
  ∀ i s, I i s → ∃ (items : Array Value) (n : Nat) (dd : Option Addr) (sl : Array (Option Value)), s.heap.get? l = some { cls := .type "list", dict := dd, data := .seq items n, slots := sl } ∧ items.size = N ∧
    ∀ (h1 : i < items.size), wpAny (model prog w) A.in1 (eqBool items[i] x) (fun r s' => (r = true ∧ R (.ok (.ret (.bool true))) s') ∨ (r = false ∧ I (i + 1) s')) (fun e s' => R (.error e) s') s
theorem cont_loopG (l : Addr) (x : Value) (N : Nat) (I : Nat → Shared → Prop) (hl : ContI prog w A R l x N I) (fin : ∀ s, I N s → R (.ok (.ret (.bool false))) s) (k : Nat) :
    ∀ i : Nat, N - i = k → i ≤ N → ∀ s, I i s →
      wpAny (model prog w) A.in1 (Builtin.«list.__contains__.loop» ⟨[.ref l, x, rawInt i], []⟩) (GQ.FinOf prog w A R) (fun e s' => R (.error e) s') s := by
  induction k with
  | zero =>
    intro i hk hi s h
    obtain ⟨items, n, dd, sl, hl1, hs1, _⟩ := hl _ _ h
    have hi' : i = N := by omega
    have hR : R (.ok (.ret (.bool false))) s := fin s (hi' ▸ h)
    obtain ⟨hp, g, d, tk, os⟩ := s
    wp_walk using wpAny_loadPart' hl1
    have hi1 : items[((i : Nat) : Int).toNat]? = none := by simp; omega
    rw [hi1]
    wp_walk
    exact hR
  | succ k ih =>
    intro i hk hi s h
    obtain ⟨items, n, dd, sl, hl1, hs1, turn⟩ := hl _ _ h
    have hlt : i < items.size := by omega
    have ht := turn hlt
    obtain ⟨hp, g, d, tk, os⟩ := s
    wp_walk using wpAny_loadPart' hl1
    have hi1 : items[((i : Nat) : Int).toNat]? = some items[i] := by simp [hlt]
    have hc : ((i : Int) + 1) = ((i + 1 : Nat) : Int) := by omega
    rw [hi1]
    refine wpAny_bind (wpAny_mono ht (fun r s2 h2 => ?_) fun _ _ x => x)
    rcases h2 with ⟨hr, h2⟩ | ⟨hr, h2⟩
    · subst hr
      obtain ⟨hp2, g2, d2, tk2, os2⟩ := s2
      wp_walk
      exact h2
    · subst hr
      have hrec := ih (i + 1) (by omega) (by omega) s2 h2
      obtain ⟨hp2, g2, d2, tk2, os2⟩ := s2
      wp_walk
      rw [hc]
      exact ⟨plainId_quiet plain_contains_loop _, codeAny_builtin entry_contains_loop (by
        rw [Around.under_plainId plain_contains_loop _]
        exact hrec)⟩
theorem cont_listG (l : Addr) (x : Value) (N : Nat) (I : Nat → Shared → Prop) (hl : ContI prog w A R l x N I) (fin : ∀ s, I N s → R (.ok (.ret (.bool false))) s) {s : Shared} (h : I 0 s) :
    wpAny (model prog w) A.in1 (Builtin.«list.__contains__» ⟨[.ref l, x], []⟩) (GQ.FinOf prog w A R) (fun e s' => R (.error e) s') s := by
  have hrec := cont_loopG (A := A) (R := R) l x N I hl fin _ 0 rfl (Nat.zero_le _) s h
  obtain ⟨items, n, dd, sl, hl1, _, _⟩ := hl _ _ h
  obtain ⟨hp, g, d, tk, os⟩ := s
  wp_walk using wpAny_loadPart' hl1
  exact ⟨plainId_quiet plain_contains_loop _, codeAny_builtin entry_contains_loop (by
    rw [Around.under_plainId plain_contains_loop _]
    exact hrec)⟩
end
end G

namespace G
open PySem PySem.Spec PyProof.Rows L2
def isI : D → Bool
  | .int _ => true
  | _ => false
def insI (c : Nat) : D → Bool
  | .ins c' l => decide (c' = c) && l.all isI
  | _ => false
theorem ints_uniq {W : Wd} {F : Hp} {ρ : List Addr} : ∀ {l l' : List D} {vs : List V}, l.all isI = true → l'.all isI = true → IsL W F ρ l vs → IsL W F ρ l' vs → l = l'
  | [], [], _, _, _, _, _ => rfl
  | [], d :: ds, vs, _, _, h, h' => by
    have e1 := h.len
    have e2 := h'.len
    rw [e1] at e2
    simp at e2
  | d :: ds, [], vs, _, _, h, h' => by
    have e1 := h.len
    have e2 := h'.len
    rw [e1] at e2
    simp at e2
  | d :: ds, d' :: ds', vs, a, a', h, h' => by
    obtain ⟨v, r, rfl, h1, h2⟩ := IsL.cons_iff.mp h
    obtain ⟨v', r', e, h1', h2'⟩ := IsL.cons_iff.mp h'
    injection e with e1 e2
    subst e1; subst e2
    simp only [List.all_cons, Bool.and_eq_true] at a a'
    have t := ints_uniq a.2 a'.2 h2 h2'
    subst t
    cases d with
    | int i =>
      cases d' with
      | int j =>
        simp only [Is] at h1 h1'
        subst h1
        injection h1' with q
        rw [q]
      | _ => exact absurd a'.1 (by simp [isI])
    | _ => exact absurd a.1 (by simp [isI])
theorem ins_uniq {W : Wd} {F : Hp} {ρ : List Addr} {c : Nat} {d d' : D} {v : V} (a : insI c d = true) (a' : insI c d' = true) (h : Is W F ρ d v) (h' : Is W F ρ d' v) : d = d' := by
  cases d with
  | ins c1 l =>
    cases d' with
    | ins c2 l' =>
      simp only [insI, Bool.and_eq_true, decide_eq_true_eq] at a a'
      obtain ⟨rfl, a⟩ := a
      obtain ⟨e, a'⟩ := a'
      subst e
      simp only [Is] at h h'
      obtain ⟨q, dx, fvs, rfl, hq, _, is⟩ := h
      obtain ⟨q', dx', fvs', e, hq', _, is'⟩ := h'
      injection e with e
      subst e
      rw [hq] at hq'
      injection hq' with hq'
      injection hq' with _ _ e3
      subst e3
      rw [ints_uniq a a' is is']
    | _ => exact absurd a' (by simp [insI])
  | _ => exact absurd a (by simp [insI])
theorem ins_ref {W : Wd} {F : Hp} {ρ : List Addr} {c : Nat} {d : D} {v : V} (a : insI c d = true) (h : Is W F ρ d v) : ∃ q, v = .ref q := by
  cases d with
  | ins c1 l =>
    simp only [Is] at h
    obtain ⟨q, dx, fvs, rfl, _⟩ := h
    exact ⟨q, rfl⟩
  | _ => exact absurd a (by simp [insI])
open Classical in
noncomputable def inGo (f : Bool → Bool) (op : D → D → Stor → R D) (x : D) (M : Stor) : List D → R D
  | [] => .ok (.bl (f false)) M
  | y :: ys => match op y x M with
    | .ok (.bl b) M' => if M' = M then (if b then .ok (.bl (f true)) M else inGo f op x M ys) else .no
    | _ => .no
open Classical in
noncomputable def dInF (f : Bool → Bool) (c : Nat) (op : D → D → Stor → R D) : D → D → Stor → R D := fun x y M => match y with
  | .lst l => if insI c x = true ∧ l.all (insI c) = true ∧ op x x M = .ok (.bl true) M then inGo f op x M l else .no
  | _ => .no
section
variable {X : Cx} {W : Wd} {E : Sg → XK}
theorem og_inF {c : Nat} {cmp : CmpOp} {f : Bool → Bool} {op : D → D → Stor → R D} (hcmp : ∀ c x, compareOp cmp x c = (do return Value.bool (f (← contains c x)))) (hop : OpG (Cx.in1 X) W E (compareOp .Eq) op) : OpG X W E (compareOp cmp) (dInF f c op) := by
  intro ξ pins s σ H M F ρ x y vx vy ux uy Q I rx ry rp ix iy po
  unfold dInF at po
  split at po
  · rename_i l
    split at po
    · rename_i hz
      obtain ⟨hx, hl, hxx⟩ := hz
      obtain ⟨a, rfl⟩ := ins_ref hx ix
      cases rx
      have iy' := iy
      simp only [Is] at iy'
      obtain ⟨q, vs, rfl, hq, il⟩ := iy'
      cases ry
      have tq : s.TypeIs (.ref q) "list" := by
        obtain ⟨its, r, pl, _⟩ := I.list (SqL.of (rp.sub _ _ hq))
        obtain ⟨o, ho, hc, n, hd⟩ := pl.isList
        exact ⟨o, ho, hc⟩
      rw [hcmp]
      refine wpAny_bind (wpAny_contains_slot tq PySem.F.slot_list_contains (wpAny_mono (Q := fun v s' => ∃ b, v = .bool b ∧ EP X pins σ Q (.bool (f b)) s') (GQ.call_here PySem.F.slot_list_contains tq PySem.F.entry_list_contains (PySem.F.args_list_contains_2 _ _)
        (cont_listG (R := PySem.wants (fun v s' => ∃ b, v = .bool b ∧ EP X pins σ Q (.bool (f b)) s') X.xe) q (.ref a) vs.length (fun i s' => ∃ H1 F1 ρ1, Inv X pins σ H1 s' ∧ Le F F1 ∧ ρ <+: ρ1 ∧ Rp W ξ M F1 H1 ρ1 ∧ Po W ξ (Is W) F ρ (inGo f op x M (l.drop i)) Q (E σ)) ?turn ?fin ⟨H, F, ρ, I, Le.rfl', List.prefix_refl _, rp, po⟩)) (fun v s' hv => ?last) fun _ _ e => e))
      case last =>
        obtain ⟨b, rfl, hq⟩ := hv
        exact wpAny_truthy_bool (wpAny_pure hq)
      case fin =>
        rintro s' ⟨H1, F1, ρ1, I1, le, pr, rp1, po1⟩
        rw [List.drop_of_length_le (by rw [il.len]; exact Nat.le_refl _)] at po1
        exact ⟨false, rfl, .bl (f false), H1, I1, rfl, (po1.mono le pr).now rp1 (flat_bl F1 ρ1)⟩
      case turn =>
        rintro i s' ⟨H1, F1, ρ1, I1, le, pr, rp1, po1⟩
        obtain ⟨its, r, pl, _⟩ := I1.list (SqL.of (rp1.sub _ _ (le _ _ hq)))
        obtain ⟨⟨cls, dd, data, sl⟩, ho, hc, n, hd⟩ := pl.isList
        simp only at hc hd
        subst hc hd
        refine ⟨its.toArray, n, dd, sl, ho, by rw [List.size_toArray, ← r.length], fun h1 => ?_⟩
        have h1' : i < its.length := by simpa using h1
        have hv : i < vs.length := by rw [r.length]; exact h1'
        have hli : i < l.length := by rw [← il.len]; exact hv
        obtain ⟨u, hu, ru⟩ := r.get (List.getElem?_eq_getElem hv)
        have hu' : its.toArray[i] = u := by
          rw [List.getElem?_eq_getElem h1'] at hu
          simpa using hu
        rw [hu']
        obtain ⟨v, hv2, iv⟩ := il.get (List.getElem?_eq_getElem hli)
        rw [List.getElem?_eq_getElem hv] at hv2
        injection hv2 with hv2
        rw [hv2] at ru
        have ai : insI c l[i] = true := List.all_eq_true.mp hl _ (List.getElem_mem hli)
        obtain ⟨b, rfl⟩ := ins_ref ai iv
        cases ru
        rw [List.drop_eq_getElem_cons hli] at po1
        by_cases hab : b = a
        · subst hab
          have ed := ins_uniq ai hx iv ix
          unfold inGo at po1
          rw [ed, hxx] at po1
          simp only [if_true] at po1
          exact SeqAt.EqAt.same (A := X.A.in1) (s := s') (.ref b) X.prog X.w X.xe _ (.inl ⟨rfl, true, rfl, .bl (f true), H1, I1, rfl, (po1.mono le pr).now rp1 (flat_bl F1 ρ1)⟩)
        · refine GQ.eqBool_refG hab ?_
          unfold inGo at po1
          split at po1
          · rename_i bb M' eo
            split at po1
            · rename_i eM
              subst eM
              refine wpAny_mono (hop ξ pins s' σ H1 M' F1 ρ1 l[i] x (.ref b) (.ref a) (.ref b) (.ref a) (fun v H2 => v = .bl bb ∧ ∃ F2 ρ2, Le F1 F2 ∧ ρ1 <+: ρ2 ∧ Rp W ξ M' F2 H2 ρ2) (inv_in1 I1) rfl rfl rp1 (iv.mono le pr) (ix.mono le pr) ?_) (fun v s2 hv => ?_) fun _ _ e => e
              · rw [eo]
                exact fun v F2 ρ2 H2 le2 pr2 rp2 is2 => ⟨by simpa only [Is] using is2, F2, ρ2, le2, pr2, rp2⟩
              · obtain ⟨v', H2, I2, r2, rfl, F2, ρ2, le2, pr2, rp2⟩ := EP.out1 hv
                cases r2
                refine ⟨bb, rfl, ?_⟩
                cases bb with
                | true =>
                  simp only [if_true] at po1
                  exact .inl ⟨rfl, true, rfl, .bl (f true), H2, I2, rfl, (po1.mono (le.tr le2) (pr.trans pr2)).now rp2 (flat_bl F2 ρ2)⟩
                | false =>
                  simp only [Bool.false_eq_true, if_false] at po1
                  exact .inr ⟨rfl, H2, F2, ρ2, I2, le.tr le2, pr.trans pr2, rp2, po1⟩
            · exact po1.elim
          · exact po1.elim
    · exact po.elim
  · exact po.elim
noncomputable abbrev dInO (c : Nat) (op : D → D → Stor → R D) := dInF (fun b => b) c op
noncomputable abbrev dNotInO (c : Nat) (op : D → D → Stor → R D) := dInF (fun b => !b) c op
theorem og_inO {c : Nat} {op : D → D → Stor → R D} (hop : OpG (Cx.in1 X) W E (compareOp .Eq) op) : OpG X W E (compareOp .In) (dInO c op) := og_inF (fun _ _ => rfl) hop
theorem og_notInO {c : Nat} {op : D → D → Stor → R D} (hop : OpG (Cx.in1 X) W E (compareOp .Eq) op) : OpG X W E (compareOp .NotIn) (dNotInO c op) := og_inF (fun _ _ => rfl) hop
end
end G

namespace G
open PySem PySem.Spec PyProof.Rows L2 He ClX
/-- C.m is a classmethod, its def at f -/
structure CmK (K : PySem.W.Frag) (C : Addr) (m : Str) (f : Addr) : Prop where
  rd : CRead K C (.type "type")
  ex : ∃ q, CMet K C (.type "type") m q f
def fxCm (x m : Str) : Fx := fun K => PySem.W.readsIn K (ga K x) (.type "type") && (eqO (PySem.W.specialIn K (.ref (ga K x)) "__getattribute__") (some (some (.builtin "type.__getattribute__"))) &&
  (He5.wrapB K (ga K x) "classmethod" "classmethod.__get__" m && PySem.W.fnIn K (He5.wf K (ga K x) "classmethod" m)))
theorem cm_of {K : PySem.W.Frag} {x m : Str} (h : fxCm x m K = true) : CmK K (He.ga K x) m (He5.wf K (He.ga K x) "classmethod" m) := by
  obtain ⟨h1, h⟩ := He.ba h
  obtain ⟨h2, h⟩ := He.ba h
  obtain ⟨h3, h4⟩ := He.ba h
  obtain ⟨k1, rest, k2⟩ := He5.wrapB_ok h3
  exact ⟨⟨h1, He.eqO_ok h2⟩, _, ⟨k1, ⟨rest, k2⟩, h4⟩⟩
end G

namespace G
open PySem L2
/-! ### reckoning: for and comprehensions over what is known -/
noncomputable def forX (tg : GG') (b : GS') (x : D) : GS' := gFor (giSeq (gC x)) tg b
theorem bindS_bind {α β : Type} (r : R α) (f : α → Stor → R β) (Γ : Gam) (k : β → Stor → RS) : (r.bind f).bindS Γ k = r.bindS Γ fun x M => (f x M).bindS Γ k := by cases r <;> rfl
theorem bind_bind {α β γ : Type} (r : R α) (f : α → Stor → R β) (k : β → Stor → R γ) : (r.bind f).bind k = r.bind fun x M => (f x M).bind k := by cases r <;> rfl
theorem for_seq (g : GE') (tg : GG') (b : GS') (Γ : Gam) (M : Stor) : gFor (giSeq g) tg b Γ M = (g Γ M).bindS Γ fun x M1 => forX tg b x Γ M1 := by
  unfold forX gFor giSeq
  rw [bindS_bind]; rfl
theorem forX_lst (tg : GG') (b : GS') (l : List D) (Γ : Gam) (M : Stor) : forX tg b (.lst l) Γ M = loopG anyS tg b l Γ M := by
  unfold forX gFor giSeq gC
  simp only [R.bind_ok, R.bindS_ok, if_true]
theorem forX_tup (tg : GG') (b : GS') (l : List D) (Γ : Gam) (M : Stor) : forX tg b (.tup l) Γ M = loopG anyS tg b l Γ M := by
  unfold forX gFor giSeq gC
  simp only [R.bind_ok, R.bindS_ok, if_true]
noncomputable def compX (t : Tgt) (tt : GT') (te : GE') (x : D) : GE' := gComp (giSeq (gC x)) t tt te
theorem comp_seq (g : GE') (t : Tgt) (tt : GT') (te : GE') (Γ : Gam) (M : Stor) : gComp (giSeq g) t tt te Γ M = (g Γ M).bind fun x M1 => compX t tt te x Γ M1 := by
  unfold compX gComp giSeq
  rw [bind_bind]; rfl
theorem compX_lst (t : Tgt) (tt : GT') (te : GE') (l : List D) (Γ : Gam) (M : Stor) (q : D → Bool) (f : D → D) (hl : l.length < 1000000)
    (h : ∀ d ∈ l, ∃ Γ1, t.run d (wipeG Γ t.slots) = some Γ1 ∧ tt Γ1 M = .ok (q d) M ∧ te Γ1 M = .ok (f d) M) : compX t tt te (.lst l) Γ M = .ok (.lst ((l.filter q).map f)) M :=
  comp_filt (keep := anyS) rfl trivial q f hl h
theorem compX_tup (t : Tgt) (tt : GT') (te : GE') (l : List D) (Γ : Gam) (M : Stor) (q : D → Bool) (f : D → D) (hl : l.length < 1000000)
    (h : ∀ d ∈ l, ∃ Γ1, t.run d (wipeG Γ t.slots) = some Γ1 ∧ tt Γ1 M = .ok (q d) M ∧ te Γ1 M = .ok (f d) M) : compX t tt te (.tup l) Γ M = .ok (.lst ((l.filter q).map f)) M :=
  comp_filt (keep := anyS) rfl trivial q f hl h
theorem compX_lst0 (t : Tgt) (te : GE') (l : List D) (Γ : Gam) (M : Stor) (f : D → D) (hl : l.length < 1000000)
    (h : ∀ d ∈ l, ∃ Γ1, t.run d (wipeG Γ t.slots) = some Γ1 ∧ te Γ1 M = .ok (f d) M) : compX t gYes te (.lst l) Γ M = .ok (.lst (l.map f)) M :=
  comp_all (keep := anyS) rfl trivial f hl h
theorem compX_tup0 (t : Tgt) (te : GE') (l : List D) (Γ : Gam) (M : Stor) (f : D → D) (hl : l.length < 1000000)
    (h : ∀ d ∈ l, ∃ Γ1, t.run d (wipeG Γ t.slots) = some Γ1 ∧ te Γ1 M = .ok (f d) M) : compX t gYes te (.tup l) Γ M = .ok (.lst (l.map f)) M :=
  comp_all (keep := anyS) rfl trivial f hl h
noncomputable def forE (tg : GG') (b : GS') (x : D) : GS' := gFor (giEnum (gCons (gC x) gNil)) tg b
theorem for_enum (g : GE') (tg : GG') (b : GS') (Γ : Gam) (M : Stor) : gFor (giEnum (gCons g gNil)) tg b Γ M = (g Γ M).bindS Γ fun x M1 => forE tg b x Γ M1 := by
  unfold forE gFor giEnum gCons gNil gC
  rw [bindS_bind]
  cases e : g Γ M <;> rfl
theorem forE_lst (tg : GG') (b : GS') (l : List D) (Γ : Gam) (M : Stor) : forE tg b (.lst l) Γ M = loopG anyS tg b (enumD l) Γ M := by
  unfold forE gFor giEnum gCons gNil gC
  simp only [R.bind_ok, R.bindS_ok, lstIt, if_true]
theorem loop_fold {σ : Type} {tg : GG'} {b : GS'} {M : Stor} (G : σ → Gam) (step : σ → D → σ) : ∀ (l : List D) (s : σ), (∀ s, ∀ d ∈ l, ∃ Γ1, tg d (G s) M = some (Γ1, M) ∧ b Γ1 M = .nx (G (step s d)) M) → loopG anyS tg b l (G s) M = .nx (G (l.foldl step s)) M
  | [], s, _ => by unfold loopG; rfl
  | d :: ds, s, h => by
    obtain ⟨Γ1, e1, e2⟩ := h s d List.mem_cons_self
    unfold loopG
    rw [e1]; dsimp only; rw [e2]; dsimp only
    rw [if_pos trivial]
    exact loop_fold G step ds (step s d) fun s' d' hd => h s' d' (List.mem_cons_of_mem _ hd)
theorem loop_nilA {tg : GG'} {b : GS'} {Γ : Gam} {M : Stor} : loopG anyS tg b [] Γ M = .nx Γ M := by unfold loopG; rfl
theorem loop_cons {tg : GG'} {b : GS'} {d : D} {ds : List D} {Γ Γ1 Γ2 : Gam} {M M1 M2 : Stor} (h1 : tg d Γ M = some (Γ1, M1)) (h2 : b Γ1 M1 = .nx Γ2 M2) : loopG anyS tg b (d :: ds) Γ M = loopG anyS tg b ds Γ2 M2 := by
  conv => lhs; unfold loopG
  rw [h1]; dsimp only; rw [h2]; dsimp only
  rw [if_pos trivial]
theorem loop_consR {tg : GG'} {b : GS'} {d : D} {ds : List D} {Γ Γ1 : Gam} {M M1 M2 : Stor} {v : D} (h1 : tg d Γ M = some (Γ1, M1)) (h2 : b Γ1 M1 = .rt v M2) : loopG anyS tg b (d :: ds) Γ M = .rt v M2 := by
  conv => lhs; unfold loopG
  rw [h1]; dsimp only; rw [h2]
theorem loop_consX {tg : GG'} {b : GS'} {d : D} {ds : List D} {Γ Γ1 Γ2 : Gam} {M M1 M2 : Stor} {c : Nat} {f : Flds} (h1 : tg d Γ M = some (Γ1, M1)) (h2 : b Γ1 M1 = .ex c f Γ2 M2) : loopG anyS tg b (d :: ds) Γ M = .ex c f Γ2 M2 := by
  conv => lhs; unfold loopG
  rw [h1]; dsimp only; rw [h2]
theorem comp_mapA {α : Type} {keep : Stor → Prop} {t : Tgt} {tt : GT'} {te : GE'} {Γ : Gam} {M : Stor} (hk : keep M) (F H : α → D) : ∀ (l : List α) (acc : List D), acc.length + l.length < 1000000 →
    (∀ a ∈ l, ∃ Γ1, t.run (F a) Γ = some Γ1 ∧ tt Γ1 M = .ok true M ∧ te Γ1 M = .ok (H a) M) → compG keep t tt te Γ (l.map F) M acc = .ok (acc ++ l.map H) M
  | [], acc, _, _ => by simp only [List.map_nil]; unfold compG; simp
  | a :: as, acc, hl, h => by
    obtain ⟨Γ1, e1, e2, e3⟩ := h a List.mem_cons_self
    simp only [List.length_cons] at hl
    rw [List.map_cons]
    unfold compG
    simp only [e1, e2, e3]
    rw [if_pos ⟨hk, by omega⟩, comp_mapA hk F H as (acc ++ [H a]) (by simp; omega) fun a' ha => h a' (List.mem_cons_of_mem _ ha)]
    simp
theorem compX_mapA {α : Type} (t : Tgt) (te : GE') (F H : α → D) (l : List α) (Γ : Gam) (M : Stor) (hl : l.length < 1000000)
    (h : ∀ a ∈ l, ∃ Γ1, t.run (F a) (wipeG Γ t.slots) = some Γ1 ∧ te Γ1 M = .ok (H a) M) : compX t gYes te (.lst (l.map F)) Γ M = .ok (.lst (l.map H)) M := by
  unfold compX gComp giSeq gC
  simp only [R.bind_ok, if_true]
  rw [comp_mapA (tt := gYes) (keep := anyS) trivial F H l [] (by simpa using hl) fun a ha => let ⟨Γ1, x, y⟩ := h a ha; ⟨Γ1, x, rfl, y⟩]
  simp
theorem gg2 (i j : Nat) (u v : D) (Γ : Gam) (M : Stor) : ggTup 2 (ggCons (ggName i) (ggCons (ggName j) ggNil)) (.tup [u, v]) Γ M = some ((Γ.set i (some u)).set j (some v), M) := rfl
theorem gg3 (i j k : Nat) (u v w : D) (Γ : Gam) (M : Stor) : ggTup 3 (ggCons (ggName i) (ggCons (ggName j) (ggCons (ggName k) ggNil))) (.tup [u, v, w]) Γ M = some (((Γ.set i (some u)).set j (some v)).set k (some w), M) := rfl
end G

namespace G
open PySem PySem.Spec PyProof.Rows L2
section
variable {X : Cx} {W : Wd} {pos : Pos}
/-! ### a, b = a list -/
def ggUnl (n : Nat) (r : GGs') : GG' := fun d Γ M => match d with
  | .lst ds => if ds.length = n then r ds Γ M else none
  | .lck ds => if ds.length = n then r ds Γ M else none
  | _ => none
theorem gg_unl {es : List Expr} {k n : Nat} {r : GGs'} (hK : X.K = W.K) (hc : X.calm = true) (h : GGs X W es r) (hn : (assignEach es X.env).length = n := by rfl) (hst : (assignEach es X.env).findIdx? (·.1) = none := by rfl) : GG X W (.Tuple es k pos) (ggUnl n r) :=
  mG (pg_unl hc h hn hst) fun v σ H Q ⟨ξ, d, Γ, M, F, ρ, is, en, rp, po⟩ => by
    cases d with
    | lst ds =>
      simp only [Is] at is
      obtain ⟨p, vs, rfl, q, hl⟩ := is
      simp only [ggUnl] at po
      split at po
      · rename_i hz
        exact ⟨p, vs, rfl, by rw [hK]; exact rp.sub.sqL (.inl (.inl q)), by rw [hl.len]; exact hz, ξ, ds, Γ, M, F, ρ, hl, en, rp, po⟩
      · exact po.elim
    | lck ds =>
      simp only [Is] at is
      obtain ⟨p, vs, rfl, q, hl⟩ := is
      simp only [ggUnl] at po
      split at po
      · rename_i hz
        exact ⟨p, vs, rfl, by rw [hK]; exact rp.sub.sqL q, by rw [hl.len]; exact hz, ξ, ds, Γ, M, F, ρ, hl, en, rp, po⟩
      · exact po.elim
    | _ => exact po.elim
theorem gu2 (i j : Nat) (u v : D) (Γ : Gam) (M : Stor) : ggUnl 2 (ggCons (ggName i) (ggCons (ggName j) ggNil)) (.lst [u, v]) Γ M = some ((Γ.set i (some u)).set j (some v), M) := rfl
theorem gu3 (i j k : Nat) (u v w : D) (Γ : Gam) (M : Stor) : ggUnl 3 (ggCons (ggName i) (ggCons (ggName j) (ggCons (ggName k) ggNil))) (.lst [u, v, w]) Γ M = some (((Γ.set i (some u)).set j (some v)).set k (some w), M) := rfl
end
end G

namespace G
open PySem L2 SX
/-! ### texts as lists of signs -/
theorem str_S (x : Str) : x = S x.cps.toList := (S_tl x).symm
theorem S_eq {a b : List Nat} : (S a = S b) = (a = b) := propext ⟨S_inj, fun h => by rw [h]⟩
theorem S_list (a : List Nat) : (S a).cps.toList = a := by simp
theorem S_app (a b : List Nat) : (S a ++ S b : Str) = S (a ++ b) := S_cat a b
theorem cut_to (a : List Nat) (n : Nat) : cutS (S a) none (some (n : Int)) = S (a.take n) := by
  unfold cutS
  rw [HT.sIx_none, HT.sIx_nat, S_len, S_list]
  show S _ = S _
  congr 1
  simp only [Nat.sub_zero, List.drop_zero]
  by_cases h : n ≤ a.length
  · rw [Nat.min_eq_left h]
  · rw [Nat.min_eq_right (by omega), List.take_of_length_le (by omega), List.take_of_length_le (by omega)]
theorem cut_from (a : List Nat) (n : Nat) : cutS (S a) (some (n : Int)) none = S (a.drop n) := by
  unfold cutS
  rw [HT.sIx_none, HT.sIx_nat, S_len, S_list]
  show S _ = S _
  congr 1
  by_cases h : n ≤ a.length
  · rw [Nat.min_eq_left h, List.take_of_length_le (by simp)]
  · rw [Nat.min_eq_right (by omega), List.drop_of_length_le (by omega), List.drop_of_length_le (by omega)]; simp
theorem cut_mid (a : List Nat) (i j : Nat) : cutS (S a) (some (i : Int)) (some (j : Int)) = S ((a.drop i).take (j - i)) := by
  unfold cutS
  rw [HT.sIx_nat, HT.sIx_nat, S_len, S_list]
  show S _ = S _
  congr 1
  by_cases h : i ≤ a.length
  · rw [Nat.min_eq_left h]
    by_cases h2 : j ≤ a.length
    · rw [Nat.min_eq_left h2]
    · rw [Nat.min_eq_right (by omega), List.take_of_length_le (by simp), List.take_of_length_le (by simp; omega)]
  · rw [Nat.min_eq_right (show a.length ≤ i by omega), List.drop_of_length_le (by omega), List.drop_of_length_le (by omega)]; simp
theorem tIx {a : List Nat} {i c : Nat} (M : Stor) (hl : a.length ≤ 1000000) (h : a[i]? = some c) : dIx (.str (S a)) (.int i) M = .ok (.str (S [c])) M := by
  have hi : i < a.length := (List.getElem?_eq_some_iff.mp h).1
  have e : L2.atI (S a).cps.toList (i : Int) = some c := by
    rw [S_list]
    unfold L2.atI L2.ixN
    rw [if_pos (by omega), if_pos (by omega)]
    simpa using h
  show (if (S a).length ≤ 1000000 then (match L2.atI (S a).cps.toList (i : Int) with | some c => R.ok (D.str ⟨#[c]⟩) M | none => .no) else .no) = _
  rw [S_len, if_pos hl, e]
theorem tLen (a : List Nat) (M : Stor) (hl : a.length ≤ 1000000) : fLen [.str (S a)] M = .ok (.int (a.length : Nat)) M := by
  show (if (S a).length ≤ 1000000 then R.ok (D.int (S a).length) M else .no) = _
  rw [S_len, if_pos hl]
theorem tSl (a : List Nat) (lo hi : Option Int) (M : Stor) (hl : a.length ≤ 1000000) : dSl (.str (S a)) lo hi M = .ok (.str (cutS (S a) lo hi)) M := by
  show (if (S a).length ≤ 1000000 then R.ok (D.str (cutS (S a) lo hi)) M else .no) = _
  rw [S_len, if_pos hl]
theorem tEq (a b : List Nat) (M : Stor) : dEq (.str (S a)) (.str (S b)) M = .ok (.bl (decide (a = b))) M := by
  show R.ok (D.bl (decide (S a = S b))) M = _
  congr 3; exact S_eq
theorem tNe (a b : List Nat) (M : Stor) : dNe (.str (S a)) (.str (S b)) M = .ok (.bl (!decide (a = b))) M := by
  show R.ok (D.bl (!decide (S a = S b))) M = _
  congr 4; exact S_eq
theorem tIn (c : Nat) (b : List Nat) (M : Stor) : dInS (.str (S [c])) (.str (S b)) M = .ok (.bl (decide (c ∈ b))) M := by
  show (match (S [c]).cps.toList with | [c] => R.ok (D.bl (decide (c ∈ (S b).cps.toList))) M | _ => .no) = _
  rw [S_list, S_list]
theorem tAdd (a b : List Nat) (M : Stor) (hl : a.length + b.length ≤ 1000000) : dAdd (.str (S a)) (.str (S b)) M = .ok (.str (S (a ++ b))) M := by
  have : (S a).length + (S b).length ≤ 1000000 := by rw [S_len, S_len]; exact hl
  show orR (dAddI _ _ _) (orR (dAddS _ _ _) _) = _
  unfold dAddS
  simp only [this, if_true]
  rw [S_app]; rfl
/-! ### numbers written out -/
def dig (n : Nat) : List Nat := (Nat.toDigits 10 n).map Char.toNat
def isDg (c : Nat) : Prop := 48 ≤ c ∧ c ≤ 57
instance (c : Nat) : Decidable (isDg c) := inferInstanceAs (Decidable (_ ∧ _))
theorem dgc : ∀ d : Nat, d < 10 → isDg (Nat.digitChar d).toNat ∧ (0 < d → (Nat.digitChar d).toNat ≠ 48) := by decide
theorem dig_lt {n : Nat} (h : n < 10) : dig n = [(Nat.digitChar n).toNat] := by unfold dig; rw [Nat.toDigits_of_lt_base h]; rfl
theorem dig_ge {n : Nat} (h : 10 ≤ n) : dig n = dig (n / 10) ++ [(Nat.digitChar (n % 10)).toNat] := by
  have hm : n % 10 < 10 := Nat.mod_lt n (by decide)
  have t : Nat.toDigits 10 (n / 10) ++ Nat.toDigits 10 (n % 10) = Nat.toDigits 10 (10 * (n / 10) + n % 10) := Nat.toDigits_append_toDigits (by decide) (by omega) hm
  rw [Nat.div_add_mod] at t
  unfold dig
  rw [← t, List.map_append, Nat.toDigits_of_lt_base hm]; rfl
theorem dig_all (n : Nat) : ∀ c ∈ dig n, isDg c := by
  induction n using Nat.strongRecOn with
  | _ n ih =>
    by_cases h : n < 10
    · rw [dig_lt h]
      intro c hc
      rw [List.mem_singleton.mp hc]; exact (dgc n h).1
    · rw [dig_ge (by omega)]
      intro c hc
      rcases List.mem_append.mp hc with hc | hc
      · exact ih _ (by omega) c hc
      · rw [List.mem_singleton.mp hc]; exact (dgc _ (Nat.mod_lt n (by decide))).1
theorem dig_head (n : Nat) : ∃ c l, dig n = c :: l ∧ (0 < n → c ≠ 48) ∧ isDg c := by
  induction n using Nat.strongRecOn with
  | _ n ih =>
    by_cases h : n < 10
    · exact ⟨_, [], dig_lt h, (dgc n h).2, (dgc n h).1⟩
    · obtain ⟨c, l, e, h1, h2⟩ := ih (n / 10) (by omega)
      rw [dig_ge (by omega), e]
      exact ⟨c, _, rfl, fun _ => h1 (by omega), h2⟩
theorem dig0 : dig 0 = [48] := by decide
def iL (a : Int) : List Nat := if a < 0 then 45 :: dig a.natAbs else dig a.natAbs
theorem strL (s : String) : Str.ofString s = S (s.toList.map Char.toNat) := by
  rw [Str.ofString_eq_toList]
theorem str_int (a : Int) : Str.ofString (toString a) = S (iL a) := by
  rw [strL]
  unfold iL
  cases a with
  | ofNat m =>
    have : ¬ (Int.ofNat m) < 0 := by have : Int.ofNat m = (m : Int) := rfl; omega
    rw [if_neg this]
    show S ((Nat.repr m).toList.map Char.toNat) = _
    rw [Nat.toList_repr]; rfl
  | negSucc m =>
    rw [if_pos (Int.negSucc_lt_zero m)]
    show S (("-" ++ Nat.repr (m + 1)).toList.map Char.toNat) = _
    rw [String.toList_append, Nat.toList_repr, List.map_append]
    rfl
theorem int_read {a : Int} (h : (iL a).length ≤ 640) (M : Stor) : fIntS [.str (S (iL a))] M = .ok (.int a) M := by
  have e : PySem.intText? (S (iL a)) = some a := by
    by_cases c : a < 0
    · have hx : (S (iL a)).cps.toList = 45 :: dig a.natAbs := by rw [S_list]; unfold iL; rw [if_pos c]
      have hl : (S (iL a)).length ≤ 4300 := by rw [S_len]; omega
      obtain ⟨d, l, e, _⟩ := dig_head a.natAbs
      have := intText_neg hx (dig_all _) (by rw [e]; simp) hl
      rw [this]
      unfold dig
      rw [PySem.W.KIN.val_back]
      congr 1; omega
    · have hx : (S (iL a)).cps.toList = dig a.natAbs := by rw [S_list]; unfold iL; rw [if_neg c]
      have hl : (S (iL a)).length ≤ 4300 := by rw [S_len]; omega
      obtain ⟨d, l, e, _⟩ := dig_head a.natAbs
      have := intText_digits (x := S (iL a)) (by rw [hx]; exact dig_all _) (by rw [hx, e]; simp) hl
      rw [this, hx]
      unfold dig
      rw [PySem.W.KIN.val_back]
      congr 1; omega
  unfold fIntS
  dsimp only
  rw [e]
  dsimp only
  rw [if_pos (by rw [S_len]; exact h)]
theorem int_readO {a : Int} (h : (iL a).length ≤ 640) (M : Stor) : orR (fInt [.str (S (iL a))] M) (fIntS [.str (S (iL a))] M) = .ok (.int a) M := by
  rw [int_read h]; rfl
theorem iL_len {a : Int} {k : Nat} (hk : 0 < k) (h : a.natAbs < 2 ^ k) : (iL a).length ≤ k + 1 := by
  have l2 : a.natAbs.log2 < k := by
    by_cases h0 : a.natAbs = 0
    · rw [h0]; exact hk
    · exact (Nat.log2_lt h0).mpr h
  have t := int_text_length_le (a := a) (k := k) hk l2
  have e : (Str.ofString (toString a)).length = (iL a).length := by rw [str_int]; exact S_len _
  have : (Str.ofString (toString a)).length = (toString a).length := ofString_length _
  omega
end G

namespace G
open PySem L2
/-! ### loops with an invariant -/
theorem loop_inv {tg : GG'} {b : GS'} (I : Nat → Gam → Stor → Prop) : ∀ (l : List D) (n : Nat) (Γ : Gam) (M : Stor), I n Γ M →
    (∀ j Γ M d, j < n + l.length → d ∈ l → I j Γ M → ∃ Γ1 M1 Γ2 M2, tg d Γ M = some (Γ1, M1) ∧ b Γ1 M1 = .nx Γ2 M2 ∧ I (j + 1) Γ2 M2) →
    ∃ Γ' M', loopG anyS tg b l Γ M = .nx Γ' M' ∧ I (n + l.length) Γ' M'
  | [], n, Γ, M, h, _ => ⟨Γ, M, loop_nilA, h⟩
  | d :: ds, n, Γ, M, h, st => by
    obtain ⟨Γ1, M1, Γ2, M2, e1, e2, h2⟩ := st n Γ M d (by simp) List.mem_cons_self h
    obtain ⟨Γ', M', e3, h3⟩ := loop_inv I ds (n + 1) Γ2 M2 h2 fun j Γ M d' hj hd hI => st j Γ M d' (by simp; omega) (List.mem_cons_of_mem _ hd) hI
    exact ⟨Γ', M', (loop_cons e1 e2).trans e3, by rw [List.length_cons]; rwa [Nat.add_assoc, Nat.add_comm 1] at h3⟩
theorem range1G {a : GA'} {Γ : Gam} {M M1 : Stor} {n : Nat} (h : a Γ M = .ok [.int n] M1) (hn : n < 100000) : giRange1 a Γ M = .ok (upFrom 0 n, anyS) M1 := by
  have h1 : ((n : Nat) : Int) < 4611686018427387904 := by omega
  have h2 : -4611686018427387904 ≤ ((n : Nat) : Int) := by omega
  have e : (2 : Int) ^ 62 = 4611686018427387904 := by decide
  unfold giRange1
  rw [h, R.bind_ok]
  generalize hxs : [D.int n] = xs
  split
  · rename_i j
    have hj : j = (n : Int) := by
      have := List.head_eq_of_cons_eq hxs
      injection this with q; exact q.symm
    subst hj
    rw [e, if_pos ⟨h2, h1⟩, Int.toNat_natCast]
  · rename_i q
    exact absurd hxs.symm (q _)
theorem upFrom_len (n : Nat) : (upFrom 0 n).length = n := by simp [upFrom]
/-- for i in range(n): every turn keeps the invariant -/
theorem for_range {P : RS → Prop} (n : Nat) {tg : GG'} {b rest : GS'} {a : GA'} {Γ : Gam} {M M1 : Stor} (I : Nat → Gam → Stor → Prop) (hn : n < 100000) (ha : a Γ M = .ok [.int n] M1) (h0 : I 0 Γ M1)
    (st : ∀ j Γ M d, j < n → I j Γ M → ∃ Γ1 M1 Γ2 M2, tg d Γ M = some (Γ1, M1) ∧ b Γ1 M1 = .nx Γ2 M2 ∧ I (j + 1) Γ2 M2)
    (fin : ∀ Γ' M', I n Γ' M' → P (rest Γ' M')) : P (gSeq (gFor (giRange1 a) tg b) rest Γ M) := by
  obtain ⟨Γ', M', e, hI⟩ := loop_inv (tg := tg) (b := b) I (upFrom 0 n) 0 Γ M1 h0 fun j Γ M d hj _ h => st j Γ M d (by rw [upFrom_len] at hj; omega) h
  rw [upFrom_len, Nat.zero_add] at hI
  have e2 : gFor (giRange1 a) tg b Γ M = .nx Γ' M' := by
    unfold gFor
    rw [range1G ha hn]
    simp only [R.bindS_ok, if_true]
    exact e
  rw [seq_nx e2]
  exact fin Γ' M' hI
/-! ### loops over a list, a tuple, a list of the store, while the store stays -/
def Sq (x : D) (M : Stor) (l : List D) : Prop := x = .tup l ∨ x = .lst l ∨ ∃ k, x = .ref k ∧ M[k]? = some (.lst l)
theorem loop_consK {keep : Stor → Prop} {tg : GG'} {b : GS'} {d : D} {ds : List D} {Γ Γ1 Γ2 : Gam} {M M1 M2 : Stor} (hk : keep M2) (h1 : tg d Γ M = some (Γ1, M1)) (h2 : b Γ1 M1 = .nx Γ2 M2) : loopG keep tg b (d :: ds) Γ M = loopG keep tg b ds Γ2 M2 := by
  conv => lhs; unfold loopG
  rw [h1]; dsimp only; rw [h2]; dsimp only
  rw [if_pos hk]
theorem loop_consXK {keep : Stor → Prop} {tg : GG'} {b : GS'} {d : D} {ds : List D} {Γ Γ1 Γ2 : Gam} {M M1 M2 : Stor} {c : Nat} {f : Flds} (h1 : tg d Γ M = some (Γ1, M1)) (h2 : b Γ1 M1 = .ex c f Γ2 M2) : loopG keep tg b (d :: ds) Γ M = .ex c f Γ2 M2 := by
  conv => lhs; unfold loopG
  rw [h1]; dsimp only; rw [h2]
theorem loop_nilK {keep : Stor → Prop} {tg : GG'} {b : GS'} {Γ : Gam} {M : Stor} : loopG keep tg b [] Γ M = .nx Γ M := by unfold loopG; rfl
theorem forX_sq {x : D} {M : Stor} {l : List D} (h : Sq x M l) : ∃ keep : Stor → Prop, keep M ∧ ∀ (tg : GG') (b : GS') (Γ : Gam), forX tg b x Γ M = loopG keep tg b l Γ M := by
  rcases h with rfl | rfl | ⟨k, rfl, hk⟩
  · exact ⟨anyS, trivial, fun tg b Γ => forX_tup tg b l Γ M⟩
  · exact ⟨anyS, trivial, fun tg b Γ => forX_lst tg b l Γ M⟩
  · refine ⟨fun N => N[k]? = some (.lst l), hk, fun tg b Γ => ?_⟩
    unfold forX gFor giSeq gC
    simp only [R.bind_ok, hk, R.bindS_ok, if_true]
theorem compX_sq {x : D} {M : Stor} {l : List D} (h : Sq x M l) (t : Tgt) (tt : GT') (te : GE') (Γ : Gam) (q : D → Bool) (f : D → D) (hl : l.length < 1000000)
    (hh : ∀ d ∈ l, ∃ Γ1, t.run d (wipeG Γ t.slots) = some Γ1 ∧ tt Γ1 M = .ok (q d) M ∧ te Γ1 M = .ok (f d) M) : compX t tt te x Γ M = .ok (.lst ((l.filter q).map f)) M := by
  rcases h with rfl | rfl | ⟨k, rfl, hk⟩
  · exact compX_tup t tt te l Γ M q f hl hh
  · exact compX_lst t tt te l Γ M q f hl hh
  · refine comp_filt (keep := fun N => N[k]? = some (.lst l)) ?_ hk q f hl hh
    unfold giSeq gC
    simp only [R.bind_ok, hk]
theorem compX_sqA {α : Type} {x : D} {M : Stor} (t : Tgt) (te : GE') (F H : α → D) (l : List α) (h : Sq x M (l.map F)) (Γ : Gam) (hl : l.length < 1000000)
    (hh : ∀ a ∈ l, ∃ Γ1, t.run (F a) (wipeG Γ t.slots) = some Γ1 ∧ te Γ1 M = .ok (H a) M) : compX t gYes te x Γ M = .ok (.lst (l.map H)) M := by
  have key : ∀ keep : Stor → Prop, keep M → giSeq (gC x) Γ M = .ok (l.map F, keep) M → compX t gYes te x Γ M = .ok (.lst (l.map H)) M := by
    intro keep hk e
    unfold compX gComp
    rw [e]
    simp only [R.bind_ok, hk, if_true]
    rw [comp_mapA (tt := gYes) hk F H l [] (by simpa using hl) fun a ha => let ⟨Γ1, x, y⟩ := hh a ha; ⟨Γ1, x, rfl, y⟩]
    simp
  rcases h with rfl | rfl | ⟨k, rfl, hk⟩
  · exact key anyS trivial rfl
  · exact key anyS trivial rfl
  · refine key (fun N => N[k]? = some (.lst (l.map F))) hk ?_
    unfold giSeq gC
    simp only [R.bind_ok, hk]
end G

namespace G
open PySem PySem.Spec PyProof.Rows L2
section
variable {X : Cx} {W : Wd} {ξ : Xi} {E : Sg → XK} {a b e o tg : Expr} {es : List Expr} {ga gb go ge : GE'} {gs : GA'} {pos pos' p2 p apos : Pos} {x : Str}
/-! ### the signs of a text, walked -/
def signsD (z : Str) : List D := z.cps.toList.map fun c => .str ⟨#[c]⟩
def giTxt (a : GE') : GI' := fun Γ M => (a Γ M).bind fun x M1 => match x with
  | .str z => .ok (signsD z, anyS) M1
  | _ => .no
theorem good_text {F0 : Hp} {ρ0 : List Addr} {z : Str} : GoodIt W F0 ρ0 (signsD z, anyS) (Its z) := by
  intro ξ i M F H ρ le pr rp hk
  have sz : z.cps.size = z.cps.toList.length := by simp
  refine ⟨fun d hd => ?_, fun hi => (by
    simp only [signsD, List.length_map] at hi
    show z.cps.size ≤ i
    omega)⟩
  have hi : i < z.cps.size := by
    have := (List.getElem?_eq_some_iff.mp hd).1
    simp only [signsD, List.length_map] at this
    omega
  refine ⟨hi, fun v H' ⟨eH, c, ec, ev⟩ => ?_⟩
  subst eH; subst ev
  have : d = .str ⟨#[c]⟩ := by
    simp only [signsD, List.getElem?_map, Array.getElem?_toList, ec, Option.map_some, Option.some.injEq] at hd
    exact hd.symm
  subst this
  exact ⟨F, Le.rfl', rp, flat_str F ρ⟩
theorem gi_txt (h : GE X W E e ga) : GI X W E tg e (giTxt ga) :=
  mI (pi_str h) fun σ H Q ⟨ξ, Γ, M, F, ρ, en, rp, po⟩ => ⟨ξ, Γ, M, F, ρ, en, rp, (Po.bind (rel := Is W) po).imp (by
    rintro v H1 ⟨x, M1, F1, ρ1, e1, p1, rp1, ix, po1⟩
    split at po1
    · rename_i z
      simp only [Is] at ix
      exact ⟨z, ix, po1 _ F1 ρ1 H1 Le.rfl' (List.prefix_refl _) rp1 good_text⟩
    · exact po1.elim)⟩
/-! ### flat values in lists and tuples -/
def flatD : D → Option V
  | .non => some .non
  | .bl b => some (.bl b)
  | .int i => some (.int i)
  | .str z => some (.str z)
  | _ => none
theorem flatD_ok {F : Hp} {ρ : List Addr} {d : D} {v u : V} (h : flatD d = some u) (is : Is W F ρ d v) : v = u ∧ flatV u = true := by
  cases d <;> simp only [flatD, Option.some.injEq, reduceCtorEq] at h <;> subst h <;> simp only [Is] at is <;> exact ⟨is, rfl⟩
def flatL : List D → Option (List V)
  | [] => some []
  | d :: ds => match flatD d, flatL ds with
    | some v, some vs => some (v :: vs)
    | _, _ => none
theorem flatL_ok {F : Hp} {ρ : List Addr} : ∀ {ds : List D} {us vs : List V}, flatL ds = some us → IsL W F ρ ds vs → vs = us ∧ us.all flatV = true
  | [], _, _, e, h => by cases e; rw [IsL.nil_iff] at h; exact ⟨h, rfl⟩
  | d :: ds, us, vs, e, h => by
    obtain ⟨v, r, rfl, h1, h2⟩ := IsL.cons_iff.mp h
    unfold flatL at e
    split at e
    · rename_i u us' e1 e2
      cases e
      obtain ⟨q1, q2⟩ := flatD_ok e1 h1
      obtain ⟨q3, q4⟩ := flatL_ok e2 h2
      exact ⟨by rw [q1, q3], by simp [q2, q4]⟩
    · cases e
def dInQ (neg : Bool) : D → D → Stor → R D := fun x y M => match flatD x, (seqOf y M).bind flatL with
  | some v, some vs => .ok (.bl (if neg then !inV v vs else inV v vs)) M
  | _, _ => .no
theorem inQ_ok {neg : Bool} {M : Stor} {F H : Hp} {ρ : List Addr} {x y : D} {vx vy : V} {Q : VK} {Z : XK} (hK : X.K = W.K) (rp : Rp W ξ M F H ρ) (ix : Is W F ρ x vx) (iy : Is W F ρ y vy) (po : Po W ξ (Is W) F ρ (dInQ neg x y M) Q Z) : rIn X.K neg vx vy H Q := by
  unfold dInQ at po
  split at po
  · rename_i v vs e1 e2
    obtain ⟨l, el, e2⟩ := Option.bind_eq_some_iff.mp e2
    obtain ⟨q, us, rfl, hq, hl⟩ := seqOf_ok rp iy el
    obtain ⟨rfl, f1⟩ := flatD_ok e1 ix
    obtain ⟨rfl, f2⟩ := flatL_ok e2 hl
    exact ⟨q, _, rfl, by rw [hK]; exact hq, f1, f2, po.now rp (flat_bl F ρ)⟩
  · exact po.elim
theorem og_inQ (hK : X.K = W.K) : OpG X W E (compareOp .In) (dInQ false) := OpG.of op_in_seq fun ξ M F H ρ x y vx vy Q Z rp ix iy po => inQ_ok hK rp ix iy po
theorem og_notInQ (hK : X.K = W.K) : OpG X W E (compareOp .NotIn) (dInQ true) := OpG.of op_notIn_seq fun ξ M F H ρ x y vx vy Q Z rp ix iy po => inQ_ok hK rp ix iy po
/-! ### methods of texts -/
def gMtS (f : D → List D → Stor → R D) (o e : GE') : GE' := fun Γ M => (o Γ M).bind fun x M1 => match x with
  | .str _ => (e Γ M1).bind fun y M2 => f x [y] M2
  | _ => .no
def gMtS0 (f : D → List D → Stor → R D) (o : GE') : GE' := fun Γ M => (o Γ M).bind fun x M1 => match x with
  | .str _ => f x [] M1
  | _ => .no
theorem ge_mtS {id : String} {name : Str} {f : D → List D → Stor → R D} (slot : Slot "str" name id) (ty : typeOf (.builtin id) = pure (.type "method_descriptor")) (hm : MtG X W id f) (ho : GE X W E o go) (he : GE X W E e ge)
    (hs : starEach [e] X.env = [(false, eval e X.env)] := by rfl) (hbase : attributeBase o name X.env (eval o X.env) = eval o X.env := by rfl) (hline : (apos.endLine == pos.line) = true := by rfl) :
    GE X W E (.Call (.Attribute o name apos) [e] [] pos) (gMtS f go ge) := by
  obtain ⟨r, hr, hk⟩ := hm
  refine mE (pe_m1 slot ty hr ho he hs hbase hline) fun σ H Q ⟨ξ, Γ, M, F, ρ, en, rp, po⟩ => ⟨ξ, Γ, M, F, ρ, en, rp, (Po.bind (rel := Is W) po).imp ?_⟩
  rintro v H1 ⟨x, M1, F1, ρ1, e1, p1, rp1, ix, po1⟩
  split at po1
  · rename_i z
    refine ⟨⟨z, by simpa only [Is] using ix⟩, ξ, Γ, M1, F1, ρ1, en.mono e1 p1, rp1, (Po.bind (rel := Is W) po1).imp ?_⟩
    rintro u H2 ⟨y, M2, F2, ρ2, e2, p2, rp2, iy, po2⟩
    exact hk ξ M2 F2 H2 ρ2 _ [y] _ [u] Q _ rp2 (ix.mono e2 p2) (IsL.cons_iff.mpr ⟨u, [], rfl, iy, IsL.nil_iff.mpr rfl⟩) po2
  · exact po1.elim
theorem ge_mtS0 {id : String} {name : Str} {f : D → List D → Stor → R D} (slot : Slot "str" name id) (ty : typeOf (.builtin id) = pure (.type "method_descriptor")) (hm : MtG X W id f) (ho : GE X W E o go)
    (hbase : attributeBase o name X.env (eval o X.env) = eval o X.env := by rfl) (hline : (apos.endLine == pos.line) = true := by rfl) :
    GE X W E (.Call (.Attribute o name apos) [] [] pos) (gMtS0 f go) := by
  obtain ⟨r, hr, hk⟩ := hm
  refine mE (pe_m0 slot ty hr ho hbase hline) fun σ H Q ⟨ξ, Γ, M, F, ρ, en, rp, po⟩ => ⟨ξ, Γ, M, F, ρ, en, rp, (Po.bind (rel := Is W) po).imp ?_⟩
  rintro v H1 ⟨x, M1, F1, ρ1, e1, p1, rp1, ix, po1⟩
  split at po1
  · rename_i z
    exact ⟨⟨z, by simpa only [Is] using ix⟩, hk ξ M1 F1 H1 ρ1 _ [] _ [] Q _ rp1 ix (IsL.nil_iff.mpr rfl) po1⟩
  · exact po1.elim
def mPartition : D → List D → Stor → R D := fun x ds M => match x, ds with
  | .str a, [.str b] => if a.length ≤ 1000000 ∧ (b.length == 0) = false then .ok (.tup [.str (Txt.partition a b).1, .str (Txt.partition a b).2.1, .str (Txt.partition a b).2.2]) M else .no
  | _, _ => .no
theorem mg_partition : MtG X W "str.partition" mPartition := ⟨_, mt_partition, fun ξ M F H ρ x ds v vs Q Z rp ix is po => by
  unfold mPartition at po
  split at po
  · rename_i a b
    split at po
    · rename_i hz
      obtain ⟨u, rfl, iu⟩ := one_of is
      simp only [Is] at ix iu
      subst ix; subst iu
      refine ⟨a, b, rfl, rfl, hz.2, small_line hz.1, fun p n => new_tup rp ?_ n po⟩
      exact IsL.cons_iff.mpr ⟨_, _, rfl, flat_str F ρ, IsL.cons_iff.mpr ⟨_, _, rfl, flat_str F ρ, IsL.cons_iff.mpr ⟨_, _, rfl, flat_str F ρ, IsL.nil_iff.mpr rfl⟩⟩⟩
    · exact po.elim
  · exact po.elim⟩
end
/-! ### reckoning -/
theorem comp_txt {a : GE'} {t : Tgt} {tt : GT'} {te : GE'} {Γ : Gam} {M M1 : Stor} {z : Str} (h : a Γ M = .ok (.str z) M1) (q : D → Bool) (f : D → D) (hl : z.length < 1000000)
    (hh : ∀ d ∈ signsD z, ∃ Γ1, t.run d (wipeG Γ t.slots) = some Γ1 ∧ tt Γ1 M1 = .ok (q d) M1 ∧ te Γ1 M1 = .ok (f d) M1) : gComp (giTxt a) t tt te Γ M = .ok (.lst (((signsD z).filter q).map f)) M1 := by
  have e : giTxt a Γ M = .ok (signsD z, anyS) M1 := by unfold giTxt; rw [h]; rfl
  unfold gComp
  rw [e]
  simp only [R.bind_ok, if_true]
  rw [comp_filtF (keep := anyS) trivial q f (signsD z) [] (by simp only [signsD, List.length_map, List.length_nil]; have : z.cps.toList.length = z.length := Array.length_toList; omega) hh]
  simp
end G

namespace G
open PySem PySem.Spec PyProof.Rows L2
section
variable {X : Cx} {W : Wd} {ξ : Xi} {E : Sg → XK} {a b e o tg : Expr} {es : List Expr} {ga gb go ge : GE'} {gs : GA'} {pos pos' p2 p apos : Pos} {x : Str}
/-! ### cls.m(): a static method of the class that a variable holds -/
def gClsM0 (c : Nat) (g : List D → Stor → R D) (go : GE') : GE' := fun Γ M => (go Γ M).bind fun x M1 => match x with
  | .cls c' => if c' = c then g [] M1 else .no
  | _ => .no
theorem ge_smethV0 {m : Str} {c : Nat} {f : Addr} {g : List D → Stor → R D} {pl : Sem Bool} (hc : CallG X W E (.ref f) g) (k : SMet X.K (W.T c) m f) (ho : GE X W E o go)
    (ht : eval (.Call (.Attribute o m apos) [] [] pos) X.env = (do
      let ov ← eval o X.env
      standAt apos.atName
      let (f, first) ← holding [ov] (getMethod ov m pl)
      callWith pos f first (backTo pos (starEach [] X.env)) (backToKw pos (keywordEach [] X.env))) := by rfl) : GE X W E (.Call (.Attribute o m apos) [] [] pos) (gClsM0 c g go) := by
  refine ⟨fun pins s σ H Q I ⟨ξ, Γ, M, F, ρ, en, rp, po⟩ => ?_⟩
  refine PySem.W.methodCall_KW (pl := pl) (thn (ho.run pins s σ H _ I ⟨ξ, Γ, M, F, ρ, en, rp, Po.bind (rel := Is W) po⟩) ?_) ht
  rintro u s1 ⟨v, H1, I1, r1, x, M1, F1, ρ1, e1, p1, rp1, ix, po1⟩
  split at po1
  · rename_i c'
    split at po1
    · rename_i hcc
      subst hcc
      simp only [Is] at ix
      subst ix
      cases r1
      refine smet_get I1 k ?_
      have I2 := I1.tok (s1.toks + 1)
      exact PySem.W.callWith_K0 I2.kIn k.kp (hc ξ pins _ σ H1 M1 F1 ρ1 [] [] [] Q I2 .nil rp1 IsL.nil po1)
    · exact po1.elim
  · exact po1.elim
end
end G

namespace G
open PySem PySem.Spec PyProof.Rows L2
/-! ### defs that no repr under way disturbs -/
structure FnGN (P : Program) (w : World) (W : Wd) (mg : Str → Option Value) (base : Heap) (k : Nat) (f : Addr) (fd : FuncData) (ps : List Str) (g : List D → Stor → R D) : Prop where
  len : ∀ vs H Q E, spG W g vs H Q E → vs.length = ps.length
  run : ∀ (A : Around) (outer : List Env) (s : Shared) (H : Hp) (args : Args) (us : List Value) (vs : List V) (Q : VK) (E : XK), Room k A → Env0 P w W.K mg base A outer s H →
    BindsTo s fd args (ps.zip us) → Vals vs us → spG W g vs H Q E → codeAny (model P w) A (.call (.ref f) args) (CR (L2.CX P w) outer P w H s Q E) s
section
variable {P : Program} {w : World} {W : Wd} {ξ : Xi} {mg : Str → Option Value} {base : Heap} {x qual : Str} {params : Arguments} {body : List Stmt} {scope : Scope} {dvs : List V} {kws : List (Str × V)} {f : Addr} {fd : FuncData}
theorem fng_ofN {N ps : List Str} {k : Nat} {gb : GS'} (F : FunD W.K x qual params body scope dvs kws f fd) (S : FnScope N ps scope)
    (hb : ∀ (cdv : Value) (A : Around) (outer : List Env) (s : Shared) (H : Hp) (E : XK), Room k (A.deeper (envOfC qual scope s.heap.objs.size f cdv)) →
      GSs (cxOf (L2.CX P w) P w W.K mg base N qual scope f cdv A outer s H E) W (fun _ => E) body gb) : FnGN P w W mg base (k + 1) f fd ps (gFn ps.length N.length gb) := by
  have len : ∀ vs H Q E, spG W (gFn ps.length N.length gb) vs H Q E → vs.length = ps.length := fun vs H Q E h => by
    obtain ⟨ξ, ds, M, F', ρ, is, rp, po⟩ := h
    unfold gFn at po
    split at po
    · rename_i e; rw [is.len]; exact e
    · exact po.elim
  refine ⟨len, fun A outer st H args us vs Q Z room env binds rel hsp => ?_⟩
  obtain ⟨oc, od, dV, kV, doc, pm, an, cdv, ct, osl, rfl, lk, hcd, _, _⟩ := F.ex
  have hlen := len _ _ _ _ hsp
  have kin : W.K.In st.heap := env.mod.kin.keeps (fun b o z => (env.bs b o z).1)
  have nolim : st.heap.NoLimit := env.mod.nolimit.keeps (fun b o z => (env.bs b o z).1)
  have kinds : ∀ y ∈ ps.zip us, scope.names.lookup y.1 = some .local ∨
      (scope.names.lookup y.1 = some .cell ∧ ((cellsFrom (st.heap.objs.size + 1) scope.names []).lookup y.1).isSome = true) := by
    rintro ⟨nm, val⟩ hy
    have hin := (List.of_mem_zip hy).1
    cases S.par nm hin with
    | inl z => exact Or.inl z
    | inr z => exact Or.inr ⟨z, PySem.W.cellsFrom_some _ _ _ (Or.inl z)⟩
  refine codeAny_call_function room.depth (kin _ _ lk) rfl S.co S.gen rfl (PySem.W.codeRec_of kin hcd)
    (binds _ _ _ _ (wpAny_newFunctionEnv_cells S.kind kinds fun env' he s1 x1 => ?_))
  subst he
  refine ⟨nolim.keeps x1.toInCall.keep, codeAny_func ?_⟩
  have GB := hb cdv A outer st H Z (room.deeper _)
  have I : Inv (cxOf (L2.CX P w) P w W.K mg base N qual scope f cdv A outer st H Z) [] (L2.start N vs) H s1 := inv_start S room.hd env hlen rel x1
  have hq : tGS W (fun _ => Z) gb { nx := fun _ H' => Q .non H', rt := Q } (L2.start N vs) H := by
    obtain ⟨ξ, ds, M, F', ρ, is, rp, po⟩ := hsp
    unfold gFn at po
    split at po
    · rename_i e
      refine ⟨ξ, _, M, F', ρ, en_start (N := N) is, rp, ?_⟩
      rw [← e] at po
      cases er : gb (ds.map some ++ List.replicate (N.length - ds.length) none) M with
      | nx g M1 => rw [er] at po; exact fun σ' F2 ρ2 H2 le p rp2 en2 => po .non F2 ρ2 H2 le p rp2 (by simp only [Is])
      | rt d M1 => rw [er] at po; exact po
      | bk g M1 => rw [er] at po; exact po.elim
      | ct g M1 => rw [er] at po; exact po.elim
      | ex c fs g M1 => rw [er] at po; exact fun σ' dx F2 ρ2 H2 le p rp2 en2 xc => po dx F2 ρ2 H2 le p rp2 xc
      | no => rw [er] at po; exact po.elim
    · exact po.elim
  refine wpAny_mono (GB.run [] s1 _ H _ I hq) (fun fl s' out => ?_) (fun er s' out => out)
  cases fl with
  | ret u => obtain ⟨v, σ', H', J, rv, q⟩ := out; exact ⟨v, H', J.os, J.bare, J.base, J.hok, rv, q⟩
  | next => obtain ⟨σ', H', J, q⟩ := out; exact ⟨.non, H', J.os, J.bare, J.base, J.hok, rfl, q⟩
  | brk => obtain ⟨_, _, _, q⟩ := out; exact q.elim
  | cont => obtain ⟨_, _, _, q⟩ := out; exact q.elim
theorem FnGN.mono {j k : Nat} {ps : List Str} {g : List D → Stor → R D} (h : FnGN P w W mg base j f fd ps g) (hjk : j ≤ k) : FnGN P w W mg base k f fd ps g :=
  ⟨h.len, fun A outer s H args us vs Q E hr => h.run A outer s H args us vs Q E (hr.mono hjk)⟩
theorem FnGN.all {k : Nat} {ps : List Str} {g : List D → Stor → R D} (h : FnGN P w W mg base k f fd ps g) : FnG P w W mg base k f fd ps g :=
  ⟨h.len, fun A outer s H args us vs Q E hr _ => h.run A outer s H args us vs Q E hr⟩
end
section
variable {X : Cx} {W : Wd} {ξ : Xi} {E : Sg → XK} {e : Expr} {es : List Expr} {pos p : Pos} {gs : GA'} {x : Str}
theorem run_gN {k : Nat} {f : Addr} {fd : FuncData} {ps : List Str} {g : List D → Stor → R D} {dvs : List V} {dus : List Value} {pins : List (Addr × Obj)} {σ : Sg} {H : Hp} {s : Shared} {Q : VK} {us : List Value} {vs : List V}
    (F : FnGN X.prog X.w W X.mg X.base k f fd ps g) (hK : X.K = W.K) (hr : Room k X.A) (hb : Binds X.K fd ps dus) (hd : Vals dvs dus) (hx : PassesAt (L2.CX X.prog X.w) X σ (E σ))
    (I : Inv X pins σ H s) (r : Vals vs us) (h : spG W g (vs ++ dvs) H Q (E σ)) : wpAny (model X.prog X.w) X.A (call (.ref f) us) (EP X pins σ Q) X.xe s := by
  have rel := r.append hd
  have hlen : (us ++ dus).length = ps.length := by rw [← rel.length, F.len _ _ _ _ h]
  have e0 := I.env0
  rw [hK] at e0
  refine wpAny_call (codeAny_mono (F.run X.A X.stack s H ⟨us, []⟩ (us ++ dus) (vs ++ dvs) Q (E σ) hr e0 (hb s us I.kIn hlen) rel h) fun res s' out => ?_)
  cases res with
  | error er => exact hx pins H s er s' I out
  | ok fl =>
    cases fl with
    | ret u => exact I.after out
    | next => exact out.elim
    | brk => exact out.elim
    | cont => exact out.elim
theorem callg_fn0N {k : Nat} {f : Addr} {fd : FuncData} {ps : List Str} {g : List D → Stor → R D} (F : FnGN X.prog X.w W X.mg X.base k f fd ps g) (hK : X.K = W.K) (hr : Room k X.A)
    (hb : Binds X.K fd ps []) (hx : Pass X E) : CallG X W E (.ref f) g :=
  fun ξ pins s σ H M F' ρ ds vs us Q I r rp is po => run_gN (dvs := []) (dus := []) F hK hr hb .nil (hx σ) I r ⟨ξ, ds, M, F', ρ, by rw [List.append_nil]; exact is, rp, po⟩
end
structure FnBN (P : Program) (w : World) (W : Wd) (mg : Str → Option Value) (base : Heap) (k : Nat) (f : Addr) (ps : List Str) (g : List D → Stor → R D) : Prop where
  ex : ∃ fd, FnGN P w W mg base k f fd ps g ∧ Binds W.K fd ps []
  kp : PySem.W.keepIn W.K (.ref f) = true
theorem FnBN.all {P : Program} {w : World} {W : Wd} {mg : Str → Option Value} {base : Heap} {k : Nat} {f : Addr} {ps : List Str} {g : List D → Stor → R D} (h : FnBN P w W mg base k f ps g) : FnB P w W mg base k f ps g :=
  ⟨let ⟨fd, a, b⟩ := h.ex; ⟨fd, a.all, b⟩, h.kp⟩
theorem cg_bN {X : Cx} {W : Wd} {E : Sg → XK} {k : Nat} {f : Addr} {ps : List Str} {g : List D → Stor → R D} (h : FnBN X.prog X.w W X.mg X.base k f ps g) (hK : X.K = W.K) (hr : Room k X.A) (hx : Pass X E) : CallG X W E (.ref f) g := by
  obtain ⟨fd, a, b⟩ := h.ex
  rw [← hK] at b
  exact callg_fn0N a hK hr b hx
end G

namespace G
open PySem PySem.Spec PyProof.Rows L2 PySem.W
/-! ### repr of a list of ints and own things -/
section
variable {prog : Program} {w : World} {A : Around} {E : Value → Shared → Prop} {s : Shared} {K : PySem.W.Frag} {h₀ : Heap} {L : Addr} {m : Array (Str × Value)} {x C f : Addr} {ox : Obj} {od : Option Obj}
theorem byBound_K {M : Model} {last : Value → List Value → Sem Value} {name : Str} {Q : Option Value → Shared → Prop} (X : K.In s.heap) (I : InstAt s.heap x ox C od) (hs : findIn K (.ref C) name = some (some (.ref f))) (hf : isFn K (.ref f) = true)
    (h : wpAny M A (last (.ref f) [.ref x]) (fun v => Q (some v)) E s) : wpAny M A (callSpecialIfBoundBy? last (.ref x) name) Q E s := by
  simp only [callSpecialIfBoundBy?, bindSpecialIfBound?]
  refine wpAny_holding (wpAny_bind (wpAny_bind (wpAny_bind (I.type.here ((looks_findIn X hs).here ?_)))))
  refine wpAny_bind (wpAny_askSetting (wpAny_ite ?_))
  have fin : wpAny M A (last (.ref f) [.ref x] >>= fun v => pure (some v)) Q E s := wpAny_bind (wpAny_mono h (fun v s' h' => wpAny_pure h') fun _ _ h' => h')
  split
  · exact wpAny_bind ((bind_fn X _ (beq_iff_eq.mp hf)).here (wpAny_pure (by exact fin)))
  · exact wpAny_tryCatch (wpAny_bind ((bind_fn X _ (beq_iff_eq.mp hf)).here (wpAny_pure (by exact fin))))
theorem objUnder_K {b : Nat} {Q : Value → Shared → Prop} (hu : A.units < cLine) (X : K.In s.heap) (I : InstAt s.heap x ox C od) (hs : findIn K (.ref C) "__repr__" = some (some (.ref f))) (hf : isFn K (.ref f) = true)
    (h : wpAny (model prog w) A (call (.ref f) [.ref x]) (fun v s' => (∃ t u, v = .str t u) ∧ Q v s') E s) : wpAny (model prog w) A (pyReprObjUnder b (.ref x)) Q E s := by
  unfold pyReprObjUnder pyReprObjBy
  refine wpAny_bind (wpAny_cRoomFor hu ?_)
  refine wpAny_bind (wpAny_bind (I.type.here ((looks_findIn X hs).here ?_)))
  show wpAny _ _ (if (some (Value.ref f)).isNone = true then _ else _) _ _ _
  rw [if_neg (by simp)]
  refine wpAny_bind (byBound_K X I hs hf ?_)
  show wpAny _ _ (call (.ref f) ([.ref x] ++ [])) _ _ _
  rw [List.append_nil]
  refine wpAny_mono h (fun v s' hv => ?_) fun _ _ y => y
  obtain ⟨⟨t, u, rfl⟩, q⟩ := hv
  exact wpAny_bind (wpAny_isInstance (T := "str") (b := true) rfl isSubtype_str_str (wpAny_pure q))
end
theorem lp_frames {A : Around} {args : Args} : (A.under (.builtin "list.__repr__.loop" args)).frames = A.frames := by
  unfold Around.under
  have h : (Code.builtin "list.__repr__.loop" args).envs = [] := rfl
  simp only [h]
  cases A.frames <;> simp [pushEnvs]
theorem lp_room {k : Nat} {A : Around} {args : Args} (r : Room (k + 1) A) : Room k (A.under (.builtin "list.__repr__.loop" args)) := by
  have hd : (A.under (.builtin "list.__repr__.loop" args)).handled = A.handled := rfl
  have dp : (A.under (.builtin "list.__repr__.loop" args)).depth ≤ A.depth + 1 := by
    show A.depth + (Code.builtin "list.__repr__.loop" args).weight ≤ A.depth + 1
    have : (Code.builtin "list.__repr__.loop" args).weight ≤ 1 := by
      have h1 : (Code.builtin "list.__repr__.loop" args).frames = 0 := by
        first
          | rfl
          | simp [Code.frames, Code.isFrame]
      have h2 : (Code.builtin "list.__repr__.loop" args).isCreation = false := by
        first
          | rfl
          | simp [Code.isCreation]
      have h3 : (Code.builtin "list.__repr__.loop" args).isCaller = false := by
        first
          | rfl
          | simp [Code.isCaller]
      unfold Code.weight
      rw [h1, h2, h3]
      cases (Code.builtin "list.__repr__.loop" args).isGuard <;> simp
    omega
  have un : (A.under (.builtin "list.__repr__.loop" args)).units ≤ A.units + 3 := by
    show A.units + (Code.builtin "list.__repr__.loop" args).cUnits ≤ A.units + 3
    have : (Code.builtin "list.__repr__.loop" args).cUnits ≤ 3 := by
      first
        | (show _ ≤ 3; decide +kernel)
        | simp [Code.cUnits, Code.frames, Code.isFrame]
    omega
  exact ⟨hd.trans r.hd, by have := r.dp; omega, by have := r.un; omega⟩
open Classical in
/-- the text of an item -/
noncomputable def itO (c : Nat) (g : List D → Stor → R D) (M : Stor) : D → Option Str
  | .int i => if i.natAbs.log2 < 1920 then some (toString i) else none
  | d => match own1 c (fun l N => strOnly (g l N)) d M with
    | .ok (.str t) M' => if M' = M then some t else none
    | _ => none
noncomputable def itsO (c : Nat) (g : List D → Stor → R D) (M : Stor) : List D → Option (List Str)
  | [] => some []
  | d :: ds => match itO c g M d, itsO c g M ds with
    | some t, some ts => some (t :: ts)
    | _, _ => none
theorem itsO_len {c : Nat} {g : List D → Stor → R D} {M : Stor} : ∀ {l : List D} {ts : List Str}, itsO c g M l = some ts → ts.length = l.length
  | [], ts, h => by cases h; rfl
  | d :: ds, ts, h => by
    unfold itsO at h
    split at h
    · rename_i t ts' h1 h2
      cases h
      simp [itsO_len h2]
    · cases h
theorem itsO_get {c : Nat} {g : List D → Stor → R D} {M : Stor} : ∀ {l : List D} {ts : List Str} {i : Nat} {d : D}, itsO c g M l = some ts → l[i]? = some d → ∃ t, ts[i]? = some t ∧ itO c g M d = some t
  | [], ts, i, d, h, hd => by simp at hd
  | d' :: ds, ts, i, d, h, hd => by
    unfold itsO at h
    split at h
    · rename_i t ts' h1 h2
      cases h
      cases i with
      | zero => simp at hd; subst hd; exact ⟨t, rfl, h1⟩
      | succ i => exact itsO_get (i := i) h2 (by simpa using hd)
    · cases h
section
variable {X : Cx} {W : Wd} {ξ : Xi} {E : Sg → XK} {pins : List (Addr × Obj)} {σ : Sg}
theorem it_run {c k : Nat} {f : Addr} {fd : FuncData} {g : List D → Stor → R D} (Fn : FnGN X.prog X.w W X.mg X.base k f fd ["self"] g) (hK : X.K = W.K) (bn : Binds X.K fd ["self"] []) (hs : PySem.W.findIn X.K (.ref (W.T c)) "__repr__" = some (some (.ref f))) (hf : PySem.W.isFn X.K (.ref f) = true)
    {A : Around} (hA : Room k A) (hu : A.units < cLine) (fr : A.frames = some X.stack) {Ez : Value → Shared → Prop} {b : Nat} {M : Stor} {F H : Hp} {ρ : List Addr} {d : D} {v : V} {u : Value} {s : Shared} {t : Str} {Q : Str → Shared → Prop}
    (I : Inv X pins σ H s) (rp : Rp W ξ M F H ρ) (iv : Is W F ρ d v) (rv : RelV v u) (ht : itO c g M d = some t) (hb : b + t.length ≤ sizeLine)
    (hQ : ∀ s' H' F' ρ', Le F F' → ρ <+: ρ' → Inv X pins σ H' s' → Rp W ξ M F' H' ρ' → Q t s') : wpAny (model X.prog X.w) A (pyReprUnder b u) Q Ez s := by
  have own : (∀ i, d ≠ .int i) → wpAny (model X.prog X.w) A (pyReprUnder b u) Q Ez s := by
    intro hni
    have e : own1 c (fun l N => strOnly (g l N)) d M = .ok (.str t) M := by
      unfold itO at ht
      split at ht
      · rename_i i
        exact absurd rfl (hni i)
      · split at ht
        · rename_i t' M' e
          split at ht
          · rename_i em
            cases ht
            rw [e, em]
          · cases ht
        · cases ht
    have po : Po W ξ (Is W) F ρ (own1 c (fun l N => strOnly (g l N)) d M) (fun v' H' => v' = .str t ∧ ∃ F' ρ', Le F F' ∧ ρ <+: ρ' ∧ Rp W ξ M F' H' ρ') (fun _ _ _ => False) := by
      rw [e]
      exact fun v' F' ρ' H' le pr rp' is => ⟨by simpa only [Is] using is, F', ρ', le, pr, rp'⟩
    obtain ⟨q, dx, fvs, rfl, hq, po1⟩ := own1_ok rp iv po
    cases rv
    obtain ⟨od, J, _⟩ := inst_of I hq
    have e0 : Env0 X.prog X.w W.K X.mg X.base A X.stack s H := by
      have z := I.env0
      rw [hK] at z
      exact { z with frames := fr }
    refine wpAny_pyReprUnder_ref (by omega) (objUnder_K hu I.kIn J hs hf ?_)
    have sp : spG W g [.ref q] H (fun v' H' => ∃ y, v' = .str y ∧ (v' = .str t ∧ ∃ F' ρ', Le F F' ∧ ρ <+: ρ' ∧ Rp W ξ M F' H' ρ')) (fun _ _ _ => False) := ⟨ξ, [d], M, F, ρ, IsL.cons iv IsL.nil, rp, po_str po1⟩
    have bs := bn s [.ref q] I.kIn rfl
    rw [List.append_nil] at bs
    refine wpAny_call (codeAny_mono (Fn.run A X.stack s H ⟨[.ref q], []⟩ [.ref q] [.ref q] _ _ hA e0 bs (.cons (rel_ref q) .nil) sp) fun res s' out => ?_)
    cases res with
    | error er =>
      obtain ⟨_, _, _, _, _, _, _, _, _, _, _, _, z⟩ := out
      exact z.elim
    | ok fl =>
      cases fl with
      | ret u' =>
        obtain ⟨v', H', I', r', y, rfl, e', F', ρ', le, pr, rp'⟩ := I.after out
        injection e' with e'
        subst e'
        obtain ⟨tk, rfl⟩ := r'
        exact ⟨⟨y, tk, rfl⟩, y, tk, rfl, hQ s' H' F' ρ' le pr I' rp'⟩
      | next => exact out.elim
      | brk => exact out.elim
      | cont => exact out.elim
  cases d with
  | int i =>
    simp only [itO] at ht
    split at ht
    · rename_i hz
      cases ht
      simp only [Is] at iv
      subst iv
      obtain ⟨tk, rfl⟩ := rv
      exact ReprIs.int tk hz b hb A Ez s Q fun tk' => hQ _ H F ρ Le.rfl' (List.prefix_refl _) (I.tok tk') rp
    · cases ht
  | _ => exact own (fun i h => by cases h)
theorem rloop {c k : Nat} {f : Addr} {fd : FuncData} {g : List D → Stor → R D} (Fn : FnGN X.prog X.w W X.mg X.base k f fd ["self"] g) (hK : X.K = W.K) (bn : Binds X.K fd ["self"] []) (hs : PySem.W.findIn X.K (.ref (W.T c)) "__repr__" = some (some (.ref f))) (hf : PySem.W.isFn X.K (.ref f) = true)
    {A : Around} (hA : Room (k + 1) A) (fr : A.frames = some X.stack) {M : Stor} {x : D} {l : List D} {ts : List Str} {a P : Addr} (hx : lstOf x M = some l) (hne : a ≠ P) (hts : itsO c g M l = some ts) (hsz : (listText ts).length ≤ sizeLine) {R : Result → Shared → Prop} :
    ∀ (n i : Nat) (s : Shared) (H F : Hp) (ρ : List Addr) (acc : Array Value) (cc : Nat) (done : List (Str × Tok)), l.length - i = n → i ≤ l.length → Inv X pins σ H s → Rp W ξ M F H ρ → Is W F ρ x (.ref a) →
    s.heap.get? P = some { cls := .type "list", dict := none, data := .seq acc cc, slots := #[] } → FpOk X pins H P → acc.toList = strValues done → done.map (·.1) = ts.take i →
    (∀ u s' H' F' ρ', Le F F' → ρ <+: ρ' → Inv X pins σ H' s' → Rp W ξ M F' H' ρ' → R (.ok (.ret (.str (listText ts) u))) s') →
    codeAny (model X.prog X.w) A (.builtin "list.__repr__.loop" ⟨[.ref a, rawInt i, .ref P, rawInt ((piled (ts.take i) : Nat) : Int)], []⟩) R s := by
  have tl := itsO_len hts
  have hX : (listText ts).length = (textFrom 0 "[" ts).length + 1 := by
    show (textFrom 0 "[" ts ++ "]").length = _
    rw [strLen_append]; rfl
  have hL := textFrom_len ts 0 "["
  have hsz1 : ts.length ≤ sizeLine := by
    have h1 := hL.1
    rw [if_neg (Nat.lt_irrefl 0)] at h1
    omega
  have hsz2 : ∀ t ∈ ts, t.length ≤ sizeLine := fun t ht => by
    have h2 := hL.2.1 t ht
    omega
  have hp3 := piled_le_listText ts
  intro n
  induction n with
  | zero =>
    intro i s H F ρ acc cc done hk hi I rp ix hP fp hacc hdone hR
    obtain ⟨a', vs, e, hq, hl⟩ := lstOf_ok rp ix hx
    cases e
    rw [← hK] at hq
    obtain ⟨its, rvs, ⟨oa, na, ha, _, _, hda⟩, _⟩ := I.list hq
    have hin : i = its.length := by rw [← rvs.length, hl.len]; omega
    refine codeAny_builtin PySem.F.entry_list_repr_loop ?_
    show wpAny _ _ (Builtin.«list.__repr__.loop» ⟨[.ref a, .int i 0, .ref P, .int ((piled (ts.take i) : Nat) : Int) 0], []⟩) _ _ s
    rw [repr_loop_tree]
    refine wpAny_bind (wpAny_listItems ha hda ?_)
    have hnone : its.toArray[(i : Int).toNat]? = none := by simp [hin]
    simp only [hnone]
    unfold reprEnd
    refine wpAny_bind (wpAny_listItems hP rfl ?_)
    rw [hacc, repr_fold]
    refine wpAny_bind (wpAny_pure ?_)
    have hall : done.map (·.1) = ts := by rw [hdone, show i = ts.length by omega, List.take_length]
    rw [hall]
    refine wpAny_bind (wpAny_mkStr (wpAny_pure ?_) hsz)
    exact hR _ _ H F ρ Le.rfl' (List.prefix_refl _) (I.tok _) rp
  | succ n ih =>
    intro i s H F ρ acc cc done hk hi I rp ix hP fp hacc hdone hR
    obtain ⟨a', vs, e, hq, hl⟩ := lstOf_ok rp ix hx
    cases e
    rw [← hK] at hq
    obtain ⟨its, rvs, ⟨oa, na, ha, _, _, hda⟩, _⟩ := I.list hq
    have hlt : i < l.length := by omega
    obtain ⟨v, ev, iv⟩ := hl.get (List.getElem?_eq_getElem hlt)
    obtain ⟨u, eu, ru⟩ := rvs.get ev
    obtain ⟨t, et, eit⟩ := itsO_get hts (List.getElem?_eq_getElem hlt)
    have hp1 := piled_take_succ et
    have hp2 := piled_take_le ts (i + 1)
    refine codeAny_builtin PySem.F.entry_list_repr_loop ?_
    show wpAny _ _ (Builtin.«list.__repr__.loop» ⟨[.ref a, .int i 0, .ref P, .int ((piled (ts.take i) : Nat) : Int) 0], []⟩) _ _ s
    rw [repr_loop_tree]
    refine wpAny_bind (wpAny_listItems ha hda ?_)
    have hsome : its.toArray[(i : Int).toNat]? = some u := by simpa using eu
    simp only [hsome]
    rw [Int.toNat_natCast]
    obtain ⟨f0, f1, f2, f3, f4, f5⟩ := fp
    have I' : Inv X (pins ++ [(P, { cls := .type "list", dict := none, data := .seq acc cc, slots := #[] })]) σ H s := I.pins_of fun p hp => by
      rcases List.mem_append.mp hp with hp | hp
      · exact I.pin p (List.mem_append_right _ hp)
      · rw [List.mem_singleton.mp hp]
        exact ⟨hP, f0, f1, f2, fun v z => by cases z⟩
    have hr' : Room k (A.under (.builtin "list.__repr__.loop" ⟨[.ref a, .int i 0, .ref P, .int ((piled (ts.take i) : Nat) : Int) 0], []⟩)) := lp_room hA
    have hu' : (A.under (.builtin "list.__repr__.loop" ⟨[.ref a, .int i 0, .ref P, .int ((piled (ts.take i) : Nat) : Int) 0], []⟩)).units < cLine := by have := hr'.un; omega
    refine wpAny_bind (wpAny_holding (it_run Fn hK bn hs hf hr' hu' (lp_frames.trans fr) (b := piled (ts.take i) + 1) I' rp iv ru eit (by omega) fun s' H' F' ρ' le pr I2 rp2 => ?_))
    have hpin := I2.pin _ (List.mem_append_right _ (List.mem_append_right _ (List.mem_singleton.mpr rfl)))
    obtain ⟨hP', nP, _, _, _⟩ := hpin
    have I3 := I2.unpinned
    refine wpAny_bind (wpAny_mkStr ?_ (hsz2 t (List.mem_of_getElem? et)))
    refine wpAny_bind ?_
    show wpAny _ _ (updateSeq P _) _ _ _
    have hasz : acc.size ≤ sizeLine := by
      have e1 : acc.toList.length = acc.size := by simp
      have e2 : (strValues done).length = done.length := by simp [strValues]
      have e3 : done.length = (ts.take i).length := by rw [← hdone, List.length_map]
      have e4 : (ts.take i).length ≤ i := by rw [List.length_take]; omega
      rw [hacc] at e1; omega
    refine wpAny_updateSeq hP' rfl (wpAny_pure ⟨PySem.F.quiet_list_repr_loop _, ?_⟩) hasz
    have e1 : ((i : Int) + 1) = ((i + 1 : Nat) : Int) := by omega
    have e2 : piled (ts.take i) + (t.length + 2) = piled (ts.take (i + 1)) := by omega
    rw [e1, e2]
    refine ih (i + 1) _ H' F' ρ' (acc.push (.str t s'.toks)) _ (done ++ [(t, s'.toks)]) (by omega) hlt ((I3.tok (s'.toks + 1)).turned (it := P) (fun b o hb e => (Heap.get?_update_other _ _ (fun h : P = b => hb h.symm)).trans e) nP f1 f3 f4 f5) rp2 (ix.mono le pr) (Heap.get?_update_self _ hP' rfl) ⟨nP, f1, f2, f3, f4, f5⟩ (by simp [hacc, strValues]) (by simp [List.take_add_one, et, hdone]) fun u' s2 H2 F2 ρ2 le2 pr2 J2 rp3 => ?_
    exact hR u' s2 H2 F2 ρ2 (le.tr le2) (pr.trans pr2) J2 rp3
noncomputable def fReprO (c : Nat) (g : List D → Stor → R D) : List D → Stor → R D := fun ds M => match ds with
  | [x] => (match lstOf x M with
    | some (d :: l) => (match itsO c g M (d :: l) with
      | some ts => if (listText ts).length ≤ 1000000 then .ok (.str (listText ts)) M else .no
      | none => .no)
    | _ => .no)
  | _ => .no
theorem cg_reprL {c k : Nat} {f : Addr} {g : List D → Stor → R D} (h : FnBN X.prog X.w W X.mg X.base k f ["self"] g) (hK : X.K = W.K) (hr : Room (k + 3) X.A) (gd : X.A.guards = some [])
    (hs : PySem.W.findIn X.K (.ref (W.T c)) "__repr__" = some (some (.ref f))) (hf : PySem.W.isFn X.K (.ref f) = true) : CallG X W E (.builtin "repr") (fReprO c g) := by
  intro ξ pins s σ H M F ρ ds vs us Q I rv rp is po
  unfold fReprO at po
  split at po
  · rename_i x
    obtain ⟨v, rfl, ix⟩ := one_of is
    split at po
    · rename_i d l hx
      split at po
      · rename_i ts hts
        split at po
        · rename_i hz
          obtain ⟨a, xs, rfl, hq, hl⟩ := lstOf_ok rp ix hx
          obtain ⟨u, rfl, ru⟩ := vals1 rv
          cases ru
          obtain ⟨fd, Fn, bn⟩ := h.ex
          rw [← hK] at bn hq
          obtain ⟨its, rvs, ⟨oa, na, ha, hcl, _, hda⟩, _⟩ := I.list hq
          have hn : ∃ y l', its = y :: l' := by
            have e : its.length = l.length + 1 := by rw [← rvs.length, hl.len]; rfl
            cases its with
            | nil => simp at e
            | cons y l' => exact ⟨y, l', rfl⟩
          obtain ⟨y, l', rfl⟩ := hn
          have hTy : s.TypeIs (.ref a) "list" := ⟨oa, ha, hcl⟩
          have lsz := small_line hz
          have un := hr.un
          have fr : X.A.in1.frames = some X.stack := I.env0.frames
          refine call_repr_slot (by omega) hTy PySem.F.slot_list_repr.toG ?_
          refine wpAny_call (codeAny_call_builtin PySem.F.slot_list_repr.plain PySem.F.entry_list_repr (PySem.F.slot_list_repr.check _ _ _ _ _ _ _ _ hTy (PySem.F.args_list_repr_1 _) ?_))
          refine wpAny_list_repr_head (b := 0) (g := []) gd (fun _ _ _ z => nomatch z) ha hda ?_
          refine wpAny_bind (m := newList []) (wpAny_newObj_type ?_)
          refine wpAny_pure ⟨PySem.F.quiet_list_repr_loop _, ?_⟩
          have keep : ∀ (ob : Obj) b o, s.heap.get? b = some o → (s.heap.push ob).get? b = some o := fun ob b o e => Heap.get?_push_of_some _ e
          have nP : H s.heap.objs.size = none := I.hok.fresh (Nat.le_refl _)
          refine rloop (P := s.heap.objs.size) (ts := ts) (k := k) Fn hK bn hs hf (hr.mono (by omega)).in1 fr hx (Nat.ne_of_lt (Heap.lt_size ha)) hts lsz _ 0 _ H F ρ #[] _ [] rfl (Nat.zero_le _) (I.kept (t' := s.toks) (keep _)) rp ix (Heap.get?_push_size _ rfl) (I.fpOk (Nat.le_refl _) nP) rfl (by simp) fun u s' H' F' ρ' le pr I' rp' => ?_
          exact ⟨_, _, rfl, .str (listText ts), H', I', ⟨u, rfl⟩, po _ F' ρ' H' le pr rp' (by simp only [Is])⟩
        · exact po.elim
      · exact po.elim
    · exact po.elim
  · exact po.elim
end
end G

namespace G
open PySem PySem.Spec PyProof.Rows L2
/-! ### enumerate(tuple) -/
theorem meets_enum1B {v : Value} {o : Obj} {H : Heap → Prop} (B : Begins v o H) :
    Meets (Builtin.«enumerate.__new__» ⟨[.type "enumerate", v], []⟩) (fun _ R s => H s.heap ∧
      R (.ok (.ret (.ref (s.heap.push o).objs.size))) { s with heap := (s.heap.push o).push { cls := .type "enumerate", data := .fields #[.none, .bool false, .ref s.heap.objs.size, rawInt 0, .none, .none] } }) :=
  .of_wp fun prog w A R s h => by
    obtain ⟨hp, g, d, tk, os⟩ := s; obtain ⟨h1, h⟩ := h
    have hsub := sub_enumerate
    have q1 : ∀ {A' : Around} {E : Value → Shared → Prop} {Q : Value → Shared → Prop}, Q (.ref hp.objs.size) ⟨hp.push o, g, d, tk, os⟩ → wpAny (model prog w) A' (pyIter v) Q E ⟨hp, g, d, tk, os⟩ :=
      fun q => B.iter prog w _ _ ⟨hp, g, d, tk, os⟩ _ h1 q
    wp_walk using q1
    refine wpAny_stack_any fun st => wpAny_pure ?_
    split
    · rename_i c _ _ _ _ _
      cases (c == Value.type "enumerate")
      · wp_walk using q1
        exact ⟨_, rfl, h⟩
      · wp_walk using q1
        exact ⟨_, rfl, h⟩
    · wp_walk using q1
      exact ⟨_, rfl, h⟩
theorem call_enumB {prog : Program} {w : World} {A : Around} {E : Value → Shared → Prop} {s : Shared} {v : Value} {o : Obj} {H : Heap → Prop} {Q : Value → Shared → Prop} (B : Begins v o H) (h1 : H s.heap)
    (h : ∀ h', IsEnum h' (s.heap.objs.size + 1) s.heap.objs.size 0 .none → h'.get? s.heap.objs.size = some o → h'.objs.size = s.heap.objs.size + 2 →
      (∀ b o, s.heap.get? b = some o → h'.get? b = some o) → Q (.ref (s.heap.objs.size + 1)) { s with heap := h' }) :
    wpAny (model prog w) A (call (.type "enumerate") [v]) Q E s := by
  refine callType_new PySem.F.called_enumerate (by decide) (PySem.F.typeCall_enumerate_1 _) (PySem.F.newCall_enumerate_1 _) (fun obj => PySem.F.args_object_init_2 obj _) PySem.F.entry_enumerate_new
    (meets_enum1B B) ⟨h1, ?_⟩
  have hz : (s.heap.push o).objs.size = s.heap.objs.size + 1 := Heap.size_push ..
  show _ ∧ _
  rw [hz]
  have he : IsEnum ((s.heap.push o).push { cls := .type "enumerate", data := .fields #[.none, .bool false, .ref s.heap.objs.size, rawInt 0, .none, .none] }) (s.heap.objs.size + 1) s.heap.objs.size 0 .none := by
    have := Heap.get?_push_size (s.heap.push o) (o := { cls := .type "enumerate", data := .fields #[.none, .bool false, .ref s.heap.objs.size, rawInt 0, .none, .none] }) rfl
    rw [hz] at this; exact this
  exact ⟨⟨_, he, rfl⟩, h _ he (Heap.get?_push_of_some _ (Heap.get?_push_size _ B.free)) (by rw [Heap.size_push, hz]) fun b o x => Heap.get?_push_of_some _ (Heap.get?_push_of_some _ x)⟩
def Itet (K : PySem.W.Frag) (a : Addr) : It :=
  ⟨fun i H => ∃ (xs : List V) (x : V), SqT K H a xs ∧ xs[i]? = some x, fun i H v H' => ∃ T x, v = .ref T ∧ H T = none ∧ H' = upd H T (.tup [.int (i : Nat), x]) ∧ ∀ xs, SqT K H a xs → xs[i]? = some x, fun i H => ∃ xs : List V, SqT K H a xs ∧ xs.length ≤ i⟩
theorem turn_enumT {P : Program} {w : World} {K : PySem.W.Frag} {elts : List Expr} {kk : Nat} {tpos : Pos} (a e it : Addr) (hai : a ≠ it) (hae : a ≠ e) :
    Turn P w K (.Tuple elts kk tpos) (Itet K a) [e, it] e (fun i h => (∃ old, IsEnum h e it ((i : Nat) : Int) old) ∧ h.IsTupleIter it a i ∧ e ≠ it) where
  mem := by simp
  obj := fun i h st b hb => by
    obtain ⟨⟨old, he⟩, ⟨o, ho, hc, hd⟩, _⟩ := st
    have e' : b = e ∨ b = it := by simpa using hb
    rcases e' with z | z
    · rw [z]; exact ⟨_, he, fun v q => nomatch q⟩
    · rw [z]; exact ⟨o, ho, fun v q => by rw [hd] at q; cases q⟩
  keep := fun i h h' st k => let ⟨⟨old, he⟩, hi, hne⟩ := st; ⟨⟨old, k e (by simp) _ he⟩, hi.at fun o q => k it (by simp) o q, hne⟩
  item := by
    intro X hP hw hK hc i pins s σ H E I hf st hg
    subst hP hw hK
    obtain ⟨⟨old, he⟩, hit, hne⟩ := st
    obtain ⟨xs, x, hq, hx⟩ := hg
    obtain ⟨its, rv, p, hz⟩ := I.tuple hq
    obtain ⟨u, hu, ru⟩ := rv.get hx
    have hel : e < s.heap.objs.size := Heap.lt_size he
    have hil : it < s.heap.objs.size := by obtain ⟨_, q, _⟩ := hit; exact Heap.lt_size q
    have hlt : i < its.toArray.size := by
      have := (List.getElem?_eq_some_iff.mp hu).1
      simpa using this
    refine wpAny_pyNext_enum_itemD (Draws.tuple (A := X.A.in1) (I.ok.hd hc) it a hai its.toArray) he ⟨hit, p⟩ hlt hne (by simp; exact ⟨hne, fun z => hae z.symm⟩) fun x' h' tk hx' ho hst hT hsz hk => ?_
    have ex : x' = u := by
      have z : its.toArray[i]? = some u := by simpa using hu
      rw [z] at hx'
      exact (Option.some.inj hx').symm
    subst ex
    obtain ⟨hit', _⟩ := hst
    refine ⟨_, rfl, wpAny_letOwnedTupleGo_enum (s := { s with heap := h', toks := tk + 1 }) ho fun h'' he' sb => ?_⟩
    have hT2 : h''.get? s.heap.objs.size = some { cls := .type "tuple", data := .seq #[.int i tk, x'] } := (sb.2 _ (Nat.ne_of_gt hel)).trans hT
    have new : ObjOk X.prog X.w (upd H s.heap.objs.size (.tup [.int (i : Nat), x])) h'' s.heap.objs.size (.tup [.int (i : Nat), x]) :=
      ⟨by show 2 ≤ sizeLine; decide, [.int i tk, x'], .cons ⟨_, rfl⟩ (.cons ru .nil), ⟨_, hT2, rfl, _, rfl⟩⟩
    have I1 : Inv X pins σ (upd H s.heap.objs.size (.tup [.int (i : Nat), x])) { s with heap := h'', toks := tk + 1 } :=
      I.turnedNew (ch := [e, it]) (fun b ob hb q => (sb.2 b (fun z => hb (by simp [z]))).trans (hk b ob (fun z => hb (by simp [z])) (fun z => hb (by simp [z])) q)) hf (Nat.le_refl _) new
    refine ⟨.ref s.heap.objs.size, _, I1, rfl, ⟨_, x, rfl, I.hok.fresh (Nat.le_refl _), rfl, fun ys hy => by rw [I.tuple_inj hy hq]; exact hx⟩, ⟨⟨x', ?_⟩, hit'.at fun o q => (sb.2 it (Ne.symm hne)).trans q, hne⟩, fun b hb => ?_⟩
    · have e1 : ((i + 1 : Nat) : Int) = (i : Int) + 1 := by omega
      rw [e1]; exact he'
    · have hb' : b < s.heap.objs.size := by
        have e' : b = e ∨ b = it := by simpa using hb
        rcases e' with z | z
        · rw [z]; exact hel
        · rw [z]; exact hil
      rw [upd_ne (Nat.ne_of_lt hb')]
      exact (hf b hb).1
  done := by
    intro X hP hw hK hc i pins s σ H E I hf st hg
    subst hP hw hK
    obtain ⟨⟨old, he⟩, hit, hne⟩ := st
    obtain ⟨xs, hq, hx⟩ := hg
    obtain ⟨its, rv, p, hz⟩ := I.tuple hq
    obtain ⟨f0, f1, f2, f3, f4, f5⟩ := hf it (by simp)
    have hl := rv.length
    have hT : s.TypeIs (.ref e) "enumerate" := ⟨_, he, rfl⟩
    unfold pyNext
    refine wpAny_bind (wpAny_attempt (wpAny_callSpecial?_slot (name := Str.ofString "__next__") hT PySem.F.slot_enumerate_next
      (wpAny_call_entry PySem.F.slot_enumerate_next hT PySem.F.entry_enumerate_next ?_ (PySem.F.args_enumerate_next_1 _))))
    show wpAny _ _ (field (.ref e) 2 >>= _) _ _ _
    refine wpAny_bind (wpAny_field he rfl (x := .ref it) rfl ?_)
    refine wpAny_bind (wpAny_nextOf_tuple_end (A := X.A.in1) (I.ok.hd hc) hit p (by simp; omega) fun h' x he' hx' => ?_)
    obtain ⟨o, ho, hc'⟩ := hx'
    refine wpAny_bind (wpAny_isInstance (T := "StopIteration") (b := true) ⟨o, ho, hc'⟩ isSubtype_stop ?_)
    exact wpAny_pure ⟨rfl, I.turned (t' := s.toks) (fun b o hb q => he' b o hb q) f0 f1 f3 f4 f5⟩
  self := fun A i s Q E st h => let ⟨⟨_, he⟩, _⟩ := st; wpAny_pyIter_enum he h
def iEnumT (K : PySem.W.Frag) (ta : TA) : TI := fun σ H R => ta σ H fun vs H1 => ∃ a xs, vs = [.ref a] ∧ SqT K H1 a xs ∧ R (Itet K a) H1
theorem pi_enumT {X : Cx} {e : Expr} {ta : TA} {p pos tpos : Pos} {elts : List Expr} {kk : Nat} (hg : Gl X "enumerate") (hm : X.mg "enumerate" = none) (ha : PA X [e] ta) (hs : starEach [e] X.env = [(false, eval e X.env)] := by rfl) :
    PI X (.Tuple elts kk tpos) (.Call (.Name "enumerate" p) [e] [] pos) (iEnumT X.K ta) := by
  refine ⟨fun pins s σ H R I h => ?_⟩
  refine Call_ (ld_blt I hg hm boot_enumerate (PyProof.Rows.callWith_type1 (thn (ha.run pos pins s σ H _ I h) fun us s1 ⟨vs, H1, I1, r1, q1⟩ => ?_) hs rfl))
  obtain ⟨a, xs, ex, hq, q⟩ := q1
  subst ex
  cases r1 with
  | cons r rr =>
    cases rr
    cases r
    obtain ⟨its, rv, p', hz⟩ := I1.tuple hq
    have hal : a < s1.heap.objs.size := by obtain ⟨_, q, _⟩ := p'; exact Heap.lt_size q
    refine call_enumB (begins_tuple a its.toArray) p' fun h' he hit hsz hk => wpAny_pyIter_enum he ?_
    have I2 : Inv X pins σ H1 { s1 with heap := h' } := I1.kept (t' := s1.toks) hk
    refine ⟨s1.heap.objs.size + 1, [s1.heap.objs.size + 1, s1.heap.objs.size], _, _, H1, rfl, I2, turn_enumT a (s1.heap.objs.size + 1) s1.heap.objs.size (Nat.ne_of_lt hal) (Nat.ne_of_lt (Nat.lt_succ_of_lt hal)), ⟨⟨.none, he⟩, ⟨_, hit, rfl, rfl⟩, Nat.succ_ne_self _⟩, fun b hb => ?_, q⟩
    have e' : b = s1.heap.objs.size + 1 ∨ b = s1.heap.objs.size := by simpa using hb
    have hle : s1.heap.objs.size ≤ b := by
      rcases e' with z | z
      · rw [z]; exact Nat.le_add_right _ _
      · rw [z]; exact Nat.le_refl _
    exact I1.fpOk hle (I1.hok.fresh hle)
section
variable {X : Cx} {W : Wd} {ξ : Xi} {E : Sg → XK} {a b e o tg : Expr} {es : List Expr} {ga gb go ge : GE'} {gs : GA'} {pos pos' p2 p apos kpos tpos : Pos} {x : Str} {elts : List Expr} {kk : Nat}
theorem good_enumT {F0 : Hp} {ρ0 : List Addr} {l : List D} {q : Addr} {vs : List V} (hq : SqT W.K F0 q vs) (hl0 : IsL W F0 ρ0 l vs) : GoodIt W F0 ρ0 (enumD l, anyS) (Itet W.K q) := by
  intro ξ i M F H ρ le pr rp hk
  have hl := hl0.mono le pr
  have hv := rp.sub.sqT (le.sqT hq)
  refine ⟨fun d hd => ?_, fun hi => ⟨vs, hv, by rw [hl.len]; rw [enumD_len] at hi; exact hi⟩⟩
  obtain ⟨x, ex, rfl⟩ := enumD_at hd
  obtain ⟨v, ev, iv⟩ := hl.get ex
  refine ⟨⟨vs, v, hv, ev⟩, ?_⟩
  rintro w H' ⟨T, y, rfl, hT, rfl, hy⟩
  have := hy vs hv
  rw [ev] at this; cases this
  refine ⟨upd F T (.tup [.int (i : Nat), v]), Le.new (rp.free hT), rp.new hT, ?_⟩
  simp only [Is]
  exact ⟨T, _, rfl, SqT.of upd_same, IsL.cons (by simp only [Is]) (IsL.cons (iv.mono (Le.new (rp.free hT)) (List.prefix_refl _)) IsL.nil)⟩
/-- enumerate of a list or of a tuple -/
def giEnumB (a : GA') : GI' := fun Γ M => (a Γ M).bind fun xs M1 => match xs with
  | [.tup l] => .ok (enumD l, anyS) M1
  | [x] => (match lstIt x M1 with
    | some (l, keep) => .ok (enumD l, keep) M1
    | none => .no)
  | _ => .no
theorem gi_enumB (hK : X.K = W.K) (hg : Gl X "enumerate") (hm : X.mg "enumerate" = none) (ha : GA X W E [a] gs) (hs : starEach [a] X.env = [(false, eval a X.env)] := by rfl) : GI X W E (.Tuple elts kk tpos) (.Call (.Name "enumerate" p) [a] [] pos) (giEnumB gs) :=
  mI (PI.or (gi_enum hK hg hm ha hs) (pi_enumT hg hm ha hs)) fun σ H Q ⟨ξ, Γ, M, F, ρ, en, rp, po⟩ => by
    unfold giEnumB at po
    cases er : gs Γ M with
    | no => rw [er] at po; exact po.elim
    | ex c fs M1 => rw [er] at po; exact .inl ⟨ξ, Γ, M, F, ρ, en, rp, by unfold giEnum; rw [er]; exact po⟩
    | ok xs M1 =>
      rw [er] at po
      simp only [R.bind_ok] at po
      split at po
      · rename_i l
        refine .inr ⟨ξ, Γ, M, F, ρ, en, rp, ?_⟩
        rw [er]
        intro v F1 ρ1 H1 le pr rp1 is
        obtain ⟨u, rfl, iu⟩ := one_of is
        simp only [Is] at iu
        obtain ⟨q, vs, rfl, hq, hl⟩ := iu
        rw [hK]
        exact ⟨q, vs, rfl, rp1.sub.sqT hq, po _ F1 ρ1 H1 le pr rp1 (good_enumT hq hl)⟩
      · rename_i x _
        exact .inl ⟨ξ, Γ, M, F, ρ, en, rp, by unfold giEnum; rw [er]; exact po⟩
      · exact po.elim
end
end G

namespace K05
open PySem PySem.Spec PyProof.Rows L2 G
def top (i : Nat) : Stmt := PySem.Challenge.pw_sixasone_k05_totals_greatest_least.main.body.getD i (.Pass ⟨0, 0, 0, 0⟩)

abbrev s__law_pen : Stmt := top 27
abbrev s__law_draw : Stmt := top 28
abbrev s__law_pick : Stmt := top 29
abbrev s__law_low : Stmt := top 30
abbrev s__law_fraction : Stmt := top 33
abbrev s_is_integer : Stmt := top 9
abbrev s_BadRatio___init__ : Stmt := inClass (top 3) 0
abbrev s_common : Stmt := top 10
abbrev s_Ratio___init__ : Stmt := inClass (top 12) 0
abbrev s_Ratio_endless : Stmt := inClass (top 12) 1
abbrev s__law_made : Stmt := top 32
abbrev s__law_item : Stmt := top 35
abbrev s__law_is_less : Stmt := top 37
abbrev s__law_farthest : Stmt := top 38
abbrev s__law_total : Stmt := top 36
abbrev s_written : Stmt := top 13
abbrev s_Ratio___repr__ : Stmt := inClass (top 12) 29
abbrev s__law_heard : Stmt := top 34
abbrev s_Ratio_of : Stmt := inClass (top 12) 2
abbrev s_all_ratios : Stmt := top 14
abbrev s_added : Stmt := top 16
abbrev s_Ratio_total : Stmt := inClass (top 12) 3
abbrev s_is_less : Stmt := top 15
abbrev s_Ratio_greatest : Stmt := inClass (top 12) 4
abbrev s_Ratio_least : Stmt := inClass (top 12) 5
abbrev s__law_told : Stmt := top 39
abbrev s__law_asked : Stmt := top 40
abbrev s__law_right : Stmt := top 41
abbrev s__law_bent_right : Stmt := top 42
abbrev s_law : Stmt := top 43
abbrev clsT (K : PySem.W.Frag) : Nat → Addr := fun c => ([He.ga K "WebError", He.ga K "BadRatio", He.ga K "NoRatio", He.ga K "BadText", He.ga K "Nothing", He.ga K "Ratio"] : List Addr).getD c 0
abbrev fldN : Nat → List Str := fun c => ([[], ["at"], [], ["at"], [], ["top", "bottom"]] : List (List Str)).getD c []
abbrev lams : List Str := ["_law_asked"]
abbrev WW (K : PySem.W.Frag) : Wd := ⟨K, clsT K, fldN, tbOf K lams⟩
def ft_top : Nat → Option Nat := fun c => if c = 5 then some 0 else none
def ft_bottom : Nat → Option Nat := fun c => if c = 5 then some 1 else none
def et_at : Nat → Option Nat := fun c => if c = 1 then some 0 else none
def isOk : Nat → Bool := fun c => decide (c = 4) || decide (c = 5)
def isTab : TK → CK → Option Bool
  | .non, .ty "int" => some false
  | .bl, .ty "int" => some true
  | .int, .ty "int" => some true
  | .str, .ty "int" => some false
  | .lst, .ty "int" => some false
  | .tup, .ty "int" => some false
  | .dct, .ty "int" => some false
  | .ins 5, .ty "int" => some false
  | .bl, .ty "bool" => some true
  | .int, .ty "bool" => some false
  | .non, .own 5 => some false
  | .bl, .own 5 => some false
  | .int, .own 5 => some false
  | .str, .own 5 => some false
  | .lst, .own 5 => some false
  | .tup, .own 5 => some false
  | .dct, .own 5 => some false
  | .ins 5, .own 5 => some true
  | .non, .ty "list" => some false
  | .bl, .ty "list" => some false
  | .int, .ty "list" => some false
  | .str, .ty "list" => some false
  | .lst, .ty "list" => some true
  | .tup, .ty "list" => some false
  | .dct, .ty "list" => some false
  | .ins 5, .ty "list" => some false
  | .non, .own 4 => some false
  | .bl, .own 4 => some false
  | .int, .own 4 => some false
  | .str, .own 4 => some false
  | .lst, .own 4 => some false
  | .tup, .own 4 => some false
  | .dct, .own 4 => some false
  | .ins 5, .own 4 => some false
  | .ins 4, .own 4 => some true
  | _, _ => none
def exOk : Nat → Bool := fun c => decide (c = 1) || decide (c = 2)
def exTab : Nat → CK → Option Bool
  | 1, .own 1 => some true
  | 1, .own 2 => some false
  | 1, .own 3 => some false
  | 2, .own 1 => some false
  | 2, .own 2 => some true
  | 2, .own 3 => some false
  | 1, .ty "ValueError" => some true
  | 2, .ty "ValueError" => some true
  | _, _ => none
def mt_WebError : Nat → Option Bool
  | 1 => some true
  | 2 => some true
  | _ => none
structure Tx (K : PySem.W.Frag) (mg : Str → Option Value) : Prop where
  g__law_pen : mg "_law_pen" = some (.ref (He.ga K "_law_pen"))
  g__law_pick : mg "_law_pick" = some (.ref (He.ga K "_law_pick"))
  g__law_item : mg "_law_item" = some (.ref (He.ga K "_law_item"))
  g__law_draw : mg "_law_draw" = some (.ref (He.ga K "_law_draw"))
  g__law_right : mg "_law_right" = some (.ref (He.ga K "_law_right"))
  g__law_bent_right : mg "_law_bent_right" = some (.ref (He.ga K "_law_bent_right"))
  g__law_fraction : mg "_law_fraction" = some (.ref (He.ga K "_law_fraction"))
  g__law_made : mg "_law_made" = some (.ref (He.ga K "_law_made"))
  g__law_low : mg "_law_low" = some (.ref (He.ga K "_law_low"))
  g_Ratio : mg "Ratio" = some (.ref (He.ga K "Ratio"))
  g_Nothing : mg "Nothing" = some (.ref (He.ga K "Nothing"))
  g_is_integer : mg "is_integer" = some (.ref (He.ga K "is_integer"))
  g_BadRatio : mg "BadRatio" = some (.ref (He.ga K "BadRatio"))
  g_common : mg "common" = some (.ref (He.ga K "common"))
  g__law_farthest : mg "_law_farthest" = some (.ref (He.ga K "_law_farthest"))
  g__law_total : mg "_law_total" = some (.ref (He.ga K "_law_total"))
  g__law_asked : mg "_law_asked" = some (.ref (He.ga K "_law_asked"))
  g__law_is_less : mg "_law_is_less" = some (.ref (He.ga K "_law_is_less"))
  g_written : mg "written" = some (.ref (He.ga K "written"))
  g__law_heard : mg "_law_heard" = some (.ref (He.ga K "_law_heard"))
  g__law_told : mg "_law_told" = some (.ref (He.ga K "_law_told"))
  g_WebError : mg "WebError" = some (.ref (He.ga K "WebError"))
  g_BadText : mg "BadText" = some (.ref (He.ga K "BadText"))
  g_NoRatio : mg "NoRatio" = some (.ref (He.ga K "NoRatio"))
  g_all_ratios : mg "all_ratios" = some (.ref (He.ga K "all_ratios"))
  g_added : mg "added" = some (.ref (He.ga K "added"))
  g_is_less : mg "is_less" = some (.ref (He.ga K "is_less"))
  n_range : mg "range" = none
  n_list : mg "list" = none
  n_len : mg "len" = none
  n_int : mg "int" = none
  n_abs : mg "abs" = none
  n_isinstance : mg "isinstance" = none
  n_bool : mg "bool" = none
  n_repr : mg "repr" = none
  n_tuple : mg "tuple" = none
  n_str : mg "str" = none
  n_ValueError : mg "ValueError" = none
  n_any : mg "any" = none
  n_enumerate : mg "enumerate" = none
  sm_Ratio_endless : SMet K (He.ga K "Ratio") "endless" (He5.wf K (He.ga K "Ratio") "staticmethod" "endless")
  mk_Ratio : Mk K (He.ga K "Ratio") (He.ma K (He.ga K "Ratio") "__init__")
  mk0_Nothing : Mk0 K (He.ga K "Nothing")
  exi_BadRatio : ExI K (He.ga K "BadRatio") (He.ma K (He.ga K "BadRatio") "__init__") ["at"]
  cls_Ratio : Cls K (He.ga K "Ratio")
  na_Ratio_top : NoAttr K (He.ga K "Ratio") "top"
  na_Ratio_bottom : NoAttr K (He.ga K "Ratio") "bottom"
  me_Ratio___repr__ : Meth K (He.ga K "Ratio") "__repr__" (He.ma K (He.ga K "Ratio") "__repr__")
  c_ENDLESS : ∃ t, mg "ENDLESS" = some (.str "endless" t)
  tab__law_asked : TabK K "_law_asked"
  apart : (lams.map (tcP K)).Nodup
  sm_Ratio_total : SMet K (He.ga K "Ratio") "total" (He5.wf K (He.ga K "Ratio") "staticmethod" "total")
  sm_Ratio_greatest : SMet K (He.ga K "Ratio") "greatest" (He5.wf K (He.ga K "Ratio") "staticmethod" "greatest")
  sm_Ratio_least : SMet K (He.ga K "Ratio") "least" (He5.wf K (He.ga K "Ratio") "staticmethod" "least")
  xf_BadRatio : XfC K (He.ga K "BadRatio")
  no_BadRatio_at : PySem.W.findIn K (.ref (He.ga K "BadRatio")) "at" = some none
  ex0_NoRatio : Ex0 K (He.ga K "NoRatio")
  sm_Ratio_of : SMet K (He.ga K "Ratio") "of" (He5.wf K (He.ga K "Ratio") "staticmethod" "of")
  cls_Nothing : Cls K (He.ga K "Nothing")
  i_Nothing : ClsI K (He.ga K "Nothing")
  i_Ratio : ClsI K (He.ga K "Ratio")
  kit_non_int : PySem.W.kitOne K (TN.v K (.b "NoneType")) (TN.v K (.b "int")) = some false
  kit_bl_int : PySem.W.kitOne K (TN.v K (.b "bool")) (TN.v K (.b "int")) = some true
  kit_int_int : PySem.W.kitOne K (TN.v K (.b "int")) (TN.v K (.b "int")) = some true
  kit_str_int : PySem.W.kitOne K (TN.v K (.b "str")) (TN.v K (.b "int")) = some false
  kit_lst_int : PySem.W.kitOne K (TN.v K (.b "list")) (TN.v K (.b "int")) = some false
  kit_tup_int : PySem.W.kitOne K (TN.v K (.b "tuple")) (TN.v K (.b "int")) = some false
  kit_dct_int : PySem.W.kitOne K (TN.v K (.b "dict")) (TN.v K (.b "int")) = some false
  kit_Ratio_int : PySem.W.kitOne K (TN.v K (.o "Ratio")) (TN.v K (.b "int")) = some false
  kit_bl_bool : PySem.W.kitOne K (TN.v K (.b "bool")) (TN.v K (.b "bool")) = some true
  kit_int_bool : PySem.W.kitOne K (TN.v K (.b "int")) (TN.v K (.b "bool")) = some false
  kit_non_Ratio : PySem.W.kitOne K (TN.v K (.b "NoneType")) (TN.v K (.o "Ratio")) = some false
  kit_bl_Ratio : PySem.W.kitOne K (TN.v K (.b "bool")) (TN.v K (.o "Ratio")) = some false
  kit_int_Ratio : PySem.W.kitOne K (TN.v K (.b "int")) (TN.v K (.o "Ratio")) = some false
  kit_str_Ratio : PySem.W.kitOne K (TN.v K (.b "str")) (TN.v K (.o "Ratio")) = some false
  kit_lst_Ratio : PySem.W.kitOne K (TN.v K (.b "list")) (TN.v K (.o "Ratio")) = some false
  kit_tup_Ratio : PySem.W.kitOne K (TN.v K (.b "tuple")) (TN.v K (.o "Ratio")) = some false
  kit_dct_Ratio : PySem.W.kitOne K (TN.v K (.b "dict")) (TN.v K (.o "Ratio")) = some false
  kit_Ratio_Ratio : PySem.W.kitOne K (TN.v K (.o "Ratio")) (TN.v K (.o "Ratio")) = some true
  kit_non_list : PySem.W.kitOne K (TN.v K (.b "NoneType")) (TN.v K (.b "list")) = some false
  kit_bl_list : PySem.W.kitOne K (TN.v K (.b "bool")) (TN.v K (.b "list")) = some false
  kit_int_list : PySem.W.kitOne K (TN.v K (.b "int")) (TN.v K (.b "list")) = some false
  kit_str_list : PySem.W.kitOne K (TN.v K (.b "str")) (TN.v K (.b "list")) = some false
  kit_lst_list : PySem.W.kitOne K (TN.v K (.b "list")) (TN.v K (.b "list")) = some true
  kit_tup_list : PySem.W.kitOne K (TN.v K (.b "tuple")) (TN.v K (.b "list")) = some false
  kit_dct_list : PySem.W.kitOne K (TN.v K (.b "dict")) (TN.v K (.b "list")) = some false
  kit_Ratio_list : PySem.W.kitOne K (TN.v K (.o "Ratio")) (TN.v K (.b "list")) = some false
  kit_non_Nothing : PySem.W.kitOne K (TN.v K (.b "NoneType")) (TN.v K (.o "Nothing")) = some false
  kit_bl_Nothing : PySem.W.kitOne K (TN.v K (.b "bool")) (TN.v K (.o "Nothing")) = some false
  kit_int_Nothing : PySem.W.kitOne K (TN.v K (.b "int")) (TN.v K (.o "Nothing")) = some false
  kit_str_Nothing : PySem.W.kitOne K (TN.v K (.b "str")) (TN.v K (.o "Nothing")) = some false
  kit_lst_Nothing : PySem.W.kitOne K (TN.v K (.b "list")) (TN.v K (.o "Nothing")) = some false
  kit_tup_Nothing : PySem.W.kitOne K (TN.v K (.b "tuple")) (TN.v K (.o "Nothing")) = some false
  kit_dct_Nothing : PySem.W.kitOne K (TN.v K (.b "dict")) (TN.v K (.o "Nothing")) = some false
  kit_Ratio_Nothing : PySem.W.kitOne K (TN.v K (.o "Ratio")) (TN.v K (.o "Nothing")) = some false
  kit_Nothing_Nothing : PySem.W.kitOne K (TN.v K (.o "Nothing")) (TN.v K (.o "Nothing")) = some true
  exC_BadRatio : ExcC K (He.ga K "BadRatio")
  exC_NoRatio : ExcC K (He.ga K "NoRatio")
  kit_BadRatio_BadRatio : PySem.W.kitOne K (TN.v K (.o "BadRatio")) (TN.v K (.o "BadRatio")) = some true
  kit_BadRatio_NoRatio : PySem.W.kitOne K (TN.v K (.o "BadRatio")) (TN.v K (.o "NoRatio")) = some false
  kit_BadRatio_BadText : PySem.W.kitOne K (TN.v K (.o "BadRatio")) (TN.v K (.o "BadText")) = some false
  kit_NoRatio_BadRatio : PySem.W.kitOne K (TN.v K (.o "NoRatio")) (TN.v K (.o "BadRatio")) = some false
  kit_NoRatio_NoRatio : PySem.W.kitOne K (TN.v K (.o "NoRatio")) (TN.v K (.o "NoRatio")) = some true
  kit_NoRatio_BadText : PySem.W.kitOne K (TN.v K (.o "NoRatio")) (TN.v K (.o "BadText")) = some false
  kit_BadRatio_ValueError : PySem.W.kitOne K (TN.v K (.o "BadRatio")) (TN.v K (.b "ValueError")) = some true
  kit_NoRatio_ValueError : PySem.W.kitOne K (TN.v K (.o "NoRatio")) (TN.v K (.b "ValueError")) = some true
  exm_BadRatio_WebError : PySem.W.exmOne K (.ref (He.ga K "BadRatio")) (.ref (He.ga K "WebError")) = some true
  exm_NoRatio_WebError : PySem.W.exmOne K (.ref (He.ga K "NoRatio")) (.ref (He.ga K "WebError")) = some true
  d__law_pen : ∃ fd, FunD K "_law_pen" "_law_pen" (defArgs s__law_pen) (defBody s__law_pen) (defScope s__law_pen) [] [] (He.ga K "_law_pen") fd
  k__law_pen : PySem.W.keepIn K (.ref (He.ga K "_law_pen")) = true
  d__law_draw : ∃ fd, FunD K "_law_draw" "_law_draw" (defArgs s__law_draw) (defBody s__law_draw) (defScope s__law_draw) [] [] (He.ga K "_law_draw") fd
  k__law_draw : PySem.W.keepIn K (.ref (He.ga K "_law_draw")) = true
  d__law_pick : ∃ fd, FunD K "_law_pick" "_law_pick" (defArgs s__law_pick) (defBody s__law_pick) (defScope s__law_pick) [] [] (He.ga K "_law_pick") fd
  k__law_pick : PySem.W.keepIn K (.ref (He.ga K "_law_pick")) = true
  d__law_low : ∃ fd, FunD K "_law_low" "_law_low" (defArgs s__law_low) (defBody s__law_low) (defScope s__law_low) [] [] (He.ga K "_law_low") fd
  k__law_low : PySem.W.keepIn K (.ref (He.ga K "_law_low")) = true
  d__law_fraction : ∃ fd, FunD K "_law_fraction" "_law_fraction" (defArgs s__law_fraction) (defBody s__law_fraction) (defScope s__law_fraction) [] [] (He.ga K "_law_fraction") fd
  k__law_fraction : PySem.W.keepIn K (.ref (He.ga K "_law_fraction")) = true
  d_is_integer : ∃ fd, FunD K "is_integer" "is_integer" (defArgs s_is_integer) (defBody s_is_integer) (defScope s_is_integer) [] [] (He.ga K "is_integer") fd
  k_is_integer : PySem.W.keepIn K (.ref (He.ga K "is_integer")) = true
  d_BadRatio___init__ : ∃ fd, FunD K "__init__" "BadRatio.__init__" (defArgs s_BadRatio___init__) (defBody s_BadRatio___init__) (defScope s_BadRatio___init__) [] [] (He.ma K (He.ga K "BadRatio") "__init__") fd
  k_BadRatio___init__ : PySem.W.keepIn K (.ref (He.ma K (He.ga K "BadRatio") "__init__")) = true
  d_common : ∃ fd, FunD K "common" "common" (defArgs s_common) (defBody s_common) (defScope s_common) [] [] (He.ga K "common") fd
  k_common : PySem.W.keepIn K (.ref (He.ga K "common")) = true
  d_Ratio___init__ : ∃ fd, FunD K "__init__" "Ratio.__init__" (defArgs s_Ratio___init__) (defBody s_Ratio___init__) (defScope s_Ratio___init__) [V.int 1] [] (He.ma K (He.ga K "Ratio") "__init__") fd
  k_Ratio___init__ : PySem.W.keepIn K (.ref (He.ma K (He.ga K "Ratio") "__init__")) = true
  d_Ratio_endless : ∃ fd, FunD K "endless" "Ratio.endless" (defArgs s_Ratio_endless) (defBody s_Ratio_endless) (defScope s_Ratio_endless) [] [] (He5.wf K (He.ga K "Ratio") "staticmethod" "endless") fd
  k_Ratio_endless : PySem.W.keepIn K (.ref (He5.wf K (He.ga K "Ratio") "staticmethod" "endless")) = true
  d__law_made : ∃ fd, FunD K "_law_made" "_law_made" (defArgs s__law_made) (defBody s__law_made) (defScope s__law_made) [] [] (He.ga K "_law_made") fd
  k__law_made : PySem.W.keepIn K (.ref (He.ga K "_law_made")) = true
  d__law_item : ∃ fd, FunD K "_law_item" "_law_item" (defArgs s__law_item) (defBody s__law_item) (defScope s__law_item) [] [] (He.ga K "_law_item") fd
  k__law_item : PySem.W.keepIn K (.ref (He.ga K "_law_item")) = true
  d__law_is_less : ∃ fd, FunD K "_law_is_less" "_law_is_less" (defArgs s__law_is_less) (defBody s__law_is_less) (defScope s__law_is_less) [] [] (He.ga K "_law_is_less") fd
  k__law_is_less : PySem.W.keepIn K (.ref (He.ga K "_law_is_less")) = true
  d__law_farthest : ∃ fd, FunD K "_law_farthest" "_law_farthest" (defArgs s__law_farthest) (defBody s__law_farthest) (defScope s__law_farthest) [] [] (He.ga K "_law_farthest") fd
  k__law_farthest : PySem.W.keepIn K (.ref (He.ga K "_law_farthest")) = true
  d__law_total : ∃ fd, FunD K "_law_total" "_law_total" (defArgs s__law_total) (defBody s__law_total) (defScope s__law_total) [] [] (He.ga K "_law_total") fd
  k__law_total : PySem.W.keepIn K (.ref (He.ga K "_law_total")) = true
  d_written : ∃ fd, FunD K "written" "written" (defArgs s_written) (defBody s_written) (defScope s_written) [] [] (He.ga K "written") fd
  k_written : PySem.W.keepIn K (.ref (He.ga K "written")) = true
  d_Ratio___repr__ : ∃ fd, FunD K "__repr__" "Ratio.__repr__" (defArgs s_Ratio___repr__) (defBody s_Ratio___repr__) (defScope s_Ratio___repr__) [] [] (He.ma K (He.ga K "Ratio") "__repr__") fd
  k_Ratio___repr__ : PySem.W.keepIn K (.ref (He.ma K (He.ga K "Ratio") "__repr__")) = true
  d__law_heard : ∃ fd, FunD K "_law_heard" "_law_heard" (defArgs s__law_heard) (defBody s__law_heard) (defScope s__law_heard) [] [] (He.ga K "_law_heard") fd
  k__law_heard : PySem.W.keepIn K (.ref (He.ga K "_law_heard")) = true
  d_Ratio_of : ∃ fd, FunD K "of" "Ratio.of" (defArgs s_Ratio_of) (defBody s_Ratio_of) (defScope s_Ratio_of) [] [] (He5.wf K (He.ga K "Ratio") "staticmethod" "of") fd
  k_Ratio_of : PySem.W.keepIn K (.ref (He5.wf K (He.ga K "Ratio") "staticmethod" "of")) = true
  d_all_ratios : ∃ fd, FunD K "all_ratios" "all_ratios" (defArgs s_all_ratios) (defBody s_all_ratios) (defScope s_all_ratios) [] [] (He.ga K "all_ratios") fd
  k_all_ratios : PySem.W.keepIn K (.ref (He.ga K "all_ratios")) = true
  d_added : ∃ fd, FunD K "added" "added" (defArgs s_added) (defBody s_added) (defScope s_added) [] [] (He.ga K "added") fd
  k_added : PySem.W.keepIn K (.ref (He.ga K "added")) = true
  d_Ratio_total : ∃ fd, FunD K "total" "Ratio.total" (defArgs s_Ratio_total) (defBody s_Ratio_total) (defScope s_Ratio_total) [] [] (He5.wf K (He.ga K "Ratio") "staticmethod" "total") fd
  k_Ratio_total : PySem.W.keepIn K (.ref (He5.wf K (He.ga K "Ratio") "staticmethod" "total")) = true
  d_is_less : ∃ fd, FunD K "is_less" "is_less" (defArgs s_is_less) (defBody s_is_less) (defScope s_is_less) [] [] (He.ga K "is_less") fd
  k_is_less : PySem.W.keepIn K (.ref (He.ga K "is_less")) = true
  d_Ratio_greatest : ∃ fd, FunD K "greatest" "Ratio.greatest" (defArgs s_Ratio_greatest) (defBody s_Ratio_greatest) (defScope s_Ratio_greatest) [] [] (He5.wf K (He.ga K "Ratio") "staticmethod" "greatest") fd
  k_Ratio_greatest : PySem.W.keepIn K (.ref (He5.wf K (He.ga K "Ratio") "staticmethod" "greatest")) = true
  d_Ratio_least : ∃ fd, FunD K "least" "Ratio.least" (defArgs s_Ratio_least) (defBody s_Ratio_least) (defScope s_Ratio_least) [] [] (He5.wf K (He.ga K "Ratio") "staticmethod" "least") fd
  k_Ratio_least : PySem.W.keepIn K (.ref (He5.wf K (He.ga K "Ratio") "staticmethod" "least")) = true
  d__law_told : ∃ fd, FunD K "_law_told" "_law_told" (defArgs s__law_told) (defBody s__law_told) (defScope s__law_told) [] [] (He.ga K "_law_told") fd
  k__law_told : PySem.W.keepIn K (.ref (He.ga K "_law_told")) = true
  d__law_asked : ∃ fd, FunD K "_law_asked" "_law_asked" (defArgs s__law_asked) (defBody s__law_asked) (defScope s__law_asked) [] [] (He.ga K "_law_asked") fd
  k__law_asked : PySem.W.keepIn K (.ref (He.ga K "_law_asked")) = true
  d__law_right : ∃ fd, FunD K "_law_right" "_law_right" (defArgs s__law_right) (defBody s__law_right) (defScope s__law_right) [] [] (He.ga K "_law_right") fd
  k__law_right : PySem.W.keepIn K (.ref (He.ga K "_law_right")) = true
  d__law_bent_right : ∃ fd, FunD K "_law_bent_right" "_law_bent_right" (defArgs s__law_bent_right) (defBody s__law_bent_right) (defScope s__law_bent_right) [] [] (He.ga K "_law_bent_right") fd
  k__law_bent_right : PySem.W.keepIn K (.ref (He.ga K "_law_bent_right")) = true
  d_law : ∃ fd, FunD K "law" "law" (defArgs s_law) (defBody s_law) (defScope s_law) [] [] (He.ga K "law") fd
  k_law : PySem.W.keepIn K (.ref (He.ga K "law")) = true
section
variable {P : Program} {w : World} {K : PySem.W.Frag} {mg : Str → Option Value} {base : Heap}
theorem Tx.fld_top (T : Tx K mg) : FldsOk (WW K) "top" ft_top := by
  intro c i h
  unfold ft_top at h
  split at h
  · rename_i e; subst e; cases h; exact ⟨T.cls_Ratio, T.na_Ratio_top, rfl, by show (["top", "bottom"] : List Str).Nodup; decide +kernel⟩
  cases h
theorem Tx.fld_bottom (T : Tx K mg) : FldsOk (WW K) "bottom" ft_bottom := by
  intro c i h
  unfold ft_bottom at h
  split at h
  · rename_i e; subst e; cases h; exact ⟨T.cls_Ratio, T.na_Ratio_bottom, rfl, by show (["top", "bottom"] : List Str).Nodup; decide +kernel⟩
  cases h
theorem Tx.efl_at (T : Tx K mg) : EflsOk (WW K) "at" et_at := by
  intro c i h
  unfold et_at at h
  split at h
  · rename_i e; subst e; cases h; exact ⟨T.xf_BadRatio, T.no_BadRatio_at, rfl, by show (["at"] : List Str).Nodup; decide +kernel⟩
  cases h
theorem Tx.isOk (T : Tx K mg) : ClsOk (WW K) isOk := by
  intro c h
  simp only [K05.isOk, Bool.or_eq_true, decide_eq_true_eq] at h
  rcases h with h | h
  · subst h; exact T.i_Nothing
  · subst h; exact T.i_Ratio
theorem Tx.isTab (T : Tx K mg) : IsiOk (WW K) isTab := by
  intro t c b h
  unfold K05.isTab at h
  split at h
  · cases h; exact T.kit_non_int
  · cases h; exact T.kit_bl_int
  · cases h; exact T.kit_int_int
  · cases h; exact T.kit_str_int
  · cases h; exact T.kit_lst_int
  · cases h; exact T.kit_tup_int
  · cases h; exact T.kit_dct_int
  · cases h; exact T.kit_Ratio_int
  · cases h; exact T.kit_bl_bool
  · cases h; exact T.kit_int_bool
  · cases h; exact T.kit_non_Ratio
  · cases h; exact T.kit_bl_Ratio
  · cases h; exact T.kit_int_Ratio
  · cases h; exact T.kit_str_Ratio
  · cases h; exact T.kit_lst_Ratio
  · cases h; exact T.kit_tup_Ratio
  · cases h; exact T.kit_dct_Ratio
  · cases h; exact T.kit_Ratio_Ratio
  · cases h; exact T.kit_non_list
  · cases h; exact T.kit_bl_list
  · cases h; exact T.kit_int_list
  · cases h; exact T.kit_str_list
  · cases h; exact T.kit_lst_list
  · cases h; exact T.kit_tup_list
  · cases h; exact T.kit_dct_list
  · cases h; exact T.kit_Ratio_list
  · cases h; exact T.kit_non_Nothing
  · cases h; exact T.kit_bl_Nothing
  · cases h; exact T.kit_int_Nothing
  · cases h; exact T.kit_str_Nothing
  · cases h; exact T.kit_lst_Nothing
  · cases h; exact T.kit_tup_Nothing
  · cases h; exact T.kit_dct_Nothing
  · cases h; exact T.kit_Ratio_Nothing
  · cases h; exact T.kit_Nothing_Nothing
  · cases h
theorem Tx.exOk (T : Tx K mg) : ExOk (WW K) exOk := by
  intro c h
  simp only [K05.exOk, Bool.or_eq_true, decide_eq_true_eq] at h
  rcases h with h | h
  · subst h; exact T.exC_BadRatio
  · subst h; exact T.exC_NoRatio
theorem Tx.exTab (T : Tx K mg) : IsiEOk (WW K) exTab := by
  intro t c b h
  unfold K05.exTab at h
  split at h
  · cases h; exact T.kit_BadRatio_BadRatio
  · cases h; exact T.kit_BadRatio_NoRatio
  · cases h; exact T.kit_BadRatio_BadText
  · cases h; exact T.kit_NoRatio_BadRatio
  · cases h; exact T.kit_NoRatio_NoRatio
  · cases h; exact T.kit_NoRatio_BadText
  · cases h; exact T.kit_BadRatio_ValueError
  · cases h; exact T.kit_NoRatio_ValueError
  · cases h
theorem Tx.mt_WebError (T : Tx K mg) : MtOk (WW K) (.ref (He.ga K "WebError")) mt_WebError := by
  intro k b h
  unfold K05.mt_WebError at h
  split at h
  · cases h; exact T.exm_BadRatio_WebError
  · cases h; exact T.exm_NoRatio_WebError
  · cases h
theorem sc__law_pen : FnScope ["_law_script"] ["_law_script"] (defScope s__law_pen) := ⟨rfl, rfl, rfl, by decide +kernel, rfl, by decide +kernel, by decide +kernel⟩
noncomputable def b__law_pen : GS' :=
  (gRet (gLstM (gCons (gCall fList (gCons (gSl (gVar 0) goNone (goSome (gC (.int 63)))) gNil)) (gCons (gC (.int 0)) (gCons (gC (.int 0)) gNil)))))
noncomputable def f__law_pen : List D → Stor → R D := gFn 1 1 b__law_pen
theorem fg__law_pen (T : Tx K mg) (B : ∀ p ∈ csOf K lams, LamX.TabB base mg p.1 p.2) {fd : FuncData} (F : FunD K "_law_pen" "_law_pen" (defArgs s__law_pen) (defBody s__law_pen) (defScope s__law_pen) [] [] (He.ga K "_law_pen") fd) : FnG P w (WW K) mg base 1 (He.ga K "_law_pen") fd ["_law_script"] f__law_pen :=
  fng_of (W := WW K) (N := ["_law_script"]) F sc__law_pen (fun cdv A outer s H E hr gd =>
    (gs_one (gs_ret (ge_lstM (ga_cons (ge_callTy (cg_list rfl) rfl T.n_list (by decide +kernel) (ga_cons (ge_slice rfl (ge_var (pv 0)) go_none (go_some ge_int)) ga_nil)) (ga_cons ge_int (ga_cons ge_int ga_nil)))))))
theorem ok__law_pen (T : Tx K mg) (B : ∀ p ∈ csOf K lams, LamX.TabB base mg p.1 p.2) : FnB P w (WW K) mg base 1 (He.ga K "_law_pen") ["_law_script"] f__law_pen := by
  obtain ⟨fd, F⟩ := T.d__law_pen
  exact ⟨⟨fd, fg__law_pen T B F, F.bindsN fun _ _ _ _ _ _ us hl => match us, hl with | [_], _ => rfl⟩, T.k__law_pen⟩
theorem sc__law_draw : FnScope ["_law_pen_here", "_law_many", "_law_digit", "_law_at", "_law_cell", "_law_great", "_law_blended"] ["_law_pen_here", "_law_many"] (defScope s__law_draw) := ⟨rfl, rfl, rfl, by decide +kernel, rfl, by decide +kernel, by decide +kernel⟩
noncomputable def b__law_draw : GS' :=
  (gSeq (gIf (gTr truD (gBin dGtI (gBin dIx (gVar 0) (gC (.int 2))) (gC (.int 0)))) (gSeq (gSet 2 (gBin dModI (gCall fInt (gCons (gBin dIx (gVar 0) (gC (.int 2))) gNil)) (gVar 1)))
    (gSeq (gAsg (ggSub (gVar 0) (gC (.int 2))) (gBin dDivI (gCall fInt (gCons (gBin dIx (gVar 0) (gC (.int 2))) gNil)) (gVar 1)))
    (gRet (gVar 2)))) gSkip)
    (gSeq (gSet 3 (gBin dIx (gVar 0) (gC (.int 1))))
    (gSeq (gAsg (ggSub (gVar 0) (gC (.int 1))) (gBin dAdd (gVar 3) (gC (.int 1))))
    (gSeq (gSet 4 (gBin dAdd (gBin dMul (gC (.int 31066)) (gVar 3)) (gC (.int 436))))
    (gSeq (gIf (gTr truD (gBin dNe (gBin dIx (gVar 0) (gC (.int 0))) (gLst gNil))) (gSet 4 (gBin dIx (gBin dIx (gVar 0) (gC (.int 0))) (gBin dModI (gCall fInt (gCons (gVar 3) gNil)) (gCall fLen (gCons (gBin dIx (gVar 0) (gC (.int 0))) gNil))))) gSkip)
    (gSeq (gIf (gAnd (gTr truD (gBin dLtI (gVar 3) (gCall fLen (gCons (gBin dIx (gVar 0) (gC (.int 0))) gNil)))) (gTr truD (gBin dGeI (gCall fAbsI (gCons (gVar 4) gNil)) (gBin dPowI (gC (.int 10)) (gC (.int 18)))))) (gSeq (gSet 5 (gBin dAdd (gBin dMul (gC (.int 2)) (gBin dSubI (gCall fAbsI (gCons (gVar 4) gNil)) (gBin dPowI (gC (.int 10)) (gC (.int 18))))) (gCall fInt (gCons (gBin dLtI (gVar 4) (gC (.int 0))) gNil))))
    (gSeq (gAsg (ggSub (gVar 0) (gC (.int 2))) (gBin dDivI (gCall fInt (gCons (gVar 5) gNil)) (gVar 1)))
    (gRet (gBin dModI (gCall fInt (gCons (gVar 5) gNil)) (gVar 1))))) gSkip)
    (gSeq (gSet 6 (gBin dModI (gCall fInt (gCons (gBin dPowI (gBin dAdd (gBin dAdd (gBin dModI (gCall fInt (gCons (gVar 4) gNil)) (gC (.int 2147483497))) (gBin dMul (gC (.int 50206)) (gVar 3))) (gC (.int 101))) (gC (.int 5))) gNil)) (gC (.int 2147483563))))
    (gSeq (gSet 6 (gBin dModI (gCall fInt (gCons (gBin dPowI (gBin dAdd (gBin dAdd (gBin dMul (gVar 6) (gBin dAdd (gBin dMul (gC (.int 2)) (gVar 3)) (gC (.int 93)))) (gBin dMul (gBin dMul (gC (.int 40208)) (gVar 3)) (gVar 3))) (gC (.int 32))) (gC (.int 3))) gNil)) (gC (.int 2147483587))))
    (gRet (gBin dModI (gCall fInt (gCons (gBin dDivI (gVar 6) (gC (.int 32))) gNil)) (gVar 1)))))))))))
noncomputable def f__law_draw : List D → Stor → R D := gFn 2 7 b__law_draw
theorem fg__law_draw (T : Tx K mg) (B : ∀ p ∈ csOf K lams, LamX.TabB base mg p.1 p.2) {fd : FuncData} (F : FunD K "_law_draw" "_law_draw" (defArgs s__law_draw) (defBody s__law_draw) (defScope s__law_draw) [] [] (He.ga K "_law_draw") fd) : FnG P w (WW K) mg base 1 (He.ga K "_law_draw") fd ["_law_pen_here", "_law_many"] f__law_draw :=
  fng_of (W := WW K) (N := ["_law_pen_here", "_law_many", "_law_digit", "_law_at", "_law_cell", "_law_great", "_law_blended"]) F sc__law_draw (fun cdv A outer s H E hr gd =>
    (gs_cons (gs_if (gt_cmp (tru_plain rfl) og_gtI (ge_ix rfl (ge_var (pv 0)) ge_int (fun _ _ => rfl)) ge_int (nomark _)) (gs_cons (gs_set (i := 2) sc__law_draw.nd rfl (by first | exact Or.inl rfl | exact Or.inr rfl) (ge_bin og_modI (ge_callTy cg_int rfl T.n_int (by decide +kernel) (ga_cons (ge_ix rfl (ge_var (pv 0)) ge_int (fun _ _ => rfl)) ga_nil)) (ge_var (pv 1))))
    (gs_cons (gs_asg (ge_bin og_divI (ge_callTy cg_int rfl T.n_int (by decide +kernel) (ga_cons (ge_ix rfl (ge_var (pv 0)) ge_int (fun _ _ => rfl)) ga_nil)) (ge_var (pv 1))) (gg_sub (E := fun _ => E) (ge_var (pv 0)) ge_int))
    (gs_one (gs_ret (ge_var (pv 2)))))) gs_nil)
    (gs_cons (gs_set (i := 3) sc__law_draw.nd rfl (by first | exact Or.inl rfl | exact Or.inr rfl) (ge_ix rfl (ge_var (pv 0)) ge_int (fun _ _ => rfl)))
    (gs_cons (gs_asg (ge_bin (og_add rfl) (ge_var (pv 3)) ge_int) (gg_sub (E := fun _ => E) (ge_var (pv 0)) ge_int))
    (gs_cons (gs_set (i := 4) sc__law_draw.nd rfl (by first | exact Or.inl rfl | exact Or.inr rfl) (ge_bin (og_add rfl) (ge_bin og_mul ge_int (ge_var (pv 3))) ge_int))
    (gs_cons (gs_if (gt_cmp (tru_plain rfl) (og_ne rfl hr.units) (ge_ix rfl (ge_var (pv 0)) ge_int (fun _ _ => rfl)) (ge_lst ga_nil) (nomark _)) (gs_one (gs_set (i := 4) sc__law_draw.nd rfl (by first | exact Or.inl rfl | exact Or.inr rfl) (ge_ix rfl (ge_ix rfl (ge_var (pv 0)) ge_int (fun _ _ => rfl)) (ge_bin og_modI (ge_callTy cg_int rfl T.n_int (by decide +kernel) (ga_cons (ge_var (pv 3)) ga_nil)) (ge_callB (cg_len rfl) rfl T.n_len (by decide +kernel) (ga_cons (ge_ix rfl (ge_var (pv 0)) ge_int (fun _ _ => rfl)) ga_nil))) (fun _ _ => rfl)))) gs_nil)
    (gs_cons (gs_if (PW.pt (gw_and (gt_cmp (tru_plain rfl) og_ltI (ge_var (pv 3)) (ge_callB (cg_len rfl) rfl T.n_len (by decide +kernel) (ga_cons (ge_ix rfl (ge_var (pv 0)) ge_int (fun _ _ => rfl)) ga_nil)) (nomark _)) (gw_and1 (gt_cmp (tru_plain rfl) og_geI (ge_callB cg_abs rfl T.n_abs (by decide +kernel) (ga_cons (ge_var (pv 4)) ga_nil)) (ge_bin og_powI ge_int ge_int) (nomark _))))) (gs_cons (gs_set (i := 5) sc__law_draw.nd rfl (by first | exact Or.inl rfl | exact Or.inr rfl) (ge_bin (og_add rfl) (ge_bin og_mul ge_int (ge_bin og_subI (ge_callB cg_abs rfl T.n_abs (by decide +kernel) (ga_cons (ge_var (pv 4)) ga_nil)) (ge_bin og_powI ge_int ge_int))) (ge_callTy cg_int rfl T.n_int (by decide +kernel) (ga_cons (ge_cmp og_ltI (ge_var (pv 4)) ge_int (nomark _)) ga_nil))))
    (gs_cons (gs_asg (ge_bin og_divI (ge_callTy cg_int rfl T.n_int (by decide +kernel) (ga_cons (ge_var (pv 5)) ga_nil)) (ge_var (pv 1))) (gg_sub (E := fun _ => E) (ge_var (pv 0)) ge_int))
    (gs_one (gs_ret (ge_bin og_modI (ge_callTy cg_int rfl T.n_int (by decide +kernel) (ga_cons (ge_var (pv 5)) ga_nil)) (ge_var (pv 1))))))) gs_nil)
    (gs_cons (gs_set (i := 6) sc__law_draw.nd rfl (by first | exact Or.inl rfl | exact Or.inr rfl) (ge_bin og_modI (ge_callTy cg_int rfl T.n_int (by decide +kernel) (ga_cons (ge_bin og_powI (ge_bin (og_add rfl) (ge_bin (og_add rfl) (ge_bin og_modI (ge_callTy cg_int rfl T.n_int (by decide +kernel) (ga_cons (ge_var (pv 4)) ga_nil)) ge_int) (ge_bin og_mul ge_int (ge_var (pv 3)))) ge_int) ge_int) ga_nil)) ge_int))
    (gs_cons (gs_set (i := 6) sc__law_draw.nd rfl (by first | exact Or.inl rfl | exact Or.inr rfl) (ge_bin og_modI (ge_callTy cg_int rfl T.n_int (by decide +kernel) (ga_cons (ge_bin og_powI (ge_bin (og_add rfl) (ge_bin (og_add rfl) (ge_bin og_mul (ge_var (pv 6)) (ge_bin (og_add rfl) (ge_bin og_mul ge_int (ge_var (pv 3))) ge_int)) (ge_bin og_mul (ge_bin og_mul ge_int (ge_var (pv 3))) (ge_var (pv 3)))) ge_int) ge_int) ga_nil)) ge_int))
    (gs_one (gs_ret (ge_bin og_modI (ge_callTy cg_int rfl T.n_int (by decide +kernel) (ga_cons (ge_bin og_divI (ge_var (pv 6)) ge_int) ga_nil)) (ge_var (pv 1))))))))))))))
theorem ok__law_draw (T : Tx K mg) (B : ∀ p ∈ csOf K lams, LamX.TabB base mg p.1 p.2) : FnB P w (WW K) mg base 1 (He.ga K "_law_draw") ["_law_pen_here", "_law_many"] f__law_draw := by
  obtain ⟨fd, F⟩ := T.d__law_draw
  exact ⟨⟨fd, fg__law_draw T B F, F.bindsN fun _ _ _ _ _ _ us hl => match us, hl with | [_, _], _ => rfl⟩, T.k__law_draw⟩
theorem sc__law_pick : FnScope ["_law_pen_here", "_law_some"] ["_law_pen_here", "_law_some"] (defScope s__law_pick) := ⟨rfl, rfl, rfl, by decide +kernel, rfl, by decide +kernel, by decide +kernel⟩
noncomputable def b__law_pick : GS' :=
  (gRet (gBin dIx (gVar 1) (gCall f__law_draw (gCons (gVar 0) (gCons (gCall fLen (gCons (gVar 1) gNil)) gNil)))))
noncomputable def f__law_pick : List D → Stor → R D := gFn 2 2 b__law_pick
theorem fg__law_pick (T : Tx K mg) (B : ∀ p ∈ csOf K lams, LamX.TabB base mg p.1 p.2) {fd : FuncData} (F : FunD K "_law_pick" "_law_pick" (defArgs s__law_pick) (defBody s__law_pick) (defScope s__law_pick) [] [] (He.ga K "_law_pick") fd) : FnG P w (WW K) mg base 2 (He.ga K "_law_pick") fd ["_law_pen_here", "_law_some"] f__law_pick :=
  fng_of (W := WW K) (N := ["_law_pen_here", "_law_some"]) F sc__law_pick (fun cdv A outer s H E hr gd =>
    (gs_one (gs_ret (ge_ix rfl (ge_var (pv 1)) (ge_call (cg_b (ok__law_draw T B) rfl (hr.mono (by decide)) gd pass_def) rfl T.g__law_draw T.k__law_draw (ga_cons (ge_var (pv 0)) (ga_cons (ge_callB (cg_len rfl) rfl T.n_len (by decide +kernel) (ga_cons (ge_var (pv 1)) ga_nil)) ga_nil))) (fun _ _ => rfl)))))
theorem ok__law_pick (T : Tx K mg) (B : ∀ p ∈ csOf K lams, LamX.TabB base mg p.1 p.2) : FnB P w (WW K) mg base 2 (He.ga K "_law_pick") ["_law_pen_here", "_law_some"] f__law_pick := by
  obtain ⟨fd, F⟩ := T.d__law_pick
  exact ⟨⟨fd, fg__law_pick T B F, F.bindsN fun _ _ _ _ _ _ us hl => match us, hl with | [_, _], _ => rfl⟩, T.k__law_pick⟩
theorem sc__law_low : FnScope ["_law_upper", "_law_lower", "_law_first", "_law_second"] ["_law_upper", "_law_lower"] (defScope s__law_low) := ⟨rfl, rfl, rfl, by decide +kernel, rfl, by decide +kernel, by decide +kernel⟩
noncomputable def b__law_low : GS' :=
  (gSeq (gPar2 2 3 (gCons (gCall fAbsI (gCons (gCall fInt (gCons (gVar 0) gNil)) gNil)) (gCons (gCall fInt (gCons (gVar 1) gNil)) gNil)))
    (gSeq (gWhile (gTr truD (gBin dNe (gVar 3) (gC (.int 0)))) (gPar2 2 3 (gCons (gVar 3) (gCons (gBin dModI (gCall fInt (gCons (gVar 2) gNil)) (gVar 3)) gNil))) fuel)
    (gRet (gTup (gCons (gBin dDivI (gCall fInt (gCons (gVar 0) gNil)) (gVar 2)) (gCons (gBin dDivI (gCall fInt (gCons (gVar 1) gNil)) (gVar 2)) gNil))))))
noncomputable def f__law_low : List D → Stor → R D := gFn 2 4 b__law_low
theorem fg__law_low (T : Tx K mg) (B : ∀ p ∈ csOf K lams, LamX.TabB base mg p.1 p.2) {fd : FuncData} (F : FunD K "_law_low" "_law_low" (defArgs s__law_low) (defBody s__law_low) (defScope s__law_low) [] [] (He.ga K "_law_low") fd) : FnG P w (WW K) mg base 1 (He.ga K "_law_low") fd ["_law_upper", "_law_lower"] f__law_low :=
  fng_of (W := WW K) (N := ["_law_upper", "_law_lower", "_law_first", "_law_second"]) F sc__law_low (fun cdv A outer s H E hr gd =>
    (gs_cons (gs_par2 (i := 2) (j := 3) rfl sc__law_low.nd rfl rfl (by decide) rfl rfl (ga_cons (ge_callB cg_abs rfl T.n_abs (by decide +kernel) (ga_cons (ge_callTy cg_int rfl T.n_int (by decide +kernel) (ga_cons (ge_var (pv 0)) ga_nil)) ga_nil)) (ga_cons (ge_callTy cg_int rfl T.n_int (by decide +kernel) (ga_cons (ge_var (pv 1)) ga_nil)) ga_nil)))
    (gs_cons (gs_while fuel own_def (gt_cmp (tru_plain rfl) (og_ne rfl hr.units) (ge_var (pv 3)) ge_int (nomark _)) (gs_one (gs_par2 (i := 2) (j := 3) rfl sc__law_low.nd rfl rfl (by decide) rfl rfl (ga_cons (ge_var (pv 3)) (ga_cons (ge_bin og_modI (ge_callTy cg_int rfl T.n_int (by decide +kernel) (ga_cons (ge_var (pv 2)) ga_nil)) (ge_var (pv 3))) ga_nil)))))
    (gs_one (gs_ret (ge_tup (ga_cons (ge_bin og_divI (ge_callTy cg_int rfl T.n_int (by decide +kernel) (ga_cons (ge_var (pv 0)) ga_nil)) (ge_var (pv 2))) (ga_cons (ge_bin og_divI (ge_callTy cg_int rfl T.n_int (by decide +kernel) (ga_cons (ge_var (pv 1)) ga_nil)) (ge_var (pv 2))) ga_nil))))))))
theorem ok__law_low (T : Tx K mg) (B : ∀ p ∈ csOf K lams, LamX.TabB base mg p.1 p.2) : FnB P w (WW K) mg base 1 (He.ga K "_law_low") ["_law_upper", "_law_lower"] f__law_low := by
  obtain ⟨fd, F⟩ := T.d__law_low
  exact ⟨⟨fd, fg__law_low T B F, F.bindsN fun _ _ _ _ _ _ us hl => match us, hl with | [_, _], _ => rfl⟩, T.k__law_low⟩
theorem sc__law_fraction : FnScope ["_law_pen_here", "_law_tops", "_law_bottoms", "_law_sign"] ["_law_pen_here"] (defScope s__law_fraction) := ⟨rfl, rfl, rfl, by decide +kernel, rfl, by decide +kernel, by decide +kernel⟩
noncomputable def b__law_fraction : GS' :=
  (gSeq (gSet 1 (gLst (gCons (gC (.int 0)) (gCons (gC (.int 1)) (gCons (gC (.int 1)) (gCons (gC (.int 2)) (gCons (gC (.int 3)) (gCons (gC (.int 5)) (gCons (gC (.int 7)) (gCons (gC (.int 12)) (gCons (gC (.int 30)) (gCons (gBin dAdd (gBin dPowI (gC (.int 10)) (gC (.int 9))) (gC (.int 7))) (gCons (gBin dPowI (gC (.int 10)) (gC (.int 29))) (gCons (gCall f__law_draw (gCons (gVar 0) (gCons (gC (.int 100)) gNil))) gNil))))))))))))))
    (gSeq (gSet 2 (gLst (gCons (gC (.int 1)) (gCons (gC (.int 1)) (gCons (gC (.int 1)) (gCons (gC (.int 2)) (gCons (gC (.int 2)) (gCons (gC (.int 3)) (gCons (gC (.int 4)) (gCons (gC (.int 6)) (gCons (gC (.int 12)) (gCons (gBin dAdd (gBin dPowI (gC (.int 10)) (gC (.int 9))) (gC (.int 7))) (gCons (gBin dPowI (gC (.int 10)) (gC (.int 29))) (gCons (gBin dAdd (gC (.int 1)) (gCall f__law_draw (gCons (gVar 0) (gCons (gC (.int 100)) gNil)))) gNil))))))))))))))
    (gSeq (gSet 3 (gBin dSubI (gC (.int 1)) (gBin dMul (gC (.int 2)) (gCall fInt (gCons (gBin dEq (gCall f__law_draw (gCons (gVar 0) (gCons (gC (.int 3)) gNil))) (gC (.int 0))) gNil)))))
    (gRet (gCall f__law_low (gCons (gBin dMul (gVar 3) (gCall f__law_pick (gCons (gVar 0) (gCons (gVar 1) gNil)))) (gCons (gCall f__law_pick (gCons (gVar 0) (gCons (gVar 2) gNil))) gNil)))))))
noncomputable def f__law_fraction : List D → Stor → R D := gFn 1 4 b__law_fraction
theorem fg__law_fraction (T : Tx K mg) (B : ∀ p ∈ csOf K lams, LamX.TabB base mg p.1 p.2) {fd : FuncData} (F : FunD K "_law_fraction" "_law_fraction" (defArgs s__law_fraction) (defBody s__law_fraction) (defScope s__law_fraction) [] [] (He.ga K "_law_fraction") fd) : FnG P w (WW K) mg base 3 (He.ga K "_law_fraction") fd ["_law_pen_here"] f__law_fraction :=
  fng_of (W := WW K) (N := ["_law_pen_here", "_law_tops", "_law_bottoms", "_law_sign"]) F sc__law_fraction (fun cdv A outer s H E hr gd =>
    (gs_cons (gs_set (i := 1) sc__law_fraction.nd rfl (by first | exact Or.inl rfl | exact Or.inr rfl) (ge_lst (ga_cons ge_int (ga_cons ge_int (ga_cons ge_int (ga_cons ge_int (ga_cons ge_int (ga_cons ge_int (ga_cons ge_int (ga_cons ge_int (ga_cons ge_int (ga_cons (ge_bin (og_add rfl) (ge_bin og_powI ge_int ge_int) ge_int) (ga_cons (ge_bin og_powI ge_int ge_int) (ga_cons (ge_call (cg_b (ok__law_draw T B) rfl (hr.mono (by decide)) gd pass_def) rfl T.g__law_draw T.k__law_draw (ga_cons (ge_var (pv 0)) (ga_cons ge_int ga_nil))) ga_nil))))))))))))))
    (gs_cons (gs_set (i := 2) sc__law_fraction.nd rfl (by first | exact Or.inl rfl | exact Or.inr rfl) (ge_lst (ga_cons ge_int (ga_cons ge_int (ga_cons ge_int (ga_cons ge_int (ga_cons ge_int (ga_cons ge_int (ga_cons ge_int (ga_cons ge_int (ga_cons ge_int (ga_cons (ge_bin (og_add rfl) (ge_bin og_powI ge_int ge_int) ge_int) (ga_cons (ge_bin og_powI ge_int ge_int) (ga_cons (ge_bin (og_add rfl) ge_int (ge_call (cg_b (ok__law_draw T B) rfl (hr.mono (by decide)) gd pass_def) rfl T.g__law_draw T.k__law_draw (ga_cons (ge_var (pv 0)) (ga_cons ge_int ga_nil)))) ga_nil))))))))))))))
    (gs_cons (gs_set (i := 3) sc__law_fraction.nd rfl (by first | exact Or.inl rfl | exact Or.inr rfl) (ge_bin og_subI ge_int (ge_bin og_mul ge_int (ge_callTy cg_int rfl T.n_int (by decide +kernel) (ga_cons (ge_cmp (og_eq rfl hr.units) (ge_call (cg_b (ok__law_draw T B) rfl (hr.mono (by decide)) gd pass_def) rfl T.g__law_draw T.k__law_draw (ga_cons (ge_var (pv 0)) (ga_cons ge_int ga_nil))) ge_int (nomark _)) ga_nil)))))
    (gs_one (gs_ret (ge_call (cg_b (ok__law_low T B) rfl (hr.mono (by decide)) gd pass_def) rfl T.g__law_low T.k__law_low (ga_cons (ge_bin og_mul (ge_var (pv 3)) (ge_call (cg_b (ok__law_pick T B) rfl (hr.mono (by decide)) gd pass_def) rfl T.g__law_pick T.k__law_pick (ga_cons (ge_var (pv 0)) (ga_cons (ge_var (pv 1)) ga_nil)))) (ga_cons (ge_call (cg_b (ok__law_pick T B) rfl (hr.mono (by decide)) gd pass_def) rfl T.g__law_pick T.k__law_pick (ga_cons (ge_var (pv 0)) (ga_cons (ge_var (pv 2)) ga_nil))) ga_nil)))))))))
theorem ok__law_fraction (T : Tx K mg) (B : ∀ p ∈ csOf K lams, LamX.TabB base mg p.1 p.2) : FnB P w (WW K) mg base 3 (He.ga K "_law_fraction") ["_law_pen_here"] f__law_fraction := by
  obtain ⟨fd, F⟩ := T.d__law_fraction
  exact ⟨⟨fd, fg__law_fraction T B F, F.bindsN fun _ _ _ _ _ _ us hl => match us, hl with | [_], _ => rfl⟩, T.k__law_fraction⟩
theorem sc_is_integer : FnScope ["value"] ["value"] (defScope s_is_integer) := ⟨rfl, rfl, rfl, by decide +kernel, rfl, by decide +kernel, by decide +kernel⟩
noncomputable def b_is_integer : GS' :=
  (gRet (gAndV truD (gCall (fIsi isOk isTab) (gCons (gVar 0) (gCons (gC (.ty "int")) gNil))) (gNotV truD (gCall (fIsi isOk isTab) (gCons (gVar 0) (gCons (gC (.ty "bool")) gNil))))))
noncomputable def f_is_integer : List D → Stor → R D := gFn 1 1 b_is_integer
theorem fg_is_integer (T : Tx K mg) (B : ∀ p ∈ csOf K lams, LamX.TabB base mg p.1 p.2) {fd : FuncData} (F : FunD K "is_integer" "is_integer" (defArgs s_is_integer) (defBody s_is_integer) (defScope s_is_integer) [] [] (He.ga K "is_integer") fd) : FnG P w (WW K) mg base 1 (He.ga K "is_integer") fd ["value"] f_is_integer :=
  fng_of (W := WW K) (N := ["value"]) F sc_is_integer (fun cdv A outer s H E hr gd =>
    (gs_one (gs_ret (ge_and (tru_plain rfl) (ge_callB (cg_isi rfl T.isOk T.isTab) rfl T.n_isinstance (by decide +kernel) (ga_cons (ge_var (pv 0)) (ga_cons (ge_ty rfl T.n_int (by decide +kernel)) ga_nil))) (ge_one (ge_not (tru_plain rfl) (ge_callB (cg_isi rfl T.isOk T.isTab) rfl T.n_isinstance (by decide +kernel) (ga_cons (ge_var (pv 0)) (ga_cons (ge_ty rfl T.n_bool (by decide +kernel)) ga_nil)))))))))
theorem ok_is_integer (T : Tx K mg) (B : ∀ p ∈ csOf K lams, LamX.TabB base mg p.1 p.2) : FnB P w (WW K) mg base 1 (He.ga K "is_integer") ["value"] f_is_integer := by
  obtain ⟨fd, F⟩ := T.d_is_integer
  exact ⟨⟨fd, fg_is_integer T B F, F.bindsN fun _ _ _ _ _ _ us hl => match us, hl with | [_], _ => rfl⟩, T.k_is_integer⟩
theorem sc_BadRatio___init__ : FnScope ["self", "at"] ["self", "at"] (defScope s_BadRatio___init__) := ⟨rfl, rfl, rfl, by decide +kernel, rfl, by decide +kernel, by decide +kernel⟩
theorem oke_BadRatio (T : Tx K mg) : ∃ fd, FnOk P w K mg base CX0 1 (He.ma K (He.ga K "BadRatio") "__init__") fd ["self", "at"] (spE1 (He.ga K "BadRatio") "at") ∧ Binds K fd ["self", "at"] [] := by
  obtain ⟨fd, F⟩ := T.d_BadRatio___init__
  refine ⟨fd, F.ok (N := ["self", "at"]) sc_BadRatio___init__ (fun vs H Q E h => by obtain ⟨_, _, rfl, _⟩ := h; rfl) (fun cdv A outer s H vs Q E hr h => ?_), F.bindsN fun _ _ _ _ _ _ us hl => match us, hl with | [_, _], _ => rfl⟩
  obtain ⟨q, y, rfl, hq, z0⟩ := h
  exact ⟨_, pss_one (ps_ost (pv 0) (pv 1)), ⟨y, rfl, .ref q, rfl, q, He.ga K "BadRatio", rfl, T.exi_BadRatio.oex, T.exi_BadRatio.nf _ (by simp), .inl ⟨hq, z0⟩⟩⟩
theorem sc_common : FnScope ["one", "other", "first", "second"] ["one", "other"] (defScope s_common) := ⟨rfl, rfl, rfl, by decide +kernel, rfl, by decide +kernel, by decide +kernel⟩
noncomputable def b_common : GS' :=
  (gSeq (gPar2 2 3 (gCons (gCall fAbsI (gCons (gVar 0) gNil)) (gCons (gVar 1) gNil)))
    (gSeq (gWhile (gTr truD (gBin dNe (gVar 3) (gC (.int 0)))) (gPar2 2 3 (gCons (gVar 3) (gCons (gBin dModI (gVar 2) (gVar 3)) gNil))) fuel)
    (gRet (gVar 2))))
noncomputable def f_common : List D → Stor → R D := gFn 2 4 b_common
theorem fg_common (T : Tx K mg) (B : ∀ p ∈ csOf K lams, LamX.TabB base mg p.1 p.2) {fd : FuncData} (F : FunD K "common" "common" (defArgs s_common) (defBody s_common) (defScope s_common) [] [] (He.ga K "common") fd) : FnG P w (WW K) mg base 1 (He.ga K "common") fd ["one", "other"] f_common :=
  fng_of (W := WW K) (N := ["one", "other", "first", "second"]) F sc_common (fun cdv A outer s H E hr gd =>
    (gs_cons (gs_par2 (i := 2) (j := 3) rfl sc_common.nd rfl rfl (by decide) rfl rfl (ga_cons (ge_callB cg_abs rfl T.n_abs (by decide +kernel) (ga_cons (ge_var (pv 0)) ga_nil)) (ga_cons (ge_var (pv 1)) ga_nil)))
    (gs_cons (gs_while fuel own_def (gt_cmp (tru_plain rfl) (og_ne rfl hr.units) (ge_var (pv 3)) ge_int (nomark _)) (gs_one (gs_par2 (i := 2) (j := 3) rfl sc_common.nd rfl rfl (by decide) rfl rfl (ga_cons (ge_var (pv 3)) (ga_cons (ge_bin og_modI (ge_var (pv 2)) (ge_var (pv 3))) ga_nil)))))
    (gs_one (gs_ret (ge_var (pv 2)))))))
theorem ok_common (T : Tx K mg) (B : ∀ p ∈ csOf K lams, LamX.TabB base mg p.1 p.2) : FnB P w (WW K) mg base 1 (He.ga K "common") ["one", "other"] f_common := by
  obtain ⟨fd, F⟩ := T.d_common
  exact ⟨⟨fd, fg_common T B F, F.bindsN fun _ _ _ _ _ _ us hl => match us, hl with | [_, _], _ => rfl⟩, T.k_common⟩
theorem sc_Ratio___init__ : FnScope ["self", "top", "bottom", "shared"] ["self", "top", "bottom"] (defScope s_Ratio___init__) := ⟨rfl, rfl, rfl, by decide +kernel, rfl, by decide +kernel, by decide +kernel⟩
noncomputable def b_Ratio___init__ : GS' :=
  (gSeq (gIf (gNot (gTr truD (gCall f_is_integer (gCons (gVar 1) gNil)))) (gRaise1 1 (gCons (gC (.int 0)) gNil)) gSkip)
    (gIf (gTr truD (gCall (fIsi isOk isTab) (gCons (gVar 2) (gCons (gC (.cls 4)) gNil)))) (gSeq (gSetF ft_top (gVar 0) (gC (.int 1)))
    (gSetF ft_bottom (gVar 0) (gC (.int 0)))) (gIf (gOr (gNot (gTr truD (gCall f_is_integer (gCons (gVar 2) gNil)))) (gTr truD (gBin dLtI (gVar 2) (gC (.int 1))))) (gRaise1 1 (gCons (gC (.int 1)) gNil)) (gSeq (gSet 3 (gCall f_common (gCons (gVar 1) (gCons (gVar 2) gNil))))
    (gSeq (gSetF ft_top (gVar 0) (gBin dDivI (gVar 1) (gVar 3)))
    (gSetF ft_bottom (gVar 0) (gBin dDivI (gVar 2) (gVar 3))))))))
noncomputable def f_Ratio___init__ : List D → Stor → R D := gFn 3 4 b_Ratio___init__
theorem fg_Ratio___init__ (T : Tx K mg) (B : ∀ p ∈ csOf K lams, LamX.TabB base mg p.1 p.2) {fd : FuncData} (F : FunD K "__init__" "Ratio.__init__" (defArgs s_Ratio___init__) (defBody s_Ratio___init__) (defScope s_Ratio___init__) [V.int 1] [] (He.ma K (He.ga K "Ratio") "__init__") fd) : FnG P w (WW K) mg base 3 (He.ma K (He.ga K "Ratio") "__init__") fd ["self", "top", "bottom"] f_Ratio___init__ :=
  fng_of (W := WW K) (N := ["self", "top", "bottom", "shared"]) F sc_Ratio___init__ (fun cdv A outer s H E hr gd =>
    (gs_cons (gs_if (gt_not (gt_tr (tru_plain rfl) (ge_call (cg_b (ok_is_integer T B) rfl (hr.mono (by decide)) gd pass_def) rfl T.g_is_integer T.k_is_integer (ga_cons (ge_var (pv 1)) ga_nil)))) (gs_one (gs_raise1 (c := 1) rfl T.exi_BadRatio rfl (oke_BadRatio T).choose_spec.1 (oke_BadRatio T).choose_spec.2 (hr.mono (by decide)) rfl T.g_BadRatio rfl tk_def (ga_cons ge_int ga_nil))) gs_nil)
    (gs_one (gs_if (gt_tr (tru_plain rfl) (ge_callB (cg_isi rfl T.isOk T.isTab) rfl T.n_isinstance (by decide +kernel) (ga_cons (ge_var (pv 2)) (ga_cons (ge_cls (c := 4) rfl T.g_Nothing) ga_nil)))) (gs_cons (gs_setF rfl (T.fld_top) (ge_var (pv 0)) ge_int)
    (gs_one (gs_setF rfl (T.fld_bottom) (ge_var (pv 0)) ge_int))) (gs_one (gs_if (PW.pt (gw_or (gt_not (gt_tr (tru_plain rfl) (ge_call (cg_b (ok_is_integer T B) rfl (hr.mono (by decide)) gd pass_def) rfl T.g_is_integer T.k_is_integer (ga_cons (ge_var (pv 2)) ga_nil)))) (gw_or1 (gt_cmp (tru_plain rfl) og_ltI (ge_var (pv 2)) ge_int (nomark _))))) (gs_one (gs_raise1 (c := 1) rfl T.exi_BadRatio rfl (oke_BadRatio T).choose_spec.1 (oke_BadRatio T).choose_spec.2 (hr.mono (by decide)) rfl T.g_BadRatio rfl tk_def (ga_cons ge_int ga_nil))) (gs_cons (gs_set (i := 3) sc_Ratio___init__.nd rfl (by first | exact Or.inl rfl | exact Or.inr rfl) (ge_call (cg_b (ok_common T B) rfl (hr.mono (by decide)) gd pass_def) rfl T.g_common T.k_common (ga_cons (ge_var (pv 1)) (ga_cons (ge_var (pv 2)) ga_nil))))
    (gs_cons (gs_setF rfl (T.fld_top) (ge_var (pv 0)) (ge_bin og_divI (ge_var (pv 1)) (ge_var (pv 3))))
    (gs_one (gs_setF rfl (T.fld_bottom) (ge_var (pv 0)) (ge_bin og_divI (ge_var (pv 2)) (ge_var (pv 3)))))))))))))
theorem okd_Ratio___init___0 (T : Tx K mg) (B : ∀ p ∈ csOf K lams, LamX.TabB base mg p.1 p.2) : FnBD P w (WW K) mg base 3 (He.ma K (He.ga K "Ratio") "__init__") ["self", "top", "bottom"] [] f_Ratio___init__ := by
  obtain ⟨fd, F⟩ := T.d_Ratio___init__
  obtain ⟨dus, hv, hb⟩ := F.binds1 (ps := ["self", "top", "bottom"]) 3 1 (by simp) (by decide) fun _ _ _ _ _ _ _ us its hl hi => match us, its, hl, hi with | [_, _, _], [_], _, _ => ⟨_, rfl, rfl⟩
  exact ⟨⟨fd, [], dus, fg_Ratio___init__ T B F, hb, hv, fun F ρ => IsL.nil⟩, T.k_Ratio___init__⟩
theorem okd_Ratio___init___1 (T : Tx K mg) (B : ∀ p ∈ csOf K lams, LamX.TabB base mg p.1 p.2) : FnBD P w (WW K) mg base 3 (He.ma K (He.ga K "Ratio") "__init__") ["self", "top", "bottom"] [.int 1] f_Ratio___init__ := by
  obtain ⟨fd, F⟩ := T.d_Ratio___init__
  obtain ⟨dus, hv, hb⟩ := F.binds1 (ps := ["self", "top", "bottom"]) 2 0 (by simp) (by decide) fun _ _ _ _ _ _ _ us its hl hi => match us, its, hl, hi with | [_, _], [_], _, _ => ⟨_, rfl, rfl⟩
  exact ⟨⟨fd, [V.int 1], dus, fg_Ratio___init__ T B F, hb, hv, fun F ρ => IsL.cons (by simp only [Is]) (IsL.nil)⟩, T.k_Ratio___init__⟩
theorem sc_Ratio_endless : FnScope [] [] (defScope s_Ratio_endless) := ⟨rfl, rfl, rfl, by decide +kernel, rfl, by decide +kernel, by decide +kernel⟩
noncomputable def b_Ratio_endless : GS' :=
  (gRet (gCall (gMake 5 [] f_Ratio___init__) (gCons (gC (.int 1)) (gCons (gCall (gBare 4) gNil) gNil))))
noncomputable def f_Ratio_endless : List D → Stor → R D := gFn 0 0 b_Ratio_endless
theorem fg_Ratio_endless (T : Tx K mg) (B : ∀ p ∈ csOf K lams, LamX.TabB base mg p.1 p.2) {fd : FuncData} (F : FunD K "endless" "Ratio.endless" (defArgs s_Ratio_endless) (defBody s_Ratio_endless) (defScope s_Ratio_endless) [] [] (He5.wf K (He.ga K "Ratio") "staticmethod" "endless") fd) : FnG P w (WW K) mg base 5 (He5.wf K (He.ga K "Ratio") "staticmethod" "endless") fd [] f_Ratio_endless :=
  fng_of (W := WW K) (N := []) F sc_Ratio_endless (fun cdv A outer s H E hr gd =>
    (gs_one (gs_ret (ge_call (cg_make (c := 5) T.mk_Ratio (okd_Ratio___init___0 T B) rfl (hr.mono (by decide)) gd pass_def) rfl T.g_Ratio T.mk_Ratio.kp (ga_cons ge_int (ga_cons (ge_call0 (cg_bare (c := 4) T.mk0_Nothing) rfl T.g_Nothing T.mk0_Nothing.kp) ga_nil))))))
theorem ok_Ratio_endless (T : Tx K mg) (B : ∀ p ∈ csOf K lams, LamX.TabB base mg p.1 p.2) : FnB P w (WW K) mg base 5 (He5.wf K (He.ga K "Ratio") "staticmethod" "endless") [] f_Ratio_endless := by
  obtain ⟨fd, F⟩ := T.d_Ratio_endless
  exact ⟨⟨fd, fg_Ratio_endless T B F, F.bindsN fun _ _ _ _ _ _ us hl => match us, hl with | [], _ => rfl⟩, T.k_Ratio_endless⟩
theorem sc__law_made : FnScope ["_law_pair"] ["_law_pair"] (defScope s__law_made) := ⟨rfl, rfl, rfl, by decide +kernel, rfl, by decide +kernel, by decide +kernel⟩
noncomputable def b__law_made : GS' :=
  (gRet (gIfE (gTr truD (gBin dEq (gBin dIx (gVar 0) (gC (.int 1))) (gC (.int 0)))) (gCall f_Ratio_endless gNil) (gCall (gMake 5 [] f_Ratio___init__) (gCons (gBin dIx (gVar 0) (gC (.int 0))) (gCons (gBin dIx (gVar 0) (gC (.int 1))) gNil)))))
noncomputable def f__law_made : List D → Stor → R D := gFn 1 1 b__law_made
theorem fg__law_made (T : Tx K mg) (B : ∀ p ∈ csOf K lams, LamX.TabB base mg p.1 p.2) {fd : FuncData} (F : FunD K "_law_made" "_law_made" (defArgs s__law_made) (defBody s__law_made) (defScope s__law_made) [] [] (He.ga K "_law_made") fd) : FnG P w (WW K) mg base 6 (He.ga K "_law_made") fd ["_law_pair"] f__law_made :=
  fng_of (W := WW K) (N := ["_law_pair"]) F sc__law_made (fun cdv A outer s H E hr gd =>
    (gs_one (gs_ret (ge_ifExp (gt_cmp (tru_plain rfl) (og_eq rfl hr.units) (ge_ix rfl (ge_var (pv 0)) ge_int (fun _ _ => rfl)) ge_int (nomark _)) (ge_smeth0 (c := 5) (cg_b (ok_Ratio_endless T B) rfl (hr.mono (by decide)) gd pass_def) T.sm_Ratio_endless (ge_cls (c := 5) rfl T.g_Ratio)) (ge_call (cg_make (c := 5) T.mk_Ratio (okd_Ratio___init___0 T B) rfl (hr.mono (by decide)) gd pass_def) rfl T.g_Ratio T.mk_Ratio.kp (ga_cons (ge_ix rfl (ge_var (pv 0)) ge_int (fun _ _ => rfl)) (ga_cons (ge_ix rfl (ge_var (pv 0)) ge_int (fun _ _ => rfl)) ga_nil)))))))
theorem ok__law_made (T : Tx K mg) (B : ∀ p ∈ csOf K lams, LamX.TabB base mg p.1 p.2) : FnB P w (WW K) mg base 6 (He.ga K "_law_made") ["_law_pair"] f__law_made := by
  obtain ⟨fd, F⟩ := T.d__law_made
  exact ⟨⟨fd, fg__law_made T B F, F.bindsN fun _ _ _ _ _ _ us hl => match us, hl with | [_], _ => rfl⟩, T.k__law_made⟩
theorem sc__law_item : FnScope ["_law_pen_here", "_law_pair"] ["_law_pen_here"] (defScope s__law_item) := ⟨rfl, rfl, rfl, by decide +kernel, rfl, by decide +kernel, by decide +kernel⟩
noncomputable def b__law_item : GS' :=
  (gSeq (gSet 1 (gIfE (gTr truD (gBin dEq (gCall f__law_draw (gCons (gVar 0) (gCons (gC (.int 7)) gNil))) (gC (.int 0)))) (gTup (gCons (gC (.int 1)) (gCons (gC (.int 0)) gNil))) (gCall f__law_fraction (gCons (gVar 0) gNil))))
    (gSeq (gIf (gAnd (gTr truD (gBin dEq (gCall f__law_draw (gCons (gVar 0) (gCons (gC (.int 3)) gNil))) (gC (.int 0)))) (gTr truD (gBin dNe (gBin dIx (gVar 1) (gC (.int 1))) (gC (.int 0))))) (gSeq (gSet 1 (gTup (gCons (gBin dIx (gVar 1) (gC (.int 0))) (gCons (gC (.int 1)) gNil))))
    (gRet (gTup (gCons (gVar 1) (gCons (gBin dIx (gVar 1) (gC (.int 0))) gNil))))) gSkip)
    (gRet (gTup (gCons (gVar 1) (gCons (gCall f__law_made (gCons (gVar 1) gNil)) gNil))))))
noncomputable def f__law_item : List D → Stor → R D := gFn 1 2 b__law_item
theorem fg__law_item (T : Tx K mg) (B : ∀ p ∈ csOf K lams, LamX.TabB base mg p.1 p.2) {fd : FuncData} (F : FunD K "_law_item" "_law_item" (defArgs s__law_item) (defBody s__law_item) (defScope s__law_item) [] [] (He.ga K "_law_item") fd) : FnG P w (WW K) mg base 7 (He.ga K "_law_item") fd ["_law_pen_here"] f__law_item :=
  fng_of (W := WW K) (N := ["_law_pen_here", "_law_pair"]) F sc__law_item (fun cdv A outer s H E hr gd =>
    (gs_cons (gs_set (i := 1) sc__law_item.nd rfl (by first | exact Or.inl rfl | exact Or.inr rfl) (ge_ifExp (gt_cmp (tru_plain rfl) (og_eq rfl hr.units) (ge_call (cg_b (ok__law_draw T B) rfl (hr.mono (by decide)) gd pass_def) rfl T.g__law_draw T.k__law_draw (ga_cons (ge_var (pv 0)) (ga_cons ge_int ga_nil))) ge_int (nomark _)) (ge_tup (ga_cons ge_int (ga_cons ge_int ga_nil))) (ge_call (cg_b (ok__law_fraction T B) rfl (hr.mono (by decide)) gd pass_def) rfl T.g__law_fraction T.k__law_fraction (ga_cons (ge_var (pv 0)) ga_nil))))
    (gs_cons (gs_if (PW.pt (gw_and (gt_cmp (tru_plain rfl) (og_eq rfl hr.units) (ge_call (cg_b (ok__law_draw T B) rfl (hr.mono (by decide)) gd pass_def) rfl T.g__law_draw T.k__law_draw (ga_cons (ge_var (pv 0)) (ga_cons ge_int ga_nil))) ge_int (nomark _)) (gw_and1 (gt_cmp (tru_plain rfl) (og_ne rfl hr.units) (ge_ix rfl (ge_var (pv 1)) ge_int (fun _ _ => rfl)) ge_int (nomark _))))) (gs_cons (gs_set (i := 1) sc__law_item.nd rfl (by first | exact Or.inl rfl | exact Or.inr rfl) (ge_tup (ga_cons (ge_ix rfl (ge_var (pv 1)) ge_int (fun _ _ => rfl)) (ga_cons ge_int ga_nil))))
    (gs_one (gs_ret (ge_tup (ga_cons (ge_var (pv 1)) (ga_cons (ge_ix rfl (ge_var (pv 1)) ge_int (fun _ _ => rfl)) ga_nil)))))) gs_nil)
    (gs_one (gs_ret (ge_tup (ga_cons (ge_var (pv 1)) (ga_cons (ge_call (cg_b (ok__law_made T B) rfl (hr.mono (by decide)) gd pass_def) rfl T.g__law_made T.k__law_made (ga_cons (ge_var (pv 1)) ga_nil)) ga_nil))))))))
theorem ok__law_item (T : Tx K mg) (B : ∀ p ∈ csOf K lams, LamX.TabB base mg p.1 p.2) : FnB P w (WW K) mg base 7 (He.ga K "_law_item") ["_law_pen_here"] f__law_item := by
  obtain ⟨fd, F⟩ := T.d__law_item
  exact ⟨⟨fd, fg__law_item T B F, F.bindsN fun _ _ _ _ _ _ us hl => match us, hl with | [_], _ => rfl⟩, T.k__law_item⟩
theorem sc__law_is_less : FnScope ["_law_one", "_law_other"] ["_law_one", "_law_other"] (defScope s__law_is_less) := ⟨rfl, rfl, rfl, by decide +kernel, rfl, by decide +kernel, by decide +kernel⟩
noncomputable def b__law_is_less : GS' :=
  (gSeq (gIf (gOr (gTr truD (gBin dEq (gBin dIx (gVar 0) (gC (.int 1))) (gC (.int 0)))) (gTr truD (gBin dEq (gBin dIx (gVar 1) (gC (.int 1))) (gC (.int 0))))) (gRet (gAndV truD (gBin dNe (gBin dIx (gVar 0) (gC (.int 1))) (gC (.int 0))) (gBin dEq (gBin dIx (gVar 1) (gC (.int 1))) (gC (.int 0))))) gSkip)
    (gRet (gBin dLtI (gBin dMul (gBin dIx (gVar 0) (gC (.int 0))) (gBin dIx (gVar 1) (gC (.int 1)))) (gBin dMul (gBin dIx (gVar 1) (gC (.int 0))) (gBin dIx (gVar 0) (gC (.int 1)))))))
noncomputable def f__law_is_less : List D → Stor → R D := gFn 2 2 b__law_is_less
theorem fg__law_is_less (T : Tx K mg) (B : ∀ p ∈ csOf K lams, LamX.TabB base mg p.1 p.2) {fd : FuncData} (F : FunD K "_law_is_less" "_law_is_less" (defArgs s__law_is_less) (defBody s__law_is_less) (defScope s__law_is_less) [] [] (He.ga K "_law_is_less") fd) : FnG P w (WW K) mg base 1 (He.ga K "_law_is_less") fd ["_law_one", "_law_other"] f__law_is_less :=
  fng_of (W := WW K) (N := ["_law_one", "_law_other"]) F sc__law_is_less (fun cdv A outer s H E hr gd =>
    (gs_cons (gs_if (PW.pt (gw_or (gt_cmp (tru_plain rfl) (og_eq rfl hr.units) (ge_ix rfl (ge_var (pv 0)) ge_int (fun _ _ => rfl)) ge_int (nomark _)) (gw_or1 (gt_cmp (tru_plain rfl) (og_eq rfl hr.units) (ge_ix rfl (ge_var (pv 1)) ge_int (fun _ _ => rfl)) ge_int (nomark _))))) (gs_one (gs_ret (ge_and (tru_plain rfl) (ge_cmp (og_ne rfl hr.units) (ge_ix rfl (ge_var (pv 0)) ge_int (fun _ _ => rfl)) ge_int (nomark _)) (ge_one (ge_cmp (og_eq rfl hr.units) (ge_ix rfl (ge_var (pv 1)) ge_int (fun _ _ => rfl)) ge_int (nomark _)))))) gs_nil)
    (gs_one (gs_ret (ge_cmp og_ltI (ge_bin og_mul (ge_ix rfl (ge_var (pv 0)) ge_int (fun _ _ => rfl)) (ge_ix rfl (ge_var (pv 1)) ge_int (fun _ _ => rfl))) (ge_bin og_mul (ge_ix rfl (ge_var (pv 1)) ge_int (fun _ _ => rfl)) (ge_ix rfl (ge_var (pv 0)) ge_int (fun _ _ => rfl))) (nomark _))))))
theorem ok__law_is_less (T : Tx K mg) (B : ∀ p ∈ csOf K lams, LamX.TabB base mg p.1 p.2) : FnB P w (WW K) mg base 1 (He.ga K "_law_is_less") ["_law_one", "_law_other"] f__law_is_less := by
  obtain ⟨fd, F⟩ := T.d__law_is_less
  exact ⟨⟨fd, fg__law_is_less T B F, F.bindsN fun _ _ _ _ _ _ us hl => match us, hl with | [_, _], _ => rfl⟩, T.k__law_is_less⟩
theorem sc__law_farthest : FnScope ["_law_pairs", "_law_is_great", "_law_found", "_law_pair"] ["_law_pairs", "_law_is_great"] (defScope s__law_farthest) := ⟨rfl, rfl, rfl, by decide +kernel, rfl, by decide +kernel, by decide +kernel⟩
noncomputable def b__law_farthest : GS' :=
  (gSeq (gIf (gTr truD (gBin dEq (gVar 0) (gLst gNil))) (gRet (gIfE (gTr truD (gVar 1)) (gTup (gCons (gC (.int 0)) (gCons (gC (.int 1)) gNil))) (gTup (gCons (gC (.int 1)) (gCons (gC (.int 0)) gNil))))) gSkip)
    (gSeq (gSet 2 (gBin dIx (gVar 0) (gC (.int 0))))
    (gSeq (gFor (giSeq (gVar 0)) (ggName 3) (gIf (gOr (gAnd (gTr truD (gVar 1)) (gTr truD (gCall f__law_is_less (gCons (gVar 2) (gCons (gVar 3) gNil))))) (gAnd (gNot (gTr truD (gVar 1))) (gTr truD (gCall f__law_is_less (gCons (gVar 3) (gCons (gVar 2) gNil)))))) (gSet 2 (gVar 3)) gSkip))
    (gRet (gVar 2)))))
noncomputable def f__law_farthest : List D → Stor → R D := gFn 2 4 b__law_farthest
theorem fg__law_farthest (T : Tx K mg) (B : ∀ p ∈ csOf K lams, LamX.TabB base mg p.1 p.2) {fd : FuncData} (F : FunD K "_law_farthest" "_law_farthest" (defArgs s__law_farthest) (defBody s__law_farthest) (defScope s__law_farthest) [] [] (He.ga K "_law_farthest") fd) : FnG P w (WW K) mg base 2 (He.ga K "_law_farthest") fd ["_law_pairs", "_law_is_great"] f__law_farthest :=
  fng_of (W := WW K) (N := ["_law_pairs", "_law_is_great", "_law_found", "_law_pair"]) F sc__law_farthest (fun cdv A outer s H E hr gd =>
    (gs_cons (gs_if (gt_cmp (tru_plain rfl) (og_eq rfl hr.units) (ge_var (pv 0)) (ge_lst ga_nil) (nomark _)) (gs_one (gs_ret (ge_ifExp (gt_tr (tru_plain rfl) (ge_var (pv 1))) (ge_tup (ga_cons ge_int (ga_cons ge_int ga_nil))) (ge_tup (ga_cons ge_int (ga_cons ge_int ga_nil)))))) gs_nil)
    (gs_cons (gs_set (i := 2) sc__law_farthest.nd rfl (by first | exact Or.inl rfl | exact Or.inr rfl) (ge_ix rfl (ge_var (pv 0)) ge_int (fun _ _ => rfl)))
    (gs_cons (gs_for own_def rfl (gi_seq rfl (ge_var (pv 0))) (gg_name (pg_name (i := 3) sc__law_farthest.nd rfl (by first | exact Or.inl rfl | exact Or.inr rfl))) (gs_one (gs_if (PW.pt (gw_or (PW.pt (gw_and (gt_tr (tru_plain rfl) (ge_var (pv 1))) (gw_and1 (gt_tr (tru_plain rfl) (ge_call (cg_b (ok__law_is_less T B) rfl (hr.mono (by decide)) gd pass_def) rfl T.g__law_is_less T.k__law_is_less (ga_cons (ge_var (pv 2)) (ga_cons (ge_var (pv 3)) ga_nil))))))) (gw_or1 (PW.pt (gw_and (gt_not (gt_tr (tru_plain rfl) (ge_var (pv 1)))) (gw_and1 (gt_tr (tru_plain rfl) (ge_call (cg_b (ok__law_is_less T B) rfl (hr.mono (by decide)) gd pass_def) rfl T.g__law_is_less T.k__law_is_less (ga_cons (ge_var (pv 3)) (ga_cons (ge_var (pv 2)) ga_nil)))))))))) (gs_one (gs_set (i := 2) sc__law_farthest.nd rfl (by first | exact Or.inl rfl | exact Or.inr rfl) (ge_var (pv 3)))) gs_nil)))
    (gs_one (gs_ret (ge_var (pv 2))))))))
theorem ok__law_farthest (T : Tx K mg) (B : ∀ p ∈ csOf K lams, LamX.TabB base mg p.1 p.2) : FnB P w (WW K) mg base 2 (He.ga K "_law_farthest") ["_law_pairs", "_law_is_great"] f__law_farthest := by
  obtain ⟨fd, F⟩ := T.d__law_farthest
  exact ⟨⟨fd, fg__law_farthest T B F, F.bindsN fun _ _ _ _ _ _ us hl => match us, hl with | [_, _], _ => rfl⟩, T.k__law_farthest⟩
theorem sc__law_total : FnScope ["_law_pairs", "_law_is_endless", "_law_pair", "_law_found"] ["_law_pairs"] (defScope s__law_total) := ⟨rfl, rfl, rfl, by decide +kernel, rfl, by decide +kernel, by decide +kernel⟩
noncomputable def b__law_total : GS' :=
  (gSeq (gSet 1 (gBin dNe (gComp (giSeq (gVar 0)) (.one 2) (gTr truD (gBin dEq (gBin dIx (gVar 2) (gC (.int 1))) (gC (.int 0)))) (gVar 2)) (gLst gNil)))
    (gSeq (gIf (gTr truD (gVar 1)) (gRet (gIfE (gTr truD (gBin dNe (gComp (giSeq (gVar 0)) (.one 2) (gTr truD (gBin dLtI (gBin dIx (gVar 2) (gC (.int 0))) (gC (.int 0)))) (gVar 2)) (gLst gNil))) (gTup (gCons (gC (.str "none")) gNil)) (gTup (gCons (gC (.int 1)) (gCons (gC (.int 0)) gNil))))) gSkip)
    (gSeq (gSet 3 (gTup (gCons (gC (.int 0)) (gCons (gC (.int 1)) gNil))))
    (gSeq (gFor (giSeq (gVar 0)) (ggName 2) (gSet 3 (gCall f__law_low (gCons (gBin dAdd (gBin dMul (gBin dIx (gVar 3) (gC (.int 0))) (gBin dIx (gVar 2) (gC (.int 1)))) (gBin dMul (gBin dIx (gVar 2) (gC (.int 0))) (gBin dIx (gVar 3) (gC (.int 1))))) (gCons (gBin dMul (gBin dIx (gVar 3) (gC (.int 1))) (gBin dIx (gVar 2) (gC (.int 1)))) gNil)))))
    (gRet (gVar 3))))))
noncomputable def f__law_total : List D → Stor → R D := gFn 1 4 b__law_total
theorem fg__law_total (T : Tx K mg) (B : ∀ p ∈ csOf K lams, LamX.TabB base mg p.1 p.2) {fd : FuncData} (F : FunD K "_law_total" "_law_total" (defArgs s__law_total) (defBody s__law_total) (defScope s__law_total) [] [] (He.ga K "_law_total") fd) : FnG P w (WW K) mg base 2 (He.ga K "_law_total") fd ["_law_pairs"] f__law_total :=
  fng_of (W := WW K) (N := ["_law_pairs", "_law_is_endless", "_law_pair", "_law_found"]) F sc__law_total (fun cdv A outer s H E hr gd =>
    (gs_cons (gs_set (i := 1) sc__law_total.nd rfl (by first | exact Or.inl rfl | exact Or.inr rfl) (ge_cmp (og_ne rfl hr.units) (ge_comp (own := [("_law_pair", 2)]) (t := (.one 2)) rfl rfl sc__law_total.nd (gi_seq rfl (ge_var (pv 0))) (blkOk_by (own := [("_law_pair", 2)]) (N := ["_law_pairs", "_law_is_endless", "_law_pair", "_law_found"]) (sc := defScope s__law_total) (by decide +kernel)) rfl (fun _ _ _ _ _ => pg_name (i := 2) sc__law_total.nd rfl (Or.inl rfl)) (fun _ _ _ _ _ => (pts_one (gt_cmp (tru_plain rfl) (og_eq rfl hr.units) (ge_ix rfl (ge_var (pv 2)) ge_int (fun _ _ => rfl)) ge_int (nomark _)))) (fun _ _ _ _ _ => (ge_var (pv 2)))) (ge_lst ga_nil) (nomark _)))
    (gs_cons (gs_if (gt_tr (tru_plain rfl) (ge_var (pv 1))) (gs_one (gs_ret (ge_ifExp (gt_cmp (tru_plain rfl) (og_ne rfl hr.units) (ge_comp (own := [("_law_pair", 2)]) (t := (.one 2)) rfl rfl sc__law_total.nd (gi_seq rfl (ge_var (pv 0))) (blkOk_by (own := [("_law_pair", 2)]) (N := ["_law_pairs", "_law_is_endless", "_law_pair", "_law_found"]) (sc := defScope s__law_total) (by decide +kernel)) rfl (fun _ _ _ _ _ => pg_name (i := 2) sc__law_total.nd rfl (Or.inl rfl)) (fun _ _ _ _ _ => (pts_one (gt_cmp (tru_plain rfl) og_ltI (ge_ix rfl (ge_var (pv 2)) ge_int (fun _ _ => rfl)) ge_int (nomark _)))) (fun _ _ _ _ _ => (ge_var (pv 2)))) (ge_lst ga_nil) (nomark _)) (ge_tup (ga_cons ge_str ga_nil)) (ge_tup (ga_cons ge_int (ga_cons ge_int ga_nil)))))) gs_nil)
    (gs_cons (gs_set (i := 3) sc__law_total.nd rfl (by first | exact Or.inl rfl | exact Or.inr rfl) (ge_tup (ga_cons ge_int (ga_cons ge_int ga_nil))))
    (gs_cons (gs_for own_def rfl (gi_seq rfl (ge_var (pv 0))) (gg_name (pg_name (i := 2) sc__law_total.nd rfl (by first | exact Or.inl rfl | exact Or.inr rfl))) (gs_one (gs_set (i := 3) sc__law_total.nd rfl (by first | exact Or.inl rfl | exact Or.inr rfl) (ge_call (cg_b (ok__law_low T B) rfl (hr.mono (by decide)) gd pass_def) rfl T.g__law_low T.k__law_low (ga_cons (ge_bin (og_add rfl) (ge_bin og_mul (ge_ix rfl (ge_var (pv 3)) ge_int (fun _ _ => rfl)) (ge_ix rfl (ge_var (pv 2)) ge_int (fun _ _ => rfl))) (ge_bin og_mul (ge_ix rfl (ge_var (pv 2)) ge_int (fun _ _ => rfl)) (ge_ix rfl (ge_var (pv 3)) ge_int (fun _ _ => rfl)))) (ga_cons (ge_bin og_mul (ge_ix rfl (ge_var (pv 3)) ge_int (fun _ _ => rfl)) (ge_ix rfl (ge_var (pv 2)) ge_int (fun _ _ => rfl))) ga_nil))))))
    (gs_one (gs_ret (ge_var (pv 3)))))))))
theorem ok__law_total (T : Tx K mg) (B : ∀ p ∈ csOf K lams, LamX.TabB base mg p.1 p.2) : FnB P w (WW K) mg base 2 (He.ga K "_law_total") ["_law_pairs"] f__law_total := by
  obtain ⟨fd, F⟩ := T.d__law_total
  exact ⟨⟨fd, fg__law_total T B F, F.bindsN fun _ _ _ _ _ _ us hl => match us, hl with | [_], _ => rfl⟩, T.k__law_total⟩
theorem sc_written : FnScope ["top", "bottom"] ["top", "bottom"] (defScope s_written) := ⟨rfl, rfl, rfl, by decide +kernel, rfl, by decide +kernel, by decide +kernel⟩
noncomputable def b_written : GS' :=
  (gSeq (gIf (gTr truD (gBin dEq (gVar 1) (gC (.int 0)))) (gRet (gC (.str "endless"))) gSkip)
    (gRet (gIfE (gTr truD (gBin dEq (gVar 1) (gC (.int 1)))) (gCall fStr (gCons (gVar 0) gNil)) (jsG [(gUn dFmt (gVar 0)), (gC (.str "/")), (gUn dFmt (gVar 1))] Str.empty))))
noncomputable def f_written : List D → Stor → R D := gFn 2 2 b_written
theorem fg_written (T : Tx K mg) (B : ∀ p ∈ csOf K lams, LamX.TabB base mg p.1 p.2) {fd : FuncData} (F : FunD K "written" "written" (defArgs s_written) (defBody s_written) (defScope s_written) [] [] (He.ga K "written") fd) : FnG P w (WW K) mg base 1 (He.ga K "written") fd ["top", "bottom"] f_written :=
  fng_of (W := WW K) (N := ["top", "bottom"]) F sc_written (fun cdv A outer s H E hr gd =>
    (gs_cons (gs_if (gt_cmp (tru_plain rfl) (og_eq rfl hr.units) (ge_var (pv 1)) ge_int (nomark _)) (gs_one (gs_ret (ge_glob (v := .str "endless") rfl T.c_ENDLESS.choose_spec ⟨_, rfl⟩ flat_str))) gs_nil)
    (gs_one (gs_ret (ge_ifExp (gt_cmp (tru_plain rfl) (og_eq rfl hr.units) (ge_var (pv 1)) ge_int (nomark _)) (ge_callTy cg_str rfl T.n_str (by decide +kernel) (ga_cons (ge_var (pv 0)) ga_nil)) (ge_joined (.cons (ge_fmt (ge_var (pv 0))) (.cons ge_str (.cons (ge_fmt (ge_var (pv 1))) .nil)))))))))
theorem ok_written (T : Tx K mg) (B : ∀ p ∈ csOf K lams, LamX.TabB base mg p.1 p.2) : FnB P w (WW K) mg base 1 (He.ga K "written") ["top", "bottom"] f_written := by
  obtain ⟨fd, F⟩ := T.d_written
  exact ⟨⟨fd, fg_written T B F, F.bindsN fun _ _ _ _ _ _ us hl => match us, hl with | [_, _], _ => rfl⟩, T.k_written⟩
theorem fgN_written (T : Tx K mg) (B : ∀ p ∈ csOf K lams, LamX.TabB base mg p.1 p.2) {fd : FuncData} (F : FunD K "written" "written" (defArgs s_written) (defBody s_written) (defScope s_written) [] [] (He.ga K "written") fd) : FnGN P w (WW K) mg base 1 (He.ga K "written") fd ["top", "bottom"] f_written :=
  fng_ofN (W := WW K) (N := ["top", "bottom"]) F sc_written (fun cdv A outer s H E hr =>
    (gs_cons (gs_if (gt_cmp (tru_plain rfl) (og_eq rfl hr.units) (ge_var (pv 1)) ge_int (nomark _)) (gs_one (gs_ret (ge_glob (v := .str "endless") rfl T.c_ENDLESS.choose_spec ⟨_, rfl⟩ flat_str))) gs_nil)
    (gs_one (gs_ret (ge_ifExp (gt_cmp (tru_plain rfl) (og_eq rfl hr.units) (ge_var (pv 1)) ge_int (nomark _)) (ge_callTy cg_str rfl T.n_str (by decide +kernel) (ga_cons (ge_var (pv 0)) ga_nil)) (ge_joined (.cons (ge_fmt (ge_var (pv 0))) (.cons ge_str (.cons (ge_fmt (ge_var (pv 1))) .nil)))))))))
theorem okN_written (T : Tx K mg) (B : ∀ p ∈ csOf K lams, LamX.TabB base mg p.1 p.2) : FnBN P w (WW K) mg base 1 (He.ga K "written") ["top", "bottom"] f_written := by
  obtain ⟨fd, F⟩ := T.d_written
  exact ⟨⟨fd, fgN_written T B F, F.bindsN fun _ _ _ _ _ _ us hl => match us, hl with | [_, _], _ => rfl⟩, T.k_written⟩
theorem sc_Ratio___repr__ : FnScope ["self"] ["self"] (defScope s_Ratio___repr__) := ⟨rfl, rfl, rfl, by decide +kernel, rfl, by decide +kernel, by decide +kernel⟩
noncomputable def b_Ratio___repr__ : GS' :=
  (gRet (jsG [(gC (.str "Ratio(")), (gUn dFmt (gCall f_written (gCons (gUn (dFld ft_top) (gVar 0)) (gCons (gUn (dFld ft_bottom) (gVar 0)) gNil)))), (gC (.str ")"))] Str.empty))
noncomputable def f_Ratio___repr__ : List D → Stor → R D := gFn 1 1 b_Ratio___repr__
theorem fg_Ratio___repr__ (T : Tx K mg) (B : ∀ p ∈ csOf K lams, LamX.TabB base mg p.1 p.2) {fd : FuncData} (F : FunD K "__repr__" "Ratio.__repr__" (defArgs s_Ratio___repr__) (defBody s_Ratio___repr__) (defScope s_Ratio___repr__) [] [] (He.ma K (He.ga K "Ratio") "__repr__") fd) : FnG P w (WW K) mg base 2 (He.ma K (He.ga K "Ratio") "__repr__") fd ["self"] f_Ratio___repr__ :=
  fng_of (W := WW K) (N := ["self"]) F sc_Ratio___repr__ (fun cdv A outer s H E hr gd =>
    (gs_one (gs_ret (ge_joined (.cons ge_str (.cons (ge_fmt (ge_call (cg_b (ok_written T B) rfl (hr.mono (by decide)) gd pass_def) rfl T.g_written T.k_written (ga_cons (ge_fld rfl (T.fld_top) (ge_var (pv 0))) (ga_cons (ge_fld rfl (T.fld_bottom) (ge_var (pv 0))) ga_nil)))) (.cons ge_str .nil)))))))
theorem ok_Ratio___repr__ (T : Tx K mg) (B : ∀ p ∈ csOf K lams, LamX.TabB base mg p.1 p.2) : FnB P w (WW K) mg base 2 (He.ma K (He.ga K "Ratio") "__repr__") ["self"] f_Ratio___repr__ := by
  obtain ⟨fd, F⟩ := T.d_Ratio___repr__
  exact ⟨⟨fd, fg_Ratio___repr__ T B F, F.bindsN fun _ _ _ _ _ _ us hl => match us, hl with | [_], _ => rfl⟩, T.k_Ratio___repr__⟩
theorem fgN_Ratio___repr__ (T : Tx K mg) (B : ∀ p ∈ csOf K lams, LamX.TabB base mg p.1 p.2) {fd : FuncData} (F : FunD K "__repr__" "Ratio.__repr__" (defArgs s_Ratio___repr__) (defBody s_Ratio___repr__) (defScope s_Ratio___repr__) [] [] (He.ma K (He.ga K "Ratio") "__repr__") fd) : FnGN P w (WW K) mg base 2 (He.ma K (He.ga K "Ratio") "__repr__") fd ["self"] f_Ratio___repr__ :=
  fng_ofN (W := WW K) (N := ["self"]) F sc_Ratio___repr__ (fun cdv A outer s H E hr =>
    (gs_one (gs_ret (ge_joined (.cons ge_str (.cons (ge_fmt (ge_call (cg_bN (okN_written T B) rfl (hr.mono (by decide)) pass_def) rfl T.g_written T.k_written (ga_cons (ge_fld rfl (T.fld_top) (ge_var (pv 0))) (ga_cons (ge_fld rfl (T.fld_bottom) (ge_var (pv 0))) ga_nil)))) (.cons ge_str .nil)))))))
theorem okN_Ratio___repr__ (T : Tx K mg) (B : ∀ p ∈ csOf K lams, LamX.TabB base mg p.1 p.2) : FnBN P w (WW K) mg base 2 (He.ma K (He.ga K "Ratio") "__repr__") ["self"] f_Ratio___repr__ := by
  obtain ⟨fd, F⟩ := T.d_Ratio___repr__
  exact ⟨⟨fd, fgN_Ratio___repr__ T B F, F.bindsN fun _ _ _ _ _ _ us hl => match us, hl with | [_], _ => rfl⟩, T.k_Ratio___repr__⟩
theorem sc__law_heard : FnScope ["_law_ask", "_law_caught", "_law_found", "error", "_law_kinds"] ["_law_ask"] (defScope s__law_heard) := ⟨rfl, rfl, rfl, by decide +kernel, rfl, by decide +kernel, by decide +kernel⟩
noncomputable def b__law_heard (Y : D) (th : Stor → R D) : GS' :=
  (gSeq (gAsg (ggTup 2 (ggCons (ggName 1) (ggCons (ggName 2) ggNil))) (gTup (gCons (gC .non) (gCons (gC .non) gNil))))
    (gSeq (gTryK (gSet 2 (gAct 0 Y th)) mt_WebError 3 1)
    (gSeq (gIf (gTr truD (gBin dIsN (gVar 1) (gC .non))) (gRet (gLst (gCons (gVar 2) gNil))) gSkip)
    (gSeq (gSet 4 (gLst (gCons (gCall (fun ds M => orR (fIsi isOk isTab ds M) (fIsiX exOk exTab ds M)) (gCons (gVar 1) (gCons (gC (.cls 1)) gNil))) (gCons (gCall (fun ds M => orR (fIsi isOk isTab ds M) (fIsiX exOk exTab ds M)) (gCons (gVar 1) (gCons (gC (.cls 2)) gNil))) (gCons (gCall (fun ds M => orR (fIsi isOk isTab ds M) (fIsiX exOk exTab ds M)) (gCons (gVar 1) (gCons (gC (.cls 3)) gNil))) gNil)))))
    (gSeq (gIf (gOr (gTr truD (gBin dNe (gMtL mCount (gVar 4) (gCons (gC (.bl true)) gNil)) (gC (.int 1)))) (gNot (gTr truD (gCall (fun ds M => orR (fIsi isOk isTab ds M) (fIsiX exOk exTab ds M)) (gCons (gVar 1) (gCons (gC (.ty "ValueError")) gNil)))))) (gRet (gTup (gCons (gC (.str "odd")) gNil))) gSkip)
    (gSeq (gIf (gTr truD (gBin dIx (gVar 4) (gC (.int 1)))) (gRet (gTup (gCons (gC (.str "none")) gNil))) gSkip)
    (gRet (gTup (gCons (gBin dIx (gLst (gCons (gC (.str "ratio")) (gCons (gC (.str "")) (gCons (gC (.str "text")) gNil)))) (gMtL mIndex (gVar 4) (gCons (gC (.bl true)) gNil))) (gCons (gUn (dEfl et_at) (gVar 1)) gNil))))))))))
theorem ld__law_heard (T : Tx K mg) (B : ∀ p ∈ csOf K lams, LamX.TabB base mg p.1 p.2) {k : Nat} : LamDef P w (WW K) mg base ["_law_ask", "_law_caught", "_law_found", "error", "_law_kinds"] "_law_heard" (defScope s__law_heard) (He.ga K "_law_heard") (defBody s__law_heard) "_law_ask" k b__law_heard :=
  fun cdv A outer s H E Y th hr gd act =>
    (gs_cons (gs_asg (ge_tup (ga_cons ge_non (ga_cons ge_non ga_nil))) (gg_tup rfl rfl (ggs_cons (gg_name (pg_name (i := 1) sc__law_heard.nd rfl (by first | exact Or.inl rfl | exact Or.inr rfl))) (ggs_cons (gg_name (pg_name (i := 2) sc__law_heard.nd rfl (by first | exact Or.inl rfl | exact Or.inr rfl))) ggs_nil))))
    (gs_cons (gs_tryK (i := 3) (j := 1) rfl rfl rfl rfl sc__law_heard.nd rfl (by decide) rfl rfl rfl ⟨rfl, by decide, Or.inl T.g_WebError⟩ tk_def T.mt_WebError (fun E1 pn xe tk _ => (gs_one (gs_set (i := 2) sc__law_heard.nd rfl (by first | exact Or.inl rfl | exact Or.inr rfl) (act _ _ _ _ _ tk)))))
    (gs_cons (gs_if (gt_cmp (tru_plain rfl) og_isN (ge_var (pv 1)) ge_non (nomark _)) (gs_one (gs_ret (ge_lst (ga_cons (ge_var (pv 2)) ga_nil)))) gs_nil)
    (gs_cons (gs_set (i := 4) sc__law_heard.nd rfl (by first | exact Or.inl rfl | exact Or.inr rfl) (ge_lst (ga_cons (ge_callB ((cg_isi rfl T.isOk T.isTab).or (cg_isiX rfl T.exOk T.exTab)) rfl T.n_isinstance (by decide +kernel) (ga_cons (ge_var (pv 1)) (ga_cons (ge_cls (c := 1) rfl T.g_BadRatio) ga_nil))) (ga_cons (ge_callB ((cg_isi rfl T.isOk T.isTab).or (cg_isiX rfl T.exOk T.exTab)) rfl T.n_isinstance (by decide +kernel) (ga_cons (ge_var (pv 1)) (ga_cons (ge_cls (c := 2) rfl T.g_NoRatio) ga_nil))) (ga_cons (ge_callB ((cg_isi rfl T.isOk T.isTab).or (cg_isiX rfl T.exOk T.exTab)) rfl T.n_isinstance (by decide +kernel) (ga_cons (ge_var (pv 1)) (ga_cons (ge_cls (c := 3) rfl T.g_BadText) ga_nil))) ga_nil)))))
    (gs_cons (gs_if (PW.pt (gw_or (gt_cmp (tru_plain rfl) (og_ne rfl hr.units) (ge_mtL rfl PySem.F.slot_list_count PySem.F.type_list_count (mg_count rfl hr.units65) (ge_var (pv 4)) (ga_cons ge_bl ga_nil)) ge_int (nomark _)) (gw_or1 (gt_not (gt_tr (tru_plain rfl) (ge_callB ((cg_isi rfl T.isOk T.isTab).or (cg_isiX rfl T.exOk T.exTab)) rfl T.n_isinstance (by decide +kernel) (ga_cons (ge_var (pv 1)) (ga_cons (ge_ty rfl T.n_ValueError (by decide +kernel)) ga_nil)))))))) (gs_one (gs_ret (ge_tup (ga_cons ge_str ga_nil)))) gs_nil)
    (gs_cons (gs_if (gt_tr (tru_plain rfl) (ge_ix rfl (ge_var (pv 4)) ge_int (fun _ _ => rfl))) (gs_one (gs_ret (ge_tup (ga_cons ge_str ga_nil)))) gs_nil)
    (gs_one (gs_ret (ge_tup (ga_cons (ge_ix rfl (ge_lst (ga_cons ge_str (ga_cons ge_str (ga_cons ge_str ga_nil)))) (ge_mtL rfl PySem.F.slot_list_index PySem.F.type_list_index (mg_index rfl hr.units65) (ge_var (pv 4)) (ga_cons ge_bl ga_nil)) (fun _ _ => rfl)) (ga_cons (ge_efl rfl T.efl_at (ge_var (pv 1))) ga_nil)))))))))))
theorem sc_Ratio_of : FnScope ["thing"] ["thing"] (defScope s_Ratio_of) := ⟨rfl, rfl, rfl, by decide +kernel, rfl, by decide +kernel, by decide +kernel⟩
noncomputable def b_Ratio_of : GS' :=
  (gSeq (gIf (gTr truD (gCall (fIsi isOk isTab) (gCons (gVar 0) (gCons (gC (.cls 5)) gNil)))) (gRet (gVar 0)) gSkip)
    (gSeq (gIf (gNot (gTr truD (gCall f_is_integer (gCons (gVar 0) gNil)))) (gRaise1 1 (gCons (gC (.int 0)) gNil)) gSkip)
    (gRet (gCall (gMake 5 [.int 1] f_Ratio___init__) (gCons (gVar 0) gNil)))))
noncomputable def f_Ratio_of : List D → Stor → R D := gFn 1 1 b_Ratio_of
theorem fg_Ratio_of (T : Tx K mg) (B : ∀ p ∈ csOf K lams, LamX.TabB base mg p.1 p.2) {fd : FuncData} (F : FunD K "of" "Ratio.of" (defArgs s_Ratio_of) (defBody s_Ratio_of) (defScope s_Ratio_of) [] [] (He5.wf K (He.ga K "Ratio") "staticmethod" "of") fd) : FnG P w (WW K) mg base 5 (He5.wf K (He.ga K "Ratio") "staticmethod" "of") fd ["thing"] f_Ratio_of :=
  fng_of (W := WW K) (N := ["thing"]) F sc_Ratio_of (fun cdv A outer s H E hr gd =>
    (gs_cons (gs_if (gt_tr (tru_plain rfl) (ge_callB (cg_isi rfl T.isOk T.isTab) rfl T.n_isinstance (by decide +kernel) (ga_cons (ge_var (pv 0)) (ga_cons (ge_cls (c := 5) rfl T.g_Ratio) ga_nil)))) (gs_one (gs_ret (ge_var (pv 0)))) gs_nil)
    (gs_cons (gs_if (gt_not (gt_tr (tru_plain rfl) (ge_call (cg_b (ok_is_integer T B) rfl (hr.mono (by decide)) gd pass_def) rfl T.g_is_integer T.k_is_integer (ga_cons (ge_var (pv 0)) ga_nil)))) (gs_one (gs_raise1 (c := 1) rfl T.exi_BadRatio rfl (oke_BadRatio T).choose_spec.1 (oke_BadRatio T).choose_spec.2 (hr.mono (by decide)) rfl T.g_BadRatio rfl tk_def (ga_cons ge_int ga_nil))) gs_nil)
    (gs_one (gs_ret (ge_call (cg_make (c := 5) T.mk_Ratio (okd_Ratio___init___1 T B) rfl (hr.mono (by decide)) gd pass_def) rfl T.g_Ratio T.mk_Ratio.kp (ga_cons (ge_var (pv 0)) ga_nil)))))))
theorem ok_Ratio_of (T : Tx K mg) (B : ∀ p ∈ csOf K lams, LamX.TabB base mg p.1 p.2) : FnB P w (WW K) mg base 5 (He5.wf K (He.ga K "Ratio") "staticmethod" "of") ["thing"] f_Ratio_of := by
  obtain ⟨fd, F⟩ := T.d_Ratio_of
  exact ⟨⟨fd, fg_Ratio_of T B F, F.bindsN fun _ _ _ _ _ _ us hl => match us, hl with | [_], _ => rfl⟩, T.k_Ratio_of⟩
theorem sc_all_ratios : FnScope ["items", "at", "item"] ["items"] (defScope s_all_ratios) := ⟨rfl, rfl, rfl, by decide +kernel, rfl, by decide +kernel, by decide +kernel⟩
noncomputable def b_all_ratios : GS' :=
  (gSeq (gFor (giEnumB (gCons (gVar 0) gNil)) (ggTup 2 (ggCons (ggName 1) (ggCons (ggName 2) ggNil))) (gIf (gAnd (gNot (gTr truD (gCall (fIsi isOk isTab) (gCons (gVar 2) (gCons (gC (.cls 5)) gNil))))) (gNot (gTr truD (gCall f_is_integer (gCons (gVar 2) gNil))))) (gRaise1 1 (gCons (gVar 1) gNil)) gSkip))
    (gRet (gComp (giSeq (gVar 0)) (.one 2) gYes (gCall f_Ratio_of (gCons (gVar 2) gNil)))))
noncomputable def f_all_ratios : List D → Stor → R D := gFn 1 3 b_all_ratios
theorem fg_all_ratios (T : Tx K mg) (B : ∀ p ∈ csOf K lams, LamX.TabB base mg p.1 p.2) {fd : FuncData} (F : FunD K "all_ratios" "all_ratios" (defArgs s_all_ratios) (defBody s_all_ratios) (defScope s_all_ratios) [] [] (He.ga K "all_ratios") fd) : FnG P w (WW K) mg base 6 (He.ga K "all_ratios") fd ["items"] f_all_ratios :=
  fng_of (W := WW K) (N := ["items", "at", "item"]) F sc_all_ratios (fun cdv A outer s H E hr gd =>
    (gs_cons (gs_for own_def rfl (gi_enumB rfl rfl T.n_enumerate (ga_cons (ge_var (pv 0)) ga_nil)) (gg_tup rfl rfl (ggs_cons (gg_name (pg_name (i := 1) sc_all_ratios.nd rfl (by first | exact Or.inl rfl | exact Or.inr rfl))) (ggs_cons (gg_name (pg_name (i := 2) sc_all_ratios.nd rfl (by first | exact Or.inl rfl | exact Or.inr rfl))) ggs_nil))) (gs_one (gs_if (PW.pt (gw_and (gt_not (gt_tr (tru_plain rfl) (ge_callB (cg_isi rfl T.isOk T.isTab) rfl T.n_isinstance (by decide +kernel) (ga_cons (ge_var (pv 2)) (ga_cons (ge_cls (c := 5) rfl T.g_Ratio) ga_nil))))) (gw_and1 (gt_not (gt_tr (tru_plain rfl) (ge_call (cg_b (ok_is_integer T B) rfl (hr.mono (by decide)) gd pass_def) rfl T.g_is_integer T.k_is_integer (ga_cons (ge_var (pv 2)) ga_nil))))))) (gs_one (gs_raise1 (c := 1) rfl T.exi_BadRatio rfl (oke_BadRatio T).choose_spec.1 (oke_BadRatio T).choose_spec.2 (hr.mono (by decide)) rfl T.g_BadRatio rfl tk_def (ga_cons (ge_var (pv 1)) ga_nil))) gs_nil)))
    (gs_one (gs_ret (ge_comp (own := [("item", 2)]) (t := (.one 2)) rfl rfl sc_all_ratios.nd (gi_seq rfl (ge_var (pv 0))) (blkOk_by (own := [("item", 2)]) (N := ["items", "at", "item"]) (sc := defScope s_all_ratios) (by decide +kernel)) rfl (fun _ _ _ _ _ => pg_name (i := 2) sc_all_ratios.nd rfl (Or.inl rfl)) (fun _ _ _ _ _ => pts_none) (fun _ _ _ _ _ => (ge_smeth (c := 5) (cg_b (ok_Ratio_of T B) rfl (hr.mono (by decide)) gd pass_E0) T.sm_Ratio_of (ge_cls (c := 5) rfl T.g_Ratio) (ga_cons (ge_var (pv 2)) ga_nil))))))))
theorem ok_all_ratios (T : Tx K mg) (B : ∀ p ∈ csOf K lams, LamX.TabB base mg p.1 p.2) : FnB P w (WW K) mg base 6 (He.ga K "all_ratios") ["items"] f_all_ratios := by
  obtain ⟨fd, F⟩ := T.d_all_ratios
  exact ⟨⟨fd, fg_all_ratios T B F, F.bindsN fun _ _ _ _ _ _ us hl => match us, hl with | [_], _ => rfl⟩, T.k_all_ratios⟩
theorem sc_added : FnScope ["one", "other"] ["one", "other"] (defScope s_added) := ⟨rfl, rfl, rfl, by decide +kernel, rfl, by decide +kernel, by decide +kernel⟩
noncomputable def b_added : GS' :=
  (gSeq (gIf (gOr (gTr truD (gBin dEq (gUn (dFld ft_bottom) (gVar 0)) (gC (.int 0)))) (gTr truD (gBin dEq (gUn (dFld ft_bottom) (gVar 1)) (gC (.int 0))))) (gSeq (gIf (gOr (gTr truD (gBin dLtI (gUn (dFld ft_top) (gVar 0)) (gC (.int 0)))) (gTr truD (gBin dLtI (gUn (dFld ft_top) (gVar 1)) (gC (.int 0))))) (gRaise0 2) gSkip)
    (gRet (gCall f_Ratio_endless gNil))) gSkip)
    (gRet (gCall (gMake 5 [] f_Ratio___init__) (gCons (gBin dAdd (gBin dMul (gUn (dFld ft_top) (gVar 0)) (gUn (dFld ft_bottom) (gVar 1))) (gBin dMul (gUn (dFld ft_top) (gVar 1)) (gUn (dFld ft_bottom) (gVar 0)))) (gCons (gBin dMul (gUn (dFld ft_bottom) (gVar 0)) (gUn (dFld ft_bottom) (gVar 1))) gNil)))))
noncomputable def f_added : List D → Stor → R D := gFn 2 2 b_added
theorem fg_added (T : Tx K mg) (B : ∀ p ∈ csOf K lams, LamX.TabB base mg p.1 p.2) {fd : FuncData} (F : FunD K "added" "added" (defArgs s_added) (defBody s_added) (defScope s_added) [] [] (He.ga K "added") fd) : FnG P w (WW K) mg base 6 (He.ga K "added") fd ["one", "other"] f_added :=
  fng_of (W := WW K) (N := ["one", "other"]) F sc_added (fun cdv A outer s H E hr gd =>
    (gs_cons (gs_if (PW.pt (gw_or (gt_cmp (tru_plain rfl) (og_eq rfl hr.units) (ge_fld rfl (T.fld_bottom) (ge_var (pv 0))) ge_int (nomark _)) (gw_or1 (gt_cmp (tru_plain rfl) (og_eq rfl hr.units) (ge_fld rfl (T.fld_bottom) (ge_var (pv 1))) ge_int (nomark _))))) (gs_cons (gs_if (PW.pt (gw_or (gt_cmp (tru_plain rfl) og_ltI (ge_fld rfl (T.fld_top) (ge_var (pv 0))) ge_int (nomark _)) (gw_or1 (gt_cmp (tru_plain rfl) og_ltI (ge_fld rfl (T.fld_top) (ge_var (pv 1))) ge_int (nomark _))))) (gs_one (gs_raise0 (c := 2) rfl T.ex0_NoRatio T.g_NoRatio rfl rfl tk_def)) gs_nil)
    (gs_one (gs_ret (ge_smeth0 (c := 5) (cg_b (ok_Ratio_endless T B) rfl (hr.mono (by decide)) gd pass_def) T.sm_Ratio_endless (ge_cls (c := 5) rfl T.g_Ratio))))) gs_nil)
    (gs_one (gs_ret (ge_call (cg_make (c := 5) T.mk_Ratio (okd_Ratio___init___0 T B) rfl (hr.mono (by decide)) gd pass_def) rfl T.g_Ratio T.mk_Ratio.kp (ga_cons (ge_bin (og_add rfl) (ge_bin og_mul (ge_fld rfl (T.fld_top) (ge_var (pv 0))) (ge_fld rfl (T.fld_bottom) (ge_var (pv 1)))) (ge_bin og_mul (ge_fld rfl (T.fld_top) (ge_var (pv 1))) (ge_fld rfl (T.fld_bottom) (ge_var (pv 0))))) (ga_cons (ge_bin og_mul (ge_fld rfl (T.fld_bottom) (ge_var (pv 0))) (ge_fld rfl (T.fld_bottom) (ge_var (pv 1)))) ga_nil)))))))
theorem ok_added (T : Tx K mg) (B : ∀ p ∈ csOf K lams, LamX.TabB base mg p.1 p.2) : FnB P w (WW K) mg base 6 (He.ga K "added") ["one", "other"] f_added := by
  obtain ⟨fd, F⟩ := T.d_added
  exact ⟨⟨fd, fg_added T B F, F.bindsN fun _ _ _ _ _ _ us hl => match us, hl with | [_, _], _ => rfl⟩, T.k_added⟩
theorem sc_Ratio_total : FnScope ["items", "found", "one", "result"] ["items"] (defScope s_Ratio_total) := ⟨rfl, rfl, rfl, by decide +kernel, rfl, by decide +kernel, by decide +kernel⟩
noncomputable def b_Ratio_total : GS' :=
  (gSeq (gSet 1 (gCall f_all_ratios (gCons (gVar 0) gNil)))
    (gSeq (gIf (gAnd (gTr truD (gCall fAny (gCons (gComp (giSeq (gVar 1)) (.one 2) gYes (gBin dEq (gUn (dFld ft_bottom) (gVar 2)) (gC (.int 0)))) gNil))) (gTr truD (gCall fAny (gCons (gComp (giSeq (gVar 1)) (.one 2) gYes (gBin dLtI (gUn (dFld ft_top) (gVar 2)) (gC (.int 0)))) gNil)))) (gRaise0 2) gSkip)
    (gSeq (gSet 3 (gCall (gMake 5 [.int 1] f_Ratio___init__) (gCons (gC (.int 0)) gNil)))
    (gSeq (gFor (giSeq (gVar 1)) (ggName 2) (gSet 3 (gCall f_added (gCons (gVar 3) (gCons (gVar 2) gNil)))))
    (gRet (gVar 3))))))
noncomputable def f_Ratio_total : List D → Stor → R D := gFn 1 4 b_Ratio_total
theorem fg_Ratio_total (T : Tx K mg) (B : ∀ p ∈ csOf K lams, LamX.TabB base mg p.1 p.2) {fd : FuncData} (F : FunD K "total" "Ratio.total" (defArgs s_Ratio_total) (defBody s_Ratio_total) (defScope s_Ratio_total) [] [] (He5.wf K (He.ga K "Ratio") "staticmethod" "total") fd) : FnG P w (WW K) mg base 7 (He5.wf K (He.ga K "Ratio") "staticmethod" "total") fd ["items"] f_Ratio_total :=
  fng_of (W := WW K) (N := ["items", "found", "one", "result"]) F sc_Ratio_total (fun cdv A outer s H E hr gd =>
    (gs_cons (gs_set (i := 1) sc_Ratio_total.nd rfl (by first | exact Or.inl rfl | exact Or.inr rfl) (ge_call (cg_b (ok_all_ratios T B) rfl (hr.mono (by decide)) gd pass_def) rfl T.g_all_ratios T.k_all_ratios (ga_cons (ge_var (pv 0)) ga_nil)))
    (gs_cons (gs_if (PW.pt (gw_and (gt_tr (tru_plain rfl) (ge_callB (cg_any rfl rfl) rfl T.n_any (by decide +kernel) (ga_cons (ge_comp (own := [("one", 2)]) (t := (.one 2)) rfl rfl sc_Ratio_total.nd (gi_seq rfl (ge_var (pv 1))) (blkOk_by (own := [("one", 2)]) (N := ["items", "found", "one", "result"]) (sc := defScope s_Ratio_total) (by decide +kernel)) rfl (fun _ _ _ _ _ => pg_name (i := 2) sc_Ratio_total.nd rfl (Or.inl rfl)) (fun _ _ _ _ _ => pts_none) (fun _ _ _ _ _ => (ge_cmp (og_eq rfl hr.units) (ge_fld rfl (T.fld_bottom) (ge_var (pv 2))) ge_int (nomark _)))) ga_nil))) (gw_and1 (gt_tr (tru_plain rfl) (ge_callB (cg_any rfl rfl) rfl T.n_any (by decide +kernel) (ga_cons (ge_comp (own := [("one", 2)]) (t := (.one 2)) rfl rfl sc_Ratio_total.nd (gi_seq rfl (ge_var (pv 1))) (blkOk_by (own := [("one", 2)]) (N := ["items", "found", "one", "result"]) (sc := defScope s_Ratio_total) (by decide +kernel)) rfl (fun _ _ _ _ _ => pg_name (i := 2) sc_Ratio_total.nd rfl (Or.inl rfl)) (fun _ _ _ _ _ => pts_none) (fun _ _ _ _ _ => (ge_cmp og_ltI (ge_fld rfl (T.fld_top) (ge_var (pv 2))) ge_int (nomark _)))) ga_nil)))))) (gs_one (gs_raise0 (c := 2) rfl T.ex0_NoRatio T.g_NoRatio rfl rfl tk_def)) gs_nil)
    (gs_cons (gs_set (i := 3) sc_Ratio_total.nd rfl (by first | exact Or.inl rfl | exact Or.inr rfl) (ge_call (cg_make (c := 5) T.mk_Ratio (okd_Ratio___init___1 T B) rfl (hr.mono (by decide)) gd pass_def) rfl T.g_Ratio T.mk_Ratio.kp (ga_cons ge_int ga_nil)))
    (gs_cons (gs_for own_def rfl (gi_seq rfl (ge_var (pv 1))) (gg_name (pg_name (i := 2) sc_Ratio_total.nd rfl (by first | exact Or.inl rfl | exact Or.inr rfl))) (gs_one (gs_set (i := 3) sc_Ratio_total.nd rfl (by first | exact Or.inl rfl | exact Or.inr rfl) (ge_call (cg_b (ok_added T B) rfl (hr.mono (by decide)) gd pass_def) rfl T.g_added T.k_added (ga_cons (ge_var (pv 3)) (ga_cons (ge_var (pv 2)) ga_nil))))))
    (gs_one (gs_ret (ge_var (pv 3)))))))))
theorem ok_Ratio_total (T : Tx K mg) (B : ∀ p ∈ csOf K lams, LamX.TabB base mg p.1 p.2) : FnB P w (WW K) mg base 7 (He5.wf K (He.ga K "Ratio") "staticmethod" "total") ["items"] f_Ratio_total := by
  obtain ⟨fd, F⟩ := T.d_Ratio_total
  exact ⟨⟨fd, fg_Ratio_total T B F, F.bindsN fun _ _ _ _ _ _ us hl => match us, hl with | [_], _ => rfl⟩, T.k_Ratio_total⟩
theorem okw_Ratio_total_0_items (T : Tx K mg) (B : ∀ p ∈ csOf K lams, LamX.TabB base mg p.1 p.2) : FnKw P w (WW K) mg base 7 (He5.wf K (He.ga K "Ratio") "staticmethod" "total") ["items"] 0 ["items"] [0] f_Ratio_total := by
  obtain ⟨fd, F⟩ := T.d_Ratio_total
  refine ⟨⟨fd, fg_Ratio_total T B F, ?_⟩, T.k_Ratio_total⟩
  obtain ⟨oc, od, dV, kV, doc, pm, an, cdv, ct, osl, rfl, lk, _, hD, _⟩ := F.ex
  rcases hD with ⟨_, rfl⟩ | ⟨hD, _⟩
  · exact fun s us ws _ l1 l2 => match us, ws, l1, l2 with | [], [b0], _, _ => fun M A _ _ z => wpAny_of_eq rfl z
  · exact absurd rfl hD
theorem sc_is_less : FnScope ["one", "other"] ["one", "other"] (defScope s_is_less) := ⟨rfl, rfl, rfl, by decide +kernel, rfl, by decide +kernel, by decide +kernel⟩
noncomputable def b_is_less : GS' :=
  (gSeq (gIf (gTr truD (gBin dEq (gUn (dFld ft_bottom) (gVar 0)) (gC (.int 0)))) (gRet (gC (.bl false))) gSkip)
    (gRet (gOrV truD (gBin dEq (gUn (dFld ft_bottom) (gVar 1)) (gC (.int 0))) (gBin dLtI (gBin dMul (gUn (dFld ft_top) (gVar 0)) (gUn (dFld ft_bottom) (gVar 1))) (gBin dMul (gUn (dFld ft_top) (gVar 1)) (gUn (dFld ft_bottom) (gVar 0)))))))
noncomputable def f_is_less : List D → Stor → R D := gFn 2 2 b_is_less
theorem fg_is_less (T : Tx K mg) (B : ∀ p ∈ csOf K lams, LamX.TabB base mg p.1 p.2) {fd : FuncData} (F : FunD K "is_less" "is_less" (defArgs s_is_less) (defBody s_is_less) (defScope s_is_less) [] [] (He.ga K "is_less") fd) : FnG P w (WW K) mg base 1 (He.ga K "is_less") fd ["one", "other"] f_is_less :=
  fng_of (W := WW K) (N := ["one", "other"]) F sc_is_less (fun cdv A outer s H E hr gd =>
    (gs_cons (gs_if (gt_cmp (tru_plain rfl) (og_eq rfl hr.units) (ge_fld rfl (T.fld_bottom) (ge_var (pv 0))) ge_int (nomark _)) (gs_one (gs_ret ge_bl)) gs_nil)
    (gs_one (gs_ret (ge_or (tru_plain rfl) (ge_cmp (og_eq rfl hr.units) (ge_fld rfl (T.fld_bottom) (ge_var (pv 1))) ge_int (nomark _)) (ge_one (ge_cmp og_ltI (ge_bin og_mul (ge_fld rfl (T.fld_top) (ge_var (pv 0))) (ge_fld rfl (T.fld_bottom) (ge_var (pv 1)))) (ge_bin og_mul (ge_fld rfl (T.fld_top) (ge_var (pv 1))) (ge_fld rfl (T.fld_bottom) (ge_var (pv 0)))) (nomark _))))))))
theorem ok_is_less (T : Tx K mg) (B : ∀ p ∈ csOf K lams, LamX.TabB base mg p.1 p.2) : FnB P w (WW K) mg base 1 (He.ga K "is_less") ["one", "other"] f_is_less := by
  obtain ⟨fd, F⟩ := T.d_is_less
  exact ⟨⟨fd, fg_is_less T B F, F.bindsN fun _ _ _ _ _ _ us hl => match us, hl with | [_, _], _ => rfl⟩, T.k_is_less⟩
theorem sc_Ratio_greatest : FnScope ["items", "found", "result", "one"] ["items"] (defScope s_Ratio_greatest) := ⟨rfl, rfl, rfl, by decide +kernel, rfl, by decide +kernel, by decide +kernel⟩
noncomputable def b_Ratio_greatest : GS' :=
  (gSeq (gSet 1 (gCall f_all_ratios (gCons (gVar 0) gNil)))
    (gSeq (gIf (gTr truD (gBin (fun x y M => orR (dEq x y M) (dEqLen x y M)) (gVar 1) (gLst gNil))) (gRet (gCall (gMake 5 [.int 1] f_Ratio___init__) (gCons (gC (.int 0)) gNil))) gSkip)
    (gSeq (gSet 2 (gBin dIx (gVar 1) (gC (.int 0))))
    (gSeq (gFor (giSeq (gVar 1)) (ggName 3) (gIf (gTr truD (gCall f_is_less (gCons (gVar 2) (gCons (gVar 3) gNil)))) (gSet 2 (gVar 3)) gSkip))
    (gRet (gVar 2))))))
noncomputable def f_Ratio_greatest : List D → Stor → R D := gFn 1 4 b_Ratio_greatest
theorem fg_Ratio_greatest (T : Tx K mg) (B : ∀ p ∈ csOf K lams, LamX.TabB base mg p.1 p.2) {fd : FuncData} (F : FunD K "greatest" "Ratio.greatest" (defArgs s_Ratio_greatest) (defBody s_Ratio_greatest) (defScope s_Ratio_greatest) [] [] (He5.wf K (He.ga K "Ratio") "staticmethod" "greatest") fd) : FnG P w (WW K) mg base 7 (He5.wf K (He.ga K "Ratio") "staticmethod" "greatest") fd ["items"] f_Ratio_greatest :=
  fng_of (W := WW K) (N := ["items", "found", "result", "one"]) F sc_Ratio_greatest (fun cdv A outer s H E hr gd =>
    (gs_cons (gs_set (i := 1) sc_Ratio_greatest.nd rfl (by first | exact Or.inl rfl | exact Or.inr rfl) (ge_call (cg_b (ok_all_ratios T B) rfl (hr.mono (by decide)) gd pass_def) rfl T.g_all_ratios T.k_all_ratios (ga_cons (ge_var (pv 0)) ga_nil)))
    (gs_cons (gs_if (gt_cmp (tru_plain rfl) ((og_eq rfl hr.units).or (og_eqLen rfl hr.units0)) (ge_var (pv 1)) (ge_lst ga_nil) (nomark _)) (gs_one (gs_ret (ge_call (cg_make (c := 5) T.mk_Ratio (okd_Ratio___init___1 T B) rfl (hr.mono (by decide)) gd pass_def) rfl T.g_Ratio T.mk_Ratio.kp (ga_cons ge_int ga_nil)))) gs_nil)
    (gs_cons (gs_set (i := 2) sc_Ratio_greatest.nd rfl (by first | exact Or.inl rfl | exact Or.inr rfl) (ge_ix rfl (ge_var (pv 1)) ge_int (fun _ _ => rfl)))
    (gs_cons (gs_for own_def rfl (gi_seq rfl (ge_var (pv 1))) (gg_name (pg_name (i := 3) sc_Ratio_greatest.nd rfl (by first | exact Or.inl rfl | exact Or.inr rfl))) (gs_one (gs_if (gt_tr (tru_plain rfl) (ge_call (cg_b (ok_is_less T B) rfl (hr.mono (by decide)) gd pass_def) rfl T.g_is_less T.k_is_less (ga_cons (ge_var (pv 2)) (ga_cons (ge_var (pv 3)) ga_nil)))) (gs_one (gs_set (i := 2) sc_Ratio_greatest.nd rfl (by first | exact Or.inl rfl | exact Or.inr rfl) (ge_var (pv 3)))) gs_nil)))
    (gs_one (gs_ret (ge_var (pv 2)))))))))
theorem ok_Ratio_greatest (T : Tx K mg) (B : ∀ p ∈ csOf K lams, LamX.TabB base mg p.1 p.2) : FnB P w (WW K) mg base 7 (He5.wf K (He.ga K "Ratio") "staticmethod" "greatest") ["items"] f_Ratio_greatest := by
  obtain ⟨fd, F⟩ := T.d_Ratio_greatest
  exact ⟨⟨fd, fg_Ratio_greatest T B F, F.bindsN fun _ _ _ _ _ _ us hl => match us, hl with | [_], _ => rfl⟩, T.k_Ratio_greatest⟩
theorem okw_Ratio_greatest_0_items (T : Tx K mg) (B : ∀ p ∈ csOf K lams, LamX.TabB base mg p.1 p.2) : FnKw P w (WW K) mg base 7 (He5.wf K (He.ga K "Ratio") "staticmethod" "greatest") ["items"] 0 ["items"] [0] f_Ratio_greatest := by
  obtain ⟨fd, F⟩ := T.d_Ratio_greatest
  refine ⟨⟨fd, fg_Ratio_greatest T B F, ?_⟩, T.k_Ratio_greatest⟩
  obtain ⟨oc, od, dV, kV, doc, pm, an, cdv, ct, osl, rfl, lk, _, hD, _⟩ := F.ex
  rcases hD with ⟨_, rfl⟩ | ⟨hD, _⟩
  · exact fun s us ws _ l1 l2 => match us, ws, l1, l2 with | [], [b0], _, _ => fun M A _ _ z => wpAny_of_eq rfl z
  · exact absurd rfl hD
theorem sc_Ratio_least : FnScope ["items", "result", "one"] ["items"] (defScope s_Ratio_least) := ⟨rfl, rfl, rfl, by decide +kernel, rfl, by decide +kernel, by decide +kernel⟩
noncomputable def b_Ratio_least : GS' :=
  (gSeq (gSet 1 (gCall f_Ratio_endless gNil))
    (gSeq (gFor (giSeq (gCall f_all_ratios (gCons (gVar 0) gNil))) (ggName 2) (gIf (gTr truD (gCall f_is_less (gCons (gVar 2) (gCons (gVar 1) gNil)))) (gSet 1 (gVar 2)) gSkip))
    (gRet (gVar 1))))
noncomputable def f_Ratio_least : List D → Stor → R D := gFn 1 3 b_Ratio_least
theorem fg_Ratio_least (T : Tx K mg) (B : ∀ p ∈ csOf K lams, LamX.TabB base mg p.1 p.2) {fd : FuncData} (F : FunD K "least" "Ratio.least" (defArgs s_Ratio_least) (defBody s_Ratio_least) (defScope s_Ratio_least) [] [] (He5.wf K (He.ga K "Ratio") "staticmethod" "least") fd) : FnG P w (WW K) mg base 7 (He5.wf K (He.ga K "Ratio") "staticmethod" "least") fd ["items"] f_Ratio_least :=
  fng_of (W := WW K) (N := ["items", "result", "one"]) F sc_Ratio_least (fun cdv A outer s H E hr gd =>
    (gs_cons (gs_set (i := 1) sc_Ratio_least.nd rfl (by first | exact Or.inl rfl | exact Or.inr rfl) (ge_smeth0 (c := 5) (cg_b (ok_Ratio_endless T B) rfl (hr.mono (by decide)) gd pass_def) T.sm_Ratio_endless (ge_cls (c := 5) rfl T.g_Ratio)))
    (gs_cons (gs_for own_def rfl (gi_seq rfl (ge_call (cg_b (ok_all_ratios T B) rfl (hr.mono (by decide)) gd pass_def) rfl T.g_all_ratios T.k_all_ratios (ga_cons (ge_var (pv 0)) ga_nil))) (gg_name (pg_name (i := 2) sc_Ratio_least.nd rfl (by first | exact Or.inl rfl | exact Or.inr rfl))) (gs_one (gs_if (gt_tr (tru_plain rfl) (ge_call (cg_b (ok_is_less T B) rfl (hr.mono (by decide)) gd pass_def) rfl T.g_is_less T.k_is_less (ga_cons (ge_var (pv 2)) (ga_cons (ge_var (pv 1)) ga_nil)))) (gs_one (gs_set (i := 1) sc_Ratio_least.nd rfl (by first | exact Or.inl rfl | exact Or.inr rfl) (ge_var (pv 2)))) gs_nil)))
    (gs_one (gs_ret (ge_var (pv 1)))))))
theorem ok_Ratio_least (T : Tx K mg) (B : ∀ p ∈ csOf K lams, LamX.TabB base mg p.1 p.2) : FnB P w (WW K) mg base 7 (He5.wf K (He.ga K "Ratio") "staticmethod" "least") ["items"] f_Ratio_least := by
  obtain ⟨fd, F⟩ := T.d_Ratio_least
  exact ⟨⟨fd, fg_Ratio_least T B F, F.bindsN fun _ _ _ _ _ _ us hl => match us, hl with | [_], _ => rfl⟩, T.k_Ratio_least⟩
theorem okw_Ratio_least_0_items (T : Tx K mg) (B : ∀ p ∈ csOf K lams, LamX.TabB base mg p.1 p.2) : FnKw P w (WW K) mg base 7 (He5.wf K (He.ga K "Ratio") "staticmethod" "least") ["items"] 0 ["items"] [0] f_Ratio_least := by
  obtain ⟨fd, F⟩ := T.d_Ratio_least
  refine ⟨⟨fd, fg_Ratio_least T B F, ?_⟩, T.k_Ratio_least⟩
  obtain ⟨oc, od, dV, kV, doc, pm, an, cdv, ct, osl, rfl, lk, _, hD, _⟩ := F.ex
  rcases hD with ⟨_, rfl⟩ | ⟨hD, _⟩
  · exact fun s us ws _ l1 l2 => match us, ws, l1, l2 with | [], [b0], _, _ => fun M A _ _ z => wpAny_of_eq rfl z
  · exact absurd rfl hD
theorem sc__law_told : FnScope ["_law_heard_here", "_law_found"] ["_law_heard_here"] (defScope s__law_told) := ⟨rfl, rfl, rfl, by decide +kernel, rfl, by decide +kernel, by decide +kernel⟩
noncomputable def b__law_told : GS' :=
  (gSeq (gIf (gNot (gTr truD (gCall (fIsi isOk isTab) (gCons (gVar 0) (gCons (gC (.ty "list")) gNil))))) (gRet (gVar 0)) gSkip)
    (gSeq (gSet 1 (gBin dIx (gVar 0) (gC (.int 0))))
    (gRet (gIfE (gTr truD (gCall (fIsi isOk isTab) (gCons (gVar 1) (gCons (gC (.cls 5)) gNil)))) (gTup (gCons (gUn (dFld ft_top) (gVar 1)) (gCons (gUn (dFld ft_bottom) (gVar 1)) gNil))) (gTup (gCons (gC (.str "odd")) (gCons (gCall fRepr (gCons (gVar 1) gNil)) gNil)))))))
noncomputable def f__law_told : List D → Stor → R D := gFn 1 2 b__law_told
theorem fg__law_told (T : Tx K mg) (B : ∀ p ∈ csOf K lams, LamX.TabB base mg p.1 p.2) {fd : FuncData} (F : FunD K "_law_told" "_law_told" (defArgs s__law_told) (defBody s__law_told) (defScope s__law_told) [] [] (He.ga K "_law_told") fd) : FnG P w (WW K) mg base 1 (He.ga K "_law_told") fd ["_law_heard_here"] f__law_told :=
  fng_of (W := WW K) (N := ["_law_heard_here", "_law_found"]) F sc__law_told (fun cdv A outer s H E hr gd =>
    (gs_cons (gs_if (gt_not (gt_tr (tru_plain rfl) (ge_callB (cg_isi rfl T.isOk T.isTab) rfl T.n_isinstance (by decide +kernel) (ga_cons (ge_var (pv 0)) (ga_cons (ge_ty rfl T.n_list (by decide +kernel)) ga_nil))))) (gs_one (gs_ret (ge_var (pv 0)))) gs_nil)
    (gs_cons (gs_set (i := 1) sc__law_told.nd rfl (by first | exact Or.inl rfl | exact Or.inr rfl) (ge_ix rfl (ge_var (pv 0)) ge_int (fun _ _ => rfl)))
    (gs_one (gs_ret (ge_ifExp (gt_tr (tru_plain rfl) (ge_callB (cg_isi rfl T.isOk T.isTab) rfl T.n_isinstance (by decide +kernel) (ga_cons (ge_var (pv 1)) (ga_cons (ge_cls (c := 5) rfl T.g_Ratio) ga_nil)))) (ge_tup (ga_cons (ge_fld rfl (T.fld_top) (ge_var (pv 1))) (ga_cons (ge_fld rfl (T.fld_bottom) (ge_var (pv 1))) ga_nil))) (ge_tup (ga_cons ge_str (ga_cons (ge_callB (cg_repr rfl gd hr.units) rfl T.n_repr (by decide +kernel) (ga_cons (ge_var (pv 1)) ga_nil)) ga_nil)))))))))
theorem ok__law_told (T : Tx K mg) (B : ∀ p ∈ csOf K lams, LamX.TabB base mg p.1 p.2) : FnB P w (WW K) mg base 1 (He.ga K "_law_told") ["_law_heard_here"] f__law_told := by
  obtain ⟨fd, F⟩ := T.d__law_told
  exact ⟨⟨fd, fg__law_told T B F, F.bindsN fun _ _ _ _ _ _ us hl => match us, hl with | [_], _ => rfl⟩, T.k__law_told⟩
theorem sc__law_asked : FnScope ["_law_some", "_law_found", "_law_heard_here"] ["_law_some"] (defScope s__law_asked) := ⟨rfl, rfl, rfl, by decide +kernel, rfl, by decide +kernel, by decide +kernel⟩
noncomputable def b__law_asked : GS' :=
  (gSeq (gSet 1 (gLstM (gCons (gLam 5 (b__law_heard) (gCall f_Ratio_total (gCons (gVar 0) gNil))) gNil)))
    (gSeq (gExpr (gMtL mAppend (gVar 1) (gCons (gLam 5 (b__law_heard) (gCall f_Ratio_greatest (gCons (gVar 0) gNil))) gNil)))
    (gSeq (gExpr (gMtL mAppend (gVar 1) (gCons (gLam 5 (b__law_heard) (gCall f_Ratio_least (gCons (gVar 0) gNil))) gNil)))
    (gSeq (gExpr (gMtL mAppend (gVar 1) (gCons (gLam 5 (b__law_heard) (gCallK 1 (fun l M => f_Ratio_total (pmI [0] l) M) (gCons (gVar 0) gNil))) gNil)))
    (gSeq (gExpr (gMtL mAppend (gVar 1) (gCons (gLam 5 (b__law_heard) (gCallK 1 (fun l M => f_Ratio_greatest (pmI [0] l) M) (gCons (gVar 0) gNil))) gNil)))
    (gSeq (gExpr (gMtL mAppend (gVar 1) (gCons (gLam 5 (b__law_heard) (gCallK 1 (fun l M => f_Ratio_least (pmI [0] l) M) (gCons (gVar 0) gNil))) gNil)))
    (gRet (gComp (giSeq (gVar 1)) (.one 2) gYes (gCall f__law_told (gCons (gVar 2) gNil))))))))))
noncomputable def f__law_asked : List D → Stor → R D := fun ds M => frz M (gFn 1 3 b__law_asked ds M)
theorem fg__law_asked (T : Tx K mg) (B : ∀ p ∈ csOf K lams, LamX.TabB base mg p.1 p.2) {fd : FuncData} (F : FunD K "_law_asked" "_law_asked" (defArgs s__law_asked) (defBody s__law_asked) (defScope s__law_asked) [] [] (He.ga K "_law_asked") fd) : FnG P w (WW K) mg base 10 (He.ga K "_law_asked") fd ["_law_some"] f__law_asked :=
  FnG.frz (fng_ofC (W := WW K) (N := ["_law_some", "_law_found", "_law_heard_here"]) F sc__law_asked (fun cdv hcd A outer s H E hr gd =>
    (gs_cons (gs_set (i := 1) sc__law_asked.nd rfl (by first | exact Or.inl rfl | exact Or.inr rfl) (ge_lstM (ga_cons (ge_lam (k := 7) (a := "_law_ask") (Ng := ["_law_ask", "_law_caught", "_law_found", "error", "_law_kinds"]) rfl rfl T.g__law_heard T.k__law_heard T.d__law_heard.choose_spec (T.d__law_heard.choose_spec.bindsN fun _ _ _ _ _ _ us hl => match us, hl with | [_], _ => rfl) sc__law_heard rfl (Or.inl rfl) (ld__law_heard T B) (tb_at B (x := "_law_asked") (by decide +kernel)) (Option.some.inj (hcd.symm.trans T.tab__law_asked.cd)) (tb_mem (by decide +kernel)) (tb_uniq T.apart (by decide +kernel)) (hr.mono (by decide)) gd (LamX.lamS_by (by show LamX.lamSB (defScope s__law_asked) _ = true; decide +kernel)) pass_def rfl (fun _ _ _ _ _ => rfl) (fun A outer s H E f c hr gd => (ge_smeth (c := 5) (cg_b (ok_Ratio_total T B) rfl (hr.mono (by decide)) gd pass_lam) T.sm_Ratio_total (ge_cls (c := 5) rfl T.g_Ratio) (ga_cons (ge_var (pv 0)) ga_nil)))) ga_nil)))
    (gs_cons (gs_expr (ge_mtL rfl PySem.F.slot_list_append PySem.F.type_list_append mg_append (ge_var (pv 1)) (ga_cons (ge_lam (k := 7) (a := "_law_ask") (Ng := ["_law_ask", "_law_caught", "_law_found", "error", "_law_kinds"]) rfl rfl T.g__law_heard T.k__law_heard T.d__law_heard.choose_spec (T.d__law_heard.choose_spec.bindsN fun _ _ _ _ _ _ us hl => match us, hl with | [_], _ => rfl) sc__law_heard rfl (Or.inl rfl) (ld__law_heard T B) (tb_at B (x := "_law_asked") (by decide +kernel)) (Option.some.inj (hcd.symm.trans T.tab__law_asked.cd)) (tb_mem (by decide +kernel)) (tb_uniq T.apart (by decide +kernel)) (hr.mono (by decide)) gd (LamX.lamS_by (by show LamX.lamSB (defScope s__law_asked) _ = true; decide +kernel)) pass_def rfl (fun _ _ _ _ _ => rfl) (fun A outer s H E f c hr gd => (ge_smeth (c := 5) (cg_b (ok_Ratio_greatest T B) rfl (hr.mono (by decide)) gd pass_lam) T.sm_Ratio_greatest (ge_cls (c := 5) rfl T.g_Ratio) (ga_cons (ge_var (pv 0)) ga_nil)))) ga_nil)))
    (gs_cons (gs_expr (ge_mtL rfl PySem.F.slot_list_append PySem.F.type_list_append mg_append (ge_var (pv 1)) (ga_cons (ge_lam (k := 7) (a := "_law_ask") (Ng := ["_law_ask", "_law_caught", "_law_found", "error", "_law_kinds"]) rfl rfl T.g__law_heard T.k__law_heard T.d__law_heard.choose_spec (T.d__law_heard.choose_spec.bindsN fun _ _ _ _ _ _ us hl => match us, hl with | [_], _ => rfl) sc__law_heard rfl (Or.inl rfl) (ld__law_heard T B) (tb_at B (x := "_law_asked") (by decide +kernel)) (Option.some.inj (hcd.symm.trans T.tab__law_asked.cd)) (tb_mem (by decide +kernel)) (tb_uniq T.apart (by decide +kernel)) (hr.mono (by decide)) gd (LamX.lamS_by (by show LamX.lamSB (defScope s__law_asked) _ = true; decide +kernel)) pass_def rfl (fun _ _ _ _ _ => rfl) (fun A outer s H E f c hr gd => (ge_smeth (c := 5) (cg_b (ok_Ratio_least T B) rfl (hr.mono (by decide)) gd pass_lam) T.sm_Ratio_least (ge_cls (c := 5) rfl T.g_Ratio) (ga_cons (ge_var (pv 0)) ga_nil)))) ga_nil)))
    (gs_cons (gs_expr (ge_mtL rfl PySem.F.slot_list_append PySem.F.type_list_append mg_append (ge_var (pv 1)) (ga_cons (ge_lam (k := 7) (a := "_law_ask") (Ng := ["_law_ask", "_law_caught", "_law_found", "error", "_law_kinds"]) rfl rfl T.g__law_heard T.k__law_heard T.d__law_heard.choose_spec (T.d__law_heard.choose_spec.bindsN fun _ _ _ _ _ _ us hl => match us, hl with | [_], _ => rfl) sc__law_heard rfl (Or.inl rfl) (ld__law_heard T B) (tb_at B (x := "_law_asked") (by decide +kernel)) (Option.some.inj (hcd.symm.trans T.tab__law_asked.cd)) (tb_mem (by decide +kernel)) (tb_uniq T.apart (by decide +kernel)) (hr.mono (by decide)) gd (LamX.lamS_by (by show LamX.lamSB (defScope s__law_asked) _ = true; decide +kernel)) pass_def rfl (fun _ _ _ _ _ => rfl) (fun A outer s H E f c hr gd => (ge_smethK (c := 5) (cg_kw (okw_Ratio_total_0_items T B) rfl (hr.mono (by decide)) gd pass_lam) T.sm_Ratio_total (ge_cls (c := 5) rfl T.g_Ratio) (gk_cons (ge_var (pv 0)) gk_nil)))) ga_nil)))
    (gs_cons (gs_expr (ge_mtL rfl PySem.F.slot_list_append PySem.F.type_list_append mg_append (ge_var (pv 1)) (ga_cons (ge_lam (k := 7) (a := "_law_ask") (Ng := ["_law_ask", "_law_caught", "_law_found", "error", "_law_kinds"]) rfl rfl T.g__law_heard T.k__law_heard T.d__law_heard.choose_spec (T.d__law_heard.choose_spec.bindsN fun _ _ _ _ _ _ us hl => match us, hl with | [_], _ => rfl) sc__law_heard rfl (Or.inl rfl) (ld__law_heard T B) (tb_at B (x := "_law_asked") (by decide +kernel)) (Option.some.inj (hcd.symm.trans T.tab__law_asked.cd)) (tb_mem (by decide +kernel)) (tb_uniq T.apart (by decide +kernel)) (hr.mono (by decide)) gd (LamX.lamS_by (by show LamX.lamSB (defScope s__law_asked) _ = true; decide +kernel)) pass_def rfl (fun _ _ _ _ _ => rfl) (fun A outer s H E f c hr gd => (ge_smethK (c := 5) (cg_kw (okw_Ratio_greatest_0_items T B) rfl (hr.mono (by decide)) gd pass_lam) T.sm_Ratio_greatest (ge_cls (c := 5) rfl T.g_Ratio) (gk_cons (ge_var (pv 0)) gk_nil)))) ga_nil)))
    (gs_cons (gs_expr (ge_mtL rfl PySem.F.slot_list_append PySem.F.type_list_append mg_append (ge_var (pv 1)) (ga_cons (ge_lam (k := 7) (a := "_law_ask") (Ng := ["_law_ask", "_law_caught", "_law_found", "error", "_law_kinds"]) rfl rfl T.g__law_heard T.k__law_heard T.d__law_heard.choose_spec (T.d__law_heard.choose_spec.bindsN fun _ _ _ _ _ _ us hl => match us, hl with | [_], _ => rfl) sc__law_heard rfl (Or.inl rfl) (ld__law_heard T B) (tb_at B (x := "_law_asked") (by decide +kernel)) (Option.some.inj (hcd.symm.trans T.tab__law_asked.cd)) (tb_mem (by decide +kernel)) (tb_uniq T.apart (by decide +kernel)) (hr.mono (by decide)) gd (LamX.lamS_by (by show LamX.lamSB (defScope s__law_asked) _ = true; decide +kernel)) pass_def rfl (fun _ _ _ _ _ => rfl) (fun A outer s H E f c hr gd => (ge_smethK (c := 5) (cg_kw (okw_Ratio_least_0_items T B) rfl (hr.mono (by decide)) gd pass_lam) T.sm_Ratio_least (ge_cls (c := 5) rfl T.g_Ratio) (gk_cons (ge_var (pv 0)) gk_nil)))) ga_nil)))
    (gs_one (gs_ret (ge_comp (own := [("_law_heard_here", 2)]) (t := (.one 2)) rfl rfl sc__law_asked.nd (gi_seq rfl (ge_var (pv 1))) (blkOk_by (own := [("_law_heard_here", 2)]) (N := ["_law_some", "_law_found", "_law_heard_here"]) (sc := defScope s__law_asked) (by decide +kernel)) rfl (fun _ _ _ _ _ => pg_name (i := 2) sc__law_asked.nd rfl (Or.inl rfl)) (fun _ _ _ _ _ => pts_none) (fun _ _ _ _ _ => (ge_call (cg_b (ok__law_told T B) rfl (hr.mono (by decide)) gd pass_E0) rfl T.g__law_told T.k__law_told (ga_cons (ge_var (pv 2)) ga_nil))))))))))))))
theorem ok__law_asked (T : Tx K mg) (B : ∀ p ∈ csOf K lams, LamX.TabB base mg p.1 p.2) : FnB P w (WW K) mg base 10 (He.ga K "_law_asked") ["_law_some"] f__law_asked := by
  obtain ⟨fd, F⟩ := T.d__law_asked
  exact ⟨⟨fd, fg__law_asked T B F, F.bindsN fun _ _ _ _ _ _ us hl => match us, hl with | [_], _ => rfl⟩, T.k__law_asked⟩
theorem sc__law_right : FnScope ["_law_pairs", "_law_some", "_law_due", "_law_kept"] ["_law_pairs", "_law_some"] (defScope s__law_right) := ⟨rfl, rfl, rfl, by decide +kernel, rfl, by decide +kernel, by decide +kernel⟩
noncomputable def b__law_right : GS' :=
  (gSeq (gSet 2 (gBin dMul (gLst (gCons (gCall f__law_total (gCons (gVar 0) gNil)) (gCons (gCall f__law_farthest (gCons (gVar 0) (gCons (gC (.bl true)) gNil))) (gCons (gCall f__law_farthest (gCons (gVar 0) (gCons (gC (.bl false)) gNil))) gNil)))) (gC (.int 2))))
    (gSeq (gSet 3 (gCall (fun ds M => orR (fRepr ds M) (fReprO 5 f_Ratio___repr__ ds M)) (gCons (gVar 1) gNil)))
    (gRet (gAndV truD (gBin dEq (gCall f__law_asked (gCons (gVar 1) gNil)) (gVar 2)) (gAndV truD (gBin dEq (gCall f__law_asked (gCons (gCall fTuple (gCons (gVar 1) gNil)) gNil)) (gVar 2)) (gBin dEq (gCall (fun ds M => orR (fRepr ds M) (fReprO 5 f_Ratio___repr__ ds M)) (gCons (gVar 1) gNil)) (gVar 3)))))))
noncomputable def f__law_right : List D → Stor → R D := gFn 2 4 b__law_right
theorem fg__law_right (T : Tx K mg) (B : ∀ p ∈ csOf K lams, LamX.TabB base mg p.1 p.2) {fd : FuncData} (F : FunD K "_law_right" "_law_right" (defArgs s__law_right) (defBody s__law_right) (defScope s__law_right) [] [] (He.ga K "_law_right") fd) : FnG P w (WW K) mg base 11 (He.ga K "_law_right") fd ["_law_pairs", "_law_some"] f__law_right :=
  fng_of (W := WW K) (N := ["_law_pairs", "_law_some", "_law_due", "_law_kept"]) F sc__law_right (fun cdv A outer s H E hr gd =>
    (gs_cons (gs_set (i := 2) sc__law_right.nd rfl (by first | exact Or.inl rfl | exact Or.inr rfl) (ge_bin og_mul (ge_lst (ga_cons (ge_call (cg_b (ok__law_total T B) rfl (hr.mono (by decide)) gd pass_def) rfl T.g__law_total T.k__law_total (ga_cons (ge_var (pv 0)) ga_nil)) (ga_cons (ge_call (cg_b (ok__law_farthest T B) rfl (hr.mono (by decide)) gd pass_def) rfl T.g__law_farthest T.k__law_farthest (ga_cons (ge_var (pv 0)) (ga_cons ge_bl ga_nil))) (ga_cons (ge_call (cg_b (ok__law_farthest T B) rfl (hr.mono (by decide)) gd pass_def) rfl T.g__law_farthest T.k__law_farthest (ga_cons (ge_var (pv 0)) (ga_cons ge_bl ga_nil))) ga_nil)))) ge_int))
    (gs_cons (gs_set (i := 3) sc__law_right.nd rfl (by first | exact Or.inl rfl | exact Or.inr rfl) (ge_callB ((cg_repr rfl gd hr.units).or (cg_reprL (c := 5) (okN_Ratio___repr__ T B) rfl (hr.mono (by decide)) gd T.me_Ratio___repr__.at_ T.me_Ratio___repr__.fn)) rfl T.n_repr (by decide +kernel) (ga_cons (ge_var (pv 1)) ga_nil)))
    (gs_one (gs_ret (ge_and (tru_plain rfl) (ge_cmp (og_eq rfl hr.units) (ge_call (cg_b (ok__law_asked T B) rfl (hr.mono (by decide)) gd pass_def) rfl T.g__law_asked T.k__law_asked (ga_cons (ge_var (pv 1)) ga_nil)) (ge_var (pv 2)) (nomark _)) (ge_and (tru_plain rfl) (ge_cmp (og_eq rfl hr.units) (ge_call (cg_b (ok__law_asked T B) rfl (hr.mono (by decide)) gd pass_def) rfl T.g__law_asked T.k__law_asked (ga_cons (ge_callTy (cg_tuple rfl) rfl T.n_tuple (by decide +kernel) (ga_cons (ge_var (pv 1)) ga_nil)) ga_nil)) (ge_var (pv 2)) (nomark _)) (ge_one (ge_cmp (og_eq rfl hr.units) (ge_callB ((cg_repr rfl gd hr.units).or (cg_reprL (c := 5) (okN_Ratio___repr__ T B) rfl (hr.mono (by decide)) gd T.me_Ratio___repr__.at_ T.me_Ratio___repr__.fn)) rfl T.n_repr (by decide +kernel) (ga_cons (ge_var (pv 1)) ga_nil)) (ge_var (pv 3)) (nomark _))))))))))
theorem ok__law_right (T : Tx K mg) (B : ∀ p ∈ csOf K lams, LamX.TabB base mg p.1 p.2) : FnB P w (WW K) mg base 11 (He.ga K "_law_right") ["_law_pairs", "_law_some"] f__law_right := by
  obtain ⟨fd, F⟩ := T.d__law_right
  exact ⟨⟨fd, fg__law_right T B F, F.bindsN fun _ _ _ _ _ _ us hl => match us, hl with | [_, _], _ => rfl⟩, T.k__law_right⟩
theorem sc__law_bent_right : FnScope ["_law_pen_here", "_law_some", "_law_bent", "_law_at", "_law_odd"] ["_law_pen_here", "_law_some"] (defScope s__law_bent_right) := ⟨rfl, rfl, rfl, by decide +kernel, rfl, by decide +kernel, by decide +kernel⟩
noncomputable def b__law_bent_right : GS' :=
  (gSeq (gPar2 2 3 (gCons (gCall fListM (gCons (gVar 1) gNil)) (gCons (gCall f__law_draw (gCons (gVar 0) (gCons (gBin dAdd (gCall fLen (gCons (gVar 1) gNil)) (gC (.int 1))) gNil))) gNil)))
    (gSeq (gSet 4 (gCall f__law_pick (gCons (gVar 0) (gCons (gLst (gCons (gC .non) (gCons (gC (.bl true)) (gCons (gC (.str "1")) (gCons (gC (.str "endless")) (gCons (gLst (gCons (gC (.int 1)) gNil)) (gCons (gTup (gCons (gC (.int 1)) (gCons (gC (.int 2)) gNil))) (gCons (gC (.dct [] [])) (gCons (gC (.str "")) (gCons (gC (.bl false)) gNil)))))))))) gNil))))
    (gSeq (gExpr (gMtL mInsert (gVar 2) (gCons (gVar 3) (gCons (gVar 4) gNil))))
    (gSeq (gSet 2 (gBin dAdd (gVar 2) (gBin dMul (gLst (gCons (gC .non) gNil)) (gCall f__law_draw (gCons (gVar 0) (gCons (gC (.int 2)) gNil))))))
    (gRet (gAndV truD (gBin dEq (gCall f__law_asked (gCons (gVar 2) gNil)) (gBin dMul (gLst (gCons (gTup (gCons (gC (.str "ratio")) (gCons (gVar 3) gNil))) gNil)) (gC (.int 6)))) (gBin dEq (gCall f__law_asked (gCons (gCall fTuple (gCons (gVar 2) gNil)) gNil)) (gBin dMul (gLst (gCons (gTup (gCons (gC (.str "ratio")) (gCons (gVar 3) gNil))) gNil)) (gC (.int 6))))))))))
noncomputable def f__law_bent_right : List D → Stor → R D := fun ds M => frz M (gFn 2 5 b__law_bent_right ds M)
theorem fg__law_bent_right (T : Tx K mg) (B : ∀ p ∈ csOf K lams, LamX.TabB base mg p.1 p.2) {fd : FuncData} (F : FunD K "_law_bent_right" "_law_bent_right" (defArgs s__law_bent_right) (defBody s__law_bent_right) (defScope s__law_bent_right) [] [] (He.ga K "_law_bent_right") fd) : FnG P w (WW K) mg base 11 (He.ga K "_law_bent_right") fd ["_law_pen_here", "_law_some"] f__law_bent_right :=
  FnG.frz (fng_of (W := WW K) (N := ["_law_pen_here", "_law_some", "_law_bent", "_law_at", "_law_odd"]) F sc__law_bent_right (fun cdv A outer s H E hr gd =>
    (gs_cons (gs_par2 (i := 2) (j := 3) rfl sc__law_bent_right.nd rfl rfl (by decide) rfl rfl (ga_cons (ge_callTy (cg_listM rfl) rfl T.n_list (by decide +kernel) (ga_cons (ge_var (pv 1)) ga_nil)) (ga_cons (ge_call (cg_b (ok__law_draw T B) rfl (hr.mono (by decide)) gd pass_def) rfl T.g__law_draw T.k__law_draw (ga_cons (ge_var (pv 0)) (ga_cons (ge_bin (og_add rfl) (ge_callB (cg_len rfl) rfl T.n_len (by decide +kernel) (ga_cons (ge_var (pv 1)) ga_nil)) ge_int) ga_nil))) ga_nil)))
    (gs_cons (gs_set (i := 4) sc__law_bent_right.nd rfl (by first | exact Or.inl rfl | exact Or.inr rfl) (ge_call (cg_b (ok__law_pick T B) rfl (hr.mono (by decide)) gd pass_def) rfl T.g__law_pick T.k__law_pick (ga_cons (ge_var (pv 0)) (ga_cons (ge_lst (ga_cons ge_non (ga_cons ge_bl (ga_cons ge_str (ga_cons ge_str (ga_cons (ge_lst (ga_cons ge_int ga_nil)) (ga_cons (ge_tup (ga_cons ge_int (ga_cons ge_int ga_nil))) (ga_cons ge_dct0 (ga_cons ge_str (ga_cons ge_bl ga_nil)))))))))) ga_nil))))
    (gs_cons (gs_expr (ge_mtL rfl PySem.F.slot_list_insert PySem.F.type_list_insert mg_insert (ge_var (pv 2)) (ga_cons (ge_var (pv 3)) (ga_cons (ge_var (pv 4)) ga_nil))))
    (gs_cons (gs_set (i := 2) sc__law_bent_right.nd rfl (by first | exact Or.inl rfl | exact Or.inr rfl) (ge_bin (og_add rfl) (ge_var (pv 2)) (ge_bin og_mul (ge_lst (ga_cons ge_non ga_nil)) (ge_call (cg_b (ok__law_draw T B) rfl (hr.mono (by decide)) gd pass_def) rfl T.g__law_draw T.k__law_draw (ga_cons (ge_var (pv 0)) (ga_cons ge_int ga_nil))))))
    (gs_one (gs_ret (ge_and (tru_plain rfl) (ge_cmp (og_eq rfl hr.units) (ge_call (cg_b (ok__law_asked T B) rfl (hr.mono (by decide)) gd pass_def) rfl T.g__law_asked T.k__law_asked (ga_cons (ge_var (pv 2)) ga_nil)) (ge_bin og_mul (ge_lst (ga_cons (ge_tup (ga_cons ge_str (ga_cons (ge_var (pv 3)) ga_nil))) ga_nil)) ge_int) (nomark _)) (ge_one (ge_cmp (og_eq rfl hr.units) (ge_call (cg_b (ok__law_asked T B) rfl (hr.mono (by decide)) gd pass_def) rfl T.g__law_asked T.k__law_asked (ga_cons (ge_callTy (cg_tuple rfl) rfl T.n_tuple (by decide +kernel) (ga_cons (ge_var (pv 2)) ga_nil)) ga_nil)) (ge_bin og_mul (ge_lst (ga_cons (ge_tup (ga_cons ge_str (ga_cons (ge_var (pv 3)) ga_nil))) ga_nil)) ge_int) (nomark _))))))))))))
theorem ok__law_bent_right (T : Tx K mg) (B : ∀ p ∈ csOf K lams, LamX.TabB base mg p.1 p.2) : FnB P w (WW K) mg base 11 (He.ga K "_law_bent_right") ["_law_pen_here", "_law_some"] f__law_bent_right := by
  obtain ⟨fd, F⟩ := T.d__law_bent_right
  exact ⟨⟨fd, fg__law_bent_right T B F, F.bindsN fun _ _ _ _ _ _ us hl => match us, hl with | [_, _], _ => rfl⟩, T.k__law_bent_right⟩
theorem sc_law : FnScope ["_law_script", "_law_pen_here", "_law_spin", "_law_pairs", "_law_some", "_law_again", "_law_pair", "_law_passed"] ["_law_script"] (defScope s_law) := ⟨rfl, rfl, rfl, by decide +kernel, rfl, by decide +kernel, by decide +kernel⟩
noncomputable def b_law : GS' :=
  (gSeq (gSet 1 (gCall f__law_pen (gCons (gVar 0) gNil)))
    (gSeq (gFor (giRange1 (gCons (gC (.int 6)) gNil)) (ggName 2) (gSeq (gPar2 3 4 (gCons (gLstM gNil) (gCons (gLstM gNil) gNil)))
    (gSeq (gFor (giRange1 (gCons (gCall f__law_pick (gCons (gVar 1) (gCons (gLst (gCons (gC (.int 0)) (gCons (gC (.int 1)) (gCons (gC (.int 2)) (gCons (gC (.int 3)) (gCons (gC (.int 5)) (gCons (gC (.int 8)) gNil))))))) gNil))) gNil)) (ggName 5) (gSeq (gAsg (ggTup 2 (ggCons (ggName 6) (ggCons (ggName 7) ggNil))) (gCall f__law_item (gCons (gVar 1) gNil)))
    (gSeq (gExpr (gMtL mAppend (gVar 3) (gCons (gVar 6) gNil)))
    (gSeq (gExpr (gMtL mAppend (gVar 4) (gCons (gVar 7) gNil)))
    (gIf (gTr truD (gBin dEq (gCall f__law_draw (gCons (gVar 1) (gCons (gC (.int 6)) gNil))) (gC (.int 0)))) (gSeq (gExpr (gMtL mAppend (gVar 3) (gCons (gVar 6) gNil)))
    (gExpr (gMtL mAppend (gVar 4) (gCons (gVar 7) gNil)))) gSkip)))))
    (gIf (gOr (gNot (gTr truD (gCall f__law_right (gCons (gVar 3) (gCons (gVar 4) gNil))))) (gNot (gTr truD (gCall f__law_bent_right (gCons (gVar 1) (gCons (gVar 4) gNil)))))) (gRet (gC (.bl false))) gSkip))))
    (gRet (gCall f__law_right (gCons (gLst gNil) (gCons (gLst gNil) gNil))))))
noncomputable def f_law : List D → Stor → R D := fun ds M => frz M (gFn 1 8 b_law ds M)
theorem fg_law (T : Tx K mg) (B : ∀ p ∈ csOf K lams, LamX.TabB base mg p.1 p.2) {fd : FuncData} (F : FunD K "law" "law" (defArgs s_law) (defBody s_law) (defScope s_law) [] [] (He.ga K "law") fd) : FnG P w (WW K) mg base 12 (He.ga K "law") fd ["_law_script"] f_law :=
  FnG.frz (fng_of (W := WW K) (N := ["_law_script", "_law_pen_here", "_law_spin", "_law_pairs", "_law_some", "_law_again", "_law_pair", "_law_passed"]) F sc_law (fun cdv A outer s H E hr gd =>
    (gs_cons (gs_set (i := 1) sc_law.nd rfl (by first | exact Or.inl rfl | exact Or.inr rfl) (ge_call (cg_b (ok__law_pen T B) rfl (hr.mono (by decide)) gd pass_def) rfl T.g__law_pen T.k__law_pen (ga_cons (ge_var (pv 0)) ga_nil)))
    (gs_cons (gs_for own_def rfl (gi_range1 rfl T.n_range (ga_cons ge_int ga_nil)) (gg_name (pg_name (i := 2) sc_law.nd rfl (by first | exact Or.inl rfl | exact Or.inr rfl))) (gs_cons (gs_par2 (i := 3) (j := 4) rfl sc_law.nd rfl rfl (by decide) rfl rfl (ga_cons (ge_lstM ga_nil) (ga_cons (ge_lstM ga_nil) ga_nil)))
    (gs_cons (gs_for own_def rfl (gi_range1 rfl T.n_range (ga_cons (ge_call (cg_b (ok__law_pick T B) rfl (hr.mono (by decide)) gd pass_def) rfl T.g__law_pick T.k__law_pick (ga_cons (ge_var (pv 1)) (ga_cons (ge_lst (ga_cons ge_int (ga_cons ge_int (ga_cons ge_int (ga_cons ge_int (ga_cons ge_int (ga_cons ge_int ga_nil))))))) ga_nil))) ga_nil)) (gg_name (pg_name (i := 5) sc_law.nd rfl (by first | exact Or.inl rfl | exact Or.inr rfl))) (gs_cons (gs_asg (ge_call (cg_b (ok__law_item T B) rfl (hr.mono (by decide)) gd pass_def) rfl T.g__law_item T.k__law_item (ga_cons (ge_var (pv 1)) ga_nil)) (gg_tup rfl rfl (ggs_cons (gg_name (pg_name (i := 6) sc_law.nd rfl (by first | exact Or.inl rfl | exact Or.inr rfl))) (ggs_cons (gg_name (pg_name (i := 7) sc_law.nd rfl (by first | exact Or.inl rfl | exact Or.inr rfl))) ggs_nil))))
    (gs_cons (gs_expr (ge_mtL rfl PySem.F.slot_list_append PySem.F.type_list_append mg_append (ge_var (pv 3)) (ga_cons (ge_var (pv 6)) ga_nil)))
    (gs_cons (gs_expr (ge_mtL rfl PySem.F.slot_list_append PySem.F.type_list_append mg_append (ge_var (pv 4)) (ga_cons (ge_var (pv 7)) ga_nil)))
    (gs_one (gs_if (gt_cmp (tru_plain rfl) (og_eq rfl hr.units) (ge_call (cg_b (ok__law_draw T B) rfl (hr.mono (by decide)) gd pass_def) rfl T.g__law_draw T.k__law_draw (ga_cons (ge_var (pv 1)) (ga_cons ge_int ga_nil))) ge_int (nomark _)) (gs_cons (gs_expr (ge_mtL rfl PySem.F.slot_list_append PySem.F.type_list_append mg_append (ge_var (pv 3)) (ga_cons (ge_var (pv 6)) ga_nil)))
    (gs_one (gs_expr (ge_mtL rfl PySem.F.slot_list_append PySem.F.type_list_append mg_append (ge_var (pv 4)) (ga_cons (ge_var (pv 7)) ga_nil))))) gs_nil))))))
    (gs_one (gs_if (PW.pt (gw_or (gt_not (gt_tr (tru_plain rfl) (ge_call (cg_b (ok__law_right T B) rfl (hr.mono (by decide)) gd pass_def) rfl T.g__law_right T.k__law_right (ga_cons (ge_var (pv 3)) (ga_cons (ge_var (pv 4)) ga_nil))))) (gw_or1 (gt_not (gt_tr (tru_plain rfl) (ge_call (cg_b (ok__law_bent_right T B) rfl (hr.mono (by decide)) gd pass_def) rfl T.g__law_bent_right T.k__law_bent_right (ga_cons (ge_var (pv 1)) (ga_cons (ge_var (pv 4)) ga_nil)))))))) (gs_one (gs_ret ge_bl)) gs_nil)))))
    (gs_one (gs_ret (ge_call (cg_b (ok__law_right T B) rfl (hr.mono (by decide)) gd pass_def) rfl T.g__law_right T.k__law_right (ga_cons (ge_lst ga_nil) (ga_cons (ge_lst ga_nil) ga_nil)))))))))
theorem ok_law (T : Tx K mg) (B : ∀ p ∈ csOf K lams, LamX.TabB base mg p.1 p.2) : FnB P w (WW K) mg base 12 (He.ga K "law") ["_law_script"] f_law := by
  obtain ⟨fd, F⟩ := T.d_law
  exact ⟨⟨fd, fg_law T B F, F.bindsN fun _ _ _ _ _ _ us hl => match us, hl with | [_], _ => rfl⟩, T.k_law⟩
end
def fa : List He.Fa := ([.glo "_law_pen", .glo "_law_pick", .glo "_law_item", .glo "_law_draw", .glo "_law_right", .glo "_law_bent_right", .glo "_law_fraction", .glo "_law_made", .glo "_law_low", .glo "Ratio", .glo "Nothing", .glo "is_integer", .glo "BadRatio", .glo "common", .glo "_law_farthest", .glo "_law_total", .glo "_law_asked", .glo "_law_is_less", .glo "written", .glo "_law_heard", .glo "_law_told", .glo "WebError", .glo "BadText", .glo "NoRatio", .glo "all_ratios"] : List He.Fa) ++ ([.glo "added", .glo "is_less", .free "range", .free "list", .free "len", .free "int", .free "abs", .free "isinstance", .free "bool", .free "repr", .free "tuple", .free "str", .free "ValueError", .free "any", .free "enumerate", .mkr "Ratio", .cls "Ratio", .noat "Ratio" "top", .noat "Ratio" "bottom", .meth "Ratio" "__repr__", .str "ENDLESS" "endless", .cls "Nothing", .glo "law"] : List He.Fa)
def fx : List Fx := ([fxSm "Ratio" "endless", fxMk0 "Nothing", fxExI "BadRatio" ["at"], fxTab "_law_asked", fxApart lams, fxSm "Ratio" "total", fxSm "Ratio" "greatest", fxSm "Ratio" "least", fxXf "BadRatio", fxNo "BadRatio" "at", fxEx0 "NoRatio", fxSm "Ratio" "of", fxClsI "Nothing", fxClsI "Ratio", fxKit (.b "NoneType") (.b "int") false, fxKit (.b "bool") (.b "int") true, fxKit (.b "int") (.b "int") true, fxKit (.b "str") (.b "int") false, fxKit (.b "list") (.b "int") false, fxKit (.b "tuple") (.b "int") false, fxKit (.b "dict") (.b "int") false, fxKit (.o "Ratio") (.b "int") false, fxKit (.b "bool") (.b "bool") true, fxKit (.b "int") (.b "bool") false, fxKit (.b "NoneType") (.o "Ratio") false] : List Fx) ++ ([fxKit (.b "bool") (.o "Ratio") false, fxKit (.b "int") (.o "Ratio") false, fxKit (.b "str") (.o "Ratio") false, fxKit (.b "list") (.o "Ratio") false, fxKit (.b "tuple") (.o "Ratio") false, fxKit (.b "dict") (.o "Ratio") false, fxKit (.o "Ratio") (.o "Ratio") true, fxKit (.b "NoneType") (.b "list") false, fxKit (.b "bool") (.b "list") false, fxKit (.b "int") (.b "list") false, fxKit (.b "str") (.b "list") false, fxKit (.b "list") (.b "list") true, fxKit (.b "tuple") (.b "list") false, fxKit (.b "dict") (.b "list") false, fxKit (.o "Ratio") (.b "list") false, fxKit (.b "NoneType") (.o "Nothing") false, fxKit (.b "bool") (.o "Nothing") false, fxKit (.b "int") (.o "Nothing") false, fxKit (.b "str") (.o "Nothing") false, fxKit (.b "list") (.o "Nothing") false, fxKit (.b "tuple") (.o "Nothing") false, fxKit (.b "dict") (.o "Nothing") false, fxKit (.o "Ratio") (.o "Nothing") false, fxKit (.o "Nothing") (.o "Nothing") true, fxExC "BadRatio"] : List Fx) ++ ([fxExC "NoRatio", fxKit (.o "BadRatio") (.o "BadRatio") true, fxKit (.o "BadRatio") (.o "NoRatio") false, fxKit (.o "BadRatio") (.o "BadText") false, fxKit (.o "NoRatio") (.o "BadRatio") false, fxKit (.o "NoRatio") (.o "NoRatio") true, fxKit (.o "NoRatio") (.o "BadText") false, fxKit (.o "BadRatio") (.b "ValueError") true, fxKit (.o "NoRatio") (.b "ValueError") true, fxExm "BadRatio" "WebError" true, fxExm "NoRatio" "WebError" true] : List Fx)
def da__law_pen : He5.DefA := ⟨fun K => (He.ga K "_law_pen"), "_law_pen", "_law_pen", defArgs s__law_pen, defBody s__law_pen, defScope s__law_pen, [], []⟩
def da__law_draw : He5.DefA := ⟨fun K => (He.ga K "_law_draw"), "_law_draw", "_law_draw", defArgs s__law_draw, defBody s__law_draw, defScope s__law_draw, [], []⟩
def da__law_pick : He5.DefA := ⟨fun K => (He.ga K "_law_pick"), "_law_pick", "_law_pick", defArgs s__law_pick, defBody s__law_pick, defScope s__law_pick, [], []⟩
def da__law_low : He5.DefA := ⟨fun K => (He.ga K "_law_low"), "_law_low", "_law_low", defArgs s__law_low, defBody s__law_low, defScope s__law_low, [], []⟩
def da__law_fraction : He5.DefA := ⟨fun K => (He.ga K "_law_fraction"), "_law_fraction", "_law_fraction", defArgs s__law_fraction, defBody s__law_fraction, defScope s__law_fraction, [], []⟩
def da_is_integer : He5.DefA := ⟨fun K => (He.ga K "is_integer"), "is_integer", "is_integer", defArgs s_is_integer, defBody s_is_integer, defScope s_is_integer, [], []⟩
def da_BadRatio___init__ : He5.DefA := ⟨fun K => (He.ma K (He.ga K "BadRatio") "__init__"), "__init__", "BadRatio.__init__", defArgs s_BadRatio___init__, defBody s_BadRatio___init__, defScope s_BadRatio___init__, [], []⟩
def da_common : He5.DefA := ⟨fun K => (He.ga K "common"), "common", "common", defArgs s_common, defBody s_common, defScope s_common, [], []⟩
def da_Ratio___init__ : He5.DefA := ⟨fun K => (He.ma K (He.ga K "Ratio") "__init__"), "__init__", "Ratio.__init__", defArgs s_Ratio___init__, defBody s_Ratio___init__, defScope s_Ratio___init__, [.int 1], []⟩
def da_Ratio_endless : He5.DefA := ⟨fun K => (He5.wf K (He.ga K "Ratio") "staticmethod" "endless"), "endless", "Ratio.endless", defArgs s_Ratio_endless, defBody s_Ratio_endless, defScope s_Ratio_endless, [], []⟩
def da__law_made : He5.DefA := ⟨fun K => (He.ga K "_law_made"), "_law_made", "_law_made", defArgs s__law_made, defBody s__law_made, defScope s__law_made, [], []⟩
def da__law_item : He5.DefA := ⟨fun K => (He.ga K "_law_item"), "_law_item", "_law_item", defArgs s__law_item, defBody s__law_item, defScope s__law_item, [], []⟩
def da__law_is_less : He5.DefA := ⟨fun K => (He.ga K "_law_is_less"), "_law_is_less", "_law_is_less", defArgs s__law_is_less, defBody s__law_is_less, defScope s__law_is_less, [], []⟩
def da__law_farthest : He5.DefA := ⟨fun K => (He.ga K "_law_farthest"), "_law_farthest", "_law_farthest", defArgs s__law_farthest, defBody s__law_farthest, defScope s__law_farthest, [], []⟩
def da__law_total : He5.DefA := ⟨fun K => (He.ga K "_law_total"), "_law_total", "_law_total", defArgs s__law_total, defBody s__law_total, defScope s__law_total, [], []⟩
def da_written : He5.DefA := ⟨fun K => (He.ga K "written"), "written", "written", defArgs s_written, defBody s_written, defScope s_written, [], []⟩
def da_Ratio___repr__ : He5.DefA := ⟨fun K => (He.ma K (He.ga K "Ratio") "__repr__"), "__repr__", "Ratio.__repr__", defArgs s_Ratio___repr__, defBody s_Ratio___repr__, defScope s_Ratio___repr__, [], []⟩
def da__law_heard : He5.DefA := ⟨fun K => (He.ga K "_law_heard"), "_law_heard", "_law_heard", defArgs s__law_heard, defBody s__law_heard, defScope s__law_heard, [], []⟩
def da_Ratio_of : He5.DefA := ⟨fun K => (He5.wf K (He.ga K "Ratio") "staticmethod" "of"), "of", "Ratio.of", defArgs s_Ratio_of, defBody s_Ratio_of, defScope s_Ratio_of, [], []⟩
def da_all_ratios : He5.DefA := ⟨fun K => (He.ga K "all_ratios"), "all_ratios", "all_ratios", defArgs s_all_ratios, defBody s_all_ratios, defScope s_all_ratios, [], []⟩
def da_added : He5.DefA := ⟨fun K => (He.ga K "added"), "added", "added", defArgs s_added, defBody s_added, defScope s_added, [], []⟩
def da_Ratio_total : He5.DefA := ⟨fun K => (He5.wf K (He.ga K "Ratio") "staticmethod" "total"), "total", "Ratio.total", defArgs s_Ratio_total, defBody s_Ratio_total, defScope s_Ratio_total, [], []⟩
def da_is_less : He5.DefA := ⟨fun K => (He.ga K "is_less"), "is_less", "is_less", defArgs s_is_less, defBody s_is_less, defScope s_is_less, [], []⟩
def da_Ratio_greatest : He5.DefA := ⟨fun K => (He5.wf K (He.ga K "Ratio") "staticmethod" "greatest"), "greatest", "Ratio.greatest", defArgs s_Ratio_greatest, defBody s_Ratio_greatest, defScope s_Ratio_greatest, [], []⟩
def da_Ratio_least : He5.DefA := ⟨fun K => (He5.wf K (He.ga K "Ratio") "staticmethod" "least"), "least", "Ratio.least", defArgs s_Ratio_least, defBody s_Ratio_least, defScope s_Ratio_least, [], []⟩
def da__law_told : He5.DefA := ⟨fun K => (He.ga K "_law_told"), "_law_told", "_law_told", defArgs s__law_told, defBody s__law_told, defScope s__law_told, [], []⟩
def da__law_asked : He5.DefA := ⟨fun K => (He.ga K "_law_asked"), "_law_asked", "_law_asked", defArgs s__law_asked, defBody s__law_asked, defScope s__law_asked, [], []⟩
def da__law_right : He5.DefA := ⟨fun K => (He.ga K "_law_right"), "_law_right", "_law_right", defArgs s__law_right, defBody s__law_right, defScope s__law_right, [], []⟩
def da__law_bent_right : He5.DefA := ⟨fun K => (He.ga K "_law_bent_right"), "_law_bent_right", "_law_bent_right", defArgs s__law_bent_right, defBody s__law_bent_right, defScope s__law_bent_right, [], []⟩
def da_law : He5.DefA := ⟨fun K => (He.ga K "law"), "law", "law", defArgs s_law, defBody s_law, defScope s_law, [], []⟩
def fn : List He5.DefA := ([da__law_pen, da__law_draw, da__law_pick, da__law_low, da__law_fraction, da_is_integer, da_BadRatio___init__, da_common, da_Ratio___init__, da_Ratio_endless, da__law_made, da__law_item, da__law_is_less, da__law_farthest, da__law_total, da_written, da_Ratio___repr__, da__law_heard, da_Ratio_of, da_all_ratios, da_added, da_Ratio_total, da_is_less, da_Ratio_greatest, da_Ratio_least] : List He5.DefA) ++ ([da__law_told, da__law_asked, da__law_right, da__law_bent_right, da_law] : List He5.DefA)
theorem tx_of {K : PySem.W.Frag} {h : Heap} {mg : Str → Option Value} (X : K.In h) (G0 : h.Ns mainGlobals mg) (c : SaysE fa fx fn K) : Tx K mg := by
  have t_g__law_pen := He.glo_ok X G0 (c.fact 0 (f := .glo "_law_pen") rfl)
  have t_g__law_pick := He.glo_ok X G0 (c.fact 1 (f := .glo "_law_pick") rfl)
  have t_g__law_item := He.glo_ok X G0 (c.fact 2 (f := .glo "_law_item") rfl)
  have t_g__law_draw := He.glo_ok X G0 (c.fact 3 (f := .glo "_law_draw") rfl)
  have t_g__law_right := He.glo_ok X G0 (c.fact 4 (f := .glo "_law_right") rfl)
  have t_g__law_bent_right := He.glo_ok X G0 (c.fact 5 (f := .glo "_law_bent_right") rfl)
  have t_g__law_fraction := He.glo_ok X G0 (c.fact 6 (f := .glo "_law_fraction") rfl)
  have t_g__law_made := He.glo_ok X G0 (c.fact 7 (f := .glo "_law_made") rfl)
  have t_g__law_low := He.glo_ok X G0 (c.fact 8 (f := .glo "_law_low") rfl)
  have t_g_Ratio := He.glo_ok X G0 (c.fact 9 (f := .glo "Ratio") rfl)
  have t_g_Nothing := He.glo_ok X G0 (c.fact 10 (f := .glo "Nothing") rfl)
  have t_g_is_integer := He.glo_ok X G0 (c.fact 11 (f := .glo "is_integer") rfl)
  have t_g_BadRatio := He.glo_ok X G0 (c.fact 12 (f := .glo "BadRatio") rfl)
  have t_g_common := He.glo_ok X G0 (c.fact 13 (f := .glo "common") rfl)
  have t_g__law_farthest := He.glo_ok X G0 (c.fact 14 (f := .glo "_law_farthest") rfl)
  have t_g__law_total := He.glo_ok X G0 (c.fact 15 (f := .glo "_law_total") rfl)
  have t_g__law_asked := He.glo_ok X G0 (c.fact 16 (f := .glo "_law_asked") rfl)
  have t_g__law_is_less := He.glo_ok X G0 (c.fact 17 (f := .glo "_law_is_less") rfl)
  have t_g_written := He.glo_ok X G0 (c.fact 18 (f := .glo "written") rfl)
  have t_g__law_heard := He.glo_ok X G0 (c.fact 19 (f := .glo "_law_heard") rfl)
  have t_g__law_told := He.glo_ok X G0 (c.fact 20 (f := .glo "_law_told") rfl)
  have t_g_WebError := He.glo_ok X G0 (c.fact 21 (f := .glo "WebError") rfl)
  have t_g_BadText := He.glo_ok X G0 (c.fact 22 (f := .glo "BadText") rfl)
  have t_g_NoRatio := He.glo_ok X G0 (c.fact 23 (f := .glo "NoRatio") rfl)
  have t_g_all_ratios := He.glo_ok X G0 (c.fact 24 (f := .glo "all_ratios") rfl)
  have t_g_added := He.glo_ok X G0 (c.fact 25 (f := .glo "added") rfl)
  have t_g_is_less := He.glo_ok X G0 (c.fact 26 (f := .glo "is_less") rfl)
  have t_n_range := He.free_ok X G0 (c.fact 27 (f := .free "range") rfl)
  have t_n_list := He.free_ok X G0 (c.fact 28 (f := .free "list") rfl)
  have t_n_len := He.free_ok X G0 (c.fact 29 (f := .free "len") rfl)
  have t_n_int := He.free_ok X G0 (c.fact 30 (f := .free "int") rfl)
  have t_n_abs := He.free_ok X G0 (c.fact 31 (f := .free "abs") rfl)
  have t_n_isinstance := He.free_ok X G0 (c.fact 32 (f := .free "isinstance") rfl)
  have t_n_bool := He.free_ok X G0 (c.fact 33 (f := .free "bool") rfl)
  have t_n_repr := He.free_ok X G0 (c.fact 34 (f := .free "repr") rfl)
  have t_n_tuple := He.free_ok X G0 (c.fact 35 (f := .free "tuple") rfl)
  have t_n_str := He.free_ok X G0 (c.fact 36 (f := .free "str") rfl)
  have t_n_ValueError := He.free_ok X G0 (c.fact 37 (f := .free "ValueError") rfl)
  have t_n_any := He.free_ok X G0 (c.fact 38 (f := .free "any") rfl)
  have t_n_enumerate := He.free_ok X G0 (c.fact 39 (f := .free "enumerate") rfl)
  have t_sm_Ratio_endless : SMet K (He.ga K "Ratio") "endless" (He5.wf K (He.ga K "Ratio") "staticmethod" "endless") := sm_of (c.factX 0 (f := fxSm "Ratio" "endless") rfl)
  have t_mk_Ratio : Mk K (He.ga K "Ratio") (He.ma K (He.ga K "Ratio") "__init__") := He.mkr_ok (c.fact 40 (f := .mkr "Ratio") rfl)
  have t_mk0_Nothing : Mk0 K (He.ga K "Nothing") := mk0_of (c.factX 1 (f := fxMk0 "Nothing") rfl)
  have t_exi_BadRatio : ExI K (He.ga K "BadRatio") (He.ma K (He.ga K "BadRatio") "__init__") ["at"] := exI_of (c.factX 2 (f := fxExI "BadRatio" ["at"]) rfl)
  have t_cls_Ratio : Cls K (He.ga K "Ratio") := He.cls_ok (x := "Ratio") (c.fact 41 (f := .cls "Ratio") rfl)
  have t_na_Ratio_top : NoAttr K (He.ga K "Ratio") "top" := He.noat_ok (c.fact 42 (f := .noat "Ratio" "top") rfl)
  have t_na_Ratio_bottom : NoAttr K (He.ga K "Ratio") "bottom" := He.noat_ok (c.fact 43 (f := .noat "Ratio" "bottom") rfl)
  have t_me_Ratio___repr__ : Meth K (He.ga K "Ratio") "__repr__" (He.ma K (He.ga K "Ratio") "__repr__") := He.meth_ok (c.fact 44 (f := .meth "Ratio" "__repr__") rfl)
  have t_c_ENDLESS : ∃ t, mg "ENDLESS" = some (.str "endless" t) := He.str_ok X G0 (c.fact 45 (f := .str "ENDLESS" "endless") rfl)
  have t_tab__law_asked : TabK K "_law_asked" := tabK_of (c.factX 3 (f := fxTab "_law_asked") rfl)
  have t_apart : (lams.map (tcP K)).Nodup := apart_of (c.factX 4 (f := fxApart lams) rfl)
  have t_sm_Ratio_total : SMet K (He.ga K "Ratio") "total" (He5.wf K (He.ga K "Ratio") "staticmethod" "total") := sm_of (c.factX 5 (f := fxSm "Ratio" "total") rfl)
  have t_sm_Ratio_greatest : SMet K (He.ga K "Ratio") "greatest" (He5.wf K (He.ga K "Ratio") "staticmethod" "greatest") := sm_of (c.factX 6 (f := fxSm "Ratio" "greatest") rfl)
  have t_sm_Ratio_least : SMet K (He.ga K "Ratio") "least" (He5.wf K (He.ga K "Ratio") "staticmethod" "least") := sm_of (c.factX 7 (f := fxSm "Ratio" "least") rfl)
  have t_xf_BadRatio : XfC K (He.ga K "BadRatio") := xf_of (c.factX 8 (f := fxXf "BadRatio") rfl)
  have t_no_BadRatio_at : PySem.W.findIn K (.ref (He.ga K "BadRatio")) "at" = some none := no_of (c.factX 9 (f := fxNo "BadRatio" "at") rfl)
  have t_ex0_NoRatio : Ex0 K (He.ga K "NoRatio") := ex0_of (c.factX 10 (f := fxEx0 "NoRatio") rfl)
  have t_sm_Ratio_of : SMet K (He.ga K "Ratio") "of" (He5.wf K (He.ga K "Ratio") "staticmethod" "of") := sm_of (c.factX 11 (f := fxSm "Ratio" "of") rfl)
  have t_cls_Nothing : Cls K (He.ga K "Nothing") := He.cls_ok (x := "Nothing") (c.fact 46 (f := .cls "Nothing") rfl)
  have t_i_Nothing : ClsI K (He.ga K "Nothing") := clsI_of t_cls_Nothing (c.factX 12 (f := fxClsI "Nothing") rfl)
  have t_i_Ratio : ClsI K (He.ga K "Ratio") := clsI_of t_cls_Ratio (c.factX 13 (f := fxClsI "Ratio") rfl)
  have t_kit_non_int : PySem.W.kitOne K (TN.v K (.b "NoneType")) (TN.v K (.b "int")) = some false := G.kit_of (c.factX 14 (f := fxKit (.b "NoneType") (.b "int") false) rfl)
  have t_kit_bl_int : PySem.W.kitOne K (TN.v K (.b "bool")) (TN.v K (.b "int")) = some true := G.kit_of (c.factX 15 (f := fxKit (.b "bool") (.b "int") true) rfl)
  have t_kit_int_int : PySem.W.kitOne K (TN.v K (.b "int")) (TN.v K (.b "int")) = some true := G.kit_of (c.factX 16 (f := fxKit (.b "int") (.b "int") true) rfl)
  have t_kit_str_int : PySem.W.kitOne K (TN.v K (.b "str")) (TN.v K (.b "int")) = some false := G.kit_of (c.factX 17 (f := fxKit (.b "str") (.b "int") false) rfl)
  have t_kit_lst_int : PySem.W.kitOne K (TN.v K (.b "list")) (TN.v K (.b "int")) = some false := G.kit_of (c.factX 18 (f := fxKit (.b "list") (.b "int") false) rfl)
  have t_kit_tup_int : PySem.W.kitOne K (TN.v K (.b "tuple")) (TN.v K (.b "int")) = some false := G.kit_of (c.factX 19 (f := fxKit (.b "tuple") (.b "int") false) rfl)
  have t_kit_dct_int : PySem.W.kitOne K (TN.v K (.b "dict")) (TN.v K (.b "int")) = some false := G.kit_of (c.factX 20 (f := fxKit (.b "dict") (.b "int") false) rfl)
  have t_kit_Ratio_int : PySem.W.kitOne K (TN.v K (.o "Ratio")) (TN.v K (.b "int")) = some false := G.kit_of (c.factX 21 (f := fxKit (.o "Ratio") (.b "int") false) rfl)
  have t_kit_bl_bool : PySem.W.kitOne K (TN.v K (.b "bool")) (TN.v K (.b "bool")) = some true := G.kit_of (c.factX 22 (f := fxKit (.b "bool") (.b "bool") true) rfl)
  have t_kit_int_bool : PySem.W.kitOne K (TN.v K (.b "int")) (TN.v K (.b "bool")) = some false := G.kit_of (c.factX 23 (f := fxKit (.b "int") (.b "bool") false) rfl)
  have t_kit_non_Ratio : PySem.W.kitOne K (TN.v K (.b "NoneType")) (TN.v K (.o "Ratio")) = some false := G.kit_of (c.factX 24 (f := fxKit (.b "NoneType") (.o "Ratio") false) rfl)
  have t_kit_bl_Ratio : PySem.W.kitOne K (TN.v K (.b "bool")) (TN.v K (.o "Ratio")) = some false := G.kit_of (c.factX 25 (f := fxKit (.b "bool") (.o "Ratio") false) rfl)
  have t_kit_int_Ratio : PySem.W.kitOne K (TN.v K (.b "int")) (TN.v K (.o "Ratio")) = some false := G.kit_of (c.factX 26 (f := fxKit (.b "int") (.o "Ratio") false) rfl)
  have t_kit_str_Ratio : PySem.W.kitOne K (TN.v K (.b "str")) (TN.v K (.o "Ratio")) = some false := G.kit_of (c.factX 27 (f := fxKit (.b "str") (.o "Ratio") false) rfl)
  have t_kit_lst_Ratio : PySem.W.kitOne K (TN.v K (.b "list")) (TN.v K (.o "Ratio")) = some false := G.kit_of (c.factX 28 (f := fxKit (.b "list") (.o "Ratio") false) rfl)
  have t_kit_tup_Ratio : PySem.W.kitOne K (TN.v K (.b "tuple")) (TN.v K (.o "Ratio")) = some false := G.kit_of (c.factX 29 (f := fxKit (.b "tuple") (.o "Ratio") false) rfl)
  have t_kit_dct_Ratio : PySem.W.kitOne K (TN.v K (.b "dict")) (TN.v K (.o "Ratio")) = some false := G.kit_of (c.factX 30 (f := fxKit (.b "dict") (.o "Ratio") false) rfl)
  have t_kit_Ratio_Ratio : PySem.W.kitOne K (TN.v K (.o "Ratio")) (TN.v K (.o "Ratio")) = some true := G.kit_of (c.factX 31 (f := fxKit (.o "Ratio") (.o "Ratio") true) rfl)
  have t_kit_non_list : PySem.W.kitOne K (TN.v K (.b "NoneType")) (TN.v K (.b "list")) = some false := G.kit_of (c.factX 32 (f := fxKit (.b "NoneType") (.b "list") false) rfl)
  have t_kit_bl_list : PySem.W.kitOne K (TN.v K (.b "bool")) (TN.v K (.b "list")) = some false := G.kit_of (c.factX 33 (f := fxKit (.b "bool") (.b "list") false) rfl)
  have t_kit_int_list : PySem.W.kitOne K (TN.v K (.b "int")) (TN.v K (.b "list")) = some false := G.kit_of (c.factX 34 (f := fxKit (.b "int") (.b "list") false) rfl)
  have t_kit_str_list : PySem.W.kitOne K (TN.v K (.b "str")) (TN.v K (.b "list")) = some false := G.kit_of (c.factX 35 (f := fxKit (.b "str") (.b "list") false) rfl)
  have t_kit_lst_list : PySem.W.kitOne K (TN.v K (.b "list")) (TN.v K (.b "list")) = some true := G.kit_of (c.factX 36 (f := fxKit (.b "list") (.b "list") true) rfl)
  have t_kit_tup_list : PySem.W.kitOne K (TN.v K (.b "tuple")) (TN.v K (.b "list")) = some false := G.kit_of (c.factX 37 (f := fxKit (.b "tuple") (.b "list") false) rfl)
  have t_kit_dct_list : PySem.W.kitOne K (TN.v K (.b "dict")) (TN.v K (.b "list")) = some false := G.kit_of (c.factX 38 (f := fxKit (.b "dict") (.b "list") false) rfl)
  have t_kit_Ratio_list : PySem.W.kitOne K (TN.v K (.o "Ratio")) (TN.v K (.b "list")) = some false := G.kit_of (c.factX 39 (f := fxKit (.o "Ratio") (.b "list") false) rfl)
  have t_kit_non_Nothing : PySem.W.kitOne K (TN.v K (.b "NoneType")) (TN.v K (.o "Nothing")) = some false := G.kit_of (c.factX 40 (f := fxKit (.b "NoneType") (.o "Nothing") false) rfl)
  have t_kit_bl_Nothing : PySem.W.kitOne K (TN.v K (.b "bool")) (TN.v K (.o "Nothing")) = some false := G.kit_of (c.factX 41 (f := fxKit (.b "bool") (.o "Nothing") false) rfl)
  have t_kit_int_Nothing : PySem.W.kitOne K (TN.v K (.b "int")) (TN.v K (.o "Nothing")) = some false := G.kit_of (c.factX 42 (f := fxKit (.b "int") (.o "Nothing") false) rfl)
  have t_kit_str_Nothing : PySem.W.kitOne K (TN.v K (.b "str")) (TN.v K (.o "Nothing")) = some false := G.kit_of (c.factX 43 (f := fxKit (.b "str") (.o "Nothing") false) rfl)
  have t_kit_lst_Nothing : PySem.W.kitOne K (TN.v K (.b "list")) (TN.v K (.o "Nothing")) = some false := G.kit_of (c.factX 44 (f := fxKit (.b "list") (.o "Nothing") false) rfl)
  have t_kit_tup_Nothing : PySem.W.kitOne K (TN.v K (.b "tuple")) (TN.v K (.o "Nothing")) = some false := G.kit_of (c.factX 45 (f := fxKit (.b "tuple") (.o "Nothing") false) rfl)
  have t_kit_dct_Nothing : PySem.W.kitOne K (TN.v K (.b "dict")) (TN.v K (.o "Nothing")) = some false := G.kit_of (c.factX 46 (f := fxKit (.b "dict") (.o "Nothing") false) rfl)
  have t_kit_Ratio_Nothing : PySem.W.kitOne K (TN.v K (.o "Ratio")) (TN.v K (.o "Nothing")) = some false := G.kit_of (c.factX 47 (f := fxKit (.o "Ratio") (.o "Nothing") false) rfl)
  have t_kit_Nothing_Nothing : PySem.W.kitOne K (TN.v K (.o "Nothing")) (TN.v K (.o "Nothing")) = some true := G.kit_of (c.factX 48 (f := fxKit (.o "Nothing") (.o "Nothing") true) rfl)
  have t_exC_BadRatio : ExcC K (He.ga K "BadRatio") := exC_of (c.factX 49 (f := fxExC "BadRatio") rfl)
  have t_exC_NoRatio : ExcC K (He.ga K "NoRatio") := exC_of (c.factX 50 (f := fxExC "NoRatio") rfl)
  have t_kit_BadRatio_BadRatio : PySem.W.kitOne K (TN.v K (.o "BadRatio")) (TN.v K (.o "BadRatio")) = some true := G.kit_of (c.factX 51 (f := fxKit (.o "BadRatio") (.o "BadRatio") true) rfl)
  have t_kit_BadRatio_NoRatio : PySem.W.kitOne K (TN.v K (.o "BadRatio")) (TN.v K (.o "NoRatio")) = some false := G.kit_of (c.factX 52 (f := fxKit (.o "BadRatio") (.o "NoRatio") false) rfl)
  have t_kit_BadRatio_BadText : PySem.W.kitOne K (TN.v K (.o "BadRatio")) (TN.v K (.o "BadText")) = some false := G.kit_of (c.factX 53 (f := fxKit (.o "BadRatio") (.o "BadText") false) rfl)
  have t_kit_NoRatio_BadRatio : PySem.W.kitOne K (TN.v K (.o "NoRatio")) (TN.v K (.o "BadRatio")) = some false := G.kit_of (c.factX 54 (f := fxKit (.o "NoRatio") (.o "BadRatio") false) rfl)
  have t_kit_NoRatio_NoRatio : PySem.W.kitOne K (TN.v K (.o "NoRatio")) (TN.v K (.o "NoRatio")) = some true := G.kit_of (c.factX 55 (f := fxKit (.o "NoRatio") (.o "NoRatio") true) rfl)
  have t_kit_NoRatio_BadText : PySem.W.kitOne K (TN.v K (.o "NoRatio")) (TN.v K (.o "BadText")) = some false := G.kit_of (c.factX 56 (f := fxKit (.o "NoRatio") (.o "BadText") false) rfl)
  have t_kit_BadRatio_ValueError : PySem.W.kitOne K (TN.v K (.o "BadRatio")) (TN.v K (.b "ValueError")) = some true := G.kit_of (c.factX 57 (f := fxKit (.o "BadRatio") (.b "ValueError") true) rfl)
  have t_kit_NoRatio_ValueError : PySem.W.kitOne K (TN.v K (.o "NoRatio")) (TN.v K (.b "ValueError")) = some true := G.kit_of (c.factX 58 (f := fxKit (.o "NoRatio") (.b "ValueError") true) rfl)
  have t_exm_BadRatio_WebError : PySem.W.exmOne K (.ref (He.ga K "BadRatio")) (.ref (He.ga K "WebError")) = some true := exm_of (c.factX 59 (f := fxExm "BadRatio" "WebError" true) rfl)
  have t_exm_NoRatio_WebError : PySem.W.exmOne K (.ref (He.ga K "NoRatio")) (.ref (He.ga K "WebError")) = some true := exm_of (c.factX 60 (f := fxExm "NoRatio" "WebError" true) rfl)
  have t_d__law_pen := c.def_ 0 (d := da__law_pen) rfl
  have t_k__law_pen : PySem.W.keepIn K (.ref (He.ga K "_law_pen")) = true := by obtain ⟨_, F⟩ := t_d__law_pen; exact F.kp
  have t_d__law_draw := c.def_ 1 (d := da__law_draw) rfl
  have t_k__law_draw : PySem.W.keepIn K (.ref (He.ga K "_law_draw")) = true := by obtain ⟨_, F⟩ := t_d__law_draw; exact F.kp
  have t_d__law_pick := c.def_ 2 (d := da__law_pick) rfl
  have t_k__law_pick : PySem.W.keepIn K (.ref (He.ga K "_law_pick")) = true := by obtain ⟨_, F⟩ := t_d__law_pick; exact F.kp
  have t_d__law_low := c.def_ 3 (d := da__law_low) rfl
  have t_k__law_low : PySem.W.keepIn K (.ref (He.ga K "_law_low")) = true := by obtain ⟨_, F⟩ := t_d__law_low; exact F.kp
  have t_d__law_fraction := c.def_ 4 (d := da__law_fraction) rfl
  have t_k__law_fraction : PySem.W.keepIn K (.ref (He.ga K "_law_fraction")) = true := by obtain ⟨_, F⟩ := t_d__law_fraction; exact F.kp
  have t_d_is_integer := c.def_ 5 (d := da_is_integer) rfl
  have t_k_is_integer : PySem.W.keepIn K (.ref (He.ga K "is_integer")) = true := by obtain ⟨_, F⟩ := t_d_is_integer; exact F.kp
  have t_d_BadRatio___init__ := c.def_ 6 (d := da_BadRatio___init__) rfl
  have t_k_BadRatio___init__ : PySem.W.keepIn K (.ref (He.ma K (He.ga K "BadRatio") "__init__")) = true := by obtain ⟨_, F⟩ := t_d_BadRatio___init__; exact F.kp
  have t_d_common := c.def_ 7 (d := da_common) rfl
  have t_k_common : PySem.W.keepIn K (.ref (He.ga K "common")) = true := by obtain ⟨_, F⟩ := t_d_common; exact F.kp
  have t_d_Ratio___init__ := c.def_ 8 (d := da_Ratio___init__) rfl
  have t_k_Ratio___init__ : PySem.W.keepIn K (.ref (He.ma K (He.ga K "Ratio") "__init__")) = true := by obtain ⟨_, F⟩ := t_d_Ratio___init__; exact F.kp
  have t_d_Ratio_endless := c.def_ 9 (d := da_Ratio_endless) rfl
  have t_k_Ratio_endless : PySem.W.keepIn K (.ref (He5.wf K (He.ga K "Ratio") "staticmethod" "endless")) = true := by obtain ⟨_, F⟩ := t_d_Ratio_endless; exact F.kp
  have t_d__law_made := c.def_ 10 (d := da__law_made) rfl
  have t_k__law_made : PySem.W.keepIn K (.ref (He.ga K "_law_made")) = true := by obtain ⟨_, F⟩ := t_d__law_made; exact F.kp
  have t_d__law_item := c.def_ 11 (d := da__law_item) rfl
  have t_k__law_item : PySem.W.keepIn K (.ref (He.ga K "_law_item")) = true := by obtain ⟨_, F⟩ := t_d__law_item; exact F.kp
  have t_d__law_is_less := c.def_ 12 (d := da__law_is_less) rfl
  have t_k__law_is_less : PySem.W.keepIn K (.ref (He.ga K "_law_is_less")) = true := by obtain ⟨_, F⟩ := t_d__law_is_less; exact F.kp
  have t_d__law_farthest := c.def_ 13 (d := da__law_farthest) rfl
  have t_k__law_farthest : PySem.W.keepIn K (.ref (He.ga K "_law_farthest")) = true := by obtain ⟨_, F⟩ := t_d__law_farthest; exact F.kp
  have t_d__law_total := c.def_ 14 (d := da__law_total) rfl
  have t_k__law_total : PySem.W.keepIn K (.ref (He.ga K "_law_total")) = true := by obtain ⟨_, F⟩ := t_d__law_total; exact F.kp
  have t_d_written := c.def_ 15 (d := da_written) rfl
  have t_k_written : PySem.W.keepIn K (.ref (He.ga K "written")) = true := by obtain ⟨_, F⟩ := t_d_written; exact F.kp
  have t_d_Ratio___repr__ := c.def_ 16 (d := da_Ratio___repr__) rfl
  have t_k_Ratio___repr__ : PySem.W.keepIn K (.ref (He.ma K (He.ga K "Ratio") "__repr__")) = true := by obtain ⟨_, F⟩ := t_d_Ratio___repr__; exact F.kp
  have t_d__law_heard := c.def_ 17 (d := da__law_heard) rfl
  have t_k__law_heard : PySem.W.keepIn K (.ref (He.ga K "_law_heard")) = true := by obtain ⟨_, F⟩ := t_d__law_heard; exact F.kp
  have t_d_Ratio_of := c.def_ 18 (d := da_Ratio_of) rfl
  have t_k_Ratio_of : PySem.W.keepIn K (.ref (He5.wf K (He.ga K "Ratio") "staticmethod" "of")) = true := by obtain ⟨_, F⟩ := t_d_Ratio_of; exact F.kp
  have t_d_all_ratios := c.def_ 19 (d := da_all_ratios) rfl
  have t_k_all_ratios : PySem.W.keepIn K (.ref (He.ga K "all_ratios")) = true := by obtain ⟨_, F⟩ := t_d_all_ratios; exact F.kp
  have t_d_added := c.def_ 20 (d := da_added) rfl
  have t_k_added : PySem.W.keepIn K (.ref (He.ga K "added")) = true := by obtain ⟨_, F⟩ := t_d_added; exact F.kp
  have t_d_Ratio_total := c.def_ 21 (d := da_Ratio_total) rfl
  have t_k_Ratio_total : PySem.W.keepIn K (.ref (He5.wf K (He.ga K "Ratio") "staticmethod" "total")) = true := by obtain ⟨_, F⟩ := t_d_Ratio_total; exact F.kp
  have t_d_is_less := c.def_ 22 (d := da_is_less) rfl
  have t_k_is_less : PySem.W.keepIn K (.ref (He.ga K "is_less")) = true := by obtain ⟨_, F⟩ := t_d_is_less; exact F.kp
  have t_d_Ratio_greatest := c.def_ 23 (d := da_Ratio_greatest) rfl
  have t_k_Ratio_greatest : PySem.W.keepIn K (.ref (He5.wf K (He.ga K "Ratio") "staticmethod" "greatest")) = true := by obtain ⟨_, F⟩ := t_d_Ratio_greatest; exact F.kp
  have t_d_Ratio_least := c.def_ 24 (d := da_Ratio_least) rfl
  have t_k_Ratio_least : PySem.W.keepIn K (.ref (He5.wf K (He.ga K "Ratio") "staticmethod" "least")) = true := by obtain ⟨_, F⟩ := t_d_Ratio_least; exact F.kp
  have t_d__law_told := c.def_ 25 (d := da__law_told) rfl
  have t_k__law_told : PySem.W.keepIn K (.ref (He.ga K "_law_told")) = true := by obtain ⟨_, F⟩ := t_d__law_told; exact F.kp
  have t_d__law_asked := c.def_ 26 (d := da__law_asked) rfl
  have t_k__law_asked : PySem.W.keepIn K (.ref (He.ga K "_law_asked")) = true := by obtain ⟨_, F⟩ := t_d__law_asked; exact F.kp
  have t_d__law_right := c.def_ 27 (d := da__law_right) rfl
  have t_k__law_right : PySem.W.keepIn K (.ref (He.ga K "_law_right")) = true := by obtain ⟨_, F⟩ := t_d__law_right; exact F.kp
  have t_d__law_bent_right := c.def_ 28 (d := da__law_bent_right) rfl
  have t_k__law_bent_right : PySem.W.keepIn K (.ref (He.ga K "_law_bent_right")) = true := by obtain ⟨_, F⟩ := t_d__law_bent_right; exact F.kp
  have t_d_law := c.def_ 29 (d := da_law) rfl
  have t_k_law : PySem.W.keepIn K (.ref (He.ga K "law")) = true := by obtain ⟨_, F⟩ := t_d_law; exact F.kp
  exact ⟨t_g__law_pen, t_g__law_pick, t_g__law_item, t_g__law_draw, t_g__law_right, t_g__law_bent_right, t_g__law_fraction, t_g__law_made, t_g__law_low, t_g_Ratio, t_g_Nothing, t_g_is_integer, t_g_BadRatio, t_g_common, t_g__law_farthest, t_g__law_total, t_g__law_asked, t_g__law_is_less, t_g_written, t_g__law_heard, t_g__law_told, t_g_WebError, t_g_BadText, t_g_NoRatio, t_g_all_ratios, t_g_added, t_g_is_less, t_n_range, t_n_list, t_n_len, t_n_int, t_n_abs, t_n_isinstance, t_n_bool, t_n_repr, t_n_tuple, t_n_str, t_n_ValueError, t_n_any, t_n_enumerate, t_sm_Ratio_endless, t_mk_Ratio, t_mk0_Nothing, t_exi_BadRatio, t_cls_Ratio, t_na_Ratio_top, t_na_Ratio_bottom, t_me_Ratio___repr__, t_c_ENDLESS, t_tab__law_asked, t_apart, t_sm_Ratio_total, t_sm_Ratio_greatest, t_sm_Ratio_least, t_xf_BadRatio, t_no_BadRatio_at, t_ex0_NoRatio, t_sm_Ratio_of, t_cls_Nothing, t_i_Nothing, t_i_Ratio, t_kit_non_int, t_kit_bl_int, t_kit_int_int, t_kit_str_int, t_kit_lst_int, t_kit_tup_int, t_kit_dct_int, t_kit_Ratio_int, t_kit_bl_bool, t_kit_int_bool, t_kit_non_Ratio, t_kit_bl_Ratio, t_kit_int_Ratio, t_kit_str_Ratio, t_kit_lst_Ratio, t_kit_tup_Ratio, t_kit_dct_Ratio, t_kit_Ratio_Ratio, t_kit_non_list, t_kit_bl_list, t_kit_int_list, t_kit_str_list, t_kit_lst_list, t_kit_tup_list, t_kit_dct_list, t_kit_Ratio_list, t_kit_non_Nothing, t_kit_bl_Nothing, t_kit_int_Nothing, t_kit_str_Nothing, t_kit_lst_Nothing, t_kit_tup_Nothing, t_kit_dct_Nothing, t_kit_Ratio_Nothing, t_kit_Nothing_Nothing, t_exC_BadRatio, t_exC_NoRatio, t_kit_BadRatio_BadRatio, t_kit_BadRatio_NoRatio, t_kit_BadRatio_BadText, t_kit_NoRatio_BadRatio, t_kit_NoRatio_NoRatio, t_kit_NoRatio_BadText, t_kit_BadRatio_ValueError, t_kit_NoRatio_ValueError, t_exm_BadRatio_WebError, t_exm_NoRatio_WebError, t_d__law_pen, t_k__law_pen, t_d__law_draw, t_k__law_draw, t_d__law_pick, t_k__law_pick, t_d__law_low, t_k__law_low, t_d__law_fraction, t_k__law_fraction, t_d_is_integer, t_k_is_integer, t_d_BadRatio___init__, t_k_BadRatio___init__, t_d_common, t_k_common, t_d_Ratio___init__, t_k_Ratio___init__, t_d_Ratio_endless, t_k_Ratio_endless, t_d__law_made, t_k__law_made, t_d__law_item, t_k__law_item, t_d__law_is_less, t_k__law_is_less, t_d__law_farthest, t_k__law_farthest, t_d__law_total, t_k__law_total, t_d_written, t_k_written, t_d_Ratio___repr__, t_k_Ratio___repr__, t_d__law_heard, t_k__law_heard, t_d_Ratio_of, t_k_Ratio_of, t_d_all_ratios, t_k_all_ratios, t_d_added, t_k_added, t_d_Ratio_total, t_k_Ratio_total, t_d_is_less, t_k_is_less, t_d_Ratio_greatest, t_k_Ratio_greatest, t_d_Ratio_least, t_k_Ratio_least, t_d__law_told, t_k__law_told, t_d__law_asked, t_k__law_asked, t_d__law_right, t_k__law_right, t_d__law_bent_right, t_k__law_bent_right, t_d_law, t_k_law⟩
def loose : List PySem.Str := (["_wall", "__name__", "WebError", "BadRatio", "NoRatio", "BadText", "FIGURES", "ENDLESS", "is_integer", "common", "Nothing", "Ratio", "written", "all_ratios", "is_less", "added", "less_another", "multiplied", "divided", "whole_quotient", "rest_of", "need_endless", "figures_end", "top_end", "need_bottom"] : List PySem.Str) ++ (["_law_pen", "_law_draw", "_law_pick", "_law_low", "_law_is", "_law_made", "_law_fraction", "_law_heard", "_law_item", "_law_total", "_law_is_less", "_law_farthest", "_law_told", "_law_asked", "_law_right", "_law_bent_right"] : List PySem.Str)
end K05

namespace K05
open PySem PySem.Spec PyProof.Rows L2 G
abbrev RR : PySem.W.OpenRow := PySem.W.OpenLaw.row PySem.Challenge.rw_sixasone_k05_totals_greatest_least
abbrev hk : PySem.W.Hook := hookF 6 fa fx fn
def ob (s : PySem.W.SharedT) : He.AlD := obsFG 6 fa fx fn (HandSHeadRun.getT s)
theorem ob_eq (s : PySem.W.SharedT) : ob s = hk.obs s.abs := obsFG_eq (HandSHeadRun.getT_eq s)
theorem run (w : World) : HandSHeadRun.RunEq RR (PySem.W.view RR.prog [40, 43]) hk ob 60000 loose w := by
  intro os
  kernel_rfl
theorem whole (good : ∀ zs : List Int, zs.length ≤ 63 → ∃ M, f_law [.lck (zs.map D.int)] [] = .ok (.bl true) M) : PySem.Challenge.rw_sixasone_k05_totals_greatest_least.Holds := by
  w_on; o_law
  refine HandSHeadRun.head_any (r := PySem.W.OpenLaw.row PySem.Challenge.rw_sixasone_k05_totals_greatest_least) (q := PySem.W.view (PySem.W.OpenLaw.row PySem.Challenge.rw_sixasone_k05_totals_greatest_least).prog [40, 43]) (H := hk) (ob := ob) (M := 60000) (loose := loose) (d := HandSHeadRun.topDef (PySem.W.OpenLaw.row PySem.Challenge.rw_sixasone_k05_totals_greatest_least).prog 43) (kwd := []) ob_eq
    (by kernel_rfl) (fun s => by kernel_rfl) run (by kernel_rfl) (by kernel_rfl) (by kernel_rfl) (by rfl) (by first | assumption | decide +kernel) (by decide +kernel) ⟨rfl, rfl, rfl, rfl, rfl, by decide +kernel⟩ ?hw ?hc
  case hw => w_witness2
  case hc =>
    refine walk_gt (l := PySem.Challenge.rw_sixasone_k05_totals_greatest_least) (n := 63) (k := 12) (x := "_law_script") rfl (by decide) (by kernel_rfl) ⟨rfl, by decide, by decide⟩ ?F
    intro w mg mb fa h lo mean Y GT hmg0
    obtain ⟨K, KX, c⟩ := Y
    have G := GT.g
    have hmg : mg ("law" : PySem.Str) = some (.ref fa) := by
      have e : (HandSHeadRun.topDef (PySem.W.OpenLaw.row PySem.Challenge.rw_sixasone_k05_totals_greatest_least).prog 43).name = ("law" : PySem.Str) := by kernel_rfl
      rw [← e]
      exact hmg0
    have T := tx_of KX G c
    have e := hmg.symm.trans (He.glo_ok KX G (c.fact 47 (f := .glo "law") rfl))
    cases e
    obtain ⟨fd, F⟩ := T.d_law
    have tb0 := PySem.W.tab_of (d := HandSHeadRun.topDef (PySem.W.OpenLaw.row PySem.Challenge.rw_sixasone_k05_totals_greatest_least).prog 40) (x := "_law_asked") GT KX (by kernel_rfl) T.tab__law_asked.tab
    have c1 : ∀ p ∈ csOf K lams, h.get? p.2 = some { cls := .none, data := .fields #[] } := fun p hp => by
      simp only [csOf, lams, List.map_cons, List.map_nil, List.mem_cons, List.not_mem_nil, or_false] at hp
      rcases hp with rfl
      · exact tb0.2
    have c2 : ∀ p ∈ csOf K lams, K.lookup p.2 = none := fun p hp => by
      simp only [csOf, lams, List.map_cons, List.map_nil, List.mem_cons, List.not_mem_nil, or_false] at hp
      rcases hp with rfl
      · exact T.tab__law_asked.nk
    have c3 : ∀ p ∈ csOf K lams, PySem.W.CodeHd h p.1 p.2 := fun p hp => by
      simp only [csOf, lams, List.map_cons, List.map_nil, List.mem_cons, List.not_mem_nil, or_false] at hp
      rcases hp with rfl
      · exact tb0.1
    exact ⟨WW K, csOf K lams, fd, f_law, KX, c1, c2, c3, tb_cs, fun s v => F.bindsA (ps := ["_law_script"]) (fun _ _ _ _ _ _ us hl => match us, hl with | [_], _ => rfl) s [v] rfl, good, fun base _ _ B => fg_law T B F⟩
end K05

namespace K05
open PySem L2 G
abbrev rat (a b : Int) : D := .ins 5 [.int a, .int b]
theorem isint (i : Int) (M : Stor) : f_is_integer [.int i] M = .ok (.bl true) M := rfl
theorem of_rat (a b : Int) (M : Stor) : f_Ratio_of [rat a b] M = .ok (rat a b) M := rfl
/-- the greatest common divisor, as the loop reckons it -/
theorem gcd_loop (t : GT') (b : GS') (x0 x1 : Option D) (M : Stor) (ht : ∀ x y : Int, t [x0, x1, some (.int x), some (.int y)] M = .ok (!decide (y = 0)) M)
    (hb : ∀ x y : Int, y ≠ 0 → b [x0, x1, some (.int x), some (.int y)] M = .nx [x0, x1, some (.int y), some (.int (x.fmod y))] M) :
    ∀ (n : Nat) (x y : Nat), y < n → gWhile t b n [x0, x1, some (.int x), some (.int y)] M = .nx [x0, x1, some (.int (Nat.gcd x y)), some (.int 0)] M := by
  intro n
  induction n with
  | zero => intro x y h; omega
  | succ n ih =>
    intro x y h
    rw [while_step, ht]
    by_cases hy : y = 0
    · subst hy
      simp
    · have hy' : ((y : Nat) : Int) ≠ 0 := by omega
      simp only [R.bindS_ok, hy', decide_false, Bool.not_false, if_true]
      rw [hb _ _ hy']
      have e : ((x : Nat) : Int).fmod (y : Nat) = ((x % y : Nat) : Int) := by
        rw [Int.fmod_eq_emod_of_nonneg _ (by omega)]; rfl
      have hlt : x % y < y := Nat.mod_lt _ (by omega)
      simp only [e]
      rw [ih y (x % y) (by omega)]
      rw [Nat.gcd_comm x y, Nat.gcd_rec y x, Nat.gcd_comm (x % y) y]
theorem common_ok (a : Int) (b : Nat) (M : Stor) (hb : b < 2 ^ 90000) : f_common [.int a, .int b] M = .ok (.int (Nat.gcd a.natAbs b)) M := by
  have h := gcd_loop (gTr truD (gBin dNe (gVar 3) (gC (.int 0)))) (gPar2 2 3 (G.gCons (gVar 3) (G.gCons (gBin dModI (gVar 2) (gVar 3)) G.gNil))) (some (.int a)) (some (.int b)) M (fun x y => rfl) (fun x y hy => by
    simp only [gFn, gSeq, gSkip, gRet, gRetN, gExpr, gSet, gIf, gAug, gAsg, gPar2, gPar3, gVar, gC, gBin, gUn, gTr, gAnd, gOr, gNot, gAndV, gOrV, gNotV, gIfE, gCall, G.gCons, G.gNil, G.gTup, G.gLst, gLstM, gSl, goSome, goNone, R.bind_ok, R.bind_ex, R.bind_no, R.bindS_ok, R.bindS_ex, R.bindS_no, outS_nx, outS_rt, outS_ex, orR_ok, orR_ex, orR_no, ggName, ggSub, List.getElem?_cons_zero, List.getElem?_cons_succ, List.set_cons_zero, List.set_cons_succ, List.map_cons, List.map_nil, List.length_cons, List.length_nil, List.replicate, List.append_nil, List.nil_append, List.cons_append, Nat.reduceAdd, Nat.reduceSub, Nat.reduceLeDiff, Nat.reduceLT, if_true, if_false, not_false_eq_true, Bool.false_eq_true, Bool.true_eq_false, Bool.not_true, Bool.not_false, decide_true, decide_false, decide_eq_true_eq, reduceIte, reduceCtorEq, eAdd, eAddI, eSub, eLt, eLe, eGt, eGe, eEq, eNe, eEqS, eNeS, eTru, eNeg, eAbs, eInt, eIntB, eLenL, eLenT, eMod hy]) fuel a.natAbs b (Nat.lt_of_lt_of_le hb (fuel_ge (Nat.pow_le_pow_right (by decide) (by decide))))
  simp only [f_common, b_common, gFn, gSeq, gSkip, gRet, gRetN, gExpr, gSet, gIf, gAug, gAsg, gPar2, gPar3, gVar, gC, gBin, gUn, gTr, gAnd, gOr, gNot, gAndV, gOrV, gNotV, gIfE, gCall, G.gCons, G.gNil, G.gTup, G.gLst, gLstM, gSl, goSome, goNone, R.bind_ok, R.bind_ex, R.bind_no, R.bindS_ok, R.bindS_ex, R.bindS_no, outS_nx, outS_rt, outS_ex, orR_ok, orR_ex, orR_no, ggName, ggSub, List.getElem?_cons_zero, List.getElem?_cons_succ, List.set_cons_zero, List.set_cons_succ, List.map_cons, List.map_nil, List.length_cons, List.length_nil, List.replicate, List.append_nil, List.nil_append, List.cons_append, Nat.reduceAdd, Nat.reduceSub, Nat.reduceLeDiff, Nat.reduceLT, if_true, if_false, not_false_eq_true, Bool.false_eq_true, Bool.true_eq_false, Bool.not_true, Bool.not_false, decide_true, decide_false, decide_eq_true_eq, reduceIte, reduceCtorEq, eAdd, eAddI, eSub, eLt, eLe, eGt, eGe, eEq, eNe, eEqS, eNeS, eTru, eNeg, eAbs, eInt, eIntB, eLenL, eLenT, h]
/-- in lowest terms -/
def lowP (a : Int) (b : Nat) : Int × Int := (a / (Nat.gcd a.natAbs b : Nat), (b : Int) / (Nat.gcd a.natAbs b : Nat))
def mkR (a : Int) (b : Nat) : D := rat (lowP a b).1 (lowP a b).2
theorem isNo (i : Int) (M : Stor) : fIsi isOk isTab [.int i, .cls 4] M = .ok (.bl false) M := rfl
theorem set_self {M : Stor} {k : Nat} {m m' : MO} (h : M[k]? = some m) : (M.set k m')[k]? = some m' := by
  rw [List.getElem?_set_self]
  exact (List.getElem?_eq_some_iff.mp h).1
theorem ft_top5 : ft_top 5 = some 0 := rfl
theorem ft_bot5 : ft_bottom 5 = some 1 := rfl
theorem setFl0 (d : D) : setFl [] 0 d = some [d] := rfl
theorem setFl1 (x d : D) : setFl [x] 1 d = some [x, d] := rfl
theorem fdiv_nat (a : Int) (n : Nat) : a.fdiv n = a / n := Int.fdiv_eq_ediv_of_nonneg a (by omega)
theorem gcd_pos (a : Int) {b : Nat} (h : 0 < b) : 0 < Nat.gcd a.natAbs b := Nat.gcd_pos_of_pos_right _ h
theorem gcd_div (a : Int) {b : Nat} (h : 0 < b) {n : Nat} (hb : b < 2 ^ n) (hn : n ≤ 9000) : divOk ((Nat.gcd a.natAbs b : Nat) : Int) = true :=
  divOk_of (n := n) (by have := gcd_pos a h; omega) (Nat.lt_of_le_of_lt (Nat.gcd_le_right _ h) hb) hn
theorem init_ok (a : Int) (b : Nat) (k : Nat) (M : Stor) (hb0 : 0 < b) (hb : b < 2 ^ 8000) (hk : M[k]? = some (.ins 5 [])) : f_Ratio___init__ [.ref k, .int a, .int b] M = .ok .non (M.set k (.ins 5 [.int (lowP a b).1, .int (lowP a b).2])) := by
  have hc := common_ok a b M (Nat.lt_trans hb (Nat.pow_lt_pow_right (by decide) (by decide)))
  have h1 : ¬ ((b : Nat) : Int) < 1 := by omega
  have hd := gcd_div a hb0 hb (by decide)
  simp only [f_Ratio___init__, b_Ratio___init__, gFn, gSeq, gSkip, gRet, gRetN, gExpr, gSet, gIf, gAug, gAsg, gPar2, gPar3, gVar, gC, gBin, gUn, gTr, gAnd, gOr, gNot, gAndV, gOrV, gNotV, gIfE, gCall, G.gCons, G.gNil, G.gTup, G.gLst, gLstM, gSl, goSome, goNone, R.bind_ok, R.bind_ex, R.bind_no, R.bindS_ok, R.bindS_ex, R.bindS_no, outS_nx, outS_rt, outS_ex, orR_ok, orR_ex, orR_no, ggName, ggSub, List.getElem?_cons_zero, List.getElem?_cons_succ, List.set_cons_zero, List.set_cons_succ, List.map_cons, List.map_nil, List.length_cons, List.length_nil, List.replicate, List.append_nil, List.nil_append, List.cons_append, Nat.reduceAdd, Nat.reduceSub, Nat.reduceLeDiff, Nat.reduceLT, if_true, if_false, not_false_eq_true, Bool.false_eq_true, Bool.true_eq_false, Bool.not_true, Bool.not_false, decide_true, decide_false, decide_eq_true_eq, reduceIte, reduceCtorEq, eAdd, eAddI, eSub, eLt, eLe, eGt, eGe, eEq, eNe, eEqS, eNeS, eTru, eNeg, eAbs, eInt, eIntB, eLenL, eLenT, isint, isNo, h1, hc, gSetF, eDiv hd, hk, ft_top5, setFl0, set_self hk, ft_bot5, setFl1, List.set_set, fdiv_nat, lowP]
theorem make_ok (a : Int) (b : Nat) (M : Stor) (hb0 : 0 < b) (hb : b < 2 ^ 8000) : gMake 5 [] f_Ratio___init__ [.int a, .int b] M = .ok (mkR a b) M := by
  have hk : (M ++ [MO.ins 5 []])[M.length]? = some (.ins 5 []) := by simp
  have h := init_ok a b M.length (M ++ [.ins 5 []]) hb0 hb hk
  simp only [gMake, gMakeM, List.append_nil, h, R.bind_ok, set_last]
  exact frz_insF rfl
theorem make1_ok (a : Int) (M : Stor) : gMake 5 [.int 1] f_Ratio___init__ [.int a] M = .ok (mkR a 1) M := by
  have hk : (M ++ [MO.ins 5 []])[M.length]? = some (.ins 5 []) := by simp
  have h := init_ok a 1 M.length (M ++ [.ins 5 []]) (by decide) (by decide) hk
  simp only [gMake, gMakeM, List.cons_append, List.nil_append]
  rw [show ((1 : Int)) = ((1 : Nat) : Int) from rfl, h]
  simp only [R.bind_ok, set_last]
  exact frz_insF rfl
theorem fTop (a b : Int) (M : Stor) : dFld ft_top (rat a b) M = .ok (.int a) M := rfl
theorem fBot (a b : Int) (M : Stor) : dFld ft_bottom (rat a b) M = .ok (.int b) M := rfl
/-- small numbers -/
abbrev Sm (a : Int) : Prop := a.natAbs < 2 ^ 1000
theorem mo {a b : Int} (ha : Sm a) (hb : Sm b) : mulOk a b = true := mulOk_of ha hb (by decide)
theorem prod_lt {b d : Nat} (hb : b < 2 ^ 1000) (hd : d < 2 ^ 1000) : b * d < 2 ^ 8000 := by
  have h1 : b * d < 2 ^ 1000 * 2 ^ 1000 := Nat.mul_lt_mul'' hb hd
  have h2 : (2 : Nat) ^ 1000 * 2 ^ 1000 = 2 ^ 2000 := by rw [← Nat.pow_add]
  have h3 : (2 : Nat) ^ 2000 ≤ 2 ^ 8000 := Nat.pow_le_pow_right (by decide) (by decide)
  omega
theorem ix_ref {M : Stor} {k : Nat} {l : List D} (h : M[k]? = some (.lst l)) (i : Int) : dIx (.ref k) (.int i) M = (match L2.atI l i with | some d => .ok d M | none => .no) := by
  unfold dIx seqOf lstOf; simp only [h]; try rfl
theorem at3_0 (a b c : D) : L2.atI [a, b, c] 0 = some a := rfl
theorem at3_1 (a b c : D) : L2.atI [a, b, c] 1 = some b := rfl
theorem at3_2 (a b c : D) : L2.atI [a, b, c] 2 = some c := rfl
theorem ixN3_1 : L2.ixN 3 1 = some 1 := rfl
theorem ixN3_2 : L2.ixN 3 2 = some 2 := rfl
theorem eqvAll_nil (l : List PyData) : PyData.eqvAll l [] = l.isEmpty := by cases l <;> simp [PyData.eqvAll]
theorem toPy_ints : ∀ zs : List Int, toPyL (zs.map D.int) = some (zs.map PyData.int)
  | [] => by simp [toPyL]
  | z :: zs => by simp only [List.map_cons, toPyL, toPy, toPy_ints zs]
theorem lay_ints : ∀ zs : List Int, PyData.canLayAll0 (zs.map PyData.int) = true
  | [] => by simp [PyData.canLayAll0]
  | z :: zs => by simp [PyData.canLayAll0, PyData.canLay0, lay_ints zs]
theorem dep_ints : ∀ zs : List Int, PyData.depthAll (zs.map PyData.int) = 0
  | [] => by simp [PyData.depthAll]
  | z :: zs => by simp [PyData.depthAll, PyData.depth, dep_ints zs]
theorem ne_empty (zs : List Int) (M : Stor) : dNe (.lst (zs.map D.int)) (.lst []) M = .ok (.bl (!zs.isEmpty)) M := by
  have s1 : SeqAt.shaped (.list (zs.map PyData.int)) = true := by simp [SeqAt.shaped, PyData.canLay0, lay_ints, PyData.depth, dep_ints]
  have s2 : SeqAt.shaped (.list []) = true := by simp [SeqAt.shaped, PyData.canLay0, PyData.canLayAll0, PyData.depth, PyData.depthAll]
  have e : dNeD (.lst (zs.map D.int)) (.lst []) M = .ok (.bl (!zs.isEmpty)) M := by
    unfold dNeD topPy
    simp only [toPy, toPy_ints, toPyL, Option.map_some, s1, s2, and_self, if_true, PyData.eqv, eqvAll_nil, List.isEmpty_map]
  show orR (dNeI (.lst (zs.map D.int)) (.lst []) M) (orR (dNeS (.lst (zs.map D.int)) (.lst []) M) (dNeD (.lst (zs.map D.int)) (.lst []) M)) = _
  rw [e]; rfl
/-- the pen: cells, the next index, what is left of a great cell -/
def Pen (M : Stor) (k : Nat) (zs : List Int) (at_ : Nat) : Prop := ∃ great : Int, M[k]? = some (.lst [.lst (zs.map D.int), .int at_, .int great])
theorem fmod_lt (a : Int) {m : Int} (h : 0 < m) : 0 ≤ a.fmod m ∧ a.fmod m < m := by
  rw [Int.fmod_eq_emod_of_nonneg a (by omega)]
  exact ⟨Int.emod_nonneg _ (by omega), Int.emod_lt_of_pos _ h⟩
theorem len_ints (zs : List Int) : ((zs.map D.int).length : Int) = (zs.length : Int) := by simp
theorem at_ints {zs : List Int} {i : Int} (h0 : 0 ≤ i) (h1 : i < zs.length) : ∃ z, L2.atI (zs.map D.int) i = some (.int z) := by
  refine ⟨zs[i.toNat]'(by omega), ?_⟩
  unfold L2.atI L2.ixN
  rw [if_pos h0, if_pos (by simpa using h1)]
  simp only [Option.bind_some, List.getElem?_map]
  rw [List.getElem?_eq_getElem (by omega)]; rfl
theorem ix_lst {M : Stor} {l : List D} (i : Int) : dIx (.lst l) (.int i) M = (match L2.atI l i with | some d => .ok d M | none => .no) := rfl
theorem draw_ok {M : Stor} {k : Nat} {zs : List Int} {at_ : Nat} {many : Int} (h : Pen M k zs at_) (ha : at_ ≤ 100000) (hm0 : 0 < many) (hm : many < 2 ^ 60) :
    ∃ r at' M', f__law_draw [.ref k, .int many] M = .ok (.int r) M' ∧ 0 ≤ r ∧ r < many ∧ at' ≤ at_ + 1 ∧ Pen M' k zs at' ∧ (∃ m, M' = M.set k m) := by
  obtain ⟨great, h⟩ := h
  have dm : divOk many = true := divOk_of (n := 61) (by omega) (by omega) (by decide)
  have mm : many ≠ 0 := by omega
  by_cases hg : 0 < great
  · refine ⟨great.fmod many, at_, _, ?_, (fmod_lt great hm0).1, (fmod_lt great hm0).2, by omega, ⟨great.fdiv many, set_self h⟩, ⟨_, rfl⟩⟩
    simp only [f__law_draw, b__law_draw, gFn, gSeq, gSkip, gRet, gRetN, gExpr, gSet, gIf, gAug, gAsg, gPar2, gPar3, gVar, gC, gBin, gUn, gTr, gAnd, gOr, gNot, gAndV, gOrV, gNotV, gIfE, gCall, G.gCons, G.gNil, G.gTup, G.gLst, gLstM, gSl, goSome, goNone, R.bind_ok, R.bind_ex, R.bind_no, R.bindS_ok, R.bindS_ex, R.bindS_no, outS_nx, outS_rt, outS_ex, orR_ok, orR_ex, orR_no, ggName, ggSub, List.getElem?_cons_zero, List.getElem?_cons_succ, List.set_cons_zero, List.set_cons_succ, List.map_cons, List.map_nil, List.length_cons, List.length_nil, List.replicate, List.append_nil, List.nil_append, List.cons_append, Nat.reduceAdd, Nat.reduceSub, Nat.reduceLeDiff, Nat.reduceLT, if_true, if_false, not_false_eq_true, Bool.false_eq_true, Bool.true_eq_false, Bool.not_true, Bool.not_false, decide_true, decide_false, decide_eq_true_eq, reduceIte, reduceCtorEq, eAdd, eAddI, eSub, eLt, eLe, eGt, eGe, eEq, eNe, eEqS, eNeS, eTru, eNeg, eAbs, eInt, eIntB, eLenL, eLenT, ix_ref h, at3_2, eMod mm, eDiv dm, hg, h, ixN3_2]
  · have hg' : ¬ (0 : Int) < great := hg
    have h1 := set_self (m' := .lst [.lst (zs.map D.int), .int ((at_ : Int) + 1), .int great]) h
    have m1 : mulOk 31066 (at_ : Int) = true := mulOk_left (by decide)
    have m2 : mulOk 50206 (at_ : Int) = true := mulOk_left (by decide)
    have m3 : mulOk 2 (at_ : Int) = true := mulOk_left (by decide)
    have m4 : mulOk 40208 (at_ : Int) = true := mulOk_left (by decide)
    have m5 : mulOk (40208 * (at_ : Int)) (at_ : Int) = true := mulOk_right (by omega)
    have p0 : powOk 10 18 = true := by decide
    have d32 : divOk 32 = true := by decide
    have n1 : (2147483497 : Int) ≠ 0 := by decide
    have n2 : (2147483563 : Int) ≠ 0 := by decide
    have n3 : (2147483587 : Int) ≠ 0 := by decide
    -- the mixed number
    have fin : ∀ (cell : Int), ∃ r : Int, (0 ≤ r ∧ r < many) ∧ ∀ (Γ : Gam) (M1 : Stor), Γ = [some (.ref k), some (.int many), none, some (.int at_), some (.int cell), none, none] →
        (gSeq (gSet 6 (gBin dModI (gCall fInt (G.gCons (gBin dPowI (gBin dAdd (gBin dAdd (gBin dModI (gCall fInt (G.gCons (gVar 4) G.gNil)) (gC (.int 2147483497))) (gBin dMul (gC (.int 50206)) (gVar 3))) (gC (.int 101))) (gC (.int 5))) G.gNil)) (gC (.int 2147483563))))
        (gSeq (gSet 6 (gBin dModI (gCall fInt (G.gCons (gBin dPowI (gBin dAdd (gBin dAdd (gBin dMul (gVar 6) (gBin dAdd (gBin dMul (gC (.int 2)) (gVar 3)) (gC (.int 93)))) (gBin dMul (gBin dMul (gC (.int 40208)) (gVar 3)) (gVar 3))) (gC (.int 32))) (gC (.int 3))) G.gNil)) (gC (.int 2147483587))))
        (gRet (gBin dModI (gCall fInt (G.gCons (gBin dDivI (gVar 6) (gC (.int 32))) G.gNil)) (gVar 1))))) Γ M1 = .rt (.int r) M1 := by
      intro cell
      have b1 := fmod_lt cell (m := 2147483497) (by decide)
      have q1 : powOk (cell.fmod 2147483497 + 50206 * (at_ : Int) + 101) 5 = true := by
        simp only [powOk, Bool.and_eq_true, decide_eq_true_eq]; refine ⟨⟨by decide, by decide⟩, ?_⟩; omega
      generalize hx : (cell.fmod 2147483497 + 50206 * (at_ : Int) + 101) ^ (5 : Int).toNat = x1
      have b2 := fmod_lt x1 (m := 2147483563) (by decide)
      have m6 : mulOk (x1.fmod 2147483563) (2 * (at_ : Int) + 93) = true := mulOk_left (by omega)
      have q2 : powOk (x1.fmod 2147483563 * (2 * (at_ : Int) + 93) + 40208 * (at_ : Int) * (at_ : Int) + 32) 3 = true := by
        simp only [powOk, Bool.and_eq_true, decide_eq_true_eq]; refine ⟨⟨by decide, by decide⟩, ?_⟩
        have z1 : 0 ≤ x1.fmod 2147483563 * (2 * (at_ : Int) + 93) := Int.mul_nonneg b2.1 (by omega)
        have z2 : x1.fmod 2147483563 * (2 * (at_ : Int) + 93) ≤ 2147483563 * 200093 := Int.mul_le_mul (by omega) (by omega) (by omega) (by decide)
        have z3 : 0 ≤ 40208 * (at_ : Int) * (at_ : Int) := Int.mul_nonneg (by omega) (by omega)
        have z4 : 40208 * (at_ : Int) * (at_ : Int) ≤ 40208 * 100000 * 100000 := Int.mul_le_mul (by omega) (by omega) (by omega) (by decide)
        omega
      generalize hy : (x1.fmod 2147483563 * (2 * (at_ : Int) + 93) + 40208 * (at_ : Int) * (at_ : Int) + 32) ^ (3 : Int).toNat = x2
      refine ⟨((x2.fmod 2147483587).fdiv 32).fmod many, fmod_lt _ hm0, fun Γ M1 e => ?_⟩
      subst e
      simp only [gFn, gSeq, gSkip, gRet, gRetN, gExpr, gSet, gIf, gAug, gAsg, gPar2, gPar3, gVar, gC, gBin, gUn, gTr, gAnd, gOr, gNot, gAndV, gOrV, gNotV, gIfE, gCall, G.gCons, G.gNil, G.gTup, G.gLst, gLstM, gSl, goSome, goNone, R.bind_ok, R.bind_ex, R.bind_no, R.bindS_ok, R.bindS_ex, R.bindS_no, outS_nx, outS_rt, outS_ex, orR_ok, orR_ex, orR_no, ggName, ggSub, List.getElem?_cons_zero, List.getElem?_cons_succ, List.set_cons_zero, List.set_cons_succ, List.map_cons, List.map_nil, List.length_cons, List.length_nil, List.replicate, List.append_nil, List.nil_append, List.cons_append, Nat.reduceAdd, Nat.reduceSub, Nat.reduceLeDiff, Nat.reduceLT, if_true, if_false, not_false_eq_true, Bool.false_eq_true, Bool.true_eq_false, Bool.not_true, Bool.not_false, decide_true, decide_false, decide_eq_true_eq, reduceIte, reduceCtorEq, eAdd, eAddI, eSub, eLt, eLe, eGt, eGe, eEq, eNe, eEqS, eNeS, eTru, eNeg, eAbs, eInt, eIntB, eLenL, eLenT, eMod mm, eDiv d32, eMod n1, eMod n2, eMod n3, eMul m2, eMul m3, eMul m4, eMul m5, ePow q1, hx, eMul m6, ePow q2, hy]
    -- the cell
    have cells : ∃ cell : Int, ∀ rest : GS', gSeq (gSet 4 (gBin dAdd (gBin dMul (gC (.int 31066)) (gVar 3)) (gC (.int 436))))
        (gSeq (gIf (gTr truD (gBin dNe (gBin dIx (gVar 0) (gC (.int 0))) (G.gLst G.gNil))) (gSet 4 (gBin dIx (gBin dIx (gVar 0) (gC (.int 0))) (gBin dModI (gCall fInt (G.gCons (gVar 3) G.gNil)) (gCall fLen (G.gCons (gBin dIx (gVar 0) (gC (.int 0))) G.gNil))))) gSkip) rest)
        [some (.ref k), some (.int many), none, some (.int at_), none, none, none] (M.set k (.lst [.lst (zs.map D.int), .int ((at_ : Int) + 1), .int great])) =
        rest [some (.ref k), some (.int many), none, some (.int at_), some (.int cell), none, none] (M.set k (.lst [.lst (zs.map D.int), .int ((at_ : Int) + 1), .int great])) := by
      by_cases hz : zs = []
      · have he : zs.isEmpty = true := by simp [hz]
        refine ⟨31066 * (at_ : Int) + 436, fun rest => ?_⟩
        rw [seq_nx (Γ1 := [some (.ref k), some (.int many), none, some (.int at_), some (.int (31066 * (at_ : Int) + 436)), none, none]) (by simp only [gFn, gSeq, gSkip, gRet, gRetN, gExpr, gSet, gIf, gAug, gAsg, gPar2, gPar3, gVar, gC, gBin, gUn, gTr, gAnd, gOr, gNot, gAndV, gOrV, gNotV, gIfE, gCall, G.gCons, G.gNil, G.gTup, G.gLst, gLstM, gSl, goSome, goNone, R.bind_ok, R.bind_ex, R.bind_no, R.bindS_ok, R.bindS_ex, R.bindS_no, outS_nx, outS_rt, outS_ex, orR_ok, orR_ex, orR_no, ggName, ggSub, List.getElem?_cons_zero, List.getElem?_cons_succ, List.set_cons_zero, List.set_cons_succ, List.map_cons, List.map_nil, List.length_cons, List.length_nil, List.replicate, List.append_nil, List.nil_append, List.cons_append, Nat.reduceAdd, Nat.reduceSub, Nat.reduceLeDiff, Nat.reduceLT, if_true, if_false, not_false_eq_true, Bool.false_eq_true, Bool.true_eq_false, Bool.not_true, Bool.not_false, decide_true, decide_false, decide_eq_true_eq, reduceIte, reduceCtorEq, eAdd, eAddI, eSub, eLt, eLe, eGt, eGe, eEq, eNe, eEqS, eNeS, eTru, eNeg, eAbs, eInt, eIntB, eLenL, eLenT, eMul m1] <;> rfl)]
        rw [seq_nx (by rw [if_f (by simp only [gFn, gSeq, gSkip, gRet, gRetN, gExpr, gSet, gIf, gAug, gAsg, gPar2, gPar3, gVar, gC, gBin, gUn, gTr, gAnd, gOr, gNot, gAndV, gOrV, gNotV, gIfE, gCall, G.gCons, G.gNil, G.gTup, G.gLst, gLstM, gSl, goSome, goNone, R.bind_ok, R.bind_ex, R.bind_no, R.bindS_ok, R.bindS_ex, R.bindS_no, outS_nx, outS_rt, outS_ex, orR_ok, orR_ex, orR_no, ggName, ggSub, List.getElem?_cons_zero, List.getElem?_cons_succ, List.set_cons_zero, List.set_cons_succ, List.map_cons, List.map_nil, List.length_cons, List.length_nil, List.replicate, List.append_nil, List.nil_append, List.cons_append, Nat.reduceAdd, Nat.reduceSub, Nat.reduceLeDiff, Nat.reduceLT, if_true, if_false, not_false_eq_true, Bool.false_eq_true, Bool.true_eq_false, Bool.not_true, Bool.not_false, decide_true, decide_false, decide_eq_true_eq, reduceIte, reduceCtorEq, eAdd, eAddI, eSub, eLt, eLe, eGt, eGe, eEq, eNe, eEqS, eNeS, eTru, eNeg, eAbs, eInt, eIntB, eLenL, eLenT, ix_ref h1, at3_0, ne_empty, he] <;> rfl)]; rfl)]
      · have hl : 0 < zs.length := List.length_pos_iff.mpr hz
        have he : zs.isEmpty = false := by simpa using hz
        have hl' : ((zs.length : Nat) : Int) ≠ 0 := by omega
        obtain ⟨z, ez⟩ := at_ints (zs := zs) (fmod_lt (at_ : Int) (m := zs.length) (by omega)).1 (fmod_lt (at_ : Int) (m := zs.length) (by omega)).2
        refine ⟨z, fun rest => ?_⟩
        rw [seq_nx (Γ1 := [some (.ref k), some (.int many), none, some (.int at_), some (.int (31066 * (at_ : Int) + 436)), none, none]) (by simp only [gFn, gSeq, gSkip, gRet, gRetN, gExpr, gSet, gIf, gAug, gAsg, gPar2, gPar3, gVar, gC, gBin, gUn, gTr, gAnd, gOr, gNot, gAndV, gOrV, gNotV, gIfE, gCall, G.gCons, G.gNil, G.gTup, G.gLst, gLstM, gSl, goSome, goNone, R.bind_ok, R.bind_ex, R.bind_no, R.bindS_ok, R.bindS_ex, R.bindS_no, outS_nx, outS_rt, outS_ex, orR_ok, orR_ex, orR_no, ggName, ggSub, List.getElem?_cons_zero, List.getElem?_cons_succ, List.set_cons_zero, List.set_cons_succ, List.map_cons, List.map_nil, List.length_cons, List.length_nil, List.replicate, List.append_nil, List.nil_append, List.cons_append, Nat.reduceAdd, Nat.reduceSub, Nat.reduceLeDiff, Nat.reduceLT, if_true, if_false, not_false_eq_true, Bool.false_eq_true, Bool.true_eq_false, Bool.not_true, Bool.not_false, decide_true, decide_false, decide_eq_true_eq, reduceIte, reduceCtorEq, eAdd, eAddI, eSub, eLt, eLe, eGt, eGe, eEq, eNe, eEqS, eNeS, eTru, eNeg, eAbs, eInt, eIntB, eLenL, eLenT, eMul m1] <;> rfl)]
        rw [seq_nx (by
          rw [if_t (by simp only [gFn, gSeq, gSkip, gRet, gRetN, gExpr, gSet, gIf, gAug, gAsg, gPar2, gPar3, gVar, gC, gBin, gUn, gTr, gAnd, gOr, gNot, gAndV, gOrV, gNotV, gIfE, gCall, G.gCons, G.gNil, G.gTup, G.gLst, gLstM, gSl, goSome, goNone, R.bind_ok, R.bind_ex, R.bind_no, R.bindS_ok, R.bindS_ex, R.bindS_no, outS_nx, outS_rt, outS_ex, orR_ok, orR_ex, orR_no, ggName, ggSub, List.getElem?_cons_zero, List.getElem?_cons_succ, List.set_cons_zero, List.set_cons_succ, List.map_cons, List.map_nil, List.length_cons, List.length_nil, List.replicate, List.append_nil, List.nil_append, List.cons_append, Nat.reduceAdd, Nat.reduceSub, Nat.reduceLeDiff, Nat.reduceLT, if_true, if_false, not_false_eq_true, Bool.false_eq_true, Bool.true_eq_false, Bool.not_true, Bool.not_false, decide_true, decide_false, decide_eq_true_eq, reduceIte, reduceCtorEq, eAdd, eAddI, eSub, eLt, eLe, eGt, eGe, eEq, eNe, eEqS, eNeS, eTru, eNeg, eAbs, eInt, eIntB, eLenL, eLenT, ix_ref h1, at3_0, ne_empty, he] <;> rfl)]
          simp only [gFn, gSeq, gSkip, gRet, gRetN, gExpr, gSet, gIf, gAug, gAsg, gPar2, gPar3, gVar, gC, gBin, gUn, gTr, gAnd, gOr, gNot, gAndV, gOrV, gNotV, gIfE, gCall, G.gCons, G.gNil, G.gTup, G.gLst, gLstM, gSl, goSome, goNone, R.bind_ok, R.bind_ex, R.bind_no, R.bindS_ok, R.bindS_ex, R.bindS_no, outS_nx, outS_rt, outS_ex, orR_ok, orR_ex, orR_no, ggName, ggSub, List.getElem?_cons_zero, List.getElem?_cons_succ, List.set_cons_zero, List.set_cons_succ, List.map_cons, List.map_nil, List.length_cons, List.length_nil, List.replicate, List.append_nil, List.nil_append, List.cons_append, Nat.reduceAdd, Nat.reduceSub, Nat.reduceLeDiff, Nat.reduceLT, if_true, if_false, not_false_eq_true, Bool.false_eq_true, Bool.true_eq_false, Bool.not_true, Bool.not_false, decide_true, decide_false, decide_eq_true_eq, reduceIte, reduceCtorEq, eAdd, eAddI, eSub, eLt, eLe, eGt, eGe, eEq, eNe, eEqS, eNeS, eTru, eNeg, eAbs, eInt, eIntB, eLenL, eLenT, ix_ref h1, at3_0, len_ints, eMod hl', ix_lst, ez] <;> rfl)]
    obtain ⟨cell, hcell⟩ := cells
    obtain ⟨r, hr, hfin⟩ := fin cell
    by_cases hbig : (at_ : Int) < zs.length ∧ (10 : Int) ^ 18 ≤ cell.natAbs
    · have p1 : (10 : Int) ^ (18 : Int).toNat = 10 ^ 18 := rfl
      have h2 := set_self (m' := .lst [.lst (zs.map D.int), .int ((at_ : Int) + 1), .int ((2 * ((cell.natAbs : Int) - 10 ^ 18) + (if cell < 0 then 1 else 0)).fdiv many)]) h1
      have m7 : mulOk 2 ((cell.natAbs : Int) - 10 ^ 18) = true := mulOk_left (by decide)
      refine ⟨(2 * ((cell.natAbs : Int) - 10 ^ 18) + (if cell < 0 then 1 else 0)).fmod many, at_ + 1, _, ?_, (fmod_lt _ hm0).1, (fmod_lt _ hm0).2, Nat.le_refl _, ⟨_, by rw [List.set_set] at h2; exact h2⟩, ⟨_, rfl⟩⟩
      refine fn_rt rfl ?_
      show b__law_draw [some (.ref k), some (.int many), none, none, none, none, none] M = _
      unfold b__law_draw
      rw [seq_nx (by rw [if_f (by simp only [gFn, gSeq, gSkip, gRet, gRetN, gExpr, gSet, gIf, gAug, gAsg, gPar2, gPar3, gVar, gC, gBin, gUn, gTr, gAnd, gOr, gNot, gAndV, gOrV, gNotV, gIfE, gCall, G.gCons, G.gNil, G.gTup, G.gLst, gLstM, gSl, goSome, goNone, R.bind_ok, R.bind_ex, R.bind_no, R.bindS_ok, R.bindS_ex, R.bindS_no, outS_nx, outS_rt, outS_ex, orR_ok, orR_ex, orR_no, ggName, ggSub, List.getElem?_cons_zero, List.getElem?_cons_succ, List.set_cons_zero, List.set_cons_succ, List.map_cons, List.map_nil, List.length_cons, List.length_nil, List.replicate, List.append_nil, List.nil_append, List.cons_append, Nat.reduceAdd, Nat.reduceSub, Nat.reduceLeDiff, Nat.reduceLT, if_true, if_false, not_false_eq_true, Bool.false_eq_true, Bool.true_eq_false, Bool.not_true, Bool.not_false, decide_true, decide_false, decide_eq_true_eq, reduceIte, reduceCtorEq, eAdd, eAddI, eSub, eLt, eLe, eGt, eGe, eEq, eNe, eEqS, eNeS, eTru, eNeg, eAbs, eInt, eIntB, eLenL, eLenT, ix_ref h, at3_2, hg'] <;> rfl)]; rfl)]
      rw [seq_nx (Γ1 := [some (.ref k), some (.int many), none, some (.int at_), none, none, none]) (by simp only [gFn, gSeq, gSkip, gRet, gRetN, gExpr, gSet, gIf, gAug, gAsg, gPar2, gPar3, gVar, gC, gBin, gUn, gTr, gAnd, gOr, gNot, gAndV, gOrV, gNotV, gIfE, gCall, G.gCons, G.gNil, G.gTup, G.gLst, gLstM, gSl, goSome, goNone, R.bind_ok, R.bind_ex, R.bind_no, R.bindS_ok, R.bindS_ex, R.bindS_no, outS_nx, outS_rt, outS_ex, orR_ok, orR_ex, orR_no, ggName, ggSub, List.getElem?_cons_zero, List.getElem?_cons_succ, List.set_cons_zero, List.set_cons_succ, List.map_cons, List.map_nil, List.length_cons, List.length_nil, List.replicate, List.append_nil, List.nil_append, List.cons_append, Nat.reduceAdd, Nat.reduceSub, Nat.reduceLeDiff, Nat.reduceLT, if_true, if_false, not_false_eq_true, Bool.false_eq_true, Bool.true_eq_false, Bool.not_true, Bool.not_false, decide_true, decide_false, decide_eq_true_eq, reduceIte, reduceCtorEq, eAdd, eAddI, eSub, eLt, eLe, eGt, eGe, eEq, eNe, eEqS, eNeS, eTru, eNeg, eAbs, eInt, eIntB, eLenL, eLenT, ix_ref h, at3_1] <;> rfl)]
      rw [seq_nx (by simp only [gFn, gSeq, gSkip, gRet, gRetN, gExpr, gSet, gIf, gAug, gAsg, gPar2, gPar3, gVar, gC, gBin, gUn, gTr, gAnd, gOr, gNot, gAndV, gOrV, gNotV, gIfE, gCall, G.gCons, G.gNil, G.gTup, G.gLst, gLstM, gSl, goSome, goNone, R.bind_ok, R.bind_ex, R.bind_no, R.bindS_ok, R.bindS_ex, R.bindS_no, outS_nx, outS_rt, outS_ex, orR_ok, orR_ex, orR_no, ggName, ggSub, List.getElem?_cons_zero, List.getElem?_cons_succ, List.set_cons_zero, List.set_cons_succ, List.map_cons, List.map_nil, List.length_cons, List.length_nil, List.replicate, List.append_nil, List.nil_append, List.cons_append, Nat.reduceAdd, Nat.reduceSub, Nat.reduceLeDiff, Nat.reduceLT, if_true, if_false, not_false_eq_true, Bool.false_eq_true, Bool.true_eq_false, Bool.not_true, Bool.not_false, decide_true, decide_false, decide_eq_true_eq, reduceIte, reduceCtorEq, eAdd, eAddI, eSub, eLt, eLe, eGt, eGe, eEq, eNe, eEqS, eNeS, eTru, eNeg, eAbs, eInt, eIntB, eLenL, eLenT, h, ixN3_1] <;> rfl)]
      rw [hcell]
      refine seq_rt ?_
      rw [if_t (by simp only [gFn, gSeq, gSkip, gRet, gRetN, gExpr, gSet, gIf, gAug, gAsg, gPar2, gPar3, gVar, gC, gBin, gUn, gTr, gAnd, gOr, gNot, gAndV, gOrV, gNotV, gIfE, gCall, G.gCons, G.gNil, G.gTup, G.gLst, gLstM, gSl, goSome, goNone, R.bind_ok, R.bind_ex, R.bind_no, R.bindS_ok, R.bindS_ex, R.bindS_no, outS_nx, outS_rt, outS_ex, orR_ok, orR_ex, orR_no, ggName, ggSub, List.getElem?_cons_zero, List.getElem?_cons_succ, List.set_cons_zero, List.set_cons_succ, List.map_cons, List.map_nil, List.length_cons, List.length_nil, List.replicate, List.append_nil, List.nil_append, List.cons_append, Nat.reduceAdd, Nat.reduceSub, Nat.reduceLeDiff, Nat.reduceLT, if_true, if_false, not_false_eq_true, Bool.false_eq_true, Bool.true_eq_false, Bool.not_true, Bool.not_false, decide_true, decide_false, decide_eq_true_eq, reduceIte, reduceCtorEq, eAdd, eAddI, eSub, eLt, eLe, eGt, eGe, eEq, eNe, eEqS, eNeS, eTru, eNeg, eAbs, eInt, eIntB, eLenL, eLenT, ix_ref h1, at3_0, len_ints, ePow p0, p1, hbig.1, hbig.2] <;> rfl)]
      simp only [gFn, gSeq, gSkip, gRet, gRetN, gExpr, gSet, gIf, gAug, gAsg, gPar2, gPar3, gVar, gC, gBin, gUn, gTr, gAnd, gOr, gNot, gAndV, gOrV, gNotV, gIfE, gCall, G.gCons, G.gNil, G.gTup, G.gLst, gLstM, gSl, goSome, goNone, R.bind_ok, R.bind_ex, R.bind_no, R.bindS_ok, R.bindS_ex, R.bindS_no, outS_nx, outS_rt, outS_ex, orR_ok, orR_ex, orR_no, ggName, ggSub, List.getElem?_cons_zero, List.getElem?_cons_succ, List.set_cons_zero, List.set_cons_succ, List.map_cons, List.map_nil, List.length_cons, List.length_nil, List.replicate, List.append_nil, List.nil_append, List.cons_append, Nat.reduceAdd, Nat.reduceSub, Nat.reduceLeDiff, Nat.reduceLT, if_true, if_false, not_false_eq_true, Bool.false_eq_true, Bool.true_eq_false, Bool.not_true, Bool.not_false, decide_true, decide_false, decide_eq_true_eq, reduceIte, reduceCtorEq, eAdd, eAddI, eSub, eLt, eLe, eGt, eGe, eEq, eNe, eEqS, eNeS, eTru, eNeg, eAbs, eInt, eIntB, eLenL, eLenT, ePow p0, p1, eMul m7, eMod mm, eDiv dm, h1, ixN3_2, List.set_set]
    · refine ⟨r, at_ + 1, _, ?_, hr.1, hr.2, Nat.le_refl _, ⟨_, h1⟩, ⟨_, rfl⟩⟩
      refine fn_rt rfl ?_
      show b__law_draw [some (.ref k), some (.int many), none, none, none, none, none] M = _
      unfold b__law_draw
      rw [seq_nx (by rw [if_f (by simp only [gFn, gSeq, gSkip, gRet, gRetN, gExpr, gSet, gIf, gAug, gAsg, gPar2, gPar3, gVar, gC, gBin, gUn, gTr, gAnd, gOr, gNot, gAndV, gOrV, gNotV, gIfE, gCall, G.gCons, G.gNil, G.gTup, G.gLst, gLstM, gSl, goSome, goNone, R.bind_ok, R.bind_ex, R.bind_no, R.bindS_ok, R.bindS_ex, R.bindS_no, outS_nx, outS_rt, outS_ex, orR_ok, orR_ex, orR_no, ggName, ggSub, List.getElem?_cons_zero, List.getElem?_cons_succ, List.set_cons_zero, List.set_cons_succ, List.map_cons, List.map_nil, List.length_cons, List.length_nil, List.replicate, List.append_nil, List.nil_append, List.cons_append, Nat.reduceAdd, Nat.reduceSub, Nat.reduceLeDiff, Nat.reduceLT, if_true, if_false, not_false_eq_true, Bool.false_eq_true, Bool.true_eq_false, Bool.not_true, Bool.not_false, decide_true, decide_false, decide_eq_true_eq, reduceIte, reduceCtorEq, eAdd, eAddI, eSub, eLt, eLe, eGt, eGe, eEq, eNe, eEqS, eNeS, eTru, eNeg, eAbs, eInt, eIntB, eLenL, eLenT, ix_ref h, at3_2, hg'] <;> rfl)]; rfl)]
      rw [seq_nx (Γ1 := [some (.ref k), some (.int many), none, some (.int at_), none, none, none]) (by simp only [gFn, gSeq, gSkip, gRet, gRetN, gExpr, gSet, gIf, gAug, gAsg, gPar2, gPar3, gVar, gC, gBin, gUn, gTr, gAnd, gOr, gNot, gAndV, gOrV, gNotV, gIfE, gCall, G.gCons, G.gNil, G.gTup, G.gLst, gLstM, gSl, goSome, goNone, R.bind_ok, R.bind_ex, R.bind_no, R.bindS_ok, R.bindS_ex, R.bindS_no, outS_nx, outS_rt, outS_ex, orR_ok, orR_ex, orR_no, ggName, ggSub, List.getElem?_cons_zero, List.getElem?_cons_succ, List.set_cons_zero, List.set_cons_succ, List.map_cons, List.map_nil, List.length_cons, List.length_nil, List.replicate, List.append_nil, List.nil_append, List.cons_append, Nat.reduceAdd, Nat.reduceSub, Nat.reduceLeDiff, Nat.reduceLT, if_true, if_false, not_false_eq_true, Bool.false_eq_true, Bool.true_eq_false, Bool.not_true, Bool.not_false, decide_true, decide_false, decide_eq_true_eq, reduceIte, reduceCtorEq, eAdd, eAddI, eSub, eLt, eLe, eGt, eGe, eEq, eNe, eEqS, eNeS, eTru, eNeg, eAbs, eInt, eIntB, eLenL, eLenT, ix_ref h, at3_1] <;> rfl)]
      rw [seq_nx (by simp only [gFn, gSeq, gSkip, gRet, gRetN, gExpr, gSet, gIf, gAug, gAsg, gPar2, gPar3, gVar, gC, gBin, gUn, gTr, gAnd, gOr, gNot, gAndV, gOrV, gNotV, gIfE, gCall, G.gCons, G.gNil, G.gTup, G.gLst, gLstM, gSl, goSome, goNone, R.bind_ok, R.bind_ex, R.bind_no, R.bindS_ok, R.bindS_ex, R.bindS_no, outS_nx, outS_rt, outS_ex, orR_ok, orR_ex, orR_no, ggName, ggSub, List.getElem?_cons_zero, List.getElem?_cons_succ, List.set_cons_zero, List.set_cons_succ, List.map_cons, List.map_nil, List.length_cons, List.length_nil, List.replicate, List.append_nil, List.nil_append, List.cons_append, Nat.reduceAdd, Nat.reduceSub, Nat.reduceLeDiff, Nat.reduceLT, if_true, if_false, not_false_eq_true, Bool.false_eq_true, Bool.true_eq_false, Bool.not_true, Bool.not_false, decide_true, decide_false, decide_eq_true_eq, reduceIte, reduceCtorEq, eAdd, eAddI, eSub, eLt, eLe, eGt, eGe, eEq, eNe, eEqS, eNeS, eTru, eNeg, eAbs, eInt, eIntB, eLenL, eLenT, h, ixN3_1] <;> rfl)]
      rw [hcell]
      have p1 : (10 : Int) ^ (18 : Int).toNat = 10 ^ 18 := rfl
      rw [seq_nx (by
        rw [if_f (by
          by_cases hq : (at_ : Int) < zs.length
          · have hn : ¬ (10 : Int) ^ 18 ≤ cell.natAbs := fun z => hbig ⟨hq, z⟩
            simp only [gFn, gSeq, gSkip, gRet, gRetN, gExpr, gSet, gIf, gAug, gAsg, gPar2, gPar3, gVar, gC, gBin, gUn, gTr, gAnd, gOr, gNot, gAndV, gOrV, gNotV, gIfE, gCall, G.gCons, G.gNil, G.gTup, G.gLst, gLstM, gSl, goSome, goNone, R.bind_ok, R.bind_ex, R.bind_no, R.bindS_ok, R.bindS_ex, R.bindS_no, outS_nx, outS_rt, outS_ex, orR_ok, orR_ex, orR_no, ggName, ggSub, List.getElem?_cons_zero, List.getElem?_cons_succ, List.set_cons_zero, List.set_cons_succ, List.map_cons, List.map_nil, List.length_cons, List.length_nil, List.replicate, List.append_nil, List.nil_append, List.cons_append, Nat.reduceAdd, Nat.reduceSub, Nat.reduceLeDiff, Nat.reduceLT, if_true, if_false, not_false_eq_true, Bool.false_eq_true, Bool.true_eq_false, Bool.not_true, Bool.not_false, decide_true, decide_false, decide_eq_true_eq, reduceIte, reduceCtorEq, eAdd, eAddI, eSub, eLt, eLe, eGt, eGe, eEq, eNe, eEqS, eNeS, eTru, eNeg, eAbs, eInt, eIntB, eLenL, eLenT, ix_ref h1, at3_0, len_ints, ePow p0, p1, hq, hn] <;> rfl
          · simp only [gFn, gSeq, gSkip, gRet, gRetN, gExpr, gSet, gIf, gAug, gAsg, gPar2, gPar3, gVar, gC, gBin, gUn, gTr, gAnd, gOr, gNot, gAndV, gOrV, gNotV, gIfE, gCall, G.gCons, G.gNil, G.gTup, G.gLst, gLstM, gSl, goSome, goNone, R.bind_ok, R.bind_ex, R.bind_no, R.bindS_ok, R.bindS_ex, R.bindS_no, outS_nx, outS_rt, outS_ex, orR_ok, orR_ex, orR_no, ggName, ggSub, List.getElem?_cons_zero, List.getElem?_cons_succ, List.set_cons_zero, List.set_cons_succ, List.map_cons, List.map_nil, List.length_cons, List.length_nil, List.replicate, List.append_nil, List.nil_append, List.cons_append, Nat.reduceAdd, Nat.reduceSub, Nat.reduceLeDiff, Nat.reduceLT, if_true, if_false, not_false_eq_true, Bool.false_eq_true, Bool.true_eq_false, Bool.not_true, Bool.not_false, decide_true, decide_false, decide_eq_true_eq, reduceIte, reduceCtorEq, eAdd, eAddI, eSub, eLt, eLe, eGt, eGe, eEq, eNe, eEqS, eNeS, eTru, eNeg, eAbs, eInt, eIntB, eLenL, eLenT, ix_ref h1, at3_0, len_ints, hq] <;> rfl)]
        rfl)]
      exact hfin _ _ rfl
abbrev pairD (a b : Int) : D := .tup [.int a, .int b]
theorem lowP_cop {a : Int} {b : Nat} (h : Nat.gcd a.natAbs b = 1) : lowP a b = (a, (b : Int)) := by
  unfold lowP; rw [h]; simp
theorem lowP_cop1 {a : Int} : lowP a 1 = (a, 1) := by
  have : Nat.gcd a.natAbs 1 = 1 := Nat.gcd_one_right _
  rw [lowP_cop this]; rfl
/-- what lowest terms are -/
theorem lowP_ok (a : Int) {b : Nat} (h : 0 < b) : ∃ (u : Int) (l : Nat), lowP a b = (u, (l : Int)) ∧ 0 < l ∧ l ≤ b ∧ u.natAbs ≤ a.natAbs ∧ Nat.gcd u.natAbs l = 1 := by
  have hg := gcd_pos a h
  have d1 : Nat.gcd a.natAbs b ∣ a.natAbs := Nat.gcd_dvd_left _ _
  have d2 : Nat.gcd a.natAbs b ∣ b := Nat.gcd_dvd_right _ _
  refine ⟨a / (Nat.gcd a.natAbs b : Nat), b / Nat.gcd a.natAbs b, by unfold lowP; rw [Int.natCast_ediv], Nat.div_pos (Nat.le_of_dvd h d2) hg, Nat.div_le_self _ _, ?_, ?_⟩
  · have : ((Nat.gcd a.natAbs b : Nat) : Int) ∣ a := Int.ofNat_dvd_left.mpr d1
    rw [Int.natAbs_ediv_of_dvd this]; exact Nat.div_le_self _ _
  · have : ((Nat.gcd a.natAbs b : Nat) : Int) ∣ a := Int.ofNat_dvd_left.mpr d1
    rw [Int.natAbs_ediv_of_dvd this, Int.natAbs_natCast, Nat.gcd_div d1 d2, Nat.div_self hg]
theorem low_ok (a : Int) (b : Nat) (M : Stor) (hb0 : 0 < b) (hb : b < 2 ^ 8000) : f__law_low [.int a, .int b] M = .ok (pairD (lowP a b).1 (lowP a b).2) M := by
  have h := gcd_loop (gTr truD (gBin dNe (gVar 3) (gC (.int 0)))) (gPar2 2 3 (G.gCons (gVar 3) (G.gCons (gBin dModI (gCall fInt (G.gCons (gVar 2) G.gNil)) (gVar 3)) G.gNil))) (some (.int a)) (some (.int b)) M (fun x y => rfl) (fun x y hy => by
    simp only [gFn, gSeq, gSkip, gRet, gRetN, gExpr, gSet, gIf, gAug, gAsg, gPar2, gPar3, gVar, gC, gBin, gUn, gTr, gAnd, gOr, gNot, gAndV, gOrV, gNotV, gIfE, gCall, G.gCons, G.gNil, G.gTup, G.gLst, gLstM, gSl, goSome, goNone, R.bind_ok, R.bind_ex, R.bind_no, R.bindS_ok, R.bindS_ex, R.bindS_no, outS_nx, outS_rt, outS_ex, orR_ok, orR_ex, orR_no, ggName, ggSub, List.getElem?_cons_zero, List.getElem?_cons_succ, List.set_cons_zero, List.set_cons_succ, List.map_cons, List.map_nil, List.length_cons, List.length_nil, List.replicate, List.append_nil, List.nil_append, List.cons_append, Nat.reduceAdd, Nat.reduceSub, Nat.reduceLeDiff, Nat.reduceLT, if_true, if_false, not_false_eq_true, Bool.false_eq_true, Bool.true_eq_false, Bool.not_true, Bool.not_false, decide_true, decide_false, decide_eq_true_eq, reduceIte, reduceCtorEq, eAdd, eAddI, eSub, eLt, eLe, eGt, eGe, eEq, eNe, eEqS, eNeS, eTru, eNeg, eAbs, eInt, eIntB, eLenL, eLenT, eMod hy]) fuel a.natAbs b (Nat.lt_of_lt_of_le hb (fuel_ge (Nat.pow_le_pow_right (by decide) (by decide))))
  have hd := gcd_div a hb0 hb (by decide)
  simp only [f__law_low, b__law_low, gFn, gSeq, gSkip, gRet, gRetN, gExpr, gSet, gIf, gAug, gAsg, gPar2, gPar3, gVar, gC, gBin, gUn, gTr, gAnd, gOr, gNot, gAndV, gOrV, gNotV, gIfE, gCall, G.gCons, G.gNil, G.gTup, G.gLst, gLstM, gSl, goSome, goNone, R.bind_ok, R.bind_ex, R.bind_no, R.bindS_ok, R.bindS_ex, R.bindS_no, outS_nx, outS_rt, outS_ex, orR_ok, orR_ex, orR_no, ggName, ggSub, List.getElem?_cons_zero, List.getElem?_cons_succ, List.set_cons_zero, List.set_cons_succ, List.map_cons, List.map_nil, List.length_cons, List.length_nil, List.replicate, List.append_nil, List.nil_append, List.cons_append, Nat.reduceAdd, Nat.reduceSub, Nat.reduceLeDiff, Nat.reduceLT, if_true, if_false, not_false_eq_true, Bool.false_eq_true, Bool.true_eq_false, Bool.not_true, Bool.not_false, decide_true, decide_false, decide_eq_true_eq, reduceIte, reduceCtorEq, eAdd, eAddI, eSub, eLt, eLe, eGt, eGe, eEq, eNe, eEqS, eNeS, eTru, eNeg, eAbs, eInt, eIntB, eLenL, eLenT, h, eDiv hd, fdiv_nat, lowP]
/-! ### repr of a pair -/
theorem repr_pair {a b : Int} (ha : Sm a) (hb : Sm b) : ∃ s : Str, ∀ M, fRepr [pairD a b] M = .ok (.str s) M := by
  refine ⟨(PyData.tuple [.int a, .int b]).shown, fun M => ?_⟩
  have la : a.natAbs.log2 < 1000 := log2_of ha (by decide)
  have lb : b.natAbs.log2 < 1000 := log2_of hb (by decide)
  have ok : reprOk (.tuple [.int a, .int b]) = true := by
    have t1 := int_text_length_le (a := a) (k := 1000) (by decide) la
    have t2 := int_text_length_le (a := b) (k := 1000) (by decide) lb
    have t := tupleText_len_le [Str.ofString (toString a), Str.ofString (toString b)]
    have e1 : (Str.ofString (toString a)).length = (toString a).length := ofString_length _
    have e2 : (Str.ofString (toString b)).length = (toString b).length := ofString_length _
    simp only [reprOk, Bool.and_eq_true, decide_eq_true_eq, Bool.not_eq_true']
    refine ⟨⟨⟨?_, ?_⟩, ?_⟩, ?_⟩
    · simp only [PyData.showable, PyData.showableAll, Bool.and_eq_true, decide_eq_true_eq]
      exact ⟨by omega, by omega, trivial⟩
    · simp [PyData.hasDict, PyData.hasDictAll]
    · simp [PyData.depth, PyData.depthAll]
    · simp only [PyData.shown, PyData.shownAll]
      simp only [List.map_cons, List.map_nil, List.sum_cons, List.sum_nil, List.length_cons, List.length_nil, e1, e2] at t
      refine Nat.le_trans t ?_
      omega
  have tp : topPy (pairD a b) M = some (.tuple [.int a, .int b]) := by simp [topPy, toPy, toPyL]
  show (match topPy (pairD a b) M with
      | some p => if reprOk p then R.ok (D.str p.shown) M else R.no
      | none => R.no) = _
  rw [tp]
  simp only [ok, if_true]
theorem isR (a b : Int) (M : Stor) : fIsi isOk isTab [rat a b, .cls 5] M = .ok (.bl true) M := rfl
theorem at_nat {l : List D} {i : Nat} {d : D} (h : l[i]? = some d) : L2.atI l (i : Int) = some d := by
  have hi : i < l.length := (List.getElem?_eq_some_iff.mp h).1
  unfold L2.atI L2.ixN
  rw [if_pos (by omega), if_pos (by omega)]
  simpa using h
theorem range1_ok {a : GA'} {Γ : Gam} {M M1 : Stor} {n : Nat} (h : a Γ M = .ok [.int n] M1) (hn : n < 100000) : giRange1 a Γ M = .ok (upFrom 0 n, anyS) M1 := by
  have h1 : ((n : Nat) : Int) < 4611686018427387904 := by omega
  have h2 : -4611686018427387904 ≤ ((n : Nat) : Int) := by omega
  have e : (2 : Int) ^ 62 = 4611686018427387904 := by decide
  unfold giRange1
  rw [h, R.bind_ok]
  generalize hxs : [D.int n] = xs
  split
  · rename_i j
    have hj : j = (n : Int) := by
      have := List.head_eq_of_cons_eq hxs
      injection this with q; exact q.symm
    subst hj
    rw [e, if_pos ⟨h2, h1⟩, Int.toNat_natCast]
  · rename_i q
    exact absurd hxs.symm (q _)
/-! ### the operators -/
theorem mk1 (n : Int) : mkR n 1 = rat n 1 := by unfold mkR; rw [lowP_cop1]
theorem of_int (n : Int) (M : Stor) : f_Ratio_of [.int n] M = .ok (rat n 1) M := by
  have e : fIsi isOk isTab [.int n, .cls 5] M = .ok (.bl false) M := rfl
  simp only [f_Ratio_of, b_Ratio_of, gFn, gSeq, gSkip, gRet, gRetN, gExpr, gSet, gIf, gAug, gAsg, gPar2, gPar3, gVar, gC, gBin, gUn, gTr, gAnd, gOr, gNot, gAndV, gOrV, gNotV, gIfE, gCall, G.gCons, G.gNil, G.gTup, G.gLst, gLstM, gSl, goSome, goNone, R.bind_ok, R.bind_ex, R.bind_no, R.bindS_ok, R.bindS_ex, R.bindS_no, outS_nx, outS_rt, outS_ex, orR_ok, orR_ex, orR_no, ggName, ggSub, List.getElem?_cons_zero, List.getElem?_cons_succ, List.set_cons_zero, List.set_cons_succ, List.map_cons, List.map_nil, List.length_cons, List.length_nil, List.replicate, List.append_nil, List.nil_append, List.cons_append, Nat.reduceAdd, Nat.reduceSub, Nat.reduceLeDiff, Nat.reduceLT, if_true, if_false, not_false_eq_true, Bool.false_eq_true, Bool.true_eq_false, Bool.not_true, Bool.not_false, decide_true, decide_false, decide_eq_true_eq, reduceIte, reduceCtorEq, eAdd, eAddI, eSub, eLt, eLe, eGt, eGe, eEq, eNe, eEqS, eNeS, eTru, eNeg, eAbs, eInt, eIntB, eLenL, eLenT, e, isint, make1_ok, mk1]
/-- an operand, and the fraction for which it stands -/
inductive Opd : D → Int → Nat → Prop
  | r (a : Int) (b : Nat) : Opd (rat a b) a b
  | n (a : Int) (b : Nat) (h : b = 1) : Opd (.int a) a b
theorem of_opd {x : D} {a : Int} {b : Nat} (h : Opd x a b) (M : Stor) : f_Ratio_of [x] M = .ok (rat a b) M := by
  cases h with
  | r => exact of_rat a b M
  | n _ _ h => subst h; exact of_int _ M
def isI : D → Bool
  | .int _ => true
  | _ => false
/-- a fraction of the law: in lowest terms and not too great -/
def Fr (a : Int) (b : Nat) : Prop := a.natAbs < 2 ^ 100 ∧ 0 < b ∧ b < 2 ^ 100 ∧ Nat.gcd a.natAbs b = 1
theorem sm_of {a : Int} (h : a.natAbs < 2 ^ 500) : Sm a := Nat.lt_of_lt_of_le h (Nat.pow_le_pow_right (by decide) (by decide))
theorem big_of {a : Nat} (h : a < 2 ^ 100) : a < 2 ^ 1000 := Nat.lt_of_lt_of_le h (Nat.pow_le_pow_right (by decide) (by decide))
theorem huge_of {a : Nat} (h : a < 2 ^ 500) : a < 2 ^ 8000 := Nat.lt_of_lt_of_le h (Nat.pow_le_pow_right (by decide) (by decide))
theorem nmul {m n a b : Nat} (h : a < 2 ^ m) (h' : b < 2 ^ n) : a * b < 2 ^ (m + n) := by
  have : a * b < 2 ^ m * 2 ^ n := Nat.mul_lt_mul'' h h'
  rwa [← Nat.pow_add] at this
theorem nup {m n a : Nat} (h : a < 2 ^ m) (hmn : m ≤ n) : a < 2 ^ n := Nat.lt_of_lt_of_le h (Nat.pow_le_pow_right (by decide) hmn)
theorem mok {m n : Nat} {a b : Int} (h : a.natAbs < 2 ^ m) (h' : b.natAbs < 2 ^ n) (hmn : m + n ≤ 1000000 := by decide) : mulOk a b = true := mulOk_of h h' hmn
theorem nat_lt {b : Nat} {n : Nat} (h : b < 2 ^ n) : ((b : Nat) : Int).natAbs < 2 ^ n := by rw [Int.natAbs_natCast]; exact h
theorem i0 (p q : D) (M : Stor) : dIx (.tup [p, q]) (.int 0) M = .ok p M := rfl
theorem i1 (p q : D) (M : Stor) : dIx (.tup [p, q]) (.int 1) M = .ok q M := rfl
abbrev lp (p : Int × Int) : D := pairD p.1 p.2
theorem sm_low {x : Int} {y : Nat} (hx : x.natAbs < 2 ^ 500) (hy0 : 0 < y) (hy : y < 2 ^ 500) : Sm (lowP x y).1 ∧ Sm (lowP x y).2 := by
  obtain ⟨u, l, e, h0, hl, hu, _⟩ := lowP_ok x hy0
  rw [e]
  exact ⟨sm_of (Nat.lt_of_le_of_lt hu hx), sm_of (a := (l : Int)) (by rw [Int.natAbs_natCast]; exact Nat.lt_of_le_of_lt hl hy)⟩
theorem mk_cop {a : Int} {b : Nat} (f : Fr a b) : mkR a b = rat a b := by unfold mkR; rw [lowP_cop f.2.2.2]
theorem made_ok {a : Int} {b : Nat} (f : Fr a b) (M : Stor) : f__law_made [pairD a b] M = .ok (rat a b) M := by
  have h0 := f.2.1
  have h : ¬ ((b : Nat) : Int) = 0 := by omega
  have k := make_ok a b M h0 (Nat.lt_trans (big_of f.2.2.1) (Nat.pow_lt_pow_right (by decide) (by decide)))
  rw [mk_cop f] at k
  simp only [f__law_made, b__law_made, gFn, gSeq, gSkip, gRet, gRetN, gExpr, gSet, gIf, gAug, gAsg, gPar2, gPar3, gVar, gC, gBin, gUn, gTr, gAnd, gOr, gNot, gAndV, gOrV, gNotV, gIfE, gCall, G.gCons, G.gNil, G.gTup, G.gLst, gLstM, gSl, goSome, goNone, R.bind_ok, R.bind_ex, R.bind_no, R.bindS_ok, R.bindS_ex, R.bindS_no, outS_nx, outS_rt, outS_ex, orR_ok, orR_ex, orR_no, ggName, ggSub, List.getElem?_cons_zero, List.getElem?_cons_succ, List.set_cons_zero, List.set_cons_succ, List.map_cons, List.map_nil, List.length_cons, List.length_nil, List.replicate, List.append_nil, List.nil_append, List.cons_append, Nat.reduceAdd, Nat.reduceSub, Nat.reduceLeDiff, Nat.reduceLT, if_true, if_false, not_false_eq_true, Bool.false_eq_true, Bool.true_eq_false, Bool.not_true, Bool.not_false, decide_true, decide_false, decide_eq_true_eq, reduceIte, reduceCtorEq, eAdd, eAddI, eSub, eLt, eLe, eGt, eGe, eEq, eNe, eEqS, eNeS, eTru, eNeg, eAbs, eInt, eIntB, eLenL, eLenT, i0, i1, h, k]
theorem unp (Γ : Gam) (M : Stor) (u v : D) (i j : Nat) : gAsg (ggTup 2 (ggCons (ggName i) (ggCons (ggName j) ggNil))) (gC (.tup [u, v])) Γ M = .nx ((Γ.set i (some u)).set j (some v)) M := rfl
theorem insR (a b : Int) (M : Stor) : insOf (rat a b) M = some (5, [.int a, .int b]) := rfl
theorem sm_b {a : Int} {b : Nat} (f : Fr a b) : Sm (b : Int) := by show ((b : Nat) : Int).natAbs < _; rw [Int.natAbs_natCast]; exact big_of f.2.2.1
theorem apd (M : Stor) (l : List D) (d : D) (hl : l.length < 10) : mAppend (.ref M.length) [d] (M ++ [.lst l]) = .ok .non (M ++ [.lst (l ++ [d])]) := by
  unfold mAppend
  simp only [get_last]
  rw [if_pos (by omega), set_last]
theorem lo (M : Stor) (l : List D) : lstOf (.ref M.length) (M ++ [.lst l]) = some l := by
  unfold lstOf; simp only [get_last]
theorem Fr.one {a : Int} (h : a.natAbs < 2 ^ 100) : Fr a 1 := ⟨h, by decide, by decide, Nat.gcd_one_right _⟩
theorem mk0 (N : Stor) : gMake 5 [.int 1] f_Ratio___init__ [.int 0] N = .ok (rat 0 1) N := by
  have := make1_ok 0 N
  rwa [mk1] at this
theorem frz_bl {M : Stor} {m : MO} {r : Bool} : frz M (.ok (.bl r) (M ++ [m])) = .ok (.bl r) M := by
  unfold frz
  have e : ¬ (M ++ [m]).length = M.length := by simp
  simp only [e, if_false, kept_last, if_true, frzD]
  simp
theorem pen_ok (zs : List Int) (h : zs.length ≤ 63) : ∃ M k, f__law_pen [.lck (zs.map D.int)] [] = .ok (.ref k) M ∧ Pen M k zs 0 := by
  have c : cutD (zs.map D.int) none (some 63) = zs.map D.int := by
    have z := HT.sIx_nat (zs.map D.int).length (zs.map D.int).length 63
    unfold cutD
    rw [HT.sIx_none, show ((63 : Int)) = ((63 : Nat) : Int) from rfl, z]
    simp only [List.drop_zero, List.length_map]
    rw [List.take_of_length_le]
    rw [List.length_map]; omega
  refine ⟨[.lst [.lst (zs.map D.int), .int 0, .int 0]], 0, ?_, ⟨0, rfl⟩⟩
  have sl : dSl (.lck (zs.map D.int)) none (some 63) [] = .ok (.lst (zs.map D.int)) [] := by
    show R.ok (D.lst (cutD (zs.map D.int) none (some 63))) [] = _
    rw [c]
  have li : fList [.lst (zs.map D.int)] [] = .ok (.lst (zs.map D.int)) [] := rfl
  simp only [f__law_pen, b__law_pen, gFn, gSeq, gSkip, gRet, gRetN, gExpr, gSet, gIf, gAug, gAsg, gPar2, gPar3, gVar, gC, gBin, gUn, gTr, gAnd, gOr, gNot, gAndV, gOrV, gNotV, gIfE, gCall, G.gCons, G.gNil, G.gTup, G.gLst, gLstM, gSl, goSome, goNone, R.bind_ok, R.bind_ex, R.bind_no, R.bindS_ok, R.bindS_ex, R.bindS_no, outS_nx, outS_rt, outS_ex, orR_ok, orR_ex, orR_no, ggName, ggSub, List.getElem?_cons_zero, List.getElem?_cons_succ, List.set_cons_zero, List.set_cons_succ, List.map_cons, List.map_nil, List.length_cons, List.length_nil, List.replicate, List.append_nil, List.nil_append, List.cons_append, Nat.reduceAdd, Nat.reduceSub, Nat.reduceLeDiff, Nat.reduceLT, if_true, if_false, not_false_eq_true, Bool.false_eq_true, Bool.true_eq_false, Bool.not_true, Bool.not_false, decide_true, decide_false, decide_eq_true_eq, reduceIte, reduceCtorEq, eAdd, eAddI, eSub, eLt, eLe, eGt, eGe, eEq, eNe, eEqS, eNeS, eTru, eNeg, eAbs, eInt, eIntB, eLenL, eLenT, sl, li]
theorem pick_ok {M : Stor} {k : Nat} {zs : List Int} {at_ : Nat} {l : List D} (h : Pen M k zs at_) (ha : at_ ≤ 100000) (h0 : 0 < l.length) (h1 : l.length < 1000) :
    ∃ d at' M', f__law_pick [.ref k, .lst l] M = .ok d M' ∧ d ∈ l ∧ at' ≤ at_ + 1 ∧ Pen M' k zs at' := by
  obtain ⟨r, at', M', e, r0, r1, hat, hp, -⟩ := draw_ok (many := l.length) h ha (by omega) (by omega)
  have hr : r.toNat < l.length := by omega
  have g : L2.atI l r = some l[r.toNat] := by
    have q := at_nat (l := l) (i := r.toNat) (List.getElem?_eq_getElem hr)
    rwa [Int.toNat_of_nonneg r0] at q
  refine ⟨l[r.toNat], at', M', ?_, List.getElem_mem hr, hat, hp⟩
  simp only [f__law_pick, b__law_pick, gFn, gSeq, gSkip, gRet, gRetN, gExpr, gSet, gIf, gAug, gAsg, gPar2, gPar3, gVar, gC, gBin, gUn, gTr, gAnd, gOr, gNot, gAndV, gOrV, gNotV, gIfE, gCall, G.gCons, G.gNil, G.gTup, G.gLst, gLstM, gSl, goSome, goNone, R.bind_ok, R.bind_ex, R.bind_no, R.bindS_ok, R.bindS_ex, R.bindS_no, outS_nx, outS_rt, outS_ex, orR_ok, orR_ex, orR_no, ggName, ggSub, List.getElem?_cons_zero, List.getElem?_cons_succ, List.set_cons_zero, List.set_cons_succ, List.map_cons, List.map_nil, List.length_cons, List.length_nil, List.replicate, List.append_nil, List.nil_append, List.cons_append, Nat.reduceAdd, Nat.reduceSub, Nat.reduceLeDiff, Nat.reduceLT, if_true, if_false, not_false_eq_true, Bool.false_eq_true, Bool.true_eq_false, Bool.not_true, Bool.not_false, decide_true, decide_false, decide_eq_true_eq, reduceIte, reduceCtorEq, eAdd, eAddI, eSub, eLt, eLe, eGt, eGe, eEq, eNe, eEqS, eNeS, eTru, eNeg, eAbs, eInt, eIntB, eLenL, eLenT, e, ix_lst, g]
abbrev topsD (r : Int) : List D := [.int 0, .int 1, .int 1, .int 2, .int 3, .int 5, .int 7, .int 12, .int 30, .int 1000000007, .int 100000000000000000000000000000, .int r]
abbrev botsD (r : Int) : List D := [.int 1, .int 1, .int 1, .int 2, .int 2, .int 3, .int 4, .int 6, .int 12, .int 1000000007, .int 100000000000000000000000000000, .int (1 + r)]
abbrev lim : Nat := 100000000000000000000000000000
theorem tops_in {r : Int} (h0 : 0 ≤ r) (h1 : r < 100) {d : D} (h : d ∈ topsD r) : ∃ z : Int, d = .int z ∧ z.natAbs ≤ lim := by
  simp only [List.mem_cons, List.not_mem_nil, or_false] at h
  rcases h with rfl | rfl | rfl | rfl | rfl | rfl | rfl | rfl | rfl | rfl | rfl | rfl
  iterate 11 exact ⟨_, rfl, by decide⟩
  exact ⟨_, rfl, Nat.le_trans (by omega : r.natAbs ≤ 100) (by decide)⟩
theorem bots_in {r : Int} (h0 : 0 ≤ r) (h1 : r < 100) {d : D} (h : d ∈ botsD r) : ∃ z : Nat, d = .int z ∧ 0 < z ∧ z ≤ lim := by
  simp only [List.mem_cons, List.not_mem_nil, or_false] at h
  rcases h with rfl | rfl | rfl | rfl | rfl | rfl | rfl | rfl | rfl | rfl | rfl | rfl
  · exact ⟨1, rfl, by decide, by decide⟩
  · exact ⟨1, rfl, by decide, by decide⟩
  · exact ⟨1, rfl, by decide, by decide⟩
  · exact ⟨2, rfl, by decide, by decide⟩
  · exact ⟨2, rfl, by decide, by decide⟩
  · exact ⟨3, rfl, by decide, by decide⟩
  · exact ⟨4, rfl, by decide, by decide⟩
  · exact ⟨6, rfl, by decide, by decide⟩
  · exact ⟨12, rfl, by decide, by decide⟩
  · exact ⟨1000000007, rfl, by decide, by decide⟩
  · exact ⟨100000000000000000000000000000, rfl, by decide, by decide⟩
  · exact ⟨(1 + r).toNat, by rw [Int.toNat_of_nonneg (by omega)], by omega, Nat.le_trans (by omega : (1 + r).toNat ≤ 101) (by decide)⟩
/-- as they are drawn -/
def Fx (a : Int) (b : Nat) : Prop := a.natAbs ≤ lim ∧ 0 < b ∧ b ≤ lim ∧ Nat.gcd a.natAbs b = 1
theorem lim_lt : 12 * lim < 2 ^ 101 := by decide +kernel
theorem Fx.fr {a : Int} {b : Nat} (h : Fx a b) : Fr a b := by
  have : lim < 2 ^ 100 := by decide +kernel
  exact ⟨Nat.lt_of_le_of_lt h.1 this, h.2.1, Nat.lt_of_le_of_lt h.2.2.1 this, h.2.2.2⟩
/-- lowest terms of what is not too great -/
theorem fr_low {x : Int} {y : Nat} (hx : x.natAbs < 2 ^ 100) (hy0 : 0 < y) (hy : y < 2 ^ 100) (M : Stor) : ∃ (u : Int) (v : Nat), f__law_low [.int x, .int y] M = .ok (pairD u v) M ∧ Fr u v := by
  have lw := low_ok x y M hy0 (Nat.lt_trans (big_of hy) (Nat.pow_lt_pow_right (by decide) (by decide)))
  obtain ⟨u, v, e, v0, vl, ul, gc⟩ := lowP_ok x hy0
  rw [e] at lw
  exact ⟨u, v, lw, Nat.lt_of_le_of_lt ul hx, v0, Nat.lt_of_le_of_lt vl hy, gc⟩
theorem fraction_ok {M : Stor} {k : Nat} {zs : List Int} {at_ : Nat} (h : Pen M k zs at_) (ha : at_ ≤ 90000) :
    ∃ (a : Int) (b : Nat) (at' : Nat) (M' : Stor), f__law_fraction [.ref k] M = .ok (pairD a b) M' ∧ Fx a b ∧ at' ≤ at_ + 5 ∧ Pen M' k zs at' := by
  obtain ⟨r1, t1, M1, e1, r10, r11, h1, p1, -⟩ := draw_ok (many := 100) h (by omega) (by decide) (by decide)
  obtain ⟨r2, t2, M2, e2, r20, r21, h2, p2, -⟩ := draw_ok (many := 100) p1 (by omega) (by decide) (by decide)
  obtain ⟨r3, t3, M3, e3, r30, r31, h3, p3, -⟩ := draw_ok (many := 3) p2 (by omega) (by decide) (by decide)
  obtain ⟨d4, t4, M4, e4, m4, h4, p4⟩ := pick_ok (l := topsD r1) p3 (by omega) (by show 0 < 12; decide) (by show 12 < 1000; decide)
  obtain ⟨d5, t5, M5, e5, m5, h5, p5⟩ := pick_ok (l := botsD r2) p4 (by omega) (by show 0 < 12; decide) (by show 12 < 1000; decide)
  obtain ⟨u, rfl, hu⟩ := tops_in r10 r11 m4
  obtain ⟨v, rfl, v0, v1⟩ := bots_in r20 r21 m5
  have hs : ∃ s : Int, (1 - 2 * (if r3 = 0 then 1 else 0) : Int) = s ∧ s.natAbs = 1 := by
    by_cases z : r3 = 0
    · exact ⟨-1, by simp [z], rfl⟩
    · exact ⟨1, by simp [z], rfl⟩
  obtain ⟨s, es, hs⟩ := hs
  have lv : v < 2 ^ 100 := Nat.lt_of_le_of_lt v1 (by decide +kernel)
  have lw := low_ok (s * u) v M5 v0 (Nat.lt_trans (big_of lv) (Nat.pow_lt_pow_right (by decide) (by decide)))
  obtain ⟨a, b, e, b0, bl, al, gc⟩ := lowP_ok (s * u) v0
  rw [e] at lw
  have hn : (s * u).natAbs = u.natAbs := by rw [Int.natAbs_mul, hs, Nat.one_mul]
  refine ⟨a, b, t5, M5, ?_, ⟨by omega, b0, by omega, gc⟩, by omega, p5⟩
  have q1 : powOk 10 9 = true := by decide
  have q2 : powOk 10 29 = true := by decide
  have q3 : (10 : Int) ^ (9 : Int).toNat = 1000000000 := by decide
  have q4 : (10 : Int) ^ (29 : Int).toNat = 100000000000000000000000000000 := by decide
  have q5 : (1000000000 : Int) + 7 = 1000000007 := by decide
  have m1 : ∀ z : Int, mulOk 2 z = true := fun z => mulOk_left (by decide)
  have m2 : mulOk s u = true := mulOk_left (by omega)
  refine fn_rt rfl ?_
  show b__law_fraction [some (.ref k), none, none, none] M = _
  unfold b__law_fraction
  rw [seq_nx (Γ1 := [some (.ref k), some (.lst (topsD r1)), none, none]) (M1 := M1) (by
    simp only [gFn, gSeq, gSkip, gRet, gRetN, gExpr, gSet, gIf, gAug, gAsg, gPar2, gPar3, gVar, gC, gBin, gUn, gTr, gAnd, gOr, gNot, gAndV, gOrV, gNotV, gIfE, gCall, G.gCons, G.gNil, G.gTup, G.gLst, gLstM, gSl, goSome, goNone, R.bind_ok, R.bind_ex, R.bind_no, R.bindS_ok, R.bindS_ex, R.bindS_no, outS_nx, outS_rt, outS_ex, orR_ok, orR_ex, orR_no, ggName, ggSub, List.getElem?_cons_zero, List.getElem?_cons_succ, List.set_cons_zero, List.set_cons_succ, List.map_cons, List.map_nil, List.length_cons, List.length_nil, List.replicate, List.append_nil, List.nil_append, List.cons_append, Nat.reduceAdd, Nat.reduceSub, Nat.reduceLeDiff, Nat.reduceLT, if_true, if_false, not_false_eq_true, Bool.false_eq_true, Bool.true_eq_false, Bool.not_true, Bool.not_false, decide_true, decide_false, decide_eq_true_eq, reduceIte, reduceCtorEq, eAdd, eAddI, eSub, eLt, eLe, eGt, eGe, eEq, eNe, eEqS, eNeS, eTru, eNeg, eAbs, eInt, eIntB, eLenL, eLenT, ePow q1, ePow q2, q3, q4, q5, e1])]
  rw [seq_nx (Γ1 := [some (.ref k), some (.lst (topsD r1)), some (.lst (botsD r2)), none]) (M1 := M2) (by
    simp only [gFn, gSeq, gSkip, gRet, gRetN, gExpr, gSet, gIf, gAug, gAsg, gPar2, gPar3, gVar, gC, gBin, gUn, gTr, gAnd, gOr, gNot, gAndV, gOrV, gNotV, gIfE, gCall, G.gCons, G.gNil, G.gTup, G.gLst, gLstM, gSl, goSome, goNone, R.bind_ok, R.bind_ex, R.bind_no, R.bindS_ok, R.bindS_ex, R.bindS_no, outS_nx, outS_rt, outS_ex, orR_ok, orR_ex, orR_no, ggName, ggSub, List.getElem?_cons_zero, List.getElem?_cons_succ, List.set_cons_zero, List.set_cons_succ, List.map_cons, List.map_nil, List.length_cons, List.length_nil, List.replicate, List.append_nil, List.nil_append, List.cons_append, Nat.reduceAdd, Nat.reduceSub, Nat.reduceLeDiff, Nat.reduceLT, if_true, if_false, not_false_eq_true, Bool.false_eq_true, Bool.true_eq_false, Bool.not_true, Bool.not_false, decide_true, decide_false, decide_eq_true_eq, reduceIte, reduceCtorEq, eAdd, eAddI, eSub, eLt, eLe, eGt, eGe, eEq, eNe, eEqS, eNeS, eTru, eNeg, eAbs, eInt, eIntB, eLenL, eLenT, ePow q1, ePow q2, q3, q4, q5, e2])]
  rw [seq_nx (Γ1 := [some (.ref k), some (.lst (topsD r1)), some (.lst (botsD r2)), some (.int s)]) (M1 := M3) (by
    simp only [gFn, gSeq, gSkip, gRet, gRetN, gExpr, gSet, gIf, gAug, gAsg, gPar2, gPar3, gVar, gC, gBin, gUn, gTr, gAnd, gOr, gNot, gAndV, gOrV, gNotV, gIfE, gCall, G.gCons, G.gNil, G.gTup, G.gLst, gLstM, gSl, goSome, goNone, R.bind_ok, R.bind_ex, R.bind_no, R.bindS_ok, R.bindS_ex, R.bindS_no, outS_nx, outS_rt, outS_ex, orR_ok, orR_ex, orR_no, ggName, ggSub, List.getElem?_cons_zero, List.getElem?_cons_succ, List.set_cons_zero, List.set_cons_succ, List.map_cons, List.map_nil, List.length_cons, List.length_nil, List.replicate, List.append_nil, List.nil_append, List.cons_append, Nat.reduceAdd, Nat.reduceSub, Nat.reduceLeDiff, Nat.reduceLT, if_true, if_false, not_false_eq_true, Bool.false_eq_true, Bool.true_eq_false, Bool.not_true, Bool.not_false, decide_true, decide_false, decide_eq_true_eq, reduceIte, reduceCtorEq, eAdd, eAddI, eSub, eLt, eLe, eGt, eGe, eEq, eNe, eEqS, eNeS, eTru, eNeg, eAbs, eInt, eIntB, eLenL, eLenT, e3, eMul (m1 _)]
    rw [← es])]
  simp only [gFn, gSeq, gSkip, gRet, gRetN, gExpr, gSet, gIf, gAug, gAsg, gPar2, gPar3, gVar, gC, gBin, gUn, gTr, gAnd, gOr, gNot, gAndV, gOrV, gNotV, gIfE, gCall, G.gCons, G.gNil, G.gTup, G.gLst, gLstM, gSl, goSome, goNone, R.bind_ok, R.bind_ex, R.bind_no, R.bindS_ok, R.bindS_ex, R.bindS_no, outS_nx, outS_rt, outS_ex, orR_ok, orR_ex, orR_no, ggName, ggSub, List.getElem?_cons_zero, List.getElem?_cons_succ, List.set_cons_zero, List.set_cons_succ, List.map_cons, List.map_nil, List.length_cons, List.length_nil, List.replicate, List.append_nil, List.nil_append, List.cons_append, Nat.reduceAdd, Nat.reduceSub, Nat.reduceLeDiff, Nat.reduceLT, if_true, if_false, not_false_eq_true, Bool.false_eq_true, Bool.true_eq_false, Bool.not_true, Bool.not_false, decide_true, decide_false, decide_eq_true_eq, reduceIte, reduceCtorEq, eAdd, eAddI, eSub, eLt, eLe, eGt, eGe, eEq, eNe, eEqS, eNeS, eTru, eNeg, eAbs, eInt, eIntB, eLenL, eLenT, e4, e5, eMul m2, lw]
end K05

namespace K05
open PySem L2 G
def RQ (q : Rat) : D := rat q.num (q.den : Nat)
class Hb (n : outParam Nat) (q : Rat) : Prop where
  num : q.num.natAbs < 2 ^ n
  den : q.den < 2 ^ n
theorem mkN (a : Int) {b : Nat} (h : b ≠ 0) : mkR a b = RQ (Rat.normalize a b h) := by
  rw [Rat.normalize_eq]; unfold mkR lowP RQ; simp only [Int.natCast_ediv]
theorem mkQ (a : Int) {b : Nat} (h : b ≠ 0) : mkR a b = RQ (mkRat a b) := by
  rw [mkN a h, ← Rat.normalize_eq_mkRat h]
theorem hb_norm {m n : Nat} {a : Int} {b : Nat} (h : b ≠ 0) (ha : a.natAbs < 2 ^ m) (hb : b < 2 ^ n) : (Rat.normalize a b h).num.natAbs < 2 ^ m ∧ (Rat.normalize a b h).den < 2 ^ n := by
  rw [Rat.normalize_eq]
  obtain ⟨u, l, e, h0, hl, hu, _⟩ := lowP_ok a (Nat.pos_of_ne_zero h)
  unfold lowP at e
  injection e with e1 e2
  dsimp only
  rw [e1]
  refine ⟨Nat.lt_of_le_of_lt hu ha, Nat.lt_of_le_of_lt (Nat.div_le_self _ _) hb⟩
theorem p2 (m n : Nat) : (2 : Nat) ^ m * 2 ^ n + 2 ^ n * 2 ^ m = 2 ^ (m + n + 1) := by
  rw [Nat.pow_succ, Nat.pow_add, Nat.mul_comm (2 ^ n)]; omega
section
variable {m n : Nat} {p q : Rat} [hp : Hb m p] [hq : Hb n q]
theorem x_lt : (p.num * q.den).natAbs < 2 ^ m * 2 ^ n := by rw [Int.natAbs_mul, Int.natAbs_natCast]; exact Nat.mul_lt_mul'' hp.num hq.den
theorem dd_lt : p.den * q.den < 2 ^ (m + n) := nmul hp.den hq.den
instance : Hb (m + n + 1) (p + q) := by
  have x1 := x_lt (p := p) (q := q)
  have x2 := x_lt (p := q) (q := p)
  have e := p2 m n
  have := hb_norm (m := m + n + 1) (n := m + n) (a := p.num * q.den + q.num * p.den) (Nat.mul_ne_zero p.den_nz q.den_nz) (by omega) (dd_lt (p := p) (q := q))
  rw [← Rat.add_def] at this
  exact ⟨this.1, nup this.2 (by omega)⟩
instance : Hb (m + n + 1) (p - q) := by
  have x1 := x_lt (p := p) (q := q)
  have x2 := x_lt (p := q) (q := p)
  have e := p2 m n
  have := hb_norm (m := m + n + 1) (n := m + n) (a := p.num * q.den - q.num * p.den) (Nat.mul_ne_zero p.den_nz q.den_nz) (by omega) (dd_lt (p := p) (q := q))
  rw [← Rat.sub_def] at this
  exact ⟨this.1, nup this.2 (by omega)⟩
instance : Hb (m + n) (p * q) := by
  have := hb_norm (m := m + n) (n := m + n) (a := p.num * q.num) (Nat.mul_ne_zero p.den_nz q.den_nz) (by rw [Int.natAbs_mul]; exact nmul hp.num hq.num) (dd_lt (p := p) (q := q))
  rw [← Rat.mul_def] at this
  exact ⟨this.1, this.2⟩
end
instance hbNeg {m : Nat} {p : Rat} [hp : Hb m p] : Hb m (-p) := ⟨by rw [Rat.neg_num, Int.natAbs_neg]; exact hp.num, by rw [Rat.neg_den]; exact hp.den⟩
theorem hb_int {n : Nat} {k : Int} (h : k.natAbs < 2 ^ n) (hn : 0 < n) : Hb n (k : Rat) := ⟨by rw [Rat.num_intCast]; exact h, by rw [Rat.den_intCast]; exact Nat.one_lt_two_pow (by omega)⟩
theorem RQi (k : Int) : RQ (k : Rat) = rat k 1 := by unfold RQ; rw [Rat.num_intCast, Rat.den_intCast]; rfl
/-! ### the operations -/
theorem up2 {a m n : Nat} (h : a < 2 ^ (m + n)) (hn : m + n ≤ 8000) : a < 2 ^ 8000 := nup h hn
theorem make_q (a : Int) {b : Nat} (M : Stor) (h : b ≠ 0) (hb : b < 2 ^ 8000) : gMake 5 [] f_Ratio___init__ [.int a, .int b] M = .ok (RQ (mkRat a b)) M := by
  rw [← mkQ a h]; exact make_ok a b M (by omega) hb
theorem make1_q (a : Int) (M : Stor) : gMake 5 [.int 1] f_Ratio___init__ [.int a] M = .ok (RQ (a : Rat)) M := by
  rw [RQi, ← mk1]; exact make1_ok a M
theorem den0 (p : Rat) : ¬ ((p.den : Nat) : Int) = 0 := by have := p.den_nz; omega
theorem qTop (p : Rat) (M : Stor) : dFld ft_top (RQ p) M = .ok (.int p.num) M := rfl
theorem qBot (p : Rat) (M : Stor) : dFld ft_bottom (RQ p) M = .ok (.int (p.den : Nat)) M := rfl
theorem mkRat_n (a : Int) {b : Nat} (h : b ≠ 0) : mkRat a b = Rat.normalize a b h := (Rat.normalize_eq_mkRat h).symm
section
variable {m n : Nat} (p q : Rat) [hp : Hb m p] [hq : Hb n q] (M : Stor) (hmn : m + n ≤ 4000)
include hmn
theorem mo1 : mulOk p.num (q.den : Nat) = true := mok hp.num (by rw [Int.natAbs_natCast]; exact hq.den) (by omega)
theorem mo2 : mulOk q.num (p.den : Nat) = true := mok hq.num (by rw [Int.natAbs_natCast]; exact hp.den) (by omega)
theorem mo3 : mulOk (p.den : Nat) (q.den : Nat) = true := mok (m := m) (n := n) (by rw [Int.natAbs_natCast]; exact hp.den) (by rw [Int.natAbs_natCast]; exact hq.den) (by omega)
theorem q_added : f_added [RQ p, RQ q] M = .ok (RQ (p + q)) M := by
  have h0 := Nat.mul_ne_zero p.den_nz q.den_nz
  have hm := make_q (p.num * q.den + q.num * p.den) M h0 (up2 dd_lt (by omega))
  rw [Int.natCast_mul, mkRat_n _ h0, ← Rat.add_def] at hm
  simp only [f_added, b_added, gFn, gSeq, gSkip, gRet, gRetN, gExpr, gSet, gIf, gAug, gAsg, gPar2, gPar3, gVar, gC, gBin, gUn, gTr, gAnd, gOr, gNot, gAndV, gOrV, gNotV, gIfE, gCall, G.gCons, G.gNil, G.gTup, G.gLst, gLstM, gSl, goSome, goNone, R.bind_ok, R.bind_ex, R.bind_no, R.bindS_ok, R.bindS_ex, R.bindS_no, outS_nx, outS_rt, outS_ex, orR_ok, orR_ex, orR_no, ggName, ggSub, List.getElem?_cons_zero, List.getElem?_cons_succ, List.set_cons_zero, List.set_cons_succ, List.map_cons, List.map_nil, List.length_cons, List.length_nil, List.replicate, List.append_nil, List.nil_append, List.cons_append, Nat.reduceAdd, Nat.reduceSub, Nat.reduceLeDiff, Nat.reduceLT, if_true, if_false, not_false_eq_true, Bool.false_eq_true, Bool.true_eq_false, Bool.not_true, Bool.not_false, decide_true, decide_false, decide_eq_true_eq, reduceIte, reduceCtorEq, eAdd, eAddI, eSub, eLt, eLe, eGt, eGe, eEq, eNe, eEqS, eNeS, eTru, eNeg, eAbs, eInt, eIntB, eLenL, eLenT, qTop, qBot, den0, eMul (mo1 p q hmn), eMul (mo2 p q hmn), eMul (mo3 p q hmn), hm]
theorem q_isless : f_is_less [RQ p, RQ q] M = .ok (.bl (decide (p < q))) M := by
  have e : decide (p < q) = decide (p.num * (q.den : Nat) < q.num * (p.den : Nat)) := by congr 1; exact propext (Rat.lt_iff p q)
  rw [e]
  simp only [f_is_less, b_is_less, gFn, gSeq, gSkip, gRet, gRetN, gExpr, gSet, gIf, gAug, gAsg, gPar2, gPar3, gVar, gC, gBin, gUn, gTr, gAnd, gOr, gNot, gAndV, gOrV, gNotV, gIfE, gCall, G.gCons, G.gNil, G.gTup, G.gLst, gLstM, gSl, goSome, goNone, R.bind_ok, R.bind_ex, R.bind_no, R.bindS_ok, R.bindS_ex, R.bindS_no, outS_nx, outS_rt, outS_ex, orR_ok, orR_ex, orR_no, ggName, ggSub, List.getElem?_cons_zero, List.getElem?_cons_succ, List.set_cons_zero, List.set_cons_succ, List.map_cons, List.map_nil, List.length_cons, List.length_nil, List.replicate, List.append_nil, List.nil_append, List.cons_append, Nat.reduceAdd, Nat.reduceSub, Nat.reduceLeDiff, Nat.reduceLT, if_true, if_false, not_false_eq_true, Bool.false_eq_true, Bool.true_eq_false, Bool.not_true, Bool.not_false, decide_true, decide_false, decide_eq_true_eq, reduceIte, reduceCtorEq, eAdd, eAddI, eSub, eLt, eLe, eGt, eGe, eEq, eNe, eEqS, eNeS, eTru, eNeg, eAbs, eInt, eIntB, eLenL, eLenT, qTop, qBot, den0, eMul (mo1 p q hmn), eMul (mo2 p q hmn)]
end
def DQ : Option Rat → D
  | some q => RQ q
  | none => rat 1 0
inductive VE : D → Option Rat → Prop
  | q (o : Option Rat) : VE (DQ o) o
  | n (k : Int) : VE (.int k) (some (k : Rat))
def lessE : Option Rat → Option Rat → Bool
  | some p, some q => decide (p < q)
  | some _, none => true
  | none, _ => false
class HbE (n : outParam Nat) (o : Option Rat) : Prop where
  hb : ∀ q, o = some q → Hb n q
instance {n : Nat} {q : Rat} [h : Hb n q] : HbE n (some q) := ⟨fun _ e => by cases e; exact h⟩
instance : HbE 1 none := ⟨fun _ e => by cases e⟩
theorem of_VE {x : D} {o : Option Rat} (h : VE x o) (M : Stor) : f_Ratio_of [x] M = .ok (DQ o) M := by
  cases h with
  | q => cases o with
    | some q => exact of_rat _ _ M
    | none => exact of_rat _ _ M
  | n => show _ = R.ok (RQ _) M; rw [RQi]; exact of_int _ M
theorem l_end (x y : Int) (h : ¬ x = 0) (a : Int) (M : Stor) : f_is_less [rat a x, rat y 0] M = .ok (.bl true) M := by
  simp only [f_is_less, b_is_less, gFn, gSeq, gSkip, gRet, gRetN, gExpr, gSet, gIf, gAug, gAsg, gPar2, gPar3, gVar, gC, gBin, gUn, gTr, gAnd, gOr, gNot, gAndV, gOrV, gNotV, gIfE, gCall, G.gCons, G.gNil, G.gTup, G.gLst, gLstM, gSl, goSome, goNone, R.bind_ok, R.bind_ex, R.bind_no, R.bindS_ok, R.bindS_ex, R.bindS_no, outS_nx, outS_rt, outS_ex, orR_ok, orR_ex, orR_no, ggName, ggSub, List.getElem?_cons_zero, List.getElem?_cons_succ, List.set_cons_zero, List.set_cons_succ, List.map_cons, List.map_nil, List.length_cons, List.length_nil, List.replicate, List.append_nil, List.nil_append, List.cons_append, Nat.reduceAdd, Nat.reduceSub, Nat.reduceLeDiff, Nat.reduceLT, if_true, if_false, not_false_eq_true, Bool.false_eq_true, Bool.true_eq_false, Bool.not_true, Bool.not_false, decide_true, decide_false, decide_eq_true_eq, reduceIte, reduceCtorEq, eAdd, eAddI, eSub, eLt, eLe, eGt, eGe, eEq, eNe, eEqS, eNeS, eTru, eNeg, eAbs, eInt, eIntB, eLenL, eLenT, fTop, fBot, h]
theorem end_l (y : Int) (z : D) (M : Stor) : f_is_less [rat y 0, z] M = .ok (.bl false) M := by
  simp only [f_is_less, b_is_less, gFn, gSeq, gSkip, gRet, gRetN, gExpr, gSet, gIf, gAug, gAsg, gPar2, gPar3, gVar, gC, gBin, gUn, gTr, gAnd, gOr, gNot, gAndV, gOrV, gNotV, gIfE, gCall, G.gCons, G.gNil, G.gTup, G.gLst, gLstM, gSl, goSome, goNone, R.bind_ok, R.bind_ex, R.bind_no, R.bindS_ok, R.bindS_ex, R.bindS_no, outS_nx, outS_rt, outS_ex, orR_ok, orR_ex, orR_no, ggName, ggSub, List.getElem?_cons_zero, List.getElem?_cons_succ, List.set_cons_zero, List.set_cons_succ, List.map_cons, List.map_nil, List.length_cons, List.length_nil, List.replicate, List.append_nil, List.nil_append, List.cons_append, Nat.reduceAdd, Nat.reduceSub, Nat.reduceLeDiff, Nat.reduceLT, if_true, if_false, not_false_eq_true, Bool.false_eq_true, Bool.true_eq_false, Bool.not_true, Bool.not_false, decide_true, decide_false, decide_eq_true_eq, reduceIte, reduceCtorEq, eAdd, eAddI, eSub, eLt, eLe, eGt, eGe, eEq, eNe, eEqS, eNeS, eTru, eNeg, eAbs, eInt, eIntB, eLenL, eLenT, fTop, fBot]
theorem less_E {m n : Nat} (a b : Option Rat) [ha : HbE m a] [hb : HbE n b] (M : Stor) (hmn : m + n ≤ 4000) : f_is_less [DQ a, DQ b] M = .ok (.bl (lessE a b)) M := by
  cases a with
  | none => exact end_l _ _ _
  | some p =>
    have hp := ha.hb p rfl
    cases b with
    | none => exact l_end _ _ (den0 p) _ _
    | some q =>
      have hq := hb.hb q rfl
      exact q_isless p q M hmn
instance : Hb 1 (((0 : Int)) : Rat) := hb_int (by decide) (by decide)
instance : Hb 1 (((1 : Int)) : Rat) := hb_int (by decide) (by decide)
instance : Hb 2 (((3 : Int)) : Rat) := hb_int (by decide) (by decide)
theorem isNt (M : Stor) : fIsi isOk isTab [.ins 4 [], .cls 4] M = .ok (.bl true) M := rfl
theorem init_end (k : Nat) (M : Stor) (hk : M[k]? = some (.ins 5 [])) : f_Ratio___init__ [.ref k, .int 1, .ins 4 []] M = .ok .non (M.set k (.ins 5 [.int 1, .int 0])) := by
  simp only [f_Ratio___init__, b_Ratio___init__, gFn, gSeq, gSkip, gRet, gRetN, gExpr, gSet, gIf, gAug, gAsg, gPar2, gPar3, gVar, gC, gBin, gUn, gTr, gAnd, gOr, gNot, gAndV, gOrV, gNotV, gIfE, gCall, G.gCons, G.gNil, G.gTup, G.gLst, gLstM, gSl, goSome, goNone, R.bind_ok, R.bind_ex, R.bind_no, R.bindS_ok, R.bindS_ex, R.bindS_no, outS_nx, outS_rt, outS_ex, orR_ok, orR_ex, orR_no, ggName, ggSub, List.getElem?_cons_zero, List.getElem?_cons_succ, List.set_cons_zero, List.set_cons_succ, List.map_cons, List.map_nil, List.length_cons, List.length_nil, List.replicate, List.append_nil, List.nil_append, List.cons_append, Nat.reduceAdd, Nat.reduceSub, Nat.reduceLeDiff, Nat.reduceLT, if_true, if_false, not_false_eq_true, Bool.false_eq_true, Bool.true_eq_false, Bool.not_true, Bool.not_false, decide_true, decide_false, decide_eq_true_eq, reduceIte, reduceCtorEq, eAdd, eAddI, eSub, eLt, eLe, eGt, eGe, eEq, eNe, eEqS, eNeS, eTru, eNeg, eAbs, eInt, eIntB, eLenL, eLenT, isint, isNt, gSetF, hk, ft_top5, setFl0, set_self hk, ft_bot5, setFl1, List.set_set]
theorem endless_ok (M : Stor) : f_Ratio_endless [] M = .ok (rat 1 0) M := by
  have hk : (M ++ [MO.ins 5 []])[M.length]? = some (.ins 5 []) := by simp
  have h := init_end M.length (M ++ [.ins 5 []]) hk
  have g : gMake 5 [] f_Ratio___init__ [.int 1, .ins 4 []] M = .ok (rat 1 0) M := by
    simp only [gMake, gMakeM, List.append_nil, h, R.bind_ok, set_last]
    exact frz_insF rfl
  simp only [f_Ratio_endless, b_Ratio_endless, gFn, gSeq, gSkip, gRet, gRetN, gExpr, gSet, gIf, gAug, gAsg, gPar2, gPar3, gVar, gC, gBin, gUn, gTr, gAnd, gOr, gNot, gAndV, gOrV, gNotV, gIfE, gCall, G.gCons, G.gNil, G.gTup, G.gLst, gLstM, gSl, goSome, goNone, R.bind_ok, R.bind_ex, R.bind_no, R.bindS_ok, R.bindS_ex, R.bindS_no, outS_nx, outS_rt, outS_ex, orR_ok, orR_ex, orR_no, ggName, ggSub, List.getElem?_cons_zero, List.getElem?_cons_succ, List.set_cons_zero, List.set_cons_succ, List.map_cons, List.map_nil, List.length_cons, List.length_nil, List.replicate, List.append_nil, List.nil_append, List.cons_append, Nat.reduceAdd, Nat.reduceSub, Nat.reduceLeDiff, Nat.reduceLT, if_true, if_false, not_false_eq_true, Bool.false_eq_true, Bool.true_eq_false, Bool.not_true, Bool.not_false, decide_true, decide_false, decide_eq_true_eq, reduceIte, reduceCtorEq, eAdd, eAddI, eSub, eLt, eLe, eGt, eGe, eEq, eNe, eEqS, eNeS, eTru, eNeg, eAbs, eInt, eIntB, eLenL, eLenT, gBare, g]
end K05

namespace K05
open PySem L2 G
/-! ### lists of items -/
inductive VL : List D → List (Option Rat) → Prop
  | nil : VL [] []
  | cons {x : D} {o : Option Rat} {xs : List D} {os : List (Option Rat)} (h : VE x o) (t : VL xs os) : VL (x :: xs) (o :: os)
theorem VL.len {xs : List D} {os : List (Option Rat)} (h : VL xs os) : xs.length = os.length := by induction h <;> simp [*]
theorem VL.app {xs ys : List D} {os ps : List (Option Rat)} (h : VL xs os) (g : VL ys ps) : VL (xs ++ ys) (os ++ ps) := by
  induction h with
  | nil => exact g
  | cons h t ih => exact .cons h ih
theorem VL.mem {xs : List D} {os : List (Option Rat)} (h : VL xs os) {x : D} (hx : x ∈ xs) : ∃ o, o ∈ os ∧ VE x o := by
  induction h with
  | nil => cases hx
  | cons h t ih =>
    rcases List.mem_cons.mp hx with rfl | hx
    · exact ⟨_, List.mem_cons_self, h⟩
    · obtain ⟨o, ho, v⟩ := ih hx
      exact ⟨o, List.mem_cons_of_mem _ ho, v⟩
theorem VL.take {xs : List D} {os : List (Option Rat)} (h : VL xs os) (n : Nat) : VL (xs.take n) (os.take n) := by
  induction h generalizing n with
  | nil => simpa using VL.nil
  | cons h t ih =>
    cases n with
    | zero => exact .nil
    | succ n => exact .cons h (ih n)
theorem isQ (o : Option Rat) (M : Stor) : fIsi isOk isTab [DQ o, .cls 5] M = .ok (.bl true) M := by cases o <;> rfl
/-- one item's check -/
noncomputable abbrev chk : GS' := gIf (gAnd (gNot (gTr truD (gCall (fIsi isOk isTab) (G.gCons (gVar 2) (G.gCons (gC (.cls 5)) G.gNil))))) (gNot (gTr truD (gCall f_is_integer (G.gCons (gVar 2) G.gNil))))) (gRaise1 1 (G.gCons (gVar 1) G.gNil)) gSkip
theorem chk_ok {x : D} {o : Option Rat} (h : VE x o) (x0 : D) (i : Int) (M : Stor) : chk [some x0, some (.int i), some x] M = .nx [some x0, some (.int i), some x] M := by
  cases h with
  | q => simp only [chk, gFn, gSeq, gSkip, gRet, gRetN, gExpr, gSet, gIf, gAug, gAsg, gPar2, gPar3, gVar, gC, gBin, gUn, gTr, gAnd, gOr, gNot, gAndV, gOrV, gNotV, gIfE, gCall, G.gCons, G.gNil, G.gTup, G.gLst, gLstM, gSl, goSome, goNone, R.bind_ok, R.bind_ex, R.bind_no, R.bindS_ok, R.bindS_ex, R.bindS_no, outS_nx, outS_rt, outS_ex, orR_ok, orR_ex, orR_no, ggName, ggSub, List.getElem?_cons_zero, List.getElem?_cons_succ, List.set_cons_zero, List.set_cons_succ, List.map_cons, List.map_nil, List.length_cons, List.length_nil, List.replicate, List.append_nil, List.nil_append, List.cons_append, Nat.reduceAdd, Nat.reduceSub, Nat.reduceLeDiff, Nat.reduceLT, if_true, if_false, not_false_eq_true, Bool.false_eq_true, Bool.true_eq_false, Bool.not_true, Bool.not_false, decide_true, decide_false, decide_eq_true_eq, reduceIte, reduceCtorEq, eAdd, eAddI, eSub, eLt, eLe, eGt, eGe, eEq, eNe, eEqS, eNeS, eTru, eNeg, eAbs, eInt, eIntB, eLenL, eLenT, isQ]
  | n k =>
    have e : fIsi isOk isTab [.int k, .cls 5] M = .ok (.bl false) M := rfl
    simp only [chk, gFn, gSeq, gSkip, gRet, gRetN, gExpr, gSet, gIf, gAug, gAsg, gPar2, gPar3, gVar, gC, gBin, gUn, gTr, gAnd, gOr, gNot, gAndV, gOrV, gNotV, gIfE, gCall, G.gCons, G.gNil, G.gTup, G.gLst, gLstM, gSl, goSome, goNone, R.bind_ok, R.bind_ex, R.bind_no, R.bindS_ok, R.bindS_ex, R.bindS_no, outS_nx, outS_rt, outS_ex, orR_ok, orR_ex, orR_no, ggName, ggSub, List.getElem?_cons_zero, List.getElem?_cons_succ, List.set_cons_zero, List.set_cons_succ, List.map_cons, List.map_nil, List.length_cons, List.length_nil, List.replicate, List.append_nil, List.nil_append, List.cons_append, Nat.reduceAdd, Nat.reduceSub, Nat.reduceLeDiff, Nat.reduceLT, if_true, if_false, not_false_eq_true, Bool.false_eq_true, Bool.true_eq_false, Bool.not_true, Bool.not_false, decide_true, decide_false, decide_eq_true_eq, reduceIte, reduceCtorEq, eAdd, eAddI, eSub, eLt, eLe, eGt, eGe, eEq, eNe, eEqS, eNeS, eTru, eNeg, eAbs, eInt, eIntB, eLenL, eLenT, e, isint]
/-- what is neither -/
structure Odd (v : D) : Prop where
  nr : ∀ M, fIsi isOk isTab [v, .cls 5] M = .ok (.bl false) M
  ni : ∀ M, f_is_integer [v] M = .ok (.bl false) M
theorem chk_bad {v : D} (h : Odd v) (x0 : D) (i : Int) (M : Stor) : chk [some x0, some (.int i), some v] M = .ex 1 (some [.int i]) [some x0, some (.int i), some v] M := by
  simp only [chk, gFn, gSeq, gSkip, gRet, gRetN, gExpr, gSet, gIf, gAug, gAsg, gPar2, gPar3, gVar, gC, gBin, gUn, gTr, gAnd, gOr, gNot, gAndV, gOrV, gNotV, gIfE, gCall, G.gCons, G.gNil, G.gTup, G.gLst, gLstM, gSl, goSome, goNone, R.bind_ok, R.bind_ex, R.bind_no, R.bindS_ok, R.bindS_ex, R.bindS_no, outS_nx, outS_rt, outS_ex, orR_ok, orR_ex, orR_no, ggName, ggSub, List.getElem?_cons_zero, List.getElem?_cons_succ, List.set_cons_zero, List.set_cons_succ, List.map_cons, List.map_nil, List.length_cons, List.length_nil, List.replicate, List.append_nil, List.nil_append, List.cons_append, Nat.reduceAdd, Nat.reduceSub, Nat.reduceLeDiff, Nat.reduceLT, if_true, if_false, not_false_eq_true, Bool.false_eq_true, Bool.true_eq_false, Bool.not_true, Bool.not_false, decide_true, decide_false, decide_eq_true_eq, reduceIte, reduceCtorEq, eAdd, eAddI, eSub, eLt, eLe, eGt, eGe, eEq, eNe, eEqS, eNeS, eTru, eNeg, eAbs, eInt, eIntB, eLenL, eLenT, h.nr, h.ni, gRaise1]
def enumF (j : Nat) (l : List D) : List D := (l.zipIdx j).map fun p => .tup [.int (p.2 : Nat), p.1]
theorem enumF_cons (j : Nat) (x : D) (l : List D) : enumF j (x :: l) = .tup [.int (j : Nat), x] :: enumF (j + 1) l := by unfold enumF; simp [List.zipIdx_cons]
abbrev tg12 : GG' := ggTup 2 (ggCons (ggName 1) (ggCons (ggName 2) ggNil))
theorem chks_ok {keep : Stor → Prop} {M : Stor} (hk : keep M) (x0 : D) {xs : List D} {os : List (Option Rat)} (h : VL xs os) : ∀ (j : Nat) (a b : Option D), ∃ a' b', loopG keep tg12 chk (enumF j xs) [some x0, a, b] M = .nx [some x0, a', b'] M := by
  induction h with
  | nil => intro j a b; exact ⟨a, b, loop_nilK⟩
  | cons h t ih =>
    intro j a b
    obtain ⟨a', b', e⟩ := ih (j + 1) (some (.int (j : Nat))) (some _)
    refine ⟨a', b', ?_⟩
    rw [enumF_cons]
    exact (loop_consK hk (gg2 1 2 _ _ _ _) (chk_ok h x0 j M)).trans e
theorem chks_bad {keep : Stor → Prop} {M : Stor} (hk : keep M) (x0 v : D) (hv : Odd v) (rest : List D) {xs : List D} {os : List (Option Rat)} (h : VL xs os) : ∀ (j : Nat) (a b : Option D), ∃ Γ', loopG keep tg12 chk (enumF j (xs ++ v :: rest)) [some x0, a, b] M = .ex 1 (some [.int ((j + xs.length : Nat) : Int)]) Γ' M := by
  induction h with
  | nil =>
    intro j a b
    refine ⟨[some x0, some (.int (j : Nat)), some v], ?_⟩
    rw [List.nil_append, enumF_cons]
    exact loop_consXK (gg2 1 2 _ _ _ _) (chk_bad hv x0 j M)
  | @cons y o ys os h t ih =>
    intro j a b
    obtain ⟨Γ', e⟩ := ih (j + 1) (some (.int (j : Nat))) (some _)
    refine ⟨Γ', ?_⟩
    rw [List.cons_append, enumF_cons]
    refine (loop_consK hk (gg2 1 2 _ _ _ _) (chk_ok h x0 j M)).trans ?_
    rw [List.length_cons, show j + (ys.length + 1) = j + 1 + ys.length by omega]
    exact e
theorem enum_sq {x : D} {M : Stor} {l : List D} (h : Sq x M l) : ∃ keep : Stor → Prop, keep M ∧ ∀ (b : GS') (a c : Option D), gFor (giEnumB (G.gCons (gVar 0) G.gNil)) tg12 b [some x, a, c] M = loopG keep tg12 b (enumF 0 l) [some x, a, c] M := by
  have e0 : enumD l = enumF 0 l := rfl
  rcases h with rfl | rfl | ⟨k, rfl, hk⟩
  · refine ⟨anyS, trivial, fun b a c => ?_⟩
    unfold gFor giEnumB
    simp only [gFn, gSeq, gSkip, gRet, gRetN, gExpr, gSet, gIf, gAug, gAsg, gPar2, gPar3, gVar, gC, gBin, gUn, gTr, gAnd, gOr, gNot, gAndV, gOrV, gNotV, gIfE, gCall, G.gCons, G.gNil, G.gTup, G.gLst, gLstM, gSl, goSome, goNone, R.bind_ok, R.bind_ex, R.bind_no, R.bindS_ok, R.bindS_ex, R.bindS_no, outS_nx, outS_rt, outS_ex, orR_ok, orR_ex, orR_no, ggName, ggSub, List.getElem?_cons_zero, List.getElem?_cons_succ, List.set_cons_zero, List.set_cons_succ, List.map_cons, List.map_nil, List.length_cons, List.length_nil, List.replicate, List.append_nil, List.nil_append, List.cons_append, Nat.reduceAdd, Nat.reduceSub, Nat.reduceLeDiff, Nat.reduceLT, if_true, if_false, not_false_eq_true, Bool.false_eq_true, Bool.true_eq_false, Bool.not_true, Bool.not_false, decide_true, decide_false, decide_eq_true_eq, reduceIte, reduceCtorEq, eAdd, eAddI, eSub, eLt, eLe, eGt, eGe, eEq, eNe, eEqS, eNeS, eTru, eNeg, eAbs, eInt, eIntB, eLenL, eLenT, e0]
  · refine ⟨anyS, trivial, fun b a c => ?_⟩
    unfold gFor giEnumB
    simp only [gFn, gSeq, gSkip, gRet, gRetN, gExpr, gSet, gIf, gAug, gAsg, gPar2, gPar3, gVar, gC, gBin, gUn, gTr, gAnd, gOr, gNot, gAndV, gOrV, gNotV, gIfE, gCall, G.gCons, G.gNil, G.gTup, G.gLst, gLstM, gSl, goSome, goNone, R.bind_ok, R.bind_ex, R.bind_no, R.bindS_ok, R.bindS_ex, R.bindS_no, outS_nx, outS_rt, outS_ex, orR_ok, orR_ex, orR_no, ggName, ggSub, List.getElem?_cons_zero, List.getElem?_cons_succ, List.set_cons_zero, List.set_cons_succ, List.map_cons, List.map_nil, List.length_cons, List.length_nil, List.replicate, List.append_nil, List.nil_append, List.cons_append, Nat.reduceAdd, Nat.reduceSub, Nat.reduceLeDiff, Nat.reduceLT, if_true, if_false, not_false_eq_true, Bool.false_eq_true, Bool.true_eq_false, Bool.not_true, Bool.not_false, decide_true, decide_false, decide_eq_true_eq, reduceIte, reduceCtorEq, eAdd, eAddI, eSub, eLt, eLe, eGt, eGe, eEq, eNe, eEqS, eNeS, eTru, eNeg, eAbs, eInt, eIntB, eLenL, eLenT, lstIt, e0]
  · refine ⟨fun N => N[k]? = some (.lst l), hk, fun b a c => ?_⟩
    unfold gFor giEnumB
    simp only [gFn, gSeq, gSkip, gRet, gRetN, gExpr, gSet, gIf, gAug, gAsg, gPar2, gPar3, gVar, gC, gBin, gUn, gTr, gAnd, gOr, gNot, gAndV, gOrV, gNotV, gIfE, gCall, G.gCons, G.gNil, G.gTup, G.gLst, gLstM, gSl, goSome, goNone, R.bind_ok, R.bind_ex, R.bind_no, R.bindS_ok, R.bindS_ex, R.bindS_no, outS_nx, outS_rt, outS_ex, orR_ok, orR_ex, orR_no, ggName, ggSub, List.getElem?_cons_zero, List.getElem?_cons_succ, List.set_cons_zero, List.set_cons_succ, List.map_cons, List.map_nil, List.length_cons, List.length_nil, List.replicate, List.append_nil, List.nil_append, List.cons_append, Nat.reduceAdd, Nat.reduceSub, Nat.reduceLeDiff, Nat.reduceLT, if_true, if_false, not_false_eq_true, Bool.false_eq_true, Bool.true_eq_false, Bool.not_true, Bool.not_false, decide_true, decide_false, decide_eq_true_eq, reduceIte, reduceCtorEq, eAdd, eAddI, eSub, eLt, eLe, eGt, eGe, eEq, eNe, eEqS, eNeS, eTru, eNeg, eAbs, eInt, eIntB, eLenL, eLenT, lstIt, hk, e0]
theorem all_ok {x : D} {M : Stor} {xs : List D} {os : List (Option Rat)} (hx : Sq x M xs) (h : VL xs os) (hl : xs.length < 1000) : f_all_ratios [x] M = .ok (.lst (os.map DQ)) M := by
  obtain ⟨keep, hk, e⟩ := enum_sq hx
  obtain ⟨a', b', e1⟩ := chks_ok hk x h 0 none none
  have e2 : ∀ a b : Option D, compX (.one 2) gYes (gCall f_Ratio_of (G.gCons (gVar 2) G.gNil)) x [some x, a, b] M = .ok (.lst (os.map DQ)) M := fun a b => by
    have fin : ∀ (xs : List D) (os : List (Option Rat)), VL xs os → ∃ L : List (D × Option Rat), xs = L.map (·.1) ∧ os = L.map (·.2) ∧ ∀ p ∈ L, VE p.1 p.2 := by
      intro xs os h
      induction h with
      | nil => exact ⟨[], rfl, rfl, fun _ h => by cases h⟩
      | cons h t ih =>
        obtain ⟨L, e1, e2, e3⟩ := ih
        refine ⟨(_, _) :: L, by rw [e1]; rfl, by rw [e2]; rfl, fun p hp => ?_⟩
        rcases List.mem_cons.mp hp with rfl | hp
        · exact h
        · exact e3 p hp
    obtain ⟨L, rfl, rfl, hL⟩ := fin xs os h
    rw [List.map_map]
    refine compX_sqA (.one 2) _ (fun p : D × Option Rat => p.1) (DQ ∘ fun p => p.2) L hx _ (by simp at hl; omega) fun p hp => ?_
    refine ⟨[some x, a, some p.1], rfl, ?_⟩
    have := of_VE (hL p hp) M
    simp only [gFn, gSeq, gSkip, gRet, gRetN, gExpr, gSet, gIf, gAug, gAsg, gPar2, gPar3, gVar, gC, gBin, gUn, gTr, gAnd, gOr, gNot, gAndV, gOrV, gNotV, gIfE, gCall, G.gCons, G.gNil, G.gTup, G.gLst, gLstM, gSl, goSome, goNone, R.bind_ok, R.bind_ex, R.bind_no, R.bindS_ok, R.bindS_ex, R.bindS_no, outS_nx, outS_rt, outS_ex, orR_ok, orR_ex, orR_no, ggName, ggSub, List.getElem?_cons_zero, List.getElem?_cons_succ, List.set_cons_zero, List.set_cons_succ, List.map_cons, List.map_nil, List.length_cons, List.length_nil, List.replicate, List.append_nil, List.nil_append, List.cons_append, Nat.reduceAdd, Nat.reduceSub, Nat.reduceLeDiff, Nat.reduceLT, if_true, if_false, not_false_eq_true, Bool.false_eq_true, Bool.true_eq_false, Bool.not_true, Bool.not_false, decide_true, decide_false, decide_eq_true_eq, reduceIte, reduceCtorEq, eAdd, eAddI, eSub, eLt, eLe, eGt, eGe, eEq, eNe, eEqS, eNeS, eTru, eNeg, eAbs, eInt, eIntB, eLenL, eLenT, this, Function.comp]
  refine fn_rt rfl ?_
  show b_all_ratios [some x, none, none] M = _
  unfold b_all_ratios
  rw [seq_nx ((e _ _ _).trans e1)]
  simp only [gRet, comp_seq, gFn, gSeq, gSkip, gRet, gRetN, gExpr, gSet, gIf, gAug, gAsg, gPar2, gPar3, gVar, gC, gBin, gUn, gTr, gAnd, gOr, gNot, gAndV, gOrV, gNotV, gIfE, gCall, G.gCons, G.gNil, G.gTup, G.gLst, gLstM, gSl, goSome, goNone, R.bind_ok, R.bind_ex, R.bind_no, R.bindS_ok, R.bindS_ex, R.bindS_no, outS_nx, outS_rt, outS_ex, orR_ok, orR_ex, orR_no, ggName, ggSub, List.getElem?_cons_zero, List.getElem?_cons_succ, List.set_cons_zero, List.set_cons_succ, List.map_cons, List.map_nil, List.length_cons, List.length_nil, List.replicate, List.append_nil, List.nil_append, List.cons_append, Nat.reduceAdd, Nat.reduceSub, Nat.reduceLeDiff, Nat.reduceLT, if_true, if_false, not_false_eq_true, Bool.false_eq_true, Bool.true_eq_false, Bool.not_true, Bool.not_false, decide_true, decide_false, decide_eq_true_eq, reduceIte, reduceCtorEq, eAdd, eAddI, eSub, eLt, eLe, eGt, eGe, eEq, eNe, eEqS, eNeS, eTru, eNeg, eAbs, eInt, eIntB, eLenL, eLenT, e2]
theorem all_bad {x : D} {M : Stor} {xs rest : List D} {v : D} {os : List (Option Rat)} (hx : Sq x M (xs ++ v :: rest)) (h : VL xs os) (hv : Odd v) : f_all_ratios [x] M = .ex 1 (some [.int (xs.length : Nat)]) M := by
  obtain ⟨keep, hk, e⟩ := enum_sq hx
  obtain ⟨Γ', e1⟩ := chks_bad hk x v hv rest h 0 none none
  rw [Nat.zero_add] at e1
  show outS (b_all_ratios [some x, none, none] M) = _
  unfold b_all_ratios
  rw [show gSeq _ _ [some x, none, none] M = .ex 1 (some [.int (xs.length : Nat)]) Γ' M from by
    unfold gSeq
    rw [(e _ _ _).trans e1]]
  rfl
end K05

namespace K05
open PySem L2 G
/-! ### total, greatest, least of the program -/
def HL (os : List (Option Rat)) : Prop := ∀ o ∈ os, HbE 97 o
theorem HL.tl {o : Option Rat} {os : List (Option Rat)} (h : HL (o :: os)) : HL os := fun x hx => h x (List.mem_cons_of_mem _ hx)
def topO : Option Rat → Int
  | some q => q.num
  | none => 1
def botO : Option Rat → Nat
  | some q => q.den
  | none => 0
theorem oTop (o : Option Rat) (M : Stor) : dFld ft_top (DQ o) M = .ok (.int (topO o)) M := by cases o <;> rfl
theorem oBot (o : Option Rat) (M : Stor) : dFld ft_bottom (DQ o) M = .ok (.int (botO o : Nat)) M := by cases o <;> rfl
theorem bot0 (o : Option Rat) : decide (((botO o : Nat) : Int) = 0) = o.isNone := by
  cases o with
  | none => rfl
  | some q => have := q.den_nz; simpa [botO] using this
def neg (o : Option Rat) : Bool := decide (topO o < 0)
def addE : Option Rat → Option Rat → Option Rat
  | some p, some q => some (p + q)
  | _, _ => none
theorem neg_num {q : Rat} : neg (some q) = false ↔ 0 ≤ q := by
  show decide (q.num < 0) = false ↔ _
  rw [decide_eq_false_iff_not, ← Rat.num_nonneg]; omega
theorem neg_add {a b : Option Rat} (ha : neg a = false) (hb : neg b = false) : neg (addE a b) = false := by
  cases a with
  | none => rfl
  | some p =>
    cases b with
    | none => rfl
    | some q =>
      rw [neg_num] at *
      show neg (some (p + q)) = false
      rw [neg_num]
      grind
theorem hbe_add {m n : Nat} {a b : Option Rat} [ha : HbE m a] [hb : HbE n b] : HbE (m + n + 1) (addE a b) := by
  cases a with
  | none => exact ⟨fun q e => by cases e⟩
  | some p =>
    cases b with
    | none => exact ⟨fun q e => by cases e⟩
    | some q =>
      have := ha.hb p rfl
      have := hb.hb q rfl
      exact ⟨fun z e => by cases e; infer_instance⟩
theorem add_ok {m n : Nat} (a b : Option Rat) [ha : HbE m a] [hb : HbE n b] (hmn : m + n ≤ 4000) (h : (a ≠ none ∧ b ≠ none) ∨ (neg a = false ∧ neg b = false)) (M : Stor) : f_added [DQ a, DQ b] M = .ok (DQ (addE a b)) M := by
  have eo := endless_ok M
  have bad : a = none ∨ b = none → f_added [DQ a, DQ b] M = .ok (rat 1 0) M := by
    intro hn
    obtain ⟨na, nb⟩ : neg a = false ∧ neg b = false := by
      rcases h with h | h
      · rcases hn with rfl | rfl
        · exact absurd rfl h.1
        · exact absurd rfl h.2
      · exact h
    have na' : ¬ topO a < 0 := by simpa [neg] using na
    have nb' : ¬ topO b < 0 := by simpa [neg] using nb
    rcases hn with rfl | rfl
    · have b0 : decide (((botO none : Nat) : Int) = 0) = true := rfl
      simp only [f_added, b_added, gFn, gSeq, gSkip, gRet, gRetN, gExpr, gSet, gIf, gAug, gAsg, gPar2, gPar3, gVar, gC, gBin, gUn, gTr, gAnd, gOr, gNot, gAndV, gOrV, gNotV, gIfE, gCall, G.gCons, G.gNil, G.gTup, G.gLst, gLstM, gSl, goSome, goNone, R.bind_ok, R.bind_ex, R.bind_no, R.bindS_ok, R.bindS_ex, R.bindS_no, outS_nx, outS_rt, outS_ex, orR_ok, orR_ex, orR_no, ggName, ggSub, List.getElem?_cons_zero, List.getElem?_cons_succ, List.set_cons_zero, List.set_cons_succ, List.map_cons, List.map_nil, List.length_cons, List.length_nil, List.replicate, List.append_nil, List.nil_append, List.cons_append, Nat.reduceAdd, Nat.reduceSub, Nat.reduceLeDiff, Nat.reduceLT, if_true, if_false, not_false_eq_true, Bool.false_eq_true, Bool.true_eq_false, Bool.not_true, Bool.not_false, decide_true, decide_false, decide_eq_true_eq, reduceIte, reduceCtorEq, eAdd, eAddI, eSub, eLt, eLe, eGt, eGe, eEq, eNe, eEqS, eNeS, eTru, eNeg, eAbs, eInt, eIntB, eLenL, eLenT, oTop, oBot, b0, na', nb', eo]
    · have b0 : decide (((botO none : Nat) : Int) = 0) = true := rfl
      by_cases c : ((botO a : Nat) : Int) = 0
      · simp only [f_added, b_added, gFn, gSeq, gSkip, gRet, gRetN, gExpr, gSet, gIf, gAug, gAsg, gPar2, gPar3, gVar, gC, gBin, gUn, gTr, gAnd, gOr, gNot, gAndV, gOrV, gNotV, gIfE, gCall, G.gCons, G.gNil, G.gTup, G.gLst, gLstM, gSl, goSome, goNone, R.bind_ok, R.bind_ex, R.bind_no, R.bindS_ok, R.bindS_ex, R.bindS_no, outS_nx, outS_rt, outS_ex, orR_ok, orR_ex, orR_no, ggName, ggSub, List.getElem?_cons_zero, List.getElem?_cons_succ, List.set_cons_zero, List.set_cons_succ, List.map_cons, List.map_nil, List.length_cons, List.length_nil, List.replicate, List.append_nil, List.nil_append, List.cons_append, Nat.reduceAdd, Nat.reduceSub, Nat.reduceLeDiff, Nat.reduceLT, if_true, if_false, not_false_eq_true, Bool.false_eq_true, Bool.true_eq_false, Bool.not_true, Bool.not_false, decide_true, decide_false, decide_eq_true_eq, reduceIte, reduceCtorEq, eAdd, eAddI, eSub, eLt, eLe, eGt, eGe, eEq, eNe, eEqS, eNeS, eTru, eNeg, eAbs, eInt, eIntB, eLenL, eLenT, oTop, oBot, decide_eq_true c, b0, na', nb', eo]
      · simp only [f_added, b_added, gFn, gSeq, gSkip, gRet, gRetN, gExpr, gSet, gIf, gAug, gAsg, gPar2, gPar3, gVar, gC, gBin, gUn, gTr, gAnd, gOr, gNot, gAndV, gOrV, gNotV, gIfE, gCall, G.gCons, G.gNil, G.gTup, G.gLst, gLstM, gSl, goSome, goNone, R.bind_ok, R.bind_ex, R.bind_no, R.bindS_ok, R.bindS_ex, R.bindS_no, outS_nx, outS_rt, outS_ex, orR_ok, orR_ex, orR_no, ggName, ggSub, List.getElem?_cons_zero, List.getElem?_cons_succ, List.set_cons_zero, List.set_cons_succ, List.map_cons, List.map_nil, List.length_cons, List.length_nil, List.replicate, List.append_nil, List.nil_append, List.cons_append, Nat.reduceAdd, Nat.reduceSub, Nat.reduceLeDiff, Nat.reduceLT, if_true, if_false, not_false_eq_true, Bool.false_eq_true, Bool.true_eq_false, Bool.not_true, Bool.not_false, decide_true, decide_false, decide_eq_true_eq, reduceIte, reduceCtorEq, eAdd, eAddI, eSub, eLt, eLe, eGt, eGe, eEq, eNe, eEqS, eNeS, eTru, eNeg, eAbs, eInt, eIntB, eLenL, eLenT, oTop, oBot, c, b0, na', nb', eo]
  cases a with
  | none => exact bad (.inl rfl)
  | some p =>
    cases b with
    | none => exact bad (.inr rfl)
    | some q =>
      have := ha.hb p rfl
      have := hb.hb q rfl
      exact q_added p q M hmn
theorem fold_none : ∀ (os : List (Option Rat)) (a : Option Rat), a = none ∨ none ∈ os → os.foldl addE a = none
  | [], a, h => by rcases h with h | h; exact h; cases h
  | o :: os, a, h => by
    rw [List.foldl_cons]
    refine fold_none os _ ?_
    rcases h with rfl | h
    · left; rfl
    · rcases List.mem_cons.mp h with rfl | h
      · left; cases a <;> rfl
      · exact .inr h
theorem any_blsA (f : Option Rat → Bool) (os : List (Option Rat)) (M : Stor) : fAny [.lst (os.map fun o => D.bl (f o))] M = .ok (.bl (os.any f)) M := by
  have : blsOf (os.map fun o => D.bl (f o)) = some (os.map f) := by
    induction os with
    | nil => rfl
    | cons q l ih => simp only [List.map_cons, blsOf]; rw [ih]; rfl
  unfold fAny
  simp only [lstOf, Option.bind_some, this]
  rw [List.any_map]; rfl
theorem any_none (os : List (Option Rat)) : os.any (fun o => o.isNone) = true ↔ none ∈ os := by
  rw [List.any_eq_true]
  constructor
  · rintro ⟨o, ho, h⟩
    cases o with
    | none => exact ho
    | some q => cases h
  · intro h; exact ⟨none, h, rfl⟩
/-- what total tells: none for NoRatio -/
def resT (os : List (Option Rat)) : Option (Option Rat) := if os.any (fun o => o.isNone) && os.any neg then none else some (os.foldl addE (some ((0 : Int) : Rat)))
def runT (os : List (Option Rat)) (M : Stor) : R D := match resT os with
  | none => .ex 2 none M
  | some o => .ok (DQ o) M
theorem total_ok {x : D} {M : Stor} {xs : List D} {os : List (Option Rat)} (hx : Sq x M xs) (h : VL xs os) (hn : HL os) (hl : os.length ≤ 20) : f_Ratio_total [x] M = runT os M := by
  have e0 := all_ok hx h (by rw [h.len]; omega)
  have hmem : ∀ d ∈ os.map DQ, ∃ o, d = DQ o := fun d hd => by obtain ⟨o, _, rfl⟩ := List.mem_map.mp hd; exact ⟨o, rfl⟩
  have c1 : ∀ a b c : Option D, compX (.one 2) gYes (gBin dEq (gUn (dFld ft_bottom) (gVar 2)) (gC (.int 0))) (.lst (os.map DQ)) [a, some (.lst (os.map DQ)), b, c] M = .ok (.lst (os.map fun o => .bl o.isNone)) M := fun a b c => by
    refine compX_mapA (.one 2) _ DQ (fun o => .bl o.isNone) os _ M (by omega) fun o _ => ?_
    refine ⟨[a, some (.lst (os.map DQ)), some (DQ o), c], rfl, ?_⟩
    simp only [gBin, gFn, gSeq, gSkip, gRet, gRetN, gExpr, gSet, gIf, gAug, gAsg, gPar2, gPar3, gVar, gC, gBin, gUn, gTr, gAnd, gOr, gNot, gAndV, gOrV, gNotV, gIfE, gCall, G.gCons, G.gNil, G.gTup, G.gLst, gLstM, gSl, goSome, goNone, R.bind_ok, R.bind_ex, R.bind_no, R.bindS_ok, R.bindS_ex, R.bindS_no, outS_nx, outS_rt, outS_ex, orR_ok, orR_ex, orR_no, ggName, ggSub, List.getElem?_cons_zero, List.getElem?_cons_succ, List.set_cons_zero, List.set_cons_succ, List.map_cons, List.map_nil, List.length_cons, List.length_nil, List.replicate, List.append_nil, List.nil_append, List.cons_append, Nat.reduceAdd, Nat.reduceSub, Nat.reduceLeDiff, Nat.reduceLT, if_true, if_false, not_false_eq_true, Bool.false_eq_true, Bool.true_eq_false, Bool.not_true, Bool.not_false, decide_true, decide_false, decide_eq_true_eq, reduceIte, reduceCtorEq, eAdd, eAddI, eSub, eLt, eLe, eGt, eGe, eEq, eNe, eEqS, eNeS, eTru, eNeg, eAbs, eInt, eIntB, eLenL, eLenT, oBot]
    rw [← bot0]
  have c2 : ∀ a b c : Option D, compX (.one 2) gYes (gBin dLtI (gUn (dFld ft_top) (gVar 2)) (gC (.int 0))) (.lst (os.map DQ)) [a, some (.lst (os.map DQ)), b, c] M = .ok (.lst (os.map fun o => .bl (neg o))) M := fun a b c => by
    refine compX_mapA (.one 2) _ DQ (fun o => .bl (neg o)) os _ M (by omega) fun o _ => ?_
    refine ⟨[a, some (.lst (os.map DQ)), some (DQ o), c], rfl, ?_⟩
    simp only [gBin, gFn, gSeq, gSkip, gRet, gRetN, gExpr, gSet, gIf, gAug, gAsg, gPar2, gPar3, gVar, gC, gBin, gUn, gTr, gAnd, gOr, gNot, gAndV, gOrV, gNotV, gIfE, gCall, G.gCons, G.gNil, G.gTup, G.gLst, gLstM, gSl, goSome, goNone, R.bind_ok, R.bind_ex, R.bind_no, R.bindS_ok, R.bindS_ex, R.bindS_no, outS_nx, outS_rt, outS_ex, orR_ok, orR_ex, orR_no, ggName, ggSub, List.getElem?_cons_zero, List.getElem?_cons_succ, List.set_cons_zero, List.set_cons_succ, List.map_cons, List.map_nil, List.length_cons, List.length_nil, List.replicate, List.append_nil, List.nil_append, List.cons_append, Nat.reduceAdd, Nat.reduceSub, Nat.reduceLeDiff, Nat.reduceLT, if_true, if_false, not_false_eq_true, Bool.false_eq_true, Bool.true_eq_false, Bool.not_true, Bool.not_false, decide_true, decide_false, decide_eq_true_eq, reduceIte, reduceCtorEq, eAdd, eAddI, eSub, eLt, eLe, eGt, eGe, eEq, eNe, eEqS, eNeS, eTru, eNeg, eAbs, eInt, eIntB, eLenL, eLenT, oTop]
    rfl
  have a1 := any_blsA (fun o => o.isNone) os M
  have a2 := any_blsA neg os M
  have mk := make1_q 0 M
  have lp : ∀ (l : List (Option Rat)) (m : Nat) (a : Option Rat) (v : Option D), HbE m a → HL l → m + 98 * l.length ≤ 3000 → ((a ≠ none ∧ ∀ o ∈ l, o ≠ none) ∨ (neg a = false ∧ ∀ o ∈ l, neg o = false)) →
      ∃ v', loopG anyS (ggName 2) (gSet 3 (gCall f_added (gCons (gVar 3) (gCons (gVar 2) gNil)))) (l.map DQ) [some x, some (.lst (os.map DQ)), v, some (DQ a)] M
      = .nx [some x, some (.lst (os.map DQ)), v', some (DQ (l.foldl addE a))] M := by
    intro l
    induction l with
    | nil => intro m a v _ _ _ _; exact ⟨v, loop_nilA⟩
    | cons o l ih =>
      intro m a v ha hl hm hc
      have ho := hl o List.mem_cons_self
      rw [List.length_cons] at hm
      have k := add_ok a o (m := m) (n := 97) (by omega) (hc.imp (fun z => ⟨z.1, z.2 o List.mem_cons_self⟩) fun z => ⟨z.1, z.2 o List.mem_cons_self⟩) M
      have hc' : (addE a o ≠ none ∧ ∀ o' ∈ l, o' ≠ none) ∨ (neg (addE a o) = false ∧ ∀ o' ∈ l, neg o' = false) := by
        rcases hc with ⟨h1, h2⟩ | ⟨h1, h2⟩
        · left
          refine ⟨?_, fun o' h => h2 o' (List.mem_cons_of_mem _ h)⟩
          have := h2 o List.mem_cons_self
          cases a with
          | none => exact absurd rfl h1
          | some p =>
            cases o with
            | none => exact absurd rfl this
            | some q => simp [addE]
        · exact .inr ⟨neg_add h1 (h2 o List.mem_cons_self), fun o' h => h2 o' (List.mem_cons_of_mem _ h)⟩
      obtain ⟨v', e⟩ := ih (m + 97 + 1) (addE a o) (some (DQ o)) hbe_add hl.tl (by omega) hc'
      refine ⟨v', ?_⟩
      rw [List.foldl_cons, ← e, List.map_cons]
      exact loop_cons rfl (by simp only [gFn, gSeq, gSkip, gRet, gRetN, gExpr, gSet, gIf, gAug, gAsg, gPar2, gPar3, gVar, gC, gBin, gUn, gTr, gAnd, gOr, gNot, gAndV, gOrV, gNotV, gIfE, gCall, G.gCons, G.gNil, G.gTup, G.gLst, gLstM, gSl, goSome, goNone, R.bind_ok, R.bind_ex, R.bind_no, R.bindS_ok, R.bindS_ex, R.bindS_no, outS_nx, outS_rt, outS_ex, orR_ok, orR_ex, orR_no, ggName, ggSub, List.getElem?_cons_zero, List.getElem?_cons_succ, List.set_cons_zero, List.set_cons_succ, List.map_cons, List.map_nil, List.length_cons, List.length_nil, List.replicate, List.append_nil, List.nil_append, List.cons_append, Nat.reduceAdd, Nat.reduceSub, Nat.reduceLeDiff, Nat.reduceLT, if_true, if_false, not_false_eq_true, Bool.false_eq_true, Bool.true_eq_false, Bool.not_true, Bool.not_false, decide_true, decide_false, decide_eq_true_eq, reduceIte, reduceCtorEq, eAdd, eAddI, eSub, eLt, eLe, eGt, eGe, eEq, eNe, eEqS, eNeS, eTru, eNeg, eAbs, eInt, eIntB, eLenL, eLenT, k])
  unfold runT resT
  cases hb : os.any (fun o => o.isNone) with
  | false =>
    have nn : ∀ o ∈ os, o ≠ none := fun o ho e => by
      subst e
      rw [(any_none os).mpr ho] at hb
      cases hb
    have z0 : HbE 1 (some ((0 : Int) : Rat)) := ⟨fun q e => by cases e; exact hb_int (by decide) (by decide)⟩
    obtain ⟨v', e⟩ := lp os 1 (some ((0 : Int) : Rat)) none z0 hn (by omega) (.inl ⟨by simp, nn⟩)
    rw [hb] at a1
    have e : loopG anyS (ggName 2) (gSet 3 (gCall f_added (gCons (gVar 3) (gCons (gVar 2) gNil)))) (os.map DQ) [some x, some (.lst (os.map DQ)), none, some (RQ ((0 : Int) : Rat))] M = _ := e
    refine fn_rt rfl ?_
    show b_Ratio_total [some x, none, none, none] M = _
    unfold b_Ratio_total
    simp only [comp_seq, for_seq, gFn, gSeq, gSkip, gRet, gRetN, gExpr, gSet, gIf, gAug, gAsg, gPar2, gPar3, gVar, gC, gBin, gUn, gTr, gAnd, gOr, gNot, gAndV, gOrV, gNotV, gIfE, gCall, G.gCons, G.gNil, G.gTup, G.gLst, gLstM, gSl, goSome, goNone, R.bind_ok, R.bind_ex, R.bind_no, R.bindS_ok, R.bindS_ex, R.bindS_no, outS_nx, outS_rt, outS_ex, orR_ok, orR_ex, orR_no, ggName, ggSub, List.getElem?_cons_zero, List.getElem?_cons_succ, List.set_cons_zero, List.set_cons_succ, List.map_cons, List.map_nil, List.length_cons, List.length_nil, List.replicate, List.append_nil, List.nil_append, List.cons_append, Nat.reduceAdd, Nat.reduceSub, Nat.reduceLeDiff, Nat.reduceLT, if_true, if_false, not_false_eq_true, Bool.false_eq_true, Bool.true_eq_false, Bool.not_true, Bool.not_false, decide_true, decide_false, decide_eq_true_eq, reduceIte, reduceCtorEq, eAdd, eAddI, eSub, eLt, eLe, eGt, eGe, eEq, eNe, eEqS, eNeS, eTru, eNeg, eAbs, eInt, eIntB, eLenL, eLenT, e0, c1, a1, mk, forX_lst, e, Bool.false_and]
  | true =>
    rw [hb] at a1
    cases hg : os.any neg with
    | true =>
      rw [hg] at a2
      show outS (b_Ratio_total [some x, none, none, none] M) = _
      unfold b_Ratio_total
      simp only [comp_seq, for_seq, gFn, gSeq, gSkip, gRet, gRetN, gExpr, gSet, gIf, gAug, gAsg, gPar2, gPar3, gVar, gC, gBin, gUn, gTr, gAnd, gOr, gNot, gAndV, gOrV, gNotV, gIfE, gCall, G.gCons, G.gNil, G.gTup, G.gLst, gLstM, gSl, goSome, goNone, R.bind_ok, R.bind_ex, R.bind_no, R.bindS_ok, R.bindS_ex, R.bindS_no, outS_nx, outS_rt, outS_ex, orR_ok, orR_ex, orR_no, ggName, ggSub, List.getElem?_cons_zero, List.getElem?_cons_succ, List.set_cons_zero, List.set_cons_succ, List.map_cons, List.map_nil, List.length_cons, List.length_nil, List.replicate, List.append_nil, List.nil_append, List.cons_append, Nat.reduceAdd, Nat.reduceSub, Nat.reduceLeDiff, Nat.reduceLT, if_true, if_false, not_false_eq_true, Bool.false_eq_true, Bool.true_eq_false, Bool.not_true, Bool.not_false, decide_true, decide_false, decide_eq_true_eq, reduceIte, reduceCtorEq, eAdd, eAddI, eSub, eLt, eLe, eGt, eGe, eEq, eNe, eEqS, eNeS, eTru, eNeg, eAbs, eInt, eIntB, eLenL, eLenT, e0, c1, c2, a1, a2, gRaise0, Bool.and_self]
    | false =>
      rw [hg] at a2
      have nn : ∀ o ∈ os, neg o = false := fun o ho => by
        cases hz : neg o with
        | false => rfl
        | true =>
          have : os.any neg = true := List.any_eq_true.mpr ⟨o, ho, hz⟩
          rw [hg] at this; cases this
      have z0 : HbE 1 (some ((0 : Int) : Rat)) := ⟨fun q e => by cases e; exact hb_int (by decide) (by decide)⟩
      obtain ⟨v', e⟩ := lp os 1 (some ((0 : Int) : Rat)) none z0 hn (by omega) (.inr ⟨rfl, nn⟩)
      have e : loopG anyS (ggName 2) (gSet 3 (gCall f_added (gCons (gVar 3) (gCons (gVar 2) gNil)))) (os.map DQ) [some x, some (.lst (os.map DQ)), none, some (RQ ((0 : Int) : Rat))] M = _ := e
      refine fn_rt rfl ?_
      show b_Ratio_total [some x, none, none, none] M = _
      unfold b_Ratio_total
      simp only [comp_seq, for_seq, gFn, gSeq, gSkip, gRet, gRetN, gExpr, gSet, gIf, gAug, gAsg, gPar2, gPar3, gVar, gC, gBin, gUn, gTr, gAnd, gOr, gNot, gAndV, gOrV, gNotV, gIfE, gCall, G.gCons, G.gNil, G.gTup, G.gLst, gLstM, gSl, goSome, goNone, R.bind_ok, R.bind_ex, R.bind_no, R.bindS_ok, R.bindS_ex, R.bindS_no, outS_nx, outS_rt, outS_ex, orR_ok, orR_ex, orR_no, ggName, ggSub, List.getElem?_cons_zero, List.getElem?_cons_succ, List.set_cons_zero, List.set_cons_succ, List.map_cons, List.map_nil, List.length_cons, List.length_nil, List.replicate, List.append_nil, List.nil_append, List.cons_append, Nat.reduceAdd, Nat.reduceSub, Nat.reduceLeDiff, Nat.reduceLT, if_true, if_false, not_false_eq_true, Bool.false_eq_true, Bool.true_eq_false, Bool.not_true, Bool.not_false, decide_true, decide_false, decide_eq_true_eq, reduceIte, reduceCtorEq, eAdd, eAddI, eSub, eLt, eLe, eGt, eGe, eEq, eNe, eEqS, eNeS, eTru, eNeg, eAbs, eInt, eIntB, eLenL, eLenT, e0, c1, c2, a1, a2, mk, forX_lst, e, Bool.and_false]
end K05

namespace K05
open PySem L2 G
/-! ### greatest and least -/
def stG (r o : Option Rat) : Option Rat := if lessE r o then o else r
def stL (r o : Option Rat) : Option Rat := if lessE o r then o else r
def resG : List (Option Rat) → Option Rat
  | [] => some ((0 : Int) : Rat)
  | o :: os => (o :: os).foldl stG o
def resL (os : List (Option Rat)) : Option Rat := os.foldl stL none
theorem eq_nilA (o : Option Rat) (l : List (Option Rat)) (M : Stor) : orR (dEq (.lst (DQ o :: l.map DQ)) (.lst []) M) (dEqLen (.lst (DQ o :: l.map DQ)) (.lst []) M) = .ok (.bl false) M := by
  have e : dEq (.lst (DQ o :: l.map DQ)) (.lst []) M = .no := by
    have t : topPy (.lst (DQ o :: l.map DQ)) M = none := by
      unfold topPy; cases o <;> simp [toPy, toPyL, DQ, RQ]
    show orR (dEqI _ _ _) (orR (dEqS _ _ _) (dEqD _ _ _)) = _
    unfold dEqD; rw [t]; rfl
  rw [e]; rfl
theorem eq_nil0 (M : Stor) : orR (dEq (.lst []) (.lst []) M) (dEqLen (.lst []) (.lst []) M) = .ok (.bl true) M := by
  have e : dEq (.lst []) (.lst []) M = .ok (.bl true) M := by
    rw [eq_lst]; exact eqD_self (p := .list []) (by simp [topPy, toPy, toPyL]) (by simp [topPy, toPy, toPyL]) (by decide +kernel)
  rw [e]; rfl
theorem greatest_ok {x : D} {M : Stor} {xs : List D} {os : List (Option Rat)} (hx : Sq x M xs) (h : VL xs os) (hn : HL os) (hl : os.length ≤ 20) : f_Ratio_greatest [x] M = .ok (DQ (resG os)) M := by
  have e0 := all_ok hx h (by rw [h.len]; omega)
  refine fn_rt rfl ?_
  show b_Ratio_greatest [some x, none, none, none] M = _
  unfold b_Ratio_greatest
  rw [seq_nx (Γ1 := [some x, some (.lst (os.map DQ)), none, none]) (M1 := M) (by simp only [gFn, gSeq, gSkip, gRet, gRetN, gExpr, gSet, gIf, gAug, gAsg, gPar2, gPar3, gVar, gC, gBin, gUn, gTr, gAnd, gOr, gNot, gAndV, gOrV, gNotV, gIfE, gCall, G.gCons, G.gNil, G.gTup, G.gLst, gLstM, gSl, goSome, goNone, R.bind_ok, R.bind_ex, R.bind_no, R.bindS_ok, R.bindS_ex, R.bindS_no, outS_nx, outS_rt, outS_ex, orR_ok, orR_ex, orR_no, ggName, ggSub, List.getElem?_cons_zero, List.getElem?_cons_succ, List.set_cons_zero, List.set_cons_succ, List.map_cons, List.map_nil, List.length_cons, List.length_nil, List.replicate, List.append_nil, List.nil_append, List.cons_append, Nat.reduceAdd, Nat.reduceSub, Nat.reduceLeDiff, Nat.reduceLT, if_true, if_false, not_false_eq_true, Bool.false_eq_true, Bool.true_eq_false, Bool.not_true, Bool.not_false, decide_true, decide_false, decide_eq_true_eq, reduceIte, reduceCtorEq, eAdd, eAddI, eSub, eLt, eLe, eGt, eGe, eEq, eNe, eEqS, eNeS, eTru, eNeg, eAbs, eInt, eIntB, eLenL, eLenT, e0])]
  cases os with
  | nil =>
    have mk := make1_q 0 M
    have q := eq_nil0 M
    refine seq_rt ?_
    simp only [List.map_nil, gFn, gSeq, gSkip, gRet, gRetN, gExpr, gSet, gIf, gAug, gAsg, gPar2, gPar3, gVar, gC, gBin, gUn, gTr, gAnd, gOr, gNot, gAndV, gOrV, gNotV, gIfE, gCall, G.gCons, G.gNil, G.gTup, G.gLst, gLstM, gSl, goSome, goNone, R.bind_ok, R.bind_ex, R.bind_no, R.bindS_ok, R.bindS_ex, R.bindS_no, outS_nx, outS_rt, outS_ex, orR_ok, orR_ex, orR_no, ggName, ggSub, List.getElem?_cons_zero, List.getElem?_cons_succ, List.set_cons_zero, List.set_cons_succ, List.map_cons, List.map_nil, List.length_cons, List.length_nil, List.replicate, List.append_nil, List.nil_append, List.cons_append, Nat.reduceAdd, Nat.reduceSub, Nat.reduceLeDiff, Nat.reduceLT, if_true, if_false, not_false_eq_true, Bool.false_eq_true, Bool.true_eq_false, Bool.not_true, Bool.not_false, decide_true, decide_false, decide_eq_true_eq, reduceIte, reduceCtorEq, eAdd, eAddI, eSub, eLt, eLe, eGt, eGe, eEq, eNe, eEqS, eNeS, eTru, eNeg, eAbs, eInt, eIntB, eLenL, eLenT, q, mk, resG, DQ]
  | cons o l =>
    have q := eq_nilA o l M
    have ix : dIx (.lst (DQ o :: l.map DQ)) (.int 0) M = .ok (DQ o) M := by
      have : L2.atI (DQ o :: l.map DQ) 0 = some (DQ o) := at_nat (i := 0) rfl
      show (match L2.atI (DQ o :: l.map DQ) 0 with | some d => R.ok d M | none => .no) = _
      rw [this]
    have lp : ∀ (l' : List (Option Rat)) (r : Option Rat) (v : Option D), HbE 97 r → HL l' →
        ∃ v', loopG anyS (ggName 3) (gIf (gTr truD (gCall f_is_less (gCons (gVar 2) (gCons (gVar 3) gNil)))) (gSet 2 (gVar 3)) gSkip) (l'.map DQ) [some x, some (.lst ((o :: l).map DQ)), some (DQ r), v] M
        = .nx [some x, some (.lst ((o :: l).map DQ)), some (DQ (l'.foldl stG r)), v'] M := by
      intro l'
      induction l' with
      | nil => intro r v _ _; exact ⟨v, loop_nilA⟩
      | cons p l' ih =>
        intro r v hr hl'
        have hp := hl' p List.mem_cons_self
        have k := less_E r p M (m := 97) (n := 97) (by decide)
        cases hz : lessE r p with
        | true =>
          rw [hz] at k
          obtain ⟨v', e⟩ := ih p (some (DQ p)) hp hl'.tl
          refine ⟨v', ?_⟩
          rw [List.foldl_cons, show stG r p = p by unfold stG; rw [hz]; rfl, ← e, List.map_cons (f := DQ) (a := p)]
          exact loop_cons rfl (by simp only [gFn, gSeq, gSkip, gRet, gRetN, gExpr, gSet, gIf, gAug, gAsg, gPar2, gPar3, gVar, gC, gBin, gUn, gTr, gAnd, gOr, gNot, gAndV, gOrV, gNotV, gIfE, gCall, G.gCons, G.gNil, G.gTup, G.gLst, gLstM, gSl, goSome, goNone, R.bind_ok, R.bind_ex, R.bind_no, R.bindS_ok, R.bindS_ex, R.bindS_no, outS_nx, outS_rt, outS_ex, orR_ok, orR_ex, orR_no, ggName, ggSub, List.getElem?_cons_zero, List.getElem?_cons_succ, List.set_cons_zero, List.set_cons_succ, List.map_cons, List.map_nil, List.length_cons, List.length_nil, List.replicate, List.append_nil, List.nil_append, List.cons_append, Nat.reduceAdd, Nat.reduceSub, Nat.reduceLeDiff, Nat.reduceLT, if_true, if_false, not_false_eq_true, Bool.false_eq_true, Bool.true_eq_false, Bool.not_true, Bool.not_false, decide_true, decide_false, decide_eq_true_eq, reduceIte, reduceCtorEq, eAdd, eAddI, eSub, eLt, eLe, eGt, eGe, eEq, eNe, eEqS, eNeS, eTru, eNeg, eAbs, eInt, eIntB, eLenL, eLenT, k])
        | false =>
          rw [hz] at k
          obtain ⟨v', e⟩ := ih r (some (DQ p)) hr hl'.tl
          refine ⟨v', ?_⟩
          rw [List.foldl_cons, show stG r p = r by unfold stG; rw [hz]; rfl, ← e, List.map_cons (f := DQ) (a := p)]
          exact loop_cons rfl (by simp only [gFn, gSeq, gSkip, gRet, gRetN, gExpr, gSet, gIf, gAug, gAsg, gPar2, gPar3, gVar, gC, gBin, gUn, gTr, gAnd, gOr, gNot, gAndV, gOrV, gNotV, gIfE, gCall, G.gCons, G.gNil, G.gTup, G.gLst, gLstM, gSl, goSome, goNone, R.bind_ok, R.bind_ex, R.bind_no, R.bindS_ok, R.bindS_ex, R.bindS_no, outS_nx, outS_rt, outS_ex, orR_ok, orR_ex, orR_no, ggName, ggSub, List.getElem?_cons_zero, List.getElem?_cons_succ, List.set_cons_zero, List.set_cons_succ, List.map_cons, List.map_nil, List.length_cons, List.length_nil, List.replicate, List.append_nil, List.nil_append, List.cons_append, Nat.reduceAdd, Nat.reduceSub, Nat.reduceLeDiff, Nat.reduceLT, if_true, if_false, not_false_eq_true, Bool.false_eq_true, Bool.true_eq_false, Bool.not_true, Bool.not_false, decide_true, decide_false, decide_eq_true_eq, reduceIte, reduceCtorEq, eAdd, eAddI, eSub, eLt, eLe, eGt, eGe, eEq, eNe, eEqS, eNeS, eTru, eNeg, eAbs, eInt, eIntB, eLenL, eLenT, k])
    obtain ⟨v', e⟩ := lp (o :: l) o none (hn o List.mem_cons_self) hn
    rw [seq_nx (Γ1 := [some x, some (.lst ((o :: l).map DQ)), none, none]) (M1 := M) (by rw [List.map_cons]; simp only [gFn, gSeq, gSkip, gRet, gRetN, gExpr, gSet, gIf, gAug, gAsg, gPar2, gPar3, gVar, gC, gBin, gUn, gTr, gAnd, gOr, gNot, gAndV, gOrV, gNotV, gIfE, gCall, G.gCons, G.gNil, G.gTup, G.gLst, gLstM, gSl, goSome, goNone, R.bind_ok, R.bind_ex, R.bind_no, R.bindS_ok, R.bindS_ex, R.bindS_no, outS_nx, outS_rt, outS_ex, orR_ok, orR_ex, orR_no, ggName, ggSub, List.getElem?_cons_zero, List.getElem?_cons_succ, List.set_cons_zero, List.set_cons_succ, List.map_cons, List.map_nil, List.length_cons, List.length_nil, List.replicate, List.append_nil, List.nil_append, List.cons_append, Nat.reduceAdd, Nat.reduceSub, Nat.reduceLeDiff, Nat.reduceLT, if_true, if_false, not_false_eq_true, Bool.false_eq_true, Bool.true_eq_false, Bool.not_true, Bool.not_false, decide_true, decide_false, decide_eq_true_eq, reduceIte, reduceCtorEq, eAdd, eAddI, eSub, eLt, eLe, eGt, eGe, eEq, eNe, eEqS, eNeS, eTru, eNeg, eAbs, eInt, eIntB, eLenL, eLenT, q])]
    rw [seq_nx (Γ1 := [some x, some (.lst ((o :: l).map DQ)), some (DQ o), none]) (M1 := M) (by rw [List.map_cons]; simp only [gFn, gSeq, gSkip, gRet, gRetN, gExpr, gSet, gIf, gAug, gAsg, gPar2, gPar3, gVar, gC, gBin, gUn, gTr, gAnd, gOr, gNot, gAndV, gOrV, gNotV, gIfE, gCall, G.gCons, G.gNil, G.gTup, G.gLst, gLstM, gSl, goSome, goNone, R.bind_ok, R.bind_ex, R.bind_no, R.bindS_ok, R.bindS_ex, R.bindS_no, outS_nx, outS_rt, outS_ex, orR_ok, orR_ex, orR_no, ggName, ggSub, List.getElem?_cons_zero, List.getElem?_cons_succ, List.set_cons_zero, List.set_cons_succ, List.map_cons, List.map_nil, List.length_cons, List.length_nil, List.replicate, List.append_nil, List.nil_append, List.cons_append, Nat.reduceAdd, Nat.reduceSub, Nat.reduceLeDiff, Nat.reduceLT, if_true, if_false, not_false_eq_true, Bool.false_eq_true, Bool.true_eq_false, Bool.not_true, Bool.not_false, decide_true, decide_false, decide_eq_true_eq, reduceIte, reduceCtorEq, eAdd, eAddI, eSub, eLt, eLe, eGt, eGe, eEq, eNe, eEqS, eNeS, eTru, eNeg, eAbs, eInt, eIntB, eLenL, eLenT, ix])]
    rw [seq_nx (Γ1 := [some x, some (.lst ((o :: l).map DQ)), some (DQ (resG (o :: l))), v']) (M1 := M) (by
      rw [for_seq]
      simp only [gVar, List.getElem?_cons_succ, List.getElem?_cons_zero, R.bindS_ok, forX_lst]
      exact e)]
    simp only [gFn, gSeq, gSkip, gRet, gRetN, gExpr, gSet, gIf, gAug, gAsg, gPar2, gPar3, gVar, gC, gBin, gUn, gTr, gAnd, gOr, gNot, gAndV, gOrV, gNotV, gIfE, gCall, G.gCons, G.gNil, G.gTup, G.gLst, gLstM, gSl, goSome, goNone, R.bind_ok, R.bind_ex, R.bind_no, R.bindS_ok, R.bindS_ex, R.bindS_no, outS_nx, outS_rt, outS_ex, orR_ok, orR_ex, orR_no, ggName, ggSub, List.getElem?_cons_zero, List.getElem?_cons_succ, List.set_cons_zero, List.set_cons_succ, List.map_cons, List.map_nil, List.length_cons, List.length_nil, List.replicate, List.append_nil, List.nil_append, List.cons_append, Nat.reduceAdd, Nat.reduceSub, Nat.reduceLeDiff, Nat.reduceLT, if_true, if_false, not_false_eq_true, Bool.false_eq_true, Bool.true_eq_false, Bool.not_true, Bool.not_false, decide_true, decide_false, decide_eq_true_eq, reduceIte, reduceCtorEq, eAdd, eAddI, eSub, eLt, eLe, eGt, eGe, eEq, eNe, eEqS, eNeS, eTru, eNeg, eAbs, eInt, eIntB, eLenL, eLenT]
theorem least_ok {x : D} {M : Stor} {xs : List D} {os : List (Option Rat)} (hx : Sq x M xs) (h : VL xs os) (hn : HL os) (hl : os.length ≤ 20) : f_Ratio_least [x] M = .ok (DQ (resL os)) M := by
  have e0 := all_ok hx h (by rw [h.len]; omega)
  have eo := endless_ok M
  have lp : ∀ (l' : List (Option Rat)) (r : Option Rat) (v : Option D), HbE 97 r → HL l' →
      ∃ v', loopG anyS (ggName 2) (gIf (gTr truD (gCall f_is_less (gCons (gVar 2) (gCons (gVar 1) gNil)))) (gSet 1 (gVar 2)) gSkip) (l'.map DQ) [some x, some (DQ r), v] M
      = .nx [some x, some (DQ (l'.foldl stL r)), v'] M := by
    intro l'
    induction l' with
    | nil => intro r v _ _; exact ⟨v, loop_nilA⟩
    | cons p l' ih =>
      intro r v hr hl'
      have hp := hl' p List.mem_cons_self
      have k := less_E p r M (m := 97) (n := 97) (by decide)
      cases hz : lessE p r with
      | true =>
        rw [hz] at k
        obtain ⟨v', e⟩ := ih p (some (DQ p)) hp hl'.tl
        refine ⟨v', ?_⟩
        rw [List.foldl_cons, show stL r p = p by unfold stL; rw [hz]; rfl, ← e, List.map_cons]
        exact loop_cons rfl (by simp only [gFn, gSeq, gSkip, gRet, gRetN, gExpr, gSet, gIf, gAug, gAsg, gPar2, gPar3, gVar, gC, gBin, gUn, gTr, gAnd, gOr, gNot, gAndV, gOrV, gNotV, gIfE, gCall, G.gCons, G.gNil, G.gTup, G.gLst, gLstM, gSl, goSome, goNone, R.bind_ok, R.bind_ex, R.bind_no, R.bindS_ok, R.bindS_ex, R.bindS_no, outS_nx, outS_rt, outS_ex, orR_ok, orR_ex, orR_no, ggName, ggSub, List.getElem?_cons_zero, List.getElem?_cons_succ, List.set_cons_zero, List.set_cons_succ, List.map_cons, List.map_nil, List.length_cons, List.length_nil, List.replicate, List.append_nil, List.nil_append, List.cons_append, Nat.reduceAdd, Nat.reduceSub, Nat.reduceLeDiff, Nat.reduceLT, if_true, if_false, not_false_eq_true, Bool.false_eq_true, Bool.true_eq_false, Bool.not_true, Bool.not_false, decide_true, decide_false, decide_eq_true_eq, reduceIte, reduceCtorEq, eAdd, eAddI, eSub, eLt, eLe, eGt, eGe, eEq, eNe, eEqS, eNeS, eTru, eNeg, eAbs, eInt, eIntB, eLenL, eLenT, k])
      | false =>
        rw [hz] at k
        obtain ⟨v', e⟩ := ih r (some (DQ p)) hr hl'.tl
        refine ⟨v', ?_⟩
        rw [List.foldl_cons, show stL r p = r by unfold stL; rw [hz]; rfl, ← e, List.map_cons]
        exact loop_cons rfl (by simp only [gFn, gSeq, gSkip, gRet, gRetN, gExpr, gSet, gIf, gAug, gAsg, gPar2, gPar3, gVar, gC, gBin, gUn, gTr, gAnd, gOr, gNot, gAndV, gOrV, gNotV, gIfE, gCall, G.gCons, G.gNil, G.gTup, G.gLst, gLstM, gSl, goSome, goNone, R.bind_ok, R.bind_ex, R.bind_no, R.bindS_ok, R.bindS_ex, R.bindS_no, outS_nx, outS_rt, outS_ex, orR_ok, orR_ex, orR_no, ggName, ggSub, List.getElem?_cons_zero, List.getElem?_cons_succ, List.set_cons_zero, List.set_cons_succ, List.map_cons, List.map_nil, List.length_cons, List.length_nil, List.replicate, List.append_nil, List.nil_append, List.cons_append, Nat.reduceAdd, Nat.reduceSub, Nat.reduceLeDiff, Nat.reduceLT, if_true, if_false, not_false_eq_true, Bool.false_eq_true, Bool.true_eq_false, Bool.not_true, Bool.not_false, decide_true, decide_false, decide_eq_true_eq, reduceIte, reduceCtorEq, eAdd, eAddI, eSub, eLt, eLe, eGt, eGe, eEq, eNe, eEqS, eNeS, eTru, eNeg, eAbs, eInt, eIntB, eLenL, eLenT, k])
  obtain ⟨v', e⟩ := lp os none none ⟨fun q e => by cases e⟩ hn
  have e : loopG anyS (ggName 2) (gIf (gTr truD (gCall f_is_less (gCons (gVar 2) (gCons (gVar 1) gNil)))) (gSet 1 (gVar 2)) gSkip) (os.map DQ) [some x, some (rat 1 0), none] M = _ := e
  refine fn_rt rfl ?_
  show b_Ratio_least [some x, none, none] M = _
  unfold b_Ratio_least
  simp only [for_seq, gFn, gSeq, gSkip, gRet, gRetN, gExpr, gSet, gIf, gAug, gAsg, gPar2, gPar3, gVar, gC, gBin, gUn, gTr, gAnd, gOr, gNot, gAndV, gOrV, gNotV, gIfE, gCall, G.gCons, G.gNil, G.gTup, G.gLst, gLstM, gSl, goSome, goNone, R.bind_ok, R.bind_ex, R.bind_no, R.bindS_ok, R.bindS_ex, R.bindS_no, outS_nx, outS_rt, outS_ex, orR_ok, orR_ex, orR_no, ggName, ggSub, List.getElem?_cons_zero, List.getElem?_cons_succ, List.set_cons_zero, List.set_cons_succ, List.map_cons, List.map_nil, List.length_cons, List.length_nil, List.replicate, List.append_nil, List.nil_append, List.cons_append, Nat.reduceAdd, Nat.reduceSub, Nat.reduceLeDiff, Nat.reduceLT, if_true, if_false, not_false_eq_true, Bool.false_eq_true, Bool.true_eq_false, Bool.not_true, Bool.not_false, decide_true, decide_false, decide_eq_true_eq, reduceIte, reduceCtorEq, eAdd, eAddI, eSub, eLt, eLe, eGt, eGe, eEq, eNe, eEqS, eNeS, eTru, eNeg, eAbs, eInt, eIntB, eLenL, eLenT, e0, eo, forX_lst, e]
  rfl
/-! ### the law's own -/
def PQ (o : Option Rat) : D := pairD (topO o) (botO o : Nat)
theorem p0 (o : Option Rat) (M : Stor) : dIx (PQ o) (.int 0) M = .ok (.int (topO o)) M := rfl
theorem p1 (o : Option Rat) (M : Stor) : dIx (PQ o) (.int 1) M = .ok (.int (botO o : Nat)) M := rfl
/-- a list, firm or of the store -/
def SL (x : D) (M : Stor) (l : List D) : Prop := x = .lst l ∨ ∃ k, x = .ref k ∧ M[k]? = some (.lst l)
theorem SL.sq {x : D} {M : Stor} {l : List D} (h : SL x M l) : Sq x M l := .inr h
theorem SL.top {x : D} {M : Stor} {l : List D} {ps : List PyData} (h : SL x M l) (e : toPyL l = some ps) : topPy x M = some (.list ps) := by
  rcases h with rfl | ⟨k, rfl, hk⟩
  · unfold topPy; simp [toPy, e]
  · unfold topPy; simp only [hk, e, Option.map_some]
theorem SL.ix {x : D} {M : Stor} {l : List D} (h : SL x M l) (i : Int) : dIx x (.int i) M = (match L2.atI l i with | some d => R.ok d M | none => .no) := by
  rcases h with rfl | ⟨k, rfl, hk⟩
  · rfl
  · exact ix_ref hk i
def pyP (o : Option Rat) : PyData := .tuple [.int (topO o), .int (botO o : Nat)]
theorem toPy_PQ : ∀ os : List (Option Rat), toPyL (os.map PQ) = some (os.map pyP)
  | [] => by simp [toPyL]
  | o :: os => by simp [toPyL, toPy, toPy_PQ os, PQ, pyP]
theorem lay_P : ∀ os : List (Option Rat), PyData.canLayAll0 (os.map pyP) = true
  | [] => by simp [PyData.canLayAll0]
  | o :: os => by simp [PyData.canLayAll0, PyData.canLay0, lay_P os, pyP]
theorem dep_P : ∀ os : List (Option Rat), PyData.depthAll (os.map pyP) ≤ 1
  | [] => by simp [PyData.depthAll]
  | o :: os => by
    have := dep_P os
    simp [PyData.depthAll, PyData.depth, pyP]
    omega
theorem shp_P (os : List (Option Rat)) : SeqAt.shaped (.list (os.map pyP)) = true := by
  have := dep_P os
  simp [SeqAt.shaped, PyData.canLay0, lay_P, PyData.depth]
  omega
theorem shp_nil : SeqAt.shaped (.list []) = true := by decide +kernel
theorem ne_PQ (os : List (Option Rat)) (M : Stor) : dNe (.lst (os.map PQ)) (.lst []) M = .ok (.bl (!os.isEmpty)) M := by
  have t : topPy (.lst (os.map PQ)) M = some (.list (os.map pyP)) := SL.top (.inl rfl) (toPy_PQ os)
  have t2 : topPy (.lst []) M = some (.list []) := by simp [topPy, toPy, toPyL]
  rw [ne_lst]
  unfold dNeD
  simp only [t, t2, shp_P, shp_nil, and_self, if_true]
  cases os <;> simp [PyData.eqv, PyData.eqvAll]
theorem eq_PQ {x : D} {os : List (Option Rat)} {M : Stor} (h : SL x M (os.map PQ)) : dEq x (.lst []) M = .ok (.bl os.isEmpty) M := by
  have t := h.top (toPy_PQ os)
  have t2 : topPy (.lst []) M = some (.list []) := by simp [topPy, toPy, toPyL]
  have e : dEqD x (.lst []) M = .ok (.bl os.isEmpty) M := by
    unfold dEqD
    simp only [t, t2, shp_P, shp_nil, and_self, if_true]
    cases os <;> simp [PyData.eqv, PyData.eqvAll]
  rcases h with rfl | ⟨k, rfl, hk⟩
  · rw [eq_lst]; exact e
  · show orR (dEqI _ _ M) (orR (dEqS _ _ M) (dEqD _ _ M)) = _
    rw [e]; rfl
end K05

namespace K05
open PySem L2 G
theorem low_add (p q : Rat) : lp (lowP (p.num * (q.den : Nat) + q.num * (p.den : Nat)) (p.den * q.den)) = PQ (some (p + q)) := by
  have h0 := Nat.mul_ne_zero p.den_nz q.den_nz
  have e := mkN (p.num * q.den + q.num * p.den) h0
  rw [← Rat.add_def] at e
  unfold mkR RQ rat at e
  injection e with _ e
  injection e with e1 e2
  injection e2 with e2 _
  injection e1 with e1
  injection e2 with e2
  unfold lp PQ pairD topO botO
  rw [e1, e2]
theorem lawless_ok {m n : Nat} (a b : Option Rat) [ha : HbE m a] [hb : HbE n b] (hmn : m + n ≤ 4000) (M : Stor) : f__law_is_less [PQ a, PQ b] M = .ok (.bl (lessE a b)) M := by
  cases a with
  | none =>
    have z : decide (((botO none : Nat) : Int) = 0) = true := rfl
    simp only [f__law_is_less, b__law_is_less, gFn, gSeq, gSkip, gRet, gRetN, gExpr, gSet, gIf, gAug, gAsg, gPar2, gPar3, gVar, gC, gBin, gUn, gTr, gAnd, gOr, gNot, gAndV, gOrV, gNotV, gIfE, gCall, G.gCons, G.gNil, G.gTup, G.gLst, gLstM, gSl, goSome, goNone, R.bind_ok, R.bind_ex, R.bind_no, R.bindS_ok, R.bindS_ex, R.bindS_no, outS_nx, outS_rt, outS_ex, orR_ok, orR_ex, orR_no, ggName, ggSub, List.getElem?_cons_zero, List.getElem?_cons_succ, List.set_cons_zero, List.set_cons_succ, List.map_cons, List.map_nil, List.length_cons, List.length_nil, List.replicate, List.append_nil, List.nil_append, List.cons_append, Nat.reduceAdd, Nat.reduceSub, Nat.reduceLeDiff, Nat.reduceLT, if_true, if_false, not_false_eq_true, Bool.false_eq_true, Bool.true_eq_false, Bool.not_true, Bool.not_false, decide_true, decide_false, decide_eq_true_eq, reduceIte, reduceCtorEq, eAdd, eAddI, eSub, eLt, eLe, eGt, eGe, eEq, eNe, eEqS, eNeS, eTru, eNeg, eAbs, eInt, eIntB, eLenL, eLenT, p1, z, lessE]
  | some p =>
    have d1 : ¬ ((botO (some p) : Nat) : Int) = 0 := den0 p
    cases b with
    | none =>
      have z : decide (((botO none : Nat) : Int) = 0) = true := rfl
      simp only [f__law_is_less, b__law_is_less, gFn, gSeq, gSkip, gRet, gRetN, gExpr, gSet, gIf, gAug, gAsg, gPar2, gPar3, gVar, gC, gBin, gUn, gTr, gAnd, gOr, gNot, gAndV, gOrV, gNotV, gIfE, gCall, G.gCons, G.gNil, G.gTup, G.gLst, gLstM, gSl, goSome, goNone, R.bind_ok, R.bind_ex, R.bind_no, R.bindS_ok, R.bindS_ex, R.bindS_no, outS_nx, outS_rt, outS_ex, orR_ok, orR_ex, orR_no, ggName, ggSub, List.getElem?_cons_zero, List.getElem?_cons_succ, List.set_cons_zero, List.set_cons_succ, List.map_cons, List.map_nil, List.length_cons, List.length_nil, List.replicate, List.append_nil, List.nil_append, List.cons_append, Nat.reduceAdd, Nat.reduceSub, Nat.reduceLeDiff, Nat.reduceLT, if_true, if_false, not_false_eq_true, Bool.false_eq_true, Bool.true_eq_false, Bool.not_true, Bool.not_false, decide_true, decide_false, decide_eq_true_eq, reduceIte, reduceCtorEq, eAdd, eAddI, eSub, eLt, eLe, eGt, eGe, eEq, eNe, eEqS, eNeS, eTru, eNeg, eAbs, eInt, eIntB, eLenL, eLenT, p1, d1, z, lessE]
    | some q =>
      have d2 : ¬ ((botO (some q) : Nat) : Int) = 0 := den0 q
      have hp := ha.hb p rfl
      have hq := hb.hb q rfl
      have e : decide (p < q) = decide (p.num * (q.den : Nat) < q.num * (p.den : Nat)) := by congr 1; exact propext (Rat.lt_iff p q)
      have m1 := mo1 p q hmn
      have m2 := mo2 p q hmn
      show f__law_is_less [PQ (some p), PQ (some q)] M = .ok (.bl (decide (p < q))) M
      rw [e]
      have t1 : topO (some p) = p.num := rfl
      have t2 : topO (some q) = q.num := rfl
      have b1 : botO (some p) = p.den := rfl
      have b2 : botO (some q) = q.den := rfl
      rw [b1] at d1
      rw [b2] at d2
      simp only [f__law_is_less, b__law_is_less, gFn, gSeq, gSkip, gRet, gRetN, gExpr, gSet, gIf, gAug, gAsg, gPar2, gPar3, gVar, gC, gBin, gUn, gTr, gAnd, gOr, gNot, gAndV, gOrV, gNotV, gIfE, gCall, G.gCons, G.gNil, G.gTup, G.gLst, gLstM, gSl, goSome, goNone, R.bind_ok, R.bind_ex, R.bind_no, R.bindS_ok, R.bindS_ex, R.bindS_no, outS_nx, outS_rt, outS_ex, orR_ok, orR_ex, orR_no, ggName, ggSub, List.getElem?_cons_zero, List.getElem?_cons_succ, List.set_cons_zero, List.set_cons_succ, List.map_cons, List.map_nil, List.length_cons, List.length_nil, List.replicate, List.append_nil, List.nil_append, List.cons_append, Nat.reduceAdd, Nat.reduceSub, Nat.reduceLeDiff, Nat.reduceLT, if_true, if_false, not_false_eq_true, Bool.false_eq_true, Bool.true_eq_false, Bool.not_true, Bool.not_false, decide_true, decide_false, decide_eq_true_eq, reduceIte, reduceCtorEq, eAdd, eAddI, eSub, eLt, eLe, eGt, eGe, eEq, eNe, eEqS, eNeS, eTru, eNeg, eAbs, eInt, eIntB, eLenL, eLenT, p0, p1, t1, t2, b1, b2, d1, d2, eMul m1, eMul m2]
def far (g : Bool) (os : List (Option Rat)) : Option Rat := if g then resG os else resL os
theorem less_irr (o : Option Rat) : lessE o o = false := by
  cases o with
  | none => rfl
  | some q => show decide (q < q) = false; simp
theorem resL_cons (o : Option Rat) (os : List (Option Rat)) : resL (o :: os) = (o :: os).foldl stL o := by
  unfold resL
  rw [List.foldl_cons, List.foldl_cons]
  congr 1
  have h1 : stL o o = o := by unfold stL; rw [less_irr]; rfl
  rw [h1]
  cases o <;> rfl
theorem pq0 : PQ (some ((0 : Int) : Rat)) = pairD 0 1 := rfl
theorem SL.at0 {x : D} {M : Stor} {d : D} {l : List D} (h : SL x M (d :: l)) : dIx x (.int 0) M = .ok d M := by
  rw [h.ix]
  have : L2.atI (d :: l) 0 = some d := at_nat (i := 0) rfl
  rw [this]
theorem far_ok {x : D} {M : Stor} {os : List (Option Rat)} (h : SL x M (os.map PQ)) (hn : HL os) (g : Bool) : f__law_farthest [x, .bl g] M = .ok (PQ (far g os)) M := by
  have q := eq_PQ h
  obtain ⟨keep, hk, hf⟩ := forX_sq h.sq
  refine fn_rt rfl ?_
  show b__law_farthest [some x, some (.bl g), none, none] M = _
  unfold b__law_farthest
  cases os with
  | nil =>
    have q : dEq x (.lst []) M = .ok (.bl true) M := q
    refine seq_rt ?_
    cases g with
    | true =>
      simp only [gFn, gSeq, gSkip, gRet, gRetN, gExpr, gSet, gIf, gAug, gAsg, gPar2, gPar3, gVar, gC, gBin, gUn, gTr, gAnd, gOr, gNot, gAndV, gOrV, gNotV, gIfE, gCall, G.gCons, G.gNil, G.gTup, G.gLst, gLstM, gSl, goSome, goNone, R.bind_ok, R.bind_ex, R.bind_no, R.bindS_ok, R.bindS_ex, R.bindS_no, outS_nx, outS_rt, outS_ex, orR_ok, orR_ex, orR_no, ggName, ggSub, List.getElem?_cons_zero, List.getElem?_cons_succ, List.set_cons_zero, List.set_cons_succ, List.map_cons, List.map_nil, List.length_cons, List.length_nil, List.replicate, List.append_nil, List.nil_append, List.cons_append, Nat.reduceAdd, Nat.reduceSub, Nat.reduceLeDiff, Nat.reduceLT, if_true, if_false, not_false_eq_true, Bool.false_eq_true, Bool.true_eq_false, Bool.not_true, Bool.not_false, decide_true, decide_false, decide_eq_true_eq, reduceIte, reduceCtorEq, eAdd, eAddI, eSub, eLt, eLe, eGt, eGe, eEq, eNe, eEqS, eNeS, eTru, eNeg, eAbs, eInt, eIntB, eLenL, eLenT, q]
      exact congrArg (fun d => RS.rt d M) pq0.symm
    | false => simp only [gFn, gSeq, gSkip, gRet, gRetN, gExpr, gSet, gIf, gAug, gAsg, gPar2, gPar3, gVar, gC, gBin, gUn, gTr, gAnd, gOr, gNot, gAndV, gOrV, gNotV, gIfE, gCall, G.gCons, G.gNil, G.gTup, G.gLst, gLstM, gSl, goSome, goNone, R.bind_ok, R.bind_ex, R.bind_no, R.bindS_ok, R.bindS_ex, R.bindS_no, outS_nx, outS_rt, outS_ex, orR_ok, orR_ex, orR_no, ggName, ggSub, List.getElem?_cons_zero, List.getElem?_cons_succ, List.set_cons_zero, List.set_cons_succ, List.map_cons, List.map_nil, List.length_cons, List.length_nil, List.replicate, List.append_nil, List.nil_append, List.cons_append, Nat.reduceAdd, Nat.reduceSub, Nat.reduceLeDiff, Nat.reduceLT, if_true, if_false, not_false_eq_true, Bool.false_eq_true, Bool.true_eq_false, Bool.not_true, Bool.not_false, decide_true, decide_false, decide_eq_true_eq, reduceIte, reduceCtorEq, eAdd, eAddI, eSub, eLt, eLe, eGt, eGe, eEq, eNe, eEqS, eNeS, eTru, eNeg, eAbs, eInt, eIntB, eLenL, eLenT, q]; rfl
  | cons o l =>
    have q : dEq x (.lst []) M = .ok (.bl false) M := q
    have ix : dIx x (.int 0) M = .ok (PQ o) M := SL.at0 h
    rw [seq_nx (Γ1 := [some x, some (.bl g), none, none]) (M1 := M) (by simp only [gFn, gSeq, gSkip, gRet, gRetN, gExpr, gSet, gIf, gAug, gAsg, gPar2, gPar3, gVar, gC, gBin, gUn, gTr, gAnd, gOr, gNot, gAndV, gOrV, gNotV, gIfE, gCall, G.gCons, G.gNil, G.gTup, G.gLst, gLstM, gSl, goSome, goNone, R.bind_ok, R.bind_ex, R.bind_no, R.bindS_ok, R.bindS_ex, R.bindS_no, outS_nx, outS_rt, outS_ex, orR_ok, orR_ex, orR_no, ggName, ggSub, List.getElem?_cons_zero, List.getElem?_cons_succ, List.set_cons_zero, List.set_cons_succ, List.map_cons, List.map_nil, List.length_cons, List.length_nil, List.replicate, List.append_nil, List.nil_append, List.cons_append, Nat.reduceAdd, Nat.reduceSub, Nat.reduceLeDiff, Nat.reduceLT, if_true, if_false, not_false_eq_true, Bool.false_eq_true, Bool.true_eq_false, Bool.not_true, Bool.not_false, decide_true, decide_false, decide_eq_true_eq, reduceIte, reduceCtorEq, eAdd, eAddI, eSub, eLt, eLe, eGt, eGe, eEq, eNe, eEqS, eNeS, eTru, eNeg, eAbs, eInt, eIntB, eLenL, eLenT, q])]
    rw [seq_nx (Γ1 := [some x, some (.bl g), some (PQ o), none]) (M1 := M) (by simp only [gFn, gSeq, gSkip, gRet, gRetN, gExpr, gSet, gIf, gAug, gAsg, gPar2, gPar3, gVar, gC, gBin, gUn, gTr, gAnd, gOr, gNot, gAndV, gOrV, gNotV, gIfE, gCall, G.gCons, G.gNil, G.gTup, G.gLst, gLstM, gSl, goSome, goNone, R.bind_ok, R.bind_ex, R.bind_no, R.bindS_ok, R.bindS_ex, R.bindS_no, outS_nx, outS_rt, outS_ex, orR_ok, orR_ex, orR_no, ggName, ggSub, List.getElem?_cons_zero, List.getElem?_cons_succ, List.set_cons_zero, List.set_cons_succ, List.map_cons, List.map_nil, List.length_cons, List.length_nil, List.replicate, List.append_nil, List.nil_append, List.cons_append, Nat.reduceAdd, Nat.reduceSub, Nat.reduceLeDiff, Nat.reduceLT, if_true, if_false, not_false_eq_true, Bool.false_eq_true, Bool.true_eq_false, Bool.not_true, Bool.not_false, decide_true, decide_false, decide_eq_true_eq, reduceIte, reduceCtorEq, eAdd, eAddI, eSub, eLt, eLe, eGt, eGe, eEq, eNe, eEqS, eNeS, eTru, eNeg, eAbs, eInt, eIntB, eLenL, eLenT, ix])]
    have lp : ∀ (st : Option Rat → Option Rat → Option Rat), (∀ r p : Option Rat, HbE 97 r → HbE 97 p → ∃ b : Bool, st r p = (if b then p else r) ∧ gOr (gAnd (gTr truD (gVar 1)) (gTr truD (gCall f__law_is_less (G.gCons (gVar 2) (G.gCons (gVar 3) G.gNil))))) (gAnd (gNot (gTr truD (gVar 1))) (gTr truD (gCall f__law_is_less (G.gCons (gVar 3) (G.gCons (gVar 2) G.gNil))))) [some x, some (.bl g), some (PQ r), some (PQ p)] M = .ok b M) →
        ∀ (l' : List (Option Rat)) (r : Option Rat) (v : Option D), HbE 97 r → HL l' →
        ∃ v', loopG keep (ggName 3) (gIf (gOr (gAnd (gTr truD (gVar 1)) (gTr truD (gCall f__law_is_less (G.gCons (gVar 2) (G.gCons (gVar 3) G.gNil))))) (gAnd (gNot (gTr truD (gVar 1))) (gTr truD (gCall f__law_is_less (G.gCons (gVar 3) (G.gCons (gVar 2) G.gNil)))))) (gSet 2 (gVar 3)) gSkip) (l'.map PQ) [some x, some (.bl g), some (PQ r), v] M
        = .nx [some x, some (.bl g), some (PQ (l'.foldl st r)), v'] M := by
      intro st hst l'
      induction l' with
      | nil => intro r v _ _; exact ⟨v, loop_nilK⟩
      | cons p l' ih =>
        intro r v hr hl'
        have hp := hl' p List.mem_cons_self
        obtain ⟨b, e1, e2⟩ := hst r p hr hp
        cases b with
        | true =>
          obtain ⟨v', e⟩ := ih p (some (PQ p)) hp hl'.tl
          refine ⟨v', ?_⟩
          rw [List.foldl_cons, e1, if_pos rfl, ← e, List.map_cons]
          refine loop_consK hk rfl ?_
          show gIf _ _ _ [some x, some (.bl g), some (PQ r), some (PQ p)] M = _
          unfold gIf; rw [e2]; simp only [gFn, gSeq, gSkip, gRet, gRetN, gExpr, gSet, gIf, gAug, gAsg, gPar2, gPar3, gVar, gC, gBin, gUn, gTr, gAnd, gOr, gNot, gAndV, gOrV, gNotV, gIfE, gCall, G.gCons, G.gNil, G.gTup, G.gLst, gLstM, gSl, goSome, goNone, R.bind_ok, R.bind_ex, R.bind_no, R.bindS_ok, R.bindS_ex, R.bindS_no, outS_nx, outS_rt, outS_ex, orR_ok, orR_ex, orR_no, ggName, ggSub, List.getElem?_cons_zero, List.getElem?_cons_succ, List.set_cons_zero, List.set_cons_succ, List.map_cons, List.map_nil, List.length_cons, List.length_nil, List.replicate, List.append_nil, List.nil_append, List.cons_append, Nat.reduceAdd, Nat.reduceSub, Nat.reduceLeDiff, Nat.reduceLT, if_true, if_false, not_false_eq_true, Bool.false_eq_true, Bool.true_eq_false, Bool.not_true, Bool.not_false, decide_true, decide_false, decide_eq_true_eq, reduceIte, reduceCtorEq, eAdd, eAddI, eSub, eLt, eLe, eGt, eGe, eEq, eNe, eEqS, eNeS, eTru, eNeg, eAbs, eInt, eIntB, eLenL, eLenT]
        | false =>
          obtain ⟨v', e⟩ := ih r (some (PQ p)) hr hl'.tl
          refine ⟨v', ?_⟩
          rw [List.foldl_cons, e1, if_neg (by decide), ← e, List.map_cons]
          refine loop_consK hk rfl ?_
          show gIf _ _ _ [some x, some (.bl g), some (PQ r), some (PQ p)] M = _
          unfold gIf; rw [e2]; simp only [gFn, gSeq, gSkip, gRet, gRetN, gExpr, gSet, gIf, gAug, gAsg, gPar2, gPar3, gVar, gC, gBin, gUn, gTr, gAnd, gOr, gNot, gAndV, gOrV, gNotV, gIfE, gCall, G.gCons, G.gNil, G.gTup, G.gLst, gLstM, gSl, goSome, goNone, R.bind_ok, R.bind_ex, R.bind_no, R.bindS_ok, R.bindS_ex, R.bindS_no, outS_nx, outS_rt, outS_ex, orR_ok, orR_ex, orR_no, ggName, ggSub, List.getElem?_cons_zero, List.getElem?_cons_succ, List.set_cons_zero, List.set_cons_succ, List.map_cons, List.map_nil, List.length_cons, List.length_nil, List.replicate, List.append_nil, List.nil_append, List.cons_append, Nat.reduceAdd, Nat.reduceSub, Nat.reduceLeDiff, Nat.reduceLT, if_true, if_false, not_false_eq_true, Bool.false_eq_true, Bool.true_eq_false, Bool.not_true, Bool.not_false, decide_true, decide_false, decide_eq_true_eq, reduceIte, reduceCtorEq, eAdd, eAddI, eSub, eLt, eLe, eGt, eGe, eEq, eNe, eEqS, eNeS, eTru, eNeg, eAbs, eInt, eIntB, eLenL, eLenT]
    have ho := hn o List.mem_cons_self
    cases g with
    | true =>
      obtain ⟨v', e⟩ := lp stG (fun r p hr hp => ⟨lessE r p, rfl, by
        have k := lawless_ok r p (m := 97) (n := 97) (by decide) M
        have k2 := lawless_ok p r (m := 97) (n := 97) (by decide) M
        cases hz : lessE r p <;> rw [hz] at k <;> simp only [gFn, gSeq, gSkip, gRet, gRetN, gExpr, gSet, gIf, gAug, gAsg, gPar2, gPar3, gVar, gC, gBin, gUn, gTr, gAnd, gOr, gNot, gAndV, gOrV, gNotV, gIfE, gCall, G.gCons, G.gNil, G.gTup, G.gLst, gLstM, gSl, goSome, goNone, R.bind_ok, R.bind_ex, R.bind_no, R.bindS_ok, R.bindS_ex, R.bindS_no, outS_nx, outS_rt, outS_ex, orR_ok, orR_ex, orR_no, ggName, ggSub, List.getElem?_cons_zero, List.getElem?_cons_succ, List.set_cons_zero, List.set_cons_succ, List.map_cons, List.map_nil, List.length_cons, List.length_nil, List.replicate, List.append_nil, List.nil_append, List.cons_append, Nat.reduceAdd, Nat.reduceSub, Nat.reduceLeDiff, Nat.reduceLT, if_true, if_false, not_false_eq_true, Bool.false_eq_true, Bool.true_eq_false, Bool.not_true, Bool.not_false, decide_true, decide_false, decide_eq_true_eq, reduceIte, reduceCtorEq, eAdd, eAddI, eSub, eLt, eLe, eGt, eGe, eEq, eNe, eEqS, eNeS, eTru, eNeg, eAbs, eInt, eIntB, eLenL, eLenT, k]⟩) (o :: l) o none ho hn
      rw [seq_nx (Γ1 := [some x, some (.bl true), some (PQ (resG (o :: l))), v']) (M1 := M) (by
        rw [for_seq]
        simp only [gVar, List.getElem?_cons_zero, R.bindS_ok, hf]
        exact e)]
      simp only [gFn, gSeq, gSkip, gRet, gRetN, gExpr, gSet, gIf, gAug, gAsg, gPar2, gPar3, gVar, gC, gBin, gUn, gTr, gAnd, gOr, gNot, gAndV, gOrV, gNotV, gIfE, gCall, G.gCons, G.gNil, G.gTup, G.gLst, gLstM, gSl, goSome, goNone, R.bind_ok, R.bind_ex, R.bind_no, R.bindS_ok, R.bindS_ex, R.bindS_no, outS_nx, outS_rt, outS_ex, orR_ok, orR_ex, orR_no, ggName, ggSub, List.getElem?_cons_zero, List.getElem?_cons_succ, List.set_cons_zero, List.set_cons_succ, List.map_cons, List.map_nil, List.length_cons, List.length_nil, List.replicate, List.append_nil, List.nil_append, List.cons_append, Nat.reduceAdd, Nat.reduceSub, Nat.reduceLeDiff, Nat.reduceLT, if_true, if_false, not_false_eq_true, Bool.false_eq_true, Bool.true_eq_false, Bool.not_true, Bool.not_false, decide_true, decide_false, decide_eq_true_eq, reduceIte, reduceCtorEq, eAdd, eAddI, eSub, eLt, eLe, eGt, eGe, eEq, eNe, eEqS, eNeS, eTru, eNeg, eAbs, eInt, eIntB, eLenL, eLenT, far]
    | false =>
      obtain ⟨v', e⟩ := lp stL (fun r p hr hp => ⟨lessE p r, rfl, by
        have k2 := lawless_ok p r (m := 97) (n := 97) (by decide) M
        cases hz : lessE p r <;> rw [hz] at k2 <;> simp only [gFn, gSeq, gSkip, gRet, gRetN, gExpr, gSet, gIf, gAug, gAsg, gPar2, gPar3, gVar, gC, gBin, gUn, gTr, gAnd, gOr, gNot, gAndV, gOrV, gNotV, gIfE, gCall, G.gCons, G.gNil, G.gTup, G.gLst, gLstM, gSl, goSome, goNone, R.bind_ok, R.bind_ex, R.bind_no, R.bindS_ok, R.bindS_ex, R.bindS_no, outS_nx, outS_rt, outS_ex, orR_ok, orR_ex, orR_no, ggName, ggSub, List.getElem?_cons_zero, List.getElem?_cons_succ, List.set_cons_zero, List.set_cons_succ, List.map_cons, List.map_nil, List.length_cons, List.length_nil, List.replicate, List.append_nil, List.nil_append, List.cons_append, Nat.reduceAdd, Nat.reduceSub, Nat.reduceLeDiff, Nat.reduceLT, if_true, if_false, not_false_eq_true, Bool.false_eq_true, Bool.true_eq_false, Bool.not_true, Bool.not_false, decide_true, decide_false, decide_eq_true_eq, reduceIte, reduceCtorEq, eAdd, eAddI, eSub, eLt, eLe, eGt, eGe, eEq, eNe, eEqS, eNeS, eTru, eNeg, eAbs, eInt, eIntB, eLenL, eLenT, k2]⟩) (o :: l) o none ho hn
      rw [← resL_cons] at e
      rw [seq_nx (Γ1 := [some x, some (.bl false), some (PQ (resL (o :: l))), v']) (M1 := M) (by
        rw [for_seq]
        simp only [gVar, List.getElem?_cons_zero, R.bindS_ok, hf]
        exact e)]
      simp only [gFn, gSeq, gSkip, gRet, gRetN, gExpr, gSet, gIf, gAug, gAsg, gPar2, gPar3, gVar, gC, gBin, gUn, gTr, gAnd, gOr, gNot, gAndV, gOrV, gNotV, gIfE, gCall, G.gCons, G.gNil, G.gTup, G.gLst, gLstM, gSl, goSome, goNone, R.bind_ok, R.bind_ex, R.bind_no, R.bindS_ok, R.bindS_ex, R.bindS_no, outS_nx, outS_rt, outS_ex, orR_ok, orR_ex, orR_no, ggName, ggSub, List.getElem?_cons_zero, List.getElem?_cons_succ, List.set_cons_zero, List.set_cons_succ, List.map_cons, List.map_nil, List.length_cons, List.length_nil, List.replicate, List.append_nil, List.nil_append, List.cons_append, Nat.reduceAdd, Nat.reduceSub, Nat.reduceLeDiff, Nat.reduceLT, if_true, if_false, not_false_eq_true, Bool.false_eq_true, Bool.true_eq_false, Bool.not_true, Bool.not_false, decide_true, decide_false, decide_eq_true_eq, reduceIte, reduceCtorEq, eAdd, eAddI, eSub, eLt, eLe, eGt, eGe, eEq, eNe, eEqS, eNeS, eTru, eNeg, eAbs, eInt, eIntB, eLenL, eLenT, far]
def totD (os : List (Option Rat)) : D := match resT os with
  | none => .tup [.str "none"]
  | some o => PQ o
def isB0 : D → Bool
  | .tup [_, .int b] => decide (b = 0)
  | _ => false
def isT0 : D → Bool
  | .tup [.int a, _] => decide (a < 0)
  | _ => false
theorem isB_PQ (o : Option Rat) : isB0 (PQ o) = o.isNone := bot0 o
theorem isT_PQ (o : Option Rat) : isT0 (PQ o) = neg o := rfl
theorem filt_PQ (f : D → Bool) (g : Option Rat → Bool) (h : ∀ o, f (PQ o) = g o) (os : List (Option Rat)) : ((os.map PQ).filter f).map (fun d => d) = (os.filter g).map PQ := by
  rw [List.map_id', List.filter_map]
  congr 1
  apply List.filter_congr
  intro o _
  exact h o
theorem empty_any (g : Option Rat → Bool) (os : List (Option Rat)) : (!(os.filter g).isEmpty) = os.any g := by
  rw [Bool.eq_iff_iff, List.any_eq_true]
  simp only [Bool.not_eq_true', List.isEmpty_eq_false_iff, ne_eq, List.filter_eq_nil_iff]
  constructor
  · intro h
    exact Classical.byContradiction fun z => h fun a ha hg => z ⟨a, ha, hg⟩
  · rintro ⟨a, ha, hg⟩ h
    exact h a ha hg
theorem lawtot_ok {x : D} {M : Stor} {os : List (Option Rat)} (h : SL x M (os.map PQ)) (hn : HL os) (hl : os.length ≤ 20) : f__law_total [x] M = .ok (totD os) M := by
  obtain ⟨keep, hk, hf⟩ := forX_sq h.sq
  have mem : ∀ d ∈ os.map PQ, ∃ o, d = PQ o := fun d hd => by obtain ⟨o, _, rfl⟩ := List.mem_map.mp hd; exact ⟨o, rfl⟩
  have c1 : ∀ a b c : Option D, compX (.one 2) (gTr truD (gBin dEq (gBin dIx (gVar 2) (gC (.int 1))) (gC (.int 0)))) (gVar 2) x [some x, a, b, c] M = .ok (.lst ((os.filter fun o => o.isNone).map PQ)) M := fun a b c => by
    refine (compX_sq h.sq _ _ _ _ isB0 (fun d => d) (by simp; omega) fun d hd => ?_).trans (by rw [filt_PQ isB0 (fun o => o.isNone) isB_PQ])
    obtain ⟨o, rfl⟩ := mem d hd
    refine ⟨[some x, a, some (PQ o), c], rfl, ?_, rfl⟩
    rw [isB_PQ, ← bot0]
    cases hz : decide (((botO o : Nat) : Int) = 0)
    · have hz' := of_decide_eq_false hz
      simp only [gFn, gSeq, gSkip, gRet, gRetN, gExpr, gSet, gIf, gAug, gAsg, gPar2, gPar3, gVar, gC, gBin, gUn, gTr, gAnd, gOr, gNot, gAndV, gOrV, gNotV, gIfE, gCall, G.gCons, G.gNil, G.gTup, G.gLst, gLstM, gSl, goSome, goNone, R.bind_ok, R.bind_ex, R.bind_no, R.bindS_ok, R.bindS_ex, R.bindS_no, outS_nx, outS_rt, outS_ex, orR_ok, orR_ex, orR_no, ggName, ggSub, List.getElem?_cons_zero, List.getElem?_cons_succ, List.set_cons_zero, List.set_cons_succ, List.map_cons, List.map_nil, List.length_cons, List.length_nil, List.replicate, List.append_nil, List.nil_append, List.cons_append, Nat.reduceAdd, Nat.reduceSub, Nat.reduceLeDiff, Nat.reduceLT, if_true, if_false, not_false_eq_true, Bool.false_eq_true, Bool.true_eq_false, Bool.not_true, Bool.not_false, decide_true, decide_false, decide_eq_true_eq, reduceIte, reduceCtorEq, eAdd, eAddI, eSub, eLt, eLe, eGt, eGe, eEq, eNe, eEqS, eNeS, eTru, eNeg, eAbs, eInt, eIntB, eLenL, eLenT, p1, hz']
    · simp only [gFn, gSeq, gSkip, gRet, gRetN, gExpr, gSet, gIf, gAug, gAsg, gPar2, gPar3, gVar, gC, gBin, gUn, gTr, gAnd, gOr, gNot, gAndV, gOrV, gNotV, gIfE, gCall, G.gCons, G.gNil, G.gTup, G.gLst, gLstM, gSl, goSome, goNone, R.bind_ok, R.bind_ex, R.bind_no, R.bindS_ok, R.bindS_ex, R.bindS_no, outS_nx, outS_rt, outS_ex, orR_ok, orR_ex, orR_no, ggName, ggSub, List.getElem?_cons_zero, List.getElem?_cons_succ, List.set_cons_zero, List.set_cons_succ, List.map_cons, List.map_nil, List.length_cons, List.length_nil, List.replicate, List.append_nil, List.nil_append, List.cons_append, Nat.reduceAdd, Nat.reduceSub, Nat.reduceLeDiff, Nat.reduceLT, if_true, if_false, not_false_eq_true, Bool.false_eq_true, Bool.true_eq_false, Bool.not_true, Bool.not_false, decide_true, decide_false, decide_eq_true_eq, reduceIte, reduceCtorEq, eAdd, eAddI, eSub, eLt, eLe, eGt, eGe, eEq, eNe, eEqS, eNeS, eTru, eNeg, eAbs, eInt, eIntB, eLenL, eLenT, p1, hz]
  have c2 : ∀ a b c : Option D, compX (.one 2) (gTr truD (gBin dLtI (gBin dIx (gVar 2) (gC (.int 0))) (gC (.int 0)))) (gVar 2) x [some x, a, b, c] M = .ok (.lst ((os.filter neg).map PQ)) M := fun a b c => by
    refine (compX_sq h.sq _ _ _ _ isT0 (fun d => d) (by simp; omega) fun d hd => ?_).trans (by rw [filt_PQ isT0 neg isT_PQ])
    obtain ⟨o, rfl⟩ := mem d hd
    refine ⟨[some x, a, some (PQ o), c], rfl, ?_, rfl⟩
    rw [isT_PQ]
    unfold neg
    cases hz : decide (topO o < 0)
    · have hz' := of_decide_eq_false hz
      simp only [gFn, gSeq, gSkip, gRet, gRetN, gExpr, gSet, gIf, gAug, gAsg, gPar2, gPar3, gVar, gC, gBin, gUn, gTr, gAnd, gOr, gNot, gAndV, gOrV, gNotV, gIfE, gCall, G.gCons, G.gNil, G.gTup, G.gLst, gLstM, gSl, goSome, goNone, R.bind_ok, R.bind_ex, R.bind_no, R.bindS_ok, R.bindS_ex, R.bindS_no, outS_nx, outS_rt, outS_ex, orR_ok, orR_ex, orR_no, ggName, ggSub, List.getElem?_cons_zero, List.getElem?_cons_succ, List.set_cons_zero, List.set_cons_succ, List.map_cons, List.map_nil, List.length_cons, List.length_nil, List.replicate, List.append_nil, List.nil_append, List.cons_append, Nat.reduceAdd, Nat.reduceSub, Nat.reduceLeDiff, Nat.reduceLT, if_true, if_false, not_false_eq_true, Bool.false_eq_true, Bool.true_eq_false, Bool.not_true, Bool.not_false, decide_true, decide_false, decide_eq_true_eq, reduceIte, reduceCtorEq, eAdd, eAddI, eSub, eLt, eLe, eGt, eGe, eEq, eNe, eEqS, eNeS, eTru, eNeg, eAbs, eInt, eIntB, eLenL, eLenT, p0, hz']
    · simp only [gFn, gSeq, gSkip, gRet, gRetN, gExpr, gSet, gIf, gAug, gAsg, gPar2, gPar3, gVar, gC, gBin, gUn, gTr, gAnd, gOr, gNot, gAndV, gOrV, gNotV, gIfE, gCall, G.gCons, G.gNil, G.gTup, G.gLst, gLstM, gSl, goSome, goNone, R.bind_ok, R.bind_ex, R.bind_no, R.bindS_ok, R.bindS_ex, R.bindS_no, outS_nx, outS_rt, outS_ex, orR_ok, orR_ex, orR_no, ggName, ggSub, List.getElem?_cons_zero, List.getElem?_cons_succ, List.set_cons_zero, List.set_cons_succ, List.map_cons, List.map_nil, List.length_cons, List.length_nil, List.replicate, List.append_nil, List.nil_append, List.cons_append, Nat.reduceAdd, Nat.reduceSub, Nat.reduceLeDiff, Nat.reduceLT, if_true, if_false, not_false_eq_true, Bool.false_eq_true, Bool.true_eq_false, Bool.not_true, Bool.not_false, decide_true, decide_false, decide_eq_true_eq, reduceIte, reduceCtorEq, eAdd, eAddI, eSub, eLt, eLe, eGt, eGe, eEq, eNe, eEqS, eNeS, eTru, eNeg, eAbs, eInt, eIntB, eLenL, eLenT, p0, hz]
  have n1 := ne_PQ (os.filter fun o => o.isNone) M
  have n2 := ne_PQ (os.filter neg) M
  rw [empty_any] at n1 n2
  refine fn_rt rfl ?_
  show b__law_total [some x, none, none, none] M = _
  unfold b__law_total totD resT
  cases hb : os.any (fun o => o.isNone) with
  | true =>
    rw [hb] at n1
    rw [seq_nx (Γ1 := [some x, some (.bl true), none, none]) (M1 := M) (by simp only [gSet, gBin, comp_seq, gFn, gSeq, gSkip, gRet, gRetN, gExpr, gSet, gIf, gAug, gAsg, gPar2, gPar3, gVar, gC, gBin, gUn, gTr, gAnd, gOr, gNot, gAndV, gOrV, gNotV, gIfE, gCall, G.gCons, G.gNil, G.gTup, G.gLst, gLstM, gSl, goSome, goNone, R.bind_ok, R.bind_ex, R.bind_no, R.bindS_ok, R.bindS_ex, R.bindS_no, outS_nx, outS_rt, outS_ex, orR_ok, orR_ex, orR_no, ggName, ggSub, List.getElem?_cons_zero, List.getElem?_cons_succ, List.set_cons_zero, List.set_cons_succ, List.map_cons, List.map_nil, List.length_cons, List.length_nil, List.replicate, List.append_nil, List.nil_append, List.cons_append, Nat.reduceAdd, Nat.reduceSub, Nat.reduceLeDiff, Nat.reduceLT, if_true, if_false, not_false_eq_true, Bool.false_eq_true, Bool.true_eq_false, Bool.not_true, Bool.not_false, decide_true, decide_false, decide_eq_true_eq, reduceIte, reduceCtorEq, eAdd, eAddI, eSub, eLt, eLe, eGt, eGe, eEq, eNe, eEqS, eNeS, eTru, eNeg, eAbs, eInt, eIntB, eLenL, eLenT, c1, n1])]
    refine seq_rt ?_
    cases hg : os.any neg with
    | true =>
      rw [hg] at n2
      simp only [gIf, gRet, gIfE, gTr, gBin, comp_seq, gFn, gSeq, gSkip, gRet, gRetN, gExpr, gSet, gIf, gAug, gAsg, gPar2, gPar3, gVar, gC, gBin, gUn, gTr, gAnd, gOr, gNot, gAndV, gOrV, gNotV, gIfE, gCall, G.gCons, G.gNil, G.gTup, G.gLst, gLstM, gSl, goSome, goNone, R.bind_ok, R.bind_ex, R.bind_no, R.bindS_ok, R.bindS_ex, R.bindS_no, outS_nx, outS_rt, outS_ex, orR_ok, orR_ex, orR_no, ggName, ggSub, List.getElem?_cons_zero, List.getElem?_cons_succ, List.set_cons_zero, List.set_cons_succ, List.map_cons, List.map_nil, List.length_cons, List.length_nil, List.replicate, List.append_nil, List.nil_append, List.cons_append, Nat.reduceAdd, Nat.reduceSub, Nat.reduceLeDiff, Nat.reduceLT, if_true, if_false, not_false_eq_true, Bool.false_eq_true, Bool.true_eq_false, Bool.not_true, Bool.not_false, decide_true, decide_false, decide_eq_true_eq, reduceIte, reduceCtorEq, eAdd, eAddI, eSub, eLt, eLe, eGt, eGe, eEq, eNe, eEqS, eNeS, eTru, eNeg, eAbs, eInt, eIntB, eLenL, eLenT, c2, n2, Bool.and_self]
    | false =>
      rw [hg] at n2
      have fn := fold_none os (some ((0 : Int) : Rat)) (.inr ((any_none os).mp hb))
      simp only [gIf, gRet, gIfE, gTr, gBin, comp_seq, gFn, gSeq, gSkip, gRet, gRetN, gExpr, gSet, gIf, gAug, gAsg, gPar2, gPar3, gVar, gC, gBin, gUn, gTr, gAnd, gOr, gNot, gAndV, gOrV, gNotV, gIfE, gCall, G.gCons, G.gNil, G.gTup, G.gLst, gLstM, gSl, goSome, goNone, R.bind_ok, R.bind_ex, R.bind_no, R.bindS_ok, R.bindS_ex, R.bindS_no, outS_nx, outS_rt, outS_ex, orR_ok, orR_ex, orR_no, ggName, ggSub, List.getElem?_cons_zero, List.getElem?_cons_succ, List.set_cons_zero, List.set_cons_succ, List.map_cons, List.map_nil, List.length_cons, List.length_nil, List.replicate, List.append_nil, List.nil_append, List.cons_append, Nat.reduceAdd, Nat.reduceSub, Nat.reduceLeDiff, Nat.reduceLT, if_true, if_false, not_false_eq_true, Bool.false_eq_true, Bool.true_eq_false, Bool.not_true, Bool.not_false, decide_true, decide_false, decide_eq_true_eq, reduceIte, reduceCtorEq, eAdd, eAddI, eSub, eLt, eLe, eGt, eGe, eEq, eNe, eEqS, eNeS, eTru, eNeg, eAbs, eInt, eIntB, eLenL, eLenT, c2, n2, Bool.and_false, fn]
      rfl
  | false =>
    rw [hb] at n1
    have nn : ∀ o ∈ os, o ≠ none := fun o ho e => by
      subst e
      rw [(any_none os).mpr ho] at hb
      cases hb
    rw [seq_nx (Γ1 := [some x, some (.bl false), none, none]) (M1 := M) (by simp only [gSet, gBin, comp_seq, gFn, gSeq, gSkip, gRet, gRetN, gExpr, gSet, gIf, gAug, gAsg, gPar2, gPar3, gVar, gC, gBin, gUn, gTr, gAnd, gOr, gNot, gAndV, gOrV, gNotV, gIfE, gCall, G.gCons, G.gNil, G.gTup, G.gLst, gLstM, gSl, goSome, goNone, R.bind_ok, R.bind_ex, R.bind_no, R.bindS_ok, R.bindS_ex, R.bindS_no, outS_nx, outS_rt, outS_ex, orR_ok, orR_ex, orR_no, ggName, ggSub, List.getElem?_cons_zero, List.getElem?_cons_succ, List.set_cons_zero, List.set_cons_succ, List.map_cons, List.map_nil, List.length_cons, List.length_nil, List.replicate, List.append_nil, List.nil_append, List.cons_append, Nat.reduceAdd, Nat.reduceSub, Nat.reduceLeDiff, Nat.reduceLT, if_true, if_false, not_false_eq_true, Bool.false_eq_true, Bool.true_eq_false, Bool.not_true, Bool.not_false, decide_true, decide_false, decide_eq_true_eq, reduceIte, reduceCtorEq, eAdd, eAddI, eSub, eLt, eLe, eGt, eGe, eEq, eNe, eEqS, eNeS, eTru, eNeg, eAbs, eInt, eIntB, eLenL, eLenT, c1, n1])]
    rw [seq_nx (Γ1 := [some x, some (.bl false), none, none]) (M1 := M) (by simp only [gFn, gSeq, gSkip, gRet, gRetN, gExpr, gSet, gIf, gAug, gAsg, gPar2, gPar3, gVar, gC, gBin, gUn, gTr, gAnd, gOr, gNot, gAndV, gOrV, gNotV, gIfE, gCall, G.gCons, G.gNil, G.gTup, G.gLst, gLstM, gSl, goSome, goNone, R.bind_ok, R.bind_ex, R.bind_no, R.bindS_ok, R.bindS_ex, R.bindS_no, outS_nx, outS_rt, outS_ex, orR_ok, orR_ex, orR_no, ggName, ggSub, List.getElem?_cons_zero, List.getElem?_cons_succ, List.set_cons_zero, List.set_cons_succ, List.map_cons, List.map_nil, List.length_cons, List.length_nil, List.replicate, List.append_nil, List.nil_append, List.cons_append, Nat.reduceAdd, Nat.reduceSub, Nat.reduceLeDiff, Nat.reduceLT, if_true, if_false, not_false_eq_true, Bool.false_eq_true, Bool.true_eq_false, Bool.not_true, Bool.not_false, decide_true, decide_false, decide_eq_true_eq, reduceIte, reduceCtorEq, eAdd, eAddI, eSub, eLt, eLe, eGt, eGe, eEq, eNe, eEqS, eNeS, eTru, eNeg, eAbs, eInt, eIntB, eLenL, eLenT])]
    rw [seq_nx (Γ1 := [some x, some (.bl false), none, some (PQ (some ((0 : Int) : Rat)))]) (M1 := M) (by simp only [gFn, gSeq, gSkip, gRet, gRetN, gExpr, gSet, gIf, gAug, gAsg, gPar2, gPar3, gVar, gC, gBin, gUn, gTr, gAnd, gOr, gNot, gAndV, gOrV, gNotV, gIfE, gCall, G.gCons, G.gNil, G.gTup, G.gLst, gLstM, gSl, goSome, goNone, R.bind_ok, R.bind_ex, R.bind_no, R.bindS_ok, R.bindS_ex, R.bindS_no, outS_nx, outS_rt, outS_ex, orR_ok, orR_ex, orR_no, ggName, ggSub, List.getElem?_cons_zero, List.getElem?_cons_succ, List.set_cons_zero, List.set_cons_succ, List.map_cons, List.map_nil, List.length_cons, List.length_nil, List.replicate, List.append_nil, List.nil_append, List.cons_append, Nat.reduceAdd, Nat.reduceSub, Nat.reduceLeDiff, Nat.reduceLT, if_true, if_false, not_false_eq_true, Bool.false_eq_true, Bool.true_eq_false, Bool.not_true, Bool.not_false, decide_true, decide_false, decide_eq_true_eq, reduceIte, reduceCtorEq, eAdd, eAddI, eSub, eLt, eLe, eGt, eGe, eEq, eNe, eEqS, eNeS, eTru, eNeg, eAbs, eInt, eIntB, eLenL, eLenT]; rfl)]
    have lpp : ∀ (l : List (Option Rat)) (m : Nat) (s : Rat) (v : Option D), Hb m s → HL l → m + 98 * l.length ≤ 3000 → (∀ o ∈ l, o ≠ none) →
        ∃ v' s', l.foldl addE (some s) = some s' ∧ loopG keep (ggName 2) (gSet 3 (gCall f__law_low (G.gCons (gBin dAdd (gBin dMul (gBin dIx (gVar 3) (gC (.int 0))) (gBin dIx (gVar 2) (gC (.int 1)))) (gBin dMul (gBin dIx (gVar 2) (gC (.int 0))) (gBin dIx (gVar 3) (gC (.int 1))))) (G.gCons (gBin dMul (gBin dIx (gVar 3) (gC (.int 1))) (gBin dIx (gVar 2) (gC (.int 1)))) G.gNil)))) (l.map PQ) [some x, some (.bl false), v, some (PQ (some s))] M
        = .nx [some x, some (.bl false), v', some (PQ (some s'))] M := by
      intro l
      induction l with
      | nil => intro m s v _ _ _ _; exact ⟨v, s, rfl, loop_nilK⟩
      | cons o l ih =>
        intro m s v hs hl' hm hc
        cases o with
        | none => exact absurd rfl (hc none List.mem_cons_self)
        | some q =>
          have hq : Hb 97 q := (hl' _ List.mem_cons_self).hb q rfl
          rw [List.length_cons] at hm
          obtain ⟨v', s', e0, e⟩ := ih (m + 97 + 1) (s + q) (some (PQ (some q))) inferInstance hl'.tl (by omega) fun o ho => hc o (List.mem_cons_of_mem _ ho)
          refine ⟨v', s', e0, ?_⟩
          rw [← e, List.map_cons]
          refine loop_consK hk rfl ?_
          have m1 := mo1 s q (m := m) (n := 97) (by omega)
          have m2 := mo2 s q (m := m) (n := 97) (by omega)
          have m3 := mo3 s q (m := m) (n := 97) (by omega)
          have lw := low_ok (s.num * (q.den : Nat) + q.num * (s.den : Nat)) (s.den * q.den) M (Nat.mul_pos s.den_pos q.den_pos) (up2 (m := m) (n := 97) dd_lt (by omega))
          rw [show pairD (lowP (s.num * (q.den : Nat) + q.num * (s.den : Nat)) (s.den * q.den)).1 (lowP (s.num * (q.den : Nat) + q.num * (s.den : Nat)) (s.den * q.den)).2 = PQ (some (s + q)) from low_add s q, Int.natCast_mul] at lw
          have t1 : topO (some s) = s.num := rfl
          have t2 : topO (some q) = q.num := rfl
          have b1 : botO (some s) = s.den := rfl
          have b2 : botO (some q) = q.den := rfl
          simp only [gFn, gSeq, gSkip, gRet, gRetN, gExpr, gSet, gIf, gAug, gAsg, gPar2, gPar3, gVar, gC, gBin, gUn, gTr, gAnd, gOr, gNot, gAndV, gOrV, gNotV, gIfE, gCall, G.gCons, G.gNil, G.gTup, G.gLst, gLstM, gSl, goSome, goNone, R.bind_ok, R.bind_ex, R.bind_no, R.bindS_ok, R.bindS_ex, R.bindS_no, outS_nx, outS_rt, outS_ex, orR_ok, orR_ex, orR_no, ggName, ggSub, List.getElem?_cons_zero, List.getElem?_cons_succ, List.set_cons_zero, List.set_cons_succ, List.map_cons, List.map_nil, List.length_cons, List.length_nil, List.replicate, List.append_nil, List.nil_append, List.cons_append, Nat.reduceAdd, Nat.reduceSub, Nat.reduceLeDiff, Nat.reduceLT, if_true, if_false, not_false_eq_true, Bool.false_eq_true, Bool.true_eq_false, Bool.not_true, Bool.not_false, decide_true, decide_false, decide_eq_true_eq, reduceIte, reduceCtorEq, eAdd, eAddI, eSub, eLt, eLe, eGt, eGe, eEq, eNe, eEqS, eNeS, eTru, eNeg, eAbs, eInt, eIntB, eLenL, eLenT, p0, p1, t1, t2, b1, b2, eMul m1, eMul m2, eMul m3, lw]
    obtain ⟨v', s', e0, e⟩ := lpp os 1 ((0 : Int) : Rat) none (hb_int (by decide) (by decide)) hn (by omega) nn
    rw [seq_nx (Γ1 := [some x, some (.bl false), v', some (PQ (some s'))]) (M1 := M) (by
      rw [for_seq]
      simp only [gVar, List.getElem?_cons_zero, R.bindS_ok, hf]
      exact e)]
    rw [e0]
    simp only [gFn, gSeq, gSkip, gRet, gRetN, gExpr, gSet, gIf, gAug, gAsg, gPar2, gPar3, gVar, gC, gBin, gUn, gTr, gAnd, gOr, gNot, gAndV, gOrV, gNotV, gIfE, gCall, G.gCons, G.gNil, G.gTup, G.gLst, gLstM, gSl, goSome, goNone, R.bind_ok, R.bind_ex, R.bind_no, R.bindS_ok, R.bindS_ex, R.bindS_no, outS_nx, outS_rt, outS_ex, orR_ok, orR_ex, orR_no, ggName, ggSub, List.getElem?_cons_zero, List.getElem?_cons_succ, List.set_cons_zero, List.set_cons_succ, List.map_cons, List.map_nil, List.length_cons, List.length_nil, List.replicate, List.append_nil, List.nil_append, List.cons_append, Nat.reduceAdd, Nat.reduceSub, Nat.reduceLeDiff, Nat.reduceLT, if_true, if_false, not_false_eq_true, Bool.false_eq_true, Bool.true_eq_false, Bool.not_true, Bool.not_false, decide_true, decide_false, decide_eq_true_eq, reduceIte, reduceCtorEq, eAdd, eAddI, eSub, eLt, eLe, eGt, eGe, eEq, eNe, eEqS, eNeS, eTru, eNeg, eAbs, eInt, eIntB, eLenL, eLenT, Bool.false_and]
end K05

namespace K05
open PySem L2 G
/-! ### what is heard -/
abbrev badT (k : Int) : D := .tup [.str "ratio", .int k]
theorem isE (j : Nat) (k : Int) (M : Stor) (r : Bool) (h : exTab 1 (.own j) = some r) : orR (fIsi isOk isTab [.exc 1 true [.int k], .cls j] M) (fIsiX exOk exTab [.exc 1 true [.int k], .cls j] M) = .ok (.bl r) M := by
  show (match exTab 1 (.own j) with
      | some b => R.ok (D.bl b) M
      | none => R.no) = _
  rw [h]
theorem isV (k : Int) (M : Stor) : orR (fIsi isOk isTab [.exc 1 true [.int k], .ty "ValueError"] M) (fIsiX exOk exTab [.exc 1 true [.int k], .ty "ValueError"] M) = .ok (.bl true) M := rfl
theorem cnt (M : Stor) : mCount (.lst [.bl true, .bl false, .bl false]) [.bl true] M = .ok (.int 1) M := by
  have e1 : pyL (.lst [.bl true, .bl false, .bl false]) M = some [.bool true, .bool false, .bool false] := by simp [pyL, topPy, toPy, toPyL]
  have e2 : topPy (.bl true) M = some (.bool true) := by simp [topPy, toPy]
  have s1 : SeqAt.shaped (.list [.bool true, .bool false, .bool false]) = true := by decide +kernel
  have s2 : SeqAt.shaped (.bool true) = true := by decide +kernel
  unfold mCount
  simp only [e1, e2, s1, s2, and_self, if_true]
  simp [PyData.eqv, List.countP_cons]
theorem idx (M : Stor) : mIndex (.lst [.bl true, .bl false, .bl false]) [.bl true] M = .ok (.int 0) M := by
  have e1 : pyL (.lst [.bl true, .bl false, .bl false]) M = some [.bool true, .bool false, .bool false] := by simp [pyL, topPy, toPy, toPyL]
  have e2 : topPy (.bl true) M = some (.bool true) := by simp [topPy, toPy]
  have s1 : SeqAt.shaped (.list [.bool true, .bool false, .bool false]) = true := by decide +kernel
  have s2 : SeqAt.shaped (.bool true) = true := by decide +kernel
  unfold mIndex
  simp only [e1, e2, s1, s2, and_self, if_true]
  simp [PyData.eqv, List.findIdx?_cons]
theorem heard_bad {Y : D} {th : Stor → R D} {M M1 : Stor} {k : Int} (h : th M = .ex 1 (some [.int k]) M1) : hLam 5 b__law_heard Y th M = .ok (badT k) M1 := by
  have u : gAsg (ggTup 2 (ggCons (ggName 1) (ggCons (ggName 2) ggNil))) (G.gTup (G.gCons (gC .non) (G.gCons (gC .non) G.gNil))) [some Y, none, none, none, none] M = .nx [some Y, some .non, some .non, none, none] M := rfl
  have t : gTryK (gSet 2 (gAct 0 Y th)) mt_WebError 3 1 [some Y, some .non, some .non, none, none] M = .nx [some Y, some (.exc 1 true [.int k]), some .non, none, none] M1 := by
    have e : gSet 2 (gAct 0 Y th) [some Y, some .non, some .non, none, none] M = .ex 1 (some [.int k]) [some Y, some .non, some .non, none, none] M1 := by
      simp only [gSet, gAct, List.getElem?_cons_zero, if_true, h, R.bindS_ex]
    unfold gTryK
    rw [e]
    rfl
  have b1 := isE 1 k M1 true rfl
  have b2 := isE 2 k M1 false rfl
  have b3 := isE 3 k M1 false rfl
  have b4 := isV k M1
  have c := cnt M1
  have ix := idx M1
  have lo : lstOf (.lst [.bl true, .bl false, .bl false]) M1 = some [.bl true, .bl false, .bl false] := rfl
  have n : dIsN (.exc 1 true [.int k]) .non M1 = .ok (.bl false) M1 := rfl
  have i1' : dIx (.lst [.bl true, .bl false, .bl false]) (.int 1) M1 = .ok (.bl false) M1 := rfl
  have i2' : dIx (.lst [.str "ratio", .str "", .str "text"]) (.int 0) M1 = .ok (.str "ratio") M1 := rfl
  have ef : dEfl et_at (.exc 1 true [.int k]) M1 = .ok (.int k) M1 := rfl
  unfold hLam b__law_heard
  show outS (gSeq _ _ [some Y, none, none, none, none] M) = _
  rw [seq_nx u, seq_nx t]
  simp only [gFn, gSeq, gSkip, gRet, gRetN, gExpr, gSet, gIf, gAug, gAsg, gPar2, gPar3, gVar, gC, gBin, gUn, gTr, gAnd, gOr, gNot, gAndV, gOrV, gNotV, gIfE, gCall, G.gCons, G.gNil, G.gTup, G.gLst, gLstM, gSl, goSome, goNone, R.bind_ok, R.bind_ex, R.bind_no, R.bindS_ok, R.bindS_ex, R.bindS_no, outS_nx, outS_rt, outS_ex, orR_ok, orR_ex, orR_no, ggName, ggSub, List.getElem?_cons_zero, List.getElem?_cons_succ, List.set_cons_zero, List.set_cons_succ, List.map_cons, List.map_nil, List.length_cons, List.length_nil, List.replicate, List.append_nil, List.nil_append, List.cons_append, Nat.reduceAdd, Nat.reduceSub, Nat.reduceLeDiff, Nat.reduceLT, if_true, if_false, not_false_eq_true, Bool.false_eq_true, Bool.true_eq_false, Bool.not_true, Bool.not_false, decide_true, decide_false, decide_eq_true_eq, reduceIte, reduceCtorEq, eAdd, eAddI, eSub, eLt, eLe, eGt, eGe, eEq, eNe, eEqS, eNeS, eTru, eNeg, eAbs, eInt, eIntB, eLenL, eLenT, n, b1, b2, b3, b4, gMtL, lo, c, ix, i1', i2', ef]
theorem lam_bad {g : GE'} {Γ : Gam} {M : Stor} {k : Int} (h : g Γ M = .ex 1 (some [.int k]) M) : gLam 5 b__law_heard g Γ M = .ok (badT k) M := lam_of fun Y => heard_bad h
theorem heard_val {Y : D} {th : Stor → R D} {M M1 : Stor} {d : D} (h : th M = .ok d M1) : hLam 5 b__law_heard Y th M = .ok (.lst [d]) M1 := by
  have u : gAsg (ggTup 2 (ggCons (ggName 1) (ggCons (ggName 2) ggNil))) (G.gTup (G.gCons (gC .non) (G.gCons (gC .non) G.gNil))) [some Y, none, none, none, none] M = .nx [some Y, some .non, some .non, none, none] M := rfl
  have t : gTryK (gSet 2 (gAct 0 Y th)) mt_WebError 3 1 [some Y, some .non, some .non, none, none] M = .nx [some Y, some .non, some d, none, none] M1 := by
    have e : gSet 2 (gAct 0 Y th) [some Y, some .non, some .non, none, none] M = .nx [some Y, some .non, some d, none, none] M1 := by
      simp only [gSet, gAct, List.getElem?_cons_zero, if_true, h, R.bindS_ok]
      rfl
    unfold gTryK
    rw [e]
  have n : dIsN .non .non M1 = .ok (.bl true) M1 := rfl
  unfold hLam b__law_heard
  show outS (gSeq _ _ [some Y, none, none, none, none] M) = _
  rw [seq_nx u, seq_nx t]
  simp only [gFn, gSeq, gSkip, gRet, gRetN, gExpr, gSet, gIf, gAug, gAsg, gPar2, gPar3, gVar, gC, gBin, gUn, gTr, gAnd, gOr, gNot, gAndV, gOrV, gNotV, gIfE, gCall, G.gCons, G.gNil, G.gTup, G.gLst, gLstM, gSl, goSome, goNone, R.bind_ok, R.bind_ex, R.bind_no, R.bindS_ok, R.bindS_ex, R.bindS_no, outS_nx, outS_rt, outS_ex, orR_ok, orR_ex, orR_no, ggName, ggSub, List.getElem?_cons_zero, List.getElem?_cons_succ, List.set_cons_zero, List.set_cons_succ, List.map_cons, List.map_nil, List.length_cons, List.length_nil, List.replicate, List.append_nil, List.nil_append, List.cons_append, Nat.reduceAdd, Nat.reduceSub, Nat.reduceLeDiff, Nat.reduceLT, if_true, if_false, not_false_eq_true, Bool.false_eq_true, Bool.true_eq_false, Bool.not_true, Bool.not_false, decide_true, decide_false, decide_eq_true_eq, reduceIte, reduceCtorEq, eAdd, eAddI, eSub, eLt, eLe, eGt, eGe, eEq, eNe, eEqS, eNeS, eTru, eNeg, eAbs, eInt, eIntB, eLenL, eLenT, n]
theorem lam_val {g : GE'} {Γ : Gam} {M : Stor} {d : D} (h : g Γ M = .ok d M) : gLam 5 b__law_heard g Γ M = .ok (.lst [d]) M := lam_of fun Y => heard_val h
abbrev noneT : D := .tup [.str "none"]
theorem isE2 (k : Nat) (M : Stor) (r : Bool) (h : exTab 2 (.own k) = some r) : orR (fIsi isOk isTab [.exc 2 false [], .cls k] M) (fIsiX exOk exTab [.exc 2 false [], .cls k] M) = .ok (.bl r) M := by
  show (match exTab 2 (.own k) with
      | some b => R.ok (D.bl b) M
      | none => R.no) = _
  rw [h]
theorem isV2 (M : Stor) : orR (fIsi isOk isTab [.exc 2 false [], .ty "ValueError"] M) (fIsiX exOk exTab [.exc 2 false [], .ty "ValueError"] M) = .ok (.bl true) M := rfl
theorem cnt2 (M : Stor) : mCount (.lst [.bl false, .bl true, .bl false]) [.bl true] M = .ok (.int 1) M := by
  have e1 : pyL (.lst [.bl false, .bl true, .bl false]) M = some [.bool false, .bool true, .bool false] := by simp [pyL, topPy, toPy, toPyL]
  have e2 : topPy (.bl true) M = some (.bool true) := by simp [topPy, toPy]
  have s1 : SeqAt.shaped (.list [.bool false, .bool true, .bool false]) = true := by decide +kernel
  have s2 : SeqAt.shaped (.bool true) = true := by decide +kernel
  unfold mCount
  simp only [e1, e2, s1, s2, and_self, if_true]
  simp [PyData.eqv, List.countP_cons]
theorem heard_none {Y : D} {th : Stor → R D} {M M1 : Stor} (h : th M = .ex 2 none M1) : hLam 5 b__law_heard Y th M = .ok noneT M1 := by
  have u : gAsg (ggTup 2 (ggCons (ggName 1) (ggCons (ggName 2) ggNil))) (G.gTup (G.gCons (gC .non) (G.gCons (gC .non) G.gNil))) [some Y, none, none, none, none] M = .nx [some Y, some .non, some .non, none, none] M := rfl
  have t : gTryK (gSet 2 (gAct 0 Y th)) mt_WebError 3 1 [some Y, some .non, some .non, none, none] M = .nx [some Y, some (.exc 2 false []), some .non, none, none] M1 := by
    have e : gSet 2 (gAct 0 Y th) [some Y, some .non, some .non, none, none] M = .ex 2 none [some Y, some .non, some .non, none, none] M1 := by
      simp only [gSet, gAct, List.getElem?_cons_zero, if_true, h, R.bindS_ex]
    unfold gTryK
    rw [e]
    rfl
  have b1 := isE2 1 M1 false rfl
  have b2 := isE2 2 M1 true rfl
  have b3 := isE2 3 M1 false rfl
  have b4 := isV2 M1
  have c := cnt2 M1
  have lo : lstOf (.lst [.bl false, .bl true, .bl false]) M1 = some [.bl false, .bl true, .bl false] := rfl
  have n : dIsN (.exc 2 false []) .non M1 = .ok (.bl false) M1 := rfl
  have ix : dIx (.lst [.bl false, .bl true, .bl false]) (.int 1) M1 = .ok (.bl true) M1 := rfl
  unfold hLam b__law_heard
  show outS (gSeq _ _ [some Y, none, none, none, none] M) = _
  rw [seq_nx u, seq_nx t]
  simp only [gFn, gSeq, gSkip, gRet, gRetN, gExpr, gSet, gIf, gAug, gAsg, gPar2, gPar3, gVar, gC, gBin, gUn, gTr, gAnd, gOr, gNot, gAndV, gOrV, gNotV, gIfE, gCall, G.gCons, G.gNil, G.gTup, G.gLst, gLstM, gSl, goSome, goNone, R.bind_ok, R.bind_ex, R.bind_no, R.bindS_ok, R.bindS_ex, R.bindS_no, outS_nx, outS_rt, outS_ex, orR_ok, orR_ex, orR_no, ggName, ggSub, List.getElem?_cons_zero, List.getElem?_cons_succ, List.set_cons_zero, List.set_cons_succ, List.map_cons, List.map_nil, List.length_cons, List.length_nil, List.replicate, List.append_nil, List.nil_append, List.cons_append, Nat.reduceAdd, Nat.reduceSub, Nat.reduceLeDiff, Nat.reduceLT, if_true, if_false, not_false_eq_true, Bool.false_eq_true, Bool.true_eq_false, Bool.not_true, Bool.not_false, decide_true, decide_false, decide_eq_true_eq, reduceIte, reduceCtorEq, eAdd, eAddI, eSub, eLt, eLe, eGt, eGe, eEq, eNe, eEqS, eNeS, eTru, eNeg, eAbs, eInt, eIntB, eLenL, eLenT, n, b1, b2, b3, b4, gMtL, lo, c, ix]
theorem lam_none {g : GE'} {Γ : Gam} {M : Stor} (h : g Γ M = .ex 2 none M) : gLam 5 b__law_heard g Γ M = .ok noneT M := lam_of fun Y => heard_none h
theorem isL (l : List D) (M : Stor) : fIsi isOk isTab [.lst l, .ty "list"] M = .ok (.bl true) M := rfl
theorem isLt (l : List D) (M : Stor) : fIsi isOk isTab [.tup l, .ty "list"] M = .ok (.bl false) M := rfl
theorem told_rat (o : Option Rat) (M : Stor) : f__law_told [.lst [DQ o]] M = .ok (PQ o) M := by
  have i : dIx (.lst [DQ o]) (.int 0) M = .ok (DQ o) M := rfl
  simp only [f__law_told, b__law_told, gFn, gSeq, gSkip, gRet, gRetN, gExpr, gSet, gIf, gAug, gAsg, gPar2, gPar3, gVar, gC, gBin, gUn, gTr, gAnd, gOr, gNot, gAndV, gOrV, gNotV, gIfE, gCall, G.gCons, G.gNil, G.gTup, G.gLst, gLstM, gSl, goSome, goNone, R.bind_ok, R.bind_ex, R.bind_no, R.bindS_ok, R.bindS_ex, R.bindS_no, outS_nx, outS_rt, outS_ex, orR_ok, orR_ex, orR_no, ggName, ggSub, List.getElem?_cons_zero, List.getElem?_cons_succ, List.set_cons_zero, List.set_cons_succ, List.map_cons, List.map_nil, List.length_cons, List.length_nil, List.replicate, List.append_nil, List.nil_append, List.cons_append, Nat.reduceAdd, Nat.reduceSub, Nat.reduceLeDiff, Nat.reduceLT, if_true, if_false, not_false_eq_true, Bool.false_eq_true, Bool.true_eq_false, Bool.not_true, Bool.not_false, decide_true, decide_false, decide_eq_true_eq, reduceIte, reduceCtorEq, eAdd, eAddI, eSub, eLt, eLe, eGt, eGe, eEq, eNe, eEqS, eNeS, eTru, eNeg, eAbs, eInt, eIntB, eLenL, eLenT, isL, i, isQ, oTop, oBot]
  rfl
theorem told_tup (l : List D) (M : Stor) : f__law_told [.tup l] M = .ok (.tup l) M := by
  simp only [f__law_told, b__law_told, gFn, gSeq, gSkip, gRet, gRetN, gExpr, gSet, gIf, gAug, gAsg, gPar2, gPar3, gVar, gC, gBin, gUn, gTr, gAnd, gOr, gNot, gAndV, gOrV, gNotV, gIfE, gCall, G.gCons, G.gNil, G.gTup, G.gLst, gLstM, gSl, goSome, goNone, R.bind_ok, R.bind_ex, R.bind_no, R.bindS_ok, R.bindS_ex, R.bindS_no, outS_nx, outS_rt, outS_ex, orR_ok, orR_ex, orR_no, ggName, ggSub, List.getElem?_cons_zero, List.getElem?_cons_succ, List.set_cons_zero, List.set_cons_succ, List.map_cons, List.map_nil, List.length_cons, List.length_nil, List.replicate, List.append_nil, List.nil_append, List.cons_append, Nat.reduceAdd, Nat.reduceSub, Nat.reduceLeDiff, Nat.reduceLT, if_true, if_false, not_false_eq_true, Bool.false_eq_true, Bool.true_eq_false, Bool.not_true, Bool.not_false, decide_true, decide_false, decide_eq_true_eq, reduceIte, reduceCtorEq, eAdd, eAddI, eSub, eLt, eLe, eGt, eGe, eEq, eNe, eEqS, eNeS, eTru, eNeg, eAbs, eInt, eIntB, eLenL, eLenT, isLt]
/-! ### the three functions asked -/
/-- what is heard of a call -/
inductive He (h t : D) : Prop
  | m (e : ∀ M, f__law_told [h] M = .ok t M)
theorem asked_gen {x : D} {M : Stor} {h1 h2 h3 t1 t2 t3 : D}
    (e1 : ∀ (Γ : Gam) (N : Stor), Γ[0]? = some (some x) → (∃ N', N = M ++ N') → gLam 5 b__law_heard (gCall f_Ratio_total (G.gCons (gVar 0) G.gNil)) Γ N = .ok h1 N)
    (e2 : ∀ (Γ : Gam) (N : Stor), Γ[0]? = some (some x) → (∃ N', N = M ++ N') → gLam 5 b__law_heard (gCall f_Ratio_greatest (G.gCons (gVar 0) G.gNil)) Γ N = .ok h2 N)
    (e3 : ∀ (Γ : Gam) (N : Stor), Γ[0]? = some (some x) → (∃ N', N = M ++ N') → gLam 5 b__law_heard (gCall f_Ratio_least (G.gCons (gVar 0) G.gNil)) Γ N = .ok h3 N)
    (k1 : ∀ (Γ : Gam) (N : Stor), Γ[0]? = some (some x) → (∃ N', N = M ++ N') → gLam 5 b__law_heard (gCallK 1 (fun l M => f_Ratio_total (pmI [0] l) M) (G.gCons (gVar 0) G.gNil)) Γ N = .ok h1 N)
    (k2 : ∀ (Γ : Gam) (N : Stor), Γ[0]? = some (some x) → (∃ N', N = M ++ N') → gLam 5 b__law_heard (gCallK 1 (fun l M => f_Ratio_greatest (pmI [0] l) M) (G.gCons (gVar 0) G.gNil)) Γ N = .ok h2 N)
    (k3 : ∀ (Γ : Gam) (N : Stor), Γ[0]? = some (some x) → (∃ N', N = M ++ N') → gLam 5 b__law_heard (gCallK 1 (fun l M => f_Ratio_least (pmI [0] l) M) (G.gCons (gVar 0) G.gNil)) Γ N = .ok h3 N)
    (q1 : He h1 t1) (q2 : He h2 t2) (q3 : He h3 t3) (hf : firmL [t1, t2, t3] = true) : f__law_asked [x] M = .ok (.lst [t1, t2, t3, t1, t2, t3]) M := by
  obtain ⟨q1⟩ := q1
  obtain ⟨q2⟩ := q2
  obtain ⟨q3⟩ := q3
  have N : ∀ l : List D, ∃ N', M ++ [MO.lst l] = M ++ N' := fun l => ⟨_, rfl⟩
  have body : gFn 1 3 b__law_asked [x] M = .ok (.lst [t1, t2, t3, t1, t2, t3]) (M ++ [.lst [h1, h2, h3, h1, h2, h3]]) := by
    refine fn_rt rfl ?_
    show b__law_asked [some x, none, none] M = _
    unfold b__law_asked
    rw [seq_nx (Γ1 := [some x, some (.ref M.length), none]) (M1 := M ++ [.lst [h1]]) (by
      have := e1 [some x, none, none] M rfl ⟨[], by simp⟩
      simp only [gSet, gLstM, G.gCons, G.gNil, this, R.bind_ok, R.bindS_ok]
      rfl)]
    rw [seq_nx (ap_last rfl (e2 _ _ rfl (N _)) (by simp))]
    rw [seq_nx (ap_last rfl (e3 _ _ rfl (N _)) (by simp))]
    rw [seq_nx (ap_last rfl (k1 _ _ rfl (N _)) (by simp))]
    rw [seq_nx (ap_last rfl (k2 _ _ rfl (N _)) (by simp))]
    rw [seq_nx (ap_last rfl (k3 _ _ rfl (N _)) (by simp))]
    show gRet _ [some x, some (.ref M.length), none] (M ++ [.lst [h1, h2, h3, h1, h2, h3]]) = _
    have sq : Sq (.ref M.length) (M ++ [.lst [h1, h2, h3, h1, h2, h3]]) ([(h1, t1), (h2, t2), (h3, t3), (h1, t1), (h2, t2), (h3, t3)].map (·.1)) := .inr (.inr ⟨_, rfl, by simp⟩)
    have c := compX_sqA (.one 2) (gCall f__law_told (G.gCons (gVar 2) G.gNil)) (fun p : D × D => p.1) (fun p => p.2) [(h1, t1), (h2, t2), (h3, t3), (h1, t1), (h2, t2), (h3, t3)] sq [some x, some (.ref M.length), none] (by simp) fun p hp => by
      refine ⟨[some x, some (.ref M.length), some p.1], rfl, ?_⟩
      simp only [List.mem_cons, List.not_mem_nil, or_false] at hp
      rcases hp with rfl | rfl | rfl | rfl | rfl | rfl <;> simp only [gFn, gSeq, gSkip, gRet, gRetN, gExpr, gSet, gIf, gAug, gAsg, gPar2, gPar3, gVar, gC, gBin, gUn, gTr, gAnd, gOr, gNot, gAndV, gOrV, gNotV, gIfE, gCall, G.gCons, G.gNil, G.gTup, G.gLst, gLstM, gSl, goSome, goNone, R.bind_ok, R.bind_ex, R.bind_no, R.bindS_ok, R.bindS_ex, R.bindS_no, outS_nx, outS_rt, outS_ex, orR_ok, orR_ex, orR_no, ggName, ggSub, List.getElem?_cons_zero, List.getElem?_cons_succ, List.set_cons_zero, List.set_cons_succ, List.map_cons, List.map_nil, List.length_cons, List.length_nil, List.replicate, List.append_nil, List.nil_append, List.cons_append, Nat.reduceAdd, Nat.reduceSub, Nat.reduceLeDiff, Nat.reduceLT, if_true, if_false, not_false_eq_true, Bool.false_eq_true, Bool.true_eq_false, Bool.not_true, Bool.not_false, decide_true, decide_false, decide_eq_true_eq, reduceIte, reduceCtorEq, eAdd, eAddI, eSub, eLt, eLe, eGt, eGe, eEq, eNe, eEqS, eNeS, eTru, eNeg, eAbs, eInt, eIntB, eLenL, eLenT, q1, q2, q3]
    unfold gRet
    rw [comp_seq]
    simp only [gVar, List.getElem?_cons_succ, List.getElem?_cons_zero, R.bind_ok, c, R.bindS_ok]
    rfl
  show frz M (gFn 1 3 b__law_asked [x] M) = _
  rw [body]
  refine frz_firm1 ?_
  simp only [firmL, Bool.and_eq_true] at hf
  simp only [D.firm, firmL, hf.1, hf.2.1, hf.2.2.1, Bool.and_self]
end K05

namespace K05
open PySem L2 G
/-! ### repr of a list of ratios and ints -/
def iS (i : Int) : Str := Str.ofString (toString i)
theorem iS_len {i : Int} (h : Sm i) : (iS i).length ≤ 1001 := by
  have t := int_text_length_le (a := i) (k := 1000) (by decide) (log2_of h (by decide))
  unfold iS; rw [ofString_length]; omega
theorem iS_log {i : Int} (h : Sm i) : i.natAbs.log2 < 1920 := Nat.lt_trans (log2_of h (by decide)) (by decide)
theorem fStr_int {i : Int} (h : Sm i) (M : Stor) : fStr [.int i] M = .ok (.str (iS i)) M := by
  unfold fStr; simp only [iS_log h, if_true]; rfl
theorem dFmt_int {i : Int} (h : Sm i) (M : Stor) : dFmt (.int i) M = .ok (.str (iS i)) M := by
  unfold dFmt; simp only [iS_log h, if_true]; rfl
def txt (a b : Int) : Str := if b = 0 then "endless" else if b = 1 then iS a else iS a ++ "/" ++ iS b
theorem txt_len {a b : Int} (ha : Sm a) (hb : Sm b) : (txt a b).length ≤ 2010 := by
  have la := iS_len ha
  have lb := iS_len hb
  unfold txt
  split
  · exact (by decide +kernel : (Str.ofString "endless").length ≤ 2010)
  · split
    · omega
    · rw [Str.length_append, Str.length_append]
      have : (Str.ofString "/").length = 1 := by decide +kernel
      omega
theorem slash_len : (Str.ofString "/").length = 1 := by decide +kernel
theorem written_ok {a b : Int} (ha : Sm a) (hb : Sm b) (M : Stor) : f_written [.int a, .int b] M = .ok (.str (txt a b)) M := by
  have la := iS_len ha
  have lb := iS_len hb
  unfold txt
  by_cases h0 : b = 0
  · subst h0
    simp only [f_written, b_written, gFn, gSeq, gSkip, gRet, gRetN, gExpr, gSet, gIf, gAug, gAsg, gPar2, gPar3, gVar, gC, gBin, gUn, gTr, gAnd, gOr, gNot, gAndV, gOrV, gNotV, gIfE, gCall, G.gCons, G.gNil, G.gTup, G.gLst, gLstM, gSl, goSome, goNone, R.bind_ok, R.bind_ex, R.bind_no, R.bindS_ok, R.bindS_ex, R.bindS_no, outS_nx, outS_rt, outS_ex, orR_ok, orR_ex, orR_no, ggName, ggSub, List.getElem?_cons_zero, List.getElem?_cons_succ, List.set_cons_zero, List.set_cons_succ, List.map_cons, List.map_nil, List.length_cons, List.length_nil, List.replicate, List.append_nil, List.nil_append, List.cons_append, Nat.reduceAdd, Nat.reduceSub, Nat.reduceLeDiff, Nat.reduceLT, if_true, if_false, not_false_eq_true, Bool.false_eq_true, Bool.true_eq_false, Bool.not_true, Bool.not_false, decide_true, decide_false, decide_eq_true_eq, reduceIte, reduceCtorEq, eAdd, eAddI, eSub, eLt, eLe, eGt, eGe, eEq, eNe, eEqS, eNeS, eTru, eNeg, eAbs, eInt, eIntB, eLenL, eLenT]
  · by_cases h1 : b = 1
    · subst h1
      simp only [f_written, b_written, gFn, gSeq, gSkip, gRet, gRetN, gExpr, gSet, gIf, gAug, gAsg, gPar2, gPar3, gVar, gC, gBin, gUn, gTr, gAnd, gOr, gNot, gAndV, gOrV, gNotV, gIfE, gCall, G.gCons, G.gNil, G.gTup, G.gLst, gLstM, gSl, goSome, goNone, R.bind_ok, R.bind_ex, R.bind_no, R.bindS_ok, R.bindS_ex, R.bindS_no, outS_nx, outS_rt, outS_ex, orR_ok, orR_ex, orR_no, ggName, ggSub, List.getElem?_cons_zero, List.getElem?_cons_succ, List.set_cons_zero, List.set_cons_succ, List.map_cons, List.map_nil, List.length_cons, List.length_nil, List.replicate, List.append_nil, List.nil_append, List.cons_append, Nat.reduceAdd, Nat.reduceSub, Nat.reduceLeDiff, Nat.reduceLT, if_true, if_false, not_false_eq_true, Bool.false_eq_true, Bool.true_eq_false, Bool.not_true, Bool.not_false, decide_true, decide_false, decide_eq_true_eq, reduceIte, reduceCtorEq, eAdd, eAddI, eSub, eLt, eLe, eGt, eGe, eEq, eNe, eEqS, eNeS, eTru, eNeg, eAbs, eInt, eIntB, eLenL, eLenT, fStr_int ha, show decide ((1 : Int) = 0) = false from rfl, show ¬ ((1 : Int) = 0) by decide]
    · have e1 : (Str.empty ++ iS a).length ≤ 1000000 := by rw [Str.empty_append]; omega
      have e2 : (iS a ++ Str.ofString "/").length ≤ 1000000 := by rw [Str.length_append, slash_len]; omega
      have e3 : (iS a ++ Str.ofString "/" ++ iS b).length ≤ 1000000 := by rw [Str.length_append, Str.length_append, slash_len]; omega
      simp only [f_written, b_written, gFn, gSeq, gSkip, gRet, gRetN, gExpr, gSet, gIf, gAug, gAsg, gPar2, gPar3, gVar, gC, gBin, gUn, gTr, gAnd, gOr, gNot, gAndV, gOrV, gNotV, gIfE, gCall, G.gCons, G.gNil, G.gTup, G.gLst, gLstM, gSl, goSome, goNone, R.bind_ok, R.bind_ex, R.bind_no, R.bindS_ok, R.bindS_ex, R.bindS_no, outS_nx, outS_rt, outS_ex, orR_ok, orR_ex, orR_no, ggName, ggSub, List.getElem?_cons_zero, List.getElem?_cons_succ, List.set_cons_zero, List.set_cons_succ, List.map_cons, List.map_nil, List.length_cons, List.length_nil, List.replicate, List.append_nil, List.nil_append, List.cons_append, Nat.reduceAdd, Nat.reduceSub, Nat.reduceLeDiff, Nat.reduceLT, if_true, if_false, not_false_eq_true, Bool.false_eq_true, Bool.true_eq_false, Bool.not_true, Bool.not_false, decide_true, decide_false, decide_eq_true_eq, reduceIte, reduceCtorEq, eAdd, eAddI, eSub, eLt, eLe, eGt, eGe, eEq, eNe, eEqS, eNeS, eTru, eNeg, eAbs, eInt, eIntB, eLenL, eLenT, h0, h1, jsG, dFmt_int ha, dFmt_int hb, Str.empty_append, e2, e3, show (iS a).length ≤ 1000000 by omega]
def rtxt (a b : Int) : Str := Str.ofString "Ratio(" ++ txt a b ++ Str.ofString ")"
theorem rl : (Str.ofString "Ratio(").length = 6 := by decide +kernel
theorem rr : (Str.ofString ")").length = 1 := by decide +kernel
theorem rtxt_len {a b : Int} (ha : Sm a) (hb : Sm b) : (rtxt a b).length ≤ 2020 := by
  have := txt_len ha hb
  unfold rtxt; rw [Str.length_append, Str.length_append, rl, rr]; omega
theorem repr_ok {a b : Int} (ha : Sm a) (hb : Sm b) (M : Stor) : f_Ratio___repr__ [rat a b] M = .ok (.str (rtxt a b)) M := by
  have lt := txt_len ha hb
  have e0 : dFmt (.str (txt a b)) M = .ok (.str (txt a b)) M := by unfold dFmt; simp only [show (txt a b).length ≤ 1000000 by omega, if_true]
  have e1 : (Str.ofString "Ratio(").length ≤ 1000000 := by rw [rl]; decide
  have e2 : (Str.ofString "Ratio(" ++ txt a b).length ≤ 1000000 := by rw [Str.length_append, rl]; omega
  have e3 : (Str.ofString "Ratio(" ++ txt a b ++ Str.ofString ")").length ≤ 1000000 := by rw [Str.length_append, Str.length_append, rl, rr]; omega
  simp only [f_Ratio___repr__, b_Ratio___repr__, gFn, gSeq, gSkip, gRet, gRetN, gExpr, gSet, gIf, gAug, gAsg, gPar2, gPar3, gVar, gC, gBin, gUn, gTr, gAnd, gOr, gNot, gAndV, gOrV, gNotV, gIfE, gCall, G.gCons, G.gNil, G.gTup, G.gLst, gLstM, gSl, goSome, goNone, R.bind_ok, R.bind_ex, R.bind_no, R.bindS_ok, R.bindS_ex, R.bindS_no, outS_nx, outS_rt, outS_ex, orR_ok, orR_ex, orR_no, ggName, ggSub, List.getElem?_cons_zero, List.getElem?_cons_succ, List.set_cons_zero, List.set_cons_succ, List.map_cons, List.map_nil, List.length_cons, List.length_nil, List.replicate, List.append_nil, List.nil_append, List.cons_append, Nat.reduceAdd, Nat.reduceSub, Nat.reduceLeDiff, Nat.reduceLT, if_true, if_false, not_false_eq_true, Bool.false_eq_true, Bool.true_eq_false, Bool.not_true, Bool.not_false, decide_true, decide_false, decide_eq_true_eq, reduceIte, reduceCtorEq, eAdd, eAddI, eSub, eLt, eLe, eGt, eGe, eEq, eNe, eEqS, eNeS, eTru, eNeg, eAbs, eInt, eIntB, eLenL, eLenT, fTop, fBot, written_ok ha hb, jsG, e0, Str.empty_append, e1, e2, e3, rtxt]

theorem sm97 {x : Int} (h : x.natAbs < 2 ^ 97) : Sm x := nup h (by decide)
theorem hbT {o : Option Rat} (h : HbE 97 o) : Sm (topO o) ∧ Sm (botO o : Nat) := by
  cases o with
  | none => exact ⟨by decide, by decide⟩
  | some q =>
    have := h.hb q rfl
    exact ⟨sm97 this.num, sm97 (by rw [Int.natAbs_natCast]; exact this.den)⟩
theorem DQ_rat (o : Option Rat) : DQ o = rat (topO o) (botO o : Nat) := by cases o <;> rfl
theorem it_ok {x : D} {o : Option Rat} (h : VE x o) (hb : HbE 97 o) (M : Stor) : ∃ t : Str, itO 5 f_Ratio___repr__ M x = some t ∧ t.length ≤ 3000 := by
  obtain ⟨s1, s2⟩ := hbT hb
  cases h with
  | q =>
    refine ⟨rtxt (topO o) (botO o : Nat), ?_, by have := rtxt_len s1 s2; omega⟩
    have r := repr_ok s1 s2 M
    rw [DQ_rat]
    have e : own1 5 (fun l N => strOnly (f_Ratio___repr__ l N)) (rat (topO o) (botO o : Nat)) M = .ok (.str (rtxt (topO o) (botO o : Nat))) M := by
      show strOnly (f_Ratio___repr__ [rat (topO o) (botO o : Nat)] M) = _
      rw [r]; rfl
    unfold itO
    simp only [e, if_true]
  | n k =>
    have s1 : Sm k := by
      have := (hb.hb _ rfl).num
      rw [Rat.num_intCast] at this
      exact sm97 this
    refine ⟨Str.ofString (toString k), ?_, ?_⟩
    · simp only [itO, iS_log s1, if_true]
    · have := iS_len s1
      unfold iS at this
      omega
theorem its_ok (M : Stor) {xs : List D} {os : List (Option Rat)} (h : VL xs os) (hn : HL os) : ∃ ts : List Str, itsO 5 f_Ratio___repr__ M xs = some ts ∧ (ts.map (·.length)).sum ≤ 3000 * xs.length := by
  induction h with
  | nil => exact ⟨[], rfl, by simp⟩
  | cons h t ih =>
    obtain ⟨ts, e, l⟩ := ih hn.tl
    obtain ⟨t, e2, l2⟩ := it_ok h (hn _ List.mem_cons_self) M
    refine ⟨t :: ts, ?_, by simp; omega⟩
    unfold itsO
    rw [e2, e]
theorem fRepr_or (x : D) (M : Stor) : fRepr [x] M = .no ∨ ∃ s : Str, fRepr [x] M = .ok (.str s) M := by
  unfold fRepr
  repeat' split
  all_goals first | exact .inl rfl | exact .inr ⟨_, rfl⟩
theorem SL.lo {x : D} {M : Stor} {l : List D} (h : SL x M l) : lstOf x M = some l := by
  rcases h with rfl | ⟨k, rfl, hk⟩
  · rfl
  · unfold lstOf; simp only [hk]
theorem reprL_ok {x : D} {M : Stor} {xs : List D} {os : List (Option Rat)} (hx : SL x M xs) (h : VL xs os) (hn : HL os) (hl : os.length ≤ 20) : ∃ s : Str, orR (fRepr [x] M) (fReprO 5 f_Ratio___repr__ [x] M) = .ok (.str s) M := by
  rcases fRepr_or x M with e | ⟨s, e⟩
  · rw [e]
    obtain ⟨ts, et, lt⟩ := its_ok M h hn
    have hlen := h.len
    cases xs with
    | nil =>
      exfalso
      have t : topPy x M = some (.list []) := hx.top (by simp [toPyL])
      have : fRepr [x] M = .ok (.str (PyData.list []).shown) M := by
        rcases hx with rfl | ⟨k, rfl, hk⟩
        · show (match topPy (.lst []) M with | some p => if reprOk p then R.ok (D.str p.shown) M else R.no | none => R.no) = _
          rw [t]
          have : reprOk (.list []) = true := by decide +kernel
          simp only [this, if_true]
        · show (match topPy (.ref k) M with | some p => if reprOk p then R.ok (D.str p.shown) M else R.no | none => R.no) = _
          rw [t]
          have : reprOk (.list []) = true := by decide +kernel
          simp only [this, if_true]
      rw [this] at e
      cases e
    | cons d l =>
      refine ⟨listText ts, ?_⟩
      have tl := itsO_len et
      have t := listText_len_le ts
      have lz : (listText ts).length ≤ 1000000 := by
        rw [hlen] at lt
        omega
      show (match lstOf x M with
        | some (d :: l) => (match itsO 5 f_Ratio___repr__ M (d :: l) with
          | some ts => if (listText ts).length ≤ 1000000 then R.ok (D.str (listText ts)) M else .no
          | none => .no)
        | _ => .no) = _
      rw [hx.lo]
      dsimp only
      rw [et]
      dsimp only
      rw [if_pos lz]
  · exact ⟨s, by rw [e]; rfl⟩
end K05

namespace K05
open PySem L2 G
theorem sq_app {x : D} {M N : Stor} {l : List D} (h : Sq x M l) : Sq x (M ++ N) l := by
  rcases h with h | h | ⟨k, h, hk⟩
  · exact .inl h
  · exact .inr (.inl h)
  · refine .inr (.inr ⟨k, h, ?_⟩)
    rw [List.getElem?_append_left (List.getElem?_eq_some_iff.mp hk).1]; exact hk
theorem pm1 (x : D) : pmI [0] [x] = [x] := rfl
def hT (os : List (Option Rat)) : D := match resT os with
  | none => noneT
  | some o => .lst [DQ o]
theorem heT (os : List (Option Rat)) : He (hT os) (totD os) := ⟨fun M => by
  unfold hT totD
  cases resT os with
  | none => exact told_tup _ M
  | some o => exact told_rat o M⟩
theorem heR (o : Option Rat) : He (.lst [DQ o]) (PQ o) := ⟨told_rat o⟩
theorem firm_t (os : List (Option Rat)) : (totD os).firm = true := by unfold totD; cases resT os <;> rfl
theorem firm_p (o : Option Rat) : (PQ o).firm = true := rfl
theorem lamT {g : GE'} {Γ : Gam} {N : Stor} {os : List (Option Rat)} (h : g Γ N = runT os N) : gLam 5 b__law_heard g Γ N = .ok (hT os) N := by
  unfold runT at h
  unfold hT
  cases e : resT os with
  | none => rw [e] at h; exact lam_none h
  | some o => rw [e] at h; exact lam_val h
theorem asked_ok {x : D} {M : Stor} {xs : List D} {os : List (Option Rat)} (hx : Sq x M xs) (h : VL xs os) (hn : HL os) (hl : os.length ≤ 20) :
    f__law_asked [x] M = .ok (.lst [totD os, PQ (resG os), PQ (resL os), totD os, PQ (resG os), PQ (resL os)]) M := by
  have v : ∀ (Γ : Gam) (N : Stor), Γ[0]? = some (some x) → gVar 0 Γ N = .ok x N := fun Γ N hΓ => by unfold gVar; rw [hΓ]
  refine asked_gen (h1 := hT os) (h2 := .lst [DQ (resG os)]) (h3 := .lst [DQ (resL os)]) ?_ ?_ ?_ ?_ ?_ ?_ (heT os) (heR _) (heR _) (by simp [firmL, firm_t, firm_p])
  · rintro Γ _ hΓ ⟨N', rfl⟩
    exact lamT (by simp only [gCall, G.gCons, G.gNil, v Γ _ hΓ, R.bind_ok]; exact total_ok (sq_app hx) h hn hl)
  · rintro Γ _ hΓ ⟨N', rfl⟩
    exact lam_val (by simp only [gCall, G.gCons, G.gNil, v Γ _ hΓ, R.bind_ok]; exact greatest_ok (sq_app hx) h hn hl)
  · rintro Γ _ hΓ ⟨N', rfl⟩
    exact lam_val (by simp only [gCall, G.gCons, G.gNil, v Γ _ hΓ, R.bind_ok]; exact least_ok (sq_app hx) h hn hl)
  · rintro Γ _ hΓ ⟨N', rfl⟩
    exact lamT (by simp only [gCallK, gCall, G.gCons, G.gNil, v Γ _ hΓ, R.bind_ok, pm1, List.length_cons, List.length_nil, if_true]; exact total_ok (sq_app hx) h hn hl)
  · rintro Γ _ hΓ ⟨N', rfl⟩
    exact lam_val (by simp only [gCallK, gCall, G.gCons, G.gNil, v Γ _ hΓ, R.bind_ok, pm1, List.length_cons, List.length_nil, if_true]; exact greatest_ok (sq_app hx) h hn hl)
  · rintro Γ _ hΓ ⟨N', rfl⟩
    exact lam_val (by simp only [gCallK, gCall, G.gCons, G.gNil, v Γ _ hΓ, R.bind_ok, pm1, List.length_cons, List.length_nil, if_true]; exact least_ok (sq_app hx) h hn hl)
section
variable {x : D} {M : Stor} {xs rest : List D} {v : D} {os : List (Option Rat)} (hx : Sq x M (xs ++ v :: rest)) (h : VL xs os) (hv : Odd v)
include hx h hv
theorem tot_bad : f_Ratio_total [x] M = .ex 1 (some [.int (xs.length : Nat)]) M := by
  have e0 := all_bad hx h hv
  simp only [f_Ratio_total, b_Ratio_total, gFn, gSeq, gSkip, gRet, gRetN, gExpr, gSet, gIf, gAug, gAsg, gPar2, gPar3, gVar, gC, gBin, gUn, gTr, gAnd, gOr, gNot, gAndV, gOrV, gNotV, gIfE, gCall, G.gCons, G.gNil, G.gTup, G.gLst, gLstM, gSl, goSome, goNone, R.bind_ok, R.bind_ex, R.bind_no, R.bindS_ok, R.bindS_ex, R.bindS_no, outS_nx, outS_rt, outS_ex, orR_ok, orR_ex, orR_no, ggName, ggSub, List.getElem?_cons_zero, List.getElem?_cons_succ, List.set_cons_zero, List.set_cons_succ, List.map_cons, List.map_nil, List.length_cons, List.length_nil, List.replicate, List.append_nil, List.nil_append, List.cons_append, Nat.reduceAdd, Nat.reduceSub, Nat.reduceLeDiff, Nat.reduceLT, if_true, if_false, not_false_eq_true, Bool.false_eq_true, Bool.true_eq_false, Bool.not_true, Bool.not_false, decide_true, decide_false, decide_eq_true_eq, reduceIte, reduceCtorEq, eAdd, eAddI, eSub, eLt, eLe, eGt, eGe, eEq, eNe, eEqS, eNeS, eTru, eNeg, eAbs, eInt, eIntB, eLenL, eLenT, e0]
theorem gre_bad : f_Ratio_greatest [x] M = .ex 1 (some [.int (xs.length : Nat)]) M := by
  have e0 := all_bad hx h hv
  simp only [f_Ratio_greatest, b_Ratio_greatest, gFn, gSeq, gSkip, gRet, gRetN, gExpr, gSet, gIf, gAug, gAsg, gPar2, gPar3, gVar, gC, gBin, gUn, gTr, gAnd, gOr, gNot, gAndV, gOrV, gNotV, gIfE, gCall, G.gCons, G.gNil, G.gTup, G.gLst, gLstM, gSl, goSome, goNone, R.bind_ok, R.bind_ex, R.bind_no, R.bindS_ok, R.bindS_ex, R.bindS_no, outS_nx, outS_rt, outS_ex, orR_ok, orR_ex, orR_no, ggName, ggSub, List.getElem?_cons_zero, List.getElem?_cons_succ, List.set_cons_zero, List.set_cons_succ, List.map_cons, List.map_nil, List.length_cons, List.length_nil, List.replicate, List.append_nil, List.nil_append, List.cons_append, Nat.reduceAdd, Nat.reduceSub, Nat.reduceLeDiff, Nat.reduceLT, if_true, if_false, not_false_eq_true, Bool.false_eq_true, Bool.true_eq_false, Bool.not_true, Bool.not_false, decide_true, decide_false, decide_eq_true_eq, reduceIte, reduceCtorEq, eAdd, eAddI, eSub, eLt, eLe, eGt, eGe, eEq, eNe, eEqS, eNeS, eTru, eNeg, eAbs, eInt, eIntB, eLenL, eLenT, e0]
theorem lea_bad : f_Ratio_least [x] M = .ex 1 (some [.int (xs.length : Nat)]) M := by
  have e0 := all_bad hx h hv
  have eo := endless_ok M
  show outS (b_Ratio_least [some x, none, none] M) = _
  unfold b_Ratio_least
  rw [seq_nx (Γ1 := [some x, some (rat 1 0), none]) (M1 := M) (by simp only [gFn, gSeq, gSkip, gRet, gRetN, gExpr, gSet, gIf, gAug, gAsg, gPar2, gPar3, gVar, gC, gBin, gUn, gTr, gAnd, gOr, gNot, gAndV, gOrV, gNotV, gIfE, gCall, G.gCons, G.gNil, G.gTup, G.gLst, gLstM, gSl, goSome, goNone, R.bind_ok, R.bind_ex, R.bind_no, R.bindS_ok, R.bindS_ex, R.bindS_no, outS_nx, outS_rt, outS_ex, orR_ok, orR_ex, orR_no, ggName, ggSub, List.getElem?_cons_zero, List.getElem?_cons_succ, List.set_cons_zero, List.set_cons_succ, List.map_cons, List.map_nil, List.length_cons, List.length_nil, List.replicate, List.append_nil, List.nil_append, List.cons_append, Nat.reduceAdd, Nat.reduceSub, Nat.reduceLeDiff, Nat.reduceLT, if_true, if_false, not_false_eq_true, Bool.false_eq_true, Bool.true_eq_false, Bool.not_true, Bool.not_false, decide_true, decide_false, decide_eq_true_eq, reduceIte, reduceCtorEq, eAdd, eAddI, eSub, eLt, eLe, eGt, eGe, eEq, eNe, eEqS, eNeS, eTru, eNeg, eAbs, eInt, eIntB, eLenL, eLenT, eo])]
  unfold gSeq
  rw [for_seq]
  simp only [gFn, gSeq, gSkip, gRet, gRetN, gExpr, gSet, gIf, gAug, gAsg, gPar2, gPar3, gVar, gC, gBin, gUn, gTr, gAnd, gOr, gNot, gAndV, gOrV, gNotV, gIfE, gCall, G.gCons, G.gNil, G.gTup, G.gLst, gLstM, gSl, goSome, goNone, R.bind_ok, R.bind_ex, R.bind_no, R.bindS_ok, R.bindS_ex, R.bindS_no, outS_nx, outS_rt, outS_ex, orR_ok, orR_ex, orR_no, ggName, ggSub, List.getElem?_cons_zero, List.getElem?_cons_succ, List.set_cons_zero, List.set_cons_succ, List.map_cons, List.map_nil, List.length_cons, List.length_nil, List.replicate, List.append_nil, List.nil_append, List.cons_append, Nat.reduceAdd, Nat.reduceSub, Nat.reduceLeDiff, Nat.reduceLT, if_true, if_false, not_false_eq_true, Bool.false_eq_true, Bool.true_eq_false, Bool.not_true, Bool.not_false, decide_true, decide_false, decide_eq_true_eq, reduceIte, reduceCtorEq, eAdd, eAddI, eSub, eLt, eLe, eGt, eGe, eEq, eNe, eEqS, eNeS, eTru, eNeg, eAbs, eInt, eIntB, eLenL, eLenT, e0]
end
theorem asked_bad {x : D} {M : Stor} {xs rest : List D} {v : D} {os : List (Option Rat)} (hx : Sq x M (xs ++ v :: rest)) (h : VL xs os) (hv : Odd v) :
    f__law_asked [x] M = .ok (.lst [badT (xs.length : Nat), badT (xs.length : Nat), badT (xs.length : Nat), badT (xs.length : Nat), badT (xs.length : Nat), badT (xs.length : Nat)]) M := by
  have w : ∀ (Γ : Gam) (N : Stor), Γ[0]? = some (some x) → gVar 0 Γ N = .ok x N := fun Γ N hΓ => by unfold gVar; rw [hΓ]
  have he : He (badT (xs.length : Nat)) (badT (xs.length : Nat)) := ⟨told_tup _⟩
  refine asked_gen ?_ ?_ ?_ ?_ ?_ ?_ he he he rfl
  · rintro Γ _ hΓ ⟨N', rfl⟩
    exact lam_bad (by simp only [gCall, G.gCons, G.gNil, w Γ _ hΓ, R.bind_ok]; exact tot_bad (sq_app hx) h hv)
  · rintro Γ _ hΓ ⟨N', rfl⟩
    exact lam_bad (by simp only [gCall, G.gCons, G.gNil, w Γ _ hΓ, R.bind_ok]; exact gre_bad (sq_app hx) h hv)
  · rintro Γ _ hΓ ⟨N', rfl⟩
    exact lam_bad (by simp only [gCall, G.gCons, G.gNil, w Γ _ hΓ, R.bind_ok]; exact lea_bad (sq_app hx) h hv)
  · rintro Γ _ hΓ ⟨N', rfl⟩
    exact lam_bad (by simp only [gCallK, gCall, G.gCons, G.gNil, w Γ _ hΓ, R.bind_ok, pm1, List.length_cons, List.length_nil, if_true]; exact tot_bad (sq_app hx) h hv)
  · rintro Γ _ hΓ ⟨N', rfl⟩
    exact lam_bad (by simp only [gCallK, gCall, G.gCons, G.gNil, w Γ _ hΓ, R.bind_ok, pm1, List.length_cons, List.length_nil, if_true]; exact gre_bad (sq_app hx) h hv)
  · rintro Γ _ hΓ ⟨N', rfl⟩
    exact lam_bad (by simp only [gCallK, gCall, G.gCons, G.gNil, w Γ _ hΓ, R.bind_ok, pm1, List.length_cons, List.length_nil, if_true]; exact lea_bad (sq_app hx) h hv)
/-! ### equal lists of words and pairs -/
structure Ok1 (d : D) : Prop where
  ex : ∃ p, toPy d = some p ∧ PyData.canLay0 p = true ∧ PyData.depth p ≤ 1
theorem ok1_l : ∀ l : List D, (∀ d ∈ l, Ok1 d) → ∃ ps, toPyL l = some ps ∧ PyData.canLayAll0 ps = true ∧ PyData.depthAll ps ≤ 1
  | [], _ => ⟨[], by simp [toPyL], by simp [PyData.canLayAll0], by simp [PyData.depthAll]⟩
  | d :: ds, h => by
    obtain ⟨p, e1, c1, d1⟩ := (h d List.mem_cons_self).ex
    obtain ⟨ps, e2, c2, d2⟩ := ok1_l ds fun x hx => h x (List.mem_cons_of_mem _ hx)
    refine ⟨p :: ps, by simp [toPyL, e1, e2], by simp [PyData.canLayAll0, c1, c2], ?_⟩
    simp only [PyData.depthAll]
    omega
theorem eq_ok1 (l : List D) (h : ∀ d ∈ l, Ok1 d) (M : Stor) : dEq (.lst l) (.lst l) M = .ok (.bl true) M := by
  obtain ⟨ps, e, c, d⟩ := ok1_l l h
  have t : topPy (.lst l) M = some (.list ps) := SL.top (.inl rfl) e
  rw [eq_lst]
  refine eqD_self t t ?_
  simp [SeqAt.shaped, PyData.canLay0, c, PyData.depth]
  omega
theorem ok1_P (o : Option Rat) : Ok1 (PQ o) := ⟨pyP o, by simp [PQ, toPy, toPyL, pyP], by simp [pyP, PyData.canLay0, PyData.canLayAll0], by simp [pyP, PyData.depth, PyData.depthAll]⟩
theorem ok1_str (s : Str) (hs : PyData.strOk s = true) (l : List D) (ps : List PyData) (e : toPyL l = some ps) (c : PyData.canLayAll0 ps = true) (d : PyData.depthAll ps = 0) : Ok1 (.tup (.str s :: l)) :=
  ⟨.tuple (.str s :: ps), by simp [toPy, toPyL, e], by simp [PyData.canLay0, PyData.canLayAll0, c, hs], by simp [PyData.depth, PyData.depthAll, d]⟩
theorem ok1_T (os : List (Option Rat)) : Ok1 (totD os) := by
  unfold totD
  cases resT os with
  | none => exact ok1_str _ (by decide +kernel) [] [] (by simp [toPyL]) (by simp [PyData.canLayAll0]) (by simp [PyData.depthAll])
  | some o => exact ok1_P o
theorem ok1_B (k : Nat) : Ok1 (badT (k : Nat)) := ok1_str _ (by decide +kernel) [.int (k : Nat)] [.int (k : Nat)] (by simp [toPyL, toPy]) (by simp [PyData.canLayAll0, PyData.canLay0]) (by simp [PyData.depthAll, PyData.depth])
theorem tup_ok {x : D} {M : Stor} {l : List D} (h : SL x M l) : fTuple [x] M = .ok (.tup l) M := by
  rcases h with rfl | ⟨k, rfl, hk⟩
  · rfl
  · show (match seqOf (.ref k) M with | some l => R.ok (D.tup l) M | none => .no) = _
    have : seqOf (.ref k) M = some l := by unfold seqOf lstOf; simp only [hk]
    rw [this]
theorem right_ok {px x : D} {M : Stor} {xs : List D} {os : List (Option Rat)} (hp : SL px M (os.map PQ)) (hx : SL x M xs) (h : VL xs os) (hn : HL os) (hl : os.length ≤ 20) : f__law_right [px, x] M = .ok (.bl true) M := by
  have lt := lawtot_ok hp hn hl
  have f1 := far_ok hp hn true
  have f2 := far_ok hp hn false
  obtain ⟨s, rs⟩ := reprL_ok hx h hn hl
  have a1 := asked_ok hx.sq h hn hl
  have tp := tup_ok hx
  have a2 := asked_ok (x := .tup xs) (M := M) (.inl rfl) h hn hl
  have eq := eq_ok1 [totD os, PQ (resG os), PQ (resL os), totD os, PQ (resG os), PQ (resL os)] (fun d hd => by
    simp only [List.mem_cons, List.not_mem_nil, or_false] at hd
    rcases hd with rfl | rfl | rfl | rfl | rfl | rfl
    · exact ok1_T os
    · exact ok1_P _
    · exact ok1_P _
    · exact ok1_T os
    · exact ok1_P _
    · exact ok1_P _) M
  have r2 : dMul (.lst [totD os, PQ (far true os), PQ (far false os)]) (.int 2) M = .ok (.lst [totD os, PQ (resG os), PQ (resL os), totD os, PQ (resG os), PQ (resL os)]) M := rfl
  have es : dEq (.str s) (.str s) M = .ok (.bl true) M := by
    show R.ok (D.bl (decide (s = s))) M = _
    simp
  generalize totD os = tt at *
  generalize PQ (resG os) = gg at *
  generalize PQ (resL os) = ll at *
  simp only [f__law_right, b__law_right, gFn, gSeq, gSkip, gRet, gRetN, gExpr, gSet, gIf, gAug, gAsg, gPar2, gPar3, gVar, gC, gBin, gUn, gTr, gAnd, gOr, gNot, gAndV, gOrV, gNotV, gIfE, gCall, G.gCons, G.gNil, G.gTup, G.gLst, gLstM, gSl, goSome, goNone, R.bind_ok, R.bind_ex, R.bind_no, R.bindS_ok, R.bindS_ex, R.bindS_no, outS_nx, outS_rt, outS_ex, orR_ok, orR_ex, orR_no, ggName, ggSub, List.getElem?_cons_zero, List.getElem?_cons_succ, List.set_cons_zero, List.set_cons_succ, List.map_cons, List.map_nil, List.length_cons, List.length_nil, List.replicate, List.append_nil, List.nil_append, List.cons_append, Nat.reduceAdd, Nat.reduceSub, Nat.reduceLeDiff, Nat.reduceLT, if_true, if_false, not_false_eq_true, Bool.false_eq_true, Bool.true_eq_false, Bool.not_true, Bool.not_false, decide_true, decide_false, decide_eq_true_eq, reduceIte, reduceCtorEq, eAdd, eAddI, eSub, eLt, eLe, eGt, eGe, eEq, eNe, eEqS, eNeS, eTru, eNeg, eAbs, eInt, eIntB, eLenL, eLenT, lt, f1, f2, r2, rs, a1, tp, a2, eq, es]
end K05

namespace K05
open PySem L2 G
/-! ### drawing, with more behind the store -/
def LowS (M : Stor) : Prop := ∀ m ∈ M, m.low M.length = true
mutual
theorem low_firm (n : Nat) : ∀ {d : D}, d.firm = true → d.low n = true
  | .ref _, h => by simp [D.firm] at h
  | .tup l, h => by simp only [D.firm] at h; simpa only [D.low] using lowL_firm n h
  | .lst l, h => by simp only [D.firm] at h; simpa only [D.low] using lowL_firm n h
  | .lck l, h => by simp only [D.firm] at h; simpa only [D.low] using lowL_firm n h
  | .ins c l, h => by simp only [D.firm] at h; simpa only [D.low] using lowL_firm n h
  | .dct ks l, h => by simp only [D.firm] at h; simpa only [D.low] using lowL_firm n h
  | .exc c o l, h => by simp only [D.firm] at h; simpa only [D.low] using lowL_firm n h
  | .lam f c q us l, h => by simp only [D.firm] at h; simpa only [D.low] using lowL_firm n h
  | .non, _ => by simp only [D.low]
  | .bl _, _ => by simp only [D.low]
  | .int _, _ => by simp only [D.low]
  | .str _, _ => by simp only [D.low]
  | .ty _, _ => by simp only [D.low]
  | .cls _, _ => by simp only [D.low]
theorem lowL_firm (n : Nat) : ∀ {l : List D}, firmL l = true → lowL n l = true
  | [], _ => by simp only [lowL]
  | d :: ds, h => by
    simp only [firmL, Bool.and_eq_true] at h
    simp only [lowL, low_firm n h.1, lowL_firm n h.2, Bool.and_self]
end
/-- the store holds lists of firm things -/
def FirmS (M : Stor) : Prop := ∀ m ∈ M, ∃ l, m = .lst l ∧ firmL l = true
theorem FirmS.low {M : Stor} (h : FirmS M) : LowS M := fun m hm => by
  obtain ⟨l, rfl, hl⟩ := h m hm
  show lowL _ l = true
  exact lowL_firm _ hl
theorem FirmS.app {M N : Stor} (h : FirmS M) (g : FirmS N) : FirmS (M ++ N) := fun m hm => (List.mem_append.mp hm).elim (h m) (g m)
theorem firm_ints : ∀ zs : List Int, firmL (zs.map D.int) = true
  | [] => by simp [firmL]
  | z :: zs => by simp [firmL, D.firm, firm_ints zs]
theorem low_ints (n : Nat) : ∀ zs : List Int, lowL n (zs.map D.int) = true
  | [] => by simp [lowL]
  | z :: zs => by simp [lowL, D.low, low_ints n zs]
theorem frz_blL {M M3 : Stor} {m : MO} {r : Bool} (hl : M3.length = M.length) (lw : LowS M3) : frz M (.ok (.bl r) (M3 ++ [m])) = .ok (.bl r) M3 := by
  unfold frz
  have e : ¬ (M3 ++ [m]).length = M.length := by simp [hl]
  have t : (M3 ++ [m]).take M.length = M3 := by rw [← hl]; simp
  have kp : Kept M (M3 ++ [m]) := .inr (by rw [t, ← hl]; exact lw)
  simp only [e, if_false, kp, if_true, frzD, t]
theorem penD (zs : List Int) (h : zs.length ≤ 63) : ∃ M k, f__law_pen [.lck (zs.map D.int)] [] = .ok (.ref k) M ∧ Pen M k zs 0 ∧ FirmS M := by
  have c : cutD (zs.map D.int) none (some 63) = zs.map D.int := by
    have z := HT.sIx_nat (zs.map D.int).length (zs.map D.int).length 63
    unfold cutD
    rw [HT.sIx_none, show ((63 : Int)) = ((63 : Nat) : Int) from rfl, z]
    simp only [List.drop_zero, List.length_map]
    rw [List.take_of_length_le]
    rw [List.length_map]; omega
  refine ⟨[.lst [.lst (zs.map D.int), .int 0, .int 0]], 0, ?_, ⟨0, rfl⟩, fun m hm => ?_⟩
  · have sl : dSl (.lck (zs.map D.int)) none (some 63) [] = .ok (.lst (zs.map D.int)) [] := by
      show R.ok (D.lst (cutD (zs.map D.int) none (some 63))) [] = _
      rw [c]
    have li : fList [.lst (zs.map D.int)] [] = .ok (.lst (zs.map D.int)) [] := rfl
    simp only [f__law_pen, b__law_pen, gFn, gSeq, gSkip, gRet, gRetN, gExpr, gSet, gIf, gAug, gAsg, gPar2, gPar3, gVar, gC, gBin, gUn, gTr, gAnd, gOr, gNot, gAndV, gOrV, gNotV, gIfE, gCall, G.gCons, G.gNil, G.gTup, G.gLst, gLstM, gSl, goSome, goNone, R.bind_ok, R.bind_ex, R.bind_no, R.bindS_ok, R.bindS_ex, R.bindS_no, outS_nx, outS_rt, outS_ex, orR_ok, orR_ex, orR_no, ggName, ggSub, List.getElem?_cons_zero, List.getElem?_cons_succ, List.set_cons_zero, List.set_cons_succ, List.map_cons, List.map_nil, List.length_cons, List.length_nil, List.replicate, List.append_nil, List.nil_append, List.cons_append, Nat.reduceAdd, Nat.reduceSub, Nat.reduceLeDiff, Nat.reduceLT, if_true, if_false, not_false_eq_true, Bool.false_eq_true, Bool.true_eq_false, Bool.not_true, Bool.not_false, decide_true, decide_false, decide_eq_true_eq, reduceIte, reduceCtorEq, eAdd, eAddI, eSub, eLt, eLe, eGt, eGe, eEq, eNe, eEqS, eNeS, eTru, eNeg, eAbs, eInt, eIntB, eLenL, eLenT, sl, li]
  · simp only [List.mem_cons, List.not_mem_nil, or_false] at hm
    subst hm
    exact ⟨_, rfl, by simp [firmL, D.firm, firm_ints]⟩

theorem pen_lt {M : Stor} {k : Nat} {zs : List Int} {a : Nat} (p : Pen M k zs a) : k < M.length := by
  obtain ⟨g, e⟩ := p; exact (List.getElem?_eq_some_iff.mp e).1
theorem pen_app {M : Stor} {k : Nat} {zs : List Int} {a : Nat} (p : Pen M k zs a) (T : Stor) : Pen (M ++ T) k zs a := by
  obtain ⟨g, e⟩ := p
  exact ⟨g, by rw [List.getElem?_append_left (List.getElem?_eq_some_iff.mp e).1]; exact e⟩
/-- one draw's step on the store -/
def Stp (M M' : Stor) (k : Nat) (zs : List Int) (a : Nat) : Prop := Pen M' k zs a ∧ M'.length = M.length ∧ (FirmS M → FirmS M') ∧ ∀ i, i ≠ k → M'[i]? = M[i]?
theorem Stp.tr {M M1 M2 : Stor} {k : Nat} {zs : List Int} {a b : Nat} (h : Stp M M1 k zs a) (g : Stp M1 M2 k zs b) : Stp M M2 k zs b :=
  ⟨g.1, g.2.1.trans h.2.1, fun l => g.2.2.1 (h.2.2.1 l), fun i hi => (g.2.2.2 i hi).trans (h.2.2.2 i hi)⟩
theorem drawT {M : Stor} {k : Nat} {zs : List Int} {at_ : Nat} {many : Int} (h : Pen M k zs at_) (T : Stor) (ha : at_ ≤ 100000) (hm0 : 0 < many) (hm : many < 2 ^ 60) :
    ∃ r at' M', f__law_draw [.ref k, .int many] (M ++ T) = .ok (.int r) (M' ++ T) ∧ 0 ≤ r ∧ r < many ∧ at' ≤ at_ + 1 ∧ Stp M M' k zs at' := by
  obtain ⟨r, t, M', e, r0, r1, ht, p, m, rfl⟩ := draw_ok (pen_app h T) ha hm0 hm
  have hk := pen_lt h
  rw [List.set_append_left _ _ hk] at e p
  have p' : Pen (M.set k m) k zs t := by
    obtain ⟨g, e⟩ := p
    rw [List.getElem?_append_left (by simpa using hk)] at e
    exact ⟨g, e⟩
  refine ⟨r, t, M.set k m, e, r0, r1, ht, p', by simp, fun l x hx => ?_, fun i hi => by rw [List.getElem?_set_ne (Ne.symm hi)]⟩
  rcases List.mem_or_eq_of_mem_set hx with hx | hx
  · exact l x hx
  · subst hx
    obtain ⟨g, e⟩ := p'
    rw [List.getElem?_set_self hk] at e
    cases e
    exact ⟨_, rfl, by simp [firmL, D.firm, firm_ints]⟩
theorem pickT {M : Stor} {k : Nat} {zs : List Int} {at_ : Nat} {l : List D} (h : Pen M k zs at_) (T : Stor) (ha : at_ ≤ 100000) (h0 : 0 < l.length) (h1 : l.length < 1000) :
    ∃ d at' M', f__law_pick [.ref k, .lst l] (M ++ T) = .ok d (M' ++ T) ∧ d ∈ l ∧ at' ≤ at_ + 1 ∧ Stp M M' k zs at' := by
  obtain ⟨r, at', M', e, r0, r1, hat, hp⟩ := drawT (many := l.length) h T ha (by omega) (by omega)
  have hr : r.toNat < l.length := by omega
  have g : L2.atI l r = some l[r.toNat] := by
    have q := at_nat (l := l) (i := r.toNat) (List.getElem?_eq_getElem hr)
    rwa [Int.toNat_of_nonneg r0] at q
  refine ⟨l[r.toNat], at', M', ?_, List.getElem_mem hr, hat, hp⟩
  simp only [f__law_pick, b__law_pick, gFn, gSeq, gSkip, gRet, gRetN, gExpr, gSet, gIf, gAug, gAsg, gPar2, gPar3, gVar, gC, gBin, gUn, gTr, gAnd, gOr, gNot, gAndV, gOrV, gNotV, gIfE, gCall, G.gCons, G.gNil, G.gTup, G.gLst, gLstM, gSl, goSome, goNone, R.bind_ok, R.bind_ex, R.bind_no, R.bindS_ok, R.bindS_ex, R.bindS_no, outS_nx, outS_rt, outS_ex, orR_ok, orR_ex, orR_no, ggName, ggSub, List.getElem?_cons_zero, List.getElem?_cons_succ, List.set_cons_zero, List.set_cons_succ, List.map_cons, List.map_nil, List.length_cons, List.length_nil, List.replicate, List.append_nil, List.nil_append, List.cons_append, Nat.reduceAdd, Nat.reduceSub, Nat.reduceLeDiff, Nat.reduceLT, if_true, if_false, not_false_eq_true, Bool.false_eq_true, Bool.true_eq_false, Bool.not_true, Bool.not_false, decide_true, decide_false, decide_eq_true_eq, reduceIte, reduceCtorEq, eAdd, eAddI, eSub, eLt, eLe, eGt, eGe, eEq, eNe, eEqS, eNeS, eTru, eNeg, eAbs, eInt, eIntB, eLenL, eLenT, e, ix_lst, g]
theorem fracT {M : Stor} {k : Nat} {zs : List Int} {at_ : Nat} (h : Pen M k zs at_) (T : Stor) (ha : at_ ≤ 90000) :
    ∃ (a : Int) (b : Nat) (at' : Nat) (M' : Stor), f__law_fraction [.ref k] (M ++ T) = .ok (pairD a b) (M' ++ T) ∧ Fx a b ∧ at' ≤ at_ + 5 ∧ Stp M M' k zs at' := by
  obtain ⟨r1, t1, M1, e1, r10, r11, h1, s1⟩ := drawT (many := 100) h T (by omega) (by decide) (by decide)
  obtain ⟨r2, t2, M2, e2, r20, r21, h2, s2⟩ := drawT (many := 100) s1.1 T (by omega) (by decide) (by decide)
  obtain ⟨r3, t3, M3, e3, r30, r31, h3, s3⟩ := drawT (many := 3) s2.1 T (by omega) (by decide) (by decide)
  obtain ⟨d4, t4, M4, e4, m4, h4, s4⟩ := pickT (l := topsD r1) s3.1 T (by omega) (by show 0 < 12; decide) (by show 12 < 1000; decide)
  obtain ⟨d5, t5, M5, e5, m5, h5, s5⟩ := pickT (l := botsD r2) s4.1 T (by omega) (by show 0 < 12; decide) (by show 12 < 1000; decide)
  obtain ⟨u, rfl, hu⟩ := tops_in r10 r11 m4
  obtain ⟨v, rfl, v0, v1⟩ := bots_in r20 r21 m5
  have hs : ∃ s : Int, (1 - 2 * (if r3 = 0 then 1 else 0) : Int) = s ∧ s.natAbs = 1 := by
    by_cases z : r3 = 0
    · exact ⟨-1, by simp [z], rfl⟩
    · exact ⟨1, by simp [z], rfl⟩
  obtain ⟨s, es, hs⟩ := hs
  have lv : v < 2 ^ 100 := Nat.lt_of_le_of_lt v1 (by decide +kernel)
  have lw := low_ok (s * u) v (M5 ++ T) v0 (Nat.lt_trans (big_of lv) (Nat.pow_lt_pow_right (by decide) (by decide)))
  obtain ⟨a, b, e, b0, bl, al, gc⟩ := lowP_ok (s * u) v0
  rw [e] at lw
  have hn : (s * u).natAbs = u.natAbs := by rw [Int.natAbs_mul, hs, Nat.one_mul]
  refine ⟨a, b, t5, M5, ?_, ⟨by omega, b0, by omega, gc⟩, by omega, (((s1.tr s2).tr s3).tr s4).tr s5⟩
  have q1 : powOk 10 9 = true := by decide
  have q2 : powOk 10 29 = true := by decide
  have q3 : (10 : Int) ^ (9 : Int).toNat = 1000000000 := by decide
  have q4 : (10 : Int) ^ (29 : Int).toNat = 100000000000000000000000000000 := by decide
  have q5 : (1000000000 : Int) + 7 = 1000000007 := by decide
  have m1 : ∀ z : Int, mulOk 2 z = true := fun z => mulOk_left (by decide)
  have m2 : mulOk s u = true := mulOk_left (by omega)
  refine fn_rt rfl ?_
  show b__law_fraction [some (.ref k), none, none, none] (M ++ T) = _
  unfold b__law_fraction
  rw [seq_nx (Γ1 := [some (.ref k), some (.lst (topsD r1)), none, none]) (M1 := M1 ++ T) (by
    simp only [gFn, gSeq, gSkip, gRet, gRetN, gExpr, gSet, gIf, gAug, gAsg, gPar2, gPar3, gVar, gC, gBin, gUn, gTr, gAnd, gOr, gNot, gAndV, gOrV, gNotV, gIfE, gCall, G.gCons, G.gNil, G.gTup, G.gLst, gLstM, gSl, goSome, goNone, R.bind_ok, R.bind_ex, R.bind_no, R.bindS_ok, R.bindS_ex, R.bindS_no, outS_nx, outS_rt, outS_ex, orR_ok, orR_ex, orR_no, ggName, ggSub, List.getElem?_cons_zero, List.getElem?_cons_succ, List.set_cons_zero, List.set_cons_succ, List.map_cons, List.map_nil, List.length_cons, List.length_nil, List.replicate, List.append_nil, List.nil_append, List.cons_append, Nat.reduceAdd, Nat.reduceSub, Nat.reduceLeDiff, Nat.reduceLT, if_true, if_false, not_false_eq_true, Bool.false_eq_true, Bool.true_eq_false, Bool.not_true, Bool.not_false, decide_true, decide_false, decide_eq_true_eq, reduceIte, reduceCtorEq, eAdd, eAddI, eSub, eLt, eLe, eGt, eGe, eEq, eNe, eEqS, eNeS, eTru, eNeg, eAbs, eInt, eIntB, eLenL, eLenT, ePow q1, ePow q2, q3, q4, q5, e1])]
  rw [seq_nx (Γ1 := [some (.ref k), some (.lst (topsD r1)), some (.lst (botsD r2)), none]) (M1 := M2 ++ T) (by
    simp only [gFn, gSeq, gSkip, gRet, gRetN, gExpr, gSet, gIf, gAug, gAsg, gPar2, gPar3, gVar, gC, gBin, gUn, gTr, gAnd, gOr, gNot, gAndV, gOrV, gNotV, gIfE, gCall, G.gCons, G.gNil, G.gTup, G.gLst, gLstM, gSl, goSome, goNone, R.bind_ok, R.bind_ex, R.bind_no, R.bindS_ok, R.bindS_ex, R.bindS_no, outS_nx, outS_rt, outS_ex, orR_ok, orR_ex, orR_no, ggName, ggSub, List.getElem?_cons_zero, List.getElem?_cons_succ, List.set_cons_zero, List.set_cons_succ, List.map_cons, List.map_nil, List.length_cons, List.length_nil, List.replicate, List.append_nil, List.nil_append, List.cons_append, Nat.reduceAdd, Nat.reduceSub, Nat.reduceLeDiff, Nat.reduceLT, if_true, if_false, not_false_eq_true, Bool.false_eq_true, Bool.true_eq_false, Bool.not_true, Bool.not_false, decide_true, decide_false, decide_eq_true_eq, reduceIte, reduceCtorEq, eAdd, eAddI, eSub, eLt, eLe, eGt, eGe, eEq, eNe, eEqS, eNeS, eTru, eNeg, eAbs, eInt, eIntB, eLenL, eLenT, ePow q1, ePow q2, q3, q4, q5, e2])]
  rw [seq_nx (Γ1 := [some (.ref k), some (.lst (topsD r1)), some (.lst (botsD r2)), some (.int s)]) (M1 := M3 ++ T) (by
    simp only [gFn, gSeq, gSkip, gRet, gRetN, gExpr, gSet, gIf, gAug, gAsg, gPar2, gPar3, gVar, gC, gBin, gUn, gTr, gAnd, gOr, gNot, gAndV, gOrV, gNotV, gIfE, gCall, G.gCons, G.gNil, G.gTup, G.gLst, gLstM, gSl, goSome, goNone, R.bind_ok, R.bind_ex, R.bind_no, R.bindS_ok, R.bindS_ex, R.bindS_no, outS_nx, outS_rt, outS_ex, orR_ok, orR_ex, orR_no, ggName, ggSub, List.getElem?_cons_zero, List.getElem?_cons_succ, List.set_cons_zero, List.set_cons_succ, List.map_cons, List.map_nil, List.length_cons, List.length_nil, List.replicate, List.append_nil, List.nil_append, List.cons_append, Nat.reduceAdd, Nat.reduceSub, Nat.reduceLeDiff, Nat.reduceLT, if_true, if_false, not_false_eq_true, Bool.false_eq_true, Bool.true_eq_false, Bool.not_true, Bool.not_false, decide_true, decide_false, decide_eq_true_eq, reduceIte, reduceCtorEq, eAdd, eAddI, eSub, eLt, eLe, eGt, eGe, eEq, eNe, eEqS, eNeS, eTru, eNeg, eAbs, eInt, eIntB, eLenL, eLenT, e3, eMul (m1 _)]
    rw [← es])]
  simp only [gFn, gSeq, gSkip, gRet, gRetN, gExpr, gSet, gIf, gAug, gAsg, gPar2, gPar3, gVar, gC, gBin, gUn, gTr, gAnd, gOr, gNot, gAndV, gOrV, gNotV, gIfE, gCall, G.gCons, G.gNil, G.gTup, G.gLst, gLstM, gSl, goSome, goNone, R.bind_ok, R.bind_ex, R.bind_no, R.bindS_ok, R.bindS_ex, R.bindS_no, outS_nx, outS_rt, outS_ex, orR_ok, orR_ex, orR_no, ggName, ggSub, List.getElem?_cons_zero, List.getElem?_cons_succ, List.set_cons_zero, List.set_cons_succ, List.map_cons, List.map_nil, List.length_cons, List.length_nil, List.replicate, List.append_nil, List.nil_append, List.cons_append, Nat.reduceAdd, Nat.reduceSub, Nat.reduceLeDiff, Nat.reduceLT, if_true, if_false, not_false_eq_true, Bool.false_eq_true, Bool.true_eq_false, Bool.not_true, Bool.not_false, decide_true, decide_false, decide_eq_true_eq, reduceIte, reduceCtorEq, eAdd, eAddI, eSub, eLt, eLe, eGt, eGe, eEq, eNe, eEqS, eNeS, eTru, eNeg, eAbs, eInt, eIntB, eLenL, eLenT, e4, e5, eMul m2, lw]
theorem frac_q {a : Int} {b : Nat} (h : Fx a b) : ∃ q : Rat, pairD a b = PQ (some q) ∧ rat a b = DQ (some q) ∧ HbE 97 (some q) := by
  have l : lim < 2 ^ 97 := by decide +kernel
  refine ⟨⟨a, b, by have := h.2.1; omega, h.2.2.2⟩, rfl, rfl, ⟨fun q e => ?_⟩⟩
  cases e
  exact ⟨Nat.lt_of_le_of_lt h.1 l, Nat.lt_of_le_of_lt h.2.2.1 l⟩
theorem madeQ {m : Nat} (o : Option Rat) [h : HbE m o] (hm : m ≤ 8000) (M : Stor) : f__law_made [PQ o] M = .ok (DQ o) M := by
  cases o with
  | none =>
    have z : decide (((botO none : Nat) : Int) = 0) = true := rfl
    have eo := endless_ok M
    simp only [f__law_made, b__law_made, gFn, gSeq, gSkip, gRet, gRetN, gExpr, gSet, gIf, gAug, gAsg, gPar2, gPar3, gVar, gC, gBin, gUn, gTr, gAnd, gOr, gNot, gAndV, gOrV, gNotV, gIfE, gCall, G.gCons, G.gNil, G.gTup, G.gLst, gLstM, gSl, goSome, goNone, R.bind_ok, R.bind_ex, R.bind_no, R.bindS_ok, R.bindS_ex, R.bindS_no, outS_nx, outS_rt, outS_ex, orR_ok, orR_ex, orR_no, ggName, ggSub, List.getElem?_cons_zero, List.getElem?_cons_succ, List.set_cons_zero, List.set_cons_succ, List.map_cons, List.map_nil, List.length_cons, List.length_nil, List.replicate, List.append_nil, List.nil_append, List.cons_append, Nat.reduceAdd, Nat.reduceSub, Nat.reduceLeDiff, Nat.reduceLT, if_true, if_false, not_false_eq_true, Bool.false_eq_true, Bool.true_eq_false, Bool.not_true, Bool.not_false, decide_true, decide_false, decide_eq_true_eq, reduceIte, reduceCtorEq, eAdd, eAddI, eSub, eLt, eLe, eGt, eGe, eEq, eNe, eEqS, eNeS, eTru, eNeg, eAbs, eInt, eIntB, eLenL, eLenT, p1, z, eo, DQ]
  | some q =>
    have hq := h.hb q rfl
    have d1 : ¬ ((botO (some q) : Nat) : Int) = 0 := den0 q
    have mk := make_q q.num M q.den_nz (nup hq.den hm)
    rw [Rat.mkRat_self] at mk
    have t1 : topO (some q) = q.num := rfl
    have b1 : botO (some q) = q.den := rfl
    rw [b1] at d1
    simp only [f__law_made, b__law_made, gFn, gSeq, gSkip, gRet, gRetN, gExpr, gSet, gIf, gAug, gAsg, gPar2, gPar3, gVar, gC, gBin, gUn, gTr, gAnd, gOr, gNot, gAndV, gOrV, gNotV, gIfE, gCall, G.gCons, G.gNil, G.gTup, G.gLst, gLstM, gSl, goSome, goNone, R.bind_ok, R.bind_ex, R.bind_no, R.bindS_ok, R.bindS_ex, R.bindS_no, outS_nx, outS_rt, outS_ex, orR_ok, orR_ex, orR_no, ggName, ggSub, List.getElem?_cons_zero, List.getElem?_cons_succ, List.set_cons_zero, List.set_cons_succ, List.map_cons, List.map_nil, List.length_cons, List.length_nil, List.replicate, List.append_nil, List.nil_append, List.cons_append, Nat.reduceAdd, Nat.reduceSub, Nat.reduceLeDiff, Nat.reduceLT, if_true, if_false, not_false_eq_true, Bool.false_eq_true, Bool.true_eq_false, Bool.not_true, Bool.not_false, decide_true, decide_false, decide_eq_true_eq, reduceIte, reduceCtorEq, eAdd, eAddI, eSub, eLt, eLe, eGt, eGe, eEq, eNe, eEqS, eNeS, eTru, eNeg, eAbs, eInt, eIntB, eLenL, eLenT, p0, p1, t1, b1, d1, mk, DQ]
/-- a drawn item -/
theorem item_ok {M : Stor} {k : Nat} {zs : List Int} {at_ : Nat} (h : Pen M k zs at_) (T : Stor) (ha : at_ ≤ 80000) :
    ∃ (o : Option Rat) (x : D) (at' : Nat) (M' : Stor), f__law_item [.ref k] (M ++ T) = .ok (.tup [PQ o, x]) (M' ++ T) ∧ VE x o ∧ HbE 97 o ∧ x.firm = true ∧ at' ≤ at_ + 8 ∧ Stp M M' k zs at' := by
  obtain ⟨r1, t1, M1, e1, r10, r11, h1, s1⟩ := drawT (many := 7) h T (by omega) (by decide) (by decide)
  have first : ∃ (o : Option Rat) (t2 : Nat) (M2 : Stor), HbE 97 o ∧ t2 ≤ t1 + 5 ∧ Stp M M2 k zs t2 ∧ gSet 1 (gIfE (gTr truD (gBin dEq (gCall f__law_draw (G.gCons (gVar 0) (G.gCons (gC (.int 7)) G.gNil))) (gC (.int 0)))) (G.gTup (G.gCons (gC (.int 1)) (G.gCons (gC (.int 0)) G.gNil))) (gCall f__law_fraction (G.gCons (gVar 0) G.gNil))) [some (.ref k), none] (M ++ T) = .nx [some (.ref k), some (PQ o)] (M2 ++ T) := by
    by_cases c : r1 = 0
    · refine ⟨none, t1, M1, ⟨fun q e => by cases e⟩, by omega, s1, ?_⟩
      simp only [gFn, gSeq, gSkip, gRet, gRetN, gExpr, gSet, gIf, gAug, gAsg, gPar2, gPar3, gVar, gC, gBin, gUn, gTr, gAnd, gOr, gNot, gAndV, gOrV, gNotV, gIfE, gCall, G.gCons, G.gNil, G.gTup, G.gLst, gLstM, gSl, goSome, goNone, R.bind_ok, R.bind_ex, R.bind_no, R.bindS_ok, R.bindS_ex, R.bindS_no, outS_nx, outS_rt, outS_ex, orR_ok, orR_ex, orR_no, ggName, ggSub, List.getElem?_cons_zero, List.getElem?_cons_succ, List.set_cons_zero, List.set_cons_succ, List.map_cons, List.map_nil, List.length_cons, List.length_nil, List.replicate, List.append_nil, List.nil_append, List.cons_append, Nat.reduceAdd, Nat.reduceSub, Nat.reduceLeDiff, Nat.reduceLT, if_true, if_false, not_false_eq_true, Bool.false_eq_true, Bool.true_eq_false, Bool.not_true, Bool.not_false, decide_true, decide_false, decide_eq_true_eq, reduceIte, reduceCtorEq, eAdd, eAddI, eSub, eLt, eLe, eGt, eGe, eEq, eNe, eEqS, eNeS, eTru, eNeg, eAbs, eInt, eIntB, eLenL, eLenT, e1, decide_eq_true c]
      rfl
    · obtain ⟨a, b, t2, M2, e2, f2, h2, s2⟩ := fracT s1.1 T (by omega)
      obtain ⟨q, eq, _, hq⟩ := frac_q f2
      rw [eq] at e2
      exact ⟨some q, t2, M2, hq, by omega, s1.tr s2, by simp only [gFn, gSeq, gSkip, gRet, gRetN, gExpr, gSet, gIf, gAug, gAsg, gPar2, gPar3, gVar, gC, gBin, gUn, gTr, gAnd, gOr, gNot, gAndV, gOrV, gNotV, gIfE, gCall, G.gCons, G.gNil, G.gTup, G.gLst, gLstM, gSl, goSome, goNone, R.bind_ok, R.bind_ex, R.bind_no, R.bindS_ok, R.bindS_ex, R.bindS_no, outS_nx, outS_rt, outS_ex, orR_ok, orR_ex, orR_no, ggName, ggSub, List.getElem?_cons_zero, List.getElem?_cons_succ, List.set_cons_zero, List.set_cons_succ, List.map_cons, List.map_nil, List.length_cons, List.length_nil, List.replicate, List.append_nil, List.nil_append, List.cons_append, Nat.reduceAdd, Nat.reduceSub, Nat.reduceLeDiff, Nat.reduceLT, if_true, if_false, not_false_eq_true, Bool.false_eq_true, Bool.true_eq_false, Bool.not_true, Bool.not_false, decide_true, decide_false, decide_eq_true_eq, reduceIte, reduceCtorEq, eAdd, eAddI, eSub, eLt, eLe, eGt, eGe, eEq, eNe, eEqS, eNeS, eTru, eNeg, eAbs, eInt, eIntB, eLenL, eLenT, e1, c, e2]⟩
  obtain ⟨o, t2, M2, ho, h2, s2, first⟩ := first
  obtain ⟨r3, t3, M3, e3, r30, r31, h3, s3⟩ := drawT (many := 3) s2.1 T (by omega) (by decide) (by decide)
  have md := madeQ o (by decide) (M3 ++ T)
  have plain : (r3 ≠ 0 ∨ o = none) → f__law_item [.ref k] (M ++ T) = .ok (.tup [PQ o, DQ o]) (M3 ++ T) := by
    intro hc
    refine fn_rt rfl ?_
    show b__law_item [some (.ref k), none] (M ++ T) = _
    unfold b__law_item
    rw [seq_nx first]
    rw [seq_nx (Γ1 := [some (.ref k), some (PQ o)]) (M1 := M3 ++ T) (by
      by_cases c : r3 = 0
      · have := hc.resolve_left (fun z => z c)
        subst this
        have z : decide (((botO none : Nat) : Int) = 0) = true := rfl
        simp only [gFn, gSeq, gSkip, gRet, gRetN, gExpr, gSet, gIf, gAug, gAsg, gPar2, gPar3, gVar, gC, gBin, gUn, gTr, gAnd, gOr, gNot, gAndV, gOrV, gNotV, gIfE, gCall, G.gCons, G.gNil, G.gTup, G.gLst, gLstM, gSl, goSome, goNone, R.bind_ok, R.bind_ex, R.bind_no, R.bindS_ok, R.bindS_ex, R.bindS_no, outS_nx, outS_rt, outS_ex, orR_ok, orR_ex, orR_no, ggName, ggSub, List.getElem?_cons_zero, List.getElem?_cons_succ, List.set_cons_zero, List.set_cons_succ, List.map_cons, List.map_nil, List.length_cons, List.length_nil, List.replicate, List.append_nil, List.nil_append, List.cons_append, Nat.reduceAdd, Nat.reduceSub, Nat.reduceLeDiff, Nat.reduceLT, if_true, if_false, not_false_eq_true, Bool.false_eq_true, Bool.true_eq_false, Bool.not_true, Bool.not_false, decide_true, decide_false, decide_eq_true_eq, reduceIte, reduceCtorEq, eAdd, eAddI, eSub, eLt, eLe, eGt, eGe, eEq, eNe, eEqS, eNeS, eTru, eNeg, eAbs, eInt, eIntB, eLenL, eLenT, e3, decide_eq_true c, p1, z]
      · simp only [gFn, gSeq, gSkip, gRet, gRetN, gExpr, gSet, gIf, gAug, gAsg, gPar2, gPar3, gVar, gC, gBin, gUn, gTr, gAnd, gOr, gNot, gAndV, gOrV, gNotV, gIfE, gCall, G.gCons, G.gNil, G.gTup, G.gLst, gLstM, gSl, goSome, goNone, R.bind_ok, R.bind_ex, R.bind_no, R.bindS_ok, R.bindS_ex, R.bindS_no, outS_nx, outS_rt, outS_ex, orR_ok, orR_ex, orR_no, ggName, ggSub, List.getElem?_cons_zero, List.getElem?_cons_succ, List.set_cons_zero, List.set_cons_succ, List.map_cons, List.map_nil, List.length_cons, List.length_nil, List.replicate, List.append_nil, List.nil_append, List.cons_append, Nat.reduceAdd, Nat.reduceSub, Nat.reduceLeDiff, Nat.reduceLT, if_true, if_false, not_false_eq_true, Bool.false_eq_true, Bool.true_eq_false, Bool.not_true, Bool.not_false, decide_true, decide_false, decide_eq_true_eq, reduceIte, reduceCtorEq, eAdd, eAddI, eSub, eLt, eLe, eGt, eGe, eEq, eNe, eEqS, eNeS, eTru, eNeg, eAbs, eInt, eIntB, eLenL, eLenT, e3, c])]
    simp only [gFn, gSeq, gSkip, gRet, gRetN, gExpr, gSet, gIf, gAug, gAsg, gPar2, gPar3, gVar, gC, gBin, gUn, gTr, gAnd, gOr, gNot, gAndV, gOrV, gNotV, gIfE, gCall, G.gCons, G.gNil, G.gTup, G.gLst, gLstM, gSl, goSome, goNone, R.bind_ok, R.bind_ex, R.bind_no, R.bindS_ok, R.bindS_ex, R.bindS_no, outS_nx, outS_rt, outS_ex, orR_ok, orR_ex, orR_no, ggName, ggSub, List.getElem?_cons_zero, List.getElem?_cons_succ, List.set_cons_zero, List.set_cons_succ, List.map_cons, List.map_nil, List.length_cons, List.length_nil, List.replicate, List.append_nil, List.nil_append, List.cons_append, Nat.reduceAdd, Nat.reduceSub, Nat.reduceLeDiff, Nat.reduceLT, if_true, if_false, not_false_eq_true, Bool.false_eq_true, Bool.true_eq_false, Bool.not_true, Bool.not_false, decide_true, decide_false, decide_eq_true_eq, reduceIte, reduceCtorEq, eAdd, eAddI, eSub, eLt, eLe, eGt, eGe, eEq, eNe, eEqS, eNeS, eTru, eNeg, eAbs, eInt, eIntB, eLenL, eLenT, md]
  by_cases c : r3 = 0
  · cases o with
    | none => exact ⟨none, rat 1 0, t3, M3, plain (.inr rfl), .q none, ho, rfl, by omega, s2.tr s3⟩
    | some q =>
      have hq := ho.hb q rfl
      have d1 : ¬ ((botO (some q) : Nat) : Int) = 0 := den0 q
      have t1' : topO (some q) = q.num := rfl
      have b1 : botO (some q) = q.den := rfl
      rw [b1] at d1
      have hi : HbE 97 (some (q.num : Rat)) := ⟨fun z e => by cases e; exact hb_int hq.num (by decide)⟩
      have ep : pairD q.num 1 = PQ (some (q.num : Rat)) := by
        show pairD q.num 1 = pairD ((q.num : Rat)).num (((q.num : Rat)).den : Nat)
        rw [Rat.num_intCast, Rat.den_intCast]; rfl
      refine ⟨some (q.num : Rat), .int q.num, t3, M3, ?_, .n _, hi, rfl, by omega, s2.tr s3⟩
      rw [← ep]
      refine fn_rt rfl ?_
      show b__law_item [some (.ref k), none] (M ++ T) = _
      unfold b__law_item
      rw [seq_nx first]
      refine seq_rt ?_
      have i0' : dIx (pairD q.num 1) (.int 0) (M3 ++ T) = .ok (.int q.num) (M3 ++ T) := rfl
      simp only [gFn, gSeq, gSkip, gRet, gRetN, gExpr, gSet, gIf, gAug, gAsg, gPar2, gPar3, gVar, gC, gBin, gUn, gTr, gAnd, gOr, gNot, gAndV, gOrV, gNotV, gIfE, gCall, G.gCons, G.gNil, G.gTup, G.gLst, gLstM, gSl, goSome, goNone, R.bind_ok, R.bind_ex, R.bind_no, R.bindS_ok, R.bindS_ex, R.bindS_no, outS_nx, outS_rt, outS_ex, orR_ok, orR_ex, orR_no, ggName, ggSub, List.getElem?_cons_zero, List.getElem?_cons_succ, List.set_cons_zero, List.set_cons_succ, List.map_cons, List.map_nil, List.length_cons, List.length_nil, List.replicate, List.append_nil, List.nil_append, List.cons_append, Nat.reduceAdd, Nat.reduceSub, Nat.reduceLeDiff, Nat.reduceLT, if_true, if_false, not_false_eq_true, Bool.false_eq_true, Bool.true_eq_false, Bool.not_true, Bool.not_false, decide_true, decide_false, decide_eq_true_eq, reduceIte, reduceCtorEq, eAdd, eAddI, eSub, eLt, eLe, eGt, eGe, eEq, eNe, eEqS, eNeS, eTru, eNeg, eAbs, eInt, eIntB, eLenL, eLenT, e3, decide_eq_true c, p0, p1, t1', b1, d1, i0', not_false_eq_true, Bool.not_false, decide_false]
  · exact ⟨o, DQ o, t3, M3, plain (.inl c), .q o, ho, by cases o <;> rfl, by omega, s2.tr s3⟩
end K05

namespace K05
open PySem L2 G
/-! ### wrong items -/
def oddL : List D := [.non, .bl true, .str "1", .str "endless", .lst [.int 1], .tup [.int 1, .int 2], .dct [] [], .str "", .bl false]
theorem odd_in {v : D} (h : v ∈ oddL) : Odd v := by
  simp only [oddL, List.mem_cons, List.not_mem_nil, or_false] at h
  rcases h with rfl | rfl | rfl | rfl | rfl | rfl | rfl | rfl | rfl <;> exact ⟨fun _ => rfl, fun _ => rfl⟩
theorem frz_true {M M3 : Stor} {m : MO} {r : Bool} (hl : M3.length = M.length) (lw : FirmS M3) : frz M (.ok (.bl r) (M3 ++ [m])) = .ok (.bl r) M3 := frz_blL hl lw.low
theorem dMul_lst {l : List D} {k : Nat} {M : Stor} (h : l.length * k ≤ 1000000) (hk : k ≤ 1000000) : dMul (.lst l) (.int (k : Nat)) M = .ok (.lst (List.replicate k l).flatten) M := by
  show orR .no (dMulL _ _ _) = _
  unfold dMulL
  simp only [lstOwn]
  rw [if_pos ⟨by omega, by omega, by rw [Int.toNat_natCast]; exact h⟩, Int.toNat_natCast]
  rfl
theorem dAdd_ref {q : Nat} {l m : List D} {M : Stor} (e : M[q]? = some (.lst l)) (h : l.length + m.length ≤ 1000000) : dAdd (.ref q) (.lst m) M = .ok (.lst (l ++ m)) M := by
  have lw : lstOwn (.ref q) M = some l := by unfold lstOwn; simp only [e]
  show orR (dAddI _ _ _) (orR (dAddS _ _ _) (orR (dAddL _ _ _) _)) = _
  unfold dAddL
  rw [lw]
  simp only [lstOwn]
  rw [if_pos h]
  rfl
theorem rep6 (t : D) (M : Stor) : dMul (.lst [t]) (.int 6) M = .ok (.lst [t, t, t, t, t, t]) M := dMul_lst (k := 6) (l := [t]) (by show 1 * 6 ≤ 1000000; omega) (by omega)
theorem bent_st {k q n c : Nat} {v d e : D} {M M' : Stor} (i : Int) (e3 : f__law_draw [.ref k, .int 2] M = .ok (.int i) M') (g4 : dMul (.lst [.non]) (.int i) M' = .ok e M') (g5 : dAdd (.ref c) e M' = .ok d M') :
    gSet 2 (gBin dAdd (gVar 2) (gBin dMul (G.gLst (G.gCons (gC .non) G.gNil)) (gCall f__law_draw (G.gCons (gVar 0) (G.gCons (gC (.int 2)) G.gNil))))) [some (.ref k), some (.ref q), some (.ref c), some (.int n), some v] M = .nx [some (.ref k), some (.ref q), some d, some (.int n), some v] M' := by
  simp only [gFn, gSeq, gSkip, gRet, gRetN, gExpr, gSet, gIf, gAug, gAsg, gPar2, gPar3, gVar, gC, gBin, gUn, gTr, gAnd, gOr, gNot, gAndV, gOrV, gNotV, gIfE, gCall, G.gCons, G.gNil, G.gTup, G.gLst, gLstM, gSl, goSome, goNone, R.bind_ok, R.bind_ex, R.bind_no, R.bindS_ok, R.bindS_ex, R.bindS_no, outS_nx, outS_rt, outS_ex, orR_ok, orR_ex, orR_no, ggName, ggSub, List.getElem?_cons_zero, List.getElem?_cons_succ, List.set_cons_zero, List.set_cons_succ, List.map_cons, List.map_nil, List.length_cons, List.length_nil, List.replicate, List.append_nil, List.nil_append, List.cons_append, Nat.reduceAdd, Nat.reduceSub, Nat.reduceLeDiff, Nat.reduceLT, if_true, if_false, not_false_eq_true, Bool.false_eq_true, Bool.true_eq_false, Bool.not_true, Bool.not_false, decide_true, decide_false, decide_eq_true_eq, reduceIte, reduceCtorEq, eAdd, eAddI, eSub, eLt, eLe, eGt, eGe, eEq, eNe, eEqS, eNeS, eTru, eNeg, eAbs, eInt, eIntB, eLenL, eLenT, e3, g4, g5]
theorem bent_ok {N U : Stor} {k q : Nat} {zs : List Int} {at_ : Nat} {xs : List D} {os : List (Option Rat)} (p : Pen N k zs at_) (ha : at_ ≤ 70000) (fN : FirmS N) (fU : FirmS U) (hq : (N ++ U)[q]? = some (.lst xs)) (h : VL xs os) (hl : os.length ≤ 20) :
    ∃ N' at', f__law_bent_right [.ref k, .ref q] (N ++ U) = .ok (.bl true) (N' ++ U) ∧ at' ≤ at_ + 3 ∧ Stp N N' k zs at' := by
  have hlen := h.len
  obtain ⟨r, t1, N1, e1, r0, r1, h1, s1⟩ := drawT (many := (xs.length : Nat) + 1) p (U ++ [.lst xs]) (by omega) (by omega) (by omega)
  obtain ⟨v, t2, N2, e2, mv, h2, s2⟩ := pickT (l := oddL) s1.1 (U ++ [.lst xs]) (by omega) (by decide) (by decide)
  obtain ⟨n, rfl⟩ : ∃ n : Nat, r = n := ⟨r.toNat, by omega⟩
  obtain ⟨j, t3, N3, e3, j0, j1, h3, s3⟩ := drawT (many := 2) s2.1 (U ++ [.lst (xs.take n ++ [v] ++ xs.drop n)]) (by omega) (by decide) (by decide)
  have st := (s1.tr s2).tr s3
  have hv := odd_in mv
  have Ln : (N ++ U).length = N.length + U.length := List.length_append
  have l1 : N1.length = N.length := s1.2.1
  have l2 : N2.length = N.length := s2.2.1.trans l1
  have l3 : N3.length = N.length := s3.2.1.trans l2
  -- the new list
  have g1 : fListM [.ref q] (N ++ U) = .ok (.ref (N.length + U.length)) (N ++ (U ++ [.lst xs])) := by
    have : seqOf (.ref q) (N ++ U) = some xs := by unfold seqOf lstOf; simp only [hq]
    show (match seqOf (.ref q) (N ++ U) with | some l => R.ok (D.ref (N ++ U).length) ((N ++ U) ++ [MO.lst l]) | none => .no) = _
    rw [this, Ln]
    dsimp only
    rw [List.append_assoc]
  have g2 : fLen [.ref q] (N ++ (U ++ [.lst xs])) = .ok (.int (xs.length : Nat)) (N ++ (U ++ [.lst xs])) := by
    have hq' : (N ++ (U ++ [MO.lst xs]))[q]? = some (.lst xs) := by
      rw [← List.append_assoc, List.getElem?_append_left (List.getElem?_eq_some_iff.mp hq).1]; exact hq
    show (match seqOf (.ref q) (N ++ (U ++ [.lst xs])) with | some l => R.ok (D.int l.length) _ | none => .no) = _
    have : seqOf (.ref q) (N ++ (U ++ [.lst xs])) = some xs := by unfold seqOf lstOf; simp only [hq']
    rw [this]
  have at_ : ∀ (N' : Stor) (l : List D), N'.length = N.length → (N' ++ (U ++ [MO.lst l]))[N.length + U.length]? = some (.lst l) := by
    intro N' l hN
    rw [← List.append_assoc, List.getElem?_append_right (by rw [List.length_append, hN]; omega)]
    simp [hN]
  have lo : ∀ (N' : Stor) (l : List D), N'.length = N.length → lstOf (.ref (N.length + U.length)) (N' ++ (U ++ [MO.lst l])) = some l := by
    intro N' l hN
    unfold lstOf; simp only [at_ N' l hN]
  have st_ : ∀ (N' : Stor) (l m : List D), N'.length = N.length → (N' ++ (U ++ [MO.lst l])).set (N.length + U.length) (.lst m) = N' ++ (U ++ [MO.lst m]) := by
    intro N' l m hN
    rw [← List.append_assoc, ← List.append_assoc, List.set_append_right _ _ (by rw [List.length_append, hN]; omega)]
    simp [hN]
  have g3 : mInsert (.ref (N.length + U.length)) [.int (n : Nat), v] (N2 ++ (U ++ [.lst xs])) = .ok .non (N2 ++ (U ++ [.lst (xs.take n ++ [v] ++ xs.drop n)])) := by
    unfold mInsert
    simp only [at_ N2 xs l2]
    rw [if_pos ⟨by omega, by omega, by omega⟩, st_ _ _ _ l2, Int.toNat_natCast]
  obtain ⟨i, rfl⟩ : ∃ i : Nat, j = i := ⟨j.toNat, by omega⟩
  have g4 : dMul (.lst [.non]) (.int (i : Nat)) (N3 ++ (U ++ [.lst (xs.take n ++ [v] ++ xs.drop n)])) = .ok (.lst (List.replicate i [D.non]).flatten) (N3 ++ (U ++ [.lst (xs.take n ++ [v] ++ xs.drop n)])) := by
    exact dMul_lst (by show 1 * i ≤ 1000000; omega) (by omega)
  have hnl : (List.replicate i [D.non]).flatten.length ≤ 1 := by
    have hi : i = 0 ∨ i = 1 := by omega
    rcases hi with rfl | rfl <;> simp
  generalize hX : xs.take n ++ [v] ++ xs.drop n = X at *
  have hXl : X.length ≤ xs.length + 1 := by rw [← hX]; simp; omega
  generalize hnn : (List.replicate i [D.non]).flatten = nones at *
  have g5 : dAdd (.ref (N.length + U.length)) (.lst nones) (N3 ++ (U ++ [.lst X])) = .ok (.lst (X ++ nones)) (N3 ++ (U ++ [.lst X])) := by
    exact dAdd_ref (at_ N3 X l3) (by omega)
  have eL : X ++ nones = xs.take n ++ v :: (xs.drop n ++ nones) := by rw [← hX]; simp
  have tn : (xs.take n).length = n := by rw [List.length_take]; omega
  have a1 := asked_bad (x := .lst (X ++ nones)) (M := N3 ++ (U ++ [.lst X])) (xs := xs.take n) (rest := xs.drop n ++ nones) (v := v) (.inr (.inl (by rw [eL]))) (h.take n) hv
  have a2 := asked_bad (x := .tup (X ++ nones)) (M := N3 ++ (U ++ [.lst X])) (xs := xs.take n) (rest := xs.drop n ++ nones) (v := v) (.inl (by rw [eL])) (h.take n) hv
  rw [tn] at a1 a2
  have tp : fTuple [.lst (X ++ nones)] (N3 ++ (U ++ [.lst X])) = .ok (.tup (X ++ nones)) (N3 ++ (U ++ [.lst X])) := rfl
  have r6 : dMul (.lst [.tup [.str "ratio", .int (n : Nat)]]) (.int 6) (N3 ++ (U ++ [.lst X])) = .ok (.lst [badT (n : Nat), badT (n : Nat), badT (n : Nat), badT (n : Nat), badT (n : Nat), badT (n : Nat)]) (N3 ++ (U ++ [.lst X])) := rep6 _ _
  have eq := eq_ok1 [badT (n : Nat), badT (n : Nat), badT (n : Nat), badT (n : Nat), badT (n : Nat), badT (n : Nat)] (fun d hd => by
    simp only [List.mem_cons, List.not_mem_nil, or_false] at hd
    rcases hd with rfl | rfl | rfl | rfl | rfl | rfl <;> exact ok1_B n) (N3 ++ (U ++ [.lst X]))
  have lo2 := lo N2 xs l2
  unfold oddL at e2
  have body : gFn 2 5 b__law_bent_right [.ref k, .ref q] (N ++ U) = .ok (.bl true) ((N3 ++ U) ++ [.lst X]) := by
    refine fn_rt rfl ?_
    show b__law_bent_right [some (.ref k), some (.ref q), none, none, none] (N ++ U) = _
    unfold b__law_bent_right
    rw [seq_nx (Γ1 := [some (.ref k), some (.ref q), some (.ref (N.length + U.length)), some (.int (n : Nat)), none]) (M1 := N1 ++ (U ++ [.lst xs])) (by
      simp only [gFn, gSeq, gSkip, gRet, gRetN, gExpr, gSet, gIf, gAug, gAsg, gPar2, gPar3, gVar, gC, gBin, gUn, gTr, gAnd, gOr, gNot, gAndV, gOrV, gNotV, gIfE, gCall, G.gCons, G.gNil, G.gTup, G.gLst, gLstM, gSl, goSome, goNone, R.bind_ok, R.bind_ex, R.bind_no, R.bindS_ok, R.bindS_ex, R.bindS_no, outS_nx, outS_rt, outS_ex, orR_ok, orR_ex, orR_no, ggName, ggSub, List.getElem?_cons_zero, List.getElem?_cons_succ, List.set_cons_zero, List.set_cons_succ, List.map_cons, List.map_nil, List.length_cons, List.length_nil, List.replicate, List.append_nil, List.nil_append, List.cons_append, Nat.reduceAdd, Nat.reduceSub, Nat.reduceLeDiff, Nat.reduceLT, if_true, if_false, not_false_eq_true, Bool.false_eq_true, Bool.true_eq_false, Bool.not_true, Bool.not_false, decide_true, decide_false, decide_eq_true_eq, reduceIte, reduceCtorEq, eAdd, eAddI, eSub, eLt, eLe, eGt, eGe, eEq, eNe, eEqS, eNeS, eTru, eNeg, eAbs, eInt, eIntB, eLenL, eLenT, g1, g2, e1])]
    rw [seq_nx (Γ1 := [some (.ref k), some (.ref q), some (.ref (N.length + U.length)), some (.int (n : Nat)), some v]) (M1 := N2 ++ (U ++ [.lst xs])) (by
      simp only [gFn, gSeq, gSkip, gRet, gRetN, gExpr, gSet, gIf, gAug, gAsg, gPar2, gPar3, gVar, gC, gBin, gUn, gTr, gAnd, gOr, gNot, gAndV, gOrV, gNotV, gIfE, gCall, G.gCons, G.gNil, G.gTup, G.gLst, gLstM, gSl, goSome, goNone, R.bind_ok, R.bind_ex, R.bind_no, R.bindS_ok, R.bindS_ex, R.bindS_no, outS_nx, outS_rt, outS_ex, orR_ok, orR_ex, orR_no, ggName, ggSub, List.getElem?_cons_zero, List.getElem?_cons_succ, List.set_cons_zero, List.set_cons_succ, List.map_cons, List.map_nil, List.length_cons, List.length_nil, List.replicate, List.append_nil, List.nil_append, List.cons_append, Nat.reduceAdd, Nat.reduceSub, Nat.reduceLeDiff, Nat.reduceLT, if_true, if_false, not_false_eq_true, Bool.false_eq_true, Bool.true_eq_false, Bool.not_true, Bool.not_false, decide_true, decide_false, decide_eq_true_eq, reduceIte, reduceCtorEq, eAdd, eAddI, eSub, eLt, eLe, eGt, eGe, eEq, eNe, eEqS, eNeS, eTru, eNeg, eAbs, eInt, eIntB, eLenL, eLenT, e2])]
    rw [seq_nx (Γ1 := [some (.ref k), some (.ref q), some (.ref (N.length + U.length)), some (.int (n : Nat)), some v]) (M1 := N2 ++ (U ++ [.lst X])) (by
      simp only [gFn, gSeq, gSkip, gRet, gRetN, gExpr, gSet, gIf, gAug, gAsg, gPar2, gPar3, gVar, gC, gBin, gUn, gTr, gAnd, gOr, gNot, gAndV, gOrV, gNotV, gIfE, gCall, G.gCons, G.gNil, G.gTup, G.gLst, gLstM, gSl, goSome, goNone, R.bind_ok, R.bind_ex, R.bind_no, R.bindS_ok, R.bindS_ex, R.bindS_no, outS_nx, outS_rt, outS_ex, orR_ok, orR_ex, orR_no, ggName, ggSub, List.getElem?_cons_zero, List.getElem?_cons_succ, List.set_cons_zero, List.set_cons_succ, List.map_cons, List.map_nil, List.length_cons, List.length_nil, List.replicate, List.append_nil, List.nil_append, List.cons_append, Nat.reduceAdd, Nat.reduceSub, Nat.reduceLeDiff, Nat.reduceLT, if_true, if_false, not_false_eq_true, Bool.false_eq_true, Bool.true_eq_false, Bool.not_true, Bool.not_false, decide_true, decide_false, decide_eq_true_eq, reduceIte, reduceCtorEq, eAdd, eAddI, eSub, eLt, eLe, eGt, eGe, eEq, eNe, eEqS, eNeS, eTru, eNeg, eAbs, eInt, eIntB, eLenL, eLenT, gMtL, lo2, g3])]
    have q4 := bent_st (q := q) (n := n) (v := v) _ e3 g4 g5
    rw [seq_nx q4]
    rw [List.append_assoc]
    generalize X ++ nones = XX at *
    generalize N3 ++ (U ++ [MO.lst X]) = NN at *
    generalize badT (n : Nat) = bb at *
    simp only [gFn, gSeq, gSkip, gRet, gRetN, gExpr, gSet, gIf, gAug, gAsg, gPar2, gPar3, gVar, gC, gBin, gUn, gTr, gAnd, gOr, gNot, gAndV, gOrV, gNotV, gIfE, gCall, G.gCons, G.gNil, G.gTup, G.gLst, gLstM, gSl, goSome, goNone, R.bind_ok, R.bind_ex, R.bind_no, R.bindS_ok, R.bindS_ex, R.bindS_no, outS_nx, outS_rt, outS_ex, orR_ok, orR_ex, orR_no, ggName, ggSub, List.getElem?_cons_zero, List.getElem?_cons_succ, List.set_cons_zero, List.set_cons_succ, List.map_cons, List.map_nil, List.length_cons, List.length_nil, List.replicate, List.append_nil, List.nil_append, List.cons_append, Nat.reduceAdd, Nat.reduceSub, Nat.reduceLeDiff, Nat.reduceLT, if_true, if_false, not_false_eq_true, Bool.false_eq_true, Bool.true_eq_false, Bool.not_true, Bool.not_false, decide_true, decide_false, decide_eq_true_eq, reduceIte, reduceCtorEq, eAdd, eAddI, eSub, eLt, eLe, eGt, eGe, eEq, eNe, eEqS, eNeS, eTru, eNeg, eAbs, eInt, eIntB, eLenL, eLenT, a1, a2, tp, r6, eq]
  refine ⟨N3, t3, ?_, by omega, st⟩
  show frz (N ++ U) (gFn 2 5 b__law_bent_right [.ref k, .ref q] (N ++ U)) = _
  rw [body]
  exact frz_true (by rw [List.length_append, List.length_append, l3]) ((st.2.2.1 fN).app fU)
end K05

namespace K05
open PySem L2 G
/-! ### the law -/
theorem firmL_app {l m : List D} (h : firmL l = true) (g : firmL m = true) : firmL (l ++ m) = true := by
  induction l with
  | nil => exact g
  | cons d ds ih =>
    simp only [firmL, Bool.and_eq_true] at h
    simp only [List.cons_append, firmL, h.1, ih h.2, Bool.and_self]
theorem firmL_P (os : List (Option Rat)) : firmL (os.map PQ) = true := by
  induction os with
  | nil => rfl
  | cons o os ih => simp only [List.map_cons, firmL, firm_p, ih, Bool.and_self]
theorem HL.app {os ps : List (Option Rat)} (h : HL os) (g : HL ps) : HL (os ++ ps) := fun o ho => (List.mem_append.mp ho).elim (h o) (g o)
theorem HL.one {o : Option Rat} (h : HbE 97 o) : HL [o] := fun x hx => by
  simp only [List.mem_cons, List.not_mem_nil, or_false] at hx; subst hx; exact h
theorem two1 (N T : Stor) (a b : MO) : (N ++ (T ++ [a, b]))[N.length + T.length]? = some a := by
  rw [← List.append_assoc, List.getElem?_append_right (by rw [List.length_append]; omega)]; simp
theorem two2 (N T : Stor) (a b : MO) : (N ++ (T ++ [a, b]))[N.length + T.length + 1]? = some b := by
  rw [← List.append_assoc, List.getElem?_append_right (by rw [List.length_append]; omega)]
  have : N.length + T.length + 1 - (N ++ T).length = 1 := by rw [List.length_append]; omega
  rw [this]; rfl
theorem set1 (N T : Stor) (a b c : MO) : (N ++ (T ++ [a, b])).set (N.length + T.length) c = N ++ (T ++ [c, b]) := by
  rw [← List.append_assoc, ← List.append_assoc, List.set_append_right _ _ (by rw [List.length_append]; omega)]; simp
theorem set2 (N T : Stor) (a b c : MO) : (N ++ (T ++ [a, b])).set (N.length + T.length + 1) c = N ++ (T ++ [a, c]) := by
  rw [← List.append_assoc, ← List.append_assoc, List.set_append_right _ _ (by rw [List.length_append]; omega)]
  have : N.length + T.length + 1 - (N ++ T).length = 1 := by rw [List.length_append]; omega
  rw [this]; rfl
theorem put1 {N T : Stor} {l m : List D} {d : D} {q : Nat} (hq : q = N.length + T.length) (h : l.length ≤ 100) : mAppend (.ref q) [d] (N ++ (T ++ [.lst l, .lst m])) = .ok .non (N ++ (T ++ [.lst (l ++ [d]), .lst m])) := by
  subst hq
  unfold mAppend
  simp only [two1]
  rw [if_pos (by omega), set1]
theorem put2 {N T : Stor} {l m : List D} {d : D} {q : Nat} (hq : q = N.length + T.length) (h : m.length ≤ 100) : mAppend (.ref (q + 1)) [d] (N ++ (T ++ [.lst l, .lst m])) = .ok .non (N ++ (T ++ [.lst l, .lst (m ++ [d])])) := by
  subst hq
  unfold mAppend
  simp only [two2]
  rw [if_pos (by omega), set2]
theorem lo1 {N T : Stor} {l m : List D} {q : Nat} (hq : q = N.length + T.length) : lstOf (.ref q) (N ++ (T ++ [.lst l, .lst m])) = some l := by
  subst hq; unfold lstOf; simp only [two1]
theorem lo2 {N T : Stor} {l m : List D} {q : Nat} (hq : q = N.length + T.length) : lstOf (.ref (q + 1)) (N ++ (T ++ [.lst l, .lst m])) = some m := by
  subst hq; unfold lstOf; simp only [two2]
theorem new2 {M : Stor} : (G.gCons (gLstM G.gNil) (G.gCons (gLstM G.gNil) G.gNil) : GA') Γ M = .ok [.ref M.length, .ref (M.length + 1)] (M ++ [.lst [], .lst []]) := by
  simp only [G.gCons, gLstM, G.gNil, R.bind_ok, List.length_nil, Nat.zero_le, if_true, List.length_append, List.length_cons, List.append_assoc, List.cons_append, List.nil_append]
def sizes : List D := [.int 0, .int 1, .int 2, .int 3, .int 5, .int 8]
theorem sizes_in {d : D} (h : d ∈ sizes) : ∃ n : Nat, d = .int n ∧ n ≤ 8 := by
  simp only [sizes, List.mem_cons, List.not_mem_nil, or_false] at h
  rcases h with rfl | rfl | rfl | rfl | rfl | rfl
  · exact ⟨0, rfl, by decide⟩
  · exact ⟨1, rfl, by decide⟩
  · exact ⟨2, rfl, by decide⟩
  · exact ⟨3, rfl, by decide⟩
  · exact ⟨5, rfl, by decide⟩
  · exact ⟨8, rfl, by decide⟩
theorem SL.sq' {x : D} {M : Stor} {l : List D} (h : SL x M l) : Sq x M l := h.sq
/-- the state of one round -/
structure St (N T : Stor) (k : Nat) (zs : List Int) (t : Nat) (os : List (Option Rat)) (xs : List D) : Prop where
  pen : Pen N k zs t
  fN : FirmS N
  fT : FirmS T
  vl : VL xs os
  hl : HL os
  fx : firmL xs = true
theorem St.len {N T : Stor} {k : Nat} {zs : List Int} {t : Nat} {os : List (Option Rat)} {xs : List D} (s : St N T k zs t os xs) : xs.length = os.length := s.vl.len
theorem St.step {N N' T : Stor} {k : Nat} {zs : List Int} {t t' : Nat} {os : List (Option Rat)} {xs : List D} (s : St N T k zs t os xs) (p : Stp N N' k zs t') : St N' T k zs t' os xs :=
  ⟨p.1, p.2.2.1 s.fN, s.fT, s.vl, s.hl, s.fx⟩
theorem St.put {N T : Stor} {k : Nat} {zs : List Int} {t : Nat} {os : List (Option Rat)} {xs : List D} (s : St N T k zs t os xs) {o : Option Rat} {x : D} (v : VE x o) (h : HbE 97 o) (f : x.firm = true) : St N T k zs t (os ++ [o]) (xs ++ [x]) :=
  ⟨s.pen, s.fN, s.fT, s.vl.app (.cons v .nil), s.hl.app (HL.one h), firmL_app s.fx (by simp only [firmL, f, Bool.and_self])⟩
theorem St.both {N T : Stor} {k : Nat} {zs : List Int} {t : Nat} {os : List (Option Rat)} {xs : List D} (s : St N T k zs t os xs) : FirmS (T ++ [.lst (os.map PQ), .lst xs]) := by
  refine s.fT.app fun m hm => ?_
  simp only [List.mem_cons, List.not_mem_nil, or_false] at hm
  rcases hm with rfl | rfl
  · exact ⟨_, rfl, firmL_P os⟩
  · exact ⟨_, rfl, s.fx⟩
noncomputable def inner : GS' := (gSeq (gAsg (ggTup 2 (ggCons (ggName 6) (ggCons (ggName 7) ggNil))) (gCall f__law_item (G.gCons (gVar 1) G.gNil)))
    (gSeq (gExpr (gMtL mAppend (gVar 3) (G.gCons (gVar 6) G.gNil)))
    (gSeq (gExpr (gMtL mAppend (gVar 4) (G.gCons (gVar 7) G.gNil)))
    (gIf (gTr truD (gBin dEq (gCall f__law_draw (G.gCons (gVar 1) (G.gCons (gC (.int 6)) G.gNil))) (gC (.int 0)))) (gSeq (gExpr (gMtL mAppend (gVar 3) (G.gCons (gVar 6) G.gNil)))
    (gExpr (gMtL mAppend (gVar 4) (G.gCons (gVar 7) G.gNil)))) gSkip))))
theorem inner_ok {N T : Stor} {k q : Nat} {zs : List Int} {t : Nat} {os : List (Option Rat)} {xs : List D} {s0 x2 x5 x6 x7 : Option D} (s : St N T k zs t os xs) (hq : q = N.length + T.length) (ht : t ≤ 1000) (ho : os.length ≤ 16) :
    ∃ N' t' os' xs' y6 y7, inner [s0, some (.ref k), x2, some (.ref q), some (.ref (q + 1)), x5, x6, x7] (N ++ (T ++ [.lst (os.map PQ), .lst xs])) = .nx [s0, some (.ref k), x2, some (.ref q), some (.ref (q + 1)), x5, y6, y7] (N' ++ (T ++ [.lst (os'.map PQ), .lst xs'])) ∧ St N' T k zs t' os' xs' ∧ N'.length = N.length ∧ t' ≤ t + 9 ∧ os'.length ≤ os.length + 2 := by
  have hx := s.len
  obtain ⟨o, x, t1, N1, e1, v, ho', fx, h1, p1⟩ := item_ok s.pen (T ++ [.lst (os.map PQ), .lst xs]) (by omega)
  have q1 : q = N1.length + T.length := by rw [p1.2.1]; exact hq
  have s1 := (s.step p1).put v ho' fx
  obtain ⟨r, t2, N2, e2, r0, r1, h2, p2⟩ := drawT (many := 6) p1.1 (T ++ [.lst ((os ++ [o]).map PQ), .lst (xs ++ [x])]) (by omega) (by decide) (by decide)
  have q2 : q = N2.length + T.length := by rw [p2.2.1]; exact q1
  have s2 := s1.step p2
  have a1 : mAppend (.ref q) [PQ o] (N1 ++ (T ++ [.lst (os.map PQ), .lst xs])) = .ok .non (N1 ++ (T ++ [.lst ((os ++ [o]).map PQ), .lst xs])) := by
    rw [List.map_append]; exact put1 q1 (by rw [List.length_map]; omega)
  have a2 : mAppend (.ref (q + 1)) [x] (N1 ++ (T ++ [.lst ((os ++ [o]).map PQ), .lst xs])) = .ok .non (N1 ++ (T ++ [.lst ((os ++ [o]).map PQ), .lst (xs ++ [x])])) := put2 q1 (by omega)
  have b1 : mAppend (.ref q) [PQ o] (N2 ++ (T ++ [.lst ((os ++ [o]).map PQ), .lst (xs ++ [x])])) = .ok .non (N2 ++ (T ++ [.lst ((os ++ [o] ++ [o]).map PQ), .lst (xs ++ [x])])) := by
    rw [List.map_append (l₁ := os ++ [o])]; exact put1 q2 (by simp; omega)
  have b2 : mAppend (.ref (q + 1)) [x] (N2 ++ (T ++ [.lst ((os ++ [o] ++ [o]).map PQ), .lst (xs ++ [x])])) = .ok .non (N2 ++ (T ++ [.lst ((os ++ [o] ++ [o]).map PQ), .lst (xs ++ [x] ++ [x])])) := put2 q2 (by simp; omega)
  have l1 : lstOf (.ref q) (N1 ++ (T ++ [.lst (os.map PQ), .lst xs])) = some (os.map PQ) := lo1 q1
  have l2 : lstOf (.ref (q + 1)) (N1 ++ (T ++ [.lst ((os ++ [o]).map PQ), .lst xs])) = some xs := lo2 q1
  have l3 : lstOf (.ref q) (N2 ++ (T ++ [.lst ((os ++ [o]).map PQ), .lst (xs ++ [x])])) = some ((os ++ [o]).map PQ) := lo1 q2
  have l4 : lstOf (.ref (q + 1)) (N2 ++ (T ++ [.lst ((os ++ [o] ++ [o]).map PQ), .lst (xs ++ [x])])) = some (xs ++ [x]) := lo2 q2
  have s3 := s2.put v ho' fx
  have len : N2.length = N.length := p2.2.1.trans p1.2.1
  by_cases c : r = 0
  · refine ⟨N2, t2, os ++ [o] ++ [o], xs ++ [x] ++ [x], some (PQ o), some x, ?_, s3, len, by omega, by simp⟩
    generalize (os ++ [o] ++ [o]).map PQ = A2 at *
    generalize (os ++ [o]).map PQ = A1 at *
    generalize os.map PQ = A0 at *
    generalize xs ++ [x] ++ [x] = B2 at *
    generalize xs ++ [x] = B1 at *
    generalize PQ o = po at *
    unfold inner
    rw [seq_nx (Γ1 := [s0, some (.ref k), x2, some (.ref q), some (.ref (q + 1)), x5, some po, some x]) (M1 := N1 ++ (T ++ [.lst A0, .lst xs])) (by simp only [gFn, gSeq, gSkip, gRet, gRetN, gExpr, gSet, gIf, gAug, gAsg, gPar2, gPar3, gVar, gC, gBin, gUn, gTr, gAnd, gOr, gNot, gAndV, gOrV, gNotV, gIfE, gCall, G.gCons, G.gNil, G.gTup, G.gLst, gLstM, gSl, goSome, goNone, R.bind_ok, R.bind_ex, R.bind_no, R.bindS_ok, R.bindS_ex, R.bindS_no, outS_nx, outS_rt, outS_ex, orR_ok, orR_ex, orR_no, ggName, ggSub, List.getElem?_cons_zero, List.getElem?_cons_succ, List.set_cons_zero, List.set_cons_succ, List.map_cons, List.map_nil, List.length_cons, List.length_nil, List.replicate, List.append_nil, List.nil_append, List.cons_append, Nat.reduceAdd, Nat.reduceSub, Nat.reduceLeDiff, Nat.reduceLT, if_true, if_false, not_false_eq_true, Bool.false_eq_true, Bool.true_eq_false, Bool.not_true, Bool.not_false, decide_true, decide_false, decide_eq_true_eq, reduceIte, reduceCtorEq, eAdd, eAddI, eSub, eLt, eLe, eGt, eGe, eEq, eNe, eEqS, eNeS, eTru, eNeg, eAbs, eInt, eIntB, eLenL, eLenT, e1, gg2])]
    simp only [gFn, gSeq, gSkip, gRet, gRetN, gExpr, gSet, gIf, gAug, gAsg, gPar2, gPar3, gVar, gC, gBin, gUn, gTr, gAnd, gOr, gNot, gAndV, gOrV, gNotV, gIfE, gCall, G.gCons, G.gNil, G.gTup, G.gLst, gLstM, gSl, goSome, goNone, R.bind_ok, R.bind_ex, R.bind_no, R.bindS_ok, R.bindS_ex, R.bindS_no, outS_nx, outS_rt, outS_ex, orR_ok, orR_ex, orR_no, ggName, ggSub, List.getElem?_cons_zero, List.getElem?_cons_succ, List.set_cons_zero, List.set_cons_succ, List.map_cons, List.map_nil, List.length_cons, List.length_nil, List.replicate, List.append_nil, List.nil_append, List.cons_append, Nat.reduceAdd, Nat.reduceSub, Nat.reduceLeDiff, Nat.reduceLT, if_true, if_false, not_false_eq_true, Bool.false_eq_true, Bool.true_eq_false, Bool.not_true, Bool.not_false, decide_true, decide_false, decide_eq_true_eq, reduceIte, reduceCtorEq, eAdd, eAddI, eSub, eLt, eLe, eGt, eGe, eEq, eNe, eEqS, eNeS, eTru, eNeg, eAbs, eInt, eIntB, eLenL, eLenT, gMtL, l1, l2, l3, l4, a1, a2, e2, decide_eq_true c, b1, b2]
  · refine ⟨N2, t2, os ++ [o], xs ++ [x], some (PQ o), some x, ?_, s2, len, by omega, by simp⟩
    generalize (os ++ [o] ++ [o]).map PQ = A2 at *
    generalize (os ++ [o]).map PQ = A1 at *
    generalize os.map PQ = A0 at *
    generalize xs ++ [x] = B1 at *
    generalize PQ o = po at *
    unfold inner
    rw [seq_nx (Γ1 := [s0, some (.ref k), x2, some (.ref q), some (.ref (q + 1)), x5, some po, some x]) (M1 := N1 ++ (T ++ [.lst A0, .lst xs])) (by simp only [gFn, gSeq, gSkip, gRet, gRetN, gExpr, gSet, gIf, gAug, gAsg, gPar2, gPar3, gVar, gC, gBin, gUn, gTr, gAnd, gOr, gNot, gAndV, gOrV, gNotV, gIfE, gCall, G.gCons, G.gNil, G.gTup, G.gLst, gLstM, gSl, goSome, goNone, R.bind_ok, R.bind_ex, R.bind_no, R.bindS_ok, R.bindS_ex, R.bindS_no, outS_nx, outS_rt, outS_ex, orR_ok, orR_ex, orR_no, ggName, ggSub, List.getElem?_cons_zero, List.getElem?_cons_succ, List.set_cons_zero, List.set_cons_succ, List.map_cons, List.map_nil, List.length_cons, List.length_nil, List.replicate, List.append_nil, List.nil_append, List.cons_append, Nat.reduceAdd, Nat.reduceSub, Nat.reduceLeDiff, Nat.reduceLT, if_true, if_false, not_false_eq_true, Bool.false_eq_true, Bool.true_eq_false, Bool.not_true, Bool.not_false, decide_true, decide_false, decide_eq_true_eq, reduceIte, reduceCtorEq, eAdd, eAddI, eSub, eLt, eLe, eGt, eGe, eEq, eNe, eEqS, eNeS, eTru, eNeg, eAbs, eInt, eIntB, eLenL, eLenT, e1, gg2])]
    simp only [gFn, gSeq, gSkip, gRet, gRetN, gExpr, gSet, gIf, gAug, gAsg, gPar2, gPar3, gVar, gC, gBin, gUn, gTr, gAnd, gOr, gNot, gAndV, gOrV, gNotV, gIfE, gCall, G.gCons, G.gNil, G.gTup, G.gLst, gLstM, gSl, goSome, goNone, R.bind_ok, R.bind_ex, R.bind_no, R.bindS_ok, R.bindS_ex, R.bindS_no, outS_nx, outS_rt, outS_ex, orR_ok, orR_ex, orR_no, ggName, ggSub, List.getElem?_cons_zero, List.getElem?_cons_succ, List.set_cons_zero, List.set_cons_succ, List.map_cons, List.map_nil, List.length_cons, List.length_nil, List.replicate, List.append_nil, List.nil_append, List.cons_append, Nat.reduceAdd, Nat.reduceSub, Nat.reduceLeDiff, Nat.reduceLT, if_true, if_false, not_false_eq_true, Bool.false_eq_true, Bool.true_eq_false, Bool.not_true, Bool.not_false, decide_true, decide_false, decide_eq_true_eq, reduceIte, reduceCtorEq, eAdd, eAddI, eSub, eLt, eLe, eGt, eGe, eEq, eNe, eEqS, eNeS, eTru, eNeg, eAbs, eInt, eIntB, eLenL, eLenT, gMtL, l1, l2, l3, l4, a1, a2, e2, c]
end K05

namespace K05
open PySem L2 G
/-! ### the law -/
theorem frz_nil {M : Stor} {r : Bool} (lw : LowS M) : ∃ M', frz [] (.ok (.bl r) M) = .ok (.bl r) M' := by
  unfold frz
  by_cases e : M.length = ([] : Stor).length
  · exact ⟨M, by simp only [e, if_true]⟩
  · have kp : Kept [] M := .inl (by simp)
    exact ⟨M.take ([] : Stor).length, by simp only [e, if_false, kp, if_true, frzD]⟩
theorem law_ok (zs : List Int) (hz : zs.length ≤ 63) : ∃ M, f_law [.lck (zs.map D.int)] [] = .ok (.bl true) M := by
  obtain ⟨M1, k, e1, p1, f1⟩ := penD zs hz
  suffices ∃ M, b_law [some (.lck (zs.map D.int)), none, none, none, none, none, none, none] [] = .rt (.bl true) M ∧ FirmS M by
    obtain ⟨M, h, hf⟩ := this
    obtain ⟨M', e⟩ := frz_nil (r := true) hf.low
    refine ⟨M', ?_⟩
    show frz [] (gFn 1 8 b_law [.lck (zs.map D.int)] []) = _
    rw [show gFn 1 8 b_law [.lck (zs.map D.int)] [] = .ok (.bl true) M from fn_rt rfl h, e]
  unfold b_law
  rw [seq_nx (Γ1 := [some (.lck (zs.map D.int)), some (.ref k), none, none, none, none, none, none]) (M1 := M1) (by simp only [gFn, gSeq, gSkip, gRet, gRetN, gExpr, gSet, gIf, gAug, gAsg, gPar2, gPar3, gVar, gC, gBin, gUn, gTr, gAnd, gOr, gNot, gAndV, gOrV, gNotV, gIfE, gCall, G.gCons, G.gNil, G.gTup, G.gLst, gLstM, gSl, goSome, goNone, R.bind_ok, R.bind_ex, R.bind_no, R.bindS_ok, R.bindS_ex, R.bindS_no, outS_nx, outS_rt, outS_ex, orR_ok, orR_ex, orR_no, ggName, ggSub, List.getElem?_cons_zero, List.getElem?_cons_succ, List.set_cons_zero, List.set_cons_succ, List.map_cons, List.map_nil, List.length_cons, List.length_nil, List.replicate, List.append_nil, List.nil_append, List.cons_append, Nat.reduceAdd, Nat.reduceSub, Nat.reduceLeDiff, Nat.reduceLT, if_true, if_false, not_false_eq_true, Bool.false_eq_true, Bool.true_eq_false, Bool.not_true, Bool.not_false, decide_true, decide_false, decide_eq_true_eq, reduceIte, reduceCtorEq, eAdd, eAddI, eSub, eLt, eLe, eGt, eGe, eEq, eNe, eEqS, eNeS, eTru, eNeg, eAbs, eInt, eIntB, eLenL, eLenT, e1])]
  generalize D.lck (zs.map D.int) = s0
  refine for_range (P := fun r => ∃ M, r = .rt (.bl true) M ∧ FirmS M) 6 (fun n Γ M => ∃ x2 x3 x4 x5 x6 x7 t N T, M = N ++ T ∧ FirmS N ∧ FirmS T ∧ Γ = [some s0, some (.ref k), x2, x3, x4, x5, x6, x7] ∧ Pen N k zs t ∧ t ≤ 90 * n) (by decide) rfl ⟨_, _, _, _, _, _, 0, M1, [], by simp, f1, fun m hm => by simp at hm, rfl, p1, by omega⟩ ?_ ?_
  · rintro j Γ _ d hj ⟨x2, x3, x4, x5, x6, x7, t, N, T, rfl, fN, fT, rfl, pn, ht⟩
    refine ⟨[some s0, some (.ref k), some d, x3, x4, x5, x6, x7], N ++ T, ?_⟩
    suffices ∃ Γ2 M2, ∃ y3 y4 y5 y6 y7 t' N' T', (gSeq (gPar2 3 4 (G.gCons (gLstM G.gNil) (G.gCons (gLstM G.gNil) G.gNil))) _ : GS') [some s0, some (.ref k), some d, x3, x4, x5, x6, x7] (N ++ T) = .nx Γ2 M2 ∧ M2 = N' ++ T' ∧ FirmS N' ∧ FirmS T' ∧ Γ2 = [some s0, some (.ref k), some d, y3, y4, y5, y6, y7] ∧ Pen N' k zs t' ∧ t' ≤ t + 90 by
      obtain ⟨Γ2, M2, y3, y4, y5, y6, y7, t', N', T', e, em, fN', fT', eg, pn', ht'⟩ := this
      exact ⟨Γ2, M2, rfl, e, some d, y3, y4, y5, y6, y7, t', N', T', em, fN', fT', eg, pn', by omega⟩
    obtain ⟨q, hq⟩ : ∃ q, q = N.length + T.length := ⟨_, rfl⟩
    have n2 := new2 (Γ := [some s0, some (.ref k), some d, x3, x4, x5, x6, x7]) (M := N ++ T)
    rw [List.append_assoc, List.length_append, ← hq] at n2
    rw [seq_nx (Γ1 := [some s0, some (.ref k), some d, some (.ref q), some (.ref (q + 1)), x5, x6, x7]) (M1 := N ++ (T ++ [.lst [], .lst []])) (by
      unfold gPar2
      rw [n2, R.bindS_ok]
      rfl)]
    obtain ⟨dn, t1, N1, e2, md, h1, p2⟩ := pickT (l := sizes) pn (T ++ [.lst [], .lst []]) (by omega) (by show 0 < 6; decide) (by show 6 < 1000; decide)
    obtain ⟨n, rfl, hn⟩ := sizes_in md
    unfold sizes at e2
    have s0' : St N1 T k zs t1 [] [] := ⟨p2.1, p2.2.2.1 fN, fT, .nil, fun o ho => by simp at ho, rfl⟩
    have q1 : q = N1.length + T.length := by rw [p2.2.1]; exact hq
    refine for_range (P := fun r => ∃ Γ2 M2, ∃ y3 y4 y5 y6 y7 t' N' T', r = .nx Γ2 M2 ∧ M2 = N' ++ T' ∧ FirmS N' ∧ FirmS T' ∧ Γ2 = [some s0, some (.ref k), some d, y3, y4, y5, y6, y7] ∧ Pen N' k zs t' ∧ t' ≤ t + 90) (M1 := N1 ++ (T ++ [.lst [], .lst []])) n
      (fun j Γ M => ∃ N2 t2 os xs y5 y6 y7, M = N2 ++ (T ++ [.lst (os.map PQ), .lst xs]) ∧ Γ = [some s0, some (.ref k), some d, some (.ref q), some (.ref (q + 1)), y5, y6, y7] ∧ St N2 T k zs t2 os xs ∧ q = N2.length + T.length ∧ t2 ≤ t + 1 + 9 * j ∧ os.length ≤ 2 * j) (by omega)
      (by simp only [gFn, gSeq, gSkip, gRet, gRetN, gExpr, gSet, gIf, gAug, gAsg, gPar2, gPar3, gVar, gC, gBin, gUn, gTr, gAnd, gOr, gNot, gAndV, gOrV, gNotV, gIfE, gCall, G.gCons, G.gNil, G.gTup, G.gLst, gLstM, gSl, goSome, goNone, R.bind_ok, R.bind_ex, R.bind_no, R.bindS_ok, R.bindS_ex, R.bindS_no, outS_nx, outS_rt, outS_ex, orR_ok, orR_ex, orR_no, ggName, ggSub, List.getElem?_cons_zero, List.getElem?_cons_succ, List.set_cons_zero, List.set_cons_succ, List.map_cons, List.map_nil, List.length_cons, List.length_nil, List.replicate, List.append_nil, List.nil_append, List.cons_append, Nat.reduceAdd, Nat.reduceSub, Nat.reduceLeDiff, Nat.reduceLT, if_true, if_false, not_false_eq_true, Bool.false_eq_true, Bool.true_eq_false, Bool.not_true, Bool.not_false, decide_true, decide_false, decide_eq_true_eq, reduceIte, reduceCtorEq, eAdd, eAddI, eSub, eLt, eLe, eGt, eGe, eEq, eNe, eEqS, eNeS, eTru, eNeg, eAbs, eInt, eIntB, eLenL, eLenT, e2]) ⟨N1, t1, [], [], x5, x6, x7, rfl, rfl, s0', q1, by omega, by simp⟩ ?_ ?_
    · rintro i Γ _ di hi ⟨N2, t2, os, xs, y5, y6, y7, rfl, rfl, s2, q2, h2, ho⟩
      obtain ⟨N3, t3, os', xs', y6', y7', e3, s3, l3, h3, ho3⟩ := inner_ok (s0 := some s0) (x2 := some d) (x5 := some di) (x6 := y6) (x7 := y7) s2 q2 (by omega) (by omega)
      unfold inner at e3
      refine ⟨[some s0, some (.ref k), some d, some (.ref q), some (.ref (q + 1)), some di, y6, y7], N2 ++ (T ++ [.lst (os.map PQ), .lst xs]), ?_, ?_, rfl, ?_, ?_⟩
      rotate_left 2
      · exact e3
      · exact ⟨N3, t3, os', xs', some di, y6', y7', rfl, rfl, s3, by rw [l3]; exact q2, by omega, by omega⟩
    · rintro Γ _ ⟨N2, t2, os, xs, y5, y6, y7, rfl, rfl, s2, q2, h2, ho⟩
      have gq1 : (N2 ++ (T ++ [.lst (os.map PQ), .lst xs]))[q]? = some (.lst (os.map PQ)) := by rw [q2]; exact two1 _ _ _ _
      have gq2 : (N2 ++ (T ++ [.lst (os.map PQ), .lst xs]))[q + 1]? = some (.lst xs) := by rw [q2]; exact two2 _ _ _ _
      have r1 := right_ok (px := .ref q) (x := .ref (q + 1)) (.inr ⟨q, rfl, gq1⟩) (.inr ⟨q + 1, rfl, gq2⟩) s2.vl s2.hl (by omega)
      obtain ⟨N3, t3, b1, h3, p3⟩ := bent_ok s2.pen (by omega) s2.fN s2.both gq2 s2.vl (by omega)
      refine ⟨[some s0, some (.ref k), some d, some (.ref q), some (.ref (q + 1)), y5, y6, y7], N3 ++ (T ++ [.lst (os.map PQ), .lst xs]), some (.ref q), some (.ref (q + 1)), y5, y6, y7, t3, N3, _, ?_, rfl, p3.2.2.1 s2.fN, s2.both, rfl, p3.1, by omega⟩
      simp only [gFn, gSeq, gSkip, gRet, gRetN, gExpr, gSet, gIf, gAug, gAsg, gPar2, gPar3, gVar, gC, gBin, gUn, gTr, gAnd, gOr, gNot, gAndV, gOrV, gNotV, gIfE, gCall, G.gCons, G.gNil, G.gTup, G.gLst, gLstM, gSl, goSome, goNone, R.bind_ok, R.bind_ex, R.bind_no, R.bindS_ok, R.bindS_ex, R.bindS_no, outS_nx, outS_rt, outS_ex, orR_ok, orR_ex, orR_no, ggName, ggSub, List.getElem?_cons_zero, List.getElem?_cons_succ, List.set_cons_zero, List.set_cons_succ, List.map_cons, List.map_nil, List.length_cons, List.length_nil, List.replicate, List.append_nil, List.nil_append, List.cons_append, Nat.reduceAdd, Nat.reduceSub, Nat.reduceLeDiff, Nat.reduceLT, if_true, if_false, not_false_eq_true, Bool.false_eq_true, Bool.true_eq_false, Bool.not_true, Bool.not_false, decide_true, decide_false, decide_eq_true_eq, reduceIte, reduceCtorEq, eAdd, eAddI, eSub, eLt, eLe, eGt, eGe, eEq, eNe, eEqS, eNeS, eTru, eNeg, eAbs, eInt, eIntB, eLenL, eLenT, r1, b1]
  · rintro Γ _ ⟨x2, x3, x4, x5, x6, x7, t, N, T, rfl, fN, fT, rfl, pn, ht⟩
    have r := right_ok (px := .lst []) (x := .lst []) (M := N ++ T) (os := []) (.inl rfl) (.inl rfl) .nil (fun o ho => by simp at ho) (by decide)
    exact ⟨N ++ T, by simp only [gFn, gSeq, gSkip, gRet, gRetN, gExpr, gSet, gIf, gAug, gAsg, gPar2, gPar3, gVar, gC, gBin, gUn, gTr, gAnd, gOr, gNot, gAndV, gOrV, gNotV, gIfE, gCall, G.gCons, G.gNil, G.gTup, G.gLst, gLstM, gSl, goSome, goNone, R.bind_ok, R.bind_ex, R.bind_no, R.bindS_ok, R.bindS_ex, R.bindS_no, outS_nx, outS_rt, outS_ex, orR_ok, orR_ex, orR_no, ggName, ggSub, List.getElem?_cons_zero, List.getElem?_cons_succ, List.set_cons_zero, List.set_cons_succ, List.map_cons, List.map_nil, List.length_cons, List.length_nil, List.replicate, List.append_nil, List.nil_append, List.cons_append, Nat.reduceAdd, Nat.reduceSub, Nat.reduceLeDiff, Nat.reduceLT, if_true, if_false, not_false_eq_true, Bool.false_eq_true, Bool.true_eq_false, Bool.not_true, Bool.not_false, decide_true, decide_false, decide_eq_true_eq, reduceIte, reduceCtorEq, eAdd, eAddI, eSub, eLt, eLe, eGt, eGe, eEq, eNe, eEqS, eNeS, eTru, eNeg, eAbs, eInt, eIntB, eLenL, eLenT, r], fN.app fT⟩
theorem holds : PySem.Challenge.rw_sixasone_k05_totals_greatest_least.Holds := whole law_ok
end K05

theorem PySem.Challenge.cw_sixasone_k05_totals_greatest_least_holds : PySem.Challenge.rw_sixasone_k05_totals_greatest_least.Holds := by
  exact K05.holds
